import PyProof.Rows.All
import Wide.All
import OpenK.AllK
import Wide.FinOn
import HandS.Base
import HandS.Call
import HandS.List
import HandS.Dict
import HandS.Iter
import HandS.More
import HandS.Conv
import HandS.SetFor
import KE.KeyNested
import KE.KDictKeyed
import KE.KDictList
import KE.KDictCopyH
import KE.DataFind
import KE.SortData
import HandS.TupSets
import HandS.Strs
import PyProof.WalksMore
import HandS.Style
import KE.KRevSl
import HandS.Text
import KE.LtData
import KE.DataCmp
import HandS.Exc
import HandS.ExcOwn
import HandS.Comp
import HandS.TupAny
import HandS.TupMul
import HandS.Words
import HandS.WordsExc
import HandS.IsInst
import KE.DataEq
import KE.DataIsa
import HandS.HeadHook1
import HandS.HeadHook4
import HandS.Lambda
import HandS.ExcIs
import PyProof.ExcBaseAll.ValueError
import HandS.Defaults
import HandS.EndTab
import KE.KStateDown
import HandS.Ends
import HandS.Head0
import HandS.Head1
import HandS.Head2
import HandS.HeadEnd
import HandS.HeadHook2
import HandS.HeadHook3
import PySem.Challenge.RW_queryheld_k08_whole_profiles
set_option Elab.async false
set_option linter.all false
set_option maxRecDepth 100000
set_option maxHeartbeats 0
/-! Dicts with tuple keys that may hold None, over the hand layer. -/
namespace Qh
open PySem PySem.Spec PyProof.Rows L2
mutual
def ntK : NestedKey → Bool
  | .none => true
  | .num _ => true
  | .text _ => false
  | .tup ks => ntKs ks
def ntKs : List NestedKey → Bool
  | [] => true
  | k :: ks => ntK k && ntKs ks
end
mutual
def hash0 : NestedKey → Int
  | .none => reduceHash 0xFCA86420
  | .num i => hashInt i
  | .text _ => 0
  | .tup ks => reduceHash (Builtin.Tuple.tupleHashOf (hashes0 ks))
def hashes0 : List NestedKey → List Int
  | [] => []
  | k :: ks => hash0 k :: hashes0 ks
end
mutual
theorem hash0_eq (w : World) : ∀ k : NestedKey, ntK k = true → NestedKey.hash w k = hash0 k
  | .none, _ => by simp only [NestedKey.hash, hash0]
  | .num i, _ => by simp only [NestedKey.hash, hash0]
  | .text _, h => by simp only [ntK] at h; cases h
  | .tup ks, h => by
    simp only [ntK] at h
    simp only [NestedKey.hash, hash0, hashes0_eq w ks h]
theorem hashes0_eq (w : World) : ∀ ks : List NestedKey, ntKs ks = true → NestedKey.hashes w ks = hashes0 ks
  | [], _ => by simp only [NestedKey.hashes, hashes0]
  | k :: ks, h => by
    simp only [ntKs, Bool.and_eq_true] at h
    simp only [NestedKey.hashes, hashes0, hash0_eq w k h.1, hashes0_eq w ks h.2]
end
mutual
def KeyV (K : PySem.W.Frag) (H : Hp) : NestedKey → V → Prop
  | .none, v => v = .non
  | .num i, v => v = .int i
  | .text x, v => v = .str x
  | .tup ks, v => ∃ a vs, v = .ref a ∧ SqT K H a vs ∧ KeyVs K H ks vs
def KeyVs (K : PySem.W.Frag) (H : Hp) : List NestedKey → List V → Prop
  | [], vs => vs = []
  | k :: ks, vs => ∃ v r, vs = v :: r ∧ KeyV K H k v ∧ KeyVs K H ks r
end
section
variable {X : Cx} {pins : List (Addr × Obj)} {σ : L2.St} {H : Hp} {s : Shared}
mutual
theorem KeyV.is_ (I : Inv X pins σ H s) : ∀ (k : NestedKey) (v : V) (u : Value), KeyV X.K H k v → RelV v u → NestedIs s.heap k u
  | .none, v, u, h, r => by
    simp only [KeyV] at h; subst h
    cases (show u = Value.none from r)
    exact .none
  | .num i, v, u, h, r => by
    simp only [KeyV] at h; subst h
    obtain ⟨t, rfl⟩ := r
    exact .int i t
  | .text x, v, u, h, r => by
    simp only [KeyV] at h; subst h
    obtain ⟨t, rfl⟩ := r
    exact .text x t
  | .tup ks, v, u, h, r => by
    simp only [KeyV] at h
    obtain ⟨a, vs, rfl, t, q⟩ := h
    cases (show u = Value.ref a from r)
    obtain ⟨its, rv, ⟨o, ho, hc, n, hd⟩, _⟩ := I.tuple t
    exact .tup ho hc hd (by simpa using KeyVs.is_ I ks vs its q rv)
theorem KeyVs.is_ (I : Inv X pins σ H s) : ∀ (ks : List NestedKey) (vs : List V) (us : List Value), KeyVs X.K H ks vs → Vals vs us → NestedAll s.heap ks us
  | [], vs, us, h, r => by
    simp only [KeyVs] at h; subst h
    cases r
    exact .nil
  | k :: ks, vs, us, h, r => by
    simp only [KeyVs] at h
    obtain ⟨v, w, rfl, h1, h2⟩ := h
    cases r with
    | cons r1 r2 => exact .cons (KeyV.is_ I k v _ h1 r1) (KeyVs.is_ I ks w _ h2 r2)
end
end
/-! ### the raw dict -/
abbrev XE := NestedKey × Addr × Value
def ent0 (x : XE) : DictEntry := ⟨hash0 x.1, .ref x.2.1, x.2.2⟩
def RawX (a : Addr) (xs : List XE) (ep : Nat) (h : Heap) : Prop := ∃ o es, h.get? a = some o ∧ o.ExactDict ∧ o.data = .dict es ep ∧ es.toList = xs.map ent0
theorem ent0_eq {P : Program} {w : World} {xs : List XE} (h : ∀ x ∈ xs, ntK x.1 = true) : xs.map ent0 = xs.map (entryOfKey (nestedKind P w)) := by
  refine List.map_congr_left fun x hx => ?_
  unfold ent0 entryOfKey
  rw [show (nestedKind P w).hash x.1 = NestedKey.hash w x.1 from rfl, hash0_eq w x.1 (h x hx)]
/-- an object of the abstract heap: the dict at a -/
abbrev hoX (a : Addr) (xs : List XE) (ep : Nat) : HO := .ext (RawX a xs ep)
/-- at a stands the dict of the entries xs -/
structure DX (K : PySem.W.Frag) (H : Hp) (a : Addr) (xs : List XE) : Prop where
  at_ : ∃ ep, H a = some (hoX a xs ep)
  keys : ∀ x ∈ xs, KeyV K H x.1 (.ref x.2.1) ∧ ntK x.1 = true ∧ x.1.depth ≤ 8
  nd : (xs.map (·.1)).Nodup
  low : (a == sysModules) = false
  len : xs.length ≤ sizeLine
section
variable {X : Cx} {pins : List (Addr × Obj)} {σ : L2.St} {H : Hp} {s : Shared} {a : Addr} {xs : List XE}
theorem DX.raw (D : DX X.K H a xs) (I : Inv X pins σ H s) : s.heap.DictOfH (nestedKind X.prog X.w) a xs := by
  obtain ⟨ep, e⟩ := D.at_
  obtain ⟨⟨o, es, h1, h2, h3, h4⟩, _⟩ := I.hok a _ e
  refine ⟨o, es, ep, h1, h2, h3, by rw [h4]; exact ent0_eq fun x hx => (D.keys x hx).2.1, fun x hx => ?_, D.nd⟩
  obtain ⟨k1, k2, k3⟩ := D.keys x hx
  exact ⟨KeyV.is_ I x.1 _ _ k1 rfl, k3⟩
theorem room8 {A : Around} (hu : A.units + 64 < cLine) : (nestedKind X.prog X.w).room A.in1 := by
  show A.units + 1 + 8 < cLine
  omega
/-- the value at a key -/
def valX (xs : List XE) (k : NestedKey) : Option Value := (atKey xs k).map (·.2)
theorem key_is (I : Inv X pins σ H s) {k : NestedKey} {b : Addr} (hk : KeyV X.K H k (.ref b)) (hd : k.depth ≤ 8) : (nestedKind X.prog X.w).is s.heap k b := ⟨KeyV.is_ I k _ _ hk rfl, hd⟩
/-- d[y] -/
theorem dx_get {A : Around} {E : Value → Shared → Prop} {Q : Value → Shared → Prop} (hu : A.units + 64 < cLine) (D : DX X.K H a xs) (I : Inv X pins σ H s) {k : NestedKey} {b : Addr} {v : Value} (hk : KeyV X.K H k (.ref b)) (hd : k.depth ≤ 8) (hv : valX xs k = some v)
    (h : ∀ s', Inv X pins σ H s' → Q v s') : wpAny (model X.prog X.w) A (getItem (.ref a) (.ref b)) Q E s := by
  obtain ⟨p, hp, rfl⟩ := Option.map_eq_some_iff.mp hv
  exact wpAny_getItem_heap (room8 hu) (key_is I hk hd) (D.raw I) hp (h _ (I.tok _))
theorem dx_get2 {A : Around} {E : Value → Shared → Prop} {Q : Value → Shared → Prop} (hu : A.units + 64 < cLine) (D : DX X.K H a xs) (I : Inv X pins σ H s) {k : NestedKey} {b : Addr} {r : Value} (hk : KeyV X.K H k (.ref b)) (hd : k.depth ≤ 8)
    (h : ∀ s', Inv X pins σ H s' → Q ((valX xs k).getD r) s') : wpAny (model X.prog X.w) A (call (.builtin "dict.get") [.ref a, .ref b, r]) Q E s := by
  refine call_meetsIn PySem.F.slot_dict_get (D.raw I).typeIs PySem.F.entry_dict_get (PySem.F.args_dict_get_3 _ _ _) (meetsH_dict_get_default (nestedKind X.prog X.w) a b D.low r) ⟨room8 hu, k, xs, key_is I hk hd, D.raw I, h _ (I.tok _)⟩
theorem dx_type (D : DX X.K H a xs) (I : Inv X pins σ H s) : s.TypeIs (.ref a) "dict" ∧ ∀ b, Value.ref a = .ref b → ∃ ob, s.heap.get? b = some ob ∧ ob.dict = none := by
  refine ⟨(D.raw I).typeIs, fun b q => ?_⟩
  cases q
  obtain ⟨o, es, ep, h1, h2, _⟩ := D.raw I
  exact ⟨o, h1, h2.2.1⟩
theorem storedH_mem {k : NestedKey} {b : Addr} {v : Value} : ∀ {xs : List XE} {x : XE}, x ∈ storedH xs k b v → (∃ y ∈ xs, y.1 = x.1 ∧ y.2.1 = x.2.1) ∨ (x = (k, b, v)) := by
  intro xs x h
  unfold storedH at h
  split at h
  · obtain ⟨y, hy, e⟩ := List.mem_map.mp h
    refine .inl ⟨y, hy, ?_⟩
    unfold putAt at e
    split at e <;> (subst e; exact ⟨rfl, rfl⟩)
  · rcases List.mem_append.mp h with h | h
    · exact .inl ⟨x, h, rfl, rfl⟩
    · exact .inr (by simpa using h)
theorem storedH_len (xs : List XE) (k : NestedKey) (b : Addr) (v : Value) : (storedH xs k b v).length ≤ xs.length + 1 := by
  unfold storedH
  split
  · rw [List.length_map]; omega
  · simp
mutual
theorem KeyV.upd {K : PySem.W.Frag} {H : Hp} {a : Addr} {o u : HO} (hu : H a = some u) (nt : ∀ vs, u ≠ .tup vs) (nf : ∀ ob w, u ≠ .frz ob w) : ∀ (k : NestedKey) (v : V), KeyV K H k v → KeyV K (upd H a o) k v
  | .none, v, h => by simpa only [KeyV] using h
  | .num i, v, h => by simpa only [KeyV] using h
  | .text x, v, h => by simpa only [KeyV] using h
  | .tup ks, v, h => by
    simp only [KeyV] at h ⊢
    obtain ⟨b, vs, e, t, q⟩ := h
    refine ⟨b, vs, e, ?_, KeyVs.upd hu nt nf ks vs q⟩
    rcases t with (t | ⟨ob, t⟩) | t
    · exact .inl (.inl (by rw [upd_ne (ne_of t hu (fun z => nt vs z.symm))]; exact t))
    · exact .inl (.inr ⟨ob, by rw [upd_ne (ne_of t hu (fun z => nf _ _ z.symm))]; exact t⟩)
    · exact .inr t
theorem KeyVs.upd {K : PySem.W.Frag} {H : Hp} {a : Addr} {o u : HO} (hu : H a = some u) (nt : ∀ vs, u ≠ .tup vs) (nf : ∀ ob w, u ≠ .frz ob w) : ∀ (ks : List NestedKey) (vs : List V), KeyVs K H ks vs → KeyVs K (upd H a o) ks vs
  | [], vs, h => by simpa only [KeyVs] using h
  | k :: ks, vs, h => by
    simp only [KeyVs] at h ⊢
    obtain ⟨v, r, e, h1, h2⟩ := h
    exact ⟨v, r, e, KeyV.upd hu nt nf k v h1, KeyVs.upd hu nt nf ks r h2⟩
end
theorem hoX_nt {a : Addr} {xs : List XE} {ep : Nat} : (∀ vs, hoX a xs ep ≠ .tup vs) ∧ ∀ ob w, hoX a xs ep ≠ .frz ob w := ⟨(fun _ z => nomatch z), (fun _ _ z => nomatch z)⟩
theorem raw_ok {P : Program} {w : World} {H : Hp} {h : Heap} {a : Addr} {xs : List XE} {ep : Nat} (r : RawX a xs ep h) : ObjOk P w H h a (hoX a xs ep) := by
  refine ⟨r, ?_, fun h1 h2 q k => ?_⟩
  · obtain ⟨o, es, e, _⟩ := r
    exact ⟨o, e⟩
  · obtain ⟨o, es, e, z⟩ := q
    exact ⟨o, es, k o e, z⟩
/-- d[y] = v -/
theorem dx_set {A : Around} {E : Value → Shared → Prop} {Q : Unit → Shared → Prop} (hu : A.units + 64 < cLine) (D : DX X.K H a xs) (I : Inv X pins σ H s) {k : NestedKey} {b : Addr} {u : Value} (hk : KeyV X.K H k (.ref b)) (hd : k.depth ≤ 8) (hn : ntK k = true) (hl : xs.length < sizeLine)
    (h : ∀ s' ep, DX X.K (upd H a (hoX a (storedH xs k b u) ep)) a (storedH xs k b u) → Inv X pins σ (upd H a (hoX a (storedH xs k b u) ep)) s' → Q () s') : wpAny (model X.prog X.w) A (setItem (.ref a) (.ref b) u) Q E s := by
  refine wpAny_setItem_heap (hsz := Nat.le_of_lt hl) (room8 hu) (key_is I hk hd) (D.raw I) fun h' hm' hs => ?_
  obtain ⟨ep0, e0⟩ := D.at_
  obtain ⟨o, es, ep, h1, h2, h3, h4, h5, h6⟩ := hm'
  have key : ∀ x ∈ storedH xs k b u, KeyV X.K H x.1 (.ref x.2.1) ∧ ntK x.1 = true ∧ x.1.depth ≤ 8 := fun x hx => by
    rcases storedH_mem hx with ⟨y, hy, e1, e2⟩ | rfl
    · rw [← e1, ← e2]; exact D.keys y hy
    · exact ⟨hk, hn, hd⟩
  have r : RawX a (storedH xs k b u) ep h' := ⟨o, es, h1, h2, h3, by rw [h4]; exact (ent0_eq fun x hx => (key x hx).2.1).symm⟩
  have I' := d_write (t' := s.toks + (nestedKind X.prog X.w).draws k) I (by rw [e0]; exact True.intro) hs ⟨o, h1⟩ (raw_ok (P := X.prog) (w := X.w) (H := upd H a (hoX a (storedH xs k b u) ep)) r)
  refine h _ ep ⟨⟨ep, upd_same⟩, fun x hx => ?_, h6, D.low, ?_⟩ I'
  · obtain ⟨k1, k2⟩ := key x hx
    exact ⟨KeyV.upd e0 hoX_nt.1 hoX_nt.2 _ _ k1, k2⟩
  · have := storedH_len xs k b u
    omega
/-- {} -/
theorem pe_dnewX {pos : Pos} : PE X (.Dict [] [] pos) (fun _ H Q => ∀ p, H p = none → (p == sysModules) = false → Q (.ref p) (upd H p (hoX p [] 0))) := ⟨fun pins s σ H Q I h =>
  wpAny_Dict_empty ⟨.ref s.heap.objs.size, _, I.laid (a := s.heap.objs.size) (o := hoX s.heap.objs.size [] 0) (t' := s.toks) (fun _ _ q => Heap.get?_push_of_some _ q) (Nat.le_refl _)
    (raw_ok ⟨_, #[], Heap.get?_push_size _ rfl, ⟨rfl, rfl, rfl⟩, rfl, rfl⟩), rfl, h _ (I.hok.fresh (Nat.le_refl _)) (beq_eq_false_iff_ne.mpr (Ne.symm (Nat.ne_of_lt I.big)))⟩⟩
end
end Qh

/-! Sorting, counting, dicts walked, over the hand layer. -/
namespace Qh
open PySem PySem.Spec PyProof.Rows L2
/-! ### a sort by insertion -/
section
variable {α β : Type}
def ins (le : α → α → Bool) (a : α) : List α → List α
  | [] => [a]
  | b :: l => if le a b = true then a :: b :: l else b :: ins le a l
def isort (le : α → α → Bool) : List α → List α
  | [] => []
  | a :: l => ins le a (isort le l)
theorem ins_mem {le : α → α → Bool} {a x : α} : ∀ {l : List α}, x ∈ ins le a l ↔ x = a ∨ x ∈ l
  | [] => by simp [ins]
  | b :: l => by
    unfold ins
    split
    · simp
    · simp only [List.mem_cons, ins_mem (l := l)]
      constructor
      · rintro (h | h | h)
        · exact .inr (.inl h)
        · exact .inl h
        · exact .inr (.inr h)
      · rintro (h | h | h)
        · exact .inr (.inl h)
        · exact .inl h
        · exact .inr (.inr h)
theorem isort_mem {le : α → α → Bool} {x : α} : ∀ {l : List α}, x ∈ isort le l ↔ x ∈ l
  | [] => by simp [isort]
  | a :: l => by
    unfold isort
    rw [ins_mem, isort_mem (l := l), List.mem_cons]
theorem ins_sorted {le : α → α → Bool} (T : PySem.W.TotalLe le) {a : α} : ∀ {l : List α}, l.Pairwise (fun a b => le a b = true) → (ins le a l).Pairwise (fun a b => le a b = true)
  | [], _ => List.pairwise_singleton _ _
  | b :: l, h => by
    obtain ⟨h1, h2⟩ := List.pairwise_cons.mp h
    unfold ins
    split
    · rename_i hab
      refine List.pairwise_cons.mpr ⟨fun x hx => ?_, h⟩
      rcases List.mem_cons.mp hx with rfl | hx
      · exact hab
      · exact T.trans _ _ _ hab (h1 x hx)
    · rename_i hab
      have hba : le b a = true := (T.total b a).resolve_right hab
      refine List.pairwise_cons.mpr ⟨fun x hx => ?_, ins_sorted T h2⟩
      rcases ins_mem.mp hx with rfl | hx
      · exact hba
      · exact h1 x hx
theorem isort_sorted {le : α → α → Bool} (T : PySem.W.TotalLe le) : ∀ l : List α, (isort le l).Pairwise (fun a b => le a b = true)
  | [] => List.Pairwise.nil
  | a :: l => ins_sorted T (isort_sorted T l)
theorem ins_filter {le : α → α → Bool} (T : PySem.W.TotalLe le) {a c : α} : ∀ l : List α, (ins le a l).filter (PySem.W.sameRank le c) = (a :: l).filter (PySem.W.sameRank le c)
  | [] => rfl
  | b :: l => by
    unfold ins
    split
    · rfl
    · rename_i hab
      have ih := ins_filter T (a := a) (c := c) l
      have no : ¬ (PySem.W.sameRank le c a = true ∧ PySem.W.sameRank le c b = true) := fun ⟨h1, h2⟩ => by
        unfold PySem.W.sameRank at h1 h2
        rw [Bool.and_eq_true] at h1 h2
        exact hab (T.trans _ _ _ h1.2 h2.1)
      rw [List.filter_cons, ih, List.filter_cons, List.filter_cons, List.filter_cons]
      by_cases h1 : PySem.W.sameRank le c a = true
      · have h2 : ¬ PySem.W.sameRank le c b = true := fun z => no ⟨h1, z⟩
        simp only [if_neg h2, if_pos h1]
      · simp only [if_neg h1]
theorem isort_filter {le : α → α → Bool} (T : PySem.W.TotalLe le) {c : α} : ∀ l : List α, (isort le l).filter (PySem.W.sameRank le c) = l.filter (PySem.W.sameRank le c)
  | [] => rfl
  | a :: l => by
    unfold isort
    rw [ins_filter T, List.filter_cons, List.filter_cons, isort_filter T l]
theorem isort_eq {le : α → α → Bool} (T : PySem.W.TotalLe le) (l : List α) : isort le l = l.mergeSort le := PySem.W.sort_unique T (isort_sorted T l) fun c => isort_filter T l
theorem ins_map {r : α → α → Bool} {s : β → β → Bool} (f : α → β) {a : α} : ∀ {l : List α}, (∀ b ∈ l, r a b = s (f a) (f b)) → (ins r a l).map f = ins s (f a) (l.map f)
  | [], _ => rfl
  | b :: l, h => by
    have ih := ins_map (r := r) (s := s) f (a := a) (l := l) fun x hx => h x (List.mem_cons_of_mem _ hx)
    rw [List.map_cons]
    simp only [ins, h b List.mem_cons_self]
    split
    · simp only [List.map_cons]
    · rw [List.map_cons, ih]
theorem isort_map {r : α → α → Bool} {s : β → β → Bool} (f : α → β) : ∀ {l : List α}, (∀ a ∈ l, ∀ b ∈ l, r a b = s (f a) (f b)) → (isort r l).map f = isort s (l.map f)
  | [], _ => rfl
  | a :: l, h => by
    rw [List.map_cons]
    unfold isort
    rw [ins_map f fun b hb => h a List.mem_cons_self b (List.mem_cons_of_mem _ (isort_mem.mp hb)), isort_map f fun x hx y hy => h x (List.mem_cons_of_mem _ hx) y (List.mem_cons_of_mem _ hy)]
theorem ins_len {le : α → α → Bool} {a : α} : ∀ l : List α, (ins le a l).length = l.length + 1
  | [] => rfl
  | b :: l => by
    unfold ins
    split
    · rfl
    · rw [List.length_cons, ins_len l, List.length_cons]
theorem isort_len {le : α → α → Bool} : ∀ l : List α, (isort le l).length = l.length
  | [] => rfl
  | a :: l => by
    unfold isort
    rw [ins_len, isort_len l, List.length_cons]
end
section
variable {X : Cx}
theorem dpall_len {K : PySem.W.Frag} {H : Hp} : ∀ {vs : List V} {ds : List PyData}, DpAll K H vs ds → vs.length = ds.length
  | _, _, .nil => rfl
  | _, _, .cons _ h => by rw [List.length_cons, List.length_cons, dpall_len h]
/-- sorted(xs) -/
def rSortD {γ : Type} (enc : γ → PyData) (K : PySem.W.Frag) : List V → Hp → VK → Prop := fun xs H Q => ∃ (a : Addr) (bs : List (V × γ)), xs = [.ref a] ∧ SqL K H a (bs.map (·.1)) ∧ DpAll K H (bs.map (·.1)) (bs.map fun b => enc b.2) ∧
  PySem.W.AllAlike (bs.map fun b => enc b.2) ∧ PySem.W.Sortable (bs.map fun b => enc b.2) ∧ (∀ b ∈ bs, (enc b.2).depth ≤ 40) ∧ ∀ p, H p = none → Q (.ref p) (upd H p (.lst ((isort (PySem.W.dataLe false fun b : V × γ => enc b.2) bs).map (·.1))))
theorem each_mk {h : Heap} {γ : Type} {enc : γ → PyData} : ∀ {bs : List (V × γ)} {us : List Value} {as : List Addr}, Vals (bs.map (·.1)) us → ReadsAll h us (bs.map fun b => enc b.2) as →
    PySem.W.EachIs (fun (u : Value) (b : V × γ) => RelV b.1 u) us bs ∧ PySem.W.EachIs (fun (u : Value) (b : V × γ) => ∃ as, Reads h u (enc b.2) as) us bs
  | [], us, as, r, q => by
    cases r
    exact ⟨.nil, .nil⟩
  | b :: bs, us, as, r, q => by
    rw [List.map_cons] at r q
    cases r with
    | cons r1 r2 =>
      cases q with
      | cons q1 q2 =>
        obtain ⟨e1, e2⟩ := each_mk r2 q2
        exact ⟨.cons r1 e1, .cons ⟨_, q1⟩ e2⟩
theorem each_vals {γ : Type} : ∀ {bs : List (V × γ)} {us : List Value}, PySem.W.EachIs (fun (u : Value) (b : V × γ) => RelV b.1 u) us bs → Vals (bs.map (·.1)) us
  | [], _, .nil => .nil
  | _ :: _, _, .cons h t => .cons h (each_vals t)
theorem cr_sortD {γ : Type} (enc : γ → PyData) (hu : X.A.units + 64 < cLine) : CallR X (.builtin "sorted") (rSortD enc X.K) := by
  intro pins s σ H xs us Q I r h
  obtain ⟨a, bs, rfl, hs, hd, hal, hk, hdep, q⟩ := h
  obtain ⟨u, rfl, rx⟩ := vals1 r
  cases rx
  obtain ⟨its, rv, pl, hz⟩ := I.list hs
  obtain ⟨as, hr⟩ := Dp.readsAll I _ _ _ hd rv
  obtain ⟨e1, e2⟩ := each_mk rv hr
  rw [List.length_map] at hz
  refine PySem.W.sorted_data (enc := fun b : V × γ => enc b.2) pl.isList e1 e2 hal hk hz (fun b hb => by have := hdep b hb; omega) fun out ho eo => ?_
  rw [← isort_eq (show PySem.W.TotalLe (PySem.W.dataLe false fun b : V × γ => enc b.2) from PySem.W.sortLe_total _ _ _)] at eo
  refine ⟨.ref (s.heap.objs.size + 1), _, I.laid (t' := s.toks) (a := s.heap.objs.size + 1) (o := .lst ((isort (PySem.W.dataLe false fun b : V × γ => enc b.2) bs).map (·.1))) (fun b o e => sortedAll_old e) (Nat.le_succ _) ⟨?_, out, ?_⟩, rfl, q _ (I.hok.fresh (Nat.le_succ _))⟩
  · rw [List.length_map, isort_len]; exact hz
  · obtain ⟨n, hn⟩ := sortedAll_at s.heap its out.toArray
    exact ⟨n, each_vals eo, hn⟩
/-- xs.count(y) -/
def rCntD (K : PySem.W.Frag) : V → List V → Hp → VK → Prop := fun x xs H Q => ∃ p y d ds vs, x = .ref p ∧ xs = [y] ∧ SqL K H p vs ∧ Dp K H y d ∧ DpAll K H vs ds ∧ d.plain = true ∧ PyData.plainAll ds = true ∧ d.depth ≤ 40 ∧ PyData.depthAll ds ≤ 40 ∧ Q (.int ((ds.countP fun y => PyData.eqv y d : Nat) : Int)) H
theorem mt_countD (hu : X.A.units + 64 < cLine) : MtR X "list.count" (rCntD X.K) := by
  intro pins s σ H x xs v us Q I rx rxs h
  obtain ⟨p, y, d, ds, vs, rfl, rfl, hs, hy, hds, pd, pds, z1, z2, q⟩ := h
  cases rx
  obtain ⟨u, rfl, ru⟩ := vals1 rxs
  obtain ⟨its, rv, pl, hz⟩ := I.list hs
  obtain ⟨as, hr⟩ := Dp.readsAll I _ _ _ hds rv
  obtain ⟨bs, hr2⟩ := Dp.reads I d y u hy ru
  exact PySem.SeqAt.count_list_data pl.isList (by simpa using hr) hr2 pds pd (by omega) ⟨.int _, H, I.tok _, ⟨_, rfl⟩, q⟩
/-! ### dicts -/
theorem subX {pins : List (Addr × Obj)} {σ : L2.St} {s : Shared} {a : Addr} {u : Value} {value slice : Expr} {Q : VK} (hT : s.TypeIs (.ref a) "dict") (hs : subscripted slice false (.ref a) u = operate [.ref a, u] (getItem (.ref a) u))
    (h : wpAny (model X.prog X.w) X.A (getItem (.ref a) u) (EP X pins σ Q) X.xe s) : wpAny (model X.prog X.w) X.A (subscriptTail value slice (.ref a) u) (EP X pins σ Q) X.xe s := by
  unfold subscriptTail
  refine wpAny_bind ?_
  rw [getitemInPython_of_ne hT.not_modules]
  refine wpAny_bind (wpAny_specialOf hT PySem.F.slot_dict_getitem.lookup ?_)
  have fin : wpAny (model X.prog X.w) X.A (subscripted slice false (.ref a) u) (fun r s₃ => wpAny (model X.prog X.w) X.A (letTemporaryGo value (.ref a) r >>= fun _ => pure r) (EP X pins σ Q) X.xe s₃) X.xe s := by
    rw [hs]
    exact wpAny_operating (thn h fun r s₃ h₃ => wpAny_bind (wpAny_letTemporaryGo (wpAny_pure h₃)))
  first
    | exact wpAny_pure (wpAny_bind fin)
    | exact wpAny_bind (wpAny_pure (wpAny_bind fin))
    | exact wpAny_bind fin
/-- what a key gives -/
def GetX (K : PySem.W.Frag) (H : Hp) (a : Addr) (y : V) (o : Option V) : Prop := ∃ xs k b, DX K H a xs ∧ y = .ref b ∧ KeyV K H k (.ref b) ∧ k.depth ≤ 8 ∧ RelO o (valX xs k)
def rIxX (K : PySem.W.Frag) : R2 := fun x y H Q => ∃ a v, x = .ref a ∧ (GetX K H a y (some v) ∨ DGet H a y (some v)) ∧ Q v H
theorem ix_dict (hu : X.A.units + 64 < cLine) : IxR X (rIxX X.K) := by
  intro value slice pins s σ H x y v u Q I rx ry h hs
  obtain ⟨a, z, rfl, g, q⟩ := h
  cases rx
  rcases g with ⟨xs, k, b, D, rfl, hk, hd, rel⟩ | g
  · cases ry
    obtain ⟨w', hw, rw'⟩ := RelO.some_of (v := z) (o := valX xs k) rel
    exact subX (dx_type D I).1 hs (dx_get hu D I hk hd hw fun s' I' => ⟨z, H, I', rw', q⟩)
  · exact subX (dict_typeIs I g) hs (d_getItem (by omega) I g ry fun w' s' I' rw' => ⟨z, H, I', rw', q⟩)
def rSetX (K : PySem.W.Frag) : V → V → V → Hp → (Hp → Prop) → Prop := fun o i v H Q => ∃ a, o = .ref a ∧ ((∃ xs k b, DX K H a xs ∧ i = .ref b ∧ KeyV K H k (.ref b) ∧ k.depth ≤ 8 ∧ ntK k = true ∧ xs.length < sizeLine ∧
  ∀ u ep, RelV v u → DX K (upd H a (hoX a (storedH xs k b u) ep)) a (storedH xs k b u) → Q (upd H a (hoX a (storedH xs k b u) ep))) ∨ ∃ H', DPut H a i v H' ∧ Q H')
theorem set_dict (hu : X.A.units + 64 < cLine) : PSet X (rSetX X.K) := by
  intro pins s σ H o i v ov iv u Q I ro ri rv h
  obtain ⟨a, rfl, h⟩ := h
  cases ro
  rcases h with ⟨xs, k, b, D, rfl, hk, hd, hn, hl, q⟩ | ⟨H', g, q⟩
  · cases ri
    exact dx_set hu D I hk hd hn hl fun s' ep D' I' => ⟨_, I', q u ep rv D'⟩
  · exact d_setItem (by omega) I g ri rv fun s' I' => ⟨H', I', q⟩
/-- d.get(y, x) -/
theorem pe_xget2 {o e f : Expr} {apos cpos : Pos} {td ty tx : TE} (hu : X.A.units + 64 < cLine) (ho : PE X o td) (he : PE X e ty) (hf : PE X f tx) (m : M2 X o "get" apos e f cpos) : PE X (.Call (.Attribute o "get" apos) [e, f] [] cpos)
    (fun σ H Q => td σ H fun x H1 => ∃ a xs, x = .ref a ∧ DX X.K H1 a xs ∧ ty σ H1 fun y H2 => tx σ H2 fun z H3 => ∃ o, GetX X.K H3 a y o ∧ Q (o.getD z) H3) := by
  refine ⟨fun pins s σ H Q I h => ?_⟩
  refine wpAny_Call_method m.base m.few m.line PySem.F.plainAttrs_dict PySem.F.slot_dict_get PySem.F.type_dict_get (thn (ho.run pins s σ H _ I h) fun u s1 ⟨x, H1, I1, rx, a, xs, ex, d, q1⟩ => ?_)
  subst ex
  obtain rfl : u = Value.ref a := rx
  obtain ⟨t1, t2⟩ := dx_type d I1
  refine ⟨t1, t2, ?_⟩
  rw [m.trees]
  refine Calls.callWith_builtin rfl (Calls.evalArgs_plain (Calls.spliced_cons (thn (he.run pins s1 σ H1 _ I1 q1) fun iv s2 ⟨y, H2, I2, ry, q2⟩ =>
    Calls.spliced_cons (thn (hf.run pins s2 σ H2 _ I2 q2) fun fv s3 ⟨z, H3, I3, rz, ov, ⟨xs', k, b, D, ey, hk, hd, rel⟩, q3⟩ => Calls.spliced_nil ?_))))
  subst ey
  obtain rfl : iv = Value.ref b := ry
  exact dx_get2 hu D I3 hk hd fun s4 I4 => ⟨_, H3, I4, rel.getD rz, q3⟩
/-- the keys of the dict at a, in their order -/
def Itx (a : Addr) (xs : List XE) (ep : Nat) : L2.It :=
  ⟨fun i H => H a = some (hoX a xs ep) ∧ i < xs.length, fun i H x H' => H' = H ∧ ∃ e, xs[i]? = some e ∧ x = .ref e.2.1, fun i H => H a = some (hoX a xs ep) ∧ xs.length ≤ i⟩
theorem raw_at {pins : List (Addr × Obj)} {σ : L2.St} {H : Hp} {s : Shared} {a : Addr} {xs : List XE} {ep : Nat} (I : Inv X pins σ H s) (h : H a = some (hoX a xs ep)) : ∃ o es, s.heap.get? a = some o ∧ o.ExactDict ∧ o.data = .dict es ep ∧ es.toList = xs.map ent0 ∧ es.size = xs.length := by
  obtain ⟨⟨o, es, h1, h2, h3, h4⟩, _⟩ := I.hok a _ h
  exact ⟨o, es, h1, h2, h3, h4, by rw [← Array.length_toList, h4, List.length_map]⟩
theorem turn_dictX {P : Program} {w : World} {K : PySem.W.Frag} {tg : Expr} {a : Addr} {xs : List XE} {ep : Nat} (it : Addr) : Turn P w K tg (Itx a xs ep) [it] it (fun i h => h.IsKeyIter it a i xs.length ep) where
  mem := by simp
  obj := fun i h st b hb => by
    have e : b = it := by simpa using hb
    subst e
    obtain ⟨oi, e, c, dd⟩ := st
    exact ⟨oi, e, fun v z => by rw [dd] at z; cases z⟩
  keep := fun i h h' st k => st.at fun oi e => k it (by simp) oi e
  item := by
    intro X hP hw hK hc i pins s σ H E I hf st hg
    subst hP hw hK
    obtain ⟨hd, hi⟩ := hg
    obtain ⟨f0, f1, f2, f3, f4, f5⟩ := hf it (by simp)
    obtain ⟨o, es, h1, h2, h3, h4, hsz⟩ := raw_at I hd
    have hen : es[i]? = some (ent0 xs[i]) := by
      rw [← Array.getElem?_toList, h4, List.getElem?_map, List.getElem?_eq_getElem hi]
      rfl
    refine next_key_item st h1 h3 hsz hen fun h' st' sb => ?_
    have I1 : Inv X pins σ H { s with heap := h' } := I.turned (t' := s.toks) (fun b ob hb e => (sb.2 b hb).trans e) f0 f1 f3 f4 f5
    obtain ⟨oi, e, c, dd⟩ := id st'
    exact ⟨_, rfl, go_of (s := { s with heap := h' }) e c dd (by decide) ⟨.ref xs[i].2.1, H, I1, rfl, ⟨rfl, xs[i], List.getElem?_eq_getElem hi, rfl⟩, st', fun b hb => (hf b hb).1⟩⟩
  done := by
    intro X hP hw hK hc i pins s σ H E I hf st hg
    subst hP hw hK
    obtain ⟨hd, hi⟩ := hg
    obtain ⟨f0, f1, f2, f3, f4, f5⟩ := hf it (by simp)
    obtain ⟨o, es, h1, h2, h3, h4, hsz⟩ := raw_at I hd
    exact next_key_end (I.ok.hd hc) st h1 h3 hsz hi fun h' eb => ⟨rfl, I.turned (t' := s.toks) (fun b ob hb e => eb b ob hb e) f0 f1 f3 f4 f5⟩
  self := fun A i s Q E st h => wpAny_pyIter_keyiter st h
theorem pi_dictX {tg e : Expr} {te : TE} (he : PE X e te) : PI X tg e (fun σ H R => te σ H fun v H1 => ∃ a xs ep, v = .ref a ∧ H1 a = some (hoX a xs ep) ∧ (a == sysModules) = false ∧ R (Itx a xs ep) H1) := by
  refine ⟨fun pins s σ H R I h => ?_⟩
  refine thn (he.run pins s σ H _ I h) fun u s1 ⟨x, H1, I1, rx, a, xs, ep, ex, hd, lo, q⟩ => ?_
  subst ex
  obtain rfl : u = Value.ref a := rx
  obtain ⟨o, es, h1, h2, h3, h4, hsz⟩ := raw_at I1 hd
  refine iter_keys lo h1 h2 h3 (pi_one (tk := s1.toks) I1 _ (turn_dictX _) ⟨_, Heap.get?_push_size _ rfl, rfl, ?_⟩ q)
  rw [hsz] <;> rfl
/-- list(d) -/
def rListX : List V → Hp → VK → Prop := fun vs H Q => ∃ a xs ep, vs = [.ref a] ∧ H a = some (hoX a xs ep) ∧ (a == sysModules) = false ∧ xs.length ≤ sizeLine ∧ ∀ p, H p = none → Q (.ref p) (upd H p (.lst (xs.map fun x => V.ref x.2.1)))
theorem cr_listX (hc : X.calm = true) : CallR X (.type "list") rListX := by
  intro pins s σ H vs us Q I r h
  obtain ⟨a, xs, ep, rfl, hd, lo, hz, q⟩ := h
  obtain ⟨u, rfl, rx⟩ := vals1 r
  cases rx
  obtain ⟨o, es, h1, h2, h3, h4, hsz⟩ := raw_at I hd
  refine PySem.W.kdl_call (KdlSrc.rawDict (prog := X.prog) (w := X.w) (es := es) (ep := ep) lo) (I.ok.hd hc) ⟨o, h1, h2, h3⟩ (by rw [hsz]; exact hz) fun h' tk acc' c' hk hD hacc => ?_
  have e : acc'.toList = xs.map fun x => Value.ref x.2.1 := by
    refine List.ext_getElem? fun i => ?_
    rw [List.getElem?_map]
    have e1 : es[i]? = (xs[i]?).map ent0 := by rw [← Array.getElem?_toList, h4, List.getElem?_map]
    cases qi : xs[i]? with
    | none =>
      rw [Array.getElem?_toList]
      have : xs.length ≤ i := List.getElem?_eq_none_iff.mp qi
      rw [Array.getElem?_eq_none (by rw [hacc.1, hsz]; exact this)]
      rfl
    | some x =>
      have hi : i < xs.length := (List.getElem?_eq_some_iff.mp qi).1
      have hia : i < acc'.size := by rw [hacc.1, hsz]; exact hi
      rw [Array.getElem?_toList, Array.getElem?_eq_getElem hia]
      obtain ⟨hi2, e2⟩ := hacc.2 i acc'[i] (Array.getElem?_eq_getElem hia)
      rw [qi, Array.getElem?_eq_getElem hi2] at e1
      have e3 : es[i] = ent0 x := Option.some.inj e1
      rw [e2, e3]
      rfl
  have rv : ∀ l : List XE, Vals (l.map fun x => V.ref x.2.1) (l.map fun x => Value.ref x.2.1) := fun l => by
    induction l with
    | nil => exact .nil
    | cons x l ih => exact .cons rfl ih
  refine ⟨.ref s.heap.objs.size, _, I.laid (t' := tk) (o := .lst (xs.map fun x => V.ref x.2.1)) hk (Nat.le_refl _) ⟨by rw [List.length_map]; exact hz, acc'.toList, c', by rw [e]; exact rv xs, by rw [Array.toArray_toList]; exact hD⟩, rfl, q _ (I.hok.fresh (Nat.le_refl _))⟩
end
end Qh

/-! Sets whose elements are tuples of keys of a kind: one element is looked for, one is put. -/
namespace Qh
open PySem PySem.Spec PyProof.Rows L2
section
variable {P : Program} {w : World} {κ : Type} [DecidableEq κ] {A : Around} {E : Value → Shared → Prop} {s : Shared}
/-- keys that are asked without a trace -/
structure Mute (kd : PySem.KeyKind P w κ) : Prop where
  cls : ∀ k v n, kd.is k v = true → ofAClassStatement n v = pure false
  hby : ∀ k v n, kd.is k v = true → ∃ b, hashByValue n v = pure b
theorem mute_str : Mute (PySem.strKind P w) where
  cls := fun k v n h => by obtain ⟨t, rfl⟩ := Value.isStrOf_shape h; cases n <;> rfl
  hby := fun k v n h => by obtain ⟨t, rfl⟩ := Value.isStrOf_shape h; exact ⟨false, by cases n <;> rfl⟩
variable {kd : PySem.KeyKind P w κ}
theorem each_is {ks : List κ} {vs : List Value} (h : ItemsAre kd ks vs) : ∀ v ∈ vs, ∃ k, kd.is k v = true := by
  induction h with
  | nil => exact fun v hv => by cases hv
  | cons h1 _ ih =>
    intro v hv
    rcases List.mem_cons.mp hv with rfl | hv
    · exact ⟨_, h1⟩
    · exact ih v hv
variable (M : Mute kd)
include M
theorem tup_cls {k : List κ} {b : Addr} {Q : Bool → Shared → Prop} (hk : IsTupleKey kd s.heap k b) (h : Q false s) : wpAny (model P w) A (ofAClassStatement 8 (.ref b)) Q E s := by
  have hT := hk.typeIs
  obtain ⟨o, its, n, ho, _, hd, hi⟩ := hk
  have hv := each_is hi
  unfold ofAClassStatement
  refine wpAny_bind (wpAny_typeOf hT ?_)
  dsimp only
  have e : (("tuple" : String) == "tuple") = true := by decide
  simp only [e, if_true, Bool.not_true, Bool.false_eq_true, if_false]
  try refine wpAny_bind (wpAny_pure ?_)
  try simp only [Bool.not_true, Bool.false_eq_true, if_false]
  show wpAny _ _ (seqItems? (.ref b) >>= _) _ _ s
  refine wpAny_bind (wpAny_seqItems ho hd ?_)
  dsimp only
  refine wpAny_bind ?_
  show wpAny _ _ (forIn its _ _) _ _ s
  rw [← Array.forIn_toList]
  refine wpAny_forIn_list _ (fun l r s' => (r.1 = none ∧ s' = s) ∧ ∀ v ∈ l, ∃ k, kd.is k v = true) _ (fun v l r s' hI => ?_) (fun r s' hI => ?_) _ _ ⟨⟨rfl, rfl⟩, hv⟩
  · obtain ⟨⟨h1, rfl⟩, hall⟩ := hI
    obtain ⟨k', hk'⟩ := hall v List.mem_cons_self
    rw [M.cls k' v _ hk']
    refine wpAny_bind (wpAny_pure ?_)
    simp only [Bool.false_eq_true, if_false]
    exact wpAny_pure ⟨⟨rfl, rfl⟩, fun u hu => hall u (List.mem_cons_of_mem _ hu)⟩
  · obtain ⟨⟨h1, rfl⟩, _⟩ := hI
    obtain ⟨r1, r2⟩ := r
    simp only at h1
    subst h1
    exact wpAny_pure h
theorem tup_hby {k : List κ} {b : Addr} {Q : Bool → Shared → Prop} (hk : IsTupleKey kd s.heap k b) (h : ∀ y, Q y s) : wpAny (model P w) A (hashByValue 8 (.ref b)) Q E s := by
  have hT := hk.typeIs
  obtain ⟨o, its, n, ho, _, hd, hi⟩ := hk
  have hv := each_is hi
  unfold hashByValue
  refine wpAny_bind (wpAny_specialOf hT F.slot_tuple_hash.lookup ?_)
  show wpAny _ _ (seqItems? (.ref b) >>= _) _ _ s
  refine wpAny_bind (wpAny_seqItems ho hd ?_)
  refine wpAny_bind ?_
  show wpAny _ _ (forIn its _ _) _ _ s
  rw [← Array.forIn_toList]
  refine wpAny_forIn_list _ (fun l r s' => (r.1 = none ∧ s' = s) ∧ ∀ v ∈ l, ∃ k, kd.is k v = true) _ (fun v l r s' hI => ?_) (fun r s' hI => ?_) _ _ ⟨⟨rfl, rfl⟩, hv⟩
  · obtain ⟨⟨h1, rfl⟩, hall⟩ := hI
    obtain ⟨k', hk'⟩ := hall v List.mem_cons_self
    obtain ⟨y, hy⟩ := M.hby k' v 7 hk'
    rw [hy]
    refine wpAny_bind (wpAny_pure ?_)
    cases y with
    | true =>
      simp only [Bool.not_true, Bool.false_eq_true, if_false]
      exact wpAny_pure ⟨⟨rfl, rfl⟩, fun u hu => hall u (List.mem_cons_of_mem _ hu)⟩
    | false =>
      simp only [Bool.not_false, if_true]
      exact wpAny_pure (wpAny_pure (h false))
  · obtain ⟨⟨h1, rfl⟩, _⟩ := hI
    obtain ⟨r1, r2⟩ := r
    simp only at h1
    subst h1
    exact wpAny_pure (h true)
/-- looking among such tuples is not seen -/
theorem tup_seen {k : List κ} {b : Addr} {Q : Bool → Shared → Prop} (hk : IsTupleKey kd s.heap k b) {ys : List Value} (hy : ∀ y ∈ ys, ∃ k' c, y = Value.ref c ∧ IsTupleKey kd s.heap k' c) (h : Q false s) :
    wpAny (model P w) A (searchCouldBeSeen (.ref b) ys) Q E s := by
  unfold searchCouldBeSeen
  refine wpAny_bind ?_
  refine wpAny_forIn_list _ (fun l r s' => (r.1 = none ∧ s' = s) ∧ ∀ y ∈ l, ∃ k' c, y = Value.ref c ∧ IsTupleKey kd s.heap k' c) _ (fun v l r s' hI => ?_) (fun r s' hI => ?_) _ _ ⟨⟨rfl, rfl⟩, hy⟩
  · obtain ⟨⟨h1, rfl⟩, hall⟩ := hI
    obtain ⟨k', c, rfl, hc⟩ := hall v List.mem_cons_self
    have nx : ∀ y ∈ l, ∃ k' c, y = Value.ref c ∧ IsTupleKey kd s'.heap k' c := fun u hu => hall u (List.mem_cons_of_mem _ hu)
    dsimp only
    by_cases hv : (b == c || (carriedByValue (.ref b) && carriedByValue (.ref c))) = true
    · exact wp_if_pos hv (wpAny_pure ⟨⟨rfl, rfl⟩, nx⟩)
    · refine wp_if_neg hv (wpAny_bind (wpAny_eqIsQuiet_tuple hk ?_))
      simp only [Bool.not_true, Bool.false_eq_true, if_false]
      refine wpAny_bind (wpAny_eqIsQuiet_tuple hc ?_)
      simp only [Bool.not_true, Bool.false_eq_true, if_false]
      refine wpAny_bind (tup_cls M hk ?_)
      simp only [Bool.false_eq_true, if_false]
      refine wpAny_bind (tup_cls M hc ?_)
      simp only [Bool.false_eq_true, if_false]
      exact wpAny_pure ⟨⟨rfl, rfl⟩, nx⟩
  · obtain ⟨⟨h1, rfl⟩, _⟩ := hI
    obtain ⟨r1, r2⟩ := r
    simp only at h1
    subst h1
    exact wpAny_pure h
end
end Qh

/-! A set of tuples: the search, the putting. -/
namespace Qh
open PySem PySem.Spec PyProof.Rows L2
abbrev Ent (κ : Type) := Addr × List κ
section
variable {P : Program} {w : World} {κ : Type} [DecidableEq κ] (kd : PySem.KeyKind P w κ)
abbrev kh (e : Ent κ) : Int := tupleKeyHash kd e.2
def ents (L : List (Ent κ)) : List (Int × Value) := L.map fun e => (kh kd e, Value.ref e.1)
/-- the set at a has these tuples -/
structure Tups (h : Heap) (a : Addr) (L : List (Ent κ)) (es : Array (Int × Value)) (ep : Nat) (t : SetTable) : Prop where
  here : ∃ o, h.get? a = some o ∧ o.ExactSet ∧ o.data = .set es ep t
  ent : es.toList = ents kd L
  tab : TabOk t (L.map (kh kd))
  uniq : (L.map Prod.snd).Nodup
  key : ∀ e ∈ L, IsTupleKey kd h e.2 e.1
  led : w.params.followText "set-order" = true ∨ t.led = true
  room : L.length * 5 < t.mask * 3
  few : L.length < 64
variable {kd}
variable {A : Around} {E : Value → Shared → Prop} {s : Shared} {a : Addr} {L : List (Ent κ)} {es : Array (Int × Value)} {ep : Nat} {t : SetTable}
theorem ents_size (h : es.toList = ents kd L) : es.size = L.length := by
  have := congrArg List.length h
  rwa [Array.length_toList, ents, List.length_map] at this
theorem ents_at (h : es.toList = ents kd L) {i : Nat} {e : Ent κ} (he : L[i]? = some e) : es[i]? = some (kh kd e, Value.ref e.1) := by
  rw [← Array.getElem?_toList, h, ents, List.getElem?_map, he]
  rfl
theorem fits_of (hd : t.dummies = #[]) (hs : t.place.size = es.size) (hm : es.size ≤ t.mask) : t.fits es.size = true := by
  unfold SetTable.fits SetTable.fill
  rw [hd, Bool.and_eq_true, beq_iff_eq, decide_eq_true_eq]
  show t.place.size = es.size ∧ t.place.size + 0 ≤ t.mask
  omega
theorem Tups.fits (R : Tups kd s.heap a L es ep t) : t.fits es.size = true := by
  have h1 := R.tab.sz
  rw [List.length_map] at h1
  have h2 := ents_size R.ent
  have h3 := R.room
  exact fits_of R.tab.dm (by omega) (by omega)
theorem nth_dm (m : Nat) : ∀ (n : Nat) (p : SetTable.Probe), p.dummy = none → (L2.nth m p n).dummy = none
  | 0, _, h => h
  | n + 1, p, h => nth_dm m n (adv m p) (by unfold adv; split <;> exact h)
/-- where the way begins -/
abbrev p0 (m : Nat) (H : Int) : SetTable.Probe := runAt m (SetTable.bits H % (m + 1)) (SetTable.bits H)
theorem way_from (m : Nat) (H : Int) (c q : Nat) : L2.nth m (L2.nth m (p0 m H) c) q = L2.nth m (p0 m H) (c + q) := (nth_add m c _ q).symm
/-- the search from the c-th step of the way on: what stood on the steps before has another key -/
theorem tsLook (M : Mute kd) (R : Tups kd s.heap a L es ep t) {x : Addr} {k : List κ} (hx : IsTupleKey kd s.heap k x) (hu : A.units < cLine) {K : Nat} (hKf : K < 10 * SetTable.turns t.mask)
    (hK : way t.mask (tupleKeyHash kd k) K ∉ t.place.toList) (hb : ∀ c, c < K → way t.mask (tupleKeyHash kd k) c ∈ t.place.toList) {Q : SetFound → Shared → Prop}
    (yes : k ∈ L.map Prod.snd → Q (.there none) s) (no : k ∉ L.map Prod.snd → Q (.free (way t.mask (tupleKeyHash kd k) K) false) s) :
    ∀ (f c : Nat) (st : Option SetTable.Probe), st.getD (t.probeStart (tupleKeyHash kd k)) = L2.nth t.mask (p0 t.mask (tupleKeyHash kd k)) c → c ≤ K → K < c + f →
      (∀ c', c' < c → ∀ (i : Nat) (e : Ent κ), t.place.toList[i]? = some (way t.mask (tupleKeyHash kd k) c') → L[i]? = some e → e.2 ≠ k) → wpAny (model P w) A (setSearchFrom a (.ref x) (tupleKeyHash kd k) true f st) Q E s := by
  intro f
  induction f with
  | zero => intro c st _ h1 h2; omega
  | succ f ih =>
    intro c st hst hc hf hpast
    generalize hH : tupleKeyHash kd k = H at *
    obtain ⟨o, ho, hex, hd⟩ := R.here
    have hsz : t.place.toList.length = L.length := by
      have := R.tab.sz
      rw [List.length_map] at this
      rw [Array.length_toList, this]
    have hgw : ¬ t.gaveWay = true := by unfold SetTable.gaveWay; rw [mask_odd R.tab.mok]; decide
    have hhash : ∀ (i : Nat) (e : Ent κ), L[i]? = some e → (fun i => (es[i]?.map (·.1)).getD 0) i = kh kd e := fun i e he => by
      show (es[i]?.map (·.1)).getD 0 = _
      rw [ents_at R.ent he]
      rfl
    rw [setSearchFrom_succ]
    refine wpAny_bind (wpAny_setState_of ho hd R.fits ?_)
    dsimp only
    refine wp_if_neg hgw ?_
    try refine wpAny_bind (wpAny_pure ?_)
    rw [hst]
    have hgo := go_spec t R.tab.ris R.tab.dm (fun i => (es[i]?.map (·.1)).getD 0) H (10 * SetTable.turns t.mask) (K - c) (L2.nth t.mask (p0 t.mask H) c) (nth_dm _ _ _ rfl) (by omega)
      (fun q hq => by rw [way_from]; exact hb (c + q) (by omega)) (by rw [way_from, show c + (K - c) = K by omega]; exact hK)
    simp only [way_from] at hgo
    rcases hgo with ⟨q, i, hq, hi, hh, hno, hpr⟩ | ⟨hno, hpr⟩
    · -- one of this hash stands there
      have hpr2 : t.probe (fun i => (es[i]?.map (·.1)).getD 0) H (L2.nth t.mask (p0 t.mask H) c) = some (.candidate (way t.mask H (c + q)) i (L2.nth t.mask (p0 t.mask H) (c + (q + 1)))) := hpr
      rw [hpr2]
      dsimp only
      have hil : i < L.length := by rw [← hsz]; exact (List.getElem?_eq_some_iff.mp hi).1
      obtain ⟨e, he⟩ : ∃ e, L[i]? = some e := ⟨_, List.getElem?_eq_getElem hil⟩
      have hem : e ∈ L := List.mem_of_getElem? he
      have hek := R.key e hem
      have hsl : t.slot (way t.mask H (c + q)) = .live i := slot_live R.tab.ris hi
      have rest : wpAny (model P w) A (searchRest a (.ref x) H true f es t (way t.mask H (c + q)) i (L2.nth t.mask (p0 t.mask H) (c + (q + 1)))) Q E s := by
        unfold searchRest
        rw [ents_at R.ent he]
        dsimp only
        refine wpAny_bind (wpAny_holding (wpAny_eqBool_tuple hu hek hx ?_))
        refine wpAny_bind (wpAny_setState_of ho hd R.fits ?_)
        dsimp only
        by_cases hkk : e.2 = k
        · exact wp_if_pos (by simp [hkk]) (wpAny_pure (yes (List.mem_map.mpr ⟨e, hem, hkk⟩)))
        · refine wp_if_neg (by simp [hkk]) ?_
          try refine wpAny_bind (wpAny_pure ?_)
          rw [sameMem]
          dsimp only
          simp only [if_true, hsl, ents_at R.ent he]
          refine wpAny_bind (wpAny_isSame_ref_self (wpAny_bind (wpAny_pure ?_)))
          simp only [if_true]
          refine wp_if_neg (by simp [hkk]) ?_
          refine ih (c + (q + 1)) (some _) rfl (by omega) (by omega) fun c' hc' i' e' hi' he' => ?_
          by_cases h1 : c' < c
          · exact hpast c' h1 i' e' hi' he'
          · by_cases h2 : c' < c + q
            · intro hk'
              refine hno (c' - c) i' (by omega) (by rw [show c + (c' - c) = c' by omega]; exact hi') ?_
              refine (hhash i' e' he').trans ?_
              rw [kh, hk', hH]
            · have h3 : c' = c + q := by omega
              subst h3
              have hs2 := slot_live R.tab.ris hi'
              rw [hsl] at hs2
              injection hs2 with hs2
              rw [← hs2, he] at he'
              injection he' with he'
              rw [← he']
              exact hkk
      by_cases hl : t.led = true
      · refine wp_if_neg (by simp [hl]) ?_
        try refine wpAny_bind (wpAny_pure ?_)
        exact rest
      · refine wp_if_pos (by simp [hl]) (wpAny_bind (tup_seen M hx (fun y hy => ?_) ?_))
        · obtain ⟨z, hz, rfl⟩ := List.mem_map.mp hy
          have hz1 : z ∈ es.toList := by
            have : z ∈ es ∧ z.1 = H := by simpa using hz
            simpa using this.1
          rw [R.ent] at hz1
          obtain ⟨e2, he2, rfl⟩ := List.mem_map.mp hz1
          exact ⟨e2.2, e2.1, rfl, R.key e2 he2⟩
        · refine wp_if_neg (by decide) ?_
          try refine wpAny_bind (wpAny_pure ?_)
          exact rest
    · -- the way is free
      have hpr2 : t.probe (fun i => (es[i]?.map (·.1)).getD 0) H (L2.nth t.mask (p0 t.mask H) c) = some (.empty (way t.mask H K) none) := by
        have h2 := hpr
        rw [show c + (K - c) = K by omega] at h2
        exact h2
      rw [hpr2]
      dsimp only
      refine wpAny_pure (no fun hm => ?_)
      obtain ⟨e, he, hek⟩ := List.mem_map.mp hm
      obtain ⟨i, hil, rfl⟩ := List.getElem_of_mem he
      have hLi : L[i]? = some L[i] := List.getElem?_eq_getElem hil
      have hpi : t.place.toList[i]? = some (t.place.toList[i]'(by rw [hsz]; exact hil)) := List.getElem?_eq_getElem _
      obtain ⟨c', hc', hw⟩ := R.tab.before (h := H) hK (i := i) (by rw [List.getElem?_map, hLi, ← hH, ← hek]; rfl) hpi
      rw [← hw] at hpi
      by_cases h1 : c' < c
      · exact hpast c' h1 i _ hpi hLi hek
      · refine hno (c' - c) i (by omega) (by rw [show c + (c' - c) = c' by omega]; exact hpi) ?_
        refine (hhash i _ hLi).trans ?_
        rw [kh, hek, hH]
end
end Qh

/-! A set of tuples: one tuple is put. -/
namespace Qh
open PySem PySem.Spec PyProof.Rows L2
theorem fm_all {α : Type} (L : List α) : (List.range L.length).filterMap (fun i => L[i]?) = L := by
  have h : (List.range L.length).map (fun i => L[i]?) = L.map some := by
    apply List.ext_getElem?
    intro i
    rw [List.getElem?_map, List.getElem?_map]
    by_cases hi : i < L.length
    · rw [List.getElem?_range hi, List.getElem?_eq_getElem hi]
      show some (L[i]?) = _
      rw [List.getElem?_eq_getElem hi]
      rfl
    · rw [List.getElem?_eq_none (by rw [List.length_range]; omega), List.getElem?_eq_none (by omega)]
      rfl
  have h2 := congrArg (List.filterMap id) h
  rw [List.filterMap_map, List.filterMap_map] at h2
  have e : (id ∘ some : α → Option α) = some := rfl
  rw [e, List.filterMap_some] at h2
  exact h2
section
variable {P : Program} {w : World} {κ : Type} [DecidableEq κ] {kd : PySem.KeyKind P w κ} {A : Around} {E : Value → Shared → Prop} {s : Shared} {a : Addr} {L : List (Ent κ)} {es : Array (Int × Value)} {ep : Nat} {t : SetTable}
/-- entries in another order -/
theorem reorder (h : es.toList = ents kd L) (order : Array Nat) (hp : order.toList.Perm (List.range L.length)) :
    ∃ L2, (order.filterMap (es[·]?)).toList = ents kd L2 ∧ L2.Perm L ∧ L2.map (kh kd) = order.toList.map fun i => (es.map (·.1)).getD i 0 := by
  refine ⟨order.toList.filterMap fun (i : Nat) => L[i]?, ?_, ?_, ?_⟩
  · have e1 : (fun (i : Nat) => es[i]?) = fun (i : Nat) => (L[i]?).map fun e => (kh kd e, Value.ref e.1) := by
      funext i
      rw [← Array.getElem?_toList, h, ents, List.getElem?_map]
    rw [Array.toList_filterMap, e1, ents, List.map_filterMap]
  · have h2 := hp.filterMap fun (i : Nat) => L[i]?
    rwa [fm_all] at h2
  · have hlt : ∀ i ∈ order.toList, i < L.length := fun i hi => List.mem_range.mp (hp.mem_iff.mp hi)
    revert hlt
    generalize order.toList = l
    intro hlt
    induction l with
    | nil => rfl
    | cons i l ih =>
      have hi := hlt i List.mem_cons_self
      have hL : L[i]? = some L[i] := List.getElem?_eq_getElem hi
      have hg : (es.map (·.1)).getD i 0 = kh kd L[i] := by
        have : (es.map (·.1))[i]? = some (kh kd L[i]) := by rw [Array.getElem?_map, ents_at h hL]; rfl
        simp [Array.getD_eq_getD_getElem?, this]
      rw [List.filterMap_cons_some hL, List.map_cons, List.map_cons, hg, ih fun j hj => hlt j (List.mem_cons_of_mem _ hj)]
/-- the tuples aren't the set -/
theorem key_but {h h' : Heap} {k : List κ} {b : Addr} {o : Obj} (hb : IsTupleKey kd h k b) (ho : h.get? a = some o) (hd : o.data = .set es ep t) (hs : Heap.SameBut a h h') : IsTupleKey kd h' k b := by
  obtain ⟨u, its, n, hu, hc, hud, hi⟩ := hb
  refine ⟨u, its, n, (hs.2 b fun e => ?_).trans hu, hc, hud, hi⟩
  rw [e, ho] at hu
  injection hu with hu
  rw [← hu, hd] at hud
  cases hud
theorem tab_like {t t' : SetTable} {hs : List Int} (T : TabOk t hs) (h1 : t'.mask = t.mask) (h2 : t'.place = t.place) (h3 : t'.dummies = t.dummies) : TabOk t' hs where
  ris := by rw [h2]; exact T.ris
  dm := by rw [h3]; exact T.dm
  sz := by rw [h2]; exact T.sz
  mok := by rw [h1]; exact T.mok
  bd := by rw [h1, h2]; exact T.bd
  reach := by rw [h1, h2]; exact T.reach
/-- the set's object, its table to be laid anew -/
structure Pile (kd : PySem.KeyKind P w κ) (h : Heap) (a : Addr) (L : List (Ent κ)) (es : Array (Int × Value)) (ep : Nat) (t : SetTable) : Prop where
  here : ∃ o, h.get? a = some o ∧ o.ExactSet ∧ o.data = .set es ep t
  ent : es.toList = ents kd L
  tab : TabOk t (L.map (kh kd))
  uniq : (L.map Prod.snd).Nodup
  key : ∀ e ∈ L, IsTupleKey kd h e.2 e.1
  led : w.params.followText "set-order" = true ∨ t.led = true
  some' : L.length ≤ t.mask
  few : L.length < 64
theorem Pile.tups (R : Pile kd s.heap a L es ep t) (h : L.length * 5 < t.mask * 3) : Tups kd s.heap a L es ep t := ⟨R.here, R.ent, R.tab, R.uniq, R.key, R.led, h, R.few⟩
theorem relay_pile (R : Pile kd s.heap a L es ep t) {wanted N : Nat} (hw : SetTable.sizeAbove wanted - 1 = N) (hN : MaskOk N) (h128 : SetTable.sizeAbove wanted ≤ 128) (hr : L.length * 5 < N * 3) {Q : Unit → Shared → Prop}
    (hQ : ∀ h' L' es' ep' t', Heap.SameBut a s.heap h' → Tups kd h' a L' es' ep' t' → L'.Perm L → Q () { s with heap := h' }) : wpAny (model P w) A (setRelay a wanted) Q E s := by
  obtain ⟨o, ho, hex, hd⟩ := R.here
  have hsz := ents_size R.ent
  have hps := R.tab.sz
  rw [List.length_map] at hps
  obtain ⟨t', order, e, hp, T, em, el, _, _⟩ := relaid_ok t (hs := es.map (·.1)) hw hN (by rw [Array.size_map]; omega)
  rw [Array.size_map, hsz] at hp
  obtain ⟨L2, r1, r2, r3⟩ := reorder R.ent order hp
  rw [← r3] at T
  have hs2 : (order.filterMap (es[·]?)).size = es.size := by rw [ents_size r1, r2.length_eq, hsz]
  rw [setRelay_eq]
  refine wpAny_bind (wpAny_setState_of ho hd (fits_of R.tab.dm (by omega) (by have := R.some'; omega)) ?_)
  dsimp only
  refine wp_if_neg (by rw [sizeLine_eq]; omega) ?_
  try refine wpAny_bind (wpAny_pure ?_)
  rw [e]
  dsimp only
  refine wpAny_bind (wp_if_neg (by rw [hs2]; simp) ?_)
  try refine wpAny_bind (wpAny_pure ?_)
  refine wpAny_pure ?_
  dsimp only
  have hf := R.few
  refine wpAny_storeSet_of ho hd ?_ (by rw [hs2, hsz, sizeLine_eq]; omega)
  have sb : Heap.SameBut a s.heap (s.heap.update a (Obj.putSet (order.filterMap (es[·]?)) t')) := Heap.SameBut.update ..
  exact hQ _ L2 _ _ t' sb ⟨⟨_, store_at ho hd, ⟨hex.1, hex.2.1, hex.2.2⟩, rfl⟩, r1, T, (r2.map Prod.snd).nodup_iff.mpr R.uniq, fun e' he' => key_but (R.key e' (r2.mem_iff.mp he')) ho hd sb, by rw [el]; exact R.led, by rw [r2.length_eq, em]; exact hr, by rw [r2.length_eq]; exact hf⟩ r2
/-- A TUPLE IS PUT: what the set has then -/
theorem put_tup (M : Mute kd) (R : Tups kd s.heap a L es ep t) {x : Addr} {k : List κ} (hx : IsTupleKey kd s.heap k x) (hu : A.units < cLine) (hf : L.length + 1 < 64) {Q : Bool → Shared → Prop}
    (hQ : ∀ b h' L' es' ep' t', Heap.SameBut a s.heap h' → Tups kd h' a L' es' ep' t' → (∀ e ∈ L', e ∈ L ∨ e = (x, k)) → (∀ e ∈ L, e ∈ L') → k ∈ L'.map Prod.snd → L'.length ≤ L.length + 1 → Q b { s with heap := h' }) :
    wpAny (model P w) A (setAddHashed a (.ref x) (tupleKeyHash kd k)) Q E s := by
  obtain ⟨o, ho, hex, hd⟩ := R.here
  have hsz := ents_size R.ent
  have hroom := R.room
  have hturn : 10 * SetTable.turns t.mask ≤ 1420 := by
    unfold SetTable.turns
    rcases R.tab.mok with e | e | e <;> omega
  obtain ⟨K, hKf, hK, hb⟩ := R.tab.first (by rw [List.length_map]; omega) (tupleKeyHash kd k)
  unfold setAddHashed
  refine wpAny_holding ?_
  rw [show (100000 : Nat) = 99999 + 1 from rfl, setAddHashedIn_succ]
  refine wpAny_bind (wpAny_setState_of ho hd R.fits ?_)
  dsimp only
  refine wp_if_neg (by simp [byScan, Value.scannable]) ?_
  try refine wpAny_bind (wpAny_pure ?_)
  unfold setSearch
  refine wpAny_bind (tsLook M R hx hu hKf hK hb (fun hm => ?_) (fun hm => ?_) 100000 0 none rfl (Nat.zero_le _) (by omega) (fun c' hc' => by omega))
  · dsimp only
    exact wpAny_pure (hQ false s.heap L es ep t (Heap.SameBut.refl a s.heap) R (fun e he => .inl he) (fun e he => he) hm (by omega))
  · dsimp only
    refine wpAny_bind (wpAny_setState_of ho hd R.fits ?_)
    dsimp only
    obtain ⟨q1, q2, q3, q4, q5, q6, -⟩ := R.tab.put hK hb
    generalize hpt : t.put (way t.mask (tupleKeyHash kd k) K) = pt at q1 q3 q4 q5 q6 ⊢
    obtain ⟨t1, p⟩ := pt
    dsimp only at q1 q3 q4 q5 q6 ⊢
    rw [← q1] at q2 q3
    clear q1 hpt
    rw [List.length_map] at q2
    have hL1 : (L.take p ++ (x, k) :: L.drop p).Perm ((x, k) :: L) := put_perm L p (x, k)
    have he1 : (SetTable.insertAt es p (tupleKeyHash kd k, Value.ref x)).toList = ents kd (L.take p ++ (x, k) :: L.drop p) := by
      rw [SetTable.toList_insertAt, R.ent, ents, ents, List.map_append, List.map_cons, List.map_take, List.map_drop]
    have hh1 : (L.take p ++ (x, k) :: L.drop p).map (kh kd) = (L.map (kh kd)).take p ++ tupleKeyHash kd k :: (L.map (kh kd)).drop p := by
      rw [List.map_append, List.map_cons, List.map_take, List.map_drop]
    rw [← hh1] at q3
    have hlen := hL1.length_eq
    rw [List.length_cons] at hlen
    have hsz1 := ents_size he1
    generalize SetTable.insertAt es p (tupleKeyHash kd k, Value.ref x) = es1 at *
    generalize L.take p ++ (x, k) :: L.drop p = L1 at *
    have go : ∀ tb : SetTable, tb.mask = t1.mask → tb.place = t1.place → tb.dummies = t1.dummies → tb.led = t1.led →
        wpAny (model P w) A (storeSet a es1 tb >>= fun _ => if (!false && tb.tooFull) = true then setRelay a (SetTable.grown (es.size + 1)) >>= fun _ => pure true else pure true) Q E s := by
      intro tb b1 b2 b3 b4
      refine wpAny_bind (wpAny_storeSet_of ho hd ?_ (by rw [hsz1, sizeLine_eq]; omega))
      have sb : Heap.SameBut a s.heap (s.heap.update a (Obj.putSet es1 tb)) := Heap.SameBut.update ..
      have ho1 := store_at (es' := es1) (t' := tb) ho hd
      generalize s.heap.update a (Obj.putSet es1 tb) = h1 at sb ho1 ⊢
      have hmem : ∀ e ∈ L1, e ∈ L ∨ e = (x, k) := fun e he => by
        rcases List.mem_cons.mp (hL1.mem_iff.mp he) with h | h
        · exact .inr h
        · exact .inl h
      have R1 : Pile kd h1 a L1 es1 (ep + 1) tb := by
        refine ⟨⟨_, ho1, ⟨hex.1, hex.2.1, hex.2.2⟩, rfl⟩, he1, tab_like q3 b1 b2 b3, ?_, fun e he => ?_, by rw [b4, q5]; exact R.led, by rw [b1, q4]; omega, by omega⟩
        · refine (hL1.map Prod.snd).nodup_iff.mpr ?_
          rw [List.map_cons]
          exact List.nodup_cons.mpr ⟨hm, R.uniq⟩
        · rcases hmem e he with h | rfl
          · exact key_but (R.key e h) ho hd sb
          · exact key_but hx ho hd sb
      have hkL : k ∈ L1.map Prod.snd := List.mem_map.mpr ⟨(x, k), hL1.mem_iff.mpr List.mem_cons_self, rfl⟩
      have hsub : ∀ e ∈ L, e ∈ L1 := fun e he => hL1.mem_iff.mpr (List.mem_cons_of_mem _ he)
      have hfull : tb.tooFull = decide ((L1.length) * 5 ≥ tb.mask * 3) := by
        have h1 := R1.tab.sz
        rw [List.length_map] at h1
        unfold SetTable.tooFull SetTable.fill
        rw [R1.tab.dm]
        show decide ((tb.place.size + 0) * 5 ≥ tb.mask * 3) = _
        rw [h1, Nat.add_zero]
      by_cases hq : L1.length * 5 ≥ tb.mask * 3
      · refine wp_if_pos (by rw [hfull]; simpa using hq) ?_
        rw [hsz]
        have two : (t.mask = 7 ∧ L.length = 4) ∨ (t.mask = 31 ∧ L.length = 18) := by
          rw [b1, q4] at hq
          rcases R.tab.mok with e | e | e <;> rw [e] at hq hroom
          · exact .inl ⟨e, by omega⟩
          · exact .inr ⟨e, by omega⟩
          · omega
        have fin : ∀ N, SetTable.sizeAbove (SetTable.grown (L.length + 1)) - 1 = N → MaskOk N → SetTable.sizeAbove (SetTable.grown (L.length + 1)) ≤ 128 → L1.length * 5 < N * 3 →
            wpAny (model P w) A (setRelay a (SetTable.grown (L.length + 1)) >>= fun _ => pure true) Q E { s with heap := h1 } := fun N c1 c2 c3 c4 => by
          refine wpAny_bind (relay_pile (s := { s with heap := h1 }) R1 c1 c2 c3 c4 fun h2 L2 es2 ep2 t2 sb2 R2 pm => ?_)
          refine wpAny_pure (hQ true h2 L2 es2 ep2 t2 (sb.trans sb2) R2 (fun e he => hmem e (pm.mem_iff.mp he)) (fun e he => pm.mem_iff.mpr (hsub e he)) ((pm.map Prod.snd).mem_iff.mpr hkL) (by rw [pm.length_eq]; omega))
        rcases two with ⟨_, e⟩ | ⟨_, e⟩
        · refine fin 31 (by rw [e, size_20]) (.inr (.inl rfl)) (by rw [e, size_20]; decide) (by omega)
        · refine fin 127 (by rw [e, size_76]) (.inr (.inr rfl)) (by rw [e, size_76]; decide) (by omega)
      · refine wp_if_neg (by rw [hfull]; simpa using hq) ?_
        exact wpAny_pure (hQ true h1 L1 es1 (ep + 1) tb sb (R1.tups (s := { s with heap := h1 }) (by omega)) hmem hsub hkL (by omega))
    by_cases hpl : t1.plain = true
    · refine wp_if_pos hpl (wpAny_bind (tup_hby M hx fun y => ?_))
      cases y with
      | true => exact go t1 rfl rfl rfl rfl
      | false => exact go { t1 with plain := false } rfl rfl rfl rfl
    · refine wp_if_neg hpl (wpAny_bind (wpAny_pure ?_))
      exact go t1 rfl rfl rfl rfl
end
end Qh

/-! set(xs), its elements put one by one. -/
namespace Qh
open PySem PySem.Spec PyProof.Rows L2
section
variable {P : Program} {w : World} {A : Around} {E : Value → Shared → Prop} {s : Shared}
/-- one element after the other: J i what is known when i are in -/
theorem fill_set {I S : Addr} {fp wr : List Addr} {G : Array GenState → Array GenState → Prop} {n : Nat} {Pv : Nat → Value → Prop} {St : Nat → Shared → Prop} {R : Result → Shared → Prop}
    (W : WalksS P w A.in1 I fp wr G n Pv St) (hS : S ∉ fp) (J : Nat → Heap → Prop)
    (keep : ∀ i h h', (∀ b o, b ∉ wr → h.get? b = some o → h'.get? b = some o) → J i h → J i h')
    (step : ∀ i v (s' : Shared) (Q' : Bool → Shared → Prop) (E' : Value → Shared → Prop), i < n → Pv i v → J i s'.heap → (∀ b h' tk, Heap.SameBut S s'.heap h' → s'.toks ≤ tk → J (i + 1) h' → Q' b { s' with heap := h', toks := tk }) → wpAny (model P w) A.in1 (setAdd S v) Q' E' s') :
    ∀ (m i : Nat) (s : Shared), n - i = m → i ≤ n → St i s → J i s.heap → (∀ s', Moved (S :: wr) G s s' → J n s'.heap → R (.ok (.ret .none)) s') → codeAny (model P w) A (.builtin "set.update.loop" ⟨[.ref S, .ref I], []⟩) R s := by
  intro m
  induction m with
  | zero =>
    intro i s hm hi hst hJ hR
    have e : i = n := by omega
    subst e
    refine codeAny_builtin F.entry_set_update_loop ?_
    rw [Around.under_plainId F.plain_set_update_loop _]
    show wpAny _ A.in1 (pyNext (.ref I) >>= _) _ _ s
    refine wpAny_bind (W.done s _ _ hst fun s' hv => ?_)
    show wpAny _ A.in1 (ret Value.none) _ _ s'
    exact wpAny_pure (hR s' (hv.mono fun b hb => List.mem_cons_of_mem _ hb) (keep _ _ _ (fun b o hb e => hv.heap b o hb e) hJ))
  | succ m ih =>
    intro i s hm hi hst hJ hR
    refine codeAny_builtin F.entry_set_update_loop ?_
    rw [Around.under_plainId F.plain_set_update_loop _]
    show wpAny _ A.in1 (pyNext (.ref I) >>= _) _ _ s
    refine wpAny_bind (W.item i s _ _ (by omega) hst fun v s' hv hst' hmv => ?_)
    show wpAny _ A.in1 (holding [v] (setAdd S v) >>= _) _ _ s'
    refine wpAny_bind (wpAny_holding (step i v s' _ _ (by omega) hv (keep _ _ _ (fun b o hb e => hmv.heap b o hb e) hJ) fun b h' tk hsb htk hJ' => ?_))
    refine wpAny_pure ⟨plainId_quiet F.plain_set_update_loop _, ih (i + 1) _ (by omega) (by omega) (W.frame _ s' _ _ hst' htk fun c hc o e => ?_) hJ' fun s'' hmv2 hJ2 => hR s'' (Moved.trans W.gtrans ((hmv.mono fun c hc => List.mem_cons_of_mem _ hc).then_heap htk fun c o hc e => ?_) hmv2) hJ2⟩
    · exact (hsb.2 c fun z => hS (z ▸ hc)).trans e
    · exact (hsb.2 c fun z => hc (by rw [z]; exact List.mem_cons_self)).trans e

theorem set_of_list {l : Addr} {items : Array Value} {Q : Value → Shared → Prop} (hh : A.handled = none) (hl : s.heap.IsList l items) (hu : A.units + 3 < cLine) (J : Nat → Heap → Prop)
    (keep : ∀ i h h', (∀ b o, b ≤ s.heap.objs.size → h.get? b = some o → h'.get? b = some o) → J i h → J i h')
    (start : ∀ h, (∀ b o, s.heap.get? b = some o → h.get? b = some o) → h.get? s.heap.objs.size = some { cls := .type "set", dict := none, data := .set #[] 0 (.fresh 0 0 (!w.params.followText "set-order")) } → J 0 h)
    (step : ∀ (A' : Around), A'.units < cLine → ∀ i v (s' : Shared) (Q' : Bool → Shared → Prop) (E' : Value → Shared → Prop), i < items.size → items[i]? = some v → J i s'.heap → (∀ b h' tk, Heap.SameBut s.heap.objs.size s'.heap h' → s'.toks ≤ tk → J (i + 1) h' → Q' b { s' with heap := h', toks := tk }) → wpAny (model P w) A' (setAdd s.heap.objs.size v) Q' E' s')
    (h : ∀ (h' : Heap) (tk : Nat), s.toks ≤ tk → J items.size h' → (∀ b o, s.heap.get? b = some o → h'.get? b = some o) → Q (.ref s.heap.objs.size) { s with heap := h', toks := tk }) :
    wpAny (model P w) A (call (.type "set") [.ref l]) Q E s := by
  obtain ⟨c, tl, hmro⟩ := F.called_set.mro
  have hmade := F.called_set.made
  have hsub := F.called_set.sub
  refine wpAny_call (codeAny_of_tree ?_)
  show wpAny _ _ (callAny (.type "set") _) _ _ _
  refine wpAny_pure ⟨Code.quiet_builtin _ (by decide +kernel), codeAny_builtin F.entry_type_call ?_⟩
  rw [Around.under_plain (weight_type_call_type "set" [.ref l] []) rfl]
  have h1 := F.called_set.notType
  have h2 := F.called_set.canCreate
  have hct := F.typeCall_set_1 (.ref l)
  repeat (any_goals (first | assumption | wp_step))
  have hnw := code_set_led1 (P := P) (w := w) (A := A.in1) (s := s) (.ref l) (E := E) (Q₁ := fun obj s₁ => obj = .ref s.heap.objs.size ∧ s₁ = { s with heap := s.heap.push ({ cls := .type "set", dict := none, data := .set #[] 0 (.fresh 0 0 (!w.params.followText "set-order")) } : Obj) }) ⟨rfl, rfl⟩
  refine codeAny_mono hnw fun r s₁ hr => ?_
  cases r with
  | error e => exact hr
  | ok fl =>
    cases fl with
    | ret obj =>
      obtain ⟨rfl, rfl⟩ := hr
      have hS : (s.heap.push ({ cls := .type "set", dict := none, data := .set #[] 0 (.fresh 0 0 (!w.params.followText "set-order")) } : Obj)).get? s.heap.objs.size = some ({ cls := .type "set", dict := none, data := .set #[] 0 (.fresh 0 0 (!w.params.followText "set-order")) } : Obj) := Heap.get?_push_size _ rfl
      have hT : Shared.TypeIs { s with heap := s.heap.push ({ cls := .type "set", dict := none, data := .set #[] 0 (.fresh 0 0 (!w.params.followText "set-order")) } : Obj) } (.ref s.heap.objs.size) "set" := ⟨_, hS, rfl⟩
      have hli := F.called_set.init.lookup
      have hbi := F.called_set.init.bind (.ref s.heap.objs.size)
      repeat (any_goals (first | assumption | wp_step))
      refine codeAny_mono (codeAny_call_builtin (R := wants (fun r s₂ => r = .none ∧ ∃ h' tk, s₂ = { s with heap := h', toks := tk } ∧ s.toks ≤ tk ∧ J items.size h' ∧ (∀ b o, s.heap.get? b = some o → h'.get? b = some o)) E)
        F.called_set.init.plain F.entry_set_init (check_set_init_1 hT ?_)) fun r₂ s₂ hr₂ => ?_
      · obtain ⟨ol, hol, hcl, nl, hdl⟩ := hl
        obtain ⟨ocls, odict, odata, oslots⟩ := ol
        simp only at hcl hdl
        subst hcl; subst hdl
        have hol' : (s.heap.push ({ cls := .type "set", dict := none, data := .set #[] 0 (.fresh 0 0 (!w.params.followText "set-order")) } : Obj)).get? l = some { cls := .type "list", dict := odict, data := .seq items nl, slots := oslots } := Heap.get?_push_of_some _ hol
        have hsls := F.sub_list_set
        have hslf := F.sub_list_frozenset
        have hne : (Value.type "list" == Value.type "dict") = false := by decide
        have hl1 : (s.heap.push ({ cls := .type "set", dict := none, data := .set #[] 0 (.fresh 0 0 (!w.params.followText "set-order")) } : Obj)).IsList l items := ⟨_, hol', rfl, nl, rfl⟩
        have hlS : l < s.heap.objs.size := Heap.lt_size hol
        unfold Builtin.«set.__init__» noKeywords Builtin.Frozenset.updateFrom
        generalize hPI : pyIter = PI
        wp_walk
        subst hPI
        refine wpAny_pyIter_list hl1 ?_
        refine wpAny_bind (wpAny_runValue ?_)
        have hh3 : A.in1.in1.in1.handled = none := by simp [hh]
        have hneI : l ≠ (s.heap.push ({ cls := .type "set", dict := none, data := .set #[] 0 (.fresh 0 0 (!w.params.followText "set-order")) } : Obj)).objs.size := by rw [Heap.size_push]; exact Nat.ne_of_lt (Nat.lt_succ_of_lt hlS)
        refine fill_set ((Walks.list hh3 _ l hneI items).toS) (S := s.heap.objs.size) (by
            rw [Heap.size_push]
            simp only [List.mem_cons, List.not_mem_nil, or_false, not_or]
            exact ⟨Nat.ne_of_lt (Nat.lt_succ_self _), Nat.ne_of_gt hlS⟩) J (fun i h h' k => keep i h h' fun b o hb => k b o (by
              rw [Heap.size_push]
              intro e
              rw [List.mem_singleton.mp e] at hb
              exact absurd hb (Nat.not_succ_le_self _))) (fun i v s' Q' E' hi hv hJ hq => step _ hu i v s' Q' E' hi hv hJ hq) (items.size - 0) 0 _ (by omega) (Nat.zero_le _)
          ⟨⟨_, Heap.get?_push_size _ rfl, rfl, rfl⟩, (hl1.push _)⟩ (start _ (fun b o e => Heap.get?_push_of_some _ (Heap.get?_push_of_some _ e)) (Heap.get?_push_of_some _ hS)) fun s' hm hJ => ?_
        obtain ⟨h', g2, d', tk', os'⟩ := s'
        have eg : g2 = s.gens := hm.gens
        have ed : d' = s.drawn := hm.drawn
        have eo : os' = s.os := hm.os
        have et : s.toks ≤ tk' := hm.toks
        subst eg; subst ed; subst eo
        show wpAny _ _ _ _ _ _
        refine wpAny_pure ?_
        show wpAny _ _ (ret Value.none) _ _ _
        refine wpAny_pure ⟨rfl, h', tk', rfl, et, hJ, fun b o e => hm.heap b o (fun hb => ?_) (Heap.get?_push_of_some _ (Heap.get?_push_of_some _ e))⟩
        have hlt := Heap.lt_size e
        rw [Heap.size_push] at hb
        rcases List.mem_cons.mp hb with e2 | e2
        · rw [e2] at hlt
          exact absurd hlt (Nat.lt_irrefl _)
        · rw [List.mem_singleton.mp e2] at hlt
          exact absurd hlt (Nat.not_lt.mpr (Nat.le_succ _))
      · cases r₂ with
        | error e => exact hr₂
        | ok fl₂ =>
          cases fl₂ with
          | ret r =>
            obtain ⟨rfl, h', tk, rfl, et, hJ, hk⟩ := hr₂
            repeat (any_goals (first | assumption | wp_step))
            exact h _ _ et hJ hk
          | _ => exact hr₂.elim
    | _ => exact hr.elim

theorem set_of_tuple {l : Addr} {items : Array Value} {Q : Value → Shared → Prop} (hh : A.handled = none) (hl : s.heap.IsTuple l items) (hu : A.units + 3 < cLine) (J : Nat → Heap → Prop)
    (keep : ∀ i h h', (∀ b o, b ≤ s.heap.objs.size → h.get? b = some o → h'.get? b = some o) → J i h → J i h')
    (start : ∀ h, (∀ b o, s.heap.get? b = some o → h.get? b = some o) → h.get? s.heap.objs.size = some { cls := .type "set", dict := none, data := .set #[] 0 (.fresh 0 0 (!w.params.followText "set-order")) } → J 0 h)
    (step : ∀ (A' : Around), A'.units < cLine → ∀ i v (s' : Shared) (Q' : Bool → Shared → Prop) (E' : Value → Shared → Prop), i < items.size → items[i]? = some v → J i s'.heap → (∀ b h' tk, Heap.SameBut s.heap.objs.size s'.heap h' → s'.toks ≤ tk → J (i + 1) h' → Q' b { s' with heap := h', toks := tk }) → wpAny (model P w) A' (setAdd s.heap.objs.size v) Q' E' s')
    (h : ∀ (h' : Heap) (tk : Nat), s.toks ≤ tk → J items.size h' → (∀ b o, s.heap.get? b = some o → h'.get? b = some o) → Q (.ref s.heap.objs.size) { s with heap := h', toks := tk }) :
    wpAny (model P w) A (call (.type "set") [.ref l]) Q E s := by
  obtain ⟨c, tl, hmro⟩ := F.called_set.mro
  have hmade := F.called_set.made
  have hsub := F.called_set.sub
  refine wpAny_call (codeAny_of_tree ?_)
  show wpAny _ _ (callAny (.type "set") _) _ _ _
  refine wpAny_pure ⟨Code.quiet_builtin _ (by decide +kernel), codeAny_builtin F.entry_type_call ?_⟩
  rw [Around.under_plain (weight_type_call_type "set" [.ref l] []) rfl]
  have h1 := F.called_set.notType
  have h2 := F.called_set.canCreate
  have hct := F.typeCall_set_1 (.ref l)
  repeat (any_goals (first | assumption | wp_step))
  have hnw := code_set_led1 (P := P) (w := w) (A := A.in1) (s := s) (.ref l) (E := E) (Q₁ := fun obj s₁ => obj = .ref s.heap.objs.size ∧ s₁ = { s with heap := s.heap.push ({ cls := .type "set", dict := none, data := .set #[] 0 (.fresh 0 0 (!w.params.followText "set-order")) } : Obj) }) ⟨rfl, rfl⟩
  refine codeAny_mono hnw fun r s₁ hr => ?_
  cases r with
  | error e => exact hr
  | ok fl =>
    cases fl with
    | ret obj =>
      obtain ⟨rfl, rfl⟩ := hr
      have hS : (s.heap.push ({ cls := .type "set", dict := none, data := .set #[] 0 (.fresh 0 0 (!w.params.followText "set-order")) } : Obj)).get? s.heap.objs.size = some ({ cls := .type "set", dict := none, data := .set #[] 0 (.fresh 0 0 (!w.params.followText "set-order")) } : Obj) := Heap.get?_push_size _ rfl
      have hT : Shared.TypeIs { s with heap := s.heap.push ({ cls := .type "set", dict := none, data := .set #[] 0 (.fresh 0 0 (!w.params.followText "set-order")) } : Obj) } (.ref s.heap.objs.size) "set" := ⟨_, hS, rfl⟩
      have hli := F.called_set.init.lookup
      have hbi := F.called_set.init.bind (.ref s.heap.objs.size)
      repeat (any_goals (first | assumption | wp_step))
      refine codeAny_mono (codeAny_call_builtin (R := wants (fun r s₂ => r = .none ∧ ∃ h' tk, s₂ = { s with heap := h', toks := tk } ∧ s.toks ≤ tk ∧ J items.size h' ∧ (∀ b o, s.heap.get? b = some o → h'.get? b = some o)) E)
        F.called_set.init.plain F.entry_set_init (check_set_init_1 hT ?_)) fun r₂ s₂ hr₂ => ?_
      · obtain ⟨ol, hol, hcl, nl, hdl⟩ := hl
        obtain ⟨ocls, odict, odata, oslots⟩ := ol
        simp only at hcl hdl
        subst hcl; subst hdl
        have hol' : (s.heap.push ({ cls := .type "set", dict := none, data := .set #[] 0 (.fresh 0 0 (!w.params.followText "set-order")) } : Obj)).get? l = some { cls := .type "tuple", dict := odict, data := .seq items nl, slots := oslots } := Heap.get?_push_of_some _ hol
        have hsls := F.sub_tuple_set
        have hslf := F.sub_tuple_frozenset
        have hne : (Value.type "tuple" == Value.type "dict") = false := by decide
        have hl1 : (s.heap.push ({ cls := .type "set", dict := none, data := .set #[] 0 (.fresh 0 0 (!w.params.followText "set-order")) } : Obj)).IsTuple l items := ⟨_, hol', rfl, nl, rfl⟩
        have hlS : l < s.heap.objs.size := Heap.lt_size hol
        unfold Builtin.«set.__init__» noKeywords Builtin.Frozenset.updateFrom
        generalize hPI : pyIter = PI
        wp_walk
        subst hPI
        refine wpAny_pyIter_tuple hl1 ?_
        refine wpAny_bind (wpAny_runValue ?_)
        have hh3 : A.in1.in1.in1.handled = none := by simp [hh]
        have hneI : l ≠ (s.heap.push ({ cls := .type "set", dict := none, data := .set #[] 0 (.fresh 0 0 (!w.params.followText "set-order")) } : Obj)).objs.size := by rw [Heap.size_push]; exact Nat.ne_of_lt (Nat.lt_succ_of_lt hlS)
        refine fill_set ((Walks.tuple hh3 _ l hneI items).toS) (S := s.heap.objs.size) (by
            rw [Heap.size_push]
            simp only [List.mem_cons, List.not_mem_nil, or_false, not_or]
            exact ⟨Nat.ne_of_lt (Nat.lt_succ_self _), Nat.ne_of_gt hlS⟩) J (fun i h h' k => keep i h h' fun b o hb => k b o (by
              rw [Heap.size_push]
              intro e
              rw [List.mem_singleton.mp e] at hb
              exact absurd hb (Nat.not_succ_le_self _))) (fun i v s' Q' E' hi hv hJ hq => step _ hu i v s' Q' E' hi hv hJ hq) (items.size - 0) 0 _ (by omega) (Nat.zero_le _)
          ⟨⟨_, Heap.get?_push_size _ rfl, rfl, rfl⟩, (hl1.push _)⟩ (start _ (fun b o e => Heap.get?_push_of_some _ (Heap.get?_push_of_some _ e)) (Heap.get?_push_of_some _ hS)) fun s' hm hJ => ?_
        obtain ⟨h', g2, d', tk', os'⟩ := s'
        have eg : g2 = s.gens := hm.gens
        have ed : d' = s.drawn := hm.drawn
        have eo : os' = s.os := hm.os
        have et : s.toks ≤ tk' := hm.toks
        subst eg; subst ed; subst eo
        show wpAny _ _ _ _ _ _
        refine wpAny_pure ?_
        show wpAny _ _ (ret Value.none) _ _ _
        refine wpAny_pure ⟨rfl, h', tk', rfl, et, hJ, fun b o e => hm.heap b o (fun hb => ?_) (Heap.get?_push_of_some _ (Heap.get?_push_of_some _ e))⟩
        have hlt := Heap.lt_size e
        rw [Heap.size_push] at hb
        rcases List.mem_cons.mp hb with e2 | e2
        · rw [e2] at hlt
          exact absurd hlt (Nat.lt_irrefl _)
        · rw [List.mem_singleton.mp e2] at hlt
          exact absurd hlt (Nat.not_lt.mpr (Nat.le_succ _))
      · cases r₂ with
        | error e => exact hr₂
        | ok fl₂ =>
          cases fl₂ with
          | ret r =>
            obtain ⟨rfl, h', tk, rfl, et, hJ, hk⟩ := hr₂
            repeat (any_goals (first | assumption | wp_step))
            exact h _ _ et hJ hk
          | _ => exact hr₂.elim
    | _ => exact hr.elim
end
end Qh

/-! Tuples of texts in order, each once. -/
namespace Qh
open PySem PySem.Spec PyProof.Rows L2
/-! ### keys -/
def ky (k : List Str) : PyData := .tuple (k.map PyData.str)
def leK (a b : List Str) : Bool := PySem.W.dataLe false ky a b
def ddK : List (List Str) → List (List Str)
  | [] => []
  | x :: l => if x ∈ l then ddK l else x :: ddK l
theorem mem_ddK {x : List Str} : ∀ {l : List (List Str)}, x ∈ ddK l ↔ x ∈ l
  | [] => Iff.rfl
  | y :: l => by
    unfold ddK
    split
    · rename_i h
      rw [mem_ddK, List.mem_cons]
      exact ⟨.inr, fun z => z.elim (fun e => e ▸ h) id⟩
    · rw [List.mem_cons, List.mem_cons, mem_ddK]
theorem nodup_ddK : ∀ l : List (List Str), (ddK l).Nodup
  | [] => List.nodup_nil
  | y :: l => by
    unfold ddK
    split
    · exact nodup_ddK l
    · rename_i h
      exact List.nodup_cons.mpr ⟨fun z => h (mem_ddK.mp z), nodup_ddK l⟩
theorem toks_inj : ∀ {a b : List Str}, PySem.W.keyToksAll (a.map PyData.str) = PySem.W.keyToksAll (b.map PyData.str) → a = b
  | [], [], _ => rfl
  | [], y :: b, h => by
    rw [List.map_nil, List.map_cons, PySem.W.toks_all_cons, PySem.W.keyToksAll] at h
    injection h with h1 h2
    cases h1
  | x :: a, [], h => by
    rw [List.map_nil, List.map_cons, PySem.W.toks_all_cons, PySem.W.keyToksAll] at h
    injection h with h1 h2
    cases h1
  | x :: a, y :: b, h => by
    rw [List.map_cons, List.map_cons, PySem.W.toks_all_cons, PySem.W.toks_all_cons, PySem.W.keyToks, PySem.W.keyToks] at h
    injection h with h1 h2
    injection h2 with h3 h4
    injection h3 with h3
    rw [PySem.W.str_of_cps h3, toks_inj h4]
theorem leK_total : PySem.W.TotalLe leK := (show PySem.W.TotalLe (PySem.W.dataLe false ky) from PySem.W.sortLe_total _ _ _)
theorem leK_anti {a b : List Str} (h1 : leK a b = true) (h2 : leK b a = true) : a = b := by
  have e : ∀ x y : List Str, leK x y = !PyProof.Rows.lexLt itemOrd (PySem.W.keyToks (ky y)) (PySem.W.keyToks (ky x)) := fun x y => rfl
  rw [e, Bool.not_eq_true'] at h1 h2
  have h3 := lex_total _ _ h2 h1
  exact toks_inj (by simpa only [ky, PySem.W.keyToks] using h3)
theorem sortK_eq {l m : List (List Str)} (p : l.Perm m) : isort leK l = isort leK m := by
  have hp : (isort leK l).Perm (isort leK m) := by
    rw [isort_eq leK_total, isort_eq leK_total]
    exact (List.mergeSort_perm l _).trans (p.trans (List.mergeSort_perm m _).symm)
  exact hp.eq_of_pairwise (fun a b _ _ h1 h2 => leK_anti h1 h2) (isort_sorted leK_total l) (isort_sorted leK_total m)
def ssK (l : List (List Str)) : List (List Str) := isort leK (ddK l)
theorem perm_back {α β : Type} {f : α → β} {l m : List β} (p : l.Perm m) : ∀ L : List α, m = L.map f → ∃ L1 : List α, L1.Perm L ∧ l = L1.map f := by
  induction p with
  | nil => exact fun L h => ⟨L, List.Perm.refl _, h⟩
  | cons x _ ih =>
    intro L h
    cases L with
    | nil => cases h
    | cons y L =>
      injection h with h1 h2
      obtain ⟨L1, q, rfl⟩ := ih L h2
      exact ⟨y :: L1, q.cons y, by rw [List.map_cons, h1]⟩
  | swap x y l =>
    intro L h
    match L, h with
    | a :: b :: L, h =>
      injection h with h1 h2
      injection h2 with h2 h3
      exact ⟨b :: a :: L, List.Perm.swap a b L, by rw [List.map_cons, List.map_cons, ← h1, ← h2, ← h3]⟩
  | trans _ _ ih1 ih2 =>
    intro L h
    obtain ⟨L1, q1, e1⟩ := ih2 L h
    obtain ⟨L2, q2, e2⟩ := ih1 L1 e1
    exact ⟨L2, q2.trans q1, e2⟩
/-! ### a tuple of texts as it is read -/
section
variable {P : Program} {w : World} {A : Around} {E : Value → Shared → Prop} {s : Shared}
theorem reads_strs {h : Heap} {k : List Str} {vs : List Value} (i : ItemsAre (PySem.strKind P w) k vs) : ReadsAll h vs (k.map PyData.str) [] := by
  induction i with
  | nil => exact .nil
  | @cons x v ks vs h1 _ ih =>
    obtain ⟨t, rfl⟩ := Value.isStrOf_shape h1
    exact ReadsAll.cons (as := []) (bs := []) (.str x t) ih
theorem reads_key {h : Heap} {k : List Str} {b : Addr} (x : IsTupleKey (PySem.strKind P w) h k b) : Reads h (.ref b) (ky k) [] := by
  obtain ⟨o, its, n, ho, hc, hd, hi⟩ := x
  exact .tuple ho hc hd (reads_strs hi)
theorem alike_strs : ∀ a b : List Str, PySem.W.alikeAll (a.map PyData.str) (b.map PyData.str) = true
  | [], b => by rw [List.map_nil, PySem.W.alikeAll]
  | x :: a, [] => by rw [List.map_nil, List.map_cons, PySem.W.alikeAll]
  | x :: a, y :: b => by rw [List.map_cons, List.map_cons, PySem.W.alikeAll, PySem.W.alike, alike_strs a b]; rfl
theorem alike_ky (a b : List Str) : PySem.W.alike (ky a) (ky b) = true := by
  unfold ky
  rw [PySem.W.alike, alike_strs]
theorem depth_strs : ∀ a : List Str, PyData.depthAll (a.map PyData.str) = 0
  | [] => by rw [List.map_nil, PyData.depthAll]
  | x :: a => by rw [List.map_cons, PyData.depthAll, PyData.depth, depth_strs a]; rfl
theorem depth_ky (a : List Str) : (ky a).depth ≤ 1 := by
  unfold ky
  rw [PyData.depth, depth_strs]
  omega
theorem key_keep {h h' : Heap} {κ : Type} [DecidableEq κ] {kd : PySem.KeyKind P w κ} {k : List κ} {b : Addr} (x : IsTupleKey kd h k b) (hk : ∀ o, h.get? b = some o → h'.get? b = some o) : IsTupleKey kd h' k b := by
  obtain ⟨o, its, n, ho, r⟩ := x
  exact ⟨o, its, n, hk o ho, r⟩
/-- sorted(s), s a set of tuples of texts -/
theorem sorted_tups {a : Addr} {L : List (Ent Str)} {es : Array (Int × Value)} {ep : Nat} {t : SetTable} {Q : Value → Shared → Prop} (R : Tups (PySem.strKind P w) s.heap a L es ep t) (hh : A.handled = none) (hu : A.units + 60 < cLine) (hne : ∀ e ∈ L, e.2 ≠ [])
    (hQ : ∀ s' p (out : Array Value) (c : Nat) (L' : List (Ent Str)), (∀ b o, s.heap.get? b = some o → s'.heap.get? b = some o) → s'.gens = s.gens → s'.os = s.os → s.heap.objs.size ≤ p →
      s'.heap.get? p = some (seqObj "list" out c) → out.toList = L'.map (fun e => Value.ref e.1) → L'.Perm L → L'.map Prod.snd = isort leK (L.map Prod.snd) → Q (.ref p) s') :
    wpAny (model P w) A (call (.builtin "sorted") [.ref a]) Q E s := by
  obtain ⟨o, ho, hex, hd⟩ := R.here
  have hsz := ents_size R.ent
  have hfew := R.few
  refine Calls.call_function_entry kind_sorted plain_sorted entry_sorted (args_sorted1 _) ?_
  unfold Builtin.«sorted»
  refine wpAny_bind (m := checkCount "sorted" 1 1 _) (wpAny_pure ?_)
  refine wpAny_bind (collect_set (A := A.in1) hh ⟨o, ho, hex.1, hd⟩ R.fits (by unfold scanBound; omega) R.tab.ris R.led fun s1 vs k1 hz g1 o1 pm => ?_)
  have hes : es.toList.map (·.2) = L.map fun e => Value.ref e.1 := by rw [R.ent, ents, List.map_map]; rfl
  rw [hes] at pm
  obtain ⟨L1, pL, rfl⟩ := perm_back pm L rfl
  have hlen : (L1.map fun e : Ent Str => Value.ref e.1).length = L.length := by rw [List.length_map, pL.length_eq]
  refine wpAny_bind (wpAny_newList ?_ (by rw [sizeLine_eq, hlen]; omega))
  have hoL : (s1.heap.push (seqObj "list" (L1.map fun e : Ent Str => Value.ref e.1).toArray 0)).get? s1.heap.objs.size = some (seqObj "list" (L1.map fun e : Ent Str => Value.ref e.1).toArray 0) := Heap.get?_push_size _ rfl
  have e1 : ∀ l : List (Ent Str), PySem.W.EachIs (fun (u : Value) (e : Ent Str) => u = Value.ref e.1) (l.map fun e => Value.ref e.1) l := fun l => by
    induction l with
    | nil => exact .nil
    | cons e l ih => exact .cons rfl ih
  have e2 : ∀ l : List (Ent Str), (∀ e ∈ l, e ∈ L) → PySem.W.EachIs (fun (u : Value) (e : Ent Str) => ∃ as, Reads (s1.heap.push (seqObj "list" (L1.map fun e : Ent Str => Value.ref e.1).toArray 0)) u (ky e.2) as ∧ s1.heap.objs.size ∉ as) (l.map fun e => Value.ref e.1) l := fun l => by
    induction l with
    | nil => exact fun _ => .nil
    | cons e l ih =>
      intro hl
      exact .cons ⟨[], reads_key (key_keep (R.key e (hl e List.mem_cons_self)) fun u hu => Heap.get?_push_of_some _ (k1 _ _ hu)), by simp⟩ (ih fun e' he' => hl e' (List.mem_cons_of_mem _ he'))
  have hsub : ∀ e ∈ L1, e ∈ L := fun e he => pL.mem_iff.mp he
  refine wpAny_bind (wpAny_holding (PySem.W.list_sort_data (s := { s1 with heap := s1.heap.push (seqObj "list" (L1.map fun e : Ent Str => Value.ref e.1).toArray 0) }) (enc := fun e : Ent Str => ky e.2) hoL (e1 L1) (e2 L1 hsub)
    (PySem.W.AllAlike.of fun b b' => alike_ky b.2 b'.2) (.inl fun d hd => ?_) (by rw [pL.length_eq, sizeLine_eq]; omega) (fun b hb => ?_) fun out ho1 ho2 => ?_))
  · obtain ⟨b, hb, rfl⟩ := List.mem_map.mp hd
    have := hne b (hsub b hb)
    cases hk : b.2 with
    | nil => exact absurd hk this
    | cons x r => exact ⟨.str x, r.map .str, rfl⟩
  · have := depth_ky b.2
    show A.units + 1 + 1 + (ky b.2).depth < cLine
    omega
  · obtain ⟨c, hc⟩ := sortedHeap_at (vs := L1.map fun e : Ent Str => Value.ref e.1) (out := out.toArray) hoL
    have e3 : ∀ (us : List Value) (l : List (Ent Str)), PySem.W.EachIs (fun (u : Value) (e : Ent Str) => u = Value.ref e.1) us l → us = l.map fun e => Value.ref e.1 := fun us l h => by
      induction h with
      | nil => rfl
      | cons h1 _ ih => rw [h1, ih]; rfl
    have hout := e3 _ _ ho2
    have hsrt : (L1.mergeSort (PySem.W.dataLe false fun e : Ent Str => ky e.2)).map Prod.snd = isort leK (L.map Prod.snd) := by
      rw [← isort_eq (show PySem.W.TotalLe (PySem.W.dataLe false fun e : Ent Str => ky e.2) from PySem.W.sortLe_total _ _ _)]
      exact (isort_map (r := PySem.W.dataLe false fun e : Ent Str => ky e.2) (s := leK) Prod.snd fun a _ b _ => rfl).trans (sortK_eq (pL.map Prod.snd))
    refine wpAny_pure ⟨_, rfl, hQ _ s1.heap.objs.size out.toArray c _ (fun b u e => ?_) g1 o1 hz hc (by rw [← hout]) ((List.mergeSort_perm _ _).trans pL) hsrt⟩
    have q := k1 b u e
    have hlt := Heap.lt_size q
    show (sortedHeap (s1.heap.push (seqObj "list" (L1.map fun e : Ent Str => Value.ref e.1).toArray 0)) s1.heap.objs.size _ out.toArray).get? b = some u
    rw [sortedHeap_old (Nat.ne_of_lt hlt) (by rw [size_push']; exact Nat.lt_succ_of_lt hlt)]
    exact Heap.get?_push_of_some _ q
end
end Qh

/-! len(set(xs)) of texts, sorted(set(xs)) of tuples of texts. -/
namespace Qh
open PySem PySem.Spec PyProof.Rows L2
def dxS : List Str → List Str
  | [] => []
  | x :: l => if x ∈ l then dxS l else x :: dxS l
theorem mem_dxS {x : Str} : ∀ {l : List Str}, x ∈ dxS l ↔ x ∈ l
  | [] => Iff.rfl
  | y :: l => by
    unfold dxS
    split
    · rename_i h
      rw [mem_dxS, List.mem_cons]
      exact ⟨.inr, fun z => z.elim (fun e => e ▸ h) id⟩
    · rw [List.mem_cons, List.mem_cons, mem_dxS]
theorem nodup_dxS : ∀ l : List Str, (dxS l).Nodup
  | [] => List.nodup_nil
  | y :: l => by
    unfold dxS
    split
    · exact nodup_dxS l
    · rename_i h
      exact List.nodup_cons.mpr ⟨fun z => h (mem_dxS.mp z), nodup_dxS l⟩
theorem take_snoc {α : Type} {l : List α} {i : Nat} {x : α} (h : l[i]? = some x) : l.take (i + 1) = l.take i ++ [x] := by
  rw [List.take_succ, h]
  rfl
section
variable {P : Program} {w : World} {A : Around} {E : Value → Shared → Prop} {s : Shared}
/-- the first i texts are in -/
def InS (P : Program) (w : World) (S : Addr) (xs : List Str) (i : Nat) (h : Heap) : Prop := ∃ l : List Str, l.Nodup ∧ (∀ x, x ∈ l ↔ x ∈ xs.take i) ∧ h.SetOf (PySem.strKind P w) S (fun k => decide (k ∈ l)) l.length
theorem InS.keep {S : Addr} {xs : List Str} {i : Nat} {h h' : Heap} (J : InS P w S xs i h) (k : ∀ o, h.get? S = some o → h'.get? S = some o) : InS P w S xs i h' := by
  obtain ⟨l, h1, h2, o, es, ep, t, ho, r⟩ := J
  exact ⟨l, h1, h2, o, es, ep, t, k o ho, r⟩
theorem InS.zero {S : Addr} {xs : List Str} {h : Heap} {led : Bool} (ho : h.get? S = some { cls := .type "set", dict := none, data := .set #[] 0 (.fresh 0 0 led) }) : InS P w S xs 0 h :=
  ⟨[], List.nodup_nil, by simp, SetOf_congr ((setObjOf_fresh (knd := PySem.strKind P w) led).setOf ho (by unfold scanBound; omega)) (fun k => by simp) rfl⟩
theorem InS.step {S : Addr} {xs : List Str} {i : Nat} {v : Value} {x : Str} {t : Tok} (hf : xs.length ≤ 1000) (hx : xs[i]? = some x) (hv : v = .str x t) (J : InS P w S xs i s.heap) {Q : Bool → Shared → Prop}
    (hQ : ∀ b h' tk, Heap.SameBut S s.heap h' → s.toks ≤ tk → InS P w S xs (i + 1) h' → Q b { s with heap := h', toks := tk }) : wpAny (model P w) A (setAdd S v) Q E s := by
  subst hv
  obtain ⟨l, h1, h2, h3⟩ := J
  have hsz : l.length ≤ 1000 := by
    have hp : l.Perm (dxS (xs.take i)) := (List.perm_ext_iff_of_nodup h1 (nodup_dxS _)).mpr fun z => by rw [h2, mem_dxS]
    have hle : ∀ m : List Str, (dxS m).length ≤ m.length := fun m => by
      induction m with
      | nil => exact Nat.le_refl _
      | cons y m ih => unfold dxS; split <;> simp only [List.length_cons] <;> omega
    have h4 := hle (xs.take i)
    rw [List.length_take] at h4
    rw [hp.length_eq]
    omega
  unfold setAdd
  refine wpAny_holding ?_
  refine wpAny_bind ((PySem.strKind P w).pyHash (k := x) (strKind_is _ _ _ _) ?_)
  refine wpAny_setAddHashed_of (knd := PySem.strKind P w) (s := { s with toks := s.toks + 1 }) (strKind_is _ _ _ _) rfl h3 (by unfold scanBound; omega) fun h' hsb hS => ?_
  refine hQ _ h' (s.toks + 1) hsb (Nat.le_succ _) ?_
  by_cases hm : x ∈ l
  · refine ⟨l, h1, fun z => ?_, SetOf_congr hS (fun k => ?_) (by simp [hm])⟩
    · rw [take_snoc hx, List.mem_append, List.mem_singleton, ← h2]
      exact ⟨.inl, fun q => q.elim id fun e => e ▸ hm⟩
    · by_cases e : k = x
      · subst e; simp [hm]
      · simp [e]
  · refine ⟨x :: l, List.nodup_cons.mpr ⟨hm, h1⟩, fun z => ?_, SetOf_congr hS (fun k => ?_) (by simp [hm])⟩
    · rw [take_snoc hx, List.mem_append, List.mem_singleton, ← h2, List.mem_cons]
      exact Or.comm
    · by_cases e : k = x
      · subst e; simp
      · simp [e]
/-- the first i tuples are in -/
def InT (P : Program) (w : World) (h0 : Heap) (S : Addr) (ks : List (Ent Str)) (i : Nat) (h : Heap) : Prop := (∃ L es ep t, Tups (PySem.strKind P w) h S L es ep t ∧ (∀ e ∈ L, e ∈ ks.take i) ∧ (∀ e ∈ ks.take i, e.2 ∈ L.map Prod.snd) ∧ L.length ≤ i) ∧ ∀ b o, h0.get? b = some o → h.get? b = some o
theorem InT.keep {h0 : Heap} {S : Addr} {ks : List (Ent Str)} (hk : ∀ e ∈ ks, IsTupleKey (PySem.strKind P w) h0 e.2 e.1) {i : Nat} {h h' : Heap} (J : InT P w h0 S ks i h) (k : ∀ o, h.get? S = some o → h'.get? S = some o)
    (k0 : ∀ b o, h0.get? b = some o → h'.get? b = some o) : InT P w h0 S ks i h' := by
  obtain ⟨⟨L, es, ep, t, R, h1, h2, h3⟩, _⟩ := J
  obtain ⟨o, ho, r⟩ := R.here
  exact ⟨⟨L, es, ep, t, ⟨⟨o, k o ho, r⟩, R.ent, R.tab, R.uniq, fun e he => key_keep (hk e (List.mem_of_mem_take (h1 e he))) fun u hu => k0 _ _ hu, R.led, R.room, R.few⟩, h1, h2, h3⟩, k0⟩
theorem InT.zero {h0 : Heap} {S : Addr} {ks : List (Ent Str)} {h : Heap} (k0 : ∀ b o, h0.get? b = some o → h.get? b = some o) (ho : h.get? S = some { cls := .type "set", dict := none, data := .set #[] 0 (.fresh 0 0 (!w.params.followText "set-order")) }) : InT P w h0 S ks 0 h := by
  refine ⟨⟨[], #[], 0, _, ⟨⟨_, ho, ⟨rfl, rfl, rfl⟩, rfl⟩, rfl, ⟨List.Pairwise.nil, rfl, rfl, .inl rfl, fun x hx => (by cases hx), fun i h j hi => (by simp at hi)⟩, List.nodup_nil, fun e he => (by cases he), ?_, ?_, ?_⟩, fun e he => (by cases he), fun e he => (by simp at he), Nat.le_refl _⟩, k0⟩
  · show _ ∨ (!w.params.followText "set-order") = true
    cases w.params.followText "set-order"
    · exact .inr rfl
    · exact .inl rfl
  · show 0 * 5 < 7 * 3
    decide
  · show 0 < 64
    decide
theorem InT.step {h0 : Heap} {S : Addr} {ks : List (Ent Str)} {i : Nat} {v : Value} {e : Ent Str} (hk : ∀ e ∈ ks, IsTupleKey (PySem.strKind P w) h0 e.2 e.1) (hS : h0.get? S = none) (hu : A.units < cLine) (hf : ks.length < 64) (he : ks[i]? = some e) (hv : v = .ref e.1)
    (J : InT P w h0 S ks i s.heap) {Q : Bool → Shared → Prop} (hQ : ∀ b h' tk, Heap.SameBut S s.heap h' → s.toks ≤ tk → InT P w h0 S ks (i + 1) h' → Q b { s with heap := h', toks := tk }) : wpAny (model P w) A (setAdd S v) Q E s := by
  subst hv
  obtain ⟨⟨L, es, ep, t, R, h1, h2, h3⟩, k0⟩ := J
  have hil : i < ks.length := (List.getElem?_eq_some_iff.mp he).1
  have hx : IsTupleKey (PySem.strKind P w) s.heap e.2 e.1 := key_keep (hk e (List.mem_of_getElem? he)) fun u hu => k0 _ _ hu
  unfold setAdd
  refine wpAny_holding ?_
  refine wpAny_bind (wpAny_pyHash_tuple hu hx ?_)
  refine put_tup (s := { s with toks := s.toks + (e.2.length + 1) }) mute_str R hx hu (by omega) fun b h' L' es' ep' t' hsb R' g1 g2 g3 g4 => hQ b h' _ hsb (Nat.le_add_right _ _) ⟨⟨L', es', ep', t', R', fun e' he' => ?_, fun e' he' => ?_, by omega⟩, fun c o hc => ?_⟩
  · rw [take_snoc he, List.mem_append, List.mem_singleton]
    rcases g1 e' he' with h | h
    · exact .inl (h1 e' h)
    · exact .inr h
  · rw [take_snoc he, List.mem_append, List.mem_singleton] at he'
    rcases he' with h | h
    · obtain ⟨z, hz, ez⟩ := List.mem_map.mp (h2 e' h)
      exact List.mem_map.mpr ⟨z, g2 z hz, ez⟩
    · rw [h]; exact g3
  · refine (hsb.2 c fun z => ?_).trans (k0 c o hc)
    rw [z, hS] at hc
    cases hc
end
/-! ### the rules -/
section
variable {X : Cx}
theorem strs_at' : ∀ {xs : List Str} {us : List Value}, Vals (xs.map V.str) us → ∀ (i : Nat) (v : Value), us[i]? = some v → ∃ x t, xs[i]? = some x ∧ v = .str x t
  | [], _, .nil, i, v, h => by simp at h
  | y :: ys, _, .cons r t, 0, v, h => by
    obtain ⟨k, rfl⟩ := r
    simp only [List.getElem?_cons_zero, Option.some.injEq] at h
    exact ⟨y, k, rfl, h.symm⟩
  | y :: ys, _, .cons r t, i + 1, v, h => by
    rw [List.getElem?_cons_succ] at h ⊢
    exact strs_at' t i v h
theorem refs_at' : ∀ {ks : List (Ent Str)} {us : List Value}, Vals (ks.map fun e => V.ref e.1) us → ∀ (i : Nat) (v : Value), us[i]? = some v → ∃ e, ks[i]? = some e ∧ v = .ref e.1
  | [], _, .nil, i, v, h => by simp at h
  | y :: ys, _, .cons r t, 0, v, h => by
    cases r
    simp only [List.getElem?_cons_zero, Option.some.injEq] at h
    exact ⟨y, rfl, h.symm⟩
  | y :: ys, _, .cons r t, i + 1, v, h => by
    rw [List.getElem?_cons_succ] at h ⊢
    exact refs_at' t i v h
theorem items_strs {P : Program} {w : World} : ∀ {k : List Str} {us : List Value}, Vals (k.map V.str) us → ItemsAre (PySem.strKind P w) k us
  | [], _, .nil => .nil
  | x :: k, _, .cons r t => by
    obtain ⟨tk, rfl⟩ := r
    exact .cons (strKind_is _ _ _ _) (items_strs t)
theorem key_of {pins : List (Addr × Obj)} {σ : L2.St} {H : Hp} {s : Shared} {b : Addr} {k : List Str} (I : Inv X pins σ H s) (h : SqT X.K H b (k.map V.str)) : IsTupleKey (PySem.strKind X.prog X.w) s.heap k b := by
  obtain ⟨its, r, ⟨o, ho, hc, n, hd⟩, _⟩ := I.tuple h
  exact ⟨o, its.toArray, n, ho, hc, hd, by simpa using items_strs r⟩
/-- len(set(xs)), xs a tuple of texts -/
def tLenSetS (K : PySem.W.Frag) (ta : TE) : TE := fun σ H Q => ta σ H fun x H1 => ∃ (l : Addr) (xs : List Str), x = V.ref l ∧ SqT K H1 l (xs.map V.str) ∧ xs.length ≤ 1000 ∧ Q (.int (dxS xs).length) H1
theorem pe_lenSetS {a : Expr} {ta : TE} {p p2 q pos : Pos} (hc : X.calm = true) (hu : X.A.units + 64 < cLine) (hg : Gl X "len") (hm : X.mg "len" = none) (hg2 : Gl X "set") (hm2 : X.mg "set" = none) (ha : PE X a ta)
    (na : starEach [a] X.env = (false, eval a X.env) :: starEach [] X.env := by rfl) : PE X (.Call (.Name "len" p) [.Call (.Name "set" p2) [a] [] q] [] pos) (tLenSetS X.K ta) := by
  refine ⟨fun pins s σ H Q I h => ?_⟩
  refine Call_ (ld_blt I hg hm PySem.boot_len ?_)
  refine PyProof.Rows.callWith_builtin1 (PyProof.Rows.args_cons ?_ rfl) rfl rfl
  refine Call_ (ld_blt I hg2 hm2 PyProof.Rows.boot_set ?_)
  refine PyProof.Rows.callWith_type1 (PyProof.Rows.args_cons (thn (ha.run pins s σ H _ I h) fun v s1 ⟨x, H1, I1, r1, q1⟩ => PyProof.Rows.args_nil ?_) na) na rfl
  obtain ⟨l, xs, rfl, hq, h1, q1⟩ := q1
  cases r1
  obtain ⟨its, r, pl, hz⟩ := I1.tuple hq
  have hl : its.toArray.size = xs.length := by rw [List.size_toArray, ← r.length, List.length_map]
  refine set_of_tuple (I1.ok.hd hc) pl (by omega) (InS X.prog X.w s1.heap.objs.size xs) (fun i h h' k J => J.keep fun o => k _ o (Nat.le_refl _)) (fun h k ho => InS.zero ho) (fun A' hA i v s' Q' E' hi hv J hQ => ?_) fun h' tk htk J k => ?_
  · obtain ⟨x, t, hx, hv'⟩ := strs_at' r i v (by simpa using hv)
    exact InS.step h1 hx hv' J hQ
  · rw [hl] at J
    refine PyProof.Rows.args_nil ?_
    obtain ⟨l', n1, n2, o, es, ep, t, ho, hex, hd, _, _, _, hf, hn⟩ := J
    rw [List.take_length] at n2
    have hp : l'.Perm (dxS xs) := (List.perm_ext_iff_of_nodup n1 (nodup_dxS _)).mpr fun z => by rw [n2, mem_dxS]
    have hle : l'.length ≤ xs.length := by
      have hle : ∀ m : List Str, (dxS m).length ≤ m.length := fun m => by
        induction m with
        | nil => exact Nat.le_refl _
        | cons y m ih => unfold dxS; split <;> simp only [List.length_cons] <;> omega
      rw [hp.length_eq]
      exact hle xs
    have I2 : Inv X pins σ H1 { s1 with heap := h', toks := tk } := I1.kept fun b o e => k b o e
    refine call_len_set ho hex hd hf (by rw [hn] <;> omega) ⟨.int (dxS xs).length, H1, I2.tok _, ⟨_, by rw [hn, hp.length_eq]⟩, q1⟩
/-- sorted(set(xs)), xs a list of tuples of texts -/
def tSortSet (K : PySem.W.Frag) (ta : TE) : TE := fun σ H Q => ta σ H fun x H1 => ∃ (l : Addr) (ks : List (Ent Str)), x = V.ref l ∧ SqL K H1 l (ks.map fun e => V.ref e.1) ∧ (∀ e ∈ ks, SqT K H1 e.1 (e.2.map V.str)) ∧ ks.length < 64 ∧ (∀ e ∈ ks, e.2 ≠ []) ∧
  ∀ p (L : List (Ent Str)), H1 p = none → (∀ e ∈ L, e ∈ ks) → L.map Prod.snd = ssK (ks.map Prod.snd) → Q (.ref p) (upd H1 p (.lst (L.map fun e => V.ref e.1)))
theorem vals_refs' : ∀ (ks : List (Ent Str)), Vals (ks.map fun e => V.ref e.1) (ks.map fun e => Value.ref e.1)
  | [] => .nil
  | e :: ks => .cons rfl (vals_refs' ks)
theorem pe_sortSet {a : Expr} {ta : TE} {p p2 q pos : Pos} (hc : X.calm = true) (hu : X.A.units + 64 < cLine) (hg : Gl X "sorted") (hm : X.mg "sorted" = none) (hg2 : Gl X "set") (hm2 : X.mg "set" = none) (ha : PE X a ta) (hb : bootBuiltins "sorted" = some (.builtin "sorted"))
    (na : starEach [a] X.env = (false, eval a X.env) :: starEach [] X.env := by rfl) : PE X (.Call (.Name "sorted" p) [.Call (.Name "set" p2) [a] [] q] [] pos) (tSortSet X.K ta) := by
  refine ⟨fun pins s σ H Q I h => ?_⟩
  refine Call_ (ld_blt I hg hm hb ?_)
  refine PyProof.Rows.callWith_builtin1 (PyProof.Rows.args_cons ?_ rfl) rfl rfl
  refine Call_ (ld_blt I hg2 hm2 PyProof.Rows.boot_set ?_)
  refine PyProof.Rows.callWith_type1 (PyProof.Rows.args_cons (thn (ha.run pins s σ H _ I h) fun v s1 ⟨x, H1, I1, r1, q1⟩ => PyProof.Rows.args_nil ?_) na) na rfl
  obtain ⟨l, ks, rfl, hq, hk, h64, hne, q1⟩ := q1
  cases r1
  obtain ⟨its, r, pl, hz⟩ := I1.list hq
  have hl : its.toArray.size = ks.length := by rw [List.size_toArray, ← r.length, List.length_map]
  have hks : ∀ e ∈ ks, IsTupleKey (PySem.strKind X.prog X.w) s1.heap e.2 e.1 := fun e he => key_of I1 (hk e he)
  have hnone : s1.heap.get? s1.heap.objs.size = none := by
    cases z : s1.heap.get? s1.heap.objs.size with
    | none => rfl
    | some o => exact absurd (Heap.lt_size z) (Nat.lt_irrefl _)
  refine set_of_list (I1.ok.hd hc) pl.isList (by omega) (InT X.prog X.w s1.heap s1.heap.objs.size ks) (fun i h h' k J => J.keep hks (fun o => k _ o (Nat.le_refl _)) fun b o hb => k b o (Nat.le_of_lt (Heap.lt_size hb)) (J.2 b o hb)) (fun h k ho => InT.zero k ho) (fun A' hA i v s' Q' E' hi hv J hQ => ?_) fun h' tk htk J k => ?_
  · obtain ⟨e, he, hv'⟩ := refs_at' r i v (by simpa using hv)
    exact InT.step hks hnone hA h64 he hv' J hQ
  · rw [hl] at J
    refine PyProof.Rows.args_nil ?_
    obtain ⟨⟨L, es, ep, t, R, g1, g2, g3⟩, _⟩ := J
    rw [List.take_length] at g1 g2
    refine sorted_tups (s := { s1 with heap := h', toks := tk }) R (I1.ok.hd hc) (by omega) (fun e he => hne e (g1 e he)) fun s' p' out c L' k' e1 e2 hp hout hol pm hsr => ?_
    have hpn : H1 p' = none := I1.hok.fresh (by
      refine Nat.le_trans ?_ hp
      rcases Nat.lt_or_ge h'.objs.size s1.heap.objs.size with z | z
      · obtain ⟨o, ho, _⟩ := R.here
        have h9 : s1.heap.objs.size < h'.objs.size := Heap.lt_size ho
        exact Nat.le_of_lt h9
      · exact z)
    have kk : ∀ b o, s1.heap.get? b = some o → s'.heap.get? b = some o := fun b o e => k' b o (k b o e)
    have hlen : (L'.map fun e => V.ref e.1).length ≤ sizeLine := by
      have := R.few
      rw [List.length_map, pm.length_eq, sizeLine_eq]
      omega
    have hv : Vals (L'.map fun e => V.ref e.1) out.toList := by rw [hol]; exact vals_refs' L'
    have hp1 : s1.heap.objs.size ≤ p' := by
      refine Nat.le_trans ?_ hp
      rcases Nat.lt_or_ge h'.objs.size s1.heap.objs.size with z | z
      · obtain ⟨o, ho, _⟩ := R.here
        have h9 : s1.heap.objs.size < h'.objs.size := Heap.lt_size ho
        exact Nat.le_of_lt h9
      · exact z
    have J2 : Inv X pins σ (upd H1 p' (.lst (L'.map fun e => V.ref e.1))) { s1 with heap := s'.heap, gens := s'.gens, drawn := s'.drawn, toks := s'.toks } :=
      I1.call (ch := []) (Un.laid kk hp1 hpn) (I1.hok.laid kk hp1 ⟨hlen, out.toList, c, hv, hout⟩) (by rw [e1]; exact I1.bare) (fun _ z => nomatch z)
    have e3 : s' = { s1 with heap := s'.heap, gens := s'.gens, drawn := s'.drawn, toks := s'.toks } := by
      cases s'
      cases s1
      cases e2
      rfl
    rw [e3]
    refine ⟨.ref p', _, J2, rfl, q1 p' L' hpn (fun e he => g1 e (pm.mem_iff.mp he)) (hsr.trans ?_)⟩
    refine sortK_eq ((List.perm_ext_iff_of_nodup R.uniq (nodup_ddK _)).mpr fun z => ?_)
    rw [mem_ddK]
    constructor
    · intro hz2
      obtain ⟨e, he, rfl⟩ := List.mem_map.mp hz2
      exact List.mem_map.mpr ⟨e, g1 e he, rfl⟩
    · intro hz2
      obtain ⟨e, he, rfl⟩ := List.mem_map.mp hz2
      exact g2 e he
end
end Qh

/-! A tuple backwards. -/
namespace Qh
open PySem PySem.Spec PyProof.Rows L2 HT
theorem pick_back (xs : Array Value) : ((List.range xs.size).filterMap fun (k : Nat) => xs[(((xs.size : Int) - 1) + (k : Int) * (-1)).toNat]?).toArray = xs.toList.reverse.toArray := by
  have e : (List.range xs.size).filterMap (fun (k : Nat) => xs[(((xs.size : Int) - 1) + (k : Int) * (-1)).toNat]?) = ((List.range xs.size).map fun k => xs.size - 1 - k).filterMap fun i => xs[i]? := by
    rw [List.filterMap_map]
    have h : ∀ l : List Nat, (∀ k ∈ l, k < xs.size) → l.filterMap (fun (k : Nat) => xs[(((xs.size : Int) - 1) + (k : Int) * (-1)).toNat]?) = l.filterMap ((fun i => xs[i]?) ∘ fun k => xs.size - 1 - k) := by
      intro l
      induction l with
      | nil => exact fun _ => rfl
      | cons k l ih =>
        intro hl
        have hk := hl k List.mem_cons_self
        have e1 : (((xs.size : Int) - 1) + (k : Int) * (-1)).toNat = xs.size - 1 - k := by omega
        rw [List.filterMap_cons, List.filterMap_cons, ih fun j hj => hl j (List.mem_cons_of_mem _ hj)]
        have e2 : ((fun (i : Nat) => xs[i]?) ∘ fun (k : Nat) => xs.size - 1 - k) k = xs[(((xs.size : Int) - 1) + (k : Int) * (-1)).toNat]? := by
          show xs[xs.size - 1 - k]? = _
          rw [e1]
        rw [e2]
    exact h _ fun k hk => List.mem_range.mp hk
  rw [e, PySem.W.krv_range, List.filterMap_reverse, PySem.W.krv_all]
section
variable {prog : Program} {w : World} {A : Around} {E : Value → Shared → Prop} {s : Shared}
theorem getItem_back {t sl : Addr} {items : Array Value} {vs : Value} {Q : Value → Shared → Prop} (ht : IsTup s.heap t items) (hs : s.heap.IsSliceOf sl .none .none vs) (pv : IsPart vs (some (-1)))
    (h : Q (.ref s.heap.objs.size) { s with heap := s.heap.push { cls := .type "tuple", data := .seq items.toList.reverse.toArray } }) (hsz : items.size ≤ sizeLine) : wpAny (model prog w) A (getItem (.ref t) (.ref sl)) Q E s := by
  have hok : sizeOk (.seq items.toList.reverse.toArray) := by
    show items.toList.reverse.toArray.size ≤ sizeLine
    rw [List.size_toArray, List.length_reverse, Array.length_toList]
    exact hsz
  obtain ⟨os, hos, hcs, hds⟩ := id hs
  have hTs : s.TypeIs (.ref sl) "slice" := ⟨os, hos, hcs⟩
  unfold getItem
  try with_reducible refine wpAny_holding ?_
  first | refine wpAny_bind (wpAny_pure ?_) | skip
  refine wpAny_bind (wpAny_sequenceKey ht.typeIs (by decide) ?_)
  refine wpAny_bind (wpAny_callSpecial?_slot (name := Str.ofString "__getitem__") ht.typeIs PyProof.Rows.slot_tuple_getitem
    (wpAny_call_entry PyProof.Rows.slot_tuple_getitem ht.typeIs entry_tuple_getitem ?_ (args_tuple_getitem _ _)))
  show wpAny _ _ (Builtin.Tuple.tupleItemsOf (.ref t) >>= _) _ _ s
  refine wpAny_bind (tupleItemsOf_ ht ?_)
  refine wpAny_bind (wpAny_typeOf hTs ?_)
  rw [if_pos (by decide)]
  have ap : ∀ {R : Int × Int × Nat → Shared → Prop} {A' : Around} {E' : Value → Shared → Prop}, R ((items.size : Int) - 1, -1, items.size) s → wpAny (model prog w) A' (Builtin.Slice.sliceApplied (.ref sl) (pure (items.size : Int))) R E' s := by
    intro R A' E' hR
    unfold Builtin.Slice.sliceApplied Builtin.Slice.sliceFields
    refine wpAny_bind (wpAny_bind (wpAny_field hos hds (x := .none) rfl (wpAny_bind (wpAny_field hos hds (x := .none) rfl (wpAny_bind (wpAny_field hos hds (x := vs) rfl (wpAny_pure ?_)))))))
    refine wpAny_bind (slicePart_ pv ?_)
    show wpAny _ _ (if ((-1 : Int) == 0) = true then _ else _) _ _ s
    rw [if_neg (by decide)]
    refine wpAny_bind (slicePart_none (wpAny_bind (slicePart_none (wpAny_bind (wpAny_pure ?_)))))
    have e1 : Builtin.Slice.sliceAdjust none none (-1) (items.size : Int) = ((items.size : Int) - 1, -1) := rfl
    have e2 : Builtin.Slice.slicePlaces ((items.size : Int) - 1) (-1) (-1) = items.size := by
      unfold Builtin.Slice.slicePlaces
      have h1 : ¬ ((-1 : Int) > 0) := by decide
      simp only [h1, if_false, show (- -1 : Int) = 1 from by decide, Int.ediv_one]
      split <;> omega
    show wpAny _ _ (match Builtin.Slice.sliceAdjust none none (-1) (items.size : Int) with | (lo, hi) => pure (lo, (-1 : Int), Builtin.Slice.slicePlaces lo hi (-1))) _ _ s
    rw [e1]
    show wpAny _ _ (pure (((items.size : Int) - 1), (-1 : Int), Builtin.Slice.slicePlaces ((items.size : Int) - 1) (-1) (-1))) _ _ s
    rw [e2]
    exact wpAny_pure hR
  refine wpAny_bind (ap ?_)
  have hno : ¬ ((((items.size : Int) - 1) == 0 && (-1 : Int) == 1 && items.size == items.size) = true) := by
    intro q
    rw [Bool.and_eq_true, Bool.and_eq_true] at q
    exact absurd q.1.2 (by decide)
  show wpAny _ _ (if (((items.size : Int) - 1) == 0 && (-1 : Int) == 1 && items.size == items.size) = true then _ else _) _ _ s
  rw [if_neg hno, pick_back]
  first
    | exact wpAny_bind (m := Builtin.Tuple.tupleExact _) (wpAny_newObj_type (wpAny_pure ⟨_, rfl, wpAny_pure h⟩) hok)
    | exact wpAny_bind (m := Builtin.Tuple.tupleExact _) (wpAny_newObj_type (wpAny_bind (wpAny_pure (wpAny_pure ⟨_, rfl, wpAny_pure h⟩))) hok)
    | exact wpAny_bind (wpAny_bind (m := Builtin.Tuple.tupleExact _) (wpAny_newObj_type (wpAny_pure (wpAny_pure ⟨_, rfl, wpAny_pure h⟩)) hok))
    | exact wpAny_bind (wpAny_bind (m := Builtin.Tuple.tupleExact _) (wpAny_newObj_type (wpAny_pure ⟨_, rfl, wpAny_pure h⟩) hok))
end
section
variable {X : Cx}
/-- t[::-1] -/
def tRevT (K : PySem.W.Frag) (te : TE) : TE := fun σ H Q => te σ H fun x H1 => ∃ a xs, x = V.ref a ∧ SqT K H1 a xs ∧ ∀ p, H1 p = none → Q (.ref p) (upd H1 p (.tup xs.reverse))
theorem pe_revT {e : Expr} {te : TE} {k : Nat} {p1 p2 p3 pos : Pos} (he : PE X e te) : PE X (.Subscript e (.Slice none none (some (.UnaryOp .USub (.Constant (.int 1) k p1) p2)) p3) pos) (tRevT X.K te) := by
  refine ⟨fun pins s σ H Q I h => ?_⟩
  refine Subscript_ (thn (he.run pins s σ H _ I h) fun v s1 ⟨x, H1, I1, r1, a, xs, ex, hx, q⟩ => ?_)
  subst ex
  cases r1
  have hst : PO X (some (.UnaryOp .USub (.Constant (.int 1) k p1) p2)) (tPart (tUn (rU fun i => .int (-i)) (tC (.int 1)))) := po_some (pe_un un_neg pe_int)
  refine wpAny_Slice ?_
  rw [evalPart_none]
  refine wpAny_pure ?_
  refine wpAny_pure ?_
  refine thn (hst.run pins s1 σ H1 (fun o H4 => o = some (-1) ∧ H4 = H1) I1 ⟨1, rfl, -1, rfl, rfl, rfl⟩) fun vs s4 ⟨o, H4, I4, ps, eo, e4⟩ => ?_
  subst eo e4
  have I5 : Inv X pins σ H4 { s4 with heap := s4.heap.push { cls := .type "slice", data := .fields #[.none, .none, vs] } } := I4.kept (t' := s4.toks) fun b ob q => Heap.get?_push_of_some _ q
  obtain ⟨its, r, ht, hz⟩ := I5.tuple hx
  have hlen := r.length
  show wpAny (model X.prog X.w) X.A (subscriptTail e (.Slice none none (some (.UnaryOp .USub (.Constant (.int 1) k p1) p2)) p3) (.ref a) (.ref s4.heap.objs.size)) (EP X pins σ Q) X.xe { s4 with heap := s4.heap.push { cls := .type "slice", data := .fields #[.none, .none, vs] } }
  refine tail_any (ops := [.ref a, .ref s4.heap.objs.size]) ht.typeIs (PyProof.Rows.slot_tuple_getitem.lookup) ?_ (by with_unfolding_all rfl)
  refine getItem_back ht (Heap.IsSliceOf.new _ .none .none vs) ps ?_ (by rw [List.size_toArray]; omega)
  refine ⟨.ref _, _, I5.laid (t' := s4.toks) (o := .tup xs.reverse) (fun b ob q => Heap.get?_push_of_some _ q) (Nat.le_refl _) ?_, rfl, q _ (I5.hok.fresh (Nat.le_refl _))⟩
  exact ⟨by rw [List.length_reverse]; exact hz, _, r.reverse, IsTup.new _ _⟩
end
end Qh

/-! The mini language and its interpreter. -/
namespace Qh
open PySem PySem.Spec PyProof.Rows PySem.W

/-- data by value -/
inductive D where
  | non | bl (b : Bool) | int (i : Int) | str (s : Str) | tup (l : List D) | lst (l : List D) | scr (l : List Int) | dct (ks vs : List D) | ins (c : Str) (ns : List Str) (fs : List D)

mutual
def D.py : D → PyData
  | .non => .none
  | .bl b => .bool b
  | .int i => .int i
  | .str s => .str s
  | .tup l => .tuple (D.pys l)
  | .lst l => .list (D.pys l)
  | .scr l => .list (l.map PyData.int)
  | .dct _ _ => .dict []
  | .ins _ _ _ => .dict []
def D.pys : List D → List PyData
  | [] => []
  | d :: ds => D.py d :: D.pys ds
end
mutual
def D.flat : D → Bool
  | .non | .bl _ | .int _ | .str _ | .scr _ => true
  | .tup l => D.flats l
  | .lst _ | .dct _ _ | .ins _ _ _ => false
def D.flats : List D → Bool
  | [] => true
  | d :: ds => D.flat d && D.flats ds
end
mutual
def D.dep : D → Option Nat
  | .non | .bl _ | .int _ | .str _ => some 0
  | .tup l | .lst l => (D.deps l).map (· + 1)
  | .scr _ => some 1
  | .dct _ _ | .ins _ _ _ => none
def D.deps : List D → Option Nat
  | [] => some 0
  | d :: ds => match D.dep d, D.deps ds with
    | some a, some b => some (max a b)
    | _, _ => none
end
def D.eq (a b : D) : Bool := PyData.eqv a.py b.py

/-- an object that may change -/
inductive O where
  | lst (l : List D) | dct (ks vs : List D) | ins (c : Str) (ns : List Str) (fs : List D)
inductive Sl where
  | non | dat (d : D) | own (o : O)
abbrev En := List Sl
def O.d : O → D
  | .lst l => .lst l
  | .dct ks vs => .dct ks vs
  | .ins c ns fs => .ins c ns fs
def Sl.isOwn : Sl → Bool
  | .own _ => true
  | _ => false
def En.at (env : En) (i : Nat) : Sl := env.getD i .non

structure Exn where
  c : Nat
  ix : Option Int
inductive Res (α : Type) where
  | ok (a : α) (e : En) | exc (x : Exn) (e : En) | bad
def Res.bind {α β : Type} : Res α → (α → En → Res β) → Res β
  | .ok a e, k => k a e
  | .exc x e, _ => .exc x e
  | .bad, _ => .bad
def onBl {α : Type} (x : D) (e : En) (A B : En → Res α) : Res α := match x with
  | .bl true => A e
  | .bl false => B e
  | _ => .bad
def opt {α : Type} (o : Option α) (e : En) : Res α := match o with
  | some a => .ok a e
  | none => .bad

inductive BO where
  | add | sub | mul | fdiv | mod | pow
inductive CO where
  | eq | ne | lt | le | gt | ge | isin | notin | is | isnot
inductive Bi where
  | len | all | any | sum | tuple | list | min | max | int | str | sorted | sset | lenset | bool
inductive Me where
  | split | partition | join | count | index | get
inductive Ty where
  | int | bool | str | tuple | list
deriving DecidableEq

/-- constants -/
inductive Ct where
  | bl (b : Bool) | str (s : Str)
  deriving DecidableEq
def Ct.d : Ct → D
  | .bl b => .bl b
  | .str s => .str s
/-- what an except clause answers, by the exception's class -/
inductive HE where
  | cst (d : Ct)
  | isi (c : Nat)
  | ife (c : Nat) (a b : HE)
  deriving DecidableEq
def isiX (x c : Nat) : Bool := decide (x = c) || decide (c = 0)
def HE.ev (x : Nat) : HE → Ct
  | .cst d => d
  | .isi c => .bl (isiX x c)
  | .ife c a b => if isiX x c = true then a.ev x else b.ev x
/-- a def that calls what it got, within a try -/
structure Gd where
  name : Str
  dfl : Ct
  hnd : HE
  deriving DecidableEq
mutual
inductive E where
  | var (i : Nat)
  | bor (i : Nat)
  | cst (d : D)
  | glo (g : Nat)
  | bin (op : BO) (a b : E)
  | cmp (op : CO) (a b : E)
  | chn (op op' : CO) (a b c : E)
  | and (a b : E)
  | or (a b : E)
  | not (a : E)
  | ife (t a b : E)
  | tup (es : Es)
  | lst (es : Es)
  | ix (a i : E)
  | sl (a : E) (lo hi : Oe)
  | rev (a : E)
  | bset (b : Bool) (a : E)
  | call (f : Nat) (as : As)
  | bi (b : Bi) (as : Es)
  | me (m : Me) (o : E) (as : Es)
  | neg (a : E)
  | get (o k x : E)
  | dsel (ks : List Str) (vs : Es) (i : E)
  | gin (neg : Bool) (g : Nat) (e : E)
  | gix (g : Nat) (e : E)
  | fld (c : Str) (o : E) (f : Str)
  | mk (f : Nat) (c : Str) (as : Es)
  | mcall (f : Nat) (c m : Str) (o : E) (as : As)
  | lamc (g : Gd) (k : Nat) (e : E)
  | isi (e : E) (ts : List Ty)
  | lc (own : List Nat) (it : It) (g : Tg) (t : Oe) (e : E)
  | lc2 (own own1 : List Nat) (it : It) (g : Tg) (it2 : It) (g2 : Tg) (e : E)
inductive Es where
  | nil
  | cons (e : E) (es : Es)
inductive Oe where
  | none
  | some (e : E)
inductive As where
  | nil
  | val (e : E) (as : As)
  | io (i : Nat) (as : As)
inductive It where
  | seq (e : E)
  | rng1 (e : E)
  | rng2 (a b : E)
  | enum (e : E)
inductive Tg where
  | nm (i : Nat)
  | tp (gs : Tgs)
inductive Tgs where
  | nil
  | cons (g : Tg) (gs : Tgs)
end

/-! ### operations on data -/
def cmul (i j : Int) : Bool := (decide (-(2 ^ 64) < i) && decide (i < 2 ^ 64)) || (decide (-(2 ^ 64) < j) && decide (j < 2 ^ 64))
def big : Nat := 100000
def opBin : BO → D → D → Option D
  | .add, .int i, .int j => some (.int (i + j))
  | .add, .str x, .str y => if x.length + y.length ≤ big then some (.str (x ++ y)) else none
  | .add, .tup xs, .tup ys => if xs.length + ys.length ≤ big then some (.tup (xs ++ ys)) else none
  | .add, .lst xs, .lst ys => if xs.length + ys.length ≤ big then some (.lst (xs ++ ys)) else none
  | .sub, .int i, .int j => some (.int (i - j))
  | .mul, .int i, .int j => if cmul i j then some (.int (i * j)) else none
  | .mul, .lst xs, .int k => if decide (0 ≤ k) && decide (k ≤ 1000) && decide (xs.length ≤ 100) then some (.lst (List.replicate k.toNat xs).flatten) else none
  | .mul, .tup xs, .int k => if decide (1 ≤ k) && decide (k ≤ 1000) && decide (xs.length ≤ 100) && !xs.isEmpty then some (.tup (List.replicate k.toNat xs).flatten) else none
  | .mul, .str x, .int k => if decide (2 ≤ k) && decide (k ≤ 1000) && (decide (x.length ≠ 0) && decide (x.length ≤ 100)) then some (.str ⟨(List.replicate k.toNat x.cps).foldl (· ++ ·) #[]⟩) else none
  | .fdiv, .int i, .int j => if decide (j ≠ 0) && decide (j.natAbs < 1073741824) then some (.int (i.fdiv j)) else none
  | .mod, .int i, .int j => if decide (j ≠ 0) then some (.int (i.fmod j)) else none
  | .pow, .int i, .int j => if decide (0 ≤ j) && decide (j ≤ 1000) && decide (i.natAbs < 2 ^ 64) then some (.int (i ^ j.toNat)) else none
  | _, _, _ => none
def eqOk (a b : D) : Bool := match a.dep, b.dep with
  | some m, some n => decide (m ≤ 40) && decide (n ≤ 40)
  | _, _ => false
def D.items : D → Option (List D)
  | .tup l => some l
  | .lst l => some l
  | _ => none
def inD (x : D) (ys : List D) : Bool := ys.any fun y => D.eq y x
def opIn (x y : D) : Option Bool := match y.items with
  | some ys => if eqOk x (.tup ys) then some (inD x ys) else none
  | none => match y with
    | .str z => (match x with
      | .str s => some (!(Builtin.Str.occurrences z s 0 z.length 1).isEmpty)
      | _ => none)
    | _ => none
def ltOk (a b : D) : Bool := alike a.py b.py && eqOk a b && (match a with
  | .non => false
  | _ => true)
def D.lt (a b : D) : Option Bool := if ltOk a b then some (dataLt a.py b.py) else none
def D.le (a b : D) : Option Bool := if ltOk a b then some (!dataLt b.py a.py) else none
def opCmp : CO → D → D → Option Bool
  | .eq, a, b => if eqOk a b then some (D.eq a b) else none
  | .ne, a, b => if eqOk a b then some (!D.eq a b) else none
  | .lt, a, b => D.lt a b
  | .le, a, b => D.le a b
  | .gt, .int i, .int j => some (decide (j < i))
  | .ge, .int i, .int j => some (decide (j ≤ i))
  | .isin, a, b => opIn a b
  | .notin, a, b => (opIn a b).map (!·)
  | .is, a, .non => some (match a with | .non => true | _ => false)
  | .isnot, a, .non => some (match a with | .non => false | _ => true)
  | .is, .bl a, .bl b => some (a == b)
  | .isnot, .bl a, .bl b => some (!(a == b))
  | .is, .non, .bl _ => some false
  | .isnot, .non, .bl _ => some true
  | _, _, _ => none
mutual
def kOf : D → Option NestedKey
  | .non => some .none
  | .int i => some (.num i)
  | .str x => some (.text x)
  | .tup l => (kOfs l).map .tup
  | _ => none
def kOfs : List D → Option (List NestedKey)
  | [] => some []
  | d :: ds => match kOf d, kOfs ds with
    | some k, some ks => some (k :: ks)
    | _, _ => none
end
/-- a key of a dict of tuples -/
def keyT : D → Option NestedKey
  | .tup l => match kOf (.tup l) with
    | some k => if ntK k && decide (k.depth ≤ 8) then some k else none
    | none => none
  | _ => none
def keyS : D → Option Str
  | .str x => some x
  | _ => none
/-- all keys are tuples; there is one, and all are texts -/
def allT (ks : List D) : Bool := ks.all fun d => match d with
  | .tup _ => true
  | _ => false
def allS (ks : List D) : Bool := !ks.isEmpty && ks.all fun d => match d with
  | .str _ => true
  | _ => false
def hitT (k : NestedKey) (d : D) : Bool := decide (kOf d = some k)
def hitS (x : Str) (d : D) : Bool := decide (keyS d = some x)
/-- the value at the first key that is met -/
def dFind (h : D → Bool) : List D → List D → Option D
  | k :: ks, v :: vs => if h k = true then some v else dFind h ks vs
  | _, _ => none
/-- the value of a key, or none -/
def dVal (ks vs : List D) (k : D) : Option (Option D) := match k with
  | .str x => if allS ks then some (dFind (hitS x) ks vs) else none
  | .tup l => (match keyT (.tup l) with
    | some n => if allT ks then some (dFind (hitT n) ks vs) else none
    | none => none)
  | _ => none
def dSet (h : D → Bool) (v : D) : List D → List D → List D
  | k :: ks, w :: vs => if h k = true then v :: vs else w :: dSet h v ks vs
  | _, _ => [v]
/-- the dict behind d[k] = v -/
def dPut (ks vs : List D) (k v : D) : Option (List D × List D) := if decide (ks.length < big) && decide (ks.length = vs.length) then (match k with
  | .str x => if allS ks then some (if (ks.any (hitS x)) = true then (ks, dSet (hitS x) v ks vs) else (ks ++ [k], vs ++ [v])) else none
  | .tup l => (match keyT (.tup l) with
    | some n => if allT ks then some (if (ks.any (hitT n)) = true then (ks, dSet (hitT n) v ks vs) else (ks ++ [k], vs ++ [v])) else none
    | none => none)
  | _ => none) else none
def opIx : D → D → Option D
  | .tup l, .int i => L2.atI l i
  | .lst l, .int i => L2.atI l i
  | .scr l, .int i => (L2.atI l i).map .int
  | .dct ks vs, k => (dVal ks vs k).bind id
  | _, _ => none
def opGet : D → D → D → Option D
  | .dct ks vs, .tup l, x => (dVal ks vs (.tup l)).map fun o => o.getD x
  | _, _, _ => none
def cutD (l : List D) (lo hi : Option Int) : List D := (l.drop (HT.sIx l.length 0 lo)).take (HT.sIx l.length l.length hi - HT.sIx l.length 0 lo)
def opSl : D → Option Int → Option Int → Option D
  | .tup l, lo, hi => some (.tup (cutD l lo hi))
  | .lst l, lo, hi => some (.lst (cutD l lo hi))
  | .str z, lo, hi => if z.length ≤ big then some (.str (L2.cutS z lo hi)) else none
  | _, _, _ => none
def opRev : D → Option D
  | .tup l => some (.tup l.reverse)
  | _ => none
def allInts : List D → Option (List Int)
  | [] => some []
  | .int i :: r => (allInts r).map (i :: ·)
  | _ => none
def allBls : List D → Option (List Bool)
  | [] => some []
  | .bl i :: r => (allBls r).map (i :: ·)
  | _ => none
def tup1 : D → Bool
  | .tup (_ :: _) => true
  | _ => false
def plainS : D → Bool
  | .non => false
  | .tup _ => false
  | .dct _ _ => false
  | .ins _ _ _ => false
  | _ => true
def depOk (d : D) : Bool := match d.dep with
  | some n => decide (n ≤ 40)
  | none => false
def sortOk (l : List D) : Bool := (l.all fun a => l.all fun b => alike a.py b.py) && ((l.all tup1 || l.all plainS) && (l.all depOk))
def leD (a b : D) : Bool := !dataLt b.py a.py
def opBi : Bi → List D → Option D
  | .len, [.tup l] => some (.int l.length)
  | .len, [.lst l] => some (.int l.length)
  | .len, [.scr l] => some (.int l.length)
  | .len, [.str z] => if z.length ≤ big then some (.int z.length) else none
  | .all, [.lst l] => (allBls l).map fun bs => .bl (bs.all id)
  | .any, [.lst l] => (allBls l).map fun bs => .bl (bs.any id)
  | .sum, [.lst l] => (allInts l).map fun ns => .int ns.sum
  | .tuple, [.lst l] => some (.tup l)
  | .list, [.tup l] => some (.lst l)
  | .list, [.lst l] => some (.lst l)
  | .list, [.dct ks vs] => if allT ks then some (.lst ks) else none
  | .sorted, [.lst l] => if sortOk l then some (.lst (isort leD l)) else none
  | .min, [.int i, .int j] => some (.int (if j < i then j else i))
  | .max, [.int i, .int j] => some (.int (if j > i then j else i))
  | .int, [.int i] => some (.int i)
  | .int, [.bl b] => some (.int (if b then 1 else 0))
  | .bool, [.bl b] => some (.bl b)
  | .int, [.str z] => if z.length ≤ 640 then (PySem.intText? z).map .int else none
  | .str, [.int i] => if i.natAbs < 2 ^ 64 then some (.str (toString i)) else none
  | _, _ => none
def tyOf : Ty → D → Bool
  | .int, .int _ => true
  | .int, .bl _ => true
  | .bool, .bl _ => true
  | .str, .str _ => true
  | .tuple, .tup _ => true
  | .list, .lst _ => true
  | .list, .scr _ => true
  | _, _ => false
def countD (x : D) (l : List D) : Nat := l.countP fun y => D.eq y x
def allStrs : List D → Option (List Str)
  | [] => some []
  | .str x :: r => (allStrs r).map (x :: ·)
  | _ => none
/-- tuples of texts -/
def ktxD : D → Option (List Str)
  | .tup l => allStrs l
  | _ => none
def ktxsD : List D → Option (List (List Str))
  | [] => some []
  | d :: r => match ktxD d, ktxsD r with
    | some k, some ks => some (k :: ks)
    | _, _ => none
/-- sorted(set(xs)), len(set(xs)) -/
def opSet : Bool → D → Option D
  | true, .lst l => (ktxsD l).bind fun ks => if decide (ks.length < 64) && ks.all (fun k => !k.isEmpty) then some (.lst ((ssK ks).map fun k => .tup (k.map .str))) else none
  | false, .tup l => (allStrs l).bind fun xs => if xs.length ≤ 1000 then some (.int (dxS xs).length) else none
  | _, _ => none
def opMe : Me → D → List D → Option D
  | .split, .str a, [.str b] => if decide (b.length ≠ 0) && decide (a.length ≤ 50000) then some (.lst ((Txt.split a b).map .str)) else none
  | .join, .str a, [.lst l] => (allStrs l).bind fun ys => if (ys.map (·.length)).sum + ys.length * a.length ≤ big then some (.str (Txt.join a ys)) else none
  | .count, .lst l, [x] => if eqOk x (.tup l) then some (.int (countD x l)) else none
  | _, _, _ => none

/-- whose method it is -/
def meTy : Me → D → Bool
  | .split, .str _ => true
  | .partition, .str _ => true
  | .join, .str _ => true
  | .count, .lst _ => true
  | .index, .str _ => true
  | .get, .dct _ _ => true
  | _, _ => false
/-! ### the interpreter -/
/-- what a name holds as a value -/
def Sl.val : Sl → Option D
  | .dat x => some x
  | _ => none
def Sl.bor : Sl → Option D
  | .own (.lst l) => some (.lst l)
  | .own (.dct ks vs) => some (.dct ks vs)
  | .own (.ins c ns fs) => some (.ins c ns fs)
  | _ => none
def setAt (env : En) (i : Nat) (s : Sl) : En := env.set i s
mutual
def Tg.slots : Tg → List Nat
  | .nm i => [i]
  | .tp gs => gs.slots
def Tgs.slots : Tgs → List Nat
  | .nil => []
  | .cons g gs => g.slots ++ gs.slots
end
mutual
def asgT : Tg → D → En → Option En
  | .nm i, d, env => match env.at i with
    | .own _ => none
    | _ => some (env.set i (.dat d))
  | .tp gs, d, env => match d with
    | .tup l => asgTs gs l env
    | _ => none
def asgTs : Tgs → List D → En → Option En
  | .nil, [], env => some env
  | .cons g gs, d :: ds, env => (asgT g d env).bind (asgTs gs ds)
  | _, _, _ => none
end
def wipeE (env : En) : List Nat → En
  | [] => env
  | v :: vs => (wipeE env vs).set v .non
/-- the comprehension's own names back to what they were -/
def backE (orig env : En) : List Nat → En
  | [] => env
  | v :: vs => (backE orig env vs).set v (match orig.at v with
    | .dat d => .dat d
    | _ => .non)
inductive AV where
  | dat (d : D) | bo (i : Nat) | io (i : Nat)
def AV.sl (env : En) : AV → Sl
  | .dat x => .dat x
  | .bo i => match (env.at i).bor with
    | some d => .dat d
    | none => .non
  | .io i => env.at i
def AV.isB : AV → Bool
  | .bo _ => true
  | _ => false
def AV.slots : List AV → List Nat
  | [] => []
  | .dat _ :: r => AV.slots r
  | .bo i :: r => i :: AV.slots r
  | .io i :: r => i :: AV.slots r
def AV.apart (l : List AV) : Bool := decide (AV.slots l).Nodup
def putOuts : List AV → List Sl → En → Option En
  | [], _, env => some env
  | .io i :: as, .own o :: ss, env => match env.at i with
    | .own _ => (putOuts as ss env).map fun e => e.set i (.own o)
    | _ => none
  | .io _ :: _, _, _ => none
  | _ :: as, _ :: ss, env => putOuts as ss env
  | _ :: _, [], _ => none
def Sl.flat : Sl → Bool
  | .own (.lst l) => D.flats l
  | .own _ => false
  | _ => true
/-- the caller's names behind a call; what was lent was not kept -/
def callEnd (avs : List AV) (outs : List Sl) (env : En) : Option En := if avs.any AV.isB && !(outs.all Sl.flat) then none else putOuts avs outs env
abbrev Run := Nat → List Sl → Res D
def isBor : E → Bool
  | .bor _ => true
  | _ => false
/-- an operand as it stands when it is used -/
def rd : E → D → En → Option D
  | .bor i, _, env => (env.at i).bor
  | _, x, _ => some x
def rd2 {α : Type} (a b : E) (x y : D) (env : En) (k : D → D → Option α) : Option α := match rd a x env, rd b y env with
  | some x, some y => k x y
  | _, _ => none
def rds : Es → List D → En → Option (List D)
  | .nil, [], _ => some []
  | .cons e es, x :: xs, env => match rd e x env, rds es xs env with
    | some y, some ys => some (y :: ys)
    | _, _ => none
  | _, _, _ => none
/-- a comprehension's turn -/
def lcBody (own : List Nat) (g : D → En → Option En) (t : En → Res Bool) (el : En → Res D) (x : D) (env : En) : Res (Option D) := match g x env with
  | none => .bad
  | some e2 => (t e2).bind fun b e3 => if b = true then (el e3).bind fun y e4 => .ok (some y) (wipeE e4 own) else .ok none (wipeE e3 own)
/-- a loop over items: acc what is made so far -/
def lcLoop (body : D → En → Res (Option D)) : List D → List D → En → Res (List D)
  | [], acc, env => if acc.length < big then .ok acc env else .bad
  | x :: xs, acc, env => if acc.length < big then (body x env).bind fun o env' => lcLoop body xs (acc ++ o.toList) env' else .bad
/-- two clauses -/
def lc2Loop (own own1 : List Nat) (g : D → En → Option En) (iti : En → Res (List D)) (body : D → En → Res (Option D)) : List D → List D → En → Res (List D)
  | [], acc, env => .ok acc env
  | x :: xs, acc, env => match g x env with
    | none => .bad
    | some e2 => (iti e2).bind fun items e3 => (lcLoop body items acc (wipeE e3 own1)).bind fun acc' e4 => lc2Loop own own1 g iti body xs acc' (wipeE e4 own)
def noExc {α : Type} : Res α → Res α
  | .exc _ _ => .bad
  | r => r
def enumD (l : List D) : List D := List.zipWith (fun (i : Nat) x => D.tup [.int (i : Int), x]) (List.range l.length) l
def rangeD (lo : Int) (n : Nat) : List D := (List.range n).map fun (k : Nat) => D.int (lo + (k : Int))
section
variable (G : Nat → Option D) (run : Run)
def isDct : Option D → Bool
  | some (.dct ks _) => allT ks
  | _ => false
def nodupS : List Str → Bool
  | [] => true
  | x :: r => !r.contains x && nodupS r
def isiOk : D → Bool
  | .dct _ _ => false
  | .ins _ _ _ => false
  | _ => true
def truth : D → Option Bool
  | .bl b => some b
  | _ => none
/-- an attribute of an instance -/
def fldOf (f : Str) : List Str → List D → Option D
  | n :: ns, d :: ds => if n = f then some d else fldOf f ns ds
  | _, _ => none
/-- an instance of the class whose dict has no such name -/
def insIs (c m : Str) : D → Bool
  | .ins c' ns _ => decide (c' = c) && !ns.contains m
  | _ => false
/-- a call's end -/
def callGo (run : Run) (f : Nat) (avs : List AV) (e1 : En) : Res D := if !AV.apart avs then .bad else match run f (avs.map (AV.sl e1)) with
  | .ok d outs => (match callEnd avs outs e1 with
    | some e2 => if avs.any AV.isB && !d.flat then .bad else .ok d e2
    | none => .bad)
  | .exc x outs => (match callEnd avs outs e1 with
    | some e2 => .exc x e2
    | none => .bad)
  | .bad => .bad
/-- an instance is made -/
def mkGo (run : Run) (f : Nat) (c : Str) (l : List D) (e1 : En) : Res D := match run f (.own (.ins c [] []) :: l.map .dat) with
  | .ok .non (.own (.ins c' ns fs) :: _) => if c' = c then .ok (.ins c ns fs) e1 else .bad
  | _ => .bad
mutual
def evE : E → En → Res D
  | .var i, env => opt (env.at i).val env
  | .bor i, env => opt (env.at i).bor env
  | .cst d, env => .ok d env
  | .glo g, env => opt (G g) env
  | .bin op a b, env => (evE a env).bind fun x e1 => (evE b e1).bind fun y e2 => opt (opBin op x y) e2
  | .cmp op a b, env => (evE a env).bind fun x e1 => (evE b e1).bind fun y e2 => opt ((rd2 a b x y e2 (opCmp op)).map .bl) e2
  | .chn op op' a b c, env => (evE a env).bind fun x e1 => (evE b e1).bind fun y e2 => match opCmp op x y with
    | some true => (evE c e2).bind fun z e3 => opt ((opCmp op' y z).map .bl) e3
    | some false => .ok (.bl false) e2
    | none => .bad
  | .and a b, env => (evE a env).bind fun x e1 => onBl x e1 (evE b) (Res.ok (.bl false))
  | .or a b, env => (evE a env).bind fun x e1 => onBl x e1 (Res.ok (.bl true)) (evE b)
  | .not a, env => (evE a env).bind fun x e1 => onBl x e1 (Res.ok (.bl false)) (Res.ok (.bl true))
  | .ife t a b, env => (evE t env).bind fun x e1 => onBl x e1 (evE a) (evE b)
  | .tup es, env => (evEs es env).bind fun l e1 => if l.length ≤ big then .ok (.tup l) e1 else .bad
  | .lst es, env => (evEs es env).bind fun l e1 => if l.length ≤ big then .ok (.lst l) e1 else .bad
  | .ix a i, env => (evE a env).bind fun x e1 => (evE i e1).bind fun y e2 => opt (rd2 a i x y e2 opIx) e2
  | .sl a lo hi, env => (evE a env).bind fun x e1 => (evO lo e1).bind fun l e2 => (evO hi e2).bind fun h e3 => opt ((rd a x e3).bind fun x => opSl x l h) e3
  | .rev a, env => (evE a env).bind fun x e1 => opt (opRev x) e1
  | .bset b a, env => (evE a env).bind fun x e1 => opt (opSet b x) e1
  | .call f as, env => (evAs as env).bind fun avs e1 => if !AV.apart avs then .bad else match run f (avs.map (AV.sl e1)) with
    | .ok d outs => (match callEnd avs outs e1 with
      | some e2 => if avs.any AV.isB && !d.flat then .bad else .ok d e2
      | none => .bad)
    | .exc x outs => (match callEnd avs outs e1 with
      | some e2 => .exc x e2
      | none => .bad)
    | .bad => .bad
  | .bi b as, env => (evEs as env).bind fun l e1 => opt ((rds as l e1).bind (opBi b)) e1
  | .me m o as, env => (evE o env).bind fun x e1 => if !meTy m x then .bad else (evEs as e1).bind fun l e2 => opt ((rd o x e2).bind fun x => opMe m x l) e2
  | .neg a, env => (evE a env).bind fun x e1 => match x with
    | .int i => .ok (.int (-i)) e1
    | _ => .bad
  | .get o k x, env => (evE o env).bind fun d e1 => if isDct (rd o d e1) then (evE k e1).bind fun y e2 => (evE x e2).bind fun z e3 => opt ((rd o d e3).bind fun d => opGet d y z) e3 else .bad
  | .dsel ks vs i, env => (noExc (evEs vs env)).bind fun l e1 => if decide (l.length = ks.length) && decide (ks.length ≤ 15) && !ks.isEmpty && nodupS ks then (evE i e1).bind fun y e2 => match y with
    | .str x => opt (dFind (hitS x) (ks.map .str) l) e2
    | _ => .bad else .bad
  | .gin neg g e, env => (evE e env).bind fun y e1 => match y, G g with
    | .str x, some (.dct ks vs) => opt ((dVal ks vs (.str x)).map fun o => .bl (if neg then !o.isSome else o.isSome)) e1
    | _, _ => .bad
  | .gix g e, env => (evE e env).bind fun y e1 => match y, G g with
    | .str x, some (.dct ks vs) => opt ((dVal ks vs (.str x)).bind id) e1
    | _, _ => .bad
  | .fld c o f, env => (evE o env).bind fun x e1 => match x with
    | .ins c' ns fs => if c' = c then opt (fldOf f ns fs) e1 else .bad
    | _ => .bad
  | .mk f c as, env => (evEs as env).bind fun l e1 => mkGo run f c l e1
  | .mcall f c m o as, env => (evE o env).bind fun x e1 => if insIs c m x = true then (evAs as e1).bind fun avs e2 => callGo run f (.dat x :: avs) e2 else .bad
  | .lamc g k e, env => match evE e env with
    | .ok _ e1 => .ok g.dfl.d e1
    | .exc x e1 => if (decide (x.ix = none) && decide (x.c < k)) = true then .ok (g.hnd.ev x.c).d e1 else .bad
    | .bad => .bad
  | .isi e ts, env => (evE e env).bind fun x e1 => if isiOk x = true then .ok (.bl (ts.any fun t => tyOf t x)) e1 else .bad
  | .lc own it g t e, env => (evIt it env).bind fun items e1 => if own.any fun i => (e1.at i).isOwn then .bad else
      (noExc (lcLoop (lcBody own (asgT g) (evT t) (evE e)) items [] (wipeE e1 own))).bind fun l e5 => .ok (.lst l) (backE e1 e5 own)
  | .lc2 own own1 it g it2 g2 e, env => (evIt it env).bind fun items e1 => if (own.any fun i => (e1.at i).isOwn) || (own1.any fun i => !own.contains i) then .bad else
      (noExc (lc2Loop own own1 (asgT g) (evIt it2) (lcBody own1 (asgT g2) (fun e => .ok true e) (evE e)) items [] (wipeE e1 own))).bind fun l e5 => .ok (.lst l) (backE e1 e5 own)
def evEs : Es → En → Res (List D)
  | .nil, env => .ok [] env
  | .cons e es, env => (evE e env).bind fun x e1 => (evEs es e1).bind fun l e2 => .ok (x :: l) e2
def evO : Oe → En → Res (Option Int)
  | .none, env => .ok none env
  | .some e, env => (evE e env).bind fun x e1 => match x with
    | .int i => .ok (some i) e1
    | _ => .bad
def evT : Oe → En → Res Bool
  | .none, env => .ok true env
  | .some e, env => (evE e env).bind fun x e1 => match x with
    | .bl b => .ok b e1
    | _ => .bad
def evAs : As → En → Res (List AV)
  | .nil, env => .ok [] env
  | .val e as, env => (evE e env).bind fun x e1 => (evAs as e1).bind fun l e2 => .ok ((match e with
    | .bor i => .bo i
    | _ => .dat x) :: l) e2
  | .io i as, env => match env.at i with
    | .own _ => (evAs as env).bind fun l e1 => .ok (.io i :: l) e1
    | _ => .bad
def evIt : It → En → Res (List D)
  | .seq e, env => (evE e env).bind fun x e1 => match x with
    | .tup l => .ok l e1
    | .lst l => .ok l e1
    | .dct ks _ => if allT ks then .ok ks e1 else .bad
    | _ => .bad
  | .rng1 e, env => (evE e env).bind fun x e1 => match x with
    | .int n => if decide (-(2 ^ 62) ≤ n) && decide (n < 2 ^ 62) then .ok (rangeD 0 n.toNat) e1 else .bad
    | _ => .bad
  | .rng2 a b, env => (evE a env).bind fun x e1 => (evE b e1).bind fun y e2 => match x, y with
    | .int i, .int j => if decide (-(2 ^ 62) ≤ i) && decide (i < 2 ^ 62) && decide (-(2 ^ 62) ≤ j) && decide (j < 2 ^ 62) then .ok (rangeD i (j - i).toNat) e2 else .bad
    | _, _ => .bad
  | .enum e, env => (evE e env).bind fun x e1 => match x with
    | .lst l => .ok (enumD l) e1
    | _ => .bad
end
end
end Qh

/-! What the interpreter's data stand for in the abstract heap. -/
namespace Qh
open PySem PySem.Spec PyProof.Rows L2
abbrev AS := Addr → Prop
/-- a written tuple -/
def KT (K : PySem.W.Frag) (a : Addr) (vs : List V) : Prop := ∀ H, SqT K H a vs
/-- at a stands a dict with tuple keys: what is pure of it -/
structure DXp (H : Hp) (a : Addr) (xs : List XE) : Prop where
  at_ : ∃ ep, H a = some (hoX a xs ep)
  nt : ∀ x ∈ xs, ntK x.1 = true ∧ x.1.depth ≤ 8
  nd : (xs.map (·.1)).Nodup
  low : (a == sysModules) = false
  len : xs.length ≤ sizeLine
def keyD : Key → D
  | .inl i => .int i
  | .inr x => .str x
abbrev kvV (x : XE) : V := .ref x.2.1
mutual
def VR (K : PySem.W.Frag) (F : AS) (H : Hp) : D → V → Prop
  | .non, v => v = .non
  | .bl b, v => v = .bl b
  | .int i, v => v = .int i
  | .str s, v => v = .str s
  | .tup ds, v => ∃ a vs, v = .ref a ∧ ((¬ F a ∧ H a = some (.tup vs)) ∨ KT K a vs) ∧ VRs K F H ds vs
  | .lst ds, v => ∃ a vs, v = .ref a ∧ ¬ F a ∧ H a = some (.lst vs) ∧ VRs K F H ds vs
  | .scr ns, v => ∃ a, v = .ref a ∧ ((¬ F a ∧ ∃ o, H a = some (.frz o (.lst (ns.map V.int)))) ∨ (∀ H, SqL K H a (ns.map V.int)))
  | .dct ks ds, v => ∃ a, v = .ref a ∧ ¬ F a ∧ ((∃ xs dvs, DXp H a xs ∧ VRs K F H ks (xs.map kvV) ∧ ks.map kOf = xs.map (fun x => some x.1) ∧ allT ks = true ∧ VRs K F H ds dvs ∧ Vals dvs (xs.map fun x => x.2.2)) ∨
      ∃ kvs, H a = some (.dK kvs) ∧ ks = kvs.map (fun p => keyD p.1) ∧ allS ks = true ∧ (kvs.map (·.1)).Nodup ∧ VRs K F H ds (kvs.map (·.2)))
  | .ins c ns fs, v => ∃ a dx vs, v = .ref a ∧ ¬ F a ∧ H a = some (.ins (He.ga K c) dx (ns.zip vs)) ∧ ns.length = vs.length ∧ VRs K F H fs vs
def VRs (K : PySem.W.Frag) (F : AS) (H : Hp) : List D → List V → Prop
  | [], vs => vs = []
  | d :: ds, vs => ∃ v r, vs = v :: r ∧ VR K F H d v ∧ VRs K F H ds r
end
/-- a dict's content -/
def DctR (K : PySem.W.Frag) (F : AS) (H : Hp) (ks ds : List D) (a : Addr) : Prop := (∃ xs dvs, DXp H a xs ∧ VRs K F H ks (xs.map kvV) ∧ ks.map kOf = xs.map (fun x => some x.1) ∧ allT ks = true ∧ VRs K F H ds dvs ∧ Vals dvs (xs.map fun x => x.2.2)) ∨
  ∃ kvs, H a = some (.dK kvs) ∧ ks = kvs.map (fun p => keyD p.1) ∧ allS ks = true ∧ (kvs.map (·.1)).Nodup ∧ VRs K F H ds (kvs.map (·.2))
def InsR (K : PySem.W.Frag) (F : AS) (H : Hp) (c : Str) (ns : List Str) (fs : List D) (a : Addr) : Prop := ∃ dx vs, H a = some (.ins (He.ga K c) dx (ns.zip vs)) ∧ ns.length = vs.length ∧ VRs K F H fs vs
theorem VR.dctI {K : PySem.W.Frag} {F : AS} {H : Hp} {ks ds : List D} {v : V} (h : VR K F H (.dct ks ds) v) : ∃ a, v = .ref a ∧ ¬ F a ∧ DctR K F H ks ds a := by
  simp only [VR] at h
  exact h
theorem VR.dctM {K : PySem.W.Frag} {F : AS} {H : Hp} {ks ds : List D} {a : Addr} (n : ¬ F a) (h : DctR K F H ks ds a) : VR K F H (.dct ks ds) (.ref a) := by
  simp only [VR]
  exact ⟨a, rfl, n, h⟩
theorem VR.insI {K : PySem.W.Frag} {F : AS} {H : Hp} {c : Str} {ns : List Str} {fs : List D} {v : V} (h : VR K F H (.ins c ns fs) v) : ∃ a, v = .ref a ∧ ¬ F a ∧ InsR K F H c ns fs a := by
  simp only [VR] at h
  obtain ⟨a, dx, vs, e, n, r⟩ := h
  exact ⟨a, e, n, dx, vs, r⟩
theorem VR.insM {K : PySem.W.Frag} {F : AS} {H : Hp} {c : Str} {ns : List Str} {fs : List D} {a : Addr} (n : ¬ F a) (h : InsR K F H c ns fs a) : VR K F H (.ins c ns fs) (.ref a) := by
  simp only [VR]
  obtain ⟨dx, vs, r⟩ := h
  exact ⟨a, dx, vs, rfl, n, r⟩
/-- an object of one's own -/
def OR (K : PySem.W.Frag) (F : AS) (H : Hp) : O → Addr → Prop
  | .lst ds, a => ∃ vs, H a = some (.lst vs) ∧ VRs K F H ds vs
  | .dct ks ds, a => DctR K F H ks ds a
  | .ins c ns fs, a => InsR K F H c ns fs a
/-- what may be reached through a name of an object of one's own: the object itself besides -/
def VB (K : PySem.W.Frag) (F M : AS) (H : Hp) (d : D) (v : V) : Prop := VR K F H d v ∨ ∃ a o, d = O.d o ∧ v = .ref a ∧ M a ∧ OR K F H o a
/-- an object that may be one's own -/
def ownO : HO → Bool
  | .lst _ => true
  | .ext _ => true
  | .dK _ => true
  | .ins _ _ _ => true
  | _ => false
/-- what stands and is not M's stands on -/
structure Ext (M : AS) (H H' : Hp) : Prop where
  keep : ∀ a o, H a = some o → ¬ M a → H' a = some o
  dom : ∀ a, H a ≠ none → H' a ≠ none
theorem Ext.refl (M : AS) (H : Hp) : Ext M H H := ⟨fun _ _ h _ => h, fun _ h => h⟩
theorem Ext.trans {M : AS} {H H1 H2 : Hp} (a : Ext M H H1) (b : Ext M H1 H2) : Ext M H H2 :=
  ⟨fun x o h n => b.keep x o (a.keep x o h n) n, fun x h => b.dom x (a.dom x h)⟩
theorem Ext.mono {M M' : AS} {H H' : Hp} (h : Ext M H H') (s : ∀ a, M a → M' a) : Ext M' H H' := ⟨fun a o e n => h.keep a o e fun m => n (s a m), h.dom⟩
theorem Ext.new {M : AS} {H : Hp} {p : Addr} {o : HO} (h : H p = none) : Ext M H (upd H p o) :=
  ⟨fun a u e _ => by rw [upd_ne (ne_of_none e h)]; exact e, fun a e => by
    by_cases z : a = p
    · subst z; exact absurd h e
    · rw [upd_ne z]; exact e⟩
theorem Ext.put {M : AS} {H : Hp} {p : Addr} {o : HO} (h : M p) (d : H p ≠ none) : Ext M H (upd H p o) :=
  ⟨fun a u e n => by rw [upd_ne (fun z => n (by rw [z]; exact h))]; exact e, fun a e => by
    by_cases z : a = p
    · subst z; rw [upd_same]; intro q; cases q
    · rw [upd_ne z]; exact e⟩
theorem Ext.free {M : AS} {H H' : Hp} {p : Addr} (e : Ext M H H') (h : H' p = none) : H p = none := by
  cases q : H p with
  | none => rfl
  | some o => exact absurd h (e.dom p (by rw [q]; intro z; cases z))
section
variable {K : PySem.W.Frag} {F F' M M' : AS} {H H' : Hp}
mutual
theorem VR.mono (hk : ∀ a o, H a = some o → ¬ F a → H' a = some o) (hf : ∀ a o, H a = some o → ¬ F a → ¬ F' a) : ∀ (d : D) (v : V), VR K F H d v → VR K F' H' d v
  | .non, v, h => by simpa only [VR] using h
  | .bl b, v, h => by simpa only [VR] using h
  | .int i, v, h => by simpa only [VR] using h
  | .str s, v, h => by simpa only [VR] using h
  | .tup ds, v, h => by
    simp only [VR] at h ⊢
    obtain ⟨a, vs, e, q, r⟩ := h
    refine ⟨a, vs, e, ?_, VRs.mono hk hf ds vs r⟩
    rcases q with ⟨n, q⟩ | q
    · exact .inl ⟨hf a _ q n, hk a _ q n⟩
    · exact .inr q
  | .lst ds, v, h => by
    simp only [VR] at h ⊢
    obtain ⟨a, vs, e, n, q, r⟩ := h
    exact ⟨a, vs, e, hf a _ q n, hk a _ q n, VRs.mono hk hf ds vs r⟩
  | .scr ns, v, h => by
    simp only [VR] at h ⊢
    obtain ⟨a, e, q⟩ := h
    refine ⟨a, e, ?_⟩
    rcases q with ⟨n, o, q⟩ | q
    · exact .inl ⟨hf a _ q n, o, hk a _ q n⟩
    · exact .inr q
  | .dct ks ds, v, h => by
    simp only [VR] at h ⊢
    obtain ⟨a, e, n, h⟩ := h
    have hd : ∀ o, H a = some o → ¬ F' a ∧ H' a = some o := fun o q => ⟨hf a _ q n, hk a _ q n⟩
    rcases h with ⟨xs, dvs, ⟨⟨ep, e0⟩, p1, p2, p3, p4⟩, h1, h2, h3, h4, h5⟩ | ⟨kvs, h1, h2, h3, h4, h5⟩
    · exact ⟨a, e, (hd _ e0).1, .inl ⟨xs, dvs, ⟨⟨ep, (hd _ e0).2⟩, p1, p2, p3, p4⟩, VRs.mono hk hf ks _ h1, h2, h3, VRs.mono hk hf ds dvs h4, h5⟩⟩
    · exact ⟨a, e, (hd _ h1).1, .inr ⟨kvs, (hd _ h1).2, h2, h3, h4, VRs.mono hk hf ds _ h5⟩⟩
  | .ins c ns fs, v, h => by
    simp only [VR] at h ⊢
    obtain ⟨a, dx, vs, e, n, q, l, r⟩ := h
    exact ⟨a, dx, vs, e, hf a _ q n, hk a _ q n, l, VRs.mono hk hf fs vs r⟩
theorem VRs.mono (hk : ∀ a o, H a = some o → ¬ F a → H' a = some o) (hf : ∀ a o, H a = some o → ¬ F a → ¬ F' a) : ∀ (ds : List D) (vs : List V), VRs K F H ds vs → VRs K F' H' ds vs
  | [], vs, h => by simpa only [VRs] using h
  | d :: ds, vs, h => by
    simp only [VRs] at h ⊢
    obtain ⟨v, r, e, h1, h2⟩ := h
    exact ⟨v, r, e, VR.mono hk hf d v h1, VRs.mono hk hf ds r h2⟩
end
theorem VR.ext {d : D} {v : V} (h : VR K F H d v) (e : Ext M H H') (s : ∀ a, M a → F a) : VR K F H' d v :=
  VR.mono (fun a o q n => e.keep a o q fun m => n (s a m)) (fun _ _ _ n => n) d v h
theorem VRs.ext {d : List D} {v : List V} (h : VRs K F H d v) (e : Ext M H H') (s : ∀ a, M a → F a) : VRs K F H' d v :=
  VRs.mono (fun a o q n => e.keep a o q fun m => n (s a m)) (fun _ _ _ n => n) d v h
/-- fewer are forbidden -/
theorem VR.less {d : D} {v : V} (h : VR K F H d v) (s : ∀ a, F' a → F a) : VR K F' H d v := VR.mono (fun _ _ q _ => q) (fun a _ _ n z => n (s a z)) d v h
theorem VRs.less {d : List D} {v : List V} (h : VRs K F H d v) (s : ∀ a, F' a → F a) : VRs K F' H d v := VRs.mono (fun _ _ q _ => q) (fun a _ _ n z => n (s a z)) d v h
/-- a fresh address may be forbidden -/
theorem VR.more {d : D} {v : V} {p : Addr} (h : VR K F H d v) (hp : H p = none) : VR K (fun a => F a ∨ a = p) H d v :=
  VR.mono (fun _ _ q _ => q) (fun a o q n z => z.elim n fun e => by rw [e, hp] at q; cases q) d v h
theorem VRs.more {d : List D} {v : List V} {p : Addr} (h : VRs K F H d v) (hp : H p = none) : VRs K (fun a => F a ∨ a = p) H d v :=
  VRs.mono (fun _ _ q _ => q) (fun a o q n z => z.elim n fun e => by rw [e, hp] at q; cases q) d v h
mutual
theorem VR.flat (hf : ∀ a, F' a → ¬ F a → ∃ o, H a = some o ∧ ownO o = true) : ∀ (d : D) (v : V), d.flat = true → VR K F H d v → VR K F' H d v
  | .non, v, _, h => by simpa only [VR] using h
  | .bl b, v, _, h => by simpa only [VR] using h
  | .int i, v, _, h => by simpa only [VR] using h
  | .str s, v, _, h => by simpa only [VR] using h
  | .tup ds, v, z, h => by
    simp only [VR] at h ⊢
    obtain ⟨a, vs, e, q, r⟩ := h
    refine ⟨a, vs, e, ?_, VRs.flat hf ds vs (by simpa only [D.flat] using z) r⟩
    rcases q with ⟨n, q⟩ | q
    · refine .inl ⟨fun f => ?_, q⟩
      obtain ⟨o, e2, e3⟩ := hf a f n
      rw [q] at e2; cases e2; cases e3
    · exact .inr q
  | .lst _, _, z, _ => by simp only [D.flat] at z; cases z
  | .scr ns, v, _, h => by
    simp only [VR] at h ⊢
    obtain ⟨a, e, q⟩ := h
    refine ⟨a, e, ?_⟩
    rcases q with ⟨n, o, q⟩ | q
    · refine .inl ⟨fun f => ?_, o, q⟩
      obtain ⟨o, e2, e3⟩ := hf a f n
      rw [q] at e2; cases e2; cases e3
    · exact .inr q
  | .dct _ _, _, z, _ => by simp only [D.flat] at z; cases z
  | .ins _ _ _, _, z, _ => by simp only [D.flat] at z; cases z
theorem VRs.flat (hf : ∀ a, F' a → ¬ F a → ∃ o, H a = some o ∧ ownO o = true) : ∀ (ds : List D) (vs : List V), D.flats ds = true → VRs K F H ds vs → VRs K F' H ds vs
  | [], vs, _, h => by simpa only [VRs] using h
  | d :: ds, vs, z, h => by
    simp only [VRs] at h ⊢
    obtain ⟨v, r, e, h1, h2⟩ := h
    have z' : (D.flat d && D.flats ds) = true := by simpa only [D.flats] using z
    obtain ⟨z1, z2⟩ := Bool.and_eq_true_iff.mp z'
    exact ⟨v, r, e, VR.flat hf d v z1 h1, VRs.flat hf ds r z2 h2⟩
end
theorem VRs.nil_iff {vs : List V} : VRs K F H [] vs ↔ vs = [] := by simp only [VRs]
theorem VRs.cons_mk {d : D} {ds : List D} {v : V} {vs : List V} (h : VR K F H d v) (hs : VRs K F H ds vs) : VRs K F H (d :: ds) (v :: vs) := by
  simp only [VRs]
  exact ⟨v, vs, rfl, h, hs⟩
theorem VRs.cons_inv {d : D} {ds : List D} {vs : List V} (h : VRs K F H (d :: ds) vs) : ∃ v r, vs = v :: r ∧ VR K F H d v ∧ VRs K F H ds r := by simpa only [VRs] using h
theorem VRs.len : ∀ {ds : List D} {vs : List V}, VRs K F H ds vs → ds.length = vs.length
  | [], vs, h => by rw [VRs.nil_iff.mp h]; rfl
  | d :: ds, vs, h => by
    obtain ⟨v, r, rfl, _, h2⟩ := h.cons_inv
    simp only [List.length_cons, VRs.len h2]
theorem VRs.at_ : ∀ {ds : List D} {vs : List V} {i : Nat} {d : D}, VRs K F H ds vs → ds[i]? = some d → ∃ v, vs[i]? = some v ∧ VR K F H d v
  | [], _, i, d, _, e => by simp at e
  | x :: ds, vs, 0, d, h, e => by
    obtain ⟨v, r, rfl, h1, _⟩ := h.cons_inv
    simp at e; subst e
    exact ⟨v, rfl, h1⟩
  | x :: ds, vs, i + 1, d, h, e => by
    obtain ⟨v, r, rfl, _, h2⟩ := h.cons_inv
    obtain ⟨u, a, b⟩ := VRs.at_ (i := i) h2 (by simpa using e)
    exact ⟨u, by simpa using a, b⟩
theorem VRs.append : ∀ {ds es : List D} {vs ws : List V}, VRs K F H ds vs → VRs K F H es ws → VRs K F H (ds ++ es) (vs ++ ws)
  | [], es, vs, ws, h, h' => by rw [VRs.nil_iff.mp h]; exact h'
  | d :: ds, es, vs, ws, h, h' => by
    obtain ⟨v, r, rfl, h1, h2⟩ := h.cons_inv
    exact .cons_mk h1 (VRs.append h2 h')
theorem VRs.take : ∀ {ds : List D} {vs : List V} (n : Nat), VRs K F H ds vs → VRs K F H (ds.take n) (vs.take n)
  | ds, vs, 0, _ => by simp [VRs.nil_iff]
  | [], vs, n + 1, h => by rw [VRs.nil_iff.mp h]; simp [VRs.nil_iff]
  | d :: ds, vs, n + 1, h => by
    obtain ⟨v, r, rfl, h1, h2⟩ := h.cons_inv
    exact .cons_mk h1 (VRs.take n h2)
theorem VRs.drop : ∀ {ds : List D} {vs : List V} (n : Nat), VRs K F H ds vs → VRs K F H (ds.drop n) (vs.drop n)
  | ds, vs, 0, h => h
  | [], vs, n + 1, h => by rw [VRs.nil_iff.mp h]; simp [VRs.nil_iff]
  | d :: ds, vs, n + 1, h => by
    obtain ⟨v, r, rfl, h1, h2⟩ := h.cons_inv
    exact VRs.drop n h2
theorem VRs.set : ∀ {ds : List D} {vs : List V} {d : D} {v : V} (i : Nat), VR K F H d v → VRs K F H ds vs → VRs K F H (ds.set i d) (vs.set i v)
  | [], vs, d, v, i, _, h => by rw [VRs.nil_iff.mp h]; simp [VRs.nil_iff]
  | x :: ds, vs, d, v, 0, hv, h => by
    obtain ⟨u, r, rfl, h1, h2⟩ := h.cons_inv
    exact .cons_mk hv h2
  | x :: ds, vs, d, v, i + 1, hv, h => by
    obtain ⟨u, r, rfl, h1, h2⟩ := h.cons_inv
    exact .cons_mk h1 (VRs.set i hv h2)
theorem VRs.rev {ds : List D} : ∀ {vs : List V}, VRs K F H ds vs → VRs K F H ds.reverse vs.reverse := by
  induction ds with
  | nil => intro vs h; rw [VRs.nil_iff.mp h]; simp [VRs.nil_iff]
  | cons d ds ih =>
    intro vs h
    obtain ⟨u, r, rfl, h1, h2⟩ := h.cons_inv
    rw [List.reverse_cons, List.reverse_cons]
    exact (ih h2).append (.cons_mk h1 (VRs.nil_iff.mpr rfl))
theorem VRs.rep {ds : List D} {vs : List V} (h : VRs K F H ds vs) : ∀ k : Nat, VRs K F H (List.replicate k ds).flatten (List.replicate k vs).flatten
  | 0 => by simp [VRs.nil_iff]
  | k + 1 => by
    rw [List.replicate_succ, List.replicate_succ, List.flatten_cons, List.flatten_cons]
    exact h.append (VRs.rep h k)
theorem VRs.ints : ∀ {ds : List D} {vs : List V} {ns : List Int}, VRs K F H ds vs → allInts ds = some ns → vs = ns.map V.int
  | [], vs, ns, h, e => by
    rw [VRs.nil_iff.mp h]
    simp only [allInts, Option.some.injEq] at e
    subst e; rfl
  | d :: ds, vs, ns, h, e => by
    obtain ⟨v, r, rfl, h1, h2⟩ := h.cons_inv
    cases d <;> simp only [allInts] at e <;> try (cases e; done)
    rename_i i
    obtain ⟨m, em, rfl⟩ := Option.map_eq_some_iff.mp e
    have := VRs.ints h2 em
    simp only [VR] at h1
    subst h1 this
    rfl
theorem VRs.bls : ∀ {ds : List D} {vs : List V} {ns : List Bool}, VRs K F H ds vs → allBls ds = some ns → vs = ns.map V.bl
  | [], vs, ns, h, e => by
    rw [VRs.nil_iff.mp h]
    simp only [allBls, Option.some.injEq] at e
    subst e; rfl
  | d :: ds, vs, ns, h, e => by
    obtain ⟨v, r, rfl, h1, h2⟩ := h.cons_inv
    cases d <;> simp only [allBls] at e <;> try (cases e; done)
    rename_i i
    obtain ⟨m, em, rfl⟩ := Option.map_eq_some_iff.mp e
    have := VRs.bls h2 em
    simp only [VR] at h1
    subst h1 this
    rfl
theorem VR.new_tup {ds : List D} {vs : List V} {p : Addr} (h : VRs K F H ds vs) (hp : H p = none) (hn : ¬ F p) : VR K F (upd H p (.tup vs)) (.tup ds) (.ref p) := by
  simp only [VR]
  exact ⟨p, vs, rfl, .inl ⟨hn, upd_same⟩, h.ext (M := fun _ => False) (Ext.new hp) (fun _ z => z.elim)⟩
theorem VR.new_lst {ds : List D} {vs : List V} {p : Addr} (h : VRs K F H ds vs) (hp : H p = none) (hn : ¬ F p) : VR K F (upd H p (.lst vs)) (.lst ds) (.ref p) := by
  simp only [VR]
  exact ⟨p, vs, rfl, hn, upd_same, h.ext (M := fun _ => False) (Ext.new hp) (fun _ z => z.elim)⟩
theorem VR.tupT {ds : List D} {v : V} (h : VR K F H (.tup ds) v) : ∃ a vs, v = .ref a ∧ SqT K H a vs ∧ VRs K F H ds vs := by
  simp only [VR] at h
  obtain ⟨a, vs, e, q, r⟩ := h
  refine ⟨a, vs, e, ?_, r⟩
  rcases q with ⟨_, q⟩ | q
  · exact .of q
  · exact q H
theorem VB.lstL {ds : List D} {v : V} (h : VB K F M H (.lst ds) v) : ∃ a vs, v = .ref a ∧ H a = some (.lst vs) ∧ VRs K F H ds vs := by
  rcases h with h | ⟨a, o, e, ev, _, r⟩
  · simp only [VR] at h
    obtain ⟨a, vs, e, _, q, r⟩ := h
    exact ⟨a, vs, e, q, r⟩
  · cases o <;> cases e
    obtain ⟨vs, q, r⟩ := r
    exact ⟨a, vs, ev, q, r⟩
theorem VB.tup {ds : List D} {v : V} (h : VB K F M H (.tup ds) v) : VR K F H (.tup ds) v := by
  rcases h with h | ⟨a, o, e, _⟩
  · exact h
  · cases o <;> cases e
theorem VB.dctL {ks ds : List D} {v : V} (h : VB K F M H (.dct ks ds) v) : ∃ a, v = .ref a ∧ DctR K F H ks ds a := by
  rcases h with h | ⟨a, o, e, ev, _, r⟩
  · obtain ⟨a, e, _, r⟩ := h.dctI
    exact ⟨a, e, r⟩
  · cases o <;> cases e
    exact ⟨a, ev, r⟩
theorem VB.insL {c : Str} {ns : List Str} {fs : List D} {v : V} (h : VB K F M H (.ins c ns fs) v) : ∃ a, v = .ref a ∧ InsR K F H c ns fs a := by
  rcases h with h | ⟨a, o, e, ev, _, r⟩
  · obtain ⟨a, e, _, r⟩ := h.insI
    exact ⟨a, e, r⟩
  · cases o <;> cases e
    exact ⟨a, ev, r⟩
theorem VR.scrL {ns : List Int} {v : V} (h : VR K F H (.scr ns) v) : ∃ a, v = .ref a ∧ SqL K H a (ns.map V.int) := by
  simp only [VR] at h
  obtain ⟨a, e, q⟩ := h
  refine ⟨a, e, ?_⟩
  rcases q with ⟨_, o, q⟩ | q
  · exact .inl (.inr ⟨o, q⟩)
  · exact q H
/-- no object that may be one's own -/
def notO : D → Bool
  | .lst _ => false
  | .dct _ _ => false
  | .ins _ _ _ => false
  | _ => true
theorem VB.not_lst {d : D} {v : V} (h : VB K F M H d v) (n : notO d = true) : VR K F H d v := by
  rcases h with h | ⟨a, o, e, _⟩
  · exact h
  · subst e; cases o <;> cases n
theorem dp_ints {K : PySem.W.Frag} {H : Hp} : ∀ ns : List Int, DpAll K H (ns.map V.int) (ns.map PyData.int)
  | [] => .nil
  | i :: r => .cons (.int i) (dp_ints r)
theorem plain_ints : ∀ ns : List Int, PyData.plainAll (ns.map PyData.int) = true
  | [] => by simp only [List.map_nil, PyData.plainAll]
  | i :: r => by simp only [List.map_cons, PyData.plainAll, PyData.plain, Bool.true_and]; exact plain_ints r
theorem depth_ints : ∀ ns : List Int, PyData.depthAll (ns.map PyData.int) = 0
  | [] => by simp only [List.map_nil, PyData.depthAll]
  | i :: r => by simp only [List.map_cons, PyData.depthAll, PyData.depth, depth_ints r]; rfl
mutual
theorem VR.dp : ∀ (d : D) (v : V) (n : Nat), d.dep = some n → VR K F H d v → Dp K H v d.py
  | .non, v, _, _, h => by simp only [VR] at h; subst h; simp only [D.py]; exact .non
  | .bl b, v, _, _, h => by simp only [VR] at h; subst h; simp only [D.py]; exact .bl b
  | .int i, v, _, _, h => by simp only [VR] at h; subst h; simp only [D.py]; exact .int i
  | .str s, v, _, _, h => by simp only [VR] at h; subst h; simp only [D.py]; exact .str s
  | .tup ds, v, n, z, h => by
    obtain ⟨a, vs, e, q, r⟩ := h.tupT
    subst e
    simp only [D.py]
    simp only [D.dep] at z
    obtain ⟨m, em, _⟩ := Option.map_eq_some_iff.mp z
    exact .tup q (VRs.dp ds vs m em r)
  | .lst ds, v, n, z, h => by
    obtain ⟨a, vs, e, q, r⟩ := VB.lstL (M := fun _ => False) (.inl h)
    subst e
    simp only [D.py]
    simp only [D.dep] at z
    obtain ⟨m, em, _⟩ := Option.map_eq_some_iff.mp z
    exact .lst (.of q) (VRs.dp ds vs m em r)
  | .scr ns, v, _, _, h => by
    obtain ⟨a, e, q⟩ := h.scrL
    subst e
    simp only [D.py]
    exact .lst q (dp_ints ns)
  | .dct _ _, _, _, z, _ => by simp only [D.dep] at z; cases z
  | .ins _ _ _, _, _, z, _ => by simp only [D.dep] at z; cases z
theorem VRs.dp : ∀ (ds : List D) (vs : List V) (n : Nat), D.deps ds = some n → VRs K F H ds vs → DpAll K H vs (D.pys ds)
  | [], vs, _, _, h => by rw [VRs.nil_iff.mp h]; simp only [D.pys]; exact .nil
  | d :: ds, vs, n, z, h => by
    obtain ⟨v, r, rfl, h1, h2⟩ := h.cons_inv
    simp only [D.pys]
    simp only [D.deps] at z
    cases e1 : D.dep d with
    | none => rw [e1] at z; cases z
    | some a =>
      cases e2 : D.deps ds with
      | none => rw [e1, e2] at z; cases z
      | some b => exact .cons (VR.dp d v a e1 h1) (VRs.dp ds r b e2 h2)
end
theorem VB.dp {d : D} {v : V} {n : Nat} (z : d.dep = some n) (h : VB K F M H d v) : Dp K H v d.py := by
  rcases h with h | ⟨a, o, rfl, rfl, _, r⟩
  · exact VR.dp d v n z h
  · cases o with
    | dct ks vs => simp only [O.d, D.dep] at z; cases z
    | ins c ns fs => simp only [O.d, D.dep] at z; cases z
    | lst ds =>
      obtain ⟨vs, q, r⟩ := r
      simp only [O.d, D.py]
      simp only [O.d, D.dep] at z
      obtain ⟨m, em, _⟩ := Option.map_eq_some_iff.mp z
      exact .lst (.of q) (VRs.dp ds vs m em r)
end
mutual
theorem D.plain_py : ∀ (d : D) (n : Nat), d.dep = some n → d.py.plain = true
  | .non, _, _ => by simp only [D.py, PyData.plain]
  | .bl _, _, _ => by simp only [D.py, PyData.plain]
  | .int _, _, _ => by simp only [D.py, PyData.plain]
  | .str _, _, _ => by simp only [D.py, PyData.plain]
  | .tup ds, n, z => by
    simp only [D.dep] at z
    obtain ⟨m, em, _⟩ := Option.map_eq_some_iff.mp z
    simp only [D.py, PyData.plain]
    exact D.plain_pys ds m em
  | .lst ds, n, z => by
    simp only [D.dep] at z
    obtain ⟨m, em, _⟩ := Option.map_eq_some_iff.mp z
    simp only [D.py, PyData.plain]
    exact D.plain_pys ds m em
  | .scr ns, _, _ => by
    simp only [D.py, PyData.plain]
    exact plain_ints ns
  | .dct _ _, _, z => by simp only [D.dep] at z; cases z
  | .ins _ _ _, _, z => by simp only [D.dep] at z; cases z
theorem D.plain_pys : ∀ (ds : List D) (n : Nat), D.deps ds = some n → PyData.plainAll (D.pys ds) = true
  | [], _, _ => by simp only [D.pys, PyData.plainAll]
  | d :: ds, n, z => by
    simp only [D.deps] at z
    cases e1 : D.dep d with
    | none => rw [e1] at z; cases z
    | some a =>
      cases e2 : D.deps ds with
      | none => rw [e1, e2] at z; cases z
      | some b => simp only [D.pys, PyData.plainAll, D.plain_py d a e1, D.plain_pys ds b e2, Bool.and_self]
end
mutual
theorem D.depth_py : ∀ (d : D) (n : Nat), d.dep = some n → d.py.depth ≤ n
  | .non, _, _ => by simp only [D.py, PyData.depth]; exact Nat.zero_le _
  | .bl _, _, _ => by simp only [D.py, PyData.depth]; exact Nat.zero_le _
  | .int _, _, _ => by simp only [D.py, PyData.depth]; exact Nat.zero_le _
  | .str _, _, _ => by simp only [D.py, PyData.depth]; exact Nat.zero_le _
  | .tup ds, n, z => by
    simp only [D.dep] at z
    obtain ⟨m, em, e⟩ := Option.map_eq_some_iff.mp z
    simp only [D.py, PyData.depth]
    have := D.depth_pys ds m em
    omega
  | .lst ds, n, z => by
    simp only [D.dep] at z
    obtain ⟨m, em, e⟩ := Option.map_eq_some_iff.mp z
    simp only [D.py, PyData.depth]
    have := D.depth_pys ds m em
    omega
  | .scr ns, n, z => by
    simp only [D.dep, Option.some.injEq] at z
    simp only [D.py, PyData.depth, depth_ints]
    omega
  | .dct _ _, _, z => by simp only [D.dep] at z; cases z
  | .ins _ _ _, _, z => by simp only [D.dep] at z; cases z
theorem D.depth_pys : ∀ (ds : List D) (n : Nat), D.deps ds = some n → PyData.depthAll (D.pys ds) ≤ n
  | [], _, _ => by simp only [D.pys, PyData.depthAll]; exact Nat.zero_le _
  | d :: ds, n, z => by
    simp only [D.deps] at z
    cases e1 : D.dep d with
    | none => rw [e1] at z; cases z
    | some a =>
      cases e2 : D.deps ds with
      | none => rw [e1, e2] at z; cases z
      | some b =>
        rw [e1, e2] at z
        simp only [Option.some.injEq] at z
        have h1 := D.depth_py d a e1
        have h2 := D.depth_pys ds b e2
        simp only [D.pys, PyData.depthAll]
        omega
end
end Qh

/-! What a dict's data say of its entries. -/
namespace Qh
open PySem PySem.Spec PyProof.Rows L2
section
variable {K : PySem.W.Frag} {F M : AS} {H : Hp}
theorem DctR.mono {F' : AS} {H' : Hp} {ks ds : List D} {a : Addr} (h : DctR K F H ks ds a) (ha : ∀ o, H a = some o → H' a = some o) (hk : ∀ a o, H a = some o → ¬ F a → H' a = some o) (hf : ∀ a o, H a = some o → ¬ F a → ¬ F' a) : DctR K F' H' ks ds a := by
  rcases h with ⟨xs, dvs, ⟨⟨ep, e0⟩, p1, p2, p3, p4⟩, h1, h2, h3, h4, h5⟩ | ⟨kvs, h1, h2, h3, h4, h5⟩
  · exact .inl ⟨xs, dvs, ⟨⟨ep, ha _ e0⟩, p1, p2, p3, p4⟩, VRs.mono hk hf ks _ h1, h2, h3, VRs.mono hk hf ds dvs h4, h5⟩
  · exact .inr ⟨kvs, ha _ h1, h2, h3, h4, VRs.mono hk hf ds _ h5⟩
theorem InsR.mono {F' : AS} {H' : Hp} {c : Str} {ns : List Str} {fs : List D} {a : Addr} (h : InsR K F H c ns fs a) (ha : ∀ o, H a = some o → H' a = some o) (hk : ∀ a o, H a = some o → ¬ F a → H' a = some o) (hf : ∀ a o, H a = some o → ¬ F a → ¬ F' a) : InsR K F' H' c ns fs a := by
  obtain ⟨dx, vs, q, l, r⟩ := h
  exact ⟨dx, vs, ha _ q, l, VRs.mono hk hf fs vs r⟩
theorem OR.mono {F' : AS} {H' : Hp} {o : O} {a : Addr} (h : OR K F H o a) (ha : ∀ o, H a = some o → H' a = some o) (hk : ∀ a o, H a = some o → ¬ F a → H' a = some o) (hf : ∀ a o, H a = some o → ¬ F a → ¬ F' a) : OR K F' H' o a := by
  cases o with
  | lst ds => obtain ⟨vs, q, r⟩ := h; exact ⟨vs, ha _ q, VRs.mono hk hf ds vs r⟩
  | dct ks ds => exact DctR.mono h ha hk hf
  | ins c ns fs => exact InsR.mono h ha hk hf
/-- what stands there is an object that may be one's own -/
theorem OR.ownO {o : O} {a : Addr} (h : OR K F H o a) : ∃ u, H a = some u ∧ Qh.ownO u = true := by
  cases o with
  | lst ds => obtain ⟨vs, q, r⟩ := h; exact ⟨_, q, rfl⟩
  | dct ks ds =>
    rcases h with ⟨xs, dvs, ⟨⟨ep, e0⟩, _⟩, _⟩ | ⟨kvs, h1, _⟩
    · exact ⟨_, e0, rfl⟩
    · exact ⟨_, h1, rfl⟩
  | ins c ns fs => obtain ⟨dx, vs, q, _⟩ := h; exact ⟨_, q, rfl⟩
theorem ownO_tup {u : HO} (h : Qh.ownO u = true) : ∀ vs, u ≠ .tup vs := fun vs e => by subst e; cases h
theorem OR.vr {o : O} {a : Addr} (h : OR K F H o a) (n : ¬ F a) : VR K F H (O.d o) (.ref a) := by
  cases o with
  | lst ds =>
    obtain ⟨vs, q, r⟩ := h
    simp only [O.d, VR]
    exact ⟨a, vs, rfl, n, q, r⟩
  | dct ks ds => exact VR.dctM n h
  | ins c ns fs => exact VR.insM n h
mutual
theorem VR.keyV : ∀ (d : D) (v : V) (k : NestedKey), kOf d = some k → VR K F H d v → KeyV K H k v
  | .non, v, k, e, h => by
    simp only [kOf, Option.some.injEq] at e; subst e
    simp only [VR] at h
    simpa only [KeyV] using h
  | .bl b, v, k, e, h => by simp only [kOf] at e; cases e
  | .int i, v, k, e, h => by
    simp only [kOf, Option.some.injEq] at e; subst e
    simp only [VR] at h
    simpa only [KeyV] using h
  | .str i, v, k, e, h => by
    simp only [kOf, Option.some.injEq] at e; subst e
    simp only [VR] at h
    simpa only [KeyV] using h
  | .tup l, v, k, e, h => by
    simp only [kOf] at e
    obtain ⟨ks, eks, rfl⟩ := Option.map_eq_some_iff.mp e
    obtain ⟨a, vs, rfl, t, r⟩ := h.tupT
    simp only [KeyV]
    exact ⟨a, vs, rfl, t, VRs.keyV l vs ks eks r⟩
  | .lst l, v, k, e, h => by simp only [kOf] at e; cases e
  | .scr l, v, k, e, h => by simp only [kOf] at e; cases e
  | .dct a b, v, k, e, h => by simp only [kOf] at e; cases e
  | .ins a b c, v, k, e, h => by simp only [kOf] at e; cases e
theorem VRs.keyV : ∀ (ds : List D) (vs : List V) (ks : List NestedKey), kOfs ds = some ks → VRs K F H ds vs → KeyVs K H ks vs
  | [], vs, ks, e, h => by
    simp only [kOfs, Option.some.injEq] at e; subst e
    rw [VRs.nil_iff.mp h]
    simp only [KeyVs]
  | d :: ds, vs, ks, e, h => by
    obtain ⟨v, r, rfl, h1, h2⟩ := h.cons_inv
    simp only [kOfs] at e
    cases q1 : kOf d with
    | none => rw [q1] at e; cases e
    | some k =>
      cases q2 : kOfs ds with
      | none => rw [q1, q2] at e; cases e
      | some ks' =>
        rw [q1, q2] at e
        cases e
        simp only [KeyVs]
        exact ⟨v, r, rfl, VR.keyV d v k q1 h1, VRs.keyV ds r ks' q2 h2⟩
end
def OptR (K : PySem.W.Frag) (F : AS) (H : Hp) : Option D → Option V → Prop
  | some d, some v => VR K F H d v
  | none, none => True
  | _, _ => False
/-- entry by entry -/
def Al (K : PySem.W.Frag) (F : AS) (H : Hp) : List D → List D → List XE → Prop
  | [], [], [] => True
  | k :: ks, d :: ds, x :: xs => VR K F H k (kvV x) ∧ kOf k = some x.1 ∧ (∃ v, VR K F H d v ∧ RelV v x.2.2) ∧ Al K F H ks ds xs
  | _, _, _ => False
theorem Al.of : ∀ {ks ds : List D} {xs : List XE} {dvs : List V}, VRs K F H ks (xs.map kvV) → ks.map kOf = xs.map (fun x => some x.1) → VRs K F H ds dvs → Vals dvs (xs.map fun x => x.2.2) → Al K F H ks ds xs
  | [], ds, [], dvs, _, _, h, r => by
    cases r
    have := h.len
    have : ds = [] := List.length_eq_zero_iff.mp (by simpa using this)
    subst this
    trivial
  | [], _, _ :: _, _, _, e, _, _ => by cases e
  | _ :: _, _, [], _, _, e, _, _ => by cases e
  | k :: ks, ds, x :: xs, dvs, h, e, hd, r => by
    rw [List.map_cons] at h r
    simp only [List.map_cons, List.cons.injEq] at e
    cases r with
    | @cons v u vs us r1 r2 =>
      cases ds with
      | nil => have := VRs.nil_iff.mp hd; cases this
      | cons d ds =>
        obtain ⟨v', r', e1, h1, h2⟩ := h.cons_inv
        cases e1
        obtain ⟨w, r'', e2, g1, g2⟩ := hd.cons_inv
        cases e2
        exact ⟨h1, e.1, ⟨_, g1, r1⟩, Al.of h2 e.2 g2 r2⟩
theorem Al.out : ∀ {ks ds : List D} {xs : List XE}, Al K F H ks ds xs → VRs K F H ks (xs.map kvV) ∧ ks.map kOf = xs.map (fun x => some x.1) ∧ ∃ dvs, VRs K F H ds dvs ∧ Vals dvs (xs.map fun x => x.2.2)
  | [], [], [], _ => ⟨VRs.nil_iff.mpr rfl, rfl, [], VRs.nil_iff.mpr rfl, .nil⟩
  | [], [], _ :: _, h => h.elim
  | [], _ :: _, [], h => h.elim
  | [], _ :: _, _ :: _, h => h.elim
  | _ :: _, [], [], h => h.elim
  | _ :: _, [], _ :: _, h => h.elim
  | _ :: _, _ :: _, [], h => h.elim
  | k :: ks, d :: ds, x :: xs, ⟨h1, h2, ⟨v, h3, h4⟩, h5⟩ => by
    obtain ⟨g1, g2, dvs, g3, g4⟩ := Al.out h5
    exact ⟨.cons_mk h1 g1, by simp only [List.map_cons, h2, g2], v :: dvs, .cons_mk h3 g3, .cons h4 g4⟩
theorem Al.len : ∀ {ks ds : List D} {xs : List XE}, Al K F H ks ds xs → ks.length = xs.length ∧ ds.length = xs.length
  | [], [], [], _ => ⟨rfl, rfl⟩
  | [], [], _ :: _, h => h.elim
  | [], _ :: _, [], h => h.elim
  | [], _ :: _, _ :: _, h => h.elim
  | _ :: _, [], [], h => h.elim
  | _ :: _, [], _ :: _, h => h.elim
  | _ :: _, _ :: _, [], h => h.elim
  | k :: ks, d :: ds, x :: xs, ⟨_, _, _, h5⟩ => by
    obtain ⟨a, b⟩ := Al.len h5
    simp only [List.length_cons, a, b, and_self]
theorem atKey_pos {x : XE} {xs : List XE} {n : NestedKey} (h : x.1 = n) : atKey (x :: xs) n = some x.2 := by simp [atKey, List.find?_cons, h]
theorem atKey_neg {x : XE} {xs : List XE} {n : NestedKey} (h : ¬ x.1 = n) : atKey (x :: xs) n = atKey xs n := by simp [atKey, List.find?_cons, h]
theorem hitT_iff {n m : NestedKey} {k : D} (h : kOf k = some m) : hitT n k = decide (m = n) := by
  unfold hitT
  rw [h]
  by_cases e : m = n
  · subst e; simp
  · rw [decide_eq_false e]
    exact decide_eq_false fun z => e (Option.some.inj z)
theorem Al.find (n : NestedKey) : ∀ {ks ds : List D} {xs : List XE}, Al K F H ks ds xs → ∃ o, OptR K F H (dFind (hitT n) ks ds) o ∧ RelO o (valX xs n)
  | [], [], [], _ => ⟨none, trivial, trivial⟩
  | [], [], _ :: _, h => h.elim
  | [], _ :: _, [], h => h.elim
  | [], _ :: _, _ :: _, h => h.elim
  | _ :: _, [], [], h => h.elim
  | _ :: _, [], _ :: _, h => h.elim
  | _ :: _, _ :: _, [], h => h.elim
  | k :: ks, d :: ds, x :: xs, ⟨h1, h2, ⟨v, h3, h4⟩, h5⟩ => by
    unfold dFind valX
    rw [hitT_iff h2]
    by_cases e : x.1 = n
    · rw [if_pos (decide_eq_true e), atKey_pos e]
      exact ⟨some v, h3, h4⟩
    · rw [if_neg (by simpa using e), atKey_neg e]
      exact Al.find n h5
theorem Al.any (n : NestedKey) : ∀ {ks ds : List D} {xs : List XE}, Al K F H ks ds xs → ks.any (hitT n) = (atKey xs n).isSome
  | [], [], [], _ => rfl
  | [], [], _ :: _, h => h.elim
  | [], _ :: _, [], h => h.elim
  | [], _ :: _, _ :: _, h => h.elim
  | _ :: _, [], [], h => h.elim
  | _ :: _, [], _ :: _, h => h.elim
  | _ :: _, _ :: _, [], h => h.elim
  | k :: ks, d :: ds, x :: xs, ⟨h1, h2, ⟨v, h3, h4⟩, h5⟩ => by
    rw [List.any_cons, hitT_iff h2]
    by_cases e : x.1 = n
    · rw [atKey_pos e, decide_eq_true e]; rfl
    · rw [atKey_neg e, decide_eq_false e, Bool.false_or]
      exact Al.any n h5
theorem Al.repl (n : NestedKey) {d' : D} {v' : V} {u : Value} (hd : VR K F H d' v') (hu : RelV v' u) : ∀ {ks ds : List D} {xs : List XE}, Al K F H ks ds xs → (xs.map (·.1)).Nodup → ks.any (hitT n) = true → Al K F H ks (dSet (hitT n) d' ks ds) (xs.map (putAt n u))
  | [], [], [], _, _, h => by cases h
  | [], [], _ :: _, h, _, _ => h.elim
  | [], _ :: _, [], h, _, _ => h.elim
  | [], _ :: _, _ :: _, h, _, _ => h.elim
  | _ :: _, [], [], h, _, _ => h.elim
  | _ :: _, [], _ :: _, h, _, _ => h.elim
  | _ :: _, _ :: _, [], h, _, _ => h.elim
  | k :: ks, d :: ds, x :: xs, ⟨h1, h2, ⟨v, h3, h4⟩, h5⟩, hn, ha => by
    rw [List.map_cons, List.nodup_cons] at hn
    unfold dSet
    rw [hitT_iff h2]
    rw [List.any_cons, hitT_iff h2] at ha
    rw [List.map_cons]
    by_cases e : x.1 = n
    · rw [if_pos (decide_eq_true e), map_putAt_of_not_mem xs n u (by rw [← e]; exact hn.1)]
      unfold putAt
      rw [if_pos e]
      exact ⟨h1, h2, ⟨v', hd, hu⟩, h5⟩
    · rw [if_neg (by simpa using e)]
      rw [decide_eq_false e, Bool.false_or] at ha
      unfold putAt
      rw [if_neg e]
      exact ⟨h1, h2, ⟨v, h3, h4⟩, Al.repl n hd hu h5 hn.2 ha⟩
theorem Al.snoc {n : NestedKey} {b : Addr} {kd d' : D} {v' : V} {u : Value} (hk : VR K F H kd (.ref b)) (hn : kOf kd = some n) (hd : VR K F H d' v') (hu : RelV v' u) : ∀ {ks ds : List D} {xs : List XE}, Al K F H ks ds xs → Al K F H (ks ++ [kd]) (ds ++ [d']) (xs ++ [(n, b, u)])
  | [], [], [], _ => ⟨hk, hn, ⟨v', hd, hu⟩, trivial⟩
  | [], [], _ :: _, h => h.elim
  | [], _ :: _, [], h => h.elim
  | [], _ :: _, _ :: _, h => h.elim
  | _ :: _, [], [], h => h.elim
  | _ :: _, [], _ :: _, h => h.elim
  | _ :: _, _ :: _, [], h => h.elim
  | k :: ks, d :: ds, x :: xs, ⟨h1, h2, h3, h5⟩ => ⟨h1, h2, h3, Al.snoc hk hn hd hu h5⟩
theorem Al.keys : ∀ {ks ds : List D} {xs : List XE}, Al K F H ks ds xs → ∀ x ∈ xs, KeyV K H x.1 (.ref x.2.1)
  | [], [], [], _ => fun x hx => by cases hx
  | [], [], _ :: _, h => h.elim
  | [], _ :: _, [], h => h.elim
  | [], _ :: _, _ :: _, h => h.elim
  | _ :: _, [], [], h => h.elim
  | _ :: _, [], _ :: _, h => h.elim
  | _ :: _, _ :: _, [], h => h.elim
  | k :: ks, d :: ds, x :: xs, ⟨h1, h2, _, h5⟩ => fun y hy => by
    rcases List.mem_cons.mp hy with rfl | hy
    · exact VR.keyV k _ _ h2 h1
    · exact Al.keys h5 y hy
/-- a dict with tuple keys -/
structure TDct (K : PySem.W.Frag) (F : AS) (H : Hp) (ks ds : List D) (a : Addr) (xs : List XE) : Prop where
  p : DXp H a xs
  al : Al K F H ks ds xs
  all : allT ks = true
theorem TDct.dx {ks ds : List D} {a : Addr} {xs : List XE} (t : TDct K F H ks ds a xs) : DX K H a xs := ⟨t.p.at_, fun x hx => ⟨t.al.keys x hx, t.p.nt x hx⟩, t.p.nd, t.p.low, t.p.len⟩
theorem TDct.r {ks ds : List D} {a : Addr} {xs : List XE} (t : TDct K F H ks ds a xs) : DctR K F H ks ds a := by
  obtain ⟨h1, h2, dvs, h3, h4⟩ := t.al.out
  exact .inl ⟨xs, dvs, t.p, h1, h2, t.all, h3, h4⟩
/-- texts -/
def AlS (K : PySem.W.Frag) (F : AS) (H : Hp) : List D → List D → List (Key × V) → Prop
  | [], [], [] => True
  | k :: ks, d :: ds, p :: kvs => k = keyD p.1 ∧ VR K F H d p.2 ∧ AlS K F H ks ds kvs
  | _, _, _ => False
theorem AlS.of : ∀ {ks ds : List D} {kvs : List (Key × V)}, ks = kvs.map (fun p => keyD p.1) → VRs K F H ds (kvs.map (·.2)) → AlS K F H ks ds kvs
  | ks, ds, [], e, h => by
    subst e
    have := h.len
    have : ds = [] := List.length_eq_zero_iff.mp (by simpa using this)
    subst this
    trivial
  | ks, ds, p :: kvs, e, h => by
    subst e
    rw [List.map_cons] at h ⊢
    cases ds with
    | nil => have := VRs.nil_iff.mp h; cases this
    | cons d ds =>
      obtain ⟨v, r, e1, h1, h2⟩ := h.cons_inv
      cases e1
      exact ⟨rfl, h1, AlS.of rfl h2⟩
theorem AlS.out : ∀ {ks ds : List D} {kvs : List (Key × V)}, AlS K F H ks ds kvs → ks = kvs.map (fun p => keyD p.1) ∧ VRs K F H ds (kvs.map (·.2))
  | [], [], [], _ => ⟨rfl, VRs.nil_iff.mpr rfl⟩
  | [], [], _ :: _, h => h.elim
  | [], _ :: _, [], h => h.elim
  | [], _ :: _, _ :: _, h => h.elim
  | _ :: _, [], [], h => h.elim
  | _ :: _, [], _ :: _, h => h.elim
  | _ :: _, _ :: _, [], h => h.elim
  | k :: ks, d :: ds, p :: kvs, ⟨h1, h2, h3⟩ => by
    obtain ⟨e, r⟩ := AlS.out h3
    exact ⟨by rw [List.map_cons, ← e, h1], .cons_mk h2 r⟩
theorem hitS_iff {x : Str} {k : Key} : hitS x (keyD k) = decide (k = .inr x) := by
  cases k with
  | inl i =>
    rw [decide_eq_false (fun z => nomatch z)]
    exact decide_eq_false fun z => nomatch z
  | inr y =>
    unfold hitS keyS keyD
    by_cases e : y = x
    · subst e; simp
    · rw [decide_eq_false (fun z => e (Sum.inr.inj z))]
      exact decide_eq_false fun z => e (Option.some.inj z)
theorem AlS.find (x : Str) : ∀ {ks ds : List D} {kvs : List (Key × V)}, AlS K F H ks ds kvs → OptR K F H (dFind (hitS x) ks ds) (valV kvs (Sum.inr x : Key))
  | [], [], [], _ => trivial
  | [], [], _ :: _, h => h.elim
  | [], _ :: _, [], h => h.elim
  | [], _ :: _, _ :: _, h => h.elim
  | _ :: _, [], [], h => h.elim
  | _ :: _, [], _ :: _, h => h.elim
  | _ :: _, _ :: _, [], h => h.elim
  | k :: ks, d :: ds, p :: kvs, ⟨h1, h2, h3⟩ => by
    subst h1
    unfold dFind
    rw [hitS_iff]
    by_cases e : p.1 = Sum.inr x
    · rw [if_pos (decide_eq_true e), valV_pos e]
      exact h2
    · rw [if_neg (by simpa using e), valV_neg e]
      exact AlS.find x h3
theorem AlS.any (x : Str) : ∀ {ks ds : List D} {kvs : List (Key × V)}, AlS K F H ks ds kvs → ks.any (hitS x) = kvs.any fun kv => decide (kv.1 = (Sum.inr x : Key))
  | [], [], [], _ => rfl
  | [], [], _ :: _, h => h.elim
  | [], _ :: _, [], h => h.elim
  | [], _ :: _, _ :: _, h => h.elim
  | _ :: _, [], [], h => h.elim
  | _ :: _, [], _ :: _, h => h.elim
  | _ :: _, _ :: _, [], h => h.elim
  | k :: ks, d :: ds, p :: kvs, ⟨h1, h2, h3⟩ => by
    subst h1
    rw [List.any_cons, List.any_cons, hitS_iff, AlS.any x h3]
theorem AlS.repl (x : Str) {d' : D} {v' : V} (hd : VR K F H d' v') : ∀ {ks ds : List D} {kvs : List (Key × V)}, AlS K F H ks ds kvs → (kvs.map (·.1)).Nodup → ks.any (hitS x) = true →
    AlS K F H ks (dSet (hitS x) d' ks ds) (kvs.map fun kv => if kv.1 = (Sum.inr x : Key) then (kv.1, v') else kv)
  | [], [], [], _, _, h => by cases h
  | [], [], _ :: _, h, _, _ => h.elim
  | [], _ :: _, [], h, _, _ => h.elim
  | [], _ :: _, _ :: _, h, _, _ => h.elim
  | _ :: _, [], [], h, _, _ => h.elim
  | _ :: _, [], _ :: _, h, _, _ => h.elim
  | _ :: _, _ :: _, [], h, _, _ => h.elim
  | k :: ks, d :: ds, p :: kvs, ⟨h1, h2, h3⟩, hn, ha => by
    subst h1
    rw [List.map_cons, List.nodup_cons] at hn
    rw [List.any_cons, hitS_iff] at ha
    unfold dSet
    rw [hitS_iff, List.map_cons]
    by_cases e : p.1 = Sum.inr x
    · rw [if_pos (decide_eq_true e), if_pos e]
      have : (kvs.map fun kv => if kv.1 = (Sum.inr x : Key) then (kv.1, v') else kv) = kvs := by
        conv => rhs; rw [← List.map_id kvs]
        refine List.map_congr_left fun q hq => ?_
        rw [if_neg fun z => hn.1 (List.mem_map.mpr ⟨q, hq, z.trans e.symm⟩)]
        rfl
      rw [this]
      exact ⟨rfl, hd, h3⟩
    · rw [if_neg (by simpa using e), if_neg e]
      rw [decide_eq_false e, Bool.false_or] at ha
      exact ⟨rfl, h2, AlS.repl x hd h3 hn.2 ha⟩
theorem AlS.snoc {x : Str} {d' : D} {v' : V} (hd : VR K F H d' v') : ∀ {ks ds : List D} {kvs : List (Key × V)}, AlS K F H ks ds kvs → AlS K F H (ks ++ [.str x]) (ds ++ [d']) (kvs ++ [(Sum.inr x, v')])
  | [], [], [], _ => ⟨rfl, hd, trivial⟩
  | [], [], _ :: _, h => h.elim
  | [], _ :: _, [], h => h.elim
  | [], _ :: _, _ :: _, h => h.elim
  | _ :: _, [], [], h => h.elim
  | _ :: _, [], _ :: _, h => h.elim
  | _ :: _, _ :: _, [], h => h.elim
  | k :: ks, d :: ds, p :: kvs, ⟨h1, h2, h3⟩ => ⟨h1, h2, AlS.snoc hd h3⟩
theorem AlS.len : ∀ {ks ds : List D} {kvs : List (Key × V)}, AlS K F H ks ds kvs → ks.length = kvs.length ∧ ds.length = kvs.length
  | [], [], [], _ => ⟨rfl, rfl⟩
  | [], [], _ :: _, h => h.elim
  | [], _ :: _, [], h => h.elim
  | [], _ :: _, _ :: _, h => h.elim
  | _ :: _, [], [], h => h.elim
  | _ :: _, [], _ :: _, h => h.elim
  | _ :: _, _ :: _, [], h => h.elim
  | k :: ks, d :: ds, p :: kvs, ⟨_, _, h3⟩ => by
    obtain ⟨a, b⟩ := AlS.len h3
    simp only [List.length_cons, a, b, and_self]
structure SDct (K : PySem.W.Frag) (F : AS) (H : Hp) (ks ds : List D) (a : Addr) (kvs : List (Key × V)) : Prop where
  at_ : H a = some (.dK kvs)
  al : AlS K F H ks ds kvs
  all : allS ks = true
  nd : (kvs.map (·.1)).Nodup
theorem SDct.r {ks ds : List D} {a : Addr} {kvs : List (Key × V)} (t : SDct K F H ks ds a kvs) : DctR K F H ks ds a := by
  obtain ⟨h1, h2⟩ := t.al.out
  exact .inr ⟨kvs, t.at_, h1, t.all, t.nd, h2⟩
theorem DctR.cases {ks ds : List D} {a : Addr} (h : DctR K F H ks ds a) : (∃ xs, TDct K F H ks ds a xs) ∨ ∃ kvs, SDct K F H ks ds a kvs := by
  rcases h with ⟨xs, dvs, p, h1, h2, h3, h4, h5⟩ | ⟨kvs, h1, h2, h3, h4, h5⟩
  · exact .inl ⟨xs, p, Al.of h1 h2 h4 h5, h3⟩
  · exact .inr ⟨kvs, h1, AlS.of h2 h5, h3, h4⟩
theorem allST {ks : List D} (h : allS ks = true) (h' : allT ks = true) : False := by
  unfold allS at h
  unfold allT at h'
  cases ks with
  | nil => cases h
  | cons k ks =>
    simp only [List.isEmpty_cons, Bool.not_false, Bool.true_and, List.all_cons, Bool.and_eq_true] at h h'
    cases k <;> first | (cases h.1; done) | (cases h'.1; done)
theorem DctR.t {ks ds : List D} {a : Addr} (h : DctR K F H ks ds a) (t : allT ks = true) : ∃ xs, TDct K F H ks ds a xs := by
  rcases h.cases with h | ⟨kvs, h⟩
  · exact h
  · exact (allST h.all t).elim
theorem DctR.s {ks ds : List D} {a : Addr} (h : DctR K F H ks ds a) (t : allS ks = true) : ∃ xs, SDct K F H ks ds a xs := by
  rcases h.cases with ⟨xs, h⟩ | h
  · exact (allST t h.all).elim
  · exact h
theorem keyT_inv {k : D} {n : NestedKey} (h : keyT k = some n) : (∃ l, k = .tup l) ∧ kOf k = some n ∧ ntK n = true ∧ n.depth ≤ 8 := by
  unfold keyT at h
  split at h
  · rename_i l
    split at h
    · rename_i m q
      split at h
      · rename_i c
        cases h
        simp only [Bool.and_eq_true, decide_eq_true_eq] at c
        exact ⟨⟨l, rfl⟩, q, c.1, c.2⟩
      · cases h
    · cases h
  · cases h
/-- a key's value -/
theorem dVal_ok {ks ds : List D} {a : Addr} {k : D} {y : V} {o : Option D} (h : dVal ks ds k = some o) (hd : DctR K F H ks ds a) (hk : VR K F H k y) : ∃ ov, OptR K F H o ov ∧ (GetX K H a y ov ∨ DGet H a y ov) := by
  unfold dVal at h
  split at h
  · rename_i x
    split at h
    · rename_i hs
      cases h
      obtain ⟨kvs, t⟩ := hd.s hs
      cases (show y = .str x by simpa only [VR] using hk)
      exact ⟨_, t.al.find x, .inr (DGet.k (k := Sum.inr x) t.at_)⟩
    · cases h
  · rename_i l
    split at h
    · rename_i n hn
      split at h
      · rename_i ht
        cases h
        obtain ⟨xs, t⟩ := hd.t ht
        obtain ⟨_, q1, q2, q3⟩ := keyT_inv hn
        obtain ⟨ov, g1, g2⟩ := t.al.find n
        obtain ⟨b, vs, rfl, _⟩ := hk.tupT
        exact ⟨ov, g1, .inl ⟨xs, n, b, t.dx, rfl, VR.keyV _ _ _ q1 hk, q3, g2⟩⟩
      · cases h
    · cases h
  · cases h
end
end Qh

/-! The operations: what the interpreter says of them is what the machine does. -/
namespace Qh
open PySem PySem.Spec PyProof.Rows L2 PySem.W
def NoM : AS := fun _ => False
/-- a value comes, nothing that stood is changed -/
def PVal (K : PySem.W.Frag) (F : AS) (H : Hp) (d : D) (Q : VK) : Prop := ∀ z H', Ext NoM H H' → VR K F H' d z → Q z H'
section
variable {K : PySem.W.Frag} {F M : AS} {H : Hp} {Q : VK} {x y d : D} {v w : V}
theorem PVal.here (q : PVal K F H d Q) (h : VR K F H d v) : Q v H := q v H (Ext.refl _ _) h
theorem PVal.int {i : Int} (q : PVal K F H (.int i) Q) : Q (.int i) H := q.here (by simp only [VR])
theorem PVal.bl {b : Bool} (q : PVal K F H (.bl b) Q) : Q (.bl b) H := q.here (by simp only [VR])
theorem PVal.str {b : Str} (q : PVal K F H (.str b) Q) : Q (.str b) H := q.here (by simp only [VR])
theorem PVal.tup {ds : List D} {vs : List V} {p : Addr} (q : PVal K F H (.tup ds) Q) (h : VRs K F H ds vs) (hp : H p = none) (fr : ∀ p, H p = none → ¬ F p) : Q (.ref p) (upd H p (.tup vs)) :=
  q _ _ (Ext.new hp) (VR.new_tup h hp (fr p hp))
theorem PVal.lst {ds : List D} {vs : List V} {p : Addr} (q : PVal K F H (.lst ds) Q) (h : VRs K F H ds vs) (hp : H p = none) (fr : ∀ p, H p = none → ¬ F p) : Q (.ref p) (upd H p (.lst vs)) :=
  q _ _ (Ext.new hp) (VR.new_lst h hp (fr p hp))
theorem VR.intI {i : Int} (h : VR K F H (.int i) v) : v = .int i := by simpa only [VR] using h
theorem VR.blI {i : Bool} (h : VR K F H (.bl i) v) : v = .bl i := by simpa only [VR] using h
theorem VR.strI {i : Str} (h : VR K F H (.str i) v) : v = .str i := by simpa only [VR] using h
theorem VR.nonI (h : VR K F H .non v) : v = .non := by simpa only [VR] using h
theorem big_line {n : Nat} (h : n ≤ big) : n ≤ sizeLine := Nat.le_trans h (by rw [sizeLine_eq]; decide)
theorem cmul_ok {i j : Int} (h : cmul i j = true) : CMul i j := by
  unfold cmul at h
  simp only [Bool.or_eq_true, Bool.and_eq_true, decide_eq_true_eq] at h
  exact h
def BO.py : BO → Operator
  | .add => .Add | .sub => .Sub | .mul => .Mult | .fdiv => .FloorDiv | .mod => .Mod | .pow => .Pow
/-- t * 1 is t -/
def rRep1 (K : PySem.W.Frag) : R2 := fun x y H Q => ∃ l xs, x = .ref l ∧ y = .int 1 ∧ SqT K H l xs ∧ Q (.ref l) H
theorem tuple_mul1 (l : Addr) (items : Array Value) (n : Nat) (dd : Option Addr) (sl : Array (Option Value)) (u : Tok) :
    Meets (Builtin.«tuple.__mul__» ⟨[.ref l, .int 1 u], []⟩) (fun _ R s => s.heap.get? l = some { cls := .type "tuple", dict := dd, data := .seq items n, slots := sl } ∧ R (.ok (.ret (Value.ref l))) s) :=
  .of_wp fun prog w A R s h => by
    obtain ⟨hp, g, d, tk, os⟩ := s
    obtain ⟨hl, h⟩ := h
    have f1 := AutoSeq1.idx_int
    have c1 : (items.isEmpty || (1 : Int) == 1) = true := by rw [show ((1 : Int) == 1) = true from rfl, Bool.or_true]
    wp_walk using wpAny_loadPart' hl
    repeat (first
      | (refine wpAny_ite_true (decide_eq_true c1) ?_; wp_walk using wpAny_loadPart' hl)
      | (refine wpAny_ite_true c1 ?_; wp_walk using wpAny_loadPart' hl))
    exact ⟨_, rfl, h⟩
theorem op_rep1 {X : Cx} : OpR X (binaryOp .Mult) (rRep1 X.K) := by
  intro pins s σ H x y v u Q I rx ry h
  obtain ⟨l, xs, rfl, rfl, hT, q⟩ := h
  cases rx
  obtain ⟨t, rfl⟩ := ry
  obtain ⟨its, r, ⟨⟨cls, dd, data, sl⟩, ho, hc, n, hd⟩, hs⟩ := I.tuple hT
  simp only at hc hd
  subst hc hd
  refine wpAny_binaryOp_repeat_ref (T := "tuple") (U := "int") (by decide) ⟨_, ho, rfl⟩ (fun s' => typeIs_int s' 1 t) noFill_tuple_mul F.fills_int_mul F.slot_int_rmul repeat_tuple F.slot_int_index.lookup
    (call_meets F.slot_int_rmul (typeIs_int s 1 t) F.entry_int_rmul (F.args_int_rmul_2 _ _) (int_rmul_tuple 1 t l its.toArray n dd sl)
      ⟨ho, rfl, ⟨_, ho, rfl⟩, call_meets F.slot_tuple_mul ⟨_, ho, rfl⟩ F.entry_tuple_mul (F.args_tuple_mul_2 _ _) (tuple_mul1 l its.toArray n dd sl t) ⟨ho, ?_⟩⟩)
  exact ⟨.ref l, H, I, rfl, q⟩
/-- a text, repeated -/
def rRepS : R2 := fun x y H Q => ∃ (z : Str) (k : Int), x = .str z ∧ y = .int k ∧ 2 ≤ k ∧ k ≤ 1000 ∧ z.length ≠ 0 ∧ z.length ≤ 100 ∧ Q (.str ⟨(List.replicate k.toNat z.cps).foldl (· ++ ·) #[]⟩) H
theorem rep_size (x : Array Nat) : ∀ (n : Nat) (acc : Array Nat), ((List.replicate n x).foldl (· ++ ·) acc).size = acc.size + n * x.size
  | 0, acc => by simp
  | n + 1, acc => by
    rw [List.replicate_succ, List.foldl_cons, rep_size x n, Array.size_append, Nat.succ_mul]
    omega
theorem op_repS {X : Cx} : OpR X (binaryOp .Mult) rRepS := by
  intro pins s σ H x y v u Q I rx ry h
  obtain ⟨z, k, rfl, rfl, h1, h2, h3, h4, q⟩ := h
  obtain ⟨t, rfl⟩ := rx
  obtain ⟨t', rfl⟩ := ry
  have hk1 : (k == 1) = false := beq_eq_false_iff_ne.mpr (by omega)
  have hz : (z.length == 0) = false := beq_eq_false_iff_ne.mpr h3
  have hm : z.length * k.toNat ≤ 100 * 1000 := Nat.mul_le_mul h4 (by omega)
  refine PySem.P.mul_str (by rw [decide_eq_false (by omega), decide_eq_false (by omega)]; rfl) (fun _ _ => ?_) (fun _ _ => ?_) ?_
  · have : (k : Int) ≤ 1000 := h2
    have e : (2 ^ 63 - 1 : Int) / k ≥ 1000 := by
      rw [ge_iff_le, Int.le_ediv_iff_mul_le (by omega)]
      omega
    omega
  · unfold Builtin.Str.tooLong
    rw [sizeLine_eq]
    exact decide_eq_false (by omega)
  · rw [if_neg (by omega), hk1, hz]
    refine ⟨?_, ⟨.str _, H, I.tok _, ⟨_, rfl⟩, q⟩⟩
    show _ ≤ sizeLine
    rw [sizeLine_eq]
    show Array.size _ ≤ _
    rw [rep_size]
    have hs : z.cps.size = z.length := rfl
    rw [hs, Array.size_empty, Nat.zero_add, Nat.mul_comm]
    omega
def rStr : R2 := fun x y H Q => ∃ i j, x = .str i ∧ y = .str j ∧ i.length + j.length ≤ sizeLine ∧ Q (.str (i ++ j)) H
def rB (K : PySem.W.Frag) : BO → R2
  | .add => fun x y H Q => rI0 (fun i j => .int (i + j)) x y H Q ∨ (rStr x y H Q ∨ (rCatA K x y H Q ∨ rCat x y H Q))
  | .sub => rI0 fun i j => .int (i - j)
  | .mul => fun x y H Q => rI CMul (fun i j => .int (i * j)) x y H Q ∨ (rRep x y H Q ∨ (rRepT K x y H Q ∨ (rRep1 K x y H Q ∨ rRepS x y H Q)))
  | .fdiv => rI CDivN fun i j => .int (i.fdiv j)
  | .mod => rI (fun _ j => j ≠ 0) fun i j => .int (i.fmod j)
  | .pow => rI CPow fun i j => .int (i ^ j.toNat)
theorem op_B {X : Cx} : ∀ op : BO, OpR X (binaryOp op.py) (rB X.K op)
  | .add => op_add.or (op_add_str.or (op_catA.or op_cat))
  | .sub => op_sub
  | .mul => op_mul.or (op_rep.or (op_repT.or (op_rep1.or op_repS)))
  | .fdiv => op_fdivN
  | .mod => op_modN
  | .pow => op_pow
theorem bin_ok {op : BO} (h : opBin op x y = some d) (hx : VR K F H x v) (hy : VR K F H y w) (fr : ∀ p, H p = none → ¬ F p) (q : PVal K F H d Q) : rB K op v w H Q := by
  unfold opBin at h
  split at h
  · cases hx.intI; cases hy.intI; cases h
    exact .inl ⟨_, _, rfl, rfl, q.int⟩
  · rename_i s t
    split at h
    · rename_i hl
      cases hx.strI; cases hy.strI; cases h
      exact .inr (.inl ⟨_, _, rfl, rfl, big_line hl, q.str⟩)
    · cases h
  · rename_i xs ys
    split at h
    · rename_i hl
      cases h
      obtain ⟨a, vs, rfl, ta, ra⟩ := hx.tupT
      obtain ⟨b, ws, rfl, tb, rb⟩ := hy.tupT
      refine .inr (.inr (.inl ⟨a, b, vs, ws, rfl, rfl, ta, tb, by rw [← ra.len, ← rb.len]; exact big_line hl, fun e => ?_, fun _ e => ?_, fun _ _ p hp => ?_⟩))
      · have : xs = [] := List.length_eq_zero_iff.mp (by rw [ra.len, e]; rfl)
        subst this
        exact q.here hy
      · have : ys = [] := List.length_eq_zero_iff.mp (by rw [rb.len, e]; rfl)
        subst this
        rw [List.append_nil] at q
        exact q.here hx
      · exact q.tup (ra.append rb) hp fr
    · cases h
  · rename_i xs ys
    split at h
    · rename_i hl
      cases h
      obtain ⟨a, vs, rfl, ta, ra⟩ := VB.lstL (M := NoM) (.inl hx)
      obtain ⟨b, ws, rfl, tb, rb⟩ := VB.lstL (M := NoM) (.inl hy)
      exact .inr (.inr (.inr ⟨a, b, vs, ws, rfl, rfl, ta, tb, by rw [← ra.len, ← rb.len]; exact big_line hl, fun p hp => q.lst (ra.append rb) hp fr⟩))
    · cases h
  · cases hx.intI; cases hy.intI; cases h
    exact ⟨_, _, rfl, rfl, q.int⟩
  · split at h
    · rename_i hc
      cases hx.intI; cases hy.intI; cases h
      exact .inl ⟨_, _, rfl, rfl, cmul_ok hc, q.int⟩
    · cases h
  · rename_i xs k
    split at h
    · rename_i hc
      simp only [Bool.and_eq_true, decide_eq_true_eq] at hc
      cases h
      cases hy.intI
      obtain ⟨a, vs, rfl, ta, ra⟩ := VB.lstL (M := NoM) (.inl hx)
      have hz : vs.length * k.toNat ≤ sizeLine := by
        rw [sizeLine_eq, ← ra.len]
        have h1 : xs.length ≤ 100 := hc.2
        have h2 : k.toNat ≤ 1000 := by omega
        calc xs.length * k.toNat ≤ 100 * 1000 := Nat.mul_le_mul h1 h2
          _ ≤ 16777216 := by decide
      exact .inr (.inl ⟨a, k, vs, rfl, rfl, ta, by omega, by omega, hz, fun p hp => q.lst (ra.rep _) hp fr⟩)
    · cases h
  · rename_i xs k
    split at h
    · rename_i hc
      simp only [Bool.and_eq_true, decide_eq_true_eq, Bool.not_eq_true'] at hc
      cases h
      cases hy.intI
      obtain ⟨a, vs, rfl, ta, ra⟩ := hx.tupT
      by_cases hk : k = 1
      · subst hk
        refine .inr (.inr (.inr (.inl ⟨a, vs, rfl, rfl, ta, ?_⟩)))
        have e : (List.replicate (1 : Int).toNat xs).flatten = xs := by show ([xs] : List (List D)).flatten = xs; simp
        rw [e] at q
        exact q.here hx
      · have hl := ra.len
        refine .inr (.inr (.inl ⟨a, k, vs, rfl, rfl, ta, fun z => ?_, by omega, by omega, by omega, fun p hp => q.tup (ra.rep _) hp fr⟩))
        rw [z] at hl
        rw [List.eq_nil_of_length_eq_zero hl] at hc
        exact absurd hc.2 (by simp)
    · cases h
  · rename_i z k
    split at h
    · rename_i hc
      simp only [Bool.and_eq_true, decide_eq_true_eq] at hc
      cases h
      cases hy.intI
      simp only [VR] at hx
      subst hx
      exact .inr (.inr (.inr (.inr ⟨z, k, rfl, rfl, hc.1.1, hc.1.2, hc.2.1, hc.2.2, q.str⟩)))
    · cases h
  · split at h
    · rename_i hc
      simp only [Bool.and_eq_true, decide_eq_true_eq] at hc
      cases hx.intI; cases hy.intI; cases h
      exact ⟨_, _, rfl, rfl, hc, q.int⟩
    · cases h
  · split at h
    · rename_i hc
      simp only [decide_eq_true_eq] at hc
      cases hx.intI; cases hy.intI; cases h
      exact ⟨_, _, rfl, rfl, hc, q.int⟩
    · cases h
  · split at h
    · rename_i hc
      simp only [Bool.and_eq_true, decide_eq_true_eq] at hc
      cases hx.intI; cases hy.intI; cases h
      exact ⟨_, _, rfl, rfl, ⟨hc.1.1, by omega, hc.2⟩, q.int⟩
    · cases h
  · cases h

/-! ### comparisons -/
def CO.py : CO → CmpOp
  | .eq => .Eq | .ne => .NotEq | .lt => .Lt | .le => .LtE | .gt => .Gt | .ge => .GtE | .isin => .In | .notin => .NotIn | .is => .Is | .isnot => .IsNot
def rData (g : PyData → PyData → Bool → Prop) (K : PySem.W.Frag) : R2 := fun x y H Q => ∃ d e k, Dp K H x d ∧ Dp K H y e ∧ d.plain = true ∧ e.plain = true ∧ d.depth ≤ 40 ∧ e.depth ≤ 40 ∧ g d e k ∧ Q (.bl k) H
def rInD (neg : Bool) (K : PySem.W.Frag) : R2 := fun x y H Q => ∃ a d ds vs, y = .ref a ∧ (SqL K H a vs ∨ SqT K H a vs) ∧ Dp K H x d ∧ DpAll K H vs ds ∧ d.plain = true ∧ PyData.plainAll ds = true ∧ d.depth ≤ 40 ∧ PyData.depthAll ds ≤ 40 ∧
  Q (.bl (if neg then !(ds.any fun y => PyData.eqv y d) else ds.any fun y => PyData.eqv y d)) H
section
variable {X : Cx}
theorem rd_ok {x : V} {u : Value} {d : PyData} {pins : List (Addr × Obj)} {σ : L2.St} {s : Shared} (I : Inv X pins σ H s) (h : Dp X.K H x d) (r : RelV x u) : ∃ as, Reads s.heap u d as := Dp.reads I d x u h r
theorem op_eqP (hu : X.A.units + 64 < cLine) : OpR X (compareOp .Eq) (rData (fun d e k => k = PyData.eqv d e) X.K) := by
  intro pins s σ H x y v u Q I rx ry h
  obtain ⟨d, e, k, hd, he, pd, pe, z1, z2, rfl, q⟩ := h
  obtain ⟨as, r1⟩ := rd_ok I hd rx
  obtain ⟨bs, r2⟩ := rd_ok I he ry
  exact PySem.SeqAt.eq_plain r1 r2 pd pe (by omega) ⟨.bl _, H, I, rfl, q⟩
theorem op_neP (hu : X.A.units + 64 < cLine) : OpR X (compareOp .NotEq) (rData (fun d e k => k = !PyData.eqv d e) X.K) := by
  intro pins s σ H x y v u Q I rx ry h
  obtain ⟨d, e, k, hd, he, pd, pe, z1, z2, rfl, q⟩ := h
  obtain ⟨as, r1⟩ := rd_ok I hd rx
  obtain ⟨bs, r2⟩ := rd_ok I he ry
  exact PySem.SeqAt.ne_plain r1 r2 pd pe (by omega) ⟨.bl _, H, I, rfl, q⟩
theorem op_ltP (hu : X.A.units + 64 < cLine) : OpR X (compareOp .Lt) (rData (fun d e k => alike d e = true ∧ d ≠ .none ∧ k = dataLt d e) X.K) := by
  intro pins s σ H x y v u Q I rx ry h
  obtain ⟨d, e, k, hd, he, pd, pe, z1, z2, ⟨al, nn, rfl⟩, q⟩ := h
  obtain ⟨as, r1⟩ := rd_ok I hd rx
  obtain ⟨bs, r2⟩ := rd_ok I he ry
  exact rcLt_alike d e X.A s v u as bs r1 r2 al nn (by omega) _ _ _ _ ⟨.bl _, H, I, rfl, q⟩
theorem op_leP (hu : X.A.units + 64 < cLine) : OpR X (compareOp .LtE) (rData (fun d e k => alike d e = true ∧ d ≠ .none ∧ k = !dataLt e d) X.K) := by
  intro pins s σ H x y v u Q I rx ry h
  obtain ⟨d, e, k, hd, he, pd, pe, z1, z2, ⟨al, nn, rfl⟩, q⟩ := h
  obtain ⟨as, r1⟩ := rd_ok I hd rx
  obtain ⟨bs, r2⟩ := rd_ok I he ry
  exact rcLe_alike d e X.A s v u as bs r1 r2 al nn (by omega) _ _ _ _ ⟨.bl _, H, I, rfl, q⟩
theorem op_inP (hu : X.A.units + 64 < cLine) : OpR X (compareOp .In) (rInD false X.K) := by
  intro pins s σ H x y v u Q I rx ry h
  obtain ⟨a, d, ds, vs, rfl, hs, hd, hds, pd, pds, z1, z2, q⟩ := h
  obtain ⟨as, r1⟩ := rd_ok I hd rx
  cases hs with
  | inl hl =>
    obtain ⟨bs, r2⟩ := rd_ok I (.lst hl hds) ry
    exact PySem.SeqAt.in_list_data r2 r1 pds pd (by omega) ⟨.bl _, H, I, rfl, by simpa using q⟩
  | inr ht =>
    obtain ⟨bs, r2⟩ := rd_ok I (.tup ht hds) ry
    exact PySem.SeqAt.in_tuple_data r2 r1 pds pd (by omega) ⟨.bl _, H, I, rfl, by simpa using q⟩
theorem op_notInP (hu : X.A.units + 64 < cLine) : OpR X (compareOp .NotIn) (rInD true X.K) := by
  intro pins s σ H x y v u Q I rx ry h
  obtain ⟨a, d, ds, vs, rfl, hs, hd, hds, pd, pds, z1, z2, q⟩ := h
  obtain ⟨as, r1⟩ := rd_ok I hd rx
  cases hs with
  | inl hl =>
    obtain ⟨bs, r2⟩ := rd_ok I (.lst hl hds) ry
    exact PySem.SeqAt.notIn_list_data r2 r1 pds pd (by omega) ⟨.bl _, H, I, rfl, by simpa using q⟩
  | inr ht =>
    obtain ⟨bs, r2⟩ := rd_ok I (.tup ht hds) ry
    exact PySem.SeqAt.notIn_tuple_data r2 r1 pds pd (by omega) ⟨.bl _, H, I, rfl, by simpa using q⟩
/-- None is True, None is False -/
def rNonBl (k : Bool) : R2 := fun x y H Q => ∃ b : Bool, x = .non ∧ y = .bl b ∧ Q (.bl k) H
theorem op_isNB : OpR X (compareOp .Is) (rNonBl false) := by
  intro pins s σ H x y v u Q I rx ry h
  obtain ⟨b, rfl, rfl, q⟩ := h
  cases (show v = Value.none from rx)
  cases (show u = Value.bool b from ry)
  exact wpAny_is_other rfl (fun z => nomatch z) ⟨.bl false, H, I, rfl, q⟩
theorem op_notNB : OpR X (compareOp .IsNot) (rNonBl true) := by
  intro pins s σ H x y v u Q I rx ry h
  obtain ⟨b, rfl, rfl, q⟩ := h
  cases (show v = Value.none from rx)
  cases (show u = Value.bool b from ry)
  exact wpAny_isNot_other rfl (fun z => nomatch z) ⟨.bl true, H, I, rfl, q⟩
end
def rInStr : R2 := fun x y H Q => ∃ i j, x = .str i ∧ y = .str j ∧ Q (.bl (!(Builtin.Str.occurrences j i 0 j.length 1).isEmpty)) H
def rNotInStr : R2 := fun x y H Q => ∃ i j, x = .str i ∧ y = .str j ∧ Q (.bl (!(!(Builtin.Str.occurrences j i 0 j.length 1).isEmpty))) H
def rIsNon : R2 := fun x y H Q => y = .non ∧ Q (.bl (decide (x = .non))) H
def rNotNon : R2 := fun x y H Q => y = .non ∧ Q (.bl (!decide (x = .non))) H
def rC (K : PySem.W.Frag) : CO → R2
  | .eq => rData (fun d e k => k = PyData.eqv d e) K
  | .ne => rData (fun d e k => k = !PyData.eqv d e) K
  | .lt => rData (fun d e k => alike d e = true ∧ d ≠ .none ∧ k = dataLt d e) K
  | .le => rData (fun d e k => alike d e = true ∧ d ≠ .none ∧ k = !dataLt e d) K
  | .gt => rI0 fun i j => .bl (decide (j < i))
  | .ge => rI0 fun i j => .bl (decide (j ≤ i))
  | .isin => fun x y H Q => rInD false K x y H Q ∨ rInStr x y H Q
  | .notin => fun x y H Q => rInD true K x y H Q ∨ rNotInStr x y H Q
  | .is => fun x y H Q => rIsNon x y H Q ∨ (rIsB x y H Q ∨ rNonBl false x y H Q)
  | .isnot => fun x y H Q => rNotNon x y H Q ∨ (rNotB x y H Q ∨ rNonBl true x y H Q)
theorem op_C {X : Cx} (hu : X.A.units + 64 < cLine) : ∀ op : CO, OpR X (compareOp op.py) (rC X.K op)
  | .eq => op_eqP hu
  | .ne => op_neP hu
  | .lt => op_ltP hu
  | .le => op_leP hu
  | .gt => op_gt
  | .ge => op_ge
  | .isin => (op_inP hu).or op_in_str
  | .notin => (op_notInP hu).or op_notin_str
  | .is => op_isN.or (op_isBl.or op_isNB)
  | .isnot => op_notN.or (op_notBl.or op_notNB)
theorem eqOk_inv (h : eqOk x y = true) : ∃ m n, x.dep = some m ∧ y.dep = some n ∧ m ≤ 40 ∧ n ≤ 40 := by
  unfold eqOk at h
  cases e1 : x.dep with
  | none => rw [e1] at h; cases h
  | some m =>
    cases e2 : y.dep with
    | none => rw [e1, e2] at h; cases h
    | some n =>
      rw [e1, e2] at h
      simp only [Bool.and_eq_true, decide_eq_true_eq] at h
      exact ⟨m, n, rfl, rfl, h.1, h.2⟩
theorem data_ok {g : PyData → PyData → Bool → Prop} {k : Bool} (h : eqOk x y = true) (hx : VB K F M H x v) (hy : VB K F M H y w) (hg : g x.py y.py k) (q : Q (.bl k) H) : rData g K v w H Q := by
  obtain ⟨m, n, e1, e2, z1, z2⟩ := eqOk_inv h
  exact ⟨x.py, y.py, k, hx.dp e1, hy.dp e2, D.plain_py x m e1, D.plain_py y n e2, Nat.le_trans (D.depth_py x m e1) z1, Nat.le_trans (D.depth_py y n e2) z2, hg, q⟩
theorem ltOk_inv (h : ltOk x y = true) : alike x.py y.py = true ∧ eqOk x y = true ∧ x.py ≠ .none := by
  unfold ltOk at h
  simp only [Bool.and_eq_true] at h
  refine ⟨h.1.1, h.1.2, fun z => ?_⟩
  cases x with
  | non => exact absurd h.2 (by decide)
  | _ => simp only [D.py] at z; cases z
theorem any_py (ds : List D) (x : D) : (D.pys ds).any (fun y => PyData.eqv y x.py) = inD x ds := by
  induction ds with
  | nil => simp only [D.pys, List.any_nil, inD]
  | cons a r ih =>
    unfold inD at ih ⊢
    simp only [D.pys, List.any_cons, ih]
    rfl
theorem seq_of {l : List D} (e : y.items = some l) (hy : VB K F M H y w) : ∃ a vs, w = .ref a ∧ (SqL K H a vs ∨ SqT K H a vs) ∧ VRs K F H l vs := by
  cases y <;> simp only [D.items, Option.some.injEq, reduceCtorEq] at e
  · subst e
    obtain ⟨a, vs, e, t, r⟩ := hy.tup.tupT
    exact ⟨a, vs, e, .inr t, r⟩
  · subst e
    obtain ⟨a, vs, e, t, r⟩ := hy.lstL
    exact ⟨a, vs, e, .inl (.of t), r⟩
theorem in_ok {neg k : Bool} (h : opIn x y = some k) (hx : VB K F M H x v) (hy : VB K F M H y w) (q : Q (.bl (if neg then !k else k)) H) : (rInD neg K v w H Q ∨ (if neg then rNotInStr else rInStr) v w H Q) := by
  unfold opIn at h
  split at h
  · rename_i l el
    split at h
    · rename_i hk
      cases h
      obtain ⟨m, n, e1, e2, z1, z2⟩ := eqOk_inv hk
      obtain ⟨a, vs, rfl, hs, hr⟩ := seq_of el hy
      simp only [D.dep] at e2
      obtain ⟨n', en, en2⟩ := Option.map_eq_some_iff.mp e2
      refine .inl ⟨a, x.py, D.pys l, vs, rfl, hs, hx.dp e1, VRs.dp l vs n' en hr, D.plain_py x m e1, D.plain_pys l n' en, Nat.le_trans (D.depth_py x m e1) z1, Nat.le_trans (D.depth_pys l n' en) (by omega), ?_⟩
      rw [any_py]
      exact q
    · cases h
  · split at h
    · split at h
      · cases h
        cases (hy.not_lst rfl).strI
        cases (hx.not_lst rfl).strI
        cases neg with
        | true => exact .inr ⟨_, _, rfl, rfl, q⟩
        | false => exact .inr ⟨_, _, rfl, rfl, q⟩
      · cases h
    · cases h
def D.isNon : D → Bool
  | .non => true
  | _ => false
theorem VB.non_iff (h : VB K F M H x v) : decide (v = .non) = x.isNon := by
  cases x with
  | non => have := (h.not_lst rfl).nonI; subst this; rfl
  | bl b => have := (h.not_lst rfl).blI; subst this; rfl
  | int b => have := (h.not_lst rfl).intI; subst this; rfl
  | str b => have := (h.not_lst rfl).strI; subst this; rfl
  | tup l => obtain ⟨a, vs, e, _⟩ := h.tup.tupT; subst e; rfl
  | lst l => obtain ⟨a, vs, e, _⟩ := h.lstL; subst e; rfl
  | scr l => obtain ⟨a, e, _⟩ := (h.not_lst rfl).scrL; subst e; rfl
  | dct ks vs => obtain ⟨a, e, _⟩ := h.dctL; subst e; rfl
  | ins c ns fs => obtain ⟨a, e, _⟩ := h.insL; subst e; rfl
theorem cmp_ok {op : CO} {k : Bool} (h : opCmp op x y = some k) (hx : VB K F M H x v) (hy : VB K F M H y w) (q : Q (.bl k) H) : rC K op v w H Q := by
  unfold opCmp at h
  split at h
  · split at h
    · rename_i hk; cases h
      exact data_ok hk hx hy rfl q
    · cases h
  · split at h
    · rename_i hk; cases h
      exact data_ok hk hx hy rfl q
    · cases h
  · unfold D.lt at h
    split at h
    · rename_i hk; cases h
      obtain ⟨h1, h2, h3⟩ := ltOk_inv hk
      exact data_ok h2 hx hy ⟨h1, h3, rfl⟩ q
    · cases h
  · unfold D.le at h
    split at h
    · rename_i hk; cases h
      obtain ⟨h1, h2, h3⟩ := ltOk_inv hk
      exact data_ok h2 hx hy ⟨h1, h3, rfl⟩ q
    · cases h
  · cases h
    cases (hx.not_lst rfl).intI
    cases (hy.not_lst rfl).intI
    exact ⟨_, _, rfl, rfl, q⟩
  · cases h
    cases (hx.not_lst rfl).intI
    cases (hy.not_lst rfl).intI
    exact ⟨_, _, rfl, rfl, q⟩
  · exact in_ok (neg := false) h hx hy q
  · obtain ⟨b, eb, rfl⟩ := Option.map_eq_some_iff.mp h
    exact in_ok (neg := true) eb hx hy q
  · cases (hy.not_lst rfl).nonI
    refine .inl ⟨rfl, ?_⟩
    rw [hx.non_iff]
    cases h
    cases x <;> exact q
  · cases (hy.not_lst rfl).nonI
    refine .inl ⟨rfl, ?_⟩
    rw [hx.non_iff]
    cases h
    cases x <;> exact q
  · cases h
    cases (hx.not_lst rfl).blI
    cases (hy.not_lst rfl).blI
    refine .inr (.inl ⟨_, _, rfl, rfl, ?_⟩)
    rw [← Bool.beq_eq_decide_eq]
    exact q
  · cases h
    cases (hx.not_lst rfl).blI
    cases (hy.not_lst rfl).blI
    refine .inr (.inl ⟨_, _, rfl, rfl, ?_⟩)
    rw [← Bool.beq_eq_decide_eq]
    exact q
  · cases h
    cases (hx.not_lst rfl).nonI
    cases (hy.not_lst rfl).blI
    exact .inr (.inr ⟨_, rfl, rfl, q⟩)
  · cases h
    cases (hx.not_lst rfl).nonI
    cases (hy.not_lst rfl).blI
    exact .inr (.inr ⟨_, rfl, rfl, q⟩)
  · cases h

/-! ### an item, a slice -/
theorem VRs.atI {l : List D} {vs : List V} {i : Int} {d : D} (h : VRs K F H l vs) (e : L2.atI l i = some d) : ∃ u, L2.atI vs i = some u ∧ VR K F H d u := by
  unfold L2.atI at e ⊢
  rw [← h.len]
  cases q : ixN l.length i with
  | none => rw [q] at e; cases e
  | some j =>
    rw [q] at e
    exact h.at_ e
def rIxD (K : PySem.W.Frag) : R2 := fun x y H Q => (rIxL K x y H Q ∨ rIxT K x y H Q) ∨ rIxX K x y H Q
theorem ix_D {X : Cx} (hu : X.A.units + 64 < cLine) : IxR X (rIxD X.K) := (ix_list.or ix_tup).or (ix_dict hu)
theorem dVal_key {ks vs : List D} {k : D} {o : Option D} (h : dVal ks vs k = some o) : notO k = true := by
  unfold dVal at h
  split at h
  · rfl
  · rfl
  · cases h
theorem ix_ok (h : opIx x y = some d) (hx : VB K F M H x v) (hy : VB K F M H y w) (q : ∀ z, VR K F H d z → Q z H) : rIxD K v w H Q := by
  unfold opIx at h
  split at h
  · cases (hy.not_lst rfl).intI
    obtain ⟨a, vs, rfl, t, r⟩ := hx.tup.tupT
    obtain ⟨u, e, ru⟩ := r.atI h
    exact .inl (.inr ⟨a, vs, _, u, rfl, rfl, t, e, q u ru⟩)
  · cases (hy.not_lst rfl).intI
    obtain ⟨a, vs, rfl, t, r⟩ := hx.lstL
    obtain ⟨u, e, ru⟩ := r.atI h
    exact .inl (.inl ⟨a, vs, _, u, rfl, rfl, .of t, e, q u ru⟩)
  · rename_i l i
    cases (hy.not_lst rfl).intI
    obtain ⟨a, rfl, t⟩ := (hx.not_lst rfl).scrL
    obtain ⟨n, en, rfl⟩ := Option.map_eq_some_iff.mp h
    refine .inl (.inl ⟨a, _, _, .int n, rfl, rfl, t, ?_, q _ (by simp only [VR])⟩)
    unfold L2.atI at en ⊢
    rw [List.length_map]
    cases q : ixN l.length i with
    | none => rw [q] at en; cases en
    | some j =>
      rw [q] at en
      show (l.map V.int)[j]? = _
      rw [List.getElem?_map, show l[j]? = some n from en]
      rfl
  · rename_i ks vs
    obtain ⟨o, eo, e2⟩ := Option.bind_eq_some_iff.mp h
    have e2 : o = some d := e2
    subst e2
    obtain ⟨a, rfl, r⟩ := hx.dctL
    obtain ⟨ov, g1, g2⟩ := dVal_ok eo r (hy.not_lst (dVal_key eo))
    cases ov with
    | none => exact g1.elim
    | some u => exact .inr ⟨a, u, rfl, g2, q u g1⟩
  · cases h
theorem cutD_rel {l : List D} {vs : List V} {lo hi : Option Int} (h : VRs K F H l vs) : VRs K F H (cutD l lo hi) (cutV vs lo hi) := by
  unfold cutD cutV
  rw [← h.len]
  exact VRs.take _ (VRs.drop _ h)
def rSlD (K : PySem.W.Frag) : V → Option Int → Option Int → Hp → VK → Prop := fun x lo hi H Q => rSlA K x lo hi H Q ∨ (rSlL K x lo hi H Q ∨ rSlS x lo hi H Q)
theorem sl_D {X : Cx} : SlR X (rSlD X.K) := sl_tupA.or (sl_list.or sl_str)
theorem sl_ok {lo hi : Option Int} (h : opSl x lo hi = some d) (hx : VB K F M H x v) (fr : ∀ p, H p = none → ¬ F p) (q : PVal K F H d Q) : rSlD K v lo hi H Q := by
  unfold opSl at h
  split at h
  · rename_i l
    cases h
    have hx' := hx.tup
    obtain ⟨a, vs, rfl, t, r⟩ := hx'.tupT
    refine .inl ⟨a, vs, rfl, t, fun e => ?_, fun _ p hp => q.tup (cutD_rel r) hp fr⟩
    have hl := r.len
    rw [← hl] at e
    have el : cutD l lo hi = l := by
      unfold cutD
      rw [e.1, e.2, List.drop_zero, Nat.sub_zero, List.take_length]
    rw [el] at q
    exact q.here hx'
  · cases h
    obtain ⟨a, vs, rfl, t, r⟩ := hx.lstL
    exact .inr (.inl ⟨a, vs, rfl, .of t, fun p hp => q.lst (cutD_rel r) hp fr⟩)
  · split at h
    · rename_i hz
      cases h
      have hv := hx.not_lst rfl
      simp only [VR] at hv
      subst hv
      exact .inr (.inr ⟨_, rfl, big_line hz, q.str⟩)
    · cases h
  · cases h
end
end Qh

/-! The state that stands for an environment; what follows a run of the interpreter; built-ins. -/
namespace Qh
open PySem PySem.Spec PyProof.Rows L2 PySem.W
abbrev SS := L2.St
def NotTup (H : Hp) (a : Addr) : Prop := ∃ o, H a = some o ∧ ∀ vs, o ≠ .tup vs
/-- nothing that stands becomes a tuple -/
structure Ex (M : AS) (H H' : Hp) : Prop extends Ext M H H' where
  nt : ∀ a, NotTup H a → NotTup H' a
theorem Ex.refl (M : AS) (H : Hp) : Ex M H H := ⟨Ext.refl M H, fun _ h => h⟩
theorem Ex.trans {M : AS} {H H1 H2 : Hp} (a : Ex M H H1) (b : Ex M H1 H2) : Ex M H H2 := ⟨a.toExt.trans b.toExt, fun x h => b.nt x (a.nt x h)⟩
theorem Ex.mono {M M' : AS} {H H' : Hp} (h : Ex M H H') (s : ∀ a, M a → M' a) : Ex M' H H' := ⟨h.toExt.mono s, h.nt⟩
theorem Ext.ex {H H' : Hp} (h : Ext NoM H H') : Ex NoM H H' := ⟨h, fun a ⟨o, e, n⟩ => ⟨o, h.keep a o e (fun z => z), n⟩⟩
theorem Ext.exM {M : AS} {H H' : Hp} (h : Ext NoM H H') : Ex M H H' := h.ex.mono fun _ z => z.elim
/-! ### the table of the law's own code objects -/
def tabP (K : PySem.W.Frag) : Addr := (He.cT K ("law", none)).2
def lamQ : Str := ("law" : Str) ++ ".<locals>." ++ "<lambda>"
def TabI (K : PySem.W.Frag) (H : Hp) : Prop := LamX.TabS H (tabP K) lamQ
theorem TabI.kept {K : PySem.W.Frag} {H H' : Hp} (t : TabI K H) (e : ∀ b o, H b = some o → H' b = some o) : TabI K H' := t.ext e
theorem TabI.new {K : PySem.W.Frag} {H : Hp} {a : Addr} {o : HO} (t : TabI K H) (h : H a = none) : TabI K (upd H a o) := t.kept fun b u e => by rw [upd_ne (ne_of_none e h)]; exact e
/-- neither a table nor a code stands there -/
def Plain (H : Hp) (a : Addr) : Prop := (∀ ps, H a ≠ some (.tbl ps)) ∧ ∀ q, H a ≠ some (LamX.CodeO a q)
theorem Plain.of {H : Hp} {a : Addr} {u : HO} (h : H a = some u) (h1 : ∀ ps, u ≠ .tbl ps) (h2 : ∀ p, u ≠ .ext p) : Plain H a := ⟨fun ps z => h1 ps (Option.some.inj (h.symm.trans z)), fun q z => h2 _ (Option.some.inj (h.symm.trans z))⟩
theorem Plain.lst {H : Hp} {a : Addr} {vs : List V} (h : H a = some (.lst vs)) : Plain H a := .of h (fun _ z => nomatch z) fun _ z => nomatch z
theorem Plain.dK {H : Hp} {a : Addr} {vs : List (Key × V)} (h : H a = some (.dK vs)) : Plain H a := .of h (fun _ z => nomatch z) fun _ z => nomatch z
theorem TabI.put {K : PySem.W.Frag} {H : Hp} {a : Addr} {o : HO} (t : TabI K H) (n : Plain H a) : TabI K (upd H a o) := by
  obtain ⟨ps, hP, ht, hc⟩ := t
  refine ⟨ps, ?_, ht, fun pos cv h => ?_⟩
  · rw [upd_ne fun z => n.1 ps (by rw [← z]; exact hP)]
    exact hP
  · obtain ⟨c, e, hco⟩ := hc pos cv h
    exact ⟨c, e, by rw [upd_ne fun z => n.2 _ (by rw [← z]; exact hco)]; exact hco⟩
theorem TabI.ne {K : PySem.W.Frag} {H : Hp} {a : Addr} (t : TabI K H) (n : Plain H a) : a ≠ tabP K := fun z => by
  obtain ⟨ps, hP, _⟩ := t
  exact n.1 ps (by rw [z]; exact hP)
theorem hoX_code {a : Addr} {xs : List XE} {ep : Nat} {q : Str} : hoX a xs ep ≠ LamX.CodeO a q := fun z => by
  unfold LamX.CodeO hoX at z
  injection z with z
  have h0 := congrFun z (⟨(Array.replicate a default).push { cls := .none, data := .fields #[.none, .str q default] }, default⟩ : Heap)
  have hg : (⟨(Array.replicate a default).push { cls := .none, data := .fields #[.none, .str q default] }, default⟩ : Heap).get? a = some { cls := .none, data := .fields #[.none, .str q default] } := by
    unfold Heap.get?
    have e : ((Array.replicate a (default : Obj)).push { cls := .none, data := .fields #[.none, .str q default] })[a]? = some { cls := .none, data := .fields #[.none, .str q default] } := by
      rw [Array.getElem?_push]
      simp
    rw [e]
  have h1 : RawX a xs ep _ := h0.mpr ⟨_, _, default, hg, rfl, rfl⟩
  obtain ⟨o, es, e1, e2⟩ := h1
  rw [hg] at e1
  cases e1
  revert e2
  simp
theorem OR.plain {K : PySem.W.Frag} {F : AS} {H : Hp} {o : O} {a : Addr} (h : OR K F H o a) : Plain H a := by
  cases o with
  | lst l =>
    obtain ⟨vs, q, _⟩ := h
    exact ⟨(fun ps z => by rw [q] at z; cases z), fun c z => by rw [q] at z; unfold LamX.CodeO at z; cases z⟩
  | dct ks vs =>
    rcases h with ⟨xs, dvs, d, _⟩ | ⟨kvs, q, _⟩
    · obtain ⟨ep, q⟩ := d.at_
      exact ⟨(fun ps z => by rw [q] at z; cases z), fun c z => by rw [q] at z; exact hoX_code (Option.some.inj z)⟩
    · exact ⟨(fun ps z => by rw [q] at z; cases z), fun c z => by rw [q] at z; unfold LamX.CodeO at z; cases z⟩
  | ins c ns fs =>
    obtain ⟨dx, vs, q, _⟩ := h
    exact ⟨(fun ps z => by rw [q] at z; cases z), fun c z => by rw [q] at z; unfold LamX.CodeO at z; cases z⟩
structure Rel (K : PySem.W.Frag) (F M : AS) (env : En) (σ : SS) (H : Hp) : Prop where
  len : env.length = σ.length
  dat : ∀ (i : Nat) (d : D), env[i]? = some (Sl.dat d) → ∃ v, σ[i]? = some (some v) ∧ VR K F H d v
  own : ∀ (i : Nat) (o : O), env[i]? = some (Sl.own o) → ∃ a, σ[i]? = some (some (V.ref a)) ∧ M a ∧ OR K F H o a
  apart : ∀ (i j : Nat) (o o' : O) (a : Addr), env[i]? = some (Sl.own o) → env[j]? = some (Sl.own o') → σ[i]? = some (some (V.ref a)) → σ[j]? = some (some (V.ref a)) → i = j
  sub : ∀ a, M a → F a
  there : ∀ a, F a → NotTup H a
  tabM : M (tabP K)
  tab : TabI K H
section
variable {K : PySem.W.Frag} {F M : AS} {env : En} {σ : SS} {H H' : Hp}
theorem Rel.fresh (r : Rel K F M env σ H) : ∀ p, H p = none → ¬ F p := fun p h z => by
  obtain ⟨o, e, _⟩ := r.there p z
  rw [h] at e; cases e
theorem OR.ext {M' : AS} {o : O} {a : Addr} (h : OR K F H o a) (n : ¬ M' a) (e : Ext M' H H') (s : ∀ a, M' a → F a) : OR K F H' o a :=
  h.mono (fun u q => e.keep _ _ q n) (fun b u q nf => e.keep _ _ q fun m => nf (s b m)) fun _ _ _ nf => nf
theorem Rel.ext (r : Rel K F M env σ H) (e : Ex NoM H H') : Rel K F M env σ H' where
  len := r.len
  dat := fun i d h => let ⟨v, a, b⟩ := r.dat i d h; ⟨v, a, b.ext e.toExt (fun _ z => z.elim)⟩
  own := fun i o h => let ⟨a, b, c, d⟩ := r.own i o h; ⟨a, b, c, d.ext (fun z => z) e.toExt (fun _ z => z.elim)⟩
  apart := r.apart
  sub := r.sub
  there := fun a z => e.nt a (r.there a z)
  tabM := r.tabM
  tab := r.tab.kept fun b o q => e.keep b o q fun z => z
/-- the table alone may have grown -/
theorem Rel.extT (r : Rel K F M env σ H) (e : Ex (fun a => a = tabP K) H H') (t : TabI K H') : Rel K F M env σ H' where
  len := r.len
  dat := fun i d h => let ⟨v, a, b⟩ := r.dat i d h; ⟨v, a, b.ext e.toExt (fun _ z => z ▸ r.sub _ r.tabM)⟩
  own := fun i o h => let ⟨a, b, c, d⟩ := r.own i o h; ⟨a, b, c, d.ext (M' := fun a => a = tabP K) (fun z => r.tab.ne d.plain z) e.toExt (fun _ z => z ▸ r.sub _ r.tabM)⟩
  apart := r.apart
  sub := r.sub
  there := fun a z => e.nt a (r.there a z)
  tabM := r.tabM
  tab := t
theorem En.at_of {i : Nat} {s : Sl} (h : env.at i = s) (n : s ≠ .non) : env[i]? = some s := by
  unfold En.at at h
  rw [List.getD_eq_getElem?_getD] at h
  cases q : env[i]? with
  | none => rw [q] at h; exact absurd h.symm n
  | some t => rw [q] at h; exact congrArg some h
/-- a value under a name -/
theorem Rel.val (r : Rel K F M env σ H) {i : Nat} {d : D} (h : (env.at i).val = some d) : ∃ v, σ[i]? = some (some v) ∧ VR K F H d v := by
  cases q : env.at i with
  | non => rw [q] at h; cases h
  | own o => rw [q] at h; cases h
  | dat x =>
    rw [q] at h; cases h
    exact r.dat i _ (En.at_of q (fun z => nomatch z))
theorem Rel.bor (r : Rel K F M env σ H) {i : Nat} {d : D} (h : (env.at i).bor = some d) : ∃ v, σ[i]? = some (some v) ∧ VB K F M H d v := by
  cases q : env.at i with
  | non => rw [q] at h; cases h
  | dat x => rw [q] at h; cases h
  | own o =>
    rw [q] at h
    obtain ⟨a, e, m, k⟩ := r.own i _ (En.at_of q (fun z => nomatch z))
    cases o <;> cases h
    · exact ⟨_, e, .inr ⟨a, .lst _, rfl, rfl, m, k⟩⟩
    · exact ⟨_, e, .inr ⟨a, .dct _ _, rfl, rfl, m, k⟩⟩
    · exact ⟨_, e, .inr ⟨a, .ins _ _ _, rfl, rfl, m, k⟩⟩
end
/-- what an expression's value is: a borrowed one the name's own object -/
def VX (K : PySem.W.Frag) (F : AS) (σ : SS) (e : E) (d : D) (v : V) (H : Hp) : Prop := match e with
  | .bor i => σ[i]? = some (some v)
  | _ => VR K F H d v
def ExcR (exc : Nat → Addr) (x : Exn) (cls : Value) (dd : Option Addr) (H : Hp) : Prop := cls = .ref (exc x.c) ∧ match x.ix with
  | none => dd = none
  | some i => ∃ d, dd = some d ∧ H d = some (.xd [(("index" : Str), .int i)])
section
variable (K : PySem.W.Frag) (exc : Nat → Addr) (W : WX) (F M : AS) (σ : SS)
/-- what is to follow, by how the interpreter ends -/
def Post {α β : Type} (H : Hp) (R : α → β → Hp → Prop) (r : Res α) (Q : β → Hp → Prop) : Prop := match r with
  | .ok a env => ∀ v H', Ex M H H' → Rel K F M env σ H' → R a v H' → Q v H'
  | .exc x env => ∀ cls dd H', Ex M H H' → Rel K F M env σ H' → ExcR exc x cls dd H' → W cls dd σ H'
  | .bad => False
end
section
variable {K : PySem.W.Frag} {exc : Nat → Addr} {W : WX} {F M : AS} {σ : SS} {H H' : Hp}
theorem Post.shift {α β : Type} {R : α → β → Hp → Prop} {r : Res α} {Q : β → Hp → Prop} (p : Post K exc W F M σ H R r Q) (e : Ex M H H') : Post K exc W F M σ H' R r Q := by
  cases r with
  | ok a env => exact fun v H2 e2 => p v H2 (e.trans e2)
  | exc x env => exact fun c d H2 e2 => p c d H2 (e.trans e2)
  | bad => exact p
theorem Post.bind {α β γ δ : Type} {R : α → β → Hp → Prop} {R' : γ → δ → Hp → Prop} {r : Res α} {k : α → En → Res γ} {Q' : δ → Hp → Prop} {G : β → Hp → Prop} (p : Post K exc W F M σ H R' (r.bind k) Q')
    (h : ∀ a env v H1, r = .ok a env → Ex M H H1 → Rel K F M env σ H1 → R a v H1 → Post K exc W F M σ H1 R' (k a env) Q' → G v H1) : Post K exc W F M σ H R r G := by
  cases r with
  | ok a env => exact fun v H1 e rl ra => h a env v H1 rfl e rl ra (Post.shift (r := k a env) p e)
  | exc x env => exact p
  | bad => exact p
theorem Post.opt {α β : Type} {R : α → β → Hp → Prop} {o : Option α} {env : En} {Q : β → Hp → Prop} (p : Post K exc W F M σ H R (opt o env) Q) : ∃ a, o = some a ∧ Post K exc W F M σ H R (.ok a env) Q := by
  cases o with
  | none => exact p.elim
  | some a => exact ⟨a, rfl, p⟩
theorem Post.here {α β : Type} {R : α → β → Hp → Prop} {a : α} {env : En} {Q : β → Hp → Prop} {v : β} (p : Post K exc W F M σ H R (.ok a env) Q) (rl : Rel K F M env σ H) (ra : R a v H) : Q v H := p v H (Ex.refl _ _) rl ra
/-- the end is a value that comes -/
theorem Post.pval {e : E} {d : D} {env : En} {Q : VK} (hb : isBor e = false) (p : Post K exc W F M σ H (VX K F σ e) (.ok d env) Q) (rl : Rel K F M env σ H) : PVal K F H d Q := fun z H' ex vr =>
  p z H' ex.exM (rl.ext ex.ex) (by cases e <;> first | exact vr | cases hb)
theorem VX.vr {e : E} {d : D} {v : V} (hb : isBor e = false) (h : VX K F σ e d v H) : VR K F H d v := by
  cases e <;> first | exact h | cases hb
/-- an operand when it is used -/
theorem VX.use {e : E} {d x : D} {v : V} {env : En} (h : VX K F σ e d v H) (e1 : Ex M H H') (rl : Rel K F M env σ H') (hr : rd e d env = some x) (s : ∀ a, M a → F a) : VB K F M H' x v := by
  cases e with
  | bor i =>
    obtain ⟨u, e2, k⟩ := rl.bor (i := i) hr
    have e3 : σ[i]? = some (some v) := h
    rw [e2] at e3
    cases e3
    exact k
  | _ => cases hr; exact .inl (VR.ext h e1.toExt s)
end

/-! ### the transformers -/
def asB : D → En → Res Bool
  | .bl b, e => .ok b e
  | _, _ => .bad
theorem bind_bool {γ : Type} (r : Res D) (A B : En → Res γ) : (r.bind fun x e => onBl x e A B) = (r.bind asB).bind fun b e => if b = true then A e else B e := by
  cases r with
  | bad => rfl
  | exc x e => rfl
  | ok d e => cases d <;> first | rfl | (rename_i b; cases b <;> rfl)
theorem onBl_bind {α β : Type} (x : D) (e : En) (A B : En → Res α) (k : α → En → Res β) : (onBl x e A B).bind k = onBl x e (fun e => (A e).bind k) (fun e => (B e).bind k) := by
  cases x <;> first | rfl | (rename_i b; cases b <;> rfl)
theorem bind_assoc {α β γ : Type} (r : Res α) (f : α → En → Res β) (g : β → En → Res γ) : (r.bind f).bind g = r.bind fun a e => (f a e).bind g := by
  cases r <;> rfl
section
variable (K : PySem.W.Frag) (exc : Nat → Addr) (W : WX) (G : Nat → Option D) (run : Run)
def tE (m : E) : TE := fun σ H Q => ∃ F M env, Rel K F M env σ H ∧ Post K exc W F M σ H (VX K F σ m) (evE G run m env) Q
def tT (m : E) : TT := fun σ H Q => ∃ F M env, Rel K F M env σ H ∧ Post K exc W F M σ H (fun d b _ => d = b) ((evE G run m env).bind asB) Q
def tOT (m : Oe) : TT := fun σ H Q => ∃ F M env, Rel K F M env σ H ∧ Post K exc W F M σ H (fun d b _ => d = b) (evT G run m env) Q
/-- the values of expressions -/
def VXs (K : PySem.W.Frag) (F : AS) (σ : SS) : Es → List D → List V → Hp → Prop
  | .nil, ds, vs, _ => ds = [] ∧ vs = []
  | .cons e es, ds, vs, H => ∃ d r v u, ds = d :: r ∧ vs = v :: u ∧ VX K F σ e d v H ∧ VXs K F σ es r u H
def tEs (m : Es) : TA := fun σ H Q => ∃ F M env, Rel K F M env σ H ∧ Post K exc W F M σ H (VXs K F σ m) (evEs G run m env) Q
def tOe (m : Oe) : TO := fun σ H Q => ∃ F M env, Rel K F M env σ H ∧ Post K exc W F M σ H (fun d b _ => d = b) (evO G run m env) Q
def VA (K : PySem.W.Frag) (F : AS) (σ : SS) : List AV → List V → Hp → Prop
  | [], vs, _ => vs = []
  | a :: as, vs, H => ∃ v u, vs = v :: u ∧ (match a with
    | .dat d => VR K F H d v
    | .bo i => σ[i]? = some (some v)
    | .io i => σ[i]? = some (some v)) ∧ VA K F σ as u H
def tAs (m : As) : TA := fun σ H Q => ∃ F M env, Rel K F M env σ H ∧ Post K exc W F M σ H (VA K F σ) (evAs G run m env) Q
end
section
variable {K : PySem.W.Frag} {F M : AS} {σ : SS} {H H' : Hp}
theorem VX.ext {e : E} {d : D} {v : V} (h : VX K F σ e d v H) (ex : Ex M H H') (s : ∀ a, M a → F a) : VX K F σ e d v H' := by
  cases e <;> first | exact h | exact VR.ext h ex.toExt s
theorem VXs.ext : ∀ {es : Es} {ds : List D} {vs : List V}, VXs K F σ es ds vs H → Ex M H H' → (∀ a, M a → F a) → VXs K F σ es ds vs H'
  | .nil, _, _, h, _, _ => h
  | .cons e es, _, _, ⟨d, r, v, u, e1, e2, h1, h2⟩, ex, s => ⟨d, r, v, u, e1, e2, h1.ext ex s, VXs.ext h2 ex s⟩
/-- data in a row, perhaps borrowed -/
def VBs (K : PySem.W.Frag) (F M : AS) (H : Hp) : List D → List V → Prop
  | [], vs => vs = []
  | d :: ds, vs => ∃ v r, vs = v :: r ∧ VB K F M H d v ∧ VBs K F M H ds r
theorem VXs.use : ∀ {es : Es} {ds xs : List D} {vs : List V} {env : En}, VXs K F σ es ds vs H → Rel K F M env σ H → rds es ds env = some xs → VBs K F M H xs vs
  | .nil, _, _, _, _, ⟨e1, e2⟩, _, hr => by subst e1 e2; cases hr; exact rfl
  | .cons e es, _, xs, _, env, ⟨d, r, v, u, e1, e2, h1, h2⟩, rl, hr => by
    subst e1 e2
    simp only [rds] at hr
    cases q1 : rd e d env with
    | none => rw [q1] at hr; cases hr
    | some x =>
      cases q2 : rds es r env with
      | none => rw [q1, q2] at hr; cases hr
      | some ys =>
        rw [q1, q2] at hr
        cases hr
        exact ⟨v, u, rfl, h1.use (Ex.refl M H) rl q1 rl.sub, VXs.use h2 rl q2⟩
def Es.noBor : Es → Bool
  | .nil => true
  | .cons e es => !isBor e && Es.noBor es
theorem VXs.vrs : ∀ {es : Es} {ds : List D} {vs : List V}, es.noBor = true → VXs K F σ es ds vs H → VRs K F H ds vs
  | .nil, _, _, _, ⟨e1, e2⟩ => by subst e1 e2; exact VRs.nil_iff.mpr rfl
  | .cons e es, _, _, hb, ⟨d, r, v, u, e1, e2, h1, h2⟩ => by
    subst e1 e2
    simp only [Es.noBor, Bool.and_eq_true, Bool.not_eq_true'] at hb
    exact .cons_mk (h1.vr hb.1) (VXs.vrs hb.2 h2)
theorem VBs.one {d : D} {vs : List V} (h : VBs K F M H [d] vs) : ∃ v, vs = [v] ∧ VB K F M H d v := by
  obtain ⟨v, r, e, h1, h2⟩ := h
  have h3 : r = [] := h2
  subst h3
  exact ⟨v, e, h1⟩
theorem VBs.two {d d' : D} {vs : List V} (h : VBs K F M H [d, d'] vs) : ∃ v v', vs = [v, v'] ∧ VB K F M H d v ∧ VB K F M H d' v' := by
  obtain ⟨v, r, e, h1, h2⟩ := h
  obtain ⟨w, rfl, h3⟩ := VBs.one h2
  exact ⟨v, w, e, h1, h3⟩
end

/-! ### built-ins -/
def Bi.py : Bi → Str
  | .len => "len" | .all => "all" | .any => "any" | .sum => "sum" | .tuple => "tuple" | .list => "list" | .min => "min" | .max => "max" | .int => "int" | .str => "str" | .sorted => "sorted" | .sset => "" | .lenset => "" | .bool => "bool"
/-- a built-in function, by its name; else a type -/
def Bi.fn : Bi → Option String
  | .len => some "len" | .all => some "all" | .any => some "any" | .sum => some "sum" | .min => some "min" | .max => some "max" | .sorted => some "sorted" | _ => none
def Bi.ty : Bi → Option String
  | .tuple => some "tuple" | .list => some "list" | .int => some "int" | .bool => some "bool" | .str => some "str" | _ => none
def rBi (K : PySem.W.Frag) : Bi → List V → Hp → VK → Prop
  | .len => fun xs H Q => (∃ p ys, xs = [.ref p] ∧ (SqL K H p ys ∨ SqT K H p ys) ∧ Q (.int ys.length) H) ∨ ∃ z, xs = [.str z] ∧ z.length ≤ sizeLine ∧ Q (.int z.length) H
  | .all => rAll K
  | .any => rAny K
  | .sum => rSum K
  | .min => fun xs H Q => ∃ i j, xs = [.int i, .int j] ∧ Q (.int (if j < i then j else i)) H
  | .max => fun xs H Q => ∃ i j, xs = [.int i, .int j] ∧ Q (.int (if j > i then j else i)) H
  | .tuple => fun xs H Q => ∃ p ys, xs = [.ref p] ∧ ((SqL K H p ys ∧ ∀ l, H l = none → Q (.ref l) (upd H l (.tup ys))) ∨ (SqT K H p ys ∧ Q (.ref p) H))
  | .list => fun xs H Q => (∃ p ys, xs = [.ref p] ∧ (SqL K H p ys ∨ SqT K H p ys) ∧ ∀ l, H l = none → Q (.ref l) (upd H l (.lst ys))) ∨ rListX xs H Q
  | .int => fun xs H Q => ((∃ i, xs = [.int i] ∧ Q (.int i) H) ∨ ∃ k, xs = [.bl k] ∧ Q (.int (if k then 1 else 0)) H) ∨ ∃ a n, xs = [.str a] ∧ PySem.intText? a = some n ∧ a.length ≤ 640 ∧ Q (.int n) H
  | .bool => fun xs H Q => (∃ i, xs = [.int i] ∧ Q (.bl (i != 0)) H) ∨ ∃ k, xs = [.bl k] ∧ Q (.bl k) H
  | .str => fun xs H Q => ∃ i, xs = [.int i] ∧ i.natAbs.log2 < 1920 ∧ Q (.str (toString i)) H
  | .sorted => rSortD D.py K
  | .sset => fun _ _ _ => False
  | .lenset => fun _ _ _ => False
theorem call_Bi {X : Cx} (hu : X.A.units + 64 < cLine) (hc : X.calm = true) : ∀ {b : Bi} {id : String}, b.fn = some id → CallR X (.builtin id) (rBi X.K b)
  | .len, _, h => by cases h; exact call_len_seq.or call_len_str
  | .all, _, h => by cases h; exact cr_all hc
  | .any, _, h => by cases h; exact cr_any hc
  | .sum, _, h => by cases h; exact cr_sum hc
  | .min, _, h => by cases h; exact call_min2 hc
  | .max, _, h => by cases h; exact call_max2 hc
  | .sorted, _, h => by cases h; exact cr_sortD D.py hu
  | .tuple, _, h => by cases h
  | .list, _, h => by cases h
  | .int, _, h => by cases h
  | .str, _, h => by cases h
  | .sset, _, h => by cases h
  | .lenset, _, h => by cases h
  | .bool, _, h => by cases h
theorem call_BiT {X : Cx} (hc : X.calm = true) : ∀ {b : Bi} {id : String}, b.ty = some id → CallR X (.type id) (rBi X.K b)
  | .tuple, _, h => by cases h; exact call_tuple_of
  | .list, _, h => by cases h; exact call_list_of.or (cr_listX hc)
  | .int, _, h => by cases h; exact call_int1.or call_int_str
  | .bool, _, h => by cases h; exact call_bool1
  | .len, _, h => by cases h
  | .all, _, h => by cases h
  | .any, _, h => by cases h
  | .sum, _, h => by cases h
  | .min, _, h => by cases h
  | .max, _, h => by cases h
  | .sorted, _, h => by cases h
  | .str, _, h => by cases h; exact call_str_int
  | .sset, _, h => by cases h
  | .lenset, _, h => by cases h
theorem boot_Bi : ∀ {b : Bi} {id : String}, b.fn = some id → bootBuiltins b.py = some (.builtin id)
  | .len, _, h => by cases h; decide +kernel
  | .all, _, h => by cases h; decide +kernel
  | .any, _, h => by cases h; decide +kernel
  | .sum, _, h => by cases h; decide +kernel
  | .min, _, h => by cases h; decide +kernel
  | .max, _, h => by cases h; decide +kernel
  | .sorted, _, h => by cases h; decide +kernel
  | .tuple, _, h => by cases h
  | .list, _, h => by cases h
  | .int, _, h => by cases h
  | .str, _, h => by cases h
  | .sset, _, h => by cases h
  | .lenset, _, h => by cases h
  | .bool, _, h => by cases h
theorem boot_BiT : ∀ {b : Bi} {id : String}, b.ty = some id → bootBuiltins b.py = some (.type id)
  | .tuple, _, h => by cases h; decide +kernel
  | .list, _, h => by cases h; decide +kernel
  | .int, _, h => by cases h; decide +kernel
  | .bool, _, h => by cases h; decide +kernel
  | .len, _, h => by cases h
  | .all, _, h => by cases h
  | .any, _, h => by cases h
  | .sum, _, h => by cases h
  | .min, _, h => by cases h
  | .max, _, h => by cases h
  | .sorted, _, h => by cases h
  | .str, _, h => by cases h; decide +kernel
  | .sset, _, h => by cases h
  | .lenset, _, h => by cases h
section
variable {K : PySem.W.Frag} {F M : AS} {H : Hp} {Q : VK}
theorem VR.lstL {l : List D} {v : V} (h : VR K F H (.lst l) v) : ∃ a vs, v = .ref a ∧ H a = some (.lst vs) ∧ VRs K F H l vs := VB.lstL (M := NoM) (.inl h)
theorem VB.intI {i : Int} {v : V} (h : VB K F M H (.int i) v) : v = .int i := (h.not_lst rfl).intI
theorem VB.blI {i : Bool} {v : V} (h : VB K F M H (.bl i) v) : v = .bl i := (h.not_lst rfl).blI
theorem VB.strI {i : Str} {v : V} (h : VB K F M H (.str i) v) : v = .str i := (h.not_lst rfl).strI
theorem zip_fst : ∀ {l : List D} {vs : List V}, VRs K F H l vs → (vs.zip l).map (·.1) = vs ∧ (vs.zip l).map (·.2) = l
  | [], vs, h => by rw [VRs.nil_iff.mp h]; exact ⟨rfl, rfl⟩
  | d :: l, vs, h => by
    obtain ⟨v, r, rfl, h1, h2⟩ := h.cons_inv
    obtain ⟨a, b⟩ := zip_fst h2
    simp only [List.zip_cons_cons, List.map_cons, a, b, and_self]
theorem zip_mem : ∀ {l : List D} {vs : List V}, VRs K F H l vs → ∀ p ∈ vs.zip l, VR K F H p.2 p.1
  | [], vs, h, p, hp => by rw [VRs.nil_iff.mp h] at hp; cases hp
  | d :: l, vs, h, p, hp => by
    obtain ⟨v, r, rfl, h1, h2⟩ := h.cons_inv
    rw [List.zip_cons_cons] at hp
    rcases List.mem_cons.mp hp with rfl | hp
    · exact h1
    · exact zip_mem h2 p hp
theorem VRs.of_mem : ∀ {bs : List (V × D)}, (∀ p ∈ bs, VR K F H p.2 p.1) → VRs K F H (bs.map (·.2)) (bs.map (·.1))
  | [], _ => VRs.nil_iff.mpr rfl
  | b :: bs, h => .cons_mk (h b List.mem_cons_self) (VRs.of_mem fun p hp => h p (List.mem_cons_of_mem _ hp))
theorem depOk_inv {d : D} (h : depOk d = true) : ∃ n, d.dep = some n ∧ n ≤ 40 := by
  unfold depOk at h
  split at h
  · rename_i n q
    exact ⟨n, q, of_decide_eq_true h⟩
  · cases h
theorem deps_of : ∀ {l : List D}, (∀ d ∈ l, depOk d = true) → ∃ n, D.deps l = some n
  | [], _ => ⟨0, rfl⟩
  | d :: l, h => by
    obtain ⟨n, hn, _⟩ := depOk_inv (h d List.mem_cons_self)
    obtain ⟨m, hm⟩ := deps_of (l := l) fun x hx => h x (List.mem_cons_of_mem _ hx)
    exact ⟨max n m, by simp only [D.deps, hn, hm]⟩
theorem pys_map : ∀ l : List D, D.pys l = l.map D.py
  | [] => by simp only [D.pys, List.map_nil]
  | d :: l => by simp only [D.pys, List.map_cons, pys_map l]
theorem sort_bi {l : List D} {a : Addr} {ws : List V} (ho : sortOk l = true) (t : H a = some (.lst ws)) (r : VRs K F H l ws) (fr : ∀ p, H p = none → ¬ F p) (q : PVal K F H (.lst (isort leD l)) Q) : rSortD D.py K [.ref a] H Q := by
  unfold sortOk at ho
  simp only [Bool.and_eq_true, Bool.or_eq_true, List.all_eq_true] at ho
  obtain ⟨h1, h2, h3⟩ := ho
  obtain ⟨z1, z2⟩ := zip_fst r
  obtain ⟨n, hn⟩ := deps_of h3
  have e : (ws.zip l).map (fun b => D.py b.2) = l.map D.py := by
    conv => rhs; rw [← z2]
    rw [List.map_map]; rfl
  refine ⟨a, ws.zip l, rfl, by rw [z1]; exact .of t, by rw [z1, e, ← pys_map]; exact VRs.dp l ws n hn r, ?_, ?_, fun b hb => ?_, fun p hp => ?_⟩
  · rw [e]
    intro x hx y hy
    obtain ⟨x', hx', rfl⟩ := List.mem_map.mp hx
    obtain ⟨y', hy', rfl⟩ := List.mem_map.mp hy
    exact h1 x' hx' y' hy'
  · rw [e]
    rcases h2 with h2 | h2
    · refine .inl fun x hx => ?_
      obtain ⟨x', hx', rfl⟩ := List.mem_map.mp hx
      have := h2 x' hx'
      cases x' <;> try (cases this; done)
      rename_i l'
      cases l' with
      | nil => cases this
      | cons y ys => exact ⟨y.py, D.pys ys, by simp only [D.py, D.pys]⟩
    · refine .inr fun x hx => ?_
      obtain ⟨x', hx', rfl⟩ := List.mem_map.mp hx
      have := h2 x' hx'
      cases x' <;> first | (cases this; done) | (simp only [D.py]; exact ⟨(fun z => nomatch z), (fun _ z => nomatch z)⟩)
  · have hm : b.2 ∈ l := by rw [← z2]; exact List.mem_map_of_mem hb
    obtain ⟨k, hk, hk2⟩ := depOk_inv (h3 _ hm)
    exact Nat.le_trans (D.depth_py b.2 k hk) hk2
  · have hs : isort leD l = (isort (PySem.W.dataLe false fun b : V × D => D.py b.2) (ws.zip l)).map (·.2) := by
      conv => lhs; rw [← z2]
      exact (isort_map (r := PySem.W.dataLe false fun b : V × D => D.py b.2) (s := leD) (·.2) (fun a _ b _ => rfl)).symm
    rw [hs] at q
    exact q.lst (VRs.of_mem fun p hp => zip_mem r p (isort_mem.mp hp)) hp fr
theorem bi_ok {b : Bi} {l : List D} {d : D} {vs : List V} (h : opBi b l = some d) (hv : VBs K F M H l vs) (fr : ∀ p, H p = none → ¬ F p) (q : PVal K F H d Q) : rBi K b vs H Q := by
  unfold opBi at h
  split at h
  · cases h
    obtain ⟨v, rfl, k⟩ := hv.one
    obtain ⟨a, ws, rfl, t, r⟩ := k.tup.tupT
    refine .inl ⟨a, ws, rfl, .inr t, ?_⟩
    rw [← r.len]; exact q.int
  · cases h
    obtain ⟨v, rfl, k⟩ := hv.one
    obtain ⟨a, ws, rfl, t, r⟩ := k.lstL
    refine .inl ⟨a, ws, rfl, .inl (.of t), ?_⟩
    rw [← r.len]; exact q.int
  · cases h
    obtain ⟨v, rfl, k⟩ := hv.one
    obtain ⟨a, rfl, t⟩ := (k.not_lst rfl).scrL
    refine .inl ⟨a, _, rfl, .inl t, ?_⟩
    rw [List.length_map]; exact q.int
  · split at h
    · rename_i hz
      cases h
      obtain ⟨v, rfl, k⟩ := hv.one
      have k := k.not_lst rfl
      simp only [VR] at k
      subst k
      exact .inr ⟨_, rfl, big_line hz, q.int⟩
    · cases h
  · obtain ⟨bs, eb, rfl⟩ := Option.map_eq_some_iff.mp h
    obtain ⟨v, rfl, k⟩ := hv.one
    obtain ⟨a, ws, rfl, t, r⟩ := k.lstL
    have := r.bls eb
    subst this
    exact ⟨a, bs, rfl, .of t, q.bl⟩
  · obtain ⟨bs, eb, rfl⟩ := Option.map_eq_some_iff.mp h
    obtain ⟨v, rfl, k⟩ := hv.one
    obtain ⟨a, ws, rfl, t, r⟩ := k.lstL
    have := r.bls eb
    subst this
    exact ⟨a, bs, rfl, .of t, q.bl⟩
  · obtain ⟨bs, eb, rfl⟩ := Option.map_eq_some_iff.mp h
    obtain ⟨v, rfl, k⟩ := hv.one
    obtain ⟨a, ws, rfl, t, r⟩ := k.lstL
    have := r.ints eb
    subst this
    exact ⟨a, bs, rfl, .of t, q.int⟩
  · cases h
    obtain ⟨v, rfl, k⟩ := hv.one
    obtain ⟨a, ws, rfl, t, r⟩ := k.lstL
    exact ⟨a, ws, rfl, .inl ⟨.of t, fun p hp => q.tup r hp fr⟩⟩
  · cases h
    obtain ⟨v, rfl, k⟩ := hv.one
    obtain ⟨a, ws, rfl, t, r⟩ := k.tup.tupT
    exact .inl ⟨a, ws, rfl, .inr t, fun p hp => q.lst r hp fr⟩
  · cases h
    obtain ⟨v, rfl, k⟩ := hv.one
    obtain ⟨a, ws, rfl, t, r⟩ := k.lstL
    exact .inl ⟨a, ws, rfl, .inl (.of t), fun p hp => q.lst r hp fr⟩
  · rename_i ks vs
    split at h
    · rename_i ht
      cases h
      obtain ⟨v, rfl, k⟩ := hv.one
      obtain ⟨a, rfl, r⟩ := k.dctL
      obtain ⟨xs, t⟩ := r.t ht
      obtain ⟨ep, e0⟩ := t.p.at_
      have hk := t.al.out.1
      refine .inr ⟨a, xs, ep, rfl, e0, t.p.low, t.p.len, fun p hp => q.lst hk hp fr⟩
    · cases h
  · rename_i l
    split at h
    · rename_i ho
      cases h
      obtain ⟨v, rfl, k⟩ := hv.one
      obtain ⟨a, ws, rfl, t, r⟩ := k.lstL
      exact sort_bi ho t r fr q
    · cases h
  · cases h
    obtain ⟨v, w, rfl, k1, k2⟩ := hv.two
    cases k1.intI; cases k2.intI
    exact ⟨_, _, rfl, q.int⟩
  · cases h
    obtain ⟨v, w, rfl, k1, k2⟩ := hv.two
    cases k1.intI; cases k2.intI
    exact ⟨_, _, rfl, q.int⟩
  · cases h
    obtain ⟨v, rfl, k⟩ := hv.one
    cases k.intI
    exact .inl (.inl ⟨_, rfl, q.int⟩)
  · cases h
    obtain ⟨v, rfl, k⟩ := hv.one
    cases k.blI
    exact .inl (.inr ⟨_, rfl, q.int⟩)
  · cases h
    obtain ⟨v, rfl, k⟩ := hv.one
    cases k.blI
    exact .inr ⟨_, rfl, q.bl⟩
  · split at h
    · rename_i hz
      obtain ⟨i, ei, rfl⟩ := Option.map_eq_some_iff.mp h
      obtain ⟨v, rfl, k⟩ := hv.one
      have k := k.not_lst rfl
      simp only [VR] at k
      subst k
      exact .inr ⟨_, i, rfl, ei, hz, q.int⟩
    · cases h
  · split at h
    · rename_i hz
      cases h
      obtain ⟨v, rfl, k⟩ := hv.one
      cases k.intI
      refine ⟨_, rfl, ?_, q.str⟩
      rename_i n
      by_cases hn : n.natAbs = 0
      · rw [hn]
        decide
      · exact Nat.lt_trans ((Nat.log2_lt hn).mpr hz) (by decide)
    · cases h
  · cases h
/-! ### isinstance -/
def Ty.py : Ty → String
  | .int => "int" | .bool => "bool" | .str => "str" | .tuple => "tuple" | .list => "list"
def Ty.nm : Ty → Str
  | .int => "int" | .bool => "bool" | .str => "str" | .tuple => "tuple" | .list => "list"
theorem boot_Ty : ∀ t : Ty, bootBuiltins t.nm = some (.type t.py)
  | .int => by decide +kernel
  | .bool => by decide +kernel
  | .str => by decide +kernel
  | .tuple => by decide +kernel
  | .list => by decide +kernel
def tyName : D → String
  | .non => "NoneType" | .bl _ => "bool" | .int _ => "int" | .str _ => "str" | .tup _ => "tuple" | .lst _ => "list" | .scr _ => "list" | .dct _ _ => "dict" | .ins _ _ _ => "object"
theorem kit_D {K : PySem.W.Frag} (d : D) (hd : isiOk d = true) (t : Ty) : PySem.W.kitOne K (.type (tyName d)) (.type t.py) = some (tyOf t d) := by
  cases d <;> first | (cases hd; done) | (cases t <;> (apply kit_ty; simp only [tyName, Ty.py, tyOf]; decide +kernel))
theorem tyx_of {d : D} {v : V} (hd : isiOk d = true) (h : VB K F M H d v) : TyX K H v (.type (tyName d)) := by
  cases d with
  | non => have := (h.not_lst rfl).nonI; subst this; exact .base .non
  | bl b => cases h.blI; exact .base (.bl _)
  | int b => cases h.intI; exact .base (.int _)
  | str b => cases h.strI; exact .base (.str _)
  | tup l =>
    obtain ⟨a, vs, rfl, t, _⟩ := h.tup.tupT
    rcases t with (t | ⟨o, t⟩) | ⟨o, its, n, e, c, _⟩
    · exact .base (.tup t)
    · exact .fTuple t
    · exact .kTuple e c
  | lst l => obtain ⟨a, vs, rfl, t, _⟩ := h.lstL; exact .base (.lst t)
  | scr l =>
    obtain ⟨a, rfl, t⟩ := (h.not_lst rfl).scrL
    rcases t with (t | ⟨o, t⟩) | ⟨o, its, n, e, c, _⟩
    · exact .base (.lst t)
    · exact .base (.frz t)
    · exact .kList e c
  | dct ks vs => cases hd
  | ins c ns fs => cases hd
theorem kit_any {d : D} (hd : isiOk d = true) : ∀ ts : List Ty, PySem.W.kitAny K (.type (tyName d)) (ts.map fun t => .type t.py) = some (ts.any fun t => tyOf t d)
  | [] => kitAny_nil
  | t :: ts => by
    refine kitAny_cons (kit_D d hd t) (fun hb => ?_) (fun hb => ?_)
    · rw [kit_any hd ts]
      simp [hb]
    · simp [hb]
theorem clsv_tys : ∀ ts : List Ty, Paired ClsV (ts.map fun t => V.ty t.py) (ts.map fun t => Value.type t.py)
  | [] => .nil
  | t :: ts => .cons (.ty _) (clsv_tys ts)
end
end Qh

/-! The check of a program's text against the mini text, and what it gives for expressions. -/
namespace Qh
open PySem PySem.Spec PyProof.Rows L2 PySem.W

/-! ### the check -/
def visB (sc : Scope) (x : Str) : Bool := (match sc.names.lookup x with
  | some .local => true
  | some .cell => true
  | some .free => true
  | _ => false) && (!(x == ("__debug__" : Str)) && !(x == ("__classdict__" : Str)))
def glB (sc : Scope) (x : Str) : Bool := (match sc.names.lookup x with
  | some .globalImplicit => true
  | _ => false) && (!(x == ("__debug__" : Str)) && !(x == ("__name__" : Str)))
def nameB (N : List Str) (sc : Scope) (i : Nat) (x : Str) : Bool := decide (N[i]? = some x) && visB sc x
/-- a name that a def may store -/
def locB (N : List Str) (sc : Scope) (i : Nat) (x : Str) : Bool := decide (N[i]? = some x) && (match sc.names.lookup x with
  | some .local => true
  | some .cell => true
  | _ => false)
def cstB : D → Const → Bool
  | .non, .none => true
  | .bl b, .bool c => b == c
  | .int i, .int j => decide (i = j)
  | .str x, .str y => decide (x = y)
  | _, _ => false
def plainIx : Expr → Bool
  | .Slice _ _ _ _ => false
  | _ => true
def opB (op : BO) (o : Operator) : Bool := match op, o with
  | .add, .Add => true
  | .sub, .Sub => true
  | .mul, .Mult => true
  | .fdiv, .FloorDiv => true
  | .mod, .Mod => true
  | .pow, .Pow => true
  | _, _ => false
theorem opB_ok {op : BO} {o : Operator} (h : opB op o = true) : o = op.py := by
  cases op <;> cases o <;> first | rfl | cases h
def opC (op : CO) (o : CmpOp) : Bool := match op, o with
  | .eq, .Eq => true
  | .ne, .NotEq => true
  | .lt, .Lt => true
  | .le, .LtE => true
  | .gt, .Gt => true
  | .ge, .GtE => true
  | .isin, .In => true
  | .notin, .NotIn => true
  | .is, .Is => true
  | .isnot, .IsNot => true
  | _, _ => false
theorem opC_ok {op : CO} {o : CmpOp} (h : opC op o = true) : o = op.py := by
  cases op <;> cases o <;> first | rfl | cases h
def noSet : Expr → Bool
  | .Set _ _ _ => false
  | _ => true
def noStar : Expr → Bool
  | .Starred _ _ => false
  | _ => true
structure FnI where
  name : Str
  ps : Nat
  N : List Str
  /-- the class whose method it is -/
  at_ : Option Str := none
  /-- its qualified name -/
  qual : Str := name
structure Tab where
  fns : List FnI
  globs : List (Str × D)
  blts : List Str
  /-- classes and their fields -/
  flds : List (Str × Str) := []
  /-- classes of exceptions, their base first -/
  excs : List Str := []
  /-- the defs that call what they get -/
  gds : List Gd := []
  /-- may lambdas stand here -/
  lam : Bool := false
def tyB (sc : Scope) (bl : List Str) (t : Ty) : Expr → Bool
  | .Name x _ => decide (x = t.nm) && (glB sc x && bl.contains x)
  | _ => false
def tysB (sc : Scope) (bl : List Str) : List Ty → List Expr → Bool
  | [], [] => true
  | t :: ts, e :: es => tyB sc bl t e && tysB sc bl ts es
  | _, _ => false
/-- a method's object: not the plain call without arguments -/
def mb : Expr → Bool
  | .Call _ [] _ _ => false
  | _ => true
theorem mb_ok {o : Expr} {m : Str} {env : Env} {w : Sem Value} (h : mb o = true) : attributeBase o m env w = w := by
  cases o <;> try rfl
  rename_i f args kws pos
  cases args with
  | nil => cases h
  | cons a as => cases f <;> rfl
def Me.py : Me → Str
  | .split => "split" | .partition => "partition" | .join => "join" | .count => "count" | .index => "index" | .get => "get"
/-- the methods that are covered, with one argument -/
def Me.one : Me → Bool
  | .split => true
  | .join => true
  | .count => true
  | _ => false
def dctG (T : Tab) (g : Nat) (x : Str) : Bool := match T.globs[g]? with
  | some (y, .dct _ _) => decide (x = y)
  | _ => false
def keyNames : List Str → List (Option Expr) → Bool
  | [], [] => true
  | k :: ks, some (.Constant (.str x) _ _) :: es => decide (k = x) && keyNames ks es
  | _, _ => false
def CO.ofNeg : Bool → CmpOp → Bool
  | false, .In => true
  | true, .NotIn => true
  | _, _ => false
/-- is that the law's own scope -/
def lamN (sc : Scope) : Bool := match sc.names.lookup ("_law_script" : Str) with
  | some .local => true
  | some .cell => true
  | _ => false
def blkD (N : List Str) (sc scope : Scope) (own : List (Str × Nat)) : Bool := blkC N sc scope own && !lamN (relS scope sc)
theorem blkD_c {N : List Str} {sc scope : Scope} {own : List (Str × Nat)} (h : blkD N sc scope own = true) : blkC N sc scope own = true := (Bool.and_eq_true_iff.mp h).1
theorem blkD_n {N : List Str} {sc scope : Scope} {own : List (Str × Nat)} (h : blkD N sc scope own = true) : lamN (relS scope sc) = false := by
  have := (Bool.and_eq_true_iff.mp h).2
  simpa using this
def noPar (a : Arguments) : Bool := match a with
  | ⟨[], [], none, [], [], none, []⟩ => true
  | _ => false
/-- t[::-1] -/
def revArg : Expr → Option Expr
  | .Subscript v (.Slice none none (some (.UnaryOp .USub (.Constant (.int 1) _ _) _)) _) _ => some v
  | _ => none
/-- sorted(set(x)), len(set(x)) -/
def setArg : Expr → Option (Str × Str × Expr)
  | .Call (.Name x _) [.Call (.Name y _) [v] [] _] [] _ => some (x, y, v)
  | _ => none
section
variable (T : Tab) (N : List Str)
mutual
def chkE (sc : Scope) : E → Expr → Bool
  | .var i, .Name x _ => nameB N sc i x
  | .bor i, .Name x _ => nameB N sc i x
  | .cst d, .Constant c _ _ => cstB d c
  | .glo g, .Name x _ => glB sc x && (match T.globs[g]? with
    | some (_, .dct _ _) => false
    | some (y, _) => decide (x = y)
    | none => false)
  | .neg a, .UnaryOp .USub x _ => !isBor a && chkE sc a x
  | .get o k x, .Call (.Attribute ov nm ap) [a, b] [] pos => ((decide (nm = "get") && ap.endLine == pos.line) && mb ov) && ((!isBor k && !isBor x) && (chkE sc o ov && (chkE sc k a && chkE sc x b)))
  | .dsel ks vs i, .Subscript (.Dict keys values _) s _ => (((plainIx s && keyNames ks keys) && (decide (values.length = keys.length) && decide (keys.length ≤ 15))) && !keys.isEmpty) && ((vs.noBor && !isBor i) && (chkEs sc vs values && chkE sc i s))
  | .gin neg g e, .Compare l [o] [.Name x _] _ => CO.ofNeg neg o && ((glB sc x && dctG T g x) && (!isBor e && chkE sc e l))
  | .gix g e, .Subscript (.Name x _) s _ => plainIx s && ((glB sc x && dctG T g x) && (!isBor e && chkE sc e s))
  | .bin op a b, .BinOp l o r _ => (!isBor a && !isBor b) && (opB op o && (chkE sc a l && chkE sc b r))
  | .cmp op a b, .Compare l [o] [r] _ => opC op o && (noSet r && (chkE sc a l && chkE sc b r))
  | .chn op op' a b c, .Compare l [o, o'] [r, r'] _ => (!isBor a && (!isBor b && !isBor c)) && ((opC op o && opC op' o') && ((noSet r && noSet r') && (chkE sc a l && (chkE sc b r && chkE sc c r'))))
  | .and a b, .BoolOp .And (x :: y :: rest) pos => (!isBor a && !isBor b) && (chkE sc a x && (match rest with
    | [] => chkE sc b y
    | _ :: _ => chkE sc b (.BoolOp .And (y :: rest) pos)))
  | .or a b, .BoolOp .Or (x :: y :: rest) pos => (!isBor a && !isBor b) && (chkE sc a x && (match rest with
    | [] => chkE sc b y
    | _ :: _ => chkE sc b (.BoolOp .Or (y :: rest) pos)))
  | .not a, .UnaryOp .Not x _ => !isBor a && chkE sc a x
  | .ife t a b, .IfExp t' a' b' _ => (!isBor t && (!isBor a && !isBor b)) && (chkE sc t t' && (chkE sc a a' && chkE sc b b'))
  | .tup es, .Tuple xs _ _ => es.noBor && chkEs sc es xs
  | .lst es, .List xs _ => es.noBor && chkEs sc es xs
  | .ix a i, .Subscript v s _ => plainIx s && (chkE sc a v && chkE sc i s)
  | .sl a lo hi, .Subscript v (.Slice l h none _) _ => chkE sc a v && (chkO sc lo l && chkO sc hi h)
  | .rev a, e0 => (match revArg e0 with
    | some v => !isBor a && chkE sc a v
    | none => false)
  | .bset b a, e0 => (match setArg e0 with
    | some (x, y, v) => (decide (x = if b = true then "sorted" else "len") && decide (y = "set")) && ((glB sc x && glB sc y) && ((T.blts.contains x && T.blts.contains y) && ((noStar v && !isBor a) && chkE sc a v)))
    | none => false)
  | .call f as, .Call (.Name x _) args [] _ => glB sc x && ((match T.fns[f]? with
    | some i => decide (x = i.name) && i.at_.isNone
    | none => false) && chkAs sc as args)
  | .fld c o f, .Attribute (.Name x px) nm _ => decide (nm = f) && (T.flds.contains (c, f) && (!isBor o && chkE sc o (.Name x px)))
  | .mk f c as, .Call (.Name x _) (a :: args) [] _ => (glB sc x && (decide (x = c) && (match T.fns[f]? with
    | some i => decide (i.name = "__init__") && decide (i.at_ = some c)
    | none => false))) && (as.noBor && chkEs sc as (a :: args))
  | .mcall f c m o as, .Call (.Attribute (.Name x px) nm ap) (a :: args) [] cp => ((decide (nm = m) && (ap.endLine == cp.line && decide ((a :: args).length < 30))) && (match T.fns[f]? with
    | some i => (decide (i.name = m) && decide (i.name ≠ "__init__")) && decide (i.at_ = some c)
    | none => false)) && (!isBor o && (chkE sc o (.Name x px) && chkAs sc as (a :: args)))
  | .bi b as, .Call (.Name x _) (a :: args) [] _ => glB sc x && (decide (x = b.py) && (T.blts.contains x && ((b.fn.isSome || b.ty.isSome) && chkEs sc as (a :: args))))
  | .me m o as, .Call (.Attribute ov nm ap) [a] [] pos => ((decide (nm = m.py) && ap.endLine == pos.line) && (mb ov && m.one)) && ((!isBor o && as.noBor) && (chkE sc o ov && chkEs sc as [a]))
  | .lamc g k e, .Call (.Name x _) [.Lambda params body scope _] [] _ => (glB sc x && (T.lam && (lamN sc && !lamN scope))) && ((decide (g.name = x) && (T.gds.contains g && decide (k = T.excs.length))) && ((noPar params && LamX.lamSB sc scope) && (!isBor e && chkE scope e body)))
  | .isi e ts, .Call (.Name x _) [a, t] [] _ => glB sc x && (decide (x = "isinstance") && (T.blts.contains x && (!isBor e && (chkE sc e a && (match t with
    | .Tuple es _ _ => decide (ts.length ≤ 10) && tysB sc T.blts ts es
    | .Name _ _ => tysB sc T.blts ts [t]
    | _ => false)))))
  | .lc own it g t e, .ListComp elt [⟨tg, iter, ifs, a⟩] scope _ => (decide (a = 0) && (!isBor e && chkIt sc tg it iter)) && (blkD N sc scope (own.filterMap fun i => (N[i]?).map fun x => (x, i)) && (((decide ((own.filterMap fun i => (N[i]?).map fun x => (x, i)).map (·.2) = own) && noSet iter) && g.slots.all fun i => own.contains i) &&
      (chkTg scope g tg && (chkE (relS scope sc) e elt && chkT (relS scope sc) t ifs))))
  | .lc2 own own1 it g it2 g2 e, .ListComp elt [⟨tg, iter, [], a⟩, ⟨tg1, iter1, [], a1⟩] scope _ => ((decide (a = 0) && decide (a1 = 0)) && (!isBor e && chkIt sc tg it iter)) && (blkD N sc scope (own.filterMap fun i => (N[i]?).map fun x => (x, i)) && (((decide ((own.filterMap fun i => (N[i]?).map fun x => (x, i)).map (·.2) = own) && (noSet iter && noSet iter1)) && ((g.slots.all fun i => own.contains i) && ((g2.slots.all fun i => own1.contains i) && (own1.all fun i => own.contains i)))) &&
      ((chkTg scope g tg && chkTg scope g2 tg1) && (chkE (relS scope sc) e elt && chkIt (relS scope sc) tg1 it2 iter1))))
  | _, _ => false
def chkEs (sc : Scope) : Es → List Expr → Bool
  | .nil, [] => true
  | .cons e es, x :: xs => chkE sc e x && chkEs sc es xs
  | _, _ => false
def chkO (sc : Scope) : Oe → Option Expr → Bool
  | .none, none => true
  | .some e, some x => !isBor e && chkE sc e x
  | _, _ => false
def chkT (sc : Scope) : Oe → List Expr → Bool
  | .none, [] => true
  | .some m, [c] => !isBor m && chkE sc m c
  | _, _ => false
def chkAs (sc : Scope) : As → List Expr → Bool
  | .nil, [] => true
  | .val e as, x :: xs => chkE sc e x && chkAs sc as xs
  | .io i as, .Name x _ :: xs => nameB N sc i x && chkAs sc as xs
  | _, _ => false
def chkIt (sc : Scope) (tg : Expr) : It → Expr → Bool
  | .seq e, x => !isBor e && chkE sc e x
  | .rng1 e, .Call (.Name x _) [a] [] _ => glB sc x && (decide (x = "range") && (T.blts.contains x && (!isBor e && chkE sc e a)))
  | .rng2 e e', .Call (.Name x _) [a, b] [] _ => glB sc x && (decide (x = "range") && (T.blts.contains x && ((!isBor e && !isBor e') && (chkE sc e a && chkE sc e' b))))
  | .enum e, .Call (.Name x _) [a] [] _ => (glB sc x && (decide (x = "enumerate") && (T.blts.contains x && (!isBor e && chkE sc e a)))) && (match tg with
    | .Tuple _ _ _ => true
    | _ => false)
  | _, _ => false
def chkTg (sc : Scope) : Tg → Expr → Bool
  | .nm i, .Name x _ => locB N sc i x
  | .tp gs, .Tuple es _ _ => chkTgs sc gs es
  | _, _ => false
def chkTgs (sc : Scope) : Tgs → List Expr → Bool
  | .nil, [] => true
  | .cons g gs, e :: es => chkTg sc g e && chkTgs sc gs es
  | _, _ => false
end
end
theorem vis_of {sc : Scope} {x : Str} (h : visB sc x = true) : Vis sc x ∧ (x == ("__debug__" : Str)) = false ∧ (x == ("__classdict__" : Str)) = false := by
  unfold visB at h
  simp only [Bool.and_eq_true, Bool.not_eq_true'] at h
  refine ⟨?_, h.2.1, h.2.2⟩
  have h1 := h.1
  unfold Vis
  split at h1
  · rename_i q; exact .inl q
  · rename_i q; exact .inr (.inl q)
  · rename_i q; exact .inr (.inr q)
  · cases h1
theorem gl_of {sc : Scope} {x : Str} (h : glB sc x = true) : sc.names.lookup x = some .globalImplicit ∧ (x == ("__debug__" : Str)) = false ∧ x ≠ "__name__" := by
  unfold glB at h
  simp only [Bool.and_eq_true, Bool.not_eq_true'] at h
  refine ⟨?_, h.2.1, fun e => ?_⟩
  · have h1 := h.1
    split at h1
    · assumption
    · cases h1
  · have := h.2.2
    rw [e] at this
    simp at this
theorem plainIx_ok {b : Expr} (h : plainIx b = true) : PlainIx b := by
  intro o i
  cases b <;> first | rfl | cases h
theorem noSet_mark {op : CmpOp} {b : Expr} (h : noSet b = true) : behindInMarks op b = false := by
  cases b <;> first | rfl | cases h
theorem noSet_fold {b : Expr} {env : Env} (h : noSet b = true) : ∀ x, foldedSetIterable b env x = pure x := by
  intro x
  cases b <;> first | rfl | cases h
theorem star_cons {e : Expr} {es : List Expr} {env : Env} (h : noStar e = true) : starEach (e :: es) env = (false, eval e env) :: starEach es env := by
  cases e <;> first | rfl | cases h
theorem star_any {es : List Expr} {env : Env} {pos : Pos} (h : es.all noStar = true) : (backTo pos (starEach es env)).any (·.1) = false := by
  induction es with
  | nil => rfl
  | cons e r ih =>
    simp only [List.all_cons, Bool.and_eq_true] at h
    rw [star_cons h.1]
    unfold backTo at ih ⊢
    rw [List.map_cons, List.any_cons, ih h.2]
    rfl
section
variable {T : Tab} {N : List Str} {sc : Scope}
theorem chkE_noStar {m : E} {e : Expr} (h : chkE T N sc m e = true) : noStar e = true := by
  cases e <;> first | rfl | (cases m <;> simp only [chkE] at h <;> cases h)
theorem chkEs_noStar : ∀ {m : Es} {es : List Expr}, chkEs T N sc m es = true → es.all noStar = true
  | .nil, [], _ => rfl
  | .nil, _ :: _, h => by simp only [chkEs] at h; cases h
  | .cons e es, [], h => by simp only [chkEs] at h; cases h
  | .cons e es, x :: xs, h => by
    simp only [chkEs, Bool.and_eq_true] at h
    simp only [List.all_cons, Bool.and_eq_true]
    exact ⟨chkE_noStar h.1, chkEs_noStar h.2⟩
theorem chkAs_noStar : ∀ {m : As} {es : List Expr}, chkAs T N sc m es = true → es.all noStar = true
  | .nil, [], _ => rfl
  | .nil, _ :: _, h => by simp only [chkAs] at h; cases h
  | .val e es, [], h => by simp only [chkAs] at h; cases h
  | .val e es, x :: xs, h => by
    simp only [chkAs, Bool.and_eq_true] at h
    simp only [List.all_cons, Bool.and_eq_true]
    exact ⟨chkE_noStar h.1, chkAs_noStar h.2⟩
  | .io i es, [], h => by simp only [chkAs] at h; cases h
  | .io i es, x :: xs, h => by
    cases x <;> first | (simp only [chkAs] at h; cases h; done) | skip
    simp only [chkAs, Bool.and_eq_true] at h
    simp only [List.all_cons, Bool.and_eq_true]
    exact ⟨rfl, chkAs_noStar h.2⟩
end
end Qh

/-! Expressions: the machine does what the interpreter says. -/
namespace Qh
open PySem PySem.Spec PyProof.Rows L2 PySem.W
def globD (T : Tab) (g : Nat) : Option D := (T.globs[g]?).map (·.2)
/-- a dict of the written part, its keys texts, its values ints -/
def GDok (K : PySem.W.Frag) (w : World) (mg : Str → Option Value) (x : Str) (ks vs : List D) : Prop := ∃ a es n, mg x = some (.ref a) ∧ KDict K w a es n ∧ ∀ z : Str, match dFind (hitS z) ks vs with
  | some d => ∃ i u, d = .int i ∧ PySem.W.nsIn K a z = some (some u) ∧ RelV (.int i) u
  | none => PySem.W.nsIn K a z = some none
/-- no dict -/
def noD : D → Bool
  | .dct _ _ => false
  | _ => true
/-- what the written part says of the table's names -/
structure Facts (T : Tab) (K : PySem.W.Frag) (w : World) (mg : Str → Option Value) (fa : Nat → Addr) (fd : Nat → FuncData) : Prop where
  fn : ∀ (f : Nat) (i : FnI), T.fns[f]? = some i → i.at_ = none → mg i.name = some (.ref (fa f)) ∧ PySem.W.keepIn K (.ref (fa f)) = true
  bnd : ∀ (f : Nat) (i : FnI), T.fns[f]? = some i → Binds K (fd f) (i.N.take i.ps) []
  mt : ∀ (f : Nat) (i : FnI) (c : Str), T.fns[f]? = some i → i.at_ = some c → Cls K (He.ga K c) ∧ (i.name = "__init__" → Mk K (He.ga K c) (fa f) ∧ mg c = some (.ref (He.ga K c))) ∧ (i.name ≠ "__init__" → Meth K (He.ga K c) i.name (fa f))
  fld : ∀ c f : Str, T.flds.contains (c, f) = true → Cls K (He.ga K c) ∧ NoAttr K (He.ga K c) f
  gdct : ∀ (g : Nat) (x : Str) (ks vs : List D), T.globs[g]? = some (x, .dct ks vs) → GDok K w mg x ks vs
  glob : ∀ (g : Nat) (x : Str) (d : D), T.globs[g]? = some (x, d) → noD d = true → ∃ u v, mg x = some u ∧ RelV v u ∧ ∀ F H, VR K F H d v
  blt : ∀ x, T.blts.contains x = true → mg x = none
/-- a call: the arguments' values by the interpreter, its answer -/
def spF (K : PySem.W.Frag) (exc : Nat → Addr) (run : Run) (f : Nat) : Sp := fun vs H Q E => ∃ F M xs, Rel K F M xs (vs.map some) H ∧ match run f xs with
  | .ok d outs => ∀ v H', Ex M H H' → Rel K F M outs (vs.map some) H' → VR K F H' d v → Q v H'
  | .exc x outs => ∀ cls dd H', Ex M H H' → Rel K F M outs (vs.map some) H' → ExcR exc x cls dd H' → E cls dd H'
  | .bad => False
/-- what the written part says of the classes of exceptions -/
structure ExK (T : Tab) (K : PySem.W.Frag) (mg : Str → Option Value) (exc : Nat → Addr) : Prop where
  made : ∀ (c : Nat) (x : Str), T.excs[c]? = some x → mg x = some (.ref (exc c)) ∧ PySem.W.keepIn K (.ref (exc c)) = true ∧ PySem.W.excIn K (exc c) He.veBase "ValueError.__new__" = true ∧ PySem.W.subIn K (.ref (exc c)) (.type "BaseException") = some true ∧ PySem.W.typeIn K (.ref (exc c)) = some (.type "type")
  isi : ∀ (c d : Nat) (x y : Str), T.excs[c]? = some x → T.excs[d]? = some y → ExcC K (exc c) ∧ PySem.W.kitOne K (.ref (exc c)) (.ref (exc d)) = some (decide (c = d) || decide (d = 0))
  exm : ∀ (c : Nat) (x y : Str), T.excs[c]? = some x → T.excs[0]? = some y → PySem.W.exmOne K (.ref (exc c)) (.ref (exc 0)) = some true
/-- an except clause's answer against the text -/
def isiB (T : Tab) (sg : Scope) (y : Str) (c : Nat) : Expr → Bool
  | .Call (.Name f _) [.Name z _, .Name x _] [] _ => (decide (f = "isinstance") && (glB sg f && T.blts.contains f)) && (decide (z = y) && (glB sg x && decide (T.excs[c]? = some x)))
  | _ => false
def ctB : Ct → Const → Bool
  | .bl b, .bool c => b == c
  | .str s, .str t => decide (s = t)
  | _, _ => false
def heB (T : Tab) (sg : Scope) (y : Str) : HE → Expr → Bool
  | .cst d, .Constant c _ _ => ctB d c
  | .isi c, e => isiB T sg y c e
  | .ife c a b, .IfExp t u v _ => isiB T sg y c t && (heB T sg y a u && heB T sg y b v)
  | _, _ => false
/-- a def that calls what it gets within a try -/
def gdB (T : Tab) (g : Gd) (a y : Str) (sg : Scope) : List Stmt → Bool
  | [.Try [.Expr (.Call (.Name a' _) [] [] _) _] [.ExceptHandler (some (.Name q _)) (some y') [.Return (some h) _] _] [] [] _, .Return (some (.Constant c _ _)) _] =>
    ((decide (a' = a) && decide (y' = y)) && (glB sg q && decide (T.excs[0]? = some q))) && (heB T sg y g.hnd h && ctB g.dfl c)
  | _ => false
structure GdOk (T : Tab) (K : PySem.W.Frag) (mg : Str → Option Value) (g : Gd) : Prop where
  ex : ∃ (f : Addr) (fd : FuncData) (st : Stmt) (a y : Str), mg g.name = some (.ref f) ∧ PySem.W.keepIn K (.ref f) = true ∧ FunD K g.name g.name (defArgs st) (defBody st) (defScope st) [] [] f fd ∧ Binds K fd [a] [] ∧
    (gdB T g a y (defScope st) (defBody st) = true ∧ FnScope [a, y] [a] (defScope st) ∧ (defScope st).names.lookup y = some .local ∧ Vis (defScope st) a ∧ (a == ("__debug__" : Str)) = false ∧ (a == ("__classdict__" : Str)) = false ∧ (y == ("__debug__" : Str)) = false ∧ (y == ("__classdict__" : Str)) = false) ∧ ∀ b ∈ T.blts, mg b = none
/-- the law's code object -/
def lawC (K : PySem.W.Frag) : Addr := (He.cT K ("law", none)).1
structure CtxOk (T : Tab) (fa : Nat → Addr) (fd : Nat → FuncData) (exc : Nat → Addr) (run : Run) (n : Nat) (N : List Str) (W : WX) (sc : Scope) (X : Cx) : Prop where
  nm : X.N = N
  nd : N.Nodup
  sc : X.env.scope = sc
  calm : X.calm = true
  room : Room (4 * n + 1) X.A
  tk : Takes X W
  facts : Facts T X.K X.w X.mg fa fd
  ok : ∀ (f : Nat) (i : FnI), T.fns[f]? = some i → FnOk X.prog X.w X.K X.mg X.base (L2.CX X.prog X.w) (4 * n) (fa f) (fd f) (i.N.take i.ps) (spF X.K exc run f)
  exk : ExK T X.K X.mg exc
  gdk : ∀ g ∈ T.gds, GdOk T X.K X.mg g
  lamOk : T.lam = true → lamN X.env.scope = true → LamX.TabB X.base X.mg (lawC X.K) (tabP X.K) ∧ X.env.code = .ref (lawC X.K) ∧ X.env.qual ++ "<lambda>" = lamQ ∧ Room (4 * n + 3) X.A
section
variable {T : Tab} {fa : Nat → Addr} {fd : Nat → FuncData} {exc : Nat → Addr} {run : Run} {n : Nat} {N : List Str} {W : WX} {sc : Scope} {X : Cx}
theorem CtxOk.room0 (C : CtxOk T fa fd exc run n N W sc X) : Room (4 * n) X.A := C.room.mono (by omega)
theorem CtxOk.hu (C : CtxOk T fa fd exc run n N W sc X) : X.A.units + 64 < cLine := C.room.units
theorem CtxOk.vis (C : CtxOk T fa fd exc run n N W sc X) {x : Str} (h : Vis sc x) : Vis X.env.scope x := by rw [C.sc]; exact h
theorem CtxOk.gl (C : CtxOk T fa fd exc run n N W sc X) {x : Str} (h : sc.names.lookup x = some .globalImplicit) : Gl X x := by
  show X.env.scope.names.lookup x = _
  rw [C.sc]; exact h
theorem _root_.L2.PE.qimp {X : Cx} {e : Expr} {t t' : TE} (h : PE X e t) (i : ∀ σ H Q, t' σ H Q → t σ H Q) : PE X e t' := ⟨fun pins s σ H Q I q => h.run pins s σ H Q I (i σ H Q q)⟩
theorem _root_.L2.PT.qimp {X : Cx} {e : Expr} {t t' : TT} (h : PT X e t) (i : ∀ σ H Q, t' σ H Q → t σ H Q) : PT X e t' := ⟨fun pins s σ H Q I q => h.run pins s σ H Q I (i σ H Q q)⟩
theorem _root_.L2.PA.qimp {X : Cx} {e : List Expr} {t t' : TA} (h : PA X e t) (i : ∀ σ H Q, t' σ H Q → t σ H Q) : PA X e t' := ⟨fun pos pins s σ H Q I q => h.run pos pins s σ H Q I (i σ H Q q)⟩
theorem _root_.L2.PO.qimp {X : Cx} {e : Option Expr} {t t' : TO} (h : PO X e t) (i : ∀ σ H Q, t' σ H Q → t σ H Q) : PO X e t' := ⟨fun pins s σ H Q I q => h.run pins s σ H Q I (i σ H Q q)⟩
theorem PE.nameVar (C : CtxOk T fa fd exc run n N W sc X) {i : Nat} {x : Str} {pos : Pos} (h : nameB N sc i x = true) : PE X (.Name x pos) (tVar i) := by
  unfold nameB at h
  simp only [Bool.and_eq_true, decide_eq_true_eq] at h
  obtain ⟨v, h1, h2⟩ := vis_of h.2
  exact pe_var (by rw [C.nm]; exact h.1) (C.vis v) h1 h2

/-! ### the rules, one by one, over the transformers -/
section
variable {G : Nat → Option D}
theorem sim_bin (C : CtxOk T fa fd exc run n N W sc X) {op : BO} {a b : E} {l r : Expr} {pos : Pos} (na : isBor a = false) (nb : isBor b = false) (ha : PE X l ((tE X.K exc W G run) a)) (hb : PE X r ((tE X.K exc W G run) b)) : PE X (.BinOp l op.py r pos) ((tE X.K exc W G run) (.bin op a b)) := by
  refine (pe_op (op_B op) ha hb).qimp fun σ H Q h => ?_
  obtain ⟨F, M, env, rl, p⟩ := h
  simp only [evE] at p
  refine ⟨F, M, env, rl, p.bind fun x e1 v H1 _ ex1 rl1 hx p1 => ⟨F, M, e1, rl1, p1.bind fun y e2 w H2 _ ex2 rl2 hy p2 => ?_⟩⟩
  obtain ⟨d, ed, p3⟩ := p2.opt
  exact bin_ok ed ((hx.ext ex2 rl1.sub).vr na) (hy.vr nb) rl2.fresh (p3.pval rfl rl2)
theorem sim_cmp (C : CtxOk T fa fd exc run n N W sc X) {op : CO} {a b : E} {l r : Expr} {pos : Pos} (hr : noSet r = true) (ha : PE X l ((tE X.K exc W G run) a)) (hb : PE X r ((tE X.K exc W G run) b)) : PE X (.Compare l [op.py] [r] pos) ((tE X.K exc W G run) (.cmp op a b)) := by
  refine (pe_cmpR (op_C C.hu op) ha hb (noSet_mark hr)).qimp fun σ H Q h => ?_
  obtain ⟨F, M, env, rl, p⟩ := h
  simp only [evE] at p
  refine ⟨F, M, env, rl, p.bind fun x e1 v H1 _ ex1 rl1 hx p1 => ⟨F, M, e1, rl1, p1.bind fun y e2 w H2 _ ex2 rl2 hy p2 => ?_⟩⟩
  obtain ⟨d, ed, p3⟩ := p2.opt
  obtain ⟨k, ek, rfl⟩ := Option.map_eq_some_iff.mp ed
  unfold rd2 at ek
  split at ek
  · rename_i x' y' q1 q2
    exact cmp_ok ek (hx.use ex2 rl2 q1 rl2.sub) (hy.use (Ex.refl M H2) rl2 q2 rl2.sub) (p3.here rl2 (by simp only [VX, VR]))
  · cases ek
theorem sim_cmpT (C : CtxOk T fa fd exc run n N W sc X) {op : CO} {a b : E} {l r : Expr} {pos : Pos} (hr : noSet r = true) (ha : PE X l ((tE X.K exc W G run) a)) (hb : PE X r ((tE X.K exc W G run) b)) : PT X (.Compare l [op.py] [r] pos) ((tT X.K exc W G run) (.cmp op a b)) := by
  refine (pt_cmpR (op_C C.hu op) ha hb (noSet_mark hr)).qimp fun σ H Q h => ?_
  obtain ⟨F, M, env, rl, p⟩ := h
  simp only [evE, bind_assoc] at p
  refine ⟨F, M, env, rl, p.bind fun x e1 v H1 _ ex1 rl1 hx p1 => ⟨F, M, e1, rl1, p1.bind fun y e2 w H2 _ ex2 rl2 hy p2 => ?_⟩⟩
  cases ed : (rd2 a b x y e2 (opCmp op)) with
  | none => rw [ed] at p2; exact p2.elim
  | some k =>
    rw [ed] at p2
    unfold rd2 at ed
    split at ed
    · rename_i x' y' q1 q2
      exact cmp_ok ed (hx.use ex2 rl2 q1 rl2.sub) (hy.use (Ex.refl M H2) rl2 q2 rl2.sub) ⟨k, rfl, Post.here (a := k) (R := fun (d : Bool) b _ => d = b) p2 rl2 rfl⟩
    · cases ed
theorem chain_core (C : CtxOk T fa fd exc run n N W sc X) {op op' : CO} {a b c : E} (na : isBor a = false) (nb : isBor b = false) (nc : isBor c = false) {σ : SS} {H : Hp} {F M : AS} {env : En} {Z : V → Hp → Prop} (rl : Rel X.K F M env σ H)
    {α γ : Type} {kk : D → En → Res γ} {R' : γ → α → Hp → Prop} {Q' : α → Hp → Prop} (p : Post X.K exc W F M σ H R' ((evE G run (.chn op op' a b c) env).bind kk) Q')
    (fin : ∀ k H2 env', Rel X.K F M env' σ H2 → Post X.K exc W F M σ H2 R' (kk (.bl k) env') Q' → Z (.bl k) H2) :
    (tE X.K exc W G run) a σ H fun x H1 => (tE X.K exc W G run) b σ H1 fun y H2 => rC X.K op x y H2 fun z H3 => ∃ k, z = .bl k ∧ if k = true then (tE X.K exc W G run) c σ H3 fun w H4 => rC X.K op' y w H4 Z else Z (.bl false) H3 := by
  simp only [evE, bind_assoc] at p
  refine ⟨F, M, env, rl, p.bind fun x e1 v H1 _ ex1 rl1 hx p1 => ⟨F, M, e1, rl1, p1.bind fun y e2 w H2 _ ex2 rl2 hy p2 => ?_⟩⟩
  cases q : opCmp op x y with
  | none => rw [q] at p2; exact p2.elim
  | some k =>
    rw [q] at p2
    refine cmp_ok (F := F) (M := M) q (.inl ((hx.ext ex2 rl1.sub).vr na)) (.inl (hy.vr nb)) ⟨k, rfl, ?_⟩
    cases k with
    | false => exact fin false H2 e2 rl2 p2
    | true =>
      show (tE X.K exc W G run) c σ H2 _
      simp only [bind_assoc] at p2
      refine ⟨F, M, e2, rl2, p2.bind fun z e3 u H3 _ ex3 rl3 hz p3 => ?_⟩
      cases ed : opCmp op' y z with
      | none => rw [ed] at p3; exact p3.elim
      | some k' =>
        rw [ed] at p3
        exact cmp_ok (F := F) (M := M) ed (.inl ((hy.ext ex3 rl2.sub).vr nb)) (.inl (hz.vr nc)) (fin k' H3 e3 rl3 p3)
theorem bind_ok {α : Type} (r : Res α) : r.bind Res.ok = r := by cases r <;> rfl
theorem sim_and (C : CtxOk T fa fd exc run n N W sc X) {a b : E} {x y : Expr} {rest : List Expr} {pos : Pos} (na : isBor a = false) (nb : isBor b = false) (ha : PE X x ((tE X.K exc W G run) a)) (hb : PE X (.BoolOp .And (y :: rest) pos) ((tE X.K exc W G run) b)) : PE X (.BoolOp .And (x :: y :: rest) pos) ((tE X.K exc W G run) (.and a b)) := by
  refine (pe_and ha hb).qimp fun σ H Q h => ?_
  obtain ⟨F, M, env, rl, p⟩ := h
  simp only [evE] at p
  refine ⟨F, M, env, rl, p.bind fun x e1 v H1 q1 ex1 rl1 hx p1 => ?_⟩
  clear q1
  have hv := hx.vr na
  cases x <;> try exact p1.elim
  rename_i k
  cases hv.blI
  refine ⟨k, rfl, ?_⟩
  cases k with
  | true => exact ⟨F, M, e1, rl1, by cases b <;> first | exact p1 | cases nb⟩
  | false => exact p1.here rl1 (by simp only [VX, VR])
theorem sim_or (C : CtxOk T fa fd exc run n N W sc X) {a b : E} {x y : Expr} {rest : List Expr} {pos : Pos} (na : isBor a = false) (nb : isBor b = false) (ha : PE X x ((tE X.K exc W G run) a)) (hb : PE X (.BoolOp .Or (y :: rest) pos) ((tE X.K exc W G run) b)) : PE X (.BoolOp .Or (x :: y :: rest) pos) ((tE X.K exc W G run) (.or a b)) := by
  refine (pe_or ha hb).qimp fun σ H Q h => ?_
  obtain ⟨F, M, env, rl, p⟩ := h
  simp only [evE] at p
  refine ⟨F, M, env, rl, p.bind fun x e1 v H1 q1 ex1 rl1 hx p1 => ?_⟩
  clear q1
  have hv := hx.vr na
  cases x <;> try exact p1.elim
  rename_i k
  cases hv.blI
  refine ⟨k, rfl, ?_⟩
  cases k with
  | false => exact ⟨F, M, e1, rl1, by cases b <;> first | exact p1 | cases nb⟩
  | true => exact p1.here rl1 (by simp only [VX, VR])
theorem sim_andT (C : CtxOk T fa fd exc run n N W sc X) {a b : E} {x y : Expr} {rest : List Expr} {pos : Pos} (ha : PT X x ((tT X.K exc W G run) a)) (hb : PW X (.BoolOp .And (y :: rest) pos) ((tT X.K exc W G run) b)) : PW X (.BoolOp .And (x :: y :: rest) pos) ((tT X.K exc W G run) (.and a b)) := by
  refine ⟨fun wh pins s σ H Q I h => (pw_and ha hb).run wh pins s σ H Q I ?_⟩
  obtain ⟨F, M, env, rl, p⟩ := h
  simp only [evE, bind_assoc, onBl_bind] at p
  rw [bind_bool] at p
  refine ⟨F, M, env, rl, p.bind fun x e1 v H1 _ ex1 rl1 hx p1 => ?_⟩
  subst hx
  cases x with
  | true => exact ⟨F, M, e1, rl1, p1⟩
  | false => exact Post.here (a := false) (R := fun (d : Bool) b _ => d = b) p1 rl1 rfl
theorem sim_orT (C : CtxOk T fa fd exc run n N W sc X) {a b : E} {x y : Expr} {rest : List Expr} {pos : Pos} (ha : PT X x ((tT X.K exc W G run) a)) (hb : PW X (.BoolOp .Or (y :: rest) pos) ((tT X.K exc W G run) b)) : PW X (.BoolOp .Or (x :: y :: rest) pos) ((tT X.K exc W G run) (.or a b)) := by
  refine ⟨fun wh pins s σ H Q I h => (pw_or ha hb).run wh pins s σ H Q I ?_⟩
  obtain ⟨F, M, env, rl, p⟩ := h
  simp only [evE, bind_assoc, onBl_bind] at p
  rw [bind_bool] at p
  refine ⟨F, M, env, rl, p.bind fun x e1 v H1 _ ex1 rl1 hx p1 => ?_⟩
  subst hx
  cases x with
  | false => exact ⟨F, M, e1, rl1, p1⟩
  | true => exact Post.here (a := true) (R := fun (d : Bool) b _ => d = b) p1 rl1 rfl
theorem sim_not (C : CtxOk T fa fd exc run n N W sc X) {a : E} {x : Expr} {pos : Pos} (na : isBor a = false) (ha : PE X x ((tE X.K exc W G run) a)) : PE X (.UnaryOp .Not x pos) ((tE X.K exc W G run) (.not a)) := by
  refine (pe_not ha).qimp fun σ H Q h => ?_
  obtain ⟨F, M, env, rl, p⟩ := h
  simp only [evE] at p
  refine ⟨F, M, env, rl, p.bind fun x e1 v H1 q1 ex1 rl1 hx p1 => ?_⟩
  clear q1
  have hv := hx.vr na
  cases x <;> try exact p1.elim
  rename_i k
  cases hv.blI
  refine ⟨k, rfl, ?_⟩
  cases k with
  | true => exact p1.here rl1 (by simp only [VX, VR, Bool.not_true])
  | false => exact p1.here rl1 (by simp only [VX, VR, Bool.not_false])
theorem sim_notT (C : CtxOk T fa fd exc run n N W sc X) {a : E} {x : Expr} {pos : Pos} (ha : PT X x ((tT X.K exc W G run) a)) : PT X (.UnaryOp .Not x pos) ((tT X.K exc W G run) (.not a)) := by
  refine (pt_not ha).qimp fun σ H Q h => ?_
  obtain ⟨F, M, env, rl, p⟩ := h
  simp only [evE, bind_assoc, onBl_bind] at p
  rw [bind_bool] at p
  refine ⟨F, M, env, rl, p.bind fun x e1 v H1 _ ex1 rl1 hx p1 => ?_⟩
  subst hx
  cases x with
  | true => exact Post.here (a := false) (R := fun (d : Bool) b _ => d = b) p1 rl1 rfl
  | false => exact Post.here (a := true) (R := fun (d : Bool) b _ => d = b) p1 rl1 rfl
theorem sim_ife (C : CtxOk T fa fd exc run n N W sc X) {t a b : E} {t' a' b' : Expr} {pos : Pos} (na : isBor a = false) (nb : isBor b = false) (ht : PT X t' ((tT X.K exc W G run) t)) (ha : PE X a' ((tE X.K exc W G run) a)) (hb : PE X b' ((tE X.K exc W G run) b)) : PE X (.IfExp t' a' b' pos) ((tE X.K exc W G run) (.ife t a b)) := by
  refine (pe_ifExp ht ha hb).qimp fun σ H Q h => ?_
  obtain ⟨F, M, env, rl, p⟩ := h
  simp only [evE, bind_bool] at p
  refine ⟨F, M, env, rl, p.bind fun x e1 v H1 _ ex1 rl1 hx p1 => ?_⟩
  subst hx
  cases x with
  | true => exact ⟨F, M, e1, rl1, by cases a <;> first | exact p1 | cases na⟩
  | false => exact ⟨F, M, e1, rl1, by cases b <;> first | exact p1 | cases nb⟩
theorem sim_val {m : E} {e : Expr} (hm : isBor m = false) (h : PE X e ((tE X.K exc W G run) m)) (he : ∀ whole, isTrue e X.env whole = (do let v ← whole; standAt e.pos; holding [v] (truthy v))) : PT X e ((tT X.K exc W G run) m) := by
  refine (pt_val h he).qimp fun σ H Q q => ?_
  obtain ⟨F, M, env, rl, p⟩ := q
  refine ⟨F, M, env, rl, p.bind fun x e1 v H1 q1 ex1 rl1 hx p1 => ?_⟩
  clear q1
  have hv := hx.vr hm
  cases x <;> try exact p1.elim
  rename_i k
  cases hv.blI
  exact ⟨k, rfl, Post.here (a := k) (R := fun (d : Bool) b _ => d = b) p1 rl1 rfl⟩
theorem sim_chn (C : CtxOk T fa fd exc run n N W sc X) {op op' : CO} {a b c : E} {l r r' : Expr} {pos : Pos} (na : isBor a = false) (nb : isBor b = false) (nc : isBor c = false) (hr : noSet r' = true) (ha : PE X l ((tE X.K exc W G run) a)) (hb : PE X r ((tE X.K exc W G run) b)) (hc : PE X r' ((tE X.K exc W G run) c)) :
    PE X (.Compare l [op.py, op'.py] [r, r'] pos) ((tE X.K exc W G run) (.chn op op' a b c)) := by
  refine (pe_chain (op_C C.hu op) (op_C C.hu op') ha hb hc (noSet_mark hr)).qimp fun σ H Q h => ?_
  obtain ⟨F, M, env, rl, p⟩ := h
  rw [← bind_ok (evE _ _ _ _)] at p
  exact chain_core C na nb nc rl p fun k H2 env' rl' p' => p'.here rl' (by simp only [VX, VR])
theorem sim_chnT (C : CtxOk T fa fd exc run n N W sc X) {op op' : CO} {a b c : E} {l r r' : Expr} {pos : Pos} (na : isBor a = false) (nb : isBor b = false) (nc : isBor c = false) (hr : noSet r' = true) (ha : PE X l ((tE X.K exc W G run) a)) (hb : PE X r ((tE X.K exc W G run) b)) (hc : PE X r' ((tE X.K exc W G run) c)) :
    PT X (.Compare l [op.py, op'.py] [r, r'] pos) ((tT X.K exc W G run) (.chn op op' a b c)) := by
  refine (pt_chain (op_C C.hu op) (op_C C.hu op') ha hb hc (noSet_mark hr)).qimp fun σ H Q h => ?_
  obtain ⟨F, M, env, rl, p⟩ := h
  exact chain_core C na nb nc rl p fun k H2 env' rl' p' => ⟨k, rfl, Post.here (a := k) (R := fun (d : Bool) b _ => d = b) p' rl' rfl⟩
end
end
end Qh

/-! Expressions, further: names, displays, items, calls, comprehensions; all of them. -/
namespace Qh
open PySem PySem.Spec PyProof.Rows L2 PySem.W
section
variable {T : Tab} {fa : Nat → Addr} {fd : Nat → FuncData} {exc : Nat → Addr} {run : Run} {n : Nat} {N : List Str} {W : WX} {sc : Scope} {X : Cx}
section
variable {G : Nat → Option D}
theorem sim_var (C : CtxOk T fa fd exc run n N W sc X) {i : Nat} {x : Str} {pos : Pos} (h : nameB N sc i x = true) : PE X (.Name x pos) ((tE X.K exc W G run) (.var i)) := by
  refine (PE.nameVar C h).qimp fun σ H Q h => ?_
  obtain ⟨F, M, env, rl, p⟩ := h
  simp only [evE] at p
  obtain ⟨d, ed, p1⟩ := p.opt
  obtain ⟨v, e, hv⟩ := rl.val ed
  exact ⟨v, e, p1.here rl hv⟩
theorem sim_bor (C : CtxOk T fa fd exc run n N W sc X) {i : Nat} {x : Str} {pos : Pos} (h : nameB N sc i x = true) : PE X (.Name x pos) ((tE X.K exc W G run) (.bor i)) := by
  refine (PE.nameVar C h).qimp fun σ H Q h => ?_
  obtain ⟨F, M, env, rl, p⟩ := h
  simp only [evE] at p
  obtain ⟨d, ed, p1⟩ := p.opt
  obtain ⟨v, e, hv⟩ := rl.bor ed
  exact ⟨v, e, p1.here rl e⟩
theorem sim_cst {d : D} {c : Const} {k : Nat} {pos : Pos} (h : cstB d c = true) : PE X (.Constant c k pos) ((tE X.K exc W G run) (.cst d)) := by
  have key : ∀ v : V, (∀ F H, VR X.K F H d v) → ∀ σ H Q, (tE X.K exc W G run) (.cst d) σ H Q → tC v σ H Q := fun v hv σ H Q h => by
    obtain ⟨F, M, env, rl, p⟩ := h
    simp only [evE] at p
    exact p.here rl (hv F H)
  cases d <;> cases c <;> simp only [cstB] at h <;> try (cases h; done)
  · exact pe_non.qimp (key .non fun _ _ => by simp only [VR])
  · have e := eq_of_beq h
    subst e
    exact pe_bl.qimp (key (.bl _) fun _ _ => by simp only [VR])
  · have e := of_decide_eq_true h
    subst e
    exact pe_int.qimp (key (.int _) fun _ _ => by simp only [VR])
  · have e := of_decide_eq_true h
    subst e
    exact pe_str.qimp (key (.str _) fun _ _ => by simp only [VR])
theorem sim_glo (C : CtxOk T fa fd exc run n N W sc X) {g : Nat} {x y : Str} {d : D} {pos : Pos} (hg : glB sc x = true) (h : T.globs[g]? = some (y, d)) (nd : noD d = true) (e : x = y) : PE X (.Name x pos) (tE X.K exc W (globD T) run (.glo g)) := by
  subst e
  obtain ⟨g1, g2, g3⟩ := gl_of hg
  obtain ⟨u, v, hm, r, hv⟩ := C.facts.glob g x d h nd
  refine (pe_glob (C.gl g1) hm r g2).qimp fun σ H Q h' => ?_
  obtain ⟨F, M, env, rl, p⟩ := h'
  simp only [evE] at p
  obtain ⟨d', ed, p1⟩ := p.opt
  have e2 : d' = d := by
    unfold globD at ed
    rw [h] at ed
    exact (Option.some.inj ed).symm
  subst e2
  exact p1.here rl (hv F H)
theorem sim_es_nil : PA X [] (tEs X.K exc W G run .nil) := pa_nil.qimp fun σ H Q h => by
  obtain ⟨F, M, env, rl, p⟩ := h
  simp only [evEs] at p
  exact p.here rl ⟨rfl, rfl⟩
theorem sim_es_cons {e : E} {es : Es} {x : Expr} {xs : List Expr} (hs : noStar x = true) (ha : PE X x ((tE X.K exc W G run) e)) (hr : PA X xs (tEs X.K exc W G run es)) : PA X (x :: xs) (tEs X.K exc W G run (.cons e es)) := by
  refine (pa_cons ha hr (star_cons hs)).qimp fun σ H Q h => ?_
  obtain ⟨F, M, env, rl, p⟩ := h
  simp only [evEs] at p
  refine ⟨F, M, env, rl, p.bind fun x e1 v H1 _ ex1 rl1 hx p1 => ⟨F, M, e1, rl1, p1.bind fun l e2 w H2 _ ex2 rl2 hl p2 => ?_⟩⟩
  exact p2.here rl2 ⟨x, l, v, w, rfl, rfl, hx.ext ex2 rl1.sub, hl⟩
theorem sim_tup {es : Es} {xs : List Expr} {k : Nat} {pos : Pos} (hb : es.noBor = true) (h : PA X xs (tEs X.K exc W G run es)) : PE X (.Tuple xs k pos) ((tE X.K exc W G run) (.tup es)) := by
  refine (pe_tup h).qimp fun σ H Q q => ?_
  obtain ⟨F, M, env, rl, p⟩ := q
  simp only [evE] at p
  refine ⟨F, M, env, rl, p.bind fun l e1 vs H1 _ ex1 rl1 hl p1 => ?_⟩
  have hv := hl.vrs hb
  split at p1
  · rename_i hz
    exact ⟨by rw [← hv.len]; exact big_line hz, fun a ha => (p1.pval rfl rl1).tup hv ha rl1.fresh⟩
  · exact p1.elim
theorem sim_lst {es : Es} {xs : List Expr} {pos : Pos} (hb : es.noBor = true) (h : PA X xs (tEs X.K exc W G run es)) : PE X (.List xs pos) ((tE X.K exc W G run) (.lst es)) := by
  refine (pe_lst h).qimp fun σ H Q q => ?_
  obtain ⟨F, M, env, rl, p⟩ := q
  simp only [evE] at p
  refine ⟨F, M, env, rl, p.bind fun l e1 vs H1 _ ex1 rl1 hl p1 => ?_⟩
  have hv := hl.vrs hb
  split at p1
  · rename_i hz
    exact ⟨by rw [← hv.len]; exact big_line hz, fun a ha => (p1.pval rfl rl1).lst hv ha rl1.fresh⟩
  · exact p1.elim
theorem sim_ix (C : CtxOk T fa fd exc run n N W sc X) {a i : E} {v s : Expr} {pos : Pos} (hp : plainIx s = true) (ha : PE X v ((tE X.K exc W G run) a)) (hi : PE X s ((tE X.K exc W G run) i)) : PE X (.Subscript v s pos) ((tE X.K exc W G run) (.ix a i)) := by
  refine (pe_ix (ix_D C.hu) ha hi (plainIx_ok hp)).qimp fun σ H Q h => ?_
  obtain ⟨F, M, env, rl, p⟩ := h
  simp only [evE] at p
  refine ⟨F, M, env, rl, p.bind fun x e1 v H1 _ ex1 rl1 hx p1 => ⟨F, M, e1, rl1, p1.bind fun y e2 w H2 _ ex2 rl2 hy p2 => ?_⟩⟩
  obtain ⟨d, ed, p3⟩ := p2.opt
  unfold rd2 at ed
  split at ed
  · rename_i x' y' q1 q2
    exact ix_ok ed (hx.use ex2 rl2 q1 rl2.sub) (hy.use (Ex.refl M H2) rl2 q2 rl2.sub) fun z hz => p3.here rl2 hz
  · cases ed
theorem sim_o_none : PO X none (tOe X.K exc W G run .none) := po_none.qimp fun σ H Q h => by
  obtain ⟨F, M, env, rl, p⟩ := h
  simp only [evO] at p
  exact p.here rl rfl
theorem sim_o_some {e : E} {x : Expr} (hb : isBor e = false) (h : PE X x ((tE X.K exc W G run) e)) : PO X (some x) (tOe X.K exc W G run (.some e)) := (po_some h).qimp fun σ H Q q => by
  obtain ⟨F, M, env, rl, p⟩ := q
  simp only [evO] at p
  refine ⟨F, M, env, rl, p.bind fun x e1 v H1 q1 ex1 rl1 hx p1 => ?_⟩
  clear q1
  have hv := hx.vr hb
  cases x <;> try exact p1.elim
  rename_i k
  cases hv.intI
  exact ⟨k, rfl, Post.here (a := some k) (R := fun (d : Option Int) b _ => d = b) p1 rl1 rfl⟩
theorem sim_sl {a : E} {lo hi : Oe} {v : Expr} {l h : Option Expr} {p2 pos : Pos} (ha : PE X v ((tE X.K exc W G run) a)) (hl : PO X l (tOe X.K exc W G run lo)) (hh : PO X h (tOe X.K exc W G run hi)) : PE X (.Subscript v (.Slice l h none p2) pos) ((tE X.K exc W G run) (.sl a lo hi)) := by
  refine (pe_slice sl_D ha hl hh).qimp fun σ H Q q => ?_
  obtain ⟨F, M, env, rl, p⟩ := q
  simp only [evE] at p
  refine ⟨F, M, env, rl, p.bind fun x e1 v H1 _ ex1 rl1 hx p1 => ⟨F, M, e1, rl1, p1.bind fun y e2 w H2 _ ex2 rl2 hy p2 => ⟨F, M, e2, rl2, p2.bind fun z e3 u H3 _ ex3 rl3 hz p3 => ?_⟩⟩⟩
  subst hy hz
  obtain ⟨d, ed, p4⟩ := p3.opt
  cases q1 : rd a x e3 with
  | none => rw [q1] at ed; cases ed
  | some x' =>
    rw [q1] at ed
    exact sl_ok ed (hx.use (ex2.trans ex3) rl3 q1 rl3.sub) rl3.fresh (p4.pval rfl rl3)
theorem sim_bi (C : CtxOk T fa fd exc run n N W sc X) {b : Bi} {as : Es} {x : Str} {a : Expr} {args : List Expr} {p0 pos : Pos} (hg : glB sc x = true) (hx : x = b.py) (hb : T.blts.contains x = true) (hf : (b.fn.isSome || b.ty.isSome) = true) (hs : (a :: args).all noStar = true)
    (h : PA X (a :: args) (tEs X.K exc W G run as)) : PE X (.Call (.Name x p0) (a :: args) [] pos) ((tE X.K exc W G run) (.bi b as)) := by
  obtain ⟨g1, g2, g3⟩ := gl_of hg
  have hm := C.facts.blt x hb
  simp only [List.all_cons, Bool.and_eq_true] at hs
  have key : PE X (.Call (.Name x p0) (a :: args) [] pos) (tCB (rBi X.K b) (tEs X.K exc W G run as)) := by
    cases q : b.fn with
    | some id => exact pe_callB (call_Bi C.hu C.calm q) (C.gl g1) hm (by rw [hx]; exact boot_Bi q) h g3 g2 (star_cons hs.1) (star_any hs.2)
    | none =>
      cases q2 : b.ty with
      | some id => exact pe_callTy (call_BiT C.calm q2) (C.gl g1) hm (by rw [hx]; exact boot_BiT q2) h g3 g2 (star_cons hs.1) (star_any hs.2)
      | none => rw [q, q2] at hf; cases hf
  refine key.qimp fun σ H Q q => ?_
  obtain ⟨F, M, env, rl, p⟩ := q
  simp only [evE] at p
  refine ⟨F, M, env, rl, p.bind fun l e1 vs H1 _ ex1 rl1 hl p1 => ?_⟩
  obtain ⟨d, ed, p2⟩ := p1.opt
  cases q1 : rds as l e1 with
  | none => rw [q1] at ed; cases ed
  | some l' =>
    rw [q1] at ed
    exact bi_ok ed (hl.use rl1 q1) rl1.fresh (p2.pval rfl rl1)
theorem pe_ty (C : CtxOk T fa fd exc run n N W sc X) {t : Ty} {e : Expr} (h : tyB sc T.blts t e = true) : PE X e (tC (.ty t.py)) ∧ noStar e = true := by
  cases e <;> simp only [tyB] at h <;> try (cases h; done)
  rename_i x pos
  simp only [Bool.and_eq_true, decide_eq_true_eq] at h
  obtain ⟨g1, g2, g3⟩ := gl_of h.2.1
  exact ⟨pe_bltn (C.gl g1) (C.facts.blt x h.2.2) (by rw [h.1]; exact boot_Ty t) rfl g3 g2, rfl⟩
theorem pa_tys (C : CtxOk T fa fd exc run n N W sc X) : ∀ {ts : List Ty} {es : List Expr}, tysB sc T.blts ts es = true → PA X es (fun σ H Q => Q (ts.map fun t => V.ty t.py) H) ∧ es.all noStar = true
  | [], [], _ => ⟨pa_nil, rfl⟩
  | [], _ :: _, h => by simp only [tysB] at h; cases h
  | _ :: _, [], h => by simp only [tysB] at h; cases h
  | t :: ts, e :: es, h => by
    simp only [tysB, Bool.and_eq_true] at h
    obtain ⟨h1, s1⟩ := pe_ty C h.1
    obtain ⟨h2, s2⟩ := pa_tys C h.2
    exact ⟨(pa_cons h1 h2 (star_cons s1)).qimp fun σ H Q q => q, by simp only [List.all_cons, s1, s2, Bool.and_self]⟩
theorem boot_isi : bootBuiltins ("isinstance" : Str) = some (.builtin "isinstance") := by decide +kernel
theorem sim_isi (C : CtxOk T fa fd exc run n N W sc X) {e : E} {ts : List Ty} {x : Str} {a t : Expr} {p0 pos : Pos} (hg : glB sc x = true) (hx : x = "isinstance") (hb : T.blts.contains x = true) (hs : noStar a = true) (nb : isBor e = false) (ha : PE X a ((tE X.K exc W G run) e))
    (ht : (match t with
      | .Tuple es _ _ => decide (ts.length ≤ 10) && tysB sc T.blts ts es
      | .Name _ _ => tysB sc T.blts ts [t]
      | _ => false) = true) : PE X (.Call (.Name x p0) [a, t] [] pos) ((tE X.K exc W G run) (.isi e ts)) := by
  subst hx
  obtain ⟨g1, g2, g3⟩ := gl_of hg
  have hm := C.facts.blt _ hb
  cases t <;> simp only at ht <;> try (cases ht; done)
  · rename_i y p2
    cases ts with
    | nil => simp only [tysB] at ht; cases ht
    | cons t ts' =>
      cases ts' with
      | cons _ _ => simp only [tysB, Bool.and_false] at ht; cases ht
      | nil =>
        simp only [tysB, Bool.and_true] at ht
        obtain ⟨h1, s1⟩ := pe_ty C ht
        have hA := pa_cons ha (pa_cons h1 pa_nil (star_cons s1)) (star_cons hs)
        refine (pe_callB call_isi (C.gl g1) hm boot_isi hA g3 g2 (star_cons hs) (star_any (by simp [s1]))).qimp fun σ H Q q => ?_
        obtain ⟨F, M, env, rl, p⟩ := q
        simp only [evE] at p
        refine ⟨F, M, env, rl, p.bind fun d e1 v H1 _ ex1 rl1 hd p1 => ?_⟩
        have hv : VB X.K F M H1 d v := .inl (hd.vr nb)
        split at p1
        · rename_i hi
          refine ⟨v, _, _, _, _, rfl, .ty _, tyx_of hi hv, kit_D d hi t, ?_⟩
          have e2 : ([t].any fun t => tyOf t d) = tyOf t d := by simp
          rw [e2] at p1
          exact p1.here rl1 (by simp only [VX, VR])
        · exact p1.elim
  · rename_i es k pos2
    simp only [Bool.and_eq_true, decide_eq_true_eq] at ht
    obtain ⟨h1, s1⟩ := pa_tys C ht.2
    have hT : PE X (.Tuple es k pos2) _ := pe_tup h1
    have hA := pa_cons ha (pa_cons hT pa_nil (star_cons rfl)) (star_cons hs)
    refine (pe_callB call_isiT (C.gl g1) hm boot_isi hA g3 g2 (star_cons hs) (star_any rfl)).qimp fun σ H Q q => ?_
    obtain ⟨F, M, env, rl, p⟩ := q
    simp only [evE] at p
    refine ⟨F, M, env, rl, p.bind fun d e1 v H1 _ ex1 rl1 hd p1 => ⟨?_, fun tp htp => ?_⟩⟩
    · rw [List.length_map]; exact big_line (Nat.le_trans ht.1 (by decide))
    · have hv : VB X.K F M (upd H1 tp (.tup (ts.map fun t => V.ty t.py))) d v := .inl ((hd.vr nb).ext (Ext.new htp) rl1.sub)
      split at p1
      · rename_i hi
        refine ⟨v, tp, _, _, _, _, rfl, upd_same, clsv_tys ts, tyx_of hi hv, kit_any hi ts, ?_⟩
        exact p1 _ _ (Ext.new (M := NoM) htp).exM (rl1.ext (Ext.new (M := NoM) htp).ex) (by simp only [VX, VR])
      · exact p1.elim
end
theorem few_1 {e : Expr} {env : Env} {cpos : Pos} (h : noStar e = true) : ((backTo cpos (starEach [e] env)).all (fun x => !x.1) && (backToKw cpos (keywordEach [] env)).all (fun x => x.1.isSome)
      && decide ([e].length + ([] : List Keyword).length + (if ([] : List Keyword).isEmpty then 0 else 1) < 30)) = true := by
  rw [star_cons h]
  rfl
theorem VRs.one {K : PySem.W.Frag} {F : AS} {H : Hp} {ds : List D} {v : V} (h : VRs K F H ds [v]) : ∃ d, ds = [d] ∧ VR K F H d v := by
  cases ds with
  | nil => simp only [VRs] at h; cases h
  | cons d r =>
    obtain ⟨v', r', e, h1, h2⟩ := h.cons_inv
    cases e
    cases r with
    | nil => exact ⟨d, rfl, h1⟩
    | cons _ _ => obtain ⟨_, _, e, _⟩ := h2.cons_inv; cases e
theorem VRs.strs {K : PySem.W.Frag} {F : AS} {H : Hp} : ∀ ys : List Str, VRs K F H (ys.map D.str) (ys.map V.str)
  | [] => VRs.nil_iff.mpr rfl
  | y :: ys => .cons_mk (by simp only [VR]) (VRs.strs ys)
theorem opMe_split {z : Str} {l : List D} {d : D} (h : opMe .split (.str z) l = some d) : ∃ b, l = [.str b] ∧ b.length ≠ 0 ∧ z.length ≤ 50000 ∧ d = .lst ((Txt.split z b).map .str) := by
  rcases l with _ | ⟨x, _ | ⟨_, _⟩⟩
  · cases h
  · cases x <;> try (cases h; done)
    rename_i b
    have h : (if decide (b.length ≠ 0) && decide (z.length ≤ 50000) then some (D.lst ((Txt.split z b).map .str)) else none) = some d := h
    split at h
    · rename_i hb
      simp only [Bool.and_eq_true, decide_eq_true_eq] at hb
      exact ⟨b, rfl, hb.1, hb.2, (Option.some.inj h).symm⟩
    · cases h
  · cases x <;> cases h
theorem opMe_count {l : List D} {xs : List D} {d : D} (h : opMe .count (.lst l) xs = some d) : ∃ x, xs = [x] ∧ eqOk x (.tup l) = true ∧ d = .int (countD x l) := by
  rcases xs with _ | ⟨x, _ | ⟨_, _⟩⟩
  · cases h
  · have h : (if eqOk x (.tup l) then some (D.int (countD x l)) else none) = some d := h
    split at h
    · rename_i he
      exact ⟨x, rfl, he, (Option.some.inj h).symm⟩
    · cases h
  · cases h
theorem count_py (x : D) : ∀ l : List D, (D.pys l).countP (fun y => PyData.eqv y x.py) = countD x l
  | [] => rfl
  | a :: l => by
    unfold countD
    simp only [D.pys, List.countP_cons, count_py x l]
    rfl
theorem sim_count (C : CtxOk T fa fd exc run n N W sc X) {o : E} {as : Es} {ov a : Expr} {ap pos : Pos} (hl : (ap.endLine == pos.line) = true) (hb : mb ov = true) (no : isBor o = false) (na : as.noBor = true) (hs : noStar a = true)
    (ho : PE X ov (tE X.K exc W G run o)) (ha : PA X [a] (tEs X.K exc W G run as)) : PE X (.Call (.Attribute ov "count" ap) [a] [] pos) (tE X.K exc W G run (.me .count o as)) := by
  refine (pe_bm PySem.F.plainAttrs_list PySem.F.slot_list_count PySem.F.type_list_count (mt_countD C.hu) ho ha (mb_ok hb) (few_1 hs) hl (star_cons hs) rfl).qimp fun σ H Q q => ?_
  obtain ⟨F, M, env, rl, p⟩ := q
  simp only [evE] at p
  refine ⟨F, M, env, rl, p.bind fun x e1 v H1 q1 ex1 rl1 hx p1 => ?_⟩
  clear q1
  have hx := hx.vr no
  have ex : ∃ l, x = .lst l := by
    cases x <;> first | exact p1.elim | exact ⟨_, rfl⟩
  obtain ⟨l, rfl⟩ := ex
  obtain ⟨p0, ws, rfl, t, r⟩ := hx.lstL
  refine ⟨.inl ⟨rfl, ws, .of t⟩, F, M, e1, rl1, Post.bind (k := fun l' e2 => opt ((rd o (.lst l) e2).bind fun x => opMe .count x l') e2) p1 fun l' e2 vs H2 q2 ex2 rl2 hv p2 => ?_⟩
  clear q2
  obtain ⟨d, ed, p3⟩ := p2.opt
  have hvs := VXs.vrs na hv
  have erd : rd o (.lst l) e2 = some (.lst l) := by cases o <;> first | rfl | cases no
  rw [erd] at ed
  simp only [Option.bind_some] at ed
  obtain ⟨x, rfl, he, rfl⟩ := opMe_count ed
  obtain ⟨u, r', rfl, h2, h3⟩ := hvs.cons_inv
  have h4 := VRs.nil_iff.mp h3
  subst h4
  obtain ⟨m, n', e1', e2', z1, z2⟩ := eqOk_inv he
  obtain ⟨p1', ws', ea, t', r2⟩ := (hx.ext ex2.toExt rl1.sub).lstL
  cases ea
  simp only [D.dep] at e2'
  obtain ⟨k, hk, hk2⟩ := Option.map_eq_some_iff.mp e2'
  refine ⟨p0, u, x.py, D.pys l, ws', rfl, rfl, .of t', VR.dp x u m e1' h2, VRs.dp l ws' k hk r2, D.plain_py x m e1', D.plain_pys l k hk, Nat.le_trans (D.depth_py x m e1') z1, Nat.le_trans (D.depth_pys l k hk) (by omega), ?_⟩
  rw [count_py]
  exact p3.here rl2 (by simp only [VX, VR])
theorem allStrs_vs {K : PySem.W.Frag} {F : AS} {H : Hp} : ∀ {l : List D} {ys : List Str} {vs : List V}, allStrs l = some ys → VRs K F H l vs → vs = ys.map V.str
  | [], ys, vs, h, hv => by
    cases h
    exact VRs.nil_iff.mp hv
  | d :: l, ys, vs, h, hv => by
    cases d <;> try (cases h; done)
    rename_i x
    obtain ⟨zs, hz, rfl⟩ := Option.map_eq_some_iff.mp h
    obtain ⟨v, r, rfl, h1, h2⟩ := hv.cons_inv
    simp only [VR] at h1
    rw [h1, allStrs_vs hz h2]
    rfl
theorem opMe_join {z : Str} {l : List D} {d : D} (h : opMe .join (.str z) l = some d) : ∃ m ys, l = [.lst m] ∧ allStrs m = some ys ∧ (ys.map (·.length)).sum + ys.length * z.length ≤ big ∧ d = .str (Txt.join z ys) := by
  rcases l with _ | ⟨x, _ | ⟨_, _⟩⟩
  · cases h
  · cases x <;> try (cases h; done)
    rename_i m
    have h : ((allStrs m).bind fun ys => if (ys.map (·.length)).sum + ys.length * z.length ≤ big then some (D.str (Txt.join z ys)) else none) = some d := h
    obtain ⟨ys, e1, e2⟩ := Option.bind_eq_some_iff.mp h
    split at e2
    · rename_i hb
      exact ⟨m, ys, rfl, e1, hb, (Option.some.inj e2).symm⟩
    · cases e2
  · cases x <;> cases h
theorem sim_join {o : E} {as : Es} {ov a : Expr} {ap pos : Pos} (hl : (ap.endLine == pos.line) = true) (hb : mb ov = true) (no : isBor o = false) (na : as.noBor = true) (hs : noStar a = true)
    (ho : PE X ov (tE X.K exc W G run o)) (ha : PA X [a] (tEs X.K exc W G run as)) : PE X (.Call (.Attribute ov "join" ap) [a] [] pos) (tE X.K exc W G run (.me .join o as)) := by
  refine (pe_bm PySem.F.plainAttrs_str PySem.F.slot_str_join PySem.F.type_str_join mt_join ho ha (mb_ok hb) (few_1 hs) hl (star_cons hs) rfl).qimp fun σ H Q q => ?_
  obtain ⟨F, M, env, rl, p⟩ := q
  simp only [evE] at p
  refine ⟨F, M, env, rl, p.bind fun x e1 v H1 q1 ex1 rl1 hx p1 => ?_⟩
  clear q1
  have hx := hx.vr no
  have ex : ∃ z, x = .str z := by
    cases x <;> first | exact p1.elim | exact ⟨_, rfl⟩
  obtain ⟨z, rfl⟩ := ex
  simp only [VR] at hx
  subst hx
  refine ⟨rfl, F, M, e1, rl1, Post.bind (k := fun l e2 => opt ((rd o (.str z) e2).bind fun x => opMe .join x l) e2) p1 fun l e2 vs H2 q2 ex2 rl2 hv p2 => ?_⟩
  clear q2
  obtain ⟨d, ed, p3⟩ := p2.opt
  have hvs := VXs.vrs na hv
  have erd : rd o (.str z) e2 = some (.str z) := by cases o <;> first | rfl | cases no
  rw [erd] at ed
  simp only [Option.bind_some] at ed
  obtain ⟨m, ys, rfl, hm, hz, rfl⟩ := opMe_join ed
  obtain ⟨u, r, rfl, h2, h3⟩ := hvs.cons_inv
  have h4 := VRs.nil_iff.mp h3
  subst h4
  obtain ⟨pa, ws, rfl, t, hw⟩ := h2.lstL
  have hws := allStrs_vs hm hw
  subst hws
  refine ⟨z, pa, ys, rfl, rfl, .inl (.of t), ?_, p3.here rl2 (by simp only [VX, VR])⟩
  have := big_line hz
  rw [sizeLine_eq] at this
  exact this
theorem sim_me1 (C : CtxOk T fa fd exc run n N W sc X) {m : Me} {o : E} {as : Es} {ov a : Expr} {nm : Str} {ap pos : Pos} (hn : nm = m.py) (hl : (ap.endLine == pos.line) = true) (hb : mb ov = true) (h1 : m.one = true) (no : isBor o = false) (na : as.noBor = true) (hs : noStar a = true)
    (ho : PE X ov (tE X.K exc W G run o)) (ha : PA X [a] (tEs X.K exc W G run as)) : PE X (.Call (.Attribute ov nm ap) [a] [] pos) (tE X.K exc W G run (.me m o as)) := by
  subst hn
  cases m <;> try (cases h1; done)
  case count => exact sim_count C hl hb no na hs ho ha
  case join => exact sim_join hl hb no na hs ho ha
  refine (pe_bm PySem.F.plainAttrs_str PySem.F.slot_str_split PySem.F.type_str_split mt_split ho ha (mb_ok hb) (few_1 hs) hl (star_cons hs) rfl).qimp fun σ H Q q => ?_
  obtain ⟨F, M, env, rl, p⟩ := q
  simp only [evE] at p
  refine ⟨F, M, env, rl, p.bind fun x e1 v H1 q1 ex1 rl1 hx p1 => ?_⟩
  clear q1
  have hx := hx.vr no
  have ex : ∃ z, x = .str z := by
    cases x <;> first | exact p1.elim | exact ⟨_, rfl⟩
  obtain ⟨z, rfl⟩ := ex
  simp only [VR] at hx
  subst hx
  refine ⟨rfl, F, M, e1, rl1, Post.bind (k := fun l e2 => opt ((rd o (.str z) e2).bind fun x => opMe .split x l) e2) p1 fun l e2 vs H2 q2 ex2 rl2 hv p2 => ?_⟩
  clear q2
  obtain ⟨d, ed, p3⟩ := p2.opt
  have hvs := VXs.vrs na hv
  have erd : rd o (.str z) e2 = some (.str z) := by cases o <;> first | rfl | cases no
  rw [erd] at ed
  simp only [Option.bind_some] at ed
  obtain ⟨b, rfl, hb1, hb2, rfl⟩ := opMe_split ed
  obtain ⟨u, r, rfl, h2, h3⟩ := hvs.cons_inv
  have h4 := VRs.nil_iff.mp h3
  subst h4
  simp only [VR] at h2
  subst h2
  refine ⟨_, _, rfl, rfl, beq_eq_false_iff_ne.mpr hb1, ?_, fun l hl => ?_⟩
  · rw [sizeLine_eq]
    omega
  · refine p3 _ _ (Ext.new (M := NoM) hl).exM (rl2.ext (Ext.new hl).ex) ?_
    show VR X.K F _ (.lst _) (.ref l)
    exact VR.new_lst (VRs.strs _) hl (rl2.fresh l hl)
theorem sim_neg {a : E} {x : Expr} {pos : Pos} (na : isBor a = false) (ha : PE X x (tE X.K exc W G run a)) : PE X (.UnaryOp .USub x pos) (tE X.K exc W G run (.neg a)) := by
  refine (pe_un un_neg ha).qimp fun σ H Q h => ?_
  obtain ⟨F, M, env, rl, p⟩ := h
  simp only [evE] at p
  refine ⟨F, M, env, rl, p.bind fun x e1 v H1 q1 ex1 rl1 hx p1 => ?_⟩
  clear q1
  have hv := hx.vr na
  cases x <;> try exact p1.elim
  rename_i k
  cases hv.intI
  exact ⟨k, rfl, p1.here rl1 (by simp only [VX, VR])⟩
theorem isDct_inv {o : Option D} (h : isDct o = true) : ∃ ks vs, o = some (.dct ks vs) ∧ allT ks = true := by
  cases o with
  | none => cases h
  | some d => cases d <;> first | exact ⟨_, _, rfl, h⟩ | cases h
theorem opGet_inv {d y z r : D} (h : opGet d y z = some r) : ∃ ks vs o l, d = .dct ks vs ∧ y = .tup l ∧ dVal ks vs (.tup l) = some o ∧ r = o.getD z := by
  unfold opGet at h
  split at h
  · obtain ⟨o, eo, rfl⟩ := Option.map_eq_some_iff.mp h
    exact ⟨_, _, o, _, rfl, rfl, eo, rfl⟩
  · cases h
theorem dValT_ok {K : PySem.W.Frag} {F : AS} {H : Hp} {ks ds : List D} {a : Addr} {l : List D} {y : V} {o : Option D} (h : dVal ks ds (.tup l) = some o) (hd : DctR K F H ks ds a) (hk : VR K F H (.tup l) y) : ∃ ov, OptR K F H o ov ∧ GetX K H a y ov := by
  unfold dVal at h
  simp only at h
  split at h
  · rename_i n hn
    split at h
    · rename_i ht
      cases h
      obtain ⟨xs, t⟩ := hd.t ht
      obtain ⟨_, q1, q2, q3⟩ := keyT_inv hn
      obtain ⟨ov, g1, g2⟩ := t.al.find n
      obtain ⟨b, vs, rfl, _⟩ := hk.tupT
      exact ⟨ov, g1, xs, n, b, t.dx, rfl, VR.keyV _ _ _ q1 hk, q3, g2⟩
    · cases h
  · cases h
theorem sim_get (C : CtxOk T fa fd exc run n N W sc X) {o k x : E} {ov a b : Expr} {nm : Str} {ap pos : Pos} (hn : nm = "get") (hl : (ap.endLine == pos.line) = true) (hb : mb ov = true) (nk : isBor k = false) (nx : isBor x = false) (hsa : noStar a = true) (hsb : noStar b = true)
    (ho : PE X ov (tE X.K exc W G run o)) (hk : PE X a (tE X.K exc W G run k)) (hx : PE X b (tE X.K exc W G run x)) : PE X (.Call (.Attribute ov nm ap) [a, b] [] pos) (tE X.K exc W G run (.get o k x)) := by
  subst hn
  have hm : M2 X ov "get" ap a b pos := ⟨mb_ok hb, by rw [star_cons hsa, star_cons hsb]; rfl, hl, by rw [star_cons hsa, star_cons hsb]; rfl⟩
  refine (pe_xget2 C.hu ho hk hx hm).qimp fun σ H Q q => ?_
  obtain ⟨F, M, env, rl, p⟩ := q
  simp only [evE] at p
  refine ⟨F, M, env, rl, p.bind fun d e1 v H1 q1 ex1 rl1 hd p1 => ?_⟩
  clear q1
  split at p1
  · rename_i hdc
    obtain ⟨ks0, vs0, er, ht⟩ := isDct_inv hdc
    obtain ⟨a0, rfl, r0⟩ := (hd.use (Ex.refl M H1) rl1 er rl1.sub).dctL
    obtain ⟨xs, t⟩ := r0.t ht
    refine ⟨a0, xs, rfl, t.dx, F, M, e1, rl1, p1.bind fun y e2 u H2 _ ex2 rl2 hy p2 => ⟨F, M, e2, rl2, p2.bind fun z e3 w H3 _ ex3 rl3 hz p3 => ?_⟩⟩
    obtain ⟨r, er, p4⟩ := p3.opt
    cases q1 : rd o d e3 with
    | none => rw [q1] at er; cases er
    | some d' =>
      rw [q1] at er
      obtain ⟨ks, vs, ov', l, rfl, rfl, e5, rfl⟩ := opGet_inv (show opGet d' y z = some r from er)
      obtain ⟨a1, ea, r1⟩ := (hd.use (ex2.trans ex3) rl3 q1 rl3.sub).dctL
      cases ea
      obtain ⟨ovv, g1, g2⟩ := dValT_ok e5 r1 ((hy.ext ex3 rl2.sub).vr nk)
      refine ⟨ovv, g2, ?_⟩
      cases ov' with
      | none =>
        cases ovv with
        | none => exact p4.here rl3 (hz.vr nx)
        | some _ => exact g1.elim
      | some dd =>
        cases ovv with
        | none => exact g1.elim
        | some vv => exact p4.here rl3 g1
  · exact p1.elim
/-- a name of the written part -/
theorem pe_gd (C : CtxOk T fa fd exc run n N W sc X) {g : Nat} {x : Str} {pos : Pos} (hg : glB sc x = true) (h : dctG T g x = true) : ∃ ks vs a es m, T.globs[g]? = some (x, .dct ks vs) ∧ KDict X.K X.w a es m ∧ PE X (.Name x pos) (tC (.ref a)) ∧
    ∀ z : Str, match dFind (hitS z) ks vs with
      | some d => ∃ i u, d = .int i ∧ PySem.W.nsIn X.K a z = some (some u) ∧ RelV (.int i) u
      | none => PySem.W.nsIn X.K a z = some none := by
  unfold dctG at h
  split at h
  · rename_i y ks vs q
    have e := of_decide_eq_true h
    subst e
    obtain ⟨g1, g2, g3⟩ := gl_of hg
    obtain ⟨a, es, m, hm, kd, hz⟩ := C.facts.gdct g x ks vs q
    exact ⟨ks, vs, a, es, m, q, kd, pe_glob (C.gl g1) hm rfl g2, hz⟩
  · cases h
theorem dValS {ks vs : List D} {z : Str} {o : Option D} (h : dVal ks vs (.str z) = some o) : o = dFind (hitS z) ks vs := by
  unfold dVal at h
  simp only at h
  split at h
  · exact (Option.some.inj h).symm
  · cases h
theorem sim_gin (C : CtxOk T fa fd exc run n N W sc X) {neg : Bool} {g : Nat} {e : E} {l : Expr} {op : CmpOp} {x : Str} {px pos : Pos} (ho : CO.ofNeg neg op = true) (hg : glB sc x = true) (h : dctG T g x = true) (nb : isBor e = false) (he : PE X l (tE X.K exc W (globD T) run e)) :
    PE X (.Compare l [op] [.Name x px] pos) (tE X.K exc W (globD T) run (.gin neg g e)) ∧ PT X (.Compare l [op] [.Name x px] pos) (tT X.K exc W (globD T) run (.gin neg g e)) := by
  obtain ⟨ks, vs, a, es, m, q, kd, pg, hz⟩ := pe_gd (pos := px) C hg h
  have eG : globD T g = some (.dct ks vs) := by unfold globD; rw [q]; rfl
  have key : OpR X (compareOp op) (fun x y H Q => ∃ (z : Str) (r : Option Value), x = .str z ∧ y = .ref a ∧ PySem.W.nsIn X.K a z = some r ∧ Q (.bl (if neg then !r.isSome else r.isSome)) H) := by
    cases neg <;> cases op <;> first | (cases ho; done) | skip
    · exact op_in_kd kd
    · exact op_notIn_kd kd
  have fin : ∀ {z : Str} {o : Option D}, dVal ks vs (.str z) = some o → ∃ r, PySem.W.nsIn X.K a z = some r ∧ r.isSome = o.isSome := fun {z o} eo => by
    have e1 := dValS eo
    have h1 := hz z
    rw [← e1] at h1
    cases o with
    | none => exact ⟨none, h1, rfl⟩
    | some d => obtain ⟨i, u, _, h2, _⟩ := h1; exact ⟨some u, h2, rfl⟩
  have hmark : behindInMarks op (.Name x px) = false := by cases op <;> rfl
  refine ⟨(pe_cmpR key he pg hmark).qimp fun σ H Q h => ?_, (pt_cmpR key he pg hmark).qimp fun σ H Q h => ?_⟩
  · obtain ⟨F, M, env, rl, p⟩ := h
    simp only [evE, eG] at p
    refine ⟨F, M, env, rl, p.bind fun y e1 v H1 q1 ex1 rl1 hy p1 => ?_⟩
    clear q1
    have hv := hy.vr nb
    cases y <;> try exact p1.elim
    rename_i z
    cases hv.strI
    obtain ⟨d, ed, p2⟩ := p1.opt
    obtain ⟨o, eo, rfl⟩ := Option.map_eq_some_iff.mp ed
    obtain ⟨r, h1, h2⟩ := fin eo
    refine ⟨z, r, rfl, rfl, h1, ?_⟩
    rw [h2]
    exact p2.here rl1 (by simp only [VX, VR])
  · obtain ⟨F, M, env, rl, p⟩ := h
    simp only [evE, eG, bind_assoc] at p
    refine ⟨F, M, env, rl, p.bind fun y e1 v H1 q1 ex1 rl1 hy p1 => ?_⟩
    clear q1
    have hv := hy.vr nb
    cases y <;> try exact p1.elim
    rename_i z
    cases hv.strI
    cases eo : dVal ks vs (.str z) with
    | none =>
      have p1 : Post X.K exc W F M σ H1 (fun d b _ => d = b) ((opt ((dVal ks vs (.str z)).map fun o => D.bl (if neg then !o.isSome else o.isSome)) e1).bind asB) Q := p1
      rw [eo] at p1; exact p1.elim
    | some o =>
      have p1 : Post X.K exc W F M σ H1 (fun d b _ => d = b) ((opt ((dVal ks vs (.str z)).map fun o => D.bl (if neg then !o.isSome else o.isSome)) e1).bind asB) Q := p1
      rw [eo] at p1
      obtain ⟨r, h1, h2⟩ := fin eo
      refine ⟨z, r, rfl, rfl, h1, _, rfl, ?_⟩
      rw [h2]
      exact Post.here (a := if neg then !o.isSome else o.isSome) (R := fun (d : Bool) b _ => d = b) p1 rl1 rfl
theorem ix_kd {d : Addr} {es : Array DictEntry} {m : Nat} (D0 : KDict X.K X.w d es m) : IxR X (fun x y H Q => ∃ (z : Str) (u0 : Value) (v0 : V), x = .ref d ∧ y = .str z ∧ PySem.W.nsIn X.K d z = some (some u0) ∧ RelV v0 u0 ∧ Q v0 H) := by
  intro value slice pins s σ H x y v u Q I rx ry h hs
  obtain ⟨z, u0, v0, rfl, rfl, e, r, q⟩ := h
  cases rx
  exact subX (kd_type D0 I) hs (op_item_kd D0 pins s σ H (.ref d) (.str z) _ u Q I rfl ry ⟨z, u0, v0, rfl, rfl, e, r, q⟩)
theorem sim_gix (C : CtxOk T fa fd exc run n N W sc X) {g : Nat} {e : E} {sx : Expr} {x : Str} {px pos : Pos} (hp : plainIx sx = true) (hg : glB sc x = true) (h : dctG T g x = true) (nb : isBor e = false) (he : PE X sx (tE X.K exc W (globD T) run e)) :
    PE X (.Subscript (.Name x px) sx pos) (tE X.K exc W (globD T) run (.gix g e)) := by
  obtain ⟨ks, vs, a, es, m, q, kd, pg, hz⟩ := pe_gd (pos := px) C hg h
  have eG : globD T g = some (.dct ks vs) := by unfold globD; rw [q]; rfl
  refine (pe_ix (ix_kd kd) pg he (plainIx_ok hp)).qimp fun σ H Q h => ?_
  obtain ⟨F, M, env, rl, p⟩ := h
  simp only [evE, eG] at p
  refine ⟨F, M, env, rl, p.bind fun y e1 v H1 q1 ex1 rl1 hy p1 => ?_⟩
  clear q1
  have hv := hy.vr nb
  cases y <;> try exact p1.elim
  rename_i z
  cases hv.strI
  obtain ⟨d, ed, p2⟩ := p1.opt
  obtain ⟨o, eo, e2⟩ := Option.bind_eq_some_iff.mp ed
  have e2 : o = some d := e2
  subst e2
  have h1 := hz z
  rw [← dValS eo] at h1
  obtain ⟨i, u, rfl, h2, h3⟩ := h1
  exact ⟨z, u, .int i, rfl, rfl, h2, h3, p2.here rl1 (by simp only [VX, VR])⟩
end
end Qh

/-! Rules: t[::-1], sorted(set(x)), len(set(x)). -/
namespace Qh
open PySem PySem.Spec PyProof.Rows L2 PySem.W
theorem revArg_ok {e v : Expr} (h : revArg e = some v) : ∃ k p1 p2 p3 pos, e = .Subscript v (.Slice none none (some (.UnaryOp .USub (.Constant (.int 1) k p1) p2)) p3) pos := by
  unfold revArg at h
  split at h
  · cases h
    exact ⟨_, _, _, _, _, rfl⟩
  · cases h
theorem setArg_ok {e v : Expr} {x y : Str} (h : setArg e = some (x, y, v)) : ∃ p p2 q pos, e = .Call (.Name x p) [.Call (.Name y p2) [v] [] q] [] pos := by
  unfold setArg at h
  split at h
  · cases h
    exact ⟨_, _, _, _, rfl⟩
  · cases h
theorem allStrs_inv : ∀ {l : List D} {k : List Str}, allStrs l = some k → l = k.map .str
  | [], k, h => by cases h; rfl
  | d :: r, k, h => by
    cases d <;> try (cases h; done)
    rename_i x
    have h : (allStrs r).map (x :: ·) = some k := h
    obtain ⟨k', e, rfl⟩ := Option.map_eq_some_iff.mp h
    rw [allStrs_inv e, List.map_cons]
theorem ktxD_inv {d : D} {k : List Str} (h : ktxD d = some k) : d = .tup (k.map .str) := by
  cases d <;> try (cases h; done)
  rw [allStrs_inv h]
section
variable {K : PySem.W.Frag} {F : AS} {H : Hp}
theorem strs_vs : ∀ {k : List Str} {vs : List V}, VRs K F H (k.map .str) vs → vs = k.map V.str
  | [], vs, h => VRs.nil_iff.mp h
  | x :: k, vs, h => by
    obtain ⟨v, r, rfl, h1, h2⟩ := h.cons_inv
    rw [strs_vs h2, h1.strI, List.map_cons]
theorem ents_of : ∀ {l : List D} {vs : List V} {ks : List (List Str)}, ktxsD l = some ks → VRs K F H l vs → ∃ E : List (Ent Str), vs = E.map (fun e => V.ref e.1) ∧ E.map Prod.snd = ks ∧ ∀ e ∈ E, SqT K H e.1 (e.2.map V.str) ∧ VR K F H (.tup (e.2.map .str)) (.ref e.1)
  | [], vs, ks, h, r => by
    cases h
    exact ⟨[], VRs.nil_iff.mp r, rfl, fun e he => by cases he⟩
  | d :: l, vs, ks, h, r => by
    unfold ktxsD at h
    split at h
    · rename_i k ks' q1 q2
      cases h
      obtain ⟨v, r', rfl, h1, h2⟩ := r.cons_inv
      obtain ⟨E, e1, e2, e3⟩ := ents_of q2 h2
      have hd := ktxD_inv q1
      subst hd
      obtain ⟨a, ws, rfl, t, h4⟩ := h1.tupT
      rw [strs_vs h4] at t
      refine ⟨(a, k) :: E, by rw [List.map_cons, e1], by rw [List.map_cons, e2], fun e he => ?_⟩
      rcases List.mem_cons.mp he with rfl | he
      · exact ⟨t, h1⟩
      · exact e3 e he
    · cases h
theorem vrs_ents : ∀ (L : List (Ent Str)), (∀ e ∈ L, VR K F H (.tup (e.2.map .str)) (.ref e.1)) → VRs K F H ((L.map Prod.snd).map fun k => .tup (k.map .str)) (L.map fun e => V.ref e.1)
  | [], _ => by simp only [List.map_nil, VRs]
  | e :: L, h => VRs.cons_mk (h e List.mem_cons_self) (vrs_ents L fun e' he' => h e' (List.mem_cons_of_mem _ he'))
end
section
variable {T : Tab} {fa : Nat → Addr} {fd : Nat → FuncData} {exc : Nat → Addr} {run : Run} {n : Nat} {N : List Str} {W : WX} {sc : Scope} {X : Cx} {G : Nat → Option D}
theorem sim_rev {a : E} {e v : Expr} (h : revArg e = some v) (nb : isBor a = false) (ha : PE X v (tE X.K exc W G run a)) : PE X e (tE X.K exc W G run (.rev a)) := by
  obtain ⟨k, p1, p2, p3, pos, rfl⟩ := revArg_ok h
  refine (pe_revT ha).qimp fun σ H Q q => ?_
  obtain ⟨F, M, env, rl, p⟩ := q
  simp only [evE] at p
  refine ⟨F, M, env, rl, p.bind fun x e1 v H1 q1 ex1 rl1 hx p1 => ?_⟩
  clear q1
  have hv := hx.vr nb
  obtain ⟨d, ed, p2⟩ := p1.opt
  cases x <;> try (cases ed; done)
  rename_i l
  cases ed
  obtain ⟨b, ws, rfl, t, r⟩ := hv.tupT
  exact ⟨b, ws, rfl, t, fun p' hp => (p2.pval rfl rl1).tup r.rev hp rl1.fresh⟩
theorem sim_bset (C : CtxOk T fa fd exc run n N W sc X) {b : Bool} {a : E} {e v : Expr} {x y : Str} (h : setArg e = some (x, y, v)) (hx : x = if b = true then "sorted" else "len") (hy : y = "set") (g1 : glB sc x = true) (g2 : glB sc y = true)
    (b1 : T.blts.contains x = true) (b2 : T.blts.contains y = true) (hs : noStar v = true) (nb : isBor a = false) (ha : PE X v (tE X.K exc W G run a)) : PE X e (tE X.K exc W G run (.bset b a)) := by
  obtain ⟨p, p2, q, pos, rfl⟩ := setArg_ok h
  obtain ⟨l1, l2, l3⟩ := gl_of g1
  obtain ⟨m1, m2, m3⟩ := gl_of g2
  have f1 := C.facts.blt x b1
  have f2 := C.facts.blt y b2
  subst hy
  cases b with
  | true =>
    have hx : x = "sorted" := hx
    subst hx
    refine (pe_sortSet C.calm C.hu (C.gl l1) f1 (C.gl m1) f2 ha (by decide +kernel) (star_cons hs)).qimp fun σ H Q q => ?_
    obtain ⟨F, M, env, rl, p⟩ := q
    simp only [evE] at p
    refine ⟨F, M, env, rl, p.bind fun x e1 v H1 q1 ex1 rl1 hx p1 => ?_⟩
    clear q1
    have hv := hx.vr nb
    obtain ⟨d, ed, p2⟩ := p1.opt
    cases x <;> try (cases ed; done)
    rename_i l
    have ed : ((ktxsD l).bind fun ks => if decide (ks.length < 64) && ks.all (fun k => !k.isEmpty) then some (D.lst ((ssK ks).map fun k => .tup (k.map .str))) else none) = some d := ed
    obtain ⟨ks, e2, e3⟩ := Option.bind_eq_some_iff.mp ed
    split at e3
    · rename_i hc
      rw [Bool.and_eq_true, decide_eq_true_eq, List.all_eq_true] at hc
      cases e3
      obtain ⟨b, ws, rfl, t, r⟩ := hv.lstL
      obtain ⟨E, rfl, rfl, hE⟩ := ents_of e2 r
      rw [List.length_map] at hc
      refine ⟨b, E, rfl, .of t, fun e he => (hE e he).1, hc.1, fun e he hn => ?_, fun p' L hp hsub hm => ?_⟩
      · have := hc.2 e.2 (List.mem_map.mpr ⟨e, he, rfl⟩)
        rw [hn] at this
        cases this
      · have hvs := vrs_ents L fun e he => (hE e (hsub e he)).2
        rw [hm] at hvs
        exact (p2.pval rfl rl1).lst hvs hp rl1.fresh
    · cases e3
  | false =>
    have hx : x = "len" := hx
    subst hx
    refine (pe_lenSetS C.calm C.hu (C.gl l1) f1 (C.gl m1) f2 ha (star_cons hs)).qimp fun σ H Q q => ?_
    obtain ⟨F, M, env, rl, p⟩ := q
    simp only [evE] at p
    refine ⟨F, M, env, rl, p.bind fun x e1 v H1 q1 ex1 rl1 hx p1 => ?_⟩
    clear q1
    have hv := hx.vr nb
    obtain ⟨d, ed, p2⟩ := p1.opt
    cases x <;> try (cases ed; done)
    rename_i l
    have ed : ((allStrs l).bind fun xs => if xs.length ≤ 1000 then some (D.int (dxS xs).length) else none) = some d := ed
    obtain ⟨xs, e2, e3⟩ := Option.bind_eq_some_iff.mp ed
    split at e3
    · rename_i hc
      cases e3
      obtain ⟨b, ws, rfl, t, r⟩ := hv.tupT
      have hl := allStrs_inv e2
      subst hl
      rw [strs_vs r] at t
      exact ⟨b, xs, rfl, t, hc, (p2.pval rfl rl1).int⟩
    · cases e3
end
end Qh

/-! Calls. -/
namespace Qh
open PySem PySem.Spec PyProof.Rows L2 PySem.W
theorem slots_mem : ∀ {avs : List AV} {i : Nat}, AV.io i ∈ avs ∨ AV.bo i ∈ avs → i ∈ AV.slots avs
  | [], _, h => by simp at h
  | .dat d :: r, i, h => by
    simp only [AV.slots]
    exact slots_mem (by simpa using h)
  | .bo k :: r, i, h => by
    simp only [AV.slots, List.mem_cons]
    by_cases e : i = k
    · exact .inl e
    · exact .inr (slots_mem (h.imp (fun z => by simpa using z) fun z => by simpa [e] using z))
  | .io k :: r, i, h => by
    simp only [AV.slots, List.mem_cons]
    by_cases e : i = k
    · exact .inl e
    · exact .inr (slots_mem (h.imp (fun z => by simpa [e] using z) fun z => by simpa using z))
theorem slots_io : ∀ {avs : List AV} {i j k : Nat}, (AV.slots avs).Nodup → avs[j]? = some (.io i) → avs[k]? = some (.io i) → j = k
  | [], _, _, _, _, h, _ => by simp at h
  | a :: r, i, 0, 0, _, _, _ => rfl
  | a :: r, i, 0, k + 1, nd, h, h' => by
    simp at h h'; subst h
    simp only [AV.slots, List.nodup_cons] at nd
    exact absurd (slots_mem (.inl (List.mem_of_getElem? h'))) nd.1
  | a :: r, i, j + 1, 0, nd, h, h' => by
    simp at h h'; subst h'
    simp only [AV.slots, List.nodup_cons] at nd
    exact absurd (slots_mem (.inl (List.mem_of_getElem? h))) nd.1
  | a :: r, i, j + 1, k + 1, nd, h, h' => by
    simp at h h'
    have nd' : (AV.slots r).Nodup := by
      cases a <;> simp only [AV.slots, List.nodup_cons] at nd <;> first | exact nd | exact nd.2
    rw [slots_io nd' h h']
theorem slots_iobo : ∀ {avs : List AV} {i : Nat}, (AV.slots avs).Nodup → AV.io i ∈ avs → AV.bo i ∈ avs → False
  | [], _, _, h, _ => by simp at h
  | .dat d :: r, i, nd, h, h' => slots_iobo (avs := r) (i := i) (by simpa only [AV.slots] using nd) (by simpa using h) (by simpa using h')
  | .bo k :: r, i, nd, h, h' => by
    simp only [AV.slots, List.nodup_cons] at nd
    have h1 : AV.io i ∈ r := by simpa using h
    rcases List.mem_cons.mp h' with e | h2
    · cases e; exact nd.1 (slots_mem (.inl h1))
    · exact slots_iobo nd.2 h1 h2
  | .io k :: r, i, nd, h, h' => by
    simp only [AV.slots, List.nodup_cons] at nd
    have h1 : AV.bo i ∈ r := by simpa using h'
    rcases List.mem_cons.mp h with e | h2
    · cases e; exact nd.1 (slots_mem (.inr h1))
    · exact slots_iobo nd.2 h2 h1
theorem putOuts_len : ∀ {avs : List AV} {outs : List Sl} {env e2 : En}, putOuts avs outs env = some e2 → e2.length = env.length
  | [], _, env, e2, h => by simp only [putOuts, Option.some.injEq] at h; rw [h]
  | .io i :: as, [], env, e2, h => by simp only [putOuts] at h; cases h
  | .io i :: as, .non :: ss, env, e2, h => by simp only [putOuts] at h; cases h
  | .io i :: as, .dat _ :: ss, env, e2, h => by simp only [putOuts] at h; cases h
  | .io i :: as, .own o :: ss, env, e2, h => by
    simp only [putOuts] at h
    split at h
    · obtain ⟨e3, q, rfl⟩ := Option.map_eq_some_iff.mp h
      rw [List.length_set, putOuts_len q]
    · cases h
  | .dat d :: as, [], env, e2, h => by simp only [putOuts] at h; cases h
  | .dat d :: as, s :: ss, env, e2, h => putOuts_len (avs := as) (outs := ss) (by simpa only [putOuts] using h)
  | .bo d :: as, [], env, e2, h => by simp only [putOuts] at h; cases h
  | .bo d :: as, s :: ss, env, e2, h => putOuts_len (avs := as) (outs := ss) (by simpa only [putOuts] using h)
theorem putOuts_at : ∀ {avs : List AV} {outs : List Sl} {env e2 : En} {i : Nat} {s : Sl}, putOuts avs outs env = some e2 → e2[i]? = some s →
    (env[i]? = some s ∧ AV.io i ∉ avs) ∨ ∃ (j : Nat) (o o' : O), avs[j]? = some (.io i) ∧ outs[j]? = some (Sl.own o) ∧ s = Sl.own o ∧ env[i]? = some (Sl.own o')
  | [], _, env, e2, i, s, h, hs => by
    simp only [putOuts, Option.some.injEq] at h
    subst h
    exact .inl ⟨hs, by simp⟩
  | .io k :: as, [], env, e2, i, s, h, hs => by simp only [putOuts] at h; cases h
  | .io k :: as, .non :: ss, env, e2, i, s, h, hs => by simp only [putOuts] at h; cases h
  | .io k :: as, .dat _ :: ss, env, e2, i, s, h, hs => by simp only [putOuts] at h; cases h
  | .io k :: as, .own o :: ss, env, e2, i, s, h, hs => by
    simp only [putOuts] at h
    split at h
    · rename_i o' ho'
      obtain ⟨e3, q, rfl⟩ := Option.map_eq_some_iff.mp h
      have hk := En.at_of ho' (fun z => nomatch z)
      by_cases e : k = i
      · subst e
        have hl : k < e3.length := by
          rw [putOuts_len q]
          exact (List.getElem?_eq_some_iff.mp hk).1
        rw [List.getElem?_set_self hl] at hs
        exact .inr ⟨0, o, o', rfl, rfl, (Option.some.inj hs).symm, hk⟩
      · rw [List.getElem?_set_ne e] at hs
        rcases putOuts_at q hs with ⟨h1, h2⟩ | ⟨j, p, p', h1, h2, h3, h4⟩
        · exact .inl ⟨h1, fun z => by
            rcases List.mem_cons.mp z with z | z
            · cases z; exact e rfl
            · exact h2 z⟩
        · exact .inr ⟨j + 1, p, p', by simpa using h1, by simpa using h2, h3, h4⟩
    · cases h
  | .dat d :: as, [], env, e2, i, s, h, hs => by simp only [putOuts] at h; cases h
  | .dat d :: as, t :: ss, env, e2, i, s, h, hs => by
    rcases putOuts_at (avs := as) (outs := ss) (by simpa only [putOuts] using h) hs with ⟨h1, h2⟩ | ⟨j, p, p', h1, h2, h3, h4⟩
    · exact .inl ⟨h1, by simpa using h2⟩
    · exact .inr ⟨j + 1, p, p', by simpa using h1, by simpa using h2, h3, h4⟩
  | .bo d :: as, [], env, e2, i, s, h, hs => by simp only [putOuts] at h; cases h
  | .bo d :: as, t :: ss, env, e2, i, s, h, hs => by
    rcases putOuts_at (avs := as) (outs := ss) (by simpa only [putOuts] using h) hs with ⟨h1, h2⟩ | ⟨j, p, p', h1, h2, h3, h4⟩
    · exact .inl ⟨h1, by simpa using h2⟩
    · exact .inr ⟨j + 1, p, p', by simpa using h1, by simpa using h2, h3, h4⟩
section
variable {K : PySem.W.Frag} {F M : AS} {σ : SS} {H H' : Hp}
theorem VA.len : ∀ {avs : List AV} {vs : List V}, VA K F σ avs vs H → avs.length = vs.length
  | [], _, h => by simp only [VA] at h; subst h; rfl
  | a :: as, _, h => by
    simp only [VA] at h
    obtain ⟨v, u, rfl, _, h2⟩ := h
    simp only [List.length_cons, VA.len h2]
theorem VA.at_ : ∀ {avs : List AV} {vs : List V} {j : Nat} {a : AV}, VA K F σ avs vs H → avs[j]? = some a → ∃ v, vs[j]? = some v ∧ (match a with
    | .dat d => VR K F H d v
    | .bo i => σ[i]? = some (some v)
    | .io i => σ[i]? = some (some v))
  | [], _, _, _, _, e => by simp at e
  | b :: as, _, 0, a, h, e => by
    simp only [VA] at h
    obtain ⟨v, u, rfl, h1, _⟩ := h
    simp at e; subst e
    exact ⟨v, rfl, h1⟩
  | b :: as, _, j + 1, a, h, e => by
    simp only [VA] at h
    obtain ⟨v, u, rfl, _, h2⟩ := h
    obtain ⟨w, h3, h4⟩ := VA.at_ (j := j) h2 (by simpa using e)
    exact ⟨w, by simpa using h3, h4⟩
theorem VA.ext : ∀ {avs : List AV} {vs : List V}, VA K F σ avs vs H → Ex M H H' → (∀ a, M a → F a) → VA K F σ avs vs H'
  | [], _, h, _, _ => h
  | a :: as, _, h, ex, s => by
    simp only [VA] at h ⊢
    obtain ⟨v, u, e, h1, h2⟩ := h
    refine ⟨v, u, e, ?_, VA.ext h2 ex s⟩
    cases a with
    | dat d => exact VR.ext h1 ex.toExt s
    | bo i => exact h1
    | io i => exact h1
theorem OR.less {F' : AS} {o : O} {a : Addr} (h : OR K F H o a) (s : ∀ a, F' a → F a) : OR K F' H o a := h.mono (fun _ q => q) (fun _ _ q _ => q) fun a _ _ n z => n (s a z)
theorem OR.notTup {o : O} {a : Addr} (h : OR K F H o a) : NotTup H a := by
  obtain ⟨u, q, z⟩ := h.ownO
  exact ⟨u, q, ownO_tup z⟩
def lent (σ : SS) (env : En) (avs : List AV) : AS := fun a => ∃ (i : Nat) (o : O), AV.bo i ∈ avs ∧ env[i]? = some (Sl.own o) ∧ σ[i]? = some (some (V.ref a))
def given0 (σ : SS) (env : En) (avs : List AV) : AS := fun a => ∃ (i : Nat) (o : O), AV.io i ∈ avs ∧ env[i]? = some (Sl.own o) ∧ σ[i]? = some (some (V.ref a))
/-- what a callee may change: what it is given, and the table -/
def given (K : PySem.W.Frag) (σ : SS) (env : En) (avs : List AV) : AS := fun a => given0 σ env avs a ∨ a = tabP K
theorem Rel.given_sub0 {env : En} (r : Rel K F M env σ H) {avs : List AV} : ∀ a, given0 σ env avs a → M a := fun a ⟨i, o, _, h2, h3⟩ => by
  obtain ⟨b, e, m, _⟩ := r.own i o h2
  rw [h3] at e; cases e
  exact m
theorem Rel.given_sub {env : En} (r : Rel K F M env σ H) {avs : List AV} : ∀ a, given K σ env avs a → M a := fun a z => z.elim (r.given_sub0 a) fun e => by rw [e]; exact r.tabM
theorem Rel.own_ne {env : En} (r : Rel K F M env σ H) {i : Nat} {o : O} {a : Addr} (h : env[i]? = some (Sl.own o)) (hs : σ[i]? = some (some (V.ref a))) : a ≠ tabP K := by
  obtain ⟨b, e, _, k⟩ := r.own i o h
  rw [hs] at e
  cases e
  exact r.tab.ne k.plain
/-- the callee's view of its arguments -/
theorem Rel.args {env : En} (r : Rel K F M env σ H) {avs : List AV} {vs : List V} (nd : (AV.slots avs).Nodup) (hv : VA K F σ avs vs H) :
    Rel K (fun a => F a ∧ ¬ lent σ env avs a) (given K σ env avs) (avs.map (AV.sl env)) (vs.map some) H where
  len := by rw [List.length_map, List.length_map, hv.len]
  dat := fun j d h => by
    rw [List.getElem?_map] at h
    cases q : avs[j]? with
    | none => rw [q] at h; cases h
    | some a =>
      rw [q] at h
      obtain ⟨v, e, k⟩ := hv.at_ q
      refine ⟨v, by rw [List.getElem?_map, e]; rfl, ?_⟩
      cases a with
      | dat x => cases h; exact VR.less k fun a z => z.1
      | bo i =>
        have h2 : AV.sl env (.bo i) = .dat d := Option.some.inj h
        simp only [AV.sl] at h2
        cases q2 : (env.at i).bor with
        | none => rw [q2] at h2; cases h2
        | some x =>
          rw [q2] at h2; cases h2
          cases q3 : env.at i with
          | non => rw [q3] at q2; cases q2
          | dat x => rw [q3] at q2; cases q2
          | own o =>
            rw [q3] at q2
            have h4 := En.at_of q3 (fun z => nomatch z)
            obtain ⟨a, e2, m, k2⟩ := r.own i o h4
            have e3 : σ[i]? = some (some v) := k
            rw [e2] at e3; cases e3
            have k3 : VR K (fun a => F a ∧ ¬ lent σ env avs a) H (O.d o) (.ref a) := (k2.less fun a z => z.1).vr fun z => z.2 ⟨i, _, List.mem_of_getElem? q, h4, e2⟩
            cases o <;> cases q2 <;> exact k3
      | io i =>
        have h2 : env.at i = .dat d := Option.some.inj h
        obtain ⟨u, e2, k2⟩ := r.dat i d (En.at_of h2 (fun z => nomatch z))
        have e3 : σ[i]? = some (some v) := k
        rw [e2] at e3; cases e3
        exact k2.less fun a z => z.1
  own := fun j o h => by
    rw [List.getElem?_map] at h
    cases q : avs[j]? with
    | none => rw [q] at h; cases h
    | some a =>
      rw [q] at h
      obtain ⟨v, e, k⟩ := hv.at_ q
      cases a with
      | dat x => cases h
      | bo i =>
        have h2 : AV.sl env (.bo i) = .own o := Option.some.inj h
        simp only [AV.sl] at h2
        split at h2 <;> cases h2
      | io i =>
        have h2 : env.at i = .own o := Option.some.inj h
        have h4 := En.at_of h2 (fun z => nomatch z)
        obtain ⟨a, e2, m, k2⟩ := r.own i o h4
        have e3 : σ[i]? = some (some v) := k
        rw [e2] at e3; cases e3
        exact ⟨a, by rw [List.getElem?_map, e]; rfl, .inl ⟨i, o, List.mem_of_getElem? q, h4, e2⟩, k2.less fun a z => z.1⟩
  apart := fun j k o o' a h h' hs hs' => by
    have key : ∀ (j : Nat) (o : O), (avs.map (AV.sl env))[j]? = some (Sl.own o) → (vs.map some)[j]? = some (some (V.ref a)) → ∃ i, avs[j]? = some (.io i) ∧ env[i]? = some (Sl.own o) ∧ σ[i]? = some (some (V.ref a)) := fun j o h hs => by
      rw [List.getElem?_map] at h hs
      cases q : avs[j]? with
      | none => rw [q] at h; cases h
      | some b =>
        rw [q] at h
        obtain ⟨v, e, k⟩ := hv.at_ q
        rw [e] at hs
        cases b with
        | dat x => cases h
        | bo i =>
          have h2 : AV.sl env (.bo i) = .own o := Option.some.inj h
          simp only [AV.sl] at h2
          split at h2 <;> cases h2
        | io i =>
          have h2 : env.at i = .own o := Option.some.inj h
          have e3 : σ[i]? = some (some v) := k
          have e4 : v = V.ref a := Option.some.inj (Option.some.inj hs)
          rw [e4] at e3
          exact ⟨i, rfl, En.at_of h2 (fun z => nomatch z), e3⟩
    obtain ⟨i, h1, h2, h3⟩ := key j o h hs
    obtain ⟨i', g1, g2, g3⟩ := key k o' h' hs'
    have e := r.apart i i' o o' a h2 g2 h3 g3
    subst e
    exact slots_io nd h1 g1
  sub := fun a h => by
    rcases h with ⟨i, o, h1, h2, h3⟩ | rfl
    · refine ⟨r.sub a (r.given_sub0 a ⟨i, o, h1, h2, h3⟩), fun ⟨i', o', g1, g2, g3⟩ => ?_⟩
      have e := r.apart i i' o o' a h2 g2 h3 g3
      subst e
      exact slots_iobo nd h1 g1
    · exact ⟨r.sub _ r.tabM, fun ⟨i', o', g1, g2, g3⟩ => r.own_ne g2 g3 rfl⟩
  there := fun a h => r.there a h.1
  tabM := .inr rfl
  tab := r.tab
theorem anyB_lent {env : En} {avs : List AV} (h : avs.any AV.isB = false) : ∀ a, ¬ lent σ env avs a := fun a ⟨i, o, h1, _⟩ => by
  rw [List.any_eq_false] at h
  exact absurd rfl (h _ h1)
/-- behind the call -/
theorem Rel.back {env e2 : En} (r : Rel K F M env σ H) {avs : List AV} {vs : List V} {outs : List Sl} (nd : (AV.slots avs).Nodup) (hv : VA K F σ avs vs H) (hc : callEnd avs outs env = some e2) (ex : Ex (given K σ env avs) H H')
    (r' : Rel K (fun a => F a ∧ ¬ lent σ env avs a) (given K σ env avs) outs (vs.map some) H') : Rel K F M e2 σ H' ∧ ∀ d v, (avs.any AV.isB && !d.flat) = false → VR K (fun a => F a ∧ ¬ lent σ env avs a) H' d v → VR K F H' d v := by
  have hg : ∀ a, given K σ env avs a → F a := fun a z => r.sub a (r.given_sub a z)
  have hl : ∀ a, F a → ¬ (F a ∧ ¬ lent σ env avs a) → ∃ u, H' a = some u ∧ ownO u = true := fun a f n => by
    have l : lent σ env avs a := Classical.byContradiction fun z => n ⟨f, z⟩
    obtain ⟨i, o, h1, h2, h3⟩ := l
    obtain ⟨b, e, m, k⟩ := r.own i o h2
    rw [h3] at e; cases e
    obtain ⟨u, q, qo⟩ := k.ownO
    refine ⟨u, ex.keep a _ q fun z => ?_, qo⟩
    rcases z with ⟨i', o', g1, g2, g3⟩ | z
    · have e := r.apart i i' _ o' a h2 g2 h3 g3
      subst e
      exact slots_iobo nd g1 h1
    · exact r.own_ne h2 h3 z
  unfold callEnd at hc
  split at hc
  · cases hc
  · rename_i hb
    have hb' : avs.any AV.isB = true → outs.all Sl.flat = true := fun z => by
      simp only [z, Bool.true_and, Bool.not_eq_true', Bool.not_eq_false] at hb
      simpa using hb
    refine ⟨⟨by rw [putOuts_len hc]; exact r.len, fun i d h => ?_, fun i o h => ?_, fun i j o o' a h h' hs hs' => ?_, r.sub, fun a f => ex.nt a (r.there a f), r.tabM, r'.tab⟩, fun d v z k => ?_⟩
    · rcases putOuts_at hc h with ⟨h1, h2⟩ | ⟨j, o, o', _, _, h3, _⟩
      · obtain ⟨v, e, k⟩ := r.dat i d h1
        exact ⟨v, e, k.ext ex.toExt hg⟩
      · cases h3
    · rcases putOuts_at hc h with ⟨h1, h2⟩ | ⟨j, o2, o', h1, h2, h3, h4⟩
      · obtain ⟨a, e, m, k⟩ := r.own i o h1
        refine ⟨a, e, m, k.ext (fun z => ?_) ex.toExt hg⟩
        rcases z with ⟨i', o', g1, g2, g3⟩ | z
        · have e' := r.apart i i' o o' a h1 g2 e g3
          subst e'
          exact h2 g1
        · exact r.own_ne h1 e z
      · cases h3
        obtain ⟨v, e, k⟩ := hv.at_ h1
        obtain ⟨a, e2, m, k2⟩ := r'.own j o h2
        rw [List.getElem?_map, e] at e2
        have e4 : v = V.ref a := Option.some.inj (Option.some.inj e2)
        subst e4
        refine ⟨a, k, r.given_sub a m, ?_⟩
        cases q : avs.any AV.isB with
        | false => exact k2.less fun a f => ⟨f, anyB_lent q a⟩
        | true =>
          have hf := List.all_eq_true.mp (hb' q) _ (List.mem_of_getElem? h2)
          cases o with
          | lst ds =>
            obtain ⟨ws, q2, r2⟩ := k2
            exact ⟨ws, q2, VRs.flat hl ds ws hf r2⟩
          | dct ks vs => cases hf
          | ins c fs => cases hf
    · have key : ∀ (i : Nat) (o : O), e2[i]? = some (Sl.own o) → ∃ o', env[i]? = some (Sl.own o') := fun i o h => by
        rcases putOuts_at hc h with ⟨h1, _⟩ | ⟨_, _, o', _, _, _, h4⟩
        · exact ⟨o, h1⟩
        · exact ⟨o', h4⟩
      obtain ⟨p, hp⟩ := key i o h
      obtain ⟨p', hp'⟩ := key j o' h'
      exact r.apart i j p p' a hp hp' hs hs'
    · cases q : avs.any AV.isB with
      | false => exact k.less fun a f => ⟨f, anyB_lent q a⟩
      | true =>
        rw [q] at z
        exact VR.flat hl d v (by simpa using z) k
end
section
variable {T : Tab} {fa : Nat → Addr} {fd : Nat → FuncData} {exc : Nat → Addr} {run : Run} {n : Nat} {N : List Str} {W : WX} {sc : Scope} {X : Cx}
variable {G : Nat → Option D}
theorem sim_as_nil : PA X [] (tAs X.K exc W G run .nil) := pa_nil.qimp fun σ H Q h => by
  obtain ⟨F, M, env, rl, p⟩ := h
  simp only [evAs] at p
  exact p.here rl (by simp only [VA])
theorem sim_as_val {e : E} {es : As} {x : Expr} {xs : List Expr} (hs : noStar x = true) (ha : PE X x ((tE X.K exc W G run) e)) (hr : PA X xs (tAs X.K exc W G run es)) : PA X (x :: xs) (tAs X.K exc W G run (.val e es)) := by
  refine (pa_cons ha hr (star_cons hs)).qimp fun σ H Q h => ?_
  obtain ⟨F, M, env, rl, p⟩ := h
  simp only [evAs] at p
  refine ⟨F, M, env, rl, p.bind fun x e1 v H1 _ ex1 rl1 hx p1 => ⟨F, M, e1, rl1, p1.bind fun l e2 w H2 _ ex2 rl2 hl p2 => ?_⟩⟩
  refine p2.here rl2 ?_
  simp only [VA]
  refine ⟨v, w, rfl, ?_, hl⟩
  cases e <;> first | exact hx | exact VR.ext hx ex2.toExt rl1.sub
theorem sim_as_io (C : CtxOk T fa fd exc run n N W sc X) {i : Nat} {es : As} {x : Str} {p0 : Pos} {xs : List Expr} (h : nameB N sc i x = true) (hr : PA X xs (tAs X.K exc W G run es)) : PA X (.Name x p0 :: xs) (tAs X.K exc W G run (.io i es)) := by
  refine (pa_cons (PE.nameVar C h) hr (star_cons rfl)).qimp fun σ H Q h => ?_
  obtain ⟨F, M, env, rl, p⟩ := h
  simp only [evAs] at p
  cases q : env.at i with
  | non => rw [q] at p; exact p.elim
  | dat d => rw [q] at p; exact p.elim
  | own o =>
    rw [q] at p
    obtain ⟨a, e, _, _⟩ := rl.own i o (En.at_of q (fun z => nomatch z))
    refine ⟨V.ref a, e, F, M, env, rl, p.bind fun l e1 w H1 _ ex1 rl1 hl p1 => ?_⟩
    refine p1.here rl1 ?_
    simp only [VA]
    exact ⟨_, w, rfl, e, hl⟩
theorem pe_callS0 {CX : CXT} {k : Nat} {f : Addr} {fd : FuncData} {ps : List Str} {sp : Sp} {E : SS → XK} {x : Str} {p pos : Pos} (F : FnOk X.prog X.w X.K X.mg X.base CX k f fd ps sp) (hr : Room k X.A) (hg : Gl X x) (hm : X.mg x = some (.ref f)) (hk : PySem.W.keepIn X.K (.ref f) = true) (hb : Binds X.K fd ps [])
    (hx : ∀ σ, PassesAt CX X σ (E σ)) (hdb : (x == ("__debug__" : Str)) = false) : PE X (.Call (.Name x p) [] [] pos) (tCallS sp E tNil) := by
  refine ⟨fun pins s σ H Q I h => ?_⟩
  refine wpAny_Call_Name_kw (ld_glob I hg hm ?_ hdb)
  exact PySem.W.callWith_K0 I.kIn hk (run_fnS (us := []) F hr hb (hx σ) I .nil h)
theorem call_end {f : Nat} {as : As} {avs : List AV} {vs : List V} {e1 : En} {σ : SS} {H1 : Hp} {F M : AS} {Q : VK} (rl1 : Rel X.K F M e1 σ H1) (hv : VA X.K F σ avs vs H1)
    (p1 : Post X.K exc W F M σ H1 (VX X.K F σ (.call f as)) (if !AV.apart avs then .bad else match run f (avs.map (AV.sl e1)) with
    | .ok d outs => (match callEnd avs outs e1 with
      | some e2 => if avs.any AV.isB && !d.flat then .bad else .ok d e2
      | none => .bad)
    | .exc x outs => (match callEnd avs outs e1 with
      | some e2 => .exc x e2
      | none => .bad)
    | .bad => .bad) Q) : spF X.K exc run f vs H1 Q (WE W σ) := by
  split at p1
  · exact p1.elim
  · rename_i hap
    have nd : (AV.slots avs).Nodup := by
      unfold AV.apart at hap
      simpa using hap
    refine ⟨_, _, _, rl1.args nd hv, ?_⟩
    cases q : run f (avs.map (AV.sl e1)) with
    | bad => rw [q] at p1; exact p1.elim
    | ok d outs =>
      rw [q] at p1
      intro v H2 ex2 rl2 hvr
      simp only at p1
      split at p1
      · rename_i e2 hc
        obtain ⟨rl3, hd⟩ := rl1.back nd hv hc ex2 rl2
        split at p1
        · exact p1.elim
        · rename_i hfl
          exact p1 v H2 (ex2.mono fun a z => rl1.given_sub a z) rl3 (hd d v (by simpa using hfl) hvr)
      · exact p1.elim
    | exc x outs =>
      rw [q] at p1
      intro cls dd H2 ex2 rl2 hxr
      simp only at p1
      split at p1
      · rename_i e2 hc
        obtain ⟨rl3, _⟩ := rl1.back nd hv hc ex2 rl2
        exact p1 cls dd H2 (ex2.mono fun a z => rl1.given_sub a z) rl3 hxr
      · exact p1.elim
theorem sim_call (C : CtxOk T fa fd exc run n N W sc X) {f : Nat} {i : FnI} {as : As} {x : Str} {a : Expr} {args : List Expr} {p0 pos : Pos} (hg : glB sc x = true) (hf : T.fns[f]? = some i) (hat : i.at_ = none) (hx : x = i.name) (hs : (a :: args).all noStar = true)
    (h : PA X (a :: args) (tAs X.K exc W G run as)) : PE X (.Call (.Name x p0) (a :: args) [] pos) ((tE X.K exc W G run) (.call f as)) := by
  subst hx
  obtain ⟨g1, g2, g3⟩ := gl_of hg
  obtain ⟨hm, hk⟩ := C.facts.fn f i hf hat
  have hb := C.facts.bnd f i hf
  simp only [List.all_cons, Bool.and_eq_true] at hs
  refine (pe_callS (C.ok f i hf) C.room0 (C.gl g1) hm hk hb (fun σ => passAt C.tk σ) h g2 (star_cons hs.1) (star_any hs.2)).qimp fun σ H Q q => ?_
  obtain ⟨F, M, env, rl, p⟩ := q
  simp only [evE] at p
  exact ⟨F, M, env, rl, p.bind fun avs e1 vs H1 _ ex1 rl1 hv p1 => call_end rl1 hv p1⟩
theorem sim_call0 (C : CtxOk T fa fd exc run n N W sc X) {f : Nat} {i : FnI} {x : Str} {p0 pos : Pos} (hg : glB sc x = true) (hf : T.fns[f]? = some i) (hat : i.at_ = none) (hx : x = i.name) : PE X (.Call (.Name x p0) [] [] pos) ((tE X.K exc W G run) (.call f .nil)) := by
  subst hx
  obtain ⟨g1, g2, g3⟩ := gl_of hg
  obtain ⟨hm, hk⟩ := C.facts.fn f i hf hat
  have hb := C.facts.bnd f i hf
  refine (pe_callS0 (C.ok f i hf) C.room0 (C.gl g1) hm hk hb (fun σ => passAt C.tk σ) g2).qimp fun σ H Q q => ?_
  obtain ⟨F, M, env, rl, p⟩ := q
  simp only [evE, evAs, Res.bind] at p
  exact call_end (avs := []) rl (by simp only [VA]) p
end
end Qh

/-! Instances: a field read, a method called, one made. -/
namespace Qh
open PySem PySem.Spec PyProof.Rows L2 PySem.W
section
variable {X : Cx} {CX : CXT} {k : Nat} {f C : Addr} {fd : FuncData} {ps : List Str} {sp : Sp} {E : L2.St → XK} {x m : Str} {p pos apos : Pos} {e o : Expr} {es : List Expr} {ta : TE} {t : TA}
def tMethX (C : Addr) (m : Str) (sp : Sp) (E : L2.St → XK) (ta : TE) (t : TA) : TE := fun σ H Q => ta σ H fun x H1 => ∃ a dx fs, x = .ref a ∧ H1 a = some (.ins C dx fs) ∧ fs.lookup m = none ∧
  t σ H1 fun vs H2 => sp (x :: vs) H2 Q (E σ)
theorem pe_methX {pl : Sem Bool} (he : PE X o ta) (c : Cls X.K C) (hm : Meth X.K C m f) (F : FnOk X.prog X.w X.K X.mg X.base CX k f fd ps sp) (hr : Room k X.A) (hb : Binds X.K fd ps []) (hx : ∀ σ, PassesAt CX X σ (E σ)) (ha : PA X (e :: es) t)
    (hst : starEach (e :: es) X.env = (false, eval e X.env) :: starEach es X.env) (hpl : (backTo pos (starEach es X.env)).any (·.1) = false)
    (ht : eval (.Call (.Attribute o m apos) (e :: es) [] pos) X.env = (do
      let ov ← eval o X.env
      standAt apos.atName
      let (f, first) ← holding [ov] (getMethod ov m pl)
      callWith pos f first (backTo pos (starEach (e :: es) X.env)) (backToKw pos (keywordEach [] X.env)))) :
    PE X (.Call (.Attribute o m apos) (e :: es) [] pos) (tMethX C m sp E ta t) := by
  refine ⟨fun pins s σ H Q I h => ?_⟩
  refine PySem.W.methodCall_KW (pl := pl) (thn (he.run pins s σ H _ I h) fun u s1 ⟨x, H1, I1, rx, a, dx, fs, ex, ea, l, q⟩ => ?_) ht
  subst ex
  obtain rfl : u = Value.ref a := rx
  refine getmeth_ok I1 ea c hm l ?_
  refine PySem.W.callWith_K (first := [.ref a]) (h₀ := X.base) I.ok.mod.kin hm.kp (thn (ha.run pos pins s1 σ H1 _ I1 q) fun us s2 ⟨vs, H2, I2, r, q2⟩ => ⟨I2.kIn, ?_⟩) hst hpl
  exact run_fnS (us := .ref a :: us) (vs := .ref a :: vs) F hr hb (hx σ) I2 (.cons rfl r) q2
/-- the instance laid, __init__ run -/
theorem run_makeX {pins : List (Addr × Obj)} {σ : L2.St} {H : Hp} {s : Shared} {Q : VK} {us : List Value} {vs : List V} (M : Mk X.K C f) (F : FnOk X.prog X.w X.K X.mg X.base CX k f fd ps sp) (hr : ∀ us : List Value, Room k (X.A.under (.builtin "type.__call__" ⟨.ref C :: us, []⟩))) (hb : Binds X.K fd ps [])
    (hx : PassesAt CX X σ (E σ)) (I : Inv X pins σ H s) (r : Vals vs us)
    (h : ∀ x dx, H x = none → H dx = none → dx ≠ x → sp (.ref x :: vs) (upd (upd H dx (.own x)) x (.ins C dx [])) (fun v H2 => v = .non ∧ Q (.ref x) H2) (E σ)) :
    wpAny (model X.prog X.w) X.A (call (.ref C) us) (EP X pins σ Q) X.xe s := by
  have hq := h (s.heap.objs.size + 1) s.heap.objs.size (I.hok.fresh (Nat.le_succ _)) (I.hok.fresh (Nat.le_refl _)) (Nat.ne_of_lt (Nat.lt_succ_self _))
  have I2 := Inv.made (C := C) I
  have r2 : Vals (V.ref (s.heap.objs.size + 1) :: vs) (Value.ref (s.heap.objs.size + 1) :: us) := .cons rfl r
  have hl : (Value.ref (s.heap.objs.size + 1) :: us).length = ps.length := by
    have e := r2.length
    rw [F.len _ _ _ _ hq] at e
    exact e.symm
  have hb2 := hb _ (Value.ref (s.heap.objs.size + 1) :: us) I2.kIn (by rw [List.append_nil]; exact hl)
  rw [List.append_nil] at hb2
  refine wpAny_call (make_map (f := f) I.kIn M.makes M.init (beq_iff_eq.mp M.fn) (codeAny_mono (F.run _ X.stack _ _ ⟨Value.ref (s.heap.objs.size + 1) :: us, []⟩ (Value.ref (s.heap.objs.size + 1) :: us) _ _ (E σ) (hr us)
    (I2.env0.make C us []) hb2 r2 hq) fun r s' hq' => ?_))
  cases r with
  | error e => exact hx pins _ _ e s' I2 hq'
  | ok fl =>
    cases fl with
    | ret u =>
      obtain ⟨v, H', I3, rv, ev, q3⟩ := I2.after hq'
      subst ev
      exact ⟨rv, ⟨V.ref (s.heap.objs.size + 1), H', I3, rfl, q3⟩⟩
    | next => exact False.elim hq'
    | brk => exact False.elim hq'
    | cont => exact False.elim hq'
def tMakeX (C : Addr) (sp : Sp) (E : L2.St → XK) (t : TA) : TE := fun σ H Q => t σ H fun vs H1 => ∀ x dx, H1 x = none → H1 dx = none → dx ≠ x →
  sp (.ref x :: vs) (upd (upd H1 dx (.own x)) x (.ins C dx [])) (fun v H2 => v = .non ∧ Q (.ref x) H2) (E σ)
theorem pe_makeX (M : Mk X.K C f) (F : FnOk X.prog X.w X.K X.mg X.base CX k f fd ps sp) (hr : ∀ us : List Value, Room k (X.A.under (.builtin "type.__call__" ⟨.ref C :: us, []⟩))) (hg : Gl X x) (hm : X.mg x = some (.ref C)) (hb : Binds X.K fd ps []) (hx : ∀ σ, PassesAt CX X σ (E σ))
    (ha : PA X (e :: es) t) (hdb : (x == ("__debug__" : Str)) = false) (he : starEach (e :: es) X.env = (false, eval e X.env) :: starEach es X.env) (hpl : (backTo pos (starEach es X.env)).any (·.1) = false) :
    PE X (.Call (.Name x p) (e :: es) [] pos) (tMakeX C sp E t) := by
  refine ⟨fun pins s σ H Q I h => ?_⟩
  refine wpAny_Call_Name_kw (ld_glob I hg hm ?_ hdb)
  refine PySem.W.callWith_K (h₀ := X.base) I.ok.mod.kin M.kp (thn (ha.run pos pins s σ H _ I h) fun us s1 ⟨vs, H1, I1, r, q⟩ => ⟨I1.kIn, ?_⟩) he hpl
  exact run_makeX M F hr hb (hx σ) I1 r q
end
section
variable {K : PySem.W.Frag} {F M : AS} {H : Hp}
theorem zip_lookup {f : Str} : ∀ {ns : List Str} {ds : List D} {vs : List V} {d : D}, VRs K F H ds vs → fldOf f ns ds = some d → ∃ v, (ns.zip vs).lookup f = some v ∧ VR K F H d v
  | [], _, _, _, _, h => by cases h
  | _ :: _, [], _, _, _, h => by cases h
  | n :: ns, e :: ds, [], _, hv, _ => by
    simp only [VRs] at hv
    obtain ⟨_, _, z, _⟩ := hv
    cases z
  | n :: ns, e :: ds, v :: vs, d, hv, h => by
    simp only [VRs] at hv
    obtain ⟨v', r', z, h1, h2⟩ := hv
    cases z
    unfold fldOf at h
    rw [List.zip_cons_cons, List.lookup_cons]
    by_cases hn : n = f
    · rw [if_pos hn] at h
      cases h
      subst hn
      rw [show (n == n) = true from beq_self_eq_true n]
      exact ⟨v, rfl, h1⟩
    · rw [if_neg hn] at h
      rw [show (f == n) = false from beq_eq_false_iff_ne.mpr fun z => hn z.symm]
      exact zip_lookup h2 h
theorem zip_none {f : Str} : ∀ {ns : List Str} {vs : List V}, ns.contains f = false → (ns.zip vs).lookup f = none
  | [], _, _ => rfl
  | _ :: _, [], _ => rfl
  | n :: ns, v :: vs, h => by
    rw [List.contains_cons, Bool.or_eq_false_iff] at h
    rw [List.zip_cons_cons, List.lookup_cons, h.1]
    exact zip_none h.2
end
section
variable {T : Tab} {fa : Nat → Addr} {fd : Nat → FuncData} {exc : Nat → Addr} {run : Run} {n : Nat} {N : List Str} {W : WX} {sc : Scope} {X : Cx}
variable {G : Nat → Option D}
theorem CtxOk.make (C : CtxOk T fa fd exc run n N W sc X) (c : Addr) (us : List Value) : Room (4 * n) (X.A.under (.builtin "type.__call__" ⟨.ref c :: us, []⟩)) :=
  ⟨C.room.hd, by have := C.room.dp; rw [make_depth]; omega, by have := C.room.un; rw [make_units]; omega⟩
theorem sim_fld (C : CtxOk T fa fd exc run n N W sc X) {c f y : Str} {o : E} {py pos : Pos} (hf : T.flds.contains (c, f) = true) (nb : isBor o = false) (ho : PE X (.Name y py) ((tE X.K exc W G run) o)) : PE X (.Attribute (.Name y py) f pos) ((tE X.K exc W G run) (.fld c o f)) := by
  obtain ⟨hc, hn⟩ := C.facts.fld c f hf
  refine (pe_fld ho rfl).qimp fun σ H Q q => ?_
  obtain ⟨F, M, env, rl, p⟩ := q
  simp only [evE] at p
  refine ⟨F, M, env, rl, p.bind fun d e1 v H1 _ ex1 rl1 hx p1 => ?_⟩
  have hv := VX.vr nb hx
  cases d <;> try exact p1.elim
  rename_i c' ns fs
  simp only at p1
  split at p1
  · rename_i hcc
    subst hcc
    obtain ⟨d, hd, p2⟩ := p1.opt
    obtain ⟨a, ev, na, dx, vs, ha, hl, hvs⟩ := hv.insI
    obtain ⟨u, hu, hur⟩ := zip_lookup hvs hd
    exact ⟨a, _, dx, _, u, ev, ha, hc, hn, hu, p2.here rl1 hur⟩
  · exact p1.elim
theorem insIs_inv {c m : Str} {d : D} (h : insIs c m d = true) : ∃ ns fs, d = .ins c ns fs ∧ ns.contains m = false := by
  cases d <;> try cases h
  unfold insIs at h
  simp only [Bool.and_eq_true, decide_eq_true_eq, Bool.not_eq_true'] at h
  obtain ⟨rfl, h2⟩ := h
  exact ⟨_, _, rfl, h2⟩
theorem meth_form {X : Cx} {y m : Str} {a : Expr} {args : List Expr} {py apos pos : Pos} (hl : (apos.endLine == pos.line) = true) (hn : (a :: args).length < 30) (he : starEach (a :: args) X.env = (false, eval a X.env) :: starEach args X.env) (hpl : (backTo pos (starEach args X.env)).any (·.1) = false) :
    eval (.Call (.Attribute (.Name y py) m apos) (a :: args) [] pos) X.env = (do
      let ov ← eval (.Name y py) X.env
      standAt apos.atName
      let (f, first) ← holding [ov] (getMethod ov m (do return (← importBound (.Name y py) X.env).getD true))
      callWith pos f first (backTo pos (starEach (a :: args) X.env)) (backToKw pos (keywordEach [] X.env))) := by
  have hform : methodCallForm ((a :: args).length + ([] : List Keyword).length) (backTo pos (starEach (a :: args) X.env)) (backToKw pos (keywordEach [] X.env)) = true := by
    unfold methodCallForm
    have h1 : (backTo pos (starEach (a :: args) X.env)).all (fun x => !x.1) = true := by
      rw [he]
      rw [List.any_eq_false] at hpl
      rw [List.all_eq_true]
      intro x hx
      have hx2 : x ∈ (false, _) :: backTo pos (starEach args X.env) := hx
      rcases List.mem_cons.mp hx2 with h | h
      · rw [h]; rfl
      · have := hpl x h
        simpa using this
    rw [h1]
    simp only [List.length_nil, Nat.add_zero, Bool.true_and]
    have h2 : (backToKw pos (keywordEach [] X.env)) = [] := rfl
    rw [h2]
    simpa using hn
  have hpos : methodCallPos true (.Name y py) X.env apos pos = pure pos := by unfold methodCallPos; simp [hl]
  rw [arm_eval_Call]
  show (do
      let ov ← eval (.Name y py) X.env
      standAt apos.atName
      methodCall (.Name y py) m apos pos X.env ov ((a :: args).length + ([] : List Keyword).length) (backTo pos (starEach (a :: args) X.env)) (backToKw pos (keywordEach [] X.env))) = _
  unfold methodCall calleeOf
  rw [hform]
  simp only [if_true, hpos, pure_bind]
theorem sim_mcall (C : CtxOk T fa fd exc run n N W sc X) {f : Nat} {i : FnI} {c m y : Str} {o : E} {as : As} {a : Expr} {args : List Expr} {py apos pos : Pos} (hf : T.fns[f]? = some i) (hat : i.at_ = some c) (hnm : i.name = m) (hni : i.name ≠ "__init__") (nb : isBor o = false) (hs : (a :: args).all noStar = true) (hl : (apos.endLine == pos.line) = true) (hn : (a :: args).length < 30)
    (ho : PE X (.Name y py) ((tE X.K exc W G run) o)) (h : PA X (a :: args) (tAs X.K exc W G run as)) : PE X (.Call (.Attribute (.Name y py) m apos) (a :: args) [] pos) ((tE X.K exc W G run) (.mcall f c m o as)) := by
  subst hnm
  obtain ⟨hc, _, hm⟩ := C.facts.mt f i c hf hat
  have hb := C.facts.bnd f i hf
  simp only [List.all_cons, Bool.and_eq_true] at hs
  refine (pe_methX ho hc (hm hni) (C.ok f i hf) C.room0 hb (fun σ => passAt C.tk σ) h (star_cons hs.1) (star_any hs.2) (meth_form hl hn (star_cons hs.1) (star_any hs.2))).qimp fun σ H Q q => ?_
  obtain ⟨F, M, env, rl, p⟩ := q
  simp only [evE] at p
  refine ⟨F, M, env, rl, p.bind fun d e1 v H1 _ ex1 rl1 hx p1 => ?_⟩
  have hv := VX.vr nb hx
  split at p1
  · rename_i hin
    obtain ⟨ns, fs, rfl, hno⟩ := insIs_inv hin
    obtain ⟨b, ev, na, dx, vs, ha, hl, hvs⟩ := hv.insI
    refine ⟨b, dx, _, ev, ha, zip_none hno, F, M, e1, rl1, p1.bind fun avs e2 ws H2 _ ex2 rl2 hw p2 => ?_⟩
    refine call_end (as := as) (avs := .dat (.ins c ns fs) :: avs) (vs := v :: ws) rl2 ?_ p2
    simp only [VA]
    exact ⟨v, ws, rfl, hv.ext ex2.toExt rl1.sub, hw⟩
  · exact p1.elim
theorem sim_mk (C : CtxOk T fa fd exc run n N W sc X) {f : Nat} {i : FnI} {c : Str} {as : Es} {a : Expr} {args : List Expr} {p0 pos : Pos} (hg : glB sc c = true) (hf : T.fns[f]? = some i) (hat : i.at_ = some c) (hnm : i.name = "__init__") (nb : as.noBor = true) (hs : (a :: args).all noStar = true)
    (h : PA X (a :: args) (tEs X.K exc W G run as)) : PE X (.Call (.Name c p0) (a :: args) [] pos) ((tE X.K exc W G run) (.mk f c as)) := by
  obtain ⟨hc, hm, _⟩ := C.facts.mt f i c hf hat
  obtain ⟨hM, hmg⟩ := hm hnm
  have hb := C.facts.bnd f i hf
  obtain ⟨g1, g2, g3⟩ := gl_of hg
  simp only [List.all_cons, Bool.and_eq_true] at hs
  refine (pe_makeX hM (C.ok f i hf) (fun us => C.make _ us) (C.gl g1) hmg hb (fun σ => passAt C.tk σ) h g2 (star_cons hs.1) (star_any hs.2)).qimp fun σ H Q q => ?_
  obtain ⟨F, M, env, rl, p⟩ := q
  simp only [evE] at p
  refine ⟨F, M, env, rl, p.bind fun l e1 vs H1 _ ex1 rl1 hl p1 => fun x dx hx hdx hne => ?_⟩
  have hvs := VXs.vrs nb hl
  have nF : ¬ F x := rl1.fresh x hx
  have hx2 : (upd H1 dx (.own x)) x = none := by rw [upd_ne (fun z => hne z.symm)]; exact hx
  have e0 : Ext NoM H1 (upd (upd H1 dx (.own x)) x (.ins (He.ga X.K c) dx [])) := (Ext.new hdx).trans (Ext.new hx2)
  have hvs2 : VRs X.K (fun b => F b ∨ b = x) (upd (upd H1 dx (.own x)) x (.ins (He.ga X.K c) dx [])) l vs := (hvs.more hx).ext e0 fun _ z => z.elim
  refine ⟨fun b => F b ∨ b = x, fun b => b = x ∨ b = tabP X.K, .own (.ins c [] []) :: l.map .dat, ⟨?_, ?_, ?_, ?_, ?_, ?_, .inr rfl, (rl1.tab.new hdx).new hx2⟩, ?_⟩
  · rw [List.length_cons, List.length_map, List.length_map, List.length_cons, hvs.len]
  · intro j d hj
    cases j with
    | zero => cases hj
    | succ j =>
      rw [List.getElem?_cons_succ, List.getElem?_map] at hj
      obtain ⟨d', hd', e⟩ := Option.map_eq_some_iff.mp hj
      cases e
      obtain ⟨v, hv, hr⟩ := hvs2.at_ hd'
      exact ⟨v, by rw [List.map_cons, List.getElem?_cons_succ, List.getElem?_map, hv]; rfl, hr⟩
  · intro j o hj
    cases j with
    | zero =>
      cases hj
      exact ⟨x, rfl, .inl rfl, dx, [], upd_same, rfl, rfl⟩
    | succ j =>
      rw [List.getElem?_cons_succ, List.getElem?_map] at hj
      obtain ⟨d', _, e⟩ := Option.map_eq_some_iff.mp hj
      cases e
  · intro j k o o' b hj hk _ _
    have key : ∀ (j : Nat) (o : O), (Sl.own (.ins c [] []) :: l.map .dat)[j]? = some (.own o) → j = 0 := fun j o hj => by
      cases j with
      | zero => rfl
      | succ j =>
        rw [List.getElem?_cons_succ, List.getElem?_map] at hj
        obtain ⟨d', _, e⟩ := Option.map_eq_some_iff.mp hj
        cases e
    rw [key j o hj, key k o' hk]
  · exact fun b z => z.elim .inr fun e => .inl (by rw [e]; exact rl1.sub _ rl1.tabM)
  · rintro b (z | rfl)
    · obtain ⟨o, e, nt⟩ := rl1.there b z
      exact ⟨o, e0.keep b o e (fun z => z), nt⟩
    · exact ⟨_, upd_same, fun _ z => nomatch z⟩
  · unfold mkGo at p1
    cases hrun : run f (.own (.ins c [] []) :: l.map .dat) with
    | bad => rw [hrun] at p1; exact p1.elim
    | exc e o => rw [hrun] at p1; exact p1.elim
    | ok d outs =>
      rw [hrun] at p1
      intro v H' ex2 rl2 hvr
      cases d <;> try exact p1.elim
      cases outs with
      | nil => exact p1.elim
      | cons s ss =>
        cases s with
        | non => exact p1.elim
        | dat _ => exact p1.elim
        | own o =>
          cases o with
          | lst _ => exact p1.elim
          | dct _ _ => exact p1.elim
          | ins c' ns fs =>
            simp only at p1
            split at p1
            · rename_i hcc
              subst hcc
              refine ⟨by simpa only [VR] using hvr, ?_⟩
              obtain ⟨b, hb1, hb2, hb3⟩ := rl2.own 0 (.ins c' ns fs) rfl
              have : b = x := by cases hb1; rfl
              subst this
              have ex3 : Ex (fun b => b = tabP X.K) H1 H' := ⟨⟨fun a o e nz => ex2.keep a o (e0.keep a o e (fun z => z)) (fun z => z.elim (fun z => by rw [z, hx] at e; cases e) nz), fun a z => ex2.dom a (e0.dom a z)⟩, fun a z => ex2.nt a (by
                obtain ⟨o, e, nt⟩ := z
                exact ⟨o, e0.keep a o e (fun z => z), nt⟩)⟩
              refine p1 _ H' (ex3.mono fun _ z => z ▸ rl1.tabM) (rl1.extT ex3 rl2.tab) ?_
              obtain ⟨dx', vs', h1, h2, h3⟩ := hb3
              exact VR.insM nF ⟨dx', vs', h1, h2, h3.less fun a z => .inl z⟩
            · exact p1.elim
end
end Qh

/-! A def that calls what it gets within a try; lambdas handed to it; raise. -/
namespace Qh
open PySem PySem.Spec PyProof.Rows L2 PySem.W
/-! ### raise X() -/
theorem pmk_bare {X : Cx} {C : Addr} {bmB : List Value} {B newId initId : String} {x : Str} {p pos : Pos} (F : ExcBaseFacts B newId initId bmB) (q : PySem.W.excIn X.K C bmB newId = true) (gC : X.mg x = some (.ref C)) (kC : PySem.W.keepIn X.K (.ref C) = true) (r : Raises X (.ref C)) (hg : Gl X x)
    (hdb : (x == ("__debug__" : Str)) = false) : PMk X (.Call (.Name x p) [] [] pos) (fun _ H Q => Q (.ref C) none H) := by
  intro pins s σ H Q I h
  refine wpAny_Call_Name_kw (ld_glob I hg gC (PySem.W.callWith_K0 I.kIn kC ?_) hdb)
  obtain ⟨_, _, _, _, _, _, _, _, _, _, _, _, _, _, _, _, mN, hC, hN, hni, tl⟩ := exc_obj I.kIn q
  exact wpAny_call_exc_subT F tl hC hN hni (fun h' e hm => mk_of I hm r h (I.hok.gone hm.new)) (Nat.zero_le _)
/-! ### the lambda -/
section
variable {X : Cx} {pins : List (Addr × Obj)} {σ : L2.St} {H : Hp} {s : Shared}
/-- what the making of a lambda leaves -/
def Made (P : Addr) (H H1 : Hp) : Prop := H1 = H ∨ ∃ (tb more : Array Value) (c : Addr), H P = some (.tbl tb) ∧ H c = none ∧ H1 = upd (upd H P (.tbl (tb ++ more))) c (LamX.CodeO c lamQ)
theorem lam_new {c P : Addr} {ar : Arguments} {bd : Expr} {lsc : Scope} {pos : Pos} {E : Value → Shared → Prop} {Q : Value → Shared → Prop} (I : Inv X pins σ H s) (TB : LamX.TabB X.base X.mg c P) (code : X.env.code = .ref c) (hq : X.env.qual ++ "<lambda>" = lamQ) (tab : LamX.TabS H P lamQ)
    (nod : defaultsOf ar X.env = ([], [])) (free : ∀ y ∈ lsc.names, y.2 = .free → ∃ c, X.env.cells.lookup y.1 = some c)
    (go : ∀ (f c' : Addr) (pm ct : Value) (H1 : Hp) (s' : Shared), Inv X pins σ H1 s' → Made P H H1 → LamX.TabS H1 P lamQ → s'.heap.get? f = some (PySem.W.kla_obj "<lambda>" (X.env.qual ++ "<lambda>") ar bd lsc (cloFrom X.env.cells lsc.names []) pm c' ct) → H1 f = none → f ∉ frs X.stack → H1 c' = some (LamX.CodeO c' lamQ) → Q (.ref f) s') :
    wpAny (model X.prog X.w) X.A (eval (.Lambda ar bd lsc pos) X.env) Q E s := by
  obtain ⟨tb, atP, trip, among⟩ := tab
  have bs : s.heap.BuiltinsAt X.mg P := TB.bm.keeps I.bk
  have tP : s.heap.get? P = some { cls := .none, data := .fields tb } := I.hok P _ atP
  have fresh : ∀ f, s.heap.objs.size ≤ f → f ∉ frs X.stack := fun f le z => (List.mem_cons.mp (I.stkSub _ z)).elim
    (fun e => Nat.lt_irrefl _ (Nat.lt_of_lt_of_le (by have := I.lt; rwa [← e] at this) le)) fun e => I.nofs le e
  refine PySem.W.kla_eval nod ?_
  cases hit : codeAmong pos tb.toList with
  | some cv =>
    obtain ⟨c', rfl, isC⟩ := among pos cv hit
    refine PySem.W.kla_makeFunctionHit (mg := X.mg) (c := c) (P := P) (ps := tb) (closure_ok free) I.ok.glob (I.mod.glob.keeps I.bk) code (TB.code.keeps I.bk) tP trip hit bs fun ct h' tk ext le => ?_
    refine go h'.objs.size c' ((X.mg "__name__").getD .none) ct H _ (I.kept fun b o e => Heap.get?_push_of_some _ (ext b o e)) (.inl rfl) ⟨tb, atP, trip, among⟩ (Heap.get?_push_size _ rfl) (I.hok.fresh le) (fresh _ le) isC
  | none =>
    refine PySem.W.kla_makeFunction (mg := X.mg) (c := c) (P := P) (ps := tb) (closure_ok free) I.ok.glob (I.mod.glob.keeps I.bk) code (TB.code.keeps I.bk) tP trip hit TB.gP bs fun c' ct h' tk ext ge lt rec tbl => ?_
    obtain ⟨c2, oc, vs, t, e2, hoc, hd, hv⟩ := rec
    cases e2
    rw [hq] at hv
    have le : s.heap.objs.size ≤ h'.objs.size := Nat.le_trans ge (Nat.le_of_lt lt)
    have nC : H c' = none := I.hok.fresh ge
    have I1 := LamX.inv_table (t' := tk) (more := #[rawInt pos.line, rawInt pos.col, .ref c']) (h' := h'.push (PySem.W.kla_obj "<lambda>" (X.env.qual ++ "<lambda>") ar bd lsc (cloFrom X.env.cells lsc.names []) ((X.mg "__name__").getD .none) c' ct)) I atP
      (fun b o nb e => Heap.get?_push_of_some _ (ext b o nb e)) (Heap.get?_push_of_some _ tbl) ge ⟨oc, vs, t, Heap.get?_push_of_some _ hoc, hd, hv⟩
    have ne1 : h'.objs.size ≠ c' := Nat.ne_of_gt lt
    have ne2 : h'.objs.size ≠ P := Nat.ne_of_gt (Nat.lt_of_lt_of_le (Heap.lt_size tP) le)
    have lst : (tb ++ #[rawInt pos.line, rawInt pos.col, Value.ref c']).toList = tb.toList ++ [rawInt pos.line, rawInt pos.col, .ref c'] := by simp
    have old : ∀ d, H d = some (LamX.CodeO d lamQ) → upd (upd H P (.tbl (tb ++ #[rawInt pos.line, rawInt pos.col, Value.ref c']))) c' (LamX.CodeO c' lamQ) d = some (LamX.CodeO d lamQ) := fun d hd => by
      rw [upd_ne (ne_of_none hd nC), upd_ne (fun z => LamX.codeO_ne tb (Option.some.inj (hd.symm.trans (by rw [z]; exact atP))))]
      exact hd
    refine go h'.objs.size c' ((X.mg "__name__").getD .none) ct _ _ I1 (.inr ⟨tb, _, c', atP, nC, rfl⟩) ⟨_, by rw [upd_ne (ne_of_none atP nC), upd_same], by rw [lst]; exact PySem.TriplesOk_snoc _ _ _ _ trip, fun p' cv hcv => ?_⟩ (Heap.get?_push_size _ rfl) (by rw [upd_ne ne1, upd_ne ne2]; exact I.hok.fresh le) (fresh _ le) upd_same
    rw [lst] at hcv
    rcases LamX.among_app _ trip hcv with z | rfl
    · obtain ⟨d, e1, e2⟩ := among p' cv z
      exact ⟨d, e1, old d e2⟩
    · exact ⟨c', rfl, upd_same⟩
/-- a lambda handed to a def -/
def tLamH (P : Addr) (TT : (XK → Hp → VK → Prop) → Hp → VK → Prop) (t : XK → TE) : TE := fun σ H Q => LamX.TabS H P lamQ ∧ ∀ H1, Made P H H1 → LamX.TabS H1 P lamQ → TT (fun E H' Q' => t E σ H' Q') H1 Q
theorem pe_lamH {TT : (XK → Hp → VK → Prop) → Hp → VK → Prop} {x a : Str} {g c P : Addr} {k : Nat} {pg : Arguments} {bg : List Stmt} {sg : Scope} {dV kV doc pm cdv ct oc : Value} {an od : Option Addr} {osl : Array (Option Value)} {Ng : List Str} {ar : Arguments} {bd : Expr} {lsc : Scope} {t : XK → TE} {p lpos pos : Pos}
    (hg : Gl X x) (hm : X.mg x = some (.ref g)) (hk : PySem.W.keepIn X.K (.ref g) = true) (at_ : X.K.lookup g = some ⟨oc, od, .func (PySem.W.fnOf x x pg bg sg dV kV doc pm an cdv ct), osl⟩) (cin : PySem.W.codeIn X.K cdv x = true)
    (hb : L2.Binds X.K (PySem.W.fnOf x x pg bg sg dV kV doc pm an cdv ct) [a] []) (Sg : FnScope Ng [a] sg) (hNg : Ng[0]? = some a) (hva : Vis sg a) (hG : LamX.GivesTo X Ng x sg g cdv bg a lamQ TT) (TB : LamX.TabB X.base X.mg c P) (code : X.env.code = .ref c) (hq : X.env.qual ++ "<lambda>" = lamQ)
    (hr : Room (k + 2) X.A) (L : LamX.LamS X.env.scope lsc) (nod : defaultsOf ar X.env = ([], [])) (nob : ∀ (q : Str) (cl : List (Str × Addr)) (pm cv ctv : Value), bindArgs (PySem.W.kla_fn "<lambda>" q ar bd lsc cl pm cv ctv) ⟨[], []⟩ = pure [])
    (body : ∀ (A : Around) (outer : List Env) (s : Shared) (H : Hp) (E : XK) (f c' : Addr), Room k (A.deeper (LamX.lamEnv X lsc s.heap.objs.size f c')) → PE (LamX.lamCx X A outer s H E lsc f c') bd (t E))
    (d1 : (x == ("__debug__" : Str)) = false) (d2 : (a == ("__debug__" : Str)) = false) (d3 : (a == ("__classdict__" : Str)) = false) : PE X (.Call (.Name x p) [.Lambda ar bd lsc lpos] [] pos) (tLamH P TT t) := by
  refine ⟨fun pins s σ H Q I ⟨tab, h⟩ => wpAny_Call_Name_kw (ld_glob I hg hm (PySem.W.callWith_K (h₀ := X.base) I.ok.mod.kin hk ?_ (by rfl) (by rfl)) d1)⟩
  show wpAny _ _ (spliced ((false, eval (.Lambda ar bd lsc lpos) X.env) :: backTo pos (starEach [] X.env))) _ _ s
  refine Calls.spliced_cons (lam_new I TB code hq tab nod (L.has I.ok) fun f c' pm' ct' H1 s' I1 made tab1 isF nF nfr isC => Calls.spliced_nil ⟨I1.kIn, ?_⟩)
  have r : codeAny (model X.prog X.w) X.A (.call (.ref g) ⟨[.ref f], []⟩) (CR C8.CX0 X.stack X.prog X.w H1 s' Q C8.E0) s' := LamX.run_ofS (N := Ng) (ps := [a]) (us := [.ref f]) (vs := [.ref f]) at_ cin Sg hr I1.env0 (hb s' [.ref f] I1.kIn rfl) (.cons rfl .nil) rfl fun hr' => by
    obtain ⟨t', ht, hq'⟩ := hG f c' s' H1 Q (fun E H' Q' => t E σ H' Q') (fun W pn xe E p1 p2 tk hW => by
      have := LamX.pe_act (i := 0) (p1 := p1) (p2 := p2) I1 L isF nF nfr (nob _ _ _ _ _) tk hW hr' (fun A outer s H hr2 => body A outer s H E f c' hr2) hNg hva d2 d3
      rw [hq] at this
      exact this) isC (h H1 made tab1)
    exact ⟨t', ht.nox, hq'⟩
  refine wpAny_call (codeAny_mono r fun res s2 z => ?_)
  cases res with
  | error e => exact (show False from z).elim
  | ok fl =>
    cases fl
    case ret u => exact I1.after z
    all_goals exact False.elim z
end
/-! ### the def that calls it -/
def Ct.v : Ct → V
  | .bl b => .bl b
  | .str s => .str s
theorem Ct.vr {K : PySem.W.Frag} {F : AS} {H : Hp} : ∀ c : Ct, VR K F H c.d c.v
  | .bl b => by simp only [Ct.d, Ct.v, VR]
  | .str s => by simp only [Ct.d, Ct.v, VR]
theorem pe_ct {X : Cx} {c : Ct} {k : Const} {j : Nat} {p : Pos} (h : ctB c k = true) : PE X (.Constant k j p) (tC c.v) := by
  cases c <;> cases k <;> try cases h
  · rename_i b c
    have e : b = c := eq_of_beq h
    subst e
    exact pe_bl
  · rename_i b c
    have e : b = c := of_decide_eq_true h
    subst e
    exact pe_str
section
variable {T : Tab} {exc : Nat → Addr} {X : Cx} {a : Addr} {oe : Obj} {pn : List (Addr × Obj)} {y : Str} {sg : Scope} {c : Nat} {x : Str}
/-- the caught one, under its name -/
def tHE (a : Addr) (v : V) : TE := fun σ H Q => σ[1]? = some (some (.ref a)) ∧ Q v H
theorem pe_isiE (hx : T.excs[c]? = some x) (E : ExK T X.K X.mg exc) (hz : Zc (.ref (exc c)) none oe) (hf : ∃ vs, oe.data = .fields vs) (hsc : X.env.scope = sg) (hN : X.N[1]? = some y) (hv : Vis sg y) (h1 : (y == ("__debug__" : Str)) = false) (h2 : (y == ("__classdict__" : Str)) = false) (hb : ∀ b ∈ T.blts, X.mg b = none)
    {d : Nat} {e : Expr} (h : isiB T sg y d e = true) : PE (X.suite a ((a, oe) :: pn)) e (tHE a (.bl (isiX c d))) := by
  unfold isiB at h
  split at h
  case h_2 => cases h
  rename_i f p z p2 x' p3 pos
  simp only [Bool.and_eq_true, decide_eq_true_eq] at h
  obtain ⟨⟨rfl, hg, hbl⟩, rfl, hg2, hx'⟩ := h
  obtain ⟨g1, g2, g3⟩ := gl_of hg
  obtain ⟨k1, k2, k3⟩ := gl_of hg2
  obtain ⟨hc, hk⟩ := E.isi c d x x' hx hx'
  obtain ⟨hm, _⟩ := E.made d x' hx'
  have gl1 : Gl (X.suite a ((a, oe) :: pn)) "isinstance" := by show X.env.scope.names.lookup _ = _; rw [hsc]; exact g1
  have gl2 : Gl (X.suite a ((a, oe) :: pn)) x' := by show X.env.scope.names.lookup _ = _; rw [hsc]; exact k1
  refine (pe_callB (r := rIsE X.K (exc c) a) (call_isE hc hz hf) gl1 (hb _ (List.contains_iff_mem.mp hbl)) (by decide +kernel) (pa_cons (pe_var (i := 1) hN (by show Vis X.env.scope _; rw [hsc]; exact hv) h1 h2) (pa_cons (pe_glob (v := .ref (exc d)) gl2 hm rfl k2) pa_nil)) (by decide +kernel) g2).qimp fun σ H Q q => ?_
  exact ⟨_, q.1, .ref (exc d), .ref (exc d), isiX c d, rfl, fun u r => r, hk, q.2⟩
theorem pe_he (hx : T.excs[c]? = some x) (E : ExK T X.K X.mg exc) (hz : Zc (.ref (exc c)) none oe) (hf : ∃ vs, oe.data = .fields vs) (hsc : X.env.scope = sg) (hN : X.N[1]? = some y) (hv : Vis sg y) (h1 : (y == ("__debug__" : Str)) = false) (h2 : (y == ("__classdict__" : Str)) = false) (hb : ∀ b ∈ T.blts, X.mg b = none) :
    ∀ (m : HE) (e : Expr), heB T sg y m e = true → PE (X.suite a ((a, oe) :: pn)) e (tHE a (m.ev c).v)
  | .cst d, e, h => by
    cases e <;> simp only [heB] at h <;> try (cases h; done)
    exact (pe_ct h).qimp fun σ H Q q => q.2
  | .isi d, e, h => by
    simp only [heB] at h
    exact pe_isiE hx E hz hf hsc hN hv h1 h2 hb h
  | .ife d p q, e, h => by
    cases e <;> simp only [heB] at h <;> try (cases h; done)
    simp only [Bool.and_eq_true] at h
    have ht := pe_isiE (a := a) (pn := pn) hx E hz hf hsc hN hv h1 h2 hb h.1
    refine (pe_ifExp (pt_val ht (by
      have h := h.1
      unfold isiB at h
      split at h
      · intro w; rfl
      · cases h)) (pe_he hx E hz hf hsc hN hv h1 h2 hb p _ h.2.1) (pe_he hx E hz hf hsc hN hv h1 h2 hb q _ h.2.2)).qimp fun σ H Q z => ?_
    refine ⟨z.1, isiX c d, rfl, ?_⟩
    have z2 := z.2
    simp only [HE.ev] at z2
    show if isiX c d = true then tHE a (p.ev c).v σ H Q else tHE a (q.ev c).v σ H Q
    by_cases e : isiX c d = true
    · rw [if_pos e] at z2 ⊢
      exact ⟨z.1, z2⟩
    · rw [if_neg e] at z2 ⊢
      exact ⟨z.1, z2⟩
end
def TTg (T : Tab) (exc : Nat → Addr) (g : Gd) : (XK → Hp → VK → Prop) → Hp → VK → Prop := fun tl H Q => tl (fun cls dd H' => ∃ (c : Nat) (x : Str), T.excs[c]? = some x ∧ cls = .ref (exc c) ∧ dd = none ∧ Q (g.hnd.ev c).v H') H (fun _ H' => Q g.dfl.v H')
theorem guard_gives {T : Tab} {exc : Nat → Addr} {X : Cx} {g : Gd} {a y x : Str} {sg : Scope} {f : Addr} {cdv : Value} {body : List Stmt} {q : Str} (h : gdB T g a y sg body = true) (E : ExK T X.K X.mg exc) (S : FnScope [a, y] [a] sg) (hy : sg.names.lookup y = some .local)
    (h1 : (y == ("__debug__" : Str)) = false) (h2 : (y == ("__classdict__" : Str)) = false) (hb : ∀ b ∈ T.blts, X.mg b = none) : LamX.GivesTo X [a, y] x sg f cdv body a q (TTg T exc g) := by
  unfold gdB at h
  split at h
  case h_2 => cases h
  rename_i a' p1 p2 p3 qn p4 y' hx p5 p6 p7 k j p8 p9
  simp only [Bool.and_eq_true, decide_eq_true_eq] at h
  obtain ⟨⟨⟨rfl, rfl⟩, hg, h0⟩, hh, hc⟩ := h
  obtain ⟨g1, g2, g3⟩ := gl_of hg
  obtain ⟨hm0, _⟩ := E.made 0 qn h0
  intro f' c' s H Q tl act isC go
  refine ⟨_, pss_cons (ps_try_as (X := (cxOf C8.CX0 X.prog X.w X.K X.mg X.base [a', y'] x sg f cdv X.A X.stack s H C8.E0).nox) (i := 1) (c := .ref (exc 0)) (n := y')
      (tb := fun W D σ H => ∃ Ech : XK, (∀ cls d σ' H', Ech cls d H' → W cls d σ' H') ∧ σ[0]? = some (some (.ref f')) ∧ H c' = some (LamX.CodeO c' q) ∧ tl Ech H fun _ H' => D.nx σ H')
      (ts := fun b cls d D σ H => ∃ (c : Nat) (x : Str), T.excs[c]? = some x ∧ cls = .ref (exc c) ∧ d = none ∧ (σ.length = 2 → σ[1]? = some (some (.ref b))) ∧ D.rt (g.hnd.ev c).v H)
      rfl rfl S.nd rfl hy ⟨g1, g2, .inl hm0⟩ LamX.takes0 (fun W pn xe tk _ => ?_) fun b oe cls d pn hz hf => ?_) (pss_one (ps_ret (pe_ct hc))), ?_⟩
  · refine ⟨fun pins s' σ H' D I ⟨Ech, hW, z1, z2, z3⟩ => ?_⟩
    exact (pss_one (ps_expr (pos := p3) (act W pn xe Ech p1 p2 tk hW))).run pins s' σ H' D I ⟨z1, z2, z3⟩
  · refine ⟨fun pins s' σ H' D I ⟨c, x', hx', e1, e2, hσ, hD⟩ => ?_⟩
    subst e1 e2
    exact (pss_one (ps_ret (pe_he (T := T) (exc := exc) (X := (cxOf C8.CX0 X.prog X.w X.K X.mg X.base [a', y'] x sg f cdv X.A X.stack s H C8.E0).nox) (c := c) (y := y') (sg := sg) hx' E hz hf rfl rfl (.inl hy) h1 h2 hb g.hnd hx hh))).run pins s' σ H' D I ⟨hσ I.len, hD⟩
  · refine ⟨fun cls dd H' => ∃ (c : Nat) (x : Str), T.excs[c]? = some x ∧ cls = .ref (exc c) ∧ dd = none ∧ Q (g.hnd.ev c).v H', ?_, rfl, isC, go⟩
    rintro cls d σ' H' ⟨c, x', hx', rfl, rfl, z⟩
    refine ⟨true, E.exm c x' qn hx' h0, fun _ b nb => ⟨c, x', hx', rfl, rfl, fun hl => ?_, z⟩, fun z => by cases z⟩
    rw [List.length_set] at hl
    rw [List.getElem?_set_self (by omega)]
/-! ### a lambda in the law -/
theorem made_rel {K : PySem.W.Frag} {F M : AS} {env : En} {σ : SS} {H H1 : Hp} (rl : Rel K F M env σ H) (m : Made (tabP K) H H1) (t : TabI K H1) : Ex M H H1 ∧ Rel K F M env σ H1 := by
  rcases m with rfl | ⟨tb, more, c, hP, hc, rfl⟩
  · exact ⟨Ex.refl _ _, rl⟩
  · have nc : upd H (tabP K) (.tbl (tb ++ more)) c = none := by rw [upd_ne (ne_of_none hP hc).symm]; exact hc
    have e1 : Ext (fun a => a = tabP K) H (upd H (tabP K) (.tbl (tb ++ more))) := Ext.put rfl (by rw [hP]; intro z; cases z)
    have e2 : Ex (fun a => a = tabP K) H (upd (upd H (tabP K) (.tbl (tb ++ more))) c (LamX.CodeO c lamQ)) := ⟨e1.trans (Ext.new nc), fun a hnt => by
      obtain ⟨o, ho, hn⟩ := hnt
      by_cases z : a = c
      · subst z
        exact ⟨_, upd_same, fun vs z => by unfold LamX.CodeO at z; cases z⟩
      · by_cases z2 : a = tabP K
        · rw [z2]
          exact ⟨.tbl (tb ++ more), by rw [upd_ne (ne_of_none hP hc), upd_same], fun _ z => nomatch z⟩
        · exact ⟨o, by rw [upd_ne z, upd_ne z2]; exact ho, hn⟩⟩
    exact ⟨e2.mono fun a z => z ▸ rl.tabM, rl.extT e2 t⟩
section
variable {T : Tab} {fa : Nat → Addr} {fd : Nat → FuncData} {exc : Nat → Addr} {run : Run} {n : Nat} {N : List Str} {W : WX} {sc : Scope} {X : Cx}
variable {G : Nat → Option D}
theorem CtxOk.lam (C : CtxOk T fa fd exc run n N W sc X) {scope : Scope} (hn : lamN scope = false) {A : Around} {outer : List Env} {s : Shared} {H : Hp} {E : XK} {f c' : Addr} (hr : Room (4 * n + 1) (A.deeper (LamX.lamEnv X scope s.heap.objs.size f c'))) :
    CtxOk T fa fd exc run n N (fun cls d _ H => E cls d H) scope (LamX.lamCx X A outer s H E scope f c') where
  nm := C.nm
  nd := C.nd
  sc := rfl
  calm := rfl
  room := hr
  tk := takes_of rfl rfl rfl rfl
  facts := C.facts
  ok := C.ok
  exk := C.exk
  gdk := C.gdk
  lamOk := fun _ z => by
    have e : (LamX.lamCx X A outer s H E scope f c').env.scope = scope := rfl
    rw [e, hn] at z
    cases z
theorem sim_lamc (C : CtxOk T fa fd exc run n N W sc X) {g : Gd} {k : Nat} {e : E} {x : Str} {ar : Arguments} {bd : Expr} {scope : Scope} {p0 lpos pos : Pos} (hg : glB sc x = true) (hl : T.lam = true) (hs : lamN sc = true) (hname : g.name = x) (hm : T.gds.contains g = true) (hk : k = T.excs.length) (hp : noPar ar = true)
    (hL : LamX.lamSB sc scope = true) (hb : ∀ (A : Around) (outer : List Env) (s : Shared) (H : Hp) (E : XK) (f c' : Addr), Room (4 * n + 1) (A.deeper (LamX.lamEnv X scope s.heap.objs.size f c')) → PE (LamX.lamCx X A outer s H E scope f c') bd (tE X.K exc (fun cls d _ H => E cls d H) G run e)) :
    PE X (.Call (.Name x p0) [.Lambda ar bd scope lpos] [] pos) (tE X.K exc W G run (.lamc g k e)) := by
  subst hname hk
  obtain ⟨TB, code, qual, room⟩ := C.lamOk hl (by rw [C.sc]; exact hs)
  obtain ⟨f, fdv, st, a, y, hmg, hkp, F, hB, ⟨gd, S, hy, hva, d2, d3, h1, h2⟩, hbl⟩ := (C.gdk g (List.contains_iff_mem.mp hm)).ex
  obtain ⟨oc, od, dV, kV, doc, pm, an, cdv, ct, osl, rfl, lk, cin, _, _⟩ := F.ex
  obtain ⟨g1, g2, g3⟩ := gl_of hg
  unfold noPar at hp
  split at hp
  case h_2 => cases hp
  refine (pe_lamH (TT := TTg T exc g) (k := 4 * n + 1) (Ng := [a, y]) (c := lawC X.K) (P := tabP X.K) (t := fun E => tE X.K exc (fun cls d _ H => E cls d H) G run e) (C.gl g1) hmg hkp lk cin hB S rfl hva (guard_gives gd C.exk S hy h1 h2 hbl) TB code qual room (by rw [C.sc]; exact LamX.lamS_by hL)
    rfl (fun _ _ _ _ _ => rfl) hb g2 d2 d3).qimp fun σ H Q q => ?_
  obtain ⟨F, M, env, rl, p⟩ := q
  simp only [evE] at p
  refine ⟨rl.tab, fun H1 made tab1 => ?_⟩
  obtain ⟨ex1, rl1⟩ := made_rel rl made tab1
  refine ⟨F, M, env, rl1, ?_⟩
  cases qe : evE G run e env with
  | bad => rw [qe] at p; exact p
  | ok d e1 =>
    rw [qe] at p
    exact fun v H' ex rl' _ => p _ H' (ex1.trans ex) rl' (by simp only [VX]; exact g.dfl.vr)
  | exc z e1 =>
    rw [qe] at p
    simp only at p
    split at p
    · rename_i hz
      simp only [Bool.and_eq_true, decide_eq_true_eq] at hz
      intro cls dd H' ex rl' xr
      have hd := xr.2
      rw [hz.1] at hd
      exact ⟨z.c, _, List.getElem?_eq_getElem hz.2, xr.1, hd, p _ H' (ex1.trans ex) rl' (by simp only [VX]; exact (g.hnd.ev z.c).vr)⟩
    · exact p.elim
end
end Qh

/-! Targets, what is walked, comprehensions. -/
namespace Qh
open PySem PySem.Spec PyProof.Rows L2 PySem.W
/-! ### targets -/
mutual
def tgT (K : PySem.W.Frag) : Tg → TG
  | .nm i => gName i
  | .tp gs => gTup K gs.len (tgTs K gs)
def tgTs (K : PySem.W.Frag) : Tgs → TGs
  | .nil => gNil
  | .cons g gs => gCons (tgT K g) (tgTs K gs)
def Tgs.len : Tgs → Nat
  | .nil => 0
  | .cons _ gs => gs.len + 1
end
/-- objects of one's own stay where they are -/
def Hold (env : En) (σ : SS) (env' : En) (σ' : SS) : Prop := ∀ (j : Nat) (o : O), env[j]? = some (Sl.own o) → (∃ o', env'[j]? = some (Sl.own o')) ∧ σ'[j]? = σ[j]?
theorem Hold.refl (env : En) (σ : SS) : Hold env σ env σ := fun _ o h => ⟨⟨o, h⟩, rfl⟩
theorem Hold.trans {e1 e2 e3 : En} {s1 s2 s3 : SS} (a : Hold e1 s1 e2 s2) (b : Hold e2 s2 e3 s3) : Hold e1 s1 e3 s3 := fun j o h => by
  obtain ⟨⟨o', h'⟩, q⟩ := a j o h
  obtain ⟨h2, q2⟩ := b j o' h'
  exact ⟨h2, q2.trans q⟩
section
variable {K : PySem.W.Frag} {F M : AS} {σ : SS} {H H' : Hp}
theorem Rel.setD {env : En} (r : Rel K F M env σ H) {i : Nat} {d : D} {v : V} (hv : VR K F H d v) : Rel K F M (env.set i (.dat d)) (σ.set i (some v)) H where
  len := by rw [List.length_set, List.length_set]; exact r.len
  dat := fun j x h => by
    by_cases e : i = j
    · subst e
      have hl : i < env.length := by
        have := (List.getElem?_eq_some_iff.mp h).1
        rwa [List.length_set] at this
      rw [List.getElem?_set_self hl] at h
      cases h
      exact ⟨v, List.getElem?_set_self (by rw [← r.len]; exact hl), hv⟩
    · rw [List.getElem?_set_ne e] at h
      rw [List.getElem?_set_ne e]
      exact r.dat j x h
  own := fun j o h => by
    by_cases e : i = j
    · subst e
      have hl : i < env.length := by
        have := (List.getElem?_eq_some_iff.mp h).1
        rwa [List.length_set] at this
      rw [List.getElem?_set_self hl] at h
      cases h
    · rw [List.getElem?_set_ne e] at h
      rw [List.getElem?_set_ne e]
      exact r.own j o h
  apart := fun j k o o' a h h' hs hs' => by
    have key : ∀ (j : Nat) (o : O), (env.set i (.dat d))[j]? = some (Sl.own o) → i ≠ j := fun j o h e => by
      subst e
      have hl : i < env.length := by
        have := (List.getElem?_eq_some_iff.mp h).1
        rwa [List.length_set] at this
      rw [List.getElem?_set_self hl] at h
      cases h
    have e1 := key j o h
    have e2 := key k o' h'
    rw [List.getElem?_set_ne e1] at h hs
    rw [List.getElem?_set_ne e2] at h' hs'
    exact r.apart j k o o' a h h' hs hs'
  sub := r.sub
  there := r.there
  tabM := r.tabM
  tab := r.tab
theorem Rel.set {env : En} (r : Rel K F M env σ H) {i : Nat} {d : D} {v : V} (hv : VR K F H d v) (_ : ∀ o, env[i]? ≠ some (Sl.own o)) : Rel K F M (env.set i (.dat d)) (σ.set i (some v)) H := r.setD hv
theorem wipe_set {σ : SS} {x : Option V} {i : Nat} : ∀ {vs : List Nat}, i ∈ vs → wipe (σ.set i x) vs = wipe σ vs
  | [], h => by simp at h
  | v :: vs, h => by
    unfold wipe
    by_cases e : i ∈ vs
    · rw [wipe_set e]
    · have e2 : i = v := by rcases List.mem_cons.mp h with z | z <;> first | exact z | exact absurd z e
      subst e2
      have key : ∀ vs : List Nat, i ∉ vs → wipe (σ.set i x) vs = (wipe σ vs).set i x := by
        intro vs
        induction vs with
        | nil => intro _; rfl
        | cons w vs ih =>
          intro hn
          simp only [List.mem_cons, not_or] at hn
          unfold wipe
          rw [ih hn.2, List.set_comm _ _ hn.1]
      rw [key vs e, List.set_set]
mutual
theorem asg_ok : ∀ (g : Tg) (d : D) (env env' : En) (v : V) (σ : SS) (Q : SS → Hp → Prop), asgT g d env = some env' → Rel K F M env σ H → VR K F H d v →
    (∀ σ', Rel K F M env' σ' H → Hold env σ env' σ' → (∀ vs : List Nat, (∀ i ∈ g.slots, i ∈ vs) → wipe σ' vs = wipe σ vs) → Q σ' H) → tgT K g v σ H Q
  | .nm i, d, env, env', v, σ, Q, h, r, hv, q => by
    simp only [asgT] at h
    have key : (∀ o, env[i]? ≠ some (Sl.own o)) ∧ env' = env.set i (.dat d) := by
      split at h
      · cases h
      · rename_i hn
        cases h
        refine ⟨fun o e => hn o ?_, rfl⟩
        unfold En.at
        rw [List.getD_eq_getElem?_getD, e]
        rfl
    obtain ⟨hn, rfl⟩ := key
    simp only [tgT]
    refine q _ (r.set hv hn) (fun j o e => ?_) fun vs hs => wipe_set (hs i (by simp [Tg.slots]))
    have ne : i ≠ j := fun z => by subst z; exact hn o e
    exact ⟨⟨o, by rw [List.getElem?_set_ne ne]; exact e⟩, List.getElem?_set_ne ne⟩
  | .tp gs, d, env, env', v, σ, Q, h, r, hv, q => by
    simp only [asgT] at h
    split at h
    · rename_i l
      obtain ⟨a, vs, rfl, t, rr⟩ := hv.tupT
      simp only [tgT]
      obtain ⟨hl, key⟩ := asgs_ok gs l env env' vs σ Q h r rr q
      exact ⟨a, vs, rfl, t, hl, key⟩
    · cases h
theorem asgs_ok : ∀ (gs : Tgs) (ds : List D) (env env' : En) (vs : List V) (σ : SS) (Q : SS → Hp → Prop), asgTs gs ds env = some env' → Rel K F M env σ H → VRs K F H ds vs →
    (∀ σ', Rel K F M env' σ' H → Hold env σ env' σ' → (∀ vs : List Nat, (∀ i ∈ gs.slots, i ∈ vs) → wipe σ' vs = wipe σ vs) → Q σ' H) → vs.length = gs.len ∧ tgTs K gs vs σ H Q
  | .nil, [], env, env', vs, σ, Q, h, r, hv, q => by
    have e := VRs.nil_iff.mp hv
    subst e
    simp only [asgTs, Option.some.injEq] at h
    subst h
    simp only [tgTs, Tgs.len]
    exact ⟨rfl, rfl, q σ r (Hold.refl _ _) fun _ _ => rfl⟩
  | .nil, d :: ds, env, env', vs, σ, Q, h, r, hv, q => by simp only [asgTs] at h; cases h
  | .cons g gs, [], env, env', vs, σ, Q, h, r, hv, q => by simp only [asgTs] at h; cases h
  | .cons g gs, d :: ds, env, env', vs, σ, Q, h, r, hv, q => by
    obtain ⟨v, u, rfl, h1, h2⟩ := hv.cons_inv
    simp only [asgTs] at h
    cases q1 : asgT g d env with
    | none => rw [q1] at h; cases h
    | some e1 =>
      rw [q1] at h
      have h' : asgTs gs ds e1 = some env' := h
      have len : u.length = gs.len := by
        rw [← h2.len]
        exact asgs_len gs ds e1 env' h'
      refine ⟨by simp only [List.length_cons, Tgs.len, len], ?_⟩
      simp only [tgTs]
      refine ⟨v, u, rfl, asg_ok g d env e1 v σ _ q1 r h1 fun σ1 r1 k1 w1 => (asgs_ok gs ds e1 env' u σ1 Q h' r1 h2 fun σ2 r2 k2 w2 => q σ2 r2 (k1.trans k2) fun vs hs => ?_).2⟩
      rw [w2 vs fun i hi => hs i (by simp only [Tgs.slots, List.mem_append]; exact .inr hi), w1 vs fun i hi => hs i (by simp only [Tgs.slots, List.mem_append]; exact .inl hi)]
theorem asgs_len : ∀ (gs : Tgs) (ds : List D) (env env' : En), asgTs gs ds env = some env' → ds.length = gs.len
  | .nil, [], _, _, _ => by simp only [Tgs.len, List.length_nil]
  | .nil, _ :: _, _, _, h => by simp only [asgTs] at h; cases h
  | .cons _ _, [], _, _, h => by simp only [asgTs] at h; cases h
  | .cons g gs, d :: ds, env, env', h => by
    simp only [asgTs] at h
    cases q1 : asgT g d env with
    | none => rw [q1] at h; cases h
    | some e1 =>
      rw [q1] at h
      simp only [List.length_cons, Tgs.len, asgs_len gs ds e1 env' h]
end
end
/-- what a name's storing asks of the context -/
def StoreOk (N : List Str) (sc : Scope) (X : Cx) : Prop := ∀ (i : Nat) (x : Str), locB N sc i x = true → X.N[i]? = some x ∧ Loc X.env.scope x ∧ (X.fn x = true ∨ X.env.scope.names.lookup x = some .local)
theorem asE_cons {e : Expr} {es : List Expr} {env : Env} (h : noStar e = true) : assignEach (e :: es) env = (false, assign e env) :: assignEach es env := by
  cases e <;> first | rfl | cases h
section
variable {T : Tab} {N : List Str} {sc : Scope} {X : Cx}
theorem chkTg_noStar {g : Tg} {e : Expr} (h : chkTg T N sc g e = true) : noStar e = true := by
  cases e <;> first | rfl | (cases g <;> simp only [chkTg] at h <;> cases h)
theorem chkTgs_each {env : Env} : ∀ {gs : Tgs} {es : List Expr}, chkTgs T N sc gs es = true → (assignEach es env).length = gs.len ∧ (assignEach es env).findIdx? (·.1) = none
  | .nil, [], _ => ⟨rfl, rfl⟩
  | .nil, _ :: _, h => by simp only [chkTgs] at h; cases h
  | .cons _ _, [], h => by simp only [chkTgs] at h; cases h
  | .cons g gs, e :: es, h => by
    simp only [chkTgs, Bool.and_eq_true] at h
    obtain ⟨h1, h2⟩ := chkTgs_each (env := env) h.2
    rw [asE_cons (chkTg_noStar h.1)]
    refine ⟨by rw [List.length_cons, h1, Tgs.len], ?_⟩
    rw [List.findIdx?_cons, h2]
    rfl
mutual
theorem sim_tg (hN : X.N.Nodup) (hc : X.calm = true) (hs : StoreOk N sc X) : ∀ (g : Tg) (e : Expr), chkTg T N sc g e = true → PG X e (tgT X.K g)
  | .nm i, e, h => by
    cases e <;> simp only [chkTg] at h <;> try (cases h; done)
    rename_i x pos
    obtain ⟨h1, h2, h3⟩ := hs i x h
    simp only [tgT]
    exact pg_name hN h1 h2 h3
  | .tp gs, e, h => by
    cases e <;> simp only [chkTg] at h <;> try (cases h; done)
    simp only [tgT]
    exact pg_tup hc (sim_tgs hN hc hs gs _ h) (chkTgs_each h).1 (chkTgs_each h).2
theorem sim_tgs (hN : X.N.Nodup) (hc : X.calm = true) (hs : StoreOk N sc X) : ∀ (g : Tgs) (e : List Expr), chkTgs T N sc g e = true → PGs X e (tgTs X.K g)
  | .nil, [], _ => by simp only [tgTs]; exact pgs_nil
  | .nil, _ :: _, h => by simp only [chkTgs] at h; cases h
  | .cons _ _, [], h => by simp only [chkTgs] at h; cases h
  | .cons g gs, e :: es, h => by
    simp only [chkTgs, Bool.and_eq_true] at h
    simp only [tgTs]
    exact pgs_cons (sim_tg hN hc hs g e h.1) (sim_tgs hN hc hs gs es h.2) (by rw [asE_cons (chkTg_noStar h.1)]; rfl)
end
end

/-! ### what is walked -/
/-- an iterator that gives these items, while what is known stands; F' what is forbidden by then -/
def Yl (K : PySem.W.Frag) (F : AS) (items : List D) (J : L2.It) (H : Hp) : Prop := ∀ (F' : AS) (H' : Hp), (∀ a, F' a → F a ∨ H a = none) → Ex F' H H' → (∀ a, F' a → NotTup H' a) →
  (∀ (i : Nat) (d : D), items[i]? = some d → J.go i H' ∧ ∀ x H2, J.yld i H' x H2 → Ex NoM H' H2 ∧ VR K F' H2 d x) ∧ J.stop items.length H'
section
variable {K : PySem.W.Frag} {F M : AS} {H : Hp}
theorem VR.further {F' : AS} {H' : Hp} {d : D} {v : V} (h : VR K F H d v) (f : ∀ a, F' a → F a ∨ H a = none) (e : Ex F' H H') : VR K F' H' d v :=
  VR.ext (VR.mono (fun _ _ q _ => q) (fun a o e n z => by
    rcases f a z with z | z
    · exact n z
    · rw [e] at z; cases z) d v h) e.toExt fun _ z => z
theorem yl_list {l : List D} {v : V} (h : VR K F H (.lst l) v) : ∃ a, v = .ref a ∧ (∃ xs, SqL K H a xs) ∧ Yl K F l (Itl K a) H := by
  obtain ⟨a, vs, rfl, t, r⟩ := h.lstL
  refine ⟨a, rfl, ⟨vs, .of t⟩, fun F' H' f e _ => ?_⟩
  obtain ⟨a', vs', e1, t', r'⟩ := (h.further f e).lstL
  cases e1
  refine ⟨fun i d hd => ?_, ⟨vs', .of t', by rw [r'.len]; exact Nat.le_refl _⟩⟩
  obtain ⟨u, hu, ru⟩ := r'.at_ hd
  refine ⟨⟨vs', u, .of t', hu⟩, fun x H2 y => ?_⟩
  obtain ⟨rfl, y⟩ := y
  have e2 := y vs' (.of t')
  rw [hu] at e2
  cases e2
  exact ⟨Ex.refl _ _, ru⟩
theorem yl_tup {l : List D} {v : V} (h : VR K F H (.tup l) v) : ∃ a, v = .ref a ∧ (∃ xs, SqT K H a xs) ∧ Yl K F l (Itt K a) H := by
  obtain ⟨a, vs, rfl, t, r⟩ := h.tupT
  refine ⟨a, rfl, ⟨vs, t⟩, fun F' H' f e _ => ?_⟩
  obtain ⟨a', vs', e1, t', r'⟩ := (h.further f e).tupT
  cases e1
  refine ⟨fun i d hd => ?_, ⟨vs', t', by rw [r'.len]; exact Nat.le_refl _⟩⟩
  obtain ⟨u, hu, ru⟩ := r'.at_ hd
  refine ⟨⟨vs', u, t', hu⟩, fun x H2 y => ?_⟩
  obtain ⟨rfl, y⟩ := y
  have e2 := y vs' t'
  rw [hu] at e2
  cases e2
  exact ⟨Ex.refl _ _, ru⟩
theorem yl_dict {ks vs : List D} {v : V} (ht : allT ks = true) (h : VR K F H (.dct ks vs) v) : ∃ a xs ep, v = .ref a ∧ H a = some (hoX a xs ep) ∧ (a == sysModules) = false ∧ Yl K F ks (Itx a xs ep) H := by
  obtain ⟨a, rfl, nF, r⟩ := h.dctI
  obtain ⟨xs, t⟩ := r.t ht
  obtain ⟨ep, e0⟩ := t.p.at_
  refine ⟨a, xs, ep, rfl, e0, t.p.low, fun F' H' f e _ => ?_⟩
  have nF' : ¬ F' a := fun z => by
    rcases f a z with z | z
    · exact nF z
    · rw [e0] at z; cases z
  have e1 : H' a = some (hoX a xs ep) := e.keep a _ e0 nF'
  have hk : VRs K F' H' ks (xs.map kvV) := VRs.ext (VRs.mono (fun _ _ q _ => q) (fun a o e n z => by
    rcases f a z with z | z
    · exact n z
    · rw [e] at z; cases z) ks _ t.al.out.1) e.toExt fun _ z => z
  refine ⟨fun i d hd => ?_, e1, by rw [t.al.len.1]; exact Nat.le_refl _⟩
  obtain ⟨u, hu, ru⟩ := hk.at_ hd
  have hi : i < xs.length := by
    have := (List.getElem?_eq_some_iff.mp hd).1
    rw [t.al.len.1] at this
    exact this
  refine ⟨⟨e1, hi⟩, fun x H2 y => ?_⟩
  obtain ⟨rfl, en, hen, rfl⟩ := y
  refine ⟨Ex.refl _ _, ?_⟩
  rw [List.getElem?_map, hen] at hu
  cases hu
  exact ru
theorem yl_range {lo : Int} {n : Nat} : Yl K F (rangeD lo n) (Itr lo n) H := fun F' H' _ _ _ => by
  refine ⟨fun i d hd => ?_, ?_⟩
  · unfold rangeD at hd
    rw [List.getElem?_map] at hd
    cases q : (List.range n)[i]? with
    | none => rw [q] at hd; cases hd
    | some k =>
      rw [q] at hd
      obtain ⟨h1, h2⟩ := List.getElem?_eq_some_iff.mp q
      rw [List.length_range] at h1
      rw [List.getElem_range] at h2
      subst h2
      refine ⟨h1, fun x H2 y => ?_⟩
      obtain ⟨rfl, rfl⟩ := y
      cases hd
      exact ⟨Ex.refl _ _, by simp only [VR]⟩
  · show n ≤ (rangeD lo n).length
    unfold rangeD
    rw [List.length_map, List.length_range]
    exact Nat.le_refl _
theorem yl_enum {l : List D} {v : V} (h : VR K F H (.lst l) v) : ∃ a xs, v = .ref a ∧ SqL K H a xs ∧ Yl K F (enumD l) (Ite K a) H := by
  obtain ⟨a, vs, rfl, t, r⟩ := h.lstL
  refine ⟨a, vs, rfl, .of t, fun F' H' f e fr => ?_⟩
  obtain ⟨a', vs', e1, t', r'⟩ := (h.further f e).lstL
  cases e1
  have el : (enumD l).length = l.length := by
    unfold enumD
    rw [List.length_zipWith, List.length_range, Nat.min_self]
  refine ⟨fun i d hd => ?_, ⟨vs', .of t', by rw [el, r'.len]; exact Nat.le_refl _⟩⟩
  unfold enumD at hd
  rw [List.getElem?_zipWith] at hd
  cases q : l[i]? with
  | none => rw [q] at hd; cases q2 : (List.range l.length)[i]? <;> rw [q2] at hd <;> cases hd
  | some x =>
    have hi := (List.getElem?_eq_some_iff.mp q).1
    rw [q, List.getElem?_range hi] at hd
    have hd' : D.tup [.int (i : Int), x] = d := Option.some.inj hd
    subst hd'
    obtain ⟨u, hu, ru⟩ := r'.at_ q
    refine ⟨⟨vs', u, .of t', hu⟩, fun y H2 yy => ?_⟩
    obtain ⟨T, w, rfl, hT, rfl, hw⟩ := yy
    have e2 := hw vs' (.of t')
    rw [hu] at e2
    cases e2
    refine ⟨(Ext.new hT).ex, VR.new_tup (.cons_mk (by simp only [VR]) (.cons_mk ru (VRs.nil_iff.mpr rfl))) hT fun f => ?_⟩
    obtain ⟨o, ho, _⟩ := fr T f
    rw [hT] at ho
    cases ho
end
section
variable {T : Tab} {fa : Nat → Addr} {fd : Nat → FuncData} {exc : Nat → Addr} {run : Run} {n : Nat} {N : List Str} {W : WX} {sc : Scope} {X : Cx}
variable {G : Nat → Option D}
def tI (K : PySem.W.Frag) (exc : Nat → Addr) (W : WX) (G : Nat → Option D) (run : Run) (m : It) : TI := fun σ H R => ∃ F M env, Rel K F M env σ H ∧ Post K exc W F M σ H (fun items J H => Yl K F items J H) (evIt G run m env) R
theorem sim_seq {e : E} {tg x : Expr} (nb : isBor e = false) (h : PE X x ((tE X.K exc W G run) e)) : PI X tg x (tI X.K exc W G run (.seq e)) := by
  refine ⟨fun pins s σ H R I q => ?_⟩
  obtain ⟨F, M, env, rl, p⟩ := q
  simp only [evIt] at p
  cases q : evE G run e env with
  | bad => rw [q] at p; exact p.elim
  | exc y e1 =>
    refine (pi_tup h).run pins s σ H R I ⟨F, M, env, rl, ?_⟩
    rw [q] at p ⊢
    exact p
  | ok d e1 =>
    rw [q] at p
    simp only [Res.bind] at p
    cases d <;> try exact p.elim
    · refine (pi_tup h).run pins s σ H R I ⟨F, M, env, rl, ?_⟩
      rw [q]
      intro v H1 ex rl1 hv
      obtain ⟨a, e2, hs, y⟩ := yl_tup (hv.vr nb)
      exact ⟨a, e2, hs, p _ H1 ex rl1 y⟩
    · refine (pi_list h).run pins s σ H R I ⟨F, M, env, rl, ?_⟩
      rw [q]
      intro v H1 ex rl1 hv
      obtain ⟨a, e2, hs, y⟩ := yl_list (hv.vr nb)
      exact ⟨a, e2, hs, p _ H1 ex rl1 y⟩
    · rename_i ks vs
      simp only at p
      split at p
      · rename_i ht
        refine (pi_dictX h).run pins s σ H R I ⟨F, M, env, rl, ?_⟩
        rw [q]
        intro v H1 ex rl1 hv
        obtain ⟨a, xs, ep, e2, e3, lo, y⟩ := yl_dict ht (hv.vr nb)
        exact ⟨a, xs, ep, e2, e3, lo, p _ H1 ex rl1 y⟩
      · exact p.elim
theorem _root_.L2.PI.qimp {X : Cx} {tg e : Expr} {t t' : TI} (h : PI X tg e t) (i : ∀ σ H Q, t' σ H Q → t σ H Q) : PI X tg e t' := ⟨fun pins s σ H Q I q => h.run pins s σ H Q I (i σ H Q q)⟩
theorem sim_rng1 (C : CtxOk T fa fd exc run n N W sc X) {e : E} {tg a : Expr} {x : Str} {p0 pos : Pos} (hg : glB sc x = true) (hx : x = "range") (hb : T.blts.contains x = true) (nb : isBor e = false) (hs : noStar a = true) (h : PE X a ((tE X.K exc W G run) e)) : PI X tg (.Call (.Name x p0) [a] [] pos) (tI X.K exc W G run (.rng1 e)) := by
  subst hx
  obtain ⟨g1, g2, g3⟩ := gl_of hg
  refine (pi_range1 (C.gl g1) (C.facts.blt _ hb) (pa_cons h pa_nil (star_cons hs)) (by rw [star_cons hs]; rfl)).qimp fun σ H R q => ?_
  obtain ⟨F, M, env, rl, p⟩ := q
  simp only [evIt] at p
  refine ⟨F, M, env, rl, p.bind fun d e1 v H1 q1 ex1 rl1 hd p1 => ?_⟩
  clear q1
  have hv := hd.vr nb
  cases d <;> try exact p1.elim
  rename_i k
  cases hv.intI
  simp only at p1
  split at p1
  · rename_i hk
    simp only [Bool.and_eq_true, decide_eq_true_eq] at hk
    exact ⟨k, rfl, hk.1, hk.2, Post.here (a := rangeD 0 k.toNat) (R := fun items J H => Yl X.K F items J H) p1 rl1 yl_range⟩
  · exact p1.elim
theorem sim_rng2 (C : CtxOk T fa fd exc run n N W sc X) {e e' : E} {tg a b : Expr} {x : Str} {p0 pos : Pos} (hg : glB sc x = true) (hx : x = "range") (hb : T.blts.contains x = true) (nb : isBor e = false) (nb' : isBor e' = false) (hs : noStar a = true) (hs' : noStar b = true) (h : PE X a ((tE X.K exc W G run) e)) (h' : PE X b ((tE X.K exc W G run) e')) :
    PI X tg (.Call (.Name x p0) [a, b] [] pos) (tI X.K exc W G run (.rng2 e e')) := by
  subst hx
  obtain ⟨g1, g2, g3⟩ := gl_of hg
  refine (pi_range2 (C.gl g1) (C.facts.blt _ hb) (pa_cons h (pa_cons h' pa_nil (star_cons hs')) (star_cons hs)) (by rw [star_cons hs, star_cons hs']; rfl) (by rw [star_cons hs']; rfl)).qimp fun σ H R q => ?_
  obtain ⟨F, M, env, rl, p⟩ := q
  simp only [evIt] at p
  refine ⟨F, M, env, rl, p.bind fun d e1 v H1 q1 ex1 rl1 hd p1 => ⟨F, M, e1, rl1, p1.bind fun d2 e2 v2 H2 q2 ex2 rl2 hd2 p2 => ?_⟩⟩
  clear q1 q2
  have hv := hd.vr nb
  have hv2 := hd2.vr nb'
  split at p2
  · rename_i i j
    cases hv.intI
    cases hv2.intI
    split at p2
    · rename_i hk
      simp only [Bool.and_eq_true, decide_eq_true_eq] at hk
      exact ⟨i, j, rfl, ⟨hk.1.1.1, hk.1.1.2, hk.1.2, hk.2⟩, Post.here (a := rangeD i (j - i).toNat) (R := fun items J H => Yl X.K F items J H) p2 rl2 yl_range⟩
    · exact p2.elim
  · exact p2.elim
theorem sim_enum (C : CtxOk T fa fd exc run n N W sc X) {e : E} {elts : List Expr} {kk : Nat} {tpos : Pos} {a : Expr} {x : Str} {p0 pos : Pos} (hg : glB sc x = true) (hx : x = "enumerate") (hb : T.blts.contains x = true) (nb : isBor e = false) (hs : noStar a = true) (h : PE X a ((tE X.K exc W G run) e)) :
    PI X (.Tuple elts kk tpos) (.Call (.Name x p0) [a] [] pos) (tI X.K exc W G run (.enum e)) := by
  subst hx
  obtain ⟨g1, g2, g3⟩ := gl_of hg
  refine (pi_enum (C.gl g1) (C.facts.blt _ hb) (pa_cons h pa_nil (star_cons hs)) (by rw [star_cons hs]; rfl)).qimp fun σ H R q => ?_
  obtain ⟨F, M, env, rl, p⟩ := q
  simp only [evIt] at p
  refine ⟨F, M, env, rl, p.bind fun d e1 v H1 q1 ex1 rl1 hd p1 => ?_⟩
  clear q1
  have hv := hd.vr nb
  cases d <;> try exact p1.elim
  rename_i l
  obtain ⟨a, xs, e2, hs2, y⟩ := yl_enum hv
  exact ⟨a, xs, by rw [e2], hs2, Post.here (a := enumD l) (R := fun items J H => Yl X.K F items J H) p1 rl1 y⟩
end
end Qh

/-! List comprehensions. -/
namespace Qh
open PySem PySem.Spec PyProof.Rows L2 PySem.W
def W0 : WX := fun _ _ _ _ => False
theorem wipe_none {σ : SS} {i : Nat} : ∀ {vs : List Nat}, i ∈ vs → ∀ v, (wipe σ vs)[i]? ≠ some (some v) := fun hi v h => (wipe_some h).2 hi
theorem wipe_at {σ : SS} {i : Nat} : ∀ {vs : List Nat}, i ∉ vs → (wipe σ vs)[i]? = σ[i]?
  | [], _ => rfl
  | v :: vs, h => by
    simp only [List.mem_cons, not_or] at h
    unfold wipe
    rw [List.getElem?_set_ne (Ne.symm h.1), wipe_at h.2]
theorem wipe_wipe {σ : SS} {vs : List Nat} : wipe (wipe σ vs) vs = wipe σ vs := by
  apply List.ext_getElem?
  intro i
  by_cases h : i ∈ vs
  · have a := wipe_none (σ := wipe σ vs) h
    have b := wipe_none (σ := σ) h
    have l : (wipe (wipe σ vs) vs).length = (wipe σ vs).length := by rw [wipe_length]
    cases q : (wipe (wipe σ vs) vs)[i]? with
    | none =>
      have := List.getElem?_eq_none_iff.mp q
      rw [l] at this
      rw [List.getElem?_eq_none this]
    | some x =>
      cases x with
      | some v => exact absurd q (a v)
      | none =>
        have := (List.getElem?_eq_some_iff.mp q).1
        rw [l] at this
        rw [List.getElem?_eq_getElem this]
        cases z : (wipe σ vs)[i] with
        | none => rfl
        | some v => exact absurd (by rw [List.getElem?_eq_getElem this, z]) (b v)
  · rw [wipe_at h]
theorem wipeE_len {env : En} : ∀ vs : List Nat, (wipeE env vs).length = env.length
  | [] => rfl
  | v :: vs => by unfold wipeE; rw [List.length_set, wipeE_len vs]
theorem wipeE_at {env : En} {i : Nat} : ∀ {vs : List Nat}, i ∉ vs → (wipeE env vs)[i]? = env[i]?
  | [], _ => rfl
  | v :: vs, h => by
    simp only [List.mem_cons, not_or] at h
    unfold wipeE
    rw [List.getElem?_set_ne (Ne.symm h.1), wipeE_at h.2]
theorem set_get {α : Type} {l : List α} {v i : Nat} {a x : α} (h : (l.set v a)[i]? = some x) : (i = v ∧ x = a) ∨ (i ≠ v ∧ l[i]? = some x) := by
  by_cases e : v = i
  · subst e
    have hl : v < l.length := by
      have := (List.getElem?_eq_some_iff.mp h).1
      rwa [List.length_set] at this
    rw [List.getElem?_set_self hl] at h
    cases h
    exact .inl ⟨rfl, rfl⟩
  · rw [List.getElem?_set_ne e] at h
    exact .inr ⟨fun z => e z.symm, h⟩
theorem wipeE_in {env : En} {i : Nat} {s : Sl} : ∀ {vs : List Nat}, i ∈ vs → (wipeE env vs)[i]? = some s → s = .non
  | [], h, _ => by simp at h
  | v :: vs, h, e => by
    unfold wipeE at e
    rcases set_get e with ⟨_, q⟩ | ⟨n, q⟩
    · exact q
    · rcases List.mem_cons.mp h with z | z
      · exact absurd z n
      · exact wipeE_in z q
theorem backE_len {orig env : En} : ∀ vs : List Nat, (backE orig env vs).length = env.length
  | [] => rfl
  | v :: vs => by unfold backE; rw [List.length_set, backE_len vs]
theorem backE_at {orig env : En} {i : Nat} : ∀ {vs : List Nat}, i ∉ vs → (backE orig env vs)[i]? = env[i]?
  | [], _ => rfl
  | v :: vs, h => by
    simp only [List.mem_cons, not_or] at h
    unfold backE
    rw [List.getElem?_set_ne (Ne.symm h.1), backE_at h.2]
theorem backE_in {orig env : En} {i : Nat} {s : Sl} : ∀ {vs : List Nat}, i ∈ vs → (backE orig env vs)[i]? = some s → s = .non ∨ ∃ d, s = .dat d ∧ orig[i]? = some (.dat d)
  | [], h, _ => by simp at h
  | v :: vs, h, e => by
    unfold backE at e
    rcases set_get e with ⟨rfl, q⟩ | ⟨n, q⟩
    · subst q
      split
      · rename_i d hd
        exact .inr ⟨d, rfl, En.at_of hd (fun z => nomatch z)⟩
      · exact .inl rfl
    · rcases List.mem_cons.mp h with z | z
      · exact absurd z n
      · exact backE_in z q
section
variable {K : PySem.W.Frag} {F F' M : AS} {σ : SS} {H H' : Hp} {env : En} {vs : List Nat}
theorem Rel.wipe (r : Rel K F M env σ H) (vs : List Nat) : Rel K F M (wipeE env vs) (L2.wipe σ vs) H := by
  have key : ∀ (i : Nat) (s : Sl), (wipeE env vs)[i]? = some s → s ≠ .non → i ∉ vs ∧ env[i]? = some s := fun i s h n => by
    have q : i ∉ vs := fun z => n (wipeE_in z h)
    exact ⟨q, by rw [← wipeE_at q]; exact h⟩
  exact {
    len := by rw [wipeE_len, wipe_length]; exact r.len
    dat := fun i d h => by
      obtain ⟨a, b⟩ := key i _ h (fun z => nomatch z)
      rw [wipe_at a]
      exact r.dat i d b
    own := fun i o h => by
      obtain ⟨a, b⟩ := key i _ h (fun z => nomatch z)
      rw [wipe_at a]
      exact r.own i o b
    apart := fun i j o o' a h h' s s' => by
      obtain ⟨a1, b1⟩ := key i _ h (fun z => nomatch z)
      obtain ⟨a2, b2⟩ := key j _ h' (fun z => nomatch z)
      rw [wipe_at a1] at s
      rw [wipe_at a2] at s'
      exact r.apart i j o o' a b1 b2 s s'
    sub := r.sub
    there := r.there
    tabM := r.tabM
    tab := r.tab }
/-- a new object besides that no value reaches -/
theorem Rel.more {D : Addr} {o : HO} (r : Rel K F M env σ H) (hD : H D = none) (ho : ∀ vs, o ≠ .tup vs) : Rel K (fun a => F a ∨ a = D) M env σ (upd H D o) where
  len := r.len
  dat := fun i d h => let ⟨v, a, b⟩ := r.dat i d h; ⟨v, a, (b.more hD).ext (M := NoM) (Ext.new hD) fun _ z => z.elim⟩
  own := fun i o' h => by
    obtain ⟨a, b, c, d⟩ := r.own i o' h
    refine ⟨a, b, c, ?_⟩
    have e : OR K (fun a => F a ∨ a = D) H o' a := d.mono (fun _ q => q) (fun _ _ q _ => q) fun a o q n z => z.elim n fun e => by rw [e, hD] at q; cases q
    exact e.ext (M' := NoM) (fun z => z) (Ext.new hD) fun _ z => z.elim
  apart := r.apart
  sub := fun a m => .inl (r.sub a m)
  there := fun a z => by
    by_cases e : a = D
    · subst e; exact ⟨o, upd_same, ho⟩
    · rcases z with z | z
      · obtain ⟨u, q, n⟩ := r.there a z
        exact ⟨u, by rw [upd_ne e]; exact q, n⟩
      · exact absurd z e
  tabM := r.tabM
  tab := r.tab.new hD
/-- a forbidden object that is no name's own is changed -/
theorem Rel.poke {D : Addr} {o : HO} (r : Rel K F M env σ H) (hF : F D) (hM : ¬ M D) (ho : ∀ vs, o ≠ .tup vs) (hp : Plain H D) : Rel K F M env σ (upd H D o) := by
  have e : Ext (fun a => a = D) H (upd H D o) := Ext.put rfl (by obtain ⟨u, q, _⟩ := r.there D hF; rw [q]; intro z; cases z)
  exact {
    len := r.len
    dat := fun i d h => let ⟨v, a, b⟩ := r.dat i d h; ⟨v, a, b.ext e fun _ z => z ▸ hF⟩
    own := fun i o' h => by
      obtain ⟨a, b, c, d⟩ := r.own i o' h
      exact ⟨a, b, c, d.ext (M' := fun a => a = D) (fun z => hM (z ▸ c)) e fun _ z => z ▸ hF⟩
    apart := r.apart
    sub := r.sub
    there := fun a z => by
      by_cases e : a = D
      · subst e; exact ⟨o, upd_same, ho⟩
      · obtain ⟨u, q, n⟩ := r.there a z
        exact ⟨u, by rw [upd_ne e]; exact q, n⟩
    tabM := r.tabM
    tab := r.tab.put hp }
theorem Rel.unwipe {e5 : En} {F' : AS} (r1 : Rel K F M env σ H) (r5 : Rel K F' M e5 (L2.wipe σ vs) H') (hF : ∀ a, F a → F' a) (ex : Ex M H H') : Rel K F M (backE env e5 vs) σ H' := by
  have own : ∀ (i : Nat) (o : O), (backE env e5 vs)[i]? = some (.own o) → i ∉ vs ∧ e5[i]? = some (.own o) := fun i o h => by
    have q : i ∉ vs := fun z => by
      rcases backE_in z h with q | ⟨d, q, _⟩ <;> cases q
    exact ⟨q, by rw [← backE_at q]; exact h⟩
  exact {
    len := by rw [backE_len, r5.len, wipe_length]
    dat := fun i d h => by
      by_cases q : i ∈ vs
      · rcases backE_in q h with z | ⟨d', z, e⟩
        · cases z
        · cases z
          obtain ⟨v, a, b⟩ := r1.dat i d e
          exact ⟨v, a, b.ext ex.toExt r1.sub⟩
      · rw [backE_at q] at h
        obtain ⟨v, a, b⟩ := r5.dat i d h
        rw [wipe_at q] at a
        exact ⟨v, a, b.less hF⟩
    own := fun i o h => by
      obtain ⟨q, h⟩ := own i o h
      obtain ⟨a, b, c, d⟩ := r5.own i o h
      rw [wipe_at q] at b
      exact ⟨a, b, c, d.less hF⟩
    apart := fun i j o o' a h h' s s' => by
      obtain ⟨q, h⟩ := own i o h
      obtain ⟨q', h'⟩ := own j o' h'
      rw [← wipe_at (vs := vs) q] at s
      rw [← wipe_at (vs := vs) q'] at s'
      exact r5.apart i j o o' a h h' s s'
    sub := r1.sub
    there := fun a z => r5.there a (hF a z)
    tabM := r1.tabM
    tab := r5.tab }
end
section
variable {T : Tab} {fa : Nat → Addr} {fd : Nat → FuncData} {exc : Nat → Addr} {run : Run} {n : Nat} {N : List Str} {W : WX} {sc : Scope} {X : Cx}
variable {G : Nat → Option D}
theorem noExc_ok {α : Type} {r : Res α} {K : PySem.W.Frag} {F M : AS} {σ : SS} {H : Hp} {β γ : Type} {R : γ → β → Hp → Prop} {k : α → En → Res γ} {Q : β → Hp → Prop} (p : Post K exc W F M σ H R ((noExc r).bind k) Q) : ∃ a e, r = .ok a e ∧ Post K exc W F M σ H R (k a e) Q := by
  cases r with
  | ok a e => exact ⟨a, e, rfl, p⟩
  | exc x e => exact p.elim
  | bad => exact p.elim
theorem lcBody_eq (own : List Nat) (g : D → En → Option En) (t : En → Res Bool) (el : En → Res D) (x : D) (env : En) : lcBody own g t el x env = match g x env with
  | none => .bad
  | some e2 => (t e2).bind fun b e3 => if b = true then (el e3).bind fun y e4 => .ok (some y) (wipeE e4 own) else .ok none (wipeE e3 own) := rfl
/-- the turns of a comprehension's loop, by an answer that came -/
theorem lc_loop {K : PySem.W.Frag} {own : List Nat} {it : It} {g : Tg} {t : Oe} {e : E} {env : En} {F M : AS} {σ : SS} {H : Hp} {Q : VK} (hsl : ∀ i ∈ g.slots, i ∈ own) (nb : isBor e = false) (rl : Rel K F M env σ H)
    (p : Post K exc W F M σ H (VX K F σ (.lc own it g t e)) (evE G run (.lc own it g t e) env) Q) :
    tLc (tI K exc W G run it) (tgT K g) (tOT K exc W0 G run t) (tE K exc W0 G run e) own σ H Q := by
  simp only [evE] at p
  refine ⟨F, M, env, rl, p.bind fun items e1 J H1 q1 ex1 rl1 hy p1 => ?_⟩
  clear q1
  split at p1
  · exact p1.elim
  obtain ⟨l, e5, q, p2⟩ := noExc_ok p1
  clear p p1
  intro D hD
  have nF : ¬ F D := rl1.fresh D hD
  have nM : ¬ M D := fun z => nF (rl1.sub D z)
  have exD : ∀ o, Ex M H1 (upd H1 D o) := fun o => (Ext.new (M := NoM) hD).exM
  have hF : ∀ a, F a → F a ∨ a = D := fun a z => .inl z
  have hsub : ∀ a, M a → F a ∨ a = D := fun a z => .inl (rl1.sub a z)
  have hfr : ∀ a, (F a ∨ a = D) → F a ∨ H1 a = none := fun a z => by
    rcases z with z | z
    · exact .inl z
    · exact .inr (by rw [z]; exact hD)
  refine ⟨fun i m H' => ∃ rest acc env' ws, rest = items.drop i ∧ i + rest.length = items.length ∧ m = rest.length ∧ lcLoop (lcBody own (asgT g) (evT G run t) (evE G run e)) rest acc env' = .ok l e5 ∧ Rel K (fun a => F a ∨ a = D) M env' (wipe σ own) H' ∧ Ex M H1 H' ∧ H' D = some (.lst ws) ∧ VRs K (fun a => F a ∨ a = D) H' acc ws,
    ⟨items.length, items, [], wipeE e1 own, [], rfl, by omega, rfl, q, (rl1.wipe own).more hD (fun _ z => nomatch z), exD _, upd_same, VRs.nil_iff.mpr rfl⟩, fun i m H' w => ?_⟩
  obtain ⟨rest, acc, env', ws, e1', e2', rfl, q, rl', ex', hw, hr⟩ := w
  obtain ⟨yl, ys⟩ := hy _ H' hfr (ex'.mono hsub) rl'.there
  cases rest with
  | nil =>
    simp only [List.length_nil, Nat.add_zero] at e2'
    subst e2'
    refine .inl ⟨ys, ?_⟩
    unfold lcLoop at q
    split at q
    · cases q
      refine p2 (.ref D) H' ex' (rl1.unwipe rl' hF ex') ?_
      show VR K F H' (.lst _) (.ref D)
      simp only [VR]
      exact ⟨D, ws, rfl, nF, hw, hr.less hF⟩
    · cases q
  | cons x xs =>
    have hi : items[i]? = some x := by
      rw [← List.head?_drop, ← e1']; rfl
    have hxs : xs = items.drop (i + 1) := by
      rw [← List.tail_drop, ← e1']; rfl
    obtain ⟨go, yld⟩ := yl i x hi
    refine .inr ⟨go, fun H'' => ∃ acc env' ws, lcLoop (lcBody own (asgT g) (evT G run t) (evE G run e)) xs acc env' = .ok l e5 ∧ Rel K (fun a => F a ∨ a = D) M env' (wipe σ own) H'' ∧ Ex M H1 H'' ∧ H'' D = some (.lst ws) ∧ VRs K (fun a => F a ∨ a = D) H'' acc ws,
      fun H'' ⟨acc, env', ws, a, b, c, d, f⟩ => ⟨xs.length, by simp, xs, acc, env', ws, hxs, by simp only [List.length_cons] at e2'; omega, rfl, a, b, c, d, f⟩, fun v H2 y => ?_⟩
    obtain ⟨ex2, hv⟩ := yld v H2 y
    unfold lcLoop at q
    split at q
    case isFalse => cases q
    rename_i hlt
    rw [lcBody_eq] at q
    cases q3 : asgT g x env' with
    | none => rw [q3] at q; cases q
    | some e2 =>
      rw [q3] at q
      simp only at q
      have rl2 := rl'.ext ex2
      refine asg_ok g x env' e2 v (wipe σ own) _ q3 rl2 hv fun σ2 rl3 _ wp => ?_
      have hwp : wipe σ2 own = wipe σ own := by rw [wp own hsl, wipe_wipe]
      refine ⟨hwp.trans (by rfl), ⟨_, M, e2, rl3, ?_⟩⟩
      cases q4 : evT G run t e2 with
      | bad => rw [q4] at q; cases q
      | exc y e3 => rw [q4] at q; cases q
      | ok b e3 =>
        rw [q4] at q
        intro b' H3 ex3 rl4 hb
        have hb : b = b' := hb
        subst hb
        have ex13 : Ex M H1 H3 := (ex'.trans (ex2.mono fun _ z => z.elim)).trans ex3
        have hD3 : H3 D = some (.lst ws) := ex3.keep D _ (ex2.keep D _ hw (fun z => z)) nM
        have hr3 : VRs K (fun a => F a ∨ a = D) H3 acc ws := (hr.ext ex2.toExt fun _ z => z.elim).ext ex3.toExt hsub
        cases b with
        | false =>
          simp only [Bool.false_eq_true, if_false]
          refine ⟨acc, wipeE e3 own, ws, ?_, ?_, ex13, hD3, hr3⟩
          · simpa [Res.bind] using q
          · have := rl4.wipe own
            rwa [hwp] at this
        | true =>
          simp only [if_true]
          refine ⟨_, M, e3, rl4, ?_⟩
          cases q5 : evE G run e e3 with
          | bad => simp [Res.bind, q5] at q
          | exc y e4 => simp [Res.bind, q5] at q
          | ok y e4 =>
            intro yv H4 ex4 rl5 hyv
            have hyv := hyv.vr nb
            have hD4 : H4 D = some (.lst ws) := ex4.keep D _ hD3 nM
            have hr4 : VRs K (fun a => F a ∨ a = D) H4 acc ws := hr3.ext ex4.toExt hsub
            have ep : Ext (fun a => a = D) H4 (upd H4 D (.lst (ws ++ [yv]))) := Ext.put rfl (by rw [hD4]; intro z; cases z)
            refine ⟨ws, hD4, ?_, acc ++ [y], wipeE e4 own, ws ++ [yv], ?_, ?_, ?_, upd_same, ?_⟩
            · rw [← hr4.len]
              exact Nat.lt_of_lt_of_le hlt (big_line (Nat.le_refl _))
            · simpa [Res.bind, q5] using q
            · have := (rl5.wipe own).poke (D := D) (o := .lst (ws ++ [yv])) (.inr rfl) nM (fun _ z => nomatch z) (.lst hD4)
              rwa [hwp] at this
            · have ex14 := ex13.trans ex4
              refine ⟨⟨fun a o ha hn => ?_, fun a ha => ep.dom a (ex14.dom a ha)⟩, fun a ha => ?_⟩
              · have hne : a ≠ D := fun z => by rw [z, hD] at ha; cases ha
                rw [upd_ne hne]
                exact ex14.keep a o ha hn
              · have hne : a ≠ D := fun z => by obtain ⟨o, ho, _⟩ := ha; rw [z, hD] at ho; cases ho
                obtain ⟨o, ho, hn⟩ := ex14.nt a ha
                exact ⟨o, by rw [upd_ne hne]; exact ho, hn⟩
            · exact (hr4.append (.cons_mk hyv (VRs.nil_iff.mpr rfl))).ext ep fun a z => .inr z
end
end Qh

/-! Two clauses; expressions as a whole. -/
namespace Qh
open PySem PySem.Spec PyProof.Rows L2 PySem.W
theorem wipe_sub {σ : SS} {vs ws : List Nat} (h : ∀ i ∈ ws, i ∈ vs) : wipe (wipe σ ws) vs = wipe σ vs := by
  apply List.ext_getElem?
  intro i
  by_cases hi : i ∈ vs
  · have a := wipe_none (σ := wipe σ ws) hi
    have b := wipe_none (σ := σ) hi
    have l : (wipe (wipe σ ws) vs).length = (wipe σ vs).length := by rw [wipe_length, wipe_length, wipe_length]
    cases q : (wipe (wipe σ ws) vs)[i]? with
    | none =>
      have := List.getElem?_eq_none_iff.mp q
      rw [l] at this
      rw [List.getElem?_eq_none this]
    | some x =>
      cases x with
      | some v => exact absurd q (a v)
      | none =>
        have := (List.getElem?_eq_some_iff.mp q).1
        rw [l] at this
        rw [List.getElem?_eq_getElem this]
        cases z : (wipe σ vs)[i] with
        | none => rfl
        | some v => exact absurd (by rw [List.getElem?_eq_getElem this, z]) (b v)
  · have hj : i ∉ ws := fun z => hi (h i z)
    rw [wipe_at hi, wipe_at hi, wipe_at hj]
section
variable {T : Tab} {fa : Nat → Addr} {fd : Nat → FuncData} {exc : Nat → Addr} {run : Run} {n : Nat} {N : List Str} {W : WX} {sc : Scope} {X : Cx}
variable {G : Nat → Option D}
theorem lc2_loop {K : PySem.W.Frag} {own own1 : List Nat} {it it2 : It} {g g2 : Tg} {e : E} {env : En} {F M : AS} {σ : SS} {H : Hp} {Q : VK} (hsl : ∀ i ∈ g.slots, i ∈ own) (hsl2 : ∀ i ∈ g2.slots, i ∈ own1) (hoo : ∀ i ∈ own1, i ∈ own) (nb : isBor e = false) (rl : Rel K F M env σ H)
    (p : Post K exc W F M σ H (VX K F σ (.lc2 own own1 it g it2 g2 e)) (evE G run (.lc2 own own1 it g it2 g2 e) env) Q) :
    tLc2 (tI K exc W G run it) (tgT K g) tYes (tI K exc W0 G run it2) (tgT K g2) tYes (tE K exc W0 G run e) own own1 σ H Q := by
  simp only [evE] at p
  refine ⟨F, M, env, rl, p.bind fun items e1 J H1 q1 ex1 rl1 hy p1 => ?_⟩
  clear q1
  split at p1
  · exact p1.elim
  obtain ⟨l, e5, q, p2⟩ := noExc_ok p1
  clear p p1
  intro D hD
  have nF : ¬ F D := rl1.fresh D hD
  have nM : ¬ M D := fun z => nF (rl1.sub D z)
  have exD : ∀ o, Ex M H1 (upd H1 D o) := fun o => (Ext.new (M := NoM) hD).exM
  have hF : ∀ a, F a → F a ∨ a = D := fun a z => .inl z
  have hsub : ∀ a, M a → F a ∨ a = D := fun a z => .inl (rl1.sub a z)
  have hfr : ∀ a, (F a ∨ a = D) → F a ∨ H1 a = none := fun a z => by
    rcases z with z | z
    · exact .inl z
    · exact .inr (by rw [z]; exact hD)
  have hfr2 : ∀ (H : Hp) a, (F a ∨ a = D) → (F a ∨ a = D) ∨ H a = none := fun H a z => .inl z
  generalize hbody : lcBody own1 (asgT g2) (fun e => .ok true e) (evE G run e) = body at q
  refine ⟨fun i m H' => ∃ rest acc env' ws, rest = items.drop i ∧ i + rest.length = items.length ∧ m = rest.length ∧ lc2Loop own own1 (asgT g) (evIt G run it2) body rest acc env' = .ok l e5 ∧ Rel K (fun a => F a ∨ a = D) M env' (wipe σ own) H' ∧ Ex M H1 H' ∧ H' D = some (.lst ws) ∧ VRs K (fun a => F a ∨ a = D) H' acc ws,
    ⟨items.length, items, [], wipeE e1 own, [], rfl, by omega, rfl, q, (rl1.wipe own).more hD (fun _ z => nomatch z), exD _, upd_same, VRs.nil_iff.mpr rfl⟩, fun i m H' w => ?_⟩
  obtain ⟨rest, acc, env', ws, e1', e2', rfl, q, rl', ex', hw, hr⟩ := w
  obtain ⟨yl, ys⟩ := hy _ H' hfr (ex'.mono hsub) rl'.there
  cases rest with
  | nil =>
    simp only [List.length_nil, Nat.add_zero] at e2'
    subst e2'
    refine .inl ⟨ys, ?_⟩
    unfold lc2Loop at q
    cases q
    refine p2 (.ref D) H' ex' (rl1.unwipe rl' hF ex') ?_
    show VR K F H' (.lst _) (.ref D)
    simp only [VR]
    exact ⟨D, ws, rfl, nF, hw, hr.less hF⟩
  | cons x xs =>
    have hi : items[i]? = some x := by
      rw [← List.head?_drop, ← e1']; rfl
    have hxs : xs = items.drop (i + 1) := by
      rw [← List.tail_drop, ← e1']; rfl
    obtain ⟨go, yld⟩ := yl i x hi
    refine .inr ⟨go, fun H'' => ∃ acc env' ws, lc2Loop own own1 (asgT g) (evIt G run it2) body xs acc env' = .ok l e5 ∧ Rel K (fun a => F a ∨ a = D) M env' (wipe σ own) H'' ∧ Ex M H1 H'' ∧ H'' D = some (.lst ws) ∧ VRs K (fun a => F a ∨ a = D) H'' acc ws,
      fun H'' ⟨acc, env', ws, a, b, c, d, f⟩ => ⟨xs.length, by simp, xs, acc, env', ws, hxs, by simp only [List.length_cons] at e2'; omega, rfl, a, b, c, d, f⟩, fun v H2 y => ?_⟩
    obtain ⟨ex2, hv⟩ := yld v H2 y
    unfold lc2Loop at q
    cases q3 : asgT g x env' with
    | none => rw [q3] at q; cases q
    | some e2 =>
      rw [q3] at q
      simp only at q
      have rl2 := rl'.ext ex2
      refine asg_ok g x env' e2 v (wipe σ own) _ q3 rl2 hv fun σ2 rl3 _ wp => ?_
      have hwp : wipe σ2 own = wipe σ own := by rw [wp own hsl, wipe_wipe]
      refine ⟨hwp.trans (by rfl), ?_⟩
      simp only [tYes, if_true]
      refine ⟨_, M, e2, rl3, ?_⟩
      cases q4 : evIt G run it2 e2 with
      | bad => rw [q4] at q; cases q
      | exc y e3 => rw [q4] at q; cases q
      | ok items2 e3 =>
        rw [q4] at q
        have q : (lcLoop body items2 acc (wipeE e3 own1)).bind (fun acc' e4 => lc2Loop own own1 (asgT g) (evIt G run it2) body xs acc' (wipeE e4 own)) = .ok l e5 := q
        cases q6 : lcLoop body items2 acc (wipeE e3 own1) with
        | bad => rw [q6] at q; cases q
        | exc y e4 => rw [q6] at q; cases q
        | ok acc' e4 =>
        rw [q6] at q
        have q : lc2Loop own own1 (asgT g) (evIt G run it2) body xs acc' (wipeE e4 own) = .ok l e5 := q
        intro J1 H3 ex3 rl4 hy2
        have ex13 : Ex M H1 H3 := (ex'.trans (ex2.mono fun _ z => z.elim)).trans ex3
        have hD3 : H3 D = some (.lst ws) := ex3.keep D _ (ex2.keep D _ hw (fun z => z)) nM
        have hr3 : VRs K (fun a => F a ∨ a = D) H3 acc ws := (hr.ext ex2.toExt fun _ z => z.elim).ext ex3.toExt hsub
        refine ⟨fun j k H' => ∃ rest acc env' ws, rest = items2.drop j ∧ j + rest.length = items2.length ∧ k = rest.length ∧ lcLoop body rest acc env' = .ok acc' e4 ∧ Rel K (fun a => F a ∨ a = D) M env' (wipe σ2 own1) H' ∧ Ex M H1 H' ∧ Ex (fun a => M a ∨ a = D) H3 H' ∧ H' D = some (.lst ws) ∧ VRs K (fun a => F a ∨ a = D) H' acc ws,
          ⟨items2.length, items2, acc, wipeE e3 own1, ws, rfl, by omega, rfl, q6, rl4.wipe own1, ex13, Ex.refl _ _, hD3, hr3⟩, fun j k H' w => ?_⟩
        clear hr hw hr3 hD3 q6 rl2 rl' ex' hv ex2 ex3 ex13
        obtain ⟨rest, acc, env', ws, f1', f2', rfl, q6, rl', ex', ex3', hw, hr⟩ := w
        obtain ⟨yl2, ys2⟩ := hy2 _ H' (hfr2 _) (ex3'.mono fun a z => by
          rcases z with z | z
          · exact hsub a z
          · exact .inr z) rl'.there
        cases rest with
        | nil =>
          simp only [List.length_nil, Nat.add_zero] at f2'
          subst f2'
          unfold lcLoop at q6
          split at q6
          · cases q6
            refine .inl ⟨ys2, _, _, ws, q, ?_, ex', hw, hr⟩
            have := rl'.wipe own
            rwa [wipe_sub hoo, hwp] at this
          · cases q6
        | cons x2 xs2 =>
          have hi2 : items2[j]? = some x2 := by
            rw [← List.head?_drop, ← f1']; rfl
          have hxs2 : xs2 = items2.drop (j + 1) := by
            rw [← List.tail_drop, ← f1']; rfl
          obtain ⟨go2, yld2⟩ := yl2 j x2 hi2
          refine .inr ⟨go2, fun H'' => ∃ acc env' ws, lcLoop body xs2 acc env' = .ok acc' e4 ∧ Rel K (fun a => F a ∨ a = D) M env' (wipe σ2 own1) H'' ∧ Ex M H1 H'' ∧ Ex (fun a => M a ∨ a = D) H3 H'' ∧ H'' D = some (.lst ws) ∧ VRs K (fun a => F a ∨ a = D) H'' acc ws,
            fun H'' ⟨acc, env', ws, a, b, c, c', d, f⟩ => ⟨xs2.length, by simp, xs2, acc, env', ws, hxs2, by simp only [List.length_cons] at f2'; omega, rfl, a, b, c, c', d, f⟩, fun v2 H4 y2 => ?_⟩
          obtain ⟨ex4, hv2⟩ := yld2 v2 H4 y2
          unfold lcLoop at q6
          split at q6
          case isFalse => cases q6
          rename_i hlt
          subst hbody
          rw [lcBody_eq] at q6
          cases q7 : asgT g2 x2 env' with
          | none => rw [q7] at q6; cases q6
          | some e6 =>
            rw [q7] at q6
            refine asg_ok g2 x2 env' e6 v2 (wipe σ2 own1) _ q7 (rl'.ext ex4) hv2 fun σ3 rl5 _ wp2 => ?_
            have hwp2 : wipe σ3 own1 = wipe σ2 own1 := by rw [wp2 own1 hsl2, wipe_wipe]
            refine ⟨hwp2.trans (by rfl), ?_⟩
            simp only [tYes, if_true]
            refine ⟨_, M, e6, rl5, ?_⟩
            cases q8 : evE G run e e6 with
            | bad => simp [Res.bind, q8] at q6
            | exc y e7 => simp [Res.bind, q8] at q6
            | ok y e7 =>
              intro yv H5 ex5 rl6 hyv
              have hyv := hyv.vr nb
              have ex45 : Ex M H' H5 := (ex4.mono fun _ z => z.elim).trans ex5
              have hD5 : H5 D = some (.lst ws) := ex45.keep D _ hw nM
              have hr5 : VRs K (fun a => F a ∨ a = D) H5 acc ws := hr.ext ex45.toExt hsub
              have ep : Ext (fun a => a = D) H5 (upd H5 D (.lst (ws ++ [yv]))) := Ext.put rfl (by rw [hD5]; intro z; cases z)
              have ep2 : Ex (fun a => M a ∨ a = D) H5 (upd H5 D (.lst (ws ++ [yv]))) := ⟨ep.mono fun a z => .inr z, fun a ha => by
                obtain ⟨o, ho, hn⟩ := ha
                by_cases e : a = D
                · subst e; exact ⟨_, upd_same, fun _ z => nomatch z⟩
                · exact ⟨o, by rw [upd_ne e]; exact ho, hn⟩⟩
              refine ⟨ws, hD5, ?_, acc ++ [y], wipeE e7 own1, ws ++ [yv], ?_, ?_, ?_, ?_, upd_same, ?_⟩
              · rw [← hr5.len]
                exact Nat.lt_of_lt_of_le hlt (big_line (Nat.le_refl _))
              · simpa [Res.bind, q8] using q6
              · have := (rl6.wipe own1).poke (D := D) (o := .lst (ws ++ [yv])) (.inr rfl) nM (fun _ z => nomatch z) (.lst hD5)
                rwa [hwp2] at this
              · have ex15 := ex'.trans ex45
                refine ⟨⟨fun a o ha hn => ?_, fun a ha => ep.dom a (ex15.dom a ha)⟩, fun a ha => ?_⟩
                · have hne : a ≠ D := fun z => by rw [z, hD] at ha; cases ha
                  rw [upd_ne hne]
                  exact ex15.keep a o ha hn
                · have hne : a ≠ D := fun z => by obtain ⟨o, ho, _⟩ := ha; rw [z, hD] at ho; cases ho
                  obtain ⟨o, ho, hn⟩ := ex15.nt a ha
                  exact ⟨o, by rw [upd_ne hne]; exact ho, hn⟩
              · exact (ex3'.trans (ex45.mono fun a z => .inl z)).trans ep2
              · exact (hr5.append (.cons_mk hyv (VRs.nil_iff.mpr rfl))).ext ep fun a z => .inr z
end
end Qh

/-! A display of a dict, looked up at once. -/
namespace Qh
open PySem PySem.Spec PyProof.Rows L2 PySem.W
section
variable {K : PySem.W.Frag} {F M : AS} {σ : SS} {H H' : Hp} {env : En}
theorem Rel.drop {F' : AS} (r : Rel K F' M env σ H) (h : ∀ a, F a → F' a) (s : ∀ a, M a → F a) : Rel K F M env σ H where
  len := r.len
  dat := fun i d q => let ⟨v, a, b⟩ := r.dat i d q; ⟨v, a, b.less h⟩
  own := fun i o q => let ⟨a, b, c, d⟩ := r.own i o q; ⟨a, b, c, d.less h⟩
  apart := r.apart
  sub := s
  there := fun a z => r.there a (h a z)
  tabM := r.tabM
  tab := r.tab
end
def trsOf (K : PySem.W.Frag) (exc : Nat → Addr) (W : WX) (G : Nat → Option D) (run : Run) : List Str → Es → List (TE × TE)
  | k :: ks, .cons v vs => (tC (.str k), tE K exc W G run v) :: trsOf K exc W G run ks vs
  | _, _ => []
def kvOf (ks : List Str) (ws : List V) : List (Key × V) := List.zipWith (fun k w => (Sum.inr k, w)) ks ws
section
variable {K : PySem.W.Frag} {exc : Nat → Addr} {W : WX} {G : Nat → Option D} {run : Run} {F M : AS} {σ : SS}
theorem pairs_ok : ∀ (ks : List Str) (vs : Es) (l : List D) (env e1 : En) (H : Hp) (Q : List (V × V) → Hp → Prop), evEs G run vs env = .ok l e1 → ks.length = l.length → Rel K F M env σ H → vs.noBor = true →
    (∀ H' ws, Ex M H H' → Rel K F M e1 σ H' → VRs K F H' l ws → Q ((kvOf ks ws).map fun kv => (kV kv.1, kv.2)) H') → tPairs (trsOf K exc W G run ks vs) σ H Q
  | ks, .nil, l, env, e1, H, Q, he, hl, rl, nb, q => by
    simp only [evEs] at he
    cases he
    have : ks = [] := List.length_eq_zero_iff.mp (by simpa using hl)
    subst this
    exact q H [] (Ex.refl _ _) rl (VRs.nil_iff.mpr rfl)
  | [], .cons v vs, l, env, e1, H, Q, he, hl, rl, nb, q => by
    simp only [evEs] at he
    cases q1 : evE G run v env with
    | bad => rw [q1] at he; cases he
    | exc x e => rw [q1] at he; cases he
    | ok d e2 =>
      rw [q1] at he
      cases q2 : evEs G run vs e2 with
      | bad => simp [Res.bind, q2] at he
      | exc x e => simp [Res.bind, q2] at he
      | ok l' e3 =>
        simp [Res.bind, q2] at he
        rw [← he.1] at hl
        cases hl
  | k :: ks, .cons v vs, l, env, e1, H, Q, he, hl, rl, nb, q => by
    simp only [Es.noBor, Bool.and_eq_true, Bool.not_eq_true'] at nb
    simp only [evEs] at he
    cases q1 : evE G run v env with
    | bad => rw [q1] at he; cases he
    | exc x e => rw [q1] at he; cases he
    | ok d e2 =>
      rw [q1] at he
      cases q2 : evEs G run vs e2 with
      | bad => simp [Res.bind, q2] at he
      | exc x e => simp [Res.bind, q2] at he
      | ok l' e3 =>
        simp [Res.bind, q2] at he
        obtain ⟨rfl, rfl⟩ := he
        unfold trsOf tPairs
        refine ⟨F, M, env, rl, ?_⟩
        rw [q1]
        intro w H1 ex rl1 hw
        have hw := hw.vr nb.1
        refine pairs_ok ks vs l' e2 e3 H1 _ q2 (by simpa using hl) rl1 nb.2 fun H' ws ex' rl' hws => ?_
        exact q H' (w :: ws) (ex.trans ex') rl' (.cons_mk (hw.ext ex'.toExt rl1.sub) hws)
end
theorem putK_fresh {kvs : List (Key × V)} {k : Key} {v : V} (h : k ∉ kvs.map (·.1)) : putK kvs k v = kvs ++ [(k, v)] := by
  unfold putK
  rw [if_neg]
  intro z
  obtain ⟨p, hp, e⟩ := List.any_eq_true.mp z
  exact h (List.mem_map.mpr ⟨p, hp, of_decide_eq_true e⟩)
theorem mergeK_fresh : ∀ (more kvs : List (Key × V)), ((kvs ++ more).map (·.1)).Nodup → mergeK kvs more = kvs ++ more
  | [], kvs, _ => by simp [mergeK]
  | p :: more, kvs, h => by
    have h1 : p.1 ∉ kvs.map (·.1) := fun z => by
      rw [List.map_append, List.map_cons, List.nodup_append] at h
      exact h.2.2 _ z _ List.mem_cons_self rfl
    show mergeK (putK kvs p.1 p.2) more = _
    rw [putK_fresh h1, mergeK_fresh more _ (by simpa using h)]
    simp
theorem kvOf_keys : ∀ {ks : List Str} {ws : List V}, ks.length = ws.length → (kvOf ks ws).map (·.1) = ks.map fun k => (Sum.inr k : Key)
  | [], ws, _ => by cases ws <;> rfl
  | k :: ks, [], h => by cases h
  | k :: ks, w :: ws, h => by
    unfold kvOf
    rw [List.zipWith_cons_cons, List.map_cons, List.map_cons]
    exact congrArg _ (kvOf_keys (by simpa using h))
theorem nodupS_ok : ∀ {ks : List Str}, nodupS ks = true → ks.Nodup
  | [], _ => List.nodup_nil
  | k :: ks, h => by
    simp only [nodupS, Bool.and_eq_true, Bool.not_eq_true'] at h
    refine List.nodup_cons.mpr ⟨fun z => ?_, nodupS_ok h.2⟩
    have := List.contains_iff_mem.mpr z
    rw [h.1] at this
    cases this
section
variable {K : PySem.W.Frag} {F : AS} {H : Hp}
theorem kvOf_al : ∀ {ks : List Str} {l : List D} {ws : List V}, ks.length = l.length → VRs K F H l ws → AlS K F H (ks.map .str) l (kvOf ks ws)
  | [], l, ws, h, r => by
    have : l = [] := List.length_eq_zero_iff.mp (by simpa using h.symm)
    subst this
    rw [VRs.nil_iff.mp r]
    trivial
  | k :: ks, [], ws, h, r => by cases h
  | k :: ks, d :: l, ws, h, r => by
    obtain ⟨w, u, rfl, h1, h2⟩ := r.cons_inv
    exact ⟨rfl, h1, kvOf_al (by simpa using h) h2⟩
end
section
variable {T : Tab} {fa : Nat → Addr} {fd : Nat → FuncData} {exc : Nat → Addr} {run : Run} {n : Nat} {N : List Str} {W : WX} {sc : Scope} {X : Cx} {G : Nat → Option D}
theorem keyNames_len : ∀ {ks : List Str} {keys : List (Option Expr)}, keyNames ks keys = true → ks.length = keys.length ∧ keys.all (·.isSome) = true
  | [], [], _ => ⟨rfl, rfl⟩
  | [], _ :: _, h => by simp only [keyNames] at h; cases h
  | _ :: _, [], h => by simp only [keyNames] at h; cases h
  | k :: ks, e :: es, h => by
    cases e with
    | none => simp only [keyNames] at h; cases h
    | some x =>
      cases x <;> try (simp only [keyNames] at h; cases h; done)
      rename_i c _ _
      cases c <;> try (simp only [keyNames] at h; cases h; done)
      simp only [keyNames, Bool.and_eq_true] at h
      obtain ⟨a, b⟩ := keyNames_len h.2
      exact ⟨by simp only [List.length_cons, a], by simp only [List.all_cons, b, Option.isSome_some, Bool.and_self]⟩
theorem evEs_len {G : Nat → Option D} {run : Run} : ∀ {vs : Es} {env e1 : En} {l : List D}, evEs G run vs env = .ok l e1 → True := fun _ => trivial
theorem sim_dsel (C : CtxOk T fa fd exc run n N W sc X) {ks : List Str} {vs : Es} {i : E} {keys : List (Option Expr)} {values : List Expr} {s : Expr} {dp pos : Pos} (hp : plainIx s = true) (hk : keyNames ks keys = true) (hl : values.length = keys.length) (nv : vs.noBor = true) (ni : isBor i = false)
    (hd : PPs X dp keys values (trsOf X.K exc W G run ks vs)) (hi : PE X s (tE X.K exc W G run i)) (h0 : keys ≠ []) (h15 : keys.length ≤ 15) : PE X (.Subscript (.Dict keys values dp) s pos) (tE X.K exc W G run (.dsel ks vs i)) := by
  obtain ⟨hkl, hka⟩ := keyNames_len hk
  refine (pe_ix (ix_D C.hu) (pe_disp hd hka hl.symm h0 h15) hi (plainIx_ok hp)).qimp fun σ H Q h => ?_
  obtain ⟨F, M, env, rl, p⟩ := h
  simp only [evE] at p
  obtain ⟨l, e1, q1, p1⟩ := noExc_ok p
  clear p
  split at p1
  case isFalse => exact p1.elim
  rename_i hc
  simp only [Bool.and_eq_true, decide_eq_true_eq, Bool.not_eq_true'] at hc
  have hlen : ks.length = l.length := hc.1.1.1.symm
  intro a ha
  have nF : ¬ F a := rl.fresh a ha
  have nM : ¬ M a := fun z => nF (rl.sub a z)
  have hF : ∀ b, F b → F b ∨ b = a := fun b z => .inl z
  refine pairs_ok ks vs l env e1 _ _ q1 hlen (rl.more (o := .dK []) ha (fun _ z => nomatch z)) nv fun H2 ws ex2 rl2 hws => ?_
  have hwl : ks.length = ws.length := by rw [hlen]; exact hws.len
  have h2a : H2 a = some (.dK []) := ex2.keep a _ upd_same nM
  refine ⟨h2a, kvOf ks ws, rfl, ?_, ?_⟩
  · unfold kvOf
    rw [List.length_zipWith]
    have : ks.length ≤ 15 := by rw [hkl]; exact h15
    omega
  · -- the dict stands
    have rl3 : Rel X.K F M e1 σ (upd H2 a (.dK (mergeK [] (kvOf ks ws)))) := (rl2.poke (o := .dK (mergeK [] (kvOf ks ws))) (.inr rfl) nM (fun _ z => nomatch z) (.dK h2a)).drop hF rl.sub
    have ep : Ext (fun b => b = a) H2 (upd H2 a (.dK (mergeK [] (kvOf ks ws)))) := Ext.put rfl (by rw [h2a]; intro z; cases z)
    have ex3 : Ex M H (upd H2 a (.dK (mergeK [] (kvOf ks ws)))) := by
      have e0 : Ex M H (upd H a (.dK [])) := (Ext.new (M := NoM) ha).exM
      have ex02 := e0.trans ex2
      refine ⟨⟨fun b o hb hn => ?_, fun b hb => ep.dom b (ex02.dom b hb)⟩, fun b hb => ?_⟩
      · have hne : b ≠ a := fun z => by rw [z, ha] at hb; cases hb
        rw [upd_ne hne]
        exact ex02.keep b o hb hn
      · have hne : b ≠ a := fun z => by obtain ⟨o, ho, _⟩ := hb; rw [z, ha] at ho; cases ho
        obtain ⟨o, ho, hn⟩ := ex02.nt b hb
        exact ⟨o, by rw [upd_ne hne]; exact ho, hn⟩
    have hws3 : VRs X.K F (upd H2 a (.dK (mergeK [] (kvOf ks ws)))) l ws := (hws.ext ep fun b z => .inr z).less hF
    have p2 := Post.shift p1 ex3
    refine ⟨F, M, e1, rl3, p2.bind fun y e2 v H4 q4 ex4 rl4 hy p4 => ?_⟩
    clear q4
    have hv := hy.vr ni
    cases y <;> try (exact p4.elim)
    rename_i x
    cases hv.strI
    obtain ⟨d, ed, p5⟩ := p4.opt
    have nd : ((kvOf ks ws).map (·.1)).Nodup := by
      rw [kvOf_keys hwl]
      exact List.pairwise_map.mpr ((nodupS_ok hc.2).imp fun h z => h (Sum.inr.inj z))
    have e4 : H4 a = some (.dK (kvOf ks ws)) := by
      refine ex4.keep a _ ?_ nM
      rw [upd_same, mergeK_fresh _ _ (by simpa using nd)]
      rfl
    have al := kvOf_al (ks := ks) hlen (hws3.ext ex4.toExt rl.sub)
    have hf := al.find x
    rw [ed] at hf
    cases ov : valV (kvOf ks ws) (Sum.inr x : Key) with
    | none => rw [ov] at hf; exact hf.elim
    | some u =>
      rw [ov] at hf
      exact .inr ⟨a, u, rfl, .inr (ov ▸ DGet.k (k := Sum.inr x) e4), p5.here rl4 hf⟩
end
end Qh

/-! Expressions as a whole. -/
namespace Qh
open PySem PySem.Spec PyProof.Rows L2 PySem.W
section
variable {T : Tab} {fa : Nat → Addr} {fd : Nat → FuncData} {exc : Nat → Addr} {run : Run} {n : Nat} {N : List Str}
theorem CtxOk.blk {W : WX} {sc : Scope} {X : Cx} (C : CtxOk T fa fd exc run n N W sc X) {scope : Scope} (hn : lamN (relS scope sc) = false) (s : Shared) (H : Hp) (c : Addr) (cl : List (Str × Addr)) (fp : List Addr) :
    CtxOk T fa fd exc run n N W0 (relS scope sc) (X.blk s H scope (compEnvC scope cl c X.env) fp) where
  nm := C.nm
  nd := C.nd
  sc := by rw [← C.sc]; rfl
  calm := C.calm
  room := C.room
  exk := C.exk
  gdk := C.gdk
  lamOk := fun _ z => by
    have e : (X.blk s H scope (compEnvC scope cl c X.env) fp).env.scope = relS scope sc := by rw [← C.sc]; rfl
    rw [e, hn] at z
    cases z
  tk := takes0
  facts := C.facts
  ok := C.ok
theorem StoreOk.blk {X : Cx} (scope : Scope) (hN : X.N = N) (s : Shared) (H : Hp) (c : Addr) (cl : List (Str × Addr)) (fp : List Addr) : StoreOk N scope (X.blk s H scope (compEnvC scope cl c X.env) fp) := fun i x h => by
  unfold locB at h
  simp only [Bool.and_eq_true, decide_eq_true_eq] at h
  refine ⟨by show X.N[i]? = _; rw [hN]; exact h.1, ?_⟩
  have h2 := h.2
  split at h2
  · rename_i q
    have := lookup_relS_keep (sc := X.env.scope) (k := .local) (by decide) q
    exact ⟨.inl this, .inr this⟩
  · rename_i q
    have := lookup_relS_keep (sc := X.env.scope) (k := .cell) (by decide) q
    exact ⟨.inr this, .inl (by show (scope.names.lookup x == some .cell) = true; rw [q]; rfl)⟩
  · cases h2
theorem own_ix {own : List Nat} (h : (own.filterMap fun i => (N[i]?).map fun x => (x, i)).map (·.2) = own) : True := trivial
theorem isB {e : E} (h : (!isBor e) = true) : isBor e = false := by cases q : isBor e <;> simp_all
theorem sim_ifeT {W : WX} {sc : Scope} {X : Cx} {G : Nat → Option D} {t a b : E} {t' a' b' : Expr} {pos : Pos} (ht : PT X t' (tT X.K exc W G run t)) (ha : PT X a' (tT X.K exc W G run a)) (hb : PT X b' (tT X.K exc W G run b)) : PT X (.IfExp t' a' b' pos) (tT X.K exc W G run (.ife t a b)) := by
  refine ⟨fun pins s σ H Q I h => ?_⟩
  obtain ⟨F, M, env, rl, p⟩ := h
  simp only [evE, bind_assoc, onBl_bind] at p
  rw [bind_bool] at p
  refine isTrue_IfExp (thn (ht.run pins s σ H (fun c H1 => (if c = true then tT X.K exc W G run a else tT X.K exc W G run b) σ H1 Q) I ⟨F, M, env, rl, p.bind fun x e1 v H1 _ ex1 rl1 hx p1 => ?_⟩) fun c s1 ⟨H1, I1, q1⟩ => ?_)
  · subst hx
    cases x with
    | true => exact ⟨F, M, e1, rl1, p1⟩
    | false => exact ⟨F, M, e1, rl1, p1⟩
  · cases c with
    | true => exact ha.run pins s1 σ H1 Q I1 q1
    | false => exact hb.run pins s1 σ H1 Q I1 q1
/-- a test by its value -/
def byVal : Expr → Bool
  | .UnaryOp .Not _ _ => false
  | .BoolOp _ _ _ => false
  | .IfExp _ _ _ _ => false
  | .Compare _ _ _ _ => false
  | _ => true
theorem byVal_ok {e : Expr} {env : Env} (h : byVal e = true) : ∀ whole, isTrue e env whole = (do let v ← whole; standAt e.pos; holding [v] (truthy v)) := by
  intro whole
  cases e <;> first | rfl | cases h | skip
  rename_i op a pos
  cases op <;> first | rfl | cases h
def isBool : Expr → Bool
  | .BoolOp _ (_ :: _ :: _) _ => true
  | _ => false
/-- an expression's three laws -/
structure Sim (exc : Nat → Addr) (run : Run) (T : Tab) (W : WX) (X : Cx) (m : E) (e : Expr) : Prop where
  pe : PE X e (tE X.K exc W (globD T) run m)
  pt : isBor m = false → PT X e (tT X.K exc W (globD T) run m)
  pw : isBool e = true → PW X e (tT X.K exc W (globD T) run m)
theorem Sim.val {W : WX} {X : Cx} {m : E} {e : Expr} (pe : PE X e (tE X.K exc W (globD T) run m)) (hv : byVal e = true) : Sim exc run T W X m e :=
  ⟨pe, fun hb => sim_val hb pe (byVal_ok hv), fun h => by cases e <;> first | cases h | cases hv⟩
mutual
theorem simE : ∀ (m : E) (e : Expr) (W : WX) (sc : Scope) (X : Cx), CtxOk T fa fd exc run n N W sc X → chkE T N sc m e = true → Sim exc run T W X m e
  | .var i, e, W, sc, X, C, h => by
    cases e <;> simp only [chkE] at h <;> try (cases h; done)
    exact .val (sim_var C h) rfl
  | .bor i, e, W, sc, X, C, h => by
    cases e <;> simp only [chkE] at h <;> try (cases h; done)
    exact .val (sim_bor C h) rfl
  | .cst d, e, W, sc, X, C, h => by
    cases e <;> simp only [chkE] at h <;> try (cases h; done)
    exact .val (sim_cst h) rfl
  | .glo g, e, W, sc, X, C, h => by
    cases e <;> simp only [chkE] at h <;> try (cases h; done)
    simp only [Bool.and_eq_true] at h
    have h2 := h.2
    split at h2
    · cases h2
    · rename_i y d nq q
      exact .val (sim_glo C h.1 q (by cases d <;> first | rfl | exact (nq _ _ rfl).elim) (of_decide_eq_true h2)) rfl
    · cases h2
  | .bin op a b, e, W, sc, X, C, h => by
    cases e <;> simp only [chkE] at h <;> try (cases h; done)
    simp only [Bool.and_eq_true] at h
    rw [opB_ok h.2.1]
    exact .val (sim_bin C (isB h.1.1) (isB h.1.2) (simE a _ W sc X C h.2.2.1).pe (simE b _ W sc X C h.2.2.2).pe) rfl
  | .cmp op a b, e, W, sc, X, C, h => by
    cases e <;> try (first | (simp only [chkE] at h; done) | (simp only [chkE] at h; cases h; done))
    rename_i l ops rs pos
    rcases ops with _ | ⟨o, _ | ⟨o2, os⟩⟩ <;> rcases rs with _ | ⟨r, _ | ⟨r2, rs⟩⟩ <;> simp only [chkE] at h <;> try (cases h; done)
    simp only [Bool.and_eq_true] at h
    have ha := (simE a _ W sc X C h.2.2.1).pe
    have hb := (simE b _ W sc X C h.2.2.2).pe
    rw [opC_ok h.1]
    exact ⟨sim_cmp C h.2.1 ha hb, fun _ => sim_cmpT C h.2.1 ha hb, fun z => by cases z⟩
  | .chn op op' a b c, e, W, sc, X, C, h => by
    cases e <;> try (first | (simp only [chkE] at h; done) | (simp only [chkE] at h; cases h; done))
    rename_i l ops rs pos
    rcases ops with _ | ⟨o, _ | ⟨o2, _ | ⟨o3, os⟩⟩⟩ <;> rcases rs with _ | ⟨r, _ | ⟨r2, _ | ⟨r3, rs⟩⟩⟩ <;> simp only [chkE] at h <;> try (cases h; done)
    simp only [Bool.and_eq_true] at h
    have ha := (simE a _ W sc X C h.2.2.2.1).pe
    have hb := (simE b _ W sc X C h.2.2.2.2.1).pe
    have hc := (simE c _ W sc X C h.2.2.2.2.2).pe
    rw [opC_ok h.2.1.1, opC_ok h.2.1.2]
    exact ⟨sim_chn C (isB h.1.1) (isB h.1.2.1) (isB h.1.2.2) h.2.2.1.2 ha hb hc, fun _ => sim_chnT C (isB h.1.1) (isB h.1.2.1) (isB h.1.2.2) h.2.2.1.2 ha hb hc, fun z => by cases z⟩
  | .and a b, e, W, sc, X, C, h => by
    cases e <;> try (first | (simp only [chkE] at h; done) | (simp only [chkE] at h; cases h; done))
    rename_i op es pos
    cases op <;> try (first | (simp only [chkE] at h; done) | (simp only [chkE] at h; cases h; done))
    rcases es with _ | ⟨x, _ | ⟨y, rest⟩⟩ <;> try (first | (simp only [chkE] at h; done) | (simp only [chkE] at h; cases h; done))
    simp only [chkE, Bool.and_eq_true] at h
    have na := isB h.1.1
    have nb := isB h.1.2
    have ha := simE a _ W sc X C h.2.1
    have hr := h.2.2
    have key : PE X (.BoolOp .And (y :: rest) pos) (tE X.K exc W (globD T) run b) ∧ PW X (.BoolOp .And (y :: rest) pos) (tT X.K exc W (globD T) run b) := by
      cases rest with
      | nil =>
        have hb := simE b _ W sc X C hr
        exact ⟨pe_one hb.pe, pw_and1 (hb.pt nb)⟩
      | cons z zs =>
        have hb := simE b _ W sc X C hr
        exact ⟨hb.pe, hb.pw rfl⟩
    have w := sim_andT C (ha.pt na) key.2
    exact ⟨sim_and C na nb ha.pe key.1, fun _ => w.pt, fun _ => w⟩
  | .or a b, e, W, sc, X, C, h => by
    cases e <;> try (first | (simp only [chkE] at h; done) | (simp only [chkE] at h; cases h; done))
    rename_i op es pos
    cases op <;> try (first | (simp only [chkE] at h; done) | (simp only [chkE] at h; cases h; done))
    rcases es with _ | ⟨x, _ | ⟨y, rest⟩⟩ <;> try (first | (simp only [chkE] at h; done) | (simp only [chkE] at h; cases h; done))
    simp only [chkE, Bool.and_eq_true] at h
    have na := isB h.1.1
    have nb := isB h.1.2
    have ha := simE a _ W sc X C h.2.1
    have hr := h.2.2
    have key : PE X (.BoolOp .Or (y :: rest) pos) (tE X.K exc W (globD T) run b) ∧ PW X (.BoolOp .Or (y :: rest) pos) (tT X.K exc W (globD T) run b) := by
      cases rest with
      | nil =>
        have hb := simE b _ W sc X C hr
        exact ⟨pe_one hb.pe, pw_or1 (hb.pt nb)⟩
      | cons z zs =>
        have hb := simE b _ W sc X C hr
        exact ⟨hb.pe, hb.pw rfl⟩
    have w := sim_orT C (ha.pt na) key.2
    exact ⟨sim_or C na nb ha.pe key.1, fun _ => w.pt, fun _ => w⟩
  | .not a, e, W, sc, X, C, h => by
    cases e <;> try (first | (simp only [chkE] at h; done) | (simp only [chkE] at h; cases h; done))
    rename_i op x pos
    cases op <;> try (first | (simp only [chkE] at h; done) | (simp only [chkE] at h; cases h; done))
    simp only [chkE, Bool.and_eq_true] at h
    have ha := simE a _ W sc X C h.2
    exact ⟨sim_not C (isB h.1) ha.pe, fun _ => sim_notT C (ha.pt (isB h.1)), fun z => by cases z⟩
  | .ife t a b, e, W, sc, X, C, h => by
    cases e <;> try (first | (simp only [chkE] at h; done) | (simp only [chkE] at h; cases h; done))
    simp only [chkE, Bool.and_eq_true] at h
    have ht := simE t _ W sc X C h.2.1
    have ha := simE a _ W sc X C h.2.2.1
    have hb := simE b _ W sc X C h.2.2.2
    exact ⟨sim_ife C (isB h.1.2.1) (isB h.1.2.2) (ht.pt (isB h.1.1)) ha.pe hb.pe, fun _ => sim_ifeT (sc := sc) (ht.pt (isB h.1.1)) (ha.pt (isB h.1.2.1)) (hb.pt (isB h.1.2.2)), fun z => by cases z⟩
  | .tup es, e, W, sc, X, C, h => by
    cases e <;> try (first | (simp only [chkE] at h; done) | (simp only [chkE] at h; cases h; done))
    simp only [chkE, Bool.and_eq_true] at h
    exact .val (sim_tup h.1 (simEs es _ W sc X C h.2)) rfl
  | .lst es, e, W, sc, X, C, h => by
    cases e <;> try (first | (simp only [chkE] at h; done) | (simp only [chkE] at h; cases h; done))
    simp only [chkE, Bool.and_eq_true] at h
    exact .val (sim_lst h.1 (simEs es _ W sc X C h.2)) rfl
  | .ix a i, e, W, sc, X, C, h => by
    cases e <;> try (first | (simp only [chkE] at h; done) | (simp only [chkE] at h; cases h; done))
    simp only [chkE, Bool.and_eq_true] at h
    exact .val (sim_ix C h.1 (simE a _ W sc X C h.2.1).pe (simE i _ W sc X C h.2.2).pe) rfl
  | .sl a lo hi, e, W, sc, X, C, h => by
    cases e <;> try (first | (simp only [chkE] at h; done) | (simp only [chkE] at h; cases h; done))
    rename_i v s pos
    cases s <;> try (first | (simp only [chkE] at h; done) | (simp only [chkE] at h; cases h; done))
    rename_i l hh st p2
    cases st <;> try (first | (simp only [chkE] at h; done) | (simp only [chkE] at h; cases h; done))
    simp only [chkE, Bool.and_eq_true] at h
    exact .val (sim_sl (simE a _ W sc X C h.1).pe (simO lo _ W sc X C h.2.1) (simO hi _ W sc X C h.2.2)) rfl
  | .rev a, e, W, sc, X, C, h => by
    simp only [chkE] at h
    split at h
    · rename_i v q
      simp only [Bool.and_eq_true] at h
      exact .val (sim_rev q (isB h.1) (simE a _ W sc X C h.2).pe) (by obtain ⟨_, _, _, _, _, rfl⟩ := revArg_ok q; rfl)
    · cases h
  | .bset b a, e, W, sc, X, C, h => by
    simp only [chkE] at h
    split at h
    · rename_i x y v q
      simp only [Bool.and_eq_true, decide_eq_true_eq] at h
      exact .val (sim_bset C q h.1.1 h.1.2 h.2.1.1 h.2.1.2 h.2.2.1.1 h.2.2.1.2 h.2.2.2.1.1 (isB h.2.2.2.1.2) (simE a _ W sc X C h.2.2.2.2).pe) (by obtain ⟨_, _, _, _, rfl⟩ := setArg_ok q; rfl)
    · cases h
  | .call f as, e, W, sc, X, C, h => by
    cases e <;> try (first | (simp only [chkE] at h; done) | (simp only [chkE] at h; cases h; done))
    rename_i fn args kws pos
    cases fn <;> try (first | (simp only [chkE] at h; done) | (simp only [chkE] at h; cases h; done))
    cases kws <;> try (first | (simp only [chkE] at h; done) | (simp only [chkE] at h; cases h; done))
    simp only [chkE, Bool.and_eq_true] at h
    have h2 := h.2.1
    split at h2
    · rename_i i q
      simp only [Bool.and_eq_true, decide_eq_true_eq, Option.isNone_iff_eq_none] at h2
      cases args with
      | nil =>
        cases as <;> (try (have h3 := h.2.2; simp only [chkAs] at h3; cases h3; done))
        exact .val (sim_call0 C h.1 q h2.2 h2.1) rfl
      | cons a args => exact .val (sim_call C h.1 q h2.2 h2.1 (chkAs_noStar h.2.2) (simAs as _ W sc X C h.2.2)) rfl
    · cases h2
  | .bi b as, e, W, sc, X, C, h => by
    cases e <;> try (first | (simp only [chkE] at h; done) | (simp only [chkE] at h; cases h; done))
    rename_i fn args kws pos
    cases fn <;> try (first | (simp only [chkE] at h; done) | (simp only [chkE] at h; cases h; done))
    cases kws <;> (try (cases args <;> simp only [chkE] at h <;> cases h; done))
    cases args <;> try (first | (simp only [chkE] at h; done) | (simp only [chkE] at h; cases h; done))
    simp only [chkE, Bool.and_eq_true] at h
    exact .val (sim_bi C h.1 (of_decide_eq_true h.2.1) h.2.2.1 h.2.2.2.1 (chkEs_noStar h.2.2.2.2) (simEs as _ W sc X C h.2.2.2.2)) rfl
  | .me m o as, e, W, sc, X, C, h => by
    cases e <;> try (first | (simp only [chkE] at h; done) | (simp only [chkE] at h; cases h; done))
    rename_i fn args kws pos
    cases fn <;> try (first | (simp only [chkE] at h; done) | (simp only [chkE] at h; cases h; done))
    cases kws <;> rcases args with _ | ⟨a, _ | ⟨t, args⟩⟩ <;> try (first | (simp only [chkE] at h; done) | (simp only [chkE] at h; cases h; done))
    simp only [chkE, Bool.and_eq_true, decide_eq_true_eq] at h
    have hst := chkEs_noStar h.2.2.2
    simp only [List.all_cons, List.all_nil, Bool.and_true] at hst
    exact .val (sim_me1 C h.1.1.1 h.1.1.2 h.1.2.1 h.1.2.2 (isB h.2.1.1) h.2.1.2 hst (simE o _ W sc X C h.2.2.1).pe (simEs as _ W sc X C h.2.2.2)) rfl
  | .neg a, e, W, sc, X, C, h => by
    cases e <;> try (first | (simp only [chkE] at h; done) | (simp only [chkE] at h; cases h; done))
    rename_i op x pos
    cases op <;> try (first | (simp only [chkE] at h; done) | (simp only [chkE] at h; cases h; done))
    simp only [chkE, Bool.and_eq_true] at h
    exact .val (sim_neg (isB h.1) (simE a _ W sc X C h.2).pe) rfl
  | .get o k x, e, W, sc, X, C, h => by
    cases e <;> try (first | (simp only [chkE] at h; done) | (simp only [chkE] at h; cases h; done))
    rename_i fn args kws pos
    cases fn <;> try (first | (simp only [chkE] at h; done) | (simp only [chkE] at h; cases h; done))
    cases kws <;> rcases args with _ | ⟨a, _ | ⟨b, _ | ⟨u, args⟩⟩⟩ <;> try (first | (simp only [chkE] at h; done) | (simp only [chkE] at h; cases h; done))
    simp only [chkE, Bool.and_eq_true, decide_eq_true_eq] at h
    exact .val (sim_get C h.1.1.1 h.1.1.2 h.1.2 (isB h.2.1.1) (isB h.2.1.2) (chkE_noStar h.2.2.2.1) (chkE_noStar h.2.2.2.2) (simE o _ W sc X C h.2.2.1).pe (simE k _ W sc X C h.2.2.2.1).pe (simE x _ W sc X C h.2.2.2.2).pe) rfl
  | .dsel ks vs i, e, W, sc, X, C, h => by
    cases e <;> try (first | (simp only [chkE] at h; done) | (simp only [chkE] at h; cases h; done))
    rename_i v s pos
    cases v <;> try (first | (simp only [chkE] at h; done) | (simp only [chkE] at h; cases h; done))
    rename_i keys values dp
    simp only [chkE, Bool.and_eq_true, decide_eq_true_eq] at h
    exact .val (sim_dsel C h.1.1.1.1 h.1.1.1.2 h.1.1.2.1 (h.2.1.1) (isB h.2.1.2) (simDs vs values ks keys dp W sc X C h.1.1.1.2 h.1.1.2.1 h.2.2.1) (simE i _ W sc X C h.2.2.2).pe (by
      intro z; have := h.1.2; rw [z] at this; cases this) h.1.1.2.2) rfl
  | .gin neg g x, e, W, sc, X, C, h => by
    cases e <;> try (first | (simp only [chkE] at h; done) | (simp only [chkE] at h; cases h; done))
    rename_i l ops rs pos
    rcases ops with _ | ⟨o, _ | ⟨o2, os⟩⟩ <;> rcases rs with _ | ⟨r, _ | ⟨r2, rs⟩⟩ <;> try (first | (simp only [chkE] at h; done) | (simp only [chkE] at h; cases h; done))
    cases r <;> try (first | (simp only [chkE] at h; done) | (simp only [chkE] at h; cases h; done))
    simp only [chkE, Bool.and_eq_true] at h
    obtain ⟨q1, q2⟩ := sim_gin (pos := pos) C h.1 h.2.1.1 h.2.1.2 (isB h.2.2.1) (simE x _ W sc X C h.2.2.2).pe
    refine ⟨q1, fun _ => q2, fun z => ?_⟩
    cases z
  | .fld c o f, e, W, sc, X, C, h => by
    cases e <;> try (first | (simp only [chkE] at h; done) | (simp only [chkE] at h; cases h; done))
    rename_i ov nm pos
    cases ov <;> try (first | (simp only [chkE] at h; done) | (simp only [chkE] at h; cases h; done))
    simp only [chkE, Bool.and_eq_true, decide_eq_true_eq] at h
    obtain ⟨h1, h2, h3, h4⟩ := h
    subst h1
    exact .val (sim_fld C h2 (isB h3) (simE o _ W sc X C h4).pe) rfl
  | .mk f c as, e, W, sc, X, C, h => by
    cases e <;> try (first | (simp only [chkE] at h; done) | (simp only [chkE] at h; cases h; done))
    rename_i fn args kws pos
    cases fn <;> try (first | (simp only [chkE] at h; done) | (simp only [chkE] at h; cases h; done))
    cases args <;> try (first | (simp only [chkE] at h; done) | (simp only [chkE] at h; cases h; done))
    cases kws <;> try (first | (simp only [chkE] at h; done) | (simp only [chkE] at h; cases h; done))
    simp only [chkE, Bool.and_eq_true] at h
    obtain ⟨⟨h1, h2, h3⟩, h4, h5⟩ := h
    split at h3
    · rename_i i q
      simp only [Bool.and_eq_true, decide_eq_true_eq] at h2 h3
      subst h2
      exact .val (sim_mk C h1 q h3.2 h3.1 h4 (chkEs_noStar h5) (simEs as _ W sc X C h5)) rfl
    · cases h3
  | .lamc g k m, e, W, sc, X, C, h => by
    cases e <;> try (first | (simp only [chkE] at h; done) | (simp only [chkE] at h; cases h; done))
    rename_i fn args kws pos
    cases fn <;> try (first | (simp only [chkE] at h; done) | (simp only [chkE] at h; cases h; done))
    rename_i x p0
    rcases args with _ | ⟨a, _ | ⟨b, r⟩⟩ <;> try (first | (simp only [chkE] at h; done) | (simp only [chkE] at h; cases h; done))
    cases a <;> cases kws <;> try (first | (simp only [chkE] at h; done) | (simp only [chkE] at h; cases h; done))
    rename_i ar bd scope lpos
    simp only [chkE, Bool.and_eq_true, decide_eq_true_eq, Bool.not_eq_true'] at h
    obtain ⟨⟨hg, hl, hs, hn⟩, ⟨hname, hm, hk⟩, ⟨hp, hL⟩, nb, he⟩ := h
    exact .val (sim_lamc C hg hl hs hname hm hk hp hL fun A outer s H E f c' hr => (simE m bd (fun cls d _ H => E cls d H) scope _ (C.lam hn hr) he).pe) rfl
  | .mcall f c m o as, e, W, sc, X, C, h => by
    cases e <;> try (first | (simp only [chkE] at h; done) | (simp only [chkE] at h; cases h; done))
    rename_i fn args kws pos
    cases fn <;> try (first | (simp only [chkE] at h; done) | (simp only [chkE] at h; cases h; done))
    rename_i ov nm ap
    cases ov <;> try (first | (simp only [chkE] at h; done) | (simp only [chkE] at h; cases h; done))
    cases args <;> try (first | (simp only [chkE] at h; done) | (simp only [chkE] at h; cases h; done))
    cases kws <;> try (first | (simp only [chkE] at h; done) | (simp only [chkE] at h; cases h; done))
    simp only [chkE, Bool.and_eq_true] at h
    obtain ⟨⟨⟨h1, h2, h3⟩, h4⟩, h5, h6, h7⟩ := h
    split at h4
    · rename_i i q
      simp only [Bool.and_eq_true, decide_eq_true_eq] at h1 h3 h4
      subst h1
      exact .val (sim_mcall C q h4.2 h4.1.1 h4.1.2 (isB h5) (chkAs_noStar h7) h2 h3 (simE o _ W sc X C h6).pe (simAs as _ W sc X C h7)) rfl
    · cases h4
  | .gix g x, e, W, sc, X, C, h => by
    cases e <;> try (first | (simp only [chkE] at h; done) | (simp only [chkE] at h; cases h; done))
    rename_i v s pos
    cases v <;> try (first | (simp only [chkE] at h; done) | (simp only [chkE] at h; cases h; done))
    simp only [chkE, Bool.and_eq_true] at h
    exact .val (sim_gix C h.1 h.2.1.1 h.2.1.2 (isB h.2.2.1) (simE x _ W sc X C h.2.2.2).pe) rfl
  | .isi x ts, e, W, sc, X, C, h => by
    cases e <;> try (first | (simp only [chkE] at h; done) | (simp only [chkE] at h; cases h; done))
    rename_i fn args kws pos
    cases fn <;> try (first | (simp only [chkE] at h; done) | (simp only [chkE] at h; cases h; done))
    cases kws <;> rcases args with _ | ⟨a, _ | ⟨t, _ | ⟨u, args⟩⟩⟩ <;> try (first | (simp only [chkE] at h; done) | (simp only [chkE] at h; cases h; done))
    simp only [chkE, Bool.and_eq_true] at h
    exact .val (sim_isi C h.1 (of_decide_eq_true h.2.1) h.2.2.1 (chkE_noStar h.2.2.2.2.1) (isB h.2.2.2.1) (simE x _ W sc X C h.2.2.2.2.1).pe h.2.2.2.2.2) rfl
  | .lc own it g t x, e, W, sc, X, C, h => by
    cases e <;> try (first | (simp only [chkE] at h; done) | (simp only [chkE] at h; cases h; done))
    rename_i elt gens scope pos
    rcases gens with _ | ⟨⟨tg, iter, ifs, a⟩, _ | ⟨g2, gs⟩⟩ <;> try (first | (simp only [chkE] at h; done) | (simp only [chkE] at h; cases h; done))
    simp only [chkE, Bool.and_eq_true, decide_eq_true_eq] at h
    obtain ⟨⟨ha, h1, h2⟩, h3, ⟨⟨h4, h5⟩, h6⟩, h7, h8, h9⟩ := h
    subst ha
    have B : BlkOk X.N X.env.scope scope (own.filterMap fun i => (N[i]?).map fun x => (x, i)) := by rw [C.nm, C.sc]; exact blkOk_by (blkD_c h3)
    have hN : X.N.Nodup := by rw [C.nm]; exact C.nd
    refine .val ((pe_lc (g := tgT X.K g) (wi := tI X.K exc W (globD T) run it) (tt := tOT X.K exc W0 (globD T) run t) (te := tE X.K exc W0 (globD T) run x) C.calm hN (simIt it _ tg W sc X C h2) B (fun s H c cl fp => sim_tg (X := X.blk s H scope (compEnvC scope cl c X.env) fp) (T := T) (sc := scope) hN C.calm (StoreOk.blk scope C.nm s H c cl fp) g tg h7)
      (fun s H c cl fp => simT t ifs W0 (relS scope sc) _ (C.blk (blkD_n h3) s H c cl fp) h9) (fun s H c cl fp => (simE x elt W0 (relS scope sc) _ (C.blk (blkD_n h3) s H c cl fp) h8).pe) (noSet_fold h5)).qimp fun σ H Q q => ?_) rfl
    · obtain ⟨F, M, env, rl, p⟩ := q
      rw [h4]
      exact lc_loop (by
        intro i hi
        have := List.all_eq_true.mp h6 i hi
        exact List.contains_iff_mem.mp this) (isB h1) rl p
  | .lc2 own own1 it g it2 g2 x, e, W, sc, X, C, h => by
    cases e <;> try (first | (simp only [chkE] at h; done) | (simp only [chkE] at h; cases h; done))
    rename_i elt gens scope pos
    rcases gens with _ | ⟨⟨tg, iter, ifs, a⟩, _ | ⟨⟨tg1, iter1, ifs1, a1⟩, _ | ⟨_, _⟩⟩⟩ <;> try (first | (simp only [chkE] at h; done) | (simp only [chkE] at h; cases h; done))
    cases ifs <;> cases ifs1 <;> try (first | (simp only [chkE] at h; done) | (simp only [chkE] at h; cases h; done))
    simp only [chkE, Bool.and_eq_true, decide_eq_true_eq] at h
    obtain ⟨⟨⟨ha, ha1⟩, h1, h2⟩, h3, ⟨⟨h4, h5, h5'⟩, h6, h6', h6''⟩, ⟨h7, h7'⟩, h8, h9⟩ := h
    subst ha ha1
    have mem : ∀ {a b : List Nat}, (a.all fun i => b.contains i) = true → ∀ i ∈ a, i ∈ b := fun q i hi => List.contains_iff_mem.mp (List.all_eq_true.mp q i hi)
    have B : BlkOk X.N X.env.scope scope (own.filterMap fun i => (N[i]?).map fun x => (x, i)) := by rw [C.nm, C.sc]; exact blkOk_by (blkD_c h3)
    have hN : X.N.Nodup := by rw [C.nm]; exact C.nd
    refine .val ((pe_lc2 (vs1 := own1) (g := tgT X.K g) (g1 := tgT X.K g2) (te := tE X.K exc W0 (globD T) run x) (wi1 := tI X.K exc W0 (globD T) run it2) C.calm hN (simIt it _ tg W sc X C h2) B (by rw [h4]; exact mem h6'') (fun s H c cl fp => sim_tg (X := X.blk s H scope (compEnvC scope cl c X.env) fp) (T := T) (sc := scope) hN C.calm (StoreOk.blk scope C.nm s H c cl fp) g tg h7) (fun s H c cl fp => pts_nil)
      (fun s H c cl fp => simIt it2 iter1 tg1 W0 (relS scope sc) _ (C.blk (blkD_n h3) s H c cl fp) h9) (fun s H c cl fp => sim_tg (X := X.blk s H scope (compEnvC scope cl c X.env) fp) (T := T) (sc := scope) hN C.calm (StoreOk.blk scope C.nm s H c cl fp) g2 tg1 h7') (fun s H c cl fp => pts_nil)
      (fun s H c cl fp => (simE x elt W0 (relS scope sc) _ (C.blk (blkD_n h3) s H c cl fp) h8).pe) (noSet_fold h5) (fun env => noSet_fold h5')).qimp fun σ H Q q => ?_) rfl
    obtain ⟨F, M, env, rl, p⟩ := q
    rw [h4]
    exact lc2_loop (mem h6) (mem h6') (mem h6'') (isB h1) rl p
theorem simEs : ∀ (m : Es) (es : List Expr) (W : WX) (sc : Scope) (X : Cx), CtxOk T fa fd exc run n N W sc X → chkEs T N sc m es = true → PA X es (tEs X.K exc W (globD T) run m)
  | .nil, [], W, sc, X, C, h => sim_es_nil
  | .nil, _ :: _, W, sc, X, C, h => by simp only [chkEs] at h; cases h
  | .cons e es, [], W, sc, X, C, h => by simp only [chkEs] at h; cases h
  | .cons e es, x :: xs, W, sc, X, C, h => by
    simp only [chkEs, Bool.and_eq_true] at h
    exact sim_es_cons (chkE_noStar h.1) (simE e _ W sc X C h.1).pe (simEs es _ W sc X C h.2)
theorem simDs : ∀ (m : Es) (es : List Expr) (ks : List Str) (keys : List (Option Expr)) (dp : Pos) (W : WX) (sc : Scope) (X : Cx), CtxOk T fa fd exc run n N W sc X → keyNames ks keys = true → es.length = keys.length → chkEs T N sc m es = true → PPs X dp keys es (trsOf X.K exc W (globD T) run ks m)
  | .nil, [], ks, keys, dp, W, sc, X, C, hk, hl, h => by
    have : keys = [] := List.length_eq_zero_iff.mp hl.symm
    subst this
    cases ks with
    | nil => exact pps_nil
    | cons _ _ => simp only [keyNames] at hk; cases hk
  | .nil, _ :: _, ks, keys, dp, W, sc, X, C, hk, hl, h => by simp only [chkEs] at h; cases h
  | .cons e es, [], ks, keys, dp, W, sc, X, C, hk, hl, h => by simp only [chkEs] at h; cases h
  | .cons e es, x :: xs, ks, keys, dp, W, sc, X, C, hk, hl, h => by
    simp only [chkEs, Bool.and_eq_true] at h
    cases keys with
    | nil => cases hl
    | cons key keys =>
      cases ks with
      | nil => simp only [keyNames] at hk; cases hk
      | cons k ks =>
        cases key with
        | none => simp only [keyNames] at hk; cases hk
        | some kx =>
          cases kx <;> try (simp only [keyNames] at hk; cases hk; done)
          rename_i c _ _
          cases c <;> try (simp only [keyNames] at hk; cases hk; done)
          simp only [keyNames, Bool.and_eq_true, decide_eq_true_eq] at hk
          obtain ⟨rfl, hk2⟩ := hk
          exact pps_cons pe_str (simE e x W sc X C h.1).pe (simDs es xs ks keys dp W sc X C hk2 (by simpa using hl) h.2)
theorem simO : ∀ (m : Oe) (e : Option Expr) (W : WX) (sc : Scope) (X : Cx), CtxOk T fa fd exc run n N W sc X → chkO T N sc m e = true → PO X e (tOe X.K exc W (globD T) run m)
  | .none, none, W, sc, X, C, h => sim_o_none
  | .none, some _, W, sc, X, C, h => by simp only [chkO] at h; cases h
  | .some e, none, W, sc, X, C, h => by simp only [chkO] at h; cases h
  | .some e, some x, W, sc, X, C, h => by
    simp only [chkO, Bool.and_eq_true] at h
    exact sim_o_some (isB h.1) (simE e _ W sc X C h.2).pe
theorem simT : ∀ (t : Oe) (ifs : List Expr) (W : WX) (sc : Scope) (X : Cx), CtxOk T fa fd exc run n N W sc X → chkT T N sc t ifs = true → PTs X ifs (tOT X.K exc W (globD T) run t)
  | .none, [], W, sc, X, C, h => ⟨fun pins s' σ H' Q I q => pts_nil.run pins s' σ H' Q I (by
      obtain ⟨F, M, env, rl, p⟩ := q
      exact Post.here (a := true) (R := fun (d : Bool) b _ => d = b) p rl rfl)⟩
  | .none, _ :: _, W, sc, X, C, h => by simp only [chkT] at h; cases h
  | .some m, [], W, sc, X, C, h => by simp only [chkT] at h; cases h
  | .some m, _ :: _ :: _, W, sc, X, C, h => by simp only [chkT] at h; cases h
  | .some m, [c'], W, sc, X, C, h => by
    simp only [chkT, Bool.and_eq_true] at h
    exact pts_one (((simE m c' W sc X C h.2).pt (isB h.1)).qimp fun σ H Q q => by
      obtain ⟨F, M, env, rl, p⟩ := q
      refine ⟨F, M, env, rl, ?_⟩
      have e : (evE (globD T) run m env).bind asB = evT (globD T) run (.some m) env := by
        simp only [evT]
        congr 1
        funext x e1
        cases x <;> rfl
      rw [e]; exact p)
theorem simAs : ∀ (m : As) (es : List Expr) (W : WX) (sc : Scope) (X : Cx), CtxOk T fa fd exc run n N W sc X → chkAs T N sc m es = true → PA X es (tAs X.K exc W (globD T) run m)
  | .nil, [], W, sc, X, C, h => sim_as_nil
  | .nil, _ :: _, W, sc, X, C, h => by simp only [chkAs] at h; cases h
  | .val e es, [], W, sc, X, C, h => by simp only [chkAs] at h; cases h
  | .val e es, x :: xs, W, sc, X, C, h => by
    simp only [chkAs, Bool.and_eq_true] at h
    exact sim_as_val (chkE_noStar h.1) (simE e _ W sc X C h.1).pe (simAs es _ W sc X C h.2)
  | .io i es, [], W, sc, X, C, h => by simp only [chkAs] at h; cases h
  | .io i es, x :: xs, W, sc, X, C, h => by
    cases x <;> try (simp only [chkAs] at h; cases h; done)
    simp only [chkAs, Bool.and_eq_true] at h
    exact sim_as_io C h.1 (simAs es _ W sc X C h.2)
theorem simIt : ∀ (m : It) (x tg : Expr) (W : WX) (sc : Scope) (X : Cx), CtxOk T fa fd exc run n N W sc X → chkIt T N sc tg m x = true → PI X tg x (tI X.K exc W (globD T) run m)
  | .seq e, x, tg, W, sc, X, C, h => by
    simp only [chkIt, Bool.and_eq_true] at h
    exact sim_seq (isB h.1) (simE e _ W sc X C h.2).pe
  | .rng1 e, x, tg, W, sc, X, C, h => by
    cases x <;> try (simp only [chkIt] at h; cases h; done)
    rename_i fn args kws pos
    cases fn <;> try (simp only [chkIt] at h; cases h; done)
    cases kws <;> rcases args with _ | ⟨a, _ | ⟨t, args⟩⟩ <;> try (simp only [chkIt] at h; cases h; done)
    simp only [chkIt, Bool.and_eq_true] at h
    exact sim_rng1 C h.1 (of_decide_eq_true h.2.1) h.2.2.1 (isB h.2.2.2.1) (chkE_noStar h.2.2.2.2) (simE e _ W sc X C h.2.2.2.2).pe
  | .rng2 e e', x, tg, W, sc, X, C, h => by
    cases x <;> try (simp only [chkIt] at h; cases h; done)
    rename_i fn args kws pos
    cases fn <;> try (simp only [chkIt] at h; cases h; done)
    cases kws <;> rcases args with _ | ⟨a, _ | ⟨t, _ | ⟨u, args⟩⟩⟩ <;> try (simp only [chkIt] at h; cases h; done)
    simp only [chkIt, Bool.and_eq_true] at h
    exact sim_rng2 C h.1 (of_decide_eq_true h.2.1) h.2.2.1 (isB h.2.2.2.1.1) (isB h.2.2.2.1.2) (chkE_noStar h.2.2.2.2.1) (chkE_noStar h.2.2.2.2.2) (simE e _ W sc X C h.2.2.2.2.1).pe (simE e' _ W sc X C h.2.2.2.2.2).pe
  | .enum e, x, tg, W, sc, X, C, h => by
    cases x <;> try (simp only [chkIt] at h; cases h; done)
    rename_i fn args kws pos
    cases fn <;> try (simp only [chkIt] at h; cases h; done)
    cases kws <;> rcases args with _ | ⟨a, _ | ⟨t, args⟩⟩ <;> try (simp only [chkIt] at h; cases h; done)
    simp only [chkIt, Bool.and_eq_true] at h
    cases tg <;> try (have h2 := h.2; cases h2; done)
    exact sim_enum C h.1.1 (of_decide_eq_true h.1.2.1) h.1.2.2.1 (isB h.1.2.2.2.1) (chkE_noStar h.1.2.2.2.2) (simE e _ W sc X C h.1.2.2.2.2).pe
end
end
end Qh

/-! An expression changes no name's kind. -/
namespace Qh
open PySem PySem.Spec PyProof.Rows L2 PySem.W
def pat (env : En) : List Bool := env.map Sl.isOwn
theorem pat_at {env : En} {i : Nat} : (env.at i).isOwn = (pat env).getD i false := by
  unfold En.at pat
  rw [List.getD_eq_getElem?_getD, List.getD_eq_getElem?_getD, List.getElem?_map]
  cases env[i]? <;> rfl
theorem pat_set {env : En} {i : Nat} {s : Sl} (h : (env.at i).isOwn = s.isOwn) : pat (env.set i s) = pat env := by
  unfold pat
  rw [List.map_set, ← h]
  unfold En.at
  rw [List.getD_eq_getElem?_getD]
  apply List.ext_getElem?
  intro j
  rw [List.getElem?_set]
  split
  · rename_i e
    subst e
    split
    · rename_i hl
      rw [List.length_map] at hl
      rw [List.getElem?_map, List.getElem?_eq_getElem hl]
      rfl
    · rename_i hl
      rw [List.getElem?_eq_none (by omega)]
  · rfl
def Keep {α : Type} (p : List Bool) : Res α → Prop
  | .ok _ e => pat e = p
  | .exc _ e => pat e = p
  | .bad => True
theorem Keep.bind {α β : Type} {p : List Bool} {r : Res α} {k : α → En → Res β} (h : Keep p r) (hk : ∀ a e, pat e = p → Keep p (k a e)) : Keep p (r.bind k) := by
  cases r with
  | ok a e => exact hk a e h
  | exc x e => exact h
  | bad => trivial
theorem Keep.opt {α : Type} {p : List Bool} {o : Option α} {e : En} (h : pat e = p) : Keep p (opt o e) := by
  cases o with
  | none => trivial
  | some a => exact h
theorem Keep.onBl {α : Type} {p : List Bool} {x : D} {e : En} {A B : En → Res α} (ha : Keep p (A e)) (hb : Keep p (B e)) : Keep p (onBl x e A B) := by
  cases x <;> try trivial
  rename_i b
  cases b
  · exact hb
  · exact ha
theorem Keep.noExc {α : Type} {p : List Bool} {r : Res α} (h : Keep p r) : Keep p (noExc r) := by
  cases r with
  | ok a e => exact h
  | exc x e => trivial
  | bad => trivial
mutual
theorem asgT_pat : ∀ (g : Tg) (d : D) (env e' : En), asgT g d env = some e' → pat e' = pat env
  | .nm i, d, env, e', h => by
    simp only [asgT] at h
    split at h
    · cases h
    · rename_i hn
      cases h
      refine pat_set ?_
      cases q : env.at i <;> first | rfl | exact absurd q (hn _)
  | .tp gs, d, env, e', h => by
    simp only [asgT] at h
    split at h
    · exact asgTs_pat gs _ env e' h
    · cases h
theorem asgTs_pat : ∀ (gs : Tgs) (ds : List D) (env e' : En), asgTs gs ds env = some e' → pat e' = pat env
  | .nil, [], env, e', h => by simp only [asgTs, Option.some.injEq] at h; rw [h]
  | .nil, _ :: _, env, e', h => by simp only [asgTs] at h; cases h
  | .cons _ _, [], env, e', h => by simp only [asgTs] at h; cases h
  | .cons g gs, d :: ds, env, e', h => by
    simp only [asgTs] at h
    cases q : asgT g d env with
    | none => rw [q] at h; cases h
    | some e1 =>
      rw [q] at h
      rw [asgTs_pat gs ds e1 e' h, asgT_pat g d env e1 q]
end
theorem wipeE_pat {env : En} : ∀ {vs : List Nat}, (∀ i ∈ vs, (env.at i).isOwn = false) → pat (wipeE env vs) = pat env
  | [], _ => rfl
  | v :: vs, h => by
    have ih := wipeE_pat (env := env) (vs := vs) fun i hi => h i (List.mem_cons_of_mem _ hi)
    unfold wipeE
    rw [pat_set, ih]
    rw [pat_at, ih, ← pat_at, h v List.mem_cons_self]
    rfl
theorem backE_pat {orig env : En} (hp : pat env = pat orig) : ∀ {vs : List Nat}, (∀ i ∈ vs, (orig.at i).isOwn = false) → pat (backE orig env vs) = pat orig
  | [], _ => hp
  | v :: vs, h => by
    have ih := backE_pat hp (vs := vs) fun i hi => h i (List.mem_cons_of_mem _ hi)
    unfold backE
    rw [pat_set, ih]
    rw [pat_at, ih, ← pat_at, h v List.mem_cons_self]
    cases orig.at v <;> rfl
theorem putOuts_pat : ∀ (avs : List AV) (outs : List Sl) (env e' : En), putOuts avs outs env = some e' → pat e' = pat env
  | [], outs, env, e', h => by simp only [putOuts, Option.some.injEq] at h; rw [h]
  | .io i :: as, [], env, e', h => by simp [putOuts] at h
  | .dat _ :: as, [], env, e', h => by simp [putOuts] at h
  | .bo _ :: as, [], env, e', h => by simp [putOuts] at h
  | .dat _ :: as, s :: ss, env, e', h => by
    simp only [putOuts] at h
    exact putOuts_pat as ss env e' h
  | .bo _ :: as, s :: ss, env, e', h => by
    simp only [putOuts] at h
    exact putOuts_pat as ss env e' h
  | .io i :: as, s :: ss, env, e', h => by
    cases s <;> simp only [putOuts] at h <;> try (cases h; done)
    split at h
    · rename_i o' q
      obtain ⟨e1, h1, rfl⟩ := Option.map_eq_some_iff.mp h
      have := putOuts_pat as ss env e1 h1
      rw [pat_set, this]
      rw [pat_at, this, ← pat_at, q]
      rfl
    · cases h
section
variable {G : Nat → Option D} {run : Run}
theorem lcLoop_pat {body : D → En → Res (Option D)} {p : List Bool} (hb : ∀ x e, pat e = p → Keep p (body x e)) : ∀ (xs acc : List D) (env : En), pat env = p → Keep p (lcLoop body xs acc env)
  | [], acc, env, h => by
    unfold lcLoop
    split
    · exact h
    · trivial
  | x :: xs, acc, env, h => by
    unfold lcLoop
    split
    · exact (hb x env h).bind fun o e he => lcLoop_pat hb xs _ e he
    · trivial
theorem lc2Loop_pat {own own1 : List Nat} {g : D → En → Option En} {iti : En → Res (List D)} {body : D → En → Res (Option D)} {p : List Bool} (hw : ∀ e, pat e = p → pat (wipeE e own) = p) (hw1 : ∀ e, pat e = p → pat (wipeE e own1) = p)
    (hg : ∀ x e e', pat e = p → g x e = some e' → pat e' = p) (hi : ∀ e, pat e = p → Keep p (iti e)) (hb : ∀ x e, pat e = p → Keep p (body x e)) : ∀ (xs acc : List D) (env : En), pat env = p → Keep p (lc2Loop own own1 g iti body xs acc env)
  | [], acc, env, h => h
  | x :: xs, acc, env, h => by
    unfold lc2Loop
    cases q : g x env with
    | none => trivial
    | some e2 => exact (hi e2 (hg x env e2 h q)).bind fun items e3 h3 => (lcLoop_pat hb items acc _ (hw1 e3 h3)).bind fun acc' e4 h4 => lc2Loop_pat hw hw1 hg hi hb xs acc' _ (hw e4 h4)
theorem lcBody_pat {own : List Nat} {g : D → En → Option En} {t : En → Res Bool} {el : En → Res D} {p : List Bool} (hw : ∀ e, pat e = p → pat (wipeE e own) = p)
    (hg : ∀ x e e', pat e = p → g x e = some e' → pat e' = p) (ht : ∀ e, pat e = p → Keep p (t e)) (he : ∀ e, pat e = p → Keep p (el e)) (x : D) (env : En) (h : pat env = p) : Keep p (lcBody own g t el x env) := by
  unfold lcBody
  cases q : g x env with
  | none => trivial
  | some e2 =>
    refine (ht e2 (hg x env e2 h q)).bind fun b e3 h3 => ?_
    split
    · exact (he e3 h3).bind fun y e4 h4 => hw e4 h4
    · exact hw e3 h3
theorem wipe_all {own : List Nat} {e1 : En} {p : List Bool} (h1 : pat e1 = p) (h : ¬ (own.any fun i => (e1.at i).isOwn) = true) : ∀ i ∈ own, ∀ e, pat e = p → (e.at i).isOwn = false := fun i hi e he => by
  cases q : (e.at i).isOwn with
  | false => rfl
  | true =>
    exfalso
    apply h
    rw [List.any_eq_true]
    exact ⟨i, hi, by rw [pat_at, h1, ← he, ← pat_at]; exact q⟩
theorem keep_callGo {run : Run} {f : Nat} {avs : List AV} {p : List Bool} {e1 : En} (h1 : pat e1 = p) : Keep p (callGo run f avs e1) := by
  unfold callGo
  have key : ∀ outs e2, callEnd avs outs e1 = some e2 → pat e2 = p := fun outs e2 q => by
    unfold callEnd at q
    split at q
    · cases q
    · rw [putOuts_pat _ _ _ _ q, h1]
  split
  · trivial
  · split
    · split
      · rename_i q
        split
        · trivial
        · exact key _ _ q
      · trivial
    · split
      · rename_i q
        exact key _ _ q
      · trivial
    · trivial
mutual
theorem keepE : ∀ (m : E) (p : List Bool) (env : En), pat env = p → Keep p (evE G run m env)
  | .var i, p, env, h => by simp only [evE]; exact .opt h
  | .bor i, p, env, h => by simp only [evE]; exact .opt h
  | .cst d, p, env, h => by simp only [evE]; exact h
  | .glo g, p, env, h => by simp only [evE]; exact .opt h
  | .bin op a b, p, env, h => by simp only [evE]; exact (keepE a p env h).bind fun x e1 h1 => (keepE b p e1 h1).bind fun y e2 h2 => .opt h2
  | .cmp op a b, p, env, h => by simp only [evE]; exact (keepE a p env h).bind fun x e1 h1 => (keepE b p e1 h1).bind fun y e2 h2 => .opt h2
  | .chn op op' a b c, p, env, h => by
    simp only [evE]
    refine (keepE a p env h).bind fun x e1 h1 => (keepE b p e1 h1).bind fun y e2 h2 => ?_
    split
    · exact (keepE c p e2 h2).bind fun z e3 h3 => .opt h3
    · exact h2
    · trivial
  | .and a b, p, env, h => by simp only [evE]; exact (keepE a p env h).bind fun x e1 h1 => .onBl (keepE b p e1 h1) h1
  | .or a b, p, env, h => by simp only [evE]; exact (keepE a p env h).bind fun x e1 h1 => .onBl h1 (keepE b p e1 h1)
  | .not a, p, env, h => by simp only [evE]; exact (keepE a p env h).bind fun x e1 h1 => .onBl h1 h1
  | .ife t a b, p, env, h => by simp only [evE]; exact (keepE t p env h).bind fun x e1 h1 => .onBl (keepE a p e1 h1) (keepE b p e1 h1)
  | .tup es, p, env, h => by
    simp only [evE]
    refine (keepEs es p env h).bind fun l e1 h1 => ?_
    split
    · exact h1
    · trivial
  | .lst es, p, env, h => by
    simp only [evE]
    refine (keepEs es p env h).bind fun l e1 h1 => ?_
    split
    · exact h1
    · trivial
  | .ix a i, p, env, h => by simp only [evE]; exact (keepE a p env h).bind fun x e1 h1 => (keepE i p e1 h1).bind fun y e2 h2 => .opt h2
  | .sl a lo hi, p, env, h => by simp only [evE]; exact (keepE a p env h).bind fun x e1 h1 => (keepO lo p e1 h1).bind fun y e2 h2 => (keepO hi p e2 h2).bind fun z e3 h3 => .opt h3
  | .rev a, p, env, h => by simp only [evE]; exact (keepE a p env h).bind fun x e1 h1 => .opt h1
  | .bset b a, p, env, h => by simp only [evE]; exact (keepE a p env h).bind fun x e1 h1 => .opt h1
  | .call f as, p, env, h => by
    simp only [evE]
    refine (keepAs as p env h).bind fun avs e1 h1 => ?_
    have key : ∀ outs e2, callEnd avs outs e1 = some e2 → pat e2 = p := fun outs e2 q => by
      unfold callEnd at q
      split at q
      · cases q
      · rw [putOuts_pat _ _ _ _ q, h1]
    split
    · trivial
    · split
      · split
        · rename_i q
          split
          · trivial
          · exact key _ _ q
        · trivial
      · split
        · rename_i q
          exact key _ _ q
        · trivial
      · trivial
  | .bi b as, p, env, h => by simp only [evE]; exact (keepEs as p env h).bind fun l e1 h1 => .opt h1
  | .me m o as, p, env, h => by
    simp only [evE]
    refine (keepE o p env h).bind fun x e1 h1 => ?_
    split
    · trivial
    · exact (keepEs as p e1 h1).bind fun l e2 h2 => .opt h2
  | .neg a, p, env, h => by
    simp only [evE]
    refine (keepE a p env h).bind fun x e1 h1 => ?_
    split
    · exact h1
    · trivial
  | .get o k x, p, env, h => by
    simp only [evE]
    refine (keepE o p env h).bind fun d e1 h1 => ?_
    split
    · exact (keepE k p e1 h1).bind fun y e2 h2 => (keepE x p e2 h2).bind fun z e3 h3 => .opt h3
    · trivial
  | .dsel ks vs i, p, env, h => by
    simp only [evE]
    refine (Keep.noExc (keepEs vs p env h)).bind fun l e1 h1 => ?_
    split
    · refine (keepE i p e1 h1).bind fun y e2 h2 => ?_
      split
      · exact .opt h2
      · trivial
    · trivial
  | .gin neg g e, p, env, h => by
    simp only [evE]
    refine (keepE e p env h).bind fun x e1 h1 => ?_
    split
    · exact .opt h1
    · trivial
  | .fld c o f, p, env, h => by
    simp only [evE]
    refine (keepE o p env h).bind fun x e1 h1 => ?_
    split
    · split
      · exact .opt h1
      · trivial
    · trivial
  | .mk f c as, p, env, h => by
    simp only [evE]
    refine (keepEs as p env h).bind fun l e1 h1 => ?_
    unfold mkGo
    split
    · split
      · exact h1
      · trivial
    · trivial
  | .lamc g k e, p, env, h => by
    simp only [evE]
    have hk := keepE e p env h
    revert hk
    cases evE G run e env with
    | ok d e1 => exact fun hk => hk
    | exc x e1 =>
      intro hk
      simp only
      split
      · exact hk
      · trivial
    | bad => exact fun _ => trivial
  | .mcall f c m o as, p, env, h => by
    simp only [evE]
    refine (keepE o p env h).bind fun x e1 h1 => ?_
    split
    · exact (keepAs as p e1 h1).bind fun avs e2 h2 => keep_callGo h2
    · trivial
  | .gix g e, p, env, h => by
    simp only [evE]
    refine (keepE e p env h).bind fun x e1 h1 => ?_
    split
    · exact .opt h1
    · trivial
  | .isi e ts, p, env, h => by
    simp only [evE]
    refine (keepE e p env h).bind fun x e1 h1 => ?_
    split
    · exact h1
    · trivial
  | .lc own it g t e, p, env, h => by
    simp only [evE]
    refine (keepIt it p env h).bind fun items e1 h1 => ?_
    split
    · trivial
    · rename_i hn
      have hw := wipe_all h1 hn
      have hw' : ∀ e, pat e = p → pat (wipeE e own) = p := fun e he => by rw [wipeE_pat fun i hi => hw i hi e he]; exact he
      refine (Keep.noExc (lcLoop_pat (lcBody_pat hw' (fun x e e' he q => by rw [asgT_pat _ _ _ _ q]; exact he) (fun e he => keepT t p e he) (fun e' he => keepE e p e' he)) items [] _ (hw' e1 h1))).bind fun l e5 h5 => ?_
      show pat _ = p
      rw [backE_pat (by rw [h5, h1]) fun i hi => hw i hi e1 h1]
      exact h1
  | .lc2 own own1 it g it2 g2 e, p, env, h => by
    simp only [evE]
    refine (keepIt it p env h).bind fun items e1 h1 => ?_
    split
    · trivial
    · rename_i hn
      rw [Bool.or_eq_true, not_or] at hn
      have hw := wipe_all h1 hn.1
      have hsub : ∀ i ∈ own1, i ∈ own := fun i hi => by
        cases q : own.contains i with
        | true => exact List.contains_iff_mem.mp q
        | false => exact absurd (List.any_eq_true.mpr ⟨i, hi, by rw [q]; rfl⟩) hn.2
      have hw' : ∀ e, pat e = p → pat (wipeE e own) = p := fun e he => by rw [wipeE_pat fun i hi => hw i hi e he]; exact he
      have hw1 : ∀ e, pat e = p → pat (wipeE e own1) = p := fun e he => by rw [wipeE_pat fun i hi => hw i (hsub i hi) e he]; exact he
      refine (Keep.noExc (lc2Loop_pat hw' hw1 (fun x e e' he q => by rw [asgT_pat _ _ _ _ q]; exact he) (fun e he => keepIt it2 p e he)
        (lcBody_pat (t := fun e => .ok true e) hw1 (fun x e e' he q => by rw [asgT_pat _ _ _ _ q]; exact he) (fun e he => he) (fun e' he => keepE e p e' he)) items [] _ (hw' e1 h1))).bind fun l e5 h5 => ?_
      show pat _ = p
      rw [backE_pat (by rw [h5, h1]) fun i hi => hw i hi e1 h1]
      exact h1
theorem keepEs : ∀ (m : Es) (p : List Bool) (env : En), pat env = p → Keep p (evEs G run m env)
  | .nil, p, env, h => by simp only [evEs]; exact h
  | .cons e es, p, env, h => by simp only [evEs]; exact (keepE e p env h).bind fun x e1 h1 => (keepEs es p e1 h1).bind fun l e2 h2 => h2
theorem keepO : ∀ (m : Oe) (p : List Bool) (env : En), pat env = p → Keep p (evO G run m env)
  | .none, p, env, h => by simp only [evO]; exact h
  | .some e, p, env, h => by
    simp only [evO]
    refine (keepE e p env h).bind fun x e1 h1 => ?_
    split
    · exact h1
    · trivial
theorem keepT : ∀ (m : Oe) (p : List Bool) (env : En), pat env = p → Keep p (evT G run m env)
  | .none, p, env, h => by simp only [evT]; exact h
  | .some e, p, env, h => by
    simp only [evT]
    refine (keepE e p env h).bind fun x e1 h1 => ?_
    split
    · exact h1
    · trivial
theorem keepAs : ∀ (m : As) (p : List Bool) (env : En), pat env = p → Keep p (evAs G run m env)
  | .nil, p, env, h => by simp only [evAs]; exact h
  | .val e as, p, env, h => by simp only [evAs]; exact (keepE e p env h).bind fun x e1 h1 => (keepAs as p e1 h1).bind fun l e2 h2 => h2
  | .io i as, p, env, h => by
    simp only [evAs]
    split
    · exact (keepAs as p env h).bind fun l e1 h1 => h1
    · trivial
theorem keepIt : ∀ (m : It) (p : List Bool) (env : En), pat env = p → Keep p (evIt G run m env)
  | .seq e, p, env, h => by
    simp only [evIt]
    refine (keepE e p env h).bind fun x e1 h1 => ?_
    split
    · exact h1
    · exact h1
    · split
      · exact h1
      · trivial
    · trivial
  | .rng1 e, p, env, h => by
    simp only [evIt]
    refine (keepE e p env h).bind fun x e1 h1 => ?_
    split
    · split
      · exact h1
      · trivial
    · trivial
  | .rng2 a b, p, env, h => by
    simp only [evIt]
    refine (keepE a p env h).bind fun x e1 h1 => (keepE b p e1 h1).bind fun y e2 h2 => ?_
    split
    · split
      · exact h2
      · trivial
    · trivial
  | .enum e, p, env, h => by
    simp only [evIt]
    refine (keepE e p env h).bind fun x e1 h1 => ?_
    split
    · exact h1
    · trivial
end
end
end Qh

/-! Statements, functions, their interpreter and their check. -/
namespace Qh
open PySem PySem.Spec PyProof.Rows L2 PySem.W
inductive Ps where
  | nil
  | val (e : E) (ps : Ps)
  | new (d : Bool) (ps : Ps)
inductive PV where
  | val (d : D) | new (d : Bool)
/-- what a display of nothing makes -/
def emptyO (d : Bool) : O := if d then .dct [] [] else .lst []
mutual
inductive S where
  | skip
  | bad
  | asg (g : Tg) (e : E)
  | own (i : Nat) (es : Es)
  | par (gs : List Nat) (ps : Ps)
  | setix (i : Nat) (k e : E)
  | fld (c : Str) (i : Nat) (f : Str) (e : E)
  | raise (c : Nat)
  | over (i : Nat) (e : E)
  | ownd (i : Nat)
  | ownp (i : Nat) (e : E)
  | setk (i : Nat) (k e : E)
  | setks (i : Nat) (ks es : Es)
  | app (i : Nat) (e : E)
  | ext (i : Nat) (e : E)
  | ex (e : E)
  | ite (t : E) (a b : Ss)
  | for (it : It) (g : Tg) (b : Ss)
  | ret (e : E)
  | retn
  | reto (i : Nat)
inductive Ss where
  | nil
  | cons (s : S) (r : Ss)
end
inductive SR where
  | nxt (e : En) | ret (d : D) (e : En) | exc (x : Exn) (e : En) | bad
def SR.next : SR → (En → SR) → SR
  | .nxt e, k => k e
  | r, _ => r
def Res.sr {α : Type} : Res α → (α → En → SR) → SR
  | .ok a e, k => k a e
  | .exc x e, _ => .exc x e
  | .bad, _ => .bad
def optS {α : Type} (o : Option α) (k : α → SR) : SR := match o with
  | some a => k a
  | none => .bad
def forS (g : D → En → Option En) (body : En → SR) : List D → En → SR
  | [], env => .nxt env
  | x :: xs, env => match g x env with
    | none => .bad
    | some e2 => (body e2).next (forS g body xs)
def ownL (env : En) (i : Nat) : Option (List D) := match env.at i with
  | .own (.lst l) => some l
  | _ => none
/-- a field of an instance is set -/
def fldPut (f : Str) (x : D) : List Str → List D → Option (List Str × List D)
  | [], [] => some ([f], [x])
  | n :: ns, d :: ds => if n = f then some (n :: ns, x :: ds) else (fldPut f x ns ds).map fun p => (n :: p.1, d :: p.2)
  | _, _ => none
def ownI (c : Str) (env : En) (i : Nat) : Option (List Str × List D) := match env.at i with
  | .own (.ins c' ns fs) => if c' = c then some (ns, fs) else none
  | _ => none
def esLen : Es → Nat
  | .nil => 0
  | .cons _ es => esLen es + 1
def ownD (env : En) (i : Nat) : Option (List D × List D) := match env.at i with
  | .own (.dct ks vs) => some (ks, vs)
  | _ => none
/-- an object that is handed back -/
def ownR (env : En) (i : Nat) : Option D := match env.at i with
  | .own (.lst l) => some (.lst l)
  | .own (.dct ks vs) => some (.dct ks vs)
  | _ => none
/-- the pairs of dict(..): texts, none twice -/
def pairK : List D → Option (List Str × List D)
  | [] => some ([], [])
  | .tup [.str k, v] :: r => (pairK r).map fun p => (k :: p.1, v :: p.2)
  | _ => none
def dictP (l : List D) : Option (List D × List D) := match pairK l with
  | some (ks, vs) => if (nodupS ks && !ks.isEmpty && decide (ks.length ≤ big)) = true then some (ks.map .str, vs) else none
  | none => none
def asgPs : List Nat → List PV → En → Option En
  | [], [], env => some env
  | i :: gs, .val d :: pvs, env => match env.at i with
    | .own _ => none
    | _ => asgPs gs pvs (env.set i (.dat d))
  | i :: gs, .new d :: pvs, env => if i < env.length then asgPs gs pvs (env.set i (.own (emptyO d))) else none
  | _, _, _ => none
section
variable (G : Nat → Option D) (run : Run)
def evPs : Ps → En → Res (List PV)
  | .nil, env => .ok [] env
  | .val e ps, env => (evE G run e env).bind fun x e1 => (evPs ps e1).bind fun l e2 => .ok (.val x :: l) e2
  | .new d ps, env => (evPs ps env).bind fun l e2 => .ok (.new d :: l) e2
def evSetks (i : Nat) : Es → List D → En → SR
  | .nil, [], env => .nxt env
  | .cons k ks, x :: xs, env => optS (ownD env i) fun _ => (evE G run k env).sr fun y e1 => optS (ownD e1 i) fun p => optS (dPut p.1 p.2 y x) fun p' => evSetks i ks xs (e1.set i (.own (.dct p'.1 p'.2)))
  | _, _, _ => .bad
mutual
def evS : S → En → SR
  | .skip, env => .nxt env
  | .bad, _ => .bad
  | .asg g e, env => (evE G run e env).sr fun x e1 => optS (asgT g x e1) .nxt
  | .own i es, env => (evEs G run es env).sr fun l e1 => if decide (l.length ≤ big) && decide (i < e1.length) then .nxt (e1.set i (.own (.lst l))) else .bad
  | .par gs ps, env => (evPs G run ps env).sr fun l e1 => optS (asgPs gs l e1) .nxt
  | .setix i k e, env => optS (ownL env i) fun _ => (evE G run e env).sr fun x e1 => (evE G run k e1).sr fun y e2 => match ownL e2 i, y with
    | some l, .int n => optS (L2.ixN l.length n) fun j => .nxt (e2.set i (.own (.lst (l.set j x))))
    | _, _ => .bad
  | .fld c i f e, env => (evE G run e env).sr fun x e1 => optS (ownI c e1 i) fun p => optS (fldPut f x p.1 p.2) fun q => if p.1.length < 900 then .nxt (e1.set i (.own (.ins c q.1 q.2))) else .bad
  | .raise c, env => .exc ⟨c, none⟩ env
  | .over i e, env => (evE G run e env).sr fun x e1 => if i < e1.length then .nxt (e1.set i (.dat x)) else .bad
  | .ownd i, env => if i < env.length then .nxt (env.set i (.own (.dct [] []))) else .bad
  | .ownp i e, env => (evE G run e env).sr fun x e1 => match x with
    | .lst l => optS (dictP l) fun p => if i < e1.length then .nxt (e1.set i (.own (.dct p.1 p.2))) else .bad
    | _ => .bad
  | .setk i k e, env => optS (ownD env i) fun _ => (evE G run e env).sr fun x e1 => (evE G run k e1).sr fun y e2 => optS (ownD e2 i) fun p => optS (dPut p.1 p.2 y x) fun p' => .nxt (e2.set i (.own (.dct p'.1 p'.2)))
  | .setks i ks es, env => (evEs G run es env).sr fun l e1 => if (decide (l.length ≤ big) && decide (l.length = esLen ks)) = true then evSetks G run i ks l e1 else .bad
  | .app i e, env => optS (ownL env i) fun _ => (evE G run e env).sr fun x e1 => optS (ownL e1 i) fun l => if l.length < big then .nxt (e1.set i (.own (.lst (l ++ [x])))) else .bad
  | .ext i e, env => optS (ownL env i) fun _ => (evE G run e env).sr fun x e1 => optS (ownL e1 i) fun l => match x with
    | .lst m => if l.length + m.length ≤ big then .nxt (e1.set i (.own (.lst (l ++ m)))) else .bad
    | _ => .bad
  | .ex e, env => (evE G run e env).sr fun _ e1 => .nxt e1
  | .ite t a b, env => ((evE G run t env).bind asB).sr fun x e1 => if x = true then evSs a e1 else evSs b e1
  | .for it g b, env => (evIt G run it env).sr fun items e1 => forS (asgT g) (evSs b) items e1
  | .ret e, env => (evE G run e env).sr fun x e1 => .ret x e1
  | .retn, env => .ret .non env
  | .reto i, env => optS (ownR env i) fun d => .ret d env
def evSs : Ss → En → SR
  | .nil, env => .nxt env
  | .cons s r, env => (evS s env).next (evSs r)
end
end
structure Fn where
  ps : Nat
  n : Nat
  body : Ss
def outs (xs : List Sl) (env : En) : List Sl := List.zipWith (fun x e => if x.isOwn then e else x) xs env
def finish (xs : List Sl) : SR → Res D
  | .nxt env => if xs.length ≤ env.length then .ok .non (outs xs env) else .bad
  | .ret d env => if xs.length ≤ env.length then .ok d (outs xs env) else .bad
  | .exc x env => if xs.length ≤ env.length then .exc x (outs xs env) else .bad
  | .bad => .bad
def runN (G : Nat → Option D) (P : Nat → Option Fn) : Nat → Run
  | 0 => fun _ _ => .bad
  | n + 1 => fun f xs => match P f with
    | some fn => if xs.length = fn.ps then finish xs (evSs G (runN G P n) fn.body (xs ++ List.replicate (fn.n - fn.ps) .non)) else .bad
    | none => .bad

/-! ### the check -/
def isComp : Expr → Bool
  | .ListComp _ _ _ _ => true
  | .SetComp _ _ _ _ => true
  | .DictComp _ _ _ _ _ => true
  | _ => false
def isTup : Expr → Bool
  | .Tuple _ _ _ => true
  | _ => false
/-- a plain name of the def at that line -/
def swName (sc : Scope) (line : Nat) : Expr → Option Str
  | .Name x p => match sc.names.lookup x with
    | some .local => if p.line = line then some x else none
    | _ => none
  | _ => none
def lenSw (ts vs : List Expr) : Bool := (ts.length == 2 || ts.length == 3) && vs.length == ts.length
def locals2 (sc : Scope) (x : Str) : Bool := match sc.names.lookup x with
  | some .local => true
  | _ => false
/-- no plain name of the def -/
def noLoc (sc : Scope) : Expr → Bool
  | .Name x _ => !locals2 sc x
  | _ => true
/-- a display to a display that is not swapped -/
def noSw (sc : Scope) : Expr → Expr → Bool
  | .Tuple ts _ _, .Tuple vs _ _ => !lenSw ts vs || ts.any (noLoc sc)
  | .List _ _, _ => false
  | _, _ => true
def kindF (sc : Scope) : Bool := match sc.kind with
  | .function => true
  | _ => false
/-- is a list comprehension to that name stored within its block -/
def setLc (sc : Scope) (x : Str) (px : Pos) (vp : Pos) (scope : Scope) : Bool := locals2 sc x && px.line == vp.line && !(scope.names.any fun y => y.1 == x && (y.2 == .local || y.2 == .cell))
section
variable (T : Tab) (N : List Str) (ps : Nat)
def chkPs (sc : Scope) : Ps → List Expr → Bool
  | .nil, [] => true
  | .val e r, x :: xs => !isBor e && (chkE T N sc e x && chkPs sc r xs)
  | .new false r, .List [] _ :: xs => chkPs sc r xs
  | .new true r, .Dict [] [] _ :: xs => chkPs sc r xs
  | _, _ => false
/-- the stores of a display, all plain names -/
def chkGs (sc : Scope) : List Nat → Ps → List Expr → Bool
  | [], .nil, [] => true
  | i :: gs, .val _ r, .Name x _ :: xs => locB N sc i x && chkGs sc gs r xs
  | i :: gs, .new _ r, .Name x _ :: xs => locB N sc i x && (decide (ps ≤ i) && chkGs sc gs r xs)
  | _, _, _ => false
def lineOf : List Expr → Nat
  | t :: _ => t.pos.line
  | [] => 0
def chkSw (sc : Scope) (gs : List Nat) (ts vs : List Expr) : Bool := ((ts.all fun t => !noLoc sc t) && lenSw ts vs && decide gs.Nodup) && ((ts.all fun t => t.pos.line == lineOf ts) && (!vs.all (foldedForSure 8) && !vs.all (constantsAlone 8)))
def chkAsg (sc : Scope) (g : Tg) (e : E) : Stmt → Bool
  | .Assign [tg] v _ => chkTg T N sc g tg && (!isBor e && (chkE T N sc e v && (match v with
    | .ListComp _ _ _ _ => true
    | .SetComp _ _ _ _ => false
    | .DictComp _ _ _ _ _ => false
    | _ => noSw sc tg v)))
  | _ => false
def chkOwn (sc : Scope) (i : Nat) (es : Es) : Stmt → Bool
  | .Assign [.Name x _] (.List xs _) _ => locB N sc i x && (decide (ps ≤ i) && (es.noBor && chkEs T N sc es xs))
  | _ => false
def chkPar (sc : Scope) (gs : List Nat) (r : Ps) : Stmt → Bool
  | .Assign [.Tuple ts _ _] (.Tuple vs _ _) _ => ((chkSw sc gs ts vs || (noSw sc (.Tuple ts 0 ⟨0, 0, 0, 0⟩) (.Tuple vs 0 ⟨0, 0, 0, 0⟩) && (decide (vs.length = gs.length) && decide (vs.length ≤ big)))) && chkGs N ps sc gs r ts) && chkPs T N sc r vs
  | _ => false
def chkSetix (sc : Scope) (i : Nat) (k e : E) : Stmt → Bool
  | .Assign [.Subscript (.Name x _) y _] v _ => (nameB N sc i x && plainIx y) && ((!isBor k && !isBor e) && ((!isComp v && chkE T N sc e v) && chkE T N sc k y))
  | _ => false
def chkFldS (sc : Scope) (c : Str) (i : Nat) (f : Str) (e : E) : Stmt → Bool
  | .Assign [.Attribute (.Name x _) nm _] v _ => (nameB N sc i x && (decide (nm = f) && T.flds.contains (c, f))) && (!isBor e && (!isComp v && chkE T N sc e v))
  | _ => false
def chkOver (sc : Scope) (i : Nat) (e : E) (s : Stmt) : Bool := chkAsg T N sc (.nm i) e s && decide (ps ≤ i)
def chkRaise (sc : Scope) (c : Nat) : Stmt → Bool
  | .Raise (some (.Call (.Name x _) [] [] _)) none _ => glB sc x && decide (T.excs[c]? = some x)
  | _ => false
def chkOwnd (sc : Scope) (i : Nat) : Stmt → Bool
  | .Assign [.Name x _] (.Dict [] [] _) _ => locB N sc i x && decide (ps ≤ i)
  | _ => false
def chkOwnp (sc : Scope) (i : Nat) (e : E) : Stmt → Bool
  | .Assign [.Name x _] (.Call (.Name f _) [a] [] _) _ => (locB N sc i x && decide (ps ≤ i)) && ((glB sc f && (decide (f = "dict") && T.blts.contains f)) && (!isBor e && chkE T N sc e a))
  | _ => false
def chkSubs (sc : Scope) (i : Nat) : Es → List Expr → Bool
  | .nil, [] => true
  | .cons k ks, .Subscript (.Name x _) y _ :: es => (nameB N sc i x && plainIx y) && ((!isBor k && chkE T N sc k y) && chkSubs sc i ks es)
  | _, _ => false
def chkSetks (sc : Scope) (i : Nat) (ks es : Es) : Stmt → Bool
  | .Assign [.Tuple ts _ _] (.Tuple vs _ _) _ => (chkSubs T N sc i ks ts && !ts.isEmpty) && (es.noBor && chkEs T N sc es vs)
  | _ => false
def chkMeth (sc : Scope) (i : Nat) (name : Str) (e : E) : Stmt → Bool
  | .Expr (.Call (.Attribute (.Name x _) m ap) [a] [] cp) _ => (nameB N sc i x && (decide (m = name) && ap.endLine == cp.line)) && (!isBor e && chkE T N sc e a)
  | _ => false
def chkEx (sc : Scope) (e : E) : Stmt → Bool
  | .Expr v _ => !isBor e && (!isComp v && chkE T N sc e v)
  | _ => false
def chkRet (sc : Scope) (e : E) : Stmt → Bool
  | .Return (some v) _ => !isBor e && chkE T N sc e v
  | _ => false
def chkRetn : Stmt → Bool
  | .Return none _ => true
  | _ => false
def chkReto (sc : Scope) (i : Nat) : Stmt → Bool
  | .Return (some (.Name x _)) _ => nameB N sc i x && decide (ps ≤ i)
  | _ => false
def isPass : Stmt → Bool
  | .Pass _ => true
  | _ => false
def ifParts : Stmt → Option (Expr × List Stmt × List Stmt)
  | .If c x y _ => some (c, x, y)
  | _ => none
def forParts : Stmt → Option (Expr × Expr × List Stmt)
  | .For tg iter body [] _ => some (tg, iter, body)
  | _ => none
mutual
def chkS (sc : Scope) : S → Stmt → Bool
  | .skip, s => isPass s
  | .bad, _ => true
  | .asg g e, s => chkAsg T N sc g e s
  | .own i es, s => chkOwn T N ps sc i es s
  | .par gs r, s => chkPar T N ps sc gs r s
  | .setix i k e, s => chkSetix T N sc i k e s
  | .fld c i f e, s => chkFldS T N sc c i f e s
  | .raise c, s => chkRaise T sc c s
  | .over i e, s => chkOver T N ps sc i e s
  | .ownd i, s => chkOwnd N ps sc i s
  | .ownp i e, s => chkOwnp T N ps sc i e s
  | .setk i k e, s => chkSetix T N sc i k e s
  | .setks i ks es, s => chkSetks T N sc i ks es s
  | .app i e, s => chkMeth T N sc i "append" e s
  | .ext i e, s => chkMeth T N sc i "extend" e s
  | .ex e, s => chkEx T N sc e s
  | .ite t a b, s => match ifParts s with
    | some (c, x, y) => (!isBor t && chkE T N sc t c) && (chkSs sc a x && chkSs sc b y)
    | none => false
  | .for it g b, s => match forParts s with
    | some (tg, iter, body) => (chkIt T N sc tg it iter && noSet iter) && (chkTg T N sc g tg && chkSs sc b body)
    | none => false
  | .ret e, s => chkRet T N sc e s
  | .retn, s => chkRetn s
  | .reto i, s => chkReto N ps sc i s
def chkSs (sc : Scope) : Ss → List Stmt → Bool
  | .nil, [] => true
  | .cons s r, x :: xs => chkS sc s x && chkSs sc r xs
  | _, _ => false
end
end
end Qh

/-! What a statement leaves. -/
namespace Qh
open PySem PySem.Spec PyProof.Rows L2 PySem.W
/-- a step: what is forbidden and what is one's own may grow -/
structure Go (ps : Nat) (F M : AS) (env : En) (σ : SS) (H : Hp) (F' M' : AS) (env' : En) (σ' : SS) (H' : Hp) : Prop where
  sub : ∀ a, F a → F' a
  new : ∀ a, F' a → F a ∨ H a = none
  mnew : ∀ a, M' a → M a ∨ H a = none
  ex : Ex M H H'
  hold : ∀ j, j < ps → ∀ o, env[j]? = some (Sl.own o) → (∃ o', env'[j]? = some (Sl.own o')) ∧ σ'[j]? = σ[j]?
  fresh : ∀ (i : Nat) (o : O) (a : Addr), env'[i]? = some (Sl.own o) → σ'[i]? = some (some (V.ref a)) → (∃ o0, env[i]? = some (Sl.own o0) ∧ σ[i]? = some (some (V.ref a))) ∨ ¬ F a
section
variable {K : PySem.W.Frag} {ps : Nat} {F M F' M' F1 M1 : AS} {env env' e1 : En} {σ σ' σ1 : SS} {H H' H1 : Hp}
theorem Go.trans (a : Go ps F M env σ H F1 M1 e1 σ1 H1) (b : Go ps F1 M1 e1 σ1 H1 F' M' env' σ' H') : Go ps F M env σ H F' M' env' σ' H' where
  sub := fun x h => b.sub x (a.sub x h)
  new := fun x h => by
    rcases b.new x h with z | z
    · exact a.new x z
    · exact .inr (a.ex.toExt.free z)
  mnew := fun x h => by
    rcases b.mnew x h with z | z
    · exact a.mnew x z
    · exact .inr (a.ex.toExt.free z)
  ex := by
    refine ⟨⟨fun x o h n => ?_, fun x h => b.ex.dom x (a.ex.dom x h)⟩, fun x h => b.ex.nt x (a.ex.nt x h)⟩
    refine b.ex.keep x o (a.ex.keep x o h n) fun z => ?_
    rcases a.mnew x z with z | z
    · exact n z
    · rw [h] at z; cases z
  hold := fun j hj o h => by
    obtain ⟨⟨o1, h1⟩, q⟩ := a.hold j hj o h
    obtain ⟨h2, q2⟩ := b.hold j hj o1 h1
    exact ⟨h2, q2.trans q⟩
  fresh := fun i o x h hs => by
    rcases b.fresh i o x h hs with ⟨o1, h1, s1⟩ | n
    · exact a.fresh i o1 x h1 s1
    · exact .inr fun z => n (a.sub x z)
theorem own_pat {e1 : En} (hp : pat e1 = pat env) {j : Nat} {o : O} (h : env[j]? = some (Sl.own o)) : ∃ o', e1[j]? = some (Sl.own o') := by
  have h2 : (pat e1)[j]? = some true := by
    rw [hp]
    unfold pat
    rw [List.getElem?_map, h]
    rfl
  unfold pat at h2
  rw [List.getElem?_map] at h2
  cases q : e1[j]? with
  | none => rw [q] at h2; cases h2
  | some s =>
    rw [q] at h2
    cases s with
    | own o' => exact ⟨o', rfl⟩
    | non => simp [Sl.isOwn] at h2
    | dat d => simp [Sl.isOwn] at h2
theorem Go.expr (ex : Ex M H H1) (hp : pat e1 = pat env) : Go ps F M env σ H F M e1 σ H1 where
  sub := fun _ h => h
  new := fun _ h => .inl h
  mnew := fun _ h => .inl h
  ex := ex
  hold := fun j _ o h => ⟨own_pat hp h, rfl⟩
  fresh := fun i o a h hs => .inl (by
    obtain ⟨o0, h0⟩ := own_pat hp.symm h
    exact ⟨o0, h0, hs⟩)
theorem Go.asg (hp : pat env' = pat env) (hh : Hold env σ env' σ') : Go ps F M env σ H F M env' σ' H where
  sub := fun _ h => h
  new := fun _ h => .inl h
  mnew := fun _ h => .inl h
  ex := Ex.refl _ _
  hold := fun j _ o h => hh j o h
  fresh := fun i o a h hs => .inl (by
    obtain ⟨o0, h0⟩ := own_pat hp.symm h
    obtain ⟨_, q⟩ := hh i o0 h0
    exact ⟨o0, h0, by rw [← q]; exact hs⟩)
/-- what is returned -/
def RetR (K : PySem.W.Frag) (ps : Nat) (F : AS) (env : En) (σ : SS) (d : D) (v : V) (H : Hp) : Prop := VR K F H d v ∨ ∃ (i : Nat) (o : O), ps ≤ i ∧ d = O.d o ∧ env[i]? = some (Sl.own o) ∧ σ[i]? = some (some v)
def PostS (K : PySem.W.Frag) (exc : Nat → Addr) (W : WX) (ps : Nat) (F M : AS) (env : En) (σ : SS) (H : Hp) (r : SR) (D : Ends) : Prop := match r with
  | .nxt env' => ∀ F' M' σ' H', Go ps F M env σ H F' M' env' σ' H' → Rel K F' M' env' σ' H' → D.nx σ' H'
  | .ret d env' => ∀ F' M' σ' v H', Go ps F M env σ H F' M' env' σ' H' → Rel K F' M' env' σ' H' → RetR K ps F' env' σ' d v H' → D.rt v H'
  | .exc x env' => ∀ F' M' σ' cls dd H', Go ps F M env σ H F' M' env' σ' H' → Rel K F' M' env' σ' H' → ExcR exc x cls dd H' → W cls dd σ' H'
  | .bad => False
variable {exc : Nat → Addr} {W : WX}
theorem PostS.go {r : SR} {D : Ends} (p : PostS K exc W ps F M env σ H r D) (g : Go ps F M env σ H F1 M1 e1 σ1 H1) : PostS K exc W ps F1 M1 e1 σ1 H1 r D := by
  cases r with
  | nxt env' => exact fun F' M' σ' H' g' => p F' M' σ' H' (g.trans g')
  | ret d env' => exact fun F' M' σ' v H' g' => p F' M' σ' v H' (g.trans g')
  | exc x env' => exact fun F' M' σ' c d H' g' => p F' M' σ' c d H' (g.trans g')
  | bad => exact p
theorem PostS.next {r : SR} {k : En → SR} {D : Ends} {nx : SS → Hp → Prop} {bk ct : SS → Hp → Prop} (p : PostS K exc W ps F M env σ H (r.next k) D)
    (h : ∀ env1 F1 M1 σ1 H1, r = .nxt env1 → Go ps F M env σ H F1 M1 env1 σ1 H1 → Rel K F1 M1 env1 σ1 H1 → PostS K exc W ps F1 M1 env1 σ1 H1 (k env1) D → nx σ1 H1) : PostS K exc W ps F M env σ H r { D with nx := nx, bk := bk, ct := ct } := by
  cases r with
  | nxt e1 => exact fun F1 M1 σ1 H1 g rl => h e1 F1 M1 σ1 H1 rfl g rl (PostS.go (r := k e1) p g)
  | ret d e1 => exact p
  | exc x e1 => exact p
  | bad => exact p
theorem PostS.ofE {α β : Type} {R : α → β → Hp → Prop} {r : Res α} {k : α → En → SR} {D : Ends} {G : β → Hp → Prop} (p : PostS K exc W ps F M env σ H (r.sr k) D) (kp : Keep (pat env) r)
    (h : ∀ a env1 v H1, r = .ok a env1 → Ex M H H1 → Rel K F M env1 σ H1 → R a v H1 → pat env1 = pat env → PostS K exc W ps F M env1 σ H1 (k a env1) D → G v H1) : Post K exc W F M σ H R r G := by
  cases r with
  | ok a e1 => exact fun v H1 ex rl ra => h a e1 v H1 rfl ex rl ra kp (PostS.go (r := k a e1) p (Go.expr ex kp))
  | exc x e1 => exact fun c d H1 ex rl xr => p F M σ c d H1 (Go.expr ex kp) rl xr
  | bad => exact p
theorem PostS.opt {α : Type} {o : Option α} {k : α → SR} {D : Ends} (p : PostS K exc W ps F M env σ H (optS o k) D) : ∃ a, o = some a ∧ PostS K exc W ps F M env σ H (k a) D := by
  cases o with
  | none => exact p.elim
  | some a => exact ⟨a, rfl, p⟩

/-! ### objects of one's own -/
theorem set_own {i j : Nat} {s : Sl} {o : O} (h : (env.set i s)[j]? = some (Sl.own o)) : (i = j ∧ s = .own o) ∨ (i ≠ j ∧ env[j]? = some (Sl.own o)) := by
  rcases set_get h with ⟨rfl, q⟩ | ⟨n, q⟩
  · exact .inl ⟨rfl, q.symm⟩
  · exact .inr ⟨fun z => n z.symm, q⟩
/-- an object that is forbidden and no name's own becomes a name's own -/
theorem Rel.adopt (r : Rel K F M env σ H) {i : Nat} {l : Addr} {oo : O} (hF : F l) (hM : ¬ M l) (hv : OR K F H oo l) (hi : i < env.length) :
    Rel K F (fun a => M a ∨ a = l) (env.set i (.own oo)) (σ.set i (some (V.ref l))) H where
  len := by rw [List.length_set, List.length_set]; exact r.len
  dat := fun j d h => by
    rcases set_get h with ⟨rfl, q⟩ | ⟨n, q⟩
    · cases q
    · rw [List.getElem?_set_ne (Ne.symm n)]
      exact r.dat j d q
  own := fun j o h => by
    rcases set_own h with ⟨rfl, q⟩ | ⟨n, q⟩
    · cases q
      exact ⟨l, List.getElem?_set_self (by rw [← r.len]; exact hi), .inr rfl, hv⟩
    · rw [List.getElem?_set_ne n]
      obtain ⟨a, b, c, d⟩ := r.own j o q
      exact ⟨a, b, .inl c, d⟩
  apart := fun j k o o' a h h' s s' => by
    have key : ∀ (j : Nat) (o : O), j ≠ i → env[j]? = some (Sl.own o) → σ[j]? = some (some (V.ref l)) → False := fun j o _ h s => by
      obtain ⟨a, b, c, _⟩ := r.own j o h
      rw [s] at b
      cases b
      exact hM c
    rcases set_own h with ⟨rfl, q⟩ | ⟨n, q⟩ <;> rcases set_own h' with ⟨rfl, q'⟩ | ⟨n', q'⟩
    · rfl
    · rw [List.getElem?_set_self (by rw [← r.len]; exact hi)] at s
      cases s
      rw [List.getElem?_set_ne n'] at s'
      exact (key k o' (Ne.symm n') q' s').elim
    · rw [List.getElem?_set_self (by rw [← r.len]; exact hi)] at s'
      cases s'
      rw [List.getElem?_set_ne n] at s
      exact (key j o (Ne.symm n) q s).elim
    · rw [List.getElem?_set_ne n] at s
      rw [List.getElem?_set_ne n'] at s'
      exact r.apart j k o o' a q q' s s'
  sub := fun a z => by
    rcases z with z | z
    · exact r.sub a z
    · rw [z]; exact hF
  there := r.there
  tabM := .inl r.tabM
  tab := r.tab
/-- a name's own object is changed -/
theorem Rel.putO (r : Rel K F M env σ H) {i : Nat} {l : Addr} {o0 oo : O} {ho : HO} (hi : env[i]? = some (Sl.own o0)) (hs : σ[i]? = some (some (V.ref l))) (nt : ∀ vs, ho ≠ .tup vs) (hv : OR K F (upd H l ho) oo l) :
    Rel K F M (env.set i (.own oo)) σ (upd H l ho) ∧ Ex M H (upd H l ho) := by
  obtain ⟨l', hs', hM, hor⟩ := r.own i _ hi
  rw [hs] at hs'
  cases hs'
  obtain ⟨u, hl, _⟩ := hor.ownO
  have hlt := (List.getElem?_eq_some_iff.mp hi).1
  have e : Ext (fun a => a = l) H (upd H l ho) := Ext.put rfl (by rw [hl]; intro z; cases z)
  have hF : F l := r.sub l hM
  refine ⟨{ len := ?_, dat := ?_, own := ?_, apart := ?_, sub := r.sub, there := ?_, tabM := r.tabM, tab := r.tab.put hor.plain }, ⟨e.mono fun a z => z ▸ hM, fun a h => ?_⟩⟩
  · rw [List.length_set]; exact r.len
  · intro j d h
    rcases set_get h with ⟨rfl, q⟩ | ⟨n, q⟩
    · cases q
    · obtain ⟨v, a, b⟩ := r.dat j d q
      exact ⟨v, a, b.ext e fun a z => z ▸ hF⟩
  · intro j o h
    rcases set_own h with ⟨rfl, q⟩ | ⟨n, q⟩
    · cases q
      exact ⟨l, hs, hM, hv⟩
    · obtain ⟨a, b, c, d⟩ := r.own j o q
      have ne : a ≠ l := fun z => by
        subst z
        exact n (r.apart i j _ o a hi q hs b)
      exact ⟨a, b, c, d.ext (M' := fun a => a = l) ne e fun a z => z ▸ hF⟩
  · intro j k o o' a h h' s s'
    have key : ∀ (j : Nat) (o : O), (env.set i (Sl.own oo))[j]? = some (Sl.own o) → ∃ o0, env[j]? = some (Sl.own o0) := fun j o h => by
      rcases set_own h with ⟨rfl, _⟩ | ⟨_, q⟩
      · exact ⟨_, hi⟩
      · exact ⟨_, q⟩
    obtain ⟨o1, h1⟩ := key j o h
    obtain ⟨o2, h2⟩ := key k o' h'
    exact r.apart j k o1 o2 a h1 h2 s s'
  · intro a z
    by_cases q : a = l
    · subst q; exact ⟨_, upd_same, nt⟩
    · obtain ⟨o, ho, hn⟩ := r.there a z
      exact ⟨o, by rw [upd_ne q]; exact ho, hn⟩
  · by_cases q : a = l
    · subst q; exact ⟨_, upd_same, nt⟩
    · obtain ⟨o, ho, hn⟩ := h
      exact ⟨o, by rw [upd_ne q]; exact ho, hn⟩
theorem Rel.put (r : Rel K F M env σ H) {i : Nat} {l : Addr} {ds ds' : List D} {vs' : List V} (hi : env[i]? = some (Sl.own (.lst ds))) (hs : σ[i]? = some (some (V.ref l))) (hv : VRs K F H ds' vs') :
    Rel K F M (env.set i (.own (.lst ds'))) σ (upd H l (.lst vs')) ∧ Ex M H (upd H l (.lst vs')) := by
  obtain ⟨l', hs', hM, vs, hl, _⟩ := r.own i _ hi
  rw [hs] at hs'
  cases hs'
  have hF : F l := r.sub l hM
  exact r.putO hi hs (fun _ z => nomatch z) ⟨vs', upd_same, hv.ext (M := fun a => a = l) (Ext.put rfl (by rw [hl]; intro z; cases z)) fun a z => z ▸ hF⟩
theorem Go.put {i : Nat} {o0 o1 : O} (hi : env[i]? = some (Sl.own o0)) (ex : Ex M H H') : Go ps F M env σ H F M (env.set i (.own o1)) σ H' where
  sub := fun _ h => h
  new := fun _ h => .inl h
  mnew := fun _ h => .inl h
  ex := ex
  hold := fun j _ o h => by
    refine ⟨?_, rfl⟩
    by_cases e : i = j
    · subst e
      exact ⟨_, List.getElem?_set_self (List.getElem?_eq_some_iff.mp h).1⟩
    · exact ⟨o, by rw [List.getElem?_set_ne e]; exact h⟩
  fresh := fun j o a h hs => .inl (by
    rcases set_own h with ⟨rfl, _⟩ | ⟨_, q⟩
    · exact ⟨_, hi, hs⟩
    · exact ⟨_, q, hs⟩)
theorem ownD_of {i : Nat} {p : List D × List D} (h : ownD env i = some p) : env[i]? = some (Sl.own (.dct p.1 p.2)) := by
  unfold ownD at h
  split at h
  · rename_i q
    cases h
    exact En.at_of q (fun z => nomatch z)
  · cases h
theorem ownI_of {c : Str} {i : Nat} {p : List Str × List D} (h : ownI c env i = some p) : env[i]? = some (Sl.own (.ins c p.1 p.2)) := by
  unfold ownI at h
  split at h
  · rename_i q
    split at h
    · rename_i e
      subst e
      cases h
      exact En.at_of q (fun z => nomatch z)
    · cases h
  · cases h
theorem putF_zip {f : Str} {x : D} {v : V} (hx : VR K F H x v) : ∀ {ns : List Str} {ds : List D} {vs : List V} {q : List Str × List D}, VRs K F H ds vs → ns.length = vs.length → fldPut f x ns ds = some q →
    ∃ vs', putF f v (ns.zip vs) = q.1.zip vs' ∧ q.1.length = vs'.length ∧ VRs K F H q.2 vs'
  | [], [], vs, q, hv, hl, h => by
    cases h
    cases vs with
    | nil => exact ⟨[v], rfl, rfl, .cons_mk hx (VRs.nil_iff.mpr rfl)⟩
    | cons _ _ => cases hl
  | [], _ :: _, _, _, _, _, h => by cases h
  | _ :: _, [], _, _, _, _, h => by cases h
  | n :: ns, d :: ds, [], q, hv, hl, h => by cases hl
  | n :: ns, d :: ds, w :: vs, q, hv, hl, h => by
    simp only [VRs] at hv
    obtain ⟨v', r', z, h1, h2⟩ := hv
    cases z
    unfold fldPut at h
    rw [List.zip_cons_cons]
    unfold putF
    by_cases hn : n = f
    · rw [if_pos hn] at h ⊢
      cases h
      exact ⟨v :: vs, rfl, hl, .cons_mk hx h2⟩
    · rw [if_neg hn] at h ⊢
      obtain ⟨q', hq', e⟩ := Option.map_eq_some_iff.mp h
      subst e
      obtain ⟨vs', e1, e2, e3⟩ := putF_zip hx h2 (Nat.succ.inj hl) hq'
      refine ⟨w :: vs', ?_, by rw [List.length_cons, List.length_cons, e2], .cons_mk h1 e3⟩
      rw [e1]
      rfl
theorem ownR_of {i : Nat} {d : D} (h : ownR env i = some d) : ∃ o, d = O.d o ∧ env[i]? = some (Sl.own o) := by
  unfold ownR at h
  split at h
  · rename_i q
    cases h
    exact ⟨_, rfl, En.at_of q (fun z => nomatch z)⟩
  · rename_i q
    cases h
    exact ⟨_, rfl, En.at_of q (fun z => nomatch z)⟩
  · cases h
theorem ownL_of {i : Nat} {l : List D} (h : ownL env i = some l) : env[i]? = some (Sl.own (.lst l)) := by
  unfold ownL at h
  split at h
  · rename_i q
    cases h
    exact En.at_of q (fun z => nomatch z)
  · cases h
end
end Qh

/-! Statements, one by one. -/
namespace Qh
open PySem PySem.Spec PyProof.Rows L2 PySem.W
theorem _root_.L2.PS.qimp {X : Cx} {s : Stmt} {t t' : TS} (h : PS X s t) (i : ∀ D σ H, t' D σ H → t D σ H) : PS X s t' := ⟨fun pins s σ H D I q => h.run pins s σ H D I (i D σ H q)⟩
theorem _root_.L2.PSs.qimp {X : Cx} {s : List Stmt} {t t' : TS} (h : PSs X s t) (i : ∀ D σ H, t' D σ H → t D σ H) : PSs X s t' := ⟨fun pins s σ H D I q => h.run pins s σ H D I (i D σ H q)⟩
section
variable (K : PySem.W.Frag) (exc : Nat → Addr) (W : WX) (ps : Nat) (G : Nat → Option D) (run : Run)
def tS (m : S) : TS := fun D σ H => ∃ F M env, Rel K F M env σ H ∧ PostS K exc W ps F M env σ H (evS G run m env) D
def tSs (m : Ss) : TS := fun D σ H => ∃ F M env, Rel K F M env σ H ∧ PostS K exc W ps F M env σ H (evSs G run m env) D
end
structure StOk (T : Tab) (fa : Nat → Addr) (fd : Nat → FuncData) (exc : Nat → Addr) (run : Run) (n : Nat) (N : List Str) (W : WX) (scp : Scope) (X : Cx) : Prop extends CtxOk T fa fd exc run n N W scp X where
  pass : PassesOwn (model X.prog X.w) X.A X.env X.xe
  st : StoreOk N scp X
  kf : scp.kind = .function
section
variable {T : Tab} {fa : Nat → Addr} {fd : Nat → FuncData} {exc : Nat → Addr} {run : Run} {n : Nat} {N : List Str} {W : WX} {sc : Scope} {X : Cx} {ps : Nat}
variable {G : Nat → Option D}
/-! ### plain assignment -/
theorem asg_core {K : PySem.W.Frag} {g : Tg} {e : E} (nb : isBor e = false) {D : Ends} {σ : SS} {H : Hp} (q : tS K exc W ps G run (.asg g e) D σ H) : tAsg (tE K exc W G run e) (tgT K g) D σ H := by
  obtain ⟨F, M, env, rl, p⟩ := q
  simp only [evS] at p
  refine ⟨F, M, env, rl, p.ofE (keepE e _ env rfl) fun d e1 v H1 _ ex rl1 hv hp p1 => ?_⟩
  obtain ⟨e2, q2, p2⟩ := p1.opt
  exact asg_ok g d e1 e2 v σ _ q2 rl1 (hv.vr nb) fun σ' rl2 hold _ => p2 F M σ' H1 (Go.asg (asgT_pat g d e1 e2 q2) hold) rl2
theorem over_core {K : PySem.W.Frag} {i : Nat} {e : E} (hi : ps ≤ i) (nb : isBor e = false) {D : Ends} {σ : SS} {H : Hp} (q : tS K exc W ps G run (.over i e) D σ H) : tAsg (tE K exc W G run e) (tgT K (.nm i)) D σ H := by
  obtain ⟨F, M, env, rl, p⟩ := q
  simp only [evS] at p
  refine ⟨F, M, env, rl, p.ofE (keepE e _ env rfl) fun d e1 v H1 _ ex rl1 hv hp p1 => ?_⟩
  split at p1
  · simp only [tgT]
    show D.nx (σ.set i (some v)) H1
    refine p1 F M _ H1 ⟨fun _ h => h, fun _ h => .inl h, fun _ h => .inl h, Ex.refl _ _, fun j hj o h => ?_, fun j o a h hs => ?_⟩ (rl1.setD (hv.vr nb))
    · have ne : i ≠ j := fun z => by omega
      exact ⟨⟨o, by rw [List.getElem?_set_ne ne]; exact h⟩, List.getElem?_set_ne ne⟩
    · rcases set_get h with ⟨_, q⟩ | ⟨ne, q⟩
      · cases q
      · rw [List.getElem?_set_ne (Ne.symm ne)] at hs
        exact .inl ⟨o, q, hs⟩
  · exact p1.elim
theorem sw_not {e : Expr} {tg : Expr} {l : Nat} {env : Env} (h : isComp e = false) : swapsWithSole [tg] e l env = pure false := by
  cases e <;> first | rfl | cases h
theorem swp_not {tg e : Expr} {env : Env} (hsc : env.scope = sc) (h : noSw sc tg e = true) : swappedStores [tg] e env = pure none := by
  cases tg
  case Tuple ts k p =>
    cases e
    case Tuple vs k2 p2 =>
      simp only [noSw, Bool.or_eq_true, Bool.not_eq_true'] at h
      unfold swappedStores
      by_cases h1 : lenSw ts vs = true
      · have h2 : ts.any (noLoc sc) = true := by
          rcases h with h | h
          · rw [h1] at h; cases h
          · exact h
        have key : ∀ ts : List Expr, ts.any (noLoc sc) = true → ∀ f : Expr → Option Str, (∀ t, noLoc sc t = true → f t = none) → (ts.filterMap f).length ≠ ts.length := by
          intro ts
          induction ts with
          | nil => intro h; cases h
          | cons t r ih =>
            intro h f hf
            rw [List.filterMap_cons]
            cases q : f t with
            | none =>
              simp only [List.length_cons]
              have := List.length_filterMap_le f r
              omega
            | some x =>
              simp only [List.length_cons]
              have h3 : r.any (noLoc sc) = true := by
                rw [List.any_cons, Bool.or_eq_true] at h
                rcases h with h | h
                · rw [hf t h] at q; cases q
                · exact h
              have := ih h3 f hf
              omega
        simp only []
        split
        · rfl
        · split
          · rfl
          · split
            · rfl
            · rename_i hn
              exfalso
              apply hn
              rw [Bool.or_eq_true, bne_iff_ne]
              refine .inl (key ts h2 _ fun t ht => ?_)
              cases t <;> try rfl
              rename_i x p
              have hk : (env.kindOf x == some NameKind.local) = false := by
                show (env.scope.names.lookup x == some NameKind.local) = false
                rw [hsc]
                have ht : (!locals2 sc x) = true := ht
                unfold locals2 at ht
                generalize sc.names.lookup x = o at ht ⊢
                cases o with
                | none => rfl
                | some k => cases k <;> first | rfl | cases ht
              simp only [hk, Bool.false_and, Bool.false_eq_true, if_false]
      · simp only []
        split
        · rfl
        · rename_i hn
          exfalso
          apply hn
          unfold lenSw at h1
          rw [Bool.or_eq_true, Bool.or_eq_true, Bool.not_eq_true']
          cases h2 : (ts.length == 2 || ts.length == 3) with
          | false => exact .inl (.inl rfl)
          | true =>
            refine .inl (.inr ?_)
            rw [bne_iff_ne]
            intro z
            exact h1 (by rw [h2, z, beq_self_eq_true]; rfl)
    all_goals rfl
  case List es p => cases h
  all_goals (cases e <;> rfl)
theorem asE_one {T : Tab} {N : List Str} {sc : Scope} {g : Tg} {e : Expr} {env : Env} (h : chkTg T N sc g e = true) : (assignEach [e] env).map (·.2) = [assign e env] := by
  rw [asE_cons (chkTg_noStar h)]
  rfl
theorem sim_asg (C : StOk T fa fd exc run n N W sc X) {g : Tg} {e : E} {tg v : Expr} {pos : Pos} (nb : isBor e = false) (hg : chkTg T N sc g tg = true) (he : PE X v (tE X.K exc W G run e)) (hc : isComp v = false) (hs : noSw sc tg v = true) : PS X (.Assign [tg] v pos) (tAsg (tE X.K exc W G run e) (tgT X.K g)) := by
  have hN : X.N.Nodup := by rw [C.nm]; exact C.nd
  exact ps_asg he (sim_tg hN C.calm C.st g tg hg) (sw_not hc) (swp_not C.sc hs) (asE_one hg)

/-! ### a display of one's own -/
theorem sim_own (C : StOk T fa fd exc run n N W sc X) {i : Nat} {es : Es} {x : Str} {px p2 pos : Pos} {xs : List Expr} (hx : locB N sc i x = true) (hi : ps ≤ i) (nb : es.noBor = true) (he : PA X xs (tEs X.K exc W G run es)) : PS X (.Assign [.Name x px] (.List xs p2) pos) ((tS X.K exc W ps G run) (.own i es)) := by
  have hN : X.N.Nodup := by rw [C.nm]; exact C.nd
  obtain ⟨h1, h2, h3⟩ := C.st i x hx
  refine (ps_set hN h1 h2 (pe_lst he) rfl h3).qimp fun D σ H q => ?_
  obtain ⟨F, M, env, rl, p⟩ := q
  simp only [evS] at p
  refine ⟨F, M, env, rl, p.ofE (keepEs es _ env rfl) fun ds e1 vs H1 _ ex rl1 hv hp p1 => ?_⟩
  split at p1
  · rename_i hl
    simp only [Bool.and_eq_true, decide_eq_true_eq] at hl
    have hvs := VXs.vrs nb hv
    refine ⟨by rw [← hvs.len]; exact big_line hl.1, fun a ha => ?_⟩
    have nF : ¬ F a := rl1.fresh a ha
    have nM : ¬ M a := fun z => nF (rl1.sub a z)
    have r2 := rl1.more (o := .lst vs) ha (fun _ z => nomatch z)
    have hvs2 : VRs X.K (fun b => F b ∨ b = a) (upd H1 a (.lst vs)) ds vs := (hvs.more ha).ext (M := NoM) (Ext.new ha) fun _ z => z.elim
    refine p1 (fun b => F b ∨ b = a) (fun b => M b ∨ b = a) _ _ ?_ (r2.adopt (oo := .lst ds) (.inr rfl) nM ⟨vs, upd_same, hvs2⟩ hl.2)
    refine ⟨fun b z => .inl z, fun b z => ?_, fun b z => ?_, (Ext.new (M := NoM) ha).exM, fun j hj o h => ?_, fun j o b h hs => ?_⟩
    · rcases z with z | z
      · exact .inl z
      · exact .inr (by rw [z]; exact ha)
    · rcases z with z | z
      · exact .inl z
      · exact .inr (by rw [z]; exact ha)
    · have ne : i ≠ j := fun z => by omega
      exact ⟨⟨o, by rw [List.getElem?_set_ne ne]; exact h⟩, List.getElem?_set_ne ne⟩
    · rcases set_own h with ⟨rfl, _⟩ | ⟨ne, q⟩
      · have hlt : i < σ.length := by rw [← rl1.len]; exact hl.2
        rw [List.getElem?_set_self hlt] at hs
        cases hs
        exact .inr nF
      · rw [List.getElem?_set_ne ne] at hs
        exact .inl ⟨o, q, hs⟩
  · exact p1.elim

/-! ### displays side by side -/
def VPs (K : PySem.W.Frag) (F0 F M : AS) (H : Hp) : List PV → List V → Prop
  | [], vs => vs = []
  | .val d :: r, vs => ∃ v u, vs = v :: u ∧ VR K F H d v ∧ VPs K F0 F M H r u
  | .new d :: r, vs => ∃ l u, vs = .ref l :: u ∧ F l ∧ ¬ F0 l ∧ ¬ M l ∧ OR K F H (emptyO d) l ∧ VPs K (fun a => F0 a ∨ a = l) F M H r u
def PostP (K : PySem.W.Frag) (exc : Nat → Addr) (W : WX) (F M : AS) (σ : SS) (H : Hp) (r : Res (List PV)) (Q : List V → Hp → Prop) : Prop := match r with
  | .ok l env' => ∀ F' vs H', (∀ a, F a → F' a) → (∀ a, F' a → F a ∨ H a = none) → Ex M H H' → Rel K F' M env' σ H' → VPs K F F' M H' l vs → Q vs H'
  | .exc x env' => ∀ F' cls dd H', (∀ a, F a → F' a) → (∀ a, F' a → F a ∨ H a = none) → Ex M H H' → Rel K F' M env' σ H' → ExcR exc x cls dd H' → W cls dd σ H'
  | .bad => False
def tPs (K : PySem.W.Frag) (exc : Nat → Addr) (W : WX) (G : Nat → Option D) (run : Run) (m : Ps) : TA := fun σ H Q => ∃ F M env, Rel K F M env σ H ∧ PostP K exc W F M σ H (evPs G run m env) Q
section
variable {K : PySem.W.Frag} {F M F1 : AS} {σ : SS} {H H1 : Hp}
theorem VPs.less {F0 F0' F M : AS} {H : Hp} : ∀ {r : List PV} {vs : List V}, VPs K F0 F M H r vs → (∀ a, F0' a → F0 a) → VPs K F0' F M H r vs
  | [], _, h, _ => h
  | .val d :: r, _, ⟨v, u, e, a, b⟩, s => ⟨v, u, e, a, VPs.less b s⟩
  | .new _ :: r, _, ⟨l, u, e, a, b, c, d, f⟩, s => ⟨l, u, e, a, fun z => b (s _ z), c, d, VPs.less f fun a z => z.imp (s a) id⟩
theorem PostP.bind {α β : Type} {R : α → β → Hp → Prop} {r : Res α} {k : α → En → Res (List PV)} {Q : List V → Hp → Prop} {G : β → Hp → Prop} (p : PostP K exc W F M σ H (r.bind k) Q)
    (h : ∀ a env v H1, r = .ok a env → Ex M H H1 → Rel K F M env σ H1 → R a v H1 → PostP K exc W F M σ H1 (k a env) Q → G v H1) : Post K exc W F M σ H R r G := by
  cases r with
  | bad => exact p
  | exc x e => exact fun c d H1 ex rl xr => p F c d H1 (fun _ z => z) (fun _ z => .inl z) ex rl xr
  | ok a e =>
    intro v H1 ex rl ra
    refine h a e v H1 rfl ex rl ra ?_
    have p : PostP K exc W F M σ H (k a e) Q := p
    cases q : k a e with
    | bad => rw [q] at p; exact p
    | exc x e' => rw [q] at p; exact fun F' c d H' s f ex' => p F' c d H' s (fun a z => (f a z).imp id ex.toExt.free) (ex.trans ex')
    | ok l e' => rw [q] at p; exact fun F' vs H' s f ex' => p F' vs H' s (fun a z => (f a z).imp id ex.toExt.free) (ex.trans ex')
end
theorem pe_nil_list {p : Pos} : PE X (.List [] p) (fun σ H Q => ∀ a, H a = none → Q (.ref a) (upd H a (.lst []))) := (pe_lst pa_nil).qimp fun σ H Q h => ⟨Nat.zero_le _, h⟩
/-- what is laid for a display of nothing -/
def emptyH (d : Bool) (a : Addr) : HO := if d then hoX a [] 0 else .lst []
theorem emptyH_nt {d : Bool} {a : Addr} : ∀ vs, emptyH d a ≠ .tup vs := fun vs z => by cases d <;> cases z
theorem emptyH_or {K : PySem.W.Frag} {F : AS} {H : Hp} {d : Bool} {a : Addr} (lo : d = true → (a == sysModules) = false) (h : H a = some (emptyH d a)) : OR K F H (emptyO d) a := by
  cases d with
  | false => exact ⟨[], h, VRs.nil_iff.mpr rfl⟩
  | true => exact .inl ⟨[], [], ⟨⟨0, h⟩, (fun _ z => by cases z), List.nodup_nil, lo rfl, Nat.zero_le _⟩, VRs.nil_iff.mpr rfl, rfl, rfl, VRs.nil_iff.mpr rfl, .nil⟩
def isEmptyX (d : Bool) : Expr → Bool
  | .List [] _ => !d
  | .Dict [] [] _ => d
  | _ => false
theorem pe_empty {X : Cx} {d : Bool} {e : Expr} (h : isEmptyX d e = true) : PE X e (fun σ H Q => ∀ a, H a = none → (d = true → (a == sysModules) = false) → Q (.ref a) (upd H a (emptyH d a))) := by
  cases e <;> try (cases h; done)
  · rename_i ks vs p
    cases ks <;> cases vs <;> try (cases h; done)
    have : d = true := h
    subst this
    exact pe_dnewX.qimp fun σ H Q q a ha lo => q a ha fun _ => lo
  · rename_i es p
    cases es <;> try (cases h; done)
    have : d = false := by simpa [isEmptyX] using h
    subst this
    exact pe_nil_list.qimp fun σ H Q q a ha => q a ha fun z => by cases z
theorem chkPs_new {T : Tab} {N : List Str} {sc : Scope} {d : Bool} {r : Ps} {x : Expr} {xs : List Expr} (h : chkPs T N sc (.new d r) (x :: xs) = true) : isEmptyX d x = true ∧ chkPs T N sc r xs = true := by
  cases d <;> cases x <;> try (simp only [chkPs] at h; cases h; done)
  · rename_i es p
    cases es <;> simp only [chkPs] at h <;> first | exact ⟨rfl, h⟩ | cases h
  · rename_i ks vs p
    cases ks <;> cases vs <;> simp only [chkPs] at h <;> first | exact ⟨rfl, h⟩ | cases h
theorem isEmptyX_star {d : Bool} {x : Expr} (h : isEmptyX d x = true) : noStar x = true := by
  cases x <;> first | rfl | cases h
theorem sim_ps (C : CtxOk T fa fd exc run n N W sc X) : ∀ (m : Ps) (es : List Expr), chkPs T N sc m es = true → PA X es (tPs X.K exc W (globD T) run m)
  | .nil, [], _ => pa_nil.qimp fun σ H Q h => by
    obtain ⟨F, M, env, rl, p⟩ := h
    exact p F [] H (fun _ z => z) (fun _ z => .inl z) (Ex.refl _ _) rl rfl
  | .nil, _ :: _, h => by simp only [chkPs] at h; cases h
  | .val e r, [], h => by simp only [chkPs] at h; cases h
  | .new d r, [], h => by cases d <;> (simp only [chkPs] at h; cases h)
  | .val e r, x :: xs, h => by
    simp only [chkPs, Bool.and_eq_true] at h
    refine (pa_cons (simE e x W sc X C h.2.1).pe (sim_ps C r xs h.2.2) (star_cons (chkE_noStar h.2.1))).qimp fun σ H Q q => ?_
    obtain ⟨F, M, env, rl, p⟩ := q
    simp only [evPs] at p
    refine ⟨F, M, env, rl, p.bind fun d e1 v H1 _ ex rl1 hv p1 => ⟨F, M, e1, rl1, ?_⟩⟩
    have hv := hv.vr (isB h.1)
    cases q : evPs (globD T) run r e1 with
    | bad => rw [q] at p1; exact p1
    | exc y e2 => rw [q] at p1; exact p1
    | ok l e2 =>
      rw [q] at p1
      intro F' vs H' s f ex' rl' hvs
      refine p1 F' (v :: vs) H' s f ex' rl' ⟨v, vs, rfl, ?_, hvs⟩
      exact (VR.mono (fun _ _ q _ => q) (fun a o e n z => by
        rcases f a z with z | z
        · exact n z
        · rw [e] at z; cases z) d v hv).ext ex'.toExt rl'.sub
  | .new d r, x :: xs, h => by
    obtain ⟨hx, h⟩ := chkPs_new h
    refine (pa_cons (pe_empty hx) (sim_ps C r xs h) (star_cons (isEmptyX_star hx))).qimp fun σ H Q q => ?_
    obtain ⟨F, M, env, rl, p⟩ := q
    simp only [evPs] at p
    intro a ha lo
    have nF : ¬ F a := rl.fresh a ha
    have nM : ¬ M a := fun z => nF (rl.sub a z)
    refine ⟨_, M, env, rl.more (o := emptyH d a) ha emptyH_nt, ?_⟩
    have ff : ∀ {F' : AS}, (∀ b, F' b → (F b ∨ b = a) ∨ upd H a (emptyH d a) b = none) → ∀ b, F' b → F b ∨ H b = none := fun f b z => by
      rcases f b z with (z | z) | z
      · exact .inl z
      · exact .inr (by rw [z]; exact ha)
      · exact .inr ((Ext.new (M := NoM) ha).free z)
    have e0 : Ex M H (upd H a (emptyH d a)) := (Ext.new (M := NoM) ha).exM
    cases q : evPs (globD T) run r env with
    | bad => rw [q] at p; exact p
    | exc y e2 => rw [q] at p; exact fun F' c d' H' s f ex' => p F' c d' H' (fun b z => s b (.inl z)) (ff f) (e0.trans ex')
    | ok l e2 =>
      rw [q] at p
      intro F' vs H' s f ex' rl' hvs
      have hk : H' a = some (emptyH d a) := ex'.keep a _ upd_same nM
      have ho : OR X.K F' H' (emptyO d) a := emptyH_or lo hk
      exact p F' (.ref a :: vs) H' (fun b z => s b (.inl z)) (ff f) (e0.trans ex') rl' ⟨a, vs, rfl, s a (.inr rfl), nF, nM, ho, hvs⟩
def setAll : List Nat → List V → SS → SS
  | i :: gs, v :: vs, σ => setAll gs vs (σ.set i (some v))
  | _, _, σ => σ
/-- the kept and the new among one's own -/
def Kept (ps : Nat) (F0 : AS) (env : En) (σ : SS) (env' : En) (σ' : SS) : Prop :=
  (∀ j, j < ps → ∀ o, env[j]? = some (Sl.own o) → (∃ o', env'[j]? = some (Sl.own o')) ∧ σ'[j]? = σ[j]?) ∧
  ∀ (i : Nat) (o : O) (a : Addr), env'[i]? = some (Sl.own o) → σ'[i]? = some (some (V.ref a)) → (∃ o0, env[i]? = some (Sl.own o0) ∧ σ[i]? = some (some (V.ref a))) ∨ ¬ F0 a
theorem Kept.trans {F0 F1 : AS} {env e1 e2 : En} {σ σ1 σ2 : SS} (a : Kept ps F0 env σ e1 σ1) (b : Kept ps F1 e1 σ1 e2 σ2) (s : ∀ a, F0 a → F1 a) : Kept ps F0 env σ e2 σ2 :=
  ⟨fun j hj o h => by
    obtain ⟨⟨o1, h1⟩, q⟩ := a.1 j hj o h
    obtain ⟨h2, q2⟩ := b.1 j hj o1 h1
    exact ⟨h2, q2.trans q⟩, fun i o x h hs => by
    rcases b.2 i o x h hs with ⟨o1, h1, s1⟩ | n
    · exact a.2 i o1 x h1 s1
    · exact .inr fun z => n (s _ z)⟩
theorem asgPs_ok {K : PySem.W.Frag} {H : Hp} {F : AS} : ∀ (gs : List Nat) (m : Ps) (l : List PV) (ts : List Expr) (vs : List V) (env env' : En) (σ : SS) (F0 M : AS), chkGs N ps sc gs m ts = true → (∃ r e, evPs G run m r = .ok l e) → asgPs gs l env = some env' → Rel K F M env σ H → (∀ a, F0 a → F a) → VPs K F0 F M H l vs →
    ∃ M', Rel K F M' env' (setAll gs vs σ) H ∧ (∀ a, M' a → M a ∨ (F a ∧ ¬ F0 a)) ∧ Kept ps F0 env σ env' (setAll gs vs σ) := by
  intro gs
  induction gs with
  | nil =>
    intro m l ts vs env env' σ F0 M hc hl ha rl s hv
    cases l with
    | nil =>
      cases ha
      exact ⟨M, by cases vs <;> exact rl, fun a z => .inl z, by
        have : setAll [] vs σ = σ := by cases vs <;> rfl
        rw [this]
        exact ⟨fun j _ o h => ⟨⟨o, h⟩, rfl⟩, fun i o a h hs => .inl ⟨o, h, hs⟩⟩⟩
    | cons _ _ => simp only [asgPs] at ha; cases ha
  | cons i gs ih =>
    intro m l ts vs env env' σ F0 M hc hl ha rl s hv
    cases l with
    | nil => simp only [asgPs] at ha; cases ha
    | cons pv l =>
      cases pv with
      | val d =>
        obtain ⟨v, u, rfl, h1, h2⟩ := hv
        cases m with
        | nil => obtain ⟨r, e, q⟩ := hl; simp only [evPs] at q; cases q
        | new dd m =>
          obtain ⟨r, e, q⟩ := hl
          simp only [evPs] at q
          cases q2 : evPs G run m r <;> rw [q2] at q <;> simp only [Res.bind] at q <;> cases q
        | val e0 m =>
          obtain ⟨t, ts', rfl⟩ : ∃ t ts', ts = t :: ts' := by
            cases ts with
            | nil => simp only [chkGs] at hc; cases hc
            | cons t ts' => exact ⟨t, ts', rfl⟩
          cases t <;> try (simp only [chkGs] at hc; cases hc; done)
          simp only [chkGs, Bool.and_eq_true] at hc
          have hl' : ∃ r e, evPs G run m r = .ok l e := by
            obtain ⟨r, e, q⟩ := hl
            simp only [evPs] at q
            cases q2 : evE G run e0 r with
            | bad => rw [q2] at q; cases q
            | exc _ _ => rw [q2] at q; cases q
            | ok x e1 =>
              rw [q2] at q
              simp only [Res.bind] at q
              cases q3 : evPs G run m e1 with
              | bad => rw [q3] at q; cases q
              | exc _ _ => rw [q3] at q; cases q
              | ok l' e2 => rw [q3] at q; cases q; exact ⟨_, _, q3⟩
          have key : (∀ o, env[i]? ≠ some (Sl.own o)) ∧ asgPs gs l (env.set i (.dat d)) = some env' := by
            simp only [asgPs] at ha
            split at ha
            · cases ha
            · rename_i hn
              refine ⟨fun o e => hn o ?_, ha⟩
              unfold En.at
              rw [List.getD_eq_getElem?_getD, e]
              rfl
          obtain ⟨M', r', hm, kp⟩ := ih m l ts' u _ env' (σ.set i (some v)) F0 M hc.2 hl' key.2 (rl.set h1 key.1) s h2
          refine ⟨M', r', hm, Kept.trans (F1 := F0) (e1 := env.set i (.dat d)) (σ1 := σ.set i (some v)) ⟨fun j _ o h => ?_, fun j o a h hs => ?_⟩ kp fun _ z => z⟩
          · have ne : i ≠ j := fun z => by subst z; exact key.1 o h
            exact ⟨⟨o, by rw [List.getElem?_set_ne ne]; exact h⟩, List.getElem?_set_ne ne⟩
          · rcases set_own h with ⟨_, q⟩ | ⟨ne, q⟩
            · cases q
            · rw [List.getElem?_set_ne ne] at hs
              exact .inl ⟨o, q, hs⟩
      | new dd0 =>
        obtain ⟨a, u, rfl, hF, n0, nM, hl0, h2⟩ := hv
        cases m with
        | nil => obtain ⟨r, e, q⟩ := hl; simp only [evPs] at q; cases q
        | val e0 m =>
          obtain ⟨r, e, q⟩ := hl
          simp only [evPs] at q
          cases q2 : evE G run e0 r <;> rw [q2] at q <;> simp only [Res.bind] at q <;> try (cases q; done)
          rename_i e1
          cases q3 : evPs G run m e1 <;> rw [q3] at q <;> simp only [Res.bind] at q <;> cases q
        | new dd m =>
          obtain ⟨t, ts', rfl⟩ : ∃ t ts', ts = t :: ts' := by
            cases ts with
            | nil => simp only [chkGs] at hc; cases hc
            | cons t ts' => exact ⟨t, ts', rfl⟩
          cases t <;> try (simp only [chkGs] at hc; cases hc; done)
          simp only [chkGs, Bool.and_eq_true, decide_eq_true_eq] at hc
          have hl' : ∃ r e, evPs G run m r = .ok l e := by
            obtain ⟨r, e, q⟩ := hl
            simp only [evPs] at q
            cases q3 : evPs G run m r with
            | bad => rw [q3] at q; cases q
            | exc _ _ => rw [q3] at q; cases q
            | ok l' e2 => rw [q3] at q; cases q; exact ⟨_, _, q3⟩
          simp only [asgPs] at ha
          split at ha
          · rename_i hi
            have h3 : VPs K (fun b => F0 b ∨ b = a) F (fun b => M b ∨ b = a) H l u := by
              have : ∀ (l : List PV) (u : List V) (P : AS), (P a) → VPs K P F M H l u → VPs K P F (fun b => M b ∨ b = a) H l u := by
                intro l
                induction l with
                | nil => intro u P hP h; exact h
                | cons pv l ih =>
                  intro u P hP h
                  cases pv with
                  | val d => obtain ⟨v, w, e, x, y⟩ := h; exact ⟨v, w, e, x, ih w P hP y⟩
                  | new dd0 =>
                    obtain ⟨b, w, e, x1, x2, x3, x4, x5⟩ := h
                    refine ⟨b, w, e, x1, x2, fun z => ?_, x4, ih w _ (.inl hP) x5⟩
                    rcases z with z | z
                    · exact x3 z
                    · rw [z] at x2; exact x2 hP
              exact this l u _ (.inr rfl) h2
            obtain ⟨M', r', hm, kp⟩ := ih m l ts' u _ env' (σ.set i (some (.ref a))) (fun b => F0 b ∨ b = a) (fun b => M b ∨ b = a) hc.2.2 hl' ha (rl.adopt hF nM hl0 hi) (fun b z => by
              rcases z with z | z
              · exact s b z
              · rw [z]; exact hF) h3
            refine ⟨M', r', fun b z => ?_, Kept.trans (F1 := fun b => F0 b ∨ b = a) (e1 := env.set i (.own (emptyO dd0))) (σ1 := σ.set i (some (.ref a))) ⟨fun j hj o h => ?_, fun j o b h hs => ?_⟩ kp fun _ z => .inl z⟩
            · rcases hm b z with (z | z) | ⟨z1, z2⟩
              · exact .inl z
              · exact .inr ⟨by rw [z]; exact hF, by rw [z]; exact n0⟩
              · exact .inr ⟨z1, fun q => z2 (.inl q)⟩
            · have ne : i ≠ j := fun z => by have := hc.2.1; omega
              exact ⟨⟨o, by rw [List.getElem?_set_ne ne]; exact h⟩, List.getElem?_set_ne ne⟩
            · rcases set_own h with ⟨rfl, _⟩ | ⟨ne, q⟩
              · rw [List.getElem?_set_self (by rw [← rl.len]; exact hi)] at hs
                cases hs
                exact .inr n0
              · rw [List.getElem?_set_ne ne] at hs
                exact .inl ⟨o, q, hs⟩
          · cases ha
end
end Qh

/-! Statements, the rest; a def's body. -/
namespace Qh
open PySem PySem.Spec PyProof.Rows L2 PySem.W
theorem dups2 {x y : Str} (h : x ≠ y) : [x, y].eraseDups.length = 2 := by
  have h1 : (y == x) = false := by rw [beq_eq_false_iff_ne]; exact Ne.symm h
  simp [List.eraseDups, List.eraseDupsBy, List.eraseDupsBy.loop, h1]
theorem dups3 {x y z : Str} (h : x ≠ y) (h2 : x ≠ z) (h3 : y ≠ z) : [x, y, z].eraseDups.length = 3 := by
  have h1 : (y == x) = false := by rw [beq_eq_false_iff_ne]; exact Ne.symm h
  have h4 : (z == x) = false := by rw [beq_eq_false_iff_ne]; exact Ne.symm h2
  have h5 : (z == y) = false := by rw [beq_eq_false_iff_ne]; exact Ne.symm h3
  simp [List.eraseDups, List.eraseDupsBy, List.eraseDupsBy.loop, h1, h4, h5]
theorem nodup_ne {N : List Str} (hN : N.Nodup) {i j : Nat} {x y : Str} (hi : N[i]? = some x) (hj : N[j]? = some y) (h : i ≠ j) : x ≠ y := fun e => by
  subst e
  obtain ⟨h1, h2⟩ := List.getElem?_eq_some_iff.mp hi
  obtain ⟨h3, h4⟩ := List.getElem?_eq_some_iff.mp hj
  exact h ((List.getElem_inj hN).mp (h2.trans h4.symm))
theorem noStar_m {e : Expr} (h : noStar e = true) : (match e with | .Starred .. => true | _ => false) = false := by
  cases e <;> first | rfl | cases h
theorem sw2 {x y : Str} {px py pt p2 : Pos} {k k2 a b} {env : Env} (hb : env.blockKind = .function) (hx : env.kindOf x = some .local) (hy : env.kindOf y = some .local) (hl : py.line = px.line) (hne : x ≠ y) (ha : noStar a = true) (hb' : noStar b = true)
    (hf : [a, b].all (foldedForSure 8) = false) (hc : [a, b].all (constantsAlone 8) = false) : swappedStores [.Tuple [.Name x px, .Name y py] k pt] (.Tuple [a, b] k2 p2) env = pure (some [x, y]) := by
  have e1 : (env.blockKind != ScopeKind.function) = false := by rw [hb]; rfl
  have e2 : (env.kindOf x == some NameKind.local) = true := by rw [hx]; rfl
  have e3 : (env.kindOf y == some NameKind.local) = true := by rw [hy]; rfl
  have e4 : (py.line == px.line) = true := by rw [hl]; exact beq_self_eq_true _
  have hp : (Expr.Name x px).pos = px := rfl
  unfold swappedStores
  simp only [List.length_cons, List.length_nil, List.head?_cons, Option.map_some, Option.getD_some, List.any_cons, List.any_nil, List.filterMap_cons, List.filterMap_nil, e1, e2, e3, hp, e4, beq_self_eq_true, Bool.and_self, if_true, hf, hc, Bool.or_false, dups2 hne]
  refine (if_neg (by decide)).trans ((if_neg ?_).trans rfl)
  intro h
  rw [Bool.or_eq_true] at h
  rcases h with h | h
  · cases a <;> first | (cases ha; done) | (cases h; done)
  · cases b <;> first | (cases hb'; done) | (cases h; done)
theorem sw3 {x y z : Str} {px py pz pt p2 : Pos} {k k2 a b c} {env : Env} (hb : env.blockKind = .function) (hx : env.kindOf x = some .local) (hy : env.kindOf y = some .local) (hz : env.kindOf z = some .local) (hl : py.line = px.line) (hl2 : pz.line = px.line) (hne : x ≠ y) (hne2 : x ≠ z) (hne3 : y ≠ z) (ha : noStar a = true) (hb' : noStar b = true) (hc' : noStar c = true)
    (hf : [a, b, c].all (foldedForSure 8) = false) (hc : [a, b, c].all (constantsAlone 8) = false) : swappedStores [.Tuple [.Name x px, .Name y py, .Name z pz] k pt] (.Tuple [a, b, c] k2 p2) env = pure (some [x, y, z]) := by
  have e1 : (env.blockKind != ScopeKind.function) = false := by rw [hb]; rfl
  have e2 : (env.kindOf x == some NameKind.local) = true := by rw [hx]; rfl
  have e3 : (env.kindOf y == some NameKind.local) = true := by rw [hy]; rfl
  have e5 : (env.kindOf z == some NameKind.local) = true := by rw [hz]; rfl
  have e4 : (py.line == px.line) = true := by rw [hl]; exact beq_self_eq_true _
  have e6 : (pz.line == px.line) = true := by rw [hl2]; exact beq_self_eq_true _
  have hp : (Expr.Name x px).pos = px := rfl
  unfold swappedStores
  simp only [List.length_cons, List.length_nil, List.head?_cons, Option.map_some, Option.getD_some, List.any_cons, List.any_nil, List.filterMap_cons, List.filterMap_nil, e1, e2, e3, e5, hp, e4, e6, beq_self_eq_true, Bool.and_self, if_true, hf, hc, Bool.or_false, dups3 hne hne2 hne3]
  refine (if_neg (by decide)).trans ((if_neg ?_).trans rfl)
  intro h
  rw [Bool.or_eq_true, Bool.or_eq_true] at h
  rcases h with h | h | h
  · cases a <;> first | (cases ha; done) | (cases h; done)
  · cases b <;> first | (cases hb'; done) | (cases h; done)
  · cases c <;> first | (cases hc'; done) | (cases h; done)
section
variable {T : Tab} {fa : Nat → Addr} {fd : Nat → FuncData} {exc : Nat → Addr} {run : Run} {n : Nat} {N : List Str} {W : WX} {sc : Scope} {X : Cx} {ps : Nat}
theorem StOk.bk (C : StOk T fa fd exc run n N W sc X) : X.env.blockKind = .function := by
  unfold Env.blockKind
  rw [C.sc, C.kf]
  rfl
theorem StOk.kd (C : StOk T fa fd exc run n N W sc X) {x : Str} (h : locals2 sc x = true) : X.env.scope.names.lookup x = some .local := by
  rw [C.sc]
  unfold locals2 at h
  split at h
  · assumption
  · cases h
theorem locB_n {i : Nat} {x : Str} (h : locB N sc i x = true) : N[i]? = some x := by
  unfold locB at h
  simp only [Bool.and_eq_true, decide_eq_true_eq] at h
  exact h.1
theorem noLoc_l {x : Str} {p : Pos} (h : noLoc sc (.Name x p) = false) : locals2 sc x = true := by
  unfold noLoc at h
  simpa using h
theorem ps_noStar : ∀ {m : Ps} {es : List Expr}, chkPs T N sc m es = true → es.all noStar = true
  | .nil, [], _ => rfl
  | .nil, _ :: _, h => by simp only [chkPs] at h; cases h
  | .val e r, [], h => by simp only [chkPs] at h; cases h
  | .new d r, [], h => by cases d <;> (simp only [chkPs] at h; cases h)
  | .val e r, x :: xs, h => by
    simp only [chkPs, Bool.and_eq_true] at h
    simp only [List.all_cons, Bool.and_eq_true]
    exact ⟨chkE_noStar h.2.1, ps_noStar h.2.2⟩
  | .new d r, x :: xs, h => by
    obtain ⟨hx, h⟩ := chkPs_new h
    simp only [List.all_cons, Bool.and_eq_true]
    exact ⟨isEmptyX_star hx, ps_noStar h⟩
theorem gs_inv : ∀ {gs : List Nat} {m : Ps} {ts : List Expr}, chkGs N ps sc gs m ts = true → gs.length = ts.length ∧ ∀ (k : Nat) (t : Expr), ts[k]? = some t → ∃ i x p, gs[k]? = some i ∧ t = .Name x p ∧ locB N sc i x = true
  | [], .nil, [], _ => ⟨rfl, fun k t h => by simp at h⟩
  | [], .nil, _ :: _, h => by simp only [chkGs] at h; cases h
  | [], .val _ _, _, h => by simp only [chkGs] at h; cases h
  | [], .new _ _, _, h => by simp only [chkGs] at h; cases h
  | _ :: _, .nil, _, h => by simp only [chkGs] at h; cases h
  | _ :: _, .val _ _, [], h => by simp only [chkGs] at h; cases h
  | _ :: _, .new _ _, [], h => by simp only [chkGs] at h; cases h
  | i :: gs, .val e r, x :: xs, h => by
    cases x <;> try (simp only [chkGs] at h; cases h; done)
    rename_i x p
    simp only [chkGs, Bool.and_eq_true, decide_eq_true_eq] at h
    obtain ⟨h1, h2⟩ := gs_inv h.2
    refine ⟨by simp only [List.length_cons, h1], fun k t hk => ?_⟩
    cases k with
    | zero => cases hk; exact ⟨i, x, p, rfl, rfl, h.1⟩
    | succ k => exact h2 k t hk
  | i :: gs, .new _ r, x :: xs, h => by
    cases x <;> try (simp only [chkGs] at h; cases h; done)
    rename_i x p
    simp only [chkGs, Bool.and_eq_true, decide_eq_true_eq] at h
    obtain ⟨h1, h2⟩ := gs_inv h.2.2
    refine ⟨by simp only [List.length_cons, h1], fun k t hk => ?_⟩
    cases k with
    | zero => cases hk; exact ⟨i, x, p, rfl, rfl, h.1⟩
    | succ k => exact h2 k t hk
theorem VPs.ext {K : PySem.W.Frag} {F M : AS} {H H' : Hp} (e : Ex NoM H H') : ∀ {F0 : AS} {l : List PV} {us : List V}, VPs K F0 F M H l us → VPs K F0 F M H' l us
  | _, [], _, h => h
  | _, .val d :: l, _, ⟨v, u, e1, h1, h2⟩ => ⟨v, u, e1, h1.ext e.toExt (fun _ z => z.elim), VPs.ext e h2⟩
  | _, .new _ :: l, _, ⟨v, u, e1, a, b, c, d, h2⟩ => ⟨v, u, e1, a, b, c, d.ext (fun z => z) e.toExt (fun _ z => z.elim), VPs.ext e h2⟩
theorem par_core {gs : List Nat} {m : Ps} {ts : List Expr} (hg : chkGs N ps sc gs m ts = true) {D : Ends} {σ : SS} {H : Hp} (q : tS X.K exc W ps (globD T) run (.par gs m) D σ H) : tPs X.K exc W (globD T) run m σ H fun vs H1 => ∀ H2, Ex NoM H1 H2 → D.nx (setAll gs vs σ) H2 := by
  obtain ⟨F, M, env, rl, p⟩ := q
  simp only [evS] at p
  refine ⟨F, M, env, rl, ?_⟩
  have kp : Keep (pat env) (evPs (globD T) run m env) := by
    have : ∀ (m : Ps) (env : En) (p : List Bool), pat env = p → Keep p (evPs (globD T) run m env) := by
      intro m
      induction m with
      | nil => intro env p h; exact h
      | val e r ih => intro env p h; exact (keepE e p env h).bind fun x e1 h1 => (ih e1 p h1).bind fun l e2 h2 => h2
      | new _ r ih => intro env p h; exact (ih env p h).bind fun l e2 h2 => h2
    exact this m env _ rfl
  cases q : evPs (globD T) run m env with
  | bad => rw [q] at p; exact p
  | exc x e1 =>
    rw [q] at p kp
    intro F' c d H' s f ex rl' xr
    refine p F' M σ c d H' ⟨s, f, fun a z => .inl z, ex, fun j _ o h => ⟨own_pat kp h, rfl⟩, fun i o a h hs => ?_⟩ rl' xr
    obtain ⟨o0, h0⟩ := own_pat kp.symm h
    exact .inl ⟨o0, h0, hs⟩
  | ok l e1 =>
    rw [q] at p kp
    have p : PostS X.K exc W ps F M env σ H (optS (asgPs gs l e1) .nxt) D := p
    obtain ⟨e2, q2, p2⟩ := p.opt
    intro F' vs H1 s f ex rl1 hv H' exn
    have rl' := rl1.ext exn
    have ex := ex.trans (exn.mono fun _ z => z.elim)
    have hv := hv.ext exn
    obtain ⟨M', r', hm, kp2⟩ := asgPs_ok (G := globD T) (run := run) gs m l ts vs e1 e2 σ F M hg ⟨env, e1, q⟩ q2 rl' s hv
    refine p2 F' M' _ H' ⟨s, f, fun a z => ?_, ex, fun j hj o h => ?_, fun i o a h hs => ?_⟩ r'
    · rcases hm a z with z | ⟨z1, z2⟩
      · exact .inl z
      · exact .inr ((f a z1).resolve_left z2)
    · obtain ⟨o1, h1⟩ := own_pat kp h
      exact kp2.1 j hj o1 h1
    · rcases kp2.2 i o a h hs with ⟨o1, h1, s1⟩ | z
      · obtain ⟨o0, h0⟩ := own_pat kp.symm h1
        exact .inl ⟨o0, h0, s1⟩
      · exact .inr z
theorem VPs.len {K : PySem.W.Frag} {F' M : AS} {H' : Hp} : ∀ {F0 : AS} (l : List PV) (us : List V), VPs K F0 F' M H' l us → us.length = l.length
  | _, [], _, h => by cases h; rfl
  | _, .val d :: l, _, ⟨v, u, e, _, h2⟩ => by subst e; simp only [List.length_cons, VPs.len l u h2]
  | _, .new _ :: l, _, ⟨v, u, e, _, _, _, _, h2⟩ => by subst e; simp only [List.length_cons, VPs.len l u h2]
theorem ps_len {G : Nat → Option D} : ∀ (m : Ps) (es : List Expr) (env e2 : En) (l : List PV), chkPs T N sc m es = true → evPs G run m env = .ok l e2 → l.length = es.length := by
  intro m
  induction m with
  | nil =>
    intro es env e2 l h q
    cases es with
    | nil => simp only [evPs] at q; cases q; rfl
    | cons _ _ => simp only [chkPs] at h; cases h
  | val e r ih =>
    intro es env e2 l h q
    cases es with
    | nil => simp only [chkPs] at h; cases h
    | cons x xs =>
      simp only [chkPs, Bool.and_eq_true] at h
      simp only [evPs] at q
      cases q1 : evE G run e env <;> rw [q1] at q <;> simp only [Res.bind] at q <;> try (cases q; done)
      rename_i e3
      cases q2 : evPs G run r e3 <;> rw [q2] at q <;> simp only [Res.bind] at q <;> try (cases q; done)
      cases q
      simp only [List.length_cons, ih xs _ _ _ h.2.2 q2]
  | new d r ih =>
    intro es env e2 l h q
    cases es with
    | nil => cases d <;> (simp only [chkPs] at h; cases h)
    | cons x xs =>
      have h' : chkPs T N sc r xs = true := (chkPs_new h).2
      simp only [evPs] at q
      cases q2 : evPs G run r env <;> rw [q2] at q <;> simp only [Res.bind] at q <;> try (cases q; done)
      cases q
      simp only [List.length_cons, ih xs _ _ _ h' q2]
theorem sim_par (C : StOk T fa fd exc run n N W sc X) {gs : List Nat} {m : Ps} {ts vs : List Expr} {k k2} {pt p2 pos : Pos} (hs : chkSw sc gs ts vs = true) (hg : chkGs N ps sc gs m ts = true) (hv : chkPs T N sc m vs = true) :
    PS X (.Assign [.Tuple ts k pt] (.Tuple vs k2 p2) pos) (tS X.K exc W ps (globD T) run (.par gs m)) := by
  have hN : X.N.Nodup := by rw [C.nm]; exact C.nd
  have hPA := sim_ps (W := W) C.toCtxOk m vs hv
  unfold chkSw at hs
  simp only [Bool.and_eq_true, decide_eq_true_eq, Bool.not_eq_true', List.all_eq_true, beq_iff_eq] at hs
  obtain ⟨⟨⟨hlc, hl⟩, hnd⟩, hln, hf, hc⟩ := hs
  obtain ⟨hgl, hgi⟩ := gs_inv hg
  have hst := ps_noStar hv
  unfold lenSw at hl
  simp only [Bool.and_eq_true, Bool.or_eq_true, beq_iff_eq] at hl
  rcases hl with ⟨hl | hl, hl2⟩
  · match ts, hl, gs, hgl, vs, hl2, hgi, hst, hPA, hf, hc, hln, hnd, hg, hv, hlc with
    | [t, u], _, [i, j], _, [a, b], _, hgi, hst, hPA, hf, hc, hln, hnd, hg, hv, hlc =>
      obtain ⟨i', x, px, e1, rfl, bx⟩ := hgi 0 t rfl
      cases e1
      have nx := locB_n bx
      have lx := noLoc_l (hlc (.Name x px) (by simp))
      obtain ⟨j', y, py, e1, rfl, bY⟩ := hgi 1 u rfl
      cases e1
      have ny := locB_n bY
      have ly := noLoc_l (hlc (.Name y py) (by simp))
      have hij : i ≠ j := by
        intro z; subst z; simp at hnd
      have l1 := hln (.Name y py) (by simp)
      simp only [lineOf, Expr.pos] at l1
      simp only [List.all_cons, List.all_nil, Bool.and_true, Bool.and_eq_true] at hst
      exact (ps_par C.calm hN (by rw [C.nm]; exact nx) (by rw [C.nm]; exact ny) hij (C.kd lx) (C.kd ly) hPA (sw2 C.bk (C.kd lx) (C.kd ly) l1 (nodup_ne C.nd nx ny hij) hst.1 hst.2 hf hc)).qimp fun D σ H q => by
        obtain ⟨F, M, env, rl, p⟩ := par_core (X := X) hg q
        refine ⟨F, M, env, rl, ?_⟩
        cases q2 : evPs (globD T) run m env with
        | bad => rw [q2] at p; exact p
        | exc y e2 => rw [q2] at p; exact p
        | ok l e2 =>
          rw [q2] at p
          intro F' us H' s f ex rl' hvs
          have p3 := p F' us H' s f ex rl' hvs
          have hlen : us.length = 2 := by
            rw [VPs.len l us hvs, ps_len m [a, b] env e2 l hv q2]
            rfl
          match us, hlen, p3 with
          | [v, w], _, p3 => exact ⟨v, w, rfl, p3 _ (Ex.refl _ _)⟩
  · match ts, hl, gs, hgl, vs, hl2, hgi, hst, hPA, hf, hc, hln, hnd, hg, hv, hlc with
    | [t, u, r], _, [i, j, k], _, [a, b, c], _, hgi, hst, hPA, hf, hc, hln, hnd, hg, hv, hlc =>
      obtain ⟨i', x, px, e1, rfl, bx⟩ := hgi 0 t rfl
      cases e1
      have nx := locB_n bx
      have lx := noLoc_l (hlc (.Name x px) (by simp))
      obtain ⟨j', y, py, e1, rfl, bY⟩ := hgi 1 u rfl
      cases e1
      have ny := locB_n bY
      have ly := noLoc_l (hlc (.Name y py) (by simp))
      obtain ⟨k', z, pz, e1, rfl, bz⟩ := hgi 2 r rfl
      cases e1
      have nz := locB_n bz
      have lz := noLoc_l (hlc (.Name z pz) (by simp))
      have hij : i ≠ j := by intro z; subst z; simp at hnd
      have hik : i ≠ k := by intro z; subst z; simp at hnd
      have hjk : j ≠ k := by intro z; subst z; simp at hnd
      have l1 := hln (.Name y py) (by simp)
      have l2 := hln (.Name z pz) (by simp)
      simp only [lineOf, Expr.pos] at l1 l2
      simp only [List.all_cons, List.all_nil, Bool.and_true, Bool.and_eq_true] at hst
      exact (ps_par3 C.calm hN (by rw [C.nm]; exact nx) (by rw [C.nm]; exact ny) (by rw [C.nm]; exact nz) hij hik hjk (C.kd lx) (C.kd ly) (C.kd lz) hPA (sw3 C.bk (C.kd lx) (C.kd ly) (C.kd lz) l1 l2 (nodup_ne C.nd nx ny hij) (nodup_ne C.nd nx nz hik) (nodup_ne C.nd ny nz hjk) hst.1 hst.2.1 hst.2.2 hf hc)).qimp fun D σ H q => by
        obtain ⟨F, M, env, rl, p⟩ := par_core (X := X) hg q
        refine ⟨F, M, env, rl, ?_⟩
        cases q2 : evPs (globD T) run m env with
        | bad => rw [q2] at p; exact p
        | exc y e2 => rw [q2] at p; exact p
        | ok l e2 =>
          rw [q2] at p
          intro F' us H' s f ex rl' hvs
          have p3 := p F' us H' s f ex rl' hvs
          have hlen : us.length = 3 := by
            rw [VPs.len l us hvs, ps_len m [a, b, c] env e2 l hv q2]
            rfl
          match us, hlen, p3 with
          | [v, w, u], _, p3 => exact ⟨v, w, u, rfl, p3 _ (Ex.refl _ _)⟩
/-! ### by way of the tuple -/
def gNames (K : PySem.W.Frag) : List Nat → TGs
  | [] => gNil
  | i :: gs => gCons (gName i) (gNames K gs)
theorem gNames_ok {K : PySem.W.Frag} {H : Hp} {Q : SS → Hp → Prop} : ∀ (gs : List Nat) (vs : List V) (σ : SS), gs.length = vs.length → Q (setAll gs vs σ) H → gNames K gs vs σ H Q
  | [], [], σ, _, q => ⟨rfl, q⟩
  | [], _ :: _, σ, h, _ => by cases h
  | _ :: _, [], σ, h, _ => by cases h
  | i :: gs, v :: vs, σ, h, q => ⟨v, vs, rfl, gNames_ok gs vs _ (by simpa using h) q⟩
theorem pgs_names (C : StOk T fa fd exc run n N W sc X) : ∀ {gs : List Nat} {m : Ps} {ts : List Expr}, chkGs N ps sc gs m ts = true → PGs X ts (gNames X.K gs) ∧ (assignEach ts X.env).length = gs.length ∧ (assignEach ts X.env).findIdx? (·.1) = none
  | [], .nil, [], _ => ⟨pgs_nil, rfl, rfl⟩
  | [], .nil, _ :: _, h => by simp only [chkGs] at h; cases h
  | [], .val _ _, _, h => by simp only [chkGs] at h; cases h
  | [], .new _ _, _, h => by simp only [chkGs] at h; cases h
  | _ :: _, .nil, _, h => by simp only [chkGs] at h; cases h
  | _ :: _, .val _ _, [], h => by simp only [chkGs] at h; cases h
  | _ :: _, .new _ _, [], h => by simp only [chkGs] at h; cases h
  | i :: gs, .val e r, x :: xs, h => by
    cases x <;> try (simp only [chkGs] at h; cases h; done)
    rename_i x p
    simp only [chkGs, Bool.and_eq_true] at h
    obtain ⟨h1, h2, h3⟩ := pgs_names C h.2
    obtain ⟨n1, n2, n3⟩ := C.st i x h.1
    refine ⟨pgs_cons (pg_name (by rw [C.nm]; exact C.nd) n1 n2 n3) h1 rfl, ?_, ?_⟩
    · rw [asE_cons rfl, List.length_cons, h2, List.length_cons]
    · rw [asE_cons rfl, List.findIdx?_cons, h3]; rfl
  | i :: gs, .new _ r, x :: xs, h => by
    cases x <;> try (simp only [chkGs] at h; cases h; done)
    rename_i x p
    simp only [chkGs, Bool.and_eq_true] at h
    obtain ⟨h1, h2, h3⟩ := pgs_names C h.2.2
    obtain ⟨n1, n2, n3⟩ := C.st i x h.1
    refine ⟨pgs_cons (pg_name (by rw [C.nm]; exact C.nd) n1 n2 n3) h1 rfl, ?_, ?_⟩
    · rw [asE_cons rfl, List.length_cons, h2, List.length_cons]
    · rw [asE_cons rfl, List.findIdx?_cons, h3]; rfl
theorem noSw_any {ts vs : List Expr} {k k2 k3 k4 : Nat} {p p2 p3 p4 : Pos} (h : noSw sc (.Tuple ts k p) (.Tuple vs k2 p2) = true) : noSw sc (.Tuple ts k3 p3) (.Tuple vs k4 p4) = true := h
theorem sim_parT (C : StOk T fa fd exc run n N W sc X) {gs : List Nat} {m : Ps} {ts vs : List Expr} {k k2} {pt p2 pos : Pos} (hs : noSw sc (.Tuple ts k pt) (.Tuple vs k2 p2) = true) (hg : chkGs N ps sc gs m ts = true) (hv : chkPs T N sc m vs = true) (hl : vs.length = gs.length) (hz : vs.length ≤ big) :
    PS X (.Assign [.Tuple ts k pt] (.Tuple vs k2 p2) pos) (tS X.K exc W ps (globD T) run (.par gs m)) := by
  obtain ⟨h1, h2, h3⟩ := pgs_names C hg
  have hPA := sim_ps (W := W) C.toCtxOk m vs hv
  refine (ps_asg (pe_tup hPA) (pg_tup C.calm h1 h2 h3) rfl (swp_not C.sc hs) rfl).qimp fun D σ H q => ?_
  obtain ⟨F, M, env, rl, p⟩ := par_core (X := X) hg q
  refine ⟨F, M, env, rl, ?_⟩
  cases q2 : evPs (globD T) run m env with
  | bad => rw [q2] at p; exact p
  | exc y e2 => rw [q2] at p; exact p
  | ok l e2 =>
    rw [q2] at p
    intro F' us H' s f ex rl' hvs
    have p3 := p F' us H' s f ex rl' hvs
    have hlen : us.length = gs.length := by
      rw [VPs.len l us hvs, ps_len m vs env e2 l hv q2, hl]
    refine ⟨by rw [hlen, ← hl]; exact big_line hz, fun a ha => ⟨a, us, rfl, .inl (.inl upd_same), hlen, gNames_ok gs us σ hlen.symm (p3 _ (Ext.new ha).ex)⟩⟩
end
end Qh

/-! Stores into dicts of one's own. -/
namespace Qh
open PySem PySem.Spec PyProof.Rows L2 PySem.W
section
variable {K : PySem.W.Frag} {F M M' : AS} {H H' : Hp}
theorem Al.ext (e : Ext M' H H') (s : ∀ a, M' a → F a) : ∀ {ks ds : List D} {xs : List XE}, Al K F H ks ds xs → Al K F H' ks ds xs
  | [], [], [], _ => trivial
  | [], [], _ :: _, h => h.elim
  | [], _ :: _, [], h => h.elim
  | [], _ :: _, _ :: _, h => h.elim
  | _ :: _, [], [], h => h.elim
  | _ :: _, [], _ :: _, h => h.elim
  | _ :: _, _ :: _, [], h => h.elim
  | k :: ks, d :: ds, x :: xs, ⟨h1, h2, ⟨v, h3, h4⟩, h5⟩ => ⟨h1.ext e s, h2, ⟨v, h3.ext e s, h4⟩, Al.ext e s h5⟩
theorem AlS.ext (e : Ext M' H H') (s : ∀ a, M' a → F a) : ∀ {ks ds : List D} {kvs : List (Key × V)}, AlS K F H ks ds kvs → AlS K F H' ks ds kvs
  | [], [], [], _ => trivial
  | [], [], _ :: _, h => h.elim
  | [], _ :: _, [], h => h.elim
  | [], _ :: _, _ :: _, h => h.elim
  | _ :: _, [], [], h => h.elim
  | _ :: _, [], _ :: _, h => h.elim
  | _ :: _, _ :: _, [], h => h.elim
  | k :: ks, d :: ds, p :: kvs, ⟨h1, h2, h3⟩ => ⟨h1, h2.ext e s, AlS.ext e s h3⟩
theorem allT_snoc {ks : List D} {l : List D} (h : allT ks = true) : allT (ks ++ [.tup l]) = true := by
  unfold allT at h ⊢
  rw [List.all_append, h]
  rfl
theorem allS_snoc {ks : List D} {x : Str} (h : allS ks = true) : allS (ks ++ [.str x]) = true := by
  unfold allS at h ⊢
  rw [Bool.and_eq_true] at h ⊢
  refine ⟨by cases ks <;> rfl, ?_⟩
  rw [List.all_append, h.2]
  rfl
theorem big_lt {n : Nat} (h : n < big) : n < sizeLine := Nat.lt_of_lt_of_le h (big_line (Nat.le_refl _))
theorem dput_ok {a : Addr} {ks ds ks' ds' : List D} {k d : D} {y v : V} {Q : Hp → Prop} (hF : F a) (h : dPut ks ds k d = some (ks', ds')) (r : DctR K F H ks ds a) (hk : VR K F H k y) (hd : VR K F H d v)
    (q : ∀ ho, (∀ vs, ho ≠ .tup vs) → OR K F (upd H a ho) (.dct ks' ds') a → Q (upd H a ho)) : rSetX K (.ref a) y v H Q := by
  unfold dPut at h
  split at h
  case isFalse => cases h
  rename_i hz
  simp only [Bool.and_eq_true, decide_eq_true_eq] at hz
  refine ⟨a, rfl, ?_⟩
  have hup : ∀ ho, H a ≠ none → Ext (fun b => b = a) H (upd H a ho) := fun ho hn => Ext.put rfl hn
  have hs : ∀ b, b = a → F b := fun b e => e ▸ hF
  split at h
  · rename_i x
    split at h
    case isFalse => cases h
    rename_i hall
    obtain ⟨kvs, t⟩ := r.s hall
    cases (show y = .str x by simpa only [VR] using hk)
    have hn : H a ≠ none := by rw [t.at_]; intro z; cases z
    have hl := t.al.len
    refine .inr ⟨_, DPut.k (k := Sum.inr x) t.at_ (big_lt (by rw [← hl.1]; exact hz.1)), q _ (fun _ z => nomatch z) ?_⟩
    have al := t.al.ext (hup (.dK (putK kvs (Sum.inr x) v)) hn) hs
    have hd' := hd.ext (hup (.dK (putK kvs (Sum.inr x) v)) hn) hs
    have ha := t.al.any x
    split at h
    · rename_i hany
      cases h
      have e : putK kvs (Sum.inr x : Key) v = kvs.map fun kv => if kv.1 = (Sum.inr x : Key) then (kv.1, v) else kv := by
        unfold putK
        rw [← ha, if_pos hany]
      refine SDct.r (kvs := putK kvs (Sum.inr x) v) ⟨upd_same, ?_, hall, ?_⟩
      · have := al.repl x hd' t.nd hany
        rw [← e] at this
        exact this
      · rw [e, List.map_map]
        have : ((fun p : Key × V => p.1) ∘ fun kv : Key × V => if kv.1 = (Sum.inr x : Key) then (kv.1, v) else kv) = fun p => p.1 := by
          funext p
          show (if p.1 = (Sum.inr x : Key) then (p.1, v) else p).1 = p.1
          split <;> rfl
        rw [this]
        exact t.nd
    · rename_i hany
      cases h
      have e : putK kvs (Sum.inr x : Key) v = kvs ++ [(Sum.inr x, v)] := by
        unfold putK
        rw [← ha, if_neg hany]
      refine SDct.r (kvs := putK kvs (Sum.inr x) v) ⟨upd_same, ?_, allS_snoc hall, ?_⟩
      · have := al.snoc (x := x) hd'
        rw [← e] at this
        exact this
      · rw [e, List.map_append]
        refine List.nodup_append.mpr ⟨t.nd, by simp, fun z hz w hw e => ?_⟩
        simp only [List.map_cons, List.map_nil, List.mem_singleton] at hw
        subst hw
        obtain ⟨p, hp, e2⟩ := List.mem_map.mp hz
        apply hany
        rw [ha]
        exact List.any_eq_true.mpr ⟨p, hp, decide_eq_true (e2.trans e)⟩
  · rename_i l
    split at h
    case h_2 => cases h
    rename_i n hn
    split at h
    case isFalse => cases h
    rename_i hall
    obtain ⟨xs, t⟩ := r.t hall
    obtain ⟨_, k1, k2, k3⟩ := keyT_inv hn
    obtain ⟨b, us, rfl, _⟩ := hk.tupT
    obtain ⟨ep0, e0⟩ := t.p.at_
    have hne : H a ≠ none := by rw [e0]; intro z; cases z
    have hl := t.al.len
    refine .inl ⟨xs, n, b, t.dx, rfl, VR.keyV _ _ _ k1 hk, k3, k2, big_lt (by rw [← hl.1]; exact hz.1), fun u ep rv D' => q _ (fun _ z => nomatch z) ?_⟩
    have al := t.al.ext (hup (hoX a (storedH xs n b u) ep) hne) hs
    have hd' := hd.ext (hup (hoX a (storedH xs n b u) ep) hne) hs
    have hk' := hk.ext (hup (hoX a (storedH xs n b u) ep) hne) hs
    have ha := t.al.any n
    have hp : DXp (upd H a (hoX a (storedH xs n b u) ep)) a (storedH xs n b u) := ⟨D'.at_, fun x hx => (D'.keys x hx).2, D'.nd, D'.low, D'.len⟩
    split at h
    · rename_i hany
      cases h
      refine TDct.r ⟨hp, ?_, hall⟩
      have e : storedH xs n b u = xs.map (putAt n u) := by
        unfold storedH
        rw [← ha, if_pos hany]
      have := al.repl n hd' rv t.p.nd hany
      rw [← e] at this
      exact this
    · rename_i hany
      cases h
      refine TDct.r ⟨hp, ?_, allT_snoc hall⟩
      have e : storedH xs n b u = xs ++ [(n, b, u)] := by
        unfold storedH
        rw [← ha, if_neg hany]
      have := al.snoc hk' k1 hd' rv
      rw [← e] at this
      exact this
  · cases h
end
end Qh

/-! Statements as a whole. -/
namespace Qh
open PySem PySem.Spec PyProof.Rows L2 PySem.W
section
variable {T : Tab} {fa : Nat → Addr} {fd : Nat → FuncData} {exc : Nat → Addr} {run : Run} {n : Nat} {N : List Str} {W : WX} {sc : Scope} {X : Cx} {ps : Nat}
theorem Rel.ownAt {K : PySem.W.Frag} {F M : AS} {env : En} {σ : SS} {H : Hp} (rl : Rel K F M env σ H) {i : Nat} {l : List D} (h : ownL env i = some l) : ∃ a vs, env[i]? = some (Sl.own (.lst l)) ∧ σ[i]? = some (some (V.ref a)) ∧ M a ∧ H a = some (.lst vs) ∧ VRs K F H l vs := by
  have h1 := ownL_of h
  obtain ⟨a, b, c, vs, d, e⟩ := rl.own i _ h1
  exact ⟨a, vs, h1, b, c, d, e⟩
theorem sim_setix (C : StOk T fa fd exc run n N W sc X) {i : Nat} {k e : E} {x : Str} {px sp pos : Pos} {y v : Expr} (hx : nameB N sc i x = true) (hy : plainIx y = true) (nk : isBor k = false) (ne : isBor e = false) (hv : isComp v = false)
    (he : PE X v (tE X.K exc W (globD T) run e)) (hk : PE X y (tE X.K exc W (globD T) run k)) : PS X (.Assign [.Subscript (.Name x px) y sp] v pos) (tS X.K exc W ps (globD T) run (.setix i k e)) := by
  have hg : PG X (.Subscript (.Name x px) y sp) (gSub (tVar i) (tE X.K exc W (globD T) run k) rSetL) := pg_sub (PE.nameVar C.toCtxOk hx) hk set_list (by intro v; cases y <;> first | rfl | cases hy)
  refine (ps_asg he hg (sw_not hv) (by cases v <;> rfl) rfl).qimp fun D σ H q => ?_
  obtain ⟨F, M, env, rl, p⟩ := q
  simp only [evS] at p
  obtain ⟨l0, ql0, p⟩ := p.opt
  obtain ⟨a, vs0, _, hs, _, _, _⟩ := rl.ownAt ql0
  refine ⟨F, M, env, rl, p.ofE (keepE e _ env rfl) fun d e1 u H1 _ ex1 rl1 hu hp1 p1 => ⟨_, hs, F, M, e1, rl1, p1.ofE (keepE k _ e1 rfl) fun kd e2 w H2 qq ex2 rl2 hw hp2 p2 => ?_⟩⟩
  clear qq
  have hu := (hu.vr ne).ext ex2.toExt rl1.sub
  have hw := hw.vr nk
  cases ql : ownL e2 i with
  | none => rw [ql] at p2; exact p2.elim
  | some l =>
    rw [ql] at p2
    cases kd <;> try (exact p2.elim)
    obtain ⟨j, qj, p3⟩ := p2.opt
    obtain ⟨a', vs, h1, hs', hM, hl, hv'⟩ := rl2.ownAt ql
    rw [hs] at hs'
    cases hs'
    cases hw.intI
    obtain ⟨r3, ex3⟩ := rl2.put h1 hs (hv'.set j hu)
    exact ⟨a, vs, _, j, rfl, rfl, hl, by rw [← hv'.len]; exact qj, p3 F M σ _ (Go.put h1 ex3) r3⟩
theorem sim_sfld (C : StOk T fa fd exc run n N W sc X) {i : Nat} {c f : Str} {e : E} {x : Str} {px ap pos : Pos} {v : Expr} (hx : nameB N sc i x = true) (hf : T.flds.contains (c, f) = true) (ne : isBor e = false) (hc : isComp v = false)
    (he : PE X v (tE X.K exc W (globD T) run e)) : PS X (.Assign [.Attribute (.Name x px) f ap] v pos) (tS X.K exc W ps (globD T) run (.fld c i f e)) := by
  obtain ⟨hcl, hno⟩ := C.facts.fld c f hf
  refine (ps_fld (PE.nameVar C.toCtxOk hx) he (by cases v <;> first | rfl | cases hc)).qimp fun D σ H q => ?_
  obtain ⟨F, M, env, rl, p⟩ := q
  simp only [evS] at p
  refine ⟨F, M, env, rl, p.ofE (keepE e _ env rfl) fun d e1 u H1 _ ex1 rl1 hu hp1 p1 => ?_⟩
  have hu := hu.vr ne
  obtain ⟨q, hq, p2⟩ := p1.opt
  obtain ⟨q', hq', p3⟩ := p2.opt
  split at p3
  · rename_i hlt
    have h1 := ownI_of hq
    obtain ⟨a, hs, hM, dx, vs, ha, hl, hv⟩ := rl1.own i _ h1
    obtain ⟨vs', e1', hl', hv'⟩ := putF_zip hu hv hl hq'
    obtain ⟨r3, ex3⟩ := rl1.putO (oo := .ins c q'.1 q'.2) (ho := .ins (He.ga X.K c) dx (putF f u (q.1.zip vs))) h1 hs (fun _ z => nomatch z)
      ⟨dx, vs', by rw [upd_same, e1'], hl', hv'.ext (M := fun b => b = a) (Ext.put rfl (by rw [ha]; intro z; cases z)) fun b z => z ▸ rl1.sub a hM⟩
    exact ⟨_, hs, a, _, dx, _, rfl, ha, hcl, hno, by rw [List.length_zip]; omega, p3 F M σ _ (Go.put h1 ex3) r3⟩
  · exact p3.elim
theorem sim_raise (C : StOk T fa fd exc run n N W sc X) {c : Nat} {x : Str} {p pos pos' : Pos} (hg : glB sc x = true) (hx : T.excs[c]? = some x) : PS X (.Raise (some (.Call (.Name x p) [] [] pos)) none pos') (tS X.K exc W ps (globD T) run (.raise c)) := by
  obtain ⟨g1, g2, g3⟩ := gl_of hg
  obtain ⟨hm, hk, hin, hs, ht⟩ := C.exk.made c x hx
  refine (ps_raise C.calm C.tk (pmk_bare PySem.F.excBase_ValueError hin hm hk (raises_own hs ht) (C.gl g1) g2)).qimp fun D σ H q => ?_
  obtain ⟨F, M, env, rl, p⟩ := q
  simp only [evS] at p
  exact p F M σ _ none H (Go.expr (Ex.refl _ _) rfl) rl ⟨rfl, rfl⟩
theorem tyV_list {K : PySem.W.Frag} {a : Addr} {H : Hp} {vs : List V} (h : H a = some (.lst vs)) : tyV K "list" (.ref a) H := .inl ⟨rfl, vs, .of h⟩
theorem few1 {e : Expr} {env : Env} {cpos : Pos} (h : noStar e = true) : ((backTo cpos (starEach [e] env)).all (fun x => !x.1) && (backToKw cpos (keywordEach [] env)).all (fun x => x.1.isSome)
      && decide ([e].length + ([] : List Keyword).length + (if ([] : List Keyword).isEmpty then 0 else 1) < 30)) = true := by
  rw [star_cons h]
  rfl
theorem sim_app (C : StOk T fa fd exc run n N W sc X) {i : Nat} {e : E} {x m : Str} {px ap cp pos : Pos} {v : Expr} (hx : nameB N sc i x = true) (hm : m = "append") (hl : (ap.endLine == cp.line) = true) (ne : isBor e = false) (ns : noStar v = true)
    (he : PE X v (tE X.K exc W (globD T) run e)) : PS X (.Expr (.Call (.Attribute (.Name x px) m ap) [v] [] cp) pos) (tS X.K exc W ps (globD T) run (.app i e)) := by
  subst hm
  refine (ps_expr (pe_bm PySem.F.plainAttrs_list PySem.F.slot_list_append PySem.F.type_list_append mt_append (PE.nameVar C.toCtxOk hx) (pa_cons he pa_nil (star_cons ns)) rfl (few1 ns) hl (star_cons ns) rfl)).qimp fun D σ H q => ?_
  obtain ⟨F, M, env, rl, p⟩ := q
  simp only [evS] at p
  obtain ⟨l0, ql0, p⟩ := p.opt
  obtain ⟨a, vs0, _, hs, _, hl0, _⟩ := rl.ownAt ql0
  refine ⟨_, hs, tyV_list hl0, F, M, env, rl, p.ofE (keepE e _ env rfl) fun d e1 u H1 _ ex1 rl1 hu hp1 p1 => ?_⟩
  have hu := hu.vr ne
  obtain ⟨l, ql, p2⟩ := p1.opt
  split at p2
  · rename_i hlt
    obtain ⟨a', vs, h1, hs', hM, hl, hv'⟩ := rl1.ownAt ql
    rw [hs] at hs'
    cases hs'
    obtain ⟨r3, ex3⟩ := rl1.put h1 hs (hv'.append (.cons_mk hu (VRs.nil_iff.mpr rfl)))
    exact ⟨a, vs, u, rfl, rfl, hl, by rw [← hv'.len]; exact Nat.lt_of_lt_of_le hlt (big_line (Nat.le_refl _)), p2 F M σ _ (Go.put h1 ex3) r3⟩
  · exact p2.elim
theorem sim_ext (C : StOk T fa fd exc run n N W sc X) {i : Nat} {e : E} {x m : Str} {px ap cp pos : Pos} {v : Expr} (hx : nameB N sc i x = true) (hm : m = "extend") (hl : (ap.endLine == cp.line) = true) (ne : isBor e = false) (ns : noStar v = true)
    (he : PE X v (tE X.K exc W (globD T) run e)) : PS X (.Expr (.Call (.Attribute (.Name x px) m ap) [v] [] cp) pos) (tS X.K exc W ps (globD T) run (.ext i e)) := by
  subst hm
  refine (ps_expr (pe_bm PySem.F.plainAttrs_list PySem.F.slot_list_extend PySem.F.type_list_extend mt_extend (PE.nameVar C.toCtxOk hx) (pa_cons he pa_nil (star_cons ns)) rfl (few1 ns) hl (star_cons ns) rfl)).qimp fun D σ H q => ?_
  obtain ⟨F, M, env, rl, p⟩ := q
  simp only [evS] at p
  obtain ⟨l0, ql0, p⟩ := p.opt
  obtain ⟨a, vs0, _, hs, _, hl0, _⟩ := rl.ownAt ql0
  refine ⟨_, hs, tyV_list hl0, F, M, env, rl, p.ofE (keepE e _ env rfl) fun d e1 u H1 _ ex1 rl1 hu hp1 p1 => ?_⟩
  have hu := hu.vr ne
  obtain ⟨l, ql, p2⟩ := p1.opt
  split at p2
  · rename_i m
    split at p2
    · rename_i hlt
      obtain ⟨a', vs, h1, hs', hM, hl, hv'⟩ := rl1.ownAt ql
      rw [hs] at hs'
      cases hs'
      simp only [VR] at hu
      obtain ⟨b, zs, rfl, _, hb, hz⟩ := hu
      obtain ⟨r3, ex3⟩ := rl1.put h1 hs (hv'.append hz)
      exact ⟨a, b, vs, zs, rfl, rfl, hl, hb, by rw [← hv'.len, ← hz.len]; exact big_line hlt, p2 F M σ _ (Go.put h1 ex3) r3⟩
    · exact p2.elim
  · exact p2.elim
theorem sim_ex (C : StOk T fa fd exc run n N W sc X) {e : E} {v : Expr} {pos : Pos} (hc : isComp v = false) (he : PE X v (tE X.K exc W (globD T) run e)) : PS X (.Expr v pos) (tS X.K exc W ps (globD T) run (.ex e)) := by
  refine (ps_expr he (by cases v <;> first | rfl | cases hc)).qimp fun D σ H q => ?_
  obtain ⟨F, M, env, rl, p⟩ := q
  simp only [evS] at p
  exact ⟨F, M, env, rl, p.ofE (keepE e _ env rfl) fun d e1 u H1 _ ex1 rl1 hu hp1 p1 => p1 F M σ H1 (Go.expr (Ex.refl _ _) rfl) rl1⟩
theorem sim_ret (C : StOk T fa fd exc run n N W sc X) {e : E} {v : Expr} {pos : Pos} (nb : isBor e = false) (he : PE X v (tE X.K exc W (globD T) run e)) : PS X (.Return (some v) pos) (tS X.K exc W ps (globD T) run (.ret e)) := by
  refine (ps_ret he).qimp fun D σ H q => ?_
  obtain ⟨F, M, env, rl, p⟩ := q
  simp only [evS] at p
  exact ⟨F, M, env, rl, p.ofE (keepE e _ env rfl) fun d e1 u H1 _ ex1 rl1 hu hp1 p1 => p1 F M σ u H1 (Go.expr (Ex.refl _ _) rfl) rl1 (.inl (hu.vr nb))⟩
theorem sim_retn {pos : Pos} : PS X (.Return none pos) (tS X.K exc W ps (globD T) run .retn) := ps_retN.qimp fun D σ H q => by
  obtain ⟨F, M, env, rl, p⟩ := q
  simp only [evS] at p
  exact p F M σ .non H (Go.expr (Ex.refl _ _) rfl) rl (.inl (by simp only [VR]))
theorem sim_reto (C : StOk T fa fd exc run n N W sc X) {i : Nat} {x : Str} {px pos : Pos} (hx : nameB N sc i x = true) (hi : ps ≤ i) : PS X (.Return (some (.Name x px)) pos) (tS X.K exc W ps (globD T) run (.reto i)) := by
  refine (ps_ret (PE.nameVar C.toCtxOk hx)).qimp fun D σ H q => ?_
  obtain ⟨F, M, env, rl, p⟩ := q
  simp only [evS] at p
  obtain ⟨d, ql, p⟩ := p.opt
  obtain ⟨o, rfl, h1⟩ := ownR_of ql
  obtain ⟨a, hs, _, _⟩ := rl.own i o h1
  exact ⟨_, hs, p F M σ _ H (Go.expr (Ex.refl _ _) rfl) rl (.inr ⟨i, o, hi, rfl, h1, hs⟩)⟩
theorem Go.adopt {K : PySem.W.Frag} {F M : AS} {env : En} {σ : SS} {H H' : Hp} {i : Nat} {a : Addr} {o : O} (rl : Rel K F M env σ H) (ha : H a = none) (ex : Ex M H H') (hi : ps ≤ i) (hl : i < env.length) :
    Go ps F M env σ H (fun b => F b ∨ b = a) (fun b => M b ∨ b = a) (env.set i (.own o)) (σ.set i (some (V.ref a))) H' := by
  refine ⟨fun b z => .inl z, fun b z => ?_, fun b z => ?_, ex, fun j hj o h => ?_, fun j o b h hs => ?_⟩
  · rcases z with z | z
    · exact .inl z
    · exact .inr (by rw [z]; exact ha)
  · rcases z with z | z
    · exact .inl z
    · exact .inr (by rw [z]; exact ha)
  · have ne : i ≠ j := fun z => by omega
    exact ⟨⟨o, by rw [List.getElem?_set_ne ne]; exact h⟩, List.getElem?_set_ne ne⟩
  · rcases set_own h with ⟨rfl, _⟩ | ⟨ne, q⟩
    · have hlt : i < σ.length := by rw [← rl.len]; exact hl
      rw [List.getElem?_set_self hlt] at hs
      cases hs
      exact .inr (rl.fresh a ha)
    · rw [List.getElem?_set_ne ne] at hs
      exact .inl ⟨o, q, hs⟩
theorem sim_ownd (C : StOk T fa fd exc run n N W sc X) {i : Nat} {x : Str} {px p2 pos : Pos} (hx : locB N sc i x = true) (hi : ps ≤ i) : PS X (.Assign [.Name x px] (.Dict [] [] p2) pos) (tS X.K exc W ps (globD T) run (.ownd i)) := by
  have hN : X.N.Nodup := by rw [C.nm]; exact C.nd
  obtain ⟨h1, h2, h3⟩ := C.st i x hx
  refine (ps_set hN h1 h2 (pe_empty (d := true) rfl) rfl h3).qimp fun D σ H q => ?_
  obtain ⟨F, M, env, rl, p⟩ := q
  simp only [evS] at p
  intro a ha lo
  split at p
  · rename_i hl
    have nM : ¬ M a := fun z => rl.fresh a ha (rl.sub a z)
    exact p _ _ _ _ (Go.adopt rl ha (Ext.new (M := NoM) ha).exM hi hl) ((rl.more (o := emptyH true a) ha emptyH_nt).adopt (oo := emptyO true) (.inr rfl) nM (emptyH_or lo upd_same) hl)
  · exact p.elim
theorem pairK_ok {K : PySem.W.Frag} {F : AS} {H : Hp} : ∀ {l : List D} {ks : List Str} {vs : List D} {ws : List V}, pairK l = some (ks, vs) → VRs K F H l ws → ∃ (ps : List Addr) (vv : List V), ws = ps.map V.ref ∧ PySem.Paired (fun p kv => SqT K H p [kV kv.1, kv.2]) ps (kvOf ks vv) ∧ VRs K F H vs vv ∧ ks.length = vs.length
  | [], ks, vs, ws, h, r => by
    cases h
    rw [VRs.nil_iff.mp r]
    exact ⟨[], [], rfl, .nil, VRs.nil_iff.mpr rfl, rfl⟩
  | d :: l, ks, vs, ws, h, r => by
    obtain ⟨w, u, rfl, h1, h2⟩ := r.cons_inv
    unfold pairK at h
    split at h
    · cases ‹d :: l = []›
    · rename_i k v r' e
      cases e
      obtain ⟨p, ep, e2⟩ := Option.map_eq_some_iff.mp h
      cases e2
      obtain ⟨ps, vv, rfl, q1, q2, q3⟩ := pairK_ok (ks := p.1) (vs := p.2) ep h2
      obtain ⟨a, us, rfl, t, rr⟩ := h1.tupT
      obtain ⟨u1, r1, rfl, g1, g2⟩ := rr.cons_inv
      obtain ⟨u2, r2, rfl, g3, g4⟩ := g2.cons_inv
      rw [VRs.nil_iff.mp g4] at t
      cases (show u1 = .str k by simpa only [VR] using g1)
      exact ⟨a :: ps, u2 :: vv, rfl, .cons t q1, .cons_mk g3 q2, by simp only [List.length_cons, q3]⟩
    · cases h
theorem sim_ownp (C : StOk T fa fd exc run n N W sc X) {i : Nat} {e : E} {x f : Str} {px pf p2 pos : Pos} {v : Expr} (hx : locB N sc i x = true) (hi : ps ≤ i) (hg : glB sc f = true) (hf : f = "dict") (hb : T.blts.contains f = true) (nb : isBor e = false) (hs : noStar v = true)
    (he : PE X v (tE X.K exc W (globD T) run e)) : PS X (.Assign [.Name x px] (.Call (.Name f pf) [v] [] p2) pos) (tS X.K exc W ps (globD T) run (.ownp i e)) := by
  subst hf
  have hN : X.N.Nodup := by rw [C.nm]; exact C.nd
  obtain ⟨h1, h2, h3⟩ := C.st i x hx
  obtain ⟨g1, g2, g3⟩ := gl_of hg
  refine (ps_set hN h1 h2 (pe_callTy (call_dictP C.calm) (C.gl g1) (C.facts.blt _ hb) (by decide +kernel) (pa_cons he pa_nil (star_cons hs)) g3 g2 (star_cons hs) rfl) rfl h3).qimp fun D σ H q => ?_
  obtain ⟨F, M, env, rl, p⟩ := q
  simp only [evS] at p
  refine ⟨F, M, env, rl, p.ofE (keepE e _ env rfl) fun d e1 u H1 q1 ex1 rl1 hu hp1 p1 => ?_⟩
  clear q1
  have hv := hu.vr nb
  cases d <;> try (exact p1.elim)
  rename_i l
  obtain ⟨p', ep, p2⟩ := p1.opt
  split at p2
  case isFalse => exact p2.elim
  rename_i hl
  obtain ⟨a, ws, rfl, t, r⟩ := hv.lstL
  unfold dictP at ep
  split at ep
  case h_2 => cases ep
  rename_i ks vs qp
  split at ep
  case isFalse => cases ep
  rename_i hc
  cases ep
  simp only [Bool.and_eq_true, decide_eq_true_eq, Bool.not_eq_true'] at hc
  obtain ⟨pp, vv, rfl, z1, z2, z3⟩ := pairK_ok qp r
  have hlv : ks.length = vv.length := z3.trans z2.len
  have nd : ((kvOf ks vv).map (·.1)).Nodup := by
    rw [kvOf_keys hlv]
    exact List.pairwise_map.mpr ((nodupS_ok hc.1.1).imp fun h z => h (Sum.inr.inj z))
  refine ⟨a, pp, kvOf ks vv, rfl, .of t, z1, fun b hbn => ?_⟩
  have em : mergeK [] (kvOf ks vv) = kvOf ks vv := mergeK_fresh _ _ (by simpa using nd)
  rw [em]
  have nM : ¬ M b := fun z => rl1.fresh b hbn (rl1.sub b z)
  have hS : SDct X.K (fun c => F c ∨ c = b) (upd H1 b (.dK (kvOf ks vv))) (ks.map .str) vs b (kvOf ks vv) := by
    refine ⟨upd_same, kvOf_al z3 ((z2.more hbn).ext (M := NoM) (Ext.new hbn) fun _ z => z.elim), ?_, nd⟩
    unfold allS
    rw [Bool.and_eq_true]
    refine ⟨?_, ?_⟩
    · cases ks with
      | nil => simp at hc
      | cons _ _ => rfl
    · rw [List.all_map]
      exact List.all_eq_true.mpr fun _ _ => rfl
  exact p2 _ _ _ _ (Go.adopt rl1 hbn (Ext.new (M := NoM) hbn).exM hi hl) ((rl1.more (o := .dK (kvOf ks vv)) hbn (fun _ z => nomatch z)).adopt (oo := .dct (ks.map .str) vs) (.inr rfl) nM hS.r hl)
theorem Rel.ownDAt {K : PySem.W.Frag} {F M : AS} {env : En} {σ : SS} {H : Hp} (rl : Rel K F M env σ H) {i : Nat} {p : List D × List D} (h : ownD env i = some p) : ∃ a, env[i]? = some (Sl.own (.dct p.1 p.2)) ∧ σ[i]? = some (some (V.ref a)) ∧ M a ∧ DctR K F H p.1 p.2 a := by
  have h1 := ownD_of h
  obtain ⟨a, b, c, d⟩ := rl.own i _ h1
  exact ⟨a, h1, b, c, d⟩
theorem pg_subX (C : StOk T fa fd exc run n N W sc X) {i : Nat} {k : E} {x : Str} {px sp : Pos} {y : Expr} (hx : nameB N sc i x = true) (hy : plainIx y = true) (hk : PE X y (tE X.K exc W (globD T) run k)) : PG X (.Subscript (.Name x px) y sp) (gSub (tVar i) (tE X.K exc W (globD T) run k) (rSetX X.K)) :=
  pg_sub (PE.nameVar C.toCtxOk hx) hk (set_dict C.hu) (by intro v; cases y <;> first | rfl | cases hy)
theorem sim_setk (C : StOk T fa fd exc run n N W sc X) {i : Nat} {k e : E} {x : Str} {px sp pos : Pos} {y v : Expr} (hx : nameB N sc i x = true) (hy : plainIx y = true) (nk : isBor k = false) (ne : isBor e = false) (hv : isComp v = false)
    (he : PE X v (tE X.K exc W (globD T) run e)) (hk : PE X y (tE X.K exc W (globD T) run k)) : PS X (.Assign [.Subscript (.Name x px) y sp] v pos) (tS X.K exc W ps (globD T) run (.setk i k e)) := by
  refine (ps_asg he (pg_subX C hx hy hk) (sw_not hv) (by cases v <;> rfl) rfl).qimp fun D σ H q => ?_
  obtain ⟨F, M, env, rl, p⟩ := q
  simp only [evS] at p
  obtain ⟨l0, ql0, p⟩ := p.opt
  obtain ⟨a, _, hs, _, _⟩ := rl.ownDAt ql0
  refine ⟨F, M, env, rl, p.ofE (keepE e _ env rfl) fun d e1 u H1 _ ex1 rl1 hu hp1 p1 => ⟨_, hs, F, M, e1, rl1, p1.ofE (keepE k _ e1 rfl) fun kd e2 w H2 qq ex2 rl2 hw hp2 p2 => ?_⟩⟩
  clear qq
  obtain ⟨l, ql, p3⟩ := p2.opt
  obtain ⟨p', ep, p4⟩ := p3.opt
  obtain ⟨a', h1, hs', hM, hd⟩ := rl2.ownDAt ql
  rw [hs] at hs'
  cases hs'
  refine dput_ok (rl2.sub a hM) (show dPut l.1 l.2 kd d = some (p'.1, p'.2) from ep) hd (hw.vr nk) ((hu.vr ne).ext ex2.toExt rl1.sub) fun ho nt hor => ?_
  obtain ⟨r3, ex3⟩ := rl2.putO h1 hs nt hor
  exact p4 F M σ _ (Go.put h1 ex3) r3
def gSubs (K : PySem.W.Frag) (exc : Nat → Addr) (W : WX) (G : Nat → Option D) (run : Run) (i : Nat) : Es → TGs
  | .nil => gNil
  | .cons k ks => gCons (gSub (tVar i) (tE K exc W G run k) (rSetX K)) (gSubs K exc W G run i ks)
theorem sim_subs (C : StOk T fa fd exc run n N W sc X) {i : Nat} : ∀ (ks : Es) (ts : List Expr), chkSubs T N sc i ks ts = true → PGs X ts (gSubs X.K exc W (globD T) run i ks) ∧ (assignEach ts X.env).length = esLen ks ∧ (assignEach ts X.env).findIdx? (·.1) = none ∧ ks.noBor = true ∧ ts.length = esLen ks
  | .nil, [], _ => ⟨pgs_nil, rfl, rfl, rfl, rfl⟩
  | .nil, _ :: _, h => by simp only [chkSubs] at h; cases h
  | .cons _ _, [], h => by simp only [chkSubs] at h; cases h
  | .cons k ks, t :: ts, h => by
    cases t <;> try (simp only [chkSubs] at h; cases h; done)
    rename_i v y sp
    cases v <;> try (simp only [chkSubs] at h; cases h; done)
    simp only [chkSubs, Bool.and_eq_true] at h
    obtain ⟨q1, q2, q3, q4, q5⟩ := sim_subs C ks ts h.2.2
    refine ⟨pgs_cons (pg_subX C h.1.1 h.1.2 (simE k _ W sc X C.toCtxOk h.2.1.2).pe) q1 rfl, ?_, ?_, ?_, ?_⟩
    · rw [asE_cons rfl, List.length_cons, q2]; rfl
    · rw [asE_cons rfl, List.findIdx?_cons, q3]; rfl
    · simp only [Es.noBor, Bool.and_eq_true]; exact ⟨h.2.1.1, q4⟩
    · rw [List.length_cons, q5]; rfl
theorem setks_ok {K : PySem.W.Frag} {i : Nat} : ∀ (ks : Es) (xs : List D) (vs : List V) (env : En) (F M : AS) (σ : SS) (H : Hp) (D : Ends), Rel K F M env σ H → VRs K F H xs vs → ks.noBor = true → PostS K exc W ps F M env σ H (evSetks (globD T) run i ks xs env) D →
    gSubs K exc W (globD T) run i ks vs σ H D.nx
  | .nil, [], vs, env, F, M, σ, H, D, rl, hv, nb, p => by
    rw [VRs.nil_iff.mp hv]
    exact ⟨rfl, p F M σ H (Go.expr (Ex.refl _ _) rfl) rl⟩
  | .nil, _ :: _, vs, env, F, M, σ, H, D, rl, hv, nb, p => p.elim
  | .cons _ _, [], vs, env, F, M, σ, H, D, rl, hv, nb, p => p.elim
  | .cons k ks, x :: xs, vs, env, F, M, σ, H, D, rl, hv, nb, p => by
    obtain ⟨v, r, rfl, hv1, hv2⟩ := hv.cons_inv
    simp only [Es.noBor, Bool.and_eq_true] at nb
    unfold evSetks at p
    obtain ⟨l0, ql0, p⟩ := p.opt
    obtain ⟨a, _, hs, _, _⟩ := rl.ownDAt ql0
    refine ⟨v, r, rfl, _, hs, F, M, env, rl, p.ofE (keepE k _ env rfl) fun kd e2 w H2 qq ex2 rl2 hw hp2 p2 => ?_⟩
    clear qq
    obtain ⟨l, ql, p3⟩ := p2.opt
    obtain ⟨p', ep, p4⟩ := p3.opt
    obtain ⟨a', h1, hs', hM, hd⟩ := rl2.ownDAt ql
    rw [hs] at hs'
    cases hs'
    refine dput_ok (rl2.sub a hM) (show dPut l.1 l.2 kd x = some (p'.1, p'.2) from ep) hd (hw.vr (isB nb.1)) (hv1.ext ex2.toExt rl.sub) fun ho nt hor => ?_
    obtain ⟨r3, ex3⟩ := rl2.putO h1 hs nt hor
    exact setks_ok ks xs r _ F M σ _ D r3 ((hv2.ext ex2.toExt rl.sub).ext ex3.toExt rl2.sub) nb.2 (p4.go (Go.put h1 ex3))
theorem sim_setks (C : StOk T fa fd exc run n N W sc X) {i : Nat} {ks es : Es} {ts vs : List Expr} {k1 k2 : Nat} {p1 p2 pos : Pos} (ht : chkSubs T N sc i ks ts = true) (h0 : ts ≠ []) (nb : es.noBor = true) (he : PA X vs (tEs X.K exc W (globD T) run es)) :
    PS X (.Assign [.Tuple ts k1 p1] (.Tuple vs k2 p2) pos) (tS X.K exc W ps (globD T) run (.setks i ks es)) := by
  obtain ⟨g1, g2, g3, g4, g5⟩ := sim_subs C ks ts ht
  have hsw : noSw sc (.Tuple ts k1 p1) (.Tuple vs k2 p2) = true := by
    cases ts with
    | nil => exact absurd rfl h0
    | cons t ts =>
      have : noLoc sc t = true := by
        cases ks with
        | nil => simp only [chkSubs] at ht; cases ht
        | cons k ks => cases t <;> first | rfl | (simp only [chkSubs] at ht; cases ht)
      simp only [noSw, List.any_cons, this, Bool.true_or, Bool.or_true]
  refine (ps_asg (pe_tup he) (pg_tup C.calm g1 g2 g3) rfl (swp_not C.sc hsw) (by
    rw [asE_cons rfl]; rfl)).qimp fun D σ H q => ?_
  obtain ⟨F, M, env, rl, p⟩ := q
  simp only [evS] at p
  refine ⟨F, M, env, rl, p.ofE (keepEs es _ env rfl) fun l e1 ws H1 _ ex1 rl1 hw hp1 p1 => ?_⟩
  split at p1
  case isFalse => exact p1.elim
  rename_i hl
  simp only [Bool.and_eq_true, decide_eq_true_eq] at hl
  have hws := VXs.vrs nb hw
  refine ⟨by rw [← hws.len]; exact big_line hl.1, fun a ha => ?_⟩
  have e0 : Ex M H1 (upd H1 a (.tup ws)) := (Ext.new (M := NoM) ha).exM
  exact ⟨a, ws, rfl, .of upd_same, by rw [← hws.len]; exact hl.2, setks_ok ks l ws e1 F M σ _ _ (rl1.ext (Ext.new (M := NoM) ha).ex) (hws.ext (M := NoM) (Ext.new ha) fun _ z => z.elim) g4 (p1.go (Go.expr e0 rfl))⟩
theorem sim_ite (C : StOk T fa fd exc run n N W sc X) {t : E} {a b : Ss} {c : Expr} {x y : List Stmt} {pos : Pos} (ht : PT X c (tT X.K exc W (globD T) run t)) (ha : PSs X x (tSs X.K exc W ps (globD T) run a)) (hb : PSs X y (tSs X.K exc W ps (globD T) run b)) : PS X (.If c x y pos) (tS X.K exc W ps (globD T) run (.ite t a b)) := by
  refine (ps_if ht ha hb).qimp fun D σ H q => ?_
  obtain ⟨F, M, env, rl, p⟩ := q
  simp only [evS] at p
  refine ⟨F, M, env, rl, p.ofE ((keepE t _ env rfl).bind fun d e1 h1 => by cases d <;> first | exact h1 | trivial) fun d e1 u H1 _ ex1 rl1 hu hp1 p1 => ?_⟩
  subst hu
  cases d with
  | true => exact ⟨F, M, e1, rl1, p1⟩
  | false => exact ⟨F, M, e1, rl1, p1⟩
theorem sim_for (C : StOk T fa fd exc run n N W sc X) {it : It} {g : Tg} {b : Ss} {tg iter : Expr} {body : List Stmt} {pos : Pos} (hi : PI X tg iter (tI X.K exc W (globD T) run it)) (hs : noSet iter = true) (hg : chkTg T N sc g tg = true) (hb : PSs X body (tSs X.K exc W ps (globD T) run b)) :
    PS X (.For tg iter body [] pos) (tS X.K exc W ps (globD T) run (.for it g b)) := by
  have hN : X.N.Nodup := by rw [C.nm]; exact C.nd
  refine (ps_for C.pass C.calm hi (sim_tg hN C.calm C.st g tg hg) hb (noSet_fold hs)).qimp fun D σ H q => ?_
  obtain ⟨F, M, env, rl, p⟩ := q
  simp only [evS] at p
  refine ⟨F, M, env, rl, p.ofE (keepIt it _ env rfl) fun items e1 J H1 _ ex1 rl1 hy hp1 p1 => ?_⟩
  refine ⟨fun i m σ' H' => ∃ rest env' F' M', rest = items.drop i ∧ i + rest.length = items.length ∧ m = rest.length ∧ Rel X.K F' M' env' σ' H' ∧ Go ps F M e1 σ H1 F' M' env' σ' H' ∧ PostS X.K exc W ps F' M' env' σ' H' (forS (asgT g) (evSs (globD T) run b) rest env') D,
    ⟨items.length, items, e1, F, M, rfl, by omega, rfl, rl1, Go.expr (Ex.refl _ _) rfl, p1⟩, fun i m σ' H' w => ?_⟩
  obtain ⟨rest, env', F', M', e1', e2', rfl, rl', go', p'⟩ := w
  obtain ⟨yl, ys⟩ := hy F' H' go'.new (go'.ex.mono fun a z => go'.sub a (rl1.sub a z)) rl'.there
  cases rest with
  | nil =>
    simp only [List.length_nil, Nat.add_zero] at e2'
    subst e2'
    exact .inl ⟨ys, p' F' M' σ' H' (Go.expr (Ex.refl _ _) rfl) rl'⟩
  | cons x xs =>
    have hi : items[i]? = some x := by
      rw [← List.head?_drop, ← e1']; rfl
    have hxs : xs = items.drop (i + 1) := by
      rw [← List.tail_drop, ← e1']; rfl
    obtain ⟨go, yld⟩ := yl i x hi
    refine .inr ⟨go, fun σ'' H'' => ∃ env'' F'' M'', Rel X.K F'' M'' env'' σ'' H'' ∧ Go ps F M e1 σ H1 F'' M'' env'' σ'' H'' ∧ PostS X.K exc W ps F'' M'' env'' σ'' H'' (forS (asgT g) (evSs (globD T) run b) xs env'') D,
      fun σ'' H'' ⟨env'', F'', M'', a, b, c⟩ => ⟨xs.length, by simp, xs, env'', F'', M'', hxs, by simp only [List.length_cons] at e2'; omega, rfl, a, b, c⟩, fun v H2 y => ?_⟩
    obtain ⟨ex2, hv⟩ := yld v H2 y
    have g2 : Go ps F' M' env' σ' H' F' M' env' σ' H2 := Go.expr (ex2.mono fun _ z => z.elim) rfl
    unfold forS at p'
    cases q3 : asgT g x env' with
    | none => rw [q3] at p'; exact p'.elim
    | some e2 =>
      rw [q3] at p'
      refine asg_ok g x env' e2 v σ' _ q3 (rl'.ext ex2) hv fun σ2 rl3 hold _ => ?_
      have g3 : Go ps F' M' env' σ' H' F' M' e2 σ2 H2 := g2.trans (Go.asg (asgT_pat g x env' e2 q3) hold)
      refine ⟨F', M', e2, rl3, PostS.next (p'.go g3) fun env1 F1 M1 σ1 H1 _ g4 rl4 p4 => ⟨env1, F1, M1, rl4, (go'.trans g3).trans g4, p4⟩⟩
/-! ### all together -/
theorem sim_lcs (C : StOk T fa fd exc run n N W sc X) {g : Tg} {own : List Nat} {it : It} {g1 : Tg} {t : Oe} {x : E} {y : Str} {py : Pos} {elt tg iter : Expr} {ifs : List Expr} {a : Int} {scope : Scope} {vp pos : Pos} (hg : chkTg T N sc g (.Name y py) = true) (hs : setLc sc y py vp scope = true)
    (h : chkE T N sc (.lc own it g1 t x) (.ListComp elt [⟨tg, iter, ifs, a⟩] scope vp) = true) : PS X (.Assign [.Name y py] (.ListComp elt [⟨tg, iter, ifs, a⟩] scope vp) pos) (tAsg (tE X.K exc W (globD T) run (.lc own it g1 t x)) (tgT X.K g)) := by
  simp only [chkE, Bool.and_eq_true, decide_eq_true_eq] at h
  obtain ⟨⟨ha, h1, h2⟩, h3, ⟨⟨h4, h5⟩, h6⟩, h7, h8, h9⟩ := h
  subst ha
  have B : BlkOk X.N X.env.scope scope (own.filterMap fun i => (N[i]?).map fun x => (x, i)) := by rw [C.nm, C.sc]; exact blkOk_by (blkD_c h3)
  have hN : X.N.Nodup := by rw [C.nm]; exact C.nd
  cases g with
  | tp gs => simp only [chkTg] at hg; cases hg
  | nm i =>
    simp only [chkTg] at hg
    obtain ⟨n1, n2, n3⟩ := C.st i y hg
    unfold setLc at hs
    simp only [Bool.and_eq_true, Bool.not_eq_true'] at hs
    have ky := C.kd hs.1.1
    refine (ps_setLc (g := tgT X.K g1) (wi := tI X.K exc W (globD T) run it) (tt := tOT X.K exc W0 (globD T) run t) (te := tE X.K exc W0 (globD T) run x) C.calm hN n1 ky ?_ (simIt it _ tg W sc X C.toCtxOk h2) B
      (fun s H c cl fp => sim_tg (X := X.blk s H scope (compEnvC scope cl c X.env) fp) (T := T) (sc := scope) hN C.calm (StoreOk.blk scope C.nm s H c cl fp) g1 tg h7)
      (fun s H c cl fp => simT t ifs W0 (relS scope sc) _ (C.toCtxOk.blk (blkD_n h3) s H c cl fp) h9) (fun s H c cl fp => (simE x elt W0 (relS scope sc) _ (C.toCtxOk.blk (blkD_n h3) s H c cl fp) h8).pe) (noSet_fold h5)).qimp fun D σ H q => ?_
    · unfold swapsWith
      have e1 : (X.env.blockKind == ScopeKind.function) = true := by rw [C.bk]; rfl
      have e2 : (X.env.kindOf y == some NameKind.local) = true := by show (X.env.scope.names.lookup y == some NameKind.local) = true; rw [ky]; rfl
      have e3 : (py.line == (Expr.ListComp elt [⟨tg, iter, ifs, 0⟩] scope vp).pos.line) = true := hs.1.2
      have e4 : (scope.names.any fun (n, k) => n == y && (k == .local || k == .cell)) = false := hs.2
      simp only [pure_bind, e1, e2, e3, e4, Bool.and_self, Bool.not_false, Bool.and_true]
    · obtain ⟨F, M, env, rl, p⟩ := q
      rw [h4]
      have q3 := lc_loop (own := own) (it := it) (g := g1) (t := t) (e := x) (by
        intro i hi
        have := List.all_eq_true.mp h6 i hi
        exact List.contains_iff_mem.mp this) (isB h1) rl p
      simp only [tgT] at q3
      exact q3
end
end Qh

/-! Statements as a whole; defs. -/
namespace Qh
open PySem PySem.Spec PyProof.Rows L2 PySem.W
section
variable {T : Tab} {fa : Nat → Addr} {fd : Nat → FuncData} {exc : Nat → Addr} {run : Run} {n : Nat} {N : List Str} {W : WX} {sc : Scope} {X : Cx} {ps : Nat}
theorem sw_lc (C : StOk T fa fd exc run n N W sc X) {y : Str} {py : Pos} {elt : Expr} {gens : List Comprehension} {scope : Scope} {vp : Pos} {l : Nat} (hs : setLc sc y py vp scope = false) : swapsWithSole [.Name y py] (.ListComp elt gens scope vp) l X.env = pure false := by
  show swapsWith (.ListComp elt gens scope vp) (some (.Name y py)) l X.env = pure false
  unfold swapsWith
  have e1 : (X.env.blockKind == ScopeKind.function) = true := by rw [C.bk]; rfl
  have e2 : (X.env.kindOf y == some NameKind.local) = locals2 sc y := by
    show (X.env.scope.names.lookup y == some NameKind.local) = _
    rw [C.sc]
    unfold locals2
    cases sc.names.lookup y with
    | none => rfl
    | some k => cases k <;> rfl
  have e3 : (py.line == (Expr.ListComp elt gens scope vp).pos.line) = (py.line == vp.line) := rfl
  unfold setLc at hs
  simp only [pure_bind, e1, e2, e3, Bool.true_and]
  exact congrArg pure hs
theorem noSw_lc {tg : Expr} {g : Tg} (hg : chkTg T N sc g tg = true) {elt : Expr} {gens : List Comprehension} {scope : Scope} {vp : Pos} : noSw sc tg (.ListComp elt gens scope vp) = true := by
  cases tg <;> first | rfl | (cases g <;> simp only [chkTg] at hg <;> cases hg)
theorem lc_form {m : E} {elt : Expr} {gens : List Comprehension} {scope : Scope} {vp : Pos} (h : chkE T N sc m (.ListComp elt gens scope vp) = true) :
    (∃ own it g t x tg iter ifs a, m = .lc own it g t x ∧ gens = [⟨tg, iter, ifs, a⟩]) ∨ ∃ own own1 it g it2 g2 x tg iter tg1 iter1 a a1, m = .lc2 own own1 it g it2 g2 x ∧ gens = [⟨tg, iter, [], a⟩, ⟨tg1, iter1, [], a1⟩] := by
  cases m <;> try (first | (simp only [chkE] at h; done) | (simp only [chkE] at h; cases h; done))
  · rename_i own it g t x
    rcases gens with _ | ⟨⟨tg, iter, ifs, a⟩, _ | ⟨g2, gs⟩⟩ <;> try (first | (simp only [chkE] at h; done) | (simp only [chkE] at h; cases h; done))
    exact .inl ⟨own, it, g, t, x, tg, iter, ifs, a, rfl, rfl⟩
  · rename_i own own1 it g it2 g2 x
    rcases gens with _ | ⟨⟨tg, iter, ifs, a⟩, _ | ⟨⟨tg1, iter1, ifs1, a1⟩, _ | ⟨_, _⟩⟩⟩ <;> try (first | (simp only [chkE] at h; done) | (simp only [chkE] at h; cases h; done))
    cases ifs <;> cases ifs1 <;> try (first | (simp only [chkE] at h; done) | (simp only [chkE] at h; cases h; done))
    exact .inr ⟨own, own1, it, g, it2, g2, x, tg, iter, tg1, iter1, a, a1, rfl, rfl⟩
theorem sim_lcs2 (C : StOk T fa fd exc run n N W sc X) {g : Tg} {own own1 : List Nat} {it it2 : It} {g1 g2 : Tg} {x : E} {y : Str} {py : Pos} {elt tg iter tg1 iter1 : Expr} {a a1 : Int} {scope : Scope} {vp pos : Pos} (hg : chkTg T N sc g (.Name y py) = true) (hs : setLc sc y py vp scope = true)
    (h : chkE T N sc (.lc2 own own1 it g1 it2 g2 x) (.ListComp elt [⟨tg, iter, [], a⟩, ⟨tg1, iter1, [], a1⟩] scope vp) = true) : PS X (.Assign [.Name y py] (.ListComp elt [⟨tg, iter, [], a⟩, ⟨tg1, iter1, [], a1⟩] scope vp) pos) (tAsg (tE X.K exc W (globD T) run (.lc2 own own1 it g1 it2 g2 x)) (tgT X.K g)) := by
  simp only [chkE, Bool.and_eq_true, decide_eq_true_eq] at h
  obtain ⟨⟨⟨ha, ha1⟩, h1, h2⟩, h3, ⟨⟨h4, h5, h5'⟩, h6, h6', h6''⟩, ⟨h7, h7'⟩, h8, h9⟩ := h
  subst ha ha1
  have mem : ∀ {a b : List Nat}, (a.all fun i => b.contains i) = true → ∀ i ∈ a, i ∈ b := fun q i hi => List.contains_iff_mem.mp (List.all_eq_true.mp q i hi)
  have B : BlkOk X.N X.env.scope scope (own.filterMap fun i => (N[i]?).map fun x => (x, i)) := by rw [C.nm, C.sc]; exact blkOk_by (blkD_c h3)
  have hN : X.N.Nodup := by rw [C.nm]; exact C.nd
  cases g with
  | tp gs => simp only [chkTg] at hg; cases hg
  | nm i =>
    simp only [chkTg] at hg
    obtain ⟨n1, n2, n3⟩ := C.st i y hg
    unfold setLc at hs
    simp only [Bool.and_eq_true, Bool.not_eq_true'] at hs
    have ky := C.kd hs.1.1
    refine (ps_setLc2 (vs1 := own1) (g := tgT X.K g1) (g1 := tgT X.K g2) (te := tE X.K exc W0 (globD T) run x) (wi := tI X.K exc W (globD T) run it) (wi1 := tI X.K exc W0 (globD T) run it2) C.calm hN n1 ky ?_ (simIt it _ tg W sc X C.toCtxOk h2) B (by rw [h4]; exact mem h6'')
      (fun s H c cl fp => sim_tg (X := X.blk s H scope (compEnvC scope cl c X.env) fp) (T := T) (sc := scope) hN C.calm (StoreOk.blk scope C.nm s H c cl fp) g1 tg h7) (fun s H c cl fp => pts_nil)
      (fun s H c cl fp => simIt it2 iter1 tg1 W0 (relS scope sc) _ (C.toCtxOk.blk (blkD_n h3) s H c cl fp) h9) (fun s H c cl fp => sim_tg (X := X.blk s H scope (compEnvC scope cl c X.env) fp) (T := T) (sc := scope) hN C.calm (StoreOk.blk scope C.nm s H c cl fp) g2 tg1 h7') (fun s H c cl fp => pts_nil)
      (fun s H c cl fp => (simE x elt W0 (relS scope sc) _ (C.toCtxOk.blk (blkD_n h3) s H c cl fp) h8).pe) (noSet_fold h5) (fun env => noSet_fold h5')).qimp fun D σ H q => ?_
    · unfold swapsWith
      have e1 : (X.env.blockKind == ScopeKind.function) = true := by rw [C.bk]; rfl
      have e2 : (X.env.kindOf y == some NameKind.local) = true := by show (X.env.scope.names.lookup y == some NameKind.local) = true; rw [ky]; rfl
      have e3 : (py.line == (Expr.ListComp elt [⟨tg, iter, [], 0⟩, ⟨tg1, iter1, [], 0⟩] scope vp).pos.line) = true := hs.1.2
      have e4 : (scope.names.any fun (n, k) => n == y && (k == .local || k == .cell)) = false := hs.2
      simp only [pure_bind, e1, e2, e3, e4, Bool.and_self, Bool.not_false, Bool.and_true]
    · obtain ⟨F, M, env, rl, p⟩ := q
      rw [h4]
      have q3 := lc2_loop (mem h6) (mem h6') (mem h6'') (isB h1) rl p
      simp only [tgT] at q3
      exact q3
theorem ps_bad {K : PySem.W.Frag} {G : Nat → Option D} {s : Stmt} : PS X s (tS K exc W ps G run .bad) := ps_never.qimp fun D σ H q => by
  obtain ⟨F, M, env, rl, p⟩ := q
  simp only [evS] at p
  exact p
theorem sim_asgL (C : StOk T fa fd exc run n N W sc X) {g : Tg} {e : E} {s : Stmt} (h : chkAsg T N sc g e s = true) : isBor e = false ∧ PS X s (tAsg (tE X.K exc W (globD T) run e) (tgT X.K g)) := by
  unfold chkAsg at h
  split at h
  case h_2 => cases h
  rename_i tg v pos
  simp only [Bool.and_eq_true] at h
  obtain ⟨hg, nb, he, hs⟩ := h
  refine ⟨isB nb, ?_⟩
  have hN : X.N.Nodup := by rw [C.nm]; exact C.nd
  have pe := (simE e v W sc X C.toCtxOk he).pe
  by_cases hc : isComp v = true
  · cases v <;> first | (cases hc; done) | (cases hs; done) | skip
    rename_i elt gens scope vp
    by_cases hn : ∃ y py, tg = .Name y py ∧ setLc sc y py vp scope = true
    · obtain ⟨y, py, rfl, hset⟩ := hn
      rcases lc_form he with ⟨own, it, g1, t, x, tg', iter, ifs, a, rfl, rfl⟩ | ⟨own, own1, it, g1, it2, g2, x, tg', iter, tg1, iter1, a, a1, rfl, rfl⟩
      · exact sim_lcs C hg hset he
      · exact sim_lcs2 C hg hset he
    · refine (ps_asg pe (sim_tg hN C.calm C.st g tg hg) ?_ (swp_not C.sc (noSw_lc hg)) (asE_one hg))
      cases tg <;> try rfl
      rename_i y py
      refine sw_lc C ?_
      cases q : setLc sc y py vp scope with
      | false => rfl
      | true => exact absurd ⟨y, py, rfl, q⟩ hn
  · have hc : isComp v = false := by cases q : isComp v <;> simp_all
    refine sim_asg C (isB nb) hg pe hc ?_
    cases v <;> first | exact hs | (cases hc; done)
mutual
theorem simS (C : StOk T fa fd exc run n N W sc X) : ∀ (m : S) (s : Stmt), chkS T N ps sc m s = true → PS X s (tS X.K exc W ps (globD T) run m)
  | .bad, s, h => ps_bad
  | .skip, s, h => by
    simp only [chkS] at h
    unfold isPass at h
    split at h
    · refine ps_pass.qimp fun D σ H q => ?_
      obtain ⟨F, M, env, rl, p⟩ := q
      simp only [evS] at p
      exact p F M σ H (Go.expr (Ex.refl _ _) rfl) rl
    · cases h
  | .asg g e, s, h => by
    simp only [chkS] at h
    obtain ⟨nb, q⟩ := sim_asgL C h
    exact q.qimp fun D σ H z => asg_core nb z
  | .over i e, s, h => by
    simp only [chkS] at h
    unfold chkOver at h
    simp only [Bool.and_eq_true, decide_eq_true_eq] at h
    obtain ⟨nb, q⟩ := sim_asgL C h.1
    exact q.qimp fun D σ H z => over_core h.2 nb z
  | .own i es, s, h => by
    simp only [chkS] at h
    unfold chkOwn at h
    split at h
    · simp only [Bool.and_eq_true, decide_eq_true_eq] at h
      exact sim_own C h.1 h.2.1 h.2.2.1 (simEs es _ W sc X C.toCtxOk h.2.2.2)
    · cases h
  | .par gs r, s, h => by
    simp only [chkS] at h
    unfold chkPar at h
    split at h
    · simp only [Bool.and_eq_true, Bool.or_eq_true] at h
      rcases h.1.1 with hs | hs
      · exact sim_par C hs h.1.2 h.2
      · exact sim_parT C (noSw_any hs.1) h.1.2 h.2 (of_decide_eq_true hs.2.1) (of_decide_eq_true hs.2.2)
    · cases h
  | .setix i k e, s, h => by
    simp only [chkS] at h
    unfold chkSetix at h
    split at h
    · simp only [Bool.and_eq_true, Bool.not_eq_true'] at h
      exact sim_setix C h.1.1 h.1.2 h.2.1.1 h.2.1.2 h.2.2.1.1 (simE e _ W sc X C.toCtxOk h.2.2.1.2).pe (simE k _ W sc X C.toCtxOk h.2.2.2).pe
    · cases h
  | .fld c i f e, s, h => by
    simp only [chkS] at h
    unfold chkFldS at h
    split at h
    · simp only [Bool.and_eq_true, Bool.not_eq_true', decide_eq_true_eq] at h
      obtain ⟨⟨h1, h2, h3⟩, h4, h5, h6⟩ := h
      subst h2
      exact sim_sfld C h1 h3 h4 h5 (simE e _ W sc X C.toCtxOk h6).pe
    · cases h
  | .raise c, s, h => by
    simp only [chkS] at h
    unfold chkRaise at h
    split at h
    · simp only [Bool.and_eq_true, decide_eq_true_eq] at h
      exact sim_raise C h.1 h.2
    · cases h
  | .ownd i, s, h => by
    simp only [chkS] at h
    unfold chkOwnd at h
    split at h
    · simp only [Bool.and_eq_true, decide_eq_true_eq] at h
      exact sim_ownd C h.1 h.2
    · cases h
  | .ownp i e, s, h => by
    simp only [chkS] at h
    unfold chkOwnp at h
    split at h
    · simp only [Bool.and_eq_true, decide_eq_true_eq] at h
      exact sim_ownp C h.1.1 h.1.2 h.2.1.1 h.2.1.2.1 h.2.1.2.2 (isB h.2.2.1) (chkE_noStar h.2.2.2) (simE e _ W sc X C.toCtxOk h.2.2.2).pe
    · cases h
  | .setk i k e, s, h => by
    simp only [chkS] at h
    unfold chkSetix at h
    split at h
    · simp only [Bool.and_eq_true, Bool.not_eq_true'] at h
      exact sim_setk C h.1.1 h.1.2 h.2.1.1 h.2.1.2 h.2.2.1.1 (simE e _ W sc X C.toCtxOk h.2.2.1.2).pe (simE k _ W sc X C.toCtxOk h.2.2.2).pe
    · cases h
  | .setks i ks es, s, h => by
    simp only [chkS] at h
    unfold chkSetks at h
    split at h
    · simp only [Bool.and_eq_true, Bool.not_eq_true'] at h
      exact sim_setks C h.1.1 (fun z => by rw [z] at h; cases h.1.2) h.2.1 (simEs es _ W sc X C.toCtxOk h.2.2)
    · cases h
  | .app i e, s, h => by
    simp only [chkS] at h
    unfold chkMeth at h
    split at h
    · simp only [Bool.and_eq_true, decide_eq_true_eq] at h
      exact sim_app C h.1.1 h.1.2.1 h.1.2.2 (isB h.2.1) (chkE_noStar h.2.2) (simE e _ W sc X C.toCtxOk h.2.2).pe
    · cases h
  | .ext i e, s, h => by
    simp only [chkS] at h
    unfold chkMeth at h
    split at h
    · simp only [Bool.and_eq_true, decide_eq_true_eq] at h
      exact sim_ext C h.1.1 h.1.2.1 h.1.2.2 (isB h.2.1) (chkE_noStar h.2.2) (simE e _ W sc X C.toCtxOk h.2.2).pe
    · cases h
  | .ex e, s, h => by
    simp only [chkS] at h
    unfold chkEx at h
    split at h
    · simp only [Bool.and_eq_true, Bool.not_eq_true'] at h
      exact sim_ex C h.2.1 (simE e _ W sc X C.toCtxOk h.2.2).pe
    · cases h
  | .ite t a b, s, h => by
    simp only [chkS] at h
    split at h
    · rename_i c x y q
      unfold ifParts at q
      split at q
      · cases q
        simp only [Bool.and_eq_true] at h
        exact sim_ite C ((simE t _ W sc X C.toCtxOk h.1.2).pt (isB h.1.1)) (simSs C a _ h.2.1) (simSs C b _ h.2.2)
      · cases q
    · cases h
  | .for it g b, s, h => by
    simp only [chkS] at h
    split at h
    · rename_i tg iter body q
      unfold forParts at q
      split at q
      · cases q
        simp only [Bool.and_eq_true] at h
        exact sim_for C (simIt it _ tg W sc X C.toCtxOk h.1.1) h.1.2 h.2.1 (simSs C b _ h.2.2)
      · cases q
    · cases h
  | .ret e, s, h => by
    simp only [chkS] at h
    unfold chkRet at h
    split at h
    · simp only [Bool.and_eq_true] at h
      exact sim_ret C (isB h.1) (simE e _ W sc X C.toCtxOk h.2).pe
    · cases h
  | .retn, s, h => by
    simp only [chkS] at h
    unfold chkRetn at h
    split at h
    · exact sim_retn
    · cases h
  | .reto i, s, h => by
    simp only [chkS] at h
    unfold chkReto at h
    split at h
    · simp only [Bool.and_eq_true, decide_eq_true_eq] at h
      exact sim_reto C h.1 h.2
    · cases h
theorem simSs (C : StOk T fa fd exc run n N W sc X) : ∀ (m : Ss) (s : List Stmt), chkSs T N ps sc m s = true → PSs X s (tSs X.K exc W ps (globD T) run m)
  | .nil, [], h => by
    refine pss_nil.qimp fun D σ H q => ?_
    obtain ⟨F, M, env, rl, p⟩ := q
    simp only [evSs] at p
    exact p F M σ H (Go.expr (Ex.refl _ _) rfl) rl
  | .nil, _ :: _, h => by simp only [chkSs] at h; cases h
  | .cons m r, [], h => by simp only [chkSs] at h; cases h
  | .cons m r, s :: ss, h => by
    simp only [chkSs, Bool.and_eq_true] at h
    refine (pss_cons (simS C m s h.1) (simSs C r ss h.2)).qimp fun D σ H q => ?_
    obtain ⟨F, M, env, rl, p⟩ := q
    simp only [evSs] at p
    exact ⟨F, M, env, rl, PostS.next p fun env1 F1 M1 σ1 H1 _ g rl1 p1 => ⟨F1, M1, env1, rl1, p1⟩⟩
end
end

/-! ### defs -/
section
variable {P : Program} {w : World} {K : PySem.W.Frag} {mg : Str → Option Value} {base : Heap} {CX : CXT} {f : Addr} {x qual : Str} {pa : Arguments} {bd : List Stmt} {sc : Scope} {dvs : List V} {kws : List (Str × V)} {fd : FuncData} {N ps : List Str} {k : Nat} {sp : Sp}
/-- a def whose body may also lean on the room of its caller -/
theorem def_room (F : FunD K x qual pa bd sc dvs kws f fd) (S : FnScope N ps sc) (len : ∀ vs H Q E, sp vs H Q E → vs.length = ps.length)
    (go : ∀ (cd : Value) (A : Around) (outer : List Env) (s : Shared) (H : Hp) (vs : List V) (Q : VK) (E : XK), Room (k + 1) A → fd.code = cd → sp vs H Q E → ∃ t, PSs (cxOf CX P w K mg base N qual sc f cd A outer s H E) bd t ∧ t { nx := fun _ H' => Q .non H', rt := Q } (start N vs) H) : FnOk P w K mg base CX (k + 1) f fd ps sp := by
  obtain ⟨c0, d0, dV, kV, dc, pm, an, cd, ct, sl, rfl, at_, code, -, -⟩ := F.ex
  constructor
  · exact len
  intro A outer s H args us vs Q E room e0 bnd rel h
  have kin : K.In s.heap := e0.mod.kin.keeps fun b o e => (e0.bs b o e).1
  have nol : s.heap.NoLimit := e0.mod.nolimit.keeps fun b o e => (e0.bs b o e).1
  refine codeAny_call_function room.depth (kin _ _ at_) rfl S.co S.gen rfl (PySem.W.codeRec_of kin code) (bnd _ _ _ _ (wpAny_newFunctionEnv_cells S.kind (fun y hy => ?_) fun env he s1 z => ?_))
  · obtain ⟨yn, yv⟩ := y
    rcases S.par yn (List.of_mem_zip hy).1 with q | q
    · exact Or.inl q
    · exact Or.inr ⟨q, PySem.W.cellsFrom_some _ _ _ (Or.inl q)⟩
  · subst he
    obtain ⟨t, ht, hq⟩ := go cd A outer s H vs Q E room rfl h
    have inv : Inv (cxOf CX P w K mg base N qual sc f cd A outer s H E) [] (start N vs) H s1 := inv_start S room.hd e0 (len _ _ _ _ h) rel z
    refine ⟨nol.keeps z.toInCall.keep, codeAny_func (wpAny_mono (ht.run [] s1 (start N vs) H _ inv hq) (fun fl s' hs => ?_) fun _ _ he => he)⟩
    cases fl
    case ret u => exact hs.elim fun v ⟨σ', H', J, rv, q⟩ => ⟨v, H', J.os, J.bare, J.base, J.hok, rv, q⟩
    case next => exact hs.elim fun σ' ⟨H', J, q⟩ => ⟨V.non, H', J.os, J.bare, J.base, J.hok, rfl, q⟩
    all_goals
      obtain ⟨_, _, _, q⟩ := hs
      exact q.elim
end
def scOk (N P : List Str) (sc : Scope) : Bool := (match sc.kind with | .function => true | _ => false) && (!sc.isCoroutine && (!sc.isGenerator && (decide N.Nodup && (decide (N.take P.length = P) && ((P.all fun x => match sc.names.lookup x with | some .local => true | some .cell => true | _ => false) && sc.names.all fun y => match y.2 with | .free => false | _ => true)))))
theorem scOk_ok {N P : List Str} {sc : Scope} (h : scOk N P sc = true) : FnScope N P sc := by
  unfold scOk at h
  simp only [Bool.and_eq_true, Bool.not_eq_true', decide_eq_true_eq, List.all_eq_true] at h
  obtain ⟨h1, h2, h3, h4, h5, h6, h7⟩ := h
  refine ⟨?_, h2, h3, h4, h5, fun x hx => ?_, fun y hy e => ?_⟩
  · split at h1
    · assumption
    · cases h1
  · have q := h6 x hx
    split at q
    · rename_i e; exact .inl e
    · rename_i e; exact .inr e
    · cases q
  · have q := h7 y hy
    rw [e] at q
    cases q
/-- a mini def against the text's def -/
def chkFn (T : Tab) (i : FnI) (fn : Fn) (st : Stmt) : Bool := (scOk i.N (i.N.take i.ps) (defScope st) && (decide (fn.ps = i.ps) && (decide (fn.n = i.N.length) && decide (i.ps ≤ i.N.length)))) && chkSs T i.N i.ps (defScope st) fn.body (defBody st)
theorem outs_rel {K : PySem.W.Frag} {ps : Nat} {F M F' M' : AS} {xs : List Sl} {vs : List V} {pad : List (Option V)} {padE : List Sl} {env' : En} {σ' : SS} {H H' : Hp} (hps : xs.length = ps) (r : Rel K F M xs (vs.map some) H) (g : Go ps F M (xs ++ padE) (vs.map some ++ pad) H F' M' env' σ' H') (r' : Rel K F' M' env' σ' H')
    (hl : ps ≤ env'.length) : Rel K F M (outs xs env') (vs.map some) H' := by
  have hlen : vs.length = ps := by have := r.len; rw [List.length_map] at this; omega
  have at_ : ∀ (i : Nat) (s : Sl), (outs xs env')[i]? = some s → ∃ x e, xs[i]? = some x ∧ env'[i]? = some e ∧ s = if x.isOwn then e else x := fun i s h => by
    unfold outs at h
    rw [List.getElem?_zipWith] at h
    cases q : xs[i]? with
    | none => rw [q] at h; cases q2 : env'[i]? <;> rw [q2] at h <;> cases h
    | some x =>
      cases q2 : env'[i]? with
      | none => rw [q, q2] at h; cases h
      | some e =>
        rw [q, q2] at h
        exact ⟨x, e, rfl, rfl, (Option.some.inj h).symm⟩
  have app : ∀ (i : Nat) (x : Sl), xs[i]? = some x → i < ps ∧ (xs ++ padE)[i]? = some x ∧ (vs.map some ++ pad)[i]? = (vs.map some)[i]? := fun i x h => by
    have h1 := (List.getElem?_eq_some_iff.mp h).1
    exact ⟨by omega, by rw [List.getElem?_append_left h1]; exact h, by rw [List.getElem?_append_left (by rw [List.length_map]; omega)]⟩
  have own : ∀ (i : Nat) (o : O), (outs xs env')[i]? = some (.own o) → (∃ o0, xs[i]? = some (.own o0)) ∧ env'[i]? = some (.own o) ∧ σ'[i]? = (vs.map some)[i]? := fun i o h => by
    obtain ⟨x, e, h1, h2, h3⟩ := at_ i _ h
    obtain ⟨hi, h4, h5⟩ := app i x h1
    cases x with
    | non => cases h3
    | dat d => cases h3
    | own o0 =>
      have h3 : Sl.own o = e := h3
      subst h3
      obtain ⟨_, q⟩ := g.hold i hi o0 h4
      exact ⟨⟨o0, h1⟩, h2, q.trans h5⟩
  refine ⟨?_, fun i d h => ?_, fun i o h => ?_, fun i j o o' a h h' s s' => ?_, r.sub, fun a z => g.ex.nt a (r.there a z), r.tabM, r'.tab⟩
  · unfold outs
    rw [List.length_zipWith, List.length_map]
    omega
  · obtain ⟨x, e, h1, h2, h3⟩ := at_ i _ h
    obtain ⟨hi, h4, h5⟩ := app i x h1
    cases x with
    | non => cases h3
    | dat d0 =>
      cases h3
      obtain ⟨v, q1, q2⟩ := r.dat i d h1
      exact ⟨v, q1, q2.ext g.ex.toExt r.sub⟩
    | own o0 =>
      have h3 : Sl.dat d = e := h3
      subst h3
      obtain ⟨⟨o', q⟩, _⟩ := g.hold i hi o0 h4
      rw [h2] at q
      cases q
  · obtain ⟨⟨o0, h1⟩, h2, h3⟩ := own i o h
    obtain ⟨a, b, c, d⟩ := r'.own i o h2
    obtain ⟨a', b', c', _⟩ := r.own i o0 h1
    rw [h3, b'] at b
    cases b
    exact ⟨_, b', c', d.less g.sub⟩
  · obtain ⟨⟨o0, h1⟩, _, _⟩ := own i o h
    obtain ⟨⟨o1, h2⟩, _, _⟩ := own j o' h'
    exact r.apart i j o0 o1 a h1 h2 s s'
section
variable {P : Program} {w : World} {K : PySem.W.Frag} {mg : Str → Option Value} {base : Heap} {T : Tab} {fa : Nat → Addr} {fd : Nat → FuncData} {exc : Nat → Addr} {prog : Nat → Option Fn}
theorem fn_ok {n f : Nat} {i : FnI} {fn : Fn} {st : Stmt} {x qual : Str} {pa : Arguments} {dvs : List V} {kws : List (Str × V)} (hF : Facts T K w mg fa fd) (hE : ExK T K mg exc) (hG : ∀ g ∈ T.gds, GdOk T K mg g) (hL : T.lam = true → lamN (defScope st) = true → LamX.TabB base mg (lawC K) (tabP K) ∧ (fd f).code = .ref (lawC K) ∧ qual = "law") (hp : prog f = some fn) (hc : chkFn T i fn st = true) (F : FunD K x qual pa (defBody st) (defScope st) dvs kws (fa f) (fd f))
    (ok : ∀ (f : Nat) (i : FnI), T.fns[f]? = some i → FnOk P w K mg base (L2.CX P w) (4 * n) (fa f) (fd f) (i.N.take i.ps) (spF K exc (runN (globD T) prog n) f)) :
    FnOk P w K mg base (L2.CX P w) (4 * (n + 1)) (fa f) (fd f) (i.N.take i.ps) (spF K exc (runN (globD T) prog (n + 1)) f) := by
  unfold chkFn at hc
  simp only [Bool.and_eq_true, decide_eq_true_eq] at hc
  obtain ⟨⟨hsc, hps, hn, hle⟩, hb⟩ := hc
  have S := scOk_ok hsc
  have lenI : (i.N.take i.ps).length = i.ps := by rw [List.length_take]; omega
  have hlen : ∀ vs H Q E, spF K exc (runN (globD T) prog (n + 1)) f vs H Q E → vs.length = i.ps ∧ ∃ F M xs, Rel K F M xs (vs.map some) H ∧ xs.length = fn.ps ∧ match finish xs (evSs (globD T) (runN (globD T) prog n) fn.body (xs ++ List.replicate (fn.n - fn.ps) .non)) with
      | .ok d outs => ∀ v H', Ex M H H' → Rel K F M outs (vs.map some) H' → VR K F H' d v → Q v H'
      | .exc x outs => ∀ cls dd H', Ex M H H' → Rel K F M outs (vs.map some) H' → ExcR exc x cls dd H' → E cls dd H'
      | .bad => False := fun vs H Q E h => by
    obtain ⟨F, M, xs, rl, q⟩ := h
    simp only [runN, hp] at q
    by_cases hx : xs.length = fn.ps
    · rw [if_pos hx] at q
      have := rl.len
      rw [List.length_map] at this
      exact ⟨by omega, F, M, xs, rl, hx, q⟩
    · rw [if_neg hx] at q
      exact q.elim
  refine def_room (k := 4 * n + 3) (CX := L2.CX P w) F S (fun vs H Q E h => by rw [lenI]; exact (hlen vs H Q E h).1) fun cdv A outer s H vs Q E hr hcd h => ?_
  obtain ⟨hl, F0, M0, xs, rl, hx, q⟩ := hlen vs H Q E h
  have C : StOk T fa fd exc (runN (globD T) prog n) n i.N (fun cls d _ H' => E cls d H') (defScope st) (cxOf (L2.CX P w) P w K mg base i.N qual (defScope st) (fa f) cdv A outer s H E) := {
    nm := rfl
    nd := S.nd
    sc := rfl
    calm := rfl
    room := (hr.deeper _).mono (by omega)
    exk := hE
    gdk := hG
    lamOk := fun hl hs => by
      obtain ⟨h1, h2, h3⟩ := hL hl hs
      refine ⟨h1, ?_, ?_, hr.deeper _⟩
      · show cdv = _
        rw [← hcd]
        exact h2
      · show qual ++ ".<locals>." ++ "<lambda>" = lamQ
        rw [h3]
        rfl
    tk := takes_of rfl rfl rfl rfl
    facts := hF
    ok := ok
    pass := passes_of rfl
    st := fun j y hy => by
      unfold locB at hy
      simp only [Bool.and_eq_true, decide_eq_true_eq] at hy
      refine ⟨hy.1, ?_, .inl rfl⟩
      have h2 := hy.2
      split at h2
      · rename_i q; exact .inl q
      · rename_i q; exact .inr q
      · cases h2
    kf := S.kind }
  refine ⟨_, simSs (ps := i.ps) C fn.body _ hb, F0, M0, xs ++ List.replicate (fn.n - fn.ps) .non, ?_, ?_⟩
  · -- the start
    have hxl : xs.length = i.ps := by rw [hx, hps]
    have key : ∀ (j : Nat) (s : Sl), (xs ++ List.replicate (fn.n - fn.ps) .non)[j]? = some s → s ≠ .non → xs[j]? = some s ∧ (L2.start i.N vs)[j]? = (vs.map some)[j]? := fun j s hj hs => by
      by_cases hlt : j < xs.length
      · rw [List.getElem?_append_left hlt] at hj
        refine ⟨hj, ?_⟩
        unfold L2.start
        rw [List.getElem?_append_left (by rw [List.length_map]; omega)]
      · rw [List.getElem?_append_right (by omega)] at hj
        have := List.mem_of_getElem? hj
        rw [List.mem_replicate] at this
        exact absurd this.2 hs
    refine ⟨?_, fun j d hj => ?_, fun j o hj => ?_, fun j k o o' a hj hk s s' => ?_, rl.sub, rl.there, rl.tabM, rl.tab⟩
    · unfold L2.start
      rw [List.length_append, List.length_append, List.length_replicate, List.length_replicate, List.length_map]
      omega
    · obtain ⟨h1, h2⟩ := key j _ hj (fun z => nomatch z)
      rw [h2]
      exact rl.dat j d h1
    · obtain ⟨h1, h2⟩ := key j _ hj (fun z => nomatch z)
      rw [h2]
      exact rl.own j o h1
    · obtain ⟨h1, h2⟩ := key j _ hj (fun z => nomatch z)
      obtain ⟨h3, h4⟩ := key k _ hk (fun z => nomatch z)
      rw [h2] at s
      rw [h4] at s'
      exact rl.apart j k o o' a h1 h3 s s'
  · have hxl : xs.length = i.ps := by rw [hx, hps]
    cases qe : evSs (globD T) (runN (globD T) prog n) fn.body (xs ++ List.replicate (fn.n - fn.ps) .non) with
    | bad => rw [qe] at q; exact q
    | nxt e1 =>
      rw [qe] at q
      simp only [finish] at q
      by_cases hle' : xs.length ≤ e1.length
      case neg => rw [if_neg hle'] at q; exact q.elim
      rw [if_pos hle'] at q
      intro F' M' σ' H' g r'
      exact q .non H' g.ex (outs_rel hxl rl g r' (by omega)) (by simp only [VR])
    | exc x e1 =>
      rw [qe] at q
      simp only [finish] at q
      by_cases hle' : xs.length ≤ e1.length
      case neg => rw [if_neg hle'] at q; exact q.elim
      rw [if_pos hle'] at q
      intro F' M' σ' cls dd H' g r' xr
      exact q cls dd H' g.ex (outs_rel hxl rl g r' (by omega)) xr
    | ret d e1 =>
      rw [qe] at q
      simp only [finish] at q
      by_cases hle' : xs.length ≤ e1.length
      case neg => rw [if_neg hle'] at q; exact q.elim
      rw [if_pos hle'] at q
      intro F' M' σ' v H' g r' rr
      refine q v H' g.ex (outs_rel hxl rl g r' (by omega)) ?_
      rcases rr with h | ⟨j, o, hj, rfl, h1, h2⟩
      · exact h.less g.sub
      · obtain ⟨a, b, c, d1⟩ := r'.own j _ h1
        rw [h2] at b
        cases b
        refine (d1.less g.sub).vr ?_
        rcases g.fresh j _ a h1 h2 with ⟨o0, h3, _⟩ | z
        · rw [List.getElem?_append_right (by omega)] at h3
          have := List.mem_of_getElem? h3
          rw [List.mem_replicate] at this
          cases this.2
        · exact z
end
end Qh

/-! A law as a whole. -/
namespace Qh
open PySem PySem.Spec PyProof.Rows L2 PySem.W
structure DRow where
  i : FnI
  fn : Fn
  st : Stmt
/-- where a def stands: a global name, a class's -/
def keyOf (i : FnI) : Str × Option Str := match i.at_ with
  | none => (i.name, none)
  | some c => (c, some i.name)
/-- a def of a class -/
def clsDef (s : Stmt) (j : Nat) : Stmt := match s with
  | .ClassDef _ _ _ b _ _ _ _ _ _ _ => b.getD j (.Pass ⟨0, 0, 0, 0⟩)
  | _ => .Pass ⟨0, 0, 0, 0⟩
abbrev FnP (K : PySem.W.Frag) (r : DRow) (f : Addr) (fd : FuncData) : Prop := FunD K r.i.name r.i.qual (defArgs r.st) (defBody r.st) (defScope r.st) [] [] f fd
def DRow.d (r : DRow) : He.DefD := ⟨keyOf r.i, r.i.name, r.i.qual, defArgs r.st, defBody r.st, defScope r.st, [], []⟩
/-- what is asked of the written part, def by def -/
def rowFa (r : DRow) : List He.Fa := match r.i.at_ with
  | none => [.glo r.i.name]
  | some c => if r.i.name = "__init__" then [.cls c, .mkr c, .glo c] else [.cls c, .meth c r.i.name]
def fldFa (p : Str × Str) : List He.Fa := [.cls p.1, .noat p.1 p.2]
section
variable {K : PySem.W.Frag} {h : Heap} {mg : Str → Option Value}
theorem rowFd (r : DRow) : (∃ fd, FunD K r.d.name r.d.qual r.d.params r.d.body r.d.scope (r.d.dvs K) (r.d.kws K) (He.fAd K r.d.at_) fd) ↔ ∃ fd, FnP K r (He.fAd K (keyOf r.i)) fd := Iff.rfl
theorem rowFa_mg {r : DRow} (X : K.In h) (G : h.Ns mainGlobals mg) (c : ∀ f ∈ rowFa r, f.ok K = true) (e : r.i.at_ = none) : mg r.i.name = some (.ref (He.fAd K (keyOf r.i))) := by
  unfold rowFa at c
  unfold keyOf
  rw [e] at c ⊢
  exact He.glo_ok X G (c _ List.mem_cons_self)
theorem rowFa_mt {r : DRow} (X : K.In h) (G : h.Ns mainGlobals mg) (c : ∀ f ∈ rowFa r, f.ok K = true) (k : Str) (e : r.i.at_ = some k) :
    Cls K (He.ga K k) ∧ (r.i.name = "__init__" → Mk K (He.ga K k) (He.fAd K (keyOf r.i)) ∧ mg k = some (.ref (He.ga K k))) ∧ (r.i.name ≠ "__init__" → Meth K (He.ga K k) r.i.name (He.fAd K (keyOf r.i))) := by
  unfold rowFa at c
  unfold keyOf
  rw [e] at c ⊢
  simp only at c ⊢
  by_cases hn : r.i.name = "__init__"
  · rw [if_pos hn] at c
    refine ⟨He.cls_ok (c _ List.mem_cons_self), fun _ => ⟨?_, He.glo_ok X G (c _ (List.mem_cons_of_mem _ (List.mem_cons_of_mem _ List.mem_cons_self)))⟩, fun z => (z hn).elim⟩
    rw [hn]
    exact He.mkr_ok (c _ (List.mem_cons_of_mem _ List.mem_cons_self))
  · rw [if_neg hn] at c
    exact ⟨He.cls_ok (c _ List.mem_cons_self), fun z => (hn z).elim, fun _ => He.meth_ok (c _ (List.mem_cons_of_mem _ List.mem_cons_self))⟩
theorem fldFa_ok {p : Str × Str} (c : ∀ f ∈ fldFa p, f.ok K = true) : Cls K (He.ga K p.1) ∧ NoAttr K (He.ga K p.1) p.2 :=
  ⟨He.cls_ok (c _ List.mem_cons_self), He.noat_ok (c _ (List.mem_cons_of_mem _ List.mem_cons_self))⟩
end
def chkRow (T : Tab) (r : DRow) : Bool := chkFn T r.i r.fn r.st
/-! ### what of the heap is looked at -/
def stepA (g : Addr → Option Obj) (l : List Addr) : List Addr := l.flatMap fun a => match g a with
  | some o => He.refsD o
  | none => []
/-- the classes' own tables of names -/
def spaces (g : Addr → Option Obj) (l : List Addr) : List Addr := l.flatMap fun a => match (g a).map Obj.data with
  | some (.cls cd) => [cd.ns]
  | _ => []
def seen (g : Addr → Option Obj) (l1 m : List Addr) : List Addr := mainGlobals :: (l1 ++ (stepA g l1 ++ (m ++ stepA g m)))
/-- the module's names, two steps on, and the classes' defs -/
def asY (g : Addr → Option Obj) : List Addr := seen g (stepA g [mainGlobals]) (stepA g (spaces g (stepA g [mainGlobals])))
section
variable (fa : List He.Fa) (fn : List He.DefD) (ts : List He.Tab) (ex : PySem.W.Frag → Bool)
def tellY (K : PySem.W.Frag) (b : Bool) : He.AlX := (He.obsT fa fn ts K, (ex K && PySem.W.codeHdIn K (lawC K) (tabP K)) && b)
def bareAt (g : Addr → Option Obj) (a : Addr) : Bool := match g a with
  | some o => He.emptyTab o
  | none => false
def obK (g : Addr → Option Obj) (K : PySem.W.Frag) : He.AlX := tellY fa fn ts ex K (bareAt g (tabP K))
def obY (g : Addr → Option Obj) : He.AlX := obK fa fn ts ex g (He.frT g (asY g))
structure SaysY (w : World) (h : Heap) (K : PySem.W.Frag) : Prop where
  t : He.SaysT fa fn ts w K
  more : ex K = true
  hd : PySem.W.codeHdIn K (lawC K) (tabP K) = true
  out : K.lookup (tabP K) = none
  empty : h.get? (tabP K) = some { cls := .none, data := .fields #[] }
theorem saysY_of {w : World} {h : Heap} (e : obY fa fn ts ex h.get? = He.valX fn ts w) : SaysY fa fn ts ex w h (He.frT h.get? (asY h.get?)) := by
  have e2 : ((ex (He.frT h.get? (asY h.get?)) && PySem.W.codeHdIn (He.frT h.get? (asY h.get?)) (lawC (He.frT h.get? (asY h.get?))) (tabP (He.frT h.get? (asY h.get?)))) && bareAt h.get? (tabP (He.frT h.get? (asY h.get?)))) = true := congrArg Prod.snd e
  rw [Bool.and_eq_true, Bool.and_eq_true] at e2
  obtain ⟨⟨h1, h2⟩, h3⟩ := e2
  unfold bareAt at h3
  split at h3
  · rename_i o q
    exact ⟨congrArg Prod.fst e, h1, h2, He.frT_none q h3, by rw [q, He.emptyTab_eq h3]⟩
  · cases h3
def hookY : PySem.W.Hook where
  α := He.AlX
  obs s := obY fa fn ts ex s.heap.get?
  val w := He.valX fn ts w
  says w h := ∃ K : PySem.W.Frag, K.In h ∧ SaysY fa fn ts ex w h K
  of _ _ e := ⟨_, He.frT_in, saysY_of fa fn ts ex e⟩
  keeps _ _ _ p k := p.elim fun K q => ⟨K, q.1.keeps k, q.2.t, q.2.more, q.2.hd, q.2.out, k _ _ q.2.empty⟩
theorem obY_eq {g : Addr → Option Obj} {s : Shared} (h : ∀ a, g a = s.heap.get? a) : obY fa fn ts ex g = (hookY fa fn ts ex).obs s := by
  obtain rfl : g = s.heap.get? := funext h
  rfl
end
/-! ### what stands under a global name -/
mutual
def gB (K : PySem.W.Frag) : D → Value → Bool
  | .non, .none => true
  | .bl b, .bool c => b == c
  | .int i, .int j _ => decide (j = i)
  | .str s, .str t _ => decide (t = s)
  | .tup ds, .ref a => (match K.lookup a with
    | some ⟨.type c, _, .seq its _, _⟩ => decide (c = "tuple") && (decide (its.size ≤ sizeLine) && gBs K ds its.toList)
    | _ => false)
  | _, _ => false
def gBs (K : PySem.W.Frag) : List D → List Value → Bool
  | [], [] => true
  | d :: ds, v :: vs => gB K d v && gBs K ds vs
  | _, _ => false
end
mutual
theorem gB_ok {K : PySem.W.Frag} : ∀ (d : D) (u : Value), gB K d u = true → ∃ v, RelV v u ∧ ∀ F H, VR K F H d v
  | .non, u, h => by
    cases u <;> simp only [gB] at h <;> try (cases h; done)
    exact ⟨.non, rfl, fun F H => by simp only [VR]⟩
  | .bl b, u, h => by
    cases u <;> simp only [gB] at h <;> try (cases h; done)
    rename_i c
    have e := eq_of_beq h
    subst e
    exact ⟨.bl b, rfl, fun F H => by simp only [VR]⟩
  | .int i, u, h => by
    cases u <;> simp only [gB] at h <;> try (cases h; done)
    have e := of_decide_eq_true h
    subst e
    exact ⟨.int _, ⟨_, rfl⟩, fun F H => by simp only [VR]⟩
  | .str s, u, h => by
    cases u <;> simp only [gB] at h <;> try (cases h; done)
    have e := of_decide_eq_true h
    subst e
    exact ⟨.str _, ⟨_, rfl⟩, fun F H => by simp only [VR]⟩
  | .tup ds, u, h => by
    cases u <;> try (simp only [gB] at h; cases h; done)
    rename_i a
    simp only [gB] at h
    split at h
    · rename_i c od its n osl q
      simp only [Bool.and_eq_true, decide_eq_true_eq] at h
      obtain ⟨vs, hv, hr⟩ := gBs_ok ds its.toList h.2.2
      refine ⟨.ref a, rfl, fun F H => ?_⟩
      simp only [VR]
      exact ⟨a, vs, rfl, .inr fun H' => .inr ⟨_, its, n, q, congrArg Value.type h.1, rfl, h.2.1, hv⟩, hr F H⟩
    · cases h
  | .lst _, u, h => by cases u <;> simp only [gB] at h <;> cases h
  | .scr _, u, h => by cases u <;> simp only [gB] at h <;> cases h
  | .dct _ _, u, h => by cases u <;> simp only [gB] at h <;> cases h
  | .ins _ _ _, u, h => by cases u <;> simp only [gB] at h <;> cases h
theorem gBs_ok {K : PySem.W.Frag} : ∀ (ds : List D) (us : List Value), gBs K ds us = true → ∃ vs, Vals vs us ∧ ∀ F H, VRs K F H ds vs
  | [], [], _ => ⟨[], .nil, fun _ _ => VRs.nil_iff.mpr rfl⟩
  | [], _ :: _, h => by simp only [gBs] at h; cases h
  | _ :: _, [], h => by simp only [gBs] at h; cases h
  | d :: ds, u :: us, h => by
    simp only [gBs, Bool.and_eq_true] at h
    obtain ⟨v, hv, hr⟩ := gB_ok d u h.1
    obtain ⟨vs, hvs, hrs⟩ := gBs_ok ds us h.2
    exact ⟨v :: vs, .cons hv hvs, fun F H => .cons_mk (hr F H) (hrs F H)⟩
end
/-- a dict under a global name: its entries -/
def entsB : List D → List D → List DictEntry → Bool
  | [], [], [] => true
  | .str k :: ks, .int i :: vs, ⟨_, .str y _, .int j _⟩ :: es => decide (y = k) && (decide (j = i) && entsB ks vs es)
  | _, _, _ => false
def gD (K : PySem.W.Frag) (x : Str) (ks vs : List D) : Bool := match K.lookup (He.ga K x) with
  | some ⟨_, _, .dict es _, _⟩ => entsB ks vs es.toList
  | _ => false
theorem entsB_find (z : Str) : ∀ {ks vs : List D} {es : List DictEntry}, entsB ks vs es = true → es.any (·.refKey) = false ∧ match dFind (hitS z) ks vs with
    | some d => ∃ i u e, d = .int i ∧ es.find? (·.key.isStr z) = some e ∧ e.val = u ∧ RelV (.int i) u
    | none => es.find? (·.key.isStr z) = none
  | [], [], [], _ => ⟨rfl, rfl⟩
  | [], [], _ :: _, h => by simp only [entsB] at h; cases h
  | [], _ :: _, _, h => by simp only [entsB] at h; cases h
  | k :: ks, vs, es, h => by
    cases k <;> try (simp only [entsB] at h; cases h; done)
    cases vs with
    | nil => simp only [entsB] at h; cases h
    | cons v vs =>
      cases v <;> try (simp only [entsB] at h; cases h; done)
      cases es with
      | nil => simp only [entsB] at h; cases h
      | cons e es =>
        obtain ⟨hh, ek, ev⟩ := e
        cases ek <;> try (simp only [entsB] at h; cases h; done)
        cases ev <;> try (simp only [entsB] at h; cases h; done)
        simp only [entsB, Bool.and_eq_true, decide_eq_true_eq] at h
        obtain ⟨rfl, rfl, h3⟩ := h
        rename_i y _ j t
        obtain ⟨q1, q2⟩ := entsB_find z h3
        refine ⟨by rw [List.any_cons, q1]; rfl, ?_⟩
        unfold dFind
        rw [List.find?_cons]
        have e1 : hitS z (.str y) = decide (y = z) := hitS_iff (k := Sum.inr y) |>.trans (by
          by_cases e : y = z
          · subst e; simp
          · rw [decide_eq_false e]; exact decide_eq_false fun q => e (Sum.inr.inj q))
        have e2 : ∀ tk, ((Value.str y tk).isStr z) = decide (y = z) := fun tk => by
          show (decide _ : Bool) = _
          first | rfl | (congr 1; exact propext eq_comm)
        rw [e1]
        by_cases e : y = z
        · subst e
          simp only [decide_true, if_true]
          rw [e2]
          simp only [decide_true]
          exact ⟨j, _, _, rfl, rfl, rfl, t, rfl⟩
        · simp only [decide_eq_false e, Bool.false_eq_true, if_false]
          rw [e2, decide_eq_false e]
          exact q2
theorem gD_ok {K : PySem.W.Frag} {w : World} {mg : Str → Option Value} {x : Str} {ks vs : List D} {es : Array DictEntry} {n : Nat} (hm : mg x = some (.ref (He.ga K x))) (kd : KDict K w (He.ga K x) es n) (h : gD K x ks vs = true) : GDok K w mg x ks vs := by
  refine ⟨_, es, n, hm, kd, fun z => ?_⟩
  unfold gD at h
  rw [kd.at_] at h
  obtain ⟨q1, q2⟩ := entsB_find z (show entsB ks vs es.toList = true from h)
  have e : PySem.W.nsIn K (He.ga K x) z = match es.toList.find? (·.key.isStr z) with
      | some e => some (some e.val)
      | none => if es.toList.any (·.refKey) then none else some none := by
    unfold PySem.W.nsIn
    rw [kd.at_] <;> rfl
  rw [e]
  cases qd : dFind (hitS z) ks vs with
  | none =>
    rw [qd] at q2
    have q2 : es.toList.find? (·.key.isStr z) = none := q2
    simp only [q2, q1, Bool.false_eq_true, if_false]
  | some d =>
    rw [qd] at q2
    obtain ⟨i, u, en, h1, h2, h3, h4⟩ := q2
    simp only [h2]
    exact ⟨i, u, h1, by rw [h3], h4⟩
/-! ### all defs -/
def progOf (rows : List DRow) (f : Nat) : Option Fn := (rows[f]?).map (·.fn)
def faOf (K : PySem.W.Frag) (rows : List DRow) (f : Nat) : Addr := match rows[f]? with
  | some r => He.fAd K (keyOf r.i)
  | none => 0
section
variable {P : Program} {w : World} {K : PySem.W.Frag} {mg : Str → Option Value} {exc : Nat → Addr} {rows : List DRow} {globs : List (Str × D)} {blts : List Str} {flds : List (Str × Str)}
theorem rows_at {f : Nat} {i : FnI} (h : (rows.map (·.i))[f]? = some i) : ∃ r, rows[f]? = some r ∧ r.i = i := by
  rw [List.getElem?_map] at h
  exact Option.map_eq_some_iff.mp h
/-- guards: defs that call what they get -/
structure GRow where
  g : Gd
  a : Str
  y : Str
  st : Stmt
def GRow.d (r : GRow) : He.DefD := ⟨(r.g.name, none), r.g.name, r.g.name, defArgs r.st, defBody r.st, defScope r.st, [], []⟩
def nmB (x : Str) : Bool := !(x == ("__debug__" : Str)) && !(x == ("__classdict__" : Str))
def chkG (T : Tab) (r : GRow) : Bool := (gdB T r.g r.a r.y (defScope r.st) (defBody r.st) && scOk [r.a, r.y] [r.a] (defScope r.st)) && (decide ((defScope r.st).names.lookup r.y = some .local) && (nmB r.a && nmB r.y))
theorem nmB_ok {x : Str} (h : nmB x = true) : (x == ("__debug__" : Str)) = false ∧ (x == ("__classdict__" : Str)) = false := by
  unfold nmB at h
  simpa using h
theorem gd_ok {T : Tab} {K : PySem.W.Frag} {mg : Str → Option Value} {r : GRow} (hc : chkG T r = true) (hm : mg r.g.name = some (.ref (He.ga K r.g.name))) (hd : ∃ fd, FunD K r.d.name r.d.qual r.d.params r.d.body r.d.scope (r.d.dvs K) (r.d.kws K) (He.fAd K r.d.at_) fd)
    (hb : ∀ f fd, FunD K r.g.name r.g.name (defArgs r.st) (defBody r.st) (defScope r.st) [] [] f fd → Binds K fd [r.a] []) (hbl : ∀ b ∈ T.blts, mg b = none) : GdOk T K mg r.g := by
  unfold chkG at hc
  simp only [Bool.and_eq_true, decide_eq_true_eq] at hc
  obtain ⟨⟨h1, h2⟩, h3, h4, h5⟩ := hc
  obtain ⟨fd, F⟩ := hd
  have F : FunD K r.g.name r.g.name (defArgs r.st) (defBody r.st) (defScope r.st) [] [] (He.ga K r.g.name) fd := F
  have S := scOk_ok h2
  refine ⟨_, fd, r.st, r.a, r.y, hm, F.kp, F, hb _ _ F, ⟨h1, S, h3, ?_, (nmB_ok h4).1, (nmB_ok h4).2, (nmB_ok h5).1, (nmB_ok h5).2⟩, hbl⟩
  rcases S.par r.a (List.mem_singleton.mpr rfl) with q | q
  · exact .inl q
  · exact .inr (.inl q)
/-- a class of exceptions, asked of the written part -/
def excFa (x : Str) : List He.Fa := [.glo x, .exc x]
def excAt (K : PySem.W.Frag) (excs : List Str) (c : Nat) : Addr := He.ga K (excs.getD c "")
def excCB (K : PySem.W.Frag) (D : Addr) : Bool := (decide (PySem.W.findIn K (.ref D) "__getattribute__" = some (some (.builtin "BaseException.__getattribute__"))) && decide (PySem.W.findIn K (.ref D) "__getattr__" = some none)) && ((decide (PySem.W.subIn K (.ref D) (.type "BaseException") = some true) && PySem.W.hasDictIn K D) &&
  ((decide (PySem.W.findIn K (.ref D) "__class__" = some (some (.builtin "object.__class__"))) && decide (PySem.W.specialIn K (.builtin "object.__class__") "__get__" = some (some (.builtin "getset_descriptor.__get__")))) && (decide (PySem.W.takesIn K (.builtin "object.__class__") = some true) && decide (PySem.W.mroIn K D (.type "object") = some true))))
theorem excCB_ok {K : PySem.W.Frag} {D : Addr} (h : excCB K D = true) : ExcC K D := by
  unfold excCB at h
  simp only [Bool.and_eq_true, decide_eq_true_eq] at h
  obtain ⟨⟨h1, h2⟩, ⟨h3, h4⟩, ⟨h5, h6⟩, h7, h8⟩ := h
  exact ⟨h1, h2, h3, h4, h5, h6, h7, h8⟩
def excsB (K : PySem.W.Frag) (excs : List Str) : Bool := (List.range excs.length).all fun c => (excCB K (excAt K excs c) && decide (PySem.W.exmOne K (.ref (excAt K excs c)) (.ref (excAt K excs 0)) = some true)) &&
  (List.range excs.length).all fun d => decide (PySem.W.kitOne K (.ref (excAt K excs c)) (.ref (excAt K excs d)) = some (decide (c = d) || decide (d = 0)))
theorem exk_ok {T : Tab} {K : PySem.W.Frag} {h : Heap} {mg : Str → Option Value} (X : K.In h) (G : h.Ns mainGlobals mg) (hf : ∀ x ∈ T.excs, ∀ f ∈ excFa x, f.ok K = true) (hb : excsB K T.excs = true) : ExK T K mg (excAt K T.excs) where
  made := fun c x hx => by
    have hm := List.mem_of_getElem? hx
    have e : excAt K T.excs c = He.ga K x := by unfold excAt; rw [List.getD_eq_getElem?_getD, hx]; rfl
    obtain ⟨h1, h2, h3, h4⟩ := He.exc_ok (hf x hm _ (List.mem_cons_of_mem _ List.mem_cons_self))
    rw [e]
    exact ⟨He.glo_ok X G (hf x hm _ List.mem_cons_self), h2, h1, h3, h4⟩
  isi := fun c d x y hx hy => by
    have hc := List.all_eq_true.mp hb c (List.mem_range.mpr (List.getElem?_eq_some_iff.mp hx).1)
    rw [Bool.and_eq_true, Bool.and_eq_true] at hc
    have hd := List.all_eq_true.mp hc.2 d (List.mem_range.mpr (List.getElem?_eq_some_iff.mp hy).1)
    exact ⟨excCB_ok hc.1.1, of_decide_eq_true hd⟩
  exm := fun c x y hx _ => by
    have hc := List.all_eq_true.mp hb c (List.mem_range.mpr (List.getElem?_eq_some_iff.mp hx).1)
    rw [Bool.and_eq_true, Bool.and_eq_true] at hc
    exact of_decide_eq_true hc.1.2
/-- only the law's own def stands in the law's scope -/
def lawRow (r : DRow) : Bool := !lamN (defScope r.st) || decide (keyOf r.i = (("law", none) : Str × Option Str) ∧ r.i.qual = "law")
theorem law_code {K : PySem.W.Frag} {x qual : Str} {pa : Arguments} {bd : List Stmt} {sc : Scope} {dvs : List V} {kws : List (Str × V)} {f : Addr} {fd : FuncData} (F : FunD K x qual pa bd sc dvs kws f fd) (ef : f = He.fAd K ("law", none)) : fd.code = .ref (lawC K) := by
  subst ef
  obtain ⟨oc, od, dV, kV, dc, pm, an, cd, ct, sl, rfl, at_, code, _, _⟩ := F.ex
  cases cd <;> try (unfold PySem.W.codeIn at code; cases code; done)
  rename_i c
  show Value.ref c = _
  congr 1
  exact (He.codeOf_eq (p := ("law", none)) at_ rfl).symm
theorem all_ok {excs : List Str} {gds : List Gd} {lam : Bool} (hck : rows.all (chkRow ⟨rows.map (·.i), globs, blts, flds, excs, gds, lam⟩) = true) (hlr : rows.all lawRow = true) (hfd : ∀ r ∈ rows, ∃ fd, FnP K r (He.fAd K (keyOf r.i)) fd) (hmg : ∀ r ∈ rows, r.i.at_ = none → mg r.i.name = some (.ref (He.fAd K (keyOf r.i))))
    (hmt : ∀ r ∈ rows, ∀ c, r.i.at_ = some c → Cls K (He.ga K c) ∧ (r.i.name = "__init__" → Mk K (He.ga K c) (He.fAd K (keyOf r.i)) ∧ mg c = some (.ref (He.ga K c))) ∧ (r.i.name ≠ "__init__" → Meth K (He.ga K c) r.i.name (He.fAd K (keyOf r.i))))
    (hfl : ∀ p ∈ flds, Cls K (He.ga K p.1) ∧ NoAttr K (He.ga K p.1) p.2) (hE : ExK ⟨rows.map (·.i), globs, blts, flds, excs, gds, lam⟩ K mg exc) (hG : ∀ g ∈ gds, GdOk ⟨rows.map (·.i), globs, blts, flds, excs, gds, lam⟩ K mg g)
    (hb : ∀ r ∈ rows, ∀ f fd, FnP K r f fd → Binds K fd (r.i.N.take r.i.ps) []) (hgl : ∀ p ∈ globs, noD p.2 = true → ∃ u, mg p.1 = some u ∧ gB K p.2 u = true) (hgd : ∀ p ∈ globs, ∀ ks vs, p.2 = .dct ks vs → GDok K w mg p.1 ks vs) (hbl : ∀ x ∈ blts, mg x = none) :
    ∃ fd : Nat → FuncData, (∀ f r, rows[f]? = some r → FnP K r (faOf K rows f) (fd f)) ∧ ∀ (base : Heap), LamX.TabB base mg (lawC K) (tabP K) → ∀ n f i, (rows.map (·.i))[f]? = some i →
      FnOk P w K mg base (L2.CX P w) (4 * n) (faOf K rows f) (fd f) (i.N.take i.ps) (spF K exc (runN (globD ⟨rows.map (·.i), globs, blts, flds, excs, gds, lam⟩) (progOf rows) n) f) := by
  have ex : ∀ f : Nat, ∃ fd : FuncData, ∀ r, rows[f]? = some r → FnP K r (faOf K rows f) fd := fun f => by
    cases q : rows[f]? with
    | none => exact ⟨default, fun r h => by cases h⟩
    | some r =>
      obtain ⟨fd, h⟩ := hfd r (List.mem_of_getElem? q)
      refine ⟨fd, fun r' h' => ?_⟩
      cases h'
      unfold faOf
      rw [q]
      exact h
  refine ⟨fun f => Classical.choose (ex f), fun f => Classical.choose_spec (ex f), fun base TB n => ?_⟩
  have hF : Facts ⟨rows.map (·.i), globs, blts, flds, excs, gds, lam⟩ K w mg (faOf K rows) (fun f => Classical.choose (ex f)) := {
    fn := fun f i h e => by
      obtain ⟨r, q, rfl⟩ := rows_at h
      have hm := List.mem_of_getElem? q
      have F := Classical.choose_spec (ex f) r q
      refine ⟨?_, F.kp⟩
      unfold faOf
      rw [q]
      exact hmg r hm e
    bnd := fun f i h => by
      obtain ⟨r, q, rfl⟩ := rows_at h
      exact hb r (List.mem_of_getElem? q) _ _ (Classical.choose_spec (ex f) r q)
    mt := fun f i c h e => by
      obtain ⟨r, q, rfl⟩ := rows_at h
      unfold faOf
      rw [q]
      exact hmt r (List.mem_of_getElem? q) c e
    fld := fun c f h => hfl (c, f) (List.contains_iff_mem.mp h)
    gdct := fun g x ks vs h => hgd (x, .dct ks vs) (List.mem_of_getElem? h) ks vs rfl
    glob := fun g x d h nd => by
      obtain ⟨u, h1, h2⟩ := hgl (x, d) (List.mem_of_getElem? h) nd
      obtain ⟨v, h3, h4⟩ := gB_ok d u h2
      exact ⟨u, v, h1, h3, h4⟩
    blt := fun x h => hbl x (List.contains_iff_mem.mp h) }
  induction n with
  | zero =>
    intro f i h
    have no : ∀ vs H Q E, ¬ spF K exc (runN (globD ⟨rows.map (·.i), globs, blts, flds, excs, gds, lam⟩) (progOf rows) 0) f vs H Q E := fun vs H Q E z => by
      obtain ⟨F, M, xs, _, z⟩ := z
      exact z
    exact ⟨fun vs H Q E z => (no vs H Q E z).elim, fun A outer s H args us vs Q E _ _ _ _ z => (no vs H Q E z).elim⟩
  | succ n ih =>
    intro f i h
    obtain ⟨r, q, rfl⟩ := rows_at h
    have hm := List.mem_of_getElem? q
    have F := Classical.choose_spec (ex f) r q
    refine fn_ok (fn := r.fn) (st := r.st) hF hE hG (fun _ hs => ?_) (by unfold progOf; rw [q]; rfl) (List.all_eq_true.mp hck r hm) F ih
    have hl := List.all_eq_true.mp hlr r hm
    unfold lawRow at hl
    rw [hs] at hl
    obtain ⟨h1, h2⟩ := of_decide_eq_true (by simpa using hl : decide (keyOf r.i = (("law", none) : Str × Option Str) ∧ r.i.qual = "law") = true)
    refine ⟨TB, ?_, h2⟩
    have ea : faOf K rows f = He.fAd K ("law", none) := by
      unfold faOf
      rw [q]
      exact congrArg (He.fAd K) h1
    exact law_code F ea
end
/-- the law's promise -/
theorem law_sp {K : PySem.W.Frag} {exc : Nat → Addr} {run : Run} {f : Nat} {ns : List Int} {o : En} (hr : run f [.dat (.scr ns)] = .ok (.bl true) o) (H : Hp) (a : Addr) (hT : H (tabP K) = some (.tbl #[])) (hS : (∃ o, H a = some (.frz o (.lst (ns.map V.int)))) ∨ ∀ H, SqL K H a (ns.map V.int)) : spF K exc run f [.ref a] H (fun v _ => v = .bl true) fun _ _ _ => False := by
  refine ⟨fun b => b = tabP K, fun b => b = tabP K, [.dat (.scr ns)], ⟨rfl, fun i d h => ?_, fun i o h => ?_, fun i j o o' a h => ?_, fun _ z => z, fun b z => ?_, rfl, LamX.TabS.nil hT⟩, ?_⟩
  · cases i with
    | zero =>
      cases h
      refine ⟨.ref a, rfl, ?_⟩
      simp only [VR]
      refine ⟨a, rfl, ?_⟩
      rcases hS with ⟨o, h⟩ | h
      · exact .inl ⟨(fun z => by rw [z, hT] at h; cases h), o, h⟩
      · exact .inr h
    | succ i => cases h
  · cases i with
    | zero => cases h
    | succ i => cases h
  · cases i with
    | zero => cases h
    | succ i => cases h
  · rw [z]
    exact ⟨_, hT, fun vs z => by cases z⟩
  · rw [hr]
    intro v H' _ _ h
    simpa only [VR] using h
/-- the same, whatever the script's list is known as -/
def spL (K : PySem.W.Frag) (run : Run) (f : Nat) : Sp := fun vs H Q E => ∃ (a : Addr) (ns : List Int) (o : En), vs = [.ref a] ∧ Q = (fun v _ => v = .bl true) ∧ E = (fun _ _ _ => False) ∧ SqL K H a (ns.map V.int) ∧ H (tabP K) = some (.tbl #[]) ∧ run f [.dat (.scr ns)] = .ok (.bl true) o
theorem no_cx {P : Program} {w : World} {outer : List Env} (H : Hp) (s : Shared) (e : Value) (s' : Shared) (h : L2.CX P w outer H s (fun _ _ _ => False) e s') : False := by
  obtain ⟨_, _, _, _, _, _, _, _, _, _, _, _, z⟩ := h
  exact z.elim
theorem fn_scr {P : Program} {w : World} {K : PySem.W.Frag} {mg : Str → Option Value} {base : Heap} {k : Nat} {fa : Addr} {fd : FuncData} {x : Str} {exc : Nat → Addr} {run : Run} {f : Nat} (F : FnOk P w K mg base (L2.CX P w) k fa fd [x] (spF K exc run f)) : FnOk P w K mg base (L2.CX P w) k fa fd [x] (spL K run f) := by
  refine ⟨fun vs H Q E ⟨a, ns, o, e, _⟩ => by rw [e]; rfl, fun A outer s H args us vs Q E hr e0 hb r ⟨a, ns, o, ev, eQ, eE, hS, hT, hrun⟩ => ?_⟩
  subst ev eQ eE
  rcases hS with (h | ⟨ob, h⟩) | h
  · obtain ⟨hz, its, n, hv, hg⟩ := e0.hok a _ h
    have ne : ∀ b, H b = none → b ≠ a := fun b z e => by rw [e, h] at z; cases z
    have at_ : ∀ b, b ≠ a → upd H a (.frz { cls := .type "list", data := .seq its.toArray n } (.lst (ns.map V.int))) b = H b := fun b z => upd_ne z
    have other : ∀ b u, H b = some u → (∀ xs, u ≠ .lst xs) → b ≠ a := fun b u e z q => by rw [q, h] at e; exact z _ (Option.some.inj e).symm
    have hT' : upd H a (.frz { cls := .type "list", data := .seq its.toArray n } (.lst (ns.map V.int))) (tabP K) = some (.tbl #[]) := by rw [at_ _ (other _ _ hT (fun _ z => nomatch z))]; exact hT
    have e1 : Env0 P w K mg base A outer s (upd H a (.frz { cls := .type "list", data := .seq its.toArray n } (.lst (ns.map V.int)))) := {
      frames := e0.frames
      mod := e0.mod
      bs := fun b o e => ⟨(e0.bs b o e).1, by rw [at_ b (ne b (e0.bs b o e).2)]; exact (e0.bs b o e).2⟩
      bsz := e0.bsz
      funs := e0.funs
      frf := fun b hb => by rw [at_ b (ne b (e0.frf b hb))]; exact e0.frf b hb
      hok := fun b u e => by
        by_cases hb : b = a
        · subst hb
          rw [upd_same] at e
          cases e
          exact ⟨hg, hz, its, n, hv, hg⟩
        · rw [at_ b hb] at e
          exact (e0.hok b u e).stay (fun d v _ q => q) (fun d q => by rw [at_ d (other d _ q (fun _ z => nomatch z))]; exact q) fun d xs q => by rw [at_ d (other d _ q (fun _ z => nomatch z))]; exact q
      bare := e0.bare }
    refine codeAny_mono (F.run A outer s _ args us [.ref a] _ _ hr e1 hb r (law_sp hrun _ a hT' (.inl ⟨_, upd_same⟩))) fun res s' z => ?_
    cases res with
    | error e => exact (no_cx _ _ _ _ z).elim
    | ok fl =>
      cases fl
      case ret u =>
        obtain ⟨v, H', h1, h2, un, h4, h5, h6⟩ := z
        refine ⟨v, H', h1, h2, ⟨fun b o e n => un.keep b o e (by rw [at_ b (ne b n)]; exact n), fun b o e n => un.slot b o e (by rw [at_ b (ne b n)]; exact n), fun b o e n => un.free b o e (by rw [at_ b (ne b n)]; exact n), un.there, fun b xs q => un.tups b xs ?_, fun b o u q => un.frzs b o u ?_, fun b ps q => un.tbls b ps ?_⟩, h4, h5, h6⟩
        all_goals
          rw [at_ b (other b _ q (fun _ z => nomatch z))]
          exact q
      all_goals exact z.elim
  · exact F.run A outer s H args us [.ref a] _ _ hr e0 hb r (law_sp hrun H a hT (.inl ⟨ob, h⟩))
  · exact F.run A outer s H args us [.ref a] _ _ hr e0 hb r (law_sp hrun H a hT (.inr fun H' => .inr h))
/-- a law's walk, what may be let out by the world -/
theorem walk_own {l : PySem.W.OpenLaw} {k : Nat} {q : Program} {loose : List Str} {XP : (Str → Option Value) → Heap → Prop} {YP : World → Heap → Prop} {d : DefRec} {x : Str} (hn : l.most = some 63) (hdf : d.params.defaults = []) (hr : Room k callerA)
    (F : ∀ (w : World) (mg : Str → Option Value) (fa : Addr) (h : Heap), YP w h → h.Ns mainGlobals mg → mg d.name = some (.ref fa) → ∃ (K : PySem.W.Frag) (fd : FuncData) (sp : Sp), K.In h ∧ (h.get? (tabP K) = some { cls := .none, data := .fields #[] } ∧ K.lookup (tabP K) = none ∧ PySem.W.codeHdIn K (lawC K) (tabP K) = true) ∧
      (∀ (s : Shared) (u : Value), BindsTo s fd ⟨[u], []⟩ [(x, u)]) ∧ (∀ (H : Hp) (a : Addr) (ns : List Int), H (tabP K) = some (.tbl #[]) → SqL K H a (ns.map V.int) → sp [.ref a] H (fun v _ => v = .bl true) fun _ _ _ => False) ∧
      ∀ base : Heap, K.In base → base.Ns mainGlobals mg → LamX.TabB base mg (lawC K) (tabP K) → FnOk l.prog w K mg base (L2.CX l.prog w) k fa fd [x] sp) : PySem.W.WalkO q loose XP YP l.row.toRowW d [] (fun f vs => PySem.call f vs) := by
  refine Att.attach_call hn hdf fun w s0 s1 mg mb fa o pm cd doc a vs ns G Y _ _ _ hmg hobj hints hlen hg => ?_
  have TT := G.T
  obtain ⟨K, fd, sp, h1, ⟨t1, t2, t3⟩, h2, h3, h4⟩ := F w mg fa _ Y TT.g hmg
  refine LamX.law_callTs (cs := [(lawC K, tabP K)]) h1 TT.g TT.b TT.builtins TT.nolimit hg (fun p hp => ?_) (fun p hp => ?_) (fun p hp => ?_) TT.bmain hobj hints (Nat.le_trans hlen (by rw [sizeLine_eq]; decide)) hr (fun base hk hn tb => h4 base hk hn (tb _ List.mem_cons_self)) h2
    (fun H hH hS => h3 H a ns (hH _ List.mem_cons_self) hS) fun H e s' z => no_cx H s1 e s' z
  all_goals
    rw [List.mem_singleton] at hp
    subst hp
  · exact t1
  · exact t2
  · exact PySem.W.codeHd_of_K h1 t3
end Qh

/-! Laws of the interpreter for symbolic runs. -/
namespace Qh
open PySem PySem.Spec PyProof.Rows L2 PySem.W
section
variable {α β : Type}
@[simp] theorem bind_ok' (a : α) (e : En) (k : α → En → Res β) : (Res.ok a e).bind k = k a e := rfl
@[simp] theorem bind_exc' (x : Exn) (e : En) (k : α → En → Res β) : (Res.exc x e).bind k = .exc x e := rfl
@[simp] theorem bind_bad' (k : α → En → Res β) : (Res.bad : Res α).bind k = .bad := rfl
@[simp] theorem sr_ok (a : α) (e : En) (k : α → En → SR) : (Res.ok a e).sr k = k a e := rfl
@[simp] theorem next_nxt (e : En) (k : En → SR) : (SR.nxt e).next k = k e := rfl
@[simp] theorem next_ret (d : D) (e : En) (k : En → SR) : (SR.ret d e).next k = .ret d e := rfl
@[simp] theorem opt_some (a : α) (e : En) : opt (some a) e = .ok a e := rfl
@[simp] theorem optS_some (a : α) (k : α → SR) : optS (some a) k = k a := rfl
@[simp] theorem onBl_t (e : En) (A B : En → Res α) : onBl (.bl true) e A B = A e := rfl
@[simp] theorem onBl_f (e : En) (A B : En → Res α) : onBl (.bl false) e A B = B e := rfl
@[simp] theorem asB_bl (b : Bool) (e : En) : asB (.bl b) e = .ok b e := rfl
@[simp] theorem at_0 (s : Sl) (l : En) : En.at (s :: l) 0 = s := rfl
@[simp] theorem at_s (s : Sl) (l : En) (n : Nat) : En.at (s :: l) (n + 1) = En.at l n := rfl
@[simp] theorem val_dat (d : D) : (Sl.dat d).val = some d := rfl
@[simp] theorem bor_lst (l : List D) : (Sl.own (.lst l)).bor = some (.lst l) := rfl
end
end Qh
namespace Qh
open PySem PySem.Spec PyProof.Rows L2 PySem.W
/-- a call with data only that answers -/
def Ans (run : Run) (f : Nat) (xs : List D) (d : D) : Prop := run f (xs.map .dat) = .ok d (xs.map .dat)
section
variable {G : Nat → Option D} {run : Run}
/-- an expression's value, nothing changed -/
def Ev (G : Nat → Option D) (run : Run) (env : En) (e : E) (d : D) : Prop := evE G run e env = .ok d env
def Evs (G : Nat → Option D) (run : Run) (env : En) (e : As) (ds : List D) : Prop := evAs G run e env = .ok (ds.map .dat) env
theorem putOuts_dat (env : En) : ∀ (ds : List D) (l : List Sl), l.length = ds.length → putOuts (ds.map AV.dat) l env = some env
  | [], _, _ => rfl
  | d :: ds, [], h => by cases h
  | d :: ds, s :: l, h => putOuts_dat env ds l (by simpa using h)
theorem slots_dat : ∀ ds : List D, AV.slots (ds.map AV.dat) = []
  | [] => rfl
  | d :: ds => slots_dat ds
theorem sl_dat (env : En) (ds : List D) : (ds.map AV.dat).map (AV.sl env) = ds.map Sl.dat := by
  rw [List.map_map]
  rfl
theorem isB_dat (ds : List D) : (ds.map AV.dat).any AV.isB = false := by
  induction ds with
  | nil => rfl
  | cons d ds ih => rw [List.map_cons, List.any_cons, ih]; rfl
theorem ev_call {f : Nat} {as : As} {env : En} {ds : List D} {d : D} (ha : Evs G run env as ds) (h : Ans run f ds d) : Ev G run env (.call f as) d := by
  unfold Ev
  simp only [evE]
  rw [ha]
  simp only [bind_ok']
  have e1 : AV.apart (ds.map AV.dat) = true := by
    unfold AV.apart
    rw [slots_dat]
    decide
  rw [e1]
  simp only [Bool.not_true, Bool.false_eq_true, if_false]
  rw [sl_dat, h]
  have e2 : callEnd (ds.map AV.dat) (ds.map .dat) env = some env := by
    unfold callEnd
    rw [isB_dat]
    simp only [Bool.false_and, Bool.false_eq_true, if_false]
    exact putOuts_dat env ds _ (by simp)
  simp only []
  rw [e2, isB_dat]
  rfl
end

theorem ixN_lt {n k : Nat} (h : k < n) : L2.ixN n (k : Int) = some k := by
  unfold L2.ixN
  rw [if_pos (by omega), if_pos (by omega)]
  rfl
theorem ixT (l : List D) (k : Nat) (h : k < l.length) : opIx (.tup l) (.int (k : Int)) = l[k]? := by
  show L2.atI l (k : Int) = _
  unfold L2.atI
  rw [ixN_lt h]
  rfl
theorem ixL (l : List D) (k : Nat) (h : k < l.length) : opIx (.lst l) (.int (k : Int)) = l[k]? := by
  show L2.atI l (k : Int) = _
  unfold L2.atI
  rw [ixN_lt h]
  rfl
@[simp] theorem ix_0 (a : D) (l : List D) : opIx (.tup (a :: l)) (.int 0) = some a := ixT (a :: l) 0 (by simp)
@[simp] theorem ix_1 (a b : D) (l : List D) : opIx (.tup (a :: b :: l)) (.int 1) = some b := ixT (a :: b :: l) 1 (by simp)
@[simp] theorem ix_2 (a b c : D) (l : List D) : opIx (.tup (a :: b :: c :: l)) (.int 2) = some c := ixT (a :: b :: c :: l) 2 (by simp)
@[simp] theorem ix_3 (a b c d : D) (l : List D) : opIx (.tup (a :: b :: c :: d :: l)) (.int 3) = some d := ixT (a :: b :: c :: d :: l) 3 (by simp)
@[simp] theorem ix_4 (a b c d e : D) (l : List D) : opIx (.tup (a :: b :: c :: d :: e :: l)) (.int 4) = some e := ixT (a :: b :: c :: d :: e :: l) 4 (by simp)
theorem eqS (a b : Str) : D.eq (.str a) (.str b) = decide (a = b) := by
  show PyData.eqv (.str a) (.str b) = _
  simp only [PyData.eqv]
  rfl
@[simp] theorem cmp_eqS (a b : Str) : opCmp .eq (.str a) (.str b) = some (decide (a = b)) := by
  show (if eqOk (.str a) (.str b) then some (D.eq (.str a) (.str b)) else none) = _
  rw [eqS]
  rfl
@[simp] theorem cmp_neS (a b : Str) : opCmp .ne (.str a) (.str b) = some (!decide (a = b)) := by
  show (if eqOk (.str a) (.str b) then some (!D.eq (.str a) (.str b)) else none) = _
  rw [eqS]
  rfl

section
variable {α β : Type}
theorem bind_cg {r r' : Res α} {k : α → En → Res β} (h : r = r') : r.bind k = r'.bind k := by rw [h]
theorem sr_cg {r r' : Res α} {k : α → En → SR} (h : r = r') : r.sr k = r'.sr k := by rw [h]
theorem next_cg {r r' : SR} {k : En → SR} (h : r = r') : r.next k = r'.next k := by rw [h]
theorem optS_cg {o o' : Option α} {k : α → SR} (h : o = o') : optS o k = optS o' k := by rw [h]
theorem onBl_cg {d d' : D} {e : En} {A B : En → Res α} (h : d = d') : onBl d e A B = onBl d' e A B := by rw [h]
end
theorem apart_dat (ds : List D) : AV.apart (ds.map AV.dat) = true := by
  unfold AV.apart
  rw [slots_dat]
  decide
def mx (a b : Int) : Int := if b > a then b else a
def mn (a b : Int) : Int := if b < a then b else a
@[simp] theorem min_i (i j : Int) : opBi .min [.int i, .int j] = some (.int (mn i j)) := rfl
@[simp] theorem max_i (i j : Int) : opBi .max [.int i, .int j] = some (.int (mx i j)) := rfl
@[simp] theorem cmp_gtI (i j : Int) : opCmp .gt (.int i) (.int j) = some (decide (j < i)) := rfl
@[simp] theorem cmp_geI (i j : Int) : opCmp .ge (.int i) (.int j) = some (decide (j ≤ i)) := rfl
theorem eqI (i j : Int) : D.eq (.int i) (.int j) = decide (i = j) := by
  show PyData.eqv (.int i) (.int j) = _
  simp only [PyData.eqv]
  rfl
@[simp] theorem cmp_eqI (i j : Int) : opCmp .eq (.int i) (.int j) = some (decide (i = j)) := by
  show (if eqOk (.int i) (.int j) then some (D.eq (.int i) (.int j)) else none) = _
  rw [eqI]
  rfl
@[simp] theorem cmp_neI (i j : Int) : opCmp .ne (.int i) (.int j) = some (!decide (i = j)) := by
  show (if eqOk (.int i) (.int j) then some (!D.eq (.int i) (.int j)) else none) = _
  rw [eqI]
  rfl
theorem ltI (i j : Int) : dataLt (.int i) (.int j) = decide (i < j) := dataLt_int i j
@[simp] theorem cmp_ltI (i j : Int) : opCmp .lt (.int i) (.int j) = some (decide (i < j)) := by
  show (if ltOk (.int i) (.int j) then some (dataLt (.int i) (.int j)) else none) = _
  rw [ltI]
  rfl
@[simp] theorem cmp_leI (i j : Int) : opCmp .le (.int i) (.int j) = some (decide (i ≤ j)) := by
  show (if ltOk (.int i) (.int j) then some (!dataLt (.int j) (.int i)) else none) = _
  rw [ltI]
  have e : (!decide (j < i)) = decide (i ≤ j) := by
    by_cases h : j < i
    · simp [h]
    · simp [h, Int.not_lt.mp h]
  rw [e]
  rfl

theorem sl_1 (a : D) (l : List D) : opSl (.tup (a :: l)) (some 1) none = some (.tup l) := by
  show some (D.tup (cutD (a :: l) (some 1) none)) = _
  have e : cutD (a :: l) (some 1) none = l := by
    unfold cutD
    simp [HT.sIx]
  rw [e]
theorem noNil (b : Bool) : (if b = true then Res.bad else Res.bad : Res D) = .bad := by cases b <;> rfl

/-! ### loops -/
theorem forS_inv {g : D → En → Option En} {body : En → SR} (items : List D) (P : Nat → En → Prop) (h : ∀ k x env, items[k]? = some x → P k env → ∃ e2 e3, g x env = some e2 ∧ body e2 = .nxt e3 ∧ P (k + 1) e3) (env : En) (h0 : P 0 env) :
    ∃ e, forS g body items env = .nxt e ∧ P items.length e := by
  have key : ∀ (rest : List D) (k : Nat) (env : En), items.drop k = rest → k + rest.length = items.length → P k env → ∃ e, forS g body rest env = .nxt e ∧ P items.length e := by
    intro rest
    induction rest with
    | nil =>
      intro k env hd hk hp
      refine ⟨env, rfl, ?_⟩
      simp only [List.length_nil, Nat.add_zero] at hk
      rw [← hk]; exact hp
    | cons x xs ih =>
      intro k env hd hk hp
      have hx : items[k]? = some x := by
        rw [← List.head?_drop, hd]; rfl
      obtain ⟨e2, e3, q1, q2, q3⟩ := h k x env hx hp
      have hd' : items.drop (k + 1) = xs := by
        rw [← List.tail_drop, hd]; rfl
      obtain ⟨e, q4, q5⟩ := ih (k + 1) e3 hd' (by simp only [List.length_cons] at hk; omega) q3
      refine ⟨e, ?_, q5⟩
      unfold forS
      rw [q1]
      simp only [q2]
      exact q4
  exact key items 0 env rfl (by simp) h0
/-- a list is made longer turn by turn -/
theorem forS_acc {g : D → En → Option En} {body : En → SR} {f : D → List D} {J : Type} (V : J → Prop) (E : List D → J → En) : ∀ (items : List D) (l : List D) (j : J), V j → l.length + (items.flatMap f).length ≤ big →
    (∀ x ∈ items, ∀ (l : List D) (j : J), V j → l.length + (f x).length ≤ big → ∃ e2 j', g x (E l j) = some e2 ∧ V j' ∧ body e2 = .nxt (E (l ++ f x) j')) →
    ∃ j', V j' ∧ forS g body items (E l j) = .nxt (E (l ++ items.flatMap f) j')
  | [], l, j, hj, _, _ => ⟨j, hj, by simp [forS]⟩
  | x :: xs, l, j, hj, hb, h => by
    rw [List.flatMap_cons, List.length_append] at hb
    obtain ⟨e2, j', q1, q2, q3⟩ := h x List.mem_cons_self l j hj (by omega)
    obtain ⟨j2, q4, q5⟩ := forS_acc V E xs (l ++ f x) j' q2 (by rw [List.length_append]; omega) (fun y hy => h y (List.mem_cons_of_mem _ hy))
    refine ⟨j2, q4, ?_⟩
    unfold forS
    rw [q1]
    simp only [q3]
    rw [show (SR.nxt (E (l ++ f x) j')).next (forS g body xs) = forS g body xs (E (l ++ f x) j') from rfl, q5, List.flatMap_cons, List.append_assoc]
/-- the first that is looked for is returned -/
theorem forS_find {g : D → En → Option En} {body : En → SR} {test : D → Bool} {J : Type} (V : J → Prop) (E : J → En) : ∀ (items : List D) (j : J), V j →
    (∀ x ∈ items, ∀ (j : J), V j → ∃ e2, g x (E j) = some e2 ∧ if test x = true then ∃ j', body e2 = .ret x (E j') else ∃ j', V j' ∧ body e2 = .nxt (E j')) →
    match items.find? test with
    | some x => ∃ j', forS g body items (E j) = .ret x (E j')
    | none => ∃ j', V j' ∧ forS g body items (E j) = .nxt (E j')
  | [], j, hj, _ => ⟨j, hj, rfl⟩
  | x :: xs, j, hj, h => by
    obtain ⟨e2, q1, q2⟩ := h x List.mem_cons_self j hj
    rw [List.find?_cons]
    cases ht : test x with
    | true =>
      rw [ht] at q2
      simp only [if_true] at q2
      obtain ⟨j', q3⟩ := q2
      refine ⟨j', ?_⟩
      unfold forS
      rw [q1]
      simp only [q3]
      rfl
    | false =>
      rw [ht] at q2
      simp only [Bool.false_eq_true, if_false] at q2
      obtain ⟨j', q3, q4⟩ := q2
      have ih := forS_find (g := g) (body := body) (test := test) V E xs j' q3 fun y hy => h y (List.mem_cons_of_mem _ hy)
      have e : forS g body (x :: xs) (E j) = forS g body xs (E j') := by
        conv => lhs; unfold forS
        rw [q1]
        simp only [q4]
        rfl
      rw [e]
      exact ih
theorem outs_dat : ∀ (ds : List D) (e : En), ds.length ≤ e.length → outs (ds.map .dat) e = ds.map .dat
  | [], _, _ => by simp [outs]
  | d :: ds, [], h => by simp at h
  | d :: ds, s :: e, h => by
    have ih := outs_dat ds e (by simpa using h)
    unfold outs at *
    rw [List.map_cons, List.zipWith_cons_cons, ih]
    rfl
theorem fin_ret {ds : List D} {d : D} {e : En} (h : ds.length ≤ e.length) : Qh.finish (ds.map .dat) (.ret d e) = .ok d (ds.map .dat) := by
  show (if (ds.map Sl.dat).length ≤ e.length then _ else _) = _
  rw [if_pos (by rw [List.length_map]; exact h), outs_dat ds e h]
theorem fin_nxt {ds : List D} {e : En} (h : ds.length ≤ e.length) : Qh.finish (ds.map .dat) (.nxt e) = .ok .non (ds.map .dat) := by
  show (if (ds.map Sl.dat).length ≤ e.length then _ else _) = _
  rw [if_pos (by rw [List.length_map]; exact h), outs_dat ds e h]
theorem rangeD_eq (lo : Int) (n : Nat) : rangeD lo n = (List.range n).map fun (k : Nat) => D.int (lo + (k : Int)) := rfl
theorem rangeD_len (lo : Int) (n : Nat) : (rangeD lo n).length = n := by rw [rangeD_eq, List.length_map, List.length_range]
theorem it_rng1 {G : Nat → Option D} {run : Run} {e : E} {env env' : En} {n : Int} (h : evE G run e env = .ok (.int n) env') (h1 : -(2 ^ 62) ≤ n) (h2 : n < 2 ^ 62) : evIt G run (.rng1 e) env = .ok (rangeD 0 n.toNat) env' := by
  simp only [evIt, h, bind_ok']
  rw [if_pos]
  simp only [Bool.and_eq_true, decide_eq_true_eq]
  exact ⟨h1, h2⟩
theorem it_rng2 {G : Nat → Option D} {run : Run} {e f : E} {env env1 env' : En} {i j : Int} (h : evE G run e env = .ok (.int i) env1) (h' : evE G run f env1 = .ok (.int j) env') (h1 : -(2 ^ 62) ≤ i) (h2 : i < 2 ^ 62) (h3 : -(2 ^ 62) ≤ j) (h4 : j < 2 ^ 62) :
    evIt G run (.rng2 e f) env = .ok (rangeD i (j - i).toNat) env' := by
  simp only [evIt, h, h', bind_ok']
  rw [if_pos]
  simp only [Bool.and_eq_true, decide_eq_true_eq]
  exact ⟨⟨⟨h1, h2⟩, h3⟩, h4⟩
theorem ss_for {G : Nat → Option D} {run : Run} {it : It} {g : Tg} {b r : Ss} {env e1 e2 : En} {items : List D} (hi : evIt G run it env = .ok items e1) (h : forS (asgT g) (evSs G run b) items e1 = .nxt e2) : evSs G run (.cons (.for it g b) r) env = evSs G run r e2 := by
  show (evS G run (.for it g b) env).next (evSs G run r) = _
  have : evS G run (.for it g b) env = .nxt e2 := by
    simp only [evS, hi, sr_ok]
    exact h
  rw [this]
  rfl
theorem ss_forR {G : Nat → Option D} {run : Run} {it : It} {g : Tg} {b r : Ss} {env e1 e2 : En} {items : List D} {d : D} (hi : evIt G run it env = .ok items e1) (h : forS (asgT g) (evSs G run b) items e1 = .ret d e2) : evSs G run (.cons (.for it g b) r) env = .ret d e2 := by
  show (evS G run (.for it g b) env).next (evSs G run r) = _
  have : evS G run (.for it g b) env = .ret d e2 := by
    simp only [evS, hi, sr_ok]
    exact h
  rw [this]
  rfl
theorem ss_ite_tr {G : Nat → Option D} {run : Run} {c : E} {a b r : Ss} {env e1 e2 : En} {d : D} (hc : (evE G run c env).bind asB = .ok true e1) (ha : evSs G run a e1 = .ret d e2) : evSs G run (.cons (.ite c a b) r) env = .ret d e2 := by
  show (evS G run (.ite c a b) env).next (evSs G run r) = _
  have : evS G run (.ite c a b) env = .ret d e2 := by
    simp only [evS]
    rw [hc]
    exact ha
  rw [this]
  rfl
theorem ss_ite_fn {G : Nat → Option D} {run : Run} {c : E} {a r : Ss} {env e1 : En} (hc : (evE G run c env).bind asB = .ok false e1) : evSs G run (.cons (.ite c a .nil) r) env = evSs G run r e1 := by
  show (evS G run (.ite c a .nil) env).next (evSs G run r) = _
  have : evS G run (.ite c a .nil) env = .nxt e1 := by
    simp only [evS]
    rw [hc]
    rfl
  rw [this]
  rfl
theorem ss_ret {G : Nat → Option D} {run : Run} {e : E} {r : Ss} {env e1 : En} {d : D} (h : evE G run e env = .ok d e1) : evSs G run (.cons (.ret e) r) env = .ret d e1 := by
  show (evS G run (.ret e) env).next (evSs G run r) = _
  simp only [evS, h, sr_ok, next_ret]
theorem ss_asg {G : Nat → Option D} {run : Run} {g : Tg} {e : E} {r : Ss} {env e1 e2 : En} {d : D} (h : evE G run e env = .ok d e1) (ha : asgT g d e1 = some e2) : evSs G run (.cons (.asg g e) r) env = evSs G run r e2 := by
  show (evS G run (.asg g e) env).next (evSs G run r) = _
  simp only [evS, h, sr_ok, ha, optS_some, next_nxt]

theorem asgT_nm {i : Nat} {d : D} {env : En} (h : (env.at i).isOwn = false) : asgT (.nm i) d env = some (env.set i (.dat d)) := by
  show (match env.at i with | .own _ => none | _ => some (env.set i (.dat d))) = _
  cases q : env.at i with
  | own o => rw [q] at h; cases h
  | non => rfl
  | dat x => rfl
/-- a state is carried through a loop -/
theorem forS_st {g : D → En → Option En} {body : En → SR} {St J : Type} (V : St → J → Prop) (E : St → J → En) (step : D → St → St) : ∀ (items : List D) (s : St) (j : J), V s j →
    (∀ x ∈ items, ∀ (s : St) (j : J), V s j → ∃ e2 j', g x (E s j) = some e2 ∧ V (step x s) j' ∧ body e2 = .nxt (E (step x s) j')) →
    ∃ j', V (items.foldl (fun s x => step x s) s) j' ∧ forS g body items (E s j) = .nxt (E (items.foldl (fun s x => step x s) s) j')
  | [], s, j, hj, _ => ⟨j, hj, rfl⟩
  | x :: xs, s, j, hj, h => by
    obtain ⟨e2, j', q1, q2, q3⟩ := h x List.mem_cons_self s j hj
    obtain ⟨j2, q4, q5⟩ := forS_st V E step xs (step x s) j' q2 fun y hy => h y (List.mem_cons_of_mem _ hy)
    refine ⟨j2, q4, ?_⟩
    conv => lhs; unfold forS
    rw [q1]
    simp only [q3]
    exact q5
theorem at_set {env : En} {v : Nat} {s : Sl} (h : v < env.length) : En.at (env.set v s) v = s := by
  unfold En.at
  rw [List.getD_eq_getElem?_getD, List.getElem?_set_self h]
  rfl
/-- a comprehension that keeps some -/
theorem lc_filter {G : Nat → Option D} {run : Run} {v : Nat} {it : It} {c : E} {env : En} {items : List D} {test : D → Bool} (hi : evIt G run it env = .ok items env) (hv : (env.at v).isOwn = false) (hl : v < env.length) (hb : items.length < big)
    (h : ∀ x ∈ items, evE G run c (env.set v (.dat x)) = .ok (.bl (test x)) (env.set v (.dat x))) : evE G run (.lc [v] it (.nm v) (.some c) (.var v)) env = .ok (.lst (items.filter test)) env := by
  have key : ∀ (xs acc : List D), (∀ x ∈ xs, x ∈ items) → acc.length + xs.length < big → lcLoop (lcBody [v] (asgT (.nm v)) (evT G run (.some c)) (evE G run (.var v))) xs acc (env.set v .non) = .ok (acc ++ xs.filter test) (env.set v .non) := by
    intro xs
    induction xs with
    | nil =>
      intro acc _ ha
      unfold lcLoop
      rw [if_pos (by simpa using ha)]
      simp
    | cons x xs ih =>
      intro acc hm ha
      simp only [List.length_cons] at ha
      have hx := h x (hm x List.mem_cons_self)
      have ea : asgT (.nm v) x (env.set v .non) = some (env.set v (.dat x)) := by
        rw [asgT_nm (by rw [at_set hl]; rfl), List.set_set]
      have et : evT G run (.some c) (env.set v (.dat x)) = .ok (test x) (env.set v (.dat x)) := by
        simp only [evT, hx, bind_ok']
      have ev : evE G run (.var v) (env.set v (.dat x)) = .ok x (env.set v (.dat x)) := by
        simp only [evE, at_set hl, val_dat, opt_some]
      have eb : lcBody [v] (asgT (.nm v)) (evT G run (.some c)) (evE G run (.var v)) x (env.set v .non) = .ok (if test x = true then some x else none) (env.set v .non) := by
        rw [lcBody_eq, ea]
        simp only [et, bind_ok', ev]
        split <;> simp only [wipeE, List.set_set]
      unfold lcLoop
      rw [if_pos (by omega), eb]
      simp only [bind_ok']
      cases ht : test x with
      | true =>
        simp only [if_true, Option.toList_some]
        rw [ih (acc ++ [x]) (fun y hy => hm y (List.mem_cons_of_mem _ hy)) (by rw [List.length_append]; simp only [List.length_singleton]; omega), List.filter_cons_of_pos ht, List.append_assoc]
        rfl
      | false =>
        simp only [Bool.false_eq_true, if_false, Option.toList_none, List.append_nil]
        rw [ih acc (fun y hy => hm y (List.mem_cons_of_mem _ hy)) (by omega), List.filter_cons_of_neg (by rw [ht]; simp)]
  have hk := key items [] (fun _ h => h) (by simpa using hb)
  have e1 : ([v].any fun i => (env.at i).isOwn) = false := by simp [hv]
  simp only [evE, hi, bind_ok', e1, Bool.false_eq_true, if_false]
  have ew : wipeE env [v] = env.set v .non := rfl
  rw [ew]
  have hk' : lcLoop (lcBody [v] (asgT (.nm v)) (evT G run (.some c)) fun env => opt (env.at v).val env) items [] (env.set v .non) = .ok ([] ++ items.filter test) (env.set v .non) := hk
  have hk'' := hk
  simp only [evE] at hk
  first | rw [hk] | rw [hk'']
  simp only [noExc, bind_ok', List.nil_append]
  congr 1
  have e3 : ∀ X : En, backE env X [v] = X.set v (env.at v) := by
    intro X
    unfold backE
    cases q : env.at v with
    | own o => rw [q] at hv; cases hv
    | non => rfl
    | dat x => rfl
  rw [e3]
  rw [List.set_set]
  apply List.ext_getElem?
  intro k
  by_cases hk : v = k
  · subst hk
    rw [List.getElem?_set_self hl, List.getElem?_eq_getElem hl]
    unfold En.at
    rw [List.getD_eq_getElem?_getD, List.getElem?_eq_getElem hl]
    rfl
  · rw [List.getElem?_set_ne hk]
theorem ss_ite_tn {G : Nat → Option D} {run : Run} {c : E} {a b r : Ss} {env e1 e2 : En} (hc : (evE G run c env).bind asB = .ok true e1) (ha : evSs G run a e1 = .nxt e2) : evSs G run (.cons (.ite c a b) r) env = evSs G run r e2 := by
  show (evS G run (.ite c a b) env).next (evSs G run r) = _
  have : evS G run (.ite c a b) env = .nxt e2 := by
    simp only [evS]
    rw [hc]
    exact ha
  rw [this]
  rfl
end Qh

/-! Rows and tables as data. -/
namespace Qh
open PySem PySem.Spec PyProof.Rows L2 PySem.W
abbrev Vl := Option Int
abbrev Row := List Vl
def vD : Vl → D
  | none => .non
  | some i => .int i
def rD (r : Row) : D := .tup (r.map vD)
def tD (t : List Row) : D := .tup (t.map rD)
def tL (t : List Row) : D := .lst (t.map rD)
/-! ### depth, equality -/
theorem deps_le {m : Nat} : ∀ l : List D, (∀ d ∈ l, ∃ k, d.dep = some k ∧ k ≤ m) → ∃ k, D.deps l = some k ∧ k ≤ m
  | [], _ => ⟨0, rfl, Nat.zero_le _⟩
  | d :: l, h => by
    obtain ⟨k, h1, h2⟩ := h d List.mem_cons_self
    obtain ⟨k2, h3, h4⟩ := deps_le l fun x hx => h x (List.mem_cons_of_mem _ hx)
    exact ⟨max k k2, by simp only [D.deps, h1, h3], by omega⟩
theorem dep_v (v : Vl) : (vD v).dep = some 0 := by cases v <;> rfl
theorem dep_r (r : Row) : ∃ k, (rD r).dep = some k ∧ k ≤ 1 := by
  obtain ⟨k, h1, h2⟩ := deps_le (m := 0) (r.map vD) fun d hd => by
    obtain ⟨v, _, rfl⟩ := List.mem_map.mp hd
    exact ⟨0, dep_v v, Nat.le_refl _⟩
  exact ⟨k + 1, by simp only [rD, D.dep, h1, Option.map_some], by omega⟩
theorem dep_rs (t : List Row) : ∃ k, D.deps (t.map rD) = some k ∧ k ≤ 1 := deps_le _ fun d hd => by
  obtain ⟨v, _, rfl⟩ := List.mem_map.mp hd
  exact dep_r v
theorem dep_is (l : List Int) : ∃ k, D.deps (l.map .int) = some k ∧ k ≤ 0 := deps_le _ fun d hd => by
  obtain ⟨v, _, rfl⟩ := List.mem_map.mp hd
  exact ⟨0, rfl, Nat.le_refl _⟩
theorem eqOk_of {a b : D} {m n : Nat} (ha : ∃ k, a.dep = some k ∧ k ≤ m) (hb : ∃ k, b.dep = some k ∧ k ≤ n) (hm : m ≤ 40) (hn : n ≤ 40) : eqOk a b = true := by
  obtain ⟨k, h1, h2⟩ := ha
  obtain ⟨j, h3, h4⟩ := hb
  unfold eqOk
  rw [h1, h3]
  simp only [Bool.and_eq_true, decide_eq_true_eq]
  omega
theorem dep_tup {l : List D} {m : Nat} (h : ∃ k, D.deps l = some k ∧ k ≤ m) : ∃ k, (D.tup l).dep = some k ∧ k ≤ m + 1 := by
  obtain ⟨k, h1, h2⟩ := h
  exact ⟨k + 1, by simp only [D.dep, h1, Option.map_some], by omega⟩
theorem dep_lst {l : List D} {m : Nat} (h : ∃ k, D.deps l = some k ∧ k ≤ m) : ∃ k, (D.lst l).dep = some k ∧ k ≤ m + 1 := by
  obtain ⟨k, h1, h2⟩ := h
  exact ⟨k + 1, by simp only [D.dep, h1, Option.map_some], by omega⟩
theorem eqV (a b : Vl) : D.eq (vD a) (vD b) = decide (a = b) := by
  cases a <;> cases b
  · rfl
  · rfl
  · rfl
  · rename_i i j
    show D.eq (.int i) (.int j) = _
    rw [eqI]
    simp
theorem eqTup (l m : List D) : D.eq (.tup l) (.tup m) = PyData.eqvAll (D.pys l) (D.pys m) := by
  show PyData.eqv (.tuple (D.pys l)) (.tuple (D.pys m)) = _
  simp only [PyData.eqv]
theorem eqLst (l m : List D) : D.eq (.lst l) (.lst m) = PyData.eqvAll (D.pys l) (D.pys m) := by
  show PyData.eqv (.list (D.pys l)) (.list (D.pys m)) = _
  simp only [PyData.eqv]
theorem eqAll_map {α : Type} (f : α → D) [DecidableEq α] : ∀ l m : List α, (∀ a ∈ l, ∀ b ∈ m, D.eq (f a) (f b) = decide (a = b)) → PyData.eqvAll (D.pys (l.map f)) (D.pys (m.map f)) = decide (l = m)
  | [], [], _ => by simp only [List.map_nil, D.pys, PyData.eqvAll]; rfl
  | [], b :: m, _ => by simp only [List.map_nil, List.map_cons, D.pys, PyData.eqvAll]; simp
  | a :: l, [], _ => by simp only [List.map_nil, List.map_cons, D.pys, PyData.eqvAll]; simp
  | a :: l, b :: m, h => by
    have h1 := h a List.mem_cons_self b List.mem_cons_self
    have h2 := eqAll_map f l m fun x hx y hy => h x (List.mem_cons_of_mem _ hx) y (List.mem_cons_of_mem _ hy)
    simp only [List.map_cons, D.pys, PyData.eqvAll]
    rw [h2]
    have h3 : PyData.eqv (f a).py (f b).py = decide (a = b) := h1
    rw [h3]
    simp
theorem eqR (r s : Row) : D.eq (rD r) (rD s) = decide (r = s) := by
  unfold rD
  rw [eqTup]
  exact eqAll_map vD r s fun a _ b _ => eqV a b
theorem eqIs (l m : List Int) : PyData.eqvAll (D.pys (l.map .int)) (D.pys (m.map .int)) = decide (l = m) := eqAll_map D.int l m fun a _ b _ => eqI a b
@[simp] theorem cmp_eqR (r s : Row) : opCmp .eq (rD r) (rD s) = some (decide (r = s)) := by
  show (if eqOk (rD r) (rD s) then some (D.eq (rD r) (rD s)) else none) = _
  rw [eqR, if_pos (eqOk_of (dep_r r) (dep_r s) (by omega) (by omega))]
@[simp] theorem cmp_eqV (r s : Vl) : opCmp .eq (vD r) (vD s) = some (decide (r = s)) := by
  show (if eqOk (vD r) (vD s) then some (D.eq (vD r) (vD s)) else none) = _
  rw [eqV, if_pos (eqOk_of ⟨0, dep_v r, Nat.le_refl _⟩ ⟨0, dep_v s, Nat.le_refl _⟩ (by omega) (by omega))]
@[simp] theorem cmp_isV (v : Vl) : opCmp .is (vD v) .non = some (decide (v = none)) := by cases v <;> rfl
@[simp] theorem cmp_isnV (v : Vl) : opCmp .isnot (vD v) .non = some (!decide (v = none)) := by cases v <;> rfl
theorem inDR (r : Row) (t : List Row) : inD (rD r) (t.map rD) = decide (r ∈ t) := by
  unfold inD
  rw [List.any_map]
  rw [Bool.eq_iff_iff]
  simp only [List.any_eq_true, Function.comp_apply, eqR, decide_eq_true_eq]
  constructor
  · rintro ⟨x, h1, rfl⟩; exact h1
  · intro h; exact ⟨r, h, rfl⟩
theorem inRL (r : Row) (t : List Row) : opIn (rD r) (.lst (t.map rD)) = some (decide (r ∈ t)) := by
  show (if eqOk (rD r) (.tup (t.map rD)) then some (inD (rD r) (t.map rD)) else none) = _
  rw [inDR, if_pos (eqOk_of (dep_r r) (dep_tup (dep_rs t)) (by omega) (by omega))]
theorem countRL (r : Row) (t : List Row) : opMe .count (.lst (t.map rD)) [rD r] = some (.int (t.count r)) := by
  show (if eqOk (rD r) (.tup (t.map rD)) then some (D.int (countD (rD r) (t.map rD))) else none) = _
  rw [if_pos (eqOk_of (dep_r r) (dep_tup (dep_rs t)) (by omega) (by omega))]
  unfold countD List.count
  rw [List.countP_map]
  congr 3
  apply List.countP_congr
  intro x _
  simp only [Function.comp_apply, eqR, decide_eq_true_eq, beq_iff_eq]
/-! ### keys -/
def kV : Vl → NestedKey
  | none => .none
  | some i => .num i
def kR (r : Row) : NestedKey := .tup (r.map kV)
theorem kOf_v (v : Vl) : kOf (vD v) = some (kV v) := by cases v <;> rfl
theorem kOfs_v : ∀ r : Row, kOfs (r.map vD) = some (r.map kV)
  | [] => rfl
  | v :: r => by simp only [List.map_cons, kOfs, kOf_v, kOfs_v r]
theorem kOf_r (r : Row) : kOf (rD r) = some (kR r) := by
  unfold rD
  simp only [kOf, kOfs_v, Option.map_some]
  rfl
theorem kR_inj {r s : Row} (h : kR r = kR s) : r = s := by
  unfold kR at h
  injection h with h
  exact (List.map_inj_right (f := kV) (fun a b h => by cases a <;> cases b <;> simp_all [kV])).mp h
theorem ntK_r (r : Row) : ntK (kR r) = true := by
  unfold kR
  simp only [ntK]
  induction r with
  | nil => rfl
  | cons v r ih =>
    simp only [List.map_cons, ntKs, ih]
    cases v <;> rfl
theorem keyT_r (r : Row) (h : (kR r).depth ≤ 8) : keyT (rD r) = some (kR r) := by
  have e := kOf_r r
  unfold rD at *
  simp only [keyT, e, ntK_r, decide_eq_true h]
  rfl
theorem hit_r (r s : Row) : hitT (kR r) (rD s) = decide (s = r) := by
  unfold hitT
  rw [kOf_r]
  rw [decide_eq_decide]
  constructor
  · intro h; injection h with h; exact kR_inj h
  · rintro rfl; rfl
theorem allT_r (t : List Row) : allT (t.map rD) = true := by
  unfold allT
  rw [List.all_map, List.all_eq_true]
  intro x _
  rfl
theorem depK (r : Row) : (kR r).depth ≤ 8 := by
  unfold kR
  simp only [NestedKey.depth]
  have : NestedKey.depthAll (r.map kV) = 0 := by
    induction r with
    | nil => rfl
    | cons v r ih =>
      simp only [List.map_cons, NestedKey.depthAll, ih]
      cases v <;> rfl
  omega
theorem keyR (r : Row) : keyT (rD r) = some (kR r) := keyT_r r (depK r)
/-! ### bags: rows and how often -/
abbrev Bag := List (Row × Int)
def bK (b : Bag) : List D := b.map fun p => rD p.1
def bV (b : Bag) : List D := b.map fun p => .int p.2
def look (r : Row) : Bag → Option Int
  | [] => none
  | p :: b => if p.1 = r then some p.2 else look r b
def putB (r : Row) (i : Int) : Bag → Bag
  | [] => [(r, i)]
  | p :: b => if p.1 = r then (r, i) :: b else p :: putB r i b
theorem dFind_r (r : Row) : ∀ b : Bag, dFind (hitT (kR r)) (bK b) (bV b) = (look r b).map .int
  | [] => rfl
  | p :: b => by
    have ih := dFind_r r b
    unfold bK bV at *
    simp only [List.map_cons, dFind, hit_r, look, decide_eq_true_eq]
    by_cases h : p.1 = r
    · rw [if_pos h, if_pos h]; rfl
    · rw [if_neg h, if_neg h]; exact ih
theorem bK_all (b : Bag) : allT (bK b) = true := by
  have := allT_r (b.map (·.1))
  unfold bK
  rw [List.map_map] at this
  exact this
theorem dVal_r (r : Row) (b : Bag) : dVal (bK b) (bV b) (rD r) = some ((look r b).map .int) := by
  have e := keyR r
  unfold rD at e
  unfold rD
  simp only [dVal, e, bK_all, if_true]
  rw [dFind_r]
theorem opGet_r (r : Row) (b : Bag) (i : Int) : opGet (.dct (bK b) (bV b)) (rD r) (.int i) = some (.int ((look r b).getD i)) := by
  have e := dVal_r r b
  unfold rD at e
  unfold rD
  simp only [opGet, e, Option.map_some]
  cases look r b <;> rfl
theorem opIx_r {r : Row} {b : Bag} {i : Int} (h : look r b = some i) : opIx (.dct (bK b) (bV b)) (rD r) = some (.int i) := by
  have e := dVal_r r b
  simp only [opIx, e, h]
  rfl
theorem dSet_r (r : Row) (i : Int) : ∀ b : Bag, (bK b).any (hitT (kR r)) = true → (bK b, dSet (hitT (kR r)) (.int i) (bK b) (bV b)) = (bK (putB r i b), bV (putB r i b))
  | [], h => by simp [bK] at h
  | p :: b, h => by
    unfold bK bV at *
    simp only [List.map_cons, dSet, hit_r, putB, decide_eq_true_eq, List.any_cons, Bool.or_eq_true] at *
    by_cases hp : p.1 = r
    · rw [if_pos hp, if_pos hp]
      simp only [List.map_cons, hp]
    · rw [if_neg hp, if_neg hp]
      have ih := dSet_r r i b (h.resolve_left hp)
      unfold bK bV at ih
      injection ih with i1 i2
      simp only [List.map_cons]
      rw [← i1, ← i2]
theorem putB_new (r : Row) (i : Int) : ∀ b : Bag, ¬ (bK b).any (hitT (kR r)) = true → putB r i b = b ++ [(r, i)]
  | [], _ => rfl
  | p :: b, h => by
    unfold bK at h
    simp only [List.map_cons, hit_r, putB, decide_eq_true_eq, List.any_cons, Bool.or_eq_true, not_or] at *
    rw [if_neg h.1, putB_new r i b h.2]
    rfl
theorem dPut_r (r : Row) (i : Int) (b : Bag) (hb : b.length < big) : dPut (bK b) (bV b) (rD r) (.int i) = some (bK (putB r i b), bV (putB r i b)) := by
  have e := keyR r
  unfold rD at e
  have hl : (bK b).length = b.length := by unfold bK; rw [List.length_map]
  have hl2 : (bV b).length = b.length := by unfold bV; rw [List.length_map]
  unfold dPut
  rw [if_pos (by rw [hl, hl2]; simp [hb])]
  unfold rD
  simp only [e, bK_all, if_true]
  congr 1
  split
  · rename_i h
    exact dSet_r r i b h
  · rename_i h
    rw [putB_new r i b h]
    unfold bK bV
    simp [rD]
def bump (b : Bag) (r : Row) : Bag := putB r ((look r b).getD 0 + 1) b
def bagOf (t : List Row) : Bag := t.foldl bump []
/-- the rows of a table, each once, as they come -/
def dd (t : List Row) : List Row := t.foldl (fun l r => if r ∈ l then l else l ++ [r]) []
def bagF (l : List Row) (f : Row → Int) : Bag := l.map fun r => (r, f r)
theorem look_F (r : Row) (f : Row → Int) : ∀ l : List Row, look r (bagF l f) = if r ∈ l then some (f r) else none
  | [] => rfl
  | s :: l => by
    have ih := look_F r f l
    unfold bagF at *
    simp only [List.map_cons, look]
    by_cases h : s = r
    · subst h; simp
    · rw [if_neg h, ih]
      have : (r ∈ s :: l) ↔ r ∈ l := by simp [Ne.symm h]
      simp only [this]
theorem putB_F (r : Row) (f : Row → Int) (i : Int) : ∀ l : List Row, l.Nodup → putB r i (bagF l f) = bagF (if r ∈ l then l else l ++ [r]) (fun s => if s = r then i else f s)
  | [], _ => by simp [bagF, putB]
  | s :: l, hn => by
    obtain ⟨hs, hn'⟩ := List.nodup_cons.mp hn
    have ih := putB_F r f i l hn'
    unfold bagF at *
    simp only [List.map_cons, putB]
    by_cases h : s = r
    · subst h
      have : ∀ x ∈ l, (x, f x) = (x, if x = s then i else f x) := by
        intro x hx
        rw [if_neg (fun (e : x = s) => hs (by rw [← e]; exact hx))]
      simp only [if_true, List.mem_cons_self, List.map_cons]
      rw [List.map_congr_left this]
    · rw [if_neg h, ih]
      have : (r ∈ s :: l) ↔ r ∈ l := by simp [Ne.symm h]
      simp only [this]
      split <;> simp [h]
def ddS (l : List Row) (t : List Row) : List Row := t.foldl (fun l r => if r ∈ l then l else l ++ [r]) l
theorem ddS_nd : ∀ (t l : List Row), l.Nodup → (ddS l t).Nodup
  | [], l, h => h
  | r :: t, l, h => by
    show (ddS (if r ∈ l then l else l ++ [r]) t).Nodup
    apply ddS_nd
    split
    · exact h
    · rename_i hr
      rw [List.nodup_append]
      exact ⟨h, by simp, fun a ha b hb e => hr (by simp at hb; rw [← hb, ← e]; exact ha)⟩
theorem ddS_mem : ∀ (t l : List Row) (x : Row), x ∈ ddS l t ↔ x ∈ l ∨ x ∈ t
  | [], l, x => by simp [ddS]
  | r :: t, l, x => by
    show x ∈ ddS (if r ∈ l then l else l ++ [r]) t ↔ _
    rw [ddS_mem t]
    split
    · rename_i hr
      simp only [List.mem_cons]
      constructor
      · rintro (h | h); exact .inl h; exact .inr (.inr h)
      · rintro (h | h | h); exact .inl h; exact .inl (h ▸ hr); exact .inr h
    · simp only [List.mem_append, List.mem_cons, List.not_mem_nil, or_false]
      constructor
      · rintro ((h | h) | h); exact .inl h; exact .inr (.inl h); exact .inr (.inr h)
      · rintro (h | h | h); exact .inl (.inl h); exact .inl (.inr h); exact .inr h
theorem ddS_len : ∀ (t l : List Row), (ddS l t).length ≤ l.length + t.length
  | [], l => by simp [ddS]
  | r :: t, l => by
    show (ddS (if r ∈ l then l else l ++ [r]) t).length ≤ _
    have := ddS_len t (if r ∈ l then l else l ++ [r])
    have h2 : (if r ∈ l then l else l ++ [r]).length ≤ l.length + 1 := by split <;> simp
    rw [List.length_cons]
    omega
theorem dd_nd (t : List Row) : (dd t).Nodup := ddS_nd t [] List.nodup_nil
theorem dd_mem {t : List Row} {x : Row} : x ∈ dd t ↔ x ∈ t := by
  have := ddS_mem t [] x
  rw [show dd t = ddS [] t from rfl, this]
  simp
theorem dd_len (t : List Row) : (dd t).length ≤ t.length := by
  have := ddS_len t []
  rw [show dd t = ddS [] t from rfl]
  simpa using this
theorem dd_app (l m : List Row) : dd (l ++ m) = ddS (dd l) m := by
  unfold dd ddS
  rw [List.foldl_append]
theorem snocInd {α : Type} {P : List α → Prop} (h0 : P []) (h1 : ∀ l a, P l → P (l ++ [a])) (l : List α) : P l := by
  have : ∀ m : List α, P m.reverse := by
    intro m
    induction m with
    | nil => exact h0
    | cons a m ih => rw [List.reverse_cons]; exact h1 _ _ ih
  have := this l.reverse
  rwa [List.reverse_reverse] at this
theorem ddS_snoc (l t : List Row) (r : Row) : ddS l (t ++ [r]) = if r ∈ ddS l t then ddS l t else ddS l t ++ [r] := by
  unfold ddS
  rw [List.foldl_append]
  rfl
theorem dd_snoc (t : List Row) (r : Row) : dd (t ++ [r]) = if r ∈ dd t then dd t else dd t ++ [r] := ddS_snoc [] t r
theorem ddS_eq (l t : List Row) : ddS l t = l ++ (dd t).filter (fun x => !decide (x ∈ l)) := by
  induction t using snocInd with
  | h0 => simp [ddS, dd]
  | h1 t r ih =>
    rw [ddS_snoc, dd_snoc, ih]
    by_cases h : r ∈ dd t
    · rw [if_pos h]
      by_cases hl : r ∈ l
      · rw [if_pos (List.mem_append_left _ hl)]
      · rw [if_pos (List.mem_append_right _ (List.mem_filter.mpr ⟨h, by simp [hl]⟩))]
    · rw [if_neg h, List.filter_append]
      by_cases hl : r ∈ l
      · rw [if_pos (List.mem_append_left _ hl)]
        simp [hl]
      · rw [if_neg]
        · simp [hl]
        · rw [List.mem_append, List.mem_filter]
          rintro (h2 | h2)
          · exact hl h2
          · exact h h2.1
theorem dd_of_nd (l : List Row) : l.Nodup → dd l = l := by
  induction l using snocInd with
  | h0 => intro _; rfl
  | h1 t r ih =>
    intro h
    rw [List.nodup_append] at h
    rw [dd_snoc, ih h.1, if_neg]
    exact fun hr => h.2.2 r hr r (by simp) rfl
theorem dd_dd_app (l m : List Row) : dd (dd l ++ dd m) = dd (l ++ m) := by
  rw [dd_app, dd_app, ddS_eq, ddS_eq, dd_of_nd _ (dd_nd l), dd_of_nd _ (dd_nd m)]
theorem dd_dd_app1 (l m : List Row) : dd (dd l ++ m) = dd (l ++ m) := by
  rw [dd_app, dd_app, dd_of_nd _ (dd_nd l)]
/-- how often each row is there -/
theorem bagOf_eq (t : List Row) : bagOf t = bagF (dd t) fun r => (t.count r : Int) := by
  induction t using snocInd with
  | h0 => rfl
  | h1 t r ih =>
    have e : bagOf (t ++ [r]) = bump (bagOf t) r := by unfold bagOf; rw [List.foldl_append]; rfl
    rw [e, ih]
    unfold bump
    rw [putB_F _ _ _ _ (dd_nd t), look_F, dd_snoc]
    have hc : ∀ s : Row, ((t ++ [r]).count s : Int) = if s = r then (t.count r : Int) + 1 else t.count s := by
      intro s
      rw [List.count_append]
      by_cases h : s = r
      · subst h; rw [if_pos rfl, List.count_singleton_self]; simp
      · rw [if_neg h, List.count_singleton, if_neg (by simpa using (Ne.symm h))]; simp
    have h0 : (if r ∈ dd t then some ((t.count r : Int)) else none).getD 0 = (t.count r : Int) := by
      split
      · rfl
      · rename_i h
        rw [List.count_eq_zero.mpr (fun hr => h (dd_mem.mpr hr))]
        rfl
    rw [h0]
    congr 1
    funext s
    exact (hc s).symm
theorem bagF_congr {l : List Row} {f g : Row → Int} (h : ∀ r ∈ l, f r = g r) : bagF l f = bagF l g := by
  unfold bagF
  exact List.map_congr_left fun r hr => by rw [h r hr]
theorem bagF_keys (l : List Row) (f : Row → Int) : bK (bagF l f) = l.map rD := by
  unfold bK bagF
  rw [List.map_map]
  rfl
/-- stores of a value of the row, over some rows -/
theorem put_fold (f : Row → Int) (t : List Row) : t.foldl (fun b r => putB r (f r) b) [] = bagF (dd t) f := by
  induction t using snocInd with
  | h0 => rfl
  | h1 t r ih =>
    rw [List.foldl_append, ih]
    show putB r (f r) (bagF (dd t) f) = _
    rw [putB_F _ _ _ _ (dd_nd t), dd_snoc]
    congr 1
    funext s
    split
    · rename_i h; rw [h]
    · rfl
/-! ### the order of rows -/
def rk : Vl → Int
  | none => -1
  | some i => i
def rks (r : Row) : List Int := r.map rk
def rle (r s : Row) : Bool := !decide (rks s < rks r)
def sortR (t : List Row) : List Row := isort rle t
theorem rle_total : PySem.W.TotalLe rle where
  total := fun a b => by
    unfold rle
    by_cases h : rks b < rks a
    · refine .inr ?_
      have : ¬ rks a < rks b := fun h2 => List.lt_irrefl _ (List.lt_trans h h2)
      simp [this]
    · exact .inl (by simp [h])
  trans := fun a b c h1 h2 => by
    unfold rle at *
    simp only [Bool.not_eq_true', decide_eq_false_iff_not, List.not_lt] at *
    exact List.le_trans h1 h2
def okV (v : Vl) : Prop := ∀ i, v = some i → 0 ≤ i
def okR (r : Row) : Prop := ∀ v ∈ r, okV v
theorem rk_inj {a b : Vl} (ha : okV a) (hb : okV b) (h : rk a = rk b) : a = b := by
  cases a <;> cases b <;> simp only [rk] at h
  · rfl
  · rename_i i; have := hb i rfl; omega
  · rename_i i; have := ha i rfl; omega
  · rw [h]
theorem rks_inj : ∀ {r s : Row}, okR r → okR s → rks r = rks s → r = s
  | [], [], _, _, _ => rfl
  | [], _ :: _, _, _, h => by simp [rks] at h
  | _ :: _, [], _, _, h => by simp [rks] at h
  | a :: r, b :: s, hr, hs, h => by
    simp only [rks, List.map_cons, List.cons.injEq] at h
    rw [rk_inj (hr a List.mem_cons_self) (hs b List.mem_cons_self) h.1, rks_inj (fun v hv => hr v (List.mem_cons_of_mem _ hv)) (fun v hv => hs v (List.mem_cons_of_mem _ hv)) h.2]
theorem rle_anti {r s : Row} (hr : okR r) (hs : okR s) (h1 : rle r s = true) (h2 : rle s r = true) : r = s := by
  unfold rle at *
  simp only [Bool.not_eq_true', decide_eq_false_iff_not, List.not_lt] at *
  exact rks_inj hr hs (List.le_antisymm h1 h2)
theorem ins_perm {α : Type} {le : α → α → Bool} {a : α} : ∀ l : List α, (ins le a l).Perm (a :: l)
  | [] => .refl _
  | b :: l => by
    unfold ins
    split
    · exact .refl _
    · exact (List.Perm.cons b (ins_perm l)).trans (List.Perm.swap a b l)
theorem isort_perm {α : Type} {le : α → α → Bool} : ∀ l : List α, (isort le l).Perm l
  | [] => .refl _
  | a :: l => (ins_perm _).trans (List.Perm.cons a (isort_perm l))
theorem sortR_perm {l m : List Row} (hl : ∀ r ∈ l, okR r) (h : l.Perm m) : sortR l = sortR m := by
  refine List.Perm.eq_of_pairwise (le := fun a b => rle a b = true) (fun a b ha hb h1 h2 => ?_) (isort_sorted rle_total l) (isort_sorted rle_total m) (((isort_perm l).trans h).trans (isort_perm m).symm)
  exact rle_anti (hl a (isort_mem.mp ha)) (hl b (h.symm.subset (isort_mem.mp hb))) h1 h2
theorem sortR_self {l : List Row} (h : l.Pairwise fun a b => rle a b = true) (hl : ∀ r ∈ l, okR r) : sortR l = l :=
  List.Perm.eq_of_pairwise (le := fun a b => rle a b = true) (fun a b ha hb h1 h2 => rle_anti (hl a (isort_mem.mp ha)) (hl b hb) h1 h2) (isort_sorted rle_total l) h (isort_perm l)
theorem sortR_mem {l : List Row} {r : Row} : r ∈ sortR l ↔ r ∈ l := isort_mem
theorem sortR_len (l : List Row) : (sortR l).length = l.length := isort_len l
theorem sortR_sorted (l : List Row) : (sortR l).Pairwise fun a b => rle a b = true := isort_sorted rle_total l
theorem sortR_nd {l : List Row} (h : l.Nodup) : (sortR l).Nodup := (isort_perm l).nodup_iff.mpr h
theorem count_spread (l : List Row) (n : Row → Nat) (s : Row) (hl : l.Nodup) : (l.flatMap fun r => List.replicate (n r) r).count s = if s ∈ l then n s else 0 := by
  induction l with
  | nil => rfl
  | cons r l ih =>
    obtain ⟨h1, h2⟩ := List.nodup_cons.mp hl
    rw [List.flatMap_cons, List.count_append, ih h2, List.count_replicate]
    by_cases h : s = r
    · subst h; simp [h1]
    · have : ¬ r = s := fun e => h e.symm
      simp [h, this]
theorem spread_perm (t : List Row) : ((dd t).flatMap fun r => List.replicate (t.count r) r).Perm t := by
  rw [List.perm_iff_count]
  intro s
  rw [count_spread _ _ _ (dd_nd t)]
  split
  · rfl
  · rename_i h
    exact (List.count_eq_zero.mpr fun hs => h (dd_mem.mpr hs)).symm
/-! ### rows with their places, sorted -/
def leI (rs : List Int) (i : Int) (ss : List Int) (j : Int) : Bool := !(if ss = rs then (if j = i then false else decide (j < i)) else decide (ss < rs))
theorem order_map (w : Row → Int → D) (hw : ∀ r i s j, leD (w r i) (w s j) = leI (rks r) i (rks s) j) (g : Nat → Row) : ∀ ks : List Nat, ks.Pairwise (fun a b => a < b) →
    ∃ ls : List Nat, isort leD (ks.map fun k => w (g k) (k : Int)) = ls.map (fun k => w (g k) (k : Int)) ∧ ls.map g = isort rle (ks.map g) ∧ ∀ k, k ∈ ls ↔ k ∈ ks
  | [], _ => ⟨[], rfl, rfl, fun _ => Iff.rfl⟩
  | k :: ks, h => by
    obtain ⟨h1, h2⟩ := List.pairwise_cons.mp h
    obtain ⟨ls, e1, e2, e3⟩ := order_map w hw g ks h2
    refine ⟨ins (fun a b => leD (w (g a) (a : Int)) (w (g b) (b : Int))) k ls, ?_, ?_, fun j => ?_⟩
    · simp only [List.map_cons, isort]
      rw [e1]
      exact (ins_map (fun k => w (g k) (k : Int)) fun b _ => rfl).symm
    · simp only [List.map_cons, isort]
      rw [← e2]
      refine ins_map g fun b hb => ?_
      have hlt := h1 b ((e3 b).mp hb)
      rw [hw]
      unfold leI rle
      by_cases hs : rks (g b) = rks (g k)
      · rw [if_pos hs, if_neg (by omega), hs]
        have : ¬ ((b : Int) < k) := by omega
        have h3 : ¬ rks (g k) < rks (g k) := List.lt_irrefl _
        simp [this, h3]
      · rw [if_neg hs]
    · rw [ins_mem, e3, List.mem_cons]
/-- the row at a place -/
def nth (t : List Row) (k : Nat) : Row := t.getD k []
theorem range_get (rows : List Row) : (List.range rows.length).map (fun k => nth rows k) = rows := by
  apply List.ext_getElem?
  intro k
  rw [List.getElem?_map]
  by_cases h : k < rows.length
  · rw [List.getElem?_range h, List.getElem?_eq_getElem h]
    simp [nth, List.getD_eq_getElem?_getD, List.getElem?_eq_getElem h]
  · rw [List.getElem?_eq_none (by simpa using h), List.getElem?_eq_none (by simpa using h)]
    rfl
theorem order_rows (w : Row → Int → D) (hw : ∀ r i s j, leD (w r i) (w s j) = leI (rks r) i (rks s) j) (rows : List Row) :
    ∃ ls : List Nat, isort leD ((List.range rows.length).map fun k => w (nth rows k) (k : Int)) = ls.map (fun k => w (nth rows k) (k : Int)) ∧ ls.map (fun k => nth rows k) = sortR rows ∧ ∀ k ∈ ls, k < rows.length := by
  obtain ⟨ls, h1, h2, h3⟩ := order_map w hw (fun k => nth rows k) (List.range rows.length) List.pairwise_lt_range
  refine ⟨ls, h1, ?_, fun k hk => List.mem_range.mp ((h3 k).mp hk)⟩
  rw [h2, range_get]
  rfl
def rkD (r : Row) : D := .tup ((rks r).map .int)
def rlD (r : Row) : D := .lst ((r.map fun v => rk v + 1).map .int)
def pI (r : Row) (i : Int) : D := .tup [rkD r, .int i]
def pL (r : Row) (i : Int) : D := .tup [rlD r, .int i]
theorem pys_is : ∀ l : List Int, D.pys (l.map .int) = l.map PyData.int
  | [] => rfl
  | i :: l => by simp only [List.map_cons, D.pys, pys_is l, D.py]
theorem alikeIs : ∀ l m : List Int, alikeAll (l.map PyData.int) (m.map PyData.int) = true
  | [], m => by simp only [List.map_nil, alikeAll]
  | i :: l, [] => by simp only [List.map_nil, List.map_cons, alikeAll]
  | i :: l, j :: m => by simp only [List.map_cons, alikeAll, alike, alikeIs l m]; rfl
theorem eqvIs : ∀ l m : List Int, PyData.eqvAll (l.map PyData.int) (m.map PyData.int) = decide (l = m) := by
  intro l m
  have := eqIs l m
  rwa [pys_is, pys_is] at this
theorem leD_pI (r : Row) (i : Int) (s : Row) (j : Int) : leD (pI r i) (pI s j) = leI (rks r) i (rks s) j := by
  unfold leD leI pI rkD
  simp only [D.py, D.pys, pys_is]
  rw [dataLt_pair (by simp only [alike, alikeIs]) (by simp only [alike]), dataLt_int, dataLt_tuple]
  simp only [PyData.eqv, eqvIs, decide_eq_true_eq]
  rw [show PyProof.Rows.lexLt itemOrd (keyToksAll ((rks s).map PyData.int)) (keyToksAll ((rks r).map PyData.int)) = decide (rks s < rks r) from dataLt_ints _ _]
  simp only [beq_iff_eq]
theorem lt_succ : ∀ l m : List Vl, (l.map fun v => rk v + 1) < (m.map fun v => rk v + 1) ↔ l.map rk < m.map rk
  | [], [] => by simp
  | [], b :: m => by simp
  | a :: l, [] => by simp
  | a :: l, b :: m => by
    simp only [List.map_cons, List.cons_lt_cons_iff, lt_succ l m]
    constructor
    · rintro (h | ⟨h, h2⟩)
      · exact .inl (by omega)
      · exact .inr ⟨by omega, h2⟩
    · rintro (h | ⟨h, h2⟩)
      · exact .inl (by omega)
      · exact .inr ⟨by omega, h2⟩
theorem eq_succ : ∀ l m : List Vl, (l.map fun v => rk v + 1) = (m.map fun v => rk v + 1) ↔ l.map rk = m.map rk
  | [], [] => by simp
  | [], b :: m => by simp
  | a :: l, [] => by simp
  | a :: l, b :: m => by
    simp only [List.map_cons, List.cons.injEq, eq_succ l m]
    constructor
    · rintro ⟨h, h2⟩; exact ⟨by omega, h2⟩
    · rintro ⟨h, h2⟩; exact ⟨by omega, h2⟩
theorem leD_pL (r : Row) (i : Int) (s : Row) (j : Int) : leD (pL r i) (pL s j) = leI (rks r) i (rks s) j := by
  unfold leD leI pL rlD
  simp only [D.py, D.pys, pys_is]
  rw [dataLt_pair (by simp only [alike, alikeIs]) (by simp only [alike]), dataLt_int, dataLt_list]
  simp only [PyData.eqv, eqvIs, decide_eq_true_eq]
  rw [show PyProof.Rows.lexLt itemOrd (keyToksAll ((s.map fun v => rk v + 1).map PyData.int)) (keyToksAll ((r.map fun v => rk v + 1).map PyData.int)) = decide ((s.map fun v => rk v + 1) < (r.map fun v => rk v + 1)) from dataLt_ints _ _]
  simp only [beq_iff_eq]
  have h1 := lt_succ s r
  have h2 := eq_succ s r
  unfold rks
  simp only [h1, h2]
theorem sortOk_of (w : Row → Int → D) (hw : (w = pI) ∨ (w = pL)) (rows : List Row) (ks : List Nat) : sortOk (ks.map fun k => w (nth rows k) (k : Int)) = true := by
  unfold sortOk
  simp only [Bool.and_eq_true, List.all_map, List.all_eq_true, Bool.or_eq_true, Function.comp_apply]
  rcases hw with rfl | rfl
  · refine ⟨fun a _ b _ => ?_, .inl fun a _ => rfl, fun a _ => ?_⟩
    · simp only [pI, rkD, D.py, D.pys, pys_is, alike, alikeAll, alikeIs]; rfl
    · obtain ⟨k, h1, h2⟩ := dep_tup (dep_is (rks (nth rows a)))
      unfold depOk pI rkD
      simp only [D.dep, D.deps] at h1 ⊢
      simp only [h1, Option.map_some, decide_eq_true_eq]
      omega
  · refine ⟨fun a _ b _ => ?_, .inl fun a _ => rfl, fun a _ => ?_⟩
    · simp only [pL, rlD, D.py, D.pys, pys_is, alike, alikeAll, alikeIs]; rfl
    · obtain ⟨k, h1, h2⟩ := dep_lst (dep_is ((nth rows a).map fun v => rk v + 1))
      unfold depOk pL rlD
      simp only [D.dep, D.deps] at h1 ⊢
      simp only [h1, Option.map_some, decide_eq_true_eq]
      omega
/-! ### ranks compared -/
theorem lt_rk (r s : Row) : opCmp .lt (rkD r) (rkD s) = some (decide (rks r < rks s)) := by
  show (if ltOk (rkD r) (rkD s) then some (dataLt (rkD r).py (rkD s).py) else none) = _
  have h1 := dep_tup (dep_is (rks r))
  have h2 := dep_tup (dep_is (rks s))
  rw [if_pos]
  · unfold rkD
    simp only [D.py, pys_is]
    rw [dataLt_tuple]
    congr 1
    exact dataLt_ints _ _
  · unfold ltOk
    rw [show eqOk (rkD r) (rkD s) = true from eqOk_of h1 h2 (by omega) (by omega)]
    unfold rkD
    simp only [D.py, pys_is, alike, alikeIs]
    rfl
theorem le_rk (r s : Row) : opCmp .le (rkD r) (rkD s) = some (rle r s) := by
  show (if ltOk (rkD r) (rkD s) then some (!dataLt (rkD s).py (rkD r).py) else none) = _
  have h1 := dep_tup (dep_is (rks r))
  have h2 := dep_tup (dep_is (rks s))
  rw [if_pos]
  · unfold rkD rle
    simp only [D.py, pys_is]
    rw [dataLt_tuple, show PyProof.Rows.lexLt itemOrd (keyToksAll ((rks s).map PyData.int)) (keyToksAll ((rks r).map PyData.int)) = decide (rks s < rks r) from dataLt_ints _ _]
  · unfold ltOk
    rw [show eqOk (rkD r) (rkD s) = true from eqOk_of h1 h2 (by omega) (by omega)]
    unfold rkD
    simp only [D.py, pys_is, alike, alikeIs]
    rfl
end Qh

/-! The interpreter's equations, comprehensions, loops. -/
namespace Qh
open PySem PySem.Spec PyProof.Rows L2 PySem.W
/-- an answer, given enough fuel -/
def AnsF (G : Nat → Option D) (P : Nat → Option Fn) (k f : Nat) (ds : List D) (d : D) : Prop := ∀ n, k ≤ n → Ans (runN G P n) f ds d
section
variable {G : Nat → Option D} {run : Run} {env : En}
@[simp] theorem e_var {i : Nat} : evE G run (.var i) env = opt (env.at i).val env := by simp only [evE]
@[simp] theorem e_bor {i : Nat} : evE G run (.bor i) env = opt (env.at i).bor env := by simp only [evE]
@[simp] theorem e_cst {d : D} : evE G run (.cst d) env = .ok d env := by simp only [evE]
@[simp] theorem e_glo {g : Nat} : evE G run (.glo g) env = opt (G g) env := by simp only [evE]
@[simp] theorem e_bin {op : BO} {a b : E} : evE G run (.bin op a b) env = (evE G run a env).bind fun x e1 => (evE G run b e1).bind fun y e2 => opt (opBin op x y) e2 := by simp only [evE]
@[simp] theorem e_cmp {op : CO} {a b : E} : evE G run (.cmp op a b) env = (evE G run a env).bind fun x e1 => (evE G run b e1).bind fun y e2 => opt ((rd2 a b x y e2 (opCmp op)).map .bl) e2 := by simp only [evE]
/-- a chain's answer -/
def chnR (G : Nat → Option D) (run : Run) (op' : CO) (c : E) (y : D) (e2 : En) : Option Bool → Res D
  | some true => (evE G run c e2).bind fun z e3 => opt ((opCmp op' y z).map .bl) e3
  | some false => .ok (.bl false) e2
  | none => .bad
@[simp] theorem e_chn {op op' : CO} {a b c : E} : evE G run (.chn op op' a b c) env = (evE G run a env).bind fun x e1 => (evE G run b e1).bind fun y e2 => chnR G run op' c y e2 (opCmp op x y) := by
  simp only [evE]
  congr 1
@[simp] theorem chn_t {op' : CO} {c : E} {y : D} {e2 : En} : chnR G run op' c y e2 (some true) = (evE G run c e2).bind fun z e3 => opt ((opCmp op' y z).map .bl) e3 := rfl
@[simp] theorem chn_f {op' : CO} {c : E} {y : D} {e2 : En} : chnR G run op' c y e2 (some false) = .ok (.bl false) e2 := rfl
@[simp] theorem e_and {a b : E} : evE G run (.and a b) env = (evE G run a env).bind fun x e1 => onBl x e1 (evE G run b) (Res.ok (.bl false)) := by simp only [evE]
@[simp] theorem e_or {a b : E} : evE G run (.or a b) env = (evE G run a env).bind fun x e1 => onBl x e1 (Res.ok (.bl true)) (evE G run b) := by simp only [evE]
@[simp] theorem e_not {a : E} : evE G run (.not a) env = (evE G run a env).bind fun x e1 => onBl x e1 (Res.ok (.bl false)) (Res.ok (.bl true)) := by simp only [evE]
@[simp] theorem e_ife {t a b : E} : evE G run (.ife t a b) env = (evE G run t env).bind fun x e1 => onBl x e1 (evE G run a) (evE G run b) := by simp only [evE]
@[simp] theorem e_tup {es : Es} : evE G run (.tup es) env = (evEs G run es env).bind fun l e1 => if l.length ≤ big then .ok (.tup l) e1 else .bad := by simp only [evE]
@[simp] theorem e_lst {es : Es} : evE G run (.lst es) env = (evEs G run es env).bind fun l e1 => if l.length ≤ big then .ok (.lst l) e1 else .bad := by simp only [evE]
@[simp] theorem e_ix {a i : E} : evE G run (.ix a i) env = (evE G run a env).bind fun x e1 => (evE G run i e1).bind fun y e2 => opt (rd2 a i x y e2 opIx) e2 := by simp only [evE]
@[simp] theorem e_sl {a : E} {lo hi : Oe} : evE G run (.sl a lo hi) env = (evE G run a env).bind fun x e1 => (evO G run lo e1).bind fun l e2 => (evO G run hi e2).bind fun h e3 => opt ((rd a x e3).bind fun x => opSl x l h) e3 := by simp only [evE]
@[simp] theorem e_rev {a : E} : evE G run (.rev a) env = (evE G run a env).bind fun x e1 => opt (opRev x) e1 := by simp only [evE]
@[simp] theorem e_bset {b : Bool} {a : E} : evE G run (.bset b a) env = (evE G run a env).bind fun x e1 => opt (opSet b x) e1 := by simp only [evE]
/-- a call's answer -/
def callR (avs : List AV) (e1 : En) : Res D → Res D
  | .ok d outs => (match callEnd avs outs e1 with
    | some e2 => if avs.any AV.isB && !d.flat then .bad else .ok d e2
    | none => .bad)
  | .exc x outs => (match callEnd avs outs e1 with
    | some e2 => .exc x e2
    | none => .bad)
  | .bad => .bad
@[simp] theorem e_call {f : Nat} {as : As} : evE G run (.call f as) env = (evAs G run as env).bind fun avs e1 => if !AV.apart avs then .bad else callR avs e1 (run f (avs.map (AV.sl e1))) := by
  simp only [evE]
  congr 1
@[simp] theorem callR_ok {avs : List AV} {e1 : En} {d : D} {outs : List Sl} : callR avs e1 (.ok d outs) = (match callEnd avs outs e1 with
    | some e2 => if avs.any AV.isB && !d.flat then .bad else .ok d e2
    | none => .bad) := rfl
/-- an attribute's value -/
def fldR (c f : Str) (e1 : En) : D → Res D
  | .ins c' ns fs => if c' = c then opt (fldOf f ns fs) e1 else .bad
  | _ => .bad
@[simp] theorem e_fld {c f : Str} {o : E} : evE G run (.fld c o f) env = (evE G run o env).bind fun x e1 => fldR c f e1 x := by
  simp only [evE]
  congr 1
/-- a made instance -/
def mkR (c : Str) (e1 : En) : Res D → Res D
  | .ok .non (.own (.ins c' ns fs) :: _) => if c' = c then .ok (.ins c ns fs) e1 else .bad
  | _ => .bad
@[simp] theorem e_mk {f : Nat} {c : Str} {as : Es} : evE G run (.mk f c as) env = (evEs G run as env).bind fun l e1 => mkR c e1 (run f (.own (.ins c [] []) :: l.map .dat)) := by
  simp only [evE]
  congr 1
theorem mkR_ok {c : Str} {e1 : En} {ns : List Str} {fs : List D} {r : List Sl} : mkR c e1 (.ok .non (.own (.ins c ns fs) :: r)) = .ok (.ins c ns fs) e1 := if_pos rfl
@[simp] theorem e_mcall {f : Nat} {c m : Str} {o : E} {as : As} : evE G run (.mcall f c m o as) env = (evE G run o env).bind fun x e1 => if insIs c m x = true then (evAs G run as e1).bind fun avs e2 => if !AV.apart (.dat x :: avs) then .bad else callR (.dat x :: avs) e2 (run f ((AV.dat x :: avs).map (AV.sl e2))) else .bad := by
  simp only [evE]
  congr 1
@[simp] theorem callR_exc {avs : List AV} {e1 : En} {x : Exn} {outs : List Sl} : callR avs e1 (.exc x outs) = (match callEnd avs outs e1 with
    | some e2 => .exc x e2
    | none => .bad) := rfl
/-- a lambda's call, caught -/
def lamR (g : Gd) (k : Nat) : Res D → Res D
  | .ok _ e1 => .ok g.dfl.d e1
  | .exc x e1 => if (decide (x.ix = none) && decide (x.c < k)) = true then .ok (g.hnd.ev x.c).d e1 else .bad
  | .bad => .bad
@[simp] theorem e_lamc {g : Gd} {k : Nat} {e : E} : evE G run (.lamc g k e) env = lamR g k (evE G run e env) := by
  simp only [evE]
  cases evE G run e env <;> rfl
@[simp] theorem lamR_ok {g : Gd} {k : Nat} {d : D} {e1 : En} : lamR g k (.ok d e1) = .ok g.dfl.d e1 := rfl
@[simp] theorem lamR_exc {g : Gd} {k c : Nat} {e1 : En} : lamR g k (.exc ⟨c, none⟩ e1) = if decide (c < k) = true then .ok (g.hnd.ev c).d e1 else .bad := by
  show (if (decide ((⟨c, none⟩ : Exn).ix = none) && decide (c < k)) = true then _ else _) = _
  simp
@[simp] theorem e_bi {b : Bi} {as : Es} : evE G run (.bi b as) env = (evEs G run as env).bind fun l e1 => opt ((rds as l e1).bind (opBi b)) e1 := by simp only [evE]
@[simp] theorem e_me {m : Me} {o : E} {as : Es} : evE G run (.me m o as) env = (evE G run o env).bind fun x e1 => if !meTy m x then .bad else (evEs G run as e1).bind fun l e2 => opt ((rd o x e2).bind fun x => opMe m x l) e2 := by simp only [evE]
def negR (e1 : En) : D → Res D
  | .int i => .ok (.int (-i)) e1
  | _ => .bad
@[simp] theorem e_neg {a : E} : evE G run (.neg a) env = (evE G run a env).bind fun x e1 => negR e1 x := by
  simp only [evE]
  congr 1
@[simp] theorem negR_i {e1 : En} {i : Int} : negR e1 (.int i) = .ok (.int (-i)) e1 := rfl
@[simp] theorem e_get {o k x : E} : evE G run (.get o k x) env = (evE G run o env).bind fun d e1 => if isDct (rd o d e1) then (evE G run k e1).bind fun y e2 => (evE G run x e2).bind fun z e3 => opt ((rd o d e3).bind fun d => opGet d y z) e3 else .bad := by simp only [evE]
def dselR (ks : List Str) (l : List D) (e2 : En) : D → Res D
  | .str x => opt (dFind (hitS x) (ks.map .str) l) e2
  | _ => .bad
@[simp] theorem e_dsel {ks : List Str} {vs : Es} {i : E} : evE G run (.dsel ks vs i) env = (noExc (evEs G run vs env)).bind fun l e1 => if decide (l.length = ks.length) && decide (ks.length ≤ 15) && !ks.isEmpty && nodupS ks then (evE G run i e1).bind fun y e2 => dselR ks l e2 y else .bad := by
  simp only [evE]
  rfl
@[simp] theorem dselR_s {ks : List Str} {l : List D} {e2 : En} {x : Str} : dselR ks l e2 (.str x) = opt (dFind (hitS x) (ks.map .str) l) e2 := rfl
def ginR (neg : Bool) (e1 : En) : D → Option D → Res D
  | .str x, some (.dct ks vs) => opt ((dVal ks vs (.str x)).map fun o => .bl (if neg then !o.isSome else o.isSome)) e1
  | _, _ => .bad
@[simp] theorem e_gin {neg : Bool} {g : Nat} {e : E} : evE G run (.gin neg g e) env = (evE G run e env).bind fun y e1 => ginR neg e1 y (G g) := by
  simp only [evE]
  congr 1
@[simp] theorem ginR_s {neg : Bool} {e1 : En} {x : Str} {ks vs : List D} : ginR neg e1 (.str x) (some (.dct ks vs)) = opt ((dVal ks vs (.str x)).map fun o => .bl (if neg then !o.isSome else o.isSome)) e1 := rfl
def gixR (e1 : En) : D → Option D → Res D
  | .str x, some (.dct ks vs) => opt ((dVal ks vs (.str x)).bind id) e1
  | _, _ => .bad
@[simp] theorem e_gix {g : Nat} {e : E} : evE G run (.gix g e) env = (evE G run e env).bind fun y e1 => gixR e1 y (G g) := by
  simp only [evE]
  congr 1
@[simp] theorem gixR_s {e1 : En} {x : Str} {ks vs : List D} : gixR e1 (.str x) (some (.dct ks vs)) = opt ((dVal ks vs (.str x)).bind id) e1 := rfl
@[simp] theorem e_isi {e : E} {ts : List Ty} : evE G run (.isi e ts) env = (evE G run e env).bind fun x e1 => if isiOk x = true then .ok (.bl (ts.any fun t => tyOf t x)) e1 else .bad := by simp only [evE]
@[simp] theorem es_nil : evEs G run .nil env = .ok [] env := by simp only [evEs]
@[simp] theorem es_cons {e : E} {es : Es} : evEs G run (.cons e es) env = (evE G run e env).bind fun x e1 => (evEs G run es e1).bind fun l e2 => .ok (x :: l) e2 := by simp only [evEs]
@[simp] theorem o_none : evO G run .none env = .ok none env := by simp only [evO]
def oR (e1 : En) : D → Res (Option Int)
  | .int i => .ok (some i) e1
  | _ => .bad
@[simp] theorem o_some {e : E} : evO G run (.some e) env = (evE G run e env).bind fun x e1 => oR e1 x := by
  simp only [evO]
  congr 1
@[simp] theorem oR_i {e1 : En} {i : Int} : oR e1 (.int i) = .ok (some i) e1 := rfl
@[simp] theorem as_nil : evAs G run .nil env = .ok [] env := by simp only [evAs]
def avOf (e : E) (x : D) : AV := match e with
  | .bor i => .bo i
  | _ => .dat x
@[simp] theorem as_val {e : E} {as : As} : evAs G run (.val e as) env = (evE G run e env).bind fun x e1 => (evAs G run as e1).bind fun l e2 => .ok (avOf e x :: l) e2 := by
  simp only [evAs]
  rfl
def ioR (i : Nat) (r : Res (List AV)) : Sl → Res (List AV)
  | .own _ => r.bind fun l e1 => .ok (.io i :: l) e1
  | _ => .bad
@[simp] theorem as_io {i : Nat} {as : As} : evAs G run (.io i as) env = ioR i (evAs G run as env) (env.at i) := by
  simp only [evAs]
  unfold ioR
  split <;> simp only [*]
@[simp] theorem ioR_o {i : Nat} {r : Res (List AV)} {o : O} : ioR i r (.own o) = r.bind fun l e1 => .ok (.io i :: l) e1 := rfl
def seqR (e1 : En) : D → Res (List D)
  | .tup l => .ok l e1
  | .lst l => .ok l e1
  | .dct ks _ => if allT ks then .ok ks e1 else .bad
  | _ => .bad
@[simp] theorem it_seq {e : E} : evIt G run (.seq e) env = (evE G run e env).bind fun x e1 => seqR e1 x := by
  simp only [evIt]
  congr 1
@[simp] theorem seqR_t {e1 : En} {l : List D} : seqR e1 (.tup l) = .ok l e1 := rfl
@[simp] theorem seqR_l {e1 : En} {l : List D} : seqR e1 (.lst l) = .ok l e1 := rfl
@[simp] theorem seqR_d {e1 : En} {ks vs : List D} : seqR e1 (.dct ks vs) = if allT ks then .ok ks e1 else .bad := rfl
theorem it_r1 {e : E} {n : Nat} (h : evE G run e env = .ok (.int (n : Int)) env) (hn : n ≤ big) : evIt G run (.rng1 e) env = .ok ((List.range n).map fun (k : Nat) => D.int (k : Int)) env := by
  have h2 : n ≤ 100000 := hn
  rw [it_rng1 h (by omega) (by omega), Int.toNat_natCast, rangeD_eq]
  congr 1
  apply List.map_congr_left
  intro k _
  rw [Int.zero_add]
theorem it_r2 {a b : E} {i j : Nat} (h : evE G run a env = .ok (.int (i : Int)) env) (h2 : evE G run b env = .ok (.int (j : Int)) env) (hi : i ≤ big) (hj : j ≤ big) : evIt G run (.rng2 a b) env = .ok ((List.range (j - i)).map fun (k : Nat) => D.int ((i : Int) + (k : Int))) env := by
  have h3 : i ≤ 100000 := hi
  have h4 : j ≤ 100000 := hj
  rw [it_rng2 h h2 (by omega) (by omega) (by omega) (by omega), rangeD_eq, show ((j : Int) - i).toNat = j - i by omega]
def enumR (e1 : En) : D → Res (List D)
  | .lst l => .ok (enumD l) e1
  | _ => .bad
@[simp] theorem it_enum {e : E} : evIt G run (.enum e) env = (evE G run e env).bind fun x e1 => enumR e1 x := by
  simp only [evIt]
  congr 1
@[simp] theorem enumR_l {e1 : En} {l : List D} : enumR e1 (.lst l) = .ok (enumD l) e1 := rfl
/-! statements -/
@[simp] theorem s_nil : evSs G run .nil env = .nxt env := by simp only [evSs]
@[simp] theorem s_cons {s : S} {r : Ss} : evSs G run (.cons s r) env = (evS G run s env).next (evSs G run r) := by simp only [evSs]
@[simp] theorem s_skip : evS G run .skip env = .nxt env := by simp only [evS]
@[simp] theorem s_bad : evS G run .bad env = .bad := by simp only [evS]
@[simp] theorem s_asg {g : Tg} {e : E} : evS G run (.asg g e) env = (evE G run e env).sr fun x e1 => optS (asgT g x e1) .nxt := by simp only [evS]
@[simp] theorem s_own {i : Nat} {es : Es} : evS G run (.own i es) env = (evEs G run es env).sr fun l e1 => if decide (l.length ≤ big) && decide (i < e1.length) then .nxt (e1.set i (.own (.lst l))) else .bad := by simp only [evS]
@[simp] theorem s_par {gs : List Nat} {ps : Ps} : evS G run (.par gs ps) env = (evPs G run ps env).sr fun l e1 => optS (asgPs gs l e1) .nxt := by simp only [evS]
@[simp] theorem p_nil : evPs G run .nil env = .ok [] env := by simp only [evPs]
@[simp] theorem p_val {e : E} {ps : Ps} : evPs G run (.val e ps) env = (evE G run e env).bind fun x e1 => (evPs G run ps e1).bind fun l e2 => .ok (.val x :: l) e2 := by simp only [evPs]
@[simp] theorem p_new {d : Bool} {ps : Ps} : evPs G run (.new d ps) env = (evPs G run ps env).bind fun l e2 => .ok (.new d :: l) e2 := by simp only [evPs]
@[simp] theorem s_ownd {i : Nat} : evS G run (.ownd i) env = if i < env.length then .nxt (env.set i (.own (.dct [] []))) else .bad := by simp only [evS]
@[simp] theorem s_setk {i : Nat} {k e : E} : evS G run (.setk i k e) env = optS (ownD env i) fun _ => (evE G run e env).sr fun x e1 => (evE G run k e1).sr fun y e2 => optS (ownD e2 i) fun p => optS (dPut p.1 p.2 y x) fun p' => .nxt (e2.set i (.own (.dct p'.1 p'.2))) := by simp only [evS]
@[simp] theorem s_app {i : Nat} {e : E} : evS G run (.app i e) env = optS (ownL env i) fun _ => (evE G run e env).sr fun x e1 => optS (ownL e1 i) fun l => if l.length < big then .nxt (e1.set i (.own (.lst (l ++ [x])))) else .bad := by simp only [evS]
def extR (i : Nat) (l : List D) (e1 : En) : D → SR
  | .lst m => if l.length + m.length ≤ big then .nxt (e1.set i (.own (.lst (l ++ m)))) else .bad
  | _ => .bad
@[simp] theorem s_ext {i : Nat} {e : E} : evS G run (.ext i e) env = optS (ownL env i) fun _ => (evE G run e env).sr fun x e1 => optS (ownL e1 i) fun l => extR i l e1 x := by
  simp only [evS]
  rfl
@[simp] theorem extR_l {i : Nat} {l m : List D} {e1 : En} : extR i l e1 (.lst m) = if l.length + m.length ≤ big then .nxt (e1.set i (.own (.lst (l ++ m)))) else .bad := rfl
@[simp] theorem s_ex {e : E} : evS G run (.ex e) env = (evE G run e env).sr fun _ e1 => .nxt e1 := by simp only [evS]
@[simp] theorem s_ite {t : E} {a b : Ss} : evS G run (.ite t a b) env = ((evE G run t env).bind asB).sr fun x e1 => if x = true then evSs G run a e1 else evSs G run b e1 := by simp only [evS]
@[simp] theorem s_raise {c : Nat} : evS G run (.raise c) env = .exc ⟨c, none⟩ env := by simp only [evS]
@[simp] theorem s_ret {e : E} : evS G run (.ret e) env = (evE G run e env).sr fun x e1 => .ret x e1 := by simp only [evS]
@[simp] theorem s_retn : evS G run .retn env = .ret .non env := by simp only [evS]
@[simp] theorem s_reto {i : Nat} : evS G run (.reto i) env = optS (ownR env i) fun d => .ret d env := by simp only [evS]
def setixR (i : Nat) (x : D) (e2 : En) : Option (List D) → D → SR
  | some l, .int n => optS (L2.ixN l.length n) fun j => .nxt (e2.set i (.own (.lst (l.set j x))))
  | _, _ => .bad
@[simp] theorem s_setix {i : Nat} {k e : E} : evS G run (.setix i k e) env = optS (ownL env i) fun _ => (evE G run e env).sr fun x e1 => (evE G run k e1).sr fun y e2 => setixR i x e2 (ownL e2 i) y := by
  simp only [evS]
  congr 1
@[simp] theorem setixR_i {i : Nat} {x : D} {e2 : En} {l : List D} {n : Int} : setixR i x e2 (some l) (.int n) = optS (L2.ixN l.length n) fun j => .nxt (e2.set i (.own (.lst (l.set j x)))) := rfl
@[simp] theorem ownL_o {env : En} {i : Nat} : ownL env i = match env.at i with
  | .own (.lst l) => some l
  | _ => none := rfl
@[simp] theorem ownD_o {env : En} {i : Nat} : ownD env i = match env.at i with
  | .own (.dct ks vs) => some (ks, vs)
  | _ => none := rfl
@[simp] theorem bor_dct (ks vs : List D) : (Sl.own (.dct ks vs)).bor = some (.dct ks vs) := rfl
end
section
variable {G : Nat → Option D} {run : Run} {env : En}
/-! ### stores to names -/
def asgSl (i : Nat) (d : D) (env : En) : Sl → Option En
  | .own _ => none
  | _ => some (env.set i (.dat d))
@[simp] theorem a_nm {i : Nat} {d : D} : asgT (.nm i) d env = asgSl i d env (env.at i) := by
  unfold asgT asgSl
  rfl
@[simp] theorem asgSl_n {i : Nat} {d : D} : asgSl i d env .non = some (env.set i (.dat d)) := (rfl)
@[simp] theorem asgSl_d {i : Nat} {d x : D} : asgSl i d env (.dat x) = some (env.set i (.dat d)) := (rfl)
theorem asgSl_j {i : Nat} {d : D} {s : Sl} (h : s.isOwn = false) : asgSl i d env s = some (env.set i (.dat d)) := by
  cases s with
  | own o => cases h
  | non => rfl
  | dat x => rfl
@[simp] theorem a_tp {gs : Tgs} {l : List D} : asgT (.tp gs) (.tup l) env = asgTs gs l env := by simp only [asgT]
@[simp] theorem as_0 : asgTs .nil [] env = some env := by simp only [asgTs]
@[simp] theorem as_1 {g : Tg} {gs : Tgs} {d : D} {ds : List D} : asgTs (.cons g gs) (d :: ds) env = (asgT g d env).bind (asgTs gs ds) := by simp only [asgTs]
@[simp] theorem ap_0 : asgPs [] [] env = some env := by simp only [asgPs]
@[simp] theorem ap_v {i : Nat} {gs : List Nat} {d : D} {ps : List PV} : asgPs (i :: gs) (.val d :: ps) env = (asgSl i d env (env.at i)).bind (asgPs gs ps) := by
  simp only [asgPs]
  cases env.at i <;> rfl
@[simp] theorem ap_n {i : Nat} {gs : List Nat} {d : Bool} {ps : List PV} : asgPs (i :: gs) (.new d :: ps) env = if i < env.length then asgPs gs ps (env.set i (.own (emptyO d))) else none := by simp only [asgPs]
@[simp] theorem emp_t : emptyO true = .dct [] [] := (rfl)
@[simp] theorem emp_f : emptyO false = .lst [] := (rfl)
/-! ### comprehensions -/
theorem wipe_len (env : En) : ∀ own : List Nat, (wipeE env own).length = env.length
  | [] => rfl
  | v :: vs => by unfold wipeE; rw [List.length_set, wipe_len env vs]
theorem back_len (orig env : En) : ∀ own : List Nat, (backE orig env own).length = env.length
  | [] => rfl
  | v :: vs => by unfold backE; rw [List.length_set, back_len orig env vs]
theorem wipe_out (env : En) {k : Nat} : ∀ own : List Nat, k ∉ own → (wipeE env own)[k]? = env[k]?
  | [], _ => rfl
  | v :: vs, h => by
    simp only [List.mem_cons, not_or] at h
    unfold wipeE
    rw [List.getElem?_set_ne (fun e => h.1 e.symm), wipe_out env vs h.2]
theorem back_wipe (env X : En) (hX : X.length = env.length) (own : List Nat) (ho : ∀ k, k ∉ own → X[k]? = env[k]?) (hv : (own.any fun i => (env.at i).isOwn) = false) : backE env X own = env := by
  have key : ∀ (own' : List Nat), (∀ i ∈ own', (env.at i).isOwn = false) → ∀ k, (k ∈ own' ∨ X[k]? = env[k]?) → (backE env X own')[k]? = env[k]? := by
    intro own'
    induction own' with
    | nil => intro _ k hk; exact hk.resolve_left (by simp)
    | cons v vs ih =>
      intro hb k hk
      unfold backE
      by_cases h : v = k
      · subst h
        by_cases hlt : v < env.length
        · rw [List.getElem?_set_self (by rw [back_len, hX]; exact hlt), List.getElem?_eq_getElem hlt]
          have h2 := hb v List.mem_cons_self
          unfold En.at at *
          rw [List.getD_eq_getElem?_getD, List.getElem?_eq_getElem hlt] at *
          simp only [Option.getD_some] at *
          cases q : env[v] with
          | own o => rw [q] at h2; cases h2
          | non => rfl
          | dat x => rfl
        · rw [List.getElem?_eq_none (by rw [List.length_set, back_len, hX]; omega), List.getElem?_eq_none (by omega)]
      · rw [List.getElem?_set_ne h]
        refine ih (fun i hi => hb i (List.mem_cons_of_mem _ hi)) k ?_
        rcases hk with hk | hk
        · rcases List.mem_cons.mp hk with e | hk
          · exact absurd e.symm h
          · exact .inl hk
        · exact .inr hk
  apply List.ext_getElem?
  intro k
  refine key own (fun i hi => ?_) k ?_
  · have := List.any_eq_false.mp hv i hi
    simpa using this
  · by_cases h : k ∈ own
    · exact .inl h
    · exact .inr (ho k h)
theorem lc_gen {own : List Nat} {it : It} {g : Tg} {t : Oe} {e : E} {α : Type} (is : List α) (enc : α → D) (h : α → Option D) (hi : evIt G run it env = .ok (is.map enc) env) (hv : (own.any fun i => (env.at i).isOwn) = false) (hb : is.length < big)
    (hB : ∀ x ∈ is, lcBody own (asgT g) (evT G run t) (evE G run e) (enc x) (wipeE env own) = .ok (h x) (wipeE env own)) : evE G run (.lc own it g t e) env = .ok (.lst (is.filterMap h)) env := by
  have key : ∀ (xs : List α) (acc : List D), (∀ x ∈ xs, x ∈ is) → acc.length + xs.length < big → lcLoop (lcBody own (asgT g) (evT G run t) (evE G run e)) (xs.map enc) acc (wipeE env own) = .ok (acc ++ xs.filterMap h) (wipeE env own) := by
    intro xs
    induction xs with
    | nil =>
      intro acc _ ha
      rw [List.map_nil]
      unfold lcLoop
      rw [if_pos (by simpa using ha)]
      simp
    | cons x xs ih =>
      intro acc hm ha
      simp only [List.length_cons] at ha
      rw [List.map_cons]
      unfold lcLoop
      rw [if_pos (by omega), hB x (hm x List.mem_cons_self)]
      simp only [bind_ok']
      rw [ih _ (fun y hy => hm y (List.mem_cons_of_mem _ hy)) (by
        rw [List.length_append]
        have : (h x).toList.length ≤ 1 := by cases h x <;> simp
        omega)]
      rw [List.filterMap_cons]
      cases h x <;> simp
  have hk := key is [] (fun _ h => h) (by simpa using hb)
  simp only [evE, hi, bind_ok', hv, Bool.false_eq_true, if_false]
  rw [hk]
  simp only [noExc, bind_ok', List.nil_append]
  rw [back_wipe env _ (wipe_len env own) own (fun k hk => wipe_out env own hk) hv]
@[simp] theorem t_none : evT G run .none env = .ok true env := by simp only [evT]
def tR (e1 : En) : D → Res Bool
  | .bl b => .ok b e1
  | _ => .bad
@[simp] theorem t_some {e : E} : evT G run (.some e) env = (evE G run e env).bind fun x e1 => tR e1 x := by
  simp only [evT]
  congr 1
@[simp] theorem tR_b {e1 : En} {b : Bool} : tR e1 (.bl b) = .ok b e1 := rfl
theorem filterMap_if {α β : Type} (test : α → Bool) (f : α → β) : ∀ l : List α, l.filterMap (fun x => if test x = true then some (f x) else none) = (l.filter test).map f
  | [] => rfl
  | x :: l => by
    rw [List.filterMap_cons, List.filter_cons, filterMap_if test f l]
    cases h : test x <;> simp
/-- one name, no condition -/
theorem lc_map {v : Nat} {it : It} {e : E} {α : Type} (is : List α) (enc f : α → D) (hi : evIt G run it env = .ok (is.map enc) env) (hv : (env.at v).isOwn = false) (hl : v < env.length) (hb : is.length < big)
    (h : ∀ x ∈ is, evE G run e (env.set v (.dat (enc x))) = .ok (f x) (env.set v (.dat (enc x)))) : evE G run (.lc [v] it (.nm v) .none e) env = .ok (.lst (is.map f)) env := by
  rw [lc_gen is enc (fun x => some (f x)) hi (by simp [hv]) hb]
  · rw [show (fun x => some (f x)) = some ∘ f from rfl, List.filterMap_eq_map]
  · intro x hx
    unfold lcBody
    have e0 : wipeE env [v] = env.set v .non := rfl
    rw [e0, asgT_nm (by rw [at_set hl]; rfl), List.set_set]
    simp only [t_none, bind_ok', if_true, h x hx, wipeE, List.set_set]
/-- one name, a condition -/
theorem lc_fm {v : Nat} {it : It} {c e : E} {α : Type} (is : List α) (enc f : α → D) (test : α → Bool) (hi : evIt G run it env = .ok (is.map enc) env) (hv : (env.at v).isOwn = false) (hl : v < env.length) (hb : is.length < big)
    (hc : ∀ x ∈ is, evE G run c (env.set v (.dat (enc x))) = .ok (.bl (test x)) (env.set v (.dat (enc x))))
    (h : ∀ x ∈ is, test x = true → evE G run e (env.set v (.dat (enc x))) = .ok (f x) (env.set v (.dat (enc x)))) : evE G run (.lc [v] it (.nm v) (.some c) e) env = .ok (.lst ((is.filter test).map f)) env := by
  rw [lc_gen is enc (fun x => if test x = true then some (f x) else none) hi (by simp [hv]) hb]
  · rw [filterMap_if]
  · intro x hx
    unfold lcBody
    have e0 : wipeE env [v] = env.set v .non := rfl
    rw [e0, asgT_nm (by rw [at_set hl]; rfl), List.set_set]
    simp only [t_some, hc x hx, bind_ok', tR_b]
    cases ht : test x with
    | true => simp only [if_true, h x hx ht, bind_ok', wipeE, List.set_set]
    | false => simp only [Bool.false_eq_true, if_false, wipeE, List.set_set]
/-- two names of a pair -/
theorem lc_map2 {v w : Nat} {it : It} {e : E} {α : Type} (is : List α) (p q f : α → D) (hvw : v ≠ w) (hi : evIt G run it env = .ok (is.map fun x => .tup [p x, q x]) env) (hv : (env.at v).isOwn = false) (hw : (env.at w).isOwn = false) (hl : v < env.length) (hl2 : w < env.length) (hb : is.length < big)
    (h : ∀ x ∈ is, evE G run e ((env.set v (.dat (p x))).set w (.dat (q x))) = .ok (f x) ((env.set v (.dat (p x))).set w (.dat (q x)))) : evE G run (.lc [v, w] it (.tp (.cons (.nm v) (.cons (.nm w) .nil))) .none e) env = .ok (.lst (is.map f)) env := by
  rw [lc_gen is (fun x => .tup [p x, q x]) (fun x => some (f x)) hi (by simp [hv, hw]) hb]
  · rw [show (fun x => some (f x)) = some ∘ f from rfl, List.filterMap_eq_map]
  · intro x hx
    unfold lcBody
    have e0 : wipeE env [v, w] = (env.set w .non).set v .non := rfl
    have e1 : asgT (.tp (.cons (.nm v) (.cons (.nm w) .nil))) (.tup [p x, q x]) ((env.set w .non).set v .non) = some ((env.set v (.dat (p x))).set w (.dat (q x))) := by
      unfold asgT
      simp only [asgTs]
      rw [asgT_nm (by rw [at_set (by rw [List.length_set]; exact hl)]; rfl), List.set_set]
      simp only [Option.bind_some]
      rw [List.set_comm _ _ (fun e => hvw e.symm)]
      rw [asgT_nm (by rw [at_set (by rw [List.length_set]; exact hl2)]; rfl), List.set_set]
      simp only [Option.bind_some]
    rw [e0, e1]
    simp only [t_none, bind_ok', if_true, h x hx, wipeE, List.set_set]
    congr 1
    rw [List.set_comm _ _ hvw, List.set_set]
/-- a loop's statement -/
theorem s_for {it : It} {g : Tg} {b : Ss} {e1 e2 : En} {items : List D} (hi : evIt G run it env = .ok items e1) (h : forS (asgT g) (evSs G run b) items e1 = .nxt e2) : evS G run (.for it g b) env = .nxt e2 := by
  simp only [evS, hi, sr_ok]
  exact h
theorem s_forR {it : It} {g : Tg} {b : Ss} {e1 e2 : En} {items : List D} {d : D} (hi : evIt G run it env = .ok items e1) (h : forS (asgT g) (evSs G run b) items e1 = .ret d e2) : evS G run (.for it g b) env = .ret d e2 := by
  simp only [evS, hi, sr_ok]
  exact h
/-- a state carried through a loop, the other names open -/
theorem for_st {g : D → En → Option En} {body : En → SR} {α St J : Type} (enc : α → D) (V : St → J → Prop) (E : St → J → En) (step : St → α → St) : ∀ (items : List α) (s : St) (j : J), V s j →
    (∀ x ∈ items, ∀ (s : St) (j : J), V s j → ∃ e2 j', g (enc x) (E s j) = some e2 ∧ V (step s x) j' ∧ body e2 = .nxt (E (step s x) j')) →
    ∃ j', V (items.foldl step s) j' ∧ forS g body (items.map enc) (E s j) = .nxt (E (items.foldl step s) j')
  | [], s, j, hj, _ => ⟨j, hj, rfl⟩
  | x :: xs, s, j, hj, h => by
    obtain ⟨e2, j', q1, q2, q3⟩ := h x List.mem_cons_self s j hj
    obtain ⟨j2, q4, q5⟩ := for_st enc V E step xs (step s x) j' q2 fun y hy => h y (List.mem_cons_of_mem _ hy)
    refine ⟨j2, q4, ?_⟩
    rw [List.map_cons]
    conv => lhs; unfold forS
    rw [q1]
    simp only [q3]
    exact q5
end
end Qh

/-! Semantics, truths, and more of rows. -/
namespace Qh
open PySem PySem.Spec PyProof.Rows L2 PySem.W
structure Sm where
  set : Bool
  sum : Bool
  kind : Bool
  unk : Fin 3
  zero : Bool
def Sm.s0 (S : Sm) : Str := if S.set then "set" else "bag"
def Sm.s1 (S : Sm) : Str := if S.sum then "sum" else "maximum"
def Sm.s2 (S : Sm) : Str := if S.kind then "kind" else "count"
def Sm.s3 (S : Sm) : Str := if S.unk = 0 then "none" else if S.unk = 1 then "unknown" else "value"
def Sm.s4 (S : Sm) : Str := if S.zero then "zero" else "null"
def Sm.d (S : Sm) : D := .tup [.str S.s0, .str S.s1, .str S.s2, .str S.s3, .str S.s4]
@[simp] theorem sx0 (S : Sm) : opIx S.d (.int 0) = some (.str S.s0) := rfl
@[simp] theorem sx1 (S : Sm) : opIx S.d (.int 1) = some (.str S.s1) := rfl
@[simp] theorem sx2 (S : Sm) : opIx S.d (.int 2) = some (.str S.s2) := rfl
@[simp] theorem sx3 (S : Sm) : opIx S.d (.int 3) = some (.str S.s3) := rfl
@[simp] theorem sx4 (S : Sm) : opIx S.d (.int 4) = some (.str S.s4) := rfl
def uniI (S : Sm) (a b : Int) : Int := if S.sum then a + b else mx a b
def lessI (S : Sm) (a b : Int) : Int := if S.kind || S.set then (if b > 0 then 0 else a) else mx (a - b) 0
def capI (S : Sm) (a : Int) : Int := if S.set then mn a 1 else a
theorem fin3 (c : Fin 3) : c = 0 ∨ c = 1 ∨ c = 2 := by
  rcases c with ⟨_ | _ | _ | k, h⟩
  · exact .inl rfl
  · exact .inr (.inl rfl)
  · exact .inr (.inr rfl)
  · omega
/-! words -/
@[simp] theorem w1 : (("bag" : Str) = "set") = False := by decide +kernel
@[simp] theorem w2 : (("kind" : Str) = "count") = False := by decide +kernel
@[simp] theorem w3 : (("maximum" : Str) = "sum") = False := by decide +kernel
@[simp] theorem w4 : (("unknown" : Str) = "none") = False := by decide +kernel
@[simp] theorem w5 : (("value" : Str) = "none") = False := by decide +kernel
@[simp] theorem w6 : (("none" : Str) = "unknown") = False := by decide +kernel
@[simp] theorem w7 : (("value" : Str) = "unknown") = False := by decide +kernel
@[simp] theorem w8 : (("zero" : Str) = "null") = False := by decide +kernel
@[simp] theorem w9 : (("set" : Str) = "bag") = False := by decide +kernel
@[simp] theorem w10 : (("count" : Str) = "kind") = False := by decide +kernel
@[simp] theorem w100 : (("not" : Str) = "and") = False := by decide +kernel
@[simp] theorem w101 : (("not" : Str) = "or") = False := by decide +kernel
@[simp] theorem w102 : (("not" : Str) = "null") = False := by decide +kernel
@[simp] theorem w103 : (("not" : Str) = "same") = False := by decide +kernel
@[simp] theorem w104 : (("not" : Str) = "less") = False := by decide +kernel
@[simp] theorem w105 : (("not" : Str) = "equal") = False := by decide +kernel
@[simp] theorem w106 : (("and" : Str) = "not") = False := by decide +kernel
@[simp] theorem w107 : (("and" : Str) = "or") = False := by decide +kernel
@[simp] theorem w108 : (("and" : Str) = "null") = False := by decide +kernel
@[simp] theorem w109 : (("and" : Str) = "same") = False := by decide +kernel
@[simp] theorem w110 : (("and" : Str) = "less") = False := by decide +kernel
@[simp] theorem w111 : (("and" : Str) = "equal") = False := by decide +kernel
@[simp] theorem w112 : (("or" : Str) = "not") = False := by decide +kernel
@[simp] theorem w113 : (("or" : Str) = "and") = False := by decide +kernel
@[simp] theorem w114 : (("or" : Str) = "null") = False := by decide +kernel
@[simp] theorem w115 : (("or" : Str) = "same") = False := by decide +kernel
@[simp] theorem w116 : (("or" : Str) = "less") = False := by decide +kernel
@[simp] theorem w117 : (("or" : Str) = "equal") = False := by decide +kernel
@[simp] theorem w118 : (("null" : Str) = "not") = False := by decide +kernel
@[simp] theorem w119 : (("null" : Str) = "and") = False := by decide +kernel
@[simp] theorem w120 : (("null" : Str) = "or") = False := by decide +kernel
@[simp] theorem w121 : (("null" : Str) = "same") = False := by decide +kernel
@[simp] theorem w122 : (("null" : Str) = "less") = False := by decide +kernel
@[simp] theorem w123 : (("null" : Str) = "equal") = False := by decide +kernel
@[simp] theorem w124 : (("same" : Str) = "not") = False := by decide +kernel
@[simp] theorem w125 : (("same" : Str) = "and") = False := by decide +kernel
@[simp] theorem w126 : (("same" : Str) = "or") = False := by decide +kernel
@[simp] theorem w127 : (("same" : Str) = "null") = False := by decide +kernel
@[simp] theorem w128 : (("same" : Str) = "less") = False := by decide +kernel
@[simp] theorem w129 : (("same" : Str) = "equal") = False := by decide +kernel
@[simp] theorem w130 : (("less" : Str) = "not") = False := by decide +kernel
@[simp] theorem w131 : (("less" : Str) = "and") = False := by decide +kernel
@[simp] theorem w132 : (("less" : Str) = "or") = False := by decide +kernel
@[simp] theorem w133 : (("less" : Str) = "null") = False := by decide +kernel
@[simp] theorem w134 : (("less" : Str) = "same") = False := by decide +kernel
@[simp] theorem w135 : (("less" : Str) = "equal") = False := by decide +kernel
@[simp] theorem w136 : (("equal" : Str) = "not") = False := by decide +kernel
@[simp] theorem w137 : (("equal" : Str) = "and") = False := by decide +kernel
@[simp] theorem w138 : (("equal" : Str) = "or") = False := by decide +kernel
@[simp] theorem w139 : (("equal" : Str) = "null") = False := by decide +kernel
@[simp] theorem w140 : (("equal" : Str) = "same") = False := by decide +kernel
@[simp] theorem w141 : (("equal" : Str) = "less") = False := by decide +kernel
@[simp] theorem w142 : (("union" : Str) = "intersection") = False := by decide +kernel
@[simp] theorem w143 : (("union" : Str) = "difference") = False := by decide +kernel
@[simp] theorem w144 : (("intersection" : Str) = "union") = False := by decide +kernel
@[simp] theorem w145 : (("intersection" : Str) = "difference") = False := by decide +kernel
@[simp] theorem w146 : (("difference" : Str) = "union") = False := by decide +kernel
@[simp] theorem w147 : (("difference" : Str) = "intersection") = False := by decide +kernel
@[simp] theorem w148 : (("semijoin" : Str) = "antijoin") = False := by decide +kernel
@[simp] theorem w149 : (("semijoin" : Str) = "not_in") = False := by decide +kernel
@[simp] theorem w150 : (("antijoin" : Str) = "semijoin") = False := by decide +kernel
@[simp] theorem w151 : (("antijoin" : Str) = "not_in") = False := by decide +kernel
@[simp] theorem w152 : (("not_in" : Str) = "semijoin") = False := by decide +kernel
@[simp] theorem w153 : (("not_in" : Str) = "antijoin") = False := by decide +kernel
@[simp] theorem cmp_set (S : Sm) : (S.s0 = "set") = (S.set = true) := by unfold Sm.s0; cases S.set <;> simp
@[simp] theorem cmp_bag (S : Sm) : (S.s0 = "bag") = (S.set = false) := by unfold Sm.s0; cases S.set <;> simp
@[simp] theorem cmp_sum (S : Sm) : (S.s1 = "sum") = (S.sum = true) := by unfold Sm.s1; cases S.sum <;> simp
@[simp] theorem cmp_cnt (S : Sm) : (S.s2 = "count") = (S.kind = false) := by unfold Sm.s2; cases S.kind <;> simp
@[simp] theorem cmp_knd (S : Sm) : (S.s2 = "kind") = (S.kind = true) := by unfold Sm.s2; cases S.kind <;> simp
@[simp] theorem cmp_nul (S : Sm) : (S.s4 = "null") = (S.zero = false) := by unfold Sm.s4; cases S.zero <;> simp
@[simp] theorem cmp_unk (S : Sm) : (S.s3 = "unknown") = (S.unk = 1) := by
  unfold Sm.s3
  rcases fin3 S.unk with h | h | h <;> rw [h] <;> simp
@[simp] theorem cmp_non (S : Sm) : (S.s3 = "none") = (S.unk = 0) := by
  unfold Sm.s3
  rcases fin3 S.unk with h | h | h <;> rw [h] <;> simp
/-! three values -/
abbrev Tv := Option Bool
def tv : Tv → D
  | none => .non
  | some b => .bl b
def not3 (a : Tv) : Tv := a.map (!·)
def and3 : Tv → Tv → Tv
  | some false, _ => some false
  | _, some false => some false
  | none, _ => none
  | _, none => none
  | some true, some true => some true
def or3 (a b : Tv) : Tv := not3 (and3 (not3 a) (not3 b))
theorem cmp_isT (v : Tv) : opCmp .is (tv v) (.bl true) = some (decide (v = some true)) := by
  rcases v with _ | (_ | _) <;> rfl
theorem cmp_isF (v : Tv) : opCmp .is (tv v) (.bl false) = some (decide (v = some false)) := by
  rcases v with _ | (_ | _) <;> rfl
theorem cmp_isN (v : Tv) : opCmp .is (tv v) .non = some (decide (v = none)) := by
  rcases v with _ | (_ | _) <;> rfl
/-! more operations -/
theorem all_map {α : Type} (l : List α) (g : α → Bool) : opBi .all [.lst (l.map fun x => .bl (g x))] = some (.bl (l.all g)) := by
  have h : ∀ l : List α, allBls (l.map fun x => D.bl (g x)) = some (l.map g) := by
    intro l
    induction l with
    | nil => rfl
    | cons x l ih => simp only [List.map_cons, allBls, ih, Option.map_some]
  show (allBls _).map _ = _
  rw [h]
  simp
theorem any_map {α : Type} (l : List α) (g : α → Bool) : opBi .any [.lst (l.map fun x => .bl (g x))] = some (.bl (l.any g)) := by
  have h : ∀ l : List α, allBls (l.map fun x => D.bl (g x)) = some (l.map g) := by
    intro l
    induction l with
    | nil => rfl
    | cons x l ih => simp only [List.map_cons, allBls, ih, Option.map_some]
  show (allBls _).map _ = _
  rw [h]
  simp
theorem sum_map {α : Type} (l : List α) (g : α → Int) : opBi .sum [.lst (l.map fun x => .int (g x))] = some (.int (l.map g).sum) := by
  have h : ∀ l : List α, allInts (l.map fun x => D.int (g x)) = some (l.map g) := by
    intro l
    induction l with
    | nil => rfl
    | cons x l ih => simp only [List.map_cons, allInts, ih, Option.map_some]
  show (allInts _).map _ = _
  rw [h]
  rfl
@[simp] theorem tup_l (l : List D) : opBi .tuple [.lst l] = some (.tup l) := rfl
@[simp] theorem list_l (l : List D) : opBi .list [.lst l] = some (.lst l) := rfl
@[simp] theorem list_t (l : List D) : opBi .list [.tup l] = some (.lst l) := rfl
@[simp] theorem len_t (l : List D) : opBi .len [.tup l] = some (.int l.length) := rfl
theorem list_d (b : Bag) : opBi .list [.dct (bK b) (bV b)] = some (.lst (bK b)) := by
  show (if allT (bK b) then some (D.lst (bK b)) else none) = _
  rw [bK_all]
  rfl
theorem sorted_l {l : List D} (h : sortOk l = true) : opBi .sorted [.lst l] = some (.lst (isort leD l)) := by
  show (if sortOk l then some (D.lst (isort leD l)) else none) = _
  rw [h]
  rfl
theorem ixTn {α : Type} (l : List α) (f : α → D) (k : Nat) (h : k < l.length) : opIx (.tup (l.map f)) (.int (k : Int)) = some (f l[k]) := by
  rw [ixT _ _ (by rw [List.length_map]; exact h), List.getElem?_map, List.getElem?_eq_getElem h]
  rfl
theorem ixLn {α : Type} (l : List α) (f : α → D) (k : Nat) (h : k < l.length) : opIx (.lst (l.map f)) (.int (k : Int)) = some (f l[k]) := by
  rw [ixL _ _ (by rw [List.length_map]; exact h), List.getElem?_map, List.getElem?_eq_getElem h]
  rfl
theorem nth_lt (t : List Row) (k : Nat) (h : k < t.length) : nth t k = t[k] := by
  unfold nth
  rw [List.getD_eq_getElem?_getD, List.getElem?_eq_getElem h]
  rfl
theorem ixR (t : List Row) (k : Nat) (h : k < t.length) : opIx (tL t) (.int (k : Int)) = some (rD (nth t k)) := by
  unfold tL
  rw [ixLn t rD k h, nth_lt t k h]
theorem mul_l (x : D) (k : Nat) (h : k ≤ 1000) : opBin .mul (.lst [x]) (.int (k : Int)) = some (.lst (List.replicate k x)) := by
  show (if decide (0 ≤ (k : Int)) && decide ((k : Int) ≤ 1000) && decide ([x].length ≤ 100) then some (D.lst (List.replicate (k : Int).toNat [x]).flatten) else none) = _
  rw [if_pos (by simp; omega), Int.toNat_natCast]
  congr 2
  induction k with
  | zero => rfl
  | succ k ih => rw [List.replicate_succ, List.flatten_cons, ih (by omega), List.replicate_succ]; rfl
theorem add_l (l m : List D) (h : l.length + m.length ≤ big) : opBin .add (.lst l) (.lst m) = some (.lst (l ++ m)) := by
  show (if l.length + m.length ≤ big then some (D.lst (l ++ m)) else none) = _
  rw [if_pos h]
theorem add_t (l m : List D) (h : l.length + m.length ≤ big) : opBin .add (.tup l) (.tup m) = some (.tup (l ++ m)) := by
  show (if l.length + m.length ≤ big then some (D.tup (l ++ m)) else none) = _
  rw [if_pos h]
@[simp] theorem add_i (i j : Int) : opBin .add (.int i) (.int j) = some (.int (i + j)) := rfl
@[simp] theorem sub_i (i j : Int) : opBin .sub (.int i) (.int j) = some (.int (i - j)) := rfl
@[simp] theorem len_l (l : List D) : opBi .len [.lst l] = some (.int l.length) := rfl
@[simp] theorem len_s (l : List Int) : opBi .len [.scr l] = some (.int l.length) := rfl
@[simp] theorem int_i (i : Int) : opBi .int [.int i] = some (.int i) := rfl
@[simp] theorem int_b (b : Bool) : opBi .int [.bl b] = some (.int (if b then 1 else 0)) := rfl
@[simp] theorem isi_tD (l : List D) : isiOk (.tup l) = true := rfl
@[simp] theorem isi_l (l : List D) : isiOk (.lst l) = true := rfl
@[simp] theorem isi_i (i : Int) : isiOk (.int i) = true := rfl
@[simp] theorem isi_n : isiOk .non = true := rfl
@[simp] theorem isi_b (i : Bool) : isiOk (.bl i) = true := rfl
@[simp] theorem isi_s (i : Str) : isiOk (.str i) = true := rfl
section
variable {G : Nat → Option D} {run : Run} {env : En}
/-- what was done of the items, carried through a loop -/
theorem for_pre {g : D → En → Option En} {body : En → SR} {α J : Type} (enc : α → D) (V : J → Prop) (E : List α → J → En) (items : List α) (j : J) (hj : V j)
    (h : ∀ p x r, items = p ++ x :: r → ∀ j, V j → ∃ e2 j', g (enc x) (E p j) = some e2 ∧ V j' ∧ body e2 = .nxt (E (p ++ [x]) j')) :
    ∃ j', V j' ∧ forS g body (items.map enc) (E [] j) = .nxt (E items j') := by
  have key : ∀ (r p : List α) (j : J), items = p ++ r → V j → ∃ j', V j' ∧ forS g body (r.map enc) (E p j) = .nxt (E items j') := by
    intro r
    induction r with
    | nil =>
      intro p j hp hj
      rw [List.append_nil] at hp
      subst hp
      exact ⟨j, hj, rfl⟩
    | cons x r ih =>
      intro p j hp hj
      obtain ⟨e2, j', q1, q2, q3⟩ := h p x r hp j hj
      obtain ⟨j2, q4, q5⟩ := ih (p ++ [x]) j' (by rw [hp]; simp) q2
      refine ⟨j2, q4, ?_⟩
      rw [List.map_cons]
      conv => lhs; unfold forS
      rw [q1]
      simp only [q3]
      exact q5
  exact key items [] j rfl hj
end
/-- a value, a row, a table that may be -/
def Sm.vOk (S : Sm) : Vl → Bool
  | none => decide (S.unk ≠ 0)
  | some i => decide (0 ≤ i) && decide (i ≤ 9)
def Sm.rOk (S : Sm) (r : Row) : Prop := r.length = 2 ∧ ∀ v ∈ r, S.vOk v = true
structure Sm.tOk (S : Sm) (t : List Row) : Prop where
  len : t.length ≤ 12
  row : ∀ r ∈ t, S.rOk r
  ord : t.Pairwise fun a b => rle a b = true
  set : S.set = true → t.Nodup
theorem Sm.rOk.okR {S : Sm} {r : Row} (h : S.rOk r) : okR r := fun v hv i e => by
  have := h.2 v hv
  subst e
  simp only [Sm.vOk, Bool.and_eq_true, decide_eq_true_eq] at this
  exact this.1
theorem Sm.rOk.two {S : Sm} {r : Row} (h : S.rOk r) : ∃ a b, r = [a, b] ∧ S.vOk a = true ∧ S.vOk b = true := by
  obtain ⟨h1, h2⟩ := h
  match r, h1 with
  | [a, b], _ => exact ⟨a, b, rfl, h2 a (by simp), h2 b (by simp)⟩
/-! ### what the operations compute -/
@[simp] theorem flats_v : ∀ r : List Vl, D.flats (r.map vD) = true
  | [] => by simp only [List.map_nil, D.flats]
  | v :: r => by
    simp only [List.map_cons, D.flats, flats_v r]
    cases v <;> simp only [vD, D.flat] <;> rfl
@[simp] theorem flat_r (r : Row) : (rD r).flat = true := by
  unfold rD
  simp only [D.flat, flats_v]
@[simp] theorem flats_r : ∀ t : List Row, D.flats (t.map rD) = true
  | [] => by simp only [List.map_nil, D.flats]
  | r :: t => by simp only [List.map_cons, D.flats, flat_r, flats_r t]; rfl
@[simp] theorem flat_t (t : List Row) : (tD t).flat = true := by
  unfold tD
  simp only [D.flat, flats_r]
def mtc (S : Sm) (a b : Vl) : Tv := if a = none ∨ b = none then (if S.unk = 1 then none else some (decide (a = none) && decide (b = none))) else some (decide (a = b))
/-- how often a row comes -/
def cI (t : List Row) (r : Row) : Int := (t.count r : Int)
def rep (f : Row → Int) (l : List Row) : List Row := l.flatMap fun r => List.replicate (f r).toNat r
theorem rep_snoc (f : Row → Int) (l : List Row) (r : Row) : rep f (l ++ [r]) = rep f l ++ List.replicate (f r).toNat r := by
  unfold rep
  rw [List.flatMap_append]
  simp
theorem rep_len (f : Row → Int) (k : Nat) : ∀ l : List Row, (∀ r ∈ l, f r ≤ k) → (rep f l).length ≤ l.length * k
  | [], _ => by simp [rep]
  | r :: l, h => by
    have ih := rep_len f k l fun x hx => h x (List.mem_cons_of_mem _ hx)
    have h1 := h r List.mem_cons_self
    unfold rep at *
    rw [List.flatMap_cons, List.length_append, List.length_replicate, List.length_cons, Nat.succ_mul]
    omega
theorem rep_mem {f : Row → Int} {l : List Row} {r : Row} (h : r ∈ rep f l) : r ∈ l := by
  unfold rep at h
  obtain ⟨x, hx, h2⟩ := List.mem_flatMap.mp h
  rw [(List.mem_replicate.mp h2).2]
  exact hx
theorem rep_congr {f g : Row → Int} {l : List Row} (h : ∀ r ∈ l, (f r).toNat = (g r).toNat) : rep f l = rep g l := by
  unfold rep
  induction l with
  | nil => rfl
  | cons r l ih =>
    rw [List.flatMap_cons, List.flatMap_cons, h r List.mem_cons_self, ih fun x hx => h x (List.mem_cons_of_mem _ hx)]
theorem count_le (t : List Row) (r : Row) : cI t r ≤ t.length := by
  unfold cI
  have := List.count_le_length (a := r) (l := t)
  omega
theorem count_nn (t : List Row) (r : Row) : 0 ≤ cI t r := by unfold cI; omega
theorem look_bag (t : List Row) (r : Row) : (look r (bagOf t)).getD 0 = cI t r := by
  rw [bagOf_eq, look_F]
  split
  · rfl
  · rename_i h
    unfold cI
    rw [List.count_eq_zero.mpr fun hr => h (dd_mem.mpr hr)]
    rfl
theorem bag_len (t : List Row) : (bagOf t).length ≤ t.length := by
  rw [bagOf_eq]
  unfold bagF
  rw [List.length_map]
  exact dd_len t
theorem bag_snoc (t : List Row) (r : Row) : bagOf (t ++ [r]) = putB r ((look r (bagOf t)).getD 0 + 1) (bagOf t) := by
  unfold bagOf
  rw [List.foldl_append]
  rfl
/-- small tables -/
structure Sml (t : List Row) : Prop where
  len : t.length ≤ 30000
  row : ∀ r ∈ t, r.length ≤ 10
/-- a table on the way -/
structure Sm.tB (S : Sm) (t : List Row) : Prop where
  len : t.length ≤ 72
  row : ∀ r ∈ t, S.rOk r
  set : S.set = true → t.Nodup
theorem Sm.tOk.tB {S : Sm} {t : List Row} (h : S.tOk t) : S.tB t := ⟨by have := h.len; omega, h.row, h.set⟩
theorem Sm.tB.sml {S : Sm} {t : List Row} (h : S.tB t) : Sml t := ⟨by have := h.len; omega, fun r hr => by rw [(h.row r hr).1]; decide⟩
theorem Sml.big {t : List Row} (h : Sml t) : t.length < big := Nat.lt_of_le_of_lt h.len (by decide)
/-! ### the end of a run -/
def Ends (r : SR) (n : Nat) (d : D) : Prop := match r with
  | .ret x e => x = d ∧ n ≤ e.length
  | .nxt e => D.non = d ∧ n ≤ e.length
  | _ => False
@[simp] theorem ends_ret {x d : D} {e : En} {n : Nat} : Ends (.ret x e) n d = (x = d ∧ n ≤ e.length) := (rfl)
@[simp] theorem ends_nxt {d : D} {e : En} {n : Nat} : Ends (.nxt e) n d = (D.non = d ∧ n ≤ e.length) := (rfl)
theorem Ends.fin {r : SR} {ds : List D} {d : D} (h : Ends r ds.length d) : Qh.finish (ds.map .dat) r = .ok d (ds.map .dat) := by
  cases r with
  | ret x e =>
    obtain ⟨rfl, h2⟩ := h
    exact fin_ret h2
  | nxt e =>
    obtain ⟨rfl, h2⟩ := h
    exact fin_nxt h2
  | exc x e => exact h.elim
  | bad => exact h.elim
theorem run_ends {G : Nat → Option D} {P : Nat → Option Fn} {n k : Nat} {fn : Fn} {ds : List D} {d : D} (h : P k = some fn) (hl : ds.length = fn.ps) (he : Ends (evSs G (runN G P n) fn.body (ds.map .dat ++ List.replicate (fn.n - fn.ps) .non)) ds.length d) : Ans (runN G P (n + 1)) k ds d := by
  unfold Ans
  show (match P k with | some fn => _ | none => _) = _
  rw [h]
  show (if (ds.map Sl.dat).length = fn.ps then _ else _) = _
  rw [if_pos (by rw [List.length_map]; exact hl)]
  exact he.fin
/-! ### membership of small lists -/
theorem dep_ss : ∀ l : List Str, ∃ k, D.deps (l.map .str) = some k ∧ k ≤ 0 := fun l => deps_le _ fun d hd => by
  obtain ⟨v, _, rfl⟩ := List.mem_map.mp hd
  exact ⟨0, rfl, Nat.le_refl _⟩
theorem inS (x : Str) (ys : List Str) : opIn (.str x) (.tup (ys.map .str)) = some (decide (x ∈ ys)) := by
  show (if eqOk (.str x) (.tup (ys.map .str)) then some (inD (.str x) (ys.map .str)) else none) = _
  rw [if_pos (eqOk_of (m := 0) ⟨0, rfl, Nat.le_refl _⟩ (dep_tup (dep_ss ys)) (by omega) (by omega))]
  congr 1
  unfold inD
  rw [List.any_map, Bool.eq_iff_iff]
  simp only [List.any_eq_true, Function.comp_apply, eqS, decide_eq_true_eq]
  constructor
  · rintro ⟨y, h1, rfl⟩; exact h1
  · intro h; exact ⟨x, h, rfl⟩
@[simp] theorem in2T (x a b : Str) : opCmp .isin (.str x) (.tup [.str a, .str b]) = some (decide (x = a) || decide (x = b)) := by
  have := inS x [a, b]
  show opIn (.str x) (.tup [.str a, .str b]) = _
  rw [show opIn (.str x) (.tup [.str a, .str b]) = opIn (.str x) (.tup ([a, b].map .str)) from rfl, this]
  simp
@[simp] theorem in2L (x a b : Str) : opCmp .isin (.str x) (.lst [.str a, .str b]) = some (decide (x = a) || decide (x = b)) := in2T x a b
theorem inNR (r : List Vl) : opIn .non (.tup (r.map vD)) = some (decide (none ∈ r)) := by
  show (if eqOk .non (.tup (r.map vD)) then some (inD .non (r.map vD)) else none) = _
  have hd : ∃ k, (D.tup (r.map vD)).dep = some k ∧ k ≤ 1 := dep_r r
  rw [if_pos (eqOk_of (m := 0) ⟨0, rfl, Nat.le_refl _⟩ hd (by omega) (by omega))]
  congr 1
  unfold inD
  rw [List.any_map, Bool.eq_iff_iff]
  simp only [List.any_eq_true, Function.comp_apply, decide_eq_true_eq]
  constructor
  · rintro ⟨y, h1, h2⟩
    have := eqV y none
    rw [show D.eq (vD y) (vD none) = D.eq (vD y) .non from rfl, h2] at this
    have h3 : y = none := by simpa using this.symm
    rw [← h3]; exact h1
  · intro h
    exact ⟨none, h, rfl⟩
theorem inN2 (a b : Vl) : opCmp .isin .non (.tup [vD a, vD b]) = some (decide (a = none) || decide (b = none)) := by
  have := inNR [a, b]
  show opIn .non (.tup [vD a, vD b]) = _
  rw [show opIn .non (.tup [vD a, vD b]) = opIn .non (.tup ([a, b].map vD)) from rfl, this]
  cases a <;> cases b <;> simp
theorem inN2L (a b : Vl) : opCmp .isin .non (.lst [vD a, vD b]) = some (decide (a = none) || decide (b = none)) := inN2 a b
/-! ### filters -/
inductive Fl where
  | cmp (lt c : Bool) (k : Int) | same | null (c : Bool) | not (a : Fl) | and (a b : Fl) | or (a b : Fl)
def bti (b : Bool) : Int := if b then 1 else 0
def Fl.d : Fl → D
  | .cmp lt c k => .tup [.str (if lt then "less" else "equal"), .int (bti c), .int k]
  | .same => .tup [.str "same"]
  | .null c => .tup [.str "null", .int (bti c)]
  | .not a => .tup [.str "not", a.d]
  | .and a b => .tup [.str "and", a.d, b.d]
  | .or a b => .tup [.str "or", a.d, b.d]
def Fl.size : Fl → Nat
  | .not a => 1 + a.size
  | .and a b => 1 + (a.size + b.size)
  | .or a b => 1 + (a.size + b.size)
  | _ => 1
def Fl.ok : Fl → Prop
  | .cmp _ _ k => 0 ≤ k ∧ k ≤ 9
  | .not a => a.ok
  | .and a b => a.ok ∧ b.ok
  | .or a b => a.ok ∧ b.ok
  | _ => True
def col (c : Bool) (a b : Vl) : Vl := if c then b else a
def Fl.val (S : Sm) (a b : Vl) : Fl → Tv
  | .cmp lt c k => match col c a b with
    | none => if S.unk = 1 then none else some lt
    | some i => some (if lt then decide (i < k) else decide (i = k))
  | .same => if S.unk = 1 ∧ (a = none ∨ b = none) then none else some (decide (a = b))
  | .null c => some (decide (col c a b = none))
  | .not x => not3 (x.val S a b)
  | .and x y => and3 (x.val S a b) (y.val S a b)
  | .or x y => or3 (x.val S a b) (y.val S a b)
theorem Fl.pos (c : Fl) : 0 < c.size := by cases c <;> simp only [Fl.size] <;> omega
@[simp] theorem ix_col (c : Bool) (a b : Vl) : opIx (.tup [vD a, vD b]) (.int (bti c)) = some (vD (col c a b)) := by cases c <;> rfl
theorem dep_two {x y : D} {m : Nat} (hx : ∃ k, x.dep = some k ∧ k ≤ m) (hy : ∃ k, y.dep = some k ∧ k ≤ m) : ∃ k, D.deps [x, y] = some k ∧ k ≤ m := deps_le _ fun d hd => by
  simp only [List.mem_cons, List.not_mem_nil, or_false] at hd
  rcases hd with rfl | rfl
  · exact hx
  · exact hy
theorem Fl.dep : ∀ c : Fl, ∃ k, c.d.dep = some k ∧ k ≤ c.size
  | .cmp _ _ _ => ⟨1, rfl, Nat.le_refl _⟩
  | .same => ⟨1, rfl, Nat.le_refl _⟩
  | .null _ => ⟨1, rfl, Nat.le_refl _⟩
  | .not a => by
    obtain ⟨k, h, hk⟩ := a.dep
    refine ⟨max 0 (max k 0) + 1, ?_, ?_⟩
    · simp only [Fl.d, D.dep, D.deps, h, Option.map_some]
    · simp only [Fl.size]; omega
  | .and a b => by
    obtain ⟨k, h, hk⟩ := a.dep
    obtain ⟨k2, h2, hk2⟩ := b.dep
    refine ⟨max 0 (max k (max k2 0)) + 1, ?_, ?_⟩
    · simp only [Fl.d, D.dep, D.deps, h, h2, Option.map_some]
    · simp only [Fl.size]; omega
  | .or a b => by
    obtain ⟨k, h, hk⟩ := a.dep
    obtain ⟨k2, h2, hk2⟩ := b.dep
    refine ⟨max 0 (max k (max k2 0)) + 1, ?_, ?_⟩
    · simp only [Fl.d, D.dep, D.deps, h, h2, Option.map_some]
    · simp only [Fl.size]; omega
theorem eq_tup0 {l : List D} (h : ∃ k, (D.tup l).dep = some k ∧ k ≤ 40) : opCmp .eq (.tup l) (.tup []) = some l.isEmpty := by
  show (if eqOk (.tup l) (.tup []) then some (D.eq (.tup l) (.tup [])) else none) = _
  rw [if_pos (eqOk_of (n := 1) h ⟨1, rfl, by omega⟩ (by omega) (by omega)), eqTup]
  cases l <;> simp only [D.pys, PyData.eqvAll] <;> rfl
theorem eq_lst0 {l : List D} (h : ∃ k, (D.lst l).dep = some k ∧ k ≤ 40) : opCmp .eq (.lst l) (.lst []) = some l.isEmpty := by
  show (if eqOk (.lst l) (.lst []) then some (D.eq (.lst l) (.lst [])) else none) = _
  rw [if_pos (eqOk_of (n := 1) h ⟨1, rfl, by omega⟩ (by omega) (by omega)), eqLst]
  cases l <;> simp only [D.pys, PyData.eqvAll] <;> rfl
@[simp] theorem is_iN (i : Int) : opCmp .is (.int i) .non = some false := rfl
@[simp] theorem is_nN : opCmp .is .non .non = some true := rfl
@[simp] theorem isnot_iN (i : Int) : opCmp .isnot (.int i) .non = some true := rfl
@[simp] theorem isnot_nN : opCmp .isnot .non .non = some false := rfl
@[simp] theorem cmp_eqB (a b : Bool) : opCmp .eq (.bl a) (.bl b) = some (a == b) := by cases a <;> cases b <;> rfl
/-! ### a row's cells -/
def c0 (r : Row) : Vl := r.getD 0 none
def c1 (r : Row) : Vl := r.getD 1 none
theorem two_eta {r : Row} (h : r.length = 2) : r = [c0 r, c1 r] := by
  match r, h with
  | [a, b], _ => rfl
theorem ixr0 {r : Row} (h : r.length = 2) : opIx (rD r) (.int 0) = some (vD (c0 r)) := by
  match r, h with
  | [a, b], _ => rfl
theorem ixr1 {r : Row} (h : r.length = 2) : opIx (rD r) (.int 1) = some (vD (c1 r)) := by
  match r, h with
  | [a, b], _ => rfl
theorem slr1 {r : Row} (h : r.length = 2) : opSl (rD r) (some 1) none = some (rD [c1 r]) := by
  match r, h with
  | [a, b], _ => rfl
theorem slr0 {r : Row} (h : r.length = 2) : opSl (rD r) none (some 1) = some (rD [c0 r]) := by
  match r, h with
  | [a, b], _ => rfl
theorem add_r (r s : Row) (h : r.length + s.length ≤ 20) : opBin .add (rD r) (rD s) = some (rD (r ++ s)) := by
  unfold rD
  rw [add_t _ _ (by rw [List.length_map, List.length_map]; exact Nat.le_trans h (by decide)), List.map_append]
def goodK (S : Sm) (k : Str) (u : List Row) (r : Row) : Bool := if k = "not_in" then u.all fun s => decide (mtc S (c0 r) (c0 s) = some false) else (u.any fun s => decide (mtc S (c0 r) (c0 s) = some true)) == decide (k = "semijoin")
def joinL (S : Sm) (t u : List Row) : List Row := t.flatMap fun r => (u.filter fun s => decide (mtc S (c0 r) (c0 s) = some true)).map fun s => r ++ [c1 s]
def cut1 (t : List Row) : List Row := t.map fun r => [c0 r]
def vals (t : List Row) : List Int := t.filterMap c1
theorem vals_eq (t : List Row) : (t.filter fun r => !decide (c1 r = none)).map (fun r => vD (c1 r)) = (vals t).map .int := by
  unfold vals
  induction t with
  | nil => rfl
  | cons r t ih =>
    rw [List.filter_cons, List.filterMap_cons]
    cases h : c1 r with
    | none => simpa using ih
    | some i =>
      have e : vD (some i) = .int i := rfl
      simp only [decide_eq_true_eq, reduceCtorEq, not_false_eq_true, decide_false, Bool.not_false, if_true, List.map_cons, h, e, ih]
def totD (S : Sm) (t : List Row) : D := if (vals t).isEmpty && !S.zero then .non else .int (vals t).sum
theorem sum_i (l : List Int) : opBi .sum [.lst (l.map .int)] = some (.int l.sum) := by
  have := sum_map l id
  simpa using this
/-! ### for the law's own part -/
theorem es_one {G : Nat → Option D} {run : Run} {e : E} {env : En} : evEs G run (.cons e .nil) env = (evE G run e env).bind fun x e1 => .ok [x] e1 := by simp only [evEs, bind_ok']
@[simp] theorem il_0 (a : D) (l : List D) : opIx (.lst (a :: l)) (.int 0) = some a := ixL (a :: l) 0 (by simp)
@[simp] theorem il_1 (a b : D) (l : List D) : opIx (.lst (a :: b :: l)) (.int 1) = some b := ixL (a :: b :: l) 1 (by simp)
@[simp] theorem il_2 (a b c : D) (l : List D) : opIx (.lst (a :: b :: c :: l)) (.int 2) = some c := ixL (a :: b :: c :: l) 2 (by simp)
@[simp] theorem il_3 (a b c d : D) (l : List D) : opIx (.lst (a :: b :: c :: d :: l)) (.int 3) = some d := ixL (a :: b :: c :: d :: l) 3 (by simp)
theorem enumD_f {α : Type} (f : α → D) (d : α) (t : List α) : enumD (t.map f) = (List.range t.length).map fun (k : Nat) => .tup [.int (k : Int), f (t.getD k d)] := by
  unfold enumD
  rw [List.length_map]
  apply List.ext_getElem?
  intro k
  rw [List.getElem?_zipWith, List.getElem?_map, List.getElem?_map]
  by_cases h : k < t.length
  · rw [List.getElem?_range h, List.getElem?_eq_getElem h]
    show some (D.tup [.int (k : Int), f t[k]]) = some (D.tup [.int (k : Int), f (t.getD k d)])
    rw [List.getD_eq_getElem?_getD, List.getElem?_eq_getElem h]
    rfl
  · rw [List.getElem?_eq_none (by simpa using h), List.getElem?_eq_none (by simpa using h)]
    rfl
theorem enumD_r (t : List Row) : enumD (t.map rD) = (List.range t.length).map fun (k : Nat) => .tup [.int (k : Int), rD (nth t k)] := enumD_f rD [] t
@[simp] theorem meC (l : List D) : meTy .count (.lst l) = true := (rfl)
@[simp] theorem notinRL (r : Row) (t : List Row) : opCmp .notin (rD r) (.lst (t.map rD)) = some (!decide (r ∈ t)) := by
  show (opIn (rD r) (.lst (t.map rD))).map (!·) = _
  rw [inRL]
  rfl
theorem mul_bi (a b : Int) : opBin .mul (.int a) (.int (if b = 0 then 1 else 0)) = some (.int (if b = 0 then a else 0)) := by
  show (if cmul a (if b = 0 then 1 else 0) then some (D.int (a * (if b = 0 then 1 else 0))) else none) = _
  rw [if_pos (by unfold cmul; split <;> simp)]
  split <;> simp
theorem inTvs (x : Tv) (l : List Tv) : opIn (tv x) (.lst (l.map tv)) = some (decide (x ∈ l)) := by
  have hd : ∃ k, (D.tup (l.map tv)).dep = some k ∧ k ≤ 1 := dep_tup (deps_le _ fun d hd => by
    obtain ⟨v, _, rfl⟩ := List.mem_map.mp hd
    exact ⟨0, by rcases v with _ | v <;> rfl, Nat.le_refl _⟩)
  have hx : ∃ k, (tv x).dep = some k ∧ k ≤ 0 := ⟨0, by rcases x with _ | v <;> rfl, Nat.le_refl _⟩
  show (if eqOk (tv x) (.tup (l.map tv)) then some (inD (tv x) (l.map tv)) else none) = _
  rw [if_pos (eqOk_of hx hd (by omega) (by omega))]
  congr 1
  unfold inD
  have he : ∀ a b : Tv, D.eq (tv a) (tv b) = decide (a = b) := by
    intro a b
    rcases a with _ | (_ | _) <;> rcases b with _ | (_ | _) <;> rfl
  rw [List.any_map, Bool.eq_iff_iff]
  simp only [List.any_eq_true, Function.comp_apply, he, decide_eq_true_eq]
  constructor
  · rintro ⟨y, h1, rfl⟩; exact h1
  · intro h; exact ⟨x, h, rfl⟩
theorem inTT (l : List Tv) : opCmp .isin (.bl true) (.lst (l.map tv)) = some (decide (some true ∈ l)) := inTvs (some true) l
theorem ninTT (l : List Tv) : opCmp .notin (.bl true) (.lst (l.map tv)) = some (!decide (some true ∈ l)) := by
  show (opIn (.bl true) (.lst (l.map tv))).map (!·) = _
  rw [show opIn (.bl true) (.lst (l.map tv)) = _ from inTvs (some true) l]
  rfl
theorem ninTN (l : List Tv) : opCmp .notin .non (.lst (l.map tv)) = some (!decide (none ∈ l)) := by
  show (opIn .non (.lst (l.map tv))).map (!·) = _
  rw [show opIn .non (.lst (l.map tv)) = _ from inTvs none l]
  rfl
theorem keys_good (S : Sm) (u : List Row) (r : Row) (l : List Tv) (hl : l = u.map fun s => mtc S (c0 r) (c0 s)) : goodK S "semijoin" u r = decide (some true ∈ l) ∧ goodK S "antijoin" u r = !decide (some true ∈ l) ∧ goodK S "not_in" u r = (!decide (some true ∈ l) && !decide (none ∈ l)) := by
  have h1 : (u.any fun s => decide (mtc S (c0 r) (c0 s) = some true)) = decide (some true ∈ l) := by
    rw [hl, Bool.eq_iff_iff]
    simp
  refine ⟨?_, ?_, ?_⟩
  · unfold goodK
    rw [if_neg (by simp), h1]
    simp
  · unfold goodK
    rw [if_neg (by simp), h1]
    simp
  · unfold goodK
    rw [if_pos rfl, hl, Bool.eq_iff_iff, List.all_eq_true, Bool.and_eq_true]
    constructor
    · intro h
      have h' : ∀ x ∈ u, mtc S (c0 r) (c0 x) = some false := fun x hx => of_decide_eq_true (h x hx)
      refine ⟨?_, ?_⟩
      · rw [Bool.not_eq_true', decide_eq_false_iff_not, List.mem_map]
        rintro ⟨x, hx, e⟩
        rw [h' x hx] at e
        cases e
      · rw [Bool.not_eq_true', decide_eq_false_iff_not, List.mem_map]
        rintro ⟨x, hx, e⟩
        rw [h' x hx] at e
        cases e
    · rintro ⟨h2, h3⟩ x hx
      rw [Bool.not_eq_true', decide_eq_false_iff_not, List.mem_map] at h2 h3
      apply decide_eq_true
      rcases h : mtc S (c0 r) (c0 x) with _ | (_ | _)
      · exact absurd ⟨x, hx, h⟩ h3
      · rfl
      · exact absurd ⟨x, hx, h⟩ h2
theorem proj_cut (S : Sm) (t : List Row) (ht : ∀ r ∈ t, okV (c0 r)) : sortR (rep (fun r => capI S (cI (cut1 t) r)) (dd (cut1 t))) = if S.set then sortR (dd (cut1 t)) else sortR (cut1 t) := by
  have hok : ∀ r ∈ cut1 t, okR r := fun r hr => by
    obtain ⟨s, hs, rfl⟩ := List.mem_map.mp hr
    intro v hv
    simp only [List.mem_singleton] at hv
    subst hv
    exact ht s hs
  cases hS : S.set with
  | true =>
    simp only [if_true]
    congr 1
    have : ∀ l : List Row, (∀ r ∈ l, r ∈ cut1 t) → rep (fun r => capI S (cI (cut1 t) r)) l = l := by
      intro l
      induction l with
      | nil => intro _; rfl
      | cons r l ih =>
        intro h
        have h1 : 1 ≤ (cut1 t).count r := List.count_pos_iff.mpr (h r List.mem_cons_self)
        have h2 : capI S (cI (cut1 t) r) = 1 := by
          unfold capI mn cI
          rw [hS]
          simp only [if_true]
          split <;> omega
        have ih := ih fun x hx => h x (List.mem_cons_of_mem _ hx)
        unfold rep at *
        rw [List.flatMap_cons, ih]
        show List.replicate (capI S (cI (cut1 t) r)).toNat r ++ l = _
        rw [h2]
        rfl
    exact this _ fun r hr => dd_mem.mp hr
  | false =>
    simp only [Bool.false_eq_true, if_false]
    have e : rep (fun r => capI S (cI (cut1 t) r)) (dd (cut1 t)) = (dd (cut1 t)).flatMap fun r => List.replicate ((cut1 t).count r) r := by
      unfold rep capI cI
      rw [hS]
      simp
    rw [e]
    exact sortR_perm (fun r hr => hok r (by
      obtain ⟨x, hx, h2⟩ := List.mem_flatMap.mp hr
      rw [(List.mem_replicate.mp h2).2]
      exact dd_mem.mp hx)) (spread_perm (cut1 t))
/-! ### runs that hold a row of the caller's -/
def EndsO (r : SR) (n : Nat) (d : D) (l : List D) : Prop := match r with
  | .ret x e => x = d ∧ e.at 0 = .own (.lst l) ∧ n ≤ e.length
  | .nxt e => D.non = d ∧ e.at 0 = .own (.lst l) ∧ n ≤ e.length
  | _ => False
@[simp] theorem endsO_ret {x d : D} {e : En} {n : Nat} {l : List D} : EndsO (.ret x e) n d l = (x = d ∧ e.at 0 = .own (.lst l) ∧ n ≤ e.length) := (rfl)
@[simp] theorem endsO_nxt {d : D} {e : En} {n : Nat} {l : List D} : EndsO (.nxt e) n d l = (D.non = d ∧ e.at 0 = .own (.lst l) ∧ n ≤ e.length) := (rfl)
theorem outsO {o : O} {l : List D} {ds : List D} {e : En} (h : ds.length + 1 ≤ e.length) (h0 : e.at 0 = .own (.lst l)) : outs (.own o :: ds.map .dat) e = .own (.lst l) :: ds.map .dat := by
  cases e with
  | nil => simp at h
  | cons s e =>
    have hs : s = .own (.lst l) := h0
    have := outs_dat ds e (by simpa using h)
    unfold outs at *
    rw [List.zipWith_cons_cons, this, hs]
    rfl
theorem EndsO.fin {r : SR} {o : O} {ds : List D} {d : D} {l : List D} (h : EndsO r (ds.length + 1) d l) : Qh.finish (.own o :: ds.map .dat) r = .ok d (.own (.lst l) :: ds.map .dat) := by
  cases r with
  | ret x e =>
    obtain ⟨rfl, h1, h2⟩ := h
    show (if (Sl.own o :: ds.map Sl.dat).length ≤ e.length then _ else _) = _
    rw [if_pos (by rw [List.length_cons, List.length_map]; exact h2), outsO h2 h1]
  | nxt e =>
    obtain ⟨rfl, h1, h2⟩ := h
    show (if (Sl.own o :: ds.map Sl.dat).length ≤ e.length then _ else _) = _
    rw [if_pos (by rw [List.length_cons, List.length_map]; exact h2), outsO h2 h1]
  | exc x e => exact h.elim
  | bad => exact h.elim
/-- a run over the caller's row: what it answers and leaves -/
def DrF (G : Nat → Option D) (P : Nat → Option Fn) (k f : Nat) (l : List D) (ds : List D) (d : D) (l' : List D) : Prop := ∀ n, k ≤ n → runN G P n f (.own (.lst l) :: ds.map .dat) = .ok d (.own (.lst l') :: ds.map .dat)
theorem run_endsO {G : Nat → Option D} {P : Nat → Option Fn} {n k : Nat} {fn : Fn} {l l' : List D} {ds : List D} {d : D} (h : P k = some fn) (hl : ds.length + 1 = fn.ps) (he : EndsO (evSs G (runN G P n) fn.body (.own (.lst l) :: ds.map .dat ++ List.replicate (fn.n - fn.ps) .non)) (ds.length + 1) d l') : runN G P (n + 1) k (.own (.lst l) :: ds.map .dat) = .ok d (.own (.lst l') :: ds.map .dat) := by
  show (match P k with | some fn => _ | none => _) = _
  rw [h]
  show (if (Sl.own (.lst l) :: ds.map Sl.dat).length = fn.ps then _ else _) = _
  rw [if_pos (by rw [List.length_cons, List.length_map]; exact hl)]
  exact he.fin
def Rw (l : List D) : Prop := ∃ (ns : List Int) (i s z : Int), l = [.scr ns, .int i, .int s, .int z] ∧ 0 ≤ i ∧ 0 ≤ s ∧ s < 2147483647
theorem Rw.flats {l : List D} (h : Rw l) : D.flats l = true := by
  obtain ⟨ns, i, s, z, rfl, _⟩ := h
  rfl
theorem ix4_0 : L2.ixN 4 0 = some 0 := rfl
theorem ix4_1 : L2.ixN 4 1 = some 1 := rfl
theorem ix4_2 : L2.ixN 4 2 = some 2 := rfl
theorem ix4_3 : L2.ixN 4 3 = some 3 := rfl
theorem p1018 : opBin .pow (.int 10) (.int 18) = some (.int 1000000000000000000) := by kernel_rfl
theorem mod_i (i j : Int) (h : j ≠ 0) : opBin .mod (.int i) (.int j) = some (.int (i.fmod j)) := by
  show (if decide (j ≠ 0) then some (D.int (i.fmod j)) else none) = _
  rw [if_pos (decide_eq_true h)]
theorem fdv_i (i j : Int) (h : 0 < j) (h' : j < 1073741824) : opBin .fdiv (.int i) (.int j) = some (.int (i.fdiv j)) := by
  show (if decide (j ≠ 0) && decide (j.natAbs < 1073741824) then some (D.int (i.fdiv j)) else none) = _
  rw [if_pos (by rw [Bool.and_eq_true, decide_eq_true_eq, decide_eq_true_eq]; omega)]
theorem mul_48 (i : Int) : opBin .mul (.int i) (.int 48271) = some (.int (i * 48271)) := by
  show (if cmul i 48271 then some (D.int (i * 48271)) else none) = _
  rw [if_pos (by unfold cmul; simp)]
theorem mul_3 (i : Int) : opBin .mul (.int 3) (.int i) = some (.int (3 * i)) := by
  show (if cmul 3 i then some (D.int (3 * i)) else none) = _
  rw [if_pos (by unfold cmul; simp)]
theorem ix_sc (ns : List Int) (k : Nat) (c : Int) (h : ns[k]? = some c) : opIx (.scr ns) (.int (k : Int)) = some (.int c) := by
  show (L2.atI ns (k : Int)).map D.int = _
  unfold L2.atI
  have hk := (List.getElem?_eq_some_iff.mp h).1
  rw [ixN_lt hk, Option.bind_some, h]
  rfl
theorem fm_lt (i m : Int) (h : 0 < m) : 0 ≤ i.fmod m ∧ i.fmod m < m := ⟨Int.fmod_nonneg_of_pos i h, Int.fmod_lt_of_pos i h⟩
theorem ne_lst0 {l : List D} (h : ∃ k, (D.lst l).dep = some k ∧ k ≤ 40) : opCmp .ne (.lst l) (.lst []) = some (!l.isEmpty) := by
  show (if eqOk (.lst l) (.lst []) then some (!D.eq (.lst l) (.lst [])) else none) = _
  rw [if_pos (eqOk_of (n := 1) h ⟨1, rfl, by omega⟩ (by omega) (by omega)), eqLst]
  cases l <;> simp only [D.pys, PyData.eqvAll] <;> rfl
@[simp] theorem cmp_neB (a b : Bool) : opCmp .ne (.bl a) (.bl b) = some (!(a == b)) := by cases a <;> cases b <;> rfl
theorem forS_app {g : D → En → Option En} {body : En → SR} : ∀ (xs ys : List D) (e e1 : En), forS g body xs e = .nxt e1 → forS g body (xs ++ ys) e = forS g body ys e1
  | [], ys, e, e1, h => by
    injection h with h
    subst h
    rfl
  | x :: xs, ys, e, e1, h => by
    show (match g x e with | none => SR.bad | some e2 => (body e2).next (forS g body (xs ++ ys))) = _
    have h' : (match g x e with | none => SR.bad | some e2 => (body e2).next (forS g body xs)) = SR.nxt e1 := h
    cases hg : g x e with
    | none => rw [hg] at h'; cases h'
    | some e2 =>
      rw [hg] at h'
      simp only at h' ⊢
      cases hb : body e2 with
      | nxt e3 => rw [hb] at h'; exact forS_app xs ys e3 e1 h'
      | ret d e3 => rw [hb] at h'; cases h'
      | exc x e3 => rw [hb] at h'; cases h'
      | bad => rw [hb] at h'; cases h'
/-- a kind's count -/
def opK (S : Sm) (k : Str) (a b : Int) : Int := if k = "union" then uniI S a b else if k = "difference" then lessI S a b else mn a b
theorem opK_b (S : Sm) (k : Str) {a b : Int} (ha : 0 ≤ a ∧ a ≤ 72) (hb : 0 ≤ b ∧ b ≤ 72) : 0 ≤ opK S k a b ∧ opK S k a b ≤ 144 := by
  unfold opK uniI lessI mn mx
  repeat' split
  all_goals omega
def comb (S : Sm) (k : Str) (t u : List Row) : List Row := sortR (rep (fun r => capI S (opK S k (cI t r) (cI u r))) (dd (t ++ u)))
theorem comb_count (S : Sm) (k : Str) (t u : List Row) (r : Row) : ((comb S k t u).count r : Int) = capI S (opK S k (cI t r) (cI u r)) := by
  unfold comb sortR
  rw [List.Perm.count_eq (isort_perm _)]
  have h := count_spread (dd (t ++ u)) (fun r => (capI S (opK S k (cI t r) (cI u r))).toNat) r (dd_nd _)
  unfold rep
  rw [h]
  have hn : 0 ≤ capI S (opK S k (cI t r) (cI u r)) := by
    have h1 := count_nn t r
    have h2 := count_nn u r
    unfold capI opK uniI lessI mn mx
    repeat' split
    all_goals omega
  split
  · omega
  · rename_i hr
    have h0 : cI t r = 0 ∧ cI u r = 0 := by
      have h3 : ¬ (r ∈ t ++ u) := fun h => hr (dd_mem.mpr h)
      rw [List.mem_append, not_or] at h3
      unfold cI
      rw [List.count_eq_zero.mpr h3.1, List.count_eq_zero.mpr h3.2]
      exact ⟨rfl, rfl⟩
    rw [h0.1, h0.2]
    unfold capI opK uniI lessI mn mx
    repeat' split
    all_goals omega
theorem rep_mono {f g : Row → Int} : ∀ {l : List Row}, (∀ r ∈ l, f r ≤ g r) → (rep f l).length ≤ (rep g l).length
  | [], _ => Nat.le_refl _
  | r :: l, h => by
    have ih := rep_mono (l := l) fun x hx => h x (List.mem_cons_of_mem _ hx)
    have h1 := h r List.mem_cons_self
    unfold rep at *
    rw [List.flatMap_cons, List.flatMap_cons, List.length_append, List.length_append, List.length_replicate, List.length_replicate]
    omega
theorem comb_len (S : Sm) (k : Str) (t u : List Row) : (comb S k t u).length ≤ t.length + u.length := by
  unfold comb
  rw [sortR_len]
  have h1 := rep_mono (f := fun r => capI S (opK S k (cI t r) (cI u r))) (g := fun r => ((t ++ u).count r : Int)) (l := dd (t ++ u)) fun r _ => by
    have h1 := count_nn t r
    have h2 := count_nn u r
    have h3 : ((t ++ u).count r : Int) = cI t r + cI u r := by
      unfold cI
      rw [List.count_append]
      omega
    rw [h3]
    unfold capI opK uniI lessI mn mx
    repeat' split
    all_goals omega
  have h2 : rep (fun r => ((t ++ u).count r : Int)) (dd (t ++ u)) = (dd (t ++ u)).flatMap fun r => List.replicate ((t ++ u).count r) r := rfl
  rw [h2, (spread_perm (t ++ u)).length_eq, List.length_append] at h1
  exact h1
theorem comb_row {S : Sm} {k : Str} {t u : List Row} {r : Row} (h : r ∈ comb S k t u) : r ∈ t ∨ r ∈ u := by
  unfold comb at h
  exact List.mem_append.mp (dd_mem.mp (rep_mem (sortR_mem.mp h)))
theorem comb_nd {S : Sm} (k : Str) (t u : List Row) (hS : S.set = true) : (comb S k t u).Nodup := by
  rw [List.nodup_iff_count]
  intro r
  have h := comb_count S k t u r
  unfold capI at h
  rw [hS] at h
  simp only [if_true] at h
  unfold mn at h
  split at h <;> omega
end Qh

/-! Conditions and expressions. -/
namespace Qh
open PySem PySem.Spec PyProof.Rows L2 PySem.W
@[simp] theorem w500 : (("p" : Str) = "q") = False := by decide +kernel
@[simp] theorem w501 : (("p" : Str) = "not") = False := by decide +kernel
@[simp] theorem w502 : (("p" : Str) = "and") = False := by decide +kernel
@[simp] theorem w503 : (("p" : Str) = "or") = False := by decide +kernel
@[simp] theorem w504 : (("p" : Str) = "table") = False := by decide +kernel
@[simp] theorem w505 : (("p" : Str) = "filter") = False := by decide +kernel
@[simp] theorem w506 : (("p" : Str) = "union") = False := by decide +kernel
@[simp] theorem w507 : (("p" : Str) = "intersection") = False := by decide +kernel
@[simp] theorem w508 : (("p" : Str) = "difference") = False := by decide +kernel
@[simp] theorem w509 : (("q" : Str) = "p") = False := by decide +kernel
@[simp] theorem w510 : (("q" : Str) = "not") = False := by decide +kernel
@[simp] theorem w511 : (("q" : Str) = "and") = False := by decide +kernel
@[simp] theorem w512 : (("q" : Str) = "or") = False := by decide +kernel
@[simp] theorem w513 : (("q" : Str) = "table") = False := by decide +kernel
@[simp] theorem w514 : (("q" : Str) = "filter") = False := by decide +kernel
@[simp] theorem w515 : (("q" : Str) = "union") = False := by decide +kernel
@[simp] theorem w516 : (("q" : Str) = "intersection") = False := by decide +kernel
@[simp] theorem w517 : (("q" : Str) = "difference") = False := by decide +kernel
@[simp] theorem w518 : (("not" : Str) = "p") = False := by decide +kernel
@[simp] theorem w519 : (("not" : Str) = "q") = False := by decide +kernel
@[simp] theorem w520 : (("not" : Str) = "and") = False := by decide +kernel
@[simp] theorem w521 : (("not" : Str) = "or") = False := by decide +kernel
@[simp] theorem w522 : (("not" : Str) = "table") = False := by decide +kernel
@[simp] theorem w523 : (("not" : Str) = "filter") = False := by decide +kernel
@[simp] theorem w524 : (("not" : Str) = "union") = False := by decide +kernel
@[simp] theorem w525 : (("not" : Str) = "intersection") = False := by decide +kernel
@[simp] theorem w526 : (("not" : Str) = "difference") = False := by decide +kernel
@[simp] theorem w527 : (("and" : Str) = "p") = False := by decide +kernel
@[simp] theorem w528 : (("and" : Str) = "q") = False := by decide +kernel
@[simp] theorem w529 : (("and" : Str) = "not") = False := by decide +kernel
@[simp] theorem w530 : (("and" : Str) = "or") = False := by decide +kernel
@[simp] theorem w531 : (("and" : Str) = "table") = False := by decide +kernel
@[simp] theorem w532 : (("and" : Str) = "filter") = False := by decide +kernel
@[simp] theorem w533 : (("and" : Str) = "union") = False := by decide +kernel
@[simp] theorem w534 : (("and" : Str) = "intersection") = False := by decide +kernel
@[simp] theorem w535 : (("and" : Str) = "difference") = False := by decide +kernel
@[simp] theorem w536 : (("or" : Str) = "p") = False := by decide +kernel
@[simp] theorem w537 : (("or" : Str) = "q") = False := by decide +kernel
@[simp] theorem w538 : (("or" : Str) = "not") = False := by decide +kernel
@[simp] theorem w539 : (("or" : Str) = "and") = False := by decide +kernel
@[simp] theorem w540 : (("or" : Str) = "table") = False := by decide +kernel
@[simp] theorem w541 : (("or" : Str) = "filter") = False := by decide +kernel
@[simp] theorem w542 : (("or" : Str) = "union") = False := by decide +kernel
@[simp] theorem w543 : (("or" : Str) = "intersection") = False := by decide +kernel
@[simp] theorem w544 : (("or" : Str) = "difference") = False := by decide +kernel
@[simp] theorem w545 : (("table" : Str) = "p") = False := by decide +kernel
@[simp] theorem w546 : (("table" : Str) = "q") = False := by decide +kernel
@[simp] theorem w547 : (("table" : Str) = "not") = False := by decide +kernel
@[simp] theorem w548 : (("table" : Str) = "and") = False := by decide +kernel
@[simp] theorem w549 : (("table" : Str) = "or") = False := by decide +kernel
@[simp] theorem w550 : (("table" : Str) = "filter") = False := by decide +kernel
@[simp] theorem w551 : (("table" : Str) = "union") = False := by decide +kernel
@[simp] theorem w552 : (("table" : Str) = "intersection") = False := by decide +kernel
@[simp] theorem w553 : (("table" : Str) = "difference") = False := by decide +kernel
@[simp] theorem w554 : (("filter" : Str) = "p") = False := by decide +kernel
@[simp] theorem w555 : (("filter" : Str) = "q") = False := by decide +kernel
@[simp] theorem w556 : (("filter" : Str) = "not") = False := by decide +kernel
@[simp] theorem w557 : (("filter" : Str) = "and") = False := by decide +kernel
@[simp] theorem w558 : (("filter" : Str) = "or") = False := by decide +kernel
@[simp] theorem w559 : (("filter" : Str) = "table") = False := by decide +kernel
@[simp] theorem w560 : (("filter" : Str) = "union") = False := by decide +kernel
@[simp] theorem w561 : (("filter" : Str) = "intersection") = False := by decide +kernel
@[simp] theorem w562 : (("filter" : Str) = "difference") = False := by decide +kernel
@[simp] theorem w563 : (("union" : Str) = "p") = False := by decide +kernel
@[simp] theorem w564 : (("union" : Str) = "q") = False := by decide +kernel
@[simp] theorem w565 : (("union" : Str) = "not") = False := by decide +kernel
@[simp] theorem w566 : (("union" : Str) = "and") = False := by decide +kernel
@[simp] theorem w567 : (("union" : Str) = "or") = False := by decide +kernel
@[simp] theorem w568 : (("union" : Str) = "table") = False := by decide +kernel
@[simp] theorem w569 : (("union" : Str) = "filter") = False := by decide +kernel
@[simp] theorem w570 : (("union" : Str) = "intersection") = False := by decide +kernel
@[simp] theorem w571 : (("union" : Str) = "difference") = False := by decide +kernel
@[simp] theorem w572 : (("intersection" : Str) = "p") = False := by decide +kernel
@[simp] theorem w573 : (("intersection" : Str) = "q") = False := by decide +kernel
@[simp] theorem w574 : (("intersection" : Str) = "not") = False := by decide +kernel
@[simp] theorem w575 : (("intersection" : Str) = "and") = False := by decide +kernel
@[simp] theorem w576 : (("intersection" : Str) = "or") = False := by decide +kernel
@[simp] theorem w577 : (("intersection" : Str) = "table") = False := by decide +kernel
@[simp] theorem w578 : (("intersection" : Str) = "filter") = False := by decide +kernel
@[simp] theorem w579 : (("intersection" : Str) = "union") = False := by decide +kernel
@[simp] theorem w580 : (("intersection" : Str) = "difference") = False := by decide +kernel
@[simp] theorem w581 : (("difference" : Str) = "p") = False := by decide +kernel
@[simp] theorem w582 : (("difference" : Str) = "q") = False := by decide +kernel
@[simp] theorem w583 : (("difference" : Str) = "not") = False := by decide +kernel
@[simp] theorem w584 : (("difference" : Str) = "and") = False := by decide +kernel
@[simp] theorem w585 : (("difference" : Str) = "or") = False := by decide +kernel
@[simp] theorem w586 : (("difference" : Str) = "table") = False := by decide +kernel
@[simp] theorem w587 : (("difference" : Str) = "filter") = False := by decide +kernel
@[simp] theorem w588 : (("difference" : Str) = "union") = False := by decide +kernel
@[simp] theorem w589 : (("difference" : Str) = "intersection") = False := by decide +kernel
inductive Cd where
  | p | q | not (a : Cd) | and (a b : Cd) | or (a b : Cd)
def Cd.d : Cd → D
  | .p => .tup [.str "p"]
  | .q => .tup [.str "q"]
  | .not a => .tup [.str "not", a.d]
  | .and a b => .tup [.str "and", a.d, b.d]
  | .or a b => .tup [.str "or", a.d, b.d]
def Cd.size : Cd → Nat
  | .p => 1
  | .q => 1
  | .not a => 1 + a.size
  | .and a b => 1 + (a.size + b.size)
  | .or a b => 1 + (a.size + b.size)
theorem Cd.pos (c : Cd) : 0 < c.size := by cases c <;> simp only [Cd.size] <;> omega
theorem Cd.dep : ∀ c : Cd, ∃ k, c.d.dep = some k ∧ k ≤ c.size
  | .p => ⟨1, rfl, Nat.le_refl _⟩
  | .q => ⟨1, rfl, Nat.le_refl _⟩
  | .not a => by
    obtain ⟨k, h, hk⟩ := a.dep
    refine ⟨max 0 (max k 0) + 1, ?_, ?_⟩
    · simp only [Cd.d, D.dep, D.deps, h, Option.map_some]
    · simp only [Cd.size]; omega
  | .and a b => by
    obtain ⟨k, h, hk⟩ := a.dep
    obtain ⟨k2, h2, hk2⟩ := b.dep
    refine ⟨max 0 (max k (max k2 0)) + 1, ?_, ?_⟩
    · simp only [Cd.d, D.dep, D.deps, h, h2, Option.map_some]
    · simp only [Cd.size]; omega
  | .or a b => by
    obtain ⟨k, h, hk⟩ := a.dep
    obtain ⟨k2, h2, hk2⟩ := b.dep
    refine ⟨max 0 (max k (max k2 0)) + 1, ?_, ?_⟩
    · simp only [Cd.d, D.dep, D.deps, h, h2, Option.map_some]
    · simp only [Cd.size]; omega
inductive Tr where
  | tab (b : Bool) | flt (c : Cd) (t : Tr) | uni (a b : Tr) | inn (a b : Tr) | dif (a b : Tr)
def Tr.d : Tr → D
  | .tab b => .tup [.str "table", .int (bti b)]
  | .flt c t => .tup [.str "filter", c.d, t.d]
  | .uni a b => .tup [.str "union", a.d, b.d]
  | .inn a b => .tup [.str "intersection", a.d, b.d]
  | .dif a b => .tup [.str "difference", a.d, b.d]
def Tr.leaves : Tr → Nat
  | .tab _ => 1
  | .flt _ t => t.leaves
  | .uni a b => a.leaves + b.leaves
  | .inn a b => a.leaves + b.leaves
  | .dif a b => a.leaves + b.leaves
def Tr.size : Tr → Nat
  | .tab _ => 1
  | .flt c t => 1 + c.size + t.size
  | .uni a b => 1 + a.size + b.size
  | .inn a b => 1 + a.size + b.size
  | .dif a b => 1 + a.size + b.size
theorem Tr.pos (t : Tr) : 0 < t.size := by cases t <;> simp only [Tr.size] <;> omega
theorem Tr.lpos : ∀ t : Tr, 0 < t.leaves
  | .tab _ => by simp only [Tr.leaves]; omega
  | .flt _ t => t.lpos
  | .uni a b => by have := a.lpos; simp only [Tr.leaves]; omega
  | .inn a b => by have := a.lpos; simp only [Tr.leaves]; omega
  | .dif a b => by have := a.lpos; simp only [Tr.leaves]; omega
def Tr.ok (t : Tr) : Prop := t.leaves ≤ 6 ∧ t.size ≤ 30
def Cd.val (p q : Tv) : Cd → Tv
  | .p => p
  | .q => q
  | .not a => not3 (a.val p q)
  | .and a b => and3 (a.val p q) (b.val p q)
  | .or a b => or3 (a.val p q) (b.val p q)
/-- the filters put in -/
def Cd.put (p q : Fl) : Cd → Fl
  | .p => p
  | .q => q
  | .not a => .not (a.put p q)
  | .and a b => .and (a.put p q) (b.put p q)
  | .or a b => .or (a.put p q) (b.put p q)
theorem put_val (S : Sm) (p q : Fl) (a b : Vl) : ∀ c : Cd, (c.put p q).val S a b = c.val (p.val S a b) (q.val S a b)
  | .p => rfl
  | .q => rfl
  | .not c => by simp only [Cd.put, Fl.val, Cd.val, put_val S p q a b c]
  | .and c d => by simp only [Cd.put, Fl.val, Cd.val, put_val S p q a b c, put_val S p q a b d]
  | .or c d => by simp only [Cd.put, Fl.val, Cd.val, put_val S p q a b c, put_val S p q a b d]
theorem put_ok {p q : Fl} (hp : p.ok) (hq : q.ok) : ∀ c : Cd, (c.put p q).ok
  | .p => hp
  | .q => hq
  | .not c => put_ok hp hq c
  | .and c d => ⟨put_ok hp hq c, put_ok hp hq d⟩
  | .or c d => ⟨put_ok hp hq c, put_ok hp hq d⟩
theorem put_size {p q : Fl} {m : Nat} (hp : p.size ≤ m) (hq : q.size ≤ m) : ∀ c : Cd, (c.put p q).size ≤ c.size * (m + 1)
  | .p => by simp only [Cd.put, Cd.size]; omega
  | .q => by simp only [Cd.put, Cd.size]; omega
  | .not c => by
    have := put_size hp hq c
    simp only [Cd.put, Cd.size, Fl.size, Nat.add_mul]
    omega
  | .and c d => by
    have := put_size hp hq c
    have := put_size hp hq d
    simp only [Cd.put, Cd.size, Fl.size, Nat.add_mul]
    omega
  | .or c d => by
    have := put_size hp hq c
    have := put_size hp hq d
    simp only [Cd.put, Cd.size, Fl.size, Nat.add_mul]
    omega
def cntT (S : Sm) (a b : Int) (p q : Tv) : Tr → Int
  | .tab t => if t then b else a
  | .flt c t => if c.val p q = some true then cntT S a b p q t else 0
  | .uni x y => capI S (uniI S (cntT S a b p q x) (cntT S a b p q y))
  | .inn x y => capI S (mn (cntT S a b p q x) (cntT S a b p q y))
  | .dif x y => lessI S (cntT S a b p q x) (cntT S a b p q y)
def caseD (a b : Int) (p q : Tv) : D := .tup [.int a, .int b, tv p, tv q]
def isPQ : Cd → Bool
  | .p => true
  | .q => true
  | _ => false
theorem c_in (c : Cd) (h : c.size ≤ 30) : opCmp .isin c.d (.tup [.tup [.str "p"], .tup [.str "q"]]) = some (isPQ c) := by
  obtain ⟨k, hd, hk⟩ := c.dep
  have e : eqOk c.d (.tup [.tup [.str "p"], .tup [.str "q"]]) = true := by
    unfold eqOk
    rw [hd]
    have : D.dep (.tup [.tup [.str "p"], .tup [.str "q"]]) = some 2 := by rfl
    rw [this]
    simp
    omega
  show (if eqOk c.d (.tup [.tup [.str "p"], .tup [.str "q"]]) then some (inD c.d [.tup [.str "p"], .tup [.str "q"]]) else none) = _
  rw [e]
  cases c <;> kernel_rfl
theorem opCmp_notin (a b : D) : opCmp .notin a b = (opCmp .isin a b).map (!·) := by
  cases a <;> cases b <;> rfl
theorem in23 (i : Int) : opCmp .isin (.int i) (.tup [.int 2, .int 3]) = some (decide (2 = i) || decide (3 = i)) := by
  show (if eqOk (.int i) (.tup [.int 2, .int 3]) then some (inD (.int i) [.int 2, .int 3]) else none) = _
  have e : eqOk (.int i) (.tup [.int 2, .int 3]) = true := by rfl
  rw [e]
  simp only [if_true, inD, List.any_cons, List.any_nil, eqI, Bool.or_false]
theorem inKinds (x : Str) : opCmp .isin (.str x) (.tup [.str "union", .str "intersection", .str "difference"]) = some (decide (x = "union" ∨ x = "intersection" ∨ x = "difference")) := by
  have := inS x ["union", "intersection", "difference"]
  show opIn (.str x) (.tup [.str "union", .str "intersection", .str "difference"]) = _
  rw [show opIn (.str x) (.tup [.str "union", .str "intersection", .str "difference"]) = opIn (.str x) (.tup ((["union", "intersection", "difference"] : List Str).map .str)) from rfl, this]
  simp
def szD (t : Tr) : D := .tup [.int t.leaves, .int t.size]
/-- the value of an expression -/
def Tr.tab_ (S : Sm) (a b : List Row) (p q : Fl) : Tr → List Row
  | .tab t => if t then b else a
  | .flt c t => (t.tab_ S a b p q).filter fun r => decide ((c.put p q).val S (c0 r) (c1 r) = some true)
  | .uni x y => comb S "union" (x.tab_ S a b p q) (y.tab_ S a b p q)
  | .inn x y => comb S "intersection" (x.tab_ S a b p q) (y.tab_ S a b p q)
  | .dif x y => comb S "difference" (x.tab_ S a b p q) (y.tab_ S a b p q)
structure Sm.tN (S : Sm) (n : Nat) (t : List Row) : Prop where
  len : t.length ≤ n
  row : ∀ r ∈ t, S.rOk r
  set : S.set = true → t.Nodup
theorem tab_ok (S : Sm) {a b : List Row} (p q : Fl) (ha : S.tN 12 a) (hb : S.tN 12 b) : ∀ t : Tr, S.tN (12 * t.leaves) (t.tab_ S a b p q)
  | .tab t => by cases t <;> assumption
  | .flt c t => by
    obtain ⟨h1, h2, h3⟩ := tab_ok S p q ha hb t
    exact ⟨Nat.le_trans (List.length_filter_le _ _) h1, fun r hr => h2 r (List.mem_filter.mp hr).1, fun hs => (h3 hs).filter _⟩
  | .uni x y => by
    have h1 := tab_ok S p q ha hb x
    have h2 := tab_ok S p q ha hb y
    refine ⟨Nat.le_trans (comb_len _ _ _ _) ?_, fun r hr => (comb_row hr).elim (h1.row r) (h2.row r), fun hs => comb_nd _ _ _ hs⟩
    have := h1.len
    have := h2.len
    simp only [Tr.leaves, Nat.mul_add]
    omega
  | .inn x y => by
    have h1 := tab_ok S p q ha hb x
    have h2 := tab_ok S p q ha hb y
    refine ⟨Nat.le_trans (comb_len _ _ _ _) ?_, fun r hr => (comb_row hr).elim (h1.row r) (h2.row r), fun hs => comb_nd _ _ _ hs⟩
    have := h1.len
    have := h2.len
    simp only [Tr.leaves, Nat.mul_add]
    omega
  | .dif x y => by
    have h1 := tab_ok S p q ha hb x
    have h2 := tab_ok S p q ha hb y
    refine ⟨Nat.le_trans (comb_len _ _ _ _) ?_, fun r hr => (comb_row hr).elim (h1.row r) (h2.row r), fun hs => comb_nd _ _ _ hs⟩
    have := h1.len
    have := h2.len
    simp only [Tr.leaves, Nat.mul_add]
    omega
theorem Sm.tN.tB {S : Sm} {n : Nat} {t : List Row} (h : S.tN n t) (hn : n ≤ 72) : S.tB t := ⟨Nat.le_trans h.len hn, h.row, h.set⟩
theorem Sm.tOk.tN {S : Sm} {t : List Row} (h : S.tOk t) : S.tN 12 t := ⟨h.len, h.row, h.set⟩
theorem nd_le {t : List Row} (h : t.Nodup) (r : Row) : cI t r ≤ 1 := by
  have := List.nodup_iff_count.mp h r
  unfold cI
  omega
/-- a row's count in the value is reckoned from its counts in the tables -/
theorem tab_cnt (S : Sm) {a b : List Row} (p q : Fl) (ha : S.tN 12 a) (hb : S.tN 12 b) (r : Row) : ∀ t : Tr, cI (t.tab_ S a b p q) r = cntT S (cI a r) (cI b r) (p.val S (c0 r) (c1 r)) (q.val S (c0 r) (c1 r)) t
  | .tab t => by cases t <;> rfl
  | .flt c t => by
    have ih := tab_cnt S p q ha hb r t
    unfold cI at *
    simp only [Tr.tab_, cntT]
    rw [← ih, ← put_val]
    by_cases h : (c.put p q).val S (c0 r) (c1 r) = some true
    · rw [if_pos h, List.count_filter (by simpa using h)]
    · rw [if_neg h, List.count_eq_zero.mpr]
      · rfl
      · intro hr
        have := (List.mem_filter.mp hr).2
        simp only [decide_eq_true_eq] at this
        exact h this
  | .uni x y => by
    have h1 := tab_cnt S p q ha hb r x
    have h2 := tab_cnt S p q ha hb r y
    simp only [Tr.tab_, cntT]
    rw [show cI (comb S "union" (x.tab_ S a b p q) (y.tab_ S a b p q)) r = _ from comb_count _ _ _ _ _, h1, h2]
    unfold opK
    rw [if_pos rfl]
  | .inn x y => by
    have h1 := tab_cnt S p q ha hb r x
    have h2 := tab_cnt S p q ha hb r y
    simp only [Tr.tab_, cntT]
    rw [show cI (comb S "intersection" (x.tab_ S a b p q) (y.tab_ S a b p q)) r = _ from comb_count _ _ _ _ _, h1, h2]
    unfold opK
    rw [if_neg (by simp), if_neg (by simp)]
  | .dif x y => by
    have h1 := tab_cnt S p q ha hb r x
    have h2 := tab_cnt S p q ha hb r y
    have h3 := (tab_ok S p q ha hb x).set
    simp only [Tr.tab_, cntT]
    rw [show cI (comb S "difference" (x.tab_ S a b p q) (y.tab_ S a b p q)) r = _ from comb_count _ _ _ _ _]
    have e : opK S "difference" (cI (x.tab_ S a b p q) r) (cI (y.tab_ S a b p q) r) = lessI S (cI (x.tab_ S a b p q) r) (cI (y.tab_ S a b p q) r) := by
      unfold opK
      rw [if_neg (by simp), if_pos rfl]
    rw [e, ← h1, ← h2]
    unfold capI
    split
    · rename_i hS
      have h4 := nd_le (h3 hS) r
      have h5 := count_nn (x.tab_ S a b p q) r
      unfold lessI mn
      rw [hS]
      simp only [Bool.or_true, if_true]
      repeat' split
      all_goals omega
    · rfl
theorem not3_none {a : Tv} (h : not3 a = none) : a = none := by
  rcases a with _ | (_ | _) <;> first | rfl | cases h
theorem and3_none {a b : Tv} (h : and3 a b = none) : a = none ∨ b = none := by
  rcases a with _ | (_ | _) <;> rcases b with _ | (_ | _) <;> first | exact .inl rfl | exact .inr rfl | cases h
theorem Fl.val_none (S : Sm) (a b : Vl) : ∀ c : Fl, c.val S a b = none → S.unk = 1
  | .cmp lt c k, h => by
    unfold Fl.val at h
    split at h
    · split at h
      · assumption
      · cases h
    · cases h
  | .same, h => by
    unfold Fl.val at h
    split at h
    · rename_i h2; exact h2.1
    · cases h
  | .null c, h => by cases h
  | .not x, h => x.val_none S a b (not3_none h)
  | .and x y, h => (and3_none h).elim (x.val_none S a b) (y.val_none S a b)
  | .or x y, h => by
    unfold Fl.val or3 at h
    rcases and3_none (not3_none h) with h | h
    · exact x.val_none S a b (not3_none h)
    · exact y.val_none S a b (not3_none h)
@[simp] theorem tyCd (c : Cd) : tyOf .tuple c.d = true := by cases c <;> rfl
@[simp] theorem isCd (c : Cd) : isiOk c.d = true := by cases c <;> rfl
@[simp] theorem tyTr (c : Tr) : tyOf .tuple c.d = true := by cases c <;> rfl
@[simp] theorem isTr (c : Tr) : isiOk c.d = true := by cases c <;> rfl
end Qh

/-! Two expressions that agree on a small box of counts agree everywhere. -/
namespace Qh
open PySem PySem.Spec PyProof.Rows L2 PySem.W
section
variable {n u1 u2 w1 w2 : Int}
/-- a cone between two neighbours of size at most n -/
structure Cone (n u1 u2 w1 w2 : Int) : Prop where
  pu1 : 0 ≤ u1
  pu2 : 0 ≤ u2
  pw1 : 0 ≤ w1
  pw2 : 0 ≤ w2
  det : u1 * w2 - u2 * w1 = 1
  far : ¬ (u1 + w1 ≤ n ∧ u2 + w2 ≤ n)
theorem mul_ge {k x : Int} (hk : 1 ≤ k) (hx : 0 ≤ x) : x ≤ k * x := by
  have := Int.mul_le_mul_of_nonneg_right hk hx
  omega
theorem sgn0 (C : Cone n u1 u2 w1 w2) {α β : Int} (ha : -n ≤ α ∧ α ≤ n) (hb : -n ≤ β ∧ β ≤ n) : (0 ≤ α * u1 + β * u2 ∧ 0 ≤ α * w1 + β * w2) ∨ (α * u1 + β * u2 ≤ 0 ∧ α * w1 + β * w2 ≤ 0) := by
  have hd := C.det
  have e1 : (-(α * w1 + β * w2)) * u1 + (α * u1 + β * u2) * w1 = -β := by grind
  have e2 : (-(α * w1 + β * w2)) * u2 + (α * u1 + β * u2) * w2 = α := by grind
  generalize α * u1 + β * u2 = P at *
  generalize α * w1 + β * w2 = Q at *
  by_cases h1 : 0 < P ∧ Q < 0
  · exfalso
    have g1 := mul_ge (k := -Q) (by omega) C.pu1
    have g2 := mul_ge (k := P) (by omega) C.pw1
    have g3 := mul_ge (k := -Q) (by omega) C.pu2
    have g4 := mul_ge (k := P) (by omega) C.pw2
    exact C.far ⟨by omega, by omega⟩
  · by_cases h2 : P < 0 ∧ 0 < Q
    · exfalso
      have f1 : Q * u1 + (-P) * w1 = β := by grind
      have f2 : Q * u2 + (-P) * w2 = -α := by grind
      have g1 := mul_ge (k := Q) (by omega) C.pu1
      have g2 := mul_ge (k := -P) (by omega) C.pw1
      have g3 := mul_ge (k := Q) (by omega) C.pu2
      have g4 := mul_ge (k := -P) (by omega) C.pw2
      exact C.far ⟨by omega, by omega⟩
    · omega
theorem sgn (C : Cone n u1 u2 w1 w2) {α β : Int} (ha : -n ≤ α ∧ α ≤ n) (hb : -n ≤ β ∧ β ≤ n) :
    (∀ i j : Int, α * (i * u1 + j * w1) + β * (i * u2 + j * w2) = 0) ∨ (∀ i j : Int, 1 ≤ i → 1 ≤ j → 0 < α * (i * u1 + j * w1) + β * (i * u2 + j * w2)) ∨ (∀ i j : Int, 1 ≤ i → 1 ≤ j → α * (i * u1 + j * w1) + β * (i * u2 + j * w2) < 0) := by
  have h := sgn0 C ha hb
  have e : ∀ i j : Int, α * (i * u1 + j * w1) + β * (i * u2 + j * w2) = i * (α * u1 + β * u2) + j * (α * w1 + β * w2) := fun i j => by grind
  simp only [e]
  generalize α * u1 + β * u2 = P at *
  generalize α * w1 + β * w2 = Q at *
  rcases h with ⟨h1, h2⟩ | ⟨h1, h2⟩
  · by_cases h0 : P = 0 ∧ Q = 0
    · exact .inl fun i j => by rw [h0.1, h0.2]; simp
    · refine .inr (.inl fun i j hi hj => ?_)
      have g1 := mul_ge hi h1
      have g2 := mul_ge hj h2
      omega
  · by_cases h0 : P = 0 ∧ Q = 0
    · exact .inl fun i j => by rw [h0.1, h0.2]; simp
    · refine .inr (.inr fun i j hi hj => ?_)
      have g1 := mul_ge (x := -P) hi (by omega)
      have g2 := mul_ge (x := -Q) hj (by omega)
      have f1 : i * -P = -(i * P) := by grind
      have f2 : j * -Q = -(j * Q) := by grind
      omega
end
theorem cnt_nn (S : Sm) {a b : Int} (ha : 0 ≤ a) (hb : 0 ≤ b) (p q : Tv) : ∀ t : Tr, 0 ≤ cntT S a b p q t
  | .tab t => by cases t <;> simp only [cntT] <;> simpa
  | .flt c t => by
    have := cnt_nn S ha hb p q t
    simp only [cntT]
    split <;> omega
  | .uni x y => by
    have := cnt_nn S ha hb p q x
    have := cnt_nn S ha hb p q y
    simp only [cntT, capI, uniI, mn, mx]
    repeat' split
    all_goals omega
  | .inn x y => by
    have := cnt_nn S ha hb p q x
    have := cnt_nn S ha hb p q y
    simp only [cntT, capI, mn]
    repeat' split
    all_goals omega
  | .dif x y => by
    have := cnt_nn S ha hb p q x
    have := cnt_nn S ha hb p q y
    simp only [cntT, lessI, mx]
    repeat' split
    all_goals omega
/-- k times the counts, k times the count -/
theorem cnt_hom (S : Sm) (hS : S.set = false) (a b : Int) (ha : 0 ≤ a) (hb : 0 ≤ b) (p q : Tv) (k : Int) (hk : 1 ≤ k) : ∀ t : Tr, cntT S (k * a) (k * b) p q t = k * cntT S a b p q t
  | .tab t => by cases t <;> simp [cntT]
  | .flt c t => by
    have := cnt_hom S hS a b ha hb p q k hk t
    simp only [cntT]
    split
    · exact this
    · simp
  | .uni x y => by
    have h1 := cnt_hom S hS a b ha hb p q k hk x
    have h2 := cnt_hom S hS a b ha hb p q k hk y
    simp only [cntT, capI, hS, uniI, mx, h1, h2, Bool.false_eq_true, if_false]
    generalize cntT S a b p q x = X
    generalize cntT S a b p q y = Y
    split
    · grind
    · by_cases h : Y > X
      · have : k * Y > k * X := Int.mul_lt_mul_of_pos_left h (by omega)
        rw [if_pos h, if_pos this]
      · have : k * Y ≤ k * X := Int.mul_le_mul_of_nonneg_left (by omega) (by omega)
        rw [if_neg h, if_neg (by omega)]
  | .inn x y => by
    have h1 := cnt_hom S hS a b ha hb p q k hk x
    have h2 := cnt_hom S hS a b ha hb p q k hk y
    simp only [cntT, capI, hS, mn, h1, h2, Bool.false_eq_true, if_false]
    generalize cntT S a b p q x = X
    generalize cntT S a b p q y = Y
    by_cases h : Y < X
    · have : k * Y < k * X := Int.mul_lt_mul_of_pos_left h (by omega)
      rw [if_pos h, if_pos this]
    · have : k * X ≤ k * Y := Int.mul_le_mul_of_nonneg_left (by omega) (by omega)
      rw [if_neg h, if_neg (by omega)]
  | .dif x y => by
    have h1 := cnt_hom S hS a b ha hb p q k hk x
    have h2 := cnt_hom S hS a b ha hb p q k hk y
    have hy := cnt_nn S ha hb p q y
    simp only [cntT, lessI, hS, Bool.or_false, mx, h1, h2]
    generalize cntT S a b p q x = X at *
    generalize cntT S a b p q y = Y at *
    split
    · by_cases h : Y > 0
      · have : k * Y > 0 := Int.mul_pos (by omega) h
        rw [if_pos h, if_pos this]
        simp
      · have e : Y = 0 := by omega
        rw [e]
        simp
    · have e : k * X - k * Y = k * (X - Y) := by grind
      rw [e]
      generalize X - Y = Z
      by_cases h : 0 > Z
      · have : k * Z < 0 := Int.mul_neg_of_pos_of_neg (by omega) h
        rw [if_pos h, if_pos (by omega)]
        simp
      · have : 0 ≤ k * Z := Int.mul_nonneg (by omega) (by omega)
        rw [if_neg h, if_neg (by omega)]
/-- on a cone the count is linear -/
theorem cnt_lin (S : Sm) (hS : S.set = false) (p q : Tv) {n u1 u2 w1 w2 : Int} (C : Cone n u1 u2 w1 w2) : ∀ t : Tr, (t.leaves : Int) ≤ n → ∃ c d : Int, (-(t.leaves : Int) ≤ c ∧ c ≤ t.leaves) ∧ (-(t.leaves : Int) ≤ d ∧ d ≤ t.leaves) ∧ ∀ i j : Int, 1 ≤ i → 1 ≤ j → cntT S (i * u1 + j * w1) (i * u2 + j * w2) p q t = c * (i * u1 + j * w1) + d * (i * u2 + j * w2)
  | .tab t, h => by
    cases t
    · exact ⟨1, 0, by simp only [Tr.leaves]; omega, by simp only [Tr.leaves]; omega, fun i j _ _ => by simp [cntT]⟩
    · exact ⟨0, 1, by simp only [Tr.leaves]; omega, by simp only [Tr.leaves]; omega, fun i j _ _ => by simp [cntT]⟩
  | .flt c t, h => by
    simp only [Tr.leaves] at h ⊢
    obtain ⟨c1, d1, h1, h2, h3⟩ := cnt_lin S hS p q C t h
    simp only [cntT]
    by_cases hv : c.val p q = some true
    · simp only [if_pos hv]
      exact ⟨c1, d1, h1, h2, h3⟩
    · simp only [if_neg hv]
      exact ⟨0, 0, by omega, by omega, fun i j _ _ => by simp⟩
  | .uni x y, h => by
    simp only [Tr.leaves] at h ⊢
    obtain ⟨c1, d1, h1, h2, h3⟩ := cnt_lin S hS p q C x (by omega)
    obtain ⟨c2, d2, g1, g2, g3⟩ := cnt_lin S hS p q C y (by omega)
    simp only [cntT, capI, hS, uniI, mx, Bool.false_eq_true, if_false]
    cases hs : S.sum with
    | true =>
      refine ⟨c1 + c2, d1 + d2, by omega, by omega, fun i j hi hj => ?_⟩
      rw [h3 i j hi hj, g3 i j hi hj]
      simp only [if_true]
      grind
    | false =>
      simp only [Bool.false_eq_true, if_false]
      have e : ∀ i j : Int, (c1 - c2) * (i * u1 + j * w1) + (d1 - d2) * (i * u2 + j * w2) = (c1 * (i * u1 + j * w1) + d1 * (i * u2 + j * w2)) - (c2 * (i * u1 + j * w1) + d2 * (i * u2 + j * w2)) := fun i j => by grind
      rcases sgn C (α := c1 - c2) (β := d1 - d2) (by omega) (by omega) with s | s | s
      · refine ⟨c1, d1, by omega, by omega, fun i j hi hj => ?_⟩
        have s := s i j
        rw [e] at s
        rw [h3 i j hi hj, g3 i j hi hj, if_neg (by omega)]
      · refine ⟨c1, d1, by omega, by omega, fun i j hi hj => ?_⟩
        have s := s i j hi hj
        rw [e] at s
        rw [h3 i j hi hj, g3 i j hi hj, if_neg (by omega)]
      · refine ⟨c2, d2, by omega, by omega, fun i j hi hj => ?_⟩
        have s := s i j hi hj
        rw [e] at s
        rw [h3 i j hi hj, g3 i j hi hj, if_pos (by omega)]
  | .inn x y, h => by
    simp only [Tr.leaves] at h ⊢
    obtain ⟨c1, d1, h1, h2, h3⟩ := cnt_lin S hS p q C x (by omega)
    obtain ⟨c2, d2, g1, g2, g3⟩ := cnt_lin S hS p q C y (by omega)
    simp only [cntT, capI, hS, mn, Bool.false_eq_true, if_false]
    have e : ∀ i j : Int, (c1 - c2) * (i * u1 + j * w1) + (d1 - d2) * (i * u2 + j * w2) = (c1 * (i * u1 + j * w1) + d1 * (i * u2 + j * w2)) - (c2 * (i * u1 + j * w1) + d2 * (i * u2 + j * w2)) := fun i j => by grind
    rcases sgn C (α := c1 - c2) (β := d1 - d2) (by omega) (by omega) with s | s | s
    · refine ⟨c1, d1, by omega, by omega, fun i j hi hj => ?_⟩
      have s := s i j
      rw [e] at s
      rw [h3 i j hi hj, g3 i j hi hj, if_neg (by omega)]
    · refine ⟨c2, d2, by omega, by omega, fun i j hi hj => ?_⟩
      have s := s i j hi hj
      rw [e] at s
      rw [h3 i j hi hj, g3 i j hi hj, if_pos (by omega)]
    · refine ⟨c1, d1, by omega, by omega, fun i j hi hj => ?_⟩
      have s := s i j hi hj
      rw [e] at s
      rw [h3 i j hi hj, g3 i j hi hj, if_neg (by omega)]
  | .dif x y, h => by
    simp only [Tr.leaves] at h ⊢
    obtain ⟨c1, d1, h1, h2, h3⟩ := cnt_lin S hS p q C x (by omega)
    obtain ⟨c2, d2, g1, g2, g3⟩ := cnt_lin S hS p q C y (by omega)
    simp only [cntT, lessI, hS, Bool.or_false, mx]
    cases hk : S.kind with
    | true =>
      simp only [if_true]
      rcases sgn C (α := c2) (β := d2) (by omega) (by omega) with s | s | s
      · refine ⟨c1, d1, by omega, by omega, fun i j hi hj => ?_⟩
        have s := s i j
        rw [h3 i j hi hj, g3 i j hi hj, if_neg (by omega)]
      · refine ⟨0, 0, by omega, by omega, fun i j hi hj => ?_⟩
        have s := s i j hi hj
        rw [h3 i j hi hj, g3 i j hi hj, if_pos (by omega)]
        simp
      · refine ⟨c1, d1, by omega, by omega, fun i j hi hj => ?_⟩
        have s := s i j hi hj
        rw [h3 i j hi hj, g3 i j hi hj, if_neg (by omega)]
    | false =>
      simp only [Bool.false_eq_true, if_false]
      have e : ∀ i j : Int, (c1 - c2) * (i * u1 + j * w1) + (d1 - d2) * (i * u2 + j * w2) = (c1 * (i * u1 + j * w1) + d1 * (i * u2 + j * w2)) - (c2 * (i * u1 + j * w1) + d2 * (i * u2 + j * w2)) := fun i j => by grind
      rcases sgn C (α := c1 - c2) (β := d1 - d2) (by omega) (by omega) with s | s | s
      · refine ⟨0, 0, by omega, by omega, fun i j hi hj => ?_⟩
        have s := s i j
        rw [e] at s
        rw [h3 i j hi hj, g3 i j hi hj, s]
        simp
      · refine ⟨c1 - c2, d1 - d2, by omega, by omega, fun i j hi hj => ?_⟩
        have s := s i j hi hj
        rw [e] at s ⊢
        rw [h3 i j hi hj, g3 i j hi hj, if_neg (by omega)]
      · refine ⟨0, 0, by omega, by omega, fun i j hi hj => ?_⟩
        have s := s i j hi hj
        rw [e] at s
        rw [h3 i j hi hj, g3 i j hi hj, if_pos (by omega)]
        simp
/-- every point lies on a small ray or within a cone -/
theorem descend (n : Int) : ∀ (m : Nat) (i j u1 u2 w1 w2 : Int), 0 ≤ i → 0 ≤ j → i + j ≤ m → 0 ≤ u1 → 0 ≤ u2 → 0 ≤ w1 → 0 ≤ w2 → u1 ≤ n → u2 ≤ n → w1 ≤ n → w2 ≤ n → u1 * w2 - u2 * w1 = 1 →
    (∃ k v1 v2 : Int, 0 ≤ k ∧ 0 ≤ v1 ∧ v1 ≤ n ∧ 0 ≤ v2 ∧ v2 ≤ n ∧ i * u1 + j * w1 = k * v1 ∧ i * u2 + j * w2 = k * v2) ∨
    (∃ i' j' v1 v2 z1 z2 : Int, 1 ≤ i' ∧ 1 ≤ j' ∧ v1 ≤ n ∧ v2 ≤ n ∧ z1 ≤ n ∧ z2 ≤ n ∧ Cone n v1 v2 z1 z2 ∧ i * u1 + j * w1 = i' * v1 + j' * z1 ∧ i * u2 + j * w2 = i' * v2 + j' * z2)
  | 0, i, j, u1, u2, w1, w2, hi, hj, hm, a1, a2, a3, a4, b1, b2, b3, b4, hd => by
    have e1 : i = 0 := by omega
    have e2 : j = 0 := by omega
    subst e1
    subst e2
    exact .inl ⟨0, u1, u2, by omega, a1, b1, a2, b2, by simp, by simp⟩
  | m + 1, i, j, u1, u2, w1, w2, hi, hj, hm, a1, a2, a3, a4, b1, b2, b3, b4, hd => by
    by_cases hi0 : i = 0
    · subst hi0
      exact .inl ⟨j, w1, w2, hj, a3, b3, a4, b4, by simp, by simp⟩
    · by_cases hj0 : j = 0
      · subst hj0
        exact .inl ⟨i, u1, u2, hi, a1, b1, a2, b2, by simp, by simp⟩
      · by_cases hf : u1 + w1 ≤ n ∧ u2 + w2 ≤ n
        · by_cases hij : j ≤ i
          · have h := descend n m (i - j) j u1 u2 (u1 + w1) (u2 + w2) (by omega) hj (by omega) a1 a2 (by omega) (by omega) b1 b2 hf.1 hf.2 (by grind)
            have e1 : (i - j) * u1 + j * (u1 + w1) = i * u1 + j * w1 := by grind
            have e2 : (i - j) * u2 + j * (u2 + w2) = i * u2 + j * w2 := by grind
            rw [e1, e2] at h
            exact h
          · have h := descend n m i (j - i) (u1 + w1) (u2 + w2) w1 w2 hi (by omega) (by omega) (by omega) (by omega) a3 a4 hf.1 hf.2 b3 b4 (by grind)
            have e1 : i * (u1 + w1) + (j - i) * w1 = i * u1 + j * w1 := by grind
            have e2 : i * (u2 + w2) + (j - i) * w2 = i * u2 + j * w2 := by grind
            rw [e1, e2] at h
            exact h
        · exact .inr ⟨i, j, u1, u2, w1, w2, by omega, by omega, b1, b2, b3, b4, ⟨a1, a2, a3, a4, hd, hf⟩, rfl, rfl⟩
/-- what is one on the small box is one everywhere -/
theorem small (S : Sm) (hS : S.set = false) (p q : Tv) (t u : Tr) (n : Int) (ht : (t.leaves : Int) ≤ n) (hu : (u.leaves : Int) ≤ n) (h : ∀ a b : Int, 0 ≤ a → 0 ≤ b → a ≤ 3 * n → b ≤ 3 * n → cntT S a b p q t = cntT S a b p q u) (a b : Int) (ha : 0 ≤ a) (hb : 0 ≤ b) : cntT S a b p q t = cntT S a b p q u := by
  have hn : 1 ≤ n := by have := t.lpos; omega
  have hd := descend n (a + b).toNat a b 1 0 0 1 ha hb (by omega) (by omega) (by omega) (by omega) (by omega) hn (by omega) (by omega) hn (by decide)
  simp only [Int.mul_one, Int.mul_zero, Int.add_zero, Int.zero_add] at hd
  rcases hd with ⟨k, v1, v2, hk, h1, h2, h3, h4, rfl, rfl⟩ | ⟨i, j, u1, u2, w1, w2, hi, hj, b1, b2, b3, b4, C, rfl, rfl⟩
  · by_cases hk0 : k = 0
    · subst hk0
      simp only [Int.zero_mul]
      exact h 0 0 (by omega) (by omega) (by omega) (by omega)
    · rw [cnt_hom S hS v1 v2 h1 h3 p q k (by omega) t, cnt_hom S hS v1 v2 h1 h3 p q k (by omega) u, h v1 v2 h1 h3 (by omega) (by omega)]
  · obtain ⟨c, d, _, _, g⟩ := cnt_lin S hS p q C t ht
    obtain ⟨c', d', _, _, g'⟩ := cnt_lin S hS p q C u hu
    have q1 := C.pu1
    have q2 := C.pu2
    have q3 := C.pw1
    have q4 := C.pw2
    have e1 := h (1 * u1 + 1 * w1) (1 * u2 + 1 * w2) (by omega) (by omega) (by omega) (by omega)
    have e2 := h (2 * u1 + 1 * w1) (2 * u2 + 1 * w2) (by omega) (by omega) (by omega) (by omega)
    rw [g 1 1 (by omega) (by omega), g' 1 1 (by omega) (by omega)] at e1
    rw [g 2 1 (by omega) (by omega), g' 2 1 (by omega) (by omega)] at e2
    rw [g i j hi hj, g' i j hi hj]
    have f1 : (c - c') * u1 + (d - d') * u2 = 0 := by grind
    have f2 : (c - c') * w1 + (d - d') * w2 = 0 := by grind
    have f3 : i * ((c - c') * u1 + (d - d') * u2) + j * ((c - c') * w1 + (d - d') * w2) = 0 := by rw [f1, f2]; simp
    grind
/-! ### the cases -/
def truths (S : Sm) : List Tv := if S.unk = 1 then [some true, some false, none] else [some true, some false]
theorem truths_or (S : Sm) : truths S = [some true, some false, none] ∨ truths S = [some true, some false] := by
  unfold truths
  split
  · exact .inl rfl
  · exact .inr rfl
theorem truths_ok {S : Sm} {p : Tv} : p ∈ truths S ↔ (p = none → S.unk = 1) := by
  unfold truths
  split
  · rename_i h
    rcases p with _ | (_ | _) <;> simp [h]
  · rename_i h
    rcases p with _ | (_ | _) <;> simp [h]
def blk (S : Sm) (w a : Int) : List D := (truths S).flatMap fun p => (truths S).map fun q => caseD a (w - a) p q
def inner (S : Sm) (m w : Nat) : List D := (List.range (min w m + 1 - (w - m))).flatMap fun (k : Nat) => blk S w (((w - m : Nat) : Int) + (k : Int))
def casesL (S : Sm) (m : Nat) : List D := (List.range (2 * m + 1)).flatMap fun w => inner S m w
theorem blk_len (S : Sm) (w a : Int) : (blk S w a).length ≤ 9 := by
  unfold blk
  rcases truths_or S with h | h <;> rw [h] <;> simp
theorem flat_len {α β : Type} {f : α → List β} {c : Nat} : ∀ {l : List α}, (∀ x ∈ l, (f x).length ≤ c) → (l.flatMap f).length ≤ c * l.length
  | [], _ => by simp
  | x :: l, h => by
    rw [List.flatMap_cons, List.length_append, List.length_cons, Nat.mul_succ]
    have := flat_len (l := l) fun y hy => h y (List.mem_cons_of_mem _ hy)
    have := h x List.mem_cons_self
    omega
theorem inner_len (S : Sm) (m w : Nat) (hm : m ≤ 18) : (inner S m w).length ≤ 171 := by
  unfold inner
  have h1 := flat_len (f := fun k : Nat => blk S w (((w - m : Nat) : Int) + (k : Int))) (c := 9) (l := List.range (min w m + 1 - (w - m))) (fun x _ => blk_len S _ _)
  rw [List.length_range] at h1
  omega
theorem case_mem {S : Sm} {m : Nat} {x : D} : x ∈ casesL S m ↔ ∃ (a b : Nat) (p q : Tv), x = caseD a b p q ∧ a ≤ m ∧ b ≤ m ∧ p ∈ truths S ∧ q ∈ truths S := by
  unfold casesL inner blk
  simp only [List.mem_flatMap, List.mem_map, List.mem_range]
  constructor
  · rintro ⟨w, hw, k, hk, p, hp, q, hq, rfl⟩
    refine ⟨w - m + k, w - (w - m + k), p, q, ?_, by omega, by omega, hp, hq⟩
    unfold caseD
    congr 3
    · congr 2
      omega
  · rintro ⟨a, b, p, q, rfl, ha, hb, hp, hq⟩
    refine ⟨a + b, by omega, a - (a + b - m), by omega, p, hp, q, hq, ?_⟩
    unfold caseD
    have e : (((a + b - m : Nat) : Int) + ((a - (a + b - m) : Nat) : Int)) = (a : Int) := by omega
    rw [e]
    congr 3
    · congr 2
      omega
def testI (S : Sm) (t u : Tr) : D → Bool
  | .tup [.int a, .int b, p, q] => match p, q with
    | .non, .non => !decide (cntT S a b none none t = cntT S a b none none u)
    | .bl x, .non => !decide (cntT S a b (some x) none t = cntT S a b (some x) none u)
    | .non, .bl y => !decide (cntT S a b none (some y) t = cntT S a b none (some y) u)
    | .bl x, .bl y => !decide (cntT S a b (some x) (some y) t = cntT S a b (some x) (some y) u)
    | _, _ => false
  | _ => false
theorem testI_case (S : Sm) (t u : Tr) (a b : Int) (p q : Tv) : testI S t u (caseD a b p q) = !decide (cntT S a b p q t = cntT S a b p q u) := by
  rcases p with _ | p <;> rcases q with _ | q <;> rfl
def optD : Option D → D
  | some x => x
  | none => .non
def most (S : Sm) (t u : Tr) : Nat := if S.set then 1 else 3 * max t.leaves u.leaves
def found (S : Sm) (t u : Tr) : Option D := (casesL S (most S t u)).find? (testI S t u)
theorem mx_max (a b : Nat) : mx (a : Int) (b : Int) = ((max a b : Nat) : Int) := by
  unfold mx
  split <;> omega
theorem most_le {S : Sm} {t u : Tr} (ht : t.ok) (hu : u.ok) : most S t u ≤ 18 := by
  have := ht.1
  have := hu.1
  unfold most
  split <;> omega
/-- no case found: one count everywhere -/
theorem found_none {S : Sm} {t u : Tr} (h : found S t u = none) (a b : Int) (p q : Tv) (ha : 0 ≤ a ∧ (S.set = true → a ≤ 1)) (hb : 0 ≤ b ∧ (S.set = true → b ≤ 1)) (hp : p ∈ truths S) (hq : q ∈ truths S) : cntT S a b p q t = cntT S a b p q u := by
  have key : ∀ a b : Int, 0 ≤ a → 0 ≤ b → a ≤ (most S t u : Nat) → b ≤ (most S t u : Nat) → cntT S a b p q t = cntT S a b p q u := by
    intro a b ha hb ha2 hb2
    have h1 := List.find?_eq_none.mp h (caseD a b p q) (case_mem.mpr ⟨a.toNat, b.toNat, p, q, by rw [Int.toNat_of_nonneg ha, Int.toNat_of_nonneg hb], by omega, by omega, hp, hq⟩)
    rw [testI_case] at h1
    simpa using h1
  cases hS : S.set with
  | true =>
    have e : most S t u = 1 := by unfold most; rw [hS]; rfl
    rw [e] at key
    exact key a b ha.1 hb.1 (ha.2 hS) (hb.2 hS)
  | false =>
    have e : most S t u = 3 * max t.leaves u.leaves := by unfold most; rw [hS]; rfl
    rw [e] at key
    exact small S hS p q t u (max t.leaves u.leaves : Nat) (by omega) (by omega) (fun a b h1 h2 h3 h4 => key a b h1 h2 (by omega) (by omega)) a b ha.1 hb.1
theorem found_some {S : Sm} {t u : Tr} {x : D} (h : found S t u = some x) : ∃ (a b : Nat) (p q : Tv), x = caseD a b p q ∧ a ≤ most S t u ∧ b ≤ most S t u ∧ p ∈ truths S ∧ q ∈ truths S ∧ cntT S a b p q t ≠ cntT S a b p q u := by
  obtain ⟨a, b, p, q, rfl, h1, h2, h3, h4⟩ := case_mem.mp (List.mem_of_find?_eq_some h)
  have h5 := List.find?_some h
  rw [testI_case] at h5
  exact ⟨a, b, p, q, rfl, h1, h2, h3, h4, by simpa using h5⟩
/-- two tables of one count are one -/
theorem tab_eq (S : Sm) {a b : List Row} (p q : Fl) (ha : S.tOk a) (hb : S.tOk b) (t u : Tr) (h : ∀ r, cI (t.tab_ S a b p q) r = cI (u.tab_ S a b p q) r) : t.tab_ S a b p q = u.tab_ S a b p q := by
  have ord : ∀ v : Tr, (v.tab_ S a b p q).Pairwise fun x y => rle x y = true := by
    intro v
    induction v with
    | tab x => cases x <;> simp only [Tr.tab_] <;> first | exact ha.ord | exact hb.ord
    | flt c v ih => exact ih.filter _
    | uni x y _ _ => exact sortR_sorted _
    | inn x y _ _ => exact sortR_sorted _
    | dif x y _ _ => exact sortR_sorted _
  have h1 := (tab_ok S p q ha.tN hb.tN t).row
  have h2 := (tab_ok S p q ha.tN hb.tN u).row
  refine List.Perm.eq_of_pairwise (le := fun x y => rle x y = true) (fun x y hx hy g1 g2 => rle_anti (h1 x hx).okR (h2 y hy).okR g1 g2) (ord t) (ord u) ?_
  rw [List.perm_iff_count]
  intro r
  have := h r
  unfold cI at this
  omega
/-- counts of sets -/
theorem cnt_set (S : Sm) (hS : S.set = true) {a b : Int} (ha : 0 ≤ a ∧ a ≤ 1) (hb : 0 ≤ b ∧ b ≤ 1) (p q : Tv) : ∀ t : Tr, cntT S a b p q t ≤ 1
  | .tab t => by cases t <;> simp only [cntT] <;> simp <;> omega
  | .flt c t => by
    have := cnt_set S hS ha hb p q t
    simp only [cntT]
    split <;> omega
  | .uni x y => by
    simp only [cntT, capI, hS, mn, if_true]
    split <;> omega
  | .inn x y => by
    simp only [cntT, capI, hS, if_true]
    unfold mn
    repeat' split
    all_goals omega
  | .dif x y => by
    have := cnt_set S hS ha hb p q x
    simp only [cntT, lessI, hS, Bool.or_true, if_true]
    split <;> omega
end Qh

/-! The identities that hold. -/
namespace Qh
open PySem PySem.Spec PyProof.Rows L2 PySem.W
abbrev U (S : Sm) (x y : List Row) : List Row := comb S "union" x y
abbrev I_ (S : Sm) (x y : List Row) : List Row := comb S "intersection" x y
abbrev D_ (S : Sm) (x y : List Row) : List Row := comb S "difference" x y
def sel (S : Sm) (p : Fl) (x : List Row) : List Row := x.filter fun r => decide (p.val S (c0 r) (c1 r) = some true)
def kep (S : Sm) (k : Str) (x y : List Row) : List Row := x.filter fun r => goodK S k y r
def onc (x : List Row) : List Row := sortR (dd x)
abbrev Srt (x : List Row) : Prop := x.Pairwise fun a b => rle a b = true
theorem ext_cnt {x y : List Row} (hx : Srt x) (hy : Srt y) (ox : ∀ r ∈ x, okR r) (oy : ∀ r ∈ y, okR r) (h : ∀ r, cI x r = cI y r) : x = y := by
  refine List.Perm.eq_of_pairwise (le := fun a b => rle a b = true) (fun a b ha hb g1 g2 => rle_anti (ox a ha) (oy b hb) g1 g2) hx hy ?_
  rw [List.perm_iff_count]
  intro r
  have := h r
  unfold cI at this
  omega
theorem U_cnt (S : Sm) (x y : List Row) (r : Row) : cI (U S x y) r = capI S (uniI S (cI x r) (cI y r)) := by
  rw [show cI (U S x y) r = _ from comb_count S _ x y r]
  unfold opK
  rw [if_pos rfl]
theorem I_cnt (S : Sm) (x y : List Row) (r : Row) : cI (I_ S x y) r = capI S (mn (cI x r) (cI y r)) := by
  rw [show cI (I_ S x y) r = _ from comb_count S _ x y r]
  unfold opK
  rw [if_neg (by simp), if_neg (by simp)]
theorem D_cnt (S : Sm) (x y : List Row) (r : Row) : cI (D_ S x y) r = capI S (lessI S (cI x r) (cI y r)) := by
  rw [show cI (D_ S x y) r = _ from comb_count S _ x y r]
  unfold opK
  rw [if_neg (by simp), if_pos rfl]
theorem filt_cnt (f : Row → Bool) (x : List Row) (r : Row) : cI (x.filter f) r = if f r = true then cI x r else 0 := by
  unfold cI
  by_cases h : f r = true
  · rw [if_pos h, List.count_filter h]
  · rw [if_neg h, List.count_eq_zero.mpr fun hr => h (List.mem_filter.mp hr).2]
    rfl
theorem sel_cnt (S : Sm) (p : Fl) (x : List Row) (r : Row) : cI (sel S p x) r = if p.val S (c0 r) (c1 r) = some true then cI x r else 0 := by
  unfold sel
  rw [filt_cnt]
  simp only [decide_eq_true_eq]
theorem onc_cnt (x : List Row) (r : Row) : cI (onc x) r = if 0 < cI x r then 1 else 0 := by
  unfold onc sortR cI
  rw [List.Perm.count_eq (isort_perm _)]
  have h := List.nodup_iff_count.mp (dd_nd x) r
  by_cases hr : r ∈ x
  · have h1 := List.count_pos_iff.mpr (dd_mem.mpr hr)
    have h2 := List.count_pos_iff.mpr hr
    rw [if_pos (by omega)]
    omega
  · have h1 := List.count_eq_zero.mpr fun h => hr (dd_mem.mp h)
    have h2 := List.count_eq_zero.mpr hr
    rw [h1, h2]
    rfl
theorem comb_srt (S : Sm) (k : Str) (x y : List Row) : Srt (comb S k x y) := sortR_sorted _
/-- rows well made, and each once in a set -/
structure Tb (S : Sm) (x : List Row) : Prop where
  srt : Srt x
  ok : ∀ r ∈ x, okR r
  set : S.set = true → ∀ r, cI x r ≤ 1
theorem Sm.tOk.Tb {S : Sm} {t : List Row} (h : S.tOk t) : Tb S t := ⟨h.ord, fun r hr => (h.row r hr).okR, fun hs r => nd_le (h.set hs) r⟩
theorem Tb.comb {S : Sm} (k : Str) {x y : List Row} (hx : Tb S x) (hy : Tb S y) : Tb S (comb S k x y) := ⟨comb_srt S k x y, fun r hr => (comb_row hr).elim (hx.ok r) (hy.ok r), fun hs r => nd_le (comb_nd k x y hs) r⟩
theorem Tb.filter {S : Sm} {x : List Row} (hx : Tb S x) (f : Row → Bool) : Tb S (x.filter f) := ⟨hx.srt.filter _, fun r hr => hx.ok r (List.mem_filter.mp hr).1, fun hs r => by
  have := hx.set hs r
  have := count_nn x r
  rw [filt_cnt]
  split <;> omega⟩
theorem Tb.sel {S : Sm} {x : List Row} (hx : Tb S x) (p : Fl) : Tb S (sel S p x) := hx.filter _
theorem Tb.kep {S : Sm} {x : List Row} (hx : Tb S x) (k : Str) (y : List Row) : Tb S (kep S k x y) := hx.filter _
theorem Tb.onc {S : Sm} {x : List Row} (hx : Tb S x) : Tb S (onc x) := ⟨sortR_sorted _, fun r hr => hx.ok r (dd_mem.mp (sortR_mem.mp hr)), fun hs r => by
  rw [onc_cnt]
  split <;> omega⟩
theorem Tb.eq {S : Sm} {x y : List Row} (hx : Tb S x) (hy : Tb S y) (h : ∀ r, cI x r = cI y r) : x = y := ext_cnt hx.srt hy.srt hx.ok hy.ok h
section
variable {S : Sm} {a b c : List Row}
/-- the counts' bounds at a row -/
theorem Tb.bd {x : List Row} (h : Tb S x) (r : Row) : 0 ≤ cI x r ∧ (S.set = true → cI x r ≤ 1) := ⟨count_nn x r, fun hs => h.set hs r⟩
theorem id_idem (ha : Tb S a) (h : S.set = true ∨ S.sum = false) : U S a a = a := (ha.comb "union" ha).eq ha fun r => by
  have h1 := ha.bd r
  rw [U_cnt]
  unfold capI uniI mx mn
  rcases h with h | h <;> cases hs : S.set <;> cases hm : S.sum <;> simp_all <;> omega
theorem id_absU (ha : Tb S a) (hb : Tb S b) (h : S.set = true ∨ S.sum = false) : U S a (I_ S a b) = a := (ha.comb "union" (ha.comb "intersection" hb)).eq ha fun r => by
  have h1 := ha.bd r
  have h2 := hb.bd r
  rw [U_cnt, I_cnt]
  generalize cI a r = A at *
  generalize cI b r = B at *
  unfold capI uniI mx mn
  cases hs : S.set <;> cases hm : S.sum <;> simp_all <;> repeat' split
  all_goals omega
theorem id_absI (ha : Tb S a) (hb : Tb S b) : I_ S a (U S a b) = a := (ha.comb "intersection" (ha.comb "union" hb)).eq ha fun r => by
  have h1 := ha.bd r
  have h2 := hb.bd r
  rw [I_cnt, U_cnt]
  generalize cI a r = A at *
  generalize cI b r = B at *
  unfold capI uniI mx mn
  cases hs : S.set <;> cases hm : S.sum <;> simp_all <;> repeat' split
  all_goals omega
theorem id_intD (ha : Tb S a) (hb : Tb S b) (h : S.set = true ∨ S.kind = false) : I_ S a b = D_ S a (D_ S a b) := (ha.comb "intersection" hb).eq (ha.comb "difference" (ha.comb "difference" hb)) fun r => by
  have h1 := ha.bd r
  have h2 := hb.bd r
  rw [I_cnt, D_cnt, D_cnt]
  generalize cI a r = A at *
  generalize cI b r = B at *
  unfold capI lessI mx mn
  cases hs : S.set <;> cases hm : S.kind <;> simp_all <;> repeat' split
  all_goals omega
theorem id_difU (ha : Tb S a) (hb : Tb S b) (hc : Tb S c) (h : S.set = true ∨ S.kind = true ∨ S.sum = true) : D_ S a (U S b c) = D_ S (D_ S a b) c := (ha.comb "difference" (hb.comb "union" hc)).eq ((ha.comb "difference" hb).comb "difference" hc) fun r => by
  have h1 := ha.bd r
  have h2 := hb.bd r
  have h3 := hc.bd r
  rw [D_cnt, D_cnt, D_cnt, U_cnt]
  generalize cI a r = A at *
  generalize cI b r = B at *
  generalize cI c r = C at *
  unfold capI lessI uniI mx mn
  cases hs : S.set <;> cases hk : S.kind <;> cases hm : S.sum <;> simp_all <;> repeat' split
  all_goals omega
theorem id_less (ha : Tb S a) (hb : Tb S b) (h : S.set = true ∨ S.kind = true ∨ S.sum = false) : D_ S (U S a b) b = D_ S a b := ((ha.comb "union" hb).comb "difference" hb).eq (ha.comb "difference" hb) fun r => by
  have h1 := ha.bd r
  have h2 := hb.bd r
  rw [D_cnt, D_cnt, U_cnt]
  generalize cI a r = A at *
  generalize cI b r = B at *
  unfold capI lessI uniI mx mn
  cases hs : S.set <;> cases hk : S.kind <;> cases hm : S.sum <;> simp_all <;> repeat' split
  all_goals omega
theorem id_take (ha : Tb S a) (hb : Tb S b) (h : S.set = false ∧ S.sum = true ∧ S.kind = false) : D_ S (U S a b) b = a := ((ha.comb "union" hb).comb "difference" hb).eq ha fun r => by
  have h1 := ha.bd r
  have h2 := hb.bd r
  rw [D_cnt, U_cnt]
  generalize cI a r = A at *
  generalize cI b r = B at *
  unfold capI lessI uniI mx mn
  simp_all
  first | omega | (split <;> omega)
theorem id_intU (ha : Tb S a) (hb : Tb S b) (hc : Tb S c) (h : S.set = true ∨ S.sum = false) : I_ S a (U S b c) = U S (I_ S a b) (I_ S a c) := (ha.comb "intersection" (hb.comb "union" hc)).eq ((ha.comb "intersection" hb).comb "union" (ha.comb "intersection" hc)) fun r => by
  have h1 := ha.bd r
  have h2 := hb.bd r
  have h3 := hc.bd r
  rw [I_cnt, U_cnt, U_cnt, I_cnt, I_cnt]
  generalize cI a r = A at *
  generalize cI b r = B at *
  generalize cI c r = C at *
  unfold capI uniI mx mn
  cases hs : S.set <;> cases hm : S.sum <;> simp_all <;> repeat' split
  all_goals omega
theorem id_Uint (ha : Tb S a) (hb : Tb S b) (hc : Tb S c) : U S a (I_ S b c) = I_ S (U S a b) (U S a c) := (ha.comb "union" (hb.comb "intersection" hc)).eq ((ha.comb "union" hb).comb "intersection" (ha.comb "union" hc)) fun r => by
  have h1 := ha.bd r
  have h2 := hb.bd r
  have h3 := hc.bd r
  rw [U_cnt, I_cnt, I_cnt, U_cnt, U_cnt]
  generalize cI a r = A at *
  generalize cI b r = B at *
  generalize cI c r = C at *
  unfold capI uniI mx mn
  cases hs : S.set <;> cases hm : S.sum <;> simp_all <;> repeat' split
  all_goals omega
theorem id_filtOr (ha : Tb S a) (p q : Fl) (h : S.set = true ∨ S.sum = false) : sel S (.or p q) a = U S (sel S p a) (sel S q a) := (ha.sel _).eq ((ha.sel p).comb "union" (ha.sel q)) fun r => by
  have h1 := ha.bd r
  rw [U_cnt, sel_cnt, sel_cnt, sel_cnt]
  simp only [Fl.val]
  generalize cI a r = A at *
  unfold capI uniI mx mn
  obtain ⟨P, hP⟩ : ∃ P, p.val S (c0 r) (c1 r) = P := ⟨_, rfl⟩
  obtain ⟨Q, hQ⟩ : ∃ Q, q.val S (c0 r) (c1 r) = Q := ⟨_, rfl⟩
  simp only [hP, hQ]
  rcases P with _ | (_ | _) <;> rcases Q with _ | (_ | _) <;> cases hs : S.set <;> cases hm : S.sum <;> simp_all [or3, and3, not3] <;> first | omega | (split <;> omega)
theorem id_filtAnd (ha : Tb S a) (p q : Fl) : sel S (.and p q) a = I_ S (sel S p a) (sel S q a) := (ha.sel _).eq ((ha.sel p).comb "intersection" (ha.sel q)) fun r => by
  have h1 := ha.bd r
  rw [I_cnt, sel_cnt, sel_cnt, sel_cnt]
  simp only [Fl.val]
  generalize cI a r = A at *
  unfold capI mn
  obtain ⟨P, hP⟩ : ∃ P, p.val S (c0 r) (c1 r) = P := ⟨_, rfl⟩
  obtain ⟨Q, hQ⟩ : ∃ Q, q.val S (c0 r) (c1 r) = Q := ⟨_, rfl⟩
  simp only [hP, hQ]
  rcases P with _ | (_ | _) <;> rcases Q with _ | (_ | _) <;> cases hs : S.set <;> simp_all [and3] <;> first | omega | (split <;> omega)
theorem id_filtNot (ha : Tb S a) (p : Fl) (h : S.unk ≠ 1) : sel S (.not p) a = D_ S a (sel S p a) := (ha.sel _).eq (ha.comb "difference" (ha.sel p)) fun r => by
  have h1 := ha.bd r
  have h2 := p.val_none S (c0 r) (c1 r)
  rw [D_cnt, sel_cnt, sel_cnt]
  simp only [Fl.val]
  generalize cI a r = A at *
  unfold capI lessI mx mn
  obtain ⟨P, hP⟩ : ∃ P, p.val S (c0 r) (c1 r) = P := ⟨_, rfl⟩
  simp only [hP] at h2 ⊢
  rcases P with _ | (_ | _)
  · exact absurd (h2 rfl) h
  all_goals (cases hs : S.set <;> cases hk : S.kind <;> simp_all [not3] <;> repeat' split)
  all_goals omega
theorem id_complete (ha : Tb S a) (p : Fl) (h : S.unk ≠ 1) : sel S (.or p (.not p)) a = a := (ha.sel _).eq ha fun r => by
  have h2 := p.val_none S (c0 r) (c1 r)
  rw [sel_cnt]
  simp only [Fl.val]
  obtain ⟨P, hP⟩ : ∃ P, p.val S (c0 r) (c1 r) = P := ⟨_, rfl⟩
  simp only [hP] at h2 ⊢
  rcases P with _ | (_ | _)
  · exact absurd (h2 rfl) h
  all_goals simp_all [or3, and3, not3]
theorem id_semi (ha : Tb S a) : U S (kep S "semijoin" a b) (kep S "antijoin" a b) = a := ((ha.kep _ b).comb "union" (ha.kep _ b)).eq ha fun r => by
  have h1 := ha.bd r
  obtain ⟨g1, g2, _⟩ := keys_good S b r (b.map fun s => mtc S (c0 r) (c0 s)) rfl
  rw [U_cnt]
  unfold kep
  rw [filt_cnt, filt_cnt, g1, g2]
  generalize decide (some true ∈ b.map fun s => mtc S (c0 r) (c0 s)) = B
  generalize cI a r = A at *
  unfold capI uniI mx mn
  cases B <;> cases hs : S.set <;> cases hm : S.sum <;> simp_all <;> first | omega | (split <;> omega)
theorem mtc_known (h : S.unk ≠ 1) (x y : Vl) : mtc S x y ≠ none := by
  unfold mtc
  rw [if_neg h]
  split <;> simp
theorem id_notin (h : S.unk ≠ 1) : kep S "not_in" a b = kep S "antijoin" a b := by
  unfold kep
  congr 1
  funext r
  obtain ⟨_, g2, g3⟩ := keys_good S b r _ rfl
  rw [g2, g3]
  have : decide (none ∈ b.map fun s => mtc S (c0 r) (c0 s)) = false := by
    rw [decide_eq_false_iff_not, List.mem_map]
    rintro ⟨s, _, e⟩
    exact mtc_known h _ _ e
  rw [this]
  simp
theorem id_self (h : S.unk ≠ 1) : kep S "semijoin" a a = a := by
  unfold kep
  rw [List.filter_eq_self]
  intro r hr
  obtain ⟨g1, _, _⟩ := keys_good S a r _ rfl
  rw [g1, decide_eq_true_eq, List.mem_map]
  refine ⟨r, hr, ?_⟩
  unfold mtc
  rw [if_neg h]
  split
  · rename_i h2
    rcases h2 with h2 | h2 <;> simp [h2]
  · simp
theorem id_dU (ha : Tb S a) (hb : Tb S b) (h : S.set = true ∨ S.sum = false) : onc (U S a b) = U S (onc a) (onc b) := (ha.comb "union" hb).onc.eq (ha.onc.comb "union" hb.onc) fun r => by
  have h1 := ha.bd r
  have h2 := hb.bd r
  rw [onc_cnt, U_cnt, U_cnt, onc_cnt, onc_cnt]
  generalize cI a r = A at *
  generalize cI b r = B at *
  unfold capI uniI mx mn
  cases hs : S.set <;> cases hm : S.sum <;> simp_all <;> repeat' split
  all_goals omega
theorem id_dD (ha : Tb S a) (hb : Tb S b) (h : S.set = true ∨ S.kind = true) : onc (D_ S a b) = D_ S (onc a) (onc b) := (ha.comb "difference" hb).onc.eq (ha.onc.comb "difference" hb.onc) fun r => by
  have h1 := ha.bd r
  have h2 := hb.bd r
  rw [onc_cnt, D_cnt, D_cnt, onc_cnt, onc_cnt]
  generalize cI a r = A at *
  generalize cI b r = B at *
  unfold capI lessI mx mn
  cases hs : S.set <;> cases hm : S.kind <;> simp_all <;> repeat' split
  all_goals omega
end
end Qh

/-! More identities. -/
namespace Qh
open PySem PySem.Spec PyProof.Rows L2 PySem.W
section
variable {S : Sm} {a b c : List Row}
theorem cI_cons (y : Row) (x : List Row) (r : Row) : cI (y :: x) r = cI x r + if y = r then 1 else 0 := by
  unfold cI
  rw [List.count_cons]
  by_cases h : y = r
  · simp [h]
  · simp [h]
theorem sum_add (f g : Row → Int) : ∀ L : List Row, (L.map fun r => f r + g r).sum = (L.map f).sum + (L.map g).sum
  | [] => rfl
  | r :: L => by
    simp only [List.map_cons, List.sum_cons, sum_add f g L]
    omega
theorem sum_one (y : Row) : ∀ L : List Row, L.Nodup → (L.map fun r => if y = r then (1 : Int) else 0).sum = if y ∈ L then 1 else 0
  | [], _ => rfl
  | r :: L, h => by
    obtain ⟨h1, h2⟩ := List.nodup_cons.mp h
    simp only [List.map_cons, List.sum_cons, sum_one y L h2]
    by_cases e : y = r
    · subst e
      simp [h1]
    · simp [e]
theorem len_sum (L : List Row) (hL : L.Nodup) : ∀ x : List Row, (∀ r ∈ x, r ∈ L) → (x.length : Int) = (L.map (cI x)).sum
  | [], _ => by
    have : L.map (cI []) = L.map fun _ => (0 : Int) := by
      apply List.map_congr_left
      intro r _
      rfl
    rw [this]
    have h0 : ∀ L : List Row, (L.map fun _ => (0 : Int)).sum = 0 := by
      intro L
      induction L with
      | nil => rfl
      | cons r L ih => simp only [List.map_cons, List.sum_cons, ih]; rfl
    rw [h0]
    rfl
  | y :: x, h => by
    have ih := len_sum L hL x fun r hr => h r (List.mem_cons_of_mem _ hr)
    have e : L.map (cI (y :: x)) = L.map fun r => cI x r + if y = r then 1 else 0 := List.map_congr_left fun r _ => cI_cons y x r
    rw [e, sum_add, sum_one y L hL, if_pos (h y List.mem_cons_self), List.length_cons]
    have e2 : (L.map fun r => cI x r) = L.map (cI x) := rfl
    rw [e2, ← ih]
    omega
theorem id_count (h : S.set = false ∧ S.sum = true) : ((U S a b).length : Int) = a.length + b.length := by
  have hp : (U S a b).Perm (a ++ b) := by
    rw [List.perm_iff_count]
    intro r
    have h1 := U_cnt S a b r
    unfold capI uniI at h1
    rw [h.1, h.2] at h1
    simp only [Bool.false_eq_true, if_false, if_true] at h1
    rw [List.count_append]
    unfold cI at h1
    omega
  rw [hp.length_eq, List.length_append]
  omega
theorem id_incl (ha : Tb S a) (hb : Tb S b) (h : S.set = true ∨ S.sum = false) : ((U S a b).length : Int) + (I_ S a b).length = a.length + b.length := by
  have hL := dd_nd (a ++ b)
  rw [len_sum _ hL (U S a b) fun r hr => dd_mem.mpr (List.mem_append.mpr (comb_row hr)), len_sum _ hL (I_ S a b) fun r hr => dd_mem.mpr (List.mem_append.mpr (comb_row hr)),
    len_sum _ hL a fun r hr => dd_mem.mpr (List.mem_append_left _ hr), len_sum _ hL b fun r hr => dd_mem.mpr (List.mem_append_right _ hr), ← sum_add, ← sum_add]
  congr 1
  apply List.map_congr_left
  intro r _
  have h1 := ha.bd r
  have h2 := hb.bd r
  rw [U_cnt, I_cnt]
  generalize cI a r = A at *
  generalize cI b r = B at *
  unfold capI uniI mx mn
  cases hs : S.set <;> cases hm : S.sum <;> simp_all <;> repeat' split
  all_goals omega
/-! totals -/
theorem sum_perm {l m : List Int} (h : l.Perm m) : l.sum = m.sum := by
  induction h with
  | nil => rfl
  | cons x _ ih => simp only [List.sum_cons, ih]
  | swap x y l => simp only [List.sum_cons]; omega
  | trans _ _ ih1 ih2 => rw [ih1, ih2]
theorem vals_sum_perm {x y : List Row} (h : x.Perm y) : (vals x).sum = (vals y).sum := sum_perm (h.filterMap c1)
theorem vals_app (x y : List Row) : vals (x ++ y) = vals x ++ vals y := List.filterMap_append
theorem U_perm (h : S.set = false ∧ S.sum = true) : (U S a b).Perm (a ++ b) := by
  rw [List.perm_iff_count]
  intro r
  have h1 := U_cnt S a b r
  unfold capI uniI at h1
  rw [h.1, h.2] at h1
  simp only [Bool.false_eq_true, if_false, if_true] at h1
  rw [List.count_append]
  unfold cI at h1
  omega
theorem totZ (hz : S.zero = true) (x : List Row) : totD S x = .int (vals x).sum := by
  unfold totD
  rw [hz]
  simp
theorem id_totU (h : S.set = false ∧ S.sum = true) : (vals (U S a b)).sum = (vals a).sum + (vals b).sum := by
  rw [vals_sum_perm (U_perm h), vals_app, List.sum_append]
theorem sel_parts (p : Fl) (h : S.unk ≠ 1) (x : List Row) : (vals (sel S p x)).sum + (vals (sel S (.not p) x)).sum = (vals x).sum := by
  have hp : (sel S p x ++ sel S (.not p) x).Perm x := by
    rw [List.perm_iff_count]
    intro r
    rw [List.count_append]
    have h1 := sel_cnt S p x r
    have h2 := sel_cnt S (.not p) x r
    have h3 := p.val_none S (c0 r) (c1 r)
    simp only [Fl.val] at h2
    unfold cI at h1 h2
    obtain ⟨P, hP⟩ : ∃ P, p.val S (c0 r) (c1 r) = P := ⟨_, rfl⟩
    simp only [hP] at h1 h2 h3
    rcases P with _ | (_ | _)
    · exact absurd (h3 rfl) h
    · simp [not3] at h1 h2
      omega
    · simp [not3] at h1 h2
      omega
  rw [← List.sum_append, ← vals_app, vals_sum_perm hp]
/-! projections -/
theorem mem_cI {x : List Row} {r : Row} : r ∈ x ↔ 0 < cI x r := by
  unfold cI
  have := List.count_pos_iff (a := r) (l := x)
  constructor
  · intro h
    have := this.mpr h
    omega
  · intro h
    exact this.mp (by omega)
theorem U_mem {r : Row} : r ∈ U S a b ↔ r ∈ a ∨ r ∈ b := by
  rw [mem_cI, mem_cI, mem_cI, U_cnt]
  have h1 := count_nn a r
  have h2 := count_nn b r
  unfold capI uniI mx mn
  repeat' split
  all_goals omega
theorem proj_cnt (ha : ∀ r ∈ a, okV (c0 r)) (r : Row) : cI (sortR (rep (fun r => capI S (cI (cut1 a) r)) (dd (cut1 a)))) r = capI S (cI (cut1 a) r) := by
  have h := count_spread (dd (cut1 a)) (fun r => (capI S (cI (cut1 a) r)).toNat) r (dd_nd _)
  unfold sortR cI
  rw [List.Perm.count_eq (isort_perm _)]
  unfold rep
  have h2 := count_nn (cut1 a) r
  unfold cI at h h2
  rw [h]
  have hn : 0 ≤ capI S ((cut1 a).count r : Int) := by
    unfold capI mn
    repeat' split
    all_goals omega
  split
  · omega
  · rename_i hr
    rw [List.count_eq_zero.mpr fun h => hr (dd_mem.mpr h)]
    unfold capI mn
    repeat' split
    all_goals simp
    all_goals omega
def prj (S : Sm) (x : List Row) : List Row := sortR (rep (fun r => capI S (cI (cut1 x) r)) (dd (cut1 x)))
theorem cut1_ok {x : List Row} (h : ∀ r ∈ x, okV (c0 r)) : ∀ r ∈ cut1 x, okR r := fun r hr => by
  obtain ⟨s, hs, rfl⟩ := List.mem_map.mp hr
  intro v hv
  simp only [List.mem_singleton] at hv
  subst hv
  exact h s hs
theorem Tb.prj {x : List Row} (h : ∀ r ∈ x, okV (c0 r)) : Tb S (prj S x) := ⟨sortR_sorted _, fun r hr => cut1_ok h r (dd_mem.mp (rep_mem (sortR_mem.mp hr))), fun hs r => by
  show cI (Qh.prj S x) r ≤ 1
  unfold Qh.prj
  rw [proj_cnt h]
  unfold capI mn
  rw [hs]
  simp only [if_true]
  split <;> omega⟩
theorem cut1_mem {x : List Row} {r : Row} : r ∈ cut1 x ↔ ∃ s ∈ x, [c0 s] = r := by
  unfold cut1
  exact List.mem_map
theorem id_projU (ka : ∀ r ∈ a, okV (c0 r)) (kb : ∀ r ∈ b, okV (c0 r)) (h : S.set = true ∨ S.sum = true) : prj S (U S a b) = U S (prj S a) (prj S b) := by
  have ku : ∀ r ∈ U S a b, okV (c0 r) := fun r hr => (U_mem.mp hr).elim (ka r) (kb r)
  refine (Tb.prj ku).eq ((Tb.prj ka).comb "union" (Tb.prj kb)) fun r => ?_
  rw [U_cnt]
  unfold prj
  rw [proj_cnt ku, proj_cnt ka, proj_cnt kb]
  cases hs : S.set with
  | false =>
    have hm : S.sum = true := by
      rcases h with h | h
      · rw [hs] at h; cases h
      · exact h
    have e : cI (cut1 (U S a b)) r = cI (cut1 a) r + cI (cut1 b) r := by
      have hp := (U_perm (S := S) (a := a) (b := b) ⟨hs, hm⟩).map fun r : Row => [c0 r]
      have h2 := hp.count_eq r
      rw [List.map_append, List.count_append] at h2
      unfold cI cut1
      omega
    rw [e]
    unfold capI uniI
    rw [hs, hm]
    simp
  | true =>
    have e : 0 < cI (cut1 (U S a b)) r ↔ 0 < cI (cut1 a) r ∨ 0 < cI (cut1 b) r := by
      rw [← mem_cI, ← mem_cI, ← mem_cI, cut1_mem, cut1_mem, cut1_mem]
      constructor
      · rintro ⟨s, hs, e⟩
        rcases U_mem.mp hs with hs | hs
        · exact .inl ⟨s, hs, e⟩
        · exact .inr ⟨s, hs, e⟩
      · rintro (⟨s, hs, e⟩ | ⟨s, hs, e⟩)
        · exact ⟨s, U_mem.mpr (.inl hs), e⟩
        · exact ⟨s, U_mem.mpr (.inr hs), e⟩
    have n1 := count_nn (cut1 (U S a b)) r
    have n2 := count_nn (cut1 a) r
    have n3 := count_nn (cut1 b) r
    generalize cI (cut1 (U S a b)) r = X at *
    generalize cI (cut1 a) r = A at *
    generalize cI (cut1 b) r = B at *
    unfold capI uniI mx mn
    rw [hs]
    simp only [if_true]
    repeat' split
    all_goals omega
/-! joins -/
theorem mtc_true (x y : Vl) : mtc S x y = some true ↔ x = y ∧ (x ≠ none ∨ S.unk ≠ 1) := by
  unfold mtc
  rcases x with _ | i <;> rcases y with _ | j <;> by_cases hu : S.unk = 1 <;> simp [hu]
/-- how often a row of a join comes -/
theorem join_one (p q z : Vl) (r : Row) (hr : r.length = 2) : ∀ y : List Row, (∀ s ∈ y, s.length = 2) → cI ((y.filter fun s => decide (mtc S (c0 r) (c0 s) = some true)).map fun s => r ++ [c1 s]) [p, q, z] = if r = [p, q] ∧ (p ≠ none ∨ S.unk ≠ 1) then cI y [p, z] else 0
  | [], _ => by
    unfold cI
    split <;> rfl
  | s :: y, h => by
    have ih := join_one p q z r hr y fun x hx => h x (List.mem_cons_of_mem _ hx)
    have hs := h s List.mem_cons_self
    rw [List.filter_cons, cI_cons]
    obtain ⟨r0, r1, rfl⟩ : ∃ r0 r1, r = [r0, r1] := ⟨_, _, two_eta hr⟩
    obtain ⟨s0, s1, rfl⟩ : ∃ s0 s1, s = [s0, s1] := ⟨_, _, two_eta hs⟩
    have e0 : c0 [r0, r1] = r0 := rfl
    have e1 : c0 [s0, s1] = s0 := rfl
    have e2 : c1 [s0, s1] = s1 := rfl
    rw [e0, e1]
    have hm := mtc_true (S := S) r0 s0
    by_cases hmt : mtc S r0 s0 = some true
    · rw [if_pos (by simpa using hmt), List.map_cons, cI_cons, e2]
      rw [e0] at ih
      rw [ih]
      obtain ⟨k1, k2⟩ := hm.mp hmt
      subst k1
      by_cases hc : r0 = p ∧ r1 = q
      · obtain ⟨rfl, rfl⟩ := hc
        have hT : [r0, r1] = [r0, r1] ∧ (r0 ≠ none ∨ S.unk ≠ 1) := ⟨rfl, k2⟩
        rw [if_pos hT, if_pos hT]
        congr 1
        simp
      · have n1 : ¬ ([r0, r1] = [p, q] ∧ (p ≠ none ∨ S.unk ≠ 1)) := by
          rintro ⟨h1, _⟩
          simp only [List.cons.injEq, and_true] at h1
          exact hc h1
        rw [if_neg n1, if_neg n1, if_neg]
        · rfl
        · intro h1
          simp only [List.cons_append, List.nil_append, List.cons.injEq, and_true] at h1
          exact hc ⟨h1.1, h1.2.1⟩
    · rw [if_neg (by simpa using hmt)]
      rw [e0] at ih
      rw [ih]
      by_cases hc : [r0, r1] = [p, q] ∧ (p ≠ none ∨ S.unk ≠ 1)
      · rw [if_pos hc, if_pos hc]
        have : ¬ [s0, s1] = [p, z] := by
          intro h1
          simp only [List.cons.injEq, and_true] at h1
          apply hmt
          rw [hm]
          have h2 := hc.1
          simp only [List.cons.injEq, and_true] at h2
          rw [h2.1, h1.1]
          exact ⟨rfl, hc.2⟩
        rw [if_neg this]
        simp
      · rw [if_neg hc, if_neg hc]
theorem join_cnt (p q z : Vl) (y : List Row) (hy : ∀ s ∈ y, s.length = 2) : ∀ x : List Row, (∀ s ∈ x, s.length = 2) → cI (joinL S x y) [p, q, z] = if p ≠ none ∨ S.unk ≠ 1 then cI x [p, q] * cI y [p, z] else 0
  | [], _ => by
    unfold joinL cI
    split <;> simp
  | r :: x, h => by
    have ih := join_cnt p q z y hy x fun s hs => h s (List.mem_cons_of_mem _ hs)
    have h1 := join_one (S := S) p q z r (h r List.mem_cons_self) y hy
    have e : cI (joinL S (r :: x) y) [p, q, z] = cI ((y.filter fun s => decide (mtc S (c0 r) (c0 s) = some true)).map fun s => r ++ [c1 s]) [p, q, z] + cI (joinL S x y) [p, q, z] := by
      unfold joinL cI
      rw [List.flatMap_cons, List.count_append]
      omega
    rw [e, h1, ih, cI_cons]
    by_cases hk : p ≠ none ∨ S.unk ≠ 1
    · rw [if_pos hk, if_pos hk]
      by_cases hr : r = [p, q]
      · rw [if_pos ⟨hr, hk⟩, if_pos hr]
        grind
      · rw [if_neg (fun h => hr h.1), if_neg hr]
        simp
    · rw [if_neg hk, if_neg hk, if_neg fun h => hk h.2]
      rfl
theorem join_row {x y : List Row} (hx : ∀ s ∈ x, s.length = 2) {r : Row} (h : r ∈ joinL S x y) : ∃ p q z, r = [p, q, z] := by
  unfold joinL at h
  obtain ⟨s, hs, h2⟩ := List.mem_flatMap.mp h
  obtain ⟨t, ht, rfl⟩ := List.mem_map.mp h2
  rw [two_eta (hx s hs)]
  exact ⟨_, _, _, rfl⟩
theorem joinS_cnt (p q z : Vl) {x y : List Row} (hx : ∀ s ∈ x, s.length = 2) (hy : ∀ s ∈ y, s.length = 2) : cI (sortR (joinL S x y)) [p, q, z] = if p ≠ none ∨ S.unk ≠ 1 then cI x [p, q] * cI y [p, z] else 0 := by
  rw [← join_cnt p q z y hy x hx]
  unfold sortR cI
  rw [List.Perm.count_eq (isort_perm _)]
theorem mul_01 {A B : Int} (hA : 0 ≤ A ∧ A ≤ 1) (hB : 0 ≤ B ∧ B ≤ 1) : 0 ≤ A * B ∧ A * B ≤ 1 := by
  rcases (by omega : A = 0 ∨ A = 1) with rfl | rfl
  · simp
  · rw [Int.one_mul]; exact hB
theorem join_ok {x y : List Row} (hx : ∀ s ∈ x, okR s ∧ s.length = 2) (hy : ∀ s ∈ y, okR s ∧ s.length = 2) : ∀ r ∈ sortR (joinL S x y), okR r := by
  intro r hr
  have hr := sortR_mem.mp hr
  unfold joinL at hr
  obtain ⟨s, hs, h2⟩ := List.mem_flatMap.mp hr
  obtain ⟨t, ht, rfl⟩ := List.mem_map.mp h2
  intro v hv
  rcases List.mem_append.mp hv with hv | hv
  · exact (hx s hs).1 v hv
  · have ht := hy t (List.mem_filter.mp ht).1
    rw [List.mem_singleton.mp hv]
    refine ht.1 _ ?_
    rw [two_eta ht.2]
    simp [c1]
theorem Tb.join {x y : List Row} (tx : Tb S x) (ty : Tb S y) (hx : ∀ s ∈ x, s.length = 2) (hy : ∀ s ∈ y, s.length = 2) : Tb S (sortR (joinL S x y)) := ⟨sortR_sorted _, join_ok (fun s hs => ⟨tx.ok s hs, hx s hs⟩) (fun s hs => ⟨ty.ok s hs, hy s hs⟩), fun hS r => by
  by_cases hr : r ∈ joinL S x y
  · obtain ⟨p, q, z, rfl⟩ := join_row hx hr
    rw [joinS_cnt p q z hx hy]
    split
    · have h1 := tx.bd [p, q]
      have h2 := ty.bd [p, z]
      exact (mul_01 ⟨h1.1, h1.2 hS⟩ ⟨h2.1, h2.2 hS⟩).2
    · omega
  · have : cI (sortR (joinL S x y)) r = 0 := by
      unfold cI
      rw [List.count_eq_zero.mpr fun h => hr (sortR_mem.mp h)]
      rfl
    omega⟩
theorem id_joinU (ha : Tb S a) (hb : Tb S b) (hc : Tb S c) (ka : ∀ s ∈ a, s.length = 2) (kb : ∀ s ∈ b, s.length = 2) (kc : ∀ s ∈ c, s.length = 2) : sortR (joinL S a (U S b c)) = U S (sortR (joinL S a b)) (sortR (joinL S a c)) := by
  have ku : ∀ s ∈ U S b c, s.length = 2 := fun s hs => (U_mem.mp hs).elim (kb s) (kc s)
  refine (ha.join (hb.comb "union" hc) ka ku).eq ((ha.join hb ka kb).comb "union" (ha.join hc ka kc)) fun r => ?_
  have z0 : ∀ y : List Row, ¬ (∃ p q z, r = [p, q, z]) → cI (sortR (joinL S a y)) r = 0 := fun y hn => by
    unfold cI
    rw [List.count_eq_zero.mpr fun h => hn (join_row ka (sortR_mem.mp h))]
    rfl
  rw [U_cnt]
  by_cases hr : ∃ p q z, r = [p, q, z]
  · obtain ⟨p, q, z, rfl⟩ := hr
    rw [joinS_cnt p q z ka ku, joinS_cnt p q z ka kb, joinS_cnt p q z ka kc, U_cnt]
    have h1 := ha.bd [p, q]
    have h2 := hb.bd [p, z]
    have h3 := hc.bd [p, z]
    generalize cI a [p, q] = A at *
    generalize cI b [p, z] = B at *
    generalize cI c [p, z] = C at *
    by_cases hk : p ≠ none ∨ S.unk ≠ 1
    · simp only [if_pos hk]
      unfold capI uniI mx mn
      cases hs : S.set with
      | true =>
        have hA : A = 0 ∨ A = 1 := by have := h1.2 hs; omega
        rcases hA with rfl | rfl
        · simp
        · simp only [Int.one_mul]
      | false =>
        simp only [Bool.false_eq_true, if_false]
        cases hm : S.sum with
        | true =>
          simp only [if_true]
          grind
        | false =>
          simp only [Bool.false_eq_true, if_false]
          by_cases hbc : C > B
          · rw [if_pos hbc]
            by_cases hA : A = 0
            · subst hA; simp
            · have : A * C > A * B := Int.mul_lt_mul_of_pos_left hbc (by omega)
              rw [if_pos this]
          · have : A * C ≤ A * B := Int.mul_le_mul_of_nonneg_left (by omega) h1.1
            rw [if_neg hbc, if_neg (by omega)]
    · simp only [if_neg hk]
      unfold capI uniI mx mn
      cases hs : S.set <;> cases hm : S.sum <;> simp
  · rw [z0 _ hr, z0 _ hr, z0 _ hr]
    unfold capI uniI mx mn
    cases hs : S.set <;> cases hm : S.sum <;> simp
def cut2 (x : List Row) : List Row := x.map fun r => r.take 2
def prj2 (S : Sm) (x : List Row) : List Row := sortR (rep (fun r => capI S (cI (cut2 x) r)) (dd (cut2 x)))
theorem prj2_cnt (x : List Row) (r : Row) : cI (prj2 S x) r = capI S (cI (cut2 x) r) := by
  have h := count_spread (dd (cut2 x)) (fun r => (capI S (cI (cut2 x) r)).toNat) r (dd_nd _)
  unfold prj2 sortR cI
  rw [List.Perm.count_eq (isort_perm _)]
  unfold rep
  have h2 := count_nn (cut2 x) r
  unfold cI at h h2
  rw [h]
  have hn : 0 ≤ capI S ((cut2 x).count r : Int) := by
    unfold capI mn
    repeat' split
    all_goals omega
  split
  · omega
  · rename_i hr
    rw [List.count_eq_zero.mpr fun h => hr (dd_mem.mpr h)]
    unfold capI mn
    repeat' split
    all_goals simp
    all_goals omega
theorem id_joinS (ha : Tb S a) (hS : S.set = true) (ka : ∀ s ∈ a, s.length = 2) (kb : ∀ s ∈ b, s.length = 2) : prj2 S (sortR (joinL S a b)) = kep S "semijoin" a b := by
  have hmem : ∀ r, r ∈ cut2 (sortR (joinL S a b)) ↔ r ∈ kep S "semijoin" a b := by
    intro r
    unfold cut2 kep
    obtain ⟨g1, _, _⟩ := keys_good S b r (b.map fun s => mtc S (c0 r) (c0 s)) rfl
    rw [List.mem_map, List.mem_filter, g1, decide_eq_true_eq, List.mem_map]
    constructor
    · rintro ⟨j, hj, rfl⟩
      have hj := sortR_mem.mp hj
      unfold joinL at hj
      obtain ⟨s, hs, h2⟩ := List.mem_flatMap.mp hj
      obtain ⟨t, ht, rfl⟩ := List.mem_map.mp h2
      have e : (s ++ [c1 t]).take 2 = s := by
        rw [two_eta (ka s hs)]
        rfl
      rw [e]
      obtain ⟨ht, hm⟩ := List.mem_filter.mp ht
      exact ⟨hs, t, ht, by simpa using hm⟩
    · rintro ⟨hr, t, ht, hm⟩
      refine ⟨r ++ [c1 t], sortR_mem.mpr ?_, by rw [two_eta (ka r hr)]; rfl⟩
      unfold joinL
      exact List.mem_flatMap.mpr ⟨r, hr, List.mem_map.mpr ⟨t, List.mem_filter.mpr ⟨ht, by simpa using hm⟩, rfl⟩⟩
  have hk := ha.kep "semijoin" b
  refine ext_cnt (sortR_sorted _) hk.srt (fun r hr => hk.ok r ((hmem r).mp (dd_mem.mp (rep_mem (sortR_mem.mp hr))))) hk.ok fun r => ?_
  rw [prj2_cnt]
  have h1 := hk.bd r
  have h2 := h1.2 hS
  have h3 := hmem r
  rw [mem_cI, mem_cI] at h3
  have h4 := count_nn (cut2 (sortR (joinL S a b))) r
  unfold capI mn
  rw [hS]
  simp only [if_true]
  split <;> omega
end
end Qh


namespace K08
open PySem PySem.Spec PyProof.Rows L2 Qh
def top (i : Nat) : Stmt := PySem.Challenge.pw_queryheld_k08_whole_profiles.main.body.getD i (.Pass ⟨0, 0, 0, 0⟩)
abbrev gd__law_bad : Gd := ⟨"_law_bad", (.bl false), (.isi 3)⟩
abbrev F_is_list : Nat := 0
abbrev F_words_of : Nat := 1
abbrev F_is_semantics : Nat := 2
abbrev F_need_semantics : Nat := 3
abbrev F_all_semantics : Nat := 4
abbrev F_need_identity : Nat := 5
abbrev F_holds_in : Nat := 6
abbrev F_counted_holds : Nat := 7
abbrev F_profile_of : Nat := 8
abbrev F_parted : Nat := 9
abbrev F_profile : Nat := 10
abbrev F_profiles : Nat := 11
abbrev F_implies : Nat := 12
abbrev F_parting : Nat := 13
abbrev F_semantics_with : Nat := 14
abbrev F__law_taken : Nat := 15
abbrev F__law_pick : Nat := 16
abbrev F__law_alike : Nat := 17
abbrev F__law_semantics : Nat := 18
abbrev F__law_names : Nat := 19
abbrev F__law_holds : Nat := 20
abbrev F__law_every : Nat := 21
abbrev F__law_profile : Nat := 22
abbrev F_law : Nat := 23
abbrev G_CHOICES : Nat := 0
abbrev G_NAMES : Nat := 1
abbrev G_ALWAYS : Nat := 2
abbrev G_MAXIMUM : Nat := 3
abbrev G_KNOWN : Nat := 4
def n0_0 : List Str := [("value" : Str), ("least" : Str), ("most" : Str)]
def i0 : FnI := ⟨"is_list", 3, n0_0, none, "is_list"⟩
/-- is_list(0 value, 1 least, 2 most) -/
def f_is_list : Fn := ⟨3, 3, (.cons (.ret (.and (.isi (.var 0) [.tuple]) (.chn .le .le (.var 1) (.bi .len (.cons (.var 0) .nil)) (.var 2)))) .nil)⟩
def n1_0 : List Str := [("index" : Str)]
def i1 : FnI := ⟨"words_of", 1, n1_0, none, "words_of"⟩
/-- words_of(0 index) -/
def f_words_of : Fn := ⟨1, 1, (.cons (.ret (.me .split (.ix (.me .split (.glo G_CHOICES) (.cons (.cst (.str ";")) .nil)) (.var 0)) (.cons (.cst (.str " ")) .nil))) .nil)⟩
def n2_0 : List Str := [("value" : Str), ("index" : Str)]
def i2 : FnI := ⟨"is_semantics", 1, n2_0, none, "is_semantics"⟩
/-- is_semantics(0 value, 1 index) -/
def f_is_semantics : Fn := ⟨1, 2, (.cons (.ite (.not (.call F_is_list (.val (.var 0) (.val (.cst (.int 5)) (.val (.cst (.int 5)) .nil))))) (.cons (.ret (.cst (.bl false))) .nil) .nil) (.cons (.ret (.bi .all (.cons (.lc [1] (.rng1 (.cst (.int 5))) (.nm 1) .none (.and (.isi (.ix (.var 0) (.var 1)) [.str]) (.cmp .isin (.ix (.var 0) (.var 1)) (.call F_words_of (.val (.var 1) .nil))))) .nil))) .nil))⟩
def n3_0 : List Str := [("semantics" : Str)]
def i3 : FnI := ⟨"need_semantics", 1, n3_0, none, "need_semantics"⟩
/-- need_semantics(0 semantics) -/
def f_need_semantics : Fn := ⟨1, 1, (.cons (.ite (.not (.call F_is_semantics (.val (.var 0) .nil))) (.cons (.raise 1) .nil) .nil) .nil)⟩
def n4_0 : List Str := [("found" : Str), ("index" : Str), ("one" : Str), ("word" : Str)]
def i4 : FnI := ⟨"all_semantics", 0, n4_0, none, "all_semantics"⟩
/-- all_semantics(0 found, 1 index, 2 one, 3 word) -/
def f_all_semantics : Fn := ⟨0, 4, (.cons (.asg (.nm 0) (.lst (.cons (.tup .nil) .nil))) (.cons (.for (.rng1 (.cst (.int 5))) (.nm 1) (.cons (.asg (.nm 0) (.lc2 [2, 3] [3] (.seq (.var 0)) (.nm 2) (.seq (.call F_words_of (.val (.var 1) .nil))) (.nm 3) (.bin .add (.var 2) (.tup (.cons (.var 3) .nil))))) .nil)) (.cons (.ret (.bi .tuple (.cons (.var 0) .nil))) .nil)))⟩
def n5_0 : List Str := [("identity" : Str)]
def i5 : FnI := ⟨"need_identity", 1, n5_0, none, "need_identity"⟩
/-- need_identity(0 identity) -/
def f_need_identity : Fn := ⟨1, 1, (.cons (.ite (.or (.not (.isi (.var 0) [.str])) (.cmp .notin (.var 0) (.glo G_NAMES))) (.cons (.raise 2) .nil) .nil) .nil)⟩
def n6_0 : List Str := [("semantics" : Str), ("identity" : Str), ("duplicates" : Str), ("joint" : Str), ("apart" : Str), ("nulls" : Str), ("empty" : Str), ("plain" : Str), ("summed" : Str)]
def i6 : FnI := ⟨"holds_in", 2, n6_0, none, "holds_in"⟩
/-- holds_in(0 semantics, 1 identity, 2 duplicates, 3 joint, 4 apart, 5 nulls, 6 empty, 7 plain, 8 summed) -/
def f_holds_in : Fn := ⟨2, 9, (.cons (.asg (.tp (.cons (.nm 2) (.cons (.nm 3) (.cons (.nm 4) (.cons (.nm 5) (.cons (.nm 6) .nil)))))) (.var 0)) (.cons (.par [7, 8] (.val (.cmp .eq (.var 2) (.cst (.str "set"))) (.val (.cmp .eq (.var 3) (.cst (.str "sum"))) .nil))) (.cons (.ite (.cmp .isin (.var 1) (.glo G_ALWAYS)) (.cons (.ret (.cst (.bl true))) .nil) .nil) (.cons (.ite (.cmp .isin (.var 1) (.glo G_MAXIMUM)) (.cons (.ret (.or (.var 7) (.not (.var 8)))) .nil) .nil) (.cons (.ite (.cmp .isin (.var 1) (.glo G_KNOWN)) (.cons (.ret (.cmp .ne (.var 5) (.cst (.str "unknown")))) .nil) .nil) (.cons (.ite (.cmp .eq (.var 1) (.cst (.str "total of parts"))) (.cons (.ret (.and (.cmp .eq (.var 6) (.cst (.str "zero"))) (.cmp .ne (.var 5) (.cst (.str "unknown"))))) .nil) .nil) (.cons (.ite (.cmp .eq (.var 1) (.cst (.str "total of union"))) (.cons (.ret (.and (.not (.var 7)) (.and (.var 8) (.cmp .eq (.var 6) (.cst (.str "zero")))))) .nil) .nil) (.cons (.ite (.cmp .eq (.var 1) (.cst (.str "count of union"))) (.cons (.ret (.and (.not (.var 7)) (.var 8))) .nil) .nil) (.cons (.ite (.cmp .isin (.var 1) (.tup (.cons (.cst (.str "join as semijoin")) (.cons (.cst (.str "projection of intersection")) .nil)))) (.cons (.ret (.and (.var 7) (.cmp .eq (.var 1) (.cst (.str "join as semijoin"))))) .nil) .nil) (.cons (.ite (.cmp .eq (.var 1) (.cst (.str "projection of union"))) (.cons (.ret (.or (.var 7) (.var 8))) .nil) .nil) (.cons (.ret (.call F_counted_holds (.val (.var 7) (.val (.var 8) (.val (.var 4) (.val (.var 1) .nil)))))) .nil)))))))))))⟩
def n7_0 : List Str := [("plain" : Str), ("summed" : Str), ("apart" : Str), ("identity" : Str)]
def i7 : FnI := ⟨"counted_holds", 4, n7_0, none, "counted_holds"⟩
/-- counted_holds(0 plain, 1 summed, 2 apart, 3 identity) -/
def f_counted_holds : Fn := ⟨4, 4, (.cons (.ite (.cmp .eq (.var 3) (.cst (.str "add and take"))) (.cons (.ret (.and (.not (.var 0)) (.and (.var 1) (.cmp .eq (.var 2) (.cst (.str "count")))))) .nil) .nil) (.cons (.ite (.cmp .eq (.var 3) (.cst (.str "intersection by difference"))) (.cons (.ret (.or (.var 0) (.cmp .eq (.var 2) (.cst (.str "count"))))) .nil) .nil) (.cons (.ite (.cmp .eq (.var 3) (.cst (.str "distinct difference"))) (.cons (.ret (.or (.var 0) (.cmp .eq (.var 2) (.cst (.str "kind"))))) .nil) .nil) (.cons (.ite (.cmp .eq (.var 3) (.cst (.str "difference of union"))) (.cons (.ret (.or (.var 0) (.or (.cmp .eq (.var 2) (.cst (.str "kind"))) (.var 1)))) .nil) .nil) (.cons (.ret (.or (.var 0) (.or (.cmp .eq (.var 2) (.cst (.str "kind"))) (.not (.var 1))))) .nil)))))⟩
def n8_0 : List Str := [("semantics" : Str), ("name" : Str)]
def i8 : FnI := ⟨"profile_of", 1, n8_0, none, "profile_of"⟩
/-- profile_of(0 semantics, 1 name) -/
def f_profile_of : Fn := ⟨1, 2, (.cons (.ret (.bi .tuple (.cons (.lc [1] (.seq (.glo G_NAMES)) (.nm 1) (.some (.call F_holds_in (.val (.var 0) (.val (.var 1) .nil)))) (.var 1)) .nil))) .nil)⟩
def n9_0 : List Str := [("one" : Str), ("other" : Str), ("semantics" : Str)]
def i9 : FnI := ⟨"parted", 2, n9_0, none, "parted"⟩
/-- parted(0 one, 1 other, 2 semantics) -/
def f_parted : Fn := ⟨2, 3, (.cons (.for (.seq (.call F_all_semantics .nil)) (.nm 2) (.cons (.ite (.and (.call F_holds_in (.val (.var 2) (.val (.var 0) .nil))) (.not (.call F_holds_in (.val (.var 2) (.val (.var 1) .nil))))) (.cons (.ret (.var 2)) .nil) .nil) .nil)) (.cons (.ret (.cst .non)) .nil))⟩
def n10_0 : List Str := [("semantics" : Str)]
def i10 : FnI := ⟨"profile", 1, n10_0, none, "profile"⟩
/-- profile(0 semantics) -/
def f_profile : Fn := ⟨1, 1, (.cons (.ex (.call F_need_semantics (.val (.var 0) .nil))) (.cons (.ret (.call F_profile_of (.val (.var 0) .nil))) .nil))⟩
def n11_0 : List Str := [("semantics" : Str)]
def i11 : FnI := ⟨"profiles", 0, n11_0, none, "profiles"⟩
/-- profiles(0 semantics) -/
def f_profiles : Fn := ⟨0, 1, (.cons (.ret (.bi .tuple (.cons (.bset true (.lc [0] (.seq (.call F_all_semantics .nil)) (.nm 0) .none (.call F_profile_of (.val (.var 0) .nil)))) .nil))) .nil)⟩
def n12_0 : List Str := [("one" : Str), ("other" : Str)]
def i12 : FnI := ⟨"implies", 2, n12_0, none, "implies"⟩
/-- implies(0 one, 1 other) -/
def f_implies : Fn := ⟨2, 2, (.cons (.ex (.call F_need_identity (.val (.var 0) .nil))) (.cons (.ex (.call F_need_identity (.val (.var 1) .nil))) (.cons (.ret (.cmp .is (.call F_parted (.val (.var 0) (.val (.var 1) .nil))) (.cst .non))) .nil)))⟩
def n13_0 : List Str := [("one" : Str), ("other" : Str)]
def i13 : FnI := ⟨"parting", 2, n13_0, none, "parting"⟩
/-- parting(0 one, 1 other) -/
def f_parting : Fn := ⟨2, 2, (.cons (.ex (.call F_need_identity (.val (.var 0) .nil))) (.cons (.ex (.call F_need_identity (.val (.var 1) .nil))) (.cons (.ret (.call F_parted (.val (.var 0) (.val (.var 1) .nil)))) .nil)))⟩
def n14_0 : List Str := [("wanted" : Str), ("one" : Str), ("name" : Str)]
def i14 : FnI := ⟨"semantics_with", 1, n14_0, none, "semantics_with"⟩
/-- semantics_with(0 wanted, 1 one, 2 name) -/
def f_semantics_with : Fn := ⟨1, 3, (.cons (.ite (.or (.not (.isi (.var 0) [.tuple])) (.not (.bi .all (.cons (.lc [1] (.seq (.var 0)) (.nm 1) .none (.and (.isi (.var 1) [.str]) (.cmp .isin (.var 1) (.glo G_NAMES)))) .nil)))) (.cons (.raise 3) .nil) .nil) (.cons (.ite (.cmp .ne (.bset false (.var 0)) (.bi .len (.cons (.var 0) .nil))) (.cons (.raise 3) .nil) .nil) (.cons (.ret (.bi .tuple (.cons (.lc [1] (.seq (.call F_all_semantics .nil)) (.nm 1) (.some (.bi .all (.cons (.lc [2] (.seq (.var 0)) (.nm 2) .none (.call F_holds_in (.val (.var 1) (.val (.var 2) .nil)))) .nil))) (.var 1)) .nil))) .nil)))⟩
def n15_0 : List Str := [("_law_row" : Str), ("_law_many" : Str), ("_law_cell" : Str), ("_law_found" : Str)]
def i15 : FnI := ⟨"_law_taken", 2, n15_0, none, "_law_taken"⟩
/-- _law_taken(0 _law_row, 1 _law_many, 2 _law_cell, 3 _law_found) -/
def f__law_taken : Fn := ⟨2, 4, (.cons (.ite (.cmp .gt (.ix (.bor 0) (.cst (.int 3))) (.cst (.int 0))) (.cons (.asg (.nm 3) (.bin .mod (.bi .int (.cons (.ix (.bor 0) (.cst (.int 3))) .nil)) (.var 1))) (.cons (.setix 0 (.cst (.int 3)) (.bin .fdiv (.ix (.bor 0) (.cst (.int 3))) (.var 1))) (.cons (.ret (.var 3)) .nil))) .nil) (.cons (.setix 0 (.cst (.int 1)) (.bin .add (.ix (.bor 0) (.cst (.int 1))) (.cst (.int 1)))) (.cons (.ite (.cmp .gt (.ix (.bor 0) (.cst (.int 1))) (.bi .len (.cons (.ix (.bor 0) (.cst (.int 0))) .nil))) (.cons (.setix 0 (.cst (.int 2)) (.bin .mod (.bi .int (.cons (.bin .add (.bin .mul (.ix (.bor 0) (.cst (.int 2))) (.cst (.int 48271))) (.cst (.int 11))) .nil)) (.cst (.int 2147483647)))) (.cons (.ret (.bin .mod (.bi .int (.cons (.bin .fdiv (.ix (.bor 0) (.cst (.int 2))) (.cst (.int 7))) .nil)) (.var 1))) .nil)) .nil) (.cons (.asg (.nm 2) (.ix (.ix (.bor 0) (.cst (.int 0))) (.bin .sub (.ix (.bor 0) (.cst (.int 1))) (.cst (.int 1))))) (.cons (.setix 0 (.cst (.int 2)) (.bin .mod (.bi .int (.cons (.bin .add (.bin .add (.bin .mul (.ix (.bor 0) (.cst (.int 2))) (.cst (.int 48271))) (.var 2)) (.cst (.int 11))) .nil)) (.cst (.int 2147483647)))) (.cons (.ite (.cmp .ge (.var 2) (.bin .pow (.cst (.int 10)) (.cst (.int 18)))) (.cons (.setix 0 (.cst (.int 3)) (.bin .fdiv (.var 2) (.var 1))) .nil) .nil) (.cons (.ret (.bin .mod (.bi .int (.cons (.var 2) .nil)) (.var 1))) .nil)))))))⟩
def n16_0 : List Str := [("_law_row" : Str), ("_law_kinds" : Str)]
def i16 : FnI := ⟨"_law_pick", 2, n16_0, none, "_law_pick"⟩
/-- _law_pick(0 _law_row, 1 _law_kinds) -/
def f__law_pick : Fn := ⟨2, 2, (.cons (.ret (.ix (.var 1) (.call F__law_taken (.io 0 (.val (.bi .len (.cons (.var 1) .nil)) .nil))))) .nil)⟩
def n17_0 : List Str := [("_law_found" : Str), ("_law_due" : Str), ("_law_k" : Str)]
def i17 : FnI := ⟨"_law_alike", 2, n17_0, none, "_law_alike"⟩
/-- _law_alike(0 _law_found, 1 _law_due, 2 _law_k) -/
def f__law_alike : Fn := ⟨2, 3, (.cons (.ite (.isi (.var 1) [.tuple, .list]) (.cons (.ite (.or (.not (.isi (.var 0) [.tuple, .list])) (.cmp .ne (.isi (.var 0) [.list]) (.isi (.var 1) [.list]))) (.cons (.ret (.cst (.bl false))) .nil) .nil) (.cons (.ite (.cmp .ne (.bi .len (.cons (.var 0) .nil)) (.bi .len (.cons (.var 1) .nil))) (.cons (.ret (.cst (.bl false))) .nil) .nil) (.cons (.ret (.cmp .eq (.lc [2] (.rng1 (.bi .len (.cons (.var 1) .nil))) (.nm 2) (.some (.not (.call F__law_alike (.val (.ix (.var 0) (.var 2)) (.val (.ix (.var 1) (.var 2)) .nil))))) (.var 2)) (.lst .nil))) .nil))) .nil) (.cons (.ite (.or (.cmp .is (.var 1) (.cst .non)) (.isi (.var 1) [.str])) (.cons (.ret (.and (.cmp .eq (.var 0) (.var 1)) (.cmp .eq (.isi (.var 0) [.str]) (.isi (.var 1) [.str])))) .nil) .nil) (.cons (.ret (.and (.isi (.var 0) [.int]) (.and (.cmp .eq (.isi (.var 0) [.bool]) (.isi (.var 1) [.bool])) (.cmp .eq (.var 0) (.var 1))))) .nil)))⟩
def n18_0 : List Str := [("_law_row" : Str), ("_law_first" : Str), ("_law_second" : Str), ("_law_third" : Str), ("_law_fourth" : Str)]
def i18 : FnI := ⟨"_law_semantics", 1, n18_0, none, "_law_semantics"⟩
/-- _law_semantics(0 _law_row, 1 _law_first, 2 _law_second, 3 _law_third, 4 _law_fourth) -/
def f__law_semantics : Fn := ⟨1, 5, (.cons (.par [1, 2] (.val (.call F__law_pick (.io 0 (.val (.lst (.cons (.cst (.str "bag")) (.cons (.cst (.str "bag")) (.cons (.cst (.str "set")) .nil)))) .nil))) (.val (.call F__law_pick (.io 0 (.val (.lst (.cons (.cst (.str "maximum")) (.cons (.cst (.str "sum")) .nil))) .nil))) .nil))) (.cons (.par [3, 4] (.val (.call F__law_pick (.io 0 (.val (.lst (.cons (.cst (.str "count")) (.cons (.cst (.str "kind")) .nil))) .nil))) (.val (.call F__law_pick (.io 0 (.val (.lst (.cons (.cst (.str "none")) (.cons (.cst (.str "unknown")) (.cons (.cst (.str "unknown")) (.cons (.cst (.str "value")) .nil))))) .nil))) .nil))) (.cons (.ret (.tup (.cons (.var 1) (.cons (.var 2) (.cons (.var 3) (.cons (.var 4) (.cons (.call F__law_pick (.io 0 (.val (.lst (.cons (.cst (.str "null")) (.cons (.cst (.str "zero")) .nil))) .nil))) .nil))))))) .nil)))⟩
def n19_0 : List Str := [("_law_some" : Str)]
def i19 : FnI := ⟨"_law_names", 0, n19_0, none, "_law_names"⟩
/-- _law_names(0 _law_some) -/
def f__law_names : Fn := ⟨0, 1, (.cons (.asg (.nm 0) (.lst (.cons (.cst (.str "idempotent union")) (.cons (.cst (.str "absorbing union")) (.cons (.cst (.str "absorbing intersection")) (.cons (.cst (.str "intersection by difference")) (.cons (.cst (.str "difference of union")) .nil))))))) (.cons (.asg (.nm 0) (.bin .add (.var 0) (.lst (.cons (.cst (.str "union less part")) (.cons (.cst (.str "add and take")) (.cons (.cst (.str "intersection over union")) (.cons (.cst (.str "union over intersection")) (.cons (.cst (.str "filter or")) .nil)))))))) (.cons (.asg (.nm 0) (.bin .add (.var 0) (.lst (.cons (.cst (.str "filter and")) (.cons (.cst (.str "filter not")) (.cons (.cst (.str "filter complete")) (.cons (.cst (.str "projection of union")) (.cons (.cst (.str "projection of intersection")) .nil)))))))) (.cons (.asg (.nm 0) (.bin .add (.var 0) (.lst (.cons (.cst (.str "self semijoin")) (.cons (.cst (.str "semijoin and antijoin")) (.cons (.cst (.str "not in")) (.cons (.cst (.str "join as semijoin")) (.cons (.cst (.str "join over union")) (.cons (.cst (.str "count of union")) .nil))))))))) (.cons (.ret (.bin .add (.var 0) (.lst (.cons (.cst (.str "inclusion and exclusion")) (.cons (.cst (.str "total of union")) (.cons (.cst (.str "total of parts")) (.cons (.cst (.str "distinct union")) (.cons (.cst (.str "distinct difference")) .nil)))))))) .nil)))))⟩
def n20_0 : List Str := [("_law_way" : Str), ("_law_name" : Str), ("_law_found" : Str), ("_law_each" : Str), ("_law_plain" : Str), ("_law_top" : Str), ("_law_kind" : Str), ("_law_known" : Str)]
def i20 : FnI := ⟨"_law_holds", 2, n20_0, none, "_law_holds"⟩
/-- _law_holds(0 _law_way, 1 _law_name, 2 _law_found, 3 _law_each, 4 _law_plain, 5 _law_top, 6 _law_kind, 7 _law_known) -/
def f__law_holds : Fn := ⟨2, 8, (.cons (.asg (.tp (.cons (.nm 4) (.cons (.nm 5) (.cons (.nm 6) (.cons (.nm 7) .nil))))) (.tup (.cons (.cmp .eq (.ix (.var 0) (.cst (.int 0))) (.cst (.str "set"))) (.cons (.cmp .eq (.ix (.var 0) (.cst (.int 1))) (.cst (.str "maximum"))) (.cons (.cmp .eq (.ix (.var 0) (.cst (.int 2))) (.cst (.str "kind"))) (.cons (.cmp .ne (.ix (.var 0) (.cst (.int 3))) (.cst (.str "unknown"))) .nil)))))) (.cons (.ownp 2 (.lc [3] (.seq (.call F__law_names .nil)) (.nm 3) .none (.tup (.cons (.var 3) (.cons (.cst (.bl true)) .nil))))) (.cons (.for (.seq (.lst (.cons (.cst (.str "idempotent union")) (.cons (.cst (.str "absorbing union")) (.cons (.cst (.str "intersection over union")) (.cons (.cst (.str "filter or")) (.cons (.cst (.str "inclusion and exclusion")) (.cons (.cst (.str "distinct union")) .nil)))))))) (.nm 3) (.cons (.setk 2 (.var 3) (.or (.var 4) (.var 5))) .nil)) (.cons (.for (.seq (.lst (.cons (.cst (.str "filter not")) (.cons (.cst (.str "filter complete")) (.cons (.cst (.str "self semijoin")) (.cons (.cst (.str "not in")) .nil)))))) (.nm 3) (.cons (.setk 2 (.var 3) (.var 7)) .nil)) (.cons (.setks 2 (.cons (.cst (.str "intersection by difference")) (.cons (.cst (.str "distinct difference")) .nil)) (.cons (.or (.var 4) (.not (.var 6))) (.cons (.or (.var 4) (.var 6)) .nil))) (.cons (.setks 2 (.cons (.cst (.str "difference of union")) (.cons (.cst (.str "union less part")) .nil)) (.cons (.or (.var 4) (.or (.var 6) (.not (.var 5)))) (.cons (.or (.var 4) (.or (.var 6) (.var 5))) .nil))) (.cons (.setks 2 (.cons (.cst (.str "add and take")) (.cons (.cst (.str "count of union")) .nil)) (.cons (.and (.not (.var 4)) (.and (.not (.var 5)) (.not (.var 6)))) (.cons (.and (.not (.var 4)) (.not (.var 5))) .nil))) (.cons (.setks 2 (.cons (.cst (.str "projection of union")) (.cons (.cst (.str "projection of intersection")) .nil)) (.cons (.or (.var 4) (.not (.var 5))) (.cons (.cst (.bl false)) .nil))) (.cons (.setk 2 (.cst (.str "join as semijoin")) (.var 4)) (.cons (.setks 2 (.cons (.cst (.str "total of union")) (.cons (.cst (.str "total of parts")) .nil)) (.cons (.and (.not (.var 4)) (.and (.not (.var 5)) (.cmp .eq (.ix (.var 0) (.cst (.int 4))) (.cst (.str "zero"))))) (.cons (.and (.cmp .eq (.ix (.var 0) (.cst (.int 4))) (.cst (.str "zero"))) (.var 7)) .nil))) (.cons (.ret (.ix (.bor 2) (.var 1))) .nil)))))))))))⟩
def n21_0 : List Str := [("_law_found" : Str), ("_law_words" : Str), ("_law_longer" : Str), ("_law_one" : Str), ("_law_word" : Str)]
def i21 : FnI := ⟨"_law_every", 0, n21_0, none, "_law_every"⟩
/-- _law_every(0 _law_found, 1 _law_words, 2 _law_longer, 3 _law_one, 4 _law_word) -/
def f__law_every : Fn := ⟨0, 5, (.cons (.asg (.nm 0) (.lst (.cons (.tup .nil) .nil))) (.cons (.for (.seq (.lst (.cons (.lst (.cons (.cst (.str "bag")) (.cons (.cst (.str "set")) .nil))) (.cons (.lst (.cons (.cst (.str "maximum")) (.cons (.cst (.str "sum")) .nil))) (.cons (.lst (.cons (.cst (.str "count")) (.cons (.cst (.str "kind")) .nil))) (.cons (.lst (.cons (.cst (.str "none")) (.cons (.cst (.str "unknown")) (.cons (.cst (.str "value")) .nil)))) (.cons (.lst (.cons (.cst (.str "null")) (.cons (.cst (.str "zero")) .nil))) .nil))))))) (.nm 1) (.cons (.asg (.nm 2) (.lst .nil)) (.cons (.for (.seq (.var 0)) (.nm 3) (.cons (.asg (.nm 2) (.bin .add (.var 2) (.lc [4] (.seq (.var 1)) (.nm 4) .none (.bin .add (.var 3) (.tup (.cons (.var 4) .nil)))))) .nil)) (.cons (.asg (.nm 0) (.var 2)) .nil)))) (.cons (.ret (.var 0)) .nil)))⟩
def n22_0 : List Str := [("_law_way" : Str), ("_law_name" : Str)]
def i22 : FnI := ⟨"_law_profile", 1, n22_0, none, "_law_profile"⟩
/-- _law_profile(0 _law_way, 1 _law_name) -/
def f__law_profile : Fn := ⟨1, 2, (.cons (.ret (.bi .tuple (.cons (.lc [1] (.seq (.call F__law_names .nil)) (.nm 1) (.some (.call F__law_holds (.val (.var 0) (.val (.var 1) .nil)))) (.var 1)) .nil))) .nil)⟩
def n23_0 : List Str := [("_law_script" : Str), ("_law_row" : Str), ("_law_turn" : Str), ("_law_way" : Str), ("_law_every_here" : Str), ("_law_due" : Str), ("_law_wanted" : Str), ("_law_good" : Str), ("_law_one" : Str), ("_law_other" : Str), ("_law_each" : Str), ("_law_name" : Str)]
def i23 : FnI := ⟨"law", 1, n23_0, none, "law"⟩
/-- law(0 _law_script, 1 _law_row, 2 _law_turn, 3 _law_way, 4 _law_every_here, 5 _law_due, 6 _law_wanted, 7 _law_good, 8 _law_one, 9 _law_other, 10 _law_each, 11 _law_name) -/
def f_law : Fn := ⟨1, 12, (.cons (.own 1 (.cons (.var 0) (.cons (.cst (.int 0)) (.cons (.cst (.int 15328)) (.cons (.cst (.int 0)) .nil))))) (.cons (.par [3, 4] (.val (.call F__law_semantics (.io 1 .nil)) (.val (.call F__law_every .nil) .nil))) (.cons (.ite (.or (.not (.call F__law_alike (.val (.call F_all_semantics .nil) (.val (.bi .tuple (.cons (.var 4) .nil)) .nil)))) (.not (.call F__law_alike (.val (.call F_profile (.val (.var 3) .nil)) (.val (.call F__law_profile (.val (.var 3) .nil)) .nil))))) (.cons (.ret (.cst (.bl false))) .nil) .nil) (.cons (.for (.rng1 (.cst (.int 3))) (.nm 2) (.cons (.par [8, 9] (.val (.call F__law_pick (.io 1 (.val (.call F__law_names .nil) .nil))) (.val (.call F__law_pick (.io 1 (.val (.call F__law_names .nil) .nil))) .nil))) (.cons (.asg (.nm 5) (.lc [10] (.seq (.var 4)) (.nm 10) (.some (.and (.call F__law_holds (.val (.var 10) (.val (.var 8) .nil))) (.not (.call F__law_holds (.val (.var 10) (.val (.var 9) .nil)))))) (.var 10))) (.cons (.ite (.or (.not (.call F__law_alike (.val (.call F_implies (.val (.var 8) (.val (.var 9) .nil))) (.val (.cmp .eq (.var 5) (.lst .nil)) .nil)))) (.not (.call F__law_alike (.val (.call F_parting (.val (.var 8) (.val (.var 9) .nil))) (.val (.ife (.cmp .ne (.var 5) (.lst .nil)) (.ix (.var 5) (.cst (.int 0))) (.cst .non)) .nil))))) (.cons (.ret (.cst (.bl false))) .nil) .nil) (.cons (.asg (.nm 6) (.bi .tuple (.cons (.lc [11] (.seq (.call F__law_names .nil)) (.nm 11) (.some (.cmp .eq (.call F__law_taken (.io 1 (.val (.cst (.int 6)) .nil))) (.cst (.int 0)))) (.var 11)) .nil))) (.cons (.asg (.nm 6) (.ife (.cmp .eq (.call F__law_taken (.io 1 (.val (.cst (.int 2)) .nil))) (.cst (.int 0))) (.rev (.var 6)) (.var 6))) (.cons (.asg (.nm 7) (.lc [10] (.seq (.var 4)) (.nm 10) (.some (.cmp .eq (.lc [11] (.seq (.var 6)) (.nm 11) (.some (.not (.call F__law_holds (.val (.var 10) (.val (.var 11) .nil))))) (.var 11)) (.lst .nil))) (.var 10))) (.cons (.ite (.not (.call F__law_alike (.val (.call F_semantics_with (.val (.var 6) .nil)) (.val (.bi .tuple (.cons (.var 7) .nil)) .nil)))) (.cons (.ret (.cst (.bl false))) .nil) .nil) .nil)))))))) (.cons (.ite (.not (.call F__law_alike (.val (.call F_profiles .nil) (.val (.bi .tuple (.cons (.bset true (.lc [10] (.seq (.var 4)) (.nm 10) .none (.call F__law_profile (.val (.var 10) .nil)))) .nil)) .nil)))) (.cons (.ret (.cst (.bl false))) .nil) .nil) (.cons (.ret (.lamc gd__law_bad 4 (.call F_semantics_with (.val (.call F__law_pick (.io 1 (.val (.lst (.cons (.cst .non) (.cons (.bi .list (.cons (.var 6) .nil)) (.cons (.tup (.cons (.cst (.str "not in")) (.cons (.cst (.str "not in")) .nil))) (.cons (.tup (.cons (.cst (.str "Not in")) .nil)) (.cons (.cst (.str "not in")) (.cons (.tup (.cons (.cst .non) .nil)) .nil))))))) .nil))) .nil)))) .nil))))))⟩
def rows0 : List DRow := [⟨i0, f_is_list, top 1⟩, ⟨i1, f_words_of, top 9⟩, ⟨i2, f_is_semantics, top 10⟩, ⟨i3, f_need_semantics, top 11⟩, ⟨i4, f_all_semantics, top 12⟩, ⟨i5, f_need_identity, top 15⟩, ⟨i6, f_holds_in, top 20⟩, ⟨i7, f_counted_holds, top 21⟩, ⟨i8, f_profile_of, top 23⟩, ⟨i9, f_parted, top 24⟩, ⟨i10, f_profile, top 25⟩, ⟨i11, f_profiles, top 26⟩, ⟨i12, f_implies, top 27⟩, ⟨i13, f_parting, top 28⟩, ⟨i14, f_semantics_with, top 29⟩, ⟨i15, f__law_taken, top 31⟩, ⟨i16, f__law_pick, top 32⟩, ⟨i17, f__law_alike, top 33⟩, ⟨i18, f__law_semantics, top 34⟩, ⟨i19, f__law_names, top 35⟩]
def rows1 : List DRow := [⟨i20, f__law_holds, top 36⟩, ⟨i21, f__law_every, top 37⟩, ⟨i22, f__law_profile, top 38⟩, ⟨i23, f_law, top 40⟩]
def rows : List DRow := rows0 ++ rows1
def globs : List (Str × D) := [("CHOICES", (.str "bag set;maximum sum;count kind;none unknown value;null zero")), ("NAMES", (.tup [(.str "idempotent union"), (.str "absorbing union"), (.str "absorbing intersection"), (.str "intersection by difference"), (.str "difference of union"), (.str "union less part"), (.str "add and take"), (.str "intersection over union"), (.str "union over intersection"), (.str "filter or"), (.str "filter and"), (.str "filter not"), (.str "filter complete"), (.str "projection of union"), (.str "projection of intersection"), (.str "self semijoin"), (.str "semijoin and antijoin"), (.str "not in"), (.str "join as semijoin"), (.str "join over union"), (.str "count of union"), (.str "inclusion and exclusion"), (.str "total of union"), (.str "total of parts"), (.str "distinct union"), (.str "distinct difference")])), ("ALWAYS", (.tup [(.str "absorbing intersection"), (.str "union over intersection"), (.str "filter and"), (.str "semijoin and antijoin"), (.str "join over union")])), ("MAXIMUM", (.tup [(.str "idempotent union"), (.str "absorbing union"), (.str "intersection over union"), (.str "filter or"), (.str "inclusion and exclusion"), (.str "distinct union")])), ("KNOWN", (.tup [(.str "filter not"), (.str "filter complete"), (.str "self semijoin"), (.str "not in")]))]
def blts : List Str := ["isinstance", "len", "all", "tuple", "list", "set", "dict", "int", "str", "bool", "sorted", "range"]
def flds : List (Str × Str) := []
def excs : List Str := ["QueryError", "BadSemantics", "BadIdentity", "BadIdentities"]
def grows : List GRow := [⟨gd__law_bad, "_law_work", "e", top 39⟩]
def tab : Tab := ⟨rows.map (·.i), globs, blts, flds, excs, grows.map (·.g), true⟩
def names0 : List PySem.Str := ["is_list", "QueryError", "BadSemantics", "BadIdentity", "BadIdentities", "CHOICES", "words_of", "is_semantics", "need_semantics", "all_semantics", "NAMES", "need_identity", "ALWAYS", "MAXIMUM", "KNOWN", "holds_in", "counted_holds", "profile_of", "parted", "profile"]
def names1 : List PySem.Str := ["profiles", "implies", "parting", "semantics_with", "_law_taken", "_law_pick", "_law_alike", "_law_semantics", "_law_names", "_law_holds", "_law_every", "_law_profile", "_law_bad"]
def names : List PySem.Str := names0 ++ names1
theorem checked : rows.all (chkRow tab) = true := by decide +kernel
theorem lrow : rows.all lawRow = true := by decide +kernel
theorem gchk : grows.all (chkG tab) = true := by decide +kernel
def GBnd (r : GRow) : Prop := ∀ (K : PySem.W.Frag) (f : Addr) (fd : FuncData), FunD K r.g.name r.g.name (defArgs r.st) (defBody r.st) (defScope r.st) [] [] f fd → Binds K fd [r.a] []
theorem gb0 : GBnd ⟨gd__law_bad, "_law_work", "e", top 39⟩ := fun K f fd F => F.bindsN (ps := ["_law_work"]) fun _ _ _ _ _ _ us hl => match us, hl with | [_], _ => rfl
theorem allc {α : Type} {P : α → Prop} {a : α} {l : List α} (h : P a) (t : ∀ x ∈ l, P x) : ∀ x ∈ a :: l, P x := fun x hx => (List.mem_cons.mp hx).elim (fun e => e ▸ h) (t x)
theorem alla {α : Type} {P : α → Prop} {l r : List α} (h : ∀ x ∈ l, P x) (t : ∀ x ∈ r, P x) : ∀ x ∈ l ++ r, P x := fun x hx => (List.mem_append.mp hx).elim (h x) (t x)
def Bnd (r : DRow) : Prop := ∀ (K : PySem.W.Frag) (f : Addr) (fd : FuncData), FnP K r f fd → Binds K fd (r.i.N.take r.i.ps) []
theorem b0 : Bnd ⟨i0, f_is_list, top 1⟩ := fun K f fd F => F.bindsN (ps := i0.N.take 3) fun _ _ _ _ _ _ us hl => match us, hl with | [_, _, _], _ => rfl
theorem b1 : Bnd ⟨i1, f_words_of, top 9⟩ := fun K f fd F => F.bindsN (ps := i1.N.take 1) fun _ _ _ _ _ _ us hl => match us, hl with | [_], _ => rfl
theorem b2 : Bnd ⟨i2, f_is_semantics, top 10⟩ := fun K f fd F => F.bindsN (ps := i2.N.take 1) fun _ _ _ _ _ _ us hl => match us, hl with | [_], _ => rfl
theorem b3 : Bnd ⟨i3, f_need_semantics, top 11⟩ := fun K f fd F => F.bindsN (ps := i3.N.take 1) fun _ _ _ _ _ _ us hl => match us, hl with | [_], _ => rfl
theorem b4 : Bnd ⟨i4, f_all_semantics, top 12⟩ := fun K f fd F => F.bindsN (ps := i4.N.take 0) fun _ _ _ _ _ _ us hl => match us, hl with | [], _ => rfl
theorem b5 : Bnd ⟨i5, f_need_identity, top 15⟩ := fun K f fd F => F.bindsN (ps := i5.N.take 1) fun _ _ _ _ _ _ us hl => match us, hl with | [_], _ => rfl
theorem b6 : Bnd ⟨i6, f_holds_in, top 20⟩ := fun K f fd F => F.bindsN (ps := i6.N.take 2) fun _ _ _ _ _ _ us hl => match us, hl with | [_, _], _ => rfl
theorem b7 : Bnd ⟨i7, f_counted_holds, top 21⟩ := fun K f fd F => F.bindsN (ps := i7.N.take 4) fun _ _ _ _ _ _ us hl => match us, hl with | [_, _, _, _], _ => rfl
theorem b8 : Bnd ⟨i8, f_profile_of, top 23⟩ := fun K f fd F => F.bindsN (ps := i8.N.take 1) fun _ _ _ _ _ _ us hl => match us, hl with | [_], _ => rfl
theorem b9 : Bnd ⟨i9, f_parted, top 24⟩ := fun K f fd F => F.bindsN (ps := i9.N.take 2) fun _ _ _ _ _ _ us hl => match us, hl with | [_, _], _ => rfl
theorem b10 : Bnd ⟨i10, f_profile, top 25⟩ := fun K f fd F => F.bindsN (ps := i10.N.take 1) fun _ _ _ _ _ _ us hl => match us, hl with | [_], _ => rfl
theorem b11 : Bnd ⟨i11, f_profiles, top 26⟩ := fun K f fd F => F.bindsN (ps := i11.N.take 0) fun _ _ _ _ _ _ us hl => match us, hl with | [], _ => rfl
theorem b12 : Bnd ⟨i12, f_implies, top 27⟩ := fun K f fd F => F.bindsN (ps := i12.N.take 2) fun _ _ _ _ _ _ us hl => match us, hl with | [_, _], _ => rfl
theorem b13 : Bnd ⟨i13, f_parting, top 28⟩ := fun K f fd F => F.bindsN (ps := i13.N.take 2) fun _ _ _ _ _ _ us hl => match us, hl with | [_, _], _ => rfl
theorem b14 : Bnd ⟨i14, f_semantics_with, top 29⟩ := fun K f fd F => F.bindsN (ps := i14.N.take 1) fun _ _ _ _ _ _ us hl => match us, hl with | [_], _ => rfl
theorem b15 : Bnd ⟨i15, f__law_taken, top 31⟩ := fun K f fd F => F.bindsN (ps := i15.N.take 2) fun _ _ _ _ _ _ us hl => match us, hl with | [_, _], _ => rfl
theorem b16 : Bnd ⟨i16, f__law_pick, top 32⟩ := fun K f fd F => F.bindsN (ps := i16.N.take 2) fun _ _ _ _ _ _ us hl => match us, hl with | [_, _], _ => rfl
theorem b17 : Bnd ⟨i17, f__law_alike, top 33⟩ := fun K f fd F => F.bindsN (ps := i17.N.take 2) fun _ _ _ _ _ _ us hl => match us, hl with | [_, _], _ => rfl
theorem b18 : Bnd ⟨i18, f__law_semantics, top 34⟩ := fun K f fd F => F.bindsN (ps := i18.N.take 1) fun _ _ _ _ _ _ us hl => match us, hl with | [_], _ => rfl
theorem b19 : Bnd ⟨i19, f__law_names, top 35⟩ := fun K f fd F => F.bindsN (ps := i19.N.take 0) fun _ _ _ _ _ _ us hl => match us, hl with | [], _ => rfl
theorem b20 : Bnd ⟨i20, f__law_holds, top 36⟩ := fun K f fd F => F.bindsN (ps := i20.N.take 2) fun _ _ _ _ _ _ us hl => match us, hl with | [_, _], _ => rfl
theorem b21 : Bnd ⟨i21, f__law_every, top 37⟩ := fun K f fd F => F.bindsN (ps := i21.N.take 0) fun _ _ _ _ _ _ us hl => match us, hl with | [], _ => rfl
theorem b22 : Bnd ⟨i22, f__law_profile, top 38⟩ := fun K f fd F => F.bindsN (ps := i22.N.take 1) fun _ _ _ _ _ _ us hl => match us, hl with | [_], _ => rfl
theorem b23 : Bnd ⟨i23, f_law, top 40⟩ := fun K f fd F => F.bindsN (ps := i23.N.take 1) fun _ _ _ _ _ _ us hl => match us, hl with | [_], _ => rfl
theorem gbinds : ∀ r ∈ grows, GBnd r := (allc gb0 (fun _ h => by cases h))
theorem bs0 : ∀ r ∈ rows0, Bnd r := (allc b0 (allc b1 (allc b2 (allc b3 (allc b4 (allc b5 (allc b6 (allc b7 (allc b8 (allc b9 (allc b10 (allc b11 (allc b12 (allc b13 (allc b14 (allc b15 (allc b16 (allc b17 (allc b18 (allc b19 (fun _ h => by cases h)))))))))))))))))))))
theorem bs1 : ∀ r ∈ rows1, Bnd r := (allc b20 (allc b21 (allc b22 (allc b23 (fun _ h => by cases h)))))
theorem binds : ∀ r ∈ rows, Bnd r := (alla bs0 bs1)
end K08

namespace K08
open PySem PySem.Spec PyProof.Rows L2 Qh

/-! ### runs -/
abbrev G := globD tab
abbrev Pg := progOf rows
theorem run_at (n k : Nat) (fn : Fn) (xs : List Sl) (h : Pg k = some fn) (hl : xs.length = fn.ps) : runN G Pg (n + 1) k xs = Qh.finish xs (evSs G (runN G Pg n) fn.body (xs ++ List.replicate (fn.n - fn.ps) .non)) := by
  show (match Pg k with | some fn => _ | none => _) = _
  rw [h]
  exact if_pos hl
abbrev An (k f : Nat) (ds : List D) (d : D) : Prop := AnsF G Pg k f ds d
/-! ### checks -/
theorem a_is_list (l : List D) (a b : Int) : An 1 F_is_list [.tup l, .int a, .int b] (.bl (decide (a ≤ l.length) && decide ((l.length : Int) ≤ b))) := by
  intro n hn
  obtain ⟨m, rfl⟩ : ∃ m, n = m + 1 := ⟨n - 1, by omega⟩
  refine run_ends (fn := f_is_list) rfl rfl ?_
  simp only [List.map_cons, List.map_nil] at *
  generalize runN G Pg m = R at *
  by_cases h : a ≤ l.length <;> simp (config := { implicitDefEqProofs := false }) [f_is_list, h, tyOf, rd2, rd, rds, AV.apart, AV.slots, AV.sl, AV.isB, avOf, Qh.callEnd, putOuts, Qh.finish, outs, Sl.isOwn, ownR, big]
theorem a_need_semantics (S : Sm) : An 4 F_need_semantics [S.d] .non := by
  intro n hn
  obtain ⟨m, rfl⟩ : ∃ m, n = m + 4 := ⟨n - 4, by omega⟩
  obtain ⟨s, x, y, c, d⟩ := S
  rcases fin3 c with rfl | rfl | rfl <;> cases s <;> cases x <;> cases y <;> cases d <;> (unfold Ans; kernel_rfl)
end K08

namespace K08
open PySem PySem.Spec PyProof.Rows L2 Qh

/-! ### exceptions -/
@[simp] theorem sr_exc {α : Type} {x : Exn} {e : En} {k : α → En → SR} : (Res.exc x e : Res α).sr k = .exc x e := rfl
@[simp] theorem next_exc {x : Exn} {e : En} {k : En → SR} : (SR.exc x e).next k = .exc x e := rfl
/-- a run that ends in an exception -/
abbrev AnE (k f : Nat) (ds : List D) (c : Nat) : Prop := ∀ n, k ≤ n → runN G Pg n f (ds.map .dat) = .exc ⟨c, none⟩ (ds.map .dat)
def EndsE (r : SR) (n c : Nat) : Prop := match r with
  | .exc x e => x = ⟨c, none⟩ ∧ n ≤ e.length
  | _ => False
@[simp] theorem endsE_exc {x : Exn} {e : En} {n c : Nat} : EndsE (.exc x e) n c = (x = ⟨c, none⟩ ∧ n ≤ e.length) := rfl
theorem run_endsE {n k : Nat} {fn : Fn} {ds : List D} {c : Nat} (h : Pg k = some fn) (hl : ds.length = fn.ps) (he : EndsE (evSs G (runN G Pg n) fn.body (ds.map .dat ++ List.replicate (fn.n - fn.ps) .non)) ds.length c) : runN G Pg (n + 1) k (ds.map .dat) = .exc ⟨c, none⟩ (ds.map .dat) := by
  rw [run_at n k fn (ds.map .dat) h (by rw [List.length_map]; exact hl)]
  revert he
  generalize evSs G (runN G Pg n) fn.body (ds.map .dat ++ List.replicate (fn.n - fn.ps) .non) = r
  intro he
  cases r with
  | exc x e =>
    obtain ⟨rfl, h2⟩ := he
    show (if (ds.map Sl.dat).length ≤ e.length then Res.exc _ (outs (ds.map Sl.dat) e) else .bad) = _
    rw [if_pos (by rw [List.length_map]; exact h2), outs_dat ds e h2]
  | ret d e => exact he.elim
  | nxt e => exact he.elim
  | bad => exact he.elim

end K08

namespace K08
open PySem PySem.Spec PyProof.Rows L2 Qh

/-! ### draws -/
abbrev Dr (k f : Nat) (l : List D) (ds : List D) (d : D) (l' : List D) : Prop := DrF G Pg k f l ds d l'
theorem d_taken (l : List D) (hl : Rw l) (m : Int) (h0 : 0 < m) (h1 : m < 1073741824) : ∃ (x : Int) (l' : List D), Rw l' ∧ 0 ≤ x ∧ x < m ∧ Dr 1 F__law_taken l [.int m] (.int x) l' := by
  obtain ⟨ns, i, s, z, rfl, hi, hs, hs2⟩ := hl
  have hm : m ≠ 0 := by omega
  by_cases hz : 0 < z
  · refine ⟨z.fmod m, [.scr ns, .int i, .int s, .int (z.fdiv m)], ⟨ns, i, s, _, rfl, hi, hs, hs2⟩, (fm_lt z m h0).1, (fm_lt z m h0).2, ?_⟩
    have e1 := mod_i z m hm
    have e2 := fdv_i z m h0 h1
    intro n hn
    obtain ⟨m, rfl⟩ : ∃ m, n = m + 1 := ⟨n - 1, by omega⟩
    refine run_endsO (fn := f__law_taken) rfl rfl ?_
    simp only [List.map_cons, List.map_nil] at *
    generalize runN G Pg m = R at *
    simp (config := { implicitDefEqProofs := false }) [f__law_taken, hz, e1, e2, ix4_3, rd2, rd, rds, AV.apart, AV.slots, AV.sl, AV.isB, avOf, Qh.callEnd, putOuts, Qh.finish, outs, Sl.isOwn, ownR, big]
  · by_cases hlen : (ns.length : Int) < i + 1
    · have hb := fm_lt (s * 48271 + 11) 2147483647 (by decide)
      refine ⟨(((s * 48271 + 11).fmod 2147483647).fdiv 7).fmod m, [.scr ns, .int (i + 1), .int ((s * 48271 + 11).fmod 2147483647), .int z], ⟨ns, _, _, z, rfl, by omega, hb.1, hb.2⟩, (fm_lt _ m h0).1, (fm_lt _ m h0).2, ?_⟩
      have e1 := mod_i (s * 48271 + 11) 2147483647 (by decide)
      have e2 := fdv_i ((s * 48271 + 11).fmod 2147483647) 7 (by decide) (by decide)
      have e3 := mod_i (((s * 48271 + 11).fmod 2147483647).fdiv 7) m hm
      intro n hn
      obtain ⟨m, rfl⟩ : ∃ m, n = m + 1 := ⟨n - 1, by omega⟩
      refine run_endsO (fn := f__law_taken) rfl rfl ?_
      simp only [List.map_cons, List.map_nil] at *
      generalize runN G Pg m = R at *
      simp (config := { implicitDefEqProofs := false }) [f__law_taken, hz, hlen, e1, e2, e3, mul_48, ix4_1, ix4_2, ix4_3, rd2, rd, rds, AV.apart, AV.slots, AV.sl, AV.isB, avOf, Qh.callEnd, putOuts, Qh.finish, outs, Sl.isOwn, ownR, big]
    · obtain ⟨k, rfl⟩ : ∃ k : Nat, i = k := ⟨i.toNat, by omega⟩
      have hk : k < ns.length := by omega
      obtain ⟨c, hc⟩ : ∃ c, ns[k]? = some c := ⟨_, List.getElem?_eq_getElem hk⟩
      have hix := ix_sc ns k c hc
      have hb := fm_lt (s * 48271 + c + 11) 2147483647 (by decide)
      have e1 := mod_i (s * 48271 + c + 11) 2147483647 (by decide)
      have e2 := fdv_i c m h0 h1
      have e3 := mod_i c m hm
      have e4 : opBin .sub (.int ((k : Int) + 1)) (.int 1) = some (.int (k : Int)) := by rw [sub_i]; congr 2; omega
      by_cases hbig : 1000000000000000000 ≤ c
      · refine ⟨c.fmod m, [.scr ns, .int (k + 1), .int ((s * 48271 + c + 11).fmod 2147483647), .int (c.fdiv m)], ⟨ns, _, _, _, rfl, by omega, hb.1, hb.2⟩, (fm_lt _ m h0).1, (fm_lt _ m h0).2, ?_⟩
        intro n hn
        obtain ⟨m, rfl⟩ : ∃ m, n = m + 1 := ⟨n - 1, by omega⟩
        refine run_endsO (fn := f__law_taken) rfl rfl ?_
        simp only [List.map_cons, List.map_nil] at *
        generalize runN G Pg m = R at *
        simp (config := { implicitDefEqProofs := false }) [f__law_taken, hz, hlen, e1, e2, e3, e4, mul_48, p1018, hix, hbig, ix4_1, ix4_2, ix4_3, rd2, rd, rds, AV.apart, AV.slots, AV.sl, AV.isB, avOf, Qh.callEnd, putOuts, Qh.finish, outs, Sl.isOwn, ownR, big, -sub_i]
      · refine ⟨c.fmod m, [.scr ns, .int (k + 1), .int ((s * 48271 + c + 11).fmod 2147483647), .int z], ⟨ns, _, _, _, rfl, by omega, hb.1, hb.2⟩, (fm_lt _ m h0).1, (fm_lt _ m h0).2, ?_⟩
        intro n hn
        obtain ⟨m, rfl⟩ : ∃ m, n = m + 1 := ⟨n - 1, by omega⟩
        refine run_endsO (fn := f__law_taken) rfl rfl ?_
        simp only [List.map_cons, List.map_nil] at *
        generalize runN G Pg m = R at *
        simp (config := { implicitDefEqProofs := false }) [f__law_taken, hz, hlen, e1, e2, e3, e4, mul_48, p1018, hix, hbig, ix4_1, ix4_2, ix4_3, rd2, rd, rds, AV.apart, AV.slots, AV.sl, AV.isB, avOf, Qh.callEnd, putOuts, Qh.finish, outs, Sl.isOwn, ownR, big, -sub_i]
theorem d_pick (l : List D) (hl : Rw l) (ks : List D) (h0 : 0 < ks.length) (h1 : ks.length < 1000) : ∃ (d : D) (l' : List D), Rw l' ∧ d ∈ ks ∧ Dr 2 F__law_pick l [.lst ks] d l' := by
  obtain ⟨x, l', hl', hx0, hx1, hr⟩ := d_taken l hl ks.length (by omega) (by omega)
  obtain ⟨k, rfl⟩ : ∃ k : Nat, x = k := ⟨x.toNat, by omega⟩
  have hk : k < ks.length := by omega
  have hix := ixL ks k hk
  rw [List.getElem?_eq_getElem hk] at hix
  refine ⟨ks[k], l', hl', List.getElem_mem hk, ?_⟩
  intro n hn
  obtain ⟨m, rfl⟩ : ∃ m, n = m + 1 := ⟨n - 1, by omega⟩
  have h2 :=  hr m (by omega)
  refine run_endsO (fn := f__law_pick) rfl rfl ?_
  try unfold Ans at *
  simp only [List.map_cons, List.map_nil] at *
  generalize runN G Pg m = R at *
  simp (config := { implicitDefEqProofs := false }) [f__law_pick, h2, hix, rd2, rd, rds, AV.apart, AV.slots, AV.sl, AV.isB, avOf, Qh.callEnd, putOuts, Qh.finish, outs, Sl.isOwn, ownR, big]
/-- a word of some -/
theorem d_word (l : List D) (hl : Rw l) (ws : List Str) (h0 : 0 < ws.length) (h1 : ws.length < 1000) : ∃ (w : Str) (l' : List D), Rw l' ∧ w ∈ ws ∧ Dr 2 F__law_pick l [.lst (ws.map .str)] (.str w) l' := by
  obtain ⟨d, l', hl', hd, hr⟩ := d_pick l hl (ws.map .str) (by simpa using h0) (by simpa using h1)
  obtain ⟨w, hw, rfl⟩ := List.mem_map.mp hd
  exact ⟨w, l', hl', hw, hr⟩
theorem d_semantics (l : List D) (hl : Rw l) : ∃ (S : Sm) (l' : List D), Rw l' ∧ Dr 3 F__law_semantics l [] S.d l' := by
  obtain ⟨w0, l0, hl0, m0, r0⟩ := d_word l hl ["bag", "bag", "set"] (by simp) (by simp)
  obtain ⟨w1, l1, hl1, m1, r1⟩ := d_word l0 hl0 ["maximum", "sum"] (by simp) (by simp)
  obtain ⟨w2, l2, hl2, m2, r2⟩ := d_word l1 hl1 ["count", "kind"] (by simp) (by simp)
  obtain ⟨w3, l3, hl3, m3, r3⟩ := d_word l2 hl2 ["none", "unknown", "unknown", "value"] (by simp) (by simp)
  obtain ⟨w4, l4, hl4, m4, r4⟩ := d_word l3 hl3 ["null", "zero"] (by simp) (by simp)
  have e0 : ∃ b : Bool, w0 = if b then ("set" : Str) else "bag" := by
    simp only [List.mem_cons, List.not_mem_nil, or_false] at m0
    rcases m0 with h | h | h
    · exact ⟨false, h⟩
    · exact ⟨false, h⟩
    · exact ⟨true, h⟩
  have e1 : ∃ b : Bool, w1 = if b then ("sum" : Str) else "maximum" := by
    simp only [List.mem_cons, List.not_mem_nil, or_false] at m1
    rcases m1 with h | h
    · exact ⟨false, h⟩
    · exact ⟨true, h⟩
  have e2 : ∃ b : Bool, w2 = if b then ("kind" : Str) else "count" := by
    simp only [List.mem_cons, List.not_mem_nil, or_false] at m2
    rcases m2 with h | h
    · exact ⟨false, h⟩
    · exact ⟨true, h⟩
  have e3 : ∃ b : Fin 3, w3 = if b = 0 then ("none" : Str) else if b = 1 then "unknown" else "value" := by
    simp only [List.mem_cons, List.not_mem_nil, or_false] at m3
    rcases m3 with h | h | h | h
    · exact ⟨0, h⟩
    · exact ⟨1, h⟩
    · exact ⟨1, h⟩
    · exact ⟨2, h⟩
  have e4 : ∃ b : Bool, w4 = if b then ("zero" : Str) else "null" := by
    simp only [List.mem_cons, List.not_mem_nil, or_false] at m4
    rcases m4 with h | h
    · exact ⟨false, h⟩
    · exact ⟨true, h⟩
  obtain ⟨b0, rfl⟩ := e0
  obtain ⟨b1, rfl⟩ := e1
  obtain ⟨b2, rfl⟩ := e2
  obtain ⟨b3, rfl⟩ := e3
  obtain ⟨b4, rfl⟩ := e4
  refine ⟨⟨b0, b1, b2, b3, b4⟩, l4, hl4, ?_⟩
  intro n hn
  obtain ⟨m, rfl⟩ : ∃ m, n = m + 1 := ⟨n - 1, by omega⟩
  have h0 :=  r0 m (by omega)
  have h1 :=  r1 m (by omega)
  have h2 :=  r2 m (by omega)
  have h3 :=  r3 m (by omega)
  have h4 :=  r4 m (by omega)
  refine run_endsO (fn := f__law_semantics) rfl rfl ?_
  try unfold Ans at *
  simp only [List.map_cons, List.map_nil] at *
  generalize runN G Pg m = R at *
  simp (config := { implicitDefEqProofs := false }) [f__law_semantics, h0, h1, h2, h3, h4, big, Sm.d, Sm.s0, Sm.s1, Sm.s2, Sm.s3, Sm.s4, rd2, rd, rds, AV.apart, AV.slots, AV.sl, AV.isB, avOf, Qh.callEnd, putOuts, Qh.finish, outs, Sl.isOwn, ownR, big]
end K08

namespace K08
open PySem PySem.Spec PyProof.Rows L2 Qh

/-! ### alike -/
theorem al_non : An 1 F__law_alike [.non, .non] (.bl true) := by
  intro n hn
  obtain ⟨m, rfl⟩ : ∃ m, n = m + 1 := ⟨n - 1, by omega⟩
  unfold Ans; kernel_rfl
theorem al_int (i : Int) : An 1 F__law_alike [.int i, .int i] (.bl true) := by
  intro n hn
  obtain ⟨m, rfl⟩ : ∃ m, n = m + 1 := ⟨n - 1, by omega⟩
  refine run_ends (fn := f__law_alike) rfl rfl ?_
  simp only [List.map_cons, List.map_nil] at *
  generalize runN G Pg m = R at *
  have h : opCmp .is (.int i) .non = some false := rfl
  simp (config := { implicitDefEqProofs := false }) [f__law_alike, h, tyOf, rd2, rd, rds, AV.apart, AV.slots, AV.sl, AV.isB, avOf, Qh.callEnd, putOuts, Qh.finish, outs, Sl.isOwn, ownR, big]
theorem al_tup (k : Nat) (l : List D) (hl : l.length ≤ 30000) (h : ∀ x ∈ l, An k F__law_alike [x, x] (.bl true)) : An (k + 1) F__law_alike [.tup l, .tup l] (.bl true) := by
  intro n hn
  obtain ⟨m, rfl⟩ : ∃ m, n = m + 1 := ⟨n - 1, by omega⟩
  have h1 := fun (x : D) (hx : x ∈ l)  =>  h x hx m (by omega)
  refine run_ends (fn := f__law_alike) rfl rfl ?_
  unfold Ans at *
  simp only [List.map_cons, List.map_nil] at *
  generalize runN G Pg m = R at *
  have hlc : evE G R (.lc [2] (.rng1 (.bi .len (.cons (.var 1) .nil))) (.nm 2) (.some (.not (.call F__law_alike (.val (.ix (.var 0) (.var 2)) (.val (.ix (.var 1) (.var 2)) .nil))))) (.var 2)) [.dat (.tup l), .dat (.tup l), .non] = .ok (.lst []) [.dat (.tup l), .dat (.tup l), .non] := by
    rw [lc_fm (List.range l.length) (fun (k : Nat) => .int (k : Int)) (fun (k : Nat) => .int (k : Int)) (fun _ => false) (it_r1 (by simp (config := { implicitDefEqProofs := false }) [rd2, rd, rds, AV.apart, AV.slots, AV.sl, AV.isB, avOf, Qh.callEnd, putOuts, Qh.finish, outs, Sl.isOwn, ownR, big]) (Nat.le_trans hl (by decide))) rfl (by simp) (by rw [List.length_range]; exact Nat.lt_of_le_of_lt hl (by decide)) (fun k hk => ?_) fun k hk h => by cases h]
    · simp
    · have hk := List.mem_range.mp hk
      have hix := ixT l k hk
      rw [List.getElem?_eq_getElem hk] at hix
      have h2 := h1 l[k] (List.getElem_mem hk)
      simp (config := { implicitDefEqProofs := false }) [hix, h2, rd2, rd, rds, AV.apart, AV.slots, AV.sl, AV.isB, avOf, Qh.callEnd, putOuts, Qh.finish, outs, Sl.isOwn, ownR, big]
  have he := eq_lst0 (l := []) ⟨1, rfl, by omega⟩
  simp (config := { implicitDefEqProofs := false }) [f__law_alike, hlc, he, tyOf, big, rd2, rd, rds, AV.apart, AV.slots, AV.sl, AV.isB, avOf, Qh.callEnd, putOuts, Qh.finish, outs, Sl.isOwn, ownR, big]
theorem al_v (v : Vl) : An 1 F__law_alike [vD v, vD v] (.bl true) := by
  cases v with
  | none => exact al_non
  | some i => exact al_int i
theorem al_t (t : List Qh.Row) (h : Sml t) : An 3 F__law_alike [tD t, tD t] (.bl true) := al_tup 2 _ (by rw [List.length_map]; exact h.len) fun x hx => by
  obtain ⟨r, hr, rfl⟩ := List.mem_map.mp hx
  exact al_tup 1 _ (by rw [List.length_map]; have := h.row r hr; omega) fun y hy => by
    obtain ⟨v, hv, rfl⟩ := List.mem_map.mp hy
    exact al_v v

end K08

namespace K08
open PySem PySem.Spec PyProof.Rows L2 Qh

/-! ### the identities' names -/
def nms1 : List Str := ["idempotent union", "absorbing union", "absorbing intersection", "intersection by difference", "difference of union", "union less part", "add and take", "intersection over union", "union over intersection", "filter or"]
def nms2 : List Str := ["filter and", "filter not", "filter complete", "projection of union", "projection of intersection", "self semijoin", "semijoin and antijoin", "not in", "join as semijoin", "join over union"]
def nms3 : List Str := ["count of union", "inclusion and exclusion", "total of union", "total of parts", "distinct union", "distinct difference"]
def nms : List Str := nms1 ++ (nms2 ++ nms3)
def nm (i : Fin 26) : Str := nms.getD i.val ""
@[simp] theorem nq0 (i : Fin 26) : (nm i = "idempotent union") = (i = 0) := propext ((by decide +kernel : ∀ i : Fin 26, nm i = "idempotent union" ↔ i = 0) i)
@[simp] theorem nq1 (i : Fin 26) : (nm i = "absorbing union") = (i = 1) := propext ((by decide +kernel : ∀ i : Fin 26, nm i = "absorbing union" ↔ i = 1) i)
@[simp] theorem nq2 (i : Fin 26) : (nm i = "absorbing intersection") = (i = 2) := propext ((by decide +kernel : ∀ i : Fin 26, nm i = "absorbing intersection" ↔ i = 2) i)
@[simp] theorem nq3 (i : Fin 26) : (nm i = "intersection by difference") = (i = 3) := propext ((by decide +kernel : ∀ i : Fin 26, nm i = "intersection by difference" ↔ i = 3) i)
@[simp] theorem nq4 (i : Fin 26) : (nm i = "difference of union") = (i = 4) := propext ((by decide +kernel : ∀ i : Fin 26, nm i = "difference of union" ↔ i = 4) i)
@[simp] theorem nq5 (i : Fin 26) : (nm i = "union less part") = (i = 5) := propext ((by decide +kernel : ∀ i : Fin 26, nm i = "union less part" ↔ i = 5) i)
@[simp] theorem nq6 (i : Fin 26) : (nm i = "add and take") = (i = 6) := propext ((by decide +kernel : ∀ i : Fin 26, nm i = "add and take" ↔ i = 6) i)
@[simp] theorem nq7 (i : Fin 26) : (nm i = "intersection over union") = (i = 7) := propext ((by decide +kernel : ∀ i : Fin 26, nm i = "intersection over union" ↔ i = 7) i)
@[simp] theorem nq8 (i : Fin 26) : (nm i = "union over intersection") = (i = 8) := propext ((by decide +kernel : ∀ i : Fin 26, nm i = "union over intersection" ↔ i = 8) i)
@[simp] theorem nq9 (i : Fin 26) : (nm i = "filter or") = (i = 9) := propext ((by decide +kernel : ∀ i : Fin 26, nm i = "filter or" ↔ i = 9) i)
@[simp] theorem nq10 (i : Fin 26) : (nm i = "filter and") = (i = 10) := propext ((by decide +kernel : ∀ i : Fin 26, nm i = "filter and" ↔ i = 10) i)
@[simp] theorem nq11 (i : Fin 26) : (nm i = "filter not") = (i = 11) := propext ((by decide +kernel : ∀ i : Fin 26, nm i = "filter not" ↔ i = 11) i)
@[simp] theorem nq12 (i : Fin 26) : (nm i = "filter complete") = (i = 12) := propext ((by decide +kernel : ∀ i : Fin 26, nm i = "filter complete" ↔ i = 12) i)
@[simp] theorem nq13 (i : Fin 26) : (nm i = "projection of union") = (i = 13) := propext ((by decide +kernel : ∀ i : Fin 26, nm i = "projection of union" ↔ i = 13) i)
@[simp] theorem nq14 (i : Fin 26) : (nm i = "projection of intersection") = (i = 14) := propext ((by decide +kernel : ∀ i : Fin 26, nm i = "projection of intersection" ↔ i = 14) i)
@[simp] theorem nq15 (i : Fin 26) : (nm i = "self semijoin") = (i = 15) := propext ((by decide +kernel : ∀ i : Fin 26, nm i = "self semijoin" ↔ i = 15) i)
@[simp] theorem nq16 (i : Fin 26) : (nm i = "semijoin and antijoin") = (i = 16) := propext ((by decide +kernel : ∀ i : Fin 26, nm i = "semijoin and antijoin" ↔ i = 16) i)
@[simp] theorem nq17 (i : Fin 26) : (nm i = "not in") = (i = 17) := propext ((by decide +kernel : ∀ i : Fin 26, nm i = "not in" ↔ i = 17) i)
@[simp] theorem nq18 (i : Fin 26) : (nm i = "join as semijoin") = (i = 18) := propext ((by decide +kernel : ∀ i : Fin 26, nm i = "join as semijoin" ↔ i = 18) i)
@[simp] theorem nq19 (i : Fin 26) : (nm i = "join over union") = (i = 19) := propext ((by decide +kernel : ∀ i : Fin 26, nm i = "join over union" ↔ i = 19) i)
@[simp] theorem nq20 (i : Fin 26) : (nm i = "count of union") = (i = 20) := propext ((by decide +kernel : ∀ i : Fin 26, nm i = "count of union" ↔ i = 20) i)
@[simp] theorem nq21 (i : Fin 26) : (nm i = "inclusion and exclusion") = (i = 21) := propext ((by decide +kernel : ∀ i : Fin 26, nm i = "inclusion and exclusion" ↔ i = 21) i)
@[simp] theorem nq22 (i : Fin 26) : (nm i = "total of union") = (i = 22) := propext ((by decide +kernel : ∀ i : Fin 26, nm i = "total of union" ↔ i = 22) i)
@[simp] theorem nq23 (i : Fin 26) : (nm i = "total of parts") = (i = 23) := propext ((by decide +kernel : ∀ i : Fin 26, nm i = "total of parts" ↔ i = 23) i)
@[simp] theorem nq24 (i : Fin 26) : (nm i = "distinct union") = (i = 24) := propext ((by decide +kernel : ∀ i : Fin 26, nm i = "distinct union" ↔ i = 24) i)
@[simp] theorem nq25 (i : Fin 26) : (nm i = "distinct difference") = (i = 25) := propext ((by decide +kernel : ∀ i : Fin 26, nm i = "distinct difference" ↔ i = 25) i)

end K08

namespace K08
open PySem PySem.Spec PyProof.Rows L2 Qh

@[simp] theorem in4T (x a b c d : Str) : opCmp .isin (.str x) (.tup [.str a, .str b, .str c, .str d]) = some (decide (x = a) || (decide (x = b) || (decide (x = c) || decide (x = d)))) := by
  have := inS x [a, b, c, d]
  show opIn (.str x) (.tup ([a, b, c, d].map .str)) = _
  rw [this]; simp
@[simp] theorem in5T (x a b c d f : Str) : opCmp .isin (.str x) (.tup [.str a, .str b, .str c, .str d, .str f]) = some (decide (x = a) || (decide (x = b) || (decide (x = c) || (decide (x = d) || decide (x = f))))) := by
  have := inS x [a, b, c, d, f]
  show opIn (.str x) (.tup ([a, b, c, d, f].map .str)) = _
  rw [this]; simp
theorem fin26 {P : Fin 26 → Prop} (h : ∀ k : Nat, (hk : k < 26) → P ⟨k, hk⟩) (i : Fin 26) : P i := h i.val i.isLt

end K08

namespace K08
open PySem PySem.Spec PyProof.Rows L2 Qh

/-! ### which identities hold -/
def holdsB (S : Sm) (i : Fin 26) : Bool :=
  if (decide (i = 2) || (decide (i = 8) || (decide (i = 10) || (decide (i = 16) || decide (i = 19))))) = true then true
  else if (decide (i = 0) || (decide (i = 1) || (decide (i = 7) || (decide (i = 9) || (decide (i = 21) || decide (i = 24)))))) = true then S.set || !S.sum
  else if (decide (i = 11) || (decide (i = 12) || (decide (i = 15) || decide (i = 17)))) = true then !decide (S.unk = 1)
  else if i = 23 then S.zero && !decide (S.unk = 1)
  else if i = 22 then !S.set && (S.sum && S.zero)
  else if i = 20 then !S.set && S.sum
  else if (decide (i = 18) || decide (i = 14)) = true then S.set && decide (i = 18)
  else if i = 13 then S.set || S.sum
  else if i = 6 then !S.set && (S.sum && !S.kind)
  else if i = 3 then S.set || !S.kind
  else if i = 25 then S.set || S.kind
  else if i = 4 then S.set || (S.kind || S.sum)
  else S.set || (S.kind || !S.sum)
@[simp] theorem in6T (x a b c d f g : Str) : opCmp .isin (.str x) (.tup [.str a, .str b, .str c, .str d, .str f, .str g]) = some (decide (x = a) || (decide (x = b) || (decide (x = c) || (decide (x = d) || (decide (x = f) || decide (x = g)))))) := by
  have := inS x [a, b, c, d, f, g]
  show opIn (.str x) (.tup ([a, b, c, d, f, g].map .str)) = _
  rw [this]; simp
theorem gAL : G G_ALWAYS = some (.tup [.str "absorbing intersection", .str "union over intersection", .str "filter and", .str "semijoin and antijoin", .str "join over union"]) := by kernel_rfl
theorem gMX : G G_MAXIMUM = some (.tup [.str "idempotent union", .str "absorbing union", .str "intersection over union", .str "filter or", .str "inclusion and exclusion", .str "distinct union"]) := by kernel_rfl
theorem gKN : G G_KNOWN = some (.tup [.str "filter not", .str "filter complete", .str "self semijoin", .str "not in"]) := by kernel_rfl
@[simp] theorem cmp_zro (S : Sm) : (S.s4 = "zero") = (S.zero = true) := by unfold Sm.s4; cases S.zero <;> simp <;> decide +kernel
theorem a_holds_in (S : Sm) (i : Fin 26) : An 3 F_holds_in [S.d, .str (nm i)] (.bl (holdsB S i)) := by
  have key : ∀ p s, p = S.set → s = S.sum → An 2 F_counted_holds [.bl p, .bl s, .str S.s2, .str (nm i)] (.bl (if i = 6 then !p && (s && !S.kind) else if i = 3 then p || !S.kind else if i = 25 then p || S.kind else if i = 4 then p || (S.kind || s) else p || (S.kind || !s))) := by
    intro p s hp hs
    intro n hn
    obtain ⟨m, rfl⟩ : ∃ m, n = m + 1 := ⟨n - 1, by omega⟩
    refine run_ends (fn := f_counted_holds) rfl rfl ?_
    simp only [List.map_cons, List.map_nil] at *
    generalize runN G Pg m = R at *
    by_cases e6 : i = 6
    · cases p <;> cases s <;> cases hk : S.kind <;> simp (config := { implicitDefEqProofs := false }) [f_counted_holds, e6, hk, rd2, rd, rds, AV.apart, AV.slots, AV.sl, AV.isB, avOf, Qh.callEnd, putOuts, Qh.finish, outs, Sl.isOwn, ownR, big]
    · by_cases e3 : i = 3
      · cases p <;> cases s <;> cases hk : S.kind <;> simp (config := { implicitDefEqProofs := false }) [f_counted_holds, e3, hk, rd2, rd, rds, AV.apart, AV.slots, AV.sl, AV.isB, avOf, Qh.callEnd, putOuts, Qh.finish, outs, Sl.isOwn, ownR, big]
      · by_cases e25 : i = 25
        · cases p <;> cases s <;> cases hk : S.kind <;> simp (config := { implicitDefEqProofs := false }) [f_counted_holds, e25, hk, rd2, rd, rds, AV.apart, AV.slots, AV.sl, AV.isB, avOf, Qh.callEnd, putOuts, Qh.finish, outs, Sl.isOwn, ownR, big]
        · by_cases e4 : i = 4
          · cases p <;> cases s <;> cases hk : S.kind <;> simp (config := { implicitDefEqProofs := false }) [f_counted_holds, e4, hk, rd2, rd, rds, AV.apart, AV.slots, AV.sl, AV.isB, avOf, Qh.callEnd, putOuts, Qh.finish, outs, Sl.isOwn, ownR, big]
          · cases p <;> cases s <;> cases hk : S.kind <;> simp (config := { implicitDefEqProofs := false }) [f_counted_holds, e6, e3, e25, e4, hk, rd2, rd, rds, AV.apart, AV.slots, AV.sl, AV.isB, avOf, Qh.callEnd, putOuts, Qh.finish, outs, Sl.isOwn, ownR, big]
  intro n hn
  obtain ⟨m, rfl⟩ : ∃ m, n = m + 1 := ⟨n - 1, by omega⟩
  have h1 :=  key S.set S.sum rfl rfl m (by omega)
  refine run_ends (fn := f_holds_in) rfl rfl ?_
  unfold Ans at *
  simp only [List.map_cons, List.map_nil] at *
  generalize runN G Pg m = R at *
  unfold holdsB
  by_cases a1 : (decide (i = 2) || (decide (i = 8) || (decide (i = 10) || (decide (i = 16) || decide (i = 19))))) = true
  · simp (config := { implicitDefEqProofs := false }) [f_holds_in, Sm.d, gAL, a1, rd2, rd, rds, AV.apart, AV.slots, AV.sl, AV.isB, avOf, Qh.callEnd, putOuts, Qh.finish, outs, Sl.isOwn, ownR, big]
  · have a1' := Bool.eq_false_iff.mpr a1
    by_cases a2 : (decide (i = 0) || (decide (i = 1) || (decide (i = 7) || (decide (i = 9) || (decide (i = 21) || decide (i = 24)))))) = true
    · cases hs : S.set <;> cases hm : S.sum <;> simp (config := { implicitDefEqProofs := false }) [f_holds_in, Sm.d, gAL, gMX, a1', a2, hs, hm, rd2, rd, rds, AV.apart, AV.slots, AV.sl, AV.isB, avOf, Qh.callEnd, putOuts, Qh.finish, outs, Sl.isOwn, ownR, big]
    · have a2' := Bool.eq_false_iff.mpr a2
      by_cases a3 : (decide (i = 11) || (decide (i = 12) || (decide (i = 15) || decide (i = 17)))) = true
      · simp (config := { implicitDefEqProofs := false }) [f_holds_in, Sm.d, gAL, gMX, gKN, a1', a2', a3, rd2, rd, rds, AV.apart, AV.slots, AV.sl, AV.isB, avOf, Qh.callEnd, putOuts, Qh.finish, outs, Sl.isOwn, ownR, big]
      · have a3' := Bool.eq_false_iff.mpr a3
        by_cases e23 : i = 23
        · cases hz : S.zero <;> simp (config := { implicitDefEqProofs := false }) [f_holds_in, Sm.d, gAL, gMX, gKN, e23, hz, rd2, rd, rds, AV.apart, AV.slots, AV.sl, AV.isB, avOf, Qh.callEnd, putOuts, Qh.finish, outs, Sl.isOwn, ownR, big]
        · by_cases e22 : i = 22
          · cases hz : S.zero <;> cases hs : S.set <;> cases hm : S.sum <;> simp (config := { implicitDefEqProofs := false }) [f_holds_in, Sm.d, gAL, gMX, gKN, e22, hz, hs, hm, rd2, rd, rds, AV.apart, AV.slots, AV.sl, AV.isB, avOf, Qh.callEnd, putOuts, Qh.finish, outs, Sl.isOwn, ownR, big]
          · by_cases e20 : i = 20
            · cases hs : S.set <;> cases hm : S.sum <;> simp (config := { implicitDefEqProofs := false }) [f_holds_in, Sm.d, gAL, gMX, gKN, e20, hs, hm, rd2, rd, rds, AV.apart, AV.slots, AV.sl, AV.isB, avOf, Qh.callEnd, putOuts, Qh.finish, outs, Sl.isOwn, ownR, big]
            · by_cases a4 : (decide (i = 18) || decide (i = 14)) = true
              · cases hs : S.set <;> simp (config := { implicitDefEqProofs := false }) [f_holds_in, Sm.d, gAL, gMX, gKN, a1', a2', a3', e23, e22, e20, a4, hs, rd2, rd, rds, AV.apart, AV.slots, AV.sl, AV.isB, avOf, Qh.callEnd, putOuts, Qh.finish, outs, Sl.isOwn, ownR, big]
              · have a4' := Bool.eq_false_iff.mpr a4
                by_cases e13 : i = 13
                · cases hs : S.set <;> cases hm : S.sum <;> simp (config := { implicitDefEqProofs := false }) [f_holds_in, Sm.d, gAL, gMX, gKN, e13, hs, hm, rd2, rd, rds, AV.apart, AV.slots, AV.sl, AV.isB, avOf, Qh.callEnd, putOuts, Qh.finish, outs, Sl.isOwn, ownR, big]
                · simp (config := { implicitDefEqProofs := false }) [f_holds_in, Sm.d, gAL, gMX, gKN, a1', a2', a3', e23, e22, e20, a4', e13, h1, rd2, rd, rds, AV.apart, AV.slots, AV.sl, AV.isB, avOf, Qh.callEnd, putOuts, Qh.finish, outs, Sl.isOwn, ownR, big]
/-! ### the law's own table of what holds -/
def takeSs : Nat → Ss → Ss
  | 0, _ => .nil
  | _, .nil => .nil
  | k + 1, .cons s r => .cons s (takeSs k r)
def dropSs : Nat → Ss → Ss
  | 0, r => r
  | _, .nil => .nil
  | k + 1, .cons _ r => dropSs k r
theorem next_nil (r : SR) (R : Qh.Run) : r.next (evSs G R .nil) = r := by
  cases r <;> first | rfl | (simp only [SR.next, evSs])
theorem evSs_cut (R : Qh.Run) : ∀ (k : Nat) (s : Ss) (env : En), evSs G R s env = (evSs G R (takeSs k s) env).next (evSs G R (dropSs k s))
  | 0, s, env => by simp only [takeSs, dropSs, evSs, SR.next]
  | k + 1, .nil, env => by simp only [takeSs, dropSs, evSs, SR.next]
  | k + 1, .cons s r, env => by
    simp only [takeSs, dropSs, evSs]
    cases h : evS G R s env with
    | nxt e => exact evSs_cut R k r e
    | ret d e => rfl
    | exc x e => rfl
    | bad => rfl
def holdVals (S : Sm) : List D := (List.range 26).map fun k => .bl (holdsB S (Fin.ofNat 26 k))
theorem hinit (S : Sm) (w : Str) (m : Nat) : evSs G (runN G Pg (m + 1)) (takeSs 10 f__law_holds.body) [.dat S.d, .dat (.str w), .non, .non, .non, .non, .non, .non] = .nxt [.dat S.d, .dat (.str w), .own (.dct (nms.map .str) (holdVals S)), .dat (.str "not in"), .dat (.bl S.set), .dat (.bl (!S.sum)), .dat (.bl S.kind), .dat (.bl (!decide (S.unk = 1)))] := by
  obtain ⟨s, x, y, c, d⟩ := S
  rcases fin3 c with rfl | rfl | rfl <;> cases s <;> cases x <;> cases y <;> cases d <;> kernel_rfl
theorem hfind (S : Sm) (i : Fin 26) : opIx (.dct (nms.map .str) (holdVals S)) (.str (nm i)) = some (.bl (holdsB S i)) := by
  revert i
  refine fin26 fun k hk => ?_
  iterate 26 (rcases k with _ | k; · kernel_rfl)
  omega
theorem a_lholds (S : Sm) (i : Fin 26) : An 2 F__law_holds [S.d, .str (nm i)] (.bl (holdsB S i)) := by
  intro n hn
  obtain ⟨m, rfl⟩ : ∃ m, n = m + 2 := ⟨n - 2, by omega⟩
  refine run_ends (fn := f__law_holds) rfl rfl ?_
  have h1 := hinit S (nm i) m
  have h2 := hfind S i
  rw [evSs_cut _ 10]
  have e : ([S.d, .str (nm i)].map Sl.dat ++ List.replicate (f__law_holds.n - f__law_holds.ps) .non) = [.dat S.d, .dat (.str (nm i)), .non, .non, .non, .non, .non, .non] := rfl
  rw [e, h1]
  have e3 : dropSs 10 f__law_holds.body = .cons (.ret (.ix (.bor 2) (.var 1))) .nil := rfl
  rw [e3]
  generalize runN G Pg (m + 1) = R at *
  generalize holdVals S = hv at *
  generalize nms.map D.str = nd at *
  simp (config := { implicitDefEqProofs := false }) [h2, rd2, rd, rds, AV.apart, AV.slots, AV.sl, AV.isB, avOf, Qh.callEnd, putOuts, Qh.finish, outs, Sl.isOwn, ownR, big]

end K08

namespace K08
open PySem PySem.Spec PyProof.Rows L2 Qh

/-! ### all semantics, all names -/
def every : List Sm := [false, true].flatMap fun s => [false, true].flatMap fun x => [false, true].flatMap fun y => ([0, 1, 2] : List (Fin 3)).flatMap fun c => [false, true].map fun d => ⟨s, x, y, c, d⟩
def ids : List (Fin 26) := [0, 1, 2, 3, 4, 5, 6, 7, 8, 9, 10, 11, 12, 13, 14, 15, 16, 17, 18, 19, 20, 21, 22, 23, 24, 25]
def nD (i : Fin 26) : D := .str (nm i)
theorem every_len : every.length = 48 := by decide +kernel
theorem a_all : An 3 F_all_semantics [] (.tup (every.map Sm.d)) := by
  intro n hn
  obtain ⟨m, rfl⟩ : ∃ m, n = m + 3 := ⟨n - 3, by omega⟩
  unfold Ans; kernel_rfl
theorem a_levery : An 2 F__law_every [] (.lst (every.map Sm.d)) := by
  intro n hn
  obtain ⟨m, rfl⟩ : ∃ m, n = m + 2 := ⟨n - 2, by omega⟩
  unfold Ans; kernel_rfl
theorem a_lnamesI : An 1 F__law_names [] (.lst (ids.map nD)) := by
  intro n hn
  obtain ⟨m, rfl⟩ : ∃ m, n = m + 1 := ⟨n - 1, by omega⟩
  unfold Ans; kernel_rfl
theorem gNM : G G_NAMES = some (.tup (ids.map nD)) := by kernel_rfl
theorem in_NAMES (i : Fin 26) : opCmp .isin (nD i) (.tup (ids.map nD)) = some true := by
  revert i
  refine fin26 fun k hk => ?_
  iterate 26 (rcases k with _ | k; · kernel_rfl)
  omega
theorem a_need_identity (i : Fin 26) : An 1 F_need_identity [nD i] .non := by
  intro n hn
  obtain ⟨m, rfl⟩ : ∃ m, n = m + 1 := ⟨n - 1, by omega⟩
  unfold Ans
  revert i
  refine fin26 fun k hk => ?_
  iterate 26 (rcases k with _ | k; · kernel_rfl)
  omega
theorem nm_inj : ∀ i j : Fin 26, nm i = nm j → i = j := by decide +kernel
/-! ### profiles -/
theorem allStrs_map' : ∀ l : List Str, allStrs (l.map .str) = some l
  | [] => rfl
  | x :: l => by
    show (allStrs (l.map .str)).map _ = _
    rw [allStrs_map' l]
    rfl
def prof (S : Sm) : List Str := (ids.filter (holdsB S)).map nm
theorem ids_big : ids.length < big := by decide
theorem every_big : every.length < big := by rw [every_len]; decide
theorem a_profile_of (S : Sm) : An 4 F_profile_of [S.d] (.tup ((prof S).map .str)) := by
  intro n hn
  obtain ⟨m, rfl⟩ : ∃ m, n = m + 1 := ⟨n - 1, by omega⟩
  have h1 := fun (i : Fin 26)  =>  a_holds_in S i m (by omega)
  refine run_ends (fn := f_profile_of) rfl rfl ?_
  unfold Ans at *
  simp only [List.map_cons, List.map_nil] at *
  generalize runN G Pg m = R at *
  have hlc : evE G R (.lc [1] (.seq (.glo G_NAMES)) (.nm 1) (.some (.call F_holds_in (.val (.var 0) (.val (.var 1) .nil)))) (.var 1)) [.dat S.d, .non] = .ok (.lst ((ids.filter (holdsB S)).map nD)) [.dat S.d, .non] := by
    refine lc_fm (G := G) (run := R) (v := 1) (env := [.dat S.d, .non]) ids nD nD (holdsB S) (by simp (config := { implicitDefEqProofs := false }) [gNM, rd2, rd, rds, AV.apart, AV.slots, AV.sl, AV.isB, avOf, Qh.callEnd, putOuts, Qh.finish, outs, Sl.isOwn, ownR, big]) rfl (by simp) ids_big (fun i hi => ?_) fun i hi _ => ?_
    · have h2 := h1 i
      simp (config := { implicitDefEqProofs := false }) [nD, h2, rd2, rd, rds, AV.apart, AV.slots, AV.sl, AV.isB, avOf, Qh.callEnd, putOuts, Qh.finish, outs, Sl.isOwn, ownR, big]
    · simp (config := { implicitDefEqProofs := false }) [rd2, rd, rds, AV.apart, AV.slots, AV.sl, AV.isB, avOf, Qh.callEnd, putOuts, Qh.finish, outs, Sl.isOwn, ownR, big]
  have e : (prof S).map D.str = (ids.filter (holdsB S)).map nD := by unfold prof; rw [List.map_map]; rfl
  rw [e]
  simp (config := { implicitDefEqProofs := false }) [f_profile_of, hlc, rd2, rd, rds, AV.apart, AV.slots, AV.sl, AV.isB, avOf, Qh.callEnd, putOuts, Qh.finish, outs, Sl.isOwn, ownR, big]
theorem a_lprofile (S : Sm) : An 3 F__law_profile [S.d] (.tup ((prof S).map .str)) := by
  intro n hn
  obtain ⟨m, rfl⟩ : ∃ m, n = m + 1 := ⟨n - 1, by omega⟩
  have h1 := fun (i : Fin 26)  =>  a_lholds S i m (by omega)
  have h3 :=  a_lnamesI m (by omega)
  refine run_ends (fn := f__law_profile) rfl rfl ?_
  unfold Ans at *
  simp only [List.map_cons, List.map_nil] at *
  generalize runN G Pg m = R at *
  have hlc : evE G R (.lc [1] (.seq (.call F__law_names .nil)) (.nm 1) (.some (.call F__law_holds (.val (.var 0) (.val (.var 1) .nil)))) (.var 1)) [.dat S.d, .non] = .ok (.lst ((ids.filter (holdsB S)).map nD)) [.dat S.d, .non] := by
    refine lc_fm (G := G) (run := R) (v := 1) (env := [.dat S.d, .non]) ids nD nD (holdsB S) (by simp (config := { implicitDefEqProofs := false }) [h3, rd2, rd, rds, AV.apart, AV.slots, AV.sl, AV.isB, avOf, Qh.callEnd, putOuts, Qh.finish, outs, Sl.isOwn, ownR, big]) rfl (by simp) ids_big (fun i hi => ?_) fun i hi _ => ?_
    · have h2 := h1 i
      simp (config := { implicitDefEqProofs := false }) [nD, h2, rd2, rd, rds, AV.apart, AV.slots, AV.sl, AV.isB, avOf, Qh.callEnd, putOuts, Qh.finish, outs, Sl.isOwn, ownR, big]
    · simp (config := { implicitDefEqProofs := false }) [rd2, rd, rds, AV.apart, AV.slots, AV.sl, AV.isB, avOf, Qh.callEnd, putOuts, Qh.finish, outs, Sl.isOwn, ownR, big]
  have e : (prof S).map D.str = (ids.filter (holdsB S)).map nD := by unfold prof; rw [List.map_map]; rfl
  rw [e]
  simp (config := { implicitDefEqProofs := false }) [f__law_profile, hlc, rd2, rd, rds, AV.apart, AV.slots, AV.sl, AV.isB, avOf, Qh.callEnd, putOuts, Qh.finish, outs, Sl.isOwn, ownR, big]
theorem a_profile (S : Sm) : An 6 F_profile [S.d] (.tup ((prof S).map .str)) := by
  intro n hn
  obtain ⟨m, rfl⟩ : ∃ m, n = m + 1 := ⟨n - 1, by omega⟩
  have h1 :=  a_need_semantics S m (by omega)
  have h2 :=  a_profile_of S m (by omega)
  refine run_ends (fn := f_profile) rfl rfl ?_
  unfold Ans at *
  simp only [List.map_cons, List.map_nil] at *
  generalize runN G Pg m = R at *
  simp (config := { implicitDefEqProofs := false }) [f_profile, h1, h2, rd2, rd, rds, AV.apart, AV.slots, AV.sl, AV.isB, avOf, Qh.callEnd, putOuts, Qh.finish, outs, Sl.isOwn, ownR, big]
/-- all profiles, ascending, each once -/
def profs : D := .tup ((ssK (every.map prof)).map fun k => .tup (k.map .str))
theorem keys_map {α : Type} (f : α → List Str) : ∀ l : List α, ktxsD (l.map fun x => .tup ((f x).map .str)) = some (l.map f)
  | [] => rfl
  | x :: l => by
    have h1 : ktxD (.tup ((f x).map .str)) = some (f x) := allStrs_map' (f x)
    rw [List.map_cons]
    unfold ktxsD
    rw [h1, keys_map f l]
    rfl
theorem set_profs : opSet true (.lst (every.map fun S => .tup ((prof S).map .str))) = some (.lst ((ssK (every.map prof)).map fun k => .tup (k.map .str))) := by
  show ((ktxsD (every.map fun S => .tup ((prof S).map .str))).bind fun ks => if decide (ks.length < 64) && ks.all (fun k => !k.isEmpty) then some (D.lst ((ssK ks).map fun k => .tup (k.map .str))) else none) = _
  rw [keys_map]
  have h : (decide ((every.map prof).length < 64) && (every.map prof).all (fun k => !k.isEmpty)) = true := by decide +kernel
  show (if (decide ((every.map prof).length < 64) && (every.map prof).all (fun k => !k.isEmpty)) = true then some (D.lst ((ssK (every.map prof)).map fun k => .tup (k.map .str))) else none) = _
  rw [if_pos h]
theorem a_profiles : An 6 F_profiles [] profs := by
  have hset := set_profs
  intro n hn
  obtain ⟨m, rfl⟩ : ∃ m, n = m + 1 := ⟨n - 1, by omega⟩
  have h1 :=  a_all m (by omega)
  have h2 := fun (S : Sm)  =>  a_profile_of S m (by omega)
  refine run_ends (fn := f_profiles) rfl rfl ?_
  unfold Ans at *
  simp only [List.map_cons, List.map_nil] at *
  generalize runN G Pg m = R at *
  have hlc : evE G R (.lc [0] (.seq (.call F_all_semantics .nil)) (.nm 0) .none (.call F_profile_of (.val (.var 0) .nil))) [.non] = .ok (.lst (every.map fun S => .tup ((prof S).map .str))) [.non] := by
    refine lc_map (G := G) (run := R) (v := 0) (env := [.non]) every Sm.d _ (by simp (config := { implicitDefEqProofs := false }) [h1, rd2, rd, rds, AV.apart, AV.slots, AV.sl, AV.isB, avOf, Qh.callEnd, putOuts, Qh.finish, outs, Sl.isOwn, ownR, big]) rfl (by simp) every_big fun S hS => ?_
    have h3 := h2 S
    simp (config := { implicitDefEqProofs := false }) [h3, rd2, rd, rds, AV.apart, AV.slots, AV.sl, AV.isB, avOf, Qh.callEnd, putOuts, Qh.finish, outs, Sl.isOwn, ownR, big]
  unfold profs
  generalize every.map (fun S => D.tup ((prof S).map .str)) = X at *
  generalize (ssK (every.map prof)).map (fun k => D.tup (k.map .str)) = Y at *
  simp (config := { implicitDefEqProofs := false }) [f_profiles, hlc, hset, rd2, rd, rds, AV.apart, AV.slots, AV.sl, AV.isB, avOf, Qh.callEnd, putOuts, Qh.finish, outs, Sl.isOwn, ownR, big]
/-! ### what parts identities -/
def optD : Option Sm → D
  | none => .non
  | some S => S.d
def prt (i j : Fin 26) (S : Sm) : Bool := holdsB S i && !holdsB S j
theorem a_parted (i j : Fin 26) : An 5 F_parted [nD i, nD j] (optD (every.find? (prt i j))) := by
  intro n hn
  obtain ⟨m, rfl⟩ : ∃ m, n = m + 1 := ⟨n - 1, by omega⟩
  have h1 :=  a_all m (by omega)
  have h2 := fun (S : Sm)  =>  a_holds_in S i m (by omega)
  have h3 := fun (S : Sm)  =>  a_holds_in S j m (by omega)
  refine run_ends (fn := f_parted) rfl rfl ?_
  unfold Ans at *
  simp only [List.map_cons, List.map_nil] at *
  generalize runN G Pg m = R at *
  have key : ∀ (l : List Sm) (s : Sl), s.isOwn = false → (∃ S, l.find? (prt i j) = some S ∧ forS (asgT (.nm 2)) (evSs G R (.cons (.ite (.and (.call F_holds_in (.val (.var 2) (.val (.var 0) .nil))) (.not (.call F_holds_in (.val (.var 2) (.val (.var 1) .nil))))) (.cons (.ret (.var 2)) .nil) .nil) .nil)) (l.map Sm.d) [.dat (nD i), .dat (nD j), s] = .ret S.d [.dat (nD i), .dat (nD j), .dat S.d]) ∨ (l.find? (prt i j) = none ∧ ∃ s', forS (asgT (.nm 2)) (evSs G R (.cons (.ite (.and (.call F_holds_in (.val (.var 2) (.val (.var 0) .nil))) (.not (.call F_holds_in (.val (.var 2) (.val (.var 1) .nil))))) (.cons (.ret (.var 2)) .nil) .nil) .nil)) (l.map Sm.d) [.dat (nD i), .dat (nD j), s] = .nxt [.dat (nD i), .dat (nD j), s']) := by
    intro l
    induction l with
    | nil => exact fun s hs => .inr ⟨rfl, s, rfl⟩
    | cons S l ih =>
      intro s hs
      have e2 := h2 S
      have e3 := h3 S
      cases hp : prt i j S with
      | true =>
        refine .inl ⟨S, by rw [List.find?_cons, hp], ?_⟩
        unfold prt at hp
        rw [Bool.and_eq_true, Bool.not_eq_true'] at hp
        rw [hp.1] at e2
        rw [hp.2] at e3
        rw [List.map_cons]
        simp (config := { implicitDefEqProofs := false }) [forS, asgSl_j hs, nD, e2, e3, rd2, rd, rds, AV.apart, AV.slots, AV.sl, AV.isB, avOf, Qh.callEnd, putOuts, Qh.finish, outs, Sl.isOwn, ownR, big]
      | false =>
        have ih := ih (.dat S.d) rfl
        have step : ∀ X, forS (asgT (.nm 2)) (evSs G R (.cons (.ite (.and (.call F_holds_in (.val (.var 2) (.val (.var 0) .nil))) (.not (.call F_holds_in (.val (.var 2) (.val (.var 1) .nil))))) (.cons (.ret (.var 2)) .nil) .nil) .nil)) (l.map Sm.d) [.dat (nD i), .dat (nD j), .dat S.d] = X → forS (asgT (.nm 2)) (evSs G R (.cons (.ite (.and (.call F_holds_in (.val (.var 2) (.val (.var 0) .nil))) (.not (.call F_holds_in (.val (.var 2) (.val (.var 1) .nil))))) (.cons (.ret (.var 2)) .nil) .nil) .nil)) ((S :: l).map Sm.d) [.dat (nD i), .dat (nD j), s] = X := by
          intro X hX
          rw [← hX, List.map_cons]
          unfold prt at hp
          conv => lhs; unfold forS
          cases hi : holdsB S i with
          | false =>
            rw [hi] at e2
            simp (config := { implicitDefEqProofs := false }) [asgSl_j hs, nD, e2, rd2, rd, rds, AV.apart, AV.slots, AV.sl, AV.isB, avOf, Qh.callEnd, putOuts, Qh.finish, outs, Sl.isOwn, ownR, big]
          | true =>
            rw [hi] at e2 hp
            rw [Bool.true_and, Bool.not_eq_false'] at hp
            rw [hp] at e3
            simp (config := { implicitDefEqProofs := false }) [asgSl_j hs, nD, e2, e3, rd2, rd, rds, AV.apart, AV.slots, AV.sl, AV.isB, avOf, Qh.callEnd, putOuts, Qh.finish, outs, Sl.isOwn, ownR, big]
        rw [List.find?_cons, hp]
        rcases ih with ⟨S', q1, q2⟩ | ⟨q1, s', q2⟩
        · exact .inl ⟨S', q1, step _ q2⟩
        · exact .inr ⟨q1, s', step _ q2⟩
  rcases key every .non rfl with ⟨S, q1, q2⟩ | ⟨q1, s', q2⟩
  · rw [q1]
    have hf : evS G R (.for (.seq (.call F_all_semantics .nil)) (.nm 2) (.cons (.ite (.and (.call F_holds_in (.val (.var 2) (.val (.var 0) .nil))) (.not (.call F_holds_in (.val (.var 2) (.val (.var 1) .nil))))) (.cons (.ret (.var 2)) .nil) .nil) .nil)) [.dat (nD i), .dat (nD j), .non] = .ret S.d [.dat (nD i), .dat (nD j), .dat S.d] := s_forR (by simp (config := { implicitDefEqProofs := false }) [h1, rd2, rd, rds, AV.apart, AV.slots, AV.sl, AV.isB, avOf, Qh.callEnd, putOuts, Qh.finish, outs, Sl.isOwn, ownR, big]) q2
    simp (config := { implicitDefEqProofs := false }) [f_parted, hf, optD, rd2, rd, rds, AV.apart, AV.slots, AV.sl, AV.isB, avOf, Qh.callEnd, putOuts, Qh.finish, outs, Sl.isOwn, ownR, big]
  · rw [q1]
    have hf : evS G R (.for (.seq (.call F_all_semantics .nil)) (.nm 2) (.cons (.ite (.and (.call F_holds_in (.val (.var 2) (.val (.var 0) .nil))) (.not (.call F_holds_in (.val (.var 2) (.val (.var 1) .nil))))) (.cons (.ret (.var 2)) .nil) .nil) .nil)) [.dat (nD i), .dat (nD j), .non] = .nxt [.dat (nD i), .dat (nD j), s'] := s_for (by simp (config := { implicitDefEqProofs := false }) [h1, rd2, rd, rds, AV.apart, AV.slots, AV.sl, AV.isB, avOf, Qh.callEnd, putOuts, Qh.finish, outs, Sl.isOwn, ownR, big]) q2
    simp (config := { implicitDefEqProofs := false }) [f_parted, hf, optD, rd2, rd, rds, AV.apart, AV.slots, AV.sl, AV.isB, avOf, Qh.callEnd, putOuts, Qh.finish, outs, Sl.isOwn, ownR, big]
theorem is_opt (o : Option Sm) : opCmp .is (optD o) .non = some o.isNone := by cases o <;> rfl
theorem a_implies (i j : Fin 26) : An 6 F_implies [nD i, nD j] (.bl (every.find? (prt i j)).isNone) := by
  have h4 := is_opt (every.find? (prt i j))
  intro n hn
  obtain ⟨m, rfl⟩ : ∃ m, n = m + 1 := ⟨n - 1, by omega⟩
  have h1 :=  a_need_identity i m (by omega)
  have h2 :=  a_need_identity j m (by omega)
  have h3 :=  a_parted i j m (by omega)
  refine run_ends (fn := f_implies) rfl rfl ?_
  unfold Ans at *
  simp only [List.map_cons, List.map_nil] at *
  generalize runN G Pg m = R at *
  simp (config := { implicitDefEqProofs := false }) [f_implies, h1, h2, h3, h4, rd2, rd, rds, AV.apart, AV.slots, AV.sl, AV.isB, avOf, Qh.callEnd, putOuts, Qh.finish, outs, Sl.isOwn, ownR, big]
theorem a_parting (i j : Fin 26) : An 6 F_parting [nD i, nD j] (optD (every.find? (prt i j))) := by
  intro n hn
  obtain ⟨m, rfl⟩ : ∃ m, n = m + 1 := ⟨n - 1, by omega⟩
  have h1 :=  a_need_identity i m (by omega)
  have h2 :=  a_need_identity j m (by omega)
  have h3 :=  a_parted i j m (by omega)
  refine run_ends (fn := f_parting) rfl rfl ?_
  unfold Ans at *
  simp only [List.map_cons, List.map_nil] at *
  generalize runN G Pg m = R at *
  simp (config := { implicitDefEqProofs := false }) [f_parting, h1, h2, h3, rd2, rd, rds, AV.apart, AV.slots, AV.sl, AV.isB, avOf, Qh.callEnd, putOuts, Qh.finish, outs, Sl.isOwn, ownR, big]
/-! ### the semantics under which some hold -/
theorem dxS_nodup : ∀ {l : List Str}, l.Nodup → dxS l = l
  | [], _ => rfl
  | x :: l, h => by
    obtain ⟨h1, h2⟩ := List.nodup_cons.mp h
    unfold dxS
    rw [if_neg h1, dxS_nodup h2]
theorem set_names (W : List (Fin 26)) (hn : W.Nodup) (hl : W.length ≤ 26) : opSet false (.tup (W.map nD)) = some (.int W.length) := by
  have e : W.map nD = (W.map nm).map D.str := by rw [List.map_map]; rfl
  show ((allStrs (W.map nD)).bind fun xs => if xs.length ≤ 1000 then some (D.int (dxS xs).length) else none) = _
  rw [e, allStrs_map']
  show (if (W.map nm).length ≤ 1000 then some (D.int (dxS (W.map nm)).length) else none) = _
  rw [if_pos (by rw [List.length_map]; omega), dxS_nodup, List.length_map]
  rw [List.nodup_iff_pairwise_ne, List.pairwise_map]
  exact (List.nodup_iff_pairwise_ne.mp hn).imp fun h e => h (nm_inj _ _ e)
theorem a_semantics_with (W : List (Fin 26)) (hn : W.Nodup) (hl : W.length ≤ 26) : An 5 F_semantics_with [.tup (W.map nD)] (.tup ((every.filter fun S => W.all (holdsB S)).map Sm.d)) := by
  have hset := set_names W hn hl
  have hb : W.length < big := Nat.lt_of_le_of_lt hl (by decide)
  have hall0 := all_map W fun _ => true
  have hW : (W.all fun _ => true) = true := by simp
  rw [hW] at hall0
  have hne : opCmp .ne (.int (W.length : Int)) (.int (W.length : Int)) = some false := by simp
  intro n hn
  obtain ⟨m, rfl⟩ : ∃ m, n = m + 1 := ⟨n - 1, by omega⟩
  have h1 :=  a_all m (by omega)
  have h2 := fun (S : Sm) (i : Fin 26)  =>  a_holds_in S i m (by omega)
  refine run_ends (fn := f_semantics_with) rfl rfl ?_
  unfold Ans at *
  simp only [List.map_cons, List.map_nil] at *
  generalize runN G Pg m = R at *
  have l0 : evE G R (.lc [1] (.seq (.var 0)) (.nm 1) .none (.and (.isi (.var 1) [.str]) (.cmp .isin (.var 1) (.glo G_NAMES)))) [.dat (.tup (W.map nD)), .non, .non] = .ok (.lst (W.map fun _ => .bl true)) [.dat (.tup (W.map nD)), .non, .non] := by
    refine lc_map (G := G) (run := R) (v := 1) (env := [.dat (.tup (W.map nD)), .non, .non]) W nD _ (by simp (config := { implicitDefEqProofs := false }) [rd2, rd, rds, AV.apart, AV.slots, AV.sl, AV.isB, avOf, Qh.callEnd, putOuts, Qh.finish, outs, Sl.isOwn, ownR, big]) rfl (by simp) hb fun i hi => ?_
    have h3 := in_NAMES i
    have h4 : isiOk (nD i) = true := rfl
    have h5 : tyOf .str (nD i) = true := rfl
    simp (config := { implicitDefEqProofs := false }) [gNM, h3, h4, h5, rd2, rd, rds, AV.apart, AV.slots, AV.sl, AV.isB, avOf, Qh.callEnd, putOuts, Qh.finish, outs, Sl.isOwn, ownR, big]
  have hin : ∀ (S : Sm), evE G R (.lc [2] (.seq (.var 0)) (.nm 2) .none (.call F_holds_in (.val (.var 1) (.val (.var 2) .nil)))) [.dat (.tup (W.map nD)), .dat S.d, .non] = .ok (.lst (W.map fun i => .bl (holdsB S i))) [.dat (.tup (W.map nD)), .dat S.d, .non] := by
    intro S
    refine lc_map (G := G) (run := R) (v := 2) (env := [.dat (.tup (W.map nD)), .dat S.d, .non]) W nD _ (by simp (config := { implicitDefEqProofs := false }) [rd2, rd, rds, AV.apart, AV.slots, AV.sl, AV.isB, avOf, Qh.callEnd, putOuts, Qh.finish, outs, Sl.isOwn, ownR, big]) rfl (by simp) hb fun i hi => ?_
    have h3 := h2 S i
    simp (config := { implicitDefEqProofs := false }) [nD, h3, rd2, rd, rds, AV.apart, AV.slots, AV.sl, AV.isB, avOf, Qh.callEnd, putOuts, Qh.finish, outs, Sl.isOwn, ownR, big]
  have l1 : evE G R (.lc [1] (.seq (.call F_all_semantics .nil)) (.nm 1) (.some (.bi .all (.cons (.lc [2] (.seq (.var 0)) (.nm 2) .none (.call F_holds_in (.val (.var 1) (.val (.var 2) .nil)))) .nil))) (.var 1)) [.dat (.tup (W.map nD)), .non, .non] = .ok (.lst ((every.filter fun S => W.all (holdsB S)).map Sm.d)) [.dat (.tup (W.map nD)), .non, .non] := by
    refine lc_fm (G := G) (run := R) (v := 1) (env := [.dat (.tup (W.map nD)), .non, .non]) every Sm.d Sm.d (fun S => W.all (holdsB S)) (by simp (config := { implicitDefEqProofs := false }) [h1, rd2, rd, rds, AV.apart, AV.slots, AV.sl, AV.isB, avOf, Qh.callEnd, putOuts, Qh.finish, outs, Sl.isOwn, ownR, big]) rfl (by simp) every_big (fun S hS => ?_) fun S hS _ => ?_
    · have h3 := hin S
      have h4 := all_map W (holdsB S)
      simp only [List.set_cons_succ, List.set_cons_zero]
      rw [e_bi]
      simp (config := { implicitDefEqProofs := false }) [h3, h4, rd2, rd, rds, AV.apart, AV.slots, AV.sl, AV.isB, avOf, Qh.callEnd, putOuts, Qh.finish, outs, Sl.isOwn, ownR, big]
    · simp (config := { implicitDefEqProofs := false }) [rd2, rd, rds, AV.apart, AV.slots, AV.sl, AV.isB, avOf, Qh.callEnd, putOuts, Qh.finish, outs, Sl.isOwn, ownR, big]
  have hWD : (W.map nD).length = W.length := List.length_map ..
  generalize W.map nD = WD at *
  simp (config := { implicitDefEqProofs := false }) [f_semantics_with, l0, l1, hall0, hset, hWD, tyOf, rd2, rd, rds, AV.apart, AV.slots, AV.sl, AV.isB, avOf, Qh.callEnd, putOuts, Qh.finish, outs, Sl.isOwn, ownR, big]

end K08

namespace K08
open PySem PySem.Spec PyProof.Rows L2 Qh

/-! ### the law -/
theorem al_str (s : Str) : An 1 F__law_alike [.str s, .str s] (.bl true) := by
  intro n hn
  obtain ⟨m, rfl⟩ : ∃ m, n = m + 1 := ⟨n - 1, by omega⟩
  refine run_ends (fn := f__law_alike) rfl rfl ?_
  simp only [List.map_cons, List.map_nil] at *
  generalize runN G Pg m = R at *
  have h : opCmp .is (.str s) .non = some false := rfl
  simp (config := { implicitDefEqProofs := false }) [f__law_alike, h, tyOf, rd2, rd, rds, AV.apart, AV.slots, AV.sl, AV.isB, avOf, Qh.callEnd, putOuts, Qh.finish, outs, Sl.isOwn, ownR, big]
theorem al_bl (x : Bool) : An 1 F__law_alike [.bl x, .bl x] (.bl true) := by
  intro n hn
  obtain ⟨m, rfl⟩ : ∃ m, n = m + 1 := ⟨n - 1, by omega⟩
  refine run_ends (fn := f__law_alike) rfl rfl ?_
  simp only [List.map_cons, List.map_nil] at *
  generalize runN G Pg m = R at *
  have h : opCmp .is (.bl x) .non = some false := rfl
  simp (config := { implicitDefEqProofs := false }) [f__law_alike, h, tyOf, rd2, rd, rds, AV.apart, AV.slots, AV.sl, AV.isB, avOf, Qh.callEnd, putOuts, Qh.finish, outs, Sl.isOwn, ownR, big]
theorem al_strs (l : List Str) (hl : l.length ≤ 30000) : An 2 F__law_alike [.tup (l.map .str), .tup (l.map .str)] (.bl true) := al_tup 1 _ (by rw [List.length_map]; exact hl) fun x hx => by
  obtain ⟨s, _, rfl⟩ := List.mem_map.mp hx
  exact al_str s
theorem al_sm (S : Sm) : An 2 F__law_alike [S.d, S.d] (.bl true) := al_strs [S.s0, S.s1, S.s2, S.s3, S.s4] (by simp)
theorem al_sms (l : List Sm) (hl : l.length ≤ 30000) : An 3 F__law_alike [.tup (l.map Sm.d), .tup (l.map Sm.d)] (.bl true) := al_tup 2 _ (by rw [List.length_map]; exact hl) fun x hx => by
  obtain ⟨S, _, rfl⟩ := List.mem_map.mp hx
  exact al_sm S
theorem al_opt (o : Option Sm) : An 2 F__law_alike [optD o, optD o] (.bl true) := by
  cases o with
  | none => exact fun n hn => al_non n (by omega)
  | some S => exact al_sm S
theorem prof_len (S : Sm) : (prof S).length ≤ 26 := by
  unfold prof
  rw [List.length_map]
  exact List.length_filter_le _ _
theorem al_profs : An 3 F__law_alike [profs, profs] (.bl true) := al_tup 2 _ (by decide +kernel) fun x hx => by
  obtain ⟨k, hk, rfl⟩ := List.mem_map.mp hx
  have h : k ∈ every.map prof := mem_ddK.mp ((isort_mem (le := leK)).mp hk)
  obtain ⟨S, _, rfl⟩ := List.mem_map.mp h
  exact al_strs _ (by have := prof_len S; omega)
/-- the names picked by draws -/
def envW (ns : List Int) (l : List D) (s : Nat → Sl) : En := [.dat (.scr ns), .own (.lst l), s 2, s 3, s 4, s 5, s 6, s 7, s 8, s 9, s 10, .non]
theorem law_wanted (R : Qh.Run) (hd : ∀ l, Rw l → ∃ (x : Int) (l' : List D), Rw l' ∧ R F__law_taken (.own (.lst l) :: [.dat (.int 6)]) = .ok (.int x) (.own (.lst l') :: [.dat (.int 6)])) (hnames : R F__law_names [] = .ok (.lst (ids.map nD)) []) (ns : List Int) (s : Nat → Sl) (l : List D) (hl : Rw l) :
    ∃ (l' : List D) (W : List (Fin 26)), Rw l' ∧ W.Sublist ids ∧ evE G R (.lc [11] (.seq (.call F__law_names .nil)) (.nm 11) (.some (.cmp .eq (.call F__law_taken (.io 1 (.val (.cst (.int 6)) .nil))) (.cst (.int 0)))) (.var 11)) (envW ns l s) = .ok (.lst (W.map nD)) (envW ns l' s) := by
  have key : ∀ (is : List (Fin 26)) (acc : List D) (l : List D), Rw l → acc.length + is.length < 1000 → ∃ (l' : List D) (W : List (Fin 26)), Rw l' ∧ W.Sublist is ∧
      lcLoop (lcBody [11] (asgT (.nm 11)) (evT G R (.some (.cmp .eq (.call F__law_taken (.io 1 (.val (.cst (.int 6)) .nil))) (.cst (.int 0))))) (evE G R (.var 11))) (is.map nD) acc (envW ns l s) = .ok (acc ++ W.map nD) (envW ns l' s) := by
    intro is
    induction is with
    | nil =>
      intro acc l hl ha
      refine ⟨l, [], hl, List.Sublist.refl _, ?_⟩
      rw [List.map_nil]
      unfold lcLoop
      rw [if_pos (by unfold big; simp only [List.length_nil] at ha; omega)]
      simp
    | cons i is ih =>
      intro acc l hl ha
      simp only [List.length_cons] at ha
      obtain ⟨x, l1, hl1, r1⟩ := hd l hl
      have hb : acc.length < big := by unfold big; omega
      by_cases hx : x = 0
      · subst hx
        obtain ⟨l', W, hl', hW, he⟩ := ih (acc ++ [nD i]) l1 hl1 (by rw [List.length_append]; simp only [List.length_singleton]; omega)
        refine ⟨l', i :: W, hl', hW.cons₂ i, ?_⟩
        rw [List.map_cons]
        unfold lcLoop
        rw [if_pos hb]
        have hbody : lcBody [11] (asgT (.nm 11)) (evT G R (.some (.cmp .eq (.call F__law_taken (.io 1 (.val (.cst (.int 6)) .nil))) (.cst (.int 0))))) (evE G R (.var 11)) (nD i) (envW ns l s) = .ok (some (nD i)) (envW ns l1 s) := by
          unfold lcBody envW
          simp (config := { implicitDefEqProofs := false }) [r1, wipeE, rd2, rd, rds, AV.apart, AV.slots, AV.sl, AV.isB, avOf, Qh.callEnd, putOuts, Qh.finish, outs, Sl.isOwn, ownR, big]
        rw [hbody]
        simp only [bind_ok', Option.toList]
        rw [he, List.map_cons, List.append_assoc]
        rfl
      · obtain ⟨l', W, hl', hW, he⟩ := ih acc l1 hl1 (by omega)
        refine ⟨l', W, hl', hW.cons i, ?_⟩
        rw [List.map_cons]
        unfold lcLoop
        rw [if_pos hb]
        have hbody : lcBody [11] (asgT (.nm 11)) (evT G R (.some (.cmp .eq (.call F__law_taken (.io 1 (.val (.cst (.int 6)) .nil))) (.cst (.int 0))))) (evE G R (.var 11)) (nD i) (envW ns l s) = .ok none (envW ns l1 s) := by
          unfold lcBody envW
          simp (config := { implicitDefEqProofs := false }) [r1, hx, wipeE, rd2, rd, rds, AV.apart, AV.slots, AV.sl, AV.isB, avOf, Qh.callEnd, putOuts, Qh.finish, outs, Sl.isOwn, ownR, big]
        rw [hbody]
        simp only [bind_ok', Option.toList, List.append_nil]
        exact he
  obtain ⟨l', W, hl', hW, he⟩ := key ids [] l hl (by decide)
  refine ⟨l', W, hl', hW, ?_⟩
  have hit : evIt G R (.seq (.call F__law_names .nil)) (envW ns l s) = .ok (ids.map nD) (envW ns l s) := by
    unfold envW
    simp (config := { implicitDefEqProofs := false }) [hnames, rd2, rd, rds, AV.apart, AV.slots, AV.sl, AV.isB, avOf, Qh.callEnd, putOuts, Qh.finish, outs, Sl.isOwn, ownR, big]
  have hw : wipeE (envW ns l s) [11] = envW ns l s := rfl
  have hbk : backE (envW ns l s) (envW ns l' s) [11] = envW ns l' s := rfl
  have hown : ([11].any fun i => ((envW ns l s).at i).isOwn) = false := rfl
  have e11 : evE G R (.var 11) = fun x => opt (x.at 11).val x := by
    funext x
    simp only [evE]
  rw [e11] at he
  simp only [evE, hit, bind_ok', hown, Bool.false_eq_true, if_false, hw]
  rw [he]
  simp only [noExc, bind_ok', List.nil_append, hbk]
theorem find_head {α : Type} (p : α → Bool) (l : List α) : (l.filter p).head? = l.find? p := List.head?_filter ..
theorem all_none {W : List (Fin 26)} {S : Sm} : (W.filter fun i => !holdsB S i).isEmpty = W.all (holdsB S) := by
  induction W with
  | nil => rfl
  | cons i W ih =>
    rw [List.filter_cons, List.all_cons, ← ih]
    cases holdsB S i <;> simp
theorem nm_ofI {w : D} (h : w ∈ ids.map nD) : ∃ i : Fin 26, w = nD i := by
  obtain ⟨i, _, e⟩ := List.mem_map.mp h
  exact ⟨i, e.symm⟩
def fuel : Nat := 50
def LInv (ns : List Int) (S : Sm) (k : Nat) (env : En) : Prop := ∃ l j2 j5 j6 j7 j8 j9, env = [.dat (.scr ns), .own (.lst l), j2, .dat S.d, .dat (.lst (every.map Sm.d)), j5, j6, j7, j8, j9, .non, .non] ∧ Rw l ∧ j2.isOwn = false ∧ j5.isOwn = false ∧ j6.isOwn = false ∧ j7.isOwn = false ∧ j8.isOwn = false ∧ j9.isOwn = false ∧ (0 < k → ∃ W : List (Fin 26), j6 = .dat (.tup (W.map nD)))
theorem dep_S (l : List Sm) : ∃ k, (D.lst (l.map Sm.d)).dep = some k ∧ k ≤ 40 := by
  obtain ⟨k, h1, h2⟩ := dep_lst (l := l.map Sm.d) (m := 1) (deps_le _ fun d hd => by
    obtain ⟨S, _, rfl⟩ := List.mem_map.mp hd
    exact ⟨1, rfl, Nat.le_refl _⟩)
  exact ⟨k, h1, by omega⟩
theorem dep_W (l : List (Fin 26)) : ∃ k, (D.lst (l.map nD)).dep = some k ∧ k ≤ 40 := by
  obtain ⟨k, h1, h2⟩ := dep_lst (l := l.map nD) (m := 0) (deps_le _ fun d hd => by
    obtain ⟨S, _, rfl⟩ := List.mem_map.mp hd
    exact ⟨0, rfl, Nat.le_refl _⟩)
  exact ⟨k, h1, by omega⟩
theorem turn (ns : List Int) (S : Sm) (i : Nat) (k : D) (env : En) (hI : LInv ns S i env) : ∃ e2 e3, asgT (.nm 2) k env = some e2 ∧ evSs G (runN G Pg 49) (.cons (.par [8, 9] (.val (.call F__law_pick (.io 1 (.val (.call F__law_names .nil) .nil))) (.val (.call F__law_pick (.io 1 (.val (.call F__law_names .nil) .nil))) .nil))) (.cons (.asg (.nm 5) (.lc [10] (.seq (.var 4)) (.nm 10) (.some (.and (.call F__law_holds (.val (.var 10) (.val (.var 8) .nil))) (.not (.call F__law_holds (.val (.var 10) (.val (.var 9) .nil)))))) (.var 10))) (.cons (.ite (.or (.not (.call F__law_alike (.val (.call F_implies (.val (.var 8) (.val (.var 9) .nil))) (.val (.cmp .eq (.var 5) (.lst .nil)) .nil)))) (.not (.call F__law_alike (.val (.call F_parting (.val (.var 8) (.val (.var 9) .nil))) (.val (.ife (.cmp .ne (.var 5) (.lst .nil)) (.ix (.var 5) (.cst (.int 0))) (.cst .non)) .nil))))) (.cons (.ret (.cst (.bl false))) .nil) .nil) (.cons (.asg (.nm 6) (.bi .tuple (.cons (.lc [11] (.seq (.call F__law_names .nil)) (.nm 11) (.some (.cmp .eq (.call F__law_taken (.io 1 (.val (.cst (.int 6)) .nil))) (.cst (.int 0)))) (.var 11)) .nil))) (.cons (.asg (.nm 6) (.ife (.cmp .eq (.call F__law_taken (.io 1 (.val (.cst (.int 2)) .nil))) (.cst (.int 0))) (.rev (.var 6)) (.var 6))) (.cons (.asg (.nm 7) (.lc [10] (.seq (.var 4)) (.nm 10) (.some (.cmp .eq (.lc [11] (.seq (.var 6)) (.nm 11) (.some (.not (.call F__law_holds (.val (.var 10) (.val (.var 11) .nil))))) (.var 11)) (.lst .nil))) (.var 10))) (.cons (.ite (.not (.call F__law_alike (.val (.call F_semantics_with (.val (.var 6) .nil)) (.val (.bi .tuple (.cons (.var 7) .nil)) .nil)))) (.cons (.ret (.cst (.bl false))) .nil) .nil) .nil))))))) e2 = .nxt e3 ∧ LInv ns S (i + 1) e3 := by
  obtain ⟨l, j2, j5, j6, j7, j8, j9, rfl, hl, q2, q5, q6, q7, q8, q9, _⟩ := hI
  obtain ⟨w1, l1, hl1, m1, r1⟩ := d_pick l hl (ids.map nD) (by decide) (by decide)
  obtain ⟨w2, l2, hl2, m2, r2⟩ := d_pick l1 hl1 (ids.map nD) (by decide) (by decide)
  obtain ⟨a, rfl⟩ := nm_ofI m1
  obtain ⟨b, rfl⟩ := nm_ofI m2
  have r1 := r1 49 (by decide)
  have r2 := r2 49 (by decide)
  have hnames := a_lnamesI 49 (by decide)
  have lh := fun (S : Sm) (i : Fin 26) => a_lholds S i 49 (by decide)
  have ai := a_implies a b 49 (by decide)
  have ap := a_parting a b 49 (by decide)
  have sw := fun (W : List (Fin 26)) hn hl => a_semantics_with W hn hl 49 (by decide)
  have b1 := fun x => al_bl x 49 (by decide)
  have b2 := fun o => al_opt o 49 (by decide)
  have b3 := fun l hl => al_sms l hl 49 (by decide)
  have hdr6 : ∀ l, Rw l → ∃ (x : Int) (l' : List D), Rw l' ∧ runN G Pg 49 F__law_taken (.own (.lst l) :: [.dat (.int 6)]) = .ok (.int x) (.own (.lst l') :: [.dat (.int 6)]) := fun l hl => by
    obtain ⟨x, l', hl', _, _, r⟩ := d_taken l hl 6 (by decide) (by decide)
    exact ⟨x, l', hl', r 49 (by decide)⟩
  have hdr2 : ∀ l, Rw l → ∃ (x : Int) (l' : List D), Rw l' ∧ runN G Pg 49 F__law_taken (.own (.lst l) :: [.dat (.int 2)]) = .ok (.int x) (.own (.lst l') :: [.dat (.int 2)]) := fun l hl => by
    obtain ⟨x, l', hl', _, _, r⟩ := d_taken l hl 2 (by decide) (by decide)
    exact ⟨x, l', hl', r 49 (by decide)⟩
  unfold Ans at hnames lh ai ap sw b1 b2 b3
  simp only [List.map_nil] at hnames
  obtain ⟨l3, W, hl3, hW, hwant⟩ := law_wanted (runN G Pg 49) hdr6 hnames ns (fun n => match n with
    | 2 => .dat k
    | 3 => .dat S.d
    | 4 => .dat (.lst (every.map Sm.d))
    | 5 => .dat (.lst ((every.filter (prt a b)).map Sm.d))
    | 6 => j6
    | 7 => j7
    | 8 => .dat (nD a)
    | 9 => .dat (nD b)
    | _ => .non) l2 hl2
  obtain ⟨x, l4, hl4, r4⟩ := hdr2 l3 hl3
  have hWn : W.Nodup := hW.nodup (by decide)
  have hWl : W.length ≤ 26 := hW.length_le
  -- the names as they are wanted
  obtain ⟨V, hV, hVn, hVl⟩ : ∃ V : List (Fin 26), V = (if x = 0 then W.reverse else W) ∧ V.Nodup ∧ V.length ≤ 26 := by
    refine ⟨_, rfl, ?_, ?_⟩
    · split
      · exact (List.reverse_perm W).nodup_iff.mpr hWn
      · exact hWn
    · split
      · rw [List.length_reverse]; exact hWl
      · exact hWl
  have sw := sw V hVn hVl
  refine ⟨[.dat (.scr ns), .own (.lst l), .dat k, .dat S.d, .dat (.lst (every.map Sm.d)), j5, j6, j7, j8, j9, .non, .non], [.dat (.scr ns), .own (.lst l4), .dat k, .dat S.d, .dat (.lst (every.map Sm.d)), .dat (.lst ((every.filter (prt a b)).map Sm.d)), .dat (.tup (V.map nD)), .dat (.lst ((every.filter fun S => V.all (holdsB S)).map Sm.d)), .dat (nD a), .dat (nD b), .non, .non], by simp (config := { implicitDefEqProofs := false }) [asgSl_j q2], ?_, l4, _, _, _, _, _, _, rfl, hl4, rfl, rfl, rfl, rfl, rfl, rfl, fun _ => ⟨V, rfl⟩⟩
  simp only [List.map_cons, List.map_nil] at r1 r2 ai ap sw b1 b2 b3 lh
  generalize runN G Pg 49 = R at *
  have b1 := b1 (every.find? (prt a b)).isNone
  have b2 := b2 (every.find? (prt a b))
  have b3 := b3 (every.filter fun S => V.all (holdsB S)) (Nat.le_trans (List.length_filter_le _ _) (by rw [every_len]; decide))
  -- what is due
  have hdue : ∀ s2 s5 s6 s7 : Sl, evE G R (.lc [10] (.seq (.var 4)) (.nm 10) (.some (.and (.call F__law_holds (.val (.var 10) (.val (.var 8) .nil))) (.not (.call F__law_holds (.val (.var 10) (.val (.var 9) .nil)))))) (.var 10)) [.dat (.scr ns), .own (.lst l2), s2, .dat S.d, .dat (.lst (every.map Sm.d)), s5, s6, s7, .dat (nD a), .dat (nD b), .non, .non] = .ok (.lst ((every.filter (prt a b)).map Sm.d)) [.dat (.scr ns), .own (.lst l2), s2, .dat S.d, .dat (.lst (every.map Sm.d)), s5, s6, s7, .dat (nD a), .dat (nD b), .non, .non] := by
    intro s2 s5 s6 s7
    refine lc_fm (G := G) (run := R) (v := 10) (env := [.dat (.scr ns), .own (.lst l2), s2, .dat S.d, .dat (.lst (every.map Sm.d)), s5, s6, s7, .dat (nD a), .dat (nD b), .non, .non]) every Sm.d Sm.d (prt a b) (by simp (config := { implicitDefEqProofs := false }) [rd2, rd, rds, AV.apart, AV.slots, AV.sl, AV.isB, avOf, Qh.callEnd, putOuts, Qh.finish, outs, Sl.isOwn, ownR, big]) rfl (by simp) every_big (fun S' hS => ?_) fun S' hS _ => ?_
    · have h1 := lh S' a
      have h2 := lh S' b
      unfold prt
      cases ha : holdsB S' a <;> cases hb : holdsB S' b <;> rw [ha] at h1 <;> rw [hb] at h2 <;> simp (config := { implicitDefEqProofs := false }) [nD, h1, h2, rd2, rd, rds, AV.apart, AV.slots, AV.sl, AV.isB, avOf, Qh.callEnd, putOuts, Qh.finish, outs, Sl.isOwn, ownR, big]
    · simp (config := { implicitDefEqProofs := false }) [rd2, rd, rds, AV.apart, AV.slots, AV.sl, AV.isB, avOf, Qh.callEnd, putOuts, Qh.finish, outs, Sl.isOwn, ownR, big]
  have hinn : ∀ (S' : Sm) (s2 s5 s7 : Sl), evE G R (.lc [11] (.seq (.var 6)) (.nm 11) (.some (.not (.call F__law_holds (.val (.var 10) (.val (.var 11) .nil))))) (.var 11)) [.dat (.scr ns), .own (.lst l4), s2, .dat S.d, .dat (.lst (every.map Sm.d)), s5, .dat (.tup (V.map nD)), s7, .dat (nD a), .dat (nD b), .dat S'.d, .non] = .ok (.lst ((V.filter fun i => !holdsB S' i).map nD)) [.dat (.scr ns), .own (.lst l4), s2, .dat S.d, .dat (.lst (every.map Sm.d)), s5, .dat (.tup (V.map nD)), s7, .dat (nD a), .dat (nD b), .dat S'.d, .non] := by
    intro S' s2 s5 s7
    refine lc_fm (G := G) (run := R) (v := 11) (env := [.dat (.scr ns), .own (.lst l4), s2, .dat S.d, .dat (.lst (every.map Sm.d)), s5, .dat (.tup (V.map nD)), s7, .dat (nD a), .dat (nD b), .dat S'.d, .non]) V nD nD (fun i => !holdsB S' i) (by simp (config := { implicitDefEqProofs := false }) [rd2, rd, rds, AV.apart, AV.slots, AV.sl, AV.isB, avOf, Qh.callEnd, putOuts, Qh.finish, outs, Sl.isOwn, ownR, big]) rfl (by simp) (Nat.lt_of_le_of_lt hVl (by decide)) (fun i hi => ?_) fun i hi _ => ?_
    · have h1 := lh S' i
      cases hb : holdsB S' i <;> rw [hb] at h1 <;> simp (config := { implicitDefEqProofs := false }) [nD, h1, rd2, rd, rds, AV.apart, AV.slots, AV.sl, AV.isB, avOf, Qh.callEnd, putOuts, Qh.finish, outs, Sl.isOwn, ownR, big]
    · simp (config := { implicitDefEqProofs := false }) [rd2, rd, rds, AV.apart, AV.slots, AV.sl, AV.isB, avOf, Qh.callEnd, putOuts, Qh.finish, outs, Sl.isOwn, ownR, big]
  have hgood : ∀ s2 s5 s7 : Sl, evE G R (.lc [10] (.seq (.var 4)) (.nm 10) (.some (.cmp .eq (.lc [11] (.seq (.var 6)) (.nm 11) (.some (.not (.call F__law_holds (.val (.var 10) (.val (.var 11) .nil))))) (.var 11)) (.lst .nil))) (.var 10)) [.dat (.scr ns), .own (.lst l4), s2, .dat S.d, .dat (.lst (every.map Sm.d)), s5, .dat (.tup (V.map nD)), s7, .dat (nD a), .dat (nD b), .non, .non] = .ok (.lst ((every.filter fun S => V.all (holdsB S)).map Sm.d)) [.dat (.scr ns), .own (.lst l4), s2, .dat S.d, .dat (.lst (every.map Sm.d)), s5, .dat (.tup (V.map nD)), s7, .dat (nD a), .dat (nD b), .non, .non] := by
    intro s2 s5 s7
    refine lc_fm (G := G) (run := R) (v := 10) (env := [.dat (.scr ns), .own (.lst l4), s2, .dat S.d, .dat (.lst (every.map Sm.d)), s5, .dat (.tup (V.map nD)), s7, .dat (nD a), .dat (nD b), .non, .non]) every Sm.d Sm.d (fun S => V.all (holdsB S)) (by simp (config := { implicitDefEqProofs := false }) [rd2, rd, rds, AV.apart, AV.slots, AV.sl, AV.isB, avOf, Qh.callEnd, putOuts, Qh.finish, outs, Sl.isOwn, ownR, big]) rfl (by simp) every_big (fun S' hS => ?_) fun S' hS _ => ?_
    · have h1 := hinn S' s2 s5 s7
      have h2 := eq_lst0 (dep_W (V.filter fun i => !holdsB S' i))
      have h3 : ((V.filter fun i => !holdsB S' i).map nD).isEmpty = V.all (holdsB S') := by
        rw [← all_none, List.isEmpty_map]
      rw [h3] at h2
      simp only [List.set_cons_succ, List.set_cons_zero]
      rw [e_cmp]
      simp (config := { implicitDefEqProofs := false }) [h1, h2, rd2, rd, rds, AV.apart, AV.slots, AV.sl, AV.isB, avOf, Qh.callEnd, putOuts, Qh.finish, outs, Sl.isOwn, ownR, big]
    · simp (config := { implicitDefEqProofs := false }) [rd2, rd, rds, AV.apart, AV.slots, AV.sl, AV.isB, avOf, Qh.callEnd, putOuts, Qh.finish, outs, Sl.isOwn, ownR, big]
  have he0 := eq_lst0 (dep_S (every.filter (prt a b)))
  have hn0 := ne_lst0 (dep_S (every.filter (prt a b)))
  have hfh := find_head (prt a b) every
  have hcase : (every.find? (prt a b) = none ∧ (every.filter (prt a b)) = []) ∨ ∃ S' r, every.find? (prt a b) = some S' ∧ every.filter (prt a b) = S' :: r := by
    cases hq : every.filter (prt a b) with
    | nil => rw [hq] at hfh; exact .inl ⟨hfh.symm, rfl⟩
    | cons S' r => rw [hq] at hfh; exact .inr ⟨S', r, hfh.symm, rfl⟩
  unfold envW at hwant
  simp only [] at hwant
  have hrev : opRev (.tup (W.map nD)) = some (.tup (W.reverse.map nD)) := by
    show some (D.tup (W.map nD).reverse) = _
    rw [List.map_reverse]
  have hgoodT : (every.filter fun S => V.all (holdsB S)).map Sm.d = (every.filter fun S => V.all (holdsB S)).map Sm.d := rfl
  generalize (every.filter fun S => V.all (holdsB S)).map Sm.d = GD at *
  generalize ids.map nD = ND at *
  generalize every.map Sm.d = ED at *
  have hVD : (if x = 0 then D.tup (W.reverse.map nD) else .tup (W.map nD)) = .tup (V.map nD) := by
    rw [hV]
    split <;> rfl
  generalize W.reverse.map nD = WR at *
  generalize W.map nD = WD at *
  generalize V.map nD = VD at *
  have hx6 : (x = 0 ∧ VD = WR) ∨ (x ≠ 0 ∧ VD = WD) := by
    by_cases hx : x = 0
    · rw [if_pos hx] at hVD
      injection hVD with h
      exact .inl ⟨hx, h.symm⟩
    · rw [if_neg hx] at hVD
      injection hVD with h
      exact .inr ⟨hx, h.symm⟩
  rcases hcase with ⟨c1, c2⟩ | ⟨S', r, c1, c2⟩
  · rw [c1] at ai ap b1 b2
    rw [c2] at he0 hn0 hdue hwant ⊢
    simp only [List.map_nil, Option.isNone_none, optD] at ai ap b1 b2 he0 hn0 hdue hwant ⊢
    rcases hx6 with ⟨hx, hv⟩ | ⟨hx, hv⟩
    · subst hv
      simp (config := { implicitDefEqProofs := false }) [asgSl_j q5, asgSl_j q6, asgSl_j q7, asgSl_j q8, asgSl_j q9, hnames, r1, r2, hdue, he0, hn0, ai, ap, b1, b2, b3, hwant, r4, hx, hrev, hgood, sw, big, rd2, rd, rds, AV.apart, AV.slots, AV.sl, AV.isB, avOf, Qh.callEnd, putOuts, Qh.finish, outs, Sl.isOwn, ownR, big]
    · subst hv
      simp (config := { implicitDefEqProofs := false }) [asgSl_j q5, asgSl_j q6, asgSl_j q7, asgSl_j q8, asgSl_j q9, hnames, r1, r2, hdue, he0, hn0, ai, ap, b1, b2, b3, hwant, r4, hx, hrev, hgood, sw, big, rd2, rd, rds, AV.apart, AV.slots, AV.sl, AV.isB, avOf, Qh.callEnd, putOuts, Qh.finish, outs, Sl.isOwn, ownR, big]
  · rw [c1] at ai ap b1 b2
    rw [c2] at he0 hn0 hdue hwant ⊢
    have hix : opIx (.lst ((S' :: r).map Sm.d)) (.int 0) = some S'.d := by
      have h := ixL ((S' :: r).map Sm.d) 0 (by simp)
      exact h
    simp only [List.isEmpty_map, List.isEmpty_cons, Option.isNone_some, optD, Bool.not_false] at ai ap b1 b2 he0 hn0
    generalize (S' :: r).map Sm.d = DD at *
    rcases hx6 with ⟨hx, hv⟩ | ⟨hx, hv⟩
    · subst hv
      simp (config := { implicitDefEqProofs := false }) [asgSl_j q5, asgSl_j q6, asgSl_j q7, asgSl_j q8, asgSl_j q9, hnames, r1, r2, hdue, he0, hn0, ai, ap, b1, b2, b3, hwant, r4, hx, hrev, hgood, sw, hix, big, rd2, rd, rds, AV.apart, AV.slots, AV.sl, AV.isB, avOf, Qh.callEnd, putOuts, Qh.finish, outs, Sl.isOwn, ownR, big]
    · subst hv
      simp (config := { implicitDefEqProofs := false }) [asgSl_j q5, asgSl_j q6, asgSl_j q7, asgSl_j q8, asgSl_j q9, hnames, r1, r2, hdue, he0, hn0, ai, ap, b1, b2, b3, hwant, r4, hx, hrev, hgood, sw, hix, big, rd2, rd, rds, AV.apart, AV.slots, AV.sl, AV.isB, avOf, Qh.callEnd, putOuts, Qh.finish, outs, Sl.isOwn, ownR, big]
theorem e_sw_lst (l : List D) : AnE 5 F_semantics_with [.lst l] 3 := by
  intro n hn
  obtain ⟨m, rfl⟩ : ∃ m, n = m + 1 := ⟨n - 1, by omega⟩
  refine run_endsE (fn := f_semantics_with) rfl rfl ?_
  simp only [List.map_cons, List.map_nil]
  generalize runN G Pg m = R
  simp (config := { implicitDefEqProofs := false }) [f_semantics_with, tyOf, rd2, rd, rds, AV.apart, AV.slots, AV.sl, AV.isB, avOf, Qh.callEnd, putOuts, Qh.finish, outs, Sl.isOwn, ownR, big]
theorem e_sw : ∀ x ∈ ([.non, .tup [.str "not in", .str "not in"], .tup [.str "Not in"], .str "not in", .tup [.non]] : List D), AnE 5 F_semantics_with [x] 3 := by
  intro x hx
  simp only [List.mem_cons, List.not_mem_nil, or_false] at hx
  intro n hn
  obtain ⟨m, rfl⟩ : ∃ m, n = m + 5 := ⟨n - 5, by omega⟩
  rcases hx with rfl | rfl | rfl | rfl | rfl <;> kernel_rfl
theorem law_true (ns : List Int) : ∃ o, runN G Pg fuel F_law [.dat (.scr ns)] = .ok (.bl true) o := by
  refine ⟨[.dat (.scr ns)], ?_⟩
  show runN G Pg (49 + 1) F_law ([D.scr ns].map .dat) = .ok (.bl true) ([D.scr ns].map .dat)
  refine run_ends (fn := f_law) rfl rfl ?_
  have h0 : Rw [.scr ns, .int 0, .int 15328, .int 0] := ⟨ns, 0, 15328, 0, rfl, by decide, by decide, by decide⟩
  obtain ⟨S, l0, hl0, r0⟩ := d_semantics _ h0
  have hz : LInv ns S 0 [.dat (.scr ns), .own (.lst l0), .non, .dat S.d, .dat (.lst (every.map Sm.d)), .non, .non, .non, .non, .non, .non, .non] := ⟨_, _, _, _, _, _, _, rfl, hl0, rfl, rfl, rfl, rfl, rfl, rfl, fun z => absurd z (by decide)⟩
  have hI := forS_inv (g := asgT (.nm 2)) (body := evSs G (runN G Pg 49) (.cons (.par [8, 9] (.val (.call F__law_pick (.io 1 (.val (.call F__law_names .nil) .nil))) (.val (.call F__law_pick (.io 1 (.val (.call F__law_names .nil) .nil))) .nil))) (.cons (.asg (.nm 5) (.lc [10] (.seq (.var 4)) (.nm 10) (.some (.and (.call F__law_holds (.val (.var 10) (.val (.var 8) .nil))) (.not (.call F__law_holds (.val (.var 10) (.val (.var 9) .nil)))))) (.var 10))) (.cons (.ite (.or (.not (.call F__law_alike (.val (.call F_implies (.val (.var 8) (.val (.var 9) .nil))) (.val (.cmp .eq (.var 5) (.lst .nil)) .nil)))) (.not (.call F__law_alike (.val (.call F_parting (.val (.var 8) (.val (.var 9) .nil))) (.val (.ife (.cmp .ne (.var 5) (.lst .nil)) (.ix (.var 5) (.cst (.int 0))) (.cst .non)) .nil))))) (.cons (.ret (.cst (.bl false))) .nil) .nil) (.cons (.asg (.nm 6) (.bi .tuple (.cons (.lc [11] (.seq (.call F__law_names .nil)) (.nm 11) (.some (.cmp .eq (.call F__law_taken (.io 1 (.val (.cst (.int 6)) .nil))) (.cst (.int 0)))) (.var 11)) .nil))) (.cons (.asg (.nm 6) (.ife (.cmp .eq (.call F__law_taken (.io 1 (.val (.cst (.int 2)) .nil))) (.cst (.int 0))) (.rev (.var 6)) (.var 6))) (.cons (.asg (.nm 7) (.lc [10] (.seq (.var 4)) (.nm 10) (.some (.cmp .eq (.lc [11] (.seq (.var 6)) (.nm 11) (.some (.not (.call F__law_holds (.val (.var 10) (.val (.var 11) .nil))))) (.var 11)) (.lst .nil))) (.var 10))) (.cons (.ite (.not (.call F__law_alike (.val (.call F_semantics_with (.val (.var 6) .nil)) (.val (.bi .tuple (.cons (.var 7) .nil)) .nil)))) (.cons (.ret (.cst (.bl false))) .nil) .nil) .nil)))))))) (rangeD 0 3) (fun i env => LInv ns S i env) (fun i x env _ h => turn ns S i x env h) _ hz
  have hlen : (rangeD 0 3).length = 3 := by unfold rangeD; rw [List.length_map, List.length_range]
  rw [hlen] at hI
  have key : ∀ (l : List D) (W : List (Fin 26)), Rw l → ∃ (b : D) (l1 : List D), runN G Pg 49 F__law_pick (.own (.lst l) :: [.dat (.lst [.non, .lst (W.map nD), .tup [.str "not in", .str "not in"], .tup [.str "Not in"], .str "not in", .tup [.non]])]) = .ok b (.own (.lst l1) :: [.dat (.lst [.non, .lst (W.map nD), .tup [.str "not in", .str "not in"], .tup [.str "Not in"], .str "not in", .tup [.non]])]) ∧
      runN G Pg 49 F_semantics_with [.dat b] = .exc ⟨3, none⟩ [.dat b] := by
    intro l W hl
    obtain ⟨b, l1, hl1, hb, r1⟩ := d_pick l hl [.non, .lst (W.map nD), .tup [.str "not in", .str "not in"], .tup [.str "Not in"], .str "not in", .tup [.non]] (by simp) (by simp)
    refine ⟨b, l1, r1 49 (by decide), ?_⟩
    by_cases h : b = .lst (W.map nD)
    · rw [h]
      exact e_sw_lst _ 49 (by decide)
    · refine e_sw b ?_ 49 (by decide)
      simp only [List.mem_cons, List.not_mem_nil, or_false] at hb ⊢
      rcases hb with rfl | rfl | rfl | rfl | rfl | rfl
      · exact .inl rfl
      · exact absurd rfl h
      · exact .inr (.inl rfl)
      · exact .inr (.inr (.inl rfl))
      · exact .inr (.inr (.inr (.inl rfl)))
      · exact .inr (.inr (.inr (.inr rfl)))
  have r0 := r0 49 (by decide)
  have a1 := a_all 49 (by decide)
  have a2 := a_levery 49 (by decide)
  have a3 := al_sms every (by rw [every_len]; decide) 49 (by decide)
  have a4 := a_profile S 49 (by decide)
  have a5 := a_lprofile S 49 (by decide)
  have a6 := al_strs (prof S) (by have := prof_len S; omega) 49 (by decide)
  have a7 := a_profiles 49 (by decide)
  have a8 := al_profs 49 (by decide)
  have a9 := fun S => a_lprofile S 49 (by decide)
  unfold Ans at a1 a2 a3 a4 a5 a6 a7 a8 a9
  simp only [List.map_cons, List.map_nil] at r0 a1 a2 a3 a4 a5 a6 a7 a8 a9 ⊢
  clear hz h0
  generalize runN G Pg 49 = R at *
  obtain ⟨e, he, l, j2, j5, j6, j7, j8, j9, rfl, hl, q2, q5, q6, q7, q8, q9, hlast⟩ := hI
  obtain ⟨W, rfl⟩ := hlast (by decide)
  obtain ⟨b, l1, r1, r2⟩ := key l W hl
  have hset := set_profs
  have hlc : evE G R (.lc [10] (.seq (.var 4)) (.nm 10) .none (.call F__law_profile (.val (.var 10) .nil))) [.dat (.scr ns), .own (.lst l), j2, .dat S.d, .dat (.lst (every.map Sm.d)), j5, .dat (.tup (W.map nD)), j7, j8, j9, .non, .non] = .ok (.lst (every.map fun S => .tup ((prof S).map .str))) [.dat (.scr ns), .own (.lst l), j2, .dat S.d, .dat (.lst (every.map Sm.d)), j5, .dat (.tup (W.map nD)), j7, j8, j9, .non, .non] := by
    refine lc_map (G := G) (run := R) (v := 10) (env := [.dat (.scr ns), .own (.lst l), j2, .dat S.d, .dat (.lst (every.map Sm.d)), j5, .dat (.tup (W.map nD)), j7, j8, j9, .non, .non]) every Sm.d _ (by simp (config := { implicitDefEqProofs := false }) [rd2, rd, rds, AV.apart, AV.slots, AV.sl, AV.isB, avOf, Qh.callEnd, putOuts, Qh.finish, outs, Sl.isOwn, ownR, big]) rfl (by simp) every_big fun S' hS => ?_
    have h3 := a9 S'
    simp (config := { implicitDefEqProofs := false }) [h3, rd2, rd, rds, AV.apart, AV.slots, AV.sl, AV.isB, avOf, Qh.callEnd, putOuts, Qh.finish, outs, Sl.isOwn, ownR, big]
  have hfor : evS G R (.for (.rng1 (.cst (.int 3))) (.nm 2) (.cons (.par [8, 9] (.val (.call F__law_pick (.io 1 (.val (.call F__law_names .nil) .nil))) (.val (.call F__law_pick (.io 1 (.val (.call F__law_names .nil) .nil))) .nil))) (.cons (.asg (.nm 5) (.lc [10] (.seq (.var 4)) (.nm 10) (.some (.and (.call F__law_holds (.val (.var 10) (.val (.var 8) .nil))) (.not (.call F__law_holds (.val (.var 10) (.val (.var 9) .nil)))))) (.var 10))) (.cons (.ite (.or (.not (.call F__law_alike (.val (.call F_implies (.val (.var 8) (.val (.var 9) .nil))) (.val (.cmp .eq (.var 5) (.lst .nil)) .nil)))) (.not (.call F__law_alike (.val (.call F_parting (.val (.var 8) (.val (.var 9) .nil))) (.val (.ife (.cmp .ne (.var 5) (.lst .nil)) (.ix (.var 5) (.cst (.int 0))) (.cst .non)) .nil))))) (.cons (.ret (.cst (.bl false))) .nil) .nil) (.cons (.asg (.nm 6) (.bi .tuple (.cons (.lc [11] (.seq (.call F__law_names .nil)) (.nm 11) (.some (.cmp .eq (.call F__law_taken (.io 1 (.val (.cst (.int 6)) .nil))) (.cst (.int 0)))) (.var 11)) .nil))) (.cons (.asg (.nm 6) (.ife (.cmp .eq (.call F__law_taken (.io 1 (.val (.cst (.int 2)) .nil))) (.cst (.int 0))) (.rev (.var 6)) (.var 6))) (.cons (.asg (.nm 7) (.lc [10] (.seq (.var 4)) (.nm 10) (.some (.cmp .eq (.lc [11] (.seq (.var 6)) (.nm 11) (.some (.not (.call F__law_holds (.val (.var 10) (.val (.var 11) .nil))))) (.var 11)) (.lst .nil))) (.var 10))) (.cons (.ite (.not (.call F__law_alike (.val (.call F_semantics_with (.val (.var 6) .nil)) (.val (.bi .tuple (.cons (.var 7) .nil)) .nil)))) (.cons (.ret (.cst (.bl false))) .nil) .nil) .nil)))))))) [.dat (.scr ns), .own (.lst l0), .non, .dat S.d, .dat (.lst (every.map Sm.d)), .non, .non, .non, .non, .non, .non, .non] = .nxt [.dat (.scr ns), .own (.lst l), j2, .dat S.d, .dat (.lst (every.map Sm.d)), j5, .dat (.tup (W.map nD)), j7, j8, j9, .non, .non] := s_for (it_rng1 (n := 3) (by simp (config := { implicitDefEqProofs := false }) [rd2, rd, rds, AV.apart, AV.slots, AV.sl, AV.isB, avOf, Qh.callEnd, putOuts, Qh.finish, outs, Sl.isOwn, ownR, big]) (by decide) (by decide)) he
  unfold profs at a7 a8
  generalize every.map (fun S => D.tup ((prof S).map .str)) = X at *
  generalize (ssK (every.map prof)).map (fun k => D.tup (k.map .str)) = Y at *
  generalize every.map Sm.d = ED at *
  generalize (prof S).map D.str = PD at *
  generalize W.map nD = WD at *
  simp (config := { implicitDefEqProofs := false }) [f_law, hfor, r0, a1, a2, a3, a4, a5, a6, a7, a8, hlc, hset, r1, r2, HE.ev, isiX, Ct.d, big, rd2, rd, rds, AV.apart, AV.slots, AV.sl, AV.isB, avOf, Qh.callEnd, putOuts, Qh.finish, outs, Sl.isOwn, ownR, big]

end K08



namespace K08
open PySem PySem.Spec PyProof.Rows L2 Qh
def dgs : List (Str × List Str) := []
def fa : List He.Fa := rows.flatMap rowFa ++ (blts.map He.Fa.free ++ (dgs.map (fun p => He.Fa.glo p.1) ++ (flds.flatMap fldFa ++ (excs.flatMap excFa ++ grows.map fun r => He.Fa.glo r.g.name))))
def ts : List He.Tab := dgs.map fun p => ((fun K => He.ga K p.1), p.2)
def fn : List He.DefD := rows.map DRow.d ++ grows.map GRow.d
def gl1 (K : PySem.W.Frag) (p : Str × D) : Bool := match p.2 with
  | .dct ks vs => gD K p.1 ks vs
  | d => (match PySem.W.nsIn K mainGlobals p.1 with
    | some (some u) => gB K d u
    | _ => false)
def ex (K : PySem.W.Frag) : Bool := globs.all (gl1 K) && excsB K excs
abbrev R : PySem.W.OpenRow := PySem.W.OpenLaw.row PySem.Challenge.rw_queryheld_k08_whole_profiles
abbrev hk : PySem.W.Hook := hookY fa fn ts ex
def ob (s : PySem.W.SharedT) : He.AlX := obY fa fn ts ex (HandSHeadRun.getT s)
theorem ob_eq (s : PySem.W.SharedT) : ob s = hk.obs s.abs := obY_eq _ _ _ _ (HandSHeadRun.getT_eq s)
abbrev RunP (w : World) : Prop := HandSHeadRun.RunEq R (PySem.W.view R.prog [40]) hk ob 40000 names w
theorem run0 (w : World) : RunP (w.withFollow "special-get-raises" false) := fun os => by kernel_rfl
theorem run1 (w : World) : RunP (w.withFollow "special-get-raises" true) := fun os => by kernel_rfl
theorem run (w : World) : RunP w := PySem.W.byRow2 "special-get-raises" (P := RunP) run0 run1 w
end K08


namespace K08
open PySem PySem.Spec PyProof.Rows L2 Qh
def keyNs (ks : List D) : List Str := ks.filterMap fun d => match d with
  | .str x => some x
  | _ => none
theorem dgs_at : ∀ p ∈ globs, ∀ ks vs, p.2 = D.dct ks vs → ∃ j : Nat, dgs[j]? = some (p.1, keyNs ks) := by
  intro p hp ks vs e
  have h : (globs.all fun p => match p.2 with
    | .dct ks _ => (List.range dgs.length).any fun j => match dgs[j]? with
      | some q => decide (q = (p.1, keyNs ks))
      | none => false
    | _ => true) = true := by decide +kernel
  have q := List.all_eq_true.mp h p hp
  rw [e] at q
  obtain ⟨j, _, hj⟩ := List.any_eq_true.mp q
  refine ⟨j, ?_⟩
  revert hj
  generalize dgs[j]? = o
  cases o with
  | none => intro h; cases h
  | some r => intro h; exact congrArg some (of_decide_eq_true h)
theorem promise {w : World} {K : PySem.W.Frag} {h : Heap} {mg : Str → Option Value} {f : Addr} (X : K.In h) (G : h.Ns mainGlobals mg) (hfa : mg ("law" : Str) = some (.ref f)) (c : SaysY fa fn ts ex w h K) :
    ∃ fd : FuncData, (∀ (s : Shared) (v : Value), BindsTo s fd ⟨[v], []⟩ [("_law_script", v)]) ∧ ∀ base : Heap, K.In base → base.Ns mainGlobals mg → LamX.TabB base mg (lawC K) (tabP K) → FnOk (PySem.Challenge.rw_queryheld_k08_whole_profiles).prog w K mg base (L2.CX (PySem.Challenge.rw_queryheld_k08_whole_profiles).prog w) (4 * fuel) f fd ["_law_script"] (spL K (runN (globD tab) (progOf rows) fuel) 23) := by
  have cd := c.t.d
  have hmore := Bool.and_eq_true_iff.mp (show (globs.all (gl1 K) && excsB K excs) = true from c.more)
  have hfree : ∀ x ∈ blts, mg x = none := fun x hx => He.free_ok X G (cd.facts (f := .free x) (List.mem_append_right _ (List.mem_append_left _ (List.mem_map_of_mem hx))))
  obtain ⟨fd, hF, hk⟩ := all_ok (P := (PySem.Challenge.rw_queryheld_k08_whole_profiles).prog) (w := w) (K := K) (mg := mg) (exc := excAt K excs) (rows := rows) (globs := globs) (blts := blts) (flds := flds) (excs := excs) (gds := tab.gds) (lam := tab.lam) checked lrow
    (fun r hr => (rowFd r).mp (cd.defs (d := r.d) (List.mem_append_left _ (List.mem_map_of_mem hr)))) (fun r hr => rowFa_mg X G fun f hf => cd.facts (f := f) (List.mem_append_left _ (List.mem_flatMap.mpr ⟨r, hr, hf⟩)))
    (fun r hr => rowFa_mt X G fun f hf => cd.facts (f := f) (List.mem_append_left _ (List.mem_flatMap.mpr ⟨r, hr, hf⟩)))
    (fun p hp => fldFa_ok fun f hf => cd.facts (f := f) (List.mem_append_right _ (List.mem_append_right _ (List.mem_append_right _ (List.mem_append_left _ (List.mem_flatMap.mpr ⟨p, hp, hf⟩))))))
    (exk_ok (T := tab) X G (fun x hx f hf => cd.facts (f := f) (List.mem_append_right _ (List.mem_append_right _ (List.mem_append_right _ (List.mem_append_right _ (List.mem_append_left _ (List.mem_flatMap.mpr ⟨x, hx, hf⟩))))))) hmore.2)
    (fun g hg => by
      obtain ⟨r, hr, rfl⟩ := List.mem_map.mp hg
      exact gd_ok (T := tab) (List.all_eq_true.mp gchk r hr) (He.glo_ok X G (cd.facts (f := .glo r.g.name) (List.mem_append_right _ (List.mem_append_right _ (List.mem_append_right _ (List.mem_append_right _ (List.mem_append_right _ (List.mem_map_of_mem (f := fun r : GRow => He.Fa.glo r.g.name) hr)))))))) (cd.defs (d := r.d) (List.mem_append_right _ (List.mem_map_of_mem hr))) (fun f fd F => gbinds r hr K f fd F) hfree)
    (fun r hr f fd F => binds r hr K f fd F) (fun p hp nd => by
      have q := List.all_eq_true.mp hmore.1 p hp
      unfold gl1 at q
      split at q
      · rename_i ks vs e
        rw [e] at nd
        cases nd
      · split at q
        · rename_i u e
          exact ⟨u, PySem.W.mg_of X G e, q⟩
        · cases q) (fun p hp ks vs e => by
      have q := List.all_eq_true.mp hmore.1 p hp
      unfold gl1 at q
      rw [e] at q
      obtain ⟨j, hj⟩ := dgs_at p hp ks vs e
      have hm := List.mem_of_getElem? hj
      have hmg := He.glo_ok X G (cd.facts (f := .glo p.1) (List.mem_append_right _ (List.mem_append_right _ (List.mem_append_left _ (List.mem_map_of_mem (f := fun p : Str × List Str => He.Fa.glo p.1) hm)))))
      obtain ⟨es, n, kd⟩ := c.t.tab j (t := ((fun K => He.ga K p.1), keyNs ks)) (by unfold ts; rw [List.getElem?_map, hj]; rfl)
      exact gD_ok hmg kd q) hfree
  have F := hF 23 ⟨i23, f_law, top 40⟩ rfl
  have ea : faOf K rows 23 = f := by
    have e2 := He.glo_ok X G (cd.facts (f := .glo "law") (List.mem_append_left _ (List.mem_flatMap.mpr ⟨⟨i23, f_law, top 40⟩, List.mem_of_getElem? (i := 23) rfl, List.mem_singleton.mpr rfl⟩)))
    rw [hfa] at e2
    cases e2
    rfl
  rw [ea] at F
  refine ⟨fd 23, fun s v => FunD.bindsA (ps := ["_law_script"]) F (fun _ _ _ _ _ _ us hl => match us, hl with | [_], _ => rfl) s [v] rfl, fun base _ hG TB => ?_⟩
  have ok := fn_scr (hk base TB fuel 23 i23 rfl)
  rw [ea] at ok
  exact ok
end K08
open PySem PySem.W PySem.Calls PyProof.Rows
theorem PySem.Challenge.cw_queryheld_k08_whole_profiles_holds : PySem.Challenge.rw_queryheld_k08_whole_profiles.Holds := by
  w_on; o_law
  refine HandSHeadRun.head_any (r := OpenLaw.row PySem.Challenge.rw_queryheld_k08_whole_profiles) (q := view (OpenLaw.row PySem.Challenge.rw_queryheld_k08_whole_profiles).prog [40]) (H := K08.hk) (ob := K08.ob) (M := 40000) (loose := K08.names) (kwd := []) (d := HandSHeadRun.topDef (OpenLaw.row PySem.Challenge.rw_queryheld_k08_whole_profiles).prog 40)
    K08.ob_eq (by kernel_rfl) (fun s => by kernel_rfl) K08.run (by kernel_rfl) (by kernel_rfl) (by kernel_rfl) (by rfl) (by first | assumption | decide +kernel) (by decide +kernel) ⟨rfl, rfl, rfl, rfl, rfl, by decide +kernel⟩ ?hw ?hc
  case hw => w_witness2
  case hc =>
    refine Qh.walk_own (l := PySem.Challenge.rw_queryheld_k08_whole_profiles) (k := 4 * K08.fuel) (x := "_law_script") rfl (by kernel_rfl) ⟨rfl, by decide, by decide⟩ ?F
    intro w mg fa h Y G hmg0
    obtain ⟨K, KX, c⟩ := Y
    have hmg : mg ("law" : PySem.Str) = some (.ref fa) := by
      have e : (HandSHeadRun.topDef (OpenLaw.row PySem.Challenge.rw_queryheld_k08_whole_profiles).prog 40).name = ("law" : PySem.Str) := by kernel_rfl
      rw [← e]
      exact hmg0
    obtain ⟨fd, hb, hF⟩ := K08.promise (w := w) KX G hmg c
    exact ⟨K, fd, _, KX, ⟨c.empty, c.out, c.hd⟩, hb, fun H a ns hT hS => by
      obtain ⟨o, ho⟩ := K08.law_true ns
      exact ⟨a, ns, o, rfl, rfl, rfl, hS, hT, ho⟩, hF⟩

