import PyProof.Rows.All
import Wide.All
import OpenK.AllK
import Wide.FinOn
import PySem.Challenge.RW_everygrid_k12_classes_together
import HandS.ForMost
import HandS.ForExc
import KE.KDictKeyed
import HandS.Wide
import HandS.WideBits
import HandS.Flow
import HandS.Conv
import HandS.IsInst
import HandS.TupAny
import HandS.Style
import HandS.Zip
import HandS.TryElse
import HandS.ExcOwn
import HandS.TryOnly
import HandS.WordsExc
import KE.KExcSuper
import HandS.ExcField
import KE.SortData
import PyProof.ReprReads
import PyProof.ReprBulk
import PyProof.Rows.RegStrFacts
import HandS.Ends
import HandS.DictTup
set_option Elab.async false
set_option linter.all false
set_option maxRecDepth 100000
/-! The data layer, part 0: values as plain data, mutable lists in a store, what a state is. -/
namespace DL
open PySem PySem.Spec PyProof.Rows L2

/-- plain data: tup a tuple, imm a list that nobody writes any more, scr one that is locked or of the written part, cel a list in the store -/
inductive D where
  | non | bl (b : Bool) | int (i : Int) | str (s : Str) | tup (ds : List D) | imm (ds : List D) | cel (n : Nat) | ty (n : String) | scr (ds : List D) | dic (n : Nat)

abbrev Store := List (List D)
abbrev Env := List (Option D)

/-- where the lists of the store stand, in order; what nobody may look at -/
structure Ow where
  c : List Addr
  p : List Addr
  d : List Addr
def Ow.Free (I : Ow) (a : Addr) : Prop := a ∉ I.c ∧ a ∉ I.p
def Ow.add (I : Ow) (a : Addr) : Ow := ⟨I.c ++ [a], I.p, I.d⟩
def Ow.hide (I : Ow) (a : Addr) : Ow := ⟨I.c, a :: I.p, I.d⟩
def Ow.show (I : Ow) (a : Addr) : Ow := ⟨I.c, I.p.filter fun b => decide (b ≠ a), I.d⟩
def Ow.addD (I : Ow) (a : Addr) : Ow := ⟨I.c ++ [a], I.p, a :: I.d⟩
/-- the n-th of the store stands at a: a list, a dict -/
def Ow.At (I : Ow) (n : Nat) (a : Addr) : Prop := I.c[n]? = some a ∧ a ∉ I.d
def Ow.AtD (I : Ow) (n : Nat) (a : Addr) : Prop := I.c[n]? = some a ∧ a ∈ I.d

/-- an immutable sequence at a: tracked and not in the store, or of the written part -/
def WrT (K : PySem.W.Frag) (a : Addr) (xs : List V) : Prop :=
  ∃ (o : Obj) (its : Array Value) (n : Nat), K.lookup a = some o ∧ o.cls = .type "tuple" ∧ o.data = .seq its n ∧ its.size ≤ sizeLine ∧ Vals xs its.toList
def WrL (K : PySem.W.Frag) (a : Addr) (xs : List V) : Prop :=
  ∃ (o : Obj) (its : Array Value) (n : Nat), K.lookup a = some o ∧ o.cls = .type "list" ∧ o.dict = none ∧ o.data = .seq its n ∧ its.size ≤ sizeLine ∧ Vals xs its.toList
def TupA (K : PySem.W.Frag) (I : Ow) (H : Hp) (a : Addr) (vs : List V) : Prop :=
  (Rd H a (.tup vs) ∧ I.Free a) ∨ WrT K a vs
def LstA (K : PySem.W.Frag) (I : Ow) (H : Hp) (a : Addr) (vs : List V) : Prop :=
  (Rd H a (.lst vs) ∧ I.Free a) ∨ WrL K a vs

mutual
def Rep (K : PySem.W.Frag) (I : Ow) (H : Hp) : D → V → Prop
  | .non, v => v = .non
  | .bl b, v => v = .bl b
  | .int i, v => v = .int i
  | .str s, v => v = .str s
  | .ty n, v => v = .ty n
  | .tup ds, v => ∃ a vs, v = .ref a ∧ TupA K I H a vs ∧ Reps K I H ds vs
  | .imm ds, v => ∃ a vs, v = .ref a ∧ (H a = some (.lst vs) ∧ I.Free a) ∧ Reps K I H ds vs
  | .scr ds, v => ∃ a vs, v = .ref a ∧ LstA K I H a vs ∧ Reps K I H ds vs
  | .cel n, v => ∃ a, v = .ref a ∧ I.At n a
  | .dic n, v => ∃ a, v = .ref a ∧ I.AtD n a
def Reps (K : PySem.W.Frag) (I : Ow) (H : Hp) : List D → List V → Prop
  | [], vs => vs = []
  | d :: ds, vs => ∃ v r, vs = v :: r ∧ Rep K I H d v ∧ Reps K I H ds r
end

mutual
/-- a key: a tuple of ints, and of such tuples -/
def keyN : D → Option NestedKey
  | .int i => some (.num i)
  | .tup ds => match keyNs ds with | some ks => some (.tup ks) | none => none
  | _ => none
def keyNs : List D → Option (List NestedKey)
  | [] => some []
  | d :: ds => match keyN d, keyNs ds with | some k, some ks => some (k :: ks) | _, _ => none
end
mutual
def kHash : NestedKey → Int
  | .none => 0
  | .num i => hashInt i
  | .text _ => 0
  | .tup ks => reduceHash (Builtin.Tuple.tupleHashOf (kHashes ks))
def kHashes : List NestedKey → List Int
  | [] => []
  | k :: ks => kHash k :: kHashes ks
end
mutual
theorem kHash_is {w : World} : ∀ {d : D} {k : NestedKey}, keyN d = some k → k.hash w = kHash k
  | .int i, k, h => by simp only [keyN, Option.some.injEq] at h; subst h; simp only [NestedKey.hash, kHash]
  | .tup ds, k, h => by
    simp only [keyN] at h
    split at h
    · rename_i ks e
      cases h
      simp only [NestedKey.hash, kHash, kHashes_is e]
    · cases h
  | .non, _, h => by simp only [keyN] at h; cases h
  | .bl _, _, h => by simp only [keyN] at h; cases h
  | .str _, _, h => by simp only [keyN] at h; cases h
  | .imm _, _, h => by simp only [keyN] at h; cases h
  | .cel _, _, h => by simp only [keyN] at h; cases h
  | .ty _, _, h => by simp only [keyN] at h; cases h
  | .scr _, _, h => by simp only [keyN] at h; cases h
  | .dic _, _, h => by simp only [keyN] at h; cases h
theorem kHashes_is {w : World} : ∀ {ds : List D} {ks : List NestedKey}, keyNs ds = some ks → NestedKey.hashes w ks = kHashes ks
  | [], ks, h => by simp only [keyNs, Option.some.injEq] at h; subst h; simp only [NestedKey.hashes, kHashes]
  | d :: ds, ks, h => by
    simp only [keyNs] at h
    split at h
    · rename_i k ks' h1 h2
      cases h
      simp only [NestedKey.hashes, kHashes, kHash_is h1, kHashes_is h2]
    · cases h
end
/-- key, where it stands, value -/
abbrev KE3 := NestedKey × Addr × Value
def ent3 (x : KE3) : DictEntry := ⟨kHash x.1, .ref x.2.1, x.2.2⟩
/-- what is true of a dict's own object -/
def dicPhi (a : Addr) (xs : List KE3) (h : Heap) : Prop := (a == sysModules) = false ∧ xs.length ≤ sizeLine ∧ (xs.map (·.1)).Nodup ∧ ∃ o es ep, h.get? a = some o ∧ o.ExactDict ∧ o.data = .dict es ep ∧ es.toList = xs.map ent3
def dicO (a : Addr) (xs : List KE3) : HO := .ext (dicPhi a xs)
/-- the pairs of a dict -/
def RepKV (K : PySem.W.Frag) (I : Ow) (H : Hp) : List D → List KE3 → Prop
  | [], kvs => kvs = []
  | d :: ds, kvs => ∃ k x nk b u v r, d = .tup [k, x] ∧ kvs = (nk, b, u) :: r ∧ (keyN k = some nk ∧ nk.depth ≤ 8) ∧ Rep K I H k (.ref b) ∧ Rep K I H x v ∧ RelV v u ∧ RepKV K I H ds r
structure Sto (K : PySem.W.Frag) (I : Ow) (H : Hp) (M : Store) : Prop where
  len : I.c.length = M.length
  nodup : I.c.Nodup
  at_ : ∀ (n : Nat) (a : Addr) (ds : List D), I.At n a → M[n]? = some ds → ∃ vs, H a = some (.lst vs) ∧ Reps K I H ds vs
  atD : ∀ (n : Nat) (a : Addr) (ds : List D), I.AtD n a → M[n]? = some ds → ∃ kvs, H a = some (dicO a kvs) ∧ RepKV K I H ds kvs
  sub : ∀ a ∈ I.d, a ∈ I.c
  dis : ∀ a ∈ I.p, a ∉ I.c ∧ ∃ o, H a = some o

/-- what may have happened meanwhile -/
structure Ext (I : Ow) (H : Hp) (I' : Ow) (H' : Hp) : Prop where
  prv : ∃ l, I'.p = l ++ I.p ∧ ∀ a ∈ l, H a = none
  pre : ∃ l, I'.c = I.c ++ l ∧ ∀ a ∈ l, H a = none
  keep : ∀ a o, H a = some o → a ∉ I.c → H' a = some o
  trk : ∀ a o, H a = some o → ∃ o', H' a = some o'
  dic : ∀ a ∈ I.c, (a ∈ I'.d ↔ a ∈ I.d)

theorem Ext.refl {I : Ow} {H : Hp} : Ext I H I H := ⟨⟨[], by simp, by simp⟩, ⟨[], by simp, by simp⟩, fun _ _ h _ => h, fun _ o h => ⟨o, h⟩, fun _ _ => Iff.rfl⟩
theorem Ext.notin {I I' : Ow} {H H' : Hp} (e : Ext I H I' H') {a : Addr} {o : HO} (h : H a = some o) (n : a ∉ I.c) : a ∉ I'.c := by
  obtain ⟨l, hl1, hl⟩ := e.pre
  rw [hl1]
  intro hm
  rcases List.mem_append.mp hm with hm | hm
  · exact n hm
  · rw [hl a hm] at h; cases h
theorem Ext.free {I I' : Ow} {H H' : Hp} (e : Ext I H I' H') {a : Addr} {o : HO} (h : H a = some o) (n : I.Free a) : I'.Free a := ⟨e.notin h n.1, by
  obtain ⟨l, q, hl⟩ := e.prv
  rw [q]
  intro hm
  rcases List.mem_append.mp hm with hm | hm
  · rw [hl a hm] at h; cases h
  · exact n.2 hm⟩
theorem Ext.trans {I I1 I2 : Ow} {H H1 H2 : Hp} (a : Ext I H I1 H1) (b : Ext I1 H1 I2 H2) : Ext I H I2 H2 := by
  refine ⟨?_, ?_, fun x o h n => b.keep x o (a.keep x o h n) (a.notin h n), fun x o h => ?_, fun x hx => (b.dic x (by obtain ⟨l, q, _⟩ := a.pre; rw [q]; exact List.mem_append_left _ hx)).trans (a.dic x hx)⟩
  · obtain ⟨l1, q1, h1⟩ := a.prv
    obtain ⟨l2, q2, h2⟩ := b.prv
    refine ⟨l2 ++ l1, by rw [q2, q1]; simp, fun x hx => ?_⟩
    rcases List.mem_append.mp hx with hx | hx
    · cases q : H x with
      | none => rfl
      | some o =>
        obtain ⟨o', z⟩ := a.trk x o q
        rw [h2 x hx] at z; cases z
    · exact h1 x hx
  · obtain ⟨l1, q1, h1⟩ := a.pre
    obtain ⟨l2, q2, h2⟩ := b.pre
    refine ⟨l1 ++ l2, by rw [q2, q1]; simp, fun x hx => ?_⟩
    rcases List.mem_append.mp hx with hx | hx
    · exact h1 x hx
    · cases q : H x with
      | none => rfl
      | some o =>
        obtain ⟨o', z⟩ := a.trk x o q
        rw [h2 x hx] at z; cases z
  · obtain ⟨o', z⟩ := a.trk x o h
    exact b.trk x o' z
theorem Ext.get0 {I I' : Ow} {H H' : Hp} (e : Ext I H I' H') {n : Nat} {a : Addr} (h : I.c[n]? = some a) : I'.c[n]? = some a := by
  obtain ⟨l, q, _⟩ := e.pre
  obtain ⟨h1, h2⟩ := List.getElem?_eq_some_iff.mp h
  rw [q, List.getElem?_append_left h1]; exact h
theorem Ext.get {I I' : Ow} {H H' : Hp} (e : Ext I H I' H') {n : Nat} {a : Addr} (h : I.At n a) : I'.At n a := ⟨e.get0 h.1, fun z => h.2 ((e.dic a (List.mem_of_getElem? h.1)).mp z)⟩
theorem Ext.getD {I I' : Ow} {H H' : Hp} (e : Ext I H I' H') {n : Nat} {a : Addr} (h : I.AtD n a) : I'.AtD n a := ⟨e.get0 h.1, (e.dic a (List.mem_of_getElem? h.1)).mpr h.2⟩
/-- a new object, not of the store -/
theorem Ext.new {I : Ow} {H : Hp} {p : Addr} {o : HO} (h : H p = none) : Ext I H I (upd H p o) :=
  ⟨⟨[], by simp, by simp⟩, ⟨[], by simp, by simp⟩, fun a u e _ => by rw [upd_ne (ne_of_none e h)]; exact e, fun a u e => ⟨u, by rw [upd_ne (ne_of_none e h)]; exact e⟩, fun _ _ => Iff.rfl⟩
/-- a new list, of the store -/
theorem Ext.newC {I : Ow} {H : Hp} {p : Addr} {o : HO} (h : H p = none) : Ext I H (I.add p) (upd H p o) :=
  ⟨⟨[], by simp [Ow.add], by simp⟩, ⟨[p], rfl, fun a ha => by rw [List.mem_singleton.mp ha]; exact h⟩, fun a u e _ => by rw [upd_ne (ne_of_none e h)]; exact e, fun a u e => ⟨u, by rw [upd_ne (ne_of_none e h)]; exact e⟩, fun _ _ => Iff.rfl⟩
/-- a new dict, of the store -/
theorem Ext.newD {I : Ow} {H : Hp} {p : Addr} {o : HO} (h : H p = none) (hp : p ∉ I.c) : Ext I H (I.addD p) (upd H p o) :=
  ⟨⟨[], by simp [Ow.addD], by simp⟩, ⟨[p], rfl, fun a ha => by rw [List.mem_singleton.mp ha]; exact h⟩, fun a u e _ => by rw [upd_ne (ne_of_none e h)]; exact e, fun a u e => ⟨u, by rw [upd_ne (ne_of_none e h)]; exact e⟩, fun a ha => by
    show a ∈ p :: I.d ↔ _
    rw [List.mem_cons]
    exact ⟨fun z => z.elim (fun e => absurd (e ▸ ha) hp) id, .inr⟩⟩
/-- a list of the store is written -/
theorem Ext.write {I : Ow} {H : Hp} {p : Addr} {o : HO} (h : p ∈ I.c) : Ext I H I (upd H p o) :=
  ⟨⟨[], by simp, by simp⟩, ⟨[], by simp, by simp⟩, fun a u e n => by rw [upd_ne (fun z => n (by rw [z]; exact h))]; exact e, fun a u e => by
    by_cases q : a = p
    · subst q; exact ⟨o, upd_same⟩
    · exact ⟨u, by rw [upd_ne q]; exact e⟩, fun _ _ => Iff.rfl⟩

section
variable {K : PySem.W.Frag} {I I' : Ow} {H H' : Hp} {M M' : Store}
theorem TupA.sq {a : Addr} {vs : List V} (h : TupA K I H a vs) : SqT K H a vs := by
  rcases h with ⟨h, _⟩ | h
  · exact .inl h
  · exact .inr h
theorem LstA.sq {a : Addr} {vs : List V} (h : LstA K I H a vs) : SqL K H a vs := by
  rcases h with ⟨h, _⟩ | h
  · exact .inl h
  · exact .inr h
theorem Ext.rd (e : Ext I H I' H') {a : Addr} {u : HO} (h : Rd H a u) (n : I.Free a) : Rd H' a u ∧ I'.Free a := by
  rcases h with h | ⟨o, h⟩
  · exact ⟨.inl (e.keep _ _ h n.1), e.free h n⟩
  · exact ⟨.inr ⟨o, e.keep _ _ h n.1⟩, e.free h n⟩
theorem Ext.tupA (e : Ext I H I' H') {a : Addr} {vs : List V} (h : TupA K I H a vs) : TupA K I' H' a vs := by
  rcases h with ⟨h, n⟩ | h
  · exact .inl (e.rd h n)
  · exact .inr h
theorem Ext.lstA (e : Ext I H I' H') {a : Addr} {vs : List V} (h : LstA K I H a vs) : LstA K I' H' a vs := by
  rcases h with ⟨h, n⟩ | h
  · exact .inl (e.rd h n)
  · exact .inr h
mutual
theorem Ext.rep (e : Ext I H I' H') : ∀ {d : D} {v : V}, Rep K I H d v → Rep K I' H' d v
  | .non, v, h => by simpa only [Rep] using h
  | .bl _, v, h => by simpa only [Rep] using h
  | .int _, v, h => by simpa only [Rep] using h
  | .str _, v, h => by simpa only [Rep] using h
  | .ty _, v, h => by simpa only [Rep] using h
  | .tup ds, v, h => by
    simp only [Rep] at h ⊢
    obtain ⟨a, vs, h1, h2, h3⟩ := h
    exact ⟨a, vs, h1, e.tupA h2, Ext.reps e h3⟩
  | .imm ds, v, h => by
    simp only [Rep] at h ⊢
    obtain ⟨a, vs, h1, h2, h3⟩ := h
    exact ⟨a, vs, h1, ⟨e.keep _ _ h2.1 h2.2.1, e.free h2.1 h2.2⟩, Ext.reps e h3⟩
  | .scr ds, v, h => by
    simp only [Rep] at h ⊢
    obtain ⟨a, vs, h1, h2, h3⟩ := h
    exact ⟨a, vs, h1, e.lstA h2, Ext.reps e h3⟩
  | .cel n, v, h => by
    simp only [Rep] at h ⊢
    obtain ⟨a, h1, h2⟩ := h
    exact ⟨a, h1, e.get h2⟩
  | .dic n, v, h => by
    simp only [Rep] at h ⊢
    obtain ⟨a, h1, h2⟩ := h
    exact ⟨a, h1, e.getD h2⟩
theorem Ext.reps (e : Ext I H I' H') : ∀ {ds : List D} {vs : List V}, Reps K I H ds vs → Reps K I' H' ds vs
  | [], vs, h => by simpa only [Reps] using h
  | d :: ds, vs, h => by
    simp only [Reps] at h ⊢
    obtain ⟨v, r, h1, h2, h3⟩ := h
    exact ⟨v, r, h1, Ext.rep e h2, Ext.reps e h3⟩
end
theorem RepKV.imp {I1 I2 : Ow} {H1 H2 : Hp} (f : ∀ d v, Rep K I1 H1 d v → Rep K I2 H2 d v) : ∀ {ds : List D} {kvs : List KE3}, RepKV K I1 H1 ds kvs → RepKV K I2 H2 ds kvs
  | [], _, h => h
  | _ :: _, _, ⟨k, x, nk, b, u, v, r, h1, h2, h3, h4, h5, h6, h7⟩ => ⟨k, x, nk, b, u, v, r, h1, h2, h3, f _ _ h4, f _ _ h5, h6, RepKV.imp f h7⟩
theorem Ext.kv (e : Ext I H I' H') {ds : List D} {kvs : List KE3} (h : RepKV K I H ds kvs) : RepKV K I' H' ds kvs := h.imp fun _ _ => e.rep
theorem Reps.length : ∀ {ds : List D} {vs : List V}, Reps K I H ds vs → ds.length = vs.length
  | [], vs, h => by simp only [Reps] at h; subst h; rfl
  | d :: ds, vs, h => by
    simp only [Reps] at h
    obtain ⟨v, r, rfl, _, h3⟩ := h
    rw [List.length_cons, List.length_cons, Reps.length h3]
theorem Reps.get : ∀ {ds : List D} {vs : List V} {i : Nat} {v : V}, Reps K I H ds vs → vs[i]? = some v → ∃ d, ds[i]? = some d ∧ Rep K I H d v
  | [], vs, i, v, h, e => by simp only [Reps] at h; subst h; simp at e
  | d :: ds, vs, 0, v, h, e => by
    simp only [Reps] at h
    obtain ⟨v', r, rfl, h2, _⟩ := h
    have : v' = v := Option.some.inj e
    subst this
    exact ⟨d, rfl, h2⟩
  | d :: ds, vs, i + 1, v, h, e => by
    simp only [Reps] at h
    obtain ⟨v', r, rfl, _, h3⟩ := h
    exact Reps.get (i := i) h3 e
theorem Reps.get' : ∀ {ds : List D} {vs : List V} {i : Nat} {d : D}, Reps K I H ds vs → ds[i]? = some d → ∃ v, vs[i]? = some v ∧ Rep K I H d v
  | [], vs, i, v, h, e => by simp at e
  | d :: ds, vs, 0, v, h, e => by
    simp only [Reps] at h
    obtain ⟨v', r, rfl, h2, _⟩ := h
    have : d = v := Option.some.inj e
    subst this
    exact ⟨v', rfl, h2⟩
  | d :: ds, vs, i + 1, v, h, e => by
    simp only [Reps] at h
    obtain ⟨v', r, rfl, _, h3⟩ := h
    exact Reps.get' (i := i) h3 e
theorem Reps.append : ∀ {ds es : List D} {vs us : List V}, Reps K I H ds vs → Reps K I H es us → Reps K I H (ds ++ es) (vs ++ us)
  | [], es, vs, us, h, g => by simp only [Reps] at h; subst h; exact g
  | d :: ds, es, vs, us, h, g => by
    simp only [Reps] at h
    obtain ⟨v', r, rfl, h2, h3⟩ := h
    show Reps K I H (d :: (ds ++ es)) (v' :: (r ++ us))
    simp only [Reps]
    exact ⟨v', _, rfl, h2, Reps.append h3 g⟩
theorem Reps.take : ∀ {ds : List D} {vs : List V} (n : Nat), Reps K I H ds vs → Reps K I H (ds.take n) (vs.take n)
  | _, _, 0, h => by simp [Reps]
  | [], vs, n + 1, h => by simp only [Reps] at h; subst h; simp [Reps]
  | d :: ds, vs, n + 1, h => by
    simp only [Reps] at h
    obtain ⟨v', r, rfl, h2, h3⟩ := h
    show Reps K I H (d :: ds.take n) (v' :: r.take n)
    simp only [Reps]
    exact ⟨v', _, rfl, h2, Reps.take n h3⟩
theorem Reps.drop : ∀ {ds : List D} {vs : List V} (n : Nat), Reps K I H ds vs → Reps K I H (ds.drop n) (vs.drop n)
  | _, _, 0, h => h
  | [], vs, n + 1, h => by simp only [Reps] at h; subst h; simp [Reps]
  | d :: ds, vs, n + 1, h => by
    simp only [Reps] at h
    obtain ⟨v', r, rfl, h2, h3⟩ := h
    exact Reps.drop n h3
theorem Reps.set : ∀ {ds : List D} {vs : List V} (n : Nat) {d : D} {v : V}, Rep K I H d v → Reps K I H ds vs → Reps K I H (ds.set n d) (vs.set n v)
  | [], vs, n, d, v, g, h => by simp only [Reps] at h; subst h; simp [Reps]
  | e :: ds, vs, 0, d, v, g, h => by
    simp only [Reps] at h
    obtain ⟨v', r, rfl, h2, h3⟩ := h
    show Reps K I H (d :: ds) (v :: r)
    simp only [Reps]
    exact ⟨v, _, rfl, g, h3⟩
  | e :: ds, vs, n + 1, d, v, g, h => by
    simp only [Reps] at h
    obtain ⟨v', r, rfl, h2, h3⟩ := h
    show Reps K I H (e :: ds.set n d) (v' :: r.set n v)
    simp only [Reps]
    exact ⟨v', _, rfl, h2, Reps.set n g h3⟩
theorem Reps.one {d : D} {v : V} (h : Rep K I H d v) : Reps K I H [d] [v] := by
  simp only [Reps]
  exact ⟨v, [], rfl, h, rfl⟩
theorem Reps.cons {d : D} {v : V} {ds : List D} {vs : List V} (h : Rep K I H d v) (g : Reps K I H ds vs) : Reps K I H (d :: ds) (v :: vs) := by
  simp only [Reps]
  exact ⟨v, vs, rfl, h, g⟩

/-! ### states -/
theorem Sto.trk (S : Sto K I H M) {a : Addr} (h : a ∈ I.c) : ∃ o, H a = some o := by
  obtain ⟨n, hn, e⟩ := List.mem_iff_getElem.mp h
  have h1 : I.c[n]? = some a := by rw [List.getElem?_eq_getElem hn, e]
  have hm : n < M.length := by rw [← S.len]; exact hn
  by_cases q : a ∈ I.d
  · obtain ⟨vs, e2, _⟩ := S.atD n a M[n] ⟨h1, q⟩ (List.getElem?_eq_getElem hm)
    exact ⟨_, e2⟩
  · obtain ⟨vs, e2, _⟩ := S.at_ n a M[n] ⟨h1, q⟩ (List.getElem?_eq_getElem hm)
    exact ⟨_, e2⟩
theorem Sto.fresh (S : Sto K I H M) {p : Addr} (h : H p = none) : I.Free p := by
  refine ⟨fun hm => ?_, fun hm => ?_⟩
  · obtain ⟨vs, e⟩ := S.trk hm
    rw [h] at e; cases e
  · obtain ⟨_, o, e⟩ := S.dis p hm
    rw [h] at e; cases e
/-- a new object beside the store -/
theorem Sto.new (S : Sto K I H M) {p : Addr} {o : HO} (h : H p = none) : Sto K I (upd H p o) M := by
  refine ⟨S.len, S.nodup, fun n a ds h1 h2 => ?_, fun n a ds h1 h2 => ?_, S.sub, fun a ha => ⟨(S.dis a ha).1, ?_⟩⟩
  · obtain ⟨vs, e, r⟩ := S.at_ n a ds h1 h2
    exact ⟨vs, by rw [upd_ne (ne_of_none e h)]; exact e, (Ext.new h).reps r⟩
  · obtain ⟨vs, e, r⟩ := S.atD n a ds h1 h2
    exact ⟨vs, by rw [upd_ne (ne_of_none e h)]; exact e, (Ext.new h).kv r⟩
  · obtain ⟨u, e⟩ := (S.dis a ha).2
    exact ⟨u, by rw [upd_ne (ne_of_none e h)]; exact e⟩
theorem Sto.newC (S : Sto K I H M) {p : Addr} {ds : List D} {vs : List V} (h : H p = none) (r : Reps K I H ds vs) : Sto K (I.add p) (upd H p (.lst vs)) (M ++ [ds]) := by
  have fr := (S.fresh h).1
  have one : ∀ {n : Nat} {a : Addr}, (I.add p).c[n]? = some a → (n < I.c.length ∧ I.c[n]? = some a) ∨ (n = I.c.length ∧ a = p) := by
    intro n a h1
    have h1 : (I.c ++ [p])[n]? = some a := h1
    by_cases q : n < I.c.length
    · rw [List.getElem?_append_left q] at h1
      exact .inl ⟨q, h1⟩
    · have hn : n < (I.c ++ [p]).length := (List.getElem?_eq_some_iff.mp h1).1
      have hn' : n = I.c.length := by simp at hn; omega
      subst hn'
      rw [List.getElem?_append_right (Nat.le_refl _)] at h1
      simp at h1
      exact .inr ⟨rfl, h1.symm⟩
  refine ⟨by simp [S.len, Ow.add], ?_, fun n a es h1 h2 => ?_, fun n a es h1 h2 => ?_, fun a ha => List.mem_append_left _ (S.sub a ha), fun a ha => ⟨fun hm => ?_, ?_⟩⟩
  · show (I.c ++ [p]).Nodup
    rw [List.nodup_append]
    refine ⟨S.nodup, by simp, fun a ha b hb z => ?_⟩
    rw [List.mem_singleton.mp hb] at z
    exact fr (z ▸ ha)
  · rcases one h1.1 with ⟨q, g⟩ | ⟨q, g⟩
    · rw [List.getElem?_append_left (by rw [← S.len]; exact q)] at h2
      obtain ⟨us, e, g⟩ := S.at_ n a es ⟨g, h1.2⟩ h2
      exact ⟨us, by rw [upd_ne (ne_of_none e h)]; exact e, (Ext.newC h).reps g⟩
    · subst q; subst g
      rw [S.len, List.getElem?_append_right (Nat.le_refl _)] at h2
      simp at h2
      subst h2
      exact ⟨vs, upd_same, (Ext.newC h).reps r⟩
  · rcases one h1.1 with ⟨q, g⟩ | ⟨q, g⟩
    · rw [List.getElem?_append_left (by rw [← S.len]; exact q)] at h2
      obtain ⟨us, e, g⟩ := S.atD n a es ⟨g, h1.2⟩ h2
      exact ⟨us, by rw [upd_ne (ne_of_none e h)]; exact e, (Ext.newC h).kv g⟩
    · subst g
      exact absurd (S.sub _ h1.2) fr
  · rcases List.mem_append.mp (show a ∈ I.c ++ [p] from hm) with hm | hm
    · exact (S.dis a ha).1 hm
    · obtain ⟨u, e⟩ := (S.dis a ha).2
      rw [List.mem_singleton.mp hm, h] at e; cases e
  · obtain ⟨u, e⟩ := (S.dis a ha).2
    exact ⟨u, by rw [upd_ne (ne_of_none e h)]; exact e⟩
theorem Sto.newD (S : Sto K I H M) {p : Addr} {ds : List D} {kvs : List KE3} (h : H p = none) (r : RepKV K I H ds kvs) : Sto K (I.addD p) (upd H p (dicO p kvs)) (M ++ [ds]) := by
  have fr := (S.fresh h).1
  have one : ∀ {n : Nat} {a : Addr}, (I.addD p).c[n]? = some a → (n < I.c.length ∧ I.c[n]? = some a) ∨ (n = I.c.length ∧ a = p) := by
    intro n a h1
    have h1 : (I.c ++ [p])[n]? = some a := h1
    by_cases q : n < I.c.length
    · rw [List.getElem?_append_left q] at h1
      exact .inl ⟨q, h1⟩
    · have hn : n < (I.c ++ [p]).length := (List.getElem?_eq_some_iff.mp h1).1
      have hn' : n = I.c.length := by simp at hn; omega
      subst hn'
      rw [List.getElem?_append_right (Nat.le_refl _)] at h1
      simp at h1
      exact .inr ⟨rfl, h1.symm⟩
  have E := Ext.newD (o := dicO p kvs) h fr
  refine ⟨by simp [S.len, Ow.addD], ?_, fun n a es h1 h2 => ?_, fun n a es h1 h2 => ?_, fun a ha => ?_, fun a ha => ⟨fun hm => ?_, ?_⟩⟩
  · show (I.c ++ [p]).Nodup
    rw [List.nodup_append]
    refine ⟨S.nodup, by simp, fun a ha b hb z => ?_⟩
    rw [List.mem_singleton.mp hb] at z
    exact fr (z ▸ ha)
  · rcases one h1.1 with ⟨q, g⟩ | ⟨q, g⟩
    · rw [List.getElem?_append_left (by rw [← S.len]; exact q)] at h2
      obtain ⟨us, e, g⟩ := S.at_ n a es ⟨g, fun z => h1.2 (List.mem_cons_of_mem _ z)⟩ h2
      exact ⟨us, by rw [upd_ne (ne_of_none e h)]; exact e, E.reps g⟩
    · subst g
      exact absurd List.mem_cons_self h1.2
  · rcases one h1.1 with ⟨q, g⟩ | ⟨q, g⟩
    · rw [List.getElem?_append_left (by rw [← S.len]; exact q)] at h2
      have hd : a ∈ I.d := by
        rcases List.mem_cons.mp h1.2 with z | z
        · exact absurd (z ▸ List.mem_of_getElem? g) fr
        · exact z
      obtain ⟨us, e, g⟩ := S.atD n a es ⟨g, hd⟩ h2
      exact ⟨us, by rw [upd_ne (ne_of_none e h)]; exact e, E.kv g⟩
    · subst q; subst g
      rw [S.len, List.getElem?_append_right (Nat.le_refl _)] at h2
      simp at h2
      subst h2
      exact ⟨kvs, upd_same, E.kv r⟩
  · rcases List.mem_cons.mp ha with z | z
    · rw [z]; exact List.mem_append_right _ (List.mem_singleton.mpr rfl)
    · exact List.mem_append_left _ (S.sub a z)
  · rcases List.mem_append.mp (show a ∈ I.c ++ [p] from hm) with hm | hm
    · exact (S.dis a ha).1 hm
    · obtain ⟨u, e⟩ := (S.dis a ha).2
      rw [List.mem_singleton.mp hm, h] at e; cases e
  · obtain ⟨u, e⟩ := (S.dis a ha).2
    exact ⟨u, by rw [upd_ne (ne_of_none e h)]; exact e⟩
theorem Sto.write (S : Sto K I H M) {n : Nat} {p : Addr} {ds : List D} {vs : List V} (h : I.At n p) (r : Reps K I H ds vs) : Sto K I (upd H p (.lst vs)) (M.set n ds) := by
  have hp : p ∈ I.c := List.mem_of_getElem? h.1
  refine ⟨by simp [S.len], S.nodup, fun m a es h1 h2 => ?_, fun m a es h1 h2 => ?_, S.sub, fun a ha => ⟨(S.dis a ha).1, ?_⟩⟩
  · by_cases q : m = n
    · subst q
      have z : a = p := Option.some.inj (h1.1.symm.trans h.1)
      subst z
      have hm : m < M.length := by rw [← S.len]; exact (List.getElem?_eq_some_iff.mp h.1).1
      rw [List.getElem?_set_self hm] at h2
      cases h2
      exact ⟨vs, upd_same, (Ext.write hp).reps r⟩
    · rw [List.getElem?_set_ne (Ne.symm q)] at h2
      obtain ⟨us, e, g⟩ := S.at_ m a es h1 h2
      have na : a ≠ p := fun z => q (nd_ix S.nodup h1.1 (by rw [z]; exact h.1))
      exact ⟨us, by rw [upd_ne na]; exact e, (Ext.write hp).reps g⟩
  · have q : m ≠ n := fun q => by
      subst q
      have z : a = p := Option.some.inj (h1.1.symm.trans h.1)
      subst z
      exact h.2 h1.2
    rw [List.getElem?_set_ne (Ne.symm q)] at h2
    obtain ⟨us, e, g⟩ := S.atD m a es h1 h2
    have na : a ≠ p := fun z => q (nd_ix S.nodup h1.1 (by rw [z]; exact h.1))
    exact ⟨us, by rw [upd_ne na]; exact e, (Ext.write hp).kv g⟩
  · obtain ⟨u, e⟩ := (S.dis a ha).2
    exact ⟨u, by rw [upd_ne (fun z => (S.dis a ha).1 (by rw [z]; exact hp))]; exact e⟩
theorem Sto.writeD (S : Sto K I H M) {n : Nat} {p : Addr} {ds : List D} {kvs : List KE3} (h : I.AtD n p) (r : RepKV K I H ds kvs) : Sto K I (upd H p (dicO p kvs)) (M.set n ds) := by
  have hp : p ∈ I.c := List.mem_of_getElem? h.1
  refine ⟨by simp [S.len], S.nodup, fun m a es h1 h2 => ?_, fun m a es h1 h2 => ?_, S.sub, fun a ha => ⟨(S.dis a ha).1, ?_⟩⟩
  · have q : m ≠ n := fun q => by
      subst q
      have z : a = p := Option.some.inj (h1.1.symm.trans h.1)
      subst z
      exact h1.2 h.2
    rw [List.getElem?_set_ne (Ne.symm q)] at h2
    obtain ⟨us, e, g⟩ := S.at_ m a es h1 h2
    have na : a ≠ p := fun z => q (nd_ix S.nodup h1.1 (by rw [z]; exact h.1))
    exact ⟨us, by rw [upd_ne na]; exact e, (Ext.write hp).reps g⟩
  · by_cases q : m = n
    · subst q
      have z : a = p := Option.some.inj (h1.1.symm.trans h.1)
      subst z
      have hm : m < M.length := by rw [← S.len]; exact (List.getElem?_eq_some_iff.mp h.1).1
      rw [List.getElem?_set_self hm] at h2
      cases h2
      exact ⟨kvs, upd_same, (Ext.write hp).kv r⟩
    · rw [List.getElem?_set_ne (Ne.symm q)] at h2
      obtain ⟨us, e, g⟩ := S.atD m a es h1 h2
      have na : a ≠ p := fun z => q (nd_ix S.nodup h1.1 (by rw [z]; exact h.1))
      exact ⟨us, by rw [upd_ne na]; exact e, (Ext.write hp).kv g⟩
  · obtain ⟨u, e⟩ := (S.dis a ha).2
    exact ⟨u, by rw [upd_ne (fun z => (S.dis a ha).1 (by rw [z]; exact hp))]; exact e⟩
/-! ### a list that is being made: nobody looks at it -/
theorem Ext.hide {p : Addr} {o : HO} (h : H p = none) : Ext I H (I.hide p) (upd H p o) :=
  ⟨⟨[p], rfl, fun a ha => by rw [List.mem_singleton.mp ha]; exact h⟩, ⟨[], by simp [Ow.hide], by simp⟩, fun a u e _ => by rw [upd_ne (ne_of_none e h)]; exact e, fun a u e => ⟨u, by rw [upd_ne (ne_of_none e h)]; exact e⟩, fun _ _ => Iff.rfl⟩
theorem Free.show {p a : Addr} (f : I.Free a) : (I.show p).Free a := ⟨f.1, fun hm => f.2 (List.mem_filter.mp hm).1⟩
theorem Free.ne {p a : Addr} (f : I.Free a) (hp : p ∈ I.p) : a ≠ p := fun e => f.2 (by rw [e]; exact hp)
mutual
theorem Rep.show {p : Addr} : ∀ {d : D} {v : V}, Rep K I H d v → Rep K (I.show p) H d v
  | .non, v, h => by simpa only [Rep] using h
  | .bl _, v, h => by simpa only [Rep] using h
  | .int _, v, h => by simpa only [Rep] using h
  | .str _, v, h => by simpa only [Rep] using h
  | .ty _, v, h => by simpa only [Rep] using h
  | .tup ds, v, h => by
    simp only [Rep] at h ⊢
    obtain ⟨a, vs, h1, h2, h3⟩ := h
    exact ⟨a, vs, h1, h2.imp (fun h => ⟨h.1, Free.show h.2⟩) id, Reps.show h3⟩
  | .imm ds, v, h => by
    simp only [Rep] at h ⊢
    obtain ⟨a, vs, h1, h2, h3⟩ := h
    exact ⟨a, vs, h1, ⟨h2.1, Free.show h2.2⟩, Reps.show h3⟩
  | .scr ds, v, h => by
    simp only [Rep] at h ⊢
    obtain ⟨a, vs, h1, h2, h3⟩ := h
    exact ⟨a, vs, h1, h2.imp (fun h => ⟨h.1, Free.show h.2⟩) id, Reps.show h3⟩
  | .cel n, v, h => by simp only [Rep] at h ⊢; exact h
  | .dic n, v, h => by simp only [Rep] at h ⊢; exact h
theorem Reps.show {p : Addr} : ∀ {ds : List D} {vs : List V}, Reps K I H ds vs → Reps K (I.show p) H ds vs
  | [], vs, h => by simpa only [Reps] using h
  | d :: ds, vs, h => by
    simp only [Reps] at h ⊢
    obtain ⟨v, r, h1, h2, h3⟩ := h
    exact ⟨v, r, h1, Rep.show h2, Reps.show h3⟩
end
theorem Rd.upd {p a : Addr} {u o : HO} (h : Rd H a u) (n : a ≠ p) : Rd (upd H p o) a u := by
  rcases h with h | ⟨o', h⟩
  · exact .inl (by rw [upd_ne n]; exact h)
  · exact .inr ⟨o', by rw [upd_ne n]; exact h⟩
mutual
theorem Rep.grow {p : Addr} {o : HO} (hp : p ∈ I.p) : ∀ {d : D} {v : V}, Rep K I H d v → Rep K I (upd H p o) d v
  | .non, v, h => by simpa only [Rep] using h
  | .bl _, v, h => by simpa only [Rep] using h
  | .int _, v, h => by simpa only [Rep] using h
  | .str _, v, h => by simpa only [Rep] using h
  | .ty _, v, h => by simpa only [Rep] using h
  | .tup ds, v, h => by
    simp only [Rep] at h ⊢
    obtain ⟨a, vs, h1, h2, h3⟩ := h
    exact ⟨a, vs, h1, h2.imp (fun h => ⟨Rd.upd h.1 (Free.ne h.2 hp), h.2⟩) id, Reps.grow hp h3⟩
  | .imm ds, v, h => by
    simp only [Rep] at h ⊢
    obtain ⟨a, vs, h1, h2, h3⟩ := h
    exact ⟨a, vs, h1, ⟨by rw [upd_ne (Free.ne h2.2 hp)]; exact h2.1, h2.2⟩, Reps.grow hp h3⟩
  | .scr ds, v, h => by
    simp only [Rep] at h ⊢
    obtain ⟨a, vs, h1, h2, h3⟩ := h
    exact ⟨a, vs, h1, h2.imp (fun h => ⟨Rd.upd h.1 (Free.ne h.2 hp), h.2⟩) id, Reps.grow hp h3⟩
  | .cel n, v, h => by simp only [Rep] at h ⊢; exact h
  | .dic n, v, h => by simp only [Rep] at h ⊢; exact h
theorem Reps.grow {p : Addr} {o : HO} (hp : p ∈ I.p) : ∀ {ds : List D} {vs : List V}, Reps K I H ds vs → Reps K I (upd H p o) ds vs
  | [], vs, h => by simpa only [Reps] using h
  | d :: ds, vs, h => by
    simp only [Reps] at h ⊢
    obtain ⟨v, r, h1, h2, h3⟩ := h
    exact ⟨v, r, h1, Rep.grow hp h2, Reps.grow hp h3⟩
end
theorem Sto.hide (S : Sto K I H M) {p : Addr} {o : HO} (hp : H p = none) : Sto K (I.hide p) (upd H p o) M := by
  refine ⟨S.len, S.nodup, fun n a ds h1 h2 => ?_, fun n a ds h1 h2 => ?_, S.sub, fun a ha => ?_⟩
  · obtain ⟨vs, e, r⟩ := S.at_ n a ds h1 h2
    exact ⟨vs, by rw [upd_ne (ne_of_none e hp)]; exact e, (Ext.hide hp).reps r⟩
  · obtain ⟨vs, e, r⟩ := S.atD n a ds h1 h2
    exact ⟨vs, by rw [upd_ne (ne_of_none e hp)]; exact e, (Ext.hide hp).kv r⟩
  · rcases List.mem_cons.mp ha with e | ha
    · subst e; exact ⟨(S.fresh hp).1, o, upd_same⟩
    · obtain ⟨h1, u, e⟩ := S.dis a ha
      exact ⟨h1, u, by rw [upd_ne (ne_of_none e hp)]; exact e⟩
theorem Sto.show {p : Addr} (S : Sto K I H M) : Sto K (I.show p) H M :=
  ⟨S.len, S.nodup, fun n a ds h1 h2 => let ⟨vs, e, r⟩ := S.at_ n a ds h1 h2; ⟨vs, e, r.show⟩, fun n a ds h1 h2 => let ⟨vs, e, r⟩ := S.atD n a ds h1 h2; ⟨vs, e, r.imp fun _ _ => Rep.show⟩, S.sub, fun a ha => S.dis a (List.mem_filter.mp ha).1⟩
theorem Sto.grow {p : Addr} {o : HO} (S : Sto K I H M) (hp : p ∈ I.p) : Sto K I (upd H p o) M := by
  refine ⟨S.len, S.nodup, fun n a ds h1 h2 => ?_, fun n a ds h1 h2 => ?_, S.sub, fun a ha => ⟨(S.dis a ha).1, ?_⟩⟩
  · obtain ⟨vs, e, r⟩ := S.at_ n a ds h1 h2
    have na : a ≠ p := fun z => (S.dis p hp).1 (by rw [← z]; exact List.mem_of_getElem? h1.1)
    exact ⟨vs, by rw [upd_ne na]; exact e, r.grow hp⟩
  · obtain ⟨vs, e, r⟩ := S.atD n a ds h1 h2
    have na : a ≠ p := fun z => (S.dis p hp).1 (by rw [← z]; exact List.mem_of_getElem? h1.1)
    exact ⟨vs, by rw [upd_ne na]; exact e, r.imp fun _ _ => Rep.grow hp⟩
  · by_cases q : a = p
    · subst q; exact ⟨o, upd_same⟩
    · obtain ⟨_, u, e⟩ := S.dis a ha
      exact ⟨u, by rw [upd_ne q]; exact e⟩
theorem Ext.show {p : Addr} (e : Ext I H I' H') (hp : p ∉ I.p) : Ext I H (I'.show p) H' := by
  refine ⟨?_, e.pre, e.keep, e.trk, e.dic⟩
  obtain ⟨l, q, hl⟩ := e.prv
  refine ⟨l.filter fun b => decide (b ≠ p), ?_, fun a ha => hl a (List.mem_filter.mp ha).1⟩
  show I'.p.filter _ = _
  rw [q, List.filter_append]
  congr 1
  refine List.filter_eq_self.mpr fun a ha => decide_eq_true fun z => hp (by rw [← z]; exact ha)
theorem Ext.grow {p : Addr} {o : HO} (e : Ext I H I' H') (h : H p = none) : Ext I H I' (upd H' p o) :=
  ⟨e.prv, e.pre, fun a u ha n => by rw [upd_ne (ne_of_none ha h)]; exact e.keep a u ha n, fun a u ha => by rw [upd_ne (ne_of_none ha h)]; exact e.trk a u ha, e.dic⟩
theorem Ext.mem {p : Addr} (e : Ext I H I' H') (h : p ∈ I.p) : p ∈ I'.p := by
  obtain ⟨l, q, _⟩ := e.prv
  rw [q]; exact List.mem_append_right _ h

/-- the slots of a frame -/
structure RepE (K : PySem.W.Frag) (I : Ow) (H : Hp) (en : Env) (σ : L2.St) : Prop where
  len : en.length = σ.length
  at_ : ∀ (i : Nat) (d : D), en[i]? = some (some d) → ∃ v, σ[i]? = some (some v) ∧ Rep K I H d v
theorem RepE.mono {en : Env} {σ : L2.St} (r : RepE K I H en σ) (e : Ext I H I' H') : RepE K I' H' en σ :=
  ⟨r.len, fun i d h => let ⟨v, h1, h2⟩ := r.at_ i d h; ⟨v, h1, e.rep h2⟩⟩
theorem RepE.set {en : Env} {σ : L2.St} (r : RepE K I H en σ) (i : Nat) {d : D} {v : V} (g : Rep K I H d v) : RepE K I H (en.set i (some d)) (σ.set i (some v)) := by
  refine ⟨by simp [r.len], fun j e h => ?_⟩
  by_cases q : j = i
  · subst q
    have hj : j < en.length := by
      have := (List.getElem?_eq_some_iff.mp h).1
      simpa using this
    rw [List.getElem?_set_self hj] at h
    cases h
    exact ⟨v, by rw [List.getElem?_set_self (by rw [← r.len]; exact hj)], g⟩
  · rw [List.getElem?_set_ne (Ne.symm q)] at h
    obtain ⟨u, h1, h2⟩ := r.at_ j e h
    exact ⟨u, by rw [List.getElem?_set_ne (Ne.symm q)]; exact h1, h2⟩
theorem RepE.unset {en : Env} {σ : L2.St} (r : RepE K I H en σ) (i : Nat) (y : Option V) : RepE K I H (en.set i none) (σ.set i y) := by
  refine ⟨by simp [r.len], fun j e h => ?_⟩
  by_cases q : j = i
  · subst q
    have hj : j < en.length := by
      have := (List.getElem?_eq_some_iff.mp h).1
      simpa using this
    rw [List.getElem?_set_self hj] at h
    cases h
  · rw [List.getElem?_set_ne (Ne.symm q)] at h
    obtain ⟨u, h1, h2⟩ := r.at_ j e h
    exact ⟨u, by rw [List.getElem?_set_ne (Ne.symm q)]; exact h1, h2⟩
def wipeE (en : Env) : List Nat → Env
  | [] => en
  | i :: r => (wipeE en r).set i none
end
end DL
/-! The data layer, part 1: what code comes to, told over plain data; expressions. -/
namespace DL
open PySem PySem.Spec PyProof.Rows L2

/-- how a piece of code ends: with a value, or with an own exception and its fields -/
inductive Out (α : Type) where
  | ok (a : α)
  | ex (c : Str) (fs : List (Str × D))
abbrev Res (α : Type) := Option (Out α × Store)
def bnd {α β : Type} (r : Res α) (k : α → Store → Res β) : Res β :=
  match r with
  | none => none
  | some (.ok a, M) => k a M
  | some (.ex c fs, M) => some (.ex c fs, M)
@[simp] theorem bnd_ok {α β : Type} {a : α} {M : Store} {k : α → Store → Res β} : bnd (some (.ok a, M)) k = k a M := rfl
@[simp] theorem bnd_none {α β : Type} {k : α → Store → Res β} : bnd none k = none := rfl
@[simp] theorem bnd_ex {α β : Type} {c : Str} {fs : List (Str × D)} {M : Store} {k : α → Store → Res β} : bnd (some (.ex c fs, M)) k = some (.ex c fs, M) := rfl
abbrev EF := Env → Store → Res D

/-- an own exception: its class, its own dict -/
def ExR (K : PySem.W.Frag) (mg : Str → Option Value) (I : Ow) (H : Hp) (c : Str) (fs : List (Str × D)) (cls : Value) (dx : Option Addr) : Prop :=
  ∃ C d vs, mg c = some (.ref C) ∧ cls = .ref C ∧ dx = some d ∧ H d = some (.xd ((fs.map (·.1)).zip vs)) ∧ I.Free d ∧ Reps K I H (fs.map (·.2)) vs

section
variable (K : PySem.W.Frag) (mg : Str → Option Value) (W : WX)
/-- what is wanted behind code that comes to o -/
def Kp {α β : Type} (R : Ow → Hp → α → β → Prop) (o : Res α) (I : Ow) (H : Hp) (σ : L2.St) (Q : β → Hp → Prop) : Prop :=
  match o with
  | none => False
  | some (.ok a, M) => ∀ I' H' b, Ext I H I' H' → Sto K I' H' M → R I' H' a b → Q b H'
  | some (.ex c fs, M) => ∀ I' H' cls dx, Ext I H I' H' → Sto K I' H' M → ExR K mg I' H' c fs cls dx → W cls dx σ H'
def TD {α β : Type} (R : Ow → Hp → α → β → Prop) (f : Env → Store → Res α) : L2.St → Hp → (β → Hp → Prop) → Prop := fun σ H Q =>
  ∃ I M en, Sto K I H M ∧ RepE K I H en σ ∧ Kp K mg W R (f en M) I H σ Q
end
abbrev RB : Ow → Hp → Bool → Bool → Prop := fun _ _ a b => a = b

structure EvE (X : Cx) (W : WX) (e : Expr) (f : EF) : Prop where
  pe : PE X e (TD X.K X.mg W (Rep X.K) f)
structure EvT (X : Cx) (W : WX) (e : Expr) (f : Env → Store → Res Bool) : Prop where
  pt : PT X e (TD X.K X.mg W RB f)
structure EvW (X : Cx) (W : WX) (e : Expr) (f : Env → Store → Res Bool) : Prop where
  pw : PW X e (TD X.K X.mg W RB f)
structure EvA (X : Cx) (W : WX) (es : List Expr) (f : Env → Store → Res (List D)) : Prop where
  pa : PA X es (TD X.K X.mg W (Reps X.K) f)

section
variable {X : Cx} {W : WX} {K : PySem.W.Frag} {mg : Str → Option Value} {I I' : Ow} {H H' : Hp} {M M' : Store} {σ : L2.St} {en : Env}
theorem Kp.bind {α β γ δ : Type} {R1 : Ow → Hp → α → β → Prop} {R2 : Ow → Hp → γ → δ → Prop} {o : Res α} {k : α → Store → Res γ} {Q1 : β → Hp → Prop} {Q2 : δ → Hp → Prop}
    (h : Kp K mg W R2 (bnd o k) I H σ Q2)
    (step : ∀ a M I1 H1 b, Ext I H I1 H1 → Sto K I1 H1 M → R1 I1 H1 a b → Kp K mg W R2 (k a M) I1 H1 σ Q2 → Q1 b H1) : Kp K mg W R1 o I H σ Q1 := by
  match o, h with
  | some (.ok a, M), h =>
    intro I1 H1 b e S r
    refine step a M I1 H1 b e S r ?_
    show Kp K mg W R2 (k a M) I1 H1 σ Q2
    have h' : Kp K mg W R2 (k a M) I H σ Q2 := h
    revert h'
    cases q : k a M with
    | none => exact id
    | some z =>
      obtain ⟨out, M2⟩ := z
      cases out with
      | ok c => exact fun h' I2 H2 b2 e2 => h' I2 H2 b2 (e.trans e2)
      | ex c fs => exact fun h' I2 H2 cls dx e2 => h' I2 H2 cls dx (e.trans e2)
  | some (.ex c fs, M), h => exact h
theorem Kp.ok {α β : Type} {R : Ow → Hp → α → β → Prop} {a : α} {Q : β → Hp → Prop} {b : β} (h : Kp K mg W R (some (.ok a, M)) I H σ Q) (S : Sto K I H M) (r : R I H a b) : Q b H := h I H b Ext.refl S r
theorem Kp.ok' {α β : Type} {R : Ow → Hp → α → β → Prop} {a : α} {Q : β → Hp → Prop} {b : β} (h : Kp K mg W R (some (.ok a, M')) I H σ Q) (e : Ext I H I' H') (S : Sto K I' H' M') (r : R I' H' a b) : Q b H' := h I' H' b e S r

theorem pe_imp {e : Expr} {t t' : TE} (h : PE X e t) (i : ∀ σ H Q, t' σ H Q → t σ H Q) : PE X e t' := ⟨fun pins s σ H Q Iv hq => h.run pins s σ H Q Iv (i σ H Q hq)⟩
theorem pt_imp {e : Expr} {t t' : TT} (h : PT X e t) (i : ∀ σ H Q, t' σ H Q → t σ H Q) : PT X e t' := ⟨fun pins s σ H Q Iv hq => h.run pins s σ H Q Iv (i σ H Q hq)⟩
theorem pw_imp {e : Expr} {t t' : TT} (h : PW X e t) (i : ∀ σ H Q, t' σ H Q → t σ H Q) : PW X e t' := ⟨fun wh pins s σ H Q Iv hq => h.run wh pins s σ H Q Iv (i σ H Q hq)⟩
theorem pa_imp {es : List Expr} {t t' : TA} (h : PA X es t) (i : ∀ σ H Q, t' σ H Q → t σ H Q) : PA X es t' := ⟨fun pos pins s σ H Q Iv hq => h.run pos pins s σ H Q Iv (i σ H Q hq)⟩
theorem ps_imp {st : Stmt} {t t' : TS} (h : PS X st t) (i : ∀ D σ H, t' D σ H → t D σ H) : PS X st t' := ⟨fun pins s σ H D Iv hq => h.run pins s σ H D Iv (i D σ H hq)⟩
theorem pss_imp {st : List Stmt} {t t' : TS} (h : PSs X st t) (i : ∀ D σ H, t' D σ H → t D σ H) : PSs X st t' := ⟨fun pins s σ H D Iv hq => h.run pins s σ H D Iv (i D σ H hq)⟩

/-! ### names and constants -/
def cVar (i : Nat) : EF := fun en M => match en[i]? with | some (some d) => some (.ok d, M) | _ => none
def cC (d : D) : EF := fun _ M => some (.ok d, M)
theorem ev_var {i : Nat} {x : Str} {pos : Pos} (hN : X.N[i]? = some x) (hv : Vis X.env.scope x) (hd : (x == ("__debug__" : Str)) = false := by decide) (hcd : (x == ("__classdict__" : Str)) = false := by decide) : EvE X W (.Name x pos) (cVar i) := by
  refine ⟨pe_imp (pe_var hN hv hd hcd) fun σ H Q h => ?_⟩
  obtain ⟨I, M, en, S, r, k⟩ := h
  unfold cVar at k
  split at k
  · rename_i d q
    obtain ⟨v, h1, h2⟩ := r.at_ i d q
    exact ⟨v, h1, k.ok S h2⟩
  · exact k.elim
theorem ev_c {e : Expr} {v : V} {d : D} (h : PE X e (tC v)) (r : ∀ I H, Rep X.K I H d v) : EvE X W e (cC d) :=
  ⟨pe_imp h fun σ H Q ⟨I, M, en, S, _, k⟩ => k.ok S (r I H)⟩
theorem ev_int {i j pos} : EvE X W (.Constant (.int i) j pos) (cC (.int i)) := ev_c pe_int fun _ _ => by simp only [Rep]
theorem ev_bl {b j pos} : EvE X W (.Constant (.bool b) j pos) (cC (.bl b)) := ev_c pe_bl fun _ _ => by simp only [Rep]
theorem ev_non {j pos} : EvE X W (.Constant .none j pos) (cC .non) := ev_c pe_non fun _ _ => by simp only [Rep]
theorem ev_str {x j pos} : EvE X W (.Constant (.str x) j pos) (cC (.str x)) := ev_c pe_str fun _ _ => by simp only [Rep]

/-! ### operators by values -/
def cOp (g : D → D → Store → Res D) (fa fb : EF) : EF := fun en M => bnd (fa en M) fun x M1 => bnd (fb en M1) fun y M2 => g x y M2
def cUn (g : D → Store → Res D) (fa : EF) : EF := fun en M => bnd (fa en M) fun x M1 => g x M1
/-- a two-place operation, over data -/
def OpD (K : PySem.W.Frag) (mg : Str → Option Value) (W : WX) (g : D → D → Store → Res D) (r : R2) : Prop :=
  ∀ x y M I H u v σ Q, Sto K I H M → Rep K I H x u → Rep K I H y v → Kp K mg W (Rep K) (g x y M) I H σ Q → r u v H Q
def UnD (K : PySem.W.Frag) (mg : Str → Option Value) (W : WX) (g : D → Store → Res D) (r : V → Hp → VK → Prop) : Prop :=
  ∀ x M I H u σ Q, Sto K I H M → Rep K I H x u → Kp K mg W (Rep K) (g x M) I H σ Q → r u H Q
theorem top_of {g : D → D → Store → Res D} {r : R2} {fa fb : EF} (hg : OpD K mg W g r) {Q : VK} (h : TD K mg W (Rep K) (cOp g fa fb) σ H Q) :
    tOp r (TD K mg W (Rep K) fa) (TD K mg W (Rep K) fb) σ H Q := by
  obtain ⟨I, M, en, S, r, k⟩ := h
  refine ⟨I, M, en, S, r, k.bind fun x M1 I1 H1 u e1 S1 r1 k1 => ?_⟩
  refine ⟨I1, M1, en, S1, r.mono e1, k1.bind fun y M2 I2 H2 v e2 S2 r2 k2 => ?_⟩
  exact hg x y M2 I2 H2 u v σ Q S2 (e2.rep r1) r2 k2
theorem ev_op {a b : Expr} {op : Operator} {pos : Pos} {g : D → D → Store → Res D} {r : R2} {fa fb : EF} (ho : OpR X (binaryOp op) r) (hg : OpD X.K X.mg W g r) (ha : EvE X W a fa) (hb : EvE X W b fb) : EvE X W (.BinOp a op b pos) (cOp g fa fb) :=
  ⟨pe_imp (pe_op ho ha.pe hb.pe) fun _ _ _ h => top_of hg h⟩
theorem ev_un {a : Expr} {op : UnaryOp} {pos : Pos} {g : D → Store → Res D} {r : V → Hp → VK → Prop} {fa : EF} (ho : UnR X (unaryOp op) r) (hg : UnD X.K X.mg W g r) (ha : EvE X W a fa) : EvE X W (.UnaryOp op a pos) (cUn g fa) := by
  refine ⟨pe_imp (pe_un ho ha.pe) fun σ H Q h => ?_⟩
  obtain ⟨I, M, en, S, r, k⟩ := h
  exact ⟨I, M, en, S, r, k.bind fun x M1 I1 H1 u e1 S1 r1 k1 => hg x M1 I1 H1 u σ Q S1 r1 k1⟩
/-- on two ints -/
def gI (C : Int → Int → Bool) (f : Int → Int → D) : D → D → Store → Res D := fun x y M => match x, y with
  | .int i, .int j => if C i j = true then some (.ok (f i j), M) else none
  | _, _ => none
def yes2 : Int → Int → Bool := fun _ _ => true
theorem opd_I {C : Int → Int → Prop} {c : Int → Int → Bool} {f : Int → Int → D} {g : Int → Int → V} (hc : ∀ i j, c i j = true → C i j) (hf : ∀ i j I H, Rep K I H (f i j) (g i j)) : OpD K mg W (gI c f) (rI C g) := by
  intro x y M I H u v σ Q S rx ry k
  unfold gI at k
  split at k
  · rename_i i j
    simp only [Rep] at rx ry
    split at k
    · rename_i q
      exact ⟨i, j, rx, ry, hc i j q, k.ok S (hf i j I H)⟩
    · exact k.elim
  · exact k.elim
theorem opd_I0 {f : Int → Int → D} {g : Int → Int → V} (hf : ∀ i j I H, Rep K I H (f i j) (g i j)) : OpD K mg W (gI yes2 f) (rI0 g) := by
  intro x y M I H u v σ Q S rx ry k
  unfold gI at k
  split at k
  · rename_i i j
    simp only [Rep] at rx ry
    exact ⟨i, j, rx, ry, Kp.ok (K := K) (mg := mg) (W := W) (R := Rep K) (a := f i j) k S (hf i j I H)⟩
  · exact k.elim
theorem rep_int {i : Int} : Rep K I H (.int i) (.int i) := by simp only [Rep]
theorem rep_bl {b : Bool} : Rep K I H (.bl b) (.bl b) := by simp only [Rep]
theorem rep_str {b : Str} : Rep K I H (.str b) (.str b) := by simp only [Rep]
theorem rep_non : Rep K I H .non .non := by simp only [Rep]
abbrev gAdd : D → D → Store → Res D := gI yes2 fun i j => .int (i + j)
abbrev gSub : D → D → Store → Res D := gI yes2 fun i j => .int (i - j)
/-- a factor within 64 bits, or both together within a million -/
def mulC (i j : Int) : Bool := decide (-(2 ^ 64) < i ∧ i < 2 ^ 64) || decide (-(2 ^ 64) < j ∧ j < 2 ^ 64) || decide (i.natAbs.log2 + j.natAbs.log2 < 1000000)
abbrev gMul : D → D → Store → Res D := gI mulC fun i j => .int (i * j)
end
end DL
/-! The data layer, part 2: comparisons, tests, displays, subscripts, calls of built-ins. -/
namespace DL
open PySem PySem.Spec PyProof.Rows L2
section
variable {X : Cx} {W : WX} {K : PySem.W.Frag} {mg : Str → Option Value} {I I' : Ow} {H H' : Hp} {M M' : Store} {σ : L2.St} {en : Env}

/-! ### arithmetic -/
theorem op_mulC : OpR X (binaryOp .Mult) (rI (fun i j => mulC i j = true) fun i j => .int (i * j)) := opI fun i j _ _ _ _ _ hc q => by
  refine mul_int q ?_
  unfold mulC at hc
  rw [Bool.or_eq_true, Bool.or_eq_true, decide_eq_true_eq, decide_eq_true_eq, decide_eq_true_eq] at hc
  rcases hc with (⟨h1, h2⟩ | ⟨h1, h2⟩) | h
  · exact .of_left (intBits_le_64 h1 h2)
  · exact .of_right (intBits_le_64 h1 h2)
  · exact CMulW.ok h
theorem opd_add : OpD K mg W gAdd (rI0 fun i j => .int (i + j)) := opd_I0 fun _ _ _ _ => rep_int
theorem opd_sub : OpD K mg W gSub (rI0 fun i j => .int (i - j)) := opd_I0 fun _ _ _ _ => rep_int
theorem opd_mul : OpD K mg W gMul (rI (fun i j => mulC i j = true) fun i j => .int (i * j)) := opd_I (fun _ _ h => h) fun _ _ _ _ => rep_int
def divC (_ j : Int) : Bool := decide (0 < j) && decide (j.natAbs.log2 < 9000)
abbrev gDiv : D → D → Store → Res D := gI divC fun i j => .int (i / j)
theorem opd_div : OpD K mg W gDiv (rI CDivW fun i j => .int (i / j)) := opd_I (fun i j h => by
  unfold divC at h
  rw [Bool.and_eq_true, decide_eq_true_eq, decide_eq_true_eq] at h
  exact h) fun _ _ _ _ => rep_int
def modC (_ j : Int) : Bool := decide (0 < j)
abbrev gMod : D → D → Store → Res D := gI modC fun i j => .int (i % j)
theorem opd_mod : OpD K mg W gMod (rI (fun _ j => 0 < j) fun i j => .int (i % j)) := opd_I (fun i j h => of_decide_eq_true h) fun _ _ _ _ => rep_int
def powC (i j : Int) : Bool := decide (0 ≤ j) && (decide (j ≤ 1000000) && decide (i.natAbs < 2 ^ 64))
theorem powC_ok {i j : Int} (h : powC i j = true) : CPow i j := by
  unfold powC at h
  rw [Bool.and_eq_true, Bool.and_eq_true, decide_eq_true_eq, decide_eq_true_eq, decide_eq_true_eq] at h
  exact h
abbrev gPow : D → D → Store → Res D := gI powC fun i j => .int (i ^ j.toNat)
abbrev gShl : D → D → Store → Res D := gI powC fun i j => .int (i * 2 ^ j.toNat)
theorem opd_pow : OpD K mg W gPow (rI CPow fun i j => .int (i ^ j.toNat)) := opd_I (fun _ _ => powC_ok) fun _ _ _ _ => rep_int
theorem opd_shl : OpD K mg W gShl (rI CPow fun i j => .int (i * 2 ^ j.toNat)) := opd_I (fun _ _ => powC_ok) fun _ _ _ _ => rep_int
def gNeg : D → Store → Res D := fun x M => match x with | .int i => some (.ok (.int (-i)), M) | _ => none
theorem und_neg : UnD K mg W gNeg (rU fun i => .int (-i)) := by
  intro x M I H u σ Q S rx k
  unfold gNeg at k
  split at k
  · simp only [Rep] at rx
    exact ⟨_, rx, k.ok S rep_int⟩
  · exact k.elim

/-! ### comparisons -/
abbrev gLt : D → D → Store → Res D := gI yes2 fun i j => .bl (decide (i < j))
abbrev gLe : D → D → Store → Res D := gI yes2 fun i j => .bl (decide (i ≤ j))
abbrev gGt : D → D → Store → Res D := gI yes2 fun i j => .bl (decide (j < i))
abbrev gGe : D → D → Store → Res D := gI yes2 fun i j => .bl (decide (j ≤ i))
theorem opd_lt : OpD K mg W gLt (rI0 fun i j => .bl (decide (i < j))) := opd_I0 fun _ _ _ _ => rep_bl
theorem opd_le : OpD K mg W gLe (rI0 fun i j => .bl (decide (i ≤ j))) := opd_I0 fun _ _ _ _ => rep_bl
theorem opd_gt : OpD K mg W gGt (rI0 fun i j => .bl (decide (j < i))) := opd_I0 fun _ _ _ _ => rep_bl
theorem opd_ge : OpD K mg W gGe (rI0 fun i j => .bl (decide (j ≤ i))) := opd_I0 fun _ _ _ _ => rep_bl
theorem ev_cmp {a b : Expr} {op : CmpOp} {pos : Pos} {g : D → D → Store → Res D} {r : R2} {fa fb : EF} (ho : OpR X (compareOp op) r) (hg : OpD X.K X.mg W g r) (ha : EvE X W a fa) (hb : EvE X W b fb) (hm : behindInMarks op b = false) : EvE X W (.Compare a [op] [b] pos) (cOp g fa fb) :=
  ⟨pe_imp (pe_cmpR ho ha.pe hb.pe hm) fun _ _ _ h => top_of hg h⟩

/-! deep comparison -/
mutual
def toPy : D → Option PyData
  | .non => some .none
  | .bl b => some (.bool b)
  | .int i => some (.int i)
  | .str s => some (.str s)
  | .tup ds => (toPys ds).map .tuple
  | .imm ds => (toPys ds).map .list
  | .cel _ => none
  | .dic _ => none
  | .ty _ => none
  | .scr _ => none
def toPys : List D → Option (List PyData)
  | [] => some []
  | d :: ds => match toPy d, toPys ds with | some x, some xs => some (x :: xs) | _, _ => none
end
def toPyM (M : Store) : D → Option PyData
  | .cel n => match M[n]? with | some ds => (toPys ds).map .list | none => none
  | d => toPy d
mutual
theorem dp_of : ∀ {d : D} {v : V} {x : PyData}, Rep K I H d v → toPy d = some x → Dp K H v x
  | .non, v, x, h, e => by simp only [Rep] at h; subst h; simp only [toPy, Option.some.injEq] at e; subst e; exact .non
  | .bl b, v, x, h, e => by simp only [Rep] at h; subst h; simp only [toPy, Option.some.injEq] at e; subst e; exact .bl b
  | .int i, v, x, h, e => by simp only [Rep] at h; subst h; simp only [toPy, Option.some.injEq] at e; subst e; exact .int i
  | .str s, v, x, h, e => by simp only [Rep] at h; subst h; simp only [toPy, Option.some.injEq] at e; subst e; exact .str s
  | .tup ds, v, x, h, e => by
    simp only [Rep] at h
    obtain ⟨a, vs, rfl, h2, h3⟩ := h
    simp only [toPy, Option.map_eq_some_iff] at e
    obtain ⟨xs, e1, rfl⟩ := e
    exact .tup h2.sq (dps_of h3 e1)
  | .imm ds, v, x, h, e => by
    simp only [Rep] at h
    obtain ⟨a, vs, rfl, h2, h3⟩ := h
    simp only [toPy, Option.map_eq_some_iff] at e
    obtain ⟨xs, e1, rfl⟩ := e
    exact .lst (.inl (.inl h2.1)) (dps_of h3 e1)
  | .scr ds, v, x, h, e => by simp only [toPy] at e; cases e
  | .cel n, v, x, h, e => by simp only [toPy] at e; cases e
  | .dic n, v, x, h, e => by simp only [toPy] at e; cases e
  | .ty n, v, x, h, e => by simp only [toPy] at e; cases e
theorem dps_of : ∀ {ds : List D} {vs : List V} {xs : List PyData}, Reps K I H ds vs → toPys ds = some xs → DpAll K H vs xs
  | [], vs, xs, h, e => by simp only [Reps] at h; subst h; simp only [toPys, Option.some.injEq] at e; subst e; exact .nil
  | d :: ds, vs, xs, h, e => by
    simp only [Reps] at h
    obtain ⟨v, r, rfl, h2, h3⟩ := h
    simp only [toPys] at e
    split at e
    · rename_i y ys e1 e2
      cases e
      exact .cons (dp_of h2 e1) (dps_of h3 e2)
    · cases e
end
theorem dpM_of {d : D} {v : V} {x : PyData} (S : Sto K I H M) (h : Rep K I H d v) (e : toPyM M d = some x) : Dp K H v x := by
  cases d with
  | cel n =>
    simp only [Rep] at h
    obtain ⟨a, rfl, h2⟩ := h
    unfold toPyM at e
    dsimp only at e
    split at e
    · rename_i ds q
      obtain ⟨vs, h3, h4⟩ := S.at_ n a ds h2 q
      rw [Option.map_eq_some_iff] at e
      obtain ⟨xs, e1, rfl⟩ := e
      exact .lst (.inl (.inl h3)) (dps_of h4 e1)
    · cases e
  | _ => exact dp_of h (by simpa only [toPyM] using e)
def eqM (M : Store) (x y : D) : Option Bool :=
  match toPyM M x, toPyM M y with
  | some a, some b => if (SeqAt.shaped a && SeqAt.shaped b) = true then some (PyData.eqv a b) else none
  | _, _ => none
def gEq (neg : Bool) : D → D → Store → Res D := fun x y M => match x, y with
  | .str s, .str t => some (.ok (.bl (if neg = true then !(s == t) else s == t)), M)
  | x, y => match eqM M x y with | some b => some (.ok (.bl (if neg = true then !b else b)), M) | none => none
/-- data, or two texts -/
abbrev rEqA (K : PySem.W.Frag) : R2 := fun x y H Q => rEqD K x y H Q ∨ rEq x y H Q
abbrev rNeA (K : PySem.W.Frag) : R2 := fun x y H Q => rNeD K x y H Q ∨ rNe x y H Q
theorem op_eqA (hu : X.A.units + 64 < cLine) : OpR X (compareOp .Eq) (rEqA X.K) := OpR.or (op_eqD hu) op_eq
theorem op_neA (hu : X.A.units + 64 < cLine) : OpR X (compareOp .NotEq) (rNeA X.K) := OpR.or (op_neD hu) op_ne
theorem eqM_some {x y : D} {u v : V} {b : Bool} (S : Sto K I H M) (rx : Rep K I H x u) (ry : Rep K I H y v) (h : eqM M x y = some b) :
    ∃ d e, Dp K H u d ∧ Dp K H v e ∧ SeqAt.shaped d = true ∧ SeqAt.shaped e = true ∧ PyData.eqv d e = b := by
  unfold eqM at h
  split at h
  · rename_i d e h1 h2
    split at h
    · rename_i q
      rw [Bool.and_eq_true] at q
      exact ⟨d, e, dpM_of S rx h1, dpM_of S ry h2, q.1, q.2, Option.some.inj h⟩
    · cases h
  · cases h
theorem opd_eq : OpD K mg W (gEq false) (rEqA K) := by
  intro x y M I H u v σ Q S rx ry k
  unfold gEq at k
  split at k
  · simp only [Rep] at rx ry
    subst rx; subst ry
    exact .inr ⟨rfl, by rw [dec_str]; exact k.ok S rep_bl⟩
  · split at k
    · rename_i b q
      obtain ⟨d, e, h1, h2, h3, h4, rfl⟩ := eqM_some S rx ry q
      exact .inl ⟨d, e, h1, h2, h3, h4, k.ok S rep_bl⟩
    · exact k.elim
theorem opd_ne : OpD K mg W (gEq true) (rNeA K) := by
  intro x y M I H u v σ Q S rx ry k
  unfold gEq at k
  split at k
  · simp only [Rep] at rx ry
    subst rx; subst ry
    exact .inr ⟨rfl, by rw [dec_str]; exact k.ok S rep_bl⟩
  · split at k
    · rename_i b q
      obtain ⟨d, e, h1, h2, h3, h4, rfl⟩ := eqM_some S rx ry q
      exact .inl ⟨d, e, h1, h2, h3, h4, k.ok S rep_bl⟩
    · exact k.elim
/-- is None, is not None -/
def isNone : D → Bool
  | .non => true
  | _ => false
def gIsN (neg : Bool) : D → D → Store → Res D := fun x y M => match y with
  | .non => some (.ok (.bl (if neg = true then !isNone x else isNone x)), M)
  | _ => none
theorem rep_none {x : D} {v : V} (h : Rep K I H x v) : decide (v = .non) = isNone x := by
  cases x <;> simp only [Rep] at h
  · subst h; rfl
  · subst h; rfl
  · subst h; rfl
  · subst h; rfl
  · obtain ⟨_, _, rfl, _⟩ := h; rfl
  · obtain ⟨_, _, rfl, _⟩ := h; rfl
  · obtain ⟨_, rfl, _⟩ := h; rfl
  · subst h; rfl
  · obtain ⟨_, _, rfl, _⟩ := h; rfl
  · obtain ⟨_, rfl, _⟩ := h; rfl
theorem opd_isN : OpD K mg W (gIsN false) (fun x y H Q => y = .non ∧ Q (.bl (decide (x = .non))) H) := by
  intro x y M I H u v σ Q S rx ry k
  unfold gIsN at k
  split at k
  · simp only [Rep] at ry
    exact ⟨ry, k.ok S (by rw [rep_none rx]; exact rep_bl)⟩
  · exact k.elim
theorem opd_notN : OpD K mg W (gIsN true) (fun x y H Q => y = .non ∧ Q (.bl (!decide (x = .non))) H) := by
  intro x y M I H u v σ Q S rx ry k
  unfold gIsN at k
  split at k
  · simp only [Rep] at ry
    exact ⟨ry, k.ok S (by rw [rep_none rx]; exact rep_bl)⟩
  · exact k.elim
/-- is True, is False: of bools -/
def gIsB (neg : Bool) : D → D → Store → Res D := fun x y M => match x, y with
  | .bl a, .bl b => some (.ok (.bl (if neg = true then !decide (a = b) else decide (a = b))), M)
  | _, _ => none
theorem opd_isB : OpD K mg W (gIsB false) rIsB := by
  intro x y M I H u v σ Q S rx ry k
  unfold gIsB at k
  split at k
  · simp only [Rep] at rx ry
    exact ⟨_, _, rx, ry, k.ok S rep_bl⟩
  · exact k.elim
theorem opd_notB : OpD K mg W (gIsB true) rNotB := by
  intro x y M I H u v σ Q S rx ry k
  unfold gIsB at k
  split at k
  · simp only [Rep] at rx ry
    exact ⟨_, _, rx, ry, k.ok S rep_bl⟩
  · exact k.elim

/-! ### truth; and, or, not -/
def tru (M : Store) : D → Option Bool
  | .non => some false
  | .bl b => some b
  | .int i => some (i != 0)
  | .str s => if s.length ≤ sizeLine then some ((s.length : Int) != 0) else none
  | .tup ds => some (!ds.isEmpty)
  | .imm ds => some (!ds.isEmpty)
  | .cel n => match M[n]? with | some ds => some (!ds.isEmpty) | none => none
  | .ty _ => none
  | .dic _ => none
  | .scr ds => some (!ds.isEmpty)
theorem isEmpty_reps {ds : List D} {vs : List V} (h : Reps K I H ds vs) : (!ds.isEmpty) = !vs.isEmpty := by
  cases ds with
  | nil => simp only [Reps] at h; subst h; rfl
  | cons d r => simp only [Reps] at h; obtain ⟨_, _, rfl, _⟩ := h; rfl
theorem tru_of {x : D} {v : V} {b : Bool} (S : Sto K I H M) (h : Rep K I H x v) (e : tru M x = some b) : TruV K v H b := by
  cases x <;> simp only [Rep] at h
  · subst h; simp only [tru, Option.some.injEq] at e; exact e.symm
  · subst h; simp only [tru, Option.some.injEq] at e; exact e.symm
  · subst h; simp only [tru, Option.some.injEq] at e; exact e.symm
  · subst h
    unfold tru at e
    dsimp only at e
    split at e
    · rename_i q
      exact ⟨q, (Option.some.inj e).symm⟩
    · cases e
  · obtain ⟨a, vs, rfl, h2, h3⟩ := h
    simp only [tru, Option.some.injEq] at e
    exact .inr (.inl ⟨vs, h2.sq, by rw [← e]; exact isEmpty_reps h3⟩)
  · obtain ⟨a, vs, rfl, h2, h3⟩ := h
    simp only [tru, Option.some.injEq] at e
    exact .inl ⟨vs, .inl (.inl h2.1), by rw [← e]; exact isEmpty_reps h3⟩
  · obtain ⟨a, rfl, h2⟩ := h
    unfold tru at e
    dsimp only at e
    split at e
    · rename_i ds q
      obtain ⟨vs, h3, h4⟩ := S.at_ _ a ds h2 q
      exact .inl ⟨vs, .inl (.inl h3), by rw [← Option.some.inj e]; exact isEmpty_reps h4⟩
    · cases e
  · simp only [tru] at e; cases e
  · obtain ⟨a, vs, rfl, h2, h3⟩ := h
    simp only [tru, Option.some.injEq] at e
    exact .inl ⟨vs, h2.sq, by rw [← e]; exact isEmpty_reps h3⟩
  · simp only [tru] at e; cases e
def cAnd (fa fb : EF) : EF := fun en M => bnd (fa en M) fun x M1 => match tru M1 x with | some true => fb en M1 | some false => some (.ok x, M1) | none => none
def cOr (fa fb : EF) : EF := fun en M => bnd (fa en M) fun x M1 => match tru M1 x with | some true => some (.ok x, M1) | some false => fb en M1 | none => none
def cNot (fa : EF) : EF := fun en M => bnd (fa en M) fun x M1 => match tru M1 x with | some b => some (.ok (.bl (!b)), M1) | none => none
variable {a b c e : Expr} {rest : List Expr} {pos : Pos} {fa fb fc : EF}
theorem ev_one {op} (h : EvE X W a fa) : EvE X W (.BoolOp op [a] pos) fa := ⟨pe_one h.pe⟩
theorem ev_and (ha : EvE X W a fa) (hb : EvE X W (.BoolOp .And (b :: rest) pos) fb) : EvE X W (.BoolOp .And (a :: b :: rest) pos) (cAnd fa fb) := by
  refine ⟨pe_imp (pe_andT ha.pe hb.pe) fun σ H Q h => ?_⟩
  obtain ⟨I, M, en, S, r, k⟩ := h
  refine ⟨I, M, en, S, r, k.bind fun x M1 I1 H1 u e1 S1 r1 k1 => ?_⟩
  split at k1
  · rename_i q; exact ⟨true, tru_of S1 r1 q, (if_pos rfl).mpr ⟨I1, M1, en, S1, r.mono e1, k1⟩⟩
  · rename_i q; exact ⟨false, tru_of S1 r1 q, (if_neg Bool.false_ne_true).mpr (k1.ok S1 r1)⟩
  · exact k1.elim
theorem ev_or (ha : EvE X W a fa) (hb : EvE X W (.BoolOp .Or (b :: rest) pos) fb) : EvE X W (.BoolOp .Or (a :: b :: rest) pos) (cOr fa fb) := by
  refine ⟨pe_imp (pe_orT ha.pe hb.pe) fun σ H Q h => ?_⟩
  obtain ⟨I, M, en, S, r, k⟩ := h
  refine ⟨I, M, en, S, r, k.bind fun x M1 I1 H1 u e1 S1 r1 k1 => ?_⟩
  split at k1
  · rename_i q; exact ⟨true, tru_of S1 r1 q, (if_pos rfl).mpr (k1.ok S1 r1)⟩
  · rename_i q; exact ⟨false, tru_of S1 r1 q, (if_neg Bool.false_ne_true).mpr ⟨I1, M1, en, S1, r.mono e1, k1⟩⟩
  · exact k1.elim
theorem ev_not (ha : EvE X W a fa) : EvE X W (.UnaryOp .Not a pos) (cNot fa) := by
  refine ⟨pe_imp (pe_notT ha.pe) fun σ H Q h => ?_⟩
  obtain ⟨I, M, en, S, r, k⟩ := h
  refine ⟨I, M, en, S, r, k.bind fun x M1 I1 H1 u e1 S1 r1 k1 => ?_⟩
  split at k1
  · rename_i q; exact ⟨_, tru_of S1 r1 q, k1.ok S1 rep_bl⟩
  · exact k1.elim

/-! ### tests -/
abbrev TF := Env → Store → Res Bool
def cTru (fa : EF) : TF := fun en M => bnd (fa en M) fun x M1 => match tru M1 x with | some b => some (.ok b, M1) | none => none
def tAndC (t u : TF) : TF := fun en M => bnd (t en M) fun x M1 => if x = true then u en M1 else some (.ok false, M1)
def tOrC (t u : TF) : TF := fun en M => bnd (t en M) fun x M1 => if x = true then some (.ok true, M1) else u en M1
def tNotC (t : TF) : TF := fun en M => bnd (t en M) fun x M1 => some (.ok (!x), M1)
variable {t u : TF}
theorem et_tru (ha : EvE X W a fa) (he : ∀ whole, isTrue a X.env whole = (do let v ← whole; standAt a.pos; holding [v] (truthy v)) := by intro _; rfl) : EvT X W a (cTru fa) := by
  refine ⟨pt_imp (pt_truth ha.pe he) fun σ H Q h => ?_⟩
  obtain ⟨I, M, en, S, r, k⟩ := h
  refine ⟨I, M, en, S, r, k.bind fun x M1 I1 H1 u e1 S1 r1 k1 => ?_⟩
  split at k1
  · rename_i b q; exact ⟨b, tru_of S1 r1 q, k1.ok S1 rfl⟩
  · exact k1.elim
theorem test_imp {σ : L2.St} {H : Hp} {Q : Bool → Hp → Prop} {te : TE} {f : EF} (i : ∀ Q', TD X.K X.mg W (Rep X.K) f σ H Q' → te σ H Q') (h : TD X.K X.mg W RB (cTru f) σ H Q) (hb : ∀ en M x M', f en M = some (.ok x, M') → ∃ b, x = .bl b) : tTest te σ H Q := by
  obtain ⟨I, M, en, S, r, k⟩ := h
  refine i _ ⟨I, M, en, S, r, ?_⟩
  unfold cTru at k
  revert k
  cases q : f en M with
  | none => exact id
  | some z =>
    obtain ⟨o, M1⟩ := z
    cases o with
    | ex c fs => exact id
    | ok x =>
      obtain ⟨b, rfl⟩ := hb en M x M1 q
      intro k I1 H1 u e1 S1 r1
      simp only [Rep] at r1
      subst r1
      exact ⟨b, rfl, k I1 H1 b e1 S1 rfl⟩
theorem gI_bl {C : Int → Int → Bool} {p : Int → Int → Bool} {f : EF} {g : EF} : ∀ en M x M', cOp (gI C fun i j => .bl (p i j)) f g en M = some (.ok x, M') → ∃ b, x = .bl b := by
  intro en M x M' h
  unfold cOp at h
  match q : f en M, h with
  | some (.ok a, M1), h =>
    have h : bnd (g en M1) (fun y M2 => gI C (fun i j => .bl (p i j)) a y M2) = some (.ok x, M') := h
    match q2 : g en M1, h with
    | some (.ok b, M2), h =>
      have h : gI C (fun i j => .bl (p i j)) a b M2 = some (.ok x, M') := h
      unfold gI at h
      split at h
      · split at h
        · cases h; exact ⟨_, rfl⟩
        · cases h
      · cases h
theorem gB_bl {gg : D → D → Store → Res D} (hg : ∀ a b M x M', gg a b M = some (.ok x, M') → ∃ b, x = .bl b) {f g : EF} : ∀ en M x M', cOp gg f g en M = some (.ok x, M') → ∃ b, x = .bl b := by
  intro en M x M' h
  unfold cOp at h
  match q : f en M, h with
  | some (.ok a, M1), h =>
    have h : bnd (g en M1) (fun y M2 => gg a y M2) = some (.ok x, M') := h
    match q2 : g en M1, h with
    | some (.ok b, M2), h => exact hg a b M2 x M' h
theorem et_cmp {op : CmpOp} {g : D → D → Store → Res D} {r : R2} (ho : OpR X (compareOp op) r) (hg : OpD X.K X.mg W g r) (hb' : ∀ a b M x M', g a b M = some (.ok x, M') → ∃ b, x = .bl b) (ha : EvE X W a fa) (hb : EvE X W b fb) (hm : behindInMarks op b = false) : EvT X W (.Compare a [op] [b] pos) (cTru (cOp g fa fb)) :=
  ⟨pt_imp (pt_cmpR ho ha.pe hb.pe hm) fun _ _ _ h => test_imp (fun _ h' => top_of hg h') h (gB_bl hb')⟩
theorem et_not (h : EvT X W a t) : EvT X W (.UnaryOp .Not a pos) (tNotC t) := by
  refine ⟨pt_imp (pt_not h.pt) fun σ H Q h => ?_⟩
  obtain ⟨I, M, en, S, r, k⟩ := h
  refine ⟨I, M, en, S, r, k.bind fun x M1 I1 H1 u e1 S1 r1 k1 => ?_⟩
  cases r1
  exact k1.ok S1 rfl
theorem et_W (h : EvW X W a t) : EvT X W a t := ⟨h.pw.pt⟩
theorem ew_and1 (h : EvT X W a t) : EvW X W (.BoolOp .And [a] pos) t := ⟨pw_and1 h.pt⟩
theorem ew_or1 (h : EvT X W a t) : EvW X W (.BoolOp .Or [a] pos) t := ⟨pw_or1 h.pt⟩
theorem ew_and (ha : EvT X W a t) (hb : EvW X W (.BoolOp .And (b :: rest) pos) u) : EvW X W (.BoolOp .And (a :: b :: rest) pos) (tAndC t u) := by
  refine ⟨pw_imp (pw_and ha.pt hb.pw) fun σ H Q h => ?_⟩
  obtain ⟨I, M, en, S, r, k⟩ := h
  refine ⟨I, M, en, S, r, k.bind fun x M1 I1 H1 u e1 S1 r1 k1 => ?_⟩
  cases r1
  cases x with
  | true => exact (if_pos rfl).mpr ⟨I1, M1, en, S1, r.mono e1, k1⟩
  | false => exact (if_neg Bool.false_ne_true).mpr (Kp.ok (M := M1) k1 S1 rfl)
theorem ew_or (ha : EvT X W a t) (hb : EvW X W (.BoolOp .Or (b :: rest) pos) u) : EvW X W (.BoolOp .Or (a :: b :: rest) pos) (tOrC t u) := by
  refine ⟨pw_imp (pw_or ha.pt hb.pw) fun σ H Q h => ?_⟩
  obtain ⟨I, M, en, S, r, k⟩ := h
  refine ⟨I, M, en, S, r, k.bind fun x M1 I1 H1 u e1 S1 r1 k1 => ?_⟩
  cases r1
  cases x with
  | true => exact (if_pos rfl).mpr (Kp.ok (M := M1) k1 S1 rfl)
  | false => exact (if_neg Bool.false_ne_true).mpr ⟨I1, M1, en, S1, r.mono e1, k1⟩
def cIf (t : TF) (fa fb : EF) : EF := fun en M => bnd (t en M) fun x M1 => if x = true then fa en M1 else fb en M1
theorem ev_if (hc : EvT X W c t) (ha : EvE X W a fa) (hb : EvE X W b fb) : EvE X W (.IfExp c a b pos) (cIf t fa fb) := by
  refine ⟨pe_imp (pe_ifExp hc.pt ha.pe hb.pe) fun σ H Q h => ?_⟩
  obtain ⟨I, M, en, S, r, k⟩ := h
  refine ⟨I, M, en, S, r, k.bind fun x M1 I1 H1 u e1 S1 r1 k1 => ?_⟩
  cases r1
  cases x with
  | true => exact (if_pos rfl).mpr ⟨I1, M1, en, S1, r.mono e1, k1⟩
  | false => exact (if_neg Bool.false_ne_true).mpr ⟨I1, M1, en, S1, r.mono e1, k1⟩
end
end DL
/-! The data layer, part 3: arguments, displays, subscripts, slices, concatenations, calls of built-ins. -/
namespace DL
open PySem PySem.Spec PyProof.Rows L2
def szOk (n : Nat) : Bool := decide (n ≤ 16777216)
theorem szOk_ok {n : Nat} (h : szOk n = true) : n ≤ sizeLine := by rw [sizeLine_eq]; exact of_decide_eq_true h
section
variable {X : Cx} {W : WX} {K : PySem.W.Frag} {mg : Str → Option Value} {I I' : Ow} {H H' : Hp} {M M' : Store} {σ : L2.St} {en : Env}
variable {a b c e : Expr} {es rest : List Expr} {pos : Pos} {fa fb fc : EF}

/-! ### arguments -/
abbrev AF := Env → Store → Res (List D)
def aNil : AF := fun _ M => some (.ok [], M)
def aCons (fa : EF) (fr : AF) : AF := fun en M => bnd (fa en M) fun x M1 => bnd (fr en M1) fun xs M2 => some (.ok (x :: xs), M2)
variable {fr : AF}
theorem ea_nil : EvA X W [] aNil := ⟨pa_imp pa_nil fun σ H Q ⟨I, M, en, S, r, k⟩ => k.ok S (by simp only [Reps])⟩
theorem ea_cons (ha : EvE X W e fa) (hr : EvA X W es fr) (hs : starEach (e :: es) X.env = (false, eval e X.env) :: starEach es X.env := by rfl) : EvA X W (e :: es) (aCons fa fr) := by
  refine ⟨pa_imp (pa_cons ha.pe hr.pa hs) fun σ H Q h => ?_⟩
  obtain ⟨I, M, en, S, r, k⟩ := h
  refine ⟨I, M, en, S, r, k.bind fun x M1 I1 H1 u e1 S1 r1 k1 => ?_⟩
  refine ⟨I1, M1, en, S1, r.mono e1, k1.bind fun xs M2 I2 H2 us e2 S2 r2 k2 => ?_⟩
  exact Kp.ok (M := M2) k2 S2 (Reps.cons (e2.rep r1) r2)
/-- a new tuple, at a new place -/
theorem rep_newT {p : Addr} {ds : List D} {vs : List V} (S : Sto K I H M) (hp : H p = none) (r : Reps K I H ds vs) : Rep K I (upd H p (.tup vs)) (.tup ds) (.ref p) := by
  simp only [Rep]
  exact ⟨p, vs, rfl, .inl ⟨.inl upd_same, S.fresh hp⟩, (Ext.new hp).reps r⟩
theorem rep_newL {p : Addr} {ds : List D} {vs : List V} (S : Sto K I H M) (hp : H p = none) (r : Reps K I H ds vs) : Rep K I (upd H p (.lst vs)) (.imm ds) (.ref p) := by
  simp only [Rep]
  exact ⟨p, vs, rfl, ⟨upd_same, S.fresh hp⟩, (Ext.new hp).reps r⟩
theorem rep_newC {p : Addr} {vs : List V} (S : Sto K I H M) (hp : H p = none) : Rep K (I.add p) (upd H p (.lst vs)) (.cel M.length) (.ref p) := by
  simp only [Rep]
  exact ⟨p, rfl, by rw [← S.len]; simp [Ow.add], fun z => (S.fresh hp).1 (S.sub p z)⟩
def cTup (fr : AF) : EF := fun en M => bnd (fr en M) fun ds M1 => if szOk ds.length = true then some (.ok (.tup ds), M1) else none
def cLst (fr : AF) : EF := fun en M => bnd (fr en M) fun ds M1 => if szOk ds.length = true then some (.ok (.imm ds), M1) else none
/-- a list that will be changed -/
def cCel (fr : AF) : EF := fun en M => bnd (fr en M) fun ds M1 => if szOk ds.length = true then some (.ok (.cel M1.length), M1 ++ [ds]) else none
theorem ev_tup {x1} (h : EvA X W es fr) : EvE X W (.Tuple es x1 pos) (cTup fr) := by
  refine ⟨pe_imp (pe_tup h.pa) fun σ H Q h => ?_⟩
  obtain ⟨I, M, en, S, r, k⟩ := h
  refine ⟨I, M, en, S, r, k.bind fun ds M1 I1 H1 vs e1 S1 r1 k1 => ?_⟩
  split at k1
  · rename_i q
    exact ⟨by rw [← r1.length]; exact szOk_ok q, fun p hp => k1.ok' (Ext.new hp) (S1.new hp) (rep_newT S1 hp r1)⟩
  · exact k1.elim
theorem ev_lst (h : EvA X W es fr) : EvE X W (.List es pos) (cLst fr) := by
  refine ⟨pe_imp (pe_lst h.pa) fun σ H Q h => ?_⟩
  obtain ⟨I, M, en, S, r, k⟩ := h
  refine ⟨I, M, en, S, r, k.bind fun ds M1 I1 H1 vs e1 S1 r1 k1 => ?_⟩
  split at k1
  · rename_i q
    exact ⟨by rw [← r1.length]; exact szOk_ok q, fun p hp => k1.ok' (Ext.new hp) (S1.new hp) (rep_newL S1 hp r1)⟩
  · exact k1.elim
theorem ev_cel (h : EvA X W es fr) : EvE X W (.List es pos) (cCel fr) := by
  refine ⟨pe_imp (pe_lst h.pa) fun σ H Q h => ?_⟩
  obtain ⟨I, M, en, S, r, k⟩ := h
  refine ⟨I, M, en, S, r, k.bind fun ds M1 I1 H1 vs e1 S1 r1 k1 => ?_⟩
  split at k1
  · rename_i q
    exact ⟨by rw [← r1.length]; exact szOk_ok q, fun p hp => k1.ok' (Ext.newC hp) (S1.newC hp r1) (rep_newC S1 hp)⟩
  · exact k1.elim

/-! ### the items of a sequence -/
def itemsOf (M : Store) : D → Option (List D)
  | .tup ds => some ds
  | .imm ds => some ds
  | .scr ds => some ds
  | .cel n => M[n]?
  | _ => none
theorem items_of {d : D} {v : V} {ds : List D} (S : Sto K I H M) (r : Rep K I H d v) (h : itemsOf M d = some ds) :
    ∃ p vs, v = .ref p ∧ ((∃ es, d = .tup es) ∧ SqT K H p vs ∨ SqL K H p vs) ∧ Reps K I H ds vs := by
  cases d <;> simp only [itemsOf] at h
  all_goals first | (cases h; done) | skip
  · cases h
    simp only [Rep] at r
    obtain ⟨a, vs, rfl, h2, h3⟩ := r
    exact ⟨a, vs, rfl, .inl ⟨⟨_, rfl⟩, h2.sq⟩, h3⟩
  · cases h
    simp only [Rep] at r
    obtain ⟨a, vs, rfl, h2, h3⟩ := r
    exact ⟨a, vs, rfl, .inr (.inl (.inl h2.1)), h3⟩
  · simp only [Rep] at r
    obtain ⟨a, rfl, h2⟩ := r
    obtain ⟨vs, h3, h4⟩ := S.at_ _ a ds h2 h
    exact ⟨a, vs, rfl, .inr (.inl (.inl h3)), h4⟩
  · cases h
    simp only [Rep] at r
    obtain ⟨a, vs, rfl, h2, h3⟩ := r
    exact ⟨a, vs, rfl, .inr h2.sq, h3⟩

/-! ### subscripts -/
def gIx : D → D → Store → Res D := fun x y M => match y with
  | .int i => match itemsOf M x with
    | some ds => match atI ds i with | some d => some (.ok d, M) | none => none
    | none => match x with
      | .str s => if s.length ≤ sizeLine then (match atI s.cps.toList i with | some c => some (.ok (.str ⟨#[c]⟩), M) | none => none) else none
      | _ => none
  | _ => none
theorem atI_reps {ds : List D} {vs : List V} {i : Int} {d : D} (r : Reps K I H ds vs) (h : atI ds i = some d) : ∃ v, atI vs i = some v ∧ Rep K I H d v := by
  unfold atI at h ⊢
  rw [← r.length]
  cases q : ixN ds.length i with
  | none => rw [q] at h; cases h
  | some j =>
    rw [q] at h
    exact r.get' (i := j) h
theorem opd_ix : OpD K mg W gIx (rIx K) := by
  intro x y M I H u v σ Q S rx ry k
  unfold gIx at k
  split at k
  · simp only [Rep] at ry
    subst ry
    split at k
    · rename_i ds q
      split at k
      · rename_i d q2
        obtain ⟨p, vs, rfl, hs, r⟩ := items_of S rx q
        obtain ⟨v, h1, h2⟩ := atI_reps r q2
        rcases hs with ⟨_, hs⟩ | hs
        · exact .inr (.inl ⟨p, vs, _, v, rfl, rfl, hs, h1, k.ok S h2⟩)
        · exact .inl ⟨p, vs, _, v, rfl, rfl, hs, h1, k.ok S h2⟩
      · exact k.elim
    · split at k
      · split at k
        · rename_i q3
          split at k
          · rename_i c q4
            simp only [Rep] at rx
            exact .inr (.inr ⟨_, _, c, rx, rfl, q3, q4, k.ok S rep_str⟩)
          · exact k.elim
        · exact k.elim
      · exact k.elim
  · exact k.elim
theorem ev_ix (ha : EvE X W a fa) (hb : EvE X W b fb) (hs : PlainIx b := by intro _ _; rfl) : EvE X W (.Subscript a b pos) (cOp gIx fa fb) :=
  ⟨pe_imp (pe_ix ix_seq ha.pe hb.pe hs) fun _ _ _ h => top_of opd_ix h⟩

/-! ### slices -/
abbrev OF := Env → Store → Res (Option Int)
structure EvO (X : Cx) (W : WX) (o : Option Expr) (f : OF) : Prop where
  po : PO X o (TD X.K X.mg W (fun _ _ x y => x = y) f)
def oNone : OF := fun _ M => some (.ok none, M)
def oSome (fa : EF) : OF := fun en M => bnd (fa en M) fun x M1 => match x with | .int i => some (.ok (some i), M1) | _ => none
theorem po_imp {o : Option Expr} {t t' : TO} (h : PO X o t) (i : ∀ σ H Q, t' σ H Q → t σ H Q) : PO X o t' := ⟨fun pins s σ H Q Iv hq => h.run pins s σ H Q Iv (i σ H Q hq)⟩
theorem eo_none : EvO X W none oNone := ⟨po_imp po_none fun σ H Q ⟨I, M, en, S, r, k⟩ => k.ok S rfl⟩
theorem eo_some (h : EvE X W a fa) : EvO X W (some a) (oSome fa) := by
  refine ⟨po_imp (po_some h.pe) fun σ H Q h => ?_⟩
  obtain ⟨I, M, en, S, r, k⟩ := h
  refine ⟨I, M, en, S, r, k.bind fun x M1 I1 H1 u e1 S1 r1 k1 => ?_⟩
  split at k1
  · simp only [Rep] at r1
    exact ⟨_, r1, k1.ok S1 rfl⟩
  · exact k1.elim
def cutD (xs : List D) (lo hi : Option Int) : List D := (xs.drop (HT.sIx xs.length 0 lo)).take (HT.sIx xs.length xs.length hi - HT.sIx xs.length 0 lo)
theorem cut_reps {ds : List D} {vs : List V} (r : Reps K I H ds vs) (lo hi : Option Int) : Reps K I H (cutD ds lo hi) (cutV vs lo hi) := by
  unfold cutD cutV
  rw [r.length]
  exact (r.drop _).take _
theorem cutD_len (ds : List D) (lo hi : Option Int) : (cutD ds lo hi).length ≤ ds.length := by
  unfold cutD
  rw [List.length_take, List.length_drop]
  omega
theorem cutD_whole {ds : List D} {lo hi : Option Int} (h : HT.sIx ds.length 0 lo = 0 ∧ HT.sIx ds.length ds.length hi = ds.length) : cutD ds lo hi = ds := by
  unfold cutD
  rw [h.1, h.2]
  simp
def gSl (lo hi : Option Int) : D → Store → Res D := fun x M => match x with
  | .tup ds => some (.ok (.tup (cutD ds lo hi)), M)
  | .imm ds => some (.ok (.imm (cutD ds lo hi)), M)
  | .scr ds => some (.ok (.imm (cutD ds lo hi)), M)
  | .cel n => match M[n]? with | some ds => some (.ok (.imm (cutD ds lo hi)), M) | none => none
  | .str s => if s.length ≤ sizeLine then some (.ok (.str (cutS s lo hi)), M) else none
  | _ => none
def cSl (fa : EF) (fl fh : OF) : EF := fun en M => bnd (fa en M) fun x M1 => bnd (fl en M1) fun lo M2 => bnd (fh en M2) fun hi M3 => gSl lo hi x M3
abbrev rSlAll (K : PySem.W.Frag) : V → Option Int → Option Int → Hp → VK → Prop := fun x lo hi H Q => rSlA K x lo hi H Q ∨ (rSlL K x lo hi H Q ∨ rSlS x lo hi H Q)
theorem sl_all : SlR X (rSlAll X.K) := SlR.or sl_tupA (SlR.or sl_list sl_str)
theorem gSl_ok {x : D} {u : V} {lo hi : Option Int} {Q : VK} (S : Sto K I H M) (rx : Rep K I H x u) (k : Kp K mg W (Rep K) (gSl lo hi x M) I H σ Q) : rSlAll K u lo hi H Q := by
  unfold gSl at k
  split at k
  · rename_i ds
    simp only [Rep] at rx
    obtain ⟨p, vs, rfl, h2, h3⟩ := rx
    refine .inl ⟨p, vs, rfl, h2.sq, fun hw => ?_, fun _ p' hp => k.ok' (Ext.new hp) (S.new hp) (rep_newT S hp (cut_reps h3 lo hi))⟩
    rw [← h3.length] at hw
    refine k.ok S ?_
    rw [cutD_whole hw]
    simp only [Rep]
    exact ⟨p, vs, rfl, h2, h3⟩
  · rename_i ds
    simp only [Rep] at rx
    obtain ⟨p, vs, rfl, h2, h3⟩ := rx
    exact .inr (.inl ⟨p, vs, rfl, .inl (.inl h2.1), fun p' hp => k.ok' (Ext.new hp) (S.new hp) (rep_newL S hp (cut_reps h3 lo hi))⟩)
  · rename_i ds
    simp only [Rep] at rx
    obtain ⟨p, vs, rfl, h2, h3⟩ := rx
    exact .inr (.inl ⟨p, vs, rfl, h2.sq, fun p' hp => k.ok' (Ext.new hp) (S.new hp) (rep_newL S hp (cut_reps h3 lo hi))⟩)
  · rename_i n
    simp only [Rep] at rx
    obtain ⟨p, rfl, h2⟩ := rx
    split at k
    · rename_i ds q
      obtain ⟨vs, h3, h4⟩ := S.at_ _ p ds h2 q
      exact .inr (.inl ⟨p, vs, rfl, .inl (.inl h3), fun p' hp => k.ok' (Ext.new hp) (S.new hp) (rep_newL S hp (cut_reps h4 lo hi))⟩)
    · exact k.elim
  · simp only [Rep] at rx
    split at k
    · rename_i q
      exact .inr (.inr ⟨_, rx, q, k.ok S rep_str⟩)
    · exact k.elim
  · exact k.elim
theorem ev_slice {lo hi : Option Expr} {p2 : Pos} {fl fh : OF} (ha : EvE X W a fa) (hl : EvO X W lo fl) (hh : EvO X W hi fh) : EvE X W (.Subscript a (.Slice lo hi none p2) pos) (cSl fa fl fh) := by
  refine ⟨pe_imp (pe_slice sl_all ha.pe hl.po hh.po) fun σ H Q h => ?_⟩
  obtain ⟨I, M, en, S, r, k⟩ := h
  refine ⟨I, M, en, S, r, k.bind fun x M1 I1 H1 u e1 S1 r1 k1 => ?_⟩
  refine ⟨I1, M1, en, S1, r.mono e1, k1.bind fun lo M2 I2 H2 lo' e2 S2 r2 k2 => ?_⟩
  refine ⟨I2, M2, en, S2, (r.mono e1).mono e2, k2.bind fun hi M3 I3 H3 hi' e3 S3 r3 k3 => ?_⟩
  subst r2
  subst r3
  exact gSl_ok S3 (e3.rep (e2.rep r1)) k3

/-! ### + and * of ints, of sequences -/
def gAddA : D → D → Store → Res D := fun x y M => match x, y with
  | .int i, .int j => some (.ok (.int (i + j)), M)
  | .tup xs, .tup ys => if szOk (xs.length + ys.length) = true then some (.ok (.tup (xs ++ ys)), M) else none
  | .str s, .str t => if s.length + t.length ≤ sizeLine then some (.ok (.str (s ++ t)), M) else none
  | .imm xs, .imm ys => if szOk (xs.length + ys.length) = true then some (.ok (.imm (xs ++ ys)), M) else none
  | .cel n, .imm ys => match M[n]? with | some xs => if szOk (xs.length + ys.length) = true then some (.ok (.imm (xs ++ ys)), M) else none | none => none
  | .imm xs, .cel n => match M[n]? with | some ys => if szOk (xs.length + ys.length) = true then some (.ok (.imm (xs ++ ys)), M) else none | none => none
  | _, _ => none
abbrev rAddA (K : PySem.W.Frag) : R2 := fun x y H Q => rI0 (fun i j => .int (i + j)) x y H Q ∨ (rCatA K x y H Q ∨ (rCat x y H Q ∨ (∃ i j, x = .str i ∧ y = .str j ∧ i.length + j.length ≤ sizeLine ∧ Q (.str (i ++ j)) H)))
theorem op_addA : OpR X (binaryOp .Add) (rAddA X.K) := OpR.or op_add (OpR.or op_catA (OpR.or op_cat op_add_str))
theorem nil_reps {ds : List D} {vs : List V} (r : Reps K I H ds vs) : vs = [] ↔ ds = [] := by
  have := r.length
  constructor
  · intro h; subst h; exact List.eq_nil_of_length_eq_zero (by simpa using this)
  · intro h; subst h; simpa only [Reps] using r
theorem opd_addA : OpD K mg W gAddA (rAddA K) := by
  intro x y M I H u v σ Q S rx ry k
  unfold gAddA at k
  split at k
  · simp only [Rep] at rx ry
    exact .inl ⟨_, _, rx, ry, k.ok S rep_int⟩
  · rename_i xs ys
    split at k
    · rename_i q
      have rx0 := rx
      have ry0 := ry
      simp only [Rep] at rx ry
      obtain ⟨p, vs, rfl, h2, h3⟩ := rx
      obtain ⟨p', us, rfl, g2, g3⟩ := ry
      refine .inr (.inl ⟨p, p', vs, us, rfl, rfl, h2.sq, g2.sq, by rw [← h3.length, ← g3.length]; exact szOk_ok q, fun h => ?_, fun _ h => ?_, fun _ _ l hl => k.ok' (Ext.new hl) (S.new hl) (rep_newT S hl (h3.append g3))⟩)
      · have hx := (nil_reps h3).mp h
        subst hx
        exact k.ok S (by simpa using ry0)
      · have hy := (nil_reps g3).mp h
        subst hy
        exact k.ok S (by simpa using rx0)
    · exact k.elim
  · simp only [Rep] at rx ry
    split at k
    · rename_i q
      exact .inr (.inr (.inr ⟨_, _, rx, ry, q, k.ok S rep_str⟩))
    · exact k.elim
  · rename_i xs ys
    split at k
    · rename_i q
      simp only [Rep] at rx ry
      obtain ⟨p, vs, rfl, h2, h3⟩ := rx
      obtain ⟨p', us, rfl, g2, g3⟩ := ry
      exact .inr (.inr (.inl ⟨p, p', vs, us, rfl, rfl, h2.1, g2.1, by rw [← h3.length, ← g3.length]; exact szOk_ok q, fun l hl => k.ok' (Ext.new hl) (S.new hl) (rep_newL S hl (h3.append g3))⟩))
    · exact k.elim
  · split at k
    · rename_i xs q0
      split at k
      · rename_i q
        simp only [Rep] at rx ry
        obtain ⟨p, rfl, h2⟩ := rx
        obtain ⟨p', us, rfl, g2, g3⟩ := ry
        obtain ⟨vs, h4, h3⟩ := S.at_ _ p xs h2 q0
        exact .inr (.inr (.inl ⟨p, p', vs, us, rfl, rfl, h4, g2.1, by rw [← h3.length, ← g3.length]; exact szOk_ok q, fun l hl => k.ok' (Ext.new hl) (S.new hl) (rep_newL S hl (h3.append g3))⟩))
      · exact k.elim
    · exact k.elim
  · split at k
    · rename_i ys q0
      split at k
      · rename_i q
        simp only [Rep] at rx ry
        obtain ⟨p', rfl, h2⟩ := ry
        obtain ⟨p, us, rfl, g2, g3⟩ := rx
        obtain ⟨vs, h4, h3⟩ := S.at_ _ p' ys h2 q0
        exact .inr (.inr (.inl ⟨p, p', us, vs, rfl, rfl, g2.1, h4, by rw [← h3.length, ← g3.length]; exact szOk_ok q, fun l hl => k.ok' (Ext.new hl) (S.new hl) (rep_newL S hl (g3.append h3))⟩))
      · exact k.elim
    · exact k.elim
  · exact k.elim
end
end DL
/-! The data layer, part 4: calls of built-ins. -/
namespace DL
open PySem PySem.Spec PyProof.Rows L2
section
variable {X : Cx} {W : WX} {K : PySem.W.Frag} {mg : Str → Option Value} {I I' : Ow} {H H' : Hp} {M M' : Store} {σ : L2.St} {en : Env}
variable {a b c e : Expr} {es rest : List Expr} {pos : Pos} {fa fb fc : EF} {fr : AF}
def cCall (g : List D → Store → Res D) (fr : AF) : EF := fun en M => bnd (fr en M) fun xs M1 => g xs M1
def CallD (K : PySem.W.Frag) (mg : Str → Option Value) (W : WX) (g : List D → Store → Res D) (r : List V → Hp → VK → Prop) : Prop :=
  ∀ xs M I H us σ Q, Sto K I H M → Reps K I H xs us → Kp K mg W (Rep K) (g xs M) I H σ Q → r us H Q
theorem tcb_of {g : List D → Store → Res D} {r : List V → Hp → VK → Prop} (hg : CallD K mg W g r) {Q : VK} (h : TD K mg W (Rep K) (cCall g fr) σ H Q) : tCB r (TD K mg W (Reps K) fr) σ H Q := by
  obtain ⟨I, M, en, S, re, k⟩ := h
  exact ⟨I, M, en, S, re, k.bind fun xs M1 I1 H1 us e1 S1 r1 k1 => hg xs M1 I1 H1 us σ Q S1 r1 k1⟩
theorem ev_callB {x : Str} {p : Pos} {id : String} {g : List D → Store → Res D} {r : List V → Hp → VK → Prop} (hc : CallR X (.builtin id) r) (hd : CallD X.K X.mg W g r) (hg : Gl X x) (hm : X.mg x = none) (hv : bootBuiltins x = some (.builtin id)) (ha : EvA X W (e :: es) fr)
    (hn : x ≠ "__name__" := by decide) (hdb : (x == ("__debug__" : Str)) = false := by decide)
    (he : starEach (e :: es) X.env = (false, eval e X.env) :: starEach es X.env := by rfl) (hpl : (backTo pos (starEach es X.env)).any (·.1) = false := by rfl) : EvE X W (.Call (.Name x p) (e :: es) [] pos) (cCall g fr) :=
  ⟨pe_imp (pe_callB hc hg hm hv ha.pa hn hdb he hpl) fun _ _ _ h => tcb_of hd h⟩
theorem ev_callTy {x : Str} {p : Pos} {T : String} {g : List D → Store → Res D} {r : List V → Hp → VK → Prop} (hc : CallR X (.type T) r) (hd : CallD X.K X.mg W g r) (hg : Gl X x) (hm : X.mg x = none) (hv : bootBuiltins x = some (.type T)) (ha : EvA X W (e :: es) fr)
    (hn : x ≠ "__name__" := by decide) (hdb : (x == ("__debug__" : Str)) = false := by decide)
    (he : starEach (e :: es) X.env = (false, eval e X.env) :: starEach es X.env := by rfl) (hpl : (backTo pos (starEach es X.env)).any (·.1) = false := by rfl) : EvE X W (.Call (.Name x p) (e :: es) [] pos) (cCall g fr) :=
  ⟨pe_imp (pe_callTy hc hg hm hv ha.pa hn hdb he hpl) fun _ _ _ h => tcb_of hd h⟩
theorem CallR.or {f : Value} {r r' : List V → Hp → VK → Prop} (h : CallR X f r) (h' : CallR X f r') : CallR X f (fun xs H Q => r xs H Q ∨ r' xs H Q) := by
  intro pins s σ H xs us Q I rx q
  rcases q with q | q
  · exact h pins s σ H xs us Q I rx q
  · exact h' pins s σ H xs us Q I rx q

/-! ### lists of ints, of bools -/
def intsOf : List D → Option (List Int)
  | [] => some []
  | .int i :: r => match intsOf r with | some l => some (i :: l) | none => none
  | _ => none
def blsOf : List D → Option (List Bool)
  | [] => some []
  | .bl i :: r => match blsOf r with | some l => some (i :: l) | none => none
  | _ => none
theorem ints_of : ∀ {ds : List D} {vs : List V} {ns : List Int}, Reps K I H ds vs → intsOf ds = some ns → vs = ns.map V.int
  | [], vs, ns, r, h => by simp only [Reps] at r; subst r; simp only [intsOf, Option.some.injEq] at h; subst h; rfl
  | d :: ds, vs, ns, r, h => by
    simp only [Reps] at r
    obtain ⟨v, us, rfl, h2, h3⟩ := r
    cases d <;> simp only [intsOf] at h
    all_goals first | (cases h; done) | skip
    split at h
    · rename_i l q
      cases h
      simp only [Rep] at h2
      rw [h2, ints_of h3 q]
      rfl
    · cases h
theorem bls_of : ∀ {ds : List D} {vs : List V} {ns : List Bool}, Reps K I H ds vs → blsOf ds = some ns → vs = ns.map V.bl
  | [], vs, ns, r, h => by simp only [Reps] at r; subst r; simp only [blsOf, Option.some.injEq] at h; subst h; rfl
  | d :: ds, vs, ns, r, h => by
    simp only [Reps] at r
    obtain ⟨v, us, rfl, h2, h3⟩ := r
    cases d <;> simp only [blsOf] at h
    all_goals first | (cases h; done) | skip
    split at h
    · rename_i l q
      cases h
      simp only [Rep] at h2
      rw [h2, bls_of h3 q]
      rfl
    · cases h
theorem reps1 {d : D} {us : List V} (r : Reps K I H [d] us) : ∃ u, us = [u] ∧ Rep K I H d u := by
  simp only [Reps] at r
  obtain ⟨v, _, rfl, h2, rfl⟩ := r
  exact ⟨v, rfl, h2⟩
theorem reps2 {d d' : D} {us : List V} (r : Reps K I H [d, d'] us) : ∃ u u', us = [u, u'] ∧ Rep K I H d u ∧ Rep K I H d' u' := by
  simp only [Reps] at r
  obtain ⟨v, _, rfl, h2, v', _, rfl, h3, rfl⟩ := r
  exact ⟨v, v', rfl, h2, h3⟩

/-! ### len, tuple, list -/
def gLen : List D → Store → Res D := fun xs M => match xs with
  | [.str s] => if s.length ≤ sizeLine then some (.ok (.int s.length), M) else none
  | [d] => match itemsOf M d with | some ds => some (.ok (.int ds.length), M) | none => none
  | _ => none
theorem cd_len : CallD K mg W gLen (fun xs H Q => ∃ x n, xs = [x] ∧ LenV K x H n ∧ Q (.int n) H) := by
  intro xs M I H us σ Q S r k
  unfold gLen at k
  split at k
  · obtain ⟨u, rfl, h⟩ := reps1 r
    simp only [Rep] at h
    subst h
    split at k
    · rename_i q
      exact ⟨_, _, rfl, ⟨q, rfl⟩, k.ok S rep_int⟩
    · exact k.elim
  · obtain ⟨u, rfl, h⟩ := reps1 r
    split at k
    · rename_i ds q
      obtain ⟨p, vs, rfl, hs, g⟩ := items_of S h q
      refine ⟨_, vs.length, rfl, ?_, by rw [← g.length]; exact k.ok S rep_int⟩
      rcases hs with ⟨_, hs⟩ | hs
      · exact .inr ⟨vs, hs, rfl⟩
      · exact .inl ⟨vs, hs, rfl⟩
    · exact k.elim
  · exact k.elim
def gTuple : List D → Store → Res D := fun xs M => match xs with
  | [.tup ds] => some (.ok (.tup ds), M)
  | [d] => match itemsOf M d with | some ds => some (.ok (.tup ds), M) | none => none
  | _ => none
theorem cd_tuple : CallD K mg W gTuple (fun xs H Q => ∃ p ys, xs = [.ref p] ∧ ((SqL K H p ys ∧ ∀ l, H l = none → Q (.ref l) (upd H l (.tup ys))) ∨ (SqT K H p ys ∧ Q (.ref p) H))) := by
  intro xs M I H us σ Q S r k
  unfold gTuple at k
  split at k
  · rename_i ds
    obtain ⟨u, rfl, h⟩ := reps1 r
    have h0 := h
    simp only [Rep] at h
    obtain ⟨p, vs, rfl, h2, h3⟩ := h
    exact ⟨p, vs, rfl, .inr ⟨h2.sq, k.ok S h0⟩⟩
  · rename_i d hd
    obtain ⟨u, rfl, h⟩ := reps1 r
    split at k
    · rename_i ds q
      obtain ⟨p, vs, rfl, hs, g⟩ := items_of S h q
      rcases hs with ⟨⟨es, he⟩, hs⟩ | hs
      · exact (hd es he).elim
      · exact ⟨p, vs, rfl, .inl ⟨hs, fun l hl => k.ok' (Ext.new hl) (S.new hl) (rep_newT S hl g)⟩⟩
    · exact k.elim
  · exact k.elim
abbrev rListOf (K : PySem.W.Frag) : List V → Hp → VK → Prop := fun xs H Q => ∃ p ys, xs = [.ref p] ∧ (SqL K H p ys ∨ SqT K H p ys) ∧ ∀ l, H l = none → Q (.ref l) (upd H l (.lst ys))
def gList : List D → Store → Res D := fun xs M => match xs with
  | [d] => match itemsOf M d with | some ds => some (.ok (.imm ds), M) | none => none
  | _ => none
theorem cd_list : CallD K mg W gList (rListOf K) := by
  intro xs M I H us σ Q S r k
  unfold gList at k
  split at k
  · obtain ⟨u, rfl, h⟩ := reps1 r
    split at k
    · rename_i ds q
      obtain ⟨p, vs, rfl, hs, g⟩ := items_of S h q
      exact ⟨p, vs, rfl, hs.elim (fun h => .inr h.2) .inl, fun l hl => k.ok' (Ext.new hl) (S.new hl) (rep_newL S hl g)⟩
    · exact k.elim
  · exact k.elim
def gListC : List D → Store → Res D := fun xs M => match xs with
  | [d] => match itemsOf M d with | some ds => some (.ok (.cel M.length), M ++ [ds]) | none => none
  | _ => none
theorem cd_listC : CallD K mg W gListC (rListOf K) := by
  intro xs M I H us σ Q S r k
  unfold gListC at k
  split at k
  · obtain ⟨u, rfl, h⟩ := reps1 r
    split at k
    · rename_i ds q
      obtain ⟨p, vs, rfl, hs, g⟩ := items_of S h q
      exact ⟨p, vs, rfl, hs.elim (fun h => .inr h.2) .inl, fun l hl => k.ok' (Ext.newC hl) (S.newC hl g) (rep_newC S hl)⟩
    · exact k.elim
  · exact k.elim

/-! ### sum, any, all, abs, int, max, min -/
def gSum : List D → Store → Res D := fun xs M => match xs with
  | [.imm ds] => match intsOf ds with | some ns => some (.ok (.int ns.sum), M) | none => none
  | _ => none
theorem cd_sum : CallD K mg W gSum (rSum K) := by
  intro xs M I H us σ Q S r k
  unfold gSum at k
  split at k
  · obtain ⟨u, rfl, h⟩ := reps1 r
    split at k
    · rename_i ns q
      simp only [Rep] at h
      obtain ⟨p, vs, rfl, h2, h3⟩ := h
      exact ⟨p, ns, rfl, .inl (.inl (by rw [← ints_of h3 q]; exact h2.1)), k.ok S rep_int⟩
    · exact k.elim
  · exact k.elim
def gAny : List D → Store → Res D := fun xs M => match xs with
  | [.imm ds] => match blsOf ds with | some ns => some (.ok (.bl (ns.any id)), M) | none => none
  | _ => none
def gAll : List D → Store → Res D := fun xs M => match xs with
  | [.imm ds] => match blsOf ds with | some ns => some (.ok (.bl (ns.all id)), M) | none => none
  | _ => none
theorem cd_any : CallD K mg W gAny (rAny K) := by
  intro xs M I H us σ Q S r k
  unfold gAny at k
  split at k
  · obtain ⟨u, rfl, h⟩ := reps1 r
    split at k
    · rename_i ns q
      simp only [Rep] at h
      obtain ⟨p, vs, rfl, h2, h3⟩ := h
      exact ⟨p, ns, rfl, .inl (.inl (by rw [← bls_of h3 q]; exact h2.1)), k.ok S rep_bl⟩
    · exact k.elim
  · exact k.elim
theorem cd_all : CallD K mg W gAll (rAll K) := by
  intro xs M I H us σ Q S r k
  unfold gAll at k
  split at k
  · obtain ⟨u, rfl, h⟩ := reps1 r
    split at k
    · rename_i ns q
      simp only [Rep] at h
      obtain ⟨p, vs, rfl, h2, h3⟩ := h
      exact ⟨p, ns, rfl, .inl (.inl (by rw [← bls_of h3 q]; exact h2.1)), k.ok S rep_bl⟩
    · exact k.elim
  · exact k.elim
def gAbs : List D → Store → Res D := fun xs M => match xs with | [.int i] => some (.ok (.int (if i < 0 then -i else i)), M) | _ => none
theorem cd_abs : CallD K mg W gAbs (fun xs H Q => ∃ i, xs = [.int i] ∧ Q (.int (if i < 0 then -i else i)) H) := by
  intro xs M I H us σ Q S r k
  unfold gAbs at k
  split at k
  · obtain ⟨u, rfl, h⟩ := reps1 r
    simp only [Rep] at h
    subst h
    exact ⟨_, rfl, k.ok S rep_int⟩
  · exact k.elim
def gInt : List D → Store → Res D := fun xs M => match xs with
  | [.int i] => some (.ok (.int i), M)
  | [.bl k] => some (.ok (.int (if k = true then 1 else 0)), M)
  | _ => none
theorem cd_int : CallD K mg W gInt (fun xs H Q => (∃ i, xs = [.int i] ∧ Q (.int i) H) ∨ ∃ k, xs = [.bl k] ∧ Q (.int (if k then 1 else 0)) H) := by
  intro xs M I H us σ Q S r k
  unfold gInt at k
  split at k
  · obtain ⟨u, rfl, h⟩ := reps1 r
    simp only [Rep] at h
    subst h
    exact .inl ⟨_, rfl, k.ok S rep_int⟩
  · obtain ⟨u, rfl, h⟩ := reps1 r
    simp only [Rep] at h
    subst h
    exact .inr ⟨_, rfl, k.ok S rep_int⟩
  · exact k.elim
/-- the greatest, the least -/
def topI (f : Int → Int → Int) : List Int → Option Int
  | [] => none
  | [x] => some x
  | x :: r => (topI f r).map (f x)
def gMax : List D → Store → Res D := fun xs M => match xs with
  | [.int i, .int j] => some (.ok (.int (if j > i then j else i)), M)
  | [.imm ds] => match intsOf ds with | some ns => (match topI max ns with | some m => some (.ok (.int m), M) | none => none) | none => none
  | _ => none
def gMin : List D → Store → Res D := fun xs M => match xs with
  | [.int i, .int j] => some (.ok (.int (if j < i then j else i)), M)
  | [.imm ds] => match intsOf ds with | some ns => (match topI min ns with | some m => some (.ok (.int m), M) | none => none) | none => none
  | _ => none
theorem topI_max : ∀ {l : List Int} {m : Int}, topI max l = some m → m ∈ l ∧ ∀ y ∈ l, y ≤ m
  | [], m, h => by simp [topI] at h
  | [x], m, h => by simp [topI] at h; subst h; simp
  | x :: y :: r, m, h => by
    simp only [topI, Option.map_eq_some_iff] at h
    obtain ⟨z, h1, h2⟩ := h
    have h1' : topI max (y :: r) = some z := by simpa [topI] using h1
    obtain ⟨a, b⟩ := topI_max h1'
    subst h2
    refine ⟨?_, fun w hw => ?_⟩
    · rcases Int.le_total x z with q | q
      · rw [Int.max_eq_right q]; exact List.mem_cons_of_mem _ a
      · rw [Int.max_eq_left q]; exact List.mem_cons_self
    · rcases List.mem_cons.mp hw with e | e
      · subst e; exact Int.le_max_left _ _
      · exact Int.le_trans (b w e) (Int.le_max_right _ _)
theorem topI_min : ∀ {l : List Int} {m : Int}, topI min l = some m → m ∈ l ∧ ∀ y ∈ l, m ≤ y
  | [], m, h => by simp [topI] at h
  | [x], m, h => by simp [topI] at h; subst h; simp
  | x :: y :: r, m, h => by
    simp only [topI, Option.map_eq_some_iff] at h
    obtain ⟨z, h1, h2⟩ := h
    have h1' : topI min (y :: r) = some z := by simpa [topI] using h1
    obtain ⟨a, b⟩ := topI_min h1'
    subst h2
    refine ⟨?_, fun w hw => ?_⟩
    · rcases Int.le_total x z with q | q
      · rw [Int.min_eq_left q]; exact List.mem_cons_self
      · rw [Int.min_eq_right q]; exact List.mem_cons_of_mem _ a
    · rcases List.mem_cons.mp hw with e | e
      · subst e; exact Int.min_le_left _ _
      · exact Int.le_trans (Int.min_le_right _ _) (b w e)
abbrev rMaxA (K : PySem.W.Frag) : List V → Hp → VK → Prop := fun xs H Q => (∃ i j, xs = [.int i, .int j] ∧ Q (.int (if j > i then j else i)) H) ∨ rMax K xs H Q
abbrev rMinA (K : PySem.W.Frag) : List V → Hp → VK → Prop := fun xs H Q => (∃ i j, xs = [.int i, .int j] ∧ Q (.int (if j < i then j else i)) H) ∨ rMin K xs H Q
theorem cr_maxA (hc : X.calm = true) : CallR X (.builtin "max") (rMaxA X.K) := CallR.or (call_max2 hc) (cr_max hc)
theorem cr_minA (hc : X.calm = true) : CallR X (.builtin "min") (rMinA X.K) := CallR.or (call_min2 hc) (cr_min hc)
theorem cd_max : CallD K mg W gMax (rMaxA K) := by
  intro xs M I H us σ Q S r k
  unfold gMax at k
  split at k
  · obtain ⟨u, u', rfl, h, h'⟩ := reps2 r
    simp only [Rep] at h h'
    subst h; subst h'
    exact .inl ⟨_, _, rfl, k.ok S rep_int⟩
  · obtain ⟨u, rfl, h⟩ := reps1 r
    split at k
    · rename_i ns q
      split at k
      · rename_i m q2
        simp only [Rep] at h
        obtain ⟨p, vs, rfl, h2, h3⟩ := h
        obtain ⟨m1, m2⟩ := topI_max q2
        refine .inr ⟨p, ns, rfl, .inl (.inl (by rw [← ints_of h3 q]; exact h2.1)), List.length_pos_of_mem m1, fun m' h1 h2' => ?_⟩
        have e : m' = m := Int.le_antisymm (m2 m' h1) (h2' m m1)
        subst e
        exact k.ok S rep_int
      · exact k.elim
    · exact k.elim
  · exact k.elim
theorem cd_min : CallD K mg W gMin (rMinA K) := by
  intro xs M I H us σ Q S r k
  unfold gMin at k
  split at k
  · obtain ⟨u, u', rfl, h, h'⟩ := reps2 r
    simp only [Rep] at h h'
    subst h; subst h'
    exact .inl ⟨_, _, rfl, k.ok S rep_int⟩
  · obtain ⟨u, rfl, h⟩ := reps1 r
    split at k
    · rename_i ns q
      split at k
      · rename_i m q2
        simp only [Rep] at h
        obtain ⟨p, vs, rfl, h2, h3⟩ := h
        obtain ⟨m1, m2⟩ := topI_min q2
        refine .inr ⟨p, ns, rfl, .inl (.inl (by rw [← ints_of h3 q]; exact h2.1)), List.length_pos_of_mem m1, fun m' h1 h2' => ?_⟩
        have e : m' = m := Int.le_antisymm (h2' m m1) (m2 m' h1)
        subst e
        exact k.ok S rep_int
      · exact k.elim
    · exact k.elim
  · exact k.elim

/-! ### isinstance of a built-in class -/
def tyOf : D → Option String
  | .non => some "NoneType"
  | .bl _ => some "bool"
  | .int _ => some "int"
  | .str _ => some "str"
  | .tup _ => some "tuple"
  | .imm _ => some "list"
  | .cel _ => some "list"
  | .scr _ => none
  | .ty _ => none
  | .dic _ => none
theorem ty_of {d : D} {v : V} {n : String} (S : Sto K I H M) (hM : ∀ m, d = .cel m → m < M.length) (r : Rep K I H d v) (h : tyOf d = some n) : TyX K H v (.type n) := by
  cases d <;> simp only [tyOf] at h
  all_goals first | (cases h; done) | skip
  · cases h; simp only [Rep] at r; subst r; exact .base .non
  · cases h; simp only [Rep] at r; subst r; exact .base (.bl _)
  · cases h; simp only [Rep] at r; subst r; exact .base (.int _)
  · cases h; simp only [Rep] at r; subst r; exact .base (.str _)
  · cases h
    simp only [Rep] at r
    obtain ⟨a, vs, rfl, h2, h3⟩ := r
    rcases h2 with ⟨h2 | ⟨o, h2⟩, _⟩ | ⟨o, its, m, h4, h5, _⟩
    · exact .base (.tup h2)
    · exact .fTuple h2
    · exact .kTuple h4 h5
  · cases h
    simp only [Rep] at r
    obtain ⟨a, vs, rfl, h2, h3⟩ := r
    exact .base (.lst h2.1)
  · cases h
    rename_i m
    have hm := hM m rfl
    simp only [Rep] at r
    obtain ⟨a, rfl, h2⟩ := r
    obtain ⟨vs, h3, _⟩ := S.at_ m a M[m] h2 (List.getElem?_eq_getElem hm)
    exact .base (.lst h3)
def isiB (a b : String) : Option Bool := if a = b then some true else
  match a, b with
  | "bool", "int" => some true
  | "NoneType", "int" => some false | "NoneType", "bool" => some false | "NoneType", "str" => some false | "NoneType", "tuple" => some false | "NoneType", "list" => some false
  | "bool", "str" => some false | "bool", "tuple" => some false | "bool", "list" => some false
  | "int", "bool" => some false | "int", "str" => some false | "int", "tuple" => some false | "int", "list" => some false
  | "str", "int" => some false | "str", "bool" => some false | "str", "tuple" => some false | "str", "list" => some false
  | "tuple", "int" => some false | "tuple", "bool" => some false | "tuple", "str" => some false | "tuple", "list" => some false
  | "list", "int" => some false | "list", "bool" => some false | "list", "str" => some false | "list", "tuple" => some false
  | _, _ => none
end
end DL
/-! The data layer, part 5: isinstance, targets, what is walked, comprehensions. -/
namespace DL
open PySem PySem.Spec PyProof.Rows L2
theorem isiB_ok {K : PySem.W.Frag} {a b : String} {r : Bool} (h : isiB a b = some r) (hb : b = "int" ∨ b = "bool" ∨ b = "str" ∨ b = "tuple" ∨ b = "list")
    (ha : a = "NoneType" ∨ a = "bool" ∨ a = "int" ∨ a = "str" ∨ a = "tuple" ∨ a = "list") : PySem.W.kitOne K (.type a) (.type b) = some r := by
  refine kit_ty ?_
  rcases ha with rfl | rfl | rfl | rfl | rfl | rfl <;> rcases hb with rfl | rfl | rfl | rfl | rfl <;> (rw [← h]; decide +kernel)
section
variable {X : Cx} {W : WX} {K : PySem.W.Frag} {mg : Str → Option Value} {I I' : Ow} {H H' : Hp} {M M' : Store} {σ : L2.St} {en : Env}
variable {a b c e tg : Expr} {es rest : List Expr} {pos : Pos} {fa fb fc : EF} {fr : AF}
def celOk (M : Store) : D → Bool
  | .cel m => decide (m < M.length)
  | _ => true
def tyKnown (n : String) : Bool := n == "int" || n == "bool" || n == "str" || n == "tuple" || n == "list"
def gIsi : List D → Store → Res D := fun xs M => match xs with
  | [d, .ty n] => match tyOf d with
    | some t => if (celOk M d && tyKnown n) = true then (match isiB t n with | some b => some (.ok (.bl b), M) | none => none) else none
    | none => none
  | _ => none
theorem tyOf_known {d : D} {t : String} (h : tyOf d = some t) : t = "NoneType" ∨ t = "bool" ∨ t = "int" ∨ t = "str" ∨ t = "tuple" ∨ t = "list" := by
  cases d <;> simp only [tyOf] at h <;> first | (cases h; simp; done) | cases h
theorem cd_isi : CallD K mg W gIsi (rIsi K) := by
  intro xs M I H us σ Q S r k
  unfold gIsi at k
  split at k
  · obtain ⟨u, u', rfl, h, h'⟩ := reps2 r
    split at k
    · rename_i d n _ t q
      split at k
      · rename_i q2
        rw [Bool.and_eq_true] at q2
        split at k
        · rename_i b q3
          simp only [Rep] at h'
          subst h'
          have hb : n = "int" ∨ n = "bool" ∨ n = "str" ∨ n = "tuple" ∨ n = "list" := by
            have := q2.2
            unfold tyKnown at this
            simpa [or_assoc] using this
          refine ⟨u, _, _, _, b, rfl, .ty _, ty_of S (fun m hm => ?_) h q, isiB_ok q3 hb (tyOf_known q), k.ok S rep_bl⟩
          have := q2.1
          subst hm
          exact of_decide_eq_true this
        · exact k.elim
      · exact k.elim
    · exact k.elim
  · exact k.elim

/-! ### targets -/
abbrev GF := D → Env → Store → Option (Env × Store)
def TG_ (K : PySem.W.Frag) (Sl : List Nat) (g : GF) : TG := fun v σ H Q => ∃ I M en d, Sto K I H M ∧ RepE K I H en σ ∧ Rep K I H d v ∧
  match g d en M with
  | none => False
  | some (en', M') => ∀ I' H' σ', Ext I H I' H' → Sto K I' H' M' → RepE K I' H' en' σ' → σ'.length = σ.length → (∀ k, k ∉ Sl → σ'[k]? = σ[k]?) → Q σ' H'
structure EvG (X : Cx) (tg : Expr) (Sl : List Nat) (g : GF) : Prop where
  pg : PG X tg (TG_ X.K Sl g)
theorem pg_imp {t t' : TG} (h : PG X tg t) (i : ∀ v σ H Q, t' v σ H Q → t v σ H Q) : PG X tg t' := ⟨fun pins s σ H v u Q Iv r hq => h.run pins s σ H v u Q Iv r (i v σ H Q hq)⟩
def gN (i : Nat) : GF := fun d en M => some (en.set i (some d), M)
theorem eg_name {i : Nat} {x : Str} (hN : X.N.Nodup) (hi : X.N[i]? = some x) (hx : Loc X.env.scope x) (hf : X.fn x = true ∨ X.env.scope.names.lookup x = some .local := by first | exact .inl rfl | exact .inr rfl | assumption) : EvG X (.Name x pos) [i] (gN i) := by
  refine ⟨pg_imp (pg_name hN hi hx hf) fun v σ H Q h => ?_⟩
  obtain ⟨I, M, en, d, S, r, rd, k⟩ := h
  refine k I H _ Ext.refl S (r.set i rd) (by simp) fun j hj => ?_
  rw [List.getElem?_set_ne (fun z => hj (by simp [z]))]
/-- several targets -/
abbrev GsF := List D → Env → Store → Option (Env × Store)
def TGs_ (K : PySem.W.Frag) (Sl : List Nat) (g : GsF) : TGs := fun vs σ H Q => ∃ I M en ds, Sto K I H M ∧ RepE K I H en σ ∧ Reps K I H ds vs ∧
  match g ds en M with
  | none => False
  | some (en', M') => ∀ I' H' σ', Ext I H I' H' → Sto K I' H' M' → RepE K I' H' en' σ' → σ'.length = σ.length → (∀ k, k ∉ Sl → σ'[k]? = σ[k]?) → Q σ' H'
structure EvGs (X : Cx) (ts : List Expr) (Sl : List Nat) (g : GsF) : Prop where
  pgs : PGs X ts (TGs_ X.K Sl g)
theorem pgs_imp {ts : List Expr} {t t' : TGs} (h : PGs X ts t) (i : ∀ v σ H Q, t' v σ H Q → t v σ H Q) : PGs X ts t' := ⟨fun pins s σ H v u Q Iv r hq => h.run pins s σ H v u Q Iv r (i v σ H Q hq)⟩
def gNilC : GsF := fun ds en M => match ds with | [] => some (en, M) | _ => none
def gConsC (g : GF) (gs : GsF) : GsF := fun ds en M => match ds with
  | d :: r => match g d en M with | some (en1, M1) => gs r en1 M1 | none => none
  | [] => none
theorem egs_nil : EvGs X [] [] gNilC := by
  refine ⟨pgs_imp pgs_nil fun vs σ H Q h => ?_⟩
  obtain ⟨I, M, en, ds, S, r, rd, k⟩ := h
  cases ds with
  | nil =>
    simp only [Reps] at rd
    exact ⟨rd, k I H σ Ext.refl S r rfl fun _ _ => rfl⟩
  | cons d ds => exact k.elim
theorem egs_cons {S1 S2 : List Nat} {g : GF} {gs : GsF} (h1 : EvG X e S1 g) (h2 : EvGs X es S2 gs)
    (hs : (assignEach (e :: es) X.env).map (·.2) = assign e X.env :: (assignEach es X.env).map (·.2) := by rfl) : EvGs X (e :: es) (S1 ++ S2) (gConsC g gs) := by
  refine ⟨pgs_imp (pgs_cons h1.pg h2.pgs hs) fun vs σ H Q h => ?_⟩
  obtain ⟨I, M, en, ds, S, r, rd, k⟩ := h
  cases ds with
  | nil => exact k.elim
  | cons d ds =>
    simp only [Reps] at rd
    obtain ⟨v, us, rfl, rd1, rd2⟩ := rd
    refine ⟨v, us, rfl, I, M, en, d, S, r, rd1, ?_⟩
    unfold gConsC at k
    dsimp only at k
    revert k
    cases q : g d en M with
    | none => exact id
    | some z =>
      obtain ⟨en1, M1⟩ := z
      intro k I1 H1 σ1 e1 S1' r1 l1 o1
      refine ⟨I1, M1, en1, ds, S1', r1, e1.reps rd2, ?_⟩
      revert k
      dsimp only
      cases q2 : gs ds en1 M1 with
      | none => exact id
      | some z2 =>
        intro k I2 H2 σ2 e2 S2' r2 l2 o2
        refine k I2 H2 σ2 (e1.trans e2) S2' r2 (l2.trans l1) fun j hj => ?_
        rw [o2 j fun z => hj (List.mem_append_right _ z), o1 j fun z => hj (List.mem_append_left _ z)]
/-- (a, b, ..) = a tuple or a list of that length -/
def gTupC (n : Nat) (gs : GsF) : GF := fun d en M => match itemsOf M d with
  | some ds => if ds.length = n then gs ds en M else none
  | none => none
theorem PG.or {t t' : TG} (h : PG X tg t) (h' : PG X tg t') : PG X tg (fun v σ H Q => t v σ H Q ∨ t' v σ H Q) := ⟨fun pins s σ H v u Q Iv r hq => hq.elim (h.run pins s σ H v u Q Iv r) (h'.run pins s σ H v u Q Iv r)⟩
theorem eg_tup {k n : Nat} {Sl : List Nat} {gs : GsF} (hc : X.calm = true) (h : EvGs X es Sl gs) (hn : (assignEach es X.env).length = n := by rfl) (hst : (assignEach es X.env).findIdx? (·.1) = none := by rfl) : EvG X (.Tuple es k pos) Sl (gTupC n gs) := by
  refine ⟨pg_imp (PG.or (pg_tup hc h.pgs hn hst) (pg_lst hc h.pgs hn hst)) fun v σ H Q hh => ?_⟩
  obtain ⟨I, M, en, d, S, r, rd, k⟩ := hh
  unfold gTupC at k
  revert k
  cases q : itemsOf M d with
  | none => exact False.elim
  | some ds =>
    dsimp only
    by_cases ql : ds.length = n
    · rw [if_pos ql]
      intro k
      obtain ⟨p, vs, rfl, hs, g⟩ := items_of S rd q
      rcases hs with ⟨_, hs⟩ | hs
      · exact .inl ⟨p, vs, rfl, hs, by rw [← g.length]; exact ql, I, M, en, ds, S, r, g, k⟩
      · exact .inr ⟨p, vs, rfl, hs, by rw [← g.length]; exact ql, I, M, en, ds, S, r, g, k⟩
    · rw [if_neg ql]
      exact False.elim

/-! ### what is walked -/
def IterR (K : PySem.W.Frag) (I0 : Ow) (H0 : Hp) (ds : List D) (J : It) : Prop :=
  ∀ I H M, Ext I0 H0 I H → Sto K I H M → ∀ i, (∀ d, ds[i]? = some d → J.go i H ∧ ∀ x H', J.yld i H x H' → (H' = H ∨ ∃ p o, H p = none ∧ H' = upd H p o) ∧ Rep K I H' d x) ∧ (ds.length ≤ i → J.stop i H)
def TI_ (K : PySem.W.Frag) (mg : Str → Option Value) (W : WX) (f : AF) : TI := TD K mg W (fun I H ds J => IterR K I H ds J) f
structure EvI (X : Cx) (W : WX) (tg iter : Expr) (f : AF) : Prop where
  pi : PI X tg iter (TI_ X.K X.mg W f)
theorem pi_imp {iter : Expr} {t t' : TI} (h : PI X tg iter t) (i : ∀ σ H Q, t' σ H Q → t σ H Q) : PI X tg iter t' := ⟨fun pins s σ H R Iv hq => h.run pins s σ H R Iv (i σ H R hq)⟩
/-- a list or a tuple -/
def iSeqR (K : PySem.W.Frag) (tl : TE) : TI := fun σ H R => tl σ H fun x H1 => ∃ p, x = .ref p ∧ (((∃ xs, SqL K H1 p xs) ∧ R (Itl K p) H1) ∨ ((∃ xs, SqT K H1 p xs) ∧ R (Itt K p) H1))
theorem pi_seqR {l : Expr} {tl : TE} (hl : PE X l tl) : PI X tg l (iSeqR X.K tl) := by
  refine ⟨fun pins s σ H R Iv hw => ?_⟩
  refine thn (hl.run pins s σ H _ Iv hw) fun v s1 ⟨x, H1, I1, r1, p, e, q1⟩ => ?_
  subst e
  cases r1
  rcases q1 with ⟨⟨xs, hq⟩, q⟩ | ⟨⟨xs, hq⟩, q⟩
  · obtain ⟨_, _, pl, _⟩ := I1.list hq
    refine wpAny_pyIter_list pl.isList ⟨_, [s1.heap.objs.size], _, _, H1, rfl, I1.kept (t' := s1.toks) (fun _ _ z => Heap.get?_push_of_some _ z), turn_list p _, ⟨_, Heap.get?_push_size _ rfl, rfl, rfl⟩, fun b hb => ?_, q⟩
    cases List.mem_singleton.mp hb
    exact I1.fpOk (Nat.le_refl _) (I1.hok.fresh (Nat.le_refl _))
  · obtain ⟨its, _, pt, _⟩ := I1.tuple hq
    refine wpAny_pyIter_tuple (show s1.heap.IsTuple p its.toArray from pt) ⟨_, [s1.heap.objs.size], _, _, H1, rfl, I1.kept (t' := s1.toks) (fun _ _ z => Heap.get?_push_of_some _ z), turn_tuple p _, ⟨_, Heap.get?_push_size _ rfl, rfl, rfl⟩, fun b hb => ?_, q⟩
    cases List.mem_singleton.mp hb
    exact I1.fpOk (Nat.le_refl _) (I1.hok.fresh (Nat.le_refl _))
/-- the items of a value that is no list of the store -/
def iSeq (fa : EF) : AF := fun en M => bnd (fa en M) fun x M1 => match x with
  | .tup ds => some (.ok ds, M1)
  | .imm ds => some (.ok ds, M1)
  | .scr ds => some (.ok ds, M1)
  | _ => none
theorem iterR_L {p : Addr} {vs : List V} {ds : List D} (h : LstA K I H p vs) (r : Reps K I H ds vs) : IterR K I H ds (Itl K p) := by
  intro I1 H1 M1 e1 S1 i
  have h1 := (e1.lstA h).sq
  have r1 := e1.reps r
  refine ⟨fun d hd => ?_, fun hl => ⟨vs, h1, by rw [← r.length]; exact hl⟩⟩
  obtain ⟨v, hv, rv⟩ := r1.get' hd
  refine ⟨⟨vs, v, h1, hv⟩, fun x H' hy => ?_⟩
  obtain ⟨rfl, hx⟩ := hy
  have z := hx vs h1
  rw [hv] at z
  cases z
  exact ⟨.inl rfl, rv⟩
theorem iterR_T {p : Addr} {vs : List V} {ds : List D} (h : TupA K I H p vs) (r : Reps K I H ds vs) : IterR K I H ds (Itt K p) := by
  intro I1 H1 M1 e1 S1 i
  have h1 := (e1.tupA h).sq
  have r1 := e1.reps r
  refine ⟨fun d hd => ?_, fun hl => ⟨vs, h1, by rw [← r.length]; exact hl⟩⟩
  obtain ⟨v, hv, rv⟩ := r1.get' hd
  refine ⟨⟨vs, v, h1, hv⟩, fun x H' hy => ?_⟩
  obtain ⟨rfl, hx⟩ := hy
  have z := hx vs h1
  rw [hv] at z
  cases z
  exact ⟨.inl rfl, rv⟩
theorem ei_seq (ha : EvE X W a fa) : EvI X W tg a (iSeq fa) := by
  refine ⟨pi_imp (pi_seqR ha.pe) fun σ H R h => ?_⟩
  obtain ⟨I, M, en, S, r, k⟩ := h
  refine ⟨I, M, en, S, r, k.bind fun x M1 I1 H1 u e1 S1 r1 k1 => ?_⟩
  split at k1
  · simp only [Rep] at r1
    obtain ⟨p, vs, rfl, h2, h3⟩ := r1
    exact ⟨p, rfl, .inr ⟨⟨vs, h2.sq⟩, k1.ok S1 (iterR_T h2 h3)⟩⟩
  · simp only [Rep] at r1
    obtain ⟨p, vs, rfl, h2, h3⟩ := r1
    exact ⟨p, rfl, .inl ⟨⟨vs, .inl (.inl h2.1)⟩, k1.ok S1 (iterR_L (.inl ⟨.inl h2.1, h2.2⟩) h3)⟩⟩
  · simp only [Rep] at r1
    obtain ⟨p, vs, rfl, h2, h3⟩ := r1
    exact ⟨p, rfl, .inl ⟨⟨vs, h2.sq⟩, k1.ok S1 (iterR_L h2 h3)⟩⟩
  · exact k1.elim
/-- range -/
def rgD (lo : Int) (n : Nat) : List D := (List.range n).map fun i => .int (lo + (i : Nat))
def smI (i : Int) : Bool := decide (-(2 ^ 62) ≤ i) && decide (i < 2 ^ 62)
theorem smI_ok {i : Int} (h : smI i = true) : -(2 ^ 62) ≤ i ∧ i < 2 ^ 62 := by
  unfold smI at h
  rw [Bool.and_eq_true, decide_eq_true_eq, decide_eq_true_eq] at h
  exact h
theorem rgD_get {lo : Int} {n i : Nat} {d : D} (h : (rgD lo n)[i]? = some d) : i < n ∧ d = .int (lo + (i : Nat)) := by
  unfold rgD at h
  rw [List.getElem?_map] at h
  by_cases q : i < n
  · rw [List.getElem?_range q] at h
    exact ⟨q, (Option.some.inj h).symm⟩
  · rw [List.getElem?_eq_none (by simpa using q)] at h
    cases h
theorem iterR_rng (lo : Int) (n : Nat) : IterR K I H (rgD lo n) (Itr lo n) := by
  intro I1 H1 M1 e1 S1 i
  refine ⟨fun d hd => ?_, fun hl => show n ≤ i by unfold rgD at hl; simpa using hl⟩
  obtain ⟨h1, rfl⟩ := rgD_get hd
  refine ⟨h1, fun x H' hy => ?_⟩
  obtain ⟨rfl, rfl⟩ := hy
  exact ⟨.inl rfl, rep_int⟩
def iRng1C (fr : AF) : AF := fun en M => bnd (fr en M) fun xs M1 => match xs with | [.int j] => if smI j = true then some (.ok (rgD 0 j.toNat), M1) else none | _ => none
def iRng2C (fr : AF) : AF := fun en M => bnd (fr en M) fun xs M1 => match xs with | [.int i, .int j] => if (smI i && smI j) = true then some (.ok (rgD i (j - i).toNat), M1) else none | _ => none
theorem ei_rng1 {p : Pos} (hg : Gl X "range") (hm : X.mg "range" = none) (ha : EvA X W [a] fr) (hs : starEach [a] X.env = [(false, eval a X.env)] := by rfl) : EvI X W tg (.Call (.Name "range" p) [a] [] pos) (iRng1C fr) := by
  refine ⟨pi_imp (pi_range1 hg hm ha.pa hs) fun σ H R h => ?_⟩
  obtain ⟨I, M, en, S, r, k⟩ := h
  refine ⟨I, M, en, S, r, k.bind fun xs M1 I1 H1 us e1 S1 r1 k1 => ?_⟩
  split at k1
  · obtain ⟨u, rfl, h⟩ := reps1 r1
    simp only [Rep] at h
    subst h
    split at k1
    · rename_i q
      exact ⟨_, rfl, (smI_ok q).1, (smI_ok q).2, k1.ok S1 (iterR_rng _ _)⟩
    · exact k1.elim
  · exact k1.elim
theorem ei_rng2 {p : Pos} (hg : Gl X "range") (hm : X.mg "range" = none) (ha : EvA X W [a, b] fr) (hs : starEach [a, b] X.env = [(false, eval a X.env), (false, eval b X.env)] := by rfl) (hs2 : starEach [b] X.env = [(false, eval b X.env)] := by rfl) : EvI X W tg (.Call (.Name "range" p) [a, b] [] pos) (iRng2C fr) := by
  refine ⟨pi_imp (pi_range2 hg hm ha.pa hs hs2) fun σ H R h => ?_⟩
  obtain ⟨I, M, en, S, r, k⟩ := h
  refine ⟨I, M, en, S, r, k.bind fun xs M1 I1 H1 us e1 S1 r1 k1 => ?_⟩
  split at k1
  · obtain ⟨u, u', rfl, h, h'⟩ := reps2 r1
    simp only [Rep] at h h'
    subst h; subst h'
    split at k1
    · rename_i q
      rw [Bool.and_eq_true] at q
      exact ⟨_, _, rfl, ⟨(smI_ok q.1).1, (smI_ok q.1).2, (smI_ok q.2).1, (smI_ok q.2).2⟩, k1.ok S1 (iterR_rng _ _)⟩
    · exact k1.elim
  · exact k1.elim
/-- zip of two tuples, of two lists -/
def zipD (xs ys : List D) : List D := (xs.zip ys).map fun p => .tup [p.1, p.2]
def iZipC (fr : AF) : AF := fun en M => bnd (fr en M) fun xs M1 => match xs with
  | [.tup x, .tup y] => some (.ok (zipD x y), M1)
  | [.imm x, .imm y] => some (.ok (zipD x y), M1)
  | _ => none
theorem zipD_get {xs ys : List D} {i : Nat} {d : D} (h : (zipD xs ys)[i]? = some d) : ∃ x y, xs[i]? = some x ∧ ys[i]? = some y ∧ d = .tup [x, y] := by
  unfold zipD at h
  rw [List.getElem?_map, Option.map_eq_some_iff] at h
  obtain ⟨⟨x, y⟩, h1, h2⟩ := h
  rw [List.getElem?_zip_eq_some] at h1
  exact ⟨x, y, h1.1, h1.2, h2.symm⟩
theorem zipD_len (xs ys : List D) : (zipD xs ys).length = min xs.length ys.length := by unfold zipD; simp
theorem iterR_zipT {p q : Addr} {vs us : List V} {xs ys : List D} (h : TupA K I H p vs) (g : TupA K I H q us) (r : Reps K I H xs vs) (t : Reps K I H ys us) : IterR K I H (zipD xs ys) (RZ.ItzT K p q) := by
  intro I1 H1 M1 e1 S1 i
  have h1 := (e1.tupA h).sq
  have g1 := (e1.tupA g).sq
  refine ⟨fun d hd => ?_, fun hl => ⟨vs, us, h1, g1, by rw [zipD_len, r.length, t.length] at hl; omega⟩⟩
  obtain ⟨x, y, hx, hy, rfl⟩ := zipD_get hd
  obtain ⟨v, hv, rv⟩ := (e1.reps r).get' hx
  obtain ⟨u, hu, ru⟩ := (e1.reps t).get' hy
  refine ⟨⟨vs, us, v, u, h1, g1, hv, hu⟩, fun z H' hz => ?_⟩
  obtain ⟨T, a, b, rfl, nT, rfl, f1, f2⟩ := hz
  have z1 := f1 vs h1
  have z2 := f2 us g1
  rw [hv] at z1; rw [hu] at z2
  cases z1; cases z2
  exact ⟨.inr ⟨T, _, nT, rfl⟩, rep_newT S1 nT (.cons rv (.one ru))⟩
theorem iterR_zipL {p q : Addr} {vs us : List V} {xs ys : List D} (h : LstA K I H p vs) (g : LstA K I H q us) (r : Reps K I H xs vs) (t : Reps K I H ys us) : IterR K I H (zipD xs ys) (Itz K p q) := by
  intro I1 H1 M1 e1 S1 i
  have h1 := (e1.lstA h).sq
  have g1 := (e1.lstA g).sq
  refine ⟨fun d hd => ?_, fun hl => ⟨vs, us, h1, g1, by rw [zipD_len, r.length, t.length] at hl; omega⟩⟩
  obtain ⟨x, y, hx, hy, rfl⟩ := zipD_get hd
  obtain ⟨v, hv, rv⟩ := (e1.reps r).get' hx
  obtain ⟨u, hu, ru⟩ := (e1.reps t).get' hy
  refine ⟨⟨vs, us, v, u, h1, g1, hv, hu⟩, fun z H' hz => ?_⟩
  obtain ⟨T, a, b, rfl, nT, rfl, f1, f2⟩ := hz
  have z1 := f1 vs h1
  have z2 := f2 us g1
  rw [hv] at z1; rw [hu] at z2
  cases z1; cases z2
  exact ⟨.inr ⟨T, _, nT, rfl⟩, rep_newT S1 nT (.cons rv (.one ru))⟩
theorem ei_zip {elts : List Expr} {kk : Nat} {tpos p : Pos} (hg : Gl X "zip") (hm : X.mg "zip" = none) (ha : EvA X W [a, b] fr)
    (hs : starEach [a, b] X.env = (false, eval a X.env) :: starEach [b] X.env := by rfl) (hs2 : starEach [b] X.env = [(false, eval b X.env)] := by rfl) : EvI X W (.Tuple elts kk tpos) (.Call (.Name "zip" p) [a, b] [] pos) (iZipC fr) := by
  refine ⟨pi_imp (RZ.pi_zipA hg hm ha.pa hs (by rw [hs2]; rfl)) fun σ H R h => ?_⟩
  obtain ⟨I, M, en, S, r, k⟩ := h
  refine ⟨I, M, en, S, r, k.bind fun xs M1 I1 H1 us e1 S1 r1 k1 => ?_⟩
  split at k1
  · obtain ⟨u, u', rfl, h, h'⟩ := reps2 r1
    simp only [Rep] at h h'
    obtain ⟨p, vs, rfl, h2, h3⟩ := h
    obtain ⟨p', vs', rfl, g2, g3⟩ := h'
    exact ⟨p, p', vs, vs', rfl, .inr ⟨h2.sq, g2.sq, k1.ok S1 (iterR_zipT h2 g2 h3 g3)⟩⟩
  · obtain ⟨u, u', rfl, h, h'⟩ := reps2 r1
    simp only [Rep] at h h'
    obtain ⟨p, vs, rfl, h2, h3⟩ := h
    obtain ⟨p', vs', rfl, g2, g3⟩ := h'
    exact ⟨p, p', vs, vs', rfl, .inl ⟨.inl (.inl h2.1), .inl (.inl g2.1), k1.ok S1 (iterR_zipL (.inl ⟨.inl h2.1, h2.2⟩) (.inl ⟨.inl g2.1, g2.2⟩) h3 g3)⟩⟩
  · exact k1.elim
end
end DL
/-! The data layer, part 6: list comprehensions. -/
namespace DL
open PySem PySem.Spec PyProof.Rows L2
abbrev W0 : WX := fun _ _ _ _ => False
section
variable {X : Cx} {W : WX} {K : PySem.W.Frag} {mg : Str → Option Value} {I I' : Ow} {H H' : Hp} {M M' : Store} {σ : L2.St} {en : Env}
variable {a b c e tg iter elt : Expr} {es ifs : List Expr} {pos : Pos} {fa fb fc : EF} {fr fi : AF} {g : GF} {t : TF} {f : EF} {Sl : List Nat}
structure EvTs (X : Cx) (W : WX) (es : List Expr) (f : TF) : Prop where
  pts : PTs X es (TD X.K X.mg W RB f)
def tYesC : TF := fun _ M => some (.ok true, M)
theorem pts_imp {t t' : TT} (h : PTs X es t) (i : ∀ σ H Q, t' σ H Q → t σ H Q) : PTs X es t' := ⟨fun pins s σ H Q Iv hq => h.run pins s σ H Q Iv (i σ H Q hq)⟩
theorem ets_nil : EvTs X W [] tYesC := ⟨pts_imp pts_nil fun σ H Q ⟨I, M, en, S, r, k⟩ => Kp.ok (M := M) k S rfl⟩
theorem ets_one (h : EvT X W c t) : EvTs X W [c] t := ⟨pts_one h.pt⟩
/-- the made items, in order -/
def compF (g : GF) (t : TF) (f : EF) (en : Env) : List D → Store → Option (List D × Store)
  | [], M => some ([], M)
  | d :: ds, M => match g d en M with
    | none => none
    | some (en1, M1) => match t en1 M1 with
      | some (.ok true, M2) => match f en1 M2 with
        | some (.ok y, M3) => match compF g t f en ds M3 with
          | some (ys, M4) => some (y :: ys, M4)
          | none => none
        | _ => none
      | some (.ok false, M2) => compF g t f en ds M2
      | _ => none
/-- what is made of the items: a list that stays as it is, or one of the store -/
def mkI : List D → Store → D × Store := fun ys M => (.imm ys, M)
def mkC : List D → Store → D × Store := fun ys M => (.cel M.length, M ++ [ys])
def cLcG (mk : List D → Store → D × Store) (fi : AF) (g : GF) (t : TF) (f : EF) (vs : List Nat) : EF := fun en M => bnd (fi en M) fun ds M1 =>
  if szOk ds.length = true then (match compF g t f (wipeE en vs) ds M1 with | some (ys, M2) => some (.ok (mk ys M2).1, (mk ys M2).2) | none => none) else none
abbrev cLc := cLcG mkI
abbrev cLcC := cLcG mkC
def MkOk (K : PySem.W.Frag) (mk : List D → Store → D × Store) : Prop := ∀ (I0 : Ow) (H0 : Hp) (I : Ow) (H : Hp) (M : Store) (p : Addr) (ys : List D) (av : List V), p ∉ I0.p → H0 p = none → Ext I0 H0 I H → p ∈ I.p → Sto K I H M → H p = some (.lst av) → Reps K I H ys av →
  ∃ I', Ext I0 H0 I' H ∧ Sto K I' H (mk ys M).2 ∧ Rep K I' H (mk ys M).1 (.ref p)
mutual
theorem Rep.mv (hf : ∀ a, I.Free a → I'.Free a) (hc : ∀ (n : Nat) (a : Addr), I.c[n]? = some a → I'.c[n]? = some a) (hd : I'.d = I.d) : ∀ {d : D} {v : V}, Rep K I H d v → Rep K I' H d v
  | .non, v, h => by simpa only [Rep] using h
  | .bl _, v, h => by simpa only [Rep] using h
  | .int _, v, h => by simpa only [Rep] using h
  | .str _, v, h => by simpa only [Rep] using h
  | .ty _, v, h => by simpa only [Rep] using h
  | .tup ds, v, h => by
    simp only [Rep] at h ⊢
    obtain ⟨a, vs, h1, h2, h3⟩ := h
    exact ⟨a, vs, h1, h2.imp (fun h => ⟨h.1, hf _ h.2⟩) id, Reps.mv hf hc hd h3⟩
  | .imm ds, v, h => by
    simp only [Rep] at h ⊢
    obtain ⟨a, vs, h1, h2, h3⟩ := h
    exact ⟨a, vs, h1, ⟨h2.1, hf _ h2.2⟩, Reps.mv hf hc hd h3⟩
  | .scr ds, v, h => by
    simp only [Rep] at h ⊢
    obtain ⟨a, vs, h1, h2, h3⟩ := h
    exact ⟨a, vs, h1, h2.imp (fun h => ⟨h.1, hf _ h.2⟩) id, Reps.mv hf hc hd h3⟩
  | .cel j, v, h => by
    simp only [Rep] at h ⊢
    obtain ⟨a, h1, h2⟩ := h
    exact ⟨a, h1, hc _ _ h2.1, by rw [hd]; exact h2.2⟩
  | .dic j, v, h => by
    simp only [Rep] at h ⊢
    obtain ⟨a, h1, h2⟩ := h
    exact ⟨a, h1, hc _ _ h2.1, by rw [hd]; exact h2.2⟩
theorem Reps.mv (hf : ∀ a, I.Free a → I'.Free a) (hc : ∀ (n : Nat) (a : Addr), I.c[n]? = some a → I'.c[n]? = some a) (hd : I'.d = I.d) : ∀ {ds : List D} {vs : List V}, Reps K I H ds vs → Reps K I' H ds vs
  | [], vs, h => by simpa only [Reps] using h
  | d :: ds, vs, h => by
    simp only [Reps] at h ⊢
    obtain ⟨v, r, h1, h2, h3⟩ := h
    exact ⟨v, r, h1, Rep.mv hf hc hd h2, Reps.mv hf hc hd h3⟩
end
theorem mkI_ok : MkOk K mkI := by
  intro I0 H0 I H M p ys av hp0 hn e hp S hl r
  refine ⟨I.show p, e.show hp0, S.show, ?_⟩
  show Rep K _ H (.imm ys) (.ref p)
  simp only [Rep]
  exact ⟨p, av, rfl, ⟨hl, (S.dis p hp).1, fun hm => of_decide_eq_true (List.mem_filter.mp hm).2 rfl⟩, r.show⟩
theorem mkC_ok : MkOk K mkC := by
  intro I0 H0 I H M p ys av hp0 hn e hp S hl r
  have hf : ∀ a, I.Free a → ((I.show p).add p).Free a := fun a ha => ⟨fun z => by
    rcases List.mem_append.mp (show a ∈ I.c ++ [p] from z) with z | z
    · exact ha.1 z
    · exact ha.2 (by rw [List.mem_singleton.mp z]; exact hp), fun z => ha.2 (List.mem_filter.mp z).1⟩
  have hc : ∀ (n : Nat) (a : Addr), I.c[n]? = some a → ((I.show p).add p).c[n]? = some a := fun n a h => by
    show (I.c ++ [p])[n]? = some a
    rw [List.getElem?_append_left (List.getElem?_eq_some_iff.mp h).1]; exact h
  have hpc := (S.dis p hp).1
  have one : ∀ {n : Nat} {a : Addr}, ((I.show p).add p).c[n]? = some a → (n < I.c.length ∧ I.c[n]? = some a) ∨ (n = I.c.length ∧ a = p) := by
    intro n a h1
    have h1 : (I.c ++ [p])[n]? = some a := h1
    by_cases q : n < I.c.length
    · rw [List.getElem?_append_left q] at h1
      exact .inl ⟨q, h1⟩
    · have hn : n < (I.c ++ [p]).length := (List.getElem?_eq_some_iff.mp h1).1
      have hn' : n = I.c.length := by simp at hn; omega
      subst hn'
      rw [List.getElem?_append_right (Nat.le_refl _)] at h1
      simp at h1
      exact .inr ⟨rfl, h1.symm⟩
  have hmv : ∀ {d : D} {v : V}, Rep K I H d v → Rep K ((I.show p).add p) H d v := fun h => Rep.mv hf hc rfl h
  have hmvs : ∀ {ds : List D} {vs : List V}, Reps K I H ds vs → Reps K ((I.show p).add p) H ds vs := fun h => Reps.mv hf hc rfl h
  refine ⟨(I.show p).add p, ?_, ⟨?_, ?_, fun n a ds h1 h2 => ?_, fun n a ds h1 h2 => ?_, fun a ha => List.mem_append_left _ (S.sub a ha), fun a ha => ?_⟩, ?_⟩
  · have es := e.show hp0
    obtain ⟨l, q1, q2⟩ := es.pre
    refine ⟨es.prv, ⟨l ++ [p], by show (I.show p).c ++ [p] = _; rw [q1]; simp, fun a ha => ?_⟩, es.keep, es.trk, es.dic⟩
    rcases List.mem_append.mp ha with ha | ha
    · exact q2 a ha
    · rw [List.mem_singleton.mp ha]; exact hn
  · show (I.c ++ [p]).length = (M ++ [ys]).length
    simp [S.len]
  · show (I.c ++ [p]).Nodup
    rw [List.nodup_append]
    exact ⟨S.nodup, by simp, fun a ha b hb z => hpc (by rw [← List.mem_singleton.mp hb, ← z]; exact ha)⟩
  · have h2 : (M ++ [ys])[n]? = some ds := h2
    rcases one h1.1 with ⟨q, g⟩ | ⟨q, g⟩
    · rw [List.getElem?_append_left (by rw [← S.len]; exact q)] at h2
      obtain ⟨us, e1, g⟩ := S.at_ n a ds ⟨g, h1.2⟩ h2
      exact ⟨us, e1, hmvs g⟩
    · subst q; subst g
      rw [S.len, List.getElem?_append_right (Nat.le_refl _)] at h2
      simp at h2
      subst h2
      exact ⟨av, hl, hmvs r⟩
  · have h2 : (M ++ [ys])[n]? = some ds := h2
    rcases one h1.1 with ⟨q, g⟩ | ⟨q, g⟩
    · rw [List.getElem?_append_left (by rw [← S.len]; exact q)] at h2
      obtain ⟨us, e1, g⟩ := S.atD n a ds ⟨g, h1.2⟩ h2
      exact ⟨us, e1, g.imp fun _ _ => hmv⟩
    · subst g
      exact absurd (S.sub _ h1.2) hpc
  · have hm := List.mem_filter.mp (show a ∈ I.p.filter fun b => decide (b ≠ p) from ha)
    obtain ⟨h1, h2⟩ := S.dis a hm.1
    refine ⟨fun z => ?_, h2⟩
    rcases List.mem_append.mp (show a ∈ I.c ++ [p] from z) with z | z
    · exact h1 z
    · exact of_decide_eq_true hm.2 (List.mem_singleton.mp z)
  · show Rep K _ H (.cel M.length) (.ref p)
    simp only [Rep]
    refine ⟨p, rfl, ?_, fun z => hpc (S.sub p z)⟩
    show (I.c ++ [p])[M.length]? = some p
    rw [← S.len]; simp
theorem RepE.wipe {en : Env} {σ : L2.St} (r : RepE K I H en σ) : ∀ vs : List Nat, RepE K I H (wipeE en vs) (wipe σ vs)
  | [] => r
  | v :: vs => (RepE.wipe r vs).unset v none
theorem RepE.grow {en : Env} {σ : L2.St} {p : Addr} {o : HO} (r : RepE K I H en σ) (hp : p ∈ I.p) : RepE K I (upd H p o) en σ :=
  ⟨r.len, fun i d h => let ⟨v, h1, h2⟩ := r.at_ i d h; ⟨v, h1, h2.grow hp⟩⟩
theorem wipe_out {σ : L2.St} {i : Nat} : ∀ {vs : List Nat}, i ∉ vs → (wipe σ vs)[i]? = σ[i]?
  | [], _ => rfl
  | v :: vs, h => by
    show ((wipe σ vs).set v none)[i]? = _
    rw [List.getElem?_set_ne (fun z => h (by rw [z]; exact List.mem_cons_self)), wipe_out fun z => h (List.mem_cons_of_mem _ z)]
theorem wipe_in {σ : L2.St} {i : Nat} : ∀ {vs : List Nat}, i ∈ vs → i < σ.length → (wipe σ vs)[i]? = some none
  | [], h, _ => nomatch h
  | v :: vs, h, hl => by
    show ((wipe σ vs).set v none)[i]? = _
    by_cases q : i = v
    · subst q
      rw [List.getElem?_set_self (by rw [wipe_length]; exact hl)]
    · rw [List.getElem?_set_ne (Ne.symm q)]
      rcases List.mem_cons.mp h with e | h
      · exact absurd e q
      · exact wipe_in h hl
theorem wipe_same {σ σ2 : L2.St} {vs : List Nat} (hl : σ2.length = (wipe σ vs).length) (h : ∀ k, k ∉ vs → σ2[k]? = (wipe σ vs)[k]?) : wipe σ2 vs = wipe σ vs := by
  have hl' : σ2.length = σ.length := by rw [hl, wipe_length]
  refine List.ext_getElem? fun k => ?_
  by_cases q : k ∈ vs
  · by_cases hk : k < σ.length
    · rw [wipe_in q hk, wipe_in q (by rw [hl']; exact hk)]
    · rw [List.getElem?_eq_none (by rw [wipe_length]; omega), List.getElem?_eq_none (by rw [wipe_length]; omega)]
  · rw [wipe_out q, h k q]
/-- a turn's heap: where it is the same, or has one new object -/
theorem Ext.turn (h : H' = H ∨ ∃ p o, H p = none ∧ H' = upd H p o) : Ext I H I H' := by
  rcases h with rfl | ⟨p, o, hp, rfl⟩
  · exact Ext.refl
  · exact Ext.new hp
theorem Sto.turn (S : Sto K I H M) (h : H' = H ∨ ∃ p o, H p = none ∧ H' = upd H p o) : Sto K I H' M := by
  rcases h with rfl | ⟨p, o, hp, rfl⟩
  · exact S
  · exact S.new hp
theorem lc_readG {mk : List D → Store → D × Store} (hmk : MkOk K mk) {vs : List Nat} (hS : ∀ k ∈ Sl, k ∈ vs) {Q : VK} (h : TD K mg W (Rep K) (cLcG mk fi g t f vs) σ H Q) :
    tLc (TI_ K mg W fi) (TG_ K Sl g) (TD K mg W0 RB t) (TD K mg W0 (Rep K) f) vs σ H Q := by
  obtain ⟨I, M, en, S, r, k⟩ := h
  refine ⟨I, M, en, S, r, k.bind fun ds M1 I1 H1 J e1 S1 rJ k1 => ?_⟩
  intro Dl hD
  split at k1
  case isFalse => exact k1.elim
  rename_i qsz
  have r1 := r.mono e1
  cases hz : compF g t f (wipeE en vs) ds M1 with
  | none => rw [hz] at k1; exact k1.elim
  | some z =>
  obtain ⟨out, Mz⟩ := z
  rw [hz] at k1
  have k1 : Kp K mg W (Rep K) (some (.ok (mk out Mz).1, (mk out Mz).2)) I1 H1 σ Q := k1
  have hDf : Dl ∉ I1.p := (S1.fresh hD).2
  refine ⟨fun i m H => i ≤ ds.length ∧ m = ds.length - i ∧ ∃ (I2 : Ow) (M2 : Store) (acc : List D) (av : List V), Ext I1 H1 I2 H ∧ Dl ∈ I2.p ∧ Sto K I2 H M2 ∧ H Dl = some (.lst av) ∧ Reps K I2 H acc av ∧ acc.length ≤ i ∧
      RepE K I2 H (wipeE en vs) (wipe σ vs) ∧ ∃ ys, compF g t f (wipeE en vs) (ds.drop i) M2 = some (ys, Mz) ∧ acc ++ ys = out, ⟨ds.length, ?_⟩, ?_⟩
  · exact ⟨Nat.zero_le _, rfl, I1.hide Dl, M1, [], [], Ext.hide hD, List.mem_cons_self, S1.hide hD, upd_same, by simp only [Reps], Nat.le_refl _, (r1.wipe vs).mono (Ext.hide hD), out, hz, rfl⟩
  · rintro i m H2 ⟨hi2, rfl, I2, M2, acc, av, e2, hpm, S2, hDl, ra, hal, r2, ys, hc2, hout⟩
    obtain ⟨g1, g2⟩ := rJ I2 H2 M2 e2 S2 i
    by_cases hlt : i < ds.length
    · obtain ⟨go, yl⟩ := g1 ds[i] (List.getElem?_eq_getElem hlt)
      refine .inr ⟨go, fun H' => ∃ m', m' < ds.length - i ∧ (i + 1 ≤ ds.length ∧ m' = ds.length - (i + 1) ∧ ∃ (I2 : Ow) (M2 : Store) (acc : List D) (av : List V), Ext I1 H1 I2 H' ∧ Dl ∈ I2.p ∧ Sto K I2 H' M2 ∧ H' Dl = some (.lst av) ∧ Reps K I2 H' acc av ∧ acc.length ≤ i + 1 ∧
        RepE K I2 H' (wipeE en vs) (wipe σ vs) ∧ ∃ ys, compF g t f (wipeE en vs) (ds.drop (i + 1)) M2 = some (ys, Mz) ∧ acc ++ ys = out), fun _ z => z, fun x H3 hy => ?_⟩
      obtain ⟨ht3, rx⟩ := yl x H3 hy
      rw [List.drop_eq_getElem_cons hlt] at hc2
      have e3 : Ext I2 H2 I2 H3 := Ext.turn ht3
      have S3 : Sto K I2 H3 M2 := S2.turn ht3
      refine ⟨I2, M2, wipeE en vs, ds[i], S3, r2.mono e3, rx, ?_⟩
      unfold compF at hc2
      revert hc2
      cases q1 : g ds[i] (wipeE en vs) M2 with
      | none => exact fun z => nomatch z
      | some z1 =>
      obtain ⟨en1, M3⟩ := z1
      dsimp only
      intro hc2 I4 H4 σ4 e4 S4 r4 l4 o4
      have hw : wipe σ4 vs = wipe σ vs := wipe_same l4 fun k hk => o4 k fun z => hk (hS k z)
      refine ⟨hw, I4, M3, en1, S4, r4, ?_⟩
      have e24 := e3.trans e4
      -- what holds at the next turn, from a later state
      have next : ∀ {I5 : Ow} {H5 : Hp} {M5 : Store} {ys5 : List D}, Ext I4 H4 I5 H5 → Sto K I5 H5 M5 → compF g t f (wipeE en vs) (ds.drop (i + 1)) M5 = some (ys5, Mz) → acc ++ ys5 = out →
          ∃ m', m' < ds.length - i ∧ (i + 1 ≤ ds.length ∧ m' = ds.length - (i + 1) ∧ ∃ (I2 : Ow) (M2 : Store) (acc : List D) (av : List V), Ext I1 H1 I2 H5 ∧ Dl ∈ I2.p ∧ Sto K I2 H5 M2 ∧ H5 Dl = some (.lst av) ∧ Reps K I2 H5 acc av ∧ acc.length ≤ i + 1 ∧
            RepE K I2 H5 (wipeE en vs) (wipe σ vs) ∧ ∃ ys, compF g t f (wipeE en vs) (ds.drop (i + 1)) M2 = some (ys, Mz) ∧ acc ++ ys = out) := by
        intro I5 H5 M5 ys5 e5 S5 hc5 ho5
        have e25 := e24.trans e5
        exact ⟨_, by omega, hlt, rfl, I5, M5, acc, av, e2.trans e25, e25.mem hpm, S5, e25.keep _ _ hDl (S2.dis Dl hpm).1, e25.reps ra, Nat.le_succ_of_le hal, r2.mono e25, ys5, hc5, ho5⟩
      revert hc2
      cases q2 : t en1 M3 with
      | none => exact fun z => nomatch z
      | some z2 =>
      obtain ⟨o2, M4⟩ := z2
      cases o2 with
      | ex _ _ => exact fun z => nomatch z
      | ok b =>
      cases b with
      | false =>
        dsimp only
        intro hc2 I5 H5 b5 e5 S5 rb
        cases rb
        exact (if_neg Bool.false_ne_true).mpr (next e5 S5 hc2 hout)
      | true =>
        dsimp only
        intro hc2 I5 H5 b5 e5 S5 rb
        cases rb
        refine (if_pos rfl).mpr ⟨I5, M4, en1, S5, r4.mono e5, ?_⟩
        revert hc2
        cases q3 : f en1 M4 with
        | none => exact fun z => nomatch z
        | some z3 =>
        obtain ⟨o3, M5⟩ := z3
        cases o3 with
        | ex _ _ => exact fun z => nomatch z
        | ok y =>
        dsimp only
        cases q4 : compF g t f (wipeE en vs) (ds.drop (i + 1)) M5 with
        | none => exact fun z => nomatch z
        | some z4 =>
        obtain ⟨ys5, M6⟩ := z4
        intro hc2 I6 H6 v e6 S6 rv
        cases hc2
        have e26 := (e24.trans e5).trans e6
        have hpm6 := e26.mem hpm
        have hD6 := e26.keep _ _ hDl (S2.dis Dl hpm).1
        refine ⟨av, hD6, ?_, ?_⟩
        · have h1 : av.length = acc.length := (e26.reps ra).length.symm
          have h2 : ds.length ≤ sizeLine := szOk_ok qsz
          omega
        · refine ⟨_, by omega, hlt, rfl, I6, M5, acc ++ [y], av ++ [v], (e2.trans e26).grow hD, hpm6, S6.grow hpm6, upd_same, ((e26.reps ra).append (.one rv)).grow hpm6, by rw [List.length_append]; simp; omega, (r2.mono e26).grow hpm6, ys5, q4, by rw [← hout]; simp⟩
    · have hi3 : i = ds.length := by omega
      subst hi3
      refine .inl ⟨g2 (Nat.le_refl _), ?_⟩
      rw [List.drop_length] at hc2
      cases hc2
      rw [List.append_nil] at hout
      subst hout
      obtain ⟨I', q1, q2, q3⟩ := hmk I1 H1 I2 H2 _ Dl _ av hDf hD e2 hpm S2 hDl ra
      exact k1.ok' q1 q2 q3
theorem lc_read {vs : List Nat} (hS : ∀ k ∈ Sl, k ∈ vs) {Q : VK} (h : TD K mg W (Rep K) (cLc fi g t f vs) σ H Q) :
    tLc (TI_ K mg W fi) (TG_ K Sl g) (TD K mg W0 RB t) (TD K mg W0 (Rep K) f) vs σ H Q := lc_readG mkI_ok hS h
theorem ev_lc {scope : Scope} {own : List (Str × Nat)} (hc : X.calm = true) (hN : X.N.Nodup) (hi : EvI X W tg iter fi) (ok : BlkOk X.N X.env.scope scope own) (hS : ∀ k ∈ Sl, k ∈ own.map (·.2))
    (hg : ∀ (s : Shared) (H : Hp) (C : Addr) (cl : List (Str × Addr)) (fp : List Addr), EvG (X.blk s H scope (compEnvC scope cl C X.env) fp) tg Sl g)
    (ht : ∀ (s : Shared) (H : Hp) (C : Addr) (cl : List (Str × Addr)) (fp : List Addr), EvTs (X.blk s H scope (compEnvC scope cl C X.env) fp) W0 ifs t)
    (he : ∀ (s : Shared) (H : Hp) (C : Addr) (cl : List (Str × Addr)) (fp : List Addr), EvE (X.blk s H scope (compEnvC scope cl C X.env) fp) W0 elt f) (hs : ∀ x, foldedSetIterable iter X.env x = pure x := by intro _; rfl) :
    EvE X W (.ListComp elt [⟨tg, iter, ifs, 0⟩] scope pos) (cLc fi g t f (own.map (·.2))) :=
  ⟨pe_imp (pe_lc (g := TG_ X.K Sl g) (tt := TD X.K X.mg W0 RB t) (te := TD X.K X.mg W0 (Rep X.K) f) hc hN hi.pi ok (fun s H C cl fp => (hg s H C cl fp).pg) (fun s H C cl fp => (ht s H C cl fp).pts) (fun s H C cl fp => (he s H C cl fp).pe) hs) fun _ _ _ h => lc_read hS h⟩
end
end DL
/-! The data layer, part 7: statements. -/
namespace DL
open PySem PySem.Spec PyProof.Rows L2
/-- how a statement ends -/
inductive Fl where
  | nx (en : Env)
  | rt (d : D)
  | bk (en : Env)
  | ct (en : Env)
  | ex (c : Str) (fs : List (Str × D)) (en : Env)
abbrev SRes := Option (Fl × Store)
abbrev SF := Env → Store → SRes
section
variable (K : PySem.W.Frag) (mg : Str → Option Value) (W : WX)
def Sp_ (o : SRes) (I : Ow) (H : Hp) (Z : Ends) : Prop :=
  match o with
  | none => False
  | some (.nx en, M) => ∀ I' H' σ', Ext I H I' H' → Sto K I' H' M → RepE K I' H' en σ' → Z.nx σ' H'
  | some (.bk en, M) => ∀ I' H' σ', Ext I H I' H' → Sto K I' H' M → RepE K I' H' en σ' → Z.bk σ' H'
  | some (.ct en, M) => ∀ I' H' σ', Ext I H I' H' → Sto K I' H' M → RepE K I' H' en σ' → Z.ct σ' H'
  | some (.rt d, M) => ∀ I' H' v, Ext I H I' H' → Sto K I' H' M → Rep K I' H' d v → Z.rt v H'
  | some (.ex c fs en, M) => ∀ I' H' σ' cls dx, Ext I H I' H' → Sto K I' H' M → RepE K I' H' en σ' → ExR K mg I' H' c fs cls dx → W cls dx σ' H'
def TSd (f : SF) : TS := fun Z σ H => ∃ I M en, Sto K I H M ∧ RepE K I H en σ ∧ Sp_ K mg W (f en M) I H Z
end
structure EvS (X : Cx) (W : WX) (st : Stmt) (f : SF) : Prop where
  ps : PS X st (TSd X.K X.mg W f)
structure EvSs (X : Cx) (W : WX) (st : List Stmt) (f : SF) : Prop where
  pss : PSs X st (TSd X.K X.mg W f)
section
variable {X : Cx} {W : WX} {K : PySem.W.Frag} {mg : Str → Option Value} {I I' : Ow} {H H' : Hp} {M M' : Store} {σ : L2.St} {en : Env} {Z : Ends}
variable {a b c e tg iter elt : Expr} {es ifs : List Expr} {pos : Pos} {fa fb fc : EF} {fr fi : AF} {g : GF} {t : TF} {f : EF} {Sl : List Nat} {st : Stmt} {sts body : List Stmt} {p q : SF}
theorem Sp_.mono {o : SRes} (h : Sp_ K mg W o I H Z) (e : Ext I H I' H') : Sp_ K mg W o I' H' Z := by
  match o, h with
  | some (.nx en, M), h => exact fun I2 H2 σ2 e2 => h I2 H2 σ2 (e.trans e2)
  | some (.bk en, M), h => exact fun I2 H2 σ2 e2 => h I2 H2 σ2 (e.trans e2)
  | some (.ct en, M), h => exact fun I2 H2 σ2 e2 => h I2 H2 σ2 (e.trans e2)
  | some (.rt d, M), h => exact fun I2 H2 σ2 e2 => h I2 H2 σ2 (e.trans e2)
  | some (.ex c fs en, M), h => exact fun I2 H2 σ2 cls dx e2 => h I2 H2 σ2 cls dx (e.trans e2)
/-- behind an expression -/
def sbnd {α : Type} (r : Res α) (en : Env) (k : α → Store → SRes) : SRes :=
  match r with
  | none => none
  | some (.ok a, M) => k a M
  | some (.ex c fs, M) => some (.ex c fs en, M)
@[simp] theorem sbnd_ok {α : Type} {a : α} {M : Store} {k : α → Store → SRes} : sbnd (some (.ok a, M)) en k = k a M := rfl
@[simp] theorem sbnd_none {α : Type} {k : α → Store → SRes} : sbnd none en k = none := rfl
@[simp] theorem sbnd_ex {α : Type} {c : Str} {fs : List (Str × D)} {M : Store} {k : α → Store → SRes} : sbnd (some (.ex c fs, M)) en k = some (.ex c fs en, M) := rfl
theorem Sp_.bind {α β : Type} {R : Ow → Hp → α → β → Prop} {o : Res α} {k : α → Store → SRes} {Q : β → Hp → Prop} (h : Sp_ K mg W (sbnd o en k) I H Z) (r : RepE K I H en σ)
    (step : ∀ a M I1 H1 b, Ext I H I1 H1 → Sto K I1 H1 M → R I1 H1 a b → Sp_ K mg W (k a M) I1 H1 Z → Q b H1) : Kp K mg W R o I H σ Q := by
  match o, h with
  | some (.ok a, M), h => exact fun I1 H1 b e S rr => step a M I1 H1 b e S rr (Sp_.mono (o := k a M) h e)
  | some (.ex c fs, M), h => exact fun I1 H1 cls dx e S xr => h I1 H1 σ cls dx e S (r.mono e) xr
def sSeq (p q : SF) : SF := fun en M => match p en M with | some (.nx en1, M1) => q en1 M1 | o => o
def sSkip : SF := fun en M => some (.nx en, M)
theorem Sp_.seq {o : SRes} (h : Sp_ K mg W (match o with | some (.nx en1, M1) => q en1 M1 | o => o) I H Z) : Sp_ K mg W o I H { Z with nx := TSd K mg W q Z } := by
  match o, h with
  | some (.nx en, M), h => exact fun I2 H2 σ2 e2 S2 r2 => ⟨I2, M, en, S2, r2, Sp_.mono (o := q en M) h e2⟩
  | some (.bk en, M), h => exact h
  | some (.ct en, M), h => exact h
  | some (.rt d, M), h => exact h
  | some (.ex c fs en, M), h => exact h
theorem ess_nil : EvSs X W [] sSkip := ⟨pss_imp pss_nil fun Z σ H ⟨I, M, en, S, r, k⟩ => k I H σ Ext.refl S r⟩
theorem ess_cons (h1 : EvS X W st p) (h2 : EvSs X W sts q) : EvSs X W (st :: sts) (sSeq p q) :=
  ⟨pss_imp (pss_cons h1.ps h2.pss) fun Z σ H ⟨I, M, en, S, r, k⟩ => ⟨I, M, en, S, r, Sp_.seq k⟩⟩
theorem ess_one (h1 : EvS X W st p) : EvSs X W [st] p := ⟨pss_one h1.ps⟩
def sExpr (fa : EF) : SF := fun en M => sbnd (fa en M) en fun _ M1 => some (.nx en, M1)
theorem es_expr (h : EvE X W e fa) (hs : swapsWith e none pos.line X.env = pure false := by rfl) : EvS X W (.Expr e pos) (sExpr fa) := by
  refine ⟨ps_imp (ps_expr h.pe hs) fun Z σ H h => ?_⟩
  obtain ⟨I, M, en, S, r, k⟩ := h
  exact ⟨I, M, en, S, r, k.bind r fun d M1 I1 H1 v e1 S1 r1 k1 => k1 I1 H1 σ Ext.refl S1 (r.mono e1)⟩
theorem es_doc {x j pos pos'} : EvS X W (.Expr (.Constant (.str x) j pos) pos') sSkip := ⟨ps_imp ps_doc fun Z σ H ⟨I, M, en, S, r, k⟩ => k I H σ Ext.refl S r⟩
def sRet (fa : EF) : SF := fun en M => sbnd (fa en M) en fun d M1 => some (.rt d, M1)
theorem es_ret (h : EvE X W e fa) : EvS X W (.Return (some e) pos) (sRet fa) := by
  refine ⟨ps_imp (ps_ret h.pe) fun Z σ H h => ?_⟩
  obtain ⟨I, M, en, S, r, k⟩ := h
  exact ⟨I, M, en, S, r, k.bind r fun d M1 I1 H1 v e1 S1 r1 k1 => k1 I1 H1 v Ext.refl S1 r1⟩
def sRetN : SF := fun _ M => some (.rt .non, M)
theorem es_retN : EvS X W (.Return none pos) sRetN := ⟨ps_imp ps_retN fun Z σ H ⟨I, M, en, S, r, k⟩ => k I H .non Ext.refl S rep_non⟩
theorem es_pass : EvS X W (.Pass pos) sSkip := ⟨ps_imp ps_pass fun Z σ H ⟨I, M, en, S, r, k⟩ => k I H σ Ext.refl S r⟩
def sBreak : SF := fun en M => some (.bk en, M)
def sCont : SF := fun en M => some (.ct en, M)
theorem es_break : EvS X W (.Break pos) sBreak := ⟨ps_imp ps_break fun Z σ H ⟨I, M, en, S, r, k⟩ => k I H σ Ext.refl S r⟩
theorem es_cont : EvS X W (.Continue pos) sCont := ⟨ps_imp ps_continue fun Z σ H ⟨I, M, en, S, r, k⟩ => k I H σ Ext.refl S r⟩
def sIf (t : TF) (p q : SF) : SF := fun en M => sbnd (t en M) en fun x M1 => if x = true then p en M1 else q en M1
theorem es_if (hc : EvT X W c t) (h1 : EvSs X W sts p) (h2 : EvSs X W body q) : EvS X W (.If c sts body pos) (sIf t p q) := by
  refine ⟨ps_imp (ps_if hc.pt h1.pss h2.pss) fun Z σ H h => ?_⟩
  obtain ⟨I, M, en, S, r, k⟩ := h
  refine ⟨I, M, en, S, r, k.bind r fun x M1 I1 H1 b e1 S1 r1 k1 => ?_⟩
  cases r1
  cases x with
  | true => exact (if_pos rfl).mpr ⟨I1, M1, en, S1, r.mono e1, k1⟩
  | false => exact (if_neg Bool.false_ne_true).mpr ⟨I1, M1, en, S1, r.mono e1, k1⟩
/-- target = value -/
def sAsg (fa : EF) (g : GF) : SF := fun en M => sbnd (fa en M) en fun d M1 => match g d en M1 with | some (en', M2) => some (.nx en', M2) | none => none
theorem asg_read {te : TE} (i : ∀ Q, TD K mg W (Rep K) fa σ H Q → te σ H Q) (h : TSd K mg W (sAsg fa g) Z σ H) : tAsg te (TG_ K Sl g) Z σ H := by
  obtain ⟨I, M, en, S, r, k⟩ := h
  refine i _ ⟨I, M, en, S, r, Sp_.bind k r fun d M1 I1 H1 v e1 S1 r1 k1 => ?_⟩
  refine ⟨I1, M1, en, d, S1, r.mono e1, r1, ?_⟩
  revert k1
  cases g d en M1 with
  | none => exact id
  | some z => exact fun k1 I2 H2 σ2 e2 S2 r2 _ _ => k1 I2 H2 σ2 e2 S2 r2
theorem es_asg (he : EvE X W e fa) (hg : EvG X tg Sl g) (hs : swapsWithSole [tg] e pos.line X.env = pure false := by rfl) (hw : swappedStores [tg] e X.env = pure none := by rfl)
    (h1 : (assignEach [tg] X.env).map (·.2) = [assign tg X.env] := by rfl) : EvS X W (.Assign [tg] e pos) (sAsg fa g) :=
  ⟨ps_imp (ps_asg he.pe hg.pg hs hw h1) fun _ _ _ h => asg_read (fun _ z => z) h⟩
theorem gN_read {i : Nat} {te : TE} (j : ∀ Q, TD K mg W (Rep K) fa σ H Q → te σ H Q) (h : TSd K mg W (sAsg fa (gN i)) Z σ H) : tAsg te (gName i) Z σ H := by
  obtain ⟨I, M, en, S, r, k⟩ := h
  refine j _ ⟨I, M, en, S, r, Sp_.bind k r fun d M1 I1 H1 v e1 S1 r1 k1 => ?_⟩
  exact k1 I1 H1 _ Ext.refl S1 ((r.mono e1).set i r1)
/-- name = value -/
theorem es_set {i : Nat} {x : Str} {pos' : Pos} (hN : X.N.Nodup) (hi : X.N[i]? = some x) (hx : Loc X.env.scope x) (he : EvE X W e fa) (hs : swapsWith e (some (.Name x pos')) pos.line X.env = pure false := by rfl) (hf : X.fn x = true ∨ X.env.scope.names.lookup x = some .local := by first | exact .inl rfl | exact .inr rfl | assumption) :
    EvS X W (.Assign [.Name x pos'] e pos) (sAsg fa (gN i)) := ⟨ps_imp (ps_set hN hi hx he.pe hs hf) fun _ _ _ h => gN_read (fun _ z => z) h⟩
/-- name = [.. for ..] -/
theorem es_setLc {i : Nat} {y : Str} {py spos : Pos} {scope : Scope} {own : List (Str × Nat)} (hc : X.calm = true) (hN : X.N.Nodup) (hy : X.N[i]? = some y) (hyl : X.env.scope.names.lookup y = some .local)
    (hsw : swapsWith (.ListComp elt [⟨tg, iter, ifs, 0⟩] scope pos) (some (.Name y py)) spos.line X.env = pure true) (hi : EvI X W tg iter fi) (ok : BlkOk X.N X.env.scope scope own) (hS : ∀ k ∈ Sl, k ∈ own.map (·.2))
    (hg : ∀ (s : Shared) (H : Hp) (C : Addr) (cl : List (Str × Addr)) (fp : List Addr), EvG (X.blk s H scope (compEnvC scope cl C X.env) fp) tg Sl g)
    (ht : ∀ (s : Shared) (H : Hp) (C : Addr) (cl : List (Str × Addr)) (fp : List Addr), EvTs (X.blk s H scope (compEnvC scope cl C X.env) fp) W0 ifs t)
    (he : ∀ (s : Shared) (H : Hp) (C : Addr) (cl : List (Str × Addr)) (fp : List Addr), EvE (X.blk s H scope (compEnvC scope cl C X.env) fp) W0 elt f) (hs : ∀ x, foldedSetIterable iter X.env x = pure x := by intro _; rfl) :
    EvS X W (.Assign [.Name y py] (.ListComp elt [⟨tg, iter, ifs, 0⟩] scope pos) spos) (sAsg (cLc fi g t f (own.map (·.2))) (gN i)) :=
  ⟨ps_imp (ps_setLc (g := TG_ X.K Sl g) (tt := TD X.K X.mg W0 RB t) (te := TD X.K X.mg W0 (Rep X.K) f) hc hN hy hyl hsw hi.pi ok (fun s H C cl fp => (hg s H C cl fp).pg) (fun s H C cl fp => (ht s H C cl fp).pts) (fun s H C cl fp => (he s H C cl fp).pe) hs)
    fun _ _ _ h => gN_read (fun _ z => lc_read hS z) h⟩
/-- .. a list that will be changed -/
theorem es_setLcC {i : Nat} {y : Str} {py spos : Pos} {scope : Scope} {own : List (Str × Nat)} (hc : X.calm = true) (hN : X.N.Nodup) (hy : X.N[i]? = some y) (hyl : X.env.scope.names.lookup y = some .local)
    (hsw : swapsWith (.ListComp elt [⟨tg, iter, ifs, 0⟩] scope pos) (some (.Name y py)) spos.line X.env = pure true) (hi : EvI X W tg iter fi) (ok : BlkOk X.N X.env.scope scope own) (hS : ∀ k ∈ Sl, k ∈ own.map (·.2))
    (hg : ∀ (s : Shared) (H : Hp) (C : Addr) (cl : List (Str × Addr)) (fp : List Addr), EvG (X.blk s H scope (compEnvC scope cl C X.env) fp) tg Sl g)
    (ht : ∀ (s : Shared) (H : Hp) (C : Addr) (cl : List (Str × Addr)) (fp : List Addr), EvTs (X.blk s H scope (compEnvC scope cl C X.env) fp) W0 ifs t)
    (he : ∀ (s : Shared) (H : Hp) (C : Addr) (cl : List (Str × Addr)) (fp : List Addr), EvE (X.blk s H scope (compEnvC scope cl C X.env) fp) W0 elt f) (hs : ∀ x, foldedSetIterable iter X.env x = pure x := by intro _; rfl) :
    EvS X W (.Assign [.Name y py] (.ListComp elt [⟨tg, iter, ifs, 0⟩] scope pos) spos) (sAsg (cLcC fi g t f (own.map (·.2))) (gN i)) :=
  ⟨ps_imp (ps_setLc (g := TG_ X.K Sl g) (tt := TD X.K X.mg W0 RB t) (te := TD X.K X.mg W0 (Rep X.K) f) hc hN hy hyl hsw hi.pi ok (fun s H C cl fp => (hg s H C cl fp).pg) (fun s H C cl fp => (ht s H C cl fp).pts) (fun s H C cl fp => (he s H C cl fp).pe) hs)
    fun _ _ _ h => gN_read (fun _ z => lc_readG mkC_ok hS z) h⟩
/-- x, y = a, b with plain local names (stored from the right) -/
def sPar (i j : Nat) (fr : AF) : SF := fun en M => sbnd (fr en M) en fun ds M1 => match ds with | [d, d'] => some (.nx ((en.set i (some d)).set j (some d')), M1) | _ => none
theorem es_par {i j : Nat} {x y : Str} {px py pt : Pos} {kt k2 pt2} (hc : X.calm = true) (hN : X.N.Nodup) (hi : X.N[i]? = some x) (hj : X.N[j]? = some y) (hij : i ≠ j)
    (hx : X.env.scope.names.lookup x = some .local) (hy : X.env.scope.names.lookup y = some .local) (ha : EvA X W [a, b] fr)
    (hw : swappedStores [.Tuple [.Name x px, .Name y py] kt pt] (.Tuple [a, b] k2 pt2) X.env = pure (some [x, y]))
    (hs : swapsWithSole [.Tuple [.Name x px, .Name y py] kt pt] (.Tuple [a, b] k2 pt2) pos.line X.env = pure false := by rfl) :
    EvS X W (.Assign [.Tuple [.Name x px, .Name y py] kt pt] (.Tuple [a, b] k2 pt2) pos) (sPar i j fr) := by
  refine ⟨ps_imp (ps_par hc hN hi hj hij hx hy ha.pa hw hs) fun Z σ H h => ?_⟩
  obtain ⟨I, M, en, S, r, k⟩ := h
  refine ⟨I, M, en, S, r, Sp_.bind k r fun ds M1 I1 H1 vs e1 S1 r1 k1 => ?_⟩
  revert k1
  match ds, r1 with
  | [d, d'], r1 =>
    obtain ⟨u, u', rfl, h1, h2⟩ := reps2 r1
    intro k1
    exact ⟨u, u', rfl, k1 I1 H1 _ Ext.refl S1 (((r.mono e1).set i h1).set j h2)⟩
  | [], _ => exact False.elim
  | [_], _ => exact False.elim
  | _ :: _ :: _ :: _, _ => exact False.elim
/-- name op= value -/
def sAug (i : Nat) (g : D → D → Store → Res D) (fa : EF) : SF := fun en M => match en[i]? with
  | some (some d) => sbnd (fa en M) en fun y M1 => sbnd (g d y M1) en fun z M2 => some (.nx (en.set i (some z)), M2)
  | _ => none
theorem es_aug {i : Nat} {x : Str} {op : Operator} {g : D → D → Store → Res D} {r : R2} {pos' : Pos} (hN : X.N.Nodup) (hi : X.N[i]? = some x) (hx : Loc X.env.scope x) (he : EvE X W e fa) (ho : PIp X op r) (hg : OpD X.K X.mg W g r)
    (hf : X.fn x = true ∨ X.env.scope.names.lookup x = some .local := by first | exact .inl rfl | exact .inr rfl | assumption) : EvS X W (.AugAssign (.Name x pos') op e pos) (sAug i g fa) := by
  refine ⟨ps_imp (ps_aug hN hi hx he.pe ho hf) fun Z σ H h => ?_⟩
  obtain ⟨I, M, en, S, re, k⟩ := h
  unfold sAug at k
  split at k
  · rename_i d q
    obtain ⟨v, h1, h2⟩ := re.at_ i d q
    refine ⟨v, h1, I, M, en, S, re, Sp_.bind k re fun y M1 I1 H1 u e1 S1 r1 k1 => ?_⟩
    refine hg d y M1 I1 H1 v u σ _ S1 (e1.rep h2) r1 (Sp_.bind k1 (re.mono e1) fun z M2 I2 H2 w e2 S2 r2 k2 => ?_)
    exact k2 I2 H2 _ Ext.refl S2 (((re.mono e1).mono e2).set i r2)
  · exact k.elim
end
end DL
/-! The data layer, part 8: loops, stores into lists, chains, methods. -/
namespace DL
open PySem PySem.Spec PyProof.Rows L2
section
variable {X : Cx} {W : WX} {K : PySem.W.Frag} {mg : Str → Option Value} {I I' : Ow} {H H' : Hp} {M M' : Store} {σ : L2.St} {en : Env} {Z : Ends}
variable {a b c d e o i tg iter elt : Expr} {es ifs : List Expr} {pos : Pos} {fa fb fc fd fe fo fi' : EF} {fr fi : AF} {g : GF} {t : TF} {f : EF} {Sl : List Nat} {st : Stmt} {sts body : List Stmt} {p q : SF}

/-! ### while -/
def wLoop (t : TF) (p : SF) : Nat → SF
  | 0 => fun _ _ => none
  | n + 1 => fun en M => sbnd (t en M) en fun x M1 => if x = true then (match p en M1 with
      | some (.nx en2, M2) => wLoop t p n en2 M2
      | some (.ct en2, M2) => wLoop t p n en2 M2
      | some (.bk en2, M2) => some (.nx en2, M2)
      | o => o) else some (.nx en, M1)
open Classical in
/-- while t: p — where it ends -/
noncomputable def sWhile (t : TF) (p : SF) : SF := fun en M => if h : ∃ n r, wLoop t p n en M = some r then wLoop t p (choose h) en M else none
theorem wLoop_succ {t : TF} {p : SF} : ∀ {n : Nat} {en : Env} {M : Store} {r : Fl × Store}, wLoop t p n en M = some r → wLoop t p (n + 1) en M = some r := by
  intro n
  induction n with
  | zero => intro en M r h; cases h
  | succ n ih =>
    intro en M r h
    unfold wLoop at h ⊢
    revert h
    cases t en M with
    | none => exact id
    | some z =>
      obtain ⟨o, M1⟩ := z
      cases o with
      | ex c fs => exact id
      | ok x =>
        rw [sbnd_ok, sbnd_ok]
        cases x with
        | false => exact id
        | true =>
          rw [if_pos rfl, if_pos rfl]
          cases p en M1 with
          | none => exact id
          | some z =>
            obtain ⟨o, M2⟩ := z
            cases o with
            | nx en2 => exact ih
            | ct en2 => exact ih
            | bk en2 => exact id
            | rt d => exact id
            | ex c fs en2 => exact id
theorem wLoop_add {t : TF} {p : SF} {n : Nat} {en : Env} {M : Store} {r : Fl × Store} (h : wLoop t p n en M = some r) : ∀ k, wLoop t p (n + k) en M = some r
  | 0 => h
  | k + 1 => wLoop_succ (wLoop_add h k)
theorem sWhile_eq {t : TF} {p : SF} {n : Nat} {en : Env} {M : Store} {r : Fl × Store} (h : wLoop t p n en M = some r) : sWhile t p en M = some r := by
  have hx : ∃ n r, wLoop t p n en M = some r := ⟨n, r, h⟩
  unfold sWhile
  rw [dif_pos hx]
  obtain ⟨r', h'⟩ := Classical.choose_spec hx
  have h1 := wLoop_add h (Classical.choose hx)
  have h2 := wLoop_add h' n
  rw [Nat.add_comm] at h2
  rw [h'] 
  exact h2.symm.trans h1
theorem es_while (hp : PassesOwn (model X.prog X.w) X.A X.env X.xe) (hc : EvT X W c t) (hb : EvSs X W body p) : EvS X W (.While c body [] pos) (sWhile t p) := by
  refine ⟨ps_imp (ps_while hp hc.pt hb.pss) fun Z σ H h => ?_⟩
  obtain ⟨I, M, en, S, r, k⟩ := h
  unfold sWhile at k
  split at k
  case isFalse => exact k.elim
  rename_i hx
  generalize Classical.choose hx = n at k
  refine ⟨fun m σ' H' => ∃ I' M' en', Sto X.K I' H' M' ∧ RepE X.K I' H' en' σ' ∧ Sp_ X.K X.mg W (wLoop t p m en' M') I' H' Z, ⟨n, I, M, en, S, r, k⟩, ?_⟩
  rintro m σ' H' ⟨I', M', en', S', r', k'⟩
  cases m with
  | zero => exact k'.elim
  | succ m =>
    unfold wLoop at k'
    refine ⟨I', M', en', S', r', Sp_.bind k' r' fun x M1 I1 H1 b e1 S1 rb k1 => ?_⟩
    cases rb
    cases x with
    | false =>
      rw [if_neg Bool.false_ne_true] at k1 ⊢
      exact k1 I1 H1 _ Ext.refl S1 (r'.mono e1)
    | true =>
      rw [if_pos rfl] at k1 ⊢
      refine ⟨fun σ2 H2 => ∃ I' M' en', Sto X.K I' H2 M' ∧ RepE X.K I' H2 en' σ2 ∧ Sp_ X.K X.mg W (wLoop t p m en' M') I' H2 Z, fun σ2 H2 h => ⟨m, Nat.lt_succ_self _, h⟩, I1, M1, en', S1, r'.mono e1, ?_⟩
      revert k1
      cases p en' M1 with
      | none => exact id
      | some z =>
        obtain ⟨o, M2⟩ := z
        cases o with
        | nx en2 => exact fun k1 I2 H2 σ2 e2 S2 r2 => ⟨I2, M2, en2, S2, r2, Sp_.mono k1 e2⟩
        | ct en2 => exact fun k1 I2 H2 σ2 e2 S2 r2 => ⟨I2, M2, en2, S2, r2, Sp_.mono k1 e2⟩
        | bk en2 => exact id
        | rt d => exact id
        | ex c fs en2 => exact id

/-! ### for -/
def fLoop (g : GF) (p : SF) : List D → SF
  | [] => fun en M => some (.nx en, M)
  | d :: ds => fun en M => match g d en M with
    | none => none
    | some (en1, M1) => match p en1 M1 with
      | some (.nx en2, M2) => fLoop g p ds en2 M2
      | some (.ct en2, M2) => fLoop g p ds en2 M2
      | some (.bk en2, M2) => some (.nx en2, M2)
      | o => o
def sFor (fi : AF) (g : GF) (p : SF) : SF := fun en M => sbnd (fi en M) en fun ds M1 => fLoop g p ds en M1
theorem es_for (hp : PassesOwn (model X.prog X.w) X.A X.env X.xe) (hc : X.calm = true) (hi : EvI X W tg iter fi) (hg : EvG X tg Sl g) (hb : EvSs X W body p)
    (hs : ∀ x, foldedSetIterable iter X.env x = pure x := by intro _; rfl) : EvS X W (.For tg iter body [] pos) (sFor fi g p) := by
  refine ⟨ps_imp (ps_for hp hc hi.pi hg.pg hb.pss hs) fun Z σ H h => ?_⟩
  obtain ⟨I, M, en, S, r, k⟩ := h
  refine ⟨I, M, en, S, r, Sp_.bind k r fun ds M1 I1 H1 J e1 S1 rJ k1 => ?_⟩
  refine ⟨fun i m σ' H' => i ≤ ds.length ∧ m = ds.length - i ∧ ∃ I' M' en', Ext I1 H1 I' H' ∧ Sto X.K I' H' M' ∧ RepE X.K I' H' en' σ' ∧ Sp_ X.K X.mg W (fLoop g p (ds.drop i) en' M') I' H' Z, ⟨ds.length, Nat.zero_le _, rfl, I1, M1, en, Ext.refl, S1, r.mono e1, k1⟩, ?_⟩
  rintro i m σ' H2 ⟨hi2, rfl, I2, M2, en2, e2, S2, r2, k2⟩
  obtain ⟨g1, g2⟩ := rJ I2 H2 M2 e2 S2 i
  by_cases hlt : i < ds.length
  · obtain ⟨go, yl⟩ := g1 ds[i] (List.getElem?_eq_getElem hlt)
    refine .inr ⟨go, fun σ' H' => ∃ m', m' < ds.length - i ∧ (i + 1 ≤ ds.length ∧ m' = ds.length - (i + 1) ∧ ∃ I' M' en', Ext I1 H1 I' H' ∧ Sto X.K I' H' M' ∧ RepE X.K I' H' en' σ' ∧ Sp_ X.K X.mg W (fLoop g p (ds.drop (i + 1)) en' M') I' H' Z), fun _ _ z => z, fun x H3 hy => ?_⟩
    obtain ⟨ht3, rx⟩ := yl x H3 hy
    rw [List.drop_eq_getElem_cons hlt] at k2
    have e3 : Ext I2 H2 I2 H3 := Ext.turn ht3
    refine ⟨I2, M2, en2, ds[i], S2.turn ht3, r2.mono e3, rx, ?_⟩
    unfold fLoop at k2
    revert k2
    cases q1 : g ds[i] en2 M2 with
    | none => exact id
    | some z1 =>
    obtain ⟨en3, M3⟩ := z1
    dsimp only
    intro k2 I4 H4 σ4 e4 S4 r4 l4 o4
    have e24 := e3.trans e4
    refine ⟨I4, M3, en3, S4, r4, ?_⟩
    have k4 := Sp_.mono k2 e24
    revert k4
    cases p en3 M3 with
    | none => exact id
    | some z =>
      obtain ⟨o, M5⟩ := z
      cases o with
      | nx en5 => exact fun k1 I5 H5 σ5 e5 S5 r5 => ⟨_, by omega, hlt, rfl, I5, M5, en5, (e2.trans e24).trans e5, S5, r5, Sp_.mono k1 e5⟩
      | ct en5 => exact fun k1 I5 H5 σ5 e5 S5 r5 => ⟨_, by omega, hlt, rfl, I5, M5, en5, (e2.trans e24).trans e5, S5, r5, Sp_.mono k1 e5⟩
      | bk en2 => exact id
      | rt d => exact id
      | ex c fs en2 => exact id
  · have hi3 : i = ds.length := by omega
    subst hi3
    rw [List.drop_length] at k2
    exact .inl ⟨g2 (Nat.le_refl _), k2 I2 H2 _ Ext.refl S2 r2⟩

/-! ### stores into lists -/
def gSubC (fo fi' : EF) : GF := fun d en M => match fo en M with
  | some (.ok (.cel n), M1) => match fi' en M1 with
    | some (.ok (.int k), M2) => match M2[n]? with
      | some ds => match ixN ds.length k with | some j => some (en, M2.set n (ds.set j d)) | none => none
      | none => none
    | _ => none
  | _ => none
theorem eg_sub (ho : EvE X W0 o fo) (hi : EvE X W0 i fi')
    (ha : ∀ v, assign (.Subscript o i pos) X.env v = (do
      let ov ← holding [v] (eval o X.env)
      let iv ← holding [v, ov] (eval i X.env)
      standAt pos
      holding [v, ov, iv] (setItem ov iv v)
      release [v, ov, iv] []) := by intro _; rfl) : EvG X (.Subscript o i pos) [] (gSubC fo fi') := by
  refine ⟨pg_imp (pg_sub ho.pe hi.pe set_list ha) fun v σ H Q h => ?_⟩
  obtain ⟨I, M, en, d, S, r, rd, k⟩ := h
  unfold gSubC at k
  refine ⟨I, M, en, S, r, ?_⟩
  revert k
  cases fo en M with
  | none => exact id
  | some z =>
  obtain ⟨o1, M1⟩ := z
  cases o1 with
  | ex _ _ => exact False.elim
  | ok x1 =>
  cases x1 <;> (try exact False.elim)
  rename_i n
  dsimp only
  intro k I1 H1 v1 e1 S1 r1
  simp only [Rep] at r1
  obtain ⟨l, rfl, hl⟩ := r1
  refine ⟨I1, M1, en, S1, r.mono e1, ?_⟩
  revert k
  cases fi' en M1 with
  | none => exact id
  | some z =>
  obtain ⟨o2, M2⟩ := z
  cases o2 with
  | ex _ _ => exact False.elim
  | ok x2 =>
  cases x2 <;> (try exact False.elim)
  rename_i j0
  dsimp only
  intro k I2 H2 v2 e2 S2 r2
  simp only [Rep] at r2
  subst r2
  revert k
  cases qm : M2[n]? with
  | none => exact False.elim
  | some ds =>
  dsimp only
  cases qj : ixN ds.length j0 with
  | none => exact False.elim
  | some j =>
  dsimp only
  intro k
  obtain ⟨vs, h3, h4⟩ := S2.at_ n l ds (e2.get hl) qm
  refine ⟨l, vs, j0, j, rfl, rfl, h3, by rw [← h4.length]; exact qj, ?_⟩
  have hm : l ∈ I2.c := List.mem_of_getElem? (e2.get hl).1
  exact k I2 _ σ ((e1.trans e2).trans (Ext.write hm)) (S2.write (e2.get hl) (Reps.set j ((e1.trans e2).rep rd) h4)) (((r.mono e1).mono e2).mono (Ext.write hm)) rfl fun _ _ => rfl
/-- o.append(e) as an expression -/
theorem kp_mono {α β : Type} {R : Ow → Hp → α → β → Prop} {r : Res α} {Q : β → Hp → Prop} (h : Kp K mg W R r I H σ Q) (e : Ext I H I' H') : Kp K mg W R r I' H' σ Q := by
  match r, h with
  | some (.ok x, M), h => exact fun I2 H2 b e2 => h I2 H2 b (e.trans e2)
  | some (.ex c fs, M), h => exact fun I2 H2 cls dx e2 => h I2 H2 cls dx (e.trans e2)
def cApp (fo fa : EF) : EF := fun en M => bnd (fo en M) fun x M1 => match x with
  | .cel n => if n < M1.length then bnd (fa en M1) fun y M2 => match M2[n]? with
    | some ds => if szOk (ds.length + 1) = true then some (.ok .non, M2.set n (ds ++ [y])) else none
    | none => none
    else none
  | _ => none
theorem ev_app {apos cpos : Pos} (ho : EvE X W o fo) (ha : EvE X W e fa)
    (hbase : attributeBase o "append" X.env (eval o X.env) = eval o X.env := by rfl)
    (hfew : ((backTo cpos (starEach (e :: []) X.env)).all (fun x => !x.1) && (backToKw cpos (keywordEach [] X.env)).all (fun x => x.1.isSome)
      && decide ((e :: []).length + ([] : List Keyword).length + (if ([] : List Keyword).isEmpty then 0 else 1) < 30)) = true := by rfl)
    (hline : (apos.endLine == cpos.line) = true := by rfl) (hs : starEach (e :: []) X.env = (false, eval e X.env) :: starEach [] X.env := by rfl) (hplain : (backTo cpos (starEach [] X.env)).any (·.1) = false := by rfl) :
    EvE X W (.Call (.Attribute o "append" apos) [e] [] cpos) (cApp fo fa) := by
  refine ⟨pe_imp (pe_bm PySem.F.plainAttrs_list PySem.F.slot_list_append PySem.F.type_list_append mt_append ho.pe (pa_cons ha.pe pa_nil hs) hbase hfew hline hs hplain) fun σ H Q h => ?_⟩
  obtain ⟨I, M, en, S, r, k⟩ := h
  refine ⟨I, M, en, S, r, ?_⟩
  unfold cApp at k
  revert k
  cases fo en M with
  | none => exact id
  | some z =>
  obtain ⟨o1, M1⟩ := z
  cases o1 with
  | ex c fs => exact id
  | ok x1 =>
  rw [bnd_ok]
  cases x1 <;> (try exact False.elim)
  rename_i n
  dsimp only
  by_cases hn : n < M1.length
  case neg => rw [if_neg hn]; exact False.elim
  rw [if_pos hn]
  intro k I1 H1 v1 e1 S1 r1
  have k := kp_mono k e1
  simp only [Rep] at r1
  obtain ⟨l, rfl, hl⟩ := r1
  obtain ⟨vs0, h30, h40⟩ := S1.at_ n l _ hl (List.getElem?_eq_getElem hn)
  refine ⟨.inl ⟨rfl, vs0, .inl (.inl h30)⟩, I1, M1, en, S1, r.mono e1, Kp.bind k fun y M2 I2 H2 u e2 S2 r2 k2 => ?_⟩
  split at k2
  · rename_i ds qm
    split at k2
    · rename_i qs
      obtain ⟨vs, h3, h4⟩ := S2.at_ n l ds (e2.get hl) qm
      have hm : l ∈ I2.c := List.mem_of_getElem? (e2.get hl).1
      refine ⟨l, vs, u, rfl, rfl, h3, ?_, ?_⟩
      · have := szOk_ok qs
        rw [← h4.length]; omega
      · exact k2.ok' (Ext.write hm) (S2.write (e2.get hl) (h4.append (.one r2))) rep_non
    · exact k2.elim
  · exact k2.elim
end
end DL
/-! The data layer, part 9: chains of comparisons, swaps of a list's items, membership, bit lengths, branches. -/
namespace DL
open PySem PySem.Spec PyProof.Rows L2
section
variable {X : Cx} {W : WX} {K : PySem.W.Frag} {mg : Str → Option Value} {I I' : Ow} {H H' : Hp} {M M' : Store} {σ : L2.St} {en : Env} {Z : Ends}
variable {a b c d e o i tg iter elt : Expr} {es ifs : List Expr} {pos : Pos} {fa fb fc fd fe fo fi' : EF} {fr fi : AF} {g g' g'' : D → D → Store → Res D} {t : TF} {f : EF} {Sl : List Nat} {st : Stmt} {sts body : List Stmt} {p q : SF} {r r' r'' : R2}

/-! ### chains -/
def cCh2 (g g' : D → D → Store → Res D) (fa fb fc : EF) : EF := fun en M => bnd (fa en M) fun x M1 => bnd (fb en M1) fun y M2 => bnd (g x y M2) fun z M3 => match z with
  | .bl true => bnd (fc en M3) fun w M4 => g' y w M4
  | .bl false => some (.ok (.bl false), M3)
  | _ => none
def cCh3 (g g' g'' : D → D → Store → Res D) (fa fb fc fd : EF) : EF := fun en M => bnd (fa en M) fun x M1 => bnd (fb en M1) fun y M2 => bnd (g x y M2) fun z M3 => match z with
  | .bl true => bnd (fc en M3) fun w M4 => bnd (g' y w M4) fun z' M5 => (match z' with
    | .bl true => bnd (fd en M5) fun u M6 => g'' w u M6
    | .bl false => some (.ok (.bl false), M5)
    | _ => none)
  | .bl false => some (.ok (.bl false), M3)
  | _ => none
theorem ev_ch2 {op op' : CmpOp} (ho : OpR X (compareOp op) r) (hg : OpD X.K X.mg W g r) (ho' : OpR X (compareOp op') r') (hg' : OpD X.K X.mg W g' r') (ha : EvE X W a fa) (hb : EvE X W b fb) (hc : EvE X W c fc)
    (hm : lastMarks [op, op'] [b, c] = false := by with_unfolding_all rfl) : EvE X W (.Compare a [op, op'] [b, c] pos) (cCh2 g g' fa fb fc) := by
  refine ⟨pe_imp (pe_chain ho ho' ha.pe hb.pe hc.pe hm) fun σ H Q h => ?_⟩
  obtain ⟨I, M, en, S, re, k⟩ := h
  refine ⟨I, M, en, S, re, k.bind fun x M1 I1 H1 u e1 S1 r1 k1 => ?_⟩
  refine ⟨I1, M1, en, S1, re.mono e1, k1.bind fun y M2 I2 H2 v e2 S2 r2 k2 => ?_⟩
  refine hg x y M2 I2 H2 u v σ _ S2 (e2.rep r1) r2 (k2.bind fun z M3 I3 H3 w e3 S3 r3 k3 => ?_)
  cases z <;> (try exact k3.elim)
  rename_i bb
  simp only [Rep] at r3
  refine ⟨bb, r3, ?_⟩
  cases bb with
  | false => exact (if_neg Bool.false_ne_true).mpr (k3.ok S3 rep_bl)
  | true =>
    refine (if_pos rfl).mpr ⟨I3, M3, en, S3, ((re.mono e1).mono e2).mono e3, Kp.bind k3 fun w' M4 I4 H4 w2 e4 S4 r4 k4 => ?_⟩
    exact hg' y w' M4 I4 H4 v w2 σ _ S4 (e4.rep (e3.rep r2)) r4 k4
def tChain3 (r r' r'' : R2) (ta tb tc td : TE) : TE := fun σ H Q => ta σ H fun x H1 => tb σ H1 fun y H2 => r x y H2 fun z H3 => ∃ k, z = .bl k ∧
  (if k = true then tc σ H3 fun w' H4 => r' y w' H4 fun z' H5 => ∃ k', z' = .bl k' ∧ (if k' = true then td σ H5 fun u' H6 => r'' w' u' H6 Q else Q (.bl false) H5) else Q (.bl false) H3)
theorem pe_chain3 {op op' op'' : CmpOp} {ta tb tc td : TE} (ho : OpR X (compareOp op) r) (ho' : OpR X (compareOp op') r') (ho'' : OpR X (compareOp op'') r'') (ha : PE X a ta) (hb : PE X b tb) (hc : PE X c tc) (hd : PE X d td)
    (hm : lastMarks [op, op', op''] [b, c, d] = false := by with_unfolding_all rfl) : PE X (.Compare a [op, op', op''] [b, c, d] pos) (tChain3 r r' r'' ta tb tc td) := by
  refine ⟨fun pins s σ H Q I h => ?_⟩
  refine Compare_chain (thn (ha.run pins s σ H _ I h) fun v s1 ⟨x, H1, I1, r1, q1⟩ => chain_link (thn (hb.run pins s1 σ H1 _ I1 q1) fun u s2 ⟨y, H2, I2, r2, q2⟩ =>
    thn (ho pins s2 σ H2 x y v u _ I2 r1 r2 q2) fun d s3 ⟨z, H3, I3, r3, k, e, q3⟩ => ?_)) hm
  subst e
  cases r3
  refine wpAny_truthy_bool ?_
  cases k with
  | false => rw [if_neg Bool.false_ne_true] at q3 ⊢; exact ⟨.bl false, H3, I3, rfl, q3⟩
  | true =>
    rw [if_pos rfl] at q3 ⊢
    refine chain_link (thn (hc.run pins s3 σ H3 _ I3 q3) fun w' s4 ⟨z', H4, I4, r4, q4⟩ => thn (ho' pins s4 σ H4 y z' u w' _ I4 r2 r4 q4) fun d' s5 ⟨z2, H5, I5, r5, k2, e2, q5⟩ => ?_)
    subst e2
    cases r5
    refine wpAny_truthy_bool ?_
    cases k2 with
    | false => rw [if_neg Bool.false_ne_true] at q5 ⊢; exact ⟨.bl false, H5, I5, rfl, q5⟩
    | true =>
      rw [if_pos rfl] at q5 ⊢
      exact chain_last (thn (hd.run pins s5 σ H5 _ I5 q5) fun w6 s6 ⟨z6, H6, I6, r6, q6⟩ => ho'' pins s6 σ H6 z' z6 w' w6 Q I6 r4 r6 q6)
theorem ev_ch3 {op op' op'' : CmpOp} (ho : OpR X (compareOp op) r) (hg : OpD X.K X.mg W g r) (ho' : OpR X (compareOp op') r') (hg' : OpD X.K X.mg W g' r') (ho'' : OpR X (compareOp op'') r'') (hg'' : OpD X.K X.mg W g'' r'') (ha : EvE X W a fa) (hb : EvE X W b fb) (hc : EvE X W c fc) (hd : EvE X W d fd)
    (hm : lastMarks [op, op', op''] [b, c, d] = false := by with_unfolding_all rfl) : EvE X W (.Compare a [op, op', op''] [b, c, d] pos) (cCh3 g g' g'' fa fb fc fd) := by
  refine ⟨pe_imp (pe_chain3 ho ho' ho'' ha.pe hb.pe hc.pe hd.pe hm) fun σ H Q h => ?_⟩
  obtain ⟨I, M, en, S, re, k⟩ := h
  refine ⟨I, M, en, S, re, k.bind fun x M1 I1 H1 u e1 S1 r1 k1 => ?_⟩
  refine ⟨I1, M1, en, S1, re.mono e1, k1.bind fun y M2 I2 H2 v e2 S2 r2 k2 => ?_⟩
  refine hg x y M2 I2 H2 u v σ _ S2 (e2.rep r1) r2 (k2.bind fun z M3 I3 H3 w e3 S3 r3 k3 => ?_)
  cases z <;> (try exact k3.elim)
  rename_i bb
  simp only [Rep] at r3
  refine ⟨bb, r3, ?_⟩
  cases bb with
  | false => exact (if_neg Bool.false_ne_true).mpr (k3.ok S3 rep_bl)
  | true =>
    refine (if_pos rfl).mpr ⟨I3, M3, en, S3, ((re.mono e1).mono e2).mono e3, Kp.bind k3 fun w' M4 I4 H4 w2 e4 S4 r4 k4 => ?_⟩
    refine hg' y w' M4 I4 H4 v w2 σ _ S4 (e4.rep (e3.rep r2)) r4 (k4.bind fun z5 M5 I5 H5 w5 e5 S5 r5 k5 => ?_)
    cases z5 <;> (try exact k5.elim)
    rename_i b5
    simp only [Rep] at r5
    refine ⟨b5, r5, ?_⟩
    cases b5 with
    | false => exact (if_neg Bool.false_ne_true).mpr (k5.ok S5 rep_bl)
    | true =>
      refine (if_pos rfl).mpr ⟨I5, M5, en, S5, (((re.mono e1).mono e2).mono e3 |>.mono e4).mono e5, Kp.bind k5 fun w6 M6 I6 H6 w7 e6 S6 r6 k6 => ?_⟩
      exact hg'' w' w6 M6 I6 H6 w2 w7 σ _ S6 (e6.rep (e5.rep r4)) r6 k6

/-! ### bit lengths -/
def cBits (fo : EF) : EF := fun en M => bnd (fo en M) fun x M1 => match x with | .int i => some (.ok (.int (Builtin.Int.intBits i : Nat)), M1) | _ => none
theorem ev_bits {apos pos : Pos} (ho : EvE X W o fo) (hbase : attributeBase o "bit_length" X.env (eval o X.env) = eval o X.env := by rfl) (hline : (apos.endLine == pos.line) = true := by rfl) : EvE X W (.Call (.Attribute o "bit_length" apos) [] [] pos) (cBits fo) := by
  refine ⟨pe_imp (pe_bits ho.pe hbase hline) fun σ H Q h => ?_⟩
  obtain ⟨I, M, en, S, r, k⟩ := h
  refine ⟨I, M, en, S, r, k.bind fun x M1 I1 H1 u e1 S1 r1 k1 => ?_⟩
  cases x <;> (try exact k1.elim)
  simp only [Rep] at r1
  exact ⟨_, r1, k1.ok S1 rep_int⟩
end
end DL
/-! The data layer, part 10: functions. -/
namespace DL
open PySem PySem.Spec PyProof.Rows L2
abbrev MF := List D → Store → Res D
mutual
/-- the lists of the store that d names lie below n -/
def clo (n : Nat) : D → Bool
  | .cel j => decide (j < n)
  | .dic j => decide (j < n)
  | .tup ds => clos n ds
  | .imm ds => clos n ds
  | .scr ds => clos n ds
  | _ => true
def clos (n : Nat) : List D → Bool
  | [] => true
  | d :: ds => clo n d && clos n ds
end
/-- what remains of the lists of a call: those that stood before -/
def Tidy (M M' : Store) : Prop := ∀ j ds, j < M.length → M'[j]? = some ds → M[j]? = some ds ∨ clos M.length ds = true
open Classical in
noncomputable def gcF (M : Store) (o : Res D) : Res D := match o with
  | some (.ok d, M') => if Tidy M M' then (match d with
      | .cel j => if j < M.length then some (.ok d, M'.take M.length) else (match M'[j]? with
        | some ds => if clos M.length ds = true then some (.ok (.imm ds), M'.take M.length) else none
        | none => none)
      | d => if clo M.length d = true then some (.ok d, M'.take M.length) else none) else none
  | some (.ex c fs, M') => if Tidy M M' ∧ clos M.length (fs.map (·.2)) = true then some (.ex c fs, M'.take M.length) else none
  | none => none
def fin (o : SRes) : Res D := match o with
  | some (.nx _, M) => some (.ok .non, M)
  | some (.rt d, M) => some (.ok d, M)
  | some (.ex c fs _, M) => some (.ex c fs, M)
  | _ => none
def start0 (n : Nat) (ds : List D) : Env := ds.map some ++ List.replicate (n - ds.length) none
/-- a def with np parameters and n names, by its body -/
noncomputable def mDef (np n : Nat) (body : SF) : MF := fun ds M => if ds.length = np then gcF M (fin (body (start0 n ds) M)) else none
section
variable {K : PySem.W.Frag} {mg : Str → Option Value} {I I' : Ow} {H H' : Hp} {M M' : Store}
/-! ### fewer lists -/
theorem Free.less (hc : ∃ l, I.c = I'.c ++ l) (hp : ∀ a ∈ I'.p, a ∈ I.p) {a : Addr} (h : I.Free a) : I'.Free a := by
  obtain ⟨l, hl⟩ := hc
  exact ⟨fun z => h.1 (by rw [hl]; exact List.mem_append_left _ z), fun z => h.2 (hp a z)⟩
mutual
theorem Rep.less {n : Nat} (hn : I'.c.length = n) (hc : ∃ l, I.c = I'.c ++ l) (hp : ∀ a ∈ I'.p, a ∈ I.p) (hd : ∀ a ∈ I'.c, (a ∈ I.d ↔ a ∈ I'.d)) : ∀ {d : D} {v : V}, Rep K I H d v → clo n d = true → Rep K I' H d v
  | .non, v, h, _ => by simpa only [Rep] using h
  | .bl _, v, h, _ => by simpa only [Rep] using h
  | .int _, v, h, _ => by simpa only [Rep] using h
  | .str _, v, h, _ => by simpa only [Rep] using h
  | .ty _, v, h, _ => by simpa only [Rep] using h
  | .tup ds, v, h, q => by
    simp only [Rep] at h ⊢
    simp only [clo] at q
    obtain ⟨a, vs, h1, h2, h3⟩ := h
    exact ⟨a, vs, h1, h2.imp (fun h => ⟨h.1, Free.less hc hp h.2⟩) id, Reps.less hn hc hp hd h3 q⟩
  | .imm ds, v, h, q => by
    simp only [Rep] at h ⊢
    simp only [clo] at q
    obtain ⟨a, vs, h1, h2, h3⟩ := h
    exact ⟨a, vs, h1, ⟨h2.1, Free.less hc hp h2.2⟩, Reps.less hn hc hp hd h3 q⟩
  | .scr ds, v, h, q => by
    simp only [Rep] at h ⊢
    simp only [clo] at q
    obtain ⟨a, vs, h1, h2, h3⟩ := h
    exact ⟨a, vs, h1, h2.imp (fun h => ⟨h.1, Free.less hc hp h.2⟩) id, Reps.less hn hc hp hd h3 q⟩
  | .cel j, v, h, q => by
    simp only [Rep] at h ⊢
    simp only [clo, decide_eq_true_eq] at q
    obtain ⟨a, h1, h2, h3⟩ := h
    obtain ⟨l, hl⟩ := hc
    rw [hl, List.getElem?_append_left (by rw [hn]; exact q)] at h2
    exact ⟨a, h1, h2, fun z => h3 ((hd a (List.mem_of_getElem? h2)).mpr z)⟩
  | .dic j, v, h, q => by
    simp only [Rep] at h ⊢
    simp only [clo, decide_eq_true_eq] at q
    obtain ⟨a, h1, h2, h3⟩ := h
    obtain ⟨l, hl⟩ := hc
    rw [hl, List.getElem?_append_left (by rw [hn]; exact q)] at h2
    exact ⟨a, h1, h2, (hd a (List.mem_of_getElem? h2)).mp h3⟩
theorem Reps.less {n : Nat} (hn : I'.c.length = n) (hc : ∃ l, I.c = I'.c ++ l) (hp : ∀ a ∈ I'.p, a ∈ I.p) (hd : ∀ a ∈ I'.c, (a ∈ I.d ↔ a ∈ I'.d)) : ∀ {ds : List D} {vs : List V}, Reps K I H ds vs → clos n ds = true → Reps K I' H ds vs
  | [], vs, h, _ => by simpa only [Reps] using h
  | d :: ds, vs, h, q => by
    simp only [Reps] at h ⊢
    simp only [clos, Bool.and_eq_true] at q
    obtain ⟨v, r, h1, h2, h3⟩ := h
    exact ⟨v, r, h1, Rep.less hn hc hp hd h2 q.1, Reps.less hn hc hp hd h3 q.2⟩
end
mutual
theorem Rep.clo {n : Nat} (hn : I.c.length = n) : ∀ {d : D} {v : V}, Rep K I H d v → clo n d = true
  | .non, v, h => rfl
  | .bl _, v, h => rfl
  | .int _, v, h => rfl
  | .str _, v, h => rfl
  | .ty _, v, h => rfl
  | .tup ds, v, h => by
    simp only [Rep] at h
    obtain ⟨a, vs, _, _, h3⟩ := h
    simp only [DL.clo]
    exact Reps.clo hn h3
  | .imm ds, v, h => by
    simp only [Rep] at h
    obtain ⟨a, vs, _, _, h3⟩ := h
    simp only [DL.clo]
    exact Reps.clo hn h3
  | .scr ds, v, h => by
    simp only [Rep] at h
    obtain ⟨a, vs, _, _, h3⟩ := h
    simp only [DL.clo]
    exact Reps.clo hn h3
  | .cel j, v, h => by
    simp only [Rep] at h
    obtain ⟨a, _, h2⟩ := h
    simp only [DL.clo, decide_eq_true_eq]
    rw [← hn]
    exact (List.getElem?_eq_some_iff.mp h2.1).1
  | .dic j, v, h => by
    simp only [Rep] at h
    obtain ⟨a, _, h2⟩ := h
    simp only [DL.clo, decide_eq_true_eq]
    rw [← hn]
    exact (List.getElem?_eq_some_iff.mp h2.1).1
theorem Reps.clo {n : Nat} (hn : I.c.length = n) : ∀ {ds : List D} {vs : List V}, Reps K I H ds vs → clos n ds = true
  | [], vs, h => rfl
  | d :: ds, vs, h => by
    simp only [Reps] at h
    obtain ⟨v, r, _, h2, h3⟩ := h
    simp only [clos, Bool.and_eq_true]
    exact ⟨Rep.clo hn h2, Reps.clo hn h3⟩
end
theorem RepKV.less {n : Nat} (hn : I'.c.length = n) (hc : ∃ l, I.c = I'.c ++ l) (hp : ∀ a ∈ I'.p, a ∈ I.p) (hd : ∀ a ∈ I'.c, (a ∈ I.d ↔ a ∈ I'.d)) : ∀ {ds : List D} {kvs : List KE3}, RepKV K I H ds kvs → clos n ds = true → RepKV K I' H ds kvs
  | [], _, h, _ => h
  | _ :: _, _, ⟨k, x, nk, b, u, v, r, h1, h2, h3, h4, h5, h6, h7⟩, q => by
    subst h1
    simp only [clos, clo, Bool.and_eq_true] at q
    exact ⟨k, x, nk, b, u, v, r, rfl, h2, h3, Rep.less hn hc hp hd h4 q.1.1, Rep.less hn hc hp hd h5 q.1.2.1, h6, RepKV.less hn hc hp hd h7 q.2⟩
theorem RepKV.clo {n : Nat} (hn : I.c.length = n) : ∀ {ds : List D} {kvs : List KE3}, RepKV K I H ds kvs → clos n ds = true
  | [], _, _ => rfl
  | _ :: _, _, ⟨k, x, nk, b, u, v, r, h1, h2, h3, h4, h5, h6, h7⟩ => by
    subst h1
    simp only [clos, DL.clo, Bool.and_eq_true]
    exact ⟨⟨Rep.clo hn h4, Rep.clo hn h5, trivial⟩, RepKV.clo hn h7⟩
/-- the entry's ownership, the end's heap -/
theorem Sto.back (S : Sto K I H M) (e : Ext I H I' H') (S' : Sto K I' H' M') (t : Tidy M M') : Sto K I H' (M'.take M.length) ∧ Ext I H I H' := by
  have hc := e.pre
  obtain ⟨l, hl, hl2⟩ := hc
  have hle : M.length ≤ M'.length := by rw [← S.len, ← S'.len, hl, List.length_append]; omega
  have hp : ∀ a ∈ I.p, a ∈ I'.p := fun a ha => e.mem ha
  refine ⟨⟨by rw [S.len, List.length_take]; omega, S.nodup, fun n a ds h1 h2 => ?_, fun n a ds h1 h2 => ?_, S.sub, fun a ha => ?_⟩, ⟨⟨[], rfl, by simp⟩, ⟨[], by simp, by simp⟩, e.keep, e.trk, fun _ _ => Iff.rfl⟩⟩
  · have hn : n < M.length := by rw [← S.len]; exact (List.getElem?_eq_some_iff.mp h1.1).1
    rw [List.getElem?_take_of_lt hn] at h2
    obtain ⟨vs, h3, h4⟩ := S'.at_ n a ds (e.get h1) h2
    refine ⟨vs, h3, h4.less S.len ⟨l, hl⟩ hp e.dic ?_⟩
    rcases t n ds hn h2 with q | q
    · obtain ⟨us, _, r⟩ := S.at_ n a ds h1 q
      exact Reps.clo S.len r
    · exact q
  · have hn : n < M.length := by rw [← S.len]; exact (List.getElem?_eq_some_iff.mp h1.1).1
    rw [List.getElem?_take_of_lt hn] at h2
    obtain ⟨vs, h3, h4⟩ := S'.atD n a ds (e.getD h1) h2
    refine ⟨vs, h3, h4.less S.len ⟨l, hl⟩ hp e.dic ?_⟩
    rcases t n ds hn h2 with q | q
    · obtain ⟨us, _, r⟩ := S.atD n a ds h1 q
      exact RepKV.clo S.len r
    · exact q
  · obtain ⟨h1, o, h2⟩ := S.dis a ha
    exact ⟨h1, e.trk a o h2⟩
theorem Tidy.none {M : Store} {L : Store} : Tidy M (M ++ L) := fun j ds hj h => .inl (by rwa [List.getElem?_append_left hj] at h)

/-! ### the promise of a def -/
def spM (K : PySem.W.Frag) (mg : Str → Option Value) (m : MF) (vs : List V) (H : Hp) (Q : VK) (E : XK) : Prop :=
  ∃ I M ds, Sto K I H M ∧ Reps K I H ds vs ∧ Kp K mg (fun c d _ H => E c d H) (Rep K) (m ds M) I H [] Q
structure FnG (P : Program) (w : World) (K : PySem.W.Frag) (mg : Str → Option Value) (base : Heap) (k : Nat) (f : Addr) (fd : FuncData) (ps : List Str) (m : MF) : Prop where
  len : ∀ ds M, m ds M ≠ none → ds.length = ps.length
  run : ∀ (A : Around) (outer : List PySem.Env) (s : Shared) (H : Hp) (args : Args) (us : List Value) (vs : List V) (Q : VK) (E : XK), Room k A → A.guards = some [] → Env0 P w K mg base A outer s H → BindsTo s fd args (ps.zip us) → Vals vs us → spM K mg m vs H Q E →
    codeAny (model P w) A (.call (.ref f) args) (CR (L2.CX P w) outer P w H s Q E) s
theorem FnG.mono {P : Program} {w : World} {base : Heap} {j k : Nat} {f : Addr} {fd : FuncData} {ps : List Str} {m : MF} (F : FnG P w K mg base j f fd ps m) (h : j ≤ k) : FnG P w K mg base k f fd ps m :=
  ⟨F.len, fun A outer s H args us vs Q E hr => F.run A outer s H args us vs Q E (hr.mono h)⟩
theorem spM_len {P : Program} {w : World} {base : Heap} {k : Nat} {f : Addr} {fd : FuncData} {ps : List Str} {m : MF} (F : FnG P w K mg base k f fd ps m) {vs : List V} {Q : VK} {E : XK} (h : spM K mg m vs H Q E) : vs.length = ps.length := by
  obtain ⟨I, M, ds, S, r, k⟩ := h
  rw [← r.length]
  refine F.len ds M fun z => ?_
  rw [z] at k
  exact k
theorem kp_gc {W : WX} {σ : L2.St} {o : Res D} {Q : VK} (S : Sto K I H M) (h : Kp K mg W (Rep K) (gcF M o) I H σ Q) : Kp K mg W (Rep K) o I H σ Q := by
  match o, h with
  | none, h => exact h.elim
  | some (.ex c fs, M'), h =>
    intro I' H' cls dx e S' x
    unfold gcF at h
    dsimp only at h
    split at h
    · rename_i q
      obtain ⟨b1, b2⟩ := S.back e S' q.1
      obtain ⟨l, hl, hl2⟩ := e.pre
      have hp : ∀ a ∈ I.p, a ∈ I'.p := fun a ha => e.mem ha
      obtain ⟨C, d, vs, x1, x2, x3, x4, x5, x6⟩ := x
      exact h I H' cls dx b2 b1 ⟨C, d, vs, x1, x2, x3, x4, Free.less ⟨l, hl⟩ hp x5, x6.less S.len ⟨l, hl⟩ hp e.dic q.2⟩
    · exact h.elim
  | some (.ok d, M'), h =>
    intro I' H' v e S' r
    unfold gcF at h
    dsimp only at h
    split at h
    case isFalse => exact h.elim
    rename_i t
    obtain ⟨b1, b2⟩ := S.back e S' t
    obtain ⟨l, hl, hl2⟩ := e.pre
    have hp : ∀ a ∈ I.p, a ∈ I'.p := fun a ha => e.mem ha
    split at h
    · rename_i j
      split at h
      · rename_i hj
        exact h I H' v b2 b1 (r.less S.len ⟨l, hl⟩ hp e.dic (by simp only [clo, decide_eq_true_eq]; exact hj))
      · rename_i hj
        split at h
        · rename_i ds q
          split at h
          · rename_i q2
            simp only [Rep] at r
            obtain ⟨a, rfl, ha⟩ := r
            obtain ⟨vs, h3, h4⟩ := S'.at_ j a ds ha q
            refine h I H' _ b2 b1 ?_
            simp only [Rep]
            refine ⟨a, vs, rfl, ⟨h3, fun z => ?_, fun z => ?_⟩, h4.less S.len ⟨l, hl⟩ hp e.dic q2⟩
            · obtain ⟨i, hi, e1⟩ := List.mem_iff_getElem.mp z
              have e2 : I.c[i]? = some a := by rw [List.getElem?_eq_getElem hi, e1]
              have := nd_ix S'.nodup (e.get0 e2) ha.1
              rw [← S.len] at hj
              omega
            · exact (S'.dis a (hp a z)).1 (List.mem_of_getElem? ha.1)
          · exact h.elim
        · exact h.elim
    · split at h
      · rename_i q
        exact h I H' v b2 b1 (r.less S.len ⟨l, hl⟩ hp e.dic q)
      · exact h.elim
end
end DL
/-! The data layer, part 11: a def by its body; calls. -/
namespace DL
open PySem PySem.Spec PyProof.Rows L2
/-- what a body may let out, by what its caller wants -/
abbrev WXof (E : XK) : WX := fun c d _ H => E c d H
section
variable {P : Program} {w : World} {K : PySem.W.Frag} {mg : Str → Option Value} {base : Heap} {I I' : Ow} {H H' : Hp} {M M' : Store}
theorem kp_fin {E : XK} {o : SRes} {Q : VK} {σ : L2.St} (h : Kp K mg (WXof E) (Rep K) (fin o) I H [] Q) : Sp_ K mg (WXof E) o I H { nx := fun _ H' => Q .non H', rt := Q } := by
  match o, h with
  | some (.nx en, M), h => exact fun I' H' σ' e S r => h I' H' .non e S rep_non
  | some (.rt d, M), h => exact fun I' H' v e S r => h I' H' v e S r
  | some (.ex c fs en, M), h => exact fun I' H' σ' cls dx e S r x => h I' H' cls dx e S x
theorem repE_start {N : List Str} {ds : List D} {vs : List V} (r : Reps K I H ds vs) (hl : ds.length ≤ N.length) : RepE K I H (start0 N.length ds) (L2.start N vs) := by
  have hv := r.length
  refine ⟨by unfold start0 L2.start; simp [hv], fun i d h => ?_⟩
  unfold start0 at h
  by_cases hi : i < ds.length
  · rw [List.getElem?_append_left (by simpa using hi), List.getElem?_map] at h
    obtain ⟨d', h1, h2⟩ := Option.map_eq_some_iff.mp h
    cases h2
    obtain ⟨v, h3, h4⟩ := r.get' h1
    refine ⟨v, ?_, h4⟩
    unfold L2.start
    rw [List.getElem?_append_left (by simp; omega), List.getElem?_map, h3]
    rfl
  · rw [List.getElem?_append_right (by simpa using hi), List.getElem?_replicate] at h
    split at h <;> cases h
/-- the rule for a def -/
theorem fnG_of {x qual : Str} {st : Stmt} {f : Addr} {fd : FuncData} {N ps : List Str} {k np n : Nat} {body : SF} (F : Fun K x qual st f fd) (S : FnScope N ps (defScope st)) (hnp : ps.length = np) (hn : N.length = n) (hle : ps.length ≤ N.length)
    (hbody : ∀ (cdv : Value) (A : Around) (outer : List PySem.Env) (s : Shared) (H : Hp) (E : XK), Room k (A.deeper (envOfC qual (defScope st) s.heap.objs.size f cdv)) → A.guards = some [] →
      EvSs (cxOf (L2.CX P w) P w K mg base N qual (defScope st) f cdv A outer s H E) (WXof E) (defBody st) body) : FnG P w K mg base (k + 1) f fd ps (mDef np n body) := by
  subst hnp hn
  obtain ⟨oc, od, kV, doc, pm, an, cdv, ct, osl, rfl, lk, hcd⟩ := F.ex
  have hlen : ∀ ds M, mDef ps.length N.length body ds M ≠ none → ds.length = ps.length := fun ds M h => by
    unfold mDef at h
    split at h
    · assumption
    · exact absurd rfl h
  refine ⟨hlen, ?_⟩
  intro A outer s H args us vs Q E room hg e0 hb rv hsp
  obtain ⟨I, M, ds, S0, rd, kp⟩ := hsp
  have hds : ds.length = ps.length := hlen ds M fun z => by rw [z] at kp; exact kp
  have hvs : vs.length = ps.length := by rw [← rd.length]; exact hds
  have inK : K.In s.heap := e0.mod.kin.keeps fun b o e => (e0.bs b o e).1
  have nolim : s.heap.NoLimit := e0.mod.nolimit.keeps fun b o e => (e0.bs b o e).1
  refine codeAny_call_function room.depth (inK _ _ lk) rfl S.co S.gen rfl (PySem.W.codeRec_of inK hcd) (hb _ _ _ _ ?_)
  refine wpAny_newFunctionEnv_cells S.kind (fun y hy => ?_) fun env he s1 x => ?_
  · obtain ⟨n, v⟩ := y
    have hm := S.par n (List.of_mem_zip hy).1
    rcases hm with q | q
    · left; exact q
    · right; exact ⟨q, PySem.W.cellsFrom_some _ _ _ (.inl q)⟩
  subst he
  refine ⟨nolim.keeps x.toInCall.keep, codeAny_func ?_⟩
  have hbd := hbody cdv A outer s H E (room.deeper _) hg
  have Iv := inv_start (CX := L2.CX P w) (E := E) S room.hd e0 hvs rv x
  have run := hbd.pss.run [] s1 (L2.start N vs) H { nx := fun _ H' => Q .non H', rt := Q } Iv ⟨I, M, start0 N.length ds, S0, repE_start rd (by rw [hds]; exact hle), by
    unfold mDef at kp
    rw [if_pos hds] at kp
    exact kp_fin (σ := []) (kp_gc S0 kp)⟩
  refine wpAny_mono run (fun fl s' hs => ?_) fun e s' hs => hs
  cases fl with
  | ret u =>
    obtain ⟨v, σ', H', J, rv', q⟩ := hs
    exact ⟨v, H', J.os, J.bare, J.base, J.hok, rv', q⟩
  | next =>
    obtain ⟨σ', H', J, q⟩ := hs
    exact ⟨V.non, H', J.os, J.bare, J.base, J.hok, rfl, q⟩
  | brk =>
    obtain ⟨_, _, _, z⟩ := hs
    exact z.elim
  | cont =>
    obtain ⟨_, _, _, z⟩ := hs
    exact z.elim
end
section
variable {X : Cx} {W : WX} {pos p : Pos} {e : Expr} {es : List Expr} {fr : AF} {k : Nat} {f : Addr} {fd : FuncData} {ps : List Str} {m : MF} {x : Str}
theorem kp_at {K : PySem.W.Frag} {mg : Str → Option Value} {α β : Type} {R : Ow → Hp → α → β → Prop} {I : Ow} {H : Hp} {o : Res α} {σ : L2.St} {Q : β → Hp → Prop} (h : Kp K mg W R o I H σ Q) : Kp K mg (fun c d _ H => W c d σ H) R o I H [] Q := by
  match o, h with
  | some (.ok a, M), h => exact h
  | some (.ex c fs, M), h => exact h
theorem run_G {pins : List (Addr × Obj)} {σ : L2.St} {H : Hp} {s : Shared} {Q : VK} {us : List Value} {vs : List V} (F : FnG X.prog X.w X.K X.mg X.base k f fd ps m) (hr : Room k X.A) (hgd : X.A.guards = some []) (hb : Binds X.K fd ps []) (tk : Takes X W)
    (I : Inv X pins σ H s) (r : Vals vs us) (h : spM X.K X.mg m vs H Q (WE W σ)) : wpAny (model X.prog X.w) X.A (call (.ref f) us) (EP X pins σ Q) X.xe s := by
  have hl : us.length = ps.length := by rw [← r.length]; exact spM_len F h
  have b := hb s us I.kIn (by rw [List.append_nil]; exact hl)
  rw [List.append_nil] at b
  refine wpAny_call (codeAny_mono (F.run X.A X.stack s H ⟨us, []⟩ us vs Q (WE W σ) hr hgd I.env0 b r h) fun r s' hq => ?_)
  cases r with
  | error e => exact passAt tk σ pins H s e s' I hq
  | ok fl =>
    cases fl with
    | ret u => exact I.after hq
    | next => exact hq.elim
    | brk => exact hq.elim
    | cont => exact hq.elim
def tCallG (K : PySem.W.Frag) (mg : Str → Option Value) (W : WX) (m : MF) (t : TA) : TE := fun σ H Q => t σ H fun vs H1 => spM K mg m vs H1 Q (WE W σ)
theorem ev_call (F : FnG X.prog X.w X.K X.mg X.base k f fd ps m) (hr : Room k X.A) (hgd : X.A.guards = some []) (hg : Gl X x) (hm : X.mg x = some (.ref f)) (hk : PySem.W.keepIn X.K (.ref f) = true) (hb : Binds X.K fd ps []) (tk : Takes X W)
    (ha : EvA X W (e :: es) fr) (hdb : (x == ("__debug__" : Str)) = false := by decide) (he : starEach (e :: es) X.env = (false, eval e X.env) :: starEach es X.env := by rfl) (hpl : (backTo pos (starEach es X.env)).any (·.1) = false := by rfl) :
    EvE X W (.Call (.Name x p) (e :: es) [] pos) (cCall m fr) := by
  have hp : PE X (.Call (.Name x p) (e :: es) [] pos) (tCallG X.K X.mg W m (TD X.K X.mg W (Reps X.K) fr)) := by
    refine ⟨fun pins s σ H Q I h => ?_⟩
    refine wpAny_Call_Name_kw (ld_glob I hg hm ?_ hdb)
    refine PySem.W.callWith_K (h₀ := X.base) I.ok.mod.kin hk (thn (ha.pa.run pos pins s σ H _ I h) fun us s1 hh => ?_) he hpl
    obtain ⟨vs, H1, I1, r, q⟩ := hh
    exact ⟨I1.kIn, run_G F hr hgd hb tk I1 r q⟩
  refine ⟨pe_imp hp fun σ H Q h => ?_⟩
  obtain ⟨I, M, en, S, re, k⟩ := h
  exact ⟨I, M, en, S, re, k.bind fun xs M1 I1 H1 us e1 S1 r1 k1 => ⟨I1, M1, xs, S1, r1, kp_at k1⟩⟩
theorem ev_call0 (F : FnG X.prog X.w X.K X.mg X.base k f fd ps m) (hr : Room k X.A) (hgd : X.A.guards = some []) (hg : Gl X x) (hm : X.mg x = some (.ref f)) (hk : PySem.W.keepIn X.K (.ref f) = true) (hb : Binds X.K fd ps []) (tk : Takes X W)
    (hdb : (x == ("__debug__" : Str)) = false := by decide) : EvE X W (.Call (.Name x p) [] [] pos) (cCall m aNil) := by
  have hp : PE X (.Call (.Name x p) [] [] pos) (tCallG X.K X.mg W m tNil) := by
    refine ⟨fun pins s σ H Q I h => ?_⟩
    refine wpAny_Call_Name_kw (ld_glob I hg hm ?_ hdb)
    exact PySem.W.callWith_K0 I.kIn hk (run_G (us := []) F hr hgd hb tk I .nil h)
  refine ⟨pe_imp hp fun σ H Q h => ?_⟩
  obtain ⟨I, M, en, S, re, k⟩ := h
  exact ⟨I, M, [], S, by simp only [Reps], kp_at k⟩
end
end DL
set_option maxHeartbeats 2000000
/-! The data layer, part 12: an own exception class under a subclass of ValueError, whose __init__ says super().__init__(reason) and keeps the reason. -/
namespace PySem
namespace BadX
open PySem.W PySem.Calls PyProof.Rows PySem.HandSPX
def bA (p1 p2 : Pos) : Arguments := { posonlyargs := [], args := [{ arg := "self", annotation := none, pos := p1 }, { arg := "reason", annotation := none, pos := p2 }], vararg := none, kwonlyargs := [], kw_defaults := [], kwarg := none, defaults := [] }
def bB (q1 q2 q3 q4 q5 q6 q7 q8 q9 q10 : Pos) : List Stmt :=
  [.Expr (.Call (.Attribute (.Call (.Name "super" q1) [] [] q2) "__init__" q3) [.Name "reason" q4] [] q5) q6, .Assign [.Attribute (.Name "self" q7) "reason" q8] (.Name "reason" q9) q10]
def bS : Scope := { kind := .function, names := [(PySem.Str.ofString "self", .local), (PySem.Str.ofString "reason", .local), (PySem.Str.ofString "__class__", .free), (PySem.Str.ofString "super", .globalImplicit)], isGenerator := false, isCoroutine := false, more := [] }
/-- the text's places let the method be called in one go -/
def MCall (q1 q2 q3 q4 q5 : Pos) : Prop := ∃ pl : Sem Bool, ∀ env : Env, eval (.Call (.Attribute (.Call (.Name "super" q1) [] [] q2) "__init__" q3) [.Name "reason" q4] [] q5) env = (do
      let ov ← attributeBase (.Call (.Name "super" q1) [] [] q2) "__init__" env (eval (.Call (.Name "super" q1) [] [] q2) env)
      standAt q3.atName
      let (f, first) ← holding [ov] (getMethod ov "__init__" pl)
      callWith q5 f first (backTo q5 (starEach [.Name "reason" q4] env)) [])
/-- what the written part says of the class x, at C, and of its __init__, at fI -/
structure BadTxt (prog : Program) (K : Frag) (mg : Str → Option Value) (x qual : Str) (C fI : Addr) : Prop where
  gC : mg x = some (.ref C)
  cls : ∃ nm q N bs bm sn sub ab col dd k0 k1 k2 k3 k5, K.lookup C = some (excClassObj nm q C N bs bm true sn sub ab col dd k0 k1 k2 k3 k5 "ValueError.__new__") ∧ refsVE bm = true
  sa : findIn K (.ref C) "__setattr__" = some (some (.builtin "object.__setattr__"))
  ga : findIn K (.ref C) "__getattribute__" = some (some (.builtin "BaseException.__getattribute__"))
  gg : findIn K (.ref C) "__getattr__" = some none
  noN : findIn K (.ref C) "reason" = some none
  iC : findIn K (.ref C) "__init__" = some (some (.ref fI))
  tC : typeIn K (.ref fI) = some (.type "function")
  kC : keepIn K (.ref C) = true
  exC : subIn K (.ref C) (.type "BaseException") = some true
  tyC : typeIn K (.ref C) = some (.type "type")
  hdC : hasDictIn K C = true
  te : exmOne K (.ref C) (.ref C) = some true
  veC : subIn K (.ref C) (.type "ValueError") = some true
  upC : ks_superIn K C C "__init__" = some (some (.builtin "ValueError.__init__"))
  mrC : mroIn K C (.ref C) = some true
  any : nsIn K cStatics "thirdparty.any" = some none
  sup : mg "super" = none
  top : (prog.main.scope.names.lookup ("super" : Str)).isSome = false
  fn : ∃ (oc : Value) (od : Option Addr) (doc pm : Value) (an : Option Addr) (cda : Addr) (ct : Value) (cc : Addr) (osl : Array (Option Value)) (p1 p2 q1 q2 q3 q4 q5 q6 q7 q8 q9 q10 : Pos)
      (ccl cl : Value) (cdd cld : Option Addr) (ccs csl : Array (Option Value)) (vs : Array Value) (file : Str) (tf : Tok),
    K.lookup fI = some ⟨oc, od, .func (ksFn "__init__" qual (bA p1 p2) (bB q1 q2 q3 q4 q5 q6 q7 q8 q9 q10) bS .none .none doc pm an (.ref cda) ct cc), osl⟩ ∧ codeIn K (.ref cda) qual = true ∧
    K.lookup cda = some ⟨ccl, cdd, .fields vs, ccs⟩ ∧ vs[2]? = some (.str file tf) ∧ ((prog.main.file : Str) == file) = true ∧ K.lookup cc = some ⟨cl, cld, .cell (some (.ref C)), csl⟩ ∧ MCall q1 q2 q3 q4 q5
/-- what the globals and the built-ins say, at a heap -/
structure Glb (mg : Str → Option Value) (h : Heap) : Prop where
  glob : h.Ns mainGlobals mg
  blt : ∃ mb, h.Ns builtinsNs mb ∧ ∀ x : Str, x ≠ "__name__" → mb x = bootBuiltins x
theorem Glb.keeps {mg : Str → Option Value} {h h' : Heap} (G : Glb mg h) (k : ∀ b o, h.get? b = some o → h'.get? b = some o) : Glb mg h' :=
  ⟨G.glob.keeps k, let ⟨mb, a, b⟩ := G.blt; ⟨mb, a.keeps k, b⟩⟩
theorem one_line (v : Value) : [v].length ≤ sizeLine := by
  rw [sizeLine_eq]
  exact (by decide : 1 ≤ 16777216)
theorem kept_but {K : Frag} {h h' : Heap} {x : Addr} (X : K.In h) (hx : K.lookup x = none) (k : ∀ b o, b ≠ x → h.get? b = some o → h'.get? b = some o) : K.In h' := fun a o e =>
  k a o (fun z => by rw [z, hx] at e; cases e) (X a o e)
/-- what __init__ leaves of a fresh exception at x -/
structure InitEnd (h h' : Heap) (x C dx : Addr) (v : Value) : Prop where
  keep : ∀ b o, b ≠ x → h.get? b = some o → h'.get? b = some o
  obj : ∃ t, h'.get? x = some { cls := .ref C, dict := some dx, data := .fields #[.ref t, .none, .none, .none, .bool false, .none] }
  dbig : h.objs.size ≤ dx
  dne : dx ≠ x
  ns : h'.Ns1 dx (fun y => if y = "reason" then some v else none)
/-- a made exception -/
structure OwnMade (h h' : Heap) (e C d : Addr) (v : Value) : Prop where
  keep : ∀ b o, h.get? b = some o → h'.get? b = some o
  new : h.objs.size ≤ e
  obj : ∃ oe vs, h'.get? e = some oe ∧ oe.cls = .ref C ∧ oe.dict = some d ∧ oe.data = .fields vs ∧ vs[1]? = some .none
  dbig : h.objs.size ≤ d
  dne : d ≠ e
  ns : h'.Ns1 d (fun y => if y = "reason" then some v else none)
section
variable {prog : Program} {w : World} {A : Around} {E : Value → Shared → Prop} {R : Result → Shared → Prop} {s : Shared} {K : Frag} {mg : Str → Option Value} {C fI : Addr} {nx qual : Str}
/-- ValueError.__init__ bound to x, called with one value -/
theorem call_mw {u x t0 : Addr} {v : Value} {Q : Value → Shared → Prop} {h : Heap} {g : Array GenState} {d : Drawn} {t : Nat} {os : OsState}
    {nm q : Str} {N : Addr} {bs bm : List Value} {hdct : Bool} {sn : List Str} {sub : List Value} {ab : Bool} {col : Option Bool} {dd : Option Addr} {k0 k1 k2 k3 k5 : Option Value}
    (hC : h.get? C = some (excClassObj nm q C N bs bm hdct sn sub ab col dd k0 k1 k2 k3 k5 "ValueError.__new__")) (hx : h.get? x = some (excO C t0)) (hu : h.get? u = some (kxs_mw "ValueError.__init__" x))
    (hq : ∀ h' t1, (∀ b o, b ≠ x → h.get? b = some o → h'.get? b = some o) → h'.get? x = some (excO C t1) → h.objs.size ≤ h'.objs.size → Q .none ⟨h', g, d, t, os⟩) :
    wpAny (model prog w) A (call (.ref u) [v]) Q E ⟨h, g, d, t, os⟩ := by
  refine wpAny_call (codeAny_of_tree ?_)
  show wpAny _ A.in1 (callAny (.ref u) ⟨[v], []⟩) _ _ _
  simp only [callAny]
  refine wpAny_bind (wpAny_load hu ?_)
  simp only [kxs_mw, show (Value.type "method-wrapper" == Value.type "method" || Value.type "method-wrapper" == Value.type "builtin_function_or_method" || Value.type "method-wrapper" == Value.type "method-wrapper") = true by decide, if_true]
  refine KFB.if_so (by decide) ?_
  refine wpAny_bind (check_bound_init PySem.F.excBase_ValueError.toExcCallFacts hC hx rfl ?_)
  refine wpAny_bind (wpAny_pure (wpAny_pure ?_))
  refine ⟨plainId_quiet PySem.F.excBase_ValueError.init.plain _, codeAny_builtin PySem.F.excBase_ValueError.initEntry ?_⟩
  refine exc_init_tree (cls := .ref C) (t0 := t0) (dv := none) (c2 := .none) (c3 := .none) (b4 := .bool false) hx (one_line v) fun h' k e1 e2 => ?_
  exact hq h' _ k e1 (Nat.le_of_lt (Heap.lt_size e2))
/-- self = x, reason = v, the rest of the exception as it is -/
theorem bad_init (T : BadTxt prog K mg nx qual C fI) {x t0 : Addr} {v : Value} (X : K.In s.heap) (G : Glb mg s.heap) (hlim : s.heap.NoLimit) (hx : s.heap.get? x = some (excO C t0)) (hnx : K.lookup x = none) (hroom : A.depth < recursionLimit)
    (hq : ∀ h' tk dx, InitEnd s.heap h' x C dx v → R (.ok (.ret .none)) { s with heap := h', toks := tk }) : codeAny (model prog w) A (.call (.ref fI) ⟨[.ref x, v], []⟩) R s := by
  obtain ⟨oc, od, doc, pm, an, cda, ct, cc, osl, p1, p2, q1, q2, q3, q4, q5, q6, q7, q8, q9, q10, ccl, cl, cdd, cld, ccs, csl, vs, file, tf, ho, hcd, hcode, hvs, hfile, hcell, pl, hev⟩ := T.fn
  obtain ⟨nm, q, N, bs, bm, sn, sub, ab, col, dd, k0, k1, k2, k3, k5, hC, hbm⟩ := T.cls
  have hcl : clsIn K C = some { name := nm, bases := bs, mro := .ref C :: bm, ns := N, qualname := q, hasDict := true, slotNames := sn, subclasses := sub, abstract := ab, collection := col, hasDel := false } := by unfold clsIn; rw [hC] <;> rfl
  have hup := T.upC
  unfold ks_superIn at hup
  rw [hcl] at hup
  refine ks_codeAny_call_defAt (binds := [("self", .ref x), ("reason", v)]) hroom (X _ _ ho) rfl hlim (codeRec_of X hcd) rfl (BindsTo.of_eq (by first | rfl | with_unfolding_all rfl)) (by show ∀ x ∈ bS.names, _; decide) (fun y hy => ?_) (fun h₁ hns k => ?_) rfl rfl rfl
  · rcases List.mem_cons.mp hy with e | hy
    · rw [e]; rfl
    · rw [List.mem_singleton.mp hy]; rfl
  obtain ⟨hh, g, dr, tk, os⟩ := s
  have X₁ : K.In h₁ := X.keeps k
  have hx₁ := k _ _ hx
  have hC₁ := X₁ _ _ hC
  have IA : InstAt h₁ x (excO C t0) C none := ⟨hx₁, rfl, rfl, trivial⟩
  have mS : (fun y => List.lookup y ([("self", Value.ref x), ("reason", v)] : List (Str × Value)).reverse) "self" = some (.ref x) := by first | rfl | decide +kernel
  have mR : (fun y => List.lookup y ([("self", Value.ref x), ("reason", v)] : List (Str × Value)).reverse) "reason" = some v := by first | rfl | decide +kernel
  -- super().__init__(reason)
  refine ks_wpAt_execs_cons (ks_wpAt_Expr_any (ks_wpAt_MethodCall (pl := pl) ?_ (hev _)))
  refine ks_wpAt_super_base (by rfl) (by rfl) (by decide) rfl (X₁ _ _ ho) rfl rfl rfl (X₁ _ _ hcode) rfl hvs hfile T.top ?_
  obtain ⟨mb, b1, b2⟩ := (G.keeps k).blt
  refine ks_loadName_global (by rfl) (by rfl) (loadGlobal_builtin (G.keeps k).glob T.sup b1 ((b2 _ (by decide)).trans (by rfl)) ⟨rfl, ?_⟩)
  refine wpAny_loadName_free (by rfl) (by rfl) rfl ⟨_, X₁ _ _ hcell, rfl⟩ ?_
  refine wpAny_loadName_local (by rfl) (by rfl) hns mS ?_
  refine ks_wpAny_isType_cls hC₁ rfl ⟨rfl, ?_⟩
  refine ks_wpAny_call_super hC₁ rfl hx₁ rfl (fun c e => nomatch e) (looks_mroIn X₁ T.mrC) (fun h₂ so k₂ => ?_)
  have X₂ : K.In h₂ := X₁.keeps k₂
  have hx₂ := k₂ _ _ hx₁
  have IA₂ : InstAt h₂ x (excO C t0) C none := ⟨hx₂, rfl, rfl, trivial⟩
  refine kxs_getMethod kxs_ValueError so (looks_opaque X₂ T.any) (l₀ := .ref C :: bm) (fun A Q E s k q => wpAny_bind ((looks_clsIn X₂ hcl) A _ E s k (wpAny_pure q))) rfl X₂ hup (IA₂.type.andThen (looks_subIn X₂ T.veC)) (ks_ne X₂ IA₂ hcl) (by decide) ?_
  have k₃ : ∀ b o, h₂.get? b = some o → (h₂.push (kxs_mw "ValueError.__init__" x)).get? b = some o := fun b o e => Heap.get?_push_of_some _ e
  refine kxs_callWith (i := "ValueError.__init__") (x := x) (by rfl) (evalArgs_plain (spliced_cons (wpAny_Name (wpAny_loadName_local (by rfl) (by rfl) ((hns.keeps k₂).keeps k₃) mR ?_) (by decide))))
  refine spliced_nil ⟨Heap.get?_push_at rfl rfl, ?_⟩
  refine call_mw (k₃ _ _ (k₂ _ _ hC₁)) (k₃ _ _ hx₂) (Heap.get?_push_at rfl rfl) fun h₄ t1 k₄ hx₄ z₄ => ?_
  -- self.reason = reason
  have hxL : hh.objs.size ≠ x := Nat.ne_of_gt (Heap.lt_size hx)
  have X₄ : K.In h₄ := kept_but (X₂.keeps k₃) hnx k₄
  have hns₄ : h₄.Ns hh.objs.size (fun y => List.lookup y ([("self", Value.ref x), ("reason", v)] : List (Str × Value)).reverse) := by
    obtain ⟨o, es, ep, e, d, r⟩ := (hns.keeps k₂).keeps k₃
    exact ⟨o, es, ep, k₄ _ _ hxL e, d, r⟩
  refine ks_wpAt_execs_cons (ks_wpAt_Assign_Attr ?_)
  refine wpAt_of_wpAny (wpAny_Name (wpAny_loadName_local (by rfl) (by rfl) hns₄ mR ?_) (by decide))
  refine wpAny_Name (wpAny_loadName_local (by rfl) (by rfl) hns₄ mS ?_) (by decide)
  refine set_plain X₄ (ox := excO C t1) (od := none) ⟨hx₄, rfl, rfl, trivial⟩ T.sa ?_
  refine exc_osa X₄ hx₄ hcl (show refsVE (.ref C :: bm) = true from hbm) rfl T.noN (fun h₅ tk₅ dx k₅ dn dne hx₅ hn₅ => ?_)
  refine wpAt_of_wpAny (wpAny_execs_nil (hq h₅ tk₅ dx ⟨fun b o hb e => k₅ b o hb (k₄ b o hb (k₃ _ _ (k₂ _ _ (k b o e)))), ⟨t1, hx₅⟩, ?_, dne, hn₅⟩))
  have z1 : hh.objs.size < h₄.objs.size := hns₄.lt
  exact Nat.le_of_lt (Nat.lt_of_lt_of_le z1 dn)
/-- C(v) -/
theorem bad_made (T : BadTxt prog K mg nx qual C fI) {v : Value} (X : K.In s.heap) (G : Glb mg s.heap) (hlim : s.heap.NoLimit) (hroom : A.depth + 1 < recursionLimit)
    (hq : ∀ h' tk e d, OwnMade s.heap h' e C d v → R (.ok (.ret (.ref e))) { s with heap := h', toks := tk }) : codeAny (model prog w) A (.call (.ref C) ⟨[v], []⟩) R s := by
  obtain ⟨nm, q, N, bs, bm, sn, sub, ab, col, dd, k0, k1, k2, k3, k5, hC, hbm⟩ := T.cls
  obtain ⟨hp, g, dr, tk, os⟩ := s
  have k : ∀ b o, hp.get? b = some o → ((hp.push (kdv_tup [v])).push (excO C hp.objs.size)).get? b = some o := fun b o e => Heap.get?_push_of_some _ (Heap.get?_push_of_some _ e)
  have hget : ((hp.push (kdv_tup [v])).push (excO C hp.objs.size)).get? (hp.objs.size + 1) = some (excO C hp.objs.size) := by heap_get
  have hnx : K.lookup (hp.objs.size + 1) = none := by
    cases e : K.lookup (hp.objs.size + 1) with
    | none => rfl
    | some o =>
      have z : hp.get? (hp.objs.size + 1) = some o := X _ _ e
      exact absurd (Nat.lt_of_succ_lt (Heap.lt_size z)) (Nat.lt_irrefl _)
  refine call_own PySem.F.excBase_ValueError (fun X => refsVE_contains X bm hbm) (X _ _ hC) (looks_findIn X T.iC) (fun self => bind_fn X self T.tC) (one_line v) ?_
  refine bad_init (s := ⟨(hp.push (kdv_tup [v])).push (excO C hp.objs.size), g, dr, tk, os⟩) T (X.keeps k) (G.keeps k) (hlim.keeps k) hget hnx ?_ fun h' tk' dx en => ?_
  · show A.depth + 1 < recursionLimit
    exact hroom
  · have old : ∀ b o, hp.get? b = some o → h'.get? b = some o := fun b o e => en.keep b o (Nat.ne_of_lt (Nat.lt_succ_of_lt (Heap.lt_size e))) (k b o e)
    have z : hp.objs.size + 1 + 1 ≤ dx := by
      have q := en.dbig
      simp only [Heap.size_push] at q
      exact q
    obtain ⟨t, ob⟩ := en.obj
    exact ⟨rfl, hq h' tk' (hp.objs.size + 1) dx ⟨old, Nat.le_succ _, ⟨_, _, ob, rfl, rfl, rfl, rfl⟩, Nat.le_trans (Nat.le_trans (Nat.le_succ _) (Nat.le_succ _)) z, en.dne, en.ns⟩⟩
end
end BadX
end PySem
set_option maxHeartbeats 2000000
/-! The data layer, part 13: raise, try with one clause and else. -/
namespace DL
open PySem PySem.Spec PyProof.Rows L2
section
variable {X : Cx} {C fI : Addr} {nx qual : Str} {W : WX} {a : Expr} {p pos pos2 : Pos} {k : Nat} {fa : EF} {fr : AF}
theorem relO_reason {v : V} {v' : Value} (r : RelV v v') (f : Str) : RelO (List.lookup f [(("reason" : Str), v)]) (if f = "reason" then some v' else none) := by
  by_cases hw : f = "reason"
  · subst hw
    rw [if_pos rfl, show List.lookup ("reason" : Str) [(("reason" : Str), v)] = some v by simp [List.lookup]]
    exact r
  · rw [if_neg hw, show List.lookup f [(("reason" : Str), v)] = none by simp [List.lookup, show (f == ("reason" : Str)) = false by simpa using hw]]
    trivial
/-- C(v): what is then there -/
def tMkBad (C : Addr) (ta : TA) : L2.St → Hp → XK → Prop := fun σ H Q => ta σ H fun vs H1 => ∃ v, vs = [v] ∧ ∀ d, H1 d = none → Q (.ref C) (some d) (upd H1 d (.xd [(("reason" : Str), v)]))
theorem pmk_bad {ta : TA} (T : PySem.BadX.BadTxt X.prog X.K X.mg nx qual C fI) (hr : Room k X.A) (ha : PA X [a] ta) (hg : Gl X nx) (hdb : (nx == ("__debug__" : Str)) = false := by decide)
    (he : starEach (a :: []) X.env = (false, eval a X.env) :: starEach [] X.env := by rfl) (hpl : (backTo pos (starEach [] X.env)).any (·.1) = false := by rfl) :
    PMk X (.Call (.Name nx p) [a] [] pos) (tMkBad C ta) := by
  intro pins s σ H Q I h
  refine wpAny_Call_Name_kw (ld_glob I hg T.gC ?_ hdb)
  refine PySem.W.callWith_K (h₀ := X.base) I.ok.mod.kin T.kC (thn (ha.run pos pins s σ H _ I h) fun us s1 hh => ?_) he hpl
  obtain ⟨vs, H1, I1, r1, v, ev, q1⟩ := hh
  subst ev
  refine ⟨I1.kIn, ?_⟩
  obtain ⟨v', rfl, rv⟩ := Vals.one r1
  show wpAny _ _ (call (.ref C) [v']) _ _ _
  have hlim := I1.nolimit
  have G : PySem.BadX.Glb X.mg s1.heap := ⟨I1.ok.mod.glob.keeps I1.bk, let ⟨mb, b1, b2⟩ := I1.ok.mod.blt; ⟨mb, b1.keeps I1.bk, b2⟩⟩
  obtain ⟨hp, g, dr, tk, os⟩ := s1
  refine wpAny_call (PySem.BadX.bad_made T I1.kIn G hlim (by have := hr.dp; omega) fun h' tk' e d M => ?_)
  show MkP X pins σ Q (.ref e) ⟨h', g, dr, tk', os⟩
  obtain ⟨oe, fv, hoe, hc, hd, hdat, h1⟩ := M.obj
  have hns := M.ns
  obtain ⟨G', g1, g2⟩ := restrict h' fun b => decide (b ≠ e)
  have gk : ∀ b, b ≠ e → G'.get? b = h'.get? b := fun b hb => g1 b (decide_eq_true hb)
  have ge : G'.get? e = none := g2 e (by simp)
  have old : ∀ b o, hp.get? b = some o → G'.get? b = some o := fun b o q => (gk b (Nat.ne_of_lt (Nat.lt_of_lt_of_le (Heap.lt_size q) M.new))).trans (M.keep b o q)
  have ob : ObjOk X.prog X.w (upd H1 d (.xd [(("reason" : Str), v)])) G' d (.xd [(("reason" : Str), v)]) := ⟨_, hns.at (fun o q => (gk d M.dne).trans q), fun f => relO_reason rv f⟩
  have J : Inv X pins σ (upd H1 d (.xd [(("reason" : Str), v)])) ⟨G', g, dr, tk', os⟩ := I1.laid (t' := tk') old M.dbig ob
  refine ⟨e, oe, fv, ⟨G', g, dr, tk', os⟩, _, .ref C, some d, rfl, J, fun b o q => ?_, ge, hoe, ⟨hc, hd⟩, hdat, h1, ?_, rfl, I1.bare, raises_own T.exC T.tyC, q1 d (I1.hok.fresh M.dbig)⟩
  · by_cases hb : b = e
    · have q' : G'.get? b = some o := q
      rw [hb, ge] at q'; cases q'
    · exact (gk b hb).symm.trans q
  · rw [upd_ne (Ne.symm M.dne)]
    exact I1.hok.fresh M.new
/-- raise C(e) -/
def sRaise (c : Str) (fr : AF) : SF := fun en M => sbnd (fr en M) en fun ds M1 => match ds with | [d] => some (.ex c [("reason", d)] en, M1) | _ => none
theorem es_raise (hc : X.calm = true) (T : PySem.BadX.BadTxt X.prog X.K X.mg nx qual C fI) (hr : Room k X.A) (tk : Takes X W) (ha : EvA X W [a] fr) (hg : Gl X nx) (hdb : (nx == ("__debug__" : Str)) = false := by decide)
    (he : starEach (a :: []) X.env = (false, eval a X.env) :: starEach [] X.env := by rfl) (hpl : (backTo pos (starEach [] X.env)).any (·.1) = false := by rfl) :
    EvS X W (.Raise (some (.Call (.Name nx p) [a] [] pos)) none pos2) (sRaise nx fr) := by
  refine ⟨ps_imp (ps_raise hc tk (pmk_bad T hr ha.pa hg hdb he hpl)) fun Z σ H h => ?_⟩
  obtain ⟨I, M, en, S, r, k⟩ := h
  refine ⟨I, M, en, S, r, Sp_.bind k r fun ds M1 I1 H1 vs e1 S1 r1 k1 => ?_⟩
  match ds, k1 with
  | [d], k1 =>
    obtain ⟨v, rfl, rv⟩ := reps1 r1
    refine ⟨v, rfl, fun dd hd => ?_⟩
    exact k1 I1 _ σ _ _ (Ext.new hd) (S1.new hd) ((r.mono e1).mono (Ext.new hd)) ⟨C, dd, [v], T.gC, rfl, rfl, upd_same, S1.fresh hd, .one ((Ext.new hd).rep rv)⟩
end

/-! ### try: body; except c as n: suite; else: orelse, where every exception of the body is of the class -/
section
variable {X : Cx} {x n : Str} {c : Value} {i : Nat} {body suite orelse : List Stmt} {b₀ : Stmt} {np pos pos' : Pos} {tb : WX → TS} {ts : Addr → Value → Option Addr → TS} {u : TS}
/-- what the clause wishes -/
def wAll (K : PySem.W.Frag) (c : Value) (i : Nat) (ts : Addr → Value → Option Addr → TS) (Z : Ends) : WX := fun cls d σ H =>
  PySem.W.exmOne K cls c = some true ∧ ∀ e, H e = none → ts e cls d { nx := fun σ' H' => Z.nx (σ'.set i none) H', rt := Z.rt, bk := fun σ' H' => Z.bk (σ'.set i none) H', ct := fun σ' H' => Z.ct (σ'.set i none) H' } (σ.set i (some (.ref e))) H
theorem ps_tryAll (hst : X.stack = X.env :: X.outer) (hfl : X.env.frame = some X.env.locals) (hN : X.N.Nodup) (hi : X.N[i]? = some n) (hln : X.env.kindOf n = some .local) (hcl : Names X x c) (hels : PSs X orelse u)
    (hbody : ∀ (W : WX) (pn : List (Addr × Obj)) (xe : Value → Shared → Prop), Takes (X.tr pn xe) W → PassesOwn (model X.prog X.w) X.A X.env xe → PSs (X.tr pn xe) body (tb W))
    (hsuite : ∀ (e : Addr) (oe : Obj) (cls : Value) (d : Option Addr) (pn : List (Addr × Obj)), Zc cls d oe → (∃ vs, oe.data = .fields vs) → PSs (X.suite e ((e, oe) :: pn)) (b₀ :: suite) (ts e cls d)) :
    PS X (.Try body [.ExceptHandler (some (.Name x np)) (some n) (b₀ :: suite) pos'] orelse [] pos) (fun Z σ H => tb (wAll X.K c i ts Z) { Z with nx := u Z } σ H) := by
  refine ⟨fun pins s σ H Z I goal => ?_⟩
  have okX := I.ok
  have frm : X.A.frames = some (X.env :: X.outer) := okX.frames.trans (by rw [hst])
  -- behind the body's end
  have quietEnd : ∀ (f : Flow) (s1 : Shared), SP (X.tr (X.pn ++ pins) (fun e s1 => wpAny (model X.prog X.w) X.A (noteFrame e X.env) (fun _ s2 => wpAny (model X.prog X.w) X.A (setFlight e none) (fun _ s3 =>
      wpAny (model X.prog X.w) X.A (handleBy e X.env [.ExceptHandler (some (.Name x np)) (some n) (b₀ :: suite) pos']) (SP X pins Z) X.xe s3) X.xe s2) X.xe s1)) [] { Z with nx := u Z } f s1 →
      (match f with | .next => wpAny (model X.prog X.w) X.A (execs orelse X.env) (SP X pins Z) X.xe s1 | f => SP X pins Z f s1) := by
    intro f s1 hq
    cases f with
    | next => obtain ⟨σ1, H1, I1, q1⟩ := hq; exact hels.run pins s1 σ1 H1 Z (I1.ofTry okX) q1
    | ret v => obtain ⟨w1, σ1, H1, I1, rel, q1⟩ := hq; exact ⟨w1, σ1, H1, I1.ofTry okX, rel, q1⟩
    | brk => obtain ⟨σ1, H1, I1, q1⟩ := hq; exact ⟨σ1, H1, I1.ofTry okX, q1⟩
    | cont => obtain ⟨σ1, H1, I1, q1⟩ := hq; exact ⟨σ1, H1, I1.ofTry okX, q1⟩
  refine wpAny_Try_except (wpAny_mono ((hbody _ (X.pn ++ pins) _ ?takes PassesOwn.looking).run [] s σ H _ (I.toTry _) goal) quietEnd fun _ _ z => z)
  case takes =>
    intro eu sE caught
    obtain ⟨e, B, sI, pinsI, σI, HI, cls, d, rfl, II, low, ups, air, ne, osE, gensE, ismatch, wish⟩ := caught
    have JJ : Inv X pins σI HI sI := II.ofTry okX
    have air' : Sky B (X.env :: X.outer) e (Zc cls d) X.env.locals sE.heap := by rw [← hst]; exact air
    show wpAny (model X.prog X.w) X.A (noteFrame (.ref e) X.env) _ _ _
    refine Sky.land Zc.steady frm hfl air' fun hA flA upA => ?_
    have JA : Inv X pins σI HI { sE with heap := hA } := JJ.landed low flA.1 (ups.trans upA) osE gensE
    obtain ⟨oA, vA, atA, zA, dA⟩ := flA.there
    -- the exception is no frame's
    have offFrames : e ∉ frs (X.env :: X.outer) := by
      intro hm
      obtain ⟨_, oF, atF, isF⟩ := flA.2.2.1.mem hm
      rw [atA] at atF
      cases atF
      exact isF _ dA
    have offLocals : e ≠ X.env.locals := fun z => offFrames (List.mem_filterMap.mpr ⟨X.env, List.mem_cons_self, hfl.trans (by rw [z])⟩)
    have offFs : e ∉ X.fs := fun hm => by
      obtain ⟨eo, heo, qo⟩ := List.mem_filterMap.mp hm
      exact offFrames (List.mem_filterMap.mpr ⟨eo, .tail _ heo, qo⟩)
    have SA := JA.suite atA dA ne offLocals offFs
    refine wpAny_handleBy_cons (codeAny_handlers_test ?_) (by intro q; cases q)
    have looksTy : PySem.W.Looks (model X.prog X.w) hA (typeOf (.ref e)) cls := by
      intro A1 Q1 E1 s1 k1 q1
      refine wpAny_typeOf_ref (k1 _ _ atA) ?_
      rw [zA.1]
      exact q1
    have looksMatch := PySem.W.exm_one (M := model X.prog X.w) JA.kIn looksTy ismatch
    have theClass : ∀ {Q1 : Value → Shared → Prop} {E1 : Value → Shared → Prop}, Q1 c { sE with heap := hA } → wpAny (model X.prog X.w) (X.A.mark (some (.ref e))) (eval (.Name x np) X.env) Q1 E1 { sE with heap := hA } := by
      intro Q1 E1 q1
      obtain ⟨isGl, noDbg, inMod | ⟨notMod, inBlt, noName⟩⟩ := hcl
      · exact ld_glob (X := X.suite e ((e, oA) :: (X.pn ++ pins))) SA isGl inMod q1 noDbg
      · exact ld_blt (X := X.suite e ((e, oA) :: (X.pn ++ pins))) SA isGl notMod inBlt q1 noName noDbg
    refine theClass (looksMatch.here (codeAny_handlers_suite_as (HandSPX.lands_againZ flA fun hB flB upB => ?_)))
    have JB : Inv X pins σI HI { sE with heap := hB } := JJ.landed low flB.1 ((ups.trans upA).trans upB) osE gensE
    obtain ⟨oB, vB, atB, zB, dB⟩ := flB.there
    have SB := JB.suite atB dB ne offLocals offFs
    refine store_ok (X := X.suite e ((e, oB) :: (X.pn ++ pins))) (v := .ref e) SB hN hi (.inl hln) rfl (fun sC SC => ?_) (.inr hln)
    have nameGoes : ∀ {σD : L2.St} {HD : Hp} {sD : Shared} {Q1 : Shared → Prop}, Inv (X.suite e ((e, oB) :: (X.pn ++ pins))) [] σD HD sD → (∀ s7, Inv X pins (σD.set i none) HD s7 → Q1 s7) →
        wpAny (model X.prog X.w) X.A (do bindName X.env n .none; unbindBehindTheSuite X.env n pos') (fun _ s7 => Q1 s7) X.xe sD := fun SD hq => gone_ok (SD.unsuite okX) hN hi hln hq
    refine wpAny_mono ((hsuite e oB cls d (X.pn ++ pins) zB ⟨_, dB⟩).run [] sC _ HI _ SC (wish e ne)) (fun f sD hsp => ?_) (fun _ _ z => z.elim)
    cases f with
    | next => obtain ⟨σD, HD, SD, qD⟩ := hsp; exact nameGoes SD fun s7 J7 => ⟨_, _, J7, qD⟩
    | brk => obtain ⟨σD, HD, SD, qD⟩ := hsp; exact nameGoes SD fun s7 J7 => ⟨_, _, J7, qD⟩
    | cont => obtain ⟨σD, HD, SD, qD⟩ := hsp; exact nameGoes SD fun s7 J7 => ⟨_, _, J7, qD⟩
    | ret v => obtain ⟨wD, σD, HD, SD, rD, qD⟩ := hsp; exact nameGoes SD fun s7 J7 => ⟨_, _, _, J7, rD, qD⟩
end
end DL
/-! The data layer, part 14: the suite of a clause; try. -/
namespace DL
open PySem PySem.Spec PyProof.Rows L2
/-- the exception that the suite holds: in slot i, at e, with the fields fs -/
def Held (K : PySem.W.Frag) (mg : Str → Option Value) (i : Nat) (e : Addr) (cls : Value) (d : Option Addr) (I : Ow) (H : Hp) (σ : L2.St) (fs : List (Str × D)) : Prop :=
  σ[i]? = some (some (.ref e)) ∧ ∃ c, ExR K mg I H c fs cls d
section
variable (K : PySem.W.Frag) (mg : Str → Option Value) (i : Nat) (e : Addr) (cls : Value) (d : Option Addr)
def TDX {α β : Type} (R : Ow → Hp → α → β → Prop) (f : List (Str × D) → Env → Store → Res α) : L2.St → Hp → (β → Hp → Prop) → Prop := fun σ H Q =>
  ∃ I M en fs, Held K mg i e cls d I H σ fs ∧ Sto K I H M ∧ RepE K I H en σ ∧ Kp K mg W0 R (f fs en M) I H σ Q
def TSX (p : List (Str × D) → SF) : TS := fun Z σ H => ∃ I M en fs, Held K mg i e cls d I H σ fs ∧ Sto K I H M ∧ RepE K I H en σ ∧ Sp_ K mg W0 (p fs en M) I H Z
end
structure XvE (X : Cx) (i : Nat) (e : Addr) (cls : Value) (d : Option Addr) (x : Expr) (f : List (Str × D) → EF) : Prop where
  pe : PE X x (TDX X.K X.mg i e cls d (Rep X.K) f)
structure XvT (X : Cx) (i : Nat) (e : Addr) (cls : Value) (d : Option Addr) (x : Expr) (f : List (Str × D) → TF) : Prop where
  pt : PT X x (TDX X.K X.mg i e cls d RB f)
structure XvS (X : Cx) (i : Nat) (e : Addr) (cls : Value) (d : Option Addr) (x : Stmt) (f : List (Str × D) → SF) : Prop where
  ps : PS X x (TSX X.K X.mg i e cls d f)
structure XvSs (X : Cx) (i : Nat) (e : Addr) (cls : Value) (d : Option Addr) (x : List Stmt) (f : List (Str × D) → SF) : Prop where
  pss : PSs X x (TSX X.K X.mg i e cls d f)
section
variable {K : PySem.W.Frag} {mg : Str → Option Value} {I I' : Ow} {H H' : Hp} {σ : L2.St} {fs : List (Str × D)} {X : Cx} {i : Nat} {e : Addr} {cls : Value} {d : Option Addr} {a b c x : Expr} {st : Stmt} {sts body : List Stmt} {pos : Pos}
  {f g : List (Str × D) → EF} {t : List (Str × D) → TF} {p q : List (Str × D) → SF} {fa : EF} {fp fq : SF} {r : R2} {op : CmpOp} {gg : D → D → Store → Res D}
theorem ExR.mono {c : Str} {dx : Option Addr} (x : ExR K mg I H c fs cls dx) (e : Ext I H I' H') : ExR K mg I' H' c fs cls dx := by
  obtain ⟨C, d, vs, h1, h2, h3, h4, h5, h6⟩ := x
  exact ⟨C, d, vs, h1, h2, h3, e.keep _ _ h4 h5.1, e.free h4 h5, e.reps h6⟩
theorem Held.mono (x : Held K mg i e cls d I H σ fs) (k : Ext I H I' H') : Held K mg i e cls d I' H' σ fs := ⟨x.1, x.2.elim fun c h => ⟨c, h.mono k⟩⟩
theorem xe_of (h : EvE X W0 x fa) : XvE X i e cls d x (fun _ => fa) := ⟨pe_imp h.pe fun σ H Q ⟨I, M, en, fs, _, S, r, k⟩ => ⟨I, M, en, S, r, k⟩⟩
theorem xss_of (h : EvSs X W0 sts fp) : XvSs X i e cls d sts (fun _ => fp) := ⟨pss_imp h.pss fun Z σ H ⟨I, M, en, fs, _, S, r, k⟩ => ⟨I, M, en, S, r, k⟩⟩
theorem xss_one (h : XvS X i e cls d st p) : XvSs X i e cls d [st] p := ⟨pss_one h.ps⟩
/-- the held exception's field -/
def xRsn : List (Str × D) → EF := fun fs _ M => match fs with | [(f, d)] => if f = "reason" then some (.ok d, M) else none | _ => none
theorem xe_reason {C fI : Addr} {nx qual y : Str} {oe : Obj} {pn : List (Addr × Obj)} {pos2 : Pos} (T : PySem.BadX.BadTxt X.prog X.K X.mg nx qual C fI) (hz : Zc cls d oe) (hf : ∃ vs, oe.data = .fields vs) (hC : cls = .ref C)
    (hN : X.N[i]? = some y) (hv : Vis X.env.scope y) (hd : (y == ("__debug__" : Str)) = false := by decide) (hcd : (y == ("__classdict__" : Str)) = false := by decide)
    (hb : attributeBase (.Name y pos2) "reason" X.env (eval (.Name y pos2) X.env) = eval (.Name y pos2) X.env := by rfl) : XvE (X.suite e ((e, oe) :: pn)) i e cls d (.Attribute (.Name y pos2) "reason" pos) xRsn := by
  refine ⟨pe_imp (pe_xf ⟨T.ga, T.gg, T.exC, T.hdC⟩ T.noN hz hf (pe_var (X := X.suite e ((e, oe) :: pn)) hN hv hd hcd) hb) fun σ H Q h => ?_⟩
  obtain ⟨I, M, en, fs, ⟨hσ, c, C', dd, vs, h1, h2, h3, h4, h5, h6⟩, S, r, k⟩ := h
  unfold xRsn at k
  split at k
  · rename_i f d'
    split at k
    · rename_i hr
      subst hr
      obtain ⟨v, rfl, rv⟩ := reps1 h6
      exact ⟨_, hσ, rfl, hC, dd, [("reason", v)], v, h3, h4, by simp [List.lookup], k.ok S rv⟩
    · exact k.elim
  · exact k.elim
theorem xe_cmp (ho : OpR X (compareOp op) r) (hg : OpD X.K X.mg W0 gg r) (ha : XvE X i e cls d a f) (hb : XvE X i e cls d b g) (hm : behindInMarks op b = false) : XvE X i e cls d (.Compare a [op] [b] pos) (fun fs => cOp gg (f fs) (g fs)) := by
  refine ⟨pe_imp (pe_cmpR ho ha.pe hb.pe hm) fun σ H Q h => ?_⟩
  obtain ⟨I, M, en, fs, he, S, re, k⟩ := h
  refine ⟨I, M, en, fs, he, S, re, Kp.bind k fun x M1 I1 H1 u e1 S1 r1 k1 => ?_⟩
  refine ⟨I1, M1, en, fs, he.mono e1, S1, re.mono e1, k1.bind fun y M2 I2 H2 v e2 S2 r2 k2 => ?_⟩
  exact hg x y M2 I2 H2 u v σ Q S2 (e2.rep r1) r2 k2
theorem xt_cmp (ho : OpR X (compareOp op) r) (hg : OpD X.K X.mg W0 gg r) (hbl : ∀ a b M x M', gg a b M = some (.ok x, M') → ∃ b, x = .bl b) (ha : XvE X i e cls d a f) (hb : XvE X i e cls d b g) (hm : behindInMarks op b = false) :
    XvT X i e cls d (.Compare a [op] [b] pos) (fun fs => cTru (cOp gg (f fs) (g fs))) := by
  refine ⟨pt_imp (pt_cmpR ho ha.pe hb.pe hm) fun σ H Q h => ?_⟩
  obtain ⟨I, M, en, fs, he, S, re, k⟩ := h
  have k : Kp X.K X.mg W0 RB (cTru (cOp gg (f fs) (g fs)) en M) I H σ Q := k
  have k : Kp X.K X.mg W0 RB (bnd (f fs en M) fun x M1 => bnd (g fs en M1) fun y M2 => bnd (gg x y M2) fun z M3 => match tru M3 z with | some b => some (.ok b, M3) | none => none) I H σ Q := by
    unfold cTru cOp at k
    revert k
    cases f fs en M with
    | none => exact id
    | some z =>
      obtain ⟨o, M1⟩ := z
      cases o with
      | ex _ _ => exact id
      | ok u =>
        rw [bnd_ok, bnd_ok]
        cases g fs en M1 with
        | none => exact id
        | some z =>
          obtain ⟨o, M2⟩ := z
          cases o with
          | ex _ _ => exact id
          | ok v => exact id
  refine ⟨I, M, en, fs, he, S, re, Kp.bind k fun x M1 I1 H1 u e1 S1 r1 k1 => ?_⟩
  refine ⟨I1, M1, en, fs, he.mono e1, S1, re.mono e1, Kp.bind k1 fun y M2 I2 H2 v e2 S2 r2 k2 => ?_⟩
  have hbl' := hbl x y M2
  refine hg x y M2 I2 H2 u v σ _ S2 (e2.rep r1) r2 ?_
  revert k2 hbl'
  cases gg x y M2 with
  | none => exact fun k _ => k
  | some z =>
    obtain ⟨o, M3⟩ := z
    cases o with
    | ex _ _ => exact fun k _ => k
    | ok w =>
      intro k2 hbl' I3 H3 v3 e3 S3 r3
      obtain ⟨b, rfl⟩ := hbl' w M3 rfl
      simp only [Rep] at r3
      exact ⟨b, r3, k2 I3 H3 b e3 S3 rfl⟩
theorem xs_if (hc : XvT X i e cls d c t) (h1 : EvSs X W0 sts fp) (h2 : EvSs X W0 body fq) : XvS X i e cls d (.If c sts body pos) (fun fs => sIf (t fs) fp fq) := by
  refine ⟨ps_imp (ps_if hc.pt h1.pss h2.pss) fun Z σ H h => ?_⟩
  obtain ⟨I, M, en, fs, he, S, r, k⟩ := h
  refine ⟨I, M, en, fs, he, S, r, Sp_.bind k r fun x M1 I1 H1 b e1 S1 r1 k1 => ?_⟩
  cases r1
  cases x with
  | true => exact (if_pos rfl).mpr ⟨I1, M1, en, S1, r.mono e1, k1⟩
  | false => exact (if_neg Bool.false_ne_true).mpr ⟨I1, M1, en, S1, r.mono e1, k1⟩
theorem xs_ret (h : XvE X i e cls d a f) : XvS X i e cls d (.Return (some a) pos) (fun fs => sRet (f fs)) := by
  refine ⟨ps_imp (ps_ret h.pe) fun Z σ H h => ?_⟩
  obtain ⟨I, M, en, fs, he, S, r, k⟩ := h
  exact ⟨I, M, en, fs, he, S, r, Sp_.bind k r fun d M1 I1 H1 v e1 S1 r1 k1 => k1 I1 H1 v Ext.refl S1 r1⟩

/-! ### try -/
/-- the name goes behind the suite -/
def sUn (i : Nat) (o : SRes) : SRes := match o with
  | some (.nx en, M) => some (.nx (en.set i none), M)
  | some (.bk en, M) => some (.bk (en.set i none), M)
  | some (.ct en, M) => some (.ct (en.set i none), M)
  | some (.rt d, M) => some (.rt d, M)
  | _ => none
def sTry (c : Str) (i : Nat) (fb : SF) (ps : List (Str × D) → SF) (fe : SF) : SF := fun en M => match fb en M with
  | some (.nx en1, M1) => fe en1 M1
  | some (.ex c' fs en1, M1) => if c' = c ∧ i < en1.length then sUn i (ps fs (en1.set i none) M1) else none
  | o => o
theorem sp_un {W : WX} {o : SRes} {Z : Ends} (h : Sp_ K mg W (sUn i o) I H Z) : Sp_ K mg W0 o I H { nx := fun σ' H' => Z.nx (σ'.set i none) H', rt := Z.rt, bk := fun σ' H' => Z.bk (σ'.set i none) H', ct := fun σ' H' => Z.ct (σ'.set i none) H' } := by
  match o, h with
  | some (.nx en, M), h => exact fun I' H' σ' e S r => h I' H' _ e S (r.unset i none)
  | some (.bk en, M), h => exact fun I' H' σ' e S r => h I' H' _ e S (r.unset i none)
  | some (.ct en, M), h => exact fun I' H' σ' e S r => h I' H' _ e S (r.unset i none)
  | some (.rt d, M), h => exact h
theorem es_try {C fI : Addr} {nx qual n : Str} {W : WX} {fb fe : SF} {ps : List (Str × D) → SF} {orelse suite : List Stmt} {b₀ : Stmt} {np pos' : Pos} (T : PySem.BadX.BadTxt X.prog X.K X.mg nx qual C fI)
    (hst : X.stack = X.env :: X.outer) (hfl : X.env.frame = some X.env.locals) (hN : X.N.Nodup) (hi : X.N[i]? = some n) (hln : X.env.kindOf n = some .local) (hg : Gl X nx) (hels : EvSs X W orelse fe)
    (hbody : ∀ (W : WX) (pn : List (Addr × Obj)) (xe : Value → Shared → Prop), Takes (X.tr pn xe) W → PassesOwn (model X.prog X.w) X.A X.env xe → EvSs (X.tr pn xe) W body fb)
    (hsuite : ∀ (e : Addr) (oe : Obj) (d : Option Addr) (pn : List (Addr × Obj)), Zc (.ref C) d oe → (∃ vs, oe.data = .fields vs) → XvSs (X.suite e ((e, oe) :: pn)) i e (.ref C) d (b₀ :: suite) ps)
    (hdb : (nx == ("__debug__" : Str)) = false := by decide) : EvS X W (.Try body [.ExceptHandler (some (.Name nx np)) (some n) (b₀ :: suite) pos'] orelse [] pos) (sTry nx i fb ps fe) := by
  refine ⟨ps_imp (ps_tryAll (ts := fun e cls d Z σ H => cls = .ref C ∧ TSX X.K X.mg i e cls d ps Z σ H) (tb := fun W => TSd X.K X.mg W fb) hst hfl hN hi hln ⟨hg, hdb, .inl T.gC⟩ hels.pss (fun W pn xe tk po => (hbody W pn xe tk po).pss) fun e oe cls d pn hz hf => ?_) fun Z σ H h => ?_⟩
  · refine ⟨fun pins s σ H Z Iv hq => ?_⟩
    obtain ⟨rfl, hq⟩ := hq
    exact (hsuite e oe d pn hz hf).pss.run pins s σ H Z Iv hq
  · obtain ⟨I, M, en, S, r, k⟩ := h
    refine ⟨I, M, en, S, r, ?_⟩
    unfold sTry at k
    revert k
    cases fb en M with
    | none => exact id
    | some z =>
      obtain ⟨o, M1⟩ := z
      cases o with
      | nx en1 => exact fun k I2 H2 σ2 e2 S2 r2 => ⟨I2, M1, en1, S2, r2, Sp_.mono k e2⟩
      | rt d => exact id
      | bk en1 => exact id
      | ct en1 => exact id
      | ex c' fs en1 =>
        dsimp only
        by_cases hc : c' = nx ∧ i < en1.length
        case neg => rw [if_neg hc]; exact False.elim
        rw [if_pos hc]
        obtain ⟨rfl, hlt⟩ := hc
        intro k I2 H2 σ2 cls dx e2 S2 r2 x2
        have hcls : cls = .ref C := by
          obtain ⟨C', _, _, h1, h2, _⟩ := x2
          rw [T.gC] at h1
          cases h1
          exact h2
        subst hcls
        refine ⟨T.te, fun e he => ⟨rfl, ?_⟩⟩
        have hlt2 : i < σ2.length := by rw [← r2.len]; exact hlt
        exact ⟨I2, M1, en1.set i none, fs, ⟨by rw [List.getElem?_set_self hlt2], _, x2⟩, S2, r2.unset i _, Sp_.mono (sp_un k) e2⟩
end
end DL
/-! The data layer, part 15: repr, membership, sorted. -/
namespace DL
open PySem PySem.Spec PyProof.Rows L2
section
variable {X : Cx} {W : WX} {K : PySem.W.Frag} {mg : Str → Option Value} {I I' : Ow} {H H' : Hp} {M M' : Store} {σ : L2.St} {en : Env}

/-! ### repr -/
def shOk (x : PyData) : Bool := x.showable && (!x.hasDict && (decide (x.depth ≤ 64) && decide (x.shown.length ≤ sizeLine)))
def rRepr (K : PySem.W.Frag) : List V → Hp → VK → Prop := fun xs H Q => ∃ x d, xs = [x] ∧ Dp K H x d ∧ shOk d = true ∧ Q (.str d.shown) H
theorem cr_repr (hg : X.A.guards = some []) (hu : X.A.units + 66 < cLine) : CallR X (.builtin "repr") (rRepr X.K) := by
  intro pins s σ H xs us Q I r h
  obtain ⟨x, d, rfl, hd, ok, q⟩ := h
  obtain ⟨u, rfl, rv⟩ := vals1 r
  unfold shOk at ok
  simp only [Bool.and_eq_true, Bool.not_eq_true', decide_eq_true_eq] at ok
  obtain ⟨o1, o2, o3, o4⟩ := ok
  obtain ⟨as, rd⟩ := Dp.reads I d x u hd rv
  cases rd with
  | none => exact PySem.P.repr_of_none ⟨.str _, H, I.tok _, ⟨_, rfl⟩, q⟩
  | bool b => exact PySem.P.repr_of_bool ⟨.str _, H, I.tok _, ⟨_, rfl⟩, q⟩
  | int i t => exact PySem.P.repr_of_int (by simpa [PyData.showable] using o1) ⟨.str _, H, I.tok _, ⟨_, rfl⟩, q⟩
  | str y t => exact PySem.P.repr_of_str ⟨.str _, H, I.tok _, ⟨_, rfl⟩, q⟩ (by simpa only [PyData.shown] using o4)
  | list h1 h2 h3 h4 => exact repr_of_reads' (h₀ := s.heap) (Reads.list h1 h2 h3 h4) o1 (fun z => by rw [o2] at z; cases z) hg (by omega) (fun _ _ e => e) (fun h' u tk hk => ⟨.str _, H, I.kept hk, ⟨_, rfl⟩, q⟩) o4
  | tuple h1 h2 h3 h4 => exact repr_of_reads' (h₀ := s.heap) (Reads.tuple h1 h2 h3 h4) o1 (fun z => by rw [o2] at z; cases z) hg (by omega) (fun _ _ e => e) (fun h' u tk hk => ⟨.str _, H, I.kept hk, ⟨_, rfl⟩, q⟩) o4
  | _ => simp [PyData.hasDict] at o2
def gRepr : List D → Store → Res D := fun xs M => match xs with
  | [d] => match toPyM M d with
    | some x => if shOk x = true then some (.ok (.str x.shown), M) else none
    | none => none
  | _ => none
theorem cd_repr : CallD K mg W gRepr (rRepr K) := by
  intro xs M I H us σ Q S r k
  unfold gRepr at k
  split at k
  · obtain ⟨u, rfl, h⟩ := reps1 r
    split at k
    · rename_i x q
      split at k
      · rename_i q2
        exact ⟨_, x, rfl, dpM_of S h q, q2, k.ok S rep_str⟩
      · exact k.elim
    · exact k.elim
  · exact k.elim
mutual
/-- none, bools, ints of fewer than 1920 bits, in lists and tuples -/
def plainPy : PyData → Bool
  | .none => true
  | .bool _ => true
  | .int i => decide (i.natAbs.log2 < 1920)
  | .list xs => plainPys xs
  | .tuple xs => plainPys xs
  | _ => false
def plainPys : List PyData → Bool
  | [] => true
  | x :: xs => plainPy x && plainPys xs
end
mutual
theorem plain_facts : ∀ {x : PyData}, plainPy x = true → x.showable = true ∧ x.hasDict = false ∧ x.leavesShort 1921 = true ∧ x.canLay0 = true
  | .none, _ => ⟨by simp [PyData.showable], by simp [PyData.hasDict], by simp [PyData.leavesShort], by simp [PyData.canLay0]⟩
  | .bool _, _ => ⟨by simp [PyData.showable], by simp [PyData.hasDict], by simp [PyData.leavesShort], by simp [PyData.canLay0]⟩
  | .int i, h => by
    simp only [plainPy, decide_eq_true_eq] at h
    exact ⟨by simp only [PyData.showable]; exact decide_eq_true h, by simp [PyData.hasDict], by simp only [PyData.leavesShort, PyData.shown]; exact decide_eq_true (int_text_len_1921 h), by simp [PyData.canLay0]⟩
  | .list xs, h => by
    simp only [plainPy] at h
    obtain ⟨a, b, c, d⟩ := plains_facts h
    exact ⟨by simp only [PyData.showable]; exact a, by simp only [PyData.hasDict]; exact b, by simp only [PyData.leavesShort]; exact c, by simp only [PyData.canLay0]; exact d⟩
  | .tuple xs, h => by
    simp only [plainPy] at h
    obtain ⟨a, b, c, d⟩ := plains_facts h
    exact ⟨by simp only [PyData.showable]; exact a, by simp only [PyData.hasDict]; exact b, by simp only [PyData.leavesShort]; exact c, by simp only [PyData.canLay0]; exact d⟩
  | .str _, h => by simp [plainPy] at h
  | .dict _, h => by simp [plainPy] at h
theorem plains_facts : ∀ {xs : List PyData}, plainPys xs = true → PyData.showableAll xs = true ∧ PyData.hasDictAll xs = false ∧ PyData.leavesShortAll 1921 xs = true ∧ PyData.canLayAll0 xs = true
  | [], _ => ⟨by simp [PyData.showableAll], by simp [PyData.hasDictAll], by simp [PyData.leavesShortAll], by simp [PyData.canLayAll0]⟩
  | x :: xs, h => by
    simp only [plainPys, Bool.and_eq_true] at h
    obtain ⟨a, b, c, d⟩ := plain_facts h.1
    obtain ⟨a', b', c', d'⟩ := plains_facts h.2
    exact ⟨by simp only [PyData.showableAll, a, a', Bool.and_self], by simp only [PyData.hasDictAll, b, b', Bool.or_self], by simp only [PyData.leavesShortAll, c, c', Bool.and_self], by simp only [PyData.canLayAll0, d, d', Bool.and_self]⟩
end
theorem shOk_of {x : PyData} (h : plainPy x = true) (hd : x.depth ≤ 64) (hb : x.bulk ≤ 8000) : shOk x = true := by
  obtain ⟨a, b, c, d⟩ := plain_facts h
  have e := PyData.shown_le_bulk 1921 (by omega) x c
  unfold shOk
  simp only [a, b, Bool.not_false, Bool.true_and, decide_eq_true hd]
  refine decide_eq_true (Nat.le_trans e ?_)
  rw [sizeLine_eq]
  omega
theorem shaped_of {x : PyData} (h : plainPy x = true) (hd : x.depth ≤ 64) : SeqAt.shaped x = true := by
  obtain ⟨a, b, c, d⟩ := plain_facts h
  show (x.canLay0 && decide (x.depth ≤ 64)) = true
  rw [d, decide_eq_true hd]
  rfl

/-! ### membership in a list or a tuple of data -/
def rInA (K : PySem.W.Frag) (neg : Bool) : R2 := fun x y H Q => ∃ d ds, Dp K H x d ∧ (Dp K H y (.list ds) ∨ Dp K H y (.tuple ds)) ∧ SeqAt.shaped d = true ∧ SeqAt.shaped (.list ds) = true ∧ Q (.bl (if neg = true then !(ds.any fun z => PyData.eqv z d) else ds.any fun z => PyData.eqv z d)) H
theorem op_inA (hu : X.A.units + 65 < cLine) : OpR X (compareOp .In) (rInA X.K false) := by
  intro pins s σ H x y v u Q I rx ry h
  obtain ⟨d, ds, hd, he, sd, se, q⟩ := h
  obtain ⟨as, r1⟩ := Dp.reads I d x v hd rx
  rcases he with he | he
  · obtain ⟨bs, r2⟩ := Dp.reads I (.list ds) y u he ry
    exact SeqAt.in_list_reads r2 r1 (SeqAt.canLay_of_shaped se) (SeqAt.canLay_of_shaped sd) (room_in_shaped sd hu) ⟨.bl _, H, I, rfl, q⟩
  · obtain ⟨bs, r2⟩ := Dp.reads I (.tuple ds) y u he ry
    exact SeqAt.in_tuple_reads r2 r1 (SeqAt.canLay_of_shaped se) (SeqAt.canLay_of_shaped sd) (room_in_shaped sd hu) ⟨.bl _, H, I, rfl, q⟩
theorem op_notInA (hu : X.A.units + 65 < cLine) : OpR X (compareOp .NotIn) (rInA X.K true) := by
  intro pins s σ H x y v u Q I rx ry h
  obtain ⟨d, ds, hd, he, sd, se, q⟩ := h
  obtain ⟨as, r1⟩ := Dp.reads I d x v hd rx
  rcases he with he | he
  · obtain ⟨bs, r2⟩ := Dp.reads I (.list ds) y u he ry
    exact SeqAt.notIn_list_reads r2 r1 (SeqAt.canLay_of_shaped se) (SeqAt.canLay_of_shaped sd) (room_in_shaped sd hu) ⟨.bl _, H, I, rfl, q⟩
  · obtain ⟨bs, r2⟩ := Dp.reads I (.tuple ds) y u he ry
    exact SeqAt.notIn_tuple_reads r2 r1 (SeqAt.canLay_of_shaped se) (SeqAt.canLay_of_shaped sd) (room_in_shaped sd hu) ⟨.bl _, H, I, rfl, q⟩
def gIn (neg : Bool) : D → D → Store → Res D := fun x y M => match toPyM M x, itemsOf M y with
  | some d, some es => match toPys es with
    | some ds => if (SeqAt.shaped d && SeqAt.shaped (.list ds)) = true then some (.ok (.bl (if neg = true then !(ds.any fun z => PyData.eqv z d) else ds.any fun z => PyData.eqv z d)), M) else none
    | none => none
  | _, _ => none
theorem opd_in {neg : Bool} : OpD K mg W (gIn neg) (rInA K neg) := by
  intro x y M I H u v σ Q S rx ry k
  unfold gIn at k
  split at k
  · rename_i d es h1 h2
    split at k
    · rename_i ds h3
      split at k
      · rename_i h4
        rw [Bool.and_eq_true] at h4
        obtain ⟨p, vs, rfl, hs, g⟩ := items_of S ry h2
        have hd := dps_of g h3
        refine ⟨d, ds, dpM_of S rx h1, ?_, h4.1, h4.2, k.ok S rep_bl⟩
        rcases hs with ⟨_, hs⟩ | hs
        · exact .inr (.tup hs hd)
        · exact .inl (.lst hs hd)
      · exact k.elim
    · exact k.elim
  · exact k.elim
theorem gIn_bl {neg : Bool} : ∀ a b M x M', gIn neg a b M = some (.ok x, M') → ∃ b, x = .bl b := by
  intro a b M x M' h
  unfold gIn at h
  split at h
  · split at h
    · split at h
      · cases h; exact ⟨_, rfl⟩
      · cases h
    · cases h
  · cases h
theorem gEq_bl {neg : Bool} : ∀ a b M x M', gEq neg a b M = some (.ok x, M') → ∃ b, x = .bl b := by
  intro a b M x M' h
  unfold gEq at h
  split at h
  · cases h; exact ⟨_, rfl⟩
  · split at h
    · cases h; exact ⟨_, rfl⟩
    · cases h

/-! ### sorted of data that are alike -/
def SrtOk (xs : List PyData) : Prop := PySem.W.AllAlike xs ∧ PySem.W.Sortable xs ∧ (∀ x ∈ xs, x.depth ≤ 60) ∧ xs.length ≤ 16777216
def rSortD (K : PySem.W.Frag) : List V → Hp → VK → Prop := fun xs H Q => ∃ (a : Addr) (vs : List V) (ps : List (V × PyData)), xs = [.ref a] ∧ SqL K H a vs ∧ ps.map (·.1) = vs ∧ DpAll K H vs (ps.map (·.2)) ∧ SrtOk (ps.map (·.2)) ∧
  ∀ p, H p = none → Q (.ref p) (upd H p (.lst ((ps.mergeSort (PySem.W.dataLe false (·.2))).map (·.1))))
theorem each_zip : ∀ {us : List Value} {ps : List (V × PyData)}, Vals (ps.map (·.1)) us → PySem.W.EachIs (fun (u : Value) (p : V × PyData) => RelV p.1 u) us ps
  | [], [], _ => .nil
  | u :: us, [], r => by cases r
  | [], p :: ps, r => by cases r
  | u :: us, p :: ps, r => by
    cases r with
    | cons r1 r2 => exact .cons r1 (each_zip r2)
theorem each_back : ∀ {us : List Value} {ps : List (V × PyData)}, PySem.W.EachIs (fun (u : Value) (p : V × PyData) => RelV p.1 u) us ps → Vals (ps.map (·.1)) us
  | _, _, .nil => .nil
  | _, _, .cons r rs => .cons r (each_back rs)
theorem each_reads {pins : List (Addr × Obj)} {s : Shared} {σ : L2.St} {H : Hp} (I : Inv X pins σ H s) : ∀ {us : List Value} {ps : List (V × PyData)}, Vals (ps.map (·.1)) us → DpAll X.K H (ps.map (·.1)) (ps.map (·.2)) →
    PySem.W.EachIs (fun (u : Value) (p : V × PyData) => ∃ as, Reads s.heap u p.2 as) us ps
  | [], [], _, _ => .nil
  | u :: us, [], r, _ => by cases r
  | [], p :: ps, r, _ => by cases r
  | u :: us, p :: ps, r, d => by
    cases r with
    | cons r1 r2 =>
      cases d with
      | cons d1 d2 => exact .cons (Dp.reads I p.2 p.1 u d1 r1) (each_reads I r2 d2)
theorem cr_sortD (hu : X.A.units + 66 < cLine) : CallR X (.builtin "sorted") (rSortD X.K) := by
  intro pins s σ H xs us Q I r h
  obtain ⟨a, vs, ps, rfl, hs, rfl, hd, ⟨o1, o2, o3, o4⟩, q⟩ := h
  obtain ⟨its, rv, pl, hz⟩ := I.list hs
  obtain ⟨u, rfl, ru⟩ := vals1 r
  cases ru
  refine PySem.W.sorted_data (enc := fun p : V × PyData => p.2) (R := fun (u : Value) (p : V × PyData) => RelV p.1 u) (bs := ps) pl.isList (each_zip rv) (each_reads I rv hd) o1 o2 (by rw [sizeLine_eq]; simpa using o4) (fun b hb => by have := o3 b.2 (List.mem_map_of_mem hb); omega) fun out ho eo => ?_
  obtain ⟨c, hc⟩ := sortedAll_at s.heap its out.toArray
  have rb := each_back eo
  have hlen : ((ps.mergeSort (PySem.W.dataLe false fun p => p.2)).map (·.1)).length ≤ sizeLine := by
    rw [List.length_map, List.length_mergeSort, sizeLine_eq]; simpa using o4
  exact ⟨.ref _, upd H (s.heap.objs.size + 1) (.lst ((ps.mergeSort (PySem.W.dataLe false fun p => p.2)).map (·.1))), I.laid (t' := s.toks) (fun _ _ => sortedAll_old) (Nat.le_succ _) ⟨hlen, out, c, rb, by simpa using hc⟩, rfl, q _ (I.hok.fresh (Nat.le_succ _))⟩
open Classical in
noncomputable def gSort : List D → Store → Res D := fun xs M => match xs with
  | [d] => match itemsOf M d with
    | some ds => match toPys ds with
      | some ys => if SrtOk ys ∧ (∀ es, d ≠ .tup es) then some (.ok (.imm (((ds.zip ys).mergeSort (PySem.W.dataLe false (·.2))).map (·.1))), M) else none
      | none => none
    | none => none
  | _ => none
theorem reps_all {α : Type} {f : α → D} {g : α → V} : ∀ {ts : List α}, (∀ t ∈ ts, Rep K I H (f t) (g t)) → Reps K I H (ts.map f) (ts.map g)
  | [], _ => by simp [Reps]
  | t :: ts, h => Reps.cons (h t List.mem_cons_self) (reps_all fun t' h' => h t' (List.mem_cons_of_mem _ h'))
/-- value, data and reading side by side -/
theorem three : ∀ {ds : List D} {vs : List V} {ys : List PyData}, Reps K I H ds vs → toPys ds = some ys →
    ∃ ts : List ((V × D) × PyData), vs = ts.map (·.1.1) ∧ ds = ts.map (·.1.2) ∧ ys = ts.map (·.2) ∧ ∀ t ∈ ts, Rep K I H t.1.2 t.1.1
  | [], vs, ys, r, e => by
    simp only [Reps] at r
    simp only [toPys, Option.some.injEq] at e
    exact ⟨[], by simp [r], rfl, by simp [← e], fun t h => nomatch h⟩
  | d :: ds, vs, ys, r, e => by
    simp only [Reps] at r
    obtain ⟨v, us, rfl, h2, h3⟩ := r
    simp only [toPys] at e
    split at e
    · rename_i y ys' e1 e2
      cases e
      obtain ⟨ts, q1, q2, q3, q4⟩ := three h3 e2
      refine ⟨((v, d), y) :: ts, by simp [q1], by simp [q2], by simp [q3], fun t h => ?_⟩
      rcases List.mem_cons.mp h with rfl | h
      · exact h2
      · exact q4 t h
    · cases e
theorem sort_map {α β : Type} {f : α → β} {k : β → PyData} (ts : List α) : (ts.map f).mergeSort (PySem.W.dataLe false k) = (ts.mergeSort (PySem.W.dataLe false fun t => k (f t))).map f :=
  (List.map_mergeSort (f := f) fun _ _ _ _ => rfl).symm
theorem cd_sort : CallD K mg W gSort (rSortD K) := by
  intro xs M I H us σ Q S r k
  unfold gSort at k
  split at k
  · rename_i d
    obtain ⟨u, rfl, h⟩ := reps1 r
    split at k
    · rename_i ds q
      split at k
      · rename_i ys q2
        split at k
        · rename_i q3
          obtain ⟨p, vs, rfl, hs, g⟩ := items_of S h q
          have hl : SqL K H p vs := by
            rcases hs with ⟨⟨es, z⟩, _⟩ | hs
            · exact absurd z (q3.2 es)
            · exact hs
          obtain ⟨ts, e1, e2, e3, e4⟩ := three g q2
          have hz : ds.zip ys = ts.map fun t => (t.1.2, t.2) := by rw [e2, e3, List.zip_map']
          have hm2 : (ts.map fun t => (t.1.1, t.2)).map (·.2) = ys := by rw [e3]; simp
          have hm1 : (ts.map fun t => (t.1.1, t.2)).map (·.1) = vs := by rw [e1]; simp
          refine ⟨p, vs, ts.map fun t => (t.1.1, t.2), rfl, hl, hm1, by rw [hm2]; exact dps_of g q2, by rw [hm2]; exact q3.1, fun l hl => ?_⟩
          rw [hz, sort_map] at k
          rw [sort_map]
          refine k.ok' (Ext.new hl) (S.new hl) ?_
          rw [List.map_map, List.map_map]
          refine rep_newL S hl (reps_all fun t ht => ?_)
          exact e4 t (List.mem_mergeSort.mp ht)
        · exact k.elim
      · exact k.elim
    · exact k.elim
  · exact k.elim
end
end DL
/-! The data layer, part 16: the law's own call. -/
namespace DL
open PySem PySem.Spec PyProof.Rows L2
def noneOw : Ow := ⟨[], [], []⟩
section
variable {P : Program} {w : World} {K : PySem.W.Frag} {mg mb : Str → Option Value} {k : Nat} {fa a : Addr} {fd : FuncData} {x : Str} {m : MF} {s₁ : Shared} {vs : List Value} {ns : List Int} {M' : Store}
/-- the script as it is handed in -/
def scrObj (vs : List Value) : Obj := { cls := .type "list", data := .seq vs.toArray }
/-- nothing is tracked but the script, unless it is one of the module's own objects -/
def scrHp (K : PySem.W.Frag) (a : Addr) (vs : List Value) (ns : List Int) : Hp := fun b => if K.lookup a = none ∧ b = a then some (.frz (scrObj vs) (.lst (ns.map V.int))) else none
theorem scrHp_in {b : Addr} {o : HO} (h : scrHp K a vs ns b = some o) : K.lookup a = none ∧ b = a ∧ o = .frz (scrObj vs) (.lst (ns.map V.int)) := by
  unfold scrHp at h
  split at h
  · rename_i q
    exact ⟨q.1, q.2, (Option.some.inj h).symm⟩
  · cases h
theorem scrHp_ok (ha : s₁.heap.get? a = some (scrObj vs)) (hi : IntsAre vs ns) (hl : ns.length ≤ sizeLine) : HOk P w (scrHp K a vs ns) s₁.heap := by
  intro b o hb
  obtain ⟨_, rfl, rfl⟩ := scrHp_in hb
  exact ⟨ha, by rw [List.length_map]; exact hl, vs, _, vals_ints hi, ha⟩
theorem scrHp_is (KX : K.In s₁.heap) (ha : s₁.heap.get? a = some (scrObj vs)) (hi : IntsAre vs ns) (hl : ns.length ≤ sizeLine) : LstA K noneOw (scrHp K a vs ns) a (ns.map V.int) := by
  have rv := vals_ints hi
  have ln := hi.length
  cases q : K.lookup a with
  | none => exact .inl ⟨.inr ⟨_, if_pos ⟨q, rfl⟩⟩, by simp [Ow.Free, noneOw]⟩
  | some o =>
    have at_ := KX a o q
    rw [ha] at at_
    cases at_
    exact .inr ⟨_, vs.toArray, _, q, rfl, rfl, rfl, by rw [List.size_toArray, ln]; exact hl, by simpa using rv⟩
theorem law_callG (KX : K.In s₁.heap) (hns : s₁.heap.Ns mainGlobals mg) (hb : s₁.heap.Ns builtinsNs mb) (hbb : ∀ x : Str, x ≠ "__name__" → mb x = bootBuiltins x) (hlim : s₁.heap.NoLimit) (hg : s₁.gens = #[])
    (ha : s₁.heap.get? a = some { cls := .type "list", data := .seq vs.toArray }) (hi : IntsAre vs ns) (hl : ns.length ≤ sizeLine) (hr : Room k callerA)
    (F : ∀ base : Heap, K.In base → base.Ns mainGlobals mg → FnG P w K mg base k fa fd [x] m) (hbind : ∀ (s : Shared) (u : Value), BindsTo s fd ⟨[u], []⟩ [(x, u)])
    (hm : m [.scr (ns.map .int)] [] = some (.ok (.bl true), M')) :
    codeAny (model P w) callerA (.call (.ref fa) ⟨[.ref a], []⟩) (fun r s' => r = .ok (.ret (.bool true)) ∧ OldK s₁.heap s'.heap ∧ s'.os = s₁.os ∧ AllBare s'.gens) s₁ := by
  obtain ⟨H, hH⟩ : ∃ H, H = scrHp K a vs ns := ⟨_, rfl⟩
  have inH : ∀ {b : Addr} {o : HO}, H b = some o → K.lookup a = none ∧ b = a ∧ o = .frz (scrObj vs) (.lst (ns.map V.int)) := fun {b o} q => scrHp_in (by rw [← hH]; exact q)
  have okH : HOk P w H s₁.heap := by rw [hH]; exact scrHp_ok ha hi hl
  have isH : LstA K noneOw H a (ns.map V.int) := by rw [hH]; exact scrHp_is KX ha hi hl
  -- what is not tracked stands in the base
  have stays : ∀ {b : Addr} {o : Obj}, s₁.heap.get? b = some o → H b = none → (hidT s₁.heap H).get? b = some o := fun e n => hidT_get e n
  have dicts : ∀ {b : Addr} {o : Obj} {es : Array DictEntry} {ep : Nat}, s₁.heap.get? b = some o → o.data = .dict es ep → H b = none := by
    intro b o es ep e dt
    cases q : H b with
    | none => rfl
    | some u =>
      obtain ⟨_, rfl, _⟩ := inH q
      rw [ha] at e
      cases e
      cases dt
  have spaces : ∀ {b : Addr} {mm : Str → Option Value}, s₁.heap.Ns b mm → (hidT s₁.heap H).Ns b mm := by
    intro b mm ⟨o, es, ep, e, dt, rest⟩
    exact ⟨o, es, ep, stays e (dicts e dt), dt, rest⟩
  have baseK : K.In (hidT s₁.heap H) := by
    intro b o e
    refine stays (KX b o e) ?_
    cases q : H b with
    | none => rfl
    | some u =>
      obtain ⟨z, rfl, _⟩ := inH q
      rw [z] at e
      cases e
  have limB : (hidT s₁.heap H).NoLimit := by
    obtain ⟨mc, l1, l2⟩ := hlim
    exact ⟨mc, spaces l1, l2⟩
  have modB : Mod K mg (hidT s₁.heap H) := ⟨baseK, spaces hns, ⟨mb, spaces hb, hbb⟩, limB⟩
  have env0 : Env0 P w K mg (hidT s₁.heap H) callerA [] s₁ H := ⟨rfl, modB, fun b o e => of_hidT e, Nat.le_of_eq (hidT_size _ _), trivial, (fun b z => absurd (show b ∈ ([] : List Addr) from z) (by simp)), okH, .of_eq hg⟩
  have arg : Reps K noneOw H [.scr (ns.map .int)] [.ref a] := by
    refine Reps.one ?_
    simp only [Rep]
    refine ⟨a, ns.map V.int, rfl, isH, ?_⟩
    exact reps_all (f := D.int) (g := V.int) fun t _ => rep_int
  have sto0 : Sto K noneOw H [] := ⟨rfl, List.nodup_nil, fun n b ds h => by simp [noneOw, Ow.At] at h, fun n b ds h => by simp [noneOw, Ow.AtD] at h, fun b z => by simp [noneOw] at z, fun b z => by simp [noneOw] at z⟩
  have spec : spM K mg m [.ref a] H (fun v _ => v = .bl true) (fun _ _ _ => False) := by
    refine ⟨noneOw, [], _, sto0, arg, ?_⟩
    rw [hm]
    intro I2 H2 v e S r
    simpa only [Rep] using r
  refine codeAny_mono ((F _ baseK (spaces hns)).run callerA [] s₁ H ⟨[.ref a], []⟩ [.ref a] [.ref a] _ _ hr rfl env0 (hbind s₁ (.ref a)) (.cons rfl .nil) spec) fun r s' res => ?_
  match r, res with
  | .error e, res =>
    obtain ⟨_, _, _, _, _, _, _, _, _, _, _, _, z⟩ := res
    exact z.elim
  | .ok (.ret u), res =>
    obtain ⟨v, H', osE, bareE, unE, okE, relE, isT⟩ := res
    have isT : v = .bl true := isT
    subst isT
    obtain rfl : u = Value.bool true := relE
    refine ⟨rfl, OldK.of_keep fun b o at_ => ?_, osE, bareE⟩
    cases q : H b with
    | none => exact unE.keep b o at_ q (fun z => absurd (show b ∈ ([] : List Addr) from z) (by simp)) (by simp)
    | some ho =>
      obtain ⟨_, rfl, rfl⟩ := inH q
      obtain ⟨at2, _⟩ := okE b _ (unE.frzs b _ _ q)
      rw [ha] at at_
      cases at_
      exact at2
  | .ok .next, res => exact res.elim
  | .ok .brk, res => exact res.elim
  | .ok .cont, res => exact res.elim
end
/-- what k_head leaves, from the law's mirror -/
theorem walk_G {l : PySem.W.OpenLaw} {n k : Nat} {q : Program} {loose : List Str} {XP : (Str → Option Value) → Heap → Prop} {YP : World → Heap → Prop} {d : DefRec} {K : Params → PySem.W.Frag} {x : Str} (m : MF)
    (hn : l.most = some n) (hn2 : n ≤ sizeLine) (hdf : d.params.defaults = []) (hr : Room k callerA) (hY : ∀ (w : World) (h : Heap), YP w h → (K w.params).In h)
    (F : ∀ (w : World) (mg : Str → Option Value) (fa : Addr) (h : Heap), (K w.params).In h → h.Ns mainGlobals mg → mg d.name = some (.ref fa) →
      ∃ fd : FuncData, (∀ (s : Shared) (u : Value), BindsTo s fd ⟨[u], []⟩ [(x, u)]) ∧ ∀ base : Heap, (K w.params).In base → base.Ns mainGlobals mg → FnG l.prog w (K w.params) mg base k fa fd [x] m)
    (hm : ∀ ns : List Int, ns.length ≤ n → ∃ M', m [.scr (ns.map .int)] [] = some (.ok (.bl true), M')) :
    PySem.W.WalkO q loose XP YP l.row.toRowW d [] (fun f vs => PySem.call f vs) := by
  refine Att.attach_call hn hdf fun w s₀ s₁ mg mb fa o pm cd doc a vs ns G Y ho hd hcd hmg hobj hints hlen hg => ?_
  have KX := hY w _ Y
  obtain ⟨fd, hbd, hF⟩ := F w mg fa _ KX G.T.g hmg
  obtain ⟨M', e⟩ := hm ns hlen
  exact law_callG KX G.T.g G.T.b G.T.builtins G.T.nolimit hg hobj hints (Nat.le_trans hlen hn2) hr hF hbd e
end DL
/-! The data layer, part 17: the rules in short, as a program prints them. -/
namespace DL
open PySem PySem.Spec PyProof.Rows L2
section
variable {X : Cx} {W : WX} {a b c d e : Expr} {es rest : List Expr} {pos p : Pos} {fa fb fc fd : EF} {fr : AF} {t u : TF} {k j : Nat}
theorem vr (i : Nat) {x : Str} {pos : Pos} (hN : X.N[i]? = some x := by rfl) (hv : Vis X.env.scope x := by first | exact Or.inl rfl | exact Or.inr (Or.inl rfl) | exact Or.inr (Or.inr rfl)) (hd : (x == ("__debug__" : Str)) = false := by decide)
    (hcd : (x == ("__classdict__" : Str)) = false := by decide) : EvE X W (.Name x pos) (cVar i) := ev_var hN hv hd hcd
theorem hu66 {A : Around} (h : Room k A) : A.units + 66 < cLine := by have := h.un; omega
theorem hu65 {A : Around} (h : Room k A) : A.units + 65 < cLine := by have := h.un; omega
theorem hu64 {A : Around} (h : Room k A) : A.units + 64 < cLine := by have := h.un; omega
/-- a built-in type's name -/
theorem ty_int (z : X.mg "int" = none) (hg : Gl X "int" := by rfl) : EvE X W (.Name "int" pos) (cC (.ty "int")) := ev_c (pe_bltn (v := .ty "int") (u := .type "int") hg z (by rfl) rfl) fun _ _ => by simp only [Rep]
theorem ty_bool (z : X.mg "bool" = none) (hg : Gl X "bool" := by rfl) : EvE X W (.Name "bool" pos) (cC (.ty "bool")) := ev_c (pe_bltn (v := .ty "bool") (u := .type "bool") hg z (by rfl) rfl) fun _ _ => by simp only [Rep]
theorem ty_tuple (z : X.mg "tuple" = none) (hg : Gl X "tuple" := by rfl) : EvE X W (.Name "tuple" pos) (cC (.ty "tuple")) := ev_c (pe_bltn (v := .ty "tuple") (u := .type "tuple") hg z (by rfl) rfl) fun _ _ => by simp only [Rep]
theorem ty_str (z : X.mg "str" = none) (hg : Gl X "str" := by rfl) : EvE X W (.Name "str" pos) (cC (.ty "str")) := ev_c (pe_bltn (v := .ty "str") (u := .type "str") hg z (by rfl) rfl) fun _ _ => by simp only [Rep]
theorem ty_list (z : X.mg "list" = none) (hg : Gl X "list" := by rfl) : EvE X W (.Name "list" pos) (cC (.ty "list")) := ev_c (pe_bltn (v := .ty "list") (u := .type "list") hg z (by rfl) rfl) fun _ _ => by simp only [Rep]
theorem b_len (z : X.mg "len" = none) (ha : EvA X W (e :: es) fr) (hg : Gl X "len" := by rfl) (he : starEach (e :: es) X.env = (false, eval e X.env) :: starEach es X.env := by rfl) (hpl : (backTo pos (starEach es X.env)).any (·.1) = false := by rfl) :
    EvE X W (.Call (.Name "len" p) (e :: es) [] pos) (cCall gLen fr) := ev_callB call_len cd_len hg z (by rfl) ha (by decide) (by decide) he hpl
theorem b_tuple (z : X.mg "tuple" = none) (ha : EvA X W (e :: es) fr) (hg : Gl X "tuple" := by rfl) (he : starEach (e :: es) X.env = (false, eval e X.env) :: starEach es X.env := by rfl) (hpl : (backTo pos (starEach es X.env)).any (·.1) = false := by rfl) :
    EvE X W (.Call (.Name "tuple" p) (e :: es) [] pos) (cCall gTuple fr) := ev_callTy call_tuple_of cd_tuple hg z (by rfl) ha (by decide) (by decide) he hpl
theorem b_list (z : X.mg "list" = none) (ha : EvA X W (e :: es) fr) (hg : Gl X "list" := by rfl) (he : starEach (e :: es) X.env = (false, eval e X.env) :: starEach es X.env := by rfl) (hpl : (backTo pos (starEach es X.env)).any (·.1) = false := by rfl) :
    EvE X W (.Call (.Name "list" p) (e :: es) [] pos) (cCall gList fr) := ev_callTy call_list_of cd_list hg z (by rfl) ha (by decide) (by decide) he hpl
theorem b_listC (z : X.mg "list" = none) (ha : EvA X W (e :: es) fr) (hg : Gl X "list" := by rfl) (he : starEach (e :: es) X.env = (false, eval e X.env) :: starEach es X.env := by rfl) (hpl : (backTo pos (starEach es X.env)).any (·.1) = false := by rfl) :
    EvE X W (.Call (.Name "list" p) (e :: es) [] pos) (cCall gListC fr) := ev_callTy call_list_of cd_listC hg z (by rfl) ha (by decide) (by decide) he hpl
theorem b_sum (z : X.mg "sum" = none) (ha : EvA X W (e :: es) fr) (hc : X.calm = true := by rfl) (hg : Gl X "sum" := by rfl) (he : starEach (e :: es) X.env = (false, eval e X.env) :: starEach es X.env := by rfl) (hpl : (backTo pos (starEach es X.env)).any (·.1) = false := by rfl) :
    EvE X W (.Call (.Name "sum" p) (e :: es) [] pos) (cCall gSum fr) := ev_callB (cr_sum hc) cd_sum hg z (by rfl) ha (by decide) (by decide) he hpl
theorem b_any (z : X.mg "any" = none) (ha : EvA X W (e :: es) fr) (hc : X.calm = true := by rfl) (hg : Gl X "any" := by rfl) (he : starEach (e :: es) X.env = (false, eval e X.env) :: starEach es X.env := by rfl) (hpl : (backTo pos (starEach es X.env)).any (·.1) = false := by rfl) :
    EvE X W (.Call (.Name "any" p) (e :: es) [] pos) (cCall gAny fr) := ev_callB (cr_any hc) cd_any hg z (by rfl) ha (by decide) (by decide) he hpl
theorem b_all (z : X.mg "all" = none) (ha : EvA X W (e :: es) fr) (hc : X.calm = true := by rfl) (hg : Gl X "all" := by rfl) (he : starEach (e :: es) X.env = (false, eval e X.env) :: starEach es X.env := by rfl) (hpl : (backTo pos (starEach es X.env)).any (·.1) = false := by rfl) :
    EvE X W (.Call (.Name "all" p) (e :: es) [] pos) (cCall gAll fr) := ev_callB (cr_all hc) cd_all hg z (by rfl) ha (by decide) (by decide) he hpl
theorem b_abs (z : X.mg "abs" = none) (ha : EvA X W (e :: es) fr) (hg : Gl X "abs" := by rfl) (he : starEach (e :: es) X.env = (false, eval e X.env) :: starEach es X.env := by rfl) (hpl : (backTo pos (starEach es X.env)).any (·.1) = false := by rfl) :
    EvE X W (.Call (.Name "abs" p) (e :: es) [] pos) (cCall gAbs fr) := ev_callB call_abs cd_abs hg z (by rfl) ha (by decide) (by decide) he hpl
theorem b_int (z : X.mg "int" = none) (ha : EvA X W (e :: es) fr) (hg : Gl X "int" := by rfl) (he : starEach (e :: es) X.env = (false, eval e X.env) :: starEach es X.env := by rfl) (hpl : (backTo pos (starEach es X.env)).any (·.1) = false := by rfl) :
    EvE X W (.Call (.Name "int" p) (e :: es) [] pos) (cCall gInt fr) := ev_callTy call_int1 cd_int hg z (by rfl) ha (by decide) (by decide) he hpl
theorem b_max (z : X.mg "max" = none) (ha : EvA X W (e :: es) fr) (hc : X.calm = true := by rfl) (hg : Gl X "max" := by rfl) (he : starEach (e :: es) X.env = (false, eval e X.env) :: starEach es X.env := by rfl) (hpl : (backTo pos (starEach es X.env)).any (·.1) = false := by rfl) :
    EvE X W (.Call (.Name "max" p) (e :: es) [] pos) (cCall gMax fr) := ev_callB (cr_maxA hc) cd_max hg z (by rfl) ha (by decide) (by decide) he hpl
theorem b_min (z : X.mg "min" = none) (ha : EvA X W (e :: es) fr) (hc : X.calm = true := by rfl) (hg : Gl X "min" := by rfl) (he : starEach (e :: es) X.env = (false, eval e X.env) :: starEach es X.env := by rfl) (hpl : (backTo pos (starEach es X.env)).any (·.1) = false := by rfl) :
    EvE X W (.Call (.Name "min" p) (e :: es) [] pos) (cCall gMin fr) := ev_callB (cr_minA hc) cd_min hg z (by rfl) ha (by decide) (by decide) he hpl
theorem b_isinstance (z : X.mg "isinstance" = none) (ha : EvA X W (e :: es) fr) (hg : Gl X "isinstance" := by rfl) (he : starEach (e :: es) X.env = (false, eval e X.env) :: starEach es X.env := by rfl) (hpl : (backTo pos (starEach es X.env)).any (·.1) = false := by rfl) :
    EvE X W (.Call (.Name "isinstance" p) (e :: es) [] pos) (cCall gIsi fr) := ev_callB call_isi cd_isi hg z (by rfl) ha (by decide) (by decide) he hpl
theorem b_repr (hr : Room k X.A) (hgd : X.A.guards = some []) (z : X.mg "repr" = none) (ha : EvA X W (e :: es) fr) (hg : Gl X "repr" := by rfl) (he : starEach (e :: es) X.env = (false, eval e X.env) :: starEach es X.env := by rfl) (hpl : (backTo pos (starEach es X.env)).any (·.1) = false := by rfl) :
    EvE X W (.Call (.Name "repr" p) (e :: es) [] pos) (cCall gRepr fr) := ev_callB (cr_repr hgd (hu66 hr)) cd_repr hg z (by rfl) ha (by decide) (by decide) he hpl
theorem b_sorted (hr : Room k X.A) (z : X.mg "sorted" = none) (ha : EvA X W (e :: es) fr) (hg : Gl X "sorted" := by rfl) (he : starEach (e :: es) X.env = (false, eval e X.env) :: starEach es X.env := by rfl) (hpl : (backTo pos (starEach es X.env)).any (·.1) = false := by rfl) :
    EvE X W (.Call (.Name "sorted" p) (e :: es) [] pos) (cCall gSort fr) := ev_callB (cr_sortD (hu66 hr)) cd_sort hg z (by rfl) ha (by decide) (by decide) he hpl
theorem gIsN_bl {neg : Bool} : ∀ a b M x M', gIsN neg a b M = some (.ok x, M') → ∃ b, x = .bl b := by
  intro a b M x M' h
  unfold gIsN at h
  split at h
  · cases h; exact ⟨_, rfl⟩
  · cases h
theorem gIsB_bl {neg : Bool} : ∀ a b M x M', gIsB neg a b M = some (.ok x, M') → ∃ b, x = .bl b := by
  intro a b M x M' h
  unfold gIsB at h
  split at h
  · cases h; exact ⟨_, rfl⟩
  · cases h
theorem gI2_bl {C : Int → Int → Bool} {p : Int → Int → Bool} : ∀ a b M x M', gI C (fun i j => .bl (p i j)) a b M = some (.ok x, M') → ∃ b, x = .bl b := by
  intro a b M x M' h
  unfold gI at h
  split at h
  · split at h
    · cases h; exact ⟨_, rfl⟩
    · cases h
  · cases h
theorem o_add (ha : EvE X W a fa) (hb : EvE X W b fb) : EvE X W (.BinOp a .Add b pos) (cOp gAddA fa fb) := ev_op op_addA opd_addA ha hb
theorem o_sub (ha : EvE X W a fa) (hb : EvE X W b fb) : EvE X W (.BinOp a .Sub b pos) (cOp gSub fa fb) := ev_op op_sub opd_sub ha hb
theorem o_mul (ha : EvE X W a fa) (hb : EvE X W b fb) : EvE X W (.BinOp a .Mult b pos) (cOp gMul fa fb) := ev_op op_mulC opd_mul ha hb
theorem o_fdiv (ha : EvE X W a fa) (hb : EvE X W b fb) : EvE X W (.BinOp a .FloorDiv b pos) (cOp gDiv fa fb) := ev_op op_fdivW opd_div ha hb
theorem o_mod (ha : EvE X W a fa) (hb : EvE X W b fb) : EvE X W (.BinOp a .Mod b pos) (cOp gMod fa fb) := ev_op op_mod opd_mod ha hb
theorem o_pow (ha : EvE X W a fa) (hb : EvE X W b fb) : EvE X W (.BinOp a .Pow b pos) (cOp gPow fa fb) := ev_op op_pow opd_pow ha hb
theorem o_shl (ha : EvE X W a fa) (hb : EvE X W b fb) : EvE X W (.BinOp a .LShift b pos) (cOp gShl fa fb) := ev_op op_shl opd_shl ha hb
theorem o_neg (ha : EvE X W a fa) : EvE X W (.UnaryOp .USub a pos) (cUn gNeg fa) := ev_un un_neg und_neg ha
theorem q_lt (ha : EvE X W a fa) (hb : EvE X W b fb) : EvE X W (.Compare a [.Lt] [b] pos) (cOp gLt fa fb) := ev_cmp op_lt opd_lt ha hb (nomark _)
theorem t_lt (ha : EvE X W a fa) (hb : EvE X W b fb) : EvT X W (.Compare a [.Lt] [b] pos) (cTru (cOp gLt fa fb)) := et_cmp op_lt opd_lt gI2_bl ha hb (nomark _)
theorem q_le (ha : EvE X W a fa) (hb : EvE X W b fb) : EvE X W (.Compare a [.LtE] [b] pos) (cOp gLe fa fb) := ev_cmp op_le opd_le ha hb (nomark _)
theorem t_le (ha : EvE X W a fa) (hb : EvE X W b fb) : EvT X W (.Compare a [.LtE] [b] pos) (cTru (cOp gLe fa fb)) := et_cmp op_le opd_le gI2_bl ha hb (nomark _)
theorem q_gt (ha : EvE X W a fa) (hb : EvE X W b fb) : EvE X W (.Compare a [.Gt] [b] pos) (cOp gGt fa fb) := ev_cmp op_gt opd_gt ha hb (nomark _)
theorem t_gt (ha : EvE X W a fa) (hb : EvE X W b fb) : EvT X W (.Compare a [.Gt] [b] pos) (cTru (cOp gGt fa fb)) := et_cmp op_gt opd_gt gI2_bl ha hb (nomark _)
theorem q_ge (ha : EvE X W a fa) (hb : EvE X W b fb) : EvE X W (.Compare a [.GtE] [b] pos) (cOp gGe fa fb) := ev_cmp op_ge opd_ge ha hb (nomark _)
theorem t_ge (ha : EvE X W a fa) (hb : EvE X W b fb) : EvT X W (.Compare a [.GtE] [b] pos) (cTru (cOp gGe fa fb)) := et_cmp op_ge opd_ge gI2_bl ha hb (nomark _)
theorem q_eq (hr : Room k X.A) (ha : EvE X W a fa) (hb : EvE X W b fb) : EvE X W (.Compare a [.Eq] [b] pos) (cOp (gEq false) fa fb) := ev_cmp (op_eqA (hu64 hr)) opd_eq ha hb (nomark _)
theorem t_eq (hr : Room k X.A) (ha : EvE X W a fa) (hb : EvE X W b fb) : EvT X W (.Compare a [.Eq] [b] pos) (cTru (cOp (gEq false) fa fb)) := et_cmp (op_eqA (hu64 hr)) opd_eq gEq_bl ha hb (nomark _)
theorem q_ne (hr : Room k X.A) (ha : EvE X W a fa) (hb : EvE X W b fb) : EvE X W (.Compare a [.NotEq] [b] pos) (cOp (gEq true) fa fb) := ev_cmp (op_neA (hu64 hr)) opd_ne ha hb (nomark _)
theorem t_ne (hr : Room k X.A) (ha : EvE X W a fa) (hb : EvE X W b fb) : EvT X W (.Compare a [.NotEq] [b] pos) (cTru (cOp (gEq true) fa fb)) := et_cmp (op_neA (hu64 hr)) opd_ne gEq_bl ha hb (nomark _)
theorem q_in (hr : Room k X.A) (ha : EvE X W a fa) (hb : EvE X W b fb) (hm : behindInMarks .In b = false := by with_unfolding_all rfl) : EvE X W (.Compare a [.In] [b] pos) (cOp (gIn false) fa fb) := ev_cmp (op_inA (hu65 hr)) opd_in ha hb hm
theorem t_in (hr : Room k X.A) (ha : EvE X W a fa) (hb : EvE X W b fb) (hm : behindInMarks .In b = false := by with_unfolding_all rfl) : EvT X W (.Compare a [.In] [b] pos) (cTru (cOp (gIn false) fa fb)) := et_cmp (op_inA (hu65 hr)) opd_in gIn_bl ha hb hm
theorem q_notin (hr : Room k X.A) (ha : EvE X W a fa) (hb : EvE X W b fb) (hm : behindInMarks .NotIn b = false := by with_unfolding_all rfl) : EvE X W (.Compare a [.NotIn] [b] pos) (cOp (gIn true) fa fb) := ev_cmp (op_notInA (hu65 hr)) opd_in ha hb hm
theorem t_notin (hr : Room k X.A) (ha : EvE X W a fa) (hb : EvE X W b fb) (hm : behindInMarks .NotIn b = false := by with_unfolding_all rfl) : EvT X W (.Compare a [.NotIn] [b] pos) (cTru (cOp (gIn true) fa fb)) := et_cmp (op_notInA (hu65 hr)) opd_in gIn_bl ha hb hm
theorem q_isN (ha : EvE X W a fa) (hb : EvE X W b fb) : EvE X W (.Compare a [.Is] [b] pos) (cOp (gIsN false) fa fb) := ev_cmp op_isN opd_isN ha hb (nomark _)
theorem t_isN (ha : EvE X W a fa) (hb : EvE X W b fb) : EvT X W (.Compare a [.Is] [b] pos) (cTru (cOp (gIsN false) fa fb)) := et_cmp op_isN opd_isN gIsN_bl ha hb (nomark _)
theorem q_notN (ha : EvE X W a fa) (hb : EvE X W b fb) : EvE X W (.Compare a [.IsNot] [b] pos) (cOp (gIsN true) fa fb) := ev_cmp op_notN opd_notN ha hb (nomark _)
theorem t_notN (ha : EvE X W a fa) (hb : EvE X W b fb) : EvT X W (.Compare a [.IsNot] [b] pos) (cTru (cOp (gIsN true) fa fb)) := et_cmp op_notN opd_notN gIsN_bl ha hb (nomark _)
theorem q_isB (ha : EvE X W a fa) (hb : EvE X W b fb) : EvE X W (.Compare a [.Is] [b] pos) (cOp (gIsB false) fa fb) := ev_cmp op_isBl opd_isB ha hb (nomark _)
theorem t_isB (ha : EvE X W a fa) (hb : EvE X W b fb) : EvT X W (.Compare a [.Is] [b] pos) (cTru (cOp (gIsB false) fa fb)) := et_cmp op_isBl opd_isB gIsB_bl ha hb (nomark _)
theorem q_notB (ha : EvE X W a fa) (hb : EvE X W b fb) : EvE X W (.Compare a [.IsNot] [b] pos) (cOp (gIsB true) fa fb) := ev_cmp op_notBl opd_notB ha hb (nomark _)
theorem t_notB (ha : EvE X W a fa) (hb : EvE X W b fb) : EvT X W (.Compare a [.IsNot] [b] pos) (cTru (cOp (gIsB true) fa fb)) := et_cmp op_notBl opd_notB gIsB_bl ha hb (nomark _)
end
end DL
/-! The data layer, part 18: calls by name, written constants. -/
namespace DL
open PySem PySem.Spec PyProof.Rows L2
/-- a def that may be called by its name -/
structure CalG (P : Program) (w : World) (K : PySem.W.Frag) (mg : Str → Option Value) (base : Heap) (k : Nat) (x : Str) (m : MF) : Prop where
  ex : ∃ f fd ps, FnG P w K mg base k f fd ps m ∧ mg x = some (.ref f) ∧ PySem.W.keepIn K (.ref f) = true ∧ Binds K fd ps []
theorem CalG.mono {P : Program} {w : World} {K : PySem.W.Frag} {mg : Str → Option Value} {base : Heap} {j k : Nat} {x : Str} {m : MF} (c : CalG P w K mg base j x m) (h : j ≤ k) : CalG P w K mg base k x m := by
  obtain ⟨f, fd, ps, F, r⟩ := c.ex
  exact ⟨f, fd, ps, F.mono h, r⟩
section
variable {X : Cx} {W : WX} {pos p : Pos} {e : Expr} {es : List Expr} {fr : AF} {k j : Nat} {m : MF} {x : Str}
theorem ev_cl (c : CalG X.prog X.w X.K X.mg X.base j x m) (hr : Room k X.A) (hjk : j ≤ k) (hgd : X.A.guards = some []) (tk : Takes X W) (ha : EvA X W (e :: es) fr) (hg : Gl X x := by rfl)
    (hdb : (x == ("__debug__" : Str)) = false := by decide) (he : starEach (e :: es) X.env = (false, eval e X.env) :: starEach es X.env := by rfl) (hpl : (backTo pos (starEach es X.env)).any (·.1) = false := by rfl) :
    EvE X W (.Call (.Name x p) (e :: es) [] pos) (cCall m fr) := by
  obtain ⟨f, fd, ps, F, h1, h2, h3⟩ := c.ex
  exact ev_call F (hr.mono hjk) hgd hg h1 h2 h3 tk ha hdb he hpl
theorem ev_cl0 (c : CalG X.prog X.w X.K X.mg X.base j x m) (hr : Room k X.A) (hjk : j ≤ k) (hgd : X.A.guards = some []) (tk : Takes X W) (hg : Gl X x := by rfl)
    (hdb : (x == ("__debug__" : Str)) = false := by decide) : EvE X W (.Call (.Name x p) [] [] pos) (cCall m aNil) := by
  obtain ⟨f, fd, ps, F, h1, h2, h3⟩ := c.ex
  exact ev_call0 F (hr.mono hjk) hgd hg h1 h2 h3 tk hdb
end
/-! ### what the written part holds -/
mutual
def konB (K : PySem.W.Frag) : Value → D → Bool
  | .none, .non => true
  | .bool a, .bl b => a == b
  | .int a _, .int b => a == b
  | .str a _, .str b => a == b
  | .ref a, .tup ds => match K.lookup a with
    | some o => (match o.cls with | .type t => t == "tuple" | _ => false) && (match o.data with | .seq its _ => decide (its.size ≤ 16777216) && konBs K its.toList ds | _ => false)
    | none => false
  | .ref a, .scr ds => match K.lookup a with
    | some o => (match o.cls with | .type t => t == "list" | _ => false) && o.dict.isNone && (match o.data with | .seq its _ => decide (its.size ≤ 16777216) && konBs K its.toList ds | _ => false)
    | none => false
  | _, _ => false
termination_by structural _ d => d
def konBs (K : PySem.W.Frag) : List Value → List D → Bool
  | [], [] => true
  | v :: vs, d :: ds => konB K v d && konBs K vs ds
  | _, _ => false
termination_by structural _ ds => ds
end
mutual
theorem konB_ok {K : PySem.W.Frag} : ∀ {v : Value} {d : D}, konB K v d = true → ∃ x, RelV x v ∧ ∀ I H, Rep K I H d x
  | v, .non, h => by
    cases v <;> simp only [konB] at h <;> first | (cases h; done) | skip
    exact ⟨.non, rfl, fun _ _ => rep_non⟩
  | v, .bl b, h => by
    cases v <;> simp only [konB] at h <;> first | (cases h; done) | skip
    rename_i a
    exact ⟨.bl b, by rw [beq_iff_eq.mp h]; rfl, fun _ _ => rep_bl⟩
  | v, .int b, h => by
    cases v <;> simp only [konB] at h <;> first | (cases h; done) | skip
    rename_i a t
    exact ⟨.int b, ⟨t, by rw [beq_iff_eq.mp h]⟩, fun _ _ => rep_int⟩
  | v, .str b, h => by
    cases v <;> simp only [konB] at h <;> first | (cases h; done) | skip
    rename_i a t
    exact ⟨.str b, ⟨t, by rw [beq_iff_eq.mp h]⟩, fun _ _ => rep_str⟩
  | v, .tup ds, h => by
    cases v <;> simp only [konB] at h <;> first | (cases h; done) | skip
    rename_i a
    split at h
    · rename_i o ho
      rw [Bool.and_eq_true] at h
      obtain ⟨h1, h2⟩ := h
      split at h1
      · rename_i t ht
        split at h2
        · rename_i its n hd
          rw [Bool.and_eq_true, decide_eq_true_eq] at h2
          obtain ⟨xs, r1, r2⟩ := konBs_ok h2.2
          refine ⟨.ref a, rfl, fun I H => ?_⟩
          simp only [Rep]
          exact ⟨a, xs, rfl, .inr ⟨o, its, n, ho, by rw [ht, beq_iff_eq.mp h1], hd, by rw [sizeLine_eq]; exact h2.1, r1⟩, r2 I H⟩
        · cases h2
      · cases h1
    · cases h
  | v, .scr ds, h => by
    cases v <;> simp only [konB] at h <;> first | (cases h; done) | skip
    rename_i a
    split at h
    · rename_i o ho
      rw [Bool.and_eq_true, Bool.and_eq_true] at h
      obtain ⟨⟨h1, h3⟩, h2⟩ := h
      split at h1
      · rename_i t ht
        split at h2
        · rename_i its n hd
          rw [Bool.and_eq_true, decide_eq_true_eq] at h2
          obtain ⟨xs, r1, r2⟩ := konBs_ok h2.2
          refine ⟨.ref a, rfl, fun I H => ?_⟩
          simp only [Rep]
          exact ⟨a, xs, rfl, .inr ⟨o, its, n, ho, by rw [ht, beq_iff_eq.mp h1], Option.isNone_iff_eq_none.mp h3, hd, by rw [sizeLine_eq]; exact h2.1, r1⟩, r2 I H⟩
        · cases h2
      · cases h1
    · cases h
  | v, .imm ds, h => by cases v <;> simp only [konB] at h <;> cases h
  | v, .cel n, h => by cases v <;> simp only [konB] at h <;> cases h
  | v, .dic n, h => by cases v <;> simp only [konB] at h <;> cases h
  | v, .ty n, h => by cases v <;> simp only [konB] at h <;> cases h
theorem konBs_ok {K : PySem.W.Frag} : ∀ {vs : List Value} {ds : List D}, konBs K vs ds = true → ∃ xs, Vals xs vs ∧ ∀ I H, Reps K I H ds xs
  | [], [], h => ⟨[], .nil, fun _ _ => by simp only [Reps]⟩
  | v :: vs, [], h => by simp only [konBs] at h; cases h
  | [], d :: ds, h => by simp only [konBs] at h; cases h
  | v :: vs, d :: ds, h => by
    simp only [konBs, Bool.and_eq_true] at h
    obtain ⟨x, r1, r2⟩ := konB_ok h.1
    obtain ⟨xs, s1, s2⟩ := konBs_ok h.2
    exact ⟨x :: xs, .cons r1 s1, fun I H => Reps.cons (r2 I H) (s2 I H)⟩
end
theorem ev_gl {X : Cx} {W : WX} {x : Str} {v : Value} {d : D} {pos : Pos} (hm : X.mg x = some v) (hk : konB X.K v d = true) (hg : Gl X x := by rfl) (hd : (x == ("__debug__" : Str)) = false := by decide) : EvE X W (.Name x pos) (cC d) := by
  obtain ⟨y, r, q⟩ := konB_ok hk
  exact ev_c (pe_glob hg hm r hd) q
end DL
/-! The data layer, part 19: chains as tests, comprehensions that make lists of the store. -/
namespace DL
open PySem PySem.Spec PyProof.Rows L2
section
variable {X : Cx} {W : WX} {K : PySem.W.Frag} {mg : Str → Option Value} {I I' : Ow} {H H' : Hp} {M M' : Store} {σ : L2.St} {en : Env}
variable {a b c d e tg iter elt : Expr} {es ifs : List Expr} {pos : Pos} {fa fb fc fd : EF} {fi : AF} {gt : GF} {t : TF} {f : EF} {Sl : List Nat} {g g' g'' : D → D → Store → Res D} {r r' r'' : R2}
theorem hu64m {A : Around} {k : Nat} {e : Option Value} (h : Room k A) : (A.mark e).units + 64 < cLine := (hu64 h : A.units + 64 < cLine)
/-- a reading of a value as a test, where the value is a bool or the code ends otherwise -/
theorem tst_imp {te : TE} {f : EF} (i : ∀ Q', TD X.K X.mg W (Rep X.K) f σ H Q' → te σ H Q') (hb : ∀ en M x M', f en M = some (.ok x, M') → ∃ b, x = .bl b) {Q : Bool → Hp → Prop} (h : TD X.K X.mg W RB (cTru f) σ H Q) : tTest te σ H Q := test_imp i h hb
theorem ch2_bl (hg : ∀ a b M x M', g' a b M = some (.ok x, M') → ∃ b, x = .bl b) : ∀ en M x M', cCh2 g g' fa fb fc en M = some (.ok x, M') → ∃ b, x = .bl b := by
  intro en M x M' h
  unfold cCh2 at h
  match q : fa en M, h with
  | some (.ok u, M1), h =>
    have h : bnd (fb en M1) (fun y M2 => bnd (g u y M2) fun z M3 => match z with
      | .bl true => bnd (fc en M3) fun w M4 => g' y w M4
      | .bl false => some (.ok (.bl false), M3)
      | _ => none) = some (.ok x, M') := h
    match q2 : fb en M1, h with
    | some (.ok v, M2), h =>
      have h : bnd (g u v M2) (fun z M3 => match z with
        | .bl true => bnd (fc en M3) fun w M4 => g' v w M4
        | .bl false => some (.ok (.bl false), M3)
        | _ => none) = some (.ok x, M') := h
      match q3 : g u v M2, h with
      | some (.ok (.bl true), M3), h =>
        have h : bnd (fc en M3) (fun w M4 => g' v w M4) = some (.ok x, M') := h
        match q4 : fc en M3, h with
        | some (.ok w, M4), h => exact hg _ _ _ _ _ h
      | some (.ok (.bl false), M3), h => cases h; exact ⟨_, rfl⟩
theorem et_chn {ops : List CmpOp} {rs : List Expr} {te : TE} (hp : PT X (.Compare a ops rs pos) (tTest te)) (i : ∀ σ H Q', TD X.K X.mg W (Rep X.K) f σ H Q' → te σ H Q') (hb : ∀ en M x M', f en M = some (.ok x, M') → ∃ b, x = .bl b) : EvT X W (.Compare a ops rs pos) (cTru f) :=
  ⟨pt_imp hp fun σ H Q h => tst_imp (i σ H) hb h⟩
theorem ch2_read {ta tb tc : TE} (hg : OpD X.K X.mg W g r) (hg' : OpD X.K X.mg W g' r') {Q : VK} (h : TD X.K X.mg W (Rep X.K) (cCh2 g g' fa fb fc) σ H Q) : tChain r r' (TD X.K X.mg W (Rep X.K) fa) (TD X.K X.mg W (Rep X.K) fb) (TD X.K X.mg W (Rep X.K) fc) σ H Q := by
  obtain ⟨I, M, en, S, re, k⟩ := h
  refine ⟨I, M, en, S, re, k.bind fun x M1 I1 H1 u e1 S1 r1 k1 => ?_⟩
  refine ⟨I1, M1, en, S1, re.mono e1, k1.bind fun y M2 I2 H2 v e2 S2 r2 k2 => ?_⟩
  refine hg x y M2 I2 H2 u v σ _ S2 (e2.rep r1) r2 (k2.bind fun z M3 I3 H3 w e3 S3 r3 k3 => ?_)
  cases z <;> (try exact k3.elim)
  rename_i bb
  simp only [Rep] at r3
  refine ⟨bb, r3, ?_⟩
  cases bb with
  | false => exact (if_neg Bool.false_ne_true).mpr (k3.ok S3 rep_bl)
  | true =>
    refine (if_pos rfl).mpr ⟨I3, M3, en, S3, ((re.mono e1).mono e2).mono e3, Kp.bind k3 fun w' M4 I4 H4 w2 e4 S4 r4 k4 => ?_⟩
    exact hg' y w' M4 I4 H4 v w2 σ _ S4 (e4.rep (e3.rep r2)) r4 k4
theorem et_ch2 {op op' : CmpOp} (ho : OpR X (compareOp op) r) (hg : OpD X.K X.mg W g r) (ho' : OpR X (compareOp op') r') (hg' : OpD X.K X.mg W g' r') (ha : EvE X W a fa) (hb : EvE X W b fb) (hc : EvE X W c fc)
    (hbl : ∀ a b M x M', g' a b M = some (.ok x, M') → ∃ b, x = .bl b := by first | exact gI2_bl | exact gEq_bl) (hm : lastMarks [op, op'] [b, c] = false := by with_unfolding_all rfl) : EvT X W (.Compare a [op, op'] [b, c] pos) (cTru (cCh2 g g' fa fb fc)) :=
  et_chn (pt_chain ho ho' ha.pe hb.pe hc.pe hm) (fun _ _ _ h => ch2_read (ta := TD X.K X.mg W (Rep X.K) fa) (tb := TD X.K X.mg W (Rep X.K) fb) (tc := TD X.K X.mg W (Rep X.K) fc) hg hg' h) (ch2_bl hbl)
theorem ev_lcC {scope : Scope} {own : List (Str × Nat)} (hc : X.calm = true) (hN : X.N.Nodup) (hi : EvI X W tg iter fi) (ok : BlkOk X.N X.env.scope scope own) (hS : ∀ k ∈ Sl, k ∈ own.map (·.2))
    (hg : ∀ (s : Shared) (H : Hp) (C : Addr) (cl : List (Str × Addr)) (fp : List Addr), EvG (X.blk s H scope (compEnvC scope cl C X.env) fp) tg Sl gt)
    (ht : ∀ (s : Shared) (H : Hp) (C : Addr) (cl : List (Str × Addr)) (fp : List Addr), EvTs (X.blk s H scope (compEnvC scope cl C X.env) fp) W0 ifs t)
    (he : ∀ (s : Shared) (H : Hp) (C : Addr) (cl : List (Str × Addr)) (fp : List Addr), EvE (X.blk s H scope (compEnvC scope cl C X.env) fp) W0 elt f) (hs : ∀ x, foldedSetIterable iter X.env x = pure x := by intro _; rfl) :
    EvE X W (.ListComp elt [⟨tg, iter, ifs, 0⟩] scope pos) (cLcC fi gt t f (own.map (·.2))) :=
  ⟨pe_imp (pe_lc (g := TG_ X.K Sl gt) (tt := TD X.K X.mg W0 RB t) (te := TD X.K X.mg W0 (Rep X.K) f) hc hN hi.pi ok (fun s H C cl fp => (hg s H C cl fp).pg) (fun s H C cl fp => (ht s H C cl fp).pts) (fun s H C cl fp => (he s H C cl fp).pe) hs) fun _ _ _ h => lc_readG mkC_ok hS h⟩
end
end DL
/-! The data layer, part 20: how the mirrors are worked out. -/
namespace DL
open PySem PySem.Spec PyProof.Rows L2
section
variable {en en1 : Env} {M M1 M2 : Store} {d d1 d2 : D} {ds es : List D} {fa fb fc fd : EF} {fr : AF} {p q : SF} {t u : TF} {i j : Nat} {a b : Int} {g : D → D → Store → Res D}
@[simp] theorem cVar_e : cVar i en M = match en[i]? with | some (some d) => some (.ok d, M) | _ => none := rfl
@[simp] theorem cC_e : cC d en M = some (.ok d, M) := rfl
@[simp] theorem cOp_e : cOp g fa fb en M = bnd (fa en M) fun x M1 => bnd (fb en M1) fun y M2 => g x y M2 := rfl
@[simp] theorem cUn_e {g : D → Store → Res D} : cUn g fa en M = bnd (fa en M) fun x M1 => g x M1 := rfl
@[simp] theorem aNil_e : aNil en M = some (.ok [], M) := rfl
@[simp] theorem aCons_e : aCons fa fr en M = bnd (fa en M) fun x M1 => bnd (fr en M1) fun xs M2 => some (.ok (x :: xs), M2) := rfl
@[simp] theorem cCall_e {g : List D → Store → Res D} : cCall g fr en M = bnd (fr en M) fun xs M1 => g xs M1 := rfl
@[simp] theorem cTup_e : cTup fr en M = bnd (fr en M) fun ds M1 => if szOk ds.length = true then some (.ok (.tup ds), M1) else none := rfl
@[simp] theorem cLst_e : cLst fr en M = bnd (fr en M) fun ds M1 => if szOk ds.length = true then some (.ok (.imm ds), M1) else none := rfl
@[simp] theorem cCel_e : cCel fr en M = bnd (fr en M) fun ds M1 => if szOk ds.length = true then some (.ok (.cel M1.length), M1 ++ [ds]) else none := rfl
@[simp] theorem cAnd_e : cAnd fa fb en M = bnd (fa en M) fun x M1 => match tru M1 x with | some true => fb en M1 | some false => some (.ok x, M1) | none => none := rfl
@[simp] theorem cOr_e : cOr fa fb en M = bnd (fa en M) fun x M1 => match tru M1 x with | some true => some (.ok x, M1) | some false => fb en M1 | none => none := rfl
@[simp] theorem cNot_e : cNot fa en M = bnd (fa en M) fun x M1 => match tru M1 x with | some b => some (.ok (.bl (!b)), M1) | none => none := rfl
@[simp] theorem cTru_e : cTru fa en M = bnd (fa en M) fun x M1 => match tru M1 x with | some b => some (.ok b, M1) | none => none := rfl
@[simp] theorem tAndC_e : tAndC t u en M = bnd (t en M) fun x M1 => if x = true then u en M1 else some (.ok false, M1) := rfl
@[simp] theorem tOrC_e : tOrC t u en M = bnd (t en M) fun x M1 => if x = true then some (.ok true, M1) else u en M1 := rfl
@[simp] theorem tNotC_e : tNotC t en M = bnd (t en M) fun x M1 => some (.ok (!x), M1) := rfl
@[simp] theorem cIf_e : cIf t fa fb en M = bnd (t en M) fun x M1 => if x = true then fa en M1 else fb en M1 := rfl
@[simp] theorem cCh2_e {g g' : D → D → Store → Res D} : cCh2 g g' fa fb fc en M = bnd (fa en M) fun x M1 => bnd (fb en M1) fun y M2 => bnd (g x y M2) fun z M3 => match z with
  | .bl true => bnd (fc en M3) fun w M4 => g' y w M4
  | .bl false => some (.ok (.bl false), M3)
  | _ => none := rfl
@[simp] theorem cCh3_e {g g' g'' : D → D → Store → Res D} : cCh3 g g' g'' fa fb fc fd en M = bnd (fa en M) fun x M1 => bnd (fb en M1) fun y M2 => bnd (g x y M2) fun z M3 => match z with
  | .bl true => bnd (fc en M3) fun w M4 => bnd (g' y w M4) fun z' M5 => (match z' with
    | .bl true => bnd (fd en M5) fun u M6 => g'' w u M6
    | .bl false => some (.ok (.bl false), M5)
    | _ => none)
  | .bl false => some (.ok (.bl false), M3)
  | _ => none := rfl
@[simp] theorem cBits_e : cBits fa en M = bnd (fa en M) fun x M1 => match x with | .int i => some (.ok (.int (Builtin.Int.intBits i : Nat)), M1) | _ => none := rfl
@[simp] theorem cApp_e : cApp fa fb en M = bnd (fa en M) fun x M1 => match x with
  | .cel n => if n < M1.length then bnd (fb en M1) fun y M2 => match M2[n]? with
    | some ds => if szOk (ds.length + 1) = true then some (.ok .non, M2.set n (ds ++ [y])) else none
    | none => none
    else none
  | _ => none := rfl
/-! values -/
@[simp] theorem gI_e {C : Int → Int → Bool} {f : Int → Int → D} : gI C f (.int a) (.int b) M = if C a b = true then some (.ok (f a b), M) else none := rfl
@[simp] theorem yes2_e : yes2 a b = true := (rfl)
@[simp] theorem gAddA_i : gAddA (.int a) (.int b) M = some (.ok (.int (a + b)), M) := rfl
@[simp] theorem gAddA_t : gAddA (.tup ds) (.tup es) M = if szOk (ds.length + es.length) = true then some (.ok (.tup (ds ++ es)), M) else none := rfl
@[simp] theorem gAddA_l : gAddA (.imm ds) (.imm es) M = if szOk (ds.length + es.length) = true then some (.ok (.imm (ds ++ es)), M) else none := rfl
@[simp] theorem gNeg_e : gNeg (.int a) M = some (.ok (.int (-a)), M) := rfl
@[simp] theorem gAbs_e : gAbs [.int a] M = some (.ok (.int (if a < 0 then -a else a)), M) := rfl
@[simp] theorem gInt_i : gInt [.int a] M = some (.ok (.int a), M) := rfl
@[simp] theorem gInt_b {k : Bool} : gInt [.bl k] M = some (.ok (.int (if k = true then 1 else 0)), M) := rfl
@[simp] theorem gLen_t : gLen [.tup ds] M = some (.ok (.int ds.length), M) := rfl
@[simp] theorem gLen_l : gLen [.imm ds] M = some (.ok (.int ds.length), M) := rfl
@[simp] theorem gLen_s : gLen [.scr ds] M = some (.ok (.int ds.length), M) := rfl
@[simp] theorem gTuple_t : gTuple [.tup ds] M = some (.ok (.tup ds), M) := rfl
@[simp] theorem gTuple_l : gTuple [.imm ds] M = some (.ok (.tup ds), M) := rfl
@[simp] theorem gList_t : gList [.tup ds] M = some (.ok (.imm ds), M) := rfl
@[simp] theorem gList_l : gList [.imm ds] M = some (.ok (.imm ds), M) := rfl
@[simp] theorem tru_bl {k : Bool} : tru M (.bl k) = some k := rfl
@[simp] theorem tru_int : tru M (.int a) = some (a != 0) := rfl
@[simp] theorem tru_tup : tru M (.tup ds) = some (!ds.isEmpty) := rfl
@[simp] theorem tru_imm : tru M (.imm ds) = some (!ds.isEmpty) := rfl
@[simp] theorem items_t : itemsOf M (.tup ds) = some ds := rfl
@[simp] theorem items_l : itemsOf M (.imm ds) = some ds := rfl
@[simp] theorem items_s : itemsOf M (.scr ds) = some ds := rfl
@[simp] theorem items_c : itemsOf M (.cel i) = M[i]? := rfl
@[simp] theorem gMax_e : gMax [.int a, .int b] M = some (.ok (.int (if b > a then b else a)), M) := rfl
@[simp] theorem gMin_e : gMin [.int a, .int b] M = some (.ok (.int (if b < a then b else a)), M) := rfl
theorem atI_nat (h : i < ds.length) : atI ds (i : Int) = some ds[i] := by
  unfold atI
  rw [show ixN ds.length (i : Int) = some i by
    unfold ixN
    first | (simp; omega) | (split <;> simp_all <;> omega)]
  exact List.getElem?_eq_getElem h
theorem gIx_t (h : itemsOf M d = some ds) (h2 : atI ds a = some d1) : gIx d (.int a) M = some (.ok d1, M) := by
  unfold gIx
  simp only [h, h2]
/-! statements -/
theorem sSeq_nx {en1 : Env} (h : p en M = some (.nx en1, M1)) : sSeq p q en M = q en1 M1 := by unfold sSeq; rw [h]
theorem sSeq_rt (h : p en M = some (.rt d, M1)) : sSeq p q en M = some (.rt d, M1) := by unfold sSeq; rw [h]
@[simp] theorem sSkip_e : sSkip en M = some (.nx en, M) := rfl
@[simp] theorem sBreak_e : sBreak en M = some (.bk en, M) := rfl
@[simp] theorem sCont_e : sCont en M = some (.ct en, M) := rfl
@[simp] theorem sRetN_e : sRetN en M = some (.rt .non, M) := rfl
@[simp] theorem sSeq_e : sSeq p q en M = match p en M with | some (.nx en1, M1) => q en1 M1 | o => o := rfl
@[simp] theorem sExpr_e : sExpr fa en M = sbnd (fa en M) en fun _ M1 => some (.nx en, M1) := rfl
@[simp] theorem sRet_e : sRet fa en M = sbnd (fa en M) en fun d M1 => some (.rt d, M1) := rfl
@[simp] theorem sIf_e : sIf t p q en M = sbnd (t en M) en fun x M1 => if x = true then p en M1 else q en M1 := rfl
@[simp] theorem sAsg_e {g : GF} : sAsg fa g en M = sbnd (fa en M) en fun d M1 => match g d en M1 with | some (en', M2) => some (.nx en', M2) | none => none := rfl
@[simp] theorem gN_e : gN i d en M = some (en.set i (some d), M) := rfl
@[simp] theorem sPar_e : sPar i j fr en M = sbnd (fr en M) en fun ds M1 => match ds with | [d, d'] => some (.nx ((en.set i (some d)).set j (some d')), M1) | _ => none := rfl
@[simp] theorem sAug_e {g : D → D → Store → Res D} : sAug i g fa en M = match en[i]? with
  | some (some d) => sbnd (fa en M) en fun y M1 => sbnd (g d y M1) en fun z M2 => some (.nx (en.set i (some z)), M2)
  | _ => none := rfl
@[simp] theorem sRaise_e {c : Str} : sRaise c fr en M = sbnd (fr en M) en fun ds M1 => match ds with | [d] => some (.ex c [("reason", d)] en, M1) | _ => none := rfl
@[simp] theorem gNil_e : gNilC [] en M = some (en, M) := rfl
@[simp] theorem gCons_e {g : GF} {gs : GsF} : gConsC g gs (d :: ds) en M = match g d en M with | some (en1, M1) => gs ds en1 M1 | none => none := rfl
@[simp] theorem gTup_e {n : Nat} {gs : GsF} : gTupC n gs d en M = match itemsOf M d with | some ds => if ds.length = n then gs ds en M else none | none => none := rfl
@[simp] theorem sFor_e {fi : AF} {g : GF} : sFor fi g p en M = sbnd (fi en M) en fun ds M1 => fLoop g p ds en M1 := rfl
@[simp] theorem fLoop_nil {g : GF} : fLoop g p [] en M = some (.nx en, M) := rfl
theorem fLoop_cons {g : GF} : fLoop g p (d :: ds) en M = match g d en M with
    | none => none
    | some (en1, M1) => match p en1 M1 with
      | some (.nx en2, M2) => fLoop g p ds en2 M2
      | some (.ct en2, M2) => fLoop g p ds en2 M2
      | some (.bk en2, M2) => some (.nx en2, M2)
      | o => o := rfl
/-- what a walk over a value goes through -/
def seqI : D → Option (List D)
  | .tup ds => some ds
  | .imm ds => some ds
  | .scr ds => some ds
  | _ => none
@[simp] theorem seqI_t : seqI (.tup ds) = some ds := rfl
@[simp] theorem seqI_l : seqI (.imm ds) = some ds := rfl
@[simp] theorem seqI_s : seqI (.scr ds) = some ds := rfl
@[simp] theorem iSeq_e : iSeq fa en M = bnd (fa en M) fun x M1 => match seqI x with | some ds => some (.ok ds, M1) | none => none := by
  unfold iSeq
  congr
  funext x M1
  cases x <;> rfl
/-! a call's end -/
@[simp] theorem fin_nx : fin (some (.nx en, M)) = some (.ok .non, M) := rfl
@[simp] theorem fin_rt : fin (some (.rt d, M)) = some (.ok d, M) := rfl
@[simp] theorem fin_ex {c : Str} {fs : List (Str × D)} : fin (some (.ex c fs en, M)) = some (.ex c fs, M) := rfl
@[simp] theorem clo_int {n : Nat} : clo n (.int a) = true := (rfl)
@[simp] theorem clo_bl {n : Nat} {k : Bool} : clo n (.bl k) = true := (rfl)
@[simp] theorem clo_non {n : Nat} : clo n .non = true := (rfl)
@[simp] theorem clo_str {n : Nat} {s : Str} : clo n (.str s) = true := (rfl)
@[simp] theorem clo_tup {n : Nat} : clo n (.tup ds) = clos n ds := by simp only [clo]
@[simp] theorem clo_imm {n : Nat} : clo n (.imm ds) = clos n ds := by simp only [clo]
@[simp] theorem clos_nil {n : Nat} : clos n [] = true := (rfl)
@[simp] theorem clos_cons {n : Nat} : clos n (d :: ds) = (clo n d && clos n ds) := by simp only [clos]
theorem clos_all {n : Nat} : ∀ {ds : List D}, (∀ d ∈ ds, clo n d = true) → clos n ds = true
  | [], _ => rfl
  | d :: ds, h => by
    simp only [clos_cons, Bool.and_eq_true]
    exact ⟨h d List.mem_cons_self, clos_all fun e he => h e (List.mem_cons_of_mem _ he)⟩
@[simp] theorem clos_map {α : Type} {n : Nat} {f : α → D} {l : List α} (h : ∀ x, clo n (f x) = true) : clos n (l.map f) = true := clos_all fun d hd => by
  obtain ⟨x, _, rfl⟩ := List.mem_map.mp hd
  exact h x
def notCel : D → Bool
  | .cel _ => false
  | _ => true
theorem tidy_take {L : Store} : Tidy M (M ++ L) ∧ (M ++ L).take M.length = M := ⟨Tidy.none, by simp⟩
theorem gcF_ok {L : Store} (h : clo M.length d = true) (hn : notCel d = true) : gcF M (some (.ok d, M ++ L)) = some (.ok d, M) := by
  unfold gcF
  dsimp only
  rw [if_pos Tidy.none, tidy_take.2]
  cases d <;> first | exact absurd hn Bool.false_ne_true | exact if_pos h
@[simp] theorem gcF_ok0 (h : clo M.length d = true) (hn : notCel d = true) : gcF M (some (.ok d, M)) = some (.ok d, M) := by
  have := gcF_ok (L := []) h hn
  simpa using this
@[simp] theorem notCel_int : notCel (.int a) = true := (rfl)
@[simp] theorem notCel_bl {k : Bool} : notCel (.bl k) = true := (rfl)
@[simp] theorem notCel_non : notCel .non = true := (rfl)
@[simp] theorem notCel_tup : notCel (.tup ds) = true := (rfl)
@[simp] theorem notCel_imm : notCel (.imm ds) = true := (rfl)
/-- a list of the store that is given back -/
theorem gcF_cel {L : Store} (h : (M ++ L)[j]? = some ds) (hj : M.length ≤ j) (hc : clos M.length ds = true) : gcF M (some (.ok (.cel j), M ++ L)) = some (.ok (.imm ds), M) := by
  unfold gcF
  dsimp only
  rw [if_pos Tidy.none, if_neg (Nat.not_lt.mpr hj), h]
  dsimp only
  rw [if_pos hc, tidy_take.2]
theorem gcF_ex {L : Store} {c : Str} {fs : List (Str × D)} (h : clos M.length (fs.map (·.2)) = true) : gcF M (some (.ex c fs, M ++ L)) = some (.ex c fs, M) := by
  unfold gcF
  dsimp only
  rw [if_pos ⟨Tidy.none, h⟩, tidy_take.2]
@[simp] theorem gcF_ex0 {c : Str} {fs : List (Str × D)} (h : clos M.length (fs.map (·.2)) = true) : gcF M (some (.ex c fs, M)) = some (.ex c fs, M) := by
  have := gcF_ex (L := []) (c := c) h
  simpa using this
theorem mDef_e {np n : Nat} {body : SF} (h : ds.length = np) : mDef np n body ds M = gcF M (fin (body (start0 n ds) M)) := if_pos h
@[simp] theorem szOk_3 : szOk 3 = true := by decide
@[simp] theorem szOk_2 : szOk 2 = true := by decide
@[simp] theorem szOk_1 : szOk 1 = true := by decide
@[simp] theorem szOk_0 : szOk 0 = true := by decide
/-- a loop known by its end -/
theorem sWhile_of {n : Nat} {r : Fl × Store} (h : wLoop t p n en M = some r) : sWhile t p en M = some r := sWhile_eq h
theorem wLoop_stop {n : Nat} (h : t en M = some (.ok false, M1)) : wLoop t p (n + 1) en M = some (.nx en, M1) := by unfold wLoop; rw [h]; rfl
theorem wLoop_more {n : Nat} (h : t en M = some (.ok true, M1)) (h2 : p en M1 = some (.nx en1, M2)) : wLoop t p (n + 1) en M = wLoop t p n en1 M2 := by
  show sbnd (t en M) en _ = _
  rw [h, sbnd_ok, if_pos rfl, h2]
theorem sWhile_stop (h : t en M = some (.ok false, M1)) : sWhile t p en M = some (.nx en, M1) := sWhile_eq (n := 1) (wLoop_stop h)
theorem sWhile_more {r : Fl × Store} (h : t en M = some (.ok true, M1)) (h2 : p en M1 = some (.nx en1, M2)) (h3 : sWhile t p en1 M2 = some r) : sWhile t p en M = some r := by
  unfold sWhile at h3
  split at h3
  · rename_i hx
    refine sWhile_eq (n := Classical.choose hx + 1) ?_
    rw [wLoop_more h h2]
    exact h3
  · cases h3
end
end DL
/-! The data layer, part 21: a comprehension, a loop over a list of the store that stays as it is meanwhile. -/
namespace DL
open PySem PySem.Spec PyProof.Rows L2
section
variable {X : Cx} {W : WX} {K : PySem.W.Frag} {mg : Str → Option Value} {I I' : Ow} {H H' : Hp} {M M' : Store} {σ : L2.St} {en : Env} {Z : Ends}
variable {a b c e tg iter elt : Expr} {es ifs : List Expr} {body : List Stmt} {pos : Pos} {fa fb fc : EF} {g : GF} {t : TF} {f : EF} {p : SF} {Sl : List Nat}
def IterP (K : PySem.W.Frag) (n : Nat) (I0 : Ow) (H0 : Hp) (ds : List D) (J : It) : Prop :=
  ∀ I H M, Ext I0 H0 I H → Sto K I H M → M[n]? = some ds → ∀ i, (∀ d, ds[i]? = some d → J.go i H ∧ ∀ x H', J.yld i H x H' → (H' = H ∨ ∃ p o, H p = none ∧ H' = upd H p o) ∧ Rep K I H' d x) ∧ (ds.length ≤ i → J.stop i H)
/-- M1: the store where the walk begins -/
def TIP_ (K : PySem.W.Frag) (mg : Str → Option Value) (W : WX) (f : Env → Store → Res Nat) : TI := fun σ H Q =>
  ∃ I M en, Sto K I H M ∧ RepE K I H en σ ∧ Kp K mg W (fun I H n J => ∀ ds, ∀ (_ : True), IterP K n I H ds J) (f en M) I H σ Q
structure EvIP (X : Cx) (W : WX) (tg iter : Expr) (f : Env → Store → Res Nat) : Prop where
  pi : PI X tg iter (TIP_ X.K X.mg W f)
def iCel (fa : EF) : Env → Store → Res Nat := fun en M => bnd (fa en M) fun x M1 => match x with | .cel n => if n < M1.length then some (.ok n, M1) else none | _ => none
theorem ei_cel (ha : EvE X W a fa) : EvIP X W tg a (iCel fa) := by
  refine ⟨pi_imp (pi_seqR ha.pe) fun σ H R h => ?_⟩
  obtain ⟨I, M, en, S, r, k⟩ := h
  refine ⟨I, M, en, S, r, k.bind fun x M1 I1 H1 u e1 S1 r1 k1 => ?_⟩
  cases x <;> (try exact k1.elim)
  rename_i n
  dsimp only at k1
  split at k1
  case isFalse => exact k1.elim
  rename_i hn
  simp only [Rep] at r1
  obtain ⟨p, rfl, hp⟩ := r1
  obtain ⟨vs, h3, _⟩ := S1.at_ n p _ hp (List.getElem?_eq_getElem hn)
  refine ⟨p, rfl, .inl ⟨⟨vs, .inl (.inl h3)⟩, Kp.ok (M := M1) k1 S1 ?_⟩⟩
  intro ds _ I2 H2 M2 e2 S2 hfx i
  obtain ⟨us, h4, h5⟩ := S2.at_ n p ds (e2.get hp) hfx
  refine ⟨fun d hd => ?_, fun hl => ⟨us, .inl (.inl h4), by rw [← h5.length]; exact hl⟩⟩
  obtain ⟨v, hv, rv⟩ := h5.get' hd
  refine ⟨⟨us, v, .inl (.inl h4), hv⟩, fun x H' hy => ?_⟩
  obtain ⟨rfl, hx⟩ := hy
  have z := hx us (.inl (.inl h4))
  rw [hv] at z
  cases z
  exact ⟨.inl rfl, rv⟩
open Classical in
noncomputable def compFP (n : Nat) (ds0 : List D) (g : GF) (t : TF) (f : EF) (en : Env) : List D → Store → Option (List D × Store)
  | [], M => if M[n]? = some ds0 then some ([], M) else none
  | d :: ds, M => if M[n]? = some ds0 then (match g d en M with
    | none => none
    | some (en1, M1) => match t en1 M1 with
      | some (.ok true, M2) => match f en1 M2 with
        | some (.ok y, M3) => match compFP n ds0 g t f en ds M3 with
          | some (ys, M4) => some (y :: ys, M4)
          | none => none
        | _ => none
      | some (.ok false, M2) => compFP n ds0 g t f en ds M2
      | _ => none) else none
theorem compFP_fix {n : Nat} {ds0 ds : List D} {z : List D × Store} (h : compFP n ds0 g t f en ds M = some z) : M[n]? = some ds0 := by
  cases ds <;> (unfold compFP at h; split at h; assumption; cases h)
noncomputable def cLcP (mk : List D → Store → D × Store) (fi : Env → Store → Res Nat) (g : GF) (t : TF) (f : EF) (vs : List Nat) : EF := fun en M => bnd (fi en M) fun n M1 => match M1[n]? with
  | some ds => if szOk ds.length = true then (match compFP n ds g t f (wipeE en vs) ds M1 with | some (ys, M2) => some (.ok (mk ys M2).1, (mk ys M2).2) | none => none) else none
  | none => none
theorem lc_readP {fi : Env → Store → Res Nat} {mk : List D → Store → D × Store} (hmk : MkOk K mk) {vs : List Nat} (hS : ∀ k ∈ Sl, k ∈ vs) {Q : VK} (h : TD K mg W (Rep K) (cLcP mk fi g t f vs) σ H Q) :
    tLc (TIP_ K mg W fi) (TG_ K Sl g) (TD K mg W0 RB t) (TD K mg W0 (Rep K) f) vs σ H Q := by
  obtain ⟨I, M, en, S, r, k⟩ := h
  refine ⟨I, M, en, S, r, k.bind fun nc M1 I1 H1 J e1 S1 rJ k1 => ?_⟩
  intro Dl hD
  cases hds : M1[nc]? with
  | none => rw [hds] at k1; exact k1.elim
  | some ds =>
  rw [hds] at k1
  dsimp only at k1
  split at k1
  case isFalse => exact k1.elim
  rename_i qsz
  have r1 := r.mono e1
  cases hz : compFP nc ds g t f (wipeE en vs) ds M1 with
  | none => rw [hz] at k1; exact k1.elim
  | some z =>
  obtain ⟨out, Mz⟩ := z
  rw [hz] at k1
  have k1 : Kp K mg W (Rep K) (some (.ok (mk out Mz).1, (mk out Mz).2)) I1 H1 σ Q := k1
  have hDf : Dl ∉ I1.p := (S1.fresh hD).2
  refine ⟨fun i m H => i ≤ ds.length ∧ m = ds.length - i ∧ ∃ (I2 : Ow) (M2 : Store) (acc : List D) (av : List V), Ext I1 H1 I2 H ∧ Dl ∈ I2.p ∧ Sto K I2 H M2 ∧ H Dl = some (.lst av) ∧ Reps K I2 H acc av ∧ acc.length ≤ i ∧
      RepE K I2 H (wipeE en vs) (wipe σ vs) ∧ ∃ ys, compFP nc ds g t f (wipeE en vs) (ds.drop i) M2 = some (ys, Mz) ∧ acc ++ ys = out, ⟨ds.length, ?_⟩, ?_⟩
  · exact ⟨Nat.zero_le _, rfl, I1.hide Dl, M1, [], [], Ext.hide hD, List.mem_cons_self, S1.hide hD, upd_same, by simp only [Reps], Nat.le_refl _, (r1.wipe vs).mono (Ext.hide hD), out, hz, rfl⟩
  · rintro i m H2 ⟨hi2, rfl, I2, M2, acc, av, e2, hpm, S2, hDl, ra, hal, r2, ys, hc2, hout⟩
    have hfx : M2[nc]? = some ds := compFP_fix hc2
    obtain ⟨g1, g2⟩ := rJ ds trivial I2 H2 M2 e2 S2 hfx i
    by_cases hlt : i < ds.length
    · obtain ⟨go, yl⟩ := g1 ds[i] (List.getElem?_eq_getElem hlt)
      refine .inr ⟨go, fun H' => ∃ m', m' < ds.length - i ∧ (i + 1 ≤ ds.length ∧ m' = ds.length - (i + 1) ∧ ∃ (I2 : Ow) (M2 : Store) (acc : List D) (av : List V), Ext I1 H1 I2 H' ∧ Dl ∈ I2.p ∧ Sto K I2 H' M2 ∧ H' Dl = some (.lst av) ∧ Reps K I2 H' acc av ∧ acc.length ≤ i + 1 ∧
        RepE K I2 H' (wipeE en vs) (wipe σ vs) ∧ ∃ ys, compFP nc ds g t f (wipeE en vs) (ds.drop (i + 1)) M2 = some (ys, Mz) ∧ acc ++ ys = out), fun _ z => z, fun x H3 hy => ?_⟩
      obtain ⟨ht3, rx⟩ := yl x H3 hy
      rw [List.drop_eq_getElem_cons hlt] at hc2
      have e3 : Ext I2 H2 I2 H3 := Ext.turn ht3
      have S3 : Sto K I2 H3 M2 := S2.turn ht3
      refine ⟨I2, M2, wipeE en vs, ds[i], S3, r2.mono e3, rx, ?_⟩
      unfold compFP at hc2
      rw [if_pos hfx] at hc2
      revert hc2
      cases q1 : g ds[i] (wipeE en vs) M2 with
      | none => exact fun z => nomatch z
      | some z1 =>
      obtain ⟨en1, M3⟩ := z1
      dsimp only
      intro hc2 I4 H4 σ4 e4 S4 r4 l4 o4
      have hw : wipe σ4 vs = wipe σ vs := wipe_same l4 fun k hk => o4 k fun z => hk (hS k z)
      refine ⟨hw, I4, M3, en1, S4, r4, ?_⟩
      have e24 := e3.trans e4
      -- what holds at the next turn, from a later state
      have next : ∀ {I5 : Ow} {H5 : Hp} {M5 : Store} {ys5 : List D}, Ext I4 H4 I5 H5 → Sto K I5 H5 M5 → compFP nc ds g t f (wipeE en vs) (ds.drop (i + 1)) M5 = some (ys5, Mz) → acc ++ ys5 = out →
          ∃ m', m' < ds.length - i ∧ (i + 1 ≤ ds.length ∧ m' = ds.length - (i + 1) ∧ ∃ (I2 : Ow) (M2 : Store) (acc : List D) (av : List V), Ext I1 H1 I2 H5 ∧ Dl ∈ I2.p ∧ Sto K I2 H5 M2 ∧ H5 Dl = some (.lst av) ∧ Reps K I2 H5 acc av ∧ acc.length ≤ i + 1 ∧
            RepE K I2 H5 (wipeE en vs) (wipe σ vs) ∧ ∃ ys, compFP nc ds g t f (wipeE en vs) (ds.drop (i + 1)) M2 = some (ys, Mz) ∧ acc ++ ys = out) := by
        intro I5 H5 M5 ys5 e5 S5 hc5 ho5
        have e25 := e24.trans e5
        exact ⟨_, by omega, hlt, rfl, I5, M5, acc, av, e2.trans e25, e25.mem hpm, S5, e25.keep _ _ hDl (S2.dis Dl hpm).1, e25.reps ra, Nat.le_succ_of_le hal, r2.mono e25, ys5, hc5, ho5⟩
      revert hc2
      cases q2 : t en1 M3 with
      | none => exact fun z => nomatch z
      | some z2 =>
      obtain ⟨o2, M4⟩ := z2
      cases o2 with
      | ex _ _ => exact fun z => nomatch z
      | ok b =>
      cases b with
      | false =>
        dsimp only
        intro hc2 I5 H5 b5 e5 S5 rb
        cases rb
        exact (if_neg Bool.false_ne_true).mpr (next e5 S5 hc2 hout)
      | true =>
        dsimp only
        intro hc2 I5 H5 b5 e5 S5 rb
        cases rb
        refine (if_pos rfl).mpr ⟨I5, M4, en1, S5, r4.mono e5, ?_⟩
        revert hc2
        cases q3 : f en1 M4 with
        | none => exact fun z => nomatch z
        | some z3 =>
        obtain ⟨o3, M5⟩ := z3
        cases o3 with
        | ex _ _ => exact fun z => nomatch z
        | ok y =>
        dsimp only
        cases q4 : compFP nc ds g t f (wipeE en vs) (ds.drop (i + 1)) M5 with
        | none => exact fun z => nomatch z
        | some z4 =>
        obtain ⟨ys5, M6⟩ := z4
        intro hc2 I6 H6 v e6 S6 rv
        cases hc2
        have e26 := (e24.trans e5).trans e6
        have hpm6 := e26.mem hpm
        have hD6 := e26.keep _ _ hDl (S2.dis Dl hpm).1
        refine ⟨av, hD6, ?_, ?_⟩
        · have h1 : av.length = acc.length := (e26.reps ra).length.symm
          have h2 : ds.length ≤ sizeLine := szOk_ok qsz
          omega
        · refine ⟨_, by omega, hlt, rfl, I6, M5, acc ++ [y], av ++ [v], (e2.trans e26).grow hD, hpm6, S6.grow hpm6, upd_same, ((e26.reps ra).append (.one rv)).grow hpm6, by rw [List.length_append]; simp; omega, (r2.mono e26).grow hpm6, ys5, q4, by rw [← hout]; simp⟩
    · have hi3 : i = ds.length := by omega
      subst hi3
      refine .inl ⟨g2 (Nat.le_refl _), ?_⟩
      rw [List.drop_length] at hc2
      unfold compFP at hc2
      rw [if_pos hfx] at hc2
      cases hc2
      rw [List.append_nil] at hout
      subst hout
      obtain ⟨I', q1, q2, q3⟩ := hmk I1 H1 I2 H2 _ Dl _ av hDf hD e2 hpm S2 hDl ra
      exact k1.ok' q1 q2 q3
theorem ev_lcP {fi : Env → Store → Res Nat} {mk : List D → Store → D × Store} (hmk : MkOk X.K mk) {scope : Scope} {own : List (Str × Nat)} (hc : X.calm = true) (hN : X.N.Nodup) (hi : EvIP X W tg iter fi) (ok : BlkOk X.N X.env.scope scope own) (hS : ∀ k ∈ Sl, k ∈ own.map (·.2))
    (hg : ∀ (s : Shared) (H : Hp) (C : Addr) (cl : List (Str × Addr)) (fp : List Addr), EvG (X.blk s H scope (compEnvC scope cl C X.env) fp) tg Sl g)
    (ht : ∀ (s : Shared) (H : Hp) (C : Addr) (cl : List (Str × Addr)) (fp : List Addr), EvTs (X.blk s H scope (compEnvC scope cl C X.env) fp) W0 ifs t)
    (he : ∀ (s : Shared) (H : Hp) (C : Addr) (cl : List (Str × Addr)) (fp : List Addr), EvE (X.blk s H scope (compEnvC scope cl C X.env) fp) W0 elt f) (hs : ∀ x, foldedSetIterable iter X.env x = pure x := by intro _; rfl) :
    EvE X W (.ListComp elt [⟨tg, iter, ifs, 0⟩] scope pos) (cLcP mk fi g t f (own.map (·.2))) :=
  ⟨pe_imp (pe_lc (g := TG_ X.K Sl g) (tt := TD X.K X.mg W0 RB t) (te := TD X.K X.mg W0 (Rep X.K) f) hc hN hi.pi ok (fun s H C cl fp => (hg s H C cl fp).pg) (fun s H C cl fp => (ht s H C cl fp).pts) (fun s H C cl fp => (he s H C cl fp).pe) hs) fun _ _ _ h => lc_readP hmk hS h⟩
theorem es_setLcP {fi : Env → Store → Res Nat} {mk : List D → Store → D × Store} (hmk : MkOk X.K mk) {i : Nat} {y : Str} {py spos : Pos} {scope : Scope} {own : List (Str × Nat)} (hc : X.calm = true) (hN : X.N.Nodup) (hy : X.N[i]? = some y) (hyl : X.env.scope.names.lookup y = some .local)
    (hsw : swapsWith (.ListComp elt [⟨tg, iter, ifs, 0⟩] scope pos) (some (.Name y py)) spos.line X.env = pure true) (hi : EvIP X W tg iter fi) (ok : BlkOk X.N X.env.scope scope own) (hS : ∀ k ∈ Sl, k ∈ own.map (·.2))
    (hg : ∀ (s : Shared) (H : Hp) (C : Addr) (cl : List (Str × Addr)) (fp : List Addr), EvG (X.blk s H scope (compEnvC scope cl C X.env) fp) tg Sl g)
    (ht : ∀ (s : Shared) (H : Hp) (C : Addr) (cl : List (Str × Addr)) (fp : List Addr), EvTs (X.blk s H scope (compEnvC scope cl C X.env) fp) W0 ifs t)
    (he : ∀ (s : Shared) (H : Hp) (C : Addr) (cl : List (Str × Addr)) (fp : List Addr), EvE (X.blk s H scope (compEnvC scope cl C X.env) fp) W0 elt f) (hs : ∀ x, foldedSetIterable iter X.env x = pure x := by intro _; rfl) :
    EvS X W (.Assign [.Name y py] (.ListComp elt [⟨tg, iter, ifs, 0⟩] scope pos) spos) (sAsg (cLcP mk fi g t f (own.map (·.2))) (gN i)) :=
  ⟨ps_imp (ps_setLc (g := TG_ X.K Sl g) (tt := TD X.K X.mg W0 RB t) (te := TD X.K X.mg W0 (Rep X.K) f) hc hN hy hyl hsw hi.pi ok (fun s H C cl fp => (hg s H C cl fp).pg) (fun s H C cl fp => (ht s H C cl fp).pts) (fun s H C cl fp => (he s H C cl fp).pe) hs)
    fun _ _ _ h => gN_read (fun _ z => lc_readP hmk hS z) h⟩
end
end DL
/-! The data layer, part 22: how the mirrors are worked out, more. -/
namespace DL
open PySem PySem.Spec PyProof.Rows L2
section
variable {en en1 : Env} {M M1 M2 : Store} {d d1 d2 d3 d4 : D} {ds es : List D} {fa fb fc fd : EF} {fr : AF} {p q : SF} {t u : TF} {i j : Nat} {a b : Int} {g : GF} {f : EF} {n : Nat} {body : SF}
@[simp] theorem mDef_1 : mDef 1 n body [d1] M = gcF M (fin (body (start0 n [d1]) M)) := if_pos rfl
@[simp] theorem mDef_2 : mDef 2 n body [d1, d2] M = gcF M (fin (body (start0 n [d1, d2]) M)) := if_pos rfl
@[simp] theorem mDef_3 : mDef 3 n body [d1, d2, d3] M = gcF M (fin (body (start0 n [d1, d2, d3]) M)) := if_pos rfl
@[simp] theorem mDef_4 : mDef 4 n body [d1, d2, d3, d4] M = gcF M (fin (body (start0 n [d1, d2, d3, d4]) M)) := if_pos rfl
@[simp] theorem start0_e : start0 n ds = ds.map some ++ List.replicate (n - ds.length) none := rfl
@[simp] theorem rep_zero {α : Type} {x : α} : List.replicate 0 x = [] := rfl
@[simp] theorem wipe_nil : wipeE en [] = en := rfl
@[simp] theorem wipe_cons {l : List Nat} : wipeE en (i :: l) = (wipeE en l).set i none := rfl
@[simp] theorem tYes_e : tYesC en M = some (.ok true, M) := rfl
@[simp] theorem compF_nil : compF g t f en [] M = some ([], M) := rfl
@[simp] theorem compF_cons : compF g t f en (d :: ds) M = match g d en M with
    | none => none
    | some (en1, M1) => match t en1 M1 with
      | some (.ok true, M2) => match f en1 M2 with
        | some (.ok y, M3) => match compF g t f en ds M3 with
          | some (ys, M4) => some (y :: ys, M4)
          | none => none
        | _ => none
      | some (.ok false, M2) => compF g t f en ds M2
      | _ => none := rfl
@[simp] theorem cLcG_e {mk : List D → Store → D × Store} {fi : AF} {vs : List Nat} : cLcG mk fi g t f vs en M = bnd (fi en M) fun ds M1 =>
    if szOk ds.length = true then (match compF g t f (wipeE en vs) ds M1 with | some (ys, M2) => some (.ok (mk ys M2).1, (mk ys M2).2) | none => none) else none := rfl
@[simp] theorem mkI_e : mkI ds M = (.imm ds, M) := rfl
@[simp] theorem mkC_e : mkC ds M = (.cel M.length, M ++ [ds]) := rfl
/-- a comprehension that leaves the store as it is -/
theorem compF_of {α : Type} (enc : α → D) (p : α → Bool) (F : α → D) : ∀ (l : List α), (∀ x ∈ l, ∃ en1, g (enc x) en M = some (en1, M) ∧ t en1 M = some (.ok (p x), M) ∧ (p x = true → f en1 M = some (.ok (F x), M))) →
    compF g t f en (l.map enc) M = some ((l.filter p).map F, M)
  | [], _ => rfl
  | x :: l, h => by
    obtain ⟨en1, h1, h2, h3⟩ := h x List.mem_cons_self
    have ih := compF_of enc p F l fun y hy => h y (List.mem_cons_of_mem _ hy)
    rw [List.map_cons, compF_cons, h1]
    dsimp only
    rw [h2]
    cases hp : p x with
    | true =>
      dsimp only
      rw [h3 hp]
      dsimp only
      rw [ih, List.filter_cons_of_pos hp, List.map_cons]
    | false =>
      dsimp only
      rw [ih, List.filter_cons_of_neg (by simp [hp])]
theorem lc_of {α : Type} (enc : α → D) (p : α → Bool) (F : α → D) (l : List α) {mk : List D → Store → D × Store} {fi : AF} {vs : List Nat} (hi : fi en M = some (.ok (l.map enc), M)) (hs : l.length ≤ 16777216)
    (h : ∀ x ∈ l, ∃ en1, g (enc x) (wipeE en vs) M = some (en1, M) ∧ t en1 M = some (.ok (p x), M) ∧ (p x = true → f en1 M = some (.ok (F x), M))) :
    cLcG mk fi g t f vs en M = some (.ok (mk ((l.filter p).map F) M).1, (mk ((l.filter p).map F) M).2) := by
  rw [cLcG_e, hi, bnd_ok, if_pos (by unfold szOk; rw [List.length_map]; exact decide_eq_true hs), compF_of enc p F l h]
/-- .. without a condition -/
theorem lc_map {α : Type} (enc F : α → D) (l : List α) {mk : List D → Store → D × Store} {fi : AF} {vs : List Nat} (hi : fi en M = some (.ok (l.map enc), M)) (hs : l.length ≤ 16777216)
    (h : ∀ x ∈ l, ∃ en1, g (enc x) (wipeE en vs) M = some (en1, M) ∧ f en1 M = some (.ok (F x), M)) :
    cLcG mk fi g tYesC f vs en M = some (.ok (mk (l.map F) M).1, (mk (l.map F) M).2) := by
  have := lc_of (t := tYesC) (mk := mk) (vs := vs) enc (fun _ => true) F l hi hs fun x hx => by
    obtain ⟨en1, h1, h2⟩ := h x hx
    exact ⟨en1, h1, rfl, fun _ => h2⟩
  rwa [List.filter_eq_self.mpr (fun _ _ => rfl)] at this
/-- a loop whose body keeps an invariant -/
theorem fLoop_inv {α : Type} (enc : α → D) {g : GF} (P : List α → Env → Store → Prop) (hs : ∀ x l en M, P (x :: l) en M → ∃ en1 M1 en2 M2, g (enc x) en M = some (en1, M1) ∧ (p en1 M1 = some (.nx en2, M2) ∨ p en1 M1 = some (.ct en2, M2)) ∧ P l en2 M2) :
    ∀ (l : List α) (en : Env) (M : Store), P l en M → ∃ en2 M2, fLoop g p (l.map enc) en M = some (.nx en2, M2) ∧ P [] en2 M2
  | [], en, M, h => ⟨en, M, rfl, h⟩
  | x :: l, en, M, h => by
    obtain ⟨en1, M1, en2, M2, h1, h2, h3⟩ := hs x l en M h
    obtain ⟨en3, M3, h4, h5⟩ := fLoop_inv enc P hs l en2 M2 h3
    refine ⟨en3, M3, ?_, h5⟩
    rw [List.map_cons, fLoop_cons, h1]
    dsimp only
    rcases h2 with h2 | h2 <;> (rw [h2]; exact h4)
/-- conditions of the arithmetic -/
theorem mulC_r (h : -(2 ^ 64) < b) (h' : b < 2 ^ 64) : mulC a b = true := by
  unfold mulC
  rw [Bool.or_eq_true, Bool.or_eq_true]
  exact .inl (.inr (decide_eq_true ⟨h, h'⟩))
theorem mulC_l (h : -(2 ^ 64) < a) (h' : a < 2 ^ 64) : mulC a b = true := by
  unfold mulC
  rw [Bool.or_eq_true, Bool.or_eq_true]
  exact .inl (.inl (decide_eq_true ⟨h, h'⟩))
theorem divC_of (h : 0 < b) (h' : b < 2 ^ 200) : divC a b = true := by
  unfold divC
  rw [Bool.and_eq_true, decide_eq_true_eq, decide_eq_true_eq]
  refine ⟨h, ?_⟩
  have h2 : b.natAbs < 2 ^ 200 := by
    have : ((2 : Int) ^ 200) = ((2 ^ 200 : Nat) : Int) := by norm_cast
    omega
  have h3 : b.natAbs ≠ 0 := by omega
  have := (Nat.log2_lt h3).mpr h2
  omega
theorem modC_of (h : 0 < b) : modC a b = true := decide_eq_true h
@[simp] theorem iRng1_e {fr : AF} : iRng1C fr en M = bnd (fr en M) fun xs M1 => match xs with | [.int j] => if smI j = true then some (.ok (rgD 0 j.toNat), M1) else none | _ => none := rfl
@[simp] theorem iRng2_e {fr : AF} : iRng2C fr en M = bnd (fr en M) fun xs M1 => match xs with | [.int i, .int j] => if (smI i && smI j) = true then some (.ok (rgD i (j - i).toNat), M1) else none | _ => none := rfl
theorem smI_of (h : -(2 ^ 62) ≤ a) (h' : a < 2 ^ 62) : smI a = true := by
  unfold smI
  rw [Bool.and_eq_true]
  exact ⟨decide_eq_true h, decide_eq_true h'⟩
/-- lo, lo + 1, .. n of them -/
def rgI (lo : Int) (n : Nat) : List Int := (List.range n).map fun i => lo + (i : Nat)
theorem rgD_eq {lo : Int} : rgD lo n = (rgI lo n).map D.int := by unfold rgD rgI; rw [List.map_map]; rfl
theorem mem_rgI {lo x : Int} : x ∈ rgI lo n ↔ lo ≤ x ∧ x < lo + n := by
  unfold rgI
  rw [List.mem_map]
  constructor
  · rintro ⟨i, hi, rfl⟩
    have := List.mem_range.mp hi
    omega
  · rintro ⟨h1, h2⟩
    exact ⟨(x - lo).toNat, List.mem_range.mpr (by omega), by omega⟩
/-! rows and tables of ints -/
def eRow (r : List Int) : D := .tup (r.map D.int)
def eTab (t : List (List Int)) : D := .tup (t.map eRow)
@[simp] theorem clo_row {n : Nat} {r : List Int} : clo n (eRow r) = true := by unfold eRow; rw [clo_tup]; exact clos_map fun _ => rfl
@[simp] theorem clo_tab {n : Nat} {t : List (List Int)} : clo n (eTab t) = true := by unfold eTab; rw [clo_tup]; exact clos_map fun _ => clo_row
@[simp] theorem notCel_row {r : List Int} : notCel (eRow r) = true := (rfl)
@[simp] theorem notCel_tab {t : List (List Int)} : notCel (eTab t) = true := (rfl)
@[simp] theorem seqI_row {r : List Int} : seqI (eRow r) = some (r.map D.int) := rfl
@[simp] theorem seqI_tab {t : List (List Int)} : seqI (eTab t) = some (t.map eRow) := rfl
@[simp] theorem items_row {r : List Int} : itemsOf M (eRow r) = some (r.map D.int) := rfl
@[simp] theorem items_tab {t : List (List Int)} : itemsOf M (eTab t) = some (t.map eRow) := rfl
@[simp] theorem gLen_row {r : List Int} : gLen [eRow r] M = some (.ok (.int r.length), M) := by show some (Out.ok (D.int (r.map D.int).length), M) = _; rw [List.length_map]
@[simp] theorem gLen_tab {t : List (List Int)} : gLen [eTab t] M = some (.ok (.int t.length), M) := by show some (Out.ok (D.int (t.map eRow).length), M) = _; rw [List.length_map]
@[simp] theorem gIx_row {r : List Int} : gIx (eRow r) (.int a) M = match atI (r.map D.int) a with | some d => some (.ok d, M) | none => none := rfl
@[simp] theorem gIx_tab {t : List (List Int)} : gIx (eTab t) (.int a) M = match atI (t.map eRow) a with | some d => some (.ok d, M) | none => none := rfl
@[simp] theorem gIx_t' : gIx (.tup ds) (.int a) M = match atI ds a with | some d => some (.ok d, M) | none => none := rfl
@[simp] theorem gIx_l' : gIx (.imm ds) (.int a) M = match atI ds a with | some d => some (.ok d, M) | none => none := rfl
@[simp] theorem gIx_s' : gIx (.scr ds) (.int a) M = match atI ds a with | some d => some (.ok d, M) | none => none := rfl
@[simp] theorem atI_0 : atI (d :: ds) 0 = some d := by
  unfold atI ixN
  simp
@[simp] theorem atI_1 : atI (d1 :: d2 :: ds) 1 = some d2 := by
  have := atI_nat (ds := d1 :: d2 :: ds) (i := 1) (by simp)
  simpa using this
@[simp] theorem atI_2 : atI (d1 :: d2 :: d3 :: ds) 2 = some d3 := by
  have := atI_nat (ds := d1 :: d2 :: d3 :: ds) (i := 2) (by simp)
  simpa using this
theorem row_of {r : List Int} : D.tup (r.map D.int) = eRow r := rfl
theorem tab_of {t : List (List Int)} : D.tup (t.map eRow) = eTab t := rfl
theorem row3 {a b c : Int} : D.tup [.int a, .int b, .int c] = eRow [a, b, c] := rfl
theorem row2 {a b : Int} : D.tup [.int a, .int b] = eRow [a, b] := rfl
theorem tab2 {r s : List Int} : D.tup [eRow r, eRow s] = eTab [r, s] := rfl
theorem sq_nonneg (a : Int) : 0 ≤ a * a := by
  rcases Int.le_total 0 a with h | h
  · exact Int.mul_nonneg h h
  · have := Int.mul_nonneg (show 0 ≤ -a by omega) (show 0 ≤ -a by omega)
    rw [Int.neg_mul_neg] at this
    exact this
/-! equality, repr of ints, rows, tables -/
theorem shaped_i {i : Int} : SeqAt.shaped (.int i) = true := by
  show (PyData.canLay0 (.int i) && decide (PyData.depth (.int i) ≤ 64)) = true
  simp [PyData.canLay0, PyData.depth]
theorem shaped_s {x : Str} : SeqAt.shaped (.str x) = PyData.canLay0 (.str x) := by
  show (PyData.canLay0 (.str x) && decide (PyData.depth (.str x) ≤ 64)) = _
  simp [PyData.depth]
theorem depthAll_le {α : Type} {f : α → PyData} {k : Nat} : ∀ {l : List α}, (∀ x ∈ l, (f x).depth ≤ k) → PyData.depthAll (l.map f) ≤ k
  | [], _ => by simp [PyData.depthAll]
  | x :: l, h => by
    simp only [List.map_cons, PyData.depthAll]
    exact Nat.max_le.mpr ⟨h x List.mem_cons_self, depthAll_le fun y hy => h y (List.mem_cons_of_mem _ hy)⟩
theorem canLayAll_of {α : Type} {f : α → PyData} : ∀ {l : List α}, (∀ x ∈ l, (f x).canLay0 = true) → PyData.canLayAll0 (l.map f) = true
  | [], _ => by simp [PyData.canLayAll0]
  | x :: l, h => by
    simp only [List.map_cons, PyData.canLayAll0, Bool.and_eq_true]
    exact ⟨h x List.mem_cons_self, canLayAll_of fun y hy => h y (List.mem_cons_of_mem _ hy)⟩
theorem plains_of {α : Type} {f : α → PyData} : ∀ {l : List α}, (∀ x ∈ l, plainPy (f x) = true) → plainPys (l.map f) = true
  | [], _ => rfl
  | x :: l, h => by
    simp only [List.map_cons, plainPys, Bool.and_eq_true]
    exact ⟨h x List.mem_cons_self, plains_of fun y hy => h y (List.mem_cons_of_mem _ hy)⟩
theorem bulkAll_le {α : Type} {f : α → PyData} {k : Nat} : ∀ {l : List α}, (∀ x ∈ l, (f x).bulk ≤ k) → PyData.bulkAll (l.map f) ≤ l.length * (k + 1)
  | [], _ => by simp [PyData.bulkAll]
  | x :: l, h => by
    have h1 := h x List.mem_cons_self
    have h2 := bulkAll_le (l := l) fun y hy => h y (List.mem_cons_of_mem _ hy)
    simp only [List.map_cons, PyData.bulkAll, List.length_cons, Nat.succ_mul]
    omega
theorem eqvAll_of {α : Type} [BEq α] {f : α → PyData} (h : ∀ x y, PyData.eqv (f x) (f y) = (x == y)) : ∀ {l m : List α}, PyData.eqvAll (l.map f) (m.map f) = (l == m)
  | [], [] => by simp [PyData.eqvAll]
  | [], _ :: _ => by simp [PyData.eqvAll]
  | _ :: _, [] => by simp [PyData.eqvAll]
  | x :: l, y :: m => by
    simp only [List.map_cons, PyData.eqvAll, h, eqvAll_of h (l := l) (m := m)]
    rfl
theorem toPys_map {α : Type} {f : α → D} {g : α → PyData} (h : ∀ x, toPy (f x) = some (g x)) : ∀ {l : List α}, toPys (l.map f) = some (l.map g)
  | [] => rfl
  | x :: l => by simp only [List.map_cons, toPys, h, toPys_map h (l := l)]
def pRow (r : List Int) : PyData := .tuple (r.map PyData.int)
def pTab (t : List (List Int)) : PyData := .tuple (t.map pRow)
@[simp] theorem toPy_int : toPy (.int a) = some (.int a) := rfl
theorem toPy_row {r : List Int} : toPy (eRow r) = some (pRow r) := by
  unfold eRow pRow
  simp only [toPy]
  rw [toPys_map (g := PyData.int) fun _ => rfl]
  rfl
theorem toPy_tab {t : List (List Int)} : toPy (eTab t) = some (pTab t) := by
  unfold eTab pTab
  simp only [toPy]
  rw [toPys_map (g := pRow) fun _ => toPy_row]
  rfl
theorem toPyM_row {r : List Int} : toPyM M (eRow r) = some (pRow r) := toPy_row (r := r)
theorem toPyM_tab {t : List (List Int)} : toPyM M (eTab t) = some (pTab t) := toPy_tab (t := t)
theorem eqv_int {a b : Int} : PyData.eqv (.int a) (.int b) = (a == b) := by simp [PyData.eqv]
theorem eqv_row {r s : List Int} : PyData.eqv (pRow r) (pRow s) = (r == s) := by
  unfold pRow
  simp only [PyData.eqv]
  exact eqvAll_of fun x y => eqv_int
theorem eqv_tab {r s : List (List Int)} : PyData.eqv (pTab r) (pTab s) = (r == s) := by
  unfold pTab
  simp only [PyData.eqv]
  exact eqvAll_of fun x y => eqv_row
theorem depth_row {r : List Int} : (pRow r).depth ≤ 1 := by
  unfold pRow
  simp only [PyData.depth]
  have := depthAll_le (f := PyData.int) (k := 0) (l := r) fun x _ => by simp [PyData.depth]
  omega
theorem depth_tab {r : List (List Int)} : (pTab r).depth ≤ 2 := by
  unfold pTab
  simp only [PyData.depth]
  have := depthAll_le (f := pRow) (k := 1) (l := r) fun x _ => depth_row
  omega
theorem lay_row {r : List Int} : (pRow r).canLay0 = true := by
  unfold pRow
  simp only [PyData.canLay0]
  exact canLayAll_of fun x _ => by simp [PyData.canLay0]
theorem lay_tab {r : List (List Int)} : (pTab r).canLay0 = true := by
  unfold pTab
  simp only [PyData.canLay0]
  exact canLayAll_of fun x _ => lay_row
theorem shaped_row {r : List Int} : SeqAt.shaped (pRow r) = true := by
  show ((pRow r).canLay0 && decide ((pRow r).depth ≤ 64)) = true
  rw [lay_row, decide_eq_true (Nat.le_trans depth_row (by decide))]; rfl
theorem shaped_tab {r : List (List Int)} : SeqAt.shaped (pTab r) = true := by
  show ((pTab r).canLay0 && decide ((pTab r).depth ≤ 64)) = true
  rw [lay_tab, decide_eq_true (Nat.le_trans depth_tab (by decide))]; rfl
theorem gEq_of {neg : Bool} {x y : D} {u v : PyData} (h1 : toPyM M x = some u) (h2 : toPyM M y = some v) (h3 : SeqAt.shaped u = true) (h4 : SeqAt.shaped v = true) (hx : ∀ s, x ≠ .str s) : gEq neg x y M = some (.ok (.bl (if neg = true then !(PyData.eqv u v) else PyData.eqv u v)), M) := by
  have e : gEq neg x y M = match eqM M x y with | some b => some (.ok (.bl (if neg = true then !b else b)), M) | none => none := by
    cases x <;> first | rfl | exact absurd rfl (hx _)
  rw [e]
  unfold eqM
  rw [h1, h2]
  dsimp only
  rw [h3, h4]
  rfl
@[simp] theorem gEq_str {neg : Bool} {s t : Str} : gEq neg (.str s) (.str t) M = some (.ok (.bl (if neg = true then !(s == t) else s == t)), M) := rfl
@[simp] theorem gEq_int {neg : Bool} : gEq neg (.int a) (.int b) M = some (.ok (.bl (if neg = true then !(a == b) else a == b)), M) := by
  rw [gEq_of (u := .int a) (v := .int b) rfl rfl shaped_i shaped_i (fun _ z => by cases z), eqv_int]
@[simp] theorem gEq_row {neg : Bool} {r s : List Int} : gEq neg (eRow r) (eRow s) M = some (.ok (.bl (if neg = true then !(r == s) else r == s)), M) := by
  rw [gEq_of (u := pRow r) (v := pRow s) toPyM_row toPyM_row shaped_row shaped_row (fun _ z => by cases z), eqv_row]
@[simp] theorem gEq_tab {neg : Bool} {r s : List (List Int)} : gEq neg (eTab r) (eTab s) M = some (.ok (.bl (if neg = true then !(r == s) else r == s)), M) := by
  rw [gEq_of (u := pTab r) (v := pTab s) toPyM_tab toPyM_tab shaped_tab shaped_tab (fun _ z => by cases z), eqv_tab]
/-- ints of fewer than 1920 bits -/
def shI (i : Int) : Prop := i.natAbs.log2 < 1920
theorem shI_of {i : Int} (h : i.natAbs < 2 ^ 1000) : shI i := by
  unfold shI
  by_cases h0 : i.natAbs = 0
  · rw [h0]; decide
  · have := (Nat.log2_lt h0).mpr h
    omega
theorem plain_row {r : List Int} (h : ∀ x ∈ r, shI x) : plainPy (pRow r) = true := by
  unfold pRow
  simp only [plainPy]
  exact plains_of fun x hx => by simp only [plainPy]; exact decide_eq_true (h x hx)
theorem plain_tab {t : List (List Int)} (h : ∀ r ∈ t, ∀ x ∈ r, shI x) : plainPy (pTab t) = true := by
  unfold pTab
  simp only [plainPy]
  exact plains_of fun x hx => plain_row (h x hx)
theorem bulk_row {r : List Int} : (pRow r).bulk ≤ r.length := by
  unfold pRow
  simp only [PyData.bulk]
  have := bulkAll_le (f := PyData.int) (k := 0) (l := r) fun x _ => by simp [PyData.bulk]
  omega
theorem bulk_tab {t : List (List Int)} {k : Nat} (h : ∀ r ∈ t, r.length ≤ k) : (pTab t).bulk ≤ t.length * (k + 1) := by
  unfold pTab
  simp only [PyData.bulk]
  exact bulkAll_le fun x hx => Nat.le_trans bulk_row (h x hx)
end
end DL
/-! The data layer, part 23: dicts whose keys are tuples of ints, and of such tuples. -/
namespace DL
open PySem PySem.Spec PyProof.Rows L2 PySem.Calls
mutual
def KeyV (K : PySem.W.Frag) (H : Hp) : NestedKey → V → Prop
  | .num i, v => v = .int i
  | .tup ks, v => ∃ a vs, v = .ref a ∧ SqT K H a vs ∧ KeyVs K H ks vs
  | _, _ => False
def KeyVs (K : PySem.W.Frag) (H : Hp) : List NestedKey → List V → Prop
  | [], vs => vs = []
  | k :: ks, vs => ∃ v r, vs = v :: r ∧ KeyV K H k v ∧ KeyVs K H ks r
end
section
variable {X : Cx} {W : WX} {K : PySem.W.Frag} {mg : Str → Option Value} {I I' : Ow} {H H' : Hp} {M M' : Store} {σ : L2.St} {en : Env} {Z : Ends}
mutual
theorem keyV_of : ∀ {d : D} {v : V} {k : NestedKey}, Rep K I H d v → keyN d = some k → KeyV K H k v
  | .int i, v, k, h, e => by
    simp only [keyN, Option.some.injEq] at e; subst e
    simp only [Rep] at h
    simp only [KeyV]; exact h
  | .tup ds, v, k, h, e => by
    simp only [keyN] at e
    split at e
    · rename_i ks q
      cases e
      simp only [Rep] at h
      obtain ⟨a, vs, h1, h2, h3⟩ := h
      simp only [KeyV]
      exact ⟨a, vs, h1, h2.sq, keyVs_of h3 q⟩
    · cases e
  | .non, _, _, _, e => by simp only [keyN] at e; cases e
  | .bl _, _, _, _, e => by simp only [keyN] at e; cases e
  | .str _, _, _, _, e => by simp only [keyN] at e; cases e
  | .imm _, _, _, _, e => by simp only [keyN] at e; cases e
  | .cel _, _, _, _, e => by simp only [keyN] at e; cases e
  | .ty _, _, _, _, e => by simp only [keyN] at e; cases e
  | .scr _, _, _, _, e => by simp only [keyN] at e; cases e
  | .dic _, _, _, _, e => by simp only [keyN] at e; cases e
theorem keyVs_of : ∀ {ds : List D} {vs : List V} {ks : List NestedKey}, Reps K I H ds vs → keyNs ds = some ks → KeyVs K H ks vs
  | [], vs, ks, h, e => by
    simp only [keyNs, Option.some.injEq] at e; subst e
    simp only [Reps] at h
    simp only [KeyVs]; exact h
  | d :: ds, vs, ks, h, e => by
    simp only [keyNs] at e
    split at e
    · rename_i k ks' q1 q2
      cases e
      simp only [Reps] at h
      obtain ⟨v, r, h1, h2, h3⟩ := h
      simp only [KeyVs]
      exact ⟨v, r, h1, keyV_of h2 q1, keyVs_of h3 q2⟩
    · cases e
end
section
variable {pins : List (Addr × Obj)} {s : Shared} {a b : Addr} {xs : List KE3}
mutual
theorem keyV_is (Iv : Inv X pins σ H s) : ∀ {k : NestedKey} {v : V} {u : Value}, KeyV X.K H k v → RelV v u → NestedIs s.heap k u
  | .num i, v, u, h, r => by
    simp only [KeyV] at h; subst h
    obtain ⟨t, rfl⟩ := r
    exact .int i t
  | .tup ks, v, u, h, r => by
    simp only [KeyV] at h
    obtain ⟨a, vs, rfl, h2, h3⟩ := h
    obtain rfl : u = Value.ref a := r
    obtain ⟨its, r1, ⟨o, ho, hc, n, hd⟩, _⟩ := Iv.tuple h2
    exact .tup ho hc hd (keyVs_is Iv h3 (by simpa using r1))
  | .none, _, _, h, _ => by simp only [KeyV] at h
  | .text _, _, _, h, _ => by simp only [KeyV] at h
theorem keyVs_is (Iv : Inv X pins σ H s) : ∀ {ks : List NestedKey} {vs : List V} {us : List Value}, KeyVs X.K H ks vs → Vals vs us → NestedAll s.heap ks us
  | [], vs, us, h, r => by
    simp only [KeyVs] at h; subst h
    cases r
    exact .nil
  | k :: ks, vs, us, h, r => by
    simp only [KeyVs] at h
    obtain ⟨v, rs, rfl, h2, h3⟩ := h
    cases r with
    | cons r1 r2 => exact .cons (keyV_is Iv h2 r1) (keyVs_is Iv h3 r2)
end
/-- the keys of a dict, as they stand -/
def XsOk (K : PySem.W.Frag) (H : Hp) (xs : List KE3) : Prop := ∀ x ∈ xs, KeyV K H x.1 (.ref x.2.1) ∧ x.1.depth ≤ 8 ∧ ∀ w, x.1.hash w = kHash x.1
theorem dicOf (Iv : Inv X pins σ H s) (e : H a = some (dicO a xs)) (ok : XsOk X.K H xs) : s.heap.DictOfH (nestedKind X.prog X.w) a xs ∧ (a == sysModules) = false ∧ xs.length ≤ sizeLine := by
  obtain ⟨⟨h1, h2, h3, o, es, ep, h4, h5, h6, h7⟩, _, _⟩ := (show ObjOk X.prog X.w H s.heap a (dicO a xs) from Iv.hok a _ e)
  refine ⟨⟨o, es, ep, h4, h5, h6, ?_, fun x hx => ⟨keyV_is Iv (ok x hx).1 rfl, (ok x hx).2.1⟩, h3⟩, h1, h2⟩
  rw [h7]
  refine List.map_congr_left fun x hx => ?_
  show (⟨kHash x.1, .ref x.2.1, x.2.2⟩ : DictEntry) = ⟨(nestedKind X.prog X.w).hash x.1, .ref x.2.1, x.2.2⟩
  rw [← (ok x hx).2.2 X.w]
  rfl
theorem dicPhi_stay {h1 h2 : Heap} (h : dicPhi a xs h1) (k : ∀ o, h1.get? a = some o → h2.get? a = some o) : dicPhi a xs h2 := by
  obtain ⟨x1, x2, x3, o, es, ep, x4, x5⟩ := h
  exact ⟨x1, x2, x3, o, es, ep, k o x4, x5⟩
theorem ext_of {P : Program} {w : World} {H' : Hp} {h : Heap} (x : dicPhi a xs h) : ObjOk P w H' h a (dicO a xs) := by
  have y := x
  obtain ⟨_, _, _, o, _, _, x4, _⟩ := x
  exact ⟨y, ⟨o, x4⟩, fun _ _ p k => dicPhi_stay p k⟩
theorem phi_of {P : Program} {w : World} {h : Heap} (d : h.DictOfH (nestedKind P w) a xs) (ha : (a == sysModules) = false) (hl : xs.length ≤ sizeLine) (hh : ∀ x ∈ xs, x.1.hash w = kHash x.1) : dicPhi a xs h := by
  obtain ⟨o, es, ep, h1, h2, h3, h4, _, h5⟩ := d
  refine ⟨ha, hl, h5, o, es, ep, h1, h2, h3, ?_⟩
  rw [h4]
  refine List.map_congr_left fun x hx => ?_
  show (⟨(nestedKind P w).hash x.1, .ref x.2.1, x.2.2⟩ : DictEntry) = ⟨kHash x.1, .ref x.2.1, x.2.2⟩
  rw [← hh x hx]
  rfl
theorem room9 {A : Around} (hu : A.units + 9 < cLine) : (nestedKind X.prog X.w).room A.in1 := by
  show A.units + 1 + 8 < cLine
  omega
variable {A : Around} {E : Value → Shared → Prop} {y v d : V} {u r : Value} {nk : NestedKey}
theorem x_getItem {p : Addr × Value} {Q : Value → Shared → Prop} (hu : A.units + 9 < cLine) (Iv : Inv X pins σ H s) (e : H a = some (dicO a xs)) (ok : XsOk X.K H xs) (hk : KeyV X.K H nk (.ref b)) (hd : nk.depth ≤ 8)
    (hp : atKey xs nk = some p) (h : ∀ s', Inv X pins σ H s' → Q p.2 s') : wpAny (model X.prog X.w) A (getItem (.ref a) (.ref b)) Q E s :=
  wpAny_getItem_heap (room9 hu) ⟨keyV_is Iv hk rfl, hd⟩ (dicOf Iv e ok).1 hp (h _ (Iv.tok _))
theorem x_in {Q : Value → Shared → Prop} (hu : A.units + 9 < cLine) (Iv : Inv X pins σ H s) (e : H a = some (dicO a xs)) (ok : XsOk X.K H xs) (hk : KeyV X.K H nk (.ref b)) (hd : nk.depth ≤ 8)
    (h : ∀ s', Inv X pins σ H s' → Q (.bool (atKey xs nk).isSome) s') : wpAny (model X.prog X.w) A (compareOp .In (.ref b) (.ref a)) Q E s :=
  wpAny_in_heap (room9 hu) ⟨keyV_is Iv hk rfl, hd⟩ (dicOf Iv e ok).2.1 (dicOf Iv e ok).1 (h _ (Iv.tok _))
theorem x_notIn {Q : Value → Shared → Prop} (hu : A.units + 9 < cLine) (Iv : Inv X pins σ H s) (e : H a = some (dicO a xs)) (ok : XsOk X.K H xs) (hk : KeyV X.K H nk (.ref b)) (hd : nk.depth ≤ 8)
    (h : ∀ s', Inv X pins σ H s' → Q (.bool (!(atKey xs nk).isSome)) s') : wpAny (model X.prog X.w) A (compareOp .NotIn (.ref b) (.ref a)) Q E s :=
  wpAny_notIn_heap (room9 hu) ⟨keyV_is Iv hk rfl, hd⟩ (dicOf Iv e ok).2.1 (dicOf Iv e ok).1 (h _ (Iv.tok _))
theorem x_get2 {Q : Value → Shared → Prop} (hu : A.units + 9 < cLine) (Iv : Inv X pins σ H s) (e : H a = some (dicO a xs)) (ok : XsOk X.K H xs) (hk : KeyV X.K H nk (.ref b)) (hd : nk.depth ≤ 8)
    (h : ∀ s', Inv X pins σ H s' → Q (((atKey xs nk).map (·.2)).getD r) s') : wpAny (model X.prog X.w) A (call (.builtin "dict.get") [.ref a, .ref b, r]) Q E s :=
  call_meetsIn PySem.F.slot_dict_get (dicOf Iv e ok).1.typeIs PySem.F.entry_dict_get (PySem.F.args_dict_get_3 _ _ _) (meetsH_dict_get_default (nestedKind X.prog X.w) a b (dicOf Iv e ok).2.1 r)
    ⟨room9 hu, nk, xs, ⟨keyV_is Iv hk rfl, hd⟩, (dicOf Iv e ok).1, h _ (Iv.tok _)⟩
theorem storedH_len {xs : List KE3} {k : NestedKey} {b : Addr} {u : Value} : (storedH xs k b u).length ≤ xs.length + 1 := by
  unfold storedH
  split
  · simp
  · simp
theorem storedH_mem {xs : List KE3} {k : NestedKey} {b : Addr} {u : Value} {x : KE3} (h : x ∈ storedH xs k b u) : (∃ y ∈ xs, x.1 = y.1 ∧ x.2.1 = y.2.1) ∨ (x.1 = k ∧ x.2.1 = b) := by
  unfold storedH at h
  split at h
  · obtain ⟨y, hy, rfl⟩ := List.mem_map.mp h
    refine .inl ⟨y, hy, ?_⟩
    unfold putAt
    split <;> exact ⟨rfl, rfl⟩
  · rcases List.mem_append.mp h with h | h
    · exact .inl ⟨x, h, rfl, rfl⟩
    · rw [List.mem_singleton.mp h]; exact .inr ⟨rfl, rfl⟩
theorem x_setItem {Q : Unit → Shared → Prop} (hu : A.units + 9 < cLine) (Iv : Inv X pins σ H s) (e : H a = some (dicO a xs)) (ok : XsOk X.K H xs) (hk : KeyV X.K H nk (.ref b)) (hd : nk.depth ≤ 8) (hh : ∀ w, nk.hash w = kHash nk)
    (hl : xs.length < sizeLine) (h : ∀ s', Inv X pins σ (upd H a (dicO a (storedH xs nk b r))) s' → Q () s') : wpAny (model X.prog X.w) A (setItem (.ref a) (.ref b) r) Q E s := by
  obtain ⟨d1, d2, d3⟩ := dicOf Iv e ok
  refine wpAny_setItem_heap (hsz := d3) (room9 hu) ⟨keyV_is Iv hk rfl, hd⟩ d1 fun h' dd' hs => h _ ?_
  have ph := phi_of dd' d2 (by have := storedH_len (xs := xs) (k := nk) (b := b) (u := r); omega) fun x hx => by
    rcases storedH_mem hx with ⟨y, hy, e1, _⟩ | ⟨e1, _⟩
    · rw [e1]; exact (ok y hy).2.2 _
    · rw [e1]; exact hh _
  have eo := ext_of (P := X.prog) (w := X.w) (H' := upd H a (dicO a (storedH xs nk b r))) ph
  obtain ⟨_, _, _, o, _, _, x4, _⟩ := ph
  exact d_write Iv (by rw [e]; exact True.intro) hs ⟨o, x4⟩ eo
theorem xs_nil {K : PySem.W.Frag} {H : Hp} : XsOk K H [] := fun _ h => nomatch h
end
end
end DL
/-! The data layer, part 24: dicts in the store: {}, d[k], d.get(k, x), d[k] = v, k in d. -/
namespace DL
open PySem PySem.Spec PyProof.Rows L2 PySem.Calls
/-- what a dict's pairs hold at a key -/
def kvAt (nk : NestedKey) : List D → Option D
  | [] => none
  | .tup [k, x] :: r => if keyN k = some nk then some x else kvAt nk r
  | _ :: r => kvAt nk r
def kvRep (nk : NestedKey) (x : D) : List D → List D
  | [] => []
  | .tup [k, y] :: r => (if keyN k = some nk then .tup [k, x] else .tup [k, y]) :: kvRep nk x r
  | d :: r => d :: kvRep nk x r
def kvPut (nk : NestedKey) (k x : D) (ds : List D) : List D := if (kvAt nk ds).isSome = true then kvRep nk x ds else ds ++ [.tup [k, x]]
def keyOk (y : D) : Option NestedKey := match y with
  | .tup ds => (match keyN (.tup ds) with | some k => if k.depth ≤ 8 then some k else none | none => none)
  | _ => none
theorem keyOk_ok {y : D} {k : NestedKey} (h : keyOk y = some k) : (keyN y = some k ∧ k.depth ≤ 8) ∧ ∃ ds, y = .tup ds := by
  unfold keyOk at h
  split at h
  · split at h
    · split at h
      · cases h; rename_i e q; exact ⟨⟨e, q⟩, _, rfl⟩
      · cases h
    · cases h
  · cases h
section
variable {X : Cx} {W : WX} {K : PySem.W.Frag} {mg : Str → Option Value} {I I' : Ow} {H H' : Hp} {M M' : Store} {σ : L2.St} {en : Env} {Z : Ends}
theorem RepKV.ok : ∀ {ds : List D} {xs : List KE3}, RepKV K I H ds xs → XsOk K H xs
  | [], _, h => by
    have h : _ = [] := h
    subst h; exact xs_nil
  | _ :: _, _, ⟨k, x, nk, b, u, v, r, h1, h2, h3, h4, h5, h6, h7⟩ => by
    subst h2
    intro y hy
    rcases List.mem_cons.mp hy with e | hy
    · subst e
      exact ⟨keyV_of h4 h3.1, h3.2, fun w => kHash_is h3.1⟩
    · exact RepKV.ok h7 y hy
theorem RepKV.length : ∀ {ds : List D} {xs : List KE3}, RepKV K I H ds xs → ds.length = xs.length
  | [], _, h => by
    have h : _ = [] := h
    subst h; rfl
  | _ :: _, _, ⟨k, x, nk, b, u, v, r, h1, h2, h3, h4, h5, h6, h7⟩ => by
    subst h2
    rw [List.length_cons, List.length_cons, RepKV.length h7]
theorem atKey_cons {nk k : NestedKey} {p : Addr × Value} {xs : List KE3} : atKey ((nk, p) :: xs) k = if nk = k then some p else atKey xs k := by
  unfold atKey
  rw [List.find?_cons]
  by_cases e : nk = k
  · simp [e]
  · simp [e]
theorem RepKV.at : ∀ {ds : List D} {xs : List KE3} (k : NestedKey), RepKV K I H ds xs → (kvAt k ds = none ∧ atKey xs k = none) ∨ ∃ x p v, kvAt k ds = some x ∧ atKey xs k = some p ∧ Rep K I H x v ∧ RelV v p.2
  | [], _, k, h => by
    have h : _ = [] := h
    subst h; exact .inl ⟨rfl, rfl⟩
  | _ :: _, _, k, ⟨k0, x, nk, b, u, v, r, h1, h2, h3, h4, h5, h6, h7⟩ => by
    subst h1; subst h2
    rw [atKey_cons]
    unfold kvAt
    by_cases e : nk = k
    · subst e
      rw [if_pos h3.1, if_pos rfl]
      exact .inr ⟨x, (b, u), v, rfl, rfl, h5, h6⟩
    · rw [if_neg (by rw [h3.1]; exact fun z => e (Option.some.inj z)), if_neg e]
      exact RepKV.at k h7
theorem RepKV.snoc {k x : D} {nk : NestedKey} {b : Addr} {v : V} {u : Value} (a1 : keyN k = some nk ∧ nk.depth ≤ 8) (a2 : Rep K I H k (.ref b)) (a3 : Rep K I H x v) (a4 : RelV v u) : ∀ {ds : List D} {xs : List KE3}, RepKV K I H ds xs → RepKV K I H (ds ++ [.tup [k, x]]) (xs ++ [(nk, b, u)])
  | [], _, h => by
    have h : _ = [] := h
    subst h
    exact ⟨k, x, nk, b, u, v, [], rfl, rfl, a1, a2, a3, a4, rfl⟩
  | _ :: _, _, ⟨k0, x0, nk0, b0, u0, v0, r, h1, h2, h3, h4, h5, h6, h7⟩ => by
    subst h2
    exact ⟨k0, x0, nk0, b0, u0, v0, r ++ [(nk, b, u)], h1, rfl, h3, h4, h5, h6, RepKV.snoc a1 a2 a3 a4 h7⟩
theorem RepKV.rep {x : D} {nk : NestedKey} {v : V} {u : Value} (a3 : Rep K I H x v) (a4 : RelV v u) : ∀ {ds : List D} {xs : List KE3}, RepKV K I H ds xs → RepKV K I H (kvRep nk x ds) (xs.map (putAt nk u))
  | [], _, h => by
    have h : _ = [] := h
    subst h
    exact rfl
  | _ :: _, _, ⟨k0, x0, nk0, b0, u0, v0, r, h1, h2, h3, h4, h5, h6, h7⟩ => by
    subst h1; subst h2
    rw [List.map_cons]
    unfold kvRep putAt
    by_cases e : nk0 = nk
    · subst e
      rw [if_pos h3.1, if_pos rfl]
      exact ⟨k0, x, nk0, b0, u, v, _, rfl, rfl, h3, h4, a3, a4, RepKV.rep a3 a4 h7⟩
    · rw [if_neg (by rw [h3.1]; exact fun z => e (Option.some.inj z)), if_neg e]
      exact ⟨k0, x0, nk0, b0, u0, v0, _, rfl, rfl, h3, h4, h5, h6, RepKV.rep a3 a4 h7⟩
theorem RepKV.put {k x : D} {nk : NestedKey} {b : Addr} {v : V} {u : Value} (a1 : keyN k = some nk ∧ nk.depth ≤ 8) (a2 : Rep K I H k (.ref b)) (a3 : Rep K I H x v) (a4 : RelV v u) {ds : List D} {xs : List KE3} (h : RepKV K I H ds xs) : RepKV K I H (kvPut nk k x ds) (storedH xs nk b u) := by
  unfold kvPut storedH
  rcases h.at nk with ⟨e1, e2⟩ | ⟨y, p, w, e1, e2, _⟩
  · rw [e1, e2]
    exact h.snoc a1 a2 a3 a4
  · rw [e1, e2]
    exact h.rep a3 a4
/-! ### {} -/
def cDic0 : EF := fun _ M => some (.ok (.dic M.length), M ++ [[]])
def tDicN : TE := fun _ H Q => ∀ p, H p = none → Q (.ref p) (upd H p (dicO p []))
theorem pe_dicN {pos : Pos} : PE X (.Dict [] [] pos) tDicN := ⟨fun pins s σ H Q Iv h =>
  wpAny_Dict_empty ⟨.ref s.heap.objs.size, _, Iv.laid (a := s.heap.objs.size) (o := dicO s.heap.objs.size []) (t' := s.toks) (fun _ _ q => Heap.get?_push_of_some _ q) (Nat.le_refl _)
    (ext_of ⟨beq_eq_false_iff_ne.mpr (Ne.symm (Nat.ne_of_lt Iv.big)), Nat.zero_le _, List.nodup_nil, _, #[], 0, Heap.get?_push_size _ rfl, ⟨rfl, rfl, rfl⟩, rfl, rfl⟩), rfl, h _ (Iv.hok.fresh (Nat.le_refl _))⟩⟩
theorem ev_dic0 {pos : Pos} : EvE X W (.Dict [] [] pos) cDic0 := by
  refine ⟨pe_imp pe_dicN fun σ H Q h p hp => ?_⟩
  obtain ⟨I, M, en, S, r, k⟩ := h
  have k : Kp X.K X.mg W (Rep X.K) (some (.ok (.dic M.length), M ++ [[]])) I H σ Q := k
  refine k.ok' (Ext.newD hp (S.fresh hp).1) (S.newD hp (ds := []) rfl) ?_
  simp only [Rep]
  exact ⟨p, rfl, by rw [← S.len]; simp [Ow.addD], List.mem_cons_self⟩
/-! ### d[k] -/
def dAt (n : Nat) (y : D) (M : Store) : Option (Option D) := match M[n]?, keyOk y with
  | some ds, some nk => some (kvAt nk ds)
  | _, _ => none
def cDGet (fd fk : EF) : EF := fun en M => bnd (fd en M) fun x M1 => bnd (fk en M1) fun y M2 => match x with
  | .dic n => match dAt n y M2 with | some (some z) => some (.ok z, M2) | _ => none
  | _ => none
def KnownAt (K : PySem.W.Frag) (H : Hp) (a : Addr) (xs : List KE3) (y : V) (nk : NestedKey) : Prop := H a = some (dicO a xs) ∧ XsOk K H xs ∧ ∃ b, y = .ref b ∧ KeyV K H nk (.ref b) ∧ nk.depth ≤ 8
theorem known_of {n : Nat} {a : Addr} {ds : List D} {y : D} {v : V} {nk : NestedKey} (S : Sto K I H M) (h : I.AtD n a) (hm : M[n]? = some ds) (ry : Rep K I H y v) (hk : keyOk y = some nk) :
    ∃ xs, RepKV K I H ds xs ∧ KnownAt K H a xs v nk := by
  obtain ⟨xs, h1, h2⟩ := S.atD n a ds h hm
  obtain ⟨⟨k1, k2⟩, es, rfl⟩ := keyOk_ok hk
  have ry2 := ry
  simp only [Rep] at ry2
  obtain ⟨b, vs, rfl, _⟩ := ry2
  exact ⟨xs, h2, h1, h2.ok, b, rfl, keyV_of ry k1, k2⟩
variable {o i e f value : Expr} {pos pos' apos cpos : Pos} {td ty tv tx : TE} {fd fk fv fx : EF} {k : Nat}
theorem dicAt (S : Sto K I H M) {n : Nat} {v : V} (h : Rep K I H (.dic n) v) : ∃ a, v = .ref a ∧ I.AtD n a := by
  simp only [Rep] at h
  exact h
theorem dic_typeIs {pins : List (Addr × Obj)} {s : Shared} {a : Addr} {xs : List KE3} (Iv : Inv X pins σ H s) (e : H a = some (dicO a xs)) (ok : XsOk X.K H xs) : s.TypeIs (.ref a) "dict" ∧ ∀ b, Value.ref a = .ref b → ∃ ob, s.heap.get? b = some ob ∧ ob.dict = none := by
  have d := (dicOf Iv e ok).1
  refine ⟨d.typeIs, fun b q => ?_⟩
  cases q
  obtain ⟨ob, _, _, h1, h2, _⟩ := d
  exact ⟨ob, h1, h2.2.1⟩
def tXGet (K : PySem.W.Frag) (td ty : TE) : TE := fun σ H Q => td σ H fun x H1 => ty σ H1 fun y H2 => ∃ a xs nk p v, x = .ref a ∧ KnownAt K H2 a xs y nk ∧ atKey xs nk = some p ∧ RelV v p.2 ∧ Q v H2
theorem pe_xget (hu : X.A.units + 9 < cLine) (ho : PE X o td) (hi : PE X i ty) (hs : NoSl i) : PE X (.Subscript o i pos) (tXGet X.K td ty) := by
  refine ⟨fun pins s σ H Q Iv h => ?_⟩
  refine subD_of PySem.F.slot_dict_getitem.lookup hs (thn (ho.run pins s σ H _ Iv h) fun u s1 ⟨x, H1, I1, rx, q1⟩ => thn (hi.run pins s1 σ H1 _ I1 q1) fun iv s2 ⟨y, H2, I2, ry, a, xs, nk, p, v, ex, ⟨g1, g2, b, ey, g3, g4⟩, hp, rv, q2⟩ => ?_)
  subst ex; subst ey
  obtain rfl : u = Value.ref a := rx
  obtain rfl : iv = Value.ref b := ry
  exact ⟨(dic_typeIs I2 g1 g2).1, x_getItem hu I2 g1 g2 g3 g4 hp fun s3 I3 => ⟨v, H2, I3, rv, q2⟩⟩
theorem ev_dget (hu : X.A.units + 9 < cLine) (ho : EvE X W o fd) (hi : EvE X W i fk) (hs : NoSl i := by intro _ _; rfl) : EvE X W (.Subscript o i pos) (cDGet fd fk) := by
  refine ⟨pe_imp (pe_xget hu ho.pe hi.pe hs) fun σ H Q h => ?_⟩
  obtain ⟨I, M, en, S, r, k⟩ := h
  refine ⟨I, M, en, S, r, Kp.bind k fun x M1 I1 H1 u1 e1 S1 r1 k1 => ?_⟩
  refine ⟨I1, M1, en, S1, r.mono e1, Kp.bind k1 fun y M2 I2 H2 u2 e2 S2 r2 k2 => ?_⟩
  cases x <;> (try exact k2.elim)
  rename_i n
  dsimp only at k2
  obtain ⟨a, rfl, ha⟩ := dicAt S1 r1
  unfold dAt at k2
  cases qm : M2[n]? with
  | none => rw [qm] at k2; exact k2.elim
  | some ds =>
  cases qk : keyOk y with
  | none => rw [qm, qk] at k2; exact k2.elim
  | some nk =>
  rw [qm, qk] at k2
  dsimp only at k2
  obtain ⟨xs, h1, h2⟩ := known_of S2 (e2.getD ha) qm r2 qk
  rcases h1.at nk with ⟨z, _⟩ | ⟨z, p, v, z1, z2, z3, z4⟩
  · rw [z] at k2; exact k2.elim
  · rw [z1] at k2
    exact ⟨a, xs, nk, p, v, rfl, h2, z2, z4, k2.ok S2 z3⟩
/-! ### d.get(k, x) -/
def cDGet2 (fd fk fx : EF) : EF := fun en M => bnd (fd en M) fun x M1 => match x with
  | .dic n => if n < M1.length then bnd (fk en M1) fun y M2 => bnd (fx en M2) fun z M3 => match dAt n y M3 with | some (some w) => some (.ok w, M3) | some none => some (.ok z, M3) | none => none else none
  | _ => none
def tXGet2 (K : PySem.W.Frag) (td ty tx : TE) : TE := fun σ H Q => td σ H fun x H1 => ∃ a xs0, x = .ref a ∧ H1 a = some (dicO a xs0) ∧ XsOk K H1 xs0 ∧ ty σ H1 fun y H2 => tx σ H2 fun z H3 =>
  ∃ xs nk w, KnownAt K H3 a xs y nk ∧ (∀ r, RelV z r → RelV w (((atKey xs nk).map (·.2)).getD r)) ∧ Q w H3
theorem pe_xget2 (hu : X.A.units + 9 < cLine) (ho : PE X o td) (he : PE X e ty) (hf : PE X f tx) (m : M2 X o "get" apos e f cpos) : PE X (.Call (.Attribute o "get" apos) [e, f] [] cpos) (tXGet2 X.K td ty tx) := by
  refine ⟨fun pins s σ H Q Iv h => ?_⟩
  refine wpAny_Call_method m.base m.few m.line PySem.F.plainAttrs_dict PySem.F.slot_dict_get PySem.F.type_dict_get (thn (ho.run pins s σ H _ Iv h) fun u s1 ⟨x, H1, I1, rx, a, xs0, ex, g1, g2, q1⟩ => ?_)
  subst ex
  obtain rfl : u = Value.ref a := rx
  obtain ⟨t1, t2⟩ := dic_typeIs I1 g1 g2
  refine ⟨t1, t2, ?_⟩
  rw [m.trees]
  refine Calls.callWith_builtin rfl (Calls.evalArgs_plain (Calls.spliced_cons (thn (he.run pins s1 σ H1 _ I1 q1) fun iv s2 ⟨y, H2, I2, ry, q2⟩ =>
    Calls.spliced_cons (thn (hf.run pins s2 σ H2 _ I2 q2) fun fv s3 ⟨z, H3, I3, rz, xs, nk, w, ⟨k1, k2, b, ey, k3, k4⟩, hw, q3⟩ => Calls.spliced_nil ?_))))
  subst ey
  obtain rfl : iv = Value.ref b := ry
  exact x_get2 hu I3 k1 k2 k3 k4 fun s4 I4 => ⟨w, H3, I4, hw _ rz, q3⟩
theorem ev_dget2 (hu : X.A.units + 9 < cLine) (ho : EvE X W o fd) (he : EvE X W e fk) (hf : EvE X W f fx) (m : M2 X o "get" apos e f cpos := by exact ⟨rfl, rfl, rfl, rfl⟩) : EvE X W (.Call (.Attribute o "get" apos) [e, f] [] cpos) (cDGet2 fd fk fx) := by
  refine ⟨pe_imp (pe_xget2 hu ho.pe he.pe hf.pe m) fun σ H Q h => ?_⟩
  obtain ⟨I, M, en, S, r, k⟩ := h
  refine ⟨I, M, en, S, r, Kp.bind k fun x M1 I1 H1 u1 e1 S1 r1 k1 => ?_⟩
  cases x <;> (try exact k1.elim)
  rename_i n
  dsimp only at k1
  split at k1
  case isFalse => exact k1.elim
  rename_i hn
  obtain ⟨a, rfl, ha⟩ := dicAt S1 r1
  obtain ⟨xs0, g1, g2⟩ := S1.atD n a _ ha (List.getElem?_eq_getElem hn)
  refine ⟨a, xs0, rfl, g1, g2.ok, I1, M1, en, S1, r.mono e1, Kp.bind k1 fun y M2 I2 H2 u2 e2 S2 r2 k2 => ?_⟩
  refine ⟨I2, M2, en, S2, (r.mono e1).mono e2, Kp.bind k2 fun z M3 I3 H3 u3 e3 S3 r3 k3 => ?_⟩
  unfold dAt at k3
  cases qm : M3[n]? with
  | none => rw [qm] at k3; exact k3.elim
  | some ds =>
  cases qk : keyOk y with
  | none => rw [qm, qk] at k3; exact k3.elim
  | some nk =>
  rw [qm, qk] at k3
  dsimp only at k3
  obtain ⟨xs, h1, h2⟩ := known_of S3 (e3.getD (e2.getD ha)) qm (e3.rep r2) qk
  rcases h1.at nk with ⟨z1, z2⟩ | ⟨w, p, v, z1, z2, z3, z4⟩
  · rw [z1] at k3
    exact ⟨xs, nk, u3, h2, fun r hr => by rw [z2]; exact hr, k3.ok S3 r3⟩
  · rw [z1] at k3
    exact ⟨xs, nk, v, h2, fun r hr => by rw [z2]; exact z4, k3.ok S3 z3⟩
/-! ### k in d -/
def rXIn (K : PySem.W.Frag) (neg : Bool) : R2 := fun y x H Q => ∃ a xs nk, x = .ref a ∧ KnownAt K H a xs y nk ∧ Q (.bl (if neg = true then !(atKey xs nk).isSome else (atKey xs nk).isSome)) H
theorem op_xin (hu : X.A.units + 9 < cLine) : OpR X (compareOp .In) (rXIn X.K false) := by
  intro pins s σ H y x u w Q Iv ru rw' ⟨a, xs, nk, ex, ⟨g1, g2, b, ey, g3, g4⟩, q⟩
  subst ex; subst ey
  obtain rfl : w = Value.ref a := rw'
  obtain rfl : u = Value.ref b := ru
  exact x_in hu Iv g1 g2 g3 g4 fun s3 I3 => ⟨.bl (atKey xs nk).isSome, H, I3, rfl, q⟩
theorem op_xnotin (hu : X.A.units + 9 < cLine) : OpR X (compareOp .NotIn) (rXIn X.K true) := by
  intro pins s σ H y x u w Q Iv ru rw' ⟨a, xs, nk, ex, ⟨g1, g2, b, ey, g3, g4⟩, q⟩
  subst ex; subst ey
  obtain rfl : w = Value.ref a := rw'
  obtain rfl : u = Value.ref b := ru
  exact x_notIn hu Iv g1 g2 g3 g4 fun s3 I3 => ⟨.bl (!(atKey xs nk).isSome), H, I3, rfl, q⟩
def gDIn (neg : Bool) : D → D → Store → Res D := fun y x M => match x with
  | .dic n => match dAt n y M with | some o => some (.ok (.bl (if neg = true then !o.isSome else o.isSome)), M) | none => none
  | _ => none
theorem opd_xin {neg : Bool} : OpD K mg W (gDIn neg) (rXIn K neg) := by
  intro y x M I H u v σ Q S ry rx k
  unfold gDIn at k
  cases x <;> (try exact k.elim)
  rename_i n
  dsimp only at k
  obtain ⟨a, rfl, ha⟩ := dicAt S rx
  unfold dAt at k
  cases qm : M[n]? with
  | none => rw [qm] at k; exact k.elim
  | some ds =>
  cases qk : keyOk y with
  | none => rw [qm, qk] at k; exact k.elim
  | some nk =>
  rw [qm, qk] at k
  dsimp only at k
  obtain ⟨xs, h1, h2⟩ := known_of S ha qm ry qk
  refine ⟨a, xs, nk, rfl, h2, ?_⟩
  have e : (kvAt nk ds).isSome = (atKey xs nk).isSome := by
    rcases h1.at nk with ⟨z1, z2⟩ | ⟨w, p, v, z1, z2, _⟩ <;> rw [z1, z2] <;> rfl
  rw [e] at k
  exact k.ok S rep_bl
theorem gDIn_bl {neg : Bool} : ∀ a b M x M', gDIn neg a b M = some (.ok x, M') → ∃ b, x = .bl b := by
  intro a b M x M' h
  unfold gDIn at h
  split at h
  · split at h
    · cases h; exact ⟨_, rfl⟩
    · cases h
  · cases h
/-! ### d[k] = v -/
def sDPut (fv fd fk : EF) : SF := fun en M => sbnd (fv en M) en fun z M1 => sbnd (fd en M1) en fun x M2 => sbnd (fk en M2) en fun y M3 => match x with
  | .dic n => match M3[n]?, keyOk y with
    | some ds, some nk => if szOk (ds.length + 1) = true then some (.nx en, M3.set n (kvPut nk y z ds)) else none
    | _, _ => none
  | _ => none
def sXPut (K : PySem.W.Frag) (td ty tv : TE) : TS := fun Z σ H => tv σ H fun v H1 => td σ H1 fun x H2 => ty σ H2 fun y H3 => ∃ a xs nk b, x = .ref a ∧ y = .ref b ∧ KnownAt K H3 a xs y nk ∧ (∀ w, nk.hash w = kHash nk) ∧ xs.length < sizeLine ∧
  ∀ r, RelV v r → Z.nx σ (upd H3 a (dicO a (storedH xs nk b r)))
theorem ps_xput (hu : X.A.units + 9 < cLine) (ho : PE X o td) (hi : PE X i ty) (hv : PE X value tv) (hs : swapsWith value (some (.Subscript o i pos')) pos.line X.env = pure false) :
    PS X (.Assign [.Subscript o i pos'] value pos) (sXPut X.K td ty tv) := by
  refine ⟨fun pins s σ H D Iv h => ?_⟩
  refine wpAny_Assign_Subscript (thn (hv.run pins s σ H _ Iv h) fun r s1 ⟨v, H1, I1, rv, q1⟩ => thn (ho.run pins s1 σ H1 _ I1 q1) fun u s2 ⟨x, H2, I2, rx, q2⟩ => thn (hi.run pins s2 σ H2 _ I2 q2) fun iv s3 ⟨y, H3, I3, ry, a, xs, nk, b, ex, ey, ⟨g1, g2, b', ey', g3, g4⟩, g5, g6, q3⟩ => ?_) hs
  subst ex; subst ey
  cases ey'
  obtain rfl : u = Value.ref a := rx
  obtain rfl : iv = Value.ref b := ry
  exact x_setItem hu I3 g1 g2 g3 g4 g5 g6 fun s4 I4 => ⟨σ, _, I4, q3 r rv⟩
theorem es_dput (hu : X.A.units + 9 < cLine) (ho : EvE X W o fd) (hi : EvE X W i fk) (hv : EvE X W value fv) (hs : swapsWith value (some (.Subscript o i pos')) pos.line X.env = pure false := by rfl) :
    EvS X W (.Assign [.Subscript o i pos'] value pos) (sDPut fv fd fk) := by
  refine ⟨ps_imp (ps_xput hu ho.pe hi.pe hv.pe hs) fun Z σ H h => ?_⟩
  obtain ⟨I, M, en, S, re, k⟩ := h
  refine ⟨I, M, en, S, re, Sp_.bind k re fun z M1 I1 H1 u1 e1 S1 r1 k1 => ?_⟩
  refine ⟨I1, M1, en, S1, re.mono e1, Sp_.bind k1 (re.mono e1) fun x M2 I2 H2 u2 e2 S2 r2 k2 => ?_⟩
  refine ⟨I2, M2, en, S2, (re.mono e1).mono e2, Sp_.bind k2 ((re.mono e1).mono e2) fun y M3 I3 H3 u3 e3 S3 r3 k3 => ?_⟩
  cases x <;> (try exact k3.elim)
  rename_i n
  dsimp only at k3
  obtain ⟨a, rfl, ha⟩ := dicAt S2 r2
  cases qm : M3[n]? with
  | none => rw [qm] at k3; exact k3.elim
  | some ds =>
  cases qk : keyOk y with
  | none => rw [qm, qk] at k3; exact k3.elim
  | some nk =>
  rw [qm, qk] at k3
  dsimp only at k3
  split at k3
  case isFalse => exact k3.elim
  rename_i qs
  obtain ⟨xs, h1, h2⟩ := known_of S3 (e3.getD ha) qm r3 qk
  obtain ⟨g1, g2, b, ey, g3, g4⟩ := h2
  subst ey
  have hl := h1.length
  have hsz := szOk_ok qs
  have hk := keyOk_ok qk
  refine ⟨a, xs, nk, b, rfl, rfl, ⟨g1, g2, b, rfl, g3, g4⟩, fun w => kHash_is hk.1.1, by omega, fun r hr => ?_⟩
  have hm : a ∈ I3.c := List.mem_of_getElem? (e3.getD ha).1
  have e123 := (e1.trans e2).trans e3
  exact k3 I3 _ σ (Ext.write hm) (S3.writeD (e3.getD ha) (h1.put hk.1 r3 (e3.rep (e2.rep r1)) hr)) ((re.mono e123).mono (Ext.write hm))
end
end DL
/-! The data layer, part 25: the rules of dicts in short. -/
namespace DL
open PySem PySem.Spec PyProof.Rows L2
section
variable {X : Cx} {W : WX} {a b o i e f value : Expr} {pos pos' apos cpos : Pos} {fa fb fd fk fv fx : EF} {k : Nat}
theorem hu9 {A : Around} (h : Room k A) : A.units + 9 < cLine := by have := h.un; omega
theorem q_din (hr : Room k X.A) (ha : EvE X W a fa) (hb : EvE X W b fb) (hm : behindInMarks .In b = false := by with_unfolding_all rfl) : EvE X W (.Compare a [.In] [b] pos) (cOp (gDIn false) fa fb) := ev_cmp (op_xin (hu9 hr)) opd_xin ha hb hm
theorem t_din (hr : Room k X.A) (ha : EvE X W a fa) (hb : EvE X W b fb) (hm : behindInMarks .In b = false := by with_unfolding_all rfl) : EvT X W (.Compare a [.In] [b] pos) (cTru (cOp (gDIn false) fa fb)) := et_cmp (op_xin (hu9 hr)) opd_xin gDIn_bl ha hb hm
theorem q_dnotin (hr : Room k X.A) (ha : EvE X W a fa) (hb : EvE X W b fb) (hm : behindInMarks .NotIn b = false := by with_unfolding_all rfl) : EvE X W (.Compare a [.NotIn] [b] pos) (cOp (gDIn true) fa fb) := ev_cmp (op_xnotin (hu9 hr)) opd_xin ha hb hm
theorem t_dnotin (hr : Room k X.A) (ha : EvE X W a fa) (hb : EvE X W b fb) (hm : behindInMarks .NotIn b = false := by with_unfolding_all rfl) : EvT X W (.Compare a [.NotIn] [b] pos) (cTru (cOp (gDIn true) fa fb)) := et_cmp (op_xnotin (hu9 hr)) opd_xin gDIn_bl ha hb hm
theorem d_ix (hr : Room k X.A) (ho : EvE X W o fd) (hi : EvE X W i fk) (hs : NoSl i := by intro _ _; rfl) : EvE X W (.Subscript o i pos) (cDGet fd fk) := ev_dget (hu9 hr) ho hi hs
theorem d_gt (hr : Room k X.A) (ho : EvE X W o fd) (he : EvE X W e fk) (hf : EvE X W f fx) (m : M2 X o "get" apos e f cpos := by exact ⟨rfl, rfl, rfl, rfl⟩) : EvE X W (.Call (.Attribute o "get" apos) [e, f] [] cpos) (cDGet2 fd fk fx) := ev_dget2 (hu9 hr) ho he hf m
theorem d_pt (hr : Room k X.A) (ho : EvE X W o fd) (hi : EvE X W i fk) (hv : EvE X W value fv) (hs : swapsWith value (some (.Subscript o i pos')) pos.line X.env = pure false := by rfl) :
    EvS X W (.Assign [.Subscript o i pos'] value pos) (sDPut fv fd fk) := es_dput (hu9 hr) ho hi hv hs
/-! // and % by any number but 0 -/
def divN (_ j : Int) : Bool := decide (j ≠ 0) && decide (j.natAbs.log2 < 9000)
abbrev gDivN : D → D → Store → Res D := gI divN fun i j => .int (i.fdiv j)
abbrev gModN : D → D → Store → Res D := gI (fun _ j => decide (j ≠ 0)) fun i j => .int (i.fmod j)
theorem op_fdivX : OpR X (binaryOp .FloorDiv) (rI (fun _ j => j ≠ 0 ∧ j.natAbs.log2 < 9000) fun i j => .int (i.fdiv j)) := opI fun _ _ _ _ _ _ _ hc q => floordiv_int hc.1 q (.inl (PyProof.noPylong_of_log2 hc.2))
theorem opd_divN {K : PySem.W.Frag} {mg : Str → Option Value} : OpD K mg W gDivN (rI (fun _ j => j ≠ 0 ∧ j.natAbs.log2 < 9000) fun i j => .int (i.fdiv j)) := opd_I (fun i j h => by
  unfold divN at h
  rw [Bool.and_eq_true, decide_eq_true_eq, decide_eq_true_eq] at h
  exact h) fun i j I H => rep_int
theorem opd_modN {K : PySem.W.Frag} {mg : Str → Option Value} : OpD K mg W gModN (rI (fun _ j => j ≠ 0) fun i j => .int (i.fmod j)) := opd_I (fun i j h => of_decide_eq_true h) fun i j I H => rep_int
theorem o_fdivN (ha : EvE X W a fa) (hb : EvE X W b fb) : EvE X W (.BinOp a .FloorDiv b pos) (cOp gDivN fa fb) := ev_op op_fdivX opd_divN ha hb
theorem o_modN (ha : EvE X W a fa) (hb : EvE X W b fb) : EvE X W (.BinOp a .Mod b pos) (cOp gModN fa fb) := ev_op op_modN opd_modN ha hb
end
end DL
/-! everygrid_k12_classes_together: the mirrors, as the program gen.py printed them. -/
namespace K12
open PySem DL
def k_UNIT : D := (.tup [(.tup [(.int 1), (.int 0)]), (.tup [(.int 0), (.int 1)])])
/-- divisor: 0 one, 1 other -/
noncomputable def f_divisor : SF := (sSeq (sPar 0 1 (aCons (cCall gAbs (aCons (cVar 0) aNil)) (aCons (cCall gAbs (aCons (cVar 1) aNil)) aNil)))
  (sSeq (sWhile (cTru (cVar 1)) (sPar 0 1 (aCons (cVar 1) (aCons (cOp gMod (cVar 0) (cVar 1)) aNil))))
  (sRet (cVar 0))))
noncomputable def m_divisor : MF := mDef 2 2 f_divisor
/-- divisor_of: 0 numbers, 1 found, 2 number -/
noncomputable def f_divisor_of : SF := (sSeq (sAsg (cC (.int 0)) (gN 1))
  (sSeq (sFor (iSeq (cVar 0)) (gN 2) (sAsg (cCall m_divisor (aCons (cVar 1) (aCons (cVar 2) aNil))) (gN 1)))
  (sRet (cVar 1))))
noncomputable def m_divisor_of : MF := mDef 1 3 f_divisor_of
/-- bezout: 0 one, 1 other, 2 s, 3 t, 4 u, 5 v, 6 whole -/
noncomputable def f_bezout : SF := (sSeq (sAsg (cTup (aCons (cC (.int 1)) (aCons (cC (.int 0)) (aCons (cC (.int 0)) (aCons (cC (.int 1)) aNil))))) (gTupC 4 (gConsC (gN 2) (gConsC (gN 3) (gConsC (gN 4) (gConsC (gN 5) gNilC))))))
  (sSeq (sWhile (cTru (cVar 1)) (sSeq (sAsg (cOp gDivN (cVar 0) (cVar 1)) (gN 6)) (sSeq (sPar 0 1 (aCons (cVar 1) (aCons (cOp gSub (cVar 0) (cOp gMul (cVar 6) (cVar 1))) aNil))) (sSeq (sPar 2 4 (aCons (cVar 4) (aCons (cOp gSub (cVar 2) (cOp gMul (cVar 6) (cVar 4))) aNil))) (sPar 3 5 (aCons (cVar 5) (aCons (cOp gSub (cVar 3) (cOp gMul (cVar 6) (cVar 5))) aNil)))))))
  (sRet (cIf (cTru (cOp gLt (cVar 0) (cC (.int 0)))) (cTup (aCons (cOp gSub (cC (.int 0)) (cVar 0)) (aCons (cOp gSub (cC (.int 0)) (cVar 2)) (aCons (cOp gSub (cC (.int 0)) (cVar 3)) aNil)))) (cTup (aCons (cVar 0) (aCons (cVar 2) (aCons (cVar 3) aNil))))))))
noncomputable def m_bezout : MF := mDef 2 7 f_bezout
/-- root: 0 number, 1 found -/
noncomputable def f_root : SF := (sSeq (sAsg (cOp gShl (cC (.int 1)) (cOp gDiv (cOp gAddA (cBits (cVar 0)) (cC (.int 1))) (cC (.int 2)))) (gN 1))
  (sSeq (sWhile (cTru (cOp gGt (cOp gMul (cVar 1) (cVar 1)) (cVar 0))) (sAsg (cOp gDiv (cOp gAddA (cVar 1) (cOp gDiv (cVar 0) (cVar 1))) (cC (.int 2))) (gN 1)))
  (sRet (cVar 1))))
noncomputable def m_root : MF := mDef 1 2 f_root
/-- is_whole: 0 number -/
noncomputable def f_is_whole : SF := (sRet (cAnd (cCall gIsi (aCons (cVar 0) (aCons (cC (.ty "int")) aNil))) (cNot (cCall gIsi (aCons (cVar 0) (aCons (cC (.ty "bool")) aNil))))))
noncomputable def m_is_whole : MF := mDef 1 1 f_is_whole
/-- is_row: 0 row, 1 number -/
noncomputable def f_is_row : SF := (sRet (cAnd (cCall gIsi (aCons (cVar 0) (aCons (cC (.ty "tuple")) aNil))) (cCall gAll (aCons (cLc (iSeq (cVar 0)) (gN 1) tYesC (cCall m_is_whole (aCons (cVar 1) aNil)) [1]) aNil))))
noncomputable def m_is_row : MF := mDef 1 2 f_is_row
/-- wide: 0 table -/
noncomputable def f_wide : SF := (sRet (cIf (cTru (cVar 0)) (cCall gLen (aCons (cOp gIx (cVar 0) (cC (.int 0))) aNil)) (cC (.int 0))))
noncomputable def m_wide : MF := mDef 1 1 f_wide
/-- turned: 0 table, 1 place, 2 row -/
noncomputable def f_turned : SF := (sRet (cCall gTuple (aCons (cLc (iRng1C (aCons (cCall m_wide (aCons (cVar 0) aNil)) aNil)) (gN 1) tYesC (cCall gTuple (aCons (cLc (iSeq (cVar 0)) (gN 2) tYesC (cOp gIx (cVar 2) (cVar 1)) [2]) aNil)) [1]) aNil)))
noncomputable def m_turned : MF := mDef 1 3 f_turned
/-- dot: 0 one, 1 other, 2 a, 3 b -/
noncomputable def f_dot : SF := (sRet (cCall gSum (aCons (cLc (iZipC (aCons (cVar 0) (aCons (cVar 1) aNil))) (gTupC 2 (gConsC (gN 2) (gConsC (gN 3) gNilC))) tYesC (cOp gMul (cVar 2) (cVar 3)) [2, 3]) aNil)))
noncomputable def m_dot : MF := mDef 2 4 f_dot
/-- product: 0 one, 1 other, 2 columns, 3 row, 4 column -/
noncomputable def f_product : SF := (sSeq (sAsg (cCall m_turned (aCons (cVar 1) aNil)) (gN 2))
  (sRet (cCall gTuple (aCons (cLc (iSeq (cVar 0)) (gN 3) tYesC (cCall gTuple (aCons (cLc (iSeq (cVar 2)) (gN 4) tYesC (cCall m_dot (aCons (cVar 3) (aCons (cVar 4) aNil))) [4]) aNil)) [3]) aNil))))
noncomputable def m_product : MF := mDef 2 5 f_product
/-- is_two: 0 shape -/
noncomputable def f_is_two : SF := (sRet (cAnd (cCall m_is_row (aCons (cVar 0) aNil)) (cOp (gEq false) (cCall gLen (aCons (cVar 0) aNil)) (cC (.int 3)))))
noncomputable def m_is_two : MF := mDef 1 1 f_is_two
/-- gap: 0 two -/
noncomputable def f_gap : SF := (sRet (cOp gSub (cOp gMul (cOp gIx (cVar 0) (cC (.int 1))) (cOp gIx (cVar 0) (cC (.int 1)))) (cOp gMul (cOp gMul (cC (.int 4)) (cOp gIx (cVar 0) (cC (.int 0)))) (cOp gIx (cVar 0) (cC (.int 2))))))
noncomputable def m_gap : MF := mDef 1 1 f_gap
/-- check_two: 0 two -/
noncomputable def f_check_two : SF := (sSeq (sIf (tNotC (cTru (cCall m_is_two (aCons (cVar 0) aNil)))) (sRaise "BadTable" (aCons (cC (.str "form")) aNil)) sSkip)
  (sSeq (sIf (tOrC (cTru (cOp gGe (cCall m_gap (aCons (cVar 0) aNil)) (cC (.int 0)))) (cTru (cOp gLt (cOp gIx (cVar 0) (cC (.int 0))) (cC (.int 1))))) (sRaise "BadTable" (aCons (cC (.str "above")) aNil)) sSkip)
  (sIf (cTru (cOp (gEq true) (cCall m_divisor_of (aCons (cVar 0) aNil)) (cC (.int 1)))) (sRaise "BadTable" (aCons (cC (.str "divisor")) aNil)) sSkip)))
noncomputable def m_check_two : MF := mDef 1 1 f_check_two
/-- two_worth: 0 two, 1 x, 2 y -/
noncomputable def f_two_worth : SF := (sRet (cOp gAddA (cOp gAddA (cOp gMul (cOp gMul (cOp gIx (cVar 0) (cC (.int 0))) (cVar 1)) (cVar 1)) (cOp gMul (cOp gMul (cOp gIx (cVar 0) (cC (.int 1))) (cVar 1)) (cVar 2))) (cOp gMul (cOp gMul (cOp gIx (cVar 0) (cC (.int 2))) (cVar 2)) (cVar 2))))
noncomputable def m_two_worth : MF := mDef 3 3 f_two_worth
/-- two_changed: 0 two, 1 rows, 2 p, 3 q, 4 r, 5 s, 6 middle -/
noncomputable def f_two_changed : SF := (sSeq (sAsg (cVar 1) (gTupC 2 (gConsC (gTupC 2 (gConsC (gN 2) (gConsC (gN 3) gNilC))) (gConsC (gTupC 2 (gConsC (gN 4) (gConsC (gN 5) gNilC))) gNilC))))
  (sSeq (sAsg (cOp gAddA (cOp gAddA (cOp gMul (cOp gMul (cOp gMul (cC (.int 2)) (cOp gIx (cVar 0) (cC (.int 0)))) (cVar 2)) (cVar 4)) (cOp gMul (cOp gIx (cVar 0) (cC (.int 1))) (cOp gAddA (cOp gMul (cVar 2) (cVar 5)) (cOp gMul (cVar 3) (cVar 4))))) (cOp gMul (cOp gMul (cOp gMul (cC (.int 2)) (cOp gIx (cVar 0) (cC (.int 2)))) (cVar 3)) (cVar 5))) (gN 6))
  (sRet (cTup (aCons (cCall m_two_worth (aCons (cVar 0) (aCons (cVar 2) (aCons (cVar 3) aNil)))) (aCons (cVar 6) (aCons (cCall m_two_worth (aCons (cVar 0) (aCons (cVar 4) (aCons (cVar 5) aNil)))) aNil)))))))
noncomputable def m_two_changed : MF := mDef 2 7 f_two_changed
/-- is_two_reduced: 0 two, 1 a, 2 b, 3 c -/
noncomputable def f_is_two_reduced : SF := (sSeq (sAsg (cVar 0) (gTupC 3 (gConsC (gN 1) (gConsC (gN 2) (gConsC (gN 3) gNilC)))))
  (sRet (cAnd (cCh3 gLt gLe gLe (cOp gSub (cC (.int 0)) (cVar 1)) (cVar 2) (cVar 1) (cVar 3)) (cNot (cAnd (cOp (gEq false) (cVar 1) (cVar 3)) (cOp gLt (cVar 2) (cC (.int 0))))))))
noncomputable def m_is_two_reduced : MF := mDef 1 4 f_is_two_reduced
/-- two_reduced: 0 two, 1 rows, 2 a, 3 b, 4 c, 5 step -/
noncomputable def f_two_reduced : SF := (sSeq (sExpr (cCall m_check_two (aCons (cVar 0) aNil)))
  (sSeq (sAsg (cC k_UNIT) (gN 1))
  (sSeq (sWhile (tNotC (cTru (cCall m_is_two_reduced (aCons (cVar 0) aNil)))) (sSeq (sAsg (cVar 0) (gTupC 3 (gConsC (gN 2) (gConsC (gN 3) (gConsC (gN 4) gNilC))))) (sSeq (sIf (tOrC (cTru (cOp gGt (cVar 2) (cVar 4))) (tAndC (cTru (cOp (gEq false) (cVar 2) (cVar 4))) (cTru (cOp gLt (cVar 3) (cC (.int 0)))))) (sAsg (cTup (aCons (cTup (aCons (cC (.int 0)) (aCons (cC (.int 1)) aNil))) (aCons (cTup (aCons (cUn gNeg (cC (.int 1))) (aCons (cC (.int 0)) aNil))) aNil))) (gN 5)) (sAsg (cTup (aCons (cTup (aCons (cC (.int 1)) (aCons (cC (.int 0)) aNil))) (aCons (cTup (aCons (cOp gDiv (cOp gSub (cVar 2) (cVar 3)) (cOp gMul (cC (.int 2)) (cVar 2))) (aCons (cC (.int 1)) aNil))) aNil))) (gN 5))) (sSeq (sAsg (cCall m_product (aCons (cVar 5) (aCons (cVar 1) aNil))) (gN 1)) (sAsg (cCall m_two_changed (aCons (cVar 0) (aCons (cVar 5) aNil))) (gN 0))))))
  (sRet (cTup (aCons (cVar 0) (aCons (cVar 1) aNil)))))))
noncomputable def m_two_reduced : MF := mDef 1 6 f_two_reduced
/-- check_gap: 0 number -/
noncomputable def f_check_gap : SF := (sIf (tOrC (tNotC (cTru (cCall gIsi (aCons (cVar 0) (aCons (cC (.ty "int")) aNil))))) (tOrC (cTru (cCall gIsi (aCons (cVar 0) (aCons (cC (.ty "bool")) aNil)))) (tOrC (cTru (cOp gGe (cVar 0) (cC (.int 0)))) (cTru (cOp gGt (cOp gMod (cVar 0) (cC (.int 4))) (cC (.int 1))))))) (sRaise "BadTable" (aCons (cC (.str "discriminant")) aNil)) sSkip)
noncomputable def m_check_gap : MF := mDef 1 1 f_check_gap
/-- reduced_twos: 0 number, 1 found, 2 a, 3 b, 4 two -/
noncomputable def f_reduced_twos : SF := (sSeq (sExpr (cCall m_check_gap (aCons (cVar 0) aNil)))
  (sSeq (sAsg (cCel aNil) (gN 1))
  (sSeq (sFor (iRng2C (aCons (cC (.int 1)) (aCons (cOp gAddA (cCall m_root (aCons (cOp gDiv (cOp gSub (cC (.int 0)) (cVar 0)) (cC (.int 3))) aNil)) (cC (.int 1))) aNil))) (gN 2) (sFor (iRng2C (aCons (cOp gSub (cC (.int 1)) (cVar 2)) (aCons (cOp gAddA (cVar 2) (cC (.int 1))) aNil))) (gN 3) (sIf (cTru (cOp (gEq false) (cOp gMod (cOp gSub (cOp gMul (cVar 3) (cVar 3)) (cVar 0)) (cOp gMul (cC (.int 4)) (cVar 2))) (cC (.int 0)))) (sSeq (sAsg (cTup (aCons (cVar 2) (aCons (cVar 3) (aCons (cOp gDiv (cOp gSub (cOp gMul (cVar 3) (cVar 3)) (cVar 0)) (cOp gMul (cC (.int 4)) (cVar 2))) aNil)))) (gN 4)) (sIf (cTru (cCall m_is_two_reduced (aCons (cVar 4) aNil))) (sExpr (cApp (cVar 1) (cVar 4))) sSkip)) sSkip)))
  (sRet (cVar 1)))))
noncomputable def m_reduced_twos : MF := mDef 1 5 f_reduced_twos
/-- two_classes: 0 number, 1 two -/
noncomputable def f_two_classes : SF := (sRet (cCall gTuple (aCons (cLc (iSeq (cCall m_reduced_twos (aCons (cVar 0) aNil))) (gN 1) (cTru (cOp (gEq false) (cCall m_divisor_of (aCons (cVar 1) aNil)) (cC (.int 1)))) (cVar 1) [1]) aNil)))
noncomputable def m_two_classes : MF := mDef 1 2 f_two_classes
/-- unit_two: 0 number, 1 odd -/
noncomputable def f_unit_two : SF := (sSeq (sExpr (cCall m_check_gap (aCons (cVar 0) aNil)))
  (sSeq (sAsg (cOp gMod (cVar 0) (cC (.int 4))) (gN 1))
  (sRet (cTup (aCons (cC (.int 1)) (aCons (cVar 1) (aCons (cOp gDiv (cOp gSub (cVar 1) (cVar 0)) (cC (.int 4))) aNil)))))))
noncomputable def m_unit_two : MF := mDef 1 2 f_unit_two
/-- opposite_two: 0 two -/
noncomputable def f_opposite_two : SF := (sSeq (sExpr (cCall m_check_two (aCons (cVar 0) aNil)))
  (sRet (cOp gIx (cCall m_two_reduced (aCons (cTup (aCons (cOp gIx (cVar 0) (cC (.int 0))) (aCons (cOp gSub (cC (.int 0)) (cOp gIx (cVar 0) (cC (.int 1)))) (aCons (cOp gIx (cVar 0) (cC (.int 2))) aNil)))) aNil)) (cC (.int 0)))))
noncomputable def m_opposite_two : MF := mDef 1 1 f_opposite_two
/-- prime_to: 0 two, 1 number, 2 size, 3 x, 4 y, 5 common, 6 s, 7 t -/
noncomputable def f_prime_to : SF := (sSeq (sFor (iRng2C (aCons (cC (.int 1)) (aCons (cOp gAddA (cOp gMul (cC (.int 2)) (cCall gAbs (aCons (cVar 1) aNil))) (cC (.int 3))) aNil))) (gN 2) (sFor (iRng1C (aCons (cOp gAddA (cVar 2) (cC (.int 1))) aNil)) (gN 3) (sFor (iSeq (cTup (aCons (cOp gSub (cVar 2) (cVar 3)) (aCons (cOp gSub (cVar 3) (cVar 2)) aNil)))) (gN 4) (sIf (tAndC (cTru (cOp (gEq false) (cCall m_divisor (aCons (cVar 3) (aCons (cVar 4) aNil))) (cC (.int 1)))) (cTru (cOp (gEq false) (cCall m_divisor (aCons (cCall m_two_worth (aCons (cVar 0) (aCons (cVar 3) (aCons (cVar 4) aNil)))) (aCons (cVar 1) aNil))) (cC (.int 1))))) (sSeq (sAsg (cCall m_bezout (aCons (cVar 3) (aCons (cVar 4) aNil))) (gTupC 3 (gConsC (gN 5) (gConsC (gN 6) (gConsC (gN 7) gNilC))))) (sRet (cTup (aCons (cTup (aCons (cVar 3) (aCons (cVar 4) aNil))) (aCons (cTup (aCons (cOp gSub (cC (.int 0)) (cVar 7)) (aCons (cVar 6) aNil))) aNil))))) sSkip))))
  (sRaise "BadTable" (aCons (cC (.str "divisor")) aNil)))
noncomputable def m_prime_to : MF := mDef 2 8 f_prime_to
/-- shifted_by: 0 two, 1 other, 2 common, 3 s, 4 t -/
noncomputable def f_shifted_by : SF := (sSeq (sAsg (cCall m_bezout (aCons (cOp gIx (cVar 0) (cC (.int 0))) (aCons (cOp gIx (cVar 1) (cC (.int 0))) aNil))) (gTupC 3 (gConsC (gN 2) (gConsC (gN 3) (gConsC (gN 4) gNilC)))))
  (sRet (cOp gMod (cOp gMul (cOp gDiv (cOp gSub (cOp gIx (cVar 1) (cC (.int 1))) (cOp gIx (cVar 0) (cC (.int 1)))) (cC (.int 2))) (cVar 3)) (cOp gIx (cVar 1) (cC (.int 0))))))
noncomputable def m_shifted_by : MF := mDef 2 5 f_shifted_by
/-- bilinear: 0 left, 1 right, 2 rows, 3 found, 4 row, 5 whole -/
noncomputable def f_bilinear : SF := (sSeq (sAsg (cCel aNil) (gN 3))
  (sSeq (sFor (iSeq (cVar 2)) (gN 4) (sSeq (sAsg (cCall m_product (aCons (cCall m_product (aCons (cVar 0) (aCons (cTup (aCons (cSl (cVar 4) oNone (oSome (cC (.int 2)))) (aCons (cSl (cVar 4) (oSome (cC (.int 2))) oNone) aNil))) aNil))) (aCons (cCall m_turned (aCons (cVar 1) aNil)) aNil))) (gN 5)) (sExpr (cApp (cVar 3) (cOp gAddA (cOp gIx (cVar 5) (cC (.int 0))) (cOp gIx (cVar 5) (cC (.int 1))))))))
  (sRet (cCall gTuple (aCons (cVar 3) aNil)))))
noncomputable def m_bilinear : MF := mDef 3 6 f_bilinear
/-- undone_two: 0 rows, 1 p, 2 q, 3 r, 4 s -/
noncomputable def f_undone_two : SF := (sSeq (sAsg (cVar 0) (gTupC 2 (gConsC (gTupC 2 (gConsC (gN 1) (gConsC (gN 2) gNilC))) (gConsC (gTupC 2 (gConsC (gN 3) (gConsC (gN 4) gNilC))) gNilC))))
  (sRet (cTup (aCons (cTup (aCons (cVar 4) (aCons (cOp gSub (cC (.int 0)) (cVar 2)) aNil))) (aCons (cTup (aCons (cOp gSub (cC (.int 0)) (cVar 3)) (aCons (cVar 1) aNil))) aNil)))))
noncomputable def m_undone_two : MF := mDef 1 5 f_undone_two
/-- undone_columns_two: 0 change, 1 p, 2 q, 3 r, 4 s -/
noncomputable def f_undone_columns_two : SF := (sSeq (sAsg (cVar 0) (gTupC 2 (gConsC (gTupC 2 (gConsC (gN 1) (gConsC (gN 2) gNilC))) (gConsC (gTupC 2 (gConsC (gN 3) (gConsC (gN 4) gNilC))) gNilC))))
  (sRet (cTup (aCons (cTup (aCons (cVar 4) (aCons (cOp gSub (cC (.int 0)) (cVar 3)) aNil))) (aCons (cTup (aCons (cOp gSub (cC (.int 0)) (cVar 2)) (aCons (cVar 1) aNil))) aNil)))))
noncomputable def m_undone_columns_two : MF := mDef 1 5 f_undone_columns_two
/-- put_together: 0 two, 1 other, 2 second, 3 fresh, 4 shift, 5 first, 6 one, 7 along, 8 a, 9 b, 10 c, 11 rows, 12 found, 13 change -/
noncomputable def f_put_together : SF := (sSeq (sExpr (cCall m_check_two (aCons (cVar 0) aNil)))
  (sSeq (sExpr (cCall m_check_two (aCons (cVar 1) aNil)))
  (sSeq (sIf (cTru (cOp (gEq true) (cCall m_gap (aCons (cVar 0) aNil)) (cCall m_gap (aCons (cVar 1) aNil)))) (sRaise "BadTable" (aCons (cC (.str "discriminant")) aNil)) sSkip)
  (sSeq (sAsg (cCall m_prime_to (aCons (cVar 1) (aCons (cOp gIx (cVar 0) (cC (.int 0))) aNil))) (gN 2))
  (sSeq (sAsg (cCall m_two_changed (aCons (cVar 1) (aCons (cVar 2) aNil))) (gN 3))
  (sSeq (sAsg (cCall m_shifted_by (aCons (cVar 0) (aCons (cVar 3) aNil))) (gN 4))
  (sSeq (sAsg (cTup (aCons (cTup (aCons (cC (.int 1)) (aCons (cC (.int 0)) aNil))) (aCons (cTup (aCons (cVar 4) (aCons (cC (.int 1)) aNil))) aNil))) (gN 5))
  (sSeq (sAsg (cCall m_two_changed (aCons (cVar 0) (aCons (cVar 5) aNil))) (gN 6))
  (sSeq (sAsg (cOp gDiv (cOp gSub (cOp gIx (cVar 6) (cC (.int 1))) (cOp gIx (cVar 3) (cC (.int 1)))) (cOp gMul (cC (.int 2)) (cOp gIx (cVar 3) (cC (.int 0))))) (gN 7))
  (sSeq (sAsg (cCall m_product (aCons (cTup (aCons (cTup (aCons (cC (.int 1)) (aCons (cC (.int 0)) aNil))) (aCons (cTup (aCons (cVar 7) (aCons (cC (.int 1)) aNil))) aNil))) (aCons (cVar 2) aNil))) (gN 2))
  (sSeq (sPar 8 9 (aCons (cOp gIx (cVar 6) (cC (.int 0))) (aCons (cOp gIx (cVar 6) (cC (.int 1))) aNil)))
  (sSeq (sAsg (cOp gDiv (cOp gSub (cOp gMul (cVar 9) (cVar 9)) (cCall m_gap (aCons (cVar 0) aNil))) (cOp gMul (cOp gMul (cC (.int 4)) (cVar 8)) (cOp gIx (cVar 3) (cC (.int 0))))) (gN 10))
  (sSeq (sAsg (cTup (aCons (cTup (aCons (cC (.int 1)) (aCons (cC (.int 0)) (aCons (cC (.int 0)) (aCons (cOp gSub (cC (.int 0)) (cVar 10)) aNil))))) (aCons (cTup (aCons (cC (.int 0)) (aCons (cVar 8) (aCons (cOp gIx (cVar 3) (cC (.int 0))) (aCons (cVar 9) aNil))))) aNil))) (gN 11))
  (sSeq (sAsg (cCall m_bilinear (aCons (cCall m_undone_two (aCons (cVar 5) aNil)) (aCons (cCall m_undone_two (aCons (cVar 2) aNil)) (aCons (cVar 11) aNil)))) (gN 11))
  (sSeq (sAsg (cCall m_two_reduced (aCons (cTup (aCons (cOp gMul (cVar 8) (cOp gIx (cVar 3) (cC (.int 0)))) (aCons (cVar 9) (aCons (cVar 10) aNil)))) aNil)) (gTupC 2 (gConsC (gN 12) (gConsC (gN 13) gNilC))))
  (sRet (cTup (aCons (cVar 12) (aCons (cCall m_product (aCons (cCall m_undone_columns_two (aCons (cVar 13) aNil)) (aCons (cVar 11) aNil))) aNil)))))))))))))))))))
noncomputable def m_put_together : MF := mDef 2 14 f_put_together
/-- shows_together: 0 two, 1 other, 2 whole, 3 paper, 4 one, 5 last, 6 tries, 7 x, 8 y, 9 z, 10 w, 11 row, 12 big, 13 small, 14 a, 15 b -/
noncomputable def f_shows_together : SF := (sSeq (sIf (tOrC (tNotC (cTru (cCall gIsi (aCons (cVar 3) (aCons (cC (.ty "tuple")) aNil))))) (tOrC (cTru (cOp (gEq true) (cCall gLen (aCons (cVar 3) aNil)) (cC (.int 2)))) (tNotC (cTru (cCall gAll (aCons (cLc (iSeq (cVar 3)) (gN 11) tYesC (cAnd (cCall m_is_row (aCons (cVar 11) aNil)) (cOp (gEq false) (cCall gLen (aCons (cVar 11) aNil)) (cC (.int 4)))) [11]) aNil)))))) (sRet (cC (.bl false))) sSkip)
  (sSeq (sAsg (cVar 3) (gTupC 2 (gConsC (gN 4) (gConsC (gN 5) gNilC))))
  (sSeq (sIf (tOrC (cTru (cOp (gEq true) (cOp gSub (cOp gMul (cOp gIx (cVar 4) (cC (.int 0))) (cOp gIx (cVar 5) (cC (.int 1)))) (cOp gMul (cOp gIx (cVar 5) (cC (.int 0))) (cOp gIx (cVar 4) (cC (.int 1))))) (cOp gIx (cVar 0) (cC (.int 0))))) (cTru (cOp (gEq true) (cOp gSub (cOp gMul (cOp gIx (cVar 4) (cC (.int 0))) (cOp gIx (cVar 5) (cC (.int 2)))) (cOp gMul (cOp gIx (cVar 5) (cC (.int 0))) (cOp gIx (cVar 4) (cC (.int 2))))) (cOp gIx (cVar 1) (cC (.int 0)))))) (sRet (cC (.bl false))) sSkip)
  (sSeq (sAsg (cLst (aCons (cTup (aCons (cC (.int 0)) (aCons (cC (.int 1)) aNil))) (aCons (cTup (aCons (cC (.int 1)) (aCons (cC (.int 0)) aNil))) (aCons (cTup (aCons (cC (.int 1)) (aCons (cC (.int 1)) aNil))) (aCons (cTup (aCons (cC (.int 1)) (aCons (cUn gNeg (cC (.int 1))) aNil))) (aCons (cTup (aCons (cC (.int 1)) (aCons (cC (.int 2)) aNil))) aNil)))))) (gN 6))
  (sSeq (sFor (iSeq (cVar 6)) (gTupC 2 (gConsC (gN 7) (gConsC (gN 8) gNilC))) (sFor (iSeq (cVar 6)) (gTupC 2 (gConsC (gN 9) (gConsC (gN 10) gNilC))) (sSeq (sAsg (cTup (aCons (cOp gMul (cVar 7) (cVar 9)) (aCons (cOp gMul (cVar 7) (cVar 10)) (aCons (cOp gMul (cVar 8) (cVar 9)) (aCons (cOp gMul (cVar 8) (cVar 10)) aNil))))) (gN 11)) (sSeq (sAsg (cCall gSum (aCons (cLc (iZipC (aCons (cVar 4) (aCons (cVar 11) aNil))) (gTupC 2 (gConsC (gN 14) (gConsC (gN 15) gNilC))) tYesC (cOp gMul (cVar 14) (cVar 15)) [14, 15]) aNil)) (gN 12)) (sSeq (sAsg (cCall gSum (aCons (cLc (iZipC (aCons (cVar 5) (aCons (cVar 11) aNil))) (gTupC 2 (gConsC (gN 14) (gConsC (gN 15) gNilC))) tYesC (cOp gMul (cVar 14) (cVar 15)) [14, 15]) aNil)) (gN 13)) (sIf (cTru (cOp (gEq true) (cCall m_two_worth (aCons (cVar 2) (aCons (cVar 12) (aCons (cVar 13) aNil)))) (cOp gMul (cCall m_two_worth (aCons (cVar 0) (aCons (cVar 7) (aCons (cVar 8) aNil)))) (cCall m_two_worth (aCons (cVar 1) (aCons (cVar 9) (aCons (cVar 10) aNil))))))) (sRet (cC (.bl false))) sSkip))))))
  (sRet (cC (.bl true))))))))
noncomputable def m_shows_together : MF := mDef 4 16 f_shows_together
/-- class_power: 0 two, 1 power, 2 found, 3 turn -/
noncomputable def f_class_power : SF := (sSeq (sExpr (cCall m_check_two (aCons (cVar 0) aNil)))
  (sSeq (sAsg (cCall m_unit_two (aCons (cCall m_gap (aCons (cVar 0) aNil)) aNil)) (gN 2))
  (sSeq (sFor (iRng1C (aCons (cVar 1) aNil)) (gN 3) (sAsg (cOp gIx (cCall m_put_together (aCons (cVar 2) (aCons (cVar 0) aNil))) (cC (.int 0))) (gN 2)))
  (sRet (cVar 2)))))
noncomputable def m_class_power : MF := mDef 2 4 f_class_power
/-- class_order: 0 two, 1 unit, 2 found, 3 power -/
noncomputable def f_class_order : SF := (sSeq (sExpr (cCall m_check_two (aCons (cVar 0) aNil)))
  (sSeq (sAsg (cCall m_unit_two (aCons (cCall m_gap (aCons (cVar 0) aNil)) aNil)) (gN 1))
  (sSeq (sPar 2 3 (aCons (cOp gIx (cCall m_two_reduced (aCons (cVar 0) aNil)) (cC (.int 0))) (aCons (cC (.int 1)) aNil)))
  (sSeq (sWhile (cTru (cOp (gEq true) (cVar 2) (cVar 1))) (sPar 2 3 (aCons (cOp gIx (cCall m_put_together (aCons (cVar 2) (aCons (cVar 0) aNil))) (cC (.int 0))) (aCons (cOp gAddA (cVar 3) (cC (.int 1))) aNil))))
  (sRet (cVar 3))))))
noncomputable def m_class_order : MF := mDef 1 4 f_class_order
/-- _law_cell: 0 script, 1 k -/
noncomputable def f_l_cell : SF := (sSeq (sIf (cTru (cOp gLt (cVar 1) (cCall gLen (aCons (cVar 0) aNil)))) (sRet (cOp gIx (cVar 0) (cVar 1))) sSkip)
  (sRet (cC (.int 0))))
noncomputable def m_l_cell : MF := mDef 2 2 f_l_cell
/-- _law_digits: 0 script, 1 first, 2 last, 3 found, 4 k, 5 c, 6 n, 7 turn, 8 s -/
noncomputable def f_l_digits : SF := (sSeq (sAsg (cCel aNil) (gN 3))
  (sSeq (sFor (iRng2C (aCons (cVar 1) (aCons (cVar 2) aNil))) (gN 4) (sSeq (sAsg (cCall m_l_cell (aCons (cVar 0) (aCons (cVar 4) aNil))) (gN 5)) (sSeq (sIf (cTru (cOp gLt (cVar 5) (cC (.int 0)))) (sAsg (cOp gSub (cC (.int 1)) (cOp gMul (cVar 5) (cC (.int 2)))) (gN 5)) sSkip) (sIf (cTru (cOp gGe (cVar 5) (cOp gPow (cC (.int 10)) (cC (.int 18))))) (sSeq (sAsg (cVar 5) (gN 6)) (sFor (iRng1C (aCons (cC (.int 60)) aNil)) (gN 7) (sIf (cTru (cOp gGt (cVar 6) (cC (.int 0)))) (sSeq (sExpr (cApp (cVar 3) (cOp gMod (cVar 6) (cC (.int 1009))))) (sAsg (cOp gDiv (cVar 6) (cC (.int 1009))) (gN 6))) sSkip))) (sSeq (sAsg (cOp gMod (cOp gAddA (cOp gAddA (cOp gMul (cVar 5) (cC (.int 48271))) (cOp gMul (cCall gInt (aCons (cOp gAddA (cVar 4) (cC (.int 1))) aNil)) (cC (.int 69621)))) (cC (.int 11))) (cC (.int 2147483647))) (gN 8)) (sFor (iRng1C (aCons (cC (.int 12)) aNil)) (gN 7) (sSeq (sAsg (cOp gMod (cOp gAddA (cOp gAddA (cOp gMul (cVar 8) (cC (.int 16807))) (cOp gMul (cVar 7) (cC (.int 7)))) (cC (.int 1))) (cC (.int 2147483647))) (gN 8)) (sExpr (cApp (cVar 3) (cOp gMod (cOp gDiv (cVar 8) (cC (.int 997))) (cC (.int 1009))))))))))))
  (sRet (cVar 3))))
noncomputable def m_l_digits : MF := mDef 3 9 f_l_digits
/-- _law_draw: 0 box, 1 m, 2 digits, 3 at -/
noncomputable def f_l_draw : SF := (sSeq (sAsg (cVar 0) (gTupC 2 (gConsC (gN 2) (gConsC (gN 3) gNilC))))
  (sSeq (sAsg (cOp gAddA (cVar 3) (cC (.int 1))) (gSubC (cVar 0) (cC (.int 1))))
  (sSeq (sIf (cTru (cOp gLt (cVar 3) (cCall gLen (aCons (cVar 2) aNil)))) (sRet (cOp gMod (cOp gIx (cVar 2) (cVar 3)) (cVar 1))) sSkip)
  (sRet (cOp gMod (cOp gAddA (cOp gAddA (cOp gAddA (cOp gMul (cOp gMul (cVar 3) (cVar 3)) (cC (.int 3))) (cOp gMul (cVar 3) (cC (.int 4)))) (cOp gDiv (cVar 3) (cC (.int 3)))) (cC (.int 1))) (cVar 1))))))
noncomputable def m_l_draw : MF := mDef 2 4 f_l_draw
/-- _law_pick: 0 box, 1 rows -/
noncomputable def f_l_pick : SF := (sRet (cOp gIx (cVar 1) (cCall m_l_draw (aCons (cVar 0) (aCons (cCall gLen (aCons (cVar 1) aNil)) aNil)))))
noncomputable def m_l_pick : MF := mDef 2 2 f_l_pick
/-- _law_same: 0 one, 1 other -/
noncomputable def f_l_same : SF := (sRet (cOp (gEq false) (cCall gRepr (aCons (cVar 0) aNil)) (cCall gRepr (aCons (cVar 1) aNil))))
noncomputable def m_l_same : MF := mDef 2 2 f_l_same
/-- _law_det: 0 table, 1 found, 2 k, 3 rest, 4 row -/
noncomputable def f_l_det (rec : MF) : SF := (sSeq (sIf (cTru (cOp (gEq false) (cCall gLen (aCons (cVar 0) aNil)) (cC (.int 0)))) (sRet (cC (.int 1))) sSkip)
  (sSeq (sAsg (cC (.int 0)) (gN 1))
  (sSeq (sFor (iRng1C (aCons (cCall gLen (aCons (cVar 0) aNil)) aNil)) (gN 2) (sIf (cTru (cOp (gEq true) (cOp gIx (cOp gIx (cVar 0) (cVar 2)) (cC (.int 0))) (cC (.int 0)))) (sSeq (sAsg (cLc (iSeq (cOp gAddA (cSl (cVar 0) oNone (oSome (cVar 2))) (cSl (cVar 0) (oSome (cOp gAddA (cVar 2) (cC (.int 1)))) oNone))) (gN 4) tYesC (cSl (cVar 4) (oSome (cC (.int 1))) oNone) [4]) (gN 3)) (sAsg (cOp gAddA (cVar 1) (cOp gMul (cOp gMul (cOp gSub (cC (.int 1)) (cOp gMul (cC (.int 2)) (cOp gMod (cVar 2) (cC (.int 2))))) (cOp gIx (cOp gIx (cVar 0) (cVar 2)) (cC (.int 0)))) (cCall rec (aCons (cVar 3) aNil)))) (gN 1))) sSkip))
  (sRet (cVar 1)))))
noncomputable def m_l_det : Nat → MF
  | 0 => fun _ _ => none
  | n + 1 => mDef 1 5 (f_l_det (m_l_det n))
/-- _law_unit: 0 many, 1 j, 2 k -/
noncomputable def f_l_unit : SF := (sRet (cCall gTuple (aCons (cLc (iRng1C (aCons (cVar 0) aNil)) (gN 1) tYesC (cCall gTuple (aCons (cLc (iRng1C (aCons (cVar 0) aNil)) (gN 2) tYesC (cCall gInt (aCons (cOp (gEq false) (cVar 1) (cVar 2)) aNil)) [2]) aNil)) [1]) aNil)))
noncomputable def m_l_unit : MF := mDef 1 3 f_l_unit
/-- _law_change: 0 box, 1 many, 2 steps, 3 rows, 4 turn, 5 one, 6 other, 7 kind, 8 factor, 9 row, 10 number, 11 k -/
noncomputable def f_l_change : SF := (sSeq (sAsg (cLcC (iSeq (cCall m_l_unit (aCons (cVar 1) aNil))) (gN 9) tYesC (cCall gList (aCons (cVar 9) aNil)) [9]) (gN 3))
  (sSeq (sFor (iRng1C (aCons (cVar 2) aNil)) (gN 4) (sSeq (sAsg (cTup (aCons (cCall m_l_draw (aCons (cVar 0) (aCons (cVar 1) aNil))) (aCons (cCall m_l_draw (aCons (cVar 0) (aCons (cVar 1) aNil))) aNil))) (gTupC 2 (gConsC (gN 5) (gConsC (gN 6) gNilC)))) (sSeq (sAsg (cCall m_l_draw (aCons (cVar 0) (aCons (cC (.int 8)) aNil))) (gN 7)) (sIf (cTru (cOp (gEq false) (cVar 5) (cVar 6))) (sAsg (cLc (iSeq (cOp gIx (cVar 3) (cVar 5))) (gN 10) tYesC (cOp gSub (cC (.int 0)) (cVar 10)) [10]) (gSubC (cVar 3) (cVar 5))) (sIf (cTru (cOp (gEq false) (cVar 7) (cC (.int 0)))) (sAsg (cTup (aCons (cOp gIx (cVar 3) (cVar 6)) (aCons (cOp gIx (cVar 3) (cVar 5)) aNil))) (gTupC 2 (gConsC (gSubC (cVar 3) (cVar 5)) (gConsC (gSubC (cVar 3) (cVar 6)) gNilC)))) (sSeq (sAsg (cCall m_l_pick (aCons (cVar 0) (aCons (cLst (aCons (cC (.int 1)) (aCons (cUn gNeg (cC (.int 1))) (aCons (cC (.int 2)) (aCons (cUn gNeg (cC (.int 1))) (aCons (cC (.int 1)) aNil)))))) aNil))) (gN 8)) (sAsg (cLc (iRng1C (aCons (cVar 1) aNil)) (gN 11) tYesC (cOp gAddA (cOp gIx (cOp gIx (cVar 3) (cVar 5)) (cVar 11)) (cOp gMul (cVar 8) (cOp gIx (cOp gIx (cVar 3) (cVar 6)) (cVar 11)))) [11]) (gSubC (cVar 3) (cVar 5)))))))))
  (sRet (cCall gTuple (aCons (cLcP mkI (iCel (cVar 3)) (gN 9) tYesC (cCall gTuple (aCons (cVar 9) aNil)) [9]) aNil)))))
noncomputable def m_l_change : MF := mDef 3 12 f_l_change
/-- _law_quartic: 0 one, 1 other, 2 found, 3 a, 4 b -/
noncomputable def f_l_quartic : SF := (sSeq (sAsg (cLst aNil) (gN 2))
  (sSeq (sFor (iSeq (cVar 0)) (gN 3) (sAsg (cOp gAddA (cVar 2) (cLc (iSeq (cVar 1)) (gN 4) tYesC (cOp gMul (cVar 3) (cVar 4)) [4])) (gN 2)))
  (sRet (cVar 2))))
noncomputable def m_l_quartic : MF := mDef 2 5 f_l_quartic
/-- _law_put_in: 0 form, 1 rows, 2 a, 3 b, 4 c, 5 pairs, 6 j, 7 k, 8 value, 9 key, 10 found, 11 left, 12 right -/
noncomputable def f_l_put_in : SF := (sSeq (sAsg (cVar 0) (gTupC 3 (gConsC (gN 2) (gConsC (gN 3) (gConsC (gN 4) gNilC)))))
  (sSeq (sAsg cDic0 (gN 5))
  (sSeq (sFor (iRng1C (aCons (cC (.int 4)) aNil)) (gN 6) (sFor (iRng1C (aCons (cC (.int 4)) aNil)) (gN 7) (sSeq (sAsg (cOp gAddA (cOp gAddA (cOp gMul (cOp gMul (cVar 2) (cOp gIx (cOp gIx (cVar 1) (cC (.int 0))) (cVar 6))) (cOp gIx (cOp gIx (cVar 1) (cC (.int 0))) (cVar 7))) (cOp gMul (cOp gMul (cVar 3) (cOp gIx (cOp gIx (cVar 1) (cC (.int 0))) (cVar 6))) (cOp gIx (cOp gIx (cVar 1) (cC (.int 1))) (cVar 7)))) (cOp gMul (cOp gMul (cVar 4) (cOp gIx (cOp gIx (cVar 1) (cC (.int 1))) (cVar 6))) (cOp gIx (cOp gIx (cVar 1) (cC (.int 1))) (cVar 7)))) (gN 8)) (sSeq (sAsg (cTup (aCons (cOp gAddA (cOp gDiv (cVar 6) (cC (.int 2))) (cOp gDiv (cVar 7) (cC (.int 2)))) (aCons (cOp gAddA (cOp gMod (cVar 6) (cC (.int 2))) (cOp gMod (cVar 7) (cC (.int 2)))) aNil))) (gN 9)) (sDPut (cOp gAddA (cDGet2 (cVar 5) (cVar 9) (cC (.int 0))) (cVar 8)) (cVar 5) (cVar 9))))))
  (sSeq (sAsg (cLst aNil) (gN 10))
  (sSeq (sFor (iRng1C (aCons (cC (.int 3)) aNil)) (gN 11) (sAsg (cOp gAddA (cVar 10) (cLc (iRng1C (aCons (cC (.int 3)) aNil)) (gN 12) tYesC (cDGet (cVar 5) (cTup (aCons (cVar 11) (aCons (cVar 12) aNil)))) [12])) (gN 10)))
  (sRet (cVar 10)))))))
noncomputable def m_l_put_in : MF := mDef 2 13 f_l_put_in
/-- _law_shows: 0 one, 1 other, 2 form, 3 paper, 4 big, 5 small, 6 row, 7 number -/
noncomputable def f_l_shows : SF := (sSeq (sIf (tOrC (tNotC (cTru (cCall gIsi (aCons (cVar 3) (aCons (cC (.ty "tuple")) aNil))))) (tOrC (cTru (cOp (gEq true) (cCall gLen (aCons (cVar 3) aNil)) (cC (.int 2)))) (cTru (cOp (gEq true) (cLc (iSeq (cVar 3)) (gN 6) (tOrC (tNotC (cTru (cCall gIsi (aCons (cVar 6) (aCons (cC (.ty "tuple")) aNil))))) (cTru (cOp (gEq true) (cCall gLen (aCons (cVar 6) aNil)) (cC (.int 4))))) (cVar 6) [6]) (cLst aNil))))) (sRet (cC (.bl false))) sSkip)
  (sSeq (sIf (cTru (cOp (gEq true) (cLc (iSeq (cOp gAddA (cOp gIx (cVar 3) (cC (.int 0))) (cOp gIx (cVar 3) (cC (.int 1))))) (gN 7) (tOrC (tNotC (cTru (cCall gIsi (aCons (cVar 7) (aCons (cC (.ty "int")) aNil))))) (cTru (cCall gIsi (aCons (cVar 7) (aCons (cC (.ty "bool")) aNil))))) (cVar 7) [7]) (cLst aNil))) (sRet (cC (.bl false))) sSkip)
  (sSeq (sAsg (cVar 3) (gTupC 2 (gConsC (gN 4) (gConsC (gN 5) gNilC))))
  (sSeq (sIf (tOrC (cTru (cOp (gEq true) (cOp gSub (cOp gMul (cOp gIx (cVar 4) (cC (.int 0))) (cOp gIx (cVar 5) (cC (.int 1)))) (cOp gMul (cOp gIx (cVar 5) (cC (.int 0))) (cOp gIx (cVar 4) (cC (.int 1))))) (cOp gIx (cVar 0) (cC (.int 0))))) (cTru (cOp (gEq true) (cOp gSub (cOp gMul (cOp gIx (cVar 4) (cC (.int 0))) (cOp gIx (cVar 5) (cC (.int 2)))) (cOp gMul (cOp gIx (cVar 5) (cC (.int 0))) (cOp gIx (cVar 4) (cC (.int 2))))) (cOp gIx (cVar 1) (cC (.int 0)))))) (sRet (cC (.bl false))) sSkip)
  (sRet (cOp (gEq false) (cCall m_l_put_in (aCons (cVar 2) (aCons (cVar 3) aNil))) (cCall m_l_quartic (aCons (cVar 0) (aCons (cVar 1) aNil)))))))))
noncomputable def m_l_shows : MF := mDef 4 8 f_l_shows
/-- _law_two_change: 0 box, 1 rows -/
noncomputable def f_l_two_change : SF := (sSeq (sAsg (cCall m_l_change (aCons (cVar 0) (aCons (cC (.int 2)) (aCons (cC (.int 4)) aNil)))) (gN 1))
  (sSeq (sIf (cTru (cOp (gEq false) (cCall (m_l_det 3) (aCons (cVar 1) aNil)) (cUn gNeg (cC (.int 1))))) (sAsg (cTup (aCons (cOp gIx (cVar 1) (cC (.int 1))) (aCons (cOp gIx (cVar 1) (cC (.int 0))) aNil))) (gN 1)) sSkip)
  (sRet (cVar 1))))
noncomputable def m_l_two_change : MF := mDef 1 2 f_l_two_change
/-- law: 0 script, 1 box, 2 number, 3 classes, 4 one, 5 other, 6 form, 7 paper, 8 back, 9 unit, 10 third, 11 power, 12 found, 13 turn, 14 order, 15 at, 16 k, 17 spoilt, 18 tries, 19 foreign, 20 e, 21 row, 22 n, 23 some -/
noncomputable def f_l_law : SF := (sSeq (sAsg (cCel (aCons (cCall m_l_digits (aCons (cVar 0) (aCons (cC (.int 0)) (aCons (cC (.int 63)) aNil)))) (aCons (cC (.int 0)) aNil))) (gN 1))
  (sSeq (sAsg (cOp gSub (cC (.int 0)) (cOp gSub (cOp gMul (cC (.int 4)) (cOp gAddA (cC (.int 1)) (cCall m_l_draw (aCons (cVar 1) (aCons (cC (.int 200)) aNil))))) (cCall m_l_pick (aCons (cVar 1) (aCons (cLst (aCons (cC (.int 0)) (aCons (cC (.int 1)) aNil))) aNil))))) (gN 2))
  (sSeq (sAsg (cCall m_two_classes (aCons (cVar 2) aNil)) (gN 3))
  (sSeq (sAsg (cCall m_two_changed (aCons (cCall m_l_pick (aCons (cVar 1) (aCons (cVar 3) aNil))) (aCons (cCall m_l_two_change (aCons (cVar 1) aNil)) aNil))) (gN 4))
  (sSeq (sAsg (cCall m_two_changed (aCons (cCall m_l_pick (aCons (cVar 1) (aCons (cVar 3) aNil))) (aCons (cCall m_l_two_change (aCons (cVar 1) aNil)) aNil))) (gN 5))
  (sSeq (sAsg (cCall m_put_together (aCons (cVar 4) (aCons (cVar 5) aNil))) (gTupC 2 (gConsC (gN 6) (gConsC (gN 7) gNilC))))
  (sSeq (sIf (tOrC (cTru (cOp (gIn true) (cVar 6) (cVar 3))) (tOrC (cTru (cOp (gIsB true) (cCall m_is_two_reduced (aCons (cVar 6) aNil)) (cC (.bl true)))) (tOrC (tNotC (cTru (cCall m_l_shows (aCons (cVar 4) (aCons (cVar 5) (aCons (cVar 6) (aCons (cVar 7) aNil))))))) (cTru (cOp (gIsB true) (cCall m_shows_together (aCons (cVar 4) (aCons (cVar 5) (aCons (cVar 6) (aCons (cVar 7) aNil))))) (cC (.bl true))))))) (sRet (cC (.bl false))) sSkip)
  (sSeq (sAsg (cOp gIx (cCall m_put_together (aCons (cVar 5) (aCons (cVar 4) aNil))) (cC (.int 0))) (gN 8))
  (sSeq (sAsg (cCall m_unit_two (aCons (cVar 2) aNil)) (gN 9))
  (sSeq (sIf (tOrC (cTru (cOp (gEq true) (cVar 8) (cVar 6))) (tOrC (cTru (cOp (gEq true) (cOp gIx (cCall m_put_together (aCons (cVar 9) (aCons (cVar 4) aNil))) (cC (.int 0))) (cOp gIx (cCall m_two_reduced (aCons (cVar 4) aNil)) (cC (.int 0))))) (cTru (cOp (gEq true) (cOp gIx (cCall m_put_together (aCons (cVar 4) (aCons (cCall m_opposite_two (aCons (cVar 4) aNil)) aNil))) (cC (.int 0))) (cVar 9))))) (sRet (cC (.bl false))) sSkip)
  (sSeq (sAsg (cCall m_l_pick (aCons (cVar 1) (aCons (cVar 3) aNil))) (gN 10))
  (sSeq (sIf (cTru (cOp (gEq true) (cOp gIx (cCall m_put_together (aCons (cVar 6) (aCons (cVar 10) aNil))) (cC (.int 0))) (cOp gIx (cCall m_put_together (aCons (cVar 4) (aCons (cOp gIx (cCall m_put_together (aCons (cVar 5) (aCons (cVar 10) aNil))) (cC (.int 0))) aNil))) (cC (.int 0))))) (sRet (cC (.bl false))) sSkip)
  (sSeq (sAsg (cCall m_l_draw (aCons (cVar 1) (aCons (cC (.int 6)) aNil))) (gN 11))
  (sSeq (sAsg (cVar 9) (gN 12))
  (sSeq (sFor (iRng1C (aCons (cVar 11) aNil)) (gN 13) (sAsg (cOp gIx (cCall m_put_together (aCons (cVar 12) (aCons (cVar 4) aNil))) (cC (.int 0))) (gN 12)))
  (sSeq (sIf (cTru (cOp (gEq true) (cCall m_class_power (aCons (cVar 4) (aCons (cVar 11) aNil))) (cVar 12))) (sRet (cC (.bl false))) sSkip)
  (sSeq (sAsg (cCall m_class_order (aCons (cVar 4) aNil)) (gN 14))
  (sSeq (sIf (tOrC (cTru (cOp gLt (cVar 14) (cC (.int 1)))) (tOrC (cTru (cOp (gEq true) (cOp gMod (cCall gLen (aCons (cVar 3) aNil)) (cVar 14)) (cC (.int 0)))) (tOrC (cTru (cOp (gEq true) (cCall m_class_power (aCons (cVar 4) (aCons (cVar 14) aNil))) (cVar 9))) (tAndC (cTru (cOp (gEq true) (cSl (cLc (iRng2C (aCons (cC (.int 1)) (aCons (cVar 14) aNil))) (gN 16) (cTru (cOp (gEq false) (cCall m_class_power (aCons (cVar 4) (aCons (cVar 16) aNil))) (cVar 9))) (cVar 16) [16]) oNone (oSome (cC (.int 1)))) (cLst aNil))) (cTru (cOp gGt (cVar 14) (cC (.int 1)))))))) (sRet (cC (.bl false))) sSkip)
  (sSeq (sPar 15 16 (aCons (cCall m_l_draw (aCons (cVar 1) (aCons (cC (.int 2)) aNil))) (aCons (cCall m_l_draw (aCons (cVar 1) (aCons (cC (.int 4)) aNil))) aNil)))
  (sSeq (sAsg (cOp gAddA (cOp gAddA (cSl (cVar 7) oNone (oSome (cVar 15))) (cTup (aCons (cOp gAddA (cOp gAddA (cSl (cOp gIx (cVar 7) (cVar 15)) oNone (oSome (cVar 16))) (cTup (aCons (cOp gAddA (cOp gIx (cOp gIx (cVar 7) (cVar 15)) (cVar 16)) (cCall m_l_pick (aCons (cVar 1) (aCons (cLst (aCons (cUn gNeg (cC (.int 1))) (aCons (cC (.int 1)) aNil))) aNil)))) aNil))) (cSl (cOp gIx (cVar 7) (cVar 15)) (oSome (cOp gAddA (cVar 16) (cC (.int 1)))) oNone)) aNil))) (cSl (cVar 7) (oSome (cOp gAddA (cVar 15) (cC (.int 1)))) oNone)) (gN 17))
  (sSeq (sAsg (cLst (aCons (cVar 17) (aCons (cTup (aCons (cOp gIx (cVar 7) (cC (.int 1))) (aCons (cOp gIx (cVar 7) (cC (.int 0))) aNil))) (aCons (cTup (aCons (cOp gIx (cVar 7) (cC (.int 0))) aNil)) (aCons (cC .non) (aCons (cTup (aCons (cOp gIx (cVar 7) (cC (.int 0))) (aCons (cTup (aCons (cC (.int 1)) (aCons (cC (.int 2)) (aCons (cC (.int 3)) aNil)))) aNil))) (aCons (cCall gTuple (aCons (cLc (iSeq (cVar 7)) (gN 21) tYesC (cCall gTuple (aCons (cLc (iSeq (cVar 21)) (gN 22) tYesC (cOp gSub (cC (.int 0)) (cVar 22)) [22]) aNil)) [21]) aNil)) aNil))))))) (gN 18))
  (sSeq (sIf (cTru (cOp (gEq true) (cLc (iSeq (cVar 18)) (gN 23) (tNotC (cTru (cCall m_l_same (aCons (cCall m_shows_together (aCons (cVar 4) (aCons (cVar 5) (aCons (cVar 6) (aCons (cVar 23) aNil))))) (aCons (cCall m_l_shows (aCons (cVar 4) (aCons (cVar 5) (aCons (cVar 6) (aCons (cVar 23) aNil))))) aNil))))) (cVar 23) [23]) (cLst aNil))) (sRet (cC (.bl false))) sSkip)
  (sSeq (sAsg (cOp gIx (cCall m_two_classes (aCons (cOp gSub (cVar 2) (cC (.int 4))) aNil)) (cC (.int 0))) (gN 19))
  (sSeq (sTry "BadTable" 20 (sExpr (cCall m_put_together (aCons (cVar 4) (aCons (cVar 19) aNil)))) (fun fs => sRet (cOp (gEq false) (xRsn fs) ((cC (.str "discriminant"))))) sSkip)
  (sRet (cC (.bl false)))))))))))))))))))))))))))
noncomputable def m_l_law : MF := mDef 1 24 f_l_law
end K12
/-! K12, forms of two unknowns, 0: as gen/mkbase.py printed it. -/
namespace K12
open PySem DL
variable {M : Store}
theorem abs_nat (a : Int) : (if a < 0 then -a else a) = (a.natAbs : Int) := by omega
theorem divisor_loop : ∀ (m o : Nat), sWhile (cTru (cVar 1)) (sPar 0 1 (aCons (cVar 1) (aCons (cOp gMod (cVar 0) (cVar 1)) aNil))) [some (.int o), some (.int m)] M = some (.nx [some (.int (Nat.gcd o m)), some (.int 0)], M) := by
  intro m
  induction m using Nat.strongRecOn with
  | _ m ih =>
    intro o
    cases m with
    | zero =>
      have h : sWhile (cTru (cVar 1)) (sPar 0 1 (aCons (cVar 1) (aCons (cOp gMod (cVar 0) (cVar 1)) aNil))) [some (.int o), some (.int (0 : Nat))] M = some (.nx [some (.int o), some (.int (0 : Nat))], M) := sWhile_stop (M1 := M) (by simp)
      rw [h]; simp
    | succ m =>
      refine sWhile_more (en1 := [some (.int (m + 1 : Nat)), some (.int ((o % (m + 1) : Nat) : Int))]) (M1 := M) (M2 := M) ?_ ?_ ?_
      · simp; omega
      · simp [modC]
      · rw [ih (o % (m + 1)) (Nat.mod_lt _ (Nat.succ_pos m)) (m + 1)]
        rw [Nat.gcd_comm (m + 1), ← Nat.gcd_rec, Nat.gcd_comm]
theorem divisor_is (a b : Int) : m_divisor [.int a, .int b] M = some (.ok (.int (Int.gcd a b)), M) := by
  unfold m_divisor f_divisor
  simp [abs_nat, divisor_loop]
  rfl
/-- the divisor of many -/
def gcdL (r : List Int) : Int := r.foldl (fun (g x : Int) => (Int.gcd g x : Int)) 0
theorem divisor_of_loop : ∀ (r : List Int) (x z : Option D) (g : Int), ∃ z', fLoop (gN 2) (sAsg (cCall m_divisor (aCons (cVar 1) (aCons (cVar 2) aNil))) (gN 1)) (r.map D.int) [x, some (.int g), z] M = some (.nx [x, some (.int (r.foldl (fun (g x : Int) => (Int.gcd g x : Int)) g)), z'], M)
  | [], x, z, g => ⟨z, rfl⟩
  | i :: r, x, z, g => by
    obtain ⟨z', h⟩ := divisor_of_loop r x (some (.int i)) (Int.gcd g i)
    refine ⟨z', ?_⟩
    rw [List.map_cons, fLoop_cons]
    simp [divisor_is]
    exact h
theorem divisor_of_is (r : List Int) : m_divisor_of [eRow r] M = some (.ok (.int (gcdL r)), M) := by
  unfold m_divisor_of f_divisor_of
  obtain ⟨z', h⟩ := divisor_of_loop (M := M) r (some (eRow r)) none 0
  simp [h]
  rfl
theorem newton {x f : Int} (hx : 0 ≤ x) (hf : 0 < f) : x < ((f + x / f) / 2 + 1) * ((f + x / f) / 2 + 1) := by
  have h1 : x < f * (x / f + 1) := by
    have := Int.lt_mul_ediv_self_add (x := x) hf
    rw [Int.mul_add, Int.mul_one]
    exact this
  generalize x / f = q at *
  have h2 : f + q + 1 ≤ 2 * ((f + q) / 2 + 1) := by omega
  generalize (f + q) / 2 + 1 = g at *
  have hq : 0 < q + 1 := by
    rcases Int.lt_or_le 0 (q + 1) with h | h
    · exact h
    · have := Int.mul_nonpos_of_nonneg_of_nonpos (Int.le_of_lt hf) h
      omega
  have h3 : (f + (q + 1)) * (f + (q + 1)) ≤ (2 * g) * (2 * g) := Int.mul_self_le_mul_self (by omega) (by omega)
  have h4 : 0 ≤ (f - (q + 1)) * (f - (q + 1)) := sq_nonneg _
  have e1 : (f + (q + 1)) * (f + (q + 1)) = (f - (q + 1)) * (f - (q + 1)) + 4 * (f * (q + 1)) := by grind
  have e2 : (2 * g) * (2 * g) = 4 * (g * g) := by grind
  omega
theorem newton_less {x f : Int} (hx : 0 ≤ x) (hf : 0 < f) (h : x < f * f) : (f + x / f) / 2 < f := by
  have : x / f < f := Int.ediv_lt_of_lt_mul hf h
  omega
theorem newton_nn {x f : Int} (hx : 0 ≤ x) (hf : 0 < f) : 0 ≤ (f + x / f) / 2 := by
  have : 0 ≤ x / f := Int.ediv_nonneg hx (Int.le_of_lt hf)
  omega
/-- the root, rounded down -/
def IsRoot (x r : Int) : Prop := 0 ≤ r ∧ r * r ≤ x ∧ x < (r + 1) * (r + 1)
theorem root_loop {x : Int} (hx : 0 ≤ x) (hb : x < 2 ^ 62) : ∀ (n : Nat) (f : Int), f.toNat = n → 0 ≤ f → f < 2 ^ 62 → x < (f + 1) * (f + 1) → ∃ r, IsRoot x r ∧
    sWhile (cTru (cOp gGt (cOp gMul (cVar 1) (cVar 1)) (cVar 0))) (sAsg (cOp gDiv (cOp gAddA (cVar 1) (cOp gDiv (cVar 0) (cVar 1))) (cC (.int 2))) (gN 1)) [some (.int x), some (.int f)] M = some (.nx [some (.int x), some (.int r)], M) := by
  intro n
  induction n using Nat.strongRecOn with
  | _ n ih =>
    intro f hn h0 h1 h2
    have hm : mulC f f = true := mulC_l (by omega) (by omega)
    by_cases h : x < f * f
    · have hf : 0 < f := by
        rcases Int.lt_or_eq_of_le h0 with q | q
        · exact q
        · subst q; omega
      have hl := newton_less hx hf h
      have hnn := newton_nn hx hf
      obtain ⟨r, hr, e⟩ := ih ((f + x / f) / 2).toNat (by omega) _ rfl hnn (by omega) (newton hx hf)
      refine ⟨r, hr, sWhile_more (en1 := [some (.int x), some (.int ((f + x / f) / 2))]) (M1 := M) (M2 := M) ?_ ?_ e⟩
      · simp [hm, h]
      · simp [divC_of hf (Int.lt_trans h1 (by decide)), show divC (f + x / f) 2 = true from divC_of (by decide) (by decide)]
    · refine ⟨f, ⟨h0, by omega, h2⟩, sWhile_stop (M1 := M) ?_⟩
      simp [hm, h]
theorem bits_lt {x : Int} (hx : 0 ≤ x) : x < 2 ^ (Builtin.Int.intBits x) := by
  unfold Builtin.Int.intBits
  split
  · rename_i h
    have : x = 0 := by simpa using h
    subst this; decide
  · have := Nat.lt_log2_self (n := x.natAbs)
    have h2 : ((x.natAbs : Nat) : Int) < ((2 ^ (x.natAbs.log2 + 1) : Nat) : Int) := by exact_mod_cast this
    have h3 : ((x.natAbs : Nat) : Int) = x := by omega
    rw [h3] at h2
    exact_mod_cast h2
theorem bits_le {x : Int} (hx : 0 ≤ x) (hb : x < 2 ^ 62) : Builtin.Int.intBits x ≤ 62 := by
  unfold Builtin.Int.intBits
  split
  · omega
  · rename_i h
    have h0 : x.natAbs ≠ 0 := by
      intro z
      apply h
      simp; omega
    have : x.natAbs.log2 < 62 := (Nat.log2_lt h0).mpr (by omega)
    omega
theorem root_is {x : Int} (hx : 0 ≤ x) (hb : x < 2 ^ 62) : ∃ r, IsRoot x r ∧ m_root [.int x] M = some (.ok (.int r), M) := by
  have h1 := bits_lt hx
  have h2 := bits_le hx hb
  generalize hL : Builtin.Int.intBits x = L at h1 h2
  have hk : (L + 1) / 2 ≤ 31 := by omega
  have hp : (2 : Int) ^ ((L + 1) / 2) ≤ 2 ^ 31 := by
    have : (2 : Nat) ^ ((L + 1) / 2) ≤ 2 ^ 31 := Nat.pow_le_pow_right (by decide) hk
    exact_mod_cast this
  have hp0 : (0 : Int) < 2 ^ ((L + 1) / 2) := by
    have : (0 : Nat) < 2 ^ ((L + 1) / 2) := Nat.pow_pos (by decide)
    exact_mod_cast this
  have hq : (2 : Int) ^ L ≤ 2 ^ ((L + 1) / 2) * 2 ^ ((L + 1) / 2) := by
    have : (2 : Nat) ^ L ≤ 2 ^ ((L + 1) / 2) * 2 ^ ((L + 1) / 2) := by
      rw [← Nat.pow_add]
      exact Nat.pow_le_pow_right (by decide) (by omega)
    exact_mod_cast this
  generalize (2 : Int) ^ L = U at *
  have hst : x < (2 ^ ((L + 1) / 2) + 1) * (2 ^ ((L + 1) / 2) + 1) := by
    generalize (2 : Int) ^ ((L + 1) / 2) = f at *
    have : (f + 1) * (f + 1) = f * f + 2 * f + 1 := by grind
    omega
  obtain ⟨r, hr, e⟩ := root_loop (M := M) hx hb _ _ rfl (Int.le_of_lt hp0) (Int.lt_of_le_of_lt hp (by decide)) hst
  refine ⟨r, hr, ?_⟩
  unfold m_root f_root
  have hpc : powC 1 (((L : Int) + 1) / 2) = true := by
    unfold powC
    rw [Bool.and_eq_true, Bool.and_eq_true]
    exact ⟨decide_eq_true (by omega), decide_eq_true (by omega), decide_eq_true (by decide)⟩
  have ht : ((((L : Int) + 1) / 2)).toNat = (L + 1) / 2 := by omega
  simp [hL, show ∀ y : Int, divC y 2 = true from fun y => divC_of (by decide) (by decide), hpc, ht, e]
theorem is_whole_is (a : Int) : m_is_whole [.int a] M = some (.ok (.bl true), M) := by
  unfold m_is_whole f_is_whole
  simp [show ∀ a : Int, gIsi [.int a, .ty "int"] M = some (.ok (.bl true), M) from fun _ => rfl, show ∀ a : Int, gIsi [.int a, .ty "bool"] M = some (.ok (.bl false), M) from fun _ => rfl]
theorem is_row_3 (a b c : Int) : m_is_row [eRow [a, b, c]] M = some (.ok (.bl true), M) := by
  unfold m_is_row f_is_row
  simp [show ∀ r : List Int, gIsi [eRow r, .ty "tuple"] M = some (.ok (.bl true), M) from fun _ => rfl, is_whole_is, gAll, blsOf]
theorem is_row_2 (a b : Int) : m_is_row [eRow [a, b]] M = some (.ok (.bl true), M) := by
  unfold m_is_row f_is_row
  simp [show ∀ r : List Int, gIsi [eRow r, .ty "tuple"] M = some (.ok (.bl true), M) from fun _ => rfl, is_whole_is, gAll, blsOf]
theorem is_two_3 (a b c : Int) : m_is_two [eRow [a, b, c]] M = some (.ok (.bl true), M) := by
  unfold m_is_two f_is_two
  simp [is_row_3]
theorem is_two_2 (a b : Int) : m_is_two [eRow [a, b]] M = some (.ok (.bl false), M) := by
  unfold m_is_two f_is_two
  simp [is_row_2]
/-- all numbers below 10 ^ 15 -/
def Sm (x : Int) : Prop := -(10 ^ 15) < x ∧ x < 10 ^ 15
theorem Sm.l {x y : Int} (h : Sm x) : mulC x y = true := by
  obtain ⟨h1, h2⟩ := h
  exact mulC_l (by omega) (by omega)
theorem Sm.r {x y : Int} (h : Sm y) : mulC x y = true := by
  obtain ⟨h1, h2⟩ := h
  exact mulC_r (by omega) (by omega)
theorem m4 {y : Int} : mulC 4 y = true := mulC_l (by decide) (by decide)
theorem m2 {y : Int} : mulC 2 y = true := mulC_l (by decide) (by decide)
def gapF (a b c : Int) : Int := b * b - 4 * a * c
theorem gap_is {a b c : Int} (hb : Sm b) (hc : Sm c) : m_gap [eRow [a, b, c]] M = some (.ok (.int (gapF a b c)), M) := by
  unfold m_gap f_gap
  simp [hb.l, m4, hc.r, gapF]
theorem check_two_is {a b c : Int} (hb : Sm b) (hc : Sm c) (hg : gapF a b c < 0) (ha : 1 ≤ a) (h1 : gcdL [a, b, c] = 1) : m_check_two [eRow [a, b, c]] M = some (.ok .non, M) := by
  unfold m_check_two f_check_two
  simp [is_two_3, gap_is hb hc, divisor_of_is, h1, show ¬ 0 ≤ gapF a b c by omega, show ¬ a < 1 by omega]
def worthF (a b c x y : Int) : Int := a * x * x + b * x * y + c * y * y
theorem two_worth_is {a b c x y : Int} (hx : Sm x) (hy : Sm y) : m_two_worth [eRow [a, b, c], .int x, .int y] M = some (.ok (.int (worthF a b c x y)), M) := by
  unfold m_two_worth f_two_worth
  simp [hx.r, hy.r, worthF]
def midF (a b c p q r s : Int) : Int := 2 * a * p * r + b * (p * s + q * r) + 2 * c * q * s
theorem two_changed_is {a b c p q r s : Int} (hb : Sm b) (hp : Sm p) (hq : Sm q) (hr : Sm r) (hs : Sm s) :
    m_two_changed [eRow [a, b, c], eTab [[p, q], [r, s]]] M = some (.ok (eRow [worthF a b c p q, midF a b c p q r s, worthF a b c r s]), M) := by
  unfold m_two_changed f_two_changed
  simp [m2, hb.l, hp.r, hq.r, hr.r, hs.r, two_worth_is hp hq, two_worth_is hr hs, midF, row3]
def redF (a b c : Int) : Bool := decide (-a < b) && (decide (b ≤ a) && (decide (a ≤ c) && !(a == c && decide (b < 0))))
theorem is_two_reduced_is {a b c : Int} : m_is_two_reduced [eRow [a, b, c]] M = some (.ok (.bl (redF a b c)), M) := by
  unfold m_is_two_reduced f_is_two_reduced
  unfold redF
  simp
  cases decide (-a < b) <;> cases decide (b ≤ a) <;> cases decide (a ≤ c) <;> cases (a == c) <;> cases decide (b < 0) <;> simp
theorem rgD_2 : rgD 0 2 = [.int 0, .int 1] := by rfl
theorem wide_is {a b : Int} {t : List (List Int)} : m_wide [eTab ([a, b] :: t)] M = some (.ok (.int 2), M) := by
  unfold m_wide f_wide
  simp [eTab]
theorem turned_is {e f g h : Int} : m_turned [eTab [[e, f], [g, h]]] M = some (.ok (eTab [[e, g], [f, h]]), M) := by
  unfold m_turned f_turned
  simp [wide_is, rgD_2, show smI 2 = true from rfl, row2, tab2]
theorem dot_is {a b e g : Int} (h1 : mulC a e = true) (h2 : mulC b g = true) : m_dot [eRow [a, b], eRow [e, g]] M = some (.ok (.int (a * e + b * g)), M) := by
  unfold m_dot f_dot
  simp [iZipC, eRow, zipD, h1, h2, gSum, intsOf]
def prodF (a b c d e f g h : Int) : List (List Int) := [[a * e + b * g, a * f + b * h], [c * e + d * g, c * f + d * h]]
theorem product_is {a b c d e f g h : Int} (h1 : mulC a e = true) (h2 : mulC b g = true) (h3 : mulC a f = true) (h4 : mulC b h = true) (h5 : mulC c e = true) (h6 : mulC d g = true) (h7 : mulC c f = true) (h8 : mulC d h = true) :
    m_product [eTab [[a, b], [c, d]], eTab [[e, f], [g, h]]] M = some (.ok (eTab (prodF a b c d e f g h)), M) := by
  unfold m_product f_product
  simp [turned_is, dot_is, h1, h2, h3, h4, h5, h6, h7, h8, row2, tab2, prodF]
end K12
/-! K12, forms of two unknowns, 1: as gen/mkbase.py printed it. -/
namespace K12
open PySem DL
variable {M : Store}
structure Frm where
  a : Int
  b : Int
  c : Int
structure Chg where
  p : Int
  q : Int
  r : Int
  s : Int
def Frm.wo (f : Frm) (x y : Int) : Int := worthF f.a f.b f.c x y
def Frm.act (f : Frm) (u : Chg) : Frm := ⟨f.wo u.p u.q, midF f.a f.b f.c u.p u.q u.r u.s, f.wo u.r u.s⟩
def Frm.gap (f : Frm) : Int := gapF f.a f.b f.c
def Frm.red (f : Frm) : Bool := redF f.a f.b f.c
def Chg.det (u : Chg) : Int := u.p * u.s - u.q * u.r
def Chg.mul (v u : Chg) : Chg := ⟨v.p * u.p + v.q * u.r, v.p * u.q + v.q * u.s, v.r * u.p + v.s * u.r, v.r * u.q + v.s * u.s⟩
def Chg.one : Chg := ⟨1, 0, 0, 1⟩
def Chg.inv (u : Chg) : Chg := ⟨u.s, -u.q, -u.r, u.p⟩
theorem Frm.ext {f g : Frm} (h1 : f.a = g.a) (h2 : f.b = g.b) (h3 : f.c = g.c) : f = g := by
  cases f; cases g; simp_all
theorem act_one (f : Frm) : f.act .one = f := by
  apply Frm.ext <;> simp [Frm.act, Frm.wo, worthF, midF, Chg.one]
theorem act_act (f : Frm) (u v : Chg) : (f.act u).act v = f.act (v.mul u) := by
  apply Frm.ext <;> simp only [Frm.act, Frm.wo, worthF, midF, Chg.mul] <;> grind
theorem gap_act (f : Frm) (u : Chg) : (f.act u).gap = u.det * u.det * f.gap := by
  simp only [Frm.gap, gapF, Frm.act, Frm.wo, worthF, midF, Chg.det]
  grind
theorem det_mul (u v : Chg) : (v.mul u).det = v.det * u.det := by
  simp only [Chg.det, Chg.mul]
  grind
theorem inv_mul (u : Chg) (h : u.det = 1) : u.inv.mul u = .one := by
  obtain ⟨p, q, r, s⟩ := u
  simp only [Chg.det] at h
  simp only [Chg.mul, Chg.inv, Chg.one, Chg.mk.injEq]
  refine ⟨?_, ?_, ?_, ?_⟩ <;> grind
theorem act_inv (f : Frm) (u : Chg) (h : u.det = 1) : (f.act u).act u.inv = f := by
  rw [act_act, inv_mul u h, act_one]
theorem det_inv (u : Chg) : u.inv.det = u.det := by
  simp only [Chg.det, Chg.inv]
  grind
/-- above 0 -/
def Frm.pos (f : Frm) : Prop := 1 ≤ f.a ∧ f.gap < 0
theorem four_a (f : Frm) (x y : Int) : 4 * f.a * f.wo x y = (2 * f.a * x + f.b * y) * (2 * f.a * x + f.b * y) - f.gap * (y * y) := by
  simp only [Frm.wo, Frm.gap, worthF, gapF]
  grind
theorem four_c (f : Frm) (x y : Int) : 4 * f.c * f.wo x y = (2 * f.c * y + f.b * x) * (2 * f.c * y + f.b * x) - f.gap * (x * x) := by
  simp only [Frm.wo, Frm.gap, worthF, gapF]
  grind
theorem pos_c {f : Frm} (h : f.pos) : 1 ≤ f.c := by
  obtain ⟨h1, h2⟩ := h
  rcases Int.lt_or_le 0 f.c with hc | hc
  · exact hc
  · have h3 := Int.mul_nonneg (show 0 ≤ f.a by omega) (show 0 ≤ -f.c by omega)
    have h4 := sq_nonneg f.b
    simp only [Frm.gap, gapF] at h2
    have e : f.a * -f.c = -(f.a * f.c) := by grind
    have e2 : 4 * f.a * f.c = 4 * (f.a * f.c) := by grind
    omega
theorem wo_pos {f : Frm} (h : f.pos) {x y : Int} (hxy : x ≠ 0 ∨ y ≠ 0) : 1 ≤ f.wo x y := by
  obtain ⟨h1, h2⟩ := h
  have e := four_a f x y
  have s1 := sq_nonneg (2 * f.a * x + f.b * y)
  rcases Int.lt_or_le 0 (f.wo x y) with hw | hw
  · exact hw
  · exfalso
    have h3 := Int.mul_nonneg (show 0 ≤ f.a by omega) (show 0 ≤ -f.wo x y by omega)
    have e1 : f.a * -f.wo x y = -(f.a * f.wo x y) := by grind
    have e2 : 4 * f.a * f.wo x y = 4 * (f.a * f.wo x y) := by grind
    have s2 := Int.mul_nonneg (show 0 ≤ -f.gap by omega) (sq_nonneg y)
    have e3 : -f.gap * (y * y) = -(f.gap * (y * y)) := by grind
    have y0 : f.gap * (y * y) = 0 := by omega
    have hy : y = 0 := by
      rcases Int.mul_eq_zero.mp y0 with z | z
      · omega
      · rcases Int.mul_eq_zero.mp z with z | z <;> exact z
    subst hy
    have hx : x ≠ 0 := by rcases hxy with z | z; exact z; exact absurd rfl z
    have hx2 : 0 < x * x := by
      rcases Int.lt_or_eq_of_le (sq_nonneg x) with z | z
      · exact z
      · rcases Int.mul_eq_zero.mp z.symm with z | z <;> exact absurd z hx
    have : f.wo x 0 = f.a * (x * x) := by simp only [Frm.wo, worthF]; grind
    have := Int.mul_pos (show 0 < f.a by omega) hx2
    omega
theorem det_row {u : Chg} (h : u.det = 1) : u.p ≠ 0 ∨ u.q ≠ 0 := by
  rcases Decidable.em (u.p = 0) with z | z
  · right
    intro z2
    simp [Chg.det, z, z2] at h
  · exact .inl z
theorem pos_act {f : Frm} (h : f.pos) {u : Chg} (hu : u.det = 1) : (f.act u).pos := ⟨wo_pos h (det_row hu), by rw [gap_act, hu]; have := h.2; omega⟩
/-- what a reduced form is -/
structure Red (f : Frm) : Prop where
  lo : -f.a < f.b
  hi : f.b ≤ f.a
  ac : f.a ≤ f.c
  eq : f.a = f.c → 0 ≤ f.b
theorem red_iff {f : Frm} : f.red = true ↔ Red f := by
  unfold Frm.red redF
  simp only [Bool.and_eq_true, decide_eq_true_eq, Bool.not_eq_true', Bool.and_eq_false_iff, beq_eq_false_iff_ne, decide_eq_false_iff_not]
  constructor
  · rintro ⟨h1, h2, h3, h4⟩
    exact ⟨h1, h2, h3, fun e => by rcases h4 with z | z; exact absurd e z; omega⟩
  · rintro ⟨h1, h2, h3, h4⟩
    refine ⟨h1, h2, h3, ?_⟩
    by_cases e : f.a = f.c
    · exact .inr (by have := h4 e; omega)
    · exact .inl e
theorem big {f : Frm} (h : Red f) (ha : 1 ≤ f.a) {x y : Int} (hy : y ≠ 0) : f.c ≤ f.wo x y := by
  obtain ⟨lo, hi, ac, _⟩ := h
  -- signs away: u, v the absolute values
  have key : ∀ (B u v : Int), 0 ≤ B → B ≤ f.a → 0 ≤ u → 1 ≤ v → f.c ≤ f.a * u * u - B * u * v + f.c * v * v := by
    intro B u v h0 h1 hu hv
    rcases Int.lt_or_le u v with q | q
    · -- u < v
      have s1 : 0 ≤ f.a * (u * u) := Int.mul_nonneg (by omega) (sq_nonneg u)
      have s2 : 0 ≤ (f.c - B) * (u * v) := Int.mul_nonneg (by omega) (Int.mul_nonneg hu (by omega))
      have s3 : 0 ≤ f.c * (v * (v - u) - 1) := Int.mul_nonneg (by omega) (by
        have := Int.mul_le_mul (show (1 : Int) ≤ v from hv) (show (1 : Int) ≤ v - u by omega) (by decide) (by omega)
        omega)
      have e : f.a * u * u - B * u * v + f.c * v * v = f.a * (u * u) + (f.c - B) * (u * v) + f.c * (v * (v - u) - 1) + f.c := by grind
      omega
    · have s1 : 0 ≤ (f.a - B) * (u * v) := Int.mul_nonneg (by omega) (Int.mul_nonneg hu (by omega))
      have s2 : 0 ≤ f.a * (u * (u - v)) := Int.mul_nonneg (by omega) (Int.mul_nonneg hu (by omega))
      have s3 : 0 ≤ f.c * (v * v - 1) := Int.mul_nonneg (by omega) (by
        have := Int.mul_le_mul hv hv (by decide) (by omega)
        omega)
      have e : f.a * u * u - B * u * v + f.c * v * v = (f.a - B) * (u * v) + f.a * (u * (u - v)) + f.c * (v * v - 1) + f.c := by grind
      omega
  have go : ∀ (b u v : Int), (b = f.b ∨ b = -f.b) → 0 ≤ u → 1 ≤ v → f.c ≤ f.a * u * u + b * u * v + f.c * v * v := by
    intro b u v hb hu hv
    rcases Int.le_total 0 b with z | z
    · have := key 0 u v (by omega) (by omega) hu hv
      have s := Int.mul_nonneg (Int.mul_nonneg z hu) (show 0 ≤ v by omega)
      simp at this
      omega
    · have := key (-b) u v (by omega) (by omega) hu hv
      have e : -b * u * v = -(b * u * v) := by grind
      omega
  unfold Frm.wo worthF
  rcases Int.lt_or_lt_of_ne hy with z | z <;> rcases Int.le_total 0 x with w | w
  · have := go (-f.b) x (-y) (.inr rfl) w (by omega)
    have e : f.a * x * x + -f.b * x * -y + f.c * -y * -y = f.a * x * x + f.b * x * y + f.c * y * y := by grind
    omega
  · have := go f.b (-x) (-y) (.inl rfl) (by omega) (by omega)
    have e : f.a * -x * -x + f.b * -x * -y + f.c * -y * -y = f.a * x * x + f.b * x * y + f.c * y * y := by grind
    omega
  · have := go f.b x y (.inl rfl) w (by omega)
    omega
  · have := go (-f.b) (-x) y (.inr rfl) (by omega) (by omega)
    have e : f.a * -x * -x + -f.b * -x * y + f.c * y * y = f.a * x * x + f.b * x * y + f.c * y * y := by grind
    omega
theorem least {f : Frm} (h : Red f) (ha : 1 ≤ f.a) {x y : Int} (hxy : x ≠ 0 ∨ y ≠ 0) : f.a ≤ f.wo x y := by
  by_cases hy : y = 0
  · subst hy
    have hx : x ≠ 0 := by rcases hxy with z | z; exact z; exact absurd rfl z
    have e : f.wo x 0 = f.a * (x * x - 1) + f.a := by simp only [Frm.wo, worthF]; grind
    have hx2 : 0 < x * x := by
      rcases Int.lt_or_eq_of_le (sq_nonneg x) with z | z
      · exact z
      · rcases Int.mul_eq_zero.mp z.symm with z | z <;> exact absurd z hx
    have := Int.mul_nonneg (show 0 ≤ f.a by omega) (show 0 ≤ x * x - 1 by omega)
    omega
  · exact Int.le_trans h.ac (big h ha hy)
/-- two reduced forms of a class are one -/
theorem unique {f g : Frm} (hf : Red f) (hg : Red g) (pf : f.pos) {u : Chg} (hu : u.det = 1) (e : g = f.act u) : g = f := by
  have pg : g.pos := by rw [e]; exact pos_act pf hu
  have e2 : f = g.act u.inv := by rw [e, act_inv f u hu]
  have a1 : f.a ≤ g.a := by
    have := least hf pf.1 (det_row hu)
    rw [e]; exact this
  have a2 : g.a ≤ f.a := by
    have := least hg pg.1 (det_row (by rw [det_inv]; exact hu))
    rw [e2]; exact this
  have ea : g.a = f.a := by omega
  have gp : g.gap = f.gap := by rw [e, gap_act, hu]; omega
  have gp2 : g.b * g.b - 4 * g.a * g.c = f.b * f.b - 4 * f.a * f.c := gp
  have h1 := pf.1
  have fin : g.b = f.b → g = f := fun eb => by
    refine Frm.ext ea eb ?_
    rw [ea, eb] at gp2
    have : 4 * f.a * g.c = 4 * f.a * f.c := by omega
    exact Int.eq_of_mul_eq_mul_left (show 4 * f.a ≠ 0 by omega) this
  by_cases hq : u.q = 0
  · -- the first row is (1, 0) or (-1, 0)
    have hps : u.p * u.s = 1 := by
      have := hu
      simp only [Chg.det, hq] at this
      omega
    apply fin
    have eb : g.b = f.b + f.a * (2 * (u.p * u.r)) := by
      rw [e]
      simp only [Frm.act, midF, hq]
      have : f.b * (u.p * u.s + 0 * u.r) = f.b := by rw [hps]; grind
      grind
    generalize u.p * u.r = k at eb
    have h2 := hf.lo; have h3 := hf.hi; have h4 := hg.lo; have h5 := hg.hi
    rw [ea] at h4 h5
    rcases Int.lt_trichotomy k 0 with z | z | z
    · have := Int.mul_le_mul_of_nonneg_left (show 2 * k ≤ -2 by omega) (show 0 ≤ f.a by omega)
      omega
    · subst z; simpa using eb
    · have := Int.mul_le_mul_of_nonneg_left (show 2 ≤ 2 * k by omega) (show 0 ≤ f.a by omega)
      omega
  · -- a = c
    have hc : f.c ≤ f.a := by
      have := big hf pf.1 (x := u.p) hq
      have e3 : f.wo u.p u.q = g.a := by rw [e]; rfl
      omega
    have hac := hf.ac
    have fa : f.a = f.c := by omega
    have hc2 : g.c ≤ f.a := by
      have := big hg pg.1 (x := u.inv.p) (y := u.inv.q) (by simp only [Chg.inv]; omega)
      have e3 : g.wo u.inv.p u.inv.q = f.a := by
        have : (g.act u.inv).a = f.a := by rw [← e2]
        exact this
      omega
    have hg2 := hg.ac
    have ga : g.a = g.c := by omega
    have b1 := hf.eq fa
    have b2 := hg.eq ga
    apply fin
    have ec : g.c = f.c := by omega
    rw [ea, ec] at gp2
    have e4 : (g.b - f.b) * (g.b + f.b) = 0 := by grind
    rcases Int.mul_eq_zero.mp e4 with z | z <;> omega
end K12
/-! K12, forms of two unknowns, 2: as gen/mkbase.py printed it. -/
namespace K12
open PySem DL
variable {M : Store}
def eF (f : Frm) : D := eRow [f.a, f.b, f.c]
def eC (u : Chg) : D := eTab [[u.p, u.q], [u.r, u.s]]
/-- within 10 ^ 14 -/
structure Bd (f : Frm) : Prop where
  a : f.a ≤ 10 ^ 14
  b1 : -(10 ^ 14) ≤ f.b
  b2 : f.b ≤ 10 ^ 14
  c : f.c ≤ 10 ^ 14
theorem sq_lt {x N : Int} (hN : 0 ≤ N) (h : N < x) : N * N < x * x := by
  have := Int.mul_le_mul (show N + 1 ≤ x from h) (show N + 1 ≤ x from h) (by omega) (by omega)
  have e : (N + 1) * (N + 1) = N * N + 2 * N + 1 := by grind
  omega
theorem sq_le {x N : Int} (hN : 0 ≤ N) (h : x * x ≤ N * N) : -N ≤ x ∧ x ≤ N := by
  constructor
  · rcases Int.lt_or_le x (-N) with z | z
    · have := sq_lt hN (show N < -x by omega)
      have e : -x * -x = x * x := by grind
      omega
    · exact z
  · rcases Int.lt_or_le N x with z | z
    · have := sq_lt hN z
      omega
    · exact z
theorem ent_le {g B A W y R : Int} (hB : B = 10 ^ 14) (hg : g < 0) (hA : 0 ≤ A) (hA2 : A ≤ B) (hW : 0 ≤ W) (hW2 : W ≤ B) (h : 4 * A * W = R * R - g * (y * y)) : -(2 * B) ≤ y ∧ y ≤ 2 * B := by
  apply sq_le (by omega)
  have s1 := sq_nonneg R
  have s2 := sq_nonneg y
  have s3 := Int.mul_nonneg (show 0 ≤ -g - 1 by omega) s2
  have e1 : (-g - 1) * (y * y) = -(g * (y * y)) - y * y := by grind
  have s4 : A * W ≤ B * B := Int.mul_le_mul hA2 hW2 hW (by omega)
  have e2 : 4 * A * W = 4 * (A * W) := by grind
  have e3 : 2 * B * (2 * B) = 4 * (B * B) := by grind
  omega
theorem ent_sm {f : Frm} {u : Chg} (hp : f.pos) (hb : Bd f) (hu : u.det = 1) (hb2 : Bd (f.act u)) : Sm u.p ∧ Sm u.q ∧ Sm u.r ∧ Sm u.s := by
  have hc := pos_c hp
  have hp2 := pos_act hp hu
  have hc2 := pos_c hp2
  have t : ∀ {y : Int}, -(2 * 10 ^ 14) ≤ y ∧ y ≤ 2 * 10 ^ 14 → Sm y := fun {y} h => ⟨by omega, by omega⟩
  have ha := hp.1
  have ha2 := hp2.1
  refine ⟨t (ent_le rfl hp.2 (by omega) hb.c (W := (f.act u).a) (by omega) hb2.a (four_c f u.p u.q)), t (ent_le rfl hp.2 (by omega) hb.a (W := (f.act u).a) (by omega) hb2.a (four_a f u.p u.q)),
    t (ent_le rfl hp.2 (by omega) hb.c (W := (f.act u).c) (by omega) hb2.c (four_c f u.r u.s)), t (ent_le rfl hp.2 (by omega) hb.a (W := (f.act u).c) (by omega) hb2.c (four_a f u.r u.s))⟩
def swapC : Chg := ⟨0, 1, -1, 0⟩
def shiftC (k : Int) : Chg := ⟨1, 0, k, 1⟩
def kOf (g : Frm) : Int := (g.a - g.b) / (2 * g.a)
theorem act_swap (g : Frm) : g.act swapC = ⟨g.c, -g.b, g.a⟩ := by
  apply Frm.ext <;> simp [Frm.act, Frm.wo, worthF, midF, swapC]
theorem act_shift (g : Frm) (k : Int) : g.act (shiftC k) = ⟨g.a, g.b + 2 * k * g.a, g.c + k * g.b + k * k * g.a⟩ := by
  apply Frm.ext <;> simp only [Frm.act, Frm.wo, worthF, midF, shiftC] <;> grind
def stepC (g : Frm) : Chg := if g.c < g.a ∨ (g.a = g.c ∧ g.b < 0) then swapC else shiftC (kOf g)
def mu (g : Frm) : Nat := (4 * g.a + (if -g.a < g.b ∧ g.b ≤ g.a then 0 else 2) + (if g.a = g.c ∧ g.b < 0 then 1 else 0)).toNat
theorem shift_in {g : Frm} (ha : 1 ≤ g.a) : -g.a < g.b + 2 * kOf g * g.a ∧ g.b + 2 * kOf g * g.a ≤ g.a := by
  unfold kOf
  have h1 := Int.mul_ediv_add_emod (g.a - g.b) (2 * g.a)
  have h2 := Int.emod_nonneg (g.a - g.b) (show 2 * g.a ≠ 0 by omega)
  have h3 := Int.emod_lt_of_pos (g.a - g.b) (show 0 < 2 * g.a by omega)
  generalize (g.a - g.b) / (2 * g.a) = k at *
  generalize (g.a - g.b) % (2 * g.a) = m at *
  have e : 2 * g.a * k = 2 * k * g.a := by grind
  omega
theorem det_step (g : Frm) : (stepC g).det = 1 := by
  unfold stepC
  split <;> simp [Chg.det, swapC, shiftC]
/-- a turn keeps the bounds and comes down -/
theorem step_ok {g : Frm} (hp : g.pos) (hb : Bd g) (hn : ¬ Red g) : Bd (g.act (stepC g)) ∧ mu (g.act (stepC g)) < mu g ∧ Sm (kOf g) := by
  have ha := hp.1
  have hc := pos_c hp
  have hk : Sm (kOf g) := by
    have h1 := shift_in (g := g) ha
    have b1 := hb.b1
    have b2 := hb.b2
    have h3 := hb.a
    generalize kOf g = k at *
    have e : 2 * k * g.a = 2 * (k * g.a) := by grind
    have : -(10 ^ 14) ≤ k * g.a ∧ k * g.a ≤ 10 ^ 14 := by omega
    rcases Int.le_total 0 k with z | z
    · have := Int.mul_le_mul_of_nonneg_left ha z
      exact ⟨by omega, by omega⟩
    · have := Int.mul_le_mul_of_nonneg_left ha (show 0 ≤ -k by omega)
      have e2 : -k * g.a = -(k * g.a) := by grind
      exact ⟨by omega, by omega⟩
  refine ⟨?_, ?_, hk⟩
  · unfold stepC
    split
    · rw [act_swap]
      exact ⟨hb.c, by have := hb.b2; simp only; omega, by have := hb.b1; simp only; omega, hb.a⟩
    · rename_i hs
      have hi := shift_in (g := g) ha
      have hout : ¬ (-g.a < g.b ∧ g.b ≤ g.a) := fun z => hn ⟨z.1, z.2, by omega, fun e => by omega⟩
      have hp2 : (g.act (shiftC (kOf g))).pos := pos_act hp (by simp [Chg.det, shiftC])
      have hc2 := pos_c hp2
      have hgp : (g.act (shiftC (kOf g))).gap = g.gap := by rw [gap_act]; simp [Chg.det, shiftC]
      rw [act_shift] at hc2 hgp ⊢
      generalize kOf g = k at *
      have hgp2 : (g.b + 2 * k * g.a) * (g.b + 2 * k * g.a) - 4 * g.a * (g.c + k * g.b + k * k * g.a) = g.b * g.b - 4 * g.a * g.c := hgp
      simp only at hc2
      generalize g.b + 2 * k * g.a = b' at *
      generalize g.c + k * g.b + k * k * g.a = c' at *
      have hA := hb.a; have hB1 := hb.b1; have hB2 := hb.b2; have hC := hb.c
      refine ⟨hA, by simp only; omega, by simp only; omega, ?_⟩
      -- c' ≤ c
      have hbb : b' * b' ≤ g.b * g.b := by
        have h1 : b' * b' ≤ g.a * g.a := by
          have := Int.mul_nonneg (show 0 ≤ g.a - b' by omega) (show 0 ≤ g.a + b' by omega)
          have e : (g.a - b') * (g.a + b') = g.a * g.a - b' * b' := by grind
          omega
        have h2 : g.a * g.a ≤ g.b * g.b := by
          rcases Decidable.em (-g.a < g.b) with z | z
          · exact Int.mul_le_mul (show g.a ≤ g.b by omega) (show g.a ≤ g.b by omega) (by omega) (by omega)
          · have := Int.mul_le_mul (show g.a ≤ -g.b by omega) (show g.a ≤ -g.b by omega) (by omega) (by omega)
            have e : -g.b * -g.b = g.b * g.b := by grind
            omega
        omega
      have h4 : g.a * c' ≤ g.a * g.c := by
        have e1 : 4 * g.a * c' = 4 * (g.a * c') := by grind
        have e2 : 4 * g.a * g.c = 4 * (g.a * g.c) := by grind
        omega
      have h5 : c' ≤ g.c := Int.le_of_mul_le_mul_left h4 (by omega)
      simp only
      omega
  · unfold stepC
    split
    · rename_i hs
      rw [act_swap]
      unfold mu
      simp only
      rcases hs with hs | hs <;> (repeat' split) <;> omega
    · rename_i hs
      have hi := shift_in (g := g) ha
      have hout : ¬ (-g.a < g.b ∧ g.b ≤ g.a) := fun z => hn ⟨z.1, z.2, by omega, fun e => by omega⟩
      rw [act_shift]
      unfold mu
      simp only
      rw [if_pos hi, if_neg hout]
      (repeat' split) <;> omega
theorem product_step {g : Frm} {u : Chg} (hk : Sm (kOf g)) : m_product [eC (stepC g), eC u] M = some (.ok (eC ((stepC g).mul u)), M) := by
  have one : ∀ x : Int, mulC 1 x = true := fun x => mulC_l (by decide) (by decide)
  have zer : ∀ x : Int, mulC 0 x = true := fun x => mulC_l (by decide) (by decide)
  have neg : ∀ x : Int, mulC (-1) x = true := fun x => mulC_l (by decide) (by decide)
  unfold stepC
  split
  · exact product_is (zer _) (one _) (zer _) (one _) (neg _) (zer _) (neg _) (zer _)
  · exact product_is (one _) (zer _) (one _) (zer _) hk.l (one _) hk.l (one _)
theorem changed_is {g : Frm} {u : Chg} (hb : Sm g.b) (hu : Sm u.p ∧ Sm u.q ∧ Sm u.r ∧ Sm u.s) : m_two_changed [eF g, eC u] M = some (.ok (eF (g.act u)), M) :=
  two_changed_is hb hu.1 hu.2.1 hu.2.2.1 hu.2.2.2
theorem sm0 : Sm 0 := ⟨by decide, by decide⟩
theorem sm1 : Sm 1 := ⟨by decide, by decide⟩
theorem smN : Sm (-1) := ⟨by decide, by decide⟩
theorem sm_step {g : Frm} (hk : Sm (kOf g)) : Sm (stepC g).p ∧ Sm (stepC g).q ∧ Sm (stepC g).r ∧ Sm (stepC g).s := by
  unfold stepC
  split
  · exact ⟨sm0, sm1, smN, sm0⟩
  · exact ⟨sm1, sm0, hk, sm1⟩
noncomputable def tstR : TF := tNotC (cTru (cCall m_is_two_reduced (aCons (cVar 0) aNil)))
noncomputable def bodR : SF := (sSeq (sAsg (cVar 0) (gTupC 3 (gConsC (gN 2) (gConsC (gN 3) (gConsC (gN 4) gNilC))))) (sSeq (sIf (tOrC (cTru (cOp gGt (cVar 2) (cVar 4))) (tAndC (cTru (cOp (gEq false) (cVar 2) (cVar 4))) (cTru (cOp gLt (cVar 3) (cC (.int 0)))))) (sAsg (cTup (aCons (cTup (aCons (cC (.int 0)) (aCons (cC (.int 1)) aNil))) (aCons (cTup (aCons (cUn gNeg (cC (.int 1))) (aCons (cC (.int 0)) aNil))) aNil))) (gN 5)) (sAsg (cTup (aCons (cTup (aCons (cC (.int 1)) (aCons (cC (.int 0)) aNil))) (aCons (cTup (aCons (cOp gDiv (cOp gSub (cVar 2) (cVar 3)) (cOp gMul (cC (.int 2)) (cVar 2))) (aCons (cC (.int 1)) aNil))) aNil))) (gN 5))) (sSeq (sAsg (cCall m_product (aCons (cVar 5) (aCons (cVar 1) aNil))) (gN 1)) (sAsg (cCall m_two_changed (aCons (cVar 0) (aCons (cVar 5) aNil))) (gN 0)))))
theorem f_two_reduced_eq : f_two_reduced = sSeq (sExpr (cCall m_check_two (aCons (cVar 0) aNil))) (sSeq (sAsg (cC k_UNIT) (gN 1)) (sSeq (sWhile tstR bodR) (sRet (cTup (aCons (cVar 0) (aCons (cVar 1) aNil)))))) := rfl
theorem is_red_is {g : Frm} : m_is_two_reduced [eF g] M = some (.ok (.bl g.red), M) := is_two_reduced_is
theorem bod_is {g : Frm} {u : Chg} {x2 x3 x4 x5 : Option D} (hp : g.pos) (hb : Bd g) (hk : Sm (kOf g)) :
    bodR [some (eF g), some (eC u), x2, x3, x4, x5] M = some (.nx [some (eF (g.act (stepC g))), some (eC ((stepC g).mul u)), some (.int g.a), some (.int g.b), some (.int g.c), some (eC (stepC g))], M) := by
  have hd : ∀ y : Int, divC y (2 * g.a) = true := fun y => divC_of (by have := hp.1; omega) (by
    have := hb.a
    have : (2 : Int) * 10 ^ 14 < 2 ^ 200 := by decide
    omega)
  have hsb : Sm g.b := ⟨by have := hb.b1; omega, by have := hb.b2; omega⟩
  have h1 := product_step (M := M) (u := u) hk
  have h2 := changed_is (M := M) hsb (sm_step hk)
  have h0 : sAsg (cVar 0) (gTupC 3 (gConsC (gN 2) (gConsC (gN 3) (gConsC (gN 4) gNilC)))) [some (eF g), some (eC u), x2, x3, x4, x5] M = some (.nx [some (eF g), some (eC u), some (.int g.a), some (.int g.b), some (.int g.c), x5], M) := by
    simp [eF]
  unfold bodR
  rw [sSeq_nx h0]
  have h3 : sIf (tOrC (cTru (cOp gGt (cVar 2) (cVar 4))) (tAndC (cTru (cOp (gEq false) (cVar 2) (cVar 4))) (cTru (cOp gLt (cVar 3) (cC (.int 0)))))) (sAsg (cTup (aCons (cTup (aCons (cC (.int 0)) (aCons (cC (.int 1)) aNil))) (aCons (cTup (aCons (cUn gNeg (cC (.int 1))) (aCons (cC (.int 0)) aNil))) aNil))) (gN 5)) (sAsg (cTup (aCons (cTup (aCons (cC (.int 1)) (aCons (cC (.int 0)) aNil))) (aCons (cTup (aCons (cOp gDiv (cOp gSub (cVar 2) (cVar 3)) (cOp gMul (cC (.int 2)) (cVar 2))) (aCons (cC (.int 1)) aNil))) aNil))) (gN 5))
      [some (eF g), some (eC u), some (.int g.a), some (.int g.b), some (.int g.c), x5] M = some (.nx [some (eF g), some (eC u), some (.int g.a), some (.int g.b), some (.int g.c), some (eC (stepC g))], M) := by
    unfold stepC
    by_cases q1 : g.c < g.a
    · simp [q1, eC, swapC, eTab, eRow]
    · by_cases q2 : g.a = g.c
      · by_cases q3 : g.b < 0
        · simp [q2, q3, eC, swapC, eTab, eRow]
        · simp [q1, q2, q3, eC, shiftC, kOf, eTab, eRow, m2, show ∀ y : Int, divC y (2 * g.c) = true from fun y => by rw [← q2]; exact hd y]
      · simp [q1, q2, hd, m2, eC, shiftC, kOf, eTab, eRow]
  rw [sSeq_nx h3]
  simp [h1, h2]
theorem loopR {f : Frm} (hp : f.pos) (hb0 : Bd f) : ∀ (n : Nat) (u : Chg) (x2 x3 x4 x5 : Option D), u.det = 1 → Bd (f.act u) → mu (f.act u) = n →
    ∃ v y2 y3 y4 y5, v.det = 1 ∧ Red (f.act v) ∧ Bd (f.act v) ∧ sWhile tstR bodR [some (eF (f.act u)), some (eC u), x2, x3, x4, x5] M = some (.nx [some (eF (f.act v)), some (eC v), y2, y3, y4, y5], M) := by
  intro n
  induction n using Nat.strongRecOn with
  | _ n ih =>
    intro u x2 x3 x4 x5 hu hb hn
    have hpg := pos_act hp hu
    by_cases hr : Red (f.act u)
    · refine ⟨u, x2, x3, x4, x5, hu, hr, hb, sWhile_stop (M1 := M) ?_⟩
      simp [tstR, is_red_is, red_iff.mpr hr]
    · obtain ⟨s1, s2, s3⟩ := step_ok hpg hb hr
      have hnr : (f.act u).red = false := by
        cases q : (f.act u).red with
        | false => rfl
        | true => exact absurd (red_iff.mp q) hr
      have hdet : ((stepC (f.act u)).mul u).det = 1 := by rw [det_mul, det_step, hu]; rfl
      rw [act_act] at s1 s2
      obtain ⟨v, y2, y3, y4, y5, h1, h2, h3, h4⟩ := ih _ (by omega) ((stepC (f.act u)).mul u) _ _ _ _ hdet s1 rfl
      refine ⟨v, y2, y3, y4, y5, h1, h2, h3, sWhile_more (M1 := M) (M2 := M) ?_ (bod_is hpg hb s3) ?_⟩
      · simp [tstR, is_red_is, hnr]
      · rw [act_act]; exact h4
theorem two_reduced_is {f : Frm} (hp : f.pos) (hb : Bd f) (h1 : gcdL [f.a, f.b, f.c] = 1) :
    ∃ v, v.det = 1 ∧ Red (f.act v) ∧ Bd (f.act v) ∧ m_two_reduced [eF f] M = some (.ok (.tup [eF (f.act v), eC v]), M) := by
  obtain ⟨v, y2, y3, y4, y5, e1, e2, e3, e4⟩ := loopR (M := M) hp hb _ .one none none none none rfl (by rw [act_one]; exact hb) rfl
  rw [act_one] at e4
  refine ⟨v, e1, e2, e3, ?_⟩
  have hsb : Sm f.b := ⟨by have := hb.b1; omega, by have := hb.b2; omega⟩
  have hsc : Sm f.c := ⟨by have := pos_c hp; omega, by have := hb.c; omega⟩
  have hc : m_check_two [eF f] M = some (.ok .non, M) := check_two_is hsb hsc hp.2 hp.1 h1
  unfold m_two_reduced
  rw [mDef_1, f_two_reduced_eq]
  have e0 : (k_UNIT : D) = eC .one := rfl
  simp [hc, e0, e4]
  exact gcF_ok0 (by simp [eF, eC]) rfl
end K12
/-! K12, forms of two unknowns, 3: as gen/mkbase.py printed it. -/
namespace K12
open PySem DL
variable {M : Store}
@[simp] theorem setLast {x y : List D} : (M ++ [x]).set M.length y = M ++ [y] := by
  rw [List.set_append_right _ _ (Nat.le_refl _)]
  simp
theorem szOk_of {n : Nat} (h : n ≤ 16777216) : szOk n = true := decide_eq_true h
theorem gcF_any {M' : Store} {d : D} (t : Tidy M M') (h : clo M.length d = true) (hn : notCel d = true) : gcF M (some (.ok d, M')) = some (.ok d, M'.take M.length) := by
  unfold gcF
  dsimp only
  rw [if_pos t]
  cases d <;> first | exact absurd hn Bool.false_ne_true | exact if_pos h
theorem tidy_set {c : Nat} {es : List D} (h : clos M.length es = true) : Tidy M (M.set c es) := by
  intro j ds hj q
  by_cases e : j = c
  · subst e
    rw [List.getElem?_set_self hj] at q
    cases q
    exact .inr h
  · rw [List.getElem?_set_ne (Ne.symm e)] at q
    exact .inl q
theorem gcF_set {c : Nat} {es : List D} {d : D} (he : clos M.length es = true) (h : clo M.length d = true) (hn : notCel d = true) : gcF M (some (.ok d, M.set c es)) = some (.ok d, M.set c es) := by
  rw [gcF_any (tidy_set he) h hn]
  congr 2
  exact List.take_of_length_le (by simp)
theorem clos_ints {n : Nat} {r : List Int} : clos n (r.map D.int) = true := clos_map fun _ => rfl
theorem cell_is {ns : List Int} {k : Int} (h : 0 ≤ k) : ∃ c : Int, m_l_cell [.scr (ns.map .int), .int k] M = some (.ok (.int c), M) := by
  unfold m_l_cell f_l_cell
  by_cases q : k < ns.length
  · obtain ⟨j, rfl⟩ : ∃ j : Nat, k = j := ⟨k.toNat, by omega⟩
    have hj : j < ns.length := by omega
    have e : L2.atI (ns.map D.int) (j : Int) = some (D.int ns[j]) := by
      rw [atI_nat (by simpa using hj)]
      simp
    exact ⟨ns[j], by simp [q, e]⟩
  · exact ⟨0, by simp [q]⟩
theorem fin_in60 {a0 a1 a2 a4 a5 a8 : Option D} (l : List Int) : ∀ (acc : List Int) (n : Int) (x7 : Option D), acc.length + l.length ≤ 100000 →
    ∃ (acc' : List Int) (n' : Int) (y7 : Option D), acc'.length ≤ acc.length + l.length ∧ fLoop (gN 7) (sIf (cTru (cOp gGt (cVar 6) (cC (.int 0)))) (sSeq (sExpr (cApp (cVar 3) (cOp gMod (cVar 6) (cC (.int 1009))))) (sAsg (cOp gDiv (cVar 6) (cC (.int 1009))) (gN 6))) sSkip) (l.map D.int)
      [a0, a1, a2, some (.cel M.length), a4, a5, some (.int n), x7, a8] (M ++ [acc.map D.int]) = some (.nx [a0, a1, a2, some (.cel M.length), a4, a5, some (.int n'), y7, a8], M ++ [acc'.map D.int]) := by
  induction l with
  | nil => exact fun acc n x7 _ => ⟨acc, n, x7, by simp, rfl⟩
  | cons i l ih =>
    intro acc n x7 h
    rw [List.length_cons] at h
    by_cases q : 0 < n
    · obtain ⟨acc', n', y7, h1, h2⟩ := ih (acc ++ [n % 1009]) (n / 1009) (some (.int i)) (by simp; omega)
      refine ⟨acc', n', y7, by simp at h1 ⊢; omega, ?_⟩
      rw [List.map_cons, fLoop_cons]
      simp [q, modC, szOk_of (show acc.length + 1 ≤ 16777216 by omega), show ∀ y : Int, divC y 1009 = true from fun y => divC_of (by decide) (by decide)]
      simpa using h2
    · obtain ⟨acc', n', y7, h1, h2⟩ := ih acc n (some (.int i)) (by omega)
      refine ⟨acc', n', y7, by simp at h1 ⊢; omega, ?_⟩
      rw [List.map_cons, fLoop_cons]
      simp [q]
      exact h2
theorem fin_in12 {a0 a1 a2 a4 a5 a6 : Option D} (l : List Int) : ∀ (acc : List Int) (s : Int) (x7 : Option D), (∀ i ∈ l, 0 ≤ i ∧ i ≤ 100) → acc.length + l.length ≤ 100000 →
    ∃ (acc' : List Int) (s' : Int) (y7 : Option D), acc'.length ≤ acc.length + l.length ∧ fLoop (gN 7) (sSeq (sAsg (cOp gMod (cOp gAddA (cOp gAddA (cOp gMul (cVar 8) (cC (.int 16807))) (cOp gMul (cVar 7) (cC (.int 7)))) (cC (.int 1))) (cC (.int 2147483647))) (gN 8)) (sExpr (cApp (cVar 3) (cOp gMod (cOp gDiv (cVar 8) (cC (.int 997))) (cC (.int 1009)))))) (l.map D.int)
      [a0, a1, a2, some (.cel M.length), a4, a5, a6, x7, some (.int s)] (M ++ [acc.map D.int]) = some (.nx [a0, a1, a2, some (.cel M.length), a4, a5, a6, y7, some (.int s')], M ++ [acc'.map D.int]) := by
  induction l with
  | nil => exact fun acc n x7 _ _ => ⟨acc, n, x7, by simp, rfl⟩
  | cons i l ih =>
    intro acc s x7 hi h
    rw [List.length_cons] at h
    obtain ⟨acc', n', y7, h1, h2⟩ := ih (acc ++ [(s * 16807 + i * 7 + 1) % 2147483647 / 997 % 1009]) ((s * 16807 + i * 7 + 1) % 2147483647) (some (.int i)) (fun j hj => hi j (List.mem_cons_of_mem _ hj)) (by simp; omega)
    refine ⟨acc', n', y7, by simp at h1 ⊢; omega, ?_⟩
    rw [List.map_cons, fLoop_cons]
    simp [modC, szOk_of (show acc.length + 1 ≤ 16777216 by omega), show ∀ y : Int, divC y 997 = true from fun y => divC_of (by decide) (by decide), show ∀ y : Int, mulC y 16807 = true from fun y => mulC_r (by decide) (by decide), show ∀ y : Int, mulC y 7 = true from fun y => mulC_r (by decide) (by decide)]
    simpa using h2
theorem smI_60 : smI 60 = true := by decide
theorem digits_loop {ns : List Int} {a1 a2 : Option D} (l : List Int) : ∀ (acc : List Int) (x4 x5 x6 x7 x8 : Option D), (∀ i ∈ l, 0 ≤ i) → acc.length + 60 * l.length ≤ 100000 →
    ∃ (acc' : List Int) (y4 y5 y6 y7 y8 : Option D), fLoop (gN 4) (sSeq (sAsg (cCall m_l_cell (aCons (cVar 0) (aCons (cVar 4) aNil))) (gN 5)) (sSeq (sIf (cTru (cOp gLt (cVar 5) (cC (.int 0)))) (sAsg (cOp gSub (cC (.int 1)) (cOp gMul (cVar 5) (cC (.int 2)))) (gN 5)) sSkip) (sIf (cTru (cOp gGe (cVar 5) (cOp gPow (cC (.int 10)) (cC (.int 18))))) (sSeq (sAsg (cVar 5) (gN 6)) (sFor (iRng1C (aCons (cC (.int 60)) aNil)) (gN 7) (sIf (cTru (cOp gGt (cVar 6) (cC (.int 0)))) (sSeq (sExpr (cApp (cVar 3) (cOp gMod (cVar 6) (cC (.int 1009))))) (sAsg (cOp gDiv (cVar 6) (cC (.int 1009))) (gN 6))) sSkip))) (sSeq (sAsg (cOp gMod (cOp gAddA (cOp gAddA (cOp gMul (cVar 5) (cC (.int 48271))) (cOp gMul (cCall gInt (aCons (cOp gAddA (cVar 4) (cC (.int 1))) aNil)) (cC (.int 69621)))) (cC (.int 11))) (cC (.int 2147483647))) (gN 8)) (sFor (iRng1C (aCons (cC (.int 12)) aNil)) (gN 7) (sSeq (sAsg (cOp gMod (cOp gAddA (cOp gAddA (cOp gMul (cVar 8) (cC (.int 16807))) (cOp gMul (cVar 7) (cC (.int 7)))) (cC (.int 1))) (cC (.int 2147483647))) (gN 8)) (sExpr (cApp (cVar 3) (cOp gMod (cOp gDiv (cVar 8) (cC (.int 997))) (cC (.int 1009))))))))))) (l.map D.int)
      [some (.scr (ns.map .int)), a1, a2, some (.cel M.length), x4, x5, x6, x7, x8] (M ++ [acc.map D.int]) = some (.nx [some (.scr (ns.map .int)), a1, a2, some (.cel M.length), y4, y5, y6, y7, y8], M ++ [acc'.map D.int]) := by
  induction l with
  | nil => exact fun acc x4 x5 x6 x7 x8 _ _ => ⟨acc, x4, x5, x6, x7, x8, rfl⟩
  | cons i l ih =>
    intro acc x4 x5 x6 x7 x8 hi h
    rw [List.length_cons] at h
    obtain ⟨c, hc⟩ := cell_is (M := M ++ [acc.map D.int]) (ns := ns) (hi i List.mem_cons_self)
    -- the cell, made at least 0
    have hif : ∃ c' : Int, sIf (cTru (cOp gLt (cVar 5) (cC (.int 0)))) (sAsg (cOp gSub (cC (.int 1)) (cOp gMul (cVar 5) (cC (.int 2)))) (gN 5)) sSkip [some (.scr (ns.map .int)), a1, a2, some (.cel M.length), some (.int i), some (.int c), x6, x7, x8] (M ++ [acc.map D.int]) =
        some (.nx [some (.scr (ns.map .int)), a1, a2, some (.cel M.length), some (.int i), some (.int c'), x6, x7, x8], M ++ [acc.map D.int]) := by
      by_cases q : c < 0
      · exact ⟨1 - c * 2, by simp [q, show ∀ y : Int, mulC y 2 = true from fun y => mulC_r (by decide) (by decide)]⟩
      · exact ⟨c, by simp [q]⟩
    obtain ⟨c', hif⟩ := hif
    have hpw : powC 10 18 = true := by decide
    rw [List.map_cons, fLoop_cons]
    by_cases q : (1000000000000000000 : Int) ≤ c'
    · obtain ⟨acc1, n1, y7, l1, e1⟩ := fin_in60 (M := M) (a0 := some (.scr (ns.map .int))) (a1 := a1) (a2 := a2) (a4 := some (.int i)) (a5 := some (.int c')) (a8 := x8) (rgI 0 60) acc c' x7 (by simp [rgI]; omega)
      have hl : (rgI 0 60).length = 60 := by simp [rgI]
      obtain ⟨acc2, z4, z5, z6, z7, z8, e2⟩ := ih acc1 (some (.int i)) (some (.int c')) (some (.int n1)) y7 x8 (fun j hj => hi j (List.mem_cons_of_mem _ hj)) (by omega)
      refine ⟨acc2, z4, z5, z6, z7, z8, ?_⟩
      rw [← e2]
      have hstep : sSeq (sAsg (cCall m_l_cell (aCons (cVar 0) (aCons (cVar 4) aNil))) (gN 5)) (sSeq (sIf (cTru (cOp gLt (cVar 5) (cC (.int 0)))) (sAsg (cOp gSub (cC (.int 1)) (cOp gMul (cVar 5) (cC (.int 2)))) (gN 5)) sSkip) (sIf (cTru (cOp gGe (cVar 5) (cOp gPow (cC (.int 10)) (cC (.int 18))))) (sSeq (sAsg (cVar 5) (gN 6)) (sFor (iRng1C (aCons (cC (.int 60)) aNil)) (gN 7) (sIf (cTru (cOp gGt (cVar 6) (cC (.int 0)))) (sSeq (sExpr (cApp (cVar 3) (cOp gMod (cVar 6) (cC (.int 1009))))) (sAsg (cOp gDiv (cVar 6) (cC (.int 1009))) (gN 6))) sSkip))) (sSeq (sAsg (cOp gMod (cOp gAddA (cOp gAddA (cOp gMul (cVar 5) (cC (.int 48271))) (cOp gMul (cCall gInt (aCons (cOp gAddA (cVar 4) (cC (.int 1))) aNil)) (cC (.int 69621)))) (cC (.int 11))) (cC (.int 2147483647))) (gN 8)) (sFor (iRng1C (aCons (cC (.int 12)) aNil)) (gN 7) (sSeq (sAsg (cOp gMod (cOp gAddA (cOp gAddA (cOp gMul (cVar 8) (cC (.int 16807))) (cOp gMul (cVar 7) (cC (.int 7)))) (cC (.int 1))) (cC (.int 2147483647))) (gN 8)) (sExpr (cApp (cVar 3) (cOp gMod (cOp gDiv (cVar 8) (cC (.int 997))) (cC (.int 1009)))))))))) [some (.scr (ns.map .int)), a1, a2, some (.cel M.length), some (.int i), x5, x6, x7, x8] (M ++ [acc.map D.int]) =
          some (.nx [some (.scr (ns.map .int)), a1, a2, some (.cel M.length), some (.int i), some (.int c'), some (.int n1), y7, x8], M ++ [acc1.map D.int]) := by
        rw [sSeq_nx (en1 := [some (.scr (ns.map .int)), a1, a2, some (.cel M.length), some (.int i), some (.int c), x6, x7, x8]) (M1 := M ++ [acc.map D.int]) (by simp [hc]), sSeq_nx hif]
        simp [hpw, q, smI_60, rgD_eq, e1]
      simp only [gN_e, List.set_cons_succ, List.set_cons_zero, hstep]
    · obtain ⟨acc1, n1, y7, l1, e1⟩ := fin_in12 (M := M) (a0 := some (.scr (ns.map .int))) (a1 := a1) (a2 := a2) (a4 := some (.int i)) (a5 := some (.int c')) (a6 := x6) (rgI 0 12) acc ((c' * 48271 + (i + 1) * 69621 + 11) % 2147483647) x7 (fun j hj => by have := mem_rgI.mp hj; omega) (by simp [rgI]; omega)
      have hl : (rgI 0 12).length = 12 := by simp [rgI]
      obtain ⟨acc2, z4, z5, z6, z7, z8, e2⟩ := ih acc1 (some (.int i)) (some (.int c')) x6 y7 (some (.int n1)) (fun j hj => hi j (List.mem_cons_of_mem _ hj)) (by omega)
      refine ⟨acc2, z4, z5, z6, z7, z8, ?_⟩
      rw [← e2]
      have hstep : sSeq (sAsg (cCall m_l_cell (aCons (cVar 0) (aCons (cVar 4) aNil))) (gN 5)) (sSeq (sIf (cTru (cOp gLt (cVar 5) (cC (.int 0)))) (sAsg (cOp gSub (cC (.int 1)) (cOp gMul (cVar 5) (cC (.int 2)))) (gN 5)) sSkip) (sIf (cTru (cOp gGe (cVar 5) (cOp gPow (cC (.int 10)) (cC (.int 18))))) (sSeq (sAsg (cVar 5) (gN 6)) (sFor (iRng1C (aCons (cC (.int 60)) aNil)) (gN 7) (sIf (cTru (cOp gGt (cVar 6) (cC (.int 0)))) (sSeq (sExpr (cApp (cVar 3) (cOp gMod (cVar 6) (cC (.int 1009))))) (sAsg (cOp gDiv (cVar 6) (cC (.int 1009))) (gN 6))) sSkip))) (sSeq (sAsg (cOp gMod (cOp gAddA (cOp gAddA (cOp gMul (cVar 5) (cC (.int 48271))) (cOp gMul (cCall gInt (aCons (cOp gAddA (cVar 4) (cC (.int 1))) aNil)) (cC (.int 69621)))) (cC (.int 11))) (cC (.int 2147483647))) (gN 8)) (sFor (iRng1C (aCons (cC (.int 12)) aNil)) (gN 7) (sSeq (sAsg (cOp gMod (cOp gAddA (cOp gAddA (cOp gMul (cVar 8) (cC (.int 16807))) (cOp gMul (cVar 7) (cC (.int 7)))) (cC (.int 1))) (cC (.int 2147483647))) (gN 8)) (sExpr (cApp (cVar 3) (cOp gMod (cOp gDiv (cVar 8) (cC (.int 997))) (cC (.int 1009)))))))))) [some (.scr (ns.map .int)), a1, a2, some (.cel M.length), some (.int i), x5, x6, x7, x8] (M ++ [acc.map D.int]) =
          some (.nx [some (.scr (ns.map .int)), a1, a2, some (.cel M.length), some (.int i), some (.int c'), x6, y7, some (.int n1)], M ++ [acc1.map D.int]) := by
        rw [sSeq_nx (en1 := [some (.scr (ns.map .int)), a1, a2, some (.cel M.length), some (.int i), some (.int c), x6, x7, x8]) (M1 := M ++ [acc.map D.int]) (by simp [hc]), sSeq_nx hif]
        simp [hpw, q, rgD_eq, e1, show smI 12 = true by decide, modC, show ∀ y : Int, mulC y 48271 = true from fun y => mulC_r (by decide) (by decide), show ∀ y : Int, mulC y 69621 = true from fun y => mulC_r (by decide) (by decide)]
      simp only [gN_e, List.set_cons_succ, List.set_cons_zero, hstep]
theorem digits_is {ns : List Int} : ∃ ds : List Int, m_l_digits [.scr (ns.map .int), .int 0, .int 63] M = some (.ok (.imm (ds.map .int)), M) := by
  obtain ⟨acc', y4, y5, y6, y7, y8, e⟩ := digits_loop (M := M) (ns := ns) (a1 := some (.int 0)) (a2 := some (.int 63)) (rgI 0 63) [] none none none none none (fun i hi => (mem_rgI.mp hi).1) (by simp [rgI])
  refine ⟨acc', ?_⟩
  unfold m_l_digits f_l_digits
  rw [mDef_3]
  rw [sSeq_nx (en1 := [some (.scr (ns.map .int)), some (.int 0), some (.int 63), some (.cel M.length), none, none, none, none, none]) (M1 := M ++ [[]]) (by simp)]
  rw [sSeq_nx (en1 := [some (.scr (ns.map .int)), some (.int 0), some (.int 63), some (.cel M.length), y4, y5, y6, y7, y8]) (M1 := M ++ [acc'.map D.int]) (by
    simp only [sFor_e, iRng2_e, aCons_e, aNil_e, cVar_e, List.getElem?_cons_zero, List.getElem?_cons_succ, bnd_ok, show (smI 0 && smI 63) = true by decide, if_true, sbnd_ok, rgD_eq]
    exact e)]
  simp
  exact gcF_cel (by simp) (Nat.le_refl _) clos_ints
/-- the law's box -/
def Box (ds : List Int) (at_ : Int) : List D := [.imm (ds.map D.int), .int at_]
theorem clos_box {n : Nat} {ds : List Int} {a : Int} : clos n (Box ds a) = true := by simp [Box]
@[simp] theorem gSubC_e {fo fi : EF} {d : D} {en : DL.Env} : gSubC fo fi d en M = match fo en M with
  | some (.ok (.cel n), M1) => (match fi en M1 with
    | some (.ok (.int k), M2) => (match M2[n]? with
      | some ds => (match L2.ixN ds.length k with | some j => some (en, M2.set n (ds.set j d)) | none => none)
      | none => none)
    | _ => none)
  | _ => none := rfl
theorem ix0 {n : Nat} (h : 0 < n) : L2.ixN n 0 = some 0 := by unfold L2.ixN; simp; omega
theorem ix1 {n : Nat} (h : 1 < n) : L2.ixN n 1 = some 1 := by unfold L2.ixN; simp; omega
theorem draw_is {c : Nat} {ds : List Int} {a m : Int} (hc : M[c]? = some (Box ds a)) (ha : 0 ≤ a) (ha2 : a ≤ 1000000) (hm : 0 < m) :
    ∃ r : Int, 0 ≤ r ∧ r < m ∧ m_l_draw [.cel c, .int m] M = some (.ok (.int r), M.set c (Box ds (a + 1))) := by
  have hlt : c < M.length := (List.getElem?_eq_some_iff.mp hc).1
  have h1 : sAsg (cVar 0) (gTupC 2 (gConsC (gN 2) (gConsC (gN 3) gNilC))) [some (.cel c), some (.int m), none, none] M = some (.nx [some (.cel c), some (.int m), some (.imm (ds.map D.int)), some (.int a)], M) := by
    simp [hc]
    simp [Box]
  have h2 : sAsg (cOp gAddA (cVar 3) (cC (.int 1))) (gSubC (cVar 0) (cC (.int 1))) [some (.cel c), some (.int m), some (.imm (ds.map D.int)), some (.int a)] M = some (.nx [some (.cel c), some (.int m), some (.imm (ds.map D.int)), some (.int a)], M.set c (Box ds (a + 1))) := by
    simp [hc]
    simp [Box, ix1]
  have hmod : ∀ y : Int, modC y m = true := fun y => modC_of hm
  have key : ∃ r : Int, 0 ≤ r ∧ r < m ∧ fin (sSeq (sIf (cTru (cOp gLt (cVar 3) (cCall gLen (aCons (cVar 2) aNil)))) (sRet (cOp gMod (cOp gIx (cVar 2) (cVar 3)) (cVar 1))) sSkip)
      (sRet (cOp gMod (cOp gAddA (cOp gAddA (cOp gAddA (cOp gMul (cOp gMul (cVar 3) (cVar 3)) (cC (.int 3))) (cOp gMul (cVar 3) (cC (.int 4)))) (cOp gDiv (cVar 3) (cC (.int 3)))) (cC (.int 1))) (cVar 1))) [some (.cel c), some (.int m), some (.imm (ds.map D.int)), some (.int a)] (M.set c (Box ds (a + 1)))) = some (.ok (.int r), M.set c (Box ds (a + 1))) := by
    by_cases q : a < ds.length
    · obtain ⟨j, rfl⟩ : ∃ j : Nat, a = j := ⟨a.toNat, by omega⟩
      have hj : j < ds.length := by omega
      have e : L2.atI (ds.map D.int) (j : Int) = some (D.int ds[j]) := by
        rw [atI_nat (by simpa using hj)]
        simp
      exact ⟨ds[j] % m, Int.emod_nonneg _ (by omega), Int.emod_lt_of_pos _ hm, by simp [q, e, hmod]⟩
    · refine ⟨(a * a * 3 + a * 4 + a / 3 + 1) % m, Int.emod_nonneg _ (by omega), Int.emod_lt_of_pos _ hm, ?_⟩
      simp [q, hmod, show mulC a a = true from mulC_l (by omega) (by omega), show ∀ y : Int, mulC y 3 = true from fun y => mulC_r (by decide) (by decide), show ∀ y : Int, mulC y 4 = true from fun y => mulC_r (by decide) (by decide), show ∀ y : Int, divC y 3 = true from fun y => divC_of (by decide) (by decide)]
  obtain ⟨r, r1, r2, r3⟩ := key
  refine ⟨r, r1, r2, ?_⟩
  unfold m_l_draw f_l_draw
  rw [mDef_2]
  rw [show start0 4 [D.cel c, .int m] = [some (.cel c), some (.int m), none, none] from rfl, sSeq_nx h1, sSeq_nx h2, r3]
  exact gcF_set clos_box rfl rfl
theorem pick_is {α : Type} {enc : α → D} {l : List α} {c : Nat} {ds : List Int} {a : Int} (hc : M[c]? = some (Box ds a)) (ha : 0 ≤ a) (ha2 : a ≤ 1000000) (hl : l ≠ []) (h1 : ∀ x, clo M.length (enc x) = true) (h2 : ∀ x, notCel (enc x) = true) :
    ∃ x ∈ l, m_l_pick [.cel c, .imm (l.map enc)] M = some (.ok (enc x), M.set c (Box ds (a + 1))) := by
  have hp : 0 < l.length := List.length_pos_iff.mpr hl
  obtain ⟨r, r1, r2, r3⟩ := draw_is (m := (l.length : Int)) hc ha ha2 (by omega)
  obtain ⟨j, rfl⟩ : ∃ j : Nat, r = j := ⟨r.toNat, by omega⟩
  have hj : j < l.length := by omega
  have e : L2.atI (l.map enc) (j : Int) = some (enc l[j]) := by
    rw [atI_nat (by simpa using hj)]
    simp
  refine ⟨l[j], List.getElem_mem hj, ?_⟩
  unfold m_l_pick f_l_pick
  simp [r3, e]
  exact gcF_set clos_box (h1 _) (h2 _)
theorem l_unit_is : m_l_unit [.int 2] M = some (.ok (eTab [[1, 0], [0, 1]]), M) := by
  unfold m_l_unit f_l_unit
  simp [rgD_2, show smI 2 = true from rfl, row2, tab2]
def stO (M : Store) (c : Nat) (ds : List Int) (a : Int) (p q r s : Int) : Store := M.set c (Box ds a) ++ [[.imm [.int p, .int q], .imm [.int r, .int s]]]
section
variable {c : Nat} {ds : List Int} {a p q r s : Int}
theorem stO_box (h : c < M.length) : (stO M c ds a p q r s)[c]? = some (Box ds a) := by
  unfold stO
  rw [List.getElem?_append_left (by simpa using h), List.getElem?_set_self h]
theorem stO_set {b : Int} (h : c < M.length) : (stO M c ds a p q r s).set c (Box ds b) = stO M c ds b p q r s := by
  unfold stO
  rw [List.set_append_left _ _ (by simpa using h), List.set_set]
@[simp] theorem stO_rows : (stO M c ds a p q r s)[M.length]? = some [.imm [.int p, .int q], .imm [.int r, .int s]] := by
  unfold stO
  rw [List.getElem?_append_right (by simp)]
  simp
theorem stO_put {p' q' r' s' : Int} : (stO M c ds a p q r s).set M.length [.imm [.int p', .int q'], .imm [.int r', .int s']] = stO M c ds a p' q' r' s' := by
  unfold stO
  rw [List.set_append_right _ _ (by simp)]
  simp
theorem stO_len : (stO M c ds a p q r s).length = M.length + 1 := by simp [stO]
/-- a change: its numbers at most B, its determinant 1 or -1 -/
structure Chn (B p q r s : Int) : Prop where
  p1 : -B ≤ p
  p2 : p ≤ B
  q1 : -B ≤ q
  q2 : q ≤ B
  r1 : -B ≤ r
  r2 : r ≤ B
  s1 : -B ≤ s
  s2 : s ≤ B
  det : p * s - q * r = 1 ∨ p * s - q * r = -1
theorem Chn.big {B B' : Int} (h : Chn B p q r s) (hb : B ≤ B') : Chn B' p q r s := by
  obtain ⟨a1, a2, a3, a4, a5, a6, a7, a8, a9⟩ := h
  exact ⟨by omega, by omega, by omega, by omega, by omega, by omega, by omega, by omega, a9⟩
noncomputable def bodC : SF := (sSeq (sAsg (cTup (aCons (cCall m_l_draw (aCons (cVar 0) (aCons (cVar 1) aNil))) (aCons (cCall m_l_draw (aCons (cVar 0) (aCons (cVar 1) aNil))) aNil))) (gTupC 2 (gConsC (gN 5) (gConsC (gN 6) gNilC)))) (sSeq (sAsg (cCall m_l_draw (aCons (cVar 0) (aCons (cC (.int 8)) aNil))) (gN 7)) (sIf (cTru (cOp (gEq false) (cVar 5) (cVar 6))) (sAsg (cLc (iSeq (cOp gIx (cVar 3) (cVar 5))) (gN 10) tYesC (cOp gSub (cC (.int 0)) (cVar 10)) [10]) (gSubC (cVar 3) (cVar 5))) (sIf (cTru (cOp (gEq false) (cVar 7) (cC (.int 0)))) (sAsg (cTup (aCons (cOp gIx (cVar 3) (cVar 6)) (aCons (cOp gIx (cVar 3) (cVar 5)) aNil))) (gTupC 2 (gConsC (gSubC (cVar 3) (cVar 5)) (gConsC (gSubC (cVar 3) (cVar 6)) gNilC)))) (sSeq (sAsg (cCall m_l_pick (aCons (cVar 0) (aCons (cLst (aCons (cC (.int 1)) (aCons (cUn gNeg (cC (.int 1))) (aCons (cC (.int 2)) (aCons (cUn gNeg (cC (.int 1))) (aCons (cC (.int 1)) aNil)))))) aNil))) (gN 8)) (sAsg (cLc (iRng1C (aCons (cVar 1) aNil)) (gN 11) tYesC (cOp gAddA (cOp gIx (cOp gIx (cVar 3) (cVar 5)) (cVar 11)) (cOp gMul (cVar 8) (cOp gIx (cOp gIx (cVar 3) (cVar 6)) (cVar 11)))) [11]) (gSubC (cVar 3) (cVar 5))))))))
@[simp] theorem gIx_cel {n : Nat} {i : Int} : gIx (.cel n) (.int i) M = match M[n]? with | some es => (match L2.atI es i with | some d => some (.ok d, M) | none => none) | none => none := by
  unfold gIx
  simp only [items_c]
  try (cases M[n]? <;> rfl)
theorem turn_is {B : Int} {x4 x5 x6 x7 x8 x9 x10 x11 : Option D} (hB : 1 ≤ B) (hB2 : B ≤ 100000) (hc : c < M.length) (ha : 0 ≤ a) (ha2 : a ≤ 1000) (h : Chn B p q r s) :
    ∃ (a' p' q' r' s' : Int) (y5 y6 y7 y8 : Option D), a ≤ a' ∧ a' ≤ a + 4 ∧ Chn (3 * B) p' q' r' s' ∧
      bodC [some (.cel c), some (.int 2), some (.int 4), some (.cel M.length), x4, x5, x6, x7, x8, x9, x10, x11] (stO M c ds a p q r s) =
        some (.nx [some (.cel c), some (.int 2), some (.int 4), some (.cel M.length), x4, y5, y6, y7, y8, x9, x10, x11], stO M c ds a' p' q' r' s') := by
  obtain ⟨i, i1, i2, e1⟩ := draw_is (m := 2) (stO_box (M := M) (ds := ds) (a := a) (p := p) (q := q) (r := r) (s := s) hc) ha (by omega) (by decide)
  rw [stO_set hc] at e1
  obtain ⟨j, j1, j2, e2⟩ := draw_is (m := 2) (stO_box (M := M) (ds := ds) (a := a + 1) (p := p) (q := q) (r := r) (s := s) hc) (by omega) (by omega) (by decide)
  rw [stO_set hc] at e2
  obtain ⟨k, k1, k2, e3⟩ := draw_is (m := 8) (stO_box (M := M) (ds := ds) (a := a + 1 + 1) (p := p) (q := q) (r := r) (s := s) hc) (by omega) (by omega) (by decide)
  rw [stO_set hc] at e3
  obtain ⟨f, hf, e4⟩ := pick_is (enc := D.int) (l := [1, -1, 2, -1, 1]) (stO_box (M := M) (ds := ds) (a := a + 1 + 1 + 1) (p := p) (q := q) (r := r) (s := s) hc) (by omega) (by omega) (by simp) (fun _ => rfl) (fun _ => rfl)
  rw [stO_set hc] at e4
  have hf2 : f = 1 ∨ f = -1 ∨ f = 2 := by simp at hf; omega
  have hmf : ∀ y : Int, mulC f y = true := fun y => mulC_l (by rcases hf2 with z | z | z <;> omega) (by rcases hf2 with z | z | z <;> omega)
  have h1 : sAsg (cTup (aCons (cCall m_l_draw (aCons (cVar 0) (aCons (cVar 1) aNil))) (aCons (cCall m_l_draw (aCons (cVar 0) (aCons (cVar 1) aNil))) aNil))) (gTupC 2 (gConsC (gN 5) (gConsC (gN 6) gNilC))) [some (.cel c), some (.int 2), some (.int 4), some (.cel M.length), x4, x5, x6, x7, x8, x9, x10, x11] (stO M c ds a p q r s) =
      some (.nx [some (.cel c), some (.int 2), some (.int 4), some (.cel M.length), x4, some (.int i), some (.int j), x7, x8, x9, x10, x11], stO M c ds (a + 1 + 1) p q r s) := by
    simp [e1, e2]
  have h2 : sAsg (cCall m_l_draw (aCons (cVar 0) (aCons (cC (.int 8)) aNil))) (gN 7) [some (.cel c), some (.int 2), some (.int 4), some (.cel M.length), x4, some (.int i), some (.int j), x7, x8, x9, x10, x11] (stO M c ds (a + 1 + 1) p q r s) =
      some (.nx [some (.cel c), some (.int 2), some (.int 4), some (.cel M.length), x4, some (.int i), some (.int j), some (.int k), x8, x9, x10, x11], stO M c ds (a + 1 + 1 + 1) p q r s) := by
    simp [e3]
  have fin : ∀ (a' p' q' r' s' : Int) (y8 : Option D), a ≤ a' → a' ≤ a + 4 → Chn (3 * B) p' q' r' s' →
      sIf (cTru (cOp (gEq false) (cVar 5) (cVar 6))) (sAsg (cLc (iSeq (cOp gIx (cVar 3) (cVar 5))) (gN 10) tYesC (cOp gSub (cC (.int 0)) (cVar 10)) [10]) (gSubC (cVar 3) (cVar 5))) (sIf (cTru (cOp (gEq false) (cVar 7) (cC (.int 0)))) (sAsg (cTup (aCons (cOp gIx (cVar 3) (cVar 6)) (aCons (cOp gIx (cVar 3) (cVar 5)) aNil))) (gTupC 2 (gConsC (gSubC (cVar 3) (cVar 5)) (gConsC (gSubC (cVar 3) (cVar 6)) gNilC)))) (sSeq (sAsg (cCall m_l_pick (aCons (cVar 0) (aCons (cLst (aCons (cC (.int 1)) (aCons (cUn gNeg (cC (.int 1))) (aCons (cC (.int 2)) (aCons (cUn gNeg (cC (.int 1))) (aCons (cC (.int 1)) aNil)))))) aNil))) (gN 8)) (sAsg (cLc (iRng1C (aCons (cVar 1) aNil)) (gN 11) tYesC (cOp gAddA (cOp gIx (cOp gIx (cVar 3) (cVar 5)) (cVar 11)) (cOp gMul (cVar 8) (cOp gIx (cOp gIx (cVar 3) (cVar 6)) (cVar 11)))) [11]) (gSubC (cVar 3) (cVar 5)))))
        [some (.cel c), some (.int 2), some (.int 4), some (.cel M.length), x4, some (.int i), some (.int j), some (.int k), x8, x9, x10, x11] (stO M c ds (a + 1 + 1 + 1) p q r s) =
        some (.nx [some (.cel c), some (.int 2), some (.int 4), some (.cel M.length), x4, some (.int i), some (.int j), some (.int k), y8, x9, x10, x11], stO M c ds a' p' q' r' s') →
      ∃ (a' p' q' r' s' : Int) (y5 y6 y7 y8 : Option D), a ≤ a' ∧ a' ≤ a + 4 ∧ Chn (3 * B) p' q' r' s' ∧
      bodC [some (.cel c), some (.int 2), some (.int 4), some (.cel M.length), x4, x5, x6, x7, x8, x9, x10, x11] (stO M c ds a p q r s) =
        some (.nx [some (.cel c), some (.int 2), some (.int 4), some (.cel M.length), x4, y5, y6, y7, y8, x9, x10, x11], stO M c ds a' p' q' r' s') := by
    intro a' p' q' r' s' y8 b1 b2 b3 b4
    refine ⟨a', p', q', r', s', some (.int i), some (.int j), some (.int k), y8, b1, b2, b3, ?_⟩
    unfold bodC
    rw [sSeq_nx h1, sSeq_nx h2, b4]
  obtain ⟨c1, c2, c3, c4, c5, c6, c7, c8, c9⟩ := h
  have i3 : i = 0 ∨ i = 1 := by omega
  have j3 : j = 0 ∨ j = 1 := by omega
  rcases i3 with rfl | rfl <;> rcases j3 with rfl | rfl
  · refine fin (a + 1 + 1 + 1) (-p) (-q) r s x8 (by omega) (by omega) ⟨by omega, by omega, by omega, by omega, by omega, by omega, by omega, by omega, ?_⟩ ?_
    · have : -p * s - -q * r = -(p * s - q * r) := by grind
      omega
    · simp [ix0, stO_put]
  · by_cases hk : k = 0
    · subst hk
      refine fin (a + 1 + 1 + 1) r s p q x8 (by omega) (by omega) ⟨by omega, by omega, by omega, by omega, by omega, by omega, by omega, by omega, ?_⟩ ?_
      · have : r * q - s * p = -(p * s - q * r) := by grind
        omega
      · simp [ix0, ix1, stO, Box]
    · refine fin (a + 1 + 1 + 1 + 1) (p + f * r) (q + f * s) r s (some (.int f)) (by omega) (by omega) ?_ ?_
      · refine ⟨?_, ?_, ?_, ?_, by omega, by omega, by omega, by omega, ?_⟩
        · rcases hf2 with rfl | rfl | rfl <;> omega
        · rcases hf2 with rfl | rfl | rfl <;> omega
        · rcases hf2 with rfl | rfl | rfl <;> omega
        · rcases hf2 with rfl | rfl | rfl <;> omega
        · have : (p + f * r) * s - (q + f * s) * r = p * s - q * r := by grind
          omega
      · simp at e4
        simp [hk, e4, hmf, rgD_2, show smI 2 = true from rfl, ix0, stO_put, show szOk 5 = true by decide]
  · by_cases hk : k = 0
    · subst hk
      refine fin (a + 1 + 1 + 1) r s p q x8 (by omega) (by omega) ⟨by omega, by omega, by omega, by omega, by omega, by omega, by omega, by omega, ?_⟩ ?_
      · have : r * q - s * p = -(p * s - q * r) := by grind
        omega
      · simp [ix0, ix1, stO, Box]
    · refine fin (a + 1 + 1 + 1 + 1) p q (r + f * p) (s + f * q) (some (.int f)) (by omega) (by omega) ?_ ?_
      · refine ⟨by omega, by omega, by omega, by omega, ?_, ?_, ?_, ?_, ?_⟩
        · rcases hf2 with rfl | rfl | rfl <;> omega
        · rcases hf2 with rfl | rfl | rfl <;> omega
        · rcases hf2 with rfl | rfl | rfl <;> omega
        · rcases hf2 with rfl | rfl | rfl <;> omega
        · have : p * (s + f * q) - q * (r + f * p) = p * s - q * r := by grind
          omega
      · simp at e4
        simp [hk, e4, hmf, rgD_2, show smI 2 = true from rfl, ix1, stO_put, show szOk 5 = true by decide]
  · refine fin (a + 1 + 1 + 1) p q (-r) (-s) x8 (by omega) (by omega) ⟨by omega, by omega, by omega, by omega, by omega, by omega, by omega, by omega, ?_⟩ ?_
    · have : p * -s - q * -r = -(p * s - q * r) := by grind
      omega
    · simp [ix1, stO_put]
end
end K12
/-! K12, forms of two unknowns, 4: as gen/mkbase.py printed it. -/
namespace K12
open PySem DL
variable {M : Store}
theorem rgD_1 : rgD 0 1 = [.int 0] := by rfl
theorem rgD_0 : rgD 0 0 = [] := by rfl
section
variable {d1 d2 : D}
theorem cut_a : cutD [d1, d2] none (some 0) = [] := rfl
theorem cut_b : cutD [d1, d2] (some 1) none = [d2] := rfl
theorem cut_c : cutD [d1, d2] none (some 1) = [d1] := rfl
theorem cut_d : cutD [d1, d2] (some 2) none = [] := rfl
theorem cut_e : cutD [d1] none (some 0) = [] := rfl
theorem cut_f : cutD [d1] (some 1) none = [] := rfl
end
@[simp] theorem cSl_e {fa : EF} {fl fh : OF} {en : DL.Env} : cSl fa fl fh en M = bnd (fa en M) fun x M1 => bnd (fl en M1) fun lo M2 => bnd (fh en M2) fun hi M3 => gSl lo hi x M3 := rfl
@[simp] theorem oNone_e {en : DL.Env} : oNone en M = some (.ok none, M) := rfl
@[simp] theorem oSome_e {fa : EF} {en : DL.Env} : oSome fa en M = bnd (fa en M) fun x M1 => match x with | .int i => some (.ok (some i), M1) | _ => none := rfl
@[simp] theorem gSl_t {lo hi : Option Int} {ds : List D} : gSl lo hi (.tup ds) M = some (.ok (.tup (cutD ds lo hi)), M) := rfl
@[simp] theorem gSl_l {lo hi : Option Int} {ds : List D} : gSl lo hi (.imm ds) M = some (.ok (.imm (cutD ds lo hi)), M) := rfl
theorem det0 : m_l_det 1 [.imm []] M = some (.ok (.int 1), M) := by
  unfold m_l_det f_l_det
  simp
theorem det1 {s : Int} : m_l_det 2 [.imm [.tup [.int s]]] M = some (.ok (.int s), M) := by
  unfold m_l_det f_l_det
  have s1 : smI 1 = true := rfl
  by_cases h : s = 0
  · subst h
    simp [rgD_1, s1, fLoop_cons]
  · simp [rgD_1, s1, fLoop_cons, h, cut_e, cut_f, det0, m2, modC, show mulC 1 s = true from mulC_l (by decide) (by decide), show mulC s 1 = true from mulC_r (by decide) (by decide)]
theorem det2 {p q r s : Int} (hp : Sm p) (hq : Sm q) (hr : Sm r) (hs : Sm s) : m_l_det 3 [eTab [[p, q], [r, s]]] M = some (.ok (.int (p * s - q * r)), M) := by
  unfold m_l_det f_l_det
  have s2 : smI 2 = true := rfl
  have one : ∀ x : Int, mulC 1 x = true := fun x => mulC_l (by decide) (by decide)
  have neg : ∀ x : Int, mulC (-1) x = true := fun x => mulC_l (by decide) (by decide)
  by_cases h1 : p = 0
  · subst h1
    by_cases h2 : r = 0
    · subst h2
      simp [rgD_2, s2, fLoop_cons, eTab, eRow]
    · simp [rgD_2, s2, fLoop_cons, eTab, eRow, h2, cut_a, cut_b, cut_c, cut_d, det1, m2, modC, neg, hq.r, one]
      grind
  · by_cases h2 : r = 0
    · subst h2
      simp [rgD_2, s2, fLoop_cons, eTab, eRow, h1, cut_a, cut_b, cut_c, cut_d, det1, m2, modC, neg, hs.r, one]
    · simp [rgD_2, s2, fLoop_cons, eTab, eRow, h1, h2, cut_a, cut_b, cut_c, cut_d, det1, m2, modC, neg, hs.r, hq.r, one]
      grind
section
variable {c : Nat} {ds : List Int}
theorem change_loop (l : List Int) : ∀ (k : Nat) (a B p q r s : Int) (x4 x5 x6 x7 x8 x9 x10 x11 : Option D), l.length = k → k ≤ 6 → 1 ≤ B → B * 3 ^ k ≤ 1000 → c < M.length → 0 ≤ a → a + 4 * k ≤ 1000 → Chn B p q r s →
    ∃ (a' p' q' r' s' : Int) (y4 y5 y6 y7 y8 y9 y10 y11 : Option D), a ≤ a' ∧ a' ≤ a + 4 * k ∧ Chn (B * 3 ^ k) p' q' r' s' ∧
      fLoop (gN 4) bodC (l.map D.int) [some (.cel c), some (.int 2), some (.int 4), some (.cel M.length), x4, x5, x6, x7, x8, x9, x10, x11] (stO M c ds a p q r s) =
        some (.nx [some (.cel c), some (.int 2), some (.int 4), some (.cel M.length), y4, y5, y6, y7, y8, y9, y10, y11], stO M c ds a' p' q' r' s') := by
  induction l with
  | nil =>
    intro k a B p q r s x4 x5 x6 x7 x8 x9 x10 x11 hk _ _ _ _ _ _ h
    subst hk
    exact ⟨a, p, q, r, s, x4, x5, x6, x7, x8, x9, x10, x11, by omega, by simp, by simpa using h, rfl⟩
  | cons i l ih =>
    intro k a B p q r s x4 x5 x6 x7 x8 x9 x10 x11 hk h6 hB hB2 hc ha ha2 h
    cases k with
    | zero => simp at hk
    | succ k =>
      rw [List.length_cons] at hk
      have hk' : l.length = k := by omega
      have e3 : B * 3 ^ (k + 1) = B * 3 * 3 ^ k := by rw [Int.pow_succ]; grind
      have hp3 : (1 : Int) ≤ 3 ^ k := by
        have : (1 : Nat) ≤ 3 ^ k := Nat.one_le_pow _ _ (by decide)
        exact_mod_cast this
      have hB3 : B * 3 ≤ B * 3 * 3 ^ k := by
        have := Int.mul_le_mul_of_nonneg_left hp3 (show 0 ≤ B * 3 by omega)
        omega
      obtain ⟨a1, p1, q1, r1, s1, y5, y6, y7, y8, b1, b2, b3, b4⟩ := turn_is (M := M) (ds := ds) (x4 := some (.int i)) (x5 := x5) (x6 := x6) (x7 := x7) (x8 := x8) (x9 := x9) (x10 := x10) (x11 := x11) hB (by omega) hc ha (by omega) h
      obtain ⟨a2, p2, q2, r2, s2, z4, z5, z6, z7, z8, z9, z10, z11, d1, d2, d3, d4⟩ := ih k a1 (3 * B) p1 q1 r1 s1 (some (.int i)) y5 y6 y7 y8 x9 x10 x11 hk' (by omega) (by omega) (by rw [Int.mul_comm 3 B]; omega) hc (by omega) (by omega) b3
      refine ⟨a2, p2, q2, r2, s2, z4, z5, z6, z7, z8, z9, z10, z11, by omega, by omega, ?_, ?_⟩
      · rw [e3, Int.mul_comm B 3]; exact d3
      · rw [List.map_cons, fLoop_cons]
        simp only [gN_e, List.set_cons_succ, List.set_cons_zero, b4]
        exact d4
theorem compFP_nil {n : Nat} {ds0 : List D} {g : GF} {t : TF} {f : EF} {en : DL.Env} (h : M[n]? = some ds0) : compFP n ds0 g t f en [] M = some ([], M) := by unfold compFP; exact if_pos h
theorem compFP_cons {n : Nat} {ds0 : List D} {g : GF} {t : TF} {f : EF} {en : DL.Env} {d : D} {es : List D} (h : M[n]? = some ds0) : compFP n ds0 g t f en (d :: es) M = match g d en M with
    | none => none
    | some (en1, M1) => match t en1 M1 with
      | some (.ok true, M2) => match f en1 M2 with
        | some (.ok y, M3) => match compFP n ds0 g t f en es M3 with
          | some (ys, M4) => some (y :: ys, M4)
          | none => none
        | _ => none
      | some (.ok false, M2) => compFP n ds0 g t f en es M2
      | _ => none := by
  rw [compFP]
  exact if_pos h
theorem change_is {a : Int} (hM : M[c]? = some (Box ds a)) (ha : 0 ≤ a) (ha2 : a ≤ 900) :
    ∃ a' p q r s, a ≤ a' ∧ a' ≤ a + 24 ∧ Chn 81 p q r s ∧ m_l_change [.cel c, .int 2, .int 4] M = some (.ok (eTab [[p, q], [r, s]]), M.set c (Box ds a')) := by
  have hc : c < M.length := (List.getElem?_eq_some_iff.mp hM).1
  have hset : M.set c (Box ds a) = M := by
    refine List.ext_getElem? fun i => ?_
    by_cases e : i = c
    · subst e; rw [List.getElem?_set_self hc, hM]
    · rw [List.getElem?_set_ne (Ne.symm e)]
  have hl : (rgI 0 4).length = 4 := by simp [rgI]
  obtain ⟨a', p, q, r, s, y4, y5, y6, y7, y8, y9, y10, y11, b1, b2, b3, b4⟩ := change_loop (M := M) (c := c) (ds := ds) (rgI 0 4) 4 a 1 1 0 0 1 none none none none none none none none hl (by omega) (by omega) (by decide) hc ha (by omega) ⟨by omega, by omega, by omega, by omega, by omega, by omega, by omega, by omega, .inl rfl⟩
  refine ⟨a', p, q, r, s, b1, by omega, by simpa using b3, ?_⟩
  unfold m_l_change f_l_change
  rw [mDef_3]
  have h0 : sAsg (cLcC (iSeq (cCall m_l_unit (aCons (cVar 1) aNil))) (gN 9) tYesC (cCall gList (aCons (cVar 9) aNil)) [9]) (gN 3) [some (.cel c), some (.int 2), some (.int 4), none, none, none, none, none, none, none, none, none] M =
      some (.nx [some (.cel c), some (.int 2), some (.int 4), some (.cel M.length), none, none, none, none, none, none, none, none], stO M c ds a 1 0 0 1) := by
    simp [l_unit_is, eRow, stO, hset]
  have h1 : sFor (iRng1C (aCons (cVar 2) aNil)) (gN 4) bodC [some (.cel c), some (.int 2), some (.int 4), some (.cel M.length), none, none, none, none, none, none, none, none] (stO M c ds a 1 0 0 1) =
      some (.nx [some (.cel c), some (.int 2), some (.int 4), some (.cel M.length), y4, y5, y6, y7, y8, y9, y10, y11], stO M c ds a' p q r s) := by
    simp only [sFor_e, iRng1_e, aCons_e, aNil_e, cVar_e, List.getElem?_cons_zero, List.getElem?_cons_succ, bnd_ok, show smI 4 = true by decide, if_true, sbnd_ok, rgD_eq]
    exact b4
  rw [show start0 12 [D.cel c, .int 2, .int 4] = [some (.cel c), some (.int 2), some (.int 4), none, none, none, none, none, none, none, none, none] from rfl, sSeq_nx h0]
  have h1' := h1
  unfold bodC at h1'
  rw [sSeq_nx h1']
  have hr : sRet (cCall gTuple (aCons (cLcP mkI (iCel (cVar 3)) (gN 9) tYesC (cCall gTuple (aCons (cVar 9) aNil)) [9]) aNil)) [some (.cel c), some (.int 2), some (.int 4), some (.cel M.length), y4, y5, y6, y7, y8, y9, y10, y11] (stO M c ds a' p q r s) =
      some (.rt (eTab [[p, q], [r, s]]), stO M c ds a' p q r s) := by
    have hx : (stO M c ds a' p q r s)[M.length]? = some [.imm [.int p, .int q], .imm [.int r, .int s]] := stO_rows
    have hcl : cLcP mkI (iCel (cVar 3)) (gN 9) tYesC (cCall gTuple (aCons (cVar 9) aNil)) [9] [some (.cel c), some (.int 2), some (.int 4), some (.cel M.length), y4, y5, y6, y7, y8, y9, y10, y11] (stO M c ds a' p q r s) =
        some (.ok (.imm [.tup [.int p, .int q], .tup [.int r, .int s]]), stO M c ds a' p q r s) := by
      have hi : iCel (cVar 3) [some (.cel c), some (.int 2), some (.int 4), some (.cel M.length), y4, y5, y6, y7, y8, y9, y10, y11] (stO M c ds a' p q r s) = some (.ok M.length, stO M c ds a' p q r s) := by
        simp [iCel, stO_len]
      unfold cLcP
      rw [hi, bnd_ok, hx]
      dsimp only
      rw [if_pos (show szOk [D.imm [D.int p, D.int q], D.imm [D.int r, D.int s]].length = true from szOk_2)]
      simp [compFP_cons hx, compFP_nil hx]
    simp [hcl, row2, tab2]
  rw [hr]
  have ht : Tidy M (stO M c ds a' p q r s) := by
    intro j es hj hq
    unfold stO at hq
    rw [List.getElem?_append_left (by simpa using hj)] at hq
    exact tidy_set clos_box j es hj hq
  rw [fin_rt, gcF_any ht (by simp) rfl]
  congr 2
  unfold stO
  rw [List.take_append_of_le_length (by simp)]
  exact List.take_of_length_le (by simp)
theorem two_change_is {a : Int} (hM : M[c]? = some (Box ds a)) (ha : 0 ≤ a) (ha2 : a ≤ 900) :
    ∃ a' p q r s, a ≤ a' ∧ a' ≤ a + 24 ∧ Chn 81 p q r s ∧ p * s - q * r = 1 ∧ m_l_two_change [.cel c] M = some (.ok (eTab [[p, q], [r, s]]), M.set c (Box ds a')) := by
  obtain ⟨a', p, q, r, s, b1, b2, b3, b4⟩ := change_is hM ha ha2
  have sm : ∀ {x : Int}, -81 ≤ x → x ≤ 81 → Sm x := fun h1 h2 => ⟨by omega, by omega⟩
  have hd := det2 (M := M.set c (Box ds a')) (sm b3.p1 b3.p2) (sm b3.q1 b3.q2) (sm b3.r1 b3.r2) (sm b3.s1 b3.s2)
  by_cases h : p * s - q * r = -1
  · refine ⟨a', r, s, p, q, b1, b2, ⟨b3.r1, b3.r2, b3.s1, b3.s2, b3.p1, b3.p2, b3.q1, b3.q2, .inl (by grind)⟩, by grind, ?_⟩
    unfold m_l_two_change f_l_two_change
    simp [b4, hd, h, tab2]
    exact gcF_set clos_box (by simp) rfl
  · have h1 : p * s - q * r = 1 := by rcases b3.det with z | z; exact z; exact absurd z h
    refine ⟨a', p, q, r, s, b1, b2, b3, h1, ?_⟩
    unfold m_l_two_change f_l_two_change
    simp [b4, hd, h1]
    exact gcF_set clos_box (by simp) rfl
end
end K12
/-! K12, forms of two unknowns, 5: as gen/mkbase.py printed it. -/
namespace K12
open PySem DL
variable {M : Store}
def cQ (n a b : Int) : Int := (b * b - n) / (4 * a)
def pQ (n a b : Int) : Bool := ((b * b - n) % (4 * a) == 0) && redF a b (cQ n a b)
def rQ (n a b : Int) : List Int := [a, b, cQ n a b]
def clsA (n a : Int) : List (List Int) := ((rgI (1 - a) (2 * a).toNat).filter (pQ n a)).map (rQ n a)
def clsU (n : Int) (k : Nat) : List (List Int) := (rgI 1 k).flatMap (clsA n)
theorem check_gap_is {n : Int} (h : n < 0) (h2 : n % 4 ≤ 1) : m_check_gap [.int n] M = some (.ok .non, M) := by
  unfold m_check_gap f_check_gap
  simp [show gIsi [.int n, .ty "int"] M = some (.ok (.bl true), M) from rfl, show gIsi [.int n, .ty "bool"] M = some (.ok (.bl false), M) from rfl, show ¬ 0 ≤ n by omega, modC, show ¬ 1 < n % 4 by omega]
noncomputable def bodP : SF := (sIf (cTru (cOp (gEq false) (cOp gMod (cOp gSub (cOp gMul (cVar 3) (cVar 3)) (cVar 0)) (cOp gMul (cC (.int 4)) (cVar 2))) (cC (.int 0)))) (sSeq (sAsg (cTup (aCons (cVar 2) (aCons (cVar 3) (aCons (cOp gDiv (cOp gSub (cOp gMul (cVar 3) (cVar 3)) (cVar 0)) (cOp gMul (cC (.int 4)) (cVar 2))) aNil)))) (gN 4)) (sIf (cTru (cCall m_is_two_reduced (aCons (cVar 4) aNil))) (sExpr (cApp (cVar 1) (cVar 4))) sSkip)) sSkip)
theorem inP {n a : Int} (ha : 1 ≤ a) (ha2 : a ≤ 1000) (l : List Int) : ∀ (acc : List (List Int)) (x3 x4 : Option D), (∀ b ∈ l, Sm b) → acc.length + l.length ≤ 100000 →
    ∃ y3 y4, fLoop (gN 3) bodP (l.map D.int) [some (.int n), some (.cel M.length), some (.int a), x3, x4] (M ++ [acc.map eRow]) =
      some (.nx [some (.int n), some (.cel M.length), some (.int a), y3, y4], M ++ [(acc ++ (l.filter (pQ n a)).map (rQ n a)).map eRow]) := by
  induction l with
  | nil => exact fun acc x3 x4 _ _ => ⟨x3, x4, by simp⟩
  | cons b l ih =>
    intro acc x3 x4 hb hl
    rw [List.length_cons] at hl
    have hsb := hb b List.mem_cons_self
    have hd : ∀ y : Int, divC y (4 * a) = true := fun y => divC_of (by omega) (by omega)
    have hm : ∀ y : Int, modC y (4 * a) = true := fun y => modC_of (by omega)
    rw [List.map_cons, fLoop_cons]
    by_cases h1 : (b * b - n) % (4 * a) = 0
    · by_cases h2 : redF a b (cQ n a b) = true
      · obtain ⟨y3, y4, e⟩ := ih (acc ++ [rQ n a b]) (some (.int b)) (some (eRow (rQ n a b))) (fun z hz => hb z (List.mem_cons_of_mem _ hz)) (by simp; omega)
        refine ⟨y3, y4, ?_⟩
        have hp : pQ n a b = true := by unfold pQ; rw [h2, h1]; rfl
        have hbod : bodP [some (.int n), some (.cel M.length), some (.int a), some (.int b), x4] (M ++ [acc.map eRow]) = some (.nx [some (.int n), some (.cel M.length), some (.int a), some (.int b), some (eRow (rQ n a b))], M ++ [(acc ++ [rQ n a b]).map eRow]) := by
          have h2' : redF a b ((b * b - n) / (4 * a)) = true := h2
          simp [bodP, hsb.l, m4, hd, hm, h1, row3, is_two_reduced_is, h2', szOk_of (show acc.length + 1 ≤ 16777216 by omega), rQ, cQ]
        simp only [gN_e, List.set_cons_succ, List.set_cons_zero, hbod]
        rw [e, List.filter_cons_of_pos hp]
        simp
      · have h2' : redF a b ((b * b - n) / (4 * a)) = false := by simpa [cQ] using h2
        obtain ⟨y3, y4, e⟩ := ih acc (some (.int b)) (some (eRow (rQ n a b))) (fun z hz => hb z (List.mem_cons_of_mem _ hz)) (by omega)
        refine ⟨y3, y4, ?_⟩
        have hp : ¬ pQ n a b = true := by unfold pQ; rw [Bool.and_eq_true]; exact fun z => h2 z.2
        have hbod : bodP [some (.int n), some (.cel M.length), some (.int a), some (.int b), x4] (M ++ [acc.map eRow]) = some (.nx [some (.int n), some (.cel M.length), some (.int a), some (.int b), some (eRow (rQ n a b))], M ++ [acc.map eRow]) := by
          simp [bodP, hsb.l, m4, hd, hm, h1, row3, is_two_reduced_is, h2', rQ, cQ]
        simp only [gN_e, List.set_cons_succ, List.set_cons_zero, hbod]
        rw [e, List.filter_cons_of_neg hp]
    · obtain ⟨y3, y4, e⟩ := ih acc (some (.int b)) x4 (fun z hz => hb z (List.mem_cons_of_mem _ hz)) (by omega)
      refine ⟨y3, y4, ?_⟩
      have hp : ¬ pQ n a b = true := by unfold pQ; rw [Bool.and_eq_true]; exact fun z => h1 (by simpa using z.1)
      have hbod : bodP [some (.int n), some (.cel M.length), some (.int a), some (.int b), x4] (M ++ [acc.map eRow]) = some (.nx [some (.int n), some (.cel M.length), some (.int a), some (.int b), x4], M ++ [acc.map eRow]) := by
        simp [bodP, hsb.l, m4, hm, h1]
      simp only [gN_e, List.set_cons_succ, List.set_cons_zero, hbod]
      rw [e, List.filter_cons_of_neg hp]
theorem rg_len {lo : Int} {k : Nat} : (rgI lo k).length = k := by simp [rgI]
theorem clsA_len {n a : Int} : (clsA n a).length ≤ (2 * a).toNat := by
  unfold clsA
  rw [List.length_map]
  exact Nat.le_trans (List.length_filter_le _ _) (by rw [rg_len]; exact Nat.le_refl _)
noncomputable def outP : SF := sFor (iRng2C (aCons (cOp gSub (cC (.int 1)) (cVar 2)) (aCons (cOp gAddA (cVar 2) (cC (.int 1))) aNil))) (gN 3) bodP
theorem loopP {n : Int} (l : List Int) : ∀ (acc : List (List Int)) (x2 x3 x4 : Option D), (∀ a ∈ l, 1 ≤ a ∧ a ≤ 1000) → acc.length + 2000 * l.length ≤ 90000 →
    ∃ y2 y3 y4, fLoop (gN 2) outP (l.map D.int) [some (.int n), some (.cel M.length), x2, x3, x4] (M ++ [acc.map eRow]) =
      some (.nx [some (.int n), some (.cel M.length), y2, y3, y4], M ++ [(acc ++ l.flatMap (clsA n)).map eRow]) := by
  induction l with
  | nil => exact fun acc x2 x3 x4 _ _ => ⟨x2, x3, x4, by simp⟩
  | cons a l ih =>
    intro acc x2 x3 x4 hb hl
    rw [List.length_cons] at hl
    obtain ⟨h1, h2⟩ := hb a List.mem_cons_self
    obtain ⟨y3, y4, e⟩ := inP (M := M) (n := n) h1 h2 (rgI (1 - a) (2 * a).toNat) acc x3 x4 (fun b hb => by have := mem_rgI.mp hb; exact ⟨by omega, by omega⟩) (by rw [rg_len]; omega)
    have hcl := clsA_len (n := n) (a := a)
    obtain ⟨z2, z3, z4, e2⟩ := ih (acc ++ clsA n a) (some (.int a)) y3 y4 (fun z hz => hb z (List.mem_cons_of_mem _ hz)) (by rw [List.length_append]; omega)
    refine ⟨z2, z3, z4, ?_⟩
    rw [List.map_cons, fLoop_cons]
    have hout : outP [some (.int n), some (.cel M.length), some (.int a), x3, x4] (M ++ [acc.map eRow]) = some (.nx [some (.int n), some (.cel M.length), some (.int a), y3, y4], M ++ [(acc ++ clsA n a).map eRow]) := by
      unfold outP
      have hs1 : smI (1 - a) = true := smI_of (by omega) (by omega)
      have hs2 : smI (a + 1) = true := smI_of (by omega) (by omega)
      have ht : (a + 1 - (1 - a)).toNat = (2 * a).toNat := by congr 1; omega
      simp only [sFor_e, iRng2_e, aCons_e, aNil_e, cOp_e, cC_e, cVar_e, List.getElem?_cons_zero, List.getElem?_cons_succ, bnd_ok, gI_e, yes2_e, if_true, gAddA_i, hs1, hs2, Bool.and_self, sbnd_ok, rgD_eq, ht]
      exact e
    simp only [gN_e, List.set_cons_succ, List.set_cons_zero, hout]
    rw [e2, List.flatMap_cons, List.append_assoc]
theorem reduced_twos_is {n : Int} (h : n < 0) (h2 : n % 4 ≤ 1) (h3 : -1200 ≤ n) : ∃ k : Nat, IsRoot ((0 - n) / 3) k ∧ m_reduced_twos [.int n] M = some (.ok (.imm ((clsU n k).map eRow)), M) := by
  obtain ⟨r, hr, e⟩ := root_is (M := M ++ [[]]) (x := (0 - n) / 3) (by omega) (by omega)
  obtain ⟨k, rfl⟩ : ∃ k : Nat, r = k := ⟨r.toNat, by have := hr.1; omega⟩
  have hk : k ≤ 20 := by
    rcases Nat.lt_or_ge 20 k with z | z
    · have : (21 : Int) * 21 ≤ (k : Int) * k := Int.mul_le_mul (by omega) (by omega) (by omega) (by omega)
      have := hr.2.1
      omega
    · exact z
  obtain ⟨y2, y3, y4, e2⟩ := loopP (M := M) (n := n) (rgI 1 k) [] none none none (fun a ha => by have := mem_rgI.mp ha; omega) (by rw [rg_len]; simp; omega)
  refine ⟨k, hr, ?_⟩
  unfold m_reduced_twos f_reduced_twos
  rw [mDef_1, show start0 5 [D.int n] = [some (.int n), none, none, none, none] from rfl]
  rw [sSeq_nx (en1 := [some (.int n), none, none, none, none]) (M1 := M) (by simp [check_gap_is h h2]), sSeq_nx (en1 := [some (.int n), some (.cel M.length), none, none, none]) (M1 := M ++ [[]]) (by simp)]
  have hs : sFor (iRng2C (aCons (cC (.int 1)) (aCons (cOp gAddA (cCall m_root (aCons (cOp gDiv (cOp gSub (cC (.int 0)) (cVar 0)) (cC (.int 3))) aNil)) (cC (.int 1))) aNil))) (gN 2) outP [some (.int n), some (.cel M.length), none, none, none] (M ++ [[]]) =
      some (.nx [some (.int n), some (.cel M.length), y2, y3, y4], M ++ [(clsU n k).map eRow]) := by
    have hd : ∀ y : Int, divC y 3 = true := fun y => divC_of (by decide) (by decide)
    have hs1 : smI 1 = true := by decide
    have hs2 : smI ((k : Int) + 1) = true := smI_of (by omega) (by omega)
    have ht : ((k : Int) + 1 - 1).toNat = k := by omega
    have ha1 : cOp gDiv (cOp gSub (cC (.int 0)) (cVar 0)) (cC (.int 3)) [some (.int n), some (.cel M.length), none, none, none] (M ++ [[]]) = some (.ok (.int ((0 - n) / 3)), M ++ [[]]) := by
      show (if divC (0 - n) 3 = true then (some (Out.ok (D.int ((0 - n) / 3)), M ++ [[]]) : Res D) else none) = _
      rw [if_pos (hd _)]
    have ha2 : cOp gAddA (cCall m_root (aCons (cOp gDiv (cOp gSub (cC (.int 0)) (cVar 0)) (cC (.int 3))) aNil)) (cC (.int 1)) [some (.int n), some (.cel M.length), none, none, none] (M ++ [[]]) = some (.ok (.int ((k : Int) + 1)), M ++ [[]]) := by
      rw [cOp_e, cCall_e, aCons_e, ha1, bnd_ok, aNil_e, bnd_ok, bnd_ok, e, bnd_ok, cC_e, bnd_ok, gAddA_i]
    have hi : iRng2C (aCons (cC (.int 1)) (aCons (cOp gAddA (cCall m_root (aCons (cOp gDiv (cOp gSub (cC (.int 0)) (cVar 0)) (cC (.int 3))) aNil)) (cC (.int 1))) aNil)) [some (.int n), some (.cel M.length), none, none, none] (M ++ [[]]) = some (.ok ((rgI 1 k).map D.int), M ++ [[]]) := by
      rw [iRng2_e, aCons_e, cC_e, bnd_ok, aCons_e, ha2, bnd_ok, aNil_e, bnd_ok, bnd_ok, bnd_ok]
      dsimp only
      rw [hs1, hs2, ht, rgD_eq]
      rfl
    rw [sFor_e, hi, sbnd_ok]
    rw [List.map_nil, List.nil_append] at e2
    unfold clsU
    exact e2
  have hs' := hs
  unfold outP bodP at hs'
  rw [sSeq_nx hs']
  simp
  exact gcF_cel (by simp) (Nat.le_refl _) (clos_map fun _ => clo_row)
/-- rows of three -/
def three : List (List Int) → Prop := fun l => ∀ r ∈ l, ∃ a b c, r = [a, b, c]
theorem three_clsU {n : Int} {k : Nat} : three (clsU n k) := by
  intro r hr
  obtain ⟨a, _, ha⟩ := List.mem_flatMap.mp hr
  obtain ⟨b, _, rfl⟩ := List.mem_map.mp ha
  exact ⟨_, _, _, rfl⟩
def isPrim (r : List Int) : Bool := gcdL r == 1
theorem gcdL_3 {a b c : Int} (ha : 1 ≤ a) : gcdL [a, b, c] = (Int.gcd (Int.gcd a b) c : Int) := by
  unfold gcdL
  simp only [List.foldl_cons, List.foldl_nil]
  have : (Int.gcd 0 a : Int) = a := by rw [Int.gcd_zero_left]; omega
  rw [this]
def ltR (r s : List Int) : Prop := ∃ a b c a' b' c', r = [a, b, c] ∧ s = [a', b', c'] ∧ (a < a' ∨ (a = a' ∧ b < b'))
theorem rgI_lt {lo : Int} {k : Nat} : (rgI lo k).Pairwise (· < ·) := by
  unfold rgI
  rw [List.pairwise_map]
  exact List.pairwise_lt_range.imp fun h => by omega
theorem clsU_lt {n : Int} {k : Nat} : (clsU n k).Pairwise ltR := by
  unfold clsU
  rw [List.pairwise_flatMap]
  refine ⟨fun a _ => ?_, rgI_lt.imp fun {a b} h x hx y hy => ?_⟩
  · unfold clsA
    rw [List.pairwise_map]
    exact (List.Pairwise.filter _ rgI_lt).imp fun {b b'} h => ⟨_, _, _, _, _, _, rfl, rfl, .inr ⟨rfl, h⟩⟩
  · obtain ⟨u, _, rfl⟩ := List.mem_map.mp hx
    obtain ⟨v, _, rfl⟩ := List.mem_map.mp hy
    exact ⟨_, _, _, _, _, _, rfl, rfl, .inl h⟩
theorem root_unique {x : Int} {r s : Int} (h : IsRoot x r) (h2 : IsRoot x s) : r = s := by
  obtain ⟨a1, a2, a3⟩ := h
  obtain ⟨b1, b2, b3⟩ := h2
  have lt : ∀ {u v : Int}, 0 ≤ u → 0 ≤ v → u < v → (u + 1) * (u + 1) ≤ v * v := fun hu hv huv => Int.mul_le_mul (by omega) (by omega) (by omega) (by omega)
  rcases Int.lt_trichotomy r s with z | z | z
  · have := lt a1 b1 z; omega
  · exact z
  · have := lt b1 a1 z; omega
/-- the root, by looking -/
def rootN (x : Int) : Nat := ((List.range 20).filter fun (i : Nat) => decide (((i : Int) + 1) * ((i : Int) + 1) ≤ x)).length
theorem rootN_all : ((List.range 401).all fun (x : Nat) => decide (0 ≤ (rootN (x : Int) : Int)) && (decide ((rootN (x : Int) : Int) * (rootN (x : Int) : Int) ≤ (x : Int)) && decide ((x : Int) < ((rootN (x : Int) : Int) + 1) * ((rootN (x : Int) : Int) + 1)))) = true := by decide +kernel
theorem rootN_is {x : Int} (h0 : 0 ≤ x) (h1 : x ≤ 400) : IsRoot x (rootN x) := by
  have := List.all_eq_true.mp rootN_all x.toNat (List.mem_range.mpr (by omega))
  rw [Bool.and_eq_true, Bool.and_eq_true, decide_eq_true_eq, decide_eq_true_eq, decide_eq_true_eq] at this
  have e : ((x.toNat : Nat) : Int) = x := by omega
  rw [e] at this
  exact this
/-- all reduced forms -/
def cls (n : Int) : List (List Int) := clsU n (rootN ((0 - n) / 3))
/-- the whole ones -/
def prm (n : Int) : List (List Int) := (cls n).filter isPrim
structure Num (n : Int) : Prop where
  neg : n < 0
  mod : n % 4 ≤ 1
  lo : -1200 ≤ n
theorem Num.root {n : Int} (h : Num n) {k : Nat} (hk : IsRoot ((0 - n) / 3) k) : k = rootN ((0 - n) / 3) := by
  have h1 := h.neg; have h2 := h.lo
  have := root_unique hk (rootN_is (x := (0 - n) / 3) (by omega) (by omega))
  omega
theorem Num.k20 {n : Int} (h : Num n) : rootN ((0 - n) / 3) ≤ 20 := by
  unfold rootN
  exact Nat.le_trans (List.length_filter_le _ _) (by simp)
theorem twos_is {n : Int} (h : Num n) : m_reduced_twos [.int n] M = some (.ok (.imm ((cls n).map eRow)), M) := by
  obtain ⟨k, hk, e⟩ := reduced_twos_is (M := M) h.neg h.mod h.lo
  rw [h.root hk] at e
  exact e
theorem cls_three {n : Int} : three (cls n) := three_clsU
theorem cls_len {n : Int} (h : Num n) : (cls n).length ≤ 40000 := by
  unfold cls clsU
  have key : ∀ l : List Int, (∀ a ∈ l, 1 ≤ a ∧ a ≤ 1000) → (l.flatMap (clsA n)).length ≤ 2000 * l.length := by
    intro l
    induction l with
    | nil => intro _; simp
    | cons a l ih =>
      intro q
      rw [List.flatMap_cons, List.length_append, List.length_cons]
      have := ih fun b hb => q b (List.mem_cons_of_mem _ hb)
      have := clsA_len (n := n) (a := a)
      have := q a List.mem_cons_self
      omega
  have hk := h.k20
  have := key (rgI 1 (rootN ((0 - n) / 3))) fun a ha => by have := mem_rgI.mp ha; omega
  rw [rg_len] at this
  omega
theorem two_classes_is {n : Int} (h : Num n) : m_two_classes [.int n] M = some (.ok (eTab (prm n)), M) := by
  unfold m_two_classes f_two_classes
  rw [mDef_1, show start0 2 [D.int n] = [some (.int n), none] from rfl]
  have hl : cLc (iSeq (cCall m_reduced_twos (aCons (cVar 0) aNil))) (gN 1) (cTru (cOp (gEq false) (cCall m_divisor_of (aCons (cVar 1) aNil)) (cC (.int 1)))) (cVar 1) [1] [some (.int n), none] M = some (.ok (.imm ((prm n).map eRow)), M) := by
    have := lc_of (M := M) (en := [some (.int n), none]) (g := gN 1) (t := cTru (cOp (gEq false) (cCall m_divisor_of (aCons (cVar 1) aNil)) (cC (.int 1)))) (f := cVar 1) (mk := mkI) (fi := iSeq (cCall m_reduced_twos (aCons (cVar 0) aNil))) (vs := [1]) eRow isPrim eRow (cls n) (by simp [twos_is h]) (Nat.le_trans (cls_len h) (by decide)) fun r hr => ⟨[some (.int n), some (eRow r)], by simp, by simp [divisor_of_is, isPrim], fun _ => by simp⟩
    exact this
  simp only [sRet_e, cCall_e, aCons_e, aNil_e, hl, bnd_ok, gTuple_l, sbnd_ok, fin_rt]
  exact gcF_ok0 (by simp) rfl
end K12
/-! K12, forms of two unknowns, 6: as gen/mkbase.py printed it. -/
namespace K12
open PySem DL
variable {M : Store}
theorem repr_is {x : D} {u : PyData} (h : toPyM M x = some u) (hs : shOk u = true) : gRepr [x] M = some (.ok (.str u.shown), M) := by
  unfold gRepr
  dsimp only
  rw [h]
  dsimp only
  rw [if_pos hs]
theorem same_is {x y : D} {u : PyData} (hx : toPyM M x = some u) (hy : toPyM M y = some u) (hs : shOk u = true) : m_l_same [x, y] M = some (.ok (.bl true), M) := by
  unfold m_l_same f_l_same
  rw [mDef_2, show start0 2 [x, y] = [some x, some y] from rfl]
  simp [repr_is hx hs, repr_is hy hs]
theorem sh_row {r : List Int} (h : ∀ x ∈ r, Sm x) (hl : r.length ≤ 100) : shOk (pRow r) = true := by
  refine shOk_of (plain_row fun x hx => shI_of ?_) (Nat.le_trans depth_row (by decide)) (Nat.le_trans bulk_row (by omega))
  have := h x hx
  obtain ⟨h1, h2⟩ := this
  have : x.natAbs < 10 ^ 15 := by omega
  exact Nat.lt_trans this (by decide)
theorem sh_tab {t : List (List Int)} (h : ∀ r ∈ t, ∀ x ∈ r, Sm x) (hl : ∀ r ∈ t, r.length ≤ 3) (hn : t.length ≤ 2000) : shOk (pTab t) = true := by
  refine shOk_of (plain_tab fun r hr x hx => shI_of ?_) (Nat.le_trans depth_tab (by decide)) (Nat.le_trans (bulk_tab hl) (by omega))
  obtain ⟨h1, h2⟩ := h r hr x hx
  have : x.natAbs < 10 ^ 15 := by omega
  exact Nat.lt_trans this (by decide)
theorem same_row {r : List Int} (h : ∀ x ∈ r, Sm x) (hl : r.length ≤ 100) : m_l_same [eRow r, eRow r] M = some (.ok (.bl true), M) := same_is toPyM_row toPyM_row (sh_row h hl)
theorem same_tab {t : List (List Int)} (h : ∀ r ∈ t, ∀ x ∈ r, Sm x) (hl : ∀ r ∈ t, r.length ≤ 3) (hn : t.length ≤ 2000) : m_l_same [eTab t, eTab t] M = some (.ok (.bl true), M) := same_is toPyM_tab toPyM_tab (sh_tab h hl hn)
theorem same_bl {b : Bool} : m_l_same [.bl b, .bl b] M = some (.ok (.bl true), M) := same_is (u := .bool b) rfl rfl (shOk_of rfl (by simp [PyData.depth]) (by simp [PyData.bulk]))
theorem gIn_rows {neg : Bool} {r : List Int} {t : List (List Int)} : gIn neg (eRow r) (.imm (t.map eRow)) M = some (.ok (.bl (if neg = true then !(t.contains r) else t.contains r)), M) := by
  have h3 : toPys (t.map eRow) = some (t.map pRow) := toPys_map (g := pRow) fun r => toPyM_row (M := M) (r := r)
  have h1 : toPyM M (eRow r) = some (pRow r) := toPyM_row
  unfold gIn
  rw [h1, show itemsOf M (.imm (t.map eRow)) = some (t.map eRow) from rfl]
  dsimp only
  rw [h3]
  dsimp only
  rw [shaped_row, show SeqAt.shaped (.list (t.map pRow)) = true from shaped_tab]
  have e : ((t.map pRow).any fun z => PyData.eqv z (pRow r)) = t.contains r := by
    rw [List.any_map, Bool.eq_iff_iff, List.any_eq_true, List.contains_iff_mem]
    constructor
    · rintro ⟨x, hx, h⟩
      simp only [Function.comp] at h
      rw [eqv_row, beq_iff_eq] at h
      exact h ▸ hx
    · intro h
      exact ⟨r, h, by simp only [Function.comp]; rw [eqv_row, beq_iff_eq]⟩
  rw [e]
  rfl
theorem unit_two_is {n : Int} (h : Num n) : m_unit_two [.int n] M = some (.ok (eRow [1, n % 4, (n % 4 - n) / 4]), M) := by
  unfold m_unit_two f_unit_two
  rw [mDef_1, show start0 2 [D.int n] = [some (.int n), none] from rfl]
  have hc : sExpr (cCall m_check_gap (aCons (cVar 0) aNil)) [some (.int n), none] M = some (.nx [some (.int n), none], M) := by
    simp [check_gap_is h.neg h.mod]
  rw [sSeq_nx hc]
  have ha : sAsg (cOp gMod (cVar 0) (cC (.int 4))) (gN 1) [some (.int n), none] M = some (.nx [some (.int n), some (.int (n % 4))], M) := rfl
  rw [sSeq_nx ha]
  have hb : cTup (aCons (cC (.int 1)) (aCons (cVar 1) (aCons (cOp gDiv (cOp gSub (cVar 1) (cVar 0)) (cC (.int 4))) aNil))) [some (.int n), some (.int (n % 4))] M = some (.ok (eRow [1, n % 4, (n % 4 - n) / 4]), M) := by
    rfl
  rw [sRet_e, hb, sbnd_ok, fin_rt]
  exact gcF_ok0 rfl rfl
def Frm.opp (f : Frm) : Frm := ⟨f.a, 0 - f.b, f.c⟩
def Chg.conj (u : Chg) : Chg := ⟨u.p, -u.q, -u.r, u.s⟩
theorem conj_det (u : Chg) : u.conj.det = u.det := by simp only [Chg.conj, Chg.det]; grind
theorem opp_act (f : Frm) (u : Chg) : f.opp.act u.conj = (f.act u).opp := by
  apply Frm.ext <;> simp only [Frm.act, Frm.wo, worthF, midF, Frm.opp, Chg.conj] <;> grind
theorem opp_pos {f : Frm} (h : f.pos) : f.opp.pos := ⟨h.1, by
  have := h.2
  have e : f.opp.gap = f.gap := by simp only [Frm.gap, gapF, Frm.opp]; grind
  omega⟩
theorem opp_bd {f : Frm} (h : Bd f) : Bd f.opp := ⟨h.a, by have := h.b2; show _ ≤ 0 - f.b; omega, by have := h.b1; show 0 - f.b ≤ _; omega, h.c⟩
theorem opp_gcd {a b c : Int} : gcdL [a, 0 - b, c] = gcdL [a, b, c] := by
  simp only [gcdL, List.foldl_cons, List.foldl_nil]
  rw [Int.zero_sub, Int.gcd_neg]
/-- the reduced forms of the opposites of two equivalent forms are equal -/
theorem opp_unique {f : Frm} {u v w : Chg} (hp : f.pos) (hu : u.det = 1) (hv : v.det = 1) (hw : w.det = 1) (r1 : Red ((f.act u).opp.act v)) (r2 : Red (f.opp.act w)) : (f.act u).opp.act v = f.opp.act w := by
  refine unique (u := (v.mul u.conj).mul w.inv) r2 r1 (pos_act (opp_pos hp) hw) ?_ ?_
  · rw [det_mul, det_mul, conj_det, det_inv, hu, hv, hw]; rfl
  · rw [← act_act, act_inv _ _ hw, ← act_act, opp_act]
noncomputable def oppP : AF := aCons (cTup (aCons (cOp gIx (cVar 0) (cC (.int 0))) (aCons (cOp gSub (cC (.int 0)) (cOp gIx (cVar 0) (cC (.int 1)))) (aCons (cOp gIx (cVar 0) (cC (.int 2))) aNil)))) aNil
theorem opposite_two_is {f : Frm} (hp : f.pos) (hb : Bd f) (h1 : gcdL [f.a, f.b, f.c] = 1) : ∃ v, v.det = 1 ∧ Red (f.opp.act v) ∧ Bd (f.opp.act v) ∧ m_opposite_two [eF f] M = some (.ok (eF (f.opp.act v)), M) := by
  obtain ⟨v, e1, e2, e3, e4⟩ := two_reduced_is (M := M) (f := f.opp) (opp_pos hp) (opp_bd hb) (opp_gcd.trans h1)
  refine ⟨v, e1, e2, e3, ?_⟩
  have hsb : Sm f.b := ⟨by have := hb.b1; omega, by have := hb.b2; omega⟩
  have hsc : Sm f.c := ⟨by have := pos_c hp; omega, by have := hb.c; omega⟩
  have hc : sExpr (cCall m_check_two (aCons (cVar 0) aNil)) [some (eF f)] M = some (.nx [some (eF f)], M) := by
    have := check_two_is (M := M) hsb hsc hp.2 hp.1 h1
    simp [eF, this]
  unfold m_opposite_two f_opposite_two
  rw [mDef_1, show start0 1 [eF f] = [some (eF f)] from rfl, sSeq_nx hc]
  have ha : aCons (cTup (aCons (cOp gIx (cVar 0) (cC (.int 0))) (aCons (cOp gSub (cC (.int 0)) (cOp gIx (cVar 0) (cC (.int 1)))) (aCons (cOp gIx (cVar 0) (cC (.int 2))) aNil)))) aNil [some (eF f)] M = some (.ok [eF f.opp], M) := rfl
  have hr : cOp gIx (cCall m_two_reduced (aCons (cTup (aCons (cOp gIx (cVar 0) (cC (.int 0))) (aCons (cOp gSub (cC (.int 0)) (cOp gIx (cVar 0) (cC (.int 1)))) (aCons (cOp gIx (cVar 0) (cC (.int 2))) aNil)))) aNil)) (cC (.int 0)) [some (eF f)] M = some (.ok (eF (f.opp.act v)), M) := by
    rw [cOp_e, cCall_e, ha, bnd_ok, e4, bnd_ok, cC_e, bnd_ok]
    rfl
  rw [sRet_e, hr, sbnd_ok, fin_rt]
  exact gcF_ok0 rfl rfl
theorem gcdL_l {a b c : Int} : (gcdL [a, b, c]) ∣ a ∧ (gcdL [a, b, c]) ∣ b ∧ (gcdL [a, b, c]) ∣ c := by
  simp only [gcdL, List.foldl_cons, List.foldl_nil]
  refine ⟨?_, ?_, Int.gcd_dvd_right ..⟩
  · exact Int.dvd_trans (Int.gcd_dvd_left ..) (Int.dvd_trans (Int.gcd_dvd_left ..) (Int.gcd_dvd_right ..))
  · exact Int.dvd_trans (Int.gcd_dvd_left ..) (Int.gcd_dvd_right ..)
theorem dvd_gcdL {d a b c : Int} (h1 : d ∣ a) (h2 : d ∣ b) (h3 : d ∣ c) : d ∣ gcdL [a, b, c] := by
  simp only [gcdL, List.foldl_cons, List.foldl_nil]
  exact Int.dvd_coe_gcd (Int.dvd_coe_gcd (Int.dvd_coe_gcd (Int.dvd_zero _) h1) h2) h3
theorem gcdL_nn {a b c : Int} : 0 ≤ gcdL [a, b, c] := by
  simp only [gcdL, List.foldl_cons, List.foldl_nil]
  omega
theorem act_dvd {f : Frm} {u : Chg} {d : Int} (h1 : d ∣ f.a) (h2 : d ∣ f.b) (h3 : d ∣ f.c) : d ∣ (f.act u).a ∧ d ∣ (f.act u).b ∧ d ∣ (f.act u).c := by
  obtain ⟨a, e1⟩ := h1
  obtain ⟨b, e2⟩ := h2
  obtain ⟨c, e3⟩ := h3
  have e : f = ⟨d * a, d * b, d * c⟩ := Frm.ext e1 e2 e3
  subst e
  refine ⟨⟨worthF a b c u.p u.q, ?_⟩, ⟨midF a b c u.p u.q u.r u.s, ?_⟩, ⟨worthF a b c u.r u.s, ?_⟩⟩ <;>
    simp only [Frm.act, Frm.wo, worthF, midF] <;> grind
theorem prim_act {f : Frm} {u : Chg} (hu : u.det = 1) (h : gcdL [f.a, f.b, f.c] = 1) : gcdL [(f.act u).a, (f.act u).b, (f.act u).c] = 1 := by
  obtain ⟨h1, h2, h3⟩ := gcdL_l (a := (f.act u).a) (b := (f.act u).b) (c := (f.act u).c)
  obtain ⟨k1, k2, k3⟩ := act_dvd (u := u.inv) h1 h2 h3
  rw [act_inv f u hu] at k1 k2 k3
  have := dvd_gcdL k1 k2 k3
  rw [h] at this
  have p := gcdL_nn (a := (f.act u).a) (b := (f.act u).b) (c := (f.act u).c)
  exact Int.eq_one_of_dvd_one p this
def Frm.row (f : Frm) : List Int := [f.a, f.b, f.c]
theorem mem_prm {n : Int} (h : Num n) {r : List Int} : r ∈ prm n ↔ ∃ f : Frm, r = f.row ∧ f.pos ∧ f.gap = n ∧ Red f ∧ gcdL f.row = 1 := by
  have hx := rootN_is (x := (0 - n) / 3) (by have := h.neg; omega) (by have := h.lo; omega)
  have hneg := h.neg
  generalize hk : rootN ((0 - n) / 3) = k at hx
  unfold prm cls clsU clsA
  rw [hk, List.mem_filter, List.mem_flatMap]
  constructor
  · rintro ⟨⟨a, ha, hr⟩, hp⟩
    obtain ⟨b, hb, rfl⟩ := List.mem_map.mp hr
    obtain ⟨hb, hq⟩ := List.mem_filter.mp hb
    unfold pQ at hq
    rw [Bool.and_eq_true, beq_iff_eq] at hq
    have ha1 := mem_rgI.mp ha
    have hm : 4 * a * cQ n a b = b * b - n := by
      unfold cQ
      have := Int.mul_ediv_add_emod (b * b - n) (4 * a)
      rw [hq.1] at this
      omega
    refine ⟨⟨a, b, cQ n a b⟩, rfl, ⟨by show 1 ≤ a; omega, ?_⟩, ?_, red_iff.mp hq.2, ?_⟩
    · show gapF a b (cQ n a b) < 0
      unfold gapF; omega
    · show gapF a b (cQ n a b) = n
      unfold gapF; omega
    · exact beq_iff_eq.mp hp
  · rintro ⟨f, rfl, hp, hg, hr, h1⟩
    have h2 := red_iff.mpr hr
    obtain ⟨a, b, c⟩ := f
    have ha : 1 ≤ a := hp.1
    have hg : b * b - 4 * a * c = n := hg
    have hlo : -a < b := hr.lo
    have hhi : b ≤ a := hr.hi
    have hac : a ≤ c := hr.ac
    have hcq : cQ n a b = c := by
      unfold cQ
      rw [show b * b - n = 4 * a * c by omega, Int.mul_ediv_cancel_left _ (by omega)]
    refine ⟨⟨a, ?_, List.mem_map.mpr ⟨b, List.mem_filter.mpr ⟨?_, ?_⟩, ?_⟩⟩, beq_iff_eq.mpr h1⟩
    · refine mem_rgI.mpr ?_
      have hbb : b * b ≤ a * a := by
        rcases Int.le_total 0 b with z | z
        · exact Int.mul_le_mul hhi hhi z (by omega)
        · have := Int.mul_le_mul (show -b ≤ a by omega) (show -b ≤ a by omega) (by omega) (by omega)
          rw [Int.neg_mul_neg] at this; exact this
      have hacc : a * a ≤ a * c := Int.mul_le_mul_of_nonneg_left hac (by omega)
      have e4 : 4 * a * c = 4 * (a * c) := Int.mul_assoc ..
      have h3 : a * a ≤ (0 - n) / 3 := by omega
      have h4 : a < (k : Int) + 1 := by
        rcases Int.lt_or_le a ((k : Int) + 1) with z | z
        · exact z
        · have := Int.mul_le_mul z z (by omega) (by omega)
          have := hx.2.2
          omega
      omega
    · exact mem_rgI.mpr (by omega)
    · unfold pQ
      rw [Bool.and_eq_true, beq_iff_eq, hcq]
      refine ⟨?_, h2⟩
      rw [show b * b - n = 4 * a * c by omega]
      exact Int.mul_emod_right ..
    · unfold rQ
      rw [hcq]; rfl
theorem mb {x y A B : Int} (hx : -A ≤ x ∧ x ≤ A) (hy : -B ≤ y ∧ y ≤ B) : -(A * B) ≤ x * y ∧ x * y ≤ A * B := by
  have h1 : x.natAbs ≤ A.natAbs := by omega
  have h2 : y.natAbs ≤ B.natAbs := by omega
  have h3 := Nat.mul_le_mul h1 h2
  rw [← Int.natAbs_mul, ← Int.natAbs_mul] at h3
  have h4 : 0 ≤ A * B := Int.mul_nonneg (by omega) (by omega)
  omega
theorem ab {x y A B : Int} (hx : -A ≤ x ∧ x ≤ A) (hy : -B ≤ y ∧ y ≤ B) : -(A + B) ≤ x + y ∧ x + y ≤ A + B := by omega
/-- the numbers of a reduced form -/
theorem red_b {f : Frm} {n : Int} (hn : Num n) (hp : f.pos) (hg : f.gap = n) (hr : Red f) : (1 ≤ f.a ∧ f.a ≤ 400) ∧ (-400 ≤ f.b ∧ f.b ≤ 400) ∧ (1 ≤ f.c ∧ f.c ≤ 400) := by
  have h1 := hp.1
  have hc := pos_c hp
  have h2 := hr.lo; have h3 := hr.hi; have h4 := hr.ac
  have hb : f.b * f.b ≤ f.a * f.a := by
    have := mb (x := f.b) (y := f.b) (A := f.a) (B := f.a) ⟨by omega, by omega⟩ ⟨by omega, by omega⟩
    exact this.2
  have ha : f.a * f.a ≤ f.a * f.c := Int.mul_le_mul_of_nonneg_left h4 (by omega)
  have hgap : f.b * f.b - 4 * f.a * f.c = n := hg
  have h5 : 4 * f.a * f.c = 4 * (f.a * f.c) := by rw [Int.mul_assoc]
  have h6 := hn.lo
  have h7 : f.a * f.c ≤ 400 := by omega
  have h8 : f.c ≤ f.a * f.c := by
    have := Int.mul_le_mul_of_nonneg_right h1 (show (0:Int) ≤ f.c by omega)
    omega
  omega
theorem row_sm {n : Int} (hn : Num n) : ∀ r ∈ prm n, ∀ x ∈ r, Sm x := by
  intro r hr x hx
  obtain ⟨f, rfl, hp, hg, hR, _⟩ := (mem_prm hn).mp hr
  obtain ⟨h1, h2, h3⟩ := red_b hn hp hg hR
  unfold Frm.row at hx
  simp only [List.mem_cons, List.not_mem_nil, or_false] at hx
  rcases hx with rfl | rfl | rfl <;> exact ⟨by omega, by omega⟩
theorem row_3 {n : Int} (hn : Num n) : ∀ r ∈ prm n, r.length ≤ 3 := by
  intro r hr
  obtain ⟨f, rfl, _⟩ := (mem_prm hn).mp hr
  exact Nat.le_refl _
theorem cls_800 {n : Int} (h : Num n) : (cls n).length ≤ 800 := by
  unfold cls clsU
  have key : ∀ l : List Int, (∀ a ∈ l, 1 ≤ a ∧ a ≤ 20) → (l.flatMap (clsA n)).length ≤ 40 * l.length := by
    intro l
    induction l with
    | nil => intro _; simp
    | cons a l ih =>
      intro q
      rw [List.flatMap_cons, List.length_append, List.length_cons]
      have := ih fun b hb => q b (List.mem_cons_of_mem _ hb)
      have := clsA_len (n := n) (a := a)
      have := q a List.mem_cons_self
      omega
  have hk := h.k20
  have := key (rgI 1 (rootN ((0 - n) / 3))) fun a ha => by have := mem_rgI.mp ha; omega
  rw [rg_len] at this
  omega
theorem prm_800 {n : Int} (h : Num n) : (prm n).length ≤ 800 := Nat.le_trans (List.length_filter_le _ _) (cls_800 h)
/-- the form of 1 -/
def unitF (n : Int) : Frm := ⟨1, n % 4, (n % 4 - n) / 4⟩
theorem unit_in {n : Int} (h : Num n) : (unitF n).row ∈ prm n := by
  have h1 := h.neg; have h2 := h.mod
  refine (mem_prm h).mpr ⟨unitF n, rfl, ⟨Int.le_refl 1, ?_⟩, ?_, ⟨?_, ?_, ?_, ?_⟩, ?_⟩
  · show n % 4 * (n % 4) - 4 * 1 * ((n % 4 - n) / 4) < 0
    rcases (show n % 4 = 0 ∨ n % 4 = 1 by omega) with e | e <;> rw [e] <;> omega
  · show n % 4 * (n % 4) - 4 * 1 * ((n % 4 - n) / 4) = n
    rcases (show n % 4 = 0 ∨ n % 4 = 1 by omega) with e | e <;> rw [e] <;> omega
  · show -1 < n % 4; omega
  · show n % 4 ≤ 1; omega
  · show 1 ≤ (n % 4 - n) / 4; omega
  · intro _; show 0 ≤ n % 4; omega
  · show gcdL [1, _, _] = 1
    simp [gcdL]
end K12
/-! K12, forms of two unknowns, 7: as gen/mkbase.py printed it. -/
namespace K12
open PySem DL
variable {M : Store}
theorem bez_nat : ∀ (n a b : Nat), a + b ≤ n → ∃ s t : Int, s * a + t * b = (Nat.gcd a b : Int) := by
  intro n
  induction n with
  | zero => intro a b h; exact ⟨0, 0, by have : a = 0 := by omega
                                         have : b = 0 := by omega
                                         subst_vars; simp⟩
  | succ n ih =>
    intro a b h
    rcases Nat.eq_zero_or_pos a with ha | ha
    · subst ha; exact ⟨0, 1, by simp⟩
    rcases Nat.eq_zero_or_pos b with hb | hb
    · subst hb; exact ⟨1, 0, by simp⟩
    rcases Nat.le_total a b with q | q
    · obtain ⟨s, t, e⟩ := ih a (b - a) (by omega)
      refine ⟨s - t, t, ?_⟩
      rw [Nat.gcd_sub_self_right q] at e
      have : ((b - a : Nat) : Int) = (b : Int) - a := by omega
      rw [← e, this]
      grind
    · obtain ⟨s, t, e⟩ := ih (a - b) b (by omega)
      refine ⟨s, t - s, ?_⟩
      rw [Nat.gcd_sub_self_left q] at e
      have : ((a - b : Nat) : Int) = (a : Int) - b := by omega
      rw [← e, this]
      grind
theorem bez (a b : Int) : ∃ s t : Int, s * a + t * b = (Int.gcd a b : Int) := by
  obtain ⟨s, t, e⟩ := bez_nat _ a.natAbs b.natAbs (Nat.le_refl _)
  have ha : a.natAbs = a ∨ a.natAbs = -a := by omega
  have hb : b.natAbs = b ∨ b.natAbs = -b := by omega
  have e2 : s * (a.natAbs : Int) + t * (b.natAbs : Int) = (Int.gcd a b : Int) := e
  rcases ha with ha | ha <;> rcases hb with hb | hb <;> rw [ha, hb] at e2
  · exact ⟨s, t, e2⟩
  · exact ⟨s, -t, by rw [← e2]; grind⟩
  · exact ⟨-s, t, by rw [← e2]; grind⟩
  · exact ⟨-s, -t, by rw [← e2]; grind⟩
theorem gcdL_eq {a b c : Int} : gcdL [a, b, c] = (Int.gcd (Int.gcd a b : Int) c : Int) := by
  simp only [gcdL, List.foldl_cons, List.foldl_nil]
  rw [Int.gcd_zero_left]
  congr 2
theorem bez3 {a b c : Int} (h : gcdL [a, b, c] = 1) : ∃ x y z : Int, x * a + y * b + z * c = 1 := by
  rw [gcdL_eq] at h
  obtain ⟨s, t, e⟩ := bez a b
  obtain ⟨p, q, e2⟩ := bez (Int.gcd a b : Int) c
  refine ⟨p * s, p * t, q, ?_⟩
  rw [← h, ← e2, ← e]
  grind
/-- two rows of four -/
structure M24 where
  x1 : Int
  x2 : Int
  x3 : Int
  x4 : Int
  y1 : Int
  y2 : Int
  y3 : Int
  y4 : Int
def M24.X (m : M24) (x y z w : Int) : Int := m.x1 * (x * z) + m.x2 * (x * w) + m.x3 * (y * z) + m.x4 * (y * w)
def M24.Y (m : M24) (x y z w : Int) : Int := m.y1 * (x * z) + m.y2 * (x * w) + m.y3 * (y * z) + m.y4 * (y * w)
/-- F at X, Y is f at x, y times g at z, w; and what the determinants of two columns are -/
structure Comp (f g F : Frm) (m : M24) : Prop where
  id : ∀ x y z w : Int, F.wo (m.X x y z w) (m.Y x y z w) = f.wo x y * g.wo z w
  p12 : m.x1 * m.y2 - m.x2 * m.y1 = f.a
  p34 : m.x3 * m.y4 - m.x4 * m.y3 = f.c
  dif : (m.x1 * m.y4 - m.x4 * m.y1) - (m.x2 * m.y3 - m.x3 * m.y2) = f.b
  p13 : m.x1 * m.y3 - m.x3 * m.y1 = g.a
  p24 : m.x2 * m.y4 - m.x4 * m.y2 = g.c
  sum : (m.x1 * m.y4 - m.x4 * m.y1) + (m.x2 * m.y3 - m.x3 * m.y2) = g.b
theorem wo_act (f : Frm) (u : Chg) (x y : Int) : (f.act u).wo x y = f.wo (x * u.p + y * u.r) (x * u.q + y * u.s) := by
  simp only [Frm.act, Frm.wo, worthF, midF]
  grind
theorem frm_of_wo {f g : Frm} (h : ∀ x y, f.wo x y = g.wo x y) : f = g := by
  have h1 := h 1 0
  have h2 := h 0 1
  have h3 := h 1 1
  simp only [Frm.wo, worthF] at h1 h2 h3
  apply Frm.ext <;> grind
theorem comp_det {A B A' B' P : Int} (h : A * B = A' * B') : A * B - A' * B' = 0 := by omega
/-- a form that is worth 0 on a grid of rank 2 is 0 -/
theorem frm_zero {G : Frm} {p q r s : Int} (hd : p * s - q * r ≠ 0) (h : ∀ x y : Int, G.wo (x * p + y * r) (x * q + y * s) = 0) : ∀ x y, G.wo x y = 0 := by
  intro x y
  have h1 := h (s * x - r * y) (p * y - q * x)
  have e1 : (s * x - r * y) * p + (p * y - q * x) * r = (p * s - q * r) * x := by grind
  have e2 : (s * x - r * y) * q + (p * y - q * x) * s = (p * s - q * r) * y := by grind
  rw [e1, e2] at h1
  have e3 : G.wo ((p * s - q * r) * x) ((p * s - q * r) * y) = (p * s - q * r) * ((p * s - q * r) * G.wo x y) := by
    simp only [Frm.wo, worthF]; grind
  rw [e3] at h1
  rcases Int.mul_eq_zero.mp h1 with z | z
  · exact absurd z hd
  · rcases Int.mul_eq_zero.mp z with z | z
    · exact absurd z hd
    · exact z
theorem row_id {zi zj zk xi xj xk yi yj yk : Int} (h : zk * (xi * yj - xj * yi) - zj * (xi * yk - xk * yi) + zi * (xj * yk - xk * yj) = 0) :
    zk * (xi * yj - xj * yi) = xk * (zi * yj - zj * yi) + yk * (xi * zj - xj * zi) := by grind
theorem row_idX {Xi Xj Xk Yi Yj Yk xi xj xk yi yj yk : Int} (eij : Xi * Yj - Xj * Yi = xi * yj - xj * yi) (eik : Xi * Yk - Xk * Yi = xi * yk - xk * yi) (ejk : Xj * Yk - Xk * Yj = xj * yk - xk * yj) :
    Xk * (xi * yj - xj * yi) = xk * (Xi * yj - Xj * yi) + yk * (xi * Xj - xj * Xi) := by
  refine row_id ?_
  rw [← eij, ← eik, ← ejk]
  grind
theorem row_idY {Xi Xj Xk Yi Yj Yk xi xj xk yi yj yk : Int} (eij : Xi * Yj - Xj * Yi = xi * yj - xj * yi) (eik : Xi * Yk - Xk * Yi = xi * yk - xk * yi) (ejk : Xj * Yk - Xk * Yj = xj * yk - xk * yj) :
    Yk * (xi * yj - xj * yi) = xk * (Yi * yj - Yj * yi) + yk * (xi * Yj - xj * Yi) := by
  refine row_id ?_
  rw [← eij, ← eik, ← ejk]
  grind
theorem row_sum {al be ga p12 p14 p23 p34 X x y a12 b12 a14 b14 a23 b23 a34 b34 : Int} (one : al * p12 + be * (p14 - p23) + ga * p34 = 1)
    (h12 : X * p12 = x * a12 + y * b12) (h14 : X * p14 = x * a14 + y * b14) (h23 : X * p23 = x * a23 + y * b23) (h34 : X * p34 = x * a34 + y * b34) :
    X = (al * a12 + be * (a14 - a23) + ga * a34) * x + (al * b12 + be * (b14 - b23) + ga * b34) * y := by
  have e : X = X * (al * p12 + be * (p14 - p23) + ga * p34) := by rw [one, Int.mul_one]
  have e2 : X * (al * p12 + be * (p14 - p23) + ga * p34) = al * (X * p12) + be * (X * p14 - X * p23) + ga * (X * p34) := by grind
  rw [e, e2, h12, h14, h23, h34]
  grind
theorem e_self {a b : Int} : a * b - a * b = 0 := by omega
/-- all that f and g make together is one class -/
theorem comp_unique {f g F G : Frm} {m n : M24} (hf : gcdL [f.a, f.b, f.c] = 1) (hfa : f.a ≠ 0) (hg : g.a ≠ 0) (h : Comp f g F m) (k : Comp f g G n) : ∃ u : Chg, u.det = 1 ∧ F = G.act u := by
  obtain ⟨al, be, ga, eb⟩ := bez3 hf
  -- n = U m
  obtain ⟨x1, x2, x3, x4, y1, y2, y3, y4⟩ := m
  obtain ⟨X1, X2, X3, X4, Y1, Y2, Y3, Y4⟩ := n
  obtain ⟨hid, h12, h34, hdif, h13, h24, hsum⟩ := h
  obtain ⟨kid, k12, k34, kdif, k13, k24, ksum⟩ := k
  simp only at h12 h34 hdif h13 h24 hsum k12 k34 kdif k13 k24 ksum
  have e14 : X1 * Y4 - X4 * Y1 = x1 * y4 - x4 * y1 := by omega
  have e23 : X2 * Y3 - X3 * Y2 = x2 * y3 - x3 * y2 := by omega
  have e12 : X1 * Y2 - X2 * Y1 = x1 * y2 - x2 * y1 := by omega
  have e34 : X3 * Y4 - X4 * Y3 = x3 * y4 - x4 * y3 := by omega
  have e13 : X1 * Y3 - X3 * Y1 = x1 * y3 - x3 * y1 := by omega
  have e24 : X2 * Y4 - X4 * Y2 = x2 * y4 - x4 * y2 := by omega
  have e21 : X2 * Y1 - X1 * Y2 = x2 * y1 - x1 * y2 := by omega
  have e41 : X4 * Y1 - X1 * Y4 = x4 * y1 - x1 * y4 := by omega
  have e31 : X3 * Y1 - X1 * Y3 = x3 * y1 - x1 * y3 := by omega
  have e32 : X3 * Y2 - X2 * Y3 = x3 * y2 - x2 * y3 := by omega
  have e42 : X4 * Y2 - X2 * Y4 = x4 * y2 - x2 * y4 := by omega
  have e43 : X4 * Y3 - X3 * Y4 = x4 * y3 - x3 * y4 := by omega
  have e11 : X1 * Y1 - X1 * Y1 = x1 * y1 - x1 * y1 := by omega
  have e22 : X2 * Y2 - X2 * Y2 = x2 * y2 - x2 * y2 := by omega
  have e33 : X3 * Y3 - X3 * Y3 = x3 * y3 - x3 * y3 := by omega
  have e44 : X4 * Y4 - X4 * Y4 = x4 * y4 - x4 * y4 := by omega
  have one : al * (x1 * y2 - x2 * y1) + be * ((x1 * y4 - x4 * y1) - (x2 * y3 - x3 * y2)) + ga * (x3 * y4 - x4 * y3) = 1 := by rw [h12, hdif, h34]; exact eb
  have a1 := row_sum one (row_idX e12 e11 e21) (row_idX e14 e11 e41) (row_idX e23 e21 e31) (row_idX e34 e31 e41)
  have a2 := row_sum one (row_idX e12 e12 e22) (row_idX e14 e12 e42) (row_idX e23 e22 e32) (row_idX e34 e32 e42)
  have a3 := row_sum one (row_idX e12 e13 e23) (row_idX e14 e13 e43) (row_idX e23 e23 e33) (row_idX e34 e33 e43)
  have a4 := row_sum one (row_idX e12 e14 e24) (row_idX e14 e14 e44) (row_idX e23 e24 e34) (row_idX e34 e34 e44)
  have b1 := row_sum one (row_idY e12 e11 e21) (row_idY e14 e11 e41) (row_idY e23 e21 e31) (row_idY e34 e31 e41)
  have b2 := row_sum one (row_idY e12 e12 e22) (row_idY e14 e12 e42) (row_idY e23 e22 e32) (row_idY e34 e32 e42)
  have b3 := row_sum one (row_idY e12 e13 e23) (row_idY e14 e13 e43) (row_idY e23 e23 e33) (row_idY e34 e33 e43)
  have b4 := row_sum one (row_idY e12 e14 e24) (row_idY e14 e14 e44) (row_idY e23 e24 e34) (row_idY e34 e34 e44)
  revert a1 a2 a3 a4 b1 b2 b3 b4
  generalize (al * (X1 * y2 - X2 * y1) + be * (X1 * y4 - X4 * y1 - (X2 * y3 - X3 * y2)) + ga * (X3 * y4 - X4 * y3)) = U11
  generalize (al * (x1 * X2 - x2 * X1) + be * (x1 * X4 - x4 * X1 - (x2 * X3 - x3 * X2)) + ga * (x3 * X4 - x4 * X3)) = U12
  generalize (al * (Y1 * y2 - Y2 * y1) + be * (Y1 * y4 - Y4 * y1 - (Y2 * y3 - Y3 * y2)) + ga * (Y3 * y4 - Y4 * y3)) = U21
  generalize (al * (x1 * Y2 - x2 * Y1) + be * (x1 * Y4 - x4 * Y1 - (x2 * Y3 - x3 * Y2)) + ga * (x3 * Y4 - x4 * Y3)) = U22
  intro a1 a2 a3 a4 b1 b2 b3 b4
  clear eb one e14 e23 e13 e24 e34 e21 e41 e31 e32 e42 e43 e11 e22 e33 e44
  refine ⟨⟨U11, U21, U12, U22⟩, ?_, ?_⟩
  · -- the determinant
    show U11 * U22 - U21 * U12 = 1
    have e : (U11 * U22 - U21 * U12) * f.a = f.a := by
      rw [← h12]
      have : X1 * Y2 - X2 * Y1 = (U11 * U22 - U21 * U12) * (x1 * y2 - x2 * y1) := by
        rw [a1, a2, b1, b2]
        clear a1 a2 a3 a4 b1 b2 b3 b4
        grind
      rw [← this, k12, h12]
    have e2 : ((U11 * U22 - U21 * U12) - 1) * f.a = 0 := by rw [Int.sub_mul, e]; omega
    rcases Int.mul_eq_zero.mp e2 with z | z
    · omega
    · exact absurd z hfa
  · -- F is G changed
    have hz : ∀ x y : Int, (G.act ⟨U11, U21, U12, U22⟩).wo (x * x1 + y * x3) (x * y1 + y * y3) = F.wo (x * x1 + y * x3) (x * y1 + y * y3) := by
      intro x y
      rw [wo_act]
      have h1 := hid x y 1 0
      have k1 := kid x y 1 0
      rw [← h1] at k1
      have eX : M24.X ⟨X1, X2, X3, X4, Y1, Y2, Y3, Y4⟩ x y 1 0 = (x * x1 + y * x3) * U11 + (x * y1 + y * y3) * U12 := by
        simp only [M24.X]
        rw [a1, a3]
        clear a1 a2 a3 a4 b1 b2 b3 b4
        grind
      have eY : M24.Y ⟨X1, X2, X3, X4, Y1, Y2, Y3, Y4⟩ x y 1 0 = (x * x1 + y * x3) * U21 + (x * y1 + y * y3) * U22 := by
        simp only [M24.Y]
        rw [b1, b3]
        clear a1 a2 a3 a4 b1 b2 b3 b4
        grind
      have fX : M24.X ⟨x1, x2, x3, x4, y1, y2, y3, y4⟩ x y 1 0 = x * x1 + y * x3 := by
        simp only [M24.X]; grind
      have fY : M24.Y ⟨x1, x2, x3, x4, y1, y2, y3, y4⟩ x y 1 0 = x * y1 + y * y3 := by
        simp only [M24.Y]; grind
      rw [eX, eY, fX, fY] at k1
      exact k1
    have hd : x1 * y3 - y1 * x3 ≠ 0 := by rw [Int.mul_comm y1 x3, h13]; exact hg
    obtain ⟨H, hH⟩ : ∃ H : Frm, H = ⟨(G.act ⟨U11, U21, U12, U22⟩).a - F.a, (G.act ⟨U11, U21, U12, U22⟩).b - F.b, (G.act ⟨U11, U21, U12, U22⟩).c - F.c⟩ := ⟨_, rfl⟩
    have hw : ∀ x y, H.wo x y = (G.act ⟨U11, U21, U12, U22⟩).wo x y - F.wo x y := by
      intro x y
      rw [hH]
      simp only [Frm.wo, worthF]
      generalize G.act ⟨U11, U21, U12, U22⟩ = G'
      grind
    have := frm_zero (G := H) hd (fun x y => by rw [hw, hz]; omega)
    refine (frm_of_wo fun x y => ?_)
    have := this x y
    rw [hw] at this
    omega
end K12
/-! K12, forms of two unknowns, 8: as gen/mkbase.py printed it. -/
namespace K12
open PySem DL
variable {M : Store}
theorem cop_dvd {d a b : Int} (h : d ∣ a * b) (hg : Int.gcd d a = 1) : d ∣ b := by
  have h1 : d.natAbs ∣ a.natAbs * b.natAbs := by rw [← Int.natAbs_mul]; exact Int.natAbs_dvd_natAbs.mpr h
  exact Int.natAbs_dvd_natAbs.mp (Nat.Coprime.dvd_of_dvd_mul_left (show Nat.Coprime d.natAbs a.natAbs from hg) h1)
/-- one class by changes of determinant 1 -/
def Cl (f g : Frm) : Prop := ∃ u : Chg, u.det = 1 ∧ g = f.act u
theorem Cl.refl (f : Frm) : Cl f f := ⟨.one, rfl, (act_one f).symm⟩
theorem Cl.symm {f g : Frm} (h : Cl f g) : Cl g f := by
  obtain ⟨u, hu, rfl⟩ := h
  exact ⟨u.inv, by rw [det_inv]; exact hu, (act_inv f u hu).symm⟩
theorem Cl.trans {f g h : Frm} (a : Cl f g) (b : Cl g h) : Cl f h := by
  obtain ⟨u, hu, rfl⟩ := a
  obtain ⟨v, hv, rfl⟩ := b
  exact ⟨v.mul u, by rw [det_mul, hu, hv]; rfl, act_act f u v⟩
theorem Cl.pos {f g : Frm} (h : Cl f g) (p : f.pos) : g.pos := by
  obtain ⟨u, hu, rfl⟩ := h; exact pos_act p hu
theorem Cl.gap {f g : Frm} (h : Cl f g) : g.gap = f.gap := by
  obtain ⟨u, hu, rfl⟩ := h; rw [gap_act, hu]; omega
def Frm.prim (f : Frm) : Prop := gcdL [f.a, f.b, f.c] = 1
theorem Cl.prim {f g : Frm} (h : Cl f g) (p : f.prim) : g.prim := by
  obtain ⟨u, hu, rfl⟩ := h; exact prim_act hu p
theorem Cl.red {f g : Frm} (h : Cl f g) (p : f.pos) (r : Red f) (s : Red g) : g = f := by
  obtain ⟨u, hu, e⟩ := h; exact unique r s p hu e
def M24.swap (m : M24) : M24 := ⟨m.x1, m.x3, m.x2, m.x4, m.y1, m.y3, m.y2, m.y4⟩
def M24.left (m : M24) (u : Chg) : M24 := ⟨u.p * m.x1 + u.q * m.x3, u.p * m.x2 + u.q * m.x4, u.r * m.x1 + u.s * m.x3, u.r * m.x2 + u.s * m.x4, u.p * m.y1 + u.q * m.y3, u.p * m.y2 + u.q * m.y4, u.r * m.y1 + u.s * m.y3, u.r * m.y2 + u.s * m.y4⟩
def M24.front (m : M24) (u : Chg) : M24 := ⟨u.s * m.x1 - u.r * m.y1, u.s * m.x2 - u.r * m.y2, u.s * m.x3 - u.r * m.y3, u.s * m.x4 - u.r * m.y4, u.p * m.y1 - u.q * m.x1, u.p * m.y2 - u.q * m.x2, u.p * m.y3 - u.q * m.x3, u.p * m.y4 - u.q * m.x4⟩
theorem swap_X (m : M24) (x y z w : Int) : m.swap.X z w x y = m.X x y z w := by simp only [M24.X, M24.swap]; grind
theorem swap_Y (m : M24) (x y z w : Int) : m.swap.Y z w x y = m.Y x y z w := by simp only [M24.Y, M24.swap]; grind
theorem Comp.swap {f g F : Frm} {m : M24} (h : Comp f g F m) : Comp g f F m.swap := by
  obtain ⟨h0, h1, h2, h3, h4, h5, h6⟩ := h
  refine ⟨fun x y z w => ?_, ?_, ?_, ?_, ?_, ?_, ?_⟩
  · rw [swap_X, swap_Y, h0, Int.mul_comm]
  all_goals (simp only [M24.swap]; omega)
theorem Comp.left {f g F : Frm} {m : M24} (h : Comp f g F m) {u : Chg} (hu : u.det = 1) : Comp (f.act u) g F (m.left u) := by
  obtain ⟨h0, h1, h2, h3, h4, h5, h6⟩ := h
  have eX : ∀ x y z w : Int, (m.left u).X x y z w = m.X (x * u.p + y * u.r) (x * u.q + y * u.s) z w := fun x y z w => by simp only [M24.X, M24.left]; grind
  have eY : ∀ x y z w : Int, (m.left u).Y x y z w = m.Y (x * u.p + y * u.r) (x * u.q + y * u.s) z w := fun x y z w => by simp only [M24.Y, M24.left]; grind
  have hu : u.p * u.s - u.q * u.r = 1 := hu
  refine ⟨fun x y z w => by rw [eX, eY, h0, wo_act], ?_, ?_, ?_, ?_, ?_, ?_⟩
  · simp only [M24.left, Frm.act, Frm.wo, worthF]
    rw [← h1, ← h2, ← h3]; clear h0 h1 h2 h3 h4 h5 h6 eX eY; grind
  · simp only [M24.left, Frm.act, Frm.wo, worthF]
    rw [← h1, ← h2, ← h3]; clear h0 h1 h2 h3 h4 h5 h6 eX eY; grind
  · simp only [M24.left, Frm.act, midF]
    rw [← h1, ← h2, ← h3]; clear h0 h1 h2 h3 h4 h5 h6 eX eY; grind
  · simp only [M24.left]
    have e : (u.p * m.x1 + u.q * m.x3) * (u.r * m.y1 + u.s * m.y3) - (u.r * m.x1 + u.s * m.x3) * (u.p * m.y1 + u.q * m.y3) = (u.p * u.s - u.q * u.r) * (m.x1 * m.y3 - m.x3 * m.y1) := by clear hu h0 h1 h2 h3 h4 h5 h6 eX eY; grind
    rw [e, hu, h4, Int.one_mul]
  · simp only [M24.left]
    have e : (u.p * m.x2 + u.q * m.x4) * (u.r * m.y2 + u.s * m.y4) - (u.r * m.x2 + u.s * m.x4) * (u.p * m.y2 + u.q * m.y4) = (u.p * u.s - u.q * u.r) * (m.x2 * m.y4 - m.x4 * m.y2) := by clear hu h0 h1 h2 h3 h4 h5 h6 eX eY; grind
    rw [e, hu, h5, Int.one_mul]
  · simp only [M24.left]
    have e : (u.p * m.x1 + u.q * m.x3) * (u.r * m.y2 + u.s * m.y4) - (u.r * m.x2 + u.s * m.x4) * (u.p * m.y1 + u.q * m.y3) + ((u.p * m.x2 + u.q * m.x4) * (u.r * m.y1 + u.s * m.y3) - (u.r * m.x1 + u.s * m.x3) * (u.p * m.y2 + u.q * m.y4)) = (u.p * u.s - u.q * u.r) * ((m.x1 * m.y4 - m.x4 * m.y1) + (m.x2 * m.y3 - m.x3 * m.y2)) := by clear hu h0 h1 h2 h3 h4 h5 h6 eX eY; grind
    rw [e, hu, h6, Int.one_mul]
theorem Comp.right {f g F : Frm} {m : M24} (h : Comp f g F m) {u : Chg} (hu : u.det = 1) : Comp f (g.act u) F (m.swap.left u).swap := (h.swap.left hu).swap
theorem Comp.front {f g F : Frm} {m : M24} (h : Comp f g F m) {u : Chg} (hu : u.det = 1) : Comp f g (F.act u) (m.front u) := by
  obtain ⟨h0, h1, h2, h3, h4, h5, h6⟩ := h
  have hu : u.p * u.s - u.q * u.r = 1 := hu
  have key : ∀ a b c d : Int, (u.s * a - u.r * b) * (u.p * d - u.q * c) - (u.s * c - u.r * d) * (u.p * b - u.q * a) = a * d - c * b := by
    intro a b c d
    have : (u.s * a - u.r * b) * (u.p * d - u.q * c) - (u.s * c - u.r * d) * (u.p * b - u.q * a) = (u.p * u.s - u.q * u.r) * (a * d - c * b) := by clear hu h0 h1 h2 h3 h4 h5 h6; grind
    rw [this, hu, Int.one_mul]
  refine ⟨fun x y z w => ?_, ?_, ?_, ?_, ?_, ?_, ?_⟩
  · rw [wo_act]
    have eX : (m.front u).X x y z w = u.s * m.X x y z w - u.r * m.Y x y z w := by simp only [M24.X, M24.Y, M24.front]; grind
    have eY : (m.front u).Y x y z w = u.p * m.Y x y z w - u.q * m.X x y z w := by simp only [M24.X, M24.Y, M24.front]; grind
    rw [eX, eY, ← h0]
    generalize m.X x y z w = X
    generalize m.Y x y z w = Y
    have e1 : (u.s * X - u.r * Y) * u.p + (u.p * Y - u.q * X) * u.r = (u.p * u.s - u.q * u.r) * X := by clear hu h0 h1 h2 h3 h4 h5 h6; grind
    have e2 : (u.s * X - u.r * Y) * u.q + (u.p * Y - u.q * X) * u.s = (u.p * u.s - u.q * u.r) * Y := by clear hu h0 h1 h2 h3 h4 h5 h6; grind
    rw [e1, e2, hu, Int.one_mul, Int.one_mul]
  · simp only [M24.front]; rw [key]; exact h1
  · simp only [M24.front]; rw [key]; exact h2
  · simp only [M24.front]; rw [key, key]; exact h3
  · simp only [M24.front]; rw [key]; exact h4
  · simp only [M24.front]; rw [key]; exact h5
  · simp only [M24.front]; rw [key, key]; exact h6
/-- united forms (Dirichlet) -/
def dirM (a a' b c : Int) : M24 := ⟨1, 0, 0, 0 - c, 0, a, a', b⟩
theorem comp_dir (a a' b c : Int) : Comp ⟨a, b, a' * c⟩ ⟨a', b, a * c⟩ ⟨a * a', b, c⟩ (dirM a a' b c) := by
  refine ⟨fun x y z w => ?_, ?_, ?_, ?_, ?_, ?_, ?_⟩
  · simp only [dirM, M24.X, M24.Y, Frm.wo, worthF]; grind
  all_goals (simp only [dirM]; grind)
/-- what is put together is told by the classes -/
theorem comp_cl {f g F f' g' F' : Frm} {m m' : M24} (hp : f.prim) (pf : f.pos) (pg : g.pos) (h : Comp f g F m) (h' : Comp f' g' F' m') (a : Cl f f') (b : Cl g g') : Cl F F' := by
  obtain ⟨u, hu, rfl⟩ := a
  obtain ⟨v, hv, rfl⟩ := b
  have k := (h.left hu).right hv
  have p2 := pos_act pf hu
  have p3 := pos_act pg hv
  obtain ⟨w, hw, e⟩ := comp_unique (prim_act hu hp) (by have := p2.1; omega) (by have := p3.1; omega) h' k
  exact ⟨w, hw, e⟩
theorem united_prim {a a' b c : Int} (h1 : (⟨a, b, a' * c⟩ : Frm).prim) (h2 : (⟨a', b, a * c⟩ : Frm).prim) : (⟨a * a', b, c⟩ : Frm).prim := by
  have hd := gcdL_l (a := a * a') (b := b) (c := c)
  show gcdL [a * a', b, c] = 1
  have hn := gcdL_nn (a := a * a') (b := b) (c := c)
  generalize gcdL [a * a', b, c] = d at hd hn
  obtain ⟨d1, d2, d3⟩ := hd
  have h1 : gcdL [a, b, a' * c] = 1 := h1
  have h2 : gcdL [a', b, a * c] = 1 := h2
  have e1 : (Int.gcd d a : Int) ∣ gcdL [a, b, a' * c] := dvd_gcdL (Int.gcd_dvd_right ..) (Int.dvd_trans (Int.gcd_dvd_left ..) d2) (Int.dvd_trans (Int.dvd_trans (Int.gcd_dvd_left ..) d3) (Int.dvd_mul_left ..))
  rw [h1] at e1
  have g1 : Int.gcd d a = 1 := by
    have := Int.eq_one_of_dvd_one (by omega) e1
    omega
  have e2 : d ∣ a' := cop_dvd d1 g1
  have e3 : d ∣ gcdL [a', b, a * c] := dvd_gcdL e2 d2 (Int.dvd_trans d3 (Int.dvd_mul_left ..))
  rw [h2] at e3
  exact Int.eq_one_of_dvd_one hn e3
theorem act_sh (g : Frm) (k : Int) : g.act ⟨1, 0, k, 1⟩ = ⟨g.a, g.b + 2 * g.a * k, g.c + k * g.b + k * k * g.a⟩ := by
  apply Frm.ext <;> simp only [Frm.act, Frm.wo, worthF, midF] <;> grind
theorem det_sh (k : Int) : (⟨1, 0, k, 1⟩ : Chg).det = 1 := by simp [Chg.det]
/-- two forms of one gap, their first numbers without a common divisor, shifted to one middle -/
theorem unite {f g : Frm} (hgap : f.gap = g.gap) {n : Int} (hn : f.gap = n) (hb : f.b = g.b) (ha : f.a ≠ 0) (ha' : g.a ≠ 0) (hc : Int.gcd f.a g.a = 1) :
    f = ⟨f.a, f.b, g.a * ((f.b * f.b - n) / (4 * f.a * g.a))⟩ ∧ g = ⟨g.a, f.b, f.a * ((f.b * f.b - n) / (4 * f.a * g.a))⟩ := by
  have h1 : f.b * f.b - 4 * f.a * f.c = n := hn
  have h2 : g.b * g.b - 4 * g.a * g.c = n := by rw [← hn, hgap]; rfl
  rw [← hb] at h2
  have e : f.a * f.c = g.a * g.c := by
    have e1 : 4 * f.a * f.c = 4 * (f.a * f.c) := by grind
    have e2 : 4 * g.a * g.c = 4 * (g.a * g.c) := by grind
    omega
  have d : g.a ∣ f.c := cop_dvd (a := f.a) ⟨g.c, e⟩ (by rw [Int.gcd_comm]; exact hc)
  obtain ⟨c, hcc⟩ := d
  have hg : g.c = f.a * c := by
    rw [hcc] at e
    have : g.a * (f.a * c) = g.a * g.c := by rw [← e]; grind
    exact (Int.eq_of_mul_eq_mul_left ha' this).symm
  have hq : (f.b * f.b - n) / (4 * f.a * g.a) = c := by
    have : f.b * f.b - n = 4 * f.a * g.a * c := by rw [← h1, hcc]; grind
    rw [this]
    exact Int.mul_ediv_cancel_left _ (by
      intro z
      rcases Int.mul_eq_zero.mp z with z | z
      · omega
      · exact ha' z)
  rw [hq]
  exact ⟨Frm.ext rfl rfl hcc, Frm.ext rfl hb.symm hg⟩
end K12
/-! K12, forms of two unknowns, 9: as gen/mkbase.py printed it. -/
namespace K12
open PySem DL
variable {M : Store}
theorem cop_split (a : Nat) : ∀ (n : Nat), 1 ≤ n → ∃ n1 n2 k : Nat, n = n1 * n2 ∧ Nat.Coprime n1 a ∧ n2 ∣ a ^ k := by
  intro n
  induction n using Nat.strongRecOn with
  | ind n ih =>
    intro hn
    by_cases h : Nat.gcd n a = 1
    · exact ⟨n, 1, 0, by omega, h, Nat.one_dvd _⟩
    · obtain ⟨n', e⟩ := Nat.gcd_dvd_left n a
      have hg : 0 < Nat.gcd n a := Nat.gcd_pos_of_pos_left _ hn
      have hn' : 1 ≤ n' := by
        rcases Nat.eq_zero_or_pos n' with z | z
        · subst z; omega
        · exact z
      have hlt : n' < n := by
        have : 2 * n' ≤ Nat.gcd n a * n' := Nat.mul_le_mul_right _ (by omega)
        omega
      obtain ⟨n1, n2, k, e1, h1, h2⟩ := ih n' hlt hn'
      refine ⟨n1, Nat.gcd n a * n2, k + 1, ?_, h1, ?_⟩
      · rw [Nat.mul_left_comm, ← e1]; exact e
      · rw [Nat.pow_succ, Nat.mul_comm]
        exact Nat.mul_dvd_mul h2 (Nat.gcd_dvd_right n a)
theorem gcd1_of {d n : Nat} (h : ∀ e : Nat, e ∣ d → e ∣ n → e = 1) : Nat.gcd d n = 1 := h _ (Nat.gcd_dvd_left ..) (Nat.gcd_dvd_right ..)
theorem cop_of_pow {e a k : Nat} (h : e ∣ a ^ k) (hg : Nat.Coprime e a) : e = 1 := by
  have : Nat.Coprime e (a ^ k) := Nat.Coprime.pow_right k hg
  exact Nat.Coprime.eq_one_of_dvd this h
theorem cop_pows {x y a k : Nat} (h : x ∣ a ^ k) (hg : Nat.Coprime y a) : Nat.Coprime x y := by
  have : Nat.Coprime (a ^ k) y := (Nat.Coprime.pow_right k hg).symm
  exact Nat.Coprime.coprime_dvd_left h this
/-- a worth without a common divisor with n -/
theorem cop_worth {a c n : Nat} {b : Int} (hp : gcdL [(a : Int), b, (c : Int)] = 1) (hn : 1 ≤ n) :
    ∃ x y : Nat, x ≤ n ∧ y ≤ n ∧ 1 ≤ x + y ∧ Nat.gcd x y = 1 ∧ Int.gcd ((a : Int) * x * x + b * x * y + c * y * y) n = 1 := by
  obtain ⟨n1, n2, k, e1, h1, h2⟩ := cop_split a n hn
  have hn2 : 1 ≤ n2 := by
    rcases Nat.eq_zero_or_pos n2 with z | z
    · subst z; omega
    · exact z
  have hn1 : 1 ≤ n1 := by
    rcases Nat.eq_zero_or_pos n1 with z | z
    · subst z; omega
    · exact z
  obtain ⟨m1, m2, j, e2, h3, h4⟩ := cop_split c n2 hn2
  have hm1 : 1 ≤ m1 := by
    rcases Nat.eq_zero_or_pos m1 with z | z
    · subst z; omega
    · exact z
  have dm1 : m1 ∣ n2 := ⟨m2, e2⟩
  have dm2 : m2 ∣ n2 := ⟨m1, by rw [e2, Nat.mul_comm]⟩
  have c1 : Nat.Coprime m1 n1 := cop_pows (Nat.dvd_trans dm1 h2) h1
  have c2 : Nat.Coprime m2 n1 := cop_pows (Nat.dvd_trans dm2 h2) h1
  have c3 : Nat.Coprime m2 m1 := cop_pows h4 h3
  refine ⟨m1, n1, ?_, ?_, by omega, c1, ?_⟩
  · exact Nat.le_of_dvd hn (Nat.dvd_trans dm1 ⟨n1, by rw [e1, Nat.mul_comm]⟩)
  · exact Nat.le_of_dvd hn ⟨n2, e1⟩
  · -- the three parts of n
    generalize hv : ((a : Int) * m1 * m1 + b * m1 * n1 + c * n1 * n1) = v
    have hv := hv.symm
    have g1 : Nat.Coprime v.natAbs n1 := gcd1_of fun e h5 h6 => by
      have i5 : (e : Int) ∣ v := Int.ofNat_dvd_left.mpr h5
      have i6 : (e : Int) ∣ (n1 : Int) := Int.natCast_dvd_natCast.mpr h6
      have i7 : (e : Int) ∣ ((a * m1 * m1 : Nat) : Int) := by
        have : ((a * m1 * m1 : Nat) : Int) = v - (b * m1 + c * n1) * n1 := by
          rw [hv]; push_cast; grind
        rw [this]
        exact Int.dvd_sub i5 (Int.dvd_trans i6 (Int.dvd_mul_left ..))
      have i8 : e ∣ a * m1 * m1 := Int.natCast_dvd_natCast.mp i7
      have j1 : Nat.Coprime e (a * m1 * m1) := by
        have k1 : Nat.Coprime e a := Nat.Coprime.coprime_dvd_left h6 h1
        have k2 : Nat.Coprime e m1 := Nat.Coprime.coprime_dvd_left h6 c1.symm
        exact Nat.Coprime.mul_right (Nat.Coprime.mul_right k1 k2) k2
      exact Nat.Coprime.eq_one_of_dvd j1 i8
    have g2 : Nat.Coprime v.natAbs m1 := gcd1_of fun e h5 h6 => by
      have i5 : (e : Int) ∣ v := Int.ofNat_dvd_left.mpr h5
      have i6 : (e : Int) ∣ (m1 : Int) := Int.natCast_dvd_natCast.mpr h6
      have i7 : (e : Int) ∣ ((c * n1 * n1 : Nat) : Int) := by
        have : ((c * n1 * n1 : Nat) : Int) = v - (a * m1 + b * n1) * m1 := by
          rw [hv]; push_cast; grind
        rw [this]
        exact Int.dvd_sub i5 (Int.dvd_trans i6 (Int.dvd_mul_left ..))
      have i8 : e ∣ c * n1 * n1 := Int.natCast_dvd_natCast.mp i7
      have j1 : Nat.Coprime e (c * n1 * n1) := by
        have k1 : Nat.Coprime e c := Nat.Coprime.coprime_dvd_left h6 h3
        have k2 : Nat.Coprime e n1 := Nat.Coprime.coprime_dvd_left h6 c1
        exact Nat.Coprime.mul_right (Nat.Coprime.mul_right k1 k2) k2
      exact Nat.Coprime.eq_one_of_dvd j1 i8
    have g3 : Nat.Coprime v.natAbs m2 := gcd1_of fun e h5 h6 => by
      -- what e has in common with a and c
      have k1 : Nat.gcd (Nat.gcd e a) c = 1 := by
        generalize hd : Nat.gcd (Nat.gcd e a) c = d
        have d1 : d ∣ Nat.gcd e a := by rw [← hd]; exact Nat.gcd_dvd_left ..
        have d2 : d ∣ c := by rw [← hd]; exact Nat.gcd_dvd_right ..
        have d3 : d ∣ e := Nat.dvd_trans d1 (Nat.gcd_dvd_left ..)
        have d4 : d ∣ a := Nat.dvd_trans d1 (Nat.gcd_dvd_right ..)
        have i5 : (d : Int) ∣ v := Int.ofNat_dvd_left.mpr (Nat.dvd_trans d3 h5)
        have i7 : (d : Int) ∣ ((m1 * n1 : Nat) : Int) * b := by
          have : ((m1 * n1 : Nat) : Int) * b = v - a * (m1 * m1) - c * (n1 * n1) := by
            rw [hv]; push_cast; grind
          rw [this]
          exact Int.dvd_sub (Int.dvd_sub i5 (Int.dvd_trans (Int.natCast_dvd_natCast.mpr d4) (Int.dvd_mul_right ..))) (Int.dvd_trans (Int.natCast_dvd_natCast.mpr d2) (Int.dvd_mul_right ..))
        have q1 : Nat.Coprime d m1 := Nat.Coprime.coprime_dvd_left (Nat.dvd_trans d3 h6) c3
        have q2 : Nat.Coprime d n1 := Nat.Coprime.coprime_dvd_left (Nat.dvd_trans d3 h6) c2
        have i8 : (d : Int) ∣ b := cop_dvd i7 (show Nat.gcd _ _ = 1 by
          show Nat.gcd d (m1 * n1) = 1
          exact Nat.Coprime.mul_right q1 q2)
        have := dvd_gcdL (Int.natCast_dvd_natCast.mpr d4) i8 (Int.natCast_dvd_natCast.mpr d2)
        rw [hp] at this
        have := Int.eq_one_of_dvd_one (by omega) this
        omega
      have k2 : Nat.gcd e a = 1 := by
        refine cop_of_pow (k := j) ?_ k1
        exact Nat.dvd_trans (Nat.gcd_dvd_left ..) (Nat.dvd_trans h6 h4)
      exact cop_of_pow (Nat.dvd_trans h6 (Nat.dvd_trans dm2 h2)) k2
    show Nat.gcd v.natAbs n = 1
    rw [e1, e2]
    exact Nat.Coprime.mul_right g1 (Nat.Coprime.mul_right g2 g3)
/-- a form of the class whose first number has no common divisor with n -/
theorem cop_form {f : Frm} (hp : f.pos) (h1 : f.prim) {n : Int} (hn : 1 ≤ n) : ∃ u : Chg, u.det = 1 ∧ Int.gcd (f.act u).a n = 1 := by
  have hc := pos_c hp
  have ha := hp.1
  have ea : ((f.a.toNat : Nat) : Int) = f.a := by omega
  have ec : ((f.c.toNat : Nat) : Int) = f.c := by omega
  have en : ((n.toNat : Nat) : Int) = n := by omega
  obtain ⟨x, y, _, _, _, hg, h⟩ := cop_worth (a := f.a.toNat) (c := f.c.toNat) (n := n.toNat) (b := f.b) (by rw [ea, ec]; exact h1) (by omega)
  rw [ea, ec, en] at h
  obtain ⟨s, t, e⟩ := bez x y
  have hg' : Int.gcd (x : Int) (y : Int) = 1 := hg
  rw [hg'] at e
  refine ⟨⟨x, y, -t, s⟩, ?_, h⟩
  show (x : Int) * s - y * (-t) = 1
  rw [Int.mul_neg, Int.sub_neg, Int.mul_comm (x : Int), Int.mul_comm (y : Int)]
  exact e
theorem gap_par {f g : Frm} (h : f.gap = g.gap) : (g.b - f.b) % 2 = 0 := by
  have h1 : f.b * f.b - 4 * f.a * f.c = g.b * g.b - 4 * g.a * g.c := h
  have e1 : 4 * f.a * f.c = 4 * (f.a * f.c) := by grind
  have e2 : 4 * g.a * g.c = 4 * (g.a * g.c) := by grind
  have h2 : (f.b * f.b) % 2 = (g.b * g.b) % 2 := by omega
  rcases (show f.b % 2 = 0 ∨ f.b % 2 = 1 by omega) with z | z <;> rcases (show g.b % 2 = 0 ∨ g.b % 2 = 1 by omega) with w | w
  · omega
  · rw [Int.mul_emod, z, Int.mul_emod g.b, w] at h2; simp at h2
  · rw [Int.mul_emod, z, Int.mul_emod g.b, w] at h2; simp at h2
  · omega
/-- shifts that make one middle of two -/
theorem shifts {a a' b b' : Int} (hg : Int.gcd a a' = 1) (hb : (b' - b) % 2 = 0) : ∃ k l : Int, b + 2 * a * k = b' + 2 * a' * l := by
  obtain ⟨s, t, e⟩ := bez a a'
  rw [hg] at e
  have e : s * a + t * a' = 1 := e
  obtain ⟨d, hd⟩ : ∃ d, b' - b = 2 * d := ⟨(b' - b) / 2, by omega⟩
  refine ⟨s * d, -(t * d), ?_⟩
  have : d = d * (s * a + t * a') := by rw [e, Int.mul_one]
  have e2 : b' - b = 2 * (d * (s * a + t * a')) := by rw [← this]; exact hd
  grind
theorem same_c {f g : Frm} (ha : f.a = g.a) (hb : f.b = g.b) (hg : f.gap = g.gap) (h0 : f.a ≠ 0) : f = g := by
  refine Frm.ext ha hb ?_
  have : f.b * f.b - 4 * f.a * f.c = g.b * g.b - 4 * g.a * g.c := hg
  rw [← ha, ← hb] at this
  have : 4 * f.a * f.c = 4 * f.a * g.c := by omega
  exact Int.eq_of_mul_eq_mul_left (show 4 * f.a ≠ 0 by omega) this
theorem gcd_mul1 {a b c : Int} (h1 : Int.gcd a c = 1) (h2 : Int.gcd b c = 1) : Int.gcd (a * b) c = 1 := by
  show Nat.gcd _ _ = 1
  rw [Int.natAbs_mul]
  exact Nat.Coprime.mul_left h1 h2
/-- three forms put together -/
theorem comp_assoc {f g h F1 T1 F2 T2 : Frm} {m1 m2 m3 m4 : M24} (pf : f.pos) (pg : g.pos) (ph : h.pos) (qf : f.prim) (qg : g.prim) (qh : h.prim) (g1 : f.gap = g.gap) (g2 : g.gap = h.gap)
    (pF1 : F1.pos) (qF1 : F1.prim) (pF2 : F2.pos) (k1 : Comp f g F1 m1) (k2 : Comp F1 h T1 m2) (k3 : Comp g h F2 m3) (k4 : Comp f F2 T2 m4) : Cl T1 T2 := by
  obtain ⟨v, hv, cv⟩ := cop_form pg qg pf.1
  have clg : Cl g (g.act v) := ⟨v, hv, rfl⟩
  have pg' := clg.pos pg
  have gg' := clg.gap
  generalize g.act v = g' at clg pg' gg' cv
  have hfg : 1 ≤ f.a * g'.a := by
    have := Int.mul_le_mul pf.1 pg'.1 (by decide) (by have := pf.1; omega)
    omega
  obtain ⟨w, hw, cw⟩ := cop_form ph qh hfg
  have clh : Cl h (h.act w) := ⟨w, hw, rfl⟩
  have ph' := clh.pos ph
  have gh' := clh.gap
  generalize h.act w = h' at clh ph' gh' cw
  have cw1 : Int.gcd h'.a f.a = 1 := by
    have : Int.gcd h'.a f.a ∣ Int.gcd h'.a (f.a * g'.a) := Int.gcd_dvd_gcd_of_dvd_right _ (Int.dvd_mul_right ..)
    rw [cw] at this
    exact Nat.dvd_one.mp this
  have cw2 : Int.gcd h'.a g'.a = 1 := by
    have : Int.gcd h'.a g'.a ∣ Int.gcd h'.a (f.a * g'.a) := Int.gcd_dvd_gcd_of_dvd_right _ (Int.dvd_mul_left ..)
    rw [cw] at this
    exact Nat.dvd_one.mp this
  -- one middle
  obtain ⟨ka, la, ea⟩ := shifts (a := f.a) (a' := g'.a) (b := f.b) (b' := g'.b) (by rw [Int.gcd_comm]; exact cv) (gap_par (by rw [gg']; exact g1))
  obtain ⟨kb, lb, eb⟩ := shifts (a := f.a * g'.a) (a' := h'.a) (b := f.b + 2 * f.a * ka) (b' := h'.b) (by rw [Int.gcd_comm]; exact cw) (by
    have := gap_par (f := f) (g := h') (by rw [gh', g1, g2])
    have : 2 * f.a * ka = 2 * (f.a * ka) := by grind
    omega)
  have s1 := act_sh f (ka + g'.a * kb)
  have s2 := act_sh g' (la + f.a * kb)
  have s3 := act_sh h' lb
  have clf1 : Cl f (f.act ⟨1, 0, ka + g'.a * kb, 1⟩) := ⟨_, det_sh _, rfl⟩
  have clg1 : Cl g' (g'.act ⟨1, 0, la + f.a * kb, 1⟩) := ⟨_, det_sh _, rfl⟩
  have clh1 : Cl h' (h'.act ⟨1, 0, lb, 1⟩) := ⟨_, det_sh _, rfl⟩
  have af : (f.act ⟨1, 0, ka + g'.a * kb, 1⟩).a = f.a := by rw [s1]
  have ag : (g'.act ⟨1, 0, la + f.a * kb, 1⟩).a = g'.a := by rw [s2]
  have ah : (h'.act ⟨1, 0, lb, 1⟩).a = h'.a := by rw [s3]
  have bfg : (f.act ⟨1, 0, ka + g'.a * kb, 1⟩).b = (g'.act ⟨1, 0, la + f.a * kb, 1⟩).b := by
    rw [s1, s2]
    show f.b + 2 * f.a * (ka + g'.a * kb) = g'.b + 2 * g'.a * (la + f.a * kb)
    have e1 : f.b + 2 * f.a * (ka + g'.a * kb) = (f.b + 2 * f.a * ka) + 2 * (f.a * g'.a) * kb := by grind
    have e2 : g'.b + 2 * g'.a * (la + f.a * kb) = (g'.b + 2 * g'.a * la) + 2 * (f.a * g'.a) * kb := by grind
    rw [e1, e2, ea]
  have bfh : (f.act ⟨1, 0, ka + g'.a * kb, 1⟩).b = (h'.act ⟨1, 0, lb, 1⟩).b := by
    rw [s1, s3]
    show f.b + 2 * f.a * (ka + g'.a * kb) = h'.b + 2 * h'.a * lb
    rw [← eb]; grind
  have clG := clg.trans clg1
  have clH := clh.trans clh1
  have gpf := clf1.gap
  have gpg := clg1.gap
  have gph := clh1.gap
  rw [gg'] at gpg
  rw [gh'] at gph
  have prf := clf1.prim qf
  have prg := clG.prim qg
  have prh := clH.prim qh
  have psf := clf1.pos pf
  have psg := clG.pos pg
  have psh := clH.pos ph
  clear s1 s2 s3 ea eb
  generalize f.act ⟨1, 0, ka + g'.a * kb, 1⟩ = f1 at *
  generalize g'.act ⟨1, 0, la + f.a * kb, 1⟩ = g1' at *
  generalize h'.act ⟨1, 0, lb, 1⟩ = h1 at *
  have c12 : Int.gcd f1.a g1'.a = 1 := by rw [af, ag, Int.gcd_comm]; exact cv
  have c13 : Int.gcd f1.a h1.a = 1 := by rw [af, ah, Int.gcd_comm]; exact cw1
  have c23 : Int.gcd g1'.a h1.a = 1 := by rw [ag, ah, Int.gcd_comm]; exact cw2
  have a1 := psf.1; have a2 := psg.1; have a3 := psh.1
  -- f g
  obtain ⟨u1, u2⟩ := unite (f := f1) (g := g1') (by rw [gpf, gpg]; exact g1) rfl bfg (by omega) (by omega) c12
  generalize (f1.b * f1.b - f1.gap) / (4 * f1.a * g1'.a) = c at u1 u2
  have d1 := comp_dir f1.a g1'.a f1.b c
  rw [← u1, ← u2] at d1
  have prP : (⟨f1.a * g1'.a, f1.b, c⟩ : Frm).prim := united_prim (by rw [← u1]; exact prf) (by rw [← u2]; exact prg)
  have gpP : (⟨f1.a * g1'.a, f1.b, c⟩ : Frm).gap = f1.gap := by
    have e := congrArg Frm.gap u1
    rw [e]
    simp only [Frm.gap, gapF]; grind
  have paP : 1 ≤ f1.a * g1'.a := by
    have := Int.mul_le_mul a1 a2 (by decide) (by omega)
    omega
  have cl1 : Cl F1 ⟨f1.a * g1'.a, f1.b, c⟩ := comp_cl qf pf pg k1 d1 clf1 clG
  -- (f g) h
  obtain ⟨u3, u4⟩ := unite (f := ⟨f1.a * g1'.a, f1.b, c⟩) (g := h1) (by rw [gpP, gpf, gph, g1, g2]) rfl bfh (by show f1.a * g1'.a ≠ 0; omega) (by omega) (gcd_mul1 c13 c23)
  generalize ((⟨f1.a * g1'.a, f1.b, c⟩ : Frm).b * (⟨f1.a * g1'.a, f1.b, c⟩ : Frm).b - (⟨f1.a * g1'.a, f1.b, c⟩ : Frm).gap) / (4 * (⟨f1.a * g1'.a, f1.b, c⟩ : Frm).a * h1.a) = e at u3 u4
  have d2 := comp_dir (f1.a * g1'.a) h1.a f1.b e
  have u3' : (⟨f1.a * g1'.a, f1.b, c⟩ : Frm) = ⟨f1.a * g1'.a, f1.b, h1.a * e⟩ := u3
  have u4' : h1 = ⟨h1.a, f1.b, f1.a * g1'.a * e⟩ := u4
  rw [← u3', ← u4'] at d2
  have cl2 : Cl T1 ⟨f1.a * g1'.a * h1.a, f1.b, e⟩ := comp_cl qF1 pF1 ph k2 d2 cl1 clH
  -- g h
  obtain ⟨v1, v2⟩ := unite (f := g1') (g := h1) (by rw [gpg, gph, g2]) rfl (by rw [← bfg]; exact bfh) (by omega) (by omega) c23
  generalize (g1'.b * g1'.b - g1'.gap) / (4 * g1'.a * h1.a) = c' at v1 v2
  have d3 := comp_dir g1'.a h1.a g1'.b c'
  rw [← v1, ← v2] at d3
  have gpQ : (⟨g1'.a * h1.a, g1'.b, c'⟩ : Frm).gap = g1'.gap := by
    have e := congrArg Frm.gap v1
    rw [e]
    simp only [Frm.gap, gapF]; grind
  have paQ : 1 ≤ g1'.a * h1.a := by
    have := Int.mul_le_mul a2 a3 (by decide) (by omega)
    omega
  have cl3 : Cl F2 ⟨g1'.a * h1.a, g1'.b, c'⟩ := comp_cl qg pg ph k3 d3 clG clH
  -- f (g h)
  obtain ⟨v3, v4⟩ := unite (f := f1) (g := ⟨g1'.a * h1.a, g1'.b, c'⟩) (by rw [gpQ, gpf, gpg, g1]) rfl bfg (by omega) (by show g1'.a * h1.a ≠ 0; omega) (by
    rw [Int.gcd_comm]
    exact gcd_mul1 (by rw [Int.gcd_comm]; exact c12) (by rw [Int.gcd_comm]; exact c13))
  generalize (f1.b * f1.b - f1.gap) / (4 * f1.a * (⟨g1'.a * h1.a, g1'.b, c'⟩ : Frm).a) = e' at v3 v4
  have d4 := comp_dir f1.a (g1'.a * h1.a) f1.b e'
  have v3' : f1 = ⟨f1.a, f1.b, g1'.a * h1.a * e'⟩ := v3
  have v4' : (⟨g1'.a * h1.a, g1'.b, c'⟩ : Frm) = ⟨g1'.a * h1.a, f1.b, f1.a * e'⟩ := v4
  rw [← v3', ← v4'] at d4
  have cl4 : Cl T2 ⟨f1.a * (g1'.a * h1.a), f1.b, e'⟩ := comp_cl qf pf pF2 k4 d4 clf1 cl3
  have same : (⟨f1.a * g1'.a * h1.a, f1.b, e⟩ : Frm) = ⟨f1.a * (g1'.a * h1.a), f1.b, e'⟩ := by
    refine same_c (Int.mul_assoc ..) rfl ?_ ?_
    · have e1 : (⟨f1.a * g1'.a * h1.a, f1.b, e⟩ : Frm).gap = (⟨f1.a * g1'.a, f1.b, h1.a * e⟩ : Frm).gap := by simp only [Frm.gap, gapF]; grind
      have e2 : (⟨f1.a * (g1'.a * h1.a), f1.b, e'⟩ : Frm).gap = (⟨f1.a, f1.b, g1'.a * h1.a * e'⟩ : Frm).gap := by simp only [Frm.gap, gapF]; grind
      rw [e1, e2, ← u3', ← v3', gpP]
    · show f1.a * g1'.a * h1.a ≠ 0
      have := Int.mul_le_mul paP a3 (by decide) (by omega)
      omega
  rw [same] at cl2
  exact cl2.trans cl4.symm
/-- the form of 1 -/
theorem comp_one {e f T : Frm} {m : M24} (pe : e.pos) (pf : f.pos) (qe : e.prim) (he : e.a = 1) (hg : e.gap = f.gap) (k : Comp e f T m) : Cl T f := by
  obtain ⟨d, hd⟩ : ∃ d, f.b - e.b = 2 * d := ⟨(f.b - e.b) / 2, by have := gap_par hg; omega⟩
  have s := act_sh e d
  rw [he] at s
  have cl : Cl e (e.act ⟨1, 0, d, 1⟩) := ⟨_, det_sh _, rfl⟩
  have gp := cl.gap
  have s2 : e.act ⟨1, 0, d, 1⟩ = ⟨1, f.b, f.a * f.c⟩ := by
    refine same_c (by rw [s]) (by rw [s]; show e.b + 2 * 1 * d = f.b; omega) ?_ (by rw [s]; show (1 : Int) ≠ 0; decide)
    rw [gp, hg]
    simp only [Frm.gap, gapF]; grind
  have d1 := comp_dir 1 f.a f.b f.c
  rw [← s2] at d1
  have e1 : (⟨f.a, f.b, 1 * f.c⟩ : Frm) = f := Frm.ext rfl rfl (Int.one_mul _)
  have e2 : (⟨1 * f.a, f.b, f.c⟩ : Frm) = f := Frm.ext (Int.one_mul _) rfl rfl
  rw [e1, e2] at d1
  exact comp_cl qe pe pf k d1 cl (Cl.refl f)
/-- a form and the opposite one make that of 1 -/
theorem comp_opp {e f T : Frm} {m : M24} (pe : e.pos) (pf : f.pos) (qf : f.prim) (he : e.a = 1) (hg : e.gap = f.gap) (k : Comp f f.opp T m) : Cl T e := by
  have po := opp_pos pf
  -- (c, b, a) is the opposite one's class
  have s1 : f.opp.act ⟨0, 1, -1, 0⟩ = ⟨f.c, f.b, f.a⟩ := by
    apply Frm.ext <;> simp only [Frm.act, Frm.opp, Frm.wo, worthF, midF] <;> grind
  have cl : Cl f.opp ⟨f.c, f.b, f.a⟩ := ⟨⟨0, 1, -1, 0⟩, rfl, s1.symm⟩
  have d1 := comp_dir f.a f.c f.b 1
  have e1 : (⟨f.a, f.b, f.c * 1⟩ : Frm) = f := Frm.ext rfl rfl (Int.mul_one _)
  have e2 : (⟨f.c, f.b, f.a * 1⟩ : Frm) = ⟨f.c, f.b, f.a⟩ := Frm.ext rfl rfl (Int.mul_one _)
  rw [e1, e2] at d1
  have c1 : Cl T ⟨f.a * f.c, f.b, 1⟩ := comp_cl qf pf po k d1 (Cl.refl f) cl
  have s2 : (⟨f.a * f.c, f.b, 1⟩ : Frm).act ⟨0, 1, -1, 0⟩ = ⟨1, -f.b, f.a * f.c⟩ := by
    apply Frm.ext <;> simp only [Frm.act, Frm.wo, worthF, midF] <;> grind
  have c2 : Cl ⟨f.a * f.c, f.b, 1⟩ ⟨1, -f.b, f.a * f.c⟩ := ⟨⟨0, 1, -1, 0⟩, rfl, s2.symm⟩
  have g2 : (⟨1, -f.b, f.a * f.c⟩ : Frm).gap = e.gap := by rw [hg]; simp only [Frm.gap, gapF]; grind
  obtain ⟨d, hd⟩ : ∃ d, e.b - -f.b = 2 * d := ⟨(e.b - -f.b) / 2, by
    have := gap_par (f := ⟨1, -f.b, f.a * f.c⟩) (g := e) g2
    have : (e.b - -f.b) % 2 = 0 := this
    omega⟩
  have s3 := act_sh ⟨1, -f.b, f.a * f.c⟩ d
  have c3 : Cl ⟨1, -f.b, f.a * f.c⟩ e := by
    refine ⟨⟨1, 0, d, 1⟩, det_sh _, ?_⟩
    refine same_c (by rw [s3]; exact he) (by rw [s3]; show e.b = -f.b + 2 * 1 * d; omega) ?_ (by omega)
    rw [gap_act, det_sh, g2]; omega
  exact c1.trans (c2.trans c3)
end K12
set_option exponentiation.threshold 3000
/-! K12: great numbers (printed by gen/mkbig.py). -/
namespace K12
open PySem DL
variable {M : Store}
def Sz (k : Nat) (x : Int) : Prop := x.natAbs < 2 ^ k
instance {k : Nat} {x : Int} : Decidable (Sz k x) := inferInstanceAs (Decidable (_ < _))
theorem Sz.mul {j k : Nat} {x y : Int} (h : Sz j x) (g : Sz k y) : Sz (j + k) (x * y) := by
  unfold Sz at *
  rw [Int.natAbs_mul, Nat.pow_add]
  exact Nat.mul_lt_mul'' h g
theorem Sz.mono {j k : Nat} {x : Int} (h : Sz j x) (g : j ≤ k) : Sz k x := Nat.lt_of_lt_of_le h (Nat.pow_le_pow_right (by decide) g)
theorem Sz.add {k : Nat} {x y : Int} (h : Sz k x) (g : Sz k y) : Sz (k + 1) (x + y) := by
  unfold Sz at *
  rw [Nat.pow_succ]
  omega
theorem Sz.sub {k : Nat} {x y : Int} (h : Sz k x) (g : Sz k y) : Sz (k + 1) (x - y) := by
  unfold Sz at *
  rw [Nat.pow_succ]
  omega
theorem Sz.neg {k : Nat} {x : Int} (h : Sz k x) : Sz k (-x) := by
  unfold Sz at *
  omega
theorem Sz.log {k : Nat} {x : Int} (h : Sz k x) : x.natAbs.log2 ≤ k := by
  unfold Sz at h
  by_cases z : x.natAbs = 0
  · rw [z]; exact Nat.zero_le _
  · have := (Nat.log2_lt z).mpr h
    omega
theorem mulC_sz {j k : Nat} {x y : Int} (h : Sz j x) (g : Sz k y) (l : j + k < 1000000) : mulC x y = true := by
  have h1 := h.log
  have h2 := g.log
  unfold mulC
  rw [Bool.or_eq_true, Bool.or_eq_true]
  exact .inr (decide_eq_true (by omega))
theorem divC_sz {k : Nat} {x y : Int} (h : 0 < y) (g : Sz k y) (l : k < 9000) : divC x y = true := by
  have h1 := g.log
  unfold divC
  rw [Bool.and_eq_true, decide_eq_true_eq, decide_eq_true_eq]
  exact ⟨h, by omega⟩
def Sg (x : Int) : Prop := -(10 ^ 160) < x ∧ x < 10 ^ 160
theorem pow160 : (10 : Int) ^ 160 < 2 ^ 540 := by decide
theorem Sg.sz {x : Int} (h : Sg x) : Sz 540 x := by
  unfold Sz
  have h1 := h.1; have h2 := h.2
  have := pow160
  have e : ((2 ^ 540 : Nat) : Int) = 2 ^ 540 := by norm_cast
  omega
theorem sg0 : Sg 0 := ⟨by decide, by decide⟩
theorem sg1 : Sg 1 := ⟨by decide, by decide⟩
theorem sgN : Sg (-1) := ⟨by decide, by decide⟩
theorem sz4 : Sz 3 4 := by decide
theorem sz2 : Sz 2 2 := by decide
theorem sg_step {g : Frm} (hk : Sg (kOf g)) : Sg (stepC g).p ∧ Sg (stepC g).q ∧ Sg (stepC g).r ∧ Sg (stepC g).s := by
  unfold stepC
  split
  · exact ⟨sg0, sg1, sgN, sg0⟩
  · exact ⟨sg1, sg0, hk, sg1⟩
theorem gap_sz {k : Nat} {a b c : Int} (hk : k ≤ 100000) (ha : Sz k a) (hb : Sz k b) (hc : Sz k c) : m_gap [eRow [a, b, c]] M = some (.ok (.int (gapF a b c)), M) := by
  unfold m_gap f_gap
  simp [mulC_sz hb hb (by omega), m4, mulC_sz (sz4.mul ha) hc (by omega), gapF]
theorem worth_sz {k : Nat} {a b c x y : Int} (hk : k ≤ 100000) (ha : Sz k a) (hb : Sz k b) (hc : Sz k c) (hx : Sz k x) (hy : Sz k y) : m_two_worth [eRow [a, b, c], .int x, .int y] M = some (.ok (.int (worthF a b c x y)), M) := by
  unfold m_two_worth f_two_worth
  simp [mulC_sz ha hx (by omega), mulC_sz (ha.mul hx) hx (by omega), mulC_sz hb hx (by omega), mulC_sz (hb.mul hx) hy (by omega), mulC_sz hc hy (by omega), mulC_sz (hc.mul hy) hy (by omega), worthF]
theorem changed_sz {k : Nat} {a b c p q r s : Int} (hk : k ≤ 100000) (ha : Sz k a) (hb : Sz k b) (hc : Sz k c) (hp : Sz k p) (hq : Sz k q) (hr : Sz k r) (hs : Sz k s) :
    m_two_changed [eRow [a, b, c], eTab [[p, q], [r, s]]] M = some (.ok (eRow [worthF a b c p q, midF a b c p q r s, worthF a b c r s]), M) := by
  unfold m_two_changed f_two_changed
  simp [m2, mulC_sz (sz2.mul ha) hp (by omega), mulC_sz ((sz2.mul ha).mul hp) hr (by omega), mulC_sz hp hs (by omega), mulC_sz hq hr (by omega), mulC_sz hb ((hp.mul hs).add (hq.mul hr)) (by omega),
    mulC_sz (sz2.mul hc) hq (by omega), mulC_sz ((sz2.mul hc).mul hq) hs (by omega), worth_sz hk ha hb hc hp hq, worth_sz hk ha hb hc hr hs, midF, row3]
theorem product_sz {j k : Nat} {a b c d e f g h : Int} (hl : j + k < 1000000) (ha : Sz j a) (hb : Sz j b) (hc : Sz j c) (hd : Sz j d) (he : Sz k e) (hf : Sz k f) (hg : Sz k g) (hh : Sz k h) :
    m_product [eTab [[a, b], [c, d]], eTab [[e, f], [g, h]]] M = some (.ok (eTab (prodF a b c d e f g h)), M) :=
  product_is (mulC_sz ha he hl) (mulC_sz hb hg hl) (mulC_sz ha hf hl) (mulC_sz hb hh hl) (mulC_sz hc he hl) (mulC_sz hd hg hl) (mulC_sz hc hf hl) (mulC_sz hd hh hl)
/-- within 10 ^ 150 -/
structure BdB (f : Frm) : Prop where
  a : f.a ≤ 10 ^ 150
  b1 : -(10 ^ 150) ≤ f.b
  b2 : f.b ≤ 10 ^ 150
  c : f.c ≤ 10 ^ 150
theorem BdB.sz {f : Frm} (hp : f.pos) (h : BdB f) : Sz 540 f.a ∧ Sz 540 f.b ∧ Sz 540 f.c := by
  have hc := pos_c hp
  have ha := hp.1
  have h1 := h.a; have h2 := h.b1; have h3 := h.b2; have h4 := h.c
  exact ⟨Sg.sz ⟨by omega, by omega⟩, Sg.sz ⟨by omega, by omega⟩, Sg.sz ⟨by omega, by omega⟩⟩
theorem changed_big {g : Frm} {u : Chg} (hp : g.pos) (hb : BdB g) (hu : Sg u.p ∧ Sg u.q ∧ Sg u.r ∧ Sg u.s) : m_two_changed [eF g, eC u] M = some (.ok (eF (g.act u)), M) := by
  obtain ⟨h1, h2, h3⟩ := hb.sz hp
  exact changed_sz (by decide) h1 h2 h3 hu.1.sz hu.2.1.sz hu.2.2.1.sz hu.2.2.2.sz
theorem check_sz {k : Nat} {a b c : Int} (hk : k ≤ 100000) (ha : Sz k a) (hb : Sz k b) (hc : Sz k c) (hg : gapF a b c < 0) (h0 : 1 ≤ a) (h1 : gcdL [a, b, c] = 1) : m_check_two [eRow [a, b, c]] M = some (.ok .non, M) := by
  unfold m_check_two f_check_two
  simp [is_two_3, gap_sz hk ha hb hc, divisor_of_is, h1, show ¬ 0 ≤ gapF a b c by omega, show ¬ a < 1 by omega]
theorem check_big {f : Frm} (hp : f.pos) (hb : BdB f) (h1 : gcdL [f.a, f.b, f.c] = 1) : m_check_two [eF f] M = some (.ok .non, M) := by
  obtain ⟨s1, s2, s3⟩ := hb.sz hp
  exact check_sz (by decide) s1 s2 s3 hp.2 hp.1 h1
theorem product_stepB {g : Frm} {u : Chg} (hk : Sg (kOf g)) (hu : Sg u.p ∧ Sg u.q ∧ Sg u.r ∧ Sg u.s) : m_product [eC (stepC g), eC u] M = some (.ok (eC ((stepC g).mul u)), M) := by
  obtain ⟨h1, h2, h3, h4⟩ := sg_step hk
  exact product_sz (by decide) h1.sz h2.sz h3.sz h4.sz hu.1.sz hu.2.1.sz hu.2.2.1.sz hu.2.2.2.sz
theorem ent_leB {g B A W y R : Int} (hB : B = 10 ^ 150) (hg : g < 0) (hA : 0 ≤ A) (hA2 : A ≤ B) (hW : 0 ≤ W) (hW2 : W ≤ B) (h : 4 * A * W = R * R - g * (y * y)) : -(2 * B) ≤ y ∧ y ≤ 2 * B := by
  apply sq_le (by omega)
  have s1 := sq_nonneg R
  have s2 := sq_nonneg y
  have s3 := Int.mul_nonneg (show 0 ≤ -g - 1 by omega) s2
  have e1 : (-g - 1) * (y * y) = -(g * (y * y)) - y * y := by grind
  have s4 : A * W ≤ B * B := Int.mul_le_mul hA2 hW2 hW (by omega)
  have e2 : 4 * A * W = 4 * (A * W) := by grind
  have e3 : 2 * B * (2 * B) = 4 * (B * B) := by grind
  omega
theorem ent_sg {f : Frm} {u : Chg} (hp : f.pos) (hb : BdB f) (hu : u.det = 1) (hb2 : BdB (f.act u)) : Sg u.p ∧ Sg u.q ∧ Sg u.r ∧ Sg u.s := by
  have hc := pos_c hp
  have hp2 := pos_act hp hu
  have hc2 := pos_c hp2
  have t : ∀ {y : Int}, -(2 * 10 ^ 150) ≤ y ∧ y ≤ 2 * 10 ^ 150 → Sg y := fun {y} h => ⟨by omega, by omega⟩
  have ha := hp.1
  have ha2 := hp2.1
  refine ⟨t (ent_leB rfl hp.2 (by omega) hb.c (W := (f.act u).a) (by omega) hb2.a (four_c f u.p u.q)), t (ent_leB rfl hp.2 (by omega) hb.a (W := (f.act u).a) (by omega) hb2.a (four_a f u.p u.q)),
    t (ent_leB rfl hp.2 (by omega) hb.c (W := (f.act u).c) (by omega) hb2.c (four_c f u.r u.s)), t (ent_leB rfl hp.2 (by omega) hb.a (W := (f.act u).c) (by omega) hb2.c (four_a f u.r u.s))⟩
theorem step_okB {g : Frm} (hp : g.pos) (hb : BdB g) (hn : ¬ Red g) : BdB (g.act (stepC g)) ∧ mu (g.act (stepC g)) < mu g ∧ Sg (kOf g) := by
  have ha := hp.1
  have hc := pos_c hp
  have hk : Sg (kOf g) := by
    have h1 := shift_in (g := g) ha
    have b1 := hb.b1
    have b2 := hb.b2
    have h3 := hb.a
    generalize kOf g = k at *
    have e : 2 * k * g.a = 2 * (k * g.a) := by grind
    have : -(10 ^ 150) ≤ k * g.a ∧ k * g.a ≤ 10 ^ 150 := by omega
    rcases Int.le_total 0 k with z | z
    · have := Int.mul_le_mul_of_nonneg_left ha z
      exact ⟨by omega, by omega⟩
    · have := Int.mul_le_mul_of_nonneg_left ha (show 0 ≤ -k by omega)
      have e2 : -k * g.a = -(k * g.a) := by grind
      exact ⟨by omega, by omega⟩
  refine ⟨?_, ?_, hk⟩
  · unfold stepC
    split
    · rw [act_swap]
      exact ⟨hb.c, by have := hb.b2; simp only; omega, by have := hb.b1; simp only; omega, hb.a⟩
    · rename_i hs
      have hi := shift_in (g := g) ha
      have hout : ¬ (-g.a < g.b ∧ g.b ≤ g.a) := fun z => hn ⟨z.1, z.2, by omega, fun e => by omega⟩
      have hp2 : (g.act (shiftC (kOf g))).pos := pos_act hp (by simp [Chg.det, shiftC])
      have hc2 := pos_c hp2
      have hgp : (g.act (shiftC (kOf g))).gap = g.gap := by rw [gap_act]; simp [Chg.det, shiftC]
      rw [act_shift] at hc2 hgp ⊢
      generalize kOf g = k at *
      have hgp2 : (g.b + 2 * k * g.a) * (g.b + 2 * k * g.a) - 4 * g.a * (g.c + k * g.b + k * k * g.a) = g.b * g.b - 4 * g.a * g.c := hgp
      simp only at hc2
      generalize g.b + 2 * k * g.a = b' at *
      generalize g.c + k * g.b + k * k * g.a = c' at *
      have hA := hb.a; have hB1 := hb.b1; have hB2 := hb.b2; have hC := hb.c
      refine ⟨hA, by simp only; omega, by simp only; omega, ?_⟩
      -- c' ≤ c
      have hbb : b' * b' ≤ g.b * g.b := by
        have h1 : b' * b' ≤ g.a * g.a := by
          have := Int.mul_nonneg (show 0 ≤ g.a - b' by omega) (show 0 ≤ g.a + b' by omega)
          have e : (g.a - b') * (g.a + b') = g.a * g.a - b' * b' := by grind
          omega
        have h2 : g.a * g.a ≤ g.b * g.b := by
          rcases Decidable.em (-g.a < g.b) with z | z
          · exact Int.mul_le_mul (show g.a ≤ g.b by omega) (show g.a ≤ g.b by omega) (by omega) (by omega)
          · have := Int.mul_le_mul (show g.a ≤ -g.b by omega) (show g.a ≤ -g.b by omega) (by omega) (by omega)
            have e : -g.b * -g.b = g.b * g.b := by grind
            omega
        omega
      have h4 : g.a * c' ≤ g.a * g.c := by
        have e1 : 4 * g.a * c' = 4 * (g.a * c') := by grind
        have e2 : 4 * g.a * g.c = 4 * (g.a * g.c) := by grind
        omega
      have h5 : c' ≤ g.c := Int.le_of_mul_le_mul_left h4 (by omega)
      simp only
      omega
  · unfold stepC
    split
    · rename_i hs
      rw [act_swap]
      unfold mu
      simp only
      rcases hs with hs | hs <;> (repeat' split) <;> omega
    · rename_i hs
      have hi := shift_in (g := g) ha
      have hout : ¬ (-g.a < g.b ∧ g.b ≤ g.a) := fun z => hn ⟨z.1, z.2, by omega, fun e => by omega⟩
      rw [act_shift]
      unfold mu
      simp only
      rw [if_pos hi, if_neg hout]
      (repeat' split) <;> omega
theorem bod_isB {g : Frm} {u : Chg} {x2 x3 x4 x5 : Option D} (hp : g.pos) (hb : BdB g) (hk : Sg (kOf g)) (hu : Sg u.p ∧ Sg u.q ∧ Sg u.r ∧ Sg u.s) :
    bodR [some (eF g), some (eC u), x2, x3, x4, x5] M = some (.nx [some (eF (g.act (stepC g))), some (eC ((stepC g).mul u)), some (.int g.a), some (.int g.b), some (.int g.c), some (eC (stepC g))], M) := by
  have hd : ∀ y : Int, divC y (2 * g.a) = true := fun y => divC_sz (by have := hp.1; omega) (Sz.mul (j := 2) (k := 540) (by decide) (Sg.sz ⟨by have := hp.1; omega, by have := hb.a; omega⟩)) (by decide)
  have h1 := product_stepB (M := M) (u := u) hk hu
  have h2 := changed_big (M := M) hp hb (sg_step hk)
  have h0 : sAsg (cVar 0) (gTupC 3 (gConsC (gN 2) (gConsC (gN 3) (gConsC (gN 4) gNilC)))) [some (eF g), some (eC u), x2, x3, x4, x5] M = some (.nx [some (eF g), some (eC u), some (.int g.a), some (.int g.b), some (.int g.c), x5], M) := by
    simp [eF]
  unfold bodR
  rw [sSeq_nx h0]
  have h3 : sIf (tOrC (cTru (cOp gGt (cVar 2) (cVar 4))) (tAndC (cTru (cOp (gEq false) (cVar 2) (cVar 4))) (cTru (cOp gLt (cVar 3) (cC (.int 0)))))) (sAsg (cTup (aCons (cTup (aCons (cC (.int 0)) (aCons (cC (.int 1)) aNil))) (aCons (cTup (aCons (cUn gNeg (cC (.int 1))) (aCons (cC (.int 0)) aNil))) aNil))) (gN 5)) (sAsg (cTup (aCons (cTup (aCons (cC (.int 1)) (aCons (cC (.int 0)) aNil))) (aCons (cTup (aCons (cOp gDiv (cOp gSub (cVar 2) (cVar 3)) (cOp gMul (cC (.int 2)) (cVar 2))) (aCons (cC (.int 1)) aNil))) aNil))) (gN 5))
      [some (eF g), some (eC u), some (.int g.a), some (.int g.b), some (.int g.c), x5] M = some (.nx [some (eF g), some (eC u), some (.int g.a), some (.int g.b), some (.int g.c), some (eC (stepC g))], M) := by
    unfold stepC
    by_cases q1 : g.c < g.a
    · simp [q1, eC, swapC, eTab, eRow]
    · by_cases q2 : g.a = g.c
      · by_cases q3 : g.b < 0
        · simp [q2, q3, eC, swapC, eTab, eRow]
        · simp [q1, q2, q3, eC, shiftC, kOf, eTab, eRow, m2, show ∀ y : Int, divC y (2 * g.c) = true from fun y => by rw [← q2]; exact hd y]
      · simp [q1, q2, hd, m2, eC, shiftC, kOf, eTab, eRow]
  rw [sSeq_nx h3]
  simp [h1, h2]
theorem loopRB {f : Frm} (hp : f.pos) (hb0 : BdB f) : ∀ (n : Nat) (u : Chg) (x2 x3 x4 x5 : Option D), u.det = 1 → BdB (f.act u) → mu (f.act u) = n →
    ∃ v y2 y3 y4 y5, v.det = 1 ∧ Red (f.act v) ∧ BdB (f.act v) ∧ sWhile tstR bodR [some (eF (f.act u)), some (eC u), x2, x3, x4, x5] M = some (.nx [some (eF (f.act v)), some (eC v), y2, y3, y4, y5], M) := by
  intro n
  induction n using Nat.strongRecOn with
  | _ n ih =>
    intro u x2 x3 x4 x5 hu hb hn
    have hpg := pos_act hp hu
    by_cases hr : Red (f.act u)
    · refine ⟨u, x2, x3, x4, x5, hu, hr, hb, sWhile_stop (M1 := M) ?_⟩
      simp [tstR, is_red_is, red_iff.mpr hr]
    · obtain ⟨s1, s2, s3⟩ := step_okB hpg hb hr
      have hnr : (f.act u).red = false := by
        cases q : (f.act u).red with
        | false => rfl
        | true => exact absurd (red_iff.mp q) hr
      have hdet : ((stepC (f.act u)).mul u).det = 1 := by rw [det_mul, det_step, hu]; rfl
      rw [act_act] at s1 s2
      obtain ⟨v, y2, y3, y4, y5, h1, h2, h3, h4⟩ := ih _ (by omega) ((stepC (f.act u)).mul u) _ _ _ _ hdet s1 rfl
      refine ⟨v, y2, y3, y4, y5, h1, h2, h3, sWhile_more (M1 := M) (M2 := M) ?_ (bod_isB hpg hb s3 (ent_sg hp hb0 hu hb)) ?_⟩
      · simp [tstR, is_red_is, hnr]
      · rw [act_act]; exact h4
theorem two_reduced_big {f : Frm} (hp : f.pos) (hb : BdB f) (h1 : gcdL [f.a, f.b, f.c] = 1) :
    ∃ v, v.det = 1 ∧ Red (f.act v) ∧ BdB (f.act v) ∧ m_two_reduced [eF f] M = some (.ok (.tup [eF (f.act v), eC v]), M) := by
  obtain ⟨v, y2, y3, y4, y5, e1, e2, e3, e4⟩ := loopRB (M := M) hp hb _ .one none none none none rfl (by rw [act_one]; exact hb) rfl
  rw [act_one] at e4
  refine ⟨v, e1, e2, e3, ?_⟩
  have hc : m_check_two [eF f] M = some (.ok .non, M) := check_big hp hb h1
  unfold m_two_reduced
  rw [mDef_1, f_two_reduced_eq]
  have e0 : (k_UNIT : D) = eC .one := rfl
  simp [hc, e0, e4]
  exact gcF_ok0 (by simp [eF, eC]) rfl
end K12
/-! k12: bezout. -/
namespace K12
open PySem DL
variable {M : Store}
theorem fdiv_mod (a b : Int) : b * a.fdiv b + a.fmod b = a := Int.mul_fdiv_add_fmod a b
theorem fmod_neg {a b : Int} (h : b < 0) : b < a.fmod b ∧ a.fmod b ≤ 0 := by
  have e : a.fmod b = -((-a).fmod (-b)) := by
    have := Int.neg_fmod_neg a b
    omega
  rw [e]
  have h1 : (-a).fmod (-b) = (-a) % (-b) := Int.fmod_eq_emod_of_nonneg _ (by omega)
  rw [h1]
  have := Int.emod_nonneg (-a) (show -b ≠ 0 by omega)
  have := Int.emod_lt_of_pos (-a) (show 0 < -b by omega)
  omega
theorem fmod_pos {a b : Int} (h : 0 < b) : 0 ≤ a.fmod b ∧ a.fmod b < b := by
  rw [Int.fmod_eq_emod_of_nonneg _ (by omega)]
  exact ⟨Int.emod_nonneg _ (by omega), Int.emod_lt_of_pos _ h⟩
theorem gcd_fmod (a b : Int) : Int.gcd b (a.fmod b) = Int.gcd a b := by
  have e : a.fmod b = a + b * (-(a.fdiv b)) := by
    have := fdiv_mod a b
    rw [Int.mul_neg]; omega
  rw [e, Int.gcd_add_mul_left_right, Int.gcd_comm]
/-- a turn of bezout -/
structure Bz (x y : Int) (B : Int) (o t s u q v : Int) : Prop where
  e1 : s * x + q * y = o
  e2 : u * x + v * y = t
  g : Int.gcd o t = Int.gcd x y
  s1 : -B ≤ s ∧ s ≤ B
  q1 : -B ≤ q ∧ q ≤ B
  u1 : -B ≤ u ∧ u ≤ B
  v1 : -B ≤ v ∧ v ≤ B
  ob : -B ≤ o ∧ o ≤ B
  tb : -B ≤ t ∧ t ≤ B
noncomputable def bodZ : SF := (sSeq (sAsg (cOp gDivN (cVar 0) (cVar 1)) (gN 6)) (sSeq (sPar 0 1 (aCons (cVar 1) (aCons (cOp gSub (cVar 0) (cOp gMul (cVar 6) (cVar 1))) aNil))) (sSeq (sPar 2 4 (aCons (cVar 4) (aCons (cOp gSub (cVar 2) (cOp gMul (cVar 6) (cVar 4))) aNil))) (sPar 3 5 (aCons (cVar 5) (aCons (cOp gSub (cVar 3) (cOp gMul (cVar 6) (cVar 5))) aNil))))))
theorem bodZ_is {o t s u q v : Int} {x6 : Option D} (ht : t ≠ 0) (hl : t.natAbs.log2 < 9000) (h1 : mulC (o.fdiv t) t = true) (h2 : mulC (o.fdiv t) u = true) (h3 : mulC (o.fdiv t) v = true) :
    bodZ [some (.int o), some (.int t), some (.int s), some (.int q), some (.int u), some (.int v), x6] M = some (.nx [some (.int t), some (.int (o - o.fdiv t * t)), some (.int u), some (.int v), some (.int (s - o.fdiv t * u)), some (.int (q - o.fdiv t * v)), some (.int (o.fdiv t))], M) := by
  unfold bodZ
  simp [divN, ht, hl, h1, h2, h3]
/-- how far the factors go: their products with the numbers do not grow -/
theorem pot {o t s u w r C : Int} (hw : o = t * w + r) (ht : t ≠ 0) (hs : (0 ≤ o ∧ 0 < t ∧ 0 ≤ r ∧ r < t) ∨ (o ≤ 0 ∧ t < 0 ∧ t < r ∧ r ≤ 0))
    (h : o.natAbs * u.natAbs + t.natAbs * s.natAbs ≤ C.toNat) : t.natAbs * (s - w * u).natAbs + r.natAbs * u.natAbs ≤ C.toNat := by
  have e : o.natAbs = t.natAbs * w.natAbs + r.natAbs := by
    have hw0 : 0 ≤ w := by
      rcases Int.lt_or_le w 0 with z | z
      · exfalso
        rcases hs with ⟨a, b, c, d⟩ | ⟨a, b, c, d⟩
        · have := Int.mul_le_mul_of_nonneg_left (show w ≤ -1 by omega) (show 0 ≤ t by omega)
          rw [Int.mul_neg, Int.mul_one] at this; omega
        · have := Int.mul_le_mul_of_nonneg_left (show w ≤ -1 by omega) (show 0 ≤ -t by omega)
          rw [Int.neg_mul, Int.mul_neg, Int.mul_one] at this; omega
      · exact z
    have hm : (t * w).natAbs = t.natAbs * w.natAbs := Int.natAbs_mul t w
    rcases hs with ⟨a, b, c, d⟩ | ⟨a, b, c, d⟩
    · have := Int.mul_nonneg (show 0 ≤ t by omega) hw0
      omega
    · have := Int.mul_nonneg (show 0 ≤ -t by omega) hw0
      rw [Int.neg_mul] at this
      omega
  have h1 : (s - w * u).natAbs ≤ s.natAbs + w.natAbs * u.natAbs := by
    have := Int.natAbs_mul w u
    omega
  have h2 : t.natAbs * (s - w * u).natAbs ≤ t.natAbs * s.natAbs + t.natAbs * (w.natAbs * u.natAbs) := by
    rw [← Nat.mul_add]; exact Nat.mul_le_mul_left _ h1
  have h3 : o.natAbs * u.natAbs = t.natAbs * (w.natAbs * u.natAbs) + r.natAbs * u.natAbs := by
    rw [e, Nat.add_mul, Nat.mul_assoc]
  omega
theorem nab_le {t u : Int} {C : Int} (ht : t ≠ 0) (h : t.natAbs * u.natAbs ≤ C.toNat) (hC : 0 ≤ C) : -C ≤ u ∧ u ≤ C := by
  have : u.natAbs ≤ t.natAbs * u.natAbs := Nat.le_mul_of_pos_left _ (by omega)
  omega
theorem sz_of {B x : Int} (hB : B ≤ 10 ^ 150) (h : -B ≤ x ∧ x ≤ B) : Sz 540 x := Sg.sz ⟨by omega, by omega⟩
/-- one turn -/
theorem bz_step {x y B o t s u q v : Int} (hB0 : 0 ≤ B) (hB : B ≤ 10 ^ 150) (ht : t ≠ 0) (h : Bz x y B o t s u q v) (ho : 0 ≤ o ∧ 0 < t ∨ o ≤ 0 ∧ t < 0)
    (p1 : o.natAbs * u.natAbs + t.natAbs * s.natAbs ≤ B.toNat) (p2 : o.natAbs * v.natAbs + t.natAbs * q.natAbs ≤ B.toNat) :
    Bz x y B t (o - o.fdiv t * t) u (s - o.fdiv t * u) v (q - o.fdiv t * v) ∧ (0 ≤ t ∧ 0 ≤ o - o.fdiv t * t ∨ t ≤ 0 ∧ o - o.fdiv t * t ≤ 0) ∧ (o - o.fdiv t * t).natAbs < t.natAbs ∧
      t.natAbs * (s - o.fdiv t * u).natAbs + (o - o.fdiv t * t).natAbs * u.natAbs ≤ B.toNat ∧ t.natAbs * (q - o.fdiv t * v).natAbs + (o - o.fdiv t * t).natAbs * v.natAbs ≤ B.toNat ∧
      mulC (o.fdiv t) t = true ∧ mulC (o.fdiv t) u = true ∧ mulC (o.fdiv t) v = true ∧ t.natAbs.log2 < 9000 := by
  have hm := fdiv_mod o t
  have er : o - o.fdiv t * t = o.fmod t := by rw [Int.mul_comm]; omega
  rw [er]
  have hs : (0 ≤ o ∧ 0 < t ∧ 0 ≤ o.fmod t ∧ o.fmod t < t) ∨ (o ≤ 0 ∧ t < 0 ∧ t < o.fmod t ∧ o.fmod t ≤ 0) := by
    rcases ho with ⟨a, b⟩ | ⟨a, b⟩
    · exact .inl ⟨a, b, fmod_pos b⟩
    · exact .inr ⟨a, b, fmod_neg b⟩
  have q1 := pot (s := s) (u := u) hm.symm ht hs p1
  have q2 := pot (s := q) (u := v) hm.symm ht hs p2
  have hw : -B ≤ o.fdiv t ∧ o.fdiv t ≤ B := by
    have e : (t * o.fdiv t).natAbs = t.natAbs * (o.fdiv t).natAbs := Int.natAbs_mul ..
    have h1 : (o.fdiv t).natAbs ≤ t.natAbs * (o.fdiv t).natAbs := Nat.le_mul_of_pos_left _ (by omega)
    have h2 : (t * o.fdiv t).natAbs ≤ o.natAbs + t.natAbs := by
      have : (o.fmod t).natAbs < t.natAbs := by rcases hs with z | z <;> omega
      omega
    have hob := h.ob
    rcases hs with z | z
    · have : 0 ≤ o.fdiv t ∧ o.fdiv t ≤ o := by
        rw [Int.fdiv_eq_ediv_of_nonneg _ (by omega)]
        exact ⟨Int.ediv_nonneg z.1 (by omega), Int.ediv_le_self _ z.1⟩
      omega
    · have e3 : o.fdiv t = (-o).fdiv (-t) := (Int.neg_fdiv_neg o t).symm
      have : 0 ≤ o.fdiv t ∧ o.fdiv t ≤ -o := by
        rw [e3, Int.fdiv_eq_ediv_of_nonneg _ (by omega)]
        exact ⟨Int.ediv_nonneg (by omega) (by omega), Int.ediv_le_self _ (by omega)⟩
      omega
  have r1 := nab_le ht (Nat.le_trans (Nat.le_add_right _ _) q1) hB0
  have r2 := nab_le ht (Nat.le_trans (Nat.le_add_right _ _) q2) hB0
  refine ⟨⟨h.e2, ?_, by rw [gcd_fmod]; exact h.g, h.u1, h.v1, r1, r2, h.tb, ?_⟩, ?_, ?_, q1, q2, mulC_sz (sz_of hB hw) (sz_of hB h.tb) (by decide), mulC_sz (sz_of hB hw) (sz_of hB h.u1) (by decide), mulC_sz (sz_of hB hw) (sz_of hB h.v1) (by decide), ?_⟩
  · rw [← er]
    have h1 := h.e1; have h2 := h.e2
    rw [← h1]
    have : (s - o.fdiv t * u) * x + (q - o.fdiv t * v) * y = (s * x + q * y) - o.fdiv t * (u * x + v * y) := by
      generalize o.fdiv t = w
      grind
    rw [h1] at this ⊢
    rw [this, h2]
  · have := h.tb
    rcases hs with z | z <;> omega
  · rcases hs with z | z <;> omega
  · rcases hs with z | z <;> omega
  · have := (sz_of hB h.tb).log
    omega
theorem bz_loop {x y B : Int} (hB0 : 0 ≤ B) (hB : B ≤ 10 ^ 150) : ∀ (n : Nat) (o t s u q v : Int) (x6 : Option D), t.natAbs = n → Bz x y B o t s u q v → (0 ≤ o ∧ 0 ≤ t ∨ o ≤ 0 ∧ t ≤ 0) →
    o.natAbs * u.natAbs + t.natAbs * s.natAbs ≤ B.toNat → o.natAbs * v.natAbs + t.natAbs * q.natAbs ≤ B.toNat →
    ∃ o' s' u' q' v' y6, Bz x y B o' 0 s' u' q' v' ∧ sWhile (cTru (cVar 1)) bodZ [some (.int o), some (.int t), some (.int s), some (.int q), some (.int u), some (.int v), x6] M =
      some (.nx [some (.int o'), some (.int 0), some (.int s'), some (.int q'), some (.int u'), some (.int v'), y6], M) := by
  intro n
  induction n using Nat.strongRecOn with
  | ind n ih =>
    intro o t s u q v x6 hn h ho p1 p2
    by_cases ht : t = 0
    · subst ht
      exact ⟨o, s, u, q, v, x6, h, sWhile_stop (M1 := M) (by simp)⟩
    · obtain ⟨b1, b2, b3, b4, b5, c1, c2, c3, c4⟩ := bz_step hB0 hB ht h (by omega) p1 p2
      obtain ⟨o', s', u', q', v', y6, k1, k2⟩ := ih _ (by omega) t _ _ _ _ _ _ rfl b1 b2 b4 b5
      exact ⟨o', s', u', q', v', y6, k1, sWhile_more (M1 := M) (M2 := M) (by simp [ht]) (bodZ_is ht c4 c1 c2 c3) k2⟩
/-- the greatest common divisor, and what makes it -/
theorem bezout_is {x y B : Int} (hx : 0 ≤ x) (hB : B ≤ 10 ^ 150) (hxB : x + 1 ≤ B) (hyB : -B + 1 ≤ y ∧ y + 1 ≤ B) (hsum : x + 2 * (y.natAbs : Int) + 2 ≤ B) :
    ∃ s t : Int, s * x + t * y = (Int.gcd x y : Int) ∧ (-B ≤ s ∧ s ≤ B) ∧ (-B ≤ t ∧ t ≤ B) ∧ m_bezout [.int x, .int y] M = some (.ok (.tup [.int (Int.gcd x y), .int s, .int t]), M) := by
  have key : ∃ o' s' u' q' v' y6, Bz x y B o' 0 s' u' q' v' ∧ sWhile (cTru (cVar 1)) bodZ [some (.int x), some (.int y), some (.int 1), some (.int 0), some (.int 0), some (.int 1), none] M =
      some (.nx [some (.int o'), some (.int 0), some (.int s'), some (.int q'), some (.int u'), some (.int v'), y6], M) := by
    have h0 : Bz x y B x y 1 0 0 1 := ⟨by omega, by omega, rfl, by omega, by omega, by omega, by omega, by omega, by omega⟩
    by_cases hy : 0 ≤ y
    · exact bz_loop (by omega) hB _ _ _ _ _ _ _ _ rfl h0 (.inl ⟨hx, hy⟩) (by simp; omega) (by simp; omega)
    · -- the first turn goes below 0
      have hm := fdiv_mod x y
      have hn := fmod_neg (a := x) (show y < 0 by omega)
      have er : x - x.fdiv y * y = x.fmod y := by rw [Int.mul_comm]; omega
      have hw : (x.fdiv y).natAbs * y.natAbs ≤ x.natAbs + y.natAbs := by
        have e : (y * x.fdiv y).natAbs = y.natAbs * (x.fdiv y).natAbs := Int.natAbs_mul ..
        rw [Nat.mul_comm, ← e]
        omega
      have hw2 : (x.fdiv y).natAbs ≤ x.natAbs + y.natAbs := Nat.le_trans (Nat.le_mul_of_pos_right _ (by omega)) hw
      have hwB : -B ≤ x.fdiv y ∧ x.fdiv y ≤ B := by omega
      have h1 : Bz x y B y (x - x.fdiv y * y) 0 (1 - x.fdiv y * 0) 1 (0 - x.fdiv y * 1) := by
        refine ⟨by omega, ?_, ?_, by omega, by omega, ?_, ?_, by omega, ?_⟩
        · rw [Int.mul_zero, Int.mul_one]
          generalize x.fdiv y = w
          grind
        · rw [er, gcd_fmod]
        · rw [Int.mul_zero]; omega
        · rw [Int.mul_one]; omega
        · rw [er]; omega
      obtain ⟨o', s', u', q', v', y6, k1, k2⟩ := bz_loop (M := M) (x := x) (y := y) (B := B) (by omega) hB _ y (x - x.fdiv y * y) 0 (1 - x.fdiv y * 0) 1 (0 - x.fdiv y * 1) (some (.int (x.fdiv y))) rfl h1 (.inr (by rw [er]; omega)) (by rw [Int.mul_zero]; simp; omega) (by
        rw [Int.mul_one, er]
        have e1 : (0 - x.fdiv y).natAbs = (x.fdiv y).natAbs := by omega
        rw [e1, Nat.mul_comm]
        have : (x.fmod y).natAbs ≤ y.natAbs := by omega
        simp
        omega)
      refine ⟨o', s', u', q', v', y6, k1, sWhile_more (M1 := M) (M2 := M) (by simp; omega) (bodZ_is (by omega) ?_ (mulC_sz (sz_of hB hwB) (sz_of hB (by omega)) (by decide)) (mulC_sz (sz_of hB hwB) (k := 540) (by decide) (by decide)) (mulC_sz (sz_of hB hwB) (k := 540) (by decide) (by decide))) k2⟩
      have := (sz_of (x := y) hB (by omega)).log
      omega
  obtain ⟨o', s', u', q', v', y6, k1, k2⟩ := key
  have hg := k1.g
  rw [Int.gcd_zero_right] at hg
  have hf : ∀ r : SRes, m_bezout [.int x, .int y] M = gcF M (fin (sSeq (sWhile (cTru (cVar 1)) bodZ) (sRet (cIf (cTru (cOp gLt (cVar 0) (cC (.int 0)))) (cTup (aCons (cOp gSub (cC (.int 0)) (cVar 0)) (aCons (cOp gSub (cC (.int 0)) (cVar 2)) (aCons (cOp gSub (cC (.int 0)) (cVar 3)) aNil)))) (cTup (aCons (cVar 0) (aCons (cVar 2) (aCons (cVar 3) aNil)))))) [some (.int x), some (.int y), some (.int 1), some (.int 0), some (.int 0), some (.int 1), none] M)) := by
    intro r
    unfold m_bezout f_bezout
    rw [mDef_2, show start0 7 [D.int x, .int y] = [some (.int x), some (.int y), none, none, none, none, none] from rfl]
    rw [sSeq_nx (en1 := [some (.int x), some (.int y), some (.int 1), some (.int 0), some (.int 0), some (.int 1), none]) (M1 := M) (by simp [show szOk 4 = true by decide])]
    rfl
  rw [hf none, sSeq_nx k2]
  by_cases hneg : o' < 0
  · refine ⟨-s', -q', ?_, by have := k1.s1; omega, by have := k1.q1; omega, ?_⟩
    · have := k1.e1
      rw [Int.neg_mul, Int.neg_mul]
      omega
    · have e : (Int.gcd x y : Int) = -o' := by omega
      rw [e]
      simp [hneg]
  · refine ⟨s', q', ?_, k1.s1, k1.q1, ?_⟩
    · have := k1.e1
      omega
    · have e : (Int.gcd x y : Int) = o' := by omega
      rw [e]
      simp [hneg]
end K12
/-! k12: the search for a worth without a common divisor. -/
namespace K12
open PySem DL
variable {M : Store}
/-- a loop that hands back at its first hit -/
theorem fLoop_find {α : Type} (enc : α → D) {g : GF} {p : SF} (Inv : DL.Env → Prop) (Post : D → Prop) (hit : α → Prop) : ∀ (l : List α),
    (∀ x ∈ l, ∀ en, Inv en → ∃ en1, g (enc x) en M = some (en1, M) ∧ ((∃ d, p en1 M = some (.rt d, M) ∧ Post d) ∨ (¬ hit x ∧ ∃ en2, p en1 M = some (.nx en2, M) ∧ Inv en2))) →
    ∀ en, Inv en → (∃ d, fLoop g p (l.map enc) en M = some (.rt d, M) ∧ Post d) ∨ ((∀ x ∈ l, ¬ hit x) ∧ ∃ en2, fLoop g p (l.map enc) en M = some (.nx en2, M) ∧ Inv en2)
  | [], _, en, h => .inr ⟨fun _ z => absurd z List.not_mem_nil, en, rfl, h⟩
  | x :: l, hs, en, h => by
    obtain ⟨en1, h1, h2⟩ := hs x List.mem_cons_self en h
    rw [List.map_cons, fLoop_cons, h1]
    dsimp only
    rcases h2 with ⟨d, h2, h3⟩ | ⟨nh, en2, h2, h3⟩
    · rw [h2]; exact .inl ⟨d, rfl, h3⟩
    · rw [h2]
      rcases fLoop_find enc Inv Post hit l (fun y hy => hs y (List.mem_cons_of_mem _ hy)) en2 h3 with k | ⟨k1, k2⟩
      · exact .inl k
      · refine .inr ⟨fun y hy => ?_, k2⟩
        rcases List.mem_cons.mp hy with e | hy
        · rw [e]; exact nh
        · exact k1 y hy
noncomputable def bodP3 : SF := (sIf (tAndC (cTru (cOp (gEq false) (cCall m_divisor (aCons (cVar 3) (aCons (cVar 4) aNil))) (cC (.int 1)))) (cTru (cOp (gEq false) (cCall m_divisor (aCons (cCall m_two_worth (aCons (cVar 0) (aCons (cVar 3) (aCons (cVar 4) aNil)))) (aCons (cVar 1) aNil))) (cC (.int 1))))) (sSeq (sAsg (cCall m_bezout (aCons (cVar 3) (aCons (cVar 4) aNil))) (gTupC 3 (gConsC (gN 5) (gConsC (gN 6) (gConsC (gN 7) gNilC))))) (sRet (cTup (aCons (cTup (aCons (cVar 3) (aCons (cVar 4) aNil))) (aCons (cTup (aCons (cOp gSub (cC (.int 0)) (cVar 7)) (aCons (cVar 6) aNil))) aNil))))) sSkip)
/-- the change that is found -/
structure Fnd (g : Frm) (n : Int) (u : Chg) : Prop where
  det : u.det = 1
  cop : Int.gcd (g.act u).a n = 1
  p1 : 0 ≤ u.p ∧ u.p ≤ 2 * n + 2
  q1 : -(2 * n + 2) ≤ u.q ∧ u.q ≤ 2 * n + 2
  r1 : -(10 * n + 10) ≤ u.r ∧ u.r ≤ 10 * n + 10
  s1 : -(10 * n + 10) ≤ u.s ∧ u.s ≤ 10 * n + 10
def InvP (g : Frm) (n : Int) (en : DL.Env) : Prop := ∃ a2 a3 a4 a5 a6 a7 : Option D, en = [some (eF g), some (.int n), a2, a3, a4, a5, a6, a7]
def InvP2 (g : Frm) (n sz : Int) (en : DL.Env) : Prop := ∃ a3 a4 a5 a6 a7 : Option D, en = [some (eF g), some (.int n), some (.int sz), a3, a4, a5, a6, a7]
def InvP3 (g : Frm) (n sz x : Int) (en : DL.Env) : Prop := ∃ a4 a5 a6 a7 : Option D, en = [some (eF g), some (.int n), some (.int sz), some (.int x), a4, a5, a6, a7]
def PostP (g : Frm) (n : Int) (d : D) : Prop := ∃ u, Fnd g n u ∧ d = eC u
def good (g : Frm) (n x y : Int) : Prop := Int.gcd x y = 1 ∧ Int.gcd (g.wo x y) n = 1
theorem bodP3_is {g : Frm} {n sz x y : Int} {a5 a6 a7 : Option D} (hn : 1 ≤ n) (hn2 : n ≤ 10 ^ 20) (hs : 1 ≤ sz ∧ sz ≤ 2 * n + 2) (hx : 0 ≤ x ∧ x ≤ sz) (hy : -sz ≤ y ∧ y ≤ sz) (hg1 : Sz 540 g.a) (hg2 : Sz 540 g.b) (hg3 : Sz 540 g.c) :
    (∃ d, bodP3 [some (eF g), some (.int n), some (.int sz), some (.int x), some (.int y), a5, a6, a7] M = some (.rt d, M) ∧ PostP g n d) ∨
    (¬ good g n x y ∧ ∃ en2, bodP3 [some (eF g), some (.int n), some (.int sz), some (.int x), some (.int y), a5, a6, a7] M = some (.nx en2, M) ∧ InvP3 g n sz x en2) := by
  have sx : Sz 540 x := Sg.sz ⟨by omega, by omega⟩
  have sy : Sz 540 y := Sg.sz ⟨by omega, by omega⟩
  have hw := worth_sz (M := M) (by decide) hg1 hg2 hg3 sx sy
  have ew : worthF g.a g.b g.c x y = g.wo x y := rfl
  rw [ew] at hw
  have eg : eRow [g.a, g.b, g.c] = eF g := rfl
  rw [eg] at hw
  have t1 : tAndC (cTru (cOp (gEq false) (cCall m_divisor (aCons (cVar 3) (aCons (cVar 4) aNil))) (cC (.int 1)))) (cTru (cOp (gEq false) (cCall m_divisor (aCons (cCall m_two_worth (aCons (cVar 0) (aCons (cVar 3) (aCons (cVar 4) aNil)))) (aCons (cVar 1) aNil))) (cC (.int 1))))
      [some (eF g), some (.int n), some (.int sz), some (.int x), some (.int y), a5, a6, a7] M = some (.ok ((Int.gcd x y : Int) == 1 && (Int.gcd (g.wo x y) n : Int) == 1), M) := by
    simp only [tAndC_e, cTru_e, cOp_e, cCall_e, aCons_e, aNil_e, cVar_e, cC_e, List.getElem?_cons_zero, List.getElem?_cons_succ, bnd_ok, divisor_is, gEq_int, Bool.false_eq_true, if_false, tru_bl, hw]
    cases ((Int.gcd x y : Int) == 1) <;> simp
  by_cases hgd : good g n x y
  · left
    obtain ⟨h1, h2⟩ := hgd
    obtain ⟨s, t, e1, e2, e3, e4⟩ := bezout_is (M := M) (x := x) (y := y) (B := 10 * n + 10) hx.1 (by omega) (by omega) (by omega) (by omega)
    rw [h1] at e1 e4
    refine ⟨eC ⟨x, y, 0 - t, s⟩, ?_, ⟨x, y, 0 - t, s⟩, ⟨?_, h2, by simp only; omega, by simp only; omega, by simp only; omega, e2⟩, rfl⟩
    · unfold bodP3
      rw [sIf_e, t1, sbnd_ok, h1, h2]
      simp [e4, eC, row2, tab2]
    · show x * s - y * (0 - t) = 1
      have e1 : s * x + t * y = 1 := e1
      rw [← e1]
      grind
  · right
    refine ⟨hgd, [some (eF g), some (.int n), some (.int sz), some (.int x), some (.int y), a5, a6, a7], ?_, some (.int y), a5, a6, a7, rfl⟩
    unfold bodP3
    rw [sIf_e, t1, sbnd_ok]
    have : ((Int.gcd x y : Int) == 1 && (Int.gcd (g.wo x y) n : Int) == 1) = false := by
      rw [Bool.and_eq_false_iff, beq_eq_false_iff_ne, beq_eq_false_iff_ne]
      rcases Decidable.em (Int.gcd x y = 1) with z | z
      · exact .inr fun w => hgd ⟨z, by omega⟩
      · exact .inl fun w => z (by omega)
    rw [this]
    simp
noncomputable def bodP2 : SF := (sFor (iSeq (cTup (aCons (cOp gSub (cVar 2) (cVar 3)) (aCons (cOp gSub (cVar 3) (cVar 2)) aNil)))) (gN 4) bodP3)
noncomputable def bodP1 : SF := (sFor (iRng1C (aCons (cOp gAddA (cVar 2) (cC (.int 1))) aNil)) (gN 3) bodP2)
theorem bodP2_is {g : Frm} {n sz x : Int} {en : DL.Env} (hn : 1 ≤ n) (hn2 : n ≤ 10 ^ 20) (hs : 1 ≤ sz ∧ sz ≤ 2 * n + 2) (hx : 0 ≤ x ∧ x ≤ sz) (hg1 : Sz 540 g.a) (hg2 : Sz 540 g.b) (hg3 : Sz 540 g.c) (hi : InvP3 g n sz x en) :
    (∃ d, bodP2 en M = some (.rt d, M) ∧ PostP g n d) ∨ ((¬ good g n x (sz - x)) ∧ ∃ en2, bodP2 en M = some (.nx en2, M) ∧ InvP2 g n sz en2) := by
  have hl : iSeq (cTup (aCons (cOp gSub (cVar 2) (cVar 3)) (aCons (cOp gSub (cVar 3) (cVar 2)) aNil))) en M = some (.ok ([sz - x, x - sz].map D.int), M) := by
    obtain ⟨a4, a5, a6, a7, rfl⟩ := hi
    simp
  unfold bodP2
  rw [sFor_e, hl, sbnd_ok]
  have step : ∀ y ∈ [sz - x, x - sz], ∀ en, InvP3 g n sz x en → ∃ en1, gN 4 (D.int y) en M = some (en1, M) ∧ ((∃ d, bodP3 en1 M = some (.rt d, M) ∧ PostP g n d) ∨ (¬ good g n x y ∧ ∃ en2, bodP3 en1 M = some (.nx en2, M) ∧ InvP3 g n sz x en2)) := by
    intro y hy en hi
    obtain ⟨a4, a5, a6, a7, rfl⟩ := hi
    simp only [List.mem_cons, List.not_mem_nil, or_false] at hy
    exact ⟨_, rfl, bodP3_is hn hn2 hs hx (by rcases hy with rfl | rfl <;> omega) hg1 hg2 hg3⟩
  rcases fLoop_find (M := M) D.int (g := gN 4) (p := bodP3) (InvP3 g n sz x) (PostP g n) (fun y => good g n x y) [sz - x, x - sz] step en hi with h | ⟨h1, en2, h2, a4, a5, a6, a7, e⟩
  · exact .inl h
  · exact .inr ⟨h1 _ List.mem_cons_self, en2, h2, some (.int x), a4, a5, a6, a7, e⟩
theorem bodP1_is {g : Frm} {n sz : Int} {en : DL.Env} (hn : 1 ≤ n) (hn2 : n ≤ 10 ^ 15) (hs : 1 ≤ sz ∧ sz ≤ 2 * n + 2) (hg1 : Sz 540 g.a) (hg2 : Sz 540 g.b) (hg3 : Sz 540 g.c) (hi : InvP2 g n sz en) :
    (∃ d, bodP1 en M = some (.rt d, M) ∧ PostP g n d) ∨ ((∀ x, 0 ≤ x → x ≤ sz → ¬ good g n x (sz - x)) ∧ ∃ en2, bodP1 en M = some (.nx en2, M) ∧ InvP g n en2) := by
  have hl : iRng1C (aCons (cOp gAddA (cVar 2) (cC (.int 1))) aNil) en M = some (.ok ((rgI 0 (sz + 1).toNat).map D.int), M) := by
    obtain ⟨a3, a4, a5, a6, a7, rfl⟩ := hi
    simp [smI_of (show -(2 ^ 62) ≤ sz + 1 by omega) (show sz + 1 < 2 ^ 62 by omega), rgD_eq]
  unfold bodP1
  rw [sFor_e, hl, sbnd_ok]
  have step : ∀ x ∈ rgI 0 (sz + 1).toNat, ∀ en, InvP2 g n sz en → ∃ en1, gN 3 (D.int x) en M = some (en1, M) ∧ ((∃ d, bodP2 en1 M = some (.rt d, M) ∧ PostP g n d) ∨ (¬ good g n x (sz - x) ∧ ∃ en2, bodP2 en1 M = some (.nx en2, M) ∧ InvP2 g n sz en2)) := by
    intro x hx en hi
    obtain ⟨a3, a4, a5, a6, a7, rfl⟩ := hi
    have hb := mem_rgI.mp hx
    exact ⟨_, rfl, bodP2_is hn (by omega) hs (by omega) hg1 hg2 hg3 ⟨a4, a5, a6, a7, rfl⟩⟩
  rcases fLoop_find (M := M) D.int (g := gN 3) (p := bodP2) (InvP2 g n sz) (PostP g n) (fun x => good g n x (sz - x)) (rgI 0 (sz + 1).toNat) step en hi with h | ⟨h1, en2, h2, a3, a4, a5, a6, a7, e⟩
  · exact .inl h
  · exact .inr ⟨fun x hx hx2 => h1 x (mem_rgI.mpr (by omega)), en2, h2, some (.int sz), a3, a4, a5, a6, a7, e⟩
/-- the search finds -/
theorem prime_to_is {g : Frm} {n : Int} (hp : g.pos) (hq : g.prim) (hn : 1 ≤ n) (hn2 : n ≤ 10 ^ 15) (hg1 : Sz 540 g.a) (hg2 : Sz 540 g.b) (hg3 : Sz 540 g.c) : ∃ u, Fnd g n u ∧ m_prime_to [eF g, .int n] M = some (.ok (eC u), M) := by
  have hl : iRng2C (aCons (cC (.int 1)) (aCons (cOp gAddA (cOp gMul (cC (.int 2)) (cCall gAbs (aCons (cVar 1) aNil))) (cC (.int 3))) aNil)) [some (eF g), some (.int n), none, none, none, none, none, none] M = some (.ok ((rgI 1 (2 * n + 2).toNat).map D.int), M) := by
    have e : (2 * n + 3 - 1).toNat = (2 * n + 2).toNat := by omega
    simp [smI_of (show -(2 ^ 62) ≤ 2 * n + 3 by omega) (show 2 * n + 3 < 2 ^ 62 by omega), show smI 1 = true by decide, rgD_eq, show ¬ n < 0 by omega, m2, e]
  have key : ∃ d, fLoop (gN 2) bodP1 ((rgI 1 (2 * n + 2).toNat).map D.int) [some (eF g), some (.int n), none, none, none, none, none, none] M = some (.rt d, M) ∧ PostP g n d := by
    have step : ∀ sz ∈ rgI 1 (2 * n + 2).toNat, ∀ en, InvP g n en → ∃ en1, gN 2 (D.int sz) en M = some (en1, M) ∧ ((∃ d, bodP1 en1 M = some (.rt d, M) ∧ PostP g n d) ∨ (¬ (∃ x, 0 ≤ x ∧ x ≤ sz ∧ good g n x (sz - x)) ∧ ∃ en2, bodP1 en1 M = some (.nx en2, M) ∧ InvP g n en2)) := by
      intro sz hsz en hi
      obtain ⟨a2, a3, a4, a5, a6, a7, rfl⟩ := hi
      have hb := mem_rgI.mp hsz
      refine ⟨_, rfl, ?_⟩
      rcases bodP1_is (M := M) (sz := sz) hn hn2 (by omega) hg1 hg2 hg3 ⟨a3, a4, a5, a6, a7, rfl⟩ with h | ⟨h1, h2⟩
      · exact .inl h
      · exact .inr ⟨fun ⟨x, z1, z2, z3⟩ => h1 x z1 z2 z3, h2⟩
    rcases fLoop_find (M := M) D.int (g := gN 2) (p := bodP1) (InvP g n) (PostP g n) (fun sz => ∃ x, 0 ≤ x ∧ x ≤ sz ∧ good g n x (sz - x)) (rgI 1 (2 * n + 2).toNat) step _ ⟨none, none, none, none, none, none, rfl⟩ with h | ⟨h1, _⟩
    · exact h
    · exfalso
      have hc := pos_c hp
      have ha := hp.1
      have ea : ((g.a.toNat : Nat) : Int) = g.a := by omega
      have ec : ((g.c.toNat : Nat) : Int) = g.c := by omega
      have en : ((n.toNat : Nat) : Int) = n := by omega
      obtain ⟨x, y, k1, k2, k3, k4, k5⟩ := cop_worth (a := g.a.toNat) (c := g.c.toNat) (n := n.toNat) (b := g.b) (by rw [ea, ec]; exact hq) (by omega)
      rw [ea, ec, en] at k5
      refine h1 ((x : Int) + y) (mem_rgI.mpr (by omega)) ⟨x, by omega, by omega, ?_⟩
      rw [show (x : Int) + y - x = y by omega]
      exact ⟨k4, k5⟩
  obtain ⟨d, h1, u, h2, rfl⟩ := key
  refine ⟨u, h2, ?_⟩
  unfold m_prime_to f_prime_to
  rw [mDef_2, show start0 8 [eF g, .int n] = [some (eF g), some (.int n), none, none, none, none, none, none] from rfl]
  have h0 : sFor (iRng2C (aCons (cC (.int 1)) (aCons (cOp gAddA (cOp gMul (cC (.int 2)) (cCall gAbs (aCons (cVar 1) aNil))) (cC (.int 3))) aNil))) (gN 2) bodP1 [some (eF g), some (.int n), none, none, none, none, none, none] M = some (.rt (eC u), M) := by
    rw [sFor_e, hl, sbnd_ok]; exact h1
  unfold bodP1 bodP2 bodP3 at h0
  rw [sSeq_rt h0, fin_rt]
  exact gcF_ok0 clo_tab rfl
end K12
set_option exponentiation.threshold 3000
/-! k12: put_together, its parts. -/
namespace K12
open PySem DL
variable {M : Store}
def eM (m : M24) : D := eTab [[m.x1, m.x2, m.x3, m.x4], [m.y1, m.y2, m.y3, m.y4]]
theorem undone_two_is {u : Chg} : m_undone_two [eC u] M = some (.ok (eC u.inv), M) := by
  unfold m_undone_two f_undone_two
  simp [eC, Chg.inv, row2, tab2]
theorem undone_columns_is {u : Chg} : m_undone_columns_two [eC u] M = some (.ok (eTab [[u.s, -u.r], [-u.q, u.p]]), M) := by
  unfold m_undone_columns_two f_undone_columns_two
  simp [eC, row2, tab2]
def szM (k : Nat) (m : M24) : Prop := Sz k m.x1 ∧ Sz k m.x2 ∧ Sz k m.x3 ∧ Sz k m.x4 ∧ Sz k m.y1 ∧ Sz k m.y2 ∧ Sz k m.y3 ∧ Sz k m.y4
def szC (k : Nat) (u : Chg) : Prop := Sz k u.p ∧ Sz k u.q ∧ Sz k u.r ∧ Sz k u.s
theorem szC.inv {k : Nat} {u : Chg} (h : szC k u) : szC k u.inv := ⟨h.2.2.2, h.2.1.neg, h.2.2.1.neg, h.1⟩
theorem Sz.mm {j k : Nat} {a b c d : Int} (h1 : Sz j a) (h2 : Sz k b) (h3 : Sz j c) (h4 : Sz k d) : Sz (j + k + 1) (a * b + c * d) := (h1.mul h2).add (h3.mul h4)
/-- one row of the paper, over two changes -/
theorem bil_row {l r : Chg} {a b c d : Int} {k : Nat} (hk : k ≤ 10000) (hl : szC k l) (hr : szC k r) (ha : Sz k a) (hb : Sz k b) (hc : Sz k c) (hd : Sz k d) :
    m_product [eC l, eTab [[a, b], [c, d]]] M = some (.ok (eTab [[l.p * a + l.q * c, l.p * b + l.q * d], [l.r * a + l.s * c, l.r * b + l.s * d]]), M) :=
  product_sz (by omega) hl.1 hl.2.1 hl.2.2.1 hl.2.2.2 ha hb hc hd
theorem bil_row2 {r : Chg} {a b c d : Int} {j k : Nat} (hk : k ≤ 10000) (hj : j ≤ 100000) (hr : szC k r) (ha : Sz j a) (hb : Sz j b) (hc : Sz j c) (hd : Sz j d) :
    m_product [eTab [[a, b], [c, d]], eTab [[r.p, r.r], [r.q, r.s]]] M = some (.ok (eTab [[a * r.p + b * r.q, a * r.r + b * r.s], [c * r.p + d * r.q, c * r.r + d * r.s]]), M) :=
  product_sz (by omega) ha hb hc hd hr.1 hr.2.2.1 hr.2.1 hr.2.2.2
/-- a row over two changes -/
def bilR (l r : Chg) (a b c d : Int) : List Int :=
  [(l.p * a + l.q * c) * r.p + (l.p * b + l.q * d) * r.q, (l.p * a + l.q * c) * r.r + (l.p * b + l.q * d) * r.s, (l.r * a + l.s * c) * r.p + (l.r * b + l.s * d) * r.q, (l.r * a + l.s * c) * r.r + (l.r * b + l.s * d) * r.s]
noncomputable def bodBi : SF := (sSeq (sAsg (cCall m_product (aCons (cCall m_product (aCons (cVar 0) (aCons (cTup (aCons (cSl (cVar 4) oNone (oSome (cC (.int 2)))) (aCons (cSl (cVar 4) (oSome (cC (.int 2))) oNone) aNil))) aNil))) (aCons (cCall m_turned (aCons (cVar 1) aNil)) aNil))) (gN 5)) (sExpr (cApp (cVar 3) (cOp gAddA (cOp gIx (cVar 5) (cC (.int 0))) (cOp gIx (cVar 5) (cC (.int 1)))))))
theorem cut4a {d1 d2 d3 d4 : D} : cutD [d1, d2, d3, d4] none (some 2) = [d1, d2] := rfl
theorem cut4b {d1 d2 d3 d4 : D} : cutD [d1, d2, d3, d4] (some 2) none = [d3, d4] := rfl
theorem bodBi_is {l r : Chg} {a b c d : Int} {k : Nat} {x2 x5 : Option D} {acc : List D} (hk : k ≤ 10000) (hl : szC k l) (hr : szC k r) (ha : Sz k a) (hb : Sz k b) (hc : Sz k c) (hd : Sz k d) (hacc : acc.length ≤ 10) :
    ∃ y5, bodBi [some (eC l), some (eC r), x2, some (.cel M.length), some (eRow [a, b, c, d]), x5] (M ++ [acc]) = some (.nx [some (eC l), some (eC r), x2, some (.cel M.length), some (eRow [a, b, c, d]), y5], M ++ [acc ++ [eRow (bilR l r a b c d)]]) := by
  have p1 := bil_row (M := M ++ [acc]) hk hl hr ha hb hc hd
  have p2 := bil_row2 (M := M ++ [acc]) (j := k + k + 1) hk (by omega) hr (hl.1.mm ha hl.2.1 hc) (hl.1.mm hb hl.2.1 hd) (hl.2.2.1.mm ha hl.2.2.2 hc) (hl.2.2.1.mm hb hl.2.2.2 hd)
  have tr := turned_is (M := M ++ [acc]) (e := r.p) (f := r.q) (g := r.r) (h := r.s)
  have er : eC r = eTab [[r.p, r.q], [r.r, r.s]] := rfl
  have hsl : cTup (aCons (cSl (cVar 4) oNone (oSome (cC (.int 2)))) (aCons (cSl (cVar 4) (oSome (cC (.int 2))) oNone) aNil)) [some (eC l), some (eC r), x2, some (.cel M.length), some (eRow [a, b, c, d]), x5] (M ++ [acc]) = some (.ok (eTab [[a, b], [c, d]]), M ++ [acc]) := by
    simp [eRow, cut4a, cut4b, eTab]
  have h1 : sAsg (cCall m_product (aCons (cCall m_product (aCons (cVar 0) (aCons (cTup (aCons (cSl (cVar 4) oNone (oSome (cC (.int 2)))) (aCons (cSl (cVar 4) (oSome (cC (.int 2))) oNone) aNil))) aNil))) (aCons (cCall m_turned (aCons (cVar 1) aNil)) aNil))) (gN 5)
      [some (eC l), some (eC r), x2, some (.cel M.length), some (eRow [a, b, c, d]), x5] (M ++ [acc]) = some (.nx [some (eC l), some (eC r), x2, some (.cel M.length), some (eRow [a, b, c, d]),
        some (eTab [[(l.p * a + l.q * c) * r.p + (l.p * b + l.q * d) * r.q, (l.p * a + l.q * c) * r.r + (l.p * b + l.q * d) * r.s], [(l.r * a + l.s * c) * r.p + (l.r * b + l.s * d) * r.q, (l.r * a + l.s * c) * r.r + (l.r * b + l.s * d) * r.s]])], M ++ [acc]) := by
    simp only [sAsg_e, cCall_e, aCons_e, aNil_e, cVar_e, List.getElem?_cons_zero, List.getElem?_cons_succ, bnd_ok, hsl, p1]
    rw [er]
    simp only [tr, bnd_ok, p2, sbnd_ok, gN_e, List.set_cons_succ, List.set_cons_zero]
  refine ⟨some (eTab [[(l.p * a + l.q * c) * r.p + (l.p * b + l.q * d) * r.q, (l.p * a + l.q * c) * r.r + (l.p * b + l.q * d) * r.s], [(l.r * a + l.s * c) * r.p + (l.r * b + l.s * d) * r.q, (l.r * a + l.s * c) * r.r + (l.r * b + l.s * d) * r.s]]), ?_⟩
  unfold bodBi
  rw [sSeq_nx h1]
  have hz : szOk (acc.length + 1) = true := szOk_of (by omega)
  simp [hz, bilR, eTab, eRow, show szOk 4 = true by decide]
theorem bilinear_is {l r : Chg} {m : M24} {k : Nat} (hk : k ≤ 10000) (hl : szC k l) (hr : szC k r) (hm : szM k m) : m_bilinear [eC l, eC r, eM m] M = some (.ok (eTab [bilR l r m.x1 m.x2 m.x3 m.x4, bilR l r m.y1 m.y2 m.y3 m.y4]), M) := by
  obtain ⟨m1, m2, m3, m4, m5, m6, m7, m8⟩ := hm
  obtain ⟨y5, e1⟩ := bodBi_is (M := M) (x2 := some (eM m)) (x5 := none) (acc := []) hk hl hr m1 m2 m3 m4 (by simp)
  obtain ⟨z5, e2⟩ := bodBi_is (M := M) (x2 := some (eM m)) (x5 := y5) (acc := [eRow (bilR l r m.x1 m.x2 m.x3 m.x4)]) hk hl hr m5 m6 m7 m8 (by simp)
  unfold m_bilinear f_bilinear
  rw [mDef_3, show start0 6 [eC l, eC r, eM m] = [some (eC l), some (eC r), some (eM m), none, none, none] from rfl]
  rw [sSeq_nx (en1 := [some (eC l), some (eC r), some (eM m), some (.cel M.length), none, none]) (M1 := M ++ [[]]) (by simp)]
  have hf : sFor (iSeq (cVar 2)) (gN 4) bodBi [some (eC l), some (eC r), some (eM m), some (.cel M.length), none, none] (M ++ [[]]) = some (.nx [some (eC l), some (eC r), some (eM m), some (.cel M.length), some (eRow [m.y1, m.y2, m.y3, m.y4]), z5], M ++ [[eRow (bilR l r m.x1 m.x2 m.x3 m.x4), eRow (bilR l r m.y1 m.y2 m.y3 m.y4)]]) := by
    have hi : iSeq (cVar 2) [some (eC l), some (eC r), some (eM m), some (.cel M.length), none, none] (M ++ [[]]) = some (.ok [eRow [m.x1, m.x2, m.x3, m.x4], eRow [m.y1, m.y2, m.y3, m.y4]], M ++ [[]]) := by
      simp [eM]
    rw [sFor_e, hi, sbnd_ok, fLoop_cons]
    simp only [gN_e, List.set_cons_succ, List.set_cons_zero]
    rw [e1]
    dsimp only
    rw [fLoop_cons]
    simp only [gN_e, List.set_cons_succ, List.set_cons_zero, List.nil_append]
    rw [e2]
    rfl
  unfold bodBi at hf
  rw [sSeq_nx hf]
  have hr2 : sRet (cCall gTuple (aCons (cVar 3) aNil)) [some (eC l), some (eC r), some (eM m), some (.cel M.length), some (eRow [m.y1, m.y2, m.y3, m.y4]), z5] (M ++ [[eRow (bilR l r m.x1 m.x2 m.x3 m.x4), eRow (bilR l r m.y1 m.y2 m.y3 m.y4)]]) =
      some (.rt (eTab [bilR l r m.x1 m.x2 m.x3 m.x4, bilR l r m.y1 m.y2 m.y3 m.y4]), M ++ [[eRow (bilR l r m.x1 m.x2 m.x3 m.x4), eRow (bilR l r m.y1 m.y2 m.y3 m.y4)]]) := by
    simp [gTuple, eTab]
  rw [hr2, fin_rt]
  exact gcF_ok clo_tab rfl
/-- the paper over two changes -/
theorem bil_eq {l r : Chg} {m : M24} : eTab [bilR l r m.x1 m.x2 m.x3 m.x4, bilR l r m.y1 m.y2 m.y3 m.y4] = eM (((m.left l).swap.left r).swap) := by
  unfold eM bilR
  congr 1
  simp only [M24.left, M24.swap, List.cons.injEq, and_true]
  refine ⟨⟨?_, ?_, ?_, ?_⟩, ?_, ?_, ?_, ?_⟩ <;> grind
/-- the shift -/
theorem shifted_by_is {f h : Frm} (hf : 1 ≤ f.a) (hh : 1 ≤ h.a) (b1 : f.a ≤ 10 ^ 50) (b2 : h.a ≤ 10 ^ 50) (s1 : Sz 540 f.b) (s2 : Sz 540 h.b) (hg : Int.gcd f.a h.a = 1) (hpar : (h.b - f.b) % 2 = 0) :
    ∃ k j : Int, 0 ≤ k ∧ k < h.a ∧ f.b + 2 * f.a * k = h.b + 2 * h.a * j ∧ m_shifted_by [eF f, eF h] M = some (.ok (.int k), M) := by
  obtain ⟨s, t, e1, e2, e3, e4⟩ := bezout_is (M := M) (x := f.a) (y := h.a) (B := 10 ^ 60) (by omega) (by decide) (by omega) (by omega) (by omega)
  rw [hg] at e1 e4
  obtain ⟨d, hd⟩ : ∃ d, h.b - f.b = 2 * d := ⟨(h.b - f.b) / 2, by omega⟩
  have hd2 : (h.b - f.b) / 2 = d := by omega
  have sd : Sz 541 d := by
    have h1 := s2.sub s1
    unfold Sz at *
    have e : (h.b - f.b).natAbs = 2 * d.natAbs := by rw [hd, Int.natAbs_mul]; rfl
    omega
  have ss : Sz 540 s := Sg.sz ⟨by omega, by omega⟩
  refine ⟨d * s % h.a, ?_, Int.emod_nonneg _ (by omega), Int.emod_lt_of_pos _ (by omega), ?_, ?_⟩
  · exact -(f.a * (d * s / h.a)) - d * t
  · have h1 := Int.mul_ediv_add_emod (d * s) h.a
    have e1 : s * f.a + t * h.a = 1 := e1
    generalize d * s / h.a = w at *
    have h3 : d * s % h.a = d * s - h.a * w := by omega
    have h4 : h.b = f.b + 2 * d := by omega
    rw [h3, h4]
    have h5 : d = d * (s * f.a + t * h.a) := by rw [e1, Int.mul_one]
    have h6 : f.b + 2 * d = f.b + 2 * (d * (s * f.a + t * h.a)) := by rw [← h5]
    rw [h6]
    grind
  · unfold m_shifted_by f_shifted_by
    have i0 : ∀ a b c : Int, gIx (eRow [a, b, c]) (.int 0) M = some (.ok (.int a), M) := fun a b c => by simp
    have i1 : ∀ a b c : Int, gIx (eRow [a, b, c]) (.int 1) M = some (.ok (.int b), M) := fun a b c => by simp
    have hm : mulC d s = true := mulC_sz sd ss (by decide)
    have hmod : ∀ y : Int, modC y h.a = true := fun y => modC_of (by omega)
    rw [mDef_2, show start0 5 [eF f, eF h] = [some (eF f), some (eF h), none, none, none] from rfl]
    have h1 : sAsg (cCall m_bezout (aCons (cOp gIx (cVar 0) (cC (.int 0))) (aCons (cOp gIx (cVar 1) (cC (.int 0))) aNil))) (gTupC 3 (gConsC (gN 2) (gConsC (gN 3) (gConsC (gN 4) gNilC)))) [some (eF f), some (eF h), none, none, none] M =
        some (.nx [some (eF f), some (eF h), some (.int 1), some (.int s), some (.int t)], M) := by
      unfold eF
      simp only [sAsg_e, cCall_e, aCons_e, aNil_e, cOp_e, cVar_e, cC_e, List.getElem?_cons_zero, List.getElem?_cons_succ, bnd_ok, i0, e4, sbnd_ok]
      rfl
    rw [sSeq_nx h1]
    have h2 : sRet (cOp gMod (cOp gMul (cOp gDiv (cOp gSub (cOp gIx (cVar 1) (cC (.int 1))) (cOp gIx (cVar 0) (cC (.int 1)))) (cC (.int 2))) (cVar 3)) (cOp gIx (cVar 1) (cC (.int 0)))) [some (eF f), some (eF h), some (.int 1), some (.int s), some (.int t)] M = some (.rt (.int (d * s % h.a)), M) := by
      unfold eF
      simp only [sRet_e, cOp_e, cVar_e, cC_e, List.getElem?_cons_zero, List.getElem?_cons_succ, bnd_ok, i0, i1, gI_e, yes2_e, if_true, show divC (h.b - f.b) 2 = true from divC_of (by decide) (by decide), hd2, hm, hmod, sbnd_ok]
    rw [h2, fin_rt]
    exact gcF_ok0 rfl rfl
/-- columns of the last paper -/
theorem wide4 {a b c d : Int} {t : List (List Int)} : m_wide [eTab ([a, b, c, d] :: t)] M = some (.ok (.int 4), M) := by
  unfold m_wide f_wide
  simp [eTab]
theorem rgD_4 : rgD 0 4 = [.int 0, .int 1, .int 2, .int 3] := by rfl
theorem atI_3 {d1 d2 d3 d4 : D} {ds : List D} : L2.atI (d1 :: d2 :: d3 :: d4 :: ds) 3 = some d4 := by
  have := atI_nat (ds := d1 :: d2 :: d3 :: d4 :: ds) (i := 3) (by simp)
  simpa using this
theorem turned4 {m : M24} : m_turned [eM m] M = some (.ok (eTab [[m.x1, m.y1], [m.x2, m.y2], [m.x3, m.y3], [m.x4, m.y4]]), M) := by
  unfold m_turned f_turned eM
  simp [wide4, rgD_4, show smI 4 = true from rfl, atI_3, show szOk 4 = true by decide]
  rfl
theorem product4 {u : Chg} {m : M24} {j k : Nat} (hjk : j + k < 1000000) (hu : szC j u) (hm : szM k m) : m_product [eTab [[u.s, -u.r], [-u.q, u.p]], eM m] M = some (.ok (eM (m.front u)), M) := by
  obtain ⟨m1, m2, m3, m4, m5, m6, m7, m8⟩ := hm
  have ds : ∀ {a b c d : Int}, Sz j a → Sz j b → Sz k c → Sz k d → m_dot [eRow [a, b], eRow [c, d]] M = some (.ok (.int (a * c + b * d)), M) := fun h1 h2 h3 h4 => dot_is (mulC_sz h1 h3 hjk) (mulC_sz h2 h4 hjk)
  unfold m_product f_product
  simp [turned4, ds hu.2.2.2 hu.2.2.1.neg m1 m5, ds hu.2.2.2 hu.2.2.1.neg m2 m6, ds hu.2.2.2 hu.2.2.1.neg m3 m7, ds hu.2.2.2 hu.2.2.1.neg m4 m8, ds hu.2.1.neg hu.1 m1 m5, ds hu.2.1.neg hu.1 m2 m6, ds hu.2.1.neg hu.1 m3 m7, ds hu.2.1.neg hu.1 m4 m8, show szOk 4 = true by decide]
  unfold eM M24.front eTab
  simp only [D.tup.injEq, List.map_cons, List.map_nil, List.cons.injEq, and_true]
  unfold eRow
  simp only [D.tup.injEq, List.map_cons, List.map_nil, List.cons.injEq, and_true, D.int.injEq]
  refine ⟨⟨?_, ?_, ?_, ?_⟩, ?_, ?_, ?_, ?_⟩ <;> grind
end K12
set_option exponentiation.threshold 3000
/-! k12: put_together. -/
namespace K12
open PySem DL
variable {M : Store}
/-- within 10 ^ 9 -/
structure Bd9 (f : Frm) : Prop where
  a : f.a ≤ 10 ^ 9
  b1 : -(10 ^ 9) ≤ f.b
  b2 : f.b ≤ 10 ^ 9
  c : f.c ≤ 10 ^ 9
theorem left_inv {m : M24} {u : Chg} (hu : u.det = 1) : (m.left u).left u.inv = m := by
  obtain ⟨x1, x2, x3, x4, y1, y2, y3, y4⟩ := m
  obtain ⟨p, q, r, s⟩ := u
  have hu : p * s - q * r = 1 := hu
  simp only [M24.left, Chg.inv, M24.mk.injEq]
  have e : ∀ a b : Int, s * (p * a + q * b) + -q * (r * a + s * b) = (p * s - q * r) * a := fun a b => by clear hu; grind
  have e2 : ∀ a b : Int, -r * (p * a + q * b) + p * (r * a + s * b) = (p * s - q * r) * b := fun a b => by clear hu; grind
  refine ⟨?_, ?_, ?_, ?_, ?_, ?_, ?_, ?_⟩ <;> first | rw [e, hu, Int.one_mul] | rw [e2, hu, Int.one_mul]
/-- put together: the reduced form, and a paper with its signs -/
structure Tog (f g F : Frm) (m : M24) : Prop where
  comp : Comp f g F m
  red : Red F
  pos : F.pos
  prim : F.prim
  gap : F.gap = f.gap
  sz : szM 3000 m
theorem szM.front {m : M24} {u : Chg} {j k : Nat} (hu : szC j u) (hm : szM k m) : szM (j + k + 1) (m.front u) := by
  obtain ⟨m1, m2, m3, m4, m5, m6, m7, m8⟩ := hm
  obtain ⟨u1, u2, u3, u4⟩ := hu
  exact ⟨(u4.mul m1).sub (u3.mul m5), (u4.mul m2).sub (u3.mul m6), (u4.mul m3).sub (u3.mul m7), (u4.mul m4).sub (u3.mul m8), (u1.mul m5).sub (u2.mul m1), (u1.mul m6).sub (u2.mul m2), (u1.mul m7).sub (u2.mul m3), (u1.mul m8).sub (u2.mul m4)⟩
theorem szM.left {m : M24} {u : Chg} {j k : Nat} (hu : szC j u) (hm : szM k m) : szM (j + k + 1) (m.left u) := by
  obtain ⟨m1, m2, m3, m4, m5, m6, m7, m8⟩ := hm
  obtain ⟨u1, u2, u3, u4⟩ := hu
  exact ⟨u1.mm m1 u2 m3, u1.mm m2 u2 m4, u3.mm m1 u4 m3, u3.mm m2 u4 m4, u1.mm m5 u2 m7, u1.mm m6 u2 m8, u3.mm m5 u4 m7, u3.mm m6 u4 m8⟩
theorem szM.swap {m : M24} {k : Nat} (hm : szM k m) : szM k m.swap := by
  obtain ⟨m1, m2, m3, m4, m5, m6, m7, m8⟩ := hm
  exact ⟨m1, m3, m2, m4, m5, m7, m6, m8⟩
theorem szM.mono {m : M24} {j k : Nat} (h : szM j m) (g : j ≤ k) : szM k m := by
  obtain ⟨m1, m2, m3, m4, m5, m6, m7, m8⟩ := h
  exact ⟨m1.mono g, m2.mono g, m3.mono g, m4.mono g, m5.mono g, m6.mono g, m7.mono g, m8.mono g⟩
theorem put_together_is {f g : Frm} (pf : f.pos) (pg : g.pos) (qf : f.prim) (qg : g.prim) (hgap : f.gap = g.gap) (bf : Bd9 f) (bg : Bd9 g) (hlow : -(10 ^ 9) ≤ f.gap) :
    ∃ F m, Tog f g F m ∧ m_put_together [eF f, eF g] M = some (.ok (.tup [eF F, eM m]), M) := by
  have cf := pos_c pf; have cg := pos_c pg
  have af := pf.1; have ag := pg.1
  have bf1 := bf.a; have bf2 := bf.b1; have bf3 := bf.b2; have bf4 := bf.c
  have bg1 := bg.a; have bg2 := bg.b1; have bg3 := bg.b2; have bg4 := bg.c
  have zf : Sz 540 f.a ∧ Sz 540 f.b ∧ Sz 540 f.c := ⟨Sg.sz ⟨by omega, by omega⟩, Sg.sz ⟨by omega, by omega⟩, Sg.sz ⟨by omega, by omega⟩⟩
  have zg : Sz 540 g.a ∧ Sz 540 g.b ∧ Sz 540 g.c := ⟨Sg.sz ⟨by omega, by omega⟩, Sg.sz ⟨by omega, by omega⟩, Sg.sz ⟨by omega, by omega⟩⟩
  have k1 : m_check_two [eF f] M = some (.ok .non, M) := check_sz (by decide) zf.1 zf.2.1 zf.2.2 pf.2 pf.1 qf
  have k2 : m_check_two [eF g] M = some (.ok .non, M) := check_sz (by decide) zg.1 zg.2.1 zg.2.2 pg.2 pg.1 qg
  have g1 : m_gap [eF f] M = some (.ok (.int f.gap), M) := gap_sz (by decide) zf.1 zf.2.1 zf.2.2
  have g2 : m_gap [eF g] M = some (.ok (.int g.gap), M) := gap_sz (by decide) zg.1 zg.2.1 zg.2.2
  rw [← hgap] at g2
  have if0 : gIx (eF f) (.int 0) M = some (.ok (.int f.a), M) := by simp [eF]
  -- the second one's change
  obtain ⟨u, hu, e3⟩ := prime_to_is (M := M) (g := g) (n := f.a) pg qg af (by omega) zg.1 zg.2.1 zg.2.2
  have up1 := hu.p1; have uq1 := hu.q1; have ur1 := hu.r1; have us1 := hu.s1
  have gu : Sg u.p ∧ Sg u.q ∧ Sg u.r ∧ Sg u.s := ⟨⟨by omega, by omega⟩, ⟨by omega, by omega⟩, ⟨by omega, by omega⟩, ⟨by omega, by omega⟩⟩
  have e4 : m_two_changed [eF g, eC u] M = some (.ok (eF (g.act u)), M) := changed_sz (by decide) zg.1 zg.2.1 zg.2.2 gu.1.sz gu.2.1.sz gu.2.2.1.sz gu.2.2.2.sz
  have ph := pos_act pg hu.det
  have hh : (g.act u).gap = f.gap := by rw [gap_act, hu.det, hgap]; omega
  have hcop := hu.cop
  have bh : (g.act u).a ≤ 10 ^ 40 ∧ (-(10 ^ 40) ≤ (g.act u).b ∧ (g.act u).b ≤ 10 ^ 40) := by
    have Bp : -(10 ^ 11) ≤ u.p ∧ u.p ≤ 10 ^ 11 := by omega
    have Bq : -(10 ^ 11) ≤ u.q ∧ u.q ≤ 10 ^ 11 := by omega
    have Br : -(10 ^ 11) ≤ u.r ∧ u.r ≤ 10 ^ 11 := by omega
    have Bs : -(10 ^ 11) ≤ u.s ∧ u.s ≤ 10 ^ 11 := by omega
    have A : -(10 ^ 9) ≤ g.a ∧ g.a ≤ 10 ^ 9 := by omega
    have B : -(10 ^ 9) ≤ g.b ∧ g.b ≤ 10 ^ 9 := by omega
    have C : -(10 ^ 9) ≤ g.c ∧ g.c ≤ 10 ^ 9 := by omega
    have two : -(2 : Int) ≤ 2 ∧ (2 : Int) ≤ 2 := by omega
    have h1 := ab (ab (mb (mb A Bp) Bp) (mb (mb B Bp) Bq)) (mb (mb C Bq) Bq)
    have h2 := ab (ab (mb (mb (mb two A) Bp) Br) (mb B (ab (mb Bp Bs) (mb Bq Br)))) (mb (mb (mb two C) Bq) Bs)
    constructor
    · show worthF g.a g.b g.c u.p u.q ≤ _
      unfold worthF
      omega
    · show _ ≤ midF g.a g.b g.c u.p u.q u.r u.s ∧ midF g.a g.b g.c u.p u.q u.r u.s ≤ _
      unfold midF
      omega
  obtain ⟨h, hhd⟩ : ∃ h, h = g.act u := ⟨_, rfl⟩
  rw [← hhd] at e4 ph hh hcop bh
  have ah := ph.1
  have ih0 : gIx (eF h) (.int 0) M = some (.ok (.int h.a), M) := by simp [eF]
  have ih1 : gIx (eF h) (.int 1) M = some (.ok (.int h.b), M) := by simp [eF]
  -- the shift
  obtain ⟨k, j, s1, s2, s3, e5⟩ := shifted_by_is (M := M) (f := f) (h := h) af ah (by omega) (by omega) zf.2.1 (Sg.sz ⟨by omega, by omega⟩) (by rw [Int.gcd_comm]; exact hcop) (gap_par (by rw [hh]))
  have gs : Sg k := ⟨by omega, by omega⟩
  have e6 : m_two_changed [eF f, eC ⟨1, 0, k, 1⟩] M = some (.ok (eF (f.act ⟨1, 0, k, 1⟩)), M) := changed_sz (by decide) zf.1 zf.2.1 zf.2.2 sg1.sz sg0.sz gs.sz sg1.sz
  have hone := act_sh f k
  obtain ⟨b, hb⟩ : ∃ b, b = f.b + 2 * f.a * k := ⟨_, rfl⟩
  obtain ⟨o, ho⟩ : ∃ o, o = f.act ⟨1, 0, k, 1⟩ := ⟨_, rfl⟩
  have oa : o.a = f.a := by rw [ho, hone]
  have ob : o.b = b := by rw [ho, hone, hb]
  have po : o.pos := by rw [ho]; exact pos_act pf (det_sh k)
  have og : o.gap = f.gap := by rw [ho, gap_act, det_sh]; omega
  have qo : o.prim := by rw [ho]; exact prim_act (det_sh k) qf
  have io0 : gIx (eF o) (.int 0) M = some (.ok (.int f.a), M) := by rw [← oa]; simp [eF]
  have io1 : gIx (eF o) (.int 1) M = some (.ok (.int b), M) := by rw [← ob]; simp [eF]
  -- numbers
  have ka : 0 ≤ f.a * k ∧ f.a * k ≤ 10 ^ 9 * 10 ^ 40 := ⟨Int.mul_nonneg (by omega) s1, Int.mul_le_mul bf1 (by omega) s1 (by decide)⟩
  have e2ak : 2 * f.a * k = 2 * (f.a * k) := by grind
  have bb : -(10 ^ 9) ≤ b ∧ b ≤ 10 ^ 51 := by rw [hb, e2ak]; omega
  -- along
  have hal : (b - h.b) / (2 * h.a) = j := by
    have : b - h.b = 2 * h.a * j := by rw [hb, s3]; omega
    rw [this]
    exact Int.mul_ediv_cancel_left _ (by omega)
  have jb : -(10 ^ 52) ≤ j ∧ j ≤ 10 ^ 52 := by
    have e : 2 * h.a * j = 2 * (h.a * j) := by grind
    have e0 : b = h.b + 2 * (h.a * j) := by rw [hb, s3, e]
    have : h.a * j ≤ 10 ^ 52 ∧ -(10 ^ 52) ≤ h.a * j := by omega
    rcases Int.le_total 0 j with z | z
    · have := Int.mul_le_mul_of_nonneg_right ah z; omega
    · have := Int.mul_le_mul_of_nonneg_right ah (show 0 ≤ -j by omega)
      rw [Int.mul_neg, Int.mul_neg] at this; omega
  have sz2h : Sz 540 (2 * h.a) := Sg.sz ⟨by omega, by omega⟩
  have d1 : divC (b - h.b) (2 * h.a) = true := divC_sz (by omega) sz2h (by decide)
  have gj : Sg j := ⟨by omega, by omega⟩
  have e7 : m_product [eC ⟨1, 0, j, 1⟩, eC u] M = some (.ok (eC ((⟨1, 0, j, 1⟩ : Chg).mul u)), M) := product_sz (j := 540) (k := 540) (by decide) sg1.sz sg0.sz gj.sz sg1.sz gu.1.sz gu.2.1.sz gu.2.2.1.sz gu.2.2.2.sz
  obtain ⟨v, hv⟩ : ∃ v : Chg, v = (⟨1, 0, j, 1⟩ : Chg).mul u := ⟨_, rfl⟩
  rw [← hv] at e7
  have vd : v.det = 1 := by rw [hv, det_mul, hu.det, det_sh]; rfl
  have zv : szC 1081 v := by
    rw [hv]
    exact ⟨sg1.sz.mm gu.1.sz sg0.sz gu.2.2.1.sz, sg1.sz.mm gu.2.1.sz sg0.sz gu.2.2.2.sz, gj.sz.mm gu.1.sz sg1.sz gu.2.2.1.sz, gj.sz.mm gu.2.1.sz sg1.sz gu.2.2.2.sz⟩
  -- united
  have gv : g.act v = h.act ⟨1, 0, j, 1⟩ := by rw [hv, hhd, act_act]
  obtain ⟨w, hw⟩ : ∃ w, w = g.act v := ⟨_, rfl⟩
  have hsw := act_sh h j
  have wa : w.a = h.a := by rw [hw, gv, hsw]
  have wb : w.b = b := by rw [hw, gv, hsw, hb, s3]
  have wg : w.gap = f.gap := by rw [hw, gap_act, vd, hgap]; omega
  have qw : w.prim := by rw [hw]; exact prim_act vd qg
  obtain ⟨un1, un2⟩ := unite (f := o) (g := w) (by rw [og, wg]) og (by rw [ob, wb]) (by omega) (by omega) (by rw [oa, wa, Int.gcd_comm]; exact hcop)
  rw [oa, ob, wa] at un1 un2
  obtain ⟨c, hc⟩ : ∃ c, c = (b * b - f.gap) / (4 * f.a * h.a) := ⟨_, rfl⟩
  rw [← hc] at un1 un2
  have comp0 := comp_dir f.a h.a b c
  rw [← un1, ← un2] at comp0
  -- the form
  obtain ⟨F0, hF0⟩ : ∃ F0 : Frm, F0 = ⟨f.a * h.a, b, c⟩ := ⟨_, rfl⟩
  rw [← hF0] at comp0
  have qF : F0.prim := by rw [hF0]; exact united_prim (by rw [← un1]; exact qo) (by rw [← un2]; exact qw)
  have aF : 1 ≤ f.a * h.a ∧ f.a * h.a ≤ 10 ^ 9 * 10 ^ 40 := ⟨by have := Int.mul_le_mul af ah (by decide) (by omega); omega, Int.mul_le_mul bf1 bh.1 (by omega) (by decide)⟩
  have gF : F0.gap = f.gap := by
    have e := congrArg Frm.gap un1
    rw [hF0, ← og, e]
    simp only [Frm.gap, gapF]; grind
  have pF : F0.pos := ⟨by rw [hF0]; exact aF.1, by rw [gF]; exact pf.2⟩
  have cF := pos_c pF
  have c0 : F0.c = c := by rw [hF0]
  have bbq : b * b ≤ 10 ^ 51 * 10 ^ 51 := (mb (A := 10 ^ 51) (B := 10 ^ 51) ⟨by omega, by omega⟩ ⟨by omega, by omega⟩).2
  have cb : c ≤ 10 ^ 110 := by
    have e : b * b - 4 * (f.a * h.a) * c = f.gap := by
      have : F0.b * F0.b - 4 * F0.a * F0.c = f.gap := gF
      rw [hF0] at this; exact this
    have e2 : 4 * (f.a * h.a) * c = 4 * (f.a * h.a * c) := by rw [Int.mul_assoc]
    have e3 : c ≤ f.a * h.a * c := by
      have := Int.mul_le_mul_of_nonneg_right aF.1 (show 0 ≤ c by omega)
      omega
    omega
  have BF : BdB F0 := by rw [hF0]; exact ⟨by simp only; omega, by simp only; omega, by simp only; omega, by simp only; omega⟩
  obtain ⟨x, x1, x2, x3, e9⟩ := two_reduced_big (M := M) pF BF qF
  have xs := ent_sg pF BF x1 x3
  have zx : szC 540 x := ⟨xs.1.sz, xs.2.1.sz, xs.2.2.1.sz, xs.2.2.2.sz⟩
  -- c
  have d2 : divC (b * b - f.gap) (4 * f.a * h.a) = true := divC_sz (by
    have : 4 * f.a * h.a = 4 * (f.a * h.a) := by grind
    omega) (Sz.mul (Sz.mul sz4 zf.1) (Sg.sz (x := h.a) ⟨by omega, by omega⟩)) (by decide)
  have mbb : mulC b b = true := mulC_sz (j := 540) (k := 540) (Sg.sz ⟨by omega, by omega⟩) (Sg.sz ⟨by omega, by omega⟩) (by decide)
  have m4ah : mulC (4 * f.a) h.a = true := mulC_sz (Sz.mul sz4 zf.1) (Sg.sz (x := h.a) ⟨by omega, by omega⟩) (by decide)
  have mah : mulC f.a h.a = true := mulC_sz zf.1 (Sg.sz (x := h.a) ⟨by omega, by omega⟩) (by decide)
  -- the paper
  have zd : szM 540 (dirM f.a h.a b c) := by
    unfold dirM
    have q1 : Sz 540 (0 - c) := Sg.sz ⟨by omega, by omega⟩
    have q2 : Sz 540 h.a := Sg.sz ⟨by omega, by omega⟩
    have q3 : Sz 540 b := Sg.sz ⟨by omega, by omega⟩
    exact ⟨sg1.sz, sg0.sz, sg0.sz, q1, sg0.sz, zf.1, q2, q3⟩
  have z1 : szC 540 (⟨1, 0, k, 1⟩ : Chg).inv := szC.inv ⟨sg1.sz, sg0.sz, gs.sz, sg1.sz⟩
  have mono : szC 1081 (⟨1, 0, k, 1⟩ : Chg).inv := ⟨z1.1.mono (by decide), z1.2.1.mono (by decide), z1.2.2.1.mono (by decide), z1.2.2.2.mono (by decide)⟩
  have e8 := bilinear_is (M := M) (l := (⟨1, 0, k, 1⟩ : Chg).inv) (r := v.inv) (m := dirM f.a h.a b c) (k := 1081) (by decide) mono zv.inv (zd.mono (by decide))
  rw [bil_eq] at e8
  obtain ⟨m0, hm0⟩ : ∃ m0, m0 = (((dirM f.a h.a b c).left (⟨1, 0, k, 1⟩ : Chg).inv).swap.left v.inv).swap := ⟨_, rfl⟩
  rw [← hm0] at e8
  have zm0 : szM 2300 m0 := by
    rw [hm0]
    exact ((((zd.left z1).swap).left zv.inv).swap).mono (by decide)
  have comp1 : Comp f g F0 m0 := by
    have k1 := comp0.left (u := (⟨1, 0, k, 1⟩ : Chg).inv) (by rw [det_inv]; exact det_sh k)
    rw [ho, act_inv f _ (det_sh k)] at k1
    have k2 := k1.right (u := v.inv) (by rw [det_inv]; exact vd)
    rw [hw, act_inv g v vd] at k2
    rw [hm0]; exact k2
  have e10 := product4 (M := M) (u := x) (m := m0) (j := 540) (k := 2300) (by decide) zx zm0
  have e11 := undone_columns_is (M := M) (u := x)
  refine ⟨F0.act x, m0.front x, ⟨comp1.front x1, x2, pos_act pF x1, prim_act x1 qF, by rw [gap_act, x1, gF]; omega, (zm0.front zx).mono (by decide)⟩, ?_⟩
  have ef0 : eRow [f.a * h.a, b, c] = eF F0 := by rw [hF0]; rfl
  have ec1 : eTab [[1, 0], [k, 1]] = eC ⟨1, 0, k, 1⟩ := rfl
  have ec2 : eTab [[1, 0], [j, 1]] = eC ⟨1, 0, j, 1⟩ := rfl
  have em : D.tup [eRow [1, 0, 0, 0 - c], eRow [0, f.a, h.a, b]] = eM (dirM f.a h.a b c) := rfl
  have r4 : ∀ a b c d : Int, D.tup [.int a, .int b, .int c, .int d] = eRow [a, b, c, d] := fun _ _ _ _ => rfl
  unfold m_put_together f_put_together
  rw [mDef_2, show start0 14 [eF f, eF g] = [some (eF f), some (eF g), none, none, none, none, none, none, none, none, none, none, none, none] from rfl]
  rw [sSeq_nx (en1 := [some (eF f), some (eF g), none, none, none, none, none, none, none, none, none, none, none, none]) (M1 := M) (by simp [k1])]
  rw [sSeq_nx (en1 := [some (eF f), some (eF g), none, none, none, none, none, none, none, none, none, none, none, none]) (M1 := M) (by simp [k2])]
  rw [sSeq_nx (en1 := [some (eF f), some (eF g), none, none, none, none, none, none, none, none, none, none, none, none]) (M1 := M) (by simp [g1, g2])]
  rw [sSeq_nx (en1 := [some (eF f), some (eF g), some (eC u), none, none, none, none, none, none, none, none, none, none, none]) (M1 := M) (by simp [if0, e3])]
  rw [sSeq_nx (en1 := [some (eF f), some (eF g), some (eC u), some (eF h), none, none, none, none, none, none, none, none, none, none]) (M1 := M) (by simp [e4])]
  rw [sSeq_nx (en1 := [some (eF f), some (eF g), some (eC u), some (eF h), some (.int k), none, none, none, none, none, none, none, none, none]) (M1 := M) (by simp [e5])]
  rw [sSeq_nx (en1 := [some (eF f), some (eF g), some (eC u), some (eF h), some (.int k), some (eC ⟨1, 0, k, 1⟩), none, none, none, none, none, none, none, none]) (M1 := M) (by simp [row2, tab2, ec1])]
  rw [ho.symm] at e6
  rw [sSeq_nx (en1 := [some (eF f), some (eF g), some (eC u), some (eF h), some (.int k), some (eC ⟨1, 0, k, 1⟩), some (eF o), none, none, none, none, none, none, none]) (M1 := M) (by simp [e6])]
  rw [sSeq_nx (en1 := [some (eF f), some (eF g), some (eC u), some (eF h), some (.int k), some (eC ⟨1, 0, k, 1⟩), some (eF o), some (.int j), none, none, none, none, none, none]) (M1 := M) (by
    simp only [sAsg_e, cOp_e, cVar_e, cC_e, List.getElem?_cons_zero, List.getElem?_cons_succ, bnd_ok, io1, ih1, ih0, gI_e, yes2_e, if_true, m2, d1, hal, sbnd_ok, gN_e, List.set_cons_succ, List.set_cons_zero])]
  rw [sSeq_nx (en1 := [some (eF f), some (eF g), some (eC v), some (eF h), some (.int k), some (eC ⟨1, 0, k, 1⟩), some (eF o), some (.int j), none, none, none, none, none, none]) (M1 := M) (by simp [row2, tab2, ec2, e7])]
  rw [sSeq_nx (en1 := [some (eF f), some (eF g), some (eC v), some (eF h), some (.int k), some (eC ⟨1, 0, k, 1⟩), some (eF o), some (.int j), some (.int f.a), some (.int b), none, none, none, none]) (M1 := M) (by simp [io0, io1])]
  rw [sSeq_nx (en1 := [some (eF f), some (eF g), some (eC v), some (eF h), some (.int k), some (eC ⟨1, 0, k, 1⟩), some (eF o), some (.int j), some (.int f.a), some (.int b), some (.int c), none, none, none]) (M1 := M) (by
    simp only [sAsg_e, cOp_e, cCall_e, aCons_e, aNil_e, cVar_e, cC_e, List.getElem?_cons_zero, List.getElem?_cons_succ, bnd_ok, g1, ih0, gI_e, yes2_e, if_true, mbb, m4, m4ah, d2, hc.symm, sbnd_ok, gN_e, List.set_cons_succ, List.set_cons_zero])]
  rw [sSeq_nx (en1 := [some (eF f), some (eF g), some (eC v), some (eF h), some (.int k), some (eC ⟨1, 0, k, 1⟩), some (eF o), some (.int j), some (.int f.a), some (.int b), some (.int c), some (eM (dirM f.a h.a b c)), none, none]) (M1 := M) (by
    simp only [sAsg_e, cTup_e, cOp_e, aCons_e, aNil_e, cVar_e, cC_e, List.getElem?_cons_zero, List.getElem?_cons_succ, bnd_ok, ih0, gI_e, yes2_e, if_true, List.length_cons, List.length_nil, Nat.reduceAdd, show szOk 4 = true by decide, szOk_2, r4, em, sbnd_ok, gN_e, List.set_cons_succ, List.set_cons_zero])]
  rw [sSeq_nx (en1 := [some (eF f), some (eF g), some (eC v), some (eF h), some (.int k), some (eC ⟨1, 0, k, 1⟩), some (eF o), some (.int j), some (.int f.a), some (.int b), some (.int c), some (eM m0), none, none]) (M1 := M) (by simp [undone_two_is, e8])]
  rw [sSeq_nx (en1 := [some (eF f), some (eF g), some (eC v), some (eF h), some (.int k), some (eC ⟨1, 0, k, 1⟩), some (eF o), some (.int j), some (.int f.a), some (.int b), some (.int c), some (eM m0), some (eF (F0.act x)), some (eC x)]) (M1 := M) (by
    simp only [sAsg_e, cTup_e, cCall_e, cOp_e, aCons_e, aNil_e, cVar_e, cC_e, List.getElem?_cons_zero, List.getElem?_cons_succ, bnd_ok, ih0, gI_e, mah, if_true, List.length_cons, List.length_nil, Nat.reduceAdd, szOk_3, row3, ef0, e9, sbnd_ok]
    simp)]
  have hr : sRet (cTup (aCons (cVar 12) (aCons (cCall m_product (aCons (cCall m_undone_columns_two (aCons (cVar 13) aNil)) (aCons (cVar 11) aNil))) aNil))) [some (eF f), some (eF g), some (eC v), some (eF h), some (.int k), some (eC ⟨1, 0, k, 1⟩), some (eF o), some (.int j), some (.int f.a), some (.int b), some (.int c), some (eM m0), some (eF (F0.act x)), some (eC x)] M =
      some (.rt (.tup [eF (F0.act x), eM (m0.front x)]), M) := by
    simp only [sRet_e, cTup_e, cCall_e, aCons_e, aNil_e, cVar_e, List.getElem?_cons_zero, List.getElem?_cons_succ, bnd_ok, e11, e10, List.length_cons, List.length_nil, Nat.reduceAdd, szOk_2, if_true, sbnd_ok]
  rw [hr, fin_rt]
  exact gcF_ok0 (by simp [eF, eM]) rfl
end K12
set_option exponentiation.threshold 3000
/-! k12: shows_together. -/
namespace K12
open PySem DL
variable {M : Store}
/-- a loop that hands back d0 at the first that is not right -/
theorem fLoop_all {α : Type} (enc : α → D) {g : GF} {p : SF} {d0 : D} (Inv : DL.Env → Prop) (ok : α → Bool) : ∀ (l : List α),
    (∀ x ∈ l, ∀ en, Inv en → ∃ en1, g (enc x) en M = some (en1, M) ∧ ((ok x = true ∧ ∃ en2, p en1 M = some (.nx en2, M) ∧ Inv en2) ∨ (ok x = false ∧ p en1 M = some (.rt d0, M)))) →
    ∀ en, Inv en → (l.all ok = true ∧ ∃ en2, fLoop g p (l.map enc) en M = some (.nx en2, M) ∧ Inv en2) ∨ (l.all ok = false ∧ fLoop g p (l.map enc) en M = some (.rt d0, M))
  | [], _, en, h => .inl ⟨rfl, en, rfl, h⟩
  | x :: l, hs, en, h => by
    obtain ⟨en1, h1, h2⟩ := hs x List.mem_cons_self en h
    rw [List.map_cons, fLoop_cons, h1]
    dsimp only
    rcases h2 with ⟨q, en2, h2, h3⟩ | ⟨q, h2⟩
    · rw [h2]
      rcases fLoop_all enc Inv ok l (fun y hy => hs y (List.mem_cons_of_mem _ hy)) en2 h3 with ⟨k1, k2⟩ | ⟨k1, k2⟩
      · exact .inl ⟨by rw [List.all_cons, q, k1]; rfl, k2⟩
      · exact .inr ⟨by rw [List.all_cons, q, k1]; rfl, k2⟩
    · rw [h2]
      exact .inr ⟨by rw [List.all_cons, q]; rfl, rfl⟩
def prs : List (Int × Int) := [(0, 1), (1, 0), (1, 1), (1, -1), (1, 2)]
def ePr (p : Int × Int) : D := .tup [.int p.1, .int p.2]
theorem prs_b {p : Int × Int} (h : p ∈ prs) : (-1 ≤ p.1 ∧ p.1 ≤ 2) ∧ (-1 ≤ p.2 ∧ p.2 ≤ 2) := by
  simp only [prs, List.mem_cons, List.not_mem_nil, or_false] at h
  rcases h with rfl | rfl | rfl | rfl | rfl <;> decide
def idB (f g F : Frm) (m : M24) (p q : Int × Int) : Bool := F.wo (m.X p.1 p.2 q.1 q.2) (m.Y p.1 p.2 q.1 q.2) == f.wo p.1 p.2 * g.wo q.1 q.2
def minB (f g : Frm) (m : M24) : Bool := (m.x1 * m.y2 - m.y1 * m.x2 == f.a) && (m.x1 * m.y3 - m.y1 * m.x3 == g.a)
def showB (f g F : Frm) (m : M24) : Bool := minB f g m && prs.all fun p => prs.all fun q => idB f g F m p q
noncomputable def bodS2 : SF := (sSeq (sAsg (cTup (aCons (cOp gMul (cVar 7) (cVar 9)) (aCons (cOp gMul (cVar 7) (cVar 10)) (aCons (cOp gMul (cVar 8) (cVar 9)) (aCons (cOp gMul (cVar 8) (cVar 10)) aNil))))) (gN 11)) (sSeq (sAsg (cCall gSum (aCons (cLc (iZipC (aCons (cVar 4) (aCons (cVar 11) aNil))) (gTupC 2 (gConsC (gN 14) (gConsC (gN 15) gNilC))) tYesC (cOp gMul (cVar 14) (cVar 15)) [14, 15]) aNil)) (gN 12)) (sSeq (sAsg (cCall gSum (aCons (cLc (iZipC (aCons (cVar 5) (aCons (cVar 11) aNil))) (gTupC 2 (gConsC (gN 14) (gConsC (gN 15) gNilC))) tYesC (cOp gMul (cVar 14) (cVar 15)) [14, 15]) aNil)) (gN 13)) (sIf (cTru (cOp (gEq true) (cCall m_two_worth (aCons (cVar 2) (aCons (cVar 12) (aCons (cVar 13) aNil)))) (cOp gMul (cCall m_two_worth (aCons (cVar 0) (aCons (cVar 7) (aCons (cVar 8) aNil)))) (cCall m_two_worth (aCons (cVar 1) (aCons (cVar 9) (aCons (cVar 10) aNil))))))) (sRet (cC (.bl false))) sSkip))))
def rX (m : M24) : D := eRow [m.x1, m.x2, m.x3, m.x4]
def rY (m : M24) : D := eRow [m.y1, m.y2, m.y3, m.y4]
def szF (k : Nat) (f : Frm) : Prop := Sz k f.a ∧ Sz k f.b ∧ Sz k f.c
theorem sz_small {x : Int} (h : -1 ≤ x ∧ x ≤ 2) : Sz 2 x := by unfold Sz; omega
theorem szF.wo {j k : Nat} {f : Frm} {x y : Int} (h : szF j f) (hx : Sz k x) (hy : Sz k y) : Sz (j + k + k + 2) (f.wo x y) := by
  obtain ⟨h1, h2, h3⟩ := h
  show Sz _ (f.a * x * x + f.b * x * y + f.c * y * y)
  exact ((((h1.mul hx).mul hx).add ((h2.mul hx).mul hy)).add (((h3.mul hy).mul hy).mono (Nat.le_succ _))).mono (by omega)
theorem bodS2_is {f g F : Frm} {m : M24} {x y z w : Int} {a3 a6 a11 a12 a13 a14 a15 : Option D} (hf : szF 3000 f) (hg : szF 3000 g) (hF : szF 3000 F) (hm : szM 3001 m)
    (hx : -1 ≤ x ∧ x ≤ 2) (hy : -1 ≤ y ∧ y ≤ 2) (hz : -1 ≤ z ∧ z ≤ 2) (hw : -1 ≤ w ∧ w ≤ 2) :
    ∃ b11 b12 b13, bodS2 [some (eF f), some (eF g), some (eF F), a3, some (rX m), some (rY m), a6, some (.int x), some (.int y), some (.int z), some (.int w), a11, a12, a13, a14, a15] M =
      if idB f g F m (x, y) (z, w) = true then some (.nx [some (eF f), some (eF g), some (eF F), a3, some (rX m), some (rY m), a6, some (.int x), some (.int y), some (.int z), some (.int w), b11, b12, b13, a14, a15], M) else some (.rt (.bl false), M) := by
  obtain ⟨m1, m2, m3, m4, m5, m6, m7, m8⟩ := hm
  have sx := sz_small hx; have sy := sz_small hy; have sz := sz_small hz; have sw := sz_small hw
  have p1 := sx.mul sz; have p2 := sx.mul sw; have p3 := sy.mul sz; have p4 := sy.mul sw
  have mc : ∀ {x y : Int}, Sz 3001 x → Sz (2 + 2) y → mulC x y = true := fun h1 h2 => mulC_sz h1 h2 (by decide)
  have sX : Sz 3010 (m.X x y z w) := (((((m1.mul p1).add (m2.mul p2)).add ((m3.mul p3).mono (by decide))).add ((m4.mul p4).mono (by decide)))).mono (by decide)
  have sY : Sz 3010 (m.Y x y z w) := (((((m5.mul p1).add (m6.mul p2)).add ((m7.mul p3).mono (by decide))).add ((m8.mul p4).mono (by decide)))).mono (by decide)
  have w1 := worth_sz (M := M) (k := 3010) (by decide) (hF.1.mono (by decide)) (hF.2.1.mono (by decide)) (hF.2.2.mono (by decide)) sX sY
  have w2 := worth_sz (M := M) (k := 3000) (by decide) hf.1 hf.2.1 hf.2.2 (sx.mono (by decide)) (sy.mono (by decide))
  have w3 := worth_sz (M := M) (k := 3000) (by decide) hg.1 hg.2.1 hg.2.2 (sz.mono (by decide)) (sw.mono (by decide))
  have mm : mulC (f.wo x y) (g.wo z w) = true := mulC_sz (hf.wo sx sy) (hg.wo sz sw) (by decide)
  have w1' : m_two_worth [eF F, .int (m.X x y z w), .int (m.Y x y z w)] M = some (.ok (.int (F.wo (m.X x y z w) (m.Y x y z w))), M) := w1
  have w2' : m_two_worth [eF f, .int x, .int y] M = some (.ok (.int (f.wo x y)), M) := w2
  have w3' : m_two_worth [eF g, .int z, .int w] M = some (.ok (.int (g.wo z w)), M) := w3
  have mi : ∀ {x y : Int}, (-1 ≤ x ∧ x ≤ 2) → mulC x y = true := fun h => mulC_l (by omega) (by omega)
  have h1 : sAsg (cTup (aCons (cOp gMul (cVar 7) (cVar 9)) (aCons (cOp gMul (cVar 7) (cVar 10)) (aCons (cOp gMul (cVar 8) (cVar 9)) (aCons (cOp gMul (cVar 8) (cVar 10)) aNil))))) (gN 11) [some (eF f), some (eF g), some (eF F), a3, some (rX m), some (rY m), a6, some (.int x), some (.int y), some (.int z), some (.int w), a11, a12, a13, a14, a15] M =
      some (.nx [some (eF f), some (eF g), some (eF F), a3, some (rX m), some (rY m), a6, some (.int x), some (.int y), some (.int z), some (.int w), some (eRow [x * z, x * w, y * z, y * w]), a12, a13, a14, a15], M) := by
    simp [mi hx, mi hy, show szOk 4 = true by decide, eRow]
  have h2 : cCall gSum (aCons (cLc (iZipC (aCons (cVar 4) (aCons (cVar 11) aNil))) (gTupC 2 (gConsC (gN 14) (gConsC (gN 15) gNilC))) tYesC (cOp gMul (cVar 14) (cVar 15)) [14, 15]) aNil) [some (eF f), some (eF g), some (eF F), a3, some (rX m), some (rY m), a6, some (.int x), some (.int y), some (.int z), some (.int w), some (eRow [x * z, x * w, y * z, y * w]), a12, a13, a14, a15] M = some (.ok (.int (m.X x y z w)), M) := by
    simp [iZipC, rX, eRow, zipD, mc m1 p1, mc m2 p2, mc m3 p3, mc m4 p4, gSum, intsOf, M24.X, show szOk 4 = true by decide]
    try omega
  have h3 : cCall gSum (aCons (cLc (iZipC (aCons (cVar 5) (aCons (cVar 11) aNil))) (gTupC 2 (gConsC (gN 14) (gConsC (gN 15) gNilC))) tYesC (cOp gMul (cVar 14) (cVar 15)) [14, 15]) aNil) [some (eF f), some (eF g), some (eF F), a3, some (rX m), some (rY m), a6, some (.int x), some (.int y), some (.int z), some (.int w), some (eRow [x * z, x * w, y * z, y * w]), some (.int (m.X x y z w)), a13, a14, a15] M = some (.ok (.int (m.Y x y z w)), M) := by
    simp [iZipC, rY, eRow, zipD, mc m5 p1, mc m6 p2, mc m7 p3, mc m8 p4, gSum, intsOf, M24.Y, show szOk 4 = true by decide]
    try omega
  refine ⟨some (eRow [x * z, x * w, y * z, y * w]), some (.int (m.X x y z w)), some (.int (m.Y x y z w)), ?_⟩
  unfold bodS2
  rw [sSeq_nx h1]
  rw [sSeq_nx (en1 := [some (eF f), some (eF g), some (eF F), a3, some (rX m), some (rY m), a6, some (.int x), some (.int y), some (.int z), some (.int w), some (eRow [x * z, x * w, y * z, y * w]), some (.int (m.X x y z w)), a13, a14, a15]) (M1 := M) (by
    rw [sAsg_e, h2, sbnd_ok]; rfl)]
  rw [sSeq_nx (en1 := [some (eF f), some (eF g), some (eF F), a3, some (rX m), some (rY m), a6, some (.int x), some (.int y), some (.int z), some (.int w), some (eRow [x * z, x * w, y * z, y * w]), some (.int (m.X x y z w)), some (.int (m.Y x y z w)), a14, a15]) (M1 := M) (by
    rw [sAsg_e, h3, sbnd_ok]; rfl)]
  simp only [sIf_e, cTru_e, cOp_e, cCall_e, aCons_e, aNil_e, cVar_e, List.getElem?_cons_zero, List.getElem?_cons_succ, bnd_ok, w1', w2', w3', gI_e, mm, if_true, gEq_int, tru_bl, sbnd_ok]
  unfold idB
  cases (F.wo (m.X x y z w) (m.Y x y z w) == f.wo x y * g.wo z w) <;> simp
end K12
set_option exponentiation.threshold 3000
/-! k12: the law's own judge of a paper. -/
namespace K12
open PySem DL
variable {M : Store}
@[simp] theorem szOk_4 : szOk 4 = true := by decide
/-! a dict whose keys are pairs of ints, its values ints -/
abbrev KL := List ((Int × Int) × Int)
def eKy (p : Int × Int) : D := .tup [.int p.1, .int p.2]
def nKy (p : Int × Int) : NestedKey := .tup [.num p.1, .num p.2]
def kvE (l : KL) : List D := l.map fun q => .tup [eKy q.1, .int q.2]
def putL (l : KL) (p : Int × Int) (v : Int) : KL := if (l.lookup p).isSome = true then l.map (fun q => if q.1 = p then (q.1, v) else q) else l ++ [(p, v)]
def getL (l : KL) (p : Int × Int) : Int := (l.lookup p).getD 0
theorem keyN_ky (p : Int × Int) : keyN (eKy p) = some (nKy p) := by simp [eKy, keyN, keyNs, nKy]
theorem keyOk_ky (p : Int × Int) : keyOk (eKy p) = some (nKy p) := by
  have := keyN_ky p
  unfold eKy at *
  unfold keyOk
  dsimp only
  rw [this]
  dsimp only
  rw [if_pos]
  simp [nKy, NestedKey.depth, NestedKey.depthAll]
theorem nKy_inj {p q : Int × Int} : nKy p = nKy q ↔ p = q := by
  constructor
  · intro h
    unfold nKy at h
    simp only [NestedKey.tup.injEq, List.cons.injEq, NestedKey.num.injEq, and_true] at h
    exact Prod.ext h.1 h.2
  · intro h; rw [h]
theorem kvAt_E (p : Int × Int) : ∀ l : KL, kvAt (nKy p) (kvE l) = (l.lookup p).map D.int := by
  intro l
  induction l with
  | nil => rfl
  | cons q l ih =>
    obtain ⟨q1, v⟩ := q
    show (if keyN (eKy q1) = some (nKy p) then some (D.int v) else kvAt (nKy p) (kvE l)) = _
    rw [keyN_ky, List.lookup_cons]
    by_cases e : q1 = p
    · subst e; simp
    · have : ¬ (some (nKy q1) = some (nKy p)) := fun z => e (nKy_inj.mp (Option.some.inj z))
      have e2 : (p == q1) = false := by simpa using fun z => e z.symm
      rw [if_neg this, ih, e2]
theorem kvRep_E (p : Int × Int) (v : Int) : ∀ l : KL, kvRep (nKy p) (.int v) (kvE l) = kvE (l.map fun q => if q.1 = p then (q.1, v) else q) := by
  intro l
  induction l with
  | nil => rfl
  | cons q l ih =>
    obtain ⟨q1, w⟩ := q
    show (if keyN (eKy q1) = some (nKy p) then D.tup [eKy q1, .int v] else .tup [eKy q1, .int w]) :: kvRep (nKy p) (.int v) (kvE l) = _
    rw [keyN_ky, ih, List.map_cons]
    by_cases e : q1 = p
    · subst e; simp [kvE]
    · have : ¬ (some (nKy q1) = some (nKy p)) := fun z => e (nKy_inj.mp (Option.some.inj z))
      rw [if_neg this, if_neg e]
      rfl
theorem kvPut_E (p : Int × Int) (v : Int) (l : KL) : kvPut (nKy p) (eKy p) (.int v) (kvE l) = kvE (putL l p v) := by
  unfold kvPut putL
  rw [kvAt_E, Option.isSome_map]
  split
  · exact kvRep_E p v l
  · simp [kvE]
theorem putL_len (l : KL) (p : Int × Int) (v : Int) : (putL l p v).length ≤ l.length + 1 := by
  unfold putL
  split <;> simp
/-! the numbers of the product -/
def pxF (m : M24) (j : Int) : Int := if j = 0 then m.x1 else if j = 1 then m.x2 else if j = 2 then m.x3 else m.x4
def pyF (m : M24) (j : Int) : Int := if j = 0 then m.y1 else if j = 1 then m.y2 else if j = 2 then m.y3 else m.y4
def valF (F : Frm) (m : M24) (j k : Int) : Int := F.a * pxF m j * pxF m k + F.b * pxF m j * pyF m k + F.c * pyF m j * pyF m k
def kyF (j k : Int) : Int × Int := (j / 2 + k / 2, j % 2 + k % 2)
def stepF (F : Frm) (m : M24) (j : Int) (l : KL) (k : Int) : KL := putL l (kyF j k) (getL l (kyF j k) + valF F m j k)
theorem at4 {a b c d : Int} {j : Int} (h : 0 ≤ j ∧ j ≤ 3) : L2.atI ([D.int a, .int b, .int c, .int d]) j = some (.int (if j = 0 then a else if j = 1 then b else if j = 2 then c else d)) := by
  rcases (show j = 0 ∨ j = 1 ∨ j = 2 ∨ j = 3 by omega) with rfl | rfl | rfl | rfl <;> rfl
noncomputable def bodPI : SF := (sSeq (sAsg (cOp gAddA (cOp gAddA (cOp gMul (cOp gMul (cVar 2) (cOp gIx (cOp gIx (cVar 1) (cC (.int 0))) (cVar 6))) (cOp gIx (cOp gIx (cVar 1) (cC (.int 0))) (cVar 7))) (cOp gMul (cOp gMul (cVar 3) (cOp gIx (cOp gIx (cVar 1) (cC (.int 0))) (cVar 6))) (cOp gIx (cOp gIx (cVar 1) (cC (.int 1))) (cVar 7)))) (cOp gMul (cOp gMul (cVar 4) (cOp gIx (cOp gIx (cVar 1) (cC (.int 1))) (cVar 6))) (cOp gIx (cOp gIx (cVar 1) (cC (.int 1))) (cVar 7)))) (gN 8)) (sSeq (sAsg (cTup (aCons (cOp gAddA (cOp gDiv (cVar 6) (cC (.int 2))) (cOp gDiv (cVar 7) (cC (.int 2)))) (aCons (cOp gAddA (cOp gMod (cVar 6) (cC (.int 2))) (cOp gMod (cVar 7) (cC (.int 2)))) aNil))) (gN 9)) (sDPut (cOp gAddA (cDGet2 (cVar 5) (cVar 9) (cC (.int 0))) (cVar 8)) (cVar 5) (cVar 9))))
theorem pxF_sz {m : M24} {k : Nat} (h : szM k m) (j : Int) : Sz k (pxF m j) ∧ Sz k (pyF m j) := by
  obtain ⟨m1, m2, m3, m4, m5, m6, m7, m8⟩ := h
  unfold pxF pyF
  constructor <;> (repeat' split) <;> assumption
@[simp] theorem cDic0_e {en : DL.Env} : cDic0 en M = some (.ok (.dic M.length), M ++ [[]]) := rfl
@[simp] theorem cDGet2_e {en : DL.Env} {fd fk fx : EF} : cDGet2 fd fk fx en M = bnd (fd en M) fun x M1 => match x with
  | .dic n => if n < M1.length then bnd (fk en M1) fun y M2 => bnd (fx en M2) fun z M3 => match dAt n y M3 with | some (some w) => some (.ok w, M3) | some none => some (.ok z, M3) | none => none else none
  | _ => none := rfl
@[simp] theorem cDGet_e {en : DL.Env} {fd fk : EF} : cDGet fd fk en M = bnd (fd en M) fun x M1 => bnd (fk en M1) fun y M2 => match x with
  | .dic n => match dAt n y M2 with | some (some z) => some (.ok z, M2) | _ => none
  | _ => none := rfl
@[simp] theorem sDPut_e {en : DL.Env} {fv fd fk : EF} : sDPut fv fd fk en M = sbnd (fv en M) en fun z M1 => sbnd (fd en M1) en fun x M2 => sbnd (fk en M2) en fun y M3 => match x with
  | .dic n => match M3[n]?, keyOk y with
    | some ds, some nk => if szOk (ds.length + 1) = true then some (.nx en, M3.set n (kvPut nk y z ds)) else none
    | _, _ => none
  | _ => none := rfl
theorem bodPI_is {F : Frm} {m : M24} {l : KL} {j k : Int} {x0 x8 x9 x10 x11 x12 : Option D} (hF : szF 3000 F) (hm : szM 3001 m) (hj : 0 ≤ j ∧ j ≤ 3) (hk : 0 ≤ k ∧ k ≤ 3) (hl : l.length ≤ 1000) :
    ∃ y8 y9, bodPI [x0, some (eM m), some (.int F.a), some (.int F.b), some (.int F.c), some (.dic M.length), some (.int j), some (.int k), x8, x9, x10, x11, x12] (M ++ [kvE l]) =
      some (.nx [x0, some (eM m), some (.int F.a), some (.int F.b), some (.int F.c), some (.dic M.length), some (.int j), some (.int k), y8, y9, x10, x11, x12], M ++ [kvE (stepF F m j l k)]) := by
  have hpj := pxF_sz hm j; have hpk := pxF_sz hm k
  obtain ⟨f1, f2, f3⟩ := hF
  have mc : ∀ {x y : Int}, Sz 3000 x → Sz 3001 y → mulC x y = true := fun h1 h2 => mulC_sz h1 h2 (by decide)
  have mc2 : ∀ {x y z : Int}, Sz 3000 x → Sz 3001 y → Sz 3001 z → mulC (x * y) z = true := fun h1 h2 h3 => mulC_sz (h1.mul h2) h3 (by decide)
  have i0 : ∀ (N : Store), gIx (eM m) (.int 0) N = some (.ok (rX m), N) := fun N => by unfold eM rX; simp
  have i1 : ∀ (N : Store), gIx (eM m) (.int 1) N = some (.ok (rY m), N) := fun N => by unfold eM rY; simp
  have ix : ∀ (N : Store) {t : Int}, (0 ≤ t ∧ t ≤ 3) → gIx (rX m) (.int t) N = some (.ok (.int (pxF m t)), N) := fun N t ht => by unfold rX; rw [gIx_row]; simp only [List.map_cons, List.map_nil]; rw [at4 ht]; rfl
  have iy : ∀ (N : Store) {t : Int}, (0 ≤ t ∧ t ≤ 3) → gIx (rY m) (.int t) N = some (.ok (.int (pyF m t)), N) := fun N t ht => by unfold rY; rw [gIx_row]; simp only [List.map_cons, List.map_nil]; rw [at4 ht]; rfl
  have d2 : ∀ t : Int, divC t 2 = true := fun t => divC_of (by decide) (by decide)
  have r2 : ∀ t : Int, modC t 2 = true := fun t => modC_of (by decide)
  have hat : (M ++ [kvE l])[M.length]? = some (kvE l) := List.getElem?_concat_length
  have hda : dAt M.length (eKy (kyF j k)) (M ++ [kvE l]) = some ((l.lookup (kyF j k)).map D.int) := by
    unfold dAt
    rw [hat, keyOk_ky]
    dsimp only
    rw [kvAt_E]
  refine ⟨some (.int (valF F m j k)), some (eKy (kyF j k)), ?_⟩
  unfold bodPI
  rw [sSeq_nx (en1 := [x0, some (eM m), some (.int F.a), some (.int F.b), some (.int F.c), some (.dic M.length), some (.int j), some (.int k), some (.int (valF F m j k)), x9, x10, x11, x12]) (M1 := M ++ [kvE l]) (by
    simp only [sAsg_e, cOp_e, cVar_e, cC_e, List.getElem?_cons_zero, List.getElem?_cons_succ, bnd_ok, i0, i1, ix _ hj, ix _ hk, iy _ hj, iy _ hk, gI_e, if_true, mc f1 hpj.1, mc2 f1 hpj.1 hpk.1, mc f2 hpj.1, mc2 f2 hpj.1 hpk.2, mc f3 hpj.2, mc2 f3 hpj.2 hpk.2, gAddA_i, sbnd_ok, gN_e, List.set_cons_succ, List.set_cons_zero]
    rfl)]
  rw [sSeq_nx (en1 := [x0, some (eM m), some (.int F.a), some (.int F.b), some (.int F.c), some (.dic M.length), some (.int j), some (.int k), some (.int (valF F m j k)), some (eKy (kyF j k)), x10, x11, x12]) (M1 := M ++ [kvE l]) (by
    simp [d2, r2, eKy, kyF])]
  have hput : sDPut (cOp gAddA (cDGet2 (cVar 5) (cVar 9) (cC (.int 0))) (cVar 8)) (cVar 5) (cVar 9) [x0, some (eM m), some (.int F.a), some (.int F.b), some (.int F.c), some (.dic M.length), some (.int j), some (.int k), some (.int (valF F m j k)), some (eKy (kyF j k)), x10, x11, x12] (M ++ [kvE l]) =
      some (.nx [x0, some (eM m), some (.int F.a), some (.int F.b), some (.int F.c), some (.dic M.length), some (.int j), some (.int k), some (.int (valF F m j k)), some (eKy (kyF j k)), x10, x11, x12], M ++ [kvE (stepF F m j l k)]) := by
    have hg : cOp gAddA (cDGet2 (cVar 5) (cVar 9) (cC (.int 0))) (cVar 8) [x0, some (eM m), some (.int F.a), some (.int F.b), some (.int F.c), some (.dic M.length), some (.int j), some (.int k), some (.int (valF F m j k)), some (eKy (kyF j k)), x10, x11, x12] (M ++ [kvE l]) = some (.ok (.int (getL l (kyF j k) + valF F m j k)), M ++ [kvE l]) := by
      simp only [cOp_e, cDGet2_e, cVar_e, cC_e, List.getElem?_cons_zero, List.getElem?_cons_succ, bnd_ok, List.length_append, List.length_cons, List.length_nil]
      rw [if_pos (by omega), hda]
      unfold getL
      cases l.lookup (kyF j k) with
      | none => simp
      | some v => simp
    rw [sDPut_e, hg]
    simp only [sbnd_ok, cVar_e, List.getElem?_cons_zero, List.getElem?_cons_succ, hat, keyOk_ky]
    rw [if_pos (szOk_of (by simp [kvE]; omega)), kvPut_E, setLast]
    rfl
  exact hput
theorem innerPI {F : Frm} {m : M24} {j : Int} {x0 : Option D} (hF : szF 3000 F) (hm : szM 3001 m) (hj : 0 ≤ j ∧ j ≤ 3) : ∀ (ks : List Int) (l : KL) (x7 x8 x9 x10 x11 x12 : Option D), (∀ k ∈ ks, 0 ≤ k ∧ k ≤ 3) → l.length + ks.length ≤ 1000 →
    ∃ y7 y8 y9, fLoop (gN 7) bodPI (ks.map D.int) [x0, some (eM m), some (.int F.a), some (.int F.b), some (.int F.c), some (.dic M.length), some (.int j), x7, x8, x9, x10, x11, x12] (M ++ [kvE l]) =
      some (.nx [x0, some (eM m), some (.int F.a), some (.int F.b), some (.int F.c), some (.dic M.length), some (.int j), y7, y8, y9, x10, x11, x12], M ++ [kvE (ks.foldl (stepF F m j) l)]) := by
  intro ks
  induction ks with
  | nil => exact fun l x7 x8 x9 x10 x11 x12 _ _ => ⟨x7, x8, x9, rfl⟩
  | cons k ks ih =>
    intro l x7 x8 x9 x10 x11 x12 hk hl
    rw [List.length_cons] at hl
    obtain ⟨y8, y9, e⟩ := bodPI_is (M := M) (x0 := x0) (x8 := x8) (x9 := x9) (x10 := x10) (x11 := x11) (x12 := x12) hF hm hj (hk k List.mem_cons_self) (l := l) (by omega)
    have hlen := putL_len l (kyF j k) (getL l (kyF j k) + valF F m j k)
    obtain ⟨z7, z8, z9, e2⟩ := ih (stepF F m j l k) (some (.int k)) y8 y9 x10 x11 x12 (fun q hq => hk q (List.mem_cons_of_mem _ hq)) (by unfold stepF; omega)
    refine ⟨z7, z8, z9, ?_⟩
    rw [List.map_cons, fLoop_cons]
    simp only [gN_e, List.set_cons_succ, List.set_cons_zero, e, List.foldl_cons]
    exact e2
theorem fold_len {F : Frm} {m : M24} {j : Int} : ∀ (ks : List Int) (l : KL), (ks.foldl (stepF F m j) l).length ≤ l.length + ks.length := by
  intro ks
  induction ks with
  | nil => intro l; simp
  | cons k ks ih =>
    intro l
    rw [List.foldl_cons, List.length_cons]
    have := ih (stepF F m j l k)
    have := putL_len l (kyF j k) (getL l (kyF j k) + valF F m j k)
    unfold stepF at *
    omega
def allK : List Int := [0, 1, 2, 3]
def outF (F : Frm) (m : M24) (l : KL) (j : Int) : KL := allK.foldl (stepF F m j) l
theorem rg4 : rgD 0 4 = allK.map D.int := by rfl
theorem outerPI {F : Frm} {m : M24} {x0 : Option D} (hF : szF 3000 F) (hm : szM 3001 m) : ∀ (js : List Int) (l : KL) (x6 x7 x8 x9 x10 x11 x12 : Option D), (∀ j ∈ js, 0 ≤ j ∧ j ≤ 3) → l.length + 4 * js.length ≤ 900 →
    ∃ y6 y7 y8 y9, fLoop (gN 6) (sFor (iRng1C (aCons (cC (.int 4)) aNil)) (gN 7) bodPI) (js.map D.int) [x0, some (eM m), some (.int F.a), some (.int F.b), some (.int F.c), some (.dic M.length), x6, x7, x8, x9, x10, x11, x12] (M ++ [kvE l]) =
      some (.nx [x0, some (eM m), some (.int F.a), some (.int F.b), some (.int F.c), some (.dic M.length), y6, y7, y8, y9, x10, x11, x12], M ++ [kvE (js.foldl (outF F m) l)]) := by
  intro js
  induction js with
  | nil => exact fun l x6 x7 x8 x9 x10 x11 x12 _ _ => ⟨x6, x7, x8, x9, rfl⟩
  | cons j js ih =>
    intro l x6 x7 x8 x9 x10 x11 x12 hj hl
    rw [List.length_cons] at hl
    obtain ⟨y7, y8, y9, e⟩ := innerPI (M := M) (x0 := x0) hF hm (hj j List.mem_cons_self) allK l x7 x8 x9 x10 x11 x12 (by decide) (by show l.length + 4 ≤ 1000; omega)
    have hlen := fold_len (F := F) (m := m) (j := j) allK l
    have h4 : allK.length = 4 := rfl
    obtain ⟨z6, z7, z8, z9, e2⟩ := ih (outF F m l j) (some (.int j)) y7 y8 y9 x10 x11 x12 (fun q hq => hj q (List.mem_cons_of_mem _ hq)) (by unfold outF; omega)
    refine ⟨z6, z7, z8, z9, ?_⟩
    rw [List.map_cons, fLoop_cons]
    have hs : sFor (iRng1C (aCons (cC (.int 4)) aNil)) (gN 7) bodPI [x0, some (eM m), some (.int F.a), some (.int F.b), some (.int F.c), some (.dic M.length), some (.int j), x7, x8, x9, x10, x11, x12] (M ++ [kvE l]) =
        some (.nx [x0, some (eM m), some (.int F.a), some (.int F.b), some (.int F.c), some (.dic M.length), some (.int j), y7, y8, y9, x10, x11, x12], M ++ [kvE (outF F m l j)]) := by
      have hi : iRng1C (aCons (cC (.int 4)) aNil) [x0, some (eM m), some (.int F.a), some (.int F.b), some (.int F.c), some (.dic M.length), some (.int j), x7, x8, x9, x10, x11, x12] (M ++ [kvE l]) = some (.ok (allK.map D.int), M ++ [kvE l]) := by
        simp [show smI 4 = true from rfl, rg4]
      rw [sFor_e, hi, sbnd_ok]; exact e
    simp only [gN_e, List.set_cons_succ, List.set_cons_zero, hs, List.foldl_cons]
    exact e2
/-- the nine numbers -/
def pcL (F : Frm) (m : M24) : List Int :=
  [0 + valF F m 0 0, 0 + valF F m 0 1 + valF F m 1 0, 0 + valF F m 1 1, 0 + valF F m 0 2 + valF F m 2 0, 0 + valF F m 0 3 + valF F m 1 2 + valF F m 2 1 + valF F m 3 0, 0 + valF F m 1 3 + valF F m 3 1, 0 + valF F m 2 2, 0 + valF F m 2 3 + valF F m 3 2, 0 + valF F m 3 3]
theorem fold16 (F : Frm) (m : M24) : allK.foldl (outF F m) [] = [((0, 0), 0 + valF F m 0 0), ((0, 1), 0 + valF F m 0 1 + valF F m 1 0), ((1, 0), 0 + valF F m 0 2 + valF F m 2 0), ((1, 1), 0 + valF F m 0 3 + valF F m 1 2 + valF F m 2 1 + valF F m 3 0), ((0, 2), 0 + valF F m 1 1),
    ((1, 2), 0 + valF F m 1 3 + valF F m 3 1), ((2, 0), 0 + valF F m 2 2), ((2, 1), 0 + valF F m 2 3 + valF F m 3 2), ((2, 2), 0 + valF F m 3 3)] := by
  generalize hv : valF F m = V
  unfold outF
  have hs : ∀ j, stepF F m j = fun l k => putL l (kyF j k) (getL l (kyF j k) + V j k) := fun j => by funext l k; unfold stepF; rw [hv]
  simp only [hs, allK, List.foldl_cons, List.foldl_nil]
  kernel_rfl
end K12
set_option exponentiation.threshold 3000
/-! k12: both judges say the same. -/
namespace K12
open PySem DL
variable {M : Store}
theorem pcL_sz : True := trivial
theorem put_in_is {F : Frm} {m : M24} (hF : szF 3000 F) (hm : szM 3001 m) : m_l_put_in [eF F, eM m] M = some (.ok (.imm ((pcL F m).map D.int)), M) := by
  unfold m_l_put_in f_l_put_in
  rw [mDef_2, show start0 13 [eF F, eM m] = [some (eF F), some (eM m), none, none, none, none, none, none, none, none, none, none, none] from rfl]
  rw [sSeq_nx (en1 := [some (eF F), some (eM m), some (.int F.a), some (.int F.b), some (.int F.c), none, none, none, none, none, none, none, none]) (M1 := M) (by simp [eF])]
  rw [sSeq_nx (en1 := [some (eF F), some (eM m), some (.int F.a), some (.int F.b), some (.int F.c), some (.dic M.length), none, none, none, none, none, none, none]) (M1 := M ++ [[]]) (by simp)]
  obtain ⟨y6, y7, y8, y9, e⟩ := outerPI (M := M) (x0 := some (eF F)) hF hm allK [] none none none none none none none (by decide) (by decide)
  rw [fold16] at e
  generalize hl : ([((0, 0), 0 + valF F m 0 0), ((0, 1), 0 + valF F m 0 1 + valF F m 1 0), ((1, 0), 0 + valF F m 0 2 + valF F m 2 0), ((1, 1), 0 + valF F m 0 3 + valF F m 1 2 + valF F m 2 1 + valF F m 3 0), ((0, 2), 0 + valF F m 1 1),
    ((1, 2), 0 + valF F m 1 3 + valF F m 3 1), ((2, 0), 0 + valF F m 2 2), ((2, 1), 0 + valF F m 2 3 + valF F m 3 2), ((2, 2), 0 + valF F m 3 3)] : KL) = l at e
  have h1 : sFor (iRng1C (aCons (cC (.int 4)) aNil)) (gN 6) (sFor (iRng1C (aCons (cC (.int 4)) aNil)) (gN 7) bodPI) [some (eF F), some (eM m), some (.int F.a), some (.int F.b), some (.int F.c), some (.dic M.length), none, none, none, none, none, none, none] (M ++ [[]]) = some (.nx [some (eF F), some (eM m), some (.int F.a), some (.int F.b), some (.int F.c), some (.dic M.length), y6, y7, y8, y9, none, none, none], M ++ [kvE l]) := by
    have hi : iRng1C (aCons (cC (.int 4)) aNil) [some (eF F), some (eM m), some (.int F.a), some (.int F.b), some (.int F.c), some (.dic M.length), none, none, none, none, none, none, none] (M ++ [[]]) = some (.ok (allK.map D.int), M ++ [[]]) := by
      simp [show smI 4 = true from rfl, rg4]
    rw [sFor_e, hi, sbnd_ok]
    exact e
  unfold bodPI at h1
  rw [sSeq_nx h1]
  have hat : (M ++ [kvE l])[M.length]? = some (kvE l) := List.getElem?_concat_length
  have hda : ∀ p : Int × Int, dAt M.length (eKy p) (M ++ [kvE l]) = some ((l.lookup p).map D.int) := fun p => by
    unfold dAt
    rw [hat, keyOk_ky]
    dsimp only
    rw [kvAt_E]
  have hky : ∀ a b : Int, D.tup [.int a, .int b] = eKy (a, b) := fun _ _ => rfl
  have hll : l.lookup (0, 0) = some (0 + valF F m 0 0) ∧ l.lookup (0, 1) = some (0 + valF F m 0 1 + valF F m 1 0) ∧ l.lookup (0, 2) = some (0 + valF F m 1 1) ∧ l.lookup (1, 0) = some (0 + valF F m 0 2 + valF F m 2 0) ∧
      l.lookup (1, 1) = some (0 + valF F m 0 3 + valF F m 1 2 + valF F m 2 1 + valF F m 3 0) ∧ l.lookup (1, 2) = some (0 + valF F m 1 3 + valF F m 3 1) ∧ l.lookup (2, 0) = some (0 + valF F m 2 2) ∧ l.lookup (2, 1) = some (0 + valF F m 2 3 + valF F m 3 2) ∧ l.lookup (2, 2) = some (0 + valF F m 3 3) := by
    rw [← hl]
    refine ⟨?_, ?_, ?_, ?_, ?_, ?_, ?_, ?_, ?_⟩ <;> rfl
  obtain ⟨l1, l2, l3, l4, l5, l6, l7, l8, l9⟩ := hll
  have rg3 : rgD 0 3 = [.int 0, .int 1, .int 2] := by rfl
  rw [sSeq_nx (en1 := [some (eF F), some (eM m), some (.int F.a), some (.int F.b), some (.int F.c), some (.dic M.length), y6, y7, y8, y9, some (.imm []), none, none]) (M1 := M ++ [kvE l]) (by simp)]
  have body : ∀ (a : Int) (acc : List D) (x11 : Option D) (v0 v1 v2 : Int), acc.length ≤ 100 → l.lookup (a, 0) = some v0 → l.lookup (a, 1) = some v1 → l.lookup (a, 2) = some v2 →
      sAsg (cOp gAddA (cVar 10) (cLc (iRng1C (aCons (cC (.int 3)) aNil)) (gN 12) tYesC (cDGet (cVar 5) (cTup (aCons (cVar 11) (aCons (cVar 12) aNil)))) [12])) (gN 10) [some (eF F), some (eM m), some (.int F.a), some (.int F.b), some (.int F.c), some (.dic M.length), y6, y7, y8, y9, some (.imm acc), some (.int a), none] (M ++ [kvE l]) =
        some (.nx [some (eF F), some (eM m), some (.int F.a), some (.int F.b), some (.int F.c), some (.dic M.length), y6, y7, y8, y9, some (.imm (acc ++ [.int v0, .int v1, .int v2])), some (.int a), none], M ++ [kvE l]) := by
    intro a acc x11 v0 v1 v2 hacc e0 e1 e2
    have hz : szOk (acc.length + 3) = true := szOk_of (by omega)
    simp [rg3, show smI 3 = true from rfl, hky, hda, e0, e1, e2, hz]
  have h2 : sFor (iRng1C (aCons (cC (.int 3)) aNil)) (gN 11) (sAsg (cOp gAddA (cVar 10) (cLc (iRng1C (aCons (cC (.int 3)) aNil)) (gN 12) tYesC (cDGet (cVar 5) (cTup (aCons (cVar 11) (aCons (cVar 12) aNil)))) [12])) (gN 10)) [some (eF F), some (eM m), some (.int F.a), some (.int F.b), some (.int F.c), some (.dic M.length), y6, y7, y8, y9, some (.imm []), none, none] (M ++ [kvE l]) =
      some (.nx [some (eF F), some (eM m), some (.int F.a), some (.int F.b), some (.int F.c), some (.dic M.length), y6, y7, y8, y9, some (.imm ((pcL F m).map D.int)), some (.int 2), none], M ++ [kvE l]) := by
    have hi : iRng1C (aCons (cC (.int 3)) aNil) [some (eF F), some (eM m), some (.int F.a), some (.int F.b), some (.int F.c), some (.dic M.length), y6, y7, y8, y9, some (.imm []), none, none] (M ++ [kvE l]) = some (.ok [.int 0, .int 1, .int 2], M ++ [kvE l]) := by
      simp [show smI 3 = true from rfl, rg3]
    rw [sFor_e, hi, sbnd_ok, fLoop_cons]
    simp only [gN_e, List.set_cons_succ, List.set_cons_zero]
    rw [body 0 [] none _ _ _ (by simp) l1 l2 l3]
    dsimp only
    rw [fLoop_cons]
    simp only [gN_e, List.set_cons_succ, List.set_cons_zero]
    rw [body 1 _ none _ _ _ (by simp) l4 l5 l6]
    dsimp only
    rw [fLoop_cons]
    simp only [gN_e, List.set_cons_succ, List.set_cons_zero]
    rw [body 2 _ none _ _ _ (by simp) l7 l8 l9]
    rfl
  rw [sSeq_nx h2]
  have h3 : sRet (cVar 10) [some (eF F), some (eM m), some (.int F.a), some (.int F.b), some (.int F.c), some (.dic M.length), y6, y7, y8, y9, some (.imm ((pcL F m).map D.int)), some (.int 2), none] (M ++ [kvE l]) = some (.rt (.imm ((pcL F m).map D.int)), M ++ [kvE l]) := by
    simp
  rw [h3, fin_rt]
  exact gcF_ok (by simp) rfl
def qtL (f g : Frm) : List Int := [f.a * g.a, f.a * g.b, f.a * g.c, f.b * g.a, f.b * g.b, f.b * g.c, f.c * g.a, f.c * g.b, f.c * g.c]
theorem quartic_is {f g : Frm} (hf : szF 3000 f) (hg : szF 3000 g) : m_l_quartic [eF f, eF g] M = some (.ok (.imm ((qtL f g).map D.int)), M) := by
  obtain ⟨f1, f2, f3⟩ := hf
  obtain ⟨g1, g2, g3⟩ := hg
  have mc : ∀ {x y : Int}, Sz 3000 x → Sz 3000 y → mulC x y = true := fun h1 h2 => mulC_sz h1 h2 (by decide)
  unfold m_l_quartic f_l_quartic
  simp [eF, eRow, fLoop_cons, mc f1 g1, mc f1 g2, mc f1 g3, mc f2 g1, mc f2 g2, mc f2 g3, mc f3 g1, mc f3 g2, mc f3 g3, show szOk 6 = true by decide, show szOk 9 = true by decide, qtL]
theorem gEq_ints {neg : Bool} {l r : List Int} : gEq neg (.imm (l.map D.int)) (.imm (r.map D.int)) M = some (.ok (.bl (if neg = true then !(l == r) else l == r)), M) := by
  have t : ∀ l : List Int, toPyM M (.imm (l.map D.int)) = some (.list (l.map PyData.int)) := fun l => by
    show toPy (.imm (l.map D.int)) = _
    simp only [toPy]
    rw [toPys_map (g := PyData.int) fun _ => rfl]
    rfl
  have sh : ∀ l : List Int, SeqAt.shaped (.list (l.map PyData.int)) = true := fun l => by
    have h1 : (PyData.list (l.map PyData.int)).canLay0 = true := by
      simp only [PyData.canLay0]
      exact canLayAll_of fun x _ => by simp [PyData.canLay0]
    have h2 : (PyData.list (l.map PyData.int)).depth ≤ 1 := by
      simp only [PyData.depth]
      have := depthAll_le (f := PyData.int) (k := 0) (l := l) fun x _ => by simp [PyData.depth]
      omega
    show ((PyData.list (l.map PyData.int)).canLay0 && decide ((PyData.list (l.map PyData.int)).depth ≤ 64)) = true
    rw [h1, decide_eq_true (Nat.le_trans h2 (by decide))]; rfl
  rw [gEq_of (t l) (t r) (sh l) (sh r) (fun _ z => by cases z)]
  have : PyData.eqv (.list (l.map PyData.int)) (.list (r.map PyData.int)) = (l == r) := by
    simp only [PyData.eqv]
    exact eqvAll_of fun x y => eqv_int
  rw [this]
def lawB (f g F : Frm) (m : M24) : Bool := minB f g m && (pcL F m == qtL f g)
/-- what the form is worth at the sums of columns -/
theorem wo_nine (F : Frm) (m : M24) (x y z w : Int) : F.wo (m.X x y z w) (m.Y x y z w) =
    (valF F m 0 0) * (x * x * (z * z)) + (valF F m 0 1 + valF F m 1 0) * (x * x * (z * w)) + valF F m 1 1 * (x * x * (w * w)) + (valF F m 0 2 + valF F m 2 0) * (x * y * (z * z)) + (valF F m 0 3 + valF F m 1 2 + valF F m 2 1 + valF F m 3 0) * (x * y * (z * w)) +
    (valF F m 1 3 + valF F m 3 1) * (x * y * (w * w)) + valF F m 2 2 * (y * y * (z * z)) + (valF F m 2 3 + valF F m 3 2) * (y * y * (z * w)) + valF F m 3 3 * (y * y * (w * w)) := by
  have e0 : pxF m 0 = m.x1 := rfl
  have e1 : pxF m 1 = m.x2 := rfl
  have e2 : pxF m 2 = m.x3 := rfl
  have e3 : pxF m 3 = m.x4 := rfl
  have d0 : pyF m 0 = m.y1 := rfl
  have d1 : pyF m 1 = m.y2 := rfl
  have d2 : pyF m 2 = m.y3 := rfl
  have d3 : pyF m 3 = m.y4 := rfl
  simp only [valF, e0, e1, e2, e3, d0, d1, d2, d3, Frm.wo, worthF, M24.X, M24.Y]
  grind
theorem fg_nine (f g : Frm) (x y z w : Int) : f.wo x y * g.wo z w = (f.a * g.a) * (x * x * (z * z)) + (f.a * g.b) * (x * x * (z * w)) + (f.a * g.c) * (x * x * (w * w)) + (f.b * g.a) * (x * y * (z * z)) + (f.b * g.b) * (x * y * (z * w)) + (f.b * g.c) * (x * y * (w * w)) +
    (f.c * g.a) * (y * y * (z * z)) + (f.c * g.b) * (y * y * (z * w)) + (f.c * g.c) * (y * y * (w * w)) := by
  simp only [Frm.wo, worthF]
  grind
theorem judges {f g F : Frm} {m : M24} : showB f g F m = lawB f g F m := by
  unfold showB lawB
  congr 1
  rw [Bool.eq_iff_iff, beq_iff_eq]
  constructor
  · intro h
    have h := fun p (hp : p ∈ prs) q (hq : q ∈ prs) => List.all_eq_true.mp (List.all_eq_true.mp h p hp) q hq
    have k : ∀ a b c d : Int, (a, b) ∈ prs → (c, d) ∈ prs → F.wo (m.X a b c d) (m.Y a b c d) = f.wo a b * g.wo c d := fun a b c d h1 h2 => beq_iff_eq.mp (h (a, b) h1 (c, d) h2)
    have m01 : ((0 : Int), (1 : Int)) ∈ prs := by decide
    have m10 : ((1 : Int), (0 : Int)) ∈ prs := by decide
    have m11 : ((1 : Int), (1 : Int)) ∈ prs := by decide
    have k1 := k 1 0 1 0 m10 m10
    have k2 := k 1 0 0 1 m10 m01
    have k3 := k 1 0 1 1 m10 m11
    have k4 := k 0 1 1 0 m01 m10
    have k5 := k 0 1 0 1 m01 m01
    have k6 := k 0 1 1 1 m01 m11
    have k7 := k 1 1 1 0 m11 m10
    have k8 := k 1 1 0 1 m11 m01
    have k9 := k 1 1 1 1 m11 m11
    rw [wo_nine, fg_nine] at k1 k2 k3 k4 k5 k6 k7 k8 k9
    simp only [Int.mul_zero, Int.zero_mul, Int.mul_one, Int.add_zero, Int.zero_add] at k1 k2 k3 k4 k5 k6 k7 k8 k9
    unfold pcL qtL
    simp only [List.cons.injEq, and_true, Int.zero_add]
    refine ⟨?_, ?_, ?_, ?_, ?_, ?_, ?_, ?_, ?_⟩ <;> omega
  · intro h
    unfold pcL qtL at h
    simp only [List.cons.injEq, and_true, Int.zero_add] at h
    obtain ⟨h1, h2, h3, h4, h5, h6, h7, h8, h9⟩ := h
    refine List.all_eq_true.mpr fun p _ => List.all_eq_true.mpr fun q _ => ?_
    unfold idB
    rw [beq_iff_eq, wo_nine, fg_nine, h1, h2, h3, h4, h5, h6, h7, h8, h9]
theorem comp_shows {f g F : Frm} {m : M24} (h : Comp f g F m) : showB f g F m = true := by
  unfold showB minB
  rw [Bool.and_eq_true, Bool.and_eq_true, beq_iff_eq, beq_iff_eq]
  refine ⟨⟨?_, ?_⟩, List.all_eq_true.mpr fun p _ => List.all_eq_true.mpr fun q _ => beq_iff_eq.mpr (h.id _ _ _ _)⟩
  · rw [← h.p12, Int.mul_comm m.y1]
  · rw [← h.p13, Int.mul_comm m.y1]
end K12
set_option exponentiation.threshold 3000
/-! k12: both judges, as they run. -/
namespace K12
open PySem DL
variable {M : Store}
theorem isi_tup (ds : List D) : gIsi [.tup ds, .ty "tuple"] M = some (.ok (.bl true), M) := rfl
theorem isi_row (r : List Int) : gIsi [eRow r, .ty "tuple"] M = some (.ok (.bl true), M) := rfl
theorem isi_tab (t : List (List Int)) : gIsi [eTab t, .ty "tuple"] M = some (.ok (.bl true), M) := rfl
theorem isi_non : gIsi [.non, .ty "tuple"] M = some (.ok (.bl false), M) := rfl
theorem isi_int (a : Int) : gIsi [.int a, .ty "int"] M = some (.ok (.bl true), M) := rfl
theorem isi_intb (a : Int) : gIsi [.int a, .ty "bool"] M = some (.ok (.bl false), M) := rfl
theorem is_row_4 (a b c d : Int) : m_is_row [eRow [a, b, c, d]] M = some (.ok (.bl true), M) := by
  unfold m_is_row f_is_row
  simp [isi_row, is_whole_is, gAll, blsOf]
noncomputable def bodS1 : SF := (sFor (iSeq (cVar 6)) (gTupC 2 (gConsC (gN 9) (gConsC (gN 10) gNilC))) bodS2)
/-- the paper, with its two rows -/
theorem shows_is {f g F : Frm} {m : M24} (hf : szF 3000 f) (hg : szF 3000 g) (hF : szF 3000 F) (hm : szM 3001 m) : m_shows_together [eF f, eF g, eF F, eM m] M = some (.ok (.bl (showB f g F m)), M) := by
  have hm' := hm
  obtain ⟨m1, m2, m3, m4, m5, m6, m7, m8⟩ := hm'
  have mc : ∀ {x y : Int}, Sz 3001 x → Sz 3001 y → mulC x y = true := fun h1 h2 => mulC_sz h1 h2 (by decide)
  unfold m_shows_together f_shows_together
  rw [show mDef 4 16 _ [eF f, eF g, eF F, eM m] M = _ from mDef_4, show start0 16 [eF f, eF g, eF F, eM m] = [some (eF f), some (eF g), some (eF F), some (eM m), none, none, none, none, none, none, none, none, none, none, none, none] from rfl]
  have hX : eM m = .tup [rX m, rY m] := rfl
  have hr : ∀ a b c d : Int, gLen [eRow [a, b, c, d]] M = some (.ok (.int 4), M) := fun a b c d => by simp
  rw [sSeq_nx (en1 := [some (eF f), some (eF g), some (eF F), some (eM m), none, none, none, none, none, none, none, none, none, none, none, none]) (M1 := M) (by
    rw [hX]
    simp [isi_tup, rX, rY, is_row_4, gAll, blsOf])]
  rw [sSeq_nx (en1 := [some (eF f), some (eF g), some (eF F), some (eM m), some (rX m), some (rY m), none, none, none, none, none, none, none, none, none, none]) (M1 := M) (by
    rw [hX]; simp)]
  have i4 : ∀ (a b c d : Int) , gIx (eRow [a, b, c, d]) (.int 0) M = some (.ok (.int a), M) ∧ gIx (eRow [a, b, c, d]) (.int 1) M = some (.ok (.int b), M) ∧ gIx (eRow [a, b, c, d]) (.int 2) M = some (.ok (.int c), M) := fun a b c d => by simp
  have j0 : ∀ h : Frm, gIx (eF h) (.int 0) M = some (.ok (.int h.a), M) := fun h => by simp [eF]
  have x0 : gIx (rX m) (.int 0) M = some (.ok (.int m.x1), M) := (i4 _ _ _ _).1
  have x1 : gIx (rX m) (.int 1) M = some (.ok (.int m.x2), M) := (i4 _ _ _ _).2.1
  have x2 : gIx (rX m) (.int 2) M = some (.ok (.int m.x3), M) := (i4 _ _ _ _).2.2
  have y0 : gIx (rY m) (.int 0) M = some (.ok (.int m.y1), M) := (i4 _ _ _ _).1
  have y1 : gIx (rY m) (.int 1) M = some (.ok (.int m.y2), M) := (i4 _ _ _ _).2.1
  have y2 : gIx (rY m) (.int 2) M = some (.ok (.int m.y3), M) := (i4 _ _ _ _).2.2
  have ht : tOrC (cTru (cOp (gEq true) (cOp gSub (cOp gMul (cOp gIx (cVar 4) (cC (.int 0))) (cOp gIx (cVar 5) (cC (.int 1)))) (cOp gMul (cOp gIx (cVar 5) (cC (.int 0))) (cOp gIx (cVar 4) (cC (.int 1))))) (cOp gIx (cVar 0) (cC (.int 0))))) (cTru (cOp (gEq true) (cOp gSub (cOp gMul (cOp gIx (cVar 4) (cC (.int 0))) (cOp gIx (cVar 5) (cC (.int 2)))) (cOp gMul (cOp gIx (cVar 5) (cC (.int 0))) (cOp gIx (cVar 4) (cC (.int 2))))) (cOp gIx (cVar 1) (cC (.int 0)))))
      [some (eF f), some (eF g), some (eF F), some (eM m), some (rX m), some (rY m), none, none, none, none, none, none, none, none, none, none] M = some (.ok (!minB f g m), M) := by
    simp only [tOrC_e, cTru_e, cOp_e, cVar_e, cC_e, List.getElem?_cons_zero, List.getElem?_cons_succ, bnd_ok, x0, x1, x2, y0, y1, y2, j0, gI_e, yes2_e, if_true, mc m1 m6, mc m5 m2, mc m1 m7, mc m5 m3, gEq_int, tru_bl]
    unfold minB
    cases (m.x1 * m.y2 - m.y1 * m.x2 == f.a) <;> simp
  have hif : sIf (tOrC (cTru (cOp (gEq true) (cOp gSub (cOp gMul (cOp gIx (cVar 4) (cC (.int 0))) (cOp gIx (cVar 5) (cC (.int 1)))) (cOp gMul (cOp gIx (cVar 5) (cC (.int 0))) (cOp gIx (cVar 4) (cC (.int 1))))) (cOp gIx (cVar 0) (cC (.int 0))))) (cTru (cOp (gEq true) (cOp gSub (cOp gMul (cOp gIx (cVar 4) (cC (.int 0))) (cOp gIx (cVar 5) (cC (.int 2)))) (cOp gMul (cOp gIx (cVar 5) (cC (.int 0))) (cOp gIx (cVar 4) (cC (.int 2))))) (cOp gIx (cVar 1) (cC (.int 0)))))) (sRet (cC (.bl false))) sSkip
      [some (eF f), some (eF g), some (eF F), some (eM m), some (rX m), some (rY m), none, none, none, none, none, none, none, none, none, none] M = if minB f g m = true then some (.nx [some (eF f), some (eF g), some (eF F), some (eM m), some (rX m), some (rY m), none, none, none, none, none, none, none, none, none, none], M) else some (.rt (.bl false), M) := by
    rw [sIf_e, ht, sbnd_ok]
    cases minB f g m <;> simp
  unfold showB
  cases hmin : minB f g m with
  | false =>
    rw [hmin] at hif
    rw [sSeq_rt hif, fin_rt]
    exact gcF_ok0 rfl rfl
  | true =>
    rw [hmin, if_pos rfl] at hif
    rw [sSeq_nx hif, Bool.true_and]
    have hp : D.imm [.tup [.int 0, .int 1], .tup [.int 1, .int 0], .tup [.int 1, .int 1], .tup [.int 1, .int (-1)], .tup [.int 1, .int 2]] = .imm (prs.map ePr) := rfl
    rw [sSeq_nx (en1 := [some (eF f), some (eF g), some (eF F), some (eM m), some (rX m), some (rY m), some (.imm (prs.map ePr)), none, none, none, none, none, none, none, none, none]) (M1 := M) (by
      simp [show szOk 5 = true by decide, hp])]
    have Inv2 : ∀ (x y : Int), (DL.Env → Prop) := fun x y en => ∃ a9 a10 a11 a12 a13 a14 a15 : Option D, en = [some (eF f), some (eF g), some (eF F), some (eM m), some (rX m), some (rY m), some (.imm (prs.map ePr)), some (.int x), some (.int y), a9, a10, a11, a12, a13, a14, a15]
    have hin : ∀ (p : Int × Int), p ∈ prs → ∀ (a9 a10 a11 a12 a13 a14 a15 : Option D),
        ((prs.all fun q => idB f g F m p q) = true ∧ ∃ b9 b10 b11 b12 b13 b14 b15, bodS1 [some (eF f), some (eF g), some (eF F), some (eM m), some (rX m), some (rY m), some (.imm (prs.map ePr)), some (.int p.1), some (.int p.2), a9, a10, a11, a12, a13, a14, a15] M = some (.nx [some (eF f), some (eF g), some (eF F), some (eM m), some (rX m), some (rY m), some (.imm (prs.map ePr)), some (.int p.1), some (.int p.2), b9, b10, b11, b12, b13, b14, b15], M)) ∨
        ((prs.all fun q => idB f g F m p q) = false ∧ bodS1 [some (eF f), some (eF g), some (eF F), some (eM m), some (rX m), some (rY m), some (.imm (prs.map ePr)), some (.int p.1), some (.int p.2), a9, a10, a11, a12, a13, a14, a15] M = some (.rt (.bl false), M)) := by
      intro p hpp a9 a10 a11 a12 a13 a14 a15
      obtain ⟨pb1, pb2⟩ := prs_b hpp
      have st := fLoop_all (M := M) ePr (g := gTupC 2 (gConsC (gN 9) (gConsC (gN 10) gNilC))) (p := bodS2) (d0 := .bl false) (fun en => ∃ a9 a10 a11 a12 a13 a14 a15 : Option D, en = [some (eF f), some (eF g), some (eF F), some (eM m), some (rX m), some (rY m), some (.imm (prs.map ePr)), some (.int p.1), some (.int p.2), a9, a10, a11, a12, a13, a14, a15]) (fun q => idB f g F m p q) prs
        (fun q hq en hen => by
          obtain ⟨c9, c10, c11, c12, c13, c14, c15, rfl⟩ := hen
          obtain ⟨qb1, qb2⟩ := prs_b hq
          obtain ⟨d11, d12, d13, e⟩ := bodS2_is (M := M) (f := f) (g := g) (F := F) (m := m) (x := p.1) (y := p.2) (z := q.1) (w := q.2) (a3 := some (eM m)) (a6 := some (.imm (prs.map ePr))) (a11 := c11) (a12 := c12) (a13 := c13) (a14 := c14) (a15 := c15) hf hg hF hm pb1 pb2 qb1 qb2
          refine ⟨_, by simp [ePr]; rfl, ?_⟩
          have ei : idB f g F m (p.1, p.2) (q.1, q.2) = idB f g F m p q := rfl
          rw [ei] at e
          cases hi : idB f g F m p q with
          | true =>
            rw [hi, if_pos rfl] at e
            exact .inl ⟨rfl, _, e, some (.int q.1), some (.int q.2), d11, d12, d13, c14, c15, rfl⟩
          | false =>
            rw [hi] at e
            exact .inr ⟨rfl, e⟩) _ ⟨a9, a10, a11, a12, a13, a14, a15, rfl⟩
      have hi : iSeq (cVar 6) [some (eF f), some (eF g), some (eF F), some (eM m), some (rX m), some (rY m), some (.imm (prs.map ePr)), some (.int p.1), some (.int p.2), a9, a10, a11, a12, a13, a14, a15] M = some (.ok (prs.map ePr), M) := by simp
      unfold bodS1
      rw [sFor_e, hi, sbnd_ok]
      rcases st with ⟨h1, en2, h2, b9, b10, b11, b12, b13, b14, b15, rfl⟩ | ⟨h1, h2⟩
      · exact .inl ⟨h1, b9, b10, b11, b12, b13, b14, b15, h2⟩
      · exact .inr ⟨h1, h2⟩
    have st := fLoop_all (M := M) ePr (g := gTupC 2 (gConsC (gN 7) (gConsC (gN 8) gNilC))) (p := bodS1) (d0 := .bl false) (fun en => ∃ a7 a8 a9 a10 a11 a12 a13 a14 a15 : Option D, en = [some (eF f), some (eF g), some (eF F), some (eM m), some (rX m), some (rY m), some (.imm (prs.map ePr)), a7, a8, a9, a10, a11, a12, a13, a14, a15]) (fun p => prs.all fun q => idB f g F m p q) prs
      (fun p hp en hen => by
        obtain ⟨c7, c8, c9, c10, c11, c12, c13, c14, c15, rfl⟩ := hen
        refine ⟨_, by simp [ePr]; rfl, ?_⟩
        rcases hin p hp c9 c10 c11 c12 c13 c14 c15 with ⟨h1, b9, b10, b11, b12, b13, b14, b15, h2⟩ | ⟨h1, h2⟩
        · exact .inl ⟨h1, _, h2, some (.int p.1), some (.int p.2), b9, b10, b11, b12, b13, b14, b15, rfl⟩
        · exact .inr ⟨h1, h2⟩) [some (eF f), some (eF g), some (eF F), some (eM m), some (rX m), some (rY m), some (.imm (prs.map ePr)), none, none, none, none, none, none, none, none, none] ⟨none, none, none, none, none, none, none, none, none, rfl⟩
    have hi : iSeq (cVar 6) [some (eF f), some (eF g), some (eF F), some (eM m), some (rX m), some (rY m), some (.imm (prs.map ePr)), none, none, none, none, none, none, none, none, none] M = some (.ok (prs.map ePr), M) := by simp
    rcases st with ⟨h1, en2, h2, b7, b8, b9, b10, b11, b12, b13, b14, b15, rfl⟩ | ⟨h1, h2⟩
    · have h3 : sFor (iSeq (cVar 6)) (gTupC 2 (gConsC (gN 7) (gConsC (gN 8) gNilC))) bodS1 [some (eF f), some (eF g), some (eF F), some (eM m), some (rX m), some (rY m), some (.imm (prs.map ePr)), none, none, none, none, none, none, none, none, none] M = some (.nx [some (eF f), some (eF g), some (eF F), some (eM m), some (rX m), some (rY m), some (.imm (prs.map ePr)), b7, b8, b9, b10, b11, b12, b13, b14, b15], M) := by
        rw [sFor_e, hi, sbnd_ok]; exact h2
      unfold bodS1 bodS2 at h3
      rw [sSeq_nx h3, h1, sRet_e, cC_e, sbnd_ok, fin_rt]
      exact gcF_ok0 rfl rfl
    · have h3 : sFor (iSeq (cVar 6)) (gTupC 2 (gConsC (gN 7) (gConsC (gN 8) gNilC))) bodS1 [some (eF f), some (eF g), some (eF F), some (eM m), some (rX m), some (rY m), some (.imm (prs.map ePr)), none, none, none, none, none, none, none, none, none] M = some (.rt (.bl false), M) := by
        rw [sFor_e, hi, sbnd_ok]; exact h2
      unfold bodS1 bodS2 at h3
      rw [sSeq_rt h3, h1, fin_rt]
      exact gcF_ok0 rfl rfl
end K12
set_option exponentiation.threshold 3000
/-! k12: the law's judge; papers that are none. -/
namespace K12
open PySem DL
variable {M : Store}
theorem gEq_nil0 {neg : Bool} : gEq neg (.imm []) (.imm []) M = some (.ok (.bl (if neg = true then false else true)), M) := by
  have := gEq_ints (M := M) (neg := neg) (l := []) (r := [])
  simpa using this
theorem gEq_row_nil {neg : Bool} {r : List Int} : gEq neg (.imm [eRow r]) (.imm []) M = some (.ok (.bl (if neg = true then true else false)), M) := by
  have t1 : toPyM M (.imm [eRow r]) = some (.list [pRow r]) := by
    show toPy (.imm [eRow r]) = _
    have : [eRow r] = [r].map eRow := rfl
    simp only [toPy]
    rw [this, toPys_map (g := pRow) fun _ => toPy_row]
    rfl
  have t2 : toPyM M (.imm []) = some (.list []) := rfl
  have s1 : SeqAt.shaped (.list [pRow r]) = true := by
    have h1 : (PyData.list [pRow r]).canLay0 = true := by simp [PyData.canLay0, PyData.canLayAll0, lay_row]
    have h2 : (PyData.list [pRow r]).depth ≤ 2 := by
      simp only [PyData.depth, PyData.depthAll]
      have := depth_row (r := r)
      omega
    show ((PyData.list [pRow r]).canLay0 && decide ((PyData.list [pRow r]).depth ≤ 64)) = true
    rw [h1, decide_eq_true (Nat.le_trans h2 (by decide))]; rfl
  have s2 : SeqAt.shaped (.list []) = true := by decide
  rw [gEq_of t1 t2 s1 s2 (fun _ z => by cases z)]
  have : PyData.eqv (.list [pRow r]) (.list []) = false := by simp [PyData.eqv, PyData.eqvAll]
  rw [this]
  cases neg <;> rfl
theorem l_shows_is {f g F : Frm} {m : M24} (hf : szF 3000 f) (hg : szF 3000 g) (hF : szF 3000 F) (hm : szM 3001 m) : m_l_shows [eF f, eF g, eF F, eM m] M = some (.ok (.bl (lawB f g F m)), M) := by
  have hm' := hm
  obtain ⟨m1, m2, m3, m4, m5, m6, m7, m8⟩ := hm'
  have mc : ∀ {x y : Int}, Sz 3001 x → Sz 3001 y → mulC x y = true := fun h1 h2 => mulC_sz h1 h2 (by decide)
  have hX : eM m = .tup [rX m, rY m] := rfl
  unfold m_l_shows f_l_shows
  rw [show mDef 4 8 _ [eF f, eF g, eF F, eM m] M = _ from mDef_4, show start0 8 [eF f, eF g, eF F, eM m] = [some (eF f), some (eF g), some (eF F), some (eM m), none, none, none, none] from rfl]
  rw [sSeq_nx (en1 := [some (eF f), some (eF g), some (eF F), some (eM m), none, none, none, none]) (M1 := M) (by
    rw [hX]
    simp [isi_tup, isi_row, rX, rY, gEq_nil0])]
  have e8 : gAddA (rX m) (rY m) M = some (.ok (eRow [m.x1, m.x2, m.x3, m.x4, m.y1, m.y2, m.y3, m.y4]), M) := by
    simp [rX, rY, eRow, show szOk 8 = true by decide]
  have hX0 : gIx (eM m) (.int 0) M = some (.ok (rX m), M) := by rw [hX]; simp
  have hX1 : gIx (eM m) (.int 1) M = some (.ok (rY m), M) := by rw [hX]; simp
  rw [sSeq_nx (en1 := [some (eF f), some (eF g), some (eF F), some (eM m), none, none, none, none]) (M1 := M) (by
    have hc : cLc (iSeq (cOp gAddA (cOp gIx (cVar 3) (cC (.int 0))) (cOp gIx (cVar 3) (cC (.int 1))))) (gN 7) (tOrC (tNotC (cTru (cCall gIsi (aCons (cVar 7) (aCons (cC (.ty "int")) aNil))))) (cTru (cCall gIsi (aCons (cVar 7) (aCons (cC (.ty "bool")) aNil))))) (cVar 7) [7] [some (eF f), some (eF g), some (eF F), some (eM m), none, none, none, none] M = some (.ok (.imm []), M) := by
      have hi : iSeq (cOp gAddA (cOp gIx (cVar 3) (cC (.int 0))) (cOp gIx (cVar 3) (cC (.int 1)))) [some (eF f), some (eF g), some (eF F), some (eM m), none, none, none, none] M = some (.ok ([m.x1, m.x2, m.x3, m.x4, m.y1, m.y2, m.y3, m.y4].map D.int), M) := by
        simp [hX0, hX1, e8]
      have := lc_of (M := M) (en := [some (eF f), some (eF g), some (eF F), some (eM m), none, none, none, none]) (g := gN 7) (t := tOrC (tNotC (cTru (cCall gIsi (aCons (cVar 7) (aCons (cC (.ty "int")) aNil))))) (cTru (cCall gIsi (aCons (cVar 7) (aCons (cC (.ty "bool")) aNil))))) (f := cVar 7) (mk := mkI) (vs := [7]) D.int (fun _ => false) D.int [m.x1, m.x2, m.x3, m.x4, m.y1, m.y2, m.y3, m.y4] hi (by show 8 ≤ _; decide) fun x _ => ⟨_, rfl, by simp [isi_int, isi_intb], fun z => absurd z Bool.false_ne_true⟩
      have e0 : ([m.x1, m.x2, m.x3, m.x4, m.y1, m.y2, m.y3, m.y4].filter fun _ => false) = [] := List.filter_eq_nil_iff.mpr fun _ _ => Bool.false_ne_true
      rw [e0] at this
      exact this
    rw [sIf_e, cTru_e, cOp_e, hc]
    simp [gEq_nil0])]
  rw [sSeq_nx (en1 := [some (eF f), some (eF g), some (eF F), some (eM m), some (rX m), some (rY m), none, none]) (M1 := M) (by
    rw [hX]; simp)]
  have i4 : ∀ (a b c d : Int) , gIx (eRow [a, b, c, d]) (.int 0) M = some (.ok (.int a), M) ∧ gIx (eRow [a, b, c, d]) (.int 1) M = some (.ok (.int b), M) ∧ gIx (eRow [a, b, c, d]) (.int 2) M = some (.ok (.int c), M) := fun a b c d => by simp
  have j0 : ∀ h : Frm, gIx (eF h) (.int 0) M = some (.ok (.int h.a), M) := fun h => by simp [eF]
  have x0 : gIx (rX m) (.int 0) M = some (.ok (.int m.x1), M) := (i4 _ _ _ _).1
  have x1 : gIx (rX m) (.int 1) M = some (.ok (.int m.x2), M) := (i4 _ _ _ _).2.1
  have x2 : gIx (rX m) (.int 2) M = some (.ok (.int m.x3), M) := (i4 _ _ _ _).2.2
  have y0 : gIx (rY m) (.int 0) M = some (.ok (.int m.y1), M) := (i4 _ _ _ _).1
  have y1 : gIx (rY m) (.int 1) M = some (.ok (.int m.y2), M) := (i4 _ _ _ _).2.1
  have y2 : gIx (rY m) (.int 2) M = some (.ok (.int m.y3), M) := (i4 _ _ _ _).2.2
  have ht : tOrC (cTru (cOp (gEq true) (cOp gSub (cOp gMul (cOp gIx (cVar 4) (cC (.int 0))) (cOp gIx (cVar 5) (cC (.int 1)))) (cOp gMul (cOp gIx (cVar 5) (cC (.int 0))) (cOp gIx (cVar 4) (cC (.int 1))))) (cOp gIx (cVar 0) (cC (.int 0))))) (cTru (cOp (gEq true) (cOp gSub (cOp gMul (cOp gIx (cVar 4) (cC (.int 0))) (cOp gIx (cVar 5) (cC (.int 2)))) (cOp gMul (cOp gIx (cVar 5) (cC (.int 0))) (cOp gIx (cVar 4) (cC (.int 2))))) (cOp gIx (cVar 1) (cC (.int 0)))))
      [some (eF f), some (eF g), some (eF F), some (eM m), some (rX m), some (rY m), none, none] M = some (.ok (!minB f g m), M) := by
    simp only [tOrC_e, cTru_e, cOp_e, cVar_e, cC_e, List.getElem?_cons_zero, List.getElem?_cons_succ, bnd_ok, x0, x1, x2, y0, y1, y2, j0, gI_e, yes2_e, if_true, mc m1 m6, mc m5 m2, mc m1 m7, mc m5 m3, gEq_int, tru_bl]
    unfold minB
    cases (m.x1 * m.y2 - m.y1 * m.x2 == f.a) <;> simp
  have hif : sIf (tOrC (cTru (cOp (gEq true) (cOp gSub (cOp gMul (cOp gIx (cVar 4) (cC (.int 0))) (cOp gIx (cVar 5) (cC (.int 1)))) (cOp gMul (cOp gIx (cVar 5) (cC (.int 0))) (cOp gIx (cVar 4) (cC (.int 1))))) (cOp gIx (cVar 0) (cC (.int 0))))) (cTru (cOp (gEq true) (cOp gSub (cOp gMul (cOp gIx (cVar 4) (cC (.int 0))) (cOp gIx (cVar 5) (cC (.int 2)))) (cOp gMul (cOp gIx (cVar 5) (cC (.int 0))) (cOp gIx (cVar 4) (cC (.int 2))))) (cOp gIx (cVar 1) (cC (.int 0)))))) (sRet (cC (.bl false))) sSkip
      [some (eF f), some (eF g), some (eF F), some (eM m), some (rX m), some (rY m), none, none] M = if minB f g m = true then some (.nx [some (eF f), some (eF g), some (eF F), some (eM m), some (rX m), some (rY m), none, none], M) else some (.rt (.bl false), M) := by
    rw [sIf_e, ht, sbnd_ok]
    cases minB f g m <;> simp
  unfold lawB
  cases hmin : minB f g m with
  | false =>
    rw [hmin] at hif
    rw [sSeq_rt hif, fin_rt]
    exact gcF_ok0 rfl rfl
  | true =>
    rw [hmin, if_pos rfl] at hif
    rw [sSeq_nx hif, Bool.true_and]
    have h1 := put_in_is (M := M) hF hm
    have h2 := quartic_is (M := M) hf hg
    have hr : sRet (cOp (gEq false) (cCall m_l_put_in (aCons (cVar 2) (aCons (cVar 3) aNil))) (cCall m_l_quartic (aCons (cVar 0) (aCons (cVar 1) aNil)))) [some (eF f), some (eF g), some (eF F), some (eM m), some (rX m), some (rY m), none, none] M = some (.rt (.bl (pcL F m == qtL f g)), M) := by
      simp only [sRet_e, cOp_e, cCall_e, aCons_e, aNil_e, cVar_e, List.getElem?_cons_zero, List.getElem?_cons_succ, bnd_ok, h1, h2, gEq_ints, Bool.false_eq_true, if_false, sbnd_ok]
    rw [hr, fin_rt]
    exact gcF_ok0 rfl rfl
/-! papers that are none -/
theorem shows_none {a b c : D} : m_shows_together [a, b, c, .non] M = some (.ok (.bl false), M) ∧ m_l_shows [a, b, c, .non] M = some (.ok (.bl false), M) := by
  constructor
  · unfold m_shows_together f_shows_together
    rw [show mDef 4 16 _ [a, b, c, D.non] M = _ from mDef_4, show start0 16 [a, b, c, D.non] = [some a, some b, some c, some .non, none, none, none, none, none, none, none, none, none, none, none, none] from rfl]
    rw [sSeq_rt (d := .bl false) (M1 := M) (by simp [isi_non]), fin_rt]
    exact gcF_ok0 rfl rfl
  · unfold m_l_shows f_l_shows
    rw [show mDef 4 8 _ [a, b, c, D.non] M = _ from mDef_4, show start0 8 [a, b, c, D.non] = [some a, some b, some c, some .non, none, none, none, none] from rfl]
    rw [sSeq_rt (d := .bl false) (M1 := M) (by simp [isi_non]), fin_rt]
    exact gcF_ok0 rfl rfl
theorem shows_one {a b c x : D} : m_shows_together [a, b, c, .tup [x]] M = some (.ok (.bl false), M) ∧ m_l_shows [a, b, c, .tup [x]] M = some (.ok (.bl false), M) := by
  constructor
  · unfold m_shows_together f_shows_together
    rw [show mDef 4 16 _ [a, b, c, D.tup [x]] M = _ from mDef_4, show start0 16 [a, b, c, D.tup [x]] = [some a, some b, some c, some (.tup [x]), none, none, none, none, none, none, none, none, none, none, none, none] from rfl]
    rw [sSeq_rt (d := .bl false) (M1 := M) (by simp [isi_tup]), fin_rt]
    exact gcF_ok0 rfl rfl
  · unfold m_l_shows f_l_shows
    rw [show mDef 4 8 _ [a, b, c, D.tup [x]] M = _ from mDef_4, show start0 8 [a, b, c, D.tup [x]] = [some a, some b, some c, some (.tup [x]), none, none, none, none] from rfl]
    rw [sSeq_rt (d := .bl false) (M1 := M) (by simp [isi_tup]), fin_rt]
    exact gcF_ok0 rfl rfl
theorem shows_odd {a b c : D} {x1 x2 x3 x4 y1 y2 y3 : Int} : m_shows_together [a, b, c, .tup [eRow [x1, x2, x3, x4], eRow [y1, y2, y3]]] M = some (.ok (.bl false), M) ∧ m_l_shows [a, b, c, .tup [eRow [x1, x2, x3, x4], eRow [y1, y2, y3]]] M = some (.ok (.bl false), M) := by
  constructor
  · unfold m_shows_together f_shows_together
    rw [show mDef 4 16 _ [a, b, c, D.tup [eRow [x1, x2, x3, x4], eRow [y1, y2, y3]]] M = _ from mDef_4, show start0 16 [a, b, c, D.tup [eRow [x1, x2, x3, x4], eRow [y1, y2, y3]]] = [some a, some b, some c, some (.tup [eRow [x1, x2, x3, x4], eRow [y1, y2, y3]]), none, none, none, none, none, none, none, none, none, none, none, none] from rfl]
    rw [sSeq_rt (d := .bl false) (M1 := M) (by simp [isi_tup, is_row_4, is_row_3, gAll, blsOf]), fin_rt]
    exact gcF_ok0 rfl rfl
  · unfold m_l_shows f_l_shows
    rw [show mDef 4 8 _ [a, b, c, D.tup [eRow [x1, x2, x3, x4], eRow [y1, y2, y3]]] M = _ from mDef_4, show start0 8 [a, b, c, D.tup [eRow [x1, x2, x3, x4], eRow [y1, y2, y3]]] = [some a, some b, some c, some (.tup [eRow [x1, x2, x3, x4], eRow [y1, y2, y3]]), none, none, none, none] from rfl]
    rw [sSeq_rt (d := .bl false) (M1 := M) (by simp [isi_tup, isi_row, gEq_row_nil]), fin_rt]
    exact gcF_ok0 rfl rfl
end K12
/-! A finite commutative group, as a list. -/
namespace GRP
variable {α : Type} [DecidableEq α]
structure Grp (L : List α) (op : α → α → α) (e : α) : Prop where
  nodup : L.Nodup
  me : e ∈ L
  cl : ∀ x ∈ L, ∀ y ∈ L, op x y ∈ L
  assoc : ∀ x ∈ L, ∀ y ∈ L, ∀ z ∈ L, op (op x y) z = op x (op y z)
  comm : ∀ x ∈ L, ∀ y ∈ L, op x y = op y x
  one : ∀ x ∈ L, op e x = x
  inv : ∀ x ∈ L, ∃ y ∈ L, op x y = e
def pw (op : α → α → α) (e x : α) : Nat → α
  | 0 => e
  | k + 1 => op (pw op e x k) x
theorem subset_len : ∀ {O L : List α}, O.Nodup → (∀ x ∈ O, x ∈ L) → O.length ≤ L.length
  | [], L, _, _ => Nat.zero_le _
  | x :: O, L, hn, hs => by
    have hx := hs x List.mem_cons_self
    rw [List.nodup_cons] at hn
    have := subset_len (O := O) (L := L.erase x) hn.2 fun y hy => by
      have : y ≠ x := fun z => hn.1 (z ▸ hy)
      exact (List.mem_erase_of_ne this).mpr (hs y (List.mem_cons_of_mem _ hy))
    rw [List.length_erase_of_mem hx] at this
    have : 0 < L.length := List.length_pos_of_mem hx
    rw [List.length_cons]
    omega
variable {L : List α} {op : α → α → α} {e x y z : α}
theorem Grp.pm (G : Grp L op e) (hx : x ∈ L) : ∀ k, pw op e x k ∈ L
  | 0 => G.me
  | k + 1 => G.cl _ (G.pm hx k) _ hx
theorem Grp.cancel (G : Grp L op e) (hx : x ∈ L) (hy : y ∈ L) (hz : z ∈ L) (h : op x z = op y z) : x = y := by
  obtain ⟨w, hw, e1⟩ := G.inv z hz
  have h1 := G.assoc x hx z hz w hw
  have h2 := G.assoc y hy z hz w hw
  rw [h, h2, e1, G.comm y hy e G.me, G.one y hy, G.comm x hx e G.me, G.one x hx] at h1
  exact h1.symm
theorem Grp.pw_add (G : Grp L op e) (hx : x ∈ L) (i : Nat) : ∀ j, pw op e x (i + j) = op (pw op e x i) (pw op e x j)
  | 0 => by
    show pw op e x i = op _ e
    rw [G.comm _ (G.pm hx i) e G.me, G.one _ (G.pm hx i)]
  | j + 1 => by
    show op (pw op e x (i + j)) x = op _ (op _ x)
    rw [G.pw_add hx i j, G.assoc _ (G.pm hx i) _ (G.pm hx j) _ hx]
theorem nodup_map_range {f : Nat → α} : ∀ {n : Nat}, (∀ i j, i < j → j < n → f i ≠ f j) → ((List.range n).map f).Nodup := by
  intro n h
  rw [List.nodup_iff_pairwise_ne, List.pairwise_map]
  refine List.Pairwise.imp_of_mem (R := (· < ·)) (fun {a b} ha hb hab => h a b hab (List.mem_range.mp hb)) List.pairwise_lt_range
/-- some power is that of 1 -/
theorem Grp.some_order (G : Grp L op e) (hx : x ∈ L) : ∃ k, 1 ≤ k ∧ k ≤ L.length ∧ pw op e x k = e := by
  by_cases h : ∀ i j, i < j → j < L.length + 1 → pw op e x i ≠ pw op e x j
  · exfalso
    have := subset_len (nodup_map_range h) (L := L) fun y hy => by
      obtain ⟨i, _, rfl⟩ := List.mem_map.mp hy
      exact G.pm hx i
    rw [List.length_map, List.length_range] at this
    omega
  · have ⟨i, h⟩ := Classical.not_forall.mp h
    have ⟨j, h⟩ := Classical.not_forall.mp h
    have ⟨h1, h⟩ := Classical.not_forall.mp h
    have ⟨h2, h⟩ := Classical.not_forall.mp h
    have h := Classical.not_not.mp h
    refine ⟨j - i, by omega, by omega, ?_⟩
    have e1 := G.pw_add hx (j - i) i
    rw [show j - i + i = j by omega, ← h] at e1
    have e2 : pw op e x i = op e (pw op e x i) := (G.one _ (G.pm hx i)).symm
    rw [e2] at e1
    exact (G.cancel G.me (G.pm hx _) (G.pm hx i) (by rw [G.one _ (G.pm hx i)] at e1 ⊢; exact e1)).symm
theorem filter_len {O : List α} : ∀ {L : List α}, L.Nodup → O.Nodup → (∀ x ∈ O, x ∈ L) → (L.filter fun x => decide (x ∉ O)).length + O.length = L.length := by
  intro L hL hO hs
  have h1 : (L.filter fun x => decide (x ∈ O)).length = O.length := by
    apply Nat.le_antisymm
    · exact subset_len (hL.filter _) fun x hx => of_decide_eq_true (List.mem_filter.mp hx).2
    · exact subset_len hO fun x hx => List.mem_filter.mpr ⟨hs x hx, decide_eq_true hx⟩
  have h2 : (L.filter fun x => decide (x ∈ O)).length + (L.filter fun x => decide (x ∉ O)).length = L.length := by
    clear hL hs h1
    induction L with
    | nil => rfl
    | cons a L ih =>
      rw [List.filter_cons, List.filter_cons]
      by_cases h : a ∈ O
      · simp only [h, decide_true, if_true, not_true, decide_false, Bool.false_eq_true, if_false, List.length_cons]; omega
      · simp only [h, decide_true, if_true, not_false_eq_true, decide_false, Bool.false_eq_true, if_false, List.length_cons]; omega
  omega
/-- walks of one length fill the list -/
theorem rounds {T : α → α} {d : Nat} (hd : 1 ≤ d) : ∀ (n : Nat) (L : List α), L.length = n → L.Nodup → (∀ x ∈ L, T x ∈ L) → (∀ x ∈ L, ∀ y ∈ L, T x = T y → x = y) →
    (∀ x ∈ L, (Nat.repeat T d x) = x) → (∀ x ∈ L, ∀ k, 1 ≤ k → k < d → Nat.repeat T k x ≠ x) → d ∣ n := by
  intro n
  induction n using Nat.strongRecOn with
  | ind n ih =>
    intro L hn hL hT hi hp hf
    cases hLc : L with
    | nil => rw [hLc] at hn; rw [← hn]; exact Nat.dvd_zero d
    | cons x R =>
      have hx : x ∈ L := by rw [hLc]; exact List.mem_cons_self
      have hm : ∀ k, Nat.repeat T k x ∈ L := fun k => by
        induction k with
        | zero => exact hx
        | succ k ihk => exact hT _ ihk
      have back : ∀ i j, i ≤ j → Nat.repeat T i x = Nat.repeat T j x → Nat.repeat T (j - i) x = x := by
        intro i
        induction i with
        | zero => intro j _ h; exact h.symm
        | succ i ihi =>
          intro j hj h
          obtain ⟨j, rfl⟩ : ∃ j', j = j' + 1 := ⟨j - 1, by omega⟩
          have := ihi j (by omega) (hi _ (hm i) _ (hm j) h)
          rwa [show j + 1 - (i + 1) = j - i by omega]
      have hO : ((List.range d).map fun k => Nat.repeat T k x).Nodup := nodup_map_range fun i j hij hj h => hf x hx (j - i) (by omega) (by omega) (back i j (by omega) h)
      generalize hOd : ((List.range d).map fun k => Nat.repeat T k x) = O at hO
      have mO : ∀ y, y ∈ O ↔ ∃ k, k < d ∧ Nat.repeat T k x = y := fun y => by
        rw [← hOd, List.mem_map]
        exact ⟨fun ⟨k, h1, h2⟩ => ⟨k, List.mem_range.mp h1, h2⟩, fun ⟨k, h1, h2⟩ => ⟨k, List.mem_range.mpr h1, h2⟩⟩
      have lO : O.length = d := by rw [← hOd, List.length_map, List.length_range]
      have hs : ∀ y ∈ O, y ∈ L := fun y hy => by
        obtain ⟨k, _, rfl⟩ := (mO y).mp hy
        exact hm k
      have hlen := filter_len hL hO hs
      have sub : ∀ y, y ∈ (L.filter fun x => decide (x ∉ O)) → y ∈ L ∧ y ∉ O := fun y hy => ⟨(List.mem_filter.mp hy).1, of_decide_eq_true (List.mem_filter.mp hy).2⟩
      have dv := ih (L.filter fun x => decide (x ∉ O)).length (by omega) _ rfl (hL.filter _) (fun y hy => by
        obtain ⟨h1, h2⟩ := sub y hy
        refine List.mem_filter.mpr ⟨hT y h1, decide_eq_true fun z => h2 ?_⟩
        obtain ⟨k, hk, ek⟩ := (mO _).mp z
        cases k with
        | zero =>
          have : y = Nat.repeat T (d - 1) x := by
            refine hi _ h1 _ (hm _) ?_
            have e1 := hp x hx
            rw [show d = d - 1 + 1 by omega] at e1
            exact ek.symm.trans e1.symm
          exact (mO y).mpr ⟨d - 1, by omega, this.symm⟩
        | succ k =>
          exact (mO y).mpr ⟨k, by omega, hi _ (hm k) _ h1 ek⟩) (fun y hy z hz h => hi y (sub y hy).1 z (sub z hz).1 h) (fun y hy => hp y (sub y hy).1) (fun y hy => hf y (sub y hy).1)
      have : n = (L.filter fun x => decide (x ∉ O)).length + d := by omega
      rw [this]
      exact Nat.dvd_add dv (Nat.dvd_refl d)
/-- Lagrange -/
theorem Grp.divides (G : Grp L op e) (hx : x ∈ L) {d : Nat} (hd : 1 ≤ d) (h1 : pw op e x d = e) (h2 : ∀ k, 1 ≤ k → k < d → pw op e x k ≠ e) : d ∣ L.length := by
  have hr : ∀ y ∈ L, ∀ k, Nat.repeat (fun z => op z x) k y = op y (pw op e x k) := by
    intro y hy k
    induction k with
    | zero => show y = op y e; rw [G.comm y hy e G.me, G.one y hy]
    | succ k ih => show op (Nat.repeat _ k y) x = op y (op _ x); rw [ih, G.assoc y hy _ (G.pm hx k) x hx]
  refine rounds (T := fun z => op z x) hd L.length L rfl G.nodup (fun y hy => G.cl y hy x hx) (fun y hy z hz h => G.cancel hy hz hx h) (fun y hy => ?_) (fun y hy k hk hk2 h => ?_)
  · rw [hr y hy, h1, G.comm y hy e G.me, G.one y hy]
  · rw [hr y hy, G.comm y hy _ (G.pm hx k)] at h
    have e1 : op (pw op e x k) y = op e y := by rw [h, G.one y hy]
    exact h2 k hk hk2 (G.cancel (G.pm hx k) G.me hy e1)
end GRP
/-! k12: the classes are a group. -/
namespace K12
open PySem DL
variable {M : Store}
/-- a reduced form of the number n without a common divisor -/
structure RG (n : Int) (f : Frm) : Prop where
  pos : f.pos
  gap : f.gap = n
  red : Red f
  prim : f.prim
def Tg (f g F : Frm) : Prop := ∃ m, Tog f g F m
/-- forms of the number n that the law may meet -/
structure OkF (n : Int) (f : Frm) : Prop where
  pos : f.pos
  gap : f.gap = n
  prim : f.prim
  bd : Bd9 f
theorem RG.ok {n : Int} (hn : Num n) {f : Frm} (h : RG n f) : OkF n f := by
  obtain ⟨h1, h2, h3⟩ := red_b hn h.pos h.gap h.red
  exact ⟨h.pos, h.gap, h.prim, ⟨by omega, by omega, by omega, by omega⟩⟩
theorem Tg.rg {n : Int} {f g F : Frm} (hf : OkF n f) (h : Tg f g F) : RG n F := by
  obtain ⟨m, h⟩ := h
  exact ⟨h.pos, by rw [h.gap, hf.gap], h.red, h.prim⟩
theorem tg_ex {n : Int} (hn : Num n) {f g : Frm} (hf : OkF n f) (hg : OkF n g) : ∃ F, Tg f g F := by
  have := hn.lo
  obtain ⟨F, m, h, _⟩ := put_together_is (M := []) hf.pos hg.pos hf.prim hg.prim (by rw [hf.gap, hg.gap]) hf.bd hg.bd (by rw [hf.gap]; omega)
  exact ⟨F, m, h⟩
theorem tg_cl {n : Int} {f g F f' g' F' : Frm} (hf : OkF n f) (hg : OkF n g) (h : Tg f g F) (h' : Tg f' g' F') (a : Cl f f') (b : Cl g g') : F = F' := by
  obtain ⟨m, h⟩ := h
  obtain ⟨m', h'⟩ := h'
  exact ((comp_cl hf.prim hf.pos hg.pos h.comp h'.comp a b).red h.pos h.red h'.red).symm
theorem tg_comm {n : Int} {f g F F' : Frm} (hf : OkF n f) (hg : OkF n g) (h : Tg f g F) (h' : Tg g f F') : F = F' := by
  obtain ⟨m, h⟩ := h
  obtain ⟨m', h'⟩ := h'
  exact ((comp_cl hf.prim hf.pos hg.pos h.comp h'.comp.swap (Cl.refl _) (Cl.refl _)).red h.pos h.red h'.red).symm
theorem tg_assoc {n : Int} {f g h F1 T1 F2 T2 : Frm} (hf : OkF n f) (hg : OkF n g) (hh : OkF n h) (k1 : Tg f g F1) (k2 : Tg F1 h T1) (k3 : Tg g h F2) (k4 : Tg f F2 T2) : T1 = T2 := by
  obtain ⟨m1, k1⟩ := k1
  obtain ⟨m2, k2⟩ := k2
  obtain ⟨m3, k3⟩ := k3
  obtain ⟨m4, k4⟩ := k4
  exact ((comp_assoc hf.pos hg.pos hh.pos hf.prim hg.prim hh.prim (by rw [hf.gap, hg.gap]) (by rw [hg.gap, hh.gap]) k1.pos k1.prim k3.pos k1.comp k2.comp k3.comp k4.comp).red k2.pos k2.red k4.red).symm
theorem unit_rg {n : Int} (hn : Num n) : RG n (unitF n) := by
  obtain ⟨f, e, h1, h2, h3, h4⟩ := (mem_prm hn).mp (unit_in hn)
  have : f = unitF n := by
    unfold Frm.row at e
    simp only [List.cons.injEq, and_true] at e
    exact Frm.ext e.1.symm e.2.1.symm e.2.2.symm
  rw [← this]
  exact ⟨h1, h2, h3, h4⟩
theorem tg_one {n : Int} (hn : Num n) {f T : Frm} (hf : OkF n f) (h : Tg (unitF n) f T) : Cl T f := by
  obtain ⟨m, h⟩ := h
  have u := unit_rg hn
  exact comp_one u.pos hf.pos u.prim rfl (by rw [u.gap, hf.gap]) h.comp
theorem opp_gap (f : Frm) : f.opp.gap = f.gap := by simp only [Frm.gap, gapF, Frm.opp]; grind
theorem OkF.opp {n : Int} {f : Frm} (h : OkF n f) : OkF n f.opp := by
  have b := h.bd
  refine ⟨opp_pos h.pos, by rw [opp_gap, h.gap], ?_, ⟨b.a, by have := b.b2; show _ ≤ 0 - f.b; omega, by have := b.b1; show 0 - f.b ≤ _; omega, b.c⟩⟩
  show gcdL [f.a, 0 - f.b, f.c] = 1
  rw [opp_gcd]; exact h.prim
theorem tg_opp {n : Int} (hn : Num n) {f g T : Frm} (hf : OkF n f) (hg : OkF n g) (hc : Cl f.opp g) (h : Tg f g T) : T = unitF n := by
  obtain ⟨F, hF⟩ := tg_ex hn hf hf.opp
  have e1 : F = T := tg_cl hf hf.opp hF h (Cl.refl f) hc
  obtain ⟨m, hm⟩ := hF
  have u := unit_rg hn
  have := comp_opp u.pos hf.pos hf.prim rfl (by rw [u.gap, hf.gap]) hm.comp
  rw [← e1]
  exact (this.red hm.pos hm.red u.red).symm
open Classical in
/-- put together, as a function -/
noncomputable def op (f g : Frm) : Frm := if h : ∃ F, Tg f g F then Classical.choose h else f
theorem op_tg {n : Int} (hn : Num n) {f g : Frm} (hf : OkF n f) (hg : OkF n g) : Tg f g (op f g) := by
  unfold op
  rw [dif_pos (tg_ex hn hf hg)]
  exact Classical.choose_spec (tg_ex hn hf hg)
theorem op_is {n : Int} (hn : Num n) {f g F : Frm} (hf : OkF n f) (hg : OkF n g) (h : Tg f g F) : op f g = F := tg_cl hf hg (op_tg hn hf hg) h (Cl.refl _) (Cl.refl _)
/-- what the program hands back -/
theorem together_is {n : Int} (hn : Num n) {f g : Frm} (hf : OkF n f) (hg : OkF n g) : ∃ m, Tog f g (op f g) m ∧ m_put_together [eF f, eF g] M = some (.ok (.tup [eF (op f g), eM m]), M) := by
  have := hn.lo
  obtain ⟨F, m, h, e⟩ := put_together_is (M := M) hf.pos hg.pos hf.prim hg.prim (by rw [hf.gap, hg.gap]) hf.bd hg.bd (by rw [hf.gap]; omega)
  have : op f g = F := op_is hn hf hg ⟨m, h⟩
  rw [this]
  exact ⟨m, h, e⟩
theorem op_rg {n : Int} (hn : Num n) {f g : Frm} (hf : OkF n f) (hg : OkF n g) : RG n (op f g) := (op_tg hn hf hg).rg hf
theorem op_cl {n : Int} (hn : Num n) {f g f' g' : Frm} (hf : OkF n f) (hg : OkF n g) (hf' : OkF n f') (hg' : OkF n g') (a : Cl f f') (b : Cl g g') : op f g = op f' g' := tg_cl hf hg (op_tg hn hf hg) (op_tg hn hf' hg') a b
theorem op_comm {n : Int} (hn : Num n) {f g : Frm} (hf : OkF n f) (hg : OkF n g) : op f g = op g f := tg_comm hf hg (op_tg hn hf hg) (op_tg hn hg hf)
theorem op_assoc {n : Int} (hn : Num n) {f g h : Frm} (hf : OkF n f) (hg : OkF n g) (hh : OkF n h) : op (op f g) h = op f (op g h) :=
  tg_assoc hf hg hh (op_tg hn hf hg) (op_tg hn ((op_rg hn hf hg).ok hn) hh) (op_tg hn hg hh) (op_tg hn hf ((op_rg hn hg hh).ok hn))
theorem op_one {n : Int} (hn : Num n) {f r : Frm} (hf : OkF n f) (hr : RG n r) (hc : Cl f r) : op (unitF n) f = r := by
  have u := (unit_rg hn).ok hn
  have h := op_tg hn u hf
  have hT := h.rg u
  exact (((tg_one hn hf h).trans hc).red hT.pos hT.red hr.red).symm
theorem op_opp {n : Int} (hn : Num n) {f g : Frm} (hf : OkF n f) (hg : OkF n g) (hc : Cl f.opp g) : op f g = unitF n := tg_opp hn hf hg hc (op_tg hn hf hg)
/-! the list of the classes -/
def toF : List Int → Frm
  | [a, b, c] => ⟨a, b, c⟩
  | _ => ⟨0, 0, 0⟩
def LS (n : Int) : List Frm := (prm n).map toF
instance : DecidableEq Frm := fun f g => if h : f.a = g.a ∧ f.b = g.b ∧ f.c = g.c then .isTrue (Frm.ext h.1 h.2.1 h.2.2) else .isFalse fun e => h (by rw [e]; exact ⟨rfl, rfl, rfl⟩)
theorem mem_LS {n : Int} (hn : Num n) {f : Frm} : f ∈ LS n ↔ RG n f := by
  unfold LS
  rw [List.mem_map]
  constructor
  · rintro ⟨r, hr, rfl⟩
    obtain ⟨g, rfl, h1, h2, h3, h4⟩ := (mem_prm hn).mp hr
    exact ⟨h1, h2, h3, h4⟩
  · intro h
    exact ⟨f.row, (mem_prm hn).mpr ⟨f, rfl, h.pos, h.gap, h.red, h.prim⟩, rfl⟩
theorem LS_len {n : Int} : (LS n).length = (prm n).length := List.length_map _
theorem LS_nodup {n : Int} (hn : Num n) : (LS n).Nodup := by
  unfold LS
  rw [List.nodup_iff_pairwise_ne, List.pairwise_map]
  have h : (prm n).Pairwise ltR := clsU_lt.filter _
  refine h.imp fun {r s} h => ?_
  obtain ⟨a, b, c, a', b', c', rfl, rfl, h⟩ := h
  intro e
  have : (⟨a, b, c⟩ : Frm) = ⟨a', b', c'⟩ := e
  simp only [Frm.mk.injEq] at this
  omega
/-- a reduced form of a class -/
theorem red_ex {n : Int} {f : Frm} (hn : Num n) (hf : OkF n f) : ∃ r, RG n r ∧ Cl f r := by
  have b := hf.bd
  obtain ⟨v, v1, v2, v3, _⟩ := two_reduced_is (M := []) (f := f) hf.pos ⟨by have := b.a; omega, by have := b.b1; omega, by have := b.b2; omega, by have := b.c; omega⟩ hf.prim
  exact ⟨f.act v, ⟨pos_act hf.pos v1, by rw [gap_act, v1, hf.gap]; omega, v2, prim_act v1 hf.prim⟩, v, v1, rfl⟩
theorem grp {n : Int} (hn : Num n) : GRP.Grp (LS n) op (unitF n) := by
  refine ⟨LS_nodup hn, (mem_LS hn).mpr (unit_rg hn), fun x hx y hy => ?_, fun x hx y hy z hz => ?_, fun x hx y hy => ?_, fun x hx => ?_, fun x hx => ?_⟩
  · exact (mem_LS hn).mpr (op_rg hn (((mem_LS hn).mp hx).ok hn) (((mem_LS hn).mp hy).ok hn))
  · exact op_assoc hn (((mem_LS hn).mp hx).ok hn) (((mem_LS hn).mp hy).ok hn) (((mem_LS hn).mp hz).ok hn)
  · exact op_comm hn (((mem_LS hn).mp hx).ok hn) (((mem_LS hn).mp hy).ok hn)
  · have h := (mem_LS hn).mp hx
    exact op_one hn (h.ok hn) h (Cl.refl x)
  · have h := ((mem_LS hn).mp hx).ok hn
    obtain ⟨r, r1, r2⟩ := red_ex hn h.opp
    exact ⟨r, (mem_LS hn).mpr r1, op_opp hn h (r1.ok hn) r2⟩
end K12
/-! k12: powers and orders. -/
namespace K12
open PySem DL
variable {M : Store}
theorem Bd9.bd {f : Frm} (h : Bd9 f) : Bd f := ⟨by have := h.a; omega, by have := h.b1; omega, by have := h.b2; omega, by have := h.c; omega⟩
theorem Bd9.sm {f : Frm} (hp : f.pos) (h : Bd9 f) : Sm f.b ∧ Sm f.c := ⟨⟨by have := h.b1; omega, by have := h.b2; omega⟩, ⟨by have := pos_c hp; omega, by have := h.c; omega⟩⟩
theorem OkF.check {n : Int} {f : Frm} (h : OkF n f) : m_check_two [eF f] M = some (.ok .non, M) := by
  have s := h.bd.sm h.pos
  exact check_two_is s.1 s.2 h.pos.2 h.pos.1 h.prim
theorem OkF.gap_is {n : Int} {f : Frm} (h : OkF n f) : m_gap [eF f] M = some (.ok (.int n), M) := by
  have s := h.bd.sm h.pos
  have e := K12.gap_is (M := M) (a := f.a) (b := f.b) (c := f.c) s.1 s.2
  have g : gapF f.a f.b f.c = n := h.gap
  rw [g] at e
  exact e
theorem OkF.reduced {n : Int} {f r : Frm} (h : OkF n f) (hr : RG n r) (hc : Cl f r) : ∃ v, m_two_reduced [eF f] M = some (.ok (.tup [eF r, eC v]), M) := by
  obtain ⟨v, v1, v2, v3, e⟩ := two_reduced_is (M := M) h.pos h.bd.bd h.prim
  have : f.act v = r := by
    have c : Cl r (f.act v) := hc.symm.trans ⟨v, v1, rfl⟩
    exact c.red hr.pos hr.red v2
  rw [this] at e
  exact ⟨v, e⟩
/-- the powers of a class -/
noncomputable def pwr (n : Int) (r : Frm) (k : Nat) : Frm := GRP.pw op (unitF n) r k
theorem pwr_rg {n : Int} (hn : Num n) {r : Frm} (hr : RG n r) (k : Nat) : RG n (pwr n r k) := (mem_LS hn).mp ((grp hn).pm ((mem_LS hn).mpr hr) k)
theorem pwr_succ {n : Int} (hn : Num n) {f r : Frm} (hf : OkF n f) (hr : RG n r) (hc : Cl f r) (k : Nat) : op (pwr n r k) f = pwr n r (k + 1) :=
  op_cl hn ((pwr_rg hn hr k).ok hn) hf ((pwr_rg hn hr k).ok hn) (hr.ok hn) (Cl.refl _) hc
noncomputable def putB (i j : Nat) : EF := cOp gIx (cCall m_put_together (aCons (cVar i) (aCons (cVar j) aNil))) (cC (.int 0))
theorem put_ix {n : Int} (hn : Num n) {f g : Frm} (hf : OkF n f) (hg : OkF n g) {i j : Nat} {en : DL.Env} (hi : en[i]? = some (some (eF f))) (hj : en[j]? = some (some (eF g))) : putB i j en M = some (.ok (eF (op f g)), M) := by
  obtain ⟨m, _, e⟩ := together_is (M := M) hn hf hg
  unfold putB
  simp only [cOp_e, cCall_e, aCons_e, aNil_e, cVar_e, cC_e, hi, hj, bnd_ok, e]
  simp
theorem power_loop {n : Int} (hn : Num n) {f r : Frm} (hf : OkF n f) (hr : RG n r) (hc : Cl f r) {x1 : Option D} (l : List Int) : ∀ (k : Nat) (x3 : Option D), ∃ y3, fLoop (gN 3) (sAsg (putB 2 0) (gN 2)) (l.map D.int) [some (eF f), x1, some (eF (pwr n r k)), x3] M =
    some (.nx [some (eF f), x1, some (eF (pwr n r (k + l.length))), y3], M) := by
  induction l with
  | nil => exact fun k x3 => ⟨x3, rfl⟩
  | cons i l ih =>
    intro k x3
    obtain ⟨y3, e⟩ := ih (k + 1) (some (.int i))
    refine ⟨y3, ?_⟩
    have hp := put_ix (M := M) hn ((pwr_rg hn hr k).ok hn) hf (i := 2) (j := 0) (en := [some (eF f), x1, some (eF (pwr n r k)), some (.int i)]) rfl rfl
    rw [pwr_succ hn hf hr hc] at hp
    rw [List.map_cons, fLoop_cons]
    simp only [gN_e, List.set_cons_succ, List.set_cons_zero, sAsg_e, hp, sbnd_ok]
    rw [e, List.length_cons, show k + 1 + l.length = k + (l.length + 1) by omega]
theorem class_power_is {n : Int} (hn : Num n) {f r : Frm} (hf : OkF n f) (hr : RG n r) (hc : Cl f r) {k : Nat} {K : Int} (hk : k ≤ 100000) (hK : K = k) : m_class_power [eF f, .int K] M = some (.ok (eF (pwr n r k)), M) := by
  have hu : m_unit_two [.int n] M = some (.ok (eF (unitF n)), M) := unit_two_is hn
  obtain ⟨y3, e⟩ := power_loop (M := M) hn hf hr hc (x1 := some (.int K)) (rgI 0 k) 0 none
  have hlen : (rgI 0 k).length = k := by simp [rgI]
  rw [hlen, Nat.zero_add] at e
  unfold m_class_power f_class_power
  rw [mDef_2, show start0 4 [eF f, D.int K] = [some (eF f), some (.int K), none, none] from rfl]
  rw [sSeq_nx (en1 := [some (eF f), some (.int K), none, none]) (M1 := M) (by simp [hf.check])]
  rw [sSeq_nx (en1 := [some (eF f), some (.int K), some (eF (pwr n r 0)), none]) (M1 := M) (by
    have e0 : pwr n r 0 = unitF n := rfl
    rw [e0]
    simp [hf.gap_is, hu])]
  have h1 : sFor (iRng1C (aCons (cVar 1) aNil)) (gN 3) (sAsg (putB 2 0) (gN 2)) [some (eF f), some (.int K), some (eF (pwr n r 0)), none] M = some (.nx [some (eF f), some (.int K), some (eF (pwr n r k)), y3], M) := by
    have hs : smI K = true := smI_of (by omega) (by omega)
    have ht : K.toNat = k := by omega
    have hi : iRng1C (aCons (cVar 1) aNil) [some (eF f), some (.int K), some (eF (pwr n r 0)), none] M = some (.ok ((rgI 0 k).map D.int), M) := by
      rw [iRng1_e, aCons_e, cVar_e]
      simp only [List.getElem?_cons_zero, List.getElem?_cons_succ, bnd_ok, aNil_e]
      rw [if_pos hs, rgD_eq, ht]
    rw [sFor_e, hi, sbnd_ok]; exact e
  unfold putB at h1
  rw [sSeq_nx h1]
  simp [eF]
/-- the order -/
theorem order_ex {n : Int} (hn : Num n) {r : Frm} (hr : RG n r) : ∃ d : Nat, 1 ≤ d ∧ d ≤ (prm n).length ∧ pwr n r d = unitF n ∧ (∀ k, 1 ≤ k → k < d → pwr n r k ≠ unitF n) ∧ d ∣ (prm n).length := by
  have G := grp hn
  have hx := (mem_LS hn).mpr hr
  obtain ⟨k, k1, k2, k3⟩ := G.some_order hx
  have : ∃ d, 1 ≤ d ∧ d ≤ k ∧ pwr n r d = unitF n ∧ ∀ j, 1 ≤ j → j < d → pwr n r j ≠ unitF n := by
    clear k2
    induction k using Nat.strongRecOn with
    | ind k ih =>
      by_cases h : ∀ j, 1 ≤ j → j < k → pwr n r j ≠ unitF n
      · exact ⟨k, k1, Nat.le_refl _, k3, h⟩
      · have ⟨j, h⟩ := Classical.not_forall.mp h
        have ⟨h1, h⟩ := Classical.not_forall.mp h
        have ⟨h2, h⟩ := Classical.not_forall.mp h
        have h := Classical.not_not.mp h
        obtain ⟨d, d1, d2, d3, d4⟩ := ih j h2 h1 h
        exact ⟨d, d1, by omega, d3, d4⟩
  obtain ⟨d, d1, d2, d3, d4⟩ := this
  rw [LS_len] at k2
  refine ⟨d, d1, by omega, d3, d4, ?_⟩
  have := G.divides hx d1 d3 d4
  rwa [LS_len] at this
theorem eF_inj {f g : Frm} : ([f.a, f.b, f.c] == [g.a, g.b, g.c]) = decide (f = g) := by
  rw [Bool.eq_iff_iff, beq_iff_eq, decide_eq_true_eq]
  constructor
  · intro h
    simp only [List.cons.injEq, and_true] at h
    exact Frm.ext h.1 h.2.1 h.2.2
  · intro h; rw [h]
theorem gEq_F {neg : Bool} {f g : Frm} : gEq neg (eF f) (eF g) M = some (.ok (.bl (if neg = true then !decide (f = g) else decide (f = g))), M) := by
  unfold eF
  rw [gEq_row, eF_inj]
theorem order_loop {n : Int} (hn : Num n) {f r : Frm} (hf : OkF n f) (hr : RG n r) (hc : Cl f r) {d : Nat} (h1 : pwr n r d = unitF n) (h2 : ∀ k, 1 ≤ k → k < d → pwr n r k ≠ unitF n) : ∀ (j k : Nat), 1 ≤ k → k + j = d →
    sWhile (cTru (cOp (gEq true) (cVar 2) (cVar 1))) (sPar 2 3 (aCons (putB 2 0) (aCons (cOp gAddA (cVar 3) (cC (.int 1))) aNil))) [some (eF f), some (eF (unitF n)), some (eF (pwr n r k)), some (.int (k : Int))] M =
      some (.nx [some (eF f), some (eF (unitF n)), some (eF (unitF n)), some (.int (d : Int))], M) := by
  intro j
  induction j with
  | zero =>
    intro k hk e
    have : k = d := by omega
    subst this
    rw [h1]
    refine sWhile_stop (M1 := M) ?_
    simp [gEq_F]
  | succ j ih =>
    intro k hk e
    have hne := h2 k hk (by omega)
    have hp := put_ix (M := M) hn ((pwr_rg hn hr k).ok hn) hf (i := 2) (j := 0) (en := [some (eF f), some (eF (unitF n)), some (eF (pwr n r k)), some (.int (k : Int))]) rfl rfl
    rw [pwr_succ hn hf hr hc] at hp
    refine sWhile_more (M1 := M) (M2 := M) ?_ ?_ (ih (k + 1) (by omega) (by omega))
    · simp [gEq_F, hne]
    · simp only [sPar_e, aCons_e, aNil_e, hp, bnd_ok, cOp_e, cVar_e, cC_e, List.getElem?_cons_zero, List.getElem?_cons_succ, gAddA_i, sbnd_ok, List.set_cons_succ, List.set_cons_zero]
      rfl
theorem class_order_is {n : Int} (hn : Num n) {f r : Frm} (hf : OkF n f) (hr : RG n r) (hc : Cl f r) : ∃ d : Nat, 1 ≤ d ∧ d ≤ (prm n).length ∧ pwr n r d = unitF n ∧ (∀ k, 1 ≤ k → k < d → pwr n r k ≠ unitF n) ∧ d ∣ (prm n).length ∧ m_class_order [eF f] M = some (.ok (.int (d : Int)), M) := by
  obtain ⟨d, d1, d2, d3, d4, d5⟩ := order_ex hn hr
  refine ⟨d, d1, d2, d3, d4, d5, ?_⟩
  have hu : m_unit_two [.int n] M = some (.ok (eF (unitF n)), M) := unit_two_is hn
  obtain ⟨v, hv⟩ := hf.reduced (M := M) hr hc
  have p1 : pwr n r 1 = r := (grp hn).one r ((mem_LS hn).mpr hr)
  have e := order_loop (M := M) hn hf hr hc d3 d4 (d - 1) 1 (by omega) (by omega)
  rw [p1] at e
  unfold m_class_order f_class_order
  rw [mDef_1, show start0 4 [eF f] = [some (eF f), none, none, none] from rfl]
  rw [sSeq_nx (en1 := [some (eF f), none, none, none]) (M1 := M) (by simp [hf.check])]
  rw [sSeq_nx (en1 := [some (eF f), some (eF (unitF n)), none, none]) (M1 := M) (by simp [hf.gap_is, hu])]
  rw [sSeq_nx (en1 := [some (eF f), some (eF (unitF n)), some (eF r), some (.int ((1 : Nat) : Int))]) (M1 := M) (by simp [hv])]
  unfold putB at e
  rw [sSeq_nx e]
  simp
end K12
set_option exponentiation.threshold 3000
/-! k12: what the law's own call needs. -/
namespace K12
open PySem DL
variable {M : Store}
theorem drawB {ds : List Int} {a m : Int} (ha : 0 ≤ a) (ha2 : a ≤ 1000000) (hm : 0 < m) : ∃ r : Int, 0 ≤ r ∧ r < m ∧ m_l_draw [.cel 0, .int m] [Box ds a] = some (.ok (.int r), [Box ds (a + 1)]) := draw_is (M := [Box ds a]) (c := 0) rfl ha ha2 hm
theorem pickB {α : Type} {enc : α → D} {l : List α} {ds : List Int} {a : Int} (ha : 0 ≤ a) (ha2 : a ≤ 1000000) (hl : l ≠ []) (h1 : ∀ x, clo 1 (enc x) = true) (h2 : ∀ x, notCel (enc x) = true) :
    ∃ x ∈ l, m_l_pick [.cel 0, .imm (l.map enc)] [Box ds a] = some (.ok (enc x), [Box ds (a + 1)]) := pick_is (M := [Box ds a]) (c := 0) rfl ha ha2 hl h1 h2
theorem changeB {ds : List Int} {a : Int} (ha : 0 ≤ a) (ha2 : a ≤ 900) : ∃ a' p q r s, a ≤ a' ∧ a' ≤ a + 24 ∧ Chn 81 p q r s ∧ p * s - q * r = 1 ∧ m_l_two_change [.cel 0] [Box ds a] = some (.ok (eTab [[p, q], [r, s]]), [Box ds a']) := two_change_is (M := [Box ds a]) (c := 0) rfl ha ha2
theorem pickT {l : List (List Int)} {ds : List Int} {a : Int} (ha : 0 ≤ a) (ha2 : a ≤ 1000000) (hl : l ≠ []) : ∃ x ∈ l, m_l_pick [.cel 0, eTab l] [Box ds a] = some (.ok (eRow x), [Box ds (a + 1)]) := by
  have hp : 0 < l.length := List.length_pos_iff.mpr hl
  obtain ⟨L, hL⟩ : ∃ L : Int, L = (l.length : Int) := ⟨_, rfl⟩
  obtain ⟨r, r1, r2, r3⟩ := drawB (ds := ds) (a := a) (m := L) ha ha2 (by omega)
  obtain ⟨j, rfl⟩ : ∃ j : Nat, r = j := ⟨r.toNat, by omega⟩
  have hj : j < l.length := by omega
  have e : L2.atI (l.map eRow) (j : Int) = some (eRow l[j]) := by
    rw [atI_nat (by simpa using hj)]
    simp
  refine ⟨l[j], List.getElem_mem hj, ?_⟩
  unfold m_l_pick f_l_pick
  rw [mDef_2]
  have h1 : sRet (cOp gIx (cVar 1) (cCall m_l_draw (aCons (cVar 0) (aCons (cCall gLen (aCons (cVar 1) aNil)) aNil)))) (start0 2 [D.cel 0, eTab l]) [Box ds a] = some (.rt (eRow l[j]), [Box ds (a + 1)]) := by
    rw [show start0 2 [D.cel 0, eTab l] = [some (.cel 0), some (eTab l)] from rfl]
    simp only [sRet_e, cOp_e, cCall_e, aCons_e, aNil_e, cVar_e, List.getElem?_cons_zero, List.getElem?_cons_succ, bnd_ok, gLen_tab, ← hL, r3, gIx_tab, e, sbnd_ok]
  rw [h1, fin_rt]
  have e2 : [Box ds (a + 1)] = [Box ds a].set 0 (Box ds (a + 1)) := rfl
  rw [e2]
  exact gcF_set clos_box clo_row rfl
theorem gIn_tab {neg : Bool} {r : List Int} {t : List (List Int)} : gIn neg (eRow r) (eTab t) M = some (.ok (.bl (if neg = true then !(t.contains r) else t.contains r)), M) := by
  have := gIn_rows (M := M) (neg := neg) (r := r) (t := t)
  unfold gIn at *
  exact this
end K12
set_option exponentiation.threshold 3000
/-! k12: the spoilt papers. -/
namespace K12
open PySem DL
variable {M : Store}
def addX (k δ : Int) (m : M24) : M24 := ⟨if k = 0 then m.x1 + δ else m.x1, if k = 1 then m.x2 + δ else m.x2, if k = 2 then m.x3 + δ else m.x3, if k = 3 then m.x4 + δ else m.x4, m.y1, m.y2, m.y3, m.y4⟩
def addY (k δ : Int) (m : M24) : M24 := ⟨m.x1, m.x2, m.x3, m.x4, if k = 0 then m.y1 + δ else m.y1, if k = 1 then m.y2 + δ else m.y2, if k = 2 then m.y3 + δ else m.y3, if k = 3 then m.y4 + δ else m.y4⟩
def spoil (a k δ : Int) (m : M24) : M24 := if a = 0 then addX k δ m else addY k δ m
def turnR (m : M24) : M24 := ⟨m.y1, m.y2, m.y3, m.y4, m.x1, m.x2, m.x3, m.x4⟩
def negM (m : M24) : M24 := ⟨0 - m.x1, 0 - m.x2, 0 - m.x3, 0 - m.x4, 0 - m.y1, 0 - m.y2, 0 - m.y3, 0 - m.y4⟩
theorem sz_up {x δ : Int} (h : Sz 3000 x) (hd : δ = 1 ∨ δ = -1) : Sz 3001 (x + δ) := h.add (Sz.mono (j := 1) (by rcases hd with rfl | rfl <;> decide) (by decide))
theorem spoil_sz {m : M24} (h : szM 3000 m) {a k δ : Int} (hd : δ = 1 ∨ δ = -1) : szM 3001 (spoil a k δ m) := by
  obtain ⟨m1, m2, m3, m4, m5, m6, m7, m8⟩ := h
  have u : ∀ {x : Int} {c : Prop} [Decidable c], Sz 3000 x → Sz 3001 (if c then x + δ else x) := fun {x c _} hx => by
    split
    · exact sz_up hx hd
    · exact hx.mono (by decide)
  have v : ∀ {x : Int}, Sz 3000 x → Sz 3001 x := fun hx => hx.mono (by decide)
  unfold spoil
  split
  · exact ⟨u m1, u m2, u m3, u m4, v m5, v m6, v m7, v m8⟩
  · exact ⟨v m1, v m2, v m3, v m4, u m5, u m6, u m7, u m8⟩
theorem turnR_sz {m : M24} (h : szM 3000 m) : szM 3001 (turnR m) := by
  obtain ⟨m1, m2, m3, m4, m5, m6, m7, m8⟩ := h
  have v : ∀ {x : Int}, Sz 3000 x → Sz 3001 x := fun hx => hx.mono (by decide)
  exact ⟨v m5, v m6, v m7, v m8, v m1, v m2, v m3, v m4⟩
theorem negM_sz {m : M24} (h : szM 3000 m) : szM 3001 (negM m) := by
  obtain ⟨m1, m2, m3, m4, m5, m6, m7, m8⟩ := h
  have v : ∀ {x : Int}, Sz 3000 x → Sz 3001 (0 - x) := fun hx => Sz.sub (Sz.mono (j := 0) (by decide) (by decide)) hx
  exact ⟨v m1, v m2, v m3, v m4, v m5, v m6, v m7, v m8⟩
theorem c20 {d1 d2 : D} : cutD [d1, d2] none (some 0) = [] := rfl
theorem c21 {d1 d2 : D} : cutD [d1, d2] none (some 1) = [d1] := rfl
theorem c22 {d1 d2 : D} : cutD [d1, d2] (some 1) none = [d2] := rfl
theorem c23 {d1 d2 : D} : cutD [d1, d2] (some 2) none = [] := rfl
theorem c40 {d1 d2 d3 d4 : D} : cutD [d1, d2, d3, d4] none (some 0) = [] := rfl
theorem c41 {d1 d2 d3 d4 : D} : cutD [d1, d2, d3, d4] none (some 1) = [d1] := rfl
theorem c42 {d1 d2 d3 d4 : D} : cutD [d1, d2, d3, d4] none (some 2) = [d1, d2] := rfl
theorem c43 {d1 d2 d3 d4 : D} : cutD [d1, d2, d3, d4] none (some 3) = [d1, d2, d3] := rfl
theorem c44 {d1 d2 d3 d4 : D} : cutD [d1, d2, d3, d4] (some 1) none = [d2, d3, d4] := rfl
theorem c45 {d1 d2 d3 d4 : D} : cutD [d1, d2, d3, d4] (some 2) none = [d3, d4] := rfl
theorem c46 {d1 d2 d3 d4 : D} : cutD [d1, d2, d3, d4] (some 3) none = [d4] := rfl
theorem c47 {d1 d2 d3 d4 : D} : cutD [d1, d2, d3, d4] (some 4) none = [] := rfl
noncomputable def spE : EF := cOp gAddA (cOp gAddA (cSl (cVar 7) oNone (oSome (cVar 15))) (cTup (aCons (cOp gAddA (cOp gAddA (cSl (cOp gIx (cVar 7) (cVar 15)) oNone (oSome (cVar 16))) (cTup (aCons (cOp gAddA (cOp gIx (cOp gIx (cVar 7) (cVar 15)) (cVar 16)) (cCall m_l_pick (aCons (cVar 1) (aCons (cLst (aCons (cUn gNeg (cC (.int 1))) (aCons (cC (.int 1)) aNil))) aNil)))) aNil))) (cSl (cOp gIx (cVar 7) (cVar 15)) (oSome (cOp gAddA (cVar 16) (cC (.int 1)))) oNone)) aNil))) (cSl (cVar 7) (oSome (cOp gAddA (cVar 15) (cC (.int 1)))) oNone)
/-- one number more or less -/
theorem row_up {N : Store} {a b c d k δ : Int} (hk : k = 0 ∨ k = 1 ∨ k = 2 ∨ k = 3) {en : DL.Env} {M' : Store} {i : Nat}
    (h7 : ∀ S, cOp gIx (cVar 7) (cVar 15) en S = some (.ok (eRow [a, b, c, d]), S)) (h16 : en[16]? = some (some (.int k)))
    (hp : cCall m_l_pick (aCons (cVar 1) (aCons (cLst (aCons (cUn gNeg (cC (.int 1))) (aCons (cC (.int 1)) aNil))) aNil)) en N = some (.ok (.int δ), M')) :
    cOp gAddA (cOp gAddA (cSl (cOp gIx (cVar 7) (cVar 15)) oNone (oSome (cVar 16))) (cTup (aCons (cOp gAddA (cOp gIx (cOp gIx (cVar 7) (cVar 15)) (cVar 16)) (cCall m_l_pick (aCons (cVar 1) (aCons (cLst (aCons (cUn gNeg (cC (.int 1))) (aCons (cC (.int 1)) aNil))) aNil)))) aNil))) (cSl (cOp gIx (cVar 7) (cVar 15)) (oSome (cOp gAddA (cVar 16) (cC (.int 1)))) oNone) en N =
      some (.ok (eRow [if k = 0 then a + δ else a, if k = 1 then b + δ else b, if k = 2 then c + δ else c, if k = 3 then d + δ else d]), M') := by
  have hc : ∀ S, cOp gIx (cOp gIx (cVar 7) (cVar 15)) (cVar 16) en S = some (.ok (.int (if k = 0 then a else if k = 1 then b else if k = 2 then c else d)), S) := fun S => by
    rw [cOp_e, h7, bnd_ok, cVar_e, h16]
    simp only [bnd_ok, gIx_row, List.map_cons, List.map_nil]
    rw [at4 (by omega)]
  have g1 : ∀ S, cSl (cOp gIx (cVar 7) (cVar 15)) oNone (oSome (cVar 16)) en S = some (.ok (.tup (cutD [.int a, .int b, .int c, .int d] none (some k))), S) := fun S => by
    rw [cSl_e, h7]
    simp only [bnd_ok, oNone_e, oSome_e, cVar_e, h16]
    rfl
  rw [cOp_e, cOp_e, g1, bnd_ok, cTup_e, aCons_e, cOp_e, hc, bnd_ok, hp, bnd_ok]
  simp only [aNil_e, gAddA_i, bnd_ok, List.length_cons, List.length_nil, Nat.reduceAdd, szOk_1, if_true]
  have g2 : ∀ S, cSl (cOp gIx (cVar 7) (cVar 15)) (oSome (cOp gAddA (cVar 16) (cC (.int 1)))) oNone en S = some (.ok (.tup (cutD [.int a, .int b, .int c, .int d] (some (k + 1)) none)), S) := fun S => by
    rw [cSl_e, h7]
    simp only [bnd_ok, oNone_e, oSome_e, cOp_e, cVar_e, h16, cC_e, gAddA_i]
    rfl
  simp only [g2]
  unfold eRow
  simp only [List.map_cons, List.map_nil]
  rcases hk with rfl | rfl | rfl | rfl
  · simp [c40, c44, show szOk 4 = true by decide]
  · simp [c41, c45, show szOk 4 = true by decide]
  · simp [c42, c46, show szOk 4 = true by decide]
  · simp [c43, c47, show szOk 4 = true by decide]
theorem spoil_is {m : M24} {at_ k δ : Int} {N M' : Store} {e0 e2 e3 e4 e5 e6 e8 e9 e10 e11 e12 e13 e14 e17 e18 e19 e20 e21 e22 e23 : Option D} (ha : at_ = 0 ∨ at_ = 1) (hk : k = 0 ∨ k = 1 ∨ k = 2 ∨ k = 3)
    (hp : m_l_pick [.cel 0, .imm [.int (-1), .int 1]] N = some (.ok (.int δ), M')) :
    spE [e0, some (.cel 0), e2, e3, e4, e5, e6, some (eM m), e8, e9, e10, e11, e12, e13, e14, some (.int at_), some (.int k), e17, e18, e19, e20, e21, e22, e23] N = some (.ok (eM (spoil at_ k δ m)), M') := by
  have hX : eM m = .tup [rX m, rY m] := rfl
  have hpk : cCall m_l_pick (aCons (cVar 1) (aCons (cLst (aCons (cUn gNeg (cC (.int 1))) (aCons (cC (.int 1)) aNil))) aNil)) [e0, some (.cel 0), e2, e3, e4, e5, e6, some (eM m), e8, e9, e10, e11, e12, e13, e14, some (.int at_), some (.int k), e17, e18, e19, e20, e21, e22, e23] N = some (.ok (.int δ), M') := by
    simp [hp]
  unfold spE
  rcases ha with rfl | rfl
  · have hr := row_up (N := N) (M' := M') (i := 0) (a := m.x1) (b := m.x2) (c := m.x3) (d := m.x4) (k := k) (δ := δ) hk (en := [e0, some (.cel 0), e2, e3, e4, e5, e6, some (eM m), e8, e9, e10, e11, e12, e13, e14, some (.int 0), some (.int k), e17, e18, e19, e20, e21, e22, e23]) (fun S => by rw [hX]; simp [rX]) rfl hpk
    have s1 : cSl (cVar 7) oNone (oSome (cVar 15)) [e0, some (.cel 0), e2, e3, e4, e5, e6, some (eM m), e8, e9, e10, e11, e12, e13, e14, some (.int 0), some (.int k), e17, e18, e19, e20, e21, e22, e23] N = some (.ok (.tup []), N) := by rw [hX]; simp [c20]
    rw [cOp_e, cOp_e, s1, bnd_ok, cTup_e, aCons_e, hr]
    rw [hX]
    simp [c20, c22]
    unfold spoil addX
    rw [if_pos rfl]
    unfold eM rY eTab
    simp
  · have hr := row_up (N := N) (M' := M') (i := 0) (a := m.y1) (b := m.y2) (c := m.y3) (d := m.y4) (k := k) (δ := δ) hk (en := [e0, some (.cel 0), e2, e3, e4, e5, e6, some (eM m), e8, e9, e10, e11, e12, e13, e14, some (.int 1), some (.int k), e17, e18, e19, e20, e21, e22, e23]) (fun S => by rw [hX]; simp [rY]) rfl hpk
    have s1 : cSl (cVar 7) oNone (oSome (cVar 15)) [e0, some (.cel 0), e2, e3, e4, e5, e6, some (eM m), e8, e9, e10, e11, e12, e13, e14, some (.int 1), some (.int k), e17, e18, e19, e20, e21, e22, e23] N = some (.ok (.tup [rX m]), N) := by rw [hX]; simp [c21]
    rw [cOp_e, cOp_e, s1, bnd_ok, cTup_e, aCons_e, hr]
    rw [hX]
    simp [c21, c23]
    unfold spoil addY
    rw [if_neg (show ¬ ((1 : Int) = 0) by decide)]
    unfold eM rX eTab
    simp
end K12
set_option maxHeartbeats 4000000
/-! everygrid_k12_classes_together: the walk, as the program gen.py printed it. -/
namespace K12
open PySem PySem.Spec PyProof.Rows L2 DL

def top (i : Nat) : Stmt := PySem.Challenge.pw_everygrid_k12_classes_together.main.body.getD i (.Pass ⟨0, 0, 0, 0⟩)
/-- what the text has written -/
structure Tx (P : Program) (K : PySem.W.Frag) (mg : Str → Option Value) (C fI : Addr) (a_UNIT : Value) : Prop where
  z_abs : mg "abs" = none
  z_all : mg "all" = none
  z_bool : mg "bool" = none
  z_int : mg "int" = none
  z_isinstance : mg "isinstance" = none
  z_len : mg "len" = none
  z_list : mg "list" = none
  z_range : mg "range" = none
  z_repr : mg "repr" = none
  z_sum : mg "sum" = none
  z_tuple : mg "tuple" = none
  z_zip : mg "zip" = none
  g_UNIT : mg "UNIT" = some a_UNIT
  k_UNIT : konB K a_UNIT k_UNIT = true
  x_BadTable : PySem.BadX.BadTxt P K mg "BadTable" "BadTable.__init__" C fI
section
variable {P : Program} {w : World} {K : PySem.W.Frag} {mg : Str → Option Value} {base : Heap} {C fI : Addr} {a_UNIT : Value}
abbrev s_divisor : Stmt := top 4
theorem sc_divisor : FnScope ["one", "other"] ["one", "other"] (defScope s_divisor) := ⟨rfl, rfl, rfl, by decide +kernel, rfl, by decide +kernel, by decide +kernel⟩
theorem ok_divisor {f : Addr} {fd : FuncData} (F : Fun K "divisor" "divisor" s_divisor f fd) (t : Tx P K mg C fI a_UNIT)  : FnG P w K mg base 1 f fd ["one", "other"] m_divisor := by
  refine fnG_of (k := 0) F sc_divisor rfl rfl (by decide) fun cdv A outer s H E hr hgd => ?_
  have nd := sc_divisor.nd
  have tk : Takes (cxOf (L2.CX P w) P w K mg base ["one", "other"] "divisor" (defScope s_divisor) f cdv A outer s H E) (WXof E) := takes_of rfl rfl rfl rfl
  have po : PassesOwn (model (cxOf (L2.CX P w) P w K mg base ["one", "other"] "divisor" (defScope s_divisor) f cdv A outer s H E).prog (cxOf (L2.CX P w) P w K mg base ["one", "other"] "divisor" (defScope s_divisor) f cdv A outer s H E).w) (cxOf (L2.CX P w) P w K mg base ["one", "other"] "divisor" (defScope s_divisor) f cdv A outer s H E).A (cxOf (L2.CX P w) P w K mg base ["one", "other"] "divisor" (defScope s_divisor) f cdv A outer s H E).env (cxOf (L2.CX P w) P w K mg base ["one", "other"] "divisor" (defScope s_divisor) f cdv A outer s H E).xe := passes_of rfl
  refine ess_cons ?_ (ess_cons ?_ (ess_one ?_))
  · exact (es_par rfl nd rfl rfl (by decide) rfl rfl (ea_cons (b_abs t.z_abs (ea_cons (vr 0) ea_nil)) (ea_cons (b_abs t.z_abs (ea_cons (vr 1) ea_nil)) ea_nil)) (by rfl))
  · exact (es_while po (et_tru (vr 1)) (ess_one (es_par rfl nd rfl rfl (by decide) rfl rfl (ea_cons (vr 1) (ea_cons (o_mod (vr 0) (vr 1)) ea_nil)) (by rfl))))
  · exact (es_ret (vr 0))
abbrev s_divisor_of : Stmt := top 5
theorem sc_divisor_of : FnScope ["numbers", "found", "number"] ["numbers"] (defScope s_divisor_of) := ⟨rfl, rfl, rfl, by decide +kernel, rfl, by decide +kernel, by decide +kernel⟩
theorem ok_divisor_of {f : Addr} {fd : FuncData} (F : Fun K "divisor_of" "divisor_of" s_divisor_of f fd) (t : Tx P K mg C fI a_UNIT) (c_divisor : CalG P w K mg base 1 "divisor" m_divisor) : FnG P w K mg base 2 f fd ["numbers"] m_divisor_of := by
  refine fnG_of (k := 1) F sc_divisor_of rfl rfl (by decide) fun cdv A outer s H E hr hgd => ?_
  have nd := sc_divisor_of.nd
  have tk : Takes (cxOf (L2.CX P w) P w K mg base ["numbers", "found", "number"] "divisor_of" (defScope s_divisor_of) f cdv A outer s H E) (WXof E) := takes_of rfl rfl rfl rfl
  have po : PassesOwn (model (cxOf (L2.CX P w) P w K mg base ["numbers", "found", "number"] "divisor_of" (defScope s_divisor_of) f cdv A outer s H E).prog (cxOf (L2.CX P w) P w K mg base ["numbers", "found", "number"] "divisor_of" (defScope s_divisor_of) f cdv A outer s H E).w) (cxOf (L2.CX P w) P w K mg base ["numbers", "found", "number"] "divisor_of" (defScope s_divisor_of) f cdv A outer s H E).A (cxOf (L2.CX P w) P w K mg base ["numbers", "found", "number"] "divisor_of" (defScope s_divisor_of) f cdv A outer s H E).env (cxOf (L2.CX P w) P w K mg base ["numbers", "found", "number"] "divisor_of" (defScope s_divisor_of) f cdv A outer s H E).xe := passes_of rfl
  refine ess_cons ?_ (ess_cons ?_ (ess_one ?_))
  · exact (es_set nd rfl (by first | exact .inl rfl | exact .inr rfl) ev_int)
  · exact (es_for po rfl (ei_seq (vr 0)) (eg_name nd rfl (by first | exact .inl rfl | exact .inr rfl)) (ess_one (es_set nd rfl (by first | exact .inl rfl | exact .inr rfl) (ev_cl c_divisor hr (by decide) hgd tk (ea_cons (vr 1) (ea_cons (vr 2) ea_nil))))))
  · exact (es_ret (vr 1))
abbrev s_bezout : Stmt := top 6
theorem sc_bezout : FnScope ["one", "other", "s", "t", "u", "v", "whole"] ["one", "other"] (defScope s_bezout) := ⟨rfl, rfl, rfl, by decide +kernel, rfl, by decide +kernel, by decide +kernel⟩
theorem ok_bezout {f : Addr} {fd : FuncData} (F : Fun K "bezout" "bezout" s_bezout f fd) (t : Tx P K mg C fI a_UNIT)  : FnG P w K mg base 1 f fd ["one", "other"] m_bezout := by
  refine fnG_of (k := 0) F sc_bezout rfl rfl (by decide) fun cdv A outer s H E hr hgd => ?_
  have nd := sc_bezout.nd
  have tk : Takes (cxOf (L2.CX P w) P w K mg base ["one", "other", "s", "t", "u", "v", "whole"] "bezout" (defScope s_bezout) f cdv A outer s H E) (WXof E) := takes_of rfl rfl rfl rfl
  have po : PassesOwn (model (cxOf (L2.CX P w) P w K mg base ["one", "other", "s", "t", "u", "v", "whole"] "bezout" (defScope s_bezout) f cdv A outer s H E).prog (cxOf (L2.CX P w) P w K mg base ["one", "other", "s", "t", "u", "v", "whole"] "bezout" (defScope s_bezout) f cdv A outer s H E).w) (cxOf (L2.CX P w) P w K mg base ["one", "other", "s", "t", "u", "v", "whole"] "bezout" (defScope s_bezout) f cdv A outer s H E).A (cxOf (L2.CX P w) P w K mg base ["one", "other", "s", "t", "u", "v", "whole"] "bezout" (defScope s_bezout) f cdv A outer s H E).env (cxOf (L2.CX P w) P w K mg base ["one", "other", "s", "t", "u", "v", "whole"] "bezout" (defScope s_bezout) f cdv A outer s H E).xe := passes_of rfl
  refine ess_cons ?_ (ess_cons ?_ (ess_one ?_))
  · exact (es_asg (ev_tup (ea_cons ev_int (ea_cons ev_int (ea_cons ev_int (ea_cons ev_int ea_nil))))) (eg_tup rfl (egs_cons (eg_name nd rfl (by first | exact .inl rfl | exact .inr rfl)) (egs_cons (eg_name nd rfl (by first | exact .inl rfl | exact .inr rfl)) (egs_cons (eg_name nd rfl (by first | exact .inl rfl | exact .inr rfl)) (egs_cons (eg_name nd rfl (by first | exact .inl rfl | exact .inr rfl)) egs_nil))))))
  · exact (es_while po (et_tru (vr 1)) (ess_cons (es_set nd rfl (by first | exact .inl rfl | exact .inr rfl) (o_fdivN (vr 0) (vr 1))) (ess_cons (es_par rfl nd rfl rfl (by decide) rfl rfl (ea_cons (vr 1) (ea_cons (o_sub (vr 0) (o_mul (vr 6) (vr 1))) ea_nil)) (by rfl)) (ess_cons (es_par rfl nd rfl rfl (by decide) rfl rfl (ea_cons (vr 4) (ea_cons (o_sub (vr 2) (o_mul (vr 6) (vr 4))) ea_nil)) (by rfl)) (ess_one (es_par rfl nd rfl rfl (by decide) rfl rfl (ea_cons (vr 5) (ea_cons (o_sub (vr 3) (o_mul (vr 6) (vr 5))) ea_nil)) (by rfl)))))))
  · exact (es_ret (ev_if (t_lt (vr 0) ev_int) (ev_tup (ea_cons (o_sub ev_int (vr 0)) (ea_cons (o_sub ev_int (vr 2)) (ea_cons (o_sub ev_int (vr 3)) ea_nil)))) (ev_tup (ea_cons (vr 0) (ea_cons (vr 2) (ea_cons (vr 3) ea_nil))))))
abbrev s_root : Stmt := top 7
theorem sc_root : FnScope ["number", "found"] ["number"] (defScope s_root) := ⟨rfl, rfl, rfl, by decide +kernel, rfl, by decide +kernel, by decide +kernel⟩
theorem ok_root {f : Addr} {fd : FuncData} (F : Fun K "root" "root" s_root f fd) (t : Tx P K mg C fI a_UNIT)  : FnG P w K mg base 1 f fd ["number"] m_root := by
  refine fnG_of (k := 0) F sc_root rfl rfl (by decide) fun cdv A outer s H E hr hgd => ?_
  have nd := sc_root.nd
  have tk : Takes (cxOf (L2.CX P w) P w K mg base ["number", "found"] "root" (defScope s_root) f cdv A outer s H E) (WXof E) := takes_of rfl rfl rfl rfl
  have po : PassesOwn (model (cxOf (L2.CX P w) P w K mg base ["number", "found"] "root" (defScope s_root) f cdv A outer s H E).prog (cxOf (L2.CX P w) P w K mg base ["number", "found"] "root" (defScope s_root) f cdv A outer s H E).w) (cxOf (L2.CX P w) P w K mg base ["number", "found"] "root" (defScope s_root) f cdv A outer s H E).A (cxOf (L2.CX P w) P w K mg base ["number", "found"] "root" (defScope s_root) f cdv A outer s H E).env (cxOf (L2.CX P w) P w K mg base ["number", "found"] "root" (defScope s_root) f cdv A outer s H E).xe := passes_of rfl
  refine ess_cons ?_ (ess_cons ?_ (ess_one ?_))
  · exact (es_set nd rfl (by first | exact .inl rfl | exact .inr rfl) (o_shl ev_int (o_fdiv (o_add (ev_bits (vr 0)) ev_int) ev_int)))
  · exact (es_while po (t_gt (o_mul (vr 1) (vr 1)) (vr 0)) (ess_one (es_set nd rfl (by first | exact .inl rfl | exact .inr rfl) (o_fdiv (o_add (vr 1) (o_fdiv (vr 0) (vr 1))) ev_int))))
  · exact (es_ret (vr 1))
abbrev s_is_whole : Stmt := top 9
theorem sc_is_whole : FnScope ["number"] ["number"] (defScope s_is_whole) := ⟨rfl, rfl, rfl, by decide +kernel, rfl, by decide +kernel, by decide +kernel⟩
theorem ok_is_whole {f : Addr} {fd : FuncData} (F : Fun K "is_whole" "is_whole" s_is_whole f fd) (t : Tx P K mg C fI a_UNIT)  : FnG P w K mg base 1 f fd ["number"] m_is_whole := by
  refine fnG_of (k := 0) F sc_is_whole rfl rfl (by decide) fun cdv A outer s H E hr hgd => ?_
  have nd := sc_is_whole.nd
  have tk : Takes (cxOf (L2.CX P w) P w K mg base ["number"] "is_whole" (defScope s_is_whole) f cdv A outer s H E) (WXof E) := takes_of rfl rfl rfl rfl
  have po : PassesOwn (model (cxOf (L2.CX P w) P w K mg base ["number"] "is_whole" (defScope s_is_whole) f cdv A outer s H E).prog (cxOf (L2.CX P w) P w K mg base ["number"] "is_whole" (defScope s_is_whole) f cdv A outer s H E).w) (cxOf (L2.CX P w) P w K mg base ["number"] "is_whole" (defScope s_is_whole) f cdv A outer s H E).A (cxOf (L2.CX P w) P w K mg base ["number"] "is_whole" (defScope s_is_whole) f cdv A outer s H E).env (cxOf (L2.CX P w) P w K mg base ["number"] "is_whole" (defScope s_is_whole) f cdv A outer s H E).xe := passes_of rfl
  refine ess_one ?_
  · exact (es_ret (ev_and (b_isinstance t.z_isinstance (ea_cons (vr 0) (ea_cons (ty_int t.z_int) ea_nil))) (ev_one (ev_not (b_isinstance t.z_isinstance (ea_cons (vr 0) (ea_cons (ty_bool t.z_bool) ea_nil)))))))
abbrev s_is_row : Stmt := top 10
theorem sc_is_row : FnScope ["row", "number"] ["row"] (defScope s_is_row) := ⟨rfl, rfl, rfl, by decide +kernel, rfl, by decide +kernel, by decide +kernel⟩
theorem ok_is_row {f : Addr} {fd : FuncData} (F : Fun K "is_row" "is_row" s_is_row f fd) (t : Tx P K mg C fI a_UNIT) (c_is_whole : CalG P w K mg base 1 "is_whole" m_is_whole) : FnG P w K mg base 2 f fd ["row"] m_is_row := by
  refine fnG_of (k := 1) F sc_is_row rfl rfl (by decide) fun cdv A outer s H E hr hgd => ?_
  have nd := sc_is_row.nd
  have tk : Takes (cxOf (L2.CX P w) P w K mg base ["row", "number"] "is_row" (defScope s_is_row) f cdv A outer s H E) (WXof E) := takes_of rfl rfl rfl rfl
  have po : PassesOwn (model (cxOf (L2.CX P w) P w K mg base ["row", "number"] "is_row" (defScope s_is_row) f cdv A outer s H E).prog (cxOf (L2.CX P w) P w K mg base ["row", "number"] "is_row" (defScope s_is_row) f cdv A outer s H E).w) (cxOf (L2.CX P w) P w K mg base ["row", "number"] "is_row" (defScope s_is_row) f cdv A outer s H E).A (cxOf (L2.CX P w) P w K mg base ["row", "number"] "is_row" (defScope s_is_row) f cdv A outer s H E).env (cxOf (L2.CX P w) P w K mg base ["row", "number"] "is_row" (defScope s_is_row) f cdv A outer s H E).xe := passes_of rfl
  refine ess_one ?_
  · exact (es_ret (ev_and (b_isinstance t.z_isinstance (ea_cons (vr 0) (ea_cons (ty_tuple t.z_tuple) ea_nil))) (ev_one (b_all t.z_all (ea_cons (ev_lc (own := [("number", 1)]) rfl nd (ei_seq (vr 0)) (blkOk_by (by first | rfl | kernel_rfl)) (by decide) (fun _ _ _ _ _ => (eg_name nd rfl (by first | exact .inl rfl | exact .inr rfl))) (fun _ _ _ _ _ => ets_nil) (fun _ _ _ _ _ => (ev_cl c_is_whole hr (by decide) hgd takes0 (ea_cons (vr 1) ea_nil)))) ea_nil)))))
abbrev s_wide : Stmt := top 11
theorem sc_wide : FnScope ["table"] ["table"] (defScope s_wide) := ⟨rfl, rfl, rfl, by decide +kernel, rfl, by decide +kernel, by decide +kernel⟩
theorem ok_wide {f : Addr} {fd : FuncData} (F : Fun K "wide" "wide" s_wide f fd) (t : Tx P K mg C fI a_UNIT)  : FnG P w K mg base 1 f fd ["table"] m_wide := by
  refine fnG_of (k := 0) F sc_wide rfl rfl (by decide) fun cdv A outer s H E hr hgd => ?_
  have nd := sc_wide.nd
  have tk : Takes (cxOf (L2.CX P w) P w K mg base ["table"] "wide" (defScope s_wide) f cdv A outer s H E) (WXof E) := takes_of rfl rfl rfl rfl
  have po : PassesOwn (model (cxOf (L2.CX P w) P w K mg base ["table"] "wide" (defScope s_wide) f cdv A outer s H E).prog (cxOf (L2.CX P w) P w K mg base ["table"] "wide" (defScope s_wide) f cdv A outer s H E).w) (cxOf (L2.CX P w) P w K mg base ["table"] "wide" (defScope s_wide) f cdv A outer s H E).A (cxOf (L2.CX P w) P w K mg base ["table"] "wide" (defScope s_wide) f cdv A outer s H E).env (cxOf (L2.CX P w) P w K mg base ["table"] "wide" (defScope s_wide) f cdv A outer s H E).xe := passes_of rfl
  refine ess_one ?_
  · exact (es_ret (ev_if (et_tru (vr 0)) (b_len t.z_len (ea_cons (ev_ix (vr 0) ev_int) ea_nil)) ev_int))
abbrev s_turned : Stmt := top 12
theorem sc_turned : FnScope ["table", "place", "row"] ["table"] (defScope s_turned) := ⟨rfl, rfl, rfl, by decide +kernel, rfl, by decide +kernel, by decide +kernel⟩
theorem ok_turned {f : Addr} {fd : FuncData} (F : Fun K "turned" "turned" s_turned f fd) (t : Tx P K mg C fI a_UNIT) (c_wide : CalG P w K mg base 1 "wide" m_wide) : FnG P w K mg base 2 f fd ["table"] m_turned := by
  refine fnG_of (k := 1) F sc_turned rfl rfl (by decide) fun cdv A outer s H E hr hgd => ?_
  have nd := sc_turned.nd
  have tk : Takes (cxOf (L2.CX P w) P w K mg base ["table", "place", "row"] "turned" (defScope s_turned) f cdv A outer s H E) (WXof E) := takes_of rfl rfl rfl rfl
  have po : PassesOwn (model (cxOf (L2.CX P w) P w K mg base ["table", "place", "row"] "turned" (defScope s_turned) f cdv A outer s H E).prog (cxOf (L2.CX P w) P w K mg base ["table", "place", "row"] "turned" (defScope s_turned) f cdv A outer s H E).w) (cxOf (L2.CX P w) P w K mg base ["table", "place", "row"] "turned" (defScope s_turned) f cdv A outer s H E).A (cxOf (L2.CX P w) P w K mg base ["table", "place", "row"] "turned" (defScope s_turned) f cdv A outer s H E).env (cxOf (L2.CX P w) P w K mg base ["table", "place", "row"] "turned" (defScope s_turned) f cdv A outer s H E).xe := passes_of rfl
  refine ess_one ?_
  · exact (es_ret (b_tuple t.z_tuple (ea_cons (ev_lc (own := [("place", 1)]) rfl nd (ei_rng1 (by rfl) t.z_range (ea_cons (ev_cl c_wide hr (by decide) hgd tk (ea_cons (vr 0) ea_nil)) ea_nil)) (blkOk_by (by first | rfl | kernel_rfl)) (by decide) (fun _ _ _ _ _ => (eg_name nd rfl (by first | exact .inl rfl | exact .inr rfl))) (fun _ _ _ _ _ => ets_nil) (fun _ _ _ _ _ => (b_tuple t.z_tuple (ea_cons (ev_lc (own := [("row", 2)]) rfl nd (ei_seq (vr 0)) (blkOk_by (by first | rfl | kernel_rfl)) (by decide) (fun _ _ _ _ _ => (eg_name nd rfl (by first | exact .inl rfl | exact .inr rfl))) (fun _ _ _ _ _ => ets_nil) (fun _ _ _ _ _ => (ev_ix (vr 2) (vr 1)))) ea_nil)))) ea_nil)))
abbrev s_dot : Stmt := top 13
theorem sc_dot : FnScope ["one", "other", "a", "b"] ["one", "other"] (defScope s_dot) := ⟨rfl, rfl, rfl, by decide +kernel, rfl, by decide +kernel, by decide +kernel⟩
theorem ok_dot {f : Addr} {fd : FuncData} (F : Fun K "dot" "dot" s_dot f fd) (t : Tx P K mg C fI a_UNIT)  : FnG P w K mg base 1 f fd ["one", "other"] m_dot := by
  refine fnG_of (k := 0) F sc_dot rfl rfl (by decide) fun cdv A outer s H E hr hgd => ?_
  have nd := sc_dot.nd
  have tk : Takes (cxOf (L2.CX P w) P w K mg base ["one", "other", "a", "b"] "dot" (defScope s_dot) f cdv A outer s H E) (WXof E) := takes_of rfl rfl rfl rfl
  have po : PassesOwn (model (cxOf (L2.CX P w) P w K mg base ["one", "other", "a", "b"] "dot" (defScope s_dot) f cdv A outer s H E).prog (cxOf (L2.CX P w) P w K mg base ["one", "other", "a", "b"] "dot" (defScope s_dot) f cdv A outer s H E).w) (cxOf (L2.CX P w) P w K mg base ["one", "other", "a", "b"] "dot" (defScope s_dot) f cdv A outer s H E).A (cxOf (L2.CX P w) P w K mg base ["one", "other", "a", "b"] "dot" (defScope s_dot) f cdv A outer s H E).env (cxOf (L2.CX P w) P w K mg base ["one", "other", "a", "b"] "dot" (defScope s_dot) f cdv A outer s H E).xe := passes_of rfl
  refine ess_one ?_
  · exact (es_ret (b_sum t.z_sum (ea_cons (ev_lc (own := [("a", 2), ("b", 3)]) rfl nd (ei_zip (by rfl) t.z_zip (ea_cons (vr 0) (ea_cons (vr 1) ea_nil))) (blkOk_by (by first | rfl | kernel_rfl)) (by decide) (fun _ _ _ _ _ => (eg_tup rfl (egs_cons (eg_name nd rfl (by first | exact .inl rfl | exact .inr rfl)) (egs_cons (eg_name nd rfl (by first | exact .inl rfl | exact .inr rfl)) egs_nil)))) (fun _ _ _ _ _ => ets_nil) (fun _ _ _ _ _ => (o_mul (vr 2) (vr 3)))) ea_nil)))
abbrev s_product : Stmt := top 14
theorem sc_product : FnScope ["one", "other", "columns", "row", "column"] ["one", "other"] (defScope s_product) := ⟨rfl, rfl, rfl, by decide +kernel, rfl, by decide +kernel, by decide +kernel⟩
theorem ok_product {f : Addr} {fd : FuncData} (F : Fun K "product" "product" s_product f fd) (t : Tx P K mg C fI a_UNIT) (c_turned : CalG P w K mg base 2 "turned" m_turned) (c_dot : CalG P w K mg base 1 "dot" m_dot) : FnG P w K mg base 3 f fd ["one", "other"] m_product := by
  refine fnG_of (k := 2) F sc_product rfl rfl (by decide) fun cdv A outer s H E hr hgd => ?_
  have nd := sc_product.nd
  have tk : Takes (cxOf (L2.CX P w) P w K mg base ["one", "other", "columns", "row", "column"] "product" (defScope s_product) f cdv A outer s H E) (WXof E) := takes_of rfl rfl rfl rfl
  have po : PassesOwn (model (cxOf (L2.CX P w) P w K mg base ["one", "other", "columns", "row", "column"] "product" (defScope s_product) f cdv A outer s H E).prog (cxOf (L2.CX P w) P w K mg base ["one", "other", "columns", "row", "column"] "product" (defScope s_product) f cdv A outer s H E).w) (cxOf (L2.CX P w) P w K mg base ["one", "other", "columns", "row", "column"] "product" (defScope s_product) f cdv A outer s H E).A (cxOf (L2.CX P w) P w K mg base ["one", "other", "columns", "row", "column"] "product" (defScope s_product) f cdv A outer s H E).env (cxOf (L2.CX P w) P w K mg base ["one", "other", "columns", "row", "column"] "product" (defScope s_product) f cdv A outer s H E).xe := passes_of rfl
  refine ess_cons ?_ (ess_one ?_)
  · exact (es_set nd rfl (by first | exact .inl rfl | exact .inr rfl) (ev_cl c_turned hr (by decide) hgd tk (ea_cons (vr 1) ea_nil)))
  · exact (es_ret (b_tuple t.z_tuple (ea_cons (ev_lc (own := [("row", 3)]) rfl nd (ei_seq (vr 0)) (blkOk_by (by first | rfl | kernel_rfl)) (by decide) (fun _ _ _ _ _ => (eg_name nd rfl (by first | exact .inl rfl | exact .inr rfl))) (fun _ _ _ _ _ => ets_nil) (fun _ _ _ _ _ => (b_tuple t.z_tuple (ea_cons (ev_lc (own := [("column", 4)]) rfl nd (ei_seq (vr 2)) (blkOk_by (by first | rfl | kernel_rfl)) (by decide) (fun _ _ _ _ _ => (eg_name nd rfl (by first | exact .inl rfl | exact .inr rfl))) (fun _ _ _ _ _ => ets_nil) (fun _ _ _ _ _ => (ev_cl c_dot hr (by decide) hgd takes0 (ea_cons (vr 3) (ea_cons (vr 4) ea_nil))))) ea_nil)))) ea_nil)))
abbrev s_is_two : Stmt := top 17
theorem sc_is_two : FnScope ["shape"] ["shape"] (defScope s_is_two) := ⟨rfl, rfl, rfl, by decide +kernel, rfl, by decide +kernel, by decide +kernel⟩
theorem ok_is_two {f : Addr} {fd : FuncData} (F : Fun K "is_two" "is_two" s_is_two f fd) (t : Tx P K mg C fI a_UNIT) (c_is_row : CalG P w K mg base 2 "is_row" m_is_row) : FnG P w K mg base 3 f fd ["shape"] m_is_two := by
  refine fnG_of (k := 2) F sc_is_two rfl rfl (by decide) fun cdv A outer s H E hr hgd => ?_
  have nd := sc_is_two.nd
  have tk : Takes (cxOf (L2.CX P w) P w K mg base ["shape"] "is_two" (defScope s_is_two) f cdv A outer s H E) (WXof E) := takes_of rfl rfl rfl rfl
  have po : PassesOwn (model (cxOf (L2.CX P w) P w K mg base ["shape"] "is_two" (defScope s_is_two) f cdv A outer s H E).prog (cxOf (L2.CX P w) P w K mg base ["shape"] "is_two" (defScope s_is_two) f cdv A outer s H E).w) (cxOf (L2.CX P w) P w K mg base ["shape"] "is_two" (defScope s_is_two) f cdv A outer s H E).A (cxOf (L2.CX P w) P w K mg base ["shape"] "is_two" (defScope s_is_two) f cdv A outer s H E).env (cxOf (L2.CX P w) P w K mg base ["shape"] "is_two" (defScope s_is_two) f cdv A outer s H E).xe := passes_of rfl
  refine ess_one ?_
  · exact (es_ret (ev_and (ev_cl c_is_row hr (by decide) hgd tk (ea_cons (vr 0) ea_nil)) (ev_one (q_eq hr (b_len t.z_len (ea_cons (vr 0) ea_nil)) ev_int))))
abbrev s_gap : Stmt := top 18
theorem sc_gap : FnScope ["two"] ["two"] (defScope s_gap) := ⟨rfl, rfl, rfl, by decide +kernel, rfl, by decide +kernel, by decide +kernel⟩
theorem ok_gap {f : Addr} {fd : FuncData} (F : Fun K "gap" "gap" s_gap f fd) (t : Tx P K mg C fI a_UNIT)  : FnG P w K mg base 1 f fd ["two"] m_gap := by
  refine fnG_of (k := 0) F sc_gap rfl rfl (by decide) fun cdv A outer s H E hr hgd => ?_
  have nd := sc_gap.nd
  have tk : Takes (cxOf (L2.CX P w) P w K mg base ["two"] "gap" (defScope s_gap) f cdv A outer s H E) (WXof E) := takes_of rfl rfl rfl rfl
  have po : PassesOwn (model (cxOf (L2.CX P w) P w K mg base ["two"] "gap" (defScope s_gap) f cdv A outer s H E).prog (cxOf (L2.CX P w) P w K mg base ["two"] "gap" (defScope s_gap) f cdv A outer s H E).w) (cxOf (L2.CX P w) P w K mg base ["two"] "gap" (defScope s_gap) f cdv A outer s H E).A (cxOf (L2.CX P w) P w K mg base ["two"] "gap" (defScope s_gap) f cdv A outer s H E).env (cxOf (L2.CX P w) P w K mg base ["two"] "gap" (defScope s_gap) f cdv A outer s H E).xe := passes_of rfl
  refine ess_one ?_
  · exact (es_ret (o_sub (o_mul (ev_ix (vr 0) ev_int) (ev_ix (vr 0) ev_int)) (o_mul (o_mul ev_int (ev_ix (vr 0) ev_int)) (ev_ix (vr 0) ev_int))))
abbrev s_check_two : Stmt := top 19
theorem sc_check_two : FnScope ["two"] ["two"] (defScope s_check_two) := ⟨rfl, rfl, rfl, by decide +kernel, rfl, by decide +kernel, by decide +kernel⟩
theorem ok_check_two {f : Addr} {fd : FuncData} (F : Fun K "check_two" "check_two" s_check_two f fd) (t : Tx P K mg C fI a_UNIT) (c_divisor_of : CalG P w K mg base 2 "divisor_of" m_divisor_of) (c_is_two : CalG P w K mg base 3 "is_two" m_is_two) (c_gap : CalG P w K mg base 1 "gap" m_gap) : FnG P w K mg base 4 f fd ["two"] m_check_two := by
  refine fnG_of (k := 3) F sc_check_two rfl rfl (by decide) fun cdv A outer s H E hr hgd => ?_
  have nd := sc_check_two.nd
  have tk : Takes (cxOf (L2.CX P w) P w K mg base ["two"] "check_two" (defScope s_check_two) f cdv A outer s H E) (WXof E) := takes_of rfl rfl rfl rfl
  have po : PassesOwn (model (cxOf (L2.CX P w) P w K mg base ["two"] "check_two" (defScope s_check_two) f cdv A outer s H E).prog (cxOf (L2.CX P w) P w K mg base ["two"] "check_two" (defScope s_check_two) f cdv A outer s H E).w) (cxOf (L2.CX P w) P w K mg base ["two"] "check_two" (defScope s_check_two) f cdv A outer s H E).A (cxOf (L2.CX P w) P w K mg base ["two"] "check_two" (defScope s_check_two) f cdv A outer s H E).env (cxOf (L2.CX P w) P w K mg base ["two"] "check_two" (defScope s_check_two) f cdv A outer s H E).xe := passes_of rfl
  refine ess_cons ?_ (ess_cons ?_ (ess_one ?_))
  · exact (es_if (et_not (et_tru (ev_cl c_is_two hr (by decide) hgd tk (ea_cons (vr 0) ea_nil)))) (ess_one (es_raise rfl t.x_BadTable hr tk (ea_cons ev_str ea_nil) (by rfl))) ess_nil)
  · exact (es_if (et_W (ew_or (t_ge (ev_cl c_gap hr (by decide) hgd tk (ea_cons (vr 0) ea_nil)) ev_int) (ew_or1 (t_lt (ev_ix (vr 0) ev_int) ev_int)))) (ess_one (es_raise rfl t.x_BadTable hr tk (ea_cons ev_str ea_nil) (by rfl))) ess_nil)
  · exact (es_if (t_ne hr (ev_cl c_divisor_of hr (by decide) hgd tk (ea_cons (vr 0) ea_nil)) ev_int) (ess_one (es_raise rfl t.x_BadTable hr tk (ea_cons ev_str ea_nil) (by rfl))) ess_nil)
abbrev s_two_worth : Stmt := top 20
theorem sc_two_worth : FnScope ["two", "x", "y"] ["two", "x", "y"] (defScope s_two_worth) := ⟨rfl, rfl, rfl, by decide +kernel, rfl, by decide +kernel, by decide +kernel⟩
theorem ok_two_worth {f : Addr} {fd : FuncData} (F : Fun K "two_worth" "two_worth" s_two_worth f fd) (t : Tx P K mg C fI a_UNIT)  : FnG P w K mg base 1 f fd ["two", "x", "y"] m_two_worth := by
  refine fnG_of (k := 0) F sc_two_worth rfl rfl (by decide) fun cdv A outer s H E hr hgd => ?_
  have nd := sc_two_worth.nd
  have tk : Takes (cxOf (L2.CX P w) P w K mg base ["two", "x", "y"] "two_worth" (defScope s_two_worth) f cdv A outer s H E) (WXof E) := takes_of rfl rfl rfl rfl
  have po : PassesOwn (model (cxOf (L2.CX P w) P w K mg base ["two", "x", "y"] "two_worth" (defScope s_two_worth) f cdv A outer s H E).prog (cxOf (L2.CX P w) P w K mg base ["two", "x", "y"] "two_worth" (defScope s_two_worth) f cdv A outer s H E).w) (cxOf (L2.CX P w) P w K mg base ["two", "x", "y"] "two_worth" (defScope s_two_worth) f cdv A outer s H E).A (cxOf (L2.CX P w) P w K mg base ["two", "x", "y"] "two_worth" (defScope s_two_worth) f cdv A outer s H E).env (cxOf (L2.CX P w) P w K mg base ["two", "x", "y"] "two_worth" (defScope s_two_worth) f cdv A outer s H E).xe := passes_of rfl
  refine ess_one ?_
  · exact (es_ret (o_add (o_add (o_mul (o_mul (ev_ix (vr 0) ev_int) (vr 1)) (vr 1)) (o_mul (o_mul (ev_ix (vr 0) ev_int) (vr 1)) (vr 2))) (o_mul (o_mul (ev_ix (vr 0) ev_int) (vr 2)) (vr 2))))
abbrev s_two_changed : Stmt := top 21
theorem sc_two_changed : FnScope ["two", "rows", "p", "q", "r", "s", "middle"] ["two", "rows"] (defScope s_two_changed) := ⟨rfl, rfl, rfl, by decide +kernel, rfl, by decide +kernel, by decide +kernel⟩
theorem ok_two_changed {f : Addr} {fd : FuncData} (F : Fun K "two_changed" "two_changed" s_two_changed f fd) (t : Tx P K mg C fI a_UNIT) (c_two_worth : CalG P w K mg base 1 "two_worth" m_two_worth) : FnG P w K mg base 2 f fd ["two", "rows"] m_two_changed := by
  refine fnG_of (k := 1) F sc_two_changed rfl rfl (by decide) fun cdv A outer s H E hr hgd => ?_
  have nd := sc_two_changed.nd
  have tk : Takes (cxOf (L2.CX P w) P w K mg base ["two", "rows", "p", "q", "r", "s", "middle"] "two_changed" (defScope s_two_changed) f cdv A outer s H E) (WXof E) := takes_of rfl rfl rfl rfl
  have po : PassesOwn (model (cxOf (L2.CX P w) P w K mg base ["two", "rows", "p", "q", "r", "s", "middle"] "two_changed" (defScope s_two_changed) f cdv A outer s H E).prog (cxOf (L2.CX P w) P w K mg base ["two", "rows", "p", "q", "r", "s", "middle"] "two_changed" (defScope s_two_changed) f cdv A outer s H E).w) (cxOf (L2.CX P w) P w K mg base ["two", "rows", "p", "q", "r", "s", "middle"] "two_changed" (defScope s_two_changed) f cdv A outer s H E).A (cxOf (L2.CX P w) P w K mg base ["two", "rows", "p", "q", "r", "s", "middle"] "two_changed" (defScope s_two_changed) f cdv A outer s H E).env (cxOf (L2.CX P w) P w K mg base ["two", "rows", "p", "q", "r", "s", "middle"] "two_changed" (defScope s_two_changed) f cdv A outer s H E).xe := passes_of rfl
  refine ess_cons ?_ (ess_cons ?_ (ess_one ?_))
  · exact (es_asg (vr 1) (eg_tup rfl (egs_cons (eg_tup rfl (egs_cons (eg_name nd rfl (by first | exact .inl rfl | exact .inr rfl)) (egs_cons (eg_name nd rfl (by first | exact .inl rfl | exact .inr rfl)) egs_nil))) (egs_cons (eg_tup rfl (egs_cons (eg_name nd rfl (by first | exact .inl rfl | exact .inr rfl)) (egs_cons (eg_name nd rfl (by first | exact .inl rfl | exact .inr rfl)) egs_nil))) egs_nil))))
  · exact (es_set nd rfl (by first | exact .inl rfl | exact .inr rfl) (o_add (o_add (o_mul (o_mul (o_mul ev_int (ev_ix (vr 0) ev_int)) (vr 2)) (vr 4)) (o_mul (ev_ix (vr 0) ev_int) (o_add (o_mul (vr 2) (vr 5)) (o_mul (vr 3) (vr 4))))) (o_mul (o_mul (o_mul ev_int (ev_ix (vr 0) ev_int)) (vr 3)) (vr 5))))
  · exact (es_ret (ev_tup (ea_cons (ev_cl c_two_worth hr (by decide) hgd tk (ea_cons (vr 0) (ea_cons (vr 2) (ea_cons (vr 3) ea_nil)))) (ea_cons (vr 6) (ea_cons (ev_cl c_two_worth hr (by decide) hgd tk (ea_cons (vr 0) (ea_cons (vr 4) (ea_cons (vr 5) ea_nil)))) ea_nil)))))
abbrev s_is_two_reduced : Stmt := top 22
theorem sc_is_two_reduced : FnScope ["two", "a", "b", "c"] ["two"] (defScope s_is_two_reduced) := ⟨rfl, rfl, rfl, by decide +kernel, rfl, by decide +kernel, by decide +kernel⟩
theorem ok_is_two_reduced {f : Addr} {fd : FuncData} (F : Fun K "is_two_reduced" "is_two_reduced" s_is_two_reduced f fd) (t : Tx P K mg C fI a_UNIT)  : FnG P w K mg base 1 f fd ["two"] m_is_two_reduced := by
  refine fnG_of (k := 0) F sc_is_two_reduced rfl rfl (by decide) fun cdv A outer s H E hr hgd => ?_
  have nd := sc_is_two_reduced.nd
  have tk : Takes (cxOf (L2.CX P w) P w K mg base ["two", "a", "b", "c"] "is_two_reduced" (defScope s_is_two_reduced) f cdv A outer s H E) (WXof E) := takes_of rfl rfl rfl rfl
  have po : PassesOwn (model (cxOf (L2.CX P w) P w K mg base ["two", "a", "b", "c"] "is_two_reduced" (defScope s_is_two_reduced) f cdv A outer s H E).prog (cxOf (L2.CX P w) P w K mg base ["two", "a", "b", "c"] "is_two_reduced" (defScope s_is_two_reduced) f cdv A outer s H E).w) (cxOf (L2.CX P w) P w K mg base ["two", "a", "b", "c"] "is_two_reduced" (defScope s_is_two_reduced) f cdv A outer s H E).A (cxOf (L2.CX P w) P w K mg base ["two", "a", "b", "c"] "is_two_reduced" (defScope s_is_two_reduced) f cdv A outer s H E).env (cxOf (L2.CX P w) P w K mg base ["two", "a", "b", "c"] "is_two_reduced" (defScope s_is_two_reduced) f cdv A outer s H E).xe := passes_of rfl
  refine ess_cons ?_ (ess_one ?_)
  · exact (es_asg (vr 0) (eg_tup rfl (egs_cons (eg_name nd rfl (by first | exact .inl rfl | exact .inr rfl)) (egs_cons (eg_name nd rfl (by first | exact .inl rfl | exact .inr rfl)) (egs_cons (eg_name nd rfl (by first | exact .inl rfl | exact .inr rfl)) egs_nil)))))
  · exact (es_ret (ev_and (ev_ch3 op_lt opd_lt op_le opd_le op_le opd_le (o_sub ev_int (vr 1)) (vr 2) (vr 1) (vr 3)) (ev_one (ev_not (ev_and (q_eq hr (vr 1) (vr 3)) (ev_one (q_lt (vr 2) ev_int)))))))
abbrev s_two_reduced : Stmt := top 23
theorem sc_two_reduced : FnScope ["two", "rows", "a", "b", "c", "step"] ["two"] (defScope s_two_reduced) := ⟨rfl, rfl, rfl, by decide +kernel, rfl, by decide +kernel, by decide +kernel⟩
theorem ok_two_reduced {f : Addr} {fd : FuncData} (F : Fun K "two_reduced" "two_reduced" s_two_reduced f fd) (t : Tx P K mg C fI a_UNIT) (c_product : CalG P w K mg base 3 "product" m_product) (c_check_two : CalG P w K mg base 4 "check_two" m_check_two) (c_two_changed : CalG P w K mg base 2 "two_changed" m_two_changed) (c_is_two_reduced : CalG P w K mg base 1 "is_two_reduced" m_is_two_reduced) : FnG P w K mg base 5 f fd ["two"] m_two_reduced := by
  refine fnG_of (k := 4) F sc_two_reduced rfl rfl (by decide) fun cdv A outer s H E hr hgd => ?_
  have nd := sc_two_reduced.nd
  have tk : Takes (cxOf (L2.CX P w) P w K mg base ["two", "rows", "a", "b", "c", "step"] "two_reduced" (defScope s_two_reduced) f cdv A outer s H E) (WXof E) := takes_of rfl rfl rfl rfl
  have po : PassesOwn (model (cxOf (L2.CX P w) P w K mg base ["two", "rows", "a", "b", "c", "step"] "two_reduced" (defScope s_two_reduced) f cdv A outer s H E).prog (cxOf (L2.CX P w) P w K mg base ["two", "rows", "a", "b", "c", "step"] "two_reduced" (defScope s_two_reduced) f cdv A outer s H E).w) (cxOf (L2.CX P w) P w K mg base ["two", "rows", "a", "b", "c", "step"] "two_reduced" (defScope s_two_reduced) f cdv A outer s H E).A (cxOf (L2.CX P w) P w K mg base ["two", "rows", "a", "b", "c", "step"] "two_reduced" (defScope s_two_reduced) f cdv A outer s H E).env (cxOf (L2.CX P w) P w K mg base ["two", "rows", "a", "b", "c", "step"] "two_reduced" (defScope s_two_reduced) f cdv A outer s H E).xe := passes_of rfl
  refine ess_cons ?_ (ess_cons ?_ (ess_cons ?_ (ess_one ?_)))
  · exact (es_expr (ev_cl c_check_two hr (by decide) hgd tk (ea_cons (vr 0) ea_nil)))
  · exact (es_set nd rfl (by first | exact .inl rfl | exact .inr rfl) (ev_gl t.g_UNIT t.k_UNIT))
  · exact (es_while po (et_not (et_tru (ev_cl c_is_two_reduced hr (by decide) hgd tk (ea_cons (vr 0) ea_nil)))) (ess_cons (es_asg (vr 0) (eg_tup rfl (egs_cons (eg_name nd rfl (by first | exact .inl rfl | exact .inr rfl)) (egs_cons (eg_name nd rfl (by first | exact .inl rfl | exact .inr rfl)) (egs_cons (eg_name nd rfl (by first | exact .inl rfl | exact .inr rfl)) egs_nil))))) (ess_cons (es_if (et_W (ew_or (t_gt (vr 2) (vr 4)) (ew_or1 (et_W (ew_and (t_eq hr (vr 2) (vr 4)) (ew_and1 (t_lt (vr 3) ev_int))))))) (ess_one (es_set nd rfl (by first | exact .inl rfl | exact .inr rfl) (ev_tup (ea_cons (ev_tup (ea_cons ev_int (ea_cons ev_int ea_nil))) (ea_cons (ev_tup (ea_cons (o_neg ev_int) (ea_cons ev_int ea_nil))) ea_nil))))) (ess_one (es_set nd rfl (by first | exact .inl rfl | exact .inr rfl) (ev_tup (ea_cons (ev_tup (ea_cons ev_int (ea_cons ev_int ea_nil))) (ea_cons (ev_tup (ea_cons (o_fdiv (o_sub (vr 2) (vr 3)) (o_mul ev_int (vr 2))) (ea_cons ev_int ea_nil))) ea_nil)))))) (ess_cons (es_set nd rfl (by first | exact .inl rfl | exact .inr rfl) (ev_cl c_product hr (by decide) hgd tk (ea_cons (vr 5) (ea_cons (vr 1) ea_nil)))) (ess_one (es_set nd rfl (by first | exact .inl rfl | exact .inr rfl) (ev_cl c_two_changed hr (by decide) hgd tk (ea_cons (vr 0) (ea_cons (vr 5) ea_nil)))))))))
  · exact (es_ret (ev_tup (ea_cons (vr 0) (ea_cons (vr 1) ea_nil))))
abbrev s_check_gap : Stmt := top 24
theorem sc_check_gap : FnScope ["number"] ["number"] (defScope s_check_gap) := ⟨rfl, rfl, rfl, by decide +kernel, rfl, by decide +kernel, by decide +kernel⟩
theorem ok_check_gap {f : Addr} {fd : FuncData} (F : Fun K "check_gap" "check_gap" s_check_gap f fd) (t : Tx P K mg C fI a_UNIT)  : FnG P w K mg base 1 f fd ["number"] m_check_gap := by
  refine fnG_of (k := 0) F sc_check_gap rfl rfl (by decide) fun cdv A outer s H E hr hgd => ?_
  have nd := sc_check_gap.nd
  have tk : Takes (cxOf (L2.CX P w) P w K mg base ["number"] "check_gap" (defScope s_check_gap) f cdv A outer s H E) (WXof E) := takes_of rfl rfl rfl rfl
  have po : PassesOwn (model (cxOf (L2.CX P w) P w K mg base ["number"] "check_gap" (defScope s_check_gap) f cdv A outer s H E).prog (cxOf (L2.CX P w) P w K mg base ["number"] "check_gap" (defScope s_check_gap) f cdv A outer s H E).w) (cxOf (L2.CX P w) P w K mg base ["number"] "check_gap" (defScope s_check_gap) f cdv A outer s H E).A (cxOf (L2.CX P w) P w K mg base ["number"] "check_gap" (defScope s_check_gap) f cdv A outer s H E).env (cxOf (L2.CX P w) P w K mg base ["number"] "check_gap" (defScope s_check_gap) f cdv A outer s H E).xe := passes_of rfl
  refine ess_one ?_
  · exact (es_if (et_W (ew_or (et_not (et_tru (b_isinstance t.z_isinstance (ea_cons (vr 0) (ea_cons (ty_int t.z_int) ea_nil))))) (ew_or (et_tru (b_isinstance t.z_isinstance (ea_cons (vr 0) (ea_cons (ty_bool t.z_bool) ea_nil)))) (ew_or (t_ge (vr 0) ev_int) (ew_or1 (t_gt (o_mod (vr 0) ev_int) ev_int)))))) (ess_one (es_raise rfl t.x_BadTable hr tk (ea_cons ev_str ea_nil) (by rfl))) ess_nil)
abbrev s_reduced_twos : Stmt := top 25
theorem sc_reduced_twos : FnScope ["number", "found", "a", "b", "two"] ["number"] (defScope s_reduced_twos) := ⟨rfl, rfl, rfl, by decide +kernel, rfl, by decide +kernel, by decide +kernel⟩
theorem ok_reduced_twos {f : Addr} {fd : FuncData} (F : Fun K "reduced_twos" "reduced_twos" s_reduced_twos f fd) (t : Tx P K mg C fI a_UNIT) (c_root : CalG P w K mg base 1 "root" m_root) (c_is_two_reduced : CalG P w K mg base 1 "is_two_reduced" m_is_two_reduced) (c_check_gap : CalG P w K mg base 1 "check_gap" m_check_gap) : FnG P w K mg base 2 f fd ["number"] m_reduced_twos := by
  refine fnG_of (k := 1) F sc_reduced_twos rfl rfl (by decide) fun cdv A outer s H E hr hgd => ?_
  have nd := sc_reduced_twos.nd
  have tk : Takes (cxOf (L2.CX P w) P w K mg base ["number", "found", "a", "b", "two"] "reduced_twos" (defScope s_reduced_twos) f cdv A outer s H E) (WXof E) := takes_of rfl rfl rfl rfl
  have po : PassesOwn (model (cxOf (L2.CX P w) P w K mg base ["number", "found", "a", "b", "two"] "reduced_twos" (defScope s_reduced_twos) f cdv A outer s H E).prog (cxOf (L2.CX P w) P w K mg base ["number", "found", "a", "b", "two"] "reduced_twos" (defScope s_reduced_twos) f cdv A outer s H E).w) (cxOf (L2.CX P w) P w K mg base ["number", "found", "a", "b", "two"] "reduced_twos" (defScope s_reduced_twos) f cdv A outer s H E).A (cxOf (L2.CX P w) P w K mg base ["number", "found", "a", "b", "two"] "reduced_twos" (defScope s_reduced_twos) f cdv A outer s H E).env (cxOf (L2.CX P w) P w K mg base ["number", "found", "a", "b", "two"] "reduced_twos" (defScope s_reduced_twos) f cdv A outer s H E).xe := passes_of rfl
  refine ess_cons ?_ (ess_cons ?_ (ess_cons ?_ (ess_one ?_)))
  · exact (es_expr (ev_cl c_check_gap hr (by decide) hgd tk (ea_cons (vr 0) ea_nil)))
  · exact (es_set nd rfl (by first | exact .inl rfl | exact .inr rfl) (ev_cel ea_nil))
  · exact (es_for po rfl (ei_rng2 (by rfl) t.z_range (ea_cons ev_int (ea_cons (o_add (ev_cl c_root hr (by decide) hgd tk (ea_cons (o_fdiv (o_sub ev_int (vr 0)) ev_int) ea_nil)) ev_int) ea_nil))) (eg_name nd rfl (by first | exact .inl rfl | exact .inr rfl)) (ess_one (es_for po rfl (ei_rng2 (by rfl) t.z_range (ea_cons (o_sub ev_int (vr 2)) (ea_cons (o_add (vr 2) ev_int) ea_nil))) (eg_name nd rfl (by first | exact .inl rfl | exact .inr rfl)) (ess_one (es_if (t_eq hr (o_mod (o_sub (o_mul (vr 3) (vr 3)) (vr 0)) (o_mul ev_int (vr 2))) ev_int) (ess_cons (es_set nd rfl (by first | exact .inl rfl | exact .inr rfl) (ev_tup (ea_cons (vr 2) (ea_cons (vr 3) (ea_cons (o_fdiv (o_sub (o_mul (vr 3) (vr 3)) (vr 0)) (o_mul ev_int (vr 2))) ea_nil))))) (ess_one (es_if (et_tru (ev_cl c_is_two_reduced hr (by decide) hgd tk (ea_cons (vr 4) ea_nil))) (ess_one (es_expr (ev_app (vr 1) (vr 4)))) ess_nil))) ess_nil)))))
  · exact (es_ret (vr 1))
abbrev s_two_classes : Stmt := top 26
theorem sc_two_classes : FnScope ["number", "two"] ["number"] (defScope s_two_classes) := ⟨rfl, rfl, rfl, by decide +kernel, rfl, by decide +kernel, by decide +kernel⟩
theorem ok_two_classes {f : Addr} {fd : FuncData} (F : Fun K "two_classes" "two_classes" s_two_classes f fd) (t : Tx P K mg C fI a_UNIT) (c_divisor_of : CalG P w K mg base 2 "divisor_of" m_divisor_of) (c_reduced_twos : CalG P w K mg base 2 "reduced_twos" m_reduced_twos) : FnG P w K mg base 3 f fd ["number"] m_two_classes := by
  refine fnG_of (k := 2) F sc_two_classes rfl rfl (by decide) fun cdv A outer s H E hr hgd => ?_
  have nd := sc_two_classes.nd
  have tk : Takes (cxOf (L2.CX P w) P w K mg base ["number", "two"] "two_classes" (defScope s_two_classes) f cdv A outer s H E) (WXof E) := takes_of rfl rfl rfl rfl
  have po : PassesOwn (model (cxOf (L2.CX P w) P w K mg base ["number", "two"] "two_classes" (defScope s_two_classes) f cdv A outer s H E).prog (cxOf (L2.CX P w) P w K mg base ["number", "two"] "two_classes" (defScope s_two_classes) f cdv A outer s H E).w) (cxOf (L2.CX P w) P w K mg base ["number", "two"] "two_classes" (defScope s_two_classes) f cdv A outer s H E).A (cxOf (L2.CX P w) P w K mg base ["number", "two"] "two_classes" (defScope s_two_classes) f cdv A outer s H E).env (cxOf (L2.CX P w) P w K mg base ["number", "two"] "two_classes" (defScope s_two_classes) f cdv A outer s H E).xe := passes_of rfl
  refine ess_one ?_
  · exact (es_ret (b_tuple t.z_tuple (ea_cons (ev_lc (own := [("two", 1)]) rfl nd (ei_seq (ev_cl c_reduced_twos hr (by decide) hgd tk (ea_cons (vr 0) ea_nil))) (blkOk_by (by first | rfl | kernel_rfl)) (by decide) (fun _ _ _ _ _ => (eg_name nd rfl (by first | exact .inl rfl | exact .inr rfl))) (fun _ _ _ _ _ => (ets_one (t_eq hr (ev_cl c_divisor_of hr (by decide) hgd takes0 (ea_cons (vr 1) ea_nil)) ev_int))) (fun _ _ _ _ _ => (vr 1))) ea_nil)))
abbrev s_unit_two : Stmt := top 27
theorem sc_unit_two : FnScope ["number", "odd"] ["number"] (defScope s_unit_two) := ⟨rfl, rfl, rfl, by decide +kernel, rfl, by decide +kernel, by decide +kernel⟩
theorem ok_unit_two {f : Addr} {fd : FuncData} (F : Fun K "unit_two" "unit_two" s_unit_two f fd) (t : Tx P K mg C fI a_UNIT) (c_check_gap : CalG P w K mg base 1 "check_gap" m_check_gap) : FnG P w K mg base 2 f fd ["number"] m_unit_two := by
  refine fnG_of (k := 1) F sc_unit_two rfl rfl (by decide) fun cdv A outer s H E hr hgd => ?_
  have nd := sc_unit_two.nd
  have tk : Takes (cxOf (L2.CX P w) P w K mg base ["number", "odd"] "unit_two" (defScope s_unit_two) f cdv A outer s H E) (WXof E) := takes_of rfl rfl rfl rfl
  have po : PassesOwn (model (cxOf (L2.CX P w) P w K mg base ["number", "odd"] "unit_two" (defScope s_unit_two) f cdv A outer s H E).prog (cxOf (L2.CX P w) P w K mg base ["number", "odd"] "unit_two" (defScope s_unit_two) f cdv A outer s H E).w) (cxOf (L2.CX P w) P w K mg base ["number", "odd"] "unit_two" (defScope s_unit_two) f cdv A outer s H E).A (cxOf (L2.CX P w) P w K mg base ["number", "odd"] "unit_two" (defScope s_unit_two) f cdv A outer s H E).env (cxOf (L2.CX P w) P w K mg base ["number", "odd"] "unit_two" (defScope s_unit_two) f cdv A outer s H E).xe := passes_of rfl
  refine ess_cons ?_ (ess_cons ?_ (ess_one ?_))
  · exact (es_expr (ev_cl c_check_gap hr (by decide) hgd tk (ea_cons (vr 0) ea_nil)))
  · exact (es_set nd rfl (by first | exact .inl rfl | exact .inr rfl) (o_mod (vr 0) ev_int))
  · exact (es_ret (ev_tup (ea_cons ev_int (ea_cons (vr 1) (ea_cons (o_fdiv (o_sub (vr 1) (vr 0)) ev_int) ea_nil)))))
abbrev s_opposite_two : Stmt := top 28
theorem sc_opposite_two : FnScope ["two"] ["two"] (defScope s_opposite_two) := ⟨rfl, rfl, rfl, by decide +kernel, rfl, by decide +kernel, by decide +kernel⟩
theorem ok_opposite_two {f : Addr} {fd : FuncData} (F : Fun K "opposite_two" "opposite_two" s_opposite_two f fd) (t : Tx P K mg C fI a_UNIT) (c_check_two : CalG P w K mg base 4 "check_two" m_check_two) (c_two_reduced : CalG P w K mg base 5 "two_reduced" m_two_reduced) : FnG P w K mg base 6 f fd ["two"] m_opposite_two := by
  refine fnG_of (k := 5) F sc_opposite_two rfl rfl (by decide) fun cdv A outer s H E hr hgd => ?_
  have nd := sc_opposite_two.nd
  have tk : Takes (cxOf (L2.CX P w) P w K mg base ["two"] "opposite_two" (defScope s_opposite_two) f cdv A outer s H E) (WXof E) := takes_of rfl rfl rfl rfl
  have po : PassesOwn (model (cxOf (L2.CX P w) P w K mg base ["two"] "opposite_two" (defScope s_opposite_two) f cdv A outer s H E).prog (cxOf (L2.CX P w) P w K mg base ["two"] "opposite_two" (defScope s_opposite_two) f cdv A outer s H E).w) (cxOf (L2.CX P w) P w K mg base ["two"] "opposite_two" (defScope s_opposite_two) f cdv A outer s H E).A (cxOf (L2.CX P w) P w K mg base ["two"] "opposite_two" (defScope s_opposite_two) f cdv A outer s H E).env (cxOf (L2.CX P w) P w K mg base ["two"] "opposite_two" (defScope s_opposite_two) f cdv A outer s H E).xe := passes_of rfl
  refine ess_cons ?_ (ess_one ?_)
  · exact (es_expr (ev_cl c_check_two hr (by decide) hgd tk (ea_cons (vr 0) ea_nil)))
  · exact (es_ret (ev_ix (ev_cl c_two_reduced hr (by decide) hgd tk (ea_cons (ev_tup (ea_cons (ev_ix (vr 0) ev_int) (ea_cons (o_sub ev_int (ev_ix (vr 0) ev_int)) (ea_cons (ev_ix (vr 0) ev_int) ea_nil)))) ea_nil)) ev_int))
abbrev s_prime_to : Stmt := top 29
theorem sc_prime_to : FnScope ["two", "number", "size", "x", "y", "common", "s", "t"] ["two", "number"] (defScope s_prime_to) := ⟨rfl, rfl, rfl, by decide +kernel, rfl, by decide +kernel, by decide +kernel⟩
theorem ok_prime_to {f : Addr} {fd : FuncData} (F : Fun K "prime_to" "prime_to" s_prime_to f fd) (t : Tx P K mg C fI a_UNIT) (c_divisor : CalG P w K mg base 1 "divisor" m_divisor) (c_bezout : CalG P w K mg base 1 "bezout" m_bezout) (c_two_worth : CalG P w K mg base 1 "two_worth" m_two_worth) : FnG P w K mg base 2 f fd ["two", "number"] m_prime_to := by
  refine fnG_of (k := 1) F sc_prime_to rfl rfl (by decide) fun cdv A outer s H E hr hgd => ?_
  have nd := sc_prime_to.nd
  have tk : Takes (cxOf (L2.CX P w) P w K mg base ["two", "number", "size", "x", "y", "common", "s", "t"] "prime_to" (defScope s_prime_to) f cdv A outer s H E) (WXof E) := takes_of rfl rfl rfl rfl
  have po : PassesOwn (model (cxOf (L2.CX P w) P w K mg base ["two", "number", "size", "x", "y", "common", "s", "t"] "prime_to" (defScope s_prime_to) f cdv A outer s H E).prog (cxOf (L2.CX P w) P w K mg base ["two", "number", "size", "x", "y", "common", "s", "t"] "prime_to" (defScope s_prime_to) f cdv A outer s H E).w) (cxOf (L2.CX P w) P w K mg base ["two", "number", "size", "x", "y", "common", "s", "t"] "prime_to" (defScope s_prime_to) f cdv A outer s H E).A (cxOf (L2.CX P w) P w K mg base ["two", "number", "size", "x", "y", "common", "s", "t"] "prime_to" (defScope s_prime_to) f cdv A outer s H E).env (cxOf (L2.CX P w) P w K mg base ["two", "number", "size", "x", "y", "common", "s", "t"] "prime_to" (defScope s_prime_to) f cdv A outer s H E).xe := passes_of rfl
  refine ess_cons ?_ (ess_one ?_)
  · exact (es_for po rfl (ei_rng2 (by rfl) t.z_range (ea_cons ev_int (ea_cons (o_add (o_mul ev_int (b_abs t.z_abs (ea_cons (vr 1) ea_nil))) ev_int) ea_nil))) (eg_name nd rfl (by first | exact .inl rfl | exact .inr rfl)) (ess_one (es_for po rfl (ei_rng1 (by rfl) t.z_range (ea_cons (o_add (vr 2) ev_int) ea_nil)) (eg_name nd rfl (by first | exact .inl rfl | exact .inr rfl)) (ess_one (es_for po rfl (ei_seq (ev_tup (ea_cons (o_sub (vr 2) (vr 3)) (ea_cons (o_sub (vr 3) (vr 2)) ea_nil)))) (eg_name nd rfl (by first | exact .inl rfl | exact .inr rfl)) (ess_one (es_if (et_W (ew_and (t_eq hr (ev_cl c_divisor hr (by decide) hgd tk (ea_cons (vr 3) (ea_cons (vr 4) ea_nil))) ev_int) (ew_and1 (t_eq hr (ev_cl c_divisor hr (by decide) hgd tk (ea_cons (ev_cl c_two_worth hr (by decide) hgd tk (ea_cons (vr 0) (ea_cons (vr 3) (ea_cons (vr 4) ea_nil)))) (ea_cons (vr 1) ea_nil))) ev_int)))) (ess_cons (es_asg (ev_cl c_bezout hr (by decide) hgd tk (ea_cons (vr 3) (ea_cons (vr 4) ea_nil))) (eg_tup rfl (egs_cons (eg_name nd rfl (by first | exact .inl rfl | exact .inr rfl)) (egs_cons (eg_name nd rfl (by first | exact .inl rfl | exact .inr rfl)) (egs_cons (eg_name nd rfl (by first | exact .inl rfl | exact .inr rfl)) egs_nil))))) (ess_one (es_ret (ev_tup (ea_cons (ev_tup (ea_cons (vr 3) (ea_cons (vr 4) ea_nil))) (ea_cons (ev_tup (ea_cons (o_sub ev_int (vr 7)) (ea_cons (vr 6) ea_nil))) ea_nil)))))) ess_nil)))))))
  · exact (es_raise rfl t.x_BadTable hr tk (ea_cons ev_str ea_nil) (by rfl))
abbrev s_shifted_by : Stmt := top 30
theorem sc_shifted_by : FnScope ["two", "other", "common", "s", "t"] ["two", "other"] (defScope s_shifted_by) := ⟨rfl, rfl, rfl, by decide +kernel, rfl, by decide +kernel, by decide +kernel⟩
theorem ok_shifted_by {f : Addr} {fd : FuncData} (F : Fun K "shifted_by" "shifted_by" s_shifted_by f fd) (t : Tx P K mg C fI a_UNIT) (c_bezout : CalG P w K mg base 1 "bezout" m_bezout) : FnG P w K mg base 2 f fd ["two", "other"] m_shifted_by := by
  refine fnG_of (k := 1) F sc_shifted_by rfl rfl (by decide) fun cdv A outer s H E hr hgd => ?_
  have nd := sc_shifted_by.nd
  have tk : Takes (cxOf (L2.CX P w) P w K mg base ["two", "other", "common", "s", "t"] "shifted_by" (defScope s_shifted_by) f cdv A outer s H E) (WXof E) := takes_of rfl rfl rfl rfl
  have po : PassesOwn (model (cxOf (L2.CX P w) P w K mg base ["two", "other", "common", "s", "t"] "shifted_by" (defScope s_shifted_by) f cdv A outer s H E).prog (cxOf (L2.CX P w) P w K mg base ["two", "other", "common", "s", "t"] "shifted_by" (defScope s_shifted_by) f cdv A outer s H E).w) (cxOf (L2.CX P w) P w K mg base ["two", "other", "common", "s", "t"] "shifted_by" (defScope s_shifted_by) f cdv A outer s H E).A (cxOf (L2.CX P w) P w K mg base ["two", "other", "common", "s", "t"] "shifted_by" (defScope s_shifted_by) f cdv A outer s H E).env (cxOf (L2.CX P w) P w K mg base ["two", "other", "common", "s", "t"] "shifted_by" (defScope s_shifted_by) f cdv A outer s H E).xe := passes_of rfl
  refine ess_cons ?_ (ess_one ?_)
  · exact (es_asg (ev_cl c_bezout hr (by decide) hgd tk (ea_cons (ev_ix (vr 0) ev_int) (ea_cons (ev_ix (vr 1) ev_int) ea_nil))) (eg_tup rfl (egs_cons (eg_name nd rfl (by first | exact .inl rfl | exact .inr rfl)) (egs_cons (eg_name nd rfl (by first | exact .inl rfl | exact .inr rfl)) (egs_cons (eg_name nd rfl (by first | exact .inl rfl | exact .inr rfl)) egs_nil)))))
  · exact (es_ret (o_mod (o_mul (o_fdiv (o_sub (ev_ix (vr 1) ev_int) (ev_ix (vr 0) ev_int)) ev_int) (vr 3)) (ev_ix (vr 1) ev_int)))
abbrev s_bilinear : Stmt := top 31
theorem sc_bilinear : FnScope ["left", "right", "rows", "found", "row", "whole"] ["left", "right", "rows"] (defScope s_bilinear) := ⟨rfl, rfl, rfl, by decide +kernel, rfl, by decide +kernel, by decide +kernel⟩
theorem ok_bilinear {f : Addr} {fd : FuncData} (F : Fun K "bilinear" "bilinear" s_bilinear f fd) (t : Tx P K mg C fI a_UNIT) (c_turned : CalG P w K mg base 2 "turned" m_turned) (c_product : CalG P w K mg base 3 "product" m_product) : FnG P w K mg base 4 f fd ["left", "right", "rows"] m_bilinear := by
  refine fnG_of (k := 3) F sc_bilinear rfl rfl (by decide) fun cdv A outer s H E hr hgd => ?_
  have nd := sc_bilinear.nd
  have tk : Takes (cxOf (L2.CX P w) P w K mg base ["left", "right", "rows", "found", "row", "whole"] "bilinear" (defScope s_bilinear) f cdv A outer s H E) (WXof E) := takes_of rfl rfl rfl rfl
  have po : PassesOwn (model (cxOf (L2.CX P w) P w K mg base ["left", "right", "rows", "found", "row", "whole"] "bilinear" (defScope s_bilinear) f cdv A outer s H E).prog (cxOf (L2.CX P w) P w K mg base ["left", "right", "rows", "found", "row", "whole"] "bilinear" (defScope s_bilinear) f cdv A outer s H E).w) (cxOf (L2.CX P w) P w K mg base ["left", "right", "rows", "found", "row", "whole"] "bilinear" (defScope s_bilinear) f cdv A outer s H E).A (cxOf (L2.CX P w) P w K mg base ["left", "right", "rows", "found", "row", "whole"] "bilinear" (defScope s_bilinear) f cdv A outer s H E).env (cxOf (L2.CX P w) P w K mg base ["left", "right", "rows", "found", "row", "whole"] "bilinear" (defScope s_bilinear) f cdv A outer s H E).xe := passes_of rfl
  refine ess_cons ?_ (ess_cons ?_ (ess_one ?_))
  · exact (es_set nd rfl (by first | exact .inl rfl | exact .inr rfl) (ev_cel ea_nil))
  · exact (es_for po rfl (ei_seq (vr 2)) (eg_name nd rfl (by first | exact .inl rfl | exact .inr rfl)) (ess_cons (es_set nd rfl (by first | exact .inl rfl | exact .inr rfl) (ev_cl c_product hr (by decide) hgd tk (ea_cons (ev_cl c_product hr (by decide) hgd tk (ea_cons (vr 0) (ea_cons (ev_tup (ea_cons (ev_slice (vr 4) eo_none (eo_some ev_int)) (ea_cons (ev_slice (vr 4) (eo_some ev_int) eo_none) ea_nil))) ea_nil))) (ea_cons (ev_cl c_turned hr (by decide) hgd tk (ea_cons (vr 1) ea_nil)) ea_nil)))) (ess_one (es_expr (ev_app (vr 3) (o_add (ev_ix (vr 5) ev_int) (ev_ix (vr 5) ev_int)))))))
  · exact (es_ret (b_tuple t.z_tuple (ea_cons (vr 3) ea_nil)))
abbrev s_undone_two : Stmt := top 32
theorem sc_undone_two : FnScope ["rows", "p", "q", "r", "s"] ["rows"] (defScope s_undone_two) := ⟨rfl, rfl, rfl, by decide +kernel, rfl, by decide +kernel, by decide +kernel⟩
theorem ok_undone_two {f : Addr} {fd : FuncData} (F : Fun K "undone_two" "undone_two" s_undone_two f fd) (t : Tx P K mg C fI a_UNIT)  : FnG P w K mg base 1 f fd ["rows"] m_undone_two := by
  refine fnG_of (k := 0) F sc_undone_two rfl rfl (by decide) fun cdv A outer s H E hr hgd => ?_
  have nd := sc_undone_two.nd
  have tk : Takes (cxOf (L2.CX P w) P w K mg base ["rows", "p", "q", "r", "s"] "undone_two" (defScope s_undone_two) f cdv A outer s H E) (WXof E) := takes_of rfl rfl rfl rfl
  have po : PassesOwn (model (cxOf (L2.CX P w) P w K mg base ["rows", "p", "q", "r", "s"] "undone_two" (defScope s_undone_two) f cdv A outer s H E).prog (cxOf (L2.CX P w) P w K mg base ["rows", "p", "q", "r", "s"] "undone_two" (defScope s_undone_two) f cdv A outer s H E).w) (cxOf (L2.CX P w) P w K mg base ["rows", "p", "q", "r", "s"] "undone_two" (defScope s_undone_two) f cdv A outer s H E).A (cxOf (L2.CX P w) P w K mg base ["rows", "p", "q", "r", "s"] "undone_two" (defScope s_undone_two) f cdv A outer s H E).env (cxOf (L2.CX P w) P w K mg base ["rows", "p", "q", "r", "s"] "undone_two" (defScope s_undone_two) f cdv A outer s H E).xe := passes_of rfl
  refine ess_cons ?_ (ess_one ?_)
  · exact (es_asg (vr 0) (eg_tup rfl (egs_cons (eg_tup rfl (egs_cons (eg_name nd rfl (by first | exact .inl rfl | exact .inr rfl)) (egs_cons (eg_name nd rfl (by first | exact .inl rfl | exact .inr rfl)) egs_nil))) (egs_cons (eg_tup rfl (egs_cons (eg_name nd rfl (by first | exact .inl rfl | exact .inr rfl)) (egs_cons (eg_name nd rfl (by first | exact .inl rfl | exact .inr rfl)) egs_nil))) egs_nil))))
  · exact (es_ret (ev_tup (ea_cons (ev_tup (ea_cons (vr 4) (ea_cons (o_sub ev_int (vr 2)) ea_nil))) (ea_cons (ev_tup (ea_cons (o_sub ev_int (vr 3)) (ea_cons (vr 1) ea_nil))) ea_nil))))
abbrev s_undone_columns_two : Stmt := top 34
theorem sc_undone_columns_two : FnScope ["change", "p", "q", "r", "s"] ["change"] (defScope s_undone_columns_two) := ⟨rfl, rfl, rfl, by decide +kernel, rfl, by decide +kernel, by decide +kernel⟩
theorem ok_undone_columns_two {f : Addr} {fd : FuncData} (F : Fun K "undone_columns_two" "undone_columns_two" s_undone_columns_two f fd) (t : Tx P K mg C fI a_UNIT)  : FnG P w K mg base 1 f fd ["change"] m_undone_columns_two := by
  refine fnG_of (k := 0) F sc_undone_columns_two rfl rfl (by decide) fun cdv A outer s H E hr hgd => ?_
  have nd := sc_undone_columns_two.nd
  have tk : Takes (cxOf (L2.CX P w) P w K mg base ["change", "p", "q", "r", "s"] "undone_columns_two" (defScope s_undone_columns_two) f cdv A outer s H E) (WXof E) := takes_of rfl rfl rfl rfl
  have po : PassesOwn (model (cxOf (L2.CX P w) P w K mg base ["change", "p", "q", "r", "s"] "undone_columns_two" (defScope s_undone_columns_two) f cdv A outer s H E).prog (cxOf (L2.CX P w) P w K mg base ["change", "p", "q", "r", "s"] "undone_columns_two" (defScope s_undone_columns_two) f cdv A outer s H E).w) (cxOf (L2.CX P w) P w K mg base ["change", "p", "q", "r", "s"] "undone_columns_two" (defScope s_undone_columns_two) f cdv A outer s H E).A (cxOf (L2.CX P w) P w K mg base ["change", "p", "q", "r", "s"] "undone_columns_two" (defScope s_undone_columns_two) f cdv A outer s H E).env (cxOf (L2.CX P w) P w K mg base ["change", "p", "q", "r", "s"] "undone_columns_two" (defScope s_undone_columns_two) f cdv A outer s H E).xe := passes_of rfl
  refine ess_cons ?_ (ess_one ?_)
  · exact (es_asg (vr 0) (eg_tup rfl (egs_cons (eg_tup rfl (egs_cons (eg_name nd rfl (by first | exact .inl rfl | exact .inr rfl)) (egs_cons (eg_name nd rfl (by first | exact .inl rfl | exact .inr rfl)) egs_nil))) (egs_cons (eg_tup rfl (egs_cons (eg_name nd rfl (by first | exact .inl rfl | exact .inr rfl)) (egs_cons (eg_name nd rfl (by first | exact .inl rfl | exact .inr rfl)) egs_nil))) egs_nil))))
  · exact (es_ret (ev_tup (ea_cons (ev_tup (ea_cons (vr 4) (ea_cons (o_sub ev_int (vr 3)) ea_nil))) (ea_cons (ev_tup (ea_cons (o_sub ev_int (vr 2)) (ea_cons (vr 1) ea_nil))) ea_nil))))
abbrev s_put_together : Stmt := top 33
theorem sc_put_together : FnScope ["two", "other", "second", "fresh", "shift", "first", "one", "along", "a", "b", "c", "rows", "found", "change"] ["two", "other"] (defScope s_put_together) := ⟨rfl, rfl, rfl, by decide +kernel, rfl, by decide +kernel, by decide +kernel⟩
theorem ok_put_together {f : Addr} {fd : FuncData} (F : Fun K "put_together" "put_together" s_put_together f fd) (t : Tx P K mg C fI a_UNIT) (c_product : CalG P w K mg base 3 "product" m_product) (c_gap : CalG P w K mg base 1 "gap" m_gap) (c_check_two : CalG P w K mg base 4 "check_two" m_check_two) (c_two_changed : CalG P w K mg base 2 "two_changed" m_two_changed) (c_two_reduced : CalG P w K mg base 5 "two_reduced" m_two_reduced) (c_prime_to : CalG P w K mg base 2 "prime_to" m_prime_to) (c_shifted_by : CalG P w K mg base 2 "shifted_by" m_shifted_by) (c_bilinear : CalG P w K mg base 4 "bilinear" m_bilinear) (c_undone_two : CalG P w K mg base 1 "undone_two" m_undone_two) (c_undone_columns_two : CalG P w K mg base 1 "undone_columns_two" m_undone_columns_two) : FnG P w K mg base 6 f fd ["two", "other"] m_put_together := by
  refine fnG_of (k := 5) F sc_put_together rfl rfl (by decide) fun cdv A outer s H E hr hgd => ?_
  have nd := sc_put_together.nd
  have tk : Takes (cxOf (L2.CX P w) P w K mg base ["two", "other", "second", "fresh", "shift", "first", "one", "along", "a", "b", "c", "rows", "found", "change"] "put_together" (defScope s_put_together) f cdv A outer s H E) (WXof E) := takes_of rfl rfl rfl rfl
  have po : PassesOwn (model (cxOf (L2.CX P w) P w K mg base ["two", "other", "second", "fresh", "shift", "first", "one", "along", "a", "b", "c", "rows", "found", "change"] "put_together" (defScope s_put_together) f cdv A outer s H E).prog (cxOf (L2.CX P w) P w K mg base ["two", "other", "second", "fresh", "shift", "first", "one", "along", "a", "b", "c", "rows", "found", "change"] "put_together" (defScope s_put_together) f cdv A outer s H E).w) (cxOf (L2.CX P w) P w K mg base ["two", "other", "second", "fresh", "shift", "first", "one", "along", "a", "b", "c", "rows", "found", "change"] "put_together" (defScope s_put_together) f cdv A outer s H E).A (cxOf (L2.CX P w) P w K mg base ["two", "other", "second", "fresh", "shift", "first", "one", "along", "a", "b", "c", "rows", "found", "change"] "put_together" (defScope s_put_together) f cdv A outer s H E).env (cxOf (L2.CX P w) P w K mg base ["two", "other", "second", "fresh", "shift", "first", "one", "along", "a", "b", "c", "rows", "found", "change"] "put_together" (defScope s_put_together) f cdv A outer s H E).xe := passes_of rfl
  refine ess_cons ?_ (ess_cons ?_ (ess_cons ?_ (ess_cons ?_ (ess_cons ?_ (ess_cons ?_ (ess_cons ?_ (ess_cons ?_ (ess_cons ?_ (ess_cons ?_ (ess_cons ?_ (ess_cons ?_ (ess_cons ?_ (ess_cons ?_ (ess_cons ?_ (ess_one ?_)))))))))))))))
  · exact (es_expr (ev_cl c_check_two hr (by decide) hgd tk (ea_cons (vr 0) ea_nil)))
  · exact (es_expr (ev_cl c_check_two hr (by decide) hgd tk (ea_cons (vr 1) ea_nil)))
  · exact (es_if (t_ne hr (ev_cl c_gap hr (by decide) hgd tk (ea_cons (vr 0) ea_nil)) (ev_cl c_gap hr (by decide) hgd tk (ea_cons (vr 1) ea_nil))) (ess_one (es_raise rfl t.x_BadTable hr tk (ea_cons ev_str ea_nil) (by rfl))) ess_nil)
  · exact (es_set nd rfl (by first | exact .inl rfl | exact .inr rfl) (ev_cl c_prime_to hr (by decide) hgd tk (ea_cons (vr 1) (ea_cons (ev_ix (vr 0) ev_int) ea_nil))))
  · exact (es_set nd rfl (by first | exact .inl rfl | exact .inr rfl) (ev_cl c_two_changed hr (by decide) hgd tk (ea_cons (vr 1) (ea_cons (vr 2) ea_nil))))
  · exact (es_set nd rfl (by first | exact .inl rfl | exact .inr rfl) (ev_cl c_shifted_by hr (by decide) hgd tk (ea_cons (vr 0) (ea_cons (vr 3) ea_nil))))
  · exact (es_set nd rfl (by first | exact .inl rfl | exact .inr rfl) (ev_tup (ea_cons (ev_tup (ea_cons ev_int (ea_cons ev_int ea_nil))) (ea_cons (ev_tup (ea_cons (vr 4) (ea_cons ev_int ea_nil))) ea_nil))))
  · exact (es_set nd rfl (by first | exact .inl rfl | exact .inr rfl) (ev_cl c_two_changed hr (by decide) hgd tk (ea_cons (vr 0) (ea_cons (vr 5) ea_nil))))
  · exact (es_set nd rfl (by first | exact .inl rfl | exact .inr rfl) (o_fdiv (o_sub (ev_ix (vr 6) ev_int) (ev_ix (vr 3) ev_int)) (o_mul ev_int (ev_ix (vr 3) ev_int))))
  · exact (es_set nd rfl (by first | exact .inl rfl | exact .inr rfl) (ev_cl c_product hr (by decide) hgd tk (ea_cons (ev_tup (ea_cons (ev_tup (ea_cons ev_int (ea_cons ev_int ea_nil))) (ea_cons (ev_tup (ea_cons (vr 7) (ea_cons ev_int ea_nil))) ea_nil))) (ea_cons (vr 2) ea_nil))))
  · exact (es_par rfl nd rfl rfl (by decide) rfl rfl (ea_cons (ev_ix (vr 6) ev_int) (ea_cons (ev_ix (vr 6) ev_int) ea_nil)) (by rfl))
  · exact (es_set nd rfl (by first | exact .inl rfl | exact .inr rfl) (o_fdiv (o_sub (o_mul (vr 9) (vr 9)) (ev_cl c_gap hr (by decide) hgd tk (ea_cons (vr 0) ea_nil))) (o_mul (o_mul ev_int (vr 8)) (ev_ix (vr 3) ev_int))))
  · exact (es_set nd rfl (by first | exact .inl rfl | exact .inr rfl) (ev_tup (ea_cons (ev_tup (ea_cons ev_int (ea_cons ev_int (ea_cons ev_int (ea_cons (o_sub ev_int (vr 10)) ea_nil))))) (ea_cons (ev_tup (ea_cons ev_int (ea_cons (vr 8) (ea_cons (ev_ix (vr 3) ev_int) (ea_cons (vr 9) ea_nil))))) ea_nil))))
  · exact (es_set nd rfl (by first | exact .inl rfl | exact .inr rfl) (ev_cl c_bilinear hr (by decide) hgd tk (ea_cons (ev_cl c_undone_two hr (by decide) hgd tk (ea_cons (vr 5) ea_nil)) (ea_cons (ev_cl c_undone_two hr (by decide) hgd tk (ea_cons (vr 2) ea_nil)) (ea_cons (vr 11) ea_nil)))))
  · exact (es_asg (ev_cl c_two_reduced hr (by decide) hgd tk (ea_cons (ev_tup (ea_cons (o_mul (vr 8) (ev_ix (vr 3) ev_int)) (ea_cons (vr 9) (ea_cons (vr 10) ea_nil)))) ea_nil)) (eg_tup rfl (egs_cons (eg_name nd rfl (by first | exact .inl rfl | exact .inr rfl)) (egs_cons (eg_name nd rfl (by first | exact .inl rfl | exact .inr rfl)) egs_nil))))
  · exact (es_ret (ev_tup (ea_cons (vr 12) (ea_cons (ev_cl c_product hr (by decide) hgd tk (ea_cons (ev_cl c_undone_columns_two hr (by decide) hgd tk (ea_cons (vr 13) ea_nil)) (ea_cons (vr 11) ea_nil))) ea_nil))))
abbrev s_shows_together : Stmt := top 35
theorem sc_shows_together : FnScope ["two", "other", "whole", "paper", "one", "last", "tries", "x", "y", "z", "w", "row", "big", "small", "a", "b"] ["two", "other", "whole", "paper"] (defScope s_shows_together) := ⟨rfl, rfl, rfl, by decide +kernel, rfl, by decide +kernel, by decide +kernel⟩
theorem ok_shows_together {f : Addr} {fd : FuncData} (F : Fun K "shows_together" "shows_together" s_shows_together f fd) (t : Tx P K mg C fI a_UNIT) (c_is_row : CalG P w K mg base 2 "is_row" m_is_row) (c_two_worth : CalG P w K mg base 1 "two_worth" m_two_worth) : FnG P w K mg base 3 f fd ["two", "other", "whole", "paper"] m_shows_together := by
  refine fnG_of (k := 2) F sc_shows_together rfl rfl (by decide) fun cdv A outer s H E hr hgd => ?_
  have nd := sc_shows_together.nd
  have tk : Takes (cxOf (L2.CX P w) P w K mg base ["two", "other", "whole", "paper", "one", "last", "tries", "x", "y", "z", "w", "row", "big", "small", "a", "b"] "shows_together" (defScope s_shows_together) f cdv A outer s H E) (WXof E) := takes_of rfl rfl rfl rfl
  have po : PassesOwn (model (cxOf (L2.CX P w) P w K mg base ["two", "other", "whole", "paper", "one", "last", "tries", "x", "y", "z", "w", "row", "big", "small", "a", "b"] "shows_together" (defScope s_shows_together) f cdv A outer s H E).prog (cxOf (L2.CX P w) P w K mg base ["two", "other", "whole", "paper", "one", "last", "tries", "x", "y", "z", "w", "row", "big", "small", "a", "b"] "shows_together" (defScope s_shows_together) f cdv A outer s H E).w) (cxOf (L2.CX P w) P w K mg base ["two", "other", "whole", "paper", "one", "last", "tries", "x", "y", "z", "w", "row", "big", "small", "a", "b"] "shows_together" (defScope s_shows_together) f cdv A outer s H E).A (cxOf (L2.CX P w) P w K mg base ["two", "other", "whole", "paper", "one", "last", "tries", "x", "y", "z", "w", "row", "big", "small", "a", "b"] "shows_together" (defScope s_shows_together) f cdv A outer s H E).env (cxOf (L2.CX P w) P w K mg base ["two", "other", "whole", "paper", "one", "last", "tries", "x", "y", "z", "w", "row", "big", "small", "a", "b"] "shows_together" (defScope s_shows_together) f cdv A outer s H E).xe := passes_of rfl
  refine ess_cons ?_ (ess_cons ?_ (ess_cons ?_ (ess_cons ?_ (ess_cons ?_ (ess_one ?_)))))
  · exact (es_if (et_W (ew_or (et_not (et_tru (b_isinstance t.z_isinstance (ea_cons (vr 3) (ea_cons (ty_tuple t.z_tuple) ea_nil))))) (ew_or (t_ne hr (b_len t.z_len (ea_cons (vr 3) ea_nil)) ev_int) (ew_or1 (et_not (et_tru (b_all t.z_all (ea_cons (ev_lc (own := [("row", 11)]) rfl nd (ei_seq (vr 3)) (blkOk_by (by first | rfl | kernel_rfl)) (by decide) (fun _ _ _ _ _ => (eg_name nd rfl (by first | exact .inl rfl | exact .inr rfl))) (fun _ _ _ _ _ => ets_nil) (fun _ _ _ _ _ => (ev_and (ev_cl c_is_row hr (by decide) hgd takes0 (ea_cons (vr 11) ea_nil)) (ev_one (q_eq hr (b_len t.z_len (ea_cons (vr 11) ea_nil)) ev_int))))) ea_nil)))))))) (ess_one (es_ret ev_bl)) ess_nil)
  · exact (es_asg (vr 3) (eg_tup rfl (egs_cons (eg_name nd rfl (by first | exact .inl rfl | exact .inr rfl)) (egs_cons (eg_name nd rfl (by first | exact .inl rfl | exact .inr rfl)) egs_nil))))
  · exact (es_if (et_W (ew_or (t_ne hr (o_sub (o_mul (ev_ix (vr 4) ev_int) (ev_ix (vr 5) ev_int)) (o_mul (ev_ix (vr 5) ev_int) (ev_ix (vr 4) ev_int))) (ev_ix (vr 0) ev_int)) (ew_or1 (t_ne hr (o_sub (o_mul (ev_ix (vr 4) ev_int) (ev_ix (vr 5) ev_int)) (o_mul (ev_ix (vr 5) ev_int) (ev_ix (vr 4) ev_int))) (ev_ix (vr 1) ev_int))))) (ess_one (es_ret ev_bl)) ess_nil)
  · exact (es_set nd rfl (by first | exact .inl rfl | exact .inr rfl) (ev_lst (ea_cons (ev_tup (ea_cons ev_int (ea_cons ev_int ea_nil))) (ea_cons (ev_tup (ea_cons ev_int (ea_cons ev_int ea_nil))) (ea_cons (ev_tup (ea_cons ev_int (ea_cons ev_int ea_nil))) (ea_cons (ev_tup (ea_cons ev_int (ea_cons (o_neg ev_int) ea_nil))) (ea_cons (ev_tup (ea_cons ev_int (ea_cons ev_int ea_nil))) ea_nil)))))))
  · exact (es_for po rfl (ei_seq (vr 6)) (eg_tup rfl (egs_cons (eg_name nd rfl (by first | exact .inl rfl | exact .inr rfl)) (egs_cons (eg_name nd rfl (by first | exact .inl rfl | exact .inr rfl)) egs_nil))) (ess_one (es_for po rfl (ei_seq (vr 6)) (eg_tup rfl (egs_cons (eg_name nd rfl (by first | exact .inl rfl | exact .inr rfl)) (egs_cons (eg_name nd rfl (by first | exact .inl rfl | exact .inr rfl)) egs_nil))) (ess_cons (es_set nd rfl (by first | exact .inl rfl | exact .inr rfl) (ev_tup (ea_cons (o_mul (vr 7) (vr 9)) (ea_cons (o_mul (vr 7) (vr 10)) (ea_cons (o_mul (vr 8) (vr 9)) (ea_cons (o_mul (vr 8) (vr 10)) ea_nil)))))) (ess_cons (es_set nd rfl (by first | exact .inl rfl | exact .inr rfl) (b_sum t.z_sum (ea_cons (ev_lc (own := [("a", 14), ("b", 15)]) rfl nd (ei_zip (by rfl) t.z_zip (ea_cons (vr 4) (ea_cons (vr 11) ea_nil))) (blkOk_by (by first | rfl | kernel_rfl)) (by decide) (fun _ _ _ _ _ => (eg_tup rfl (egs_cons (eg_name nd rfl (by first | exact .inl rfl | exact .inr rfl)) (egs_cons (eg_name nd rfl (by first | exact .inl rfl | exact .inr rfl)) egs_nil)))) (fun _ _ _ _ _ => ets_nil) (fun _ _ _ _ _ => (o_mul (vr 14) (vr 15)))) ea_nil))) (ess_cons (es_set nd rfl (by first | exact .inl rfl | exact .inr rfl) (b_sum t.z_sum (ea_cons (ev_lc (own := [("a", 14), ("b", 15)]) rfl nd (ei_zip (by rfl) t.z_zip (ea_cons (vr 5) (ea_cons (vr 11) ea_nil))) (blkOk_by (by first | rfl | kernel_rfl)) (by decide) (fun _ _ _ _ _ => (eg_tup rfl (egs_cons (eg_name nd rfl (by first | exact .inl rfl | exact .inr rfl)) (egs_cons (eg_name nd rfl (by first | exact .inl rfl | exact .inr rfl)) egs_nil)))) (fun _ _ _ _ _ => ets_nil) (fun _ _ _ _ _ => (o_mul (vr 14) (vr 15)))) ea_nil))) (ess_one (es_if (t_ne hr (ev_cl c_two_worth hr (by decide) hgd tk (ea_cons (vr 2) (ea_cons (vr 12) (ea_cons (vr 13) ea_nil)))) (o_mul (ev_cl c_two_worth hr (by decide) hgd tk (ea_cons (vr 0) (ea_cons (vr 7) (ea_cons (vr 8) ea_nil)))) (ev_cl c_two_worth hr (by decide) hgd tk (ea_cons (vr 1) (ea_cons (vr 9) (ea_cons (vr 10) ea_nil)))))) (ess_one (es_ret ev_bl)) ess_nil))))))))
  · exact (es_ret ev_bl)
abbrev s_class_power : Stmt := top 37
theorem sc_class_power : FnScope ["two", "power", "found", "turn"] ["two", "power"] (defScope s_class_power) := ⟨rfl, rfl, rfl, by decide +kernel, rfl, by decide +kernel, by decide +kernel⟩
theorem ok_class_power {f : Addr} {fd : FuncData} (F : Fun K "class_power" "class_power" s_class_power f fd) (t : Tx P K mg C fI a_UNIT) (c_gap : CalG P w K mg base 1 "gap" m_gap) (c_check_two : CalG P w K mg base 4 "check_two" m_check_two) (c_unit_two : CalG P w K mg base 2 "unit_two" m_unit_two) (c_put_together : CalG P w K mg base 6 "put_together" m_put_together) : FnG P w K mg base 7 f fd ["two", "power"] m_class_power := by
  refine fnG_of (k := 6) F sc_class_power rfl rfl (by decide) fun cdv A outer s H E hr hgd => ?_
  have nd := sc_class_power.nd
  have tk : Takes (cxOf (L2.CX P w) P w K mg base ["two", "power", "found", "turn"] "class_power" (defScope s_class_power) f cdv A outer s H E) (WXof E) := takes_of rfl rfl rfl rfl
  have po : PassesOwn (model (cxOf (L2.CX P w) P w K mg base ["two", "power", "found", "turn"] "class_power" (defScope s_class_power) f cdv A outer s H E).prog (cxOf (L2.CX P w) P w K mg base ["two", "power", "found", "turn"] "class_power" (defScope s_class_power) f cdv A outer s H E).w) (cxOf (L2.CX P w) P w K mg base ["two", "power", "found", "turn"] "class_power" (defScope s_class_power) f cdv A outer s H E).A (cxOf (L2.CX P w) P w K mg base ["two", "power", "found", "turn"] "class_power" (defScope s_class_power) f cdv A outer s H E).env (cxOf (L2.CX P w) P w K mg base ["two", "power", "found", "turn"] "class_power" (defScope s_class_power) f cdv A outer s H E).xe := passes_of rfl
  refine ess_cons ?_ (ess_cons ?_ (ess_cons ?_ (ess_one ?_)))
  · exact (es_expr (ev_cl c_check_two hr (by decide) hgd tk (ea_cons (vr 0) ea_nil)))
  · exact (es_set nd rfl (by first | exact .inl rfl | exact .inr rfl) (ev_cl c_unit_two hr (by decide) hgd tk (ea_cons (ev_cl c_gap hr (by decide) hgd tk (ea_cons (vr 0) ea_nil)) ea_nil)))
  · exact (es_for po rfl (ei_rng1 (by rfl) t.z_range (ea_cons (vr 1) ea_nil)) (eg_name nd rfl (by first | exact .inl rfl | exact .inr rfl)) (ess_one (es_set nd rfl (by first | exact .inl rfl | exact .inr rfl) (ev_ix (ev_cl c_put_together hr (by decide) hgd tk (ea_cons (vr 2) (ea_cons (vr 0) ea_nil))) ev_int))))
  · exact (es_ret (vr 2))
abbrev s_class_order : Stmt := top 38
theorem sc_class_order : FnScope ["two", "unit", "found", "power"] ["two"] (defScope s_class_order) := ⟨rfl, rfl, rfl, by decide +kernel, rfl, by decide +kernel, by decide +kernel⟩
theorem ok_class_order {f : Addr} {fd : FuncData} (F : Fun K "class_order" "class_order" s_class_order f fd) (t : Tx P K mg C fI a_UNIT) (c_gap : CalG P w K mg base 1 "gap" m_gap) (c_check_two : CalG P w K mg base 4 "check_two" m_check_two) (c_two_reduced : CalG P w K mg base 5 "two_reduced" m_two_reduced) (c_unit_two : CalG P w K mg base 2 "unit_two" m_unit_two) (c_put_together : CalG P w K mg base 6 "put_together" m_put_together) : FnG P w K mg base 7 f fd ["two"] m_class_order := by
  refine fnG_of (k := 6) F sc_class_order rfl rfl (by decide) fun cdv A outer s H E hr hgd => ?_
  have nd := sc_class_order.nd
  have tk : Takes (cxOf (L2.CX P w) P w K mg base ["two", "unit", "found", "power"] "class_order" (defScope s_class_order) f cdv A outer s H E) (WXof E) := takes_of rfl rfl rfl rfl
  have po : PassesOwn (model (cxOf (L2.CX P w) P w K mg base ["two", "unit", "found", "power"] "class_order" (defScope s_class_order) f cdv A outer s H E).prog (cxOf (L2.CX P w) P w K mg base ["two", "unit", "found", "power"] "class_order" (defScope s_class_order) f cdv A outer s H E).w) (cxOf (L2.CX P w) P w K mg base ["two", "unit", "found", "power"] "class_order" (defScope s_class_order) f cdv A outer s H E).A (cxOf (L2.CX P w) P w K mg base ["two", "unit", "found", "power"] "class_order" (defScope s_class_order) f cdv A outer s H E).env (cxOf (L2.CX P w) P w K mg base ["two", "unit", "found", "power"] "class_order" (defScope s_class_order) f cdv A outer s H E).xe := passes_of rfl
  refine ess_cons ?_ (ess_cons ?_ (ess_cons ?_ (ess_cons ?_ (ess_one ?_))))
  · exact (es_expr (ev_cl c_check_two hr (by decide) hgd tk (ea_cons (vr 0) ea_nil)))
  · exact (es_set nd rfl (by first | exact .inl rfl | exact .inr rfl) (ev_cl c_unit_two hr (by decide) hgd tk (ea_cons (ev_cl c_gap hr (by decide) hgd tk (ea_cons (vr 0) ea_nil)) ea_nil)))
  · exact (es_par rfl nd rfl rfl (by decide) rfl rfl (ea_cons (ev_ix (ev_cl c_two_reduced hr (by decide) hgd tk (ea_cons (vr 0) ea_nil)) ev_int) (ea_cons ev_int ea_nil)) (by rfl))
  · exact (es_while po (t_ne hr (vr 2) (vr 1)) (ess_one (es_par rfl nd rfl rfl (by decide) rfl rfl (ea_cons (ev_ix (ev_cl c_put_together hr (by decide) hgd tk (ea_cons (vr 2) (ea_cons (vr 0) ea_nil))) ev_int) (ea_cons (o_add (vr 3) ev_int) ea_nil)) (by rfl))))
  · exact (es_ret (vr 3))
abbrev s_l_cell : Stmt := top 40
theorem sc_l_cell : FnScope ["script", "k"] ["script", "k"] (defScope s_l_cell) := ⟨rfl, rfl, rfl, by decide +kernel, rfl, by decide +kernel, by decide +kernel⟩
theorem ok_l_cell {f : Addr} {fd : FuncData} (F : Fun K "_law_cell" "_law_cell" s_l_cell f fd) (t : Tx P K mg C fI a_UNIT)  : FnG P w K mg base 1 f fd ["script", "k"] m_l_cell := by
  refine fnG_of (k := 0) F sc_l_cell rfl rfl (by decide) fun cdv A outer s H E hr hgd => ?_
  have nd := sc_l_cell.nd
  have tk : Takes (cxOf (L2.CX P w) P w K mg base ["script", "k"] "_law_cell" (defScope s_l_cell) f cdv A outer s H E) (WXof E) := takes_of rfl rfl rfl rfl
  have po : PassesOwn (model (cxOf (L2.CX P w) P w K mg base ["script", "k"] "_law_cell" (defScope s_l_cell) f cdv A outer s H E).prog (cxOf (L2.CX P w) P w K mg base ["script", "k"] "_law_cell" (defScope s_l_cell) f cdv A outer s H E).w) (cxOf (L2.CX P w) P w K mg base ["script", "k"] "_law_cell" (defScope s_l_cell) f cdv A outer s H E).A (cxOf (L2.CX P w) P w K mg base ["script", "k"] "_law_cell" (defScope s_l_cell) f cdv A outer s H E).env (cxOf (L2.CX P w) P w K mg base ["script", "k"] "_law_cell" (defScope s_l_cell) f cdv A outer s H E).xe := passes_of rfl
  refine ess_cons ?_ (ess_one ?_)
  · exact (es_if (t_lt (vr 1) (b_len t.z_len (ea_cons (vr 0) ea_nil))) (ess_one (es_ret (ev_ix (vr 0) (vr 1)))) ess_nil)
  · exact (es_ret ev_int)
abbrev s_l_digits : Stmt := top 41
theorem sc_l_digits : FnScope ["script", "first", "last", "found", "k", "c", "n", "turn", "s"] ["script", "first", "last"] (defScope s_l_digits) := ⟨rfl, rfl, rfl, by decide +kernel, rfl, by decide +kernel, by decide +kernel⟩
theorem ok_l_digits {f : Addr} {fd : FuncData} (F : Fun K "_law_digits" "_law_digits" s_l_digits f fd) (t : Tx P K mg C fI a_UNIT) (c_l_cell : CalG P w K mg base 1 "_law_cell" m_l_cell) : FnG P w K mg base 2 f fd ["script", "first", "last"] m_l_digits := by
  refine fnG_of (k := 1) F sc_l_digits rfl rfl (by decide) fun cdv A outer s H E hr hgd => ?_
  have nd := sc_l_digits.nd
  have tk : Takes (cxOf (L2.CX P w) P w K mg base ["script", "first", "last", "found", "k", "c", "n", "turn", "s"] "_law_digits" (defScope s_l_digits) f cdv A outer s H E) (WXof E) := takes_of rfl rfl rfl rfl
  have po : PassesOwn (model (cxOf (L2.CX P w) P w K mg base ["script", "first", "last", "found", "k", "c", "n", "turn", "s"] "_law_digits" (defScope s_l_digits) f cdv A outer s H E).prog (cxOf (L2.CX P w) P w K mg base ["script", "first", "last", "found", "k", "c", "n", "turn", "s"] "_law_digits" (defScope s_l_digits) f cdv A outer s H E).w) (cxOf (L2.CX P w) P w K mg base ["script", "first", "last", "found", "k", "c", "n", "turn", "s"] "_law_digits" (defScope s_l_digits) f cdv A outer s H E).A (cxOf (L2.CX P w) P w K mg base ["script", "first", "last", "found", "k", "c", "n", "turn", "s"] "_law_digits" (defScope s_l_digits) f cdv A outer s H E).env (cxOf (L2.CX P w) P w K mg base ["script", "first", "last", "found", "k", "c", "n", "turn", "s"] "_law_digits" (defScope s_l_digits) f cdv A outer s H E).xe := passes_of rfl
  refine ess_cons ?_ (ess_cons ?_ (ess_one ?_))
  · exact (es_set nd rfl (by first | exact .inl rfl | exact .inr rfl) (ev_cel ea_nil))
  · exact (es_for po rfl (ei_rng2 (by rfl) t.z_range (ea_cons (vr 1) (ea_cons (vr 2) ea_nil))) (eg_name nd rfl (by first | exact .inl rfl | exact .inr rfl)) (ess_cons (es_set nd rfl (by first | exact .inl rfl | exact .inr rfl) (ev_cl c_l_cell hr (by decide) hgd tk (ea_cons (vr 0) (ea_cons (vr 4) ea_nil)))) (ess_cons (es_if (t_lt (vr 5) ev_int) (ess_one (es_set nd rfl (by first | exact .inl rfl | exact .inr rfl) (o_sub ev_int (o_mul (vr 5) ev_int)))) ess_nil) (ess_one (es_if (t_ge (vr 5) (o_pow ev_int ev_int)) (ess_cons (es_set nd rfl (by first | exact .inl rfl | exact .inr rfl) (vr 5)) (ess_one (es_for po rfl (ei_rng1 (by rfl) t.z_range (ea_cons ev_int ea_nil)) (eg_name nd rfl (by first | exact .inl rfl | exact .inr rfl)) (ess_one (es_if (t_gt (vr 6) ev_int) (ess_cons (es_expr (ev_app (vr 3) (o_mod (vr 6) ev_int))) (ess_one (es_set nd rfl (by first | exact .inl rfl | exact .inr rfl) (o_fdiv (vr 6) ev_int)))) ess_nil))))) (ess_cons (es_set nd rfl (by first | exact .inl rfl | exact .inr rfl) (o_mod (o_add (o_add (o_mul (vr 5) ev_int) (o_mul (b_int t.z_int (ea_cons (o_add (vr 4) ev_int) ea_nil)) ev_int)) ev_int) ev_int)) (ess_one (es_for po rfl (ei_rng1 (by rfl) t.z_range (ea_cons ev_int ea_nil)) (eg_name nd rfl (by first | exact .inl rfl | exact .inr rfl)) (ess_cons (es_set nd rfl (by first | exact .inl rfl | exact .inr rfl) (o_mod (o_add (o_add (o_mul (vr 8) ev_int) (o_mul (vr 7) ev_int)) ev_int) ev_int)) (ess_one (es_expr (ev_app (vr 3) (o_mod (o_fdiv (vr 8) ev_int) ev_int)))))))))))))
  · exact (es_ret (vr 3))
abbrev s_l_draw : Stmt := top 42
theorem sc_l_draw : FnScope ["box", "m", "digits", "at"] ["box", "m"] (defScope s_l_draw) := ⟨rfl, rfl, rfl, by decide +kernel, rfl, by decide +kernel, by decide +kernel⟩
theorem ok_l_draw {f : Addr} {fd : FuncData} (F : Fun K "_law_draw" "_law_draw" s_l_draw f fd) (t : Tx P K mg C fI a_UNIT)  : FnG P w K mg base 1 f fd ["box", "m"] m_l_draw := by
  refine fnG_of (k := 0) F sc_l_draw rfl rfl (by decide) fun cdv A outer s H E hr hgd => ?_
  have nd := sc_l_draw.nd
  have tk : Takes (cxOf (L2.CX P w) P w K mg base ["box", "m", "digits", "at"] "_law_draw" (defScope s_l_draw) f cdv A outer s H E) (WXof E) := takes_of rfl rfl rfl rfl
  have po : PassesOwn (model (cxOf (L2.CX P w) P w K mg base ["box", "m", "digits", "at"] "_law_draw" (defScope s_l_draw) f cdv A outer s H E).prog (cxOf (L2.CX P w) P w K mg base ["box", "m", "digits", "at"] "_law_draw" (defScope s_l_draw) f cdv A outer s H E).w) (cxOf (L2.CX P w) P w K mg base ["box", "m", "digits", "at"] "_law_draw" (defScope s_l_draw) f cdv A outer s H E).A (cxOf (L2.CX P w) P w K mg base ["box", "m", "digits", "at"] "_law_draw" (defScope s_l_draw) f cdv A outer s H E).env (cxOf (L2.CX P w) P w K mg base ["box", "m", "digits", "at"] "_law_draw" (defScope s_l_draw) f cdv A outer s H E).xe := passes_of rfl
  refine ess_cons ?_ (ess_cons ?_ (ess_cons ?_ (ess_one ?_)))
  · exact (es_asg (vr 0) (eg_tup rfl (egs_cons (eg_name nd rfl (by first | exact .inl rfl | exact .inr rfl)) (egs_cons (eg_name nd rfl (by first | exact .inl rfl | exact .inr rfl)) egs_nil))))
  · exact (es_asg (o_add (vr 3) ev_int) (eg_sub (vr 0) ev_int))
  · exact (es_if (t_lt (vr 3) (b_len t.z_len (ea_cons (vr 2) ea_nil))) (ess_one (es_ret (o_mod (ev_ix (vr 2) (vr 3)) (vr 1)))) ess_nil)
  · exact (es_ret (o_mod (o_add (o_add (o_add (o_mul (o_mul (vr 3) (vr 3)) ev_int) (o_mul (vr 3) ev_int)) (o_fdiv (vr 3) ev_int)) ev_int) (vr 1)))
abbrev s_l_pick : Stmt := top 43
theorem sc_l_pick : FnScope ["box", "rows"] ["box", "rows"] (defScope s_l_pick) := ⟨rfl, rfl, rfl, by decide +kernel, rfl, by decide +kernel, by decide +kernel⟩
theorem ok_l_pick {f : Addr} {fd : FuncData} (F : Fun K "_law_pick" "_law_pick" s_l_pick f fd) (t : Tx P K mg C fI a_UNIT) (c_l_draw : CalG P w K mg base 1 "_law_draw" m_l_draw) : FnG P w K mg base 2 f fd ["box", "rows"] m_l_pick := by
  refine fnG_of (k := 1) F sc_l_pick rfl rfl (by decide) fun cdv A outer s H E hr hgd => ?_
  have nd := sc_l_pick.nd
  have tk : Takes (cxOf (L2.CX P w) P w K mg base ["box", "rows"] "_law_pick" (defScope s_l_pick) f cdv A outer s H E) (WXof E) := takes_of rfl rfl rfl rfl
  have po : PassesOwn (model (cxOf (L2.CX P w) P w K mg base ["box", "rows"] "_law_pick" (defScope s_l_pick) f cdv A outer s H E).prog (cxOf (L2.CX P w) P w K mg base ["box", "rows"] "_law_pick" (defScope s_l_pick) f cdv A outer s H E).w) (cxOf (L2.CX P w) P w K mg base ["box", "rows"] "_law_pick" (defScope s_l_pick) f cdv A outer s H E).A (cxOf (L2.CX P w) P w K mg base ["box", "rows"] "_law_pick" (defScope s_l_pick) f cdv A outer s H E).env (cxOf (L2.CX P w) P w K mg base ["box", "rows"] "_law_pick" (defScope s_l_pick) f cdv A outer s H E).xe := passes_of rfl
  refine ess_one ?_
  · exact (es_ret (ev_ix (vr 1) (ev_cl c_l_draw hr (by decide) hgd tk (ea_cons (vr 0) (ea_cons (b_len t.z_len (ea_cons (vr 1) ea_nil)) ea_nil)))))
abbrev s_l_same : Stmt := top 44
theorem sc_l_same : FnScope ["one", "other"] ["one", "other"] (defScope s_l_same) := ⟨rfl, rfl, rfl, by decide +kernel, rfl, by decide +kernel, by decide +kernel⟩
theorem ok_l_same {f : Addr} {fd : FuncData} (F : Fun K "_law_same" "_law_same" s_l_same f fd) (t : Tx P K mg C fI a_UNIT)  : FnG P w K mg base 1 f fd ["one", "other"] m_l_same := by
  refine fnG_of (k := 0) F sc_l_same rfl rfl (by decide) fun cdv A outer s H E hr hgd => ?_
  have nd := sc_l_same.nd
  have tk : Takes (cxOf (L2.CX P w) P w K mg base ["one", "other"] "_law_same" (defScope s_l_same) f cdv A outer s H E) (WXof E) := takes_of rfl rfl rfl rfl
  have po : PassesOwn (model (cxOf (L2.CX P w) P w K mg base ["one", "other"] "_law_same" (defScope s_l_same) f cdv A outer s H E).prog (cxOf (L2.CX P w) P w K mg base ["one", "other"] "_law_same" (defScope s_l_same) f cdv A outer s H E).w) (cxOf (L2.CX P w) P w K mg base ["one", "other"] "_law_same" (defScope s_l_same) f cdv A outer s H E).A (cxOf (L2.CX P w) P w K mg base ["one", "other"] "_law_same" (defScope s_l_same) f cdv A outer s H E).env (cxOf (L2.CX P w) P w K mg base ["one", "other"] "_law_same" (defScope s_l_same) f cdv A outer s H E).xe := passes_of rfl
  refine ess_one ?_
  · exact (es_ret (q_eq hr (b_repr hr hgd t.z_repr (ea_cons (vr 0) ea_nil)) (b_repr hr hgd t.z_repr (ea_cons (vr 1) ea_nil))))
abbrev s_l_det : Stmt := top 45
theorem sc_l_det : FnScope ["table", "found", "k", "rest", "row"] ["table"] (defScope s_l_det) := ⟨rfl, rfl, rfl, by decide +kernel, rfl, by decide +kernel, by decide +kernel⟩
theorem ok_l_det {f : Addr} {fd : FuncData} (F : Fun K "_law_det" "_law_det" s_l_det f fd) (t : Tx P K mg C fI a_UNIT)  (hm : mg "_law_det" = some (.ref f)) (hk : PySem.W.keepIn K (.ref f) = true) (hb : Binds K fd ["table"] []) : ∀ n, FnG P w K mg base (0 + n + 1) f fd ["table"] (m_l_det n)
  | 0 => ⟨fun _ _ h => absurd rfl h, fun _ _ _ _ _ _ _ _ _ _ _ _ _ _ h => by obtain ⟨_, _, _, _, _, k⟩ := h; exact k.elim⟩
  | n + 1 => by
    have ih : CalG P w K mg base (0 + n + 1) "_law_det" (m_l_det n) := ⟨f, fd, ["table"], ok_l_det F t  hm hk hb n, hm, hk, hb⟩
    refine fnG_of (k := 0 + n + 1) F sc_l_det rfl rfl (by decide) fun cdv A outer s H E hr hgd => ?_
    have nd := sc_l_det.nd
    have tk : Takes (cxOf (L2.CX P w) P w K mg base ["table", "found", "k", "rest", "row"] "_law_det" (defScope s_l_det) f cdv A outer s H E) (WXof E) := takes_of rfl rfl rfl rfl
    have po : PassesOwn (model (cxOf (L2.CX P w) P w K mg base ["table", "found", "k", "rest", "row"] "_law_det" (defScope s_l_det) f cdv A outer s H E).prog (cxOf (L2.CX P w) P w K mg base ["table", "found", "k", "rest", "row"] "_law_det" (defScope s_l_det) f cdv A outer s H E).w) (cxOf (L2.CX P w) P w K mg base ["table", "found", "k", "rest", "row"] "_law_det" (defScope s_l_det) f cdv A outer s H E).A (cxOf (L2.CX P w) P w K mg base ["table", "found", "k", "rest", "row"] "_law_det" (defScope s_l_det) f cdv A outer s H E).env (cxOf (L2.CX P w) P w K mg base ["table", "found", "k", "rest", "row"] "_law_det" (defScope s_l_det) f cdv A outer s H E).xe := passes_of rfl
    refine ess_cons ?_ (ess_cons ?_ (ess_cons ?_ (ess_one ?_)))
    · exact (es_if (t_eq hr (b_len t.z_len (ea_cons (vr 0) ea_nil)) ev_int) (ess_one (es_ret ev_int)) ess_nil)
    · exact (es_set nd rfl (by first | exact .inl rfl | exact .inr rfl) ev_int)
    · exact (es_for po rfl (ei_rng1 (by rfl) t.z_range (ea_cons (b_len t.z_len (ea_cons (vr 0) ea_nil)) ea_nil)) (eg_name nd rfl (by first | exact .inl rfl | exact .inr rfl)) (ess_one (es_if (t_ne hr (ev_ix (ev_ix (vr 0) (vr 2)) ev_int) ev_int) (ess_cons (es_setLc (own := [("row", 4)]) rfl nd rfl rfl (by rfl) (ei_seq (o_add (ev_slice (vr 0) eo_none (eo_some (vr 2))) (ev_slice (vr 0) (eo_some (o_add (vr 2) ev_int)) eo_none))) (blkOk_by (by first | rfl | kernel_rfl)) (by decide) (fun _ _ _ _ _ => (eg_name nd rfl (by first | exact .inl rfl | exact .inr rfl))) (fun _ _ _ _ _ => ets_nil) (fun _ _ _ _ _ => (ev_slice (vr 4) (eo_some ev_int) eo_none))) (ess_one (es_set nd rfl (by first | exact .inl rfl | exact .inr rfl) (o_add (vr 1) (o_mul (o_mul (o_sub ev_int (o_mul ev_int (o_mod (vr 2) ev_int))) (ev_ix (ev_ix (vr 0) (vr 2)) ev_int)) (ev_cl ih hr (Nat.le_refl _) hgd tk (ea_cons (vr 3) ea_nil))))))) ess_nil)))
    · exact (es_ret (vr 1))
abbrev s_l_unit : Stmt := top 46
theorem sc_l_unit : FnScope ["many", "j", "k"] ["many"] (defScope s_l_unit) := ⟨rfl, rfl, rfl, by decide +kernel, rfl, by decide +kernel, by decide +kernel⟩
theorem ok_l_unit {f : Addr} {fd : FuncData} (F : Fun K "_law_unit" "_law_unit" s_l_unit f fd) (t : Tx P K mg C fI a_UNIT)  : FnG P w K mg base 1 f fd ["many"] m_l_unit := by
  refine fnG_of (k := 0) F sc_l_unit rfl rfl (by decide) fun cdv A outer s H E hr hgd => ?_
  have nd := sc_l_unit.nd
  have tk : Takes (cxOf (L2.CX P w) P w K mg base ["many", "j", "k"] "_law_unit" (defScope s_l_unit) f cdv A outer s H E) (WXof E) := takes_of rfl rfl rfl rfl
  have po : PassesOwn (model (cxOf (L2.CX P w) P w K mg base ["many", "j", "k"] "_law_unit" (defScope s_l_unit) f cdv A outer s H E).prog (cxOf (L2.CX P w) P w K mg base ["many", "j", "k"] "_law_unit" (defScope s_l_unit) f cdv A outer s H E).w) (cxOf (L2.CX P w) P w K mg base ["many", "j", "k"] "_law_unit" (defScope s_l_unit) f cdv A outer s H E).A (cxOf (L2.CX P w) P w K mg base ["many", "j", "k"] "_law_unit" (defScope s_l_unit) f cdv A outer s H E).env (cxOf (L2.CX P w) P w K mg base ["many", "j", "k"] "_law_unit" (defScope s_l_unit) f cdv A outer s H E).xe := passes_of rfl
  refine ess_one ?_
  · exact (es_ret (b_tuple t.z_tuple (ea_cons (ev_lc (own := [("j", 1)]) rfl nd (ei_rng1 (by rfl) t.z_range (ea_cons (vr 0) ea_nil)) (blkOk_by (by first | rfl | kernel_rfl)) (by decide) (fun _ _ _ _ _ => (eg_name nd rfl (by first | exact .inl rfl | exact .inr rfl))) (fun _ _ _ _ _ => ets_nil) (fun _ _ _ _ _ => (b_tuple t.z_tuple (ea_cons (ev_lc (own := [("k", 2)]) rfl nd (ei_rng1 (by rfl) t.z_range (ea_cons (vr 0) ea_nil)) (blkOk_by (by first | rfl | kernel_rfl)) (by decide) (fun _ _ _ _ _ => (eg_name nd rfl (by first | exact .inl rfl | exact .inr rfl))) (fun _ _ _ _ _ => ets_nil) (fun _ _ _ _ _ => (b_int t.z_int (ea_cons (q_eq hr (vr 1) (vr 2)) ea_nil)))) ea_nil)))) ea_nil)))
abbrev s_l_change : Stmt := top 47
theorem sc_l_change : FnScope ["box", "many", "steps", "rows", "turn", "one", "other", "kind", "factor", "row", "number", "k"] ["box", "many", "steps"] (defScope s_l_change) := ⟨rfl, rfl, rfl, by decide +kernel, rfl, by decide +kernel, by decide +kernel⟩
theorem ok_l_change {f : Addr} {fd : FuncData} (F : Fun K "_law_change" "_law_change" s_l_change f fd) (t : Tx P K mg C fI a_UNIT) (c_l_draw : CalG P w K mg base 1 "_law_draw" m_l_draw) (c_l_pick : CalG P w K mg base 2 "_law_pick" m_l_pick) (c_l_unit : CalG P w K mg base 1 "_law_unit" m_l_unit) : FnG P w K mg base 3 f fd ["box", "many", "steps"] m_l_change := by
  refine fnG_of (k := 2) F sc_l_change rfl rfl (by decide) fun cdv A outer s H E hr hgd => ?_
  have nd := sc_l_change.nd
  have tk : Takes (cxOf (L2.CX P w) P w K mg base ["box", "many", "steps", "rows", "turn", "one", "other", "kind", "factor", "row", "number", "k"] "_law_change" (defScope s_l_change) f cdv A outer s H E) (WXof E) := takes_of rfl rfl rfl rfl
  have po : PassesOwn (model (cxOf (L2.CX P w) P w K mg base ["box", "many", "steps", "rows", "turn", "one", "other", "kind", "factor", "row", "number", "k"] "_law_change" (defScope s_l_change) f cdv A outer s H E).prog (cxOf (L2.CX P w) P w K mg base ["box", "many", "steps", "rows", "turn", "one", "other", "kind", "factor", "row", "number", "k"] "_law_change" (defScope s_l_change) f cdv A outer s H E).w) (cxOf (L2.CX P w) P w K mg base ["box", "many", "steps", "rows", "turn", "one", "other", "kind", "factor", "row", "number", "k"] "_law_change" (defScope s_l_change) f cdv A outer s H E).A (cxOf (L2.CX P w) P w K mg base ["box", "many", "steps", "rows", "turn", "one", "other", "kind", "factor", "row", "number", "k"] "_law_change" (defScope s_l_change) f cdv A outer s H E).env (cxOf (L2.CX P w) P w K mg base ["box", "many", "steps", "rows", "turn", "one", "other", "kind", "factor", "row", "number", "k"] "_law_change" (defScope s_l_change) f cdv A outer s H E).xe := passes_of rfl
  refine ess_cons ?_ (ess_cons ?_ (ess_one ?_))
  · exact (es_set nd rfl (by first | exact .inl rfl | exact .inr rfl) (ev_lcC (own := [("row", 9)]) rfl nd (ei_seq (ev_cl c_l_unit hr (by decide) hgd tk (ea_cons (vr 1) ea_nil))) (blkOk_by (by first | rfl | kernel_rfl)) (by decide) (fun _ _ _ _ _ => (eg_name nd rfl (by first | exact .inl rfl | exact .inr rfl))) (fun _ _ _ _ _ => ets_nil) (fun _ _ _ _ _ => (b_list t.z_list (ea_cons (vr 9) ea_nil)))))
  · exact (es_for po rfl (ei_rng1 (by rfl) t.z_range (ea_cons (vr 2) ea_nil)) (eg_name nd rfl (by first | exact .inl rfl | exact .inr rfl)) (ess_cons (es_asg (ev_tup (ea_cons (ev_cl c_l_draw hr (by decide) hgd tk (ea_cons (vr 0) (ea_cons (vr 1) ea_nil))) (ea_cons (ev_cl c_l_draw hr (by decide) hgd tk (ea_cons (vr 0) (ea_cons (vr 1) ea_nil))) ea_nil))) (eg_tup rfl (egs_cons (eg_name nd rfl (by first | exact .inl rfl | exact .inr rfl)) (egs_cons (eg_name nd rfl (by first | exact .inl rfl | exact .inr rfl)) egs_nil)))) (ess_cons (es_set nd rfl (by first | exact .inl rfl | exact .inr rfl) (ev_cl c_l_draw hr (by decide) hgd tk (ea_cons (vr 0) (ea_cons ev_int ea_nil)))) (ess_one (es_if (t_eq hr (vr 5) (vr 6)) (ess_one (es_asg (ev_lc (own := [("number", 10)]) rfl nd (ei_seq (ev_ix (vr 3) (vr 5))) (blkOk_by (by first | rfl | kernel_rfl)) (by decide) (fun _ _ _ _ _ => (eg_name nd rfl (by first | exact .inl rfl | exact .inr rfl))) (fun _ _ _ _ _ => ets_nil) (fun _ _ _ _ _ => (o_sub ev_int (vr 10)))) (eg_sub (vr 3) (vr 5)))) (ess_one (es_if (t_eq hr (vr 7) ev_int) (ess_one (es_asg (ev_tup (ea_cons (ev_ix (vr 3) (vr 6)) (ea_cons (ev_ix (vr 3) (vr 5)) ea_nil))) (eg_tup rfl (egs_cons (eg_sub (vr 3) (vr 5)) (egs_cons (eg_sub (vr 3) (vr 6)) egs_nil))))) (ess_cons (es_set nd rfl (by first | exact .inl rfl | exact .inr rfl) (ev_cl c_l_pick hr (by decide) hgd tk (ea_cons (vr 0) (ea_cons (ev_lst (ea_cons ev_int (ea_cons (o_neg ev_int) (ea_cons ev_int (ea_cons (o_neg ev_int) (ea_cons ev_int ea_nil)))))) ea_nil)))) (ess_one (es_asg (ev_lc (own := [("k", 11)]) rfl nd (ei_rng1 (by rfl) t.z_range (ea_cons (vr 1) ea_nil)) (blkOk_by (by first | rfl | kernel_rfl)) (by decide) (fun _ _ _ _ _ => (eg_name nd rfl (by first | exact .inl rfl | exact .inr rfl))) (fun _ _ _ _ _ => ets_nil) (fun _ _ _ _ _ => (o_add (ev_ix (ev_ix (vr 3) (vr 5)) (vr 11)) (o_mul (vr 8) (ev_ix (ev_ix (vr 3) (vr 6)) (vr 11)))))) (eg_sub (vr 3) (vr 5))))))))))))
  · exact (es_ret (b_tuple t.z_tuple (ea_cons (ev_lcP mkI_ok (own := [("row", 9)]) rfl nd (ei_cel (vr 3)) (blkOk_by (by first | rfl | kernel_rfl)) (by decide) (fun _ _ _ _ _ => (eg_name nd rfl (by first | exact .inl rfl | exact .inr rfl))) (fun _ _ _ _ _ => ets_nil) (fun _ _ _ _ _ => (b_tuple t.z_tuple (ea_cons (vr 9) ea_nil)))) ea_nil)))
abbrev s_l_quartic : Stmt := top 48
theorem sc_l_quartic : FnScope ["one", "other", "found", "a", "b"] ["one", "other"] (defScope s_l_quartic) := ⟨rfl, rfl, rfl, by decide +kernel, rfl, by decide +kernel, by decide +kernel⟩
theorem ok_l_quartic {f : Addr} {fd : FuncData} (F : Fun K "_law_quartic" "_law_quartic" s_l_quartic f fd) (t : Tx P K mg C fI a_UNIT)  : FnG P w K mg base 1 f fd ["one", "other"] m_l_quartic := by
  refine fnG_of (k := 0) F sc_l_quartic rfl rfl (by decide) fun cdv A outer s H E hr hgd => ?_
  have nd := sc_l_quartic.nd
  have tk : Takes (cxOf (L2.CX P w) P w K mg base ["one", "other", "found", "a", "b"] "_law_quartic" (defScope s_l_quartic) f cdv A outer s H E) (WXof E) := takes_of rfl rfl rfl rfl
  have po : PassesOwn (model (cxOf (L2.CX P w) P w K mg base ["one", "other", "found", "a", "b"] "_law_quartic" (defScope s_l_quartic) f cdv A outer s H E).prog (cxOf (L2.CX P w) P w K mg base ["one", "other", "found", "a", "b"] "_law_quartic" (defScope s_l_quartic) f cdv A outer s H E).w) (cxOf (L2.CX P w) P w K mg base ["one", "other", "found", "a", "b"] "_law_quartic" (defScope s_l_quartic) f cdv A outer s H E).A (cxOf (L2.CX P w) P w K mg base ["one", "other", "found", "a", "b"] "_law_quartic" (defScope s_l_quartic) f cdv A outer s H E).env (cxOf (L2.CX P w) P w K mg base ["one", "other", "found", "a", "b"] "_law_quartic" (defScope s_l_quartic) f cdv A outer s H E).xe := passes_of rfl
  refine ess_cons ?_ (ess_cons ?_ (ess_one ?_))
  · exact (es_set nd rfl (by first | exact .inl rfl | exact .inr rfl) (ev_lst ea_nil))
  · exact (es_for po rfl (ei_seq (vr 0)) (eg_name nd rfl (by first | exact .inl rfl | exact .inr rfl)) (ess_one (es_set nd rfl (by first | exact .inl rfl | exact .inr rfl) (o_add (vr 2) (ev_lc (own := [("b", 4)]) rfl nd (ei_seq (vr 1)) (blkOk_by (by first | rfl | kernel_rfl)) (by decide) (fun _ _ _ _ _ => (eg_name nd rfl (by first | exact .inl rfl | exact .inr rfl))) (fun _ _ _ _ _ => ets_nil) (fun _ _ _ _ _ => (o_mul (vr 3) (vr 4))))))))
  · exact (es_ret (vr 2))
abbrev s_l_put_in : Stmt := top 49
theorem sc_l_put_in : FnScope ["form", "rows", "a", "b", "c", "pairs", "j", "k", "value", "key", "found", "left", "right"] ["form", "rows"] (defScope s_l_put_in) := ⟨rfl, rfl, rfl, by decide +kernel, rfl, by decide +kernel, by decide +kernel⟩
theorem ok_l_put_in {f : Addr} {fd : FuncData} (F : Fun K "_law_put_in" "_law_put_in" s_l_put_in f fd) (t : Tx P K mg C fI a_UNIT)  : FnG P w K mg base 1 f fd ["form", "rows"] m_l_put_in := by
  refine fnG_of (k := 0) F sc_l_put_in rfl rfl (by decide) fun cdv A outer s H E hr hgd => ?_
  have nd := sc_l_put_in.nd
  have tk : Takes (cxOf (L2.CX P w) P w K mg base ["form", "rows", "a", "b", "c", "pairs", "j", "k", "value", "key", "found", "left", "right"] "_law_put_in" (defScope s_l_put_in) f cdv A outer s H E) (WXof E) := takes_of rfl rfl rfl rfl
  have po : PassesOwn (model (cxOf (L2.CX P w) P w K mg base ["form", "rows", "a", "b", "c", "pairs", "j", "k", "value", "key", "found", "left", "right"] "_law_put_in" (defScope s_l_put_in) f cdv A outer s H E).prog (cxOf (L2.CX P w) P w K mg base ["form", "rows", "a", "b", "c", "pairs", "j", "k", "value", "key", "found", "left", "right"] "_law_put_in" (defScope s_l_put_in) f cdv A outer s H E).w) (cxOf (L2.CX P w) P w K mg base ["form", "rows", "a", "b", "c", "pairs", "j", "k", "value", "key", "found", "left", "right"] "_law_put_in" (defScope s_l_put_in) f cdv A outer s H E).A (cxOf (L2.CX P w) P w K mg base ["form", "rows", "a", "b", "c", "pairs", "j", "k", "value", "key", "found", "left", "right"] "_law_put_in" (defScope s_l_put_in) f cdv A outer s H E).env (cxOf (L2.CX P w) P w K mg base ["form", "rows", "a", "b", "c", "pairs", "j", "k", "value", "key", "found", "left", "right"] "_law_put_in" (defScope s_l_put_in) f cdv A outer s H E).xe := passes_of rfl
  refine ess_cons ?_ (ess_cons ?_ (ess_cons ?_ (ess_cons ?_ (ess_cons ?_ (ess_one ?_)))))
  · exact (es_asg (vr 0) (eg_tup rfl (egs_cons (eg_name nd rfl (by first | exact .inl rfl | exact .inr rfl)) (egs_cons (eg_name nd rfl (by first | exact .inl rfl | exact .inr rfl)) (egs_cons (eg_name nd rfl (by first | exact .inl rfl | exact .inr rfl)) egs_nil)))))
  · exact (es_set nd rfl (by first | exact .inl rfl | exact .inr rfl) ev_dic0)
  · exact (es_for po rfl (ei_rng1 (by rfl) t.z_range (ea_cons ev_int ea_nil)) (eg_name nd rfl (by first | exact .inl rfl | exact .inr rfl)) (ess_one (es_for po rfl (ei_rng1 (by rfl) t.z_range (ea_cons ev_int ea_nil)) (eg_name nd rfl (by first | exact .inl rfl | exact .inr rfl)) (ess_cons (es_set nd rfl (by first | exact .inl rfl | exact .inr rfl) (o_add (o_add (o_mul (o_mul (vr 2) (ev_ix (ev_ix (vr 1) ev_int) (vr 6))) (ev_ix (ev_ix (vr 1) ev_int) (vr 7))) (o_mul (o_mul (vr 3) (ev_ix (ev_ix (vr 1) ev_int) (vr 6))) (ev_ix (ev_ix (vr 1) ev_int) (vr 7)))) (o_mul (o_mul (vr 4) (ev_ix (ev_ix (vr 1) ev_int) (vr 6))) (ev_ix (ev_ix (vr 1) ev_int) (vr 7))))) (ess_cons (es_set nd rfl (by first | exact .inl rfl | exact .inr rfl) (ev_tup (ea_cons (o_add (o_fdiv (vr 6) ev_int) (o_fdiv (vr 7) ev_int)) (ea_cons (o_add (o_mod (vr 6) ev_int) (o_mod (vr 7) ev_int)) ea_nil)))) (ess_one (d_pt hr (vr 5) (vr 9) (o_add (d_gt hr (vr 5) (vr 9) ev_int) (vr 8)))))))))
  · exact (es_set nd rfl (by first | exact .inl rfl | exact .inr rfl) (ev_lst ea_nil))
  · exact (es_for po rfl (ei_rng1 (by rfl) t.z_range (ea_cons ev_int ea_nil)) (eg_name nd rfl (by first | exact .inl rfl | exact .inr rfl)) (ess_one (es_set nd rfl (by first | exact .inl rfl | exact .inr rfl) (o_add (vr 10) (ev_lc (own := [("right", 12)]) rfl nd (ei_rng1 (by rfl) t.z_range (ea_cons ev_int ea_nil)) (blkOk_by (by first | rfl | kernel_rfl)) (by decide) (fun _ _ _ _ _ => (eg_name nd rfl (by first | exact .inl rfl | exact .inr rfl))) (fun _ _ _ _ _ => ets_nil) (fun _ _ _ _ _ => (d_ix hr (vr 5) (ev_tup (ea_cons (vr 11) (ea_cons (vr 12) ea_nil))))))))))
  · exact (es_ret (vr 10))
abbrev s_l_shows : Stmt := top 50
theorem sc_l_shows : FnScope ["one", "other", "form", "paper", "big", "small", "row", "number"] ["one", "other", "form", "paper"] (defScope s_l_shows) := ⟨rfl, rfl, rfl, by decide +kernel, rfl, by decide +kernel, by decide +kernel⟩
theorem ok_l_shows {f : Addr} {fd : FuncData} (F : Fun K "_law_shows" "_law_shows" s_l_shows f fd) (t : Tx P K mg C fI a_UNIT) (c_l_quartic : CalG P w K mg base 1 "_law_quartic" m_l_quartic) (c_l_put_in : CalG P w K mg base 1 "_law_put_in" m_l_put_in) : FnG P w K mg base 2 f fd ["one", "other", "form", "paper"] m_l_shows := by
  refine fnG_of (k := 1) F sc_l_shows rfl rfl (by decide) fun cdv A outer s H E hr hgd => ?_
  have nd := sc_l_shows.nd
  have tk : Takes (cxOf (L2.CX P w) P w K mg base ["one", "other", "form", "paper", "big", "small", "row", "number"] "_law_shows" (defScope s_l_shows) f cdv A outer s H E) (WXof E) := takes_of rfl rfl rfl rfl
  have po : PassesOwn (model (cxOf (L2.CX P w) P w K mg base ["one", "other", "form", "paper", "big", "small", "row", "number"] "_law_shows" (defScope s_l_shows) f cdv A outer s H E).prog (cxOf (L2.CX P w) P w K mg base ["one", "other", "form", "paper", "big", "small", "row", "number"] "_law_shows" (defScope s_l_shows) f cdv A outer s H E).w) (cxOf (L2.CX P w) P w K mg base ["one", "other", "form", "paper", "big", "small", "row", "number"] "_law_shows" (defScope s_l_shows) f cdv A outer s H E).A (cxOf (L2.CX P w) P w K mg base ["one", "other", "form", "paper", "big", "small", "row", "number"] "_law_shows" (defScope s_l_shows) f cdv A outer s H E).env (cxOf (L2.CX P w) P w K mg base ["one", "other", "form", "paper", "big", "small", "row", "number"] "_law_shows" (defScope s_l_shows) f cdv A outer s H E).xe := passes_of rfl
  refine ess_cons ?_ (ess_cons ?_ (ess_cons ?_ (ess_cons ?_ (ess_one ?_))))
  · exact (es_if (et_W (ew_or (et_not (et_tru (b_isinstance t.z_isinstance (ea_cons (vr 3) (ea_cons (ty_tuple t.z_tuple) ea_nil))))) (ew_or (t_ne hr (b_len t.z_len (ea_cons (vr 3) ea_nil)) ev_int) (ew_or1 (t_ne hr (ev_lc (own := [("row", 6)]) rfl nd (ei_seq (vr 3)) (blkOk_by (by first | rfl | kernel_rfl)) (by decide) (fun _ _ _ _ _ => (eg_name nd rfl (by first | exact .inl rfl | exact .inr rfl))) (fun _ _ _ _ _ => (ets_one (et_W (ew_or (et_not (et_tru (b_isinstance t.z_isinstance (ea_cons (vr 6) (ea_cons (ty_tuple t.z_tuple) ea_nil))))) (ew_or1 (t_ne hr (b_len t.z_len (ea_cons (vr 6) ea_nil)) ev_int)))))) (fun _ _ _ _ _ => (vr 6))) (ev_lst ea_nil)))))) (ess_one (es_ret ev_bl)) ess_nil)
  · exact (es_if (t_ne hr (ev_lc (own := [("number", 7)]) rfl nd (ei_seq (o_add (ev_ix (vr 3) ev_int) (ev_ix (vr 3) ev_int))) (blkOk_by (by first | rfl | kernel_rfl)) (by decide) (fun _ _ _ _ _ => (eg_name nd rfl (by first | exact .inl rfl | exact .inr rfl))) (fun _ _ _ _ _ => (ets_one (et_W (ew_or (et_not (et_tru (b_isinstance t.z_isinstance (ea_cons (vr 7) (ea_cons (ty_int t.z_int) ea_nil))))) (ew_or1 (et_tru (b_isinstance t.z_isinstance (ea_cons (vr 7) (ea_cons (ty_bool t.z_bool) ea_nil))))))))) (fun _ _ _ _ _ => (vr 7))) (ev_lst ea_nil)) (ess_one (es_ret ev_bl)) ess_nil)
  · exact (es_asg (vr 3) (eg_tup rfl (egs_cons (eg_name nd rfl (by first | exact .inl rfl | exact .inr rfl)) (egs_cons (eg_name nd rfl (by first | exact .inl rfl | exact .inr rfl)) egs_nil))))
  · exact (es_if (et_W (ew_or (t_ne hr (o_sub (o_mul (ev_ix (vr 4) ev_int) (ev_ix (vr 5) ev_int)) (o_mul (ev_ix (vr 5) ev_int) (ev_ix (vr 4) ev_int))) (ev_ix (vr 0) ev_int)) (ew_or1 (t_ne hr (o_sub (o_mul (ev_ix (vr 4) ev_int) (ev_ix (vr 5) ev_int)) (o_mul (ev_ix (vr 5) ev_int) (ev_ix (vr 4) ev_int))) (ev_ix (vr 1) ev_int))))) (ess_one (es_ret ev_bl)) ess_nil)
  · exact (es_ret (q_eq hr (ev_cl c_l_put_in hr (by decide) hgd tk (ea_cons (vr 2) (ea_cons (vr 3) ea_nil))) (ev_cl c_l_quartic hr (by decide) hgd tk (ea_cons (vr 0) (ea_cons (vr 1) ea_nil)))))
abbrev s_l_two_change : Stmt := top 51
theorem sc_l_two_change : FnScope ["box", "rows"] ["box"] (defScope s_l_two_change) := ⟨rfl, rfl, rfl, by decide +kernel, rfl, by decide +kernel, by decide +kernel⟩
theorem ok_l_two_change {f : Addr} {fd : FuncData} (F : Fun K "_law_two_change" "_law_two_change" s_l_two_change f fd) (t : Tx P K mg C fI a_UNIT) (c_l_det : CalG P w K mg base 4 "_law_det" (m_l_det 3)) (c_l_change : CalG P w K mg base 3 "_law_change" m_l_change) : FnG P w K mg base 5 f fd ["box"] m_l_two_change := by
  refine fnG_of (k := 4) F sc_l_two_change rfl rfl (by decide) fun cdv A outer s H E hr hgd => ?_
  have nd := sc_l_two_change.nd
  have tk : Takes (cxOf (L2.CX P w) P w K mg base ["box", "rows"] "_law_two_change" (defScope s_l_two_change) f cdv A outer s H E) (WXof E) := takes_of rfl rfl rfl rfl
  have po : PassesOwn (model (cxOf (L2.CX P w) P w K mg base ["box", "rows"] "_law_two_change" (defScope s_l_two_change) f cdv A outer s H E).prog (cxOf (L2.CX P w) P w K mg base ["box", "rows"] "_law_two_change" (defScope s_l_two_change) f cdv A outer s H E).w) (cxOf (L2.CX P w) P w K mg base ["box", "rows"] "_law_two_change" (defScope s_l_two_change) f cdv A outer s H E).A (cxOf (L2.CX P w) P w K mg base ["box", "rows"] "_law_two_change" (defScope s_l_two_change) f cdv A outer s H E).env (cxOf (L2.CX P w) P w K mg base ["box", "rows"] "_law_two_change" (defScope s_l_two_change) f cdv A outer s H E).xe := passes_of rfl
  refine ess_cons ?_ (ess_cons ?_ (ess_one ?_))
  · exact (es_set nd rfl (by first | exact .inl rfl | exact .inr rfl) (ev_cl c_l_change hr (by decide) hgd tk (ea_cons (vr 0) (ea_cons ev_int (ea_cons ev_int ea_nil)))))
  · exact (es_if (t_eq hr (ev_cl c_l_det hr (by decide) hgd tk (ea_cons (vr 1) ea_nil)) (o_neg ev_int)) (ess_one (es_set nd rfl (by first | exact .inl rfl | exact .inr rfl) (ev_tup (ea_cons (ev_ix (vr 1) ev_int) (ea_cons (ev_ix (vr 1) ev_int) ea_nil))))) ess_nil)
  · exact (es_ret (vr 1))
abbrev s_l_law : Stmt := top 52
theorem sc_l_law : FnScope ["script", "box", "number", "classes", "one", "other", "form", "paper", "back", "unit", "third", "power", "found", "turn", "order", "at", "k", "spoilt", "tries", "foreign", "e", "row", "n", "some"] ["script"] (defScope s_l_law) := ⟨rfl, rfl, rfl, by decide +kernel, rfl, by decide +kernel, by decide +kernel⟩
theorem ok_l_law {f : Addr} {fd : FuncData} (F : Fun K "law" "law" s_l_law f fd) (t : Tx P K mg C fI a_UNIT) (c_two_changed : CalG P w K mg base 2 "two_changed" m_two_changed) (c_is_two_reduced : CalG P w K mg base 1 "is_two_reduced" m_is_two_reduced) (c_two_reduced : CalG P w K mg base 5 "two_reduced" m_two_reduced) (c_two_classes : CalG P w K mg base 3 "two_classes" m_two_classes) (c_unit_two : CalG P w K mg base 2 "unit_two" m_unit_two) (c_opposite_two : CalG P w K mg base 6 "opposite_two" m_opposite_two) (c_put_together : CalG P w K mg base 6 "put_together" m_put_together) (c_shows_together : CalG P w K mg base 3 "shows_together" m_shows_together) (c_class_power : CalG P w K mg base 7 "class_power" m_class_power) (c_class_order : CalG P w K mg base 7 "class_order" m_class_order) (c_l_digits : CalG P w K mg base 2 "_law_digits" m_l_digits) (c_l_draw : CalG P w K mg base 1 "_law_draw" m_l_draw) (c_l_pick : CalG P w K mg base 2 "_law_pick" m_l_pick) (c_l_same : CalG P w K mg base 1 "_law_same" m_l_same) (c_l_shows : CalG P w K mg base 2 "_law_shows" m_l_shows) (c_l_two_change : CalG P w K mg base 5 "_law_two_change" m_l_two_change) : FnG P w K mg base 8 f fd ["script"] m_l_law := by
  refine fnG_of (k := 7) F sc_l_law rfl rfl (by decide) fun cdv A outer s H E hr hgd => ?_
  have nd := sc_l_law.nd
  have tk : Takes (cxOf (L2.CX P w) P w K mg base ["script", "box", "number", "classes", "one", "other", "form", "paper", "back", "unit", "third", "power", "found", "turn", "order", "at", "k", "spoilt", "tries", "foreign", "e", "row", "n", "some"] "law" (defScope s_l_law) f cdv A outer s H E) (WXof E) := takes_of rfl rfl rfl rfl
  have po : PassesOwn (model (cxOf (L2.CX P w) P w K mg base ["script", "box", "number", "classes", "one", "other", "form", "paper", "back", "unit", "third", "power", "found", "turn", "order", "at", "k", "spoilt", "tries", "foreign", "e", "row", "n", "some"] "law" (defScope s_l_law) f cdv A outer s H E).prog (cxOf (L2.CX P w) P w K mg base ["script", "box", "number", "classes", "one", "other", "form", "paper", "back", "unit", "third", "power", "found", "turn", "order", "at", "k", "spoilt", "tries", "foreign", "e", "row", "n", "some"] "law" (defScope s_l_law) f cdv A outer s H E).w) (cxOf (L2.CX P w) P w K mg base ["script", "box", "number", "classes", "one", "other", "form", "paper", "back", "unit", "third", "power", "found", "turn", "order", "at", "k", "spoilt", "tries", "foreign", "e", "row", "n", "some"] "law" (defScope s_l_law) f cdv A outer s H E).A (cxOf (L2.CX P w) P w K mg base ["script", "box", "number", "classes", "one", "other", "form", "paper", "back", "unit", "third", "power", "found", "turn", "order", "at", "k", "spoilt", "tries", "foreign", "e", "row", "n", "some"] "law" (defScope s_l_law) f cdv A outer s H E).env (cxOf (L2.CX P w) P w K mg base ["script", "box", "number", "classes", "one", "other", "form", "paper", "back", "unit", "third", "power", "found", "turn", "order", "at", "k", "spoilt", "tries", "foreign", "e", "row", "n", "some"] "law" (defScope s_l_law) f cdv A outer s H E).xe := passes_of rfl
  refine ess_cons ?_ (ess_cons ?_ (ess_cons ?_ (ess_cons ?_ (ess_cons ?_ (ess_cons ?_ (ess_cons ?_ (ess_cons ?_ (ess_cons ?_ (ess_cons ?_ (ess_cons ?_ (ess_cons ?_ (ess_cons ?_ (ess_cons ?_ (ess_cons ?_ (ess_cons ?_ (ess_cons ?_ (ess_cons ?_ (ess_cons ?_ (ess_cons ?_ (ess_cons ?_ (ess_cons ?_ (ess_cons ?_ (ess_cons ?_ (ess_one ?_))))))))))))))))))))))))
  · exact (es_set nd rfl (by first | exact .inl rfl | exact .inr rfl) (ev_cel (ea_cons (ev_cl c_l_digits hr (by decide) hgd tk (ea_cons (vr 0) (ea_cons ev_int (ea_cons ev_int ea_nil)))) (ea_cons ev_int ea_nil))))
  · exact (es_set nd rfl (by first | exact .inl rfl | exact .inr rfl) (o_sub ev_int (o_sub (o_mul ev_int (o_add ev_int (ev_cl c_l_draw hr (by decide) hgd tk (ea_cons (vr 1) (ea_cons ev_int ea_nil))))) (ev_cl c_l_pick hr (by decide) hgd tk (ea_cons (vr 1) (ea_cons (ev_lst (ea_cons ev_int (ea_cons ev_int ea_nil))) ea_nil))))))
  · exact (es_set nd rfl (by first | exact .inl rfl | exact .inr rfl) (ev_cl c_two_classes hr (by decide) hgd tk (ea_cons (vr 2) ea_nil)))
  · exact (es_set nd rfl (by first | exact .inl rfl | exact .inr rfl) (ev_cl c_two_changed hr (by decide) hgd tk (ea_cons (ev_cl c_l_pick hr (by decide) hgd tk (ea_cons (vr 1) (ea_cons (vr 3) ea_nil))) (ea_cons (ev_cl c_l_two_change hr (by decide) hgd tk (ea_cons (vr 1) ea_nil)) ea_nil))))
  · exact (es_set nd rfl (by first | exact .inl rfl | exact .inr rfl) (ev_cl c_two_changed hr (by decide) hgd tk (ea_cons (ev_cl c_l_pick hr (by decide) hgd tk (ea_cons (vr 1) (ea_cons (vr 3) ea_nil))) (ea_cons (ev_cl c_l_two_change hr (by decide) hgd tk (ea_cons (vr 1) ea_nil)) ea_nil))))
  · exact (es_asg (ev_cl c_put_together hr (by decide) hgd tk (ea_cons (vr 4) (ea_cons (vr 5) ea_nil))) (eg_tup rfl (egs_cons (eg_name nd rfl (by first | exact .inl rfl | exact .inr rfl)) (egs_cons (eg_name nd rfl (by first | exact .inl rfl | exact .inr rfl)) egs_nil))))
  · exact (es_if (et_W (ew_or (t_notin hr (vr 6) (vr 3)) (ew_or (t_notB (ev_cl c_is_two_reduced hr (by decide) hgd tk (ea_cons (vr 6) ea_nil)) ev_bl) (ew_or (et_not (et_tru (ev_cl c_l_shows hr (by decide) hgd tk (ea_cons (vr 4) (ea_cons (vr 5) (ea_cons (vr 6) (ea_cons (vr 7) ea_nil))))))) (ew_or1 (t_notB (ev_cl c_shows_together hr (by decide) hgd tk (ea_cons (vr 4) (ea_cons (vr 5) (ea_cons (vr 6) (ea_cons (vr 7) ea_nil))))) ev_bl)))))) (ess_one (es_ret ev_bl)) ess_nil)
  · exact (es_set nd rfl (by first | exact .inl rfl | exact .inr rfl) (ev_ix (ev_cl c_put_together hr (by decide) hgd tk (ea_cons (vr 5) (ea_cons (vr 4) ea_nil))) ev_int))
  · exact (es_set nd rfl (by first | exact .inl rfl | exact .inr rfl) (ev_cl c_unit_two hr (by decide) hgd tk (ea_cons (vr 2) ea_nil)))
  · exact (es_if (et_W (ew_or (t_ne hr (vr 8) (vr 6)) (ew_or (t_ne hr (ev_ix (ev_cl c_put_together hr (by decide) hgd tk (ea_cons (vr 9) (ea_cons (vr 4) ea_nil))) ev_int) (ev_ix (ev_cl c_two_reduced hr (by decide) hgd tk (ea_cons (vr 4) ea_nil)) ev_int)) (ew_or1 (t_ne hr (ev_ix (ev_cl c_put_together hr (by decide) hgd tk (ea_cons (vr 4) (ea_cons (ev_cl c_opposite_two hr (by decide) hgd tk (ea_cons (vr 4) ea_nil)) ea_nil))) ev_int) (vr 9)))))) (ess_one (es_ret ev_bl)) ess_nil)
  · exact (es_set nd rfl (by first | exact .inl rfl | exact .inr rfl) (ev_cl c_l_pick hr (by decide) hgd tk (ea_cons (vr 1) (ea_cons (vr 3) ea_nil))))
  · exact (es_if (t_ne hr (ev_ix (ev_cl c_put_together hr (by decide) hgd tk (ea_cons (vr 6) (ea_cons (vr 10) ea_nil))) ev_int) (ev_ix (ev_cl c_put_together hr (by decide) hgd tk (ea_cons (vr 4) (ea_cons (ev_ix (ev_cl c_put_together hr (by decide) hgd tk (ea_cons (vr 5) (ea_cons (vr 10) ea_nil))) ev_int) ea_nil))) ev_int)) (ess_one (es_ret ev_bl)) ess_nil)
  · exact (es_set nd rfl (by first | exact .inl rfl | exact .inr rfl) (ev_cl c_l_draw hr (by decide) hgd tk (ea_cons (vr 1) (ea_cons ev_int ea_nil))))
  · exact (es_set nd rfl (by first | exact .inl rfl | exact .inr rfl) (vr 9))
  · exact (es_for po rfl (ei_rng1 (by rfl) t.z_range (ea_cons (vr 11) ea_nil)) (eg_name nd rfl (by first | exact .inl rfl | exact .inr rfl)) (ess_one (es_set nd rfl (by first | exact .inl rfl | exact .inr rfl) (ev_ix (ev_cl c_put_together hr (by decide) hgd tk (ea_cons (vr 12) (ea_cons (vr 4) ea_nil))) ev_int))))
  · exact (es_if (t_ne hr (ev_cl c_class_power hr (by decide) hgd tk (ea_cons (vr 4) (ea_cons (vr 11) ea_nil))) (vr 12)) (ess_one (es_ret ev_bl)) ess_nil)
  · exact (es_set nd rfl (by first | exact .inl rfl | exact .inr rfl) (ev_cl c_class_order hr (by decide) hgd tk (ea_cons (vr 4) ea_nil)))
  · exact (es_if (et_W (ew_or (t_lt (vr 14) ev_int) (ew_or (t_ne hr (o_mod (b_len t.z_len (ea_cons (vr 3) ea_nil)) (vr 14)) ev_int) (ew_or (t_ne hr (ev_cl c_class_power hr (by decide) hgd tk (ea_cons (vr 4) (ea_cons (vr 14) ea_nil))) (vr 9)) (ew_or1 (et_W (ew_and (t_ne hr (ev_slice (ev_lc (own := [("k", 16)]) rfl nd (ei_rng2 (by rfl) t.z_range (ea_cons ev_int (ea_cons (vr 14) ea_nil))) (blkOk_by (by first | rfl | kernel_rfl)) (by decide) (fun _ _ _ _ _ => (eg_name nd rfl (by first | exact .inl rfl | exact .inr rfl))) (fun _ _ _ _ _ => (ets_one (t_eq hr (ev_cl c_class_power hr (by decide) hgd takes0 (ea_cons (vr 4) (ea_cons (vr 16) ea_nil))) (vr 9)))) (fun _ _ _ _ _ => (vr 16))) eo_none (eo_some ev_int)) (ev_lst ea_nil)) (ew_and1 (t_gt (vr 14) ev_int))))))))) (ess_one (es_ret ev_bl)) ess_nil)
  · exact (es_par rfl nd rfl rfl (by decide) rfl rfl (ea_cons (ev_cl c_l_draw hr (by decide) hgd tk (ea_cons (vr 1) (ea_cons ev_int ea_nil))) (ea_cons (ev_cl c_l_draw hr (by decide) hgd tk (ea_cons (vr 1) (ea_cons ev_int ea_nil))) ea_nil)) (by rfl))
  · exact (es_set nd rfl (by first | exact .inl rfl | exact .inr rfl) (o_add (o_add (ev_slice (vr 7) eo_none (eo_some (vr 15))) (ev_tup (ea_cons (o_add (o_add (ev_slice (ev_ix (vr 7) (vr 15)) eo_none (eo_some (vr 16))) (ev_tup (ea_cons (o_add (ev_ix (ev_ix (vr 7) (vr 15)) (vr 16)) (ev_cl c_l_pick hr (by decide) hgd tk (ea_cons (vr 1) (ea_cons (ev_lst (ea_cons (o_neg ev_int) (ea_cons ev_int ea_nil))) ea_nil)))) ea_nil))) (ev_slice (ev_ix (vr 7) (vr 15)) (eo_some (o_add (vr 16) ev_int)) eo_none)) ea_nil))) (ev_slice (vr 7) (eo_some (o_add (vr 15) ev_int)) eo_none)))
  · exact (es_set nd rfl (by first | exact .inl rfl | exact .inr rfl) (ev_lst (ea_cons (vr 17) (ea_cons (ev_tup (ea_cons (ev_ix (vr 7) ev_int) (ea_cons (ev_ix (vr 7) ev_int) ea_nil))) (ea_cons (ev_tup (ea_cons (ev_ix (vr 7) ev_int) ea_nil)) (ea_cons ev_non (ea_cons (ev_tup (ea_cons (ev_ix (vr 7) ev_int) (ea_cons (ev_tup (ea_cons ev_int (ea_cons ev_int (ea_cons ev_int ea_nil)))) ea_nil))) (ea_cons (b_tuple t.z_tuple (ea_cons (ev_lc (own := [("row", 21)]) rfl nd (ei_seq (vr 7)) (blkOk_by (by first | rfl | kernel_rfl)) (by decide) (fun _ _ _ _ _ => (eg_name nd rfl (by first | exact .inl rfl | exact .inr rfl))) (fun _ _ _ _ _ => ets_nil) (fun _ _ _ _ _ => (b_tuple t.z_tuple (ea_cons (ev_lc (own := [("n", 22)]) rfl nd (ei_seq (vr 21)) (blkOk_by (by first | rfl | kernel_rfl)) (by decide) (fun _ _ _ _ _ => (eg_name nd rfl (by first | exact .inl rfl | exact .inr rfl))) (fun _ _ _ _ _ => ets_nil) (fun _ _ _ _ _ => (o_sub ev_int (vr 22)))) ea_nil)))) ea_nil)) ea_nil))))))))
  · exact (es_if (t_ne hr (ev_lc (own := [("some", 23)]) rfl nd (ei_seq (vr 18)) (blkOk_by (by first | rfl | kernel_rfl)) (by decide) (fun _ _ _ _ _ => (eg_name nd rfl (by first | exact .inl rfl | exact .inr rfl))) (fun _ _ _ _ _ => (ets_one (et_not (et_tru (ev_cl c_l_same hr (by decide) hgd takes0 (ea_cons (ev_cl c_shows_together hr (by decide) hgd takes0 (ea_cons (vr 4) (ea_cons (vr 5) (ea_cons (vr 6) (ea_cons (vr 23) ea_nil))))) (ea_cons (ev_cl c_l_shows hr (by decide) hgd takes0 (ea_cons (vr 4) (ea_cons (vr 5) (ea_cons (vr 6) (ea_cons (vr 23) ea_nil))))) ea_nil))))))) (fun _ _ _ _ _ => (vr 23))) (ev_lst ea_nil)) (ess_one (es_ret ev_bl)) ess_nil)
  · exact (es_set nd rfl (by first | exact .inl rfl | exact .inr rfl) (ev_ix (ev_cl c_two_classes hr (by decide) hgd tk (ea_cons (o_sub (vr 2) ev_int) ea_nil)) ev_int))
  · exact (es_try t.x_BadTable rfl rfl nd rfl rfl (by rfl) ess_nil (fun W pn xe tk2 po => (ess_one (es_expr (ev_cl c_put_together hr (by decide) hgd tk2 (ea_cons (vr 4) (ea_cons (vr 19) ea_nil)))))) (fun e oe d pn hz hf => xss_one (xs_ret (xe_cmp (op_eqA (hu64m hr)) opd_eq (xe_reason t.x_BadTable hz hf rfl rfl (by first | exact Or.inl rfl | exact Or.inr (Or.inl rfl))) (xe_of ev_str) (nomark _)))))
  · exact (es_ret ev_bl)
end
end K12
set_option exponentiation.threshold 3000
/-! k12, part L: the law's own call (printed by gen/k12l.py). -/
namespace K12
open PySem DL
/-- a class in other rows -/
theorem drawn {ds : List Int} {n a : Int} (hn : Num n) (ha : 0 ≤ a) (ha2 : a ≤ 500) : ∃ a' f r, a ≤ a' ∧ a' ≤ a + 30 ∧ OkF n f ∧ RG n r ∧ Cl f r ∧ ∀ (x0 x2 : Option D) (rest : DL.Env),
    cCall m_two_changed (aCons (cCall m_l_pick (aCons (cVar 1) (aCons (cVar 3) aNil))) (aCons (cCall m_l_two_change (aCons (cVar 1) aNil)) aNil)) (x0 :: some (.cel 0) :: x2 :: some (eTab (prm n)) :: rest) [Box ds a] = some (.ok (eF f), [Box ds a']) := by
  have hne : prm n ≠ [] := fun e => by have := unit_in hn; rw [e] at this; exact nomatch this
  obtain ⟨tr, htr, h5⟩ := pickT (l := prm n) (ds := ds) (a := a) ha (by omega) hne
  obtain ⟨f, rfl, fp, fg, fR, f1⟩ := (mem_prm hn).mp htr
  obtain ⟨fb1, fb2, fb3⟩ := red_b hn fp fg fR
  obtain ⟨a', p, q, r, s, c1, c2, ch, cd, h6⟩ := changeB (ds := ds) (a := a + 1) (by omega) (by omega)
  obtain ⟨u, hu⟩ : ∃ u : Chg, u = ⟨p, q, r, s⟩ := ⟨_, rfl⟩
  have hud : u.det = 1 := by rw [hu]; exact cd
  have := ch.p1; have := ch.p2; have := ch.q1; have := ch.q2; have := ch.r1; have := ch.r2; have := ch.s1; have := ch.s2
  have husm : Sm u.p ∧ Sm u.q ∧ Sm u.r ∧ Sm u.s := by
    rw [hu]
    exact ⟨⟨by dsimp only; omega, by dsimp only; omega⟩, ⟨by dsimp only; omega, by dsimp only; omega⟩, ⟨by dsimp only; omega, by dsimp only; omega⟩, ⟨by dsimp only; omega, by dsimp only; omega⟩⟩
  have he : eTab [[p, q], [r, s]] = eC u := by rw [hu]; rfl
  rw [he] at h6
  have gB : (-(10 ^ 9) ≤ (f.act u).a ∧ (f.act u).a ≤ 10 ^ 9) ∧ (-(10 ^ 9) ≤ (f.act u).b ∧ (f.act u).b ≤ 10 ^ 9) ∧ (-(10 ^ 9) ≤ (f.act u).c ∧ (f.act u).c ≤ 10 ^ 9) := by
    have Bp : -81 ≤ p ∧ p ≤ 81 := by omega
    have Bq : -81 ≤ q ∧ q ≤ 81 := by omega
    have Br : -81 ≤ r ∧ r ≤ 81 := by omega
    have Bs : -81 ≤ s ∧ s ≤ 81 := by omega
    have A : -400 ≤ f.a ∧ f.a ≤ 400 := by omega
    have B : -400 ≤ f.b ∧ f.b ≤ 400 := by omega
    have C : -400 ≤ f.c ∧ f.c ≤ 400 := by omega
    have wb : ∀ x y : Int, (-81 ≤ x ∧ x ≤ 81) → (-81 ≤ y ∧ y ≤ 81) → -(10 ^ 9) ≤ worthF f.a f.b f.c x y ∧ worthF f.a f.b f.c x y ≤ 10 ^ 9 := by
      intro x y hx hy
      have := ab (ab (mb (mb A hx) hx) (mb (mb B hx) hy)) (mb (mb C hy) hy)
      unfold worthF
      omega
    rw [hu]
    refine ⟨wb p q Bp Bq, ?_, wb r s Br Bs⟩
    show -(10 ^ 9) ≤ midF f.a f.b f.c p q r s ∧ midF f.a f.b f.c p q r s ≤ 10 ^ 9
    have two : -(2 : Int) ≤ 2 ∧ (2 : Int) ≤ 2 := by omega
    have := ab (ab (mb (mb (mb two A) Bp) Br) (mb B (ab (mb Bp Bs) (mb Bq Br)))) (mb (mb (mb two C) Bq) Bs)
    unfold midF
    omega
  have cl : Cl f (f.act u) := ⟨u, hud, rfl⟩
  refine ⟨a', f.act u, f, by omega, by omega, ⟨pos_act fp hud, by rw [cl.gap, fg], prim_act hud f1, ⟨gB.1.2, gB.2.1.1, gB.2.1.2, gB.2.2.2⟩⟩, ⟨fp, fg, fR, f1⟩, cl.symm, fun x0 x2 rest => ?_⟩
  have hch : m_two_changed [eF f, eC u] [Box ds a'] = some (.ok (eF (f.act u)), [Box ds a']) := changed_is ⟨by omega, by omega⟩ husm
  have efr : eRow f.row = eF f := rfl
  rw [efr] at h5
  simp only [cCall_e, aCons_e, aNil_e, cVar_e, List.getElem?_cons_zero, List.getElem?_cons_succ, bnd_ok, h5, h6, hch]
theorem Num.sub4 {n : Int} (h : Num n) (hl : -1000 ≤ n) : Num (n - 4) := ⟨by have := h.neg; omega, by have := h.mod; omega, by omega⟩
theorem Bd9.szF {f : Frm} (hp : f.pos) (h : Bd9 f) : szF 3000 f := by
  have hc := pos_c hp
  have ha := hp.1
  have h1 := h.a; have h2 := h.b1; have h3 := h.b2; have h4 := h.c
  exact ⟨(Sg.sz ⟨by omega, by omega⟩).mono (by decide), (Sg.sz ⟨by omega, by omega⟩).mono (by decide), (Sg.sz ⟨by omega, by omega⟩).mono (by decide)⟩
/-- found, put together again and again, in the law's names -/
theorem found_loop {n : Int} (hn : Num n) {f r : Frm} {M : Store} (hf : OkF n f) (hr : RG n r) (hc : Cl f r) {x0 x1 x2 x3 x5 x6 x7 x8 x9 x10 x11 x14 x15 x16 x17 x18 x19 x20 x21 x22 x23 : Option D} (l : List Int) : ∀ (k : Nat) (x13 : Option D), ∃ y13, fLoop (gN 13) (sAsg (putB 12 4) (gN 12)) (l.map D.int) [x0, x1, x2, x3, some (eF f), x5, x6, x7, x8, x9, x10, x11, some (eF (pwr n r k)), x13, x14, x15, x16, x17, x18, x19, x20, x21, x22, x23] M =
    some (.nx [x0, x1, x2, x3, some (eF f), x5, x6, x7, x8, x9, x10, x11, some (eF (pwr n r (k + l.length))), y13, x14, x15, x16, x17, x18, x19, x20, x21, x22, x23], M) := by
  induction l with
  | nil => exact fun k x13 => ⟨x13, rfl⟩
  | cons i l ih =>
    intro k x13
    obtain ⟨y13, e⟩ := ih (k + 1) (some (.int i))
    refine ⟨y13, ?_⟩
    have hp := put_ix (M := M) hn ((pwr_rg hn hr k).ok hn) hf (i := 12) (j := 4) (en := [x0, x1, x2, x3, some (eF f), x5, x6, x7, x8, x9, x10, x11, some (eF (pwr n r k)), some (.int i), x14, x15, x16, x17, x18, x19, x20, x21, x22, x23]) rfl rfl
    rw [pwr_succ hn hf hr hc] at hp
    rw [List.map_cons, fLoop_cons]
    simp only [gN_e, List.set_cons_succ, List.set_cons_zero, sAsg_e, hp, sbnd_ok]
    rw [e, List.length_cons, show k + 1 + l.length = k + (l.length + 1) by omega]
theorem law_ok (ns : List Int) (hlen : ns.length ≤ 63) : ∃ M', m_l_law [.scr (ns.map .int)] [] = some (.ok (.bl true), M') := by
  unfold m_l_law f_l_law
  rw [mDef_1]
  rw [show start0 24 [D.scr (ns.map .int)] = [some (.scr (ns.map .int)), none, none, none, none, none, none, none, none, none, none, none, none, none, none, none, none, none, none, none, none, none, none, none] from rfl]
  obtain ⟨ds, hds⟩ := digits_is (M := []) (ns := ns)
  rw [sSeq_nx (en1 := [some (.scr (ns.map .int)), some (.cel 0), none, none, none, none, none, none, none, none, none, none, none, none, none, none, none, none, none, none, none, none, none, none]) (M1 := [Box ds 0]) (by simp [hds, Box])]
  -- number
  obtain ⟨r1, a1, b1, h1⟩ := drawB (ds := ds) (a := 0) (m := 200) (by omega) (by omega) (by omega)
  obtain ⟨r2, a2, h2⟩ := pickB (enc := D.int) (l := [0, 1]) (ds := ds) (a := 0 + 1) (by omega) (by omega) (by simp) (fun _ => rfl) (fun _ => rfl)
  have hr2 : r2 = 0 ∨ r2 = 1 := by simpa using a2
  rw [show List.map D.int [0, 1] = [.int 0, .int 1] from rfl] at h2
  obtain ⟨n, hn⟩ : ∃ n : Int, n = 0 - (4 * (1 + r1) - r2) := ⟨_, rfl⟩
  have hnum : Num n := ⟨by omega, by omega, by omega⟩
  have hlow : -1000 ≤ n := by omega
  rw [sSeq_nx (en1 := [some (.scr (ns.map .int)), some (.cel 0), some (.int n), none, none, none, none, none, none, none, none, none, none, none, none, none, none, none, none, none, none, none, none, none]) (M1 := [Box ds 2]) (by
    rw [hn]
    simp only [sAsg_e, cOp_e, cC_e, cVar_e, cCall_e, aCons_e, aNil_e, cLst_e, List.getElem?_cons_zero, List.getElem?_cons_succ, bnd_ok, h1, h2, List.length_cons, List.length_nil, Nat.reduceAdd, szOk_2, gAddA_i, gI_e, yes2_e, if_true, m4, sbnd_ok, gN_e, List.set_cons_succ, List.set_cons_zero]
    rfl)]
  clear hn
  rw [sSeq_nx (en1 := [some (.scr (ns.map .int)), some (.cel 0), some (.int n), some (eTab (prm n)), none, none, none, none, none, none, none, none, none, none, none, none, none, none, none, none, none, none, none, none]) (M1 := [Box ds 2]) (by simp [two_classes_is hnum])]
  -- both forms
  obtain ⟨c1, f, rf, d1, d2, hf, hrf, hcf, h3⟩ := drawn (ds := ds) (a := 2) hnum (by omega) (by omega)
  rw [sSeq_nx (en1 := [some (.scr (ns.map .int)), some (.cel 0), some (.int n), some (eTab (prm n)), some (eF f), none, none, none, none, none, none, none, none, none, none, none, none, none, none, none, none, none, none, none]) (M1 := [Box ds c1]) (by rw [sAsg_e, h3, sbnd_ok]; rfl)]
  obtain ⟨c2, g, rg, d3, d4, hg, hrg, hcg, h4⟩ := drawn (ds := ds) (a := c1) hnum (by omega) (by omega)
  rw [sSeq_nx (en1 := [some (.scr (ns.map .int)), some (.cel 0), some (.int n), some (eTab (prm n)), some (eF f), some (eF g), none, none, none, none, none, none, none, none, none, none, none, none, none, none, none, none, none, none]) (M1 := [Box ds c2]) (by rw [sAsg_e, h4, sbnd_ok]; rfl)]
  -- together
  obtain ⟨m, tog, h5⟩ := together_is (M := [Box ds c2]) hnum hf hg
  obtain ⟨F, hF⟩ : ∃ F, F = op f g := ⟨_, rfl⟩
  rw [← hF] at tog h5
  have hFr : RG n F := by rw [hF]; exact op_rg hnum hf hg
  have hFo := hFr.ok hnum
  rw [sSeq_nx (en1 := [some (.scr (ns.map .int)), some (.cel 0), some (.int n), some (eTab (prm n)), some (eF f), some (eF g), some (eF F), some (eM m), none, none, none, none, none, none, none, none, none, none, none, none, none, none, none, none]) (M1 := [Box ds c2]) (by simp [h5])]
  have zf := hf.bd.szF hf.pos
  have zg := hg.bd.szF hg.pos
  have zF := hFo.bd.szF hFo.pos
  have zm : szM 3001 m := tog.sz.mono (by decide)
  have j1 := shows_is (M := [Box ds c2]) zf zg zF zm
  have j2 := l_shows_is (M := [Box ds c2]) zf zg zF zm
  have j0 := comp_shows tog.comp
  rw [← judges, j0] at j2
  rw [j0] at j1
  have hin : gIn true (eF F) (eTab (prm n)) [Box ds c2] = some (.ok (.bl false), [Box ds c2]) := by
    have := gIn_tab (M := [Box ds c2]) (neg := true) (r := F.row) (t := prm n)
    rw [List.contains_iff_mem.mpr ((mem_prm hnum).mpr ⟨F, rfl, hFr.pos, hFr.gap, hFr.red, hFr.prim⟩)] at this
    exact this
  have hred := is_red_is (M := [Box ds c2]) (g := F)
  rw [red_iff.mpr hFr.red] at hred
  have isB : ∀ S : Store, gIsB true (.bl true) (.bl true) S = some (.ok (.bl false), S) := fun _ => rfl
  rw [sSeq_nx (en1 := [some (.scr (ns.map .int)), some (.cel 0), some (.int n), some (eTab (prm n)), some (eF f), some (eF g), some (eF F), some (eM m), none, none, none, none, none, none, none, none, none, none, none, none, none, none, none, none]) (M1 := [Box ds c2]) (by simp [hin, hred, isB, j1, j2])]
  -- back, unit
  obtain ⟨m', _, h6⟩ := together_is (M := [Box ds c2]) hnum hg hf
  rw [op_comm hnum hg hf, ← hF] at h6
  rw [sSeq_nx (en1 := [some (.scr (ns.map .int)), some (.cel 0), some (.int n), some (eTab (prm n)), some (eF f), some (eF g), some (eF F), some (eM m), some (eF F), none, none, none, none, none, none, none, none, none, none, none, none, none, none, none]) (M1 := [Box ds c2]) (by simp [h6])]
  have hun : m_unit_two [.int n] [Box ds c2] = some (.ok (eF (unitF n)), [Box ds c2]) := unit_two_is hnum
  rw [sSeq_nx (en1 := [some (.scr (ns.map .int)), some (.cel 0), some (.int n), some (eTab (prm n)), some (eF f), some (eF g), some (eF F), some (eM m), some (eF F), some (eF (unitF n)), none, none, none, none, none, none, none, none, none, none, none, none, none, none]) (M1 := [Box ds c2]) (by simp [hun])]
  have hu := (unit_rg hnum).ok hnum
  obtain ⟨m1, _, h7⟩ := together_is (M := [Box ds c2]) hnum hu hf
  rw [op_one hnum hf hrf hcf] at h7
  obtain ⟨v, h8⟩ := hf.reduced (M := [Box ds c2]) hrf hcf
  obtain ⟨w, w1, w2, w3, h9⟩ := opposite_two_is (M := [Box ds c2]) hf.pos hf.bd.bd hf.prim
  have hop : RG n (f.opp.act w) := ⟨pos_act (opp_pos hf.pos) w1, by rw [gap_act, w1, opp_gap, hf.gap]; omega, w2, prim_act w1 hf.opp.prim⟩
  obtain ⟨m2, _, h10⟩ := together_is (M := [Box ds c2]) hnum hf (hop.ok hnum)
  rw [op_opp hnum hf (hop.ok hnum) ⟨w, w1, rfl⟩] at h10
  rw [sSeq_nx (en1 := [some (.scr (ns.map .int)), some (.cel 0), some (.int n), some (eTab (prm n)), some (eF f), some (eF g), some (eF F), some (eM m), some (eF F), some (eF (unitF n)), none, none, none, none, none, none, none, none, none, none, none, none, none, none]) (M1 := [Box ds c2]) (by simp [gEq_F, h7, h8, h9, h10])]
  -- the third
  have hne : prm n ≠ [] := fun e => by have := unit_in hnum; rw [e] at this; exact nomatch this
  obtain ⟨tr, htr, h11⟩ := pickT (l := prm n) (ds := ds) (a := c2) (by omega) (by omega) hne
  obtain ⟨t, rfl, tp, tg, tR, t1⟩ := (mem_prm hnum).mp htr
  have ht : OkF n t := (RG.mk tp tg tR t1).ok hnum
  have etr : eRow t.row = eF t := rfl
  rw [etr] at h11
  obtain ⟨c3, hc3⟩ : ∃ c3, c3 = c2 + 1 := ⟨_, rfl⟩
  rw [← hc3] at h11
  rw [sSeq_nx (en1 := [some (.scr (ns.map .int)), some (.cel 0), some (.int n), some (eTab (prm n)), some (eF f), some (eF g), some (eF F), some (eM m), some (eF F), some (eF (unitF n)), some (eF t), none, none, none, none, none, none, none, none, none, none, none, none, none]) (M1 := [Box ds c3]) (by simp [h11])]
  obtain ⟨m3, _, h12⟩ := together_is (M := [Box ds c3]) hnum hFo ht
  obtain ⟨m4, _, h13⟩ := together_is (M := [Box ds c3]) hnum hg ht
  obtain ⟨m5, _, h14⟩ := together_is (M := [Box ds c3]) hnum hf ((op_rg hnum hg ht).ok hnum)
  rw [← op_assoc hnum hf hg ht, ← hF] at h14
  rw [sSeq_nx (en1 := [some (.scr (ns.map .int)), some (.cel 0), some (.int n), some (eTab (prm n)), some (eF f), some (eF g), some (eF F), some (eM m), some (eF F), some (eF (unitF n)), some (eF t), none, none, none, none, none, none, none, none, none, none, none, none, none]) (M1 := [Box ds c3]) (by simp [h12, h13, h14, gEq_F])]
  -- powers
  obtain ⟨pw, p1, p2, h15⟩ := drawB (ds := ds) (a := c3) (m := 6) (by omega) (by omega) (by omega)
  obtain ⟨c4, hc4⟩ : ∃ c4, c4 = c3 + 1 := ⟨_, rfl⟩
  rw [← hc4] at h15
  rw [sSeq_nx (en1 := [some (.scr (ns.map .int)), some (.cel 0), some (.int n), some (eTab (prm n)), some (eF f), some (eF g), some (eF F), some (eM m), some (eF F), some (eF (unitF n)), some (eF t), some (.int pw), none, none, none, none, none, none, none, none, none, none, none, none]) (M1 := [Box ds c4]) (by simp [h15])]
  have e0 : pwr n rf 0 = unitF n := rfl
  rw [sSeq_nx (en1 := [some (.scr (ns.map .int)), some (.cel 0), some (.int n), some (eTab (prm n)), some (eF f), some (eF g), some (eF F), some (eM m), some (eF F), some (eF (unitF n)), some (eF t), some (.int pw), some (eF (pwr n rf 0)), none, none, none, none, none, none, none, none, none, none, none]) (M1 := [Box ds c4]) (by rw [e0]; simp)]
  obtain ⟨y13, hl⟩ := found_loop (M := [Box ds c4]) hnum hf hrf hcf (x0 := some (.scr (ns.map .int))) (x1 := some (.cel 0)) (x2 := some (.int n)) (x3 := some (eTab (prm n))) (x5 := some (eF g)) (x6 := some (eF F)) (x7 := some (eM m)) (x8 := some (eF F)) (x9 := some (eF (unitF n))) (x10 := some (eF t)) (x11 := some (.int pw)) (x14 := none) (x15 := none) (x16 := none) (x17 := none) (x18 := none) (x19 := none) (x20 := none) (x21 := none) (x22 := none) (x23 := none) (rgI 0 pw.toNat) 0 none
  have hlen2 : (rgI 0 pw.toNat).length = pw.toNat := by simp [rgI]
  rw [hlen2, Nat.zero_add] at hl
  have hloop : sFor (iRng1C (aCons (cVar 11) aNil)) (gN 13) (sAsg (putB 12 4) (gN 12)) [some (.scr (ns.map .int)), some (.cel 0), some (.int n), some (eTab (prm n)), some (eF f), some (eF g), some (eF F), some (eM m), some (eF F), some (eF (unitF n)), some (eF t), some (.int pw), some (eF (pwr n rf 0)), none, none, none, none, none, none, none, none, none, none, none] [Box ds c4] = some (.nx [some (.scr (ns.map .int)), some (.cel 0), some (.int n), some (eTab (prm n)), some (eF f), some (eF g), some (eF F), some (eM m), some (eF F), some (eF (unitF n)), some (eF t), some (.int pw), some (eF (pwr n rf pw.toNat)), y13, none, none, none, none, none, none, none, none, none, none], [Box ds c4]) := by
    have hs : smI pw = true := smI_of (by omega) (by omega)
    have hi : iRng1C (aCons (cVar 11) aNil) [some (.scr (ns.map .int)), some (.cel 0), some (.int n), some (eTab (prm n)), some (eF f), some (eF g), some (eF F), some (eM m), some (eF F), some (eF (unitF n)), some (eF t), some (.int pw), some (eF (pwr n rf 0)), none, none, none, none, none, none, none, none, none, none, none] [Box ds c4] = some (.ok ((rgI 0 pw.toNat).map D.int), [Box ds c4]) := by
      rw [iRng1_e, aCons_e, cVar_e]
      simp only [List.getElem?_cons_zero, List.getElem?_cons_succ, bnd_ok, aNil_e]
      rw [if_pos hs, rgD_eq]
    rw [sFor_e, hi, sbnd_ok]; exact hl
  unfold putB at hloop
  rw [sSeq_nx hloop]
  have h16 := class_power_is (M := [Box ds c4]) hnum hf hrf hcf (k := pw.toNat) (K := pw) (by omega) (by omega)
  rw [sSeq_nx (en1 := [some (.scr (ns.map .int)), some (.cel 0), some (.int n), some (eTab (prm n)), some (eF f), some (eF g), some (eF F), some (eM m), some (eF F), some (eF (unitF n)), some (eF t), some (.int pw), some (eF (pwr n rf pw.toNat)), y13, none, none, none, none, none, none, none, none, none, none]) (M1 := [Box ds c4]) (by simp [h16, gEq_F])]
  -- the order
  obtain ⟨d, o1, o2, o3, o4, o5, h17⟩ := class_order_is (M := [Box ds c4]) hnum hf hrf hcf
  obtain ⟨dI, hdI⟩ : ∃ dI : Int, dI = (d : Int) := ⟨_, rfl⟩
  rw [← hdI] at h17
  rw [sSeq_nx (en1 := [some (.scr (ns.map .int)), some (.cel 0), some (.int n), some (eTab (prm n)), some (eF f), some (eF g), some (eF F), some (eM m), some (eF F), some (eF (unitF n)), some (eF t), some (.int pw), some (eF (pwr n rf pw.toNat)), y13, some (.int dI), none, none, none, none, none, none, none, none, none]) (M1 := [Box ds c4]) (by simp [h17])]
  have h800 := prm_800 hnum
  obtain ⟨L, hL⟩ : ∃ L : Int, L = ((prm n).length : Int) := ⟨_, rfl⟩
  have hLd : L % dI = 0 := by
    rw [hL, hdI]
    exact Int.emod_eq_zero_of_dvd (Int.natCast_dvd_natCast.mpr o5)
  have h18 := class_power_is (M := [Box ds c4]) hnum hf hrf hcf (k := d) (K := dI) (by omega) hdI
  rw [o3] at h18
  have hgl : gLen [eTab (prm n)] [Box ds c4] = some (.ok (.int L), [Box ds c4]) := by rw [gLen_tab, ← hL]
  have hcomp : cLc (iRng2C (aCons (cC (.int 1)) (aCons (cVar 14) aNil))) (gN 16) (cTru (cOp (gEq false) (cCall m_class_power (aCons (cVar 4) (aCons (cVar 16) aNil))) (cVar 9))) (cVar 16) [16] [some (.scr (ns.map .int)), some (.cel 0), some (.int n), some (eTab (prm n)), some (eF f), some (eF g), some (eF F), some (eM m), some (eF F), some (eF (unitF n)), some (eF t), some (.int pw), some (eF (pwr n rf pw.toNat)), y13, some (.int dI), none, none, none, none, none, none, none, none, none] [Box ds c4] = some (.ok (.imm []), [Box ds c4]) := by
    have hi : iRng2C (aCons (cC (.int 1)) (aCons (cVar 14) aNil)) [some (.scr (ns.map .int)), some (.cel 0), some (.int n), some (eTab (prm n)), some (eF f), some (eF g), some (eF F), some (eM m), some (eF F), some (eF (unitF n)), some (eF t), some (.int pw), some (eF (pwr n rf pw.toNat)), y13, some (.int dI), none, none, none, none, none, none, none, none, none] [Box ds c4] = some (.ok ((rgI 1 (dI - 1).toNat).map D.int), [Box ds c4]) := by
      have hs : (smI 1 && smI dI) = true := by rw [smI_of (show -(2 ^ 62) ≤ dI by omega) (show dI < 2 ^ 62 by omega)]; decide
      rw [iRng2_e, aCons_e, cC_e, bnd_ok, aCons_e, cVar_e]
      simp only [List.getElem?_cons_zero, List.getElem?_cons_succ, bnd_ok, aNil_e]
      rw [if_pos hs, rgD_eq]
    have hrl : (rgI 1 (dI - 1).toNat).length ≤ 16777216 := by
      have : (rgI 1 (dI - 1).toNat).length = (dI - 1).toNat := by simp [rgI]
      omega
    have := lc_of (M := [Box ds c4]) (en := [some (.scr (ns.map .int)), some (.cel 0), some (.int n), some (eTab (prm n)), some (eF f), some (eF g), some (eF F), some (eM m), some (eF F), some (eF (unitF n)), some (eF t), some (.int pw), some (eF (pwr n rf pw.toNat)), y13, some (.int dI), none, none, none, none, none, none, none, none, none]) (g := gN 16) (t := cTru (cOp (gEq false) (cCall m_class_power (aCons (cVar 4) (aCons (cVar 16) aNil))) (cVar 9))) (f := cVar 16) (mk := mkI) (vs := [16]) D.int (fun _ => false) D.int (rgI 1 (dI - 1).toNat) hi hrl fun x hx => ⟨[some (.scr (ns.map .int)), some (.cel 0), some (.int n), some (eTab (prm n)), some (eF f), some (eF g), some (eF F), some (eM m), some (eF F), some (eF (unitF n)), some (eF t), some (.int pw), some (eF (pwr n rf pw.toNat)), y13, some (.int dI), none, some (.int x), none, none, none, none, none, none, none], by simp, by
      have hb := mem_rgI.mp hx
      have hp := class_power_is (M := [Box ds c4]) hnum hf hrf hcf (k := x.toNat) (K := x) (by omega) (by omega)
      have hne2 := o4 x.toNat (by omega) (by omega)
      simp [hp, gEq_F, hne2], fun z => absurd z Bool.false_ne_true⟩
    have e0 : ((rgI 1 (dI - 1).toNat).filter fun _ => false) = [] := List.filter_eq_nil_iff.mpr fun _ _ => Bool.false_ne_true
    rw [e0] at this
    exact this
  rw [sSeq_nx (en1 := [some (.scr (ns.map .int)), some (.cel 0), some (.int n), some (eTab (prm n)), some (eF f), some (eF g), some (eF F), some (eM m), some (eF F), some (eF (unitF n)), some (eF t), some (.int pw), some (eF (pwr n rf pw.toNat)), y13, some (.int dI), none, none, none, none, none, none, none, none, none]) (M1 := [Box ds c4]) (by
    have hm : modC L dI = true := modC_of (by omega)
    have hlt : ¬ dI < 1 := by omega
    have q1 : tOrC (cTru (cOp gLt (cVar 14) (cC (.int 1)))) (tOrC (cTru (cOp (gEq true) (cOp gMod (cCall gLen (aCons (cVar 3) aNil)) (cVar 14)) (cC (.int 0)))) (tOrC (cTru (cOp (gEq true) (cCall m_class_power (aCons (cVar 4) (aCons (cVar 14) aNil))) (cVar 9))) (tAndC (cTru (cOp (gEq true) (cSl (cLc (iRng2C (aCons (cC (.int 1)) (aCons (cVar 14) aNil))) (gN 16) (cTru (cOp (gEq false) (cCall m_class_power (aCons (cVar 4) (aCons (cVar 16) aNil))) (cVar 9))) (cVar 16) [16]) oNone (oSome (cC (.int 1)))) (cLst aNil))) (cTru (cOp gGt (cVar 14) (cC (.int 1))))))) [some (.scr (ns.map .int)), some (.cel 0), some (.int n), some (eTab (prm n)), some (eF f), some (eF g), some (eF F), some (eM m), some (eF F), some (eF (unitF n)), some (eF t), some (.int pw), some (eF (pwr n rf pw.toNat)), y13, some (.int dI), none, none, none, none, none, none, none, none, none] [Box ds c4] = some (.ok false, [Box ds c4]) := by
      rw [tOrC_e, cTru_e, cOp_e, cVar_e]
      simp only [List.getElem?_cons_zero, List.getElem?_cons_succ, bnd_ok, cC_e, gI_e, yes2_e, if_true, decide_eq_false hlt, tru_bl, Bool.false_eq_true, if_false]
      rw [tOrC_e]
      simp only [cTru_e, cOp_e, cCall_e, aCons_e, aNil_e, cVar_e, cC_e, List.getElem?_cons_zero, List.getElem?_cons_succ, bnd_ok, hgl, gI_e, hm, if_true, hLd, gEq_int, beq_self_eq_true, Bool.not_true, tru_bl, Bool.false_eq_true, if_false]
      rw [tOrC_e]
      simp only [cTru_e, cOp_e, cCall_e, aCons_e, aNil_e, cVar_e, List.getElem?_cons_zero, List.getElem?_cons_succ, bnd_ok, h18, gEq_F, decide_true, if_true, Bool.not_true, tru_bl, Bool.false_eq_true, if_false]
      rw [tAndC_e, cTru_e, cOp_e, cSl_e, hcomp]
      simp [gEq_nil0, cutD]
    rw [sIf_e, q1, sbnd_ok]
    rfl)]
  -- the spoilt one
  obtain ⟨at_, t2, t3, h19⟩ := drawB (ds := ds) (a := c4) (m := 2) (by omega) (by omega) (by omega)
  obtain ⟨kk, t4, t5, h20⟩ := drawB (ds := ds) (a := c4 + 1) (m := 4) (by omega) (by omega) (by omega)
  obtain ⟨c5, hc5⟩ : ∃ c5, c5 = c4 + 1 + 1 := ⟨_, rfl⟩
  rw [← hc5] at h20
  rw [sSeq_nx (en1 := [some (.scr (ns.map .int)), some (.cel 0), some (.int n), some (eTab (prm n)), some (eF f), some (eF g), some (eF F), some (eM m), some (eF F), some (eF (unitF n)), some (eF t), some (.int pw), some (eF (pwr n rf pw.toNat)), y13, some (.int dI), some (.int at_), some (.int kk), none, none, none, none, none, none, none]) (M1 := [Box ds c5]) (by simp [h19, h20])]
  obtain ⟨de, a3, h21⟩ := pickB (enc := D.int) (l := [-1, 1]) (ds := ds) (a := c5) (by omega) (by omega) (by simp) (fun _ => rfl) (fun _ => rfl)
  have hde : de = 1 ∨ de = -1 := by
    simp at a3; omega
  rw [show List.map D.int [-1, 1] = [.int (-1), .int 1] from rfl] at h21
  obtain ⟨c6, hc6⟩ : ∃ c6, c6 = c5 + 1 := ⟨_, rfl⟩
  rw [← hc6] at h21
  have hsp := spoil_is (m := m) (at_ := at_) (k := kk) (δ := de) (N := [Box ds c5]) (M' := [Box ds c6]) (e0 := some (.scr (ns.map .int))) (e2 := some (.int n)) (e3 := some (eTab (prm n))) (e4 := some (eF f)) (e5 := some (eF g)) (e6 := some (eF F)) (e8 := some (eF F)) (e9 := some (eF (unitF n))) (e10 := some (eF t)) (e11 := some (.int pw)) (e12 := some (eF (pwr n rf pw.toNat))) (e13 := y13) (e14 := some (.int dI)) (e17 := none) (e18 := none) (e19 := none) (e20 := none) (e21 := none) (e22 := none) (e23 := none) (by omega) (by omega) h21
  unfold spE at hsp
  rw [sSeq_nx (en1 := [some (.scr (ns.map .int)), some (.cel 0), some (.int n), some (eTab (prm n)), some (eF f), some (eF g), some (eF F), some (eM m), some (eF F), some (eF (unitF n)), some (eF t), some (.int pw), some (eF (pwr n rf pw.toNat)), y13, some (.int dI), some (.int at_), some (.int kk), some (eM (spoil at_ kk de m)), none, none, none, none, none, none]) (M1 := [Box ds c6]) (by rw [sAsg_e, hsp, sbnd_ok]; rfl)]
  -- the tries
  have hX : eM m = .tup [rX m, rY m] := rfl
  obtain ⟨tl, htl⟩ : ∃ tl : List D, tl = [eM (spoil at_ kk de m), eM (turnR m), .tup [rX m], .non, .tup [eRow [m.x1, m.x2, m.x3, m.x4], eRow [1, 2, 3]], eM (negM m)] := ⟨_, rfl⟩
  rw [sSeq_nx (en1 := [some (.scr (ns.map .int)), some (.cel 0), some (.int n), some (eTab (prm n)), some (eF f), some (eF g), some (eF F), some (eM m), some (eF F), some (eF (unitF n)), some (eF t), some (.int pw), some (eF (pwr n rf pw.toNat)), y13, some (.int dI), some (.int at_), some (.int kk), some (eM (spoil at_ kk de m)), some (.imm tl), none, none, none, none, none]) (M1 := [Box ds c6]) (by
    rw [htl]
    have e1 : eM (turnR m) = .tup [rY m, rX m] := rfl
    have e2 : eRow [m.x1, m.x2, m.x3, m.x4] = rX m := rfl
    have e3 : eM (negM m) = .tup [.tup [.int (0 - m.x1), .int (0 - m.x2), .int (0 - m.x3), .int (0 - m.x4)], .tup [.int (0 - m.y1), .int (0 - m.y2), .int (0 - m.y3), .int (0 - m.y4)]] := rfl
    have e4 : cCall gTuple (aCons (cLc (iSeq (cVar 7)) (gN 21) tYesC (cCall gTuple (aCons (cLc (iSeq (cVar 21)) (gN 22) tYesC (cOp gSub (cC (.int 0)) (cVar 22)) [22]) aNil)) [21]) aNil) [some (.scr (ns.map .int)), some (.cel 0), some (.int n), some (eTab (prm n)), some (eF f), some (eF g), some (eF F), some (eM m), some (eF F), some (eF (unitF n)), some (eF t), some (.int pw), some (eF (pwr n rf pw.toNat)), y13, some (.int dI), some (.int at_), some (.int kk), some (eM (spoil at_ kk de m)), none, none, none, none, none, none] [Box ds c6] = some (.ok (eM (negM m)), [Box ds c6]) := by
      rw [hX, e3]
      simp [rX, rY, eRow]
    have g0 : ∀ S, gIx (eM m) (.int 0) S = some (.ok (rX m), S) := fun S => by rw [hX]; simp
    have g1 : ∀ S, gIx (eM m) (.int 1) S = some (.ok (rY m), S) := fun S => by rw [hX]; simp
    simp only [sAsg_e, cLst_e, aCons_e, aNil_e, e4, cTup_e, cOp_e, cVar_e, cC_e, List.getElem?_cons_zero, List.getElem?_cons_succ, bnd_ok, g0, g1, List.length_cons, List.length_nil, Nat.reduceAdd, szOk_1, szOk_2, szOk_3, if_true, show szOk 6 = true by decide, row3, sbnd_ok, gN_e, List.set_cons_succ, List.set_cons_zero, e1, e2])]
  have htries : ∀ x ∈ tl, ∃ b, m_shows_together [eF f, eF g, eF F, x] [Box ds c6] = some (.ok (.bl b), [Box ds c6]) ∧ m_l_shows [eF f, eF g, eF F, x] [Box ds c6] = some (.ok (.bl b), [Box ds c6]) := by
    intro x hx
    have both : ∀ m', szM 3001 m' → ∃ b, m_shows_together [eF f, eF g, eF F, eM m'] [Box ds c6] = some (.ok (.bl b), [Box ds c6]) ∧ m_l_shows [eF f, eF g, eF F, eM m'] [Box ds c6] = some (.ok (.bl b), [Box ds c6]) := fun m' hm' =>
      ⟨showB f g F m', shows_is zf zg zF hm', by rw [judges]; exact l_shows_is zf zg zF hm'⟩
    rw [htl] at hx
    simp only [List.mem_cons, List.not_mem_nil, or_false] at hx
    rcases hx with rfl | rfl | rfl | rfl | rfl | rfl
    · exact both _ (spoil_sz tog.sz hde)
    · exact both _ (turnR_sz tog.sz)
    · exact ⟨false, shows_one.1, shows_one.2⟩
    · exact ⟨false, shows_none.1, shows_none.2⟩
    · exact ⟨false, shows_odd.1, shows_odd.2⟩
    · exact both _ (negM_sz tog.sz)
  have hall : cLc (iSeq (cVar 18)) (gN 23) (tNotC (cTru (cCall m_l_same (aCons (cCall m_shows_together (aCons (cVar 4) (aCons (cVar 5) (aCons (cVar 6) (aCons (cVar 23) aNil))))) (aCons (cCall m_l_shows (aCons (cVar 4) (aCons (cVar 5) (aCons (cVar 6) (aCons (cVar 23) aNil))))) aNil))))) (cVar 23) [23] [some (.scr (ns.map .int)), some (.cel 0), some (.int n), some (eTab (prm n)), some (eF f), some (eF g), some (eF F), some (eM m), some (eF F), some (eF (unitF n)), some (eF t), some (.int pw), some (eF (pwr n rf pw.toNat)), y13, some (.int dI), some (.int at_), some (.int kk), some (eM (spoil at_ kk de m)), some (.imm tl), none, none, none, none, none] [Box ds c6] = some (.ok (.imm []), [Box ds c6]) := by
    have hi : iSeq (cVar 18) [some (.scr (ns.map .int)), some (.cel 0), some (.int n), some (eTab (prm n)), some (eF f), some (eF g), some (eF F), some (eM m), some (eF F), some (eF (unitF n)), some (eF t), some (.int pw), some (eF (pwr n rf pw.toNat)), y13, some (.int dI), some (.int at_), some (.int kk), some (eM (spoil at_ kk de m)), some (.imm tl), none, none, none, none, none] [Box ds c6] = some (.ok (tl.map id), [Box ds c6]) := by simp
    have := lc_of (M := [Box ds c6]) (en := [some (.scr (ns.map .int)), some (.cel 0), some (.int n), some (eTab (prm n)), some (eF f), some (eF g), some (eF F), some (eM m), some (eF F), some (eF (unitF n)), some (eF t), some (.int pw), some (eF (pwr n rf pw.toNat)), y13, some (.int dI), some (.int at_), some (.int kk), some (eM (spoil at_ kk de m)), some (.imm tl), none, none, none, none, none]) (g := gN 23) (t := tNotC (cTru (cCall m_l_same (aCons (cCall m_shows_together (aCons (cVar 4) (aCons (cVar 5) (aCons (cVar 6) (aCons (cVar 23) aNil))))) (aCons (cCall m_l_shows (aCons (cVar 4) (aCons (cVar 5) (aCons (cVar 6) (aCons (cVar 23) aNil))))) aNil))))) (f := cVar 23) (mk := mkI) (vs := [23]) id (fun _ => false) id tl hi (by rw [htl]; show 6 ≤ 16777216; decide) fun x hx => ⟨[some (.scr (ns.map .int)), some (.cel 0), some (.int n), some (eTab (prm n)), some (eF f), some (eF g), some (eF F), some (eM m), some (eF F), some (eF (unitF n)), some (eF t), some (.int pw), some (eF (pwr n rf pw.toNat)), y13, some (.int dI), some (.int at_), some (.int kk), some (eM (spoil at_ kk de m)), some (.imm tl), none, none, none, none, some x], by simp, by
      obtain ⟨b, k1, k2⟩ := htries x hx
      simp [k1, k2, same_bl], fun z => absurd z Bool.false_ne_true⟩
    have e0 : (tl.filter fun _ => false) = [] := List.filter_eq_nil_iff.mpr fun _ _ => Bool.false_ne_true
    rw [e0] at this
    exact this
  rw [sSeq_nx (en1 := [some (.scr (ns.map .int)), some (.cel 0), some (.int n), some (eTab (prm n)), some (eF f), some (eF g), some (eF F), some (eM m), some (eF F), some (eF (unitF n)), some (eF t), some (.int pw), some (eF (pwr n rf pw.toNat)), y13, some (.int dI), some (.int at_), some (.int kk), some (eM (spoil at_ kk de m)), some (.imm tl), none, none, none, none, none]) (M1 := [Box ds c6]) (by
    rw [sIf_e, cTru_e, cOp_e, hall]
    simp [gEq_nil0])]
  -- a foreign one
  have hn4 := hnum.sub4 hlow
  have hne4 : prm (n - 4) ≠ [] := fun e => by have := unit_in hn4; rw [e] at this; exact nomatch this
  obtain ⟨fr, frs, hfr⟩ : ∃ r l, prm (n - 4) = r :: l := by
    cases h : prm (n - 4) with
    | nil => exact absurd h hne4
    | cons r l => exact ⟨r, l, rfl⟩
  obtain ⟨x, rfl, xp, xg, xR, x1⟩ := (mem_prm hn4).mp (show fr ∈ prm (n - 4) by rw [hfr]; exact List.mem_cons_self)
  have hx : OkF (n - 4) x := (RG.mk xp xg xR x1).ok hn4
  have h22 := two_classes_is (M := [Box ds c6]) hn4
  rw [hfr] at h22
  have exr : eRow x.row = eF x := rfl
  rw [sSeq_nx (en1 := [some (.scr (ns.map .int)), some (.cel 0), some (.int n), some (eTab (prm n)), some (eF f), some (eF g), some (eF F), some (eM m), some (eF F), some (eF (unitF n)), some (eF t), some (.int pw), some (eF (pwr n rf pw.toNat)), y13, some (.int dI), some (.int at_), some (.int kk), some (eM (spoil at_ kk de m)), some (.imm tl), some (eF x), none, none, none, none]) (M1 := [Box ds c6]) (by simp [h22, exr])]
  have h23 : m_put_together [eF f, eF x] [Box ds c6] = some (.ex "BadTable" [("reason", .str "discriminant")], [Box ds c6]) := by
    unfold m_put_together f_put_together
    rw [mDef_2, show start0 14 [eF f, eF x] = [some (eF f), some (eF x), none, none, none, none, none, none, none, none, none, none, none, none] from rfl]
    rw [sSeq_nx (en1 := [some (eF f), some (eF x), none, none, none, none, none, none, none, none, none, none, none, none]) (M1 := [Box ds c6]) (by simp [hf.check])]
    rw [sSeq_nx (en1 := [some (eF f), some (eF x), none, none, none, none, none, none, none, none, none, none, none, none]) (M1 := [Box ds c6]) (by simp [hx.check])]
    have hne5 : ¬ n = n - 4 := by omega
    have hif : sIf (cTru (cOp (gEq true) (cCall m_gap (aCons (cVar 0) aNil)) (cCall m_gap (aCons (cVar 1) aNil)))) (sRaise "BadTable" (aCons (cC (.str "discriminant")) aNil)) sSkip [some (eF f), some (eF x), none, none, none, none, none, none, none, none, none, none, none, none] [Box ds c6] =
        some (.ex "BadTable" [("reason", .str "discriminant")] [some (eF f), some (eF x), none, none, none, none, none, none, none, none, none, none, none, none], [Box ds c6]) := by
      have hb : (n == n - 4) = false := by simpa using hne5
      simp only [sIf_e, cTru_e, cOp_e, cCall_e, aCons_e, aNil_e, cVar_e, List.getElem?_cons_zero, List.getElem?_cons_succ, bnd_ok, hf.gap_is, hx.gap_is, gEq_int, if_true, hb, Bool.not_false, tru_bl, sbnd_ok, sRaise_e, cC_e]
    rw [sSeq_e, hif]
    dsimp only
    rw [fin_ex]
    exact gcF_ex0 rfl
  have htry : sTry "BadTable" 20 (sExpr (cCall m_put_together (aCons (cVar 4) (aCons (cVar 19) aNil)))) (fun fs => sRet (cOp (gEq false) (xRsn fs) ((cC (.str "discriminant"))))) sSkip [some (.scr (ns.map .int)), some (.cel 0), some (.int n), some (eTab (prm n)), some (eF f), some (eF g), some (eF F), some (eM m), some (eF F), some (eF (unitF n)), some (eF t), some (.int pw), some (eF (pwr n rf pw.toNat)), y13, some (.int dI), some (.int at_), some (.int kk), some (eM (spoil at_ kk de m)), some (.imm tl), some (eF x), none, none, none, none] [Box ds c6] = some (.rt (.bl true), [Box ds c6]) := by
    unfold sTry
    simp [h23, xRsn]
    rfl
  refine ⟨[], ?_⟩
  rw [sSeq_rt htry, fin_rt]
  exact gcF_ok (L := [Box ds c6]) rfl rfl
end K12
set_option maxHeartbeats 4000000
namespace K12
open PySem PySem.Spec PyProof.Rows L2 DL
theorem exm_self {K : PySem.W.Frag} {S : Addr} (h1 : PySem.W.subIn K (.ref S) (.type "BaseException") = some true) (h2 : PySem.W.isClsIn K S = true) (h3 : PySem.W.typeIn K (.ref S) = some (.type "type")) (h4 : PySem.W.subIn K (.ref S) (.ref S) = some true) :
    PySem.W.exmOne K (.ref S) (.ref S) = some true := by
  have e1 : (PySem.W.subIn K (.ref S) (.type "BaseException") == some true) = true := by rw [h1] <;> rfl
  have e2 : ((PySem.W.clsIn K S).isSome && PySem.W.typeIn K (.ref S) == some (.type "type")) = true := by
    have h2' : (PySem.W.clsIn K S).isSome = true := h2
    rw [h2', h3] <;> rfl
  show (if (PySem.W.subIn K (.ref S) (.type "BaseException") == some true) = true then (if ((PySem.W.clsIn K S).isSome && PySem.W.typeIn K (.ref S) == some (.type "type")) = true then PySem.W.subIn K (.ref S) (.ref S) else none) else none) = some true
  rw [if_pos e1, if_pos e2]
  exact h4
theorem all_mk {w : World} {K : PySem.W.Frag} {h : Heap} {mg : Str → Option Value} {fa C fI cda cc : Addr}
    {f0 : Addr} {od0 an0 : Option Addr} {sl0 : Array (Option Value)} {oc0 kV0 dc0 pm0 cd0 ct0 : Value}
    {f1 : Addr} {od1 an1 : Option Addr} {sl1 : Array (Option Value)} {oc1 kV1 dc1 pm1 cd1 ct1 : Value}
    {f2 : Addr} {od2 an2 : Option Addr} {sl2 : Array (Option Value)} {oc2 kV2 dc2 pm2 cd2 ct2 : Value}
    {f3 : Addr} {od3 an3 : Option Addr} {sl3 : Array (Option Value)} {oc3 kV3 dc3 pm3 cd3 ct3 : Value}
    {f4 : Addr} {od4 an4 : Option Addr} {sl4 : Array (Option Value)} {oc4 kV4 dc4 pm4 cd4 ct4 : Value}
    {f5 : Addr} {od5 an5 : Option Addr} {sl5 : Array (Option Value)} {oc5 kV5 dc5 pm5 cd5 ct5 : Value}
    {f6 : Addr} {od6 an6 : Option Addr} {sl6 : Array (Option Value)} {oc6 kV6 dc6 pm6 cd6 ct6 : Value}
    {f7 : Addr} {od7 an7 : Option Addr} {sl7 : Array (Option Value)} {oc7 kV7 dc7 pm7 cd7 ct7 : Value}
    {f8 : Addr} {od8 an8 : Option Addr} {sl8 : Array (Option Value)} {oc8 kV8 dc8 pm8 cd8 ct8 : Value}
    {f9 : Addr} {od9 an9 : Option Addr} {sl9 : Array (Option Value)} {oc9 kV9 dc9 pm9 cd9 ct9 : Value}
    {f10 : Addr} {od10 an10 : Option Addr} {sl10 : Array (Option Value)} {oc10 kV10 dc10 pm10 cd10 ct10 : Value}
    {f11 : Addr} {od11 an11 : Option Addr} {sl11 : Array (Option Value)} {oc11 kV11 dc11 pm11 cd11 ct11 : Value}
    {f12 : Addr} {od12 an12 : Option Addr} {sl12 : Array (Option Value)} {oc12 kV12 dc12 pm12 cd12 ct12 : Value}
    {f13 : Addr} {od13 an13 : Option Addr} {sl13 : Array (Option Value)} {oc13 kV13 dc13 pm13 cd13 ct13 : Value}
    {f14 : Addr} {od14 an14 : Option Addr} {sl14 : Array (Option Value)} {oc14 kV14 dc14 pm14 cd14 ct14 : Value}
    {f15 : Addr} {od15 an15 : Option Addr} {sl15 : Array (Option Value)} {oc15 kV15 dc15 pm15 cd15 ct15 : Value}
    {f16 : Addr} {od16 an16 : Option Addr} {sl16 : Array (Option Value)} {oc16 kV16 dc16 pm16 cd16 ct16 : Value}
    {f17 : Addr} {od17 an17 : Option Addr} {sl17 : Array (Option Value)} {oc17 kV17 dc17 pm17 cd17 ct17 : Value}
    {f18 : Addr} {od18 an18 : Option Addr} {sl18 : Array (Option Value)} {oc18 kV18 dc18 pm18 cd18 ct18 : Value}
    {f19 : Addr} {od19 an19 : Option Addr} {sl19 : Array (Option Value)} {oc19 kV19 dc19 pm19 cd19 ct19 : Value}
    {f20 : Addr} {od20 an20 : Option Addr} {sl20 : Array (Option Value)} {oc20 kV20 dc20 pm20 cd20 ct20 : Value}
    {f21 : Addr} {od21 an21 : Option Addr} {sl21 : Array (Option Value)} {oc21 kV21 dc21 pm21 cd21 ct21 : Value}
    {f22 : Addr} {od22 an22 : Option Addr} {sl22 : Array (Option Value)} {oc22 kV22 dc22 pm22 cd22 ct22 : Value}
    {f23 : Addr} {od23 an23 : Option Addr} {sl23 : Array (Option Value)} {oc23 kV23 dc23 pm23 cd23 ct23 : Value}
    {f24 : Addr} {od24 an24 : Option Addr} {sl24 : Array (Option Value)} {oc24 kV24 dc24 pm24 cd24 ct24 : Value}
    {f25 : Addr} {od25 an25 : Option Addr} {sl25 : Array (Option Value)} {oc25 kV25 dc25 pm25 cd25 ct25 : Value}
    {f26 : Addr} {od26 an26 : Option Addr} {sl26 : Array (Option Value)} {oc26 kV26 dc26 pm26 cd26 ct26 : Value}
    {f27 : Addr} {od27 an27 : Option Addr} {sl27 : Array (Option Value)} {oc27 kV27 dc27 pm27 cd27 ct27 : Value}
    {f28 : Addr} {od28 an28 : Option Addr} {sl28 : Array (Option Value)} {oc28 kV28 dc28 pm28 cd28 ct28 : Value}
    {f29 : Addr} {od29 an29 : Option Addr} {sl29 : Array (Option Value)} {oc29 kV29 dc29 pm29 cd29 ct29 : Value}
    {f30 : Addr} {od30 an30 : Option Addr} {sl30 : Array (Option Value)} {oc30 kV30 dc30 pm30 cd30 ct30 : Value}
    {f31 : Addr} {od31 an31 : Option Addr} {sl31 : Array (Option Value)} {oc31 kV31 dc31 pm31 cd31 ct31 : Value}
    {f32 : Addr} {od32 an32 : Option Addr} {sl32 : Array (Option Value)} {oc32 kV32 dc32 pm32 cd32 ct32 : Value}
    {f33 : Addr} {od33 an33 : Option Addr} {sl33 : Array (Option Value)} {oc33 kV33 dc33 pm33 cd33 ct33 : Value}
    {f34 : Addr} {od34 an34 : Option Addr} {sl34 : Array (Option Value)} {oc34 kV34 dc34 pm34 cd34 ct34 : Value}
    {f35 : Addr} {od35 an35 : Option Addr} {sl35 : Array (Option Value)} {oc35 kV35 dc35 pm35 cd35 ct35 : Value}
    {f36 : Addr} {od36 an36 : Option Addr} {sl36 : Array (Option Value)} {oc36 kV36 dc36 pm36 cd36 ct36 : Value}
    {f37 : Addr} {od37 an37 : Option Addr} {sl37 : Array (Option Value)} {oc37 kV37 dc37 pm37 cd37 ct37 : Value}
    {f38 : Addr} {od38 an38 : Option Addr} {sl38 : Array (Option Value)} {oc38 kV38 dc38 pm38 cd38 ct38 : Value}
    {f39 : Addr} {od39 an39 : Option Addr} {sl39 : Array (Option Value)} {oc39 kV39 dc39 pm39 cd39 ct39 : Value}
    {f40 : Addr} {od40 an40 : Option Addr} {sl40 : Array (Option Value)} {oc40 kV40 dc40 pm40 cd40 ct40 : Value}
    {f41 : Addr} {od41 an41 : Option Addr} {sl41 : Array (Option Value)} {oc41 kV41 dc41 pm41 cd41 ct41 : Value}
    {f42 : Addr} {od42 an42 : Option Addr} {sl42 : Array (Option Value)} {oc42 kV42 dc42 pm42 cd42 ct42 : Value}
    {f43 : Addr} {od43 an43 : Option Addr} {sl43 : Array (Option Value)} {oc43 kV43 dc43 pm43 cd43 ct43 : Value}
    {a_UNIT : Value}
    {nm q : Str} {NC : Addr} {bs bm : List Value} {sn : List Str} {sub : List Value} {ab : Bool} {col : Option Bool} {dd : Option Addr} {m0 m1 m2 m3 m5 : Option Value} {odI anI : Option Addr} {slI : Array (Option Value)} {ocI dcI pmI ctI : Value} {ccl cl : Value} {cdd cld : Option Addr} {ccs csl : Array (Option Value)} {vs : Array Value} {file : Str} {tf : Tok} (X : K.In h) (G : h.Ns mainGlobals mg) (hfa : mg "law" = some (.ref fa))
    (a0 : PySem.W.nsIn K mainGlobals "divisor" = some (some (.ref f0)))
    (l0 : K.lookup f0 = some ⟨oc0, od0, .func (PySem.W.fnOf "divisor" "divisor" (defArgs s_divisor) (defBody s_divisor) (defScope s_divisor) .none kV0 dc0 pm0 an0 cd0 ct0), sl0⟩)
    (c0 : PySem.W.codeIn K cd0 "divisor" = true)
    (k0 : PySem.W.keepIn K (.ref f0) = true)
    (a1 : PySem.W.nsIn K mainGlobals "divisor_of" = some (some (.ref f1)))
    (l1 : K.lookup f1 = some ⟨oc1, od1, .func (PySem.W.fnOf "divisor_of" "divisor_of" (defArgs s_divisor_of) (defBody s_divisor_of) (defScope s_divisor_of) .none kV1 dc1 pm1 an1 cd1 ct1), sl1⟩)
    (c1 : PySem.W.codeIn K cd1 "divisor_of" = true)
    (k1 : PySem.W.keepIn K (.ref f1) = true)
    (a2 : PySem.W.nsIn K mainGlobals "bezout" = some (some (.ref f2)))
    (l2 : K.lookup f2 = some ⟨oc2, od2, .func (PySem.W.fnOf "bezout" "bezout" (defArgs s_bezout) (defBody s_bezout) (defScope s_bezout) .none kV2 dc2 pm2 an2 cd2 ct2), sl2⟩)
    (c2 : PySem.W.codeIn K cd2 "bezout" = true)
    (k2 : PySem.W.keepIn K (.ref f2) = true)
    (a3 : PySem.W.nsIn K mainGlobals "root" = some (some (.ref f3)))
    (l3 : K.lookup f3 = some ⟨oc3, od3, .func (PySem.W.fnOf "root" "root" (defArgs s_root) (defBody s_root) (defScope s_root) .none kV3 dc3 pm3 an3 cd3 ct3), sl3⟩)
    (c3 : PySem.W.codeIn K cd3 "root" = true)
    (k3 : PySem.W.keepIn K (.ref f3) = true)
    (a4 : PySem.W.nsIn K mainGlobals "is_whole" = some (some (.ref f4)))
    (l4 : K.lookup f4 = some ⟨oc4, od4, .func (PySem.W.fnOf "is_whole" "is_whole" (defArgs s_is_whole) (defBody s_is_whole) (defScope s_is_whole) .none kV4 dc4 pm4 an4 cd4 ct4), sl4⟩)
    (c4 : PySem.W.codeIn K cd4 "is_whole" = true)
    (k4 : PySem.W.keepIn K (.ref f4) = true)
    (a5 : PySem.W.nsIn K mainGlobals "is_row" = some (some (.ref f5)))
    (l5 : K.lookup f5 = some ⟨oc5, od5, .func (PySem.W.fnOf "is_row" "is_row" (defArgs s_is_row) (defBody s_is_row) (defScope s_is_row) .none kV5 dc5 pm5 an5 cd5 ct5), sl5⟩)
    (c5 : PySem.W.codeIn K cd5 "is_row" = true)
    (k5 : PySem.W.keepIn K (.ref f5) = true)
    (a6 : PySem.W.nsIn K mainGlobals "wide" = some (some (.ref f6)))
    (l6 : K.lookup f6 = some ⟨oc6, od6, .func (PySem.W.fnOf "wide" "wide" (defArgs s_wide) (defBody s_wide) (defScope s_wide) .none kV6 dc6 pm6 an6 cd6 ct6), sl6⟩)
    (c6 : PySem.W.codeIn K cd6 "wide" = true)
    (k6 : PySem.W.keepIn K (.ref f6) = true)
    (a7 : PySem.W.nsIn K mainGlobals "turned" = some (some (.ref f7)))
    (l7 : K.lookup f7 = some ⟨oc7, od7, .func (PySem.W.fnOf "turned" "turned" (defArgs s_turned) (defBody s_turned) (defScope s_turned) .none kV7 dc7 pm7 an7 cd7 ct7), sl7⟩)
    (c7 : PySem.W.codeIn K cd7 "turned" = true)
    (k7 : PySem.W.keepIn K (.ref f7) = true)
    (a8 : PySem.W.nsIn K mainGlobals "dot" = some (some (.ref f8)))
    (l8 : K.lookup f8 = some ⟨oc8, od8, .func (PySem.W.fnOf "dot" "dot" (defArgs s_dot) (defBody s_dot) (defScope s_dot) .none kV8 dc8 pm8 an8 cd8 ct8), sl8⟩)
    (c8 : PySem.W.codeIn K cd8 "dot" = true)
    (k8 : PySem.W.keepIn K (.ref f8) = true)
    (a9 : PySem.W.nsIn K mainGlobals "product" = some (some (.ref f9)))
    (l9 : K.lookup f9 = some ⟨oc9, od9, .func (PySem.W.fnOf "product" "product" (defArgs s_product) (defBody s_product) (defScope s_product) .none kV9 dc9 pm9 an9 cd9 ct9), sl9⟩)
    (c9 : PySem.W.codeIn K cd9 "product" = true)
    (k9 : PySem.W.keepIn K (.ref f9) = true)
    (a10 : PySem.W.nsIn K mainGlobals "is_two" = some (some (.ref f10)))
    (l10 : K.lookup f10 = some ⟨oc10, od10, .func (PySem.W.fnOf "is_two" "is_two" (defArgs s_is_two) (defBody s_is_two) (defScope s_is_two) .none kV10 dc10 pm10 an10 cd10 ct10), sl10⟩)
    (c10 : PySem.W.codeIn K cd10 "is_two" = true)
    (k10 : PySem.W.keepIn K (.ref f10) = true)
    (a11 : PySem.W.nsIn K mainGlobals "gap" = some (some (.ref f11)))
    (l11 : K.lookup f11 = some ⟨oc11, od11, .func (PySem.W.fnOf "gap" "gap" (defArgs s_gap) (defBody s_gap) (defScope s_gap) .none kV11 dc11 pm11 an11 cd11 ct11), sl11⟩)
    (c11 : PySem.W.codeIn K cd11 "gap" = true)
    (k11 : PySem.W.keepIn K (.ref f11) = true)
    (a12 : PySem.W.nsIn K mainGlobals "check_two" = some (some (.ref f12)))
    (l12 : K.lookup f12 = some ⟨oc12, od12, .func (PySem.W.fnOf "check_two" "check_two" (defArgs s_check_two) (defBody s_check_two) (defScope s_check_two) .none kV12 dc12 pm12 an12 cd12 ct12), sl12⟩)
    (c12 : PySem.W.codeIn K cd12 "check_two" = true)
    (k12 : PySem.W.keepIn K (.ref f12) = true)
    (a13 : PySem.W.nsIn K mainGlobals "two_worth" = some (some (.ref f13)))
    (l13 : K.lookup f13 = some ⟨oc13, od13, .func (PySem.W.fnOf "two_worth" "two_worth" (defArgs s_two_worth) (defBody s_two_worth) (defScope s_two_worth) .none kV13 dc13 pm13 an13 cd13 ct13), sl13⟩)
    (c13 : PySem.W.codeIn K cd13 "two_worth" = true)
    (k13 : PySem.W.keepIn K (.ref f13) = true)
    (a14 : PySem.W.nsIn K mainGlobals "two_changed" = some (some (.ref f14)))
    (l14 : K.lookup f14 = some ⟨oc14, od14, .func (PySem.W.fnOf "two_changed" "two_changed" (defArgs s_two_changed) (defBody s_two_changed) (defScope s_two_changed) .none kV14 dc14 pm14 an14 cd14 ct14), sl14⟩)
    (c14 : PySem.W.codeIn K cd14 "two_changed" = true)
    (k14 : PySem.W.keepIn K (.ref f14) = true)
    (a15 : PySem.W.nsIn K mainGlobals "is_two_reduced" = some (some (.ref f15)))
    (l15 : K.lookup f15 = some ⟨oc15, od15, .func (PySem.W.fnOf "is_two_reduced" "is_two_reduced" (defArgs s_is_two_reduced) (defBody s_is_two_reduced) (defScope s_is_two_reduced) .none kV15 dc15 pm15 an15 cd15 ct15), sl15⟩)
    (c15 : PySem.W.codeIn K cd15 "is_two_reduced" = true)
    (k15 : PySem.W.keepIn K (.ref f15) = true)
    (a16 : PySem.W.nsIn K mainGlobals "two_reduced" = some (some (.ref f16)))
    (l16 : K.lookup f16 = some ⟨oc16, od16, .func (PySem.W.fnOf "two_reduced" "two_reduced" (defArgs s_two_reduced) (defBody s_two_reduced) (defScope s_two_reduced) .none kV16 dc16 pm16 an16 cd16 ct16), sl16⟩)
    (c16 : PySem.W.codeIn K cd16 "two_reduced" = true)
    (k16 : PySem.W.keepIn K (.ref f16) = true)
    (a17 : PySem.W.nsIn K mainGlobals "check_gap" = some (some (.ref f17)))
    (l17 : K.lookup f17 = some ⟨oc17, od17, .func (PySem.W.fnOf "check_gap" "check_gap" (defArgs s_check_gap) (defBody s_check_gap) (defScope s_check_gap) .none kV17 dc17 pm17 an17 cd17 ct17), sl17⟩)
    (c17 : PySem.W.codeIn K cd17 "check_gap" = true)
    (k17 : PySem.W.keepIn K (.ref f17) = true)
    (a18 : PySem.W.nsIn K mainGlobals "reduced_twos" = some (some (.ref f18)))
    (l18 : K.lookup f18 = some ⟨oc18, od18, .func (PySem.W.fnOf "reduced_twos" "reduced_twos" (defArgs s_reduced_twos) (defBody s_reduced_twos) (defScope s_reduced_twos) .none kV18 dc18 pm18 an18 cd18 ct18), sl18⟩)
    (c18 : PySem.W.codeIn K cd18 "reduced_twos" = true)
    (k18 : PySem.W.keepIn K (.ref f18) = true)
    (a19 : PySem.W.nsIn K mainGlobals "two_classes" = some (some (.ref f19)))
    (l19 : K.lookup f19 = some ⟨oc19, od19, .func (PySem.W.fnOf "two_classes" "two_classes" (defArgs s_two_classes) (defBody s_two_classes) (defScope s_two_classes) .none kV19 dc19 pm19 an19 cd19 ct19), sl19⟩)
    (c19 : PySem.W.codeIn K cd19 "two_classes" = true)
    (k19 : PySem.W.keepIn K (.ref f19) = true)
    (a20 : PySem.W.nsIn K mainGlobals "unit_two" = some (some (.ref f20)))
    (l20 : K.lookup f20 = some ⟨oc20, od20, .func (PySem.W.fnOf "unit_two" "unit_two" (defArgs s_unit_two) (defBody s_unit_two) (defScope s_unit_two) .none kV20 dc20 pm20 an20 cd20 ct20), sl20⟩)
    (c20 : PySem.W.codeIn K cd20 "unit_two" = true)
    (k20 : PySem.W.keepIn K (.ref f20) = true)
    (a21 : PySem.W.nsIn K mainGlobals "opposite_two" = some (some (.ref f21)))
    (l21 : K.lookup f21 = some ⟨oc21, od21, .func (PySem.W.fnOf "opposite_two" "opposite_two" (defArgs s_opposite_two) (defBody s_opposite_two) (defScope s_opposite_two) .none kV21 dc21 pm21 an21 cd21 ct21), sl21⟩)
    (c21 : PySem.W.codeIn K cd21 "opposite_two" = true)
    (k21 : PySem.W.keepIn K (.ref f21) = true)
    (a22 : PySem.W.nsIn K mainGlobals "prime_to" = some (some (.ref f22)))
    (l22 : K.lookup f22 = some ⟨oc22, od22, .func (PySem.W.fnOf "prime_to" "prime_to" (defArgs s_prime_to) (defBody s_prime_to) (defScope s_prime_to) .none kV22 dc22 pm22 an22 cd22 ct22), sl22⟩)
    (c22 : PySem.W.codeIn K cd22 "prime_to" = true)
    (k22 : PySem.W.keepIn K (.ref f22) = true)
    (a23 : PySem.W.nsIn K mainGlobals "shifted_by" = some (some (.ref f23)))
    (l23 : K.lookup f23 = some ⟨oc23, od23, .func (PySem.W.fnOf "shifted_by" "shifted_by" (defArgs s_shifted_by) (defBody s_shifted_by) (defScope s_shifted_by) .none kV23 dc23 pm23 an23 cd23 ct23), sl23⟩)
    (c23 : PySem.W.codeIn K cd23 "shifted_by" = true)
    (k23 : PySem.W.keepIn K (.ref f23) = true)
    (a24 : PySem.W.nsIn K mainGlobals "bilinear" = some (some (.ref f24)))
    (l24 : K.lookup f24 = some ⟨oc24, od24, .func (PySem.W.fnOf "bilinear" "bilinear" (defArgs s_bilinear) (defBody s_bilinear) (defScope s_bilinear) .none kV24 dc24 pm24 an24 cd24 ct24), sl24⟩)
    (c24 : PySem.W.codeIn K cd24 "bilinear" = true)
    (k24 : PySem.W.keepIn K (.ref f24) = true)
    (a25 : PySem.W.nsIn K mainGlobals "undone_two" = some (some (.ref f25)))
    (l25 : K.lookup f25 = some ⟨oc25, od25, .func (PySem.W.fnOf "undone_two" "undone_two" (defArgs s_undone_two) (defBody s_undone_two) (defScope s_undone_two) .none kV25 dc25 pm25 an25 cd25 ct25), sl25⟩)
    (c25 : PySem.W.codeIn K cd25 "undone_two" = true)
    (k25 : PySem.W.keepIn K (.ref f25) = true)
    (a26 : PySem.W.nsIn K mainGlobals "undone_columns_two" = some (some (.ref f26)))
    (l26 : K.lookup f26 = some ⟨oc26, od26, .func (PySem.W.fnOf "undone_columns_two" "undone_columns_two" (defArgs s_undone_columns_two) (defBody s_undone_columns_two) (defScope s_undone_columns_two) .none kV26 dc26 pm26 an26 cd26 ct26), sl26⟩)
    (c26 : PySem.W.codeIn K cd26 "undone_columns_two" = true)
    (k26 : PySem.W.keepIn K (.ref f26) = true)
    (a27 : PySem.W.nsIn K mainGlobals "put_together" = some (some (.ref f27)))
    (l27 : K.lookup f27 = some ⟨oc27, od27, .func (PySem.W.fnOf "put_together" "put_together" (defArgs s_put_together) (defBody s_put_together) (defScope s_put_together) .none kV27 dc27 pm27 an27 cd27 ct27), sl27⟩)
    (c27 : PySem.W.codeIn K cd27 "put_together" = true)
    (k27 : PySem.W.keepIn K (.ref f27) = true)
    (a28 : PySem.W.nsIn K mainGlobals "shows_together" = some (some (.ref f28)))
    (l28 : K.lookup f28 = some ⟨oc28, od28, .func (PySem.W.fnOf "shows_together" "shows_together" (defArgs s_shows_together) (defBody s_shows_together) (defScope s_shows_together) .none kV28 dc28 pm28 an28 cd28 ct28), sl28⟩)
    (c28 : PySem.W.codeIn K cd28 "shows_together" = true)
    (k28 : PySem.W.keepIn K (.ref f28) = true)
    (a29 : PySem.W.nsIn K mainGlobals "class_power" = some (some (.ref f29)))
    (l29 : K.lookup f29 = some ⟨oc29, od29, .func (PySem.W.fnOf "class_power" "class_power" (defArgs s_class_power) (defBody s_class_power) (defScope s_class_power) .none kV29 dc29 pm29 an29 cd29 ct29), sl29⟩)
    (c29 : PySem.W.codeIn K cd29 "class_power" = true)
    (k29 : PySem.W.keepIn K (.ref f29) = true)
    (a30 : PySem.W.nsIn K mainGlobals "class_order" = some (some (.ref f30)))
    (l30 : K.lookup f30 = some ⟨oc30, od30, .func (PySem.W.fnOf "class_order" "class_order" (defArgs s_class_order) (defBody s_class_order) (defScope s_class_order) .none kV30 dc30 pm30 an30 cd30 ct30), sl30⟩)
    (c30 : PySem.W.codeIn K cd30 "class_order" = true)
    (k30 : PySem.W.keepIn K (.ref f30) = true)
    (a31 : PySem.W.nsIn K mainGlobals "_law_cell" = some (some (.ref f31)))
    (l31 : K.lookup f31 = some ⟨oc31, od31, .func (PySem.W.fnOf "_law_cell" "_law_cell" (defArgs s_l_cell) (defBody s_l_cell) (defScope s_l_cell) .none kV31 dc31 pm31 an31 cd31 ct31), sl31⟩)
    (c31 : PySem.W.codeIn K cd31 "_law_cell" = true)
    (k31 : PySem.W.keepIn K (.ref f31) = true)
    (a32 : PySem.W.nsIn K mainGlobals "_law_digits" = some (some (.ref f32)))
    (l32 : K.lookup f32 = some ⟨oc32, od32, .func (PySem.W.fnOf "_law_digits" "_law_digits" (defArgs s_l_digits) (defBody s_l_digits) (defScope s_l_digits) .none kV32 dc32 pm32 an32 cd32 ct32), sl32⟩)
    (c32 : PySem.W.codeIn K cd32 "_law_digits" = true)
    (k32 : PySem.W.keepIn K (.ref f32) = true)
    (a33 : PySem.W.nsIn K mainGlobals "_law_draw" = some (some (.ref f33)))
    (l33 : K.lookup f33 = some ⟨oc33, od33, .func (PySem.W.fnOf "_law_draw" "_law_draw" (defArgs s_l_draw) (defBody s_l_draw) (defScope s_l_draw) .none kV33 dc33 pm33 an33 cd33 ct33), sl33⟩)
    (c33 : PySem.W.codeIn K cd33 "_law_draw" = true)
    (k33 : PySem.W.keepIn K (.ref f33) = true)
    (a34 : PySem.W.nsIn K mainGlobals "_law_pick" = some (some (.ref f34)))
    (l34 : K.lookup f34 = some ⟨oc34, od34, .func (PySem.W.fnOf "_law_pick" "_law_pick" (defArgs s_l_pick) (defBody s_l_pick) (defScope s_l_pick) .none kV34 dc34 pm34 an34 cd34 ct34), sl34⟩)
    (c34 : PySem.W.codeIn K cd34 "_law_pick" = true)
    (k34 : PySem.W.keepIn K (.ref f34) = true)
    (a35 : PySem.W.nsIn K mainGlobals "_law_same" = some (some (.ref f35)))
    (l35 : K.lookup f35 = some ⟨oc35, od35, .func (PySem.W.fnOf "_law_same" "_law_same" (defArgs s_l_same) (defBody s_l_same) (defScope s_l_same) .none kV35 dc35 pm35 an35 cd35 ct35), sl35⟩)
    (c35 : PySem.W.codeIn K cd35 "_law_same" = true)
    (k35 : PySem.W.keepIn K (.ref f35) = true)
    (a36 : PySem.W.nsIn K mainGlobals "_law_det" = some (some (.ref f36)))
    (l36 : K.lookup f36 = some ⟨oc36, od36, .func (PySem.W.fnOf "_law_det" "_law_det" (defArgs s_l_det) (defBody s_l_det) (defScope s_l_det) .none kV36 dc36 pm36 an36 cd36 ct36), sl36⟩)
    (c36 : PySem.W.codeIn K cd36 "_law_det" = true)
    (k36 : PySem.W.keepIn K (.ref f36) = true)
    (a37 : PySem.W.nsIn K mainGlobals "_law_unit" = some (some (.ref f37)))
    (l37 : K.lookup f37 = some ⟨oc37, od37, .func (PySem.W.fnOf "_law_unit" "_law_unit" (defArgs s_l_unit) (defBody s_l_unit) (defScope s_l_unit) .none kV37 dc37 pm37 an37 cd37 ct37), sl37⟩)
    (c37 : PySem.W.codeIn K cd37 "_law_unit" = true)
    (k37 : PySem.W.keepIn K (.ref f37) = true)
    (a38 : PySem.W.nsIn K mainGlobals "_law_change" = some (some (.ref f38)))
    (l38 : K.lookup f38 = some ⟨oc38, od38, .func (PySem.W.fnOf "_law_change" "_law_change" (defArgs s_l_change) (defBody s_l_change) (defScope s_l_change) .none kV38 dc38 pm38 an38 cd38 ct38), sl38⟩)
    (c38 : PySem.W.codeIn K cd38 "_law_change" = true)
    (k38 : PySem.W.keepIn K (.ref f38) = true)
    (a39 : PySem.W.nsIn K mainGlobals "_law_quartic" = some (some (.ref f39)))
    (l39 : K.lookup f39 = some ⟨oc39, od39, .func (PySem.W.fnOf "_law_quartic" "_law_quartic" (defArgs s_l_quartic) (defBody s_l_quartic) (defScope s_l_quartic) .none kV39 dc39 pm39 an39 cd39 ct39), sl39⟩)
    (c39 : PySem.W.codeIn K cd39 "_law_quartic" = true)
    (k39 : PySem.W.keepIn K (.ref f39) = true)
    (a40 : PySem.W.nsIn K mainGlobals "_law_put_in" = some (some (.ref f40)))
    (l40 : K.lookup f40 = some ⟨oc40, od40, .func (PySem.W.fnOf "_law_put_in" "_law_put_in" (defArgs s_l_put_in) (defBody s_l_put_in) (defScope s_l_put_in) .none kV40 dc40 pm40 an40 cd40 ct40), sl40⟩)
    (c40 : PySem.W.codeIn K cd40 "_law_put_in" = true)
    (k40 : PySem.W.keepIn K (.ref f40) = true)
    (a41 : PySem.W.nsIn K mainGlobals "_law_shows" = some (some (.ref f41)))
    (l41 : K.lookup f41 = some ⟨oc41, od41, .func (PySem.W.fnOf "_law_shows" "_law_shows" (defArgs s_l_shows) (defBody s_l_shows) (defScope s_l_shows) .none kV41 dc41 pm41 an41 cd41 ct41), sl41⟩)
    (c41 : PySem.W.codeIn K cd41 "_law_shows" = true)
    (k41 : PySem.W.keepIn K (.ref f41) = true)
    (a42 : PySem.W.nsIn K mainGlobals "_law_two_change" = some (some (.ref f42)))
    (l42 : K.lookup f42 = some ⟨oc42, od42, .func (PySem.W.fnOf "_law_two_change" "_law_two_change" (defArgs s_l_two_change) (defBody s_l_two_change) (defScope s_l_two_change) .none kV42 dc42 pm42 an42 cd42 ct42), sl42⟩)
    (c42 : PySem.W.codeIn K cd42 "_law_two_change" = true)
    (k42 : PySem.W.keepIn K (.ref f42) = true)
    (a43 : PySem.W.nsIn K mainGlobals "law" = some (some (.ref f43)))
    (l43 : K.lookup f43 = some ⟨oc43, od43, .func (PySem.W.fnOf "law" "law" (defArgs s_l_law) (defBody s_l_law) (defScope s_l_law) .none kV43 dc43 pm43 an43 cd43 ct43), sl43⟩)
    (c43 : PySem.W.codeIn K cd43 "law" = true)
    (k43 : PySem.W.keepIn K (.ref f43) = true)
    (z_abs : PySem.W.nsIn K mainGlobals "abs" = some none)
    (z_all : PySem.W.nsIn K mainGlobals "all" = some none)
    (z_bool : PySem.W.nsIn K mainGlobals "bool" = some none)
    (z_int : PySem.W.nsIn K mainGlobals "int" = some none)
    (z_isinstance : PySem.W.nsIn K mainGlobals "isinstance" = some none)
    (z_len : PySem.W.nsIn K mainGlobals "len" = some none)
    (z_list : PySem.W.nsIn K mainGlobals "list" = some none)
    (z_range : PySem.W.nsIn K mainGlobals "range" = some none)
    (z_repr : PySem.W.nsIn K mainGlobals "repr" = some none)
    (z_sum : PySem.W.nsIn K mainGlobals "sum" = some none)
    (z_tuple : PySem.W.nsIn K mainGlobals "tuple" = some none)
    (z_zip : PySem.W.nsIn K mainGlobals "zip" = some none)
    (z_super : PySem.W.nsIn K mainGlobals "super" = some none)
    (g_UNIT : PySem.W.nsIn K mainGlobals "UNIT" = some (some a_UNIT))
    (k_UNIT : konB K a_UNIT k_UNIT = true)
    (xC : PySem.W.nsIn K mainGlobals "BadTable" = some (some (.ref C)))
    (xL : K.lookup C = some (excClassObj nm q C NC bs bm true sn sub ab col dd m0 m1 m2 m3 m5 "ValueError.__new__"))
    (xB : PySem.HandSPX.refsVE bm = true)
    (xsa : PySem.W.findIn K (.ref C) "__setattr__" = some (some (.builtin "object.__setattr__")))
    (xga : PySem.W.findIn K (.ref C) "__getattribute__" = some (some (.builtin "BaseException.__getattribute__")))
    (xgg : PySem.W.findIn K (.ref C) "__getattr__" = some none)
    (xno : PySem.W.findIn K (.ref C) "reason" = some none)
    (xiC : PySem.W.findIn K (.ref C) "__init__" = some (some (.ref fI)))
    (xtC : PySem.W.typeIn K (.ref fI) = some (.type "function"))
    (xkC : PySem.W.keepIn K (.ref C) = true)
    (xexC : PySem.W.subIn K (.ref C) (.type "BaseException") = some true)
    (xtyC : PySem.W.typeIn K (.ref C) = some (.type "type"))
    (xhdC : PySem.W.hasDictIn K C = true)
    (xiscl : PySem.W.isClsIn K C = true)
    (xself : PySem.W.subIn K (.ref C) (.ref C) = some true)
    (xve : PySem.W.subIn K (.ref C) (.type "ValueError") = some true)
    (xup : PySem.W.ks_superIn K C C "__init__" = some (some (.builtin "ValueError.__init__")))
    (xmr : PySem.W.mroIn K C (.ref C) = some true)
    (xany : PySem.W.nsIn K cStatics "thirdparty.any" = some none)
    (xlI : K.lookup fI = some ⟨ocI, odI, .func (PySem.W.ksFn "__init__" "BadTable.__init__" (PySem.BadX.bA ⟨6, 17, 6, 21⟩ ⟨6, 23, 6, 29⟩) (PySem.BadX.bB ⟨7, 8, 7, 13⟩ ⟨7, 8, 7, 15⟩ ⟨7, 8, 7, 24⟩ ⟨7, 25, 7, 31⟩ ⟨7, 8, 7, 32⟩ ⟨7, 8, 7, 32⟩ ⟨8, 8, 8, 12⟩ ⟨8, 8, 8, 19⟩ ⟨8, 22, 8, 28⟩ ⟨8, 8, 8, 28⟩) PySem.BadX.bS .none .none dcI pmI anI (.ref cda) ctI cc), slI⟩)
    (xcI : PySem.W.codeIn K (.ref cda) "BadTable.__init__" = true)
    (xcd : K.lookup cda = some ⟨ccl, cdd, .fields vs, ccs⟩)
    (xvs : vs[2]? = some (.str file tf))
    (xfile : ((PySem.Challenge.pw_everygrid_k12_classes_together.main.file : Str) == file) = true)
    (xcc : K.lookup cc = some ⟨cl, cld, .cell (some (.ref C)), csl⟩) :
    ∃ fd : FuncData, (∀ (s : Shared) (u : Value), BindsTo s fd ⟨[u], []⟩ [("script", u)]) ∧ ∀ base : Heap, K.In base → base.Ns mainGlobals mg → FnG PySem.Challenge.pw_everygrid_k12_classes_together w K mg base 8 fa fd ["script"] m_l_law := by
  have e := hfa.symm.trans (PySem.W.mg_of X G a43)
  cases e
  have x : PySem.BadX.BadTxt PySem.Challenge.pw_everygrid_k12_classes_together K mg "BadTable" "BadTable.__init__" C fI := { gC := PySem.W.mg_of X G xC, cls := ⟨nm, q, NC, bs, bm, sn, sub, ab, col, dd, m0, m1, m2, m3, m5, xL, xB⟩, sa := xsa, ga := xga, gg := xgg, noN := xno, iC := xiC, tC := xtC, kC := xkC, exC := xexC, tyC := xtyC, hdC := xhdC, te := exm_self xexC xiscl xtyC xself, veC := xve, upC := xup, mrC := xmr, any := xany, sup := PySem.W.mg_none_of X G z_super, top := by decide +kernel, fn := ⟨_, _, _, _, _, _, _, _, _, _, _, _, _, _, _, _, _, _, _, _, _, _, _, _, _, _, _, _, _, _, xlI, xcI, xcd, xvs, xfile, xcc, ⟨_, fun _ => rfl⟩⟩ }
  have t : Tx PySem.Challenge.pw_everygrid_k12_classes_together K mg C fI a_UNIT := ⟨PySem.W.mg_none_of X G z_abs, PySem.W.mg_none_of X G z_all, PySem.W.mg_none_of X G z_bool, PySem.W.mg_none_of X G z_int, PySem.W.mg_none_of X G z_isinstance, PySem.W.mg_none_of X G z_len, PySem.W.mg_none_of X G z_list, PySem.W.mg_none_of X G z_range, PySem.W.mg_none_of X G z_repr, PySem.W.mg_none_of X G z_sum, PySem.W.mg_none_of X G z_tuple, PySem.W.mg_none_of X G z_zip, PySem.W.mg_of X G g_UNIT, k_UNIT, x⟩
  have F0 := fun_mk (st := s_divisor) l0 c0 k0
  have b0 := F0.binds (ps := ["one", "other"]) fun _ _ _ _ _ _ us hl => match us, hl with | [_, _], _ => rfl
  have F1 := fun_mk (st := s_divisor_of) l1 c1 k1
  have b1 := F1.binds (ps := ["numbers"]) fun _ _ _ _ _ _ us hl => match us, hl with | [_], _ => rfl
  have F2 := fun_mk (st := s_bezout) l2 c2 k2
  have b2 := F2.binds (ps := ["one", "other"]) fun _ _ _ _ _ _ us hl => match us, hl with | [_, _], _ => rfl
  have F3 := fun_mk (st := s_root) l3 c3 k3
  have b3 := F3.binds (ps := ["number"]) fun _ _ _ _ _ _ us hl => match us, hl with | [_], _ => rfl
  have F4 := fun_mk (st := s_is_whole) l4 c4 k4
  have b4 := F4.binds (ps := ["number"]) fun _ _ _ _ _ _ us hl => match us, hl with | [_], _ => rfl
  have F5 := fun_mk (st := s_is_row) l5 c5 k5
  have b5 := F5.binds (ps := ["row"]) fun _ _ _ _ _ _ us hl => match us, hl with | [_], _ => rfl
  have F6 := fun_mk (st := s_wide) l6 c6 k6
  have b6 := F6.binds (ps := ["table"]) fun _ _ _ _ _ _ us hl => match us, hl with | [_], _ => rfl
  have F7 := fun_mk (st := s_turned) l7 c7 k7
  have b7 := F7.binds (ps := ["table"]) fun _ _ _ _ _ _ us hl => match us, hl with | [_], _ => rfl
  have F8 := fun_mk (st := s_dot) l8 c8 k8
  have b8 := F8.binds (ps := ["one", "other"]) fun _ _ _ _ _ _ us hl => match us, hl with | [_, _], _ => rfl
  have F9 := fun_mk (st := s_product) l9 c9 k9
  have b9 := F9.binds (ps := ["one", "other"]) fun _ _ _ _ _ _ us hl => match us, hl with | [_, _], _ => rfl
  have F10 := fun_mk (st := s_is_two) l10 c10 k10
  have b10 := F10.binds (ps := ["shape"]) fun _ _ _ _ _ _ us hl => match us, hl with | [_], _ => rfl
  have F11 := fun_mk (st := s_gap) l11 c11 k11
  have b11 := F11.binds (ps := ["two"]) fun _ _ _ _ _ _ us hl => match us, hl with | [_], _ => rfl
  have F12 := fun_mk (st := s_check_two) l12 c12 k12
  have b12 := F12.binds (ps := ["two"]) fun _ _ _ _ _ _ us hl => match us, hl with | [_], _ => rfl
  have F13 := fun_mk (st := s_two_worth) l13 c13 k13
  have b13 := F13.binds (ps := ["two", "x", "y"]) fun _ _ _ _ _ _ us hl => match us, hl with | [_, _, _], _ => rfl
  have F14 := fun_mk (st := s_two_changed) l14 c14 k14
  have b14 := F14.binds (ps := ["two", "rows"]) fun _ _ _ _ _ _ us hl => match us, hl with | [_, _], _ => rfl
  have F15 := fun_mk (st := s_is_two_reduced) l15 c15 k15
  have b15 := F15.binds (ps := ["two"]) fun _ _ _ _ _ _ us hl => match us, hl with | [_], _ => rfl
  have F16 := fun_mk (st := s_two_reduced) l16 c16 k16
  have b16 := F16.binds (ps := ["two"]) fun _ _ _ _ _ _ us hl => match us, hl with | [_], _ => rfl
  have F17 := fun_mk (st := s_check_gap) l17 c17 k17
  have b17 := F17.binds (ps := ["number"]) fun _ _ _ _ _ _ us hl => match us, hl with | [_], _ => rfl
  have F18 := fun_mk (st := s_reduced_twos) l18 c18 k18
  have b18 := F18.binds (ps := ["number"]) fun _ _ _ _ _ _ us hl => match us, hl with | [_], _ => rfl
  have F19 := fun_mk (st := s_two_classes) l19 c19 k19
  have b19 := F19.binds (ps := ["number"]) fun _ _ _ _ _ _ us hl => match us, hl with | [_], _ => rfl
  have F20 := fun_mk (st := s_unit_two) l20 c20 k20
  have b20 := F20.binds (ps := ["number"]) fun _ _ _ _ _ _ us hl => match us, hl with | [_], _ => rfl
  have F21 := fun_mk (st := s_opposite_two) l21 c21 k21
  have b21 := F21.binds (ps := ["two"]) fun _ _ _ _ _ _ us hl => match us, hl with | [_], _ => rfl
  have F22 := fun_mk (st := s_prime_to) l22 c22 k22
  have b22 := F22.binds (ps := ["two", "number"]) fun _ _ _ _ _ _ us hl => match us, hl with | [_, _], _ => rfl
  have F23 := fun_mk (st := s_shifted_by) l23 c23 k23
  have b23 := F23.binds (ps := ["two", "other"]) fun _ _ _ _ _ _ us hl => match us, hl with | [_, _], _ => rfl
  have F24 := fun_mk (st := s_bilinear) l24 c24 k24
  have b24 := F24.binds (ps := ["left", "right", "rows"]) fun _ _ _ _ _ _ us hl => match us, hl with | [_, _, _], _ => rfl
  have F25 := fun_mk (st := s_undone_two) l25 c25 k25
  have b25 := F25.binds (ps := ["rows"]) fun _ _ _ _ _ _ us hl => match us, hl with | [_], _ => rfl
  have F26 := fun_mk (st := s_undone_columns_two) l26 c26 k26
  have b26 := F26.binds (ps := ["change"]) fun _ _ _ _ _ _ us hl => match us, hl with | [_], _ => rfl
  have F27 := fun_mk (st := s_put_together) l27 c27 k27
  have b27 := F27.binds (ps := ["two", "other"]) fun _ _ _ _ _ _ us hl => match us, hl with | [_, _], _ => rfl
  have F28 := fun_mk (st := s_shows_together) l28 c28 k28
  have b28 := F28.binds (ps := ["two", "other", "whole", "paper"]) fun _ _ _ _ _ _ us hl => match us, hl with | [_, _, _, _], _ => rfl
  have F29 := fun_mk (st := s_class_power) l29 c29 k29
  have b29 := F29.binds (ps := ["two", "power"]) fun _ _ _ _ _ _ us hl => match us, hl with | [_, _], _ => rfl
  have F30 := fun_mk (st := s_class_order) l30 c30 k30
  have b30 := F30.binds (ps := ["two"]) fun _ _ _ _ _ _ us hl => match us, hl with | [_], _ => rfl
  have F31 := fun_mk (st := s_l_cell) l31 c31 k31
  have b31 := F31.binds (ps := ["script", "k"]) fun _ _ _ _ _ _ us hl => match us, hl with | [_, _], _ => rfl
  have F32 := fun_mk (st := s_l_digits) l32 c32 k32
  have b32 := F32.binds (ps := ["script", "first", "last"]) fun _ _ _ _ _ _ us hl => match us, hl with | [_, _, _], _ => rfl
  have F33 := fun_mk (st := s_l_draw) l33 c33 k33
  have b33 := F33.binds (ps := ["box", "m"]) fun _ _ _ _ _ _ us hl => match us, hl with | [_, _], _ => rfl
  have F34 := fun_mk (st := s_l_pick) l34 c34 k34
  have b34 := F34.binds (ps := ["box", "rows"]) fun _ _ _ _ _ _ us hl => match us, hl with | [_, _], _ => rfl
  have F35 := fun_mk (st := s_l_same) l35 c35 k35
  have b35 := F35.binds (ps := ["one", "other"]) fun _ _ _ _ _ _ us hl => match us, hl with | [_, _], _ => rfl
  have F36 := fun_mk (st := s_l_det) l36 c36 k36
  have b36 := F36.binds (ps := ["table"]) fun _ _ _ _ _ _ us hl => match us, hl with | [_], _ => rfl
  have F37 := fun_mk (st := s_l_unit) l37 c37 k37
  have b37 := F37.binds (ps := ["many"]) fun _ _ _ _ _ _ us hl => match us, hl with | [_], _ => rfl
  have F38 := fun_mk (st := s_l_change) l38 c38 k38
  have b38 := F38.binds (ps := ["box", "many", "steps"]) fun _ _ _ _ _ _ us hl => match us, hl with | [_, _, _], _ => rfl
  have F39 := fun_mk (st := s_l_quartic) l39 c39 k39
  have b39 := F39.binds (ps := ["one", "other"]) fun _ _ _ _ _ _ us hl => match us, hl with | [_, _], _ => rfl
  have F40 := fun_mk (st := s_l_put_in) l40 c40 k40
  have b40 := F40.binds (ps := ["form", "rows"]) fun _ _ _ _ _ _ us hl => match us, hl with | [_, _], _ => rfl
  have F41 := fun_mk (st := s_l_shows) l41 c41 k41
  have b41 := F41.binds (ps := ["one", "other", "form", "paper"]) fun _ _ _ _ _ _ us hl => match us, hl with | [_, _, _, _], _ => rfl
  have F42 := fun_mk (st := s_l_two_change) l42 c42 k42
  have b42 := F42.binds (ps := ["box"]) fun _ _ _ _ _ _ us hl => match us, hl with | [_], _ => rfl
  have F43 := fun_mk (st := s_l_law) l43 c43 k43
  have b43 := F43.binds (ps := ["script"]) fun _ _ _ _ _ _ us hl => match us, hl with | [_], _ => rfl
  refine ⟨PySem.W.fnOf "law" "law" (defArgs s_l_law) (defBody s_l_law) (defScope s_l_law) .none kV43 dc43 pm43 an43 cd43 ct43, fun s v => .of_eq rfl, fun base _ _ => ?_⟩
  have c_divisor : CalG PySem.Challenge.pw_everygrid_k12_classes_together w K mg base 1 "divisor" m_divisor := ⟨_, _, _, ok_divisor F0 t , PySem.W.mg_of X G a0, k0, b0⟩
  have c_divisor_of : CalG PySem.Challenge.pw_everygrid_k12_classes_together w K mg base 2 "divisor_of" m_divisor_of := ⟨_, _, _, ok_divisor_of F1 t c_divisor, PySem.W.mg_of X G a1, k1, b1⟩
  have c_bezout : CalG PySem.Challenge.pw_everygrid_k12_classes_together w K mg base 1 "bezout" m_bezout := ⟨_, _, _, ok_bezout F2 t , PySem.W.mg_of X G a2, k2, b2⟩
  have c_root : CalG PySem.Challenge.pw_everygrid_k12_classes_together w K mg base 1 "root" m_root := ⟨_, _, _, ok_root F3 t , PySem.W.mg_of X G a3, k3, b3⟩
  have c_is_whole : CalG PySem.Challenge.pw_everygrid_k12_classes_together w K mg base 1 "is_whole" m_is_whole := ⟨_, _, _, ok_is_whole F4 t , PySem.W.mg_of X G a4, k4, b4⟩
  have c_is_row : CalG PySem.Challenge.pw_everygrid_k12_classes_together w K mg base 2 "is_row" m_is_row := ⟨_, _, _, ok_is_row F5 t c_is_whole, PySem.W.mg_of X G a5, k5, b5⟩
  have c_wide : CalG PySem.Challenge.pw_everygrid_k12_classes_together w K mg base 1 "wide" m_wide := ⟨_, _, _, ok_wide F6 t , PySem.W.mg_of X G a6, k6, b6⟩
  have c_turned : CalG PySem.Challenge.pw_everygrid_k12_classes_together w K mg base 2 "turned" m_turned := ⟨_, _, _, ok_turned F7 t c_wide, PySem.W.mg_of X G a7, k7, b7⟩
  have c_dot : CalG PySem.Challenge.pw_everygrid_k12_classes_together w K mg base 1 "dot" m_dot := ⟨_, _, _, ok_dot F8 t , PySem.W.mg_of X G a8, k8, b8⟩
  have c_product : CalG PySem.Challenge.pw_everygrid_k12_classes_together w K mg base 3 "product" m_product := ⟨_, _, _, ok_product F9 t c_turned c_dot, PySem.W.mg_of X G a9, k9, b9⟩
  have c_is_two : CalG PySem.Challenge.pw_everygrid_k12_classes_together w K mg base 3 "is_two" m_is_two := ⟨_, _, _, ok_is_two F10 t c_is_row, PySem.W.mg_of X G a10, k10, b10⟩
  have c_gap : CalG PySem.Challenge.pw_everygrid_k12_classes_together w K mg base 1 "gap" m_gap := ⟨_, _, _, ok_gap F11 t , PySem.W.mg_of X G a11, k11, b11⟩
  have c_check_two : CalG PySem.Challenge.pw_everygrid_k12_classes_together w K mg base 4 "check_two" m_check_two := ⟨_, _, _, ok_check_two F12 t c_divisor_of c_is_two c_gap, PySem.W.mg_of X G a12, k12, b12⟩
  have c_two_worth : CalG PySem.Challenge.pw_everygrid_k12_classes_together w K mg base 1 "two_worth" m_two_worth := ⟨_, _, _, ok_two_worth F13 t , PySem.W.mg_of X G a13, k13, b13⟩
  have c_two_changed : CalG PySem.Challenge.pw_everygrid_k12_classes_together w K mg base 2 "two_changed" m_two_changed := ⟨_, _, _, ok_two_changed F14 t c_two_worth, PySem.W.mg_of X G a14, k14, b14⟩
  have c_is_two_reduced : CalG PySem.Challenge.pw_everygrid_k12_classes_together w K mg base 1 "is_two_reduced" m_is_two_reduced := ⟨_, _, _, ok_is_two_reduced F15 t , PySem.W.mg_of X G a15, k15, b15⟩
  have c_two_reduced : CalG PySem.Challenge.pw_everygrid_k12_classes_together w K mg base 5 "two_reduced" m_two_reduced := ⟨_, _, _, ok_two_reduced F16 t c_product c_check_two c_two_changed c_is_two_reduced, PySem.W.mg_of X G a16, k16, b16⟩
  have c_check_gap : CalG PySem.Challenge.pw_everygrid_k12_classes_together w K mg base 1 "check_gap" m_check_gap := ⟨_, _, _, ok_check_gap F17 t , PySem.W.mg_of X G a17, k17, b17⟩
  have c_reduced_twos : CalG PySem.Challenge.pw_everygrid_k12_classes_together w K mg base 2 "reduced_twos" m_reduced_twos := ⟨_, _, _, ok_reduced_twos F18 t c_root c_is_two_reduced c_check_gap, PySem.W.mg_of X G a18, k18, b18⟩
  have c_two_classes : CalG PySem.Challenge.pw_everygrid_k12_classes_together w K mg base 3 "two_classes" m_two_classes := ⟨_, _, _, ok_two_classes F19 t c_divisor_of c_reduced_twos, PySem.W.mg_of X G a19, k19, b19⟩
  have c_unit_two : CalG PySem.Challenge.pw_everygrid_k12_classes_together w K mg base 2 "unit_two" m_unit_two := ⟨_, _, _, ok_unit_two F20 t c_check_gap, PySem.W.mg_of X G a20, k20, b20⟩
  have c_opposite_two : CalG PySem.Challenge.pw_everygrid_k12_classes_together w K mg base 6 "opposite_two" m_opposite_two := ⟨_, _, _, ok_opposite_two F21 t c_check_two c_two_reduced, PySem.W.mg_of X G a21, k21, b21⟩
  have c_prime_to : CalG PySem.Challenge.pw_everygrid_k12_classes_together w K mg base 2 "prime_to" m_prime_to := ⟨_, _, _, ok_prime_to F22 t c_divisor c_bezout c_two_worth, PySem.W.mg_of X G a22, k22, b22⟩
  have c_shifted_by : CalG PySem.Challenge.pw_everygrid_k12_classes_together w K mg base 2 "shifted_by" m_shifted_by := ⟨_, _, _, ok_shifted_by F23 t c_bezout, PySem.W.mg_of X G a23, k23, b23⟩
  have c_bilinear : CalG PySem.Challenge.pw_everygrid_k12_classes_together w K mg base 4 "bilinear" m_bilinear := ⟨_, _, _, ok_bilinear F24 t c_turned c_product, PySem.W.mg_of X G a24, k24, b24⟩
  have c_undone_two : CalG PySem.Challenge.pw_everygrid_k12_classes_together w K mg base 1 "undone_two" m_undone_two := ⟨_, _, _, ok_undone_two F25 t , PySem.W.mg_of X G a25, k25, b25⟩
  have c_undone_columns_two : CalG PySem.Challenge.pw_everygrid_k12_classes_together w K mg base 1 "undone_columns_two" m_undone_columns_two := ⟨_, _, _, ok_undone_columns_two F26 t , PySem.W.mg_of X G a26, k26, b26⟩
  have c_put_together : CalG PySem.Challenge.pw_everygrid_k12_classes_together w K mg base 6 "put_together" m_put_together := ⟨_, _, _, ok_put_together F27 t c_product c_gap c_check_two c_two_changed c_two_reduced c_prime_to c_shifted_by c_bilinear c_undone_two c_undone_columns_two, PySem.W.mg_of X G a27, k27, b27⟩
  have c_shows_together : CalG PySem.Challenge.pw_everygrid_k12_classes_together w K mg base 3 "shows_together" m_shows_together := ⟨_, _, _, ok_shows_together F28 t c_is_row c_two_worth, PySem.W.mg_of X G a28, k28, b28⟩
  have c_class_power : CalG PySem.Challenge.pw_everygrid_k12_classes_together w K mg base 7 "class_power" m_class_power := ⟨_, _, _, ok_class_power F29 t c_gap c_check_two c_unit_two c_put_together, PySem.W.mg_of X G a29, k29, b29⟩
  have c_class_order : CalG PySem.Challenge.pw_everygrid_k12_classes_together w K mg base 7 "class_order" m_class_order := ⟨_, _, _, ok_class_order F30 t c_gap c_check_two c_two_reduced c_unit_two c_put_together, PySem.W.mg_of X G a30, k30, b30⟩
  have c_l_cell : CalG PySem.Challenge.pw_everygrid_k12_classes_together w K mg base 1 "_law_cell" m_l_cell := ⟨_, _, _, ok_l_cell F31 t , PySem.W.mg_of X G a31, k31, b31⟩
  have c_l_digits : CalG PySem.Challenge.pw_everygrid_k12_classes_together w K mg base 2 "_law_digits" m_l_digits := ⟨_, _, _, ok_l_digits F32 t c_l_cell, PySem.W.mg_of X G a32, k32, b32⟩
  have c_l_draw : CalG PySem.Challenge.pw_everygrid_k12_classes_together w K mg base 1 "_law_draw" m_l_draw := ⟨_, _, _, ok_l_draw F33 t , PySem.W.mg_of X G a33, k33, b33⟩
  have c_l_pick : CalG PySem.Challenge.pw_everygrid_k12_classes_together w K mg base 2 "_law_pick" m_l_pick := ⟨_, _, _, ok_l_pick F34 t c_l_draw, PySem.W.mg_of X G a34, k34, b34⟩
  have c_l_same : CalG PySem.Challenge.pw_everygrid_k12_classes_together w K mg base 1 "_law_same" m_l_same := ⟨_, _, _, ok_l_same F35 t , PySem.W.mg_of X G a35, k35, b35⟩
  have c_l_det : CalG PySem.Challenge.pw_everygrid_k12_classes_together w K mg base 4 "_law_det" (m_l_det 3) := ⟨_, _, _, ok_l_det F36 t  (PySem.W.mg_of X G a36) k36 b36 3, PySem.W.mg_of X G a36, k36, b36⟩
  have c_l_unit : CalG PySem.Challenge.pw_everygrid_k12_classes_together w K mg base 1 "_law_unit" m_l_unit := ⟨_, _, _, ok_l_unit F37 t , PySem.W.mg_of X G a37, k37, b37⟩
  have c_l_change : CalG PySem.Challenge.pw_everygrid_k12_classes_together w K mg base 3 "_law_change" m_l_change := ⟨_, _, _, ok_l_change F38 t c_l_draw c_l_pick c_l_unit, PySem.W.mg_of X G a38, k38, b38⟩
  have c_l_quartic : CalG PySem.Challenge.pw_everygrid_k12_classes_together w K mg base 1 "_law_quartic" m_l_quartic := ⟨_, _, _, ok_l_quartic F39 t , PySem.W.mg_of X G a39, k39, b39⟩
  have c_l_put_in : CalG PySem.Challenge.pw_everygrid_k12_classes_together w K mg base 1 "_law_put_in" m_l_put_in := ⟨_, _, _, ok_l_put_in F40 t , PySem.W.mg_of X G a40, k40, b40⟩
  have c_l_shows : CalG PySem.Challenge.pw_everygrid_k12_classes_together w K mg base 2 "_law_shows" m_l_shows := ⟨_, _, _, ok_l_shows F41 t c_l_quartic c_l_put_in, PySem.W.mg_of X G a41, k41, b41⟩
  have c_l_two_change : CalG PySem.Challenge.pw_everygrid_k12_classes_together w K mg base 5 "_law_two_change" m_l_two_change := ⟨_, _, _, ok_l_two_change F42 t c_l_det c_l_change, PySem.W.mg_of X G a42, k42, b42⟩
  exact ok_l_law F43 t c_two_changed c_is_two_reduced c_two_reduced c_two_classes c_unit_two c_opposite_two c_put_together c_shows_together c_class_power c_class_order c_l_digits c_l_draw c_l_pick c_l_same c_l_shows c_l_two_change
end K12
open PySem PySem.W PyProof.Rows
set_option maxHeartbeats 0 in
theorem PySem.Challenge.cw_everygrid_k12_classes_together_holds : PySem.Challenge.rw_everygrid_k12_classes_together.Holds := by
  w_on; o_law; k_head; (case hw => w_witness2)
  k_fill
  refine DL.walk_G (l := PySem.Challenge.rw_everygrid_k12_classes_together) (n := 63) (k := 8) (x := "script") K12.m_l_law rfl (by decide) rfl ⟨rfl, by decide, by decide⟩ (fun w h Y => PySem.W.kIn_of Y) ?F (fun ns hl => K12.law_ok ns hl)
  case F =>
    intro w mg fa h KX G hmg
    refine' K12.all_mk KX G hmg ?a0 ?l0 ?c0 ?k0 ?a1 ?l1 ?c1 ?k1 ?a2 ?l2 ?c2 ?k2 ?a3 ?l3 ?c3 ?k3 ?a4 ?l4 ?c4 ?k4 ?a5 ?l5 ?c5 ?k5 ?a6 ?l6 ?c6 ?k6 ?a7 ?l7 ?c7 ?k7 ?a8 ?l8 ?c8 ?k8 ?a9 ?l9 ?c9 ?k9 ?a10 ?l10 ?c10 ?k10 ?a11 ?l11 ?c11 ?k11 ?a12 ?l12 ?c12 ?k12 ?a13 ?l13 ?c13 ?k13 ?a14 ?l14 ?c14 ?k14 ?a15 ?l15 ?c15 ?k15 ?a16 ?l16 ?c16 ?k16 ?a17 ?l17 ?c17 ?k17 ?a18 ?l18 ?c18 ?k18 ?a19 ?l19 ?c19 ?k19 ?a20 ?l20 ?c20 ?k20 ?a21 ?l21 ?c21 ?k21 ?a22 ?l22 ?c22 ?k22 ?a23 ?l23 ?c23 ?k23 ?a24 ?l24 ?c24 ?k24 ?a25 ?l25 ?c25 ?k25 ?a26 ?l26 ?c26 ?k26 ?a27 ?l27 ?c27 ?k27 ?a28 ?l28 ?c28 ?k28 ?a29 ?l29 ?c29 ?k29 ?a30 ?l30 ?c30 ?k30 ?a31 ?l31 ?c31 ?k31 ?a32 ?l32 ?c32 ?k32 ?a33 ?l33 ?c33 ?k33 ?a34 ?l34 ?c34 ?k34 ?a35 ?l35 ?c35 ?k35 ?a36 ?l36 ?c36 ?k36 ?a37 ?l37 ?c37 ?k37 ?a38 ?l38 ?c38 ?k38 ?a39 ?l39 ?c39 ?k39 ?a40 ?l40 ?c40 ?k40 ?a41 ?l41 ?c41 ?k41 ?a42 ?l42 ?c42 ?k42 ?a43 ?l43 ?c43 ?k43 ?z_abs ?z_all ?z_bool ?z_int ?z_isinstance ?z_len ?z_list ?z_range ?z_repr ?z_sum ?z_tuple ?z_zip ?z_super ?g_UNIT ?k_UNIT ?xC ?xL ?xB ?xsa ?xga ?xgg ?xno ?xiC ?xtC ?xkC ?xexC ?xtyC ?xhdC ?xiscl ?xself ?xve ?xup ?xmr ?xany ?xlI ?xcI ?xcd ?xvs ?xfile ?xcc
    (case a0 => k_is); (case l0 => k_is); (case c0 => k_is); (case k0 => k_is); (case a1 => k_is); (case l1 => k_is)
    (case c1 => k_is); (case k1 => k_is); (case a2 => k_is); (case l2 => k_is); (case c2 => k_is); (case k2 => k_is)
    (case a3 => k_is); (case l3 => k_is); (case c3 => k_is); (case k3 => k_is); (case a4 => k_is); (case l4 => k_is)
    (case c4 => k_is); (case k4 => k_is); (case a5 => k_is); (case l5 => k_is); (case c5 => k_is); (case k5 => k_is)
    (case a6 => k_is); (case l6 => k_is); (case c6 => k_is); (case k6 => k_is); (case a7 => k_is); (case l7 => k_is)
    (case c7 => k_is); (case k7 => k_is); (case a8 => k_is); (case l8 => k_is); (case c8 => k_is); (case k8 => k_is)
    (case a9 => k_is); (case l9 => k_is); (case c9 => k_is); (case k9 => k_is); (case a10 => k_is); (case l10 => k_is)
    (case c10 => k_is); (case k10 => k_is); (case a11 => k_is); (case l11 => k_is); (case c11 => k_is); (case k11 => k_is)
    (case a12 => k_is); (case l12 => k_is); (case c12 => k_is); (case k12 => k_is); (case a13 => k_is); (case l13 => k_is)
    (case c13 => k_is); (case k13 => k_is); (case a14 => k_is); (case l14 => k_is); (case c14 => k_is); (case k14 => k_is)
    (case a15 => k_is); (case l15 => k_is); (case c15 => k_is); (case k15 => k_is); (case a16 => k_is); (case l16 => k_is)
    (case c16 => k_is); (case k16 => k_is); (case a17 => k_is); (case l17 => k_is); (case c17 => k_is); (case k17 => k_is)
    (case a18 => k_is); (case l18 => k_is); (case c18 => k_is); (case k18 => k_is); (case a19 => k_is); (case l19 => k_is)
    (case c19 => k_is); (case k19 => k_is); (case a20 => k_is); (case l20 => k_is); (case c20 => k_is); (case k20 => k_is)
    (case a21 => k_is); (case l21 => k_is); (case c21 => k_is); (case k21 => k_is); (case a22 => k_is); (case l22 => k_is)
    (case c22 => k_is); (case k22 => k_is); (case a23 => k_is); (case l23 => k_is); (case c23 => k_is); (case k23 => k_is)
    (case a24 => k_is); (case l24 => k_is); (case c24 => k_is); (case k24 => k_is); (case a25 => k_is); (case l25 => k_is)
    (case c25 => k_is); (case k25 => k_is); (case a26 => k_is); (case l26 => k_is); (case c26 => k_is); (case k26 => k_is)
    (case a27 => k_is); (case l27 => k_is); (case c27 => k_is); (case k27 => k_is); (case a28 => k_is); (case l28 => k_is)
    (case c28 => k_is); (case k28 => k_is); (case a29 => k_is); (case l29 => k_is); (case c29 => k_is); (case k29 => k_is)
    (case a30 => k_is); (case l30 => k_is); (case c30 => k_is); (case k30 => k_is); (case a31 => k_is); (case l31 => k_is)
    (case c31 => k_is); (case k31 => k_is); (case a32 => k_is); (case l32 => k_is); (case c32 => k_is); (case k32 => k_is)
    (case a33 => k_is); (case l33 => k_is); (case c33 => k_is); (case k33 => k_is); (case a34 => k_is); (case l34 => k_is)
    (case c34 => k_is); (case k34 => k_is); (case a35 => k_is); (case l35 => k_is); (case c35 => k_is); (case k35 => k_is)
    (case a36 => k_is); (case l36 => k_is); (case c36 => k_is); (case k36 => k_is); (case a37 => k_is); (case l37 => k_is)
    (case c37 => k_is); (case k37 => k_is); (case a38 => k_is); (case l38 => k_is); (case c38 => k_is); (case k38 => k_is)
    (case a39 => k_is); (case l39 => k_is); (case c39 => k_is); (case k39 => k_is); (case a40 => k_is); (case l40 => k_is)
    (case c40 => k_is); (case k40 => k_is); (case a41 => k_is); (case l41 => k_is); (case c41 => k_is); (case k41 => k_is)
    (case a42 => k_is); (case l42 => k_is); (case c42 => k_is); (case k42 => k_is); (case a43 => k_is); (case l43 => k_is)
    (case c43 => k_is); (case k43 => k_is); (case z_abs => k_is); (case z_all => k_is); (case z_bool => k_is); (case z_int => k_is)
    (case z_isinstance => k_is); (case z_len => k_is); (case z_list => k_is); (case z_range => k_is); (case z_repr => k_is); (case z_sum => k_is)
    (case z_tuple => k_is); (case z_zip => k_is); (case z_super => k_is); (case g_UNIT => k_is); (case k_UNIT => first | kernel_rfl | rfl); (case xC => k_is)
    (case xL => k_is); (case xB => first | rfl | decide +kernel | k_is); (case xsa => k_is); (case xga => k_is); (case xgg => k_is); (case xno => k_is)
    (case xiC => k_is); (case xtC => k_is); (case xkC => k_is); (case xexC => k_is); (case xtyC => k_is); (case xhdC => k_is)
    (case xiscl => k_is); (case xself => k_is); (case xve => k_is); (case xup => first | kernel_rfl | rfl); (case xmr => k_is); (case xany => k_is)
    (case xlI => k_is); (case xcI => k_is); (case xcd => k_is); (case xvs => first | rfl | decide +kernel | k_is); (case xfile => first | rfl | decide +kernel | k_is); (case xcc => k_is)
