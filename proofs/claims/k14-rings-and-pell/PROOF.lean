import PyProof.Rows.All
import Wide.All
import OpenK.AllK
import Wide.FinOn
import PySem.Challenge.RW_everygrid_k14_rings_and_pell
import HandS.ForMost
import HandS.ForExc
import KE.KDictKeyed
import HandS.Wide
import HandS.WideBits
import HandS.Flow
import HandS.Conv
import HandS.IsInst
import HandS.TupAny
import HandS.Style
import HandS.Zip
import HandS.TryElse
import HandS.ExcOwn
import HandS.TryOnly
import HandS.WordsExc
import KE.KExcSuper
import HandS.ExcField
import KE.SortData
import PyProof.ReprReads
import PyProof.ReprBulk
import PyProof.Rows.RegStrFacts
import HandS.Ends
import HandS.DictTup
import KE.KDictCopyH
import HandS.WordsDict
import KE.DataMinMax
import HandS.Deep
set_option Elab.async false
set_option linter.all false
set_option maxRecDepth 100000
/-! The data layer, part 0: values as plain data, mutable lists in a store, what a state is. -/
namespace DL
open PySem PySem.Spec PyProof.Rows L2

/-- plain data: tup a tuple, imm a list that nobody writes any more, scr one that is locked or of the written part, cel a list in the store -/
inductive D where
  | non | bl (b : Bool) | int (i : Int) | str (s : Str) | tup (ds : List D) | imm (ds : List D) | cel (n : Nat) | ty (n : String) | scr (ds : List D) | dic (n : Nat)

abbrev Store := List (List D)
abbrev Env := List (Option D)

/-- where the lists of the store stand, in order; what nobody may look at -/
structure Ow where
  c : List Addr
  p : List Addr
  d : List Addr
def Ow.Free (I : Ow) (a : Addr) : Prop := a ∉ I.c ∧ a ∉ I.p
def Ow.add (I : Ow) (a : Addr) : Ow := ⟨I.c ++ [a], I.p, I.d⟩
def Ow.hide (I : Ow) (a : Addr) : Ow := ⟨I.c, a :: I.p, I.d⟩
def Ow.show (I : Ow) (a : Addr) : Ow := ⟨I.c, I.p.filter fun b => decide (b ≠ a), I.d⟩
def Ow.addD (I : Ow) (a : Addr) : Ow := ⟨I.c ++ [a], I.p, a :: I.d⟩
/-- the n-th of the store stands at a: a list, a dict -/
def Ow.At (I : Ow) (n : Nat) (a : Addr) : Prop := I.c[n]? = some a ∧ a ∉ I.d
def Ow.AtD (I : Ow) (n : Nat) (a : Addr) : Prop := I.c[n]? = some a ∧ a ∈ I.d

/-- an immutable sequence at a: tracked and not in the store, or of the written part -/
def WrT (K : PySem.W.Frag) (a : Addr) (xs : List V) : Prop :=
  ∃ (o : Obj) (its : Array Value) (n : Nat), K.lookup a = some o ∧ o.cls = .type "tuple" ∧ o.data = .seq its n ∧ its.size ≤ sizeLine ∧ Vals xs its.toList
def WrL (K : PySem.W.Frag) (a : Addr) (xs : List V) : Prop :=
  ∃ (o : Obj) (its : Array Value) (n : Nat), K.lookup a = some o ∧ o.cls = .type "list" ∧ o.dict = none ∧ o.data = .seq its n ∧ its.size ≤ sizeLine ∧ Vals xs its.toList
def TupA (K : PySem.W.Frag) (I : Ow) (H : Hp) (a : Addr) (vs : List V) : Prop :=
  (Rd H a (.tup vs) ∧ I.Free a) ∨ WrT K a vs
def LstA (K : PySem.W.Frag) (I : Ow) (H : Hp) (a : Addr) (vs : List V) : Prop :=
  (Rd H a (.lst vs) ∧ I.Free a) ∨ WrL K a vs

mutual
def Rep (K : PySem.W.Frag) (I : Ow) (H : Hp) : D → V → Prop
  | .non, v => v = .non
  | .bl b, v => v = .bl b
  | .int i, v => v = .int i
  | .str s, v => v = .str s
  | .ty n, v => v = .ty n
  | .tup ds, v => ∃ a vs, v = .ref a ∧ TupA K I H a vs ∧ Reps K I H ds vs
  | .imm ds, v => ∃ a vs, v = .ref a ∧ (H a = some (.lst vs) ∧ I.Free a) ∧ Reps K I H ds vs
  | .scr ds, v => ∃ a vs, v = .ref a ∧ LstA K I H a vs ∧ Reps K I H ds vs
  | .cel n, v => ∃ a, v = .ref a ∧ I.At n a
  | .dic n, v => ∃ a, v = .ref a ∧ I.AtD n a
def Reps (K : PySem.W.Frag) (I : Ow) (H : Hp) : List D → List V → Prop
  | [], vs => vs = []
  | d :: ds, vs => ∃ v r, vs = v :: r ∧ Rep K I H d v ∧ Reps K I H ds r
end

mutual
/-- a key: a tuple of ints, and of such tuples -/
def keyN : D → Option NestedKey
  | .int i => some (.num i)
  | .tup ds => match keyNs ds with | some ks => some (.tup ks) | none => none
  | _ => none
def keyNs : List D → Option (List NestedKey)
  | [] => some []
  | d :: ds => match keyN d, keyNs ds with | some k, some ks => some (k :: ks) | _, _ => none
end
mutual
def kHash : NestedKey → Int
  | .none => 0
  | .num i => hashInt i
  | .text _ => 0
  | .tup ks => reduceHash (Builtin.Tuple.tupleHashOf (kHashes ks))
def kHashes : List NestedKey → List Int
  | [] => []
  | k :: ks => kHash k :: kHashes ks
end
mutual
theorem kHash_is {w : World} : ∀ {d : D} {k : NestedKey}, keyN d = some k → k.hash w = kHash k
  | .int i, k, h => by simp only [keyN, Option.some.injEq] at h; subst h; simp only [NestedKey.hash, kHash]
  | .tup ds, k, h => by
    simp only [keyN] at h
    split at h
    · rename_i ks e
      cases h
      simp only [NestedKey.hash, kHash, kHashes_is e]
    · cases h
  | .non, _, h => by simp only [keyN] at h; cases h
  | .bl _, _, h => by simp only [keyN] at h; cases h
  | .str _, _, h => by simp only [keyN] at h; cases h
  | .imm _, _, h => by simp only [keyN] at h; cases h
  | .cel _, _, h => by simp only [keyN] at h; cases h
  | .ty _, _, h => by simp only [keyN] at h; cases h
  | .scr _, _, h => by simp only [keyN] at h; cases h
  | .dic _, _, h => by simp only [keyN] at h; cases h
theorem kHashes_is {w : World} : ∀ {ds : List D} {ks : List NestedKey}, keyNs ds = some ks → NestedKey.hashes w ks = kHashes ks
  | [], ks, h => by simp only [keyNs, Option.some.injEq] at h; subst h; simp only [NestedKey.hashes, kHashes]
  | d :: ds, ks, h => by
    simp only [keyNs] at h
    split at h
    · rename_i k ks' h1 h2
      cases h
      simp only [NestedKey.hashes, kHashes, kHash_is h1, kHashes_is h2]
    · cases h
end
/-- key, where it stands, value -/
abbrev KE3 := NestedKey × Addr × Value
def ent3 (x : KE3) : DictEntry := ⟨kHash x.1, .ref x.2.1, x.2.2⟩
/-- what is true of a dict's own object -/
def dicPhi (a : Addr) (xs : List KE3) (h : Heap) : Prop := (a == sysModules) = false ∧ xs.length ≤ sizeLine ∧ (xs.map (·.1)).Nodup ∧ ∃ o es ep, h.get? a = some o ∧ o.ExactDict ∧ o.data = .dict es ep ∧ es.toList = xs.map ent3
def dicO (a : Addr) (xs : List KE3) : HO := .ext (dicPhi a xs)
/-- the pairs of a dict -/
def RepKV (K : PySem.W.Frag) (I : Ow) (H : Hp) : List D → List KE3 → Prop
  | [], kvs => kvs = []
  | d :: ds, kvs => ∃ k x nk b u v r, d = .tup [k, x] ∧ kvs = (nk, b, u) :: r ∧ (keyN k = some nk ∧ nk.depth ≤ 8) ∧ Rep K I H k (.ref b) ∧ Rep K I H x v ∧ RelV v u ∧ RepKV K I H ds r
structure Sto (K : PySem.W.Frag) (I : Ow) (H : Hp) (M : Store) : Prop where
  len : I.c.length = M.length
  nodup : I.c.Nodup
  at_ : ∀ (n : Nat) (a : Addr) (ds : List D), I.At n a → M[n]? = some ds → ∃ vs, H a = some (.lst vs) ∧ Reps K I H ds vs
  atD : ∀ (n : Nat) (a : Addr) (ds : List D), I.AtD n a → M[n]? = some ds → ∃ kvs, H a = some (dicO a kvs) ∧ RepKV K I H ds kvs
  sub : ∀ a ∈ I.d, a ∈ I.c
  dis : ∀ a ∈ I.p, a ∉ I.c ∧ ∃ o, H a = some o

/-- what may have happened meanwhile -/
structure Ext (I : Ow) (H : Hp) (I' : Ow) (H' : Hp) : Prop where
  prv : ∃ l, I'.p = l ++ I.p ∧ ∀ a ∈ l, H a = none
  pre : ∃ l, I'.c = I.c ++ l ∧ ∀ a ∈ l, H a = none
  keep : ∀ a o, H a = some o → a ∉ I.c → H' a = some o
  trk : ∀ a o, H a = some o → ∃ o', H' a = some o'
  dic : ∀ a ∈ I.c, (a ∈ I'.d ↔ a ∈ I.d)

theorem Ext.refl {I : Ow} {H : Hp} : Ext I H I H := ⟨⟨[], by simp, by simp⟩, ⟨[], by simp, by simp⟩, fun _ _ h _ => h, fun _ o h => ⟨o, h⟩, fun _ _ => Iff.rfl⟩
theorem Ext.notin {I I' : Ow} {H H' : Hp} (e : Ext I H I' H') {a : Addr} {o : HO} (h : H a = some o) (n : a ∉ I.c) : a ∉ I'.c := by
  obtain ⟨l, hl1, hl⟩ := e.pre
  rw [hl1]
  intro hm
  rcases List.mem_append.mp hm with hm | hm
  · exact n hm
  · rw [hl a hm] at h; cases h
theorem Ext.free {I I' : Ow} {H H' : Hp} (e : Ext I H I' H') {a : Addr} {o : HO} (h : H a = some o) (n : I.Free a) : I'.Free a := ⟨e.notin h n.1, by
  obtain ⟨l, q, hl⟩ := e.prv
  rw [q]
  intro hm
  rcases List.mem_append.mp hm with hm | hm
  · rw [hl a hm] at h; cases h
  · exact n.2 hm⟩
theorem Ext.trans {I I1 I2 : Ow} {H H1 H2 : Hp} (a : Ext I H I1 H1) (b : Ext I1 H1 I2 H2) : Ext I H I2 H2 := by
  refine ⟨?_, ?_, fun x o h n => b.keep x o (a.keep x o h n) (a.notin h n), fun x o h => ?_, fun x hx => (b.dic x (by obtain ⟨l, q, _⟩ := a.pre; rw [q]; exact List.mem_append_left _ hx)).trans (a.dic x hx)⟩
  · obtain ⟨l1, q1, h1⟩ := a.prv
    obtain ⟨l2, q2, h2⟩ := b.prv
    refine ⟨l2 ++ l1, by rw [q2, q1]; simp, fun x hx => ?_⟩
    rcases List.mem_append.mp hx with hx | hx
    · cases q : H x with
      | none => rfl
      | some o =>
        obtain ⟨o', z⟩ := a.trk x o q
        rw [h2 x hx] at z; cases z
    · exact h1 x hx
  · obtain ⟨l1, q1, h1⟩ := a.pre
    obtain ⟨l2, q2, h2⟩ := b.pre
    refine ⟨l1 ++ l2, by rw [q2, q1]; simp, fun x hx => ?_⟩
    rcases List.mem_append.mp hx with hx | hx
    · exact h1 x hx
    · cases q : H x with
      | none => rfl
      | some o =>
        obtain ⟨o', z⟩ := a.trk x o q
        rw [h2 x hx] at z; cases z
  · obtain ⟨o', z⟩ := a.trk x o h
    exact b.trk x o' z
theorem Ext.get0 {I I' : Ow} {H H' : Hp} (e : Ext I H I' H') {n : Nat} {a : Addr} (h : I.c[n]? = some a) : I'.c[n]? = some a := by
  obtain ⟨l, q, _⟩ := e.pre
  obtain ⟨h1, h2⟩ := List.getElem?_eq_some_iff.mp h
  rw [q, List.getElem?_append_left h1]; exact h
theorem Ext.get {I I' : Ow} {H H' : Hp} (e : Ext I H I' H') {n : Nat} {a : Addr} (h : I.At n a) : I'.At n a := ⟨e.get0 h.1, fun z => h.2 ((e.dic a (List.mem_of_getElem? h.1)).mp z)⟩
theorem Ext.getD {I I' : Ow} {H H' : Hp} (e : Ext I H I' H') {n : Nat} {a : Addr} (h : I.AtD n a) : I'.AtD n a := ⟨e.get0 h.1, (e.dic a (List.mem_of_getElem? h.1)).mpr h.2⟩
/-- a new object, not of the store -/
theorem Ext.new {I : Ow} {H : Hp} {p : Addr} {o : HO} (h : H p = none) : Ext I H I (upd H p o) :=
  ⟨⟨[], by simp, by simp⟩, ⟨[], by simp, by simp⟩, fun a u e _ => by rw [upd_ne (ne_of_none e h)]; exact e, fun a u e => ⟨u, by rw [upd_ne (ne_of_none e h)]; exact e⟩, fun _ _ => Iff.rfl⟩
/-- a new list, of the store -/
theorem Ext.newC {I : Ow} {H : Hp} {p : Addr} {o : HO} (h : H p = none) : Ext I H (I.add p) (upd H p o) :=
  ⟨⟨[], by simp [Ow.add], by simp⟩, ⟨[p], rfl, fun a ha => by rw [List.mem_singleton.mp ha]; exact h⟩, fun a u e _ => by rw [upd_ne (ne_of_none e h)]; exact e, fun a u e => ⟨u, by rw [upd_ne (ne_of_none e h)]; exact e⟩, fun _ _ => Iff.rfl⟩
/-- a new dict, of the store -/
theorem Ext.newD {I : Ow} {H : Hp} {p : Addr} {o : HO} (h : H p = none) (hp : p ∉ I.c) : Ext I H (I.addD p) (upd H p o) :=
  ⟨⟨[], by simp [Ow.addD], by simp⟩, ⟨[p], rfl, fun a ha => by rw [List.mem_singleton.mp ha]; exact h⟩, fun a u e _ => by rw [upd_ne (ne_of_none e h)]; exact e, fun a u e => ⟨u, by rw [upd_ne (ne_of_none e h)]; exact e⟩, fun a ha => by
    show a ∈ p :: I.d ↔ _
    rw [List.mem_cons]
    exact ⟨fun z => z.elim (fun e => absurd (e ▸ ha) hp) id, .inr⟩⟩
/-- a list of the store is written -/
theorem Ext.write {I : Ow} {H : Hp} {p : Addr} {o : HO} (h : p ∈ I.c) : Ext I H I (upd H p o) :=
  ⟨⟨[], by simp, by simp⟩, ⟨[], by simp, by simp⟩, fun a u e n => by rw [upd_ne (fun z => n (by rw [z]; exact h))]; exact e, fun a u e => by
    by_cases q : a = p
    · subst q; exact ⟨o, upd_same⟩
    · exact ⟨u, by rw [upd_ne q]; exact e⟩, fun _ _ => Iff.rfl⟩

section
variable {K : PySem.W.Frag} {I I' : Ow} {H H' : Hp} {M M' : Store}
theorem TupA.sq {a : Addr} {vs : List V} (h : TupA K I H a vs) : SqT K H a vs := by
  rcases h with ⟨h, _⟩ | h
  · exact .inl h
  · exact .inr h
theorem LstA.sq {a : Addr} {vs : List V} (h : LstA K I H a vs) : SqL K H a vs := by
  rcases h with ⟨h, _⟩ | h
  · exact .inl h
  · exact .inr h
theorem Ext.rd (e : Ext I H I' H') {a : Addr} {u : HO} (h : Rd H a u) (n : I.Free a) : Rd H' a u ∧ I'.Free a := by
  rcases h with h | ⟨o, h⟩
  · exact ⟨.inl (e.keep _ _ h n.1), e.free h n⟩
  · exact ⟨.inr ⟨o, e.keep _ _ h n.1⟩, e.free h n⟩
theorem Ext.tupA (e : Ext I H I' H') {a : Addr} {vs : List V} (h : TupA K I H a vs) : TupA K I' H' a vs := by
  rcases h with ⟨h, n⟩ | h
  · exact .inl (e.rd h n)
  · exact .inr h
theorem Ext.lstA (e : Ext I H I' H') {a : Addr} {vs : List V} (h : LstA K I H a vs) : LstA K I' H' a vs := by
  rcases h with ⟨h, n⟩ | h
  · exact .inl (e.rd h n)
  · exact .inr h
mutual
theorem Ext.rep (e : Ext I H I' H') : ∀ {d : D} {v : V}, Rep K I H d v → Rep K I' H' d v
  | .non, v, h => by simpa only [Rep] using h
  | .bl _, v, h => by simpa only [Rep] using h
  | .int _, v, h => by simpa only [Rep] using h
  | .str _, v, h => by simpa only [Rep] using h
  | .ty _, v, h => by simpa only [Rep] using h
  | .tup ds, v, h => by
    simp only [Rep] at h ⊢
    obtain ⟨a, vs, h1, h2, h3⟩ := h
    exact ⟨a, vs, h1, e.tupA h2, Ext.reps e h3⟩
  | .imm ds, v, h => by
    simp only [Rep] at h ⊢
    obtain ⟨a, vs, h1, h2, h3⟩ := h
    exact ⟨a, vs, h1, ⟨e.keep _ _ h2.1 h2.2.1, e.free h2.1 h2.2⟩, Ext.reps e h3⟩
  | .scr ds, v, h => by
    simp only [Rep] at h ⊢
    obtain ⟨a, vs, h1, h2, h3⟩ := h
    exact ⟨a, vs, h1, e.lstA h2, Ext.reps e h3⟩
  | .cel n, v, h => by
    simp only [Rep] at h ⊢
    obtain ⟨a, h1, h2⟩ := h
    exact ⟨a, h1, e.get h2⟩
  | .dic n, v, h => by
    simp only [Rep] at h ⊢
    obtain ⟨a, h1, h2⟩ := h
    exact ⟨a, h1, e.getD h2⟩
theorem Ext.reps (e : Ext I H I' H') : ∀ {ds : List D} {vs : List V}, Reps K I H ds vs → Reps K I' H' ds vs
  | [], vs, h => by simpa only [Reps] using h
  | d :: ds, vs, h => by
    simp only [Reps] at h ⊢
    obtain ⟨v, r, h1, h2, h3⟩ := h
    exact ⟨v, r, h1, Ext.rep e h2, Ext.reps e h3⟩
end
theorem RepKV.imp {I1 I2 : Ow} {H1 H2 : Hp} (f : ∀ d v, Rep K I1 H1 d v → Rep K I2 H2 d v) : ∀ {ds : List D} {kvs : List KE3}, RepKV K I1 H1 ds kvs → RepKV K I2 H2 ds kvs
  | [], _, h => h
  | _ :: _, _, ⟨k, x, nk, b, u, v, r, h1, h2, h3, h4, h5, h6, h7⟩ => ⟨k, x, nk, b, u, v, r, h1, h2, h3, f _ _ h4, f _ _ h5, h6, RepKV.imp f h7⟩
theorem Ext.kv (e : Ext I H I' H') {ds : List D} {kvs : List KE3} (h : RepKV K I H ds kvs) : RepKV K I' H' ds kvs := h.imp fun _ _ => e.rep
theorem Reps.length : ∀ {ds : List D} {vs : List V}, Reps K I H ds vs → ds.length = vs.length
  | [], vs, h => by simp only [Reps] at h; subst h; rfl
  | d :: ds, vs, h => by
    simp only [Reps] at h
    obtain ⟨v, r, rfl, _, h3⟩ := h
    rw [List.length_cons, List.length_cons, Reps.length h3]
theorem Reps.get : ∀ {ds : List D} {vs : List V} {i : Nat} {v : V}, Reps K I H ds vs → vs[i]? = some v → ∃ d, ds[i]? = some d ∧ Rep K I H d v
  | [], vs, i, v, h, e => by simp only [Reps] at h; subst h; simp at e
  | d :: ds, vs, 0, v, h, e => by
    simp only [Reps] at h
    obtain ⟨v', r, rfl, h2, _⟩ := h
    have : v' = v := Option.some.inj e
    subst this
    exact ⟨d, rfl, h2⟩
  | d :: ds, vs, i + 1, v, h, e => by
    simp only [Reps] at h
    obtain ⟨v', r, rfl, _, h3⟩ := h
    exact Reps.get (i := i) h3 e
theorem Reps.get' : ∀ {ds : List D} {vs : List V} {i : Nat} {d : D}, Reps K I H ds vs → ds[i]? = some d → ∃ v, vs[i]? = some v ∧ Rep K I H d v
  | [], vs, i, v, h, e => by simp at e
  | d :: ds, vs, 0, v, h, e => by
    simp only [Reps] at h
    obtain ⟨v', r, rfl, h2, _⟩ := h
    have : d = v := Option.some.inj e
    subst this
    exact ⟨v', rfl, h2⟩
  | d :: ds, vs, i + 1, v, h, e => by
    simp only [Reps] at h
    obtain ⟨v', r, rfl, _, h3⟩ := h
    exact Reps.get' (i := i) h3 e
theorem Reps.append : ∀ {ds es : List D} {vs us : List V}, Reps K I H ds vs → Reps K I H es us → Reps K I H (ds ++ es) (vs ++ us)
  | [], es, vs, us, h, g => by simp only [Reps] at h; subst h; exact g
  | d :: ds, es, vs, us, h, g => by
    simp only [Reps] at h
    obtain ⟨v', r, rfl, h2, h3⟩ := h
    show Reps K I H (d :: (ds ++ es)) (v' :: (r ++ us))
    simp only [Reps]
    exact ⟨v', _, rfl, h2, Reps.append h3 g⟩
theorem Reps.take : ∀ {ds : List D} {vs : List V} (n : Nat), Reps K I H ds vs → Reps K I H (ds.take n) (vs.take n)
  | _, _, 0, h => by simp [Reps]
  | [], vs, n + 1, h => by simp only [Reps] at h; subst h; simp [Reps]
  | d :: ds, vs, n + 1, h => by
    simp only [Reps] at h
    obtain ⟨v', r, rfl, h2, h3⟩ := h
    show Reps K I H (d :: ds.take n) (v' :: r.take n)
    simp only [Reps]
    exact ⟨v', _, rfl, h2, Reps.take n h3⟩
theorem Reps.drop : ∀ {ds : List D} {vs : List V} (n : Nat), Reps K I H ds vs → Reps K I H (ds.drop n) (vs.drop n)
  | _, _, 0, h => h
  | [], vs, n + 1, h => by simp only [Reps] at h; subst h; simp [Reps]
  | d :: ds, vs, n + 1, h => by
    simp only [Reps] at h
    obtain ⟨v', r, rfl, h2, h3⟩ := h
    exact Reps.drop n h3
theorem Reps.set : ∀ {ds : List D} {vs : List V} (n : Nat) {d : D} {v : V}, Rep K I H d v → Reps K I H ds vs → Reps K I H (ds.set n d) (vs.set n v)
  | [], vs, n, d, v, g, h => by simp only [Reps] at h; subst h; simp [Reps]
  | e :: ds, vs, 0, d, v, g, h => by
    simp only [Reps] at h
    obtain ⟨v', r, rfl, h2, h3⟩ := h
    show Reps K I H (d :: ds) (v :: r)
    simp only [Reps]
    exact ⟨v, _, rfl, g, h3⟩
  | e :: ds, vs, n + 1, d, v, g, h => by
    simp only [Reps] at h
    obtain ⟨v', r, rfl, h2, h3⟩ := h
    show Reps K I H (e :: ds.set n d) (v' :: r.set n v)
    simp only [Reps]
    exact ⟨v', _, rfl, h2, Reps.set n g h3⟩
theorem Reps.one {d : D} {v : V} (h : Rep K I H d v) : Reps K I H [d] [v] := by
  simp only [Reps]
  exact ⟨v, [], rfl, h, rfl⟩
theorem Reps.cons {d : D} {v : V} {ds : List D} {vs : List V} (h : Rep K I H d v) (g : Reps K I H ds vs) : Reps K I H (d :: ds) (v :: vs) := by
  simp only [Reps]
  exact ⟨v, vs, rfl, h, g⟩

/-! ### states -/
theorem Sto.trk (S : Sto K I H M) {a : Addr} (h : a ∈ I.c) : ∃ o, H a = some o := by
  obtain ⟨n, hn, e⟩ := List.mem_iff_getElem.mp h
  have h1 : I.c[n]? = some a := by rw [List.getElem?_eq_getElem hn, e]
  have hm : n < M.length := by rw [← S.len]; exact hn
  by_cases q : a ∈ I.d
  · obtain ⟨vs, e2, _⟩ := S.atD n a M[n] ⟨h1, q⟩ (List.getElem?_eq_getElem hm)
    exact ⟨_, e2⟩
  · obtain ⟨vs, e2, _⟩ := S.at_ n a M[n] ⟨h1, q⟩ (List.getElem?_eq_getElem hm)
    exact ⟨_, e2⟩
theorem Sto.fresh (S : Sto K I H M) {p : Addr} (h : H p = none) : I.Free p := by
  refine ⟨fun hm => ?_, fun hm => ?_⟩
  · obtain ⟨vs, e⟩ := S.trk hm
    rw [h] at e; cases e
  · obtain ⟨_, o, e⟩ := S.dis p hm
    rw [h] at e; cases e
/-- a new object beside the store -/
theorem Sto.new (S : Sto K I H M) {p : Addr} {o : HO} (h : H p = none) : Sto K I (upd H p o) M := by
  refine ⟨S.len, S.nodup, fun n a ds h1 h2 => ?_, fun n a ds h1 h2 => ?_, S.sub, fun a ha => ⟨(S.dis a ha).1, ?_⟩⟩
  · obtain ⟨vs, e, r⟩ := S.at_ n a ds h1 h2
    exact ⟨vs, by rw [upd_ne (ne_of_none e h)]; exact e, (Ext.new h).reps r⟩
  · obtain ⟨vs, e, r⟩ := S.atD n a ds h1 h2
    exact ⟨vs, by rw [upd_ne (ne_of_none e h)]; exact e, (Ext.new h).kv r⟩
  · obtain ⟨u, e⟩ := (S.dis a ha).2
    exact ⟨u, by rw [upd_ne (ne_of_none e h)]; exact e⟩
theorem Sto.newC (S : Sto K I H M) {p : Addr} {ds : List D} {vs : List V} (h : H p = none) (r : Reps K I H ds vs) : Sto K (I.add p) (upd H p (.lst vs)) (M ++ [ds]) := by
  have fr := (S.fresh h).1
  have one : ∀ {n : Nat} {a : Addr}, (I.add p).c[n]? = some a → (n < I.c.length ∧ I.c[n]? = some a) ∨ (n = I.c.length ∧ a = p) := by
    intro n a h1
    have h1 : (I.c ++ [p])[n]? = some a := h1
    by_cases q : n < I.c.length
    · rw [List.getElem?_append_left q] at h1
      exact .inl ⟨q, h1⟩
    · have hn : n < (I.c ++ [p]).length := (List.getElem?_eq_some_iff.mp h1).1
      have hn' : n = I.c.length := by simp at hn; omega
      subst hn'
      rw [List.getElem?_append_right (Nat.le_refl _)] at h1
      simp at h1
      exact .inr ⟨rfl, h1.symm⟩
  refine ⟨by simp [S.len, Ow.add], ?_, fun n a es h1 h2 => ?_, fun n a es h1 h2 => ?_, fun a ha => List.mem_append_left _ (S.sub a ha), fun a ha => ⟨fun hm => ?_, ?_⟩⟩
  · show (I.c ++ [p]).Nodup
    rw [List.nodup_append]
    refine ⟨S.nodup, by simp, fun a ha b hb z => ?_⟩
    rw [List.mem_singleton.mp hb] at z
    exact fr (z ▸ ha)
  · rcases one h1.1 with ⟨q, g⟩ | ⟨q, g⟩
    · rw [List.getElem?_append_left (by rw [← S.len]; exact q)] at h2
      obtain ⟨us, e, g⟩ := S.at_ n a es ⟨g, h1.2⟩ h2
      exact ⟨us, by rw [upd_ne (ne_of_none e h)]; exact e, (Ext.newC h).reps g⟩
    · subst q; subst g
      rw [S.len, List.getElem?_append_right (Nat.le_refl _)] at h2
      simp at h2
      subst h2
      exact ⟨vs, upd_same, (Ext.newC h).reps r⟩
  · rcases one h1.1 with ⟨q, g⟩ | ⟨q, g⟩
    · rw [List.getElem?_append_left (by rw [← S.len]; exact q)] at h2
      obtain ⟨us, e, g⟩ := S.atD n a es ⟨g, h1.2⟩ h2
      exact ⟨us, by rw [upd_ne (ne_of_none e h)]; exact e, (Ext.newC h).kv g⟩
    · subst g
      exact absurd (S.sub _ h1.2) fr
  · rcases List.mem_append.mp (show a ∈ I.c ++ [p] from hm) with hm | hm
    · exact (S.dis a ha).1 hm
    · obtain ⟨u, e⟩ := (S.dis a ha).2
      rw [List.mem_singleton.mp hm, h] at e; cases e
  · obtain ⟨u, e⟩ := (S.dis a ha).2
    exact ⟨u, by rw [upd_ne (ne_of_none e h)]; exact e⟩
theorem Sto.newD (S : Sto K I H M) {p : Addr} {ds : List D} {kvs : List KE3} (h : H p = none) (r : RepKV K I H ds kvs) : Sto K (I.addD p) (upd H p (dicO p kvs)) (M ++ [ds]) := by
  have fr := (S.fresh h).1
  have one : ∀ {n : Nat} {a : Addr}, (I.addD p).c[n]? = some a → (n < I.c.length ∧ I.c[n]? = some a) ∨ (n = I.c.length ∧ a = p) := by
    intro n a h1
    have h1 : (I.c ++ [p])[n]? = some a := h1
    by_cases q : n < I.c.length
    · rw [List.getElem?_append_left q] at h1
      exact .inl ⟨q, h1⟩
    · have hn : n < (I.c ++ [p]).length := (List.getElem?_eq_some_iff.mp h1).1
      have hn' : n = I.c.length := by simp at hn; omega
      subst hn'
      rw [List.getElem?_append_right (Nat.le_refl _)] at h1
      simp at h1
      exact .inr ⟨rfl, h1.symm⟩
  have E := Ext.newD (o := dicO p kvs) h fr
  refine ⟨by simp [S.len, Ow.addD], ?_, fun n a es h1 h2 => ?_, fun n a es h1 h2 => ?_, fun a ha => ?_, fun a ha => ⟨fun hm => ?_, ?_⟩⟩
  · show (I.c ++ [p]).Nodup
    rw [List.nodup_append]
    refine ⟨S.nodup, by simp, fun a ha b hb z => ?_⟩
    rw [List.mem_singleton.mp hb] at z
    exact fr (z ▸ ha)
  · rcases one h1.1 with ⟨q, g⟩ | ⟨q, g⟩
    · rw [List.getElem?_append_left (by rw [← S.len]; exact q)] at h2
      obtain ⟨us, e, g⟩ := S.at_ n a es ⟨g, fun z => h1.2 (List.mem_cons_of_mem _ z)⟩ h2
      exact ⟨us, by rw [upd_ne (ne_of_none e h)]; exact e, E.reps g⟩
    · subst g
      exact absurd List.mem_cons_self h1.2
  · rcases one h1.1 with ⟨q, g⟩ | ⟨q, g⟩
    · rw [List.getElem?_append_left (by rw [← S.len]; exact q)] at h2
      have hd : a ∈ I.d := by
        rcases List.mem_cons.mp h1.2 with z | z
        · exact absurd (z ▸ List.mem_of_getElem? g) fr
        · exact z
      obtain ⟨us, e, g⟩ := S.atD n a es ⟨g, hd⟩ h2
      exact ⟨us, by rw [upd_ne (ne_of_none e h)]; exact e, E.kv g⟩
    · subst q; subst g
      rw [S.len, List.getElem?_append_right (Nat.le_refl _)] at h2
      simp at h2
      subst h2
      exact ⟨kvs, upd_same, E.kv r⟩
  · rcases List.mem_cons.mp ha with z | z
    · rw [z]; exact List.mem_append_right _ (List.mem_singleton.mpr rfl)
    · exact List.mem_append_left _ (S.sub a z)
  · rcases List.mem_append.mp (show a ∈ I.c ++ [p] from hm) with hm | hm
    · exact (S.dis a ha).1 hm
    · obtain ⟨u, e⟩ := (S.dis a ha).2
      rw [List.mem_singleton.mp hm, h] at e; cases e
  · obtain ⟨u, e⟩ := (S.dis a ha).2
    exact ⟨u, by rw [upd_ne (ne_of_none e h)]; exact e⟩
theorem Sto.write (S : Sto K I H M) {n : Nat} {p : Addr} {ds : List D} {vs : List V} (h : I.At n p) (r : Reps K I H ds vs) : Sto K I (upd H p (.lst vs)) (M.set n ds) := by
  have hp : p ∈ I.c := List.mem_of_getElem? h.1
  refine ⟨by simp [S.len], S.nodup, fun m a es h1 h2 => ?_, fun m a es h1 h2 => ?_, S.sub, fun a ha => ⟨(S.dis a ha).1, ?_⟩⟩
  · by_cases q : m = n
    · subst q
      have z : a = p := Option.some.inj (h1.1.symm.trans h.1)
      subst z
      have hm : m < M.length := by rw [← S.len]; exact (List.getElem?_eq_some_iff.mp h.1).1
      rw [List.getElem?_set_self hm] at h2
      cases h2
      exact ⟨vs, upd_same, (Ext.write hp).reps r⟩
    · rw [List.getElem?_set_ne (Ne.symm q)] at h2
      obtain ⟨us, e, g⟩ := S.at_ m a es h1 h2
      have na : a ≠ p := fun z => q (nd_ix S.nodup h1.1 (by rw [z]; exact h.1))
      exact ⟨us, by rw [upd_ne na]; exact e, (Ext.write hp).reps g⟩
  · have q : m ≠ n := fun q => by
      subst q
      have z : a = p := Option.some.inj (h1.1.symm.trans h.1)
      subst z
      exact h.2 h1.2
    rw [List.getElem?_set_ne (Ne.symm q)] at h2
    obtain ⟨us, e, g⟩ := S.atD m a es h1 h2
    have na : a ≠ p := fun z => q (nd_ix S.nodup h1.1 (by rw [z]; exact h.1))
    exact ⟨us, by rw [upd_ne na]; exact e, (Ext.write hp).kv g⟩
  · obtain ⟨u, e⟩ := (S.dis a ha).2
    exact ⟨u, by rw [upd_ne (fun z => (S.dis a ha).1 (by rw [z]; exact hp))]; exact e⟩
theorem Sto.writeD (S : Sto K I H M) {n : Nat} {p : Addr} {ds : List D} {kvs : List KE3} (h : I.AtD n p) (r : RepKV K I H ds kvs) : Sto K I (upd H p (dicO p kvs)) (M.set n ds) := by
  have hp : p ∈ I.c := List.mem_of_getElem? h.1
  refine ⟨by simp [S.len], S.nodup, fun m a es h1 h2 => ?_, fun m a es h1 h2 => ?_, S.sub, fun a ha => ⟨(S.dis a ha).1, ?_⟩⟩
  · have q : m ≠ n := fun q => by
      subst q
      have z : a = p := Option.some.inj (h1.1.symm.trans h.1)
      subst z
      exact h1.2 h.2
    rw [List.getElem?_set_ne (Ne.symm q)] at h2
    obtain ⟨us, e, g⟩ := S.at_ m a es h1 h2
    have na : a ≠ p := fun z => q (nd_ix S.nodup h1.1 (by rw [z]; exact h.1))
    exact ⟨us, by rw [upd_ne na]; exact e, (Ext.write hp).reps g⟩
  · by_cases q : m = n
    · subst q
      have z : a = p := Option.some.inj (h1.1.symm.trans h.1)
      subst z
      have hm : m < M.length := by rw [← S.len]; exact (List.getElem?_eq_some_iff.mp h.1).1
      rw [List.getElem?_set_self hm] at h2
      cases h2
      exact ⟨kvs, upd_same, (Ext.write hp).kv r⟩
    · rw [List.getElem?_set_ne (Ne.symm q)] at h2
      obtain ⟨us, e, g⟩ := S.atD m a es h1 h2
      have na : a ≠ p := fun z => q (nd_ix S.nodup h1.1 (by rw [z]; exact h.1))
      exact ⟨us, by rw [upd_ne na]; exact e, (Ext.write hp).kv g⟩
  · obtain ⟨u, e⟩ := (S.dis a ha).2
    exact ⟨u, by rw [upd_ne (fun z => (S.dis a ha).1 (by rw [z]; exact hp))]; exact e⟩
/-! ### a list that is being made: nobody looks at it -/
theorem Ext.hide {p : Addr} {o : HO} (h : H p = none) : Ext I H (I.hide p) (upd H p o) :=
  ⟨⟨[p], rfl, fun a ha => by rw [List.mem_singleton.mp ha]; exact h⟩, ⟨[], by simp [Ow.hide], by simp⟩, fun a u e _ => by rw [upd_ne (ne_of_none e h)]; exact e, fun a u e => ⟨u, by rw [upd_ne (ne_of_none e h)]; exact e⟩, fun _ _ => Iff.rfl⟩
theorem Free.show {p a : Addr} (f : I.Free a) : (I.show p).Free a := ⟨f.1, fun hm => f.2 (List.mem_filter.mp hm).1⟩
theorem Free.ne {p a : Addr} (f : I.Free a) (hp : p ∈ I.p) : a ≠ p := fun e => f.2 (by rw [e]; exact hp)
mutual
theorem Rep.show {p : Addr} : ∀ {d : D} {v : V}, Rep K I H d v → Rep K (I.show p) H d v
  | .non, v, h => by simpa only [Rep] using h
  | .bl _, v, h => by simpa only [Rep] using h
  | .int _, v, h => by simpa only [Rep] using h
  | .str _, v, h => by simpa only [Rep] using h
  | .ty _, v, h => by simpa only [Rep] using h
  | .tup ds, v, h => by
    simp only [Rep] at h ⊢
    obtain ⟨a, vs, h1, h2, h3⟩ := h
    exact ⟨a, vs, h1, h2.imp (fun h => ⟨h.1, Free.show h.2⟩) id, Reps.show h3⟩
  | .imm ds, v, h => by
    simp only [Rep] at h ⊢
    obtain ⟨a, vs, h1, h2, h3⟩ := h
    exact ⟨a, vs, h1, ⟨h2.1, Free.show h2.2⟩, Reps.show h3⟩
  | .scr ds, v, h => by
    simp only [Rep] at h ⊢
    obtain ⟨a, vs, h1, h2, h3⟩ := h
    exact ⟨a, vs, h1, h2.imp (fun h => ⟨h.1, Free.show h.2⟩) id, Reps.show h3⟩
  | .cel n, v, h => by simp only [Rep] at h ⊢; exact h
  | .dic n, v, h => by simp only [Rep] at h ⊢; exact h
theorem Reps.show {p : Addr} : ∀ {ds : List D} {vs : List V}, Reps K I H ds vs → Reps K (I.show p) H ds vs
  | [], vs, h => by simpa only [Reps] using h
  | d :: ds, vs, h => by
    simp only [Reps] at h ⊢
    obtain ⟨v, r, h1, h2, h3⟩ := h
    exact ⟨v, r, h1, Rep.show h2, Reps.show h3⟩
end
theorem Rd.upd {p a : Addr} {u o : HO} (h : Rd H a u) (n : a ≠ p) : Rd (upd H p o) a u := by
  rcases h with h | ⟨o', h⟩
  · exact .inl (by rw [upd_ne n]; exact h)
  · exact .inr ⟨o', by rw [upd_ne n]; exact h⟩
mutual
theorem Rep.grow {p : Addr} {o : HO} (hp : p ∈ I.p) : ∀ {d : D} {v : V}, Rep K I H d v → Rep K I (upd H p o) d v
  | .non, v, h => by simpa only [Rep] using h
  | .bl _, v, h => by simpa only [Rep] using h
  | .int _, v, h => by simpa only [Rep] using h
  | .str _, v, h => by simpa only [Rep] using h
  | .ty _, v, h => by simpa only [Rep] using h
  | .tup ds, v, h => by
    simp only [Rep] at h ⊢
    obtain ⟨a, vs, h1, h2, h3⟩ := h
    exact ⟨a, vs, h1, h2.imp (fun h => ⟨Rd.upd h.1 (Free.ne h.2 hp), h.2⟩) id, Reps.grow hp h3⟩
  | .imm ds, v, h => by
    simp only [Rep] at h ⊢
    obtain ⟨a, vs, h1, h2, h3⟩ := h
    exact ⟨a, vs, h1, ⟨by rw [upd_ne (Free.ne h2.2 hp)]; exact h2.1, h2.2⟩, Reps.grow hp h3⟩
  | .scr ds, v, h => by
    simp only [Rep] at h ⊢
    obtain ⟨a, vs, h1, h2, h3⟩ := h
    exact ⟨a, vs, h1, h2.imp (fun h => ⟨Rd.upd h.1 (Free.ne h.2 hp), h.2⟩) id, Reps.grow hp h3⟩
  | .cel n, v, h => by simp only [Rep] at h ⊢; exact h
  | .dic n, v, h => by simp only [Rep] at h ⊢; exact h
theorem Reps.grow {p : Addr} {o : HO} (hp : p ∈ I.p) : ∀ {ds : List D} {vs : List V}, Reps K I H ds vs → Reps K I (upd H p o) ds vs
  | [], vs, h => by simpa only [Reps] using h
  | d :: ds, vs, h => by
    simp only [Reps] at h ⊢
    obtain ⟨v, r, h1, h2, h3⟩ := h
    exact ⟨v, r, h1, Rep.grow hp h2, Reps.grow hp h3⟩
end
theorem Sto.hide (S : Sto K I H M) {p : Addr} {o : HO} (hp : H p = none) : Sto K (I.hide p) (upd H p o) M := by
  refine ⟨S.len, S.nodup, fun n a ds h1 h2 => ?_, fun n a ds h1 h2 => ?_, S.sub, fun a ha => ?_⟩
  · obtain ⟨vs, e, r⟩ := S.at_ n a ds h1 h2
    exact ⟨vs, by rw [upd_ne (ne_of_none e hp)]; exact e, (Ext.hide hp).reps r⟩
  · obtain ⟨vs, e, r⟩ := S.atD n a ds h1 h2
    exact ⟨vs, by rw [upd_ne (ne_of_none e hp)]; exact e, (Ext.hide hp).kv r⟩
  · rcases List.mem_cons.mp ha with e | ha
    · subst e; exact ⟨(S.fresh hp).1, o, upd_same⟩
    · obtain ⟨h1, u, e⟩ := S.dis a ha
      exact ⟨h1, u, by rw [upd_ne (ne_of_none e hp)]; exact e⟩
theorem Sto.show {p : Addr} (S : Sto K I H M) : Sto K (I.show p) H M :=
  ⟨S.len, S.nodup, fun n a ds h1 h2 => let ⟨vs, e, r⟩ := S.at_ n a ds h1 h2; ⟨vs, e, r.show⟩, fun n a ds h1 h2 => let ⟨vs, e, r⟩ := S.atD n a ds h1 h2; ⟨vs, e, r.imp fun _ _ => Rep.show⟩, S.sub, fun a ha => S.dis a (List.mem_filter.mp ha).1⟩
theorem Sto.grow {p : Addr} {o : HO} (S : Sto K I H M) (hp : p ∈ I.p) : Sto K I (upd H p o) M := by
  refine ⟨S.len, S.nodup, fun n a ds h1 h2 => ?_, fun n a ds h1 h2 => ?_, S.sub, fun a ha => ⟨(S.dis a ha).1, ?_⟩⟩
  · obtain ⟨vs, e, r⟩ := S.at_ n a ds h1 h2
    have na : a ≠ p := fun z => (S.dis p hp).1 (by rw [← z]; exact List.mem_of_getElem? h1.1)
    exact ⟨vs, by rw [upd_ne na]; exact e, r.grow hp⟩
  · obtain ⟨vs, e, r⟩ := S.atD n a ds h1 h2
    have na : a ≠ p := fun z => (S.dis p hp).1 (by rw [← z]; exact List.mem_of_getElem? h1.1)
    exact ⟨vs, by rw [upd_ne na]; exact e, r.imp fun _ _ => Rep.grow hp⟩
  · by_cases q : a = p
    · subst q; exact ⟨o, upd_same⟩
    · obtain ⟨_, u, e⟩ := S.dis a ha
      exact ⟨u, by rw [upd_ne q]; exact e⟩
theorem Ext.show {p : Addr} (e : Ext I H I' H') (hp : p ∉ I.p) : Ext I H (I'.show p) H' := by
  refine ⟨?_, e.pre, e.keep, e.trk, e.dic⟩
  obtain ⟨l, q, hl⟩ := e.prv
  refine ⟨l.filter fun b => decide (b ≠ p), ?_, fun a ha => hl a (List.mem_filter.mp ha).1⟩
  show I'.p.filter _ = _
  rw [q, List.filter_append]
  congr 1
  refine List.filter_eq_self.mpr fun a ha => decide_eq_true fun z => hp (by rw [← z]; exact ha)
theorem Ext.grow {p : Addr} {o : HO} (e : Ext I H I' H') (h : H p = none) : Ext I H I' (upd H' p o) :=
  ⟨e.prv, e.pre, fun a u ha n => by rw [upd_ne (ne_of_none ha h)]; exact e.keep a u ha n, fun a u ha => by rw [upd_ne (ne_of_none ha h)]; exact e.trk a u ha, e.dic⟩
theorem Ext.mem {p : Addr} (e : Ext I H I' H') (h : p ∈ I.p) : p ∈ I'.p := by
  obtain ⟨l, q, _⟩ := e.prv
  rw [q]; exact List.mem_append_right _ h

/-- the slots of a frame -/
structure RepE (K : PySem.W.Frag) (I : Ow) (H : Hp) (en : Env) (σ : L2.St) : Prop where
  len : en.length = σ.length
  at_ : ∀ (i : Nat) (d : D), en[i]? = some (some d) → ∃ v, σ[i]? = some (some v) ∧ Rep K I H d v
theorem RepE.mono {en : Env} {σ : L2.St} (r : RepE K I H en σ) (e : Ext I H I' H') : RepE K I' H' en σ :=
  ⟨r.len, fun i d h => let ⟨v, h1, h2⟩ := r.at_ i d h; ⟨v, h1, e.rep h2⟩⟩
theorem RepE.set {en : Env} {σ : L2.St} (r : RepE K I H en σ) (i : Nat) {d : D} {v : V} (g : Rep K I H d v) : RepE K I H (en.set i (some d)) (σ.set i (some v)) := by
  refine ⟨by simp [r.len], fun j e h => ?_⟩
  by_cases q : j = i
  · subst q
    have hj : j < en.length := by
      have := (List.getElem?_eq_some_iff.mp h).1
      simpa using this
    rw [List.getElem?_set_self hj] at h
    cases h
    exact ⟨v, by rw [List.getElem?_set_self (by rw [← r.len]; exact hj)], g⟩
  · rw [List.getElem?_set_ne (Ne.symm q)] at h
    obtain ⟨u, h1, h2⟩ := r.at_ j e h
    exact ⟨u, by rw [List.getElem?_set_ne (Ne.symm q)]; exact h1, h2⟩
theorem RepE.unset {en : Env} {σ : L2.St} (r : RepE K I H en σ) (i : Nat) (y : Option V) : RepE K I H (en.set i none) (σ.set i y) := by
  refine ⟨by simp [r.len], fun j e h => ?_⟩
  by_cases q : j = i
  · subst q
    have hj : j < en.length := by
      have := (List.getElem?_eq_some_iff.mp h).1
      simpa using this
    rw [List.getElem?_set_self hj] at h
    cases h
  · rw [List.getElem?_set_ne (Ne.symm q)] at h
    obtain ⟨u, h1, h2⟩ := r.at_ j e h
    exact ⟨u, by rw [List.getElem?_set_ne (Ne.symm q)]; exact h1, h2⟩
def wipeE (en : Env) : List Nat → Env
  | [] => en
  | i :: r => (wipeE en r).set i none
end
end DL
/-! The data layer, part 1: what code comes to, told over plain data; expressions. -/
namespace DL
open PySem PySem.Spec PyProof.Rows L2

/-- how a piece of code ends: with a value, or with an own exception and its fields -/
inductive Out (α : Type) where
  | ok (a : α)
  | ex (c : Str) (fs : List (Str × D))
abbrev Res (α : Type) := Option (Out α × Store)
def bnd {α β : Type} (r : Res α) (k : α → Store → Res β) : Res β :=
  match r with
  | none => none
  | some (.ok a, M) => k a M
  | some (.ex c fs, M) => some (.ex c fs, M)
@[simp] theorem bnd_ok {α β : Type} {a : α} {M : Store} {k : α → Store → Res β} : bnd (some (.ok a, M)) k = k a M := rfl
@[simp] theorem bnd_none {α β : Type} {k : α → Store → Res β} : bnd none k = none := rfl
@[simp] theorem bnd_ex {α β : Type} {c : Str} {fs : List (Str × D)} {M : Store} {k : α → Store → Res β} : bnd (some (.ex c fs, M)) k = some (.ex c fs, M) := rfl
abbrev EF := Env → Store → Res D

/-- an own exception: its class, its own dict -/
def ExR (K : PySem.W.Frag) (mg : Str → Option Value) (I : Ow) (H : Hp) (c : Str) (fs : List (Str × D)) (cls : Value) (dx : Option Addr) : Prop :=
  ∃ C d vs, mg c = some (.ref C) ∧ cls = .ref C ∧ dx = some d ∧ H d = some (.xd ((fs.map (·.1)).zip vs)) ∧ I.Free d ∧ Reps K I H (fs.map (·.2)) vs

section
variable (K : PySem.W.Frag) (mg : Str → Option Value) (W : WX)
/-- what is wanted behind code that comes to o -/
def Kp {α β : Type} (R : Ow → Hp → α → β → Prop) (o : Res α) (I : Ow) (H : Hp) (σ : L2.St) (Q : β → Hp → Prop) : Prop :=
  match o with
  | none => False
  | some (.ok a, M) => ∀ I' H' b, Ext I H I' H' → Sto K I' H' M → R I' H' a b → Q b H'
  | some (.ex c fs, M) => ∀ I' H' cls dx, Ext I H I' H' → Sto K I' H' M → ExR K mg I' H' c fs cls dx → W cls dx σ H'
def TD {α β : Type} (R : Ow → Hp → α → β → Prop) (f : Env → Store → Res α) : L2.St → Hp → (β → Hp → Prop) → Prop := fun σ H Q =>
  ∃ I M en, Sto K I H M ∧ RepE K I H en σ ∧ Kp K mg W R (f en M) I H σ Q
end
abbrev RB : Ow → Hp → Bool → Bool → Prop := fun _ _ a b => a = b

structure EvE (X : Cx) (W : WX) (e : Expr) (f : EF) : Prop where
  pe : PE X e (TD X.K X.mg W (Rep X.K) f)
structure EvT (X : Cx) (W : WX) (e : Expr) (f : Env → Store → Res Bool) : Prop where
  pt : PT X e (TD X.K X.mg W RB f)
structure EvW (X : Cx) (W : WX) (e : Expr) (f : Env → Store → Res Bool) : Prop where
  pw : PW X e (TD X.K X.mg W RB f)
structure EvA (X : Cx) (W : WX) (es : List Expr) (f : Env → Store → Res (List D)) : Prop where
  pa : PA X es (TD X.K X.mg W (Reps X.K) f)

section
variable {X : Cx} {W : WX} {K : PySem.W.Frag} {mg : Str → Option Value} {I I' : Ow} {H H' : Hp} {M M' : Store} {σ : L2.St} {en : Env}
theorem Kp.bind {α β γ δ : Type} {R1 : Ow → Hp → α → β → Prop} {R2 : Ow → Hp → γ → δ → Prop} {o : Res α} {k : α → Store → Res γ} {Q1 : β → Hp → Prop} {Q2 : δ → Hp → Prop}
    (h : Kp K mg W R2 (bnd o k) I H σ Q2)
    (step : ∀ a M I1 H1 b, Ext I H I1 H1 → Sto K I1 H1 M → R1 I1 H1 a b → Kp K mg W R2 (k a M) I1 H1 σ Q2 → Q1 b H1) : Kp K mg W R1 o I H σ Q1 := by
  match o, h with
  | some (.ok a, M), h =>
    intro I1 H1 b e S r
    refine step a M I1 H1 b e S r ?_
    show Kp K mg W R2 (k a M) I1 H1 σ Q2
    have h' : Kp K mg W R2 (k a M) I H σ Q2 := h
    revert h'
    cases q : k a M with
    | none => exact id
    | some z =>
      obtain ⟨out, M2⟩ := z
      cases out with
      | ok c => exact fun h' I2 H2 b2 e2 => h' I2 H2 b2 (e.trans e2)
      | ex c fs => exact fun h' I2 H2 cls dx e2 => h' I2 H2 cls dx (e.trans e2)
  | some (.ex c fs, M), h => exact h
theorem Kp.ok {α β : Type} {R : Ow → Hp → α → β → Prop} {a : α} {Q : β → Hp → Prop} {b : β} (h : Kp K mg W R (some (.ok a, M)) I H σ Q) (S : Sto K I H M) (r : R I H a b) : Q b H := h I H b Ext.refl S r
theorem Kp.ok' {α β : Type} {R : Ow → Hp → α → β → Prop} {a : α} {Q : β → Hp → Prop} {b : β} (h : Kp K mg W R (some (.ok a, M')) I H σ Q) (e : Ext I H I' H') (S : Sto K I' H' M') (r : R I' H' a b) : Q b H' := h I' H' b e S r

theorem pe_imp {e : Expr} {t t' : TE} (h : PE X e t) (i : ∀ σ H Q, t' σ H Q → t σ H Q) : PE X e t' := ⟨fun pins s σ H Q Iv hq => h.run pins s σ H Q Iv (i σ H Q hq)⟩
theorem pt_imp {e : Expr} {t t' : TT} (h : PT X e t) (i : ∀ σ H Q, t' σ H Q → t σ H Q) : PT X e t' := ⟨fun pins s σ H Q Iv hq => h.run pins s σ H Q Iv (i σ H Q hq)⟩
theorem pw_imp {e : Expr} {t t' : TT} (h : PW X e t) (i : ∀ σ H Q, t' σ H Q → t σ H Q) : PW X e t' := ⟨fun wh pins s σ H Q Iv hq => h.run wh pins s σ H Q Iv (i σ H Q hq)⟩
theorem pa_imp {es : List Expr} {t t' : TA} (h : PA X es t) (i : ∀ σ H Q, t' σ H Q → t σ H Q) : PA X es t' := ⟨fun pos pins s σ H Q Iv hq => h.run pos pins s σ H Q Iv (i σ H Q hq)⟩
theorem ps_imp {st : Stmt} {t t' : TS} (h : PS X st t) (i : ∀ D σ H, t' D σ H → t D σ H) : PS X st t' := ⟨fun pins s σ H D Iv hq => h.run pins s σ H D Iv (i D σ H hq)⟩
theorem pss_imp {st : List Stmt} {t t' : TS} (h : PSs X st t) (i : ∀ D σ H, t' D σ H → t D σ H) : PSs X st t' := ⟨fun pins s σ H D Iv hq => h.run pins s σ H D Iv (i D σ H hq)⟩

/-! ### names and constants -/
def cVar (i : Nat) : EF := fun en M => match en[i]? with | some (some d) => some (.ok d, M) | _ => none
def cC (d : D) : EF := fun _ M => some (.ok d, M)
theorem ev_var {i : Nat} {x : Str} {pos : Pos} (hN : X.N[i]? = some x) (hv : Vis X.env.scope x) (hd : (x == ("__debug__" : Str)) = false := by decide) (hcd : (x == ("__classdict__" : Str)) = false := by decide) : EvE X W (.Name x pos) (cVar i) := by
  refine ⟨pe_imp (pe_var hN hv hd hcd) fun σ H Q h => ?_⟩
  obtain ⟨I, M, en, S, r, k⟩ := h
  unfold cVar at k
  split at k
  · rename_i d q
    obtain ⟨v, h1, h2⟩ := r.at_ i d q
    exact ⟨v, h1, k.ok S h2⟩
  · exact k.elim
theorem ev_c {e : Expr} {v : V} {d : D} (h : PE X e (tC v)) (r : ∀ I H, Rep X.K I H d v) : EvE X W e (cC d) :=
  ⟨pe_imp h fun σ H Q ⟨I, M, en, S, _, k⟩ => k.ok S (r I H)⟩
theorem ev_int {i j pos} : EvE X W (.Constant (.int i) j pos) (cC (.int i)) := ev_c pe_int fun _ _ => by simp only [Rep]
theorem ev_bl {b j pos} : EvE X W (.Constant (.bool b) j pos) (cC (.bl b)) := ev_c pe_bl fun _ _ => by simp only [Rep]
theorem ev_non {j pos} : EvE X W (.Constant .none j pos) (cC .non) := ev_c pe_non fun _ _ => by simp only [Rep]
theorem ev_str {x j pos} : EvE X W (.Constant (.str x) j pos) (cC (.str x)) := ev_c pe_str fun _ _ => by simp only [Rep]

/-! ### operators by values -/
def cOp (g : D → D → Store → Res D) (fa fb : EF) : EF := fun en M => bnd (fa en M) fun x M1 => bnd (fb en M1) fun y M2 => g x y M2
def cUn (g : D → Store → Res D) (fa : EF) : EF := fun en M => bnd (fa en M) fun x M1 => g x M1
/-- a two-place operation, over data -/
def OpD (K : PySem.W.Frag) (mg : Str → Option Value) (W : WX) (g : D → D → Store → Res D) (r : R2) : Prop :=
  ∀ x y M I H u v σ Q, Sto K I H M → Rep K I H x u → Rep K I H y v → Kp K mg W (Rep K) (g x y M) I H σ Q → r u v H Q
def UnD (K : PySem.W.Frag) (mg : Str → Option Value) (W : WX) (g : D → Store → Res D) (r : V → Hp → VK → Prop) : Prop :=
  ∀ x M I H u σ Q, Sto K I H M → Rep K I H x u → Kp K mg W (Rep K) (g x M) I H σ Q → r u H Q
theorem top_of {g : D → D → Store → Res D} {r : R2} {fa fb : EF} (hg : OpD K mg W g r) {Q : VK} (h : TD K mg W (Rep K) (cOp g fa fb) σ H Q) :
    tOp r (TD K mg W (Rep K) fa) (TD K mg W (Rep K) fb) σ H Q := by
  obtain ⟨I, M, en, S, r, k⟩ := h
  refine ⟨I, M, en, S, r, k.bind fun x M1 I1 H1 u e1 S1 r1 k1 => ?_⟩
  refine ⟨I1, M1, en, S1, r.mono e1, k1.bind fun y M2 I2 H2 v e2 S2 r2 k2 => ?_⟩
  exact hg x y M2 I2 H2 u v σ Q S2 (e2.rep r1) r2 k2
theorem ev_op {a b : Expr} {op : Operator} {pos : Pos} {g : D → D → Store → Res D} {r : R2} {fa fb : EF} (ho : OpR X (binaryOp op) r) (hg : OpD X.K X.mg W g r) (ha : EvE X W a fa) (hb : EvE X W b fb) : EvE X W (.BinOp a op b pos) (cOp g fa fb) :=
  ⟨pe_imp (pe_op ho ha.pe hb.pe) fun _ _ _ h => top_of hg h⟩
theorem ev_un {a : Expr} {op : UnaryOp} {pos : Pos} {g : D → Store → Res D} {r : V → Hp → VK → Prop} {fa : EF} (ho : UnR X (unaryOp op) r) (hg : UnD X.K X.mg W g r) (ha : EvE X W a fa) : EvE X W (.UnaryOp op a pos) (cUn g fa) := by
  refine ⟨pe_imp (pe_un ho ha.pe) fun σ H Q h => ?_⟩
  obtain ⟨I, M, en, S, r, k⟩ := h
  exact ⟨I, M, en, S, r, k.bind fun x M1 I1 H1 u e1 S1 r1 k1 => hg x M1 I1 H1 u σ Q S1 r1 k1⟩
/-- on two ints -/
def gI (C : Int → Int → Bool) (f : Int → Int → D) : D → D → Store → Res D := fun x y M => match x, y with
  | .int i, .int j => if C i j = true then some (.ok (f i j), M) else none
  | _, _ => none
def yes2 : Int → Int → Bool := fun _ _ => true
theorem opd_I {C : Int → Int → Prop} {c : Int → Int → Bool} {f : Int → Int → D} {g : Int → Int → V} (hc : ∀ i j, c i j = true → C i j) (hf : ∀ i j I H, Rep K I H (f i j) (g i j)) : OpD K mg W (gI c f) (rI C g) := by
  intro x y M I H u v σ Q S rx ry k
  unfold gI at k
  split at k
  · rename_i i j
    simp only [Rep] at rx ry
    split at k
    · rename_i q
      exact ⟨i, j, rx, ry, hc i j q, k.ok S (hf i j I H)⟩
    · exact k.elim
  · exact k.elim
theorem opd_I0 {f : Int → Int → D} {g : Int → Int → V} (hf : ∀ i j I H, Rep K I H (f i j) (g i j)) : OpD K mg W (gI yes2 f) (rI0 g) := by
  intro x y M I H u v σ Q S rx ry k
  unfold gI at k
  split at k
  · rename_i i j
    simp only [Rep] at rx ry
    exact ⟨i, j, rx, ry, Kp.ok (K := K) (mg := mg) (W := W) (R := Rep K) (a := f i j) k S (hf i j I H)⟩
  · exact k.elim
theorem rep_int {i : Int} : Rep K I H (.int i) (.int i) := by simp only [Rep]
theorem rep_bl {b : Bool} : Rep K I H (.bl b) (.bl b) := by simp only [Rep]
theorem rep_str {b : Str} : Rep K I H (.str b) (.str b) := by simp only [Rep]
theorem rep_non : Rep K I H .non .non := by simp only [Rep]
abbrev gAdd : D → D → Store → Res D := gI yes2 fun i j => .int (i + j)
abbrev gSub : D → D → Store → Res D := gI yes2 fun i j => .int (i - j)
/-- a factor within 64 bits, or both together within a million -/
def mulC (i j : Int) : Bool := decide (-(2 ^ 64) < i ∧ i < 2 ^ 64) || decide (-(2 ^ 64) < j ∧ j < 2 ^ 64) || decide (i.natAbs.log2 + j.natAbs.log2 < 1000000)
abbrev gMul : D → D → Store → Res D := gI mulC fun i j => .int (i * j)
end
end DL
/-! The data layer, part 2: comparisons, tests, displays, subscripts, calls of built-ins. -/
namespace DL
open PySem PySem.Spec PyProof.Rows L2
section
variable {X : Cx} {W : WX} {K : PySem.W.Frag} {mg : Str → Option Value} {I I' : Ow} {H H' : Hp} {M M' : Store} {σ : L2.St} {en : Env}

/-! ### arithmetic -/
theorem op_mulC : OpR X (binaryOp .Mult) (rI (fun i j => mulC i j = true) fun i j => .int (i * j)) := opI fun i j _ _ _ _ _ hc q => by
  refine mul_int q ?_
  unfold mulC at hc
  rw [Bool.or_eq_true, Bool.or_eq_true, decide_eq_true_eq, decide_eq_true_eq, decide_eq_true_eq] at hc
  rcases hc with (⟨h1, h2⟩ | ⟨h1, h2⟩) | h
  · exact .of_left (intBits_le_64 h1 h2)
  · exact .of_right (intBits_le_64 h1 h2)
  · exact CMulW.ok h
theorem opd_add : OpD K mg W gAdd (rI0 fun i j => .int (i + j)) := opd_I0 fun _ _ _ _ => rep_int
theorem opd_sub : OpD K mg W gSub (rI0 fun i j => .int (i - j)) := opd_I0 fun _ _ _ _ => rep_int
theorem opd_mul : OpD K mg W gMul (rI (fun i j => mulC i j = true) fun i j => .int (i * j)) := opd_I (fun _ _ h => h) fun _ _ _ _ => rep_int
def divC (_ j : Int) : Bool := decide (0 < j) && decide (j.natAbs.log2 < 9000)
abbrev gDiv : D → D → Store → Res D := gI divC fun i j => .int (i / j)
theorem opd_div : OpD K mg W gDiv (rI CDivW fun i j => .int (i / j)) := opd_I (fun i j h => by
  unfold divC at h
  rw [Bool.and_eq_true, decide_eq_true_eq, decide_eq_true_eq] at h
  exact h) fun _ _ _ _ => rep_int
def modC (_ j : Int) : Bool := decide (0 < j)
abbrev gMod : D → D → Store → Res D := gI modC fun i j => .int (i % j)
theorem opd_mod : OpD K mg W gMod (rI (fun _ j => 0 < j) fun i j => .int (i % j)) := opd_I (fun i j h => of_decide_eq_true h) fun _ _ _ _ => rep_int
def powC (i j : Int) : Bool := decide (0 ≤ j) && (decide (j ≤ 1000000) && decide (i.natAbs < 2 ^ 64))
theorem powC_ok {i j : Int} (h : powC i j = true) : CPow i j := by
  unfold powC at h
  rw [Bool.and_eq_true, Bool.and_eq_true, decide_eq_true_eq, decide_eq_true_eq, decide_eq_true_eq] at h
  exact h
abbrev gPow : D → D → Store → Res D := gI powC fun i j => .int (i ^ j.toNat)
abbrev gShl : D → D → Store → Res D := gI powC fun i j => .int (i * 2 ^ j.toNat)
theorem opd_pow : OpD K mg W gPow (rI CPow fun i j => .int (i ^ j.toNat)) := opd_I (fun _ _ => powC_ok) fun _ _ _ _ => rep_int
theorem opd_shl : OpD K mg W gShl (rI CPow fun i j => .int (i * 2 ^ j.toNat)) := opd_I (fun _ _ => powC_ok) fun _ _ _ _ => rep_int
def gNeg : D → Store → Res D := fun x M => match x with | .int i => some (.ok (.int (-i)), M) | _ => none
theorem und_neg : UnD K mg W gNeg (rU fun i => .int (-i)) := by
  intro x M I H u σ Q S rx k
  unfold gNeg at k
  split at k
  · simp only [Rep] at rx
    exact ⟨_, rx, k.ok S rep_int⟩
  · exact k.elim

/-! ### comparisons -/
abbrev gLt : D → D → Store → Res D := gI yes2 fun i j => .bl (decide (i < j))
abbrev gLe : D → D → Store → Res D := gI yes2 fun i j => .bl (decide (i ≤ j))
abbrev gGt : D → D → Store → Res D := gI yes2 fun i j => .bl (decide (j < i))
abbrev gGe : D → D → Store → Res D := gI yes2 fun i j => .bl (decide (j ≤ i))
theorem opd_lt : OpD K mg W gLt (rI0 fun i j => .bl (decide (i < j))) := opd_I0 fun _ _ _ _ => rep_bl
theorem opd_le : OpD K mg W gLe (rI0 fun i j => .bl (decide (i ≤ j))) := opd_I0 fun _ _ _ _ => rep_bl
theorem opd_gt : OpD K mg W gGt (rI0 fun i j => .bl (decide (j < i))) := opd_I0 fun _ _ _ _ => rep_bl
theorem opd_ge : OpD K mg W gGe (rI0 fun i j => .bl (decide (j ≤ i))) := opd_I0 fun _ _ _ _ => rep_bl
theorem ev_cmp {a b : Expr} {op : CmpOp} {pos : Pos} {g : D → D → Store → Res D} {r : R2} {fa fb : EF} (ho : OpR X (compareOp op) r) (hg : OpD X.K X.mg W g r) (ha : EvE X W a fa) (hb : EvE X W b fb) (hm : behindInMarks op b = false) : EvE X W (.Compare a [op] [b] pos) (cOp g fa fb) :=
  ⟨pe_imp (pe_cmpR ho ha.pe hb.pe hm) fun _ _ _ h => top_of hg h⟩

/-! deep comparison -/
mutual
def toPy : D → Option PyData
  | .non => some .none
  | .bl b => some (.bool b)
  | .int i => some (.int i)
  | .str s => some (.str s)
  | .tup ds => (toPys ds).map .tuple
  | .imm ds => (toPys ds).map .list
  | .cel _ => none
  | .dic _ => none
  | .ty _ => none
  | .scr _ => none
def toPys : List D → Option (List PyData)
  | [] => some []
  | d :: ds => match toPy d, toPys ds with | some x, some xs => some (x :: xs) | _, _ => none
end
def toPyM (M : Store) : D → Option PyData
  | .cel n => match M[n]? with | some ds => (toPys ds).map .list | none => none
  | d => toPy d
mutual
theorem dp_of : ∀ {d : D} {v : V} {x : PyData}, Rep K I H d v → toPy d = some x → Dp K H v x
  | .non, v, x, h, e => by simp only [Rep] at h; subst h; simp only [toPy, Option.some.injEq] at e; subst e; exact .non
  | .bl b, v, x, h, e => by simp only [Rep] at h; subst h; simp only [toPy, Option.some.injEq] at e; subst e; exact .bl b
  | .int i, v, x, h, e => by simp only [Rep] at h; subst h; simp only [toPy, Option.some.injEq] at e; subst e; exact .int i
  | .str s, v, x, h, e => by simp only [Rep] at h; subst h; simp only [toPy, Option.some.injEq] at e; subst e; exact .str s
  | .tup ds, v, x, h, e => by
    simp only [Rep] at h
    obtain ⟨a, vs, rfl, h2, h3⟩ := h
    simp only [toPy, Option.map_eq_some_iff] at e
    obtain ⟨xs, e1, rfl⟩ := e
    exact .tup h2.sq (dps_of h3 e1)
  | .imm ds, v, x, h, e => by
    simp only [Rep] at h
    obtain ⟨a, vs, rfl, h2, h3⟩ := h
    simp only [toPy, Option.map_eq_some_iff] at e
    obtain ⟨xs, e1, rfl⟩ := e
    exact .lst (.inl (.inl h2.1)) (dps_of h3 e1)
  | .scr ds, v, x, h, e => by simp only [toPy] at e; cases e
  | .cel n, v, x, h, e => by simp only [toPy] at e; cases e
  | .dic n, v, x, h, e => by simp only [toPy] at e; cases e
  | .ty n, v, x, h, e => by simp only [toPy] at e; cases e
theorem dps_of : ∀ {ds : List D} {vs : List V} {xs : List PyData}, Reps K I H ds vs → toPys ds = some xs → DpAll K H vs xs
  | [], vs, xs, h, e => by simp only [Reps] at h; subst h; simp only [toPys, Option.some.injEq] at e; subst e; exact .nil
  | d :: ds, vs, xs, h, e => by
    simp only [Reps] at h
    obtain ⟨v, r, rfl, h2, h3⟩ := h
    simp only [toPys] at e
    split at e
    · rename_i y ys e1 e2
      cases e
      exact .cons (dp_of h2 e1) (dps_of h3 e2)
    · cases e
end
theorem dpM_of {d : D} {v : V} {x : PyData} (S : Sto K I H M) (h : Rep K I H d v) (e : toPyM M d = some x) : Dp K H v x := by
  cases d with
  | cel n =>
    simp only [Rep] at h
    obtain ⟨a, rfl, h2⟩ := h
    unfold toPyM at e
    dsimp only at e
    split at e
    · rename_i ds q
      obtain ⟨vs, h3, h4⟩ := S.at_ n a ds h2 q
      rw [Option.map_eq_some_iff] at e
      obtain ⟨xs, e1, rfl⟩ := e
      exact .lst (.inl (.inl h3)) (dps_of h4 e1)
    · cases e
  | _ => exact dp_of h (by simpa only [toPyM] using e)
def eqM (M : Store) (x y : D) : Option Bool :=
  match toPyM M x, toPyM M y with
  | some a, some b => if (SeqAt.shaped a && SeqAt.shaped b) = true then some (PyData.eqv a b) else none
  | _, _ => none
def gEq (neg : Bool) : D → D → Store → Res D := fun x y M => match x, y with
  | .str s, .str t => some (.ok (.bl (if neg = true then !(s == t) else s == t)), M)
  | x, y => match eqM M x y with | some b => some (.ok (.bl (if neg = true then !b else b)), M) | none => none
/-- data, or two texts -/
abbrev rEqA (K : PySem.W.Frag) : R2 := fun x y H Q => rEqD K x y H Q ∨ rEq x y H Q
abbrev rNeA (K : PySem.W.Frag) : R2 := fun x y H Q => rNeD K x y H Q ∨ rNe x y H Q
theorem op_eqA (hu : X.A.units + 64 < cLine) : OpR X (compareOp .Eq) (rEqA X.K) := OpR.or (op_eqD hu) op_eq
theorem op_neA (hu : X.A.units + 64 < cLine) : OpR X (compareOp .NotEq) (rNeA X.K) := OpR.or (op_neD hu) op_ne
theorem eqM_some {x y : D} {u v : V} {b : Bool} (S : Sto K I H M) (rx : Rep K I H x u) (ry : Rep K I H y v) (h : eqM M x y = some b) :
    ∃ d e, Dp K H u d ∧ Dp K H v e ∧ SeqAt.shaped d = true ∧ SeqAt.shaped e = true ∧ PyData.eqv d e = b := by
  unfold eqM at h
  split at h
  · rename_i d e h1 h2
    split at h
    · rename_i q
      rw [Bool.and_eq_true] at q
      exact ⟨d, e, dpM_of S rx h1, dpM_of S ry h2, q.1, q.2, Option.some.inj h⟩
    · cases h
  · cases h
theorem opd_eq : OpD K mg W (gEq false) (rEqA K) := by
  intro x y M I H u v σ Q S rx ry k
  unfold gEq at k
  split at k
  · simp only [Rep] at rx ry
    subst rx; subst ry
    exact .inr ⟨rfl, by rw [dec_str]; exact k.ok S rep_bl⟩
  · split at k
    · rename_i b q
      obtain ⟨d, e, h1, h2, h3, h4, rfl⟩ := eqM_some S rx ry q
      exact .inl ⟨d, e, h1, h2, h3, h4, k.ok S rep_bl⟩
    · exact k.elim
theorem opd_ne : OpD K mg W (gEq true) (rNeA K) := by
  intro x y M I H u v σ Q S rx ry k
  unfold gEq at k
  split at k
  · simp only [Rep] at rx ry
    subst rx; subst ry
    exact .inr ⟨rfl, by rw [dec_str]; exact k.ok S rep_bl⟩
  · split at k
    · rename_i b q
      obtain ⟨d, e, h1, h2, h3, h4, rfl⟩ := eqM_some S rx ry q
      exact .inl ⟨d, e, h1, h2, h3, h4, k.ok S rep_bl⟩
    · exact k.elim
/-- is None, is not None -/
def isNone : D → Bool
  | .non => true
  | _ => false
def gIsN (neg : Bool) : D → D → Store → Res D := fun x y M => match y with
  | .non => some (.ok (.bl (if neg = true then !isNone x else isNone x)), M)
  | _ => none
theorem rep_none {x : D} {v : V} (h : Rep K I H x v) : decide (v = .non) = isNone x := by
  cases x <;> simp only [Rep] at h
  · subst h; rfl
  · subst h; rfl
  · subst h; rfl
  · subst h; rfl
  · obtain ⟨_, _, rfl, _⟩ := h; rfl
  · obtain ⟨_, _, rfl, _⟩ := h; rfl
  · obtain ⟨_, rfl, _⟩ := h; rfl
  · subst h; rfl
  · obtain ⟨_, _, rfl, _⟩ := h; rfl
  · obtain ⟨_, rfl, _⟩ := h; rfl
theorem opd_isN : OpD K mg W (gIsN false) (fun x y H Q => y = .non ∧ Q (.bl (decide (x = .non))) H) := by
  intro x y M I H u v σ Q S rx ry k
  unfold gIsN at k
  split at k
  · simp only [Rep] at ry
    exact ⟨ry, k.ok S (by rw [rep_none rx]; exact rep_bl)⟩
  · exact k.elim
theorem opd_notN : OpD K mg W (gIsN true) (fun x y H Q => y = .non ∧ Q (.bl (!decide (x = .non))) H) := by
  intro x y M I H u v σ Q S rx ry k
  unfold gIsN at k
  split at k
  · simp only [Rep] at ry
    exact ⟨ry, k.ok S (by rw [rep_none rx]; exact rep_bl)⟩
  · exact k.elim
/-- is True, is False: of bools -/
def gIsB (neg : Bool) : D → D → Store → Res D := fun x y M => match x, y with
  | .bl a, .bl b => some (.ok (.bl (if neg = true then !decide (a = b) else decide (a = b))), M)
  | _, _ => none
theorem opd_isB : OpD K mg W (gIsB false) rIsB := by
  intro x y M I H u v σ Q S rx ry k
  unfold gIsB at k
  split at k
  · simp only [Rep] at rx ry
    exact ⟨_, _, rx, ry, k.ok S rep_bl⟩
  · exact k.elim
theorem opd_notB : OpD K mg W (gIsB true) rNotB := by
  intro x y M I H u v σ Q S rx ry k
  unfold gIsB at k
  split at k
  · simp only [Rep] at rx ry
    exact ⟨_, _, rx, ry, k.ok S rep_bl⟩
  · exact k.elim

/-! ### truth; and, or, not -/
def tru (M : Store) : D → Option Bool
  | .non => some false
  | .bl b => some b
  | .int i => some (i != 0)
  | .str s => if s.length ≤ sizeLine then some ((s.length : Int) != 0) else none
  | .tup ds => some (!ds.isEmpty)
  | .imm ds => some (!ds.isEmpty)
  | .cel n => match M[n]? with | some ds => some (!ds.isEmpty) | none => none
  | .ty _ => none
  | .dic _ => none
  | .scr ds => some (!ds.isEmpty)
theorem isEmpty_reps {ds : List D} {vs : List V} (h : Reps K I H ds vs) : (!ds.isEmpty) = !vs.isEmpty := by
  cases ds with
  | nil => simp only [Reps] at h; subst h; rfl
  | cons d r => simp only [Reps] at h; obtain ⟨_, _, rfl, _⟩ := h; rfl
theorem tru_of {x : D} {v : V} {b : Bool} (S : Sto K I H M) (h : Rep K I H x v) (e : tru M x = some b) : TruV K v H b := by
  cases x <;> simp only [Rep] at h
  · subst h; simp only [tru, Option.some.injEq] at e; exact e.symm
  · subst h; simp only [tru, Option.some.injEq] at e; exact e.symm
  · subst h; simp only [tru, Option.some.injEq] at e; exact e.symm
  · subst h
    unfold tru at e
    dsimp only at e
    split at e
    · rename_i q
      exact ⟨q, (Option.some.inj e).symm⟩
    · cases e
  · obtain ⟨a, vs, rfl, h2, h3⟩ := h
    simp only [tru, Option.some.injEq] at e
    exact .inr (.inl ⟨vs, h2.sq, by rw [← e]; exact isEmpty_reps h3⟩)
  · obtain ⟨a, vs, rfl, h2, h3⟩ := h
    simp only [tru, Option.some.injEq] at e
    exact .inl ⟨vs, .inl (.inl h2.1), by rw [← e]; exact isEmpty_reps h3⟩
  · obtain ⟨a, rfl, h2⟩ := h
    unfold tru at e
    dsimp only at e
    split at e
    · rename_i ds q
      obtain ⟨vs, h3, h4⟩ := S.at_ _ a ds h2 q
      exact .inl ⟨vs, .inl (.inl h3), by rw [← Option.some.inj e]; exact isEmpty_reps h4⟩
    · cases e
  · simp only [tru] at e; cases e
  · obtain ⟨a, vs, rfl, h2, h3⟩ := h
    simp only [tru, Option.some.injEq] at e
    exact .inl ⟨vs, h2.sq, by rw [← e]; exact isEmpty_reps h3⟩
  · simp only [tru] at e; cases e
def cAnd (fa fb : EF) : EF := fun en M => bnd (fa en M) fun x M1 => match tru M1 x with | some true => fb en M1 | some false => some (.ok x, M1) | none => none
def cOr (fa fb : EF) : EF := fun en M => bnd (fa en M) fun x M1 => match tru M1 x with | some true => some (.ok x, M1) | some false => fb en M1 | none => none
def cNot (fa : EF) : EF := fun en M => bnd (fa en M) fun x M1 => match tru M1 x with | some b => some (.ok (.bl (!b)), M1) | none => none
variable {a b c e : Expr} {rest : List Expr} {pos : Pos} {fa fb fc : EF}
theorem ev_one {op} (h : EvE X W a fa) : EvE X W (.BoolOp op [a] pos) fa := ⟨pe_one h.pe⟩
theorem ev_and (ha : EvE X W a fa) (hb : EvE X W (.BoolOp .And (b :: rest) pos) fb) : EvE X W (.BoolOp .And (a :: b :: rest) pos) (cAnd fa fb) := by
  refine ⟨pe_imp (pe_andT ha.pe hb.pe) fun σ H Q h => ?_⟩
  obtain ⟨I, M, en, S, r, k⟩ := h
  refine ⟨I, M, en, S, r, k.bind fun x M1 I1 H1 u e1 S1 r1 k1 => ?_⟩
  split at k1
  · rename_i q; exact ⟨true, tru_of S1 r1 q, (if_pos rfl).mpr ⟨I1, M1, en, S1, r.mono e1, k1⟩⟩
  · rename_i q; exact ⟨false, tru_of S1 r1 q, (if_neg Bool.false_ne_true).mpr (k1.ok S1 r1)⟩
  · exact k1.elim
theorem ev_or (ha : EvE X W a fa) (hb : EvE X W (.BoolOp .Or (b :: rest) pos) fb) : EvE X W (.BoolOp .Or (a :: b :: rest) pos) (cOr fa fb) := by
  refine ⟨pe_imp (pe_orT ha.pe hb.pe) fun σ H Q h => ?_⟩
  obtain ⟨I, M, en, S, r, k⟩ := h
  refine ⟨I, M, en, S, r, k.bind fun x M1 I1 H1 u e1 S1 r1 k1 => ?_⟩
  split at k1
  · rename_i q; exact ⟨true, tru_of S1 r1 q, (if_pos rfl).mpr (k1.ok S1 r1)⟩
  · rename_i q; exact ⟨false, tru_of S1 r1 q, (if_neg Bool.false_ne_true).mpr ⟨I1, M1, en, S1, r.mono e1, k1⟩⟩
  · exact k1.elim
theorem ev_not (ha : EvE X W a fa) : EvE X W (.UnaryOp .Not a pos) (cNot fa) := by
  refine ⟨pe_imp (pe_notT ha.pe) fun σ H Q h => ?_⟩
  obtain ⟨I, M, en, S, r, k⟩ := h
  refine ⟨I, M, en, S, r, k.bind fun x M1 I1 H1 u e1 S1 r1 k1 => ?_⟩
  split at k1
  · rename_i q; exact ⟨_, tru_of S1 r1 q, k1.ok S1 rep_bl⟩
  · exact k1.elim

/-! ### tests -/
abbrev TF := Env → Store → Res Bool
def cTru (fa : EF) : TF := fun en M => bnd (fa en M) fun x M1 => match tru M1 x with | some b => some (.ok b, M1) | none => none
def tAndC (t u : TF) : TF := fun en M => bnd (t en M) fun x M1 => if x = true then u en M1 else some (.ok false, M1)
def tOrC (t u : TF) : TF := fun en M => bnd (t en M) fun x M1 => if x = true then some (.ok true, M1) else u en M1
def tNotC (t : TF) : TF := fun en M => bnd (t en M) fun x M1 => some (.ok (!x), M1)
variable {t u : TF}
theorem et_tru (ha : EvE X W a fa) (he : ∀ whole, isTrue a X.env whole = (do let v ← whole; standAt a.pos; holding [v] (truthy v)) := by intro _; rfl) : EvT X W a (cTru fa) := by
  refine ⟨pt_imp (pt_truth ha.pe he) fun σ H Q h => ?_⟩
  obtain ⟨I, M, en, S, r, k⟩ := h
  refine ⟨I, M, en, S, r, k.bind fun x M1 I1 H1 u e1 S1 r1 k1 => ?_⟩
  split at k1
  · rename_i b q; exact ⟨b, tru_of S1 r1 q, k1.ok S1 rfl⟩
  · exact k1.elim
theorem test_imp {σ : L2.St} {H : Hp} {Q : Bool → Hp → Prop} {te : TE} {f : EF} (i : ∀ Q', TD X.K X.mg W (Rep X.K) f σ H Q' → te σ H Q') (h : TD X.K X.mg W RB (cTru f) σ H Q) (hb : ∀ en M x M', f en M = some (.ok x, M') → ∃ b, x = .bl b) : tTest te σ H Q := by
  obtain ⟨I, M, en, S, r, k⟩ := h
  refine i _ ⟨I, M, en, S, r, ?_⟩
  unfold cTru at k
  revert k
  cases q : f en M with
  | none => exact id
  | some z =>
    obtain ⟨o, M1⟩ := z
    cases o with
    | ex c fs => exact id
    | ok x =>
      obtain ⟨b, rfl⟩ := hb en M x M1 q
      intro k I1 H1 u e1 S1 r1
      simp only [Rep] at r1
      subst r1
      exact ⟨b, rfl, k I1 H1 b e1 S1 rfl⟩
theorem gI_bl {C : Int → Int → Bool} {p : Int → Int → Bool} {f : EF} {g : EF} : ∀ en M x M', cOp (gI C fun i j => .bl (p i j)) f g en M = some (.ok x, M') → ∃ b, x = .bl b := by
  intro en M x M' h
  unfold cOp at h
  match q : f en M, h with
  | some (.ok a, M1), h =>
    have h : bnd (g en M1) (fun y M2 => gI C (fun i j => .bl (p i j)) a y M2) = some (.ok x, M') := h
    match q2 : g en M1, h with
    | some (.ok b, M2), h =>
      have h : gI C (fun i j => .bl (p i j)) a b M2 = some (.ok x, M') := h
      unfold gI at h
      split at h
      · split at h
        · cases h; exact ⟨_, rfl⟩
        · cases h
      · cases h
theorem gB_bl {gg : D → D → Store → Res D} (hg : ∀ a b M x M', gg a b M = some (.ok x, M') → ∃ b, x = .bl b) {f g : EF} : ∀ en M x M', cOp gg f g en M = some (.ok x, M') → ∃ b, x = .bl b := by
  intro en M x M' h
  unfold cOp at h
  match q : f en M, h with
  | some (.ok a, M1), h =>
    have h : bnd (g en M1) (fun y M2 => gg a y M2) = some (.ok x, M') := h
    match q2 : g en M1, h with
    | some (.ok b, M2), h => exact hg a b M2 x M' h
theorem et_cmp {op : CmpOp} {g : D → D → Store → Res D} {r : R2} (ho : OpR X (compareOp op) r) (hg : OpD X.K X.mg W g r) (hb' : ∀ a b M x M', g a b M = some (.ok x, M') → ∃ b, x = .bl b) (ha : EvE X W a fa) (hb : EvE X W b fb) (hm : behindInMarks op b = false) : EvT X W (.Compare a [op] [b] pos) (cTru (cOp g fa fb)) :=
  ⟨pt_imp (pt_cmpR ho ha.pe hb.pe hm) fun _ _ _ h => test_imp (fun _ h' => top_of hg h') h (gB_bl hb')⟩
theorem et_not (h : EvT X W a t) : EvT X W (.UnaryOp .Not a pos) (tNotC t) := by
  refine ⟨pt_imp (pt_not h.pt) fun σ H Q h => ?_⟩
  obtain ⟨I, M, en, S, r, k⟩ := h
  refine ⟨I, M, en, S, r, k.bind fun x M1 I1 H1 u e1 S1 r1 k1 => ?_⟩
  cases r1
  exact k1.ok S1 rfl
theorem et_W (h : EvW X W a t) : EvT X W a t := ⟨h.pw.pt⟩
theorem ew_and1 (h : EvT X W a t) : EvW X W (.BoolOp .And [a] pos) t := ⟨pw_and1 h.pt⟩
theorem ew_or1 (h : EvT X W a t) : EvW X W (.BoolOp .Or [a] pos) t := ⟨pw_or1 h.pt⟩
theorem ew_and (ha : EvT X W a t) (hb : EvW X W (.BoolOp .And (b :: rest) pos) u) : EvW X W (.BoolOp .And (a :: b :: rest) pos) (tAndC t u) := by
  refine ⟨pw_imp (pw_and ha.pt hb.pw) fun σ H Q h => ?_⟩
  obtain ⟨I, M, en, S, r, k⟩ := h
  refine ⟨I, M, en, S, r, k.bind fun x M1 I1 H1 u e1 S1 r1 k1 => ?_⟩
  cases r1
  cases x with
  | true => exact (if_pos rfl).mpr ⟨I1, M1, en, S1, r.mono e1, k1⟩
  | false => exact (if_neg Bool.false_ne_true).mpr (Kp.ok (M := M1) k1 S1 rfl)
theorem ew_or (ha : EvT X W a t) (hb : EvW X W (.BoolOp .Or (b :: rest) pos) u) : EvW X W (.BoolOp .Or (a :: b :: rest) pos) (tOrC t u) := by
  refine ⟨pw_imp (pw_or ha.pt hb.pw) fun σ H Q h => ?_⟩
  obtain ⟨I, M, en, S, r, k⟩ := h
  refine ⟨I, M, en, S, r, k.bind fun x M1 I1 H1 u e1 S1 r1 k1 => ?_⟩
  cases r1
  cases x with
  | true => exact (if_pos rfl).mpr (Kp.ok (M := M1) k1 S1 rfl)
  | false => exact (if_neg Bool.false_ne_true).mpr ⟨I1, M1, en, S1, r.mono e1, k1⟩
def cIf (t : TF) (fa fb : EF) : EF := fun en M => bnd (t en M) fun x M1 => if x = true then fa en M1 else fb en M1
theorem ev_if (hc : EvT X W c t) (ha : EvE X W a fa) (hb : EvE X W b fb) : EvE X W (.IfExp c a b pos) (cIf t fa fb) := by
  refine ⟨pe_imp (pe_ifExp hc.pt ha.pe hb.pe) fun σ H Q h => ?_⟩
  obtain ⟨I, M, en, S, r, k⟩ := h
  refine ⟨I, M, en, S, r, k.bind fun x M1 I1 H1 u e1 S1 r1 k1 => ?_⟩
  cases r1
  cases x with
  | true => exact (if_pos rfl).mpr ⟨I1, M1, en, S1, r.mono e1, k1⟩
  | false => exact (if_neg Bool.false_ne_true).mpr ⟨I1, M1, en, S1, r.mono e1, k1⟩
end
end DL
/-! The data layer, part 3: arguments, displays, subscripts, slices, concatenations, calls of built-ins. -/
namespace DL
open PySem PySem.Spec PyProof.Rows L2
def szOk (n : Nat) : Bool := decide (n ≤ 16777216)
theorem szOk_ok {n : Nat} (h : szOk n = true) : n ≤ sizeLine := by rw [sizeLine_eq]; exact of_decide_eq_true h
section
variable {X : Cx} {W : WX} {K : PySem.W.Frag} {mg : Str → Option Value} {I I' : Ow} {H H' : Hp} {M M' : Store} {σ : L2.St} {en : Env}
variable {a b c e : Expr} {es rest : List Expr} {pos : Pos} {fa fb fc : EF}

/-! ### arguments -/
abbrev AF := Env → Store → Res (List D)
def aNil : AF := fun _ M => some (.ok [], M)
def aCons (fa : EF) (fr : AF) : AF := fun en M => bnd (fa en M) fun x M1 => bnd (fr en M1) fun xs M2 => some (.ok (x :: xs), M2)
variable {fr : AF}
theorem ea_nil : EvA X W [] aNil := ⟨pa_imp pa_nil fun σ H Q ⟨I, M, en, S, r, k⟩ => k.ok S (by simp only [Reps])⟩
theorem ea_cons (ha : EvE X W e fa) (hr : EvA X W es fr) (hs : starEach (e :: es) X.env = (false, eval e X.env) :: starEach es X.env := by rfl) : EvA X W (e :: es) (aCons fa fr) := by
  refine ⟨pa_imp (pa_cons ha.pe hr.pa hs) fun σ H Q h => ?_⟩
  obtain ⟨I, M, en, S, r, k⟩ := h
  refine ⟨I, M, en, S, r, k.bind fun x M1 I1 H1 u e1 S1 r1 k1 => ?_⟩
  refine ⟨I1, M1, en, S1, r.mono e1, k1.bind fun xs M2 I2 H2 us e2 S2 r2 k2 => ?_⟩
  exact Kp.ok (M := M2) k2 S2 (Reps.cons (e2.rep r1) r2)
/-- a new tuple, at a new place -/
theorem rep_newT {p : Addr} {ds : List D} {vs : List V} (S : Sto K I H M) (hp : H p = none) (r : Reps K I H ds vs) : Rep K I (upd H p (.tup vs)) (.tup ds) (.ref p) := by
  simp only [Rep]
  exact ⟨p, vs, rfl, .inl ⟨.inl upd_same, S.fresh hp⟩, (Ext.new hp).reps r⟩
theorem rep_newL {p : Addr} {ds : List D} {vs : List V} (S : Sto K I H M) (hp : H p = none) (r : Reps K I H ds vs) : Rep K I (upd H p (.lst vs)) (.imm ds) (.ref p) := by
  simp only [Rep]
  exact ⟨p, vs, rfl, ⟨upd_same, S.fresh hp⟩, (Ext.new hp).reps r⟩
theorem rep_newC {p : Addr} {vs : List V} (S : Sto K I H M) (hp : H p = none) : Rep K (I.add p) (upd H p (.lst vs)) (.cel M.length) (.ref p) := by
  simp only [Rep]
  exact ⟨p, rfl, by rw [← S.len]; simp [Ow.add], fun z => (S.fresh hp).1 (S.sub p z)⟩
def cTup (fr : AF) : EF := fun en M => bnd (fr en M) fun ds M1 => if szOk ds.length = true then some (.ok (.tup ds), M1) else none
def cLst (fr : AF) : EF := fun en M => bnd (fr en M) fun ds M1 => if szOk ds.length = true then some (.ok (.imm ds), M1) else none
/-- a list that will be changed -/
def cCel (fr : AF) : EF := fun en M => bnd (fr en M) fun ds M1 => if szOk ds.length = true then some (.ok (.cel M1.length), M1 ++ [ds]) else none
theorem ev_tup {x1} (h : EvA X W es fr) : EvE X W (.Tuple es x1 pos) (cTup fr) := by
  refine ⟨pe_imp (pe_tup h.pa) fun σ H Q h => ?_⟩
  obtain ⟨I, M, en, S, r, k⟩ := h
  refine ⟨I, M, en, S, r, k.bind fun ds M1 I1 H1 vs e1 S1 r1 k1 => ?_⟩
  split at k1
  · rename_i q
    exact ⟨by rw [← r1.length]; exact szOk_ok q, fun p hp => k1.ok' (Ext.new hp) (S1.new hp) (rep_newT S1 hp r1)⟩
  · exact k1.elim
theorem ev_lst (h : EvA X W es fr) : EvE X W (.List es pos) (cLst fr) := by
  refine ⟨pe_imp (pe_lst h.pa) fun σ H Q h => ?_⟩
  obtain ⟨I, M, en, S, r, k⟩ := h
  refine ⟨I, M, en, S, r, k.bind fun ds M1 I1 H1 vs e1 S1 r1 k1 => ?_⟩
  split at k1
  · rename_i q
    exact ⟨by rw [← r1.length]; exact szOk_ok q, fun p hp => k1.ok' (Ext.new hp) (S1.new hp) (rep_newL S1 hp r1)⟩
  · exact k1.elim
theorem ev_cel (h : EvA X W es fr) : EvE X W (.List es pos) (cCel fr) := by
  refine ⟨pe_imp (pe_lst h.pa) fun σ H Q h => ?_⟩
  obtain ⟨I, M, en, S, r, k⟩ := h
  refine ⟨I, M, en, S, r, k.bind fun ds M1 I1 H1 vs e1 S1 r1 k1 => ?_⟩
  split at k1
  · rename_i q
    exact ⟨by rw [← r1.length]; exact szOk_ok q, fun p hp => k1.ok' (Ext.newC hp) (S1.newC hp r1) (rep_newC S1 hp)⟩
  · exact k1.elim

/-! ### the items of a sequence -/
def itemsOf (M : Store) : D → Option (List D)
  | .tup ds => some ds
  | .imm ds => some ds
  | .scr ds => some ds
  | .cel n => M[n]?
  | _ => none
theorem items_of {d : D} {v : V} {ds : List D} (S : Sto K I H M) (r : Rep K I H d v) (h : itemsOf M d = some ds) :
    ∃ p vs, v = .ref p ∧ ((∃ es, d = .tup es) ∧ SqT K H p vs ∨ SqL K H p vs) ∧ Reps K I H ds vs := by
  cases d <;> simp only [itemsOf] at h
  all_goals first | (cases h; done) | skip
  · cases h
    simp only [Rep] at r
    obtain ⟨a, vs, rfl, h2, h3⟩ := r
    exact ⟨a, vs, rfl, .inl ⟨⟨_, rfl⟩, h2.sq⟩, h3⟩
  · cases h
    simp only [Rep] at r
    obtain ⟨a, vs, rfl, h2, h3⟩ := r
    exact ⟨a, vs, rfl, .inr (.inl (.inl h2.1)), h3⟩
  · simp only [Rep] at r
    obtain ⟨a, rfl, h2⟩ := r
    obtain ⟨vs, h3, h4⟩ := S.at_ _ a ds h2 h
    exact ⟨a, vs, rfl, .inr (.inl (.inl h3)), h4⟩
  · cases h
    simp only [Rep] at r
    obtain ⟨a, vs, rfl, h2, h3⟩ := r
    exact ⟨a, vs, rfl, .inr h2.sq, h3⟩

/-! ### subscripts -/
def gIx : D → D → Store → Res D := fun x y M => match y with
  | .int i => match itemsOf M x with
    | some ds => match atI ds i with | some d => some (.ok d, M) | none => none
    | none => match x with
      | .str s => if s.length ≤ sizeLine then (match atI s.cps.toList i with | some c => some (.ok (.str ⟨#[c]⟩), M) | none => none) else none
      | _ => none
  | _ => none
theorem atI_reps {ds : List D} {vs : List V} {i : Int} {d : D} (r : Reps K I H ds vs) (h : atI ds i = some d) : ∃ v, atI vs i = some v ∧ Rep K I H d v := by
  unfold atI at h ⊢
  rw [← r.length]
  cases q : ixN ds.length i with
  | none => rw [q] at h; cases h
  | some j =>
    rw [q] at h
    exact r.get' (i := j) h
theorem opd_ix : OpD K mg W gIx (rIx K) := by
  intro x y M I H u v σ Q S rx ry k
  unfold gIx at k
  split at k
  · simp only [Rep] at ry
    subst ry
    split at k
    · rename_i ds q
      split at k
      · rename_i d q2
        obtain ⟨p, vs, rfl, hs, r⟩ := items_of S rx q
        obtain ⟨v, h1, h2⟩ := atI_reps r q2
        rcases hs with ⟨_, hs⟩ | hs
        · exact .inr (.inl ⟨p, vs, _, v, rfl, rfl, hs, h1, k.ok S h2⟩)
        · exact .inl ⟨p, vs, _, v, rfl, rfl, hs, h1, k.ok S h2⟩
      · exact k.elim
    · split at k
      · split at k
        · rename_i q3
          split at k
          · rename_i c q4
            simp only [Rep] at rx
            exact .inr (.inr ⟨_, _, c, rx, rfl, q3, q4, k.ok S rep_str⟩)
          · exact k.elim
        · exact k.elim
      · exact k.elim
  · exact k.elim
theorem ev_ix (ha : EvE X W a fa) (hb : EvE X W b fb) (hs : PlainIx b := by intro _ _; rfl) : EvE X W (.Subscript a b pos) (cOp gIx fa fb) :=
  ⟨pe_imp (pe_ix ix_seq ha.pe hb.pe hs) fun _ _ _ h => top_of opd_ix h⟩

/-! ### slices -/
abbrev OF := Env → Store → Res (Option Int)
structure EvO (X : Cx) (W : WX) (o : Option Expr) (f : OF) : Prop where
  po : PO X o (TD X.K X.mg W (fun _ _ x y => x = y) f)
def oNone : OF := fun _ M => some (.ok none, M)
def oSome (fa : EF) : OF := fun en M => bnd (fa en M) fun x M1 => match x with | .int i => some (.ok (some i), M1) | _ => none
theorem po_imp {o : Option Expr} {t t' : TO} (h : PO X o t) (i : ∀ σ H Q, t' σ H Q → t σ H Q) : PO X o t' := ⟨fun pins s σ H Q Iv hq => h.run pins s σ H Q Iv (i σ H Q hq)⟩
theorem eo_none : EvO X W none oNone := ⟨po_imp po_none fun σ H Q ⟨I, M, en, S, r, k⟩ => k.ok S rfl⟩
theorem eo_some (h : EvE X W a fa) : EvO X W (some a) (oSome fa) := by
  refine ⟨po_imp (po_some h.pe) fun σ H Q h => ?_⟩
  obtain ⟨I, M, en, S, r, k⟩ := h
  refine ⟨I, M, en, S, r, k.bind fun x M1 I1 H1 u e1 S1 r1 k1 => ?_⟩
  split at k1
  · simp only [Rep] at r1
    exact ⟨_, r1, k1.ok S1 rfl⟩
  · exact k1.elim
def cutD (xs : List D) (lo hi : Option Int) : List D := (xs.drop (HT.sIx xs.length 0 lo)).take (HT.sIx xs.length xs.length hi - HT.sIx xs.length 0 lo)
theorem cut_reps {ds : List D} {vs : List V} (r : Reps K I H ds vs) (lo hi : Option Int) : Reps K I H (cutD ds lo hi) (cutV vs lo hi) := by
  unfold cutD cutV
  rw [r.length]
  exact (r.drop _).take _
theorem cutD_len (ds : List D) (lo hi : Option Int) : (cutD ds lo hi).length ≤ ds.length := by
  unfold cutD
  rw [List.length_take, List.length_drop]
  omega
theorem cutD_whole {ds : List D} {lo hi : Option Int} (h : HT.sIx ds.length 0 lo = 0 ∧ HT.sIx ds.length ds.length hi = ds.length) : cutD ds lo hi = ds := by
  unfold cutD
  rw [h.1, h.2]
  simp
def gSl (lo hi : Option Int) : D → Store → Res D := fun x M => match x with
  | .tup ds => some (.ok (.tup (cutD ds lo hi)), M)
  | .imm ds => some (.ok (.imm (cutD ds lo hi)), M)
  | .scr ds => some (.ok (.imm (cutD ds lo hi)), M)
  | .cel n => match M[n]? with | some ds => some (.ok (.imm (cutD ds lo hi)), M) | none => none
  | .str s => if s.length ≤ sizeLine then some (.ok (.str (cutS s lo hi)), M) else none
  | _ => none
def cSl (fa : EF) (fl fh : OF) : EF := fun en M => bnd (fa en M) fun x M1 => bnd (fl en M1) fun lo M2 => bnd (fh en M2) fun hi M3 => gSl lo hi x M3
abbrev rSlAll (K : PySem.W.Frag) : V → Option Int → Option Int → Hp → VK → Prop := fun x lo hi H Q => rSlA K x lo hi H Q ∨ (rSlL K x lo hi H Q ∨ rSlS x lo hi H Q)
theorem sl_all : SlR X (rSlAll X.K) := SlR.or sl_tupA (SlR.or sl_list sl_str)
theorem gSl_ok {x : D} {u : V} {lo hi : Option Int} {Q : VK} (S : Sto K I H M) (rx : Rep K I H x u) (k : Kp K mg W (Rep K) (gSl lo hi x M) I H σ Q) : rSlAll K u lo hi H Q := by
  unfold gSl at k
  split at k
  · rename_i ds
    simp only [Rep] at rx
    obtain ⟨p, vs, rfl, h2, h3⟩ := rx
    refine .inl ⟨p, vs, rfl, h2.sq, fun hw => ?_, fun _ p' hp => k.ok' (Ext.new hp) (S.new hp) (rep_newT S hp (cut_reps h3 lo hi))⟩
    rw [← h3.length] at hw
    refine k.ok S ?_
    rw [cutD_whole hw]
    simp only [Rep]
    exact ⟨p, vs, rfl, h2, h3⟩
  · rename_i ds
    simp only [Rep] at rx
    obtain ⟨p, vs, rfl, h2, h3⟩ := rx
    exact .inr (.inl ⟨p, vs, rfl, .inl (.inl h2.1), fun p' hp => k.ok' (Ext.new hp) (S.new hp) (rep_newL S hp (cut_reps h3 lo hi))⟩)
  · rename_i ds
    simp only [Rep] at rx
    obtain ⟨p, vs, rfl, h2, h3⟩ := rx
    exact .inr (.inl ⟨p, vs, rfl, h2.sq, fun p' hp => k.ok' (Ext.new hp) (S.new hp) (rep_newL S hp (cut_reps h3 lo hi))⟩)
  · rename_i n
    simp only [Rep] at rx
    obtain ⟨p, rfl, h2⟩ := rx
    split at k
    · rename_i ds q
      obtain ⟨vs, h3, h4⟩ := S.at_ _ p ds h2 q
      exact .inr (.inl ⟨p, vs, rfl, .inl (.inl h3), fun p' hp => k.ok' (Ext.new hp) (S.new hp) (rep_newL S hp (cut_reps h4 lo hi))⟩)
    · exact k.elim
  · simp only [Rep] at rx
    split at k
    · rename_i q
      exact .inr (.inr ⟨_, rx, q, k.ok S rep_str⟩)
    · exact k.elim
  · exact k.elim
theorem ev_slice {lo hi : Option Expr} {p2 : Pos} {fl fh : OF} (ha : EvE X W a fa) (hl : EvO X W lo fl) (hh : EvO X W hi fh) : EvE X W (.Subscript a (.Slice lo hi none p2) pos) (cSl fa fl fh) := by
  refine ⟨pe_imp (pe_slice sl_all ha.pe hl.po hh.po) fun σ H Q h => ?_⟩
  obtain ⟨I, M, en, S, r, k⟩ := h
  refine ⟨I, M, en, S, r, k.bind fun x M1 I1 H1 u e1 S1 r1 k1 => ?_⟩
  refine ⟨I1, M1, en, S1, r.mono e1, k1.bind fun lo M2 I2 H2 lo' e2 S2 r2 k2 => ?_⟩
  refine ⟨I2, M2, en, S2, (r.mono e1).mono e2, k2.bind fun hi M3 I3 H3 hi' e3 S3 r3 k3 => ?_⟩
  subst r2
  subst r3
  exact gSl_ok S3 (e3.rep (e2.rep r1)) k3

/-! ### + and * of ints, of sequences -/
def gAddA : D → D → Store → Res D := fun x y M => match x, y with
  | .int i, .int j => some (.ok (.int (i + j)), M)
  | .tup xs, .tup ys => if szOk (xs.length + ys.length) = true then some (.ok (.tup (xs ++ ys)), M) else none
  | .str s, .str t => if s.length + t.length ≤ sizeLine then some (.ok (.str (s ++ t)), M) else none
  | .imm xs, .imm ys => if szOk (xs.length + ys.length) = true then some (.ok (.imm (xs ++ ys)), M) else none
  | .cel n, .imm ys => match M[n]? with | some xs => if szOk (xs.length + ys.length) = true then some (.ok (.imm (xs ++ ys)), M) else none | none => none
  | .imm xs, .cel n => match M[n]? with | some ys => if szOk (xs.length + ys.length) = true then some (.ok (.imm (xs ++ ys)), M) else none | none => none
  | _, _ => none
abbrev rAddA (K : PySem.W.Frag) : R2 := fun x y H Q => rI0 (fun i j => .int (i + j)) x y H Q ∨ (rCatA K x y H Q ∨ (rCat x y H Q ∨ (∃ i j, x = .str i ∧ y = .str j ∧ i.length + j.length ≤ sizeLine ∧ Q (.str (i ++ j)) H)))
theorem op_addA : OpR X (binaryOp .Add) (rAddA X.K) := OpR.or op_add (OpR.or op_catA (OpR.or op_cat op_add_str))
theorem nil_reps {ds : List D} {vs : List V} (r : Reps K I H ds vs) : vs = [] ↔ ds = [] := by
  have := r.length
  constructor
  · intro h; subst h; exact List.eq_nil_of_length_eq_zero (by simpa using this)
  · intro h; subst h; simpa only [Reps] using r
theorem opd_addA : OpD K mg W gAddA (rAddA K) := by
  intro x y M I H u v σ Q S rx ry k
  unfold gAddA at k
  split at k
  · simp only [Rep] at rx ry
    exact .inl ⟨_, _, rx, ry, k.ok S rep_int⟩
  · rename_i xs ys
    split at k
    · rename_i q
      have rx0 := rx
      have ry0 := ry
      simp only [Rep] at rx ry
      obtain ⟨p, vs, rfl, h2, h3⟩ := rx
      obtain ⟨p', us, rfl, g2, g3⟩ := ry
      refine .inr (.inl ⟨p, p', vs, us, rfl, rfl, h2.sq, g2.sq, by rw [← h3.length, ← g3.length]; exact szOk_ok q, fun h => ?_, fun _ h => ?_, fun _ _ l hl => k.ok' (Ext.new hl) (S.new hl) (rep_newT S hl (h3.append g3))⟩)
      · have hx := (nil_reps h3).mp h
        subst hx
        exact k.ok S (by simpa using ry0)
      · have hy := (nil_reps g3).mp h
        subst hy
        exact k.ok S (by simpa using rx0)
    · exact k.elim
  · simp only [Rep] at rx ry
    split at k
    · rename_i q
      exact .inr (.inr (.inr ⟨_, _, rx, ry, q, k.ok S rep_str⟩))
    · exact k.elim
  · rename_i xs ys
    split at k
    · rename_i q
      simp only [Rep] at rx ry
      obtain ⟨p, vs, rfl, h2, h3⟩ := rx
      obtain ⟨p', us, rfl, g2, g3⟩ := ry
      exact .inr (.inr (.inl ⟨p, p', vs, us, rfl, rfl, h2.1, g2.1, by rw [← h3.length, ← g3.length]; exact szOk_ok q, fun l hl => k.ok' (Ext.new hl) (S.new hl) (rep_newL S hl (h3.append g3))⟩))
    · exact k.elim
  · split at k
    · rename_i xs q0
      split at k
      · rename_i q
        simp only [Rep] at rx ry
        obtain ⟨p, rfl, h2⟩ := rx
        obtain ⟨p', us, rfl, g2, g3⟩ := ry
        obtain ⟨vs, h4, h3⟩ := S.at_ _ p xs h2 q0
        exact .inr (.inr (.inl ⟨p, p', vs, us, rfl, rfl, h4, g2.1, by rw [← h3.length, ← g3.length]; exact szOk_ok q, fun l hl => k.ok' (Ext.new hl) (S.new hl) (rep_newL S hl (h3.append g3))⟩))
      · exact k.elim
    · exact k.elim
  · split at k
    · rename_i ys q0
      split at k
      · rename_i q
        simp only [Rep] at rx ry
        obtain ⟨p', rfl, h2⟩ := ry
        obtain ⟨p, us, rfl, g2, g3⟩ := rx
        obtain ⟨vs, h4, h3⟩ := S.at_ _ p' ys h2 q0
        exact .inr (.inr (.inl ⟨p, p', us, vs, rfl, rfl, g2.1, h4, by rw [← h3.length, ← g3.length]; exact szOk_ok q, fun l hl => k.ok' (Ext.new hl) (S.new hl) (rep_newL S hl (g3.append h3))⟩))
      · exact k.elim
    · exact k.elim
  · exact k.elim
end
end DL
/-! The data layer, part 4: calls of built-ins. -/
namespace DL
open PySem PySem.Spec PyProof.Rows L2
section
variable {X : Cx} {W : WX} {K : PySem.W.Frag} {mg : Str → Option Value} {I I' : Ow} {H H' : Hp} {M M' : Store} {σ : L2.St} {en : Env}
variable {a b c e : Expr} {es rest : List Expr} {pos : Pos} {fa fb fc : EF} {fr : AF}
def cCall (g : List D → Store → Res D) (fr : AF) : EF := fun en M => bnd (fr en M) fun xs M1 => g xs M1
def CallD (K : PySem.W.Frag) (mg : Str → Option Value) (W : WX) (g : List D → Store → Res D) (r : List V → Hp → VK → Prop) : Prop :=
  ∀ xs M I H us σ Q, Sto K I H M → Reps K I H xs us → Kp K mg W (Rep K) (g xs M) I H σ Q → r us H Q
theorem tcb_of {g : List D → Store → Res D} {r : List V → Hp → VK → Prop} (hg : CallD K mg W g r) {Q : VK} (h : TD K mg W (Rep K) (cCall g fr) σ H Q) : tCB r (TD K mg W (Reps K) fr) σ H Q := by
  obtain ⟨I, M, en, S, re, k⟩ := h
  exact ⟨I, M, en, S, re, k.bind fun xs M1 I1 H1 us e1 S1 r1 k1 => hg xs M1 I1 H1 us σ Q S1 r1 k1⟩
theorem ev_callB {x : Str} {p : Pos} {id : String} {g : List D → Store → Res D} {r : List V → Hp → VK → Prop} (hc : CallR X (.builtin id) r) (hd : CallD X.K X.mg W g r) (hg : Gl X x) (hm : X.mg x = none) (hv : bootBuiltins x = some (.builtin id)) (ha : EvA X W (e :: es) fr)
    (hn : x ≠ "__name__" := by decide) (hdb : (x == ("__debug__" : Str)) = false := by decide)
    (he : starEach (e :: es) X.env = (false, eval e X.env) :: starEach es X.env := by rfl) (hpl : (backTo pos (starEach es X.env)).any (·.1) = false := by rfl) : EvE X W (.Call (.Name x p) (e :: es) [] pos) (cCall g fr) :=
  ⟨pe_imp (pe_callB hc hg hm hv ha.pa hn hdb he hpl) fun _ _ _ h => tcb_of hd h⟩
theorem ev_callTy {x : Str} {p : Pos} {T : String} {g : List D → Store → Res D} {r : List V → Hp → VK → Prop} (hc : CallR X (.type T) r) (hd : CallD X.K X.mg W g r) (hg : Gl X x) (hm : X.mg x = none) (hv : bootBuiltins x = some (.type T)) (ha : EvA X W (e :: es) fr)
    (hn : x ≠ "__name__" := by decide) (hdb : (x == ("__debug__" : Str)) = false := by decide)
    (he : starEach (e :: es) X.env = (false, eval e X.env) :: starEach es X.env := by rfl) (hpl : (backTo pos (starEach es X.env)).any (·.1) = false := by rfl) : EvE X W (.Call (.Name x p) (e :: es) [] pos) (cCall g fr) :=
  ⟨pe_imp (pe_callTy hc hg hm hv ha.pa hn hdb he hpl) fun _ _ _ h => tcb_of hd h⟩
theorem CallR.or {f : Value} {r r' : List V → Hp → VK → Prop} (h : CallR X f r) (h' : CallR X f r') : CallR X f (fun xs H Q => r xs H Q ∨ r' xs H Q) := by
  intro pins s σ H xs us Q I rx q
  rcases q with q | q
  · exact h pins s σ H xs us Q I rx q
  · exact h' pins s σ H xs us Q I rx q

/-! ### lists of ints, of bools -/
def intsOf : List D → Option (List Int)
  | [] => some []
  | .int i :: r => match intsOf r with | some l => some (i :: l) | none => none
  | _ => none
def blsOf : List D → Option (List Bool)
  | [] => some []
  | .bl i :: r => match blsOf r with | some l => some (i :: l) | none => none
  | _ => none
theorem ints_of : ∀ {ds : List D} {vs : List V} {ns : List Int}, Reps K I H ds vs → intsOf ds = some ns → vs = ns.map V.int
  | [], vs, ns, r, h => by simp only [Reps] at r; subst r; simp only [intsOf, Option.some.injEq] at h; subst h; rfl
  | d :: ds, vs, ns, r, h => by
    simp only [Reps] at r
    obtain ⟨v, us, rfl, h2, h3⟩ := r
    cases d <;> simp only [intsOf] at h
    all_goals first | (cases h; done) | skip
    split at h
    · rename_i l q
      cases h
      simp only [Rep] at h2
      rw [h2, ints_of h3 q]
      rfl
    · cases h
theorem bls_of : ∀ {ds : List D} {vs : List V} {ns : List Bool}, Reps K I H ds vs → blsOf ds = some ns → vs = ns.map V.bl
  | [], vs, ns, r, h => by simp only [Reps] at r; subst r; simp only [blsOf, Option.some.injEq] at h; subst h; rfl
  | d :: ds, vs, ns, r, h => by
    simp only [Reps] at r
    obtain ⟨v, us, rfl, h2, h3⟩ := r
    cases d <;> simp only [blsOf] at h
    all_goals first | (cases h; done) | skip
    split at h
    · rename_i l q
      cases h
      simp only [Rep] at h2
      rw [h2, bls_of h3 q]
      rfl
    · cases h
theorem reps1 {d : D} {us : List V} (r : Reps K I H [d] us) : ∃ u, us = [u] ∧ Rep K I H d u := by
  simp only [Reps] at r
  obtain ⟨v, _, rfl, h2, rfl⟩ := r
  exact ⟨v, rfl, h2⟩
theorem reps2 {d d' : D} {us : List V} (r : Reps K I H [d, d'] us) : ∃ u u', us = [u, u'] ∧ Rep K I H d u ∧ Rep K I H d' u' := by
  simp only [Reps] at r
  obtain ⟨v, _, rfl, h2, v', _, rfl, h3, rfl⟩ := r
  exact ⟨v, v', rfl, h2, h3⟩

/-! ### len, tuple, list -/
def gLen : List D → Store → Res D := fun xs M => match xs with
  | [.str s] => if s.length ≤ sizeLine then some (.ok (.int s.length), M) else none
  | [d] => match itemsOf M d with | some ds => some (.ok (.int ds.length), M) | none => none
  | _ => none
theorem cd_len : CallD K mg W gLen (fun xs H Q => ∃ x n, xs = [x] ∧ LenV K x H n ∧ Q (.int n) H) := by
  intro xs M I H us σ Q S r k
  unfold gLen at k
  split at k
  · obtain ⟨u, rfl, h⟩ := reps1 r
    simp only [Rep] at h
    subst h
    split at k
    · rename_i q
      exact ⟨_, _, rfl, ⟨q, rfl⟩, k.ok S rep_int⟩
    · exact k.elim
  · obtain ⟨u, rfl, h⟩ := reps1 r
    split at k
    · rename_i ds q
      obtain ⟨p, vs, rfl, hs, g⟩ := items_of S h q
      refine ⟨_, vs.length, rfl, ?_, by rw [← g.length]; exact k.ok S rep_int⟩
      rcases hs with ⟨_, hs⟩ | hs
      · exact .inr ⟨vs, hs, rfl⟩
      · exact .inl ⟨vs, hs, rfl⟩
    · exact k.elim
  · exact k.elim
def gTuple : List D → Store → Res D := fun xs M => match xs with
  | [.tup ds] => some (.ok (.tup ds), M)
  | [d] => match itemsOf M d with | some ds => some (.ok (.tup ds), M) | none => none
  | _ => none
theorem cd_tuple : CallD K mg W gTuple (fun xs H Q => ∃ p ys, xs = [.ref p] ∧ ((SqL K H p ys ∧ ∀ l, H l = none → Q (.ref l) (upd H l (.tup ys))) ∨ (SqT K H p ys ∧ Q (.ref p) H))) := by
  intro xs M I H us σ Q S r k
  unfold gTuple at k
  split at k
  · rename_i ds
    obtain ⟨u, rfl, h⟩ := reps1 r
    have h0 := h
    simp only [Rep] at h
    obtain ⟨p, vs, rfl, h2, h3⟩ := h
    exact ⟨p, vs, rfl, .inr ⟨h2.sq, k.ok S h0⟩⟩
  · rename_i d hd
    obtain ⟨u, rfl, h⟩ := reps1 r
    split at k
    · rename_i ds q
      obtain ⟨p, vs, rfl, hs, g⟩ := items_of S h q
      rcases hs with ⟨⟨es, he⟩, hs⟩ | hs
      · exact (hd es he).elim
      · exact ⟨p, vs, rfl, .inl ⟨hs, fun l hl => k.ok' (Ext.new hl) (S.new hl) (rep_newT S hl g)⟩⟩
    · exact k.elim
  · exact k.elim
abbrev rListOf (K : PySem.W.Frag) : List V → Hp → VK → Prop := fun xs H Q => ∃ p ys, xs = [.ref p] ∧ (SqL K H p ys ∨ SqT K H p ys) ∧ ∀ l, H l = none → Q (.ref l) (upd H l (.lst ys))
def gList : List D → Store → Res D := fun xs M => match xs with
  | [d] => match itemsOf M d with | some ds => some (.ok (.imm ds), M) | none => none
  | _ => none
theorem cd_list : CallD K mg W gList (rListOf K) := by
  intro xs M I H us σ Q S r k
  unfold gList at k
  split at k
  · obtain ⟨u, rfl, h⟩ := reps1 r
    split at k
    · rename_i ds q
      obtain ⟨p, vs, rfl, hs, g⟩ := items_of S h q
      exact ⟨p, vs, rfl, hs.elim (fun h => .inr h.2) .inl, fun l hl => k.ok' (Ext.new hl) (S.new hl) (rep_newL S hl g)⟩
    · exact k.elim
  · exact k.elim
def gListC : List D → Store → Res D := fun xs M => match xs with
  | [d] => match itemsOf M d with | some ds => some (.ok (.cel M.length), M ++ [ds]) | none => none
  | _ => none
theorem cd_listC : CallD K mg W gListC (rListOf K) := by
  intro xs M I H us σ Q S r k
  unfold gListC at k
  split at k
  · obtain ⟨u, rfl, h⟩ := reps1 r
    split at k
    · rename_i ds q
      obtain ⟨p, vs, rfl, hs, g⟩ := items_of S h q
      exact ⟨p, vs, rfl, hs.elim (fun h => .inr h.2) .inl, fun l hl => k.ok' (Ext.newC hl) (S.newC hl g) (rep_newC S hl)⟩
    · exact k.elim
  · exact k.elim

/-! ### sum, any, all, abs, int, max, min -/
def gSum : List D → Store → Res D := fun xs M => match xs with
  | [.imm ds] => match intsOf ds with | some ns => some (.ok (.int ns.sum), M) | none => none
  | _ => none
theorem cd_sum : CallD K mg W gSum (rSum K) := by
  intro xs M I H us σ Q S r k
  unfold gSum at k
  split at k
  · obtain ⟨u, rfl, h⟩ := reps1 r
    split at k
    · rename_i ns q
      simp only [Rep] at h
      obtain ⟨p, vs, rfl, h2, h3⟩ := h
      exact ⟨p, ns, rfl, .inl (.inl (by rw [← ints_of h3 q]; exact h2.1)), k.ok S rep_int⟩
    · exact k.elim
  · exact k.elim
def gAny : List D → Store → Res D := fun xs M => match xs with
  | [.imm ds] => match blsOf ds with | some ns => some (.ok (.bl (ns.any id)), M) | none => none
  | _ => none
def gAll : List D → Store → Res D := fun xs M => match xs with
  | [.imm ds] => match blsOf ds with | some ns => some (.ok (.bl (ns.all id)), M) | none => none
  | _ => none
theorem cd_any : CallD K mg W gAny (rAny K) := by
  intro xs M I H us σ Q S r k
  unfold gAny at k
  split at k
  · obtain ⟨u, rfl, h⟩ := reps1 r
    split at k
    · rename_i ns q
      simp only [Rep] at h
      obtain ⟨p, vs, rfl, h2, h3⟩ := h
      exact ⟨p, ns, rfl, .inl (.inl (by rw [← bls_of h3 q]; exact h2.1)), k.ok S rep_bl⟩
    · exact k.elim
  · exact k.elim
theorem cd_all : CallD K mg W gAll (rAll K) := by
  intro xs M I H us σ Q S r k
  unfold gAll at k
  split at k
  · obtain ⟨u, rfl, h⟩ := reps1 r
    split at k
    · rename_i ns q
      simp only [Rep] at h
      obtain ⟨p, vs, rfl, h2, h3⟩ := h
      exact ⟨p, ns, rfl, .inl (.inl (by rw [← bls_of h3 q]; exact h2.1)), k.ok S rep_bl⟩
    · exact k.elim
  · exact k.elim
def gAbs : List D → Store → Res D := fun xs M => match xs with | [.int i] => some (.ok (.int (if i < 0 then -i else i)), M) | _ => none
theorem cd_abs : CallD K mg W gAbs (fun xs H Q => ∃ i, xs = [.int i] ∧ Q (.int (if i < 0 then -i else i)) H) := by
  intro xs M I H us σ Q S r k
  unfold gAbs at k
  split at k
  · obtain ⟨u, rfl, h⟩ := reps1 r
    simp only [Rep] at h
    subst h
    exact ⟨_, rfl, k.ok S rep_int⟩
  · exact k.elim
def gInt : List D → Store → Res D := fun xs M => match xs with
  | [.int i] => some (.ok (.int i), M)
  | [.bl k] => some (.ok (.int (if k = true then 1 else 0)), M)
  | _ => none
theorem cd_int : CallD K mg W gInt (fun xs H Q => (∃ i, xs = [.int i] ∧ Q (.int i) H) ∨ ∃ k, xs = [.bl k] ∧ Q (.int (if k then 1 else 0)) H) := by
  intro xs M I H us σ Q S r k
  unfold gInt at k
  split at k
  · obtain ⟨u, rfl, h⟩ := reps1 r
    simp only [Rep] at h
    subst h
    exact .inl ⟨_, rfl, k.ok S rep_int⟩
  · obtain ⟨u, rfl, h⟩ := reps1 r
    simp only [Rep] at h
    subst h
    exact .inr ⟨_, rfl, k.ok S rep_int⟩
  · exact k.elim
/-- the greatest, the least -/
def topI (f : Int → Int → Int) : List Int → Option Int
  | [] => none
  | [x] => some x
  | x :: r => (topI f r).map (f x)
def gMax : List D → Store → Res D := fun xs M => match xs with
  | [.int i, .int j] => some (.ok (.int (if j > i then j else i)), M)
  | [.imm ds] => match intsOf ds with | some ns => (match topI max ns with | some m => some (.ok (.int m), M) | none => none) | none => none
  | _ => none
def gMin : List D → Store → Res D := fun xs M => match xs with
  | [.int i, .int j] => some (.ok (.int (if j < i then j else i)), M)
  | [.imm ds] => match intsOf ds with | some ns => (match topI min ns with | some m => some (.ok (.int m), M) | none => none) | none => none
  | _ => none
theorem topI_max : ∀ {l : List Int} {m : Int}, topI max l = some m → m ∈ l ∧ ∀ y ∈ l, y ≤ m
  | [], m, h => by simp [topI] at h
  | [x], m, h => by simp [topI] at h; subst h; simp
  | x :: y :: r, m, h => by
    simp only [topI, Option.map_eq_some_iff] at h
    obtain ⟨z, h1, h2⟩ := h
    have h1' : topI max (y :: r) = some z := by simpa [topI] using h1
    obtain ⟨a, b⟩ := topI_max h1'
    subst h2
    refine ⟨?_, fun w hw => ?_⟩
    · rcases Int.le_total x z with q | q
      · rw [Int.max_eq_right q]; exact List.mem_cons_of_mem _ a
      · rw [Int.max_eq_left q]; exact List.mem_cons_self
    · rcases List.mem_cons.mp hw with e | e
      · subst e; exact Int.le_max_left _ _
      · exact Int.le_trans (b w e) (Int.le_max_right _ _)
theorem topI_min : ∀ {l : List Int} {m : Int}, topI min l = some m → m ∈ l ∧ ∀ y ∈ l, m ≤ y
  | [], m, h => by simp [topI] at h
  | [x], m, h => by simp [topI] at h; subst h; simp
  | x :: y :: r, m, h => by
    simp only [topI, Option.map_eq_some_iff] at h
    obtain ⟨z, h1, h2⟩ := h
    have h1' : topI min (y :: r) = some z := by simpa [topI] using h1
    obtain ⟨a, b⟩ := topI_min h1'
    subst h2
    refine ⟨?_, fun w hw => ?_⟩
    · rcases Int.le_total x z with q | q
      · rw [Int.min_eq_left q]; exact List.mem_cons_self
      · rw [Int.min_eq_right q]; exact List.mem_cons_of_mem _ a
    · rcases List.mem_cons.mp hw with e | e
      · subst e; exact Int.min_le_left _ _
      · exact Int.le_trans (Int.min_le_right _ _) (b w e)
abbrev rMaxA (K : PySem.W.Frag) : List V → Hp → VK → Prop := fun xs H Q => (∃ i j, xs = [.int i, .int j] ∧ Q (.int (if j > i then j else i)) H) ∨ rMax K xs H Q
abbrev rMinA (K : PySem.W.Frag) : List V → Hp → VK → Prop := fun xs H Q => (∃ i j, xs = [.int i, .int j] ∧ Q (.int (if j < i then j else i)) H) ∨ rMin K xs H Q
theorem cr_maxA (hc : X.calm = true) : CallR X (.builtin "max") (rMaxA X.K) := CallR.or (call_max2 hc) (cr_max hc)
theorem cr_minA (hc : X.calm = true) : CallR X (.builtin "min") (rMinA X.K) := CallR.or (call_min2 hc) (cr_min hc)
theorem cd_max : CallD K mg W gMax (rMaxA K) := by
  intro xs M I H us σ Q S r k
  unfold gMax at k
  split at k
  · obtain ⟨u, u', rfl, h, h'⟩ := reps2 r
    simp only [Rep] at h h'
    subst h; subst h'
    exact .inl ⟨_, _, rfl, k.ok S rep_int⟩
  · obtain ⟨u, rfl, h⟩ := reps1 r
    split at k
    · rename_i ns q
      split at k
      · rename_i m q2
        simp only [Rep] at h
        obtain ⟨p, vs, rfl, h2, h3⟩ := h
        obtain ⟨m1, m2⟩ := topI_max q2
        refine .inr ⟨p, ns, rfl, .inl (.inl (by rw [← ints_of h3 q]; exact h2.1)), List.length_pos_of_mem m1, fun m' h1 h2' => ?_⟩
        have e : m' = m := Int.le_antisymm (m2 m' h1) (h2' m m1)
        subst e
        exact k.ok S rep_int
      · exact k.elim
    · exact k.elim
  · exact k.elim
theorem cd_min : CallD K mg W gMin (rMinA K) := by
  intro xs M I H us σ Q S r k
  unfold gMin at k
  split at k
  · obtain ⟨u, u', rfl, h, h'⟩ := reps2 r
    simp only [Rep] at h h'
    subst h; subst h'
    exact .inl ⟨_, _, rfl, k.ok S rep_int⟩
  · obtain ⟨u, rfl, h⟩ := reps1 r
    split at k
    · rename_i ns q
      split at k
      · rename_i m q2
        simp only [Rep] at h
        obtain ⟨p, vs, rfl, h2, h3⟩ := h
        obtain ⟨m1, m2⟩ := topI_min q2
        refine .inr ⟨p, ns, rfl, .inl (.inl (by rw [← ints_of h3 q]; exact h2.1)), List.length_pos_of_mem m1, fun m' h1 h2' => ?_⟩
        have e : m' = m := Int.le_antisymm (h2' m m1) (m2 m' h1)
        subst e
        exact k.ok S rep_int
      · exact k.elim
    · exact k.elim
  · exact k.elim

/-! ### isinstance of a built-in class -/
def tyOf : D → Option String
  | .non => some "NoneType"
  | .bl _ => some "bool"
  | .int _ => some "int"
  | .str _ => some "str"
  | .tup _ => some "tuple"
  | .imm _ => some "list"
  | .cel _ => some "list"
  | .scr _ => none
  | .ty _ => none
  | .dic _ => none
theorem ty_of {d : D} {v : V} {n : String} (S : Sto K I H M) (hM : ∀ m, d = .cel m → m < M.length) (r : Rep K I H d v) (h : tyOf d = some n) : TyX K H v (.type n) := by
  cases d <;> simp only [tyOf] at h
  all_goals first | (cases h; done) | skip
  · cases h; simp only [Rep] at r; subst r; exact .base .non
  · cases h; simp only [Rep] at r; subst r; exact .base (.bl _)
  · cases h; simp only [Rep] at r; subst r; exact .base (.int _)
  · cases h; simp only [Rep] at r; subst r; exact .base (.str _)
  · cases h
    simp only [Rep] at r
    obtain ⟨a, vs, rfl, h2, h3⟩ := r
    rcases h2 with ⟨h2 | ⟨o, h2⟩, _⟩ | ⟨o, its, m, h4, h5, _⟩
    · exact .base (.tup h2)
    · exact .fTuple h2
    · exact .kTuple h4 h5
  · cases h
    simp only [Rep] at r
    obtain ⟨a, vs, rfl, h2, h3⟩ := r
    exact .base (.lst h2.1)
  · cases h
    rename_i m
    have hm := hM m rfl
    simp only [Rep] at r
    obtain ⟨a, rfl, h2⟩ := r
    obtain ⟨vs, h3, _⟩ := S.at_ m a M[m] h2 (List.getElem?_eq_getElem hm)
    exact .base (.lst h3)
def isiB (a b : String) : Option Bool := if a = b then some true else
  match a, b with
  | "bool", "int" => some true
  | "NoneType", "int" => some false | "NoneType", "bool" => some false | "NoneType", "str" => some false | "NoneType", "tuple" => some false | "NoneType", "list" => some false
  | "bool", "str" => some false | "bool", "tuple" => some false | "bool", "list" => some false
  | "int", "bool" => some false | "int", "str" => some false | "int", "tuple" => some false | "int", "list" => some false
  | "str", "int" => some false | "str", "bool" => some false | "str", "tuple" => some false | "str", "list" => some false
  | "tuple", "int" => some false | "tuple", "bool" => some false | "tuple", "str" => some false | "tuple", "list" => some false
  | "list", "int" => some false | "list", "bool" => some false | "list", "str" => some false | "list", "tuple" => some false
  | _, _ => none
end
end DL
/-! The data layer, part 5: isinstance, targets, what is walked, comprehensions. -/
namespace DL
open PySem PySem.Spec PyProof.Rows L2
theorem isiB_ok {K : PySem.W.Frag} {a b : String} {r : Bool} (h : isiB a b = some r) (hb : b = "int" ∨ b = "bool" ∨ b = "str" ∨ b = "tuple" ∨ b = "list")
    (ha : a = "NoneType" ∨ a = "bool" ∨ a = "int" ∨ a = "str" ∨ a = "tuple" ∨ a = "list") : PySem.W.kitOne K (.type a) (.type b) = some r := by
  refine kit_ty ?_
  rcases ha with rfl | rfl | rfl | rfl | rfl | rfl <;> rcases hb with rfl | rfl | rfl | rfl | rfl <;> (rw [← h]; decide +kernel)
section
variable {X : Cx} {W : WX} {K : PySem.W.Frag} {mg : Str → Option Value} {I I' : Ow} {H H' : Hp} {M M' : Store} {σ : L2.St} {en : Env}
variable {a b c e tg : Expr} {es rest : List Expr} {pos : Pos} {fa fb fc : EF} {fr : AF}
def celOk (M : Store) : D → Bool
  | .cel m => decide (m < M.length)
  | _ => true
def tyKnown (n : String) : Bool := n == "int" || n == "bool" || n == "str" || n == "tuple" || n == "list"
def gIsi : List D → Store → Res D := fun xs M => match xs with
  | [d, .ty n] => match tyOf d with
    | some t => if (celOk M d && tyKnown n) = true then (match isiB t n with | some b => some (.ok (.bl b), M) | none => none) else none
    | none => none
  | _ => none
theorem tyOf_known {d : D} {t : String} (h : tyOf d = some t) : t = "NoneType" ∨ t = "bool" ∨ t = "int" ∨ t = "str" ∨ t = "tuple" ∨ t = "list" := by
  cases d <;> simp only [tyOf] at h <;> first | (cases h; simp; done) | cases h
theorem cd_isi : CallD K mg W gIsi (rIsi K) := by
  intro xs M I H us σ Q S r k
  unfold gIsi at k
  split at k
  · obtain ⟨u, u', rfl, h, h'⟩ := reps2 r
    split at k
    · rename_i d n _ t q
      split at k
      · rename_i q2
        rw [Bool.and_eq_true] at q2
        split at k
        · rename_i b q3
          simp only [Rep] at h'
          subst h'
          have hb : n = "int" ∨ n = "bool" ∨ n = "str" ∨ n = "tuple" ∨ n = "list" := by
            have := q2.2
            unfold tyKnown at this
            simpa [or_assoc] using this
          refine ⟨u, _, _, _, b, rfl, .ty _, ty_of S (fun m hm => ?_) h q, isiB_ok q3 hb (tyOf_known q), k.ok S rep_bl⟩
          have := q2.1
          subst hm
          exact of_decide_eq_true this
        · exact k.elim
      · exact k.elim
    · exact k.elim
  · exact k.elim

/-! ### targets -/
abbrev GF := D → Env → Store → Option (Env × Store)
def TG_ (K : PySem.W.Frag) (Sl : List Nat) (g : GF) : TG := fun v σ H Q => ∃ I M en d, Sto K I H M ∧ RepE K I H en σ ∧ Rep K I H d v ∧
  match g d en M with
  | none => False
  | some (en', M') => ∀ I' H' σ', Ext I H I' H' → Sto K I' H' M' → RepE K I' H' en' σ' → σ'.length = σ.length → (∀ k, k ∉ Sl → σ'[k]? = σ[k]?) → Q σ' H'
structure EvG (X : Cx) (tg : Expr) (Sl : List Nat) (g : GF) : Prop where
  pg : PG X tg (TG_ X.K Sl g)
theorem pg_imp {t t' : TG} (h : PG X tg t) (i : ∀ v σ H Q, t' v σ H Q → t v σ H Q) : PG X tg t' := ⟨fun pins s σ H v u Q Iv r hq => h.run pins s σ H v u Q Iv r (i v σ H Q hq)⟩
def gN (i : Nat) : GF := fun d en M => some (en.set i (some d), M)
theorem eg_name {i : Nat} {x : Str} (hN : X.N.Nodup) (hi : X.N[i]? = some x) (hx : Loc X.env.scope x) (hf : X.fn x = true ∨ X.env.scope.names.lookup x = some .local := by first | exact .inl rfl | exact .inr rfl | assumption) : EvG X (.Name x pos) [i] (gN i) := by
  refine ⟨pg_imp (pg_name hN hi hx hf) fun v σ H Q h => ?_⟩
  obtain ⟨I, M, en, d, S, r, rd, k⟩ := h
  refine k I H _ Ext.refl S (r.set i rd) (by simp) fun j hj => ?_
  rw [List.getElem?_set_ne (fun z => hj (by simp [z]))]
/-- several targets -/
abbrev GsF := List D → Env → Store → Option (Env × Store)
def TGs_ (K : PySem.W.Frag) (Sl : List Nat) (g : GsF) : TGs := fun vs σ H Q => ∃ I M en ds, Sto K I H M ∧ RepE K I H en σ ∧ Reps K I H ds vs ∧
  match g ds en M with
  | none => False
  | some (en', M') => ∀ I' H' σ', Ext I H I' H' → Sto K I' H' M' → RepE K I' H' en' σ' → σ'.length = σ.length → (∀ k, k ∉ Sl → σ'[k]? = σ[k]?) → Q σ' H'
structure EvGs (X : Cx) (ts : List Expr) (Sl : List Nat) (g : GsF) : Prop where
  pgs : PGs X ts (TGs_ X.K Sl g)
theorem pgs_imp {ts : List Expr} {t t' : TGs} (h : PGs X ts t) (i : ∀ v σ H Q, t' v σ H Q → t v σ H Q) : PGs X ts t' := ⟨fun pins s σ H v u Q Iv r hq => h.run pins s σ H v u Q Iv r (i v σ H Q hq)⟩
def gNilC : GsF := fun ds en M => match ds with | [] => some (en, M) | _ => none
def gConsC (g : GF) (gs : GsF) : GsF := fun ds en M => match ds with
  | d :: r => match g d en M with | some (en1, M1) => gs r en1 M1 | none => none
  | [] => none
theorem egs_nil : EvGs X [] [] gNilC := by
  refine ⟨pgs_imp pgs_nil fun vs σ H Q h => ?_⟩
  obtain ⟨I, M, en, ds, S, r, rd, k⟩ := h
  cases ds with
  | nil =>
    simp only [Reps] at rd
    exact ⟨rd, k I H σ Ext.refl S r rfl fun _ _ => rfl⟩
  | cons d ds => exact k.elim
theorem egs_cons {S1 S2 : List Nat} {g : GF} {gs : GsF} (h1 : EvG X e S1 g) (h2 : EvGs X es S2 gs)
    (hs : (assignEach (e :: es) X.env).map (·.2) = assign e X.env :: (assignEach es X.env).map (·.2) := by rfl) : EvGs X (e :: es) (S1 ++ S2) (gConsC g gs) := by
  refine ⟨pgs_imp (pgs_cons h1.pg h2.pgs hs) fun vs σ H Q h => ?_⟩
  obtain ⟨I, M, en, ds, S, r, rd, k⟩ := h
  cases ds with
  | nil => exact k.elim
  | cons d ds =>
    simp only [Reps] at rd
    obtain ⟨v, us, rfl, rd1, rd2⟩ := rd
    refine ⟨v, us, rfl, I, M, en, d, S, r, rd1, ?_⟩
    unfold gConsC at k
    dsimp only at k
    revert k
    cases q : g d en M with
    | none => exact id
    | some z =>
      obtain ⟨en1, M1⟩ := z
      intro k I1 H1 σ1 e1 S1' r1 l1 o1
      refine ⟨I1, M1, en1, ds, S1', r1, e1.reps rd2, ?_⟩
      revert k
      dsimp only
      cases q2 : gs ds en1 M1 with
      | none => exact id
      | some z2 =>
        intro k I2 H2 σ2 e2 S2' r2 l2 o2
        refine k I2 H2 σ2 (e1.trans e2) S2' r2 (l2.trans l1) fun j hj => ?_
        rw [o2 j fun z => hj (List.mem_append_right _ z), o1 j fun z => hj (List.mem_append_left _ z)]
/-- (a, b, ..) = a tuple or a list of that length -/
def gTupC (n : Nat) (gs : GsF) : GF := fun d en M => match itemsOf M d with
  | some ds => if ds.length = n then gs ds en M else none
  | none => none
theorem PG.or {t t' : TG} (h : PG X tg t) (h' : PG X tg t') : PG X tg (fun v σ H Q => t v σ H Q ∨ t' v σ H Q) := ⟨fun pins s σ H v u Q Iv r hq => hq.elim (h.run pins s σ H v u Q Iv r) (h'.run pins s σ H v u Q Iv r)⟩
theorem eg_tup {k n : Nat} {Sl : List Nat} {gs : GsF} (hc : X.calm = true) (h : EvGs X es Sl gs) (hn : (assignEach es X.env).length = n := by rfl) (hst : (assignEach es X.env).findIdx? (·.1) = none := by rfl) : EvG X (.Tuple es k pos) Sl (gTupC n gs) := by
  refine ⟨pg_imp (PG.or (pg_tup hc h.pgs hn hst) (pg_lst hc h.pgs hn hst)) fun v σ H Q hh => ?_⟩
  obtain ⟨I, M, en, d, S, r, rd, k⟩ := hh
  unfold gTupC at k
  revert k
  cases q : itemsOf M d with
  | none => exact False.elim
  | some ds =>
    dsimp only
    by_cases ql : ds.length = n
    · rw [if_pos ql]
      intro k
      obtain ⟨p, vs, rfl, hs, g⟩ := items_of S rd q
      rcases hs with ⟨_, hs⟩ | hs
      · exact .inl ⟨p, vs, rfl, hs, by rw [← g.length]; exact ql, I, M, en, ds, S, r, g, k⟩
      · exact .inr ⟨p, vs, rfl, hs, by rw [← g.length]; exact ql, I, M, en, ds, S, r, g, k⟩
    · rw [if_neg ql]
      exact False.elim

/-! ### what is walked -/
def IterR (K : PySem.W.Frag) (I0 : Ow) (H0 : Hp) (ds : List D) (J : It) : Prop :=
  ∀ I H M, Ext I0 H0 I H → Sto K I H M → ∀ i, (∀ d, ds[i]? = some d → J.go i H ∧ ∀ x H', J.yld i H x H' → (H' = H ∨ ∃ p o, H p = none ∧ H' = upd H p o) ∧ Rep K I H' d x) ∧ (ds.length ≤ i → J.stop i H)
def TI_ (K : PySem.W.Frag) (mg : Str → Option Value) (W : WX) (f : AF) : TI := TD K mg W (fun I H ds J => IterR K I H ds J) f
structure EvI (X : Cx) (W : WX) (tg iter : Expr) (f : AF) : Prop where
  pi : PI X tg iter (TI_ X.K X.mg W f)
theorem pi_imp {iter : Expr} {t t' : TI} (h : PI X tg iter t) (i : ∀ σ H Q, t' σ H Q → t σ H Q) : PI X tg iter t' := ⟨fun pins s σ H R Iv hq => h.run pins s σ H R Iv (i σ H R hq)⟩
/-- a list or a tuple -/
def iSeqR (K : PySem.W.Frag) (tl : TE) : TI := fun σ H R => tl σ H fun x H1 => ∃ p, x = .ref p ∧ (((∃ xs, SqL K H1 p xs) ∧ R (Itl K p) H1) ∨ ((∃ xs, SqT K H1 p xs) ∧ R (Itt K p) H1))
theorem pi_seqR {l : Expr} {tl : TE} (hl : PE X l tl) : PI X tg l (iSeqR X.K tl) := by
  refine ⟨fun pins s σ H R Iv hw => ?_⟩
  refine thn (hl.run pins s σ H _ Iv hw) fun v s1 ⟨x, H1, I1, r1, p, e, q1⟩ => ?_
  subst e
  cases r1
  rcases q1 with ⟨⟨xs, hq⟩, q⟩ | ⟨⟨xs, hq⟩, q⟩
  · obtain ⟨_, _, pl, _⟩ := I1.list hq
    refine wpAny_pyIter_list pl.isList ⟨_, [s1.heap.objs.size], _, _, H1, rfl, I1.kept (t' := s1.toks) (fun _ _ z => Heap.get?_push_of_some _ z), turn_list p _, ⟨_, Heap.get?_push_size _ rfl, rfl, rfl⟩, fun b hb => ?_, q⟩
    cases List.mem_singleton.mp hb
    exact I1.fpOk (Nat.le_refl _) (I1.hok.fresh (Nat.le_refl _))
  · obtain ⟨its, _, pt, _⟩ := I1.tuple hq
    refine wpAny_pyIter_tuple (show s1.heap.IsTuple p its.toArray from pt) ⟨_, [s1.heap.objs.size], _, _, H1, rfl, I1.kept (t' := s1.toks) (fun _ _ z => Heap.get?_push_of_some _ z), turn_tuple p _, ⟨_, Heap.get?_push_size _ rfl, rfl, rfl⟩, fun b hb => ?_, q⟩
    cases List.mem_singleton.mp hb
    exact I1.fpOk (Nat.le_refl _) (I1.hok.fresh (Nat.le_refl _))
/-- the items of a value that is no list of the store -/
def iSeq (fa : EF) : AF := fun en M => bnd (fa en M) fun x M1 => match x with
  | .tup ds => some (.ok ds, M1)
  | .imm ds => some (.ok ds, M1)
  | .scr ds => some (.ok ds, M1)
  | _ => none
theorem iterR_L {p : Addr} {vs : List V} {ds : List D} (h : LstA K I H p vs) (r : Reps K I H ds vs) : IterR K I H ds (Itl K p) := by
  intro I1 H1 M1 e1 S1 i
  have h1 := (e1.lstA h).sq
  have r1 := e1.reps r
  refine ⟨fun d hd => ?_, fun hl => ⟨vs, h1, by rw [← r.length]; exact hl⟩⟩
  obtain ⟨v, hv, rv⟩ := r1.get' hd
  refine ⟨⟨vs, v, h1, hv⟩, fun x H' hy => ?_⟩
  obtain ⟨rfl, hx⟩ := hy
  have z := hx vs h1
  rw [hv] at z
  cases z
  exact ⟨.inl rfl, rv⟩
theorem iterR_T {p : Addr} {vs : List V} {ds : List D} (h : TupA K I H p vs) (r : Reps K I H ds vs) : IterR K I H ds (Itt K p) := by
  intro I1 H1 M1 e1 S1 i
  have h1 := (e1.tupA h).sq
  have r1 := e1.reps r
  refine ⟨fun d hd => ?_, fun hl => ⟨vs, h1, by rw [← r.length]; exact hl⟩⟩
  obtain ⟨v, hv, rv⟩ := r1.get' hd
  refine ⟨⟨vs, v, h1, hv⟩, fun x H' hy => ?_⟩
  obtain ⟨rfl, hx⟩ := hy
  have z := hx vs h1
  rw [hv] at z
  cases z
  exact ⟨.inl rfl, rv⟩
theorem ei_seq (ha : EvE X W a fa) : EvI X W tg a (iSeq fa) := by
  refine ⟨pi_imp (pi_seqR ha.pe) fun σ H R h => ?_⟩
  obtain ⟨I, M, en, S, r, k⟩ := h
  refine ⟨I, M, en, S, r, k.bind fun x M1 I1 H1 u e1 S1 r1 k1 => ?_⟩
  split at k1
  · simp only [Rep] at r1
    obtain ⟨p, vs, rfl, h2, h3⟩ := r1
    exact ⟨p, rfl, .inr ⟨⟨vs, h2.sq⟩, k1.ok S1 (iterR_T h2 h3)⟩⟩
  · simp only [Rep] at r1
    obtain ⟨p, vs, rfl, h2, h3⟩ := r1
    exact ⟨p, rfl, .inl ⟨⟨vs, .inl (.inl h2.1)⟩, k1.ok S1 (iterR_L (.inl ⟨.inl h2.1, h2.2⟩) h3)⟩⟩
  · simp only [Rep] at r1
    obtain ⟨p, vs, rfl, h2, h3⟩ := r1
    exact ⟨p, rfl, .inl ⟨⟨vs, h2.sq⟩, k1.ok S1 (iterR_L h2 h3)⟩⟩
  · exact k1.elim
/-- range -/
def rgD (lo : Int) (n : Nat) : List D := (List.range n).map fun i => .int (lo + (i : Nat))
def smI (i : Int) : Bool := decide (-(2 ^ 62) ≤ i) && decide (i < 2 ^ 62)
theorem smI_ok {i : Int} (h : smI i = true) : -(2 ^ 62) ≤ i ∧ i < 2 ^ 62 := by
  unfold smI at h
  rw [Bool.and_eq_true, decide_eq_true_eq, decide_eq_true_eq] at h
  exact h
theorem rgD_get {lo : Int} {n i : Nat} {d : D} (h : (rgD lo n)[i]? = some d) : i < n ∧ d = .int (lo + (i : Nat)) := by
  unfold rgD at h
  rw [List.getElem?_map] at h
  by_cases q : i < n
  · rw [List.getElem?_range q] at h
    exact ⟨q, (Option.some.inj h).symm⟩
  · rw [List.getElem?_eq_none (by simpa using q)] at h
    cases h
theorem iterR_rng (lo : Int) (n : Nat) : IterR K I H (rgD lo n) (Itr lo n) := by
  intro I1 H1 M1 e1 S1 i
  refine ⟨fun d hd => ?_, fun hl => show n ≤ i by unfold rgD at hl; simpa using hl⟩
  obtain ⟨h1, rfl⟩ := rgD_get hd
  refine ⟨h1, fun x H' hy => ?_⟩
  obtain ⟨rfl, rfl⟩ := hy
  exact ⟨.inl rfl, rep_int⟩
def iRng1C (fr : AF) : AF := fun en M => bnd (fr en M) fun xs M1 => match xs with | [.int j] => if smI j = true then some (.ok (rgD 0 j.toNat), M1) else none | _ => none
def iRng2C (fr : AF) : AF := fun en M => bnd (fr en M) fun xs M1 => match xs with | [.int i, .int j] => if (smI i && smI j) = true then some (.ok (rgD i (j - i).toNat), M1) else none | _ => none
theorem ei_rng1 {p : Pos} (hg : Gl X "range") (hm : X.mg "range" = none) (ha : EvA X W [a] fr) (hs : starEach [a] X.env = [(false, eval a X.env)] := by rfl) : EvI X W tg (.Call (.Name "range" p) [a] [] pos) (iRng1C fr) := by
  refine ⟨pi_imp (pi_range1 hg hm ha.pa hs) fun σ H R h => ?_⟩
  obtain ⟨I, M, en, S, r, k⟩ := h
  refine ⟨I, M, en, S, r, k.bind fun xs M1 I1 H1 us e1 S1 r1 k1 => ?_⟩
  split at k1
  · obtain ⟨u, rfl, h⟩ := reps1 r1
    simp only [Rep] at h
    subst h
    split at k1
    · rename_i q
      exact ⟨_, rfl, (smI_ok q).1, (smI_ok q).2, k1.ok S1 (iterR_rng _ _)⟩
    · exact k1.elim
  · exact k1.elim
theorem ei_rng2 {p : Pos} (hg : Gl X "range") (hm : X.mg "range" = none) (ha : EvA X W [a, b] fr) (hs : starEach [a, b] X.env = [(false, eval a X.env), (false, eval b X.env)] := by rfl) (hs2 : starEach [b] X.env = [(false, eval b X.env)] := by rfl) : EvI X W tg (.Call (.Name "range" p) [a, b] [] pos) (iRng2C fr) := by
  refine ⟨pi_imp (pi_range2 hg hm ha.pa hs hs2) fun σ H R h => ?_⟩
  obtain ⟨I, M, en, S, r, k⟩ := h
  refine ⟨I, M, en, S, r, k.bind fun xs M1 I1 H1 us e1 S1 r1 k1 => ?_⟩
  split at k1
  · obtain ⟨u, u', rfl, h, h'⟩ := reps2 r1
    simp only [Rep] at h h'
    subst h; subst h'
    split at k1
    · rename_i q
      rw [Bool.and_eq_true] at q
      exact ⟨_, _, rfl, ⟨(smI_ok q.1).1, (smI_ok q.1).2, (smI_ok q.2).1, (smI_ok q.2).2⟩, k1.ok S1 (iterR_rng _ _)⟩
    · exact k1.elim
  · exact k1.elim
/-- zip of two tuples, of two lists -/
def zipD (xs ys : List D) : List D := (xs.zip ys).map fun p => .tup [p.1, p.2]
def iZipC (fr : AF) : AF := fun en M => bnd (fr en M) fun xs M1 => match xs with
  | [.tup x, .tup y] => some (.ok (zipD x y), M1)
  | [.imm x, .imm y] => some (.ok (zipD x y), M1)
  | _ => none
theorem zipD_get {xs ys : List D} {i : Nat} {d : D} (h : (zipD xs ys)[i]? = some d) : ∃ x y, xs[i]? = some x ∧ ys[i]? = some y ∧ d = .tup [x, y] := by
  unfold zipD at h
  rw [List.getElem?_map, Option.map_eq_some_iff] at h
  obtain ⟨⟨x, y⟩, h1, h2⟩ := h
  rw [List.getElem?_zip_eq_some] at h1
  exact ⟨x, y, h1.1, h1.2, h2.symm⟩
theorem zipD_len (xs ys : List D) : (zipD xs ys).length = min xs.length ys.length := by unfold zipD; simp
theorem iterR_zipT {p q : Addr} {vs us : List V} {xs ys : List D} (h : TupA K I H p vs) (g : TupA K I H q us) (r : Reps K I H xs vs) (t : Reps K I H ys us) : IterR K I H (zipD xs ys) (RZ.ItzT K p q) := by
  intro I1 H1 M1 e1 S1 i
  have h1 := (e1.tupA h).sq
  have g1 := (e1.tupA g).sq
  refine ⟨fun d hd => ?_, fun hl => ⟨vs, us, h1, g1, by rw [zipD_len, r.length, t.length] at hl; omega⟩⟩
  obtain ⟨x, y, hx, hy, rfl⟩ := zipD_get hd
  obtain ⟨v, hv, rv⟩ := (e1.reps r).get' hx
  obtain ⟨u, hu, ru⟩ := (e1.reps t).get' hy
  refine ⟨⟨vs, us, v, u, h1, g1, hv, hu⟩, fun z H' hz => ?_⟩
  obtain ⟨T, a, b, rfl, nT, rfl, f1, f2⟩ := hz
  have z1 := f1 vs h1
  have z2 := f2 us g1
  rw [hv] at z1; rw [hu] at z2
  cases z1; cases z2
  exact ⟨.inr ⟨T, _, nT, rfl⟩, rep_newT S1 nT (.cons rv (.one ru))⟩
theorem iterR_zipL {p q : Addr} {vs us : List V} {xs ys : List D} (h : LstA K I H p vs) (g : LstA K I H q us) (r : Reps K I H xs vs) (t : Reps K I H ys us) : IterR K I H (zipD xs ys) (Itz K p q) := by
  intro I1 H1 M1 e1 S1 i
  have h1 := (e1.lstA h).sq
  have g1 := (e1.lstA g).sq
  refine ⟨fun d hd => ?_, fun hl => ⟨vs, us, h1, g1, by rw [zipD_len, r.length, t.length] at hl; omega⟩⟩
  obtain ⟨x, y, hx, hy, rfl⟩ := zipD_get hd
  obtain ⟨v, hv, rv⟩ := (e1.reps r).get' hx
  obtain ⟨u, hu, ru⟩ := (e1.reps t).get' hy
  refine ⟨⟨vs, us, v, u, h1, g1, hv, hu⟩, fun z H' hz => ?_⟩
  obtain ⟨T, a, b, rfl, nT, rfl, f1, f2⟩ := hz
  have z1 := f1 vs h1
  have z2 := f2 us g1
  rw [hv] at z1; rw [hu] at z2
  cases z1; cases z2
  exact ⟨.inr ⟨T, _, nT, rfl⟩, rep_newT S1 nT (.cons rv (.one ru))⟩
theorem ei_zip {elts : List Expr} {kk : Nat} {tpos p : Pos} (hg : Gl X "zip") (hm : X.mg "zip" = none) (ha : EvA X W [a, b] fr)
    (hs : starEach [a, b] X.env = (false, eval a X.env) :: starEach [b] X.env := by rfl) (hs2 : starEach [b] X.env = [(false, eval b X.env)] := by rfl) : EvI X W (.Tuple elts kk tpos) (.Call (.Name "zip" p) [a, b] [] pos) (iZipC fr) := by
  refine ⟨pi_imp (RZ.pi_zipA hg hm ha.pa hs (by rw [hs2]; rfl)) fun σ H R h => ?_⟩
  obtain ⟨I, M, en, S, r, k⟩ := h
  refine ⟨I, M, en, S, r, k.bind fun xs M1 I1 H1 us e1 S1 r1 k1 => ?_⟩
  split at k1
  · obtain ⟨u, u', rfl, h, h'⟩ := reps2 r1
    simp only [Rep] at h h'
    obtain ⟨p, vs, rfl, h2, h3⟩ := h
    obtain ⟨p', vs', rfl, g2, g3⟩ := h'
    exact ⟨p, p', vs, vs', rfl, .inr ⟨h2.sq, g2.sq, k1.ok S1 (iterR_zipT h2 g2 h3 g3)⟩⟩
  · obtain ⟨u, u', rfl, h, h'⟩ := reps2 r1
    simp only [Rep] at h h'
    obtain ⟨p, vs, rfl, h2, h3⟩ := h
    obtain ⟨p', vs', rfl, g2, g3⟩ := h'
    exact ⟨p, p', vs, vs', rfl, .inl ⟨.inl (.inl h2.1), .inl (.inl g2.1), k1.ok S1 (iterR_zipL (.inl ⟨.inl h2.1, h2.2⟩) (.inl ⟨.inl g2.1, g2.2⟩) h3 g3)⟩⟩
  · exact k1.elim
end
end DL
/-! The data layer, part 6: list comprehensions. -/
namespace DL
open PySem PySem.Spec PyProof.Rows L2
abbrev W0 : WX := fun _ _ _ _ => False
section
variable {X : Cx} {W : WX} {K : PySem.W.Frag} {mg : Str → Option Value} {I I' : Ow} {H H' : Hp} {M M' : Store} {σ : L2.St} {en : Env}
variable {a b c e tg iter elt : Expr} {es ifs : List Expr} {pos : Pos} {fa fb fc : EF} {fr fi : AF} {g : GF} {t : TF} {f : EF} {Sl : List Nat}
structure EvTs (X : Cx) (W : WX) (es : List Expr) (f : TF) : Prop where
  pts : PTs X es (TD X.K X.mg W RB f)
def tYesC : TF := fun _ M => some (.ok true, M)
theorem pts_imp {t t' : TT} (h : PTs X es t) (i : ∀ σ H Q, t' σ H Q → t σ H Q) : PTs X es t' := ⟨fun pins s σ H Q Iv hq => h.run pins s σ H Q Iv (i σ H Q hq)⟩
theorem ets_nil : EvTs X W [] tYesC := ⟨pts_imp pts_nil fun σ H Q ⟨I, M, en, S, r, k⟩ => Kp.ok (M := M) k S rfl⟩
theorem ets_one (h : EvT X W c t) : EvTs X W [c] t := ⟨pts_one h.pt⟩
/-- the made items, in order -/
def compF (g : GF) (t : TF) (f : EF) (en : Env) : List D → Store → Option (List D × Store)
  | [], M => some ([], M)
  | d :: ds, M => match g d en M with
    | none => none
    | some (en1, M1) => match t en1 M1 with
      | some (.ok true, M2) => match f en1 M2 with
        | some (.ok y, M3) => match compF g t f en ds M3 with
          | some (ys, M4) => some (y :: ys, M4)
          | none => none
        | _ => none
      | some (.ok false, M2) => compF g t f en ds M2
      | _ => none
/-- what is made of the items: a list that stays as it is, or one of the store -/
def mkI : List D → Store → D × Store := fun ys M => (.imm ys, M)
def mkC : List D → Store → D × Store := fun ys M => (.cel M.length, M ++ [ys])
def cLcG (mk : List D → Store → D × Store) (fi : AF) (g : GF) (t : TF) (f : EF) (vs : List Nat) : EF := fun en M => bnd (fi en M) fun ds M1 =>
  if szOk ds.length = true then (match compF g t f (wipeE en vs) ds M1 with | some (ys, M2) => some (.ok (mk ys M2).1, (mk ys M2).2) | none => none) else none
abbrev cLc := cLcG mkI
abbrev cLcC := cLcG mkC
def MkOk (K : PySem.W.Frag) (mk : List D → Store → D × Store) : Prop := ∀ (I0 : Ow) (H0 : Hp) (I : Ow) (H : Hp) (M : Store) (p : Addr) (ys : List D) (av : List V), p ∉ I0.p → H0 p = none → Ext I0 H0 I H → p ∈ I.p → Sto K I H M → H p = some (.lst av) → Reps K I H ys av →
  ∃ I', Ext I0 H0 I' H ∧ Sto K I' H (mk ys M).2 ∧ Rep K I' H (mk ys M).1 (.ref p)
mutual
theorem Rep.mv (hf : ∀ a, I.Free a → I'.Free a) (hc : ∀ (n : Nat) (a : Addr), I.c[n]? = some a → I'.c[n]? = some a) (hd : I'.d = I.d) : ∀ {d : D} {v : V}, Rep K I H d v → Rep K I' H d v
  | .non, v, h => by simpa only [Rep] using h
  | .bl _, v, h => by simpa only [Rep] using h
  | .int _, v, h => by simpa only [Rep] using h
  | .str _, v, h => by simpa only [Rep] using h
  | .ty _, v, h => by simpa only [Rep] using h
  | .tup ds, v, h => by
    simp only [Rep] at h ⊢
    obtain ⟨a, vs, h1, h2, h3⟩ := h
    exact ⟨a, vs, h1, h2.imp (fun h => ⟨h.1, hf _ h.2⟩) id, Reps.mv hf hc hd h3⟩
  | .imm ds, v, h => by
    simp only [Rep] at h ⊢
    obtain ⟨a, vs, h1, h2, h3⟩ := h
    exact ⟨a, vs, h1, ⟨h2.1, hf _ h2.2⟩, Reps.mv hf hc hd h3⟩
  | .scr ds, v, h => by
    simp only [Rep] at h ⊢
    obtain ⟨a, vs, h1, h2, h3⟩ := h
    exact ⟨a, vs, h1, h2.imp (fun h => ⟨h.1, hf _ h.2⟩) id, Reps.mv hf hc hd h3⟩
  | .cel j, v, h => by
    simp only [Rep] at h ⊢
    obtain ⟨a, h1, h2⟩ := h
    exact ⟨a, h1, hc _ _ h2.1, by rw [hd]; exact h2.2⟩
  | .dic j, v, h => by
    simp only [Rep] at h ⊢
    obtain ⟨a, h1, h2⟩ := h
    exact ⟨a, h1, hc _ _ h2.1, by rw [hd]; exact h2.2⟩
theorem Reps.mv (hf : ∀ a, I.Free a → I'.Free a) (hc : ∀ (n : Nat) (a : Addr), I.c[n]? = some a → I'.c[n]? = some a) (hd : I'.d = I.d) : ∀ {ds : List D} {vs : List V}, Reps K I H ds vs → Reps K I' H ds vs
  | [], vs, h => by simpa only [Reps] using h
  | d :: ds, vs, h => by
    simp only [Reps] at h ⊢
    obtain ⟨v, r, h1, h2, h3⟩ := h
    exact ⟨v, r, h1, Rep.mv hf hc hd h2, Reps.mv hf hc hd h3⟩
end
theorem mkI_ok : MkOk K mkI := by
  intro I0 H0 I H M p ys av hp0 hn e hp S hl r
  refine ⟨I.show p, e.show hp0, S.show, ?_⟩
  show Rep K _ H (.imm ys) (.ref p)
  simp only [Rep]
  exact ⟨p, av, rfl, ⟨hl, (S.dis p hp).1, fun hm => of_decide_eq_true (List.mem_filter.mp hm).2 rfl⟩, r.show⟩
theorem mkC_ok : MkOk K mkC := by
  intro I0 H0 I H M p ys av hp0 hn e hp S hl r
  have hf : ∀ a, I.Free a → ((I.show p).add p).Free a := fun a ha => ⟨fun z => by
    rcases List.mem_append.mp (show a ∈ I.c ++ [p] from z) with z | z
    · exact ha.1 z
    · exact ha.2 (by rw [List.mem_singleton.mp z]; exact hp), fun z => ha.2 (List.mem_filter.mp z).1⟩
  have hc : ∀ (n : Nat) (a : Addr), I.c[n]? = some a → ((I.show p).add p).c[n]? = some a := fun n a h => by
    show (I.c ++ [p])[n]? = some a
    rw [List.getElem?_append_left (List.getElem?_eq_some_iff.mp h).1]; exact h
  have hpc := (S.dis p hp).1
  have one : ∀ {n : Nat} {a : Addr}, ((I.show p).add p).c[n]? = some a → (n < I.c.length ∧ I.c[n]? = some a) ∨ (n = I.c.length ∧ a = p) := by
    intro n a h1
    have h1 : (I.c ++ [p])[n]? = some a := h1
    by_cases q : n < I.c.length
    · rw [List.getElem?_append_left q] at h1
      exact .inl ⟨q, h1⟩
    · have hn : n < (I.c ++ [p]).length := (List.getElem?_eq_some_iff.mp h1).1
      have hn' : n = I.c.length := by simp at hn; omega
      subst hn'
      rw [List.getElem?_append_right (Nat.le_refl _)] at h1
      simp at h1
      exact .inr ⟨rfl, h1.symm⟩
  have hmv : ∀ {d : D} {v : V}, Rep K I H d v → Rep K ((I.show p).add p) H d v := fun h => Rep.mv hf hc rfl h
  have hmvs : ∀ {ds : List D} {vs : List V}, Reps K I H ds vs → Reps K ((I.show p).add p) H ds vs := fun h => Reps.mv hf hc rfl h
  refine ⟨(I.show p).add p, ?_, ⟨?_, ?_, fun n a ds h1 h2 => ?_, fun n a ds h1 h2 => ?_, fun a ha => List.mem_append_left _ (S.sub a ha), fun a ha => ?_⟩, ?_⟩
  · have es := e.show hp0
    obtain ⟨l, q1, q2⟩ := es.pre
    refine ⟨es.prv, ⟨l ++ [p], by show (I.show p).c ++ [p] = _; rw [q1]; simp, fun a ha => ?_⟩, es.keep, es.trk, es.dic⟩
    rcases List.mem_append.mp ha with ha | ha
    · exact q2 a ha
    · rw [List.mem_singleton.mp ha]; exact hn
  · show (I.c ++ [p]).length = (M ++ [ys]).length
    simp [S.len]
  · show (I.c ++ [p]).Nodup
    rw [List.nodup_append]
    exact ⟨S.nodup, by simp, fun a ha b hb z => hpc (by rw [← List.mem_singleton.mp hb, ← z]; exact ha)⟩
  · have h2 : (M ++ [ys])[n]? = some ds := h2
    rcases one h1.1 with ⟨q, g⟩ | ⟨q, g⟩
    · rw [List.getElem?_append_left (by rw [← S.len]; exact q)] at h2
      obtain ⟨us, e1, g⟩ := S.at_ n a ds ⟨g, h1.2⟩ h2
      exact ⟨us, e1, hmvs g⟩
    · subst q; subst g
      rw [S.len, List.getElem?_append_right (Nat.le_refl _)] at h2
      simp at h2
      subst h2
      exact ⟨av, hl, hmvs r⟩
  · have h2 : (M ++ [ys])[n]? = some ds := h2
    rcases one h1.1 with ⟨q, g⟩ | ⟨q, g⟩
    · rw [List.getElem?_append_left (by rw [← S.len]; exact q)] at h2
      obtain ⟨us, e1, g⟩ := S.atD n a ds ⟨g, h1.2⟩ h2
      exact ⟨us, e1, g.imp fun _ _ => hmv⟩
    · subst g
      exact absurd (S.sub _ h1.2) hpc
  · have hm := List.mem_filter.mp (show a ∈ I.p.filter fun b => decide (b ≠ p) from ha)
    obtain ⟨h1, h2⟩ := S.dis a hm.1
    refine ⟨fun z => ?_, h2⟩
    rcases List.mem_append.mp (show a ∈ I.c ++ [p] from z) with z | z
    · exact h1 z
    · exact of_decide_eq_true hm.2 (List.mem_singleton.mp z)
  · show Rep K _ H (.cel M.length) (.ref p)
    simp only [Rep]
    refine ⟨p, rfl, ?_, fun z => hpc (S.sub p z)⟩
    show (I.c ++ [p])[M.length]? = some p
    rw [← S.len]; simp
theorem RepE.wipe {en : Env} {σ : L2.St} (r : RepE K I H en σ) : ∀ vs : List Nat, RepE K I H (wipeE en vs) (wipe σ vs)
  | [] => r
  | v :: vs => (RepE.wipe r vs).unset v none
theorem RepE.grow {en : Env} {σ : L2.St} {p : Addr} {o : HO} (r : RepE K I H en σ) (hp : p ∈ I.p) : RepE K I (upd H p o) en σ :=
  ⟨r.len, fun i d h => let ⟨v, h1, h2⟩ := r.at_ i d h; ⟨v, h1, h2.grow hp⟩⟩
theorem wipe_out {σ : L2.St} {i : Nat} : ∀ {vs : List Nat}, i ∉ vs → (wipe σ vs)[i]? = σ[i]?
  | [], _ => rfl
  | v :: vs, h => by
    show ((wipe σ vs).set v none)[i]? = _
    rw [List.getElem?_set_ne (fun z => h (by rw [z]; exact List.mem_cons_self)), wipe_out fun z => h (List.mem_cons_of_mem _ z)]
theorem wipe_in {σ : L2.St} {i : Nat} : ∀ {vs : List Nat}, i ∈ vs → i < σ.length → (wipe σ vs)[i]? = some none
  | [], h, _ => nomatch h
  | v :: vs, h, hl => by
    show ((wipe σ vs).set v none)[i]? = _
    by_cases q : i = v
    · subst q
      rw [List.getElem?_set_self (by rw [wipe_length]; exact hl)]
    · rw [List.getElem?_set_ne (Ne.symm q)]
      rcases List.mem_cons.mp h with e | h
      · exact absurd e q
      · exact wipe_in h hl
theorem wipe_same {σ σ2 : L2.St} {vs : List Nat} (hl : σ2.length = (wipe σ vs).length) (h : ∀ k, k ∉ vs → σ2[k]? = (wipe σ vs)[k]?) : wipe σ2 vs = wipe σ vs := by
  have hl' : σ2.length = σ.length := by rw [hl, wipe_length]
  refine List.ext_getElem? fun k => ?_
  by_cases q : k ∈ vs
  · by_cases hk : k < σ.length
    · rw [wipe_in q hk, wipe_in q (by rw [hl']; exact hk)]
    · rw [List.getElem?_eq_none (by rw [wipe_length]; omega), List.getElem?_eq_none (by rw [wipe_length]; omega)]
  · rw [wipe_out q, h k q]
/-- a turn's heap: where it is the same, or has one new object -/
theorem Ext.turn (h : H' = H ∨ ∃ p o, H p = none ∧ H' = upd H p o) : Ext I H I H' := by
  rcases h with rfl | ⟨p, o, hp, rfl⟩
  · exact Ext.refl
  · exact Ext.new hp
theorem Sto.turn (S : Sto K I H M) (h : H' = H ∨ ∃ p o, H p = none ∧ H' = upd H p o) : Sto K I H' M := by
  rcases h with rfl | ⟨p, o, hp, rfl⟩
  · exact S
  · exact S.new hp
theorem lc_readG {mk : List D → Store → D × Store} (hmk : MkOk K mk) {vs : List Nat} (hS : ∀ k ∈ Sl, k ∈ vs) {Q : VK} (h : TD K mg W (Rep K) (cLcG mk fi g t f vs) σ H Q) :
    tLc (TI_ K mg W fi) (TG_ K Sl g) (TD K mg W0 RB t) (TD K mg W0 (Rep K) f) vs σ H Q := by
  obtain ⟨I, M, en, S, r, k⟩ := h
  refine ⟨I, M, en, S, r, k.bind fun ds M1 I1 H1 J e1 S1 rJ k1 => ?_⟩
  intro Dl hD
  split at k1
  case isFalse => exact k1.elim
  rename_i qsz
  have r1 := r.mono e1
  cases hz : compF g t f (wipeE en vs) ds M1 with
  | none => rw [hz] at k1; exact k1.elim
  | some z =>
  obtain ⟨out, Mz⟩ := z
  rw [hz] at k1
  have k1 : Kp K mg W (Rep K) (some (.ok (mk out Mz).1, (mk out Mz).2)) I1 H1 σ Q := k1
  have hDf : Dl ∉ I1.p := (S1.fresh hD).2
  refine ⟨fun i m H => i ≤ ds.length ∧ m = ds.length - i ∧ ∃ (I2 : Ow) (M2 : Store) (acc : List D) (av : List V), Ext I1 H1 I2 H ∧ Dl ∈ I2.p ∧ Sto K I2 H M2 ∧ H Dl = some (.lst av) ∧ Reps K I2 H acc av ∧ acc.length ≤ i ∧
      RepE K I2 H (wipeE en vs) (wipe σ vs) ∧ ∃ ys, compF g t f (wipeE en vs) (ds.drop i) M2 = some (ys, Mz) ∧ acc ++ ys = out, ⟨ds.length, ?_⟩, ?_⟩
  · exact ⟨Nat.zero_le _, rfl, I1.hide Dl, M1, [], [], Ext.hide hD, List.mem_cons_self, S1.hide hD, upd_same, by simp only [Reps], Nat.le_refl _, (r1.wipe vs).mono (Ext.hide hD), out, hz, rfl⟩
  · rintro i m H2 ⟨hi2, rfl, I2, M2, acc, av, e2, hpm, S2, hDl, ra, hal, r2, ys, hc2, hout⟩
    obtain ⟨g1, g2⟩ := rJ I2 H2 M2 e2 S2 i
    by_cases hlt : i < ds.length
    · obtain ⟨go, yl⟩ := g1 ds[i] (List.getElem?_eq_getElem hlt)
      refine .inr ⟨go, fun H' => ∃ m', m' < ds.length - i ∧ (i + 1 ≤ ds.length ∧ m' = ds.length - (i + 1) ∧ ∃ (I2 : Ow) (M2 : Store) (acc : List D) (av : List V), Ext I1 H1 I2 H' ∧ Dl ∈ I2.p ∧ Sto K I2 H' M2 ∧ H' Dl = some (.lst av) ∧ Reps K I2 H' acc av ∧ acc.length ≤ i + 1 ∧
        RepE K I2 H' (wipeE en vs) (wipe σ vs) ∧ ∃ ys, compF g t f (wipeE en vs) (ds.drop (i + 1)) M2 = some (ys, Mz) ∧ acc ++ ys = out), fun _ z => z, fun x H3 hy => ?_⟩
      obtain ⟨ht3, rx⟩ := yl x H3 hy
      rw [List.drop_eq_getElem_cons hlt] at hc2
      have e3 : Ext I2 H2 I2 H3 := Ext.turn ht3
      have S3 : Sto K I2 H3 M2 := S2.turn ht3
      refine ⟨I2, M2, wipeE en vs, ds[i], S3, r2.mono e3, rx, ?_⟩
      unfold compF at hc2
      revert hc2
      cases q1 : g ds[i] (wipeE en vs) M2 with
      | none => exact fun z => nomatch z
      | some z1 =>
      obtain ⟨en1, M3⟩ := z1
      dsimp only
      intro hc2 I4 H4 σ4 e4 S4 r4 l4 o4
      have hw : wipe σ4 vs = wipe σ vs := wipe_same l4 fun k hk => o4 k fun z => hk (hS k z)
      refine ⟨hw, I4, M3, en1, S4, r4, ?_⟩
      have e24 := e3.trans e4
      -- what holds at the next turn, from a later state
      have next : ∀ {I5 : Ow} {H5 : Hp} {M5 : Store} {ys5 : List D}, Ext I4 H4 I5 H5 → Sto K I5 H5 M5 → compF g t f (wipeE en vs) (ds.drop (i + 1)) M5 = some (ys5, Mz) → acc ++ ys5 = out →
          ∃ m', m' < ds.length - i ∧ (i + 1 ≤ ds.length ∧ m' = ds.length - (i + 1) ∧ ∃ (I2 : Ow) (M2 : Store) (acc : List D) (av : List V), Ext I1 H1 I2 H5 ∧ Dl ∈ I2.p ∧ Sto K I2 H5 M2 ∧ H5 Dl = some (.lst av) ∧ Reps K I2 H5 acc av ∧ acc.length ≤ i + 1 ∧
            RepE K I2 H5 (wipeE en vs) (wipe σ vs) ∧ ∃ ys, compF g t f (wipeE en vs) (ds.drop (i + 1)) M2 = some (ys, Mz) ∧ acc ++ ys = out) := by
        intro I5 H5 M5 ys5 e5 S5 hc5 ho5
        have e25 := e24.trans e5
        exact ⟨_, by omega, hlt, rfl, I5, M5, acc, av, e2.trans e25, e25.mem hpm, S5, e25.keep _ _ hDl (S2.dis Dl hpm).1, e25.reps ra, Nat.le_succ_of_le hal, r2.mono e25, ys5, hc5, ho5⟩
      revert hc2
      cases q2 : t en1 M3 with
      | none => exact fun z => nomatch z
      | some z2 =>
      obtain ⟨o2, M4⟩ := z2
      cases o2 with
      | ex _ _ => exact fun z => nomatch z
      | ok b =>
      cases b with
      | false =>
        dsimp only
        intro hc2 I5 H5 b5 e5 S5 rb
        cases rb
        exact (if_neg Bool.false_ne_true).mpr (next e5 S5 hc2 hout)
      | true =>
        dsimp only
        intro hc2 I5 H5 b5 e5 S5 rb
        cases rb
        refine (if_pos rfl).mpr ⟨I5, M4, en1, S5, r4.mono e5, ?_⟩
        revert hc2
        cases q3 : f en1 M4 with
        | none => exact fun z => nomatch z
        | some z3 =>
        obtain ⟨o3, M5⟩ := z3
        cases o3 with
        | ex _ _ => exact fun z => nomatch z
        | ok y =>
        dsimp only
        cases q4 : compF g t f (wipeE en vs) (ds.drop (i + 1)) M5 with
        | none => exact fun z => nomatch z
        | some z4 =>
        obtain ⟨ys5, M6⟩ := z4
        intro hc2 I6 H6 v e6 S6 rv
        cases hc2
        have e26 := (e24.trans e5).trans e6
        have hpm6 := e26.mem hpm
        have hD6 := e26.keep _ _ hDl (S2.dis Dl hpm).1
        refine ⟨av, hD6, ?_, ?_⟩
        · have h1 : av.length = acc.length := (e26.reps ra).length.symm
          have h2 : ds.length ≤ sizeLine := szOk_ok qsz
          omega
        · refine ⟨_, by omega, hlt, rfl, I6, M5, acc ++ [y], av ++ [v], (e2.trans e26).grow hD, hpm6, S6.grow hpm6, upd_same, ((e26.reps ra).append (.one rv)).grow hpm6, by rw [List.length_append]; simp; omega, (r2.mono e26).grow hpm6, ys5, q4, by rw [← hout]; simp⟩
    · have hi3 : i = ds.length := by omega
      subst hi3
      refine .inl ⟨g2 (Nat.le_refl _), ?_⟩
      rw [List.drop_length] at hc2
      cases hc2
      rw [List.append_nil] at hout
      subst hout
      obtain ⟨I', q1, q2, q3⟩ := hmk I1 H1 I2 H2 _ Dl _ av hDf hD e2 hpm S2 hDl ra
      exact k1.ok' q1 q2 q3
theorem lc_read {vs : List Nat} (hS : ∀ k ∈ Sl, k ∈ vs) {Q : VK} (h : TD K mg W (Rep K) (cLc fi g t f vs) σ H Q) :
    tLc (TI_ K mg W fi) (TG_ K Sl g) (TD K mg W0 RB t) (TD K mg W0 (Rep K) f) vs σ H Q := lc_readG mkI_ok hS h
theorem ev_lc {scope : Scope} {own : List (Str × Nat)} (hc : X.calm = true) (hN : X.N.Nodup) (hi : EvI X W tg iter fi) (ok : BlkOk X.N X.env.scope scope own) (hS : ∀ k ∈ Sl, k ∈ own.map (·.2))
    (hg : ∀ (s : Shared) (H : Hp) (C : Addr) (cl : List (Str × Addr)) (fp : List Addr), EvG (X.blk s H scope (compEnvC scope cl C X.env) fp) tg Sl g)
    (ht : ∀ (s : Shared) (H : Hp) (C : Addr) (cl : List (Str × Addr)) (fp : List Addr), EvTs (X.blk s H scope (compEnvC scope cl C X.env) fp) W0 ifs t)
    (he : ∀ (s : Shared) (H : Hp) (C : Addr) (cl : List (Str × Addr)) (fp : List Addr), EvE (X.blk s H scope (compEnvC scope cl C X.env) fp) W0 elt f) (hs : ∀ x, foldedSetIterable iter X.env x = pure x := by intro _; rfl) :
    EvE X W (.ListComp elt [⟨tg, iter, ifs, 0⟩] scope pos) (cLc fi g t f (own.map (·.2))) :=
  ⟨pe_imp (pe_lc (g := TG_ X.K Sl g) (tt := TD X.K X.mg W0 RB t) (te := TD X.K X.mg W0 (Rep X.K) f) hc hN hi.pi ok (fun s H C cl fp => (hg s H C cl fp).pg) (fun s H C cl fp => (ht s H C cl fp).pts) (fun s H C cl fp => (he s H C cl fp).pe) hs) fun _ _ _ h => lc_read hS h⟩
end
end DL
/-! The data layer, part 7: statements. -/
namespace DL
open PySem PySem.Spec PyProof.Rows L2
/-- how a statement ends -/
inductive Fl where
  | nx (en : Env)
  | rt (d : D)
  | bk (en : Env)
  | ct (en : Env)
  | ex (c : Str) (fs : List (Str × D)) (en : Env)
abbrev SRes := Option (Fl × Store)
abbrev SF := Env → Store → SRes
section
variable (K : PySem.W.Frag) (mg : Str → Option Value) (W : WX)
def Sp_ (o : SRes) (I : Ow) (H : Hp) (Z : Ends) : Prop :=
  match o with
  | none => False
  | some (.nx en, M) => ∀ I' H' σ', Ext I H I' H' → Sto K I' H' M → RepE K I' H' en σ' → Z.nx σ' H'
  | some (.bk en, M) => ∀ I' H' σ', Ext I H I' H' → Sto K I' H' M → RepE K I' H' en σ' → Z.bk σ' H'
  | some (.ct en, M) => ∀ I' H' σ', Ext I H I' H' → Sto K I' H' M → RepE K I' H' en σ' → Z.ct σ' H'
  | some (.rt d, M) => ∀ I' H' v, Ext I H I' H' → Sto K I' H' M → Rep K I' H' d v → Z.rt v H'
  | some (.ex c fs en, M) => ∀ I' H' σ' cls dx, Ext I H I' H' → Sto K I' H' M → RepE K I' H' en σ' → ExR K mg I' H' c fs cls dx → W cls dx σ' H'
def TSd (f : SF) : TS := fun Z σ H => ∃ I M en, Sto K I H M ∧ RepE K I H en σ ∧ Sp_ K mg W (f en M) I H Z
end
structure EvS (X : Cx) (W : WX) (st : Stmt) (f : SF) : Prop where
  ps : PS X st (TSd X.K X.mg W f)
structure EvSs (X : Cx) (W : WX) (st : List Stmt) (f : SF) : Prop where
  pss : PSs X st (TSd X.K X.mg W f)
section
variable {X : Cx} {W : WX} {K : PySem.W.Frag} {mg : Str → Option Value} {I I' : Ow} {H H' : Hp} {M M' : Store} {σ : L2.St} {en : Env} {Z : Ends}
variable {a b c e tg iter elt : Expr} {es ifs : List Expr} {pos : Pos} {fa fb fc : EF} {fr fi : AF} {g : GF} {t : TF} {f : EF} {Sl : List Nat} {st : Stmt} {sts body : List Stmt} {p q : SF}
theorem Sp_.mono {o : SRes} (h : Sp_ K mg W o I H Z) (e : Ext I H I' H') : Sp_ K mg W o I' H' Z := by
  match o, h with
  | some (.nx en, M), h => exact fun I2 H2 σ2 e2 => h I2 H2 σ2 (e.trans e2)
  | some (.bk en, M), h => exact fun I2 H2 σ2 e2 => h I2 H2 σ2 (e.trans e2)
  | some (.ct en, M), h => exact fun I2 H2 σ2 e2 => h I2 H2 σ2 (e.trans e2)
  | some (.rt d, M), h => exact fun I2 H2 σ2 e2 => h I2 H2 σ2 (e.trans e2)
  | some (.ex c fs en, M), h => exact fun I2 H2 σ2 cls dx e2 => h I2 H2 σ2 cls dx (e.trans e2)
/-- behind an expression -/
def sbnd {α : Type} (r : Res α) (en : Env) (k : α → Store → SRes) : SRes :=
  match r with
  | none => none
  | some (.ok a, M) => k a M
  | some (.ex c fs, M) => some (.ex c fs en, M)
@[simp] theorem sbnd_ok {α : Type} {a : α} {M : Store} {k : α → Store → SRes} : sbnd (some (.ok a, M)) en k = k a M := rfl
@[simp] theorem sbnd_none {α : Type} {k : α → Store → SRes} : sbnd none en k = none := rfl
@[simp] theorem sbnd_ex {α : Type} {c : Str} {fs : List (Str × D)} {M : Store} {k : α → Store → SRes} : sbnd (some (.ex c fs, M)) en k = some (.ex c fs en, M) := rfl
theorem Sp_.bind {α β : Type} {R : Ow → Hp → α → β → Prop} {o : Res α} {k : α → Store → SRes} {Q : β → Hp → Prop} (h : Sp_ K mg W (sbnd o en k) I H Z) (r : RepE K I H en σ)
    (step : ∀ a M I1 H1 b, Ext I H I1 H1 → Sto K I1 H1 M → R I1 H1 a b → Sp_ K mg W (k a M) I1 H1 Z → Q b H1) : Kp K mg W R o I H σ Q := by
  match o, h with
  | some (.ok a, M), h => exact fun I1 H1 b e S rr => step a M I1 H1 b e S rr (Sp_.mono (o := k a M) h e)
  | some (.ex c fs, M), h => exact fun I1 H1 cls dx e S xr => h I1 H1 σ cls dx e S (r.mono e) xr
def sSeq (p q : SF) : SF := fun en M => match p en M with | some (.nx en1, M1) => q en1 M1 | o => o
def sSkip : SF := fun en M => some (.nx en, M)
theorem Sp_.seq {o : SRes} (h : Sp_ K mg W (match o with | some (.nx en1, M1) => q en1 M1 | o => o) I H Z) : Sp_ K mg W o I H { Z with nx := TSd K mg W q Z } := by
  match o, h with
  | some (.nx en, M), h => exact fun I2 H2 σ2 e2 S2 r2 => ⟨I2, M, en, S2, r2, Sp_.mono (o := q en M) h e2⟩
  | some (.bk en, M), h => exact h
  | some (.ct en, M), h => exact h
  | some (.rt d, M), h => exact h
  | some (.ex c fs en, M), h => exact h
theorem ess_nil : EvSs X W [] sSkip := ⟨pss_imp pss_nil fun Z σ H ⟨I, M, en, S, r, k⟩ => k I H σ Ext.refl S r⟩
theorem ess_cons (h1 : EvS X W st p) (h2 : EvSs X W sts q) : EvSs X W (st :: sts) (sSeq p q) :=
  ⟨pss_imp (pss_cons h1.ps h2.pss) fun Z σ H ⟨I, M, en, S, r, k⟩ => ⟨I, M, en, S, r, Sp_.seq k⟩⟩
theorem ess_one (h1 : EvS X W st p) : EvSs X W [st] p := ⟨pss_one h1.ps⟩
def sExpr (fa : EF) : SF := fun en M => sbnd (fa en M) en fun _ M1 => some (.nx en, M1)
theorem es_expr (h : EvE X W e fa) (hs : swapsWith e none pos.line X.env = pure false := by rfl) : EvS X W (.Expr e pos) (sExpr fa) := by
  refine ⟨ps_imp (ps_expr h.pe hs) fun Z σ H h => ?_⟩
  obtain ⟨I, M, en, S, r, k⟩ := h
  exact ⟨I, M, en, S, r, k.bind r fun d M1 I1 H1 v e1 S1 r1 k1 => k1 I1 H1 σ Ext.refl S1 (r.mono e1)⟩
theorem es_doc {x j pos pos'} : EvS X W (.Expr (.Constant (.str x) j pos) pos') sSkip := ⟨ps_imp ps_doc fun Z σ H ⟨I, M, en, S, r, k⟩ => k I H σ Ext.refl S r⟩
def sRet (fa : EF) : SF := fun en M => sbnd (fa en M) en fun d M1 => some (.rt d, M1)
theorem es_ret (h : EvE X W e fa) : EvS X W (.Return (some e) pos) (sRet fa) := by
  refine ⟨ps_imp (ps_ret h.pe) fun Z σ H h => ?_⟩
  obtain ⟨I, M, en, S, r, k⟩ := h
  exact ⟨I, M, en, S, r, k.bind r fun d M1 I1 H1 v e1 S1 r1 k1 => k1 I1 H1 v Ext.refl S1 r1⟩
def sRetN : SF := fun _ M => some (.rt .non, M)
theorem es_retN : EvS X W (.Return none pos) sRetN := ⟨ps_imp ps_retN fun Z σ H ⟨I, M, en, S, r, k⟩ => k I H .non Ext.refl S rep_non⟩
theorem es_pass : EvS X W (.Pass pos) sSkip := ⟨ps_imp ps_pass fun Z σ H ⟨I, M, en, S, r, k⟩ => k I H σ Ext.refl S r⟩
def sBreak : SF := fun en M => some (.bk en, M)
def sCont : SF := fun en M => some (.ct en, M)
theorem es_break : EvS X W (.Break pos) sBreak := ⟨ps_imp ps_break fun Z σ H ⟨I, M, en, S, r, k⟩ => k I H σ Ext.refl S r⟩
theorem es_cont : EvS X W (.Continue pos) sCont := ⟨ps_imp ps_continue fun Z σ H ⟨I, M, en, S, r, k⟩ => k I H σ Ext.refl S r⟩
def sIf (t : TF) (p q : SF) : SF := fun en M => sbnd (t en M) en fun x M1 => if x = true then p en M1 else q en M1
theorem es_if (hc : EvT X W c t) (h1 : EvSs X W sts p) (h2 : EvSs X W body q) : EvS X W (.If c sts body pos) (sIf t p q) := by
  refine ⟨ps_imp (ps_if hc.pt h1.pss h2.pss) fun Z σ H h => ?_⟩
  obtain ⟨I, M, en, S, r, k⟩ := h
  refine ⟨I, M, en, S, r, k.bind r fun x M1 I1 H1 b e1 S1 r1 k1 => ?_⟩
  cases r1
  cases x with
  | true => exact (if_pos rfl).mpr ⟨I1, M1, en, S1, r.mono e1, k1⟩
  | false => exact (if_neg Bool.false_ne_true).mpr ⟨I1, M1, en, S1, r.mono e1, k1⟩
/-- target = value -/
def sAsg (fa : EF) (g : GF) : SF := fun en M => sbnd (fa en M) en fun d M1 => match g d en M1 with | some (en', M2) => some (.nx en', M2) | none => none
theorem asg_read {te : TE} (i : ∀ Q, TD K mg W (Rep K) fa σ H Q → te σ H Q) (h : TSd K mg W (sAsg fa g) Z σ H) : tAsg te (TG_ K Sl g) Z σ H := by
  obtain ⟨I, M, en, S, r, k⟩ := h
  refine i _ ⟨I, M, en, S, r, Sp_.bind k r fun d M1 I1 H1 v e1 S1 r1 k1 => ?_⟩
  refine ⟨I1, M1, en, d, S1, r.mono e1, r1, ?_⟩
  revert k1
  cases g d en M1 with
  | none => exact id
  | some z => exact fun k1 I2 H2 σ2 e2 S2 r2 _ _ => k1 I2 H2 σ2 e2 S2 r2
theorem es_asg (he : EvE X W e fa) (hg : EvG X tg Sl g) (hs : swapsWithSole [tg] e pos.line X.env = pure false := by rfl) (hw : swappedStores [tg] e X.env = pure none := by rfl)
    (h1 : (assignEach [tg] X.env).map (·.2) = [assign tg X.env] := by rfl) : EvS X W (.Assign [tg] e pos) (sAsg fa g) :=
  ⟨ps_imp (ps_asg he.pe hg.pg hs hw h1) fun _ _ _ h => asg_read (fun _ z => z) h⟩
theorem gN_read {i : Nat} {te : TE} (j : ∀ Q, TD K mg W (Rep K) fa σ H Q → te σ H Q) (h : TSd K mg W (sAsg fa (gN i)) Z σ H) : tAsg te (gName i) Z σ H := by
  obtain ⟨I, M, en, S, r, k⟩ := h
  refine j _ ⟨I, M, en, S, r, Sp_.bind k r fun d M1 I1 H1 v e1 S1 r1 k1 => ?_⟩
  exact k1 I1 H1 _ Ext.refl S1 ((r.mono e1).set i r1)
/-- name = value -/
theorem es_set {i : Nat} {x : Str} {pos' : Pos} (hN : X.N.Nodup) (hi : X.N[i]? = some x) (hx : Loc X.env.scope x) (he : EvE X W e fa) (hs : swapsWith e (some (.Name x pos')) pos.line X.env = pure false := by rfl) (hf : X.fn x = true ∨ X.env.scope.names.lookup x = some .local := by first | exact .inl rfl | exact .inr rfl | assumption) :
    EvS X W (.Assign [.Name x pos'] e pos) (sAsg fa (gN i)) := ⟨ps_imp (ps_set hN hi hx he.pe hs hf) fun _ _ _ h => gN_read (fun _ z => z) h⟩
/-- name = [.. for ..] -/
theorem es_setLc {i : Nat} {y : Str} {py spos : Pos} {scope : Scope} {own : List (Str × Nat)} (hc : X.calm = true) (hN : X.N.Nodup) (hy : X.N[i]? = some y) (hyl : X.env.scope.names.lookup y = some .local)
    (hsw : swapsWith (.ListComp elt [⟨tg, iter, ifs, 0⟩] scope pos) (some (.Name y py)) spos.line X.env = pure true) (hi : EvI X W tg iter fi) (ok : BlkOk X.N X.env.scope scope own) (hS : ∀ k ∈ Sl, k ∈ own.map (·.2))
    (hg : ∀ (s : Shared) (H : Hp) (C : Addr) (cl : List (Str × Addr)) (fp : List Addr), EvG (X.blk s H scope (compEnvC scope cl C X.env) fp) tg Sl g)
    (ht : ∀ (s : Shared) (H : Hp) (C : Addr) (cl : List (Str × Addr)) (fp : List Addr), EvTs (X.blk s H scope (compEnvC scope cl C X.env) fp) W0 ifs t)
    (he : ∀ (s : Shared) (H : Hp) (C : Addr) (cl : List (Str × Addr)) (fp : List Addr), EvE (X.blk s H scope (compEnvC scope cl C X.env) fp) W0 elt f) (hs : ∀ x, foldedSetIterable iter X.env x = pure x := by intro _; rfl) :
    EvS X W (.Assign [.Name y py] (.ListComp elt [⟨tg, iter, ifs, 0⟩] scope pos) spos) (sAsg (cLc fi g t f (own.map (·.2))) (gN i)) :=
  ⟨ps_imp (ps_setLc (g := TG_ X.K Sl g) (tt := TD X.K X.mg W0 RB t) (te := TD X.K X.mg W0 (Rep X.K) f) hc hN hy hyl hsw hi.pi ok (fun s H C cl fp => (hg s H C cl fp).pg) (fun s H C cl fp => (ht s H C cl fp).pts) (fun s H C cl fp => (he s H C cl fp).pe) hs)
    fun _ _ _ h => gN_read (fun _ z => lc_read hS z) h⟩
/-- .. a list that will be changed -/
theorem es_setLcC {i : Nat} {y : Str} {py spos : Pos} {scope : Scope} {own : List (Str × Nat)} (hc : X.calm = true) (hN : X.N.Nodup) (hy : X.N[i]? = some y) (hyl : X.env.scope.names.lookup y = some .local)
    (hsw : swapsWith (.ListComp elt [⟨tg, iter, ifs, 0⟩] scope pos) (some (.Name y py)) spos.line X.env = pure true) (hi : EvI X W tg iter fi) (ok : BlkOk X.N X.env.scope scope own) (hS : ∀ k ∈ Sl, k ∈ own.map (·.2))
    (hg : ∀ (s : Shared) (H : Hp) (C : Addr) (cl : List (Str × Addr)) (fp : List Addr), EvG (X.blk s H scope (compEnvC scope cl C X.env) fp) tg Sl g)
    (ht : ∀ (s : Shared) (H : Hp) (C : Addr) (cl : List (Str × Addr)) (fp : List Addr), EvTs (X.blk s H scope (compEnvC scope cl C X.env) fp) W0 ifs t)
    (he : ∀ (s : Shared) (H : Hp) (C : Addr) (cl : List (Str × Addr)) (fp : List Addr), EvE (X.blk s H scope (compEnvC scope cl C X.env) fp) W0 elt f) (hs : ∀ x, foldedSetIterable iter X.env x = pure x := by intro _; rfl) :
    EvS X W (.Assign [.Name y py] (.ListComp elt [⟨tg, iter, ifs, 0⟩] scope pos) spos) (sAsg (cLcC fi g t f (own.map (·.2))) (gN i)) :=
  ⟨ps_imp (ps_setLc (g := TG_ X.K Sl g) (tt := TD X.K X.mg W0 RB t) (te := TD X.K X.mg W0 (Rep X.K) f) hc hN hy hyl hsw hi.pi ok (fun s H C cl fp => (hg s H C cl fp).pg) (fun s H C cl fp => (ht s H C cl fp).pts) (fun s H C cl fp => (he s H C cl fp).pe) hs)
    fun _ _ _ h => gN_read (fun _ z => lc_readG mkC_ok hS z) h⟩
/-- x, y = a, b with plain local names (stored from the right) -/
def sPar (i j : Nat) (fr : AF) : SF := fun en M => sbnd (fr en M) en fun ds M1 => match ds with | [d, d'] => some (.nx ((en.set i (some d)).set j (some d')), M1) | _ => none
theorem es_par {i j : Nat} {x y : Str} {px py pt : Pos} {kt k2 pt2} (hc : X.calm = true) (hN : X.N.Nodup) (hi : X.N[i]? = some x) (hj : X.N[j]? = some y) (hij : i ≠ j)
    (hx : X.env.scope.names.lookup x = some .local) (hy : X.env.scope.names.lookup y = some .local) (ha : EvA X W [a, b] fr)
    (hw : swappedStores [.Tuple [.Name x px, .Name y py] kt pt] (.Tuple [a, b] k2 pt2) X.env = pure (some [x, y]))
    (hs : swapsWithSole [.Tuple [.Name x px, .Name y py] kt pt] (.Tuple [a, b] k2 pt2) pos.line X.env = pure false := by rfl) :
    EvS X W (.Assign [.Tuple [.Name x px, .Name y py] kt pt] (.Tuple [a, b] k2 pt2) pos) (sPar i j fr) := by
  refine ⟨ps_imp (ps_par hc hN hi hj hij hx hy ha.pa hw hs) fun Z σ H h => ?_⟩
  obtain ⟨I, M, en, S, r, k⟩ := h
  refine ⟨I, M, en, S, r, Sp_.bind k r fun ds M1 I1 H1 vs e1 S1 r1 k1 => ?_⟩
  revert k1
  match ds, r1 with
  | [d, d'], r1 =>
    obtain ⟨u, u', rfl, h1, h2⟩ := reps2 r1
    intro k1
    exact ⟨u, u', rfl, k1 I1 H1 _ Ext.refl S1 (((r.mono e1).set i h1).set j h2)⟩
  | [], _ => exact False.elim
  | [_], _ => exact False.elim
  | _ :: _ :: _ :: _, _ => exact False.elim
/-- name op= value -/
def sAug (i : Nat) (g : D → D → Store → Res D) (fa : EF) : SF := fun en M => match en[i]? with
  | some (some d) => sbnd (fa en M) en fun y M1 => sbnd (g d y M1) en fun z M2 => some (.nx (en.set i (some z)), M2)
  | _ => none
theorem es_aug {i : Nat} {x : Str} {op : Operator} {g : D → D → Store → Res D} {r : R2} {pos' : Pos} (hN : X.N.Nodup) (hi : X.N[i]? = some x) (hx : Loc X.env.scope x) (he : EvE X W e fa) (ho : PIp X op r) (hg : OpD X.K X.mg W g r)
    (hf : X.fn x = true ∨ X.env.scope.names.lookup x = some .local := by first | exact .inl rfl | exact .inr rfl | assumption) : EvS X W (.AugAssign (.Name x pos') op e pos) (sAug i g fa) := by
  refine ⟨ps_imp (ps_aug hN hi hx he.pe ho hf) fun Z σ H h => ?_⟩
  obtain ⟨I, M, en, S, re, k⟩ := h
  unfold sAug at k
  split at k
  · rename_i d q
    obtain ⟨v, h1, h2⟩ := re.at_ i d q
    refine ⟨v, h1, I, M, en, S, re, Sp_.bind k re fun y M1 I1 H1 u e1 S1 r1 k1 => ?_⟩
    refine hg d y M1 I1 H1 v u σ _ S1 (e1.rep h2) r1 (Sp_.bind k1 (re.mono e1) fun z M2 I2 H2 w e2 S2 r2 k2 => ?_)
    exact k2 I2 H2 _ Ext.refl S2 (((re.mono e1).mono e2).set i r2)
  · exact k.elim
end
end DL
/-! The data layer, part 8: loops, stores into lists, chains, methods. -/
namespace DL
open PySem PySem.Spec PyProof.Rows L2
section
variable {X : Cx} {W : WX} {K : PySem.W.Frag} {mg : Str → Option Value} {I I' : Ow} {H H' : Hp} {M M' : Store} {σ : L2.St} {en : Env} {Z : Ends}
variable {a b c d e o i tg iter elt : Expr} {es ifs : List Expr} {pos : Pos} {fa fb fc fd fe fo fi' : EF} {fr fi : AF} {g : GF} {t : TF} {f : EF} {Sl : List Nat} {st : Stmt} {sts body : List Stmt} {p q : SF}

/-! ### while -/
def wLoop (t : TF) (p : SF) : Nat → SF
  | 0 => fun _ _ => none
  | n + 1 => fun en M => sbnd (t en M) en fun x M1 => if x = true then (match p en M1 with
      | some (.nx en2, M2) => wLoop t p n en2 M2
      | some (.ct en2, M2) => wLoop t p n en2 M2
      | some (.bk en2, M2) => some (.nx en2, M2)
      | o => o) else some (.nx en, M1)
open Classical in
/-- while t: p — where it ends -/
noncomputable def sWhile (t : TF) (p : SF) : SF := fun en M => if h : ∃ n r, wLoop t p n en M = some r then wLoop t p (choose h) en M else none
theorem wLoop_succ {t : TF} {p : SF} : ∀ {n : Nat} {en : Env} {M : Store} {r : Fl × Store}, wLoop t p n en M = some r → wLoop t p (n + 1) en M = some r := by
  intro n
  induction n with
  | zero => intro en M r h; cases h
  | succ n ih =>
    intro en M r h
    unfold wLoop at h ⊢
    revert h
    cases t en M with
    | none => exact id
    | some z =>
      obtain ⟨o, M1⟩ := z
      cases o with
      | ex c fs => exact id
      | ok x =>
        rw [sbnd_ok, sbnd_ok]
        cases x with
        | false => exact id
        | true =>
          rw [if_pos rfl, if_pos rfl]
          cases p en M1 with
          | none => exact id
          | some z =>
            obtain ⟨o, M2⟩ := z
            cases o with
            | nx en2 => exact ih
            | ct en2 => exact ih
            | bk en2 => exact id
            | rt d => exact id
            | ex c fs en2 => exact id
theorem wLoop_add {t : TF} {p : SF} {n : Nat} {en : Env} {M : Store} {r : Fl × Store} (h : wLoop t p n en M = some r) : ∀ k, wLoop t p (n + k) en M = some r
  | 0 => h
  | k + 1 => wLoop_succ (wLoop_add h k)
theorem sWhile_eq {t : TF} {p : SF} {n : Nat} {en : Env} {M : Store} {r : Fl × Store} (h : wLoop t p n en M = some r) : sWhile t p en M = some r := by
  have hx : ∃ n r, wLoop t p n en M = some r := ⟨n, r, h⟩
  unfold sWhile
  rw [dif_pos hx]
  obtain ⟨r', h'⟩ := Classical.choose_spec hx
  have h1 := wLoop_add h (Classical.choose hx)
  have h2 := wLoop_add h' n
  rw [Nat.add_comm] at h2
  rw [h'] 
  exact h2.symm.trans h1
theorem es_while (hp : PassesOwn (model X.prog X.w) X.A X.env X.xe) (hc : EvT X W c t) (hb : EvSs X W body p) : EvS X W (.While c body [] pos) (sWhile t p) := by
  refine ⟨ps_imp (ps_while hp hc.pt hb.pss) fun Z σ H h => ?_⟩
  obtain ⟨I, M, en, S, r, k⟩ := h
  unfold sWhile at k
  split at k
  case isFalse => exact k.elim
  rename_i hx
  generalize Classical.choose hx = n at k
  refine ⟨fun m σ' H' => ∃ I' M' en', Sto X.K I' H' M' ∧ RepE X.K I' H' en' σ' ∧ Sp_ X.K X.mg W (wLoop t p m en' M') I' H' Z, ⟨n, I, M, en, S, r, k⟩, ?_⟩
  rintro m σ' H' ⟨I', M', en', S', r', k'⟩
  cases m with
  | zero => exact k'.elim
  | succ m =>
    unfold wLoop at k'
    refine ⟨I', M', en', S', r', Sp_.bind k' r' fun x M1 I1 H1 b e1 S1 rb k1 => ?_⟩
    cases rb
    cases x with
    | false =>
      rw [if_neg Bool.false_ne_true] at k1 ⊢
      exact k1 I1 H1 _ Ext.refl S1 (r'.mono e1)
    | true =>
      rw [if_pos rfl] at k1 ⊢
      refine ⟨fun σ2 H2 => ∃ I' M' en', Sto X.K I' H2 M' ∧ RepE X.K I' H2 en' σ2 ∧ Sp_ X.K X.mg W (wLoop t p m en' M') I' H2 Z, fun σ2 H2 h => ⟨m, Nat.lt_succ_self _, h⟩, I1, M1, en', S1, r'.mono e1, ?_⟩
      revert k1
      cases p en' M1 with
      | none => exact id
      | some z =>
        obtain ⟨o, M2⟩ := z
        cases o with
        | nx en2 => exact fun k1 I2 H2 σ2 e2 S2 r2 => ⟨I2, M2, en2, S2, r2, Sp_.mono k1 e2⟩
        | ct en2 => exact fun k1 I2 H2 σ2 e2 S2 r2 => ⟨I2, M2, en2, S2, r2, Sp_.mono k1 e2⟩
        | bk en2 => exact id
        | rt d => exact id
        | ex c fs en2 => exact id

/-! ### for -/
def fLoop (g : GF) (p : SF) : List D → SF
  | [] => fun en M => some (.nx en, M)
  | d :: ds => fun en M => match g d en M with
    | none => none
    | some (en1, M1) => match p en1 M1 with
      | some (.nx en2, M2) => fLoop g p ds en2 M2
      | some (.ct en2, M2) => fLoop g p ds en2 M2
      | some (.bk en2, M2) => some (.nx en2, M2)
      | o => o
def sFor (fi : AF) (g : GF) (p : SF) : SF := fun en M => sbnd (fi en M) en fun ds M1 => fLoop g p ds en M1
theorem es_for (hp : PassesOwn (model X.prog X.w) X.A X.env X.xe) (hc : X.calm = true) (hi : EvI X W tg iter fi) (hg : EvG X tg Sl g) (hb : EvSs X W body p)
    (hs : ∀ x, foldedSetIterable iter X.env x = pure x := by intro _; rfl) : EvS X W (.For tg iter body [] pos) (sFor fi g p) := by
  refine ⟨ps_imp (ps_for hp hc hi.pi hg.pg hb.pss hs) fun Z σ H h => ?_⟩
  obtain ⟨I, M, en, S, r, k⟩ := h
  refine ⟨I, M, en, S, r, Sp_.bind k r fun ds M1 I1 H1 J e1 S1 rJ k1 => ?_⟩
  refine ⟨fun i m σ' H' => i ≤ ds.length ∧ m = ds.length - i ∧ ∃ I' M' en', Ext I1 H1 I' H' ∧ Sto X.K I' H' M' ∧ RepE X.K I' H' en' σ' ∧ Sp_ X.K X.mg W (fLoop g p (ds.drop i) en' M') I' H' Z, ⟨ds.length, Nat.zero_le _, rfl, I1, M1, en, Ext.refl, S1, r.mono e1, k1⟩, ?_⟩
  rintro i m σ' H2 ⟨hi2, rfl, I2, M2, en2, e2, S2, r2, k2⟩
  obtain ⟨g1, g2⟩ := rJ I2 H2 M2 e2 S2 i
  by_cases hlt : i < ds.length
  · obtain ⟨go, yl⟩ := g1 ds[i] (List.getElem?_eq_getElem hlt)
    refine .inr ⟨go, fun σ' H' => ∃ m', m' < ds.length - i ∧ (i + 1 ≤ ds.length ∧ m' = ds.length - (i + 1) ∧ ∃ I' M' en', Ext I1 H1 I' H' ∧ Sto X.K I' H' M' ∧ RepE X.K I' H' en' σ' ∧ Sp_ X.K X.mg W (fLoop g p (ds.drop (i + 1)) en' M') I' H' Z), fun _ _ z => z, fun x H3 hy => ?_⟩
    obtain ⟨ht3, rx⟩ := yl x H3 hy
    rw [List.drop_eq_getElem_cons hlt] at k2
    have e3 : Ext I2 H2 I2 H3 := Ext.turn ht3
    refine ⟨I2, M2, en2, ds[i], S2.turn ht3, r2.mono e3, rx, ?_⟩
    unfold fLoop at k2
    revert k2
    cases q1 : g ds[i] en2 M2 with
    | none => exact id
    | some z1 =>
    obtain ⟨en3, M3⟩ := z1
    dsimp only
    intro k2 I4 H4 σ4 e4 S4 r4 l4 o4
    have e24 := e3.trans e4
    refine ⟨I4, M3, en3, S4, r4, ?_⟩
    have k4 := Sp_.mono k2 e24
    revert k4
    cases p en3 M3 with
    | none => exact id
    | some z =>
      obtain ⟨o, M5⟩ := z
      cases o with
      | nx en5 => exact fun k1 I5 H5 σ5 e5 S5 r5 => ⟨_, by omega, hlt, rfl, I5, M5, en5, (e2.trans e24).trans e5, S5, r5, Sp_.mono k1 e5⟩
      | ct en5 => exact fun k1 I5 H5 σ5 e5 S5 r5 => ⟨_, by omega, hlt, rfl, I5, M5, en5, (e2.trans e24).trans e5, S5, r5, Sp_.mono k1 e5⟩
      | bk en2 => exact id
      | rt d => exact id
      | ex c fs en2 => exact id
  · have hi3 : i = ds.length := by omega
    subst hi3
    rw [List.drop_length] at k2
    exact .inl ⟨g2 (Nat.le_refl _), k2 I2 H2 _ Ext.refl S2 r2⟩

/-! ### stores into lists -/
def gSubC (fo fi' : EF) : GF := fun d en M => match fo en M with
  | some (.ok (.cel n), M1) => match fi' en M1 with
    | some (.ok (.int k), M2) => match M2[n]? with
      | some ds => match ixN ds.length k with | some j => some (en, M2.set n (ds.set j d)) | none => none
      | none => none
    | _ => none
  | _ => none
theorem eg_sub (ho : EvE X W0 o fo) (hi : EvE X W0 i fi')
    (ha : ∀ v, assign (.Subscript o i pos) X.env v = (do
      let ov ← holding [v] (eval o X.env)
      let iv ← holding [v, ov] (eval i X.env)
      standAt pos
      holding [v, ov, iv] (setItem ov iv v)
      release [v, ov, iv] []) := by intro _; rfl) : EvG X (.Subscript o i pos) [] (gSubC fo fi') := by
  refine ⟨pg_imp (pg_sub ho.pe hi.pe set_list ha) fun v σ H Q h => ?_⟩
  obtain ⟨I, M, en, d, S, r, rd, k⟩ := h
  unfold gSubC at k
  refine ⟨I, M, en, S, r, ?_⟩
  revert k
  cases fo en M with
  | none => exact id
  | some z =>
  obtain ⟨o1, M1⟩ := z
  cases o1 with
  | ex _ _ => exact False.elim
  | ok x1 =>
  cases x1 <;> (try exact False.elim)
  rename_i n
  dsimp only
  intro k I1 H1 v1 e1 S1 r1
  simp only [Rep] at r1
  obtain ⟨l, rfl, hl⟩ := r1
  refine ⟨I1, M1, en, S1, r.mono e1, ?_⟩
  revert k
  cases fi' en M1 with
  | none => exact id
  | some z =>
  obtain ⟨o2, M2⟩ := z
  cases o2 with
  | ex _ _ => exact False.elim
  | ok x2 =>
  cases x2 <;> (try exact False.elim)
  rename_i j0
  dsimp only
  intro k I2 H2 v2 e2 S2 r2
  simp only [Rep] at r2
  subst r2
  revert k
  cases qm : M2[n]? with
  | none => exact False.elim
  | some ds =>
  dsimp only
  cases qj : ixN ds.length j0 with
  | none => exact False.elim
  | some j =>
  dsimp only
  intro k
  obtain ⟨vs, h3, h4⟩ := S2.at_ n l ds (e2.get hl) qm
  refine ⟨l, vs, j0, j, rfl, rfl, h3, by rw [← h4.length]; exact qj, ?_⟩
  have hm : l ∈ I2.c := List.mem_of_getElem? (e2.get hl).1
  exact k I2 _ σ ((e1.trans e2).trans (Ext.write hm)) (S2.write (e2.get hl) (Reps.set j ((e1.trans e2).rep rd) h4)) (((r.mono e1).mono e2).mono (Ext.write hm)) rfl fun _ _ => rfl
/-- o.append(e) as an expression -/
theorem kp_mono {α β : Type} {R : Ow → Hp → α → β → Prop} {r : Res α} {Q : β → Hp → Prop} (h : Kp K mg W R r I H σ Q) (e : Ext I H I' H') : Kp K mg W R r I' H' σ Q := by
  match r, h with
  | some (.ok x, M), h => exact fun I2 H2 b e2 => h I2 H2 b (e.trans e2)
  | some (.ex c fs, M), h => exact fun I2 H2 cls dx e2 => h I2 H2 cls dx (e.trans e2)
def cApp (fo fa : EF) : EF := fun en M => bnd (fo en M) fun x M1 => match x with
  | .cel n => if n < M1.length then bnd (fa en M1) fun y M2 => match M2[n]? with
    | some ds => if szOk (ds.length + 1) = true then some (.ok .non, M2.set n (ds ++ [y])) else none
    | none => none
    else none
  | _ => none
theorem ev_app {apos cpos : Pos} (ho : EvE X W o fo) (ha : EvE X W e fa)
    (hbase : attributeBase o "append" X.env (eval o X.env) = eval o X.env := by rfl)
    (hfew : ((backTo cpos (starEach (e :: []) X.env)).all (fun x => !x.1) && (backToKw cpos (keywordEach [] X.env)).all (fun x => x.1.isSome)
      && decide ((e :: []).length + ([] : List Keyword).length + (if ([] : List Keyword).isEmpty then 0 else 1) < 30)) = true := by rfl)
    (hline : (apos.endLine == cpos.line) = true := by rfl) (hs : starEach (e :: []) X.env = (false, eval e X.env) :: starEach [] X.env := by rfl) (hplain : (backTo cpos (starEach [] X.env)).any (·.1) = false := by rfl) :
    EvE X W (.Call (.Attribute o "append" apos) [e] [] cpos) (cApp fo fa) := by
  refine ⟨pe_imp (pe_bm PySem.F.plainAttrs_list PySem.F.slot_list_append PySem.F.type_list_append mt_append ho.pe (pa_cons ha.pe pa_nil hs) hbase hfew hline hs hplain) fun σ H Q h => ?_⟩
  obtain ⟨I, M, en, S, r, k⟩ := h
  refine ⟨I, M, en, S, r, ?_⟩
  unfold cApp at k
  revert k
  cases fo en M with
  | none => exact id
  | some z =>
  obtain ⟨o1, M1⟩ := z
  cases o1 with
  | ex c fs => exact id
  | ok x1 =>
  rw [bnd_ok]
  cases x1 <;> (try exact False.elim)
  rename_i n
  dsimp only
  by_cases hn : n < M1.length
  case neg => rw [if_neg hn]; exact False.elim
  rw [if_pos hn]
  intro k I1 H1 v1 e1 S1 r1
  have k := kp_mono k e1
  simp only [Rep] at r1
  obtain ⟨l, rfl, hl⟩ := r1
  obtain ⟨vs0, h30, h40⟩ := S1.at_ n l _ hl (List.getElem?_eq_getElem hn)
  refine ⟨.inl ⟨rfl, vs0, .inl (.inl h30)⟩, I1, M1, en, S1, r.mono e1, Kp.bind k fun y M2 I2 H2 u e2 S2 r2 k2 => ?_⟩
  split at k2
  · rename_i ds qm
    split at k2
    · rename_i qs
      obtain ⟨vs, h3, h4⟩ := S2.at_ n l ds (e2.get hl) qm
      have hm : l ∈ I2.c := List.mem_of_getElem? (e2.get hl).1
      refine ⟨l, vs, u, rfl, rfl, h3, ?_, ?_⟩
      · have := szOk_ok qs
        rw [← h4.length]; omega
      · exact k2.ok' (Ext.write hm) (S2.write (e2.get hl) (h4.append (.one r2))) rep_non
    · exact k2.elim
  · exact k2.elim
end
end DL
/-! The data layer, part 9: chains of comparisons, swaps of a list's items, membership, bit lengths, branches. -/
namespace DL
open PySem PySem.Spec PyProof.Rows L2
section
variable {X : Cx} {W : WX} {K : PySem.W.Frag} {mg : Str → Option Value} {I I' : Ow} {H H' : Hp} {M M' : Store} {σ : L2.St} {en : Env} {Z : Ends}
variable {a b c d e o i tg iter elt : Expr} {es ifs : List Expr} {pos : Pos} {fa fb fc fd fe fo fi' : EF} {fr fi : AF} {g g' g'' : D → D → Store → Res D} {t : TF} {f : EF} {Sl : List Nat} {st : Stmt} {sts body : List Stmt} {p q : SF} {r r' r'' : R2}

/-! ### chains -/
def cCh2 (g g' : D → D → Store → Res D) (fa fb fc : EF) : EF := fun en M => bnd (fa en M) fun x M1 => bnd (fb en M1) fun y M2 => bnd (g x y M2) fun z M3 => match z with
  | .bl true => bnd (fc en M3) fun w M4 => g' y w M4
  | .bl false => some (.ok (.bl false), M3)
  | _ => none
def cCh3 (g g' g'' : D → D → Store → Res D) (fa fb fc fd : EF) : EF := fun en M => bnd (fa en M) fun x M1 => bnd (fb en M1) fun y M2 => bnd (g x y M2) fun z M3 => match z with
  | .bl true => bnd (fc en M3) fun w M4 => bnd (g' y w M4) fun z' M5 => (match z' with
    | .bl true => bnd (fd en M5) fun u M6 => g'' w u M6
    | .bl false => some (.ok (.bl false), M5)
    | _ => none)
  | .bl false => some (.ok (.bl false), M3)
  | _ => none
theorem ev_ch2 {op op' : CmpOp} (ho : OpR X (compareOp op) r) (hg : OpD X.K X.mg W g r) (ho' : OpR X (compareOp op') r') (hg' : OpD X.K X.mg W g' r') (ha : EvE X W a fa) (hb : EvE X W b fb) (hc : EvE X W c fc)
    (hm : lastMarks [op, op'] [b, c] = false := by with_unfolding_all rfl) : EvE X W (.Compare a [op, op'] [b, c] pos) (cCh2 g g' fa fb fc) := by
  refine ⟨pe_imp (pe_chain ho ho' ha.pe hb.pe hc.pe hm) fun σ H Q h => ?_⟩
  obtain ⟨I, M, en, S, re, k⟩ := h
  refine ⟨I, M, en, S, re, k.bind fun x M1 I1 H1 u e1 S1 r1 k1 => ?_⟩
  refine ⟨I1, M1, en, S1, re.mono e1, k1.bind fun y M2 I2 H2 v e2 S2 r2 k2 => ?_⟩
  refine hg x y M2 I2 H2 u v σ _ S2 (e2.rep r1) r2 (k2.bind fun z M3 I3 H3 w e3 S3 r3 k3 => ?_)
  cases z <;> (try exact k3.elim)
  rename_i bb
  simp only [Rep] at r3
  refine ⟨bb, r3, ?_⟩
  cases bb with
  | false => exact (if_neg Bool.false_ne_true).mpr (k3.ok S3 rep_bl)
  | true =>
    refine (if_pos rfl).mpr ⟨I3, M3, en, S3, ((re.mono e1).mono e2).mono e3, Kp.bind k3 fun w' M4 I4 H4 w2 e4 S4 r4 k4 => ?_⟩
    exact hg' y w' M4 I4 H4 v w2 σ _ S4 (e4.rep (e3.rep r2)) r4 k4
def tChain3 (r r' r'' : R2) (ta tb tc td : TE) : TE := fun σ H Q => ta σ H fun x H1 => tb σ H1 fun y H2 => r x y H2 fun z H3 => ∃ k, z = .bl k ∧
  (if k = true then tc σ H3 fun w' H4 => r' y w' H4 fun z' H5 => ∃ k', z' = .bl k' ∧ (if k' = true then td σ H5 fun u' H6 => r'' w' u' H6 Q else Q (.bl false) H5) else Q (.bl false) H3)
theorem pe_chain3 {op op' op'' : CmpOp} {ta tb tc td : TE} (ho : OpR X (compareOp op) r) (ho' : OpR X (compareOp op') r') (ho'' : OpR X (compareOp op'') r'') (ha : PE X a ta) (hb : PE X b tb) (hc : PE X c tc) (hd : PE X d td)
    (hm : lastMarks [op, op', op''] [b, c, d] = false := by with_unfolding_all rfl) : PE X (.Compare a [op, op', op''] [b, c, d] pos) (tChain3 r r' r'' ta tb tc td) := by
  refine ⟨fun pins s σ H Q I h => ?_⟩
  refine Compare_chain (thn (ha.run pins s σ H _ I h) fun v s1 ⟨x, H1, I1, r1, q1⟩ => chain_link (thn (hb.run pins s1 σ H1 _ I1 q1) fun u s2 ⟨y, H2, I2, r2, q2⟩ =>
    thn (ho pins s2 σ H2 x y v u _ I2 r1 r2 q2) fun d s3 ⟨z, H3, I3, r3, k, e, q3⟩ => ?_)) hm
  subst e
  cases r3
  refine wpAny_truthy_bool ?_
  cases k with
  | false => rw [if_neg Bool.false_ne_true] at q3 ⊢; exact ⟨.bl false, H3, I3, rfl, q3⟩
  | true =>
    rw [if_pos rfl] at q3 ⊢
    refine chain_link (thn (hc.run pins s3 σ H3 _ I3 q3) fun w' s4 ⟨z', H4, I4, r4, q4⟩ => thn (ho' pins s4 σ H4 y z' u w' _ I4 r2 r4 q4) fun d' s5 ⟨z2, H5, I5, r5, k2, e2, q5⟩ => ?_)
    subst e2
    cases r5
    refine wpAny_truthy_bool ?_
    cases k2 with
    | false => rw [if_neg Bool.false_ne_true] at q5 ⊢; exact ⟨.bl false, H5, I5, rfl, q5⟩
    | true =>
      rw [if_pos rfl] at q5 ⊢
      exact chain_last (thn (hd.run pins s5 σ H5 _ I5 q5) fun w6 s6 ⟨z6, H6, I6, r6, q6⟩ => ho'' pins s6 σ H6 z' z6 w' w6 Q I6 r4 r6 q6)
theorem ev_ch3 {op op' op'' : CmpOp} (ho : OpR X (compareOp op) r) (hg : OpD X.K X.mg W g r) (ho' : OpR X (compareOp op') r') (hg' : OpD X.K X.mg W g' r') (ho'' : OpR X (compareOp op'') r'') (hg'' : OpD X.K X.mg W g'' r'') (ha : EvE X W a fa) (hb : EvE X W b fb) (hc : EvE X W c fc) (hd : EvE X W d fd)
    (hm : lastMarks [op, op', op''] [b, c, d] = false := by with_unfolding_all rfl) : EvE X W (.Compare a [op, op', op''] [b, c, d] pos) (cCh3 g g' g'' fa fb fc fd) := by
  refine ⟨pe_imp (pe_chain3 ho ho' ho'' ha.pe hb.pe hc.pe hd.pe hm) fun σ H Q h => ?_⟩
  obtain ⟨I, M, en, S, re, k⟩ := h
  refine ⟨I, M, en, S, re, k.bind fun x M1 I1 H1 u e1 S1 r1 k1 => ?_⟩
  refine ⟨I1, M1, en, S1, re.mono e1, k1.bind fun y M2 I2 H2 v e2 S2 r2 k2 => ?_⟩
  refine hg x y M2 I2 H2 u v σ _ S2 (e2.rep r1) r2 (k2.bind fun z M3 I3 H3 w e3 S3 r3 k3 => ?_)
  cases z <;> (try exact k3.elim)
  rename_i bb
  simp only [Rep] at r3
  refine ⟨bb, r3, ?_⟩
  cases bb with
  | false => exact (if_neg Bool.false_ne_true).mpr (k3.ok S3 rep_bl)
  | true =>
    refine (if_pos rfl).mpr ⟨I3, M3, en, S3, ((re.mono e1).mono e2).mono e3, Kp.bind k3 fun w' M4 I4 H4 w2 e4 S4 r4 k4 => ?_⟩
    refine hg' y w' M4 I4 H4 v w2 σ _ S4 (e4.rep (e3.rep r2)) r4 (k4.bind fun z5 M5 I5 H5 w5 e5 S5 r5 k5 => ?_)
    cases z5 <;> (try exact k5.elim)
    rename_i b5
    simp only [Rep] at r5
    refine ⟨b5, r5, ?_⟩
    cases b5 with
    | false => exact (if_neg Bool.false_ne_true).mpr (k5.ok S5 rep_bl)
    | true =>
      refine (if_pos rfl).mpr ⟨I5, M5, en, S5, (((re.mono e1).mono e2).mono e3 |>.mono e4).mono e5, Kp.bind k5 fun w6 M6 I6 H6 w7 e6 S6 r6 k6 => ?_⟩
      exact hg'' w' w6 M6 I6 H6 w2 w7 σ _ S6 (e6.rep (e5.rep r4)) r6 k6

/-! ### bit lengths -/
def cBits (fo : EF) : EF := fun en M => bnd (fo en M) fun x M1 => match x with | .int i => some (.ok (.int (Builtin.Int.intBits i : Nat)), M1) | _ => none
theorem ev_bits {apos pos : Pos} (ho : EvE X W o fo) (hbase : attributeBase o "bit_length" X.env (eval o X.env) = eval o X.env := by rfl) (hline : (apos.endLine == pos.line) = true := by rfl) : EvE X W (.Call (.Attribute o "bit_length" apos) [] [] pos) (cBits fo) := by
  refine ⟨pe_imp (pe_bits ho.pe hbase hline) fun σ H Q h => ?_⟩
  obtain ⟨I, M, en, S, r, k⟩ := h
  refine ⟨I, M, en, S, r, k.bind fun x M1 I1 H1 u e1 S1 r1 k1 => ?_⟩
  cases x <;> (try exact k1.elim)
  simp only [Rep] at r1
  exact ⟨_, r1, k1.ok S1 rep_int⟩
end
end DL
/-! The data layer, part 10: functions. -/
namespace DL
open PySem PySem.Spec PyProof.Rows L2
abbrev MF := List D → Store → Res D
mutual
/-- the lists of the store that d names lie below n -/
def clo (n : Nat) : D → Bool
  | .cel j => decide (j < n)
  | .dic j => decide (j < n)
  | .tup ds => clos n ds
  | .imm ds => clos n ds
  | .scr ds => clos n ds
  | _ => true
def clos (n : Nat) : List D → Bool
  | [] => true
  | d :: ds => clo n d && clos n ds
end
/-- what remains of the lists of a call: those that stood before -/
def Tidy (M M' : Store) : Prop := ∀ j ds, j < M.length → M'[j]? = some ds → M[j]? = some ds ∨ clos M.length ds = true
open Classical in
noncomputable def gcF (M : Store) (o : Res D) : Res D := match o with
  | some (.ok d, M') => if Tidy M M' then (match d with
      | .cel j => if j < M.length then some (.ok d, M'.take M.length) else (match M'[j]? with
        | some ds => if clos M.length ds = true then some (.ok (.imm ds), M'.take M.length) else none
        | none => none)
      | d => if clo M.length d = true then some (.ok d, M'.take M.length) else none) else none
  | some (.ex c fs, M') => if Tidy M M' ∧ clos M.length (fs.map (·.2)) = true then some (.ex c fs, M'.take M.length) else none
  | none => none
def fin (o : SRes) : Res D := match o with
  | some (.nx _, M) => some (.ok .non, M)
  | some (.rt d, M) => some (.ok d, M)
  | some (.ex c fs _, M) => some (.ex c fs, M)
  | _ => none
def start0 (n : Nat) (ds : List D) : Env := ds.map some ++ List.replicate (n - ds.length) none
/-- a def with np parameters and n names, by its body -/
noncomputable def mDef (np n : Nat) (body : SF) : MF := fun ds M => if ds.length = np then gcF M (fin (body (start0 n ds) M)) else none
section
variable {K : PySem.W.Frag} {mg : Str → Option Value} {I I' : Ow} {H H' : Hp} {M M' : Store}
/-! ### fewer lists -/
theorem Free.less (hc : ∃ l, I.c = I'.c ++ l) (hp : ∀ a ∈ I'.p, a ∈ I.p) {a : Addr} (h : I.Free a) : I'.Free a := by
  obtain ⟨l, hl⟩ := hc
  exact ⟨fun z => h.1 (by rw [hl]; exact List.mem_append_left _ z), fun z => h.2 (hp a z)⟩
mutual
theorem Rep.less {n : Nat} (hn : I'.c.length = n) (hc : ∃ l, I.c = I'.c ++ l) (hp : ∀ a ∈ I'.p, a ∈ I.p) (hd : ∀ a ∈ I'.c, (a ∈ I.d ↔ a ∈ I'.d)) : ∀ {d : D} {v : V}, Rep K I H d v → clo n d = true → Rep K I' H d v
  | .non, v, h, _ => by simpa only [Rep] using h
  | .bl _, v, h, _ => by simpa only [Rep] using h
  | .int _, v, h, _ => by simpa only [Rep] using h
  | .str _, v, h, _ => by simpa only [Rep] using h
  | .ty _, v, h, _ => by simpa only [Rep] using h
  | .tup ds, v, h, q => by
    simp only [Rep] at h ⊢
    simp only [clo] at q
    obtain ⟨a, vs, h1, h2, h3⟩ := h
    exact ⟨a, vs, h1, h2.imp (fun h => ⟨h.1, Free.less hc hp h.2⟩) id, Reps.less hn hc hp hd h3 q⟩
  | .imm ds, v, h, q => by
    simp only [Rep] at h ⊢
    simp only [clo] at q
    obtain ⟨a, vs, h1, h2, h3⟩ := h
    exact ⟨a, vs, h1, ⟨h2.1, Free.less hc hp h2.2⟩, Reps.less hn hc hp hd h3 q⟩
  | .scr ds, v, h, q => by
    simp only [Rep] at h ⊢
    simp only [clo] at q
    obtain ⟨a, vs, h1, h2, h3⟩ := h
    exact ⟨a, vs, h1, h2.imp (fun h => ⟨h.1, Free.less hc hp h.2⟩) id, Reps.less hn hc hp hd h3 q⟩
  | .cel j, v, h, q => by
    simp only [Rep] at h ⊢
    simp only [clo, decide_eq_true_eq] at q
    obtain ⟨a, h1, h2, h3⟩ := h
    obtain ⟨l, hl⟩ := hc
    rw [hl, List.getElem?_append_left (by rw [hn]; exact q)] at h2
    exact ⟨a, h1, h2, fun z => h3 ((hd a (List.mem_of_getElem? h2)).mpr z)⟩
  | .dic j, v, h, q => by
    simp only [Rep] at h ⊢
    simp only [clo, decide_eq_true_eq] at q
    obtain ⟨a, h1, h2, h3⟩ := h
    obtain ⟨l, hl⟩ := hc
    rw [hl, List.getElem?_append_left (by rw [hn]; exact q)] at h2
    exact ⟨a, h1, h2, (hd a (List.mem_of_getElem? h2)).mp h3⟩
theorem Reps.less {n : Nat} (hn : I'.c.length = n) (hc : ∃ l, I.c = I'.c ++ l) (hp : ∀ a ∈ I'.p, a ∈ I.p) (hd : ∀ a ∈ I'.c, (a ∈ I.d ↔ a ∈ I'.d)) : ∀ {ds : List D} {vs : List V}, Reps K I H ds vs → clos n ds = true → Reps K I' H ds vs
  | [], vs, h, _ => by simpa only [Reps] using h
  | d :: ds, vs, h, q => by
    simp only [Reps] at h ⊢
    simp only [clos, Bool.and_eq_true] at q
    obtain ⟨v, r, h1, h2, h3⟩ := h
    exact ⟨v, r, h1, Rep.less hn hc hp hd h2 q.1, Reps.less hn hc hp hd h3 q.2⟩
end
mutual
theorem Rep.clo {n : Nat} (hn : I.c.length = n) : ∀ {d : D} {v : V}, Rep K I H d v → clo n d = true
  | .non, v, h => rfl
  | .bl _, v, h => rfl
  | .int _, v, h => rfl
  | .str _, v, h => rfl
  | .ty _, v, h => rfl
  | .tup ds, v, h => by
    simp only [Rep] at h
    obtain ⟨a, vs, _, _, h3⟩ := h
    simp only [DL.clo]
    exact Reps.clo hn h3
  | .imm ds, v, h => by
    simp only [Rep] at h
    obtain ⟨a, vs, _, _, h3⟩ := h
    simp only [DL.clo]
    exact Reps.clo hn h3
  | .scr ds, v, h => by
    simp only [Rep] at h
    obtain ⟨a, vs, _, _, h3⟩ := h
    simp only [DL.clo]
    exact Reps.clo hn h3
  | .cel j, v, h => by
    simp only [Rep] at h
    obtain ⟨a, _, h2⟩ := h
    simp only [DL.clo, decide_eq_true_eq]
    rw [← hn]
    exact (List.getElem?_eq_some_iff.mp h2.1).1
  | .dic j, v, h => by
    simp only [Rep] at h
    obtain ⟨a, _, h2⟩ := h
    simp only [DL.clo, decide_eq_true_eq]
    rw [← hn]
    exact (List.getElem?_eq_some_iff.mp h2.1).1
theorem Reps.clo {n : Nat} (hn : I.c.length = n) : ∀ {ds : List D} {vs : List V}, Reps K I H ds vs → clos n ds = true
  | [], vs, h => rfl
  | d :: ds, vs, h => by
    simp only [Reps] at h
    obtain ⟨v, r, _, h2, h3⟩ := h
    simp only [clos, Bool.and_eq_true]
    exact ⟨Rep.clo hn h2, Reps.clo hn h3⟩
end
theorem RepKV.less {n : Nat} (hn : I'.c.length = n) (hc : ∃ l, I.c = I'.c ++ l) (hp : ∀ a ∈ I'.p, a ∈ I.p) (hd : ∀ a ∈ I'.c, (a ∈ I.d ↔ a ∈ I'.d)) : ∀ {ds : List D} {kvs : List KE3}, RepKV K I H ds kvs → clos n ds = true → RepKV K I' H ds kvs
  | [], _, h, _ => h
  | _ :: _, _, ⟨k, x, nk, b, u, v, r, h1, h2, h3, h4, h5, h6, h7⟩, q => by
    subst h1
    simp only [clos, clo, Bool.and_eq_true] at q
    exact ⟨k, x, nk, b, u, v, r, rfl, h2, h3, Rep.less hn hc hp hd h4 q.1.1, Rep.less hn hc hp hd h5 q.1.2.1, h6, RepKV.less hn hc hp hd h7 q.2⟩
theorem RepKV.clo {n : Nat} (hn : I.c.length = n) : ∀ {ds : List D} {kvs : List KE3}, RepKV K I H ds kvs → clos n ds = true
  | [], _, _ => rfl
  | _ :: _, _, ⟨k, x, nk, b, u, v, r, h1, h2, h3, h4, h5, h6, h7⟩ => by
    subst h1
    simp only [clos, DL.clo, Bool.and_eq_true]
    exact ⟨⟨Rep.clo hn h4, Rep.clo hn h5, trivial⟩, RepKV.clo hn h7⟩
/-- the entry's ownership, the end's heap -/
theorem Sto.back (S : Sto K I H M) (e : Ext I H I' H') (S' : Sto K I' H' M') (t : Tidy M M') : Sto K I H' (M'.take M.length) ∧ Ext I H I H' := by
  have hc := e.pre
  obtain ⟨l, hl, hl2⟩ := hc
  have hle : M.length ≤ M'.length := by rw [← S.len, ← S'.len, hl, List.length_append]; omega
  have hp : ∀ a ∈ I.p, a ∈ I'.p := fun a ha => e.mem ha
  refine ⟨⟨by rw [S.len, List.length_take]; omega, S.nodup, fun n a ds h1 h2 => ?_, fun n a ds h1 h2 => ?_, S.sub, fun a ha => ?_⟩, ⟨⟨[], rfl, by simp⟩, ⟨[], by simp, by simp⟩, e.keep, e.trk, fun _ _ => Iff.rfl⟩⟩
  · have hn : n < M.length := by rw [← S.len]; exact (List.getElem?_eq_some_iff.mp h1.1).1
    rw [List.getElem?_take_of_lt hn] at h2
    obtain ⟨vs, h3, h4⟩ := S'.at_ n a ds (e.get h1) h2
    refine ⟨vs, h3, h4.less S.len ⟨l, hl⟩ hp e.dic ?_⟩
    rcases t n ds hn h2 with q | q
    · obtain ⟨us, _, r⟩ := S.at_ n a ds h1 q
      exact Reps.clo S.len r
    · exact q
  · have hn : n < M.length := by rw [← S.len]; exact (List.getElem?_eq_some_iff.mp h1.1).1
    rw [List.getElem?_take_of_lt hn] at h2
    obtain ⟨vs, h3, h4⟩ := S'.atD n a ds (e.getD h1) h2
    refine ⟨vs, h3, h4.less S.len ⟨l, hl⟩ hp e.dic ?_⟩
    rcases t n ds hn h2 with q | q
    · obtain ⟨us, _, r⟩ := S.atD n a ds h1 q
      exact RepKV.clo S.len r
    · exact q
  · obtain ⟨h1, o, h2⟩ := S.dis a ha
    exact ⟨h1, e.trk a o h2⟩
theorem Tidy.none {M : Store} {L : Store} : Tidy M (M ++ L) := fun j ds hj h => .inl (by rwa [List.getElem?_append_left hj] at h)

/-! ### the promise of a def -/
def spM (K : PySem.W.Frag) (mg : Str → Option Value) (m : MF) (vs : List V) (H : Hp) (Q : VK) (E : XK) : Prop :=
  ∃ I M ds, Sto K I H M ∧ Reps K I H ds vs ∧ Kp K mg (fun c d _ H => E c d H) (Rep K) (m ds M) I H [] Q
structure FnG (P : Program) (w : World) (K : PySem.W.Frag) (mg : Str → Option Value) (base : Heap) (k : Nat) (f : Addr) (fd : FuncData) (ps : List Str) (m : MF) : Prop where
  len : ∀ ds M, m ds M ≠ none → ds.length = ps.length
  run : ∀ (A : Around) (outer : List PySem.Env) (s : Shared) (H : Hp) (args : Args) (us : List Value) (vs : List V) (Q : VK) (E : XK), Room k A → A.guards = some [] → Env0 P w K mg base A outer s H → BindsTo s fd args (ps.zip us) → Vals vs us → spM K mg m vs H Q E →
    codeAny (model P w) A (.call (.ref f) args) (CR (L2.CX P w) outer P w H s Q E) s
theorem FnG.mono {P : Program} {w : World} {base : Heap} {j k : Nat} {f : Addr} {fd : FuncData} {ps : List Str} {m : MF} (F : FnG P w K mg base j f fd ps m) (h : j ≤ k) : FnG P w K mg base k f fd ps m :=
  ⟨F.len, fun A outer s H args us vs Q E hr => F.run A outer s H args us vs Q E (hr.mono h)⟩
theorem spM_len {P : Program} {w : World} {base : Heap} {k : Nat} {f : Addr} {fd : FuncData} {ps : List Str} {m : MF} (F : FnG P w K mg base k f fd ps m) {vs : List V} {Q : VK} {E : XK} (h : spM K mg m vs H Q E) : vs.length = ps.length := by
  obtain ⟨I, M, ds, S, r, k⟩ := h
  rw [← r.length]
  refine F.len ds M fun z => ?_
  rw [z] at k
  exact k
theorem kp_gc {W : WX} {σ : L2.St} {o : Res D} {Q : VK} (S : Sto K I H M) (h : Kp K mg W (Rep K) (gcF M o) I H σ Q) : Kp K mg W (Rep K) o I H σ Q := by
  match o, h with
  | none, h => exact h.elim
  | some (.ex c fs, M'), h =>
    intro I' H' cls dx e S' x
    unfold gcF at h
    dsimp only at h
    split at h
    · rename_i q
      obtain ⟨b1, b2⟩ := S.back e S' q.1
      obtain ⟨l, hl, hl2⟩ := e.pre
      have hp : ∀ a ∈ I.p, a ∈ I'.p := fun a ha => e.mem ha
      obtain ⟨C, d, vs, x1, x2, x3, x4, x5, x6⟩ := x
      exact h I H' cls dx b2 b1 ⟨C, d, vs, x1, x2, x3, x4, Free.less ⟨l, hl⟩ hp x5, x6.less S.len ⟨l, hl⟩ hp e.dic q.2⟩
    · exact h.elim
  | some (.ok d, M'), h =>
    intro I' H' v e S' r
    unfold gcF at h
    dsimp only at h
    split at h
    case isFalse => exact h.elim
    rename_i t
    obtain ⟨b1, b2⟩ := S.back e S' t
    obtain ⟨l, hl, hl2⟩ := e.pre
    have hp : ∀ a ∈ I.p, a ∈ I'.p := fun a ha => e.mem ha
    split at h
    · rename_i j
      split at h
      · rename_i hj
        exact h I H' v b2 b1 (r.less S.len ⟨l, hl⟩ hp e.dic (by simp only [clo, decide_eq_true_eq]; exact hj))
      · rename_i hj
        split at h
        · rename_i ds q
          split at h
          · rename_i q2
            simp only [Rep] at r
            obtain ⟨a, rfl, ha⟩ := r
            obtain ⟨vs, h3, h4⟩ := S'.at_ j a ds ha q
            refine h I H' _ b2 b1 ?_
            simp only [Rep]
            refine ⟨a, vs, rfl, ⟨h3, fun z => ?_, fun z => ?_⟩, h4.less S.len ⟨l, hl⟩ hp e.dic q2⟩
            · obtain ⟨i, hi, e1⟩ := List.mem_iff_getElem.mp z
              have e2 : I.c[i]? = some a := by rw [List.getElem?_eq_getElem hi, e1]
              have := nd_ix S'.nodup (e.get0 e2) ha.1
              rw [← S.len] at hj
              omega
            · exact (S'.dis a (hp a z)).1 (List.mem_of_getElem? ha.1)
          · exact h.elim
        · exact h.elim
    · split at h
      · rename_i q
        exact h I H' v b2 b1 (r.less S.len ⟨l, hl⟩ hp e.dic q)
      · exact h.elim
end
end DL
/-! The data layer, part 11: a def by its body; calls. -/
namespace DL
open PySem PySem.Spec PyProof.Rows L2
/-- what a body may let out, by what its caller wants -/
abbrev WXof (E : XK) : WX := fun c d _ H => E c d H
section
variable {P : Program} {w : World} {K : PySem.W.Frag} {mg : Str → Option Value} {base : Heap} {I I' : Ow} {H H' : Hp} {M M' : Store}
theorem kp_fin {E : XK} {o : SRes} {Q : VK} {σ : L2.St} (h : Kp K mg (WXof E) (Rep K) (fin o) I H [] Q) : Sp_ K mg (WXof E) o I H { nx := fun _ H' => Q .non H', rt := Q } := by
  match o, h with
  | some (.nx en, M), h => exact fun I' H' σ' e S r => h I' H' .non e S rep_non
  | some (.rt d, M), h => exact fun I' H' v e S r => h I' H' v e S r
  | some (.ex c fs en, M), h => exact fun I' H' σ' cls dx e S r x => h I' H' cls dx e S x
theorem repE_start {N : List Str} {ds : List D} {vs : List V} (r : Reps K I H ds vs) (hl : ds.length ≤ N.length) : RepE K I H (start0 N.length ds) (L2.start N vs) := by
  have hv := r.length
  refine ⟨by unfold start0 L2.start; simp [hv], fun i d h => ?_⟩
  unfold start0 at h
  by_cases hi : i < ds.length
  · rw [List.getElem?_append_left (by simpa using hi), List.getElem?_map] at h
    obtain ⟨d', h1, h2⟩ := Option.map_eq_some_iff.mp h
    cases h2
    obtain ⟨v, h3, h4⟩ := r.get' h1
    refine ⟨v, ?_, h4⟩
    unfold L2.start
    rw [List.getElem?_append_left (by simp; omega), List.getElem?_map, h3]
    rfl
  · rw [List.getElem?_append_right (by simpa using hi), List.getElem?_replicate] at h
    split at h <;> cases h
/-- the rule for a def -/
theorem fnG_of {x qual : Str} {st : Stmt} {f : Addr} {fd : FuncData} {N ps : List Str} {k np n : Nat} {body : SF} (F : Fun K x qual st f fd) (S : FnScope N ps (defScope st)) (hnp : ps.length = np) (hn : N.length = n) (hle : ps.length ≤ N.length)
    (hbody : ∀ (cdv : Value) (A : Around) (outer : List PySem.Env) (s : Shared) (H : Hp) (E : XK), Room k (A.deeper (envOfC qual (defScope st) s.heap.objs.size f cdv)) → A.guards = some [] →
      EvSs (cxOf (L2.CX P w) P w K mg base N qual (defScope st) f cdv A outer s H E) (WXof E) (defBody st) body) : FnG P w K mg base (k + 1) f fd ps (mDef np n body) := by
  subst hnp hn
  obtain ⟨oc, od, kV, doc, pm, an, cdv, ct, osl, rfl, lk, hcd⟩ := F.ex
  have hlen : ∀ ds M, mDef ps.length N.length body ds M ≠ none → ds.length = ps.length := fun ds M h => by
    unfold mDef at h
    split at h
    · assumption
    · exact absurd rfl h
  refine ⟨hlen, ?_⟩
  intro A outer s H args us vs Q E room hg e0 hb rv hsp
  obtain ⟨I, M, ds, S0, rd, kp⟩ := hsp
  have hds : ds.length = ps.length := hlen ds M fun z => by rw [z] at kp; exact kp
  have hvs : vs.length = ps.length := by rw [← rd.length]; exact hds
  have inK : K.In s.heap := e0.mod.kin.keeps fun b o e => (e0.bs b o e).1
  have nolim : s.heap.NoLimit := e0.mod.nolimit.keeps fun b o e => (e0.bs b o e).1
  refine codeAny_call_function room.depth (inK _ _ lk) rfl S.co S.gen rfl (PySem.W.codeRec_of inK hcd) (hb _ _ _ _ ?_)
  refine wpAny_newFunctionEnv_cells S.kind (fun y hy => ?_) fun env he s1 x => ?_
  · obtain ⟨n, v⟩ := y
    have hm := S.par n (List.of_mem_zip hy).1
    rcases hm with q | q
    · left; exact q
    · right; exact ⟨q, PySem.W.cellsFrom_some _ _ _ (.inl q)⟩
  subst he
  refine ⟨nolim.keeps x.toInCall.keep, codeAny_func ?_⟩
  have hbd := hbody cdv A outer s H E (room.deeper _) hg
  have Iv := inv_start (CX := L2.CX P w) (E := E) S room.hd e0 hvs rv x
  have run := hbd.pss.run [] s1 (L2.start N vs) H { nx := fun _ H' => Q .non H', rt := Q } Iv ⟨I, M, start0 N.length ds, S0, repE_start rd (by rw [hds]; exact hle), by
    unfold mDef at kp
    rw [if_pos hds] at kp
    exact kp_fin (σ := []) (kp_gc S0 kp)⟩
  refine wpAny_mono run (fun fl s' hs => ?_) fun e s' hs => hs
  cases fl with
  | ret u =>
    obtain ⟨v, σ', H', J, rv', q⟩ := hs
    exact ⟨v, H', J.os, J.bare, J.base, J.hok, rv', q⟩
  | next =>
    obtain ⟨σ', H', J, q⟩ := hs
    exact ⟨V.non, H', J.os, J.bare, J.base, J.hok, rfl, q⟩
  | brk =>
    obtain ⟨_, _, _, z⟩ := hs
    exact z.elim
  | cont =>
    obtain ⟨_, _, _, z⟩ := hs
    exact z.elim
end
section
variable {X : Cx} {W : WX} {pos p : Pos} {e : Expr} {es : List Expr} {fr : AF} {k : Nat} {f : Addr} {fd : FuncData} {ps : List Str} {m : MF} {x : Str}
theorem kp_at {K : PySem.W.Frag} {mg : Str → Option Value} {α β : Type} {R : Ow → Hp → α → β → Prop} {I : Ow} {H : Hp} {o : Res α} {σ : L2.St} {Q : β → Hp → Prop} (h : Kp K mg W R o I H σ Q) : Kp K mg (fun c d _ H => W c d σ H) R o I H [] Q := by
  match o, h with
  | some (.ok a, M), h => exact h
  | some (.ex c fs, M), h => exact h
theorem run_G {pins : List (Addr × Obj)} {σ : L2.St} {H : Hp} {s : Shared} {Q : VK} {us : List Value} {vs : List V} (F : FnG X.prog X.w X.K X.mg X.base k f fd ps m) (hr : Room k X.A) (hgd : X.A.guards = some []) (hb : Binds X.K fd ps []) (tk : Takes X W)
    (I : Inv X pins σ H s) (r : Vals vs us) (h : spM X.K X.mg m vs H Q (WE W σ)) : wpAny (model X.prog X.w) X.A (call (.ref f) us) (EP X pins σ Q) X.xe s := by
  have hl : us.length = ps.length := by rw [← r.length]; exact spM_len F h
  have b := hb s us I.kIn (by rw [List.append_nil]; exact hl)
  rw [List.append_nil] at b
  refine wpAny_call (codeAny_mono (F.run X.A X.stack s H ⟨us, []⟩ us vs Q (WE W σ) hr hgd I.env0 b r h) fun r s' hq => ?_)
  cases r with
  | error e => exact passAt tk σ pins H s e s' I hq
  | ok fl =>
    cases fl with
    | ret u => exact I.after hq
    | next => exact hq.elim
    | brk => exact hq.elim
    | cont => exact hq.elim
def tCallG (K : PySem.W.Frag) (mg : Str → Option Value) (W : WX) (m : MF) (t : TA) : TE := fun σ H Q => t σ H fun vs H1 => spM K mg m vs H1 Q (WE W σ)
theorem ev_call (F : FnG X.prog X.w X.K X.mg X.base k f fd ps m) (hr : Room k X.A) (hgd : X.A.guards = some []) (hg : Gl X x) (hm : X.mg x = some (.ref f)) (hk : PySem.W.keepIn X.K (.ref f) = true) (hb : Binds X.K fd ps []) (tk : Takes X W)
    (ha : EvA X W (e :: es) fr) (hdb : (x == ("__debug__" : Str)) = false := by decide) (he : starEach (e :: es) X.env = (false, eval e X.env) :: starEach es X.env := by rfl) (hpl : (backTo pos (starEach es X.env)).any (·.1) = false := by rfl) :
    EvE X W (.Call (.Name x p) (e :: es) [] pos) (cCall m fr) := by
  have hp : PE X (.Call (.Name x p) (e :: es) [] pos) (tCallG X.K X.mg W m (TD X.K X.mg W (Reps X.K) fr)) := by
    refine ⟨fun pins s σ H Q I h => ?_⟩
    refine wpAny_Call_Name_kw (ld_glob I hg hm ?_ hdb)
    refine PySem.W.callWith_K (h₀ := X.base) I.ok.mod.kin hk (thn (ha.pa.run pos pins s σ H _ I h) fun us s1 hh => ?_) he hpl
    obtain ⟨vs, H1, I1, r, q⟩ := hh
    exact ⟨I1.kIn, run_G F hr hgd hb tk I1 r q⟩
  refine ⟨pe_imp hp fun σ H Q h => ?_⟩
  obtain ⟨I, M, en, S, re, k⟩ := h
  exact ⟨I, M, en, S, re, k.bind fun xs M1 I1 H1 us e1 S1 r1 k1 => ⟨I1, M1, xs, S1, r1, kp_at k1⟩⟩
theorem ev_call0 (F : FnG X.prog X.w X.K X.mg X.base k f fd ps m) (hr : Room k X.A) (hgd : X.A.guards = some []) (hg : Gl X x) (hm : X.mg x = some (.ref f)) (hk : PySem.W.keepIn X.K (.ref f) = true) (hb : Binds X.K fd ps []) (tk : Takes X W)
    (hdb : (x == ("__debug__" : Str)) = false := by decide) : EvE X W (.Call (.Name x p) [] [] pos) (cCall m aNil) := by
  have hp : PE X (.Call (.Name x p) [] [] pos) (tCallG X.K X.mg W m tNil) := by
    refine ⟨fun pins s σ H Q I h => ?_⟩
    refine wpAny_Call_Name_kw (ld_glob I hg hm ?_ hdb)
    exact PySem.W.callWith_K0 I.kIn hk (run_G (us := []) F hr hgd hb tk I .nil h)
  refine ⟨pe_imp hp fun σ H Q h => ?_⟩
  obtain ⟨I, M, en, S, re, k⟩ := h
  exact ⟨I, M, [], S, by simp only [Reps], kp_at k⟩
end
end DL
set_option maxHeartbeats 2000000
/-! The data layer, part 12: an own exception class under a subclass of ValueError, whose __init__ says super().__init__(reason) and keeps the reason. -/
namespace PySem
namespace BadX
open PySem.W PySem.Calls PyProof.Rows PySem.HandSPX
def bA (p1 p2 : Pos) : Arguments := { posonlyargs := [], args := [{ arg := "self", annotation := none, pos := p1 }, { arg := "reason", annotation := none, pos := p2 }], vararg := none, kwonlyargs := [], kw_defaults := [], kwarg := none, defaults := [] }
def bB (q1 q2 q3 q4 q5 q6 q7 q8 q9 q10 : Pos) : List Stmt :=
  [.Expr (.Call (.Attribute (.Call (.Name "super" q1) [] [] q2) "__init__" q3) [.Name "reason" q4] [] q5) q6, .Assign [.Attribute (.Name "self" q7) "reason" q8] (.Name "reason" q9) q10]
def bS : Scope := { kind := .function, names := [(PySem.Str.ofString "self", .local), (PySem.Str.ofString "reason", .local), (PySem.Str.ofString "__class__", .free), (PySem.Str.ofString "super", .globalImplicit)], isGenerator := false, isCoroutine := false, more := [] }
/-- the text's places let the method be called in one go -/
def MCall (q1 q2 q3 q4 q5 : Pos) : Prop := ∃ pl : Sem Bool, ∀ env : Env, eval (.Call (.Attribute (.Call (.Name "super" q1) [] [] q2) "__init__" q3) [.Name "reason" q4] [] q5) env = (do
      let ov ← attributeBase (.Call (.Name "super" q1) [] [] q2) "__init__" env (eval (.Call (.Name "super" q1) [] [] q2) env)
      standAt q3.atName
      let (f, first) ← holding [ov] (getMethod ov "__init__" pl)
      callWith q5 f first (backTo q5 (starEach [.Name "reason" q4] env)) [])
/-- what the written part says of the class x, at C, and of its __init__, at fI -/
structure BadTxt (prog : Program) (K : Frag) (mg : Str → Option Value) (x qual : Str) (C fI : Addr) : Prop where
  gC : mg x = some (.ref C)
  cls : ∃ nm q N bs bm sn sub ab col dd k0 k1 k2 k3 k5, K.lookup C = some (excClassObj nm q C N bs bm true sn sub ab col dd k0 k1 k2 k3 k5 "ValueError.__new__") ∧ refsVE bm = true
  sa : findIn K (.ref C) "__setattr__" = some (some (.builtin "object.__setattr__"))
  ga : findIn K (.ref C) "__getattribute__" = some (some (.builtin "BaseException.__getattribute__"))
  gg : findIn K (.ref C) "__getattr__" = some none
  noN : findIn K (.ref C) "reason" = some none
  iC : findIn K (.ref C) "__init__" = some (some (.ref fI))
  tC : typeIn K (.ref fI) = some (.type "function")
  kC : keepIn K (.ref C) = true
  exC : subIn K (.ref C) (.type "BaseException") = some true
  tyC : typeIn K (.ref C) = some (.type "type")
  hdC : hasDictIn K C = true
  te : exmOne K (.ref C) (.ref C) = some true
  veC : subIn K (.ref C) (.type "ValueError") = some true
  upC : ks_superIn K C C "__init__" = some (some (.builtin "ValueError.__init__"))
  mrC : mroIn K C (.ref C) = some true
  any : nsIn K cStatics "thirdparty.any" = some none
  sup : mg "super" = none
  top : (prog.main.scope.names.lookup ("super" : Str)).isSome = false
  fn : ∃ (oc : Value) (od : Option Addr) (doc pm : Value) (an : Option Addr) (cda : Addr) (ct : Value) (cc : Addr) (osl : Array (Option Value)) (p1 p2 q1 q2 q3 q4 q5 q6 q7 q8 q9 q10 : Pos)
      (ccl cl : Value) (cdd cld : Option Addr) (ccs csl : Array (Option Value)) (vs : Array Value) (file : Str) (tf : Tok),
    K.lookup fI = some ⟨oc, od, .func (ksFn "__init__" qual (bA p1 p2) (bB q1 q2 q3 q4 q5 q6 q7 q8 q9 q10) bS .none .none doc pm an (.ref cda) ct cc), osl⟩ ∧ codeIn K (.ref cda) qual = true ∧
    K.lookup cda = some ⟨ccl, cdd, .fields vs, ccs⟩ ∧ vs[2]? = some (.str file tf) ∧ ((prog.main.file : Str) == file) = true ∧ K.lookup cc = some ⟨cl, cld, .cell (some (.ref C)), csl⟩ ∧ MCall q1 q2 q3 q4 q5
/-- what the globals and the built-ins say, at a heap -/
structure Glb (mg : Str → Option Value) (h : Heap) : Prop where
  glob : h.Ns mainGlobals mg
  blt : ∃ mb, h.Ns builtinsNs mb ∧ ∀ x : Str, x ≠ "__name__" → mb x = bootBuiltins x
theorem Glb.keeps {mg : Str → Option Value} {h h' : Heap} (G : Glb mg h) (k : ∀ b o, h.get? b = some o → h'.get? b = some o) : Glb mg h' :=
  ⟨G.glob.keeps k, let ⟨mb, a, b⟩ := G.blt; ⟨mb, a.keeps k, b⟩⟩
theorem one_line (v : Value) : [v].length ≤ sizeLine := by
  rw [sizeLine_eq]
  exact (by decide : 1 ≤ 16777216)
theorem kept_but {K : Frag} {h h' : Heap} {x : Addr} (X : K.In h) (hx : K.lookup x = none) (k : ∀ b o, b ≠ x → h.get? b = some o → h'.get? b = some o) : K.In h' := fun a o e =>
  k a o (fun z => by rw [z, hx] at e; cases e) (X a o e)
/-- what __init__ leaves of a fresh exception at x -/
structure InitEnd (h h' : Heap) (x C dx : Addr) (v : Value) : Prop where
  keep : ∀ b o, b ≠ x → h.get? b = some o → h'.get? b = some o
  obj : ∃ t, h'.get? x = some { cls := .ref C, dict := some dx, data := .fields #[.ref t, .none, .none, .none, .bool false, .none] }
  dbig : h.objs.size ≤ dx
  dne : dx ≠ x
  ns : h'.Ns1 dx (fun y => if y = "reason" then some v else none)
/-- a made exception -/
structure OwnMade (h h' : Heap) (e C d : Addr) (v : Value) : Prop where
  keep : ∀ b o, h.get? b = some o → h'.get? b = some o
  new : h.objs.size ≤ e
  obj : ∃ oe vs, h'.get? e = some oe ∧ oe.cls = .ref C ∧ oe.dict = some d ∧ oe.data = .fields vs ∧ vs[1]? = some .none
  dbig : h.objs.size ≤ d
  dne : d ≠ e
  ns : h'.Ns1 d (fun y => if y = "reason" then some v else none)
section
variable {prog : Program} {w : World} {A : Around} {E : Value → Shared → Prop} {R : Result → Shared → Prop} {s : Shared} {K : Frag} {mg : Str → Option Value} {C fI : Addr} {nx qual : Str}
/-- ValueError.__init__ bound to x, called with one value -/
theorem call_mw {u x t0 : Addr} {v : Value} {Q : Value → Shared → Prop} {h : Heap} {g : Array GenState} {d : Drawn} {t : Nat} {os : OsState}
    {nm q : Str} {N : Addr} {bs bm : List Value} {hdct : Bool} {sn : List Str} {sub : List Value} {ab : Bool} {col : Option Bool} {dd : Option Addr} {k0 k1 k2 k3 k5 : Option Value}
    (hC : h.get? C = some (excClassObj nm q C N bs bm hdct sn sub ab col dd k0 k1 k2 k3 k5 "ValueError.__new__")) (hx : h.get? x = some (excO C t0)) (hu : h.get? u = some (kxs_mw "ValueError.__init__" x))
    (hq : ∀ h' t1, (∀ b o, b ≠ x → h.get? b = some o → h'.get? b = some o) → h'.get? x = some (excO C t1) → h.objs.size ≤ h'.objs.size → Q .none ⟨h', g, d, t, os⟩) :
    wpAny (model prog w) A (call (.ref u) [v]) Q E ⟨h, g, d, t, os⟩ := by
  refine wpAny_call (codeAny_of_tree ?_)
  show wpAny _ A.in1 (callAny (.ref u) ⟨[v], []⟩) _ _ _
  simp only [callAny]
  refine wpAny_bind (wpAny_load hu ?_)
  simp only [kxs_mw, show (Value.type "method-wrapper" == Value.type "method" || Value.type "method-wrapper" == Value.type "builtin_function_or_method" || Value.type "method-wrapper" == Value.type "method-wrapper") = true by decide, if_true]
  refine KFB.if_so (by decide) ?_
  refine wpAny_bind (check_bound_init PySem.F.excBase_ValueError.toExcCallFacts hC hx rfl ?_)
  refine wpAny_bind (wpAny_pure (wpAny_pure ?_))
  refine ⟨plainId_quiet PySem.F.excBase_ValueError.init.plain _, codeAny_builtin PySem.F.excBase_ValueError.initEntry ?_⟩
  refine exc_init_tree (cls := .ref C) (t0 := t0) (dv := none) (c2 := .none) (c3 := .none) (b4 := .bool false) hx (one_line v) fun h' k e1 e2 => ?_
  exact hq h' _ k e1 (Nat.le_of_lt (Heap.lt_size e2))
/-- self = x, reason = v, the rest of the exception as it is -/
theorem bad_init (T : BadTxt prog K mg nx qual C fI) {x t0 : Addr} {v : Value} (X : K.In s.heap) (G : Glb mg s.heap) (hlim : s.heap.NoLimit) (hx : s.heap.get? x = some (excO C t0)) (hnx : K.lookup x = none) (hroom : A.depth < recursionLimit)
    (hq : ∀ h' tk dx, InitEnd s.heap h' x C dx v → R (.ok (.ret .none)) { s with heap := h', toks := tk }) : codeAny (model prog w) A (.call (.ref fI) ⟨[.ref x, v], []⟩) R s := by
  obtain ⟨oc, od, doc, pm, an, cda, ct, cc, osl, p1, p2, q1, q2, q3, q4, q5, q6, q7, q8, q9, q10, ccl, cl, cdd, cld, ccs, csl, vs, file, tf, ho, hcd, hcode, hvs, hfile, hcell, pl, hev⟩ := T.fn
  obtain ⟨nm, q, N, bs, bm, sn, sub, ab, col, dd, k0, k1, k2, k3, k5, hC, hbm⟩ := T.cls
  have hcl : clsIn K C = some { name := nm, bases := bs, mro := .ref C :: bm, ns := N, qualname := q, hasDict := true, slotNames := sn, subclasses := sub, abstract := ab, collection := col, hasDel := false } := by unfold clsIn; rw [hC] <;> rfl
  have hup := T.upC
  unfold ks_superIn at hup
  rw [hcl] at hup
  refine ks_codeAny_call_defAt (binds := [("self", .ref x), ("reason", v)]) hroom (X _ _ ho) rfl hlim (codeRec_of X hcd) rfl (BindsTo.of_eq (by first | rfl | with_unfolding_all rfl)) (by show ∀ x ∈ bS.names, _; decide) (fun y hy => ?_) (fun h₁ hns k => ?_) rfl rfl rfl
  · rcases List.mem_cons.mp hy with e | hy
    · rw [e]; rfl
    · rw [List.mem_singleton.mp hy]; rfl
  obtain ⟨hh, g, dr, tk, os⟩ := s
  have X₁ : K.In h₁ := X.keeps k
  have hx₁ := k _ _ hx
  have hC₁ := X₁ _ _ hC
  have IA : InstAt h₁ x (excO C t0) C none := ⟨hx₁, rfl, rfl, trivial⟩
  have mS : (fun y => List.lookup y ([("self", Value.ref x), ("reason", v)] : List (Str × Value)).reverse) "self" = some (.ref x) := by first | rfl | decide +kernel
  have mR : (fun y => List.lookup y ([("self", Value.ref x), ("reason", v)] : List (Str × Value)).reverse) "reason" = some v := by first | rfl | decide +kernel
  -- super().__init__(reason)
  refine ks_wpAt_execs_cons (ks_wpAt_Expr_any (ks_wpAt_MethodCall (pl := pl) ?_ (hev _)))
  refine ks_wpAt_super_base (by rfl) (by rfl) (by decide) rfl (X₁ _ _ ho) rfl rfl rfl (X₁ _ _ hcode) rfl hvs hfile T.top ?_
  obtain ⟨mb, b1, b2⟩ := (G.keeps k).blt
  refine ks_loadName_global (by rfl) (by rfl) (loadGlobal_builtin (G.keeps k).glob T.sup b1 ((b2 _ (by decide)).trans (by rfl)) ⟨rfl, ?_⟩)
  refine wpAny_loadName_free (by rfl) (by rfl) rfl ⟨_, X₁ _ _ hcell, rfl⟩ ?_
  refine wpAny_loadName_local (by rfl) (by rfl) hns mS ?_
  refine ks_wpAny_isType_cls hC₁ rfl ⟨rfl, ?_⟩
  refine ks_wpAny_call_super hC₁ rfl hx₁ rfl (fun c e => nomatch e) (looks_mroIn X₁ T.mrC) (fun h₂ so k₂ => ?_)
  have X₂ : K.In h₂ := X₁.keeps k₂
  have hx₂ := k₂ _ _ hx₁
  have IA₂ : InstAt h₂ x (excO C t0) C none := ⟨hx₂, rfl, rfl, trivial⟩
  refine kxs_getMethod kxs_ValueError so (looks_opaque X₂ T.any) (l₀ := .ref C :: bm) (fun A Q E s k q => wpAny_bind ((looks_clsIn X₂ hcl) A _ E s k (wpAny_pure q))) rfl X₂ hup (IA₂.type.andThen (looks_subIn X₂ T.veC)) (ks_ne X₂ IA₂ hcl) (by decide) ?_
  have k₃ : ∀ b o, h₂.get? b = some o → (h₂.push (kxs_mw "ValueError.__init__" x)).get? b = some o := fun b o e => Heap.get?_push_of_some _ e
  refine kxs_callWith (i := "ValueError.__init__") (x := x) (by rfl) (evalArgs_plain (spliced_cons (wpAny_Name (wpAny_loadName_local (by rfl) (by rfl) ((hns.keeps k₂).keeps k₃) mR ?_) (by decide))))
  refine spliced_nil ⟨Heap.get?_push_at rfl rfl, ?_⟩
  refine call_mw (k₃ _ _ (k₂ _ _ hC₁)) (k₃ _ _ hx₂) (Heap.get?_push_at rfl rfl) fun h₄ t1 k₄ hx₄ z₄ => ?_
  -- self.reason = reason
  have hxL : hh.objs.size ≠ x := Nat.ne_of_gt (Heap.lt_size hx)
  have X₄ : K.In h₄ := kept_but (X₂.keeps k₃) hnx k₄
  have hns₄ : h₄.Ns hh.objs.size (fun y => List.lookup y ([("self", Value.ref x), ("reason", v)] : List (Str × Value)).reverse) := by
    obtain ⟨o, es, ep, e, d, r⟩ := (hns.keeps k₂).keeps k₃
    exact ⟨o, es, ep, k₄ _ _ hxL e, d, r⟩
  refine ks_wpAt_execs_cons (ks_wpAt_Assign_Attr ?_)
  refine wpAt_of_wpAny (wpAny_Name (wpAny_loadName_local (by rfl) (by rfl) hns₄ mR ?_) (by decide))
  refine wpAny_Name (wpAny_loadName_local (by rfl) (by rfl) hns₄ mS ?_) (by decide)
  refine set_plain X₄ (ox := excO C t1) (od := none) ⟨hx₄, rfl, rfl, trivial⟩ T.sa ?_
  refine exc_osa X₄ hx₄ hcl (show refsVE (.ref C :: bm) = true from hbm) rfl T.noN (fun h₅ tk₅ dx k₅ dn dne hx₅ hn₅ => ?_)
  refine wpAt_of_wpAny (wpAny_execs_nil (hq h₅ tk₅ dx ⟨fun b o hb e => k₅ b o hb (k₄ b o hb (k₃ _ _ (k₂ _ _ (k b o e)))), ⟨t1, hx₅⟩, ?_, dne, hn₅⟩))
  have z1 : hh.objs.size < h₄.objs.size := hns₄.lt
  exact Nat.le_of_lt (Nat.lt_of_lt_of_le z1 dn)
/-- C(v) -/
theorem bad_made (T : BadTxt prog K mg nx qual C fI) {v : Value} (X : K.In s.heap) (G : Glb mg s.heap) (hlim : s.heap.NoLimit) (hroom : A.depth + 1 < recursionLimit)
    (hq : ∀ h' tk e d, OwnMade s.heap h' e C d v → R (.ok (.ret (.ref e))) { s with heap := h', toks := tk }) : codeAny (model prog w) A (.call (.ref C) ⟨[v], []⟩) R s := by
  obtain ⟨nm, q, N, bs, bm, sn, sub, ab, col, dd, k0, k1, k2, k3, k5, hC, hbm⟩ := T.cls
  obtain ⟨hp, g, dr, tk, os⟩ := s
  have k : ∀ b o, hp.get? b = some o → ((hp.push (kdv_tup [v])).push (excO C hp.objs.size)).get? b = some o := fun b o e => Heap.get?_push_of_some _ (Heap.get?_push_of_some _ e)
  have hget : ((hp.push (kdv_tup [v])).push (excO C hp.objs.size)).get? (hp.objs.size + 1) = some (excO C hp.objs.size) := by heap_get
  have hnx : K.lookup (hp.objs.size + 1) = none := by
    cases e : K.lookup (hp.objs.size + 1) with
    | none => rfl
    | some o =>
      have z : hp.get? (hp.objs.size + 1) = some o := X _ _ e
      exact absurd (Nat.lt_of_succ_lt (Heap.lt_size z)) (Nat.lt_irrefl _)
  refine call_own PySem.F.excBase_ValueError (fun X => refsVE_contains X bm hbm) (X _ _ hC) (looks_findIn X T.iC) (fun self => bind_fn X self T.tC) (one_line v) ?_
  refine bad_init (s := ⟨(hp.push (kdv_tup [v])).push (excO C hp.objs.size), g, dr, tk, os⟩) T (X.keeps k) (G.keeps k) (hlim.keeps k) hget hnx ?_ fun h' tk' dx en => ?_
  · show A.depth + 1 < recursionLimit
    exact hroom
  · have old : ∀ b o, hp.get? b = some o → h'.get? b = some o := fun b o e => en.keep b o (Nat.ne_of_lt (Nat.lt_succ_of_lt (Heap.lt_size e))) (k b o e)
    have z : hp.objs.size + 1 + 1 ≤ dx := by
      have q := en.dbig
      simp only [Heap.size_push] at q
      exact q
    obtain ⟨t, ob⟩ := en.obj
    exact ⟨rfl, hq h' tk' (hp.objs.size + 1) dx ⟨old, Nat.le_succ _, ⟨_, _, ob, rfl, rfl, rfl, rfl⟩, Nat.le_trans (Nat.le_trans (Nat.le_succ _) (Nat.le_succ _)) z, en.dne, en.ns⟩⟩
end
end BadX
end PySem
set_option maxHeartbeats 2000000
/-! The data layer, part 13: raise, try with one clause and else. -/
namespace DL
open PySem PySem.Spec PyProof.Rows L2
section
variable {X : Cx} {C fI : Addr} {nx qual : Str} {W : WX} {a : Expr} {p pos pos2 : Pos} {k : Nat} {fa : EF} {fr : AF}
theorem relO_reason {v : V} {v' : Value} (r : RelV v v') (f : Str) : RelO (List.lookup f [(("reason" : Str), v)]) (if f = "reason" then some v' else none) := by
  by_cases hw : f = "reason"
  · subst hw
    rw [if_pos rfl, show List.lookup ("reason" : Str) [(("reason" : Str), v)] = some v by simp [List.lookup]]
    exact r
  · rw [if_neg hw, show List.lookup f [(("reason" : Str), v)] = none by simp [List.lookup, show (f == ("reason" : Str)) = false by simpa using hw]]
    trivial
/-- C(v): what is then there -/
def tMkBad (C : Addr) (ta : TA) : L2.St → Hp → XK → Prop := fun σ H Q => ta σ H fun vs H1 => ∃ v, vs = [v] ∧ ∀ d, H1 d = none → Q (.ref C) (some d) (upd H1 d (.xd [(("reason" : Str), v)]))
theorem pmk_bad {ta : TA} (T : PySem.BadX.BadTxt X.prog X.K X.mg nx qual C fI) (hr : Room k X.A) (ha : PA X [a] ta) (hg : Gl X nx) (hdb : (nx == ("__debug__" : Str)) = false := by decide)
    (he : starEach (a :: []) X.env = (false, eval a X.env) :: starEach [] X.env := by rfl) (hpl : (backTo pos (starEach [] X.env)).any (·.1) = false := by rfl) :
    PMk X (.Call (.Name nx p) [a] [] pos) (tMkBad C ta) := by
  intro pins s σ H Q I h
  refine wpAny_Call_Name_kw (ld_glob I hg T.gC ?_ hdb)
  refine PySem.W.callWith_K (h₀ := X.base) I.ok.mod.kin T.kC (thn (ha.run pos pins s σ H _ I h) fun us s1 hh => ?_) he hpl
  obtain ⟨vs, H1, I1, r1, v, ev, q1⟩ := hh
  subst ev
  refine ⟨I1.kIn, ?_⟩
  obtain ⟨v', rfl, rv⟩ := Vals.one r1
  show wpAny _ _ (call (.ref C) [v']) _ _ _
  have hlim := I1.nolimit
  have G : PySem.BadX.Glb X.mg s1.heap := ⟨I1.ok.mod.glob.keeps I1.bk, let ⟨mb, b1, b2⟩ := I1.ok.mod.blt; ⟨mb, b1.keeps I1.bk, b2⟩⟩
  obtain ⟨hp, g, dr, tk, os⟩ := s1
  refine wpAny_call (PySem.BadX.bad_made T I1.kIn G hlim (by have := hr.dp; omega) fun h' tk' e d M => ?_)
  show MkP X pins σ Q (.ref e) ⟨h', g, dr, tk', os⟩
  obtain ⟨oe, fv, hoe, hc, hd, hdat, h1⟩ := M.obj
  have hns := M.ns
  obtain ⟨G', g1, g2⟩ := restrict h' fun b => decide (b ≠ e)
  have gk : ∀ b, b ≠ e → G'.get? b = h'.get? b := fun b hb => g1 b (decide_eq_true hb)
  have ge : G'.get? e = none := g2 e (by simp)
  have old : ∀ b o, hp.get? b = some o → G'.get? b = some o := fun b o q => (gk b (Nat.ne_of_lt (Nat.lt_of_lt_of_le (Heap.lt_size q) M.new))).trans (M.keep b o q)
  have ob : ObjOk X.prog X.w (upd H1 d (.xd [(("reason" : Str), v)])) G' d (.xd [(("reason" : Str), v)]) := ⟨_, hns.at (fun o q => (gk d M.dne).trans q), fun f => relO_reason rv f⟩
  have J : Inv X pins σ (upd H1 d (.xd [(("reason" : Str), v)])) ⟨G', g, dr, tk', os⟩ := I1.laid (t' := tk') old M.dbig ob
  refine ⟨e, oe, fv, ⟨G', g, dr, tk', os⟩, _, .ref C, some d, rfl, J, fun b o q => ?_, ge, hoe, ⟨hc, hd⟩, hdat, h1, ?_, rfl, I1.bare, raises_own T.exC T.tyC, q1 d (I1.hok.fresh M.dbig)⟩
  · by_cases hb : b = e
    · have q' : G'.get? b = some o := q
      rw [hb, ge] at q'; cases q'
    · exact (gk b hb).symm.trans q
  · rw [upd_ne (Ne.symm M.dne)]
    exact I1.hok.fresh M.new
/-- raise C(e) -/
def sRaise (c : Str) (fr : AF) : SF := fun en M => sbnd (fr en M) en fun ds M1 => match ds with | [d] => some (.ex c [("reason", d)] en, M1) | _ => none
theorem es_raise (hc : X.calm = true) (T : PySem.BadX.BadTxt X.prog X.K X.mg nx qual C fI) (hr : Room k X.A) (tk : Takes X W) (ha : EvA X W [a] fr) (hg : Gl X nx) (hdb : (nx == ("__debug__" : Str)) = false := by decide)
    (he : starEach (a :: []) X.env = (false, eval a X.env) :: starEach [] X.env := by rfl) (hpl : (backTo pos (starEach [] X.env)).any (·.1) = false := by rfl) :
    EvS X W (.Raise (some (.Call (.Name nx p) [a] [] pos)) none pos2) (sRaise nx fr) := by
  refine ⟨ps_imp (ps_raise hc tk (pmk_bad T hr ha.pa hg hdb he hpl)) fun Z σ H h => ?_⟩
  obtain ⟨I, M, en, S, r, k⟩ := h
  refine ⟨I, M, en, S, r, Sp_.bind k r fun ds M1 I1 H1 vs e1 S1 r1 k1 => ?_⟩
  match ds, k1 with
  | [d], k1 =>
    obtain ⟨v, rfl, rv⟩ := reps1 r1
    refine ⟨v, rfl, fun dd hd => ?_⟩
    exact k1 I1 _ σ _ _ (Ext.new hd) (S1.new hd) ((r.mono e1).mono (Ext.new hd)) ⟨C, dd, [v], T.gC, rfl, rfl, upd_same, S1.fresh hd, .one ((Ext.new hd).rep rv)⟩
end

/-! ### try: body; except c as n: suite; else: orelse, where every exception of the body is of the class -/
section
variable {X : Cx} {x n : Str} {c : Value} {i : Nat} {body suite orelse : List Stmt} {b₀ : Stmt} {np pos pos' : Pos} {tb : WX → TS} {ts : Addr → Value → Option Addr → TS} {u : TS}
/-- what the clause wishes -/
def wAll (K : PySem.W.Frag) (c : Value) (i : Nat) (ts : Addr → Value → Option Addr → TS) (Z : Ends) : WX := fun cls d σ H =>
  PySem.W.exmOne K cls c = some true ∧ ∀ e, H e = none → ts e cls d { nx := fun σ' H' => Z.nx (σ'.set i none) H', rt := Z.rt, bk := fun σ' H' => Z.bk (σ'.set i none) H', ct := fun σ' H' => Z.ct (σ'.set i none) H' } (σ.set i (some (.ref e))) H
theorem ps_tryAll (hst : X.stack = X.env :: X.outer) (hfl : X.env.frame = some X.env.locals) (hN : X.N.Nodup) (hi : X.N[i]? = some n) (hln : X.env.kindOf n = some .local) (hcl : Names X x c) (hels : PSs X orelse u)
    (hbody : ∀ (W : WX) (pn : List (Addr × Obj)) (xe : Value → Shared → Prop), Takes (X.tr pn xe) W → PassesOwn (model X.prog X.w) X.A X.env xe → PSs (X.tr pn xe) body (tb W))
    (hsuite : ∀ (e : Addr) (oe : Obj) (cls : Value) (d : Option Addr) (pn : List (Addr × Obj)), Zc cls d oe → (∃ vs, oe.data = .fields vs) → PSs (X.suite e ((e, oe) :: pn)) (b₀ :: suite) (ts e cls d)) :
    PS X (.Try body [.ExceptHandler (some (.Name x np)) (some n) (b₀ :: suite) pos'] orelse [] pos) (fun Z σ H => tb (wAll X.K c i ts Z) { Z with nx := u Z } σ H) := by
  refine ⟨fun pins s σ H Z I goal => ?_⟩
  have okX := I.ok
  have frm : X.A.frames = some (X.env :: X.outer) := okX.frames.trans (by rw [hst])
  -- behind the body's end
  have quietEnd : ∀ (f : Flow) (s1 : Shared), SP (X.tr (X.pn ++ pins) (fun e s1 => wpAny (model X.prog X.w) X.A (noteFrame e X.env) (fun _ s2 => wpAny (model X.prog X.w) X.A (setFlight e none) (fun _ s3 =>
      wpAny (model X.prog X.w) X.A (handleBy e X.env [.ExceptHandler (some (.Name x np)) (some n) (b₀ :: suite) pos']) (SP X pins Z) X.xe s3) X.xe s2) X.xe s1)) [] { Z with nx := u Z } f s1 →
      (match f with | .next => wpAny (model X.prog X.w) X.A (execs orelse X.env) (SP X pins Z) X.xe s1 | f => SP X pins Z f s1) := by
    intro f s1 hq
    cases f with
    | next => obtain ⟨σ1, H1, I1, q1⟩ := hq; exact hels.run pins s1 σ1 H1 Z (I1.ofTry okX) q1
    | ret v => obtain ⟨w1, σ1, H1, I1, rel, q1⟩ := hq; exact ⟨w1, σ1, H1, I1.ofTry okX, rel, q1⟩
    | brk => obtain ⟨σ1, H1, I1, q1⟩ := hq; exact ⟨σ1, H1, I1.ofTry okX, q1⟩
    | cont => obtain ⟨σ1, H1, I1, q1⟩ := hq; exact ⟨σ1, H1, I1.ofTry okX, q1⟩
  refine wpAny_Try_except (wpAny_mono ((hbody _ (X.pn ++ pins) _ ?takes PassesOwn.looking).run [] s σ H _ (I.toTry _) goal) quietEnd fun _ _ z => z)
  case takes =>
    intro eu sE caught
    obtain ⟨e, B, sI, pinsI, σI, HI, cls, d, rfl, II, low, ups, air, ne, osE, gensE, ismatch, wish⟩ := caught
    have JJ : Inv X pins σI HI sI := II.ofTry okX
    have air' : Sky B (X.env :: X.outer) e (Zc cls d) X.env.locals sE.heap := by rw [← hst]; exact air
    show wpAny (model X.prog X.w) X.A (noteFrame (.ref e) X.env) _ _ _
    refine Sky.land Zc.steady frm hfl air' fun hA flA upA => ?_
    have JA : Inv X pins σI HI { sE with heap := hA } := JJ.landed low flA.1 (ups.trans upA) osE gensE
    obtain ⟨oA, vA, atA, zA, dA⟩ := flA.there
    -- the exception is no frame's
    have offFrames : e ∉ frs (X.env :: X.outer) := by
      intro hm
      obtain ⟨_, oF, atF, isF⟩ := flA.2.2.1.mem hm
      rw [atA] at atF
      cases atF
      exact isF _ dA
    have offLocals : e ≠ X.env.locals := fun z => offFrames (List.mem_filterMap.mpr ⟨X.env, List.mem_cons_self, hfl.trans (by rw [z])⟩)
    have offFs : e ∉ X.fs := fun hm => by
      obtain ⟨eo, heo, qo⟩ := List.mem_filterMap.mp hm
      exact offFrames (List.mem_filterMap.mpr ⟨eo, .tail _ heo, qo⟩)
    have SA := JA.suite atA dA ne offLocals offFs
    refine wpAny_handleBy_cons (codeAny_handlers_test ?_) (by intro q; cases q)
    have looksTy : PySem.W.Looks (model X.prog X.w) hA (typeOf (.ref e)) cls := by
      intro A1 Q1 E1 s1 k1 q1
      refine wpAny_typeOf_ref (k1 _ _ atA) ?_
      rw [zA.1]
      exact q1
    have looksMatch := PySem.W.exm_one (M := model X.prog X.w) JA.kIn looksTy ismatch
    have theClass : ∀ {Q1 : Value → Shared → Prop} {E1 : Value → Shared → Prop}, Q1 c { sE with heap := hA } → wpAny (model X.prog X.w) (X.A.mark (some (.ref e))) (eval (.Name x np) X.env) Q1 E1 { sE with heap := hA } := by
      intro Q1 E1 q1
      obtain ⟨isGl, noDbg, inMod | ⟨notMod, inBlt, noName⟩⟩ := hcl
      · exact ld_glob (X := X.suite e ((e, oA) :: (X.pn ++ pins))) SA isGl inMod q1 noDbg
      · exact ld_blt (X := X.suite e ((e, oA) :: (X.pn ++ pins))) SA isGl notMod inBlt q1 noName noDbg
    refine theClass (looksMatch.here (codeAny_handlers_suite_as (HandSPX.lands_againZ flA fun hB flB upB => ?_)))
    have JB : Inv X pins σI HI { sE with heap := hB } := JJ.landed low flB.1 ((ups.trans upA).trans upB) osE gensE
    obtain ⟨oB, vB, atB, zB, dB⟩ := flB.there
    have SB := JB.suite atB dB ne offLocals offFs
    refine store_ok (X := X.suite e ((e, oB) :: (X.pn ++ pins))) (v := .ref e) SB hN hi (.inl hln) rfl (fun sC SC => ?_) (.inr hln)
    have nameGoes : ∀ {σD : L2.St} {HD : Hp} {sD : Shared} {Q1 : Shared → Prop}, Inv (X.suite e ((e, oB) :: (X.pn ++ pins))) [] σD HD sD → (∀ s7, Inv X pins (σD.set i none) HD s7 → Q1 s7) →
        wpAny (model X.prog X.w) X.A (do bindName X.env n .none; unbindBehindTheSuite X.env n pos') (fun _ s7 => Q1 s7) X.xe sD := fun SD hq => gone_ok (SD.unsuite okX) hN hi hln hq
    refine wpAny_mono ((hsuite e oB cls d (X.pn ++ pins) zB ⟨_, dB⟩).run [] sC _ HI _ SC (wish e ne)) (fun f sD hsp => ?_) (fun _ _ z => z.elim)
    cases f with
    | next => obtain ⟨σD, HD, SD, qD⟩ := hsp; exact nameGoes SD fun s7 J7 => ⟨_, _, J7, qD⟩
    | brk => obtain ⟨σD, HD, SD, qD⟩ := hsp; exact nameGoes SD fun s7 J7 => ⟨_, _, J7, qD⟩
    | cont => obtain ⟨σD, HD, SD, qD⟩ := hsp; exact nameGoes SD fun s7 J7 => ⟨_, _, J7, qD⟩
    | ret v => obtain ⟨wD, σD, HD, SD, rD, qD⟩ := hsp; exact nameGoes SD fun s7 J7 => ⟨_, _, _, J7, rD, qD⟩
end
end DL
/-! The data layer, part 14: the suite of a clause; try. -/
namespace DL
open PySem PySem.Spec PyProof.Rows L2
/-- the exception that the suite holds: in slot i, at e, with the fields fs -/
def Held (K : PySem.W.Frag) (mg : Str → Option Value) (i : Nat) (e : Addr) (cls : Value) (d : Option Addr) (I : Ow) (H : Hp) (σ : L2.St) (fs : List (Str × D)) : Prop :=
  σ[i]? = some (some (.ref e)) ∧ ∃ c, ExR K mg I H c fs cls d
section
variable (K : PySem.W.Frag) (mg : Str → Option Value) (i : Nat) (e : Addr) (cls : Value) (d : Option Addr)
def TDX {α β : Type} (R : Ow → Hp → α → β → Prop) (f : List (Str × D) → Env → Store → Res α) : L2.St → Hp → (β → Hp → Prop) → Prop := fun σ H Q =>
  ∃ I M en fs, Held K mg i e cls d I H σ fs ∧ Sto K I H M ∧ RepE K I H en σ ∧ Kp K mg W0 R (f fs en M) I H σ Q
def TSX (p : List (Str × D) → SF) : TS := fun Z σ H => ∃ I M en fs, Held K mg i e cls d I H σ fs ∧ Sto K I H M ∧ RepE K I H en σ ∧ Sp_ K mg W0 (p fs en M) I H Z
end
structure XvE (X : Cx) (i : Nat) (e : Addr) (cls : Value) (d : Option Addr) (x : Expr) (f : List (Str × D) → EF) : Prop where
  pe : PE X x (TDX X.K X.mg i e cls d (Rep X.K) f)
structure XvT (X : Cx) (i : Nat) (e : Addr) (cls : Value) (d : Option Addr) (x : Expr) (f : List (Str × D) → TF) : Prop where
  pt : PT X x (TDX X.K X.mg i e cls d RB f)
structure XvS (X : Cx) (i : Nat) (e : Addr) (cls : Value) (d : Option Addr) (x : Stmt) (f : List (Str × D) → SF) : Prop where
  ps : PS X x (TSX X.K X.mg i e cls d f)
structure XvSs (X : Cx) (i : Nat) (e : Addr) (cls : Value) (d : Option Addr) (x : List Stmt) (f : List (Str × D) → SF) : Prop where
  pss : PSs X x (TSX X.K X.mg i e cls d f)
section
variable {K : PySem.W.Frag} {mg : Str → Option Value} {I I' : Ow} {H H' : Hp} {σ : L2.St} {fs : List (Str × D)} {X : Cx} {i : Nat} {e : Addr} {cls : Value} {d : Option Addr} {a b c x : Expr} {st : Stmt} {sts body : List Stmt} {pos : Pos}
  {f g : List (Str × D) → EF} {t : List (Str × D) → TF} {p q : List (Str × D) → SF} {fa : EF} {fp fq : SF} {r : R2} {op : CmpOp} {gg : D → D → Store → Res D}
theorem ExR.mono {c : Str} {dx : Option Addr} (x : ExR K mg I H c fs cls dx) (e : Ext I H I' H') : ExR K mg I' H' c fs cls dx := by
  obtain ⟨C, d, vs, h1, h2, h3, h4, h5, h6⟩ := x
  exact ⟨C, d, vs, h1, h2, h3, e.keep _ _ h4 h5.1, e.free h4 h5, e.reps h6⟩
theorem Held.mono (x : Held K mg i e cls d I H σ fs) (k : Ext I H I' H') : Held K mg i e cls d I' H' σ fs := ⟨x.1, x.2.elim fun c h => ⟨c, h.mono k⟩⟩
theorem xe_of (h : EvE X W0 x fa) : XvE X i e cls d x (fun _ => fa) := ⟨pe_imp h.pe fun σ H Q ⟨I, M, en, fs, _, S, r, k⟩ => ⟨I, M, en, S, r, k⟩⟩
theorem xss_of (h : EvSs X W0 sts fp) : XvSs X i e cls d sts (fun _ => fp) := ⟨pss_imp h.pss fun Z σ H ⟨I, M, en, fs, _, S, r, k⟩ => ⟨I, M, en, S, r, k⟩⟩
theorem xss_one (h : XvS X i e cls d st p) : XvSs X i e cls d [st] p := ⟨pss_one h.ps⟩
/-- the held exception's field -/
def xRsn : List (Str × D) → EF := fun fs _ M => match fs with | [(f, d)] => if f = "reason" then some (.ok d, M) else none | _ => none
theorem xe_reason {C fI : Addr} {nx qual y : Str} {oe : Obj} {pn : List (Addr × Obj)} {pos2 : Pos} (T : PySem.BadX.BadTxt X.prog X.K X.mg nx qual C fI) (hz : Zc cls d oe) (hf : ∃ vs, oe.data = .fields vs) (hC : cls = .ref C)
    (hN : X.N[i]? = some y) (hv : Vis X.env.scope y) (hd : (y == ("__debug__" : Str)) = false := by decide) (hcd : (y == ("__classdict__" : Str)) = false := by decide)
    (hb : attributeBase (.Name y pos2) "reason" X.env (eval (.Name y pos2) X.env) = eval (.Name y pos2) X.env := by rfl) : XvE (X.suite e ((e, oe) :: pn)) i e cls d (.Attribute (.Name y pos2) "reason" pos) xRsn := by
  refine ⟨pe_imp (pe_xf ⟨T.ga, T.gg, T.exC, T.hdC⟩ T.noN hz hf (pe_var (X := X.suite e ((e, oe) :: pn)) hN hv hd hcd) hb) fun σ H Q h => ?_⟩
  obtain ⟨I, M, en, fs, ⟨hσ, c, C', dd, vs, h1, h2, h3, h4, h5, h6⟩, S, r, k⟩ := h
  unfold xRsn at k
  split at k
  · rename_i f d'
    split at k
    · rename_i hr
      subst hr
      obtain ⟨v, rfl, rv⟩ := reps1 h6
      exact ⟨_, hσ, rfl, hC, dd, [("reason", v)], v, h3, h4, by simp [List.lookup], k.ok S rv⟩
    · exact k.elim
  · exact k.elim
theorem xe_cmp (ho : OpR X (compareOp op) r) (hg : OpD X.K X.mg W0 gg r) (ha : XvE X i e cls d a f) (hb : XvE X i e cls d b g) (hm : behindInMarks op b = false) : XvE X i e cls d (.Compare a [op] [b] pos) (fun fs => cOp gg (f fs) (g fs)) := by
  refine ⟨pe_imp (pe_cmpR ho ha.pe hb.pe hm) fun σ H Q h => ?_⟩
  obtain ⟨I, M, en, fs, he, S, re, k⟩ := h
  refine ⟨I, M, en, fs, he, S, re, Kp.bind k fun x M1 I1 H1 u e1 S1 r1 k1 => ?_⟩
  refine ⟨I1, M1, en, fs, he.mono e1, S1, re.mono e1, k1.bind fun y M2 I2 H2 v e2 S2 r2 k2 => ?_⟩
  exact hg x y M2 I2 H2 u v σ Q S2 (e2.rep r1) r2 k2
theorem xt_cmp (ho : OpR X (compareOp op) r) (hg : OpD X.K X.mg W0 gg r) (hbl : ∀ a b M x M', gg a b M = some (.ok x, M') → ∃ b, x = .bl b) (ha : XvE X i e cls d a f) (hb : XvE X i e cls d b g) (hm : behindInMarks op b = false) :
    XvT X i e cls d (.Compare a [op] [b] pos) (fun fs => cTru (cOp gg (f fs) (g fs))) := by
  refine ⟨pt_imp (pt_cmpR ho ha.pe hb.pe hm) fun σ H Q h => ?_⟩
  obtain ⟨I, M, en, fs, he, S, re, k⟩ := h
  have k : Kp X.K X.mg W0 RB (cTru (cOp gg (f fs) (g fs)) en M) I H σ Q := k
  have k : Kp X.K X.mg W0 RB (bnd (f fs en M) fun x M1 => bnd (g fs en M1) fun y M2 => bnd (gg x y M2) fun z M3 => match tru M3 z with | some b => some (.ok b, M3) | none => none) I H σ Q := by
    unfold cTru cOp at k
    revert k
    cases f fs en M with
    | none => exact id
    | some z =>
      obtain ⟨o, M1⟩ := z
      cases o with
      | ex _ _ => exact id
      | ok u =>
        rw [bnd_ok, bnd_ok]
        cases g fs en M1 with
        | none => exact id
        | some z =>
          obtain ⟨o, M2⟩ := z
          cases o with
          | ex _ _ => exact id
          | ok v => exact id
  refine ⟨I, M, en, fs, he, S, re, Kp.bind k fun x M1 I1 H1 u e1 S1 r1 k1 => ?_⟩
  refine ⟨I1, M1, en, fs, he.mono e1, S1, re.mono e1, Kp.bind k1 fun y M2 I2 H2 v e2 S2 r2 k2 => ?_⟩
  have hbl' := hbl x y M2
  refine hg x y M2 I2 H2 u v σ _ S2 (e2.rep r1) r2 ?_
  revert k2 hbl'
  cases gg x y M2 with
  | none => exact fun k _ => k
  | some z =>
    obtain ⟨o, M3⟩ := z
    cases o with
    | ex _ _ => exact fun k _ => k
    | ok w =>
      intro k2 hbl' I3 H3 v3 e3 S3 r3
      obtain ⟨b, rfl⟩ := hbl' w M3 rfl
      simp only [Rep] at r3
      exact ⟨b, r3, k2 I3 H3 b e3 S3 rfl⟩
theorem xs_if (hc : XvT X i e cls d c t) (h1 : EvSs X W0 sts fp) (h2 : EvSs X W0 body fq) : XvS X i e cls d (.If c sts body pos) (fun fs => sIf (t fs) fp fq) := by
  refine ⟨ps_imp (ps_if hc.pt h1.pss h2.pss) fun Z σ H h => ?_⟩
  obtain ⟨I, M, en, fs, he, S, r, k⟩ := h
  refine ⟨I, M, en, fs, he, S, r, Sp_.bind k r fun x M1 I1 H1 b e1 S1 r1 k1 => ?_⟩
  cases r1
  cases x with
  | true => exact (if_pos rfl).mpr ⟨I1, M1, en, S1, r.mono e1, k1⟩
  | false => exact (if_neg Bool.false_ne_true).mpr ⟨I1, M1, en, S1, r.mono e1, k1⟩
theorem xs_ret (h : XvE X i e cls d a f) : XvS X i e cls d (.Return (some a) pos) (fun fs => sRet (f fs)) := by
  refine ⟨ps_imp (ps_ret h.pe) fun Z σ H h => ?_⟩
  obtain ⟨I, M, en, fs, he, S, r, k⟩ := h
  exact ⟨I, M, en, fs, he, S, r, Sp_.bind k r fun d M1 I1 H1 v e1 S1 r1 k1 => k1 I1 H1 v Ext.refl S1 r1⟩

/-! ### try -/
/-- the name goes behind the suite -/
def sUn (i : Nat) (o : SRes) : SRes := match o with
  | some (.nx en, M) => some (.nx (en.set i none), M)
  | some (.bk en, M) => some (.bk (en.set i none), M)
  | some (.ct en, M) => some (.ct (en.set i none), M)
  | some (.rt d, M) => some (.rt d, M)
  | _ => none
def sTry (c : Str) (i : Nat) (fb : SF) (ps : List (Str × D) → SF) (fe : SF) : SF := fun en M => match fb en M with
  | some (.nx en1, M1) => fe en1 M1
  | some (.ex c' fs en1, M1) => if c' = c ∧ i < en1.length then sUn i (ps fs (en1.set i none) M1) else none
  | o => o
theorem sp_un {W : WX} {o : SRes} {Z : Ends} (h : Sp_ K mg W (sUn i o) I H Z) : Sp_ K mg W0 o I H { nx := fun σ' H' => Z.nx (σ'.set i none) H', rt := Z.rt, bk := fun σ' H' => Z.bk (σ'.set i none) H', ct := fun σ' H' => Z.ct (σ'.set i none) H' } := by
  match o, h with
  | some (.nx en, M), h => exact fun I' H' σ' e S r => h I' H' _ e S (r.unset i none)
  | some (.bk en, M), h => exact fun I' H' σ' e S r => h I' H' _ e S (r.unset i none)
  | some (.ct en, M), h => exact fun I' H' σ' e S r => h I' H' _ e S (r.unset i none)
  | some (.rt d, M), h => exact h
theorem es_try {C fI : Addr} {nx qual n : Str} {W : WX} {fb fe : SF} {ps : List (Str × D) → SF} {orelse suite : List Stmt} {b₀ : Stmt} {np pos' : Pos} (T : PySem.BadX.BadTxt X.prog X.K X.mg nx qual C fI)
    (hst : X.stack = X.env :: X.outer) (hfl : X.env.frame = some X.env.locals) (hN : X.N.Nodup) (hi : X.N[i]? = some n) (hln : X.env.kindOf n = some .local) (hg : Gl X nx) (hels : EvSs X W orelse fe)
    (hbody : ∀ (W : WX) (pn : List (Addr × Obj)) (xe : Value → Shared → Prop), Takes (X.tr pn xe) W → PassesOwn (model X.prog X.w) X.A X.env xe → EvSs (X.tr pn xe) W body fb)
    (hsuite : ∀ (e : Addr) (oe : Obj) (d : Option Addr) (pn : List (Addr × Obj)), Zc (.ref C) d oe → (∃ vs, oe.data = .fields vs) → XvSs (X.suite e ((e, oe) :: pn)) i e (.ref C) d (b₀ :: suite) ps)
    (hdb : (nx == ("__debug__" : Str)) = false := by decide) : EvS X W (.Try body [.ExceptHandler (some (.Name nx np)) (some n) (b₀ :: suite) pos'] orelse [] pos) (sTry nx i fb ps fe) := by
  refine ⟨ps_imp (ps_tryAll (ts := fun e cls d Z σ H => cls = .ref C ∧ TSX X.K X.mg i e cls d ps Z σ H) (tb := fun W => TSd X.K X.mg W fb) hst hfl hN hi hln ⟨hg, hdb, .inl T.gC⟩ hels.pss (fun W pn xe tk po => (hbody W pn xe tk po).pss) fun e oe cls d pn hz hf => ?_) fun Z σ H h => ?_⟩
  · refine ⟨fun pins s σ H Z Iv hq => ?_⟩
    obtain ⟨rfl, hq⟩ := hq
    exact (hsuite e oe d pn hz hf).pss.run pins s σ H Z Iv hq
  · obtain ⟨I, M, en, S, r, k⟩ := h
    refine ⟨I, M, en, S, r, ?_⟩
    unfold sTry at k
    revert k
    cases fb en M with
    | none => exact id
    | some z =>
      obtain ⟨o, M1⟩ := z
      cases o with
      | nx en1 => exact fun k I2 H2 σ2 e2 S2 r2 => ⟨I2, M1, en1, S2, r2, Sp_.mono k e2⟩
      | rt d => exact id
      | bk en1 => exact id
      | ct en1 => exact id
      | ex c' fs en1 =>
        dsimp only
        by_cases hc : c' = nx ∧ i < en1.length
        case neg => rw [if_neg hc]; exact False.elim
        rw [if_pos hc]
        obtain ⟨rfl, hlt⟩ := hc
        intro k I2 H2 σ2 cls dx e2 S2 r2 x2
        have hcls : cls = .ref C := by
          obtain ⟨C', _, _, h1, h2, _⟩ := x2
          rw [T.gC] at h1
          cases h1
          exact h2
        subst hcls
        refine ⟨T.te, fun e he => ⟨rfl, ?_⟩⟩
        have hlt2 : i < σ2.length := by rw [← r2.len]; exact hlt
        exact ⟨I2, M1, en1.set i none, fs, ⟨by rw [List.getElem?_set_self hlt2], _, x2⟩, S2, r2.unset i _, Sp_.mono (sp_un k) e2⟩
end
end DL
/-! The data layer, part 15: repr, membership, sorted. -/
namespace DL
open PySem PySem.Spec PyProof.Rows L2
section
variable {X : Cx} {W : WX} {K : PySem.W.Frag} {mg : Str → Option Value} {I I' : Ow} {H H' : Hp} {M M' : Store} {σ : L2.St} {en : Env}

/-! ### repr -/
def shOk (x : PyData) : Bool := x.showable && (!x.hasDict && (decide (x.depth ≤ 64) && decide (x.shown.length ≤ sizeLine)))
def rRepr (K : PySem.W.Frag) : List V → Hp → VK → Prop := fun xs H Q => ∃ x d, xs = [x] ∧ Dp K H x d ∧ shOk d = true ∧ Q (.str d.shown) H
theorem cr_repr (hg : X.A.guards = some []) (hu : X.A.units + 66 < cLine) : CallR X (.builtin "repr") (rRepr X.K) := by
  intro pins s σ H xs us Q I r h
  obtain ⟨x, d, rfl, hd, ok, q⟩ := h
  obtain ⟨u, rfl, rv⟩ := vals1 r
  unfold shOk at ok
  simp only [Bool.and_eq_true, Bool.not_eq_true', decide_eq_true_eq] at ok
  obtain ⟨o1, o2, o3, o4⟩ := ok
  obtain ⟨as, rd⟩ := Dp.reads I d x u hd rv
  cases rd with
  | none => exact PySem.P.repr_of_none ⟨.str _, H, I.tok _, ⟨_, rfl⟩, q⟩
  | bool b => exact PySem.P.repr_of_bool ⟨.str _, H, I.tok _, ⟨_, rfl⟩, q⟩
  | int i t => exact PySem.P.repr_of_int (by simpa [PyData.showable] using o1) ⟨.str _, H, I.tok _, ⟨_, rfl⟩, q⟩
  | str y t => exact PySem.P.repr_of_str ⟨.str _, H, I.tok _, ⟨_, rfl⟩, q⟩ (by simpa only [PyData.shown] using o4)
  | list h1 h2 h3 h4 => exact repr_of_reads' (h₀ := s.heap) (Reads.list h1 h2 h3 h4) o1 (fun z => by rw [o2] at z; cases z) hg (by omega) (fun _ _ e => e) (fun h' u tk hk => ⟨.str _, H, I.kept hk, ⟨_, rfl⟩, q⟩) o4
  | tuple h1 h2 h3 h4 => exact repr_of_reads' (h₀ := s.heap) (Reads.tuple h1 h2 h3 h4) o1 (fun z => by rw [o2] at z; cases z) hg (by omega) (fun _ _ e => e) (fun h' u tk hk => ⟨.str _, H, I.kept hk, ⟨_, rfl⟩, q⟩) o4
  | _ => simp [PyData.hasDict] at o2
def gRepr : List D → Store → Res D := fun xs M => match xs with
  | [d] => match toPyM M d with
    | some x => if shOk x = true then some (.ok (.str x.shown), M) else none
    | none => none
  | _ => none
theorem cd_repr : CallD K mg W gRepr (rRepr K) := by
  intro xs M I H us σ Q S r k
  unfold gRepr at k
  split at k
  · obtain ⟨u, rfl, h⟩ := reps1 r
    split at k
    · rename_i x q
      split at k
      · rename_i q2
        exact ⟨_, x, rfl, dpM_of S h q, q2, k.ok S rep_str⟩
      · exact k.elim
    · exact k.elim
  · exact k.elim
mutual
/-- none, bools, ints of fewer than 1920 bits, in lists and tuples -/
def plainPy : PyData → Bool
  | .none => true
  | .bool _ => true
  | .int i => decide (i.natAbs.log2 < 1920)
  | .list xs => plainPys xs
  | .tuple xs => plainPys xs
  | _ => false
def plainPys : List PyData → Bool
  | [] => true
  | x :: xs => plainPy x && plainPys xs
end
mutual
theorem plain_facts : ∀ {x : PyData}, plainPy x = true → x.showable = true ∧ x.hasDict = false ∧ x.leavesShort 1921 = true ∧ x.canLay0 = true
  | .none, _ => ⟨by simp [PyData.showable], by simp [PyData.hasDict], by simp [PyData.leavesShort], by simp [PyData.canLay0]⟩
  | .bool _, _ => ⟨by simp [PyData.showable], by simp [PyData.hasDict], by simp [PyData.leavesShort], by simp [PyData.canLay0]⟩
  | .int i, h => by
    simp only [plainPy, decide_eq_true_eq] at h
    exact ⟨by simp only [PyData.showable]; exact decide_eq_true h, by simp [PyData.hasDict], by simp only [PyData.leavesShort, PyData.shown]; exact decide_eq_true (int_text_len_1921 h), by simp [PyData.canLay0]⟩
  | .list xs, h => by
    simp only [plainPy] at h
    obtain ⟨a, b, c, d⟩ := plains_facts h
    exact ⟨by simp only [PyData.showable]; exact a, by simp only [PyData.hasDict]; exact b, by simp only [PyData.leavesShort]; exact c, by simp only [PyData.canLay0]; exact d⟩
  | .tuple xs, h => by
    simp only [plainPy] at h
    obtain ⟨a, b, c, d⟩ := plains_facts h
    exact ⟨by simp only [PyData.showable]; exact a, by simp only [PyData.hasDict]; exact b, by simp only [PyData.leavesShort]; exact c, by simp only [PyData.canLay0]; exact d⟩
  | .str _, h => by simp [plainPy] at h
  | .dict _, h => by simp [plainPy] at h
theorem plains_facts : ∀ {xs : List PyData}, plainPys xs = true → PyData.showableAll xs = true ∧ PyData.hasDictAll xs = false ∧ PyData.leavesShortAll 1921 xs = true ∧ PyData.canLayAll0 xs = true
  | [], _ => ⟨by simp [PyData.showableAll], by simp [PyData.hasDictAll], by simp [PyData.leavesShortAll], by simp [PyData.canLayAll0]⟩
  | x :: xs, h => by
    simp only [plainPys, Bool.and_eq_true] at h
    obtain ⟨a, b, c, d⟩ := plain_facts h.1
    obtain ⟨a', b', c', d'⟩ := plains_facts h.2
    exact ⟨by simp only [PyData.showableAll, a, a', Bool.and_self], by simp only [PyData.hasDictAll, b, b', Bool.or_self], by simp only [PyData.leavesShortAll, c, c', Bool.and_self], by simp only [PyData.canLayAll0, d, d', Bool.and_self]⟩
end
theorem shOk_of {x : PyData} (h : plainPy x = true) (hd : x.depth ≤ 64) (hb : x.bulk ≤ 8000) : shOk x = true := by
  obtain ⟨a, b, c, d⟩ := plain_facts h
  have e := PyData.shown_le_bulk 1921 (by omega) x c
  unfold shOk
  simp only [a, b, Bool.not_false, Bool.true_and, decide_eq_true hd]
  refine decide_eq_true (Nat.le_trans e ?_)
  rw [sizeLine_eq]
  omega
theorem shaped_of {x : PyData} (h : plainPy x = true) (hd : x.depth ≤ 64) : SeqAt.shaped x = true := by
  obtain ⟨a, b, c, d⟩ := plain_facts h
  show (x.canLay0 && decide (x.depth ≤ 64)) = true
  rw [d, decide_eq_true hd]
  rfl

/-! ### membership in a list or a tuple of data -/
def rInA (K : PySem.W.Frag) (neg : Bool) : R2 := fun x y H Q => ∃ d ds, Dp K H x d ∧ (Dp K H y (.list ds) ∨ Dp K H y (.tuple ds)) ∧ SeqAt.shaped d = true ∧ SeqAt.shaped (.list ds) = true ∧ Q (.bl (if neg = true then !(ds.any fun z => PyData.eqv z d) else ds.any fun z => PyData.eqv z d)) H
theorem op_inA (hu : X.A.units + 65 < cLine) : OpR X (compareOp .In) (rInA X.K false) := by
  intro pins s σ H x y v u Q I rx ry h
  obtain ⟨d, ds, hd, he, sd, se, q⟩ := h
  obtain ⟨as, r1⟩ := Dp.reads I d x v hd rx
  rcases he with he | he
  · obtain ⟨bs, r2⟩ := Dp.reads I (.list ds) y u he ry
    exact SeqAt.in_list_reads r2 r1 (SeqAt.canLay_of_shaped se) (SeqAt.canLay_of_shaped sd) (room_in_shaped sd hu) ⟨.bl _, H, I, rfl, q⟩
  · obtain ⟨bs, r2⟩ := Dp.reads I (.tuple ds) y u he ry
    exact SeqAt.in_tuple_reads r2 r1 (SeqAt.canLay_of_shaped se) (SeqAt.canLay_of_shaped sd) (room_in_shaped sd hu) ⟨.bl _, H, I, rfl, q⟩
theorem op_notInA (hu : X.A.units + 65 < cLine) : OpR X (compareOp .NotIn) (rInA X.K true) := by
  intro pins s σ H x y v u Q I rx ry h
  obtain ⟨d, ds, hd, he, sd, se, q⟩ := h
  obtain ⟨as, r1⟩ := Dp.reads I d x v hd rx
  rcases he with he | he
  · obtain ⟨bs, r2⟩ := Dp.reads I (.list ds) y u he ry
    exact SeqAt.notIn_list_reads r2 r1 (SeqAt.canLay_of_shaped se) (SeqAt.canLay_of_shaped sd) (room_in_shaped sd hu) ⟨.bl _, H, I, rfl, q⟩
  · obtain ⟨bs, r2⟩ := Dp.reads I (.tuple ds) y u he ry
    exact SeqAt.notIn_tuple_reads r2 r1 (SeqAt.canLay_of_shaped se) (SeqAt.canLay_of_shaped sd) (room_in_shaped sd hu) ⟨.bl _, H, I, rfl, q⟩
def gIn (neg : Bool) : D → D → Store → Res D := fun x y M => match toPyM M x, itemsOf M y with
  | some d, some es => match toPys es with
    | some ds => if (SeqAt.shaped d && SeqAt.shaped (.list ds)) = true then some (.ok (.bl (if neg = true then !(ds.any fun z => PyData.eqv z d) else ds.any fun z => PyData.eqv z d)), M) else none
    | none => none
  | _, _ => none
theorem opd_in {neg : Bool} : OpD K mg W (gIn neg) (rInA K neg) := by
  intro x y M I H u v σ Q S rx ry k
  unfold gIn at k
  split at k
  · rename_i d es h1 h2
    split at k
    · rename_i ds h3
      split at k
      · rename_i h4
        rw [Bool.and_eq_true] at h4
        obtain ⟨p, vs, rfl, hs, g⟩ := items_of S ry h2
        have hd := dps_of g h3
        refine ⟨d, ds, dpM_of S rx h1, ?_, h4.1, h4.2, k.ok S rep_bl⟩
        rcases hs with ⟨_, hs⟩ | hs
        · exact .inr (.tup hs hd)
        · exact .inl (.lst hs hd)
      · exact k.elim
    · exact k.elim
  · exact k.elim
theorem gIn_bl {neg : Bool} : ∀ a b M x M', gIn neg a b M = some (.ok x, M') → ∃ b, x = .bl b := by
  intro a b M x M' h
  unfold gIn at h
  split at h
  · split at h
    · split at h
      · cases h; exact ⟨_, rfl⟩
      · cases h
    · cases h
  · cases h
theorem gEq_bl {neg : Bool} : ∀ a b M x M', gEq neg a b M = some (.ok x, M') → ∃ b, x = .bl b := by
  intro a b M x M' h
  unfold gEq at h
  split at h
  · cases h; exact ⟨_, rfl⟩
  · split at h
    · cases h; exact ⟨_, rfl⟩
    · cases h

/-! ### sorted of data that are alike -/
def SrtOk (xs : List PyData) : Prop := PySem.W.AllAlike xs ∧ PySem.W.Sortable xs ∧ (∀ x ∈ xs, x.depth ≤ 60) ∧ xs.length ≤ 16777216
def rSortD (K : PySem.W.Frag) : List V → Hp → VK → Prop := fun xs H Q => ∃ (a : Addr) (vs : List V) (ps : List (V × PyData)), xs = [.ref a] ∧ SqL K H a vs ∧ ps.map (·.1) = vs ∧ DpAll K H vs (ps.map (·.2)) ∧ SrtOk (ps.map (·.2)) ∧
  ∀ p, H p = none → Q (.ref p) (upd H p (.lst ((ps.mergeSort (PySem.W.dataLe false (·.2))).map (·.1))))
theorem each_zip : ∀ {us : List Value} {ps : List (V × PyData)}, Vals (ps.map (·.1)) us → PySem.W.EachIs (fun (u : Value) (p : V × PyData) => RelV p.1 u) us ps
  | [], [], _ => .nil
  | u :: us, [], r => by cases r
  | [], p :: ps, r => by cases r
  | u :: us, p :: ps, r => by
    cases r with
    | cons r1 r2 => exact .cons r1 (each_zip r2)
theorem each_back : ∀ {us : List Value} {ps : List (V × PyData)}, PySem.W.EachIs (fun (u : Value) (p : V × PyData) => RelV p.1 u) us ps → Vals (ps.map (·.1)) us
  | _, _, .nil => .nil
  | _, _, .cons r rs => .cons r (each_back rs)
theorem each_reads {pins : List (Addr × Obj)} {s : Shared} {σ : L2.St} {H : Hp} (I : Inv X pins σ H s) : ∀ {us : List Value} {ps : List (V × PyData)}, Vals (ps.map (·.1)) us → DpAll X.K H (ps.map (·.1)) (ps.map (·.2)) →
    PySem.W.EachIs (fun (u : Value) (p : V × PyData) => ∃ as, Reads s.heap u p.2 as) us ps
  | [], [], _, _ => .nil
  | u :: us, [], r, _ => by cases r
  | [], p :: ps, r, _ => by cases r
  | u :: us, p :: ps, r, d => by
    cases r with
    | cons r1 r2 =>
      cases d with
      | cons d1 d2 => exact .cons (Dp.reads I p.2 p.1 u d1 r1) (each_reads I r2 d2)
theorem cr_sortD (hu : X.A.units + 66 < cLine) : CallR X (.builtin "sorted") (rSortD X.K) := by
  intro pins s σ H xs us Q I r h
  obtain ⟨a, vs, ps, rfl, hs, rfl, hd, ⟨o1, o2, o3, o4⟩, q⟩ := h
  obtain ⟨its, rv, pl, hz⟩ := I.list hs
  obtain ⟨u, rfl, ru⟩ := vals1 r
  cases ru
  refine PySem.W.sorted_data (enc := fun p : V × PyData => p.2) (R := fun (u : Value) (p : V × PyData) => RelV p.1 u) (bs := ps) pl.isList (each_zip rv) (each_reads I rv hd) o1 o2 (by rw [sizeLine_eq]; simpa using o4) (fun b hb => by have := o3 b.2 (List.mem_map_of_mem hb); omega) fun out ho eo => ?_
  obtain ⟨c, hc⟩ := sortedAll_at s.heap its out.toArray
  have rb := each_back eo
  have hlen : ((ps.mergeSort (PySem.W.dataLe false fun p => p.2)).map (·.1)).length ≤ sizeLine := by
    rw [List.length_map, List.length_mergeSort, sizeLine_eq]; simpa using o4
  exact ⟨.ref _, upd H (s.heap.objs.size + 1) (.lst ((ps.mergeSort (PySem.W.dataLe false fun p => p.2)).map (·.1))), I.laid (t' := s.toks) (fun _ _ => sortedAll_old) (Nat.le_succ _) ⟨hlen, out, c, rb, by simpa using hc⟩, rfl, q _ (I.hok.fresh (Nat.le_succ _))⟩
open Classical in
noncomputable def gSort : List D → Store → Res D := fun xs M => match xs with
  | [d] => match itemsOf M d with
    | some ds => match toPys ds with
      | some ys => if SrtOk ys ∧ (∀ es, d ≠ .tup es) then some (.ok (.imm (((ds.zip ys).mergeSort (PySem.W.dataLe false (·.2))).map (·.1))), M) else none
      | none => none
    | none => none
  | _ => none
theorem reps_all {α : Type} {f : α → D} {g : α → V} : ∀ {ts : List α}, (∀ t ∈ ts, Rep K I H (f t) (g t)) → Reps K I H (ts.map f) (ts.map g)
  | [], _ => by simp [Reps]
  | t :: ts, h => Reps.cons (h t List.mem_cons_self) (reps_all fun t' h' => h t' (List.mem_cons_of_mem _ h'))
/-- value, data and reading side by side -/
theorem three : ∀ {ds : List D} {vs : List V} {ys : List PyData}, Reps K I H ds vs → toPys ds = some ys →
    ∃ ts : List ((V × D) × PyData), vs = ts.map (·.1.1) ∧ ds = ts.map (·.1.2) ∧ ys = ts.map (·.2) ∧ ∀ t ∈ ts, Rep K I H t.1.2 t.1.1
  | [], vs, ys, r, e => by
    simp only [Reps] at r
    simp only [toPys, Option.some.injEq] at e
    exact ⟨[], by simp [r], rfl, by simp [← e], fun t h => nomatch h⟩
  | d :: ds, vs, ys, r, e => by
    simp only [Reps] at r
    obtain ⟨v, us, rfl, h2, h3⟩ := r
    simp only [toPys] at e
    split at e
    · rename_i y ys' e1 e2
      cases e
      obtain ⟨ts, q1, q2, q3, q4⟩ := three h3 e2
      refine ⟨((v, d), y) :: ts, by simp [q1], by simp [q2], by simp [q3], fun t h => ?_⟩
      rcases List.mem_cons.mp h with rfl | h
      · exact h2
      · exact q4 t h
    · cases e
theorem sort_map {α β : Type} {f : α → β} {k : β → PyData} (ts : List α) : (ts.map f).mergeSort (PySem.W.dataLe false k) = (ts.mergeSort (PySem.W.dataLe false fun t => k (f t))).map f :=
  (List.map_mergeSort (f := f) fun _ _ _ _ => rfl).symm
theorem cd_sort : CallD K mg W gSort (rSortD K) := by
  intro xs M I H us σ Q S r k
  unfold gSort at k
  split at k
  · rename_i d
    obtain ⟨u, rfl, h⟩ := reps1 r
    split at k
    · rename_i ds q
      split at k
      · rename_i ys q2
        split at k
        · rename_i q3
          obtain ⟨p, vs, rfl, hs, g⟩ := items_of S h q
          have hl : SqL K H p vs := by
            rcases hs with ⟨⟨es, z⟩, _⟩ | hs
            · exact absurd z (q3.2 es)
            · exact hs
          obtain ⟨ts, e1, e2, e3, e4⟩ := three g q2
          have hz : ds.zip ys = ts.map fun t => (t.1.2, t.2) := by rw [e2, e3, List.zip_map']
          have hm2 : (ts.map fun t => (t.1.1, t.2)).map (·.2) = ys := by rw [e3]; simp
          have hm1 : (ts.map fun t => (t.1.1, t.2)).map (·.1) = vs := by rw [e1]; simp
          refine ⟨p, vs, ts.map fun t => (t.1.1, t.2), rfl, hl, hm1, by rw [hm2]; exact dps_of g q2, by rw [hm2]; exact q3.1, fun l hl => ?_⟩
          rw [hz, sort_map] at k
          rw [sort_map]
          refine k.ok' (Ext.new hl) (S.new hl) ?_
          rw [List.map_map, List.map_map]
          refine rep_newL S hl (reps_all fun t ht => ?_)
          exact e4 t (List.mem_mergeSort.mp ht)
        · exact k.elim
      · exact k.elim
    · exact k.elim
  · exact k.elim
end
end DL
/-! The data layer, part 16: the law's own call. -/
namespace DL
open PySem PySem.Spec PyProof.Rows L2
def noneOw : Ow := ⟨[], [], []⟩
section
variable {P : Program} {w : World} {K : PySem.W.Frag} {mg mb : Str → Option Value} {k : Nat} {fa a : Addr} {fd : FuncData} {x : Str} {m : MF} {s₁ : Shared} {vs : List Value} {ns : List Int} {M' : Store}
/-- the script as it is handed in -/
def scrObj (vs : List Value) : Obj := { cls := .type "list", data := .seq vs.toArray }
/-- nothing is tracked but the script, unless it is one of the module's own objects -/
def scrHp (K : PySem.W.Frag) (a : Addr) (vs : List Value) (ns : List Int) : Hp := fun b => if K.lookup a = none ∧ b = a then some (.frz (scrObj vs) (.lst (ns.map V.int))) else none
theorem scrHp_in {b : Addr} {o : HO} (h : scrHp K a vs ns b = some o) : K.lookup a = none ∧ b = a ∧ o = .frz (scrObj vs) (.lst (ns.map V.int)) := by
  unfold scrHp at h
  split at h
  · rename_i q
    exact ⟨q.1, q.2, (Option.some.inj h).symm⟩
  · cases h
theorem scrHp_ok (ha : s₁.heap.get? a = some (scrObj vs)) (hi : IntsAre vs ns) (hl : ns.length ≤ sizeLine) : HOk P w (scrHp K a vs ns) s₁.heap := by
  intro b o hb
  obtain ⟨_, rfl, rfl⟩ := scrHp_in hb
  exact ⟨ha, by rw [List.length_map]; exact hl, vs, _, vals_ints hi, ha⟩
theorem scrHp_is (KX : K.In s₁.heap) (ha : s₁.heap.get? a = some (scrObj vs)) (hi : IntsAre vs ns) (hl : ns.length ≤ sizeLine) : LstA K noneOw (scrHp K a vs ns) a (ns.map V.int) := by
  have rv := vals_ints hi
  have ln := hi.length
  cases q : K.lookup a with
  | none => exact .inl ⟨.inr ⟨_, if_pos ⟨q, rfl⟩⟩, by simp [Ow.Free, noneOw]⟩
  | some o =>
    have at_ := KX a o q
    rw [ha] at at_
    cases at_
    exact .inr ⟨_, vs.toArray, _, q, rfl, rfl, rfl, by rw [List.size_toArray, ln]; exact hl, by simpa using rv⟩
theorem law_callG (KX : K.In s₁.heap) (hns : s₁.heap.Ns mainGlobals mg) (hb : s₁.heap.Ns builtinsNs mb) (hbb : ∀ x : Str, x ≠ "__name__" → mb x = bootBuiltins x) (hlim : s₁.heap.NoLimit) (hg : s₁.gens = #[])
    (ha : s₁.heap.get? a = some { cls := .type "list", data := .seq vs.toArray }) (hi : IntsAre vs ns) (hl : ns.length ≤ sizeLine) (hr : Room k callerA)
    (F : ∀ base : Heap, K.In base → base.Ns mainGlobals mg → FnG P w K mg base k fa fd [x] m) (hbind : ∀ (s : Shared) (u : Value), BindsTo s fd ⟨[u], []⟩ [(x, u)])
    (hm : m [.scr (ns.map .int)] [] = some (.ok (.bl true), M')) :
    codeAny (model P w) callerA (.call (.ref fa) ⟨[.ref a], []⟩) (fun r s' => r = .ok (.ret (.bool true)) ∧ OldK s₁.heap s'.heap ∧ s'.os = s₁.os ∧ AllBare s'.gens) s₁ := by
  obtain ⟨H, hH⟩ : ∃ H, H = scrHp K a vs ns := ⟨_, rfl⟩
  have inH : ∀ {b : Addr} {o : HO}, H b = some o → K.lookup a = none ∧ b = a ∧ o = .frz (scrObj vs) (.lst (ns.map V.int)) := fun {b o} q => scrHp_in (by rw [← hH]; exact q)
  have okH : HOk P w H s₁.heap := by rw [hH]; exact scrHp_ok ha hi hl
  have isH : LstA K noneOw H a (ns.map V.int) := by rw [hH]; exact scrHp_is KX ha hi hl
  -- what is not tracked stands in the base
  have stays : ∀ {b : Addr} {o : Obj}, s₁.heap.get? b = some o → H b = none → (hidT s₁.heap H).get? b = some o := fun e n => hidT_get e n
  have dicts : ∀ {b : Addr} {o : Obj} {es : Array DictEntry} {ep : Nat}, s₁.heap.get? b = some o → o.data = .dict es ep → H b = none := by
    intro b o es ep e dt
    cases q : H b with
    | none => rfl
    | some u =>
      obtain ⟨_, rfl, _⟩ := inH q
      rw [ha] at e
      cases e
      cases dt
  have spaces : ∀ {b : Addr} {mm : Str → Option Value}, s₁.heap.Ns b mm → (hidT s₁.heap H).Ns b mm := by
    intro b mm ⟨o, es, ep, e, dt, rest⟩
    exact ⟨o, es, ep, stays e (dicts e dt), dt, rest⟩
  have baseK : K.In (hidT s₁.heap H) := by
    intro b o e
    refine stays (KX b o e) ?_
    cases q : H b with
    | none => rfl
    | some u =>
      obtain ⟨z, rfl, _⟩ := inH q
      rw [z] at e
      cases e
  have limB : (hidT s₁.heap H).NoLimit := by
    obtain ⟨mc, l1, l2⟩ := hlim
    exact ⟨mc, spaces l1, l2⟩
  have modB : Mod K mg (hidT s₁.heap H) := ⟨baseK, spaces hns, ⟨mb, spaces hb, hbb⟩, limB⟩
  have env0 : Env0 P w K mg (hidT s₁.heap H) callerA [] s₁ H := ⟨rfl, modB, fun b o e => of_hidT e, Nat.le_of_eq (hidT_size _ _), trivial, (fun b z => absurd (show b ∈ ([] : List Addr) from z) (by simp)), okH, .of_eq hg⟩
  have arg : Reps K noneOw H [.scr (ns.map .int)] [.ref a] := by
    refine Reps.one ?_
    simp only [Rep]
    refine ⟨a, ns.map V.int, rfl, isH, ?_⟩
    exact reps_all (f := D.int) (g := V.int) fun t _ => rep_int
  have sto0 : Sto K noneOw H [] := ⟨rfl, List.nodup_nil, fun n b ds h => by simp [noneOw, Ow.At] at h, fun n b ds h => by simp [noneOw, Ow.AtD] at h, fun b z => by simp [noneOw] at z, fun b z => by simp [noneOw] at z⟩
  have spec : spM K mg m [.ref a] H (fun v _ => v = .bl true) (fun _ _ _ => False) := by
    refine ⟨noneOw, [], _, sto0, arg, ?_⟩
    rw [hm]
    intro I2 H2 v e S r
    simpa only [Rep] using r
  refine codeAny_mono ((F _ baseK (spaces hns)).run callerA [] s₁ H ⟨[.ref a], []⟩ [.ref a] [.ref a] _ _ hr rfl env0 (hbind s₁ (.ref a)) (.cons rfl .nil) spec) fun r s' res => ?_
  match r, res with
  | .error e, res =>
    obtain ⟨_, _, _, _, _, _, _, _, _, _, _, _, z⟩ := res
    exact z.elim
  | .ok (.ret u), res =>
    obtain ⟨v, H', osE, bareE, unE, okE, relE, isT⟩ := res
    have isT : v = .bl true := isT
    subst isT
    obtain rfl : u = Value.bool true := relE
    refine ⟨rfl, OldK.of_keep fun b o at_ => ?_, osE, bareE⟩
    cases q : H b with
    | none => exact unE.keep b o at_ q (fun z => absurd (show b ∈ ([] : List Addr) from z) (by simp)) (by simp)
    | some ho =>
      obtain ⟨_, rfl, rfl⟩ := inH q
      obtain ⟨at2, _⟩ := okE b _ (unE.frzs b _ _ q)
      rw [ha] at at_
      cases at_
      exact at2
  | .ok .next, res => exact res.elim
  | .ok .brk, res => exact res.elim
  | .ok .cont, res => exact res.elim
end
/-- what k_head leaves, from the law's mirror -/
theorem walk_G {l : PySem.W.OpenLaw} {n k : Nat} {q : Program} {loose : List Str} {XP : (Str → Option Value) → Heap → Prop} {YP : World → Heap → Prop} {d : DefRec} {K : Params → PySem.W.Frag} {x : Str} (m : MF)
    (hn : l.most = some n) (hn2 : n ≤ sizeLine) (hdf : d.params.defaults = []) (hr : Room k callerA) (hY : ∀ (w : World) (h : Heap), YP w h → (K w.params).In h)
    (F : ∀ (w : World) (mg : Str → Option Value) (fa : Addr) (h : Heap), (K w.params).In h → h.Ns mainGlobals mg → mg d.name = some (.ref fa) →
      ∃ fd : FuncData, (∀ (s : Shared) (u : Value), BindsTo s fd ⟨[u], []⟩ [(x, u)]) ∧ ∀ base : Heap, (K w.params).In base → base.Ns mainGlobals mg → FnG l.prog w (K w.params) mg base k fa fd [x] m)
    (hm : ∀ ns : List Int, ns.length ≤ n → ∃ M', m [.scr (ns.map .int)] [] = some (.ok (.bl true), M')) :
    PySem.W.WalkO q loose XP YP l.row.toRowW d [] (fun f vs => PySem.call f vs) := by
  refine Att.attach_call hn hdf fun w s₀ s₁ mg mb fa o pm cd doc a vs ns G Y ho hd hcd hmg hobj hints hlen hg => ?_
  have KX := hY w _ Y
  obtain ⟨fd, hbd, hF⟩ := F w mg fa _ KX G.T.g hmg
  obtain ⟨M', e⟩ := hm ns hlen
  exact law_callG KX G.T.g G.T.b G.T.builtins G.T.nolimit hg hobj hints (Nat.le_trans hlen hn2) hr hF hbd e
end DL
/-! The data layer, part 17: the rules in short, as a program prints them. -/
namespace DL
open PySem PySem.Spec PyProof.Rows L2
section
variable {X : Cx} {W : WX} {a b c d e : Expr} {es rest : List Expr} {pos p : Pos} {fa fb fc fd : EF} {fr : AF} {t u : TF} {k j : Nat}
theorem vr (i : Nat) {x : Str} {pos : Pos} (hN : X.N[i]? = some x := by rfl) (hv : Vis X.env.scope x := by first | exact Or.inl rfl | exact Or.inr (Or.inl rfl) | exact Or.inr (Or.inr rfl)) (hd : (x == ("__debug__" : Str)) = false := by decide)
    (hcd : (x == ("__classdict__" : Str)) = false := by decide) : EvE X W (.Name x pos) (cVar i) := ev_var hN hv hd hcd
theorem hu66 {A : Around} (h : Room k A) : A.units + 66 < cLine := by have := h.un; omega
theorem hu65 {A : Around} (h : Room k A) : A.units + 65 < cLine := by have := h.un; omega
theorem hu64 {A : Around} (h : Room k A) : A.units + 64 < cLine := by have := h.un; omega
/-- a built-in type's name -/
theorem ty_int (z : X.mg "int" = none) (hg : Gl X "int" := by rfl) : EvE X W (.Name "int" pos) (cC (.ty "int")) := ev_c (pe_bltn (v := .ty "int") (u := .type "int") hg z (by rfl) rfl) fun _ _ => by simp only [Rep]
theorem ty_bool (z : X.mg "bool" = none) (hg : Gl X "bool" := by rfl) : EvE X W (.Name "bool" pos) (cC (.ty "bool")) := ev_c (pe_bltn (v := .ty "bool") (u := .type "bool") hg z (by rfl) rfl) fun _ _ => by simp only [Rep]
theorem ty_tuple (z : X.mg "tuple" = none) (hg : Gl X "tuple" := by rfl) : EvE X W (.Name "tuple" pos) (cC (.ty "tuple")) := ev_c (pe_bltn (v := .ty "tuple") (u := .type "tuple") hg z (by rfl) rfl) fun _ _ => by simp only [Rep]
theorem ty_str (z : X.mg "str" = none) (hg : Gl X "str" := by rfl) : EvE X W (.Name "str" pos) (cC (.ty "str")) := ev_c (pe_bltn (v := .ty "str") (u := .type "str") hg z (by rfl) rfl) fun _ _ => by simp only [Rep]
theorem ty_list (z : X.mg "list" = none) (hg : Gl X "list" := by rfl) : EvE X W (.Name "list" pos) (cC (.ty "list")) := ev_c (pe_bltn (v := .ty "list") (u := .type "list") hg z (by rfl) rfl) fun _ _ => by simp only [Rep]
theorem b_len (z : X.mg "len" = none) (ha : EvA X W (e :: es) fr) (hg : Gl X "len" := by rfl) (he : starEach (e :: es) X.env = (false, eval e X.env) :: starEach es X.env := by rfl) (hpl : (backTo pos (starEach es X.env)).any (·.1) = false := by rfl) :
    EvE X W (.Call (.Name "len" p) (e :: es) [] pos) (cCall gLen fr) := ev_callB call_len cd_len hg z (by rfl) ha (by decide) (by decide) he hpl
theorem b_tuple (z : X.mg "tuple" = none) (ha : EvA X W (e :: es) fr) (hg : Gl X "tuple" := by rfl) (he : starEach (e :: es) X.env = (false, eval e X.env) :: starEach es X.env := by rfl) (hpl : (backTo pos (starEach es X.env)).any (·.1) = false := by rfl) :
    EvE X W (.Call (.Name "tuple" p) (e :: es) [] pos) (cCall gTuple fr) := ev_callTy call_tuple_of cd_tuple hg z (by rfl) ha (by decide) (by decide) he hpl
theorem b_list (z : X.mg "list" = none) (ha : EvA X W (e :: es) fr) (hg : Gl X "list" := by rfl) (he : starEach (e :: es) X.env = (false, eval e X.env) :: starEach es X.env := by rfl) (hpl : (backTo pos (starEach es X.env)).any (·.1) = false := by rfl) :
    EvE X W (.Call (.Name "list" p) (e :: es) [] pos) (cCall gList fr) := ev_callTy call_list_of cd_list hg z (by rfl) ha (by decide) (by decide) he hpl
theorem b_listC (z : X.mg "list" = none) (ha : EvA X W (e :: es) fr) (hg : Gl X "list" := by rfl) (he : starEach (e :: es) X.env = (false, eval e X.env) :: starEach es X.env := by rfl) (hpl : (backTo pos (starEach es X.env)).any (·.1) = false := by rfl) :
    EvE X W (.Call (.Name "list" p) (e :: es) [] pos) (cCall gListC fr) := ev_callTy call_list_of cd_listC hg z (by rfl) ha (by decide) (by decide) he hpl
theorem b_sum (z : X.mg "sum" = none) (ha : EvA X W (e :: es) fr) (hc : X.calm = true := by rfl) (hg : Gl X "sum" := by rfl) (he : starEach (e :: es) X.env = (false, eval e X.env) :: starEach es X.env := by rfl) (hpl : (backTo pos (starEach es X.env)).any (·.1) = false := by rfl) :
    EvE X W (.Call (.Name "sum" p) (e :: es) [] pos) (cCall gSum fr) := ev_callB (cr_sum hc) cd_sum hg z (by rfl) ha (by decide) (by decide) he hpl
theorem b_any (z : X.mg "any" = none) (ha : EvA X W (e :: es) fr) (hc : X.calm = true := by rfl) (hg : Gl X "any" := by rfl) (he : starEach (e :: es) X.env = (false, eval e X.env) :: starEach es X.env := by rfl) (hpl : (backTo pos (starEach es X.env)).any (·.1) = false := by rfl) :
    EvE X W (.Call (.Name "any" p) (e :: es) [] pos) (cCall gAny fr) := ev_callB (cr_any hc) cd_any hg z (by rfl) ha (by decide) (by decide) he hpl
theorem b_all (z : X.mg "all" = none) (ha : EvA X W (e :: es) fr) (hc : X.calm = true := by rfl) (hg : Gl X "all" := by rfl) (he : starEach (e :: es) X.env = (false, eval e X.env) :: starEach es X.env := by rfl) (hpl : (backTo pos (starEach es X.env)).any (·.1) = false := by rfl) :
    EvE X W (.Call (.Name "all" p) (e :: es) [] pos) (cCall gAll fr) := ev_callB (cr_all hc) cd_all hg z (by rfl) ha (by decide) (by decide) he hpl
theorem b_abs (z : X.mg "abs" = none) (ha : EvA X W (e :: es) fr) (hg : Gl X "abs" := by rfl) (he : starEach (e :: es) X.env = (false, eval e X.env) :: starEach es X.env := by rfl) (hpl : (backTo pos (starEach es X.env)).any (·.1) = false := by rfl) :
    EvE X W (.Call (.Name "abs" p) (e :: es) [] pos) (cCall gAbs fr) := ev_callB call_abs cd_abs hg z (by rfl) ha (by decide) (by decide) he hpl
theorem b_int (z : X.mg "int" = none) (ha : EvA X W (e :: es) fr) (hg : Gl X "int" := by rfl) (he : starEach (e :: es) X.env = (false, eval e X.env) :: starEach es X.env := by rfl) (hpl : (backTo pos (starEach es X.env)).any (·.1) = false := by rfl) :
    EvE X W (.Call (.Name "int" p) (e :: es) [] pos) (cCall gInt fr) := ev_callTy call_int1 cd_int hg z (by rfl) ha (by decide) (by decide) he hpl
theorem b_max (z : X.mg "max" = none) (ha : EvA X W (e :: es) fr) (hc : X.calm = true := by rfl) (hg : Gl X "max" := by rfl) (he : starEach (e :: es) X.env = (false, eval e X.env) :: starEach es X.env := by rfl) (hpl : (backTo pos (starEach es X.env)).any (·.1) = false := by rfl) :
    EvE X W (.Call (.Name "max" p) (e :: es) [] pos) (cCall gMax fr) := ev_callB (cr_maxA hc) cd_max hg z (by rfl) ha (by decide) (by decide) he hpl
theorem b_min (z : X.mg "min" = none) (ha : EvA X W (e :: es) fr) (hc : X.calm = true := by rfl) (hg : Gl X "min" := by rfl) (he : starEach (e :: es) X.env = (false, eval e X.env) :: starEach es X.env := by rfl) (hpl : (backTo pos (starEach es X.env)).any (·.1) = false := by rfl) :
    EvE X W (.Call (.Name "min" p) (e :: es) [] pos) (cCall gMin fr) := ev_callB (cr_minA hc) cd_min hg z (by rfl) ha (by decide) (by decide) he hpl
theorem b_isinstance (z : X.mg "isinstance" = none) (ha : EvA X W (e :: es) fr) (hg : Gl X "isinstance" := by rfl) (he : starEach (e :: es) X.env = (false, eval e X.env) :: starEach es X.env := by rfl) (hpl : (backTo pos (starEach es X.env)).any (·.1) = false := by rfl) :
    EvE X W (.Call (.Name "isinstance" p) (e :: es) [] pos) (cCall gIsi fr) := ev_callB call_isi cd_isi hg z (by rfl) ha (by decide) (by decide) he hpl
theorem b_repr (hr : Room k X.A) (hgd : X.A.guards = some []) (z : X.mg "repr" = none) (ha : EvA X W (e :: es) fr) (hg : Gl X "repr" := by rfl) (he : starEach (e :: es) X.env = (false, eval e X.env) :: starEach es X.env := by rfl) (hpl : (backTo pos (starEach es X.env)).any (·.1) = false := by rfl) :
    EvE X W (.Call (.Name "repr" p) (e :: es) [] pos) (cCall gRepr fr) := ev_callB (cr_repr hgd (hu66 hr)) cd_repr hg z (by rfl) ha (by decide) (by decide) he hpl
theorem b_sorted (hr : Room k X.A) (z : X.mg "sorted" = none) (ha : EvA X W (e :: es) fr) (hg : Gl X "sorted" := by rfl) (he : starEach (e :: es) X.env = (false, eval e X.env) :: starEach es X.env := by rfl) (hpl : (backTo pos (starEach es X.env)).any (·.1) = false := by rfl) :
    EvE X W (.Call (.Name "sorted" p) (e :: es) [] pos) (cCall gSort fr) := ev_callB (cr_sortD (hu66 hr)) cd_sort hg z (by rfl) ha (by decide) (by decide) he hpl
theorem gIsN_bl {neg : Bool} : ∀ a b M x M', gIsN neg a b M = some (.ok x, M') → ∃ b, x = .bl b := by
  intro a b M x M' h
  unfold gIsN at h
  split at h
  · cases h; exact ⟨_, rfl⟩
  · cases h
theorem gIsB_bl {neg : Bool} : ∀ a b M x M', gIsB neg a b M = some (.ok x, M') → ∃ b, x = .bl b := by
  intro a b M x M' h
  unfold gIsB at h
  split at h
  · cases h; exact ⟨_, rfl⟩
  · cases h
theorem gI2_bl {C : Int → Int → Bool} {p : Int → Int → Bool} : ∀ a b M x M', gI C (fun i j => .bl (p i j)) a b M = some (.ok x, M') → ∃ b, x = .bl b := by
  intro a b M x M' h
  unfold gI at h
  split at h
  · split at h
    · cases h; exact ⟨_, rfl⟩
    · cases h
  · cases h
theorem o_add (ha : EvE X W a fa) (hb : EvE X W b fb) : EvE X W (.BinOp a .Add b pos) (cOp gAddA fa fb) := ev_op op_addA opd_addA ha hb
theorem o_sub (ha : EvE X W a fa) (hb : EvE X W b fb) : EvE X W (.BinOp a .Sub b pos) (cOp gSub fa fb) := ev_op op_sub opd_sub ha hb
theorem o_mul (ha : EvE X W a fa) (hb : EvE X W b fb) : EvE X W (.BinOp a .Mult b pos) (cOp gMul fa fb) := ev_op op_mulC opd_mul ha hb
theorem o_fdiv (ha : EvE X W a fa) (hb : EvE X W b fb) : EvE X W (.BinOp a .FloorDiv b pos) (cOp gDiv fa fb) := ev_op op_fdivW opd_div ha hb
theorem o_mod (ha : EvE X W a fa) (hb : EvE X W b fb) : EvE X W (.BinOp a .Mod b pos) (cOp gMod fa fb) := ev_op op_mod opd_mod ha hb
theorem o_pow (ha : EvE X W a fa) (hb : EvE X W b fb) : EvE X W (.BinOp a .Pow b pos) (cOp gPow fa fb) := ev_op op_pow opd_pow ha hb
theorem o_shl (ha : EvE X W a fa) (hb : EvE X W b fb) : EvE X W (.BinOp a .LShift b pos) (cOp gShl fa fb) := ev_op op_shl opd_shl ha hb
theorem o_neg (ha : EvE X W a fa) : EvE X W (.UnaryOp .USub a pos) (cUn gNeg fa) := ev_un un_neg und_neg ha
theorem q_lt (ha : EvE X W a fa) (hb : EvE X W b fb) : EvE X W (.Compare a [.Lt] [b] pos) (cOp gLt fa fb) := ev_cmp op_lt opd_lt ha hb (nomark _)
theorem t_lt (ha : EvE X W a fa) (hb : EvE X W b fb) : EvT X W (.Compare a [.Lt] [b] pos) (cTru (cOp gLt fa fb)) := et_cmp op_lt opd_lt gI2_bl ha hb (nomark _)
theorem q_le (ha : EvE X W a fa) (hb : EvE X W b fb) : EvE X W (.Compare a [.LtE] [b] pos) (cOp gLe fa fb) := ev_cmp op_le opd_le ha hb (nomark _)
theorem t_le (ha : EvE X W a fa) (hb : EvE X W b fb) : EvT X W (.Compare a [.LtE] [b] pos) (cTru (cOp gLe fa fb)) := et_cmp op_le opd_le gI2_bl ha hb (nomark _)
theorem q_gt (ha : EvE X W a fa) (hb : EvE X W b fb) : EvE X W (.Compare a [.Gt] [b] pos) (cOp gGt fa fb) := ev_cmp op_gt opd_gt ha hb (nomark _)
theorem t_gt (ha : EvE X W a fa) (hb : EvE X W b fb) : EvT X W (.Compare a [.Gt] [b] pos) (cTru (cOp gGt fa fb)) := et_cmp op_gt opd_gt gI2_bl ha hb (nomark _)
theorem q_ge (ha : EvE X W a fa) (hb : EvE X W b fb) : EvE X W (.Compare a [.GtE] [b] pos) (cOp gGe fa fb) := ev_cmp op_ge opd_ge ha hb (nomark _)
theorem t_ge (ha : EvE X W a fa) (hb : EvE X W b fb) : EvT X W (.Compare a [.GtE] [b] pos) (cTru (cOp gGe fa fb)) := et_cmp op_ge opd_ge gI2_bl ha hb (nomark _)
theorem q_eq (hr : Room k X.A) (ha : EvE X W a fa) (hb : EvE X W b fb) : EvE X W (.Compare a [.Eq] [b] pos) (cOp (gEq false) fa fb) := ev_cmp (op_eqA (hu64 hr)) opd_eq ha hb (nomark _)
theorem t_eq (hr : Room k X.A) (ha : EvE X W a fa) (hb : EvE X W b fb) : EvT X W (.Compare a [.Eq] [b] pos) (cTru (cOp (gEq false) fa fb)) := et_cmp (op_eqA (hu64 hr)) opd_eq gEq_bl ha hb (nomark _)
theorem q_ne (hr : Room k X.A) (ha : EvE X W a fa) (hb : EvE X W b fb) : EvE X W (.Compare a [.NotEq] [b] pos) (cOp (gEq true) fa fb) := ev_cmp (op_neA (hu64 hr)) opd_ne ha hb (nomark _)
theorem t_ne (hr : Room k X.A) (ha : EvE X W a fa) (hb : EvE X W b fb) : EvT X W (.Compare a [.NotEq] [b] pos) (cTru (cOp (gEq true) fa fb)) := et_cmp (op_neA (hu64 hr)) opd_ne gEq_bl ha hb (nomark _)
theorem q_in (hr : Room k X.A) (ha : EvE X W a fa) (hb : EvE X W b fb) (hm : behindInMarks .In b = false := by with_unfolding_all rfl) : EvE X W (.Compare a [.In] [b] pos) (cOp (gIn false) fa fb) := ev_cmp (op_inA (hu65 hr)) opd_in ha hb hm
theorem t_in (hr : Room k X.A) (ha : EvE X W a fa) (hb : EvE X W b fb) (hm : behindInMarks .In b = false := by with_unfolding_all rfl) : EvT X W (.Compare a [.In] [b] pos) (cTru (cOp (gIn false) fa fb)) := et_cmp (op_inA (hu65 hr)) opd_in gIn_bl ha hb hm
theorem q_notin (hr : Room k X.A) (ha : EvE X W a fa) (hb : EvE X W b fb) (hm : behindInMarks .NotIn b = false := by with_unfolding_all rfl) : EvE X W (.Compare a [.NotIn] [b] pos) (cOp (gIn true) fa fb) := ev_cmp (op_notInA (hu65 hr)) opd_in ha hb hm
theorem t_notin (hr : Room k X.A) (ha : EvE X W a fa) (hb : EvE X W b fb) (hm : behindInMarks .NotIn b = false := by with_unfolding_all rfl) : EvT X W (.Compare a [.NotIn] [b] pos) (cTru (cOp (gIn true) fa fb)) := et_cmp (op_notInA (hu65 hr)) opd_in gIn_bl ha hb hm
theorem q_isN (ha : EvE X W a fa) (hb : EvE X W b fb) : EvE X W (.Compare a [.Is] [b] pos) (cOp (gIsN false) fa fb) := ev_cmp op_isN opd_isN ha hb (nomark _)
theorem t_isN (ha : EvE X W a fa) (hb : EvE X W b fb) : EvT X W (.Compare a [.Is] [b] pos) (cTru (cOp (gIsN false) fa fb)) := et_cmp op_isN opd_isN gIsN_bl ha hb (nomark _)
theorem q_notN (ha : EvE X W a fa) (hb : EvE X W b fb) : EvE X W (.Compare a [.IsNot] [b] pos) (cOp (gIsN true) fa fb) := ev_cmp op_notN opd_notN ha hb (nomark _)
theorem t_notN (ha : EvE X W a fa) (hb : EvE X W b fb) : EvT X W (.Compare a [.IsNot] [b] pos) (cTru (cOp (gIsN true) fa fb)) := et_cmp op_notN opd_notN gIsN_bl ha hb (nomark _)
theorem q_isB (ha : EvE X W a fa) (hb : EvE X W b fb) : EvE X W (.Compare a [.Is] [b] pos) (cOp (gIsB false) fa fb) := ev_cmp op_isBl opd_isB ha hb (nomark _)
theorem t_isB (ha : EvE X W a fa) (hb : EvE X W b fb) : EvT X W (.Compare a [.Is] [b] pos) (cTru (cOp (gIsB false) fa fb)) := et_cmp op_isBl opd_isB gIsB_bl ha hb (nomark _)
theorem q_notB (ha : EvE X W a fa) (hb : EvE X W b fb) : EvE X W (.Compare a [.IsNot] [b] pos) (cOp (gIsB true) fa fb) := ev_cmp op_notBl opd_notB ha hb (nomark _)
theorem t_notB (ha : EvE X W a fa) (hb : EvE X W b fb) : EvT X W (.Compare a [.IsNot] [b] pos) (cTru (cOp (gIsB true) fa fb)) := et_cmp op_notBl opd_notB gIsB_bl ha hb (nomark _)
end
end DL
/-! The data layer, part 18: calls by name, written constants. -/
namespace DL
open PySem PySem.Spec PyProof.Rows L2
/-- a def that may be called by its name -/
structure CalG (P : Program) (w : World) (K : PySem.W.Frag) (mg : Str → Option Value) (base : Heap) (k : Nat) (x : Str) (m : MF) : Prop where
  ex : ∃ f fd ps, FnG P w K mg base k f fd ps m ∧ mg x = some (.ref f) ∧ PySem.W.keepIn K (.ref f) = true ∧ Binds K fd ps []
theorem CalG.mono {P : Program} {w : World} {K : PySem.W.Frag} {mg : Str → Option Value} {base : Heap} {j k : Nat} {x : Str} {m : MF} (c : CalG P w K mg base j x m) (h : j ≤ k) : CalG P w K mg base k x m := by
  obtain ⟨f, fd, ps, F, r⟩ := c.ex
  exact ⟨f, fd, ps, F.mono h, r⟩
section
variable {X : Cx} {W : WX} {pos p : Pos} {e : Expr} {es : List Expr} {fr : AF} {k j : Nat} {m : MF} {x : Str}
theorem ev_cl (c : CalG X.prog X.w X.K X.mg X.base j x m) (hr : Room k X.A) (hjk : j ≤ k) (hgd : X.A.guards = some []) (tk : Takes X W) (ha : EvA X W (e :: es) fr) (hg : Gl X x := by rfl)
    (hdb : (x == ("__debug__" : Str)) = false := by decide) (he : starEach (e :: es) X.env = (false, eval e X.env) :: starEach es X.env := by rfl) (hpl : (backTo pos (starEach es X.env)).any (·.1) = false := by rfl) :
    EvE X W (.Call (.Name x p) (e :: es) [] pos) (cCall m fr) := by
  obtain ⟨f, fd, ps, F, h1, h2, h3⟩ := c.ex
  exact ev_call F (hr.mono hjk) hgd hg h1 h2 h3 tk ha hdb he hpl
theorem ev_cl0 (c : CalG X.prog X.w X.K X.mg X.base j x m) (hr : Room k X.A) (hjk : j ≤ k) (hgd : X.A.guards = some []) (tk : Takes X W) (hg : Gl X x := by rfl)
    (hdb : (x == ("__debug__" : Str)) = false := by decide) : EvE X W (.Call (.Name x p) [] [] pos) (cCall m aNil) := by
  obtain ⟨f, fd, ps, F, h1, h2, h3⟩ := c.ex
  exact ev_call0 F (hr.mono hjk) hgd hg h1 h2 h3 tk hdb
end
/-! ### what the written part holds -/
mutual
def konB (K : PySem.W.Frag) : Value → D → Bool
  | .none, .non => true
  | .bool a, .bl b => a == b
  | .int a _, .int b => a == b
  | .str a _, .str b => a == b
  | .ref a, .tup ds => match K.lookup a with
    | some o => (match o.cls with | .type t => t == "tuple" | _ => false) && (match o.data with | .seq its _ => decide (its.size ≤ 16777216) && konBs K its.toList ds | _ => false)
    | none => false
  | .ref a, .scr ds => match K.lookup a with
    | some o => (match o.cls with | .type t => t == "list" | _ => false) && o.dict.isNone && (match o.data with | .seq its _ => decide (its.size ≤ 16777216) && konBs K its.toList ds | _ => false)
    | none => false
  | _, _ => false
termination_by structural _ d => d
def konBs (K : PySem.W.Frag) : List Value → List D → Bool
  | [], [] => true
  | v :: vs, d :: ds => konB K v d && konBs K vs ds
  | _, _ => false
termination_by structural _ ds => ds
end
mutual
theorem konB_ok {K : PySem.W.Frag} : ∀ {v : Value} {d : D}, konB K v d = true → ∃ x, RelV x v ∧ ∀ I H, Rep K I H d x
  | v, .non, h => by
    cases v <;> simp only [konB] at h <;> first | (cases h; done) | skip
    exact ⟨.non, rfl, fun _ _ => rep_non⟩
  | v, .bl b, h => by
    cases v <;> simp only [konB] at h <;> first | (cases h; done) | skip
    rename_i a
    exact ⟨.bl b, by rw [beq_iff_eq.mp h]; rfl, fun _ _ => rep_bl⟩
  | v, .int b, h => by
    cases v <;> simp only [konB] at h <;> first | (cases h; done) | skip
    rename_i a t
    exact ⟨.int b, ⟨t, by rw [beq_iff_eq.mp h]⟩, fun _ _ => rep_int⟩
  | v, .str b, h => by
    cases v <;> simp only [konB] at h <;> first | (cases h; done) | skip
    rename_i a t
    exact ⟨.str b, ⟨t, by rw [beq_iff_eq.mp h]⟩, fun _ _ => rep_str⟩
  | v, .tup ds, h => by
    cases v <;> simp only [konB] at h <;> first | (cases h; done) | skip
    rename_i a
    split at h
    · rename_i o ho
      rw [Bool.and_eq_true] at h
      obtain ⟨h1, h2⟩ := h
      split at h1
      · rename_i t ht
        split at h2
        · rename_i its n hd
          rw [Bool.and_eq_true, decide_eq_true_eq] at h2
          obtain ⟨xs, r1, r2⟩ := konBs_ok h2.2
          refine ⟨.ref a, rfl, fun I H => ?_⟩
          simp only [Rep]
          exact ⟨a, xs, rfl, .inr ⟨o, its, n, ho, by rw [ht, beq_iff_eq.mp h1], hd, by rw [sizeLine_eq]; exact h2.1, r1⟩, r2 I H⟩
        · cases h2
      · cases h1
    · cases h
  | v, .scr ds, h => by
    cases v <;> simp only [konB] at h <;> first | (cases h; done) | skip
    rename_i a
    split at h
    · rename_i o ho
      rw [Bool.and_eq_true, Bool.and_eq_true] at h
      obtain ⟨⟨h1, h3⟩, h2⟩ := h
      split at h1
      · rename_i t ht
        split at h2
        · rename_i its n hd
          rw [Bool.and_eq_true, decide_eq_true_eq] at h2
          obtain ⟨xs, r1, r2⟩ := konBs_ok h2.2
          refine ⟨.ref a, rfl, fun I H => ?_⟩
          simp only [Rep]
          exact ⟨a, xs, rfl, .inr ⟨o, its, n, ho, by rw [ht, beq_iff_eq.mp h1], Option.isNone_iff_eq_none.mp h3, hd, by rw [sizeLine_eq]; exact h2.1, r1⟩, r2 I H⟩
        · cases h2
      · cases h1
    · cases h
  | v, .imm ds, h => by cases v <;> simp only [konB] at h <;> cases h
  | v, .cel n, h => by cases v <;> simp only [konB] at h <;> cases h
  | v, .dic n, h => by cases v <;> simp only [konB] at h <;> cases h
  | v, .ty n, h => by cases v <;> simp only [konB] at h <;> cases h
theorem konBs_ok {K : PySem.W.Frag} : ∀ {vs : List Value} {ds : List D}, konBs K vs ds = true → ∃ xs, Vals xs vs ∧ ∀ I H, Reps K I H ds xs
  | [], [], h => ⟨[], .nil, fun _ _ => by simp only [Reps]⟩
  | v :: vs, [], h => by simp only [konBs] at h; cases h
  | [], d :: ds, h => by simp only [konBs] at h; cases h
  | v :: vs, d :: ds, h => by
    simp only [konBs, Bool.and_eq_true] at h
    obtain ⟨x, r1, r2⟩ := konB_ok h.1
    obtain ⟨xs, s1, s2⟩ := konBs_ok h.2
    exact ⟨x :: xs, .cons r1 s1, fun I H => Reps.cons (r2 I H) (s2 I H)⟩
end
theorem ev_gl {X : Cx} {W : WX} {x : Str} {v : Value} {d : D} {pos : Pos} (hm : X.mg x = some v) (hk : konB X.K v d = true) (hg : Gl X x := by rfl) (hd : (x == ("__debug__" : Str)) = false := by decide) : EvE X W (.Name x pos) (cC d) := by
  obtain ⟨y, r, q⟩ := konB_ok hk
  exact ev_c (pe_glob hg hm r hd) q
end DL
/-! The data layer, part 19: chains as tests, comprehensions that make lists of the store. -/
namespace DL
open PySem PySem.Spec PyProof.Rows L2
section
variable {X : Cx} {W : WX} {K : PySem.W.Frag} {mg : Str → Option Value} {I I' : Ow} {H H' : Hp} {M M' : Store} {σ : L2.St} {en : Env}
variable {a b c d e tg iter elt : Expr} {es ifs : List Expr} {pos : Pos} {fa fb fc fd : EF} {fi : AF} {gt : GF} {t : TF} {f : EF} {Sl : List Nat} {g g' g'' : D → D → Store → Res D} {r r' r'' : R2}
theorem hu64m {A : Around} {k : Nat} {e : Option Value} (h : Room k A) : (A.mark e).units + 64 < cLine := (hu64 h : A.units + 64 < cLine)
/-- a reading of a value as a test, where the value is a bool or the code ends otherwise -/
theorem tst_imp {te : TE} {f : EF} (i : ∀ Q', TD X.K X.mg W (Rep X.K) f σ H Q' → te σ H Q') (hb : ∀ en M x M', f en M = some (.ok x, M') → ∃ b, x = .bl b) {Q : Bool → Hp → Prop} (h : TD X.K X.mg W RB (cTru f) σ H Q) : tTest te σ H Q := test_imp i h hb
theorem ch2_bl (hg : ∀ a b M x M', g' a b M = some (.ok x, M') → ∃ b, x = .bl b) : ∀ en M x M', cCh2 g g' fa fb fc en M = some (.ok x, M') → ∃ b, x = .bl b := by
  intro en M x M' h
  unfold cCh2 at h
  match q : fa en M, h with
  | some (.ok u, M1), h =>
    have h : bnd (fb en M1) (fun y M2 => bnd (g u y M2) fun z M3 => match z with
      | .bl true => bnd (fc en M3) fun w M4 => g' y w M4
      | .bl false => some (.ok (.bl false), M3)
      | _ => none) = some (.ok x, M') := h
    match q2 : fb en M1, h with
    | some (.ok v, M2), h =>
      have h : bnd (g u v M2) (fun z M3 => match z with
        | .bl true => bnd (fc en M3) fun w M4 => g' v w M4
        | .bl false => some (.ok (.bl false), M3)
        | _ => none) = some (.ok x, M') := h
      match q3 : g u v M2, h with
      | some (.ok (.bl true), M3), h =>
        have h : bnd (fc en M3) (fun w M4 => g' v w M4) = some (.ok x, M') := h
        match q4 : fc en M3, h with
        | some (.ok w, M4), h => exact hg _ _ _ _ _ h
      | some (.ok (.bl false), M3), h => cases h; exact ⟨_, rfl⟩
theorem et_chn {ops : List CmpOp} {rs : List Expr} {te : TE} (hp : PT X (.Compare a ops rs pos) (tTest te)) (i : ∀ σ H Q', TD X.K X.mg W (Rep X.K) f σ H Q' → te σ H Q') (hb : ∀ en M x M', f en M = some (.ok x, M') → ∃ b, x = .bl b) : EvT X W (.Compare a ops rs pos) (cTru f) :=
  ⟨pt_imp hp fun σ H Q h => tst_imp (i σ H) hb h⟩
theorem ch2_read {ta tb tc : TE} (hg : OpD X.K X.mg W g r) (hg' : OpD X.K X.mg W g' r') {Q : VK} (h : TD X.K X.mg W (Rep X.K) (cCh2 g g' fa fb fc) σ H Q) : tChain r r' (TD X.K X.mg W (Rep X.K) fa) (TD X.K X.mg W (Rep X.K) fb) (TD X.K X.mg W (Rep X.K) fc) σ H Q := by
  obtain ⟨I, M, en, S, re, k⟩ := h
  refine ⟨I, M, en, S, re, k.bind fun x M1 I1 H1 u e1 S1 r1 k1 => ?_⟩
  refine ⟨I1, M1, en, S1, re.mono e1, k1.bind fun y M2 I2 H2 v e2 S2 r2 k2 => ?_⟩
  refine hg x y M2 I2 H2 u v σ _ S2 (e2.rep r1) r2 (k2.bind fun z M3 I3 H3 w e3 S3 r3 k3 => ?_)
  cases z <;> (try exact k3.elim)
  rename_i bb
  simp only [Rep] at r3
  refine ⟨bb, r3, ?_⟩
  cases bb with
  | false => exact (if_neg Bool.false_ne_true).mpr (k3.ok S3 rep_bl)
  | true =>
    refine (if_pos rfl).mpr ⟨I3, M3, en, S3, ((re.mono e1).mono e2).mono e3, Kp.bind k3 fun w' M4 I4 H4 w2 e4 S4 r4 k4 => ?_⟩
    exact hg' y w' M4 I4 H4 v w2 σ _ S4 (e4.rep (e3.rep r2)) r4 k4
theorem et_ch2 {op op' : CmpOp} (ho : OpR X (compareOp op) r) (hg : OpD X.K X.mg W g r) (ho' : OpR X (compareOp op') r') (hg' : OpD X.K X.mg W g' r') (ha : EvE X W a fa) (hb : EvE X W b fb) (hc : EvE X W c fc)
    (hbl : ∀ a b M x M', g' a b M = some (.ok x, M') → ∃ b, x = .bl b := by first | exact gI2_bl | exact gEq_bl) (hm : lastMarks [op, op'] [b, c] = false := by with_unfolding_all rfl) : EvT X W (.Compare a [op, op'] [b, c] pos) (cTru (cCh2 g g' fa fb fc)) :=
  et_chn (pt_chain ho ho' ha.pe hb.pe hc.pe hm) (fun _ _ _ h => ch2_read (ta := TD X.K X.mg W (Rep X.K) fa) (tb := TD X.K X.mg W (Rep X.K) fb) (tc := TD X.K X.mg W (Rep X.K) fc) hg hg' h) (ch2_bl hbl)
theorem ev_lcC {scope : Scope} {own : List (Str × Nat)} (hc : X.calm = true) (hN : X.N.Nodup) (hi : EvI X W tg iter fi) (ok : BlkOk X.N X.env.scope scope own) (hS : ∀ k ∈ Sl, k ∈ own.map (·.2))
    (hg : ∀ (s : Shared) (H : Hp) (C : Addr) (cl : List (Str × Addr)) (fp : List Addr), EvG (X.blk s H scope (compEnvC scope cl C X.env) fp) tg Sl gt)
    (ht : ∀ (s : Shared) (H : Hp) (C : Addr) (cl : List (Str × Addr)) (fp : List Addr), EvTs (X.blk s H scope (compEnvC scope cl C X.env) fp) W0 ifs t)
    (he : ∀ (s : Shared) (H : Hp) (C : Addr) (cl : List (Str × Addr)) (fp : List Addr), EvE (X.blk s H scope (compEnvC scope cl C X.env) fp) W0 elt f) (hs : ∀ x, foldedSetIterable iter X.env x = pure x := by intro _; rfl) :
    EvE X W (.ListComp elt [⟨tg, iter, ifs, 0⟩] scope pos) (cLcC fi gt t f (own.map (·.2))) :=
  ⟨pe_imp (pe_lc (g := TG_ X.K Sl gt) (tt := TD X.K X.mg W0 RB t) (te := TD X.K X.mg W0 (Rep X.K) f) hc hN hi.pi ok (fun s H C cl fp => (hg s H C cl fp).pg) (fun s H C cl fp => (ht s H C cl fp).pts) (fun s H C cl fp => (he s H C cl fp).pe) hs) fun _ _ _ h => lc_readG mkC_ok hS h⟩
end
end DL
/-! The data layer, part 20: how the mirrors are worked out. -/
namespace DL
open PySem PySem.Spec PyProof.Rows L2
section
variable {en en1 : Env} {M M1 M2 : Store} {d d1 d2 : D} {ds es : List D} {fa fb fc fd : EF} {fr : AF} {p q : SF} {t u : TF} {i j : Nat} {a b : Int} {g : D → D → Store → Res D}
@[simp] theorem cVar_e : cVar i en M = match en[i]? with | some (some d) => some (.ok d, M) | _ => none := rfl
@[simp] theorem cC_e : cC d en M = some (.ok d, M) := rfl
@[simp] theorem cOp_e : cOp g fa fb en M = bnd (fa en M) fun x M1 => bnd (fb en M1) fun y M2 => g x y M2 := rfl
@[simp] theorem cUn_e {g : D → Store → Res D} : cUn g fa en M = bnd (fa en M) fun x M1 => g x M1 := rfl
@[simp] theorem aNil_e : aNil en M = some (.ok [], M) := rfl
@[simp] theorem aCons_e : aCons fa fr en M = bnd (fa en M) fun x M1 => bnd (fr en M1) fun xs M2 => some (.ok (x :: xs), M2) := rfl
@[simp] theorem cCall_e {g : List D → Store → Res D} : cCall g fr en M = bnd (fr en M) fun xs M1 => g xs M1 := rfl
@[simp] theorem cTup_e : cTup fr en M = bnd (fr en M) fun ds M1 => if szOk ds.length = true then some (.ok (.tup ds), M1) else none := rfl
@[simp] theorem cLst_e : cLst fr en M = bnd (fr en M) fun ds M1 => if szOk ds.length = true then some (.ok (.imm ds), M1) else none := rfl
@[simp] theorem cCel_e : cCel fr en M = bnd (fr en M) fun ds M1 => if szOk ds.length = true then some (.ok (.cel M1.length), M1 ++ [ds]) else none := rfl
@[simp] theorem cAnd_e : cAnd fa fb en M = bnd (fa en M) fun x M1 => match tru M1 x with | some true => fb en M1 | some false => some (.ok x, M1) | none => none := rfl
@[simp] theorem cOr_e : cOr fa fb en M = bnd (fa en M) fun x M1 => match tru M1 x with | some true => some (.ok x, M1) | some false => fb en M1 | none => none := rfl
@[simp] theorem cNot_e : cNot fa en M = bnd (fa en M) fun x M1 => match tru M1 x with | some b => some (.ok (.bl (!b)), M1) | none => none := rfl
@[simp] theorem cTru_e : cTru fa en M = bnd (fa en M) fun x M1 => match tru M1 x with | some b => some (.ok b, M1) | none => none := rfl
@[simp] theorem tAndC_e : tAndC t u en M = bnd (t en M) fun x M1 => if x = true then u en M1 else some (.ok false, M1) := rfl
@[simp] theorem tOrC_e : tOrC t u en M = bnd (t en M) fun x M1 => if x = true then some (.ok true, M1) else u en M1 := rfl
@[simp] theorem tNotC_e : tNotC t en M = bnd (t en M) fun x M1 => some (.ok (!x), M1) := rfl
@[simp] theorem cIf_e : cIf t fa fb en M = bnd (t en M) fun x M1 => if x = true then fa en M1 else fb en M1 := rfl
@[simp] theorem cCh2_e {g g' : D → D → Store → Res D} : cCh2 g g' fa fb fc en M = bnd (fa en M) fun x M1 => bnd (fb en M1) fun y M2 => bnd (g x y M2) fun z M3 => match z with
  | .bl true => bnd (fc en M3) fun w M4 => g' y w M4
  | .bl false => some (.ok (.bl false), M3)
  | _ => none := rfl
@[simp] theorem cCh3_e {g g' g'' : D → D → Store → Res D} : cCh3 g g' g'' fa fb fc fd en M = bnd (fa en M) fun x M1 => bnd (fb en M1) fun y M2 => bnd (g x y M2) fun z M3 => match z with
  | .bl true => bnd (fc en M3) fun w M4 => bnd (g' y w M4) fun z' M5 => (match z' with
    | .bl true => bnd (fd en M5) fun u M6 => g'' w u M6
    | .bl false => some (.ok (.bl false), M5)
    | _ => none)
  | .bl false => some (.ok (.bl false), M3)
  | _ => none := rfl
@[simp] theorem cBits_e : cBits fa en M = bnd (fa en M) fun x M1 => match x with | .int i => some (.ok (.int (Builtin.Int.intBits i : Nat)), M1) | _ => none := rfl
@[simp] theorem cApp_e : cApp fa fb en M = bnd (fa en M) fun x M1 => match x with
  | .cel n => if n < M1.length then bnd (fb en M1) fun y M2 => match M2[n]? with
    | some ds => if szOk (ds.length + 1) = true then some (.ok .non, M2.set n (ds ++ [y])) else none
    | none => none
    else none
  | _ => none := rfl
/-! values -/
@[simp] theorem gI_e {C : Int → Int → Bool} {f : Int → Int → D} : gI C f (.int a) (.int b) M = if C a b = true then some (.ok (f a b), M) else none := rfl
@[simp] theorem yes2_e : yes2 a b = true := (rfl)
@[simp] theorem gAddA_i : gAddA (.int a) (.int b) M = some (.ok (.int (a + b)), M) := rfl
@[simp] theorem gAddA_t : gAddA (.tup ds) (.tup es) M = if szOk (ds.length + es.length) = true then some (.ok (.tup (ds ++ es)), M) else none := rfl
@[simp] theorem gAddA_l : gAddA (.imm ds) (.imm es) M = if szOk (ds.length + es.length) = true then some (.ok (.imm (ds ++ es)), M) else none := rfl
@[simp] theorem gNeg_e : gNeg (.int a) M = some (.ok (.int (-a)), M) := rfl
@[simp] theorem gAbs_e : gAbs [.int a] M = some (.ok (.int (if a < 0 then -a else a)), M) := rfl
@[simp] theorem gInt_i : gInt [.int a] M = some (.ok (.int a), M) := rfl
@[simp] theorem gInt_b {k : Bool} : gInt [.bl k] M = some (.ok (.int (if k = true then 1 else 0)), M) := rfl
@[simp] theorem gLen_t : gLen [.tup ds] M = some (.ok (.int ds.length), M) := rfl
@[simp] theorem gLen_l : gLen [.imm ds] M = some (.ok (.int ds.length), M) := rfl
@[simp] theorem gLen_s : gLen [.scr ds] M = some (.ok (.int ds.length), M) := rfl
@[simp] theorem gTuple_t : gTuple [.tup ds] M = some (.ok (.tup ds), M) := rfl
@[simp] theorem gTuple_l : gTuple [.imm ds] M = some (.ok (.tup ds), M) := rfl
@[simp] theorem gList_t : gList [.tup ds] M = some (.ok (.imm ds), M) := rfl
@[simp] theorem gList_l : gList [.imm ds] M = some (.ok (.imm ds), M) := rfl
@[simp] theorem tru_bl {k : Bool} : tru M (.bl k) = some k := rfl
@[simp] theorem tru_int : tru M (.int a) = some (a != 0) := rfl
@[simp] theorem tru_tup : tru M (.tup ds) = some (!ds.isEmpty) := rfl
@[simp] theorem tru_imm : tru M (.imm ds) = some (!ds.isEmpty) := rfl
@[simp] theorem items_t : itemsOf M (.tup ds) = some ds := rfl
@[simp] theorem items_l : itemsOf M (.imm ds) = some ds := rfl
@[simp] theorem items_s : itemsOf M (.scr ds) = some ds := rfl
@[simp] theorem items_c : itemsOf M (.cel i) = M[i]? := rfl
@[simp] theorem gMax_e : gMax [.int a, .int b] M = some (.ok (.int (if b > a then b else a)), M) := rfl
@[simp] theorem gMin_e : gMin [.int a, .int b] M = some (.ok (.int (if b < a then b else a)), M) := rfl
theorem atI_nat (h : i < ds.length) : atI ds (i : Int) = some ds[i] := by
  unfold atI
  rw [show ixN ds.length (i : Int) = some i by
    unfold ixN
    first | (simp; omega) | (split <;> simp_all <;> omega)]
  exact List.getElem?_eq_getElem h
theorem gIx_t (h : itemsOf M d = some ds) (h2 : atI ds a = some d1) : gIx d (.int a) M = some (.ok d1, M) := by
  unfold gIx
  simp only [h, h2]
/-! statements -/
theorem sSeq_nx {en1 : Env} (h : p en M = some (.nx en1, M1)) : sSeq p q en M = q en1 M1 := by unfold sSeq; rw [h]
theorem sSeq_rt (h : p en M = some (.rt d, M1)) : sSeq p q en M = some (.rt d, M1) := by unfold sSeq; rw [h]
@[simp] theorem sSkip_e : sSkip en M = some (.nx en, M) := rfl
@[simp] theorem sBreak_e : sBreak en M = some (.bk en, M) := rfl
@[simp] theorem sCont_e : sCont en M = some (.ct en, M) := rfl
@[simp] theorem sRetN_e : sRetN en M = some (.rt .non, M) := rfl
@[simp] theorem sSeq_e : sSeq p q en M = match p en M with | some (.nx en1, M1) => q en1 M1 | o => o := rfl
@[simp] theorem sExpr_e : sExpr fa en M = sbnd (fa en M) en fun _ M1 => some (.nx en, M1) := rfl
@[simp] theorem sRet_e : sRet fa en M = sbnd (fa en M) en fun d M1 => some (.rt d, M1) := rfl
@[simp] theorem sIf_e : sIf t p q en M = sbnd (t en M) en fun x M1 => if x = true then p en M1 else q en M1 := rfl
@[simp] theorem sAsg_e {g : GF} : sAsg fa g en M = sbnd (fa en M) en fun d M1 => match g d en M1 with | some (en', M2) => some (.nx en', M2) | none => none := rfl
@[simp] theorem gN_e : gN i d en M = some (en.set i (some d), M) := rfl
@[simp] theorem sPar_e : sPar i j fr en M = sbnd (fr en M) en fun ds M1 => match ds with | [d, d'] => some (.nx ((en.set i (some d)).set j (some d')), M1) | _ => none := rfl
@[simp] theorem sAug_e {g : D → D → Store → Res D} : sAug i g fa en M = match en[i]? with
  | some (some d) => sbnd (fa en M) en fun y M1 => sbnd (g d y M1) en fun z M2 => some (.nx (en.set i (some z)), M2)
  | _ => none := rfl
@[simp] theorem sRaise_e {c : Str} : sRaise c fr en M = sbnd (fr en M) en fun ds M1 => match ds with | [d] => some (.ex c [("reason", d)] en, M1) | _ => none := rfl
@[simp] theorem gNil_e : gNilC [] en M = some (en, M) := rfl
@[simp] theorem gCons_e {g : GF} {gs : GsF} : gConsC g gs (d :: ds) en M = match g d en M with | some (en1, M1) => gs ds en1 M1 | none => none := rfl
@[simp] theorem gTup_e {n : Nat} {gs : GsF} : gTupC n gs d en M = match itemsOf M d with | some ds => if ds.length = n then gs ds en M else none | none => none := rfl
@[simp] theorem sFor_e {fi : AF} {g : GF} : sFor fi g p en M = sbnd (fi en M) en fun ds M1 => fLoop g p ds en M1 := rfl
@[simp] theorem fLoop_nil {g : GF} : fLoop g p [] en M = some (.nx en, M) := rfl
theorem fLoop_cons {g : GF} : fLoop g p (d :: ds) en M = match g d en M with
    | none => none
    | some (en1, M1) => match p en1 M1 with
      | some (.nx en2, M2) => fLoop g p ds en2 M2
      | some (.ct en2, M2) => fLoop g p ds en2 M2
      | some (.bk en2, M2) => some (.nx en2, M2)
      | o => o := rfl
/-- what a walk over a value goes through -/
def seqI : D → Option (List D)
  | .tup ds => some ds
  | .imm ds => some ds
  | .scr ds => some ds
  | _ => none
@[simp] theorem seqI_t : seqI (.tup ds) = some ds := rfl
@[simp] theorem seqI_l : seqI (.imm ds) = some ds := rfl
@[simp] theorem seqI_s : seqI (.scr ds) = some ds := rfl
@[simp] theorem iSeq_e : iSeq fa en M = bnd (fa en M) fun x M1 => match seqI x with | some ds => some (.ok ds, M1) | none => none := by
  unfold iSeq
  congr
  funext x M1
  cases x <;> rfl
/-! a call's end -/
@[simp] theorem fin_nx : fin (some (.nx en, M)) = some (.ok .non, M) := rfl
@[simp] theorem fin_rt : fin (some (.rt d, M)) = some (.ok d, M) := rfl
@[simp] theorem fin_ex {c : Str} {fs : List (Str × D)} : fin (some (.ex c fs en, M)) = some (.ex c fs, M) := rfl
@[simp] theorem clo_int {n : Nat} : clo n (.int a) = true := (rfl)
@[simp] theorem clo_bl {n : Nat} {k : Bool} : clo n (.bl k) = true := (rfl)
@[simp] theorem clo_non {n : Nat} : clo n .non = true := (rfl)
@[simp] theorem clo_str {n : Nat} {s : Str} : clo n (.str s) = true := (rfl)
@[simp] theorem clo_tup {n : Nat} : clo n (.tup ds) = clos n ds := by simp only [clo]
@[simp] theorem clo_imm {n : Nat} : clo n (.imm ds) = clos n ds := by simp only [clo]
@[simp] theorem clos_nil {n : Nat} : clos n [] = true := (rfl)
@[simp] theorem clos_cons {n : Nat} : clos n (d :: ds) = (clo n d && clos n ds) := by simp only [clos]
theorem clos_all {n : Nat} : ∀ {ds : List D}, (∀ d ∈ ds, clo n d = true) → clos n ds = true
  | [], _ => rfl
  | d :: ds, h => by
    simp only [clos_cons, Bool.and_eq_true]
    exact ⟨h d List.mem_cons_self, clos_all fun e he => h e (List.mem_cons_of_mem _ he)⟩
@[simp] theorem clos_map {α : Type} {n : Nat} {f : α → D} {l : List α} (h : ∀ x, clo n (f x) = true) : clos n (l.map f) = true := clos_all fun d hd => by
  obtain ⟨x, _, rfl⟩ := List.mem_map.mp hd
  exact h x
def notCel : D → Bool
  | .cel _ => false
  | _ => true
theorem tidy_take {L : Store} : Tidy M (M ++ L) ∧ (M ++ L).take M.length = M := ⟨Tidy.none, by simp⟩
theorem gcF_ok {L : Store} (h : clo M.length d = true) (hn : notCel d = true) : gcF M (some (.ok d, M ++ L)) = some (.ok d, M) := by
  unfold gcF
  dsimp only
  rw [if_pos Tidy.none, tidy_take.2]
  cases d <;> first | exact absurd hn Bool.false_ne_true | exact if_pos h
@[simp] theorem gcF_ok0 (h : clo M.length d = true) (hn : notCel d = true) : gcF M (some (.ok d, M)) = some (.ok d, M) := by
  have := gcF_ok (L := []) h hn
  simpa using this
@[simp] theorem notCel_int : notCel (.int a) = true := (rfl)
@[simp] theorem notCel_bl {k : Bool} : notCel (.bl k) = true := (rfl)
@[simp] theorem notCel_non : notCel .non = true := (rfl)
@[simp] theorem notCel_tup : notCel (.tup ds) = true := (rfl)
@[simp] theorem notCel_imm : notCel (.imm ds) = true := (rfl)
/-- a list of the store that is given back -/
theorem gcF_cel {L : Store} (h : (M ++ L)[j]? = some ds) (hj : M.length ≤ j) (hc : clos M.length ds = true) : gcF M (some (.ok (.cel j), M ++ L)) = some (.ok (.imm ds), M) := by
  unfold gcF
  dsimp only
  rw [if_pos Tidy.none, if_neg (Nat.not_lt.mpr hj), h]
  dsimp only
  rw [if_pos hc, tidy_take.2]
theorem gcF_ex {L : Store} {c : Str} {fs : List (Str × D)} (h : clos M.length (fs.map (·.2)) = true) : gcF M (some (.ex c fs, M ++ L)) = some (.ex c fs, M) := by
  unfold gcF
  dsimp only
  rw [if_pos ⟨Tidy.none, h⟩, tidy_take.2]
@[simp] theorem gcF_ex0 {c : Str} {fs : List (Str × D)} (h : clos M.length (fs.map (·.2)) = true) : gcF M (some (.ex c fs, M)) = some (.ex c fs, M) := by
  have := gcF_ex (L := []) (c := c) h
  simpa using this
theorem mDef_e {np n : Nat} {body : SF} (h : ds.length = np) : mDef np n body ds M = gcF M (fin (body (start0 n ds) M)) := if_pos h
@[simp] theorem szOk_3 : szOk 3 = true := by decide
@[simp] theorem szOk_2 : szOk 2 = true := by decide
@[simp] theorem szOk_1 : szOk 1 = true := by decide
@[simp] theorem szOk_0 : szOk 0 = true := by decide
/-- a loop known by its end -/
theorem sWhile_of {n : Nat} {r : Fl × Store} (h : wLoop t p n en M = some r) : sWhile t p en M = some r := sWhile_eq h
theorem wLoop_stop {n : Nat} (h : t en M = some (.ok false, M1)) : wLoop t p (n + 1) en M = some (.nx en, M1) := by unfold wLoop; rw [h]; rfl
theorem wLoop_more {n : Nat} (h : t en M = some (.ok true, M1)) (h2 : p en M1 = some (.nx en1, M2)) : wLoop t p (n + 1) en M = wLoop t p n en1 M2 := by
  show sbnd (t en M) en _ = _
  rw [h, sbnd_ok, if_pos rfl, h2]
theorem sWhile_stop (h : t en M = some (.ok false, M1)) : sWhile t p en M = some (.nx en, M1) := sWhile_eq (n := 1) (wLoop_stop h)
theorem sWhile_more {r : Fl × Store} (h : t en M = some (.ok true, M1)) (h2 : p en M1 = some (.nx en1, M2)) (h3 : sWhile t p en1 M2 = some r) : sWhile t p en M = some r := by
  unfold sWhile at h3
  split at h3
  · rename_i hx
    refine sWhile_eq (n := Classical.choose hx + 1) ?_
    rw [wLoop_more h h2]
    exact h3
  · cases h3
end
end DL
/-! The data layer, part 21: a comprehension, a loop over a list of the store that stays as it is meanwhile. -/
namespace DL
open PySem PySem.Spec PyProof.Rows L2
section
variable {X : Cx} {W : WX} {K : PySem.W.Frag} {mg : Str → Option Value} {I I' : Ow} {H H' : Hp} {M M' : Store} {σ : L2.St} {en : Env} {Z : Ends}
variable {a b c e tg iter elt : Expr} {es ifs : List Expr} {body : List Stmt} {pos : Pos} {fa fb fc : EF} {g : GF} {t : TF} {f : EF} {p : SF} {Sl : List Nat}
def IterP (K : PySem.W.Frag) (n : Nat) (I0 : Ow) (H0 : Hp) (ds : List D) (J : It) : Prop :=
  ∀ I H M, Ext I0 H0 I H → Sto K I H M → M[n]? = some ds → ∀ i, (∀ d, ds[i]? = some d → J.go i H ∧ ∀ x H', J.yld i H x H' → (H' = H ∨ ∃ p o, H p = none ∧ H' = upd H p o) ∧ Rep K I H' d x) ∧ (ds.length ≤ i → J.stop i H)
/-- M1: the store where the walk begins -/
def TIP_ (K : PySem.W.Frag) (mg : Str → Option Value) (W : WX) (f : Env → Store → Res Nat) : TI := fun σ H Q =>
  ∃ I M en, Sto K I H M ∧ RepE K I H en σ ∧ Kp K mg W (fun I H n J => ∀ ds, ∀ (_ : True), IterP K n I H ds J) (f en M) I H σ Q
structure EvIP (X : Cx) (W : WX) (tg iter : Expr) (f : Env → Store → Res Nat) : Prop where
  pi : PI X tg iter (TIP_ X.K X.mg W f)
def iCel (fa : EF) : Env → Store → Res Nat := fun en M => bnd (fa en M) fun x M1 => match x with | .cel n => if n < M1.length then some (.ok n, M1) else none | _ => none
theorem ei_cel (ha : EvE X W a fa) : EvIP X W tg a (iCel fa) := by
  refine ⟨pi_imp (pi_seqR ha.pe) fun σ H R h => ?_⟩
  obtain ⟨I, M, en, S, r, k⟩ := h
  refine ⟨I, M, en, S, r, k.bind fun x M1 I1 H1 u e1 S1 r1 k1 => ?_⟩
  cases x <;> (try exact k1.elim)
  rename_i n
  dsimp only at k1
  split at k1
  case isFalse => exact k1.elim
  rename_i hn
  simp only [Rep] at r1
  obtain ⟨p, rfl, hp⟩ := r1
  obtain ⟨vs, h3, _⟩ := S1.at_ n p _ hp (List.getElem?_eq_getElem hn)
  refine ⟨p, rfl, .inl ⟨⟨vs, .inl (.inl h3)⟩, Kp.ok (M := M1) k1 S1 ?_⟩⟩
  intro ds _ I2 H2 M2 e2 S2 hfx i
  obtain ⟨us, h4, h5⟩ := S2.at_ n p ds (e2.get hp) hfx
  refine ⟨fun d hd => ?_, fun hl => ⟨us, .inl (.inl h4), by rw [← h5.length]; exact hl⟩⟩
  obtain ⟨v, hv, rv⟩ := h5.get' hd
  refine ⟨⟨us, v, .inl (.inl h4), hv⟩, fun x H' hy => ?_⟩
  obtain ⟨rfl, hx⟩ := hy
  have z := hx us (.inl (.inl h4))
  rw [hv] at z
  cases z
  exact ⟨.inl rfl, rv⟩
open Classical in
noncomputable def compFP (n : Nat) (ds0 : List D) (g : GF) (t : TF) (f : EF) (en : Env) : List D → Store → Option (List D × Store)
  | [], M => if M[n]? = some ds0 then some ([], M) else none
  | d :: ds, M => if M[n]? = some ds0 then (match g d en M with
    | none => none
    | some (en1, M1) => match t en1 M1 with
      | some (.ok true, M2) => match f en1 M2 with
        | some (.ok y, M3) => match compFP n ds0 g t f en ds M3 with
          | some (ys, M4) => some (y :: ys, M4)
          | none => none
        | _ => none
      | some (.ok false, M2) => compFP n ds0 g t f en ds M2
      | _ => none) else none
theorem compFP_fix {n : Nat} {ds0 ds : List D} {z : List D × Store} (h : compFP n ds0 g t f en ds M = some z) : M[n]? = some ds0 := by
  cases ds <;> (unfold compFP at h; split at h; assumption; cases h)
noncomputable def cLcP (mk : List D → Store → D × Store) (fi : Env → Store → Res Nat) (g : GF) (t : TF) (f : EF) (vs : List Nat) : EF := fun en M => bnd (fi en M) fun n M1 => match M1[n]? with
  | some ds => if szOk ds.length = true then (match compFP n ds g t f (wipeE en vs) ds M1 with | some (ys, M2) => some (.ok (mk ys M2).1, (mk ys M2).2) | none => none) else none
  | none => none
theorem lc_readP {fi : Env → Store → Res Nat} {mk : List D → Store → D × Store} (hmk : MkOk K mk) {vs : List Nat} (hS : ∀ k ∈ Sl, k ∈ vs) {Q : VK} (h : TD K mg W (Rep K) (cLcP mk fi g t f vs) σ H Q) :
    tLc (TIP_ K mg W fi) (TG_ K Sl g) (TD K mg W0 RB t) (TD K mg W0 (Rep K) f) vs σ H Q := by
  obtain ⟨I, M, en, S, r, k⟩ := h
  refine ⟨I, M, en, S, r, k.bind fun nc M1 I1 H1 J e1 S1 rJ k1 => ?_⟩
  intro Dl hD
  cases hds : M1[nc]? with
  | none => rw [hds] at k1; exact k1.elim
  | some ds =>
  rw [hds] at k1
  dsimp only at k1
  split at k1
  case isFalse => exact k1.elim
  rename_i qsz
  have r1 := r.mono e1
  cases hz : compFP nc ds g t f (wipeE en vs) ds M1 with
  | none => rw [hz] at k1; exact k1.elim
  | some z =>
  obtain ⟨out, Mz⟩ := z
  rw [hz] at k1
  have k1 : Kp K mg W (Rep K) (some (.ok (mk out Mz).1, (mk out Mz).2)) I1 H1 σ Q := k1
  have hDf : Dl ∉ I1.p := (S1.fresh hD).2
  refine ⟨fun i m H => i ≤ ds.length ∧ m = ds.length - i ∧ ∃ (I2 : Ow) (M2 : Store) (acc : List D) (av : List V), Ext I1 H1 I2 H ∧ Dl ∈ I2.p ∧ Sto K I2 H M2 ∧ H Dl = some (.lst av) ∧ Reps K I2 H acc av ∧ acc.length ≤ i ∧
      RepE K I2 H (wipeE en vs) (wipe σ vs) ∧ ∃ ys, compFP nc ds g t f (wipeE en vs) (ds.drop i) M2 = some (ys, Mz) ∧ acc ++ ys = out, ⟨ds.length, ?_⟩, ?_⟩
  · exact ⟨Nat.zero_le _, rfl, I1.hide Dl, M1, [], [], Ext.hide hD, List.mem_cons_self, S1.hide hD, upd_same, by simp only [Reps], Nat.le_refl _, (r1.wipe vs).mono (Ext.hide hD), out, hz, rfl⟩
  · rintro i m H2 ⟨hi2, rfl, I2, M2, acc, av, e2, hpm, S2, hDl, ra, hal, r2, ys, hc2, hout⟩
    have hfx : M2[nc]? = some ds := compFP_fix hc2
    obtain ⟨g1, g2⟩ := rJ ds trivial I2 H2 M2 e2 S2 hfx i
    by_cases hlt : i < ds.length
    · obtain ⟨go, yl⟩ := g1 ds[i] (List.getElem?_eq_getElem hlt)
      refine .inr ⟨go, fun H' => ∃ m', m' < ds.length - i ∧ (i + 1 ≤ ds.length ∧ m' = ds.length - (i + 1) ∧ ∃ (I2 : Ow) (M2 : Store) (acc : List D) (av : List V), Ext I1 H1 I2 H' ∧ Dl ∈ I2.p ∧ Sto K I2 H' M2 ∧ H' Dl = some (.lst av) ∧ Reps K I2 H' acc av ∧ acc.length ≤ i + 1 ∧
        RepE K I2 H' (wipeE en vs) (wipe σ vs) ∧ ∃ ys, compFP nc ds g t f (wipeE en vs) (ds.drop (i + 1)) M2 = some (ys, Mz) ∧ acc ++ ys = out), fun _ z => z, fun x H3 hy => ?_⟩
      obtain ⟨ht3, rx⟩ := yl x H3 hy
      rw [List.drop_eq_getElem_cons hlt] at hc2
      have e3 : Ext I2 H2 I2 H3 := Ext.turn ht3
      have S3 : Sto K I2 H3 M2 := S2.turn ht3
      refine ⟨I2, M2, wipeE en vs, ds[i], S3, r2.mono e3, rx, ?_⟩
      unfold compFP at hc2
      rw [if_pos hfx] at hc2
      revert hc2
      cases q1 : g ds[i] (wipeE en vs) M2 with
      | none => exact fun z => nomatch z
      | some z1 =>
      obtain ⟨en1, M3⟩ := z1
      dsimp only
      intro hc2 I4 H4 σ4 e4 S4 r4 l4 o4
      have hw : wipe σ4 vs = wipe σ vs := wipe_same l4 fun k hk => o4 k fun z => hk (hS k z)
      refine ⟨hw, I4, M3, en1, S4, r4, ?_⟩
      have e24 := e3.trans e4
      -- what holds at the next turn, from a later state
      have next : ∀ {I5 : Ow} {H5 : Hp} {M5 : Store} {ys5 : List D}, Ext I4 H4 I5 H5 → Sto K I5 H5 M5 → compFP nc ds g t f (wipeE en vs) (ds.drop (i + 1)) M5 = some (ys5, Mz) → acc ++ ys5 = out →
          ∃ m', m' < ds.length - i ∧ (i + 1 ≤ ds.length ∧ m' = ds.length - (i + 1) ∧ ∃ (I2 : Ow) (M2 : Store) (acc : List D) (av : List V), Ext I1 H1 I2 H5 ∧ Dl ∈ I2.p ∧ Sto K I2 H5 M2 ∧ H5 Dl = some (.lst av) ∧ Reps K I2 H5 acc av ∧ acc.length ≤ i + 1 ∧
            RepE K I2 H5 (wipeE en vs) (wipe σ vs) ∧ ∃ ys, compFP nc ds g t f (wipeE en vs) (ds.drop (i + 1)) M2 = some (ys, Mz) ∧ acc ++ ys = out) := by
        intro I5 H5 M5 ys5 e5 S5 hc5 ho5
        have e25 := e24.trans e5
        exact ⟨_, by omega, hlt, rfl, I5, M5, acc, av, e2.trans e25, e25.mem hpm, S5, e25.keep _ _ hDl (S2.dis Dl hpm).1, e25.reps ra, Nat.le_succ_of_le hal, r2.mono e25, ys5, hc5, ho5⟩
      revert hc2
      cases q2 : t en1 M3 with
      | none => exact fun z => nomatch z
      | some z2 =>
      obtain ⟨o2, M4⟩ := z2
      cases o2 with
      | ex _ _ => exact fun z => nomatch z
      | ok b =>
      cases b with
      | false =>
        dsimp only
        intro hc2 I5 H5 b5 e5 S5 rb
        cases rb
        exact (if_neg Bool.false_ne_true).mpr (next e5 S5 hc2 hout)
      | true =>
        dsimp only
        intro hc2 I5 H5 b5 e5 S5 rb
        cases rb
        refine (if_pos rfl).mpr ⟨I5, M4, en1, S5, r4.mono e5, ?_⟩
        revert hc2
        cases q3 : f en1 M4 with
        | none => exact fun z => nomatch z
        | some z3 =>
        obtain ⟨o3, M5⟩ := z3
        cases o3 with
        | ex _ _ => exact fun z => nomatch z
        | ok y =>
        dsimp only
        cases q4 : compFP nc ds g t f (wipeE en vs) (ds.drop (i + 1)) M5 with
        | none => exact fun z => nomatch z
        | some z4 =>
        obtain ⟨ys5, M6⟩ := z4
        intro hc2 I6 H6 v e6 S6 rv
        cases hc2
        have e26 := (e24.trans e5).trans e6
        have hpm6 := e26.mem hpm
        have hD6 := e26.keep _ _ hDl (S2.dis Dl hpm).1
        refine ⟨av, hD6, ?_, ?_⟩
        · have h1 : av.length = acc.length := (e26.reps ra).length.symm
          have h2 : ds.length ≤ sizeLine := szOk_ok qsz
          omega
        · refine ⟨_, by omega, hlt, rfl, I6, M5, acc ++ [y], av ++ [v], (e2.trans e26).grow hD, hpm6, S6.grow hpm6, upd_same, ((e26.reps ra).append (.one rv)).grow hpm6, by rw [List.length_append]; simp; omega, (r2.mono e26).grow hpm6, ys5, q4, by rw [← hout]; simp⟩
    · have hi3 : i = ds.length := by omega
      subst hi3
      refine .inl ⟨g2 (Nat.le_refl _), ?_⟩
      rw [List.drop_length] at hc2
      unfold compFP at hc2
      rw [if_pos hfx] at hc2
      cases hc2
      rw [List.append_nil] at hout
      subst hout
      obtain ⟨I', q1, q2, q3⟩ := hmk I1 H1 I2 H2 _ Dl _ av hDf hD e2 hpm S2 hDl ra
      exact k1.ok' q1 q2 q3
theorem ev_lcP {fi : Env → Store → Res Nat} {mk : List D → Store → D × Store} (hmk : MkOk X.K mk) {scope : Scope} {own : List (Str × Nat)} (hc : X.calm = true) (hN : X.N.Nodup) (hi : EvIP X W tg iter fi) (ok : BlkOk X.N X.env.scope scope own) (hS : ∀ k ∈ Sl, k ∈ own.map (·.2))
    (hg : ∀ (s : Shared) (H : Hp) (C : Addr) (cl : List (Str × Addr)) (fp : List Addr), EvG (X.blk s H scope (compEnvC scope cl C X.env) fp) tg Sl g)
    (ht : ∀ (s : Shared) (H : Hp) (C : Addr) (cl : List (Str × Addr)) (fp : List Addr), EvTs (X.blk s H scope (compEnvC scope cl C X.env) fp) W0 ifs t)
    (he : ∀ (s : Shared) (H : Hp) (C : Addr) (cl : List (Str × Addr)) (fp : List Addr), EvE (X.blk s H scope (compEnvC scope cl C X.env) fp) W0 elt f) (hs : ∀ x, foldedSetIterable iter X.env x = pure x := by intro _; rfl) :
    EvE X W (.ListComp elt [⟨tg, iter, ifs, 0⟩] scope pos) (cLcP mk fi g t f (own.map (·.2))) :=
  ⟨pe_imp (pe_lc (g := TG_ X.K Sl g) (tt := TD X.K X.mg W0 RB t) (te := TD X.K X.mg W0 (Rep X.K) f) hc hN hi.pi ok (fun s H C cl fp => (hg s H C cl fp).pg) (fun s H C cl fp => (ht s H C cl fp).pts) (fun s H C cl fp => (he s H C cl fp).pe) hs) fun _ _ _ h => lc_readP hmk hS h⟩
theorem es_setLcP {fi : Env → Store → Res Nat} {mk : List D → Store → D × Store} (hmk : MkOk X.K mk) {i : Nat} {y : Str} {py spos : Pos} {scope : Scope} {own : List (Str × Nat)} (hc : X.calm = true) (hN : X.N.Nodup) (hy : X.N[i]? = some y) (hyl : X.env.scope.names.lookup y = some .local)
    (hsw : swapsWith (.ListComp elt [⟨tg, iter, ifs, 0⟩] scope pos) (some (.Name y py)) spos.line X.env = pure true) (hi : EvIP X W tg iter fi) (ok : BlkOk X.N X.env.scope scope own) (hS : ∀ k ∈ Sl, k ∈ own.map (·.2))
    (hg : ∀ (s : Shared) (H : Hp) (C : Addr) (cl : List (Str × Addr)) (fp : List Addr), EvG (X.blk s H scope (compEnvC scope cl C X.env) fp) tg Sl g)
    (ht : ∀ (s : Shared) (H : Hp) (C : Addr) (cl : List (Str × Addr)) (fp : List Addr), EvTs (X.blk s H scope (compEnvC scope cl C X.env) fp) W0 ifs t)
    (he : ∀ (s : Shared) (H : Hp) (C : Addr) (cl : List (Str × Addr)) (fp : List Addr), EvE (X.blk s H scope (compEnvC scope cl C X.env) fp) W0 elt f) (hs : ∀ x, foldedSetIterable iter X.env x = pure x := by intro _; rfl) :
    EvS X W (.Assign [.Name y py] (.ListComp elt [⟨tg, iter, ifs, 0⟩] scope pos) spos) (sAsg (cLcP mk fi g t f (own.map (·.2))) (gN i)) :=
  ⟨ps_imp (ps_setLc (g := TG_ X.K Sl g) (tt := TD X.K X.mg W0 RB t) (te := TD X.K X.mg W0 (Rep X.K) f) hc hN hy hyl hsw hi.pi ok (fun s H C cl fp => (hg s H C cl fp).pg) (fun s H C cl fp => (ht s H C cl fp).pts) (fun s H C cl fp => (he s H C cl fp).pe) hs)
    fun _ _ _ h => gN_read (fun _ z => lc_readP hmk hS z) h⟩
end
end DL
/-! The data layer, part 22: how the mirrors are worked out, more. -/
namespace DL
open PySem PySem.Spec PyProof.Rows L2
section
variable {en en1 : Env} {M M1 M2 : Store} {d d1 d2 d3 d4 : D} {ds es : List D} {fa fb fc fd : EF} {fr : AF} {p q : SF} {t u : TF} {i j : Nat} {a b : Int} {g : GF} {f : EF} {n : Nat} {body : SF}
@[simp] theorem mDef_1 : mDef 1 n body [d1] M = gcF M (fin (body (start0 n [d1]) M)) := if_pos rfl
@[simp] theorem mDef_2 : mDef 2 n body [d1, d2] M = gcF M (fin (body (start0 n [d1, d2]) M)) := if_pos rfl
@[simp] theorem mDef_3 : mDef 3 n body [d1, d2, d3] M = gcF M (fin (body (start0 n [d1, d2, d3]) M)) := if_pos rfl
@[simp] theorem mDef_4 : mDef 4 n body [d1, d2, d3, d4] M = gcF M (fin (body (start0 n [d1, d2, d3, d4]) M)) := if_pos rfl
@[simp] theorem start0_e : start0 n ds = ds.map some ++ List.replicate (n - ds.length) none := rfl
@[simp] theorem rep_zero {α : Type} {x : α} : List.replicate 0 x = [] := rfl
@[simp] theorem wipe_nil : wipeE en [] = en := rfl
@[simp] theorem wipe_cons {l : List Nat} : wipeE en (i :: l) = (wipeE en l).set i none := rfl
@[simp] theorem tYes_e : tYesC en M = some (.ok true, M) := rfl
@[simp] theorem compF_nil : compF g t f en [] M = some ([], M) := rfl
@[simp] theorem compF_cons : compF g t f en (d :: ds) M = match g d en M with
    | none => none
    | some (en1, M1) => match t en1 M1 with
      | some (.ok true, M2) => match f en1 M2 with
        | some (.ok y, M3) => match compF g t f en ds M3 with
          | some (ys, M4) => some (y :: ys, M4)
          | none => none
        | _ => none
      | some (.ok false, M2) => compF g t f en ds M2
      | _ => none := rfl
@[simp] theorem cLcG_e {mk : List D → Store → D × Store} {fi : AF} {vs : List Nat} : cLcG mk fi g t f vs en M = bnd (fi en M) fun ds M1 =>
    if szOk ds.length = true then (match compF g t f (wipeE en vs) ds M1 with | some (ys, M2) => some (.ok (mk ys M2).1, (mk ys M2).2) | none => none) else none := rfl
@[simp] theorem mkI_e : mkI ds M = (.imm ds, M) := rfl
@[simp] theorem mkC_e : mkC ds M = (.cel M.length, M ++ [ds]) := rfl
/-- a comprehension that leaves the store as it is -/
theorem compF_of {α : Type} (enc : α → D) (p : α → Bool) (F : α → D) : ∀ (l : List α), (∀ x ∈ l, ∃ en1, g (enc x) en M = some (en1, M) ∧ t en1 M = some (.ok (p x), M) ∧ (p x = true → f en1 M = some (.ok (F x), M))) →
    compF g t f en (l.map enc) M = some ((l.filter p).map F, M)
  | [], _ => rfl
  | x :: l, h => by
    obtain ⟨en1, h1, h2, h3⟩ := h x List.mem_cons_self
    have ih := compF_of enc p F l fun y hy => h y (List.mem_cons_of_mem _ hy)
    rw [List.map_cons, compF_cons, h1]
    dsimp only
    rw [h2]
    cases hp : p x with
    | true =>
      dsimp only
      rw [h3 hp]
      dsimp only
      rw [ih, List.filter_cons_of_pos hp, List.map_cons]
    | false =>
      dsimp only
      rw [ih, List.filter_cons_of_neg (by simp [hp])]
theorem lc_of {α : Type} (enc : α → D) (p : α → Bool) (F : α → D) (l : List α) {mk : List D → Store → D × Store} {fi : AF} {vs : List Nat} (hi : fi en M = some (.ok (l.map enc), M)) (hs : l.length ≤ 16777216)
    (h : ∀ x ∈ l, ∃ en1, g (enc x) (wipeE en vs) M = some (en1, M) ∧ t en1 M = some (.ok (p x), M) ∧ (p x = true → f en1 M = some (.ok (F x), M))) :
    cLcG mk fi g t f vs en M = some (.ok (mk ((l.filter p).map F) M).1, (mk ((l.filter p).map F) M).2) := by
  rw [cLcG_e, hi, bnd_ok, if_pos (by unfold szOk; rw [List.length_map]; exact decide_eq_true hs), compF_of enc p F l h]
/-- .. without a condition -/
theorem lc_map {α : Type} (enc F : α → D) (l : List α) {mk : List D → Store → D × Store} {fi : AF} {vs : List Nat} (hi : fi en M = some (.ok (l.map enc), M)) (hs : l.length ≤ 16777216)
    (h : ∀ x ∈ l, ∃ en1, g (enc x) (wipeE en vs) M = some (en1, M) ∧ f en1 M = some (.ok (F x), M)) :
    cLcG mk fi g tYesC f vs en M = some (.ok (mk (l.map F) M).1, (mk (l.map F) M).2) := by
  have := lc_of (t := tYesC) (mk := mk) (vs := vs) enc (fun _ => true) F l hi hs fun x hx => by
    obtain ⟨en1, h1, h2⟩ := h x hx
    exact ⟨en1, h1, rfl, fun _ => h2⟩
  rwa [List.filter_eq_self.mpr (fun _ _ => rfl)] at this
/-- a loop whose body keeps an invariant -/
theorem fLoop_inv {α : Type} (enc : α → D) {g : GF} (P : List α → Env → Store → Prop) (hs : ∀ x l en M, P (x :: l) en M → ∃ en1 M1 en2 M2, g (enc x) en M = some (en1, M1) ∧ (p en1 M1 = some (.nx en2, M2) ∨ p en1 M1 = some (.ct en2, M2)) ∧ P l en2 M2) :
    ∀ (l : List α) (en : Env) (M : Store), P l en M → ∃ en2 M2, fLoop g p (l.map enc) en M = some (.nx en2, M2) ∧ P [] en2 M2
  | [], en, M, h => ⟨en, M, rfl, h⟩
  | x :: l, en, M, h => by
    obtain ⟨en1, M1, en2, M2, h1, h2, h3⟩ := hs x l en M h
    obtain ⟨en3, M3, h4, h5⟩ := fLoop_inv enc P hs l en2 M2 h3
    refine ⟨en3, M3, ?_, h5⟩
    rw [List.map_cons, fLoop_cons, h1]
    dsimp only
    rcases h2 with h2 | h2 <;> (rw [h2]; exact h4)
/-- conditions of the arithmetic -/
theorem mulC_r (h : -(2 ^ 64) < b) (h' : b < 2 ^ 64) : mulC a b = true := by
  unfold mulC
  rw [Bool.or_eq_true, Bool.or_eq_true]
  exact .inl (.inr (decide_eq_true ⟨h, h'⟩))
theorem mulC_l (h : -(2 ^ 64) < a) (h' : a < 2 ^ 64) : mulC a b = true := by
  unfold mulC
  rw [Bool.or_eq_true, Bool.or_eq_true]
  exact .inl (.inl (decide_eq_true ⟨h, h'⟩))
theorem divC_of (h : 0 < b) (h' : b < 2 ^ 200) : divC a b = true := by
  unfold divC
  rw [Bool.and_eq_true, decide_eq_true_eq, decide_eq_true_eq]
  refine ⟨h, ?_⟩
  have h2 : b.natAbs < 2 ^ 200 := by
    have : ((2 : Int) ^ 200) = ((2 ^ 200 : Nat) : Int) := by norm_cast
    omega
  have h3 : b.natAbs ≠ 0 := by omega
  have := (Nat.log2_lt h3).mpr h2
  omega
theorem modC_of (h : 0 < b) : modC a b = true := decide_eq_true h
@[simp] theorem iRng1_e {fr : AF} : iRng1C fr en M = bnd (fr en M) fun xs M1 => match xs with | [.int j] => if smI j = true then some (.ok (rgD 0 j.toNat), M1) else none | _ => none := rfl
@[simp] theorem iRng2_e {fr : AF} : iRng2C fr en M = bnd (fr en M) fun xs M1 => match xs with | [.int i, .int j] => if (smI i && smI j) = true then some (.ok (rgD i (j - i).toNat), M1) else none | _ => none := rfl
theorem smI_of (h : -(2 ^ 62) ≤ a) (h' : a < 2 ^ 62) : smI a = true := by
  unfold smI
  rw [Bool.and_eq_true]
  exact ⟨decide_eq_true h, decide_eq_true h'⟩
/-- lo, lo + 1, .. n of them -/
def rgI (lo : Int) (n : Nat) : List Int := (List.range n).map fun i => lo + (i : Nat)
theorem rgD_eq {lo : Int} : rgD lo n = (rgI lo n).map D.int := by unfold rgD rgI; rw [List.map_map]; rfl
theorem mem_rgI {lo x : Int} : x ∈ rgI lo n ↔ lo ≤ x ∧ x < lo + n := by
  unfold rgI
  rw [List.mem_map]
  constructor
  · rintro ⟨i, hi, rfl⟩
    have := List.mem_range.mp hi
    omega
  · rintro ⟨h1, h2⟩
    exact ⟨(x - lo).toNat, List.mem_range.mpr (by omega), by omega⟩
/-! rows and tables of ints -/
def eRow (r : List Int) : D := .tup (r.map D.int)
def eTab (t : List (List Int)) : D := .tup (t.map eRow)
@[simp] theorem clo_row {n : Nat} {r : List Int} : clo n (eRow r) = true := by unfold eRow; rw [clo_tup]; exact clos_map fun _ => rfl
@[simp] theorem clo_tab {n : Nat} {t : List (List Int)} : clo n (eTab t) = true := by unfold eTab; rw [clo_tup]; exact clos_map fun _ => clo_row
@[simp] theorem notCel_row {r : List Int} : notCel (eRow r) = true := (rfl)
@[simp] theorem notCel_tab {t : List (List Int)} : notCel (eTab t) = true := (rfl)
@[simp] theorem seqI_row {r : List Int} : seqI (eRow r) = some (r.map D.int) := rfl
@[simp] theorem seqI_tab {t : List (List Int)} : seqI (eTab t) = some (t.map eRow) := rfl
@[simp] theorem items_row {r : List Int} : itemsOf M (eRow r) = some (r.map D.int) := rfl
@[simp] theorem items_tab {t : List (List Int)} : itemsOf M (eTab t) = some (t.map eRow) := rfl
@[simp] theorem gLen_row {r : List Int} : gLen [eRow r] M = some (.ok (.int r.length), M) := by show some (Out.ok (D.int (r.map D.int).length), M) = _; rw [List.length_map]
@[simp] theorem gLen_tab {t : List (List Int)} : gLen [eTab t] M = some (.ok (.int t.length), M) := by show some (Out.ok (D.int (t.map eRow).length), M) = _; rw [List.length_map]
@[simp] theorem gIx_row {r : List Int} : gIx (eRow r) (.int a) M = match atI (r.map D.int) a with | some d => some (.ok d, M) | none => none := rfl
@[simp] theorem gIx_tab {t : List (List Int)} : gIx (eTab t) (.int a) M = match atI (t.map eRow) a with | some d => some (.ok d, M) | none => none := rfl
@[simp] theorem gIx_t' : gIx (.tup ds) (.int a) M = match atI ds a with | some d => some (.ok d, M) | none => none := rfl
@[simp] theorem gIx_l' : gIx (.imm ds) (.int a) M = match atI ds a with | some d => some (.ok d, M) | none => none := rfl
@[simp] theorem gIx_s' : gIx (.scr ds) (.int a) M = match atI ds a with | some d => some (.ok d, M) | none => none := rfl
@[simp] theorem atI_0 : atI (d :: ds) 0 = some d := by
  unfold atI ixN
  simp
@[simp] theorem atI_1 : atI (d1 :: d2 :: ds) 1 = some d2 := by
  have := atI_nat (ds := d1 :: d2 :: ds) (i := 1) (by simp)
  simpa using this
@[simp] theorem atI_2 : atI (d1 :: d2 :: d3 :: ds) 2 = some d3 := by
  have := atI_nat (ds := d1 :: d2 :: d3 :: ds) (i := 2) (by simp)
  simpa using this
theorem row_of {r : List Int} : D.tup (r.map D.int) = eRow r := rfl
theorem tab_of {t : List (List Int)} : D.tup (t.map eRow) = eTab t := rfl
theorem row3 {a b c : Int} : D.tup [.int a, .int b, .int c] = eRow [a, b, c] := rfl
theorem row2 {a b : Int} : D.tup [.int a, .int b] = eRow [a, b] := rfl
theorem tab2 {r s : List Int} : D.tup [eRow r, eRow s] = eTab [r, s] := rfl
theorem sq_nonneg (a : Int) : 0 ≤ a * a := by
  rcases Int.le_total 0 a with h | h
  · exact Int.mul_nonneg h h
  · have := Int.mul_nonneg (show 0 ≤ -a by omega) (show 0 ≤ -a by omega)
    rw [Int.neg_mul_neg] at this
    exact this
/-! equality, repr of ints, rows, tables -/
theorem shaped_i {i : Int} : SeqAt.shaped (.int i) = true := by
  show (PyData.canLay0 (.int i) && decide (PyData.depth (.int i) ≤ 64)) = true
  simp [PyData.canLay0, PyData.depth]
theorem shaped_s {x : Str} : SeqAt.shaped (.str x) = PyData.canLay0 (.str x) := by
  show (PyData.canLay0 (.str x) && decide (PyData.depth (.str x) ≤ 64)) = _
  simp [PyData.depth]
theorem depthAll_le {α : Type} {f : α → PyData} {k : Nat} : ∀ {l : List α}, (∀ x ∈ l, (f x).depth ≤ k) → PyData.depthAll (l.map f) ≤ k
  | [], _ => by simp [PyData.depthAll]
  | x :: l, h => by
    simp only [List.map_cons, PyData.depthAll]
    exact Nat.max_le.mpr ⟨h x List.mem_cons_self, depthAll_le fun y hy => h y (List.mem_cons_of_mem _ hy)⟩
theorem canLayAll_of {α : Type} {f : α → PyData} : ∀ {l : List α}, (∀ x ∈ l, (f x).canLay0 = true) → PyData.canLayAll0 (l.map f) = true
  | [], _ => by simp [PyData.canLayAll0]
  | x :: l, h => by
    simp only [List.map_cons, PyData.canLayAll0, Bool.and_eq_true]
    exact ⟨h x List.mem_cons_self, canLayAll_of fun y hy => h y (List.mem_cons_of_mem _ hy)⟩
theorem plains_of {α : Type} {f : α → PyData} : ∀ {l : List α}, (∀ x ∈ l, plainPy (f x) = true) → plainPys (l.map f) = true
  | [], _ => rfl
  | x :: l, h => by
    simp only [List.map_cons, plainPys, Bool.and_eq_true]
    exact ⟨h x List.mem_cons_self, plains_of fun y hy => h y (List.mem_cons_of_mem _ hy)⟩
theorem bulkAll_le {α : Type} {f : α → PyData} {k : Nat} : ∀ {l : List α}, (∀ x ∈ l, (f x).bulk ≤ k) → PyData.bulkAll (l.map f) ≤ l.length * (k + 1)
  | [], _ => by simp [PyData.bulkAll]
  | x :: l, h => by
    have h1 := h x List.mem_cons_self
    have h2 := bulkAll_le (l := l) fun y hy => h y (List.mem_cons_of_mem _ hy)
    simp only [List.map_cons, PyData.bulkAll, List.length_cons, Nat.succ_mul]
    omega
theorem eqvAll_of {α : Type} [BEq α] {f : α → PyData} (h : ∀ x y, PyData.eqv (f x) (f y) = (x == y)) : ∀ {l m : List α}, PyData.eqvAll (l.map f) (m.map f) = (l == m)
  | [], [] => by simp [PyData.eqvAll]
  | [], _ :: _ => by simp [PyData.eqvAll]
  | _ :: _, [] => by simp [PyData.eqvAll]
  | x :: l, y :: m => by
    simp only [List.map_cons, PyData.eqvAll, h, eqvAll_of h (l := l) (m := m)]
    rfl
theorem toPys_map {α : Type} {f : α → D} {g : α → PyData} (h : ∀ x, toPy (f x) = some (g x)) : ∀ {l : List α}, toPys (l.map f) = some (l.map g)
  | [] => rfl
  | x :: l => by simp only [List.map_cons, toPys, h, toPys_map h (l := l)]
def pRow (r : List Int) : PyData := .tuple (r.map PyData.int)
def pTab (t : List (List Int)) : PyData := .tuple (t.map pRow)
@[simp] theorem toPy_int : toPy (.int a) = some (.int a) := rfl
theorem toPy_row {r : List Int} : toPy (eRow r) = some (pRow r) := by
  unfold eRow pRow
  simp only [toPy]
  rw [toPys_map (g := PyData.int) fun _ => rfl]
  rfl
theorem toPy_tab {t : List (List Int)} : toPy (eTab t) = some (pTab t) := by
  unfold eTab pTab
  simp only [toPy]
  rw [toPys_map (g := pRow) fun _ => toPy_row]
  rfl
theorem toPyM_row {r : List Int} : toPyM M (eRow r) = some (pRow r) := toPy_row (r := r)
theorem toPyM_tab {t : List (List Int)} : toPyM M (eTab t) = some (pTab t) := toPy_tab (t := t)
theorem eqv_int {a b : Int} : PyData.eqv (.int a) (.int b) = (a == b) := by simp [PyData.eqv]
theorem eqv_row {r s : List Int} : PyData.eqv (pRow r) (pRow s) = (r == s) := by
  unfold pRow
  simp only [PyData.eqv]
  exact eqvAll_of fun x y => eqv_int
theorem eqv_tab {r s : List (List Int)} : PyData.eqv (pTab r) (pTab s) = (r == s) := by
  unfold pTab
  simp only [PyData.eqv]
  exact eqvAll_of fun x y => eqv_row
theorem depth_row {r : List Int} : (pRow r).depth ≤ 1 := by
  unfold pRow
  simp only [PyData.depth]
  have := depthAll_le (f := PyData.int) (k := 0) (l := r) fun x _ => by simp [PyData.depth]
  omega
theorem depth_tab {r : List (List Int)} : (pTab r).depth ≤ 2 := by
  unfold pTab
  simp only [PyData.depth]
  have := depthAll_le (f := pRow) (k := 1) (l := r) fun x _ => depth_row
  omega
theorem lay_row {r : List Int} : (pRow r).canLay0 = true := by
  unfold pRow
  simp only [PyData.canLay0]
  exact canLayAll_of fun x _ => by simp [PyData.canLay0]
theorem lay_tab {r : List (List Int)} : (pTab r).canLay0 = true := by
  unfold pTab
  simp only [PyData.canLay0]
  exact canLayAll_of fun x _ => lay_row
theorem shaped_row {r : List Int} : SeqAt.shaped (pRow r) = true := by
  show ((pRow r).canLay0 && decide ((pRow r).depth ≤ 64)) = true
  rw [lay_row, decide_eq_true (Nat.le_trans depth_row (by decide))]; rfl
theorem shaped_tab {r : List (List Int)} : SeqAt.shaped (pTab r) = true := by
  show ((pTab r).canLay0 && decide ((pTab r).depth ≤ 64)) = true
  rw [lay_tab, decide_eq_true (Nat.le_trans depth_tab (by decide))]; rfl
theorem gEq_of {neg : Bool} {x y : D} {u v : PyData} (h1 : toPyM M x = some u) (h2 : toPyM M y = some v) (h3 : SeqAt.shaped u = true) (h4 : SeqAt.shaped v = true) (hx : ∀ s, x ≠ .str s) : gEq neg x y M = some (.ok (.bl (if neg = true then !(PyData.eqv u v) else PyData.eqv u v)), M) := by
  have e : gEq neg x y M = match eqM M x y with | some b => some (.ok (.bl (if neg = true then !b else b)), M) | none => none := by
    cases x <;> first | rfl | exact absurd rfl (hx _)
  rw [e]
  unfold eqM
  rw [h1, h2]
  dsimp only
  rw [h3, h4]
  rfl
@[simp] theorem gEq_str {neg : Bool} {s t : Str} : gEq neg (.str s) (.str t) M = some (.ok (.bl (if neg = true then !(s == t) else s == t)), M) := rfl
@[simp] theorem gEq_int {neg : Bool} : gEq neg (.int a) (.int b) M = some (.ok (.bl (if neg = true then !(a == b) else a == b)), M) := by
  rw [gEq_of (u := .int a) (v := .int b) rfl rfl shaped_i shaped_i (fun _ z => by cases z), eqv_int]
@[simp] theorem gEq_row {neg : Bool} {r s : List Int} : gEq neg (eRow r) (eRow s) M = some (.ok (.bl (if neg = true then !(r == s) else r == s)), M) := by
  rw [gEq_of (u := pRow r) (v := pRow s) toPyM_row toPyM_row shaped_row shaped_row (fun _ z => by cases z), eqv_row]
@[simp] theorem gEq_tab {neg : Bool} {r s : List (List Int)} : gEq neg (eTab r) (eTab s) M = some (.ok (.bl (if neg = true then !(r == s) else r == s)), M) := by
  rw [gEq_of (u := pTab r) (v := pTab s) toPyM_tab toPyM_tab shaped_tab shaped_tab (fun _ z => by cases z), eqv_tab]
/-- ints of fewer than 1920 bits -/
def shI (i : Int) : Prop := i.natAbs.log2 < 1920
theorem shI_of {i : Int} (h : i.natAbs < 2 ^ 1000) : shI i := by
  unfold shI
  by_cases h0 : i.natAbs = 0
  · rw [h0]; decide
  · have := (Nat.log2_lt h0).mpr h
    omega
theorem plain_row {r : List Int} (h : ∀ x ∈ r, shI x) : plainPy (pRow r) = true := by
  unfold pRow
  simp only [plainPy]
  exact plains_of fun x hx => by simp only [plainPy]; exact decide_eq_true (h x hx)
theorem plain_tab {t : List (List Int)} (h : ∀ r ∈ t, ∀ x ∈ r, shI x) : plainPy (pTab t) = true := by
  unfold pTab
  simp only [plainPy]
  exact plains_of fun x hx => plain_row (h x hx)
theorem bulk_row {r : List Int} : (pRow r).bulk ≤ r.length := by
  unfold pRow
  simp only [PyData.bulk]
  have := bulkAll_le (f := PyData.int) (k := 0) (l := r) fun x _ => by simp [PyData.bulk]
  omega
theorem bulk_tab {t : List (List Int)} {k : Nat} (h : ∀ r ∈ t, r.length ≤ k) : (pTab t).bulk ≤ t.length * (k + 1) := by
  unfold pTab
  simp only [PyData.bulk]
  exact bulkAll_le fun x hx => Nat.le_trans bulk_row (h x hx)
end
end DL
/-! The data layer, part 23: dicts whose keys are tuples of ints, and of such tuples. -/
namespace DL
open PySem PySem.Spec PyProof.Rows L2 PySem.Calls
mutual
def KeyV (K : PySem.W.Frag) (H : Hp) : NestedKey → V → Prop
  | .num i, v => v = .int i
  | .tup ks, v => ∃ a vs, v = .ref a ∧ SqT K H a vs ∧ KeyVs K H ks vs
  | _, _ => False
def KeyVs (K : PySem.W.Frag) (H : Hp) : List NestedKey → List V → Prop
  | [], vs => vs = []
  | k :: ks, vs => ∃ v r, vs = v :: r ∧ KeyV K H k v ∧ KeyVs K H ks r
end
section
variable {X : Cx} {W : WX} {K : PySem.W.Frag} {mg : Str → Option Value} {I I' : Ow} {H H' : Hp} {M M' : Store} {σ : L2.St} {en : Env} {Z : Ends}
mutual
theorem keyV_of : ∀ {d : D} {v : V} {k : NestedKey}, Rep K I H d v → keyN d = some k → KeyV K H k v
  | .int i, v, k, h, e => by
    simp only [keyN, Option.some.injEq] at e; subst e
    simp only [Rep] at h
    simp only [KeyV]; exact h
  | .tup ds, v, k, h, e => by
    simp only [keyN] at e
    split at e
    · rename_i ks q
      cases e
      simp only [Rep] at h
      obtain ⟨a, vs, h1, h2, h3⟩ := h
      simp only [KeyV]
      exact ⟨a, vs, h1, h2.sq, keyVs_of h3 q⟩
    · cases e
  | .non, _, _, _, e => by simp only [keyN] at e; cases e
  | .bl _, _, _, _, e => by simp only [keyN] at e; cases e
  | .str _, _, _, _, e => by simp only [keyN] at e; cases e
  | .imm _, _, _, _, e => by simp only [keyN] at e; cases e
  | .cel _, _, _, _, e => by simp only [keyN] at e; cases e
  | .ty _, _, _, _, e => by simp only [keyN] at e; cases e
  | .scr _, _, _, _, e => by simp only [keyN] at e; cases e
  | .dic _, _, _, _, e => by simp only [keyN] at e; cases e
theorem keyVs_of : ∀ {ds : List D} {vs : List V} {ks : List NestedKey}, Reps K I H ds vs → keyNs ds = some ks → KeyVs K H ks vs
  | [], vs, ks, h, e => by
    simp only [keyNs, Option.some.injEq] at e; subst e
    simp only [Reps] at h
    simp only [KeyVs]; exact h
  | d :: ds, vs, ks, h, e => by
    simp only [keyNs] at e
    split at e
    · rename_i k ks' q1 q2
      cases e
      simp only [Reps] at h
      obtain ⟨v, r, h1, h2, h3⟩ := h
      simp only [KeyVs]
      exact ⟨v, r, h1, keyV_of h2 q1, keyVs_of h3 q2⟩
    · cases e
end
section
variable {pins : List (Addr × Obj)} {s : Shared} {a b : Addr} {xs : List KE3}
mutual
theorem keyV_is (Iv : Inv X pins σ H s) : ∀ {k : NestedKey} {v : V} {u : Value}, KeyV X.K H k v → RelV v u → NestedIs s.heap k u
  | .num i, v, u, h, r => by
    simp only [KeyV] at h; subst h
    obtain ⟨t, rfl⟩ := r
    exact .int i t
  | .tup ks, v, u, h, r => by
    simp only [KeyV] at h
    obtain ⟨a, vs, rfl, h2, h3⟩ := h
    obtain rfl : u = Value.ref a := r
    obtain ⟨its, r1, ⟨o, ho, hc, n, hd⟩, _⟩ := Iv.tuple h2
    exact .tup ho hc hd (keyVs_is Iv h3 (by simpa using r1))
  | .none, _, _, h, _ => by simp only [KeyV] at h
  | .text _, _, _, h, _ => by simp only [KeyV] at h
theorem keyVs_is (Iv : Inv X pins σ H s) : ∀ {ks : List NestedKey} {vs : List V} {us : List Value}, KeyVs X.K H ks vs → Vals vs us → NestedAll s.heap ks us
  | [], vs, us, h, r => by
    simp only [KeyVs] at h; subst h
    cases r
    exact .nil
  | k :: ks, vs, us, h, r => by
    simp only [KeyVs] at h
    obtain ⟨v, rs, rfl, h2, h3⟩ := h
    cases r with
    | cons r1 r2 => exact .cons (keyV_is Iv h2 r1) (keyVs_is Iv h3 r2)
end
/-- the keys of a dict, as they stand -/
def XsOk (K : PySem.W.Frag) (H : Hp) (xs : List KE3) : Prop := ∀ x ∈ xs, KeyV K H x.1 (.ref x.2.1) ∧ x.1.depth ≤ 8 ∧ ∀ w, x.1.hash w = kHash x.1
theorem dicOf (Iv : Inv X pins σ H s) (e : H a = some (dicO a xs)) (ok : XsOk X.K H xs) : s.heap.DictOfH (nestedKind X.prog X.w) a xs ∧ (a == sysModules) = false ∧ xs.length ≤ sizeLine := by
  obtain ⟨⟨h1, h2, h3, o, es, ep, h4, h5, h6, h7⟩, _, _⟩ := (show ObjOk X.prog X.w H s.heap a (dicO a xs) from Iv.hok a _ e)
  refine ⟨⟨o, es, ep, h4, h5, h6, ?_, fun x hx => ⟨keyV_is Iv (ok x hx).1 rfl, (ok x hx).2.1⟩, h3⟩, h1, h2⟩
  rw [h7]
  refine List.map_congr_left fun x hx => ?_
  show (⟨kHash x.1, .ref x.2.1, x.2.2⟩ : DictEntry) = ⟨(nestedKind X.prog X.w).hash x.1, .ref x.2.1, x.2.2⟩
  rw [← (ok x hx).2.2 X.w]
  rfl
theorem dicPhi_stay {h1 h2 : Heap} (h : dicPhi a xs h1) (k : ∀ o, h1.get? a = some o → h2.get? a = some o) : dicPhi a xs h2 := by
  obtain ⟨x1, x2, x3, o, es, ep, x4, x5⟩ := h
  exact ⟨x1, x2, x3, o, es, ep, k o x4, x5⟩
theorem ext_of {P : Program} {w : World} {H' : Hp} {h : Heap} (x : dicPhi a xs h) : ObjOk P w H' h a (dicO a xs) := by
  have y := x
  obtain ⟨_, _, _, o, _, _, x4, _⟩ := x
  exact ⟨y, ⟨o, x4⟩, fun _ _ p k => dicPhi_stay p k⟩
theorem phi_of {P : Program} {w : World} {h : Heap} (d : h.DictOfH (nestedKind P w) a xs) (ha : (a == sysModules) = false) (hl : xs.length ≤ sizeLine) (hh : ∀ x ∈ xs, x.1.hash w = kHash x.1) : dicPhi a xs h := by
  obtain ⟨o, es, ep, h1, h2, h3, h4, _, h5⟩ := d
  refine ⟨ha, hl, h5, o, es, ep, h1, h2, h3, ?_⟩
  rw [h4]
  refine List.map_congr_left fun x hx => ?_
  show (⟨(nestedKind P w).hash x.1, .ref x.2.1, x.2.2⟩ : DictEntry) = ⟨kHash x.1, .ref x.2.1, x.2.2⟩
  rw [← hh x hx]
  rfl
theorem room9 {A : Around} (hu : A.units + 9 < cLine) : (nestedKind X.prog X.w).room A.in1 := by
  show A.units + 1 + 8 < cLine
  omega
variable {A : Around} {E : Value → Shared → Prop} {y v d : V} {u r : Value} {nk : NestedKey}
theorem x_getItem {p : Addr × Value} {Q : Value → Shared → Prop} (hu : A.units + 9 < cLine) (Iv : Inv X pins σ H s) (e : H a = some (dicO a xs)) (ok : XsOk X.K H xs) (hk : KeyV X.K H nk (.ref b)) (hd : nk.depth ≤ 8)
    (hp : atKey xs nk = some p) (h : ∀ s', Inv X pins σ H s' → Q p.2 s') : wpAny (model X.prog X.w) A (getItem (.ref a) (.ref b)) Q E s :=
  wpAny_getItem_heap (room9 hu) ⟨keyV_is Iv hk rfl, hd⟩ (dicOf Iv e ok).1 hp (h _ (Iv.tok _))
theorem x_in {Q : Value → Shared → Prop} (hu : A.units + 9 < cLine) (Iv : Inv X pins σ H s) (e : H a = some (dicO a xs)) (ok : XsOk X.K H xs) (hk : KeyV X.K H nk (.ref b)) (hd : nk.depth ≤ 8)
    (h : ∀ s', Inv X pins σ H s' → Q (.bool (atKey xs nk).isSome) s') : wpAny (model X.prog X.w) A (compareOp .In (.ref b) (.ref a)) Q E s :=
  wpAny_in_heap (room9 hu) ⟨keyV_is Iv hk rfl, hd⟩ (dicOf Iv e ok).2.1 (dicOf Iv e ok).1 (h _ (Iv.tok _))
theorem x_notIn {Q : Value → Shared → Prop} (hu : A.units + 9 < cLine) (Iv : Inv X pins σ H s) (e : H a = some (dicO a xs)) (ok : XsOk X.K H xs) (hk : KeyV X.K H nk (.ref b)) (hd : nk.depth ≤ 8)
    (h : ∀ s', Inv X pins σ H s' → Q (.bool (!(atKey xs nk).isSome)) s') : wpAny (model X.prog X.w) A (compareOp .NotIn (.ref b) (.ref a)) Q E s :=
  wpAny_notIn_heap (room9 hu) ⟨keyV_is Iv hk rfl, hd⟩ (dicOf Iv e ok).2.1 (dicOf Iv e ok).1 (h _ (Iv.tok _))
theorem x_get2 {Q : Value → Shared → Prop} (hu : A.units + 9 < cLine) (Iv : Inv X pins σ H s) (e : H a = some (dicO a xs)) (ok : XsOk X.K H xs) (hk : KeyV X.K H nk (.ref b)) (hd : nk.depth ≤ 8)
    (h : ∀ s', Inv X pins σ H s' → Q (((atKey xs nk).map (·.2)).getD r) s') : wpAny (model X.prog X.w) A (call (.builtin "dict.get") [.ref a, .ref b, r]) Q E s :=
  call_meetsIn PySem.F.slot_dict_get (dicOf Iv e ok).1.typeIs PySem.F.entry_dict_get (PySem.F.args_dict_get_3 _ _ _) (meetsH_dict_get_default (nestedKind X.prog X.w) a b (dicOf Iv e ok).2.1 r)
    ⟨room9 hu, nk, xs, ⟨keyV_is Iv hk rfl, hd⟩, (dicOf Iv e ok).1, h _ (Iv.tok _)⟩
theorem storedH_len {xs : List KE3} {k : NestedKey} {b : Addr} {u : Value} : (storedH xs k b u).length ≤ xs.length + 1 := by
  unfold storedH
  split
  · simp
  · simp
theorem storedH_mem {xs : List KE3} {k : NestedKey} {b : Addr} {u : Value} {x : KE3} (h : x ∈ storedH xs k b u) : (∃ y ∈ xs, x.1 = y.1 ∧ x.2.1 = y.2.1) ∨ (x.1 = k ∧ x.2.1 = b) := by
  unfold storedH at h
  split at h
  · obtain ⟨y, hy, rfl⟩ := List.mem_map.mp h
    refine .inl ⟨y, hy, ?_⟩
    unfold putAt
    split <;> exact ⟨rfl, rfl⟩
  · rcases List.mem_append.mp h with h | h
    · exact .inl ⟨x, h, rfl, rfl⟩
    · rw [List.mem_singleton.mp h]; exact .inr ⟨rfl, rfl⟩
theorem x_setItem {Q : Unit → Shared → Prop} (hu : A.units + 9 < cLine) (Iv : Inv X pins σ H s) (e : H a = some (dicO a xs)) (ok : XsOk X.K H xs) (hk : KeyV X.K H nk (.ref b)) (hd : nk.depth ≤ 8) (hh : ∀ w, nk.hash w = kHash nk)
    (hl : xs.length < sizeLine) (h : ∀ s', Inv X pins σ (upd H a (dicO a (storedH xs nk b r))) s' → Q () s') : wpAny (model X.prog X.w) A (setItem (.ref a) (.ref b) r) Q E s := by
  obtain ⟨d1, d2, d3⟩ := dicOf Iv e ok
  refine wpAny_setItem_heap (hsz := d3) (room9 hu) ⟨keyV_is Iv hk rfl, hd⟩ d1 fun h' dd' hs => h _ ?_
  have ph := phi_of dd' d2 (by have := storedH_len (xs := xs) (k := nk) (b := b) (u := r); omega) fun x hx => by
    rcases storedH_mem hx with ⟨y, hy, e1, _⟩ | ⟨e1, _⟩
    · rw [e1]; exact (ok y hy).2.2 _
    · rw [e1]; exact hh _
  have eo := ext_of (P := X.prog) (w := X.w) (H' := upd H a (dicO a (storedH xs nk b r))) ph
  obtain ⟨_, _, _, o, _, _, x4, _⟩ := ph
  exact d_write Iv (by rw [e]; exact True.intro) hs ⟨o, x4⟩ eo
theorem xs_nil {K : PySem.W.Frag} {H : Hp} : XsOk K H [] := fun _ h => nomatch h
end
end
end DL
/-! The data layer, part 24: dicts in the store: {}, d[k], d.get(k, x), d[k] = v, k in d. -/
namespace DL
open PySem PySem.Spec PyProof.Rows L2 PySem.Calls
/-- what a dict's pairs hold at a key -/
def kvAt (nk : NestedKey) : List D → Option D
  | [] => none
  | .tup [k, x] :: r => if keyN k = some nk then some x else kvAt nk r
  | _ :: r => kvAt nk r
def kvRep (nk : NestedKey) (x : D) : List D → List D
  | [] => []
  | .tup [k, y] :: r => (if keyN k = some nk then .tup [k, x] else .tup [k, y]) :: kvRep nk x r
  | d :: r => d :: kvRep nk x r
def kvPut (nk : NestedKey) (k x : D) (ds : List D) : List D := if (kvAt nk ds).isSome = true then kvRep nk x ds else ds ++ [.tup [k, x]]
def keyOk (y : D) : Option NestedKey := match y with
  | .tup ds => (match keyN (.tup ds) with | some k => if k.depth ≤ 8 then some k else none | none => none)
  | _ => none
theorem keyOk_ok {y : D} {k : NestedKey} (h : keyOk y = some k) : (keyN y = some k ∧ k.depth ≤ 8) ∧ ∃ ds, y = .tup ds := by
  unfold keyOk at h
  split at h
  · split at h
    · split at h
      · cases h; rename_i e q; exact ⟨⟨e, q⟩, _, rfl⟩
      · cases h
    · cases h
  · cases h
section
variable {X : Cx} {W : WX} {K : PySem.W.Frag} {mg : Str → Option Value} {I I' : Ow} {H H' : Hp} {M M' : Store} {σ : L2.St} {en : Env} {Z : Ends}
theorem RepKV.ok : ∀ {ds : List D} {xs : List KE3}, RepKV K I H ds xs → XsOk K H xs
  | [], _, h => by
    have h : _ = [] := h
    subst h; exact xs_nil
  | _ :: _, _, ⟨k, x, nk, b, u, v, r, h1, h2, h3, h4, h5, h6, h7⟩ => by
    subst h2
    intro y hy
    rcases List.mem_cons.mp hy with e | hy
    · subst e
      exact ⟨keyV_of h4 h3.1, h3.2, fun w => kHash_is h3.1⟩
    · exact RepKV.ok h7 y hy
theorem RepKV.length : ∀ {ds : List D} {xs : List KE3}, RepKV K I H ds xs → ds.length = xs.length
  | [], _, h => by
    have h : _ = [] := h
    subst h; rfl
  | _ :: _, _, ⟨k, x, nk, b, u, v, r, h1, h2, h3, h4, h5, h6, h7⟩ => by
    subst h2
    rw [List.length_cons, List.length_cons, RepKV.length h7]
theorem atKey_cons {nk k : NestedKey} {p : Addr × Value} {xs : List KE3} : atKey ((nk, p) :: xs) k = if nk = k then some p else atKey xs k := by
  unfold atKey
  rw [List.find?_cons]
  by_cases e : nk = k
  · simp [e]
  · simp [e]
theorem RepKV.at : ∀ {ds : List D} {xs : List KE3} (k : NestedKey), RepKV K I H ds xs → (kvAt k ds = none ∧ atKey xs k = none) ∨ ∃ x p v, kvAt k ds = some x ∧ atKey xs k = some p ∧ Rep K I H x v ∧ RelV v p.2
  | [], _, k, h => by
    have h : _ = [] := h
    subst h; exact .inl ⟨rfl, rfl⟩
  | _ :: _, _, k, ⟨k0, x, nk, b, u, v, r, h1, h2, h3, h4, h5, h6, h7⟩ => by
    subst h1; subst h2
    rw [atKey_cons]
    unfold kvAt
    by_cases e : nk = k
    · subst e
      rw [if_pos h3.1, if_pos rfl]
      exact .inr ⟨x, (b, u), v, rfl, rfl, h5, h6⟩
    · rw [if_neg (by rw [h3.1]; exact fun z => e (Option.some.inj z)), if_neg e]
      exact RepKV.at k h7
theorem RepKV.snoc {k x : D} {nk : NestedKey} {b : Addr} {v : V} {u : Value} (a1 : keyN k = some nk ∧ nk.depth ≤ 8) (a2 : Rep K I H k (.ref b)) (a3 : Rep K I H x v) (a4 : RelV v u) : ∀ {ds : List D} {xs : List KE3}, RepKV K I H ds xs → RepKV K I H (ds ++ [.tup [k, x]]) (xs ++ [(nk, b, u)])
  | [], _, h => by
    have h : _ = [] := h
    subst h
    exact ⟨k, x, nk, b, u, v, [], rfl, rfl, a1, a2, a3, a4, rfl⟩
  | _ :: _, _, ⟨k0, x0, nk0, b0, u0, v0, r, h1, h2, h3, h4, h5, h6, h7⟩ => by
    subst h2
    exact ⟨k0, x0, nk0, b0, u0, v0, r ++ [(nk, b, u)], h1, rfl, h3, h4, h5, h6, RepKV.snoc a1 a2 a3 a4 h7⟩
theorem RepKV.rep {x : D} {nk : NestedKey} {v : V} {u : Value} (a3 : Rep K I H x v) (a4 : RelV v u) : ∀ {ds : List D} {xs : List KE3}, RepKV K I H ds xs → RepKV K I H (kvRep nk x ds) (xs.map (putAt nk u))
  | [], _, h => by
    have h : _ = [] := h
    subst h
    exact rfl
  | _ :: _, _, ⟨k0, x0, nk0, b0, u0, v0, r, h1, h2, h3, h4, h5, h6, h7⟩ => by
    subst h1; subst h2
    rw [List.map_cons]
    unfold kvRep putAt
    by_cases e : nk0 = nk
    · subst e
      rw [if_pos h3.1, if_pos rfl]
      exact ⟨k0, x, nk0, b0, u, v, _, rfl, rfl, h3, h4, a3, a4, RepKV.rep a3 a4 h7⟩
    · rw [if_neg (by rw [h3.1]; exact fun z => e (Option.some.inj z)), if_neg e]
      exact ⟨k0, x0, nk0, b0, u0, v0, _, rfl, rfl, h3, h4, h5, h6, RepKV.rep a3 a4 h7⟩
theorem RepKV.put {k x : D} {nk : NestedKey} {b : Addr} {v : V} {u : Value} (a1 : keyN k = some nk ∧ nk.depth ≤ 8) (a2 : Rep K I H k (.ref b)) (a3 : Rep K I H x v) (a4 : RelV v u) {ds : List D} {xs : List KE3} (h : RepKV K I H ds xs) : RepKV K I H (kvPut nk k x ds) (storedH xs nk b u) := by
  unfold kvPut storedH
  rcases h.at nk with ⟨e1, e2⟩ | ⟨y, p, w, e1, e2, _⟩
  · rw [e1, e2]
    exact h.snoc a1 a2 a3 a4
  · rw [e1, e2]
    exact h.rep a3 a4
/-! ### {} -/
def cDic0 : EF := fun _ M => some (.ok (.dic M.length), M ++ [[]])
def tDicN : TE := fun _ H Q => ∀ p, H p = none → Q (.ref p) (upd H p (dicO p []))
theorem pe_dicN {pos : Pos} : PE X (.Dict [] [] pos) tDicN := ⟨fun pins s σ H Q Iv h =>
  wpAny_Dict_empty ⟨.ref s.heap.objs.size, _, Iv.laid (a := s.heap.objs.size) (o := dicO s.heap.objs.size []) (t' := s.toks) (fun _ _ q => Heap.get?_push_of_some _ q) (Nat.le_refl _)
    (ext_of ⟨beq_eq_false_iff_ne.mpr (Ne.symm (Nat.ne_of_lt Iv.big)), Nat.zero_le _, List.nodup_nil, _, #[], 0, Heap.get?_push_size _ rfl, ⟨rfl, rfl, rfl⟩, rfl, rfl⟩), rfl, h _ (Iv.hok.fresh (Nat.le_refl _))⟩⟩
theorem ev_dic0 {pos : Pos} : EvE X W (.Dict [] [] pos) cDic0 := by
  refine ⟨pe_imp pe_dicN fun σ H Q h p hp => ?_⟩
  obtain ⟨I, M, en, S, r, k⟩ := h
  have k : Kp X.K X.mg W (Rep X.K) (some (.ok (.dic M.length), M ++ [[]])) I H σ Q := k
  refine k.ok' (Ext.newD hp (S.fresh hp).1) (S.newD hp (ds := []) rfl) ?_
  simp only [Rep]
  exact ⟨p, rfl, by rw [← S.len]; simp [Ow.addD], List.mem_cons_self⟩
/-! ### d[k] -/
def dAt (n : Nat) (y : D) (M : Store) : Option (Option D) := match M[n]?, keyOk y with
  | some ds, some nk => some (kvAt nk ds)
  | _, _ => none
def cDGet (fd fk : EF) : EF := fun en M => bnd (fd en M) fun x M1 => bnd (fk en M1) fun y M2 => match x with
  | .dic n => match dAt n y M2 with | some (some z) => some (.ok z, M2) | _ => none
  | _ => none
def KnownAt (K : PySem.W.Frag) (H : Hp) (a : Addr) (xs : List KE3) (y : V) (nk : NestedKey) : Prop := H a = some (dicO a xs) ∧ XsOk K H xs ∧ ∃ b, y = .ref b ∧ KeyV K H nk (.ref b) ∧ nk.depth ≤ 8
theorem known_of {n : Nat} {a : Addr} {ds : List D} {y : D} {v : V} {nk : NestedKey} (S : Sto K I H M) (h : I.AtD n a) (hm : M[n]? = some ds) (ry : Rep K I H y v) (hk : keyOk y = some nk) :
    ∃ xs, RepKV K I H ds xs ∧ KnownAt K H a xs v nk := by
  obtain ⟨xs, h1, h2⟩ := S.atD n a ds h hm
  obtain ⟨⟨k1, k2⟩, es, rfl⟩ := keyOk_ok hk
  have ry2 := ry
  simp only [Rep] at ry2
  obtain ⟨b, vs, rfl, _⟩ := ry2
  exact ⟨xs, h2, h1, h2.ok, b, rfl, keyV_of ry k1, k2⟩
variable {o i e f value : Expr} {pos pos' apos cpos : Pos} {td ty tv tx : TE} {fd fk fv fx : EF} {k : Nat}
theorem dicAt (S : Sto K I H M) {n : Nat} {v : V} (h : Rep K I H (.dic n) v) : ∃ a, v = .ref a ∧ I.AtD n a := by
  simp only [Rep] at h
  exact h
theorem dic_typeIs {pins : List (Addr × Obj)} {s : Shared} {a : Addr} {xs : List KE3} (Iv : Inv X pins σ H s) (e : H a = some (dicO a xs)) (ok : XsOk X.K H xs) : s.TypeIs (.ref a) "dict" ∧ ∀ b, Value.ref a = .ref b → ∃ ob, s.heap.get? b = some ob ∧ ob.dict = none := by
  have d := (dicOf Iv e ok).1
  refine ⟨d.typeIs, fun b q => ?_⟩
  cases q
  obtain ⟨ob, _, _, h1, h2, _⟩ := d
  exact ⟨ob, h1, h2.2.1⟩
def tXGet (K : PySem.W.Frag) (td ty : TE) : TE := fun σ H Q => td σ H fun x H1 => ty σ H1 fun y H2 => ∃ a xs nk p v, x = .ref a ∧ KnownAt K H2 a xs y nk ∧ atKey xs nk = some p ∧ RelV v p.2 ∧ Q v H2
theorem pe_xget (hu : X.A.units + 9 < cLine) (ho : PE X o td) (hi : PE X i ty) (hs : NoSl i) : PE X (.Subscript o i pos) (tXGet X.K td ty) := by
  refine ⟨fun pins s σ H Q Iv h => ?_⟩
  refine subD_of PySem.F.slot_dict_getitem.lookup hs (thn (ho.run pins s σ H _ Iv h) fun u s1 ⟨x, H1, I1, rx, q1⟩ => thn (hi.run pins s1 σ H1 _ I1 q1) fun iv s2 ⟨y, H2, I2, ry, a, xs, nk, p, v, ex, ⟨g1, g2, b, ey, g3, g4⟩, hp, rv, q2⟩ => ?_)
  subst ex; subst ey
  obtain rfl : u = Value.ref a := rx
  obtain rfl : iv = Value.ref b := ry
  exact ⟨(dic_typeIs I2 g1 g2).1, x_getItem hu I2 g1 g2 g3 g4 hp fun s3 I3 => ⟨v, H2, I3, rv, q2⟩⟩
theorem ev_dget (hu : X.A.units + 9 < cLine) (ho : EvE X W o fd) (hi : EvE X W i fk) (hs : NoSl i := by intro _ _; rfl) : EvE X W (.Subscript o i pos) (cDGet fd fk) := by
  refine ⟨pe_imp (pe_xget hu ho.pe hi.pe hs) fun σ H Q h => ?_⟩
  obtain ⟨I, M, en, S, r, k⟩ := h
  refine ⟨I, M, en, S, r, Kp.bind k fun x M1 I1 H1 u1 e1 S1 r1 k1 => ?_⟩
  refine ⟨I1, M1, en, S1, r.mono e1, Kp.bind k1 fun y M2 I2 H2 u2 e2 S2 r2 k2 => ?_⟩
  cases x <;> (try exact k2.elim)
  rename_i n
  dsimp only at k2
  obtain ⟨a, rfl, ha⟩ := dicAt S1 r1
  unfold dAt at k2
  cases qm : M2[n]? with
  | none => rw [qm] at k2; exact k2.elim
  | some ds =>
  cases qk : keyOk y with
  | none => rw [qm, qk] at k2; exact k2.elim
  | some nk =>
  rw [qm, qk] at k2
  dsimp only at k2
  obtain ⟨xs, h1, h2⟩ := known_of S2 (e2.getD ha) qm r2 qk
  rcases h1.at nk with ⟨z, _⟩ | ⟨z, p, v, z1, z2, z3, z4⟩
  · rw [z] at k2; exact k2.elim
  · rw [z1] at k2
    exact ⟨a, xs, nk, p, v, rfl, h2, z2, z4, k2.ok S2 z3⟩
/-! ### d.get(k, x) -/
def cDGet2 (fd fk fx : EF) : EF := fun en M => bnd (fd en M) fun x M1 => match x with
  | .dic n => if n < M1.length then bnd (fk en M1) fun y M2 => bnd (fx en M2) fun z M3 => match dAt n y M3 with | some (some w) => some (.ok w, M3) | some none => some (.ok z, M3) | none => none else none
  | _ => none
def tXGet2 (K : PySem.W.Frag) (td ty tx : TE) : TE := fun σ H Q => td σ H fun x H1 => ∃ a xs0, x = .ref a ∧ H1 a = some (dicO a xs0) ∧ XsOk K H1 xs0 ∧ ty σ H1 fun y H2 => tx σ H2 fun z H3 =>
  ∃ xs nk w, KnownAt K H3 a xs y nk ∧ (∀ r, RelV z r → RelV w (((atKey xs nk).map (·.2)).getD r)) ∧ Q w H3
theorem pe_xget2 (hu : X.A.units + 9 < cLine) (ho : PE X o td) (he : PE X e ty) (hf : PE X f tx) (m : M2 X o "get" apos e f cpos) : PE X (.Call (.Attribute o "get" apos) [e, f] [] cpos) (tXGet2 X.K td ty tx) := by
  refine ⟨fun pins s σ H Q Iv h => ?_⟩
  refine wpAny_Call_method m.base m.few m.line PySem.F.plainAttrs_dict PySem.F.slot_dict_get PySem.F.type_dict_get (thn (ho.run pins s σ H _ Iv h) fun u s1 ⟨x, H1, I1, rx, a, xs0, ex, g1, g2, q1⟩ => ?_)
  subst ex
  obtain rfl : u = Value.ref a := rx
  obtain ⟨t1, t2⟩ := dic_typeIs I1 g1 g2
  refine ⟨t1, t2, ?_⟩
  rw [m.trees]
  refine Calls.callWith_builtin rfl (Calls.evalArgs_plain (Calls.spliced_cons (thn (he.run pins s1 σ H1 _ I1 q1) fun iv s2 ⟨y, H2, I2, ry, q2⟩ =>
    Calls.spliced_cons (thn (hf.run pins s2 σ H2 _ I2 q2) fun fv s3 ⟨z, H3, I3, rz, xs, nk, w, ⟨k1, k2, b, ey, k3, k4⟩, hw, q3⟩ => Calls.spliced_nil ?_))))
  subst ey
  obtain rfl : iv = Value.ref b := ry
  exact x_get2 hu I3 k1 k2 k3 k4 fun s4 I4 => ⟨w, H3, I4, hw _ rz, q3⟩
theorem ev_dget2 (hu : X.A.units + 9 < cLine) (ho : EvE X W o fd) (he : EvE X W e fk) (hf : EvE X W f fx) (m : M2 X o "get" apos e f cpos := by exact ⟨rfl, rfl, rfl, rfl⟩) : EvE X W (.Call (.Attribute o "get" apos) [e, f] [] cpos) (cDGet2 fd fk fx) := by
  refine ⟨pe_imp (pe_xget2 hu ho.pe he.pe hf.pe m) fun σ H Q h => ?_⟩
  obtain ⟨I, M, en, S, r, k⟩ := h
  refine ⟨I, M, en, S, r, Kp.bind k fun x M1 I1 H1 u1 e1 S1 r1 k1 => ?_⟩
  cases x <;> (try exact k1.elim)
  rename_i n
  dsimp only at k1
  split at k1
  case isFalse => exact k1.elim
  rename_i hn
  obtain ⟨a, rfl, ha⟩ := dicAt S1 r1
  obtain ⟨xs0, g1, g2⟩ := S1.atD n a _ ha (List.getElem?_eq_getElem hn)
  refine ⟨a, xs0, rfl, g1, g2.ok, I1, M1, en, S1, r.mono e1, Kp.bind k1 fun y M2 I2 H2 u2 e2 S2 r2 k2 => ?_⟩
  refine ⟨I2, M2, en, S2, (r.mono e1).mono e2, Kp.bind k2 fun z M3 I3 H3 u3 e3 S3 r3 k3 => ?_⟩
  unfold dAt at k3
  cases qm : M3[n]? with
  | none => rw [qm] at k3; exact k3.elim
  | some ds =>
  cases qk : keyOk y with
  | none => rw [qm, qk] at k3; exact k3.elim
  | some nk =>
  rw [qm, qk] at k3
  dsimp only at k3
  obtain ⟨xs, h1, h2⟩ := known_of S3 (e3.getD (e2.getD ha)) qm (e3.rep r2) qk
  rcases h1.at nk with ⟨z1, z2⟩ | ⟨w, p, v, z1, z2, z3, z4⟩
  · rw [z1] at k3
    exact ⟨xs, nk, u3, h2, fun r hr => by rw [z2]; exact hr, k3.ok S3 r3⟩
  · rw [z1] at k3
    exact ⟨xs, nk, v, h2, fun r hr => by rw [z2]; exact z4, k3.ok S3 z3⟩
/-! ### k in d -/
def rXIn (K : PySem.W.Frag) (neg : Bool) : R2 := fun y x H Q => ∃ a xs nk, x = .ref a ∧ KnownAt K H a xs y nk ∧ Q (.bl (if neg = true then !(atKey xs nk).isSome else (atKey xs nk).isSome)) H
theorem op_xin (hu : X.A.units + 9 < cLine) : OpR X (compareOp .In) (rXIn X.K false) := by
  intro pins s σ H y x u w Q Iv ru rw' ⟨a, xs, nk, ex, ⟨g1, g2, b, ey, g3, g4⟩, q⟩
  subst ex; subst ey
  obtain rfl : w = Value.ref a := rw'
  obtain rfl : u = Value.ref b := ru
  exact x_in hu Iv g1 g2 g3 g4 fun s3 I3 => ⟨.bl (atKey xs nk).isSome, H, I3, rfl, q⟩
theorem op_xnotin (hu : X.A.units + 9 < cLine) : OpR X (compareOp .NotIn) (rXIn X.K true) := by
  intro pins s σ H y x u w Q Iv ru rw' ⟨a, xs, nk, ex, ⟨g1, g2, b, ey, g3, g4⟩, q⟩
  subst ex; subst ey
  obtain rfl : w = Value.ref a := rw'
  obtain rfl : u = Value.ref b := ru
  exact x_notIn hu Iv g1 g2 g3 g4 fun s3 I3 => ⟨.bl (!(atKey xs nk).isSome), H, I3, rfl, q⟩
def gDIn (neg : Bool) : D → D → Store → Res D := fun y x M => match x with
  | .dic n => match dAt n y M with | some o => some (.ok (.bl (if neg = true then !o.isSome else o.isSome)), M) | none => none
  | _ => none
theorem opd_xin {neg : Bool} : OpD K mg W (gDIn neg) (rXIn K neg) := by
  intro y x M I H u v σ Q S ry rx k
  unfold gDIn at k
  cases x <;> (try exact k.elim)
  rename_i n
  dsimp only at k
  obtain ⟨a, rfl, ha⟩ := dicAt S rx
  unfold dAt at k
  cases qm : M[n]? with
  | none => rw [qm] at k; exact k.elim
  | some ds =>
  cases qk : keyOk y with
  | none => rw [qm, qk] at k; exact k.elim
  | some nk =>
  rw [qm, qk] at k
  dsimp only at k
  obtain ⟨xs, h1, h2⟩ := known_of S ha qm ry qk
  refine ⟨a, xs, nk, rfl, h2, ?_⟩
  have e : (kvAt nk ds).isSome = (atKey xs nk).isSome := by
    rcases h1.at nk with ⟨z1, z2⟩ | ⟨w, p, v, z1, z2, _⟩ <;> rw [z1, z2] <;> rfl
  rw [e] at k
  exact k.ok S rep_bl
theorem gDIn_bl {neg : Bool} : ∀ a b M x M', gDIn neg a b M = some (.ok x, M') → ∃ b, x = .bl b := by
  intro a b M x M' h
  unfold gDIn at h
  split at h
  · split at h
    · cases h; exact ⟨_, rfl⟩
    · cases h
  · cases h
/-! ### d[k] = v -/
def sDPut (fv fd fk : EF) : SF := fun en M => sbnd (fv en M) en fun z M1 => sbnd (fd en M1) en fun x M2 => sbnd (fk en M2) en fun y M3 => match x with
  | .dic n => match M3[n]?, keyOk y with
    | some ds, some nk => if szOk (ds.length + 1) = true then some (.nx en, M3.set n (kvPut nk y z ds)) else none
    | _, _ => none
  | _ => none
def sXPut (K : PySem.W.Frag) (td ty tv : TE) : TS := fun Z σ H => tv σ H fun v H1 => td σ H1 fun x H2 => ty σ H2 fun y H3 => ∃ a xs nk b, x = .ref a ∧ y = .ref b ∧ KnownAt K H3 a xs y nk ∧ (∀ w, nk.hash w = kHash nk) ∧ xs.length < sizeLine ∧
  ∀ r, RelV v r → Z.nx σ (upd H3 a (dicO a (storedH xs nk b r)))
theorem ps_xput (hu : X.A.units + 9 < cLine) (ho : PE X o td) (hi : PE X i ty) (hv : PE X value tv) (hs : swapsWith value (some (.Subscript o i pos')) pos.line X.env = pure false) :
    PS X (.Assign [.Subscript o i pos'] value pos) (sXPut X.K td ty tv) := by
  refine ⟨fun pins s σ H D Iv h => ?_⟩
  refine wpAny_Assign_Subscript (thn (hv.run pins s σ H _ Iv h) fun r s1 ⟨v, H1, I1, rv, q1⟩ => thn (ho.run pins s1 σ H1 _ I1 q1) fun u s2 ⟨x, H2, I2, rx, q2⟩ => thn (hi.run pins s2 σ H2 _ I2 q2) fun iv s3 ⟨y, H3, I3, ry, a, xs, nk, b, ex, ey, ⟨g1, g2, b', ey', g3, g4⟩, g5, g6, q3⟩ => ?_) hs
  subst ex; subst ey
  cases ey'
  obtain rfl : u = Value.ref a := rx
  obtain rfl : iv = Value.ref b := ry
  exact x_setItem hu I3 g1 g2 g3 g4 g5 g6 fun s4 I4 => ⟨σ, _, I4, q3 r rv⟩
theorem es_dput (hu : X.A.units + 9 < cLine) (ho : EvE X W o fd) (hi : EvE X W i fk) (hv : EvE X W value fv) (hs : swapsWith value (some (.Subscript o i pos')) pos.line X.env = pure false := by rfl) :
    EvS X W (.Assign [.Subscript o i pos'] value pos) (sDPut fv fd fk) := by
  refine ⟨ps_imp (ps_xput hu ho.pe hi.pe hv.pe hs) fun Z σ H h => ?_⟩
  obtain ⟨I, M, en, S, re, k⟩ := h
  refine ⟨I, M, en, S, re, Sp_.bind k re fun z M1 I1 H1 u1 e1 S1 r1 k1 => ?_⟩
  refine ⟨I1, M1, en, S1, re.mono e1, Sp_.bind k1 (re.mono e1) fun x M2 I2 H2 u2 e2 S2 r2 k2 => ?_⟩
  refine ⟨I2, M2, en, S2, (re.mono e1).mono e2, Sp_.bind k2 ((re.mono e1).mono e2) fun y M3 I3 H3 u3 e3 S3 r3 k3 => ?_⟩
  cases x <;> (try exact k3.elim)
  rename_i n
  dsimp only at k3
  obtain ⟨a, rfl, ha⟩ := dicAt S2 r2
  cases qm : M3[n]? with
  | none => rw [qm] at k3; exact k3.elim
  | some ds =>
  cases qk : keyOk y with
  | none => rw [qm, qk] at k3; exact k3.elim
  | some nk =>
  rw [qm, qk] at k3
  dsimp only at k3
  split at k3
  case isFalse => exact k3.elim
  rename_i qs
  obtain ⟨xs, h1, h2⟩ := known_of S3 (e3.getD ha) qm r3 qk
  obtain ⟨g1, g2, b, ey, g3, g4⟩ := h2
  subst ey
  have hl := h1.length
  have hsz := szOk_ok qs
  have hk := keyOk_ok qk
  refine ⟨a, xs, nk, b, rfl, rfl, ⟨g1, g2, b, rfl, g3, g4⟩, fun w => kHash_is hk.1.1, by omega, fun r hr => ?_⟩
  have hm : a ∈ I3.c := List.mem_of_getElem? (e3.getD ha).1
  have e123 := (e1.trans e2).trans e3
  exact k3 I3 _ σ (Ext.write hm) (S3.writeD (e3.getD ha) (h1.put hk.1 r3 (e3.rep (e2.rep r1)) hr)) ((re.mono e123).mono (Ext.write hm))
end
end DL
/-! The data layer, part 25: the rules of dicts in short. -/
namespace DL
open PySem PySem.Spec PyProof.Rows L2
section
variable {X : Cx} {W : WX} {a b o i e f value : Expr} {pos pos' apos cpos : Pos} {fa fb fd fk fv fx : EF} {k : Nat}
theorem hu9 {A : Around} (h : Room k A) : A.units + 9 < cLine := by have := h.un; omega
theorem q_din (hr : Room k X.A) (ha : EvE X W a fa) (hb : EvE X W b fb) (hm : behindInMarks .In b = false := by with_unfolding_all rfl) : EvE X W (.Compare a [.In] [b] pos) (cOp (gDIn false) fa fb) := ev_cmp (op_xin (hu9 hr)) opd_xin ha hb hm
theorem t_din (hr : Room k X.A) (ha : EvE X W a fa) (hb : EvE X W b fb) (hm : behindInMarks .In b = false := by with_unfolding_all rfl) : EvT X W (.Compare a [.In] [b] pos) (cTru (cOp (gDIn false) fa fb)) := et_cmp (op_xin (hu9 hr)) opd_xin gDIn_bl ha hb hm
theorem q_dnotin (hr : Room k X.A) (ha : EvE X W a fa) (hb : EvE X W b fb) (hm : behindInMarks .NotIn b = false := by with_unfolding_all rfl) : EvE X W (.Compare a [.NotIn] [b] pos) (cOp (gDIn true) fa fb) := ev_cmp (op_xnotin (hu9 hr)) opd_xin ha hb hm
theorem t_dnotin (hr : Room k X.A) (ha : EvE X W a fa) (hb : EvE X W b fb) (hm : behindInMarks .NotIn b = false := by with_unfolding_all rfl) : EvT X W (.Compare a [.NotIn] [b] pos) (cTru (cOp (gDIn true) fa fb)) := et_cmp (op_xnotin (hu9 hr)) opd_xin gDIn_bl ha hb hm
theorem d_ix (hr : Room k X.A) (ho : EvE X W o fd) (hi : EvE X W i fk) (hs : NoSl i := by intro _ _; rfl) : EvE X W (.Subscript o i pos) (cDGet fd fk) := ev_dget (hu9 hr) ho hi hs
theorem d_gt (hr : Room k X.A) (ho : EvE X W o fd) (he : EvE X W e fk) (hf : EvE X W f fx) (m : M2 X o "get" apos e f cpos := by exact ⟨rfl, rfl, rfl, rfl⟩) : EvE X W (.Call (.Attribute o "get" apos) [e, f] [] cpos) (cDGet2 fd fk fx) := ev_dget2 (hu9 hr) ho he hf m
theorem d_pt (hr : Room k X.A) (ho : EvE X W o fd) (hi : EvE X W i fk) (hv : EvE X W value fv) (hs : swapsWith value (some (.Subscript o i pos')) pos.line X.env = pure false := by rfl) :
    EvS X W (.Assign [.Subscript o i pos'] value pos) (sDPut fv fd fk) := es_dput (hu9 hr) ho hi hv hs
/-! // and % by any number but 0 -/
def divN (_ j : Int) : Bool := decide (j ≠ 0) && decide (j.natAbs.log2 < 9000)
abbrev gDivN : D → D → Store → Res D := gI divN fun i j => .int (i.fdiv j)
abbrev gModN : D → D → Store → Res D := gI (fun _ j => decide (j ≠ 0)) fun i j => .int (i.fmod j)
theorem op_fdivX : OpR X (binaryOp .FloorDiv) (rI (fun _ j => j ≠ 0 ∧ j.natAbs.log2 < 9000) fun i j => .int (i.fdiv j)) := opI fun _ _ _ _ _ _ _ hc q => floordiv_int hc.1 q (.inl (PyProof.noPylong_of_log2 hc.2))
theorem opd_divN {K : PySem.W.Frag} {mg : Str → Option Value} : OpD K mg W gDivN (rI (fun _ j => j ≠ 0 ∧ j.natAbs.log2 < 9000) fun i j => .int (i.fdiv j)) := opd_I (fun i j h => by
  unfold divN at h
  rw [Bool.and_eq_true, decide_eq_true_eq, decide_eq_true_eq] at h
  exact h) fun i j I H => rep_int
theorem opd_modN {K : PySem.W.Frag} {mg : Str → Option Value} : OpD K mg W gModN (rI (fun _ j => j ≠ 0) fun i j => .int (i.fmod j)) := opd_I (fun i j h => of_decide_eq_true h) fun i j I H => rep_int
theorem o_fdivN (ha : EvE X W a fa) (hb : EvE X W b fb) : EvE X W (.BinOp a .FloorDiv b pos) (cOp gDivN fa fb) := ev_op op_fdivX opd_divN ha hb
theorem o_modN (ha : EvE X W a fa) (hb : EvE X W b fb) : EvE X W (.BinOp a .Mod b pos) (cOp gModN fa fb) := ev_op op_modN opd_modN ha hb
end
end DL
/-! The data layer, part 26: sorted(d), len(dict(xs)), x //= y. -/
namespace DL
open PySem PySem.Spec PyProof.Rows L2 PySem.Calls
section
variable {X : Cx} {W : WX} {K : PySem.W.Frag} {mg : Str → Option Value} {I I' : Ow} {H H' : Hp} {M M' : Store} {σ : L2.St} {en : Env} {k : Nat} {pos p : Pos} {e a x : Expr} {es : List Expr} {fr fa : Env → Store → Res (List D)}
/-! ### x //= y -/
def divI (_ j : Int) : Bool := decide (0 < j) && decide (j < 1073741824)
abbrev gDivI : D → D → Store → Res D := gI divI fun i j => .int (i / j)
theorem opd_divI : OpD K mg W gDivI (rI CDiv fun i j => .int (i / j)) := opd_I (fun i j h => by
  unfold divI at h
  rw [Bool.and_eq_true, decide_eq_true_eq, decide_eq_true_eq] at h
  exact h) fun _ _ _ _ => rep_int
/-- a pair's key -/
def keyD : D → D
  | .tup [k, _] => k
  | d => d
/-! ### sorted(d) -/
def rSortK (K : PySem.W.Frag) : List V → Hp → VK → Prop := fun xs H Q => ∃ (a : Addr) (kvs : List KE3) (ps : List (V × PyData)), xs = [.ref a] ∧ H a = some (dicO a kvs) ∧ XsOk K H kvs ∧ ps.map (·.1) = kvs.map (fun x => V.ref x.2.1) ∧
  DpAll K H (ps.map (·.1)) (ps.map (·.2)) ∧ SrtOk (ps.map (·.2)) ∧ ∀ p, H p = none → Q (.ref p) (upd H p (.lst ((ps.mergeSort (PySem.W.dataLe false (·.2))).map (·.1))))
theorem vals_refs {α : Type} {f : α → Addr} : ∀ l : List α, Vals (l.map fun x => V.ref (f x)) (l.map fun x => Value.ref (f x))
  | [] => .nil
  | _ :: r => .cons rfl (vals_refs r)
theorem cr_sortK (hc : X.calm = true) (hu : X.A.units + 66 < cLine) : CallR X (.builtin "sorted") (rSortK X.K) := by
  intro pins s σ H xs us Q I r h
  obtain ⟨a, kvs, ps, rfl, ha, ok, e1, hd, ⟨o1, o2, o3, o4⟩, q⟩ := h
  obtain ⟨u, rfl, ru⟩ := vals1 r
  obtain rfl : u = Value.ref a := ru
  obtain ⟨⟨h1, h2, h3, o, es, ep, h4, h5, h6, h7⟩, _, _⟩ := (show ObjOk X.prog X.w H s.heap a (dicO a kvs) from I.hok a _ ha)
  have hes : es.size = kvs.length := by rw [← Array.length_toList, h7, List.length_map]
  have hps : ps.length = kvs.length := by
    have z := congrArg List.length e1
    rwa [List.length_map, List.length_map] at z
  have o4' : ps.length ≤ 16777216 := by simpa using o4
  have hz : es.size ≤ sizeLine := by rw [hes, ← hps, sizeLine_eq]; exact o4'
  refine call_function_entry kind_sorted plain_sorted entry_sorted (args_sorted1 _) ?_
  unfold Builtin.«sorted»
  refine wpAny_bind (m := checkCount "sorted" 1 1 _) (wpAny_pure ?_)
  refine wpAny_bind (PySem.W.kdu_collect (A := X.A.in1) (PySem.KdlSrc.rawDict (es := es) (ep := ep) h1) (I.ok.hd hc) ⟨o, h4, h5, h6⟩ hz fun h' tk acc hk hacc => ?_)
  have hal : acc.toList = kvs.map fun x => Value.ref x.2.1 := by
    refine List.ext_getElem? fun j => ?_
    by_cases hj : j < es.size
    · have hj2 : j < acc.size := by rw [hacc.1]; exact hj
      obtain ⟨hi, z⟩ := hacc.2 j acc[j] (Array.getElem?_eq_getElem hj2)
      rw [Array.getElem?_toList, Array.getElem?_eq_getElem hj2, z, List.getElem?_map]
      have w : es.toList[j]? = some es[j] := by rw [Array.getElem?_toList, Array.getElem?_eq_getElem hj]
      rw [h7, List.getElem?_map] at w
      cases g : kvs[j]? with
      | none => rw [g] at w; cases w
      | some y =>
        rw [g] at w
        have w := Option.some.inj w
        rw [← w]
        rfl
    · rw [List.getElem?_eq_none (by rw [Array.length_toList, hacc.1]; omega), List.getElem?_eq_none (by rw [List.length_map]; omega)]
  have I1 : Inv X pins σ H { s with heap := h', toks := tk } := I.kept hk
  have hlen : acc.toList.length = ps.length := by rw [hal, List.length_map, hps]
  refine wpAny_bind (wpAny_newList ?_ (by rw [hlen, sizeLine_eq]; exact o4'))
  have rv : Vals (ps.map (·.1)) acc.toList := by rw [e1, hal]; exact vals_refs kvs
  have hoL : (h'.push (seqObj "list" acc.toList.toArray 0)).get? h'.objs.size = some (seqObj "list" acc.toList.toArray 0) := Heap.get?_push_size _ rfl
  show wpAny _ _ _ _ _ { s with heap := h'.push (seqObj "list" acc.toList.toArray 0), toks := tk }
  have er := each_reads I1 rv hd
  have er' : PySem.W.EachIs (fun (u : Value) (p : V × PyData) => ∃ as, Reads (PySem.W.sortingHeap (h'.push (seqObj "list" acc.toList.toArray 0)) h'.objs.size acc.toList) u p.2 as) acc.toList ps := er.mono fun u p ⟨as, r⟩ => ⟨as, PyProof.Rows.Reads.keeps (fun b o e => PySem.W.sortingHeap_old (Nat.ne_of_lt (Heap.lt_size e)) (Heap.get?_push_of_some _ e)) r⟩
  have rz := each_zip rv
  refine wpAny_bind (wpAny_holding (wpAny_call_entry PyProof.Rows.slot_list_sort ⟨_, hoL, rfl⟩ PyProof.Rows.entry_list_sort
    (PySem.W.list_sort_vals (s := { s with heap := h'.push (seqObj "list" acc.toList.toArray 0), toks := tk }) (κ := PySem.W.dataKind (PySem.W.sortingHeap (h'.push (seqObj "list" acc.toList.toArray 0)) h'.objs.size acc.toList) (ps.map (·.2))) hoL
      (PySem.W.SortsAt.data (s := { s with heap := PySem.W.sortingHeap (h'.push (seqObj "list" acc.toList.toArray 0)) h'.objs.size acc.toList, toks := tk }) (PySem.W.each_map (R := fun v d => ∃ as, Reads (PySem.W.sortingHeap (h'.push (seqObj "list" acc.toList.toArray 0)) h'.objs.size acc.toList) v d as) (fun p : V × PyData => p.2) er') o1 o2
        (PySem.W.bound_map (bs := ps) (enc := fun p : V × PyData => p.2) fun b hb => by have := o3 b.2 (List.mem_map_of_mem hb); show X.A.units + 1 + 1 + _ < cLine; omega)) (by rw [hlen, sizeLine_eq]; exact o4') ⟨.none, rfl, ?_⟩) (PyProof.Rows.args_list_sort _)))
  have eo := PySem.W.sortVals_data (R := fun (u : Value) (p : V × PyData) => RelV p.1 u) false rz er' o1
  obtain ⟨c, hc'⟩ := PyProof.Rows.sortedHeap_at (vs := acc.toList) (out := (PySem.W.sortVals (PySem.W.dataKind (PySem.W.sortingHeap (h'.push (seqObj "list" acc.toList.toArray 0)) h'.objs.size acc.toList) (ps.map (·.2))) false acc.toList acc.toList).toArray) hoL
  have rb := each_back eo
  have hlen2 : ((ps.mergeSort (PySem.W.dataLe false fun p => p.2)).map (·.1)).length ≤ sizeLine := by
    rw [List.length_map, List.length_mergeSort, sizeLine_eq]; exact o4'
  refine wpAny_pure ⟨_, rfl, .ref h'.objs.size, upd H h'.objs.size (.lst ((ps.mergeSort (PySem.W.dataLe false fun p => p.2)).map (·.1))), I1.laid (t' := tk) (fun b u e => ?_) (Nat.le_refl _)
    (show ObjOk X.prog X.w _ _ _ (.lst ((ps.mergeSort (PySem.W.dataLe false fun p => p.2)).map (·.1))) from ⟨hlen2, _, c, rb, hc'⟩), rfl, q _ (I1.hok.fresh (Nat.le_refl _))⟩
  have hb : b < h'.objs.size := Heap.lt_size e
  rw [PyProof.Rows.sortedHeap_old (Nat.ne_of_lt hb) (by rw [size_push']; exact Nat.lt_succ_of_lt hb)]
  exact Heap.get?_push_of_some _ e
open Classical in
noncomputable def gSortK : List D → Store → Res D := fun xs M => match xs with
  | [.dic n] => match M[n]? with
    | some kv => match toPys (kv.map keyD) with
      | some ys => if SrtOk ys then some (.ok (.imm ((((kv.map keyD).zip ys).mergeSort (PySem.W.dataLe false (·.2))).map (·.1))), M) else none
      | none => none
    | none => none
  | _ => none
theorem RepKV.keys : ∀ {ds : List D} {xs : List KE3}, RepKV K I H ds xs → Reps K I H (ds.map keyD) (xs.map fun x => V.ref x.2.1)
  | [], _, h => by
    have h : _ = [] := h
    subst h; simp [Reps]
  | _ :: _, _, ⟨k, x, nk, b, u, v, r, h1, h2, h3, h4, h5, h6, h7⟩ => by
    subst h1; subst h2
    rw [List.map_cons, List.map_cons]
    exact Reps.cons h4 (RepKV.keys h7)
theorem cd_sortK : CallD K mg W gSortK (rSortK K) := by
  intro xs M I H us σ Q S r k
  unfold gSortK at k
  split at k
  · rename_i n
    obtain ⟨u, rfl, h⟩ := reps1 r
    split at k
    · rename_i kv q
      split at k
      · rename_i ys q2
        split at k
        · rename_i q3
          obtain ⟨a, rfl, ha⟩ := dicAt S h
          obtain ⟨kvs, h1, h2⟩ := S.atD n a kv ha q
          have g := h2.keys
          obtain ⟨ts, e1, e2, e3, e4⟩ := three g q2
          have hz : (kv.map keyD).zip ys = ts.map fun t => (t.1.2, t.2) := by rw [e2, e3, List.zip_map']
          have hm2 : (ts.map fun t => (t.1.1, t.2)).map (·.2) = ys := by rw [e3]; simp
          have hm1 : (ts.map fun t => (t.1.1, t.2)).map (·.1) = kvs.map fun x => V.ref x.2.1 := by rw [e1]; simp
          refine ⟨a, kvs, ts.map fun t => (t.1.1, t.2), rfl, h1, h2.ok, hm1, by rw [hm1, hm2]; exact dps_of g q2, by rw [hm2]; exact q3, fun l hl => ?_⟩
          rw [hz, sort_map] at k
          rw [sort_map]
          refine k.ok' (Ext.new hl) (S.new hl) ?_
          rw [List.map_map, List.map_map]
          refine rep_newL S hl (reps_all fun t ht => ?_)
          exact e4 t (List.mem_mergeSort.mp ht)
        · exact k.elim
      · exact k.elim
    · exact k.elim
  · exact k.elim
theorem b_sortedK (hr : Room k X.A) (z : X.mg "sorted" = none) (ha : EvA X W (e :: es) fr) (hc : X.calm = true := by rfl) (hg : Gl X "sorted" := by rfl) (he : starEach (e :: es) X.env = (false, eval e X.env) :: starEach es X.env := by rfl) (hpl : (backTo pos (starEach es X.env)).any (·.1) = false := by rfl) :
    EvE X W (.Call (.Name "sorted" p) (e :: es) [] pos) (cCall gSortK fr) := ev_callB (cr_sortK hc (hu66 hr)) cd_sortK hg z (by rfl) ha (by decide) (by decide) he hpl
/-! ### len(dict(xs)), xs a list of pairs whose firsts are ints -/
def pairKs : List D → Option (List (Int × D))
  | [] => some []
  | .tup [.int k, x] :: r => match pairKs r with | some l => some ((k, x) :: l) | none => none
  | _ => none
def newK (acc : List Int) (k : Int) : List Int := if acc.contains k = true then acc else acc ++ [k]
def nDist (ks : List Int) : Nat := (ks.foldl newK []).length
def gLenDict : List D → Store → Res D := fun xs M => match xs with
  | [.imm ds] => match pairKs ds with
    | some kv => some (.ok (.int (nDist (kv.map (·.1)))), M)
    | none => none
  | _ => none
def rDictP (K : PySem.W.Frag) : List V → Hp → VK → Prop := fun xs H Q => ∃ (a : Addr) (ps : List Addr) (kvs : List (Key × V)), xs = [.ref a] ∧ SqL K H a (ps.map V.ref) ∧ Paired (fun p kv => SqT K H p [kV kv.1, kv.2]) ps kvs ∧
    ∀ p, H p = none → Q (.ref p) (upd H p (.dK (mergeK [] kvs)))
theorem pairs_of' : ∀ {ds : List D} {kv : List (Int × D)} {vs : List V}, Reps K I H ds vs → pairKs ds = some kv → ∃ (ps : List Addr) (kvs : List (Key × V)), vs = ps.map V.ref ∧ Paired (fun p kv => SqT K H p [kV kv.1, kv.2]) ps kvs ∧ kvs.map (·.1) = kv.map fun q => Sum.inl q.1
  | [], _, vs, r, e => by
    simp only [pairKs, Option.some.injEq] at e; subst e
    simp only [Reps] at r; subst r
    exact ⟨[], [], rfl, .nil, rfl⟩
  | d :: ds, kv, vs, r, e => by
    unfold pairKs at e
    split at e
    · cases ‹d :: ds = []›
    · rename_i k x r' q
      cases q
      split at e
      · rename_i l q2
        cases e
        simp only [Reps] at r
        obtain ⟨v, vs', rfl, r1, r2⟩ := r
        obtain ⟨ps, kvs, rfl, h2, h3⟩ := pairs_of' r2 q2
        simp only [Rep] at r1
        obtain ⟨a, us, rfl, g1, g2⟩ := r1
        obtain ⟨u1, u2, rfl, g3, g4⟩ := reps2 g2
        simp only [Rep] at g3
        subst g3
        exact ⟨a :: ps, (Sum.inl k, u2) :: kvs, rfl, .cons g1.sq h2, by rw [List.map_cons, List.map_cons, h3]⟩
      · cases e
    · cases e
theorem putK_keys {l : List (Key × V)} {k : Int} {v : V} {acc : List Int} (h : l.map (·.1) = acc.map Sum.inl) : (putK l (Sum.inl k) v).map (·.1) = (newK acc k).map Sum.inl := by
  have hc : (l.any fun kv => decide (kv.1 = Sum.inl k)) = acc.contains k := by
    have e1 : (l.any fun kv => decide (kv.1 = Sum.inl k)) = (l.map (·.1)).any fun x => decide (x = Sum.inl k) := by rw [List.any_map]; rfl
    rw [e1, h, List.any_map, List.contains_eq_any_beq]
    congr 1
    funext x
    show decide (Sum.inl x = Sum.inl k) = (k == x)
    by_cases q : x = k
    · subst q; simp
    · rw [decide_eq_false (fun z => q (Sum.inl.inj z))]
      simp [Ne.symm q]
  unfold putK newK
  rw [hc]
  split
  · rw [List.map_map, ← h]
    refine List.map_congr_left fun x _ => ?_
    show (if x.1 = Sum.inl k then (x.1, v) else x).1 = x.1
    split <;> rfl
  · rw [List.map_append, List.map_append, h]; rfl
theorem mergeK_keys : ∀ {kvs : List (Key × V)} {ks : List Int} {l : List (Key × V)} {acc : List Int}, kvs.map (·.1) = ks.map Sum.inl → l.map (·.1) = acc.map Sum.inl → (mergeK l kvs).map (·.1) = (ks.foldl newK acc).map Sum.inl
  | [], [], _, _, _, h => h
  | (k, v) :: r, j :: ks, l, acc, e, h => by
    rw [List.map_cons, List.map_cons] at e
    injection e with e1 e2
    have e1 : k = Sum.inl j := e1
    subst e1
    exact mergeK_keys (ks := ks) (l := putK l (Sum.inl j) v) (acc := newK acc j) e2 (putK_keys h)
  | [], _ :: _, _, _, e, _ => by cases e
  | _ :: _, [], _, _, e, _ => by cases e
theorem ev_lenDict {p2 pos2 : Pos} (z : X.mg "len" = none) (z2 : X.mg "dict" = none) (ha : EvA X W [x] fr) (hc : X.calm = true := by rfl) (hg : Gl X "len" := by rfl) (hg2 : Gl X "dict" := by rfl)
    (he2 : starEach [x] X.env = (false, eval x X.env) :: starEach [] X.env := by rfl) (hpl : (backTo pos2 (starEach [] X.env)).any (·.1) = false := by rfl)
    (he : starEach [.Call (.Name "dict" p2) [x] [] pos2] X.env = (false, eval (.Call (.Name "dict" p2) [x] [] pos2) X.env) :: starEach [] X.env := by rfl) (hpl1 : (backTo pos (starEach [] X.env)).any (·.1) = false := by rfl) :
    EvE X W (.Call (.Name "len" p) [.Call (.Name "dict" p2) [x] [] pos2] [] pos) (cCall gLenDict fr) := by
  refine ⟨pe_imp (pe_callB call_lenD hg z (by rfl) (pa_cons (pe_callTy (r := rDictP X.K) (call_dictP hc) hg2 z2 (by rfl) ha.pa (by decide) (by decide) he2 hpl) pa_nil he) (by decide) (by decide) he hpl1) fun σ H Q h => ?_⟩
  obtain ⟨I, M, en, S, r, k⟩ := h
  refine ⟨I, M, en, S, r, k.bind fun xs M1 I1 H1 us e1 S1 r1 k1 => ?_⟩
  unfold gLenDict at k1
  split at k1
  · rename_i ds
    obtain ⟨u, rfl, h⟩ := reps1 r1
    split at k1
    · rename_i kv q
      simp only [Rep] at h
      obtain ⟨a, vs, rfl, h2, h3⟩ := h
      obtain ⟨ps, kvs, rfl, g2, g3⟩ := pairs_of' h3 q
      refine ⟨a, ps, kvs, rfl, .inl (.inl h2.1), g2, fun b hb => ?_⟩
      refine ⟨b, mergeK [] kvs, rfl, upd_same, ?_⟩
      have e : (mergeK [] kvs).length = nDist (kv.map (·.1)) := by
        have z := congrArg List.length (mergeK_keys (l := []) (acc := []) (ks := kv.map (·.1)) (by rw [g3, List.map_map]; rfl) rfl)
        rw [List.length_map, List.length_map] at z
        exact z
      rw [e]
      exact k1.ok' (Ext.new hb) (S1.new hb) rep_int
    · exact k1.elim
  · exact k1.elim
end
end DL
/-! The data layer, part 27: min of rows, xs.index(r), xs += ys, sorted of a tuple, for over a list of the store. -/
namespace DL
open PySem PySem.Spec PyProof.Rows L2 PySem.Calls
section
variable {X : Cx} {W : WX} {K : PySem.W.Frag} {mg : Str → Option Value} {I I' : Ow} {H H' : Hp} {M M' : Store} {σ : L2.St} {en : Env} {Z : Ends} {k : Nat} {pos p : Pos} {o e a x tg iter : Expr} {es : List Expr} {body : List Stmt} {fr : Env → Store → Res (List D)} {fo fa : EF} {g : GF} {q : SF} {Sl : List Nat}
/-! ### rows of ints -/
def rowOf : D → Option (List Int)
  | .tup ds => intsOf ds
  | _ => none
def rowsOf : List D → Option (List (List Int))
  | [] => some []
  | d :: r => match rowOf d, rowsOf r with | some x, some l => some (x :: l) | _, _ => none
theorem ints_map : ∀ {ds : List D} {ns : List Int}, intsOf ds = some ns → ds = ns.map D.int
  | [], ns, h => by simp only [intsOf, Option.some.injEq] at h; subst h; rfl
  | d :: ds, ns, h => by
    cases d <;> simp only [intsOf] at h
    all_goals first | (cases h; done) | skip
    split at h
    · rename_i l q
      cases h
      rw [List.map_cons, ← ints_map q]
    · cases h
theorem row_map {d : D} {r : List Int} (h : rowOf d = some r) : d = eRow r := by
  cases d <;> simp only [rowOf] at h
  all_goals first | (cases h; done) | skip
  unfold eRow
  rw [← ints_map h]
theorem rows_map : ∀ {ds : List D} {l : List (List Int)}, rowsOf ds = some l → ds = l.map eRow
  | [], l, h => by simp only [rowsOf, Option.some.injEq] at h; subst h; rfl
  | d :: ds, l, h => by
    simp only [rowsOf] at h
    split at h
    · rename_i x l' q1 q2
      cases h
      rw [List.map_cons, ← row_map q1, ← rows_map q2]
    · cases h
theorem ints_is : ∀ {ns : List Int}, intsOf (ns.map D.int) = some ns
  | [] => rfl
  | n :: ns => by rw [List.map_cons]; simp only [intsOf, ints_is]
theorem rowOf_is {r : List Int} : rowOf (eRow r) = some r := by
  unfold eRow rowOf
  exact ints_is
theorem rowsOf_is : ∀ {l : List (List Int)}, rowsOf (l.map eRow) = some l
  | [] => rfl
  | r :: l => by rw [List.map_cons]; simp only [rowsOf, rowOf_is, rowsOf_is]
def ltRow (x y : List Int) : Bool := PySem.W.dataLt (pRow x) (pRow y)
def minRow (x : List Int) (xs : List (List Int)) : List Int := xs.foldl (fun a y => if ltRow y a = true then y else a) x
theorem minD_rows : ∀ (xs : List (List Int)) (x : List Int), PySem.W.minD (pRow x) (xs.map pRow) = pRow (minRow x xs)
  | [], x => rfl
  | y :: xs, x => by
    unfold PySem.W.minD minRow
    rw [List.map_cons, List.foldl_cons, List.foldl_cons]
    have e : (if PySem.W.dataLt (pRow y) (pRow x) = true then pRow y else pRow x) = pRow (if ltRow y x = true then y else x) := by
      unfold ltRow
      split <;> rfl
    rw [e]
    exact minD_rows xs _
theorem alike_rows : ∀ {s t : List Int}, PySem.W.alikeAll (s.map PyData.int) (t.map PyData.int) = true
  | [], _ => by simp [PySem.W.alikeAll]
  | _ :: _, [] => by simp [PySem.W.alikeAll]
  | _ :: s, _ :: t => by
    rw [List.map_cons, List.map_cons]
    simp only [PySem.W.alikeAll, PySem.W.alike, Bool.true_and]
    exact alike_rows
theorem alike_row {s t : List Int} : PySem.W.alike (pRow s) (pRow t) = true := by
  unfold pRow
  simp only [PySem.W.alike]
  exact alike_rows
theorem pRow_inj {s t : List Int} (h : pRow s = pRow t) : s = t := by
  unfold pRow at h
  injection h with h
  exact List.map_inj_right (fun _ _ z => by injection z) |>.mp h
theorem rows_py {l : List (List Int)} : toPys (l.map eRow) = some (l.map pRow) := toPys_map (g := pRow) fun _ => toPy_row
theorem at_vals : ∀ {vs : List V} {us : List Value} {ds : List PyData} {i : Nat} {u : Value}, Vals vs us → DpAll K H vs ds → us[i]? = some u → ∃ v d, vs[i]? = some v ∧ RelV v u ∧ ds[i]? = some d ∧ Dp K H v d
  | [], [], _, _, _, _, _, h => by simp at h
  | v :: vs, u :: us, ds, i, w, r, d, h => by
    cases r with
    | cons r1 r2 =>
    cases d with
    | cons d1 d2 =>
    cases i with
    | zero =>
      cases (show some u = some w from h)
      exact ⟨_, _, rfl, r1, rfl, d1⟩
    | succ i => exact at_vals (i := i) r2 d2 (by simpa using h)
  | [], _ :: _, _, _, _, r, _, _ => by cases r
  | _ :: _, [], _, _, _, r, _, _ => by cases r
/-! ### min(xs) -/
def rMinR (K : PySem.W.Frag) : List V → Hp → VK → Prop := fun xs H Q => ∃ (a : Addr) (vs : List V) (r : List Int) (rs : List (List Int)), xs = [.ref a] ∧ (SqL K H a vs ∨ SqT K H a vs) ∧ DpAll K H vs ((r :: rs).map pRow) ∧
  ∀ (i : Nat) v, vs[i]? = some v → (r :: rs)[i]? = some (minRow r rs) → Q v H
theorem cr_minR (hc : X.calm = true) (hu : X.A.units + 66 < cLine) : CallR X (.builtin "min") (rMinR X.K) := by
  intro pins s σ H xs us Q I r h
  obtain ⟨a, vs, r0, rs, rfl, hs, hd, q⟩ := h
  obtain ⟨u, rfl, ru⟩ := vals1 r
  obtain rfl : u = Value.ref a := ru
  have fin : ∀ {its : List Value}, Vals vs its → ∀ (i : Nat) (v : Value) (h' : Heap) (tk : Nat) (bs : List Addr), its.toArray[i]? = some v → Reads h' v (PySem.W.minD (pRow r0) (rs.map pRow)) bs → (∀ b o, s.heap.get? b = some o → h'.get? b = some o) → EP X pins σ Q v { s with heap := h', toks := tk } := by
    intro its rv i v h' tk bs hv hr hk
    have I1 : Inv X pins σ H { s with heap := h', toks := tk } := I.kept hk
    obtain ⟨x, d, hx, rx, hdi, hdp⟩ := at_vals rv hd (by simpa using hv)
    obtain ⟨as, hr2⟩ := Dp.reads I1 d x v hdp rx
    rw [List.getElem?_map] at hdi
    cases hl : (r0 :: rs)[i]? with
    | none => rw [hl] at hdi; cases hdi
    | some z =>
      rw [hl] at hdi
      have hdi : pRow z = d := Option.some.inj hdi
      subst hdi
      rw [minD_rows] at hr
      have e := PySem.W.alike_unique _ _ _ _ _ alike_row hr2 hr
      have e := pRow_inj e
      subst e
      exact ⟨x, H, I1, rx, q i x hx hl⟩
  have hal : PySem.W.AlikeAll (pRow r0 :: rs.map pRow) := by
    refine ⟨fun x hx y hy => ?_, fun x hx => ?_⟩
    · rw [← List.map_cons] at hx hy
      obtain ⟨s, _, rfl⟩ := List.mem_map.mp hx
      obtain ⟨t, _, rfl⟩ := List.mem_map.mp hy
      exact alike_row
    · rw [← List.map_cons] at hx
      obtain ⟨s, _, rfl⟩ := List.mem_map.mp hx
      exact fun z => by unfold pRow at z; cases z
  have hdep : X.A.units + 1 + PyData.depthAll (pRow r0 :: rs.map pRow) < cLine := by
    rw [← List.map_cons]
    have := depthAll_le (f := pRow) (k := 1) (l := r0 :: rs) fun x _ => depth_row
    omega
  rcases hs with hs | hs
  · obtain ⟨its, rv, pl, hz⟩ := I.list hs
    obtain ⟨as, hr⟩ := Dp.readsAll I _ _ _ hd rv
    exact PySem.W.min_list_data (I.ok.hd hc) pl.isList hr hal hdep (fin rv)
  · obtain ⟨its, rv, pl, hz⟩ := I.tuple hs
    obtain ⟨as, hr⟩ := Dp.readsAll I _ _ _ hd rv
    exact PySem.W.min_tuple_data (I.ok.hd hc) pl hr hal hdep (fin rv)
def gMinR : List D → Store → Res D := fun xs M => match xs with
  | [d] => match itemsOf M d with
    | some ds => match rowsOf ds with
      | some (r :: rs) => some (.ok (eRow (minRow r rs)), M)
      | _ => none
    | none => none
  | _ => none
theorem cd_minR : CallD K mg W gMinR (rMinR K) := by
  intro xs M I H us σ Q S r k
  unfold gMinR at k
  split at k
  · rename_i d
    obtain ⟨u, rfl, h⟩ := reps1 r
    split at k
    · rename_i ds q
      split at k
      · rename_i r0 rs q2
        obtain ⟨p, vs, rfl, hs, g⟩ := items_of S h q
        have e := rows_map q2
        subst e
        refine ⟨p, vs, r0, rs, rfl, hs.elim (fun z => .inr z.2) .inl, dps_of g rows_py, fun i v hv hl => ?_⟩
        refine k.ok S ?_
        obtain ⟨w, hw, rw'⟩ := g.get' (i := i) (d := eRow (minRow r0 rs)) (by rw [List.getElem?_map, hl]; rfl)
        rw [hv] at hw
        cases hw
        exact rw'
      · exact k.elim
    · exact k.elim
  · exact k.elim
theorem b_minR (hr : Room k X.A) (z : X.mg "min" = none) (ha : EvA X W (e :: es) fr) (hc : X.calm = true := by rfl) (hg : Gl X "min" := by rfl) (he : starEach (e :: es) X.env = (false, eval e X.env) :: starEach es X.env := by rfl) (hpl : (backTo pos (starEach es X.env)).any (·.1) = false := by rfl) :
    EvE X W (.Call (.Name "min" p) (e :: es) [] pos) (cCall gMinR fr) := ev_callB (cr_minR hc (hu66 hr)) cd_minR hg z (by rfl) ha (by decide) (by decide) he hpl
/-! ### xs.index(r) -/
def idxR (r : List Int) : List (List Int) → Option Nat
  | [] => none
  | x :: l => if x = r then some 0 else (idxR r l).map (· + 1)
theorem idxR_at {r : List Int} : ∀ {l : List (List Int)} {j : Nat}, idxR r l = some j → l[j]? = some r ∧ ∀ (m : Nat) z, m < j → l[m]? = some z → z ≠ r
  | [], _, h => by cases h
  | x :: l, j, h => by
    unfold idxR at h
    split at h
    · rename_i e
      cases h
      exact ⟨by rw [← e]; rfl, fun m z hm => absurd hm (Nat.not_lt_zero m)⟩
    · rename_i e
      obtain ⟨i, hi, rfl⟩ := Option.map_eq_some_iff.mp h
      obtain ⟨h1, h2⟩ := idxR_at hi
      refine ⟨by simpa using h1, fun m z hm hz => ?_⟩
      cases m with
      | zero =>
        have : x = z := by simpa using hz
        rw [← this]; exact e
      | succ m => exact h2 m z (by omega) (by simpa using hz)
def cIdx (fo fa : EF) : EF := fun en M => bnd (fo en M) fun x M1 => match x with
  | .cel n => if n < M1.length then bnd (fa en M1) fun y M2 => match M2[n]? with
    | some ds => (match rowsOf ds, rowOf y with
      | some l, some r => (match idxR r l with | some j => some (.ok (.int (j : Int)), M2) | none => none)
      | _, _ => none)
    | none => none
    else none
  | _ => none
theorem shaped_rows {l : List (List Int)} : SeqAt.shaped (.list (l.map pRow)) = true := by
  have h1 : PyData.canLayAll0 (l.map pRow) = true := canLayAll_of fun x _ => lay_row
  have h2 := depthAll_le (f := pRow) (k := 1) (l := l) fun x _ => depth_row
  show ((PyData.list (l.map pRow)).canLay0 && decide ((PyData.list (l.map pRow)).depth ≤ 64)) = true
  simp only [PyData.canLay0, PyData.depth, h1, Bool.true_and]
  exact decide_eq_true (by omega)
theorem ev_idx {apos cpos : Pos} (hr : Room k X.A) (ho : EvE X W o fo) (ha : EvE X W e fa)
    (hbase : attributeBase o "index" X.env (eval o X.env) = eval o X.env := by rfl)
    (hfew : ((backTo cpos (starEach (e :: []) X.env)).all (fun x => !x.1) && (backToKw cpos (keywordEach [] X.env)).all (fun x => x.1.isSome)
      && decide ((e :: []).length + ([] : List Keyword).length + (if ([] : List Keyword).isEmpty then 0 else 1) < 30)) = true := by rfl)
    (hline : (apos.endLine == cpos.line) = true := by rfl) (hs : starEach (e :: []) X.env = (false, eval e X.env) :: starEach [] X.env := by rfl) (hplain : (backTo cpos (starEach [] X.env)).any (·.1) = false := by rfl) :
    EvE X W (.Call (.Attribute o "index" apos) [e] [] cpos) (cIdx fo fa) := by
  refine ⟨pe_imp (pe_bm PySem.F.plainAttrs_list PySem.F.slot_list_index PySem.F.type_list_index (mt_indexD (hu65 hr)) ho.pe (pa_cons ha.pe pa_nil hs) hbase hfew hline hs hplain) fun σ H Q h => ?_⟩
  obtain ⟨I, M, en, S, r, k⟩ := h
  refine ⟨I, M, en, S, r, ?_⟩
  unfold cIdx at k
  revert k
  cases fo en M with
  | none => exact id
  | some z =>
  obtain ⟨o1, M1⟩ := z
  cases o1 with
  | ex c fs => exact id
  | ok x1 =>
  rw [bnd_ok]
  cases x1 <;> (try exact False.elim)
  rename_i n
  dsimp only
  by_cases hn : n < M1.length
  case neg => rw [if_neg hn]; exact False.elim
  rw [if_pos hn]
  intro k I1 H1 v1 e1 S1 r1
  have k := kp_mono k e1
  simp only [Rep] at r1
  obtain ⟨l, rfl, hl⟩ := r1
  obtain ⟨vs0, h30, h40⟩ := S1.at_ n l _ hl (List.getElem?_eq_getElem hn)
  refine ⟨.inl ⟨rfl, vs0, .inl (.inl h30)⟩, I1, M1, en, S1, r.mono e1, Kp.bind k fun y M2 I2 H2 u e2 S2 r2 k2 => ?_⟩
  split at k2
  · rename_i ds qm
    split at k2
    · rename_i rows r0 q1 q2
      split at k2
      · rename_i j q3
        obtain ⟨vs, h3, h4⟩ := S2.at_ n l ds (e2.get hl) qm
        have ed := rows_map q1
        have er := row_map q2
        subst ed
        subst er
        obtain ⟨h5, h6⟩ := idxR_at q3
        refine ⟨l, u, pRow r0, rows.map pRow, j, pRow r0, rfl, rfl, .lst (.inl (.inl h3)) (dps_of h4 rows_py), dp_of r2 toPy_row, shaped_rows, shaped_row, by rw [List.getElem?_map, h5]; rfl, by rw [eqv_row]; simp, fun m z' hm hz => ?_, ?_⟩
        · rw [List.getElem?_map] at hz
          cases hq : rows[m]? with
          | none => rw [hq] at hz; cases hz
          | some w =>
            rw [hq] at hz
            have hz : pRow w = z' := Option.some.inj hz
            subst hz
            rw [eqv_row]
            have := h6 m w hm hq
            simpa using this
        · exact k2.ok S2 rep_int
      · exact k2.elim
    · exact k2.elim
  · exact k2.elim
/-! ### xs += ys -/
def gExt : D → D → Store → Res D := fun x y M => match x, y with
  | .cel n, .imm zs => match M[n]? with
    | some ds => if ds.length + zs.length ≤ 16777216 then some (.ok (.cel n), M.set n (ds ++ zs)) else none
    | none => none
  | _, _ => none
theorem opd_ext : OpD K mg W gExt rExt2 := by
  intro x y M I H u v σ Q S rx ry k
  unfold gExt at k
  split at k
  · rename_i n zs
    split at k
    · rename_i ds q
      split at k
      · rename_i hz
        simp only [Rep] at rx ry
        obtain ⟨l, rfl, hl⟩ := rx
        obtain ⟨b, vs, rfl, hb, h2⟩ := ry
        obtain ⟨us, h3, h4⟩ := S.at_ n l ds hl q
        have hm : l ∈ I.c := List.mem_of_getElem? hl.1
        refine ⟨l, b, us, vs, rfl, rfl, h3, hb.1, ?_, ?_⟩
        · rw [← h4.length, ← h2.length, sizeLine_eq]; exact hz
        · refine k.ok' (Ext.write hm) (S.write hl (h4.append h2)) ?_
          simp only [Rep]
          exact ⟨l, rfl, hl⟩
      · exact k.elim
    · exact k.elim
  · exact k.elim
/-! ### sorted(t), t a tuple -/
def rSortT (K : PySem.W.Frag) : List V → Hp → VK → Prop := fun xs H Q => ∃ (a : Addr) (vs : List V) (ps : List (V × PyData)), xs = [.ref a] ∧ SqT K H a vs ∧ ps.map (·.1) = vs ∧ DpAll K H vs (ps.map (·.2)) ∧ SrtOk (ps.map (·.2)) ∧
  ∀ p, H p = none → Q (.ref p) (upd H p (.lst ((ps.mergeSort (PySem.W.dataLe false (·.2))).map (·.1))))
theorem cr_sortT (hc : X.calm = true) (hu : X.A.units + 66 < cLine) : CallR X (.builtin "sorted") (rSortT X.K) := by
  intro pins s σ H xs us Q I r h
  obtain ⟨a, vs, ps, rfl, hs, rfl, hd, ⟨o1, o2, o3, o4⟩, q⟩ := h
  obtain ⟨u, rfl, ru⟩ := vals1 r
  obtain rfl : u = Value.ref a := ru
  obtain ⟨its, rv, ⟨oT, hT, cT, nT, dT⟩, hz⟩ := I.tuple hs
  have o4' : ps.length ≤ 16777216 := by simpa using o4
  have hlen : its.length = ps.length := by rw [← rv.length, List.length_map]
  refine call_function_entry kind_sorted plain_sorted entry_sorted (args_sorted1 _) ?_
  unfold Builtin.«sorted»
  refine wpAny_bind (m := checkCount "sorted" 1 1 _) (wpAny_pure ?_)
  refine wpAny_bind (wpAny_collect_seq (A := X.A.in1) a (.inr rfl) hT cT dT (fun h' hk => ?_) (by rw [List.size_toArray, sizeLine_eq]; omega))
  rw [List.toList_toArray]
  have I1 : Inv X pins σ H { s with heap := h', toks := s.toks } := I.kept hk
  refine wpAny_bind (wpAny_newList ?_ (by rw [hlen, sizeLine_eq]; exact o4'))
  have hoL : (h'.push (seqObj "list" its.toArray 0)).get? h'.objs.size = some (seqObj "list" its.toArray 0) := Heap.get?_push_size _ rfl
  show wpAny _ _ _ _ _ { s with heap := h'.push (seqObj "list" its.toArray 0), toks := s.toks }
  have er := each_reads I1 rv hd
  have er' : PySem.W.EachIs (fun (u : Value) (p : V × PyData) => ∃ as, Reads (PySem.W.sortingHeap (h'.push (seqObj "list" its.toArray 0)) h'.objs.size its) u p.2 as) its ps := er.mono fun u p ⟨as, r⟩ => ⟨as, PyProof.Rows.Reads.keeps (fun b o e => PySem.W.sortingHeap_old (Nat.ne_of_lt (Heap.lt_size e)) (Heap.get?_push_of_some _ e)) r⟩
  have rz := each_zip rv
  refine wpAny_bind (wpAny_holding (wpAny_call_entry PyProof.Rows.slot_list_sort ⟨_, hoL, rfl⟩ PyProof.Rows.entry_list_sort
    (PySem.W.list_sort_vals (s := { s with heap := h'.push (seqObj "list" its.toArray 0), toks := s.toks }) (κ := PySem.W.dataKind (PySem.W.sortingHeap (h'.push (seqObj "list" its.toArray 0)) h'.objs.size its) (ps.map (·.2))) hoL
      (PySem.W.SortsAt.data (s := { s with heap := PySem.W.sortingHeap (h'.push (seqObj "list" its.toArray 0)) h'.objs.size its, toks := s.toks }) (PySem.W.each_map (R := fun v d => ∃ as, Reads (PySem.W.sortingHeap (h'.push (seqObj "list" its.toArray 0)) h'.objs.size its) v d as) (fun p : V × PyData => p.2) er') o1 o2
        (PySem.W.bound_map (bs := ps) (enc := fun p : V × PyData => p.2) fun b hb => by have := o3 b.2 (List.mem_map_of_mem hb); show X.A.units + 1 + 1 + _ < cLine; omega)) (by rw [hlen, sizeLine_eq]; exact o4') ⟨.none, rfl, ?_⟩) (PyProof.Rows.args_list_sort _)))
  have eo := PySem.W.sortVals_data (R := fun (u : Value) (p : V × PyData) => RelV p.1 u) false rz er' o1
  obtain ⟨c, hc'⟩ := PyProof.Rows.sortedHeap_at (vs := its) (out := (PySem.W.sortVals (PySem.W.dataKind (PySem.W.sortingHeap (h'.push (seqObj "list" its.toArray 0)) h'.objs.size its) (ps.map (·.2))) false its its).toArray) hoL
  have rb := each_back eo
  have hlen2 : ((ps.mergeSort (PySem.W.dataLe false fun p => p.2)).map (·.1)).length ≤ sizeLine := by
    rw [List.length_map, List.length_mergeSort, sizeLine_eq]; exact o4'
  refine wpAny_pure ⟨_, rfl, .ref h'.objs.size, upd H h'.objs.size (.lst ((ps.mergeSort (PySem.W.dataLe false fun p => p.2)).map (·.1))), I1.laid (t' := s.toks) (fun b u e => ?_) (Nat.le_refl _)
    (show ObjOk X.prog X.w _ _ _ (.lst ((ps.mergeSort (PySem.W.dataLe false fun p => p.2)).map (·.1))) from ⟨hlen2, _, c, rb, hc'⟩), rfl, q _ (I1.hok.fresh (Nat.le_refl _))⟩
  have hb : b < h'.objs.size := Heap.lt_size e
  rw [PyProof.Rows.sortedHeap_old (Nat.ne_of_lt hb) (by rw [size_push']; exact Nat.lt_succ_of_lt hb)]
  exact Heap.get?_push_of_some _ e
open Classical in
noncomputable def gSortT : List D → Store → Res D := fun xs M => match xs with
  | [.tup ds] => match toPys ds with
    | some ys => if SrtOk ys then some (.ok (.imm (((ds.zip ys).mergeSort (PySem.W.dataLe false (·.2))).map (·.1))), M) else none
    | none => none
  | _ => none
theorem cd_sortT : CallD K mg W gSortT (rSortT K) := by
  intro xs M I H us σ Q S r k
  unfold gSortT at k
  split at k
  · rename_i ds
    obtain ⟨u, rfl, h⟩ := reps1 r
    split at k
    · rename_i ys q2
      split at k
      · rename_i q3
        simp only [Rep] at h
        obtain ⟨p, vs, rfl, h2, g⟩ := h
        obtain ⟨ts, e1, e2, e3, e4⟩ := three g q2
        have hz : ds.zip ys = ts.map fun t => (t.1.2, t.2) := by rw [e2, e3, List.zip_map']
        have hm2 : (ts.map fun t => (t.1.1, t.2)).map (·.2) = ys := by rw [e3]; simp
        have hm1 : (ts.map fun t => (t.1.1, t.2)).map (·.1) = vs := by rw [e1]; simp
        refine ⟨p, vs, ts.map fun t => (t.1.1, t.2), rfl, h2.sq, hm1, by rw [hm2]; exact dps_of g q2, by rw [hm2]; exact q3, fun l hl => ?_⟩
        rw [hz, sort_map] at k
        rw [sort_map]
        refine k.ok' (Ext.new hl) (S.new hl) ?_
        rw [List.map_map, List.map_map]
        refine rep_newL S hl (reps_all fun t ht => ?_)
        exact e4 t (List.mem_mergeSort.mp ht)
      · exact k.elim
    · exact k.elim
  · exact k.elim
theorem b_sortT (hr : Room k X.A) (z : X.mg "sorted" = none) (ha : EvA X W (e :: es) fr) (hc : X.calm = true := by rfl) (hg : Gl X "sorted" := by rfl) (he : starEach (e :: es) X.env = (false, eval e X.env) :: starEach es X.env := by rfl) (hpl : (backTo pos (starEach es X.env)).any (·.1) = false := by rfl) :
    EvE X W (.Call (.Name "sorted" p) (e :: es) [] pos) (cCall gSortT fr) := ev_callB (cr_sortT hc (hu66 hr)) cd_sortT hg z (by rfl) ha (by decide) (by decide) he hpl
/-! ### for over a list of the store that stays as it is -/
open Classical in
noncomputable def fLoopP (n : Nat) (ds0 : List D) (g : GF) (p : SF) : List D → SF
  | [] => fun en M => if M[n]? = some ds0 then some (.nx en, M) else none
  | d :: ds => fun en M => if M[n]? = some ds0 then (match g d en M with
    | none => none
    | some (en1, M1) => match p en1 M1 with
      | some (.nx en2, M2) => fLoopP n ds0 g p ds en2 M2
      | some (.ct en2, M2) => fLoopP n ds0 g p ds en2 M2
      | some (.bk en2, M2) => some (.nx en2, M2)
      | o => o) else none
noncomputable def sForP (fi : Env → Store → Res Nat) (g : GF) (p : SF) : SF := fun en M => sbnd (fi en M) en fun n M1 => match M1[n]? with
  | some ds => fLoopP n ds g p ds en M1
  | none => none
theorem es_forP {fi : Env → Store → Res Nat} (hp : PassesOwn (model X.prog X.w) X.A X.env X.xe) (hc : X.calm = true) (hi : EvIP X W tg iter fi) (hg : EvG X tg Sl g) (hb : EvSs X W body q)
    (hs : ∀ x, foldedSetIterable iter X.env x = pure x := by intro _; rfl) : EvS X W (.For tg iter body [] pos) (sForP fi g q) := by
  refine ⟨ps_imp (ps_for hp hc hi.pi hg.pg hb.pss hs) fun Z σ H h => ?_⟩
  obtain ⟨I, M, en, S, r, k⟩ := h
  refine ⟨I, M, en, S, r, Sp_.bind k r fun nc M1 I1 H1 J e1 S1 rJ k1 => ?_⟩
  cases hds : M1[nc]? with
  | none => rw [hds] at k1; exact k1.elim
  | some ds =>
  rw [hds] at k1
  dsimp only at k1
  refine ⟨fun i m σ' H' => i ≤ ds.length ∧ m = ds.length - i ∧ ∃ I' M' en', Ext I1 H1 I' H' ∧ Sto X.K I' H' M' ∧ RepE X.K I' H' en' σ' ∧ Sp_ X.K X.mg W (fLoopP nc ds g q (ds.drop i) en' M') I' H' Z, ⟨ds.length, Nat.zero_le _, rfl, I1, M1, en, Ext.refl, S1, r.mono e1, k1⟩, ?_⟩
  rintro i m σ' H2 ⟨hi2, rfl, I2, M2, en2, e2, S2, r2, k2⟩
  have hfx : M2[nc]? = some ds := by
    apply Classical.byContradiction
    intro hno
    cases hdr : ds.drop i with
    | nil => rw [hdr] at k2; unfold fLoopP at k2; rw [if_neg hno] at k2; exact k2.elim
    | cons d r' => rw [hdr] at k2; unfold fLoopP at k2; rw [if_neg hno] at k2; exact k2.elim
  obtain ⟨g1, g2⟩ := rJ ds trivial I2 H2 M2 e2 S2 hfx i
  by_cases hlt : i < ds.length
  · obtain ⟨go, yl⟩ := g1 ds[i] (List.getElem?_eq_getElem hlt)
    refine .inr ⟨go, fun σ' H' => ∃ m', m' < ds.length - i ∧ (i + 1 ≤ ds.length ∧ m' = ds.length - (i + 1) ∧ ∃ I' M' en', Ext I1 H1 I' H' ∧ Sto X.K I' H' M' ∧ RepE X.K I' H' en' σ' ∧ Sp_ X.K X.mg W (fLoopP nc ds g q (ds.drop (i + 1)) en' M') I' H' Z), fun _ _ z => z, fun x H3 hy => ?_⟩
    obtain ⟨ht3, rx⟩ := yl x H3 hy
    rw [List.drop_eq_getElem_cons hlt] at k2
    have e3 : Ext I2 H2 I2 H3 := Ext.turn ht3
    refine ⟨I2, M2, en2, ds[i], S2.turn ht3, r2.mono e3, rx, ?_⟩
    unfold fLoopP at k2
    rw [if_pos hfx] at k2
    revert k2
    cases q1 : g ds[i] en2 M2 with
    | none => exact id
    | some z1 =>
    obtain ⟨en3, M3⟩ := z1
    dsimp only
    intro k2 I4 H4 σ4 e4 S4 r4 l4 o4
    have e24 := e3.trans e4
    refine ⟨I4, M3, en3, S4, r4, ?_⟩
    have k4 := Sp_.mono k2 e24
    revert k4
    cases q en3 M3 with
    | none => exact id
    | some z =>
      obtain ⟨o, M5⟩ := z
      cases o with
      | nx en5 => exact fun k1 I5 H5 σ5 e5 S5 r5 => ⟨_, by omega, hlt, rfl, I5, M5, en5, (e2.trans e24).trans e5, S5, r5, Sp_.mono k1 e5⟩
      | ct en5 => exact fun k1 I5 H5 σ5 e5 S5 r5 => ⟨_, by omega, hlt, rfl, I5, M5, en5, (e2.trans e24).trans e5, S5, r5, Sp_.mono k1 e5⟩
      | bk en2 => exact id
      | rt d => exact id
      | ex c fs en2 => exact id
  · have hi3 : i = ds.length := by omega
    subst hi3
    rw [List.drop_length] at k2
    unfold fLoopP at k2
    rw [if_pos hfx] at k2
    exact .inl ⟨g2 (Nat.le_refl _), k2 I2 H2 _ Ext.refl S2 r2⟩
/-! ### a statement that is never come to -/
def sDead : SF := fun _ _ => none
theorem es_dead {st : Stmt} : EvS X W st sDead := ⟨⟨fun _ _ _ _ _ _ h => by
  obtain ⟨_, _, _, _, _, k⟩ := h
  exact k.elim⟩⟩
end
end DL
/-! everygrid_k14_rings_and_pell: the mirrors, as the program gen.py printed them. -/
namespace K14
open PySem DL
def k_UNIT : D := (.tup [(.tup [(.int 1), (.int 0)]), (.tup [(.int 0), (.int 1)])])
def k_RING_MOST : D := (.int 20000)
/-- divisor: 0 one, 1 other -/
noncomputable def f_divisor : SF := (sSeq (sPar 0 1 (aCons (cCall gAbs (aCons (cVar 0) aNil)) (aCons (cCall gAbs (aCons (cVar 1) aNil)) aNil)))
  (sSeq (sWhile (cTru (cVar 1)) (sPar 0 1 (aCons (cVar 1) (aCons (cOp gMod (cVar 0) (cVar 1)) aNil))))
  (sRet (cVar 0))))
noncomputable def m_divisor : MF := mDef 2 2 f_divisor
/-- divisor_of: 0 numbers, 1 found, 2 number -/
noncomputable def f_divisor_of : SF := (sSeq (sAsg (cC (.int 0)) (gN 1))
  (sSeq (sFor (iSeq (cVar 0)) (gN 2) (sAsg (cCall m_divisor (aCons (cVar 1) (aCons (cVar 2) aNil))) (gN 1)))
  (sRet (cVar 1))))
noncomputable def m_divisor_of : MF := mDef 1 3 f_divisor_of
/-- root: 0 number, 1 found -/
noncomputable def f_root : SF := (sSeq (sAsg (cOp gShl (cC (.int 1)) (cOp gDiv (cOp gAddA (cBits (cVar 0)) (cC (.int 1))) (cC (.int 2)))) (gN 1))
  (sSeq (sWhile (cTru (cOp gGt (cOp gMul (cVar 1) (cVar 1)) (cVar 0))) (sAsg (cOp gDiv (cOp gAddA (cVar 1) (cOp gDiv (cVar 0) (cVar 1))) (cC (.int 2))) (gN 1)))
  (sRet (cVar 1))))
noncomputable def m_root : MF := mDef 1 2 f_root
/-- is_whole: 0 number -/
noncomputable def f_is_whole : SF := (sRet (cAnd (cCall gIsi (aCons (cVar 0) (aCons (cC (.ty "int")) aNil))) (cNot (cCall gIsi (aCons (cVar 0) (aCons (cC (.ty "bool")) aNil))))))
noncomputable def m_is_whole : MF := mDef 1 1 f_is_whole
/-- is_row: 0 row, 1 number -/
noncomputable def f_is_row : SF := (sRet (cAnd (cCall gIsi (aCons (cVar 0) (aCons (cC (.ty "tuple")) aNil))) (cCall gAll (aCons (cLc (iSeq (cVar 0)) (gN 1) tYesC (cCall m_is_whole (aCons (cVar 1) aNil)) [1]) aNil))))
noncomputable def m_is_row : MF := mDef 1 2 f_is_row
/-- wide: 0 table -/
noncomputable def f_wide : SF := (sRet (cIf (cTru (cVar 0)) (cCall gLen (aCons (cOp gIx (cVar 0) (cC (.int 0))) aNil)) (cC (.int 0))))
noncomputable def m_wide : MF := mDef 1 1 f_wide
/-- turned: 0 table, 1 place, 2 row -/
noncomputable def f_turned : SF := (sRet (cCall gTuple (aCons (cLc (iRng1C (aCons (cCall m_wide (aCons (cVar 0) aNil)) aNil)) (gN 1) tYesC (cCall gTuple (aCons (cLc (iSeq (cVar 0)) (gN 2) tYesC (cOp gIx (cVar 2) (cVar 1)) [2]) aNil)) [1]) aNil)))
noncomputable def m_turned : MF := mDef 1 3 f_turned
/-- dot: 0 one, 1 other, 2 a, 3 b -/
noncomputable def f_dot : SF := (sRet (cCall gSum (aCons (cLc (iZipC (aCons (cVar 0) (aCons (cVar 1) aNil))) (gTupC 2 (gConsC (gN 2) (gConsC (gN 3) gNilC))) tYesC (cOp gMul (cVar 2) (cVar 3)) [2, 3]) aNil)))
noncomputable def m_dot : MF := mDef 2 4 f_dot
/-- product: 0 one, 1 other, 2 columns, 3 row, 4 column -/
noncomputable def f_product : SF := (sSeq (sAsg (cCall m_turned (aCons (cVar 1) aNil)) (gN 2))
  (sRet (cCall gTuple (aCons (cLc (iSeq (cVar 0)) (gN 3) tYesC (cCall gTuple (aCons (cLc (iSeq (cVar 2)) (gN 4) tYesC (cCall m_dot (aCons (cVar 3) (aCons (cVar 4) aNil))) [4]) aNil)) [3]) aNil))))
noncomputable def m_product : MF := mDef 2 5 f_product
/-- is_two: 0 shape -/
noncomputable def f_is_two : SF := (sRet (cAnd (cCall m_is_row (aCons (cVar 0) aNil)) (cOp (gEq false) (cCall gLen (aCons (cVar 0) aNil)) (cC (.int 3)))))
noncomputable def m_is_two : MF := mDef 1 1 f_is_two
/-- gap: 0 two -/
noncomputable def f_gap : SF := (sRet (cOp gSub (cOp gMul (cOp gIx (cVar 0) (cC (.int 1))) (cOp gIx (cVar 0) (cC (.int 1)))) (cOp gMul (cOp gMul (cC (.int 4)) (cOp gIx (cVar 0) (cC (.int 0)))) (cOp gIx (cVar 0) (cC (.int 2))))))
noncomputable def m_gap : MF := mDef 1 1 f_gap
/-- two_worth: 0 two, 1 x, 2 y -/
noncomputable def f_two_worth : SF := (sRet (cOp gAddA (cOp gAddA (cOp gMul (cOp gMul (cOp gIx (cVar 0) (cC (.int 0))) (cVar 1)) (cVar 1)) (cOp gMul (cOp gMul (cOp gIx (cVar 0) (cC (.int 1))) (cVar 1)) (cVar 2))) (cOp gMul (cOp gMul (cOp gIx (cVar 0) (cC (.int 2))) (cVar 2)) (cVar 2))))
noncomputable def m_two_worth : MF := mDef 3 3 f_two_worth
/-- two_changed: 0 two, 1 rows, 2 p, 3 q, 4 r, 5 s, 6 middle -/
noncomputable def f_two_changed : SF := (sSeq (sAsg (cVar 1) (gTupC 2 (gConsC (gTupC 2 (gConsC (gN 2) (gConsC (gN 3) gNilC))) (gConsC (gTupC 2 (gConsC (gN 4) (gConsC (gN 5) gNilC))) gNilC))))
  (sSeq (sAsg (cOp gAddA (cOp gAddA (cOp gMul (cOp gMul (cOp gMul (cC (.int 2)) (cOp gIx (cVar 0) (cC (.int 0)))) (cVar 2)) (cVar 4)) (cOp gMul (cOp gIx (cVar 0) (cC (.int 1))) (cOp gAddA (cOp gMul (cVar 2) (cVar 5)) (cOp gMul (cVar 3) (cVar 4))))) (cOp gMul (cOp gMul (cOp gMul (cC (.int 2)) (cOp gIx (cVar 0) (cC (.int 2)))) (cVar 3)) (cVar 5))) (gN 6))
  (sRet (cTup (aCons (cCall m_two_worth (aCons (cVar 0) (aCons (cVar 2) (aCons (cVar 3) aNil)))) (aCons (cVar 6) (aCons (cCall m_two_worth (aCons (cVar 0) (aCons (cVar 4) (aCons (cVar 5) aNil)))) aNil)))))))
noncomputable def m_two_changed : MF := mDef 2 7 f_two_changed
/-- check_open: 0 two, 1 number -/
noncomputable def f_check_open : SF := (sSeq (sIf (tNotC (cTru (cCall m_is_two (aCons (cVar 0) aNil)))) (sRaise "BadTable" (aCons (cC (.str "form")) aNil)) sSkip)
  (sSeq (sAsg (cCall m_gap (aCons (cVar 0) aNil)) (gN 1))
  (sIf (tOrC (cTru (cOp gLe (cVar 1) (cC (.int 0)))) (cTru (cOp (gEq false) (cOp gMul (cCall m_root (aCons (cVar 1) aNil)) (cCall m_root (aCons (cVar 1) aNil))) (cVar 1)))) (sRaise "BadTable" (aCons (cC (.str "discriminant")) aNil)) sSkip)))
noncomputable def m_check_open : MF := mDef 1 2 f_check_open
/-- is_ring_reduced: 0 two, 1 number, 2 a, 3 b, 4 whole -/
noncomputable def f_is_ring_reduced : SF := (sSeq (sAsg (cCall m_gap (aCons (cVar 0) aNil)) (gN 1))
  (sSeq (sPar 2 3 (aCons (cCall gAbs (aCons (cOp gIx (cVar 0) (cC (.int 0))) aNil)) (aCons (cOp gIx (cVar 0) (cC (.int 1))) aNil)))
  (sSeq (sAsg (cCall m_root (aCons (cVar 1) aNil)) (gN 4))
  (sRet (cAnd (cCh2 gLt gLe (cC (.int 0)) (cVar 3) (cVar 4)) (cCh2 gLt gLe (cOp gSub (cVar 4) (cVar 3)) (cOp gMul (cC (.int 2)) (cVar 2)) (cOp gAddA (cVar 4) (cVar 3))))))))
noncomputable def m_is_ring_reduced : MF := mDef 1 5 f_is_ring_reduced
/-- next_form: 0 two, 1 a, 2 b, 3 c, 4 size, 5 whole, 6 shift, 7 step -/
noncomputable def f_next_form : SF := (sSeq (sAsg (cVar 0) (gTupC 3 (gConsC (gN 1) (gConsC (gN 2) (gConsC (gN 3) gNilC)))))
  (sSeq (sAsg (cCall gAbs (aCons (cVar 3) aNil)) (gN 4))
  (sSeq (sAsg (cCall m_root (aCons (cCall m_gap (aCons (cVar 0) aNil)) aNil)) (gN 5))
  (sSeq (sIf (cTru (cOp gGt (cVar 4) (cVar 5))) (sAsg (cOp gDiv (cOp gAddA (cVar 2) (cVar 4)) (cOp gMul (cC (.int 2)) (cVar 4))) (gN 6)) (sAsg (cOp gDiv (cOp gAddA (cVar 5) (cVar 2)) (cOp gMul (cC (.int 2)) (cVar 4))) (gN 6)))
  (sSeq (sIf (cTru (cOp gLt (cVar 3) (cC (.int 0)))) (sAsg (cOp gSub (cC (.int 0)) (cVar 6)) (gN 6)) sSkip)
  (sSeq (sAsg (cTup (aCons (cTup (aCons (cC (.int 0)) (aCons (cC (.int 1)) aNil))) (aCons (cTup (aCons (cUn gNeg (cC (.int 1))) (aCons (cVar 6) aNil))) aNil))) (gN 7))
  (sRet (cTup (aCons (cCall m_two_changed (aCons (cVar 0) (aCons (cVar 7) aNil))) (aCons (cVar 7) aNil))))))))))
noncomputable def m_next_form : MF := mDef 1 8 f_next_form
/-- ring_reduced: 0 two, 1 rows, 2 step -/
noncomputable def f_ring_reduced : SF := (sSeq (sExpr (cCall m_check_open (aCons (cVar 0) aNil)))
  (sSeq (sAsg (cC k_UNIT) (gN 1))
  (sSeq (sWhile (tNotC (cTru (cCall m_is_ring_reduced (aCons (cVar 0) aNil)))) (sSeq (sAsg (cCall m_next_form (aCons (cVar 0) aNil)) (gTupC 2 (gConsC (gN 0) (gConsC (gN 2) gNilC)))) (sAsg (cCall m_product (aCons (cVar 2) (aCons (cVar 1) aNil))) (gN 1))))
  (sRet (cTup (aCons (cVar 0) (aCons (cVar 1) aNil)))))))
noncomputable def m_ring_reduced : MF := mDef 1 3 f_ring_reduced
/-- ring: 0 two, 1 start, 2 found, 3 at -/
noncomputable def f_ring : SF := (sSeq (sAsg (cOp gIx (cCall m_ring_reduced (aCons (cVar 0) aNil)) (cC (.int 0))) (gN 1))
  (sSeq (sAsg (cCel (aCons (cVar 1) aNil)) (gN 2))
  (sSeq (sAsg (cOp gIx (cCall m_next_form (aCons (cVar 1) aNil)) (cC (.int 0))) (gN 0))
  (sSeq (sWhile (cTru (cOp (gEq true) (cVar 0) (cVar 1))) (sSeq (sExpr (cApp (cVar 2) (cVar 0))) (sSeq (sIf (cTru (cOp gGt (cCall gLen (aCons (cVar 2) aNil)) (cC k_RING_MOST))) sDead sSkip) (sAsg (cOp gIx (cCall m_next_form (aCons (cVar 0) aNil)) (cC (.int 0))) (gN 0)))))
  (sSeq (sAsg (cIdx (cVar 2) (cCall gMinR (aCons (cVar 2) aNil))) (gN 3))
  (sRet (cCall gTuple (aCons (cOp gAddA (cSl (cVar 2) (oSome (cVar 3)) oNone) (cSl (cVar 2) oNone (oSome (cVar 3)))) aNil))))))))
noncomputable def m_ring : MF := mDef 1 4 f_ring
/-- with_middle: 0 b, 1 rest, 2 found, 3 a, 4 two -/
noncomputable def f_with_middle : SF := (sSeq (sAsg (cCel aNil) (gN 2))
  (sSeq (sFor (iRng2C (aCons (cC (.int 1)) (aCons (cOp gAddA (cVar 1) (cC (.int 1))) aNil))) (gN 3) (sIf (cTru (cOp (gEq false) (cOp gMod (cVar 1) (cVar 3)) (cC (.int 0)))) (sFor (iSeq (cTup (aCons (cTup (aCons (cVar 3) (aCons (cVar 0) (aCons (cOp gSub (cC (.int 0)) (cOp gDiv (cVar 1) (cVar 3))) aNil)))) (aCons (cTup (aCons (cOp gSub (cC (.int 0)) (cVar 3)) (aCons (cVar 0) (aCons (cOp gDiv (cVar 1) (cVar 3)) aNil)))) aNil)))) (gN 4) (sIf (cTru (cCall m_is_ring_reduced (aCons (cVar 4) aNil))) (sExpr (cApp (cVar 2) (cVar 4))) sSkip)) sSkip))
  (sRet (cVar 2))))
noncomputable def m_with_middle : MF := mDef 2 5 f_with_middle
/-- rings: 0 number, 1 found, 2 b, 3 rows, 4 seen, 5 two, 6 own, 7 one -/
noncomputable def f_rings : SF := (sSeq (sExpr (cCall m_check_open (aCons (cIf (cTru (cOp gLt (cOp gMod (cVar 0) (cC (.int 4))) (cC (.int 2)))) (cTup (aCons (cC (.int 1)) (aCons (cOp gMod (cVar 0) (cC (.int 2))) (aCons (cOp gDiv (cOp gSub (cOp gMod (cVar 0) (cC (.int 2))) (cVar 0)) (cC (.int 4))) aNil)))) (cTup (aCons (cC (.int 0)) (aCons (cC (.int 0)) (aCons (cC (.int 0)) aNil))))) aNil)))
  (sSeq (sAsg (cCel aNil) (gN 1))
  (sSeq (sFor (iRng2C (aCons (cC (.int 1)) (aCons (cOp gAddA (cCall m_root (aCons (cVar 0) aNil)) (cC (.int 1))) aNil))) (gN 2) (sIf (cTru (cOp (gEq false) (cOp gMod (cOp gSub (cOp gMul (cVar 2) (cVar 2)) (cVar 0)) (cC (.int 4))) (cC (.int 0)))) (sAug 1 gExt (cCall m_with_middle (aCons (cVar 2) (aCons (cOp gDiv (cOp gSub (cVar 0) (cOp gMul (cVar 2) (cVar 2))) (cC (.int 4))) aNil)))) sSkip))
  (sSeq (sAsg (cCel aNil) (gN 3))
  (sSeq (sAsg cDic0 (gN 4))
  (sSeq (sForP (iCel (cVar 1)) (gN 5) (sIf (tAndC (cTru (cOp (gDIn true) (cVar 5) (cVar 4))) (cTru (cOp (gEq false) (cCall m_divisor_of (aCons (cVar 5) aNil)) (cC (.int 1))))) (sSeq (sAsg (cCall m_ring (aCons (cVar 5) aNil)) (gN 6)) (sSeq (sExpr (cApp (cVar 3) (cVar 6))) (sFor (iSeq (cVar 6)) (gN 7) (sDPut (cC (.bl true)) (cVar 4) (cVar 7))))) sSkip))
  (sRet (cCall gTuple (aCons (cCall gSort (aCons (cVar 3) aNil)) aNil)))))))))
noncomputable def m_rings : MF := mDef 1 8 f_rings
/-- are_rung: 0 two, 1 other, 2 one, 3 first, 4 goal, 5 last, 6 start, 7 step, 8 p, 9 q, 10 r, 11 s -/
noncomputable def f_are_rung : SF := (sSeq (sIf (cTru (cOp (gEq true) (cCall m_gap (aCons (cVar 0) aNil)) (cCall m_gap (aCons (cVar 1) aNil)))) (sRet (cTup (aCons (cC (.bl false)) (aCons (cTup (aCons (cCall m_ring (aCons (cVar 0) aNil)) (aCons (cCall m_ring (aCons (cVar 1) aNil)) aNil))) aNil)))) sSkip)
  (sSeq (sAsg (cCall m_ring_reduced (aCons (cVar 0) aNil)) (gTupC 2 (gConsC (gN 2) (gConsC (gN 3) gNilC))))
  (sSeq (sAsg (cCall m_ring_reduced (aCons (cVar 1) aNil)) (gTupC 2 (gConsC (gN 4) (gConsC (gN 5) gNilC))))
  (sSeq (sAsg (cVar 2) (gN 6))
  (sSeq (sWhile (cTru (cOp (gEq true) (cVar 2) (cVar 4))) (sSeq (sAsg (cCall m_next_form (aCons (cVar 2) aNil)) (gTupC 2 (gConsC (gN 2) (gConsC (gN 7) gNilC)))) (sSeq (sAsg (cCall m_product (aCons (cVar 7) (aCons (cVar 3) aNil))) (gN 3)) (sIf (cTru (cOp (gEq false) (cVar 2) (cVar 6))) (sRet (cTup (aCons (cC (.bl false)) (aCons (cTup (aCons (cCall m_ring (aCons (cVar 0) aNil)) (aCons (cCall m_ring (aCons (cVar 1) aNil)) aNil))) aNil)))) sSkip))))
  (sSeq (sAsg (cVar 5) (gTupC 2 (gConsC (gTupC 2 (gConsC (gN 8) (gConsC (gN 9) gNilC))) (gConsC (gTupC 2 (gConsC (gN 10) (gConsC (gN 11) gNilC))) gNilC))))
  (sRet (cTup (aCons (cC (.bl true)) (aCons (cCall m_product (aCons (cTup (aCons (cTup (aCons (cVar 11) (aCons (cOp gSub (cC (.int 0)) (cVar 9)) aNil))) (aCons (cTup (aCons (cOp gSub (cC (.int 0)) (cVar 10)) (aCons (cVar 8) aNil))) aNil))) (aCons (cVar 3) aNil))) aNil))))))))))
noncomputable def m_are_rung : MF := mDef 2 12 f_are_rung
/-- pell: 0 number, 1 two, 2 start, 3 rows, 4 one, 5 step, 6 many, 7 p, 8 q, 9 r, 10 s -/
noncomputable def f_pell : SF := (sSeq (sIf (cTru (cOp gGt (cOp gMod (cVar 0) (cC (.int 4))) (cC (.int 1)))) (sRaise "BadTable" (aCons (cC (.str "discriminant")) aNil)) sSkip)
  (sSeq (sAsg (cTup (aCons (cC (.int 1)) (aCons (cOp gMod (cVar 0) (cC (.int 2))) (aCons (cOp gDiv (cOp gSub (cOp gMod (cVar 0) (cC (.int 2))) (cVar 0)) (cC (.int 4))) aNil)))) (gN 1))
  (sSeq (sExpr (cCall m_check_open (aCons (cVar 1) aNil)))
  (sSeq (sPar 2 3 (aCons (cOp gIx (cCall m_ring_reduced (aCons (cVar 1) aNil)) (cC (.int 0))) (aCons (cC k_UNIT) aNil)))
  (sSeq (sAsg (cCall m_next_form (aCons (cVar 2) aNil)) (gTupC 2 (gConsC (gN 4) (gConsC (gN 5) gNilC))))
  (sSeq (sAsg (cCall m_product (aCons (cVar 5) (aCons (cVar 3) aNil))) (gN 3))
  (sSeq (sAsg (cC (.int 1)) (gN 6))
  (sSeq (sWhile (cTru (cOp (gEq true) (cVar 4) (cVar 2))) (sSeq (sAsg (cCall m_next_form (aCons (cVar 4) aNil)) (gTupC 2 (gConsC (gN 4) (gConsC (gN 5) gNilC)))) (sSeq (sAsg (cCall m_product (aCons (cVar 5) (aCons (cVar 3) aNil))) (gN 3)) (sSeq (sAug 6 gAdd (cC (.int 1))) (sIf (cTru (cOp gGt (cVar 6) (cC k_RING_MOST))) sDead sSkip)))))
  (sSeq (sAsg (cVar 3) (gTupC 2 (gConsC (gTupC 2 (gConsC (gN 7) (gConsC (gN 8) gNilC))) (gConsC (gTupC 2 (gConsC (gN 9) (gConsC (gN 10) gNilC))) gNilC))))
  (sRet (cTup (aCons (cCall gAbs (aCons (cOp gAddA (cVar 7) (cVar 10)) aNil)) (aCons (cOp gDiv (cCall gAbs (aCons (cVar 8) aNil)) (cCall gAbs (aCons (cOp gIx (cVar 2) (cC (.int 0))) aNil))) aNil)))))))))))))
noncomputable def m_pell : MF := mDef 1 11 f_pell
/-- _law_cell: 0 script, 1 k -/
noncomputable def f_l_cell : SF := (sSeq (sIf (cTru (cOp gLt (cVar 1) (cCall gLen (aCons (cVar 0) aNil)))) (sRet (cOp gIx (cVar 0) (cVar 1))) sSkip)
  (sRet (cC (.int 0))))
noncomputable def m_l_cell : MF := mDef 2 2 f_l_cell
/-- _law_digits: 0 script, 1 first, 2 last, 3 found, 4 k, 5 c, 6 n, 7 turn, 8 s -/
noncomputable def f_l_digits : SF := (sSeq (sAsg (cCel aNil) (gN 3))
  (sSeq (sFor (iRng2C (aCons (cVar 1) (aCons (cVar 2) aNil))) (gN 4) (sSeq (sAsg (cCall m_l_cell (aCons (cVar 0) (aCons (cVar 4) aNil))) (gN 5)) (sSeq (sIf (cTru (cOp gLt (cVar 5) (cC (.int 0)))) (sAsg (cOp gSub (cC (.int 1)) (cOp gMul (cVar 5) (cC (.int 2)))) (gN 5)) sSkip) (sIf (cTru (cOp gGe (cVar 5) (cOp gPow (cC (.int 10)) (cC (.int 18))))) (sSeq (sAsg (cVar 5) (gN 6)) (sFor (iRng1C (aCons (cC (.int 60)) aNil)) (gN 7) (sIf (cTru (cOp gGt (cVar 6) (cC (.int 0)))) (sSeq (sExpr (cApp (cVar 3) (cOp gMod (cVar 6) (cC (.int 1009))))) (sAsg (cOp gDiv (cVar 6) (cC (.int 1009))) (gN 6))) sSkip))) (sSeq (sAsg (cOp gMod (cOp gAddA (cOp gAddA (cOp gMul (cVar 5) (cC (.int 48271))) (cOp gMul (cCall gInt (aCons (cOp gAddA (cVar 4) (cC (.int 1))) aNil)) (cC (.int 69621)))) (cC (.int 11))) (cC (.int 2147483647))) (gN 8)) (sFor (iRng1C (aCons (cC (.int 12)) aNil)) (gN 7) (sSeq (sAsg (cOp gMod (cOp gAddA (cOp gAddA (cOp gMul (cVar 8) (cC (.int 16807))) (cOp gMul (cVar 7) (cC (.int 7)))) (cC (.int 1))) (cC (.int 2147483647))) (gN 8)) (sExpr (cApp (cVar 3) (cOp gMod (cOp gDiv (cVar 8) (cC (.int 997))) (cC (.int 1009))))))))))))
  (sRet (cVar 3))))
noncomputable def m_l_digits : MF := mDef 3 9 f_l_digits
/-- _law_draw: 0 box, 1 m, 2 digits, 3 at -/
noncomputable def f_l_draw : SF := (sSeq (sAsg (cVar 0) (gTupC 2 (gConsC (gN 2) (gConsC (gN 3) gNilC))))
  (sSeq (sAsg (cOp gAddA (cVar 3) (cC (.int 1))) (gSubC (cVar 0) (cC (.int 1))))
  (sSeq (sIf (cTru (cOp gLt (cVar 3) (cCall gLen (aCons (cVar 2) aNil)))) (sRet (cOp gMod (cOp gIx (cVar 2) (cVar 3)) (cVar 1))) sSkip)
  (sRet (cOp gMod (cOp gAddA (cOp gAddA (cOp gAddA (cOp gMul (cOp gMul (cVar 3) (cVar 3)) (cC (.int 3))) (cOp gMul (cVar 3) (cC (.int 4)))) (cOp gDiv (cVar 3) (cC (.int 3)))) (cC (.int 1))) (cVar 1))))))
noncomputable def m_l_draw : MF := mDef 2 4 f_l_draw
/-- _law_pick: 0 box, 1 rows -/
noncomputable def f_l_pick : SF := (sRet (cOp gIx (cVar 1) (cCall m_l_draw (aCons (cVar 0) (aCons (cCall gLen (aCons (cVar 1) aNil)) aNil)))))
noncomputable def m_l_pick : MF := mDef 2 2 f_l_pick
/-- _law_same: 0 one, 1 other -/
noncomputable def f_l_same : SF := (sRet (cOp (gEq false) (cCall gRepr (aCons (cVar 0) aNil)) (cCall gRepr (aCons (cVar 1) aNil))))
noncomputable def m_l_same : MF := mDef 2 2 f_l_same
/-- _law_gcd: 0 one, 1 other -/
noncomputable def f_l_gcd : SF := (sSeq (sPar 0 1 (aCons (cCall gAbs (aCons (cVar 0) aNil)) (aCons (cCall gAbs (aCons (cVar 1) aNil)) aNil)))
  (sSeq (sWhile (cTru (cOp gGt (cVar 1) (cC (.int 0)))) (sPar 0 1 (aCons (cVar 1) (aCons (cOp gMod (cVar 0) (cVar 1)) aNil))))
  (sRet (cVar 0))))
noncomputable def m_l_gcd : MF := mDef 2 2 f_l_gcd
/-- _law_det: 0 table, 1 found, 2 k, 3 rest, 4 row -/
noncomputable def f_l_det (rec : MF) : SF := (sSeq (sIf (cTru (cOp (gEq false) (cCall gLen (aCons (cVar 0) aNil)) (cC (.int 0)))) (sRet (cC (.int 1))) sSkip)
  (sSeq (sAsg (cC (.int 0)) (gN 1))
  (sSeq (sFor (iRng1C (aCons (cCall gLen (aCons (cVar 0) aNil)) aNil)) (gN 2) (sIf (cTru (cOp (gEq true) (cOp gIx (cOp gIx (cVar 0) (cVar 2)) (cC (.int 0))) (cC (.int 0)))) (sSeq (sAsg (cLc (iSeq (cOp gAddA (cSl (cVar 0) oNone (oSome (cVar 2))) (cSl (cVar 0) (oSome (cOp gAddA (cVar 2) (cC (.int 1)))) oNone))) (gN 4) tYesC (cSl (cVar 4) (oSome (cC (.int 1))) oNone) [4]) (gN 3)) (sAsg (cOp gAddA (cVar 1) (cOp gMul (cOp gMul (cOp gSub (cC (.int 1)) (cOp gMul (cC (.int 2)) (cOp gMod (cVar 2) (cC (.int 2))))) (cOp gIx (cOp gIx (cVar 0) (cVar 2)) (cC (.int 0)))) (cCall rec (aCons (cVar 3) aNil)))) (gN 1))) sSkip))
  (sRet (cVar 1)))))
noncomputable def m_l_det : Nat → MF
  | 0 => fun _ _ => none
  | n + 1 => mDef 1 5 (f_l_det (m_l_det n))
/-- _law_unit: 0 many, 1 j, 2 k -/
noncomputable def f_l_unit : SF := (sRet (cCall gTuple (aCons (cLc (iRng1C (aCons (cVar 0) aNil)) (gN 1) tYesC (cCall gTuple (aCons (cLc (iRng1C (aCons (cVar 0) aNil)) (gN 2) tYesC (cCall gInt (aCons (cOp (gEq false) (cVar 1) (cVar 2)) aNil)) [2]) aNil)) [1]) aNil)))
noncomputable def m_l_unit : MF := mDef 1 3 f_l_unit
/-- _law_change: 0 box, 1 many, 2 steps, 3 rows, 4 turn, 5 one, 6 other, 7 kind, 8 factor, 9 row, 10 number, 11 k -/
noncomputable def f_l_change : SF := (sSeq (sAsg (cLcC (iSeq (cCall m_l_unit (aCons (cVar 1) aNil))) (gN 9) tYesC (cCall gList (aCons (cVar 9) aNil)) [9]) (gN 3))
  (sSeq (sFor (iRng1C (aCons (cVar 2) aNil)) (gN 4) (sSeq (sAsg (cTup (aCons (cCall m_l_draw (aCons (cVar 0) (aCons (cVar 1) aNil))) (aCons (cCall m_l_draw (aCons (cVar 0) (aCons (cVar 1) aNil))) aNil))) (gTupC 2 (gConsC (gN 5) (gConsC (gN 6) gNilC)))) (sSeq (sAsg (cCall m_l_draw (aCons (cVar 0) (aCons (cC (.int 8)) aNil))) (gN 7)) (sIf (cTru (cOp (gEq false) (cVar 5) (cVar 6))) (sAsg (cLc (iSeq (cOp gIx (cVar 3) (cVar 5))) (gN 10) tYesC (cOp gSub (cC (.int 0)) (cVar 10)) [10]) (gSubC (cVar 3) (cVar 5))) (sIf (cTru (cOp (gEq false) (cVar 7) (cC (.int 0)))) (sAsg (cTup (aCons (cOp gIx (cVar 3) (cVar 6)) (aCons (cOp gIx (cVar 3) (cVar 5)) aNil))) (gTupC 2 (gConsC (gSubC (cVar 3) (cVar 5)) (gConsC (gSubC (cVar 3) (cVar 6)) gNilC)))) (sSeq (sAsg (cCall m_l_pick (aCons (cVar 0) (aCons (cLst (aCons (cC (.int 1)) (aCons (cUn gNeg (cC (.int 1))) (aCons (cC (.int 2)) (aCons (cUn gNeg (cC (.int 1))) (aCons (cC (.int 1)) aNil)))))) aNil))) (gN 8)) (sAsg (cLc (iRng1C (aCons (cVar 1) aNil)) (gN 11) tYesC (cOp gAddA (cOp gIx (cOp gIx (cVar 3) (cVar 5)) (cVar 11)) (cOp gMul (cVar 8) (cOp gIx (cOp gIx (cVar 3) (cVar 6)) (cVar 11)))) [11]) (gSubC (cVar 3) (cVar 5)))))))))
  (sRet (cCall gTuple (aCons (cLcP mkI (iCel (cVar 3)) (gN 9) tYesC (cCall gTuple (aCons (cVar 9) aNil)) [9]) aNil)))))
noncomputable def m_l_change : MF := mDef 3 12 f_l_change
/-- _law_root: 0 number, 1 low, 2 high, 3 middle -/
noncomputable def f_l_root : SF := (sSeq (sAsg (cTup (aCons (cC (.int 0)) (aCons (cC (.int 1)) aNil))) (gTupC 2 (gConsC (gN 1) (gConsC (gN 2) gNilC))))
  (sSeq (sWhile (cTru (cOp gLe (cOp gMul (cVar 2) (cVar 2)) (cVar 0))) (sAsg (cOp gMul (cVar 2) (cC (.int 2))) (gN 2)))
  (sSeq (sWhile (cTru (cOp gGt (cOp gSub (cVar 2) (cVar 1)) (cC (.int 1)))) (sSeq (sAsg (cOp gDiv (cOp gAddA (cVar 1) (cVar 2)) (cC (.int 2))) (gN 3)) (sIf (cTru (cOp gLe (cOp gMul (cVar 3) (cVar 3)) (cVar 0))) (sAsg (cVar 3) (gN 1)) (sAsg (cVar 3) (gN 2)))))
  (sRet (cVar 1)))))
noncomputable def m_l_root : MF := mDef 1 4 f_l_root
/-- _law_divisors: 0 number, 1 d -/
noncomputable def f_l_divisors : SF := (sRet (cLc (iRng2C (aCons (cC (.int 1)) (aCons (cOp gAddA (cVar 0) (cC (.int 1))) aNil))) (gN 1) (cTru (cOp (gEq false) (cOp gMod (cVar 0) (cVar 1)) (cC (.int 0)))) (cVar 1) [1]))
noncomputable def m_l_divisors : MF := mDef 1 2 f_l_divisors
/-- _law_is_reduced: 0 two, 1 number, 2 a, 3 b, 4 low, 5 high -/
noncomputable def f_l_is_reduced : SF := (sSeq (sPar 2 3 (aCons (cCall gAbs (aCons (cOp gIx (cVar 0) (cC (.int 0))) aNil)) (aCons (cOp gIx (cVar 0) (cC (.int 1))) aNil)))
  (sSeq (sIf (tOrC (cTru (cOp gLe (cVar 3) (cC (.int 0)))) (cTru (cOp gGe (cOp gMul (cVar 3) (cVar 3)) (cVar 1)))) (sRet (cC (.bl false))) sSkip)
  (sSeq (sPar 4 5 (aCons (cOp gSub (cOp gMul (cC (.int 2)) (cVar 2)) (cVar 3)) (aCons (cOp gAddA (cOp gMul (cC (.int 2)) (cVar 2)) (cVar 3)) aNil)))
  (sRet (cAnd (cOr (cOp gLt (cVar 4) (cC (.int 0))) (cOp gLt (cOp gMul (cVar 4) (cVar 4)) (cVar 1))) (cOp gGt (cOp gMul (cVar 5) (cVar 5)) (cVar 1)))))))
noncomputable def m_l_is_reduced : MF := mDef 2 6 f_l_is_reduced
/-- _law_all_reduced: 0 number, 1 found, 2 b, 3 rest, 4 a, 5 two -/
noncomputable def f_l_all_reduced : SF := (sSeq (sAsg (cCel aNil) (gN 1))
  (sSeq (sAsg (cC (.int 1)) (gN 2))
  (sSeq (sWhile (cTru (cOp gLt (cOp gMul (cVar 2) (cVar 2)) (cVar 0))) (sSeq (sIf (cTru (cOp (gEq false) (cOp gMod (cOp gSub (cVar 0) (cOp gMul (cVar 2) (cVar 2))) (cC (.int 4))) (cC (.int 0)))) (sSeq (sAsg (cOp gDiv (cOp gSub (cVar 0) (cOp gMul (cVar 2) (cVar 2))) (cC (.int 4))) (gN 3)) (sFor (iSeq (cCall m_l_divisors (aCons (cVar 3) aNil))) (gN 4) (sFor (iSeq (cLst (aCons (cTup (aCons (cVar 4) (aCons (cVar 2) (aCons (cOp gSub (cC (.int 0)) (cOp gDiv (cVar 3) (cVar 4))) aNil)))) (aCons (cTup (aCons (cOp gSub (cC (.int 0)) (cVar 4)) (aCons (cVar 2) (aCons (cOp gDiv (cVar 3) (cVar 4)) aNil)))) aNil)))) (gN 5) (sIf (tAndC (cTru (cCall m_l_is_reduced (aCons (cVar 5) (aCons (cVar 0) aNil)))) (cTru (cOp (gEq false) (cCall m_l_gcd (aCons (cCall m_l_gcd (aCons (cVar 4) (aCons (cVar 2) aNil))) (aCons (cOp gIx (cVar 5) (cC (.int 2))) aNil))) (cC (.int 1))))) (sExpr (cApp (cVar 1) (cVar 5))) sSkip)))) sSkip) (sAsg (cOp gAddA (cVar 2) (cC (.int 1))) (gN 2))))
  (sRet (cCall gSort (aCons (cVar 1) aNil))))))
noncomputable def m_l_all_reduced : MF := mDef 1 6 f_l_all_reduced
/-- _law_right: 0 two, 1 number, 2 a, 3 b, 4 c, 5 size, 6 root_v, 7 middle -/
noncomputable def f_l_right : SF := (sSeq (sAsg (cVar 0) (gTupC 3 (gConsC (gN 2) (gConsC (gN 3) (gConsC (gN 4) gNilC)))))
  (sSeq (sAsg (cOp gMul (cC (.int 2)) (cCall gAbs (aCons (cVar 4) aNil))) (gN 5))
  (sSeq (sAsg (cCall m_l_root (aCons (cVar 1) aNil)) (gN 6))
  (sSeq (sAsg (cOp gSub (cVar 6) (cOp gModN (cOp gAddA (cVar 6) (cVar 3)) (cVar 5))) (gN 7))
  (sRet (cTup (aCons (cVar 4) (aCons (cVar 7) (aCons (cOp gDivN (cOp gSub (cOp gMul (cVar 7) (cVar 7)) (cVar 1)) (cOp gMul (cC (.int 4)) (cVar 4))) aNil)))))))))
noncomputable def m_l_right : MF := mDef 2 8 f_l_right
/-- law: 0 script, 1 box, 2 number, 3 e, 4 told, 5 every, 6 one, 7 rows, 8 own, 9 two, 10 found, 11 change, 12 strange, 13 answer, 14 paper, 15 t, 16 u, 17 k, 18 value -/
noncomputable def f_l_law : SF := (sSeq (sAsg (cCel (aCons (cCall m_l_digits (aCons (cVar 0) (aCons (cC (.int 0)) (aCons (cC (.int 63)) aNil)))) (aCons (cC (.int 0)) aNil))) (gN 1))
  (sSeq (sAsg (cOp gAddA (cC (.int 5)) (cCall m_l_draw (aCons (cVar 1) (aCons (cC (.int 600)) aNil)))) (gN 2))
  (sSeq (sIf (cTru (cOp gGt (cOp gMod (cVar 2) (cC (.int 4))) (cC (.int 1)))) (sAsg (cOp gSub (cOp gAddA (cVar 2) (cC (.int 4))) (cOp gMod (cVar 2) (cC (.int 4)))) (gN 2)) sSkip)
  (sSeq (sIf (cTru (cOp (gEq false) (cOp gMul (cCall m_l_root (aCons (cVar 2) aNil)) (cCall m_l_root (aCons (cVar 2) aNil))) (cVar 2))) (sSeq (sTry "BadTable" 3 (sExpr (cCall m_rings (aCons (cVar 2) aNil))) (fun fs => sRet (cOp (gEq false) (xRsn fs) ((cC (.str "discriminant"))))) sSkip) (sRet (cC (.bl false)))) sSkip)
  (sSeq (sAsg (cCall m_rings (aCons (cVar 2) aNil)) (gN 4))
  (sSeq (sAsg (cLst aNil) (gN 5))
  (sSeq (sFor (iSeq (cVar 4)) (gN 6) (sSeq (sAsg (cOp gAddA (cVar 5) (cCall gList (aCons (cVar 6) aNil))) (gN 5)) (sIf (tOrC (cTru (cOp (gEq true) (cOp gIx (cVar 6) (cC (.int 0))) (cCall gMinR (aCons (cVar 6) aNil)))) (cTru (cOp (gEq true) (cLc (iRng1C (aCons (cCall gLen (aCons (cVar 6) aNil)) aNil)) (gN 17) (cTru (cOp (gEq true) (cCall m_l_right (aCons (cOp gIx (cVar 6) (cVar 17)) (aCons (cVar 2) aNil))) (cOp gIx (cVar 6) (cOp gMod (cOp gAddA (cVar 17) (cC (.int 1))) (cCall gLen (aCons (cVar 6) aNil)))))) (cVar 17) [17]) (cLst aNil)))) (sRet (cC (.bl false))) sSkip)))
  (sSeq (sIf (tOrC (cTru (cOp (gEq true) (cCall gSort (aCons (cVar 5) aNil)) (cCall m_l_all_reduced (aCons (cVar 2) aNil)))) (cTru (cOp (gEq true) (cCall gList (aCons (cVar 4) aNil)) (cCall gSortT (aCons (cVar 4) aNil))))) (sRet (cC (.bl false))) sSkip)
  (sSeq (sAsg (cCall m_l_change (aCons (cVar 1) (aCons (cC (.int 2)) (aCons (cC (.int 5)) aNil)))) (gN 7))
  (sSeq (sIf (cTru (cOp (gEq false) (cCall (m_l_det 3) (aCons (cVar 7) aNil)) (cUn gNeg (cC (.int 1))))) (sAsg (cTup (aCons (cOp gIx (cVar 7) (cC (.int 1))) (aCons (cOp gIx (cVar 7) (cC (.int 0))) aNil))) (gN 7)) sSkip)
  (sSeq (sAsg (cCall m_l_pick (aCons (cVar 1) (aCons (cVar 4) aNil))) (gN 8))
  (sSeq (sAsg (cCall m_two_changed (aCons (cCall m_l_pick (aCons (cVar 1) (aCons (cVar 8) aNil))) (aCons (cVar 7) aNil))) (gN 9))
  (sSeq (sAsg (cCall m_ring_reduced (aCons (cVar 9) aNil)) (gTupC 2 (gConsC (gN 10) (gConsC (gN 11) gNilC))))
  (sSeq (sIf (tOrC (cTru (cOp (gIn true) (cVar 10) (cVar 8))) (tOrC (cTru (cOp (gEq true) (cCall (m_l_det 3) (aCons (cVar 11) aNil)) (cC (.int 1)))) (tOrC (cTru (cOp (gEq true) (cCall m_two_changed (aCons (cVar 9) (aCons (cVar 11) aNil))) (cVar 10))) (tNotC (cTru (cCall m_l_same (aCons (cCall m_ring (aCons (cVar 9) aNil)) (aCons (cVar 8) aNil)))))))) (sRet (cC (.bl false))) sSkip)
  (sSeq (sAsg (cCall m_l_pick (aCons (cVar 1) (aCons (cCall m_l_pick (aCons (cVar 1) (aCons (cVar 4) aNil))) aNil))) (gN 12))
  (sSeq (sAsg (cCall m_are_rung (aCons (cVar 9) (aCons (cVar 12) aNil))) (gTupC 2 (gConsC (gN 13) (gConsC (gN 14) gNilC))))
  (sSeq (sIf (tNotC (cTru (cCall m_l_same (aCons (cVar 13) (aCons (cOp (gIn false) (cVar 12) (cVar 8)) aNil))))) (sRet (cC (.bl false))) sSkip)
  (sSeq (sIf (tOrC (tAndC (cTru (cVar 13)) (tOrC (cTru (cOp (gEq true) (cCall (m_l_det 3) (aCons (cVar 14) aNil)) (cC (.int 1)))) (cTru (cOp (gEq true) (cCall m_two_changed (aCons (cVar 9) (aCons (cVar 14) aNil))) (cVar 12))))) (tAndC (tNotC (cTru (cVar 13))) (tNotC (cTru (cCall m_l_same (aCons (cVar 14) (aCons (cTup (aCons (cVar 8) (aCons (cCall m_ring (aCons (cVar 12) aNil)) aNil))) aNil))))))) (sRet (cC (.bl false))) sSkip)
  (sSeq (sAsg (cCall m_pell (aCons (cVar 2) aNil)) (gTupC 2 (gConsC (gN 15) (gConsC (gN 16) gNilC))))
  (sSeq (sIf (tOrC (cTru (cOp gLt (cVar 15) (cC (.int 1)))) (tOrC (cTru (cOp gLt (cVar 16) (cC (.int 1)))) (cTru (cOp (gEq true) (cOp gSub (cOp gMul (cVar 15) (cVar 15)) (cOp gMul (cOp gMul (cVar 2) (cVar 16)) (cVar 16))) (cC (.int 4)))))) (sRet (cC (.bl false))) sSkip)
  (sSeq (sFor (iRng2C (aCons (cC (.int 1)) (aCons (cCall gMin (aCons (cVar 16) (aCons (cC (.int 300)) aNil))) aNil))) (gN 17) (sSeq (sAsg (cOp gAddA (cOp gMul (cOp gMul (cVar 2) (cVar 17)) (cVar 17)) (cC (.int 4))) (gN 18)) (sIf (cTru (cOp (gEq false) (cOp gMul (cCall m_l_root (aCons (cVar 18) aNil)) (cCall m_l_root (aCons (cVar 18) aNil))) (cVar 18))) (sRet (cC (.bl false))) sSkip)))
  (sRet (cC (.bl true))))))))))))))))))))))))
noncomputable def m_l_law : MF := mDef 1 19 f_l_law
end K14
/-! K14, forms of two unknowns, 0: as gen/mkbase.py printed it. -/
namespace K14
open PySem DL
variable {M : Store}
theorem abs_nat (a : Int) : (if a < 0 then -a else a) = (a.natAbs : Int) := by omega
theorem divisor_loop : ∀ (m o : Nat), sWhile (cTru (cVar 1)) (sPar 0 1 (aCons (cVar 1) (aCons (cOp gMod (cVar 0) (cVar 1)) aNil))) [some (.int o), some (.int m)] M = some (.nx [some (.int (Nat.gcd o m)), some (.int 0)], M) := by
  intro m
  induction m using Nat.strongRecOn with
  | _ m ih =>
    intro o
    cases m with
    | zero =>
      have h : sWhile (cTru (cVar 1)) (sPar 0 1 (aCons (cVar 1) (aCons (cOp gMod (cVar 0) (cVar 1)) aNil))) [some (.int o), some (.int (0 : Nat))] M = some (.nx [some (.int o), some (.int (0 : Nat))], M) := sWhile_stop (M1 := M) (by simp)
      rw [h]; simp
    | succ m =>
      refine sWhile_more (en1 := [some (.int (m + 1 : Nat)), some (.int ((o % (m + 1) : Nat) : Int))]) (M1 := M) (M2 := M) ?_ ?_ ?_
      · simp; omega
      · simp [modC]
      · rw [ih (o % (m + 1)) (Nat.mod_lt _ (Nat.succ_pos m)) (m + 1)]
        rw [Nat.gcd_comm (m + 1), ← Nat.gcd_rec, Nat.gcd_comm]
theorem divisor_is (a b : Int) : m_divisor [.int a, .int b] M = some (.ok (.int (Int.gcd a b)), M) := by
  unfold m_divisor f_divisor
  simp [abs_nat, divisor_loop]
  rfl
/-- the divisor of many -/
def gcdL (r : List Int) : Int := r.foldl (fun (g x : Int) => (Int.gcd g x : Int)) 0
theorem divisor_of_loop : ∀ (r : List Int) (x z : Option D) (g : Int), ∃ z', fLoop (gN 2) (sAsg (cCall m_divisor (aCons (cVar 1) (aCons (cVar 2) aNil))) (gN 1)) (r.map D.int) [x, some (.int g), z] M = some (.nx [x, some (.int (r.foldl (fun (g x : Int) => (Int.gcd g x : Int)) g)), z'], M)
  | [], x, z, g => ⟨z, rfl⟩
  | i :: r, x, z, g => by
    obtain ⟨z', h⟩ := divisor_of_loop r x (some (.int i)) (Int.gcd g i)
    refine ⟨z', ?_⟩
    rw [List.map_cons, fLoop_cons]
    simp [divisor_is]
    exact h
theorem divisor_of_is (r : List Int) : m_divisor_of [eRow r] M = some (.ok (.int (gcdL r)), M) := by
  unfold m_divisor_of f_divisor_of
  obtain ⟨z', h⟩ := divisor_of_loop (M := M) r (some (eRow r)) none 0
  simp [h]
  rfl
theorem newton {x f : Int} (hx : 0 ≤ x) (hf : 0 < f) : x < ((f + x / f) / 2 + 1) * ((f + x / f) / 2 + 1) := by
  have h1 : x < f * (x / f + 1) := by
    have := Int.lt_mul_ediv_self_add (x := x) hf
    rw [Int.mul_add, Int.mul_one]
    exact this
  generalize x / f = q at *
  have h2 : f + q + 1 ≤ 2 * ((f + q) / 2 + 1) := by omega
  generalize (f + q) / 2 + 1 = g at *
  have hq : 0 < q + 1 := by
    rcases Int.lt_or_le 0 (q + 1) with h | h
    · exact h
    · have := Int.mul_nonpos_of_nonneg_of_nonpos (Int.le_of_lt hf) h
      omega
  have h3 : (f + (q + 1)) * (f + (q + 1)) ≤ (2 * g) * (2 * g) := Int.mul_self_le_mul_self (by omega) (by omega)
  have h4 : 0 ≤ (f - (q + 1)) * (f - (q + 1)) := sq_nonneg _
  have e1 : (f + (q + 1)) * (f + (q + 1)) = (f - (q + 1)) * (f - (q + 1)) + 4 * (f * (q + 1)) := by grind
  have e2 : (2 * g) * (2 * g) = 4 * (g * g) := by grind
  omega
theorem newton_less {x f : Int} (hx : 0 ≤ x) (hf : 0 < f) (h : x < f * f) : (f + x / f) / 2 < f := by
  have : x / f < f := Int.ediv_lt_of_lt_mul hf h
  omega
theorem newton_nn {x f : Int} (hx : 0 ≤ x) (hf : 0 < f) : 0 ≤ (f + x / f) / 2 := by
  have : 0 ≤ x / f := Int.ediv_nonneg hx (Int.le_of_lt hf)
  omega
/-- the root, rounded down -/
def IsRoot (x r : Int) : Prop := 0 ≤ r ∧ r * r ≤ x ∧ x < (r + 1) * (r + 1)
theorem root_loop {x : Int} (hx : 0 ≤ x) (hb : x < 2 ^ 62) : ∀ (n : Nat) (f : Int), f.toNat = n → 0 ≤ f → f < 2 ^ 62 → x < (f + 1) * (f + 1) → ∃ r, IsRoot x r ∧
    sWhile (cTru (cOp gGt (cOp gMul (cVar 1) (cVar 1)) (cVar 0))) (sAsg (cOp gDiv (cOp gAddA (cVar 1) (cOp gDiv (cVar 0) (cVar 1))) (cC (.int 2))) (gN 1)) [some (.int x), some (.int f)] M = some (.nx [some (.int x), some (.int r)], M) := by
  intro n
  induction n using Nat.strongRecOn with
  | _ n ih =>
    intro f hn h0 h1 h2
    have hm : mulC f f = true := mulC_l (by omega) (by omega)
    by_cases h : x < f * f
    · have hf : 0 < f := by
        rcases Int.lt_or_eq_of_le h0 with q | q
        · exact q
        · subst q; omega
      have hl := newton_less hx hf h
      have hnn := newton_nn hx hf
      obtain ⟨r, hr, e⟩ := ih ((f + x / f) / 2).toNat (by omega) _ rfl hnn (by omega) (newton hx hf)
      refine ⟨r, hr, sWhile_more (en1 := [some (.int x), some (.int ((f + x / f) / 2))]) (M1 := M) (M2 := M) ?_ ?_ e⟩
      · simp [hm, h]
      · simp [divC_of hf (Int.lt_trans h1 (by decide)), show divC (f + x / f) 2 = true from divC_of (by decide) (by decide)]
    · refine ⟨f, ⟨h0, by omega, h2⟩, sWhile_stop (M1 := M) ?_⟩
      simp [hm, h]
theorem bits_lt {x : Int} (hx : 0 ≤ x) : x < 2 ^ (Builtin.Int.intBits x) := by
  unfold Builtin.Int.intBits
  split
  · rename_i h
    have : x = 0 := by simpa using h
    subst this; decide
  · have := Nat.lt_log2_self (n := x.natAbs)
    have h2 : ((x.natAbs : Nat) : Int) < ((2 ^ (x.natAbs.log2 + 1) : Nat) : Int) := by exact_mod_cast this
    have h3 : ((x.natAbs : Nat) : Int) = x := by omega
    rw [h3] at h2
    exact_mod_cast h2
theorem bits_le {x : Int} (hx : 0 ≤ x) (hb : x < 2 ^ 62) : Builtin.Int.intBits x ≤ 62 := by
  unfold Builtin.Int.intBits
  split
  · omega
  · rename_i h
    have h0 : x.natAbs ≠ 0 := by
      intro z
      apply h
      simp; omega
    have : x.natAbs.log2 < 62 := (Nat.log2_lt h0).mpr (by omega)
    omega
theorem root_is {x : Int} (hx : 0 ≤ x) (hb : x < 2 ^ 62) : ∃ r, IsRoot x r ∧ m_root [.int x] M = some (.ok (.int r), M) := by
  have h1 := bits_lt hx
  have h2 := bits_le hx hb
  generalize hL : Builtin.Int.intBits x = L at h1 h2
  have hk : (L + 1) / 2 ≤ 31 := by omega
  have hp : (2 : Int) ^ ((L + 1) / 2) ≤ 2 ^ 31 := by
    have : (2 : Nat) ^ ((L + 1) / 2) ≤ 2 ^ 31 := Nat.pow_le_pow_right (by decide) hk
    exact_mod_cast this
  have hp0 : (0 : Int) < 2 ^ ((L + 1) / 2) := by
    have : (0 : Nat) < 2 ^ ((L + 1) / 2) := Nat.pow_pos (by decide)
    exact_mod_cast this
  have hq : (2 : Int) ^ L ≤ 2 ^ ((L + 1) / 2) * 2 ^ ((L + 1) / 2) := by
    have : (2 : Nat) ^ L ≤ 2 ^ ((L + 1) / 2) * 2 ^ ((L + 1) / 2) := by
      rw [← Nat.pow_add]
      exact Nat.pow_le_pow_right (by decide) (by omega)
    exact_mod_cast this
  generalize (2 : Int) ^ L = U at *
  have hst : x < (2 ^ ((L + 1) / 2) + 1) * (2 ^ ((L + 1) / 2) + 1) := by
    generalize (2 : Int) ^ ((L + 1) / 2) = f at *
    have : (f + 1) * (f + 1) = f * f + 2 * f + 1 := by grind
    omega
  obtain ⟨r, hr, e⟩ := root_loop (M := M) hx hb _ _ rfl (Int.le_of_lt hp0) (Int.lt_of_le_of_lt hp (by decide)) hst
  refine ⟨r, hr, ?_⟩
  unfold m_root f_root
  have hpc : powC 1 (((L : Int) + 1) / 2) = true := by
    unfold powC
    rw [Bool.and_eq_true, Bool.and_eq_true]
    exact ⟨decide_eq_true (by omega), decide_eq_true (by omega), decide_eq_true (by decide)⟩
  have ht : ((((L : Int) + 1) / 2)).toNat = (L + 1) / 2 := by omega
  simp [hL, show ∀ y : Int, divC y 2 = true from fun y => divC_of (by decide) (by decide), hpc, ht, e]
theorem is_whole_is (a : Int) : m_is_whole [.int a] M = some (.ok (.bl true), M) := by
  unfold m_is_whole f_is_whole
  simp [show ∀ a : Int, gIsi [.int a, .ty "int"] M = some (.ok (.bl true), M) from fun _ => rfl, show ∀ a : Int, gIsi [.int a, .ty "bool"] M = some (.ok (.bl false), M) from fun _ => rfl]
theorem is_row_3 (a b c : Int) : m_is_row [eRow [a, b, c]] M = some (.ok (.bl true), M) := by
  unfold m_is_row f_is_row
  simp [show ∀ r : List Int, gIsi [eRow r, .ty "tuple"] M = some (.ok (.bl true), M) from fun _ => rfl, is_whole_is, gAll, blsOf]
theorem is_row_2 (a b : Int) : m_is_row [eRow [a, b]] M = some (.ok (.bl true), M) := by
  unfold m_is_row f_is_row
  simp [show ∀ r : List Int, gIsi [eRow r, .ty "tuple"] M = some (.ok (.bl true), M) from fun _ => rfl, is_whole_is, gAll, blsOf]
theorem is_two_3 (a b c : Int) : m_is_two [eRow [a, b, c]] M = some (.ok (.bl true), M) := by
  unfold m_is_two f_is_two
  simp [is_row_3]
theorem is_two_2 (a b : Int) : m_is_two [eRow [a, b]] M = some (.ok (.bl false), M) := by
  unfold m_is_two f_is_two
  simp [is_row_2]
/-- all numbers below 10 ^ 15 -/
def Sm (x : Int) : Prop := -(10 ^ 15) < x ∧ x < 10 ^ 15
theorem Sm.l {x y : Int} (h : Sm x) : mulC x y = true := by
  obtain ⟨h1, h2⟩ := h
  exact mulC_l (by omega) (by omega)
theorem Sm.r {x y : Int} (h : Sm y) : mulC x y = true := by
  obtain ⟨h1, h2⟩ := h
  exact mulC_r (by omega) (by omega)
theorem m4 {y : Int} : mulC 4 y = true := mulC_l (by decide) (by decide)
theorem m2 {y : Int} : mulC 2 y = true := mulC_l (by decide) (by decide)
def gapF (a b c : Int) : Int := b * b - 4 * a * c
theorem gap_is {a b c : Int} (hb : Sm b) (hc : Sm c) : m_gap [eRow [a, b, c]] M = some (.ok (.int (gapF a b c)), M) := by
  unfold m_gap f_gap
  simp [hb.l, m4, hc.r, gapF]
def worthF (a b c x y : Int) : Int := a * x * x + b * x * y + c * y * y
theorem two_worth_is {a b c x y : Int} (hx : Sm x) (hy : Sm y) : m_two_worth [eRow [a, b, c], .int x, .int y] M = some (.ok (.int (worthF a b c x y)), M) := by
  unfold m_two_worth f_two_worth
  simp [hx.r, hy.r, worthF]
def midF (a b c p q r s : Int) : Int := 2 * a * p * r + b * (p * s + q * r) + 2 * c * q * s
theorem two_changed_is {a b c p q r s : Int} (hb : Sm b) (hp : Sm p) (hq : Sm q) (hr : Sm r) (hs : Sm s) :
    m_two_changed [eRow [a, b, c], eTab [[p, q], [r, s]]] M = some (.ok (eRow [worthF a b c p q, midF a b c p q r s, worthF a b c r s]), M) := by
  unfold m_two_changed f_two_changed
  simp [m2, hb.l, hp.r, hq.r, hr.r, hs.r, two_worth_is hp hq, two_worth_is hr hs, midF, row3]
def redF (a b c : Int) : Bool := decide (-a < b) && (decide (b ≤ a) && (decide (a ≤ c) && !(a == c && decide (b < 0))))
theorem rgD_2 : rgD 0 2 = [.int 0, .int 1] := by rfl
theorem wide_is {a b : Int} {t : List (List Int)} : m_wide [eTab ([a, b] :: t)] M = some (.ok (.int 2), M) := by
  unfold m_wide f_wide
  simp [eTab]
theorem turned_is {e f g h : Int} : m_turned [eTab [[e, f], [g, h]]] M = some (.ok (eTab [[e, g], [f, h]]), M) := by
  unfold m_turned f_turned
  simp [wide_is, rgD_2, show smI 2 = true from rfl, row2, tab2]
theorem dot_is {a b e g : Int} (h1 : mulC a e = true) (h2 : mulC b g = true) : m_dot [eRow [a, b], eRow [e, g]] M = some (.ok (.int (a * e + b * g)), M) := by
  unfold m_dot f_dot
  simp [iZipC, eRow, zipD, h1, h2, gSum, intsOf]
def prodF (a b c d e f g h : Int) : List (List Int) := [[a * e + b * g, a * f + b * h], [c * e + d * g, c * f + d * h]]
theorem product_is {a b c d e f g h : Int} (h1 : mulC a e = true) (h2 : mulC b g = true) (h3 : mulC a f = true) (h4 : mulC b h = true) (h5 : mulC c e = true) (h6 : mulC d g = true) (h7 : mulC c f = true) (h8 : mulC d h = true) :
    m_product [eTab [[a, b], [c, d]], eTab [[e, f], [g, h]]] M = some (.ok (eTab (prodF a b c d e f g h)), M) := by
  unfold m_product f_product
  simp [turned_is, dot_is, h1, h2, h3, h4, h5, h6, h7, h8, row2, tab2, prodF]
end K14
/-! K14, forms of two unknowns, 1: as gen/mkbase.py printed it. -/
namespace K14
open PySem DL
variable {M : Store}
structure Frm where
  a : Int
  b : Int
  c : Int
structure Chg where
  p : Int
  q : Int
  r : Int
  s : Int
def Frm.wo (f : Frm) (x y : Int) : Int := worthF f.a f.b f.c x y
def Frm.act (f : Frm) (u : Chg) : Frm := ⟨f.wo u.p u.q, midF f.a f.b f.c u.p u.q u.r u.s, f.wo u.r u.s⟩
def Frm.gap (f : Frm) : Int := gapF f.a f.b f.c
def Frm.red (f : Frm) : Bool := redF f.a f.b f.c
def Chg.det (u : Chg) : Int := u.p * u.s - u.q * u.r
def Chg.mul (v u : Chg) : Chg := ⟨v.p * u.p + v.q * u.r, v.p * u.q + v.q * u.s, v.r * u.p + v.s * u.r, v.r * u.q + v.s * u.s⟩
def Chg.one : Chg := ⟨1, 0, 0, 1⟩
def Chg.inv (u : Chg) : Chg := ⟨u.s, -u.q, -u.r, u.p⟩
theorem Frm.ext {f g : Frm} (h1 : f.a = g.a) (h2 : f.b = g.b) (h3 : f.c = g.c) : f = g := by
  cases f; cases g; simp_all
theorem act_one (f : Frm) : f.act .one = f := by
  apply Frm.ext <;> simp [Frm.act, Frm.wo, worthF, midF, Chg.one]
theorem act_act (f : Frm) (u v : Chg) : (f.act u).act v = f.act (v.mul u) := by
  apply Frm.ext <;> simp only [Frm.act, Frm.wo, worthF, midF, Chg.mul] <;> grind
theorem gap_act (f : Frm) (u : Chg) : (f.act u).gap = u.det * u.det * f.gap := by
  simp only [Frm.gap, gapF, Frm.act, Frm.wo, worthF, midF, Chg.det]
  grind
theorem det_mul (u v : Chg) : (v.mul u).det = v.det * u.det := by
  simp only [Chg.det, Chg.mul]
  grind
theorem inv_mul (u : Chg) (h : u.det = 1) : u.inv.mul u = .one := by
  obtain ⟨p, q, r, s⟩ := u
  simp only [Chg.det] at h
  simp only [Chg.mul, Chg.inv, Chg.one, Chg.mk.injEq]
  refine ⟨?_, ?_, ?_, ?_⟩ <;> grind
theorem act_inv (f : Frm) (u : Chg) (h : u.det = 1) : (f.act u).act u.inv = f := by
  rw [act_act, inv_mul u h, act_one]
theorem det_inv (u : Chg) : u.inv.det = u.det := by
  simp only [Chg.det, Chg.inv]
  grind
/-- above 0 -/
def Frm.pos (f : Frm) : Prop := 1 ≤ f.a ∧ f.gap < 0
theorem four_a (f : Frm) (x y : Int) : 4 * f.a * f.wo x y = (2 * f.a * x + f.b * y) * (2 * f.a * x + f.b * y) - f.gap * (y * y) := by
  simp only [Frm.wo, Frm.gap, worthF, gapF]
  grind
theorem four_c (f : Frm) (x y : Int) : 4 * f.c * f.wo x y = (2 * f.c * y + f.b * x) * (2 * f.c * y + f.b * x) - f.gap * (x * x) := by
  simp only [Frm.wo, Frm.gap, worthF, gapF]
  grind
theorem pos_c {f : Frm} (h : f.pos) : 1 ≤ f.c := by
  obtain ⟨h1, h2⟩ := h
  rcases Int.lt_or_le 0 f.c with hc | hc
  · exact hc
  · have h3 := Int.mul_nonneg (show 0 ≤ f.a by omega) (show 0 ≤ -f.c by omega)
    have h4 := sq_nonneg f.b
    simp only [Frm.gap, gapF] at h2
    have e : f.a * -f.c = -(f.a * f.c) := by grind
    have e2 : 4 * f.a * f.c = 4 * (f.a * f.c) := by grind
    omega
theorem wo_pos {f : Frm} (h : f.pos) {x y : Int} (hxy : x ≠ 0 ∨ y ≠ 0) : 1 ≤ f.wo x y := by
  obtain ⟨h1, h2⟩ := h
  have e := four_a f x y
  have s1 := sq_nonneg (2 * f.a * x + f.b * y)
  rcases Int.lt_or_le 0 (f.wo x y) with hw | hw
  · exact hw
  · exfalso
    have h3 := Int.mul_nonneg (show 0 ≤ f.a by omega) (show 0 ≤ -f.wo x y by omega)
    have e1 : f.a * -f.wo x y = -(f.a * f.wo x y) := by grind
    have e2 : 4 * f.a * f.wo x y = 4 * (f.a * f.wo x y) := by grind
    have s2 := Int.mul_nonneg (show 0 ≤ -f.gap by omega) (sq_nonneg y)
    have e3 : -f.gap * (y * y) = -(f.gap * (y * y)) := by grind
    have y0 : f.gap * (y * y) = 0 := by omega
    have hy : y = 0 := by
      rcases Int.mul_eq_zero.mp y0 with z | z
      · omega
      · rcases Int.mul_eq_zero.mp z with z | z <;> exact z
    subst hy
    have hx : x ≠ 0 := by rcases hxy with z | z; exact z; exact absurd rfl z
    have hx2 : 0 < x * x := by
      rcases Int.lt_or_eq_of_le (sq_nonneg x) with z | z
      · exact z
      · rcases Int.mul_eq_zero.mp z.symm with z | z <;> exact absurd z hx
    have : f.wo x 0 = f.a * (x * x) := by simp only [Frm.wo, worthF]; grind
    have := Int.mul_pos (show 0 < f.a by omega) hx2
    omega
theorem det_row {u : Chg} (h : u.det = 1) : u.p ≠ 0 ∨ u.q ≠ 0 := by
  rcases Decidable.em (u.p = 0) with z | z
  · right
    intro z2
    simp [Chg.det, z, z2] at h
  · exact .inl z
theorem pos_act {f : Frm} (h : f.pos) {u : Chg} (hu : u.det = 1) : (f.act u).pos := ⟨wo_pos h (det_row hu), by rw [gap_act, hu]; have := h.2; omega⟩
/-- what a reduced form is -/
structure Red (f : Frm) : Prop where
  lo : -f.a < f.b
  hi : f.b ≤ f.a
  ac : f.a ≤ f.c
  eq : f.a = f.c → 0 ≤ f.b
theorem red_iff {f : Frm} : f.red = true ↔ Red f := by
  unfold Frm.red redF
  simp only [Bool.and_eq_true, decide_eq_true_eq, Bool.not_eq_true', Bool.and_eq_false_iff, beq_eq_false_iff_ne, decide_eq_false_iff_not]
  constructor
  · rintro ⟨h1, h2, h3, h4⟩
    exact ⟨h1, h2, h3, fun e => by rcases h4 with z | z; exact absurd e z; omega⟩
  · rintro ⟨h1, h2, h3, h4⟩
    refine ⟨h1, h2, h3, ?_⟩
    by_cases e : f.a = f.c
    · exact .inr (by have := h4 e; omega)
    · exact .inl e
theorem big {f : Frm} (h : Red f) (ha : 1 ≤ f.a) {x y : Int} (hy : y ≠ 0) : f.c ≤ f.wo x y := by
  obtain ⟨lo, hi, ac, _⟩ := h
  -- signs away: u, v the absolute values
  have key : ∀ (B u v : Int), 0 ≤ B → B ≤ f.a → 0 ≤ u → 1 ≤ v → f.c ≤ f.a * u * u - B * u * v + f.c * v * v := by
    intro B u v h0 h1 hu hv
    rcases Int.lt_or_le u v with q | q
    · -- u < v
      have s1 : 0 ≤ f.a * (u * u) := Int.mul_nonneg (by omega) (sq_nonneg u)
      have s2 : 0 ≤ (f.c - B) * (u * v) := Int.mul_nonneg (by omega) (Int.mul_nonneg hu (by omega))
      have s3 : 0 ≤ f.c * (v * (v - u) - 1) := Int.mul_nonneg (by omega) (by
        have := Int.mul_le_mul (show (1 : Int) ≤ v from hv) (show (1 : Int) ≤ v - u by omega) (by decide) (by omega)
        omega)
      have e : f.a * u * u - B * u * v + f.c * v * v = f.a * (u * u) + (f.c - B) * (u * v) + f.c * (v * (v - u) - 1) + f.c := by grind
      omega
    · have s1 : 0 ≤ (f.a - B) * (u * v) := Int.mul_nonneg (by omega) (Int.mul_nonneg hu (by omega))
      have s2 : 0 ≤ f.a * (u * (u - v)) := Int.mul_nonneg (by omega) (Int.mul_nonneg hu (by omega))
      have s3 : 0 ≤ f.c * (v * v - 1) := Int.mul_nonneg (by omega) (by
        have := Int.mul_le_mul hv hv (by decide) (by omega)
        omega)
      have e : f.a * u * u - B * u * v + f.c * v * v = (f.a - B) * (u * v) + f.a * (u * (u - v)) + f.c * (v * v - 1) + f.c := by grind
      omega
  have go : ∀ (b u v : Int), (b = f.b ∨ b = -f.b) → 0 ≤ u → 1 ≤ v → f.c ≤ f.a * u * u + b * u * v + f.c * v * v := by
    intro b u v hb hu hv
    rcases Int.le_total 0 b with z | z
    · have := key 0 u v (by omega) (by omega) hu hv
      have s := Int.mul_nonneg (Int.mul_nonneg z hu) (show 0 ≤ v by omega)
      simp at this
      omega
    · have := key (-b) u v (by omega) (by omega) hu hv
      have e : -b * u * v = -(b * u * v) := by grind
      omega
  unfold Frm.wo worthF
  rcases Int.lt_or_lt_of_ne hy with z | z <;> rcases Int.le_total 0 x with w | w
  · have := go (-f.b) x (-y) (.inr rfl) w (by omega)
    have e : f.a * x * x + -f.b * x * -y + f.c * -y * -y = f.a * x * x + f.b * x * y + f.c * y * y := by grind
    omega
  · have := go f.b (-x) (-y) (.inl rfl) (by omega) (by omega)
    have e : f.a * -x * -x + f.b * -x * -y + f.c * -y * -y = f.a * x * x + f.b * x * y + f.c * y * y := by grind
    omega
  · have := go f.b x y (.inl rfl) w (by omega)
    omega
  · have := go (-f.b) (-x) y (.inr rfl) (by omega) (by omega)
    have e : f.a * -x * -x + -f.b * -x * y + f.c * y * y = f.a * x * x + f.b * x * y + f.c * y * y := by grind
    omega
theorem least {f : Frm} (h : Red f) (ha : 1 ≤ f.a) {x y : Int} (hxy : x ≠ 0 ∨ y ≠ 0) : f.a ≤ f.wo x y := by
  by_cases hy : y = 0
  · subst hy
    have hx : x ≠ 0 := by rcases hxy with z | z; exact z; exact absurd rfl z
    have e : f.wo x 0 = f.a * (x * x - 1) + f.a := by simp only [Frm.wo, worthF]; grind
    have hx2 : 0 < x * x := by
      rcases Int.lt_or_eq_of_le (sq_nonneg x) with z | z
      · exact z
      · rcases Int.mul_eq_zero.mp z.symm with z | z <;> exact absurd z hx
    have := Int.mul_nonneg (show 0 ≤ f.a by omega) (show 0 ≤ x * x - 1 by omega)
    omega
  · exact Int.le_trans h.ac (big h ha hy)
/-- two reduced forms of a class are one -/
theorem unique {f g : Frm} (hf : Red f) (hg : Red g) (pf : f.pos) {u : Chg} (hu : u.det = 1) (e : g = f.act u) : g = f := by
  have pg : g.pos := by rw [e]; exact pos_act pf hu
  have e2 : f = g.act u.inv := by rw [e, act_inv f u hu]
  have a1 : f.a ≤ g.a := by
    have := least hf pf.1 (det_row hu)
    rw [e]; exact this
  have a2 : g.a ≤ f.a := by
    have := least hg pg.1 (det_row (by rw [det_inv]; exact hu))
    rw [e2]; exact this
  have ea : g.a = f.a := by omega
  have gp : g.gap = f.gap := by rw [e, gap_act, hu]; omega
  have gp2 : g.b * g.b - 4 * g.a * g.c = f.b * f.b - 4 * f.a * f.c := gp
  have h1 := pf.1
  have fin : g.b = f.b → g = f := fun eb => by
    refine Frm.ext ea eb ?_
    rw [ea, eb] at gp2
    have : 4 * f.a * g.c = 4 * f.a * f.c := by omega
    exact Int.eq_of_mul_eq_mul_left (show 4 * f.a ≠ 0 by omega) this
  by_cases hq : u.q = 0
  · -- the first row is (1, 0) or (-1, 0)
    have hps : u.p * u.s = 1 := by
      have := hu
      simp only [Chg.det, hq] at this
      omega
    apply fin
    have eb : g.b = f.b + f.a * (2 * (u.p * u.r)) := by
      rw [e]
      simp only [Frm.act, midF, hq]
      have : f.b * (u.p * u.s + 0 * u.r) = f.b := by rw [hps]; grind
      grind
    generalize u.p * u.r = k at eb
    have h2 := hf.lo; have h3 := hf.hi; have h4 := hg.lo; have h5 := hg.hi
    rw [ea] at h4 h5
    rcases Int.lt_trichotomy k 0 with z | z | z
    · have := Int.mul_le_mul_of_nonneg_left (show 2 * k ≤ -2 by omega) (show 0 ≤ f.a by omega)
      omega
    · subst z; simpa using eb
    · have := Int.mul_le_mul_of_nonneg_left (show 2 ≤ 2 * k by omega) (show 0 ≤ f.a by omega)
      omega
  · -- a = c
    have hc : f.c ≤ f.a := by
      have := big hf pf.1 (x := u.p) hq
      have e3 : f.wo u.p u.q = g.a := by rw [e]; rfl
      omega
    have hac := hf.ac
    have fa : f.a = f.c := by omega
    have hc2 : g.c ≤ f.a := by
      have := big hg pg.1 (x := u.inv.p) (y := u.inv.q) (by simp only [Chg.inv]; omega)
      have e3 : g.wo u.inv.p u.inv.q = f.a := by
        have : (g.act u.inv).a = f.a := by rw [← e2]
        exact this
      omega
    have hg2 := hg.ac
    have ga : g.a = g.c := by omega
    have b1 := hf.eq fa
    have b2 := hg.eq ga
    apply fin
    have ec : g.c = f.c := by omega
    rw [ea, ec] at gp2
    have e4 : (g.b - f.b) * (g.b + f.b) = 0 := by grind
    rcases Int.mul_eq_zero.mp e4 with z | z <;> omega
end K14
/-! K14, forms of two unknowns, 2: as gen/mkbase.py printed it. -/
namespace K14
open PySem DL
variable {M : Store}
def eF (f : Frm) : D := eRow [f.a, f.b, f.c]
def eC (u : Chg) : D := eTab [[u.p, u.q], [u.r, u.s]]
theorem sq_lt {x N : Int} (hN : 0 ≤ N) (h : N < x) : N * N < x * x := by
  have := Int.mul_le_mul (show N + 1 ≤ x from h) (show N + 1 ≤ x from h) (by omega) (by omega)
  have e : (N + 1) * (N + 1) = N * N + 2 * N + 1 := by grind
  omega
theorem sq_le {x N : Int} (hN : 0 ≤ N) (h : x * x ≤ N * N) : -N ≤ x ∧ x ≤ N := by
  constructor
  · rcases Int.lt_or_le x (-N) with z | z
    · have := sq_lt hN (show N < -x by omega)
      have e : -x * -x = x * x := by grind
      omega
    · exact z
  · rcases Int.lt_or_le N x with z | z
    · have := sq_lt hN z
      omega
    · exact z
def swapC : Chg := ⟨0, 1, -1, 0⟩
def shiftC (k : Int) : Chg := ⟨1, 0, k, 1⟩
theorem act_swap (g : Frm) : g.act swapC = ⟨g.c, -g.b, g.a⟩ := by
  apply Frm.ext <;> simp [Frm.act, Frm.wo, worthF, midF, swapC]
theorem act_shift (g : Frm) (k : Int) : g.act (shiftC k) = ⟨g.a, g.b + 2 * k * g.a, g.c + k * g.b + k * k * g.a⟩ := by
  apply Frm.ext <;> simp only [Frm.act, Frm.wo, worthF, midF, shiftC] <;> grind
theorem changed_is {g : Frm} {u : Chg} (hb : Sm g.b) (hu : Sm u.p ∧ Sm u.q ∧ Sm u.r ∧ Sm u.s) : m_two_changed [eF g, eC u] M = some (.ok (eF (g.act u)), M) :=
  two_changed_is hb hu.1 hu.2.1 hu.2.2.1 hu.2.2.2
theorem sm0 : Sm 0 := ⟨by decide, by decide⟩
theorem sm1 : Sm 1 := ⟨by decide, by decide⟩
theorem smN : Sm (-1) := ⟨by decide, by decide⟩
end K14
/-! K14, forms of two unknowns, 3: as gen/mkbase.py printed it. -/
namespace K14
open PySem DL
variable {M : Store}
@[simp] theorem setLast {x y : List D} : (M ++ [x]).set M.length y = M ++ [y] := by
  rw [List.set_append_right _ _ (Nat.le_refl _)]
  simp
theorem szOk_of {n : Nat} (h : n ≤ 16777216) : szOk n = true := decide_eq_true h
theorem gcF_any {M' : Store} {d : D} (t : Tidy M M') (h : clo M.length d = true) (hn : notCel d = true) : gcF M (some (.ok d, M')) = some (.ok d, M'.take M.length) := by
  unfold gcF
  dsimp only
  rw [if_pos t]
  cases d <;> first | exact absurd hn Bool.false_ne_true | exact if_pos h
theorem tidy_set {c : Nat} {es : List D} (h : clos M.length es = true) : Tidy M (M.set c es) := by
  intro j ds hj q
  by_cases e : j = c
  · subst e
    rw [List.getElem?_set_self hj] at q
    cases q
    exact .inr h
  · rw [List.getElem?_set_ne (Ne.symm e)] at q
    exact .inl q
theorem gcF_set {c : Nat} {es : List D} {d : D} (he : clos M.length es = true) (h : clo M.length d = true) (hn : notCel d = true) : gcF M (some (.ok d, M.set c es)) = some (.ok d, M.set c es) := by
  rw [gcF_any (tidy_set he) h hn]
  congr 2
  exact List.take_of_length_le (by simp)
theorem clos_ints {n : Nat} {r : List Int} : clos n (r.map D.int) = true := clos_map fun _ => rfl
theorem cell_is {ns : List Int} {k : Int} (h : 0 ≤ k) : ∃ c : Int, m_l_cell [.scr (ns.map .int), .int k] M = some (.ok (.int c), M) := by
  unfold m_l_cell f_l_cell
  by_cases q : k < ns.length
  · obtain ⟨j, rfl⟩ : ∃ j : Nat, k = j := ⟨k.toNat, by omega⟩
    have hj : j < ns.length := by omega
    have e : L2.atI (ns.map D.int) (j : Int) = some (D.int ns[j]) := by
      rw [atI_nat (by simpa using hj)]
      simp
    exact ⟨ns[j], by simp [q, e]⟩
  · exact ⟨0, by simp [q]⟩
theorem fin_in60 {a0 a1 a2 a4 a5 a8 : Option D} (l : List Int) : ∀ (acc : List Int) (n : Int) (x7 : Option D), acc.length + l.length ≤ 100000 →
    ∃ (acc' : List Int) (n' : Int) (y7 : Option D), acc'.length ≤ acc.length + l.length ∧ fLoop (gN 7) (sIf (cTru (cOp gGt (cVar 6) (cC (.int 0)))) (sSeq (sExpr (cApp (cVar 3) (cOp gMod (cVar 6) (cC (.int 1009))))) (sAsg (cOp gDiv (cVar 6) (cC (.int 1009))) (gN 6))) sSkip) (l.map D.int)
      [a0, a1, a2, some (.cel M.length), a4, a5, some (.int n), x7, a8] (M ++ [acc.map D.int]) = some (.nx [a0, a1, a2, some (.cel M.length), a4, a5, some (.int n'), y7, a8], M ++ [acc'.map D.int]) := by
  induction l with
  | nil => exact fun acc n x7 _ => ⟨acc, n, x7, by simp, rfl⟩
  | cons i l ih =>
    intro acc n x7 h
    rw [List.length_cons] at h
    by_cases q : 0 < n
    · obtain ⟨acc', n', y7, h1, h2⟩ := ih (acc ++ [n % 1009]) (n / 1009) (some (.int i)) (by simp; omega)
      refine ⟨acc', n', y7, by simp at h1 ⊢; omega, ?_⟩
      rw [List.map_cons, fLoop_cons]
      simp [q, modC, szOk_of (show acc.length + 1 ≤ 16777216 by omega), show ∀ y : Int, divC y 1009 = true from fun y => divC_of (by decide) (by decide)]
      simpa using h2
    · obtain ⟨acc', n', y7, h1, h2⟩ := ih acc n (some (.int i)) (by omega)
      refine ⟨acc', n', y7, by simp at h1 ⊢; omega, ?_⟩
      rw [List.map_cons, fLoop_cons]
      simp [q]
      exact h2
theorem fin_in12 {a0 a1 a2 a4 a5 a6 : Option D} (l : List Int) : ∀ (acc : List Int) (s : Int) (x7 : Option D), (∀ i ∈ l, 0 ≤ i ∧ i ≤ 100) → acc.length + l.length ≤ 100000 →
    ∃ (acc' : List Int) (s' : Int) (y7 : Option D), acc'.length ≤ acc.length + l.length ∧ fLoop (gN 7) (sSeq (sAsg (cOp gMod (cOp gAddA (cOp gAddA (cOp gMul (cVar 8) (cC (.int 16807))) (cOp gMul (cVar 7) (cC (.int 7)))) (cC (.int 1))) (cC (.int 2147483647))) (gN 8)) (sExpr (cApp (cVar 3) (cOp gMod (cOp gDiv (cVar 8) (cC (.int 997))) (cC (.int 1009)))))) (l.map D.int)
      [a0, a1, a2, some (.cel M.length), a4, a5, a6, x7, some (.int s)] (M ++ [acc.map D.int]) = some (.nx [a0, a1, a2, some (.cel M.length), a4, a5, a6, y7, some (.int s')], M ++ [acc'.map D.int]) := by
  induction l with
  | nil => exact fun acc n x7 _ _ => ⟨acc, n, x7, by simp, rfl⟩
  | cons i l ih =>
    intro acc s x7 hi h
    rw [List.length_cons] at h
    obtain ⟨acc', n', y7, h1, h2⟩ := ih (acc ++ [(s * 16807 + i * 7 + 1) % 2147483647 / 997 % 1009]) ((s * 16807 + i * 7 + 1) % 2147483647) (some (.int i)) (fun j hj => hi j (List.mem_cons_of_mem _ hj)) (by simp; omega)
    refine ⟨acc', n', y7, by simp at h1 ⊢; omega, ?_⟩
    rw [List.map_cons, fLoop_cons]
    simp [modC, szOk_of (show acc.length + 1 ≤ 16777216 by omega), show ∀ y : Int, divC y 997 = true from fun y => divC_of (by decide) (by decide), show ∀ y : Int, mulC y 16807 = true from fun y => mulC_r (by decide) (by decide), show ∀ y : Int, mulC y 7 = true from fun y => mulC_r (by decide) (by decide)]
    simpa using h2
theorem smI_60 : smI 60 = true := by decide
theorem digits_loop {ns : List Int} {a1 a2 : Option D} (l : List Int) : ∀ (acc : List Int) (x4 x5 x6 x7 x8 : Option D), (∀ i ∈ l, 0 ≤ i) → acc.length + 60 * l.length ≤ 100000 →
    ∃ (acc' : List Int) (y4 y5 y6 y7 y8 : Option D), fLoop (gN 4) (sSeq (sAsg (cCall m_l_cell (aCons (cVar 0) (aCons (cVar 4) aNil))) (gN 5)) (sSeq (sIf (cTru (cOp gLt (cVar 5) (cC (.int 0)))) (sAsg (cOp gSub (cC (.int 1)) (cOp gMul (cVar 5) (cC (.int 2)))) (gN 5)) sSkip) (sIf (cTru (cOp gGe (cVar 5) (cOp gPow (cC (.int 10)) (cC (.int 18))))) (sSeq (sAsg (cVar 5) (gN 6)) (sFor (iRng1C (aCons (cC (.int 60)) aNil)) (gN 7) (sIf (cTru (cOp gGt (cVar 6) (cC (.int 0)))) (sSeq (sExpr (cApp (cVar 3) (cOp gMod (cVar 6) (cC (.int 1009))))) (sAsg (cOp gDiv (cVar 6) (cC (.int 1009))) (gN 6))) sSkip))) (sSeq (sAsg (cOp gMod (cOp gAddA (cOp gAddA (cOp gMul (cVar 5) (cC (.int 48271))) (cOp gMul (cCall gInt (aCons (cOp gAddA (cVar 4) (cC (.int 1))) aNil)) (cC (.int 69621)))) (cC (.int 11))) (cC (.int 2147483647))) (gN 8)) (sFor (iRng1C (aCons (cC (.int 12)) aNil)) (gN 7) (sSeq (sAsg (cOp gMod (cOp gAddA (cOp gAddA (cOp gMul (cVar 8) (cC (.int 16807))) (cOp gMul (cVar 7) (cC (.int 7)))) (cC (.int 1))) (cC (.int 2147483647))) (gN 8)) (sExpr (cApp (cVar 3) (cOp gMod (cOp gDiv (cVar 8) (cC (.int 997))) (cC (.int 1009))))))))))) (l.map D.int)
      [some (.scr (ns.map .int)), a1, a2, some (.cel M.length), x4, x5, x6, x7, x8] (M ++ [acc.map D.int]) = some (.nx [some (.scr (ns.map .int)), a1, a2, some (.cel M.length), y4, y5, y6, y7, y8], M ++ [acc'.map D.int]) := by
  induction l with
  | nil => exact fun acc x4 x5 x6 x7 x8 _ _ => ⟨acc, x4, x5, x6, x7, x8, rfl⟩
  | cons i l ih =>
    intro acc x4 x5 x6 x7 x8 hi h
    rw [List.length_cons] at h
    obtain ⟨c, hc⟩ := cell_is (M := M ++ [acc.map D.int]) (ns := ns) (hi i List.mem_cons_self)
    -- the cell, made at least 0
    have hif : ∃ c' : Int, sIf (cTru (cOp gLt (cVar 5) (cC (.int 0)))) (sAsg (cOp gSub (cC (.int 1)) (cOp gMul (cVar 5) (cC (.int 2)))) (gN 5)) sSkip [some (.scr (ns.map .int)), a1, a2, some (.cel M.length), some (.int i), some (.int c), x6, x7, x8] (M ++ [acc.map D.int]) =
        some (.nx [some (.scr (ns.map .int)), a1, a2, some (.cel M.length), some (.int i), some (.int c'), x6, x7, x8], M ++ [acc.map D.int]) := by
      by_cases q : c < 0
      · exact ⟨1 - c * 2, by simp [q, show ∀ y : Int, mulC y 2 = true from fun y => mulC_r (by decide) (by decide)]⟩
      · exact ⟨c, by simp [q]⟩
    obtain ⟨c', hif⟩ := hif
    have hpw : powC 10 18 = true := by decide
    rw [List.map_cons, fLoop_cons]
    by_cases q : (1000000000000000000 : Int) ≤ c'
    · obtain ⟨acc1, n1, y7, l1, e1⟩ := fin_in60 (M := M) (a0 := some (.scr (ns.map .int))) (a1 := a1) (a2 := a2) (a4 := some (.int i)) (a5 := some (.int c')) (a8 := x8) (rgI 0 60) acc c' x7 (by simp [rgI]; omega)
      have hl : (rgI 0 60).length = 60 := by simp [rgI]
      obtain ⟨acc2, z4, z5, z6, z7, z8, e2⟩ := ih acc1 (some (.int i)) (some (.int c')) (some (.int n1)) y7 x8 (fun j hj => hi j (List.mem_cons_of_mem _ hj)) (by omega)
      refine ⟨acc2, z4, z5, z6, z7, z8, ?_⟩
      rw [← e2]
      have hstep : sSeq (sAsg (cCall m_l_cell (aCons (cVar 0) (aCons (cVar 4) aNil))) (gN 5)) (sSeq (sIf (cTru (cOp gLt (cVar 5) (cC (.int 0)))) (sAsg (cOp gSub (cC (.int 1)) (cOp gMul (cVar 5) (cC (.int 2)))) (gN 5)) sSkip) (sIf (cTru (cOp gGe (cVar 5) (cOp gPow (cC (.int 10)) (cC (.int 18))))) (sSeq (sAsg (cVar 5) (gN 6)) (sFor (iRng1C (aCons (cC (.int 60)) aNil)) (gN 7) (sIf (cTru (cOp gGt (cVar 6) (cC (.int 0)))) (sSeq (sExpr (cApp (cVar 3) (cOp gMod (cVar 6) (cC (.int 1009))))) (sAsg (cOp gDiv (cVar 6) (cC (.int 1009))) (gN 6))) sSkip))) (sSeq (sAsg (cOp gMod (cOp gAddA (cOp gAddA (cOp gMul (cVar 5) (cC (.int 48271))) (cOp gMul (cCall gInt (aCons (cOp gAddA (cVar 4) (cC (.int 1))) aNil)) (cC (.int 69621)))) (cC (.int 11))) (cC (.int 2147483647))) (gN 8)) (sFor (iRng1C (aCons (cC (.int 12)) aNil)) (gN 7) (sSeq (sAsg (cOp gMod (cOp gAddA (cOp gAddA (cOp gMul (cVar 8) (cC (.int 16807))) (cOp gMul (cVar 7) (cC (.int 7)))) (cC (.int 1))) (cC (.int 2147483647))) (gN 8)) (sExpr (cApp (cVar 3) (cOp gMod (cOp gDiv (cVar 8) (cC (.int 997))) (cC (.int 1009)))))))))) [some (.scr (ns.map .int)), a1, a2, some (.cel M.length), some (.int i), x5, x6, x7, x8] (M ++ [acc.map D.int]) =
          some (.nx [some (.scr (ns.map .int)), a1, a2, some (.cel M.length), some (.int i), some (.int c'), some (.int n1), y7, x8], M ++ [acc1.map D.int]) := by
        rw [sSeq_nx (en1 := [some (.scr (ns.map .int)), a1, a2, some (.cel M.length), some (.int i), some (.int c), x6, x7, x8]) (M1 := M ++ [acc.map D.int]) (by simp [hc]), sSeq_nx hif]
        simp [hpw, q, smI_60, rgD_eq, e1]
      simp only [gN_e, List.set_cons_succ, List.set_cons_zero, hstep]
    · obtain ⟨acc1, n1, y7, l1, e1⟩ := fin_in12 (M := M) (a0 := some (.scr (ns.map .int))) (a1 := a1) (a2 := a2) (a4 := some (.int i)) (a5 := some (.int c')) (a6 := x6) (rgI 0 12) acc ((c' * 48271 + (i + 1) * 69621 + 11) % 2147483647) x7 (fun j hj => by have := mem_rgI.mp hj; omega) (by simp [rgI]; omega)
      have hl : (rgI 0 12).length = 12 := by simp [rgI]
      obtain ⟨acc2, z4, z5, z6, z7, z8, e2⟩ := ih acc1 (some (.int i)) (some (.int c')) x6 y7 (some (.int n1)) (fun j hj => hi j (List.mem_cons_of_mem _ hj)) (by omega)
      refine ⟨acc2, z4, z5, z6, z7, z8, ?_⟩
      rw [← e2]
      have hstep : sSeq (sAsg (cCall m_l_cell (aCons (cVar 0) (aCons (cVar 4) aNil))) (gN 5)) (sSeq (sIf (cTru (cOp gLt (cVar 5) (cC (.int 0)))) (sAsg (cOp gSub (cC (.int 1)) (cOp gMul (cVar 5) (cC (.int 2)))) (gN 5)) sSkip) (sIf (cTru (cOp gGe (cVar 5) (cOp gPow (cC (.int 10)) (cC (.int 18))))) (sSeq (sAsg (cVar 5) (gN 6)) (sFor (iRng1C (aCons (cC (.int 60)) aNil)) (gN 7) (sIf (cTru (cOp gGt (cVar 6) (cC (.int 0)))) (sSeq (sExpr (cApp (cVar 3) (cOp gMod (cVar 6) (cC (.int 1009))))) (sAsg (cOp gDiv (cVar 6) (cC (.int 1009))) (gN 6))) sSkip))) (sSeq (sAsg (cOp gMod (cOp gAddA (cOp gAddA (cOp gMul (cVar 5) (cC (.int 48271))) (cOp gMul (cCall gInt (aCons (cOp gAddA (cVar 4) (cC (.int 1))) aNil)) (cC (.int 69621)))) (cC (.int 11))) (cC (.int 2147483647))) (gN 8)) (sFor (iRng1C (aCons (cC (.int 12)) aNil)) (gN 7) (sSeq (sAsg (cOp gMod (cOp gAddA (cOp gAddA (cOp gMul (cVar 8) (cC (.int 16807))) (cOp gMul (cVar 7) (cC (.int 7)))) (cC (.int 1))) (cC (.int 2147483647))) (gN 8)) (sExpr (cApp (cVar 3) (cOp gMod (cOp gDiv (cVar 8) (cC (.int 997))) (cC (.int 1009)))))))))) [some (.scr (ns.map .int)), a1, a2, some (.cel M.length), some (.int i), x5, x6, x7, x8] (M ++ [acc.map D.int]) =
          some (.nx [some (.scr (ns.map .int)), a1, a2, some (.cel M.length), some (.int i), some (.int c'), x6, y7, some (.int n1)], M ++ [acc1.map D.int]) := by
        rw [sSeq_nx (en1 := [some (.scr (ns.map .int)), a1, a2, some (.cel M.length), some (.int i), some (.int c), x6, x7, x8]) (M1 := M ++ [acc.map D.int]) (by simp [hc]), sSeq_nx hif]
        simp [hpw, q, rgD_eq, e1, show smI 12 = true by decide, modC, show ∀ y : Int, mulC y 48271 = true from fun y => mulC_r (by decide) (by decide), show ∀ y : Int, mulC y 69621 = true from fun y => mulC_r (by decide) (by decide)]
      simp only [gN_e, List.set_cons_succ, List.set_cons_zero, hstep]
theorem digits_is {ns : List Int} : ∃ ds : List Int, m_l_digits [.scr (ns.map .int), .int 0, .int 63] M = some (.ok (.imm (ds.map .int)), M) := by
  obtain ⟨acc', y4, y5, y6, y7, y8, e⟩ := digits_loop (M := M) (ns := ns) (a1 := some (.int 0)) (a2 := some (.int 63)) (rgI 0 63) [] none none none none none (fun i hi => (mem_rgI.mp hi).1) (by simp [rgI])
  refine ⟨acc', ?_⟩
  unfold m_l_digits f_l_digits
  rw [mDef_3]
  rw [sSeq_nx (en1 := [some (.scr (ns.map .int)), some (.int 0), some (.int 63), some (.cel M.length), none, none, none, none, none]) (M1 := M ++ [[]]) (by simp)]
  rw [sSeq_nx (en1 := [some (.scr (ns.map .int)), some (.int 0), some (.int 63), some (.cel M.length), y4, y5, y6, y7, y8]) (M1 := M ++ [acc'.map D.int]) (by
    simp only [sFor_e, iRng2_e, aCons_e, aNil_e, cVar_e, List.getElem?_cons_zero, List.getElem?_cons_succ, bnd_ok, show (smI 0 && smI 63) = true by decide, if_true, sbnd_ok, rgD_eq]
    exact e)]
  simp
  exact gcF_cel (by simp) (Nat.le_refl _) clos_ints
/-- the law's box -/
def Box (ds : List Int) (at_ : Int) : List D := [.imm (ds.map D.int), .int at_]
theorem clos_box {n : Nat} {ds : List Int} {a : Int} : clos n (Box ds a) = true := by simp [Box]
@[simp] theorem gSubC_e {fo fi : EF} {d : D} {en : DL.Env} : gSubC fo fi d en M = match fo en M with
  | some (.ok (.cel n), M1) => (match fi en M1 with
    | some (.ok (.int k), M2) => (match M2[n]? with
      | some ds => (match L2.ixN ds.length k with | some j => some (en, M2.set n (ds.set j d)) | none => none)
      | none => none)
    | _ => none)
  | _ => none := rfl
theorem ix0 {n : Nat} (h : 0 < n) : L2.ixN n 0 = some 0 := by unfold L2.ixN; simp; omega
theorem ix1 {n : Nat} (h : 1 < n) : L2.ixN n 1 = some 1 := by unfold L2.ixN; simp; omega
theorem draw_is {c : Nat} {ds : List Int} {a m : Int} (hc : M[c]? = some (Box ds a)) (ha : 0 ≤ a) (ha2 : a ≤ 1000000) (hm : 0 < m) :
    ∃ r : Int, 0 ≤ r ∧ r < m ∧ m_l_draw [.cel c, .int m] M = some (.ok (.int r), M.set c (Box ds (a + 1))) := by
  have hlt : c < M.length := (List.getElem?_eq_some_iff.mp hc).1
  have h1 : sAsg (cVar 0) (gTupC 2 (gConsC (gN 2) (gConsC (gN 3) gNilC))) [some (.cel c), some (.int m), none, none] M = some (.nx [some (.cel c), some (.int m), some (.imm (ds.map D.int)), some (.int a)], M) := by
    simp [hc]
    simp [Box]
  have h2 : sAsg (cOp gAddA (cVar 3) (cC (.int 1))) (gSubC (cVar 0) (cC (.int 1))) [some (.cel c), some (.int m), some (.imm (ds.map D.int)), some (.int a)] M = some (.nx [some (.cel c), some (.int m), some (.imm (ds.map D.int)), some (.int a)], M.set c (Box ds (a + 1))) := by
    simp [hc]
    simp [Box, ix1]
  have hmod : ∀ y : Int, modC y m = true := fun y => modC_of hm
  have key : ∃ r : Int, 0 ≤ r ∧ r < m ∧ fin (sSeq (sIf (cTru (cOp gLt (cVar 3) (cCall gLen (aCons (cVar 2) aNil)))) (sRet (cOp gMod (cOp gIx (cVar 2) (cVar 3)) (cVar 1))) sSkip)
      (sRet (cOp gMod (cOp gAddA (cOp gAddA (cOp gAddA (cOp gMul (cOp gMul (cVar 3) (cVar 3)) (cC (.int 3))) (cOp gMul (cVar 3) (cC (.int 4)))) (cOp gDiv (cVar 3) (cC (.int 3)))) (cC (.int 1))) (cVar 1))) [some (.cel c), some (.int m), some (.imm (ds.map D.int)), some (.int a)] (M.set c (Box ds (a + 1)))) = some (.ok (.int r), M.set c (Box ds (a + 1))) := by
    by_cases q : a < ds.length
    · obtain ⟨j, rfl⟩ : ∃ j : Nat, a = j := ⟨a.toNat, by omega⟩
      have hj : j < ds.length := by omega
      have e : L2.atI (ds.map D.int) (j : Int) = some (D.int ds[j]) := by
        rw [atI_nat (by simpa using hj)]
        simp
      exact ⟨ds[j] % m, Int.emod_nonneg _ (by omega), Int.emod_lt_of_pos _ hm, by simp [q, e, hmod]⟩
    · refine ⟨(a * a * 3 + a * 4 + a / 3 + 1) % m, Int.emod_nonneg _ (by omega), Int.emod_lt_of_pos _ hm, ?_⟩
      simp [q, hmod, show mulC a a = true from mulC_l (by omega) (by omega), show ∀ y : Int, mulC y 3 = true from fun y => mulC_r (by decide) (by decide), show ∀ y : Int, mulC y 4 = true from fun y => mulC_r (by decide) (by decide), show ∀ y : Int, divC y 3 = true from fun y => divC_of (by decide) (by decide)]
  obtain ⟨r, r1, r2, r3⟩ := key
  refine ⟨r, r1, r2, ?_⟩
  unfold m_l_draw f_l_draw
  rw [mDef_2]
  rw [show start0 4 [D.cel c, .int m] = [some (.cel c), some (.int m), none, none] from rfl, sSeq_nx h1, sSeq_nx h2, r3]
  exact gcF_set clos_box rfl rfl
theorem pick_is {α : Type} {enc : α → D} {l : List α} {c : Nat} {ds : List Int} {a : Int} (hc : M[c]? = some (Box ds a)) (ha : 0 ≤ a) (ha2 : a ≤ 1000000) (hl : l ≠ []) (h1 : ∀ x, clo M.length (enc x) = true) (h2 : ∀ x, notCel (enc x) = true) :
    ∃ x ∈ l, m_l_pick [.cel c, .imm (l.map enc)] M = some (.ok (enc x), M.set c (Box ds (a + 1))) := by
  have hp : 0 < l.length := List.length_pos_iff.mpr hl
  obtain ⟨r, r1, r2, r3⟩ := draw_is (m := (l.length : Int)) hc ha ha2 (by omega)
  obtain ⟨j, rfl⟩ : ∃ j : Nat, r = j := ⟨r.toNat, by omega⟩
  have hj : j < l.length := by omega
  have e : L2.atI (l.map enc) (j : Int) = some (enc l[j]) := by
    rw [atI_nat (by simpa using hj)]
    simp
  refine ⟨l[j], List.getElem_mem hj, ?_⟩
  unfold m_l_pick f_l_pick
  simp [r3, e]
  exact gcF_set clos_box (h1 _) (h2 _)
theorem l_unit_is : m_l_unit [.int 2] M = some (.ok (eTab [[1, 0], [0, 1]]), M) := by
  unfold m_l_unit f_l_unit
  simp [rgD_2, show smI 2 = true from rfl, row2, tab2]
def stO (M : Store) (c : Nat) (ds : List Int) (a : Int) (p q r s : Int) : Store := M.set c (Box ds a) ++ [[.imm [.int p, .int q], .imm [.int r, .int s]]]
section
variable {c : Nat} {ds : List Int} {a p q r s : Int}
theorem stO_box (h : c < M.length) : (stO M c ds a p q r s)[c]? = some (Box ds a) := by
  unfold stO
  rw [List.getElem?_append_left (by simpa using h), List.getElem?_set_self h]
theorem stO_set {b : Int} (h : c < M.length) : (stO M c ds a p q r s).set c (Box ds b) = stO M c ds b p q r s := by
  unfold stO
  rw [List.set_append_left _ _ (by simpa using h), List.set_set]
@[simp] theorem stO_rows : (stO M c ds a p q r s)[M.length]? = some [.imm [.int p, .int q], .imm [.int r, .int s]] := by
  unfold stO
  rw [List.getElem?_append_right (by simp)]
  simp
theorem stO_put {p' q' r' s' : Int} : (stO M c ds a p q r s).set M.length [.imm [.int p', .int q'], .imm [.int r', .int s']] = stO M c ds a p' q' r' s' := by
  unfold stO
  rw [List.set_append_right _ _ (by simp)]
  simp
theorem stO_len : (stO M c ds a p q r s).length = M.length + 1 := by simp [stO]
/-- a change: its numbers at most B, its determinant 1 or -1 -/
structure Chn (B p q r s : Int) : Prop where
  p1 : -B ≤ p
  p2 : p ≤ B
  q1 : -B ≤ q
  q2 : q ≤ B
  r1 : -B ≤ r
  r2 : r ≤ B
  s1 : -B ≤ s
  s2 : s ≤ B
  det : p * s - q * r = 1 ∨ p * s - q * r = -1
theorem Chn.big {B B' : Int} (h : Chn B p q r s) (hb : B ≤ B') : Chn B' p q r s := by
  obtain ⟨a1, a2, a3, a4, a5, a6, a7, a8, a9⟩ := h
  exact ⟨by omega, by omega, by omega, by omega, by omega, by omega, by omega, by omega, a9⟩
noncomputable def bodC : SF := (sSeq (sAsg (cTup (aCons (cCall m_l_draw (aCons (cVar 0) (aCons (cVar 1) aNil))) (aCons (cCall m_l_draw (aCons (cVar 0) (aCons (cVar 1) aNil))) aNil))) (gTupC 2 (gConsC (gN 5) (gConsC (gN 6) gNilC)))) (sSeq (sAsg (cCall m_l_draw (aCons (cVar 0) (aCons (cC (.int 8)) aNil))) (gN 7)) (sIf (cTru (cOp (gEq false) (cVar 5) (cVar 6))) (sAsg (cLc (iSeq (cOp gIx (cVar 3) (cVar 5))) (gN 10) tYesC (cOp gSub (cC (.int 0)) (cVar 10)) [10]) (gSubC (cVar 3) (cVar 5))) (sIf (cTru (cOp (gEq false) (cVar 7) (cC (.int 0)))) (sAsg (cTup (aCons (cOp gIx (cVar 3) (cVar 6)) (aCons (cOp gIx (cVar 3) (cVar 5)) aNil))) (gTupC 2 (gConsC (gSubC (cVar 3) (cVar 5)) (gConsC (gSubC (cVar 3) (cVar 6)) gNilC)))) (sSeq (sAsg (cCall m_l_pick (aCons (cVar 0) (aCons (cLst (aCons (cC (.int 1)) (aCons (cUn gNeg (cC (.int 1))) (aCons (cC (.int 2)) (aCons (cUn gNeg (cC (.int 1))) (aCons (cC (.int 1)) aNil)))))) aNil))) (gN 8)) (sAsg (cLc (iRng1C (aCons (cVar 1) aNil)) (gN 11) tYesC (cOp gAddA (cOp gIx (cOp gIx (cVar 3) (cVar 5)) (cVar 11)) (cOp gMul (cVar 8) (cOp gIx (cOp gIx (cVar 3) (cVar 6)) (cVar 11)))) [11]) (gSubC (cVar 3) (cVar 5))))))))
@[simp] theorem gIx_cel {n : Nat} {i : Int} : gIx (.cel n) (.int i) M = match M[n]? with | some es => (match L2.atI es i with | some d => some (.ok d, M) | none => none) | none => none := by
  unfold gIx
  simp only [items_c]
  try (cases M[n]? <;> rfl)
theorem turn_is {B : Int} {x4 x5 x6 x7 x8 x9 x10 x11 : Option D} (hB : 1 ≤ B) (hB2 : B ≤ 100000) (hc : c < M.length) (ha : 0 ≤ a) (ha2 : a ≤ 1000) (h : Chn B p q r s) :
    ∃ (a' p' q' r' s' : Int) (y5 y6 y7 y8 : Option D), a ≤ a' ∧ a' ≤ a + 4 ∧ Chn (3 * B) p' q' r' s' ∧
      bodC [some (.cel c), some (.int 2), some (.int 5), some (.cel M.length), x4, x5, x6, x7, x8, x9, x10, x11] (stO M c ds a p q r s) =
        some (.nx [some (.cel c), some (.int 2), some (.int 5), some (.cel M.length), x4, y5, y6, y7, y8, x9, x10, x11], stO M c ds a' p' q' r' s') := by
  obtain ⟨i, i1, i2, e1⟩ := draw_is (m := 2) (stO_box (M := M) (ds := ds) (a := a) (p := p) (q := q) (r := r) (s := s) hc) ha (by omega) (by decide)
  rw [stO_set hc] at e1
  obtain ⟨j, j1, j2, e2⟩ := draw_is (m := 2) (stO_box (M := M) (ds := ds) (a := a + 1) (p := p) (q := q) (r := r) (s := s) hc) (by omega) (by omega) (by decide)
  rw [stO_set hc] at e2
  obtain ⟨k, k1, k2, e3⟩ := draw_is (m := 8) (stO_box (M := M) (ds := ds) (a := a + 1 + 1) (p := p) (q := q) (r := r) (s := s) hc) (by omega) (by omega) (by decide)
  rw [stO_set hc] at e3
  obtain ⟨f, hf, e4⟩ := pick_is (enc := D.int) (l := [1, -1, 2, -1, 1]) (stO_box (M := M) (ds := ds) (a := a + 1 + 1 + 1) (p := p) (q := q) (r := r) (s := s) hc) (by omega) (by omega) (by simp) (fun _ => rfl) (fun _ => rfl)
  rw [stO_set hc] at e4
  have hf2 : f = 1 ∨ f = -1 ∨ f = 2 := by simp at hf; omega
  have hmf : ∀ y : Int, mulC f y = true := fun y => mulC_l (by rcases hf2 with z | z | z <;> omega) (by rcases hf2 with z | z | z <;> omega)
  have h1 : sAsg (cTup (aCons (cCall m_l_draw (aCons (cVar 0) (aCons (cVar 1) aNil))) (aCons (cCall m_l_draw (aCons (cVar 0) (aCons (cVar 1) aNil))) aNil))) (gTupC 2 (gConsC (gN 5) (gConsC (gN 6) gNilC))) [some (.cel c), some (.int 2), some (.int 5), some (.cel M.length), x4, x5, x6, x7, x8, x9, x10, x11] (stO M c ds a p q r s) =
      some (.nx [some (.cel c), some (.int 2), some (.int 5), some (.cel M.length), x4, some (.int i), some (.int j), x7, x8, x9, x10, x11], stO M c ds (a + 1 + 1) p q r s) := by
    simp [e1, e2]
  have h2 : sAsg (cCall m_l_draw (aCons (cVar 0) (aCons (cC (.int 8)) aNil))) (gN 7) [some (.cel c), some (.int 2), some (.int 5), some (.cel M.length), x4, some (.int i), some (.int j), x7, x8, x9, x10, x11] (stO M c ds (a + 1 + 1) p q r s) =
      some (.nx [some (.cel c), some (.int 2), some (.int 5), some (.cel M.length), x4, some (.int i), some (.int j), some (.int k), x8, x9, x10, x11], stO M c ds (a + 1 + 1 + 1) p q r s) := by
    simp [e3]
  have fin : ∀ (a' p' q' r' s' : Int) (y8 : Option D), a ≤ a' → a' ≤ a + 4 → Chn (3 * B) p' q' r' s' →
      sIf (cTru (cOp (gEq false) (cVar 5) (cVar 6))) (sAsg (cLc (iSeq (cOp gIx (cVar 3) (cVar 5))) (gN 10) tYesC (cOp gSub (cC (.int 0)) (cVar 10)) [10]) (gSubC (cVar 3) (cVar 5))) (sIf (cTru (cOp (gEq false) (cVar 7) (cC (.int 0)))) (sAsg (cTup (aCons (cOp gIx (cVar 3) (cVar 6)) (aCons (cOp gIx (cVar 3) (cVar 5)) aNil))) (gTupC 2 (gConsC (gSubC (cVar 3) (cVar 5)) (gConsC (gSubC (cVar 3) (cVar 6)) gNilC)))) (sSeq (sAsg (cCall m_l_pick (aCons (cVar 0) (aCons (cLst (aCons (cC (.int 1)) (aCons (cUn gNeg (cC (.int 1))) (aCons (cC (.int 2)) (aCons (cUn gNeg (cC (.int 1))) (aCons (cC (.int 1)) aNil)))))) aNil))) (gN 8)) (sAsg (cLc (iRng1C (aCons (cVar 1) aNil)) (gN 11) tYesC (cOp gAddA (cOp gIx (cOp gIx (cVar 3) (cVar 5)) (cVar 11)) (cOp gMul (cVar 8) (cOp gIx (cOp gIx (cVar 3) (cVar 6)) (cVar 11)))) [11]) (gSubC (cVar 3) (cVar 5)))))
        [some (.cel c), some (.int 2), some (.int 5), some (.cel M.length), x4, some (.int i), some (.int j), some (.int k), x8, x9, x10, x11] (stO M c ds (a + 1 + 1 + 1) p q r s) =
        some (.nx [some (.cel c), some (.int 2), some (.int 5), some (.cel M.length), x4, some (.int i), some (.int j), some (.int k), y8, x9, x10, x11], stO M c ds a' p' q' r' s') →
      ∃ (a' p' q' r' s' : Int) (y5 y6 y7 y8 : Option D), a ≤ a' ∧ a' ≤ a + 4 ∧ Chn (3 * B) p' q' r' s' ∧
      bodC [some (.cel c), some (.int 2), some (.int 5), some (.cel M.length), x4, x5, x6, x7, x8, x9, x10, x11] (stO M c ds a p q r s) =
        some (.nx [some (.cel c), some (.int 2), some (.int 5), some (.cel M.length), x4, y5, y6, y7, y8, x9, x10, x11], stO M c ds a' p' q' r' s') := by
    intro a' p' q' r' s' y8 b1 b2 b3 b4
    refine ⟨a', p', q', r', s', some (.int i), some (.int j), some (.int k), y8, b1, b2, b3, ?_⟩
    unfold bodC
    rw [sSeq_nx h1, sSeq_nx h2, b4]
  obtain ⟨c1, c2, c3, c4, c5, c6, c7, c8, c9⟩ := h
  have i3 : i = 0 ∨ i = 1 := by omega
  have j3 : j = 0 ∨ j = 1 := by omega
  rcases i3 with rfl | rfl <;> rcases j3 with rfl | rfl
  · refine fin (a + 1 + 1 + 1) (-p) (-q) r s x8 (by omega) (by omega) ⟨by omega, by omega, by omega, by omega, by omega, by omega, by omega, by omega, ?_⟩ ?_
    · have : -p * s - -q * r = -(p * s - q * r) := by grind
      omega
    · simp [ix0, stO_put]
  · by_cases hk : k = 0
    · subst hk
      refine fin (a + 1 + 1 + 1) r s p q x8 (by omega) (by omega) ⟨by omega, by omega, by omega, by omega, by omega, by omega, by omega, by omega, ?_⟩ ?_
      · have : r * q - s * p = -(p * s - q * r) := by grind
        omega
      · simp [ix0, ix1, stO, Box]
    · refine fin (a + 1 + 1 + 1 + 1) (p + f * r) (q + f * s) r s (some (.int f)) (by omega) (by omega) ?_ ?_
      · refine ⟨?_, ?_, ?_, ?_, by omega, by omega, by omega, by omega, ?_⟩
        · rcases hf2 with rfl | rfl | rfl <;> omega
        · rcases hf2 with rfl | rfl | rfl <;> omega
        · rcases hf2 with rfl | rfl | rfl <;> omega
        · rcases hf2 with rfl | rfl | rfl <;> omega
        · have : (p + f * r) * s - (q + f * s) * r = p * s - q * r := by grind
          omega
      · simp at e4
        simp [hk, e4, hmf, rgD_2, show smI 2 = true from rfl, ix0, stO_put, show szOk 5 = true by decide]
  · by_cases hk : k = 0
    · subst hk
      refine fin (a + 1 + 1 + 1) r s p q x8 (by omega) (by omega) ⟨by omega, by omega, by omega, by omega, by omega, by omega, by omega, by omega, ?_⟩ ?_
      · have : r * q - s * p = -(p * s - q * r) := by grind
        omega
      · simp [ix0, ix1, stO, Box]
    · refine fin (a + 1 + 1 + 1 + 1) p q (r + f * p) (s + f * q) (some (.int f)) (by omega) (by omega) ?_ ?_
      · refine ⟨by omega, by omega, by omega, by omega, ?_, ?_, ?_, ?_, ?_⟩
        · rcases hf2 with rfl | rfl | rfl <;> omega
        · rcases hf2 with rfl | rfl | rfl <;> omega
        · rcases hf2 with rfl | rfl | rfl <;> omega
        · rcases hf2 with rfl | rfl | rfl <;> omega
        · have : p * (s + f * q) - q * (r + f * p) = p * s - q * r := by grind
          omega
      · simp at e4
        simp [hk, e4, hmf, rgD_2, show smI 2 = true from rfl, ix1, stO_put, show szOk 5 = true by decide]
  · refine fin (a + 1 + 1 + 1) p q (-r) (-s) x8 (by omega) (by omega) ⟨by omega, by omega, by omega, by omega, by omega, by omega, by omega, by omega, ?_⟩ ?_
    · have : p * -s - q * -r = -(p * s - q * r) := by grind
      omega
    · simp [ix1, stO_put]
end
end K14
/-! K14, forms of two unknowns, 4: as gen/mkbase.py printed it. -/
namespace K14
open PySem DL
variable {M : Store}
theorem rgD_1 : rgD 0 1 = [.int 0] := by rfl
theorem rgD_0 : rgD 0 0 = [] := by rfl
section
variable {d1 d2 : D}
theorem cut_a : cutD [d1, d2] none (some 0) = [] := rfl
theorem cut_b : cutD [d1, d2] (some 1) none = [d2] := rfl
theorem cut_c : cutD [d1, d2] none (some 1) = [d1] := rfl
theorem cut_d : cutD [d1, d2] (some 2) none = [] := rfl
theorem cut_e : cutD [d1] none (some 0) = [] := rfl
theorem cut_f : cutD [d1] (some 1) none = [] := rfl
end
@[simp] theorem cSl_e {fa : EF} {fl fh : OF} {en : DL.Env} : cSl fa fl fh en M = bnd (fa en M) fun x M1 => bnd (fl en M1) fun lo M2 => bnd (fh en M2) fun hi M3 => gSl lo hi x M3 := rfl
@[simp] theorem oNone_e {en : DL.Env} : oNone en M = some (.ok none, M) := rfl
@[simp] theorem oSome_e {fa : EF} {en : DL.Env} : oSome fa en M = bnd (fa en M) fun x M1 => match x with | .int i => some (.ok (some i), M1) | _ => none := rfl
@[simp] theorem gSl_t {lo hi : Option Int} {ds : List D} : gSl lo hi (.tup ds) M = some (.ok (.tup (cutD ds lo hi)), M) := rfl
@[simp] theorem gSl_l {lo hi : Option Int} {ds : List D} : gSl lo hi (.imm ds) M = some (.ok (.imm (cutD ds lo hi)), M) := rfl
theorem det0 : m_l_det 1 [.imm []] M = some (.ok (.int 1), M) := by
  unfold m_l_det f_l_det
  simp
theorem det1 {s : Int} : m_l_det 2 [.imm [.tup [.int s]]] M = some (.ok (.int s), M) := by
  unfold m_l_det f_l_det
  have s1 : smI 1 = true := rfl
  by_cases h : s = 0
  · subst h
    simp [rgD_1, s1, fLoop_cons]
  · simp [rgD_1, s1, fLoop_cons, h, cut_e, cut_f, det0, m2, modC, show mulC 1 s = true from mulC_l (by decide) (by decide), show mulC s 1 = true from mulC_r (by decide) (by decide)]
theorem det2 {p q r s : Int} (hp : Sm p) (hq : Sm q) (hr : Sm r) (hs : Sm s) : m_l_det 3 [eTab [[p, q], [r, s]]] M = some (.ok (.int (p * s - q * r)), M) := by
  unfold m_l_det f_l_det
  have s2 : smI 2 = true := rfl
  have one : ∀ x : Int, mulC 1 x = true := fun x => mulC_l (by decide) (by decide)
  have neg : ∀ x : Int, mulC (-1) x = true := fun x => mulC_l (by decide) (by decide)
  by_cases h1 : p = 0
  · subst h1
    by_cases h2 : r = 0
    · subst h2
      simp [rgD_2, s2, fLoop_cons, eTab, eRow]
    · simp [rgD_2, s2, fLoop_cons, eTab, eRow, h2, cut_a, cut_b, cut_c, cut_d, det1, m2, modC, neg, hq.r, one]
      grind
  · by_cases h2 : r = 0
    · subst h2
      simp [rgD_2, s2, fLoop_cons, eTab, eRow, h1, cut_a, cut_b, cut_c, cut_d, det1, m2, modC, neg, hs.r, one]
    · simp [rgD_2, s2, fLoop_cons, eTab, eRow, h1, h2, cut_a, cut_b, cut_c, cut_d, det1, m2, modC, neg, hs.r, hq.r, one]
      grind
section
variable {c : Nat} {ds : List Int}
theorem change_loop (l : List Int) : ∀ (k : Nat) (a B p q r s : Int) (x4 x5 x6 x7 x8 x9 x10 x11 : Option D), l.length = k → k ≤ 6 → 1 ≤ B → B * 3 ^ k ≤ 1000 → c < M.length → 0 ≤ a → a + 4 * k ≤ 1000 → Chn B p q r s →
    ∃ (a' p' q' r' s' : Int) (y4 y5 y6 y7 y8 y9 y10 y11 : Option D), a ≤ a' ∧ a' ≤ a + 4 * k ∧ Chn (B * 3 ^ k) p' q' r' s' ∧
      fLoop (gN 4) bodC (l.map D.int) [some (.cel c), some (.int 2), some (.int 5), some (.cel M.length), x4, x5, x6, x7, x8, x9, x10, x11] (stO M c ds a p q r s) =
        some (.nx [some (.cel c), some (.int 2), some (.int 5), some (.cel M.length), y4, y5, y6, y7, y8, y9, y10, y11], stO M c ds a' p' q' r' s') := by
  induction l with
  | nil =>
    intro k a B p q r s x4 x5 x6 x7 x8 x9 x10 x11 hk _ _ _ _ _ _ h
    subst hk
    exact ⟨a, p, q, r, s, x4, x5, x6, x7, x8, x9, x10, x11, by omega, by simp, by simpa using h, rfl⟩
  | cons i l ih =>
    intro k a B p q r s x4 x5 x6 x7 x8 x9 x10 x11 hk h6 hB hB2 hc ha ha2 h
    cases k with
    | zero => simp at hk
    | succ k =>
      rw [List.length_cons] at hk
      have hk' : l.length = k := by omega
      have e3 : B * 3 ^ (k + 1) = B * 3 * 3 ^ k := by rw [Int.pow_succ]; grind
      have hp3 : (1 : Int) ≤ 3 ^ k := by
        have : (1 : Nat) ≤ 3 ^ k := Nat.one_le_pow _ _ (by decide)
        exact_mod_cast this
      have hB3 : B * 3 ≤ B * 3 * 3 ^ k := by
        have := Int.mul_le_mul_of_nonneg_left hp3 (show 0 ≤ B * 3 by omega)
        omega
      obtain ⟨a1, p1, q1, r1, s1, y5, y6, y7, y8, b1, b2, b3, b4⟩ := turn_is (M := M) (ds := ds) (x4 := some (.int i)) (x5 := x5) (x6 := x6) (x7 := x7) (x8 := x8) (x9 := x9) (x10 := x10) (x11 := x11) hB (by omega) hc ha (by omega) h
      obtain ⟨a2, p2, q2, r2, s2, z4, z5, z6, z7, z8, z9, z10, z11, d1, d2, d3, d4⟩ := ih k a1 (3 * B) p1 q1 r1 s1 (some (.int i)) y5 y6 y7 y8 x9 x10 x11 hk' (by omega) (by omega) (by rw [Int.mul_comm 3 B]; omega) hc (by omega) (by omega) b3
      refine ⟨a2, p2, q2, r2, s2, z4, z5, z6, z7, z8, z9, z10, z11, by omega, by omega, ?_, ?_⟩
      · rw [e3, Int.mul_comm B 3]; exact d3
      · rw [List.map_cons, fLoop_cons]
        simp only [gN_e, List.set_cons_succ, List.set_cons_zero, b4]
        exact d4
theorem compFP_nil {n : Nat} {ds0 : List D} {g : GF} {t : TF} {f : EF} {en : DL.Env} (h : M[n]? = some ds0) : compFP n ds0 g t f en [] M = some ([], M) := by unfold compFP; exact if_pos h
theorem compFP_cons {n : Nat} {ds0 : List D} {g : GF} {t : TF} {f : EF} {en : DL.Env} {d : D} {es : List D} (h : M[n]? = some ds0) : compFP n ds0 g t f en (d :: es) M = match g d en M with
    | none => none
    | some (en1, M1) => match t en1 M1 with
      | some (.ok true, M2) => match f en1 M2 with
        | some (.ok y, M3) => match compFP n ds0 g t f en es M3 with
          | some (ys, M4) => some (y :: ys, M4)
          | none => none
        | _ => none
      | some (.ok false, M2) => compFP n ds0 g t f en es M2
      | _ => none := by
  rw [compFP]
  exact if_pos h
theorem change_is {a : Int} (hM : M[c]? = some (Box ds a)) (ha : 0 ≤ a) (ha2 : a ≤ 900) :
    ∃ a' p q r s, a ≤ a' ∧ a' ≤ a + 24 ∧ Chn 243 p q r s ∧ m_l_change [.cel c, .int 2, .int 5] M = some (.ok (eTab [[p, q], [r, s]]), M.set c (Box ds a')) := by
  have hc : c < M.length := (List.getElem?_eq_some_iff.mp hM).1
  have hset : M.set c (Box ds a) = M := by
    refine List.ext_getElem? fun i => ?_
    by_cases e : i = c
    · subst e; rw [List.getElem?_set_self hc, hM]
    · rw [List.getElem?_set_ne (Ne.symm e)]
  have hl : (rgI 0 5).length = 5 := by simp [rgI]
  obtain ⟨a', p, q, r, s, y4, y5, y6, y7, y8, y9, y10, y11, b1, b2, b3, b4⟩ := change_loop (M := M) (c := c) (ds := ds) (rgI 0 5) 5 a 1 1 0 0 1 none none none none none none none none hl (by omega) (by omega) (by decide) hc ha (by omega) ⟨by omega, by omega, by omega, by omega, by omega, by omega, by omega, by omega, .inl rfl⟩
  refine ⟨a', p, q, r, s, b1, by omega, by simpa using b3, ?_⟩
  unfold m_l_change f_l_change
  rw [mDef_3]
  have h0 : sAsg (cLcC (iSeq (cCall m_l_unit (aCons (cVar 1) aNil))) (gN 9) tYesC (cCall gList (aCons (cVar 9) aNil)) [9]) (gN 3) [some (.cel c), some (.int 2), some (.int 5), none, none, none, none, none, none, none, none, none] M =
      some (.nx [some (.cel c), some (.int 2), some (.int 5), some (.cel M.length), none, none, none, none, none, none, none, none], stO M c ds a 1 0 0 1) := by
    simp [l_unit_is, eRow, stO, hset]
  have h1 : sFor (iRng1C (aCons (cVar 2) aNil)) (gN 4) bodC [some (.cel c), some (.int 2), some (.int 5), some (.cel M.length), none, none, none, none, none, none, none, none] (stO M c ds a 1 0 0 1) =
      some (.nx [some (.cel c), some (.int 2), some (.int 5), some (.cel M.length), y4, y5, y6, y7, y8, y9, y10, y11], stO M c ds a' p q r s) := by
    simp only [sFor_e, iRng1_e, aCons_e, aNil_e, cVar_e, List.getElem?_cons_zero, List.getElem?_cons_succ, bnd_ok, show smI 5 = true by decide, if_true, sbnd_ok, rgD_eq]
    exact b4
  rw [show start0 12 [D.cel c, .int 2, .int 5] = [some (.cel c), some (.int 2), some (.int 5), none, none, none, none, none, none, none, none, none] from rfl, sSeq_nx h0]
  have h1' := h1
  unfold bodC at h1'
  rw [sSeq_nx h1']
  have hr : sRet (cCall gTuple (aCons (cLcP mkI (iCel (cVar 3)) (gN 9) tYesC (cCall gTuple (aCons (cVar 9) aNil)) [9]) aNil)) [some (.cel c), some (.int 2), some (.int 5), some (.cel M.length), y4, y5, y6, y7, y8, y9, y10, y11] (stO M c ds a' p q r s) =
      some (.rt (eTab [[p, q], [r, s]]), stO M c ds a' p q r s) := by
    have hx : (stO M c ds a' p q r s)[M.length]? = some [.imm [.int p, .int q], .imm [.int r, .int s]] := stO_rows
    have hcl : cLcP mkI (iCel (cVar 3)) (gN 9) tYesC (cCall gTuple (aCons (cVar 9) aNil)) [9] [some (.cel c), some (.int 2), some (.int 5), some (.cel M.length), y4, y5, y6, y7, y8, y9, y10, y11] (stO M c ds a' p q r s) =
        some (.ok (.imm [.tup [.int p, .int q], .tup [.int r, .int s]]), stO M c ds a' p q r s) := by
      have hi : iCel (cVar 3) [some (.cel c), some (.int 2), some (.int 5), some (.cel M.length), y4, y5, y6, y7, y8, y9, y10, y11] (stO M c ds a' p q r s) = some (.ok M.length, stO M c ds a' p q r s) := by
        simp [iCel, stO_len]
      unfold cLcP
      rw [hi, bnd_ok, hx]
      dsimp only
      rw [if_pos (show szOk [D.imm [D.int p, D.int q], D.imm [D.int r, D.int s]].length = true from szOk_2)]
      simp [compFP_cons hx, compFP_nil hx]
    simp [hcl, row2, tab2]
  rw [hr]
  have ht : Tidy M (stO M c ds a' p q r s) := by
    intro j es hj hq
    unfold stO at hq
    rw [List.getElem?_append_left (by simpa using hj)] at hq
    exact tidy_set clos_box j es hj hq
  rw [fin_rt, gcF_any ht (by simp) rfl]
  congr 2
  unfold stO
  rw [List.take_append_of_le_length (by simp)]
  exact List.take_of_length_le (by simp)
end
end K14
namespace K14
open PySem DL
variable {M : Store}
theorem rg_len {lo : Int} {k : Nat} : (rgI lo k).length = k := by simp [rgI]
/-- rows of three -/
def three : List (List Int) → Prop := fun l => ∀ r ∈ l, ∃ a b c, r = [a, b, c]
def ltR (r s : List Int) : Prop := ∃ a b c a' b' c', r = [a, b, c] ∧ s = [a', b', c'] ∧ (a < a' ∨ (a = a' ∧ b < b'))
theorem rgI_lt {lo : Int} {k : Nat} : (rgI lo k).Pairwise (· < ·) := by
  unfold rgI
  rw [List.pairwise_map]
  exact List.pairwise_lt_range.imp fun h => by omega
theorem root_unique {x : Int} {r s : Int} (h : IsRoot x r) (h2 : IsRoot x s) : r = s := by
  obtain ⟨a1, a2, a3⟩ := h
  obtain ⟨b1, b2, b3⟩ := h2
  have lt : ∀ {u v : Int}, 0 ≤ u → 0 ≤ v → u < v → (u + 1) * (u + 1) ≤ v * v := fun hu hv huv => Int.mul_le_mul (by omega) (by omega) (by omega) (by omega)
  rcases Int.lt_trichotomy r s with z | z | z
  · have := lt a1 b1 z; omega
  · exact z
  · have := lt b1 a1 z; omega
theorem repr_is {x : D} {u : PyData} (h : toPyM M x = some u) (hs : shOk u = true) : gRepr [x] M = some (.ok (.str u.shown), M) := by
  unfold gRepr
  dsimp only
  rw [h]
  dsimp only
  rw [if_pos hs]
theorem same_is {x y : D} {u : PyData} (hx : toPyM M x = some u) (hy : toPyM M y = some u) (hs : shOk u = true) : m_l_same [x, y] M = some (.ok (.bl true), M) := by
  unfold m_l_same f_l_same
  rw [mDef_2, show start0 2 [x, y] = [some x, some y] from rfl]
  simp [repr_is hx hs, repr_is hy hs]
theorem sh_row {r : List Int} (h : ∀ x ∈ r, Sm x) (hl : r.length ≤ 100) : shOk (pRow r) = true := by
  refine shOk_of (plain_row fun x hx => shI_of ?_) (Nat.le_trans depth_row (by decide)) (Nat.le_trans bulk_row (by omega))
  have := h x hx
  obtain ⟨h1, h2⟩ := this
  have : x.natAbs < 10 ^ 15 := by omega
  exact Nat.lt_trans this (by decide)
theorem sh_tab {t : List (List Int)} (h : ∀ r ∈ t, ∀ x ∈ r, Sm x) (hl : ∀ r ∈ t, r.length ≤ 3) (hn : t.length ≤ 2000) : shOk (pTab t) = true := by
  refine shOk_of (plain_tab fun r hr x hx => shI_of ?_) (Nat.le_trans depth_tab (by decide)) (Nat.le_trans (bulk_tab hl) (by omega))
  obtain ⟨h1, h2⟩ := h r hr x hx
  have : x.natAbs < 10 ^ 15 := by omega
  exact Nat.lt_trans this (by decide)
theorem same_row {r : List Int} (h : ∀ x ∈ r, Sm x) (hl : r.length ≤ 100) : m_l_same [eRow r, eRow r] M = some (.ok (.bl true), M) := same_is toPyM_row toPyM_row (sh_row h hl)
theorem same_tab {t : List (List Int)} (h : ∀ r ∈ t, ∀ x ∈ r, Sm x) (hl : ∀ r ∈ t, r.length ≤ 3) (hn : t.length ≤ 2000) : m_l_same [eTab t, eTab t] M = some (.ok (.bl true), M) := same_is toPyM_tab toPyM_tab (sh_tab h hl hn)
theorem same_bl {b : Bool} : m_l_same [.bl b, .bl b] M = some (.ok (.bl true), M) := same_is (u := .bool b) rfl rfl (shOk_of rfl (by simp [PyData.depth]) (by simp [PyData.bulk]))
theorem gIn_rows {neg : Bool} {r : List Int} {t : List (List Int)} : gIn neg (eRow r) (.imm (t.map eRow)) M = some (.ok (.bl (if neg = true then !(t.contains r) else t.contains r)), M) := by
  have h3 : toPys (t.map eRow) = some (t.map pRow) := toPys_map (g := pRow) fun r => toPyM_row (M := M) (r := r)
  have h1 : toPyM M (eRow r) = some (pRow r) := toPyM_row
  unfold gIn
  rw [h1, show itemsOf M (.imm (t.map eRow)) = some (t.map eRow) from rfl]
  dsimp only
  rw [h3]
  dsimp only
  rw [shaped_row, show SeqAt.shaped (.list (t.map pRow)) = true from shaped_tab]
  have e : ((t.map pRow).any fun z => PyData.eqv z (pRow r)) = t.contains r := by
    rw [List.any_map, Bool.eq_iff_iff, List.any_eq_true, List.contains_iff_mem]
    constructor
    · rintro ⟨x, hx, h⟩
      simp only [Function.comp] at h
      rw [eqv_row, beq_iff_eq] at h
      exact h ▸ hx
    · intro h
      exact ⟨r, h, by simp only [Function.comp]; rw [eqv_row, beq_iff_eq]⟩
  rw [e]
  rfl
theorem mb {x y A B : Int} (hx : -A ≤ x ∧ x ≤ A) (hy : -B ≤ y ∧ y ≤ B) : -(A * B) ≤ x * y ∧ x * y ≤ A * B := by
  have h1 : x.natAbs ≤ A.natAbs := by omega
  have h2 : y.natAbs ≤ B.natAbs := by omega
  have h3 := Nat.mul_le_mul h1 h2
  rw [← Int.natAbs_mul, ← Int.natAbs_mul] at h3
  have h4 : 0 ≤ A * B := Int.mul_nonneg (by omega) (by omega)
  omega
theorem ab {x y A B : Int} (hx : -A ≤ x ∧ x ≤ A) (hy : -B ≤ y ∧ y ≤ B) : -(A + B) ≤ x + y ∧ x + y ≤ A + B := by omega
end K14
/-! k14, part C0: steps of a ring. -/
namespace K14
open PySem DL
variable {M : Store}
def ab' (c : Int) : Int := if c < 0 then -c else c
theorem ab_pos {c : Int} (h : c ≠ 0) : 1 ≤ ab' c := by unfold ab'; split <;> omega
theorem ab_nn {c : Int} : 0 ≤ ab' c := by unfold ab'; split <;> omega
/-- the root, by looking -/
def wN (x : Int) : Nat := ((List.range 26).filter fun (i : Nat) => decide (((i : Int) + 1) * ((i : Int) + 1) ≤ x)).length
theorem wN_all : ((List.range 651).all fun (x : Nat) => decide (0 ≤ (wN (x : Int) : Int)) && (decide ((wN (x : Int) : Int) * (wN (x : Int) : Int) ≤ (x : Int)) && decide ((x : Int) < ((wN (x : Int) : Int) + 1) * ((wN (x : Int) : Int) + 1)))) = true := by decide +kernel
theorem wN_is {x : Int} (h0 : 0 ≤ x) (h1 : x ≤ 650) : IsRoot x (wN x) := by
  have := List.all_eq_true.mp wN_all x.toNat (List.mem_range.mpr (by omega))
  rw [Bool.and_eq_true, Bool.and_eq_true, decide_eq_true_eq, decide_eq_true_eq, decide_eq_true_eq] at this
  have e : ((x.toNat : Nat) : Int) = x := by omega
  rw [e] at this
  exact this
theorem wroot_is {x : Int} (h0 : 0 ≤ x) (h1 : x ≤ 650) : m_root [.int x] M = some (.ok (.int (wN x)), M) := by
  obtain ⟨r, hr, e⟩ := root_is (M := M) h0 (show x < 2 ^ 62 by omega)
  rw [e, root_unique hr (wN_is h0 h1)]
/-- a discriminant of the law that is no square -/
structure Dn (D : Int) : Prop where
  lo : 5 ≤ D
  hi : D ≤ 604
  mod : D % 4 ≤ 1
  ns : (wN D : Int) * (wN D : Int) ≠ D
theorem Dn.root {D : Int} (h : Dn D) : IsRoot D (wN D) := wN_is (by have := h.lo; omega) (by have := h.hi; omega)
theorem wN_le {D : Int} : (wN D : Int) ≤ 26 := by
  unfold wN
  have := List.length_filter_le (fun (i : Nat) => decide (((i : Int) + 1) * ((i : Int) + 1) ≤ D)) (List.range 26)
  rw [List.length_range] at this
  exact_mod_cast this
theorem Dn.wlo {D : Int} (h : Dn D) : 2 ≤ (wN D : Int) := by
  obtain ⟨h1, h2, h3⟩ := h.root
  have := h.lo
  generalize (wN D : Int) = w at *
  rcases Int.lt_or_le w 2 with z | z
  · have : (w + 1) * (w + 1) ≤ 2 * 2 := Int.mul_le_mul (by omega) (by omega) (by omega) (by omega)
    omega
  · exact z
theorem Dn.wlt {D : Int} (h : Dn D) : (wN D : Int) * (wN D : Int) < D := by
  obtain ⟨h1, h2, h3⟩ := h.root
  have := h.ns
  omega
def shf (w : Int) (g : Frm) : Int :=
  if g.c < 0 then 0 - (if ab' g.c > w then (g.b + ab' g.c) / (2 * ab' g.c) else (w + g.b) / (2 * ab' g.c)) else (if ab' g.c > w then (g.b + ab' g.c) / (2 * ab' g.c) else (w + g.b) / (2 * ab' g.c))
def stp (w : Int) (g : Frm) : Chg := ⟨0, 1, -1, shf w g⟩
def nxt (w : Int) (g : Frm) : Frm := g.act (stp w g)
theorem nxt_eq {w : Int} {g : Frm} : nxt w g = ⟨g.c, -g.b + 2 * g.c * shf w g, g.a - g.b * shf w g + g.c * (shf w g * shf w g)⟩ := by
  apply Frm.ext <;> simp only [nxt, Frm.act, Frm.wo, worthF, midF, stp] <;> grind
theorem stp_det {w : Int} {g : Frm} : (stp w g).det = 1 := by simp [stp, Chg.det]
def isRed (w : Int) (g : Frm) : Bool := (decide (0 < g.b) && decide (g.b ≤ w)) && (decide (w - g.b < 2 * ab' g.a) && decide (2 * ab' g.a ≤ w + g.b))
/-- entries not above B -/
structure Bq (B : Int) (g : Frm) : Prop where
  a1 : -B ≤ g.a
  a2 : g.a ≤ B
  b1 : -B ≤ g.b
  b2 : g.b ≤ B
  c1 : -B ≤ g.c
  c2 : g.c ≤ B
theorem Bq.sm {B : Int} {g : Frm} (h : Bq B g) (hB : B ≤ 10 ^ 14) : Sm g.a ∧ Sm g.b ∧ Sm g.c := by
  obtain ⟨a1, a2, b1, b2, c1, c2⟩ := h
  exact ⟨⟨by omega, by omega⟩, ⟨by omega, by omega⟩, ⟨by omega, by omega⟩⟩
theorem gAbs_e' {a : Int} : gAbs [.int a] M = some (.ok (.int (ab' a)), M) := by
  have : gAbs [.int a] M = some (.ok (.int (if a < 0 then -a else a)), M) := by simp
  exact this
theorem gap_is' {D : Int} {g : Frm} (hg : g.gap = D) (hb : Sm g.b) (hc : Sm g.c) : m_gap [eF g] M = some (.ok (.int D), M) := by
  have e := K14.gap_is (M := M) (a := g.a) (b := g.b) (c := g.c) hb hc
  have h : gapF g.a g.b g.c = D := hg
  rw [h] at e
  exact e
theorem shf_sm {w : Int} {g : Frm} {B : Int} (hw : 0 ≤ w ∧ w ≤ 26) (h : Bq B g) (hB : 0 ≤ B ∧ B ≤ 10 ^ 14) (hc : g.c ≠ 0) : -(2 * B + 30) ≤ shf w g ∧ shf w g ≤ 2 * B + 30 := by
  have hp := ab_pos hc
  obtain ⟨a1, a2, b1, b2, c1, c2⟩ := h
  have hab : ab' g.c ≤ B := by unfold ab'; split <;> omega
  have div_b : ∀ x : Int, -(2 * B + 30) ≤ x → x ≤ 2 * B + 30 → -(2 * B + 30) ≤ x / (2 * ab' g.c) ∧ x / (2 * ab' g.c) ≤ 2 * B + 30 := by
    intro x h1 h2
    generalize ab' g.c = m at *
    have e := Int.mul_ediv_add_emod x (2 * m)
    have e1 := Int.emod_nonneg x (show 2 * m ≠ 0 by omega)
    have e2 := Int.emod_lt_of_pos x (show 0 < 2 * m by omega)
    generalize x / (2 * m) = q at *
    generalize x % (2 * m) = r at *
    constructor
    · rcases Int.lt_or_le q (-(2 * B + 30)) with z | z
      · have := Int.mul_le_mul_of_nonneg_left (show q ≤ -(2 * B + 30) - 1 by omega) (show 0 ≤ 2 * m by omega)
        have e3 : 2 * m * (-(2 * B + 30) - 1) = -(2 * m * (2 * B + 30)) - 2 * m := by grind
        have := Int.mul_le_mul_of_nonneg_right (show 1 ≤ 2 * m by omega) (show 0 ≤ 2 * B + 30 by omega)
        omega
      · exact z
    · rcases Int.lt_or_le (2 * B + 30) q with z | z
      · have := Int.mul_le_mul_of_nonneg_left (show 2 * B + 30 + 1 ≤ q by omega) (show 0 ≤ 2 * m by omega)
        have := Int.mul_le_mul_of_nonneg_right (show 1 ≤ 2 * m by omega) (show 0 ≤ 2 * B + 30 + 1 by omega)
        omega
      · exact z
  have d1 := div_b (g.b + ab' g.c) (by omega) (by omega)
  have d2 := div_b (w + g.b) (by omega) (by omega)
  unfold shf
  split <;> split <;> omega
/-- next_form -/
theorem next_is {D : Int} (hD : Dn D) {g : Frm} (hg : g.gap = D) {B : Int} (hb : Bq B g) (hB : 0 ≤ B ∧ B ≤ 10 ^ 14) (hc : g.c ≠ 0) : m_next_form [eF g] M = some (.ok (.tup [eF (nxt (wN D) g), eC (stp (wN D) g)]), M) := by
  obtain ⟨s1, s2, s3⟩ := hb.sm hB.2
  have hw := hD.wlo
  have hw2 := wN_le (D := D)
  have hs := shf_sm (w := wN D) (g := g) ⟨by omega, hw2⟩ hb hB hc
  have hgap := gap_is' (M := M) hg s2 s3
  have hr := wroot_is (M := M) (x := D) (by have := hD.lo; omega) (by have := hD.hi; omega)
  have hch := changed_is (M := M) (g := g) (u := stp (wN D) g) s2 ⟨sm0, sm1, smN, ⟨by show -(10 ^ 15) < shf _ g; omega, by show shf _ g < 10 ^ 15; omega⟩⟩
  have hp := ab_pos hc
  have hab : ab' g.c ≤ B := by have := hb.c1; have := hb.c2; unfold ab'; split <;> omega
  generalize (wN D : Int) = w at *
  obtain ⟨m, hm⟩ : ∃ m, m = ab' g.c := ⟨_, rfl⟩
  have hdv : ∀ x : Int, divC x (2 * m) = true := fun x => divC_of (by omega) (by omega)
  have hgab : gAbs [.int g.c] M = some (.ok (.int m), M) := by rw [gAbs_e', hm]
  obtain ⟨k, hk⟩ : ∃ k, k = (if m > w then (g.b + m) / (2 * m) else (w + g.b) / (2 * m)) := ⟨_, rfl⟩
  have hsh : shf w g = if g.c < 0 then 0 - k else k := by unfold shf; rw [← hm, hk]
  obtain ⟨s, hs'⟩ : ∃ s, s = shf w g := ⟨_, rfl⟩
  have hst : stp w g = ⟨0, 1, -1, s⟩ := by rw [hs']; rfl
  unfold m_next_form f_next_form
  rw [mDef_1, show start0 8 [eF g] = [some (eF g), none, none, none, none, none, none, none] from rfl]
  rw [sSeq_nx (en1 := [some (eF g), some (.int g.a), some (.int g.b), some (.int g.c), none, none, none, none]) (M1 := M) (by simp [eF, eRow])]
  rw [sSeq_nx (en1 := [some (eF g), some (.int g.a), some (.int g.b), some (.int g.c), some (.int m), none, none, none]) (M1 := M) (by
    simp only [sAsg_e, cCall_e, aCons_e, aNil_e, cVar_e, List.getElem?_cons_zero, List.getElem?_cons_succ, bnd_ok, hgab, sbnd_ok]
    rfl)]
  rw [sSeq_nx (en1 := [some (eF g), some (.int g.a), some (.int g.b), some (.int g.c), some (.int m), some (.int w), none, none]) (M1 := M) (by
    simp only [sAsg_e, cCall_e, aCons_e, aNil_e, cVar_e, List.getElem?_cons_zero, List.getElem?_cons_succ, bnd_ok, hgap, hr, sbnd_ok]
    rfl)]
  have h1 : sIf (cTru (cOp gGt (cVar 4) (cVar 5))) (sAsg (cOp gDiv (cOp gAddA (cVar 2) (cVar 4)) (cOp gMul (cC (.int 2)) (cVar 4))) (gN 6)) (sAsg (cOp gDiv (cOp gAddA (cVar 5) (cVar 2)) (cOp gMul (cC (.int 2)) (cVar 4))) (gN 6)) [some (eF g), some (.int g.a), some (.int g.b), some (.int g.c), some (.int m), some (.int w), none, none] M = some (.nx [some (eF g), some (.int g.a), some (.int g.b), some (.int g.c), some (.int m), some (.int w), some (.int k), none], M) := by
    by_cases hgt : m > w
    · rw [if_pos hgt] at hk
      simp [hgt, m2, hdv, hk]
    · rw [if_neg hgt] at hk
      simp [hgt, m2, hdv, hk]
  rw [sSeq_nx h1]
  have h2 : sIf (cTru (cOp gLt (cVar 3) (cC (.int 0)))) (sAsg (cOp gSub (cC (.int 0)) (cVar 6)) (gN 6)) sSkip [some (eF g), some (.int g.a), some (.int g.b), some (.int g.c), some (.int m), some (.int w), some (.int k), none] M = some (.nx [some (eF g), some (.int g.a), some (.int g.b), some (.int g.c), some (.int m), some (.int w), some (.int s), none], M) := by
    rw [hs', hsh]
    by_cases hlt : g.c < 0
    · simp [hlt]
    · simp [hlt]
  rw [sSeq_nx h2]
  have ec : eC (stp w g) = .tup [.tup [.int 0, .int 1], .tup [.int (-1), .int s]] := by rw [hst]; rfl
  rw [sSeq_nx (en1 := [some (eF g), some (.int g.a), some (.int g.b), some (.int g.c), some (.int m), some (.int w), some (.int s), some (eC (stp w g))]) (M1 := M) (by rw [ec]; simp [gNeg])]
  simp only [sRet_e, cTup_e, aCons_e, aNil_e, cCall_e, cVar_e, List.getElem?_cons_zero, List.getElem?_cons_succ, bnd_ok, hch, List.length_cons, List.length_nil, Nat.reduceAdd, szOk_2, if_true, sbnd_ok, fin_rt]
  exact gcF_ok0 (by simp [eF, eC]) rfl
/-- is_ring_reduced -/
theorem isRed_is {D : Int} (hD : Dn D) {g : Frm} (hg : g.gap = D) {B : Int} (hb : Bq B g) (hB : 0 ≤ B ∧ B ≤ 10 ^ 14) : m_is_ring_reduced [eF g] M = some (.ok (.bl (isRed (wN D) g)), M) := by
  obtain ⟨s1, s2, s3⟩ := hb.sm hB.2
  have hgap := gap_is' (M := M) hg s2 s3
  have hr := wroot_is (M := M) (x := D) (by have := hD.lo; omega) (by have := hD.hi; omega)
  generalize (wN D : Int) = w at *
  have hgab : gAbs [.int g.a] M = some (.ok (.int (ab' g.a)), M) := gAbs_e'
  have i0 : gIx (eF g) (.int 0) M = some (.ok (.int g.a), M) := rfl
  have i1 : gIx (eF g) (.int 1) M = some (.ok (.int g.b), M) := rfl
  unfold m_is_ring_reduced f_is_ring_reduced
  rw [mDef_1, show start0 5 [eF g] = [some (eF g), none, none, none, none] from rfl]
  rw [sSeq_nx (en1 := [some (eF g), some (.int D), none, none, none]) (M1 := M) (by simp [hgap])]
  rw [sSeq_nx (en1 := [some (eF g), some (.int D), some (.int (ab' g.a)), some (.int g.b), none]) (M1 := M) (by
    simp only [sPar_e, cCall_e, cOp_e, cC_e, aCons_e, aNil_e, cVar_e, List.getElem?_cons_zero, List.getElem?_cons_succ, bnd_ok, i0, i1, hgab, sbnd_ok]
    rfl)]
  rw [sSeq_nx (en1 := [some (eF g), some (.int D), some (.int (ab' g.a)), some (.int g.b), some (.int w)]) (M1 := M) (by
    simp only [sAsg_e, cCall_e, aCons_e, aNil_e, cVar_e, List.getElem?_cons_zero, List.getElem?_cons_succ, bnd_ok, hr, sbnd_ok]
    rfl)]
  unfold isRed
  generalize ab' g.a = m at *
  generalize g.b = b at *
  by_cases h1 : 0 < b
  · by_cases h2 : b ≤ w
    · by_cases h3 : w - b < 2 * m
      · by_cases h4 : 2 * m ≤ w + b
        · simp [h1, h2, h3, h4, m2]
        · simp [h1, h2, h3, h4, m2]
      · simp [h1, h2, h3, m2]
    · simp [h1, h2, m2]
  · simp [h1, m2]
end K14
set_option exponentiation.threshold 3000
/-! k14: sizes. -/
namespace K14
open PySem DL
variable {M : Store}
def Sz (k : Nat) (x : Int) : Prop := x.natAbs < 2 ^ k
instance {k : Nat} {x : Int} : Decidable (Sz k x) := inferInstanceAs (Decidable (_ < _))
theorem Sz.mul {j k : Nat} {x y : Int} (h : Sz j x) (g : Sz k y) : Sz (j + k) (x * y) := by
  unfold Sz at *
  rw [Int.natAbs_mul, Nat.pow_add]
  exact Nat.mul_lt_mul'' h g
theorem Sz.mono {j k : Nat} {x : Int} (h : Sz j x) (g : j ≤ k) : Sz k x := Nat.lt_of_lt_of_le h (Nat.pow_le_pow_right (by decide) g)
theorem Sz.add {k : Nat} {x y : Int} (h : Sz k x) (g : Sz k y) : Sz (k + 1) (x + y) := by
  unfold Sz at *
  rw [Nat.pow_succ]
  omega
theorem Sz.sub {k : Nat} {x y : Int} (h : Sz k x) (g : Sz k y) : Sz (k + 1) (x - y) := by
  unfold Sz at *
  rw [Nat.pow_succ]
  omega
theorem Sz.neg {k : Nat} {x : Int} (h : Sz k x) : Sz k (-x) := by
  unfold Sz at *
  omega
theorem Sz.log {k : Nat} {x : Int} (h : Sz k x) : x.natAbs.log2 ≤ k := by
  unfold Sz at h
  by_cases z : x.natAbs = 0
  · rw [z]; exact Nat.zero_le _
  · have := (Nat.log2_lt z).mpr h
    omega
theorem mulC_sz {j k : Nat} {x y : Int} (h : Sz j x) (g : Sz k y) (l : j + k < 1000000) : mulC x y = true := by
  have h1 := h.log
  have h2 := g.log
  unfold mulC
  rw [Bool.or_eq_true, Bool.or_eq_true]
  exact .inr (decide_eq_true (by omega))
theorem divC_sz {k : Nat} {x y : Int} (h : 0 < y) (g : Sz k y) (l : k < 9000) : divC x y = true := by
  have h1 := g.log
  unfold divC
  rw [Bool.and_eq_true, decide_eq_true_eq, decide_eq_true_eq]
  exact ⟨h, by omega⟩
theorem sz4 : Sz 3 4 := by decide
theorem sz2 : Sz 2 2 := by decide
theorem gap_sz {k : Nat} {a b c : Int} (hk : k ≤ 100000) (ha : Sz k a) (hb : Sz k b) (hc : Sz k c) : m_gap [eRow [a, b, c]] M = some (.ok (.int (gapF a b c)), M) := by
  unfold m_gap f_gap
  simp [mulC_sz hb hb (by omega), m4, mulC_sz (sz4.mul ha) hc (by omega), gapF]
theorem worth_sz {k : Nat} {a b c x y : Int} (hk : k ≤ 100000) (ha : Sz k a) (hb : Sz k b) (hc : Sz k c) (hx : Sz k x) (hy : Sz k y) : m_two_worth [eRow [a, b, c], .int x, .int y] M = some (.ok (.int (worthF a b c x y)), M) := by
  unfold m_two_worth f_two_worth
  simp [mulC_sz ha hx (by omega), mulC_sz (ha.mul hx) hx (by omega), mulC_sz hb hx (by omega), mulC_sz (hb.mul hx) hy (by omega), mulC_sz hc hy (by omega), mulC_sz (hc.mul hy) hy (by omega), worthF]
theorem changed_sz {k : Nat} {a b c p q r s : Int} (hk : k ≤ 100000) (ha : Sz k a) (hb : Sz k b) (hc : Sz k c) (hp : Sz k p) (hq : Sz k q) (hr : Sz k r) (hs : Sz k s) :
    m_two_changed [eRow [a, b, c], eTab [[p, q], [r, s]]] M = some (.ok (eRow [worthF a b c p q, midF a b c p q r s, worthF a b c r s]), M) := by
  unfold m_two_changed f_two_changed
  simp [m2, mulC_sz (sz2.mul ha) hp (by omega), mulC_sz ((sz2.mul ha).mul hp) hr (by omega), mulC_sz hp hs (by omega), mulC_sz hq hr (by omega), mulC_sz hb ((hp.mul hs).add (hq.mul hr)) (by omega),
    mulC_sz (sz2.mul hc) hq (by omega), mulC_sz ((sz2.mul hc).mul hq) hs (by omega), worth_sz hk ha hb hc hp hq, worth_sz hk ha hb hc hr hs, midF, row3]
theorem product_sz {j k : Nat} {a b c d e f g h : Int} (hl : j + k < 1000000) (ha : Sz j a) (hb : Sz j b) (hc : Sz j c) (hd : Sz j d) (he : Sz k e) (hf : Sz k f) (hg : Sz k g) (hh : Sz k h) :
    m_product [eTab [[a, b], [c, d]], eTab [[e, f], [g, h]]] M = some (.ok (eTab (prodF a b c d e f g h)), M) :=
  product_is (mulC_sz ha he hl) (mulC_sz hb hg hl) (mulC_sz ha hf hl) (mulC_sz hb hh hl) (mulC_sz hc he hl) (mulC_sz hd hg hl) (mulC_sz hc hf hl) (mulC_sz hd hh hl)
theorem szm {k : Nat} {g : Frm} (h : Sz k g.a ∧ Sz k g.b ∧ Sz k g.c) {u : Chg} (hk : k ≤ 100000) (hu : Sz k u.p ∧ Sz k u.q ∧ Sz k u.r ∧ Sz k u.s) : m_two_changed [eF g, eC u] M = some (.ok (eF (g.act u)), M) := changed_sz hk h.1 h.2.1 h.2.2 hu.1 hu.2.1 hu.2.2.1 hu.2.2.2
def szC (k : Nat) (u : Chg) : Prop := Sz k u.p ∧ Sz k u.q ∧ Sz k u.r ∧ Sz k u.s
theorem szC.mono {j k : Nat} {u : Chg} (h : szC j u) (l : j ≤ k) : szC k u := ⟨h.1.mono l, h.2.1.mono l, h.2.2.1.mono l, h.2.2.2.mono l⟩
theorem prod_is {j k : Nat} {v u : Chg} (hl : j + k < 1000000) (hv : szC j v) (hu : szC k u) : m_product [eC v, eC u] M = some (.ok (eC (v.mul u)), M) := product_sz hl hv.1 hv.2.1 hv.2.2.1 hv.2.2.2 hu.1 hu.2.1 hu.2.2.1 hu.2.2.2
theorem mul_sz {j k : Nat} {v u : Chg} (hv : szC j v) (hu : szC k u) : szC (j + k + 1) (v.mul u) := ⟨(hv.1.mul hu.1).add (hv.2.1.mul hu.2.2.1), (hv.1.mul hu.2.1).add (hv.2.1.mul hu.2.2.2), (hv.2.2.1.mul hu.1).add (hv.2.2.2.mul hu.2.2.1), (hv.2.2.1.mul hu.2.1).add (hv.2.2.2.mul hu.2.2.2)⟩
end K14
set_option exponentiation.threshold 3000
/-! k14, part C1: a step's numbers. -/
namespace K14
open PySem DL
variable {M : Store}
theorem Dn.sq {D : Int} (h : Dn D) (x : Int) : x * x ≠ D := by
  intro e
  obtain ⟨h1, h2, h3⟩ := h.root
  have h4 := h.wlt
  generalize (wN D : Int) = w at *
  obtain ⟨y, hy, e2⟩ : ∃ y : Int, 0 ≤ y ∧ y * y = D := by
    rcases Int.le_total 0 x with z | z
    · exact ⟨x, z, e⟩
    · exact ⟨-x, by omega, by rw [← e]; grind⟩
  rcases Int.lt_or_le w y with z | z
  · have := Int.mul_le_mul (show w + 1 ≤ y by omega) (show w + 1 ≤ y by omega) (by omega) (by omega)
    omega
  · have := Int.mul_le_mul z z hy h1
    omega
theorem gap_eq {g : Frm} {D : Int} (h : g.gap = D) : g.b * g.b - 4 * g.a * g.c = D := h
theorem Dn.c_ne {D : Int} (h : Dn D) {g : Frm} (hg : g.gap = D) : g.c ≠ 0 := by
  intro e
  have := gap_eq hg
  rw [e] at this
  exact h.sq g.b (by omega)
theorem Dn.a_ne {D : Int} (h : Dn D) {g : Frm} (hg : g.gap = D) : g.a ≠ 0 := by
  intro e
  have := gap_eq hg
  rw [e] at this
  exact h.sq g.b (by omega)
theorem nxt_gap {w : Int} {g : Frm} : (nxt w g).gap = g.gap := by
  unfold nxt
  rw [gap_act, stp_det]
  omega
theorem nxt_a {w : Int} {g : Frm} : (nxt w g).a = g.c := by rw [nxt_eq]
theorem nxt_b {w : Int} {g : Frm} : (nxt w g).b = -g.b + 2 * g.c * shf w g := by rw [nxt_eq]
theorem modr {x m : Int} (hm : 0 < m) : 0 ≤ x - m * (x / m) ∧ x - m * (x / m) < m := by
  have e := Int.mul_ediv_add_emod x m
  have e1 := Int.emod_nonneg x (show m ≠ 0 by omega)
  have e2 := Int.emod_lt_of_pos x hm
  generalize m * (x / m) = q at *
  omega
/-- the middle number of the next form -/
theorem nxt_mid {w : Int} {g : Frm} (hc : g.c ≠ 0) : (ab' g.c > w → -(ab' g.c) < (nxt w g).b ∧ (nxt w g).b ≤ ab' g.c) ∧ (ab' g.c ≤ w → w - 2 * ab' g.c < (nxt w g).b ∧ (nxt w g).b ≤ w) := by
  have hp := ab_pos hc
  rw [nxt_b]
  have key : ∀ k : Int, shf w g = (if g.c < 0 then 0 - k else k) → 2 * g.c * shf w g = 2 * ab' g.c * k := by
    intro k hk
    rw [hk]
    unfold ab'
    split <;> grind
  constructor
  · intro h
    have e := key ((g.b + ab' g.c) / (2 * ab' g.c)) (by unfold shf; rw [if_pos h])
    rw [e]
    have := modr (x := g.b + ab' g.c) (show 0 < 2 * ab' g.c by omega)
    generalize 2 * ab' g.c * ((g.b + ab' g.c) / (2 * ab' g.c)) = q at *
    omega
  · intro h
    have e := key ((w + g.b) / (2 * ab' g.c)) (by unfold shf; rw [if_neg (show ¬ ab' g.c > w by omega)])
    rw [e]
    have := modr (x := w + g.b) (show 0 < 2 * ab' g.c by omega)
    generalize 2 * ab' g.c * ((w + g.b) / (2 * ab' g.c)) = q at *
    omega
theorem ab_mul {a c : Int} : ab' (a * c) = ab' a * ab' c := by
  unfold ab'
  rcases Int.lt_trichotomy a 0 with h | h | h
  · rcases Int.lt_trichotomy c 0 with k | k | k
    · have := Int.mul_pos_of_neg_of_neg h k
      rw [if_neg (by omega), if_pos h, if_pos k]; grind
    · subst k; simp
    · have := Int.mul_neg_of_neg_of_pos h k
      rw [if_pos this, if_pos h, if_neg (by omega)]; grind
  · subst h; simp
  · rcases Int.lt_trichotomy c 0 with k | k | k
    · have := Int.mul_neg_of_pos_of_neg h k
      rw [if_pos this, if_neg (by omega), if_pos k]; grind
    · subst k; simp
    · have := Int.mul_pos h k
      rw [if_neg (by omega), if_neg (by omega), if_neg (by omega)]
theorem ab_le {x B : Int} (h : ab' x ≤ B) : -B ≤ x ∧ x ≤ B := by
  unfold ab' at h
  split at h <;> omega
theorem le_ab {x B : Int} (h : -B ≤ x ∧ x ≤ B) : ab' x ≤ B := by
  unfold ab'
  split <;> omega
theorem sq_ab {x : Int} : x * x = ab' x * ab' x := by
  unfold ab'
  split
  · grind
  · rfl
theorem sq_mono {x y : Int} (h0 : 0 ≤ x) (h : x ≤ y) : x * x ≤ y * y := Int.mul_le_mul h h h0 (by omega)
/-- the last number of a form, by its first two -/
theorem last_le {D : Int} {g : Frm} (hg : g.gap = D) : 4 * (ab' g.a * ab' g.c) = ab' (g.b * g.b - D) := by
  have e := gap_eq hg
  have : 4 * (g.a * g.c) = g.b * g.b - D := by grind
  rw [← this, ab_mul, ab_mul]
  have : ab' 4 = 4 := by decide
  rw [this]
/-- the next form of a form whose last number is great -/
theorem nxt_big {D : Int} (hD : Dn D) {g : Frm} (hg : g.gap = D) (h : ab' g.c > wN D) : 4 * ab' (nxt (wN D) g).c ≤ ab' g.c := by
  have hc := hD.c_ne hg
  have hp := ab_pos hc
  obtain ⟨h1, h2, h3⟩ := hD.root
  have hm := (nxt_mid (w := wN D) hc).1 h
  have hl := last_le (nxt_gap (w := wN D) (g := g) ▸ hg : (nxt (wN D) g).gap = D)
  rw [nxt_a] at hl
  generalize (wN D : Int) = w at *
  have hb : ab' (nxt w g).b ≤ ab' g.c := le_ab ⟨by omega, by omega⟩
  have s1 := sq_mono ab_nn hb
  rw [← sq_ab (x := (nxt w g).b)] at s1
  have s2 := sq_mono (show 0 ≤ w + 1 by omega) (show w + 1 ≤ ab' g.c by omega)
  have hlo := hD.lo
  have s0 : 0 ≤ (nxt w g).b * (nxt w g).b := by
    rw [sq_ab]; exact Int.mul_nonneg ab_nn ab_nn
  have s3 : ab' ((nxt w g).b * (nxt w g).b - D) ≤ ab' g.c * ab' g.c := le_ab ⟨by omega, by omega⟩
  generalize ab' (nxt w g).c = y at *
  generalize ab' g.c = m at *
  rw [← hl] at s3
  have e : 4 * (m * y) = m * (4 * y) := by grind
  rw [e] at s3
  exact Int.le_of_mul_le_mul_left s3 (by omega)
/-- the next form of a form whose last number is small -/
theorem nxt_small {D : Int} (hD : Dn D) {g : Frm} (hg : g.gap = D) (h : ab' g.c ≤ wN D) : wN D - 2 * ab' (nxt (wN D) g).a < (nxt (wN D) g).b ∧ (nxt (wN D) g).b ≤ wN D ∧ ab' (nxt (wN D) g).a ≤ wN D ∧ 4 * ab' (nxt (wN D) g).c ≤ D := by
  have hc := hD.c_ne hg
  have hp := ab_pos hc
  obtain ⟨h1, h2, h3⟩ := hD.root
  have hm := (nxt_mid (w := wN D) hc).2 h
  have hl := last_le (nxt_gap (w := wN D) (g := g) ▸ hg : (nxt (wN D) g).gap = D)
  rw [nxt_a] at hl ⊢
  refine ⟨hm.1, hm.2, h, ?_⟩
  generalize (wN D : Int) = w at *
  have hb : ab' (nxt w g).b ≤ w := le_ab ⟨by omega, by omega⟩
  have s1 := sq_mono ab_nn hb
  rw [← sq_ab (x := (nxt w g).b)] at s1
  have s0 : 0 ≤ (nxt w g).b * (nxt w g).b := by
    rw [sq_ab]; exact Int.mul_nonneg ab_nn ab_nn
  have s3 : ab' ((nxt w g).b * (nxt w g).b - D) ≤ D := le_ab ⟨by omega, by omega⟩
  have hy := ab_nn (c := (nxt w g).c)
  generalize ab' (nxt w g).c = y at *
  generalize ab' g.c = m at *
  rw [← hl] at s3
  have := Int.mul_le_mul_of_nonneg_right (show 1 ≤ m by omega) hy
  omega
/-- the entries stay below a bound -/
theorem nxt_bq {D : Int} (hD : Dn D) {g : Frm} (hg : g.gap = D) {B : Int} (hb : Bq B g) (hB : 700 ≤ B) : Bq B (nxt (wN D) g) := by
  have hc := hD.c_ne hg
  have hp := ab_pos hc
  have hw := wN_le (D := D)
  have hw0 := hD.wlo
  have hhi := hD.hi
  have hcB : ab' g.c ≤ B := le_ab ⟨hb.c1, hb.c2⟩
  rcases Int.lt_or_le (wN D : Int) (ab' g.c) with h | h
  · have h1 := (nxt_mid (w := wN D) hc).1 h
    have h2 := ab_le (show ab' (nxt (wN D) g).c ≤ B by have := nxt_big hD hg h; have := ab_nn (c := (nxt (wN D) g).c); omega)
    refine ⟨by rw [nxt_a]; exact hb.c1, by rw [nxt_a]; exact hb.c2, by omega, by omega, h2.1, h2.2⟩
  · obtain ⟨k1, k2, k3, k4⟩ := nxt_small hD hg h
    have h2 := ab_le (show ab' (nxt (wN D) g).c ≤ B by omega)
    refine ⟨by rw [nxt_a]; exact hb.c1, by rw [nxt_a]; exact hb.c2, by omega, by omega, h2.1, h2.2⟩
/-! reduced after so many steps -/
def rd (w : Int) : Nat → Frm → Bool
  | 0, g => isRed w g
  | n + 1, g => isRed w g || rd w n (nxt w g)
theorem rd_mono {w : Int} : ∀ {n : Nat} {g : Frm}, rd w n g = true → ∀ m, n ≤ m → rd w m g = true
  | 0, g, h, 0, _ => h
  | 0, g, h, m + 1, _ => by
    unfold rd
    rw [show isRed w g = true from h]; rfl
  | n + 1, g, h, m + 1, hl => by
    unfold rd at h ⊢
    rw [Bool.or_eq_true] at h ⊢
    rcases h with h | h
    · exact .inl h
    · exact .inr (rd_mono h m (by omega))
/-- the forms that a step may make of small ones -/
def smallOk (D : Int) : Bool := (List.range (wN D)).all fun i => [((i : Int) + 1), -((i : Int) + 1)].all fun a => (List.range (2 * (i + 1))).all fun j => !(((wN D - (j : Int)) * (wN D - (j : Int)) - D) % (4 * a) == 0) || rd (wN D) 7 ⟨a, wN D - (j : Int), ((wN D - (j : Int)) * (wN D - (j : Int)) - D) / (4 * a)⟩
theorem small_rd {D : Int} (hD : Dn D) (hk : smallOk D = true) {g : Frm} (hg : g.gap = D) (h1 : wN D - 2 * ab' g.a < g.b) (h2 : g.b ≤ wN D) (h3 : ab' g.a ≤ wN D) : rd (wN D) 7 g = true := by
  have ha := hD.a_ne hg
  have hp := ab_pos ha
  unfold smallOk at hk
  generalize wN D = w at *
  have k1 := List.all_eq_true.mp hk (ab' g.a - 1).toNat (List.mem_range.mpr (by omega))
  have e1 : (((ab' g.a - 1).toNat : Nat) : Int) + 1 = ab' g.a := by omega
  rw [e1] at k1
  have k2 := List.all_eq_true.mp k1 g.a (by
    unfold ab'
    split
    · simp
    · simp)
  have k3 := List.all_eq_true.mp k2 (w - g.b).toNat (List.mem_range.mpr (by omega))
  have e2 : (w : Int) - (((w - g.b).toNat : Nat) : Int) = g.b := by omega
  simp only [e2] at k3
  have e3 : g.b * g.b - D = 4 * g.a * g.c := by have := gap_eq hg; grind
  have e4 : (4 * g.a * g.c) % (4 * g.a) = 0 := Int.mul_emod_right _ _
  have e5 : (4 * g.a * g.c) / (4 * g.a) = g.c := Int.mul_ediv_cancel_left _ (by omega)
  rw [e3, e4, e5] at k3
  simpa using k3
theorem rd_ex {D : Int} (hD : Dn D) (hk : smallOk D = true) : ∀ (t : Nat) {g : Frm}, g.gap = D → ab' g.c < 4 ^ t → rd (wN D) (t + 8) g = true
  | 0, g, hg, h => by
    have := ab_pos (hD.c_ne hg)
    have e : (4 : Int) ^ 0 = 1 := rfl
    omega
  | t + 1, g, hg, h => by
    have hg' : (nxt (wN D) g).gap = D := by rw [nxt_gap, hg]
    have key : rd (wN D) (t + 8) (nxt (wN D) g) = true := by
      rcases Int.lt_or_le (wN D : Int) (ab' g.c) with q | q
      · have := nxt_big hD hg q
        have e : (4 : Int) ^ (t + 1) = 4 ^ t * 4 := Int.pow_succ ..
        exact rd_ex hD hk t hg' (by omega)
      · obtain ⟨k1, k2, k3, k4⟩ := nxt_small hD hg q
        exact rd_mono (small_rd hD hk hg' k1 k2 k3) _ (by omega)
    rw [show t + 1 + 8 = (t + 8) + 1 from rfl]
    unfold rd
    rw [key, Bool.or_true]
end K14
/-! k14, part C2: forms with numbers of either sign: the river. -/
namespace K14
open PySem DL
def Af (f : Frm) : Frm := ⟨f.a, f.b + 2 * f.a, f.a + f.b + f.c⟩
def Bf (f : Frm) : Frm := ⟨f.a + f.b + f.c, f.b + 2 * f.c, f.c⟩
def Sf (f : Frm) : Frm := ⟨f.c, -f.b, f.a⟩
def Riv (f : Frm) : Prop := (0 < f.a ∧ f.c < 0) ∨ (f.a < 0 ∧ 0 < f.c)
def Up (f : Frm) : Prop := (0 < f.a ∧ 0 < f.b ∧ 0 < f.c) ∨ (f.a < 0 ∧ f.b < 0 ∧ f.c < 0)
def Rf (f : Frm) : Frm := if (0 < f.a ∧ 0 < f.a + f.b + f.c) ∨ (f.a < 0 ∧ f.a + f.b + f.c < 0) then Bf f else Af f
def Rn : Nat → Frm → Frm
  | 0, f => f
  | n + 1, f => Rf (Rn n f)
theorem Rn_add (m : Nat) : ∀ (n : Nat) (f : Frm), Rn n (Rn m f) = Rn (n + m) f
  | 0, f => by rw [Nat.zero_add]; rfl
  | n + 1, f => by
    rw [Nat.add_right_comm]
    show Rf (Rn n (Rn m f)) = Rf (Rn (n + m) f)
    rw [Rn_add m n f]
theorem Af_act (f : Frm) : Af f = f.act ⟨1, 0, 1, 1⟩ := by
  apply Frm.ext <;> simp only [Af, Frm.act, Frm.wo, worthF, midF] <;> grind
theorem Bf_act (f : Frm) : Bf f = f.act ⟨1, 1, 0, 1⟩ := by
  apply Frm.ext <;> simp only [Bf, Frm.act, Frm.wo, worthF, midF] <;> grind
theorem Sf_act (f : Frm) : Sf f = f.act swapC := by rw [act_swap]; rfl
theorem Sf_Sf (f : Frm) : Sf (Sf f) = f := by
  apply Frm.ext
  · rfl
  · show - -f.b = f.b; omega
  · rfl
theorem Af_gap (f : Frm) : (Af f).gap = f.gap := by rw [Af_act, gap_act]; simp [Chg.det]
theorem Bf_gap (f : Frm) : (Bf f).gap = f.gap := by rw [Bf_act, gap_act]; simp [Chg.det]
theorem Sf_gap (f : Frm) : (Sf f).gap = f.gap := by rw [Sf_act, gap_act]; simp [Chg.det, swapC]
theorem Rf_gap (f : Frm) : (Rf f).gap = f.gap := by
  unfold Rf
  split
  · exact Bf_gap f
  · exact Af_gap f
theorem Rn_gap : ∀ (n : Nat) (f : Frm), (Rn n f).gap = f.gap
  | 0, f => rfl
  | n + 1, f => (Rf_gap _).trans (Rn_gap n f)
theorem Dn.d_ne {D : Int} (h : Dn D) {f : Frm} (hg : f.gap = D) : f.a + f.b + f.c ≠ 0 := h.c_ne (show (Af f).gap = D by rw [Af_gap, hg])
theorem Sf_riv {f : Frm} (h : Riv f) : Riv (Sf f) := by
  unfold Riv Sf at *
  dsimp only
  omega
theorem Rf_riv {D : Int} (hD : Dn D) {f : Frm} (hg : f.gap = D) (h : Riv f) : Riv (Rf f) ∧ (0 < (Rf f).a ↔ 0 < f.a) := by
  have := hD.d_ne hg
  unfold Riv at *
  unfold Rf
  split
  · unfold Bf; dsimp only; omega
  · unfold Af; dsimp only; omega
theorem Rn_riv {D : Int} (hD : Dn D) {f : Frm} (hg : f.gap = D) (h : Riv f) : ∀ n : Nat, Riv (Rn n f) ∧ (0 < (Rn n f).a ↔ 0 < f.a)
  | 0 => ⟨h, Iff.rfl⟩
  | n + 1 => by
    have ih := Rn_riv hD hg h n
    have := Rf_riv hD ((Rn_gap n f).trans hg) ih.1
    exact ⟨this.1, this.2.trans ih.2⟩
theorem step_A {D : Int} (hD : Dn D) {f : Frm} (hg : f.gap = D) (h : Riv f) : Af f = Rf f ∨ Up (Af f) := by
  have := hD.d_ne hg
  unfold Riv at h
  unfold Rf
  split
  · right; unfold Up Af; dsimp only; omega
  · exact .inl rfl
theorem step_B {D : Int} (hD : Dn D) {f : Frm} (hg : f.gap = D) (h : Riv f) : Bf f = Rf f ∨ Up (Bf f) := by
  have := hD.d_ne hg
  unfold Riv at h
  unfold Rf
  split
  · exact .inl rfl
  · right; unfold Up Bf; dsimp only; omega
theorem up_A {f : Frm} (h : Up f) : Up (Af f) := by unfold Up Af at *; dsimp only; omega
theorem up_B {f : Frm} (h : Up f) : Up (Bf f) := by unfold Up Bf at *; dsimp only; omega
theorem up_riv {f : Frm} (h : Up f) : ¬ Riv f := by unfold Up Riv at *; omega
inductive Wd (f : Frm) : Frm → Prop
  | one : Wd f f
  | A {g : Frm} : Wd f g → Wd f (Af g)
  | B {g : Frm} : Wd f g → Wd f (Bf g)
theorem riv_word {D : Int} (hD : Dn D) {f : Frm} (hg : f.gap = D) (h : Riv f) {g : Frm} (k : Wd f g) : (∃ n, g = Rn n f) ∨ Up g := by
  induction k with
  | one => exact .inl ⟨0, rfl⟩
  | A k ih =>
    rcases ih with ⟨n, rfl⟩ | ih
    · rcases step_A hD ((Rn_gap n f).trans hg) (Rn_riv hD hg h n).1 with e | e
      · exact .inl ⟨n + 1, e⟩
      · exact .inr e
    · exact .inr (up_A ih)
  | B k ih =>
    rcases ih with ⟨n, rfl⟩ | ih
    · rcases step_B hD ((Rn_gap n f).trans hg) (Rn_riv hD hg h n).1 with e | e
      · exact .inl ⟨n + 1, e⟩
      · exact .inr e
    · exact .inr (up_B ih)
theorem riv_word' {D : Int} (hD : Dn D) {f : Frm} (hg : f.gap = D) (h : Riv f) {g : Frm} (k : Wd f g) (hr : Riv g) : ∃ n, g = Rn n f := by
  rcases riv_word hD hg h k with e | e
  · exact e
  · exact absurd hr (up_riv e)
/-- rows that are not below 0: one of them is not below the other -/
theorem rows_le {p q r s : Int} (hp : 0 ≤ p) (hq : 0 ≤ q) (hr : 0 ≤ r) (hs : 0 ≤ s) (h : p * s - q * r = 1) : (p = 1 ∧ q = 0 ∧ r = 0 ∧ s = 1) ∨ (r ≤ p ∧ s ≤ q) ∨ (p ≤ r ∧ q ≤ s) := by
  rcases Int.lt_or_le p r with z | z
  · rcases Int.lt_or_le s q with y | y
    · exfalso
      have := Int.mul_le_mul (show p ≤ r - 1 by omega) (show s ≤ q - 1 by omega) hs (by omega)
      have e : (r - 1) * (q - 1) = q * r - r - q + 1 := by grind
      omega
    · exact .inr (.inr ⟨by omega, y⟩)
  · rcases Int.lt_or_le q s with y | y
    · rcases Int.lt_or_le r p with x | x
      · have := Int.mul_le_mul (show r + 1 ≤ p by omega) (show q + 1 ≤ s by omega) (by omega) (by omega)
        have e : (r + 1) * (q + 1) = q * r + r + q + 1 := by grind
        have hr0 : r = 0 := by omega
        have hq0 : q = 0 := by omega
        subst hr0; subst hq0
        left
        have h1 : p * s = 1 := by omega
        have : p = 1 := by
          have := Int.le_of_lt_add_one (show p < 1 + 1 by
            rcases Int.lt_or_le p 2 with w | w
            · omega
            · have := Int.mul_le_mul w (show 1 ≤ s by omega) (by omega) (by omega); omega)
          omega
        subst this
        exact ⟨rfl, rfl, rfl, by omega⟩
      · exact .inr (.inr ⟨by omega, by omega⟩)
    · exact .inr (.inl ⟨z, y⟩)
theorem word_of (f : Frm) : ∀ (n : Nat) (p q r s : Int), (p + q + r + s).toNat = n → 0 ≤ p → 0 ≤ q → 0 ≤ r → 0 ≤ s → p * s - q * r = 1 → Wd f (f.act ⟨p, q, r, s⟩) := by
  intro n
  induction n using Nat.strongRecOn with
  | ind n ih =>
    intro p q r s hn hp hq hr hs h
    rcases rows_le hp hq hr hs h with ⟨rfl, rfl, rfl, rfl⟩ | ⟨h1, h2⟩ | ⟨h1, h2⟩
    · have e : f.act ⟨1, 0, 0, 1⟩ = f := act_one f
      rw [e]; exact .one
    · have pos : 0 < r + s := by
        rcases Int.lt_or_le 0 (r + s) with z | z
        · exact z
        · have hr0 : r = 0 := by omega
          have hs0 : s = 0 := by omega
          subst hr0; subst hs0; simp at h
      have k := ih ((p - r) + (q - s) + r + s).toNat (by omega) (p - r) (q - s) r s rfl (by omega) (by omega) hr hs (by grind)
      have e : f.act ⟨p, q, r, s⟩ = Bf (f.act ⟨p - r, q - s, r, s⟩) := by
        rw [Bf_act, act_act]
        congr 1
        simp only [Chg.mul, Chg.mk.injEq]
        omega
      rw [e]; exact .B k
    · have pos : 0 < p + q := by
        rcases Int.lt_or_le 0 (p + q) with z | z
        · exact z
        · have hr0 : p = 0 := by omega
          have hs0 : q = 0 := by omega
          subst hr0; subst hs0; simp at h
      have k := ih (p + q + (r - p) + (s - q)).toNat (by omega) p q (r - p) (s - q) rfl hp hq (by omega) (by omega) (by grind)
      have e : f.act ⟨p, q, r, s⟩ = Af (f.act ⟨p, q, r - p, s - q⟩) := by
        rw [Af_act, act_act]
        congr 1
        simp only [Chg.mul, Chg.mk.injEq]
        omega
      rw [e]; exact .A k
theorem act_neg (f : Frm) (p q r s : Int) : f.act ⟨-p, -q, -r, -s⟩ = f.act ⟨p, q, r, s⟩ := by
  apply Frm.ext <;> simp only [Frm.act, Frm.wo, worthF, midF] <;> grind
theorem prod_sign {x y : Int} (h : 1 ≤ x * y) : (0 < x ∧ 0 < y) ∨ (x < 0 ∧ y < 0) := by
  rcases Int.lt_trichotomy x 0 with z | z | z
  · rcases Int.lt_or_le y 0 with w | w
    · exact .inr ⟨z, w⟩
    · have := Int.mul_nonneg (show 0 ≤ -x by omega) w
      have e : -x * y = -(x * y) := by grind
      omega
  · subst z; simp at h
  · rcases Int.lt_or_le 0 y with w | w
    · exact .inl ⟨z, w⟩
    · have := Int.mul_nonneg (show 0 ≤ x by omega) (show 0 ≤ -y by omega)
      have e : x * -y = -(x * y) := by grind
      omega
theorem prod_nn {x y : Int} (h : 0 ≤ x * y) : (0 ≤ x ∧ 0 ≤ y) ∨ (x ≤ 0 ∧ y ≤ 0) := by
  rcases Int.lt_trichotomy x 0 with z | z | z
  · rcases Int.lt_or_le 0 y with w | w
    · have := Int.mul_pos (show 0 < -x by omega) w
      have e : -x * y = -(x * y) := by grind
      omega
    · exact .inr ⟨by omega, w⟩
  · subst z
    rcases Int.le_total 0 y with w | w
    · exact .inl ⟨by omega, w⟩
    · exact .inr ⟨by omega, w⟩
  · rcases Int.lt_or_le y 0 with w | w
    · have := Int.mul_pos z (show 0 < -y by omega)
      have e : x * -y = -(x * y) := by grind
      omega
    · exact .inl ⟨by omega, w⟩
theorem eqv1 (f : Frm) {p q r s : Int} (h : p * s - q * r = 1) (hps : 1 ≤ p * s) : Wd f (f.act ⟨p, q, r, s⟩) ∨ Wd (f.act ⟨p, q, r, s⟩) f := by
  have inv : ∀ p q r s : Int, p * s - q * r = 1 → (f.act ⟨p, q, r, s⟩).act ⟨s, -q, -r, p⟩ = f := by
    intro p q r s h
    have := act_inv f ⟨p, q, r, s⟩ h
    exact this
  rcases prod_sign hps with ⟨h1, h2⟩ | ⟨h1, h2⟩
  · rcases prod_nn (show 0 ≤ q * r by omega) with ⟨h3, h4⟩ | ⟨h3, h4⟩
    · exact .inl (word_of f _ p q r s rfl (by omega) h3 h4 (by omega) h)
    · right
      have := word_of (f.act ⟨p, q, r, s⟩) _ s (-q) (-r) p rfl (by omega) (by omega) (by omega) (by omega) (by grind)
      rwa [inv p q r s h] at this
  · rcases prod_nn (show 0 ≤ q * r by omega) with ⟨h3, h4⟩ | ⟨h3, h4⟩
    · right
      rw [← act_neg]
      have := word_of (f.act ⟨-p, -q, -r, -s⟩) _ (-s) q r (-p) rfl (by omega) (by omega) (by omega) (by omega) (by grind)
      have e := inv (-p) (-q) (-r) (-s) (by grind)
      rw [show (⟨-s, - -q, - -r, -p⟩ : Chg) = ⟨-s, q, r, -p⟩ by simp] at e
      rwa [e] at this
    · left
      have := word_of f _ (-p) (-q) (-r) (-s) rfl (by omega) (by omega) (by omega) (by omega) (by grind)
      rwa [act_neg] at this
/-- two forms of one class on the river -/
theorem riv_eqv {D : Int} (hD : Dn D) {f g : Frm} (hf : f.gap = D) (rf : Riv f) (rg : Riv g) {u : Chg} (hu : u.det = 1) (e : g = f.act u) : (∃ n, g = Rn n f) ∨ (∃ n, f = Rn n g) ∨ (∃ n, Sf g = Rn n f) ∨ ∃ n, f = Rn n (Sf g) := by
  have hg : g.gap = D := by rw [e, gap_act, hu, hf]; omega
  have hu' : u.p * u.s - u.q * u.r = 1 := hu
  rcases Int.lt_or_le 0 (u.p * u.s) with z | z
  · rcases eqv1 f hu' (by omega) with k | k
    · have k : Wd f g := by rw [e]; exact k
      exact .inl (riv_word' hD hf rf k rg)
    · have k : Wd g f := by rw [e]; exact k
      exact .inr (.inl (riv_word' hD hg rg k rf))
  · have e2 : Sf g = f.act ⟨u.r, u.s, -u.p, -u.q⟩ := by
      rw [Sf_act, e, act_act]
      congr 1
      simp [Chg.mul, swapC]
    have h1 : u.r * -u.q - u.s * -u.p = 1 := by grind
    have h2 : 1 ≤ u.r * -u.q := by
      have : u.r * -u.q = -(u.q * u.r) := by grind
      omega
    rcases eqv1 f h1 h2 with k | k
    · have k : Wd f (Sf g) := by rw [e2]; exact k
      exact .inr (.inr (.inl (riv_word' hD hf rf k (Sf_riv rg))))
    · have k : Wd (Sf g) f := by rw [e2]; exact k
      exact .inr (.inr (.inr (riv_word' hD ((Sf_gap g).trans hg) (Sf_riv rg) k rf)))
/-- the side of a form on which its first number is above 0 -/
def pl (f : Frm) : Frm := if 0 < f.a then f else Sf f
theorem pl_gap (f : Frm) : (pl f).gap = f.gap := by
  unfold pl
  split
  · rfl
  · exact Sf_gap f
theorem pl_riv {f : Frm} (h : Riv f) : Riv (pl f) ∧ 0 < (pl f).a := by
  unfold pl
  unfold Riv at *
  split
  · exact ⟨h, by assumption⟩
  · unfold Sf; dsimp only; omega
theorem pl_back (f : Frm) : f = pl f ∨ f = Sf (pl f) := by
  unfold pl
  split
  · exact .inl rfl
  · exact .inr (Sf_Sf f).symm
theorem pl_act (f : Frm) : ∃ v : Chg, v.det = 1 ∧ pl f = f.act v := by
  unfold pl
  split
  · exact ⟨.one, rfl, (act_one f).symm⟩
  · exact ⟨swapC, by simp [swapC, Chg.det], Sf_act f⟩
theorem pl_eqv {D : Int} (hD : Dn D) {f g : Frm} (hf : f.gap = D) (rf : Riv f) (rg : Riv g) {u : Chg} (hu : u.det = 1) (e : g = f.act u) : (∃ n, pl g = Rn n (pl f)) ∨ (∃ n, pl f = Rn n (pl g)) := by
  obtain ⟨v, hv, ev⟩ := pl_act f
  obtain ⟨x, hx, ex⟩ := pl_act g
  have hg : g.gap = D := by rw [e, gap_act, hu, hf]; omega
  have e2 : pl g = (pl f).act ((x.mul u).mul v.inv) := by
    rw [ex, e, act_act, ev, ← act_act (f.act v) v.inv (x.mul u), act_inv f v hv]
  have hd : ((x.mul u).mul v.inv).det = 1 := by rw [det_mul, det_mul, det_inv, hx, hu, hv]; rfl
  have p1 := pl_riv rf
  have p2 := pl_riv rg
  rcases riv_eqv hD ((pl_gap f).trans hf) p1.1 p2.1 hd e2 with k | k | ⟨n, k⟩ | ⟨n, k⟩
  · exact .inl k
  · exact .inr k
  · exfalso
    have := (Rn_riv hD ((pl_gap f).trans hf) p1.1 n).2.mpr p1.2
    rw [← k] at this
    have h3 := p2.1
    have h4 := p2.2
    unfold Riv at h3
    unfold Sf at this
    dsimp only at this
    omega
  · exfalso
    have h3 := p2.1
    have h4 := p2.2
    have := (Rn_riv hD (((Sf_gap _).trans (pl_gap g)).trans hg) (Sf_riv p2.1) n).2
    rw [← k] at this
    have := this.mp p1.2
    unfold Riv at h3
    unfold Sf at this
    dsimp only at this
    omega
end K14
/-! k14, part C3: reduced forms, their rings. -/
namespace K14
open PySem DL
theorem rdd_iff {w : Int} {g : Frm} : isRed w g = true ↔ (0 < g.b ∧ g.b ≤ w ∧ w - g.b < 2 * ab' g.a ∧ 2 * ab' g.a ≤ w + g.b) := by
  unfold isRed
  simp only [Bool.and_eq_true, decide_eq_true_eq]
  constructor
  · rintro ⟨⟨a, b⟩, c, d⟩; exact ⟨a, b, c, d⟩
  · rintro ⟨a, b, c, d⟩; exact ⟨⟨a, b⟩, c, d⟩
/-- where the middle number is small, the others have other signs -/
theorem mid_riv {D : Int} (hD : Dn D) {g : Frm} (hg : g.gap = D) (h1 : -(wN D : Int) ≤ g.b) (h2 : g.b ≤ wN D) : Riv g ∧ 4 * (ab' g.a * ab' g.c) = D - g.b * g.b := by
  have h3 := hD.wlt
  have ha := hD.a_ne hg
  have hc := hD.c_ne hg
  have hl := last_le hg
  have hb : ab' g.b ≤ wN D := le_ab ⟨h1, h2⟩
  have s1 := sq_mono ab_nn hb
  rw [← sq_ab (x := g.b)] at s1
  have e := gap_eq hg
  have e2 : 4 * (g.a * g.c) = g.b * g.b - D := by grind
  have neg : g.a * g.c < 0 := by omega
  refine ⟨?_, ?_⟩
  · unfold Riv
    rcases Int.lt_or_le g.a 0 with z | z
    · right
      refine ⟨z, ?_⟩
      rcases Int.lt_or_le 0 g.c with y | y
      · exact y
      · have := Int.mul_nonneg (show 0 ≤ -g.a by omega) (show 0 ≤ -g.c by omega)
        have e3 : -g.a * -g.c = g.a * g.c := by grind
        omega
    · left
      refine ⟨by omega, ?_⟩
      rcases Int.lt_or_le g.c 0 with y | y
      · exact y
      · have := Int.mul_nonneg z y
        omega
  · rw [hl]
    unfold ab'
    rw [if_pos (by omega)]
    omega
theorem red_riv {D : Int} (hD : Dn D) {g : Frm} (hg : g.gap = D) (h : isRed (wN D) g = true) : Riv g ∧ 4 * (ab' g.a * ab' g.c) = D - g.b * g.b := by
  obtain ⟨h1, h2, _, _⟩ := rdd_iff.mp h
  exact mid_riv hD hg (by omega) h2
/-- the same of the last number -/
theorem red_c {D : Int} (hD : Dn D) {g : Frm} (hg : g.gap = D) (h : isRed (wN D) g = true) : wN D - g.b < 2 * ab' g.c ∧ 2 * ab' g.c ≤ wN D + g.b := by
  obtain ⟨h1, h2, h3, h4⟩ := rdd_iff.mp h
  obtain ⟨_, e⟩ := red_riv hD hg h
  obtain ⟨r1, r2, r3⟩ := hD.root
  have r4 := hD.wlt
  have hc := ab_nn (c := g.c)
  have ha := ab_nn (c := g.a)
  generalize (wN D : Int) = w at *
  generalize ab' g.a = A at *
  generalize ab' g.c = C at *
  generalize g.b = b at *
  constructor
  · rcases Int.lt_or_le (w - b) (2 * C) with z | z
    · exact z
    · have := Int.mul_le_mul h4 z (by omega) (by omega)
      have e1 : (w + b) * (w - b) = w * w - b * b := by grind
      have e2 : 2 * A * (2 * C) = 4 * (A * C) := by grind
      omega
  · rcases Int.lt_or_le (w + b) (2 * C) with z | z
    · have := Int.mul_le_mul (show w - b + 1 ≤ 2 * A by omega) (show w + b + 1 ≤ 2 * C by omega) (by omega) (by omega)
      have e1 : (w - b + 1) * (w + b + 1) = (w + 1) * (w + 1) - b * b := by grind
      have e2 : 2 * A * (2 * C) = 4 * (A * C) := by grind
      omega
    · exact z
/-- how often the last number goes into the middle -/
theorem shf_is {D : Int} (hD : Dn D) {g : Frm} (hg : g.gap = D) (h : ab' g.c ≤ wN D) : (g.c < 0 → shf (wN D) g = 0 - (wN D + g.b) / (2 * ab' g.c)) ∧ (0 < g.c → shf (wN D) g = (wN D + g.b) / (2 * ab' g.c)) := by
  unfold shf
  rw [if_neg (show ¬ ab' g.c > wN D by omega)]
  exact ⟨fun z => by rw [if_pos z], fun z => by rw [if_neg (by omega)]⟩
theorem red_cw {D : Int} (hD : Dn D) {g : Frm} (hg : g.gap = D) (h : isRed (wN D) g = true) : ab' g.c ≤ wN D := by
  have := red_c hD hg h
  obtain ⟨h1, h2, h3, h4⟩ := rdd_iff.mp h
  omega
/-- the next form of a small one whose last number is small: reduced, if the middle one is not too small -/
theorem nxt_red {D : Int} (hD : Dn D) {g : Frm} (hg : g.gap = D) (h : isRed (wN D) g = true) : isRed (wN D) (nxt (wN D) g) = true := by
  have hcw := red_cw hD hg h
  have hc := hD.c_ne hg
  have hp := ab_pos hc
  obtain ⟨c1, c2⟩ := red_c hD hg h
  obtain ⟨h1, h2, h3, h4⟩ := rdd_iff.mp h
  obtain ⟨k1, k2⟩ := (nxt_mid (w := wN D) hc).2 hcw
  have key : ∃ k : Int, (nxt (wN D) g).b = -g.b + 2 * ab' g.c * k := by
    rw [nxt_b]
    unfold ab'
    split
    · exact ⟨-shf (wN D) g, by grind⟩
    · exact ⟨shf (wN D) g, by grind⟩
  obtain ⟨k, hk⟩ := key
  rw [rdd_iff, nxt_a]
  generalize (nxt (wN D) g).b = b' at *
  generalize (wN D : Int) = w at *
  generalize ab' g.c = C at *
  generalize g.b = b at *
  have hk1 : 1 ≤ k := by
    rcases Int.lt_or_le k 1 with z | z
    · exfalso
      have := Int.mul_le_mul_of_nonneg_left (show k ≤ 0 by omega) (show 0 ≤ 2 * C by omega)
      omega
    · exact z
  have := Int.mul_le_mul_of_nonneg_left hk1 (show 0 ≤ 2 * C by omega)
  refine ⟨by omega, k2, by omega, by omega⟩
theorem nxt_inj {D : Int} (hD : Dn D) {f g : Frm} (hf : f.gap = D) (hg : g.gap = D) (rf : isRed (wN D) f = true) (rg : isRed (wN D) g = true) (e : nxt (wN D) f = nxt (wN D) g) : f = g := by
  have ea : f.c = g.c := by have := congrArg Frm.a e; rwa [nxt_a, nxt_a] at this
  have eb := congrArg Frm.b e
  rw [nxt_b, nxt_b, ea] at eb
  have hc := hD.c_ne hg
  have hp := ab_pos hc
  obtain ⟨c1, c2⟩ := red_c hD hf rf
  obtain ⟨c3, c4⟩ := red_c hD hg rg
  obtain ⟨f1, f2, _, _⟩ := rdd_iff.mp rf
  obtain ⟨g1, g2, _, _⟩ := rdd_iff.mp rg
  rw [ea] at c1 c2
  have hb : f.b = g.b := by
    have key : ∃ k : Int, f.b - g.b = 2 * ab' g.c * k := by
      unfold ab'
      split
      · exact ⟨-(shf (wN D) f - shf (wN D) g), by grind⟩
      · exact ⟨shf (wN D) f - shf (wN D) g, by grind⟩
    obtain ⟨k, hk⟩ := key
    generalize ab' g.c = C at *
    rcases Int.lt_trichotomy k 0 with z | z | z
    · exfalso
      have := Int.mul_le_mul_of_nonneg_left (show k ≤ -1 by omega) (show 0 ≤ 2 * C by omega)
      omega
    · subst z; omega
    · exfalso
      have := Int.mul_le_mul_of_nonneg_left (show 1 ≤ k by omega) (show 0 ≤ 2 * C by omega)
      omega
  have e1 := gap_eq hf
  have e2 := gap_eq hg
  rw [hb, ea] at e1
  have e3 : f.a * g.c = g.a * g.c := by grind
  exact Frm.ext (Int.eq_of_mul_eq_mul_right hc e3) hb ea
/-- one more step makes a small form reduced -/
theorem small_red {D : Int} (hD : Dn D) {g : Frm} (hg : g.gap = D) (h1 : wN D - 2 * ab' g.a < g.b) (h2 : g.b ≤ wN D) (h3 : ab' g.a ≤ wN D) : rd (wN D) 1 g = true := by
  unfold rd
  rw [Bool.or_eq_true]
  by_cases h : isRed (wN D) g = true
  · exact .inl h
  · right
    show isRed (wN D) (nxt (wN D) g) = true
    have ha := ab_pos (hD.a_ne hg)
    have hc := hD.c_ne hg
    have hp := ab_pos hc
    obtain ⟨_, e⟩ := mid_riv hD hg (by omega) h2
    obtain ⟨r1, r2, r3⟩ := hD.root
    have hn : wN D + g.b < 2 * ab' g.a := by
      rcases Int.lt_or_le (wN D + g.b) (2 * ab' g.a) with z | z
      · exact z
      · exact absurd (rdd_iff.mpr ⟨by omega, h2, by omega, z⟩) h
    have hC : 2 * ab' g.c ≤ wN D - g.b := by
      generalize (wN D : Int) = w at *
      generalize ab' g.a = A at *
      generalize ab' g.c = C at *
      generalize g.b = b at *
      rcases Int.lt_or_le (w - b) (2 * C) with z | z
      · exfalso
        have := Int.mul_le_mul (show w + b + 1 ≤ 2 * A by omega) (show w - b + 1 ≤ 2 * C by omega) (by omega) (by omega)
        have e1 : (w + b + 1) * (w - b + 1) = (w + 1) * (w + 1) - b * b := by grind
        have e2 : 2 * A * (2 * C) = 4 * (A * C) := by grind
        omega
      · exact z
    have hcw : ab' g.c ≤ wN D := by omega
    obtain ⟨k1, k2⟩ := (nxt_mid (w := wN D) hc).2 hcw
    have key : ∃ k : Int, (nxt (wN D) g).b = -g.b + 2 * ab' g.c * k := by
      rw [nxt_b]
      unfold ab'
      split
      · exact ⟨-shf (wN D) g, by grind⟩
      · exact ⟨shf (wN D) g, by grind⟩
    obtain ⟨k, hk⟩ := key
    rw [rdd_iff, nxt_a]
    generalize (nxt (wN D) g).b = b' at *
    generalize (wN D : Int) = w at *
    generalize ab' g.c = C at *
    generalize g.b = b at *
    rcases Int.lt_or_le w (2 * C) with z | z
    · have hk1 : 0 ≤ k := by
        rcases Int.lt_or_le k 0 with y | y
        · exfalso
          have := Int.mul_le_mul_of_nonneg_left (show k ≤ -1 by omega) (show 0 ≤ 2 * C by omega)
          omega
        · exact y
      have := Int.mul_le_mul_of_nonneg_left hk1 (show 0 ≤ 2 * C by omega)
      exact ⟨by omega, k2, by omega, by omega⟩
    · exact ⟨by omega, k2, by omega, by omega⟩
/-- every form is reduced after some steps -/
theorem rd_all {D : Int} (hD : Dn D) : ∀ (t : Nat) {g : Frm}, g.gap = D → ab' g.c < 4 ^ t → rd (wN D) (t + 1) g = true
  | 0, g, hg, h => by
    have := ab_pos (hD.c_ne hg)
    have e : (4 : Int) ^ 0 = 1 := rfl
    omega
  | t + 1, g, hg, h => by
    have hg' : (nxt (wN D) g).gap = D := by rw [nxt_gap, hg]
    have key : rd (wN D) (t + 1) (nxt (wN D) g) = true := by
      rcases Int.lt_or_le (wN D : Int) (ab' g.c) with q | q
      · have := nxt_big hD hg q
        have e : (4 : Int) ^ (t + 1) = 4 ^ t * 4 := Int.pow_succ ..
        exact rd_all hD t hg' (by omega)
      · obtain ⟨k1, k2, k3, k4⟩ := nxt_small hD hg q
        exact rd_mono (small_red hD hg' k1 k2 k3) _ (by omega)
    unfold rd
    rw [key, Bool.or_true]
/-! along the river from a reduced form to the next -/
theorem fan_B {D : Int} (hD : Dn D) {f : Frm} (hf : f.gap = D) (rf : isRed (wN D) f = true) (hc : f.c < 0) : ∃ k : Nat, 1 ≤ k ∧ Rn k f = Sf (nxt (wN D) f) ∧ ∀ i, 0 < i → i < k → ¬ isRed (wN D) (Rn i f) = true ∧ ¬ isRed (wN D) (Sf (Rn i f)) = true := by
  have hcw := red_cw hD hf rf
  obtain ⟨c1, c2⟩ := red_c hD hf rf
  obtain ⟨h1, h2, h3, h4⟩ := rdd_iff.mp rf
  have hs := (shf_is hD hf hcw).1 hc
  have hC : ab' f.c = -f.c := by unfold ab'; rw [if_pos hc]
  have hm := modr (x := wN D + f.b) (show 0 < 2 * ab' f.c by omega)
  obtain ⟨K, hK⟩ : ∃ K : Int, K = (wN D + f.b) / (2 * ab' f.c) := ⟨_, rfl⟩
  rw [← hK] at hs hm
  have hK1 : 1 ≤ K := by
    rcases Int.lt_or_le K 1 with z | z
    · exfalso
      have := Int.mul_le_mul_of_nonneg_left (show K ≤ 0 by omega) (show 0 ≤ 2 * ab' f.c by omega)
      omega
    · exact z
  let F : Int → Frm := fun i => ⟨f.a + f.b * i + f.c * (i * i), f.b + 2 * f.c * i, f.c⟩
  have Fg : ∀ i, (F i).gap = D := by
    intro i
    rw [← hf]
    show (f.b + 2 * f.c * i) * (f.b + 2 * f.c * i) - 4 * (f.a + f.b * i + f.c * (i * i)) * f.c = f.b * f.b - 4 * f.a * f.c
    grind
  have Fb : ∀ i, 0 ≤ i → i ≤ K → (F i).b = f.b - 2 * ab' f.c * i ∧ -(wN D : Int) ≤ f.b - 2 * ab' f.c * i ∧ f.b - 2 * ab' f.c * i ≤ f.b := by
    intro i h0 hi
    refine ⟨by show f.b + 2 * f.c * i = _; rw [hC]; grind, ?_, ?_⟩
    · have := Int.mul_le_mul_of_nonneg_left hi (show 0 ≤ 2 * ab' f.c by omega)
      omega
    · have := Int.mul_nonneg (show 0 ≤ 2 * ab' f.c by omega) h0
      omega
  have Fa : ∀ i, 0 ≤ i → i ≤ K → 0 < (F i).a := by
    intro i h0 hi
    obtain ⟨e, b1, b2⟩ := Fb i h0 hi
    have := (mid_riv hD (Fg i) (by rw [e]; exact b1) (by rw [e]; omega)).1
    unfold Riv at this
    have e3 : (F i).c = f.c := rfl
    omega
  have FR : ∀ n : Nat, (n : Int) ≤ K → Rn n f = F n := by
    intro n
    induction n with
    | zero =>
      intro _
      apply Frm.ext
      · show f.a = f.a + f.b * ((0 : Nat) : Int) + f.c * (((0 : Nat) : Int) * ((0 : Nat) : Int)); simp
      · show f.b = f.b + 2 * f.c * ((0 : Nat) : Int); simp
      · rfl
    | succ n ih =>
      intro hn
      show Rf (Rn n f) = _
      rw [ih (by omega)]
      have a1 := Fa n (by omega) (by omega)
      have a2 := Fa ((n + 1 : Nat) : Int) (by omega) hn
      have e : Bf (F n) = F ((n + 1 : Nat) : Int) := by
        apply Frm.ext
        · show f.a + f.b * (n : Int) + f.c * ((n : Int) * n) + (f.b + 2 * f.c * n) + f.c = f.a + f.b * ((n + 1 : Nat) : Int) + f.c * (((n + 1 : Nat) : Int) * ((n + 1 : Nat) : Int))
          push_cast; grind
        · show f.b + 2 * f.c * (n : Int) + 2 * f.c = f.b + 2 * f.c * ((n + 1 : Nat) : Int)
          push_cast; grind
        · rfl
      unfold Rf
      rw [if_pos, e]
      left
      refine ⟨a1, ?_⟩
      have : (Bf (F n)).a = (F n).a + (F n).b + (F n).c := rfl
      rw [← this, e]
      exact a2
  refine ⟨K.toNat, by omega, ?_, fun i i0 iK => ?_⟩
  · rw [FR K.toNat (by omega), show ((K.toNat : Nat) : Int) = K by omega]
    rw [nxt_eq, hs]
    apply Frm.ext
    · show f.a + f.b * K + f.c * (K * K) = f.a - f.b * (0 - K) + f.c * ((0 - K) * (0 - K)); grind
    · show f.b + 2 * f.c * K = -(-f.b + 2 * f.c * (0 - K)); grind
    · rfl
  · rw [FR i (by omega)]
    obtain ⟨e, b1, b2⟩ := Fb i (by omega) (by omega)
    have lo := Int.mul_le_mul_of_nonneg_left (show (1 : Int) ≤ i by omega) (show 0 ≤ 2 * ab' f.c by omega)
    have hi := Int.mul_le_mul_of_nonneg_left (show (i : Int) ≤ K - 1 by omega) (show 0 ≤ 2 * ab' f.c by omega)
    have e4 : 2 * ab' f.c * (K - 1) = 2 * ab' f.c * K - 2 * ab' f.c := by grind
    constructor
    · intro z
      have := (red_c hD (Fg i) z).1
      rw [e] at this
      have e3 : (F i).c = f.c := rfl
      rw [e3] at this
      omega
    · intro z
      obtain ⟨_, _, z3, _⟩ := rdd_iff.mp z
      have e3 : (Sf (F i)).a = f.c := rfl
      have e5 : (Sf (F i)).b = -(F i).b := rfl
      rw [e3, e5, e] at z3
      omega
theorem fan_A {D : Int} (hD : Dn D) {f : Frm} (hf : f.gap = D) (rf : isRed (wN D) f = true) (hc : 0 < f.c) : ∃ k : Nat, 1 ≤ k ∧ Rn k (Sf f) = nxt (wN D) f ∧ ∀ i, 0 < i → i < k → ¬ isRed (wN D) (Rn i (Sf f)) = true ∧ ¬ isRed (wN D) (Sf (Rn i (Sf f))) = true := by
  have hcw := red_cw hD hf rf
  obtain ⟨c1, c2⟩ := red_c hD hf rf
  obtain ⟨h1, h2, h3, h4⟩ := rdd_iff.mp rf
  have hs := (shf_is hD hf hcw).2 hc
  have hC : ab' f.c = f.c := by unfold ab'; rw [if_neg (by omega)]
  have hm := modr (x := wN D + f.b) (show 0 < 2 * ab' f.c by omega)
  obtain ⟨K, hK⟩ : ∃ K : Int, K = (wN D + f.b) / (2 * ab' f.c) := ⟨_, rfl⟩
  rw [← hK] at hs hm
  rw [hC] at hm c1 c2
  have hK1 : 1 ≤ K := by
    rcases Int.lt_or_le K 1 with z | z
    · exfalso
      have := Int.mul_le_mul_of_nonneg_left (show K ≤ 0 by omega) (show 0 ≤ 2 * f.c by omega)
      omega
    · exact z
  let F : Int → Frm := fun i => ⟨f.c, -f.b + 2 * f.c * i, f.a - f.b * i + f.c * (i * i)⟩
  have Fg : ∀ i, (F i).gap = D := by
    intro i
    rw [← hf]
    show (-f.b + 2 * f.c * i) * (-f.b + 2 * f.c * i) - 4 * f.c * (f.a - f.b * i + f.c * (i * i)) = f.b * f.b - 4 * f.a * f.c
    grind
  have Fb : ∀ i, 0 ≤ i → i ≤ K → -(wN D : Int) ≤ (F i).b ∧ (F i).b ≤ wN D := by
    intro i h0 hi
    have := Int.mul_le_mul_of_nonneg_left hi (show 0 ≤ 2 * f.c by omega)
    have := Int.mul_nonneg (show 0 ≤ 2 * f.c by omega) h0
    show -(wN D : Int) ≤ -f.b + 2 * f.c * i ∧ -f.b + 2 * f.c * i ≤ wN D
    omega
  have Fc : ∀ i, 0 ≤ i → i ≤ K → (F i).c < 0 := by
    intro i h0 hi
    obtain ⟨b1, b2⟩ := Fb i h0 hi
    have := (mid_riv hD (Fg i) b1 b2).1
    unfold Riv at this
    have e3 : (F i).a = f.c := rfl
    omega
  have FR : ∀ n : Nat, (n : Int) ≤ K → Rn n (Sf f) = F n := by
    intro n
    induction n with
    | zero =>
      intro _
      apply Frm.ext
      · rfl
      · show -f.b = -f.b + 2 * f.c * ((0 : Nat) : Int); simp
      · show f.a = f.a - f.b * ((0 : Nat) : Int) + f.c * (((0 : Nat) : Int) * ((0 : Nat) : Int)); simp
    | succ n ih =>
      intro hn
      show Rf (Rn n (Sf f)) = _
      rw [ih (by omega)]
      have a2 := Fc ((n + 1 : Nat) : Int) (by omega) hn
      have e : Af (F n) = F ((n + 1 : Nat) : Int) := by
        apply Frm.ext
        · rfl
        · show -f.b + 2 * f.c * (n : Int) + 2 * f.c = -f.b + 2 * f.c * ((n + 1 : Nat) : Int)
          push_cast; grind
        · show f.c + (-f.b + 2 * f.c * (n : Int)) + (f.a - f.b * (n : Int) + f.c * ((n : Int) * n)) = f.a - f.b * ((n + 1 : Nat) : Int) + f.c * (((n + 1 : Nat) : Int) * ((n + 1 : Nat) : Int))
          push_cast; grind
      have e3 : (Af (F n)).c = (F n).a + (F n).b + (F n).c := rfl
      rw [e] at e3
      have e4 : (F n).a = f.c := rfl
      unfold Rf
      rw [if_neg (by omega), e]
  refine ⟨K.toNat, by omega, ?_, fun i i0 iK => ?_⟩
  · rw [FR K.toNat (by omega), show ((K.toNat : Nat) : Int) = K by omega]
    rw [nxt_eq, hs]
  · rw [FR i (by omega)]
    have lo := Int.mul_le_mul_of_nonneg_left (show (1 : Int) ≤ i by omega) (show 0 ≤ 2 * f.c by omega)
    have hi := Int.mul_le_mul_of_nonneg_left (show (i : Int) ≤ K - 1 by omega) (show 0 ≤ 2 * f.c by omega)
    have e4 : 2 * f.c * (K - 1) = 2 * f.c * K - 2 * f.c := by grind
    have eb : (F i).b = -f.b + 2 * f.c * i := rfl
    constructor
    · intro z
      obtain ⟨_, _, z3, _⟩ := rdd_iff.mp z
      have e3 : (F i).a = f.c := rfl
      rw [e3, hC, eb] at z3
      omega
    · intro z
      have := (red_c hD ((Sf_gap _).trans (Fg i)) z).1
      have e3 : (Sf (F i)).c = f.c := rfl
      have e5 : (Sf (F i)).b = -(F i).b := rfl
      rw [e3, e5, hC, eb] at this
      omega
theorem fan {D : Int} (hD : Dn D) {f : Frm} (hf : f.gap = D) (rf : isRed (wN D) f = true) : ∃ k : Nat, 1 ≤ k ∧ Rn k (pl f) = pl (nxt (wN D) f) ∧ ∀ i, 0 < i → i < k → ¬ isRed (wN D) (Rn i (pl f)) = true ∧ ¬ isRed (wN D) (Sf (Rn i (pl f))) = true := by
  have hr := (red_riv hD hf rf).1
  unfold Riv at hr
  rcases hr with ⟨h1, h2⟩ | ⟨h1, h2⟩
  · obtain ⟨k, k1, k2, k3⟩ := fan_B hD hf rf h2
    have e1 : pl f = f := by unfold pl; rw [if_pos h1]
    have e2 : pl (nxt (wN D) f) = Sf (nxt (wN D) f) := by unfold pl; rw [if_neg (by rw [nxt_a]; omega)]
    rw [e1, e2]
    exact ⟨k, k1, k2, k3⟩
  · obtain ⟨k, k1, k2, k3⟩ := fan_A hD hf rf h2
    have e1 : pl f = Sf f := by unfold pl; rw [if_neg (by omega)]
    have e2 : pl (nxt (wN D) f) = nxt (wN D) f := by unfold pl; rw [if_pos (by rw [nxt_a]; omega)]
    rw [e1, e2]
    exact ⟨k, k1, k2, k3⟩
/-- steps of a ring -/
def nx (w : Int) : Nat → Frm → Frm
  | 0, f => f
  | n + 1, f => nx w n (nxt w f)
theorem nx_gap {w : Int} : ∀ (n : Nat) (f : Frm), (nx w n f).gap = f.gap
  | 0, _ => rfl
  | n + 1, f => (nx_gap n _).trans nxt_gap
theorem nx_red {D : Int} (hD : Dn D) : ∀ (n : Nat) {f : Frm}, f.gap = D → isRed (wN D) f = true → isRed (wN D) (nx (wN D) n f) = true
  | 0, _, _, h => h
  | n + 1, f, hf, h => nx_red hD n (nxt_gap.trans hf) (nxt_red hD hf h)
theorem riv_ring {D : Int} (hD : Dn D) : ∀ (n : Nat) {f x : Frm}, f.gap = D → isRed (wN D) f = true → isRed (wN D) x = true → (x = Rn n (pl f) ∨ x = Sf (Rn n (pl f))) → ∃ j, x = nx (wN D) j f := by
  intro n
  induction n using Nat.strongRecOn with
  | ind n ih =>
    intro f x hf rf rx h
    obtain ⟨k, k1, k2, k3⟩ := fan hD hf rf
    rcases Nat.eq_zero_or_pos n with z | z
    · subst z
      refine ⟨0, ?_⟩
      have hb := (rdd_iff.mp rf).1
      have hx := (rdd_iff.mp rx).1
      have back : x = f ∨ x = Sf f := by
        have h0 : Rn 0 (pl f) = pl f := rfl
        rw [h0] at h
        rcases h with h | h
        · rcases pl_back f with e | e
          · rw [← e] at h; exact .inl h
          · right
            have e9 : Sf f = Sf (Sf (pl f)) := congrArg Sf e
            rw [Sf_Sf] at e9
            rw [h, e9]
        · rcases pl_back f with e | e
          · rw [← e] at h; exact .inr h
          · rw [← e] at h; exact .inl h
      rcases back with e | e
      · exact e
      · exfalso
        rw [e] at hx
        have : (Sf f).b = -f.b := rfl
        omega
    · rcases Nat.lt_or_ge n k with y | y
      · exfalso
        obtain ⟨q1, q2⟩ := k3 n z y
        rcases h with h | h
        · rw [h] at rx; exact q1 rx
        · rw [h] at rx; exact q2 rx
      · have e : Rn n (pl f) = Rn (n - k) (pl (nxt (wN D) f)) := by
          rw [← k2, Rn_add, show n - k + k = n by omega]
        rw [e] at h
        obtain ⟨j, hj⟩ := ih (n - k) (by omega) (nxt_gap.trans hf) (nxt_red hD hf rf) rx h
        exact ⟨j + 1, hj⟩
/-- reduced forms of one class stand in one ring -/
theorem ring_eqv {D : Int} (hD : Dn D) {f g : Frm} (hf : f.gap = D) (rf : isRed (wN D) f = true) (rg : isRed (wN D) g = true) {u : Chg} (hu : u.det = 1) (e : g = f.act u) : (∃ j, g = nx (wN D) j f) ∨ ∃ j, f = nx (wN D) j g := by
  have hg : g.gap = D := by rw [e, gap_act, hu, hf]; omega
  rcases pl_eqv hD hf (red_riv hD hf rf).1 (red_riv hD hg rg).1 hu e with ⟨n, k⟩ | ⟨n, k⟩
  · left
    refine riv_ring hD n hf rf rg ?_
    rw [← k]
    exact pl_back g
  · right
    refine riv_ring hD n hg rg rf ?_
    rw [← k]
    exact pl_back f
end K14
/-! A finite commutative group, as a list. -/
namespace GRP
variable {α : Type} [DecidableEq α]
structure Grp (L : List α) (op : α → α → α) (e : α) : Prop where
  nodup : L.Nodup
  me : e ∈ L
  cl : ∀ x ∈ L, ∀ y ∈ L, op x y ∈ L
  assoc : ∀ x ∈ L, ∀ y ∈ L, ∀ z ∈ L, op (op x y) z = op x (op y z)
  comm : ∀ x ∈ L, ∀ y ∈ L, op x y = op y x
  one : ∀ x ∈ L, op e x = x
  inv : ∀ x ∈ L, ∃ y ∈ L, op x y = e
def pw (op : α → α → α) (e x : α) : Nat → α
  | 0 => e
  | k + 1 => op (pw op e x k) x
theorem subset_len : ∀ {O L : List α}, O.Nodup → (∀ x ∈ O, x ∈ L) → O.length ≤ L.length
  | [], L, _, _ => Nat.zero_le _
  | x :: O, L, hn, hs => by
    have hx := hs x List.mem_cons_self
    rw [List.nodup_cons] at hn
    have := subset_len (O := O) (L := L.erase x) hn.2 fun y hy => by
      have : y ≠ x := fun z => hn.1 (z ▸ hy)
      exact (List.mem_erase_of_ne this).mpr (hs y (List.mem_cons_of_mem _ hy))
    rw [List.length_erase_of_mem hx] at this
    have : 0 < L.length := List.length_pos_of_mem hx
    rw [List.length_cons]
    omega
variable {L : List α} {op : α → α → α} {e x y z : α}
theorem Grp.pm (G : Grp L op e) (hx : x ∈ L) : ∀ k, pw op e x k ∈ L
  | 0 => G.me
  | k + 1 => G.cl _ (G.pm hx k) _ hx
theorem Grp.cancel (G : Grp L op e) (hx : x ∈ L) (hy : y ∈ L) (hz : z ∈ L) (h : op x z = op y z) : x = y := by
  obtain ⟨w, hw, e1⟩ := G.inv z hz
  have h1 := G.assoc x hx z hz w hw
  have h2 := G.assoc y hy z hz w hw
  rw [h, h2, e1, G.comm y hy e G.me, G.one y hy, G.comm x hx e G.me, G.one x hx] at h1
  exact h1.symm
theorem Grp.pw_add (G : Grp L op e) (hx : x ∈ L) (i : Nat) : ∀ j, pw op e x (i + j) = op (pw op e x i) (pw op e x j)
  | 0 => by
    show pw op e x i = op _ e
    rw [G.comm _ (G.pm hx i) e G.me, G.one _ (G.pm hx i)]
  | j + 1 => by
    show op (pw op e x (i + j)) x = op _ (op _ x)
    rw [G.pw_add hx i j, G.assoc _ (G.pm hx i) _ (G.pm hx j) _ hx]
theorem nodup_map_range {f : Nat → α} : ∀ {n : Nat}, (∀ i j, i < j → j < n → f i ≠ f j) → ((List.range n).map f).Nodup := by
  intro n h
  rw [List.nodup_iff_pairwise_ne, List.pairwise_map]
  refine List.Pairwise.imp_of_mem (R := (· < ·)) (fun {a b} ha hb hab => h a b hab (List.mem_range.mp hb)) List.pairwise_lt_range
/-- some power is that of 1 -/
theorem Grp.some_order (G : Grp L op e) (hx : x ∈ L) : ∃ k, 1 ≤ k ∧ k ≤ L.length ∧ pw op e x k = e := by
  by_cases h : ∀ i j, i < j → j < L.length + 1 → pw op e x i ≠ pw op e x j
  · exfalso
    have := subset_len (nodup_map_range h) (L := L) fun y hy => by
      obtain ⟨i, _, rfl⟩ := List.mem_map.mp hy
      exact G.pm hx i
    rw [List.length_map, List.length_range] at this
    omega
  · have ⟨i, h⟩ := Classical.not_forall.mp h
    have ⟨j, h⟩ := Classical.not_forall.mp h
    have ⟨h1, h⟩ := Classical.not_forall.mp h
    have ⟨h2, h⟩ := Classical.not_forall.mp h
    have h := Classical.not_not.mp h
    refine ⟨j - i, by omega, by omega, ?_⟩
    have e1 := G.pw_add hx (j - i) i
    rw [show j - i + i = j by omega, ← h] at e1
    have e2 : pw op e x i = op e (pw op e x i) := (G.one _ (G.pm hx i)).symm
    rw [e2] at e1
    exact (G.cancel G.me (G.pm hx _) (G.pm hx i) (by rw [G.one _ (G.pm hx i)] at e1 ⊢; exact e1)).symm
theorem filter_len {O : List α} : ∀ {L : List α}, L.Nodup → O.Nodup → (∀ x ∈ O, x ∈ L) → (L.filter fun x => decide (x ∉ O)).length + O.length = L.length := by
  intro L hL hO hs
  have h1 : (L.filter fun x => decide (x ∈ O)).length = O.length := by
    apply Nat.le_antisymm
    · exact subset_len (hL.filter _) fun x hx => of_decide_eq_true (List.mem_filter.mp hx).2
    · exact subset_len hO fun x hx => List.mem_filter.mpr ⟨hs x hx, decide_eq_true hx⟩
  have h2 : (L.filter fun x => decide (x ∈ O)).length + (L.filter fun x => decide (x ∉ O)).length = L.length := by
    clear hL hs h1
    induction L with
    | nil => rfl
    | cons a L ih =>
      rw [List.filter_cons, List.filter_cons]
      by_cases h : a ∈ O
      · simp only [h, decide_true, if_true, not_true, decide_false, Bool.false_eq_true, if_false, List.length_cons]; omega
      · simp only [h, decide_true, if_true, not_false_eq_true, decide_false, Bool.false_eq_true, if_false, List.length_cons]; omega
  omega
/-- walks of one length fill the list -/
theorem rounds {T : α → α} {d : Nat} (hd : 1 ≤ d) : ∀ (n : Nat) (L : List α), L.length = n → L.Nodup → (∀ x ∈ L, T x ∈ L) → (∀ x ∈ L, ∀ y ∈ L, T x = T y → x = y) →
    (∀ x ∈ L, (Nat.repeat T d x) = x) → (∀ x ∈ L, ∀ k, 1 ≤ k → k < d → Nat.repeat T k x ≠ x) → d ∣ n := by
  intro n
  induction n using Nat.strongRecOn with
  | ind n ih =>
    intro L hn hL hT hi hp hf
    cases hLc : L with
    | nil => rw [hLc] at hn; rw [← hn]; exact Nat.dvd_zero d
    | cons x R =>
      have hx : x ∈ L := by rw [hLc]; exact List.mem_cons_self
      have hm : ∀ k, Nat.repeat T k x ∈ L := fun k => by
        induction k with
        | zero => exact hx
        | succ k ihk => exact hT _ ihk
      have back : ∀ i j, i ≤ j → Nat.repeat T i x = Nat.repeat T j x → Nat.repeat T (j - i) x = x := by
        intro i
        induction i with
        | zero => intro j _ h; exact h.symm
        | succ i ihi =>
          intro j hj h
          obtain ⟨j, rfl⟩ : ∃ j', j = j' + 1 := ⟨j - 1, by omega⟩
          have := ihi j (by omega) (hi _ (hm i) _ (hm j) h)
          rwa [show j + 1 - (i + 1) = j - i by omega]
      have hO : ((List.range d).map fun k => Nat.repeat T k x).Nodup := nodup_map_range fun i j hij hj h => hf x hx (j - i) (by omega) (by omega) (back i j (by omega) h)
      generalize hOd : ((List.range d).map fun k => Nat.repeat T k x) = O at hO
      have mO : ∀ y, y ∈ O ↔ ∃ k, k < d ∧ Nat.repeat T k x = y := fun y => by
        rw [← hOd, List.mem_map]
        exact ⟨fun ⟨k, h1, h2⟩ => ⟨k, List.mem_range.mp h1, h2⟩, fun ⟨k, h1, h2⟩ => ⟨k, List.mem_range.mpr h1, h2⟩⟩
      have lO : O.length = d := by rw [← hOd, List.length_map, List.length_range]
      have hs : ∀ y ∈ O, y ∈ L := fun y hy => by
        obtain ⟨k, _, rfl⟩ := (mO y).mp hy
        exact hm k
      have hlen := filter_len hL hO hs
      have sub : ∀ y, y ∈ (L.filter fun x => decide (x ∉ O)) → y ∈ L ∧ y ∉ O := fun y hy => ⟨(List.mem_filter.mp hy).1, of_decide_eq_true (List.mem_filter.mp hy).2⟩
      have dv := ih (L.filter fun x => decide (x ∉ O)).length (by omega) _ rfl (hL.filter _) (fun y hy => by
        obtain ⟨h1, h2⟩ := sub y hy
        refine List.mem_filter.mpr ⟨hT y h1, decide_eq_true fun z => h2 ?_⟩
        obtain ⟨k, hk, ek⟩ := (mO _).mp z
        cases k with
        | zero =>
          have : y = Nat.repeat T (d - 1) x := by
            refine hi _ h1 _ (hm _) ?_
            have e1 := hp x hx
            rw [show d = d - 1 + 1 by omega] at e1
            exact ek.symm.trans e1.symm
          exact (mO y).mpr ⟨d - 1, by omega, this.symm⟩
        | succ k =>
          exact (mO y).mpr ⟨k, by omega, hi _ (hm k) _ h1 ek⟩) (fun y hy z hz h => hi y (sub y hy).1 z (sub z hz).1 h) (fun y hy => hp y (sub y hy).1) (fun y hy => hf y (sub y hy).1)
      have : n = (L.filter fun x => decide (x ∉ O)).length + d := by omega
      rw [this]
      exact Nat.dvd_add dv (Nat.dvd_refl d)
/-- Lagrange -/
theorem Grp.divides (G : Grp L op e) (hx : x ∈ L) {d : Nat} (hd : 1 ≤ d) (h1 : pw op e x d = e) (h2 : ∀ k, 1 ≤ k → k < d → pw op e x k ≠ e) : d ∣ L.length := by
  have hr : ∀ y ∈ L, ∀ k, Nat.repeat (fun z => op z x) k y = op y (pw op e x k) := by
    intro y hy k
    induction k with
    | zero => show y = op y e; rw [G.comm y hy e G.me, G.one y hy]
    | succ k ih => show op (Nat.repeat _ k y) x = op y (op _ x); rw [ih, G.assoc y hy _ (G.pm hx k) x hx]
  refine rounds (T := fun z => op z x) hd L.length L rfl G.nodup (fun y hy => G.cl y hy x hx) (fun y hy z hz h => G.cancel hy hz hx h) (fun y hy => ?_) (fun y hy k hk hk2 h => ?_)
  · rw [hr y hy, h1, G.comm y hy e G.me, G.one y hy]
  · rw [hr y hy, G.comm y hy _ (G.pm hx k)] at h
    have e1 : op (pw op e x k) y = op e y := by rw [h, G.one y hy]
    exact h2 k hk hk2 (G.cancel (G.pm hx k) G.me hy e1)
end GRP
/-! A finite commutative group, part B: squares; fibres. -/
namespace GRP
variable {α β : Type} [DecidableEq α] [DecidableEq β]
def fib (L : List α) (q : α → β) (s : β) : List α := L.filter fun x => decide (q x = s)
theorem mem_fib {L : List α} {q : α → β} {s : β} {x : α} : x ∈ fib L q s ↔ x ∈ L ∧ q x = s := by
  unfold fib
  rw [List.mem_filter, decide_eq_true_eq]
theorem sum_add (S : List β) (f g : β → Nat) : (S.map fun s => f s + g s).sum = (S.map f).sum + (S.map g).sum := by
  induction S with
  | nil => rfl
  | cons a S ih => simp only [List.map_cons, List.sum_cons, ih]; omega
theorem sum_one {S : List β} (hn : S.Nodup) {b : β} (hb : b ∈ S) : (S.map fun s => if b = s then 1 else 0).sum = 1 := by
  induction S with
  | nil => exact nomatch hb
  | cons a S ih =>
    rw [List.nodup_cons] at hn
    rw [List.map_cons, List.sum_cons]
    by_cases h : b = a
    · subst h
      rw [if_pos rfl]
      have : (S.map fun s => if b = s then 1 else 0) = S.map fun _ => 0 := List.map_congr_left fun s hs => if_neg (fun z : b = s => hn.1 (z ▸ hs))
      rw [this]
      have z : ∀ S : List β, (S.map fun _ => 0).sum = 0 := fun S => by
        induction S with
        | nil => rfl
        | cons _ S ih => simp only [List.map_cons, List.sum_cons, ih]
      rw [z]
    · rw [if_neg h, Nat.zero_add]
      rcases List.mem_cons.mp hb with z | z
      · exact absurd z h
      · exact ih hn.2 z
/-- all are in the fibres -/
theorem fib_sum {q : α → β} {S : List β} (hn : S.Nodup) : ∀ {L : List α}, (∀ x ∈ L, q x ∈ S) → (S.map fun s => (fib L q s).length).sum = L.length
  | [], _ => by
    have z : ∀ S : List β, (S.map fun _ => 0).sum = 0 := fun S => by
      induction S with
      | nil => rfl
      | cons _ S ih => simp only [List.map_cons, List.sum_cons, ih]
    exact z S
  | x :: L, h => by
    have ih := fib_sum hn (q := q) (S := S) (L := L) fun y hy => h y (List.mem_cons_of_mem _ hy)
    have e : (S.map fun s => (fib (x :: L) q s).length) = S.map fun s => (if q x = s then 1 else 0) + (fib L q s).length := List.map_congr_left fun s _ => by
      unfold fib
      rw [List.filter_cons]
      by_cases z : q x = s
      · simp only [z, decide_true, if_true, List.length_cons]; omega
      · simp only [z, decide_false, Bool.false_eq_true, if_false]; omega
    rw [e, sum_add, sum_one hn (h x List.mem_cons_self), ih, List.length_cons]
    omega
theorem sum_const {S : List β} {f : β → Nat} {c : Nat} (h : ∀ s ∈ S, f s = c) : (S.map f).sum = S.length * c := by
  induction S with
  | nil => simp
  | cons a S ih =>
    rw [List.map_cons, List.sum_cons, h a List.mem_cons_self, ih fun s hs => h s (List.mem_cons_of_mem _ hs), List.length_cons, Nat.succ_mul]
    omega
variable {L : List α} {op : α → α → α} {e x y z : α}
theorem map_len {γ : Type} [DecidableEq γ] {A : List α} {B : List γ} (hA : A.Nodup) {f : α → γ} (h1 : ∀ x ∈ A, f x ∈ B) (h2 : ∀ x ∈ A, ∀ y ∈ A, f x = f y → x = y) : A.length ≤ B.length := by
  have hn : (A.map f).Nodup := by
    rw [List.nodup_iff_pairwise_ne, List.pairwise_map]
    exact List.Pairwise.imp_of_mem (R := (· ≠ ·)) (fun {a b} ha hb hab z => hab (h2 a ha b hb z)) hA
  have := subset_len hn (L := B) fun y hy => by
    obtain ⟨x, hx, rfl⟩ := List.mem_map.mp hy
    exact h1 x hx
  rwa [List.length_map] at this
/-- as many square roots as roots of 1 -/
theorem Grp.roots (G : Grp L op e) (hy : y ∈ L) : (fib L (fun x => op x x) (op y y)).length = (fib L (fun x => op x x) e).length := by
  obtain ⟨w, hw, e1⟩ := G.inv y hy
  have swap : ∀ a b, a ∈ L → b ∈ L → op (op a b) (op a b) = op (op a a) (op b b) := fun a b ha hb => by
    rw [G.assoc a ha b hb (op a b) (G.cl a ha b hb), ← G.assoc b hb a ha b hb, G.comm b hb a ha, G.assoc a ha b hb b hb, ← G.assoc a ha a ha (op b b) (G.cl b hb b hb)]
  have er : ∀ a ∈ L, op a e = a := fun a ha => by rw [G.comm a ha e G.me, G.one a ha]
  have e2 : op (op y y) (op w w) = e := by rw [← swap y w hy hw, e1, G.one e G.me]
  have nd : ∀ s, (fib L (fun x => op x x) s).Nodup := fun s => G.nodup.filter _
  apply Nat.le_antisymm
  · refine map_len (nd _) (f := fun x => op w x) (fun x hx => ?_) fun a ha b hb h => ?_
    · obtain ⟨hx, h⟩ := mem_fib.mp hx
      refine mem_fib.mpr ⟨G.cl w hw x hx, ?_⟩
      show op (op w x) (op w x) = e
      rw [swap w x hw hx, h, G.comm _ (G.cl w hw w hw) _ (G.cl y hy y hy), e2]
    · have ha := (mem_fib.mp ha).1
      have hb := (mem_fib.mp hb).1
      exact G.cancel ha hb hw (by rw [G.comm a ha w hw, G.comm b hb w hw]; exact h)
  · refine map_len (nd _) (f := fun x => op y x) (fun x hx => ?_) fun a ha b hb h => ?_
    · obtain ⟨hx, h⟩ := mem_fib.mp hx
      refine mem_fib.mpr ⟨G.cl y hy x hx, ?_⟩
      show op (op y x) (op y x) = op y y
      rw [swap y x hy hx, h, er _ (G.cl y hy y hy)]
    · have ha := (mem_fib.mp ha).1
      have hb := (mem_fib.mp hb).1
      exact G.cancel ha hb hy (by rw [G.comm a ha y hy, G.comm b hb y hy]; exact h)
def sqs (L : List α) (op : α → α → α) : List α := L.filter fun s => L.any fun y => decide (op y y = s)
theorem mem_sqs {s : α} : s ∈ sqs L op ↔ s ∈ L ∧ ∃ y ∈ L, op y y = s := by
  unfold sqs
  rw [List.mem_filter, List.any_eq_true]
  simp only [decide_eq_true_eq]
theorem Grp.squares (G : Grp L op e) : (sqs L op).length * (fib L (fun x => op x x) e).length = L.length := by
  have h := fib_sum (q := fun x => op x x) (S := sqs L op) (G.nodup.filter _) (L := L) fun x hx => mem_sqs.mpr ⟨G.cl x hx x hx, x, hx, rfl⟩
  rw [sum_const (c := (fib L (fun x => op x x) e).length) fun s hs => by
    obtain ⟨_, y, hy, rfl⟩ := mem_sqs.mp hs
    exact G.roots hy] at h
  exact h
end GRP
/-! k14, part C4: the reduced forms; rings as lists. -/
namespace K14
open PySem DL
instance : DecidableEq Frm := fun f g => if h : f.a = g.a ∧ f.b = g.b ∧ f.c = g.c then .isTrue (Frm.ext h.1 h.2.1 h.2.2) else .isFalse fun e => h (by rw [e]; exact ⟨rfl, rfl, rfl⟩)
def two2 (a b r : Int) : List Frm := [⟨a, b, 0 - r / a⟩, ⟨0 - a, b, r / a⟩]
def withM (w b r : Int) : List Frm := (rgI 1 r.toNat).flatMap fun a => if r % a = 0 then (two2 a b r).filter (isRed w) else []
def allF (D : Int) : List Frm := (rgI 1 (wN D)).flatMap fun b => if (b * b - D) % 4 = 0 then withM (wN D) b ((D - b * b) / 4) else []
theorem mem_withM {w b r : Int} {x : Frm} : x ∈ withM w b r ↔ ∃ a : Int, 1 ≤ a ∧ a < 1 + (r.toNat : Int) ∧ r % a = 0 ∧ x ∈ two2 a b r ∧ isRed w x = true := by
  unfold withM
  rw [List.mem_flatMap]
  constructor
  · rintro ⟨a, ha, h⟩
    have hb := mem_rgI.mp ha
    by_cases e : r % a = 0
    · rw [if_pos e, List.mem_filter] at h
      exact ⟨a, hb.1, hb.2, e, h.1, h.2⟩
    · rw [if_neg e] at h; exact nomatch h
  · rintro ⟨a, h1, h2, h3, h4, h5⟩
    exact ⟨a, mem_rgI.mpr ⟨h1, h2⟩, by rw [if_pos h3, List.mem_filter]; exact ⟨h4, h5⟩⟩
theorem two2_gap {a b r D : Int} {x : Frm} (ha : 1 ≤ a) (h : r % a = 0) (hr : 4 * r = D - b * b) (hx : x ∈ two2 a b r) : x.gap = D ∧ x.b = b ∧ ab' x.a = a := by
  have e := Int.mul_ediv_add_emod r a
  rw [h] at e
  unfold two2 at hx
  have h2 : ∀ q : Int, a * q + 0 = r → a * q = r := fun q z => by omega
  rcases List.mem_cons.mp hx with rfl | hx
  · refine ⟨?_, rfl, by show ab' a = a; unfold ab'; rw [if_neg (by omega)]⟩
    show b * b - 4 * a * (0 - r / a) = D
    generalize r / a = q at *
    have := h2 q e
    grind
  · rcases List.mem_cons.mp hx with rfl | hx
    · refine ⟨?_, rfl, by show ab' (0 - a) = a; unfold ab'; rw [if_pos (by omega)]; omega⟩
      show b * b - 4 * (0 - a) * (r / a) = D
      generalize r / a = q at *
      have := h2 q e
      grind
    · exact nomatch hx
theorem mem_allF {D : Int} (hD : Dn D) {x : Frm} : x ∈ allF D ↔ x.gap = D ∧ isRed (wN D) x = true := by
  unfold allF
  rw [List.mem_flatMap]
  constructor
  · rintro ⟨b, hb, h⟩
    have hb := mem_rgI.mp hb
    by_cases e : (b * b - D) % 4 = 0
    · rw [if_pos e] at h
      obtain ⟨a, a1, a2, a3, a4, a5⟩ := mem_withM.mp h
      exact ⟨(two2_gap a1 a3 (by omega) a4).1, a5⟩
    · rw [if_neg e] at h; exact nomatch h
  · rintro ⟨hg, rx⟩
    obtain ⟨h1, h2, h3, h4⟩ := rdd_iff.mp rx
    obtain ⟨hr, e⟩ := red_riv hD hg rx
    have eg := gap_eq hg
    have hw := hD.wlo
    refine ⟨x.b, mem_rgI.mpr ⟨by omega, by omega⟩, ?_⟩
    have e4 : x.b * x.b - D = 4 * (x.a * x.c) := by grind
    rw [if_pos (by rw [e4]; exact Int.mul_emod_right _ _)]
    have ha := ab_pos (hD.a_ne hg)
    have hc := ab_pos (hD.c_ne hg)
    have er : (D - x.b * x.b) / 4 = ab' x.a * ab' x.c := by
      rw [← e]; exact Int.mul_ediv_cancel_left _ (by omega)
    rw [er]
    refine mem_withM.mpr ⟨ab' x.a, ha, ?_, Int.mul_emod_right _ _, ?_, rx⟩
    · have := Int.mul_le_mul_of_nonneg_left hc (show 0 ≤ ab' x.a by omega)
      omega
    · have eq : ab' x.a * ab' x.c / ab' x.a = ab' x.c := Int.mul_ediv_cancel_left _ (by omega)
      unfold two2
      rw [eq]
      unfold Riv at hr
      rcases hr with ⟨r1, r2⟩ | ⟨r1, r2⟩
      · refine List.mem_cons.mpr (.inl (Frm.ext ?_ rfl ?_))
        · unfold ab'; rw [if_neg (by omega)]
        · show x.c = 0 - ab' x.c; unfold ab'; rw [if_pos r2]; omega
      · refine List.mem_cons.mpr (.inr (List.mem_cons.mpr (.inl (Frm.ext ?_ rfl ?_))))
        · show x.a = 0 - ab' x.a; unfold ab'; rw [if_pos r1]; omega
        · show x.c = ab' x.c; unfold ab'; rw [if_neg (by omega)]
theorem rgI_nodup {lo : Int} {k : Nat} : (rgI lo k).Nodup := by
  rw [List.nodup_iff_pairwise_ne]
  exact rgI_lt.imp fun h => by omega
theorem nodup_flatMap {α β : Type} {l : List α} {f : α → List β} (hn : l.Nodup) (h1 : ∀ x ∈ l, (f x).Nodup) (h2 : ∀ x ∈ l, ∀ y ∈ l, ∀ z, z ∈ f x → z ∈ f y → x = y) : (l.flatMap f).Nodup := by
  induction l with
  | nil => exact List.nodup_nil
  | cons a l ih =>
    rw [List.nodup_cons] at hn
    rw [List.flatMap_cons, List.nodup_append]
    refine ⟨h1 a List.mem_cons_self, ih hn.2 (fun x hx => h1 x (List.mem_cons_of_mem _ hx)) (fun x hx y hy => h2 x (List.mem_cons_of_mem _ hx) y (List.mem_cons_of_mem _ hy)), fun z hz y hy e => ?_⟩
    subst e
    obtain ⟨x, hx, hxz⟩ := List.mem_flatMap.mp hy
    have := h2 a List.mem_cons_self x (List.mem_cons_of_mem _ hx) z hz hxz
    subst this
    exact hn.1 hx
theorem withM_nodup {w b r : Int} : (withM w b r).Nodup := by
  unfold withM
  refine nodup_flatMap rgI_nodup (fun a ha => ?_) fun a ha a' ha' z hz hz' => ?_
  · have := mem_rgI.mp ha
    split
    · refine List.Nodup.sublist List.filter_sublist ?_
      unfold two2
      rw [List.nodup_cons]
      refine ⟨?_, by simp⟩
      intro h
      have h := List.mem_singleton.mp h
      injection h with h
      omega
    · exact List.nodup_nil
  · have k1 := mem_rgI.mp ha
    have k2 := mem_rgI.mp ha'
    have key : ∀ a : Int, 1 ≤ a → z ∈ (if r % a = 0 then (two2 a b r).filter (isRed w) else []) → ab' z.a = a := by
      intro a h1 h
      split at h
      · have h := (List.mem_filter.mp h).1
        unfold two2 at h
        rcases List.mem_cons.mp h with rfl | h
        · show ab' a = a; unfold ab'; rw [if_neg (by omega)]
        · rcases List.mem_cons.mp h with rfl | h
          · show ab' (0 - a) = a; unfold ab'; rw [if_pos (by omega)]; omega
          · exact nomatch h
      · exact nomatch h
    rw [← key a k1.1 hz, ← key a' k2.1 hz']
theorem withM_b {w b r : Int} {z : Frm} (h : z ∈ withM w b r) : z.b = b := by
  obtain ⟨a, _, _, _, h, _⟩ := mem_withM.mp h
  unfold two2 at h
  rcases List.mem_cons.mp h with rfl | h
  · rfl
  · rcases List.mem_cons.mp h with rfl | h
    · rfl
    · exact nomatch h
theorem allF_nodup {D : Int} : (allF D).Nodup := by
  unfold allF
  refine nodup_flatMap rgI_nodup (fun b _ => ?_) fun b hb b' hb' z hz hz' => ?_
  · split
    · exact withM_nodup
    · exact List.nodup_nil
  · split at hz
    · split at hz'
      · rw [← withM_b hz, ← withM_b hz']
      · exact nomatch hz'
    · exact nomatch hz
theorem allF_len {D : Int} (hD : Dn D) : (allF D).length ≤ 1500 := by
  have hw := wN_le (D := D)
  let B : List (Int × Int) := (rgI (-26) 53).flatMap fun a => (rgI 1 26).map fun b => (a, b)
  have hB : B.length = 1378 := by decide +kernel
  have := GRP.map_len (A := allF D) (B := B) allF_nodup (f := fun x => (x.a, x.b)) (fun x hx => by
    obtain ⟨_, rx⟩ := (mem_allF hD).mp hx
    obtain ⟨h1, h2, h3, h4⟩ := rdd_iff.mp rx
    have := ab_le (show ab' x.a ≤ 26 by omega)
    refine List.mem_flatMap.mpr ⟨x.a, mem_rgI.mpr ⟨by omega, by omega⟩, List.mem_map.mpr ⟨x.b, mem_rgI.mpr ⟨by omega, by omega⟩, rfl⟩⟩) fun x hx y hy e => by
      obtain ⟨g1, _⟩ := (mem_allF hD).mp hx
      obtain ⟨g2, _⟩ := (mem_allF hD).mp hy
      have ea : x.a = y.a := congrArg Prod.fst e
      have eb : x.b = y.b := congrArg Prod.snd e
      have e1 := gap_eq g1
      have e2 := gap_eq g2
      have hy := hD.a_ne g2
      rw [ea, eb] at e1
      have e3 : y.a * x.c = y.a * y.c := by grind
      exact Frm.ext ea eb (Int.eq_of_mul_eq_mul_left hy e3)
  omega
/-! the length of a ring -/
theorem nx_add {w : Int} : ∀ (m n : Nat) (f : Frm), nx w (m + n) f = nx w n (nx w m f)
  | 0, n, f => by rw [Nat.zero_add]; rfl
  | m + 1, n, f => by
    rw [Nat.add_right_comm]
    exact nx_add m n (nxt w f)
theorem nx_inj {D : Int} (hD : Dn D) : ∀ (n : Nat) {f g : Frm}, f.gap = D → g.gap = D → isRed (wN D) f = true → isRed (wN D) g = true → nx (wN D) n f = nx (wN D) n g → f = g
  | 0, _, _, _, _, _, _, e => e
  | n + 1, _, _, hf, hg, rf, rg, e => nxt_inj hD hf hg rf rg (nx_inj hD n (nxt_gap.trans hf) (nxt_gap.trans hg) (nxt_red hD hf rf) (nxt_red hD hg rg) e)
structure Per (w : Int) (s : Frm) (m : Nat) : Prop where
  pos : 1 ≤ m
  back : nx w m s = s
  first : ∀ i, 1 ≤ i → i < m → nx w i s ≠ s
theorem Per.uniq {w : Int} {s : Frm} {m n : Nat} (h : Per w s m) (k : Per w s n) : m = n := by
  rcases Nat.lt_trichotomy m n with z | z | z
  · exact absurd h.back (k.first m h.pos z)
  · exact z
  · exact absurd k.back (h.first n k.pos z)
theorem per_ex {D : Int} (hD : Dn D) {s : Frm} (hs : s.gap = D) (rs : isRed (wN D) s = true) : ∃ m, m ≤ (allF D).length ∧ Per (wN D) s m := by
  have some : ∃ m, 1 ≤ m ∧ m ≤ (allF D).length ∧ nx (wN D) m s = s := by
    apply Classical.byContradiction
    intro hno
    have dist : ∀ i j : Nat, i < j → j ≤ (allF D).length → nx (wN D) i s ≠ nx (wN D) j s := by
      intro i j hij hj e
      apply hno
      refine ⟨j - i, by omega, by omega, ?_⟩
      have e2 : nx (wN D) j s = nx (wN D) i (nx (wN D) (j - i) s) := by rw [← nx_add, show j - i + i = j by omega]
      rw [e2] at e
      exact (nx_inj hD i hs ((nx_gap _ _).trans hs) rs (nx_red hD _ hs rs) e).symm
    have := GRP.map_len (A := List.range ((allF D).length + 1)) (B := allF D) List.nodup_range (f := fun i => nx (wN D) i s) (fun i _ => (mem_allF hD).mpr ⟨(nx_gap _ _).trans hs, nx_red hD _ hs rs⟩) fun i hi j hj e => by
      have hi := List.mem_range.mp hi
      have hj := List.mem_range.mp hj
      rcases Nat.lt_trichotomy i j with z | z | z
      · exact absurd e (dist i j z (by omega))
      · exact z
      · exact absurd e.symm (dist j i z (by omega))
    rw [List.length_range] at this
    omega
  obtain ⟨m, m1, m2, m3⟩ := some
  clear hs rs
  induction m using Nat.strongRecOn with
  | ind m ih =>
    by_cases h : ∀ i, 1 ≤ i → i < m → nx (wN D) i s ≠ s
    · exact ⟨m, m2, m1, m3, h⟩
    · have ⟨i, h⟩ := Classical.not_forall.mp h
      have ⟨h1, h⟩ := Classical.not_forall.mp h
      have ⟨h2, h⟩ := Classical.not_forall.mp h
      exact ih i h2 h1 (by omega) (Classical.not_not.mp h)
open Classical in
noncomputable def per (w : Int) (s : Frm) : Nat := if h : ∃ m, Per w s m then Classical.choose h else 1
theorem per_is {w : Int} {s : Frm} {m : Nat} (h : Per w s m) : per w s = m := by
  unfold per
  rw [dif_pos ⟨m, h⟩]
  exact (Classical.choose_spec (⟨m, h⟩ : ∃ m, Per w s m)).uniq h
theorem per_ok {D : Int} (hD : Dn D) {s : Frm} (hs : s.gap = D) (rs : isRed (wN D) s = true) : Per (wN D) s (per (wN D) s) ∧ per (wN D) s ≤ (allF D).length := by
  obtain ⟨m, h1, h2⟩ := per_ex hD hs rs
  rw [per_is h2]
  exact ⟨h2, h1⟩
/-- the ring from a form on -/
def RL (w : Int) (s : Frm) (m : Nat) : List Frm := (List.range m).map fun i => nx w i s
theorem RL_len {w : Int} {s : Frm} {m : Nat} : (RL w s m).length = m := by simp [RL]
theorem RL_at {w : Int} {s : Frm} {m i : Nat} (h : i < m) : (RL w s m)[i]? = some (nx w i s) := by simp [RL, h]
theorem Per.mul {w : Int} {s : Frm} {m : Nat} (h : nx w m s = s) : ∀ k : Nat, nx w (m * k) s = s
  | 0 => rfl
  | k + 1 => by rw [Nat.mul_succ, nx_add, Per.mul h k, h]
theorem Per.mod {w : Int} {s : Frm} {m : Nat} (h : nx w m s = s) (j : Nat) : nx w j s = nx w (j % m) s := by
  have e := Nat.div_add_mod j m
  rw [← e, nx_add, Per.mul h, Nat.mul_add_mod, Nat.mod_mod]
theorem mem_RL {w : Int} {s x : Frm} {m : Nat} (h : Per w s m) : x ∈ RL w s m ↔ ∃ j, x = nx w j s := by
  unfold RL
  rw [List.mem_map]
  constructor
  · rintro ⟨i, _, e⟩; exact ⟨i, e.symm⟩
  · rintro ⟨j, e⟩
    exact ⟨j % m, List.mem_range.mpr (Nat.mod_lt _ h.pos), by rw [e]; exact (Per.mod h.back j).symm⟩
theorem RL_nodup {D : Int} (hD : Dn D) {s : Frm} (hs : s.gap = D) (rs : isRed (wN D) s = true) {m : Nat} (h : Per (wN D) s m) : (RL (wN D) s m).Nodup := by
  unfold RL
  rw [List.nodup_iff_pairwise_ne, List.pairwise_map]
  refine (List.pairwise_lt_range (n := m)).imp_of_mem fun {i j} hi hj hij e => ?_
  have hj := List.mem_range.mp hj
  have e2 : nx (wN D) j s = nx (wN D) i (nx (wN D) (j - i) s) := by rw [← nx_add, show j - i + i = j by omega]
  rw [e2] at e
  exact h.first (j - i) (by omega) (by omega) (nx_inj hD i hs ((nx_gap _ _).trans hs) rs (nx_red hD _ hs rs) e).symm
/-- the ring from another of its forms on -/
theorem Per.shift {D : Int} (hD : Dn D) {s : Frm} (hs : s.gap = D) (rs : isRed (wN D) s = true) {m : Nat} (h : Per (wN D) s m) (i : Nat) : Per (wN D) (nx (wN D) i s) m := by
  refine ⟨h.pos, by rw [← nx_add, Nat.add_comm, nx_add, h.back], fun j h1 h2 e => ?_⟩
  rw [← nx_add, Nat.add_comm, nx_add] at e
  exact h.first j h1 h2 (nx_inj hD i ((nx_gap _ _).trans hs) hs (nx_red hD _ hs rs) rs e)
theorem RL_rot {w : Int} {s : Frm} {m i : Nat} (hb : nx w m s = s) (hi : i ≤ m) : (RL w s m).drop i ++ (RL w s m).take i = RL w (nx w i s) m := by
  refine List.ext_getElem? fun j => ?_
  by_cases hj : j < m - i
  · rw [List.getElem?_append_left (by rw [List.length_drop, RL_len]; exact hj), List.getElem?_drop, RL_at (by omega), RL_at (by omega), ← nx_add]
  · rw [List.getElem?_append_right (by rw [List.length_drop, RL_len]; omega), List.length_drop, RL_len]
    by_cases hj2 : j < m
    · rw [List.getElem?_take_of_lt (by omega), RL_at (by omega), RL_at hj2, ← nx_add]
      congr 1
      have e : i + j = m + (j - (m - i)) := by omega
      rw [e, nx_add, hb]
    · rw [List.getElem?_eq_none (by rw [List.length_take, RL_len]; omega), List.getElem?_eq_none (by rw [RL_len]; omega)]
end K14
/-! k14, part C5: order of forms; a ring from its least form on. -/
namespace K14
open PySem DL
def ltF (f g : Frm) : Bool := if f.a = g.a then (if f.b = g.b then decide (f.c < g.c) else decide (f.b < g.b)) else decide (f.a < g.a)
def rowF (f : Frm) : List Int := [f.a, f.b, f.c]
theorem eF_row (f : Frm) : eF f = eRow (rowF f) := rfl
theorem dataLt3 (f g : Frm) : PySem.W.dataLt (pRow (rowF f)) (pRow (rowF g)) = ltF f g := by
  unfold pRow rowF
  simp only [List.map_cons, List.map_nil]
  have al : ∀ x y : Int, PySem.W.alike (.int x) (.int y) = true := fun x y => by simp [PySem.W.alike]
  have e0 : PyProof.Rows.lexLt PyProof.Rows.itemOrd (PySem.W.keyToksAll []) (PySem.W.keyToksAll []) = false := by
    simp [PySem.W.keyToksAll, PyProof.Rows.lexLt, PyProof.Rows.itemLt]
  rw [PySem.W.dataLt_tuple, PySem.W.dataLt_cons (al _ _), PySem.W.dataLt_cons (al _ _), PySem.W.dataLt_cons (al _ _), e0, eqv_int, eqv_int, eqv_int, PySem.W.dataLt_int, PySem.W.dataLt_int, PySem.W.dataLt_int]
  unfold ltF
  simp only [beq_iff_eq]
  by_cases h1 : f.a = g.a
  · by_cases h2 : f.b = g.b
    · by_cases h3 : f.c = g.c
      · simp [h1, h2, h3]
      · simp [h1, h2, h3]
    · simp [h1, h2]
  · simp [h1]
theorem ltRow_is (f g : Frm) : ltRow (rowF f) (rowF g) = ltF f g := dataLt3 f g
theorem ltF_tri {f g : Frm} (h1 : ltF f g = false) (h2 : ltF g f = false) : f = g := by
  unfold ltF at h1 h2
  by_cases a : f.a = g.a
  · rw [if_pos a] at h1
    rw [if_pos a.symm] at h2
    by_cases b : f.b = g.b
    · rw [if_pos b, decide_eq_false_iff_not] at h1
      rw [if_pos b.symm, decide_eq_false_iff_not] at h2
      exact Frm.ext a b (by omega)
    · rw [if_neg b, decide_eq_false_iff_not] at h1
      rw [if_neg (Ne.symm b), decide_eq_false_iff_not] at h2
      omega
  · rw [if_neg a, decide_eq_false_iff_not] at h1
    rw [if_neg (Ne.symm a), decide_eq_false_iff_not] at h2
    omega
theorem ltF_irr (f : Frm) : ltF f f = false := by simp [ltF]
theorem ltF_trans {f g h : Frm} (h1 : ltF f g = true) (h2 : ltF h g = false) : ltF f h = true := by
  unfold ltF at *
  by_cases a : f.a = g.a <;> by_cases a2 : h.a = g.a <;> by_cases b : f.b = g.b <;> by_cases b2 : h.b = g.b <;> by_cases a3 : f.a = h.a <;> by_cases b3 : f.b = h.b <;> simp_all <;> omega
theorem ltF_asymm {f g : Frm} (h : ltF f g = true) : ltF g f = false := by
  unfold ltF at *
  by_cases a : f.a = g.a
  · rw [if_pos a] at h
    rw [if_pos a.symm]
    by_cases b : f.b = g.b
    · rw [if_pos b, decide_eq_true_eq] at h
      rw [if_pos b.symm, decide_eq_false_iff_not]
      omega
    · rw [if_neg b, decide_eq_true_eq] at h
      rw [if_neg (Ne.symm b), decide_eq_false_iff_not]
      omega
  · rw [if_neg a, decide_eq_true_eq] at h
    rw [if_neg (Ne.symm a), decide_eq_false_iff_not]
    omega
def minF (x : Frm) (xs : List Frm) : Frm := xs.foldl (fun a y => if ltF y a = true then y else a) x
theorem minRow_is : ∀ (xs : List Frm) (x : Frm), minRow (rowF x) (xs.map rowF) = rowF (minF x xs)
  | [], x => rfl
  | y :: xs, x => by
    unfold minRow minF
    rw [List.map_cons, List.foldl_cons, List.foldl_cons]
    have e : (if ltRow (rowF y) (rowF x) = true then rowF y else rowF x) = rowF (if ltF y x = true then y else x) := by
      rw [ltRow_is]
      split <;> rfl
    rw [e]
    exact minRow_is xs _
theorem minF_le : ∀ (xs : List Frm) (x : Frm), (minF x xs = x ∨ minF x xs ∈ xs) ∧ ∀ y, y = x ∨ y ∈ xs → ltF y (minF x xs) = false
  | [], x => ⟨.inl rfl, fun y h => by
    rcases h with rfl | h
    · exact ltF_irr _
    · exact nomatch h⟩
  | z :: xs, x => by
    have e : minF x (z :: xs) = minF (if ltF z x = true then z else x) xs := rfl
    rw [e]
    obtain ⟨h1, h2⟩ := minF_le xs (if ltF z x = true then z else x)
    constructor
    · rcases h1 with h1 | h1
      · rw [h1]
        split
        · exact .inr List.mem_cons_self
        · exact .inl rfl
      · exact .inr (List.mem_cons_of_mem _ h1)
    · intro y hy
      have hm := h2 (if ltF z x = true then z else x) (.inl rfl)
      have key : ∀ u, ltF u (if ltF z x = true then z else x) = false → ltF u (minF (if ltF z x = true then z else x) xs) = false := by
        intro u hu
        cases hq : ltF u (minF (if ltF z x = true then z else x) xs) with
        | false => rfl
        | true => rw [ltF_trans hq hm] at hu; exact hu.symm ▸ rfl
      by_cases hzx : ltF z x = true
      · rw [if_pos hzx] at key h2 ⊢
        rcases hy with rfl | hy
        · exact key _ (ltF_asymm hzx)
        · rcases List.mem_cons.mp hy with rfl | hy
          · exact h2 _ (.inl rfl)
          · exact h2 _ (.inr hy)
      · rw [if_neg hzx] at key h2 ⊢
        rcases hy with rfl | hy
        · exact h2 _ (.inl rfl)
        · rcases List.mem_cons.mp hy with rfl | hy
          · exact key _ (by simpa using hzx)
          · exact h2 _ (.inr hy)
theorem RL_cons {w : Int} {s : Frm} {m : Nat} (h : 1 ≤ m) : RL w s m = s :: (List.range (m - 1)).map fun i => nx w (i + 1) s := by
  unfold RL
  rw [show m = (m - 1) + 1 by omega, List.range_succ_eq_map, List.map_cons, List.map_map]
  rfl
/-- the least form of a ring -/
noncomputable def lst (w : Int) (s : Frm) : Frm := minF s ((List.range (per w s - 1)).map fun i => nx w (i + 1) s)
theorem lst_is {w : Int} {s : Frm} (h : Per w s (per w s)) : (∃ j, lst w s = nx w j s) ∧ ∀ j, ltF (nx w j s) (lst w s) = false := by
  obtain ⟨h1, h2⟩ := minF_le ((List.range (per w s - 1)).map fun i => nx w (i + 1) s) s
  have e := RL_cons (w := w) (s := s) h.pos
  constructor
  · refine (mem_RL h).mp ?_
    rw [e]
    rcases h1 with h1 | h1
    · exact List.mem_cons.mpr (.inl h1)
    · exact List.mem_cons_of_mem _ h1
  · intro j
    have hm := (mem_RL h).mpr ⟨j, rfl⟩
    rw [e] at hm
    exact h2 _ (List.mem_cons.mp hm)
noncomputable def ringOf (w : Int) (s : Frm) : List Frm := RL w (lst w s) (per w s)
theorem lst_uniq {w : Int} {s x : Frm} (h : Per w s (per w s)) (h1 : ∃ j, x = nx w j s) (h2 : ∀ j, ltF (nx w j s) x = false) : x = lst w s := by
  obtain ⟨⟨j, hj⟩, k2⟩ := lst_is h
  obtain ⟨i, hi⟩ := h1
  exact ltF_tri (by rw [hi]; exact k2 i) (by rw [hj]; exact h2 j)
/-- a form of a ring has that ring -/
theorem ring_same {D : Int} (hD : Dn D) {s : Frm} (hs : s.gap = D) (rs : isRed (wN D) s = true) (i : Nat) : lst (wN D) (nx (wN D) i s) = lst (wN D) s ∧ ringOf (wN D) (nx (wN D) i s) = ringOf (wN D) s := by
  have h := (per_ok hD hs rs).1
  have hsh := h.shift hD hs rs i
  have ep := per_is hsh
  have hx : Per (wN D) (nx (wN D) i s) (per (wN D) (nx (wN D) i s)) := by rw [ep]; exact hsh
  have e : lst (wN D) (nx (wN D) i s) = lst (wN D) s := by
    refine (lst_uniq hx ?_ ?_).symm
    · obtain ⟨j, hj⟩ := (lst_is h).1
      -- s comes back from there
      have hback : ∃ t, nx (wN D) t (nx (wN D) i s) = s := by
        refine ⟨per (wN D) s * i - i, ?_⟩
        rw [← nx_add]
        have := Nat.le_mul_of_pos_left i h.pos
        rw [show i + (per (wN D) s * i - i) = per (wN D) s * i by omega]
        exact Per.mul h.back i
      obtain ⟨t, ht⟩ := hback
      exact ⟨t + j, by rw [nx_add, ht]; exact hj⟩
    · intro j
      rw [← nx_add]
      exact (lst_is h).2 _
  exact ⟨e, by unfold ringOf; rw [e, ep]⟩
theorem mem_ringOf {D : Int} (hD : Dn D) {s x : Frm} (hs : s.gap = D) (rs : isRed (wN D) s = true) : x ∈ ringOf (wN D) s ↔ ∃ j, x = nx (wN D) j s := by
  have h := (per_ok hD hs rs).1
  obtain ⟨j, hj⟩ := (lst_is h).1
  unfold ringOf
  rw [hj, mem_RL (h.shift hD hs rs j)]
  constructor
  · rintro ⟨i, e⟩
    exact ⟨j + i, by rw [nx_add]; exact e⟩
  · rintro ⟨i, e⟩
    refine ⟨(per (wN D) s * j - j) + i, ?_⟩
    rw [← nx_add, e]
    have := Nat.le_mul_of_pos_left j h.pos
    rw [show j + (per (wN D) s * j - j + i) = per (wN D) s * j + i by omega, nx_add, Per.mul h.back]
theorem ringOf_nodup {D : Int} (hD : Dn D) {s : Frm} (hs : s.gap = D) (rs : isRed (wN D) s = true) : (ringOf (wN D) s).Nodup := by
  have h := (per_ok hD hs rs).1
  obtain ⟨j, hj⟩ := (lst_is h).1
  unfold ringOf
  rw [hj]
  exact RL_nodup hD ((nx_gap _ _).trans hs) (nx_red hD _ hs rs) (h.shift hD hs rs j)
theorem ringOf_mem {D : Int} (hD : Dn D) {s x : Frm} (hs : s.gap = D) (rs : isRed (wN D) s = true) (hx : x ∈ ringOf (wN D) s) : x.gap = D ∧ isRed (wN D) x = true ∧ ringOf (wN D) x = ringOf (wN D) s := by
  obtain ⟨j, rfl⟩ := (mem_ringOf hD hs rs).mp hx
  exact ⟨(nx_gap _ _).trans hs, nx_red hD _ hs rs, (ring_same hD hs rs j).2⟩
/-- reduced forms of one class have one ring -/
theorem ringOf_cl {D : Int} (hD : Dn D) {f g : Frm} (hf : f.gap = D) (rf : isRed (wN D) f = true) (rg : isRed (wN D) g = true) {u : Chg} (hu : u.det = 1) (e : g = f.act u) : ringOf (wN D) g = ringOf (wN D) f := by
  have hg : g.gap = D := by rw [e, gap_act, hu, hf]; omega
  rcases ring_eqv hD hf rf rg hu e with ⟨j, h⟩ | ⟨j, h⟩
  · rw [h]; exact (ring_same hD hf rf j).2
  · rw [h]; exact (ring_same hD hg rg j).2.symm
theorem ringOf_len {D : Int} (hD : Dn D) {s : Frm} (hs : s.gap = D) (rs : isRed (wN D) s = true) : 1 ≤ (ringOf (wN D) s).length ∧ (ringOf (wN D) s).length ≤ 1500 := by
  have h := per_ok hD hs rs
  unfold ringOf
  rw [RL_len]
  exact ⟨h.1.pos, Nat.le_trans h.2 (allF_len hD)⟩
theorem nx_succ {w : Int} (n : Nat) (f : Frm) : nx w (n + 1) f = nxt w (nx w n f) := by rw [nx_add]; rfl
end K14
set_option exponentiation.threshold 3000
/-! k14, part C6: ring_reduced and ring. -/
namespace K14
open PySem DL
variable {M : Store}
theorem eF_inj {f g : Frm} : ([f.a, f.b, f.c] == [g.a, g.b, g.c]) = decide (f = g) := by
  rw [Bool.eq_iff_iff, beq_iff_eq, decide_eq_true_eq]
  constructor
  · intro h
    simp only [List.cons.injEq, and_true] at h
    exact Frm.ext h.1 h.2.1 h.2.2
  · intro h; rw [h]
theorem gEq_F {neg : Bool} {f g : Frm} : gEq neg (eF f) (eF g) M = some (.ok (.bl (if neg = true then !decide (f = g) else decide (f = g))), M) := by
  unfold eF
  rw [gEq_row, eF_inj]
theorem gIx0 {x y : D} : gIx (.tup [x, y]) (.int 0) M = some (.ok x, M) := rfl
theorem mul_assoc' (a b c : Chg) : (a.mul b).mul c = a.mul (b.mul c) := by
  simp only [Chg.mul, Chg.mk.injEq]
  refine ⟨by grind, by grind, by grind, by grind⟩
theorem one_mul (u : Chg) : Chg.one.mul u = u := by
  cases u
  simp [Chg.mul, Chg.one]
theorem sz_lit {k : Nat} {x : Int} (h : x.natAbs < 2 ^ k) : Sz k x := h
theorem stp_sz {D : Int} (hD : Dn D) {g : Frm} (hg : g.gap = D) (hb : Bq (10 ^ 12) g) : szC 42 (stp (wN D) g) := by
  have hw := hD.wlo
  have hw2 := wN_le (D := D)
  have hs := shf_sm (w := wN D) (g := g) ⟨by omega, hw2⟩ hb ⟨by omega, by omega⟩ (hD.c_ne hg)
  refine ⟨(show Sz 42 0 by decide), (show Sz 42 1 by decide), (show Sz 42 (-1) by decide), ?_⟩
  show Sz 42 (shf (wN D) g)
  unfold Sz
  generalize shf (wN D) g = x at *
  have e : (2 : Nat) ^ 42 = 4398046511104 := by decide
  rw [e]
  omega
/-- the first reduced form from here on -/
def rf (w : Int) : Nat → Frm → Frm
  | 0, g => g
  | n + 1, g => if isRed w g = true then g else rf w n (nxt w g)
noncomputable def tstR : TF := tNotC (cTru (cCall m_is_ring_reduced (aCons (cVar 0) aNil)))
noncomputable def bodR : SF := (sSeq (sAsg (cCall m_next_form (aCons (cVar 0) aNil)) (gTupC 2 (gConsC (gN 0) (gConsC (gN 2) gNilC)))) (sAsg (cCall m_product (aCons (cVar 2) (aCons (cVar 1) aNil))) (gN 1)))
theorem red_loop {D : Int} (hD : Dn D) : ∀ (n : Nat) (g : Frm) (u : Chg) (x2 : Option DL.D) (j : Nat), g.gap = D → Bq (10 ^ 12) g → rd (wN D) n g = true → szC j u → j + 43 * n < 100000 →
    ∃ (v : Chg) (y2 : Option DL.D), g.act v = rf (wN D) n g ∧ v.det = 1 ∧ isRed (wN D) (g.act v) = true ∧ szC (j + 43 * n) (v.mul u) ∧ sWhile tstR bodR [some (eF g), some (eC u), x2] M = some (.nx [some (eF (g.act v)), some (eC (v.mul u)), y2], M) := by
  intro n
  induction n with
  | zero =>
    intro g u x2 j hg hb h hu hj
    have hr : isRed (wN D) g = true := h
    refine ⟨.one, x2, act_one g, rfl, by rw [act_one]; exact hr, by rw [one_mul]; exact hu, ?_⟩
    rw [act_one, one_mul]
    refine sWhile_stop (M1 := M) ?_
    unfold tstR
    simp [isRed_is hD hg hb ⟨by omega, by omega⟩, hr]
  | succ n ih =>
    intro g u x2 j hg hb h hu hj
    by_cases hr : isRed (wN D) g = true
    · refine ⟨.one, x2, by rw [act_one]; exact (if_pos hr).symm, rfl, by rw [act_one]; exact hr, by rw [one_mul]; exact hu.mono (by omega), ?_⟩
      rw [act_one, one_mul]
      refine sWhile_stop (M1 := M) ?_
      unfold tstR
      simp [isRed_is hD hg hb ⟨by omega, by omega⟩, hr]
    · have hn : rd (wN D) n (nxt (wN D) g) = true := by
        unfold rd at h
        rw [Bool.or_eq_true] at h
        rcases h with h | h
        · exact absurd h hr
        · exact h
      have hs := stp_sz hD hg hb
      have hx := next_is (M := M) hD hg hb ⟨by omega, by omega⟩ (hD.c_ne hg)
      have hp := prod_is (M := M) (j := 42) (k := j) (by omega) hs hu
      obtain ⟨v, y2, h0, h1, h2, h3, h4⟩ := ih (nxt (wN D) g) ((stp (wN D) g).mul u) (some (eC (stp (wN D) g))) (42 + j + 1) (nxt_gap.trans hg) (nxt_bq hD hg hb (by omega)) hn (mul_sz hs hu) (by omega)
      have ea : (nxt (wN D) g).act v = g.act (v.mul (stp (wN D) g)) := act_act _ _ _
      refine ⟨v.mul (stp (wN D) g), y2, by rw [← ea, h0]; exact (if_neg hr).symm, by rw [det_mul, h1, stp_det]; rfl, by rw [← ea]; exact h2, ?_, ?_⟩
      · rw [mul_assoc']
        exact h3.mono (by omega)
      · rw [← ea, mul_assoc']
        refine sWhile_more (M1 := M) (M2 := M) ?_ ?_ h4
        · unfold tstR
          simp [isRed_is hD hg hb ⟨by omega, by omega⟩, hr]
        · unfold bodR
          rw [sSeq_nx (en1 := [some (eF (nxt (wN D) g)), some (eC u), some (eC (stp (wN D) g))]) (M1 := M) (by simp [hx])]
          simp [hp]
theorem mul_w {w : Int} (h : 0 ≤ w ∧ w ≤ 26) : mulC w w = true := mulC_l (by omega) (by omega)
theorem check_tail {D w : Int} {e0 : Option DL.D} (hr : m_root [.int D] M = some (.ok (.int w), M)) (hm : mulC w w = true) (hle : ¬ D ≤ 0) (hne : ¬ w * w = D) : (sIf (tOrC (cTru (cOp gLe (cVar 1) (cC (.int 0)))) (cTru (cOp (gEq false) (cOp gMul (cCall m_root (aCons (cVar 1) aNil)) (cCall m_root (aCons (cVar 1) aNil))) (cVar 1)))) (sRaise "BadTable" (aCons (cC (.str "discriminant")) aNil)) sSkip) [e0, some (.int D)] M = some (.nx [e0, some (.int D)], M) := by
  have h1 : gLe (.int D) (.int 0) M = some (.ok (.bl false), M) := by
    show some (Out.ok (DL.D.bl (decide (D ≤ 0))), M) = _
    rw [decide_eq_false hle]
  have h2 : gEq false (.int (w * w)) (.int D) M = some (.ok (.bl false), M) := by
    rw [gEq_int]
    have : (w * w == D) = false := by simpa using hne
    rw [this]; rfl
  rw [sIf_e, tOrC_e, cTru_e, cOp_e, cVar_e]
  simp only [List.getElem?_cons_zero, List.getElem?_cons_succ, bnd_ok, cC_e, h1, tru_bl, Bool.false_eq_true, if_false]
  rw [cTru_e, cOp_e, cOp_e, cCall_e, aCons_e, cVar_e]
  simp only [List.getElem?_cons_zero, List.getElem?_cons_succ, bnd_ok, aNil_e, hr, cCall_e, aCons_e, cVar_e, gI_e, hm, if_true, h2, tru_bl, sbnd_ok, Bool.false_eq_true, if_false]
  rfl
theorem check_open_is {D : Int} (hD : Dn D) {g : Frm} (hg : g.gap = D) {B : Int} (hb : Bq B g) (hB : B ≤ 10 ^ 14) : m_check_open [eF g] M = some (.ok .non, M) := by
  obtain ⟨s1, s2, s3⟩ := hb.sm hB
  have hgap := gap_is' (M := M) hg s2 s3
  have hlo := hD.lo
  have hr := wroot_is (M := M) (x := D) (by omega) (by have := hD.hi; omega)
  have hw := wN_le (D := D)
  have hw0 := hD.wlo
  have h3 : m_is_two [eF g] M = some (.ok (.bl true), M) := is_two_3 _ _ _
  unfold m_check_open f_check_open
  rw [mDef_1, show start0 2 [eF g] = [some (eF g), none] from rfl]
  rw [sSeq_nx (en1 := [some (eF g), none]) (M1 := M) (by simp [h3])]
  rw [sSeq_nx (en1 := [some (eF g), some (.int D)]) (M1 := M) (by simp [hgap])]
  rw [check_tail hr (mul_w ⟨by omega, hw⟩) (by omega) hD.ns, fin_nx]
  exact gcF_ok0 rfl rfl
theorem unit_eq : k_UNIT = eC .one := rfl
theorem sz_one : szC 1 Chg.one := ⟨by decide, by decide, by decide, by decide⟩
theorem reduced_rf {D : Int} (hD : Dn D) {f : Frm} (hf : f.gap = D) (hb : Bq (10 ^ 12) f) : ∃ v : Chg, f.act v = rf (wN D) 21 f ∧ v.det = 1 ∧ isRed (wN D) (f.act v) = true ∧ szC 2000 v ∧ m_ring_reduced [eF f] M = some (.ok (.tup [eF (f.act v), eC v]), M) := by
  have hrd : rd (wN D) 21 f = true := by
    refine rd_all hD 20 hf ?_
    have := le_ab (show -(10 ^ 12) ≤ f.c ∧ f.c ≤ 10 ^ 12 from ⟨hb.c1, hb.c2⟩)
    have e : (4 : Int) ^ 20 = 1099511627776 := by decide
    rw [e]
    omega
  obtain ⟨v, y2, h0, h1, h2, h3, h4⟩ := red_loop (M := M) hD 21 f .one none 1 hf hb hrd sz_one (by omega)
  have hv : v.mul .one = v := by cases v; simp [Chg.mul, Chg.one]
  rw [hv] at h3 h4
  refine ⟨v, h0, h1, h2, h3.mono (by omega), ?_⟩
  unfold m_ring_reduced f_ring_reduced
  rw [mDef_1, show start0 3 [eF f] = [some (eF f), none, none] from rfl]
  rw [sSeq_nx (en1 := [some (eF f), none, none]) (M1 := M) (by simp [check_open_is hD hf hb (by omega)])]
  rw [sSeq_nx (en1 := [some (eF f), some (eC .one), none]) (M1 := M) (by rw [unit_eq]; simp)]
  unfold tstR bodR at h4
  rw [sSeq_nx h4]
  simp only [sRet_e, cTup_e, aCons_e, aNil_e, cVar_e, List.getElem?_cons_zero, List.getElem?_cons_succ, bnd_ok, List.length_cons, List.length_nil, Nat.reduceAdd, szOk_2, if_true, sbnd_ok, fin_rt]
  exact gcF_ok0 (by simp [eF, eC]) rfl
theorem reduced_is {D : Int} (hD : Dn D) {f : Frm} (hf : f.gap = D) (hb : Bq (10 ^ 12) f) : ∃ v : Chg, v.det = 1 ∧ isRed (wN D) (f.act v) = true ∧ szC 2000 v ∧ m_ring_reduced [eF f] M = some (.ok (.tup [eF (f.act v), eC v]), M) := by
  obtain ⟨v, _, h⟩ := reduced_rf (M := M) hD hf hb
  exact ⟨v, h⟩
/-- reduced forms are small -/
theorem red_bq {D : Int} (hD : Dn D) {g : Frm} (hg : g.gap = D) (rg : isRed (wN D) g = true) : Bq 700 g := by
  have hw := wN_le (D := D)
  have hc := red_cw hD hg rg
  obtain ⟨h1, h2, h3, h4⟩ := rdd_iff.mp rg
  have ka := ab_le (show ab' g.a ≤ 700 by omega)
  have kc := ab_le (show ab' g.c ≤ 700 by omega)
  exact ⟨ka.1, ka.2, by omega, by omega, kc.1, kc.2⟩
theorem Bq.mono {B C : Int} {g : Frm} (h : Bq B g) (k : B ≤ C) : Bq C g := ⟨by have := h.a1; omega, by have := h.a2; omega, by have := h.b1; omega, by have := h.b2; omega, by have := h.c1; omega, by have := h.c2; omega⟩
/-- the next form of a reduced one -/
theorem next_red {D : Int} (hD : Dn D) {g : Frm} (hg : g.gap = D) (rg : isRed (wN D) g = true) : m_next_form [eF g] M = some (.ok (.tup [eF (nxt (wN D) g), eC (stp (wN D) g)]), M) :=
  next_is hD hg (red_bq hD hg rg) ⟨by omega, by omega⟩ (hD.c_ne hg)
/-! ring -/
def eRg (r : List Frm) : D := .tup (r.map eF)
theorem eRg_tab (r : List Frm) : eRg r = eTab (r.map rowF) := by
  unfold eRg eTab
  rw [List.map_map]
  rfl
theorem rows_RL (r : List Frm) : r.map eF = (r.map rowF).map eRow := by
  rw [List.map_map]
  rfl
noncomputable def tstG : TF := cTru (cOp (gEq true) (cVar 0) (cVar 1))
noncomputable def bodG : SF := (sSeq (sExpr (cApp (cVar 2) (cVar 0))) (sSeq (sIf (cTru (cOp gGt (cCall gLen (aCons (cVar 2) aNil)) (cC k_RING_MOST))) sDead sSkip) (sAsg (cOp gIx (cCall m_next_form (aCons (cVar 0) aNil)) (cC (.int 0))) (gN 0))))
theorem gLen_cel {ds : List D} : gLen [.cel M.length] (M ++ [ds]) = some (.ok (.int (ds.length : Int)), M ++ [ds]) := by
  have h : (M ++ [ds])[M.length]? = some ds := List.getElem?_concat_length
  unfold gLen
  simp [itemsOf]
theorem ring_loop {D : Int} (hD : Dn D) {s : Frm} (hs : s.gap = D) (rs : isRed (wN D) s = true) {m : Nat} (hm : Per (wN D) s m) (hm2 : m ≤ 1500) : ∀ (j i : Nat), 1 ≤ i → i + j = m →
    sWhile tstG bodG [some (eF (nx (wN D) i s)), some (eF s), some (.cel M.length), none] (M ++ [(RL (wN D) s i).map eF]) = some (.nx [some (eF s), some (eF s), some (.cel M.length), none], M ++ [(RL (wN D) s m).map eF]) := by
  intro j
  induction j with
  | zero =>
    intro i h1 h2
    have : i = m := by omega
    subst this
    rw [hm.back]
    refine sWhile_stop (M1 := _) ?_
    unfold tstG
    simp [gEq_F]
  | succ j ih =>
    intro i h1 h2
    have hne := hm.first i h1 (by omega)
    have hg : (nx (wN D) i s).gap = D := (nx_gap _ _).trans hs
    have hr := nx_red hD i hs rs
    have hRL : (RL (wN D) s (i + 1)).map eF = (RL (wN D) s i).map eF ++ [eF (nx (wN D) i s)] := by
      unfold RL
      rw [List.range_succ, List.map_append, List.map_append]
      rfl
    have hle : (RL (wN D) s i).length = i := RL_len
    have hat : (M ++ [(RL (wN D) s i).map eF])[M.length]? = some ((RL (wN D) s i).map eF) := List.getElem?_concat_length
    refine sWhile_more (M1 := M ++ [(RL (wN D) s i).map eF]) (M2 := M ++ [(RL (wN D) s (i + 1)).map eF]) (en1 := [some (eF (nx (wN D) (i + 1) s)), some (eF s), some (.cel M.length), none]) ?_ ?_ (ih (i + 1) (by omega) (by omega))
    · unfold tstG
      simp [gEq_F, hne]
    · unfold bodG
      have a1 : sExpr (cApp (cVar 2) (cVar 0)) [some (eF (nx (wN D) i s)), some (eF s), some (.cel M.length), none] (M ++ [(RL (wN D) s i).map eF]) = some (.nx [some (eF (nx (wN D) i s)), some (eF s), some (.cel M.length), none], M ++ [(RL (wN D) s (i + 1)).map eF]) := by
        have hz : szOk ((RL (wN D) s i).length + 1) = true := szOk_of (by omega)
        rw [hRL]
        simp [hz]
      rw [sSeq_nx a1]
      have a2 : sIf (cTru (cOp gGt (cCall gLen (aCons (cVar 2) aNil)) (cC k_RING_MOST))) sDead sSkip [some (eF (nx (wN D) i s)), some (eF s), some (.cel M.length), none] (M ++ [(RL (wN D) s (i + 1)).map eF]) = some (.nx [some (eF (nx (wN D) i s)), some (eF s), some (.cel M.length), none], M ++ [(RL (wN D) s (i + 1)).map eF]) := by
        have hl := gLen_cel (M := M) (ds := (RL (wN D) s (i + 1)).map eF)
        rw [List.length_map, RL_len] at hl
        have hgt : ¬ ((i + 1 : Nat) : Int) > 20000 := by omega
        rw [sIf_e, cTru_e, cOp_e, cCall_e, aCons_e, cVar_e]
        simp only [List.getElem?_cons_zero, List.getElem?_cons_succ, bnd_ok, aNil_e, hl, cC_e]
        have hk : k_RING_MOST = .int 20000 := rfl
        rw [hk]
        simp only [gI_e, yes2_e, if_true, decide_eq_false hgt, bnd_ok, tru_bl, sbnd_ok, Bool.false_eq_true, if_false]
        rfl
      rw [sSeq_nx a2]
      have hx := next_red (M := M ++ [(RL (wN D) s (i + 1)).map eF]) hD hg hr
      rw [← nx_succ] at hx
      simp only [sAsg_e, cOp_e, cCall_e, aCons_e, aNil_e, cVar_e, List.getElem?_cons_zero, bnd_ok, hx, cC_e, gIx0, sbnd_ok, gN_e, List.set_cons_zero]
theorem idxR_ex {r : List Int} : ∀ {l : List (List Int)}, r ∈ l → ∃ j, idxR r l = some j
  | [], h => nomatch h
  | x :: l, h => by
    unfold idxR
    by_cases e : x = r
    · exact ⟨0, by rw [if_pos e]⟩
    · rw [if_neg e]
      rcases List.mem_cons.mp h with z | z
      · exact absurd z.symm e
      · obtain ⟨j, hj⟩ := idxR_ex z
        exact ⟨j + 1, by rw [hj]; rfl⟩
theorem rowF_inj {f g : Frm} (h : rowF f = rowF g) : f = g := by
  unfold rowF at h
  simp only [List.cons.injEq, and_true] at h
  exact Frm.ext h.1 h.2.1 h.2.2
theorem cut_from {l : List D} {i : Nat} (h : i ≤ l.length) : cutD l (some (i : Int)) none = l.drop i := by
  unfold cutD
  rw [show HT.sIx l.length l.length none = l.length from rfl, show HT.sIx l.length 0 (some (i : Int)) = min i l.length by
    show (if (i : Int) < 0 then ((i : Int) + (l.length : Int)).toNat else min (i : Int).toNat l.length) = _
    rw [if_neg (by omega), Int.toNat_natCast]]
  rw [Nat.min_eq_left h]
  exact List.take_of_length_le (by rw [List.length_drop]; exact Nat.le_refl _)
theorem cut_to {l : List D} {i : Nat} (h : i ≤ l.length) : cutD l none (some (i : Int)) = l.take i := by
  unfold cutD
  rw [show HT.sIx l.length 0 none = 0 from rfl, show HT.sIx l.length l.length (some (i : Int)) = min i l.length by
    show (if (i : Int) < 0 then ((i : Int) + (l.length : Int)).toNat else min (i : Int).toNat l.length) = _
    rw [if_neg (by omega), Int.toNat_natCast]]
  rw [Nat.min_eq_left h, List.drop_zero, Nat.sub_zero]
theorem clo_eF {n : Nat} {f : Frm} : clo n (eF f) = true := clo_row
theorem clo_eRg {n : Nat} {r : List Frm} : clo n (eRg r) = true := by
  unfold eRg
  rw [clo_tup]
  exact clos_map fun _ => clo_eF
theorem ring_is {D : Int} (hD : Dn D) {f : Frm} (hf : f.gap = D) (hb : Bq (10 ^ 12) f) : ∃ v : Chg, v.det = 1 ∧ isRed (wN D) (f.act v) = true ∧ m_ring [eF f] M = some (.ok (eRg (ringOf (wN D) (f.act v))), M) := by
  obtain ⟨v, h1, h2, h3, h4⟩ := reduced_is (M := M) hD hf hb
  refine ⟨v, h1, h2, ?_⟩
  obtain ⟨s, hs⟩ : ∃ s, s = f.act v := ⟨_, rfl⟩
  rw [← hs] at h2 h4 ⊢
  have hg : s.gap = D := by rw [hs, gap_act, h1, hf]; omega
  obtain ⟨hp, hp2⟩ := per_ok hD hg h2
  have hp3 := Nat.le_trans hp2 (allF_len hD)
  obtain ⟨m, hm⟩ : ∃ m, m = per (wN D) s := ⟨_, rfl⟩
  rw [← hm] at hp hp3
  have hx := next_red (M := M ++ [[eF s]]) hD hg h2
  have hl := ring_loop (M := M) hD hg h2 hp hp3 (m - 1) 1 (Nat.le_refl _) (by have := hp.pos; omega)
  have e1 : (RL (wN D) s 1).map eF = [eF s] := rfl
  have e2 : nx (wN D) 1 s = nxt (wN D) s := rfl
  rw [e1, e2] at hl
  unfold m_ring f_ring
  rw [mDef_1, show start0 4 [eF f] = [some (eF f), none, none, none] from rfl]
  rw [sSeq_nx (en1 := [some (eF f), some (eF s), none, none]) (M1 := M) (by
    simp only [sAsg_e, cOp_e, cCall_e, aCons_e, aNil_e, cVar_e, List.getElem?_cons_zero, bnd_ok, h4, cC_e, gIx0, sbnd_ok, gN_e, List.set_cons_succ, List.set_cons_zero])]
  rw [sSeq_nx (en1 := [some (eF f), some (eF s), some (.cel M.length), none]) (M1 := M ++ [[eF s]]) (by simp)]
  rw [sSeq_nx (en1 := [some (eF (nxt (wN D) s)), some (eF s), some (.cel M.length), none]) (M1 := M ++ [[eF s]]) (by
    simp only [sAsg_e, cOp_e, cCall_e, aCons_e, aNil_e, cVar_e, List.getElem?_cons_zero, List.getElem?_cons_succ, bnd_ok, hx, cC_e, gIx0, sbnd_ok, gN_e, List.set_cons_zero])]
  unfold tstG bodG at hl
  rw [sSeq_nx hl]
  -- the least
  have hat : (M ++ [(RL (wN D) s m).map eF])[M.length]? = some ((RL (wN D) s m).map eF) := List.getElem?_concat_length
  have hmin : gMinR [.cel M.length] (M ++ [(RL (wN D) s m).map eF]) = some (.ok (eF (lst (wN D) s)), M ++ [(RL (wN D) s m).map eF]) := by
    have hc : (RL (wN D) s m).map rowF = rowF s :: ((List.range (m - 1)).map fun i => nx (wN D) (i + 1) s).map rowF := by rw [RL_cons hp.pos]; rfl
    unfold gMinR
    dsimp only
    have hit : itemsOf (M ++ [(RL (wN D) s m).map eF]) (.cel M.length) = some ((RL (wN D) s m).map eF) := hat
    rw [hit]
    dsimp only
    rw [rows_RL, rowsOf_is, hc]
    dsimp only
    rw [minRow_is]
    have : lst (wN D) s = minF s ((List.range (m - 1)).map fun i => nx (wN D) (i + 1) s) := by unfold lst; rw [← hm]
    rw [this]
    rfl
  have hpp : Per (wN D) s (per (wN D) s) := by rw [← hm]; exact hp
  obtain ⟨j0, hj0⟩ := (lst_is hpp).1
  obtain ⟨i, hi⟩ := idxR_ex (r := rowF (lst (wN D) s)) (l := (RL (wN D) s m).map rowF) (List.mem_map.mpr ⟨_, (mem_RL hp).mpr ⟨j0, hj0⟩, rfl⟩)
  have hat2 := (idxR_at hi).1
  have him : i < m := by
    have := (List.getElem?_eq_some_iff.mp hat2).1
    rw [List.length_map, RL_len] at this
    exact this
  have hli : nx (wN D) i s = lst (wN D) s := by
    rw [List.getElem?_map, RL_at him] at hat2
    exact rowF_inj (Option.some.inj hat2)
  have hidx : cIdx (cVar 2) (cCall gMinR (aCons (cVar 2) aNil)) [some (eF s), some (eF s), some (.cel M.length), none] (M ++ [(RL (wN D) s m).map eF]) = some (.ok (.int (i : Int)), M ++ [(RL (wN D) s m).map eF]) := by
    unfold cIdx
    simp only [cVar_e, List.getElem?_cons_zero, List.getElem?_cons_succ, bnd_ok, cCall_e, aCons_e, aNil_e, hmin]
    rw [if_pos (by simp), hat]
    dsimp only
    rw [rows_RL, rowsOf_is, eF_row, rowOf_is]
    dsimp only
    rw [hi]
  rw [sSeq_nx (en1 := [some (eF s), some (eF s), some (.cel M.length), some (.int (i : Int))]) (M1 := M ++ [(RL (wN D) s m).map eF]) (by
    rw [sAsg_e, hidx, sbnd_ok]; rfl)]
  have hlen : ((RL (wN D) s m).map eF).length = m := by rw [List.length_map, RL_len]
  have s1 : cSl (cVar 2) (oSome (cVar 3)) oNone [some (eF s), some (eF s), some (.cel M.length), some (.int (i : Int))] (M ++ [(RL (wN D) s m).map eF]) = some (.ok (.imm (((RL (wN D) s m).drop i).map eF)), M ++ [(RL (wN D) s m).map eF]) := by
    simp only [cSl_e, cVar_e, oSome_e, oNone_e, List.getElem?_cons_zero, List.getElem?_cons_succ, bnd_ok]
    show (match (M ++ [(RL (wN D) s m).map eF])[M.length]? with | some ds => some (Out.ok (DL.D.imm (cutD ds (some (i : Int)) none)), M ++ [(RL (wN D) s m).map eF]) | none => none) = _
    rw [hat]
    dsimp only
    rw [cut_from (by rw [hlen]; omega), List.map_drop]
  have s2 : cSl (cVar 2) oNone (oSome (cVar 3)) [some (eF s), some (eF s), some (.cel M.length), some (.int (i : Int))] (M ++ [(RL (wN D) s m).map eF]) = some (.ok (.imm (((RL (wN D) s m).take i).map eF)), M ++ [(RL (wN D) s m).map eF]) := by
    simp only [cSl_e, cVar_e, oSome_e, oNone_e, List.getElem?_cons_zero, List.getElem?_cons_succ, bnd_ok]
    show (match (M ++ [(RL (wN D) s m).map eF])[M.length]? with | some ds => some (Out.ok (DL.D.imm (cutD ds none (some (i : Int)))), M ++ [(RL (wN D) s m).map eF]) | none => none) = _
    rw [hat]
    dsimp only
    rw [cut_to (by rw [hlen]; omega), List.map_take]
  rw [sRet_e, cCall_e, aCons_e, cOp_e, s1, bnd_ok, s2, bnd_ok, gAddA_l]
  rw [if_pos (szOk_of (by rw [List.length_map, List.length_map, List.length_drop, List.length_take, RL_len]; omega))]
  simp only [bnd_ok, aNil_e, gTuple_l, sbnd_ok, fin_rt]
  rw [← List.map_append, RL_rot hp.back (by omega), hli]
  have e3 : RL (wN D) (lst (wN D) s) m = ringOf (wN D) s := by unfold ringOf; rw [← hm]
  rw [e3]
  exact gcF_ok clo_eRg rfl
end K14
namespace K14
open PySem DL
variable {M : Store}
theorem gcdL_l {a b c : Int} : (gcdL [a, b, c]) ∣ a ∧ (gcdL [a, b, c]) ∣ b ∧ (gcdL [a, b, c]) ∣ c := by
  simp only [gcdL, List.foldl_cons, List.foldl_nil]
  refine ⟨?_, ?_, Int.gcd_dvd_right ..⟩
  · exact Int.dvd_trans (Int.gcd_dvd_left ..) (Int.dvd_trans (Int.gcd_dvd_left ..) (Int.gcd_dvd_right ..))
  · exact Int.dvd_trans (Int.gcd_dvd_left ..) (Int.gcd_dvd_right ..)
theorem dvd_gcdL {d a b c : Int} (h1 : d ∣ a) (h2 : d ∣ b) (h3 : d ∣ c) : d ∣ gcdL [a, b, c] := by
  simp only [gcdL, List.foldl_cons, List.foldl_nil]
  exact Int.dvd_coe_gcd (Int.dvd_coe_gcd (Int.dvd_coe_gcd (Int.dvd_zero _) h1) h2) h3
theorem gcdL_nn {a b c : Int} : 0 ≤ gcdL [a, b, c] := by
  simp only [gcdL, List.foldl_cons, List.foldl_nil]
  omega
theorem act_dvd {f : Frm} {u : Chg} {d : Int} (h1 : d ∣ f.a) (h2 : d ∣ f.b) (h3 : d ∣ f.c) : d ∣ (f.act u).a ∧ d ∣ (f.act u).b ∧ d ∣ (f.act u).c := by
  obtain ⟨a, e1⟩ := h1
  obtain ⟨b, e2⟩ := h2
  obtain ⟨c, e3⟩ := h3
  have e : f = ⟨d * a, d * b, d * c⟩ := Frm.ext e1 e2 e3
  subst e
  refine ⟨⟨worthF a b c u.p u.q, ?_⟩, ⟨midF a b c u.p u.q u.r u.s, ?_⟩, ⟨worthF a b c u.r u.s, ?_⟩⟩ <;>
    simp only [Frm.act, Frm.wo, worthF, midF] <;> grind
theorem prim_act {f : Frm} {u : Chg} (hu : u.det = 1) (h : gcdL [f.a, f.b, f.c] = 1) : gcdL [(f.act u).a, (f.act u).b, (f.act u).c] = 1 := by
  obtain ⟨h1, h2, h3⟩ := gcdL_l (a := (f.act u).a) (b := (f.act u).b) (c := (f.act u).c)
  obtain ⟨k1, k2, k3⟩ := act_dvd (u := u.inv) h1 h2 h3
  rw [act_inv f u hu] at k1 k2 k3
  have := dvd_gcdL k1 k2 k3
  rw [h] at this
  have p := gcdL_nn (a := (f.act u).a) (b := (f.act u).b) (c := (f.act u).c)
  exact Int.eq_one_of_dvd_one p this
@[simp] theorem cDGet2_e {en : DL.Env} {fd fk fx : EF} : cDGet2 fd fk fx en M = bnd (fd en M) fun x M1 => match x with
  | .dic n => if n < M1.length then bnd (fk en M1) fun y M2 => bnd (fx en M2) fun z M3 => match dAt n y M3 with | some (some w) => some (.ok w, M3) | some none => some (.ok z, M3) | none => none else none
  | _ => none := rfl
@[simp] theorem cDGet_e {en : DL.Env} {fd fk : EF} : cDGet fd fk en M = bnd (fd en M) fun x M1 => bnd (fk en M1) fun y M2 => match x with
  | .dic n => match dAt n y M2 with | some (some z) => some (.ok z, M2) | _ => none
  | _ => none := rfl
@[simp] theorem sDPut_e {en : DL.Env} {fv fd fk : EF} : sDPut fv fd fk en M = sbnd (fv en M) en fun z M1 => sbnd (fd en M1) en fun x M2 => sbnd (fk en M2) en fun y M3 => match x with
  | .dic n => match M3[n]?, keyOk y with
    | some ds, some nk => if szOk (ds.length + 1) = true then some (.nx en, M3.set n (kvPut nk y z ds)) else none
    | _, _ => none
  | _ => none := rfl
def nRow (s : List Int) : NestedKey := .tup (s.map NestedKey.num)
theorem keyNs_ints : ∀ s : List Int, keyNs (s.map D.int) = some (s.map NestedKey.num)
  | [] => rfl
  | x :: s => by
    rw [List.map_cons, List.map_cons]
    simp only [keyNs, keyN, keyNs_ints s]
theorem keyN_row (s : List Int) : keyN (eRow s) = some (nRow s) := by
  unfold eRow nRow
  simp only [keyN, keyNs_ints]
theorem depth_ints : ∀ s : List Int, NestedKey.depthAll (s.map NestedKey.num) ≤ 1
  | [] => by simp [NestedKey.depthAll]
  | x :: s => by
    have := depth_ints s
    simp only [List.map_cons, NestedKey.depthAll, NestedKey.depth]
    omega
theorem keyOk_row (s : List Int) : keyOk (eRow s) = some (nRow s) := by
  have h := keyN_row s
  have hd := depth_ints s
  unfold eRow at *
  unfold keyOk
  dsimp only
  rw [h]
  dsimp only
  rw [if_pos]
  unfold nRow
  simp only [NestedKey.depth]
  omega
theorem num_inj : ∀ {s t : List Int}, s.map NestedKey.num = t.map NestedKey.num → s = t
  | [], [], _ => rfl
  | x :: s, y :: t, h => by
    rw [List.map_cons, List.map_cons] at h
    injection h with h1 h2
    injection h1 with h1
    rw [h1, num_inj h2]
  | [], _ :: _, h => by cases h
  | _ :: _, [], h => by cases h
theorem nRow_inj {s t : List Int} : nRow s = nRow t ↔ s = t := by
  constructor
  · intro h
    unfold nRow at h
    injection h with h
    exact num_inj h
  · intro h; rw [h]
end K14
/-! k14, part C7: with_middle and rings. -/
namespace K14
open PySem DL
variable {M : Store}
theorem gGt_f {a b : Int} (h : ¬ a > b) : gGt (.int a) (.int b) M = some (.ok (.bl false), M) := by
  show some (Out.ok (DL.D.bl (decide (a > b))), M) = _
  rw [decide_eq_false h]
noncomputable def bodW2 : SF := (sIf (cTru (cCall m_is_ring_reduced (aCons (cVar 4) aNil))) (sExpr (cApp (cVar 2) (cVar 4))) sSkip)
noncomputable def bodW : SF := (sIf (cTru (cOp (gEq false) (cOp gMod (cVar 1) (cVar 3)) (cC (.int 0)))) (sFor (iSeq (cTup (aCons (cTup (aCons (cVar 3) (aCons (cVar 0) (aCons (cOp gSub (cC (.int 0)) (cOp gDiv (cVar 1) (cVar 3))) aNil)))) (aCons (cTup (aCons (cOp gSub (cC (.int 0)) (cVar 3)) (aCons (cVar 0) (aCons (cOp gDiv (cVar 1) (cVar 3)) aNil)))) aNil)))) (gN 4) bodW2) sSkip)
theorem mid_in {D : Int} (hD : Dn D) {e0 e1 e3 : Option DL.D} : ∀ (l acc : List Frm) (x4 : Option DL.D), (∀ x ∈ l, x.gap = D ∧ Bq 700 x) → acc.length + l.length ≤ 100000 →
    ∃ y4, fLoop (gN 4) bodW2 (l.map eF) [e0, e1, some (.cel M.length), e3, x4] (M ++ [acc.map eF]) = some (.nx [e0, e1, some (.cel M.length), e3, y4], M ++ [(acc ++ l.filter (isRed (wN D))).map eF])
  | [], acc, x4, _, _ => ⟨x4, by simp [fLoop]⟩
  | x :: l, acc, x4, hl, hn => by
    obtain ⟨hg, hb⟩ := hl x List.mem_cons_self
    have hr := isRed_is (M := M ++ [acc.map eF]) hD hg hb ⟨by omega, by omega⟩
    rw [List.length_cons] at hn
    rw [List.map_cons, fLoop_cons]
    simp only [gN_e, List.set_cons_succ, List.set_cons_zero]
    by_cases h : isRed (wN D) x = true
    · have hb1 : bodW2 [e0, e1, some (.cel M.length), e3, some (eF x)] (M ++ [acc.map eF]) = some (.nx [e0, e1, some (.cel M.length), e3, some (eF x)], M ++ [(acc ++ [x]).map eF]) := by
        have hz : szOk (acc.length + 1) = true := szOk_of (by omega)
        unfold bodW2
        simp [hr, h, hz]
      rw [hb1]
      obtain ⟨y4, e⟩ := mid_in hD l (acc ++ [x]) (some (eF x)) (fun y hy => hl y (List.mem_cons_of_mem _ hy)) (by rw [List.length_append, List.length_cons, List.length_nil]; omega)
      refine ⟨y4, ?_⟩
      rw [List.filter_cons_of_pos h]
      rw [List.append_assoc] at e
      exact e
    · have hb1 : bodW2 [e0, e1, some (.cel M.length), e3, some (eF x)] (M ++ [acc.map eF]) = some (.nx [e0, e1, some (.cel M.length), e3, some (eF x)], M ++ [acc.map eF]) := by
        unfold bodW2
        simp [hr, h]
      rw [hb1]
      obtain ⟨y4, e⟩ := mid_in hD l acc (some (eF x)) (fun y hy => hl y (List.mem_cons_of_mem _ hy)) (by omega)
      refine ⟨y4, ?_⟩
      rw [List.filter_cons_of_neg h]
      exact e
theorem two2_bq {a b r : Int} (ha : 1 ≤ a ∧ a ≤ r) (hr : r ≤ 160) (hb : -160 ≤ b ∧ b ≤ 160) (h : r % a = 0) {x : Frm} (hx : x ∈ two2 a b r) : Bq 700 x := by
  have e := Int.mul_ediv_add_emod r a
  rw [h] at e
  have hq : 0 ≤ r / a ∧ r / a ≤ r := ⟨Int.ediv_nonneg (by omega) (by omega), Int.ediv_le_self _ (by omega)⟩
  unfold two2 at hx
  generalize r / a = q at *
  rcases List.mem_cons.mp hx with rfl | hx
  · exact ⟨by dsimp only; omega, by dsimp only; omega, by dsimp only; omega, by dsimp only; omega, by dsimp only; omega, by dsimp only; omega⟩
  · rcases List.mem_cons.mp hx with rfl | hx
    · exact ⟨by dsimp only; omega, by dsimp only; omega, by dsimp only; omega, by dsimp only; omega, by dsimp only; omega, by dsimp only; omega⟩
    · exact nomatch hx
theorem mid_out {D b r : Int} (hD : Dn D) (hb : -160 ≤ b ∧ b ≤ 160) (hr : r ≤ 160) (h4 : 4 * r = D - b * b) : ∀ (l : List Int) (acc : List Frm) (x3 x4 : Option DL.D), (∀ a ∈ l, 1 ≤ a ∧ a ≤ r) → acc.length + 2 * l.length ≤ 100000 →
    ∃ y3 y4, fLoop (gN 3) bodW (l.map DL.D.int) [some (.int b), some (.int r), some (.cel M.length), x3, x4] (M ++ [acc.map eF]) = some (.nx [some (.int b), some (.int r), some (.cel M.length), y3, y4], M ++ [(acc ++ l.flatMap fun a => if r % a = 0 then (two2 a b r).filter (isRed (wN D)) else []).map eF])
  | [], acc, x3, x4, _, _ => ⟨x3, x4, by simp [fLoop]⟩
  | a :: l, acc, x3, x4, hl, hn => by
    have ha := hl a List.mem_cons_self
    rw [List.length_cons] at hn
    rw [List.map_cons, fLoop_cons]
    simp only [gN_e, List.set_cons_succ, List.set_cons_zero]
    have hmod : modC r a = true := modC_of (by omega)
    have hdiv : divC r a = true := divC_of (by omega) (by omega)
    rw [List.flatMap_cons]
    by_cases h : r % a = 0
    · rw [if_pos h]
      obtain ⟨y4, e⟩ := mid_in (M := M) hD (e0 := some (.int b)) (e1 := some (.int r)) (e3 := some (.int a)) (two2 a b r) acc x4 (fun x hx => ⟨(two2_gap ha.1 h h4 hx).1, two2_bq ha hr hb h hx⟩) (by show acc.length + 2 ≤ _; omega)
      have hb1 : bodW [some (.int b), some (.int r), some (.cel M.length), some (.int a), x4] (M ++ [acc.map eF]) = some (.nx [some (.int b), some (.int r), some (.cel M.length), some (.int a), y4], M ++ [(acc ++ (two2 a b r).filter (isRed (wN D))).map eF]) := by
        have ht : (two2 a b r).map eF = [.tup [.int a, .int b, .int (0 - r / a)], .tup [.int (0 - a), .int b, .int (r / a)]] := rfl
        rw [ht] at e
        unfold bodW
        rw [sIf_e, cTru_e, cOp_e, cOp_e, cVar_e]
        simp only [List.getElem?_cons_zero, List.getElem?_cons_succ, bnd_ok, cVar_e, gI_e, hmod, if_true, h, cC_e, gEq_int, Bool.false_eq_true, if_false, beq_self_eq_true, tru_bl, sbnd_ok]
        rw [sFor_e]
        have hi : iSeq (cTup (aCons (cTup (aCons (cVar 3) (aCons (cVar 0) (aCons (cOp gSub (cC (.int 0)) (cOp gDiv (cVar 1) (cVar 3))) aNil)))) (aCons (cTup (aCons (cOp gSub (cC (.int 0)) (cVar 3)) (aCons (cVar 0) (aCons (cOp gDiv (cVar 1) (cVar 3)) aNil)))) aNil))) [some (.int b), some (.int r), some (.cel M.length), some (.int a), x4] (M ++ [acc.map eF]) = some (.ok [.tup [.int a, .int b, .int (0 - r / a)], .tup [.int (0 - a), .int b, .int (r / a)]], M ++ [acc.map eF]) := by
          simp [hdiv]
        rw [hi, sbnd_ok]
        exact e
      rw [hb1]
      obtain ⟨z3, z4, e2⟩ := mid_out hD hb hr h4 l (acc ++ (two2 a b r).filter (isRed (wN D))) (some (.int a)) y4 (fun x hx => hl x (List.mem_cons_of_mem _ hx)) (by
        rw [List.length_append]
        have := List.length_filter_le (isRed (wN D)) (two2 a b r)
        have e : (two2 a b r).length = 2 := rfl
        omega)
      refine ⟨z3, z4, ?_⟩
      rw [List.append_assoc] at e2
      exact e2
    · rw [if_neg h, List.nil_append]
      have hb1 : bodW [some (.int b), some (.int r), some (.cel M.length), some (.int a), x4] (M ++ [acc.map eF]) = some (.nx [some (.int b), some (.int r), some (.cel M.length), some (.int a), x4], M ++ [acc.map eF]) := by
        unfold bodW
        simp [hmod, h]
      rw [hb1]
      exact mid_out hD hb hr h4 l acc (some (.int a)) x4 (fun x hx => hl x (List.mem_cons_of_mem _ hx)) (by omega)
theorem with_middle_is {D b r : Int} (hD : Dn D) (hb : -160 ≤ b ∧ b ≤ 160) (hr : r ≤ 160) (h4 : 4 * r = D - b * b) (hr0 : 0 ≤ r) : m_with_middle [.int b, .int r] M = some (.ok (.imm ((withM (wN D) b r).map eF)), M) := by
  obtain ⟨y3, y4, e⟩ := mid_out (M := M) hD hb hr h4 (rgI 1 r.toNat) [] none none (fun a ha => by have := mem_rgI.mp ha; omega) (by rw [rg_len]; simp; omega)
  rw [List.nil_append] at e
  have hi : iRng2C (aCons (cC (.int 1)) (aCons (cOp gAddA (cVar 1) (cC (.int 1))) aNil)) [some (.int b), some (.int r), some (.cel M.length), none, none] (M ++ [[]]) = some (.ok ((rgI 1 r.toNat).map DL.D.int), M ++ [[]]) := by
    have hs : (smI 1 && smI (r + 1)) = true := by rw [smI_of (show -(2 ^ 62) ≤ r + 1 by omega) (show r + 1 < 2 ^ 62 by omega)]; decide
    rw [iRng2_e, aCons_e, cC_e, bnd_ok, aCons_e, cOp_e, cVar_e]
    simp only [List.getElem?_cons_zero, List.getElem?_cons_succ, bnd_ok, cC_e, gAddA_i, aNil_e]
    rw [if_pos hs, rgD_eq, show (r + 1 - 1).toNat = r.toNat by omega]
  unfold m_with_middle f_with_middle
  rw [mDef_2, show start0 5 [DL.D.int b, .int r] = [some (.int b), some (.int r), none, none, none] from rfl]
  rw [sSeq_nx (en1 := [some (.int b), some (.int r), some (.cel M.length), none, none]) (M1 := M ++ [[]]) (by simp)]
  have hf : sFor (iRng2C (aCons (cC (.int 1)) (aCons (cOp gAddA (cVar 1) (cC (.int 1))) aNil))) (gN 3) bodW [some (.int b), some (.int r), some (.cel M.length), none, none] (M ++ [[]]) = some (.nx [some (.int b), some (.int r), some (.cel M.length), y3, y4], M ++ [(withM (wN D) b r).map eF]) := by
    rw [sFor_e, hi, sbnd_ok]
    exact e
  unfold bodW bodW2 at hf
  rw [sSeq_nx hf]
  simp only [sRet_e, cVar_e, List.getElem?_cons_zero, List.getElem?_cons_succ, bnd_ok, sbnd_ok, fin_rt]
  exact gcF_cel (by simp) (Nat.le_refl _) (clos_map fun _ => clo_eF)
/-! the first loop of rings -/
noncomputable def bodB : SF := (sIf (cTru (cOp (gEq false) (cOp gMod (cOp gSub (cOp gMul (cVar 2) (cVar 2)) (cVar 0)) (cC (.int 4))) (cC (.int 0)))) (sAug 1 gExt (cCall m_with_middle (aCons (cVar 2) (aCons (cOp gDiv (cOp gSub (cVar 0) (cOp gMul (cVar 2) (cVar 2))) (cC (.int 4))) aNil)))) sSkip)
theorem sm_b {b : Int} (h : 1 ≤ b ∧ b ≤ 26) : mulC b b = true := mulC_l (by omega) (by omega)
theorem gExt_last {ds zs : List DL.D} (h : ds.length + zs.length ≤ 16777216) : gExt (.cel M.length) (.imm zs) (M ++ [ds]) = some (.ok (.cel M.length), M ++ [ds ++ zs]) := by
  have hat : (M ++ [ds])[M.length]? = some ds := List.getElem?_concat_length
  unfold gExt
  dsimp only
  rw [hat]
  dsimp only
  rw [if_pos h, setLast]
theorem withM_len {w b r : Int} : (withM w b r).length ≤ 2 * r.toNat := by
  unfold withM
  have key : ∀ l : List Int, (l.flatMap fun a => if r % a = 0 then (two2 a b r).filter (isRed w) else []).length ≤ 2 * l.length := by
    intro l
    induction l with
    | nil => simp
    | cons a l ih =>
      rw [List.flatMap_cons, List.length_append, List.length_cons]
      have : (if r % a = 0 then (two2 a b r).filter (isRed w) else []).length ≤ 2 := by
        split
        · exact List.length_filter_le _ _
        · simp
      omega
  have := key (rgI 1 r.toNat)
  rwa [rg_len] at this
theorem bod_B {D : Int} (hD : Dn D) {b : Int} (hb : 1 ≤ b ∧ b ≤ wN D) {acc : List Frm} (hn : acc.length ≤ 100000) {rest : DL.Env} : bodB (some (.int D) :: some (.cel M.length) :: some (.int b) :: rest) (M ++ [acc.map eF]) =
    some (.nx (some (.int D) :: some (.cel M.length) :: some (.int b) :: rest), M ++ [(acc ++ if (b * b - D) % 4 = 0 then withM (wN D) b ((D - b * b) / 4) else []).map eF]) := by
  have hw := wN_le (D := D)
  have hlt := hD.wlt
  have hhi := hD.hi
  have hsq := sq_mono (show 0 ≤ b by omega) hb.2
  have hm := sm_b (b := b) ⟨hb.1, by omega⟩
  have h44 : modC (b * b - D) 4 = true := modC_of (by omega)
  have hd4 : divC (D - b * b) 4 = true := divC_of (by omega) (by omega)
  have hsq1 := sq_mono (show (0 : Int) ≤ 1 by omega) hb.1
  unfold bodB
  rw [sIf_e, cTru_e, cOp_e, cOp_e, cOp_e, cOp_e, cVar_e]
  simp only [List.getElem?_cons_zero, List.getElem?_cons_succ, bnd_ok, cVar_e, gI_e, hm, yes2_e, if_true, cC_e, h44, gEq_int, Bool.false_eq_true, if_false, tru_bl, sbnd_ok]
  by_cases h : (b * b - D) % 4 = 0
  · obtain ⟨r, hr⟩ : ∃ r, r = (D - b * b) / 4 := ⟨_, rfl⟩
    have h4 : 4 * r = D - b * b := by omega
    have hwm := with_middle_is (M := M ++ [acc.map eF]) hD (b := b) (r := r) ⟨by omega, by omega⟩ (by omega) h4 (by omega)
    have hl := withM_len (w := wN D) (b := b) (r := r)
    have hx := gExt_last (M := M) (ds := acc.map eF) (zs := (withM (wN D) b r).map eF) (by rw [List.length_map, List.length_map]; omega)
    rw [if_pos h]
    have hbq : ((b * b - D) % 4 == 0) = true := by rw [h]; rfl
    simp only [hbq, if_true]
    rw [sAug_e]
    simp only [List.getElem?_cons_zero, List.getElem?_cons_succ]
    simp only [cCall_e, aCons_e, aNil_e, cOp_e, cVar_e, cC_e, List.getElem?_cons_zero, List.getElem?_cons_succ, bnd_ok, gI_e, hm, yes2_e, if_true, hd4, ← hr, hwm, sbnd_ok, hx, List.map_append, List.set_cons_succ, List.set_cons_zero]
  · have hbq : ((b * b - D) % 4 == 0) = false := by simpa using h
    simp [hbq, h]
theorem loop_B {D : Int} (hD : Dn D) {rest : DL.Env} : ∀ (l : List Int) (acc : List Frm) (x2 : Option DL.D), (∀ b ∈ l, 1 ≤ b ∧ b ≤ wN D) → acc.length + 320 * l.length ≤ 100000 →
    ∃ y2, fLoop (gN 2) bodB (l.map DL.D.int) (some (.int D) :: some (.cel M.length) :: x2 :: rest) (M ++ [acc.map eF]) = some (.nx (some (.int D) :: some (.cel M.length) :: y2 :: rest), M ++ [(acc ++ l.flatMap fun b => if (b * b - D) % 4 = 0 then withM (wN D) b ((D - b * b) / 4) else []).map eF])
  | [], acc, x2, _, _ => ⟨x2, by simp [fLoop]⟩
  | b :: l, acc, x2, hl, hn => by
    have hb := hl b List.mem_cons_self
    rw [List.length_cons] at hn
    rw [List.map_cons, fLoop_cons]
    simp only [gN_e, List.set_cons_succ, List.set_cons_zero]
    rw [bod_B hD hb (by omega)]
    have hhi := hD.hi
    have hsq1 := sq_mono (show (0 : Int) ≤ 1 by omega) hb.1
    obtain ⟨y2, e⟩ := loop_B hD l (acc ++ if (b * b - D) % 4 = 0 then withM (wN D) b ((D - b * b) / 4) else []) (some (.int b)) (fun x hx => hl x (List.mem_cons_of_mem _ hx)) (by
      rw [List.length_append]
      have : (if (b * b - D) % 4 = 0 then withM (wN D) b ((D - b * b) / 4) else []).length ≤ 320 := by
        split
        · have := withM_len (w := wN D) (b := b) (r := (D - b * b) / 4)
          omega
        · simp
      omega)
    refine ⟨y2, ?_⟩
    rw [List.flatMap_cons]
    rw [List.append_assoc] at e
    exact e
end K14
/-! k14, part C8: rings. -/
namespace K14
open PySem DL
variable {M : Store}
def Pr (f : Frm) : Prop := gcdL (rowF f) = 1
instance {f : Frm} : Decidable (Pr f) := inferInstanceAs (Decidable (_ = _))
theorem Pr.act {f : Frm} {u : Chg} (hu : u.det = 1) (h : Pr f) : Pr (f.act u) := prim_act hu h
theorem nx_pr {w : Int} : ∀ (n : Nat) {f : Frm}, Pr f → Pr (nx w n f)
  | 0, _, h => h
  | n + 1, f, h => nx_pr n (Pr.act stp_det h)
def putT (s : List Frm) (f : Frm) : List Frm := if f ∈ s then s else s ++ [f]
def addR (s r : List Frm) : List Frm := r.foldl putT s
theorem mem_putT {s : List Frm} {f x : Frm} : x ∈ putT s f ↔ x ∈ s ∨ x = f := by
  unfold putT
  split
  · rename_i h
    constructor
    · exact .inl
    · rintro (k | rfl)
      · exact k
      · exact h
  · rw [List.mem_append, List.mem_singleton]
theorem mem_addR : ∀ {r s : List Frm} {x : Frm}, x ∈ addR s r ↔ x ∈ s ∨ x ∈ r
  | [], s, x => by
    show x ∈ s ↔ _
    simp
  | f :: r, s, x => by
    have : addR s (f :: r) = addR (putT s f) r := rfl
    rw [this, mem_addR, mem_putT, List.mem_cons, or_assoc]
theorem putT_len (s : List Frm) (f : Frm) : (putT s f).length ≤ s.length + 1 := by
  unfold putT
  split
  · omega
  · rw [List.length_append]; exact Nat.le_refl _
theorem addR_len : ∀ (r s : List Frm), (addR s r).length ≤ s.length + r.length
  | [], s => Nat.le_refl _
  | f :: r, s => by
    have e : addR s (f :: r) = addR (putT s f) r := rfl
    have := addR_len r (putT s f)
    have := putT_len s f
    rw [e, List.length_cons]
    omega
abbrev RS := List (List Frm) × List Frm
noncomputable def rstep (w : Int) (st : RS) (t : Frm) : RS := if t ∉ st.2 ∧ Pr t then (st.1 ++ [ringOf w t], addR st.2 (ringOf w t)) else st
structure RI (D : Int) (A : List Frm) (st : RS) : Prop where
  sub : ∀ r ∈ st.1, ∃ s ∈ A, Pr s ∧ r = ringOf (wN D) s
  seen : ∀ x, x ∈ st.2 ↔ ∃ r ∈ st.1, x ∈ r
  all : ∀ s ∈ A, Pr s → s ∈ st.2
  dis : st.1.Pairwise fun r r' => ∀ x ∈ r, x ∉ r'
  len1 : st.1.length ≤ A.length
  len2 : st.2.length ≤ 1500 * A.length
theorem RI.nil {D : Int} : RI D [] ([], []) := ⟨fun _ h => absurd h List.not_mem_nil, fun x => ⟨fun h => absurd h List.not_mem_nil, fun ⟨_, h, _⟩ => absurd h List.not_mem_nil⟩, fun _ h => absurd h List.not_mem_nil, List.Pairwise.nil, Nat.le_refl _, Nat.le_refl _⟩
theorem RI.step {D : Int} (hD : Dn D) {A : List Frm} {st : RS} (h : RI D A st) (hA : ∀ x ∈ A, x.gap = D ∧ isRed (wN D) x = true) {t : Frm} (ht : t.gap = D ∧ isRed (wN D) t = true) : RI D (A ++ [t]) (rstep (wN D) st t) := by
  have hself : t ∈ ringOf (wN D) t := (mem_ringOf hD ht.1 ht.2).mpr ⟨0, rfl⟩
  unfold rstep
  by_cases c : t ∉ st.2 ∧ Pr t
  · rw [if_pos c]
    refine ⟨fun r hr => ?_, fun x => ?_, fun s hs ps => ?_, ?_, ?_, ?_⟩
    · rcases List.mem_append.mp hr with hr | hr
      · obtain ⟨s, k1, k2, k3⟩ := h.sub r hr
        exact ⟨s, List.mem_append_left _ k1, k2, k3⟩
      · exact ⟨t, List.mem_append_right _ (List.mem_singleton.mpr rfl), c.2, List.mem_singleton.mp hr⟩
    · show x ∈ addR st.2 (ringOf (wN D) t) ↔ _
      rw [mem_addR, h.seen]
      constructor
      · rintro (⟨r, k1, k2⟩ | k)
        · exact ⟨r, List.mem_append_left _ k1, k2⟩
        · exact ⟨_, List.mem_append_right _ (List.mem_singleton.mpr rfl), k⟩
      · rintro ⟨r, k1, k2⟩
        rcases List.mem_append.mp k1 with k1 | k1
        · exact .inl ⟨r, k1, k2⟩
        · rw [List.mem_singleton.mp k1] at k2; exact .inr k2
    · show s ∈ addR st.2 (ringOf (wN D) t)
      rw [mem_addR]
      rcases List.mem_append.mp hs with hs | hs
      · exact .inl (h.all s hs ps)
      · rw [List.mem_singleton.mp hs]; exact .inr hself
    · rw [List.pairwise_append]
      refine ⟨h.dis, List.pairwise_singleton _ _, fun r hr r' hr' x hx hx' => ?_⟩
      rw [List.mem_singleton.mp hr'] at hx'
      obtain ⟨s, k1, k2, k3⟩ := h.sub r hr
      have hs := hA s k1
      obtain ⟨g1, g2, g3⟩ := ringOf_mem hD hs.1 hs.2 (by rw [← k3]; exact hx)
      obtain ⟨_, _, g4⟩ := ringOf_mem hD ht.1 ht.2 hx'
      rw [g4] at g3
      exact c.1 ((h.seen t).mpr ⟨r, hr, by rw [k3, ← g3]; exact hself⟩)
    · rw [List.length_append, List.length_append]
      have := h.len1
      simp
      omega
    · show (addR st.2 (ringOf (wN D) t)).length ≤ _
      have := addR_len (ringOf (wN D) t) st.2
      have := (ringOf_len hD ht.1 ht.2).2
      have := h.len2
      rw [List.length_append, List.length_singleton]
      omega
  · rw [if_neg c]
    have hin : Pr t → t ∈ st.2 := fun p => Classical.byContradiction fun z => c ⟨z, p⟩
    refine ⟨fun r hr => ?_, h.seen, fun s hs ps => ?_, h.dis, ?_, ?_⟩
    · obtain ⟨s, k1, k2, k3⟩ := h.sub r hr
      exact ⟨s, List.mem_append_left _ k1, k2, k3⟩
    · rcases List.mem_append.mp hs with hs | hs
      · exact h.all s hs ps
      · rw [List.mem_singleton.mp hs] at ps ⊢; exact hin ps
    · have := h.len1
      rw [List.length_append]; omega
    · have := h.len2
      rw [List.length_append, List.length_singleton]; omega
noncomputable def rfold (w : Int) (A : List Frm) (st : RS) : RS := A.foldl (rstep w) st
theorem RI.fold {D : Int} (hD : Dn D) : ∀ (B A : List Frm) (st : RS), (∀ x ∈ A ++ B, x.gap = D ∧ isRed (wN D) x = true) → RI D A st → RI D (A ++ B) (rfold (wN D) B st)
  | [], A, st, _, h => by rw [List.append_nil]; exact h
  | t :: B, A, st, hA, h => by
    have := RI.fold hD B (A ++ [t]) _ (by rw [List.append_assoc]; exact hA) (h.step hD (fun x hx => hA x (List.mem_append_left _ hx)) (hA t (by simp)))
    rw [List.append_assoc] at this
    exact this
noncomputable def rowsR (D : Int) : List (List Frm) := (rfold (wN D) (allF D) ([], [])).1
theorem RI_all {D : Int} (hD : Dn D) : RI D (allF D) (rfold (wN D) (allF D) ([], [])) := by
  have := RI.fold hD (allF D) [] ([], []) (fun x hx => (mem_allF hD).mp (by simpa using hx)) RI.nil
  rwa [List.nil_append] at this
theorem mem_rows {D : Int} (hD : Dn D) {r : List Frm} (hr : r ∈ rowsR D) : ∃ s, s.gap = D ∧ isRed (wN D) s = true ∧ Pr s ∧ r = ringOf (wN D) s := by
  obtain ⟨s, k1, k2, k3⟩ := (RI_all hD).sub r hr
  obtain ⟨g1, g2⟩ := (mem_allF hD).mp k1
  exact ⟨s, g1, g2, k2, k3⟩
theorem rows_all {D : Int} (hD : Dn D) {s : Frm} (hs : s.gap = D) (rs : isRed (wN D) s = true) (p : Pr s) : ringOf (wN D) s ∈ rowsR D := by
  have hI := RI_all hD
  obtain ⟨r, hr, hx⟩ := (hI.seen s).mp (hI.all s ((mem_allF hD).mpr ⟨hs, rs⟩) p)
  obtain ⟨t, t1, t2, t3, t4⟩ := mem_rows hD hr
  have := (ringOf_mem hD t1 t2 (by rw [← t4]; exact hx)).2.2
  rw [this, ← t4]
  exact hr
theorem rows_len {D : Int} (hD : Dn D) : (rowsR D).length ≤ 1500 := Nat.le_trans (RI_all hD).len1 (allF_len hD)
theorem flat_mem {D : Int} (hD : Dn D) {x : Frm} : x ∈ (rowsR D).flatten ↔ x ∈ (allF D).filter fun f => decide (Pr f) := by
  rw [List.mem_flatten, List.mem_filter, decide_eq_true_eq]
  constructor
  · rintro ⟨r, hr, hx⟩
    obtain ⟨t, t1, t2, t3, t4⟩ := mem_rows hD hr
    rw [t4] at hx
    obtain ⟨j, hj⟩ := (mem_ringOf hD t1 t2).mp hx
    obtain ⟨g1, g2, _⟩ := ringOf_mem hD t1 t2 hx
    exact ⟨(mem_allF hD).mpr ⟨g1, g2⟩, by rw [hj]; exact nx_pr j t3⟩
  · rintro ⟨h1, h2⟩
    obtain ⟨g1, g2⟩ := (mem_allF hD).mp h1
    exact ⟨_, rows_all hD g1 g2 h2, (mem_ringOf hD g1 g2).mpr ⟨0, rfl⟩⟩
theorem flat_nodup {D : Int} (hD : Dn D) : (rowsR D).flatten.Nodup := by
  have hdis := (RI_all hD).dis
  have hn : ∀ r ∈ rowsR D, r.Nodup := fun r hr => by
    obtain ⟨t, t1, t2, t3, t4⟩ := mem_rows hD hr
    rw [t4]; exact ringOf_nodup hD t1 t2
  unfold rowsR at *
  generalize (rfold (wN D) (allF D) ([], [])).1 = l at *
  clear hD
  induction l with
  | nil => exact List.nodup_nil
  | cons r l ih =>
    rw [List.pairwise_cons] at hdis
    rw [List.flatten_cons, List.nodup_append]
    refine ⟨hn r List.mem_cons_self, ih hdis.2 fun x hx => hn x (List.mem_cons_of_mem _ hx), fun x hx y hy e => ?_⟩
    subst e
    obtain ⟨r', h1, h2⟩ := List.mem_flatten.mp hy
    exact hdis.1 r' h1 x hx h2
/-! the walk -/
def kvT (s : List Frm) : List D := s.map fun f => .tup [eF f, .bl true]
theorem nRow_F {f g : Frm} : nRow (rowF f) = nRow (rowF g) ↔ f = g := ⟨fun h => rowF_inj (nRow_inj.mp h), fun h => by rw [h]⟩
theorem kvAt_T (f : Frm) : ∀ s : List Frm, kvAt (nRow (rowF f)) (kvT s) = if f ∈ s then some (.bl true) else none
  | [] => rfl
  | g :: s => by
    show (if keyN (eRow (rowF g)) = some (nRow (rowF f)) then some (DL.D.bl true) else kvAt (nRow (rowF f)) (kvT s)) = _
    rw [keyN_row, kvAt_T f s]
    by_cases e : f = g
    · subst e
      rw [if_pos rfl, if_pos List.mem_cons_self]
    · rw [if_neg fun z => e (nRow_F.mp (Option.some.inj z)).symm]
      by_cases h : f ∈ s
      · rw [if_pos h, if_pos (List.mem_cons_of_mem _ h)]
      · rw [if_neg h, if_neg fun z => (List.mem_cons.mp z).elim e h]
theorem kvRep_T (f : Frm) : ∀ s : List Frm, kvRep (nRow (rowF f)) (.bl true) (kvT s) = kvT s
  | [] => rfl
  | g :: s => by
    show (if keyN (eRow (rowF g)) = some (nRow (rowF f)) then DL.D.tup [eRow (rowF g), .bl true] else .tup [eRow (rowF g), .bl true]) :: kvRep (nRow (rowF f)) (.bl true) (kvT s) = _
    rw [kvRep_T f s]
    split <;> rfl
theorem kvPut_T (f : Frm) (s : List Frm) : kvPut (nRow (rowF f)) (eF f) (.bl true) (kvT s) = kvT (putT s f) := by
  unfold kvPut putT
  rw [kvAt_T]
  by_cases h : f ∈ s
  · rw [if_pos h, if_pos h, if_pos (show (some (DL.D.bl true)).isSome = true from rfl), kvRep_T]
  · rw [if_neg h, if_neg h, if_neg (by simp)]
    simp [kvT]
theorem dAt_T {S : Store} {n : Nat} {s : List Frm} (h : S[n]? = some (kvT s)) (f : Frm) : dAt n (eF f) S = some (if f ∈ s then some (.bl true) else none) := by
  unfold dAt
  rw [h, eF_row, keyOk_row]
  dsimp only
  rw [kvAt_T]
/-- the store of rings -/
def Sr (M : Store) (F : List Frm) (rows : List (List Frm)) (seen : List Frm) : Store := M ++ [F.map eF, rows.map eRg, kvT seen]
section
variable {F : List Frm} {rows : List (List Frm)} {seen : List Frm}
theorem Sr_len : (Sr M F rows seen).length = M.length + 3 := by simp [Sr]
theorem Sr_0 : (Sr M F rows seen)[M.length]? = some (F.map eF) := by unfold Sr; rw [List.getElem?_append_right (Nat.le_refl _), Nat.sub_self]; rfl
theorem Sr_1 : (Sr M F rows seen)[M.length + 1]? = some (rows.map eRg) := by unfold Sr; rw [List.getElem?_append_right (by omega), show M.length + 1 - M.length = 1 by omega]; rfl
theorem Sr_2 : (Sr M F rows seen)[M.length + 2]? = some (kvT seen) := by unfold Sr; rw [List.getElem?_append_right (by omega), show M.length + 2 - M.length = 2 by omega]; rfl
theorem Sr_set1 {r : List (List Frm)} : (Sr M F rows seen).set (M.length + 1) (r.map eRg) = Sr M F r seen := by
  unfold Sr
  rw [List.set_append_right _ _ (by omega), show M.length + 1 - M.length = 1 by omega]
  rfl
theorem Sr_set2 {s : List Frm} : (Sr M F rows seen).set (M.length + 2) (kvT s) = Sr M F rows s := by
  unfold Sr
  rw [List.set_append_right _ _ (by omega), show M.length + 2 - M.length = 2 by omega]
  rfl
end
noncomputable def bodS7 : SF := (sDPut (cC (.bl true)) (cVar 4) (cVar 7))
theorem put_loop {F : List Frm} {rows : List (List Frm)} {e0 e1 e2 e3 e5 e6 : Option D} : ∀ (r seen : List Frm) (x7 : Option D), seen.length + r.length ≤ 10000000 →
    ∃ y7, fLoop (gN 7) bodS7 (r.map eF) [e0, e1, e2, e3, some (.dic (M.length + 2)), e5, e6, x7] (Sr M F rows seen) = some (.nx [e0, e1, e2, e3, some (.dic (M.length + 2)), e5, e6, y7], Sr M F rows (addR seen r))
  | [], seen, x7, _ => ⟨x7, rfl⟩
  | f :: r, seen, x7, hn => by
    rw [List.length_cons] at hn
    have hb : bodS7 [e0, e1, e2, e3, some (.dic (M.length + 2)), e5, e6, some (eF f)] (Sr M F rows seen) = some (.nx [e0, e1, e2, e3, some (.dic (M.length + 2)), e5, e6, some (eF f)], Sr M F rows (putT seen f)) := by
      unfold bodS7
      rw [sDPut_e]
      simp only [cC_e, sbnd_ok, cVar_e, List.getElem?_cons_zero, List.getElem?_cons_succ, Sr_2]
      rw [eF_row, keyOk_row]
      dsimp only
      have hl : (kvT seen).length = seen.length := List.length_map _
      rw [if_pos (szOk_of (by rw [hl]; omega)), ← eF_row, kvPut_T, Sr_set2]
    obtain ⟨y7, e⟩ := put_loop r (putT seen f) (some (eF f)) (by have := putT_len seen f; omega)
    refine ⟨y7, ?_⟩
    rw [List.map_cons, fLoop_cons]
    simp only [gN_e, List.set_cons_succ, List.set_cons_zero, hb]
    exact e
noncomputable def bodS5 : SF := (sIf (tAndC (cTru (cOp (gDIn true) (cVar 5) (cVar 4))) (cTru (cOp (gEq false) (cCall m_divisor_of (aCons (cVar 5) aNil)) (cC (.int 1))))) (sSeq (sAsg (cCall m_ring (aCons (cVar 5) aNil)) (gN 6)) (sSeq (sExpr (cApp (cVar 3) (cVar 6))) (sFor (iSeq (cVar 6)) (gN 7) bodS7))) sSkip)
theorem ring_self {D : Int} (hD : Dn D) {f : Frm} (hf : f.gap = D) (rf : isRed (wN D) f = true) : m_ring [eF f] M = some (.ok (eRg (ringOf (wN D) f)), M) := by
  obtain ⟨v, h1, h2, e⟩ := ring_is (M := M) hD hf ((red_bq hD hf rf).mono (by omega))
  rw [e, ringOf_cl hD hf rf h2 h1 rfl]
theorem bod_S5 {D : Int} (hD : Dn D) {F : List Frm} {e0 e2 x6 x7 : Option DL.D} {t : Frm} {st : RS} (ht : t.gap = D ∧ isRed (wN D) t = true) (h1 : st.1.length ≤ 10000) (h2 : st.2.length ≤ 5000000) :
    ∃ y6 y7, bodS5 [e0, some (.cel M.length), e2, some (.cel (M.length + 1)), some (.dic (M.length + 2)), some (eF t), x6, x7] (Sr M F st.1 st.2) =
      some (.nx [e0, some (.cel M.length), e2, some (.cel (M.length + 1)), some (.dic (M.length + 2)), some (eF t), y6, y7], Sr M F (rstep (wN D) st t).1 (rstep (wN D) st t).2) := by
  have hin : gDIn true (eF t) (.dic (M.length + 2)) (Sr M F st.1 st.2) = some (.ok (.bl (!decide (t ∈ st.2))), Sr M F st.1 st.2) := by
    unfold gDIn
    dsimp only
    rw [dAt_T Sr_2]
    dsimp only
    by_cases h : t ∈ st.2
    · rw [if_pos h, decide_eq_true h]; rfl
    · rw [if_neg h, decide_eq_false h]; rfl
  have hdv : m_divisor_of [eF t] (Sr M F st.1 st.2) = some (.ok (.int (gcdL (rowF t))), Sr M F st.1 st.2) := divisor_of_is _
  unfold bodS5 rstep
  by_cases c1 : t ∈ st.2
  · refine ⟨x6, x7, ?_⟩
    rw [if_neg (fun z => z.1 c1)]
    simp [hin, c1]
  · by_cases c2 : Pr t
    · have hr := ring_self (M := Sr M F st.1 st.2) hD ht.1 ht.2
      rw [if_pos ⟨c1, c2⟩]
      have hl := (ringOf_len hD ht.1 ht.2).2
      obtain ⟨y7, e⟩ := put_loop (M := M) (F := F) (rows := st.1 ++ [ringOf (wN D) t]) (e0 := e0) (e1 := some (.cel M.length)) (e2 := e2) (e3 := some (.cel (M.length + 1))) (e5 := some (eF t)) (e6 := some (eRg (ringOf (wN D) t))) (ringOf (wN D) t) st.2 x7 (by omega)
      refine ⟨some (eRg (ringOf (wN D) t)), y7, ?_⟩
      have hg : (gcdL (rowF t) == 1) = true := by
        have : gcdL (rowF t) = 1 := c2
        rw [this]; rfl
      have hif : tAndC (cTru (cOp (gDIn true) (cVar 5) (cVar 4))) (cTru (cOp (gEq false) (cCall m_divisor_of (aCons (cVar 5) aNil)) (cC (.int 1)))) [e0, some (.cel M.length), e2, some (.cel (M.length + 1)), some (.dic (M.length + 2)), some (eF t), x6, x7] (Sr M F st.1 st.2) = some (.ok true, Sr M F st.1 st.2) := by
        simp [hin, c1, hdv, hg]
      rw [sIf_e, hif, sbnd_ok, if_pos rfl]
      rw [sSeq_nx (en1 := [e0, some (.cel M.length), e2, some (.cel (M.length + 1)), some (.dic (M.length + 2)), some (eF t), some (eRg (ringOf (wN D) t)), x7]) (M1 := Sr M F st.1 st.2) (by simp [hr])]
      have ha : sExpr (cApp (cVar 3) (cVar 6)) [e0, some (.cel M.length), e2, some (.cel (M.length + 1)), some (.dic (M.length + 2)), some (eF t), some (eRg (ringOf (wN D) t)), x7] (Sr M F st.1 st.2) = some (.nx [e0, some (.cel M.length), e2, some (.cel (M.length + 1)), some (.dic (M.length + 2)), some (eF t), some (eRg (ringOf (wN D) t)), x7], Sr M F (st.1 ++ [ringOf (wN D) t]) st.2) := by
        have hz : szOk ((st.1.map eRg).length + 1) = true := szOk_of (by rw [List.length_map]; omega)
        have hlt : M.length + 1 < (Sr M F st.1 st.2).length := by rw [Sr_len]; omega
        have hm : st.1.map eRg ++ [eRg (ringOf (wN D) t)] = (st.1 ++ [ringOf (wN D) t]).map eRg := by simp
        simp only [sExpr_e, cApp_e, cVar_e, List.getElem?_cons_zero, List.getElem?_cons_succ, bnd_ok]
        rw [if_pos hlt]
        simp only [Sr_1]
        rw [if_pos hz, hm, Sr_set1, sbnd_ok]
      rw [sSeq_nx ha, sFor_e]
      have hi : iSeq (cVar 6) [e0, some (.cel M.length), e2, some (.cel (M.length + 1)), some (.dic (M.length + 2)), some (eF t), some (eRg (ringOf (wN D) t)), x7] (Sr M F (st.1 ++ [ringOf (wN D) t]) st.2) = some (.ok ((ringOf (wN D) t).map eF), Sr M F (st.1 ++ [ringOf (wN D) t]) st.2) := by
        simp [eRg]
      rw [hi, sbnd_ok]
      exact e
    · refine ⟨x6, x7, ?_⟩
      rw [if_neg (fun z => c2 z.2)]
      have hg : (gcdL (rowF t) == 1) = false := by
        have : ¬ gcdL (rowF t) = 1 := c2
        simpa using this
      simp [hin, c1, hdv, hg]
theorem loop_S5 {D : Int} (hD : Dn D) {F : List Frm} (hF : F.length ≤ 1500) {e0 e2 : Option DL.D} : ∀ (B A : List Frm) (st : RS) (x5 x6 x7 : Option DL.D), A ++ B = F → (∀ x ∈ A ++ B, x.gap = D ∧ isRed (wN D) x = true) → RI D A st →
    ∃ y5 y6 y7, fLoopP M.length (F.map eF) (gN 5) bodS5 (B.map eF) [e0, some (.cel M.length), e2, some (.cel (M.length + 1)), some (.dic (M.length + 2)), x5, x6, x7] (Sr M F st.1 st.2) =
      some (.nx [e0, some (.cel M.length), e2, some (.cel (M.length + 1)), some (.dic (M.length + 2)), y5, y6, y7], Sr M F (rfold (wN D) B st).1 (rfold (wN D) B st).2)
  | [], A, st, x5, x6, x7, _, _, _ => ⟨x5, x6, x7, by
    rw [List.map_nil]
    unfold fLoopP
    rw [if_pos Sr_0]
    rfl⟩
  | t :: B, A, st, x5, x6, x7, hAB, hA, h => by
    have hl1 := h.len1
    have hl2 := h.len2
    have hAF : A.length ≤ 1500 := by rw [← hAB, List.length_append] at hF; omega
    have ht := hA t (by simp)
    obtain ⟨y6, y7, e⟩ := bod_S5 (M := M) hD (F := F) (e0 := e0) (e2 := e2) (x6 := x6) (x7 := x7) (t := t) (st := st) ht (by omega) (by omega)
    obtain ⟨z5, z6, z7, e2'⟩ := loop_S5 hD hF (e0 := e0) (e2 := e2) B (A ++ [t]) (rstep (wN D) st t) (some (eF t)) y6 y7 (by rw [List.append_assoc]; exact hAB) (by rw [List.append_assoc]; exact hA) (h.step hD (fun x hx => hA x (List.mem_append_left _ hx)) ht)
    refine ⟨z5, z6, z7, ?_⟩
    rw [List.map_cons]
    unfold fLoopP
    rw [if_pos Sr_0]
    simp only [gN_e, List.set_cons_succ, List.set_cons_zero, e]
    exact e2'
end K14
/-! k14, part C9: rings, sorted. -/
namespace K14
open PySem DL
variable {M : Store}
def pRg (r : List Frm) : PyData := pTab (r.map rowF)
def pF (f : Frm) : PyData := pRow (rowF f)
theorem toPy_Rg (r : List Frm) : toPy (eRg r) = some (pRg r) := by rw [eRg_tab]; exact toPy_tab
theorem toPy_F (f : Frm) : toPy (eF f) = some (pF f) := toPy_row
theorem alike_tabs : ∀ {s t : List (List Int)}, PySem.W.alikeAll (s.map pRow) (t.map pRow) = true
  | [], _ => by simp [PySem.W.alikeAll]
  | _ :: _, [] => by simp [PySem.W.alikeAll]
  | _ :: s, _ :: t => by
    rw [List.map_cons, List.map_cons]
    simp only [PySem.W.alikeAll, alike_row, Bool.true_and]
    exact alike_tabs
theorem alike_Rg {s t : List Frm} : PySem.W.alike (pRg s) (pRg t) = true := by
  unfold pRg pTab
  simp only [PySem.W.alike]
  exact alike_tabs
theorem srt_Rg {l : List (List Frm)} (h : ∀ r ∈ l, r ≠ []) (hl : l.length ≤ 16777216) : SrtOk (l.map pRg) := by
  refine ⟨fun d hd d' hd' => ?_, .inl fun d hd => ?_, fun d hd => ?_, by simpa using hl⟩
  · obtain ⟨r, hr, rfl⟩ := List.mem_map.mp hd
    obtain ⟨s, hs, rfl⟩ := List.mem_map.mp hd'
    exact alike_Rg
  · obtain ⟨r, hr, rfl⟩ := List.mem_map.mp hd
    cases r with
    | nil => exact absurd rfl (h _ hr)
    | cons a r => exact ⟨_, _, rfl⟩
  · obtain ⟨r, hr, rfl⟩ := List.mem_map.mp hd
    exact Nat.le_trans depth_tab (by decide)
theorem srt_F {l : List Frm} (hl : l.length ≤ 16777216) : SrtOk (l.map pF) := by
  refine ⟨fun d hd d' hd' => ?_, .inl fun d hd => ?_, fun d hd => ?_, by simpa using hl⟩
  · obtain ⟨r, hr, rfl⟩ := List.mem_map.mp hd
    obtain ⟨s, hs, rfl⟩ := List.mem_map.mp hd'
    exact alike_row
  · obtain ⟨r, hr, rfl⟩ := List.mem_map.mp hd
    exact ⟨_, _, rfl⟩
  · obtain ⟨r, hr, rfl⟩ := List.mem_map.mp hd
    exact Nat.le_trans depth_row (by decide)
theorem gSort_of {α : Type} {enc : α → D} {py : α → PyData} (hp : ∀ x, toPy (enc x) = some (py x)) {l : List α} (hs : SrtOk (l.map py)) {d : D} (hd : itemsOf M d = some (l.map enc)) (ht : ∀ es, d ≠ .tup es) : gSort [d] M = some (.ok (.imm ((l.mergeSort (PySem.W.dataLe false py)).map enc)), M) := by
  unfold gSort
  dsimp only
  rw [hd]
  dsimp only
  rw [toPys_map hp]
  dsimp only
  rw [if_pos ⟨hs, ht⟩]
  have hz : (l.map enc).zip (l.map py) = l.map fun x => (enc x, py x) := by rw [List.zip_map']
  rw [hz, sort_map, List.map_map]
  rfl
theorem gSortT_of {α : Type} {enc : α → D} {py : α → PyData} (hp : ∀ x, toPy (enc x) = some (py x)) {l : List α} (hs : SrtOk (l.map py)) : gSortT [.tup (l.map enc)] M = some (.ok (.imm ((l.mergeSort (PySem.W.dataLe false py)).map enc)), M) := by
  unfold gSortT
  dsimp only
  rw [toPys_map hp]
  dsimp only
  rw [if_pos hs]
  have hz : (l.map enc).zip (l.map py) = l.map fun x => (enc x, py x) := by rw [List.zip_map']
  rw [hz, sort_map, List.map_map]
  rfl
theorem le_total {α : Type} (py : α → PyData) : PySem.W.TotalLe (PySem.W.dataLe false py) := PySem.W.sortLe_total _ _ _
theorem le_F {f g : Frm} : PySem.W.dataLe false pF f g = !ltF g f := by
  rw [← dataLt3 g f]
  rfl
/-- lists with the same forms, sorted -/
theorem sort_perm {l m : List Frm} (h : l.Perm m) : l.mergeSort (PySem.W.dataLe false pF) = m.mergeSort (PySem.W.dataLe false pF) := by
  refine List.Perm.eq_of_pairwise (le := fun a b => PySem.W.dataLe false pF a b = true) (fun a b _ _ h1 h2 => ?_) (PySem.W.sort_pairwise (le_total pF) l) (PySem.W.sort_pairwise (le_total pF) m) ((List.mergeSort_perm _ _).trans (h.trans (List.mergeSort_perm _ _).symm))
  rw [le_F, Bool.not_eq_true'] at h1 h2
  exact ltF_tri h2 h1
/-- the rings, sorted -/
noncomputable def TT (D : Int) : List (List Frm) := (rowsR D).mergeSort (PySem.W.dataLe false pRg)
theorem TT_perm (D : Int) : (TT D).Perm (rowsR D) := List.mergeSort_perm _ _
theorem mem_TT {D : Int} {r : List Frm} : r ∈ TT D ↔ r ∈ rowsR D := (TT_perm D).mem_iff
theorem TT_sorted (D : Int) : (TT D).mergeSort (PySem.W.dataLe false pRg) = TT D := List.mergeSort_of_pairwise (PySem.W.sort_pairwise (le_total pRg) _)
theorem TT_len {D : Int} (hD : Dn D) : (TT D).length ≤ 1500 := by rw [(TT_perm D).length_eq]; exact rows_len hD
theorem TT_ne {D : Int} (hD : Dn D) : ∀ r ∈ TT D, r ≠ [] := fun r hr => by
  obtain ⟨s, s1, s2, s3, s4⟩ := mem_rows hD (mem_TT.mp hr)
  rw [s4]
  intro z
  have := (ringOf_len hD s1 s2).1
  rw [z] at this
  exact absurd this (by simp)
theorem flat_sort {D : Int} (hD : Dn D) : (TT D).flatten.mergeSort (PySem.W.dataLe false pF) = ((allF D).filter fun f => decide (Pr f)).mergeSort (PySem.W.dataLe false pF) := by
  refine sort_perm ((TT_perm D).flatten.trans ?_)
  exact (List.perm_ext_iff_of_nodup (flat_nodup hD) (List.Nodup.sublist List.filter_sublist allF_nodup)).mpr fun x => flat_mem hD
theorem flat_len {D : Int} (hD : Dn D) : (TT D).flatten.length ≤ 1500 := by
  rw [((TT_perm D).flatten.trans ((List.perm_ext_iff_of_nodup (flat_nodup hD) (List.Nodup.sublist List.filter_sublist allF_nodup)).mpr fun x => flat_mem hD)).length_eq]
  exact Nat.le_trans (List.length_filter_le _ _) (allF_len hD)
/-- the form of 1 -/
def unitQ (D : Int) : Frm := ⟨1, D % 2, (D % 2 - D) / 4⟩
theorem unitQ_n {D : Int} (h1 : D % 4 ≤ 1) (h2 : 5 ≤ D) (h3 : D ≤ 604) : ∃ e q : Int, D % 2 = e ∧ (D % 2 - D) / 4 = q ∧ (e = 0 ∨ e = 1) ∧ 4 * q = e - D ∧ -160 ≤ q ∧ q ≤ 0 := ⟨D % 2, (D % 2 - D) / 4, rfl, rfl, by omega, by omega, by omega, by omega⟩
theorem unit_bq {e q : Int} (h : e = 0 ∨ e = 1) (h1 : -160 ≤ q) (h2 : q ≤ 0) : Bq 700 ⟨1, e, q⟩ := ⟨(by decide : (-700 : Int) ≤ 1), (by decide : (1 : Int) ≤ 700), by show -700 ≤ e; omega, by show e ≤ 700; omega, by show -700 ≤ q; omega, by show q ≤ 700; omega⟩
theorem unit_gap {D e q : Int} (h : e = 0 ∨ e = 1) (h4 : 4 * q = e - D) : (⟨1, e, q⟩ : Frm).gap = D := by
  show e * e - 4 * 1 * q = D
  rcases h with rfl | rfl <;> omega
theorem unitQ_gap {D : Int} (hD : Dn D) : (unitQ D).gap = D ∧ Bq 700 (unitQ D) := by
  obtain ⟨e, q, h1, h2, h3, h4, h5, h6⟩ := unitQ_n hD.mod hD.lo hD.hi
  unfold unitQ
  rw [h2, h1]
  exact ⟨unit_gap h3 h4, unit_bq h3 h5 h6⟩
theorem allF_eq {D : Int} : (rgI 1 (wN D)).flatMap (fun b => if (b * b - D) % 4 = 0 then withM (wN D) b ((D - b * b) / 4) else []) = allF D := rfl
theorem gTuple_Tl {ds : List D} : gTuple [.imm ds] M = some (.ok (.tup ds), M) := rfl
theorem unit_arg {D : Int} (hD : Dn D) {rest : DL.Env} : cIf (cTru (cOp gLt (cOp gMod (cVar 0) (cC (.int 4))) (cC (.int 2)))) (cTup (aCons (cC (.int 1)) (aCons (cOp gMod (cVar 0) (cC (.int 2))) (aCons (cOp gDiv (cOp gSub (cOp gMod (cVar 0) (cC (.int 2))) (cVar 0)) (cC (.int 4))) aNil)))) (cTup (aCons (cC (.int 0)) (aCons (cC (.int 0)) (aCons (cC (.int 0)) aNil)))) (some (.int D) :: rest) M = some (.ok (eF (unitQ D)), M) := by
  have h1 := hD.mod
  have h4 : modC D 4 = true := modC_of (by omega)
  have h2 : modC D 2 = true := modC_of (by omega)
  have hd : divC (D % 2 - D) 4 = true := divC_of (by omega) (by omega)
  have hlt : D % 4 < 2 := by omega
  have : eF (unitQ D) = .tup [.int 1, .int (D % 2), .int ((D % 2 - D) / 4)] := rfl
  rw [this]
  simp [h4, h2, hd, hlt]
theorem smI_w {w : Int} (h : 0 ≤ w ∧ w ≤ 26) : (smI 1 && smI (w + 1)) = true := by
  rw [smI_of (show -(2 ^ 62) ≤ w + 1 by omega) (show w + 1 < 2 ^ 62 by omega)]; decide
theorem rng_w {w : Int} (h : 0 ≤ w ∧ w ≤ 26) {a : AF} {en : DL.Env} {M1 : Store} (ha : a en M = some (.ok [.int 1, .int (w + 1)], M1)) : iRng2C a en M = some (.ok ((rgI 1 w.toNat).map DL.D.int), M1) := by
  rw [iRng2_e, ha, bnd_ok]
  dsimp only
  rw [if_pos (smI_w h), rgD_eq, show (w + 1 - 1).toNat = w.toNat by omega]
theorem rings_is {D : Int} (hD : Dn D) : m_rings [.int D] M = some (.ok (.tup ((TT D).map eRg)), M) := by
  obtain ⟨ug, ub⟩ := unitQ_gap hD
  have hw := wN_le (D := D)
  have hw0 := hD.wlo
  have hchk := check_open_is (M := M) hD ug ub (by omega)
  obtain ⟨y2, hb⟩ := loop_B (M := M) hD (rest := [none, none, none, none, none]) (rgI 1 (wN D)) [] none (fun b hb => by have := mem_rgI.mp hb; omega) (by rw [rg_len]; simp; omega)
  rw [List.nil_append, allF_eq] at hb
  have hF := allF_len hD
  obtain ⟨y5, y6, y7, hs⟩ := loop_S5 (M := M) hD (F := allF D) hF (e0 := some (.int D)) (e2 := y2) (allF D) [] ([], []) none none none rfl (fun x hx => (mem_allF hD).mp (by simpa using hx)) RI.nil
  have hr := wroot_is (M := M ++ [[]]) (x := D) (by have := hD.lo; omega) (by have := hD.hi; omega)
  unfold m_rings f_rings
  rw [mDef_1, show start0 8 [DL.D.int D] = [some (.int D), none, none, none, none, none, none, none] from rfl]
  rw [sSeq_nx (en1 := [some (.int D), none, none, none, none, none, none, none]) (M1 := M) (by
    rw [sExpr_e, cCall_e, aCons_e, unit_arg hD]
    simp only [bnd_ok, aNil_e, hchk, sbnd_ok])]
  rw [sSeq_nx (en1 := [some (.int D), some (.cel M.length), none, none, none, none, none, none]) (M1 := M ++ [[]]) (by simp)]
  have h1 : sFor (iRng2C (aCons (cC (.int 1)) (aCons (cOp gAddA (cCall m_root (aCons (cVar 0) aNil)) (cC (.int 1))) aNil))) (gN 2) bodB [some (.int D), some (.cel M.length), none, none, none, none, none, none] (M ++ [[]]) = some (.nx [some (.int D), some (.cel M.length), y2, none, none, none, none, none], M ++ [(allF D).map eF]) := by
    have hi : iRng2C (aCons (cC (.int 1)) (aCons (cOp gAddA (cCall m_root (aCons (cVar 0) aNil)) (cC (.int 1))) aNil)) [some (.int D), some (.cel M.length), none, none, none, none, none, none] (M ++ [[]]) = some (.ok ((rgI 1 (wN D)).map DL.D.int), M ++ [[]]) := by
      have hq := rng_w (M := M ++ [[]]) (en := [some (.int D), some (.cel M.length), none, none, none, none, none, none]) (a := aCons (cC (.int 1)) (aCons (cOp gAddA (cCall m_root (aCons (cVar 0) aNil)) (cC (.int 1))) aNil)) (M1 := M ++ [[]]) (w := (wN D : Int)) ⟨by omega, hw⟩ (by
        rw [aCons_e, cC_e, bnd_ok, aCons_e, cOp_e, cCall_e, aCons_e, cVar_e]
        simp only [List.getElem?_cons_zero, bnd_ok, aNil_e, hr, cC_e, gAddA_i])
      rw [Int.toNat_natCast] at hq
      exact hq
    rw [sFor_e, hi, sbnd_ok]
    exact hb
  unfold bodB at h1
  rw [sSeq_nx h1]
  rw [sSeq_nx (en1 := [some (.int D), some (.cel M.length), y2, some (.cel (M.length + 1)), none, none, none, none]) (M1 := M ++ [(allF D).map eF] ++ [[]]) (by simp)]
  have e3 : M ++ [(allF D).map eF] ++ [[]] ++ [[]] = Sr M (allF D) [] [] := by simp [Sr, kvT]
  rw [sSeq_nx (en1 := [some (.int D), some (.cel M.length), y2, some (.cel (M.length + 1)), some (.dic (M.length + 2)), none, none, none]) (M1 := Sr M (allF D) [] []) (by
    rw [← e3]
    simp [cDic0])]
  have h2 : sForP (iCel (cVar 1)) (gN 5) bodS5 [some (.int D), some (.cel M.length), y2, some (.cel (M.length + 1)), some (.dic (M.length + 2)), none, none, none] (Sr M (allF D) [] []) = some (.nx [some (.int D), some (.cel M.length), y2, some (.cel (M.length + 1)), some (.dic (M.length + 2)), y5, y6, y7], Sr M (allF D) (rfold (wN D) (allF D) ([], [])).1 (rfold (wN D) (allF D) ([], [])).2) := by
    unfold sForP iCel
    simp only [cVar_e, List.getElem?_cons_zero, List.getElem?_cons_succ, bnd_ok]
    rw [if_pos (by rw [Sr_len]; omega), sbnd_ok, Sr_0]
    exact hs
  unfold bodS5 bodS7 at h2
  rw [sSeq_nx h2]
  have hso : gSort [.cel (M.length + 1)] (Sr M (allF D) (rfold (wN D) (allF D) ([], [])).1 (rfold (wN D) (allF D) ([], [])).2) = some (.ok (.imm ((TT D).map eRg)), Sr M (allF D) (rfold (wN D) (allF D) ([], [])).1 (rfold (wN D) (allF D) ([], [])).2) := by
    refine gSort_of (l := rowsR D) toPy_Rg (srt_Rg (fun r hr => TT_ne hD r (mem_TT.mpr hr)) (by have := rows_len hD; omega)) ?_ (fun _ z => nomatch z)
    exact Sr_1
  simp only [sRet_e, cCall_e, aCons_e, aNil_e, cVar_e, List.getElem?_cons_zero, List.getElem?_cons_succ, bnd_ok, hso, gTuple_l, sbnd_ok, fin_rt]
  unfold Sr
  exact gcF_ok (by rw [clo_tup]; exact clos_map fun _ => clo_eRg) rfl
end K14
/-! k14, part E1: the law's own root, divisors, reduced forms, steps. -/
namespace K14
open PySem DL
variable {M : Store}
theorem l_gcd_loop : ∀ (m o : Nat), sWhile (cTru (cOp gGt (cVar 1) (cC (.int 0)))) (sPar 0 1 (aCons (cVar 1) (aCons (cOp gMod (cVar 0) (cVar 1)) aNil))) [some (.int o), some (.int m)] M = some (.nx [some (.int (Nat.gcd o m)), some (.int 0)], M) := by
  intro m
  induction m using Nat.strongRecOn with
  | _ m ih =>
    intro o
    cases m with
    | zero =>
      have h : sWhile (cTru (cOp gGt (cVar 1) (cC (.int 0)))) (sPar 0 1 (aCons (cVar 1) (aCons (cOp gMod (cVar 0) (cVar 1)) aNil))) [some (.int o), some (.int (0 : Nat))] M = some (.nx [some (.int o), some (.int (0 : Nat))], M) := sWhile_stop (M1 := M) (by simp)
      rw [h]; simp
    | succ m =>
      refine sWhile_more (en1 := [some (.int (m + 1 : Nat)), some (.int ((o % (m + 1) : Nat) : Int))]) (M1 := M) (M2 := M) ?_ ?_ ?_
      · simp
        try omega
      · simp [modC]
      · rw [ih (o % (m + 1)) (Nat.mod_lt _ (Nat.succ_pos m)) (m + 1)]
        rw [Nat.gcd_comm (m + 1), ← Nat.gcd_rec, Nat.gcd_comm]
theorem l_gcd_is (a b : Int) : m_l_gcd [.int a, .int b] M = some (.ok (.int (Int.gcd a b)), M) := by
  unfold m_l_gcd f_l_gcd
  simp [abs_nat, l_gcd_loop]
  rfl
/-! the law's root -/
noncomputable def tsA : TF := cTru (cOp gLe (cOp gMul (cVar 2) (cVar 2)) (cVar 0))
noncomputable def bdA : SF := sAsg (cOp gMul (cVar 2) (cC (.int 2))) (gN 2)
theorem mul_sm {h k : Int} (h0 : 0 ≤ h) (h1 : h < 2 ^ 40) : mulC h k = true := mulC_l (by omega) (by omega)
theorem lroot_up {x : Int} (hx : 0 ≤ x) (hb : x < 2 ^ 62) {e1 e3 : Option D} : ∀ (n : Nat) (h : Int), 1 ≤ h → h < 2 ^ 32 → (x + 1 - h).toNat = n → ∃ k : Int, h ≤ k ∧ k < 2 ^ 32 ∧ x < k * k ∧ sWhile tsA bdA [some (.int x), e1, some (.int h), e3] M = some (.nx [some (.int x), e1, some (.int k), e3], M) := by
  intro n
  induction n using Nat.strongRecOn with
  | ind n ih =>
    intro h h1 h2 hn
    have hm : mulC h h = true := mul_sm (by omega) (by omega)
    have hm2 : mulC h 2 = true := mul_sm (by omega) (by omega)
    rcases Int.lt_or_le x (h * h) with z | z
    · refine ⟨h, Int.le_refl _, h2, z, sWhile_stop (M1 := M) ?_⟩
      have hle : ¬ h * h ≤ x := by omega
      unfold tsA
      simp [hm, hle]
    · have hlt : h < 2 ^ 31 := by
        rcases Int.lt_or_le h (2 ^ 31) with y | y
        · exact y
        · have := Int.mul_le_mul y y (by omega) (by omega)
          omega
      have hle : h ≤ x := by
        have := Int.mul_le_mul_of_nonneg_right h1 (show 0 ≤ h by omega)
        omega
      obtain ⟨k, k1, k2, k3, k4⟩ := ih (x + 1 - h * 2).toNat (by omega) (h * 2) (by omega) (by omega) rfl
      refine ⟨k, by omega, k2, k3, sWhile_more (M1 := M) (M2 := M) (en1 := [some (.int x), e1, some (.int (h * 2)), e3]) ?_ ?_ k4⟩
      · unfold tsA
        simp [hm, z]
      · unfold bdA
        simp [hm2]
noncomputable def tsB : TF := cTru (cOp gGt (cOp gSub (cVar 2) (cVar 1)) (cC (.int 1)))
noncomputable def bdB : SF := (sSeq (sAsg (cOp gDiv (cOp gAddA (cVar 1) (cVar 2)) (cC (.int 2))) (gN 3)) (sIf (cTru (cOp gLe (cOp gMul (cVar 3) (cVar 3)) (cVar 0))) (sAsg (cVar 3) (gN 1)) (sAsg (cVar 3) (gN 2))))
theorem lroot_in {x : Int} : ∀ (n : Nat) (l h : Int) (x3 : Option D), 0 ≤ l → l < h → h < 2 ^ 32 → l * l ≤ x → x < h * h → (h - l).toNat = n → ∃ (r : Int) (y2 y3 : Option D), IsRoot x r ∧ sWhile tsB bdB [some (.int x), some (.int l), some (.int h), x3] M = some (.nx [some (.int x), some (.int r), y2, y3], M) := by
  intro n
  induction n using Nat.strongRecOn with
  | ind n ih =>
    intro l h x3 h0 h1 h2 h3 h4 hn
    by_cases hgt : h - l > 1
    · obtain ⟨m, hm⟩ : ∃ m, m = (l + h) / 2 := ⟨_, rfl⟩
      have hmul : mulC m m = true := mul_sm (by omega) (by omega)
      have hd : divC (l + h) 2 = true := divC_of (by omega) (by omega)
      have t1 : tsB [some (.int x), some (.int l), some (.int h), x3] M = some (.ok true, M) := by
        unfold tsB
        simp [hgt]
      by_cases hle : m * m ≤ x
      · obtain ⟨r, y2, y3, k1, k2⟩ := ih (h - m).toNat (by omega) m h (some (.int m)) (by omega) (by omega) h2 hle h4 rfl
        refine ⟨r, y2, y3, k1, sWhile_more (M1 := M) (M2 := M) (en1 := [some (.int x), some (.int m), some (.int h), some (.int m)]) t1 ?_ k2⟩
        unfold bdB
        simp [hd, ← hm, hmul, hle]
      · obtain ⟨r, y2, y3, k1, k2⟩ := ih (m - l).toNat (by omega) l m (some (.int m)) h0 (by omega) (by omega) h3 (by omega) rfl
        refine ⟨r, y2, y3, k1, sWhile_more (M1 := M) (M2 := M) (en1 := [some (.int x), some (.int l), some (.int m), some (.int m)]) t1 ?_ k2⟩
        unfold bdB
        simp [hd, ← hm, hmul, hle]
    · have e : h = l + 1 := by omega
      refine ⟨l, some (.int h), x3, ⟨h0, h3, by rw [← e]; exact h4⟩, sWhile_stop (M1 := M) ?_⟩
      unfold tsB
      simp [hgt]
theorem l_root_is {x : Int} (hx : 0 ≤ x) (hb : x < 2 ^ 62) : ∃ r, IsRoot x r ∧ m_l_root [.int x] M = some (.ok (.int r), M) := by
  obtain ⟨k, k1, k2, k3, k4⟩ := lroot_up (M := M) hx hb (e1 := some (.int 0)) (e3 := none) _ 1 (by omega) (by omega) rfl
  obtain ⟨r, y2, y3, j1, j2⟩ := lroot_in (M := M) (x := x) _ 0 k none (by omega) (by omega) k2 (by omega) k3 rfl
  refine ⟨r, j1, ?_⟩
  unfold m_l_root f_l_root
  rw [mDef_1, show start0 4 [DL.D.int x] = [some (.int x), none, none, none] from rfl]
  rw [sSeq_nx (en1 := [some (.int x), some (.int 0), some (.int 1), none]) (M1 := M) (by simp)]
  unfold tsA bdA at k4
  rw [sSeq_nx k4]
  unfold tsB bdB at j2
  rw [sSeq_nx j2]
  simp
theorem l_root_w {D : Int} (h0 : 0 ≤ D) (h1 : D ≤ 650) : m_l_root [.int D] M = some (.ok (.int (wN D)), M) := by
  obtain ⟨r, hr, e⟩ := l_root_is (M := M) h0 (show D < 2 ^ 62 by omega)
  rw [e, root_unique hr (wN_is h0 h1)]
/-! divisors -/
theorem l_divisors_is {r : Int} (h0 : 0 ≤ r) (h1 : r ≤ 1000) : m_l_divisors [.int r] M = some (.ok (.imm (((rgI 1 r.toNat).filter fun a => r % a == 0).map DL.D.int)), M) := by
  have hs : (smI 1 && smI (r + 1)) = true := by rw [smI_of (show -(2 ^ 62) ≤ r + 1 by omega) (show r + 1 < 2 ^ 62 by omega)]; decide
  have hi : iRng2C (aCons (cC (.int 1)) (aCons (cOp gAddA (cVar 0) (cC (.int 1))) aNil)) [some (.int r), none] M = some (.ok ((rgI 1 r.toNat).map DL.D.int), M) := by
    rw [iRng2_e, aCons_e, cC_e, bnd_ok, aCons_e, cOp_e, cVar_e]
    simp only [List.getElem?_cons_zero, bnd_ok, cC_e, gAddA_i, aNil_e]
    rw [if_pos hs, rgD_eq, show (r + 1 - 1).toNat = r.toNat by omega]
  have hc := lc_of (M := M) (en := [some (.int r), none]) (g := gN 1) (t := cTru (cOp (gEq false) (cOp gMod (cVar 0) (cVar 1)) (cC (.int 0)))) (f := cVar 1) (mk := mkI) (vs := [1]) DL.D.int (fun a => r % a == 0) DL.D.int (rgI 1 r.toNat) hi (by rw [rg_len]; omega) fun a ha => ⟨[some (.int r), some (.int a)], by simp, by
      have := mem_rgI.mp ha
      have hm : modC r a = true := modC_of (by omega)
      simp [hm], fun _ => by simp⟩
  unfold m_l_divisors f_l_divisors
  rw [mDef_1, show start0 2 [DL.D.int r] = [some (.int r), none] from rfl]
  have hc' : cLc (iRng2C (aCons (cC (.int 1)) (aCons (cOp gAddA (cVar 0) (cC (.int 1))) aNil))) (gN 1) (cTru (cOp (gEq false) (cOp gMod (cVar 0) (cVar 1)) (cC (.int 0)))) (cVar 1) [1] [some (.int r), none] M = some (.ok (.imm (((rgI 1 r.toNat).filter fun a => r % a == 0).map DL.D.int)), M) := hc
  rw [sRet_e, hc', sbnd_ok, fin_rt]
  exact gcF_ok0 (by rw [clo_imm]; exact clos_map fun _ => rfl) rfl
/-! reduced, as the law looks -/
theorem lred_eq {D : Int} (hD : Dn D) {a b : Int} (ha : 0 ≤ a) (ha2 : a ≤ 1000) (hb : -1000 ≤ b ∧ b ≤ 1000) : (if b ≤ 0 ∨ b * b ≥ D then false else (decide (2 * a - b < 0) || decide ((2 * a - b) * (2 * a - b) < D)) && decide ((2 * a + b) * (2 * a + b) > D)) = ((decide (0 < b) && decide (b ≤ wN D)) && (decide (wN D - b < 2 * a) && decide (2 * a ≤ wN D + b))) := by
  obtain ⟨r1, r2, r3⟩ := hD.root
  have r4 := hD.wlt
  generalize (wN D : Int) = w at *
  have below : ∀ y : Int, 0 ≤ y → (y * y < D ↔ y ≤ w) := by
    intro y hy
    constructor
    · intro h
      rcases Int.lt_or_le w y with z | z
      · have := sq_mono (show 0 ≤ w + 1 by omega) (show w + 1 ≤ y by omega)
        omega
      · exact z
    · intro h
      have := sq_mono hy h
      omega
  by_cases h1 : 0 < b
  · have e1 := below b (by omega)
    by_cases h2 : b ≤ w
    · have h3 := e1.mpr h2
      rw [if_neg (by omega), decide_eq_true h1, decide_eq_true h2, Bool.and_self, Bool.true_and, Bool.and_comm]
      congr 1
      · have e2 := below (2 * a + b) (by omega)
        rw [Bool.eq_iff_iff, decide_eq_true_eq, decide_eq_true_eq]
        constructor
        · intro h
          rcases Int.lt_or_le (w - b) (2 * a) with z | z
          · exact z
          · have := e2.mpr (by omega); omega
        · intro h
          rcases Int.lt_or_le D ((2 * a + b) * (2 * a + b)) with z | z
          · exact z
          · exfalso
            have ne := hD.sq (2 * a + b)
            have := e2.mp (by omega)
            omega
      · rw [Bool.eq_iff_iff, Bool.or_eq_true, decide_eq_true_eq, decide_eq_true_eq, decide_eq_true_eq]
        by_cases h4 : 2 * a - b < 0
        · constructor
          · intro _; omega
          · intro _; exact .inl h4
        · have e3 := below (2 * a - b) (by omega)
          rw [e3]
          omega
    · have h3 : ¬ b * b < D := fun z => h2 (e1.mp z)
      rw [if_pos (by omega), decide_eq_false h2]
      simp
  · rw [if_pos (by omega), decide_eq_false h1]
    simp
theorem l_isred_is {D : Int} (hD : Dn D) {g : Frm} (hb : Bq 700 g) : m_l_is_reduced [eF g, .int D] M = some (.ok (.bl (isRed (wN D) g)), M) := by
  have hgab : gAbs [.int g.a] M = some (.ok (.int (ab' g.a)), M) := gAbs_e'
  have i0 : gIx (eF g) (.int 0) M = some (.ok (.int g.a), M) := rfl
  have i1 : gIx (eF g) (.int 1) M = some (.ok (.int g.b), M) := rfl
  have ha0 := ab_nn (c := g.a)
  have ha1 := le_ab (show -(700 : Int) ≤ g.a ∧ g.a ≤ 700 from ⟨hb.a1, hb.a2⟩)
  have hb1 := hb.b1
  have hb2 := hb.b2
  have hl := lred_eq hD ha0 (by omega) (b := g.b) ⟨by omega, by omega⟩
  have hR : isRed (wN D) g = ((decide (0 < g.b) && decide (g.b ≤ wN D)) && (decide (wN D - g.b < 2 * ab' g.a) && decide (2 * ab' g.a ≤ wN D + g.b))) := rfl
  rw [hR, ← hl]
  have mb : mulC g.b g.b = true := mulC_l (by omega) (by omega)
  have ml : mulC (2 * ab' g.a - g.b) (2 * ab' g.a - g.b) = true := mulC_l (by omega) (by omega)
  have mh : mulC (2 * ab' g.a + g.b) (2 * ab' g.a + g.b) = true := mulC_l (by omega) (by omega)
  unfold m_l_is_reduced f_l_is_reduced
  rw [mDef_2, show start0 6 [eF g, DL.D.int D] = [some (eF g), some (.int D), none, none, none, none] from rfl]
  rw [sSeq_nx (en1 := [some (eF g), some (.int D), some (.int (ab' g.a)), some (.int g.b), none, none]) (M1 := M) (by
    simp only [sPar_e, cCall_e, cOp_e, cC_e, aCons_e, aNil_e, cVar_e, List.getElem?_cons_zero, List.getElem?_cons_succ, bnd_ok, i0, i1, hgab, sbnd_ok]
    rfl)]
  generalize ab' g.a = a at *
  generalize g.b = b at *
  by_cases h1 : b ≤ 0
  · have hs : sIf (tOrC (cTru (cOp gLe (cVar 3) (cC (.int 0)))) (cTru (cOp gGe (cOp gMul (cVar 3) (cVar 3)) (cVar 1)))) (sRet (cC (.bl false))) sSkip [some (eF g), some (.int D), some (.int a), some (.int b), none, none] M = some (.rt (.bl false), M) := by
      simp [h1]
    rw [sSeq_rt hs, fin_rt, if_pos (.inl h1)]
    exact gcF_ok0 rfl rfl
  · by_cases h2 : b * b ≥ D
    · have hs : sIf (tOrC (cTru (cOp gLe (cVar 3) (cC (.int 0)))) (cTru (cOp gGe (cOp gMul (cVar 3) (cVar 3)) (cVar 1)))) (sRet (cC (.bl false))) sSkip [some (eF g), some (.int D), some (.int a), some (.int b), none, none] M = some (.rt (.bl false), M) := by
        simp [h1, mb, h2]
      rw [sSeq_rt hs, fin_rt, if_pos (.inr h2)]
      exact gcF_ok0 rfl rfl
    · have hs : sIf (tOrC (cTru (cOp gLe (cVar 3) (cC (.int 0)))) (cTru (cOp gGe (cOp gMul (cVar 3) (cVar 3)) (cVar 1)))) (sRet (cC (.bl false))) sSkip [some (eF g), some (.int D), some (.int a), some (.int b), none, none] M = some (.nx [some (eF g), some (.int D), some (.int a), some (.int b), none, none], M) := by
        simp [h1, mb, h2]
      rw [sSeq_nx hs]
      rw [sSeq_nx (en1 := [some (eF g), some (.int D), some (.int a), some (.int b), some (.int (2 * a - b)), some (.int (2 * a + b))]) (M1 := M) (by simp [m2])]
      rw [if_neg (by omega)]
      by_cases h3 : 2 * a - b < 0
      · by_cases h4 : (2 * a + b) * (2 * a + b) > D
        · simp [h3, mh, h4]
        · simp [h3, mh, h4]
      · by_cases h5 : (2 * a - b) * (2 * a - b) < D
        · by_cases h4 : (2 * a + b) * (2 * a + b) > D
          · simp [h3, ml, mh, h4, h5]
          · simp [h3, ml, mh, h4, h5]
        · simp [h3, ml, mh, h5]
/-! the form to the right -/
theorem l_right_is {D : Int} (hD : Dn D) {g : Frm} (hg : g.gap = D) (rg : isRed (wN D) g = true) : m_l_right [eF g, .int D] M = some (.ok (eF (nxt (wN D) g)), M) := by
  have hb := red_bq hD hg rg
  have hcw := red_cw hD hg rg
  have hc := hD.c_ne hg
  have hp := ab_pos hc
  have hw := wN_le (D := D)
  have hn := nxt_red hD hg rg
  have hng : (nxt (wN D) g).gap = D := nxt_gap.trans hg
  have hnb := red_bq hD hng hn
  have eg := gap_eq hng
  have hr := l_root_w (M := M) (D := D) (by have := hD.lo; omega) (by have := hD.hi; omega)
  have hgab : gAbs [.int g.c] M = some (.ok (.int (ab' g.c)), M) := gAbs_e'
  have hmid : (nxt (wN D) g).b = wN D - (wN D + g.b).fmod (2 * ab' g.c) := by
    rw [Int.fmod_eq_emod_of_nonneg _ (by omega), nxt_b]
    have key : ∀ k : Int, shf (wN D) g = (if g.c < 0 then 0 - k else k) → 2 * g.c * shf (wN D) g = 2 * ab' g.c * k := by
      intro k hk
      rw [hk]
      unfold ab'
      split <;> grind
    have e := key ((wN D + g.b) / (2 * ab' g.c)) (by unfold shf; rw [if_neg (show ¬ ab' g.c > wN D by omega)])
    rw [e]
    have := Int.mul_ediv_add_emod ((wN D : Int) + g.b) (2 * ab' g.c)
    omega
  have na : (nxt (wN D) g).a = g.c := nxt_a
  have hlast : ((nxt (wN D) g).b * (nxt (wN D) g).b - D).fdiv (4 * g.c) = (nxt (wN D) g).c := by
    have : (nxt (wN D) g).b * (nxt (wN D) g).b - D = 4 * g.c * (nxt (wN D) g).c := by rw [na] at eg; omega
    rw [this]
    exact Int.mul_fdiv_cancel_left _ (by omega)
  have hbb := hnb.b1
  have hbb2 := hnb.b2
  have hc1 := hb.c1
  have hc2 := hb.c2
  have eres : eF (nxt (wN D) g) = .tup [.int g.c, .int (nxt (wN D) g).b, .int (nxt (wN D) g).c] := by rw [eF, na]; rfl
  rw [eres]
  have hb12 : -700 ≤ g.b ∧ g.b ≤ 700 := ⟨hb.b1, hb.b2⟩
  generalize (nxt (wN D) g).b = nb at *
  generalize (nxt (wN D) g).c = nc at *
  generalize (wN D : Int) = w at *
  obtain ⟨m, hm⟩ : ∃ m, m = 2 * ab' g.c := ⟨_, rfl⟩
  rw [← hm] at hmid
  have hm0 : m ≠ 0 := by omega
  have ms : mulC nb nb = true := mulC_l (by omega) (by omega)
  have h4 : 4 * g.c ≠ 0 := by omega
  have hlog : (4 * g.c).natAbs.log2 < 9000 := by
    have : (4 * g.c).natAbs < 2 ^ 9000 := Nat.lt_of_lt_of_le (show (4 * g.c).natAbs < 2 ^ 12 by omega) (Nat.pow_le_pow_right (by decide) (by decide))
    exact (Nat.log2_lt (by omega)).mpr this
  unfold m_l_right f_l_right
  rw [mDef_2, show start0 8 [eF g, DL.D.int D] = [some (eF g), some (.int D), none, none, none, none, none, none] from rfl]
  rw [sSeq_nx (en1 := [some (eF g), some (.int D), some (.int g.a), some (.int g.b), some (.int g.c), none, none, none]) (M1 := M) (by simp [eF, eRow])]
  rw [sSeq_nx (en1 := [some (eF g), some (.int D), some (.int g.a), some (.int g.b), some (.int g.c), some (.int m), none, none]) (M1 := M) (by
    rw [sAsg_e, cOp_e, cC_e, bnd_ok, cCall_e, aCons_e, cVar_e]
    simp only [List.getElem?_cons_zero, List.getElem?_cons_succ, bnd_ok, aNil_e, hgab, gI_e, m2, if_true, ← hm, sbnd_ok]
    rfl)]
  rw [sSeq_nx (en1 := [some (eF g), some (.int D), some (.int g.a), some (.int g.b), some (.int g.c), some (.int m), some (.int w), none]) (M1 := M) (by
    simp only [sAsg_e, cCall_e, aCons_e, aNil_e, cVar_e, List.getElem?_cons_zero, List.getElem?_cons_succ, bnd_ok, hr, sbnd_ok]
    rfl)]
  rw [sSeq_nx (en1 := [some (eF g), some (.int D), some (.int g.a), some (.int g.b), some (.int g.c), some (.int m), some (.int w), some (.int nb)]) (M1 := M) (by
    rw [hmid]
    simp [hm0])]
  have hdv : divN (nb * nb - D) (4 * g.c) = true := by
    unfold divN
    rw [decide_eq_true h4, decide_eq_true hlog]; rfl
  simp [ms, m4, hdv, hlast]
end K14
/-! k14, part E2: the law's list of all reduced forms. -/
namespace K14
open PySem DL
variable {M : Store}
def LP (w : Int) (x : Frm) : Bool := isRed w x && decide (Pr x)
theorem lgcd_two {a b r : Int} (ha : 1 ≤ a) {x : Frm} (hx : x ∈ two2 a b r) : ((Int.gcd (Int.gcd a b : Int) x.c : Nat) : Int) = gcdL (rowF x) := by
  have e : ∀ y : Int, y.natAbs = a.natAbs → gcdL [y, b, x.c] = ((Int.gcd (Int.gcd a b : Int) x.c : Nat) : Int) := by
    intro y hy
    unfold gcdL
    simp only [List.foldl_cons, List.foldl_nil]
    have h1 : (Int.gcd 0 y : Int) = a := by rw [Int.gcd_zero_left, hy]; omega
    rw [h1]
  unfold two2 at hx
  rcases List.mem_cons.mp hx with h | hx
  · subst h; exact (e a rfl).symm
  · rcases List.mem_cons.mp hx with h | hx
    · subst h; exact (e (0 - a) (by omega)).symm
    · exact nomatch hx
noncomputable def bodL5 : SF := (sIf (tAndC (cTru (cCall m_l_is_reduced (aCons (cVar 5) (aCons (cVar 0) aNil)))) (cTru (cOp (gEq false) (cCall m_l_gcd (aCons (cCall m_l_gcd (aCons (cVar 4) (aCons (cVar 2) aNil))) (aCons (cOp gIx (cVar 5) (cC (.int 2))) aNil))) (cC (.int 1))))) (sExpr (cApp (cVar 1) (cVar 5))) sSkip)
theorem gIx2 {f : Frm} : gIx (eF f) (.int 2) M = some (.ok (.int f.c), M) := rfl
theorem all_in {D : Int} (hD : Dn D) {a b r : Int} (ha : 1 ≤ a) {e3 : Option DL.D} : ∀ (l acc : List Frm) (x5 : Option DL.D), (∀ x ∈ l, x ∈ two2 a b r ∧ Bq 700 x) → acc.length + l.length ≤ 100000 →
    ∃ y5, fLoop (gN 5) bodL5 (l.map eF) [some (.int D), some (.cel M.length), some (.int b), e3, some (.int a), x5] (M ++ [acc.map eF]) = some (.nx [some (.int D), some (.cel M.length), some (.int b), e3, some (.int a), y5], M ++ [(acc ++ l.filter (LP (wN D))).map eF])
  | [], acc, x5, _, _ => ⟨x5, by simp [fLoop]⟩
  | x :: l, acc, x5, hl, hn => by
    obtain ⟨hx, hb⟩ := hl x List.mem_cons_self
    have hr := l_isred_is (M := M ++ [acc.map eF]) hD hb
    have hg := lgcd_two ha hx
    have g1 := l_gcd_is (M := M ++ [acc.map eF]) a b
    have g2 := l_gcd_is (M := M ++ [acc.map eF]) (Int.gcd a b : Int) x.c
    rw [hg] at g2
    rw [List.length_cons] at hn
    rw [List.map_cons, fLoop_cons]
    simp only [gN_e, List.set_cons_succ, List.set_cons_zero]
    have ht : tAndC (cTru (cCall m_l_is_reduced (aCons (cVar 5) (aCons (cVar 0) aNil)))) (cTru (cOp (gEq false) (cCall m_l_gcd (aCons (cCall m_l_gcd (aCons (cVar 4) (aCons (cVar 2) aNil))) (aCons (cOp gIx (cVar 5) (cC (.int 2))) aNil))) (cC (.int 1)))) [some (.int D), some (.cel M.length), some (.int b), e3, some (.int a), some (eF x)] (M ++ [acc.map eF]) = some (.ok (LP (wN D) x), M ++ [acc.map eF]) := by
      have hp : (gcdL (rowF x) == 1) = decide (Pr x) := rfl
      unfold LP
      rw [tAndC_e, cTru_e, cCall_e, aCons_e, cVar_e]
      simp only [List.getElem?_cons_zero, List.getElem?_cons_succ, bnd_ok, aCons_e, cVar_e, aNil_e, hr, tru_bl]
      cases isRed (wN D) x with
      | false => rfl
      | true =>
        simp only [if_true, Bool.true_and]
        rw [cTru_e, cOp_e, cCall_e, aCons_e, cCall_e, aCons_e, cVar_e]
        simp only [List.getElem?_cons_zero, List.getElem?_cons_succ, bnd_ok, aCons_e, cVar_e, aNil_e, g1, cOp_e, cC_e, gIx2, g2, gEq_int, Bool.false_eq_true, if_false, tru_bl, hp]
    by_cases h : LP (wN D) x = true
    · have hb1 : bodL5 [some (.int D), some (.cel M.length), some (.int b), e3, some (.int a), some (eF x)] (M ++ [acc.map eF]) = some (.nx [some (.int D), some (.cel M.length), some (.int b), e3, some (.int a), some (eF x)], M ++ [(acc ++ [x]).map eF]) := by
        have hz : szOk (acc.length + 1) = true := szOk_of (by omega)
        unfold bodL5
        rw [sIf_e, ht, sbnd_ok, if_pos h]
        simp [hz]
      rw [hb1]
      obtain ⟨y5, e⟩ := all_in hD ha l (acc ++ [x]) (some (eF x)) (fun y hy => hl y (List.mem_cons_of_mem _ hy)) (by rw [List.length_append, List.length_cons, List.length_nil]; omega)
      refine ⟨y5, ?_⟩
      rw [List.filter_cons_of_pos h]
      rw [List.append_assoc] at e
      exact e
    · have hb1 : bodL5 [some (.int D), some (.cel M.length), some (.int b), e3, some (.int a), some (eF x)] (M ++ [acc.map eF]) = some (.nx [some (.int D), some (.cel M.length), some (.int b), e3, some (.int a), some (eF x)], M ++ [acc.map eF]) := by
        unfold bodL5
        rw [sIf_e, ht, sbnd_ok, if_neg h]
        rfl
      rw [hb1]
      obtain ⟨y5, e⟩ := all_in hD ha l acc (some (eF x)) (fun y hy => hl y (List.mem_cons_of_mem _ hy)) (by omega)
      refine ⟨y5, ?_⟩
      rw [List.filter_cons_of_neg h]
      exact e
noncomputable def bodL4 : SF := (sFor (iSeq (cLst (aCons (cTup (aCons (cVar 4) (aCons (cVar 2) (aCons (cOp gSub (cC (.int 0)) (cOp gDiv (cVar 3) (cVar 4))) aNil)))) (aCons (cTup (aCons (cOp gSub (cC (.int 0)) (cVar 4)) (aCons (cVar 2) (aCons (cOp gDiv (cVar 3) (cVar 4)) aNil)))) aNil)))) (gN 5) bodL5)
theorem all_mid {D b r : Int} (hD : Dn D) (hb : -160 ≤ b ∧ b ≤ 160) (hr : r ≤ 160) : ∀ (l : List Int) (acc : List Frm) (x4 x5 : Option DL.D), (∀ a ∈ l, 1 ≤ a ∧ a ≤ r ∧ r % a = 0) → acc.length + 2 * l.length ≤ 100000 →
    ∃ y4 y5, fLoop (gN 4) bodL4 (l.map DL.D.int) [some (.int D), some (.cel M.length), some (.int b), some (.int r), x4, x5] (M ++ [acc.map eF]) = some (.nx [some (.int D), some (.cel M.length), some (.int b), some (.int r), y4, y5], M ++ [(acc ++ l.flatMap fun a => (two2 a b r).filter (LP (wN D))).map eF])
  | [], acc, x4, x5, _, _ => ⟨x4, x5, by simp [fLoop]⟩
  | a :: l, acc, x4, x5, hl, hn => by
    obtain ⟨h1, h2, h3⟩ := hl a List.mem_cons_self
    rw [List.length_cons] at hn
    rw [List.map_cons, fLoop_cons]
    simp only [gN_e, List.set_cons_succ, List.set_cons_zero]
    have hdiv : divC r a = true := divC_of (by omega) (by omega)
    obtain ⟨y5, e⟩ := all_in (M := M) hD (a := a) (b := b) (r := r) h1 (e3 := some (.int r)) (two2 a b r) acc x5 (fun x hx => ⟨hx, two2_bq ⟨h1, h2⟩ hr hb h3 hx⟩) (by show acc.length + 2 ≤ _; omega)
    have ht : (two2 a b r).map eF = [.tup [.int a, .int b, .int (0 - r / a)], .tup [.int (0 - a), .int b, .int (r / a)]] := rfl
    rw [ht] at e
    have hb1 : bodL4 [some (.int D), some (.cel M.length), some (.int b), some (.int r), some (.int a), x5] (M ++ [acc.map eF]) = some (.nx [some (.int D), some (.cel M.length), some (.int b), some (.int r), some (.int a), y5], M ++ [(acc ++ (two2 a b r).filter (LP (wN D))).map eF]) := by
      unfold bodL4
      rw [sFor_e]
      have hi : iSeq (cLst (aCons (cTup (aCons (cVar 4) (aCons (cVar 2) (aCons (cOp gSub (cC (.int 0)) (cOp gDiv (cVar 3) (cVar 4))) aNil)))) (aCons (cTup (aCons (cOp gSub (cC (.int 0)) (cVar 4)) (aCons (cVar 2) (aCons (cOp gDiv (cVar 3) (cVar 4)) aNil)))) aNil))) [some (.int D), some (.cel M.length), some (.int b), some (.int r), some (.int a), x5] (M ++ [acc.map eF]) = some (.ok [.tup [.int a, .int b, .int (0 - r / a)], .tup [.int (0 - a), .int b, .int (r / a)]], M ++ [acc.map eF]) := by
        simp [hdiv]
      rw [hi, sbnd_ok]
      exact e
    rw [hb1]
    obtain ⟨z4, z5, e2⟩ := all_mid hD hb hr l (acc ++ (two2 a b r).filter (LP (wN D))) (some (.int a)) y5 (fun x hx => hl x (List.mem_cons_of_mem _ hx)) (by
      rw [List.length_append]
      have := List.length_filter_le (LP (wN D)) (two2 a b r)
      have e : (two2 a b r).length = 2 := rfl
      omega)
    refine ⟨z4, z5, ?_⟩
    rw [List.flatMap_cons]
    rw [List.append_assoc] at e2
    exact e2
theorem flatMap_filter' {α β : Type} {p : α → Bool} {f : α → List β} : ∀ l : List α, (l.filter p).flatMap f = l.flatMap fun a => if p a = true then f a else []
  | [] => rfl
  | a :: l => by
    rw [List.flatMap_cons, ← flatMap_filter' l]
    by_cases h : p a = true
    · rw [List.filter_cons_of_pos h, List.flatMap_cons, if_pos h]
    · rw [List.filter_cons_of_neg h, if_neg h, List.nil_append]
theorem withM_pr {w b r : Int} : (withM w b r).filter (fun f => decide (Pr f)) = ((rgI 1 r.toNat).filter fun a => r % a == 0).flatMap fun a => (two2 a b r).filter (LP w) := by
  unfold withM
  rw [List.filter_flatMap, flatMap_filter']
  congr 1
  funext a
  by_cases h : r % a = 0
  · rw [if_pos h, if_pos (by rw [h]; rfl), List.filter_filter]
    congr 1
    funext x
    unfold LP
    rw [Bool.and_comm]
  · rw [if_neg h, if_neg (by simpa using h)]
    rfl
def partL (D b : Int) : List Frm := (if (b * b - D) % 4 = 0 then withM (wN D) b ((D - b * b) / 4) else []).filter fun f => decide (Pr f)
theorem partL_len {D b : Int} (hb : 0 ≤ b) (hD : Dn D) : (partL D b).length ≤ 320 := by
  have hhi := hD.hi
  have : 0 ≤ b * b := Int.mul_nonneg hb hb
  unfold partL
  refine Nat.le_trans (List.length_filter_le _ _) ?_
  split
  · have := withM_len (w := wN D) (b := b) (r := (D - b * b) / 4)
    omega
  · simp
noncomputable def tsL : TF := cTru (cOp gLt (cOp gMul (cVar 2) (cVar 2)) (cVar 0))
noncomputable def bodL : SF := (sSeq (sIf (cTru (cOp (gEq false) (cOp gMod (cOp gSub (cVar 0) (cOp gMul (cVar 2) (cVar 2))) (cC (.int 4))) (cC (.int 0)))) (sSeq (sAsg (cOp gDiv (cOp gSub (cVar 0) (cOp gMul (cVar 2) (cVar 2))) (cC (.int 4))) (gN 3)) (sFor (iSeq (cCall m_l_divisors (aCons (cVar 3) aNil))) (gN 4) bodL4)) sSkip) (sAsg (cOp gAddA (cVar 2) (cC (.int 1))) (gN 2)))
theorem bodL_is {D b : Int} (hD : Dn D) (hb : 1 ≤ b ∧ b ≤ wN D) {acc : List Frm} (hn : acc.length ≤ 50000) {x3 x4 x5 : Option DL.D} : ∃ y3 y4 y5, bodL [some (.int D), some (.cel M.length), some (.int b), x3, x4, x5] (M ++ [acc.map eF]) = some (.nx [some (.int D), some (.cel M.length), some (.int (b + 1)), y3, y4, y5], M ++ [(acc ++ partL D b).map eF]) := by
  have hw := wN_le (D := D)
  have hlt := hD.wlt
  have hhi := hD.hi
  have hsq := sq_mono (show 0 ≤ b by omega) hb.2
  have hsq1 := sq_mono (show (0 : Int) ≤ 1 by omega) hb.1
  have hm := sm_b (b := b) ⟨hb.1, by omega⟩
  have h44 : modC (D - b * b) 4 = true := modC_of (by omega)
  have hd4 : divC (D - b * b) 4 = true := divC_of (by omega) (by omega)
  unfold bodL
  by_cases h : (b * b - D) % 4 = 0
  · obtain ⟨r, hr⟩ : ∃ r, r = (D - b * b) / 4 := ⟨_, rfl⟩
    have hr160 : r ≤ 160 := by omega
    have hr0 : 0 ≤ r := by omega
    have hp : partL D b = ((rgI 1 r.toNat).filter fun a => r % a == 0).flatMap fun a => (two2 a b r).filter (LP (wN D)) := by
      unfold partL
      rw [if_pos h, ← hr]
      exact withM_pr
    have hdv := l_divisors_is (M := M ++ [acc.map eF]) hr0 (by omega)
    have hll : ((rgI 1 r.toNat).filter fun a => r % a == 0).length ≤ 160 := by
      have := List.length_filter_le (fun a => r % a == 0) (rgI 1 r.toNat)
      rw [rg_len] at this
      omega
    obtain ⟨y4, y5, e⟩ := all_mid (M := M) hD (b := b) (r := r) ⟨by omega, by omega⟩ hr160 ((rgI 1 r.toNat).filter fun a => r % a == 0) acc x4 x5 (fun a ha => by
      obtain ⟨k1, k2⟩ := List.mem_filter.mp ha
      have := mem_rgI.mp k1
      exact ⟨by omega, by omega, by simpa using k2⟩) (by omega)
    refine ⟨some (.int r), y4, y5, ?_⟩
    have hbq : ((D - b * b) % 4 == 0) = true := by
      have : (D - b * b) % 4 = 0 := by omega
      rw [this]; rfl
    have s1 : sIf (cTru (cOp (gEq false) (cOp gMod (cOp gSub (cVar 0) (cOp gMul (cVar 2) (cVar 2))) (cC (.int 4))) (cC (.int 0)))) (sSeq (sAsg (cOp gDiv (cOp gSub (cVar 0) (cOp gMul (cVar 2) (cVar 2))) (cC (.int 4))) (gN 3)) (sFor (iSeq (cCall m_l_divisors (aCons (cVar 3) aNil))) (gN 4) bodL4)) sSkip [some (.int D), some (.cel M.length), some (.int b), x3, x4, x5] (M ++ [acc.map eF]) = some (.nx [some (.int D), some (.cel M.length), some (.int b), some (.int r), y4, y5], M ++ [(acc ++ partL D b).map eF]) := by
      rw [sIf_e, cTru_e, cOp_e, cOp_e, cOp_e, cVar_e]
      simp only [List.getElem?_cons_zero, List.getElem?_cons_succ, bnd_ok, cOp_e, cVar_e, gI_e, hm, yes2_e, if_true, cC_e, h44, gEq_int, Bool.false_eq_true, if_false, hbq, tru_bl, sbnd_ok]
      rw [sSeq_nx (en1 := [some (.int D), some (.cel M.length), some (.int b), some (.int r), x4, x5]) (M1 := M ++ [acc.map eF]) (by rw [hr]; simp [hm, hd4])]
      have hi : iSeq (cCall m_l_divisors (aCons (cVar 3) aNil)) [some (.int D), some (.cel M.length), some (.int b), some (.int r), x4, x5] (M ++ [acc.map eF]) = some (.ok (((rgI 1 r.toNat).filter fun a => r % a == 0).map DL.D.int), M ++ [acc.map eF]) := by
        simp [hdv]
      rw [sFor_e, hi, sbnd_ok, hp]
      exact e
    rw [sSeq_nx s1]
    simp
  · refine ⟨x3, x4, x5, ?_⟩
    have hbq : ((D - b * b) % 4 == 0) = false := by
      have : ¬ (D - b * b) % 4 = 0 := by omega
      simpa using this
    have hp : partL D b = [] := by unfold partL; rw [if_neg h]; rfl
    rw [hp, List.append_nil]
    rw [sSeq_nx (en1 := [some (.int D), some (.cel M.length), some (.int b), x3, x4, x5]) (M1 := M ++ [acc.map eF]) (by simp [hm, h44, hbq])]
    simp
theorem rgI_cons {lo : Int} {k : Nat} : rgI lo (k + 1) = lo :: rgI (lo + 1) k := by
  unfold rgI
  rw [List.range_succ_eq_map, List.map_cons, List.map_map]
  congr 1
  · simp
  · refine List.map_congr_left fun i _ => ?_
    show lo + ((i + 1 : Nat) : Int) = lo + 1 + (i : Int)
    push_cast
    omega
theorem whileL {D : Int} (hD : Dn D) : ∀ (j : Nat) (b : Int) (acc : List Frm) (x3 x4 x5 : Option DL.D), 1 ≤ b → b + j = (wN D : Int) + 1 → acc.length + 320 * j ≤ 50000 →
    ∃ y2 y3 y4 y5, sWhile tsL bodL [some (.int D), some (.cel M.length), some (.int b), x3, x4, x5] (M ++ [acc.map eF]) = some (.nx [some (.int D), some (.cel M.length), y2, y3, y4, y5], M ++ [(acc ++ (rgI b j).flatMap (partL D)).map eF])
  | 0, b, acc, x3, x4, x5, h1, h2, hn => by
    have hr := hD.root
    have hw := wN_le (D := D)
    have hm : mulC b b = true := mul_sm (by omega) (by omega)
    have e : (rgI b 0).flatMap (partL D) = [] := rfl
    rw [e, List.append_nil]
    refine ⟨_, _, _, _, sWhile_stop (M1 := M ++ [acc.map eF]) ?_⟩
    have : ¬ b * b < D := by
      obtain ⟨r1, r2, r3⟩ := hr
      have e : b = (wN D : Int) + 1 := by omega
      rw [e]; omega
    unfold tsL
    simp [hm, this]
  | j + 1, b, acc, x3, x4, x5, h1, h2, hn => by
    have hw := wN_le (D := D)
    have hlt := hD.wlt
    have hbw : b ≤ wN D := by omega
    have hm := sm_b (b := b) ⟨h1, by omega⟩
    have hsq := sq_mono (show 0 ≤ b by omega) hbw
    have hlt2 : b * b < D := by omega
    obtain ⟨y3, y4, y5, e⟩ := bodL_is (M := M) hD ⟨h1, hbw⟩ (acc := acc) (by omega) (x3 := x3) (x4 := x4) (x5 := x5)
    obtain ⟨z2, z3, z4, z5, e2⟩ := whileL hD j (b + 1) (acc ++ partL D b) y3 y4 y5 (by omega) (by omega) (by
      rw [List.length_append]
      have := partL_len (b := b) (by omega) hD
      omega)
    refine ⟨z2, z3, z4, z5, sWhile_more (M1 := M ++ [acc.map eF]) (M2 := M ++ [(acc ++ partL D b).map eF]) ?_ e ?_⟩
    · unfold tsL
      simp [hm, hlt2]
    · rw [rgI_cons, List.flatMap_cons]
      rw [List.append_assoc] at e2
      exact e2
theorem all_is {D : Int} (hD : Dn D) : m_l_all_reduced [.int D] M = some (.ok (.imm ((((allF D).filter fun f => decide (Pr f)).mergeSort (PySem.W.dataLe false pF)).map eF)), M) := by
  have hw := wN_le (D := D)
  have hfl : (allF D).filter (fun f => decide (Pr f)) = (rgI 1 (wN D)).flatMap (partL D) := by
    unfold allF
    rw [List.filter_flatMap]
    rfl
  obtain ⟨y2, y3, y4, y5, e⟩ := whileL (M := M) hD (wN D) 1 [] none none none (by omega) (by omega) (by simp; omega)
  rw [List.nil_append, ← hfl] at e
  unfold m_l_all_reduced f_l_all_reduced
  rw [mDef_1, show start0 6 [DL.D.int D] = [some (.int D), none, none, none, none, none] from rfl]
  rw [sSeq_nx (en1 := [some (.int D), some (.cel M.length), none, none, none, none]) (M1 := M ++ [[]]) (by simp)]
  rw [sSeq_nx (en1 := [some (.int D), some (.cel M.length), some (.int 1), none, none, none]) (M1 := M ++ [[]]) (by simp)]
  unfold tsL bodL bodL4 bodL5 at e
  rw [sSeq_nx (by exact e)]
  have hat : (M ++ [((allF D).filter fun f => decide (Pr f)).map eF])[M.length]? = some (((allF D).filter fun f => decide (Pr f)).map eF) := List.getElem?_concat_length
  have hl : ((allF D).filter fun f => decide (Pr f)).length ≤ 16777216 := Nat.le_trans (List.length_filter_le _ _) (Nat.le_trans (allF_len hD) (by decide))
  have hs := gSort_of (M := M ++ [((allF D).filter fun f => decide (Pr f)).map eF]) toPy_F (srt_F hl) (d := .cel M.length) hat (fun _ z => nomatch z)
  simp only [sRet_e, cCall_e, aCons_e, aNil_e, cVar_e, List.getElem?_cons_zero, List.getElem?_cons_succ, bnd_ok, hs, sbnd_ok, fin_rt]
  exact gcF_ok (by rw [clo_imm]; exact clos_map fun _ => clo_eF) rfl
end K14
set_option exponentiation.threshold 3000
/-! k14, part E3: are_rung. -/
namespace K14
open PySem DL
variable {M : Store}
theorem sWhile_rt {t : TF} {p : SF} {en : DL.Env} {M M1 M2 : Store} {d : D} (h : t en M = some (.ok true, M1)) (h2 : p en M1 = some (.rt d, M2)) : sWhile t p en M = some (.rt d, M2) := by
  refine sWhile_of (n := 1) ?_
  unfold wLoop
  rw [h, sbnd_ok, if_pos rfl, h2]
theorem reduced_self {D : Int} (hD : Dn D) {g : Frm} (hg : g.gap = D) (rg : isRed (wN D) g = true) : m_ring_reduced [eF g] M = some (.ok (.tup [eF g, eC .one]), M) := by
  have hb := (red_bq hD hg rg).mono (show (700 : Int) ≤ 10 ^ 12 by omega)
  have h4 : sWhile tstR bodR [some (eF g), some (eC .one), none] M = some (.nx [some (eF g), some (eC .one), none], M) := by
    refine sWhile_stop (M1 := M) ?_
    unfold tstR
    simp [isRed_is hD hg hb ⟨by omega, by omega⟩, rg]
  unfold m_ring_reduced f_ring_reduced
  rw [mDef_1, show start0 3 [eF g] = [some (eF g), none, none] from rfl]
  rw [sSeq_nx (en1 := [some (eF g), none, none]) (M1 := M) (by simp [check_open_is hD hg hb (by omega)])]
  rw [sSeq_nx (en1 := [some (eF g), some (eC .one), none]) (M1 := M) (by rw [unit_eq]; simp)]
  unfold tstR bodR at h4
  rw [sSeq_nx h4]
  simp only [sRet_e, cTup_e, aCons_e, aNil_e, cVar_e, List.getElem?_cons_zero, List.getElem?_cons_succ, bnd_ok, List.length_cons, List.length_nil, Nat.reduceAdd, szOk_2, if_true, sbnd_ok, fin_rt]
  exact gcF_ok0 (by simp [eF, eC]) rfl
noncomputable def tsU : TF := cTru (cOp (gEq true) (cVar 2) (cVar 4))
noncomputable def bdU : SF := (sSeq (sAsg (cCall m_next_form (aCons (cVar 2) aNil)) (gTupC 2 (gConsC (gN 2) (gConsC (gN 7) gNilC)))) (sSeq (sAsg (cCall m_product (aCons (cVar 7) (aCons (cVar 3) aNil))) (gN 3)) (sIf (cTru (cOp (gEq false) (cVar 2) (cVar 6))) (sRet (cTup (aCons (cC (.bl false)) (aCons (cTup (aCons (cCall m_ring (aCons (cVar 0) aNil)) (aCons (cCall m_ring (aCons (cVar 1) aNil)) aNil))) aNil)))) sSkip)))
/-- one turn, up to its test -/
theorem turn_U {D : Int} (hD : Dn D) {g : Frm} (hg : g.gap = D) (rg : isRed (wN D) g = true) {u : Chg} {j : Nat} (hu : szC j u) (hj : j < 900000) {e0 e1 e4 e5 e6 x7 : Option DL.D} {rest : DL.Env} (K : SF) :
    sSeq (sAsg (cCall m_next_form (aCons (cVar 2) aNil)) (gTupC 2 (gConsC (gN 2) (gConsC (gN 7) gNilC)))) (sSeq (sAsg (cCall m_product (aCons (cVar 7) (aCons (cVar 3) aNil))) (gN 3)) K) (e0 :: e1 :: some (eF g) :: some (eC u) :: e4 :: e5 :: e6 :: x7 :: rest) M =
      K (e0 :: e1 :: some (eF (nxt (wN D) g)) :: some (eC ((stp (wN D) g).mul u)) :: e4 :: e5 :: e6 :: some (eC (stp (wN D) g)) :: rest) M := by
  have hs := stp_sz hD hg ((red_bq hD hg rg).mono (by omega))
  have hx := next_red (M := M) hD hg rg
  have hp := prod_is (M := M) (j := 42) (k := j) (by omega) hs hu
  rw [sSeq_nx (en1 := e0 :: e1 :: some (eF (nxt (wN D) g)) :: some (eC u) :: e4 :: e5 :: e6 :: some (eC (stp (wN D) g)) :: rest) (M1 := M) (by simp [hx])]
  rw [sSeq_nx (en1 := e0 :: e1 :: some (eF (nxt (wN D) g)) :: some (eC ((stp (wN D) g).mul u)) :: e4 :: e5 :: e6 :: some (eC (stp (wN D) g)) :: rest) (M1 := M) (by simp [hp])]
theorem loop_yes {D : Int} (hD : Dn D) {f s goal : Frm} (hs : s.gap = D) (rs : isRed (wN D) s = true) {m j : Nat} (hm : Per (wN D) s m) (hjm : j < m) (hg : nx (wN D) j s = goal) (hno : ∀ t, t < j → nx (wN D) t s ≠ goal) {e0 e1 e5 : Option DL.D} {rest : DL.Env} : ∀ (k i : Nat) (V : Chg) (x7 : Option DL.D), i + k = j → V.det = 1 → f.act V = nx (wN D) i s → szC (2000 + 43 * i) V → j ≤ 1500 →
    ∃ (V' : Chg) (y7 : Option DL.D), V'.det = 1 ∧ f.act V' = goal ∧ szC 70000 V' ∧ sWhile tsU bdU (e0 :: e1 :: some (eF (nx (wN D) i s)) :: some (eC V) :: some (eF goal) :: e5 :: some (eF s) :: x7 :: rest) M = some (.nx (e0 :: e1 :: some (eF goal) :: some (eC V') :: some (eF goal) :: e5 :: some (eF s) :: y7 :: rest), M)
  | 0, i, V, x7, h1, h2, h3, h4, h5 => by
    have : i = j := by omega
    subst this
    rw [hg] at h3 ⊢
    refine ⟨V, x7, h2, h3, h4.mono (by omega), sWhile_stop (M1 := M) ?_⟩
    unfold tsU
    simp [gEq_F]
  | k + 1, i, V, x7, h1, h2, h3, h4, h5 => by
    have hgi : (nx (wN D) i s).gap = D := (nx_gap _ _).trans hs
    have hri := nx_red hD i hs rs
    have hne := hno i (by omega)
    have hst := stp_sz hD hgi ((red_bq hD hgi hri).mono (by omega))
    obtain ⟨V', y7, k1, k2, k3, k4⟩ := loop_yes hD hs rs hm hjm hg hno (e0 := e0) (e1 := e1) (e5 := e5) (rest := rest) k (i + 1) ((stp (wN D) (nx (wN D) i s)).mul V) (some (eC (stp (wN D) (nx (wN D) i s)))) (by omega) (by rw [det_mul, stp_det, h2]; rfl) (by rw [← act_act, h3, nx_succ]; rfl) ((mul_sz hst h4).mono (by omega)) h5
    refine ⟨V', y7, k1, k2, k3, sWhile_more (M1 := M) (M2 := M) (en1 := e0 :: e1 :: some (eF (nx (wN D) (i + 1) s)) :: some (eC ((stp (wN D) (nx (wN D) i s)).mul V)) :: some (eF goal) :: e5 :: some (eF s) :: some (eC (stp (wN D) (nx (wN D) i s))) :: rest) ?_ ?_ k4⟩
    · unfold tsU
      simp [gEq_F, hne]
    · unfold bdU
      rw [turn_U hD hgi hri h4 (by omega), ← nx_succ]
      have hne2 := hm.first (i + 1) (by omega) (by omega)
      simp [gEq_F, hne2]
theorem loop_no {D : Int} (hD : Dn D) {f s goal : Frm} (hs : s.gap = D) (rs : isRed (wN D) s = true) {m : Nat} (hm : Per (wN D) s m) (hno : ∀ t, nx (wN D) t s ≠ goal) {r1 r2 : List Frm} (hr1 : m_ring [eF f] M = some (.ok (eRg r1), M)) (hr2 : m_ring [eF goal] M = some (.ok (eRg r2), M)) {e5 : Option DL.D} {rest : DL.Env} : ∀ (k i : Nat) (V : Chg) (x7 : Option DL.D), i + k + 1 = m → szC (2000 + 43 * i) V → m ≤ 1500 →
    sWhile tsU bdU (some (eF f) :: some (eF goal) :: some (eF (nx (wN D) i s)) :: some (eC V) :: some (eF goal) :: e5 :: some (eF s) :: x7 :: rest) M = some (.rt (.tup [.bl false, .tup [eRg r1, eRg r2]]), M)
  | 0, i, V, x7, h1, h4, h5 => by
    have hgi : (nx (wN D) i s).gap = D := (nx_gap _ _).trans hs
    have hri := nx_red hD i hs rs
    refine sWhile_rt (M1 := M) ?_ ?_
    · unfold tsU
      simp [gEq_F, hno i]
    · unfold bdU
      rw [turn_U hD hgi hri h4 (by omega), ← nx_succ, show i + 1 = m by omega, hm.back]
      simp [gEq_F, hr1, hr2]
  | k + 1, i, V, x7, h1, h4, h5 => by
    have hgi : (nx (wN D) i s).gap = D := (nx_gap _ _).trans hs
    have hri := nx_red hD i hs rs
    have hst := stp_sz hD hgi ((red_bq hD hgi hri).mono (by omega))
    have ih := loop_no hD hs rs hm hno hr1 hr2 (e5 := e5) (rest := rest) k (i + 1) ((stp (wN D) (nx (wN D) i s)).mul V) (some (eC (stp (wN D) (nx (wN D) i s)))) (by omega) ((mul_sz hst h4).mono (by omega)) h5
    refine sWhile_more (M1 := M) (M2 := M) (en1 := some (eF f) :: some (eF goal) :: some (eF (nx (wN D) (i + 1) s)) :: some (eC ((stp (wN D) (nx (wN D) i s)).mul V)) :: some (eF goal) :: e5 :: some (eF s) :: some (eC (stp (wN D) (nx (wN D) i s))) :: rest) ?_ ?_ ih
    · unfold tsU
      simp [gEq_F, hno i]
    · unfold bdU
      rw [turn_U hD hgi hri h4 (by omega), ← nx_succ]
      have hne2 := hm.first (i + 1) (by omega) (by omega)
      simp [gEq_F, hne2]
/-- the first place of a form of a ring -/
theorem first_at {w : Int} {s x : Frm} {m : Nat} (h : Per w s m) (hx : ∃ j, x = nx w j s) : ∃ j, j < m ∧ nx w j s = x ∧ ∀ t, t < j → nx w t s ≠ x := by
  obtain ⟨j, hj⟩ := hx
  have : ∃ j, j < m ∧ nx w j s = x := ⟨j % m, Nat.mod_lt _ h.pos, by rw [hj]; exact (Per.mod h.back j).symm⟩
  clear hj
  obtain ⟨j, h1, h2⟩ := this
  induction j using Nat.strongRecOn with
  | ind j ih =>
    by_cases q : ∀ t, t < j → nx w t s ≠ x
    · exact ⟨j, h1, h2, q⟩
    · have ⟨t, q⟩ := Classical.not_forall.mp q
      have ⟨q1, q⟩ := Classical.not_forall.mp q
      exact ih t q1 (by omega) (Classical.not_not.mp q)
theorem rung_is {D : Int} (hD : Dn D) {f g s : Frm} {v : Chg} (hf : f.gap = D) (hb : Bq (10 ^ 12) f) (hg : g.gap = D) (rg : isRed (wN D) g = true) (hv : v.det = 1) (hs : s = f.act v) (rs : isRed (wN D) s = true) (sz : szC 2000 v) (hred : m_ring_reduced [eF f] M = some (.ok (.tup [eF s, eC v]), M)) (hring : m_ring [eF f] M = some (.ok (eRg (ringOf (wN D) s)), M)) :
    (g ∈ ringOf (wN D) s → ∃ V : Chg, V.det = 1 ∧ f.act V = g ∧ szC 70000 V ∧ m_are_rung [eF f, eF g] M = some (.ok (.tup [.bl true, eC V]), M)) ∧
    (g ∉ ringOf (wN D) s → m_are_rung [eF f, eF g] M = some (.ok (.tup [.bl false, .tup [eRg (ringOf (wN D) s), eRg (ringOf (wN D) g)]]), M)) := by
  have hsg : s.gap = D := by rw [hs, gap_act, hv, hf]; omega
  obtain ⟨hp, hp2⟩ := per_ok hD hsg rs
  have hp3 := Nat.le_trans hp2 (allF_len hD)
  have sf := hb.sm (show (10 : Int) ^ 12 ≤ 10 ^ 14 by omega)
  have sg := (red_bq hD hg rg).sm (by omega)
  have g1 := gap_is' (M := M) hf sf.2.1 sf.2.2
  have g2 := gap_is' (M := M) hg sg.2.1 sg.2.2
  have hself := reduced_self (M := M) hD hg rg
  have hrg := ring_self (M := M) hD hg rg
  have pre : ∀ K : SF, (sSeq (sIf (cTru (cOp (gEq true) (cCall m_gap (aCons (cVar 0) aNil)) (cCall m_gap (aCons (cVar 1) aNil)))) (sRet (cTup (aCons (cC (.bl false)) (aCons (cTup (aCons (cCall m_ring (aCons (cVar 0) aNil)) (aCons (cCall m_ring (aCons (cVar 1) aNil)) aNil))) aNil)))) sSkip)
      (sSeq (sAsg (cCall m_ring_reduced (aCons (cVar 0) aNil)) (gTupC 2 (gConsC (gN 2) (gConsC (gN 3) gNilC))))
      (sSeq (sAsg (cCall m_ring_reduced (aCons (cVar 1) aNil)) (gTupC 2 (gConsC (gN 4) (gConsC (gN 5) gNilC))))
      (sSeq (sAsg (cVar 2) (gN 6)) K)))) [some (eF f), some (eF g), none, none, none, none, none, none, none, none, none, none] M = K [some (eF f), some (eF g), some (eF s), some (eC v), some (eF g), some (eC .one), some (eF s), none, none, none, none, none] M := by
    intro K
    rw [sSeq_nx (en1 := [some (eF f), some (eF g), none, none, none, none, none, none, none, none, none, none]) (M1 := M) (by simp [g1, g2])]
    rw [sSeq_nx (en1 := [some (eF f), some (eF g), some (eF s), some (eC v), none, none, none, none, none, none, none, none]) (M1 := M) (by simp [hred])]
    rw [sSeq_nx (en1 := [some (eF f), some (eF g), some (eF s), some (eC v), some (eF g), some (eC .one), none, none, none, none, none, none]) (M1 := M) (by simp [hself])]
    rw [sSeq_nx (en1 := [some (eF f), some (eF g), some (eF s), some (eC v), some (eF g), some (eC .one), some (eF s), none, none, none, none, none]) (M1 := M) (by simp)]
  constructor
  · intro hin
    obtain ⟨j, j1, j2, j3⟩ := first_at hp ((mem_ringOf hD hsg rs).mp hin)
    obtain ⟨V, y7, v1, v2, v3, e⟩ := loop_yes (M := M) hD (f := f) hsg rs hp j1 j2 j3 (e0 := some (eF f)) (e1 := some (eF g)) (e5 := some (eC .one)) (rest := [none, none, none, none]) j 0 v none (by omega) hv hs.symm (sz.mono (by omega)) (by omega)
    refine ⟨V, v1, v2, v3, ?_⟩
    have hz : nx (wN D) 0 s = s := rfl
    rw [hz] at e
    unfold m_are_rung f_are_rung
    rw [mDef_2, show start0 12 [eF f, eF g] = [some (eF f), some (eF g), none, none, none, none, none, none, none, none, none, none] from rfl, pre]
    unfold tsU bdU at e
    rw [sSeq_nx e]
    have hpr := prod_is (M := M) (j := 1) (k := 70000) (by omega) sz_one v3
    rw [one_mul] at hpr
    have e1 : eC .one = .tup [.tup [.int 1, .int 0], .tup [.int 0, .int 1]] := rfl
    rw [sSeq_nx (en1 := [some (eF f), some (eF g), some (eF g), some (eC V), some (eF g), some (eC .one), some (eF s), y7, some (.int 1), some (.int 0), some (.int 0), some (.int 1)]) (M1 := M) (by
      rw [sAsg_e, cVar_e]
      simp only [List.getElem?_cons_zero, List.getElem?_cons_succ, bnd_ok, sbnd_ok]
      rw [e1]
      simp)]
    have hc : cTup (aCons (cTup (aCons (cVar 11) (aCons (cOp gSub (cC (.int 0)) (cVar 9)) aNil))) (aCons (cTup (aCons (cOp gSub (cC (.int 0)) (cVar 10)) (aCons (cVar 8) aNil))) aNil)) [some (eF f), some (eF g), some (eF g), some (eC V), some (eF g), some (eC .one), some (eF s), y7, some (.int 1), some (.int 0), some (.int 0), some (.int 1)] M = some (.ok (eC .one), M) := by
      rw [e1]
      simp
    rw [sRet_e, cTup_e, aCons_e, cC_e, bnd_ok, aCons_e, cCall_e, aCons_e, hc]
    simp only [bnd_ok, aCons_e, cVar_e, aNil_e, List.getElem?_cons_zero, List.getElem?_cons_succ, hpr, List.length_cons, List.length_nil, Nat.reduceAdd, szOk_2, if_true, sbnd_ok, fin_rt]
    exact gcF_ok0 (by simp [eC]) rfl
  · intro hout
    have e := loop_no (M := M) hD (f := f) (goal := g) hsg rs hp (fun t q => hout ((mem_ringOf hD hsg rs).mpr ⟨t, q.symm⟩)) hring hrg (e5 := some (eC .one)) (rest := [none, none, none, none]) (per (wN D) s - 1) 0 v none (by have := hp.pos; omega) (sz.mono (by omega)) hp3
    have hz : nx (wN D) 0 s = s := rfl
    rw [hz] at e
    unfold m_are_rung f_are_rung
    rw [mDef_2, show start0 12 [eF f, eF g] = [some (eF f), some (eF g), none, none, none, none, none, none, none, none, none, none] from rfl, pre]
    unfold tsU bdU at e
    rw [sSeq_rt e, fin_rt]
    exact gcF_ok0 (by simp [clo_eRg]) rfl
end K14
set_option exponentiation.threshold 3000
/-! k14, part E4: pell: by the kernel, for every discriminant. -/
namespace K14
open PySem DL
variable {M : Store}
noncomputable def force {α : Type} (x : Nat) (f : Nat → α) : α := Nat.rec (f 0) (fun n _ => f (Nat.succ n)) x
theorem force_e {α : Type} (x : Nat) (f : Nat → α) : force x f = f x := by cases x <;> rfl
noncomputable def forceI {α : Type} (x : Int) (f : Int → α) : α := Int.rec (fun n => force n fun m => f (Int.ofNat m)) (fun n => force n fun m => f (Int.negSucc m)) x
theorem forceI_e {α : Type} (x : Int) (f : Int → α) : forceI x f = f x := by
  cases x with
  | ofNat n => exact force_e n (fun m => f (Int.ofNat m))
  | negSucc n => exact force_e n (fun m => f (Int.negSucc m))
/-- round the ring: from the form (a, b, c), the rows (p, q), (r, t), to (a0, b0, c0) -/
noncomputable def pk (w a0 b0 c0 : Int) (n : Nat) : Int → Int → Int → Int → Int → Int → Int → Option (Int × Int × Int × Int) :=
  Nat.rec (motive := fun _ => Int → Int → Int → Int → Int → Int → Int → Option (Int × Int × Int × Int)) (fun _ _ _ _ _ _ _ => none)
    (fun _ ih a b c p q r t => bif decide (a = a0) && (decide (b = b0) && decide (c = c0)) then some (p, q, r, t) else
      forceI (shf w ⟨a, b, c⟩) fun k => forceI (-b + 2 * c * k) fun b' => forceI (a - b * k + c * (k * k)) fun c' => forceI (k * r - p) fun r' => forceI (k * t - q) fun t' => ih c b' c' r t r' t') n
theorem pk_zero {w a0 b0 c0 a b c p q r t : Int} : pk w a0 b0 c0 0 a b c p q r t = none := rfl
theorem pk_succ {w a0 b0 c0 a b c p q r t : Int} {n : Nat} : pk w a0 b0 c0 (n + 1) a b c p q r t = bif decide (a = a0) && (decide (b = b0) && decide (c = c0)) then some (p, q, r, t) else
      forceI (shf w ⟨a, b, c⟩) fun k => forceI (-b + 2 * c * k) fun b' => forceI (a - b * k + c * (k * k)) fun c' => forceI (k * r - p) fun r' => forceI (k * t - q) fun t' => pk w a0 b0 c0 n c b' c' r t r' t' := rfl
theorem pk_step {w a0 b0 c0 a b c p q r t : Int} {n : Nat} {R : Int × Int × Int × Int} (h : pk w a0 b0 c0 (n + 1) a b c p q r t = some R) :
    ((⟨a, b, c⟩ : Frm) = ⟨a0, b0, c0⟩ ∧ R = (p, q, r, t)) ∨ ((⟨a, b, c⟩ : Frm) ≠ ⟨a0, b0, c0⟩ ∧ pk w a0 b0 c0 n (nxt w ⟨a, b, c⟩).a (nxt w ⟨a, b, c⟩).b (nxt w ⟨a, b, c⟩).c ((stp w ⟨a, b, c⟩).mul ⟨p, q, r, t⟩).p ((stp w ⟨a, b, c⟩).mul ⟨p, q, r, t⟩).q ((stp w ⟨a, b, c⟩).mul ⟨p, q, r, t⟩).r ((stp w ⟨a, b, c⟩).mul ⟨p, q, r, t⟩).s = some R) := by
  rw [pk_succ] at h
  by_cases e : a = a0 ∧ b = b0 ∧ c = c0
  · left
    obtain ⟨rfl, rfl, rfl⟩ := e
    simp at h
    exact ⟨rfl, h.symm⟩
  · right
    have hb : (decide (a = a0) && (decide (b = b0) && decide (c = c0))) = false := by
      rw [← Bool.not_eq_true, Bool.and_eq_true, Bool.and_eq_true, decide_eq_true_eq, decide_eq_true_eq, decide_eq_true_eq]
      exact e
    rw [hb, cond_false, forceI_e, forceI_e, forceI_e, forceI_e, forceI_e] at h
    refine ⟨fun z => e ?_, ?_⟩
    · simp only [Frm.mk.injEq] at z
      exact z
    · rw [nxt_eq]
      dsimp only
      have e1 : ((stp w ⟨a, b, c⟩).mul ⟨p, q, r, t⟩).p = r := by simp [stp, Chg.mul]
      have e2 : ((stp w ⟨a, b, c⟩).mul ⟨p, q, r, t⟩).q = t := by simp [stp, Chg.mul]
      have e3 : ((stp w ⟨a, b, c⟩).mul ⟨p, q, r, t⟩).r = shf w ⟨a, b, c⟩ * r - p := by simp only [stp, Chg.mul]; omega
      have e4 : ((stp w ⟨a, b, c⟩).mul ⟨p, q, r, t⟩).s = shf w ⟨a, b, c⟩ * t - q := by simp only [stp, Chg.mul]; omega
      rw [e1, e2, e3, e4]
      exact h
/-! numbers that are no squares -/
noncomputable def adj (v r : Nat) : Nat := bif Nat.ble ((r + 1) * (r + 1)) v then r + 1 else r
noncomputable def nsq (d w f : Nat) : Nat → Nat → Bool :=
  Nat.rec (motive := fun _ => Nat → Nat → Bool) (fun _ _ => true)
    (fun _ ih k r => force (d * k * k + 4) fun v => force (adj v (r + w - 1)) fun r1 => force (adj v r1) fun r2 => force (adj v r2) fun r3 =>
      bif Nat.blt (r3 * r3) v && Nat.blt v ((r3 + 1) * (r3 + 1)) then force (k + 1) fun k' => ih k' r3 else false) f
theorem nsq_succ {d w f k r : Nat} : nsq d w (f + 1) k r = force (d * k * k + 4) fun v => force (adj v (r + w - 1)) fun r1 => force (adj v r1) fun r2 => force (adj v r2) fun r3 =>
      bif Nat.blt (r3 * r3) v && Nat.blt v ((r3 + 1) * (r3 + 1)) then force (k + 1) fun k' => nsq d w f k' r3 else false := rfl
theorem nsq_ok {d w : Nat} : ∀ (f k r : Nat), nsq d w f k r = true → ∀ j, k ≤ j → j < k + f → ∀ x : Nat, x * x ≠ d * j * j + 4
  | 0, k, r, _, j, h1, h2 => by omega
  | f + 1, k, r, h, j, h1, h2 => by
    rw [nsq_succ, force_e, force_e, force_e, force_e] at h
    generalize adj (d * k * k + 4) (adj (d * k * k + 4) (adj (d * k * k + 4) (r + w - 1))) = r3 at h
    cases hb : (Nat.blt (r3 * r3) (d * k * k + 4) && Nat.blt (d * k * k + 4) ((r3 + 1) * (r3 + 1))) with
    | false => rw [hb] at h; cases h
    | true =>
      rw [hb, cond_true, force_e] at h
      rcases Nat.lt_or_ge k j with z | z
      · exact nsq_ok f (k + 1) r3 h j z (by omega)
      · have : j = k := by omega
        subst this
        rw [Bool.and_eq_true] at hb
        have b1 : r3 * r3 < d * j * j + 4 := Nat.le_of_ble_eq_true hb.1
        have b2 : d * j * j + 4 < (r3 + 1) * (r3 + 1) := Nat.le_of_ble_eq_true hb.2
        intro x e
        rcases Nat.lt_or_ge r3 x with y | y
        · have := Nat.mul_le_mul (show r3 + 1 ≤ x from y) (show r3 + 1 ≤ x from y)
          omega
        · have := Nat.mul_le_mul y y
          omega
noncomputable def chkR (d : Nat) (s : Frm) (o : Option (Int × Int × Int × Int)) : Bool := match o with
  | none => false
  | some (p, q, r, t) => forceI (ab' (p + t)) fun T => forceI (ab' q / ab' s.a) fun U =>
      decide (1 ≤ T) && (decide (1 ≤ U) && (decide (T * T - (d : Int) * U * U = 4) && nsq d (wN d) (min U.toNat 300 - 1) 1 0))
noncomputable def chkP (d : Nat) : Bool := force (wN d) fun w => (fun s : Frm => forceI s.a fun a => forceI s.b fun b => forceI s.c fun c =>
    isRed w ⟨a, b, c⟩ && forceI (shf w ⟨a, b, c⟩) fun k => chkR d ⟨a, b, c⟩ (pk w a b c 200 c (-b + 2 * c * k) (a - b * k + c * (k * k)) 0 1 (-1) k)) (rf w 21 (unitQ d))
noncomputable def okD (d : Nat) : Bool := bif Nat.blt 1 (d % 4) then true else bif Nat.beq (wN d * wN d) d then true else chkP d
theorem okD_0 : (List.range' 5 25).all okD = true := by decide +kernel
theorem okD_1 : (List.range' 30 25).all okD = true := by decide +kernel
theorem okD_2 : (List.range' 55 25).all okD = true := by decide +kernel
theorem okD_3 : (List.range' 80 25).all okD = true := by decide +kernel
theorem okD_4 : (List.range' 105 25).all okD = true := by decide +kernel
theorem okD_5 : (List.range' 130 25).all okD = true := by decide +kernel
theorem okD_6 : (List.range' 155 25).all okD = true := by decide +kernel
theorem okD_7 : (List.range' 180 25).all okD = true := by decide +kernel
theorem okD_8 : (List.range' 205 25).all okD = true := by decide +kernel
theorem okD_9 : (List.range' 230 25).all okD = true := by decide +kernel
theorem okD_10 : (List.range' 255 25).all okD = true := by decide +kernel
theorem okD_11 : (List.range' 280 25).all okD = true := by decide +kernel
theorem okD_12 : (List.range' 305 25).all okD = true := by decide +kernel
theorem okD_13 : (List.range' 330 25).all okD = true := by decide +kernel
theorem okD_14 : (List.range' 355 25).all okD = true := by decide +kernel
theorem okD_15 : (List.range' 380 25).all okD = true := by decide +kernel
theorem okD_16 : (List.range' 405 25).all okD = true := by decide +kernel
theorem okD_17 : (List.range' 430 25).all okD = true := by decide +kernel
theorem okD_18 : (List.range' 455 25).all okD = true := by decide +kernel
theorem okD_19 : (List.range' 480 25).all okD = true := by decide +kernel
theorem okD_20 : (List.range' 505 25).all okD = true := by decide +kernel
theorem okD_21 : (List.range' 530 25).all okD = true := by decide +kernel
theorem okD_22 : (List.range' 555 25).all okD = true := by decide +kernel
theorem okD_23 : (List.range' 580 25).all okD = true := by decide +kernel
theorem Dn.chk {D : Int} (h : Dn D) : chkP D.toNat = true := by
  have h1 := h.lo
  have h2 := h.hi
  have h3 := h.mod
  have h4 := h.ns
  obtain ⟨d, hd⟩ : ∃ d : Nat, D = d := ⟨D.toNat, by omega⟩
  subst hd
  rw [Int.toNat_natCast]
  have key : okD d = true := by
    by_cases a0 : d < 30
    · exact List.all_eq_true.mp okD_0 d (List.mem_range'_1.mpr (by omega))
    by_cases a1 : d < 55
    · exact List.all_eq_true.mp okD_1 d (List.mem_range'_1.mpr (by omega))
    by_cases a2 : d < 80
    · exact List.all_eq_true.mp okD_2 d (List.mem_range'_1.mpr (by omega))
    by_cases a3 : d < 105
    · exact List.all_eq_true.mp okD_3 d (List.mem_range'_1.mpr (by omega))
    by_cases a4 : d < 130
    · exact List.all_eq_true.mp okD_4 d (List.mem_range'_1.mpr (by omega))
    by_cases a5 : d < 155
    · exact List.all_eq_true.mp okD_5 d (List.mem_range'_1.mpr (by omega))
    by_cases a6 : d < 180
    · exact List.all_eq_true.mp okD_6 d (List.mem_range'_1.mpr (by omega))
    by_cases a7 : d < 205
    · exact List.all_eq_true.mp okD_7 d (List.mem_range'_1.mpr (by omega))
    by_cases a8 : d < 230
    · exact List.all_eq_true.mp okD_8 d (List.mem_range'_1.mpr (by omega))
    by_cases a9 : d < 255
    · exact List.all_eq_true.mp okD_9 d (List.mem_range'_1.mpr (by omega))
    by_cases a10 : d < 280
    · exact List.all_eq_true.mp okD_10 d (List.mem_range'_1.mpr (by omega))
    by_cases a11 : d < 305
    · exact List.all_eq_true.mp okD_11 d (List.mem_range'_1.mpr (by omega))
    by_cases a12 : d < 330
    · exact List.all_eq_true.mp okD_12 d (List.mem_range'_1.mpr (by omega))
    by_cases a13 : d < 355
    · exact List.all_eq_true.mp okD_13 d (List.mem_range'_1.mpr (by omega))
    by_cases a14 : d < 380
    · exact List.all_eq_true.mp okD_14 d (List.mem_range'_1.mpr (by omega))
    by_cases a15 : d < 405
    · exact List.all_eq_true.mp okD_15 d (List.mem_range'_1.mpr (by omega))
    by_cases a16 : d < 430
    · exact List.all_eq_true.mp okD_16 d (List.mem_range'_1.mpr (by omega))
    by_cases a17 : d < 455
    · exact List.all_eq_true.mp okD_17 d (List.mem_range'_1.mpr (by omega))
    by_cases a18 : d < 480
    · exact List.all_eq_true.mp okD_18 d (List.mem_range'_1.mpr (by omega))
    by_cases a19 : d < 505
    · exact List.all_eq_true.mp okD_19 d (List.mem_range'_1.mpr (by omega))
    by_cases a20 : d < 530
    · exact List.all_eq_true.mp okD_20 d (List.mem_range'_1.mpr (by omega))
    by_cases a21 : d < 555
    · exact List.all_eq_true.mp okD_21 d (List.mem_range'_1.mpr (by omega))
    by_cases a22 : d < 580
    · exact List.all_eq_true.mp okD_22 d (List.mem_range'_1.mpr (by omega))
    exact List.all_eq_true.mp okD_23 d (List.mem_range'_1.mpr (by omega))
  unfold okD at key
  have e1 : Nat.blt 1 (d % 4) = false := by
    cases q : Nat.blt 1 (d % 4) with
    | false => rfl
    | true =>
      have := Nat.le_of_ble_eq_true q
      omega
  have e2 : Nat.beq (wN d * wN d) d = false := by
    cases q : Nat.beq (wN d * wN d) d with
    | false => rfl
    | true =>
      have := Nat.eq_of_beq_eq_true q
      exact absurd (by exact_mod_cast this) h4
  rw [e1, e2] at key
  exact key
end K14
set_option exponentiation.threshold 3000
/-! k14, part E5: pell. -/
namespace K14
open PySem DL
variable {M : Store}
noncomputable def tsP : TF := cTru (cOp (gEq true) (cVar 4) (cVar 2))
noncomputable def bdP : SF := (sSeq (sAsg (cCall m_next_form (aCons (cVar 4) aNil)) (gTupC 2 (gConsC (gN 4) (gConsC (gN 5) gNilC)))) (sSeq (sAsg (cCall m_product (aCons (cVar 5) (aCons (cVar 3) aNil))) (gN 3)) (sSeq (sAug 6 gAdd (cC (.int 1))) (sIf (cTru (cOp gGt (cVar 6) (cC k_RING_MOST))) sDead sSkip))))
theorem loop_P {D : Int} (hD : Dn D) {s : Frm} {e0 e1 : Option DL.D} {rest : DL.Env} {R : Int × Int × Int × Int} : ∀ (n : Nat) (g : Frm) (u : Chg) (x5 : Option DL.D) (many : Int) (j : Nat), g.gap = D → isRed (wN D) g = true → szC j u → j + 43 * n < 90000 → 0 ≤ many → many + n ≤ 20000 →
    pk (wN D) s.a s.b s.c n g.a g.b g.c u.p u.q u.r u.s = some R →
    szC 90000 ⟨R.1, R.2.1, R.2.2.1, R.2.2.2⟩ ∧ ∃ y5 y6, sWhile tsP bdP (e0 :: e1 :: some (eF s) :: some (eC u) :: some (eF g) :: x5 :: some (.int many) :: rest) M = some (.nx (e0 :: e1 :: some (eF s) :: some (eC ⟨R.1, R.2.1, R.2.2.1, R.2.2.2⟩) :: some (eF s) :: y5 :: y6 :: rest), M)
  | 0, g, u, x5, many, j, hg, rg, hu, hj, m0, mn, h => by rw [pk_zero] at h; cases h
  | n + 1, g, u, x5, many, j, hg, rg, hu, hj, m0, mn, h => by
    rcases pk_step h with ⟨h1, h2⟩ | ⟨h1, h2⟩
    · have e : g = s := h1
      subst e
      rw [h2]
      refine ⟨hu.mono (by omega), x5, some (.int many), sWhile_stop (M1 := M) ?_⟩
      unfold tsP
      simp [gEq_F]
    · have hne : g ≠ s := h1
      have hst := stp_sz hD hg ((red_bq hD hg rg).mono (by omega))
      have hx := next_red (M := M) hD hg rg
      have hp := prod_is (M := M) (j := 42) (k := j) (by omega) hst hu
      obtain ⟨hz, y5, y6, e⟩ := loop_P hD (s := s) (e0 := e0) (e1 := e1) (rest := rest) n (nxt (wN D) g) ((stp (wN D) g).mul u) (some (eC (stp (wN D) g))) (many + 1) (42 + j + 1) (nxt_gap.trans hg) (nxt_red hD hg rg) (mul_sz hst hu) (by omega) (by omega) (by omega) h2
      refine ⟨hz, y5, y6, sWhile_more (M1 := M) (M2 := M) (en1 := e0 :: e1 :: some (eF s) :: some (eC ((stp (wN D) g).mul u)) :: some (eF (nxt (wN D) g)) :: some (eC (stp (wN D) g)) :: some (.int (many + 1)) :: rest) ?_ ?_ e⟩
      · unfold tsP
        simp [gEq_F, hne]
      · unfold bdP
        rw [sSeq_nx (en1 := e0 :: e1 :: some (eF s) :: some (eC u) :: some (eF (nxt (wN D) g)) :: some (eC (stp (wN D) g)) :: some (.int many) :: rest) (M1 := M) (by simp [hx])]
        rw [sSeq_nx (en1 := e0 :: e1 :: some (eF s) :: some (eC ((stp (wN D) g).mul u)) :: some (eF (nxt (wN D) g)) :: some (eC (stp (wN D) g)) :: some (.int many) :: rest) (M1 := M) (by simp [hp])]
        rw [sSeq_nx (en1 := e0 :: e1 :: some (eF s) :: some (eC ((stp (wN D) g).mul u)) :: some (eF (nxt (wN D) g)) :: some (eC (stp (wN D) g)) :: some (.int (many + 1)) :: rest) (M1 := M) (by simp)]
        have hk : k_RING_MOST = .int 20000 := rfl
        have hgt : ¬ many + 1 > 20000 := by omega
        have hgt2 := gGt_f (M := M) hgt
        rw [sIf_e, cTru_e, cOp_e, cVar_e]
        simp only [List.getElem?_cons_zero, List.getElem?_cons_succ, bnd_ok, cC_e, hk, hgt2, tru_bl, sbnd_ok, Bool.false_eq_true, if_false]
        rfl
structure Pell (D T U : Int) : Prop where
  t : 1 ≤ T
  u : 1 ≤ U
  eq : T * T - D * U * U = 4
  least : ∀ k : Int, 1 ≤ k → k < U → k < 300 → ∀ x : Int, x * x ≠ D * k * k + 4
theorem cast_sq {d j x : Nat} (h : ((x : Int)) * x = (d : Int) * j * j + 4) : x * x = d * j * j + 4 := by exact_mod_cast h
theorem least_of {d : Nat} {U : Int} (h : nsq d (wN d) (min U.toNat 300 - 1) 1 0 = true) : ∀ k : Int, 1 ≤ k → k < U → k < 300 → ∀ x : Int, x * x ≠ (d : Int) * k * k + 4 := by
  intro k h1 h2 h3 x e
  have := nsq_ok _ _ _ h k.toNat (by omega) (by omega) x.natAbs
  refine this (cast_sq ?_)
  have e1 : ((x.natAbs : Nat) : Int) * (x.natAbs : Nat) = x * x := by
    rw [← Int.natCast_mul, Int.natAbs_mul_self]
  have e2 : ((k.toNat : Nat) : Int) = k := by omega
  rw [e1, e2]
  exact e
theorem chk_is {D : Int} (hD : Dn D) : ∃ (P Q R S : Int), isRed (wN D) (rf (wN D) 21 (unitQ D)) = true ∧ pk (wN D) (rf (wN D) 21 (unitQ D)).a (rf (wN D) 21 (unitQ D)).b (rf (wN D) 21 (unitQ D)).c 200 (nxt (wN D) (rf (wN D) 21 (unitQ D))).a (nxt (wN D) (rf (wN D) 21 (unitQ D))).b (nxt (wN D) (rf (wN D) 21 (unitQ D))).c (stp (wN D) (rf (wN D) 21 (unitQ D))).p (stp (wN D) (rf (wN D) 21 (unitQ D))).q (stp (wN D) (rf (wN D) 21 (unitQ D))).r (stp (wN D) (rf (wN D) 21 (unitQ D))).s = some (P, Q, R, S) ∧ Pell D (ab' (P + S)) (ab' Q / ab' (rf (wN D) 21 (unitQ D)).a) := by
  have h := hD.chk
  obtain ⟨d, hd⟩ : ∃ d : Nat, D = d := ⟨D.toNat, by have := hD.lo; omega⟩
  subst hd
  rw [Int.toNat_natCast] at h
  unfold chkP at h
  rw [force_e] at h
  dsimp only at h
  rw [forceI_e, forceI_e, forceI_e, forceI_e] at h
  obtain ⟨s, hs⟩ : ∃ s, s = rf (wN (d : Int)) 21 (unitQ (d : Int)) := ⟨_, rfl⟩
  rw [← hs] at h ⊢
  have es : (⟨s.a, s.b, s.c⟩ : Frm) = s := by cases s; rfl
  rw [es, Bool.and_eq_true] at h
  obtain ⟨h1, h2⟩ := h
  rw [nxt_eq]
  dsimp only [stp]
  cases ho : pk (wN (d : Int)) s.a s.b s.c 200 s.c (-s.b + 2 * s.c * shf (wN (d : Int)) s) (s.a - s.b * shf (wN (d : Int)) s + s.c * (shf (wN (d : Int)) s * shf (wN (d : Int)) s)) 0 1 (-1) (shf (wN (d : Int)) s) with
  | none => rw [ho] at h2; exact absurd h2 (by simp [chkR])
  | some R =>
    obtain ⟨P, Q, R, S⟩ := R
    rw [ho] at h2
    unfold chkR at h2
    dsimp only at h2
    rw [forceI_e, forceI_e] at h2
    rw [Bool.and_eq_true, Bool.and_eq_true, Bool.and_eq_true, decide_eq_true_eq, decide_eq_true_eq, decide_eq_true_eq] at h2
    exact ⟨P, Q, R, S, h1, rfl, ⟨h2.1, h2.2.1, h2.2.2.1, least_of h2.2.2.2⟩⟩
theorem sz_ab {k : Nat} {x : Int} (h : Sz k x) : Sz k (ab' x) := by
  unfold Sz ab' at *
  split <;> omega
theorem sz_div {k : Nat} {x a : Int} (h : Sz k (ab' x)) (ha : 1 ≤ a) : Sz k (ab' x / a) := by
  have h0 := ab_nn (c := x)
  have h1 : ab' x / a ≤ ab' x := Int.ediv_le_self _ h0
  have h2 : 0 ≤ ab' x / a := Int.ediv_nonneg h0 (by omega)
  unfold Sz at *
  omega
theorem pell_is {D : Int} (hD : Dn D) : ∃ T U : Int, Pell D T U ∧ Sz 90001 T ∧ Sz 90000 U ∧ m_pell [.int D] M = some (.ok (.tup [.int T, .int U]), M) := by
  obtain ⟨ug, ub⟩ := unitQ_gap hD
  obtain ⟨P, Q, R, S, h1, h2, h3⟩ := chk_is hD
  obtain ⟨v, v0, v1, v2, v3, hred⟩ := reduced_rf (M := M) hD ug (ub.mono (by omega))
  rw [v0] at hred
  obtain ⟨s, hs⟩ : ∃ s, s = rf (wN D) 21 (unitQ D) := ⟨_, rfl⟩
  rw [← hs] at h1 h2 h3 hred v0
  have hsg : s.gap = D := by rw [← v0, gap_act, v1, ug]; omega
  have hst := stp_sz hD hsg ((red_bq hD hsg h1).mono (by omega))
  have hx := next_red (M := M) hD hsg h1
  have hp := prod_is (M := M) (j := 42) (k := 1) (by omega) hst sz_one
  have hone : (stp (wN D) s).mul .one = stp (wN D) s := by simp [Chg.mul, Chg.one, stp]
  rw [hone] at hp
  have hchk := check_open_is (M := M) hD ug ub (by omega)
  obtain ⟨hz, y5, y6, e⟩ := loop_P (M := M) hD (s := s) (e0 := some (.int D)) (e1 := some (eF (unitQ D))) (rest := [none, none, none, none]) 200 (nxt (wN D) s) (stp (wN D) s) (some (eC (stp (wN D) s))) 1 42 (nxt_gap.trans hsg) (nxt_red hD hsg h1) hst (by omega) (by omega) (by omega) h2
  refine ⟨_, _, h3, sz_ab (hz.1.add hz.2.2.2), sz_div (sz_ab hz.2.1) (ab_pos (hD.a_ne hsg)), ?_⟩
  have hm := hD.mod
  have h4 : modC D 4 = true := modC_of (by omega)
  have h22 : modC D 2 = true := modC_of (by omega)
  have hdv : divC (D % 2 - D) 4 = true := divC_of (by omega) (by omega)
  have hgt : ¬ D % 4 > 1 := by omega
  have hgt2 := gGt_f (M := M) hgt
  unfold m_pell f_pell
  rw [mDef_1, show start0 11 [DL.D.int D] = [some (.int D), none, none, none, none, none, none, none, none, none, none] from rfl]
  rw [sSeq_nx (en1 := [some (.int D), none, none, none, none, none, none, none, none, none, none]) (M1 := M) (by
    rw [sIf_e, cTru_e, cOp_e, cOp_e, cVar_e]
    simp only [List.getElem?_cons_zero, bnd_ok, cC_e, gI_e, h4, if_true, hgt2, tru_bl, sbnd_ok, Bool.false_eq_true, if_false]
    rfl)]
  have eu : eF (unitQ D) = .tup [.int 1, .int (D % 2), .int ((D % 2 - D) / 4)] := rfl
  rw [sSeq_nx (en1 := [some (.int D), some (eF (unitQ D)), none, none, none, none, none, none, none, none, none]) (M1 := M) (by
    rw [eu]
    simp [h22, hdv])]
  rw [sSeq_nx (en1 := [some (.int D), some (eF (unitQ D)), none, none, none, none, none, none, none, none, none]) (M1 := M) (by simp [hchk])]
  rw [sSeq_nx (en1 := [some (.int D), some (eF (unitQ D)), some (eF s), some (eC .one), none, none, none, none, none, none, none]) (M1 := M) (by
    simp only [sPar_e, cCall_e, cOp_e, cC_e, aCons_e, aNil_e, cVar_e, List.getElem?_cons_zero, List.getElem?_cons_succ, bnd_ok, hred, gIx0, unit_eq, sbnd_ok]
    rfl)]
  rw [sSeq_nx (en1 := [some (.int D), some (eF (unitQ D)), some (eF s), some (eC .one), some (eF (nxt (wN D) s)), some (eC (stp (wN D) s)), none, none, none, none, none]) (M1 := M) (by simp [hx])]
  rw [sSeq_nx (en1 := [some (.int D), some (eF (unitQ D)), some (eF s), some (eC (stp (wN D) s)), some (eF (nxt (wN D) s)), some (eC (stp (wN D) s)), none, none, none, none, none]) (M1 := M) (by simp [hp])]
  rw [sSeq_nx (en1 := [some (.int D), some (eF (unitQ D)), some (eF s), some (eC (stp (wN D) s)), some (eF (nxt (wN D) s)), some (eC (stp (wN D) s)), some (.int 1), none, none, none, none]) (M1 := M) (by simp)]
  unfold tsP bdP at e
  rw [sSeq_nx e]
  have ec : eC ⟨P, Q, R, S⟩ = .tup [.tup [.int P, .int Q], .tup [.int R, .int S]] := rfl
  rw [sSeq_nx (en1 := [some (.int D), some (eF (unitQ D)), some (eF s), some (eC ⟨P, Q, R, S⟩), some (eF s), y5, y6, some (.int P), some (.int Q), some (.int R), some (.int S)]) (M1 := M) (by
    rw [sAsg_e, cVar_e]
    simp only [List.getElem?_cons_zero, List.getElem?_cons_succ, bnd_ok, sbnd_ok]
    rw [ec]
    simp)]
  have hsa := red_bq hD hsg h1
  have ha1 := ab_pos (hD.a_ne hsg)
  have ha2 := le_ab (show -(700 : Int) ≤ s.a ∧ s.a ≤ 700 from ⟨hsa.a1, hsa.a2⟩)
  have hdiv : divC (ab' Q) (ab' s.a) = true := divC_of (by omega) (by omega)
  have i0 : gIx (eF s) (.int 0) M = some (.ok (.int s.a), M) := rfl
  have g1 : gAbs [.int (P + S)] M = some (.ok (.int (ab' (P + S))), M) := gAbs_e'
  have g2 : gAbs [.int Q] M = some (.ok (.int (ab' Q)), M) := gAbs_e'
  have g3 : gAbs [.int s.a] M = some (.ok (.int (ab' s.a)), M) := gAbs_e'
  simp only [sRet_e, cTup_e, aCons_e, aNil_e, cCall_e, cOp_e, cVar_e, cC_e, List.getElem?_cons_zero, List.getElem?_cons_succ, bnd_ok, gAddA_i, g1, g2, i0, g3, gI_e, hdiv, if_true, List.length_cons, List.length_nil, Nat.reduceAdd, szOk_2, sbnd_ok, fin_rt]
  exact gcF_ok0 (by simp) rfl
end K14
set_option exponentiation.threshold 3000
/-! k14, part P: what the law's own call needs. -/
namespace K14
open PySem DL
variable {M : Store}
/-! picks -/
theorem drawB {ds : List Int} {a m : Int} (ha : 0 ≤ a) (ha2 : a ≤ 1000000) (hm : 0 < m) : ∃ r : Int, 0 ≤ r ∧ r < m ∧ m_l_draw [.cel 0, .int m] [Box ds a] = some (.ok (.int r), [Box ds (a + 1)]) := draw_is (M := [Box ds a]) (c := 0) rfl ha ha2 hm
theorem pickU {α : Type} {enc : α → D} {l : List α} {ds : List Int} {a : Int} (ha : 0 ≤ a) (ha2 : a ≤ 1000000) (hl : l ≠ []) (h1 : ∀ x, clo 1 (enc x) = true) (h2 : ∀ x, notCel (enc x) = true) :
    ∃ x ∈ l, m_l_pick [.cel 0, .tup (l.map enc)] [Box ds a] = some (.ok (enc x), [Box ds (a + 1)]) := by
  have hp : 0 < l.length := List.length_pos_iff.mpr hl
  obtain ⟨L, hL⟩ : ∃ L : Int, L = (l.length : Int) := ⟨_, rfl⟩
  obtain ⟨r, r1, r2, r3⟩ := drawB (ds := ds) (a := a) (m := L) ha ha2 (by omega)
  obtain ⟨j, rfl⟩ : ∃ j : Nat, r = j := ⟨r.toNat, by omega⟩
  have hj : j < l.length := by omega
  have e : L2.atI (l.map enc) (j : Int) = some (enc l[j]) := by
    rw [atI_nat (by simpa using hj)]
    simp
  have hlen : ∀ S : Store, gLen [.tup (l.map enc)] S = some (.ok (.int L), S) := fun S => by
    rw [hL]
    have : ((l.length : Nat) : Int) = (((l.map enc).length : Nat) : Int) := by rw [List.length_map]
    rw [this]
    rfl
  refine ⟨l[j], List.getElem_mem hj, ?_⟩
  unfold m_l_pick f_l_pick
  rw [mDef_2]
  have h3 : sRet (cOp gIx (cVar 1) (cCall m_l_draw (aCons (cVar 0) (aCons (cCall gLen (aCons (cVar 1) aNil)) aNil)))) (start0 2 [D.cel 0, .tup (l.map enc)]) [Box ds a] = some (.rt (enc l[j]), [Box ds (a + 1)]) := by
    rw [show start0 2 [D.cel 0, .tup (l.map enc)] = [some (.cel 0), some (.tup (l.map enc))] from rfl]
    simp only [sRet_e, cOp_e, cCall_e, aCons_e, aNil_e, cVar_e, List.getElem?_cons_zero, List.getElem?_cons_succ, bnd_ok, hlen, r3, gIx_t', e, sbnd_ok]
  rw [h3, fin_rt]
  have e2 : [Box ds (a + 1)] = [Box ds a].set 0 (Box ds (a + 1)) := rfl
  rw [e2]
  exact gcF_set clos_box (h1 _) (h2 _)
/-! determinants of great changes -/
theorem det_of {p q r s : Int} (h1 : mulC p s = true) (h2 : mulC (-r) q = true) : m_l_det 3 [eTab [[p, q], [r, s]]] M = some (.ok (.int (p * s - q * r)), M) := by
  unfold m_l_det f_l_det
  have s2 : smI 2 = true := rfl
  have one : ∀ x : Int, mulC 1 x = true := fun x => mulC_l (by decide) (by decide)
  have neg : ∀ x : Int, mulC (-1) x = true := fun x => mulC_l (by decide) (by decide)
  by_cases k1 : p = 0
  · subst k1
    by_cases k2 : r = 0
    · subst k2
      simp [rgD_2, s2, fLoop_cons, eTab, eRow]
    · simp [rgD_2, s2, fLoop_cons, eTab, eRow, k2, cut_a, cut_b, cut_c, cut_d, det1, m2, modC, neg, h2, one]
      grind
  · by_cases k2 : r = 0
    · subst k2
      simp [rgD_2, s2, fLoop_cons, eTab, eRow, k1, cut_a, cut_b, cut_c, cut_d, det1, m2, modC, neg, h1, one]
    · simp [rgD_2, s2, fLoop_cons, eTab, eRow, k1, k2, cut_a, cut_b, cut_c, cut_d, det1, m2, modC, neg, h1, h2, one]
      grind
theorem det_big {u : Chg} {k : Nat} (hk : k ≤ 70000) (hu : szC k u) (hd : u.det = 1) : m_l_det 3 [eC u] M = some (.ok (.int 1), M) := by
  have := det_of (M := M) (mulC_sz hu.1 hu.2.2.2 (by omega)) (mulC_sz hu.2.2.1.neg hu.2.1 (by omega))
  have e : u.p * u.s - u.q * u.r = 1 := hd
  rw [e] at this
  exact this
/-! a form in other rows -/
theorem act_bd {n : Int} {f : Frm} {u : Chg} (hf : Bq 700 f) (hp : -243 ≤ u.p ∧ u.p ≤ 243) (hq : -243 ≤ u.q ∧ u.q ≤ 243) (hr : -243 ≤ u.r ∧ u.r ≤ 243) (hs : -243 ≤ u.s ∧ u.s ≤ 243) : Bq (10 ^ 12) (f.act u) ∧ (Sm u.p ∧ Sm u.q ∧ Sm u.r ∧ Sm u.s) ∧ Sm f.b := by
  obtain ⟨a1, a2, b1, b2, c1, c2⟩ := hf
  have A : -700 ≤ f.a ∧ f.a ≤ 700 := ⟨a1, a2⟩
  have B : -700 ≤ f.b ∧ f.b ≤ 700 := ⟨b1, b2⟩
  have C : -700 ≤ f.c ∧ f.c ≤ 700 := ⟨c1, c2⟩
  have wb : ∀ x y : Int, (-243 ≤ x ∧ x ≤ 243) → (-243 ≤ y ∧ y ≤ 243) → -(10 ^ 12) ≤ worthF f.a f.b f.c x y ∧ worthF f.a f.b f.c x y ≤ 10 ^ 12 := by
    intro x y hx hy
    have := ab (ab (mb (mb A hx) hx) (mb (mb B hx) hy)) (mb (mb C hy) hy)
    unfold worthF
    omega
  have hm : -(10 ^ 12) ≤ midF f.a f.b f.c u.p u.q u.r u.s ∧ midF f.a f.b f.c u.p u.q u.r u.s ≤ 10 ^ 12 := by
    have two : -(2 : Int) ≤ 2 ∧ (2 : Int) ≤ 2 := by omega
    have := ab (ab (mb (mb (mb two A) hp) hr) (mb B (ab (mb hp hs) (mb hq hr)))) (mb (mb (mb two C) hq) hs)
    unfold midF
    omega
  have w1 := wb u.p u.q hp hq
  have w2 := wb u.r u.s hr hs
  have sm : ∀ {x : Int}, (-243 ≤ x ∧ x ≤ 243) → Sm x := fun h => ⟨by omega, by omega⟩
  exact ⟨⟨w1.1, w1.2, hm.1, hm.2, w2.1, w2.2⟩, ⟨sm hp, sm hq, sm hr, sm hs⟩, ⟨by omega, by omega⟩⟩
theorem bq_sz {f : Frm} (h : Bq (10 ^ 12) f) : Sz 70000 f.a ∧ Sz 70000 f.b ∧ Sz 70000 f.c := by
  have key : ∀ x : Int, -(10 ^ 12) ≤ x → x ≤ 10 ^ 12 → Sz 70000 x := by
    intro x h1 h2
    refine Sz.mono (j := 41) ?_ (by decide)
    unfold Sz
    have e : (2 : Nat) ^ 41 = 2199023255552 := by decide
    rw [e]
    omega
  exact ⟨key _ h.a1 h.a2, key _ h.b1 h.b2, key _ h.c1 h.c2⟩
/-! rings, in words -/
theorem gIn_Rg {neg : Bool} {f : Frm} {r : List Frm} : gIn neg (eF f) (eRg r) M = some (.ok (.bl (if neg = true then !decide (f ∈ r) else decide (f ∈ r))), M) := by
  have h := gIn_rows (M := M) (neg := neg) (r := rowF f) (t := r.map rowF)
  have e : (r.map rowF).contains (rowF f) = decide (f ∈ r) := by
    rw [Bool.eq_iff_iff, List.contains_iff_mem, decide_eq_true_eq, List.mem_map]
    constructor
    · rintro ⟨g, hg, e⟩
      rw [← rowF_inj e]; exact hg
    · intro h; exact ⟨f, h, rfl⟩
  rw [e] at h
  rw [eRg_tab, eF_row]
  unfold gIn at *
  exact h
structure RgOk (D : Int) (r : List Frm) : Prop where
  len : r.length ≤ 1500
  bq : ∀ f ∈ r, Bq 700 f
theorem RgOk.sm {D : Int} {r : List Frm} (h : RgOk D r) : ∀ t ∈ r.map rowF, ∀ x ∈ t, Sm x := by
  intro t ht x hx
  obtain ⟨f, hf, rfl⟩ := List.mem_map.mp ht
  have := (h.bq f hf).sm (by omega)
  unfold rowF at hx
  simp only [List.mem_cons, List.not_mem_nil, or_false] at hx
  rcases hx with rfl | rfl | rfl
  · exact this.1
  · exact this.2.1
  · exact this.2.2
theorem RgOk.three {r : List Frm} : ∀ t ∈ r.map rowF, t.length ≤ 3 := by
  intro t ht
  obtain ⟨f, hf, rfl⟩ := List.mem_map.mp ht
  exact Nat.le_refl _
theorem same_Rg {D : Int} {r : List Frm} (h : RgOk D r) : m_l_same [eRg r, eRg r] M = some (.ok (.bl true), M) := by
  rw [eRg_tab]
  exact same_tab h.sm RgOk.three (by rw [List.length_map]; have := h.len; omega)
theorem sm_shI {x : Int} (h : Sm x) : shI x := shI_of (by
  obtain ⟨h1, h2⟩ := h
  have : x.natAbs < 10 ^ 15 := by omega
  exact Nat.lt_trans this (by decide))
theorem plain_Rg {D : Int} {r : List Frm} (h : RgOk D r) : plainPy (pRg r) = true := plain_tab fun t ht x hx => sm_shI (h.sm t ht x hx)
theorem bulk_Rg {r : List Frm} : (pRg r).bulk ≤ r.length * 4 := by
  have := bulk_tab (t := r.map rowF) (k := 3) RgOk.three
  rw [List.length_map] at this
  exact this
theorem same_pair {D : Int} {r s : List Frm} (h : RgOk D r) (k : RgOk D s) (hl : r.length + s.length ≤ 1500) : m_l_same [.tup [eRg r, eRg s], .tup [eRg r, eRg s]] M = some (.ok (.bl true), M) := by
  have hp : toPyM M (.tup [eRg r, eRg s]) = some (.tuple [pRg r, pRg s]) := by
    show toPy (.tup [eRg r, eRg s]) = _
    simp only [toPy, toPys, toPy_Rg]
    rfl
  refine same_is hp hp (shOk_of ?_ ?_ ?_)
  · simp only [plainPy, plainPys, plain_Rg h, plain_Rg k, Bool.and_self]
  · simp only [PyData.depth, PyData.depthAll]
    have h1 := depth_tab (r := r.map rowF)
    have h2 := depth_tab (r := s.map rowF)
    unfold pRg
    omega
  · simp only [PyData.bulk, PyData.bulkAll]
    have h1 := bulk_Rg (r := r)
    have h2 := bulk_Rg (r := s)
    omega
/-! lists compared -/
theorem gEq_Fl {l : List Frm} : gEq true (.imm (l.map eF)) (.imm (l.map eF)) M = some (.ok (.bl false), M) := by
  have hp : toPyM M (.imm (l.map eF)) = some (.list ((l.map rowF).map pRow)) := by
    show toPy (.imm (l.map eF)) = _
    rw [rows_RL]
    simp only [toPy]
    rw [rows_py]
    rfl
  rw [gEq_of hp hp shaped_rows shaped_rows (fun _ z => nomatch z)]
  simp only [PyData.eqv]
  rw [eqvAll_of fun x y => eqv_row]
  simp
theorem shaped_Rgs {l : List (List Frm)} : SeqAt.shaped (.list (l.map pRg)) = true := by
  have h1 : PyData.canLayAll0 (l.map pRg) = true := canLayAll_of fun x _ => lay_tab
  have h2 := depthAll_le (f := pRg) (k := 2) (l := l) fun x _ => depth_tab
  show ((PyData.list (l.map pRg)).canLay0 && decide ((PyData.list (l.map pRg)).depth ≤ 64)) = true
  simp only [PyData.canLay0, PyData.depth, h1, Bool.true_and]
  exact decide_eq_true (by omega)
theorem gEq_Rgs {l : List (List Frm)} : gEq true (.imm (l.map eRg)) (.imm (l.map eRg)) M = some (.ok (.bl false), M) := by
  have hp : toPyM M (.imm (l.map eRg)) = some (.list (l.map pRg)) := by
    show toPy (.imm (l.map eRg)) = _
    simp only [toPy]
    rw [toPys_map toPy_Rg]
    rfl
  rw [gEq_of hp hp shaped_Rgs shaped_Rgs (fun _ z => nomatch z)]
  have e : l.map pRg = (l.map fun r => r.map rowF).map pTab := by rw [List.map_map]; rfl
  simp only [PyData.eqv]
  rw [e, eqvAll_of fun x y => eqv_tab]
  simp
theorem gEq_nil {l : List Int} {neg : Bool} (h : l = []) : gEq neg (.imm (l.map D.int)) (.imm []) M = some (.ok (.bl (if neg = true then false else true)), M) := by
  subst h
  have hp : toPyM M (.imm []) = some (.list ([] : List PyData)) := rfl
  have hsh : SeqAt.shaped (.list []) = true := shaped_rows (l := [])
  rw [List.map_nil, gEq_of hp hp hsh hsh (fun _ z => nomatch z)]
  have e : PyData.eqv (.list []) (.list []) = true := by simp [PyData.eqv, PyData.eqvAll]
  rw [e]
  rfl
/-! a ring of the list -/
theorem TT_ring {D : Int} (hD : Dn D) {r : List Frm} (hr : r ∈ TT D) : ∃ (μ : Frm) (m : Nat), r = RL (wN D) μ m ∧ Per (wN D) μ m ∧ μ.gap = D ∧ isRed (wN D) μ = true ∧ Pr μ ∧ m ≤ 1500 ∧ r = ringOf (wN D) μ ∧ ∀ j, ltF (nx (wN D) j μ) μ = false := by
  obtain ⟨s, s1, s2, s3, s4⟩ := mem_rows hD (mem_TT.mp hr)
  have h := per_ok hD s1 s2
  obtain ⟨⟨j, hj⟩, hle⟩ := lst_is h.1
  have hsame := ring_same hD s1 s2 j
  rw [← hj] at hsame
  have hper : Per (wN D) (lst (wN D) s) (per (wN D) s) := by rw [hj]; exact h.1.shift hD s1 s2 j
  refine ⟨lst (wN D) s, per (wN D) s, s4, hper, ?_, ?_, ?_, Nat.le_trans h.2 (allF_len hD), ?_, ?_⟩
  · rw [hj, nx_gap]; exact s1
  · rw [hj]; exact nx_red hD j s1 s2
  · rw [hj]; exact nx_pr j s3
  · rw [hsame.2]; exact s4
  · intro i
    rw [hj, ← nx_add]
    rw [← hj]
    exact hle _
theorem ring_ok {D : Int} (hD : Dn D) {s : Frm} (hs : s.gap = D) (rs : isRed (wN D) s = true) : RgOk D (ringOf (wN D) s) := ⟨(ringOf_len hD hs rs).2, fun f hf => by
  obtain ⟨g1, g2, _⟩ := ringOf_mem hD hs rs hf
  exact red_bq hD g1 g2⟩
theorem min_is {D : Int} {μ : Frm} {m : Nat} (h : Per (wN D) μ m) (hle : ∀ j, ltF (nx (wN D) j μ) μ = false) : gMinR [eRg (RL (wN D) μ m)] M = some (.ok (eF μ), M) := by
  have hc : (RL (wN D) μ m).map rowF = rowF μ :: ((List.range (m - 1)).map fun i => nx (wN D) (i + 1) μ).map rowF := by rw [RL_cons h.pos]; rfl
  unfold gMinR
  dsimp only
  rw [show itemsOf M (eRg (RL (wN D) μ m)) = some ((RL (wN D) μ m).map eF) from rfl]
  dsimp only
  rw [rows_RL, rowsOf_is, hc]
  dsimp only
  rw [minRow_is]
  obtain ⟨k1, k2⟩ := minF_le ((List.range (m - 1)).map fun i => nx (wN D) (i + 1) μ) μ
  have e : minF μ ((List.range (m - 1)).map fun i => nx (wN D) (i + 1) μ) = μ := by
    rcases k1 with k1 | k1
    · exact k1
    · obtain ⟨i, _, hi⟩ := List.mem_map.mp k1
      refine ltF_tri ?_ (k2 μ (.inl rfl))
      rw [← hi]
      exact hle _
  rw [e]
  rfl
theorem two_len {l : List (List Frm)} {r s : List Frm} (hr : r ∈ l) (hs : s ∈ l) (h : r ≠ s) : r.length + s.length ≤ l.flatten.length := by
  have one : ∀ {l : List (List Frm)} {r : List Frm}, r ∈ l → r.length ≤ l.flatten.length := by
    intro l r h
    induction l with
    | nil => exact nomatch h
    | cons a l ih =>
      rw [List.flatten_cons, List.length_append]
      rcases List.mem_cons.mp h with rfl | h
      · omega
      · have := ih h; omega
  induction l with
  | nil => exact nomatch hr
  | cons a l ih =>
    rw [List.flatten_cons, List.length_append]
    rcases List.mem_cons.mp hr with rfl | hr'
    · rcases List.mem_cons.mp hs with e | hs'
      · exact absurd e.symm h
      · have := one hs'; omega
    · rcases List.mem_cons.mp hs with rfl | hs'
      · have := one hr'; omega
      · have := ih hr' hs'; omega
end K14
set_option exponentiation.threshold 3000
/-! k14, part Q: the law's statements. -/
namespace K14
open PySem DL
variable {M : Store}
/-! squares: refused -/
theorem check_sq {n w : Int} {e0 : Option DL.D} (hr : m_root [.int n] M = some (.ok (.int w), M)) (hm : mulC w w = true) (hle : ¬ n ≤ 0) (hne : w * w = n) : (sIf (tOrC (cTru (cOp gLe (cVar 1) (cC (.int 0)))) (cTru (cOp (gEq false) (cOp gMul (cCall m_root (aCons (cVar 1) aNil)) (cCall m_root (aCons (cVar 1) aNil))) (cVar 1)))) (sRaise "BadTable" (aCons (cC (.str "discriminant")) aNil)) sSkip) [e0, some (.int n)] M = some (.ex "BadTable" [("reason", .str "discriminant")] [e0, some (.int n)], M) := by
  have h1 : gLe (.int n) (.int 0) M = some (.ok (.bl false), M) := by
    show some (Out.ok (DL.D.bl (decide (n ≤ 0))), M) = _
    rw [decide_eq_false hle]
  have h2 : gEq false (.int (w * w)) (.int n) M = some (.ok (.bl true), M) := by
    rw [gEq_int]
    have : (w * w == n) = true := by simpa using hne
    rw [this]; rfl
  rw [sIf_e, tOrC_e, cTru_e, cOp_e, cVar_e]
  simp only [List.getElem?_cons_zero, List.getElem?_cons_succ, bnd_ok, cC_e, h1, tru_bl, Bool.false_eq_true, if_false]
  rw [cTru_e, cOp_e, cOp_e, cCall_e, aCons_e, cVar_e]
  simp only [List.getElem?_cons_zero, List.getElem?_cons_succ, bnd_ok, aNil_e, hr, cCall_e, aCons_e, cVar_e, gI_e, hm, if_true, h2, tru_bl, sbnd_ok, sRaise_e, cC_e]
theorem open_sq {n w : Int} {g : Frm} (hg : g.gap = n) (hb : Bq 700 g) (hr : m_root [.int n] M = some (.ok (.int w), M)) (hm : mulC w w = true) (hle : ¬ n ≤ 0) (hne : w * w = n) : m_check_open [eF g] M = some (.ex "BadTable" [("reason", .str "discriminant")], M) := by
  obtain ⟨s1, s2, s3⟩ := hb.sm (by omega)
  have hgap := gap_is' (M := M) hg s2 s3
  have h3 : m_is_two [eF g] M = some (.ok (.bl true), M) := is_two_3 _ _ _
  unfold m_check_open f_check_open
  rw [mDef_1, show start0 2 [eF g] = [some (eF g), none] from rfl]
  rw [sSeq_nx (en1 := [some (eF g), none]) (M1 := M) (by simp [h3])]
  rw [sSeq_nx (en1 := [some (eF g), some (.int n)]) (M1 := M) (by simp [hgap])]
  rw [check_sq hr hm hle hne, fin_ex]
  exact gcF_ex0 rfl
theorem unit_arg' {n : Int} (h1 : n % 4 ≤ 1) {rest : DL.Env} : cIf (cTru (cOp gLt (cOp gMod (cVar 0) (cC (.int 4))) (cC (.int 2)))) (cTup (aCons (cC (.int 1)) (aCons (cOp gMod (cVar 0) (cC (.int 2))) (aCons (cOp gDiv (cOp gSub (cOp gMod (cVar 0) (cC (.int 2))) (cVar 0)) (cC (.int 4))) aNil)))) (cTup (aCons (cC (.int 0)) (aCons (cC (.int 0)) (aCons (cC (.int 0)) aNil)))) (some (.int n) :: rest) M = some (.ok (eF (unitQ n)), M) := by
  have h4 : modC n 4 = true := modC_of (by omega)
  have h2 : modC n 2 = true := modC_of (by omega)
  have hd : divC (n % 2 - n) 4 = true := divC_of (by omega) (by omega)
  have hlt : n % 4 < 2 := by omega
  have : eF (unitQ n) = .tup [.int 1, .int (n % 2), .int ((n % 2 - n) / 4)] := rfl
  rw [this]
  simp [h4, h2, hd, hlt]
theorem rings_sq {n : Int} (h1 : n % 4 ≤ 1) (h2 : 5 ≤ n) (h3 : n ≤ 604) (hsq : (wN n : Int) * (wN n : Int) = n) : m_rings [.int n] M = some (.ex "BadTable" [("reason", .str "discriminant")], M) := by
  obtain ⟨e, q, k1, k2, k3, k4, k5, k6⟩ := unitQ_n h1 h2 h3
  have eq : unitQ n = ⟨1, e, q⟩ := by unfold unitQ; rw [k2, k1]
  have hchk := open_sq (M := M) (g := unitQ n) (n := n) (w := wN n) (by rw [eq]; exact unit_gap k3 k4) (by rw [eq]; exact unit_bq k3 k5 k6) (wroot_is (by omega) (by omega)) (mul_w ⟨by omega, wN_le⟩) (by omega) hsq
  have hex : sExpr (cCall m_check_open (aCons (cIf (cTru (cOp gLt (cOp gMod (cVar 0) (cC (.int 4))) (cC (.int 2)))) (cTup (aCons (cC (.int 1)) (aCons (cOp gMod (cVar 0) (cC (.int 2))) (aCons (cOp gDiv (cOp gSub (cOp gMod (cVar 0) (cC (.int 2))) (cVar 0)) (cC (.int 4))) aNil)))) (cTup (aCons (cC (.int 0)) (aCons (cC (.int 0)) (aCons (cC (.int 0)) aNil))))) aNil)) [some (.int n), none, none, none, none, none, none, none] M = some (.ex "BadTable" [("reason", .str "discriminant")] [some (.int n), none, none, none, none, none, none, none], M) := by
    rw [sExpr_e, cCall_e, aCons_e, unit_arg' h1]
    simp only [bnd_ok, aNil_e, hchk]
    rfl
  unfold m_rings f_rings
  rw [mDef_1, show start0 8 [DL.D.int n] = [some (.int n), none, none, none, none, none, none, none] from rfl]
  rw [sSeq_e, hex]
  dsimp only
  rw [fin_ex]
  exact gcF_ex0 rfl
noncomputable def st3 : SF := (sIf (cTru (cOp (gEq false) (cOp gMul (cCall m_l_root (aCons (cVar 2) aNil)) (cCall m_l_root (aCons (cVar 2) aNil))) (cVar 2))) (sSeq (sTry "BadTable" 3 (sExpr (cCall m_rings (aCons (cVar 2) aNil))) (fun fs => sRet (cOp (gEq false) (xRsn fs) ((cC (.str "discriminant"))))) sSkip) (sRet (cC (.bl false)))) sSkip)
theorem st3_test {n w : Int} {en : DL.Env} (h2 : en[2]? = some (some (.int n))) (hroot : m_l_root [.int n] M = some (.ok (.int w), M)) (hm : mulC w w = true) : cTru (cOp (gEq false) (cOp gMul (cCall m_l_root (aCons (cVar 2) aNil)) (cCall m_l_root (aCons (cVar 2) aNil))) (cVar 2)) en M = some (.ok (w * w == n), M) := by
  rw [cTru_e, cOp_e, cOp_e, cCall_e, aCons_e, cVar_e, h2]
  simp only [bnd_ok, aNil_e, hroot, cCall_e, aCons_e, cVar_e, h2, gI_e, hm, if_true, gEq_int, Bool.false_eq_true, if_false, tru_bl]
theorem st3_no {n w : Int} {en : DL.Env} (h2 : en[2]? = some (some (.int n))) (hroot : m_l_root [.int n] M = some (.ok (.int w), M)) (hm : mulC w w = true) (hne : ¬ w * w = n) : st3 en M = some (.nx en, M) := by
  have hb : (w * w == n) = false := by simpa using hne
  unfold st3
  rw [sIf_e, st3_test h2 hroot hm, hb, sbnd_ok]
  rfl
theorem st3_yes {n w : Int} {en : DL.Env} (h2 : en[2]? = some (some (.int n))) (h3 : 3 < en.length) (hroot : m_l_root [.int n] M = some (.ok (.int w), M)) (hm : mulC w w = true) (heq : w * w = n) (hrs : m_rings [.int n] M = some (.ex "BadTable" [("reason", .str "discriminant")], M)) : st3 en M = some (.rt (.bl true), M) := by
  have hb : (w * w == n) = true := by simpa using heq
  have htry : sTry "BadTable" 3 (sExpr (cCall m_rings (aCons (cVar 2) aNil))) (fun fs => sRet (cOp (gEq false) (xRsn fs) ((cC (.str "discriminant"))))) sSkip en M = some (.rt (.bl true), M) := by
    have hx : sExpr (cCall m_rings (aCons (cVar 2) aNil)) en M = some (.ex "BadTable" [("reason", .str "discriminant")] en, M) := by
      rw [sExpr_e, cCall_e, aCons_e, cVar_e, h2]
      simp only [bnd_ok, aNil_e, hrs]
      rfl
    unfold sTry
    rw [hx]
    dsimp only
    rw [if_pos ⟨rfl, h3⟩]
    simp [xRsn]
    rfl
  unfold st3
  rw [sIf_e, st3_test h2 hroot hm, hb, sbnd_ok, if_pos rfl]
  exact sSeq_rt htry
/-! each told ring -/
theorem RL_ix {w : Int} {μ : Frm} {m i : Nat} (h : i < m) : gIx (eRg (RL w μ m)) (.int (i : Int)) M = some (.ok (eF (nx w i μ)), M) := by
  have e : L2.atI ((RL w μ m).map eF) (i : Int) = some (eF (nx w i μ)) := by
    rw [atI_nat (by rw [List.length_map, RL_len]; exact h)]
    rw [List.getElem_map]
    have := RL_at (w := w) (s := μ) h
    rw [List.getElem?_eq_getElem (by rw [RL_len]; exact h)] at this
    rw [Option.some.inj this]
  unfold eRg
  rw [gIx_t', e]
theorem RL_gLen {w : Int} {μ : Frm} {m : Nat} : gLen [eRg (RL w μ m)] M = some (.ok (.int (m : Int)), M) := by
  have h : gLen [eRg (RL w μ m)] M = some (.ok (.int (((RL w μ m).map eF).length : Int)), M) := rfl
  rw [h, List.length_map, RL_len]
theorem mod_cst {i m : Nat} : ((i : Int) + 1) % (m : Int) = (((i + 1) % m : Nat) : Int) := by
  push_cast
  rfl
theorem right_comp {D : Int} (hD : Dn D) {μ : Frm} {m : Nat} (hper : Per (wN D) μ m) (hg : μ.gap = D) (rg : isRed (wN D) μ = true) (hm : m ≤ 1500) {en : DL.Env} (h2 : en[2]? = some (some (.int D))) (h6 : en[6]? = some (some (eRg (RL (wN D) μ m)))) (h17 : 17 < en.length) :
    cOp (gEq true) (cLc (iRng1C (aCons (cCall gLen (aCons (cVar 6) aNil)) aNil)) (gN 17) (cTru (cOp (gEq true) (cCall m_l_right (aCons (cOp gIx (cVar 6) (cVar 17)) (aCons (cVar 2) aNil))) (cOp gIx (cVar 6) (cOp gMod (cOp gAddA (cVar 17) (cC (.int 1))) (cCall gLen (aCons (cVar 6) aNil)))))) (cVar 17) [17]) (cLst aNil) en M = some (.ok (.bl false), M) := by
  obtain ⟨L, hL⟩ : ∃ L : Int, L = (m : Int) := ⟨_, rfl⟩
  have hlen : ∀ S : Store, gLen [eRg (RL (wN D) μ m)] S = some (.ok (.int L), S) := fun S => by rw [hL]; exact RL_gLen
  have hpos := hper.pos
  have hi : iRng1C (aCons (cCall gLen (aCons (cVar 6) aNil)) aNil) en M = some (.ok ((rgI 0 m).map DL.D.int), M) := by
    have hs : smI L = true := smI_of (by omega) (by omega)
    rw [iRng1_e, aCons_e, cCall_e, aCons_e, cVar_e, h6]
    simp only [bnd_ok, aNil_e, hlen]
    rw [if_pos hs, rgD_eq, show L.toNat = m by omega]
  have hcm := lc_of (M := M) (en := en) (g := gN 17) (t := cTru (cOp (gEq true) (cCall m_l_right (aCons (cOp gIx (cVar 6) (cVar 17)) (aCons (cVar 2) aNil))) (cOp gIx (cVar 6) (cOp gMod (cOp gAddA (cVar 17) (cC (.int 1))) (cCall gLen (aCons (cVar 6) aNil)))))) (f := cVar 17) (mk := mkI) (vs := [17]) DL.D.int (fun _ => false) DL.D.int (rgI 0 m) hi (by rw [rg_len]; omega) fun x hx => by
      have hx := mem_rgI.mp hx
      obtain ⟨i, rfl⟩ : ∃ i : Nat, x = i := ⟨x.toNat, by omega⟩
      have him : i < m := by omega
      have c17 : cVar 17 ((wipeE en [17]).set 17 (some (.int (i : Int)))) M = some (.ok (.int (i : Int)), M) := by
        rw [cVar_e, List.getElem?_set_self (by rw [show (wipeE en [17]).length = en.length from List.length_set]; exact h17)]
      have c6 : cVar 6 ((wipeE en [17]).set 17 (some (.int (i : Int)))) M = some (.ok (eRg (RL (wN D) μ m)), M) := by
        rw [cVar_e, List.getElem?_set_ne (by decide), show (wipeE en [17])[6]? = en[6]? from List.getElem?_set_ne (by decide), h6]
      have c2 : cVar 2 ((wipeE en [17]).set 17 (some (.int (i : Int)))) M = some (.ok (.int D), M) := by
        rw [cVar_e, List.getElem?_set_ne (by decide), show (wipeE en [17])[2]? = en[2]? from List.getElem?_set_ne (by decide), h2]
      have hgi : (nx (wN D) i μ).gap = D := (nx_gap _ _).trans hg
      have hri := nx_red hD i hg rg
      have hr := l_right_is (M := M) hD hgi hri
      have hmod : modC ((i : Int) + 1) L = true := modC_of (by omega)
      have hix := RL_ix (M := M) (w := wN D) (μ := μ) him
      have hix2 := RL_ix (M := M) (w := wN D) (μ := μ) (Nat.mod_lt (i + 1) hpos)
      rw [← Per.mod hper.back, ← mod_cst, ← hL] at hix2
      refine ⟨(wipeE en [17]).set 17 (some (.int (i : Int))), rfl, ?_, fun z => absurd z Bool.false_ne_true⟩
      rw [cTru_e, cOp_e, cCall_e, aCons_e, cOp_e, c6, bnd_ok, c17, bnd_ok, hix]
      simp only [bnd_ok, aCons_e, c2, aNil_e, hr]
      rw [cOp_e, c6, bnd_ok, cOp_e, cOp_e, c17, bnd_ok]
      simp only [cC_e, bnd_ok, gAddA_i, cCall_e, aCons_e, c6, aNil_e, hlen, gI_e, hmod, if_true, hix2, gEq_F, nx_succ, decide_true, Bool.not_true, tru_bl]
  have hcm' : cLc (iRng1C (aCons (cCall gLen (aCons (cVar 6) aNil)) aNil)) (gN 17) (cTru (cOp (gEq true) (cCall m_l_right (aCons (cOp gIx (cVar 6) (cVar 17)) (aCons (cVar 2) aNil))) (cOp gIx (cVar 6) (cOp gMod (cOp gAddA (cVar 17) (cC (.int 1))) (cCall gLen (aCons (cVar 6) aNil)))))) (cVar 17) [17] en M = some (.ok (.imm (((rgI 0 m).filter fun _ => false).map DL.D.int)), M) := hcm
  have e0 : ((rgI 0 m).filter fun _ => false) = [] := List.filter_eq_nil_iff.mpr fun _ _ => Bool.false_ne_true
  rw [cOp_e, hcm', bnd_ok, cLst_e, aNil_e, bnd_ok]
  simp only [List.length_nil, szOk_0, if_true, bnd_ok]
  rw [gEq_nil e0]
  rfl
theorem gAdd_ll {ds es : List DL.D} (h : ds.length + es.length ≤ 16777216) : gAddA (.imm ds) (.imm es) M = some (.ok (.imm (ds ++ es)), M) := by rw [gAddA_l, if_pos (szOk_of h)]
noncomputable def bodE : SF := (sSeq (sAsg (cOp gAddA (cVar 5) (cCall gList (aCons (cVar 6) aNil))) (gN 5)) (sIf (tOrC (cTru (cOp (gEq true) (cOp gIx (cVar 6) (cC (.int 0))) (cCall gMinR (aCons (cVar 6) aNil)))) (cTru (cOp (gEq true) (cLc (iRng1C (aCons (cCall gLen (aCons (cVar 6) aNil)) aNil)) (gN 17) (cTru (cOp (gEq true) (cCall m_l_right (aCons (cOp gIx (cVar 6) (cVar 17)) (aCons (cVar 2) aNil))) (cOp gIx (cVar 6) (cOp gMod (cOp gAddA (cVar 17) (cC (.int 1))) (cCall gLen (aCons (cVar 6) aNil)))))) (cVar 17) [17]) (cLst aNil)))) (sRet (cC (.bl false))) sSkip))
noncomputable def stE : SF := (sIf (tOrC (cTru (cOp (gEq true) (cOp gIx (cVar 6) (cC (.int 0))) (cCall gMinR (aCons (cVar 6) aNil)))) (cTru (cOp (gEq true) (cLc (iRng1C (aCons (cCall gLen (aCons (cVar 6) aNil)) aNil)) (gN 17) (cTru (cOp (gEq true) (cCall m_l_right (aCons (cOp gIx (cVar 6) (cVar 17)) (aCons (cVar 2) aNil))) (cOp gIx (cVar 6) (cOp gMod (cOp gAddA (cVar 17) (cC (.int 1))) (cCall gLen (aCons (cVar 6) aNil)))))) (cVar 17) [17]) (cLst aNil)))) (sRet (cC (.bl false))) sSkip)
theorem RL_hd {w : Int} {μ : Frm} {m : Nat} (h : 1 ≤ m) : gIx (eRg (RL w μ m)) (.int 0) M = some (.ok (eF μ), M) := by
  unfold eRg
  rw [RL_cons h, List.map_cons, gIx_t']
  have e : L2.atI (eF μ :: ((List.range (m - 1)).map fun i => nx w (i + 1) μ).map eF) ((0 : Nat) : Int) = some (eF μ) := by rw [atI_nat (by simp)]; rfl
  have e : L2.atI (eF μ :: ((List.range (m - 1)).map fun i => nx w (i + 1) μ).map eF) 0 = some (eF μ) := e
  rw [e]
theorem stE_is {D : Int} (hD : Dn D) {μ : Frm} {m : Nat} (hper : Per (wN D) μ m) (hg : μ.gap = D) (rg : isRed (wN D) μ = true) (hm : m ≤ 1500) (hle : ∀ j, ltF (nx (wN D) j μ) μ = false) {en : DL.Env} (h2 : en[2]? = some (some (.int D))) (h6 : en[6]? = some (some (eRg (RL (wN D) μ m)))) (h17 : 17 < en.length) : stE en M = some (.nx en, M) := by
  have hmn := min_is (M := M) hper hle
  have hix := RL_hd (M := M) (w := wN D) (μ := μ) hper.pos
  have hcomp := right_comp (M := M) hD hper hg rg hm h2 h6 h17
  have hq : gEq true (eF μ) (eF μ) M = some (.ok (.bl false), M) := by rw [gEq_F]; simp
  unfold stE
  rw [sIf_e, tOrC_e, cTru_e, cOp_e, cOp_e, cVar_e, h6]
  simp only [bnd_ok, cC_e, hix, cCall_e, aCons_e, cVar_e, h6, aNil_e, hmn, hq, tru_bl, Bool.false_eq_true, if_false]
  rw [cTru_e, hcomp, bnd_ok]
  rfl
theorem bodE_is {D : Int} (hD : Dn D) {r : List Frm} (hr : r ∈ TT D) {acc : List Frm} (hl : acc.length + r.length ≤ 100000) {x0 x1 x3 x4 : Option DL.D} {rest : DL.Env} (hrest : 10 < rest.length) :
    bodE (x0 :: x1 :: some (.int D) :: x3 :: x4 :: some (.imm (acc.map eF)) :: some (eRg r) :: rest) M = some (.nx (x0 :: x1 :: some (.int D) :: x3 :: x4 :: some (.imm ((acc ++ r).map eF)) :: some (eRg r) :: rest), M) := by
  obtain ⟨μ, m, e, hper, hg, rg, hpr, hm, _, hle⟩ := TT_ring hD hr
  unfold bodE
  rw [sSeq_nx (en1 := x0 :: x1 :: some (.int D) :: x3 :: x4 :: some (.imm ((acc ++ r).map eF)) :: some (eRg r) :: rest) (M1 := M) (by
    have hgl : gList [eRg r] M = some (.ok (.imm (r.map eF)), M) := rfl
    have hadd := gAdd_ll (M := M) (ds := acc.map eF) (es := r.map eF) (by rw [List.length_map, List.length_map]; omega)
    rw [sAsg_e, cOp_e, cVar_e]
    simp only [List.getElem?_cons_zero, List.getElem?_cons_succ, bnd_ok, cCall_e, aCons_e, cVar_e, aNil_e, hgl, hadd, sbnd_ok, List.map_append]
    rfl)]
  subst e
  exact stE_is hD hper hg rg hm hle rfl rfl (by simp only [List.length_cons]; omega)
theorem loopE {D : Int} (hD : Dn D) {x0 x1 x3 x4 : Option DL.D} {rest : DL.Env} (hrest : 10 < rest.length) : ∀ (B : List (List Frm)) (acc : List Frm) (x6 : Option DL.D), (∀ r ∈ B, r ∈ TT D) → acc.length + B.flatten.length ≤ 100000 →
    ∃ y6, fLoop (gN 6) bodE (B.map eRg) (x0 :: x1 :: some (.int D) :: x3 :: x4 :: some (.imm (acc.map eF)) :: x6 :: rest) M = some (.nx (x0 :: x1 :: some (.int D) :: x3 :: x4 :: some (.imm ((acc ++ B.flatten).map eF)) :: y6 :: rest), M)
  | [], acc, x6, _, _ => ⟨x6, by rw [List.flatten_nil, List.append_nil]; rfl⟩
  | r :: B, acc, x6, hB, hl => by
    rw [List.flatten_cons, List.length_append] at hl
    have hb := bodE_is (M := M) hD (hB r List.mem_cons_self) (acc := acc) (by omega) (x0 := x0) (x1 := x1) (x3 := x3) (x4 := x4) hrest
    obtain ⟨y6, e⟩ := loopE hD (x0 := x0) (x1 := x1) (x3 := x3) (x4 := x4) hrest B (acc ++ r) (some (eRg r)) (fun x hx => hB x (List.mem_cons_of_mem _ hx)) (by rw [List.length_append]; omega)
    refine ⟨y6, ?_⟩
    rw [List.map_cons, fLoop_cons]
    simp only [gN_e, List.set_cons_succ, List.set_cons_zero, hb]
    rw [List.flatten_cons, ← List.append_assoc]
    exact e
/-! the last loop -/
noncomputable def bodK : SF := (sSeq (sAsg (cOp gAddA (cOp gMul (cOp gMul (cVar 2) (cVar 17)) (cVar 17)) (cC (.int 4))) (gN 18)) (sIf (cTru (cOp (gEq false) (cOp gMul (cCall m_l_root (aCons (cVar 18) aNil)) (cCall m_l_root (aCons (cVar 18) aNil))) (cVar 18))) (sRet (cC (.bl false))) sSkip))
theorem bodK_is {D k : Int} (hD : 5 ≤ D ∧ D ≤ 604) (hk : 1 ≤ k ∧ k < 300) (hno : ∀ x : Int, x * x ≠ D * k * k + 4) {en : DL.Env} (h2 : en[2]? = some (some (.int D))) (h17 : en[17]? = some (some (.int k))) (h18 : 18 < en.length) : bodK en M = some (.nx (en.set 18 (some (.int (D * k * k + 4)))), M) := by
  have m1 : mulC D k = true := mulC_l (by omega) (by omega)
  have b1 := mb (show -(604 : Int) ≤ D ∧ D ≤ 604 by omega) (show -(300 : Int) ≤ k ∧ k ≤ 300 by omega)
  have b2 := mb b1 (show -(300 : Int) ≤ k ∧ k ≤ 300 by omega)
  have m3 : mulC (D * k) k = true := mulC_l (by omega) (by omega)
  have p1 := Int.mul_nonneg (Int.mul_nonneg (show 0 ≤ D by omega) (show 0 ≤ k by omega)) (show 0 ≤ k by omega)
  obtain ⟨v, hv⟩ : ∃ v, v = D * k * k + 4 := ⟨_, rfl⟩
  rw [← hv] at hno ⊢
  obtain ⟨r, ⟨r1, r2, r3⟩, e⟩ := l_root_is (M := M) (x := v) (by omega) (by omega)
  have hrl : r < 2 ^ 40 := by
    rcases Int.lt_or_le r (2 ^ 40) with z | z
    · exact z
    · have := sq_mono (show (0 : Int) ≤ 2 ^ 40 by omega) z
      omega
  have mr : mulC r r = true := mul_sm r1 hrl
  have hne : (r * r == v) = false := by simpa using hno r
  unfold bodK
  rw [sSeq_nx (en1 := en.set 18 (some (.int v))) (M1 := M) (by
    rw [hv]
    simp [h2, h17, m1, m3])]
  have c18 : cVar 18 (en.set 18 (some (.int v))) M = some (.ok (.int v), M) := by rw [cVar_e, List.getElem?_set_self h18]
  rw [sIf_e, cTru_e, cOp_e, cOp_e, cCall_e, aCons_e, c18]
  simp only [bnd_ok, aNil_e, e, cCall_e, aCons_e, c18, gI_e, mr, if_true, gEq_int, hne, Bool.false_eq_true, if_false, tru_bl, sbnd_ok]
  rfl
theorem loopK {D : Int} (hD : 5 ≤ D ∧ D ≤ 604) : ∀ (l : List Int) (en : DL.Env), (∀ k ∈ l, (1 ≤ k ∧ k < 300) ∧ ∀ x : Int, x * x ≠ D * k * k + 4) → en[2]? = some (some (.int D)) → 18 < en.length →
    ∃ en2, fLoop (gN 17) bodK (l.map DL.D.int) en M = some (.nx en2, M)
  | [], en, _, _, _ => ⟨en, rfl⟩
  | k :: l, en, hl, h2, h18 => by
    obtain ⟨hk, hno⟩ := hl k List.mem_cons_self
    have hb := bodK_is (M := M) hD hk hno (en := en.set 17 (some (.int k))) (by rw [List.getElem?_set_ne (by decide), h2]) (List.getElem?_set_self (by omega)) (by rw [List.length_set]; exact h18)
    obtain ⟨en2, e⟩ := loopK hD l ((en.set 17 (some (.int k))).set 18 (some (.int (D * k * k + 4)))) (fun x hx => hl x (List.mem_cons_of_mem _ hx)) (by rw [List.getElem?_set_ne (by decide), List.getElem?_set_ne (by decide), h2]) (by rw [List.length_set, List.length_set]; exact h18)
    refine ⟨en2, ?_⟩
    rw [List.map_cons, fLoop_cons]
    simp only [gN_e, hb]
    exact e
/-! what is judged of the reduced form, of the answer, of Pell's numbers -/
noncomputable def st13 : SF := (sIf (tOrC (cTru (cOp (gIn true) (cVar 10) (cVar 8))) (tOrC (cTru (cOp (gEq true) (cCall (m_l_det 3) (aCons (cVar 11) aNil)) (cC (.int 1)))) (tOrC (cTru (cOp (gEq true) (cCall m_two_changed (aCons (cVar 9) (aCons (cVar 11) aNil))) (cVar 10))) (tNotC (cTru (cCall m_l_same (aCons (cCall m_ring (aCons (cVar 9) aNil)) (aCons (cVar 8) aNil)))))))) (sRet (cC (.bl false))) sSkip)
theorem st13_is {D : Int} {own : List Frm} {f s : Frm} {v : Chg} {en : DL.Env} (h8 : en[8]? = some (some (eRg own))) (h9 : en[9]? = some (some (eF f))) (h10 : en[10]? = some (some (eF s))) (h11 : en[11]? = some (some (eC v))) (hin : s ∈ own) (hd : m_l_det 3 [eC v] M = some (.ok (.int 1), M)) (hc : m_two_changed [eF f, eC v] M = some (.ok (eF s), M)) (hr : m_ring [eF f] M = some (.ok (eRg own), M)) (hok : RgOk D own) : st13 en M = some (.nx en, M) := by
  have hs := same_Rg (M := M) hok
  unfold st13
  rw [sIf_e, tOrC_e, cTru_e, cOp_e, cVar_e, h10]
  simp only [bnd_ok, cVar_e, h8, gIn_Rg, hin, decide_true, if_true, Bool.not_true, tru_bl, Bool.false_eq_true, if_false]
  rw [tOrC_e, cTru_e, cOp_e, cCall_e, aCons_e, cVar_e, h11]
  simp only [bnd_ok, aNil_e, hd, cC_e, gEq_int, beq_self_eq_true, if_true, Bool.not_true, tru_bl, Bool.false_eq_true, if_false]
  rw [tOrC_e, cTru_e, cOp_e, cCall_e, aCons_e, cVar_e, h9]
  simp only [bnd_ok, aCons_e, cVar_e, h11, aNil_e, hc, h10, gEq_F, decide_true, if_true, Bool.not_true, tru_bl, Bool.false_eq_true, if_false]
  rw [tNotC_e, cTru_e, cCall_e, aCons_e, cCall_e, aCons_e, cVar_e, h9]
  simp only [bnd_ok, aNil_e, hr, aCons_e, cVar_e, h8, hs, tru_bl, Bool.not_true, sbnd_ok, Bool.false_eq_true, if_false]
  rfl
noncomputable def st16 : SF := (sIf (tNotC (cTru (cCall m_l_same (aCons (cVar 13) (aCons (cOp (gIn false) (cVar 12) (cVar 8)) aNil))))) (sRet (cC (.bl false))) sSkip)
theorem st16_is {own : List Frm} {g : Frm} {en : DL.Env} (h8 : en[8]? = some (some (eRg own))) (h12 : en[12]? = some (some (eF g))) (h13 : en[13]? = some (some (.bl (decide (g ∈ own))))) : st16 en M = some (.nx en, M) := by
  unfold st16
  rw [sIf_e, tNotC_e, cTru_e, cCall_e, aCons_e, cVar_e, h13]
  simp only [bnd_ok, aCons_e, cOp_e, cVar_e, h12, h8, gIn_Rg, Bool.false_eq_true, if_false, aNil_e, same_bl, tru_bl, Bool.not_true, sbnd_ok]
  rfl
noncomputable def st17 : SF := (sIf (tOrC (tAndC (cTru (cVar 13)) (tOrC (cTru (cOp (gEq true) (cCall (m_l_det 3) (aCons (cVar 14) aNil)) (cC (.int 1)))) (cTru (cOp (gEq true) (cCall m_two_changed (aCons (cVar 9) (aCons (cVar 14) aNil))) (cVar 12))))) (tAndC (tNotC (cTru (cVar 13))) (tNotC (cTru (cCall m_l_same (aCons (cVar 14) (aCons (cTup (aCons (cVar 8) (aCons (cCall m_ring (aCons (cVar 12) aNil)) aNil))) aNil))))))) (sRet (cC (.bl false))) sSkip)
theorem st17_yes {f g : Frm} {V : Chg} {en : DL.Env} (h9 : en[9]? = some (some (eF f))) (h12 : en[12]? = some (some (eF g))) (h13 : en[13]? = some (some (.bl true))) (h14 : en[14]? = some (some (eC V))) (hd : m_l_det 3 [eC V] M = some (.ok (.int 1), M)) (hc : m_two_changed [eF f, eC V] M = some (.ok (eF g), M)) : st17 en M = some (.nx en, M) := by
  unfold st17
  rw [sIf_e, tOrC_e, tAndC_e, cTru_e, cVar_e, h13]
  simp only [bnd_ok, tru_bl, if_true]
  rw [tOrC_e, cTru_e, cOp_e, cCall_e, aCons_e, cVar_e, h14]
  simp only [bnd_ok, aNil_e, hd, cC_e, gEq_int, beq_self_eq_true, if_true, Bool.not_true, tru_bl, Bool.false_eq_true, if_false]
  rw [cTru_e, cOp_e, cCall_e, aCons_e, cVar_e, h9]
  simp only [bnd_ok, aCons_e, cVar_e, h14, aNil_e, hc, h12, gEq_F, decide_true, if_true, Bool.not_true, tru_bl, Bool.false_eq_true, if_false]
  rw [tAndC_e, tNotC_e, cTru_e, cVar_e, h13]
  simp only [bnd_ok, tru_bl, Bool.not_true, Bool.false_eq_true, if_false, sbnd_ok]
  rfl
theorem st17_no {D : Int} {own r2 : List Frm} {g : Frm} {en : DL.Env} (h8 : en[8]? = some (some (eRg own))) (h12 : en[12]? = some (some (eF g))) (h13 : en[13]? = some (some (.bl false))) (h14 : en[14]? = some (some (.tup [eRg own, eRg r2]))) (hr : m_ring [eF g] M = some (.ok (eRg r2), M)) (k1 : RgOk D own) (k2 : RgOk D r2) (hl : own.length + r2.length ≤ 1500) : st17 en M = some (.nx en, M) := by
  have hs := same_pair (M := M) k1 k2 hl
  unfold st17
  rw [sIf_e, tOrC_e, tAndC_e, cTru_e, cVar_e, h13]
  simp only [bnd_ok, tru_bl, Bool.false_eq_true, if_false]
  rw [tAndC_e, tNotC_e, cTru_e, cVar_e, h13]
  simp only [bnd_ok, tru_bl, Bool.not_false, if_true]
  rw [tNotC_e, cTru_e, cCall_e, aCons_e, cVar_e, h14]
  simp only [bnd_ok, aCons_e, cTup_e, cVar_e, h8, cCall_e, h12, aNil_e, hr, List.length_cons, List.length_nil, Nat.reduceAdd, szOk_2, if_true, hs, tru_bl, Bool.not_true, sbnd_ok, Bool.false_eq_true, if_false]
  rfl
noncomputable def st19 : SF := (sIf (tOrC (cTru (cOp gLt (cVar 15) (cC (.int 1)))) (tOrC (cTru (cOp gLt (cVar 16) (cC (.int 1)))) (cTru (cOp (gEq true) (cOp gSub (cOp gMul (cVar 15) (cVar 15)) (cOp gMul (cOp gMul (cVar 2) (cVar 16)) (cVar 16))) (cC (.int 4)))))) (sRet (cC (.bl false))) sSkip)
theorem gLt_f {a b : Int} (h : ¬ a < b) : gLt (.int a) (.int b) M = some (.ok (.bl false), M) := by
  show some (Out.ok (DL.D.bl (decide (a < b))), M) = _
  rw [decide_eq_false h]
theorem st19_is {D T U : Int} {en : DL.Env} (h2 : en[2]? = some (some (.int D))) (h15 : en[15]? = some (some (.int T))) (h16 : en[16]? = some (some (.int U))) (h : Pell D T U) (m1 : mulC T T = true) (m3 : mulC D U = true) (m4' : mulC (D * U) U = true) : st19 en M = some (.nx en, M) := by
  have t1 := gLt_f (M := M) (show ¬ T < 1 by have := h.t; omega)
  have u1 := gLt_f (M := M) (show ¬ U < 1 by have := h.u; omega)
  have e := h.eq
  unfold st19
  rw [sIf_e, tOrC_e, cTru_e, cOp_e, cVar_e, h15]
  simp only [bnd_ok, cC_e, t1, tru_bl, Bool.false_eq_true, if_false]
  rw [tOrC_e, cTru_e, cOp_e, cVar_e, h16]
  simp only [bnd_ok, cC_e, u1, tru_bl, Bool.false_eq_true, if_false]
  rw [cTru_e, cOp_e, cOp_e, cOp_e, cVar_e, h15]
  simp only [bnd_ok, cVar_e, h15, gI_e, m1, if_true, cOp_e, h2, h16, m3, m4', yes2_e, cC_e, e, gEq_int, beq_self_eq_true, Bool.not_true, tru_bl, sbnd_ok, Bool.false_eq_true, if_false]
  rfl
end K14
set_option maxHeartbeats 4000000
/-! everygrid_k14_rings_and_pell: the walk, as the program gen.py printed it. -/
namespace K14
open PySem PySem.Spec PyProof.Rows L2 DL

def top (i : Nat) : Stmt := PySem.Challenge.pw_everygrid_k14_rings_and_pell.main.body.getD i (.Pass ⟨0, 0, 0, 0⟩)
/-- what the text has written -/
structure Tx (P : Program) (K : PySem.W.Frag) (mg : Str → Option Value) (C fI : Addr) (a_UNIT : Value) (a_RING_MOST : Value) : Prop where
  z_abs : mg "abs" = none
  z_all : mg "all" = none
  z_bool : mg "bool" = none
  z_int : mg "int" = none
  z_isinstance : mg "isinstance" = none
  z_len : mg "len" = none
  z_list : mg "list" = none
  z_min : mg "min" = none
  z_range : mg "range" = none
  z_repr : mg "repr" = none
  z_sorted : mg "sorted" = none
  z_sum : mg "sum" = none
  z_tuple : mg "tuple" = none
  z_zip : mg "zip" = none
  g_UNIT : mg "UNIT" = some a_UNIT
  k_UNIT : konB K a_UNIT k_UNIT = true
  g_RING_MOST : mg "RING_MOST" = some a_RING_MOST
  k_RING_MOST : konB K a_RING_MOST k_RING_MOST = true
  x_BadTable : PySem.BadX.BadTxt P K mg "BadTable" "BadTable.__init__" C fI
section
variable {P : Program} {w : World} {K : PySem.W.Frag} {mg : Str → Option Value} {base : Heap} {C fI : Addr} {a_UNIT : Value} {a_RING_MOST : Value}
abbrev s_divisor : Stmt := top 5
theorem sc_divisor : FnScope ["one", "other"] ["one", "other"] (defScope s_divisor) := ⟨rfl, rfl, rfl, by decide +kernel, rfl, by decide +kernel, by decide +kernel⟩
theorem ok_divisor {f : Addr} {fd : FuncData} (F : Fun K "divisor" "divisor" s_divisor f fd) (t : Tx P K mg C fI a_UNIT a_RING_MOST)  : FnG P w K mg base 1 f fd ["one", "other"] m_divisor := by
  refine fnG_of (k := 0) F sc_divisor rfl rfl (by decide) fun cdv A outer s H E hr hgd => ?_
  have nd := sc_divisor.nd
  have tk : Takes (cxOf (L2.CX P w) P w K mg base ["one", "other"] "divisor" (defScope s_divisor) f cdv A outer s H E) (WXof E) := takes_of rfl rfl rfl rfl
  have po : PassesOwn (model (cxOf (L2.CX P w) P w K mg base ["one", "other"] "divisor" (defScope s_divisor) f cdv A outer s H E).prog (cxOf (L2.CX P w) P w K mg base ["one", "other"] "divisor" (defScope s_divisor) f cdv A outer s H E).w) (cxOf (L2.CX P w) P w K mg base ["one", "other"] "divisor" (defScope s_divisor) f cdv A outer s H E).A (cxOf (L2.CX P w) P w K mg base ["one", "other"] "divisor" (defScope s_divisor) f cdv A outer s H E).env (cxOf (L2.CX P w) P w K mg base ["one", "other"] "divisor" (defScope s_divisor) f cdv A outer s H E).xe := passes_of rfl
  refine ess_cons ?_ (ess_cons ?_ (ess_one ?_))
  · exact (es_par rfl nd rfl rfl (by decide) rfl rfl (ea_cons (b_abs t.z_abs (ea_cons (vr 0) ea_nil)) (ea_cons (b_abs t.z_abs (ea_cons (vr 1) ea_nil)) ea_nil)) (by rfl))
  · exact (es_while po (et_tru (vr 1)) (ess_one (es_par rfl nd rfl rfl (by decide) rfl rfl (ea_cons (vr 1) (ea_cons (o_mod (vr 0) (vr 1)) ea_nil)) (by rfl))))
  · exact (es_ret (vr 0))
abbrev s_divisor_of : Stmt := top 6
theorem sc_divisor_of : FnScope ["numbers", "found", "number"] ["numbers"] (defScope s_divisor_of) := ⟨rfl, rfl, rfl, by decide +kernel, rfl, by decide +kernel, by decide +kernel⟩
theorem ok_divisor_of {f : Addr} {fd : FuncData} (F : Fun K "divisor_of" "divisor_of" s_divisor_of f fd) (t : Tx P K mg C fI a_UNIT a_RING_MOST) (c_divisor : CalG P w K mg base 1 "divisor" m_divisor) : FnG P w K mg base 2 f fd ["numbers"] m_divisor_of := by
  refine fnG_of (k := 1) F sc_divisor_of rfl rfl (by decide) fun cdv A outer s H E hr hgd => ?_
  have nd := sc_divisor_of.nd
  have tk : Takes (cxOf (L2.CX P w) P w K mg base ["numbers", "found", "number"] "divisor_of" (defScope s_divisor_of) f cdv A outer s H E) (WXof E) := takes_of rfl rfl rfl rfl
  have po : PassesOwn (model (cxOf (L2.CX P w) P w K mg base ["numbers", "found", "number"] "divisor_of" (defScope s_divisor_of) f cdv A outer s H E).prog (cxOf (L2.CX P w) P w K mg base ["numbers", "found", "number"] "divisor_of" (defScope s_divisor_of) f cdv A outer s H E).w) (cxOf (L2.CX P w) P w K mg base ["numbers", "found", "number"] "divisor_of" (defScope s_divisor_of) f cdv A outer s H E).A (cxOf (L2.CX P w) P w K mg base ["numbers", "found", "number"] "divisor_of" (defScope s_divisor_of) f cdv A outer s H E).env (cxOf (L2.CX P w) P w K mg base ["numbers", "found", "number"] "divisor_of" (defScope s_divisor_of) f cdv A outer s H E).xe := passes_of rfl
  refine ess_cons ?_ (ess_cons ?_ (ess_one ?_))
  · exact (es_set nd rfl (by first | exact .inl rfl | exact .inr rfl) ev_int)
  · exact (es_for po rfl (ei_seq (vr 0)) (eg_name nd rfl (by first | exact .inl rfl | exact .inr rfl)) (ess_one (es_set nd rfl (by first | exact .inl rfl | exact .inr rfl) (ev_cl c_divisor hr (by decide) hgd tk (ea_cons (vr 1) (ea_cons (vr 2) ea_nil))))))
  · exact (es_ret (vr 1))
abbrev s_root : Stmt := top 7
theorem sc_root : FnScope ["number", "found"] ["number"] (defScope s_root) := ⟨rfl, rfl, rfl, by decide +kernel, rfl, by decide +kernel, by decide +kernel⟩
theorem ok_root {f : Addr} {fd : FuncData} (F : Fun K "root" "root" s_root f fd) (t : Tx P K mg C fI a_UNIT a_RING_MOST)  : FnG P w K mg base 1 f fd ["number"] m_root := by
  refine fnG_of (k := 0) F sc_root rfl rfl (by decide) fun cdv A outer s H E hr hgd => ?_
  have nd := sc_root.nd
  have tk : Takes (cxOf (L2.CX P w) P w K mg base ["number", "found"] "root" (defScope s_root) f cdv A outer s H E) (WXof E) := takes_of rfl rfl rfl rfl
  have po : PassesOwn (model (cxOf (L2.CX P w) P w K mg base ["number", "found"] "root" (defScope s_root) f cdv A outer s H E).prog (cxOf (L2.CX P w) P w K mg base ["number", "found"] "root" (defScope s_root) f cdv A outer s H E).w) (cxOf (L2.CX P w) P w K mg base ["number", "found"] "root" (defScope s_root) f cdv A outer s H E).A (cxOf (L2.CX P w) P w K mg base ["number", "found"] "root" (defScope s_root) f cdv A outer s H E).env (cxOf (L2.CX P w) P w K mg base ["number", "found"] "root" (defScope s_root) f cdv A outer s H E).xe := passes_of rfl
  refine ess_cons ?_ (ess_cons ?_ (ess_one ?_))
  · exact (es_set nd rfl (by first | exact .inl rfl | exact .inr rfl) (o_shl ev_int (o_fdiv (o_add (ev_bits (vr 0)) ev_int) ev_int)))
  · exact (es_while po (t_gt (o_mul (vr 1) (vr 1)) (vr 0)) (ess_one (es_set nd rfl (by first | exact .inl rfl | exact .inr rfl) (o_fdiv (o_add (vr 1) (o_fdiv (vr 0) (vr 1))) ev_int))))
  · exact (es_ret (vr 1))
abbrev s_is_whole : Stmt := top 9
theorem sc_is_whole : FnScope ["number"] ["number"] (defScope s_is_whole) := ⟨rfl, rfl, rfl, by decide +kernel, rfl, by decide +kernel, by decide +kernel⟩
theorem ok_is_whole {f : Addr} {fd : FuncData} (F : Fun K "is_whole" "is_whole" s_is_whole f fd) (t : Tx P K mg C fI a_UNIT a_RING_MOST)  : FnG P w K mg base 1 f fd ["number"] m_is_whole := by
  refine fnG_of (k := 0) F sc_is_whole rfl rfl (by decide) fun cdv A outer s H E hr hgd => ?_
  have nd := sc_is_whole.nd
  have tk : Takes (cxOf (L2.CX P w) P w K mg base ["number"] "is_whole" (defScope s_is_whole) f cdv A outer s H E) (WXof E) := takes_of rfl rfl rfl rfl
  have po : PassesOwn (model (cxOf (L2.CX P w) P w K mg base ["number"] "is_whole" (defScope s_is_whole) f cdv A outer s H E).prog (cxOf (L2.CX P w) P w K mg base ["number"] "is_whole" (defScope s_is_whole) f cdv A outer s H E).w) (cxOf (L2.CX P w) P w K mg base ["number"] "is_whole" (defScope s_is_whole) f cdv A outer s H E).A (cxOf (L2.CX P w) P w K mg base ["number"] "is_whole" (defScope s_is_whole) f cdv A outer s H E).env (cxOf (L2.CX P w) P w K mg base ["number"] "is_whole" (defScope s_is_whole) f cdv A outer s H E).xe := passes_of rfl
  refine ess_one ?_
  · exact (es_ret (ev_and (b_isinstance t.z_isinstance (ea_cons (vr 0) (ea_cons (ty_int t.z_int) ea_nil))) (ev_one (ev_not (b_isinstance t.z_isinstance (ea_cons (vr 0) (ea_cons (ty_bool t.z_bool) ea_nil)))))))
abbrev s_is_row : Stmt := top 10
theorem sc_is_row : FnScope ["row", "number"] ["row"] (defScope s_is_row) := ⟨rfl, rfl, rfl, by decide +kernel, rfl, by decide +kernel, by decide +kernel⟩
theorem ok_is_row {f : Addr} {fd : FuncData} (F : Fun K "is_row" "is_row" s_is_row f fd) (t : Tx P K mg C fI a_UNIT a_RING_MOST) (c_is_whole : CalG P w K mg base 1 "is_whole" m_is_whole) : FnG P w K mg base 2 f fd ["row"] m_is_row := by
  refine fnG_of (k := 1) F sc_is_row rfl rfl (by decide) fun cdv A outer s H E hr hgd => ?_
  have nd := sc_is_row.nd
  have tk : Takes (cxOf (L2.CX P w) P w K mg base ["row", "number"] "is_row" (defScope s_is_row) f cdv A outer s H E) (WXof E) := takes_of rfl rfl rfl rfl
  have po : PassesOwn (model (cxOf (L2.CX P w) P w K mg base ["row", "number"] "is_row" (defScope s_is_row) f cdv A outer s H E).prog (cxOf (L2.CX P w) P w K mg base ["row", "number"] "is_row" (defScope s_is_row) f cdv A outer s H E).w) (cxOf (L2.CX P w) P w K mg base ["row", "number"] "is_row" (defScope s_is_row) f cdv A outer s H E).A (cxOf (L2.CX P w) P w K mg base ["row", "number"] "is_row" (defScope s_is_row) f cdv A outer s H E).env (cxOf (L2.CX P w) P w K mg base ["row", "number"] "is_row" (defScope s_is_row) f cdv A outer s H E).xe := passes_of rfl
  refine ess_one ?_
  · exact (es_ret (ev_and (b_isinstance t.z_isinstance (ea_cons (vr 0) (ea_cons (ty_tuple t.z_tuple) ea_nil))) (ev_one (b_all t.z_all (ea_cons (ev_lc (own := [("number", 1)]) rfl nd (ei_seq (vr 0)) (blkOk_by (by first | rfl | kernel_rfl)) (by decide) (fun _ _ _ _ _ => (eg_name nd rfl (by first | exact .inl rfl | exact .inr rfl))) (fun _ _ _ _ _ => ets_nil) (fun _ _ _ _ _ => (ev_cl c_is_whole hr (by decide) hgd takes0 (ea_cons (vr 1) ea_nil)))) ea_nil)))))
abbrev s_wide : Stmt := top 11
theorem sc_wide : FnScope ["table"] ["table"] (defScope s_wide) := ⟨rfl, rfl, rfl, by decide +kernel, rfl, by decide +kernel, by decide +kernel⟩
theorem ok_wide {f : Addr} {fd : FuncData} (F : Fun K "wide" "wide" s_wide f fd) (t : Tx P K mg C fI a_UNIT a_RING_MOST)  : FnG P w K mg base 1 f fd ["table"] m_wide := by
  refine fnG_of (k := 0) F sc_wide rfl rfl (by decide) fun cdv A outer s H E hr hgd => ?_
  have nd := sc_wide.nd
  have tk : Takes (cxOf (L2.CX P w) P w K mg base ["table"] "wide" (defScope s_wide) f cdv A outer s H E) (WXof E) := takes_of rfl rfl rfl rfl
  have po : PassesOwn (model (cxOf (L2.CX P w) P w K mg base ["table"] "wide" (defScope s_wide) f cdv A outer s H E).prog (cxOf (L2.CX P w) P w K mg base ["table"] "wide" (defScope s_wide) f cdv A outer s H E).w) (cxOf (L2.CX P w) P w K mg base ["table"] "wide" (defScope s_wide) f cdv A outer s H E).A (cxOf (L2.CX P w) P w K mg base ["table"] "wide" (defScope s_wide) f cdv A outer s H E).env (cxOf (L2.CX P w) P w K mg base ["table"] "wide" (defScope s_wide) f cdv A outer s H E).xe := passes_of rfl
  refine ess_one ?_
  · exact (es_ret (ev_if (et_tru (vr 0)) (b_len t.z_len (ea_cons (ev_ix (vr 0) ev_int) ea_nil)) ev_int))
abbrev s_turned : Stmt := top 12
theorem sc_turned : FnScope ["table", "place", "row"] ["table"] (defScope s_turned) := ⟨rfl, rfl, rfl, by decide +kernel, rfl, by decide +kernel, by decide +kernel⟩
theorem ok_turned {f : Addr} {fd : FuncData} (F : Fun K "turned" "turned" s_turned f fd) (t : Tx P K mg C fI a_UNIT a_RING_MOST) (c_wide : CalG P w K mg base 1 "wide" m_wide) : FnG P w K mg base 2 f fd ["table"] m_turned := by
  refine fnG_of (k := 1) F sc_turned rfl rfl (by decide) fun cdv A outer s H E hr hgd => ?_
  have nd := sc_turned.nd
  have tk : Takes (cxOf (L2.CX P w) P w K mg base ["table", "place", "row"] "turned" (defScope s_turned) f cdv A outer s H E) (WXof E) := takes_of rfl rfl rfl rfl
  have po : PassesOwn (model (cxOf (L2.CX P w) P w K mg base ["table", "place", "row"] "turned" (defScope s_turned) f cdv A outer s H E).prog (cxOf (L2.CX P w) P w K mg base ["table", "place", "row"] "turned" (defScope s_turned) f cdv A outer s H E).w) (cxOf (L2.CX P w) P w K mg base ["table", "place", "row"] "turned" (defScope s_turned) f cdv A outer s H E).A (cxOf (L2.CX P w) P w K mg base ["table", "place", "row"] "turned" (defScope s_turned) f cdv A outer s H E).env (cxOf (L2.CX P w) P w K mg base ["table", "place", "row"] "turned" (defScope s_turned) f cdv A outer s H E).xe := passes_of rfl
  refine ess_one ?_
  · exact (es_ret (b_tuple t.z_tuple (ea_cons (ev_lc (own := [("place", 1)]) rfl nd (ei_rng1 (by rfl) t.z_range (ea_cons (ev_cl c_wide hr (by decide) hgd tk (ea_cons (vr 0) ea_nil)) ea_nil)) (blkOk_by (by first | rfl | kernel_rfl)) (by decide) (fun _ _ _ _ _ => (eg_name nd rfl (by first | exact .inl rfl | exact .inr rfl))) (fun _ _ _ _ _ => ets_nil) (fun _ _ _ _ _ => (b_tuple t.z_tuple (ea_cons (ev_lc (own := [("row", 2)]) rfl nd (ei_seq (vr 0)) (blkOk_by (by first | rfl | kernel_rfl)) (by decide) (fun _ _ _ _ _ => (eg_name nd rfl (by first | exact .inl rfl | exact .inr rfl))) (fun _ _ _ _ _ => ets_nil) (fun _ _ _ _ _ => (ev_ix (vr 2) (vr 1)))) ea_nil)))) ea_nil)))
abbrev s_dot : Stmt := top 13
theorem sc_dot : FnScope ["one", "other", "a", "b"] ["one", "other"] (defScope s_dot) := ⟨rfl, rfl, rfl, by decide +kernel, rfl, by decide +kernel, by decide +kernel⟩
theorem ok_dot {f : Addr} {fd : FuncData} (F : Fun K "dot" "dot" s_dot f fd) (t : Tx P K mg C fI a_UNIT a_RING_MOST)  : FnG P w K mg base 1 f fd ["one", "other"] m_dot := by
  refine fnG_of (k := 0) F sc_dot rfl rfl (by decide) fun cdv A outer s H E hr hgd => ?_
  have nd := sc_dot.nd
  have tk : Takes (cxOf (L2.CX P w) P w K mg base ["one", "other", "a", "b"] "dot" (defScope s_dot) f cdv A outer s H E) (WXof E) := takes_of rfl rfl rfl rfl
  have po : PassesOwn (model (cxOf (L2.CX P w) P w K mg base ["one", "other", "a", "b"] "dot" (defScope s_dot) f cdv A outer s H E).prog (cxOf (L2.CX P w) P w K mg base ["one", "other", "a", "b"] "dot" (defScope s_dot) f cdv A outer s H E).w) (cxOf (L2.CX P w) P w K mg base ["one", "other", "a", "b"] "dot" (defScope s_dot) f cdv A outer s H E).A (cxOf (L2.CX P w) P w K mg base ["one", "other", "a", "b"] "dot" (defScope s_dot) f cdv A outer s H E).env (cxOf (L2.CX P w) P w K mg base ["one", "other", "a", "b"] "dot" (defScope s_dot) f cdv A outer s H E).xe := passes_of rfl
  refine ess_one ?_
  · exact (es_ret (b_sum t.z_sum (ea_cons (ev_lc (own := [("a", 2), ("b", 3)]) rfl nd (ei_zip (by rfl) t.z_zip (ea_cons (vr 0) (ea_cons (vr 1) ea_nil))) (blkOk_by (by first | rfl | kernel_rfl)) (by decide) (fun _ _ _ _ _ => (eg_tup rfl (egs_cons (eg_name nd rfl (by first | exact .inl rfl | exact .inr rfl)) (egs_cons (eg_name nd rfl (by first | exact .inl rfl | exact .inr rfl)) egs_nil)))) (fun _ _ _ _ _ => ets_nil) (fun _ _ _ _ _ => (o_mul (vr 2) (vr 3)))) ea_nil)))
abbrev s_product : Stmt := top 14
theorem sc_product : FnScope ["one", "other", "columns", "row", "column"] ["one", "other"] (defScope s_product) := ⟨rfl, rfl, rfl, by decide +kernel, rfl, by decide +kernel, by decide +kernel⟩
theorem ok_product {f : Addr} {fd : FuncData} (F : Fun K "product" "product" s_product f fd) (t : Tx P K mg C fI a_UNIT a_RING_MOST) (c_turned : CalG P w K mg base 2 "turned" m_turned) (c_dot : CalG P w K mg base 1 "dot" m_dot) : FnG P w K mg base 3 f fd ["one", "other"] m_product := by
  refine fnG_of (k := 2) F sc_product rfl rfl (by decide) fun cdv A outer s H E hr hgd => ?_
  have nd := sc_product.nd
  have tk : Takes (cxOf (L2.CX P w) P w K mg base ["one", "other", "columns", "row", "column"] "product" (defScope s_product) f cdv A outer s H E) (WXof E) := takes_of rfl rfl rfl rfl
  have po : PassesOwn (model (cxOf (L2.CX P w) P w K mg base ["one", "other", "columns", "row", "column"] "product" (defScope s_product) f cdv A outer s H E).prog (cxOf (L2.CX P w) P w K mg base ["one", "other", "columns", "row", "column"] "product" (defScope s_product) f cdv A outer s H E).w) (cxOf (L2.CX P w) P w K mg base ["one", "other", "columns", "row", "column"] "product" (defScope s_product) f cdv A outer s H E).A (cxOf (L2.CX P w) P w K mg base ["one", "other", "columns", "row", "column"] "product" (defScope s_product) f cdv A outer s H E).env (cxOf (L2.CX P w) P w K mg base ["one", "other", "columns", "row", "column"] "product" (defScope s_product) f cdv A outer s H E).xe := passes_of rfl
  refine ess_cons ?_ (ess_one ?_)
  · exact (es_set nd rfl (by first | exact .inl rfl | exact .inr rfl) (ev_cl c_turned hr (by decide) hgd tk (ea_cons (vr 1) ea_nil)))
  · exact (es_ret (b_tuple t.z_tuple (ea_cons (ev_lc (own := [("row", 3)]) rfl nd (ei_seq (vr 0)) (blkOk_by (by first | rfl | kernel_rfl)) (by decide) (fun _ _ _ _ _ => (eg_name nd rfl (by first | exact .inl rfl | exact .inr rfl))) (fun _ _ _ _ _ => ets_nil) (fun _ _ _ _ _ => (b_tuple t.z_tuple (ea_cons (ev_lc (own := [("column", 4)]) rfl nd (ei_seq (vr 2)) (blkOk_by (by first | rfl | kernel_rfl)) (by decide) (fun _ _ _ _ _ => (eg_name nd rfl (by first | exact .inl rfl | exact .inr rfl))) (fun _ _ _ _ _ => ets_nil) (fun _ _ _ _ _ => (ev_cl c_dot hr (by decide) hgd takes0 (ea_cons (vr 3) (ea_cons (vr 4) ea_nil))))) ea_nil)))) ea_nil)))
abbrev s_is_two : Stmt := top 17
theorem sc_is_two : FnScope ["shape"] ["shape"] (defScope s_is_two) := ⟨rfl, rfl, rfl, by decide +kernel, rfl, by decide +kernel, by decide +kernel⟩
theorem ok_is_two {f : Addr} {fd : FuncData} (F : Fun K "is_two" "is_two" s_is_two f fd) (t : Tx P K mg C fI a_UNIT a_RING_MOST) (c_is_row : CalG P w K mg base 2 "is_row" m_is_row) : FnG P w K mg base 3 f fd ["shape"] m_is_two := by
  refine fnG_of (k := 2) F sc_is_two rfl rfl (by decide) fun cdv A outer s H E hr hgd => ?_
  have nd := sc_is_two.nd
  have tk : Takes (cxOf (L2.CX P w) P w K mg base ["shape"] "is_two" (defScope s_is_two) f cdv A outer s H E) (WXof E) := takes_of rfl rfl rfl rfl
  have po : PassesOwn (model (cxOf (L2.CX P w) P w K mg base ["shape"] "is_two" (defScope s_is_two) f cdv A outer s H E).prog (cxOf (L2.CX P w) P w K mg base ["shape"] "is_two" (defScope s_is_two) f cdv A outer s H E).w) (cxOf (L2.CX P w) P w K mg base ["shape"] "is_two" (defScope s_is_two) f cdv A outer s H E).A (cxOf (L2.CX P w) P w K mg base ["shape"] "is_two" (defScope s_is_two) f cdv A outer s H E).env (cxOf (L2.CX P w) P w K mg base ["shape"] "is_two" (defScope s_is_two) f cdv A outer s H E).xe := passes_of rfl
  refine ess_one ?_
  · exact (es_ret (ev_and (ev_cl c_is_row hr (by decide) hgd tk (ea_cons (vr 0) ea_nil)) (ev_one (q_eq hr (b_len t.z_len (ea_cons (vr 0) ea_nil)) ev_int))))
abbrev s_gap : Stmt := top 18
theorem sc_gap : FnScope ["two"] ["two"] (defScope s_gap) := ⟨rfl, rfl, rfl, by decide +kernel, rfl, by decide +kernel, by decide +kernel⟩
theorem ok_gap {f : Addr} {fd : FuncData} (F : Fun K "gap" "gap" s_gap f fd) (t : Tx P K mg C fI a_UNIT a_RING_MOST)  : FnG P w K mg base 1 f fd ["two"] m_gap := by
  refine fnG_of (k := 0) F sc_gap rfl rfl (by decide) fun cdv A outer s H E hr hgd => ?_
  have nd := sc_gap.nd
  have tk : Takes (cxOf (L2.CX P w) P w K mg base ["two"] "gap" (defScope s_gap) f cdv A outer s H E) (WXof E) := takes_of rfl rfl rfl rfl
  have po : PassesOwn (model (cxOf (L2.CX P w) P w K mg base ["two"] "gap" (defScope s_gap) f cdv A outer s H E).prog (cxOf (L2.CX P w) P w K mg base ["two"] "gap" (defScope s_gap) f cdv A outer s H E).w) (cxOf (L2.CX P w) P w K mg base ["two"] "gap" (defScope s_gap) f cdv A outer s H E).A (cxOf (L2.CX P w) P w K mg base ["two"] "gap" (defScope s_gap) f cdv A outer s H E).env (cxOf (L2.CX P w) P w K mg base ["two"] "gap" (defScope s_gap) f cdv A outer s H E).xe := passes_of rfl
  refine ess_one ?_
  · exact (es_ret (o_sub (o_mul (ev_ix (vr 0) ev_int) (ev_ix (vr 0) ev_int)) (o_mul (o_mul ev_int (ev_ix (vr 0) ev_int)) (ev_ix (vr 0) ev_int))))
abbrev s_two_worth : Stmt := top 19
theorem sc_two_worth : FnScope ["two", "x", "y"] ["two", "x", "y"] (defScope s_two_worth) := ⟨rfl, rfl, rfl, by decide +kernel, rfl, by decide +kernel, by decide +kernel⟩
theorem ok_two_worth {f : Addr} {fd : FuncData} (F : Fun K "two_worth" "two_worth" s_two_worth f fd) (t : Tx P K mg C fI a_UNIT a_RING_MOST)  : FnG P w K mg base 1 f fd ["two", "x", "y"] m_two_worth := by
  refine fnG_of (k := 0) F sc_two_worth rfl rfl (by decide) fun cdv A outer s H E hr hgd => ?_
  have nd := sc_two_worth.nd
  have tk : Takes (cxOf (L2.CX P w) P w K mg base ["two", "x", "y"] "two_worth" (defScope s_two_worth) f cdv A outer s H E) (WXof E) := takes_of rfl rfl rfl rfl
  have po : PassesOwn (model (cxOf (L2.CX P w) P w K mg base ["two", "x", "y"] "two_worth" (defScope s_two_worth) f cdv A outer s H E).prog (cxOf (L2.CX P w) P w K mg base ["two", "x", "y"] "two_worth" (defScope s_two_worth) f cdv A outer s H E).w) (cxOf (L2.CX P w) P w K mg base ["two", "x", "y"] "two_worth" (defScope s_two_worth) f cdv A outer s H E).A (cxOf (L2.CX P w) P w K mg base ["two", "x", "y"] "two_worth" (defScope s_two_worth) f cdv A outer s H E).env (cxOf (L2.CX P w) P w K mg base ["two", "x", "y"] "two_worth" (defScope s_two_worth) f cdv A outer s H E).xe := passes_of rfl
  refine ess_one ?_
  · exact (es_ret (o_add (o_add (o_mul (o_mul (ev_ix (vr 0) ev_int) (vr 1)) (vr 1)) (o_mul (o_mul (ev_ix (vr 0) ev_int) (vr 1)) (vr 2))) (o_mul (o_mul (ev_ix (vr 0) ev_int) (vr 2)) (vr 2))))
abbrev s_two_changed : Stmt := top 20
theorem sc_two_changed : FnScope ["two", "rows", "p", "q", "r", "s", "middle"] ["two", "rows"] (defScope s_two_changed) := ⟨rfl, rfl, rfl, by decide +kernel, rfl, by decide +kernel, by decide +kernel⟩
theorem ok_two_changed {f : Addr} {fd : FuncData} (F : Fun K "two_changed" "two_changed" s_two_changed f fd) (t : Tx P K mg C fI a_UNIT a_RING_MOST) (c_two_worth : CalG P w K mg base 1 "two_worth" m_two_worth) : FnG P w K mg base 2 f fd ["two", "rows"] m_two_changed := by
  refine fnG_of (k := 1) F sc_two_changed rfl rfl (by decide) fun cdv A outer s H E hr hgd => ?_
  have nd := sc_two_changed.nd
  have tk : Takes (cxOf (L2.CX P w) P w K mg base ["two", "rows", "p", "q", "r", "s", "middle"] "two_changed" (defScope s_two_changed) f cdv A outer s H E) (WXof E) := takes_of rfl rfl rfl rfl
  have po : PassesOwn (model (cxOf (L2.CX P w) P w K mg base ["two", "rows", "p", "q", "r", "s", "middle"] "two_changed" (defScope s_two_changed) f cdv A outer s H E).prog (cxOf (L2.CX P w) P w K mg base ["two", "rows", "p", "q", "r", "s", "middle"] "two_changed" (defScope s_two_changed) f cdv A outer s H E).w) (cxOf (L2.CX P w) P w K mg base ["two", "rows", "p", "q", "r", "s", "middle"] "two_changed" (defScope s_two_changed) f cdv A outer s H E).A (cxOf (L2.CX P w) P w K mg base ["two", "rows", "p", "q", "r", "s", "middle"] "two_changed" (defScope s_two_changed) f cdv A outer s H E).env (cxOf (L2.CX P w) P w K mg base ["two", "rows", "p", "q", "r", "s", "middle"] "two_changed" (defScope s_two_changed) f cdv A outer s H E).xe := passes_of rfl
  refine ess_cons ?_ (ess_cons ?_ (ess_one ?_))
  · exact (es_asg (vr 1) (eg_tup rfl (egs_cons (eg_tup rfl (egs_cons (eg_name nd rfl (by first | exact .inl rfl | exact .inr rfl)) (egs_cons (eg_name nd rfl (by first | exact .inl rfl | exact .inr rfl)) egs_nil))) (egs_cons (eg_tup rfl (egs_cons (eg_name nd rfl (by first | exact .inl rfl | exact .inr rfl)) (egs_cons (eg_name nd rfl (by first | exact .inl rfl | exact .inr rfl)) egs_nil))) egs_nil))))
  · exact (es_set nd rfl (by first | exact .inl rfl | exact .inr rfl) (o_add (o_add (o_mul (o_mul (o_mul ev_int (ev_ix (vr 0) ev_int)) (vr 2)) (vr 4)) (o_mul (ev_ix (vr 0) ev_int) (o_add (o_mul (vr 2) (vr 5)) (o_mul (vr 3) (vr 4))))) (o_mul (o_mul (o_mul ev_int (ev_ix (vr 0) ev_int)) (vr 3)) (vr 5))))
  · exact (es_ret (ev_tup (ea_cons (ev_cl c_two_worth hr (by decide) hgd tk (ea_cons (vr 0) (ea_cons (vr 2) (ea_cons (vr 3) ea_nil)))) (ea_cons (vr 6) (ea_cons (ev_cl c_two_worth hr (by decide) hgd tk (ea_cons (vr 0) (ea_cons (vr 4) (ea_cons (vr 5) ea_nil)))) ea_nil)))))
abbrev s_check_open : Stmt := top 23
theorem sc_check_open : FnScope ["two", "number"] ["two"] (defScope s_check_open) := ⟨rfl, rfl, rfl, by decide +kernel, rfl, by decide +kernel, by decide +kernel⟩
theorem ok_check_open {f : Addr} {fd : FuncData} (F : Fun K "check_open" "check_open" s_check_open f fd) (t : Tx P K mg C fI a_UNIT a_RING_MOST) (c_root : CalG P w K mg base 1 "root" m_root) (c_is_two : CalG P w K mg base 3 "is_two" m_is_two) (c_gap : CalG P w K mg base 1 "gap" m_gap) : FnG P w K mg base 4 f fd ["two"] m_check_open := by
  refine fnG_of (k := 3) F sc_check_open rfl rfl (by decide) fun cdv A outer s H E hr hgd => ?_
  have nd := sc_check_open.nd
  have tk : Takes (cxOf (L2.CX P w) P w K mg base ["two", "number"] "check_open" (defScope s_check_open) f cdv A outer s H E) (WXof E) := takes_of rfl rfl rfl rfl
  have po : PassesOwn (model (cxOf (L2.CX P w) P w K mg base ["two", "number"] "check_open" (defScope s_check_open) f cdv A outer s H E).prog (cxOf (L2.CX P w) P w K mg base ["two", "number"] "check_open" (defScope s_check_open) f cdv A outer s H E).w) (cxOf (L2.CX P w) P w K mg base ["two", "number"] "check_open" (defScope s_check_open) f cdv A outer s H E).A (cxOf (L2.CX P w) P w K mg base ["two", "number"] "check_open" (defScope s_check_open) f cdv A outer s H E).env (cxOf (L2.CX P w) P w K mg base ["two", "number"] "check_open" (defScope s_check_open) f cdv A outer s H E).xe := passes_of rfl
  refine ess_cons ?_ (ess_cons ?_ (ess_one ?_))
  · exact (es_if (et_not (et_tru (ev_cl c_is_two hr (by decide) hgd tk (ea_cons (vr 0) ea_nil)))) (ess_one (es_raise rfl t.x_BadTable hr tk (ea_cons ev_str ea_nil) (by rfl))) ess_nil)
  · exact (es_set nd rfl (by first | exact .inl rfl | exact .inr rfl) (ev_cl c_gap hr (by decide) hgd tk (ea_cons (vr 0) ea_nil)))
  · exact (es_if (et_W (ew_or (t_le (vr 1) ev_int) (ew_or1 (t_eq hr (o_mul (ev_cl c_root hr (by decide) hgd tk (ea_cons (vr 1) ea_nil)) (ev_cl c_root hr (by decide) hgd tk (ea_cons (vr 1) ea_nil))) (vr 1))))) (ess_one (es_raise rfl t.x_BadTable hr tk (ea_cons ev_str ea_nil) (by rfl))) ess_nil)
abbrev s_is_ring_reduced : Stmt := top 24
theorem sc_is_ring_reduced : FnScope ["two", "number", "a", "b", "whole"] ["two"] (defScope s_is_ring_reduced) := ⟨rfl, rfl, rfl, by decide +kernel, rfl, by decide +kernel, by decide +kernel⟩
theorem ok_is_ring_reduced {f : Addr} {fd : FuncData} (F : Fun K "is_ring_reduced" "is_ring_reduced" s_is_ring_reduced f fd) (t : Tx P K mg C fI a_UNIT a_RING_MOST) (c_root : CalG P w K mg base 1 "root" m_root) (c_gap : CalG P w K mg base 1 "gap" m_gap) : FnG P w K mg base 2 f fd ["two"] m_is_ring_reduced := by
  refine fnG_of (k := 1) F sc_is_ring_reduced rfl rfl (by decide) fun cdv A outer s H E hr hgd => ?_
  have nd := sc_is_ring_reduced.nd
  have tk : Takes (cxOf (L2.CX P w) P w K mg base ["two", "number", "a", "b", "whole"] "is_ring_reduced" (defScope s_is_ring_reduced) f cdv A outer s H E) (WXof E) := takes_of rfl rfl rfl rfl
  have po : PassesOwn (model (cxOf (L2.CX P w) P w K mg base ["two", "number", "a", "b", "whole"] "is_ring_reduced" (defScope s_is_ring_reduced) f cdv A outer s H E).prog (cxOf (L2.CX P w) P w K mg base ["two", "number", "a", "b", "whole"] "is_ring_reduced" (defScope s_is_ring_reduced) f cdv A outer s H E).w) (cxOf (L2.CX P w) P w K mg base ["two", "number", "a", "b", "whole"] "is_ring_reduced" (defScope s_is_ring_reduced) f cdv A outer s H E).A (cxOf (L2.CX P w) P w K mg base ["two", "number", "a", "b", "whole"] "is_ring_reduced" (defScope s_is_ring_reduced) f cdv A outer s H E).env (cxOf (L2.CX P w) P w K mg base ["two", "number", "a", "b", "whole"] "is_ring_reduced" (defScope s_is_ring_reduced) f cdv A outer s H E).xe := passes_of rfl
  refine ess_cons ?_ (ess_cons ?_ (ess_cons ?_ (ess_one ?_)))
  · exact (es_set nd rfl (by first | exact .inl rfl | exact .inr rfl) (ev_cl c_gap hr (by decide) hgd tk (ea_cons (vr 0) ea_nil)))
  · exact (es_par rfl nd rfl rfl (by decide) rfl rfl (ea_cons (b_abs t.z_abs (ea_cons (ev_ix (vr 0) ev_int) ea_nil)) (ea_cons (ev_ix (vr 0) ev_int) ea_nil)) (by rfl))
  · exact (es_set nd rfl (by first | exact .inl rfl | exact .inr rfl) (ev_cl c_root hr (by decide) hgd tk (ea_cons (vr 1) ea_nil)))
  · exact (es_ret (ev_and (ev_ch2 op_lt opd_lt op_le opd_le ev_int (vr 3) (vr 4)) (ev_one (ev_ch2 op_lt opd_lt op_le opd_le (o_sub (vr 4) (vr 3)) (o_mul ev_int (vr 2)) (o_add (vr 4) (vr 3))))))
abbrev s_next_form : Stmt := top 25
theorem sc_next_form : FnScope ["two", "a", "b", "c", "size", "whole", "shift", "step"] ["two"] (defScope s_next_form) := ⟨rfl, rfl, rfl, by decide +kernel, rfl, by decide +kernel, by decide +kernel⟩
theorem ok_next_form {f : Addr} {fd : FuncData} (F : Fun K "next_form" "next_form" s_next_form f fd) (t : Tx P K mg C fI a_UNIT a_RING_MOST) (c_root : CalG P w K mg base 1 "root" m_root) (c_gap : CalG P w K mg base 1 "gap" m_gap) (c_two_changed : CalG P w K mg base 2 "two_changed" m_two_changed) : FnG P w K mg base 3 f fd ["two"] m_next_form := by
  refine fnG_of (k := 2) F sc_next_form rfl rfl (by decide) fun cdv A outer s H E hr hgd => ?_
  have nd := sc_next_form.nd
  have tk : Takes (cxOf (L2.CX P w) P w K mg base ["two", "a", "b", "c", "size", "whole", "shift", "step"] "next_form" (defScope s_next_form) f cdv A outer s H E) (WXof E) := takes_of rfl rfl rfl rfl
  have po : PassesOwn (model (cxOf (L2.CX P w) P w K mg base ["two", "a", "b", "c", "size", "whole", "shift", "step"] "next_form" (defScope s_next_form) f cdv A outer s H E).prog (cxOf (L2.CX P w) P w K mg base ["two", "a", "b", "c", "size", "whole", "shift", "step"] "next_form" (defScope s_next_form) f cdv A outer s H E).w) (cxOf (L2.CX P w) P w K mg base ["two", "a", "b", "c", "size", "whole", "shift", "step"] "next_form" (defScope s_next_form) f cdv A outer s H E).A (cxOf (L2.CX P w) P w K mg base ["two", "a", "b", "c", "size", "whole", "shift", "step"] "next_form" (defScope s_next_form) f cdv A outer s H E).env (cxOf (L2.CX P w) P w K mg base ["two", "a", "b", "c", "size", "whole", "shift", "step"] "next_form" (defScope s_next_form) f cdv A outer s H E).xe := passes_of rfl
  refine ess_cons ?_ (ess_cons ?_ (ess_cons ?_ (ess_cons ?_ (ess_cons ?_ (ess_cons ?_ (ess_one ?_))))))
  · exact (es_asg (vr 0) (eg_tup rfl (egs_cons (eg_name nd rfl (by first | exact .inl rfl | exact .inr rfl)) (egs_cons (eg_name nd rfl (by first | exact .inl rfl | exact .inr rfl)) (egs_cons (eg_name nd rfl (by first | exact .inl rfl | exact .inr rfl)) egs_nil)))))
  · exact (es_set nd rfl (by first | exact .inl rfl | exact .inr rfl) (b_abs t.z_abs (ea_cons (vr 3) ea_nil)))
  · exact (es_set nd rfl (by first | exact .inl rfl | exact .inr rfl) (ev_cl c_root hr (by decide) hgd tk (ea_cons (ev_cl c_gap hr (by decide) hgd tk (ea_cons (vr 0) ea_nil)) ea_nil)))
  · exact (es_if (t_gt (vr 4) (vr 5)) (ess_one (es_set nd rfl (by first | exact .inl rfl | exact .inr rfl) (o_fdiv (o_add (vr 2) (vr 4)) (o_mul ev_int (vr 4))))) (ess_one (es_set nd rfl (by first | exact .inl rfl | exact .inr rfl) (o_fdiv (o_add (vr 5) (vr 2)) (o_mul ev_int (vr 4))))))
  · exact (es_if (t_lt (vr 3) ev_int) (ess_one (es_set nd rfl (by first | exact .inl rfl | exact .inr rfl) (o_sub ev_int (vr 6)))) ess_nil)
  · exact (es_set nd rfl (by first | exact .inl rfl | exact .inr rfl) (ev_tup (ea_cons (ev_tup (ea_cons ev_int (ea_cons ev_int ea_nil))) (ea_cons (ev_tup (ea_cons (o_neg ev_int) (ea_cons (vr 6) ea_nil))) ea_nil))))
  · exact (es_ret (ev_tup (ea_cons (ev_cl c_two_changed hr (by decide) hgd tk (ea_cons (vr 0) (ea_cons (vr 7) ea_nil))) (ea_cons (vr 7) ea_nil))))
abbrev s_ring_reduced : Stmt := top 26
theorem sc_ring_reduced : FnScope ["two", "rows", "step"] ["two"] (defScope s_ring_reduced) := ⟨rfl, rfl, rfl, by decide +kernel, rfl, by decide +kernel, by decide +kernel⟩
theorem ok_ring_reduced {f : Addr} {fd : FuncData} (F : Fun K "ring_reduced" "ring_reduced" s_ring_reduced f fd) (t : Tx P K mg C fI a_UNIT a_RING_MOST) (c_product : CalG P w K mg base 3 "product" m_product) (c_check_open : CalG P w K mg base 4 "check_open" m_check_open) (c_is_ring_reduced : CalG P w K mg base 2 "is_ring_reduced" m_is_ring_reduced) (c_next_form : CalG P w K mg base 3 "next_form" m_next_form) : FnG P w K mg base 5 f fd ["two"] m_ring_reduced := by
  refine fnG_of (k := 4) F sc_ring_reduced rfl rfl (by decide) fun cdv A outer s H E hr hgd => ?_
  have nd := sc_ring_reduced.nd
  have tk : Takes (cxOf (L2.CX P w) P w K mg base ["two", "rows", "step"] "ring_reduced" (defScope s_ring_reduced) f cdv A outer s H E) (WXof E) := takes_of rfl rfl rfl rfl
  have po : PassesOwn (model (cxOf (L2.CX P w) P w K mg base ["two", "rows", "step"] "ring_reduced" (defScope s_ring_reduced) f cdv A outer s H E).prog (cxOf (L2.CX P w) P w K mg base ["two", "rows", "step"] "ring_reduced" (defScope s_ring_reduced) f cdv A outer s H E).w) (cxOf (L2.CX P w) P w K mg base ["two", "rows", "step"] "ring_reduced" (defScope s_ring_reduced) f cdv A outer s H E).A (cxOf (L2.CX P w) P w K mg base ["two", "rows", "step"] "ring_reduced" (defScope s_ring_reduced) f cdv A outer s H E).env (cxOf (L2.CX P w) P w K mg base ["two", "rows", "step"] "ring_reduced" (defScope s_ring_reduced) f cdv A outer s H E).xe := passes_of rfl
  refine ess_cons ?_ (ess_cons ?_ (ess_cons ?_ (ess_one ?_)))
  · exact (es_expr (ev_cl c_check_open hr (by decide) hgd tk (ea_cons (vr 0) ea_nil)))
  · exact (es_set nd rfl (by first | exact .inl rfl | exact .inr rfl) (ev_gl t.g_UNIT t.k_UNIT))
  · exact (es_while po (et_not (et_tru (ev_cl c_is_ring_reduced hr (by decide) hgd tk (ea_cons (vr 0) ea_nil)))) (ess_cons (es_asg (ev_cl c_next_form hr (by decide) hgd tk (ea_cons (vr 0) ea_nil)) (eg_tup rfl (egs_cons (eg_name nd rfl (by first | exact .inl rfl | exact .inr rfl)) (egs_cons (eg_name nd rfl (by first | exact .inl rfl | exact .inr rfl)) egs_nil)))) (ess_one (es_set nd rfl (by first | exact .inl rfl | exact .inr rfl) (ev_cl c_product hr (by decide) hgd tk (ea_cons (vr 2) (ea_cons (vr 1) ea_nil)))))))
  · exact (es_ret (ev_tup (ea_cons (vr 0) (ea_cons (vr 1) ea_nil))))
abbrev s_ring : Stmt := top 27
theorem sc_ring : FnScope ["two", "start", "found", "at"] ["two"] (defScope s_ring) := ⟨rfl, rfl, rfl, by decide +kernel, rfl, by decide +kernel, by decide +kernel⟩
theorem ok_ring {f : Addr} {fd : FuncData} (F : Fun K "ring" "ring" s_ring f fd) (t : Tx P K mg C fI a_UNIT a_RING_MOST) (c_next_form : CalG P w K mg base 3 "next_form" m_next_form) (c_ring_reduced : CalG P w K mg base 5 "ring_reduced" m_ring_reduced) : FnG P w K mg base 6 f fd ["two"] m_ring := by
  refine fnG_of (k := 5) F sc_ring rfl rfl (by decide) fun cdv A outer s H E hr hgd => ?_
  have nd := sc_ring.nd
  have tk : Takes (cxOf (L2.CX P w) P w K mg base ["two", "start", "found", "at"] "ring" (defScope s_ring) f cdv A outer s H E) (WXof E) := takes_of rfl rfl rfl rfl
  have po : PassesOwn (model (cxOf (L2.CX P w) P w K mg base ["two", "start", "found", "at"] "ring" (defScope s_ring) f cdv A outer s H E).prog (cxOf (L2.CX P w) P w K mg base ["two", "start", "found", "at"] "ring" (defScope s_ring) f cdv A outer s H E).w) (cxOf (L2.CX P w) P w K mg base ["two", "start", "found", "at"] "ring" (defScope s_ring) f cdv A outer s H E).A (cxOf (L2.CX P w) P w K mg base ["two", "start", "found", "at"] "ring" (defScope s_ring) f cdv A outer s H E).env (cxOf (L2.CX P w) P w K mg base ["two", "start", "found", "at"] "ring" (defScope s_ring) f cdv A outer s H E).xe := passes_of rfl
  refine ess_cons ?_ (ess_cons ?_ (ess_cons ?_ (ess_cons ?_ (ess_cons ?_ (ess_one ?_)))))
  · exact (es_set nd rfl (by first | exact .inl rfl | exact .inr rfl) (ev_ix (ev_cl c_ring_reduced hr (by decide) hgd tk (ea_cons (vr 0) ea_nil)) ev_int))
  · exact (es_set nd rfl (by first | exact .inl rfl | exact .inr rfl) (ev_cel (ea_cons (vr 1) ea_nil)))
  · exact (es_set nd rfl (by first | exact .inl rfl | exact .inr rfl) (ev_ix (ev_cl c_next_form hr (by decide) hgd tk (ea_cons (vr 1) ea_nil)) ev_int))
  · exact (es_while po (t_ne hr (vr 0) (vr 1)) (ess_cons (es_expr (ev_app (vr 2) (vr 0))) (ess_cons (es_if (t_gt (b_len t.z_len (ea_cons (vr 2) ea_nil)) (ev_gl t.g_RING_MOST t.k_RING_MOST)) (ess_one es_dead) ess_nil) (ess_one (es_set nd rfl (by first | exact .inl rfl | exact .inr rfl) (ev_ix (ev_cl c_next_form hr (by decide) hgd tk (ea_cons (vr 0) ea_nil)) ev_int))))))
  · exact (es_set nd rfl (by first | exact .inl rfl | exact .inr rfl) (ev_idx hr (vr 2) (b_minR hr t.z_min (ea_cons (vr 2) ea_nil))))
  · exact (es_ret (b_tuple t.z_tuple (ea_cons (o_add (ev_slice (vr 2) (eo_some (vr 3)) eo_none) (ev_slice (vr 2) eo_none (eo_some (vr 3)))) ea_nil)))
abbrev s_with_middle : Stmt := top 29
theorem sc_with_middle : FnScope ["b", "rest", "found", "a", "two"] ["b", "rest"] (defScope s_with_middle) := ⟨rfl, rfl, rfl, by decide +kernel, rfl, by decide +kernel, by decide +kernel⟩
theorem ok_with_middle {f : Addr} {fd : FuncData} (F : Fun K "with_middle" "with_middle" s_with_middle f fd) (t : Tx P K mg C fI a_UNIT a_RING_MOST) (c_is_ring_reduced : CalG P w K mg base 2 "is_ring_reduced" m_is_ring_reduced) : FnG P w K mg base 3 f fd ["b", "rest"] m_with_middle := by
  refine fnG_of (k := 2) F sc_with_middle rfl rfl (by decide) fun cdv A outer s H E hr hgd => ?_
  have nd := sc_with_middle.nd
  have tk : Takes (cxOf (L2.CX P w) P w K mg base ["b", "rest", "found", "a", "two"] "with_middle" (defScope s_with_middle) f cdv A outer s H E) (WXof E) := takes_of rfl rfl rfl rfl
  have po : PassesOwn (model (cxOf (L2.CX P w) P w K mg base ["b", "rest", "found", "a", "two"] "with_middle" (defScope s_with_middle) f cdv A outer s H E).prog (cxOf (L2.CX P w) P w K mg base ["b", "rest", "found", "a", "two"] "with_middle" (defScope s_with_middle) f cdv A outer s H E).w) (cxOf (L2.CX P w) P w K mg base ["b", "rest", "found", "a", "two"] "with_middle" (defScope s_with_middle) f cdv A outer s H E).A (cxOf (L2.CX P w) P w K mg base ["b", "rest", "found", "a", "two"] "with_middle" (defScope s_with_middle) f cdv A outer s H E).env (cxOf (L2.CX P w) P w K mg base ["b", "rest", "found", "a", "two"] "with_middle" (defScope s_with_middle) f cdv A outer s H E).xe := passes_of rfl
  refine ess_cons ?_ (ess_cons ?_ (ess_one ?_))
  · exact (es_set nd rfl (by first | exact .inl rfl | exact .inr rfl) (ev_cel ea_nil))
  · exact (es_for po rfl (ei_rng2 (by rfl) t.z_range (ea_cons ev_int (ea_cons (o_add (vr 1) ev_int) ea_nil))) (eg_name nd rfl (by first | exact .inl rfl | exact .inr rfl)) (ess_one (es_if (t_eq hr (o_mod (vr 1) (vr 3)) ev_int) (ess_one (es_for po rfl (ei_seq (ev_tup (ea_cons (ev_tup (ea_cons (vr 3) (ea_cons (vr 0) (ea_cons (o_sub ev_int (o_fdiv (vr 1) (vr 3))) ea_nil)))) (ea_cons (ev_tup (ea_cons (o_sub ev_int (vr 3)) (ea_cons (vr 0) (ea_cons (o_fdiv (vr 1) (vr 3)) ea_nil)))) ea_nil)))) (eg_name nd rfl (by first | exact .inl rfl | exact .inr rfl)) (ess_one (es_if (et_tru (ev_cl c_is_ring_reduced hr (by decide) hgd tk (ea_cons (vr 4) ea_nil))) (ess_one (es_expr (ev_app (vr 2) (vr 4)))) ess_nil)))) ess_nil)))
  · exact (es_ret (vr 2))
abbrev s_rings : Stmt := top 28
theorem sc_rings : FnScope ["number", "found", "b", "rows", "seen", "two", "own", "one"] ["number"] (defScope s_rings) := ⟨rfl, rfl, rfl, by decide +kernel, rfl, by decide +kernel, by decide +kernel⟩
theorem ok_rings {f : Addr} {fd : FuncData} (F : Fun K "rings" "rings" s_rings f fd) (t : Tx P K mg C fI a_UNIT a_RING_MOST) (c_divisor_of : CalG P w K mg base 2 "divisor_of" m_divisor_of) (c_root : CalG P w K mg base 1 "root" m_root) (c_check_open : CalG P w K mg base 4 "check_open" m_check_open) (c_ring : CalG P w K mg base 6 "ring" m_ring) (c_with_middle : CalG P w K mg base 3 "with_middle" m_with_middle) : FnG P w K mg base 7 f fd ["number"] m_rings := by
  refine fnG_of (k := 6) F sc_rings rfl rfl (by decide) fun cdv A outer s H E hr hgd => ?_
  have nd := sc_rings.nd
  have tk : Takes (cxOf (L2.CX P w) P w K mg base ["number", "found", "b", "rows", "seen", "two", "own", "one"] "rings" (defScope s_rings) f cdv A outer s H E) (WXof E) := takes_of rfl rfl rfl rfl
  have po : PassesOwn (model (cxOf (L2.CX P w) P w K mg base ["number", "found", "b", "rows", "seen", "two", "own", "one"] "rings" (defScope s_rings) f cdv A outer s H E).prog (cxOf (L2.CX P w) P w K mg base ["number", "found", "b", "rows", "seen", "two", "own", "one"] "rings" (defScope s_rings) f cdv A outer s H E).w) (cxOf (L2.CX P w) P w K mg base ["number", "found", "b", "rows", "seen", "two", "own", "one"] "rings" (defScope s_rings) f cdv A outer s H E).A (cxOf (L2.CX P w) P w K mg base ["number", "found", "b", "rows", "seen", "two", "own", "one"] "rings" (defScope s_rings) f cdv A outer s H E).env (cxOf (L2.CX P w) P w K mg base ["number", "found", "b", "rows", "seen", "two", "own", "one"] "rings" (defScope s_rings) f cdv A outer s H E).xe := passes_of rfl
  refine ess_cons ?_ (ess_cons ?_ (ess_cons ?_ (ess_cons ?_ (ess_cons ?_ (ess_cons ?_ (ess_one ?_))))))
  · exact (es_expr (ev_cl c_check_open hr (by decide) hgd tk (ea_cons (ev_if (t_lt (o_mod (vr 0) ev_int) ev_int) (ev_tup (ea_cons ev_int (ea_cons (o_mod (vr 0) ev_int) (ea_cons (o_fdiv (o_sub (o_mod (vr 0) ev_int) (vr 0)) ev_int) ea_nil)))) (ev_tup (ea_cons ev_int (ea_cons ev_int (ea_cons ev_int ea_nil))))) ea_nil)))
  · exact (es_set nd rfl (by first | exact .inl rfl | exact .inr rfl) (ev_cel ea_nil))
  · exact (es_for po rfl (ei_rng2 (by rfl) t.z_range (ea_cons ev_int (ea_cons (o_add (ev_cl c_root hr (by decide) hgd tk (ea_cons (vr 0) ea_nil)) ev_int) ea_nil))) (eg_name nd rfl (by first | exact .inl rfl | exact .inr rfl)) (ess_one (es_if (t_eq hr (o_mod (o_sub (o_mul (vr 2) (vr 2)) (vr 0)) ev_int) ev_int) (ess_one (es_aug nd rfl (by first | exact .inl rfl | exact .inr rfl) (ev_cl c_with_middle hr (by decide) hgd tk (ea_cons (vr 2) (ea_cons (o_fdiv (o_sub (vr 0) (o_mul (vr 2) (vr 2))) ev_int) ea_nil))) iop_ext opd_ext)) ess_nil)))
  · exact (es_set nd rfl (by first | exact .inl rfl | exact .inr rfl) (ev_cel ea_nil))
  · exact (es_set nd rfl (by first | exact .inl rfl | exact .inr rfl) ev_dic0)
  · exact (es_forP po rfl (ei_cel (vr 1)) (eg_name nd rfl (by first | exact .inl rfl | exact .inr rfl)) (ess_one (es_if (et_W (ew_and (t_dnotin hr (vr 5) (vr 4)) (ew_and1 (t_eq hr (ev_cl c_divisor_of hr (by decide) hgd tk (ea_cons (vr 5) ea_nil)) ev_int)))) (ess_cons (es_set nd rfl (by first | exact .inl rfl | exact .inr rfl) (ev_cl c_ring hr (by decide) hgd tk (ea_cons (vr 5) ea_nil))) (ess_cons (es_expr (ev_app (vr 3) (vr 6))) (ess_one (es_for po rfl (ei_seq (vr 6)) (eg_name nd rfl (by first | exact .inl rfl | exact .inr rfl)) (ess_one (d_pt hr (vr 4) (vr 7) ev_bl)))))) ess_nil)))
  · exact (es_ret (b_tuple t.z_tuple (ea_cons (b_sorted hr t.z_sorted (ea_cons (vr 3) ea_nil)) ea_nil)))
abbrev s_are_rung : Stmt := top 30
theorem sc_are_rung : FnScope ["two", "other", "one", "first", "goal", "last", "start", "step", "p", "q", "r", "s"] ["two", "other"] (defScope s_are_rung) := ⟨rfl, rfl, rfl, by decide +kernel, rfl, by decide +kernel, by decide +kernel⟩
theorem ok_are_rung {f : Addr} {fd : FuncData} (F : Fun K "are_rung" "are_rung" s_are_rung f fd) (t : Tx P K mg C fI a_UNIT a_RING_MOST) (c_product : CalG P w K mg base 3 "product" m_product) (c_gap : CalG P w K mg base 1 "gap" m_gap) (c_next_form : CalG P w K mg base 3 "next_form" m_next_form) (c_ring_reduced : CalG P w K mg base 5 "ring_reduced" m_ring_reduced) (c_ring : CalG P w K mg base 6 "ring" m_ring) : FnG P w K mg base 7 f fd ["two", "other"] m_are_rung := by
  refine fnG_of (k := 6) F sc_are_rung rfl rfl (by decide) fun cdv A outer s H E hr hgd => ?_
  have nd := sc_are_rung.nd
  have tk : Takes (cxOf (L2.CX P w) P w K mg base ["two", "other", "one", "first", "goal", "last", "start", "step", "p", "q", "r", "s"] "are_rung" (defScope s_are_rung) f cdv A outer s H E) (WXof E) := takes_of rfl rfl rfl rfl
  have po : PassesOwn (model (cxOf (L2.CX P w) P w K mg base ["two", "other", "one", "first", "goal", "last", "start", "step", "p", "q", "r", "s"] "are_rung" (defScope s_are_rung) f cdv A outer s H E).prog (cxOf (L2.CX P w) P w K mg base ["two", "other", "one", "first", "goal", "last", "start", "step", "p", "q", "r", "s"] "are_rung" (defScope s_are_rung) f cdv A outer s H E).w) (cxOf (L2.CX P w) P w K mg base ["two", "other", "one", "first", "goal", "last", "start", "step", "p", "q", "r", "s"] "are_rung" (defScope s_are_rung) f cdv A outer s H E).A (cxOf (L2.CX P w) P w K mg base ["two", "other", "one", "first", "goal", "last", "start", "step", "p", "q", "r", "s"] "are_rung" (defScope s_are_rung) f cdv A outer s H E).env (cxOf (L2.CX P w) P w K mg base ["two", "other", "one", "first", "goal", "last", "start", "step", "p", "q", "r", "s"] "are_rung" (defScope s_are_rung) f cdv A outer s H E).xe := passes_of rfl
  refine ess_cons ?_ (ess_cons ?_ (ess_cons ?_ (ess_cons ?_ (ess_cons ?_ (ess_cons ?_ (ess_one ?_))))))
  · exact (es_if (t_ne hr (ev_cl c_gap hr (by decide) hgd tk (ea_cons (vr 0) ea_nil)) (ev_cl c_gap hr (by decide) hgd tk (ea_cons (vr 1) ea_nil))) (ess_one (es_ret (ev_tup (ea_cons ev_bl (ea_cons (ev_tup (ea_cons (ev_cl c_ring hr (by decide) hgd tk (ea_cons (vr 0) ea_nil)) (ea_cons (ev_cl c_ring hr (by decide) hgd tk (ea_cons (vr 1) ea_nil)) ea_nil))) ea_nil))))) ess_nil)
  · exact (es_asg (ev_cl c_ring_reduced hr (by decide) hgd tk (ea_cons (vr 0) ea_nil)) (eg_tup rfl (egs_cons (eg_name nd rfl (by first | exact .inl rfl | exact .inr rfl)) (egs_cons (eg_name nd rfl (by first | exact .inl rfl | exact .inr rfl)) egs_nil))))
  · exact (es_asg (ev_cl c_ring_reduced hr (by decide) hgd tk (ea_cons (vr 1) ea_nil)) (eg_tup rfl (egs_cons (eg_name nd rfl (by first | exact .inl rfl | exact .inr rfl)) (egs_cons (eg_name nd rfl (by first | exact .inl rfl | exact .inr rfl)) egs_nil))))
  · exact (es_set nd rfl (by first | exact .inl rfl | exact .inr rfl) (vr 2))
  · exact (es_while po (t_ne hr (vr 2) (vr 4)) (ess_cons (es_asg (ev_cl c_next_form hr (by decide) hgd tk (ea_cons (vr 2) ea_nil)) (eg_tup rfl (egs_cons (eg_name nd rfl (by first | exact .inl rfl | exact .inr rfl)) (egs_cons (eg_name nd rfl (by first | exact .inl rfl | exact .inr rfl)) egs_nil)))) (ess_cons (es_set nd rfl (by first | exact .inl rfl | exact .inr rfl) (ev_cl c_product hr (by decide) hgd tk (ea_cons (vr 7) (ea_cons (vr 3) ea_nil)))) (ess_one (es_if (t_eq hr (vr 2) (vr 6)) (ess_one (es_ret (ev_tup (ea_cons ev_bl (ea_cons (ev_tup (ea_cons (ev_cl c_ring hr (by decide) hgd tk (ea_cons (vr 0) ea_nil)) (ea_cons (ev_cl c_ring hr (by decide) hgd tk (ea_cons (vr 1) ea_nil)) ea_nil))) ea_nil))))) ess_nil)))))
  · exact (es_asg (vr 5) (eg_tup rfl (egs_cons (eg_tup rfl (egs_cons (eg_name nd rfl (by first | exact .inl rfl | exact .inr rfl)) (egs_cons (eg_name nd rfl (by first | exact .inl rfl | exact .inr rfl)) egs_nil))) (egs_cons (eg_tup rfl (egs_cons (eg_name nd rfl (by first | exact .inl rfl | exact .inr rfl)) (egs_cons (eg_name nd rfl (by first | exact .inl rfl | exact .inr rfl)) egs_nil))) egs_nil))))
  · exact (es_ret (ev_tup (ea_cons ev_bl (ea_cons (ev_cl c_product hr (by decide) hgd tk (ea_cons (ev_tup (ea_cons (ev_tup (ea_cons (vr 11) (ea_cons (o_sub ev_int (vr 9)) ea_nil))) (ea_cons (ev_tup (ea_cons (o_sub ev_int (vr 10)) (ea_cons (vr 8) ea_nil))) ea_nil))) (ea_cons (vr 3) ea_nil))) ea_nil))))
abbrev s_pell : Stmt := top 31
theorem sc_pell : FnScope ["number", "two", "start", "rows", "one", "step", "many", "p", "q", "r", "s"] ["number"] (defScope s_pell) := ⟨rfl, rfl, rfl, by decide +kernel, rfl, by decide +kernel, by decide +kernel⟩
theorem ok_pell {f : Addr} {fd : FuncData} (F : Fun K "pell" "pell" s_pell f fd) (t : Tx P K mg C fI a_UNIT a_RING_MOST) (c_product : CalG P w K mg base 3 "product" m_product) (c_check_open : CalG P w K mg base 4 "check_open" m_check_open) (c_next_form : CalG P w K mg base 3 "next_form" m_next_form) (c_ring_reduced : CalG P w K mg base 5 "ring_reduced" m_ring_reduced) : FnG P w K mg base 6 f fd ["number"] m_pell := by
  refine fnG_of (k := 5) F sc_pell rfl rfl (by decide) fun cdv A outer s H E hr hgd => ?_
  have nd := sc_pell.nd
  have tk : Takes (cxOf (L2.CX P w) P w K mg base ["number", "two", "start", "rows", "one", "step", "many", "p", "q", "r", "s"] "pell" (defScope s_pell) f cdv A outer s H E) (WXof E) := takes_of rfl rfl rfl rfl
  have po : PassesOwn (model (cxOf (L2.CX P w) P w K mg base ["number", "two", "start", "rows", "one", "step", "many", "p", "q", "r", "s"] "pell" (defScope s_pell) f cdv A outer s H E).prog (cxOf (L2.CX P w) P w K mg base ["number", "two", "start", "rows", "one", "step", "many", "p", "q", "r", "s"] "pell" (defScope s_pell) f cdv A outer s H E).w) (cxOf (L2.CX P w) P w K mg base ["number", "two", "start", "rows", "one", "step", "many", "p", "q", "r", "s"] "pell" (defScope s_pell) f cdv A outer s H E).A (cxOf (L2.CX P w) P w K mg base ["number", "two", "start", "rows", "one", "step", "many", "p", "q", "r", "s"] "pell" (defScope s_pell) f cdv A outer s H E).env (cxOf (L2.CX P w) P w K mg base ["number", "two", "start", "rows", "one", "step", "many", "p", "q", "r", "s"] "pell" (defScope s_pell) f cdv A outer s H E).xe := passes_of rfl
  refine ess_cons ?_ (ess_cons ?_ (ess_cons ?_ (ess_cons ?_ (ess_cons ?_ (ess_cons ?_ (ess_cons ?_ (ess_cons ?_ (ess_cons ?_ (ess_one ?_)))))))))
  · exact (es_if (t_gt (o_mod (vr 0) ev_int) ev_int) (ess_one (es_raise rfl t.x_BadTable hr tk (ea_cons ev_str ea_nil) (by rfl))) ess_nil)
  · exact (es_set nd rfl (by first | exact .inl rfl | exact .inr rfl) (ev_tup (ea_cons ev_int (ea_cons (o_mod (vr 0) ev_int) (ea_cons (o_fdiv (o_sub (o_mod (vr 0) ev_int) (vr 0)) ev_int) ea_nil)))))
  · exact (es_expr (ev_cl c_check_open hr (by decide) hgd tk (ea_cons (vr 1) ea_nil)))
  · exact (es_par rfl nd rfl rfl (by decide) rfl rfl (ea_cons (ev_ix (ev_cl c_ring_reduced hr (by decide) hgd tk (ea_cons (vr 1) ea_nil)) ev_int) (ea_cons (ev_gl t.g_UNIT t.k_UNIT) ea_nil)) (by rfl))
  · exact (es_asg (ev_cl c_next_form hr (by decide) hgd tk (ea_cons (vr 2) ea_nil)) (eg_tup rfl (egs_cons (eg_name nd rfl (by first | exact .inl rfl | exact .inr rfl)) (egs_cons (eg_name nd rfl (by first | exact .inl rfl | exact .inr rfl)) egs_nil))))
  · exact (es_set nd rfl (by first | exact .inl rfl | exact .inr rfl) (ev_cl c_product hr (by decide) hgd tk (ea_cons (vr 5) (ea_cons (vr 3) ea_nil))))
  · exact (es_set nd rfl (by first | exact .inl rfl | exact .inr rfl) ev_int)
  · exact (es_while po (t_ne hr (vr 4) (vr 2)) (ess_cons (es_asg (ev_cl c_next_form hr (by decide) hgd tk (ea_cons (vr 4) ea_nil)) (eg_tup rfl (egs_cons (eg_name nd rfl (by first | exact .inl rfl | exact .inr rfl)) (egs_cons (eg_name nd rfl (by first | exact .inl rfl | exact .inr rfl)) egs_nil)))) (ess_cons (es_set nd rfl (by first | exact .inl rfl | exact .inr rfl) (ev_cl c_product hr (by decide) hgd tk (ea_cons (vr 5) (ea_cons (vr 3) ea_nil)))) (ess_cons (es_aug nd rfl (by first | exact .inl rfl | exact .inr rfl) ev_int iop_add opd_add) (ess_one (es_if (t_gt (vr 6) (ev_gl t.g_RING_MOST t.k_RING_MOST)) (ess_one es_dead) ess_nil))))))
  · exact (es_asg (vr 3) (eg_tup rfl (egs_cons (eg_tup rfl (egs_cons (eg_name nd rfl (by first | exact .inl rfl | exact .inr rfl)) (egs_cons (eg_name nd rfl (by first | exact .inl rfl | exact .inr rfl)) egs_nil))) (egs_cons (eg_tup rfl (egs_cons (eg_name nd rfl (by first | exact .inl rfl | exact .inr rfl)) (egs_cons (eg_name nd rfl (by first | exact .inl rfl | exact .inr rfl)) egs_nil))) egs_nil))))
  · exact (es_ret (ev_tup (ea_cons (b_abs t.z_abs (ea_cons (o_add (vr 7) (vr 10)) ea_nil)) (ea_cons (o_fdiv (b_abs t.z_abs (ea_cons (vr 8) ea_nil)) (b_abs t.z_abs (ea_cons (ev_ix (vr 2) ev_int) ea_nil))) ea_nil))))
abbrev s_l_cell : Stmt := top 33
theorem sc_l_cell : FnScope ["script", "k"] ["script", "k"] (defScope s_l_cell) := ⟨rfl, rfl, rfl, by decide +kernel, rfl, by decide +kernel, by decide +kernel⟩
theorem ok_l_cell {f : Addr} {fd : FuncData} (F : Fun K "_law_cell" "_law_cell" s_l_cell f fd) (t : Tx P K mg C fI a_UNIT a_RING_MOST)  : FnG P w K mg base 1 f fd ["script", "k"] m_l_cell := by
  refine fnG_of (k := 0) F sc_l_cell rfl rfl (by decide) fun cdv A outer s H E hr hgd => ?_
  have nd := sc_l_cell.nd
  have tk : Takes (cxOf (L2.CX P w) P w K mg base ["script", "k"] "_law_cell" (defScope s_l_cell) f cdv A outer s H E) (WXof E) := takes_of rfl rfl rfl rfl
  have po : PassesOwn (model (cxOf (L2.CX P w) P w K mg base ["script", "k"] "_law_cell" (defScope s_l_cell) f cdv A outer s H E).prog (cxOf (L2.CX P w) P w K mg base ["script", "k"] "_law_cell" (defScope s_l_cell) f cdv A outer s H E).w) (cxOf (L2.CX P w) P w K mg base ["script", "k"] "_law_cell" (defScope s_l_cell) f cdv A outer s H E).A (cxOf (L2.CX P w) P w K mg base ["script", "k"] "_law_cell" (defScope s_l_cell) f cdv A outer s H E).env (cxOf (L2.CX P w) P w K mg base ["script", "k"] "_law_cell" (defScope s_l_cell) f cdv A outer s H E).xe := passes_of rfl
  refine ess_cons ?_ (ess_one ?_)
  · exact (es_if (t_lt (vr 1) (b_len t.z_len (ea_cons (vr 0) ea_nil))) (ess_one (es_ret (ev_ix (vr 0) (vr 1)))) ess_nil)
  · exact (es_ret ev_int)
abbrev s_l_digits : Stmt := top 34
theorem sc_l_digits : FnScope ["script", "first", "last", "found", "k", "c", "n", "turn", "s"] ["script", "first", "last"] (defScope s_l_digits) := ⟨rfl, rfl, rfl, by decide +kernel, rfl, by decide +kernel, by decide +kernel⟩
theorem ok_l_digits {f : Addr} {fd : FuncData} (F : Fun K "_law_digits" "_law_digits" s_l_digits f fd) (t : Tx P K mg C fI a_UNIT a_RING_MOST) (c_l_cell : CalG P w K mg base 1 "_law_cell" m_l_cell) : FnG P w K mg base 2 f fd ["script", "first", "last"] m_l_digits := by
  refine fnG_of (k := 1) F sc_l_digits rfl rfl (by decide) fun cdv A outer s H E hr hgd => ?_
  have nd := sc_l_digits.nd
  have tk : Takes (cxOf (L2.CX P w) P w K mg base ["script", "first", "last", "found", "k", "c", "n", "turn", "s"] "_law_digits" (defScope s_l_digits) f cdv A outer s H E) (WXof E) := takes_of rfl rfl rfl rfl
  have po : PassesOwn (model (cxOf (L2.CX P w) P w K mg base ["script", "first", "last", "found", "k", "c", "n", "turn", "s"] "_law_digits" (defScope s_l_digits) f cdv A outer s H E).prog (cxOf (L2.CX P w) P w K mg base ["script", "first", "last", "found", "k", "c", "n", "turn", "s"] "_law_digits" (defScope s_l_digits) f cdv A outer s H E).w) (cxOf (L2.CX P w) P w K mg base ["script", "first", "last", "found", "k", "c", "n", "turn", "s"] "_law_digits" (defScope s_l_digits) f cdv A outer s H E).A (cxOf (L2.CX P w) P w K mg base ["script", "first", "last", "found", "k", "c", "n", "turn", "s"] "_law_digits" (defScope s_l_digits) f cdv A outer s H E).env (cxOf (L2.CX P w) P w K mg base ["script", "first", "last", "found", "k", "c", "n", "turn", "s"] "_law_digits" (defScope s_l_digits) f cdv A outer s H E).xe := passes_of rfl
  refine ess_cons ?_ (ess_cons ?_ (ess_one ?_))
  · exact (es_set nd rfl (by first | exact .inl rfl | exact .inr rfl) (ev_cel ea_nil))
  · exact (es_for po rfl (ei_rng2 (by rfl) t.z_range (ea_cons (vr 1) (ea_cons (vr 2) ea_nil))) (eg_name nd rfl (by first | exact .inl rfl | exact .inr rfl)) (ess_cons (es_set nd rfl (by first | exact .inl rfl | exact .inr rfl) (ev_cl c_l_cell hr (by decide) hgd tk (ea_cons (vr 0) (ea_cons (vr 4) ea_nil)))) (ess_cons (es_if (t_lt (vr 5) ev_int) (ess_one (es_set nd rfl (by first | exact .inl rfl | exact .inr rfl) (o_sub ev_int (o_mul (vr 5) ev_int)))) ess_nil) (ess_one (es_if (t_ge (vr 5) (o_pow ev_int ev_int)) (ess_cons (es_set nd rfl (by first | exact .inl rfl | exact .inr rfl) (vr 5)) (ess_one (es_for po rfl (ei_rng1 (by rfl) t.z_range (ea_cons ev_int ea_nil)) (eg_name nd rfl (by first | exact .inl rfl | exact .inr rfl)) (ess_one (es_if (t_gt (vr 6) ev_int) (ess_cons (es_expr (ev_app (vr 3) (o_mod (vr 6) ev_int))) (ess_one (es_set nd rfl (by first | exact .inl rfl | exact .inr rfl) (o_fdiv (vr 6) ev_int)))) ess_nil))))) (ess_cons (es_set nd rfl (by first | exact .inl rfl | exact .inr rfl) (o_mod (o_add (o_add (o_mul (vr 5) ev_int) (o_mul (b_int t.z_int (ea_cons (o_add (vr 4) ev_int) ea_nil)) ev_int)) ev_int) ev_int)) (ess_one (es_for po rfl (ei_rng1 (by rfl) t.z_range (ea_cons ev_int ea_nil)) (eg_name nd rfl (by first | exact .inl rfl | exact .inr rfl)) (ess_cons (es_set nd rfl (by first | exact .inl rfl | exact .inr rfl) (o_mod (o_add (o_add (o_mul (vr 8) ev_int) (o_mul (vr 7) ev_int)) ev_int) ev_int)) (ess_one (es_expr (ev_app (vr 3) (o_mod (o_fdiv (vr 8) ev_int) ev_int)))))))))))))
  · exact (es_ret (vr 3))
abbrev s_l_draw : Stmt := top 35
theorem sc_l_draw : FnScope ["box", "m", "digits", "at"] ["box", "m"] (defScope s_l_draw) := ⟨rfl, rfl, rfl, by decide +kernel, rfl, by decide +kernel, by decide +kernel⟩
theorem ok_l_draw {f : Addr} {fd : FuncData} (F : Fun K "_law_draw" "_law_draw" s_l_draw f fd) (t : Tx P K mg C fI a_UNIT a_RING_MOST)  : FnG P w K mg base 1 f fd ["box", "m"] m_l_draw := by
  refine fnG_of (k := 0) F sc_l_draw rfl rfl (by decide) fun cdv A outer s H E hr hgd => ?_
  have nd := sc_l_draw.nd
  have tk : Takes (cxOf (L2.CX P w) P w K mg base ["box", "m", "digits", "at"] "_law_draw" (defScope s_l_draw) f cdv A outer s H E) (WXof E) := takes_of rfl rfl rfl rfl
  have po : PassesOwn (model (cxOf (L2.CX P w) P w K mg base ["box", "m", "digits", "at"] "_law_draw" (defScope s_l_draw) f cdv A outer s H E).prog (cxOf (L2.CX P w) P w K mg base ["box", "m", "digits", "at"] "_law_draw" (defScope s_l_draw) f cdv A outer s H E).w) (cxOf (L2.CX P w) P w K mg base ["box", "m", "digits", "at"] "_law_draw" (defScope s_l_draw) f cdv A outer s H E).A (cxOf (L2.CX P w) P w K mg base ["box", "m", "digits", "at"] "_law_draw" (defScope s_l_draw) f cdv A outer s H E).env (cxOf (L2.CX P w) P w K mg base ["box", "m", "digits", "at"] "_law_draw" (defScope s_l_draw) f cdv A outer s H E).xe := passes_of rfl
  refine ess_cons ?_ (ess_cons ?_ (ess_cons ?_ (ess_one ?_)))
  · exact (es_asg (vr 0) (eg_tup rfl (egs_cons (eg_name nd rfl (by first | exact .inl rfl | exact .inr rfl)) (egs_cons (eg_name nd rfl (by first | exact .inl rfl | exact .inr rfl)) egs_nil))))
  · exact (es_asg (o_add (vr 3) ev_int) (eg_sub (vr 0) ev_int))
  · exact (es_if (t_lt (vr 3) (b_len t.z_len (ea_cons (vr 2) ea_nil))) (ess_one (es_ret (o_mod (ev_ix (vr 2) (vr 3)) (vr 1)))) ess_nil)
  · exact (es_ret (o_mod (o_add (o_add (o_add (o_mul (o_mul (vr 3) (vr 3)) ev_int) (o_mul (vr 3) ev_int)) (o_fdiv (vr 3) ev_int)) ev_int) (vr 1)))
abbrev s_l_pick : Stmt := top 36
theorem sc_l_pick : FnScope ["box", "rows"] ["box", "rows"] (defScope s_l_pick) := ⟨rfl, rfl, rfl, by decide +kernel, rfl, by decide +kernel, by decide +kernel⟩
theorem ok_l_pick {f : Addr} {fd : FuncData} (F : Fun K "_law_pick" "_law_pick" s_l_pick f fd) (t : Tx P K mg C fI a_UNIT a_RING_MOST) (c_l_draw : CalG P w K mg base 1 "_law_draw" m_l_draw) : FnG P w K mg base 2 f fd ["box", "rows"] m_l_pick := by
  refine fnG_of (k := 1) F sc_l_pick rfl rfl (by decide) fun cdv A outer s H E hr hgd => ?_
  have nd := sc_l_pick.nd
  have tk : Takes (cxOf (L2.CX P w) P w K mg base ["box", "rows"] "_law_pick" (defScope s_l_pick) f cdv A outer s H E) (WXof E) := takes_of rfl rfl rfl rfl
  have po : PassesOwn (model (cxOf (L2.CX P w) P w K mg base ["box", "rows"] "_law_pick" (defScope s_l_pick) f cdv A outer s H E).prog (cxOf (L2.CX P w) P w K mg base ["box", "rows"] "_law_pick" (defScope s_l_pick) f cdv A outer s H E).w) (cxOf (L2.CX P w) P w K mg base ["box", "rows"] "_law_pick" (defScope s_l_pick) f cdv A outer s H E).A (cxOf (L2.CX P w) P w K mg base ["box", "rows"] "_law_pick" (defScope s_l_pick) f cdv A outer s H E).env (cxOf (L2.CX P w) P w K mg base ["box", "rows"] "_law_pick" (defScope s_l_pick) f cdv A outer s H E).xe := passes_of rfl
  refine ess_one ?_
  · exact (es_ret (ev_ix (vr 1) (ev_cl c_l_draw hr (by decide) hgd tk (ea_cons (vr 0) (ea_cons (b_len t.z_len (ea_cons (vr 1) ea_nil)) ea_nil)))))
abbrev s_l_same : Stmt := top 37
theorem sc_l_same : FnScope ["one", "other"] ["one", "other"] (defScope s_l_same) := ⟨rfl, rfl, rfl, by decide +kernel, rfl, by decide +kernel, by decide +kernel⟩
theorem ok_l_same {f : Addr} {fd : FuncData} (F : Fun K "_law_same" "_law_same" s_l_same f fd) (t : Tx P K mg C fI a_UNIT a_RING_MOST)  : FnG P w K mg base 1 f fd ["one", "other"] m_l_same := by
  refine fnG_of (k := 0) F sc_l_same rfl rfl (by decide) fun cdv A outer s H E hr hgd => ?_
  have nd := sc_l_same.nd
  have tk : Takes (cxOf (L2.CX P w) P w K mg base ["one", "other"] "_law_same" (defScope s_l_same) f cdv A outer s H E) (WXof E) := takes_of rfl rfl rfl rfl
  have po : PassesOwn (model (cxOf (L2.CX P w) P w K mg base ["one", "other"] "_law_same" (defScope s_l_same) f cdv A outer s H E).prog (cxOf (L2.CX P w) P w K mg base ["one", "other"] "_law_same" (defScope s_l_same) f cdv A outer s H E).w) (cxOf (L2.CX P w) P w K mg base ["one", "other"] "_law_same" (defScope s_l_same) f cdv A outer s H E).A (cxOf (L2.CX P w) P w K mg base ["one", "other"] "_law_same" (defScope s_l_same) f cdv A outer s H E).env (cxOf (L2.CX P w) P w K mg base ["one", "other"] "_law_same" (defScope s_l_same) f cdv A outer s H E).xe := passes_of rfl
  refine ess_one ?_
  · exact (es_ret (q_eq hr (b_repr hr hgd t.z_repr (ea_cons (vr 0) ea_nil)) (b_repr hr hgd t.z_repr (ea_cons (vr 1) ea_nil))))
abbrev s_l_gcd : Stmt := top 38
theorem sc_l_gcd : FnScope ["one", "other"] ["one", "other"] (defScope s_l_gcd) := ⟨rfl, rfl, rfl, by decide +kernel, rfl, by decide +kernel, by decide +kernel⟩
theorem ok_l_gcd {f : Addr} {fd : FuncData} (F : Fun K "_law_gcd" "_law_gcd" s_l_gcd f fd) (t : Tx P K mg C fI a_UNIT a_RING_MOST)  : FnG P w K mg base 1 f fd ["one", "other"] m_l_gcd := by
  refine fnG_of (k := 0) F sc_l_gcd rfl rfl (by decide) fun cdv A outer s H E hr hgd => ?_
  have nd := sc_l_gcd.nd
  have tk : Takes (cxOf (L2.CX P w) P w K mg base ["one", "other"] "_law_gcd" (defScope s_l_gcd) f cdv A outer s H E) (WXof E) := takes_of rfl rfl rfl rfl
  have po : PassesOwn (model (cxOf (L2.CX P w) P w K mg base ["one", "other"] "_law_gcd" (defScope s_l_gcd) f cdv A outer s H E).prog (cxOf (L2.CX P w) P w K mg base ["one", "other"] "_law_gcd" (defScope s_l_gcd) f cdv A outer s H E).w) (cxOf (L2.CX P w) P w K mg base ["one", "other"] "_law_gcd" (defScope s_l_gcd) f cdv A outer s H E).A (cxOf (L2.CX P w) P w K mg base ["one", "other"] "_law_gcd" (defScope s_l_gcd) f cdv A outer s H E).env (cxOf (L2.CX P w) P w K mg base ["one", "other"] "_law_gcd" (defScope s_l_gcd) f cdv A outer s H E).xe := passes_of rfl
  refine ess_cons ?_ (ess_cons ?_ (ess_one ?_))
  · exact (es_par rfl nd rfl rfl (by decide) rfl rfl (ea_cons (b_abs t.z_abs (ea_cons (vr 0) ea_nil)) (ea_cons (b_abs t.z_abs (ea_cons (vr 1) ea_nil)) ea_nil)) (by rfl))
  · exact (es_while po (t_gt (vr 1) ev_int) (ess_one (es_par rfl nd rfl rfl (by decide) rfl rfl (ea_cons (vr 1) (ea_cons (o_mod (vr 0) (vr 1)) ea_nil)) (by rfl))))
  · exact (es_ret (vr 0))
abbrev s_l_det : Stmt := top 39
theorem sc_l_det : FnScope ["table", "found", "k", "rest", "row"] ["table"] (defScope s_l_det) := ⟨rfl, rfl, rfl, by decide +kernel, rfl, by decide +kernel, by decide +kernel⟩
theorem ok_l_det {f : Addr} {fd : FuncData} (F : Fun K "_law_det" "_law_det" s_l_det f fd) (t : Tx P K mg C fI a_UNIT a_RING_MOST)  (hm : mg "_law_det" = some (.ref f)) (hk : PySem.W.keepIn K (.ref f) = true) (hb : Binds K fd ["table"] []) : ∀ n, FnG P w K mg base (0 + n + 1) f fd ["table"] (m_l_det n)
  | 0 => ⟨fun _ _ h => absurd rfl h, fun _ _ _ _ _ _ _ _ _ _ _ _ _ _ h => by obtain ⟨_, _, _, _, _, k⟩ := h; exact k.elim⟩
  | n + 1 => by
    have ih : CalG P w K mg base (0 + n + 1) "_law_det" (m_l_det n) := ⟨f, fd, ["table"], ok_l_det F t  hm hk hb n, hm, hk, hb⟩
    refine fnG_of (k := 0 + n + 1) F sc_l_det rfl rfl (by decide) fun cdv A outer s H E hr hgd => ?_
    have nd := sc_l_det.nd
    have tk : Takes (cxOf (L2.CX P w) P w K mg base ["table", "found", "k", "rest", "row"] "_law_det" (defScope s_l_det) f cdv A outer s H E) (WXof E) := takes_of rfl rfl rfl rfl
    have po : PassesOwn (model (cxOf (L2.CX P w) P w K mg base ["table", "found", "k", "rest", "row"] "_law_det" (defScope s_l_det) f cdv A outer s H E).prog (cxOf (L2.CX P w) P w K mg base ["table", "found", "k", "rest", "row"] "_law_det" (defScope s_l_det) f cdv A outer s H E).w) (cxOf (L2.CX P w) P w K mg base ["table", "found", "k", "rest", "row"] "_law_det" (defScope s_l_det) f cdv A outer s H E).A (cxOf (L2.CX P w) P w K mg base ["table", "found", "k", "rest", "row"] "_law_det" (defScope s_l_det) f cdv A outer s H E).env (cxOf (L2.CX P w) P w K mg base ["table", "found", "k", "rest", "row"] "_law_det" (defScope s_l_det) f cdv A outer s H E).xe := passes_of rfl
    refine ess_cons ?_ (ess_cons ?_ (ess_cons ?_ (ess_one ?_)))
    · exact (es_if (t_eq hr (b_len t.z_len (ea_cons (vr 0) ea_nil)) ev_int) (ess_one (es_ret ev_int)) ess_nil)
    · exact (es_set nd rfl (by first | exact .inl rfl | exact .inr rfl) ev_int)
    · exact (es_for po rfl (ei_rng1 (by rfl) t.z_range (ea_cons (b_len t.z_len (ea_cons (vr 0) ea_nil)) ea_nil)) (eg_name nd rfl (by first | exact .inl rfl | exact .inr rfl)) (ess_one (es_if (t_ne hr (ev_ix (ev_ix (vr 0) (vr 2)) ev_int) ev_int) (ess_cons (es_setLc (own := [("row", 4)]) rfl nd rfl rfl (by rfl) (ei_seq (o_add (ev_slice (vr 0) eo_none (eo_some (vr 2))) (ev_slice (vr 0) (eo_some (o_add (vr 2) ev_int)) eo_none))) (blkOk_by (by first | rfl | kernel_rfl)) (by decide) (fun _ _ _ _ _ => (eg_name nd rfl (by first | exact .inl rfl | exact .inr rfl))) (fun _ _ _ _ _ => ets_nil) (fun _ _ _ _ _ => (ev_slice (vr 4) (eo_some ev_int) eo_none))) (ess_one (es_set nd rfl (by first | exact .inl rfl | exact .inr rfl) (o_add (vr 1) (o_mul (o_mul (o_sub ev_int (o_mul ev_int (o_mod (vr 2) ev_int))) (ev_ix (ev_ix (vr 0) (vr 2)) ev_int)) (ev_cl ih hr (Nat.le_refl _) hgd tk (ea_cons (vr 3) ea_nil))))))) ess_nil)))
    · exact (es_ret (vr 1))
abbrev s_l_unit : Stmt := top 40
theorem sc_l_unit : FnScope ["many", "j", "k"] ["many"] (defScope s_l_unit) := ⟨rfl, rfl, rfl, by decide +kernel, rfl, by decide +kernel, by decide +kernel⟩
theorem ok_l_unit {f : Addr} {fd : FuncData} (F : Fun K "_law_unit" "_law_unit" s_l_unit f fd) (t : Tx P K mg C fI a_UNIT a_RING_MOST)  : FnG P w K mg base 1 f fd ["many"] m_l_unit := by
  refine fnG_of (k := 0) F sc_l_unit rfl rfl (by decide) fun cdv A outer s H E hr hgd => ?_
  have nd := sc_l_unit.nd
  have tk : Takes (cxOf (L2.CX P w) P w K mg base ["many", "j", "k"] "_law_unit" (defScope s_l_unit) f cdv A outer s H E) (WXof E) := takes_of rfl rfl rfl rfl
  have po : PassesOwn (model (cxOf (L2.CX P w) P w K mg base ["many", "j", "k"] "_law_unit" (defScope s_l_unit) f cdv A outer s H E).prog (cxOf (L2.CX P w) P w K mg base ["many", "j", "k"] "_law_unit" (defScope s_l_unit) f cdv A outer s H E).w) (cxOf (L2.CX P w) P w K mg base ["many", "j", "k"] "_law_unit" (defScope s_l_unit) f cdv A outer s H E).A (cxOf (L2.CX P w) P w K mg base ["many", "j", "k"] "_law_unit" (defScope s_l_unit) f cdv A outer s H E).env (cxOf (L2.CX P w) P w K mg base ["many", "j", "k"] "_law_unit" (defScope s_l_unit) f cdv A outer s H E).xe := passes_of rfl
  refine ess_one ?_
  · exact (es_ret (b_tuple t.z_tuple (ea_cons (ev_lc (own := [("j", 1)]) rfl nd (ei_rng1 (by rfl) t.z_range (ea_cons (vr 0) ea_nil)) (blkOk_by (by first | rfl | kernel_rfl)) (by decide) (fun _ _ _ _ _ => (eg_name nd rfl (by first | exact .inl rfl | exact .inr rfl))) (fun _ _ _ _ _ => ets_nil) (fun _ _ _ _ _ => (b_tuple t.z_tuple (ea_cons (ev_lc (own := [("k", 2)]) rfl nd (ei_rng1 (by rfl) t.z_range (ea_cons (vr 0) ea_nil)) (blkOk_by (by first | rfl | kernel_rfl)) (by decide) (fun _ _ _ _ _ => (eg_name nd rfl (by first | exact .inl rfl | exact .inr rfl))) (fun _ _ _ _ _ => ets_nil) (fun _ _ _ _ _ => (b_int t.z_int (ea_cons (q_eq hr (vr 1) (vr 2)) ea_nil)))) ea_nil)))) ea_nil)))
abbrev s_l_change : Stmt := top 41
theorem sc_l_change : FnScope ["box", "many", "steps", "rows", "turn", "one", "other", "kind", "factor", "row", "number", "k"] ["box", "many", "steps"] (defScope s_l_change) := ⟨rfl, rfl, rfl, by decide +kernel, rfl, by decide +kernel, by decide +kernel⟩
theorem ok_l_change {f : Addr} {fd : FuncData} (F : Fun K "_law_change" "_law_change" s_l_change f fd) (t : Tx P K mg C fI a_UNIT a_RING_MOST) (c_l_draw : CalG P w K mg base 1 "_law_draw" m_l_draw) (c_l_pick : CalG P w K mg base 2 "_law_pick" m_l_pick) (c_l_unit : CalG P w K mg base 1 "_law_unit" m_l_unit) : FnG P w K mg base 3 f fd ["box", "many", "steps"] m_l_change := by
  refine fnG_of (k := 2) F sc_l_change rfl rfl (by decide) fun cdv A outer s H E hr hgd => ?_
  have nd := sc_l_change.nd
  have tk : Takes (cxOf (L2.CX P w) P w K mg base ["box", "many", "steps", "rows", "turn", "one", "other", "kind", "factor", "row", "number", "k"] "_law_change" (defScope s_l_change) f cdv A outer s H E) (WXof E) := takes_of rfl rfl rfl rfl
  have po : PassesOwn (model (cxOf (L2.CX P w) P w K mg base ["box", "many", "steps", "rows", "turn", "one", "other", "kind", "factor", "row", "number", "k"] "_law_change" (defScope s_l_change) f cdv A outer s H E).prog (cxOf (L2.CX P w) P w K mg base ["box", "many", "steps", "rows", "turn", "one", "other", "kind", "factor", "row", "number", "k"] "_law_change" (defScope s_l_change) f cdv A outer s H E).w) (cxOf (L2.CX P w) P w K mg base ["box", "many", "steps", "rows", "turn", "one", "other", "kind", "factor", "row", "number", "k"] "_law_change" (defScope s_l_change) f cdv A outer s H E).A (cxOf (L2.CX P w) P w K mg base ["box", "many", "steps", "rows", "turn", "one", "other", "kind", "factor", "row", "number", "k"] "_law_change" (defScope s_l_change) f cdv A outer s H E).env (cxOf (L2.CX P w) P w K mg base ["box", "many", "steps", "rows", "turn", "one", "other", "kind", "factor", "row", "number", "k"] "_law_change" (defScope s_l_change) f cdv A outer s H E).xe := passes_of rfl
  refine ess_cons ?_ (ess_cons ?_ (ess_one ?_))
  · exact (es_set nd rfl (by first | exact .inl rfl | exact .inr rfl) (ev_lcC (own := [("row", 9)]) rfl nd (ei_seq (ev_cl c_l_unit hr (by decide) hgd tk (ea_cons (vr 1) ea_nil))) (blkOk_by (by first | rfl | kernel_rfl)) (by decide) (fun _ _ _ _ _ => (eg_name nd rfl (by first | exact .inl rfl | exact .inr rfl))) (fun _ _ _ _ _ => ets_nil) (fun _ _ _ _ _ => (b_list t.z_list (ea_cons (vr 9) ea_nil)))))
  · exact (es_for po rfl (ei_rng1 (by rfl) t.z_range (ea_cons (vr 2) ea_nil)) (eg_name nd rfl (by first | exact .inl rfl | exact .inr rfl)) (ess_cons (es_asg (ev_tup (ea_cons (ev_cl c_l_draw hr (by decide) hgd tk (ea_cons (vr 0) (ea_cons (vr 1) ea_nil))) (ea_cons (ev_cl c_l_draw hr (by decide) hgd tk (ea_cons (vr 0) (ea_cons (vr 1) ea_nil))) ea_nil))) (eg_tup rfl (egs_cons (eg_name nd rfl (by first | exact .inl rfl | exact .inr rfl)) (egs_cons (eg_name nd rfl (by first | exact .inl rfl | exact .inr rfl)) egs_nil)))) (ess_cons (es_set nd rfl (by first | exact .inl rfl | exact .inr rfl) (ev_cl c_l_draw hr (by decide) hgd tk (ea_cons (vr 0) (ea_cons ev_int ea_nil)))) (ess_one (es_if (t_eq hr (vr 5) (vr 6)) (ess_one (es_asg (ev_lc (own := [("number", 10)]) rfl nd (ei_seq (ev_ix (vr 3) (vr 5))) (blkOk_by (by first | rfl | kernel_rfl)) (by decide) (fun _ _ _ _ _ => (eg_name nd rfl (by first | exact .inl rfl | exact .inr rfl))) (fun _ _ _ _ _ => ets_nil) (fun _ _ _ _ _ => (o_sub ev_int (vr 10)))) (eg_sub (vr 3) (vr 5)))) (ess_one (es_if (t_eq hr (vr 7) ev_int) (ess_one (es_asg (ev_tup (ea_cons (ev_ix (vr 3) (vr 6)) (ea_cons (ev_ix (vr 3) (vr 5)) ea_nil))) (eg_tup rfl (egs_cons (eg_sub (vr 3) (vr 5)) (egs_cons (eg_sub (vr 3) (vr 6)) egs_nil))))) (ess_cons (es_set nd rfl (by first | exact .inl rfl | exact .inr rfl) (ev_cl c_l_pick hr (by decide) hgd tk (ea_cons (vr 0) (ea_cons (ev_lst (ea_cons ev_int (ea_cons (o_neg ev_int) (ea_cons ev_int (ea_cons (o_neg ev_int) (ea_cons ev_int ea_nil)))))) ea_nil)))) (ess_one (es_asg (ev_lc (own := [("k", 11)]) rfl nd (ei_rng1 (by rfl) t.z_range (ea_cons (vr 1) ea_nil)) (blkOk_by (by first | rfl | kernel_rfl)) (by decide) (fun _ _ _ _ _ => (eg_name nd rfl (by first | exact .inl rfl | exact .inr rfl))) (fun _ _ _ _ _ => ets_nil) (fun _ _ _ _ _ => (o_add (ev_ix (ev_ix (vr 3) (vr 5)) (vr 11)) (o_mul (vr 8) (ev_ix (ev_ix (vr 3) (vr 6)) (vr 11)))))) (eg_sub (vr 3) (vr 5))))))))))))
  · exact (es_ret (b_tuple t.z_tuple (ea_cons (ev_lcP mkI_ok (own := [("row", 9)]) rfl nd (ei_cel (vr 3)) (blkOk_by (by first | rfl | kernel_rfl)) (by decide) (fun _ _ _ _ _ => (eg_name nd rfl (by first | exact .inl rfl | exact .inr rfl))) (fun _ _ _ _ _ => ets_nil) (fun _ _ _ _ _ => (b_tuple t.z_tuple (ea_cons (vr 9) ea_nil)))) ea_nil)))
abbrev s_l_root : Stmt := top 42
theorem sc_l_root : FnScope ["number", "low", "high", "middle"] ["number"] (defScope s_l_root) := ⟨rfl, rfl, rfl, by decide +kernel, rfl, by decide +kernel, by decide +kernel⟩
theorem ok_l_root {f : Addr} {fd : FuncData} (F : Fun K "_law_root" "_law_root" s_l_root f fd) (t : Tx P K mg C fI a_UNIT a_RING_MOST)  : FnG P w K mg base 1 f fd ["number"] m_l_root := by
  refine fnG_of (k := 0) F sc_l_root rfl rfl (by decide) fun cdv A outer s H E hr hgd => ?_
  have nd := sc_l_root.nd
  have tk : Takes (cxOf (L2.CX P w) P w K mg base ["number", "low", "high", "middle"] "_law_root" (defScope s_l_root) f cdv A outer s H E) (WXof E) := takes_of rfl rfl rfl rfl
  have po : PassesOwn (model (cxOf (L2.CX P w) P w K mg base ["number", "low", "high", "middle"] "_law_root" (defScope s_l_root) f cdv A outer s H E).prog (cxOf (L2.CX P w) P w K mg base ["number", "low", "high", "middle"] "_law_root" (defScope s_l_root) f cdv A outer s H E).w) (cxOf (L2.CX P w) P w K mg base ["number", "low", "high", "middle"] "_law_root" (defScope s_l_root) f cdv A outer s H E).A (cxOf (L2.CX P w) P w K mg base ["number", "low", "high", "middle"] "_law_root" (defScope s_l_root) f cdv A outer s H E).env (cxOf (L2.CX P w) P w K mg base ["number", "low", "high", "middle"] "_law_root" (defScope s_l_root) f cdv A outer s H E).xe := passes_of rfl
  refine ess_cons ?_ (ess_cons ?_ (ess_cons ?_ (ess_one ?_)))
  · exact (es_asg (ev_tup (ea_cons ev_int (ea_cons ev_int ea_nil))) (eg_tup rfl (egs_cons (eg_name nd rfl (by first | exact .inl rfl | exact .inr rfl)) (egs_cons (eg_name nd rfl (by first | exact .inl rfl | exact .inr rfl)) egs_nil))))
  · exact (es_while po (t_le (o_mul (vr 2) (vr 2)) (vr 0)) (ess_one (es_set nd rfl (by first | exact .inl rfl | exact .inr rfl) (o_mul (vr 2) ev_int))))
  · exact (es_while po (t_gt (o_sub (vr 2) (vr 1)) ev_int) (ess_cons (es_set nd rfl (by first | exact .inl rfl | exact .inr rfl) (o_fdiv (o_add (vr 1) (vr 2)) ev_int)) (ess_one (es_if (t_le (o_mul (vr 3) (vr 3)) (vr 0)) (ess_one (es_set nd rfl (by first | exact .inl rfl | exact .inr rfl) (vr 3))) (ess_one (es_set nd rfl (by first | exact .inl rfl | exact .inr rfl) (vr 3)))))))
  · exact (es_ret (vr 1))
abbrev s_l_divisors : Stmt := top 43
theorem sc_l_divisors : FnScope ["number", "d"] ["number"] (defScope s_l_divisors) := ⟨rfl, rfl, rfl, by decide +kernel, rfl, by decide +kernel, by decide +kernel⟩
theorem ok_l_divisors {f : Addr} {fd : FuncData} (F : Fun K "_law_divisors" "_law_divisors" s_l_divisors f fd) (t : Tx P K mg C fI a_UNIT a_RING_MOST)  : FnG P w K mg base 1 f fd ["number"] m_l_divisors := by
  refine fnG_of (k := 0) F sc_l_divisors rfl rfl (by decide) fun cdv A outer s H E hr hgd => ?_
  have nd := sc_l_divisors.nd
  have tk : Takes (cxOf (L2.CX P w) P w K mg base ["number", "d"] "_law_divisors" (defScope s_l_divisors) f cdv A outer s H E) (WXof E) := takes_of rfl rfl rfl rfl
  have po : PassesOwn (model (cxOf (L2.CX P w) P w K mg base ["number", "d"] "_law_divisors" (defScope s_l_divisors) f cdv A outer s H E).prog (cxOf (L2.CX P w) P w K mg base ["number", "d"] "_law_divisors" (defScope s_l_divisors) f cdv A outer s H E).w) (cxOf (L2.CX P w) P w K mg base ["number", "d"] "_law_divisors" (defScope s_l_divisors) f cdv A outer s H E).A (cxOf (L2.CX P w) P w K mg base ["number", "d"] "_law_divisors" (defScope s_l_divisors) f cdv A outer s H E).env (cxOf (L2.CX P w) P w K mg base ["number", "d"] "_law_divisors" (defScope s_l_divisors) f cdv A outer s H E).xe := passes_of rfl
  refine ess_one ?_
  · exact (es_ret (ev_lc (own := [("d", 1)]) rfl nd (ei_rng2 (by rfl) t.z_range (ea_cons ev_int (ea_cons (o_add (vr 0) ev_int) ea_nil))) (blkOk_by (by first | rfl | kernel_rfl)) (by decide) (fun _ _ _ _ _ => (eg_name nd rfl (by first | exact .inl rfl | exact .inr rfl))) (fun _ _ _ _ _ => (ets_one (t_eq hr (o_mod (vr 0) (vr 1)) ev_int))) (fun _ _ _ _ _ => (vr 1))))
abbrev s_l_is_reduced : Stmt := top 44
theorem sc_l_is_reduced : FnScope ["two", "number", "a", "b", "low", "high"] ["two", "number"] (defScope s_l_is_reduced) := ⟨rfl, rfl, rfl, by decide +kernel, rfl, by decide +kernel, by decide +kernel⟩
theorem ok_l_is_reduced {f : Addr} {fd : FuncData} (F : Fun K "_law_is_reduced" "_law_is_reduced" s_l_is_reduced f fd) (t : Tx P K mg C fI a_UNIT a_RING_MOST)  : FnG P w K mg base 1 f fd ["two", "number"] m_l_is_reduced := by
  refine fnG_of (k := 0) F sc_l_is_reduced rfl rfl (by decide) fun cdv A outer s H E hr hgd => ?_
  have nd := sc_l_is_reduced.nd
  have tk : Takes (cxOf (L2.CX P w) P w K mg base ["two", "number", "a", "b", "low", "high"] "_law_is_reduced" (defScope s_l_is_reduced) f cdv A outer s H E) (WXof E) := takes_of rfl rfl rfl rfl
  have po : PassesOwn (model (cxOf (L2.CX P w) P w K mg base ["two", "number", "a", "b", "low", "high"] "_law_is_reduced" (defScope s_l_is_reduced) f cdv A outer s H E).prog (cxOf (L2.CX P w) P w K mg base ["two", "number", "a", "b", "low", "high"] "_law_is_reduced" (defScope s_l_is_reduced) f cdv A outer s H E).w) (cxOf (L2.CX P w) P w K mg base ["two", "number", "a", "b", "low", "high"] "_law_is_reduced" (defScope s_l_is_reduced) f cdv A outer s H E).A (cxOf (L2.CX P w) P w K mg base ["two", "number", "a", "b", "low", "high"] "_law_is_reduced" (defScope s_l_is_reduced) f cdv A outer s H E).env (cxOf (L2.CX P w) P w K mg base ["two", "number", "a", "b", "low", "high"] "_law_is_reduced" (defScope s_l_is_reduced) f cdv A outer s H E).xe := passes_of rfl
  refine ess_cons ?_ (ess_cons ?_ (ess_cons ?_ (ess_one ?_)))
  · exact (es_par rfl nd rfl rfl (by decide) rfl rfl (ea_cons (b_abs t.z_abs (ea_cons (ev_ix (vr 0) ev_int) ea_nil)) (ea_cons (ev_ix (vr 0) ev_int) ea_nil)) (by rfl))
  · exact (es_if (et_W (ew_or (t_le (vr 3) ev_int) (ew_or1 (t_ge (o_mul (vr 3) (vr 3)) (vr 1))))) (ess_one (es_ret ev_bl)) ess_nil)
  · exact (es_par rfl nd rfl rfl (by decide) rfl rfl (ea_cons (o_sub (o_mul ev_int (vr 2)) (vr 3)) (ea_cons (o_add (o_mul ev_int (vr 2)) (vr 3)) ea_nil)) (by rfl))
  · exact (es_ret (ev_and (ev_or (q_lt (vr 4) ev_int) (ev_one (q_lt (o_mul (vr 4) (vr 4)) (vr 1)))) (ev_one (q_gt (o_mul (vr 5) (vr 5)) (vr 1)))))
abbrev s_l_all_reduced : Stmt := top 45
theorem sc_l_all_reduced : FnScope ["number", "found", "b", "rest", "a", "two"] ["number"] (defScope s_l_all_reduced) := ⟨rfl, rfl, rfl, by decide +kernel, rfl, by decide +kernel, by decide +kernel⟩
theorem ok_l_all_reduced {f : Addr} {fd : FuncData} (F : Fun K "_law_all_reduced" "_law_all_reduced" s_l_all_reduced f fd) (t : Tx P K mg C fI a_UNIT a_RING_MOST) (c_l_gcd : CalG P w K mg base 1 "_law_gcd" m_l_gcd) (c_l_divisors : CalG P w K mg base 1 "_law_divisors" m_l_divisors) (c_l_is_reduced : CalG P w K mg base 1 "_law_is_reduced" m_l_is_reduced) : FnG P w K mg base 2 f fd ["number"] m_l_all_reduced := by
  refine fnG_of (k := 1) F sc_l_all_reduced rfl rfl (by decide) fun cdv A outer s H E hr hgd => ?_
  have nd := sc_l_all_reduced.nd
  have tk : Takes (cxOf (L2.CX P w) P w K mg base ["number", "found", "b", "rest", "a", "two"] "_law_all_reduced" (defScope s_l_all_reduced) f cdv A outer s H E) (WXof E) := takes_of rfl rfl rfl rfl
  have po : PassesOwn (model (cxOf (L2.CX P w) P w K mg base ["number", "found", "b", "rest", "a", "two"] "_law_all_reduced" (defScope s_l_all_reduced) f cdv A outer s H E).prog (cxOf (L2.CX P w) P w K mg base ["number", "found", "b", "rest", "a", "two"] "_law_all_reduced" (defScope s_l_all_reduced) f cdv A outer s H E).w) (cxOf (L2.CX P w) P w K mg base ["number", "found", "b", "rest", "a", "two"] "_law_all_reduced" (defScope s_l_all_reduced) f cdv A outer s H E).A (cxOf (L2.CX P w) P w K mg base ["number", "found", "b", "rest", "a", "two"] "_law_all_reduced" (defScope s_l_all_reduced) f cdv A outer s H E).env (cxOf (L2.CX P w) P w K mg base ["number", "found", "b", "rest", "a", "two"] "_law_all_reduced" (defScope s_l_all_reduced) f cdv A outer s H E).xe := passes_of rfl
  refine ess_cons ?_ (ess_cons ?_ (ess_cons ?_ (ess_one ?_)))
  · exact (es_set nd rfl (by first | exact .inl rfl | exact .inr rfl) (ev_cel ea_nil))
  · exact (es_set nd rfl (by first | exact .inl rfl | exact .inr rfl) ev_int)
  · exact (es_while po (t_lt (o_mul (vr 2) (vr 2)) (vr 0)) (ess_cons (es_if (t_eq hr (o_mod (o_sub (vr 0) (o_mul (vr 2) (vr 2))) ev_int) ev_int) (ess_cons (es_set nd rfl (by first | exact .inl rfl | exact .inr rfl) (o_fdiv (o_sub (vr 0) (o_mul (vr 2) (vr 2))) ev_int)) (ess_one (es_for po rfl (ei_seq (ev_cl c_l_divisors hr (by decide) hgd tk (ea_cons (vr 3) ea_nil))) (eg_name nd rfl (by first | exact .inl rfl | exact .inr rfl)) (ess_one (es_for po rfl (ei_seq (ev_lst (ea_cons (ev_tup (ea_cons (vr 4) (ea_cons (vr 2) (ea_cons (o_sub ev_int (o_fdiv (vr 3) (vr 4))) ea_nil)))) (ea_cons (ev_tup (ea_cons (o_sub ev_int (vr 4)) (ea_cons (vr 2) (ea_cons (o_fdiv (vr 3) (vr 4)) ea_nil)))) ea_nil)))) (eg_name nd rfl (by first | exact .inl rfl | exact .inr rfl)) (ess_one (es_if (et_W (ew_and (et_tru (ev_cl c_l_is_reduced hr (by decide) hgd tk (ea_cons (vr 5) (ea_cons (vr 0) ea_nil)))) (ew_and1 (t_eq hr (ev_cl c_l_gcd hr (by decide) hgd tk (ea_cons (ev_cl c_l_gcd hr (by decide) hgd tk (ea_cons (vr 4) (ea_cons (vr 2) ea_nil))) (ea_cons (ev_ix (vr 5) ev_int) ea_nil))) ev_int)))) (ess_one (es_expr (ev_app (vr 1) (vr 5)))) ess_nil))))))) ess_nil) (ess_one (es_set nd rfl (by first | exact .inl rfl | exact .inr rfl) (o_add (vr 2) ev_int)))))
  · exact (es_ret (b_sorted hr t.z_sorted (ea_cons (vr 1) ea_nil)))
abbrev s_l_right : Stmt := top 46
theorem sc_l_right : FnScope ["two", "number", "a", "b", "c", "size", "root_v", "middle"] ["two", "number"] (defScope s_l_right) := ⟨rfl, rfl, rfl, by decide +kernel, rfl, by decide +kernel, by decide +kernel⟩
theorem ok_l_right {f : Addr} {fd : FuncData} (F : Fun K "_law_right" "_law_right" s_l_right f fd) (t : Tx P K mg C fI a_UNIT a_RING_MOST) (c_l_root : CalG P w K mg base 1 "_law_root" m_l_root) : FnG P w K mg base 2 f fd ["two", "number"] m_l_right := by
  refine fnG_of (k := 1) F sc_l_right rfl rfl (by decide) fun cdv A outer s H E hr hgd => ?_
  have nd := sc_l_right.nd
  have tk : Takes (cxOf (L2.CX P w) P w K mg base ["two", "number", "a", "b", "c", "size", "root_v", "middle"] "_law_right" (defScope s_l_right) f cdv A outer s H E) (WXof E) := takes_of rfl rfl rfl rfl
  have po : PassesOwn (model (cxOf (L2.CX P w) P w K mg base ["two", "number", "a", "b", "c", "size", "root_v", "middle"] "_law_right" (defScope s_l_right) f cdv A outer s H E).prog (cxOf (L2.CX P w) P w K mg base ["two", "number", "a", "b", "c", "size", "root_v", "middle"] "_law_right" (defScope s_l_right) f cdv A outer s H E).w) (cxOf (L2.CX P w) P w K mg base ["two", "number", "a", "b", "c", "size", "root_v", "middle"] "_law_right" (defScope s_l_right) f cdv A outer s H E).A (cxOf (L2.CX P w) P w K mg base ["two", "number", "a", "b", "c", "size", "root_v", "middle"] "_law_right" (defScope s_l_right) f cdv A outer s H E).env (cxOf (L2.CX P w) P w K mg base ["two", "number", "a", "b", "c", "size", "root_v", "middle"] "_law_right" (defScope s_l_right) f cdv A outer s H E).xe := passes_of rfl
  refine ess_cons ?_ (ess_cons ?_ (ess_cons ?_ (ess_cons ?_ (ess_one ?_))))
  · exact (es_asg (vr 0) (eg_tup rfl (egs_cons (eg_name nd rfl (by first | exact .inl rfl | exact .inr rfl)) (egs_cons (eg_name nd rfl (by first | exact .inl rfl | exact .inr rfl)) (egs_cons (eg_name nd rfl (by first | exact .inl rfl | exact .inr rfl)) egs_nil)))))
  · exact (es_set nd rfl (by first | exact .inl rfl | exact .inr rfl) (o_mul ev_int (b_abs t.z_abs (ea_cons (vr 4) ea_nil))))
  · exact (es_set nd rfl (by first | exact .inl rfl | exact .inr rfl) (ev_cl c_l_root hr (by decide) hgd tk (ea_cons (vr 1) ea_nil)))
  · exact (es_set nd rfl (by first | exact .inl rfl | exact .inr rfl) (o_sub (vr 6) (o_modN (o_add (vr 6) (vr 3)) (vr 5))))
  · exact (es_ret (ev_tup (ea_cons (vr 4) (ea_cons (vr 7) (ea_cons (o_fdivN (o_sub (o_mul (vr 7) (vr 7)) (vr 1)) (o_mul ev_int (vr 4))) ea_nil)))))
abbrev s_l_law : Stmt := top 47
theorem sc_l_law : FnScope ["script", "box", "number", "e", "told", "every", "one", "rows", "own", "two", "found", "change", "strange", "answer", "paper", "t", "u", "k", "value"] ["script"] (defScope s_l_law) := ⟨rfl, rfl, rfl, by decide +kernel, rfl, by decide +kernel, by decide +kernel⟩
theorem ok_l_law {f : Addr} {fd : FuncData} (F : Fun K "law" "law" s_l_law f fd) (t : Tx P K mg C fI a_UNIT a_RING_MOST) (c_two_changed : CalG P w K mg base 2 "two_changed" m_two_changed) (c_ring_reduced : CalG P w K mg base 5 "ring_reduced" m_ring_reduced) (c_ring : CalG P w K mg base 6 "ring" m_ring) (c_rings : CalG P w K mg base 7 "rings" m_rings) (c_are_rung : CalG P w K mg base 7 "are_rung" m_are_rung) (c_pell : CalG P w K mg base 6 "pell" m_pell) (c_l_digits : CalG P w K mg base 2 "_law_digits" m_l_digits) (c_l_draw : CalG P w K mg base 1 "_law_draw" m_l_draw) (c_l_pick : CalG P w K mg base 2 "_law_pick" m_l_pick) (c_l_same : CalG P w K mg base 1 "_law_same" m_l_same) (c_l_det : CalG P w K mg base 4 "_law_det" (m_l_det 3)) (c_l_change : CalG P w K mg base 3 "_law_change" m_l_change) (c_l_root : CalG P w K mg base 1 "_law_root" m_l_root) (c_l_all_reduced : CalG P w K mg base 2 "_law_all_reduced" m_l_all_reduced) (c_l_right : CalG P w K mg base 2 "_law_right" m_l_right) : FnG P w K mg base 8 f fd ["script"] m_l_law := by
  refine fnG_of (k := 7) F sc_l_law rfl rfl (by decide) fun cdv A outer s H E hr hgd => ?_
  have nd := sc_l_law.nd
  have tk : Takes (cxOf (L2.CX P w) P w K mg base ["script", "box", "number", "e", "told", "every", "one", "rows", "own", "two", "found", "change", "strange", "answer", "paper", "t", "u", "k", "value"] "law" (defScope s_l_law) f cdv A outer s H E) (WXof E) := takes_of rfl rfl rfl rfl
  have po : PassesOwn (model (cxOf (L2.CX P w) P w K mg base ["script", "box", "number", "e", "told", "every", "one", "rows", "own", "two", "found", "change", "strange", "answer", "paper", "t", "u", "k", "value"] "law" (defScope s_l_law) f cdv A outer s H E).prog (cxOf (L2.CX P w) P w K mg base ["script", "box", "number", "e", "told", "every", "one", "rows", "own", "two", "found", "change", "strange", "answer", "paper", "t", "u", "k", "value"] "law" (defScope s_l_law) f cdv A outer s H E).w) (cxOf (L2.CX P w) P w K mg base ["script", "box", "number", "e", "told", "every", "one", "rows", "own", "two", "found", "change", "strange", "answer", "paper", "t", "u", "k", "value"] "law" (defScope s_l_law) f cdv A outer s H E).A (cxOf (L2.CX P w) P w K mg base ["script", "box", "number", "e", "told", "every", "one", "rows", "own", "two", "found", "change", "strange", "answer", "paper", "t", "u", "k", "value"] "law" (defScope s_l_law) f cdv A outer s H E).env (cxOf (L2.CX P w) P w K mg base ["script", "box", "number", "e", "told", "every", "one", "rows", "own", "two", "found", "change", "strange", "answer", "paper", "t", "u", "k", "value"] "law" (defScope s_l_law) f cdv A outer s H E).xe := passes_of rfl
  refine ess_cons ?_ (ess_cons ?_ (ess_cons ?_ (ess_cons ?_ (ess_cons ?_ (ess_cons ?_ (ess_cons ?_ (ess_cons ?_ (ess_cons ?_ (ess_cons ?_ (ess_cons ?_ (ess_cons ?_ (ess_cons ?_ (ess_cons ?_ (ess_cons ?_ (ess_cons ?_ (ess_cons ?_ (ess_cons ?_ (ess_cons ?_ (ess_cons ?_ (ess_cons ?_ (ess_one ?_)))))))))))))))))))))
  · exact (es_set nd rfl (by first | exact .inl rfl | exact .inr rfl) (ev_cel (ea_cons (ev_cl c_l_digits hr (by decide) hgd tk (ea_cons (vr 0) (ea_cons ev_int (ea_cons ev_int ea_nil)))) (ea_cons ev_int ea_nil))))
  · exact (es_set nd rfl (by first | exact .inl rfl | exact .inr rfl) (o_add ev_int (ev_cl c_l_draw hr (by decide) hgd tk (ea_cons (vr 1) (ea_cons ev_int ea_nil)))))
  · exact (es_if (t_gt (o_mod (vr 2) ev_int) ev_int) (ess_one (es_set nd rfl (by first | exact .inl rfl | exact .inr rfl) (o_sub (o_add (vr 2) ev_int) (o_mod (vr 2) ev_int)))) ess_nil)
  · exact (es_if (t_eq hr (o_mul (ev_cl c_l_root hr (by decide) hgd tk (ea_cons (vr 2) ea_nil)) (ev_cl c_l_root hr (by decide) hgd tk (ea_cons (vr 2) ea_nil))) (vr 2)) (ess_cons (es_try t.x_BadTable rfl rfl nd rfl rfl (by rfl) ess_nil (fun W pn xe tk2 po => (ess_one (es_expr (ev_cl c_rings hr (by decide) hgd tk2 (ea_cons (vr 2) ea_nil))))) (fun e oe d pn hz hf => xss_one (xs_ret (xe_cmp (op_eqA (hu64m hr)) opd_eq (xe_reason t.x_BadTable hz hf rfl rfl (by first | exact Or.inl rfl | exact Or.inr (Or.inl rfl))) (xe_of ev_str) (nomark _))))) (ess_one (es_ret ev_bl))) ess_nil)
  · exact (es_set nd rfl (by first | exact .inl rfl | exact .inr rfl) (ev_cl c_rings hr (by decide) hgd tk (ea_cons (vr 2) ea_nil)))
  · exact (es_set nd rfl (by first | exact .inl rfl | exact .inr rfl) (ev_lst ea_nil))
  · exact (es_for po rfl (ei_seq (vr 4)) (eg_name nd rfl (by first | exact .inl rfl | exact .inr rfl)) (ess_cons (es_set nd rfl (by first | exact .inl rfl | exact .inr rfl) (o_add (vr 5) (b_list t.z_list (ea_cons (vr 6) ea_nil)))) (ess_one (es_if (et_W (ew_or (t_ne hr (ev_ix (vr 6) ev_int) (b_minR hr t.z_min (ea_cons (vr 6) ea_nil))) (ew_or1 (t_ne hr (ev_lc (own := [("k", 17)]) rfl nd (ei_rng1 (by rfl) t.z_range (ea_cons (b_len t.z_len (ea_cons (vr 6) ea_nil)) ea_nil)) (blkOk_by (by first | rfl | kernel_rfl)) (by decide) (fun _ _ _ _ _ => (eg_name nd rfl (by first | exact .inl rfl | exact .inr rfl))) (fun _ _ _ _ _ => (ets_one (t_ne hr (ev_cl c_l_right hr (by decide) hgd takes0 (ea_cons (ev_ix (vr 6) (vr 17)) (ea_cons (vr 2) ea_nil))) (ev_ix (vr 6) (o_mod (o_add (vr 17) ev_int) (b_len t.z_len (ea_cons (vr 6) ea_nil))))))) (fun _ _ _ _ _ => (vr 17))) (ev_lst ea_nil))))) (ess_one (es_ret ev_bl)) ess_nil))))
  · exact (es_if (et_W (ew_or (t_ne hr (b_sorted hr t.z_sorted (ea_cons (vr 5) ea_nil)) (ev_cl c_l_all_reduced hr (by decide) hgd tk (ea_cons (vr 2) ea_nil))) (ew_or1 (t_ne hr (b_list t.z_list (ea_cons (vr 4) ea_nil)) (b_sortT hr t.z_sorted (ea_cons (vr 4) ea_nil)))))) (ess_one (es_ret ev_bl)) ess_nil)
  · exact (es_set nd rfl (by first | exact .inl rfl | exact .inr rfl) (ev_cl c_l_change hr (by decide) hgd tk (ea_cons (vr 1) (ea_cons ev_int (ea_cons ev_int ea_nil)))))
  · exact (es_if (t_eq hr (ev_cl c_l_det hr (by decide) hgd tk (ea_cons (vr 7) ea_nil)) (o_neg ev_int)) (ess_one (es_set nd rfl (by first | exact .inl rfl | exact .inr rfl) (ev_tup (ea_cons (ev_ix (vr 7) ev_int) (ea_cons (ev_ix (vr 7) ev_int) ea_nil))))) ess_nil)
  · exact (es_set nd rfl (by first | exact .inl rfl | exact .inr rfl) (ev_cl c_l_pick hr (by decide) hgd tk (ea_cons (vr 1) (ea_cons (vr 4) ea_nil))))
  · exact (es_set nd rfl (by first | exact .inl rfl | exact .inr rfl) (ev_cl c_two_changed hr (by decide) hgd tk (ea_cons (ev_cl c_l_pick hr (by decide) hgd tk (ea_cons (vr 1) (ea_cons (vr 8) ea_nil))) (ea_cons (vr 7) ea_nil))))
  · exact (es_asg (ev_cl c_ring_reduced hr (by decide) hgd tk (ea_cons (vr 9) ea_nil)) (eg_tup rfl (egs_cons (eg_name nd rfl (by first | exact .inl rfl | exact .inr rfl)) (egs_cons (eg_name nd rfl (by first | exact .inl rfl | exact .inr rfl)) egs_nil))))
  · exact (es_if (et_W (ew_or (t_notin hr (vr 10) (vr 8)) (ew_or (t_ne hr (ev_cl c_l_det hr (by decide) hgd tk (ea_cons (vr 11) ea_nil)) ev_int) (ew_or (t_ne hr (ev_cl c_two_changed hr (by decide) hgd tk (ea_cons (vr 9) (ea_cons (vr 11) ea_nil))) (vr 10)) (ew_or1 (et_not (et_tru (ev_cl c_l_same hr (by decide) hgd tk (ea_cons (ev_cl c_ring hr (by decide) hgd tk (ea_cons (vr 9) ea_nil)) (ea_cons (vr 8) ea_nil)))))))))) (ess_one (es_ret ev_bl)) ess_nil)
  · exact (es_set nd rfl (by first | exact .inl rfl | exact .inr rfl) (ev_cl c_l_pick hr (by decide) hgd tk (ea_cons (vr 1) (ea_cons (ev_cl c_l_pick hr (by decide) hgd tk (ea_cons (vr 1) (ea_cons (vr 4) ea_nil))) ea_nil))))
  · exact (es_asg (ev_cl c_are_rung hr (by decide) hgd tk (ea_cons (vr 9) (ea_cons (vr 12) ea_nil))) (eg_tup rfl (egs_cons (eg_name nd rfl (by first | exact .inl rfl | exact .inr rfl)) (egs_cons (eg_name nd rfl (by first | exact .inl rfl | exact .inr rfl)) egs_nil))))
  · exact (es_if (et_not (et_tru (ev_cl c_l_same hr (by decide) hgd tk (ea_cons (vr 13) (ea_cons (q_in hr (vr 12) (vr 8)) ea_nil))))) (ess_one (es_ret ev_bl)) ess_nil)
  · exact (es_if (et_W (ew_or (et_W (ew_and (et_tru (vr 13)) (ew_and1 (et_W (ew_or (t_ne hr (ev_cl c_l_det hr (by decide) hgd tk (ea_cons (vr 14) ea_nil)) ev_int) (ew_or1 (t_ne hr (ev_cl c_two_changed hr (by decide) hgd tk (ea_cons (vr 9) (ea_cons (vr 14) ea_nil))) (vr 12)))))))) (ew_or1 (et_W (ew_and (et_not (et_tru (vr 13))) (ew_and1 (et_not (et_tru (ev_cl c_l_same hr (by decide) hgd tk (ea_cons (vr 14) (ea_cons (ev_tup (ea_cons (vr 8) (ea_cons (ev_cl c_ring hr (by decide) hgd tk (ea_cons (vr 12) ea_nil)) ea_nil))) ea_nil))))))))))) (ess_one (es_ret ev_bl)) ess_nil)
  · exact (es_asg (ev_cl c_pell hr (by decide) hgd tk (ea_cons (vr 2) ea_nil)) (eg_tup rfl (egs_cons (eg_name nd rfl (by first | exact .inl rfl | exact .inr rfl)) (egs_cons (eg_name nd rfl (by first | exact .inl rfl | exact .inr rfl)) egs_nil))))
  · exact (es_if (et_W (ew_or (t_lt (vr 15) ev_int) (ew_or (t_lt (vr 16) ev_int) (ew_or1 (t_ne hr (o_sub (o_mul (vr 15) (vr 15)) (o_mul (o_mul (vr 2) (vr 16)) (vr 16))) ev_int))))) (ess_one (es_ret ev_bl)) ess_nil)
  · exact (es_for po rfl (ei_rng2 (by rfl) t.z_range (ea_cons ev_int (ea_cons (b_min t.z_min (ea_cons (vr 16) (ea_cons ev_int ea_nil))) ea_nil))) (eg_name nd rfl (by first | exact .inl rfl | exact .inr rfl)) (ess_cons (es_set nd rfl (by first | exact .inl rfl | exact .inr rfl) (o_add (o_mul (o_mul (vr 2) (vr 17)) (vr 17)) ev_int)) (ess_one (es_if (t_eq hr (o_mul (ev_cl c_l_root hr (by decide) hgd tk (ea_cons (vr 18) ea_nil)) (ev_cl c_l_root hr (by decide) hgd tk (ea_cons (vr 18) ea_nil))) (vr 18)) (ess_one (es_ret ev_bl)) ess_nil))))
  · exact (es_ret ev_bl)
end
end K14
set_option exponentiation.threshold 3000
/-! k14, part L: the law's own call (printed by gen/k14l.py). -/
namespace K14
open PySem DL
theorem unit_pr {D : Int} : Pr (unitQ D) := by
  show gcdL [1, D % 2, (D % 2 - D) / 4] = 1
  unfold gcdL
  simp
theorem law_ok (ns : List Int) (hlen : ns.length ≤ 63) : ∃ M', m_l_law [.scr (ns.map .int)] [] = some (.ok (.bl true), M') := by
  unfold m_l_law f_l_law
  rw [mDef_1]
  rw [show start0 19 [D.scr (ns.map .int)] = [some (.scr (ns.map .int)), none, none, none, none, none, none, none, none, none, none, none, none, none, none, none, none, none, none] from rfl]
  obtain ⟨ds, hds⟩ := digits_is (M := []) (ns := ns)
  rw [sSeq_nx (en1 := [some (.scr (ns.map .int)), some (.cel 0), none, none, none, none, none, none, none, none, none, none, none, none, none, none, none, none, none]) (M1 := [Box ds 0]) (by simp [hds, Box])]
  -- number
  obtain ⟨r1, a1, b1, h1⟩ := drawB (ds := ds) (a := 0) (m := 600) (by omega) (by omega) (by omega)
  rw [sSeq_nx (en1 := [some (.scr (ns.map .int)), some (.cel 0), some (.int (5 + r1)), none, none, none, none, none, none, none, none, none, none, none, none, none, none, none, none]) (M1 := [Box ds 1]) (by
    simp only [sAsg_e, cOp_e, cC_e, cVar_e, cCall_e, aCons_e, aNil_e, List.getElem?_cons_zero, List.getElem?_cons_succ, bnd_ok, h1, gAddA_i, sbnd_ok, gN_e, List.set_cons_succ, List.set_cons_zero]
    rfl)]
  obtain ⟨n, hn⟩ : ∃ n : Int, n = if (5 + r1) % 4 > 1 then 5 + r1 + 4 - (5 + r1) % 4 else 5 + r1 := ⟨_, rfl⟩
  have hn1 : n % 4 ≤ 1 := by rw [hn]; split <;> omega
  have hn2 : 5 ≤ n := by rw [hn]; split <;> omega
  have hn3 : n ≤ 604 := by rw [hn]; split <;> omega
  have hs2 : sIf (cTru (cOp gGt (cOp gMod (cVar 2) (cC (.int 4))) (cC (.int 1)))) (sAsg (cOp gSub (cOp gAddA (cVar 2) (cC (.int 4))) (cOp gMod (cVar 2) (cC (.int 4)))) (gN 2)) sSkip [some (.scr (ns.map .int)), some (.cel 0), some (.int (5 + r1)), none, none, none, none, none, none, none, none, none, none, none, none, none, none, none, none] [Box ds 1] = some (.nx [some (.scr (ns.map .int)), some (.cel 0), some (.int n), none, none, none, none, none, none, none, none, none, none, none, none, none, none, none, none], [Box ds 1]) := by
    have hm : modC (5 + r1) 4 = true := modC_of (by omega)
    rw [hn]
    by_cases h : (5 + r1) % 4 > 1
    · simp [h, hm]
    · simp [h, hm]
  rw [sSeq_nx hs2]
  clear hn hs2
  have hroot := l_root_w (M := [Box ds 1]) (D := n) (by omega) (by omega)
  have hw := wN_le (D := n)
  have hmw : mulC (wN n : Int) (wN n : Int) = true := mul_w ⟨by omega, hw⟩
  by_cases hsq : (wN n : Int) * (wN n : Int) = n
  · -- a square
    have hif := st3_yes (M := [Box ds 1]) (en := [some (.scr (ns.map .int)), some (.cel 0), some (.int n), none, none, none, none, none, none, none, none, none, none, none, none, none, none, none, none]) rfl (by simp) hroot hmw hsq (rings_sq (M := [Box ds 1]) hn1 hn2 hn3 hsq)
    unfold st3 at hif
    refine ⟨[], ?_⟩
    rw [sSeq_rt hif, fin_rt]
    exact gcF_ok (L := [Box ds 1]) rfl rfl
  · -- no square
    have hD : Dn n := ⟨hn2, hn3, hn1, hsq⟩
    have hif := st3_no (M := [Box ds 1]) (en := [some (.scr (ns.map .int)), some (.cel 0), some (.int n), none, none, none, none, none, none, none, none, none, none, none, none, none, none, none, none]) rfl hroot hmw hsq
    unfold st3 at hif
    rw [sSeq_nx hif]
    have hrs := rings_is (M := [Box ds 1]) hD
    rw [sSeq_nx (en1 := [some (.scr (ns.map .int)), some (.cel 0), some (.int n), none, some (.tup ((TT n).map eRg)), none, none, none, none, none, none, none, none, none, none, none, none, none, none]) (M1 := [Box ds 1]) (by simp [hrs])]
    rw [sSeq_nx (en1 := [some (.scr (ns.map .int)), some (.cel 0), some (.int n), none, some (.tup ((TT n).map eRg)), some (.imm (([] : List Frm).map eF)), none, none, none, none, none, none, none, none, none, none, none, none, none]) (M1 := [Box ds 1]) (by simp)]
    -- each ring
    have hfl := flat_len hD
    obtain ⟨y6, hE⟩ := loopE (M := [Box ds 1]) hD (x0 := some (.scr (ns.map .int))) (x1 := some (.cel 0)) (x3 := none) (x4 := some (.tup ((TT n).map eRg))) (rest := [none, none, none, none, none, none, none, none, none, none, none, none]) (by decide) (TT n) [] none (fun r h => h) (by simp only [List.length_nil]; omega)
    rw [List.nil_append] at hE
    have hfor : sFor (iSeq (cVar 4)) (gN 6) bodE [some (.scr (ns.map .int)), some (.cel 0), some (.int n), none, some (.tup ((TT n).map eRg)), some (.imm (([] : List Frm).map eF)), none, none, none, none, none, none, none, none, none, none, none, none, none] [Box ds 1] = some (.nx [some (.scr (ns.map .int)), some (.cel 0), some (.int n), none, some (.tup ((TT n).map eRg)), some (.imm ((TT n).flatten.map eF)), y6, none, none, none, none, none, none, none, none, none, none, none, none], [Box ds 1]) := by
      have hi : iSeq (cVar 4) [some (.scr (ns.map .int)), some (.cel 0), some (.int n), none, some (.tup ((TT n).map eRg)), some (.imm (([] : List Frm).map eF)), none, none, none, none, none, none, none, none, none, none, none, none, none] [Box ds 1] = some (.ok ((TT n).map eRg), [Box ds 1]) := by simp
      rw [sFor_e, hi, sbnd_ok]
      exact hE
    unfold bodE at hfor
    rw [sSeq_nx hfor]
    -- both lists
    have hall := all_is (M := [Box ds 1]) hD
    have hso := gSort_of (M := [Box ds 1]) toPy_F (l := (TT n).flatten) (srt_F (by omega)) (d := .imm ((TT n).flatten.map eF)) rfl (fun _ z => nomatch z)
    rw [flat_sort hD] at hso
    have hst := gSortT_of (M := [Box ds 1]) toPy_Rg (l := TT n) (srt_Rg (TT_ne hD) (by have := TT_len hD; omega))
    rw [TT_sorted] at hst
    have hgl : gList [.tup ((TT n).map eRg)] [Box ds 1] = some (.ok (.imm ((TT n).map eRg)), [Box ds 1]) := rfl
    rw [sSeq_nx (en1 := [some (.scr (ns.map .int)), some (.cel 0), some (.int n), none, some (.tup ((TT n).map eRg)), some (.imm ((TT n).flatten.map eF)), y6, none, none, none, none, none, none, none, none, none, none, none, none]) (M1 := [Box ds 1]) (by
      rw [sIf_e, tOrC_e, cTru_e, cOp_e, cCall_e, aCons_e, cVar_e]
      simp only [List.getElem?_cons_zero, List.getElem?_cons_succ, bnd_ok, aNil_e, hso, cCall_e, aCons_e, cVar_e, hall, gEq_Fl, tru_bl, Bool.false_eq_true, if_false]
      rw [cTru_e, cOp_e, cCall_e, aCons_e, cVar_e]
      simp only [List.getElem?_cons_zero, List.getElem?_cons_succ, bnd_ok, aNil_e, hgl, cCall_e, aCons_e, cVar_e, hst, gEq_Rgs, tru_bl, sbnd_ok, Bool.false_eq_true, if_false]
      rfl)]
    -- rows
    obtain ⟨a', p, q, r, s, c1, c2, ch, h8⟩ := change_is (M := [Box ds 1]) (c := 0) (ds := ds) rfl (by omega) (by omega)
    have e0 : [Box ds 1].set 0 (Box ds a') = [Box ds a'] := rfl
    rw [e0] at h8
    rw [sSeq_nx (en1 := [some (.scr (ns.map .int)), some (.cel 0), some (.int n), none, some (.tup ((TT n).map eRg)), some (.imm ((TT n).flatten.map eF)), y6, some (eTab [[p, q], [r, s]]), none, none, none, none, none, none, none, none, none, none, none]) (M1 := [Box ds a']) (by simp [h8])]
    have sm : ∀ {x : Int}, -243 ≤ x → x ≤ 243 → Sm x := fun h1 h2 => ⟨by omega, by omega⟩
    have hdt := det2 (M := [Box ds a']) (sm ch.p1 ch.p2) (sm ch.q1 ch.q2) (sm ch.r1 ch.r2) (sm ch.s1 ch.s2)
    have key : ∃ u : Chg, u.det = 1 ∧ (-243 ≤ u.p ∧ u.p ≤ 243) ∧ (-243 ≤ u.q ∧ u.q ≤ 243) ∧ (-243 ≤ u.r ∧ u.r ≤ 243) ∧ (-243 ≤ u.s ∧ u.s ≤ 243) ∧ sIf (cTru (cOp (gEq false) (cCall (m_l_det 3) (aCons (cVar 7) aNil)) (cUn gNeg (cC (.int 1))))) (sAsg (cTup (aCons (cOp gIx (cVar 7) (cC (.int 1))) (aCons (cOp gIx (cVar 7) (cC (.int 0))) aNil))) (gN 7)) sSkip [some (.scr (ns.map .int)), some (.cel 0), some (.int n), none, some (.tup ((TT n).map eRg)), some (.imm ((TT n).flatten.map eF)), y6, some (eTab [[p, q], [r, s]]), none, none, none, none, none, none, none, none, none, none, none] [Box ds a'] = some (.nx [some (.scr (ns.map .int)), some (.cel 0), some (.int n), none, some (.tup ((TT n).map eRg)), some (.imm ((TT n).flatten.map eF)), y6, some (eC u), none, none, none, none, none, none, none, none, none, none, none], [Box ds a']) := by
      by_cases h : p * s - q * r = -1
      · refine ⟨⟨r, s, p, q⟩, by show r * q - s * p = 1; grind, ⟨ch.r1, ch.r2⟩, ⟨ch.s1, ch.s2⟩, ⟨ch.p1, ch.p2⟩, ⟨ch.q1, ch.q2⟩, ?_⟩
        simp [hdt, h, tab2, eC]
      · have hp : p * s - q * r = 1 := by rcases ch.det with z | z; exact z; exact absurd z h
        refine ⟨⟨p, q, r, s⟩, hp, ⟨ch.p1, ch.p2⟩, ⟨ch.q1, ch.q2⟩, ⟨ch.r1, ch.r2⟩, ⟨ch.s1, ch.s2⟩, ?_⟩
        simp [hdt, hp, eC]
    obtain ⟨u, ud, up, uq, ur, us, hsw⟩ := key
    rw [sSeq_nx hsw]
    clear hsw hdt h8
    -- own
    have hTne : TT n ≠ [] := by
      intro z
      obtain ⟨v, v1, v2, _⟩ := reduced_is (M := []) hD (unitQ_gap hD).1 ((unitQ_gap hD).2.mono (by omega))
      have hpu : Pr ((unitQ n).act v) := Pr.act v1 unit_pr
      have := mem_TT.mpr (rows_all hD (by rw [gap_act, v1, (unitQ_gap hD).1]; omega) v2 hpu)
      rw [z] at this
      exact nomatch this
    obtain ⟨own, hown, h10⟩ := pickU (enc := eRg) (l := TT n) (ds := ds) (a := a') (by omega) (by omega) hTne (fun _ => clo_eRg) (fun _ => rfl)
    rw [sSeq_nx (en1 := [some (.scr (ns.map .int)), some (.cel 0), some (.int n), none, some (.tup ((TT n).map eRg)), some (.imm ((TT n).flatten.map eF)), y6, some (eC u), some (eRg own), none, none, none, none, none, none, none, none, none, none]) (M1 := [Box ds (a' + 1)]) (by simp [h10])]
    obtain ⟨μ, m, eown, hper, hg, rg, hpr, hm, eown2, hle⟩ := TT_ring hD hown
    have hone : own ≠ [] := TT_ne hD own hown
    obtain ⟨f0, hf0, h11⟩ := pickU (enc := eF) (l := own) (ds := ds) (a := a' + 1) (by omega) (by omega) hone (fun _ => clo_eF) (fun _ => rfl)
    have h11' : m_l_pick [.cel 0, eRg own] [Box ds (a' + 1)] = some (.ok (eF f0), [Box ds (a' + 1 + 1)]) := h11
    rw [eown2] at hf0
    obtain ⟨fg, fr, fo⟩ := ringOf_mem hD hg rg hf0
    rw [← eown2] at hf0 fo
    obtain ⟨hb, husm, hbm⟩ := act_bd (n := n) (red_bq hD fg fr) up uq ur us
    obtain ⟨f, hf⟩ : ∃ f, f = f0.act u := ⟨_, rfl⟩
    rw [← hf] at hb
    have hfg : f.gap = n := by rw [hf, gap_act, ud, fg]; omega
    obtain ⟨a2, ha2⟩ : ∃ a2, a2 = a' + 1 + 1 := ⟨_, rfl⟩
    rw [← ha2] at h11'
    have hch : m_two_changed [eF f0, eC u] [Box ds a2] = some (.ok (eF f), [Box ds a2]) := by rw [hf]; exact changed_is hbm husm
    rw [sSeq_nx (en1 := [some (.scr (ns.map .int)), some (.cel 0), some (.int n), none, some (.tup ((TT n).map eRg)), some (.imm ((TT n).flatten.map eF)), y6, some (eC u), some (eRg own), some (eF f), none, none, none, none, none, none, none, none, none]) (M1 := [Box ds a2]) (by simp [h11', hch])]
    -- reduced
    obtain ⟨v, v1, v2, v3, hred⟩ := reduced_is (M := [Box ds a2]) hD hfg hb
    obtain ⟨s1, hs1⟩ : ∃ s1, s1 = f.act v := ⟨_, rfl⟩
    rw [← hs1] at v2 hred
    have hsg : s1.gap = n := by rw [hs1, gap_act, v1, hfg]; omega
    have hso1 : ringOf (wN n) s1 = own := by
      rw [fo.symm]
      refine ringOf_cl hD fg fr v2 (u := v.mul u) (by rw [det_mul, v1, ud]; rfl) ?_
      rw [hs1, hf, act_act]
    have hin : s1 ∈ own := by rw [← hso1]; exact (mem_ringOf hD hsg v2).mpr ⟨0, rfl⟩
    rw [sSeq_nx (en1 := [some (.scr (ns.map .int)), some (.cel 0), some (.int n), none, some (.tup ((TT n).map eRg)), some (.imm ((TT n).flatten.map eF)), y6, some (eC u), some (eRg own), some (eF f), some (eF s1), some (eC v), none, none, none, none, none, none, none]) (M1 := [Box ds a2]) (by simp [hred])]
    obtain ⟨v', w1, w2, hring⟩ := ring_is (M := [Box ds a2]) hD hfg hb
    have er1 : ringOf (wN n) (f.act v') = ringOf (wN n) s1 := ringOf_cl hD hsg v2 w2 (u := v'.mul v.inv) (by rw [det_mul, det_inv, w1, v1]; rfl) (by rw [hs1, ← act_act, act_inv f v v1])
    rw [er1, hso1] at hring
    have hok : RgOk n own := by rw [← hso1]; exact ring_ok hD hsg v2
    have hcv : m_two_changed [eF f, eC v] [Box ds a2] = some (.ok (eF s1), [Box ds a2]) := by rw [hs1]; exact szm (bq_sz hb) (by omega) (v3.mono (by omega))
    have h13 := st13_is (M := [Box ds a2]) (en := [some (.scr (ns.map .int)), some (.cel 0), some (.int n), none, some (.tup ((TT n).map eRg)), some (.imm ((TT n).flatten.map eF)), y6, some (eC u), some (eRg own), some (eF f), some (eF s1), some (eC v), none, none, none, none, none, none, none]) rfl rfl rfl rfl hin (det_big (by omega) v3 v1) hcv hring hok
    unfold st13 at h13
    rw [sSeq_nx h13]
    -- a strange one
    obtain ⟨r2, hr2, h14⟩ := pickU (enc := eRg) (l := TT n) (ds := ds) (a := a2) (by omega) (by omega) hTne (fun _ => clo_eRg) (fun _ => rfl)
    obtain ⟨g, hg2, h15⟩ := pickU (enc := eF) (l := r2) (ds := ds) (a := a2 + 1) (by omega) (by omega) (TT_ne hD r2 hr2) (fun _ => clo_eF) (fun _ => rfl)
    have h15' : m_l_pick [.cel 0, eRg r2] [Box ds (a2 + 1)] = some (.ok (eF g), [Box ds (a2 + 1 + 1)]) := h15
    obtain ⟨a3, ha3⟩ : ∃ a3, a3 = a2 + 1 + 1 := ⟨_, rfl⟩
    rw [← ha3] at h15'
    obtain ⟨μ2, m2', er2, _, kg, kr, _, _, er22, _⟩ := TT_ring hD hr2
    rw [er22] at hg2
    obtain ⟨gg, gr, go⟩ := ringOf_mem hD kg kr hg2
    rw [← er22] at hg2 go
    rw [sSeq_nx (en1 := [some (.scr (ns.map .int)), some (.cel 0), some (.int n), none, some (.tup ((TT n).map eRg)), some (.imm ((TT n).flatten.map eF)), y6, some (eC u), some (eRg own), some (eF f), some (eF s1), some (eC v), some (eF g), none, none, none, none, none, none]) (M1 := [Box ds a3]) (by simp [h14, h15'])]
    obtain ⟨v'', z1, z2, z3, hred3⟩ := reduced_is (M := [Box ds a3]) hD hfg hb
    obtain ⟨s2, hs2⟩ : ∃ s2, s2 = f.act v'' := ⟨_, rfl⟩
    rw [← hs2] at z2 hred3
    have hsg2 : s2.gap = n := by rw [hs2, gap_act, z1, hfg]; omega
    have hso2 : ringOf (wN n) s2 = own := by
      rw [fo.symm]
      refine ringOf_cl hD fg fr z2 (u := v''.mul u) (by rw [det_mul, z1, ud]; rfl) ?_
      rw [hs2, hf, act_act]
    obtain ⟨v4, x1, x2, hring3⟩ := ring_is (M := [Box ds a3]) hD hfg hb
    have er3 : ringOf (wN n) (f.act v4) = ringOf (wN n) s2 := ringOf_cl hD hsg2 z2 x2 (u := v4.mul v''.inv) (by rw [det_mul, det_inv, x1, z1]; rfl) (by rw [hs2, ← act_act, act_inv f v'' z1])
    rw [er3] at hring3
    obtain ⟨hyes, hno⟩ := rung_is (M := [Box ds a3]) hD hfg hb gg gr z1 hs2 z2 z3 hred3 hring3
    rw [hso2] at hyes hno
    -- Pell's numbers
    obtain ⟨T, U, hP, sT, sU, hpell⟩ := pell_is (M := [Box ds a3]) hD
    have rest_ok : ∀ (y13 y14 : Option D), ∃ M', gcF [] (fin (sSeq (sAsg (cCall m_pell (aCons (cVar 2) aNil)) (gTupC 2 (gConsC (gN 15) (gConsC (gN 16) gNilC)))) (sSeq st19 (sSeq (sFor (iRng2C (aCons (cC (.int 1)) (aCons (cCall gMin (aCons (cVar 16) (aCons (cC (.int 300)) aNil))) aNil))) (gN 17) bodK) (sRet (cC (.bl true))))) [some (.scr (ns.map .int)), some (.cel 0), some (.int n), none, some (.tup ((TT n).map eRg)), some (.imm ((TT n).flatten.map eF)), y6, some (eC u), some (eRg own), some (eF f), some (eF s1), some (eC v), some (eF g), y13, y14, none, none, none, none] [Box ds a3])) = some (.ok (.bl true), M') := by
      intro y13 y14
      rw [sSeq_nx (en1 := [some (.scr (ns.map .int)), some (.cel 0), some (.int n), none, some (.tup ((TT n).map eRg)), some (.imm ((TT n).flatten.map eF)), y6, some (eC u), some (eRg own), some (eF f), some (eF s1), some (eC v), some (eF g), y13, y14, some (.int T), some (.int U), none, none]) (M1 := [Box ds a3]) (by simp [hpell])]
      have hsn : Sz 11 n := by
        unfold Sz
        have e : (2 : Nat) ^ 11 = 2048 := by decide
        rw [e]; omega
      rw [sSeq_nx (st19_is (M := [Box ds a3]) (en := [some (.scr (ns.map .int)), some (.cel 0), some (.int n), none, some (.tup ((TT n).map eRg)), some (.imm ((TT n).flatten.map eF)), y6, some (eC u), some (eRg own), some (eF f), some (eF s1), some (eC v), some (eF g), y13, y14, some (.int T), some (.int U), none, none]) rfl rfl rfl hP (mulC_sz sT sT (by omega)) (mulC_sz hsn sU (by omega)) (mulC_sz (hsn.mul sU) sU (by omega)))]
      obtain ⟨mU, hmU⟩ : ∃ mU : Int, mU = if 300 < U then 300 else U := ⟨_, rfl⟩
      have hmU1 : 1 ≤ mU ∧ mU ≤ 300 ∧ mU ≤ U := by have := hP.u; rw [hmU]; split <;> omega
      have hgm : gMin [.int U, .int 300] [Box ds a3] = some (.ok (.int mU), [Box ds a3]) := by rw [hmU]; exact gMin_e
      obtain ⟨en2, hK⟩ := loopK (M := [Box ds a3]) (D := n) ⟨hn2, hn3⟩ (rgI 1 (mU - 1).toNat) [some (.scr (ns.map .int)), some (.cel 0), some (.int n), none, some (.tup ((TT n).map eRg)), some (.imm ((TT n).flatten.map eF)), y6, some (eC u), some (eRg own), some (eF f), some (eF s1), some (eC v), some (eF g), y13, y14, some (.int T), some (.int U), none, none] (fun k hk => by
        have hk := mem_rgI.mp hk
        exact ⟨⟨hk.1, by omega⟩, hP.least k hk.1 (by omega) (by omega)⟩) rfl (by simp)
      have hi : iRng2C (aCons (cC (.int 1)) (aCons (cCall gMin (aCons (cVar 16) (aCons (cC (.int 300)) aNil))) aNil)) [some (.scr (ns.map .int)), some (.cel 0), some (.int n), none, some (.tup ((TT n).map eRg)), some (.imm ((TT n).flatten.map eF)), y6, some (eC u), some (eRg own), some (eF f), some (eF s1), some (eC v), some (eF g), y13, y14, some (.int T), some (.int U), none, none] [Box ds a3] = some (.ok ((rgI 1 (mU - 1).toNat).map DL.D.int), [Box ds a3]) := by
        have hsmi : (smI 1 && smI mU) = true := by rw [smI_of (show -(2 ^ 62) ≤ mU by omega) (show mU < 2 ^ 62 by omega)]; decide
        rw [iRng2_e, aCons_e, cC_e, bnd_ok, aCons_e, cCall_e, aCons_e, cVar_e]
        simp only [List.getElem?_cons_zero, List.getElem?_cons_succ, bnd_ok, aCons_e, cC_e, aNil_e, hgm]
        rw [if_pos hsmi, rgD_eq]
      have hfk : sFor (iRng2C (aCons (cC (.int 1)) (aCons (cCall gMin (aCons (cVar 16) (aCons (cC (.int 300)) aNil))) aNil))) (gN 17) bodK [some (.scr (ns.map .int)), some (.cel 0), some (.int n), none, some (.tup ((TT n).map eRg)), some (.imm ((TT n).flatten.map eF)), y6, some (eC u), some (eRg own), some (eF f), some (eF s1), some (eC v), some (eF g), y13, y14, some (.int T), some (.int U), none, none] [Box ds a3] = some (.nx en2, [Box ds a3]) := by
        rw [sFor_e, hi, sbnd_ok]; exact hK
      rw [sSeq_nx hfk, sRet_e, cC_e, sbnd_ok, fin_rt]
      exact ⟨[], gcF_ok (L := [Box ds a3]) rfl rfl⟩
    have hrg := ring_self (M := [Box ds a3]) hD gg gr
    rw [go] at hrg
    by_cases hgin : g ∈ own
    · obtain ⟨V, k1, k2, k3, hru⟩ := hyes hgin
      rw [sSeq_nx (en1 := [some (.scr (ns.map .int)), some (.cel 0), some (.int n), none, some (.tup ((TT n).map eRg)), some (.imm ((TT n).flatten.map eF)), y6, some (eC u), some (eRg own), some (eF f), some (eF s1), some (eC v), some (eF g), some (.bl true), some (eC V), none, none, none, none]) (M1 := [Box ds a3]) (by simp [hru])]
      have h16 := st16_is (M := [Box ds a3]) (own := own) (g := g) (en := [some (.scr (ns.map .int)), some (.cel 0), some (.int n), none, some (.tup ((TT n).map eRg)), some (.imm ((TT n).flatten.map eF)), y6, some (eC u), some (eRg own), some (eF f), some (eF s1), some (eC v), some (eF g), some (.bl true), some (eC V), none, none, none, none]) rfl rfl (by rw [decide_eq_true hgin]; rfl)
      unfold st16 at h16
      rw [sSeq_nx h16]
      have h17 := st17_yes (M := [Box ds a3]) (f := f) (g := g) (V := V) (en := [some (.scr (ns.map .int)), some (.cel 0), some (.int n), none, some (.tup ((TT n).map eRg)), some (.imm ((TT n).flatten.map eF)), y6, some (eC u), some (eRg own), some (eF f), some (eF s1), some (eC v), some (eF g), some (.bl true), some (eC V), none, none, none, none]) rfl rfl rfl rfl (det_big (by omega) k3 k1) (by rw [← k2]; exact szm (bq_sz hb) (by omega) k3)
      unfold st17 at h17
      rw [sSeq_nx h17]
      exact rest_ok _ _
    · have hru := hno hgin
      have hne : own ≠ r2 := fun z => hgin (by rw [z]; exact hg2)
      have hl2 := two_len hown hr2 hne
      rw [go] at hru
      rw [sSeq_nx (en1 := [some (.scr (ns.map .int)), some (.cel 0), some (.int n), none, some (.tup ((TT n).map eRg)), some (.imm ((TT n).flatten.map eF)), y6, some (eC u), some (eRg own), some (eF f), some (eF s1), some (eC v), some (eF g), some (.bl false), some (.tup [eRg own, eRg r2]), none, none, none, none]) (M1 := [Box ds a3]) (by simp [hru])]
      have h16 := st16_is (M := [Box ds a3]) (own := own) (g := g) (en := [some (.scr (ns.map .int)), some (.cel 0), some (.int n), none, some (.tup ((TT n).map eRg)), some (.imm ((TT n).flatten.map eF)), y6, some (eC u), some (eRg own), some (eF f), some (eF s1), some (eC v), some (eF g), some (.bl false), some (.tup [eRg own, eRg r2]), none, none, none, none]) rfl rfl (by rw [decide_eq_false hgin]; rfl)
      unfold st16 at h16
      rw [sSeq_nx h16]
      have h17 := st17_no (M := [Box ds a3]) (D := n) (own := own) (r2 := r2) (g := g) (en := [some (.scr (ns.map .int)), some (.cel 0), some (.int n), none, some (.tup ((TT n).map eRg)), some (.imm ((TT n).flatten.map eF)), y6, some (eC u), some (eRg own), some (eF f), some (eF s1), some (eC v), some (eF g), some (.bl false), some (.tup [eRg own, eRg r2]), none, none, none, none]) rfl rfl rfl rfl hrg hok (by rw [er22]; exact ring_ok hD kg kr) (by omega)
      unfold st17 at h17
      rw [sSeq_nx h17]
      exact rest_ok _ _
end K14
set_option maxHeartbeats 4000000
namespace K14
open PySem PySem.Spec PyProof.Rows L2 DL
theorem exm_self {K : PySem.W.Frag} {S : Addr} (h1 : PySem.W.subIn K (.ref S) (.type "BaseException") = some true) (h2 : PySem.W.isClsIn K S = true) (h3 : PySem.W.typeIn K (.ref S) = some (.type "type")) (h4 : PySem.W.subIn K (.ref S) (.ref S) = some true) :
    PySem.W.exmOne K (.ref S) (.ref S) = some true := by
  have e1 : (PySem.W.subIn K (.ref S) (.type "BaseException") == some true) = true := by rw [h1] <;> rfl
  have e2 : ((PySem.W.clsIn K S).isSome && PySem.W.typeIn K (.ref S) == some (.type "type")) = true := by
    have h2' : (PySem.W.clsIn K S).isSome = true := h2
    rw [h2', h3] <;> rfl
  show (if (PySem.W.subIn K (.ref S) (.type "BaseException") == some true) = true then (if ((PySem.W.clsIn K S).isSome && PySem.W.typeIn K (.ref S) == some (.type "type")) = true then PySem.W.subIn K (.ref S) (.ref S) else none) else none) = some true
  rw [if_pos e1, if_pos e2]
  exact h4
theorem all_mk {w : World} {K : PySem.W.Frag} {h : Heap} {mg : Str → Option Value} {fa C fI cda cc : Addr}
    {f0 : Addr} {od0 an0 : Option Addr} {sl0 : Array (Option Value)} {oc0 kV0 dc0 pm0 cd0 ct0 : Value}
    {f1 : Addr} {od1 an1 : Option Addr} {sl1 : Array (Option Value)} {oc1 kV1 dc1 pm1 cd1 ct1 : Value}
    {f2 : Addr} {od2 an2 : Option Addr} {sl2 : Array (Option Value)} {oc2 kV2 dc2 pm2 cd2 ct2 : Value}
    {f3 : Addr} {od3 an3 : Option Addr} {sl3 : Array (Option Value)} {oc3 kV3 dc3 pm3 cd3 ct3 : Value}
    {f4 : Addr} {od4 an4 : Option Addr} {sl4 : Array (Option Value)} {oc4 kV4 dc4 pm4 cd4 ct4 : Value}
    {f5 : Addr} {od5 an5 : Option Addr} {sl5 : Array (Option Value)} {oc5 kV5 dc5 pm5 cd5 ct5 : Value}
    {f6 : Addr} {od6 an6 : Option Addr} {sl6 : Array (Option Value)} {oc6 kV6 dc6 pm6 cd6 ct6 : Value}
    {f7 : Addr} {od7 an7 : Option Addr} {sl7 : Array (Option Value)} {oc7 kV7 dc7 pm7 cd7 ct7 : Value}
    {f8 : Addr} {od8 an8 : Option Addr} {sl8 : Array (Option Value)} {oc8 kV8 dc8 pm8 cd8 ct8 : Value}
    {f9 : Addr} {od9 an9 : Option Addr} {sl9 : Array (Option Value)} {oc9 kV9 dc9 pm9 cd9 ct9 : Value}
    {f10 : Addr} {od10 an10 : Option Addr} {sl10 : Array (Option Value)} {oc10 kV10 dc10 pm10 cd10 ct10 : Value}
    {f11 : Addr} {od11 an11 : Option Addr} {sl11 : Array (Option Value)} {oc11 kV11 dc11 pm11 cd11 ct11 : Value}
    {f12 : Addr} {od12 an12 : Option Addr} {sl12 : Array (Option Value)} {oc12 kV12 dc12 pm12 cd12 ct12 : Value}
    {f13 : Addr} {od13 an13 : Option Addr} {sl13 : Array (Option Value)} {oc13 kV13 dc13 pm13 cd13 ct13 : Value}
    {f14 : Addr} {od14 an14 : Option Addr} {sl14 : Array (Option Value)} {oc14 kV14 dc14 pm14 cd14 ct14 : Value}
    {f15 : Addr} {od15 an15 : Option Addr} {sl15 : Array (Option Value)} {oc15 kV15 dc15 pm15 cd15 ct15 : Value}
    {f16 : Addr} {od16 an16 : Option Addr} {sl16 : Array (Option Value)} {oc16 kV16 dc16 pm16 cd16 ct16 : Value}
    {f17 : Addr} {od17 an17 : Option Addr} {sl17 : Array (Option Value)} {oc17 kV17 dc17 pm17 cd17 ct17 : Value}
    {f18 : Addr} {od18 an18 : Option Addr} {sl18 : Array (Option Value)} {oc18 kV18 dc18 pm18 cd18 ct18 : Value}
    {f19 : Addr} {od19 an19 : Option Addr} {sl19 : Array (Option Value)} {oc19 kV19 dc19 pm19 cd19 ct19 : Value}
    {f20 : Addr} {od20 an20 : Option Addr} {sl20 : Array (Option Value)} {oc20 kV20 dc20 pm20 cd20 ct20 : Value}
    {f21 : Addr} {od21 an21 : Option Addr} {sl21 : Array (Option Value)} {oc21 kV21 dc21 pm21 cd21 ct21 : Value}
    {f22 : Addr} {od22 an22 : Option Addr} {sl22 : Array (Option Value)} {oc22 kV22 dc22 pm22 cd22 ct22 : Value}
    {f23 : Addr} {od23 an23 : Option Addr} {sl23 : Array (Option Value)} {oc23 kV23 dc23 pm23 cd23 ct23 : Value}
    {f24 : Addr} {od24 an24 : Option Addr} {sl24 : Array (Option Value)} {oc24 kV24 dc24 pm24 cd24 ct24 : Value}
    {f25 : Addr} {od25 an25 : Option Addr} {sl25 : Array (Option Value)} {oc25 kV25 dc25 pm25 cd25 ct25 : Value}
    {f26 : Addr} {od26 an26 : Option Addr} {sl26 : Array (Option Value)} {oc26 kV26 dc26 pm26 cd26 ct26 : Value}
    {f27 : Addr} {od27 an27 : Option Addr} {sl27 : Array (Option Value)} {oc27 kV27 dc27 pm27 cd27 ct27 : Value}
    {f28 : Addr} {od28 an28 : Option Addr} {sl28 : Array (Option Value)} {oc28 kV28 dc28 pm28 cd28 ct28 : Value}
    {f29 : Addr} {od29 an29 : Option Addr} {sl29 : Array (Option Value)} {oc29 kV29 dc29 pm29 cd29 ct29 : Value}
    {f30 : Addr} {od30 an30 : Option Addr} {sl30 : Array (Option Value)} {oc30 kV30 dc30 pm30 cd30 ct30 : Value}
    {f31 : Addr} {od31 an31 : Option Addr} {sl31 : Array (Option Value)} {oc31 kV31 dc31 pm31 cd31 ct31 : Value}
    {f32 : Addr} {od32 an32 : Option Addr} {sl32 : Array (Option Value)} {oc32 kV32 dc32 pm32 cd32 ct32 : Value}
    {f33 : Addr} {od33 an33 : Option Addr} {sl33 : Array (Option Value)} {oc33 kV33 dc33 pm33 cd33 ct33 : Value}
    {f34 : Addr} {od34 an34 : Option Addr} {sl34 : Array (Option Value)} {oc34 kV34 dc34 pm34 cd34 ct34 : Value}
    {f35 : Addr} {od35 an35 : Option Addr} {sl35 : Array (Option Value)} {oc35 kV35 dc35 pm35 cd35 ct35 : Value}
    {f36 : Addr} {od36 an36 : Option Addr} {sl36 : Array (Option Value)} {oc36 kV36 dc36 pm36 cd36 ct36 : Value}
    {a_UNIT : Value}
    {a_RING_MOST : Value}
    {nm q : Str} {NC : Addr} {bs bm : List Value} {sn : List Str} {sub : List Value} {ab : Bool} {col : Option Bool} {dd : Option Addr} {m0 m1 m2 m3 m5 : Option Value} {odI anI : Option Addr} {slI : Array (Option Value)} {ocI dcI pmI ctI : Value} {ccl cl : Value} {cdd cld : Option Addr} {ccs csl : Array (Option Value)} {vs : Array Value} {file : Str} {tf : Tok} (X : K.In h) (G : h.Ns mainGlobals mg) (hfa : mg "law" = some (.ref fa))
    (a0 : PySem.W.nsIn K mainGlobals "divisor" = some (some (.ref f0)))
    (l0 : K.lookup f0 = some ⟨oc0, od0, .func (PySem.W.fnOf "divisor" "divisor" (defArgs s_divisor) (defBody s_divisor) (defScope s_divisor) .none kV0 dc0 pm0 an0 cd0 ct0), sl0⟩)
    (c0 : PySem.W.codeIn K cd0 "divisor" = true)
    (k0 : PySem.W.keepIn K (.ref f0) = true)
    (a1 : PySem.W.nsIn K mainGlobals "divisor_of" = some (some (.ref f1)))
    (l1 : K.lookup f1 = some ⟨oc1, od1, .func (PySem.W.fnOf "divisor_of" "divisor_of" (defArgs s_divisor_of) (defBody s_divisor_of) (defScope s_divisor_of) .none kV1 dc1 pm1 an1 cd1 ct1), sl1⟩)
    (c1 : PySem.W.codeIn K cd1 "divisor_of" = true)
    (k1 : PySem.W.keepIn K (.ref f1) = true)
    (a2 : PySem.W.nsIn K mainGlobals "root" = some (some (.ref f2)))
    (l2 : K.lookup f2 = some ⟨oc2, od2, .func (PySem.W.fnOf "root" "root" (defArgs s_root) (defBody s_root) (defScope s_root) .none kV2 dc2 pm2 an2 cd2 ct2), sl2⟩)
    (c2 : PySem.W.codeIn K cd2 "root" = true)
    (k2 : PySem.W.keepIn K (.ref f2) = true)
    (a3 : PySem.W.nsIn K mainGlobals "is_whole" = some (some (.ref f3)))
    (l3 : K.lookup f3 = some ⟨oc3, od3, .func (PySem.W.fnOf "is_whole" "is_whole" (defArgs s_is_whole) (defBody s_is_whole) (defScope s_is_whole) .none kV3 dc3 pm3 an3 cd3 ct3), sl3⟩)
    (c3 : PySem.W.codeIn K cd3 "is_whole" = true)
    (k3 : PySem.W.keepIn K (.ref f3) = true)
    (a4 : PySem.W.nsIn K mainGlobals "is_row" = some (some (.ref f4)))
    (l4 : K.lookup f4 = some ⟨oc4, od4, .func (PySem.W.fnOf "is_row" "is_row" (defArgs s_is_row) (defBody s_is_row) (defScope s_is_row) .none kV4 dc4 pm4 an4 cd4 ct4), sl4⟩)
    (c4 : PySem.W.codeIn K cd4 "is_row" = true)
    (k4 : PySem.W.keepIn K (.ref f4) = true)
    (a5 : PySem.W.nsIn K mainGlobals "wide" = some (some (.ref f5)))
    (l5 : K.lookup f5 = some ⟨oc5, od5, .func (PySem.W.fnOf "wide" "wide" (defArgs s_wide) (defBody s_wide) (defScope s_wide) .none kV5 dc5 pm5 an5 cd5 ct5), sl5⟩)
    (c5 : PySem.W.codeIn K cd5 "wide" = true)
    (k5 : PySem.W.keepIn K (.ref f5) = true)
    (a6 : PySem.W.nsIn K mainGlobals "turned" = some (some (.ref f6)))
    (l6 : K.lookup f6 = some ⟨oc6, od6, .func (PySem.W.fnOf "turned" "turned" (defArgs s_turned) (defBody s_turned) (defScope s_turned) .none kV6 dc6 pm6 an6 cd6 ct6), sl6⟩)
    (c6 : PySem.W.codeIn K cd6 "turned" = true)
    (k6 : PySem.W.keepIn K (.ref f6) = true)
    (a7 : PySem.W.nsIn K mainGlobals "dot" = some (some (.ref f7)))
    (l7 : K.lookup f7 = some ⟨oc7, od7, .func (PySem.W.fnOf "dot" "dot" (defArgs s_dot) (defBody s_dot) (defScope s_dot) .none kV7 dc7 pm7 an7 cd7 ct7), sl7⟩)
    (c7 : PySem.W.codeIn K cd7 "dot" = true)
    (k7 : PySem.W.keepIn K (.ref f7) = true)
    (a8 : PySem.W.nsIn K mainGlobals "product" = some (some (.ref f8)))
    (l8 : K.lookup f8 = some ⟨oc8, od8, .func (PySem.W.fnOf "product" "product" (defArgs s_product) (defBody s_product) (defScope s_product) .none kV8 dc8 pm8 an8 cd8 ct8), sl8⟩)
    (c8 : PySem.W.codeIn K cd8 "product" = true)
    (k8 : PySem.W.keepIn K (.ref f8) = true)
    (a9 : PySem.W.nsIn K mainGlobals "is_two" = some (some (.ref f9)))
    (l9 : K.lookup f9 = some ⟨oc9, od9, .func (PySem.W.fnOf "is_two" "is_two" (defArgs s_is_two) (defBody s_is_two) (defScope s_is_two) .none kV9 dc9 pm9 an9 cd9 ct9), sl9⟩)
    (c9 : PySem.W.codeIn K cd9 "is_two" = true)
    (k9 : PySem.W.keepIn K (.ref f9) = true)
    (a10 : PySem.W.nsIn K mainGlobals "gap" = some (some (.ref f10)))
    (l10 : K.lookup f10 = some ⟨oc10, od10, .func (PySem.W.fnOf "gap" "gap" (defArgs s_gap) (defBody s_gap) (defScope s_gap) .none kV10 dc10 pm10 an10 cd10 ct10), sl10⟩)
    (c10 : PySem.W.codeIn K cd10 "gap" = true)
    (k10 : PySem.W.keepIn K (.ref f10) = true)
    (a11 : PySem.W.nsIn K mainGlobals "two_worth" = some (some (.ref f11)))
    (l11 : K.lookup f11 = some ⟨oc11, od11, .func (PySem.W.fnOf "two_worth" "two_worth" (defArgs s_two_worth) (defBody s_two_worth) (defScope s_two_worth) .none kV11 dc11 pm11 an11 cd11 ct11), sl11⟩)
    (c11 : PySem.W.codeIn K cd11 "two_worth" = true)
    (k11 : PySem.W.keepIn K (.ref f11) = true)
    (a12 : PySem.W.nsIn K mainGlobals "two_changed" = some (some (.ref f12)))
    (l12 : K.lookup f12 = some ⟨oc12, od12, .func (PySem.W.fnOf "two_changed" "two_changed" (defArgs s_two_changed) (defBody s_two_changed) (defScope s_two_changed) .none kV12 dc12 pm12 an12 cd12 ct12), sl12⟩)
    (c12 : PySem.W.codeIn K cd12 "two_changed" = true)
    (k12 : PySem.W.keepIn K (.ref f12) = true)
    (a13 : PySem.W.nsIn K mainGlobals "check_open" = some (some (.ref f13)))
    (l13 : K.lookup f13 = some ⟨oc13, od13, .func (PySem.W.fnOf "check_open" "check_open" (defArgs s_check_open) (defBody s_check_open) (defScope s_check_open) .none kV13 dc13 pm13 an13 cd13 ct13), sl13⟩)
    (c13 : PySem.W.codeIn K cd13 "check_open" = true)
    (k13 : PySem.W.keepIn K (.ref f13) = true)
    (a14 : PySem.W.nsIn K mainGlobals "is_ring_reduced" = some (some (.ref f14)))
    (l14 : K.lookup f14 = some ⟨oc14, od14, .func (PySem.W.fnOf "is_ring_reduced" "is_ring_reduced" (defArgs s_is_ring_reduced) (defBody s_is_ring_reduced) (defScope s_is_ring_reduced) .none kV14 dc14 pm14 an14 cd14 ct14), sl14⟩)
    (c14 : PySem.W.codeIn K cd14 "is_ring_reduced" = true)
    (k14 : PySem.W.keepIn K (.ref f14) = true)
    (a15 : PySem.W.nsIn K mainGlobals "next_form" = some (some (.ref f15)))
    (l15 : K.lookup f15 = some ⟨oc15, od15, .func (PySem.W.fnOf "next_form" "next_form" (defArgs s_next_form) (defBody s_next_form) (defScope s_next_form) .none kV15 dc15 pm15 an15 cd15 ct15), sl15⟩)
    (c15 : PySem.W.codeIn K cd15 "next_form" = true)
    (k15 : PySem.W.keepIn K (.ref f15) = true)
    (a16 : PySem.W.nsIn K mainGlobals "ring_reduced" = some (some (.ref f16)))
    (l16 : K.lookup f16 = some ⟨oc16, od16, .func (PySem.W.fnOf "ring_reduced" "ring_reduced" (defArgs s_ring_reduced) (defBody s_ring_reduced) (defScope s_ring_reduced) .none kV16 dc16 pm16 an16 cd16 ct16), sl16⟩)
    (c16 : PySem.W.codeIn K cd16 "ring_reduced" = true)
    (k16 : PySem.W.keepIn K (.ref f16) = true)
    (a17 : PySem.W.nsIn K mainGlobals "ring" = some (some (.ref f17)))
    (l17 : K.lookup f17 = some ⟨oc17, od17, .func (PySem.W.fnOf "ring" "ring" (defArgs s_ring) (defBody s_ring) (defScope s_ring) .none kV17 dc17 pm17 an17 cd17 ct17), sl17⟩)
    (c17 : PySem.W.codeIn K cd17 "ring" = true)
    (k17 : PySem.W.keepIn K (.ref f17) = true)
    (a18 : PySem.W.nsIn K mainGlobals "with_middle" = some (some (.ref f18)))
    (l18 : K.lookup f18 = some ⟨oc18, od18, .func (PySem.W.fnOf "with_middle" "with_middle" (defArgs s_with_middle) (defBody s_with_middle) (defScope s_with_middle) .none kV18 dc18 pm18 an18 cd18 ct18), sl18⟩)
    (c18 : PySem.W.codeIn K cd18 "with_middle" = true)
    (k18 : PySem.W.keepIn K (.ref f18) = true)
    (a19 : PySem.W.nsIn K mainGlobals "rings" = some (some (.ref f19)))
    (l19 : K.lookup f19 = some ⟨oc19, od19, .func (PySem.W.fnOf "rings" "rings" (defArgs s_rings) (defBody s_rings) (defScope s_rings) .none kV19 dc19 pm19 an19 cd19 ct19), sl19⟩)
    (c19 : PySem.W.codeIn K cd19 "rings" = true)
    (k19 : PySem.W.keepIn K (.ref f19) = true)
    (a20 : PySem.W.nsIn K mainGlobals "are_rung" = some (some (.ref f20)))
    (l20 : K.lookup f20 = some ⟨oc20, od20, .func (PySem.W.fnOf "are_rung" "are_rung" (defArgs s_are_rung) (defBody s_are_rung) (defScope s_are_rung) .none kV20 dc20 pm20 an20 cd20 ct20), sl20⟩)
    (c20 : PySem.W.codeIn K cd20 "are_rung" = true)
    (k20 : PySem.W.keepIn K (.ref f20) = true)
    (a21 : PySem.W.nsIn K mainGlobals "pell" = some (some (.ref f21)))
    (l21 : K.lookup f21 = some ⟨oc21, od21, .func (PySem.W.fnOf "pell" "pell" (defArgs s_pell) (defBody s_pell) (defScope s_pell) .none kV21 dc21 pm21 an21 cd21 ct21), sl21⟩)
    (c21 : PySem.W.codeIn K cd21 "pell" = true)
    (k21 : PySem.W.keepIn K (.ref f21) = true)
    (a22 : PySem.W.nsIn K mainGlobals "_law_cell" = some (some (.ref f22)))
    (l22 : K.lookup f22 = some ⟨oc22, od22, .func (PySem.W.fnOf "_law_cell" "_law_cell" (defArgs s_l_cell) (defBody s_l_cell) (defScope s_l_cell) .none kV22 dc22 pm22 an22 cd22 ct22), sl22⟩)
    (c22 : PySem.W.codeIn K cd22 "_law_cell" = true)
    (k22 : PySem.W.keepIn K (.ref f22) = true)
    (a23 : PySem.W.nsIn K mainGlobals "_law_digits" = some (some (.ref f23)))
    (l23 : K.lookup f23 = some ⟨oc23, od23, .func (PySem.W.fnOf "_law_digits" "_law_digits" (defArgs s_l_digits) (defBody s_l_digits) (defScope s_l_digits) .none kV23 dc23 pm23 an23 cd23 ct23), sl23⟩)
    (c23 : PySem.W.codeIn K cd23 "_law_digits" = true)
    (k23 : PySem.W.keepIn K (.ref f23) = true)
    (a24 : PySem.W.nsIn K mainGlobals "_law_draw" = some (some (.ref f24)))
    (l24 : K.lookup f24 = some ⟨oc24, od24, .func (PySem.W.fnOf "_law_draw" "_law_draw" (defArgs s_l_draw) (defBody s_l_draw) (defScope s_l_draw) .none kV24 dc24 pm24 an24 cd24 ct24), sl24⟩)
    (c24 : PySem.W.codeIn K cd24 "_law_draw" = true)
    (k24 : PySem.W.keepIn K (.ref f24) = true)
    (a25 : PySem.W.nsIn K mainGlobals "_law_pick" = some (some (.ref f25)))
    (l25 : K.lookup f25 = some ⟨oc25, od25, .func (PySem.W.fnOf "_law_pick" "_law_pick" (defArgs s_l_pick) (defBody s_l_pick) (defScope s_l_pick) .none kV25 dc25 pm25 an25 cd25 ct25), sl25⟩)
    (c25 : PySem.W.codeIn K cd25 "_law_pick" = true)
    (k25 : PySem.W.keepIn K (.ref f25) = true)
    (a26 : PySem.W.nsIn K mainGlobals "_law_same" = some (some (.ref f26)))
    (l26 : K.lookup f26 = some ⟨oc26, od26, .func (PySem.W.fnOf "_law_same" "_law_same" (defArgs s_l_same) (defBody s_l_same) (defScope s_l_same) .none kV26 dc26 pm26 an26 cd26 ct26), sl26⟩)
    (c26 : PySem.W.codeIn K cd26 "_law_same" = true)
    (k26 : PySem.W.keepIn K (.ref f26) = true)
    (a27 : PySem.W.nsIn K mainGlobals "_law_gcd" = some (some (.ref f27)))
    (l27 : K.lookup f27 = some ⟨oc27, od27, .func (PySem.W.fnOf "_law_gcd" "_law_gcd" (defArgs s_l_gcd) (defBody s_l_gcd) (defScope s_l_gcd) .none kV27 dc27 pm27 an27 cd27 ct27), sl27⟩)
    (c27 : PySem.W.codeIn K cd27 "_law_gcd" = true)
    (k27 : PySem.W.keepIn K (.ref f27) = true)
    (a28 : PySem.W.nsIn K mainGlobals "_law_det" = some (some (.ref f28)))
    (l28 : K.lookup f28 = some ⟨oc28, od28, .func (PySem.W.fnOf "_law_det" "_law_det" (defArgs s_l_det) (defBody s_l_det) (defScope s_l_det) .none kV28 dc28 pm28 an28 cd28 ct28), sl28⟩)
    (c28 : PySem.W.codeIn K cd28 "_law_det" = true)
    (k28 : PySem.W.keepIn K (.ref f28) = true)
    (a29 : PySem.W.nsIn K mainGlobals "_law_unit" = some (some (.ref f29)))
    (l29 : K.lookup f29 = some ⟨oc29, od29, .func (PySem.W.fnOf "_law_unit" "_law_unit" (defArgs s_l_unit) (defBody s_l_unit) (defScope s_l_unit) .none kV29 dc29 pm29 an29 cd29 ct29), sl29⟩)
    (c29 : PySem.W.codeIn K cd29 "_law_unit" = true)
    (k29 : PySem.W.keepIn K (.ref f29) = true)
    (a30 : PySem.W.nsIn K mainGlobals "_law_change" = some (some (.ref f30)))
    (l30 : K.lookup f30 = some ⟨oc30, od30, .func (PySem.W.fnOf "_law_change" "_law_change" (defArgs s_l_change) (defBody s_l_change) (defScope s_l_change) .none kV30 dc30 pm30 an30 cd30 ct30), sl30⟩)
    (c30 : PySem.W.codeIn K cd30 "_law_change" = true)
    (k30 : PySem.W.keepIn K (.ref f30) = true)
    (a31 : PySem.W.nsIn K mainGlobals "_law_root" = some (some (.ref f31)))
    (l31 : K.lookup f31 = some ⟨oc31, od31, .func (PySem.W.fnOf "_law_root" "_law_root" (defArgs s_l_root) (defBody s_l_root) (defScope s_l_root) .none kV31 dc31 pm31 an31 cd31 ct31), sl31⟩)
    (c31 : PySem.W.codeIn K cd31 "_law_root" = true)
    (k31 : PySem.W.keepIn K (.ref f31) = true)
    (a32 : PySem.W.nsIn K mainGlobals "_law_divisors" = some (some (.ref f32)))
    (l32 : K.lookup f32 = some ⟨oc32, od32, .func (PySem.W.fnOf "_law_divisors" "_law_divisors" (defArgs s_l_divisors) (defBody s_l_divisors) (defScope s_l_divisors) .none kV32 dc32 pm32 an32 cd32 ct32), sl32⟩)
    (c32 : PySem.W.codeIn K cd32 "_law_divisors" = true)
    (k32 : PySem.W.keepIn K (.ref f32) = true)
    (a33 : PySem.W.nsIn K mainGlobals "_law_is_reduced" = some (some (.ref f33)))
    (l33 : K.lookup f33 = some ⟨oc33, od33, .func (PySem.W.fnOf "_law_is_reduced" "_law_is_reduced" (defArgs s_l_is_reduced) (defBody s_l_is_reduced) (defScope s_l_is_reduced) .none kV33 dc33 pm33 an33 cd33 ct33), sl33⟩)
    (c33 : PySem.W.codeIn K cd33 "_law_is_reduced" = true)
    (k33 : PySem.W.keepIn K (.ref f33) = true)
    (a34 : PySem.W.nsIn K mainGlobals "_law_all_reduced" = some (some (.ref f34)))
    (l34 : K.lookup f34 = some ⟨oc34, od34, .func (PySem.W.fnOf "_law_all_reduced" "_law_all_reduced" (defArgs s_l_all_reduced) (defBody s_l_all_reduced) (defScope s_l_all_reduced) .none kV34 dc34 pm34 an34 cd34 ct34), sl34⟩)
    (c34 : PySem.W.codeIn K cd34 "_law_all_reduced" = true)
    (k34 : PySem.W.keepIn K (.ref f34) = true)
    (a35 : PySem.W.nsIn K mainGlobals "_law_right" = some (some (.ref f35)))
    (l35 : K.lookup f35 = some ⟨oc35, od35, .func (PySem.W.fnOf "_law_right" "_law_right" (defArgs s_l_right) (defBody s_l_right) (defScope s_l_right) .none kV35 dc35 pm35 an35 cd35 ct35), sl35⟩)
    (c35 : PySem.W.codeIn K cd35 "_law_right" = true)
    (k35 : PySem.W.keepIn K (.ref f35) = true)
    (a36 : PySem.W.nsIn K mainGlobals "law" = some (some (.ref f36)))
    (l36 : K.lookup f36 = some ⟨oc36, od36, .func (PySem.W.fnOf "law" "law" (defArgs s_l_law) (defBody s_l_law) (defScope s_l_law) .none kV36 dc36 pm36 an36 cd36 ct36), sl36⟩)
    (c36 : PySem.W.codeIn K cd36 "law" = true)
    (k36 : PySem.W.keepIn K (.ref f36) = true)
    (z_abs : PySem.W.nsIn K mainGlobals "abs" = some none)
    (z_all : PySem.W.nsIn K mainGlobals "all" = some none)
    (z_bool : PySem.W.nsIn K mainGlobals "bool" = some none)
    (z_int : PySem.W.nsIn K mainGlobals "int" = some none)
    (z_isinstance : PySem.W.nsIn K mainGlobals "isinstance" = some none)
    (z_len : PySem.W.nsIn K mainGlobals "len" = some none)
    (z_list : PySem.W.nsIn K mainGlobals "list" = some none)
    (z_min : PySem.W.nsIn K mainGlobals "min" = some none)
    (z_range : PySem.W.nsIn K mainGlobals "range" = some none)
    (z_repr : PySem.W.nsIn K mainGlobals "repr" = some none)
    (z_sorted : PySem.W.nsIn K mainGlobals "sorted" = some none)
    (z_sum : PySem.W.nsIn K mainGlobals "sum" = some none)
    (z_tuple : PySem.W.nsIn K mainGlobals "tuple" = some none)
    (z_zip : PySem.W.nsIn K mainGlobals "zip" = some none)
    (z_super : PySem.W.nsIn K mainGlobals "super" = some none)
    (g_UNIT : PySem.W.nsIn K mainGlobals "UNIT" = some (some a_UNIT))
    (k_UNIT : konB K a_UNIT k_UNIT = true)
    (g_RING_MOST : PySem.W.nsIn K mainGlobals "RING_MOST" = some (some a_RING_MOST))
    (k_RING_MOST : konB K a_RING_MOST k_RING_MOST = true)
    (xC : PySem.W.nsIn K mainGlobals "BadTable" = some (some (.ref C)))
    (xL : K.lookup C = some (excClassObj nm q C NC bs bm true sn sub ab col dd m0 m1 m2 m3 m5 "ValueError.__new__"))
    (xB : PySem.HandSPX.refsVE bm = true)
    (xsa : PySem.W.findIn K (.ref C) "__setattr__" = some (some (.builtin "object.__setattr__")))
    (xga : PySem.W.findIn K (.ref C) "__getattribute__" = some (some (.builtin "BaseException.__getattribute__")))
    (xgg : PySem.W.findIn K (.ref C) "__getattr__" = some none)
    (xno : PySem.W.findIn K (.ref C) "reason" = some none)
    (xiC : PySem.W.findIn K (.ref C) "__init__" = some (some (.ref fI)))
    (xtC : PySem.W.typeIn K (.ref fI) = some (.type "function"))
    (xkC : PySem.W.keepIn K (.ref C) = true)
    (xexC : PySem.W.subIn K (.ref C) (.type "BaseException") = some true)
    (xtyC : PySem.W.typeIn K (.ref C) = some (.type "type"))
    (xhdC : PySem.W.hasDictIn K C = true)
    (xiscl : PySem.W.isClsIn K C = true)
    (xself : PySem.W.subIn K (.ref C) (.ref C) = some true)
    (xve : PySem.W.subIn K (.ref C) (.type "ValueError") = some true)
    (xup : PySem.W.ks_superIn K C C "__init__" = some (some (.builtin "ValueError.__init__")))
    (xmr : PySem.W.mroIn K C (.ref C) = some true)
    (xany : PySem.W.nsIn K cStatics "thirdparty.any" = some none)
    (xlI : K.lookup fI = some ⟨ocI, odI, .func (PySem.W.ksFn "__init__" "BadTable.__init__" (PySem.BadX.bA ⟨6, 17, 6, 21⟩ ⟨6, 23, 6, 29⟩) (PySem.BadX.bB ⟨7, 8, 7, 13⟩ ⟨7, 8, 7, 15⟩ ⟨7, 8, 7, 24⟩ ⟨7, 25, 7, 31⟩ ⟨7, 8, 7, 32⟩ ⟨7, 8, 7, 32⟩ ⟨8, 8, 8, 12⟩ ⟨8, 8, 8, 19⟩ ⟨8, 22, 8, 28⟩ ⟨8, 8, 8, 28⟩) PySem.BadX.bS .none .none dcI pmI anI (.ref cda) ctI cc), slI⟩)
    (xcI : PySem.W.codeIn K (.ref cda) "BadTable.__init__" = true)
    (xcd : K.lookup cda = some ⟨ccl, cdd, .fields vs, ccs⟩)
    (xvs : vs[2]? = some (.str file tf))
    (xfile : ((PySem.Challenge.pw_everygrid_k14_rings_and_pell.main.file : Str) == file) = true)
    (xcc : K.lookup cc = some ⟨cl, cld, .cell (some (.ref C)), csl⟩) :
    ∃ fd : FuncData, (∀ (s : Shared) (u : Value), BindsTo s fd ⟨[u], []⟩ [("script", u)]) ∧ ∀ base : Heap, K.In base → base.Ns mainGlobals mg → FnG PySem.Challenge.pw_everygrid_k14_rings_and_pell w K mg base 8 fa fd ["script"] m_l_law := by
  have e := hfa.symm.trans (PySem.W.mg_of X G a36)
  cases e
  have x : PySem.BadX.BadTxt PySem.Challenge.pw_everygrid_k14_rings_and_pell K mg "BadTable" "BadTable.__init__" C fI := { gC := PySem.W.mg_of X G xC, cls := ⟨nm, q, NC, bs, bm, sn, sub, ab, col, dd, m0, m1, m2, m3, m5, xL, xB⟩, sa := xsa, ga := xga, gg := xgg, noN := xno, iC := xiC, tC := xtC, kC := xkC, exC := xexC, tyC := xtyC, hdC := xhdC, te := exm_self xexC xiscl xtyC xself, veC := xve, upC := xup, mrC := xmr, any := xany, sup := PySem.W.mg_none_of X G z_super, top := by decide +kernel, fn := ⟨_, _, _, _, _, _, _, _, _, _, _, _, _, _, _, _, _, _, _, _, _, _, _, _, _, _, _, _, _, _, xlI, xcI, xcd, xvs, xfile, xcc, ⟨_, fun _ => rfl⟩⟩ }
  have t : Tx PySem.Challenge.pw_everygrid_k14_rings_and_pell K mg C fI a_UNIT a_RING_MOST := ⟨PySem.W.mg_none_of X G z_abs, PySem.W.mg_none_of X G z_all, PySem.W.mg_none_of X G z_bool, PySem.W.mg_none_of X G z_int, PySem.W.mg_none_of X G z_isinstance, PySem.W.mg_none_of X G z_len, PySem.W.mg_none_of X G z_list, PySem.W.mg_none_of X G z_min, PySem.W.mg_none_of X G z_range, PySem.W.mg_none_of X G z_repr, PySem.W.mg_none_of X G z_sorted, PySem.W.mg_none_of X G z_sum, PySem.W.mg_none_of X G z_tuple, PySem.W.mg_none_of X G z_zip, PySem.W.mg_of X G g_UNIT, k_UNIT, PySem.W.mg_of X G g_RING_MOST, k_RING_MOST, x⟩
  have F0 := fun_mk (st := s_divisor) l0 c0 k0
  have b0 := F0.binds (ps := ["one", "other"]) fun _ _ _ _ _ _ us hl => match us, hl with | [_, _], _ => rfl
  have F1 := fun_mk (st := s_divisor_of) l1 c1 k1
  have b1 := F1.binds (ps := ["numbers"]) fun _ _ _ _ _ _ us hl => match us, hl with | [_], _ => rfl
  have F2 := fun_mk (st := s_root) l2 c2 k2
  have b2 := F2.binds (ps := ["number"]) fun _ _ _ _ _ _ us hl => match us, hl with | [_], _ => rfl
  have F3 := fun_mk (st := s_is_whole) l3 c3 k3
  have b3 := F3.binds (ps := ["number"]) fun _ _ _ _ _ _ us hl => match us, hl with | [_], _ => rfl
  have F4 := fun_mk (st := s_is_row) l4 c4 k4
  have b4 := F4.binds (ps := ["row"]) fun _ _ _ _ _ _ us hl => match us, hl with | [_], _ => rfl
  have F5 := fun_mk (st := s_wide) l5 c5 k5
  have b5 := F5.binds (ps := ["table"]) fun _ _ _ _ _ _ us hl => match us, hl with | [_], _ => rfl
  have F6 := fun_mk (st := s_turned) l6 c6 k6
  have b6 := F6.binds (ps := ["table"]) fun _ _ _ _ _ _ us hl => match us, hl with | [_], _ => rfl
  have F7 := fun_mk (st := s_dot) l7 c7 k7
  have b7 := F7.binds (ps := ["one", "other"]) fun _ _ _ _ _ _ us hl => match us, hl with | [_, _], _ => rfl
  have F8 := fun_mk (st := s_product) l8 c8 k8
  have b8 := F8.binds (ps := ["one", "other"]) fun _ _ _ _ _ _ us hl => match us, hl with | [_, _], _ => rfl
  have F9 := fun_mk (st := s_is_two) l9 c9 k9
  have b9 := F9.binds (ps := ["shape"]) fun _ _ _ _ _ _ us hl => match us, hl with | [_], _ => rfl
  have F10 := fun_mk (st := s_gap) l10 c10 k10
  have b10 := F10.binds (ps := ["two"]) fun _ _ _ _ _ _ us hl => match us, hl with | [_], _ => rfl
  have F11 := fun_mk (st := s_two_worth) l11 c11 k11
  have b11 := F11.binds (ps := ["two", "x", "y"]) fun _ _ _ _ _ _ us hl => match us, hl with | [_, _, _], _ => rfl
  have F12 := fun_mk (st := s_two_changed) l12 c12 k12
  have b12 := F12.binds (ps := ["two", "rows"]) fun _ _ _ _ _ _ us hl => match us, hl with | [_, _], _ => rfl
  have F13 := fun_mk (st := s_check_open) l13 c13 k13
  have b13 := F13.binds (ps := ["two"]) fun _ _ _ _ _ _ us hl => match us, hl with | [_], _ => rfl
  have F14 := fun_mk (st := s_is_ring_reduced) l14 c14 k14
  have b14 := F14.binds (ps := ["two"]) fun _ _ _ _ _ _ us hl => match us, hl with | [_], _ => rfl
  have F15 := fun_mk (st := s_next_form) l15 c15 k15
  have b15 := F15.binds (ps := ["two"]) fun _ _ _ _ _ _ us hl => match us, hl with | [_], _ => rfl
  have F16 := fun_mk (st := s_ring_reduced) l16 c16 k16
  have b16 := F16.binds (ps := ["two"]) fun _ _ _ _ _ _ us hl => match us, hl with | [_], _ => rfl
  have F17 := fun_mk (st := s_ring) l17 c17 k17
  have b17 := F17.binds (ps := ["two"]) fun _ _ _ _ _ _ us hl => match us, hl with | [_], _ => rfl
  have F18 := fun_mk (st := s_with_middle) l18 c18 k18
  have b18 := F18.binds (ps := ["b", "rest"]) fun _ _ _ _ _ _ us hl => match us, hl with | [_, _], _ => rfl
  have F19 := fun_mk (st := s_rings) l19 c19 k19
  have b19 := F19.binds (ps := ["number"]) fun _ _ _ _ _ _ us hl => match us, hl with | [_], _ => rfl
  have F20 := fun_mk (st := s_are_rung) l20 c20 k20
  have b20 := F20.binds (ps := ["two", "other"]) fun _ _ _ _ _ _ us hl => match us, hl with | [_, _], _ => rfl
  have F21 := fun_mk (st := s_pell) l21 c21 k21
  have b21 := F21.binds (ps := ["number"]) fun _ _ _ _ _ _ us hl => match us, hl with | [_], _ => rfl
  have F22 := fun_mk (st := s_l_cell) l22 c22 k22
  have b22 := F22.binds (ps := ["script", "k"]) fun _ _ _ _ _ _ us hl => match us, hl with | [_, _], _ => rfl
  have F23 := fun_mk (st := s_l_digits) l23 c23 k23
  have b23 := F23.binds (ps := ["script", "first", "last"]) fun _ _ _ _ _ _ us hl => match us, hl with | [_, _, _], _ => rfl
  have F24 := fun_mk (st := s_l_draw) l24 c24 k24
  have b24 := F24.binds (ps := ["box", "m"]) fun _ _ _ _ _ _ us hl => match us, hl with | [_, _], _ => rfl
  have F25 := fun_mk (st := s_l_pick) l25 c25 k25
  have b25 := F25.binds (ps := ["box", "rows"]) fun _ _ _ _ _ _ us hl => match us, hl with | [_, _], _ => rfl
  have F26 := fun_mk (st := s_l_same) l26 c26 k26
  have b26 := F26.binds (ps := ["one", "other"]) fun _ _ _ _ _ _ us hl => match us, hl with | [_, _], _ => rfl
  have F27 := fun_mk (st := s_l_gcd) l27 c27 k27
  have b27 := F27.binds (ps := ["one", "other"]) fun _ _ _ _ _ _ us hl => match us, hl with | [_, _], _ => rfl
  have F28 := fun_mk (st := s_l_det) l28 c28 k28
  have b28 := F28.binds (ps := ["table"]) fun _ _ _ _ _ _ us hl => match us, hl with | [_], _ => rfl
  have F29 := fun_mk (st := s_l_unit) l29 c29 k29
  have b29 := F29.binds (ps := ["many"]) fun _ _ _ _ _ _ us hl => match us, hl with | [_], _ => rfl
  have F30 := fun_mk (st := s_l_change) l30 c30 k30
  have b30 := F30.binds (ps := ["box", "many", "steps"]) fun _ _ _ _ _ _ us hl => match us, hl with | [_, _, _], _ => rfl
  have F31 := fun_mk (st := s_l_root) l31 c31 k31
  have b31 := F31.binds (ps := ["number"]) fun _ _ _ _ _ _ us hl => match us, hl with | [_], _ => rfl
  have F32 := fun_mk (st := s_l_divisors) l32 c32 k32
  have b32 := F32.binds (ps := ["number"]) fun _ _ _ _ _ _ us hl => match us, hl with | [_], _ => rfl
  have F33 := fun_mk (st := s_l_is_reduced) l33 c33 k33
  have b33 := F33.binds (ps := ["two", "number"]) fun _ _ _ _ _ _ us hl => match us, hl with | [_, _], _ => rfl
  have F34 := fun_mk (st := s_l_all_reduced) l34 c34 k34
  have b34 := F34.binds (ps := ["number"]) fun _ _ _ _ _ _ us hl => match us, hl with | [_], _ => rfl
  have F35 := fun_mk (st := s_l_right) l35 c35 k35
  have b35 := F35.binds (ps := ["two", "number"]) fun _ _ _ _ _ _ us hl => match us, hl with | [_, _], _ => rfl
  have F36 := fun_mk (st := s_l_law) l36 c36 k36
  have b36 := F36.binds (ps := ["script"]) fun _ _ _ _ _ _ us hl => match us, hl with | [_], _ => rfl
  refine ⟨PySem.W.fnOf "law" "law" (defArgs s_l_law) (defBody s_l_law) (defScope s_l_law) .none kV36 dc36 pm36 an36 cd36 ct36, fun s v => .of_eq rfl, fun base _ _ => ?_⟩
  have c_divisor : CalG PySem.Challenge.pw_everygrid_k14_rings_and_pell w K mg base 1 "divisor" m_divisor := ⟨_, _, _, ok_divisor F0 t , PySem.W.mg_of X G a0, k0, b0⟩
  have c_divisor_of : CalG PySem.Challenge.pw_everygrid_k14_rings_and_pell w K mg base 2 "divisor_of" m_divisor_of := ⟨_, _, _, ok_divisor_of F1 t c_divisor, PySem.W.mg_of X G a1, k1, b1⟩
  have c_root : CalG PySem.Challenge.pw_everygrid_k14_rings_and_pell w K mg base 1 "root" m_root := ⟨_, _, _, ok_root F2 t , PySem.W.mg_of X G a2, k2, b2⟩
  have c_is_whole : CalG PySem.Challenge.pw_everygrid_k14_rings_and_pell w K mg base 1 "is_whole" m_is_whole := ⟨_, _, _, ok_is_whole F3 t , PySem.W.mg_of X G a3, k3, b3⟩
  have c_is_row : CalG PySem.Challenge.pw_everygrid_k14_rings_and_pell w K mg base 2 "is_row" m_is_row := ⟨_, _, _, ok_is_row F4 t c_is_whole, PySem.W.mg_of X G a4, k4, b4⟩
  have c_wide : CalG PySem.Challenge.pw_everygrid_k14_rings_and_pell w K mg base 1 "wide" m_wide := ⟨_, _, _, ok_wide F5 t , PySem.W.mg_of X G a5, k5, b5⟩
  have c_turned : CalG PySem.Challenge.pw_everygrid_k14_rings_and_pell w K mg base 2 "turned" m_turned := ⟨_, _, _, ok_turned F6 t c_wide, PySem.W.mg_of X G a6, k6, b6⟩
  have c_dot : CalG PySem.Challenge.pw_everygrid_k14_rings_and_pell w K mg base 1 "dot" m_dot := ⟨_, _, _, ok_dot F7 t , PySem.W.mg_of X G a7, k7, b7⟩
  have c_product : CalG PySem.Challenge.pw_everygrid_k14_rings_and_pell w K mg base 3 "product" m_product := ⟨_, _, _, ok_product F8 t c_turned c_dot, PySem.W.mg_of X G a8, k8, b8⟩
  have c_is_two : CalG PySem.Challenge.pw_everygrid_k14_rings_and_pell w K mg base 3 "is_two" m_is_two := ⟨_, _, _, ok_is_two F9 t c_is_row, PySem.W.mg_of X G a9, k9, b9⟩
  have c_gap : CalG PySem.Challenge.pw_everygrid_k14_rings_and_pell w K mg base 1 "gap" m_gap := ⟨_, _, _, ok_gap F10 t , PySem.W.mg_of X G a10, k10, b10⟩
  have c_two_worth : CalG PySem.Challenge.pw_everygrid_k14_rings_and_pell w K mg base 1 "two_worth" m_two_worth := ⟨_, _, _, ok_two_worth F11 t , PySem.W.mg_of X G a11, k11, b11⟩
  have c_two_changed : CalG PySem.Challenge.pw_everygrid_k14_rings_and_pell w K mg base 2 "two_changed" m_two_changed := ⟨_, _, _, ok_two_changed F12 t c_two_worth, PySem.W.mg_of X G a12, k12, b12⟩
  have c_check_open : CalG PySem.Challenge.pw_everygrid_k14_rings_and_pell w K mg base 4 "check_open" m_check_open := ⟨_, _, _, ok_check_open F13 t c_root c_is_two c_gap, PySem.W.mg_of X G a13, k13, b13⟩
  have c_is_ring_reduced : CalG PySem.Challenge.pw_everygrid_k14_rings_and_pell w K mg base 2 "is_ring_reduced" m_is_ring_reduced := ⟨_, _, _, ok_is_ring_reduced F14 t c_root c_gap, PySem.W.mg_of X G a14, k14, b14⟩
  have c_next_form : CalG PySem.Challenge.pw_everygrid_k14_rings_and_pell w K mg base 3 "next_form" m_next_form := ⟨_, _, _, ok_next_form F15 t c_root c_gap c_two_changed, PySem.W.mg_of X G a15, k15, b15⟩
  have c_ring_reduced : CalG PySem.Challenge.pw_everygrid_k14_rings_and_pell w K mg base 5 "ring_reduced" m_ring_reduced := ⟨_, _, _, ok_ring_reduced F16 t c_product c_check_open c_is_ring_reduced c_next_form, PySem.W.mg_of X G a16, k16, b16⟩
  have c_ring : CalG PySem.Challenge.pw_everygrid_k14_rings_and_pell w K mg base 6 "ring" m_ring := ⟨_, _, _, ok_ring F17 t c_next_form c_ring_reduced, PySem.W.mg_of X G a17, k17, b17⟩
  have c_with_middle : CalG PySem.Challenge.pw_everygrid_k14_rings_and_pell w K mg base 3 "with_middle" m_with_middle := ⟨_, _, _, ok_with_middle F18 t c_is_ring_reduced, PySem.W.mg_of X G a18, k18, b18⟩
  have c_rings : CalG PySem.Challenge.pw_everygrid_k14_rings_and_pell w K mg base 7 "rings" m_rings := ⟨_, _, _, ok_rings F19 t c_divisor_of c_root c_check_open c_ring c_with_middle, PySem.W.mg_of X G a19, k19, b19⟩
  have c_are_rung : CalG PySem.Challenge.pw_everygrid_k14_rings_and_pell w K mg base 7 "are_rung" m_are_rung := ⟨_, _, _, ok_are_rung F20 t c_product c_gap c_next_form c_ring_reduced c_ring, PySem.W.mg_of X G a20, k20, b20⟩
  have c_pell : CalG PySem.Challenge.pw_everygrid_k14_rings_and_pell w K mg base 6 "pell" m_pell := ⟨_, _, _, ok_pell F21 t c_product c_check_open c_next_form c_ring_reduced, PySem.W.mg_of X G a21, k21, b21⟩
  have c_l_cell : CalG PySem.Challenge.pw_everygrid_k14_rings_and_pell w K mg base 1 "_law_cell" m_l_cell := ⟨_, _, _, ok_l_cell F22 t , PySem.W.mg_of X G a22, k22, b22⟩
  have c_l_digits : CalG PySem.Challenge.pw_everygrid_k14_rings_and_pell w K mg base 2 "_law_digits" m_l_digits := ⟨_, _, _, ok_l_digits F23 t c_l_cell, PySem.W.mg_of X G a23, k23, b23⟩
  have c_l_draw : CalG PySem.Challenge.pw_everygrid_k14_rings_and_pell w K mg base 1 "_law_draw" m_l_draw := ⟨_, _, _, ok_l_draw F24 t , PySem.W.mg_of X G a24, k24, b24⟩
  have c_l_pick : CalG PySem.Challenge.pw_everygrid_k14_rings_and_pell w K mg base 2 "_law_pick" m_l_pick := ⟨_, _, _, ok_l_pick F25 t c_l_draw, PySem.W.mg_of X G a25, k25, b25⟩
  have c_l_same : CalG PySem.Challenge.pw_everygrid_k14_rings_and_pell w K mg base 1 "_law_same" m_l_same := ⟨_, _, _, ok_l_same F26 t , PySem.W.mg_of X G a26, k26, b26⟩
  have c_l_gcd : CalG PySem.Challenge.pw_everygrid_k14_rings_and_pell w K mg base 1 "_law_gcd" m_l_gcd := ⟨_, _, _, ok_l_gcd F27 t , PySem.W.mg_of X G a27, k27, b27⟩
  have c_l_det : CalG PySem.Challenge.pw_everygrid_k14_rings_and_pell w K mg base 4 "_law_det" (m_l_det 3) := ⟨_, _, _, ok_l_det F28 t  (PySem.W.mg_of X G a28) k28 b28 3, PySem.W.mg_of X G a28, k28, b28⟩
  have c_l_unit : CalG PySem.Challenge.pw_everygrid_k14_rings_and_pell w K mg base 1 "_law_unit" m_l_unit := ⟨_, _, _, ok_l_unit F29 t , PySem.W.mg_of X G a29, k29, b29⟩
  have c_l_change : CalG PySem.Challenge.pw_everygrid_k14_rings_and_pell w K mg base 3 "_law_change" m_l_change := ⟨_, _, _, ok_l_change F30 t c_l_draw c_l_pick c_l_unit, PySem.W.mg_of X G a30, k30, b30⟩
  have c_l_root : CalG PySem.Challenge.pw_everygrid_k14_rings_and_pell w K mg base 1 "_law_root" m_l_root := ⟨_, _, _, ok_l_root F31 t , PySem.W.mg_of X G a31, k31, b31⟩
  have c_l_divisors : CalG PySem.Challenge.pw_everygrid_k14_rings_and_pell w K mg base 1 "_law_divisors" m_l_divisors := ⟨_, _, _, ok_l_divisors F32 t , PySem.W.mg_of X G a32, k32, b32⟩
  have c_l_is_reduced : CalG PySem.Challenge.pw_everygrid_k14_rings_and_pell w K mg base 1 "_law_is_reduced" m_l_is_reduced := ⟨_, _, _, ok_l_is_reduced F33 t , PySem.W.mg_of X G a33, k33, b33⟩
  have c_l_all_reduced : CalG PySem.Challenge.pw_everygrid_k14_rings_and_pell w K mg base 2 "_law_all_reduced" m_l_all_reduced := ⟨_, _, _, ok_l_all_reduced F34 t c_l_gcd c_l_divisors c_l_is_reduced, PySem.W.mg_of X G a34, k34, b34⟩
  have c_l_right : CalG PySem.Challenge.pw_everygrid_k14_rings_and_pell w K mg base 2 "_law_right" m_l_right := ⟨_, _, _, ok_l_right F35 t c_l_root, PySem.W.mg_of X G a35, k35, b35⟩
  exact ok_l_law F36 t c_two_changed c_ring_reduced c_ring c_rings c_are_rung c_pell c_l_digits c_l_draw c_l_pick c_l_same c_l_det c_l_change c_l_root c_l_all_reduced c_l_right
end K14
open PySem PySem.W PyProof.Rows
set_option maxHeartbeats 0 in
theorem PySem.Challenge.cw_everygrid_k14_rings_and_pell_holds : PySem.Challenge.rw_everygrid_k14_rings_and_pell.Holds := by
  w_on; o_law; k_head; (case hw => w_witness2)
  k_fill
  refine DL.walk_G (l := PySem.Challenge.rw_everygrid_k14_rings_and_pell) (n := 63) (k := 8) (x := "script") K14.m_l_law rfl (by decide) rfl ⟨rfl, by decide, by decide⟩ (fun w h Y => PySem.W.kIn_of Y) ?F (fun ns hl => K14.law_ok ns hl)
  case F =>
    intro w mg fa h KX G hmg
    refine' K14.all_mk KX G hmg ?a0 ?l0 ?c0 ?k0 ?a1 ?l1 ?c1 ?k1 ?a2 ?l2 ?c2 ?k2 ?a3 ?l3 ?c3 ?k3 ?a4 ?l4 ?c4 ?k4 ?a5 ?l5 ?c5 ?k5 ?a6 ?l6 ?c6 ?k6 ?a7 ?l7 ?c7 ?k7 ?a8 ?l8 ?c8 ?k8 ?a9 ?l9 ?c9 ?k9 ?a10 ?l10 ?c10 ?k10 ?a11 ?l11 ?c11 ?k11 ?a12 ?l12 ?c12 ?k12 ?a13 ?l13 ?c13 ?k13 ?a14 ?l14 ?c14 ?k14 ?a15 ?l15 ?c15 ?k15 ?a16 ?l16 ?c16 ?k16 ?a17 ?l17 ?c17 ?k17 ?a18 ?l18 ?c18 ?k18 ?a19 ?l19 ?c19 ?k19 ?a20 ?l20 ?c20 ?k20 ?a21 ?l21 ?c21 ?k21 ?a22 ?l22 ?c22 ?k22 ?a23 ?l23 ?c23 ?k23 ?a24 ?l24 ?c24 ?k24 ?a25 ?l25 ?c25 ?k25 ?a26 ?l26 ?c26 ?k26 ?a27 ?l27 ?c27 ?k27 ?a28 ?l28 ?c28 ?k28 ?a29 ?l29 ?c29 ?k29 ?a30 ?l30 ?c30 ?k30 ?a31 ?l31 ?c31 ?k31 ?a32 ?l32 ?c32 ?k32 ?a33 ?l33 ?c33 ?k33 ?a34 ?l34 ?c34 ?k34 ?a35 ?l35 ?c35 ?k35 ?a36 ?l36 ?c36 ?k36 ?z_abs ?z_all ?z_bool ?z_int ?z_isinstance ?z_len ?z_list ?z_min ?z_range ?z_repr ?z_sorted ?z_sum ?z_tuple ?z_zip ?z_super ?g_UNIT ?k_UNIT ?g_RING_MOST ?k_RING_MOST ?xC ?xL ?xB ?xsa ?xga ?xgg ?xno ?xiC ?xtC ?xkC ?xexC ?xtyC ?xhdC ?xiscl ?xself ?xve ?xup ?xmr ?xany ?xlI ?xcI ?xcd ?xvs ?xfile ?xcc
    (case a0 => k_is); (case l0 => k_is); (case c0 => k_is); (case k0 => k_is); (case a1 => k_is); (case l1 => k_is)
    (case c1 => k_is); (case k1 => k_is); (case a2 => k_is); (case l2 => k_is); (case c2 => k_is); (case k2 => k_is)
    (case a3 => k_is); (case l3 => k_is); (case c3 => k_is); (case k3 => k_is); (case a4 => k_is); (case l4 => k_is)
    (case c4 => k_is); (case k4 => k_is); (case a5 => k_is); (case l5 => k_is); (case c5 => k_is); (case k5 => k_is)
    (case a6 => k_is); (case l6 => k_is); (case c6 => k_is); (case k6 => k_is); (case a7 => k_is); (case l7 => k_is)
    (case c7 => k_is); (case k7 => k_is); (case a8 => k_is); (case l8 => k_is); (case c8 => k_is); (case k8 => k_is)
    (case a9 => k_is); (case l9 => k_is); (case c9 => k_is); (case k9 => k_is); (case a10 => k_is); (case l10 => k_is)
    (case c10 => k_is); (case k10 => k_is); (case a11 => k_is); (case l11 => k_is); (case c11 => k_is); (case k11 => k_is)
    (case a12 => k_is); (case l12 => k_is); (case c12 => k_is); (case k12 => k_is); (case a13 => k_is); (case l13 => k_is)
    (case c13 => k_is); (case k13 => k_is); (case a14 => k_is); (case l14 => k_is); (case c14 => k_is); (case k14 => k_is)
    (case a15 => k_is); (case l15 => k_is); (case c15 => k_is); (case k15 => k_is); (case a16 => k_is); (case l16 => k_is)
    (case c16 => k_is); (case k16 => k_is); (case a17 => k_is); (case l17 => k_is); (case c17 => k_is); (case k17 => k_is)
    (case a18 => k_is); (case l18 => k_is); (case c18 => k_is); (case k18 => k_is); (case a19 => k_is); (case l19 => k_is)
    (case c19 => k_is); (case k19 => k_is); (case a20 => k_is); (case l20 => k_is); (case c20 => k_is); (case k20 => k_is)
    (case a21 => k_is); (case l21 => k_is); (case c21 => k_is); (case k21 => k_is); (case a22 => k_is); (case l22 => k_is)
    (case c22 => k_is); (case k22 => k_is); (case a23 => k_is); (case l23 => k_is); (case c23 => k_is); (case k23 => k_is)
    (case a24 => k_is); (case l24 => k_is); (case c24 => k_is); (case k24 => k_is); (case a25 => k_is); (case l25 => k_is)
    (case c25 => k_is); (case k25 => k_is); (case a26 => k_is); (case l26 => k_is); (case c26 => k_is); (case k26 => k_is)
    (case a27 => k_is); (case l27 => k_is); (case c27 => k_is); (case k27 => k_is); (case a28 => k_is); (case l28 => k_is)
    (case c28 => k_is); (case k28 => k_is); (case a29 => k_is); (case l29 => k_is); (case c29 => k_is); (case k29 => k_is)
    (case a30 => k_is); (case l30 => k_is); (case c30 => k_is); (case k30 => k_is); (case a31 => k_is); (case l31 => k_is)
    (case c31 => k_is); (case k31 => k_is); (case a32 => k_is); (case l32 => k_is); (case c32 => k_is); (case k32 => k_is)
    (case a33 => k_is); (case l33 => k_is); (case c33 => k_is); (case k33 => k_is); (case a34 => k_is); (case l34 => k_is)
    (case c34 => k_is); (case k34 => k_is); (case a35 => k_is); (case l35 => k_is); (case c35 => k_is); (case k35 => k_is)
    (case a36 => k_is); (case l36 => k_is); (case c36 => k_is); (case k36 => k_is); (case z_abs => k_is); (case z_all => k_is)
    (case z_bool => k_is); (case z_int => k_is); (case z_isinstance => k_is); (case z_len => k_is); (case z_list => k_is); (case z_min => k_is)
    (case z_range => k_is); (case z_repr => k_is); (case z_sorted => k_is); (case z_sum => k_is); (case z_tuple => k_is); (case z_zip => k_is)
    (case z_super => k_is); (case g_UNIT => k_is); (case k_UNIT => first | kernel_rfl | rfl); (case g_RING_MOST => k_is); (case k_RING_MOST => first | kernel_rfl | rfl); (case xC => k_is)
    (case xL => k_is); (case xB => first | rfl | decide +kernel | k_is); (case xsa => k_is); (case xga => k_is); (case xgg => k_is); (case xno => k_is)
    (case xiC => k_is); (case xtC => k_is); (case xkC => k_is); (case xexC => k_is); (case xtyC => k_is); (case xhdC => k_is)
    (case xiscl => k_is); (case xself => k_is); (case xve => k_is); (case xup => first | kernel_rfl | rfl); (case xmr => k_is); (case xany => k_is)
    (case xlI => k_is); (case xcI => k_is); (case xcd => k_is); (case xvs => first | rfl | decide +kernel | k_is); (case xfile => first | rfl | decide +kernel | k_is); (case xcc => k_is)
