import PyProof.Rows.All
import Wide.All
import OpenK.AllK
import Wide.FinOn
import PySem.Challenge.RW_everygrid_k11_two_reduced
import HandS.ForMost
import HandS.ForExc
import HandS.Wide
import HandS.WideBits
import HandS.Flow
import HandS.Conv
import HandS.IsInst
import HandS.TupAny
import HandS.Style
import HandS.Zip
import HandS.TryElse
import HandS.ExcOwn
import HandS.TryOnly
import HandS.WordsExc
import KE.KExcSuper
import HandS.ExcField
import KE.SortData
import PyProof.ReprReads
import PyProof.ReprBulk
import PyProof.Rows.RegStrFacts
import HandS.Ends
set_option Elab.async false
set_option linter.all false
set_option maxRecDepth 100000
/-! The data layer, part 0: values as plain data, mutable lists in a store, what a state is. -/
namespace DL
open PySem PySem.Spec PyProof.Rows L2

/-- plain data: tup a tuple, imm a list that nobody writes any more, scr one that is locked or of the written part, cel a list in the store -/
inductive D where
  | non | bl (b : Bool) | int (i : Int) | str (s : Str) | tup (ds : List D) | imm (ds : List D) | cel (n : Nat) | ty (n : String) | scr (ds : List D)

abbrev Store := List (List D)
abbrev Env := List (Option D)

/-- where the lists of the store stand, in order; what nobody may look at -/
structure Ow where
  c : List Addr
  p : List Addr
def Ow.Free (I : Ow) (a : Addr) : Prop := a ∉ I.c ∧ a ∉ I.p
def Ow.add (I : Ow) (a : Addr) : Ow := ⟨I.c ++ [a], I.p⟩
def Ow.hide (I : Ow) (a : Addr) : Ow := ⟨I.c, a :: I.p⟩
def Ow.show (I : Ow) (a : Addr) : Ow := ⟨I.c, I.p.filter fun b => decide (b ≠ a)⟩

/-- an immutable sequence at a: tracked and not in the store, or of the written part -/
def WrT (K : PySem.W.Frag) (a : Addr) (xs : List V) : Prop :=
  ∃ (o : Obj) (its : Array Value) (n : Nat), K.lookup a = some o ∧ o.cls = .type "tuple" ∧ o.data = .seq its n ∧ its.size ≤ sizeLine ∧ Vals xs its.toList
def WrL (K : PySem.W.Frag) (a : Addr) (xs : List V) : Prop :=
  ∃ (o : Obj) (its : Array Value) (n : Nat), K.lookup a = some o ∧ o.cls = .type "list" ∧ o.dict = none ∧ o.data = .seq its n ∧ its.size ≤ sizeLine ∧ Vals xs its.toList
def TupA (K : PySem.W.Frag) (I : Ow) (H : Hp) (a : Addr) (vs : List V) : Prop :=
  (Rd H a (.tup vs) ∧ I.Free a) ∨ WrT K a vs
def LstA (K : PySem.W.Frag) (I : Ow) (H : Hp) (a : Addr) (vs : List V) : Prop :=
  (Rd H a (.lst vs) ∧ I.Free a) ∨ WrL K a vs

mutual
def Rep (K : PySem.W.Frag) (I : Ow) (H : Hp) : D → V → Prop
  | .non, v => v = .non
  | .bl b, v => v = .bl b
  | .int i, v => v = .int i
  | .str s, v => v = .str s
  | .ty n, v => v = .ty n
  | .tup ds, v => ∃ a vs, v = .ref a ∧ TupA K I H a vs ∧ Reps K I H ds vs
  | .imm ds, v => ∃ a vs, v = .ref a ∧ (H a = some (.lst vs) ∧ I.Free a) ∧ Reps K I H ds vs
  | .scr ds, v => ∃ a vs, v = .ref a ∧ LstA K I H a vs ∧ Reps K I H ds vs
  | .cel n, v => ∃ a, v = .ref a ∧ I.c[n]? = some a
def Reps (K : PySem.W.Frag) (I : Ow) (H : Hp) : List D → List V → Prop
  | [], vs => vs = []
  | d :: ds, vs => ∃ v r, vs = v :: r ∧ Rep K I H d v ∧ Reps K I H ds r
end

structure Sto (K : PySem.W.Frag) (I : Ow) (H : Hp) (M : Store) : Prop where
  len : I.c.length = M.length
  nodup : I.c.Nodup
  at_ : ∀ (n : Nat) (a : Addr) (ds : List D), I.c[n]? = some a → M[n]? = some ds → ∃ vs, H a = some (.lst vs) ∧ Reps K I H ds vs
  dis : ∀ a ∈ I.p, a ∉ I.c ∧ ∃ o, H a = some o

/-- what may have happened meanwhile -/
structure Ext (I : Ow) (H : Hp) (I' : Ow) (H' : Hp) : Prop where
  prv : ∃ l, I'.p = l ++ I.p ∧ ∀ a ∈ l, H a = none
  pre : ∃ l, I'.c = I.c ++ l ∧ ∀ a ∈ l, H a = none
  keep : ∀ a o, H a = some o → a ∉ I.c → H' a = some o
  trk : ∀ a o, H a = some o → ∃ o', H' a = some o'

theorem Ext.refl {I : Ow} {H : Hp} : Ext I H I H := ⟨⟨[], by simp, by simp⟩, ⟨[], by simp, by simp⟩, fun _ _ h _ => h, fun _ o h => ⟨o, h⟩⟩
theorem Ext.notin {I I' : Ow} {H H' : Hp} (e : Ext I H I' H') {a : Addr} {o : HO} (h : H a = some o) (n : a ∉ I.c) : a ∉ I'.c := by
  obtain ⟨l, hl1, hl⟩ := e.pre
  rw [hl1]
  intro hm
  rcases List.mem_append.mp hm with hm | hm
  · exact n hm
  · rw [hl a hm] at h; cases h
theorem Ext.free {I I' : Ow} {H H' : Hp} (e : Ext I H I' H') {a : Addr} {o : HO} (h : H a = some o) (n : I.Free a) : I'.Free a := ⟨e.notin h n.1, by
  obtain ⟨l, q, hl⟩ := e.prv
  rw [q]
  intro hm
  rcases List.mem_append.mp hm with hm | hm
  · rw [hl a hm] at h; cases h
  · exact n.2 hm⟩
theorem Ext.trans {I I1 I2 : Ow} {H H1 H2 : Hp} (a : Ext I H I1 H1) (b : Ext I1 H1 I2 H2) : Ext I H I2 H2 := by
  refine ⟨?_, ?_, fun x o h n => b.keep x o (a.keep x o h n) (a.notin h n), fun x o h => ?_⟩
  · obtain ⟨l1, q1, h1⟩ := a.prv
    obtain ⟨l2, q2, h2⟩ := b.prv
    refine ⟨l2 ++ l1, by rw [q2, q1]; simp, fun x hx => ?_⟩
    rcases List.mem_append.mp hx with hx | hx
    · cases q : H x with
      | none => rfl
      | some o =>
        obtain ⟨o', z⟩ := a.trk x o q
        rw [h2 x hx] at z; cases z
    · exact h1 x hx
  · obtain ⟨l1, q1, h1⟩ := a.pre
    obtain ⟨l2, q2, h2⟩ := b.pre
    refine ⟨l1 ++ l2, by rw [q2, q1]; simp, fun x hx => ?_⟩
    rcases List.mem_append.mp hx with hx | hx
    · exact h1 x hx
    · cases q : H x with
      | none => rfl
      | some o =>
        obtain ⟨o', z⟩ := a.trk x o q
        rw [h2 x hx] at z; cases z
  · obtain ⟨o', z⟩ := a.trk x o h
    exact b.trk x o' z
theorem Ext.get {I I' : Ow} {H H' : Hp} (e : Ext I H I' H') {n : Nat} {a : Addr} (h : I.c[n]? = some a) : I'.c[n]? = some a := by
  obtain ⟨l, q, _⟩ := e.pre
  obtain ⟨h1, h2⟩ := List.getElem?_eq_some_iff.mp h
  rw [q, List.getElem?_append_left h1]; exact h
/-- a new object, not of the store -/
theorem Ext.new {I : Ow} {H : Hp} {p : Addr} {o : HO} (h : H p = none) : Ext I H I (upd H p o) :=
  ⟨⟨[], by simp, by simp⟩, ⟨[], by simp, by simp⟩, fun a u e _ => by rw [upd_ne (ne_of_none e h)]; exact e, fun a u e => ⟨u, by rw [upd_ne (ne_of_none e h)]; exact e⟩⟩
/-- a new list, of the store -/
theorem Ext.newC {I : Ow} {H : Hp} {p : Addr} {o : HO} (h : H p = none) : Ext I H (I.add p) (upd H p o) :=
  ⟨⟨[], by simp [Ow.add], by simp⟩, ⟨[p], rfl, fun a ha => by rw [List.mem_singleton.mp ha]; exact h⟩, fun a u e _ => by rw [upd_ne (ne_of_none e h)]; exact e, fun a u e => ⟨u, by rw [upd_ne (ne_of_none e h)]; exact e⟩⟩
/-- a list of the store is written -/
theorem Ext.write {I : Ow} {H : Hp} {p : Addr} {o : HO} (h : p ∈ I.c) : Ext I H I (upd H p o) :=
  ⟨⟨[], by simp, by simp⟩, ⟨[], by simp, by simp⟩, fun a u e n => by rw [upd_ne (fun z => n (by rw [z]; exact h))]; exact e, fun a u e => by
    by_cases q : a = p
    · subst q; exact ⟨o, upd_same⟩
    · exact ⟨u, by rw [upd_ne q]; exact e⟩⟩

section
variable {K : PySem.W.Frag} {I I' : Ow} {H H' : Hp} {M M' : Store}
theorem TupA.sq {a : Addr} {vs : List V} (h : TupA K I H a vs) : SqT K H a vs := by
  rcases h with ⟨h, _⟩ | h
  · exact .inl h
  · exact .inr h
theorem LstA.sq {a : Addr} {vs : List V} (h : LstA K I H a vs) : SqL K H a vs := by
  rcases h with ⟨h, _⟩ | h
  · exact .inl h
  · exact .inr h
theorem Ext.rd (e : Ext I H I' H') {a : Addr} {u : HO} (h : Rd H a u) (n : I.Free a) : Rd H' a u ∧ I'.Free a := by
  rcases h with h | ⟨o, h⟩
  · exact ⟨.inl (e.keep _ _ h n.1), e.free h n⟩
  · exact ⟨.inr ⟨o, e.keep _ _ h n.1⟩, e.free h n⟩
theorem Ext.tupA (e : Ext I H I' H') {a : Addr} {vs : List V} (h : TupA K I H a vs) : TupA K I' H' a vs := by
  rcases h with ⟨h, n⟩ | h
  · exact .inl (e.rd h n)
  · exact .inr h
theorem Ext.lstA (e : Ext I H I' H') {a : Addr} {vs : List V} (h : LstA K I H a vs) : LstA K I' H' a vs := by
  rcases h with ⟨h, n⟩ | h
  · exact .inl (e.rd h n)
  · exact .inr h
mutual
theorem Ext.rep (e : Ext I H I' H') : ∀ {d : D} {v : V}, Rep K I H d v → Rep K I' H' d v
  | .non, v, h => by simpa only [Rep] using h
  | .bl _, v, h => by simpa only [Rep] using h
  | .int _, v, h => by simpa only [Rep] using h
  | .str _, v, h => by simpa only [Rep] using h
  | .ty _, v, h => by simpa only [Rep] using h
  | .tup ds, v, h => by
    simp only [Rep] at h ⊢
    obtain ⟨a, vs, h1, h2, h3⟩ := h
    exact ⟨a, vs, h1, e.tupA h2, Ext.reps e h3⟩
  | .imm ds, v, h => by
    simp only [Rep] at h ⊢
    obtain ⟨a, vs, h1, h2, h3⟩ := h
    exact ⟨a, vs, h1, ⟨e.keep _ _ h2.1 h2.2.1, e.free h2.1 h2.2⟩, Ext.reps e h3⟩
  | .scr ds, v, h => by
    simp only [Rep] at h ⊢
    obtain ⟨a, vs, h1, h2, h3⟩ := h
    exact ⟨a, vs, h1, e.lstA h2, Ext.reps e h3⟩
  | .cel n, v, h => by
    simp only [Rep] at h ⊢
    obtain ⟨a, h1, h2⟩ := h
    exact ⟨a, h1, e.get h2⟩
theorem Ext.reps (e : Ext I H I' H') : ∀ {ds : List D} {vs : List V}, Reps K I H ds vs → Reps K I' H' ds vs
  | [], vs, h => by simpa only [Reps] using h
  | d :: ds, vs, h => by
    simp only [Reps] at h ⊢
    obtain ⟨v, r, h1, h2, h3⟩ := h
    exact ⟨v, r, h1, Ext.rep e h2, Ext.reps e h3⟩
end
theorem Reps.length : ∀ {ds : List D} {vs : List V}, Reps K I H ds vs → ds.length = vs.length
  | [], vs, h => by simp only [Reps] at h; subst h; rfl
  | d :: ds, vs, h => by
    simp only [Reps] at h
    obtain ⟨v, r, rfl, _, h3⟩ := h
    rw [List.length_cons, List.length_cons, Reps.length h3]
theorem Reps.get : ∀ {ds : List D} {vs : List V} {i : Nat} {v : V}, Reps K I H ds vs → vs[i]? = some v → ∃ d, ds[i]? = some d ∧ Rep K I H d v
  | [], vs, i, v, h, e => by simp only [Reps] at h; subst h; simp at e
  | d :: ds, vs, 0, v, h, e => by
    simp only [Reps] at h
    obtain ⟨v', r, rfl, h2, _⟩ := h
    have : v' = v := Option.some.inj e
    subst this
    exact ⟨d, rfl, h2⟩
  | d :: ds, vs, i + 1, v, h, e => by
    simp only [Reps] at h
    obtain ⟨v', r, rfl, _, h3⟩ := h
    exact Reps.get (i := i) h3 e
theorem Reps.get' : ∀ {ds : List D} {vs : List V} {i : Nat} {d : D}, Reps K I H ds vs → ds[i]? = some d → ∃ v, vs[i]? = some v ∧ Rep K I H d v
  | [], vs, i, v, h, e => by simp at e
  | d :: ds, vs, 0, v, h, e => by
    simp only [Reps] at h
    obtain ⟨v', r, rfl, h2, _⟩ := h
    have : d = v := Option.some.inj e
    subst this
    exact ⟨v', rfl, h2⟩
  | d :: ds, vs, i + 1, v, h, e => by
    simp only [Reps] at h
    obtain ⟨v', r, rfl, _, h3⟩ := h
    exact Reps.get' (i := i) h3 e
theorem Reps.append : ∀ {ds es : List D} {vs us : List V}, Reps K I H ds vs → Reps K I H es us → Reps K I H (ds ++ es) (vs ++ us)
  | [], es, vs, us, h, g => by simp only [Reps] at h; subst h; exact g
  | d :: ds, es, vs, us, h, g => by
    simp only [Reps] at h
    obtain ⟨v', r, rfl, h2, h3⟩ := h
    show Reps K I H (d :: (ds ++ es)) (v' :: (r ++ us))
    simp only [Reps]
    exact ⟨v', _, rfl, h2, Reps.append h3 g⟩
theorem Reps.take : ∀ {ds : List D} {vs : List V} (n : Nat), Reps K I H ds vs → Reps K I H (ds.take n) (vs.take n)
  | _, _, 0, h => by simp [Reps]
  | [], vs, n + 1, h => by simp only [Reps] at h; subst h; simp [Reps]
  | d :: ds, vs, n + 1, h => by
    simp only [Reps] at h
    obtain ⟨v', r, rfl, h2, h3⟩ := h
    show Reps K I H (d :: ds.take n) (v' :: r.take n)
    simp only [Reps]
    exact ⟨v', _, rfl, h2, Reps.take n h3⟩
theorem Reps.drop : ∀ {ds : List D} {vs : List V} (n : Nat), Reps K I H ds vs → Reps K I H (ds.drop n) (vs.drop n)
  | _, _, 0, h => h
  | [], vs, n + 1, h => by simp only [Reps] at h; subst h; simp [Reps]
  | d :: ds, vs, n + 1, h => by
    simp only [Reps] at h
    obtain ⟨v', r, rfl, h2, h3⟩ := h
    exact Reps.drop n h3
theorem Reps.set : ∀ {ds : List D} {vs : List V} (n : Nat) {d : D} {v : V}, Rep K I H d v → Reps K I H ds vs → Reps K I H (ds.set n d) (vs.set n v)
  | [], vs, n, d, v, g, h => by simp only [Reps] at h; subst h; simp [Reps]
  | e :: ds, vs, 0, d, v, g, h => by
    simp only [Reps] at h
    obtain ⟨v', r, rfl, h2, h3⟩ := h
    show Reps K I H (d :: ds) (v :: r)
    simp only [Reps]
    exact ⟨v, _, rfl, g, h3⟩
  | e :: ds, vs, n + 1, d, v, g, h => by
    simp only [Reps] at h
    obtain ⟨v', r, rfl, h2, h3⟩ := h
    show Reps K I H (e :: ds.set n d) (v' :: r.set n v)
    simp only [Reps]
    exact ⟨v', _, rfl, h2, Reps.set n g h3⟩
theorem Reps.one {d : D} {v : V} (h : Rep K I H d v) : Reps K I H [d] [v] := by
  simp only [Reps]
  exact ⟨v, [], rfl, h, rfl⟩
theorem Reps.cons {d : D} {v : V} {ds : List D} {vs : List V} (h : Rep K I H d v) (g : Reps K I H ds vs) : Reps K I H (d :: ds) (v :: vs) := by
  simp only [Reps]
  exact ⟨v, vs, rfl, h, g⟩

/-! ### states -/
theorem Sto.trk (S : Sto K I H M) {a : Addr} (h : a ∈ I.c) : ∃ vs, H a = some (.lst vs) := by
  obtain ⟨n, hn, e⟩ := List.mem_iff_getElem.mp h
  have h1 : I.c[n]? = some a := by rw [List.getElem?_eq_getElem hn, e]
  have hm : n < M.length := by rw [← S.len]; exact hn
  obtain ⟨vs, e2, _⟩ := S.at_ n a M[n] h1 (List.getElem?_eq_getElem hm)
  exact ⟨vs, e2⟩
theorem Sto.fresh (S : Sto K I H M) {p : Addr} (h : H p = none) : I.Free p := by
  refine ⟨fun hm => ?_, fun hm => ?_⟩
  · obtain ⟨vs, e⟩ := S.trk hm
    rw [h] at e; cases e
  · obtain ⟨_, o, e⟩ := S.dis p hm
    rw [h] at e; cases e
/-- a new object beside the store -/
theorem Sto.new (S : Sto K I H M) {p : Addr} {o : HO} (h : H p = none) : Sto K I (upd H p o) M := by
  refine ⟨S.len, S.nodup, fun n a ds h1 h2 => ?_, fun a ha => ⟨(S.dis a ha).1, ?_⟩⟩
  · obtain ⟨vs, e, r⟩ := S.at_ n a ds h1 h2
    exact ⟨vs, by rw [upd_ne (ne_of_none e h)]; exact e, (Ext.new h).reps r⟩
  · obtain ⟨u, e⟩ := (S.dis a ha).2
    exact ⟨u, by rw [upd_ne (ne_of_none e h)]; exact e⟩
theorem Sto.newC (S : Sto K I H M) {p : Addr} {ds : List D} {vs : List V} (h : H p = none) (r : Reps K I H ds vs) : Sto K (I.add p) (upd H p (.lst vs)) (M ++ [ds]) := by
  refine ⟨by simp [S.len, Ow.add], ?_, fun n a es h1 h2 => ?_, fun a ha => ⟨fun hm => ?_, ?_⟩⟩
  · show (I.c ++ [p]).Nodup
    rw [List.nodup_append]
    refine ⟨S.nodup, by simp, fun a ha b hb z => ?_⟩
    rw [List.mem_singleton.mp hb] at z
    exact (S.fresh h).1 (z ▸ ha)
  · have h1 : (I.c ++ [p])[n]? = some a := h1
    by_cases q : n < I.c.length
    · rw [List.getElem?_append_left q] at h1
      rw [List.getElem?_append_left (by rw [← S.len]; exact q)] at h2
      obtain ⟨us, e, g⟩ := S.at_ n a es h1 h2
      exact ⟨us, by rw [upd_ne (ne_of_none e h)]; exact e, (Ext.newC h).reps g⟩
    · have hn : n < (I.c ++ [p]).length := (List.getElem?_eq_some_iff.mp h1).1
      have hn' : n = I.c.length := by simp at hn; omega
      subst hn'
      rw [List.getElem?_append_right (Nat.le_refl _)] at h1
      rw [S.len, List.getElem?_append_right (Nat.le_refl _)] at h2
      simp at h1 h2
      subst h1; subst h2
      exact ⟨vs, upd_same, (Ext.newC h).reps r⟩
  · rcases List.mem_append.mp (show a ∈ I.c ++ [p] from hm) with hm | hm
    · exact (S.dis a ha).1 hm
    · obtain ⟨u, e⟩ := (S.dis a ha).2
      rw [List.mem_singleton.mp hm, h] at e; cases e
  · obtain ⟨u, e⟩ := (S.dis a ha).2
    exact ⟨u, by rw [upd_ne (ne_of_none e h)]; exact e⟩
theorem Sto.write (S : Sto K I H M) {n : Nat} {p : Addr} {ds : List D} {vs : List V} (h : I.c[n]? = some p) (r : Reps K I H ds vs) : Sto K I (upd H p (.lst vs)) (M.set n ds) := by
  have hp : p ∈ I.c := List.mem_of_getElem? h
  refine ⟨by simp [S.len], S.nodup, fun m a es h1 h2 => ?_, fun a ha => ⟨(S.dis a ha).1, ?_⟩⟩
  · by_cases q : m = n
    · subst q
      have z : a = p := Option.some.inj (h1.symm.trans h)
      subst z
      have hm : m < M.length := by rw [← S.len]; exact (List.getElem?_eq_some_iff.mp h).1
      rw [List.getElem?_set_self hm] at h2
      cases h2
      exact ⟨vs, upd_same, (Ext.write hp).reps r⟩
    · rw [List.getElem?_set_ne (Ne.symm q)] at h2
      obtain ⟨us, e, g⟩ := S.at_ m a es h1 h2
      have na : a ≠ p := fun z => q (nd_ix S.nodup h1 (by rw [z]; exact h))
      exact ⟨us, by rw [upd_ne na]; exact e, (Ext.write hp).reps g⟩
  · obtain ⟨u, e⟩ := (S.dis a ha).2
    exact ⟨u, by rw [upd_ne (fun z => (S.dis a ha).1 (by rw [z]; exact hp))]; exact e⟩
/-! ### a list that is being made: nobody looks at it -/
theorem Ext.hide {p : Addr} {o : HO} (h : H p = none) : Ext I H (I.hide p) (upd H p o) :=
  ⟨⟨[p], rfl, fun a ha => by rw [List.mem_singleton.mp ha]; exact h⟩, ⟨[], by simp [Ow.hide], by simp⟩, fun a u e _ => by rw [upd_ne (ne_of_none e h)]; exact e, fun a u e => ⟨u, by rw [upd_ne (ne_of_none e h)]; exact e⟩⟩
theorem Free.show {p a : Addr} (f : I.Free a) : (I.show p).Free a := ⟨f.1, fun hm => f.2 (List.mem_filter.mp hm).1⟩
theorem Free.ne {p a : Addr} (f : I.Free a) (hp : p ∈ I.p) : a ≠ p := fun e => f.2 (by rw [e]; exact hp)
mutual
theorem Rep.show {p : Addr} : ∀ {d : D} {v : V}, Rep K I H d v → Rep K (I.show p) H d v
  | .non, v, h => by simpa only [Rep] using h
  | .bl _, v, h => by simpa only [Rep] using h
  | .int _, v, h => by simpa only [Rep] using h
  | .str _, v, h => by simpa only [Rep] using h
  | .ty _, v, h => by simpa only [Rep] using h
  | .tup ds, v, h => by
    simp only [Rep] at h ⊢
    obtain ⟨a, vs, h1, h2, h3⟩ := h
    exact ⟨a, vs, h1, h2.imp (fun h => ⟨h.1, Free.show h.2⟩) id, Reps.show h3⟩
  | .imm ds, v, h => by
    simp only [Rep] at h ⊢
    obtain ⟨a, vs, h1, h2, h3⟩ := h
    exact ⟨a, vs, h1, ⟨h2.1, Free.show h2.2⟩, Reps.show h3⟩
  | .scr ds, v, h => by
    simp only [Rep] at h ⊢
    obtain ⟨a, vs, h1, h2, h3⟩ := h
    exact ⟨a, vs, h1, h2.imp (fun h => ⟨h.1, Free.show h.2⟩) id, Reps.show h3⟩
  | .cel n, v, h => by simp only [Rep] at h ⊢; exact h
theorem Reps.show {p : Addr} : ∀ {ds : List D} {vs : List V}, Reps K I H ds vs → Reps K (I.show p) H ds vs
  | [], vs, h => by simpa only [Reps] using h
  | d :: ds, vs, h => by
    simp only [Reps] at h ⊢
    obtain ⟨v, r, h1, h2, h3⟩ := h
    exact ⟨v, r, h1, Rep.show h2, Reps.show h3⟩
end
theorem Rd.upd {p a : Addr} {u o : HO} (h : Rd H a u) (n : a ≠ p) : Rd (upd H p o) a u := by
  rcases h with h | ⟨o', h⟩
  · exact .inl (by rw [upd_ne n]; exact h)
  · exact .inr ⟨o', by rw [upd_ne n]; exact h⟩
mutual
theorem Rep.grow {p : Addr} {o : HO} (hp : p ∈ I.p) : ∀ {d : D} {v : V}, Rep K I H d v → Rep K I (upd H p o) d v
  | .non, v, h => by simpa only [Rep] using h
  | .bl _, v, h => by simpa only [Rep] using h
  | .int _, v, h => by simpa only [Rep] using h
  | .str _, v, h => by simpa only [Rep] using h
  | .ty _, v, h => by simpa only [Rep] using h
  | .tup ds, v, h => by
    simp only [Rep] at h ⊢
    obtain ⟨a, vs, h1, h2, h3⟩ := h
    exact ⟨a, vs, h1, h2.imp (fun h => ⟨Rd.upd h.1 (Free.ne h.2 hp), h.2⟩) id, Reps.grow hp h3⟩
  | .imm ds, v, h => by
    simp only [Rep] at h ⊢
    obtain ⟨a, vs, h1, h2, h3⟩ := h
    exact ⟨a, vs, h1, ⟨by rw [upd_ne (Free.ne h2.2 hp)]; exact h2.1, h2.2⟩, Reps.grow hp h3⟩
  | .scr ds, v, h => by
    simp only [Rep] at h ⊢
    obtain ⟨a, vs, h1, h2, h3⟩ := h
    exact ⟨a, vs, h1, h2.imp (fun h => ⟨Rd.upd h.1 (Free.ne h.2 hp), h.2⟩) id, Reps.grow hp h3⟩
  | .cel n, v, h => by simp only [Rep] at h ⊢; exact h
theorem Reps.grow {p : Addr} {o : HO} (hp : p ∈ I.p) : ∀ {ds : List D} {vs : List V}, Reps K I H ds vs → Reps K I (upd H p o) ds vs
  | [], vs, h => by simpa only [Reps] using h
  | d :: ds, vs, h => by
    simp only [Reps] at h ⊢
    obtain ⟨v, r, h1, h2, h3⟩ := h
    exact ⟨v, r, h1, Rep.grow hp h2, Reps.grow hp h3⟩
end
theorem Sto.hide (S : Sto K I H M) {p : Addr} {o : HO} (hp : H p = none) : Sto K (I.hide p) (upd H p o) M := by
  refine ⟨S.len, S.nodup, fun n a ds h1 h2 => ?_, fun a ha => ?_⟩
  · obtain ⟨vs, e, r⟩ := S.at_ n a ds h1 h2
    exact ⟨vs, by rw [upd_ne (ne_of_none e hp)]; exact e, (Ext.hide hp).reps r⟩
  · rcases List.mem_cons.mp ha with e | ha
    · subst e; exact ⟨(S.fresh hp).1, o, upd_same⟩
    · obtain ⟨h1, u, e⟩ := S.dis a ha
      exact ⟨h1, u, by rw [upd_ne (ne_of_none e hp)]; exact e⟩
theorem Sto.show {p : Addr} (S : Sto K I H M) : Sto K (I.show p) H M :=
  ⟨S.len, S.nodup, fun n a ds h1 h2 => let ⟨vs, e, r⟩ := S.at_ n a ds h1 h2; ⟨vs, e, r.show⟩, fun a ha => S.dis a (List.mem_filter.mp ha).1⟩
theorem Sto.grow {p : Addr} {o : HO} (S : Sto K I H M) (hp : p ∈ I.p) : Sto K I (upd H p o) M := by
  refine ⟨S.len, S.nodup, fun n a ds h1 h2 => ?_, fun a ha => ⟨(S.dis a ha).1, ?_⟩⟩
  · obtain ⟨vs, e, r⟩ := S.at_ n a ds h1 h2
    have na : a ≠ p := fun z => (S.dis p hp).1 (by rw [← z]; exact List.mem_of_getElem? h1)
    exact ⟨vs, by rw [upd_ne na]; exact e, r.grow hp⟩
  · by_cases q : a = p
    · subst q; exact ⟨o, upd_same⟩
    · obtain ⟨_, u, e⟩ := S.dis a ha
      exact ⟨u, by rw [upd_ne q]; exact e⟩
theorem Ext.show {p : Addr} (e : Ext I H I' H') (hp : p ∉ I.p) : Ext I H (I'.show p) H' := by
  refine ⟨?_, e.pre, e.keep, e.trk⟩
  obtain ⟨l, q, hl⟩ := e.prv
  refine ⟨l.filter fun b => decide (b ≠ p), ?_, fun a ha => hl a (List.mem_filter.mp ha).1⟩
  show I'.p.filter _ = _
  rw [q, List.filter_append]
  congr 1
  refine List.filter_eq_self.mpr fun a ha => decide_eq_true fun z => hp (by rw [← z]; exact ha)
theorem Ext.grow {p : Addr} {o : HO} (e : Ext I H I' H') (h : H p = none) : Ext I H I' (upd H' p o) :=
  ⟨e.prv, e.pre, fun a u ha n => by rw [upd_ne (ne_of_none ha h)]; exact e.keep a u ha n, fun a u ha => by rw [upd_ne (ne_of_none ha h)]; exact e.trk a u ha⟩
theorem Ext.mem {p : Addr} (e : Ext I H I' H') (h : p ∈ I.p) : p ∈ I'.p := by
  obtain ⟨l, q, _⟩ := e.prv
  rw [q]; exact List.mem_append_right _ h

/-- the slots of a frame -/
structure RepE (K : PySem.W.Frag) (I : Ow) (H : Hp) (en : Env) (σ : L2.St) : Prop where
  len : en.length = σ.length
  at_ : ∀ (i : Nat) (d : D), en[i]? = some (some d) → ∃ v, σ[i]? = some (some v) ∧ Rep K I H d v
theorem RepE.mono {en : Env} {σ : L2.St} (r : RepE K I H en σ) (e : Ext I H I' H') : RepE K I' H' en σ :=
  ⟨r.len, fun i d h => let ⟨v, h1, h2⟩ := r.at_ i d h; ⟨v, h1, e.rep h2⟩⟩
theorem RepE.set {en : Env} {σ : L2.St} (r : RepE K I H en σ) (i : Nat) {d : D} {v : V} (g : Rep K I H d v) : RepE K I H (en.set i (some d)) (σ.set i (some v)) := by
  refine ⟨by simp [r.len], fun j e h => ?_⟩
  by_cases q : j = i
  · subst q
    have hj : j < en.length := by
      have := (List.getElem?_eq_some_iff.mp h).1
      simpa using this
    rw [List.getElem?_set_self hj] at h
    cases h
    exact ⟨v, by rw [List.getElem?_set_self (by rw [← r.len]; exact hj)], g⟩
  · rw [List.getElem?_set_ne (Ne.symm q)] at h
    obtain ⟨u, h1, h2⟩ := r.at_ j e h
    exact ⟨u, by rw [List.getElem?_set_ne (Ne.symm q)]; exact h1, h2⟩
theorem RepE.unset {en : Env} {σ : L2.St} (r : RepE K I H en σ) (i : Nat) (y : Option V) : RepE K I H (en.set i none) (σ.set i y) := by
  refine ⟨by simp [r.len], fun j e h => ?_⟩
  by_cases q : j = i
  · subst q
    have hj : j < en.length := by
      have := (List.getElem?_eq_some_iff.mp h).1
      simpa using this
    rw [List.getElem?_set_self hj] at h
    cases h
  · rw [List.getElem?_set_ne (Ne.symm q)] at h
    obtain ⟨u, h1, h2⟩ := r.at_ j e h
    exact ⟨u, by rw [List.getElem?_set_ne (Ne.symm q)]; exact h1, h2⟩
def wipeE (en : Env) : List Nat → Env
  | [] => en
  | i :: r => (wipeE en r).set i none
end
end DL
/-! The data layer, part 1: what code comes to, told over plain data; expressions. -/
namespace DL
open PySem PySem.Spec PyProof.Rows L2

/-- how a piece of code ends: with a value, or with an own exception and its fields -/
inductive Out (α : Type) where
  | ok (a : α)
  | ex (c : Str) (fs : List (Str × D))
abbrev Res (α : Type) := Option (Out α × Store)
def bnd {α β : Type} (r : Res α) (k : α → Store → Res β) : Res β :=
  match r with
  | none => none
  | some (.ok a, M) => k a M
  | some (.ex c fs, M) => some (.ex c fs, M)
@[simp] theorem bnd_ok {α β : Type} {a : α} {M : Store} {k : α → Store → Res β} : bnd (some (.ok a, M)) k = k a M := rfl
@[simp] theorem bnd_none {α β : Type} {k : α → Store → Res β} : bnd none k = none := rfl
@[simp] theorem bnd_ex {α β : Type} {c : Str} {fs : List (Str × D)} {M : Store} {k : α → Store → Res β} : bnd (some (.ex c fs, M)) k = some (.ex c fs, M) := rfl
abbrev EF := Env → Store → Res D

/-- an own exception: its class, its own dict -/
def ExR (K : PySem.W.Frag) (mg : Str → Option Value) (I : Ow) (H : Hp) (c : Str) (fs : List (Str × D)) (cls : Value) (dx : Option Addr) : Prop :=
  ∃ C d vs, mg c = some (.ref C) ∧ cls = .ref C ∧ dx = some d ∧ H d = some (.xd ((fs.map (·.1)).zip vs)) ∧ I.Free d ∧ Reps K I H (fs.map (·.2)) vs

section
variable (K : PySem.W.Frag) (mg : Str → Option Value) (W : WX)
/-- what is wanted behind code that comes to o -/
def Kp {α β : Type} (R : Ow → Hp → α → β → Prop) (o : Res α) (I : Ow) (H : Hp) (σ : L2.St) (Q : β → Hp → Prop) : Prop :=
  match o with
  | none => False
  | some (.ok a, M) => ∀ I' H' b, Ext I H I' H' → Sto K I' H' M → R I' H' a b → Q b H'
  | some (.ex c fs, M) => ∀ I' H' cls dx, Ext I H I' H' → Sto K I' H' M → ExR K mg I' H' c fs cls dx → W cls dx σ H'
def TD {α β : Type} (R : Ow → Hp → α → β → Prop) (f : Env → Store → Res α) : L2.St → Hp → (β → Hp → Prop) → Prop := fun σ H Q =>
  ∃ I M en, Sto K I H M ∧ RepE K I H en σ ∧ Kp K mg W R (f en M) I H σ Q
end
abbrev RB : Ow → Hp → Bool → Bool → Prop := fun _ _ a b => a = b

structure EvE (X : Cx) (W : WX) (e : Expr) (f : EF) : Prop where
  pe : PE X e (TD X.K X.mg W (Rep X.K) f)
structure EvT (X : Cx) (W : WX) (e : Expr) (f : Env → Store → Res Bool) : Prop where
  pt : PT X e (TD X.K X.mg W RB f)
structure EvW (X : Cx) (W : WX) (e : Expr) (f : Env → Store → Res Bool) : Prop where
  pw : PW X e (TD X.K X.mg W RB f)
structure EvA (X : Cx) (W : WX) (es : List Expr) (f : Env → Store → Res (List D)) : Prop where
  pa : PA X es (TD X.K X.mg W (Reps X.K) f)

section
variable {X : Cx} {W : WX} {K : PySem.W.Frag} {mg : Str → Option Value} {I I' : Ow} {H H' : Hp} {M M' : Store} {σ : L2.St} {en : Env}
theorem Kp.bind {α β γ δ : Type} {R1 : Ow → Hp → α → β → Prop} {R2 : Ow → Hp → γ → δ → Prop} {o : Res α} {k : α → Store → Res γ} {Q1 : β → Hp → Prop} {Q2 : δ → Hp → Prop}
    (h : Kp K mg W R2 (bnd o k) I H σ Q2)
    (step : ∀ a M I1 H1 b, Ext I H I1 H1 → Sto K I1 H1 M → R1 I1 H1 a b → Kp K mg W R2 (k a M) I1 H1 σ Q2 → Q1 b H1) : Kp K mg W R1 o I H σ Q1 := by
  match o, h with
  | some (.ok a, M), h =>
    intro I1 H1 b e S r
    refine step a M I1 H1 b e S r ?_
    show Kp K mg W R2 (k a M) I1 H1 σ Q2
    have h' : Kp K mg W R2 (k a M) I H σ Q2 := h
    revert h'
    cases q : k a M with
    | none => exact id
    | some z =>
      obtain ⟨out, M2⟩ := z
      cases out with
      | ok c => exact fun h' I2 H2 b2 e2 => h' I2 H2 b2 (e.trans e2)
      | ex c fs => exact fun h' I2 H2 cls dx e2 => h' I2 H2 cls dx (e.trans e2)
  | some (.ex c fs, M), h => exact h
theorem Kp.ok {α β : Type} {R : Ow → Hp → α → β → Prop} {a : α} {Q : β → Hp → Prop} {b : β} (h : Kp K mg W R (some (.ok a, M)) I H σ Q) (S : Sto K I H M) (r : R I H a b) : Q b H := h I H b Ext.refl S r
theorem Kp.ok' {α β : Type} {R : Ow → Hp → α → β → Prop} {a : α} {Q : β → Hp → Prop} {b : β} (h : Kp K mg W R (some (.ok a, M')) I H σ Q) (e : Ext I H I' H') (S : Sto K I' H' M') (r : R I' H' a b) : Q b H' := h I' H' b e S r

theorem pe_imp {e : Expr} {t t' : TE} (h : PE X e t) (i : ∀ σ H Q, t' σ H Q → t σ H Q) : PE X e t' := ⟨fun pins s σ H Q Iv hq => h.run pins s σ H Q Iv (i σ H Q hq)⟩
theorem pt_imp {e : Expr} {t t' : TT} (h : PT X e t) (i : ∀ σ H Q, t' σ H Q → t σ H Q) : PT X e t' := ⟨fun pins s σ H Q Iv hq => h.run pins s σ H Q Iv (i σ H Q hq)⟩
theorem pw_imp {e : Expr} {t t' : TT} (h : PW X e t) (i : ∀ σ H Q, t' σ H Q → t σ H Q) : PW X e t' := ⟨fun wh pins s σ H Q Iv hq => h.run wh pins s σ H Q Iv (i σ H Q hq)⟩
theorem pa_imp {es : List Expr} {t t' : TA} (h : PA X es t) (i : ∀ σ H Q, t' σ H Q → t σ H Q) : PA X es t' := ⟨fun pos pins s σ H Q Iv hq => h.run pos pins s σ H Q Iv (i σ H Q hq)⟩
theorem ps_imp {st : Stmt} {t t' : TS} (h : PS X st t) (i : ∀ D σ H, t' D σ H → t D σ H) : PS X st t' := ⟨fun pins s σ H D Iv hq => h.run pins s σ H D Iv (i D σ H hq)⟩
theorem pss_imp {st : List Stmt} {t t' : TS} (h : PSs X st t) (i : ∀ D σ H, t' D σ H → t D σ H) : PSs X st t' := ⟨fun pins s σ H D Iv hq => h.run pins s σ H D Iv (i D σ H hq)⟩

/-! ### names and constants -/
def cVar (i : Nat) : EF := fun en M => match en[i]? with | some (some d) => some (.ok d, M) | _ => none
def cC (d : D) : EF := fun _ M => some (.ok d, M)
theorem ev_var {i : Nat} {x : Str} {pos : Pos} (hN : X.N[i]? = some x) (hv : Vis X.env.scope x) (hd : (x == ("__debug__" : Str)) = false := by decide) (hcd : (x == ("__classdict__" : Str)) = false := by decide) : EvE X W (.Name x pos) (cVar i) := by
  refine ⟨pe_imp (pe_var hN hv hd hcd) fun σ H Q h => ?_⟩
  obtain ⟨I, M, en, S, r, k⟩ := h
  unfold cVar at k
  split at k
  · rename_i d q
    obtain ⟨v, h1, h2⟩ := r.at_ i d q
    exact ⟨v, h1, k.ok S h2⟩
  · exact k.elim
theorem ev_c {e : Expr} {v : V} {d : D} (h : PE X e (tC v)) (r : ∀ I H, Rep X.K I H d v) : EvE X W e (cC d) :=
  ⟨pe_imp h fun σ H Q ⟨I, M, en, S, _, k⟩ => k.ok S (r I H)⟩
theorem ev_int {i j pos} : EvE X W (.Constant (.int i) j pos) (cC (.int i)) := ev_c pe_int fun _ _ => by simp only [Rep]
theorem ev_bl {b j pos} : EvE X W (.Constant (.bool b) j pos) (cC (.bl b)) := ev_c pe_bl fun _ _ => by simp only [Rep]
theorem ev_non {j pos} : EvE X W (.Constant .none j pos) (cC .non) := ev_c pe_non fun _ _ => by simp only [Rep]
theorem ev_str {x j pos} : EvE X W (.Constant (.str x) j pos) (cC (.str x)) := ev_c pe_str fun _ _ => by simp only [Rep]

/-! ### operators by values -/
def cOp (g : D → D → Store → Res D) (fa fb : EF) : EF := fun en M => bnd (fa en M) fun x M1 => bnd (fb en M1) fun y M2 => g x y M2
def cUn (g : D → Store → Res D) (fa : EF) : EF := fun en M => bnd (fa en M) fun x M1 => g x M1
/-- a two-place operation, over data -/
def OpD (K : PySem.W.Frag) (mg : Str → Option Value) (W : WX) (g : D → D → Store → Res D) (r : R2) : Prop :=
  ∀ x y M I H u v σ Q, Sto K I H M → Rep K I H x u → Rep K I H y v → Kp K mg W (Rep K) (g x y M) I H σ Q → r u v H Q
def UnD (K : PySem.W.Frag) (mg : Str → Option Value) (W : WX) (g : D → Store → Res D) (r : V → Hp → VK → Prop) : Prop :=
  ∀ x M I H u σ Q, Sto K I H M → Rep K I H x u → Kp K mg W (Rep K) (g x M) I H σ Q → r u H Q
theorem top_of {g : D → D → Store → Res D} {r : R2} {fa fb : EF} (hg : OpD K mg W g r) {Q : VK} (h : TD K mg W (Rep K) (cOp g fa fb) σ H Q) :
    tOp r (TD K mg W (Rep K) fa) (TD K mg W (Rep K) fb) σ H Q := by
  obtain ⟨I, M, en, S, r, k⟩ := h
  refine ⟨I, M, en, S, r, k.bind fun x M1 I1 H1 u e1 S1 r1 k1 => ?_⟩
  refine ⟨I1, M1, en, S1, r.mono e1, k1.bind fun y M2 I2 H2 v e2 S2 r2 k2 => ?_⟩
  exact hg x y M2 I2 H2 u v σ Q S2 (e2.rep r1) r2 k2
theorem ev_op {a b : Expr} {op : Operator} {pos : Pos} {g : D → D → Store → Res D} {r : R2} {fa fb : EF} (ho : OpR X (binaryOp op) r) (hg : OpD X.K X.mg W g r) (ha : EvE X W a fa) (hb : EvE X W b fb) : EvE X W (.BinOp a op b pos) (cOp g fa fb) :=
  ⟨pe_imp (pe_op ho ha.pe hb.pe) fun _ _ _ h => top_of hg h⟩
theorem ev_un {a : Expr} {op : UnaryOp} {pos : Pos} {g : D → Store → Res D} {r : V → Hp → VK → Prop} {fa : EF} (ho : UnR X (unaryOp op) r) (hg : UnD X.K X.mg W g r) (ha : EvE X W a fa) : EvE X W (.UnaryOp op a pos) (cUn g fa) := by
  refine ⟨pe_imp (pe_un ho ha.pe) fun σ H Q h => ?_⟩
  obtain ⟨I, M, en, S, r, k⟩ := h
  exact ⟨I, M, en, S, r, k.bind fun x M1 I1 H1 u e1 S1 r1 k1 => hg x M1 I1 H1 u σ Q S1 r1 k1⟩
/-- on two ints -/
def gI (C : Int → Int → Bool) (f : Int → Int → D) : D → D → Store → Res D := fun x y M => match x, y with
  | .int i, .int j => if C i j = true then some (.ok (f i j), M) else none
  | _, _ => none
def yes2 : Int → Int → Bool := fun _ _ => true
theorem opd_I {C : Int → Int → Prop} {c : Int → Int → Bool} {f : Int → Int → D} {g : Int → Int → V} (hc : ∀ i j, c i j = true → C i j) (hf : ∀ i j I H, Rep K I H (f i j) (g i j)) : OpD K mg W (gI c f) (rI C g) := by
  intro x y M I H u v σ Q S rx ry k
  unfold gI at k
  split at k
  · rename_i i j
    simp only [Rep] at rx ry
    split at k
    · rename_i q
      exact ⟨i, j, rx, ry, hc i j q, k.ok S (hf i j I H)⟩
    · exact k.elim
  · exact k.elim
theorem opd_I0 {f : Int → Int → D} {g : Int → Int → V} (hf : ∀ i j I H, Rep K I H (f i j) (g i j)) : OpD K mg W (gI yes2 f) (rI0 g) := by
  intro x y M I H u v σ Q S rx ry k
  unfold gI at k
  split at k
  · rename_i i j
    simp only [Rep] at rx ry
    exact ⟨i, j, rx, ry, Kp.ok (K := K) (mg := mg) (W := W) (R := Rep K) (a := f i j) k S (hf i j I H)⟩
  · exact k.elim
theorem rep_int {i : Int} : Rep K I H (.int i) (.int i) := by simp only [Rep]
theorem rep_bl {b : Bool} : Rep K I H (.bl b) (.bl b) := by simp only [Rep]
theorem rep_str {b : Str} : Rep K I H (.str b) (.str b) := by simp only [Rep]
theorem rep_non : Rep K I H .non .non := by simp only [Rep]
abbrev gAdd : D → D → Store → Res D := gI yes2 fun i j => .int (i + j)
abbrev gSub : D → D → Store → Res D := gI yes2 fun i j => .int (i - j)
/-- a factor within 64 bits, or both together within a million -/
def mulC (i j : Int) : Bool := decide (-(2 ^ 64) < i ∧ i < 2 ^ 64) || decide (-(2 ^ 64) < j ∧ j < 2 ^ 64) || decide (i.natAbs.log2 + j.natAbs.log2 < 1000000)
abbrev gMul : D → D → Store → Res D := gI mulC fun i j => .int (i * j)
end
end DL
/-! The data layer, part 2: comparisons, tests, displays, subscripts, calls of built-ins. -/
namespace DL
open PySem PySem.Spec PyProof.Rows L2
section
variable {X : Cx} {W : WX} {K : PySem.W.Frag} {mg : Str → Option Value} {I I' : Ow} {H H' : Hp} {M M' : Store} {σ : L2.St} {en : Env}

/-! ### arithmetic -/
theorem op_mulC : OpR X (binaryOp .Mult) (rI (fun i j => mulC i j = true) fun i j => .int (i * j)) := opI fun i j _ _ _ _ _ hc q => by
  refine mul_int q ?_
  unfold mulC at hc
  rw [Bool.or_eq_true, Bool.or_eq_true, decide_eq_true_eq, decide_eq_true_eq, decide_eq_true_eq] at hc
  rcases hc with (⟨h1, h2⟩ | ⟨h1, h2⟩) | h
  · exact .of_left (intBits_le_64 h1 h2)
  · exact .of_right (intBits_le_64 h1 h2)
  · exact CMulW.ok h
theorem opd_add : OpD K mg W gAdd (rI0 fun i j => .int (i + j)) := opd_I0 fun _ _ _ _ => rep_int
theorem opd_sub : OpD K mg W gSub (rI0 fun i j => .int (i - j)) := opd_I0 fun _ _ _ _ => rep_int
theorem opd_mul : OpD K mg W gMul (rI (fun i j => mulC i j = true) fun i j => .int (i * j)) := opd_I (fun _ _ h => h) fun _ _ _ _ => rep_int
def divC (_ j : Int) : Bool := decide (0 < j) && decide (j.natAbs.log2 < 9000)
abbrev gDiv : D → D → Store → Res D := gI divC fun i j => .int (i / j)
theorem opd_div : OpD K mg W gDiv (rI CDivW fun i j => .int (i / j)) := opd_I (fun i j h => by
  unfold divC at h
  rw [Bool.and_eq_true, decide_eq_true_eq, decide_eq_true_eq] at h
  exact h) fun _ _ _ _ => rep_int
def modC (_ j : Int) : Bool := decide (0 < j)
abbrev gMod : D → D → Store → Res D := gI modC fun i j => .int (i % j)
theorem opd_mod : OpD K mg W gMod (rI (fun _ j => 0 < j) fun i j => .int (i % j)) := opd_I (fun i j h => of_decide_eq_true h) fun _ _ _ _ => rep_int
def powC (i j : Int) : Bool := decide (0 ≤ j) && (decide (j ≤ 1000000) && decide (i.natAbs < 2 ^ 64))
theorem powC_ok {i j : Int} (h : powC i j = true) : CPow i j := by
  unfold powC at h
  rw [Bool.and_eq_true, Bool.and_eq_true, decide_eq_true_eq, decide_eq_true_eq, decide_eq_true_eq] at h
  exact h
abbrev gPow : D → D → Store → Res D := gI powC fun i j => .int (i ^ j.toNat)
abbrev gShl : D → D → Store → Res D := gI powC fun i j => .int (i * 2 ^ j.toNat)
theorem opd_pow : OpD K mg W gPow (rI CPow fun i j => .int (i ^ j.toNat)) := opd_I (fun _ _ => powC_ok) fun _ _ _ _ => rep_int
theorem opd_shl : OpD K mg W gShl (rI CPow fun i j => .int (i * 2 ^ j.toNat)) := opd_I (fun _ _ => powC_ok) fun _ _ _ _ => rep_int
def gNeg : D → Store → Res D := fun x M => match x with | .int i => some (.ok (.int (-i)), M) | _ => none
theorem und_neg : UnD K mg W gNeg (rU fun i => .int (-i)) := by
  intro x M I H u σ Q S rx k
  unfold gNeg at k
  split at k
  · simp only [Rep] at rx
    exact ⟨_, rx, k.ok S rep_int⟩
  · exact k.elim

/-! ### comparisons -/
abbrev gLt : D → D → Store → Res D := gI yes2 fun i j => .bl (decide (i < j))
abbrev gLe : D → D → Store → Res D := gI yes2 fun i j => .bl (decide (i ≤ j))
abbrev gGt : D → D → Store → Res D := gI yes2 fun i j => .bl (decide (j < i))
abbrev gGe : D → D → Store → Res D := gI yes2 fun i j => .bl (decide (j ≤ i))
theorem opd_lt : OpD K mg W gLt (rI0 fun i j => .bl (decide (i < j))) := opd_I0 fun _ _ _ _ => rep_bl
theorem opd_le : OpD K mg W gLe (rI0 fun i j => .bl (decide (i ≤ j))) := opd_I0 fun _ _ _ _ => rep_bl
theorem opd_gt : OpD K mg W gGt (rI0 fun i j => .bl (decide (j < i))) := opd_I0 fun _ _ _ _ => rep_bl
theorem opd_ge : OpD K mg W gGe (rI0 fun i j => .bl (decide (j ≤ i))) := opd_I0 fun _ _ _ _ => rep_bl
theorem ev_cmp {a b : Expr} {op : CmpOp} {pos : Pos} {g : D → D → Store → Res D} {r : R2} {fa fb : EF} (ho : OpR X (compareOp op) r) (hg : OpD X.K X.mg W g r) (ha : EvE X W a fa) (hb : EvE X W b fb) (hm : behindInMarks op b = false) : EvE X W (.Compare a [op] [b] pos) (cOp g fa fb) :=
  ⟨pe_imp (pe_cmpR ho ha.pe hb.pe hm) fun _ _ _ h => top_of hg h⟩

/-! deep comparison -/
mutual
def toPy : D → Option PyData
  | .non => some .none
  | .bl b => some (.bool b)
  | .int i => some (.int i)
  | .str s => some (.str s)
  | .tup ds => (toPys ds).map .tuple
  | .imm ds => (toPys ds).map .list
  | .cel _ => none
  | .ty _ => none
  | .scr _ => none
def toPys : List D → Option (List PyData)
  | [] => some []
  | d :: ds => match toPy d, toPys ds with | some x, some xs => some (x :: xs) | _, _ => none
end
def toPyM (M : Store) : D → Option PyData
  | .cel n => match M[n]? with | some ds => (toPys ds).map .list | none => none
  | d => toPy d
mutual
theorem dp_of : ∀ {d : D} {v : V} {x : PyData}, Rep K I H d v → toPy d = some x → Dp K H v x
  | .non, v, x, h, e => by simp only [Rep] at h; subst h; simp only [toPy, Option.some.injEq] at e; subst e; exact .non
  | .bl b, v, x, h, e => by simp only [Rep] at h; subst h; simp only [toPy, Option.some.injEq] at e; subst e; exact .bl b
  | .int i, v, x, h, e => by simp only [Rep] at h; subst h; simp only [toPy, Option.some.injEq] at e; subst e; exact .int i
  | .str s, v, x, h, e => by simp only [Rep] at h; subst h; simp only [toPy, Option.some.injEq] at e; subst e; exact .str s
  | .tup ds, v, x, h, e => by
    simp only [Rep] at h
    obtain ⟨a, vs, rfl, h2, h3⟩ := h
    simp only [toPy, Option.map_eq_some_iff] at e
    obtain ⟨xs, e1, rfl⟩ := e
    exact .tup h2.sq (dps_of h3 e1)
  | .imm ds, v, x, h, e => by
    simp only [Rep] at h
    obtain ⟨a, vs, rfl, h2, h3⟩ := h
    simp only [toPy, Option.map_eq_some_iff] at e
    obtain ⟨xs, e1, rfl⟩ := e
    exact .lst (.inl (.inl h2.1)) (dps_of h3 e1)
  | .scr ds, v, x, h, e => by simp only [toPy] at e; cases e
  | .cel n, v, x, h, e => by simp only [toPy] at e; cases e
  | .ty n, v, x, h, e => by simp only [toPy] at e; cases e
theorem dps_of : ∀ {ds : List D} {vs : List V} {xs : List PyData}, Reps K I H ds vs → toPys ds = some xs → DpAll K H vs xs
  | [], vs, xs, h, e => by simp only [Reps] at h; subst h; simp only [toPys, Option.some.injEq] at e; subst e; exact .nil
  | d :: ds, vs, xs, h, e => by
    simp only [Reps] at h
    obtain ⟨v, r, rfl, h2, h3⟩ := h
    simp only [toPys] at e
    split at e
    · rename_i y ys e1 e2
      cases e
      exact .cons (dp_of h2 e1) (dps_of h3 e2)
    · cases e
end
theorem dpM_of {d : D} {v : V} {x : PyData} (S : Sto K I H M) (h : Rep K I H d v) (e : toPyM M d = some x) : Dp K H v x := by
  cases d with
  | cel n =>
    simp only [Rep] at h
    obtain ⟨a, rfl, h2⟩ := h
    unfold toPyM at e
    dsimp only at e
    split at e
    · rename_i ds q
      obtain ⟨vs, h3, h4⟩ := S.at_ n a ds h2 q
      rw [Option.map_eq_some_iff] at e
      obtain ⟨xs, e1, rfl⟩ := e
      exact .lst (.inl (.inl h3)) (dps_of h4 e1)
    · cases e
  | _ => exact dp_of h (by simpa only [toPyM] using e)
def eqM (M : Store) (x y : D) : Option Bool :=
  match toPyM M x, toPyM M y with
  | some a, some b => if (SeqAt.shaped a && SeqAt.shaped b) = true then some (PyData.eqv a b) else none
  | _, _ => none
def gEq (neg : Bool) : D → D → Store → Res D := fun x y M => match x, y with
  | .str s, .str t => some (.ok (.bl (if neg = true then !(s == t) else s == t)), M)
  | x, y => match eqM M x y with | some b => some (.ok (.bl (if neg = true then !b else b)), M) | none => none
/-- data, or two texts -/
abbrev rEqA (K : PySem.W.Frag) : R2 := fun x y H Q => rEqD K x y H Q ∨ rEq x y H Q
abbrev rNeA (K : PySem.W.Frag) : R2 := fun x y H Q => rNeD K x y H Q ∨ rNe x y H Q
theorem op_eqA (hu : X.A.units + 64 < cLine) : OpR X (compareOp .Eq) (rEqA X.K) := OpR.or (op_eqD hu) op_eq
theorem op_neA (hu : X.A.units + 64 < cLine) : OpR X (compareOp .NotEq) (rNeA X.K) := OpR.or (op_neD hu) op_ne
theorem eqM_some {x y : D} {u v : V} {b : Bool} (S : Sto K I H M) (rx : Rep K I H x u) (ry : Rep K I H y v) (h : eqM M x y = some b) :
    ∃ d e, Dp K H u d ∧ Dp K H v e ∧ SeqAt.shaped d = true ∧ SeqAt.shaped e = true ∧ PyData.eqv d e = b := by
  unfold eqM at h
  split at h
  · rename_i d e h1 h2
    split at h
    · rename_i q
      rw [Bool.and_eq_true] at q
      exact ⟨d, e, dpM_of S rx h1, dpM_of S ry h2, q.1, q.2, Option.some.inj h⟩
    · cases h
  · cases h
theorem opd_eq : OpD K mg W (gEq false) (rEqA K) := by
  intro x y M I H u v σ Q S rx ry k
  unfold gEq at k
  split at k
  · simp only [Rep] at rx ry
    subst rx; subst ry
    exact .inr ⟨rfl, by rw [dec_str]; exact k.ok S rep_bl⟩
  · split at k
    · rename_i b q
      obtain ⟨d, e, h1, h2, h3, h4, rfl⟩ := eqM_some S rx ry q
      exact .inl ⟨d, e, h1, h2, h3, h4, k.ok S rep_bl⟩
    · exact k.elim
theorem opd_ne : OpD K mg W (gEq true) (rNeA K) := by
  intro x y M I H u v σ Q S rx ry k
  unfold gEq at k
  split at k
  · simp only [Rep] at rx ry
    subst rx; subst ry
    exact .inr ⟨rfl, by rw [dec_str]; exact k.ok S rep_bl⟩
  · split at k
    · rename_i b q
      obtain ⟨d, e, h1, h2, h3, h4, rfl⟩ := eqM_some S rx ry q
      exact .inl ⟨d, e, h1, h2, h3, h4, k.ok S rep_bl⟩
    · exact k.elim
/-- is None, is not None -/
def isNone : D → Bool
  | .non => true
  | _ => false
def gIsN (neg : Bool) : D → D → Store → Res D := fun x y M => match y with
  | .non => some (.ok (.bl (if neg = true then !isNone x else isNone x)), M)
  | _ => none
theorem rep_none {x : D} {v : V} (h : Rep K I H x v) : decide (v = .non) = isNone x := by
  cases x <;> simp only [Rep] at h
  · subst h; rfl
  · subst h; rfl
  · subst h; rfl
  · subst h; rfl
  · obtain ⟨_, _, rfl, _⟩ := h; rfl
  · obtain ⟨_, _, rfl, _⟩ := h; rfl
  · obtain ⟨_, rfl, _⟩ := h; rfl
  · subst h; rfl
  · obtain ⟨_, _, rfl, _⟩ := h; rfl
theorem opd_isN : OpD K mg W (gIsN false) (fun x y H Q => y = .non ∧ Q (.bl (decide (x = .non))) H) := by
  intro x y M I H u v σ Q S rx ry k
  unfold gIsN at k
  split at k
  · simp only [Rep] at ry
    exact ⟨ry, k.ok S (by rw [rep_none rx]; exact rep_bl)⟩
  · exact k.elim
theorem opd_notN : OpD K mg W (gIsN true) (fun x y H Q => y = .non ∧ Q (.bl (!decide (x = .non))) H) := by
  intro x y M I H u v σ Q S rx ry k
  unfold gIsN at k
  split at k
  · simp only [Rep] at ry
    exact ⟨ry, k.ok S (by rw [rep_none rx]; exact rep_bl)⟩
  · exact k.elim
/-- is True, is False: of bools -/
def gIsB (neg : Bool) : D → D → Store → Res D := fun x y M => match x, y with
  | .bl a, .bl b => some (.ok (.bl (if neg = true then !decide (a = b) else decide (a = b))), M)
  | _, _ => none
theorem opd_isB : OpD K mg W (gIsB false) rIsB := by
  intro x y M I H u v σ Q S rx ry k
  unfold gIsB at k
  split at k
  · simp only [Rep] at rx ry
    exact ⟨_, _, rx, ry, k.ok S rep_bl⟩
  · exact k.elim
theorem opd_notB : OpD K mg W (gIsB true) rNotB := by
  intro x y M I H u v σ Q S rx ry k
  unfold gIsB at k
  split at k
  · simp only [Rep] at rx ry
    exact ⟨_, _, rx, ry, k.ok S rep_bl⟩
  · exact k.elim

/-! ### truth; and, or, not -/
def tru (M : Store) : D → Option Bool
  | .non => some false
  | .bl b => some b
  | .int i => some (i != 0)
  | .str s => if s.length ≤ sizeLine then some ((s.length : Int) != 0) else none
  | .tup ds => some (!ds.isEmpty)
  | .imm ds => some (!ds.isEmpty)
  | .cel n => match M[n]? with | some ds => some (!ds.isEmpty) | none => none
  | .ty _ => none
  | .scr ds => some (!ds.isEmpty)
theorem isEmpty_reps {ds : List D} {vs : List V} (h : Reps K I H ds vs) : (!ds.isEmpty) = !vs.isEmpty := by
  cases ds with
  | nil => simp only [Reps] at h; subst h; rfl
  | cons d r => simp only [Reps] at h; obtain ⟨_, _, rfl, _⟩ := h; rfl
theorem tru_of {x : D} {v : V} {b : Bool} (S : Sto K I H M) (h : Rep K I H x v) (e : tru M x = some b) : TruV K v H b := by
  cases x <;> simp only [Rep] at h
  · subst h; simp only [tru, Option.some.injEq] at e; exact e.symm
  · subst h; simp only [tru, Option.some.injEq] at e; exact e.symm
  · subst h; simp only [tru, Option.some.injEq] at e; exact e.symm
  · subst h
    unfold tru at e
    dsimp only at e
    split at e
    · rename_i q
      exact ⟨q, (Option.some.inj e).symm⟩
    · cases e
  · obtain ⟨a, vs, rfl, h2, h3⟩ := h
    simp only [tru, Option.some.injEq] at e
    exact .inr (.inl ⟨vs, h2.sq, by rw [← e]; exact isEmpty_reps h3⟩)
  · obtain ⟨a, vs, rfl, h2, h3⟩ := h
    simp only [tru, Option.some.injEq] at e
    exact .inl ⟨vs, .inl (.inl h2.1), by rw [← e]; exact isEmpty_reps h3⟩
  · obtain ⟨a, rfl, h2⟩ := h
    unfold tru at e
    dsimp only at e
    split at e
    · rename_i ds q
      obtain ⟨vs, h3, h4⟩ := S.at_ _ a ds h2 q
      exact .inl ⟨vs, .inl (.inl h3), by rw [← Option.some.inj e]; exact isEmpty_reps h4⟩
    · cases e
  · simp only [tru] at e; cases e
  · obtain ⟨a, vs, rfl, h2, h3⟩ := h
    simp only [tru, Option.some.injEq] at e
    exact .inl ⟨vs, h2.sq, by rw [← e]; exact isEmpty_reps h3⟩
def cAnd (fa fb : EF) : EF := fun en M => bnd (fa en M) fun x M1 => match tru M1 x with | some true => fb en M1 | some false => some (.ok x, M1) | none => none
def cOr (fa fb : EF) : EF := fun en M => bnd (fa en M) fun x M1 => match tru M1 x with | some true => some (.ok x, M1) | some false => fb en M1 | none => none
def cNot (fa : EF) : EF := fun en M => bnd (fa en M) fun x M1 => match tru M1 x with | some b => some (.ok (.bl (!b)), M1) | none => none
variable {a b c e : Expr} {rest : List Expr} {pos : Pos} {fa fb fc : EF}
theorem ev_one {op} (h : EvE X W a fa) : EvE X W (.BoolOp op [a] pos) fa := ⟨pe_one h.pe⟩
theorem ev_and (ha : EvE X W a fa) (hb : EvE X W (.BoolOp .And (b :: rest) pos) fb) : EvE X W (.BoolOp .And (a :: b :: rest) pos) (cAnd fa fb) := by
  refine ⟨pe_imp (pe_andT ha.pe hb.pe) fun σ H Q h => ?_⟩
  obtain ⟨I, M, en, S, r, k⟩ := h
  refine ⟨I, M, en, S, r, k.bind fun x M1 I1 H1 u e1 S1 r1 k1 => ?_⟩
  split at k1
  · rename_i q; exact ⟨true, tru_of S1 r1 q, (if_pos rfl).mpr ⟨I1, M1, en, S1, r.mono e1, k1⟩⟩
  · rename_i q; exact ⟨false, tru_of S1 r1 q, (if_neg Bool.false_ne_true).mpr (k1.ok S1 r1)⟩
  · exact k1.elim
theorem ev_or (ha : EvE X W a fa) (hb : EvE X W (.BoolOp .Or (b :: rest) pos) fb) : EvE X W (.BoolOp .Or (a :: b :: rest) pos) (cOr fa fb) := by
  refine ⟨pe_imp (pe_orT ha.pe hb.pe) fun σ H Q h => ?_⟩
  obtain ⟨I, M, en, S, r, k⟩ := h
  refine ⟨I, M, en, S, r, k.bind fun x M1 I1 H1 u e1 S1 r1 k1 => ?_⟩
  split at k1
  · rename_i q; exact ⟨true, tru_of S1 r1 q, (if_pos rfl).mpr (k1.ok S1 r1)⟩
  · rename_i q; exact ⟨false, tru_of S1 r1 q, (if_neg Bool.false_ne_true).mpr ⟨I1, M1, en, S1, r.mono e1, k1⟩⟩
  · exact k1.elim
theorem ev_not (ha : EvE X W a fa) : EvE X W (.UnaryOp .Not a pos) (cNot fa) := by
  refine ⟨pe_imp (pe_notT ha.pe) fun σ H Q h => ?_⟩
  obtain ⟨I, M, en, S, r, k⟩ := h
  refine ⟨I, M, en, S, r, k.bind fun x M1 I1 H1 u e1 S1 r1 k1 => ?_⟩
  split at k1
  · rename_i q; exact ⟨_, tru_of S1 r1 q, k1.ok S1 rep_bl⟩
  · exact k1.elim

/-! ### tests -/
abbrev TF := Env → Store → Res Bool
def cTru (fa : EF) : TF := fun en M => bnd (fa en M) fun x M1 => match tru M1 x with | some b => some (.ok b, M1) | none => none
def tAndC (t u : TF) : TF := fun en M => bnd (t en M) fun x M1 => if x = true then u en M1 else some (.ok false, M1)
def tOrC (t u : TF) : TF := fun en M => bnd (t en M) fun x M1 => if x = true then some (.ok true, M1) else u en M1
def tNotC (t : TF) : TF := fun en M => bnd (t en M) fun x M1 => some (.ok (!x), M1)
variable {t u : TF}
theorem et_tru (ha : EvE X W a fa) (he : ∀ whole, isTrue a X.env whole = (do let v ← whole; standAt a.pos; holding [v] (truthy v)) := by intro _; rfl) : EvT X W a (cTru fa) := by
  refine ⟨pt_imp (pt_truth ha.pe he) fun σ H Q h => ?_⟩
  obtain ⟨I, M, en, S, r, k⟩ := h
  refine ⟨I, M, en, S, r, k.bind fun x M1 I1 H1 u e1 S1 r1 k1 => ?_⟩
  split at k1
  · rename_i b q; exact ⟨b, tru_of S1 r1 q, k1.ok S1 rfl⟩
  · exact k1.elim
theorem test_imp {σ : L2.St} {H : Hp} {Q : Bool → Hp → Prop} {te : TE} {f : EF} (i : ∀ Q', TD X.K X.mg W (Rep X.K) f σ H Q' → te σ H Q') (h : TD X.K X.mg W RB (cTru f) σ H Q) (hb : ∀ en M x M', f en M = some (.ok x, M') → ∃ b, x = .bl b) : tTest te σ H Q := by
  obtain ⟨I, M, en, S, r, k⟩ := h
  refine i _ ⟨I, M, en, S, r, ?_⟩
  unfold cTru at k
  revert k
  cases q : f en M with
  | none => exact id
  | some z =>
    obtain ⟨o, M1⟩ := z
    cases o with
    | ex c fs => exact id
    | ok x =>
      obtain ⟨b, rfl⟩ := hb en M x M1 q
      intro k I1 H1 u e1 S1 r1
      simp only [Rep] at r1
      subst r1
      exact ⟨b, rfl, k I1 H1 b e1 S1 rfl⟩
theorem gI_bl {C : Int → Int → Bool} {p : Int → Int → Bool} {f : EF} {g : EF} : ∀ en M x M', cOp (gI C fun i j => .bl (p i j)) f g en M = some (.ok x, M') → ∃ b, x = .bl b := by
  intro en M x M' h
  unfold cOp at h
  match q : f en M, h with
  | some (.ok a, M1), h =>
    have h : bnd (g en M1) (fun y M2 => gI C (fun i j => .bl (p i j)) a y M2) = some (.ok x, M') := h
    match q2 : g en M1, h with
    | some (.ok b, M2), h =>
      have h : gI C (fun i j => .bl (p i j)) a b M2 = some (.ok x, M') := h
      unfold gI at h
      split at h
      · split at h
        · cases h; exact ⟨_, rfl⟩
        · cases h
      · cases h
theorem gB_bl {gg : D → D → Store → Res D} (hg : ∀ a b M x M', gg a b M = some (.ok x, M') → ∃ b, x = .bl b) {f g : EF} : ∀ en M x M', cOp gg f g en M = some (.ok x, M') → ∃ b, x = .bl b := by
  intro en M x M' h
  unfold cOp at h
  match q : f en M, h with
  | some (.ok a, M1), h =>
    have h : bnd (g en M1) (fun y M2 => gg a y M2) = some (.ok x, M') := h
    match q2 : g en M1, h with
    | some (.ok b, M2), h => exact hg a b M2 x M' h
theorem et_cmp {op : CmpOp} {g : D → D → Store → Res D} {r : R2} (ho : OpR X (compareOp op) r) (hg : OpD X.K X.mg W g r) (hb' : ∀ a b M x M', g a b M = some (.ok x, M') → ∃ b, x = .bl b) (ha : EvE X W a fa) (hb : EvE X W b fb) (hm : behindInMarks op b = false) : EvT X W (.Compare a [op] [b] pos) (cTru (cOp g fa fb)) :=
  ⟨pt_imp (pt_cmpR ho ha.pe hb.pe hm) fun _ _ _ h => test_imp (fun _ h' => top_of hg h') h (gB_bl hb')⟩
theorem et_not (h : EvT X W a t) : EvT X W (.UnaryOp .Not a pos) (tNotC t) := by
  refine ⟨pt_imp (pt_not h.pt) fun σ H Q h => ?_⟩
  obtain ⟨I, M, en, S, r, k⟩ := h
  refine ⟨I, M, en, S, r, k.bind fun x M1 I1 H1 u e1 S1 r1 k1 => ?_⟩
  cases r1
  exact k1.ok S1 rfl
theorem et_W (h : EvW X W a t) : EvT X W a t := ⟨h.pw.pt⟩
theorem ew_and1 (h : EvT X W a t) : EvW X W (.BoolOp .And [a] pos) t := ⟨pw_and1 h.pt⟩
theorem ew_or1 (h : EvT X W a t) : EvW X W (.BoolOp .Or [a] pos) t := ⟨pw_or1 h.pt⟩
theorem ew_and (ha : EvT X W a t) (hb : EvW X W (.BoolOp .And (b :: rest) pos) u) : EvW X W (.BoolOp .And (a :: b :: rest) pos) (tAndC t u) := by
  refine ⟨pw_imp (pw_and ha.pt hb.pw) fun σ H Q h => ?_⟩
  obtain ⟨I, M, en, S, r, k⟩ := h
  refine ⟨I, M, en, S, r, k.bind fun x M1 I1 H1 u e1 S1 r1 k1 => ?_⟩
  cases r1
  cases x with
  | true => exact (if_pos rfl).mpr ⟨I1, M1, en, S1, r.mono e1, k1⟩
  | false => exact (if_neg Bool.false_ne_true).mpr (Kp.ok (M := M1) k1 S1 rfl)
theorem ew_or (ha : EvT X W a t) (hb : EvW X W (.BoolOp .Or (b :: rest) pos) u) : EvW X W (.BoolOp .Or (a :: b :: rest) pos) (tOrC t u) := by
  refine ⟨pw_imp (pw_or ha.pt hb.pw) fun σ H Q h => ?_⟩
  obtain ⟨I, M, en, S, r, k⟩ := h
  refine ⟨I, M, en, S, r, k.bind fun x M1 I1 H1 u e1 S1 r1 k1 => ?_⟩
  cases r1
  cases x with
  | true => exact (if_pos rfl).mpr (Kp.ok (M := M1) k1 S1 rfl)
  | false => exact (if_neg Bool.false_ne_true).mpr ⟨I1, M1, en, S1, r.mono e1, k1⟩
def cIf (t : TF) (fa fb : EF) : EF := fun en M => bnd (t en M) fun x M1 => if x = true then fa en M1 else fb en M1
theorem ev_if (hc : EvT X W c t) (ha : EvE X W a fa) (hb : EvE X W b fb) : EvE X W (.IfExp c a b pos) (cIf t fa fb) := by
  refine ⟨pe_imp (pe_ifExp hc.pt ha.pe hb.pe) fun σ H Q h => ?_⟩
  obtain ⟨I, M, en, S, r, k⟩ := h
  refine ⟨I, M, en, S, r, k.bind fun x M1 I1 H1 u e1 S1 r1 k1 => ?_⟩
  cases r1
  cases x with
  | true => exact (if_pos rfl).mpr ⟨I1, M1, en, S1, r.mono e1, k1⟩
  | false => exact (if_neg Bool.false_ne_true).mpr ⟨I1, M1, en, S1, r.mono e1, k1⟩
end
end DL
/-! The data layer, part 3: arguments, displays, subscripts, slices, concatenations, calls of built-ins. -/
namespace DL
open PySem PySem.Spec PyProof.Rows L2
def szOk (n : Nat) : Bool := decide (n ≤ 16777216)
theorem szOk_ok {n : Nat} (h : szOk n = true) : n ≤ sizeLine := by rw [sizeLine_eq]; exact of_decide_eq_true h
section
variable {X : Cx} {W : WX} {K : PySem.W.Frag} {mg : Str → Option Value} {I I' : Ow} {H H' : Hp} {M M' : Store} {σ : L2.St} {en : Env}
variable {a b c e : Expr} {es rest : List Expr} {pos : Pos} {fa fb fc : EF}

/-! ### arguments -/
abbrev AF := Env → Store → Res (List D)
def aNil : AF := fun _ M => some (.ok [], M)
def aCons (fa : EF) (fr : AF) : AF := fun en M => bnd (fa en M) fun x M1 => bnd (fr en M1) fun xs M2 => some (.ok (x :: xs), M2)
variable {fr : AF}
theorem ea_nil : EvA X W [] aNil := ⟨pa_imp pa_nil fun σ H Q ⟨I, M, en, S, r, k⟩ => k.ok S (by simp only [Reps])⟩
theorem ea_cons (ha : EvE X W e fa) (hr : EvA X W es fr) (hs : starEach (e :: es) X.env = (false, eval e X.env) :: starEach es X.env := by rfl) : EvA X W (e :: es) (aCons fa fr) := by
  refine ⟨pa_imp (pa_cons ha.pe hr.pa hs) fun σ H Q h => ?_⟩
  obtain ⟨I, M, en, S, r, k⟩ := h
  refine ⟨I, M, en, S, r, k.bind fun x M1 I1 H1 u e1 S1 r1 k1 => ?_⟩
  refine ⟨I1, M1, en, S1, r.mono e1, k1.bind fun xs M2 I2 H2 us e2 S2 r2 k2 => ?_⟩
  exact Kp.ok (M := M2) k2 S2 (Reps.cons (e2.rep r1) r2)
/-- a new tuple, at a new place -/
theorem rep_newT {p : Addr} {ds : List D} {vs : List V} (S : Sto K I H M) (hp : H p = none) (r : Reps K I H ds vs) : Rep K I (upd H p (.tup vs)) (.tup ds) (.ref p) := by
  simp only [Rep]
  exact ⟨p, vs, rfl, .inl ⟨.inl upd_same, S.fresh hp⟩, (Ext.new hp).reps r⟩
theorem rep_newL {p : Addr} {ds : List D} {vs : List V} (S : Sto K I H M) (hp : H p = none) (r : Reps K I H ds vs) : Rep K I (upd H p (.lst vs)) (.imm ds) (.ref p) := by
  simp only [Rep]
  exact ⟨p, vs, rfl, ⟨upd_same, S.fresh hp⟩, (Ext.new hp).reps r⟩
theorem rep_newC {p : Addr} {vs : List V} (S : Sto K I H M) : Rep K (I.add p) (upd H p (.lst vs)) (.cel M.length) (.ref p) := by
  simp only [Rep]
  exact ⟨p, rfl, by rw [← S.len]; simp [Ow.add]⟩
def cTup (fr : AF) : EF := fun en M => bnd (fr en M) fun ds M1 => if szOk ds.length = true then some (.ok (.tup ds), M1) else none
def cLst (fr : AF) : EF := fun en M => bnd (fr en M) fun ds M1 => if szOk ds.length = true then some (.ok (.imm ds), M1) else none
/-- a list that will be changed -/
def cCel (fr : AF) : EF := fun en M => bnd (fr en M) fun ds M1 => if szOk ds.length = true then some (.ok (.cel M1.length), M1 ++ [ds]) else none
theorem ev_tup {x1} (h : EvA X W es fr) : EvE X W (.Tuple es x1 pos) (cTup fr) := by
  refine ⟨pe_imp (pe_tup h.pa) fun σ H Q h => ?_⟩
  obtain ⟨I, M, en, S, r, k⟩ := h
  refine ⟨I, M, en, S, r, k.bind fun ds M1 I1 H1 vs e1 S1 r1 k1 => ?_⟩
  split at k1
  · rename_i q
    exact ⟨by rw [← r1.length]; exact szOk_ok q, fun p hp => k1.ok' (Ext.new hp) (S1.new hp) (rep_newT S1 hp r1)⟩
  · exact k1.elim
theorem ev_lst (h : EvA X W es fr) : EvE X W (.List es pos) (cLst fr) := by
  refine ⟨pe_imp (pe_lst h.pa) fun σ H Q h => ?_⟩
  obtain ⟨I, M, en, S, r, k⟩ := h
  refine ⟨I, M, en, S, r, k.bind fun ds M1 I1 H1 vs e1 S1 r1 k1 => ?_⟩
  split at k1
  · rename_i q
    exact ⟨by rw [← r1.length]; exact szOk_ok q, fun p hp => k1.ok' (Ext.new hp) (S1.new hp) (rep_newL S1 hp r1)⟩
  · exact k1.elim
theorem ev_cel (h : EvA X W es fr) : EvE X W (.List es pos) (cCel fr) := by
  refine ⟨pe_imp (pe_lst h.pa) fun σ H Q h => ?_⟩
  obtain ⟨I, M, en, S, r, k⟩ := h
  refine ⟨I, M, en, S, r, k.bind fun ds M1 I1 H1 vs e1 S1 r1 k1 => ?_⟩
  split at k1
  · rename_i q
    exact ⟨by rw [← r1.length]; exact szOk_ok q, fun p hp => k1.ok' (Ext.newC hp) (S1.newC hp r1) (rep_newC S1)⟩
  · exact k1.elim

/-! ### the items of a sequence -/
def itemsOf (M : Store) : D → Option (List D)
  | .tup ds => some ds
  | .imm ds => some ds
  | .scr ds => some ds
  | .cel n => M[n]?
  | _ => none
theorem items_of {d : D} {v : V} {ds : List D} (S : Sto K I H M) (r : Rep K I H d v) (h : itemsOf M d = some ds) :
    ∃ p vs, v = .ref p ∧ ((∃ es, d = .tup es) ∧ SqT K H p vs ∨ SqL K H p vs) ∧ Reps K I H ds vs := by
  cases d <;> simp only [itemsOf] at h
  all_goals first | (cases h; done) | skip
  · cases h
    simp only [Rep] at r
    obtain ⟨a, vs, rfl, h2, h3⟩ := r
    exact ⟨a, vs, rfl, .inl ⟨⟨_, rfl⟩, h2.sq⟩, h3⟩
  · cases h
    simp only [Rep] at r
    obtain ⟨a, vs, rfl, h2, h3⟩ := r
    exact ⟨a, vs, rfl, .inr (.inl (.inl h2.1)), h3⟩
  · simp only [Rep] at r
    obtain ⟨a, rfl, h2⟩ := r
    obtain ⟨vs, h3, h4⟩ := S.at_ _ a ds h2 h
    exact ⟨a, vs, rfl, .inr (.inl (.inl h3)), h4⟩
  · cases h
    simp only [Rep] at r
    obtain ⟨a, vs, rfl, h2, h3⟩ := r
    exact ⟨a, vs, rfl, .inr h2.sq, h3⟩

/-! ### subscripts -/
def gIx : D → D → Store → Res D := fun x y M => match y with
  | .int i => match itemsOf M x with
    | some ds => match atI ds i with | some d => some (.ok d, M) | none => none
    | none => match x with
      | .str s => if s.length ≤ sizeLine then (match atI s.cps.toList i with | some c => some (.ok (.str ⟨#[c]⟩), M) | none => none) else none
      | _ => none
  | _ => none
theorem atI_reps {ds : List D} {vs : List V} {i : Int} {d : D} (r : Reps K I H ds vs) (h : atI ds i = some d) : ∃ v, atI vs i = some v ∧ Rep K I H d v := by
  unfold atI at h ⊢
  rw [← r.length]
  cases q : ixN ds.length i with
  | none => rw [q] at h; cases h
  | some j =>
    rw [q] at h
    exact r.get' (i := j) h
theorem opd_ix : OpD K mg W gIx (rIx K) := by
  intro x y M I H u v σ Q S rx ry k
  unfold gIx at k
  split at k
  · simp only [Rep] at ry
    subst ry
    split at k
    · rename_i ds q
      split at k
      · rename_i d q2
        obtain ⟨p, vs, rfl, hs, r⟩ := items_of S rx q
        obtain ⟨v, h1, h2⟩ := atI_reps r q2
        rcases hs with ⟨_, hs⟩ | hs
        · exact .inr (.inl ⟨p, vs, _, v, rfl, rfl, hs, h1, k.ok S h2⟩)
        · exact .inl ⟨p, vs, _, v, rfl, rfl, hs, h1, k.ok S h2⟩
      · exact k.elim
    · split at k
      · split at k
        · rename_i q3
          split at k
          · rename_i c q4
            simp only [Rep] at rx
            exact .inr (.inr ⟨_, _, c, rx, rfl, q3, q4, k.ok S rep_str⟩)
          · exact k.elim
        · exact k.elim
      · exact k.elim
  · exact k.elim
theorem ev_ix (ha : EvE X W a fa) (hb : EvE X W b fb) (hs : PlainIx b := by intro _ _; rfl) : EvE X W (.Subscript a b pos) (cOp gIx fa fb) :=
  ⟨pe_imp (pe_ix ix_seq ha.pe hb.pe hs) fun _ _ _ h => top_of opd_ix h⟩

/-! ### slices -/
abbrev OF := Env → Store → Res (Option Int)
structure EvO (X : Cx) (W : WX) (o : Option Expr) (f : OF) : Prop where
  po : PO X o (TD X.K X.mg W (fun _ _ x y => x = y) f)
def oNone : OF := fun _ M => some (.ok none, M)
def oSome (fa : EF) : OF := fun en M => bnd (fa en M) fun x M1 => match x with | .int i => some (.ok (some i), M1) | _ => none
theorem po_imp {o : Option Expr} {t t' : TO} (h : PO X o t) (i : ∀ σ H Q, t' σ H Q → t σ H Q) : PO X o t' := ⟨fun pins s σ H Q Iv hq => h.run pins s σ H Q Iv (i σ H Q hq)⟩
theorem eo_none : EvO X W none oNone := ⟨po_imp po_none fun σ H Q ⟨I, M, en, S, r, k⟩ => k.ok S rfl⟩
theorem eo_some (h : EvE X W a fa) : EvO X W (some a) (oSome fa) := by
  refine ⟨po_imp (po_some h.pe) fun σ H Q h => ?_⟩
  obtain ⟨I, M, en, S, r, k⟩ := h
  refine ⟨I, M, en, S, r, k.bind fun x M1 I1 H1 u e1 S1 r1 k1 => ?_⟩
  split at k1
  · simp only [Rep] at r1
    exact ⟨_, r1, k1.ok S1 rfl⟩
  · exact k1.elim
def cutD (xs : List D) (lo hi : Option Int) : List D := (xs.drop (HT.sIx xs.length 0 lo)).take (HT.sIx xs.length xs.length hi - HT.sIx xs.length 0 lo)
theorem cut_reps {ds : List D} {vs : List V} (r : Reps K I H ds vs) (lo hi : Option Int) : Reps K I H (cutD ds lo hi) (cutV vs lo hi) := by
  unfold cutD cutV
  rw [r.length]
  exact (r.drop _).take _
theorem cutD_len (ds : List D) (lo hi : Option Int) : (cutD ds lo hi).length ≤ ds.length := by
  unfold cutD
  rw [List.length_take, List.length_drop]
  omega
theorem cutD_whole {ds : List D} {lo hi : Option Int} (h : HT.sIx ds.length 0 lo = 0 ∧ HT.sIx ds.length ds.length hi = ds.length) : cutD ds lo hi = ds := by
  unfold cutD
  rw [h.1, h.2]
  simp
def gSl (lo hi : Option Int) : D → Store → Res D := fun x M => match x with
  | .tup ds => some (.ok (.tup (cutD ds lo hi)), M)
  | .imm ds => some (.ok (.imm (cutD ds lo hi)), M)
  | .scr ds => some (.ok (.imm (cutD ds lo hi)), M)
  | .cel n => match M[n]? with | some ds => some (.ok (.imm (cutD ds lo hi)), M) | none => none
  | .str s => if s.length ≤ sizeLine then some (.ok (.str (cutS s lo hi)), M) else none
  | _ => none
def cSl (fa : EF) (fl fh : OF) : EF := fun en M => bnd (fa en M) fun x M1 => bnd (fl en M1) fun lo M2 => bnd (fh en M2) fun hi M3 => gSl lo hi x M3
abbrev rSlAll (K : PySem.W.Frag) : V → Option Int → Option Int → Hp → VK → Prop := fun x lo hi H Q => rSlA K x lo hi H Q ∨ (rSlL K x lo hi H Q ∨ rSlS x lo hi H Q)
theorem sl_all : SlR X (rSlAll X.K) := SlR.or sl_tupA (SlR.or sl_list sl_str)
theorem gSl_ok {x : D} {u : V} {lo hi : Option Int} {Q : VK} (S : Sto K I H M) (rx : Rep K I H x u) (k : Kp K mg W (Rep K) (gSl lo hi x M) I H σ Q) : rSlAll K u lo hi H Q := by
  unfold gSl at k
  split at k
  · rename_i ds
    simp only [Rep] at rx
    obtain ⟨p, vs, rfl, h2, h3⟩ := rx
    refine .inl ⟨p, vs, rfl, h2.sq, fun hw => ?_, fun _ p' hp => k.ok' (Ext.new hp) (S.new hp) (rep_newT S hp (cut_reps h3 lo hi))⟩
    rw [← h3.length] at hw
    refine k.ok S ?_
    rw [cutD_whole hw]
    simp only [Rep]
    exact ⟨p, vs, rfl, h2, h3⟩
  · rename_i ds
    simp only [Rep] at rx
    obtain ⟨p, vs, rfl, h2, h3⟩ := rx
    exact .inr (.inl ⟨p, vs, rfl, .inl (.inl h2.1), fun p' hp => k.ok' (Ext.new hp) (S.new hp) (rep_newL S hp (cut_reps h3 lo hi))⟩)
  · rename_i ds
    simp only [Rep] at rx
    obtain ⟨p, vs, rfl, h2, h3⟩ := rx
    exact .inr (.inl ⟨p, vs, rfl, h2.sq, fun p' hp => k.ok' (Ext.new hp) (S.new hp) (rep_newL S hp (cut_reps h3 lo hi))⟩)
  · rename_i n
    simp only [Rep] at rx
    obtain ⟨p, rfl, h2⟩ := rx
    split at k
    · rename_i ds q
      obtain ⟨vs, h3, h4⟩ := S.at_ _ p ds h2 q
      exact .inr (.inl ⟨p, vs, rfl, .inl (.inl h3), fun p' hp => k.ok' (Ext.new hp) (S.new hp) (rep_newL S hp (cut_reps h4 lo hi))⟩)
    · exact k.elim
  · simp only [Rep] at rx
    split at k
    · rename_i q
      exact .inr (.inr ⟨_, rx, q, k.ok S rep_str⟩)
    · exact k.elim
  · exact k.elim
theorem ev_slice {lo hi : Option Expr} {p2 : Pos} {fl fh : OF} (ha : EvE X W a fa) (hl : EvO X W lo fl) (hh : EvO X W hi fh) : EvE X W (.Subscript a (.Slice lo hi none p2) pos) (cSl fa fl fh) := by
  refine ⟨pe_imp (pe_slice sl_all ha.pe hl.po hh.po) fun σ H Q h => ?_⟩
  obtain ⟨I, M, en, S, r, k⟩ := h
  refine ⟨I, M, en, S, r, k.bind fun x M1 I1 H1 u e1 S1 r1 k1 => ?_⟩
  refine ⟨I1, M1, en, S1, r.mono e1, k1.bind fun lo M2 I2 H2 lo' e2 S2 r2 k2 => ?_⟩
  refine ⟨I2, M2, en, S2, (r.mono e1).mono e2, k2.bind fun hi M3 I3 H3 hi' e3 S3 r3 k3 => ?_⟩
  subst r2
  subst r3
  exact gSl_ok S3 (e3.rep (e2.rep r1)) k3

/-! ### + and * of ints, of sequences -/
def gAddA : D → D → Store → Res D := fun x y M => match x, y with
  | .int i, .int j => some (.ok (.int (i + j)), M)
  | .tup xs, .tup ys => if szOk (xs.length + ys.length) = true then some (.ok (.tup (xs ++ ys)), M) else none
  | .str s, .str t => if s.length + t.length ≤ sizeLine then some (.ok (.str (s ++ t)), M) else none
  | .imm xs, .imm ys => if szOk (xs.length + ys.length) = true then some (.ok (.imm (xs ++ ys)), M) else none
  | .cel n, .imm ys => match M[n]? with | some xs => if szOk (xs.length + ys.length) = true then some (.ok (.imm (xs ++ ys)), M) else none | none => none
  | .imm xs, .cel n => match M[n]? with | some ys => if szOk (xs.length + ys.length) = true then some (.ok (.imm (xs ++ ys)), M) else none | none => none
  | _, _ => none
abbrev rAddA (K : PySem.W.Frag) : R2 := fun x y H Q => rI0 (fun i j => .int (i + j)) x y H Q ∨ (rCatA K x y H Q ∨ (rCat x y H Q ∨ (∃ i j, x = .str i ∧ y = .str j ∧ i.length + j.length ≤ sizeLine ∧ Q (.str (i ++ j)) H)))
theorem op_addA : OpR X (binaryOp .Add) (rAddA X.K) := OpR.or op_add (OpR.or op_catA (OpR.or op_cat op_add_str))
theorem nil_reps {ds : List D} {vs : List V} (r : Reps K I H ds vs) : vs = [] ↔ ds = [] := by
  have := r.length
  constructor
  · intro h; subst h; exact List.eq_nil_of_length_eq_zero (by simpa using this)
  · intro h; subst h; simpa only [Reps] using r
theorem opd_addA : OpD K mg W gAddA (rAddA K) := by
  intro x y M I H u v σ Q S rx ry k
  unfold gAddA at k
  split at k
  · simp only [Rep] at rx ry
    exact .inl ⟨_, _, rx, ry, k.ok S rep_int⟩
  · rename_i xs ys
    split at k
    · rename_i q
      have rx0 := rx
      have ry0 := ry
      simp only [Rep] at rx ry
      obtain ⟨p, vs, rfl, h2, h3⟩ := rx
      obtain ⟨p', us, rfl, g2, g3⟩ := ry
      refine .inr (.inl ⟨p, p', vs, us, rfl, rfl, h2.sq, g2.sq, by rw [← h3.length, ← g3.length]; exact szOk_ok q, fun h => ?_, fun _ h => ?_, fun _ _ l hl => k.ok' (Ext.new hl) (S.new hl) (rep_newT S hl (h3.append g3))⟩)
      · have hx := (nil_reps h3).mp h
        subst hx
        exact k.ok S (by simpa using ry0)
      · have hy := (nil_reps g3).mp h
        subst hy
        exact k.ok S (by simpa using rx0)
    · exact k.elim
  · simp only [Rep] at rx ry
    split at k
    · rename_i q
      exact .inr (.inr (.inr ⟨_, _, rx, ry, q, k.ok S rep_str⟩))
    · exact k.elim
  · rename_i xs ys
    split at k
    · rename_i q
      simp only [Rep] at rx ry
      obtain ⟨p, vs, rfl, h2, h3⟩ := rx
      obtain ⟨p', us, rfl, g2, g3⟩ := ry
      exact .inr (.inr (.inl ⟨p, p', vs, us, rfl, rfl, h2.1, g2.1, by rw [← h3.length, ← g3.length]; exact szOk_ok q, fun l hl => k.ok' (Ext.new hl) (S.new hl) (rep_newL S hl (h3.append g3))⟩))
    · exact k.elim
  · split at k
    · rename_i xs q0
      split at k
      · rename_i q
        simp only [Rep] at rx ry
        obtain ⟨p, rfl, h2⟩ := rx
        obtain ⟨p', us, rfl, g2, g3⟩ := ry
        obtain ⟨vs, h4, h3⟩ := S.at_ _ p xs h2 q0
        exact .inr (.inr (.inl ⟨p, p', vs, us, rfl, rfl, h4, g2.1, by rw [← h3.length, ← g3.length]; exact szOk_ok q, fun l hl => k.ok' (Ext.new hl) (S.new hl) (rep_newL S hl (h3.append g3))⟩))
      · exact k.elim
    · exact k.elim
  · split at k
    · rename_i ys q0
      split at k
      · rename_i q
        simp only [Rep] at rx ry
        obtain ⟨p', rfl, h2⟩ := ry
        obtain ⟨p, us, rfl, g2, g3⟩ := rx
        obtain ⟨vs, h4, h3⟩ := S.at_ _ p' ys h2 q0
        exact .inr (.inr (.inl ⟨p, p', us, vs, rfl, rfl, g2.1, h4, by rw [← h3.length, ← g3.length]; exact szOk_ok q, fun l hl => k.ok' (Ext.new hl) (S.new hl) (rep_newL S hl (g3.append h3))⟩))
      · exact k.elim
    · exact k.elim
  · exact k.elim
end
end DL
/-! The data layer, part 4: calls of built-ins. -/
namespace DL
open PySem PySem.Spec PyProof.Rows L2
section
variable {X : Cx} {W : WX} {K : PySem.W.Frag} {mg : Str → Option Value} {I I' : Ow} {H H' : Hp} {M M' : Store} {σ : L2.St} {en : Env}
variable {a b c e : Expr} {es rest : List Expr} {pos : Pos} {fa fb fc : EF} {fr : AF}
def cCall (g : List D → Store → Res D) (fr : AF) : EF := fun en M => bnd (fr en M) fun xs M1 => g xs M1
def CallD (K : PySem.W.Frag) (mg : Str → Option Value) (W : WX) (g : List D → Store → Res D) (r : List V → Hp → VK → Prop) : Prop :=
  ∀ xs M I H us σ Q, Sto K I H M → Reps K I H xs us → Kp K mg W (Rep K) (g xs M) I H σ Q → r us H Q
theorem tcb_of {g : List D → Store → Res D} {r : List V → Hp → VK → Prop} (hg : CallD K mg W g r) {Q : VK} (h : TD K mg W (Rep K) (cCall g fr) σ H Q) : tCB r (TD K mg W (Reps K) fr) σ H Q := by
  obtain ⟨I, M, en, S, re, k⟩ := h
  exact ⟨I, M, en, S, re, k.bind fun xs M1 I1 H1 us e1 S1 r1 k1 => hg xs M1 I1 H1 us σ Q S1 r1 k1⟩
theorem ev_callB {x : Str} {p : Pos} {id : String} {g : List D → Store → Res D} {r : List V → Hp → VK → Prop} (hc : CallR X (.builtin id) r) (hd : CallD X.K X.mg W g r) (hg : Gl X x) (hm : X.mg x = none) (hv : bootBuiltins x = some (.builtin id)) (ha : EvA X W (e :: es) fr)
    (hn : x ≠ "__name__" := by decide) (hdb : (x == ("__debug__" : Str)) = false := by decide)
    (he : starEach (e :: es) X.env = (false, eval e X.env) :: starEach es X.env := by rfl) (hpl : (backTo pos (starEach es X.env)).any (·.1) = false := by rfl) : EvE X W (.Call (.Name x p) (e :: es) [] pos) (cCall g fr) :=
  ⟨pe_imp (pe_callB hc hg hm hv ha.pa hn hdb he hpl) fun _ _ _ h => tcb_of hd h⟩
theorem ev_callTy {x : Str} {p : Pos} {T : String} {g : List D → Store → Res D} {r : List V → Hp → VK → Prop} (hc : CallR X (.type T) r) (hd : CallD X.K X.mg W g r) (hg : Gl X x) (hm : X.mg x = none) (hv : bootBuiltins x = some (.type T)) (ha : EvA X W (e :: es) fr)
    (hn : x ≠ "__name__" := by decide) (hdb : (x == ("__debug__" : Str)) = false := by decide)
    (he : starEach (e :: es) X.env = (false, eval e X.env) :: starEach es X.env := by rfl) (hpl : (backTo pos (starEach es X.env)).any (·.1) = false := by rfl) : EvE X W (.Call (.Name x p) (e :: es) [] pos) (cCall g fr) :=
  ⟨pe_imp (pe_callTy hc hg hm hv ha.pa hn hdb he hpl) fun _ _ _ h => tcb_of hd h⟩
theorem CallR.or {f : Value} {r r' : List V → Hp → VK → Prop} (h : CallR X f r) (h' : CallR X f r') : CallR X f (fun xs H Q => r xs H Q ∨ r' xs H Q) := by
  intro pins s σ H xs us Q I rx q
  rcases q with q | q
  · exact h pins s σ H xs us Q I rx q
  · exact h' pins s σ H xs us Q I rx q

/-! ### lists of ints, of bools -/
def intsOf : List D → Option (List Int)
  | [] => some []
  | .int i :: r => match intsOf r with | some l => some (i :: l) | none => none
  | _ => none
def blsOf : List D → Option (List Bool)
  | [] => some []
  | .bl i :: r => match blsOf r with | some l => some (i :: l) | none => none
  | _ => none
theorem ints_of : ∀ {ds : List D} {vs : List V} {ns : List Int}, Reps K I H ds vs → intsOf ds = some ns → vs = ns.map V.int
  | [], vs, ns, r, h => by simp only [Reps] at r; subst r; simp only [intsOf, Option.some.injEq] at h; subst h; rfl
  | d :: ds, vs, ns, r, h => by
    simp only [Reps] at r
    obtain ⟨v, us, rfl, h2, h3⟩ := r
    cases d <;> simp only [intsOf] at h
    all_goals first | (cases h; done) | skip
    split at h
    · rename_i l q
      cases h
      simp only [Rep] at h2
      rw [h2, ints_of h3 q]
      rfl
    · cases h
theorem bls_of : ∀ {ds : List D} {vs : List V} {ns : List Bool}, Reps K I H ds vs → blsOf ds = some ns → vs = ns.map V.bl
  | [], vs, ns, r, h => by simp only [Reps] at r; subst r; simp only [blsOf, Option.some.injEq] at h; subst h; rfl
  | d :: ds, vs, ns, r, h => by
    simp only [Reps] at r
    obtain ⟨v, us, rfl, h2, h3⟩ := r
    cases d <;> simp only [blsOf] at h
    all_goals first | (cases h; done) | skip
    split at h
    · rename_i l q
      cases h
      simp only [Rep] at h2
      rw [h2, bls_of h3 q]
      rfl
    · cases h
theorem reps1 {d : D} {us : List V} (r : Reps K I H [d] us) : ∃ u, us = [u] ∧ Rep K I H d u := by
  simp only [Reps] at r
  obtain ⟨v, _, rfl, h2, rfl⟩ := r
  exact ⟨v, rfl, h2⟩
theorem reps2 {d d' : D} {us : List V} (r : Reps K I H [d, d'] us) : ∃ u u', us = [u, u'] ∧ Rep K I H d u ∧ Rep K I H d' u' := by
  simp only [Reps] at r
  obtain ⟨v, _, rfl, h2, v', _, rfl, h3, rfl⟩ := r
  exact ⟨v, v', rfl, h2, h3⟩

/-! ### len, tuple, list -/
def gLen : List D → Store → Res D := fun xs M => match xs with
  | [.str s] => if s.length ≤ sizeLine then some (.ok (.int s.length), M) else none
  | [d] => match itemsOf M d with | some ds => some (.ok (.int ds.length), M) | none => none
  | _ => none
theorem cd_len : CallD K mg W gLen (fun xs H Q => ∃ x n, xs = [x] ∧ LenV K x H n ∧ Q (.int n) H) := by
  intro xs M I H us σ Q S r k
  unfold gLen at k
  split at k
  · obtain ⟨u, rfl, h⟩ := reps1 r
    simp only [Rep] at h
    subst h
    split at k
    · rename_i q
      exact ⟨_, _, rfl, ⟨q, rfl⟩, k.ok S rep_int⟩
    · exact k.elim
  · obtain ⟨u, rfl, h⟩ := reps1 r
    split at k
    · rename_i ds q
      obtain ⟨p, vs, rfl, hs, g⟩ := items_of S h q
      refine ⟨_, vs.length, rfl, ?_, by rw [← g.length]; exact k.ok S rep_int⟩
      rcases hs with ⟨_, hs⟩ | hs
      · exact .inr ⟨vs, hs, rfl⟩
      · exact .inl ⟨vs, hs, rfl⟩
    · exact k.elim
  · exact k.elim
def gTuple : List D → Store → Res D := fun xs M => match xs with
  | [.tup ds] => some (.ok (.tup ds), M)
  | [d] => match itemsOf M d with | some ds => some (.ok (.tup ds), M) | none => none
  | _ => none
theorem cd_tuple : CallD K mg W gTuple (fun xs H Q => ∃ p ys, xs = [.ref p] ∧ ((SqL K H p ys ∧ ∀ l, H l = none → Q (.ref l) (upd H l (.tup ys))) ∨ (SqT K H p ys ∧ Q (.ref p) H))) := by
  intro xs M I H us σ Q S r k
  unfold gTuple at k
  split at k
  · rename_i ds
    obtain ⟨u, rfl, h⟩ := reps1 r
    have h0 := h
    simp only [Rep] at h
    obtain ⟨p, vs, rfl, h2, h3⟩ := h
    exact ⟨p, vs, rfl, .inr ⟨h2.sq, k.ok S h0⟩⟩
  · rename_i d hd
    obtain ⟨u, rfl, h⟩ := reps1 r
    split at k
    · rename_i ds q
      obtain ⟨p, vs, rfl, hs, g⟩ := items_of S h q
      rcases hs with ⟨⟨es, he⟩, hs⟩ | hs
      · exact (hd es he).elim
      · exact ⟨p, vs, rfl, .inl ⟨hs, fun l hl => k.ok' (Ext.new hl) (S.new hl) (rep_newT S hl g)⟩⟩
    · exact k.elim
  · exact k.elim
abbrev rListOf (K : PySem.W.Frag) : List V → Hp → VK → Prop := fun xs H Q => ∃ p ys, xs = [.ref p] ∧ (SqL K H p ys ∨ SqT K H p ys) ∧ ∀ l, H l = none → Q (.ref l) (upd H l (.lst ys))
def gList : List D → Store → Res D := fun xs M => match xs with
  | [d] => match itemsOf M d with | some ds => some (.ok (.imm ds), M) | none => none
  | _ => none
theorem cd_list : CallD K mg W gList (rListOf K) := by
  intro xs M I H us σ Q S r k
  unfold gList at k
  split at k
  · obtain ⟨u, rfl, h⟩ := reps1 r
    split at k
    · rename_i ds q
      obtain ⟨p, vs, rfl, hs, g⟩ := items_of S h q
      exact ⟨p, vs, rfl, hs.elim (fun h => .inr h.2) .inl, fun l hl => k.ok' (Ext.new hl) (S.new hl) (rep_newL S hl g)⟩
    · exact k.elim
  · exact k.elim
def gListC : List D → Store → Res D := fun xs M => match xs with
  | [d] => match itemsOf M d with | some ds => some (.ok (.cel M.length), M ++ [ds]) | none => none
  | _ => none
theorem cd_listC : CallD K mg W gListC (rListOf K) := by
  intro xs M I H us σ Q S r k
  unfold gListC at k
  split at k
  · obtain ⟨u, rfl, h⟩ := reps1 r
    split at k
    · rename_i ds q
      obtain ⟨p, vs, rfl, hs, g⟩ := items_of S h q
      exact ⟨p, vs, rfl, hs.elim (fun h => .inr h.2) .inl, fun l hl => k.ok' (Ext.newC hl) (S.newC hl g) (rep_newC S)⟩
    · exact k.elim
  · exact k.elim

/-! ### sum, any, all, abs, int, max, min -/
def gSum : List D → Store → Res D := fun xs M => match xs with
  | [.imm ds] => match intsOf ds with | some ns => some (.ok (.int ns.sum), M) | none => none
  | _ => none
theorem cd_sum : CallD K mg W gSum (rSum K) := by
  intro xs M I H us σ Q S r k
  unfold gSum at k
  split at k
  · obtain ⟨u, rfl, h⟩ := reps1 r
    split at k
    · rename_i ns q
      simp only [Rep] at h
      obtain ⟨p, vs, rfl, h2, h3⟩ := h
      exact ⟨p, ns, rfl, .inl (.inl (by rw [← ints_of h3 q]; exact h2.1)), k.ok S rep_int⟩
    · exact k.elim
  · exact k.elim
def gAny : List D → Store → Res D := fun xs M => match xs with
  | [.imm ds] => match blsOf ds with | some ns => some (.ok (.bl (ns.any id)), M) | none => none
  | _ => none
def gAll : List D → Store → Res D := fun xs M => match xs with
  | [.imm ds] => match blsOf ds with | some ns => some (.ok (.bl (ns.all id)), M) | none => none
  | _ => none
theorem cd_any : CallD K mg W gAny (rAny K) := by
  intro xs M I H us σ Q S r k
  unfold gAny at k
  split at k
  · obtain ⟨u, rfl, h⟩ := reps1 r
    split at k
    · rename_i ns q
      simp only [Rep] at h
      obtain ⟨p, vs, rfl, h2, h3⟩ := h
      exact ⟨p, ns, rfl, .inl (.inl (by rw [← bls_of h3 q]; exact h2.1)), k.ok S rep_bl⟩
    · exact k.elim
  · exact k.elim
theorem cd_all : CallD K mg W gAll (rAll K) := by
  intro xs M I H us σ Q S r k
  unfold gAll at k
  split at k
  · obtain ⟨u, rfl, h⟩ := reps1 r
    split at k
    · rename_i ns q
      simp only [Rep] at h
      obtain ⟨p, vs, rfl, h2, h3⟩ := h
      exact ⟨p, ns, rfl, .inl (.inl (by rw [← bls_of h3 q]; exact h2.1)), k.ok S rep_bl⟩
    · exact k.elim
  · exact k.elim
def gAbs : List D → Store → Res D := fun xs M => match xs with | [.int i] => some (.ok (.int (if i < 0 then -i else i)), M) | _ => none
theorem cd_abs : CallD K mg W gAbs (fun xs H Q => ∃ i, xs = [.int i] ∧ Q (.int (if i < 0 then -i else i)) H) := by
  intro xs M I H us σ Q S r k
  unfold gAbs at k
  split at k
  · obtain ⟨u, rfl, h⟩ := reps1 r
    simp only [Rep] at h
    subst h
    exact ⟨_, rfl, k.ok S rep_int⟩
  · exact k.elim
def gInt : List D → Store → Res D := fun xs M => match xs with
  | [.int i] => some (.ok (.int i), M)
  | [.bl k] => some (.ok (.int (if k = true then 1 else 0)), M)
  | _ => none
theorem cd_int : CallD K mg W gInt (fun xs H Q => (∃ i, xs = [.int i] ∧ Q (.int i) H) ∨ ∃ k, xs = [.bl k] ∧ Q (.int (if k then 1 else 0)) H) := by
  intro xs M I H us σ Q S r k
  unfold gInt at k
  split at k
  · obtain ⟨u, rfl, h⟩ := reps1 r
    simp only [Rep] at h
    subst h
    exact .inl ⟨_, rfl, k.ok S rep_int⟩
  · obtain ⟨u, rfl, h⟩ := reps1 r
    simp only [Rep] at h
    subst h
    exact .inr ⟨_, rfl, k.ok S rep_int⟩
  · exact k.elim
/-- the greatest, the least -/
def topI (f : Int → Int → Int) : List Int → Option Int
  | [] => none
  | [x] => some x
  | x :: r => (topI f r).map (f x)
def gMax : List D → Store → Res D := fun xs M => match xs with
  | [.int i, .int j] => some (.ok (.int (if j > i then j else i)), M)
  | [.imm ds] => match intsOf ds with | some ns => (match topI max ns with | some m => some (.ok (.int m), M) | none => none) | none => none
  | _ => none
def gMin : List D → Store → Res D := fun xs M => match xs with
  | [.int i, .int j] => some (.ok (.int (if j < i then j else i)), M)
  | [.imm ds] => match intsOf ds with | some ns => (match topI min ns with | some m => some (.ok (.int m), M) | none => none) | none => none
  | _ => none
theorem topI_max : ∀ {l : List Int} {m : Int}, topI max l = some m → m ∈ l ∧ ∀ y ∈ l, y ≤ m
  | [], m, h => by simp [topI] at h
  | [x], m, h => by simp [topI] at h; subst h; simp
  | x :: y :: r, m, h => by
    simp only [topI, Option.map_eq_some_iff] at h
    obtain ⟨z, h1, h2⟩ := h
    have h1' : topI max (y :: r) = some z := by simpa [topI] using h1
    obtain ⟨a, b⟩ := topI_max h1'
    subst h2
    refine ⟨?_, fun w hw => ?_⟩
    · rcases Int.le_total x z with q | q
      · rw [Int.max_eq_right q]; exact List.mem_cons_of_mem _ a
      · rw [Int.max_eq_left q]; exact List.mem_cons_self
    · rcases List.mem_cons.mp hw with e | e
      · subst e; exact Int.le_max_left _ _
      · exact Int.le_trans (b w e) (Int.le_max_right _ _)
theorem topI_min : ∀ {l : List Int} {m : Int}, topI min l = some m → m ∈ l ∧ ∀ y ∈ l, m ≤ y
  | [], m, h => by simp [topI] at h
  | [x], m, h => by simp [topI] at h; subst h; simp
  | x :: y :: r, m, h => by
    simp only [topI, Option.map_eq_some_iff] at h
    obtain ⟨z, h1, h2⟩ := h
    have h1' : topI min (y :: r) = some z := by simpa [topI] using h1
    obtain ⟨a, b⟩ := topI_min h1'
    subst h2
    refine ⟨?_, fun w hw => ?_⟩
    · rcases Int.le_total x z with q | q
      · rw [Int.min_eq_left q]; exact List.mem_cons_self
      · rw [Int.min_eq_right q]; exact List.mem_cons_of_mem _ a
    · rcases List.mem_cons.mp hw with e | e
      · subst e; exact Int.min_le_left _ _
      · exact Int.le_trans (Int.min_le_right _ _) (b w e)
abbrev rMaxA (K : PySem.W.Frag) : List V → Hp → VK → Prop := fun xs H Q => (∃ i j, xs = [.int i, .int j] ∧ Q (.int (if j > i then j else i)) H) ∨ rMax K xs H Q
abbrev rMinA (K : PySem.W.Frag) : List V → Hp → VK → Prop := fun xs H Q => (∃ i j, xs = [.int i, .int j] ∧ Q (.int (if j < i then j else i)) H) ∨ rMin K xs H Q
theorem cr_maxA (hc : X.calm = true) : CallR X (.builtin "max") (rMaxA X.K) := CallR.or (call_max2 hc) (cr_max hc)
theorem cr_minA (hc : X.calm = true) : CallR X (.builtin "min") (rMinA X.K) := CallR.or (call_min2 hc) (cr_min hc)
theorem cd_max : CallD K mg W gMax (rMaxA K) := by
  intro xs M I H us σ Q S r k
  unfold gMax at k
  split at k
  · obtain ⟨u, u', rfl, h, h'⟩ := reps2 r
    simp only [Rep] at h h'
    subst h; subst h'
    exact .inl ⟨_, _, rfl, k.ok S rep_int⟩
  · obtain ⟨u, rfl, h⟩ := reps1 r
    split at k
    · rename_i ns q
      split at k
      · rename_i m q2
        simp only [Rep] at h
        obtain ⟨p, vs, rfl, h2, h3⟩ := h
        obtain ⟨m1, m2⟩ := topI_max q2
        refine .inr ⟨p, ns, rfl, .inl (.inl (by rw [← ints_of h3 q]; exact h2.1)), List.length_pos_of_mem m1, fun m' h1 h2' => ?_⟩
        have e : m' = m := Int.le_antisymm (m2 m' h1) (h2' m m1)
        subst e
        exact k.ok S rep_int
      · exact k.elim
    · exact k.elim
  · exact k.elim
theorem cd_min : CallD K mg W gMin (rMinA K) := by
  intro xs M I H us σ Q S r k
  unfold gMin at k
  split at k
  · obtain ⟨u, u', rfl, h, h'⟩ := reps2 r
    simp only [Rep] at h h'
    subst h; subst h'
    exact .inl ⟨_, _, rfl, k.ok S rep_int⟩
  · obtain ⟨u, rfl, h⟩ := reps1 r
    split at k
    · rename_i ns q
      split at k
      · rename_i m q2
        simp only [Rep] at h
        obtain ⟨p, vs, rfl, h2, h3⟩ := h
        obtain ⟨m1, m2⟩ := topI_min q2
        refine .inr ⟨p, ns, rfl, .inl (.inl (by rw [← ints_of h3 q]; exact h2.1)), List.length_pos_of_mem m1, fun m' h1 h2' => ?_⟩
        have e : m' = m := Int.le_antisymm (h2' m m1) (m2 m' h1)
        subst e
        exact k.ok S rep_int
      · exact k.elim
    · exact k.elim
  · exact k.elim

/-! ### isinstance of a built-in class -/
def tyOf : D → Option String
  | .non => some "NoneType"
  | .bl _ => some "bool"
  | .int _ => some "int"
  | .str _ => some "str"
  | .tup _ => some "tuple"
  | .imm _ => some "list"
  | .cel _ => some "list"
  | .scr _ => none
  | .ty _ => none
theorem ty_of {d : D} {v : V} {n : String} (S : Sto K I H M) (hM : ∀ m, d = .cel m → m < M.length) (r : Rep K I H d v) (h : tyOf d = some n) : TyX K H v (.type n) := by
  cases d <;> simp only [tyOf] at h
  all_goals first | (cases h; done) | skip
  · cases h; simp only [Rep] at r; subst r; exact .base .non
  · cases h; simp only [Rep] at r; subst r; exact .base (.bl _)
  · cases h; simp only [Rep] at r; subst r; exact .base (.int _)
  · cases h; simp only [Rep] at r; subst r; exact .base (.str _)
  · cases h
    simp only [Rep] at r
    obtain ⟨a, vs, rfl, h2, h3⟩ := r
    rcases h2 with ⟨h2 | ⟨o, h2⟩, _⟩ | ⟨o, its, m, h4, h5, _⟩
    · exact .base (.tup h2)
    · exact .fTuple h2
    · exact .kTuple h4 h5
  · cases h
    simp only [Rep] at r
    obtain ⟨a, vs, rfl, h2, h3⟩ := r
    exact .base (.lst h2.1)
  · cases h
    rename_i m
    have hm := hM m rfl
    simp only [Rep] at r
    obtain ⟨a, rfl, h2⟩ := r
    obtain ⟨vs, h3, _⟩ := S.at_ m a M[m] h2 (List.getElem?_eq_getElem hm)
    exact .base (.lst h3)
def isiB (a b : String) : Option Bool := if a = b then some true else
  match a, b with
  | "bool", "int" => some true
  | "NoneType", "int" => some false | "NoneType", "bool" => some false | "NoneType", "str" => some false | "NoneType", "tuple" => some false | "NoneType", "list" => some false
  | "bool", "str" => some false | "bool", "tuple" => some false | "bool", "list" => some false
  | "int", "bool" => some false | "int", "str" => some false | "int", "tuple" => some false | "int", "list" => some false
  | "str", "int" => some false | "str", "bool" => some false | "str", "tuple" => some false | "str", "list" => some false
  | "tuple", "int" => some false | "tuple", "bool" => some false | "tuple", "str" => some false | "tuple", "list" => some false
  | "list", "int" => some false | "list", "bool" => some false | "list", "str" => some false | "list", "tuple" => some false
  | _, _ => none
end
end DL
/-! The data layer, part 5: isinstance, targets, what is walked, comprehensions. -/
namespace DL
open PySem PySem.Spec PyProof.Rows L2
theorem isiB_ok {K : PySem.W.Frag} {a b : String} {r : Bool} (h : isiB a b = some r) (hb : b = "int" ∨ b = "bool" ∨ b = "str" ∨ b = "tuple" ∨ b = "list")
    (ha : a = "NoneType" ∨ a = "bool" ∨ a = "int" ∨ a = "str" ∨ a = "tuple" ∨ a = "list") : PySem.W.kitOne K (.type a) (.type b) = some r := by
  refine kit_ty ?_
  rcases ha with rfl | rfl | rfl | rfl | rfl | rfl <;> rcases hb with rfl | rfl | rfl | rfl | rfl <;> (rw [← h]; decide +kernel)
section
variable {X : Cx} {W : WX} {K : PySem.W.Frag} {mg : Str → Option Value} {I I' : Ow} {H H' : Hp} {M M' : Store} {σ : L2.St} {en : Env}
variable {a b c e tg : Expr} {es rest : List Expr} {pos : Pos} {fa fb fc : EF} {fr : AF}
def celOk (M : Store) : D → Bool
  | .cel m => decide (m < M.length)
  | _ => true
def tyKnown (n : String) : Bool := n == "int" || n == "bool" || n == "str" || n == "tuple" || n == "list"
def gIsi : List D → Store → Res D := fun xs M => match xs with
  | [d, .ty n] => match tyOf d with
    | some t => if (celOk M d && tyKnown n) = true then (match isiB t n with | some b => some (.ok (.bl b), M) | none => none) else none
    | none => none
  | _ => none
theorem tyOf_known {d : D} {t : String} (h : tyOf d = some t) : t = "NoneType" ∨ t = "bool" ∨ t = "int" ∨ t = "str" ∨ t = "tuple" ∨ t = "list" := by
  cases d <;> simp only [tyOf] at h <;> first | (cases h; simp; done) | cases h
theorem cd_isi : CallD K mg W gIsi (rIsi K) := by
  intro xs M I H us σ Q S r k
  unfold gIsi at k
  split at k
  · obtain ⟨u, u', rfl, h, h'⟩ := reps2 r
    split at k
    · rename_i d n _ t q
      split at k
      · rename_i q2
        rw [Bool.and_eq_true] at q2
        split at k
        · rename_i b q3
          simp only [Rep] at h'
          subst h'
          have hb : n = "int" ∨ n = "bool" ∨ n = "str" ∨ n = "tuple" ∨ n = "list" := by
            have := q2.2
            unfold tyKnown at this
            simpa [or_assoc] using this
          refine ⟨u, _, _, _, b, rfl, .ty _, ty_of S (fun m hm => ?_) h q, isiB_ok q3 hb (tyOf_known q), k.ok S rep_bl⟩
          have := q2.1
          subst hm
          exact of_decide_eq_true this
        · exact k.elim
      · exact k.elim
    · exact k.elim
  · exact k.elim

/-! ### targets -/
abbrev GF := D → Env → Store → Option (Env × Store)
def TG_ (K : PySem.W.Frag) (Sl : List Nat) (g : GF) : TG := fun v σ H Q => ∃ I M en d, Sto K I H M ∧ RepE K I H en σ ∧ Rep K I H d v ∧
  match g d en M with
  | none => False
  | some (en', M') => ∀ I' H' σ', Ext I H I' H' → Sto K I' H' M' → RepE K I' H' en' σ' → σ'.length = σ.length → (∀ k, k ∉ Sl → σ'[k]? = σ[k]?) → Q σ' H'
structure EvG (X : Cx) (tg : Expr) (Sl : List Nat) (g : GF) : Prop where
  pg : PG X tg (TG_ X.K Sl g)
theorem pg_imp {t t' : TG} (h : PG X tg t) (i : ∀ v σ H Q, t' v σ H Q → t v σ H Q) : PG X tg t' := ⟨fun pins s σ H v u Q Iv r hq => h.run pins s σ H v u Q Iv r (i v σ H Q hq)⟩
def gN (i : Nat) : GF := fun d en M => some (en.set i (some d), M)
theorem eg_name {i : Nat} {x : Str} (hN : X.N.Nodup) (hi : X.N[i]? = some x) (hx : Loc X.env.scope x) (hf : X.fn x = true ∨ X.env.scope.names.lookup x = some .local := by first | exact .inl rfl | exact .inr rfl | assumption) : EvG X (.Name x pos) [i] (gN i) := by
  refine ⟨pg_imp (pg_name hN hi hx hf) fun v σ H Q h => ?_⟩
  obtain ⟨I, M, en, d, S, r, rd, k⟩ := h
  refine k I H _ Ext.refl S (r.set i rd) (by simp) fun j hj => ?_
  rw [List.getElem?_set_ne (fun z => hj (by simp [z]))]
/-- several targets -/
abbrev GsF := List D → Env → Store → Option (Env × Store)
def TGs_ (K : PySem.W.Frag) (Sl : List Nat) (g : GsF) : TGs := fun vs σ H Q => ∃ I M en ds, Sto K I H M ∧ RepE K I H en σ ∧ Reps K I H ds vs ∧
  match g ds en M with
  | none => False
  | some (en', M') => ∀ I' H' σ', Ext I H I' H' → Sto K I' H' M' → RepE K I' H' en' σ' → σ'.length = σ.length → (∀ k, k ∉ Sl → σ'[k]? = σ[k]?) → Q σ' H'
structure EvGs (X : Cx) (ts : List Expr) (Sl : List Nat) (g : GsF) : Prop where
  pgs : PGs X ts (TGs_ X.K Sl g)
theorem pgs_imp {ts : List Expr} {t t' : TGs} (h : PGs X ts t) (i : ∀ v σ H Q, t' v σ H Q → t v σ H Q) : PGs X ts t' := ⟨fun pins s σ H v u Q Iv r hq => h.run pins s σ H v u Q Iv r (i v σ H Q hq)⟩
def gNilC : GsF := fun ds en M => match ds with | [] => some (en, M) | _ => none
def gConsC (g : GF) (gs : GsF) : GsF := fun ds en M => match ds with
  | d :: r => match g d en M with | some (en1, M1) => gs r en1 M1 | none => none
  | [] => none
theorem egs_nil : EvGs X [] [] gNilC := by
  refine ⟨pgs_imp pgs_nil fun vs σ H Q h => ?_⟩
  obtain ⟨I, M, en, ds, S, r, rd, k⟩ := h
  cases ds with
  | nil =>
    simp only [Reps] at rd
    exact ⟨rd, k I H σ Ext.refl S r rfl fun _ _ => rfl⟩
  | cons d ds => exact k.elim
theorem egs_cons {S1 S2 : List Nat} {g : GF} {gs : GsF} (h1 : EvG X e S1 g) (h2 : EvGs X es S2 gs)
    (hs : (assignEach (e :: es) X.env).map (·.2) = assign e X.env :: (assignEach es X.env).map (·.2) := by rfl) : EvGs X (e :: es) (S1 ++ S2) (gConsC g gs) := by
  refine ⟨pgs_imp (pgs_cons h1.pg h2.pgs hs) fun vs σ H Q h => ?_⟩
  obtain ⟨I, M, en, ds, S, r, rd, k⟩ := h
  cases ds with
  | nil => exact k.elim
  | cons d ds =>
    simp only [Reps] at rd
    obtain ⟨v, us, rfl, rd1, rd2⟩ := rd
    refine ⟨v, us, rfl, I, M, en, d, S, r, rd1, ?_⟩
    unfold gConsC at k
    dsimp only at k
    revert k
    cases q : g d en M with
    | none => exact id
    | some z =>
      obtain ⟨en1, M1⟩ := z
      intro k I1 H1 σ1 e1 S1' r1 l1 o1
      refine ⟨I1, M1, en1, ds, S1', r1, e1.reps rd2, ?_⟩
      revert k
      dsimp only
      cases q2 : gs ds en1 M1 with
      | none => exact id
      | some z2 =>
        intro k I2 H2 σ2 e2 S2' r2 l2 o2
        refine k I2 H2 σ2 (e1.trans e2) S2' r2 (l2.trans l1) fun j hj => ?_
        rw [o2 j fun z => hj (List.mem_append_right _ z), o1 j fun z => hj (List.mem_append_left _ z)]
/-- (a, b, ..) = a tuple or a list of that length -/
def gTupC (n : Nat) (gs : GsF) : GF := fun d en M => match itemsOf M d with
  | some ds => if ds.length = n then gs ds en M else none
  | none => none
theorem PG.or {t t' : TG} (h : PG X tg t) (h' : PG X tg t') : PG X tg (fun v σ H Q => t v σ H Q ∨ t' v σ H Q) := ⟨fun pins s σ H v u Q Iv r hq => hq.elim (h.run pins s σ H v u Q Iv r) (h'.run pins s σ H v u Q Iv r)⟩
theorem eg_tup {k n : Nat} {Sl : List Nat} {gs : GsF} (hc : X.calm = true) (h : EvGs X es Sl gs) (hn : (assignEach es X.env).length = n := by rfl) (hst : (assignEach es X.env).findIdx? (·.1) = none := by rfl) : EvG X (.Tuple es k pos) Sl (gTupC n gs) := by
  refine ⟨pg_imp (PG.or (pg_tup hc h.pgs hn hst) (pg_lst hc h.pgs hn hst)) fun v σ H Q hh => ?_⟩
  obtain ⟨I, M, en, d, S, r, rd, k⟩ := hh
  unfold gTupC at k
  revert k
  cases q : itemsOf M d with
  | none => exact False.elim
  | some ds =>
    dsimp only
    by_cases ql : ds.length = n
    · rw [if_pos ql]
      intro k
      obtain ⟨p, vs, rfl, hs, g⟩ := items_of S rd q
      rcases hs with ⟨_, hs⟩ | hs
      · exact .inl ⟨p, vs, rfl, hs, by rw [← g.length]; exact ql, I, M, en, ds, S, r, g, k⟩
      · exact .inr ⟨p, vs, rfl, hs, by rw [← g.length]; exact ql, I, M, en, ds, S, r, g, k⟩
    · rw [if_neg ql]
      exact False.elim

/-! ### what is walked -/
def IterR (K : PySem.W.Frag) (I0 : Ow) (H0 : Hp) (ds : List D) (J : It) : Prop :=
  ∀ I H M, Ext I0 H0 I H → Sto K I H M → ∀ i, (∀ d, ds[i]? = some d → J.go i H ∧ ∀ x H', J.yld i H x H' → (H' = H ∨ ∃ p o, H p = none ∧ H' = upd H p o) ∧ Rep K I H' d x) ∧ (ds.length ≤ i → J.stop i H)
def TI_ (K : PySem.W.Frag) (mg : Str → Option Value) (W : WX) (f : AF) : TI := TD K mg W (fun I H ds J => IterR K I H ds J) f
structure EvI (X : Cx) (W : WX) (tg iter : Expr) (f : AF) : Prop where
  pi : PI X tg iter (TI_ X.K X.mg W f)
theorem pi_imp {iter : Expr} {t t' : TI} (h : PI X tg iter t) (i : ∀ σ H Q, t' σ H Q → t σ H Q) : PI X tg iter t' := ⟨fun pins s σ H R Iv hq => h.run pins s σ H R Iv (i σ H R hq)⟩
/-- a list or a tuple -/
def iSeqR (K : PySem.W.Frag) (tl : TE) : TI := fun σ H R => tl σ H fun x H1 => ∃ p, x = .ref p ∧ (((∃ xs, SqL K H1 p xs) ∧ R (Itl K p) H1) ∨ ((∃ xs, SqT K H1 p xs) ∧ R (Itt K p) H1))
theorem pi_seqR {l : Expr} {tl : TE} (hl : PE X l tl) : PI X tg l (iSeqR X.K tl) := by
  refine ⟨fun pins s σ H R Iv hw => ?_⟩
  refine thn (hl.run pins s σ H _ Iv hw) fun v s1 ⟨x, H1, I1, r1, p, e, q1⟩ => ?_
  subst e
  cases r1
  rcases q1 with ⟨⟨xs, hq⟩, q⟩ | ⟨⟨xs, hq⟩, q⟩
  · obtain ⟨_, _, pl, _⟩ := I1.list hq
    refine wpAny_pyIter_list pl.isList ⟨_, [s1.heap.objs.size], _, _, H1, rfl, I1.kept (t' := s1.toks) (fun _ _ z => Heap.get?_push_of_some _ z), turn_list p _, ⟨_, Heap.get?_push_size _ rfl, rfl, rfl⟩, fun b hb => ?_, q⟩
    cases List.mem_singleton.mp hb
    exact I1.fpOk (Nat.le_refl _) (I1.hok.fresh (Nat.le_refl _))
  · obtain ⟨its, _, pt, _⟩ := I1.tuple hq
    refine wpAny_pyIter_tuple (show s1.heap.IsTuple p its.toArray from pt) ⟨_, [s1.heap.objs.size], _, _, H1, rfl, I1.kept (t' := s1.toks) (fun _ _ z => Heap.get?_push_of_some _ z), turn_tuple p _, ⟨_, Heap.get?_push_size _ rfl, rfl, rfl⟩, fun b hb => ?_, q⟩
    cases List.mem_singleton.mp hb
    exact I1.fpOk (Nat.le_refl _) (I1.hok.fresh (Nat.le_refl _))
/-- the items of a value that is no list of the store -/
def iSeq (fa : EF) : AF := fun en M => bnd (fa en M) fun x M1 => match x with
  | .tup ds => some (.ok ds, M1)
  | .imm ds => some (.ok ds, M1)
  | .scr ds => some (.ok ds, M1)
  | _ => none
theorem iterR_L {p : Addr} {vs : List V} {ds : List D} (h : LstA K I H p vs) (r : Reps K I H ds vs) : IterR K I H ds (Itl K p) := by
  intro I1 H1 M1 e1 S1 i
  have h1 := (e1.lstA h).sq
  have r1 := e1.reps r
  refine ⟨fun d hd => ?_, fun hl => ⟨vs, h1, by rw [← r.length]; exact hl⟩⟩
  obtain ⟨v, hv, rv⟩ := r1.get' hd
  refine ⟨⟨vs, v, h1, hv⟩, fun x H' hy => ?_⟩
  obtain ⟨rfl, hx⟩ := hy
  have z := hx vs h1
  rw [hv] at z
  cases z
  exact ⟨.inl rfl, rv⟩
theorem iterR_T {p : Addr} {vs : List V} {ds : List D} (h : TupA K I H p vs) (r : Reps K I H ds vs) : IterR K I H ds (Itt K p) := by
  intro I1 H1 M1 e1 S1 i
  have h1 := (e1.tupA h).sq
  have r1 := e1.reps r
  refine ⟨fun d hd => ?_, fun hl => ⟨vs, h1, by rw [← r.length]; exact hl⟩⟩
  obtain ⟨v, hv, rv⟩ := r1.get' hd
  refine ⟨⟨vs, v, h1, hv⟩, fun x H' hy => ?_⟩
  obtain ⟨rfl, hx⟩ := hy
  have z := hx vs h1
  rw [hv] at z
  cases z
  exact ⟨.inl rfl, rv⟩
theorem ei_seq (ha : EvE X W a fa) : EvI X W tg a (iSeq fa) := by
  refine ⟨pi_imp (pi_seqR ha.pe) fun σ H R h => ?_⟩
  obtain ⟨I, M, en, S, r, k⟩ := h
  refine ⟨I, M, en, S, r, k.bind fun x M1 I1 H1 u e1 S1 r1 k1 => ?_⟩
  split at k1
  · simp only [Rep] at r1
    obtain ⟨p, vs, rfl, h2, h3⟩ := r1
    exact ⟨p, rfl, .inr ⟨⟨vs, h2.sq⟩, k1.ok S1 (iterR_T h2 h3)⟩⟩
  · simp only [Rep] at r1
    obtain ⟨p, vs, rfl, h2, h3⟩ := r1
    exact ⟨p, rfl, .inl ⟨⟨vs, .inl (.inl h2.1)⟩, k1.ok S1 (iterR_L (.inl ⟨.inl h2.1, h2.2⟩) h3)⟩⟩
  · simp only [Rep] at r1
    obtain ⟨p, vs, rfl, h2, h3⟩ := r1
    exact ⟨p, rfl, .inl ⟨⟨vs, h2.sq⟩, k1.ok S1 (iterR_L h2 h3)⟩⟩
  · exact k1.elim
/-- range -/
def rgD (lo : Int) (n : Nat) : List D := (List.range n).map fun i => .int (lo + (i : Nat))
def smI (i : Int) : Bool := decide (-(2 ^ 62) ≤ i) && decide (i < 2 ^ 62)
theorem smI_ok {i : Int} (h : smI i = true) : -(2 ^ 62) ≤ i ∧ i < 2 ^ 62 := by
  unfold smI at h
  rw [Bool.and_eq_true, decide_eq_true_eq, decide_eq_true_eq] at h
  exact h
theorem rgD_get {lo : Int} {n i : Nat} {d : D} (h : (rgD lo n)[i]? = some d) : i < n ∧ d = .int (lo + (i : Nat)) := by
  unfold rgD at h
  rw [List.getElem?_map] at h
  by_cases q : i < n
  · rw [List.getElem?_range q] at h
    exact ⟨q, (Option.some.inj h).symm⟩
  · rw [List.getElem?_eq_none (by simpa using q)] at h
    cases h
theorem iterR_rng (lo : Int) (n : Nat) : IterR K I H (rgD lo n) (Itr lo n) := by
  intro I1 H1 M1 e1 S1 i
  refine ⟨fun d hd => ?_, fun hl => show n ≤ i by unfold rgD at hl; simpa using hl⟩
  obtain ⟨h1, rfl⟩ := rgD_get hd
  refine ⟨h1, fun x H' hy => ?_⟩
  obtain ⟨rfl, rfl⟩ := hy
  exact ⟨.inl rfl, rep_int⟩
def iRng1C (fr : AF) : AF := fun en M => bnd (fr en M) fun xs M1 => match xs with | [.int j] => if smI j = true then some (.ok (rgD 0 j.toNat), M1) else none | _ => none
def iRng2C (fr : AF) : AF := fun en M => bnd (fr en M) fun xs M1 => match xs with | [.int i, .int j] => if (smI i && smI j) = true then some (.ok (rgD i (j - i).toNat), M1) else none | _ => none
theorem ei_rng1 {p : Pos} (hg : Gl X "range") (hm : X.mg "range" = none) (ha : EvA X W [a] fr) (hs : starEach [a] X.env = [(false, eval a X.env)] := by rfl) : EvI X W tg (.Call (.Name "range" p) [a] [] pos) (iRng1C fr) := by
  refine ⟨pi_imp (pi_range1 hg hm ha.pa hs) fun σ H R h => ?_⟩
  obtain ⟨I, M, en, S, r, k⟩ := h
  refine ⟨I, M, en, S, r, k.bind fun xs M1 I1 H1 us e1 S1 r1 k1 => ?_⟩
  split at k1
  · obtain ⟨u, rfl, h⟩ := reps1 r1
    simp only [Rep] at h
    subst h
    split at k1
    · rename_i q
      exact ⟨_, rfl, (smI_ok q).1, (smI_ok q).2, k1.ok S1 (iterR_rng _ _)⟩
    · exact k1.elim
  · exact k1.elim
theorem ei_rng2 {p : Pos} (hg : Gl X "range") (hm : X.mg "range" = none) (ha : EvA X W [a, b] fr) (hs : starEach [a, b] X.env = [(false, eval a X.env), (false, eval b X.env)] := by rfl) (hs2 : starEach [b] X.env = [(false, eval b X.env)] := by rfl) : EvI X W tg (.Call (.Name "range" p) [a, b] [] pos) (iRng2C fr) := by
  refine ⟨pi_imp (pi_range2 hg hm ha.pa hs hs2) fun σ H R h => ?_⟩
  obtain ⟨I, M, en, S, r, k⟩ := h
  refine ⟨I, M, en, S, r, k.bind fun xs M1 I1 H1 us e1 S1 r1 k1 => ?_⟩
  split at k1
  · obtain ⟨u, u', rfl, h, h'⟩ := reps2 r1
    simp only [Rep] at h h'
    subst h; subst h'
    split at k1
    · rename_i q
      rw [Bool.and_eq_true] at q
      exact ⟨_, _, rfl, ⟨(smI_ok q.1).1, (smI_ok q.1).2, (smI_ok q.2).1, (smI_ok q.2).2⟩, k1.ok S1 (iterR_rng _ _)⟩
    · exact k1.elim
  · exact k1.elim
/-- zip of two tuples, of two lists -/
def zipD (xs ys : List D) : List D := (xs.zip ys).map fun p => .tup [p.1, p.2]
def iZipC (fr : AF) : AF := fun en M => bnd (fr en M) fun xs M1 => match xs with
  | [.tup x, .tup y] => some (.ok (zipD x y), M1)
  | [.imm x, .imm y] => some (.ok (zipD x y), M1)
  | _ => none
theorem zipD_get {xs ys : List D} {i : Nat} {d : D} (h : (zipD xs ys)[i]? = some d) : ∃ x y, xs[i]? = some x ∧ ys[i]? = some y ∧ d = .tup [x, y] := by
  unfold zipD at h
  rw [List.getElem?_map, Option.map_eq_some_iff] at h
  obtain ⟨⟨x, y⟩, h1, h2⟩ := h
  rw [List.getElem?_zip_eq_some] at h1
  exact ⟨x, y, h1.1, h1.2, h2.symm⟩
theorem zipD_len (xs ys : List D) : (zipD xs ys).length = min xs.length ys.length := by unfold zipD; simp
theorem iterR_zipT {p q : Addr} {vs us : List V} {xs ys : List D} (h : TupA K I H p vs) (g : TupA K I H q us) (r : Reps K I H xs vs) (t : Reps K I H ys us) : IterR K I H (zipD xs ys) (RZ.ItzT K p q) := by
  intro I1 H1 M1 e1 S1 i
  have h1 := (e1.tupA h).sq
  have g1 := (e1.tupA g).sq
  refine ⟨fun d hd => ?_, fun hl => ⟨vs, us, h1, g1, by rw [zipD_len, r.length, t.length] at hl; omega⟩⟩
  obtain ⟨x, y, hx, hy, rfl⟩ := zipD_get hd
  obtain ⟨v, hv, rv⟩ := (e1.reps r).get' hx
  obtain ⟨u, hu, ru⟩ := (e1.reps t).get' hy
  refine ⟨⟨vs, us, v, u, h1, g1, hv, hu⟩, fun z H' hz => ?_⟩
  obtain ⟨T, a, b, rfl, nT, rfl, f1, f2⟩ := hz
  have z1 := f1 vs h1
  have z2 := f2 us g1
  rw [hv] at z1; rw [hu] at z2
  cases z1; cases z2
  exact ⟨.inr ⟨T, _, nT, rfl⟩, rep_newT S1 nT (.cons rv (.one ru))⟩
theorem iterR_zipL {p q : Addr} {vs us : List V} {xs ys : List D} (h : LstA K I H p vs) (g : LstA K I H q us) (r : Reps K I H xs vs) (t : Reps K I H ys us) : IterR K I H (zipD xs ys) (Itz K p q) := by
  intro I1 H1 M1 e1 S1 i
  have h1 := (e1.lstA h).sq
  have g1 := (e1.lstA g).sq
  refine ⟨fun d hd => ?_, fun hl => ⟨vs, us, h1, g1, by rw [zipD_len, r.length, t.length] at hl; omega⟩⟩
  obtain ⟨x, y, hx, hy, rfl⟩ := zipD_get hd
  obtain ⟨v, hv, rv⟩ := (e1.reps r).get' hx
  obtain ⟨u, hu, ru⟩ := (e1.reps t).get' hy
  refine ⟨⟨vs, us, v, u, h1, g1, hv, hu⟩, fun z H' hz => ?_⟩
  obtain ⟨T, a, b, rfl, nT, rfl, f1, f2⟩ := hz
  have z1 := f1 vs h1
  have z2 := f2 us g1
  rw [hv] at z1; rw [hu] at z2
  cases z1; cases z2
  exact ⟨.inr ⟨T, _, nT, rfl⟩, rep_newT S1 nT (.cons rv (.one ru))⟩
theorem ei_zip {elts : List Expr} {kk : Nat} {tpos p : Pos} (hg : Gl X "zip") (hm : X.mg "zip" = none) (ha : EvA X W [a, b] fr)
    (hs : starEach [a, b] X.env = (false, eval a X.env) :: starEach [b] X.env := by rfl) (hs2 : starEach [b] X.env = [(false, eval b X.env)] := by rfl) : EvI X W (.Tuple elts kk tpos) (.Call (.Name "zip" p) [a, b] [] pos) (iZipC fr) := by
  refine ⟨pi_imp (RZ.pi_zipA hg hm ha.pa hs (by rw [hs2]; rfl)) fun σ H R h => ?_⟩
  obtain ⟨I, M, en, S, r, k⟩ := h
  refine ⟨I, M, en, S, r, k.bind fun xs M1 I1 H1 us e1 S1 r1 k1 => ?_⟩
  split at k1
  · obtain ⟨u, u', rfl, h, h'⟩ := reps2 r1
    simp only [Rep] at h h'
    obtain ⟨p, vs, rfl, h2, h3⟩ := h
    obtain ⟨p', vs', rfl, g2, g3⟩ := h'
    exact ⟨p, p', vs, vs', rfl, .inr ⟨h2.sq, g2.sq, k1.ok S1 (iterR_zipT h2 g2 h3 g3)⟩⟩
  · obtain ⟨u, u', rfl, h, h'⟩ := reps2 r1
    simp only [Rep] at h h'
    obtain ⟨p, vs, rfl, h2, h3⟩ := h
    obtain ⟨p', vs', rfl, g2, g3⟩ := h'
    exact ⟨p, p', vs, vs', rfl, .inl ⟨.inl (.inl h2.1), .inl (.inl g2.1), k1.ok S1 (iterR_zipL (.inl ⟨.inl h2.1, h2.2⟩) (.inl ⟨.inl g2.1, g2.2⟩) h3 g3)⟩⟩
  · exact k1.elim
end
end DL
/-! The data layer, part 6: list comprehensions. -/
namespace DL
open PySem PySem.Spec PyProof.Rows L2
abbrev W0 : WX := fun _ _ _ _ => False
section
variable {X : Cx} {W : WX} {K : PySem.W.Frag} {mg : Str → Option Value} {I I' : Ow} {H H' : Hp} {M M' : Store} {σ : L2.St} {en : Env}
variable {a b c e tg iter elt : Expr} {es ifs : List Expr} {pos : Pos} {fa fb fc : EF} {fr fi : AF} {g : GF} {t : TF} {f : EF} {Sl : List Nat}
structure EvTs (X : Cx) (W : WX) (es : List Expr) (f : TF) : Prop where
  pts : PTs X es (TD X.K X.mg W RB f)
def tYesC : TF := fun _ M => some (.ok true, M)
theorem pts_imp {t t' : TT} (h : PTs X es t) (i : ∀ σ H Q, t' σ H Q → t σ H Q) : PTs X es t' := ⟨fun pins s σ H Q Iv hq => h.run pins s σ H Q Iv (i σ H Q hq)⟩
theorem ets_nil : EvTs X W [] tYesC := ⟨pts_imp pts_nil fun σ H Q ⟨I, M, en, S, r, k⟩ => Kp.ok (M := M) k S rfl⟩
theorem ets_one (h : EvT X W c t) : EvTs X W [c] t := ⟨pts_one h.pt⟩
/-- the made items, in order -/
def compF (g : GF) (t : TF) (f : EF) (en : Env) : List D → Store → Option (List D × Store)
  | [], M => some ([], M)
  | d :: ds, M => match g d en M with
    | none => none
    | some (en1, M1) => match t en1 M1 with
      | some (.ok true, M2) => match f en1 M2 with
        | some (.ok y, M3) => match compF g t f en ds M3 with
          | some (ys, M4) => some (y :: ys, M4)
          | none => none
        | _ => none
      | some (.ok false, M2) => compF g t f en ds M2
      | _ => none
/-- what is made of the items: a list that stays as it is, or one of the store -/
def mkI : List D → Store → D × Store := fun ys M => (.imm ys, M)
def mkC : List D → Store → D × Store := fun ys M => (.cel M.length, M ++ [ys])
def cLcG (mk : List D → Store → D × Store) (fi : AF) (g : GF) (t : TF) (f : EF) (vs : List Nat) : EF := fun en M => bnd (fi en M) fun ds M1 =>
  if szOk ds.length = true then (match compF g t f (wipeE en vs) ds M1 with | some (ys, M2) => some (.ok (mk ys M2).1, (mk ys M2).2) | none => none) else none
abbrev cLc := cLcG mkI
abbrev cLcC := cLcG mkC
def MkOk (K : PySem.W.Frag) (mk : List D → Store → D × Store) : Prop := ∀ (I0 : Ow) (H0 : Hp) (I : Ow) (H : Hp) (M : Store) (p : Addr) (ys : List D) (av : List V), p ∉ I0.p → H0 p = none → Ext I0 H0 I H → p ∈ I.p → Sto K I H M → H p = some (.lst av) → Reps K I H ys av →
  ∃ I', Ext I0 H0 I' H ∧ Sto K I' H (mk ys M).2 ∧ Rep K I' H (mk ys M).1 (.ref p)
mutual
theorem Rep.mv (hf : ∀ a, I.Free a → I'.Free a) (hc : ∀ (n : Nat) (a : Addr), I.c[n]? = some a → I'.c[n]? = some a) : ∀ {d : D} {v : V}, Rep K I H d v → Rep K I' H d v
  | .non, v, h => by simpa only [Rep] using h
  | .bl _, v, h => by simpa only [Rep] using h
  | .int _, v, h => by simpa only [Rep] using h
  | .str _, v, h => by simpa only [Rep] using h
  | .ty _, v, h => by simpa only [Rep] using h
  | .tup ds, v, h => by
    simp only [Rep] at h ⊢
    obtain ⟨a, vs, h1, h2, h3⟩ := h
    exact ⟨a, vs, h1, h2.imp (fun h => ⟨h.1, hf _ h.2⟩) id, Reps.mv hf hc h3⟩
  | .imm ds, v, h => by
    simp only [Rep] at h ⊢
    obtain ⟨a, vs, h1, h2, h3⟩ := h
    exact ⟨a, vs, h1, ⟨h2.1, hf _ h2.2⟩, Reps.mv hf hc h3⟩
  | .scr ds, v, h => by
    simp only [Rep] at h ⊢
    obtain ⟨a, vs, h1, h2, h3⟩ := h
    exact ⟨a, vs, h1, h2.imp (fun h => ⟨h.1, hf _ h.2⟩) id, Reps.mv hf hc h3⟩
  | .cel j, v, h => by
    simp only [Rep] at h ⊢
    obtain ⟨a, h1, h2⟩ := h
    exact ⟨a, h1, hc _ _ h2⟩
theorem Reps.mv (hf : ∀ a, I.Free a → I'.Free a) (hc : ∀ (n : Nat) (a : Addr), I.c[n]? = some a → I'.c[n]? = some a) : ∀ {ds : List D} {vs : List V}, Reps K I H ds vs → Reps K I' H ds vs
  | [], vs, h => by simpa only [Reps] using h
  | d :: ds, vs, h => by
    simp only [Reps] at h ⊢
    obtain ⟨v, r, h1, h2, h3⟩ := h
    exact ⟨v, r, h1, Rep.mv hf hc h2, Reps.mv hf hc h3⟩
end
theorem mkI_ok : MkOk K mkI := by
  intro I0 H0 I H M p ys av hp0 hn e hp S hl r
  refine ⟨I.show p, e.show hp0, S.show, ?_⟩
  show Rep K _ H (.imm ys) (.ref p)
  simp only [Rep]
  exact ⟨p, av, rfl, ⟨hl, (S.dis p hp).1, fun hm => of_decide_eq_true (List.mem_filter.mp hm).2 rfl⟩, r.show⟩
theorem mkC_ok : MkOk K mkC := by
  intro I0 H0 I H M p ys av hp0 hn e hp S hl r
  have hf : ∀ a, I.Free a → ((I.show p).add p).Free a := fun a ha => ⟨fun z => by
    rcases List.mem_append.mp (show a ∈ I.c ++ [p] from z) with z | z
    · exact ha.1 z
    · exact ha.2 (by rw [List.mem_singleton.mp z]; exact hp), fun z => ha.2 (List.mem_filter.mp z).1⟩
  have hc : ∀ (n : Nat) (a : Addr), I.c[n]? = some a → ((I.show p).add p).c[n]? = some a := fun n a h => by
    show (I.c ++ [p])[n]? = some a
    rw [List.getElem?_append_left (List.getElem?_eq_some_iff.mp h).1]; exact h
  have hpc := (S.dis p hp).1
  refine ⟨(I.show p).add p, ?_, ⟨?_, ?_, fun n a ds h1 h2 => ?_, fun a ha => ?_⟩, ?_⟩
  · have es := e.show hp0
    obtain ⟨l, q1, q2⟩ := es.pre
    refine ⟨es.prv, ⟨l ++ [p], by show (I.show p).c ++ [p] = _; rw [q1]; simp, fun a ha => ?_⟩, es.keep, es.trk⟩
    rcases List.mem_append.mp ha with ha | ha
    · exact q2 a ha
    · rw [List.mem_singleton.mp ha]; exact hn
  · show (I.c ++ [p]).length = (M ++ [ys]).length
    simp [S.len]
  · show (I.c ++ [p]).Nodup
    rw [List.nodup_append]
    exact ⟨S.nodup, by simp, fun a ha b hb z => hpc (by rw [← List.mem_singleton.mp hb, ← z]; exact ha)⟩
  · have h1 : (I.c ++ [p])[n]? = some a := h1
    have h2 : (M ++ [ys])[n]? = some ds := h2
    by_cases q : n < I.c.length
    · rw [List.getElem?_append_left q] at h1
      rw [List.getElem?_append_left (by rw [← S.len]; exact q)] at h2
      obtain ⟨us, e1, g⟩ := S.at_ n a ds h1 h2
      exact ⟨us, e1, g.mv hf hc⟩
    · have hn' : n = I.c.length := by
        have := (List.getElem?_eq_some_iff.mp h1).1
        simp at this; omega
      subst hn'
      rw [List.getElem?_append_right (Nat.le_refl _)] at h1
      rw [S.len, List.getElem?_append_right (Nat.le_refl _)] at h2
      simp at h1 h2
      subst h1; subst h2
      exact ⟨av, hl, r.mv hf hc⟩
  · have hm := List.mem_filter.mp (show a ∈ I.p.filter fun b => decide (b ≠ p) from ha)
    obtain ⟨h1, h2⟩ := S.dis a hm.1
    refine ⟨fun z => ?_, h2⟩
    rcases List.mem_append.mp (show a ∈ I.c ++ [p] from z) with z | z
    · exact h1 z
    · exact of_decide_eq_true hm.2 (List.mem_singleton.mp z)
  · show Rep K _ H (.cel M.length) (.ref p)
    simp only [Rep]
    refine ⟨p, rfl, ?_⟩
    show (I.c ++ [p])[M.length]? = some p
    rw [← S.len]; simp
theorem RepE.wipe {en : Env} {σ : L2.St} (r : RepE K I H en σ) : ∀ vs : List Nat, RepE K I H (wipeE en vs) (wipe σ vs)
  | [] => r
  | v :: vs => (RepE.wipe r vs).unset v none
theorem RepE.grow {en : Env} {σ : L2.St} {p : Addr} {o : HO} (r : RepE K I H en σ) (hp : p ∈ I.p) : RepE K I (upd H p o) en σ :=
  ⟨r.len, fun i d h => let ⟨v, h1, h2⟩ := r.at_ i d h; ⟨v, h1, h2.grow hp⟩⟩
theorem wipe_out {σ : L2.St} {i : Nat} : ∀ {vs : List Nat}, i ∉ vs → (wipe σ vs)[i]? = σ[i]?
  | [], _ => rfl
  | v :: vs, h => by
    show ((wipe σ vs).set v none)[i]? = _
    rw [List.getElem?_set_ne (fun z => h (by rw [z]; exact List.mem_cons_self)), wipe_out fun z => h (List.mem_cons_of_mem _ z)]
theorem wipe_in {σ : L2.St} {i : Nat} : ∀ {vs : List Nat}, i ∈ vs → i < σ.length → (wipe σ vs)[i]? = some none
  | [], h, _ => nomatch h
  | v :: vs, h, hl => by
    show ((wipe σ vs).set v none)[i]? = _
    by_cases q : i = v
    · subst q
      rw [List.getElem?_set_self (by rw [wipe_length]; exact hl)]
    · rw [List.getElem?_set_ne (Ne.symm q)]
      rcases List.mem_cons.mp h with e | h
      · exact absurd e q
      · exact wipe_in h hl
theorem wipe_same {σ σ2 : L2.St} {vs : List Nat} (hl : σ2.length = (wipe σ vs).length) (h : ∀ k, k ∉ vs → σ2[k]? = (wipe σ vs)[k]?) : wipe σ2 vs = wipe σ vs := by
  have hl' : σ2.length = σ.length := by rw [hl, wipe_length]
  refine List.ext_getElem? fun k => ?_
  by_cases q : k ∈ vs
  · by_cases hk : k < σ.length
    · rw [wipe_in q hk, wipe_in q (by rw [hl']; exact hk)]
    · rw [List.getElem?_eq_none (by rw [wipe_length]; omega), List.getElem?_eq_none (by rw [wipe_length]; omega)]
  · rw [wipe_out q, h k q]
/-- a turn's heap: where it is the same, or has one new object -/
theorem Ext.turn (h : H' = H ∨ ∃ p o, H p = none ∧ H' = upd H p o) : Ext I H I H' := by
  rcases h with rfl | ⟨p, o, hp, rfl⟩
  · exact Ext.refl
  · exact Ext.new hp
theorem Sto.turn (S : Sto K I H M) (h : H' = H ∨ ∃ p o, H p = none ∧ H' = upd H p o) : Sto K I H' M := by
  rcases h with rfl | ⟨p, o, hp, rfl⟩
  · exact S
  · exact S.new hp
theorem lc_readG {mk : List D → Store → D × Store} (hmk : MkOk K mk) {vs : List Nat} (hS : ∀ k ∈ Sl, k ∈ vs) {Q : VK} (h : TD K mg W (Rep K) (cLcG mk fi g t f vs) σ H Q) :
    tLc (TI_ K mg W fi) (TG_ K Sl g) (TD K mg W0 RB t) (TD K mg W0 (Rep K) f) vs σ H Q := by
  obtain ⟨I, M, en, S, r, k⟩ := h
  refine ⟨I, M, en, S, r, k.bind fun ds M1 I1 H1 J e1 S1 rJ k1 => ?_⟩
  intro Dl hD
  split at k1
  case isFalse => exact k1.elim
  rename_i qsz
  have r1 := r.mono e1
  cases hz : compF g t f (wipeE en vs) ds M1 with
  | none => rw [hz] at k1; exact k1.elim
  | some z =>
  obtain ⟨out, Mz⟩ := z
  rw [hz] at k1
  have k1 : Kp K mg W (Rep K) (some (.ok (mk out Mz).1, (mk out Mz).2)) I1 H1 σ Q := k1
  have hDf : Dl ∉ I1.p := (S1.fresh hD).2
  refine ⟨fun i m H => i ≤ ds.length ∧ m = ds.length - i ∧ ∃ (I2 : Ow) (M2 : Store) (acc : List D) (av : List V), Ext I1 H1 I2 H ∧ Dl ∈ I2.p ∧ Sto K I2 H M2 ∧ H Dl = some (.lst av) ∧ Reps K I2 H acc av ∧ acc.length ≤ i ∧
      RepE K I2 H (wipeE en vs) (wipe σ vs) ∧ ∃ ys, compF g t f (wipeE en vs) (ds.drop i) M2 = some (ys, Mz) ∧ acc ++ ys = out, ⟨ds.length, ?_⟩, ?_⟩
  · exact ⟨Nat.zero_le _, rfl, I1.hide Dl, M1, [], [], Ext.hide hD, List.mem_cons_self, S1.hide hD, upd_same, by simp only [Reps], Nat.le_refl _, (r1.wipe vs).mono (Ext.hide hD), out, hz, rfl⟩
  · rintro i m H2 ⟨hi2, rfl, I2, M2, acc, av, e2, hpm, S2, hDl, ra, hal, r2, ys, hc2, hout⟩
    obtain ⟨g1, g2⟩ := rJ I2 H2 M2 e2 S2 i
    by_cases hlt : i < ds.length
    · obtain ⟨go, yl⟩ := g1 ds[i] (List.getElem?_eq_getElem hlt)
      refine .inr ⟨go, fun H' => ∃ m', m' < ds.length - i ∧ (i + 1 ≤ ds.length ∧ m' = ds.length - (i + 1) ∧ ∃ (I2 : Ow) (M2 : Store) (acc : List D) (av : List V), Ext I1 H1 I2 H' ∧ Dl ∈ I2.p ∧ Sto K I2 H' M2 ∧ H' Dl = some (.lst av) ∧ Reps K I2 H' acc av ∧ acc.length ≤ i + 1 ∧
        RepE K I2 H' (wipeE en vs) (wipe σ vs) ∧ ∃ ys, compF g t f (wipeE en vs) (ds.drop (i + 1)) M2 = some (ys, Mz) ∧ acc ++ ys = out), fun _ z => z, fun x H3 hy => ?_⟩
      obtain ⟨ht3, rx⟩ := yl x H3 hy
      rw [List.drop_eq_getElem_cons hlt] at hc2
      have e3 : Ext I2 H2 I2 H3 := Ext.turn ht3
      have S3 : Sto K I2 H3 M2 := S2.turn ht3
      refine ⟨I2, M2, wipeE en vs, ds[i], S3, r2.mono e3, rx, ?_⟩
      unfold compF at hc2
      revert hc2
      cases q1 : g ds[i] (wipeE en vs) M2 with
      | none => exact fun z => nomatch z
      | some z1 =>
      obtain ⟨en1, M3⟩ := z1
      dsimp only
      intro hc2 I4 H4 σ4 e4 S4 r4 l4 o4
      have hw : wipe σ4 vs = wipe σ vs := wipe_same l4 fun k hk => o4 k fun z => hk (hS k z)
      refine ⟨hw, I4, M3, en1, S4, r4, ?_⟩
      have e24 := e3.trans e4
      -- what holds at the next turn, from a later state
      have next : ∀ {I5 : Ow} {H5 : Hp} {M5 : Store} {ys5 : List D}, Ext I4 H4 I5 H5 → Sto K I5 H5 M5 → compF g t f (wipeE en vs) (ds.drop (i + 1)) M5 = some (ys5, Mz) → acc ++ ys5 = out →
          ∃ m', m' < ds.length - i ∧ (i + 1 ≤ ds.length ∧ m' = ds.length - (i + 1) ∧ ∃ (I2 : Ow) (M2 : Store) (acc : List D) (av : List V), Ext I1 H1 I2 H5 ∧ Dl ∈ I2.p ∧ Sto K I2 H5 M2 ∧ H5 Dl = some (.lst av) ∧ Reps K I2 H5 acc av ∧ acc.length ≤ i + 1 ∧
            RepE K I2 H5 (wipeE en vs) (wipe σ vs) ∧ ∃ ys, compF g t f (wipeE en vs) (ds.drop (i + 1)) M2 = some (ys, Mz) ∧ acc ++ ys = out) := by
        intro I5 H5 M5 ys5 e5 S5 hc5 ho5
        have e25 := e24.trans e5
        exact ⟨_, by omega, hlt, rfl, I5, M5, acc, av, e2.trans e25, e25.mem hpm, S5, e25.keep _ _ hDl (S2.dis Dl hpm).1, e25.reps ra, Nat.le_succ_of_le hal, r2.mono e25, ys5, hc5, ho5⟩
      revert hc2
      cases q2 : t en1 M3 with
      | none => exact fun z => nomatch z
      | some z2 =>
      obtain ⟨o2, M4⟩ := z2
      cases o2 with
      | ex _ _ => exact fun z => nomatch z
      | ok b =>
      cases b with
      | false =>
        dsimp only
        intro hc2 I5 H5 b5 e5 S5 rb
        cases rb
        exact (if_neg Bool.false_ne_true).mpr (next e5 S5 hc2 hout)
      | true =>
        dsimp only
        intro hc2 I5 H5 b5 e5 S5 rb
        cases rb
        refine (if_pos rfl).mpr ⟨I5, M4, en1, S5, r4.mono e5, ?_⟩
        revert hc2
        cases q3 : f en1 M4 with
        | none => exact fun z => nomatch z
        | some z3 =>
        obtain ⟨o3, M5⟩ := z3
        cases o3 with
        | ex _ _ => exact fun z => nomatch z
        | ok y =>
        dsimp only
        cases q4 : compF g t f (wipeE en vs) (ds.drop (i + 1)) M5 with
        | none => exact fun z => nomatch z
        | some z4 =>
        obtain ⟨ys5, M6⟩ := z4
        intro hc2 I6 H6 v e6 S6 rv
        cases hc2
        have e26 := (e24.trans e5).trans e6
        have hpm6 := e26.mem hpm
        have hD6 := e26.keep _ _ hDl (S2.dis Dl hpm).1
        refine ⟨av, hD6, ?_, ?_⟩
        · have h1 : av.length = acc.length := (e26.reps ra).length.symm
          have h2 : ds.length ≤ sizeLine := szOk_ok qsz
          omega
        · refine ⟨_, by omega, hlt, rfl, I6, M5, acc ++ [y], av ++ [v], (e2.trans e26).grow hD, hpm6, S6.grow hpm6, upd_same, ((e26.reps ra).append (.one rv)).grow hpm6, by rw [List.length_append]; simp; omega, (r2.mono e26).grow hpm6, ys5, q4, by rw [← hout]; simp⟩
    · have hi3 : i = ds.length := by omega
      subst hi3
      refine .inl ⟨g2 (Nat.le_refl _), ?_⟩
      rw [List.drop_length] at hc2
      cases hc2
      rw [List.append_nil] at hout
      subst hout
      obtain ⟨I', q1, q2, q3⟩ := hmk I1 H1 I2 H2 _ Dl _ av hDf hD e2 hpm S2 hDl ra
      exact k1.ok' q1 q2 q3
theorem lc_read {vs : List Nat} (hS : ∀ k ∈ Sl, k ∈ vs) {Q : VK} (h : TD K mg W (Rep K) (cLc fi g t f vs) σ H Q) :
    tLc (TI_ K mg W fi) (TG_ K Sl g) (TD K mg W0 RB t) (TD K mg W0 (Rep K) f) vs σ H Q := lc_readG mkI_ok hS h
theorem ev_lc {scope : Scope} {own : List (Str × Nat)} (hc : X.calm = true) (hN : X.N.Nodup) (hi : EvI X W tg iter fi) (ok : BlkOk X.N X.env.scope scope own) (hS : ∀ k ∈ Sl, k ∈ own.map (·.2))
    (hg : ∀ (s : Shared) (H : Hp) (C : Addr) (cl : List (Str × Addr)) (fp : List Addr), EvG (X.blk s H scope (compEnvC scope cl C X.env) fp) tg Sl g)
    (ht : ∀ (s : Shared) (H : Hp) (C : Addr) (cl : List (Str × Addr)) (fp : List Addr), EvTs (X.blk s H scope (compEnvC scope cl C X.env) fp) W0 ifs t)
    (he : ∀ (s : Shared) (H : Hp) (C : Addr) (cl : List (Str × Addr)) (fp : List Addr), EvE (X.blk s H scope (compEnvC scope cl C X.env) fp) W0 elt f) (hs : ∀ x, foldedSetIterable iter X.env x = pure x := by intro _; rfl) :
    EvE X W (.ListComp elt [⟨tg, iter, ifs, 0⟩] scope pos) (cLc fi g t f (own.map (·.2))) :=
  ⟨pe_imp (pe_lc (g := TG_ X.K Sl g) (tt := TD X.K X.mg W0 RB t) (te := TD X.K X.mg W0 (Rep X.K) f) hc hN hi.pi ok (fun s H C cl fp => (hg s H C cl fp).pg) (fun s H C cl fp => (ht s H C cl fp).pts) (fun s H C cl fp => (he s H C cl fp).pe) hs) fun _ _ _ h => lc_read hS h⟩
end
end DL
/-! The data layer, part 7: statements. -/
namespace DL
open PySem PySem.Spec PyProof.Rows L2
/-- how a statement ends -/
inductive Fl where
  | nx (en : Env)
  | rt (d : D)
  | bk (en : Env)
  | ct (en : Env)
  | ex (c : Str) (fs : List (Str × D)) (en : Env)
abbrev SRes := Option (Fl × Store)
abbrev SF := Env → Store → SRes
section
variable (K : PySem.W.Frag) (mg : Str → Option Value) (W : WX)
def Sp_ (o : SRes) (I : Ow) (H : Hp) (Z : Ends) : Prop :=
  match o with
  | none => False
  | some (.nx en, M) => ∀ I' H' σ', Ext I H I' H' → Sto K I' H' M → RepE K I' H' en σ' → Z.nx σ' H'
  | some (.bk en, M) => ∀ I' H' σ', Ext I H I' H' → Sto K I' H' M → RepE K I' H' en σ' → Z.bk σ' H'
  | some (.ct en, M) => ∀ I' H' σ', Ext I H I' H' → Sto K I' H' M → RepE K I' H' en σ' → Z.ct σ' H'
  | some (.rt d, M) => ∀ I' H' v, Ext I H I' H' → Sto K I' H' M → Rep K I' H' d v → Z.rt v H'
  | some (.ex c fs en, M) => ∀ I' H' σ' cls dx, Ext I H I' H' → Sto K I' H' M → RepE K I' H' en σ' → ExR K mg I' H' c fs cls dx → W cls dx σ' H'
def TSd (f : SF) : TS := fun Z σ H => ∃ I M en, Sto K I H M ∧ RepE K I H en σ ∧ Sp_ K mg W (f en M) I H Z
end
structure EvS (X : Cx) (W : WX) (st : Stmt) (f : SF) : Prop where
  ps : PS X st (TSd X.K X.mg W f)
structure EvSs (X : Cx) (W : WX) (st : List Stmt) (f : SF) : Prop where
  pss : PSs X st (TSd X.K X.mg W f)
section
variable {X : Cx} {W : WX} {K : PySem.W.Frag} {mg : Str → Option Value} {I I' : Ow} {H H' : Hp} {M M' : Store} {σ : L2.St} {en : Env} {Z : Ends}
variable {a b c e tg iter elt : Expr} {es ifs : List Expr} {pos : Pos} {fa fb fc : EF} {fr fi : AF} {g : GF} {t : TF} {f : EF} {Sl : List Nat} {st : Stmt} {sts body : List Stmt} {p q : SF}
theorem Sp_.mono {o : SRes} (h : Sp_ K mg W o I H Z) (e : Ext I H I' H') : Sp_ K mg W o I' H' Z := by
  match o, h with
  | some (.nx en, M), h => exact fun I2 H2 σ2 e2 => h I2 H2 σ2 (e.trans e2)
  | some (.bk en, M), h => exact fun I2 H2 σ2 e2 => h I2 H2 σ2 (e.trans e2)
  | some (.ct en, M), h => exact fun I2 H2 σ2 e2 => h I2 H2 σ2 (e.trans e2)
  | some (.rt d, M), h => exact fun I2 H2 σ2 e2 => h I2 H2 σ2 (e.trans e2)
  | some (.ex c fs en, M), h => exact fun I2 H2 σ2 cls dx e2 => h I2 H2 σ2 cls dx (e.trans e2)
/-- behind an expression -/
def sbnd {α : Type} (r : Res α) (en : Env) (k : α → Store → SRes) : SRes :=
  match r with
  | none => none
  | some (.ok a, M) => k a M
  | some (.ex c fs, M) => some (.ex c fs en, M)
@[simp] theorem sbnd_ok {α : Type} {a : α} {M : Store} {k : α → Store → SRes} : sbnd (some (.ok a, M)) en k = k a M := rfl
@[simp] theorem sbnd_none {α : Type} {k : α → Store → SRes} : sbnd none en k = none := rfl
@[simp] theorem sbnd_ex {α : Type} {c : Str} {fs : List (Str × D)} {M : Store} {k : α → Store → SRes} : sbnd (some (.ex c fs, M)) en k = some (.ex c fs en, M) := rfl
theorem Sp_.bind {α β : Type} {R : Ow → Hp → α → β → Prop} {o : Res α} {k : α → Store → SRes} {Q : β → Hp → Prop} (h : Sp_ K mg W (sbnd o en k) I H Z) (r : RepE K I H en σ)
    (step : ∀ a M I1 H1 b, Ext I H I1 H1 → Sto K I1 H1 M → R I1 H1 a b → Sp_ K mg W (k a M) I1 H1 Z → Q b H1) : Kp K mg W R o I H σ Q := by
  match o, h with
  | some (.ok a, M), h => exact fun I1 H1 b e S rr => step a M I1 H1 b e S rr (Sp_.mono (o := k a M) h e)
  | some (.ex c fs, M), h => exact fun I1 H1 cls dx e S xr => h I1 H1 σ cls dx e S (r.mono e) xr
def sSeq (p q : SF) : SF := fun en M => match p en M with | some (.nx en1, M1) => q en1 M1 | o => o
def sSkip : SF := fun en M => some (.nx en, M)
theorem Sp_.seq {o : SRes} (h : Sp_ K mg W (match o with | some (.nx en1, M1) => q en1 M1 | o => o) I H Z) : Sp_ K mg W o I H { Z with nx := TSd K mg W q Z } := by
  match o, h with
  | some (.nx en, M), h => exact fun I2 H2 σ2 e2 S2 r2 => ⟨I2, M, en, S2, r2, Sp_.mono (o := q en M) h e2⟩
  | some (.bk en, M), h => exact h
  | some (.ct en, M), h => exact h
  | some (.rt d, M), h => exact h
  | some (.ex c fs en, M), h => exact h
theorem ess_nil : EvSs X W [] sSkip := ⟨pss_imp pss_nil fun Z σ H ⟨I, M, en, S, r, k⟩ => k I H σ Ext.refl S r⟩
theorem ess_cons (h1 : EvS X W st p) (h2 : EvSs X W sts q) : EvSs X W (st :: sts) (sSeq p q) :=
  ⟨pss_imp (pss_cons h1.ps h2.pss) fun Z σ H ⟨I, M, en, S, r, k⟩ => ⟨I, M, en, S, r, Sp_.seq k⟩⟩
theorem ess_one (h1 : EvS X W st p) : EvSs X W [st] p := ⟨pss_one h1.ps⟩
def sExpr (fa : EF) : SF := fun en M => sbnd (fa en M) en fun _ M1 => some (.nx en, M1)
theorem es_expr (h : EvE X W e fa) (hs : swapsWith e none pos.line X.env = pure false := by rfl) : EvS X W (.Expr e pos) (sExpr fa) := by
  refine ⟨ps_imp (ps_expr h.pe hs) fun Z σ H h => ?_⟩
  obtain ⟨I, M, en, S, r, k⟩ := h
  exact ⟨I, M, en, S, r, k.bind r fun d M1 I1 H1 v e1 S1 r1 k1 => k1 I1 H1 σ Ext.refl S1 (r.mono e1)⟩
theorem es_doc {x j pos pos'} : EvS X W (.Expr (.Constant (.str x) j pos) pos') sSkip := ⟨ps_imp ps_doc fun Z σ H ⟨I, M, en, S, r, k⟩ => k I H σ Ext.refl S r⟩
def sRet (fa : EF) : SF := fun en M => sbnd (fa en M) en fun d M1 => some (.rt d, M1)
theorem es_ret (h : EvE X W e fa) : EvS X W (.Return (some e) pos) (sRet fa) := by
  refine ⟨ps_imp (ps_ret h.pe) fun Z σ H h => ?_⟩
  obtain ⟨I, M, en, S, r, k⟩ := h
  exact ⟨I, M, en, S, r, k.bind r fun d M1 I1 H1 v e1 S1 r1 k1 => k1 I1 H1 v Ext.refl S1 r1⟩
def sRetN : SF := fun _ M => some (.rt .non, M)
theorem es_retN : EvS X W (.Return none pos) sRetN := ⟨ps_imp ps_retN fun Z σ H ⟨I, M, en, S, r, k⟩ => k I H .non Ext.refl S rep_non⟩
theorem es_pass : EvS X W (.Pass pos) sSkip := ⟨ps_imp ps_pass fun Z σ H ⟨I, M, en, S, r, k⟩ => k I H σ Ext.refl S r⟩
def sBreak : SF := fun en M => some (.bk en, M)
def sCont : SF := fun en M => some (.ct en, M)
theorem es_break : EvS X W (.Break pos) sBreak := ⟨ps_imp ps_break fun Z σ H ⟨I, M, en, S, r, k⟩ => k I H σ Ext.refl S r⟩
theorem es_cont : EvS X W (.Continue pos) sCont := ⟨ps_imp ps_continue fun Z σ H ⟨I, M, en, S, r, k⟩ => k I H σ Ext.refl S r⟩
def sIf (t : TF) (p q : SF) : SF := fun en M => sbnd (t en M) en fun x M1 => if x = true then p en M1 else q en M1
theorem es_if (hc : EvT X W c t) (h1 : EvSs X W sts p) (h2 : EvSs X W body q) : EvS X W (.If c sts body pos) (sIf t p q) := by
  refine ⟨ps_imp (ps_if hc.pt h1.pss h2.pss) fun Z σ H h => ?_⟩
  obtain ⟨I, M, en, S, r, k⟩ := h
  refine ⟨I, M, en, S, r, k.bind r fun x M1 I1 H1 b e1 S1 r1 k1 => ?_⟩
  cases r1
  cases x with
  | true => exact (if_pos rfl).mpr ⟨I1, M1, en, S1, r.mono e1, k1⟩
  | false => exact (if_neg Bool.false_ne_true).mpr ⟨I1, M1, en, S1, r.mono e1, k1⟩
/-- target = value -/
def sAsg (fa : EF) (g : GF) : SF := fun en M => sbnd (fa en M) en fun d M1 => match g d en M1 with | some (en', M2) => some (.nx en', M2) | none => none
theorem asg_read {te : TE} (i : ∀ Q, TD K mg W (Rep K) fa σ H Q → te σ H Q) (h : TSd K mg W (sAsg fa g) Z σ H) : tAsg te (TG_ K Sl g) Z σ H := by
  obtain ⟨I, M, en, S, r, k⟩ := h
  refine i _ ⟨I, M, en, S, r, Sp_.bind k r fun d M1 I1 H1 v e1 S1 r1 k1 => ?_⟩
  refine ⟨I1, M1, en, d, S1, r.mono e1, r1, ?_⟩
  revert k1
  cases g d en M1 with
  | none => exact id
  | some z => exact fun k1 I2 H2 σ2 e2 S2 r2 _ _ => k1 I2 H2 σ2 e2 S2 r2
theorem es_asg (he : EvE X W e fa) (hg : EvG X tg Sl g) (hs : swapsWithSole [tg] e pos.line X.env = pure false := by rfl) (hw : swappedStores [tg] e X.env = pure none := by rfl)
    (h1 : (assignEach [tg] X.env).map (·.2) = [assign tg X.env] := by rfl) : EvS X W (.Assign [tg] e pos) (sAsg fa g) :=
  ⟨ps_imp (ps_asg he.pe hg.pg hs hw h1) fun _ _ _ h => asg_read (fun _ z => z) h⟩
theorem gN_read {i : Nat} {te : TE} (j : ∀ Q, TD K mg W (Rep K) fa σ H Q → te σ H Q) (h : TSd K mg W (sAsg fa (gN i)) Z σ H) : tAsg te (gName i) Z σ H := by
  obtain ⟨I, M, en, S, r, k⟩ := h
  refine j _ ⟨I, M, en, S, r, Sp_.bind k r fun d M1 I1 H1 v e1 S1 r1 k1 => ?_⟩
  exact k1 I1 H1 _ Ext.refl S1 ((r.mono e1).set i r1)
/-- name = value -/
theorem es_set {i : Nat} {x : Str} {pos' : Pos} (hN : X.N.Nodup) (hi : X.N[i]? = some x) (hx : Loc X.env.scope x) (he : EvE X W e fa) (hs : swapsWith e (some (.Name x pos')) pos.line X.env = pure false := by rfl) (hf : X.fn x = true ∨ X.env.scope.names.lookup x = some .local := by first | exact .inl rfl | exact .inr rfl | assumption) :
    EvS X W (.Assign [.Name x pos'] e pos) (sAsg fa (gN i)) := ⟨ps_imp (ps_set hN hi hx he.pe hs hf) fun _ _ _ h => gN_read (fun _ z => z) h⟩
/-- name = [.. for ..] -/
theorem es_setLc {i : Nat} {y : Str} {py spos : Pos} {scope : Scope} {own : List (Str × Nat)} (hc : X.calm = true) (hN : X.N.Nodup) (hy : X.N[i]? = some y) (hyl : X.env.scope.names.lookup y = some .local)
    (hsw : swapsWith (.ListComp elt [⟨tg, iter, ifs, 0⟩] scope pos) (some (.Name y py)) spos.line X.env = pure true) (hi : EvI X W tg iter fi) (ok : BlkOk X.N X.env.scope scope own) (hS : ∀ k ∈ Sl, k ∈ own.map (·.2))
    (hg : ∀ (s : Shared) (H : Hp) (C : Addr) (cl : List (Str × Addr)) (fp : List Addr), EvG (X.blk s H scope (compEnvC scope cl C X.env) fp) tg Sl g)
    (ht : ∀ (s : Shared) (H : Hp) (C : Addr) (cl : List (Str × Addr)) (fp : List Addr), EvTs (X.blk s H scope (compEnvC scope cl C X.env) fp) W0 ifs t)
    (he : ∀ (s : Shared) (H : Hp) (C : Addr) (cl : List (Str × Addr)) (fp : List Addr), EvE (X.blk s H scope (compEnvC scope cl C X.env) fp) W0 elt f) (hs : ∀ x, foldedSetIterable iter X.env x = pure x := by intro _; rfl) :
    EvS X W (.Assign [.Name y py] (.ListComp elt [⟨tg, iter, ifs, 0⟩] scope pos) spos) (sAsg (cLc fi g t f (own.map (·.2))) (gN i)) :=
  ⟨ps_imp (ps_setLc (g := TG_ X.K Sl g) (tt := TD X.K X.mg W0 RB t) (te := TD X.K X.mg W0 (Rep X.K) f) hc hN hy hyl hsw hi.pi ok (fun s H C cl fp => (hg s H C cl fp).pg) (fun s H C cl fp => (ht s H C cl fp).pts) (fun s H C cl fp => (he s H C cl fp).pe) hs)
    fun _ _ _ h => gN_read (fun _ z => lc_read hS z) h⟩
/-- .. a list that will be changed -/
theorem es_setLcC {i : Nat} {y : Str} {py spos : Pos} {scope : Scope} {own : List (Str × Nat)} (hc : X.calm = true) (hN : X.N.Nodup) (hy : X.N[i]? = some y) (hyl : X.env.scope.names.lookup y = some .local)
    (hsw : swapsWith (.ListComp elt [⟨tg, iter, ifs, 0⟩] scope pos) (some (.Name y py)) spos.line X.env = pure true) (hi : EvI X W tg iter fi) (ok : BlkOk X.N X.env.scope scope own) (hS : ∀ k ∈ Sl, k ∈ own.map (·.2))
    (hg : ∀ (s : Shared) (H : Hp) (C : Addr) (cl : List (Str × Addr)) (fp : List Addr), EvG (X.blk s H scope (compEnvC scope cl C X.env) fp) tg Sl g)
    (ht : ∀ (s : Shared) (H : Hp) (C : Addr) (cl : List (Str × Addr)) (fp : List Addr), EvTs (X.blk s H scope (compEnvC scope cl C X.env) fp) W0 ifs t)
    (he : ∀ (s : Shared) (H : Hp) (C : Addr) (cl : List (Str × Addr)) (fp : List Addr), EvE (X.blk s H scope (compEnvC scope cl C X.env) fp) W0 elt f) (hs : ∀ x, foldedSetIterable iter X.env x = pure x := by intro _; rfl) :
    EvS X W (.Assign [.Name y py] (.ListComp elt [⟨tg, iter, ifs, 0⟩] scope pos) spos) (sAsg (cLcC fi g t f (own.map (·.2))) (gN i)) :=
  ⟨ps_imp (ps_setLc (g := TG_ X.K Sl g) (tt := TD X.K X.mg W0 RB t) (te := TD X.K X.mg W0 (Rep X.K) f) hc hN hy hyl hsw hi.pi ok (fun s H C cl fp => (hg s H C cl fp).pg) (fun s H C cl fp => (ht s H C cl fp).pts) (fun s H C cl fp => (he s H C cl fp).pe) hs)
    fun _ _ _ h => gN_read (fun _ z => lc_readG mkC_ok hS z) h⟩
/-- x, y = a, b with plain local names (stored from the right) -/
def sPar (i j : Nat) (fr : AF) : SF := fun en M => sbnd (fr en M) en fun ds M1 => match ds with | [d, d'] => some (.nx ((en.set i (some d)).set j (some d')), M1) | _ => none
theorem es_par {i j : Nat} {x y : Str} {px py pt : Pos} {kt k2 pt2} (hc : X.calm = true) (hN : X.N.Nodup) (hi : X.N[i]? = some x) (hj : X.N[j]? = some y) (hij : i ≠ j)
    (hx : X.env.scope.names.lookup x = some .local) (hy : X.env.scope.names.lookup y = some .local) (ha : EvA X W [a, b] fr)
    (hw : swappedStores [.Tuple [.Name x px, .Name y py] kt pt] (.Tuple [a, b] k2 pt2) X.env = pure (some [x, y]))
    (hs : swapsWithSole [.Tuple [.Name x px, .Name y py] kt pt] (.Tuple [a, b] k2 pt2) pos.line X.env = pure false := by rfl) :
    EvS X W (.Assign [.Tuple [.Name x px, .Name y py] kt pt] (.Tuple [a, b] k2 pt2) pos) (sPar i j fr) := by
  refine ⟨ps_imp (ps_par hc hN hi hj hij hx hy ha.pa hw hs) fun Z σ H h => ?_⟩
  obtain ⟨I, M, en, S, r, k⟩ := h
  refine ⟨I, M, en, S, r, Sp_.bind k r fun ds M1 I1 H1 vs e1 S1 r1 k1 => ?_⟩
  revert k1
  match ds, r1 with
  | [d, d'], r1 =>
    obtain ⟨u, u', rfl, h1, h2⟩ := reps2 r1
    intro k1
    exact ⟨u, u', rfl, k1 I1 H1 _ Ext.refl S1 (((r.mono e1).set i h1).set j h2)⟩
  | [], _ => exact False.elim
  | [_], _ => exact False.elim
  | _ :: _ :: _ :: _, _ => exact False.elim
/-- name op= value -/
def sAug (i : Nat) (g : D → D → Store → Res D) (fa : EF) : SF := fun en M => match en[i]? with
  | some (some d) => sbnd (fa en M) en fun y M1 => sbnd (g d y M1) en fun z M2 => some (.nx (en.set i (some z)), M2)
  | _ => none
theorem es_aug {i : Nat} {x : Str} {op : Operator} {g : D → D → Store → Res D} {r : R2} {pos' : Pos} (hN : X.N.Nodup) (hi : X.N[i]? = some x) (hx : Loc X.env.scope x) (he : EvE X W e fa) (ho : PIp X op r) (hg : OpD X.K X.mg W g r)
    (hf : X.fn x = true ∨ X.env.scope.names.lookup x = some .local := by first | exact .inl rfl | exact .inr rfl | assumption) : EvS X W (.AugAssign (.Name x pos') op e pos) (sAug i g fa) := by
  refine ⟨ps_imp (ps_aug hN hi hx he.pe ho hf) fun Z σ H h => ?_⟩
  obtain ⟨I, M, en, S, re, k⟩ := h
  unfold sAug at k
  split at k
  · rename_i d q
    obtain ⟨v, h1, h2⟩ := re.at_ i d q
    refine ⟨v, h1, I, M, en, S, re, Sp_.bind k re fun y M1 I1 H1 u e1 S1 r1 k1 => ?_⟩
    refine hg d y M1 I1 H1 v u σ _ S1 (e1.rep h2) r1 (Sp_.bind k1 (re.mono e1) fun z M2 I2 H2 w e2 S2 r2 k2 => ?_)
    exact k2 I2 H2 _ Ext.refl S2 (((re.mono e1).mono e2).set i r2)
  · exact k.elim
end
end DL
/-! The data layer, part 8: loops, stores into lists, chains, methods. -/
namespace DL
open PySem PySem.Spec PyProof.Rows L2
section
variable {X : Cx} {W : WX} {K : PySem.W.Frag} {mg : Str → Option Value} {I I' : Ow} {H H' : Hp} {M M' : Store} {σ : L2.St} {en : Env} {Z : Ends}
variable {a b c d e o i tg iter elt : Expr} {es ifs : List Expr} {pos : Pos} {fa fb fc fd fe fo fi' : EF} {fr fi : AF} {g : GF} {t : TF} {f : EF} {Sl : List Nat} {st : Stmt} {sts body : List Stmt} {p q : SF}

/-! ### while -/
def wLoop (t : TF) (p : SF) : Nat → SF
  | 0 => fun _ _ => none
  | n + 1 => fun en M => sbnd (t en M) en fun x M1 => if x = true then (match p en M1 with
      | some (.nx en2, M2) => wLoop t p n en2 M2
      | some (.ct en2, M2) => wLoop t p n en2 M2
      | some (.bk en2, M2) => some (.nx en2, M2)
      | o => o) else some (.nx en, M1)
open Classical in
/-- while t: p — where it ends -/
noncomputable def sWhile (t : TF) (p : SF) : SF := fun en M => if h : ∃ n r, wLoop t p n en M = some r then wLoop t p (choose h) en M else none
theorem wLoop_succ {t : TF} {p : SF} : ∀ {n : Nat} {en : Env} {M : Store} {r : Fl × Store}, wLoop t p n en M = some r → wLoop t p (n + 1) en M = some r := by
  intro n
  induction n with
  | zero => intro en M r h; cases h
  | succ n ih =>
    intro en M r h
    unfold wLoop at h ⊢
    revert h
    cases t en M with
    | none => exact id
    | some z =>
      obtain ⟨o, M1⟩ := z
      cases o with
      | ex c fs => exact id
      | ok x =>
        rw [sbnd_ok, sbnd_ok]
        cases x with
        | false => exact id
        | true =>
          rw [if_pos rfl, if_pos rfl]
          cases p en M1 with
          | none => exact id
          | some z =>
            obtain ⟨o, M2⟩ := z
            cases o with
            | nx en2 => exact ih
            | ct en2 => exact ih
            | bk en2 => exact id
            | rt d => exact id
            | ex c fs en2 => exact id
theorem wLoop_add {t : TF} {p : SF} {n : Nat} {en : Env} {M : Store} {r : Fl × Store} (h : wLoop t p n en M = some r) : ∀ k, wLoop t p (n + k) en M = some r
  | 0 => h
  | k + 1 => wLoop_succ (wLoop_add h k)
theorem sWhile_eq {t : TF} {p : SF} {n : Nat} {en : Env} {M : Store} {r : Fl × Store} (h : wLoop t p n en M = some r) : sWhile t p en M = some r := by
  have hx : ∃ n r, wLoop t p n en M = some r := ⟨n, r, h⟩
  unfold sWhile
  rw [dif_pos hx]
  obtain ⟨r', h'⟩ := Classical.choose_spec hx
  have h1 := wLoop_add h (Classical.choose hx)
  have h2 := wLoop_add h' n
  rw [Nat.add_comm] at h2
  rw [h'] 
  exact h2.symm.trans h1
theorem es_while (hp : PassesOwn (model X.prog X.w) X.A X.env X.xe) (hc : EvT X W c t) (hb : EvSs X W body p) : EvS X W (.While c body [] pos) (sWhile t p) := by
  refine ⟨ps_imp (ps_while hp hc.pt hb.pss) fun Z σ H h => ?_⟩
  obtain ⟨I, M, en, S, r, k⟩ := h
  unfold sWhile at k
  split at k
  case isFalse => exact k.elim
  rename_i hx
  generalize Classical.choose hx = n at k
  refine ⟨fun m σ' H' => ∃ I' M' en', Sto X.K I' H' M' ∧ RepE X.K I' H' en' σ' ∧ Sp_ X.K X.mg W (wLoop t p m en' M') I' H' Z, ⟨n, I, M, en, S, r, k⟩, ?_⟩
  rintro m σ' H' ⟨I', M', en', S', r', k'⟩
  cases m with
  | zero => exact k'.elim
  | succ m =>
    unfold wLoop at k'
    refine ⟨I', M', en', S', r', Sp_.bind k' r' fun x M1 I1 H1 b e1 S1 rb k1 => ?_⟩
    cases rb
    cases x with
    | false =>
      rw [if_neg Bool.false_ne_true] at k1 ⊢
      exact k1 I1 H1 _ Ext.refl S1 (r'.mono e1)
    | true =>
      rw [if_pos rfl] at k1 ⊢
      refine ⟨fun σ2 H2 => ∃ I' M' en', Sto X.K I' H2 M' ∧ RepE X.K I' H2 en' σ2 ∧ Sp_ X.K X.mg W (wLoop t p m en' M') I' H2 Z, fun σ2 H2 h => ⟨m, Nat.lt_succ_self _, h⟩, I1, M1, en', S1, r'.mono e1, ?_⟩
      revert k1
      cases p en' M1 with
      | none => exact id
      | some z =>
        obtain ⟨o, M2⟩ := z
        cases o with
        | nx en2 => exact fun k1 I2 H2 σ2 e2 S2 r2 => ⟨I2, M2, en2, S2, r2, Sp_.mono k1 e2⟩
        | ct en2 => exact fun k1 I2 H2 σ2 e2 S2 r2 => ⟨I2, M2, en2, S2, r2, Sp_.mono k1 e2⟩
        | bk en2 => exact id
        | rt d => exact id
        | ex c fs en2 => exact id

/-! ### for -/
def fLoop (g : GF) (p : SF) : List D → SF
  | [] => fun en M => some (.nx en, M)
  | d :: ds => fun en M => match g d en M with
    | none => none
    | some (en1, M1) => match p en1 M1 with
      | some (.nx en2, M2) => fLoop g p ds en2 M2
      | some (.ct en2, M2) => fLoop g p ds en2 M2
      | some (.bk en2, M2) => some (.nx en2, M2)
      | o => o
def sFor (fi : AF) (g : GF) (p : SF) : SF := fun en M => sbnd (fi en M) en fun ds M1 => fLoop g p ds en M1
theorem es_for (hp : PassesOwn (model X.prog X.w) X.A X.env X.xe) (hc : X.calm = true) (hi : EvI X W tg iter fi) (hg : EvG X tg Sl g) (hb : EvSs X W body p)
    (hs : ∀ x, foldedSetIterable iter X.env x = pure x := by intro _; rfl) : EvS X W (.For tg iter body [] pos) (sFor fi g p) := by
  refine ⟨ps_imp (ps_for hp hc hi.pi hg.pg hb.pss hs) fun Z σ H h => ?_⟩
  obtain ⟨I, M, en, S, r, k⟩ := h
  refine ⟨I, M, en, S, r, Sp_.bind k r fun ds M1 I1 H1 J e1 S1 rJ k1 => ?_⟩
  refine ⟨fun i m σ' H' => i ≤ ds.length ∧ m = ds.length - i ∧ ∃ I' M' en', Ext I1 H1 I' H' ∧ Sto X.K I' H' M' ∧ RepE X.K I' H' en' σ' ∧ Sp_ X.K X.mg W (fLoop g p (ds.drop i) en' M') I' H' Z, ⟨ds.length, Nat.zero_le _, rfl, I1, M1, en, Ext.refl, S1, r.mono e1, k1⟩, ?_⟩
  rintro i m σ' H2 ⟨hi2, rfl, I2, M2, en2, e2, S2, r2, k2⟩
  obtain ⟨g1, g2⟩ := rJ I2 H2 M2 e2 S2 i
  by_cases hlt : i < ds.length
  · obtain ⟨go, yl⟩ := g1 ds[i] (List.getElem?_eq_getElem hlt)
    refine .inr ⟨go, fun σ' H' => ∃ m', m' < ds.length - i ∧ (i + 1 ≤ ds.length ∧ m' = ds.length - (i + 1) ∧ ∃ I' M' en', Ext I1 H1 I' H' ∧ Sto X.K I' H' M' ∧ RepE X.K I' H' en' σ' ∧ Sp_ X.K X.mg W (fLoop g p (ds.drop (i + 1)) en' M') I' H' Z), fun _ _ z => z, fun x H3 hy => ?_⟩
    obtain ⟨ht3, rx⟩ := yl x H3 hy
    rw [List.drop_eq_getElem_cons hlt] at k2
    have e3 : Ext I2 H2 I2 H3 := Ext.turn ht3
    refine ⟨I2, M2, en2, ds[i], S2.turn ht3, r2.mono e3, rx, ?_⟩
    unfold fLoop at k2
    revert k2
    cases q1 : g ds[i] en2 M2 with
    | none => exact id
    | some z1 =>
    obtain ⟨en3, M3⟩ := z1
    dsimp only
    intro k2 I4 H4 σ4 e4 S4 r4 l4 o4
    have e24 := e3.trans e4
    refine ⟨I4, M3, en3, S4, r4, ?_⟩
    have k4 := Sp_.mono k2 e24
    revert k4
    cases p en3 M3 with
    | none => exact id
    | some z =>
      obtain ⟨o, M5⟩ := z
      cases o with
      | nx en5 => exact fun k1 I5 H5 σ5 e5 S5 r5 => ⟨_, by omega, hlt, rfl, I5, M5, en5, (e2.trans e24).trans e5, S5, r5, Sp_.mono k1 e5⟩
      | ct en5 => exact fun k1 I5 H5 σ5 e5 S5 r5 => ⟨_, by omega, hlt, rfl, I5, M5, en5, (e2.trans e24).trans e5, S5, r5, Sp_.mono k1 e5⟩
      | bk en2 => exact id
      | rt d => exact id
      | ex c fs en2 => exact id
  · have hi3 : i = ds.length := by omega
    subst hi3
    rw [List.drop_length] at k2
    exact .inl ⟨g2 (Nat.le_refl _), k2 I2 H2 _ Ext.refl S2 r2⟩

/-! ### stores into lists -/
def gSubC (fo fi' : EF) : GF := fun d en M => match fo en M with
  | some (.ok (.cel n), M1) => match fi' en M1 with
    | some (.ok (.int k), M2) => match M2[n]? with
      | some ds => match ixN ds.length k with | some j => some (en, M2.set n (ds.set j d)) | none => none
      | none => none
    | _ => none
  | _ => none
theorem eg_sub (ho : EvE X W0 o fo) (hi : EvE X W0 i fi')
    (ha : ∀ v, assign (.Subscript o i pos) X.env v = (do
      let ov ← holding [v] (eval o X.env)
      let iv ← holding [v, ov] (eval i X.env)
      standAt pos
      holding [v, ov, iv] (setItem ov iv v)
      release [v, ov, iv] []) := by intro _; rfl) : EvG X (.Subscript o i pos) [] (gSubC fo fi') := by
  refine ⟨pg_imp (pg_sub ho.pe hi.pe set_list ha) fun v σ H Q h => ?_⟩
  obtain ⟨I, M, en, d, S, r, rd, k⟩ := h
  unfold gSubC at k
  refine ⟨I, M, en, S, r, ?_⟩
  revert k
  cases fo en M with
  | none => exact id
  | some z =>
  obtain ⟨o1, M1⟩ := z
  cases o1 with
  | ex _ _ => exact False.elim
  | ok x1 =>
  cases x1 <;> (try exact False.elim)
  rename_i n
  dsimp only
  intro k I1 H1 v1 e1 S1 r1
  simp only [Rep] at r1
  obtain ⟨l, rfl, hl⟩ := r1
  refine ⟨I1, M1, en, S1, r.mono e1, ?_⟩
  revert k
  cases fi' en M1 with
  | none => exact id
  | some z =>
  obtain ⟨o2, M2⟩ := z
  cases o2 with
  | ex _ _ => exact False.elim
  | ok x2 =>
  cases x2 <;> (try exact False.elim)
  rename_i j0
  dsimp only
  intro k I2 H2 v2 e2 S2 r2
  simp only [Rep] at r2
  subst r2
  revert k
  cases qm : M2[n]? with
  | none => exact False.elim
  | some ds =>
  dsimp only
  cases qj : ixN ds.length j0 with
  | none => exact False.elim
  | some j =>
  dsimp only
  intro k
  obtain ⟨vs, h3, h4⟩ := S2.at_ n l ds (e2.get hl) qm
  refine ⟨l, vs, j0, j, rfl, rfl, h3, by rw [← h4.length]; exact qj, ?_⟩
  have hm : l ∈ I2.c := List.mem_of_getElem? (e2.get hl)
  exact k I2 _ σ ((e1.trans e2).trans (Ext.write hm)) (S2.write (e2.get hl) (Reps.set j ((e1.trans e2).rep rd) h4)) (((r.mono e1).mono e2).mono (Ext.write hm)) rfl fun _ _ => rfl
/-- o.append(e) as an expression -/
theorem kp_mono {α β : Type} {R : Ow → Hp → α → β → Prop} {r : Res α} {Q : β → Hp → Prop} (h : Kp K mg W R r I H σ Q) (e : Ext I H I' H') : Kp K mg W R r I' H' σ Q := by
  match r, h with
  | some (.ok x, M), h => exact fun I2 H2 b e2 => h I2 H2 b (e.trans e2)
  | some (.ex c fs, M), h => exact fun I2 H2 cls dx e2 => h I2 H2 cls dx (e.trans e2)
def cApp (fo fa : EF) : EF := fun en M => bnd (fo en M) fun x M1 => match x with
  | .cel n => if n < M1.length then bnd (fa en M1) fun y M2 => match M2[n]? with
    | some ds => if szOk (ds.length + 1) = true then some (.ok .non, M2.set n (ds ++ [y])) else none
    | none => none
    else none
  | _ => none
theorem ev_app {apos cpos : Pos} (ho : EvE X W o fo) (ha : EvE X W e fa)
    (hbase : attributeBase o "append" X.env (eval o X.env) = eval o X.env := by rfl)
    (hfew : ((backTo cpos (starEach (e :: []) X.env)).all (fun x => !x.1) && (backToKw cpos (keywordEach [] X.env)).all (fun x => x.1.isSome)
      && decide ((e :: []).length + ([] : List Keyword).length + (if ([] : List Keyword).isEmpty then 0 else 1) < 30)) = true := by rfl)
    (hline : (apos.endLine == cpos.line) = true := by rfl) (hs : starEach (e :: []) X.env = (false, eval e X.env) :: starEach [] X.env := by rfl) (hplain : (backTo cpos (starEach [] X.env)).any (·.1) = false := by rfl) :
    EvE X W (.Call (.Attribute o "append" apos) [e] [] cpos) (cApp fo fa) := by
  refine ⟨pe_imp (pe_bm PySem.F.plainAttrs_list PySem.F.slot_list_append PySem.F.type_list_append mt_append ho.pe (pa_cons ha.pe pa_nil hs) hbase hfew hline hs hplain) fun σ H Q h => ?_⟩
  obtain ⟨I, M, en, S, r, k⟩ := h
  refine ⟨I, M, en, S, r, ?_⟩
  unfold cApp at k
  revert k
  cases fo en M with
  | none => exact id
  | some z =>
  obtain ⟨o1, M1⟩ := z
  cases o1 with
  | ex c fs => exact id
  | ok x1 =>
  rw [bnd_ok]
  cases x1 <;> (try exact False.elim)
  rename_i n
  dsimp only
  by_cases hn : n < M1.length
  case neg => rw [if_neg hn]; exact False.elim
  rw [if_pos hn]
  intro k I1 H1 v1 e1 S1 r1
  have k := kp_mono k e1
  simp only [Rep] at r1
  obtain ⟨l, rfl, hl⟩ := r1
  obtain ⟨vs0, h30, h40⟩ := S1.at_ n l _ hl (List.getElem?_eq_getElem hn)
  refine ⟨.inl ⟨rfl, vs0, .inl (.inl h30)⟩, I1, M1, en, S1, r.mono e1, Kp.bind k fun y M2 I2 H2 u e2 S2 r2 k2 => ?_⟩
  split at k2
  · rename_i ds qm
    split at k2
    · rename_i qs
      obtain ⟨vs, h3, h4⟩ := S2.at_ n l ds (e2.get hl) qm
      have hm : l ∈ I2.c := List.mem_of_getElem? (e2.get hl)
      refine ⟨l, vs, u, rfl, rfl, h3, ?_, ?_⟩
      · have := szOk_ok qs
        rw [← h4.length]; omega
      · exact k2.ok' (Ext.write hm) (S2.write (e2.get hl) (h4.append (.one r2))) rep_non
    · exact k2.elim
  · exact k2.elim
end
end DL
/-! The data layer, part 9: chains of comparisons, swaps of a list's items, membership, bit lengths, branches. -/
namespace DL
open PySem PySem.Spec PyProof.Rows L2
section
variable {X : Cx} {W : WX} {K : PySem.W.Frag} {mg : Str → Option Value} {I I' : Ow} {H H' : Hp} {M M' : Store} {σ : L2.St} {en : Env} {Z : Ends}
variable {a b c d e o i tg iter elt : Expr} {es ifs : List Expr} {pos : Pos} {fa fb fc fd fe fo fi' : EF} {fr fi : AF} {g g' g'' : D → D → Store → Res D} {t : TF} {f : EF} {Sl : List Nat} {st : Stmt} {sts body : List Stmt} {p q : SF} {r r' r'' : R2}

/-! ### chains -/
def cCh2 (g g' : D → D → Store → Res D) (fa fb fc : EF) : EF := fun en M => bnd (fa en M) fun x M1 => bnd (fb en M1) fun y M2 => bnd (g x y M2) fun z M3 => match z with
  | .bl true => bnd (fc en M3) fun w M4 => g' y w M4
  | .bl false => some (.ok (.bl false), M3)
  | _ => none
def cCh3 (g g' g'' : D → D → Store → Res D) (fa fb fc fd : EF) : EF := fun en M => bnd (fa en M) fun x M1 => bnd (fb en M1) fun y M2 => bnd (g x y M2) fun z M3 => match z with
  | .bl true => bnd (fc en M3) fun w M4 => bnd (g' y w M4) fun z' M5 => (match z' with
    | .bl true => bnd (fd en M5) fun u M6 => g'' w u M6
    | .bl false => some (.ok (.bl false), M5)
    | _ => none)
  | .bl false => some (.ok (.bl false), M3)
  | _ => none
theorem ev_ch2 {op op' : CmpOp} (ho : OpR X (compareOp op) r) (hg : OpD X.K X.mg W g r) (ho' : OpR X (compareOp op') r') (hg' : OpD X.K X.mg W g' r') (ha : EvE X W a fa) (hb : EvE X W b fb) (hc : EvE X W c fc)
    (hm : lastMarks [op, op'] [b, c] = false := by with_unfolding_all rfl) : EvE X W (.Compare a [op, op'] [b, c] pos) (cCh2 g g' fa fb fc) := by
  refine ⟨pe_imp (pe_chain ho ho' ha.pe hb.pe hc.pe hm) fun σ H Q h => ?_⟩
  obtain ⟨I, M, en, S, re, k⟩ := h
  refine ⟨I, M, en, S, re, k.bind fun x M1 I1 H1 u e1 S1 r1 k1 => ?_⟩
  refine ⟨I1, M1, en, S1, re.mono e1, k1.bind fun y M2 I2 H2 v e2 S2 r2 k2 => ?_⟩
  refine hg x y M2 I2 H2 u v σ _ S2 (e2.rep r1) r2 (k2.bind fun z M3 I3 H3 w e3 S3 r3 k3 => ?_)
  cases z <;> (try exact k3.elim)
  rename_i bb
  simp only [Rep] at r3
  refine ⟨bb, r3, ?_⟩
  cases bb with
  | false => exact (if_neg Bool.false_ne_true).mpr (k3.ok S3 rep_bl)
  | true =>
    refine (if_pos rfl).mpr ⟨I3, M3, en, S3, ((re.mono e1).mono e2).mono e3, Kp.bind k3 fun w' M4 I4 H4 w2 e4 S4 r4 k4 => ?_⟩
    exact hg' y w' M4 I4 H4 v w2 σ _ S4 (e4.rep (e3.rep r2)) r4 k4
def tChain3 (r r' r'' : R2) (ta tb tc td : TE) : TE := fun σ H Q => ta σ H fun x H1 => tb σ H1 fun y H2 => r x y H2 fun z H3 => ∃ k, z = .bl k ∧
  (if k = true then tc σ H3 fun w' H4 => r' y w' H4 fun z' H5 => ∃ k', z' = .bl k' ∧ (if k' = true then td σ H5 fun u' H6 => r'' w' u' H6 Q else Q (.bl false) H5) else Q (.bl false) H3)
theorem pe_chain3 {op op' op'' : CmpOp} {ta tb tc td : TE} (ho : OpR X (compareOp op) r) (ho' : OpR X (compareOp op') r') (ho'' : OpR X (compareOp op'') r'') (ha : PE X a ta) (hb : PE X b tb) (hc : PE X c tc) (hd : PE X d td)
    (hm : lastMarks [op, op', op''] [b, c, d] = false := by with_unfolding_all rfl) : PE X (.Compare a [op, op', op''] [b, c, d] pos) (tChain3 r r' r'' ta tb tc td) := by
  refine ⟨fun pins s σ H Q I h => ?_⟩
  refine Compare_chain (thn (ha.run pins s σ H _ I h) fun v s1 ⟨x, H1, I1, r1, q1⟩ => chain_link (thn (hb.run pins s1 σ H1 _ I1 q1) fun u s2 ⟨y, H2, I2, r2, q2⟩ =>
    thn (ho pins s2 σ H2 x y v u _ I2 r1 r2 q2) fun d s3 ⟨z, H3, I3, r3, k, e, q3⟩ => ?_)) hm
  subst e
  cases r3
  refine wpAny_truthy_bool ?_
  cases k with
  | false => rw [if_neg Bool.false_ne_true] at q3 ⊢; exact ⟨.bl false, H3, I3, rfl, q3⟩
  | true =>
    rw [if_pos rfl] at q3 ⊢
    refine chain_link (thn (hc.run pins s3 σ H3 _ I3 q3) fun w' s4 ⟨z', H4, I4, r4, q4⟩ => thn (ho' pins s4 σ H4 y z' u w' _ I4 r2 r4 q4) fun d' s5 ⟨z2, H5, I5, r5, k2, e2, q5⟩ => ?_)
    subst e2
    cases r5
    refine wpAny_truthy_bool ?_
    cases k2 with
    | false => rw [if_neg Bool.false_ne_true] at q5 ⊢; exact ⟨.bl false, H5, I5, rfl, q5⟩
    | true =>
      rw [if_pos rfl] at q5 ⊢
      exact chain_last (thn (hd.run pins s5 σ H5 _ I5 q5) fun w6 s6 ⟨z6, H6, I6, r6, q6⟩ => ho'' pins s6 σ H6 z' z6 w' w6 Q I6 r4 r6 q6)
theorem ev_ch3 {op op' op'' : CmpOp} (ho : OpR X (compareOp op) r) (hg : OpD X.K X.mg W g r) (ho' : OpR X (compareOp op') r') (hg' : OpD X.K X.mg W g' r') (ho'' : OpR X (compareOp op'') r'') (hg'' : OpD X.K X.mg W g'' r'') (ha : EvE X W a fa) (hb : EvE X W b fb) (hc : EvE X W c fc) (hd : EvE X W d fd)
    (hm : lastMarks [op, op', op''] [b, c, d] = false := by with_unfolding_all rfl) : EvE X W (.Compare a [op, op', op''] [b, c, d] pos) (cCh3 g g' g'' fa fb fc fd) := by
  refine ⟨pe_imp (pe_chain3 ho ho' ho'' ha.pe hb.pe hc.pe hd.pe hm) fun σ H Q h => ?_⟩
  obtain ⟨I, M, en, S, re, k⟩ := h
  refine ⟨I, M, en, S, re, k.bind fun x M1 I1 H1 u e1 S1 r1 k1 => ?_⟩
  refine ⟨I1, M1, en, S1, re.mono e1, k1.bind fun y M2 I2 H2 v e2 S2 r2 k2 => ?_⟩
  refine hg x y M2 I2 H2 u v σ _ S2 (e2.rep r1) r2 (k2.bind fun z M3 I3 H3 w e3 S3 r3 k3 => ?_)
  cases z <;> (try exact k3.elim)
  rename_i bb
  simp only [Rep] at r3
  refine ⟨bb, r3, ?_⟩
  cases bb with
  | false => exact (if_neg Bool.false_ne_true).mpr (k3.ok S3 rep_bl)
  | true =>
    refine (if_pos rfl).mpr ⟨I3, M3, en, S3, ((re.mono e1).mono e2).mono e3, Kp.bind k3 fun w' M4 I4 H4 w2 e4 S4 r4 k4 => ?_⟩
    refine hg' y w' M4 I4 H4 v w2 σ _ S4 (e4.rep (e3.rep r2)) r4 (k4.bind fun z5 M5 I5 H5 w5 e5 S5 r5 k5 => ?_)
    cases z5 <;> (try exact k5.elim)
    rename_i b5
    simp only [Rep] at r5
    refine ⟨b5, r5, ?_⟩
    cases b5 with
    | false => exact (if_neg Bool.false_ne_true).mpr (k5.ok S5 rep_bl)
    | true =>
      refine (if_pos rfl).mpr ⟨I5, M5, en, S5, (((re.mono e1).mono e2).mono e3 |>.mono e4).mono e5, Kp.bind k5 fun w6 M6 I6 H6 w7 e6 S6 r6 k6 => ?_⟩
      exact hg'' w' w6 M6 I6 H6 w2 w7 σ _ S6 (e6.rep (e5.rep r4)) r6 k6

/-! ### bit lengths -/
def cBits (fo : EF) : EF := fun en M => bnd (fo en M) fun x M1 => match x with | .int i => some (.ok (.int (Builtin.Int.intBits i : Nat)), M1) | _ => none
theorem ev_bits {apos pos : Pos} (ho : EvE X W o fo) (hbase : attributeBase o "bit_length" X.env (eval o X.env) = eval o X.env := by rfl) (hline : (apos.endLine == pos.line) = true := by rfl) : EvE X W (.Call (.Attribute o "bit_length" apos) [] [] pos) (cBits fo) := by
  refine ⟨pe_imp (pe_bits ho.pe hbase hline) fun σ H Q h => ?_⟩
  obtain ⟨I, M, en, S, r, k⟩ := h
  refine ⟨I, M, en, S, r, k.bind fun x M1 I1 H1 u e1 S1 r1 k1 => ?_⟩
  cases x <;> (try exact k1.elim)
  simp only [Rep] at r1
  exact ⟨_, r1, k1.ok S1 rep_int⟩
end
end DL
/-! The data layer, part 10: functions. -/
namespace DL
open PySem PySem.Spec PyProof.Rows L2
abbrev MF := List D → Store → Res D
mutual
/-- the lists of the store that d names lie below n -/
def clo (n : Nat) : D → Bool
  | .cel j => decide (j < n)
  | .tup ds => clos n ds
  | .imm ds => clos n ds
  | .scr ds => clos n ds
  | _ => true
def clos (n : Nat) : List D → Bool
  | [] => true
  | d :: ds => clo n d && clos n ds
end
/-- what remains of the lists of a call: those that stood before -/
def Tidy (M M' : Store) : Prop := ∀ j ds, j < M.length → M'[j]? = some ds → M[j]? = some ds ∨ clos M.length ds = true
open Classical in
noncomputable def gcF (M : Store) (o : Res D) : Res D := match o with
  | some (.ok d, M') => if Tidy M M' then (match d with
      | .cel j => if j < M.length then some (.ok d, M'.take M.length) else (match M'[j]? with
        | some ds => if clos M.length ds = true then some (.ok (.imm ds), M'.take M.length) else none
        | none => none)
      | d => if clo M.length d = true then some (.ok d, M'.take M.length) else none) else none
  | some (.ex c fs, M') => if Tidy M M' ∧ clos M.length (fs.map (·.2)) = true then some (.ex c fs, M'.take M.length) else none
  | none => none
def fin (o : SRes) : Res D := match o with
  | some (.nx _, M) => some (.ok .non, M)
  | some (.rt d, M) => some (.ok d, M)
  | some (.ex c fs _, M) => some (.ex c fs, M)
  | _ => none
def start0 (n : Nat) (ds : List D) : Env := ds.map some ++ List.replicate (n - ds.length) none
/-- a def with np parameters and n names, by its body -/
noncomputable def mDef (np n : Nat) (body : SF) : MF := fun ds M => if ds.length = np then gcF M (fin (body (start0 n ds) M)) else none
section
variable {K : PySem.W.Frag} {mg : Str → Option Value} {I I' : Ow} {H H' : Hp} {M M' : Store}
/-! ### fewer lists -/
theorem Free.less (hc : ∃ l, I.c = I'.c ++ l) (hp : ∀ a ∈ I'.p, a ∈ I.p) {a : Addr} (h : I.Free a) : I'.Free a := by
  obtain ⟨l, hl⟩ := hc
  exact ⟨fun z => h.1 (by rw [hl]; exact List.mem_append_left _ z), fun z => h.2 (hp a z)⟩
mutual
theorem Rep.less {n : Nat} (hn : I'.c.length = n) (hc : ∃ l, I.c = I'.c ++ l) (hp : ∀ a ∈ I'.p, a ∈ I.p) : ∀ {d : D} {v : V}, Rep K I H d v → clo n d = true → Rep K I' H d v
  | .non, v, h, _ => by simpa only [Rep] using h
  | .bl _, v, h, _ => by simpa only [Rep] using h
  | .int _, v, h, _ => by simpa only [Rep] using h
  | .str _, v, h, _ => by simpa only [Rep] using h
  | .ty _, v, h, _ => by simpa only [Rep] using h
  | .tup ds, v, h, q => by
    simp only [Rep] at h ⊢
    simp only [clo] at q
    obtain ⟨a, vs, h1, h2, h3⟩ := h
    exact ⟨a, vs, h1, h2.imp (fun h => ⟨h.1, Free.less hc hp h.2⟩) id, Reps.less hn hc hp h3 q⟩
  | .imm ds, v, h, q => by
    simp only [Rep] at h ⊢
    simp only [clo] at q
    obtain ⟨a, vs, h1, h2, h3⟩ := h
    exact ⟨a, vs, h1, ⟨h2.1, Free.less hc hp h2.2⟩, Reps.less hn hc hp h3 q⟩
  | .scr ds, v, h, q => by
    simp only [Rep] at h ⊢
    simp only [clo] at q
    obtain ⟨a, vs, h1, h2, h3⟩ := h
    exact ⟨a, vs, h1, h2.imp (fun h => ⟨h.1, Free.less hc hp h.2⟩) id, Reps.less hn hc hp h3 q⟩
  | .cel j, v, h, q => by
    simp only [Rep] at h ⊢
    simp only [clo, decide_eq_true_eq] at q
    obtain ⟨a, h1, h2⟩ := h
    obtain ⟨l, hl⟩ := hc
    rw [hl, List.getElem?_append_left (by rw [hn]; exact q)] at h2
    exact ⟨a, h1, h2⟩
theorem Reps.less {n : Nat} (hn : I'.c.length = n) (hc : ∃ l, I.c = I'.c ++ l) (hp : ∀ a ∈ I'.p, a ∈ I.p) : ∀ {ds : List D} {vs : List V}, Reps K I H ds vs → clos n ds = true → Reps K I' H ds vs
  | [], vs, h, _ => by simpa only [Reps] using h
  | d :: ds, vs, h, q => by
    simp only [Reps] at h ⊢
    simp only [clos, Bool.and_eq_true] at q
    obtain ⟨v, r, h1, h2, h3⟩ := h
    exact ⟨v, r, h1, Rep.less hn hc hp h2 q.1, Reps.less hn hc hp h3 q.2⟩
end
mutual
theorem Rep.clo {n : Nat} (hn : I.c.length = n) : ∀ {d : D} {v : V}, Rep K I H d v → clo n d = true
  | .non, v, h => rfl
  | .bl _, v, h => rfl
  | .int _, v, h => rfl
  | .str _, v, h => rfl
  | .ty _, v, h => rfl
  | .tup ds, v, h => by
    simp only [Rep] at h
    obtain ⟨a, vs, _, _, h3⟩ := h
    simp only [DL.clo]
    exact Reps.clo hn h3
  | .imm ds, v, h => by
    simp only [Rep] at h
    obtain ⟨a, vs, _, _, h3⟩ := h
    simp only [DL.clo]
    exact Reps.clo hn h3
  | .scr ds, v, h => by
    simp only [Rep] at h
    obtain ⟨a, vs, _, _, h3⟩ := h
    simp only [DL.clo]
    exact Reps.clo hn h3
  | .cel j, v, h => by
    simp only [Rep] at h
    obtain ⟨a, _, h2⟩ := h
    simp only [DL.clo, decide_eq_true_eq]
    rw [← hn]
    exact (List.getElem?_eq_some_iff.mp h2).1
theorem Reps.clo {n : Nat} (hn : I.c.length = n) : ∀ {ds : List D} {vs : List V}, Reps K I H ds vs → clos n ds = true
  | [], vs, h => rfl
  | d :: ds, vs, h => by
    simp only [Reps] at h
    obtain ⟨v, r, _, h2, h3⟩ := h
    simp only [clos, Bool.and_eq_true]
    exact ⟨Rep.clo hn h2, Reps.clo hn h3⟩
end
/-- the entry's ownership, the end's heap -/
theorem Sto.back (S : Sto K I H M) (e : Ext I H I' H') (S' : Sto K I' H' M') (t : Tidy M M') : Sto K I H' (M'.take M.length) ∧ Ext I H I H' := by
  have hc := e.pre
  obtain ⟨l, hl, hl2⟩ := hc
  have hle : M.length ≤ M'.length := by rw [← S.len, ← S'.len, hl, List.length_append]; omega
  have hp : ∀ a ∈ I.p, a ∈ I'.p := fun a ha => e.mem ha
  refine ⟨⟨by rw [S.len, List.length_take]; omega, S.nodup, fun n a ds h1 h2 => ?_, fun a ha => ?_⟩, ⟨⟨[], rfl, by simp⟩, ⟨[], by simp, by simp⟩, e.keep, e.trk⟩⟩
  · have hn : n < M.length := by rw [← S.len]; exact (List.getElem?_eq_some_iff.mp h1).1
    rw [List.getElem?_take_of_lt hn] at h2
    obtain ⟨vs, h3, h4⟩ := S'.at_ n a ds (e.get h1) h2
    refine ⟨vs, h3, h4.less S.len ⟨l, hl⟩ hp ?_⟩
    rcases t n ds hn h2 with q | q
    · obtain ⟨us, _, r⟩ := S.at_ n a ds h1 q
      exact Reps.clo S.len r
    · exact q
  · obtain ⟨h1, o, h2⟩ := S.dis a ha
    exact ⟨h1, e.trk a o h2⟩
theorem Tidy.none {M : Store} {L : Store} : Tidy M (M ++ L) := fun j ds hj h => .inl (by rwa [List.getElem?_append_left hj] at h)

/-! ### the promise of a def -/
def spM (K : PySem.W.Frag) (mg : Str → Option Value) (m : MF) (vs : List V) (H : Hp) (Q : VK) (E : XK) : Prop :=
  ∃ I M ds, Sto K I H M ∧ Reps K I H ds vs ∧ Kp K mg (fun c d _ H => E c d H) (Rep K) (m ds M) I H [] Q
structure FnG (P : Program) (w : World) (K : PySem.W.Frag) (mg : Str → Option Value) (base : Heap) (k : Nat) (f : Addr) (fd : FuncData) (ps : List Str) (m : MF) : Prop where
  len : ∀ ds M, m ds M ≠ none → ds.length = ps.length
  run : ∀ (A : Around) (outer : List PySem.Env) (s : Shared) (H : Hp) (args : Args) (us : List Value) (vs : List V) (Q : VK) (E : XK), Room k A → A.guards = some [] → Env0 P w K mg base A outer s H → BindsTo s fd args (ps.zip us) → Vals vs us → spM K mg m vs H Q E →
    codeAny (model P w) A (.call (.ref f) args) (CR (L2.CX P w) outer P w H s Q E) s
theorem FnG.mono {P : Program} {w : World} {base : Heap} {j k : Nat} {f : Addr} {fd : FuncData} {ps : List Str} {m : MF} (F : FnG P w K mg base j f fd ps m) (h : j ≤ k) : FnG P w K mg base k f fd ps m :=
  ⟨F.len, fun A outer s H args us vs Q E hr => F.run A outer s H args us vs Q E (hr.mono h)⟩
theorem spM_len {P : Program} {w : World} {base : Heap} {k : Nat} {f : Addr} {fd : FuncData} {ps : List Str} {m : MF} (F : FnG P w K mg base k f fd ps m) {vs : List V} {Q : VK} {E : XK} (h : spM K mg m vs H Q E) : vs.length = ps.length := by
  obtain ⟨I, M, ds, S, r, k⟩ := h
  rw [← r.length]
  refine F.len ds M fun z => ?_
  rw [z] at k
  exact k
theorem kp_gc {W : WX} {σ : L2.St} {o : Res D} {Q : VK} (S : Sto K I H M) (h : Kp K mg W (Rep K) (gcF M o) I H σ Q) : Kp K mg W (Rep K) o I H σ Q := by
  match o, h with
  | none, h => exact h.elim
  | some (.ex c fs, M'), h =>
    intro I' H' cls dx e S' x
    unfold gcF at h
    dsimp only at h
    split at h
    · rename_i q
      obtain ⟨b1, b2⟩ := S.back e S' q.1
      obtain ⟨l, hl, hl2⟩ := e.pre
      have hp : ∀ a ∈ I.p, a ∈ I'.p := fun a ha => e.mem ha
      obtain ⟨C, d, vs, x1, x2, x3, x4, x5, x6⟩ := x
      exact h I H' cls dx b2 b1 ⟨C, d, vs, x1, x2, x3, x4, Free.less ⟨l, hl⟩ hp x5, x6.less S.len ⟨l, hl⟩ hp q.2⟩
    · exact h.elim
  | some (.ok d, M'), h =>
    intro I' H' v e S' r
    unfold gcF at h
    dsimp only at h
    split at h
    case isFalse => exact h.elim
    rename_i t
    obtain ⟨b1, b2⟩ := S.back e S' t
    obtain ⟨l, hl, hl2⟩ := e.pre
    have hp : ∀ a ∈ I.p, a ∈ I'.p := fun a ha => e.mem ha
    split at h
    · rename_i j
      split at h
      · rename_i hj
        exact h I H' v b2 b1 (r.less S.len ⟨l, hl⟩ hp (by simp only [clo, decide_eq_true_eq]; exact hj))
      · rename_i hj
        split at h
        · rename_i ds q
          split at h
          · rename_i q2
            simp only [Rep] at r
            obtain ⟨a, rfl, ha⟩ := r
            obtain ⟨vs, h3, h4⟩ := S'.at_ j a ds ha q
            refine h I H' _ b2 b1 ?_
            simp only [Rep]
            refine ⟨a, vs, rfl, ⟨h3, fun z => ?_, fun z => ?_⟩, h4.less S.len ⟨l, hl⟩ hp q2⟩
            · obtain ⟨i, hi, e1⟩ := List.mem_iff_getElem.mp z
              have e2 : I.c[i]? = some a := by rw [List.getElem?_eq_getElem hi, e1]
              have := nd_ix S'.nodup (e.get e2) ha
              rw [← S.len] at hj
              omega
            · exact (S'.dis a (hp a z)).1 (List.mem_of_getElem? ha)
          · exact h.elim
        · exact h.elim
    · split at h
      · rename_i q
        exact h I H' v b2 b1 (r.less S.len ⟨l, hl⟩ hp q)
      · exact h.elim
end
end DL
/-! The data layer, part 11: a def by its body; calls. -/
namespace DL
open PySem PySem.Spec PyProof.Rows L2
/-- what a body may let out, by what its caller wants -/
abbrev WXof (E : XK) : WX := fun c d _ H => E c d H
section
variable {P : Program} {w : World} {K : PySem.W.Frag} {mg : Str → Option Value} {base : Heap} {I I' : Ow} {H H' : Hp} {M M' : Store}
theorem kp_fin {E : XK} {o : SRes} {Q : VK} {σ : L2.St} (h : Kp K mg (WXof E) (Rep K) (fin o) I H [] Q) : Sp_ K mg (WXof E) o I H { nx := fun _ H' => Q .non H', rt := Q } := by
  match o, h with
  | some (.nx en, M), h => exact fun I' H' σ' e S r => h I' H' .non e S rep_non
  | some (.rt d, M), h => exact fun I' H' v e S r => h I' H' v e S r
  | some (.ex c fs en, M), h => exact fun I' H' σ' cls dx e S r x => h I' H' cls dx e S x
theorem repE_start {N : List Str} {ds : List D} {vs : List V} (r : Reps K I H ds vs) (hl : ds.length ≤ N.length) : RepE K I H (start0 N.length ds) (L2.start N vs) := by
  have hv := r.length
  refine ⟨by unfold start0 L2.start; simp [hv], fun i d h => ?_⟩
  unfold start0 at h
  by_cases hi : i < ds.length
  · rw [List.getElem?_append_left (by simpa using hi), List.getElem?_map] at h
    obtain ⟨d', h1, h2⟩ := Option.map_eq_some_iff.mp h
    cases h2
    obtain ⟨v, h3, h4⟩ := r.get' h1
    refine ⟨v, ?_, h4⟩
    unfold L2.start
    rw [List.getElem?_append_left (by simp; omega), List.getElem?_map, h3]
    rfl
  · rw [List.getElem?_append_right (by simpa using hi), List.getElem?_replicate] at h
    split at h <;> cases h
/-- the rule for a def -/
theorem fnG_of {x qual : Str} {st : Stmt} {f : Addr} {fd : FuncData} {N ps : List Str} {k np n : Nat} {body : SF} (F : Fun K x qual st f fd) (S : FnScope N ps (defScope st)) (hnp : ps.length = np) (hn : N.length = n) (hle : ps.length ≤ N.length)
    (hbody : ∀ (cdv : Value) (A : Around) (outer : List PySem.Env) (s : Shared) (H : Hp) (E : XK), Room k (A.deeper (envOfC qual (defScope st) s.heap.objs.size f cdv)) → A.guards = some [] →
      EvSs (cxOf (L2.CX P w) P w K mg base N qual (defScope st) f cdv A outer s H E) (WXof E) (defBody st) body) : FnG P w K mg base (k + 1) f fd ps (mDef np n body) := by
  subst hnp hn
  obtain ⟨oc, od, kV, doc, pm, an, cdv, ct, osl, rfl, lk, hcd⟩ := F.ex
  have hlen : ∀ ds M, mDef ps.length N.length body ds M ≠ none → ds.length = ps.length := fun ds M h => by
    unfold mDef at h
    split at h
    · assumption
    · exact absurd rfl h
  refine ⟨hlen, ?_⟩
  intro A outer s H args us vs Q E room hg e0 hb rv hsp
  obtain ⟨I, M, ds, S0, rd, kp⟩ := hsp
  have hds : ds.length = ps.length := hlen ds M fun z => by rw [z] at kp; exact kp
  have hvs : vs.length = ps.length := by rw [← rd.length]; exact hds
  have inK : K.In s.heap := e0.mod.kin.keeps fun b o e => (e0.bs b o e).1
  have nolim : s.heap.NoLimit := e0.mod.nolimit.keeps fun b o e => (e0.bs b o e).1
  refine codeAny_call_function room.depth (inK _ _ lk) rfl S.co S.gen rfl (PySem.W.codeRec_of inK hcd) (hb _ _ _ _ ?_)
  refine wpAny_newFunctionEnv_cells S.kind (fun y hy => ?_) fun env he s1 x => ?_
  · obtain ⟨n, v⟩ := y
    have hm := S.par n (List.of_mem_zip hy).1
    rcases hm with q | q
    · left; exact q
    · right; exact ⟨q, PySem.W.cellsFrom_some _ _ _ (.inl q)⟩
  subst he
  refine ⟨nolim.keeps x.toInCall.keep, codeAny_func ?_⟩
  have hbd := hbody cdv A outer s H E (room.deeper _) hg
  have Iv := inv_start (CX := L2.CX P w) (E := E) S room.hd e0 hvs rv x
  have run := hbd.pss.run [] s1 (L2.start N vs) H { nx := fun _ H' => Q .non H', rt := Q } Iv ⟨I, M, start0 N.length ds, S0, repE_start rd (by rw [hds]; exact hle), by
    unfold mDef at kp
    rw [if_pos hds] at kp
    exact kp_fin (σ := []) (kp_gc S0 kp)⟩
  refine wpAny_mono run (fun fl s' hs => ?_) fun e s' hs => hs
  cases fl with
  | ret u =>
    obtain ⟨v, σ', H', J, rv', q⟩ := hs
    exact ⟨v, H', J.os, J.bare, J.base, J.hok, rv', q⟩
  | next =>
    obtain ⟨σ', H', J, q⟩ := hs
    exact ⟨V.non, H', J.os, J.bare, J.base, J.hok, rfl, q⟩
  | brk =>
    obtain ⟨_, _, _, z⟩ := hs
    exact z.elim
  | cont =>
    obtain ⟨_, _, _, z⟩ := hs
    exact z.elim
end
section
variable {X : Cx} {W : WX} {pos p : Pos} {e : Expr} {es : List Expr} {fr : AF} {k : Nat} {f : Addr} {fd : FuncData} {ps : List Str} {m : MF} {x : Str}
theorem kp_at {K : PySem.W.Frag} {mg : Str → Option Value} {α β : Type} {R : Ow → Hp → α → β → Prop} {I : Ow} {H : Hp} {o : Res α} {σ : L2.St} {Q : β → Hp → Prop} (h : Kp K mg W R o I H σ Q) : Kp K mg (fun c d _ H => W c d σ H) R o I H [] Q := by
  match o, h with
  | some (.ok a, M), h => exact h
  | some (.ex c fs, M), h => exact h
theorem run_G {pins : List (Addr × Obj)} {σ : L2.St} {H : Hp} {s : Shared} {Q : VK} {us : List Value} {vs : List V} (F : FnG X.prog X.w X.K X.mg X.base k f fd ps m) (hr : Room k X.A) (hgd : X.A.guards = some []) (hb : Binds X.K fd ps []) (tk : Takes X W)
    (I : Inv X pins σ H s) (r : Vals vs us) (h : spM X.K X.mg m vs H Q (WE W σ)) : wpAny (model X.prog X.w) X.A (call (.ref f) us) (EP X pins σ Q) X.xe s := by
  have hl : us.length = ps.length := by rw [← r.length]; exact spM_len F h
  have b := hb s us I.kIn (by rw [List.append_nil]; exact hl)
  rw [List.append_nil] at b
  refine wpAny_call (codeAny_mono (F.run X.A X.stack s H ⟨us, []⟩ us vs Q (WE W σ) hr hgd I.env0 b r h) fun r s' hq => ?_)
  cases r with
  | error e => exact passAt tk σ pins H s e s' I hq
  | ok fl =>
    cases fl with
    | ret u => exact I.after hq
    | next => exact hq.elim
    | brk => exact hq.elim
    | cont => exact hq.elim
def tCallG (K : PySem.W.Frag) (mg : Str → Option Value) (W : WX) (m : MF) (t : TA) : TE := fun σ H Q => t σ H fun vs H1 => spM K mg m vs H1 Q (WE W σ)
theorem ev_call (F : FnG X.prog X.w X.K X.mg X.base k f fd ps m) (hr : Room k X.A) (hgd : X.A.guards = some []) (hg : Gl X x) (hm : X.mg x = some (.ref f)) (hk : PySem.W.keepIn X.K (.ref f) = true) (hb : Binds X.K fd ps []) (tk : Takes X W)
    (ha : EvA X W (e :: es) fr) (hdb : (x == ("__debug__" : Str)) = false := by decide) (he : starEach (e :: es) X.env = (false, eval e X.env) :: starEach es X.env := by rfl) (hpl : (backTo pos (starEach es X.env)).any (·.1) = false := by rfl) :
    EvE X W (.Call (.Name x p) (e :: es) [] pos) (cCall m fr) := by
  have hp : PE X (.Call (.Name x p) (e :: es) [] pos) (tCallG X.K X.mg W m (TD X.K X.mg W (Reps X.K) fr)) := by
    refine ⟨fun pins s σ H Q I h => ?_⟩
    refine wpAny_Call_Name_kw (ld_glob I hg hm ?_ hdb)
    refine PySem.W.callWith_K (h₀ := X.base) I.ok.mod.kin hk (thn (ha.pa.run pos pins s σ H _ I h) fun us s1 hh => ?_) he hpl
    obtain ⟨vs, H1, I1, r, q⟩ := hh
    exact ⟨I1.kIn, run_G F hr hgd hb tk I1 r q⟩
  refine ⟨pe_imp hp fun σ H Q h => ?_⟩
  obtain ⟨I, M, en, S, re, k⟩ := h
  exact ⟨I, M, en, S, re, k.bind fun xs M1 I1 H1 us e1 S1 r1 k1 => ⟨I1, M1, xs, S1, r1, kp_at k1⟩⟩
theorem ev_call0 (F : FnG X.prog X.w X.K X.mg X.base k f fd ps m) (hr : Room k X.A) (hgd : X.A.guards = some []) (hg : Gl X x) (hm : X.mg x = some (.ref f)) (hk : PySem.W.keepIn X.K (.ref f) = true) (hb : Binds X.K fd ps []) (tk : Takes X W)
    (hdb : (x == ("__debug__" : Str)) = false := by decide) : EvE X W (.Call (.Name x p) [] [] pos) (cCall m aNil) := by
  have hp : PE X (.Call (.Name x p) [] [] pos) (tCallG X.K X.mg W m tNil) := by
    refine ⟨fun pins s σ H Q I h => ?_⟩
    refine wpAny_Call_Name_kw (ld_glob I hg hm ?_ hdb)
    exact PySem.W.callWith_K0 I.kIn hk (run_G (us := []) F hr hgd hb tk I .nil h)
  refine ⟨pe_imp hp fun σ H Q h => ?_⟩
  obtain ⟨I, M, en, S, re, k⟩ := h
  exact ⟨I, M, [], S, by simp only [Reps], kp_at k⟩
end
end DL
set_option maxHeartbeats 2000000
/-! The data layer, part 12: an own exception class under a subclass of ValueError, whose __init__ says super().__init__(reason) and keeps the reason. -/
namespace PySem
namespace BadX
open PySem.W PySem.Calls PyProof.Rows PySem.HandSPX
def bA (p1 p2 : Pos) : Arguments := { posonlyargs := [], args := [{ arg := "self", annotation := none, pos := p1 }, { arg := "reason", annotation := none, pos := p2 }], vararg := none, kwonlyargs := [], kw_defaults := [], kwarg := none, defaults := [] }
def bB (q1 q2 q3 q4 q5 q6 q7 q8 q9 q10 : Pos) : List Stmt :=
  [.Expr (.Call (.Attribute (.Call (.Name "super" q1) [] [] q2) "__init__" q3) [.Name "reason" q4] [] q5) q6, .Assign [.Attribute (.Name "self" q7) "reason" q8] (.Name "reason" q9) q10]
def bS : Scope := { kind := .function, names := [(PySem.Str.ofString "self", .local), (PySem.Str.ofString "reason", .local), (PySem.Str.ofString "__class__", .free), (PySem.Str.ofString "super", .globalImplicit)], isGenerator := false, isCoroutine := false, more := [] }
/-- the text's places let the method be called in one go -/
def MCall (q1 q2 q3 q4 q5 : Pos) : Prop := ∃ pl : Sem Bool, ∀ env : Env, eval (.Call (.Attribute (.Call (.Name "super" q1) [] [] q2) "__init__" q3) [.Name "reason" q4] [] q5) env = (do
      let ov ← attributeBase (.Call (.Name "super" q1) [] [] q2) "__init__" env (eval (.Call (.Name "super" q1) [] [] q2) env)
      standAt q3.atName
      let (f, first) ← holding [ov] (getMethod ov "__init__" pl)
      callWith q5 f first (backTo q5 (starEach [.Name "reason" q4] env)) [])
/-- what the written part says of the class x, at C, and of its __init__, at fI -/
structure BadTxt (prog : Program) (K : Frag) (mg : Str → Option Value) (x qual : Str) (C fI : Addr) : Prop where
  gC : mg x = some (.ref C)
  cls : ∃ nm q N bs bm sn sub ab col dd k0 k1 k2 k3 k5, K.lookup C = some (excClassObj nm q C N bs bm true sn sub ab col dd k0 k1 k2 k3 k5 "ValueError.__new__") ∧ refsVE bm = true
  sa : findIn K (.ref C) "__setattr__" = some (some (.builtin "object.__setattr__"))
  ga : findIn K (.ref C) "__getattribute__" = some (some (.builtin "BaseException.__getattribute__"))
  gg : findIn K (.ref C) "__getattr__" = some none
  noN : findIn K (.ref C) "reason" = some none
  iC : findIn K (.ref C) "__init__" = some (some (.ref fI))
  tC : typeIn K (.ref fI) = some (.type "function")
  kC : keepIn K (.ref C) = true
  exC : subIn K (.ref C) (.type "BaseException") = some true
  tyC : typeIn K (.ref C) = some (.type "type")
  hdC : hasDictIn K C = true
  te : exmOne K (.ref C) (.ref C) = some true
  veC : subIn K (.ref C) (.type "ValueError") = some true
  upC : ks_superIn K C C "__init__" = some (some (.builtin "ValueError.__init__"))
  mrC : mroIn K C (.ref C) = some true
  any : nsIn K cStatics "thirdparty.any" = some none
  sup : mg "super" = none
  top : (prog.main.scope.names.lookup ("super" : Str)).isSome = false
  fn : ∃ (oc : Value) (od : Option Addr) (doc pm : Value) (an : Option Addr) (cda : Addr) (ct : Value) (cc : Addr) (osl : Array (Option Value)) (p1 p2 q1 q2 q3 q4 q5 q6 q7 q8 q9 q10 : Pos)
      (ccl cl : Value) (cdd cld : Option Addr) (ccs csl : Array (Option Value)) (vs : Array Value) (file : Str) (tf : Tok),
    K.lookup fI = some ⟨oc, od, .func (ksFn "__init__" qual (bA p1 p2) (bB q1 q2 q3 q4 q5 q6 q7 q8 q9 q10) bS .none .none doc pm an (.ref cda) ct cc), osl⟩ ∧ codeIn K (.ref cda) qual = true ∧
    K.lookup cda = some ⟨ccl, cdd, .fields vs, ccs⟩ ∧ vs[2]? = some (.str file tf) ∧ ((prog.main.file : Str) == file) = true ∧ K.lookup cc = some ⟨cl, cld, .cell (some (.ref C)), csl⟩ ∧ MCall q1 q2 q3 q4 q5
/-- what the globals and the built-ins say, at a heap -/
structure Glb (mg : Str → Option Value) (h : Heap) : Prop where
  glob : h.Ns mainGlobals mg
  blt : ∃ mb, h.Ns builtinsNs mb ∧ ∀ x : Str, x ≠ "__name__" → mb x = bootBuiltins x
theorem Glb.keeps {mg : Str → Option Value} {h h' : Heap} (G : Glb mg h) (k : ∀ b o, h.get? b = some o → h'.get? b = some o) : Glb mg h' :=
  ⟨G.glob.keeps k, let ⟨mb, a, b⟩ := G.blt; ⟨mb, a.keeps k, b⟩⟩
theorem one_line (v : Value) : [v].length ≤ sizeLine := by
  rw [sizeLine_eq]
  exact (by decide : 1 ≤ 16777216)
theorem kept_but {K : Frag} {h h' : Heap} {x : Addr} (X : K.In h) (hx : K.lookup x = none) (k : ∀ b o, b ≠ x → h.get? b = some o → h'.get? b = some o) : K.In h' := fun a o e =>
  k a o (fun z => by rw [z, hx] at e; cases e) (X a o e)
/-- what __init__ leaves of a fresh exception at x -/
structure InitEnd (h h' : Heap) (x C dx : Addr) (v : Value) : Prop where
  keep : ∀ b o, b ≠ x → h.get? b = some o → h'.get? b = some o
  obj : ∃ t, h'.get? x = some { cls := .ref C, dict := some dx, data := .fields #[.ref t, .none, .none, .none, .bool false, .none] }
  dbig : h.objs.size ≤ dx
  dne : dx ≠ x
  ns : h'.Ns1 dx (fun y => if y = "reason" then some v else none)
/-- a made exception -/
structure OwnMade (h h' : Heap) (e C d : Addr) (v : Value) : Prop where
  keep : ∀ b o, h.get? b = some o → h'.get? b = some o
  new : h.objs.size ≤ e
  obj : ∃ oe vs, h'.get? e = some oe ∧ oe.cls = .ref C ∧ oe.dict = some d ∧ oe.data = .fields vs ∧ vs[1]? = some .none
  dbig : h.objs.size ≤ d
  dne : d ≠ e
  ns : h'.Ns1 d (fun y => if y = "reason" then some v else none)
section
variable {prog : Program} {w : World} {A : Around} {E : Value → Shared → Prop} {R : Result → Shared → Prop} {s : Shared} {K : Frag} {mg : Str → Option Value} {C fI : Addr} {nx qual : Str}
/-- ValueError.__init__ bound to x, called with one value -/
theorem call_mw {u x t0 : Addr} {v : Value} {Q : Value → Shared → Prop} {h : Heap} {g : Array GenState} {d : Drawn} {t : Nat} {os : OsState}
    {nm q : Str} {N : Addr} {bs bm : List Value} {hdct : Bool} {sn : List Str} {sub : List Value} {ab : Bool} {col : Option Bool} {dd : Option Addr} {k0 k1 k2 k3 k5 : Option Value}
    (hC : h.get? C = some (excClassObj nm q C N bs bm hdct sn sub ab col dd k0 k1 k2 k3 k5 "ValueError.__new__")) (hx : h.get? x = some (excO C t0)) (hu : h.get? u = some (kxs_mw "ValueError.__init__" x))
    (hq : ∀ h' t1, (∀ b o, b ≠ x → h.get? b = some o → h'.get? b = some o) → h'.get? x = some (excO C t1) → h.objs.size ≤ h'.objs.size → Q .none ⟨h', g, d, t, os⟩) :
    wpAny (model prog w) A (call (.ref u) [v]) Q E ⟨h, g, d, t, os⟩ := by
  refine wpAny_call (codeAny_of_tree ?_)
  show wpAny _ A.in1 (callAny (.ref u) ⟨[v], []⟩) _ _ _
  simp only [callAny]
  refine wpAny_bind (wpAny_load hu ?_)
  simp only [kxs_mw, show (Value.type "method-wrapper" == Value.type "method" || Value.type "method-wrapper" == Value.type "builtin_function_or_method" || Value.type "method-wrapper" == Value.type "method-wrapper") = true by decide, if_true]
  refine KFB.if_so (by decide) ?_
  refine wpAny_bind (check_bound_init PySem.F.excBase_ValueError.toExcCallFacts hC hx rfl ?_)
  refine wpAny_bind (wpAny_pure (wpAny_pure ?_))
  refine ⟨plainId_quiet PySem.F.excBase_ValueError.init.plain _, codeAny_builtin PySem.F.excBase_ValueError.initEntry ?_⟩
  refine exc_init_tree (cls := .ref C) (t0 := t0) (dv := none) (c2 := .none) (c3 := .none) (b4 := .bool false) hx (one_line v) fun h' k e1 e2 => ?_
  exact hq h' _ k e1 (Nat.le_of_lt (Heap.lt_size e2))
/-- self = x, reason = v, the rest of the exception as it is -/
theorem bad_init (T : BadTxt prog K mg nx qual C fI) {x t0 : Addr} {v : Value} (X : K.In s.heap) (G : Glb mg s.heap) (hlim : s.heap.NoLimit) (hx : s.heap.get? x = some (excO C t0)) (hnx : K.lookup x = none) (hroom : A.depth < recursionLimit)
    (hq : ∀ h' tk dx, InitEnd s.heap h' x C dx v → R (.ok (.ret .none)) { s with heap := h', toks := tk }) : codeAny (model prog w) A (.call (.ref fI) ⟨[.ref x, v], []⟩) R s := by
  obtain ⟨oc, od, doc, pm, an, cda, ct, cc, osl, p1, p2, q1, q2, q3, q4, q5, q6, q7, q8, q9, q10, ccl, cl, cdd, cld, ccs, csl, vs, file, tf, ho, hcd, hcode, hvs, hfile, hcell, pl, hev⟩ := T.fn
  obtain ⟨nm, q, N, bs, bm, sn, sub, ab, col, dd, k0, k1, k2, k3, k5, hC, hbm⟩ := T.cls
  have hcl : clsIn K C = some { name := nm, bases := bs, mro := .ref C :: bm, ns := N, qualname := q, hasDict := true, slotNames := sn, subclasses := sub, abstract := ab, collection := col, hasDel := false } := by unfold clsIn; rw [hC] <;> rfl
  have hup := T.upC
  unfold ks_superIn at hup
  rw [hcl] at hup
  refine ks_codeAny_call_defAt (binds := [("self", .ref x), ("reason", v)]) hroom (X _ _ ho) rfl hlim (codeRec_of X hcd) rfl (BindsTo.of_eq (by first | rfl | with_unfolding_all rfl)) (by show ∀ x ∈ bS.names, _; decide) (fun y hy => ?_) (fun h₁ hns k => ?_) rfl rfl rfl
  · rcases List.mem_cons.mp hy with e | hy
    · rw [e]; rfl
    · rw [List.mem_singleton.mp hy]; rfl
  obtain ⟨hh, g, dr, tk, os⟩ := s
  have X₁ : K.In h₁ := X.keeps k
  have hx₁ := k _ _ hx
  have hC₁ := X₁ _ _ hC
  have IA : InstAt h₁ x (excO C t0) C none := ⟨hx₁, rfl, rfl, trivial⟩
  have mS : (fun y => List.lookup y ([("self", Value.ref x), ("reason", v)] : List (Str × Value)).reverse) "self" = some (.ref x) := by first | rfl | decide +kernel
  have mR : (fun y => List.lookup y ([("self", Value.ref x), ("reason", v)] : List (Str × Value)).reverse) "reason" = some v := by first | rfl | decide +kernel
  -- super().__init__(reason)
  refine ks_wpAt_execs_cons (ks_wpAt_Expr_any (ks_wpAt_MethodCall (pl := pl) ?_ (hev _)))
  refine ks_wpAt_super_base (by rfl) (by rfl) (by decide) rfl (X₁ _ _ ho) rfl rfl rfl (X₁ _ _ hcode) rfl hvs hfile T.top ?_
  obtain ⟨mb, b1, b2⟩ := (G.keeps k).blt
  refine ks_loadName_global (by rfl) (by rfl) (loadGlobal_builtin (G.keeps k).glob T.sup b1 ((b2 _ (by decide)).trans (by rfl)) ⟨rfl, ?_⟩)
  refine wpAny_loadName_free (by rfl) (by rfl) rfl ⟨_, X₁ _ _ hcell, rfl⟩ ?_
  refine wpAny_loadName_local (by rfl) (by rfl) hns mS ?_
  refine ks_wpAny_isType_cls hC₁ rfl ⟨rfl, ?_⟩
  refine ks_wpAny_call_super hC₁ rfl hx₁ rfl (fun c e => nomatch e) (looks_mroIn X₁ T.mrC) (fun h₂ so k₂ => ?_)
  have X₂ : K.In h₂ := X₁.keeps k₂
  have hx₂ := k₂ _ _ hx₁
  have IA₂ : InstAt h₂ x (excO C t0) C none := ⟨hx₂, rfl, rfl, trivial⟩
  refine kxs_getMethod kxs_ValueError so (looks_opaque X₂ T.any) (l₀ := .ref C :: bm) (fun A Q E s k q => wpAny_bind ((looks_clsIn X₂ hcl) A _ E s k (wpAny_pure q))) rfl X₂ hup (IA₂.type.andThen (looks_subIn X₂ T.veC)) (ks_ne X₂ IA₂ hcl) (by decide) ?_
  have k₃ : ∀ b o, h₂.get? b = some o → (h₂.push (kxs_mw "ValueError.__init__" x)).get? b = some o := fun b o e => Heap.get?_push_of_some _ e
  refine kxs_callWith (i := "ValueError.__init__") (x := x) (by rfl) (evalArgs_plain (spliced_cons (wpAny_Name (wpAny_loadName_local (by rfl) (by rfl) ((hns.keeps k₂).keeps k₃) mR ?_) (by decide))))
  refine spliced_nil ⟨Heap.get?_push_at rfl rfl, ?_⟩
  refine call_mw (k₃ _ _ (k₂ _ _ hC₁)) (k₃ _ _ hx₂) (Heap.get?_push_at rfl rfl) fun h₄ t1 k₄ hx₄ z₄ => ?_
  -- self.reason = reason
  have hxL : hh.objs.size ≠ x := Nat.ne_of_gt (Heap.lt_size hx)
  have X₄ : K.In h₄ := kept_but (X₂.keeps k₃) hnx k₄
  have hns₄ : h₄.Ns hh.objs.size (fun y => List.lookup y ([("self", Value.ref x), ("reason", v)] : List (Str × Value)).reverse) := by
    obtain ⟨o, es, ep, e, d, r⟩ := (hns.keeps k₂).keeps k₃
    exact ⟨o, es, ep, k₄ _ _ hxL e, d, r⟩
  refine ks_wpAt_execs_cons (ks_wpAt_Assign_Attr ?_)
  refine wpAt_of_wpAny (wpAny_Name (wpAny_loadName_local (by rfl) (by rfl) hns₄ mR ?_) (by decide))
  refine wpAny_Name (wpAny_loadName_local (by rfl) (by rfl) hns₄ mS ?_) (by decide)
  refine set_plain X₄ (ox := excO C t1) (od := none) ⟨hx₄, rfl, rfl, trivial⟩ T.sa ?_
  refine exc_osa X₄ hx₄ hcl (show refsVE (.ref C :: bm) = true from hbm) rfl T.noN (fun h₅ tk₅ dx k₅ dn dne hx₅ hn₅ => ?_)
  refine wpAt_of_wpAny (wpAny_execs_nil (hq h₅ tk₅ dx ⟨fun b o hb e => k₅ b o hb (k₄ b o hb (k₃ _ _ (k₂ _ _ (k b o e)))), ⟨t1, hx₅⟩, ?_, dne, hn₅⟩))
  have z1 : hh.objs.size < h₄.objs.size := hns₄.lt
  exact Nat.le_of_lt (Nat.lt_of_lt_of_le z1 dn)
/-- C(v) -/
theorem bad_made (T : BadTxt prog K mg nx qual C fI) {v : Value} (X : K.In s.heap) (G : Glb mg s.heap) (hlim : s.heap.NoLimit) (hroom : A.depth + 1 < recursionLimit)
    (hq : ∀ h' tk e d, OwnMade s.heap h' e C d v → R (.ok (.ret (.ref e))) { s with heap := h', toks := tk }) : codeAny (model prog w) A (.call (.ref C) ⟨[v], []⟩) R s := by
  obtain ⟨nm, q, N, bs, bm, sn, sub, ab, col, dd, k0, k1, k2, k3, k5, hC, hbm⟩ := T.cls
  obtain ⟨hp, g, dr, tk, os⟩ := s
  have k : ∀ b o, hp.get? b = some o → ((hp.push (kdv_tup [v])).push (excO C hp.objs.size)).get? b = some o := fun b o e => Heap.get?_push_of_some _ (Heap.get?_push_of_some _ e)
  have hget : ((hp.push (kdv_tup [v])).push (excO C hp.objs.size)).get? (hp.objs.size + 1) = some (excO C hp.objs.size) := by heap_get
  have hnx : K.lookup (hp.objs.size + 1) = none := by
    cases e : K.lookup (hp.objs.size + 1) with
    | none => rfl
    | some o =>
      have z : hp.get? (hp.objs.size + 1) = some o := X _ _ e
      exact absurd (Nat.lt_of_succ_lt (Heap.lt_size z)) (Nat.lt_irrefl _)
  refine call_own PySem.F.excBase_ValueError (fun X => refsVE_contains X bm hbm) (X _ _ hC) (looks_findIn X T.iC) (fun self => bind_fn X self T.tC) (one_line v) ?_
  refine bad_init (s := ⟨(hp.push (kdv_tup [v])).push (excO C hp.objs.size), g, dr, tk, os⟩) T (X.keeps k) (G.keeps k) (hlim.keeps k) hget hnx ?_ fun h' tk' dx en => ?_
  · show A.depth + 1 < recursionLimit
    exact hroom
  · have old : ∀ b o, hp.get? b = some o → h'.get? b = some o := fun b o e => en.keep b o (Nat.ne_of_lt (Nat.lt_succ_of_lt (Heap.lt_size e))) (k b o e)
    have z : hp.objs.size + 1 + 1 ≤ dx := by
      have q := en.dbig
      simp only [Heap.size_push] at q
      exact q
    obtain ⟨t, ob⟩ := en.obj
    exact ⟨rfl, hq h' tk' (hp.objs.size + 1) dx ⟨old, Nat.le_succ _, ⟨_, _, ob, rfl, rfl, rfl, rfl⟩, Nat.le_trans (Nat.le_trans (Nat.le_succ _) (Nat.le_succ _)) z, en.dne, en.ns⟩⟩
end
end BadX
end PySem
set_option maxHeartbeats 2000000
/-! The data layer, part 13: raise, try with one clause and else. -/
namespace DL
open PySem PySem.Spec PyProof.Rows L2
section
variable {X : Cx} {C fI : Addr} {nx qual : Str} {W : WX} {a : Expr} {p pos pos2 : Pos} {k : Nat} {fa : EF} {fr : AF}
theorem relO_reason {v : V} {v' : Value} (r : RelV v v') (f : Str) : RelO (List.lookup f [(("reason" : Str), v)]) (if f = "reason" then some v' else none) := by
  by_cases hw : f = "reason"
  · subst hw
    rw [if_pos rfl, show List.lookup ("reason" : Str) [(("reason" : Str), v)] = some v by simp [List.lookup]]
    exact r
  · rw [if_neg hw, show List.lookup f [(("reason" : Str), v)] = none by simp [List.lookup, show (f == ("reason" : Str)) = false by simpa using hw]]
    trivial
/-- C(v): what is then there -/
def tMkBad (C : Addr) (ta : TA) : L2.St → Hp → XK → Prop := fun σ H Q => ta σ H fun vs H1 => ∃ v, vs = [v] ∧ ∀ d, H1 d = none → Q (.ref C) (some d) (upd H1 d (.xd [(("reason" : Str), v)]))
theorem pmk_bad {ta : TA} (T : PySem.BadX.BadTxt X.prog X.K X.mg nx qual C fI) (hr : Room k X.A) (ha : PA X [a] ta) (hg : Gl X nx) (hdb : (nx == ("__debug__" : Str)) = false := by decide)
    (he : starEach (a :: []) X.env = (false, eval a X.env) :: starEach [] X.env := by rfl) (hpl : (backTo pos (starEach [] X.env)).any (·.1) = false := by rfl) :
    PMk X (.Call (.Name nx p) [a] [] pos) (tMkBad C ta) := by
  intro pins s σ H Q I h
  refine wpAny_Call_Name_kw (ld_glob I hg T.gC ?_ hdb)
  refine PySem.W.callWith_K (h₀ := X.base) I.ok.mod.kin T.kC (thn (ha.run pos pins s σ H _ I h) fun us s1 hh => ?_) he hpl
  obtain ⟨vs, H1, I1, r1, v, ev, q1⟩ := hh
  subst ev
  refine ⟨I1.kIn, ?_⟩
  obtain ⟨v', rfl, rv⟩ := Vals.one r1
  show wpAny _ _ (call (.ref C) [v']) _ _ _
  have hlim := I1.nolimit
  have G : PySem.BadX.Glb X.mg s1.heap := ⟨I1.ok.mod.glob.keeps I1.bk, let ⟨mb, b1, b2⟩ := I1.ok.mod.blt; ⟨mb, b1.keeps I1.bk, b2⟩⟩
  obtain ⟨hp, g, dr, tk, os⟩ := s1
  refine wpAny_call (PySem.BadX.bad_made T I1.kIn G hlim (by have := hr.dp; omega) fun h' tk' e d M => ?_)
  show MkP X pins σ Q (.ref e) ⟨h', g, dr, tk', os⟩
  obtain ⟨oe, fv, hoe, hc, hd, hdat, h1⟩ := M.obj
  have hns := M.ns
  obtain ⟨G', g1, g2⟩ := restrict h' fun b => decide (b ≠ e)
  have gk : ∀ b, b ≠ e → G'.get? b = h'.get? b := fun b hb => g1 b (decide_eq_true hb)
  have ge : G'.get? e = none := g2 e (by simp)
  have old : ∀ b o, hp.get? b = some o → G'.get? b = some o := fun b o q => (gk b (Nat.ne_of_lt (Nat.lt_of_lt_of_le (Heap.lt_size q) M.new))).trans (M.keep b o q)
  have ob : ObjOk X.prog X.w (upd H1 d (.xd [(("reason" : Str), v)])) G' d (.xd [(("reason" : Str), v)]) := ⟨_, hns.at (fun o q => (gk d M.dne).trans q), fun f => relO_reason rv f⟩
  have J : Inv X pins σ (upd H1 d (.xd [(("reason" : Str), v)])) ⟨G', g, dr, tk', os⟩ := I1.laid (t' := tk') old M.dbig ob
  refine ⟨e, oe, fv, ⟨G', g, dr, tk', os⟩, _, .ref C, some d, rfl, J, fun b o q => ?_, ge, hoe, ⟨hc, hd⟩, hdat, h1, ?_, rfl, I1.bare, raises_own T.exC T.tyC, q1 d (I1.hok.fresh M.dbig)⟩
  · by_cases hb : b = e
    · have q' : G'.get? b = some o := q
      rw [hb, ge] at q'; cases q'
    · exact (gk b hb).symm.trans q
  · rw [upd_ne (Ne.symm M.dne)]
    exact I1.hok.fresh M.new
/-- raise C(e) -/
def sRaise (c : Str) (fr : AF) : SF := fun en M => sbnd (fr en M) en fun ds M1 => match ds with | [d] => some (.ex c [("reason", d)] en, M1) | _ => none
theorem es_raise (hc : X.calm = true) (T : PySem.BadX.BadTxt X.prog X.K X.mg nx qual C fI) (hr : Room k X.A) (tk : Takes X W) (ha : EvA X W [a] fr) (hg : Gl X nx) (hdb : (nx == ("__debug__" : Str)) = false := by decide)
    (he : starEach (a :: []) X.env = (false, eval a X.env) :: starEach [] X.env := by rfl) (hpl : (backTo pos (starEach [] X.env)).any (·.1) = false := by rfl) :
    EvS X W (.Raise (some (.Call (.Name nx p) [a] [] pos)) none pos2) (sRaise nx fr) := by
  refine ⟨ps_imp (ps_raise hc tk (pmk_bad T hr ha.pa hg hdb he hpl)) fun Z σ H h => ?_⟩
  obtain ⟨I, M, en, S, r, k⟩ := h
  refine ⟨I, M, en, S, r, Sp_.bind k r fun ds M1 I1 H1 vs e1 S1 r1 k1 => ?_⟩
  match ds, k1 with
  | [d], k1 =>
    obtain ⟨v, rfl, rv⟩ := reps1 r1
    refine ⟨v, rfl, fun dd hd => ?_⟩
    exact k1 I1 _ σ _ _ (Ext.new hd) (S1.new hd) ((r.mono e1).mono (Ext.new hd)) ⟨C, dd, [v], T.gC, rfl, rfl, upd_same, S1.fresh hd, .one ((Ext.new hd).rep rv)⟩
end

/-! ### try: body; except c as n: suite; else: orelse, where every exception of the body is of the class -/
section
variable {X : Cx} {x n : Str} {c : Value} {i : Nat} {body suite orelse : List Stmt} {b₀ : Stmt} {np pos pos' : Pos} {tb : WX → TS} {ts : Addr → Value → Option Addr → TS} {u : TS}
/-- what the clause wishes -/
def wAll (K : PySem.W.Frag) (c : Value) (i : Nat) (ts : Addr → Value → Option Addr → TS) (Z : Ends) : WX := fun cls d σ H =>
  PySem.W.exmOne K cls c = some true ∧ ∀ e, H e = none → ts e cls d { nx := fun σ' H' => Z.nx (σ'.set i none) H', rt := Z.rt, bk := fun σ' H' => Z.bk (σ'.set i none) H', ct := fun σ' H' => Z.ct (σ'.set i none) H' } (σ.set i (some (.ref e))) H
theorem ps_tryAll (hst : X.stack = X.env :: X.outer) (hfl : X.env.frame = some X.env.locals) (hN : X.N.Nodup) (hi : X.N[i]? = some n) (hln : X.env.kindOf n = some .local) (hcl : Names X x c) (hels : PSs X orelse u)
    (hbody : ∀ (W : WX) (pn : List (Addr × Obj)) (xe : Value → Shared → Prop), Takes (X.tr pn xe) W → PassesOwn (model X.prog X.w) X.A X.env xe → PSs (X.tr pn xe) body (tb W))
    (hsuite : ∀ (e : Addr) (oe : Obj) (cls : Value) (d : Option Addr) (pn : List (Addr × Obj)), Zc cls d oe → (∃ vs, oe.data = .fields vs) → PSs (X.suite e ((e, oe) :: pn)) (b₀ :: suite) (ts e cls d)) :
    PS X (.Try body [.ExceptHandler (some (.Name x np)) (some n) (b₀ :: suite) pos'] orelse [] pos) (fun Z σ H => tb (wAll X.K c i ts Z) { Z with nx := u Z } σ H) := by
  refine ⟨fun pins s σ H Z I goal => ?_⟩
  have okX := I.ok
  have frm : X.A.frames = some (X.env :: X.outer) := okX.frames.trans (by rw [hst])
  -- behind the body's end
  have quietEnd : ∀ (f : Flow) (s1 : Shared), SP (X.tr (X.pn ++ pins) (fun e s1 => wpAny (model X.prog X.w) X.A (noteFrame e X.env) (fun _ s2 => wpAny (model X.prog X.w) X.A (setFlight e none) (fun _ s3 =>
      wpAny (model X.prog X.w) X.A (handleBy e X.env [.ExceptHandler (some (.Name x np)) (some n) (b₀ :: suite) pos']) (SP X pins Z) X.xe s3) X.xe s2) X.xe s1)) [] { Z with nx := u Z } f s1 →
      (match f with | .next => wpAny (model X.prog X.w) X.A (execs orelse X.env) (SP X pins Z) X.xe s1 | f => SP X pins Z f s1) := by
    intro f s1 hq
    cases f with
    | next => obtain ⟨σ1, H1, I1, q1⟩ := hq; exact hels.run pins s1 σ1 H1 Z (I1.ofTry okX) q1
    | ret v => obtain ⟨w1, σ1, H1, I1, rel, q1⟩ := hq; exact ⟨w1, σ1, H1, I1.ofTry okX, rel, q1⟩
    | brk => obtain ⟨σ1, H1, I1, q1⟩ := hq; exact ⟨σ1, H1, I1.ofTry okX, q1⟩
    | cont => obtain ⟨σ1, H1, I1, q1⟩ := hq; exact ⟨σ1, H1, I1.ofTry okX, q1⟩
  refine wpAny_Try_except (wpAny_mono ((hbody _ (X.pn ++ pins) _ ?takes PassesOwn.looking).run [] s σ H _ (I.toTry _) goal) quietEnd fun _ _ z => z)
  case takes =>
    intro eu sE caught
    obtain ⟨e, B, sI, pinsI, σI, HI, cls, d, rfl, II, low, ups, air, ne, osE, gensE, ismatch, wish⟩ := caught
    have JJ : Inv X pins σI HI sI := II.ofTry okX
    have air' : Sky B (X.env :: X.outer) e (Zc cls d) X.env.locals sE.heap := by rw [← hst]; exact air
    show wpAny (model X.prog X.w) X.A (noteFrame (.ref e) X.env) _ _ _
    refine Sky.land Zc.steady frm hfl air' fun hA flA upA => ?_
    have JA : Inv X pins σI HI { sE with heap := hA } := JJ.landed low flA.1 (ups.trans upA) osE gensE
    obtain ⟨oA, vA, atA, zA, dA⟩ := flA.there
    -- the exception is no frame's
    have offFrames : e ∉ frs (X.env :: X.outer) := by
      intro hm
      obtain ⟨_, oF, atF, isF⟩ := flA.2.2.1.mem hm
      rw [atA] at atF
      cases atF
      exact isF _ dA
    have offLocals : e ≠ X.env.locals := fun z => offFrames (List.mem_filterMap.mpr ⟨X.env, List.mem_cons_self, hfl.trans (by rw [z])⟩)
    have offFs : e ∉ X.fs := fun hm => by
      obtain ⟨eo, heo, qo⟩ := List.mem_filterMap.mp hm
      exact offFrames (List.mem_filterMap.mpr ⟨eo, .tail _ heo, qo⟩)
    have SA := JA.suite atA dA ne offLocals offFs
    refine wpAny_handleBy_cons (codeAny_handlers_test ?_) (by intro q; cases q)
    have looksTy : PySem.W.Looks (model X.prog X.w) hA (typeOf (.ref e)) cls := by
      intro A1 Q1 E1 s1 k1 q1
      refine wpAny_typeOf_ref (k1 _ _ atA) ?_
      rw [zA.1]
      exact q1
    have looksMatch := PySem.W.exm_one (M := model X.prog X.w) JA.kIn looksTy ismatch
    have theClass : ∀ {Q1 : Value → Shared → Prop} {E1 : Value → Shared → Prop}, Q1 c { sE with heap := hA } → wpAny (model X.prog X.w) (X.A.mark (some (.ref e))) (eval (.Name x np) X.env) Q1 E1 { sE with heap := hA } := by
      intro Q1 E1 q1
      obtain ⟨isGl, noDbg, inMod | ⟨notMod, inBlt, noName⟩⟩ := hcl
      · exact ld_glob (X := X.suite e ((e, oA) :: (X.pn ++ pins))) SA isGl inMod q1 noDbg
      · exact ld_blt (X := X.suite e ((e, oA) :: (X.pn ++ pins))) SA isGl notMod inBlt q1 noName noDbg
    refine theClass (looksMatch.here (codeAny_handlers_suite_as (HandSPX.lands_againZ flA fun hB flB upB => ?_)))
    have JB : Inv X pins σI HI { sE with heap := hB } := JJ.landed low flB.1 ((ups.trans upA).trans upB) osE gensE
    obtain ⟨oB, vB, atB, zB, dB⟩ := flB.there
    have SB := JB.suite atB dB ne offLocals offFs
    refine store_ok (X := X.suite e ((e, oB) :: (X.pn ++ pins))) (v := .ref e) SB hN hi (.inl hln) rfl (fun sC SC => ?_) (.inr hln)
    have nameGoes : ∀ {σD : L2.St} {HD : Hp} {sD : Shared} {Q1 : Shared → Prop}, Inv (X.suite e ((e, oB) :: (X.pn ++ pins))) [] σD HD sD → (∀ s7, Inv X pins (σD.set i none) HD s7 → Q1 s7) →
        wpAny (model X.prog X.w) X.A (do bindName X.env n .none; unbindBehindTheSuite X.env n pos') (fun _ s7 => Q1 s7) X.xe sD := fun SD hq => gone_ok (SD.unsuite okX) hN hi hln hq
    refine wpAny_mono ((hsuite e oB cls d (X.pn ++ pins) zB ⟨_, dB⟩).run [] sC _ HI _ SC (wish e ne)) (fun f sD hsp => ?_) (fun _ _ z => z.elim)
    cases f with
    | next => obtain ⟨σD, HD, SD, qD⟩ := hsp; exact nameGoes SD fun s7 J7 => ⟨_, _, J7, qD⟩
    | brk => obtain ⟨σD, HD, SD, qD⟩ := hsp; exact nameGoes SD fun s7 J7 => ⟨_, _, J7, qD⟩
    | cont => obtain ⟨σD, HD, SD, qD⟩ := hsp; exact nameGoes SD fun s7 J7 => ⟨_, _, J7, qD⟩
    | ret v => obtain ⟨wD, σD, HD, SD, rD, qD⟩ := hsp; exact nameGoes SD fun s7 J7 => ⟨_, _, _, J7, rD, qD⟩
end
end DL
/-! The data layer, part 14: the suite of a clause; try. -/
namespace DL
open PySem PySem.Spec PyProof.Rows L2
/-- the exception that the suite holds: in slot i, at e, with the fields fs -/
def Held (K : PySem.W.Frag) (mg : Str → Option Value) (i : Nat) (e : Addr) (cls : Value) (d : Option Addr) (I : Ow) (H : Hp) (σ : L2.St) (fs : List (Str × D)) : Prop :=
  σ[i]? = some (some (.ref e)) ∧ ∃ c, ExR K mg I H c fs cls d
section
variable (K : PySem.W.Frag) (mg : Str → Option Value) (i : Nat) (e : Addr) (cls : Value) (d : Option Addr)
def TDX {α β : Type} (R : Ow → Hp → α → β → Prop) (f : List (Str × D) → Env → Store → Res α) : L2.St → Hp → (β → Hp → Prop) → Prop := fun σ H Q =>
  ∃ I M en fs, Held K mg i e cls d I H σ fs ∧ Sto K I H M ∧ RepE K I H en σ ∧ Kp K mg W0 R (f fs en M) I H σ Q
def TSX (p : List (Str × D) → SF) : TS := fun Z σ H => ∃ I M en fs, Held K mg i e cls d I H σ fs ∧ Sto K I H M ∧ RepE K I H en σ ∧ Sp_ K mg W0 (p fs en M) I H Z
end
structure XvE (X : Cx) (i : Nat) (e : Addr) (cls : Value) (d : Option Addr) (x : Expr) (f : List (Str × D) → EF) : Prop where
  pe : PE X x (TDX X.K X.mg i e cls d (Rep X.K) f)
structure XvT (X : Cx) (i : Nat) (e : Addr) (cls : Value) (d : Option Addr) (x : Expr) (f : List (Str × D) → TF) : Prop where
  pt : PT X x (TDX X.K X.mg i e cls d RB f)
structure XvS (X : Cx) (i : Nat) (e : Addr) (cls : Value) (d : Option Addr) (x : Stmt) (f : List (Str × D) → SF) : Prop where
  ps : PS X x (TSX X.K X.mg i e cls d f)
structure XvSs (X : Cx) (i : Nat) (e : Addr) (cls : Value) (d : Option Addr) (x : List Stmt) (f : List (Str × D) → SF) : Prop where
  pss : PSs X x (TSX X.K X.mg i e cls d f)
section
variable {K : PySem.W.Frag} {mg : Str → Option Value} {I I' : Ow} {H H' : Hp} {σ : L2.St} {fs : List (Str × D)} {X : Cx} {i : Nat} {e : Addr} {cls : Value} {d : Option Addr} {a b c x : Expr} {st : Stmt} {sts body : List Stmt} {pos : Pos}
  {f g : List (Str × D) → EF} {t : List (Str × D) → TF} {p q : List (Str × D) → SF} {fa : EF} {fp fq : SF} {r : R2} {op : CmpOp} {gg : D → D → Store → Res D}
theorem ExR.mono {c : Str} {dx : Option Addr} (x : ExR K mg I H c fs cls dx) (e : Ext I H I' H') : ExR K mg I' H' c fs cls dx := by
  obtain ⟨C, d, vs, h1, h2, h3, h4, h5, h6⟩ := x
  exact ⟨C, d, vs, h1, h2, h3, e.keep _ _ h4 h5.1, e.free h4 h5, e.reps h6⟩
theorem Held.mono (x : Held K mg i e cls d I H σ fs) (k : Ext I H I' H') : Held K mg i e cls d I' H' σ fs := ⟨x.1, x.2.elim fun c h => ⟨c, h.mono k⟩⟩
theorem xe_of (h : EvE X W0 x fa) : XvE X i e cls d x (fun _ => fa) := ⟨pe_imp h.pe fun σ H Q ⟨I, M, en, fs, _, S, r, k⟩ => ⟨I, M, en, S, r, k⟩⟩
theorem xss_of (h : EvSs X W0 sts fp) : XvSs X i e cls d sts (fun _ => fp) := ⟨pss_imp h.pss fun Z σ H ⟨I, M, en, fs, _, S, r, k⟩ => ⟨I, M, en, S, r, k⟩⟩
theorem xss_one (h : XvS X i e cls d st p) : XvSs X i e cls d [st] p := ⟨pss_one h.ps⟩
/-- the held exception's field -/
def xRsn : List (Str × D) → EF := fun fs _ M => match fs with | [(f, d)] => if f = "reason" then some (.ok d, M) else none | _ => none
theorem xe_reason {C fI : Addr} {nx qual y : Str} {oe : Obj} {pn : List (Addr × Obj)} {pos2 : Pos} (T : PySem.BadX.BadTxt X.prog X.K X.mg nx qual C fI) (hz : Zc cls d oe) (hf : ∃ vs, oe.data = .fields vs) (hC : cls = .ref C)
    (hN : X.N[i]? = some y) (hv : Vis X.env.scope y) (hd : (y == ("__debug__" : Str)) = false := by decide) (hcd : (y == ("__classdict__" : Str)) = false := by decide)
    (hb : attributeBase (.Name y pos2) "reason" X.env (eval (.Name y pos2) X.env) = eval (.Name y pos2) X.env := by rfl) : XvE (X.suite e ((e, oe) :: pn)) i e cls d (.Attribute (.Name y pos2) "reason" pos) xRsn := by
  refine ⟨pe_imp (pe_xf ⟨T.ga, T.gg, T.exC, T.hdC⟩ T.noN hz hf (pe_var (X := X.suite e ((e, oe) :: pn)) hN hv hd hcd) hb) fun σ H Q h => ?_⟩
  obtain ⟨I, M, en, fs, ⟨hσ, c, C', dd, vs, h1, h2, h3, h4, h5, h6⟩, S, r, k⟩ := h
  unfold xRsn at k
  split at k
  · rename_i f d'
    split at k
    · rename_i hr
      subst hr
      obtain ⟨v, rfl, rv⟩ := reps1 h6
      exact ⟨_, hσ, rfl, hC, dd, [("reason", v)], v, h3, h4, by simp [List.lookup], k.ok S rv⟩
    · exact k.elim
  · exact k.elim
theorem xe_cmp (ho : OpR X (compareOp op) r) (hg : OpD X.K X.mg W0 gg r) (ha : XvE X i e cls d a f) (hb : XvE X i e cls d b g) (hm : behindInMarks op b = false) : XvE X i e cls d (.Compare a [op] [b] pos) (fun fs => cOp gg (f fs) (g fs)) := by
  refine ⟨pe_imp (pe_cmpR ho ha.pe hb.pe hm) fun σ H Q h => ?_⟩
  obtain ⟨I, M, en, fs, he, S, re, k⟩ := h
  refine ⟨I, M, en, fs, he, S, re, Kp.bind k fun x M1 I1 H1 u e1 S1 r1 k1 => ?_⟩
  refine ⟨I1, M1, en, fs, he.mono e1, S1, re.mono e1, k1.bind fun y M2 I2 H2 v e2 S2 r2 k2 => ?_⟩
  exact hg x y M2 I2 H2 u v σ Q S2 (e2.rep r1) r2 k2
theorem xt_cmp (ho : OpR X (compareOp op) r) (hg : OpD X.K X.mg W0 gg r) (hbl : ∀ a b M x M', gg a b M = some (.ok x, M') → ∃ b, x = .bl b) (ha : XvE X i e cls d a f) (hb : XvE X i e cls d b g) (hm : behindInMarks op b = false) :
    XvT X i e cls d (.Compare a [op] [b] pos) (fun fs => cTru (cOp gg (f fs) (g fs))) := by
  refine ⟨pt_imp (pt_cmpR ho ha.pe hb.pe hm) fun σ H Q h => ?_⟩
  obtain ⟨I, M, en, fs, he, S, re, k⟩ := h
  have k : Kp X.K X.mg W0 RB (cTru (cOp gg (f fs) (g fs)) en M) I H σ Q := k
  have k : Kp X.K X.mg W0 RB (bnd (f fs en M) fun x M1 => bnd (g fs en M1) fun y M2 => bnd (gg x y M2) fun z M3 => match tru M3 z with | some b => some (.ok b, M3) | none => none) I H σ Q := by
    unfold cTru cOp at k
    revert k
    cases f fs en M with
    | none => exact id
    | some z =>
      obtain ⟨o, M1⟩ := z
      cases o with
      | ex _ _ => exact id
      | ok u =>
        rw [bnd_ok, bnd_ok]
        cases g fs en M1 with
        | none => exact id
        | some z =>
          obtain ⟨o, M2⟩ := z
          cases o with
          | ex _ _ => exact id
          | ok v => exact id
  refine ⟨I, M, en, fs, he, S, re, Kp.bind k fun x M1 I1 H1 u e1 S1 r1 k1 => ?_⟩
  refine ⟨I1, M1, en, fs, he.mono e1, S1, re.mono e1, Kp.bind k1 fun y M2 I2 H2 v e2 S2 r2 k2 => ?_⟩
  have hbl' := hbl x y M2
  refine hg x y M2 I2 H2 u v σ _ S2 (e2.rep r1) r2 ?_
  revert k2 hbl'
  cases gg x y M2 with
  | none => exact fun k _ => k
  | some z =>
    obtain ⟨o, M3⟩ := z
    cases o with
    | ex _ _ => exact fun k _ => k
    | ok w =>
      intro k2 hbl' I3 H3 v3 e3 S3 r3
      obtain ⟨b, rfl⟩ := hbl' w M3 rfl
      simp only [Rep] at r3
      exact ⟨b, r3, k2 I3 H3 b e3 S3 rfl⟩
theorem xs_if (hc : XvT X i e cls d c t) (h1 : EvSs X W0 sts fp) (h2 : EvSs X W0 body fq) : XvS X i e cls d (.If c sts body pos) (fun fs => sIf (t fs) fp fq) := by
  refine ⟨ps_imp (ps_if hc.pt h1.pss h2.pss) fun Z σ H h => ?_⟩
  obtain ⟨I, M, en, fs, he, S, r, k⟩ := h
  refine ⟨I, M, en, fs, he, S, r, Sp_.bind k r fun x M1 I1 H1 b e1 S1 r1 k1 => ?_⟩
  cases r1
  cases x with
  | true => exact (if_pos rfl).mpr ⟨I1, M1, en, S1, r.mono e1, k1⟩
  | false => exact (if_neg Bool.false_ne_true).mpr ⟨I1, M1, en, S1, r.mono e1, k1⟩
theorem xs_ret (h : XvE X i e cls d a f) : XvS X i e cls d (.Return (some a) pos) (fun fs => sRet (f fs)) := by
  refine ⟨ps_imp (ps_ret h.pe) fun Z σ H h => ?_⟩
  obtain ⟨I, M, en, fs, he, S, r, k⟩ := h
  exact ⟨I, M, en, fs, he, S, r, Sp_.bind k r fun d M1 I1 H1 v e1 S1 r1 k1 => k1 I1 H1 v Ext.refl S1 r1⟩

/-! ### try -/
/-- the name goes behind the suite -/
def sUn (i : Nat) (o : SRes) : SRes := match o with
  | some (.nx en, M) => some (.nx (en.set i none), M)
  | some (.bk en, M) => some (.bk (en.set i none), M)
  | some (.ct en, M) => some (.ct (en.set i none), M)
  | some (.rt d, M) => some (.rt d, M)
  | _ => none
def sTry (c : Str) (i : Nat) (fb : SF) (ps : List (Str × D) → SF) (fe : SF) : SF := fun en M => match fb en M with
  | some (.nx en1, M1) => fe en1 M1
  | some (.ex c' fs en1, M1) => if c' = c ∧ i < en1.length then sUn i (ps fs (en1.set i none) M1) else none
  | o => o
theorem sp_un {W : WX} {o : SRes} {Z : Ends} (h : Sp_ K mg W (sUn i o) I H Z) : Sp_ K mg W0 o I H { nx := fun σ' H' => Z.nx (σ'.set i none) H', rt := Z.rt, bk := fun σ' H' => Z.bk (σ'.set i none) H', ct := fun σ' H' => Z.ct (σ'.set i none) H' } := by
  match o, h with
  | some (.nx en, M), h => exact fun I' H' σ' e S r => h I' H' _ e S (r.unset i none)
  | some (.bk en, M), h => exact fun I' H' σ' e S r => h I' H' _ e S (r.unset i none)
  | some (.ct en, M), h => exact fun I' H' σ' e S r => h I' H' _ e S (r.unset i none)
  | some (.rt d, M), h => exact h
theorem es_try {C fI : Addr} {nx qual n : Str} {W : WX} {fb fe : SF} {ps : List (Str × D) → SF} {orelse suite : List Stmt} {b₀ : Stmt} {np pos' : Pos} (T : PySem.BadX.BadTxt X.prog X.K X.mg nx qual C fI)
    (hst : X.stack = X.env :: X.outer) (hfl : X.env.frame = some X.env.locals) (hN : X.N.Nodup) (hi : X.N[i]? = some n) (hln : X.env.kindOf n = some .local) (hg : Gl X nx) (hels : EvSs X W orelse fe)
    (hbody : ∀ (W : WX) (pn : List (Addr × Obj)) (xe : Value → Shared → Prop), Takes (X.tr pn xe) W → PassesOwn (model X.prog X.w) X.A X.env xe → EvSs (X.tr pn xe) W body fb)
    (hsuite : ∀ (e : Addr) (oe : Obj) (d : Option Addr) (pn : List (Addr × Obj)), Zc (.ref C) d oe → (∃ vs, oe.data = .fields vs) → XvSs (X.suite e ((e, oe) :: pn)) i e (.ref C) d (b₀ :: suite) ps)
    (hdb : (nx == ("__debug__" : Str)) = false := by decide) : EvS X W (.Try body [.ExceptHandler (some (.Name nx np)) (some n) (b₀ :: suite) pos'] orelse [] pos) (sTry nx i fb ps fe) := by
  refine ⟨ps_imp (ps_tryAll (ts := fun e cls d Z σ H => cls = .ref C ∧ TSX X.K X.mg i e cls d ps Z σ H) (tb := fun W => TSd X.K X.mg W fb) hst hfl hN hi hln ⟨hg, hdb, .inl T.gC⟩ hels.pss (fun W pn xe tk po => (hbody W pn xe tk po).pss) fun e oe cls d pn hz hf => ?_) fun Z σ H h => ?_⟩
  · refine ⟨fun pins s σ H Z Iv hq => ?_⟩
    obtain ⟨rfl, hq⟩ := hq
    exact (hsuite e oe d pn hz hf).pss.run pins s σ H Z Iv hq
  · obtain ⟨I, M, en, S, r, k⟩ := h
    refine ⟨I, M, en, S, r, ?_⟩
    unfold sTry at k
    revert k
    cases fb en M with
    | none => exact id
    | some z =>
      obtain ⟨o, M1⟩ := z
      cases o with
      | nx en1 => exact fun k I2 H2 σ2 e2 S2 r2 => ⟨I2, M1, en1, S2, r2, Sp_.mono k e2⟩
      | rt d => exact id
      | bk en1 => exact id
      | ct en1 => exact id
      | ex c' fs en1 =>
        dsimp only
        by_cases hc : c' = nx ∧ i < en1.length
        case neg => rw [if_neg hc]; exact False.elim
        rw [if_pos hc]
        obtain ⟨rfl, hlt⟩ := hc
        intro k I2 H2 σ2 cls dx e2 S2 r2 x2
        have hcls : cls = .ref C := by
          obtain ⟨C', _, _, h1, h2, _⟩ := x2
          rw [T.gC] at h1
          cases h1
          exact h2
        subst hcls
        refine ⟨T.te, fun e he => ⟨rfl, ?_⟩⟩
        have hlt2 : i < σ2.length := by rw [← r2.len]; exact hlt
        exact ⟨I2, M1, en1.set i none, fs, ⟨by rw [List.getElem?_set_self hlt2], _, x2⟩, S2, r2.unset i _, Sp_.mono (sp_un k) e2⟩
end
end DL
/-! The data layer, part 15: repr, membership, sorted. -/
namespace DL
open PySem PySem.Spec PyProof.Rows L2
section
variable {X : Cx} {W : WX} {K : PySem.W.Frag} {mg : Str → Option Value} {I I' : Ow} {H H' : Hp} {M M' : Store} {σ : L2.St} {en : Env}

/-! ### repr -/
def shOk (x : PyData) : Bool := x.showable && (!x.hasDict && (decide (x.depth ≤ 64) && decide (x.shown.length ≤ sizeLine)))
def rRepr (K : PySem.W.Frag) : List V → Hp → VK → Prop := fun xs H Q => ∃ x d, xs = [x] ∧ Dp K H x d ∧ shOk d = true ∧ Q (.str d.shown) H
theorem cr_repr (hg : X.A.guards = some []) (hu : X.A.units + 66 < cLine) : CallR X (.builtin "repr") (rRepr X.K) := by
  intro pins s σ H xs us Q I r h
  obtain ⟨x, d, rfl, hd, ok, q⟩ := h
  obtain ⟨u, rfl, rv⟩ := vals1 r
  unfold shOk at ok
  simp only [Bool.and_eq_true, Bool.not_eq_true', decide_eq_true_eq] at ok
  obtain ⟨o1, o2, o3, o4⟩ := ok
  obtain ⟨as, rd⟩ := Dp.reads I d x u hd rv
  cases rd with
  | none => exact PySem.P.repr_of_none ⟨.str _, H, I.tok _, ⟨_, rfl⟩, q⟩
  | bool b => exact PySem.P.repr_of_bool ⟨.str _, H, I.tok _, ⟨_, rfl⟩, q⟩
  | int i t => exact PySem.P.repr_of_int (by simpa [PyData.showable] using o1) ⟨.str _, H, I.tok _, ⟨_, rfl⟩, q⟩
  | str y t => exact PySem.P.repr_of_str ⟨.str _, H, I.tok _, ⟨_, rfl⟩, q⟩ (by simpa only [PyData.shown] using o4)
  | list h1 h2 h3 h4 => exact repr_of_reads' (h₀ := s.heap) (Reads.list h1 h2 h3 h4) o1 (fun z => by rw [o2] at z; cases z) hg (by omega) (fun _ _ e => e) (fun h' u tk hk => ⟨.str _, H, I.kept hk, ⟨_, rfl⟩, q⟩) o4
  | tuple h1 h2 h3 h4 => exact repr_of_reads' (h₀ := s.heap) (Reads.tuple h1 h2 h3 h4) o1 (fun z => by rw [o2] at z; cases z) hg (by omega) (fun _ _ e => e) (fun h' u tk hk => ⟨.str _, H, I.kept hk, ⟨_, rfl⟩, q⟩) o4
  | _ => simp [PyData.hasDict] at o2
def gRepr : List D → Store → Res D := fun xs M => match xs with
  | [d] => match toPyM M d with
    | some x => if shOk x = true then some (.ok (.str x.shown), M) else none
    | none => none
  | _ => none
theorem cd_repr : CallD K mg W gRepr (rRepr K) := by
  intro xs M I H us σ Q S r k
  unfold gRepr at k
  split at k
  · obtain ⟨u, rfl, h⟩ := reps1 r
    split at k
    · rename_i x q
      split at k
      · rename_i q2
        exact ⟨_, x, rfl, dpM_of S h q, q2, k.ok S rep_str⟩
      · exact k.elim
    · exact k.elim
  · exact k.elim
mutual
/-- none, bools, ints of fewer than 1920 bits, in lists and tuples -/
def plainPy : PyData → Bool
  | .none => true
  | .bool _ => true
  | .int i => decide (i.natAbs.log2 < 1920)
  | .list xs => plainPys xs
  | .tuple xs => plainPys xs
  | _ => false
def plainPys : List PyData → Bool
  | [] => true
  | x :: xs => plainPy x && plainPys xs
end
mutual
theorem plain_facts : ∀ {x : PyData}, plainPy x = true → x.showable = true ∧ x.hasDict = false ∧ x.leavesShort 1921 = true ∧ x.canLay0 = true
  | .none, _ => ⟨by simp [PyData.showable], by simp [PyData.hasDict], by simp [PyData.leavesShort], by simp [PyData.canLay0]⟩
  | .bool _, _ => ⟨by simp [PyData.showable], by simp [PyData.hasDict], by simp [PyData.leavesShort], by simp [PyData.canLay0]⟩
  | .int i, h => by
    simp only [plainPy, decide_eq_true_eq] at h
    exact ⟨by simp only [PyData.showable]; exact decide_eq_true h, by simp [PyData.hasDict], by simp only [PyData.leavesShort, PyData.shown]; exact decide_eq_true (int_text_len_1921 h), by simp [PyData.canLay0]⟩
  | .list xs, h => by
    simp only [plainPy] at h
    obtain ⟨a, b, c, d⟩ := plains_facts h
    exact ⟨by simp only [PyData.showable]; exact a, by simp only [PyData.hasDict]; exact b, by simp only [PyData.leavesShort]; exact c, by simp only [PyData.canLay0]; exact d⟩
  | .tuple xs, h => by
    simp only [plainPy] at h
    obtain ⟨a, b, c, d⟩ := plains_facts h
    exact ⟨by simp only [PyData.showable]; exact a, by simp only [PyData.hasDict]; exact b, by simp only [PyData.leavesShort]; exact c, by simp only [PyData.canLay0]; exact d⟩
  | .str _, h => by simp [plainPy] at h
  | .dict _, h => by simp [plainPy] at h
theorem plains_facts : ∀ {xs : List PyData}, plainPys xs = true → PyData.showableAll xs = true ∧ PyData.hasDictAll xs = false ∧ PyData.leavesShortAll 1921 xs = true ∧ PyData.canLayAll0 xs = true
  | [], _ => ⟨by simp [PyData.showableAll], by simp [PyData.hasDictAll], by simp [PyData.leavesShortAll], by simp [PyData.canLayAll0]⟩
  | x :: xs, h => by
    simp only [plainPys, Bool.and_eq_true] at h
    obtain ⟨a, b, c, d⟩ := plain_facts h.1
    obtain ⟨a', b', c', d'⟩ := plains_facts h.2
    exact ⟨by simp only [PyData.showableAll, a, a', Bool.and_self], by simp only [PyData.hasDictAll, b, b', Bool.or_self], by simp only [PyData.leavesShortAll, c, c', Bool.and_self], by simp only [PyData.canLayAll0, d, d', Bool.and_self]⟩
end
theorem shOk_of {x : PyData} (h : plainPy x = true) (hd : x.depth ≤ 64) (hb : x.bulk ≤ 8000) : shOk x = true := by
  obtain ⟨a, b, c, d⟩ := plain_facts h
  have e := PyData.shown_le_bulk 1921 (by omega) x c
  unfold shOk
  simp only [a, b, Bool.not_false, Bool.true_and, decide_eq_true hd]
  refine decide_eq_true (Nat.le_trans e ?_)
  rw [sizeLine_eq]
  omega
theorem shaped_of {x : PyData} (h : plainPy x = true) (hd : x.depth ≤ 64) : SeqAt.shaped x = true := by
  obtain ⟨a, b, c, d⟩ := plain_facts h
  show (x.canLay0 && decide (x.depth ≤ 64)) = true
  rw [d, decide_eq_true hd]
  rfl

/-! ### membership in a list or a tuple of data -/
def rInA (K : PySem.W.Frag) (neg : Bool) : R2 := fun x y H Q => ∃ d ds, Dp K H x d ∧ (Dp K H y (.list ds) ∨ Dp K H y (.tuple ds)) ∧ SeqAt.shaped d = true ∧ SeqAt.shaped (.list ds) = true ∧ Q (.bl (if neg = true then !(ds.any fun z => PyData.eqv z d) else ds.any fun z => PyData.eqv z d)) H
theorem op_inA (hu : X.A.units + 65 < cLine) : OpR X (compareOp .In) (rInA X.K false) := by
  intro pins s σ H x y v u Q I rx ry h
  obtain ⟨d, ds, hd, he, sd, se, q⟩ := h
  obtain ⟨as, r1⟩ := Dp.reads I d x v hd rx
  rcases he with he | he
  · obtain ⟨bs, r2⟩ := Dp.reads I (.list ds) y u he ry
    exact SeqAt.in_list_reads r2 r1 (SeqAt.canLay_of_shaped se) (SeqAt.canLay_of_shaped sd) (room_in_shaped sd hu) ⟨.bl _, H, I, rfl, q⟩
  · obtain ⟨bs, r2⟩ := Dp.reads I (.tuple ds) y u he ry
    exact SeqAt.in_tuple_reads r2 r1 (SeqAt.canLay_of_shaped se) (SeqAt.canLay_of_shaped sd) (room_in_shaped sd hu) ⟨.bl _, H, I, rfl, q⟩
theorem op_notInA (hu : X.A.units + 65 < cLine) : OpR X (compareOp .NotIn) (rInA X.K true) := by
  intro pins s σ H x y v u Q I rx ry h
  obtain ⟨d, ds, hd, he, sd, se, q⟩ := h
  obtain ⟨as, r1⟩ := Dp.reads I d x v hd rx
  rcases he with he | he
  · obtain ⟨bs, r2⟩ := Dp.reads I (.list ds) y u he ry
    exact SeqAt.notIn_list_reads r2 r1 (SeqAt.canLay_of_shaped se) (SeqAt.canLay_of_shaped sd) (room_in_shaped sd hu) ⟨.bl _, H, I, rfl, q⟩
  · obtain ⟨bs, r2⟩ := Dp.reads I (.tuple ds) y u he ry
    exact SeqAt.notIn_tuple_reads r2 r1 (SeqAt.canLay_of_shaped se) (SeqAt.canLay_of_shaped sd) (room_in_shaped sd hu) ⟨.bl _, H, I, rfl, q⟩
def gIn (neg : Bool) : D → D → Store → Res D := fun x y M => match toPyM M x, itemsOf M y with
  | some d, some es => match toPys es with
    | some ds => if (SeqAt.shaped d && SeqAt.shaped (.list ds)) = true then some (.ok (.bl (if neg = true then !(ds.any fun z => PyData.eqv z d) else ds.any fun z => PyData.eqv z d)), M) else none
    | none => none
  | _, _ => none
theorem opd_in {neg : Bool} : OpD K mg W (gIn neg) (rInA K neg) := by
  intro x y M I H u v σ Q S rx ry k
  unfold gIn at k
  split at k
  · rename_i d es h1 h2
    split at k
    · rename_i ds h3
      split at k
      · rename_i h4
        rw [Bool.and_eq_true] at h4
        obtain ⟨p, vs, rfl, hs, g⟩ := items_of S ry h2
        have hd := dps_of g h3
        refine ⟨d, ds, dpM_of S rx h1, ?_, h4.1, h4.2, k.ok S rep_bl⟩
        rcases hs with ⟨_, hs⟩ | hs
        · exact .inr (.tup hs hd)
        · exact .inl (.lst hs hd)
      · exact k.elim
    · exact k.elim
  · exact k.elim
theorem gIn_bl {neg : Bool} : ∀ a b M x M', gIn neg a b M = some (.ok x, M') → ∃ b, x = .bl b := by
  intro a b M x M' h
  unfold gIn at h
  split at h
  · split at h
    · split at h
      · cases h; exact ⟨_, rfl⟩
      · cases h
    · cases h
  · cases h
theorem gEq_bl {neg : Bool} : ∀ a b M x M', gEq neg a b M = some (.ok x, M') → ∃ b, x = .bl b := by
  intro a b M x M' h
  unfold gEq at h
  split at h
  · cases h; exact ⟨_, rfl⟩
  · split at h
    · cases h; exact ⟨_, rfl⟩
    · cases h

/-! ### sorted of data that are alike -/
def SrtOk (xs : List PyData) : Prop := PySem.W.AllAlike xs ∧ PySem.W.Sortable xs ∧ (∀ x ∈ xs, x.depth ≤ 60) ∧ xs.length ≤ 16777216
def rSortD (K : PySem.W.Frag) : List V → Hp → VK → Prop := fun xs H Q => ∃ (a : Addr) (vs : List V) (ps : List (V × PyData)), xs = [.ref a] ∧ SqL K H a vs ∧ ps.map (·.1) = vs ∧ DpAll K H vs (ps.map (·.2)) ∧ SrtOk (ps.map (·.2)) ∧
  ∀ p, H p = none → Q (.ref p) (upd H p (.lst ((ps.mergeSort (PySem.W.dataLe false (·.2))).map (·.1))))
theorem each_zip : ∀ {us : List Value} {ps : List (V × PyData)}, Vals (ps.map (·.1)) us → PySem.W.EachIs (fun (u : Value) (p : V × PyData) => RelV p.1 u) us ps
  | [], [], _ => .nil
  | u :: us, [], r => by cases r
  | [], p :: ps, r => by cases r
  | u :: us, p :: ps, r => by
    cases r with
    | cons r1 r2 => exact .cons r1 (each_zip r2)
theorem each_back : ∀ {us : List Value} {ps : List (V × PyData)}, PySem.W.EachIs (fun (u : Value) (p : V × PyData) => RelV p.1 u) us ps → Vals (ps.map (·.1)) us
  | _, _, .nil => .nil
  | _, _, .cons r rs => .cons r (each_back rs)
theorem each_reads {pins : List (Addr × Obj)} {s : Shared} {σ : L2.St} {H : Hp} (I : Inv X pins σ H s) : ∀ {us : List Value} {ps : List (V × PyData)}, Vals (ps.map (·.1)) us → DpAll X.K H (ps.map (·.1)) (ps.map (·.2)) →
    PySem.W.EachIs (fun (u : Value) (p : V × PyData) => ∃ as, Reads s.heap u p.2 as) us ps
  | [], [], _, _ => .nil
  | u :: us, [], r, _ => by cases r
  | [], p :: ps, r, _ => by cases r
  | u :: us, p :: ps, r, d => by
    cases r with
    | cons r1 r2 =>
      cases d with
      | cons d1 d2 => exact .cons (Dp.reads I p.2 p.1 u d1 r1) (each_reads I r2 d2)
theorem cr_sortD (hu : X.A.units + 66 < cLine) : CallR X (.builtin "sorted") (rSortD X.K) := by
  intro pins s σ H xs us Q I r h
  obtain ⟨a, vs, ps, rfl, hs, rfl, hd, ⟨o1, o2, o3, o4⟩, q⟩ := h
  obtain ⟨its, rv, pl, hz⟩ := I.list hs
  obtain ⟨u, rfl, ru⟩ := vals1 r
  cases ru
  refine PySem.W.sorted_data (enc := fun p : V × PyData => p.2) (R := fun (u : Value) (p : V × PyData) => RelV p.1 u) (bs := ps) pl.isList (each_zip rv) (each_reads I rv hd) o1 o2 (by rw [sizeLine_eq]; simpa using o4) (fun b hb => by have := o3 b.2 (List.mem_map_of_mem hb); omega) fun out ho eo => ?_
  obtain ⟨c, hc⟩ := sortedAll_at s.heap its out.toArray
  have rb := each_back eo
  have hlen : ((ps.mergeSort (PySem.W.dataLe false fun p => p.2)).map (·.1)).length ≤ sizeLine := by
    rw [List.length_map, List.length_mergeSort, sizeLine_eq]; simpa using o4
  exact ⟨.ref _, upd H (s.heap.objs.size + 1) (.lst ((ps.mergeSort (PySem.W.dataLe false fun p => p.2)).map (·.1))), I.laid (t' := s.toks) (fun _ _ => sortedAll_old) (Nat.le_succ _) ⟨hlen, out, c, rb, by simpa using hc⟩, rfl, q _ (I.hok.fresh (Nat.le_succ _))⟩
open Classical in
noncomputable def gSort : List D → Store → Res D := fun xs M => match xs with
  | [d] => match itemsOf M d with
    | some ds => match toPys ds with
      | some ys => if SrtOk ys ∧ (∀ es, d ≠ .tup es) then some (.ok (.imm (((ds.zip ys).mergeSort (PySem.W.dataLe false (·.2))).map (·.1))), M) else none
      | none => none
    | none => none
  | _ => none
theorem reps_all {α : Type} {f : α → D} {g : α → V} : ∀ {ts : List α}, (∀ t ∈ ts, Rep K I H (f t) (g t)) → Reps K I H (ts.map f) (ts.map g)
  | [], _ => by simp [Reps]
  | t :: ts, h => Reps.cons (h t List.mem_cons_self) (reps_all fun t' h' => h t' (List.mem_cons_of_mem _ h'))
/-- value, data and reading side by side -/
theorem three : ∀ {ds : List D} {vs : List V} {ys : List PyData}, Reps K I H ds vs → toPys ds = some ys →
    ∃ ts : List ((V × D) × PyData), vs = ts.map (·.1.1) ∧ ds = ts.map (·.1.2) ∧ ys = ts.map (·.2) ∧ ∀ t ∈ ts, Rep K I H t.1.2 t.1.1
  | [], vs, ys, r, e => by
    simp only [Reps] at r
    simp only [toPys, Option.some.injEq] at e
    exact ⟨[], by simp [r], rfl, by simp [← e], fun t h => nomatch h⟩
  | d :: ds, vs, ys, r, e => by
    simp only [Reps] at r
    obtain ⟨v, us, rfl, h2, h3⟩ := r
    simp only [toPys] at e
    split at e
    · rename_i y ys' e1 e2
      cases e
      obtain ⟨ts, q1, q2, q3, q4⟩ := three h3 e2
      refine ⟨((v, d), y) :: ts, by simp [q1], by simp [q2], by simp [q3], fun t h => ?_⟩
      rcases List.mem_cons.mp h with rfl | h
      · exact h2
      · exact q4 t h
    · cases e
theorem sort_map {α β : Type} {f : α → β} {k : β → PyData} (ts : List α) : (ts.map f).mergeSort (PySem.W.dataLe false k) = (ts.mergeSort (PySem.W.dataLe false fun t => k (f t))).map f :=
  (List.map_mergeSort (f := f) fun _ _ _ _ => rfl).symm
theorem cd_sort : CallD K mg W gSort (rSortD K) := by
  intro xs M I H us σ Q S r k
  unfold gSort at k
  split at k
  · rename_i d
    obtain ⟨u, rfl, h⟩ := reps1 r
    split at k
    · rename_i ds q
      split at k
      · rename_i ys q2
        split at k
        · rename_i q3
          obtain ⟨p, vs, rfl, hs, g⟩ := items_of S h q
          have hl : SqL K H p vs := by
            rcases hs with ⟨⟨es, z⟩, _⟩ | hs
            · exact absurd z (q3.2 es)
            · exact hs
          obtain ⟨ts, e1, e2, e3, e4⟩ := three g q2
          have hz : ds.zip ys = ts.map fun t => (t.1.2, t.2) := by rw [e2, e3, List.zip_map']
          have hm2 : (ts.map fun t => (t.1.1, t.2)).map (·.2) = ys := by rw [e3]; simp
          have hm1 : (ts.map fun t => (t.1.1, t.2)).map (·.1) = vs := by rw [e1]; simp
          refine ⟨p, vs, ts.map fun t => (t.1.1, t.2), rfl, hl, hm1, by rw [hm2]; exact dps_of g q2, by rw [hm2]; exact q3.1, fun l hl => ?_⟩
          rw [hz, sort_map] at k
          rw [sort_map]
          refine k.ok' (Ext.new hl) (S.new hl) ?_
          rw [List.map_map, List.map_map]
          refine rep_newL S hl (reps_all fun t ht => ?_)
          exact e4 t (List.mem_mergeSort.mp ht)
        · exact k.elim
      · exact k.elim
    · exact k.elim
  · exact k.elim
end
end DL
/-! The data layer, part 16: the law's own call. -/
namespace DL
open PySem PySem.Spec PyProof.Rows L2
def noneOw : Ow := ⟨[], []⟩
section
variable {P : Program} {w : World} {K : PySem.W.Frag} {mg mb : Str → Option Value} {k : Nat} {fa a : Addr} {fd : FuncData} {x : Str} {m : MF} {s₁ : Shared} {vs : List Value} {ns : List Int} {M' : Store}
/-- the script as it is handed in -/
def scrObj (vs : List Value) : Obj := { cls := .type "list", data := .seq vs.toArray }
/-- nothing is tracked but the script, unless it is one of the module's own objects -/
def scrHp (K : PySem.W.Frag) (a : Addr) (vs : List Value) (ns : List Int) : Hp := fun b => if K.lookup a = none ∧ b = a then some (.frz (scrObj vs) (.lst (ns.map V.int))) else none
theorem scrHp_in {b : Addr} {o : HO} (h : scrHp K a vs ns b = some o) : K.lookup a = none ∧ b = a ∧ o = .frz (scrObj vs) (.lst (ns.map V.int)) := by
  unfold scrHp at h
  split at h
  · rename_i q
    exact ⟨q.1, q.2, (Option.some.inj h).symm⟩
  · cases h
theorem scrHp_ok (ha : s₁.heap.get? a = some (scrObj vs)) (hi : IntsAre vs ns) (hl : ns.length ≤ sizeLine) : HOk P w (scrHp K a vs ns) s₁.heap := by
  intro b o hb
  obtain ⟨_, rfl, rfl⟩ := scrHp_in hb
  exact ⟨ha, by rw [List.length_map]; exact hl, vs, _, vals_ints hi, ha⟩
theorem scrHp_is (KX : K.In s₁.heap) (ha : s₁.heap.get? a = some (scrObj vs)) (hi : IntsAre vs ns) (hl : ns.length ≤ sizeLine) : LstA K noneOw (scrHp K a vs ns) a (ns.map V.int) := by
  have rv := vals_ints hi
  have ln := hi.length
  cases q : K.lookup a with
  | none => exact .inl ⟨.inr ⟨_, if_pos ⟨q, rfl⟩⟩, by simp [Ow.Free, noneOw]⟩
  | some o =>
    have at_ := KX a o q
    rw [ha] at at_
    cases at_
    exact .inr ⟨_, vs.toArray, _, q, rfl, rfl, rfl, by rw [List.size_toArray, ln]; exact hl, by simpa using rv⟩
theorem law_callG (KX : K.In s₁.heap) (hns : s₁.heap.Ns mainGlobals mg) (hb : s₁.heap.Ns builtinsNs mb) (hbb : ∀ x : Str, x ≠ "__name__" → mb x = bootBuiltins x) (hlim : s₁.heap.NoLimit) (hg : s₁.gens = #[])
    (ha : s₁.heap.get? a = some { cls := .type "list", data := .seq vs.toArray }) (hi : IntsAre vs ns) (hl : ns.length ≤ sizeLine) (hr : Room k callerA)
    (F : ∀ base : Heap, K.In base → base.Ns mainGlobals mg → FnG P w K mg base k fa fd [x] m) (hbind : ∀ (s : Shared) (u : Value), BindsTo s fd ⟨[u], []⟩ [(x, u)])
    (hm : m [.scr (ns.map .int)] [] = some (.ok (.bl true), M')) :
    codeAny (model P w) callerA (.call (.ref fa) ⟨[.ref a], []⟩) (fun r s' => r = .ok (.ret (.bool true)) ∧ OldK s₁.heap s'.heap ∧ s'.os = s₁.os ∧ AllBare s'.gens) s₁ := by
  obtain ⟨H, hH⟩ : ∃ H, H = scrHp K a vs ns := ⟨_, rfl⟩
  have inH : ∀ {b : Addr} {o : HO}, H b = some o → K.lookup a = none ∧ b = a ∧ o = .frz (scrObj vs) (.lst (ns.map V.int)) := fun {b o} q => scrHp_in (by rw [← hH]; exact q)
  have okH : HOk P w H s₁.heap := by rw [hH]; exact scrHp_ok ha hi hl
  have isH : LstA K noneOw H a (ns.map V.int) := by rw [hH]; exact scrHp_is KX ha hi hl
  -- what is not tracked stands in the base
  have stays : ∀ {b : Addr} {o : Obj}, s₁.heap.get? b = some o → H b = none → (hidT s₁.heap H).get? b = some o := fun e n => hidT_get e n
  have dicts : ∀ {b : Addr} {o : Obj} {es : Array DictEntry} {ep : Nat}, s₁.heap.get? b = some o → o.data = .dict es ep → H b = none := by
    intro b o es ep e dt
    cases q : H b with
    | none => rfl
    | some u =>
      obtain ⟨_, rfl, _⟩ := inH q
      rw [ha] at e
      cases e
      cases dt
  have spaces : ∀ {b : Addr} {mm : Str → Option Value}, s₁.heap.Ns b mm → (hidT s₁.heap H).Ns b mm := by
    intro b mm ⟨o, es, ep, e, dt, rest⟩
    exact ⟨o, es, ep, stays e (dicts e dt), dt, rest⟩
  have baseK : K.In (hidT s₁.heap H) := by
    intro b o e
    refine stays (KX b o e) ?_
    cases q : H b with
    | none => rfl
    | some u =>
      obtain ⟨z, rfl, _⟩ := inH q
      rw [z] at e
      cases e
  have limB : (hidT s₁.heap H).NoLimit := by
    obtain ⟨mc, l1, l2⟩ := hlim
    exact ⟨mc, spaces l1, l2⟩
  have modB : Mod K mg (hidT s₁.heap H) := ⟨baseK, spaces hns, ⟨mb, spaces hb, hbb⟩, limB⟩
  have env0 : Env0 P w K mg (hidT s₁.heap H) callerA [] s₁ H := ⟨rfl, modB, fun b o e => of_hidT e, Nat.le_of_eq (hidT_size _ _), trivial, (fun b z => absurd (show b ∈ ([] : List Addr) from z) (by simp)), okH, .of_eq hg⟩
  have arg : Reps K noneOw H [.scr (ns.map .int)] [.ref a] := by
    refine Reps.one ?_
    simp only [Rep]
    refine ⟨a, ns.map V.int, rfl, isH, ?_⟩
    exact reps_all (f := D.int) (g := V.int) fun t _ => rep_int
  have sto0 : Sto K noneOw H [] := ⟨rfl, List.nodup_nil, fun n b ds h => by simp [noneOw] at h, fun b z => by simp [noneOw] at z⟩
  have spec : spM K mg m [.ref a] H (fun v _ => v = .bl true) (fun _ _ _ => False) := by
    refine ⟨noneOw, [], _, sto0, arg, ?_⟩
    rw [hm]
    intro I2 H2 v e S r
    simpa only [Rep] using r
  refine codeAny_mono ((F _ baseK (spaces hns)).run callerA [] s₁ H ⟨[.ref a], []⟩ [.ref a] [.ref a] _ _ hr rfl env0 (hbind s₁ (.ref a)) (.cons rfl .nil) spec) fun r s' res => ?_
  match r, res with
  | .error e, res =>
    obtain ⟨_, _, _, _, _, _, _, _, _, _, _, _, z⟩ := res
    exact z.elim
  | .ok (.ret u), res =>
    obtain ⟨v, H', osE, bareE, unE, okE, relE, isT⟩ := res
    have isT : v = .bl true := isT
    subst isT
    obtain rfl : u = Value.bool true := relE
    refine ⟨rfl, OldK.of_keep fun b o at_ => ?_, osE, bareE⟩
    cases q : H b with
    | none => exact unE.keep b o at_ q (fun z => absurd (show b ∈ ([] : List Addr) from z) (by simp)) (by simp)
    | some ho =>
      obtain ⟨_, rfl, rfl⟩ := inH q
      obtain ⟨at2, _⟩ := okE b _ (unE.frzs b _ _ q)
      rw [ha] at at_
      cases at_
      exact at2
  | .ok .next, res => exact res.elim
  | .ok .brk, res => exact res.elim
  | .ok .cont, res => exact res.elim
end
/-- what k_head leaves, from the law's mirror -/
theorem walk_G {l : PySem.W.OpenLaw} {n k : Nat} {q : Program} {loose : List Str} {XP : (Str → Option Value) → Heap → Prop} {YP : World → Heap → Prop} {d : DefRec} {K : Params → PySem.W.Frag} {x : Str} (m : MF)
    (hn : l.most = some n) (hn2 : n ≤ sizeLine) (hdf : d.params.defaults = []) (hr : Room k callerA) (hY : ∀ (w : World) (h : Heap), YP w h → (K w.params).In h)
    (F : ∀ (w : World) (mg : Str → Option Value) (fa : Addr) (h : Heap), (K w.params).In h → h.Ns mainGlobals mg → mg d.name = some (.ref fa) →
      ∃ fd : FuncData, (∀ (s : Shared) (u : Value), BindsTo s fd ⟨[u], []⟩ [(x, u)]) ∧ ∀ base : Heap, (K w.params).In base → base.Ns mainGlobals mg → FnG l.prog w (K w.params) mg base k fa fd [x] m)
    (hm : ∀ ns : List Int, ns.length ≤ n → ∃ M', m [.scr (ns.map .int)] [] = some (.ok (.bl true), M')) :
    PySem.W.WalkO q loose XP YP l.row.toRowW d [] (fun f vs => PySem.call f vs) := by
  refine Att.attach_call hn hdf fun w s₀ s₁ mg mb fa o pm cd doc a vs ns G Y ho hd hcd hmg hobj hints hlen hg => ?_
  have KX := hY w _ Y
  obtain ⟨fd, hbd, hF⟩ := F w mg fa _ KX G.T.g hmg
  obtain ⟨M', e⟩ := hm ns hlen
  exact law_callG KX G.T.g G.T.b G.T.builtins G.T.nolimit hg hobj hints (Nat.le_trans hlen hn2) hr hF hbd e
end DL
/-! The data layer, part 17: the rules in short, as a program prints them. -/
namespace DL
open PySem PySem.Spec PyProof.Rows L2
section
variable {X : Cx} {W : WX} {a b c d e : Expr} {es rest : List Expr} {pos p : Pos} {fa fb fc fd : EF} {fr : AF} {t u : TF} {k j : Nat}
theorem vr (i : Nat) {x : Str} {pos : Pos} (hN : X.N[i]? = some x := by rfl) (hv : Vis X.env.scope x := by first | exact Or.inl rfl | exact Or.inr (Or.inl rfl) | exact Or.inr (Or.inr rfl)) (hd : (x == ("__debug__" : Str)) = false := by decide)
    (hcd : (x == ("__classdict__" : Str)) = false := by decide) : EvE X W (.Name x pos) (cVar i) := ev_var hN hv hd hcd
theorem hu66 {A : Around} (h : Room k A) : A.units + 66 < cLine := by have := h.un; omega
theorem hu65 {A : Around} (h : Room k A) : A.units + 65 < cLine := by have := h.un; omega
theorem hu64 {A : Around} (h : Room k A) : A.units + 64 < cLine := by have := h.un; omega
/-- a built-in type's name -/
theorem ty_int (z : X.mg "int" = none) (hg : Gl X "int" := by rfl) : EvE X W (.Name "int" pos) (cC (.ty "int")) := ev_c (pe_bltn (v := .ty "int") (u := .type "int") hg z (by rfl) rfl) fun _ _ => by simp only [Rep]
theorem ty_bool (z : X.mg "bool" = none) (hg : Gl X "bool" := by rfl) : EvE X W (.Name "bool" pos) (cC (.ty "bool")) := ev_c (pe_bltn (v := .ty "bool") (u := .type "bool") hg z (by rfl) rfl) fun _ _ => by simp only [Rep]
theorem ty_tuple (z : X.mg "tuple" = none) (hg : Gl X "tuple" := by rfl) : EvE X W (.Name "tuple" pos) (cC (.ty "tuple")) := ev_c (pe_bltn (v := .ty "tuple") (u := .type "tuple") hg z (by rfl) rfl) fun _ _ => by simp only [Rep]
theorem ty_str (z : X.mg "str" = none) (hg : Gl X "str" := by rfl) : EvE X W (.Name "str" pos) (cC (.ty "str")) := ev_c (pe_bltn (v := .ty "str") (u := .type "str") hg z (by rfl) rfl) fun _ _ => by simp only [Rep]
theorem ty_list (z : X.mg "list" = none) (hg : Gl X "list" := by rfl) : EvE X W (.Name "list" pos) (cC (.ty "list")) := ev_c (pe_bltn (v := .ty "list") (u := .type "list") hg z (by rfl) rfl) fun _ _ => by simp only [Rep]
theorem b_len (z : X.mg "len" = none) (ha : EvA X W (e :: es) fr) (hg : Gl X "len" := by rfl) (he : starEach (e :: es) X.env = (false, eval e X.env) :: starEach es X.env := by rfl) (hpl : (backTo pos (starEach es X.env)).any (·.1) = false := by rfl) :
    EvE X W (.Call (.Name "len" p) (e :: es) [] pos) (cCall gLen fr) := ev_callB call_len cd_len hg z (by rfl) ha (by decide) (by decide) he hpl
theorem b_tuple (z : X.mg "tuple" = none) (ha : EvA X W (e :: es) fr) (hg : Gl X "tuple" := by rfl) (he : starEach (e :: es) X.env = (false, eval e X.env) :: starEach es X.env := by rfl) (hpl : (backTo pos (starEach es X.env)).any (·.1) = false := by rfl) :
    EvE X W (.Call (.Name "tuple" p) (e :: es) [] pos) (cCall gTuple fr) := ev_callTy call_tuple_of cd_tuple hg z (by rfl) ha (by decide) (by decide) he hpl
theorem b_list (z : X.mg "list" = none) (ha : EvA X W (e :: es) fr) (hg : Gl X "list" := by rfl) (he : starEach (e :: es) X.env = (false, eval e X.env) :: starEach es X.env := by rfl) (hpl : (backTo pos (starEach es X.env)).any (·.1) = false := by rfl) :
    EvE X W (.Call (.Name "list" p) (e :: es) [] pos) (cCall gList fr) := ev_callTy call_list_of cd_list hg z (by rfl) ha (by decide) (by decide) he hpl
theorem b_listC (z : X.mg "list" = none) (ha : EvA X W (e :: es) fr) (hg : Gl X "list" := by rfl) (he : starEach (e :: es) X.env = (false, eval e X.env) :: starEach es X.env := by rfl) (hpl : (backTo pos (starEach es X.env)).any (·.1) = false := by rfl) :
    EvE X W (.Call (.Name "list" p) (e :: es) [] pos) (cCall gListC fr) := ev_callTy call_list_of cd_listC hg z (by rfl) ha (by decide) (by decide) he hpl
theorem b_sum (z : X.mg "sum" = none) (ha : EvA X W (e :: es) fr) (hc : X.calm = true := by rfl) (hg : Gl X "sum" := by rfl) (he : starEach (e :: es) X.env = (false, eval e X.env) :: starEach es X.env := by rfl) (hpl : (backTo pos (starEach es X.env)).any (·.1) = false := by rfl) :
    EvE X W (.Call (.Name "sum" p) (e :: es) [] pos) (cCall gSum fr) := ev_callB (cr_sum hc) cd_sum hg z (by rfl) ha (by decide) (by decide) he hpl
theorem b_any (z : X.mg "any" = none) (ha : EvA X W (e :: es) fr) (hc : X.calm = true := by rfl) (hg : Gl X "any" := by rfl) (he : starEach (e :: es) X.env = (false, eval e X.env) :: starEach es X.env := by rfl) (hpl : (backTo pos (starEach es X.env)).any (·.1) = false := by rfl) :
    EvE X W (.Call (.Name "any" p) (e :: es) [] pos) (cCall gAny fr) := ev_callB (cr_any hc) cd_any hg z (by rfl) ha (by decide) (by decide) he hpl
theorem b_all (z : X.mg "all" = none) (ha : EvA X W (e :: es) fr) (hc : X.calm = true := by rfl) (hg : Gl X "all" := by rfl) (he : starEach (e :: es) X.env = (false, eval e X.env) :: starEach es X.env := by rfl) (hpl : (backTo pos (starEach es X.env)).any (·.1) = false := by rfl) :
    EvE X W (.Call (.Name "all" p) (e :: es) [] pos) (cCall gAll fr) := ev_callB (cr_all hc) cd_all hg z (by rfl) ha (by decide) (by decide) he hpl
theorem b_abs (z : X.mg "abs" = none) (ha : EvA X W (e :: es) fr) (hg : Gl X "abs" := by rfl) (he : starEach (e :: es) X.env = (false, eval e X.env) :: starEach es X.env := by rfl) (hpl : (backTo pos (starEach es X.env)).any (·.1) = false := by rfl) :
    EvE X W (.Call (.Name "abs" p) (e :: es) [] pos) (cCall gAbs fr) := ev_callB call_abs cd_abs hg z (by rfl) ha (by decide) (by decide) he hpl
theorem b_int (z : X.mg "int" = none) (ha : EvA X W (e :: es) fr) (hg : Gl X "int" := by rfl) (he : starEach (e :: es) X.env = (false, eval e X.env) :: starEach es X.env := by rfl) (hpl : (backTo pos (starEach es X.env)).any (·.1) = false := by rfl) :
    EvE X W (.Call (.Name "int" p) (e :: es) [] pos) (cCall gInt fr) := ev_callTy call_int1 cd_int hg z (by rfl) ha (by decide) (by decide) he hpl
theorem b_max (z : X.mg "max" = none) (ha : EvA X W (e :: es) fr) (hc : X.calm = true := by rfl) (hg : Gl X "max" := by rfl) (he : starEach (e :: es) X.env = (false, eval e X.env) :: starEach es X.env := by rfl) (hpl : (backTo pos (starEach es X.env)).any (·.1) = false := by rfl) :
    EvE X W (.Call (.Name "max" p) (e :: es) [] pos) (cCall gMax fr) := ev_callB (cr_maxA hc) cd_max hg z (by rfl) ha (by decide) (by decide) he hpl
theorem b_min (z : X.mg "min" = none) (ha : EvA X W (e :: es) fr) (hc : X.calm = true := by rfl) (hg : Gl X "min" := by rfl) (he : starEach (e :: es) X.env = (false, eval e X.env) :: starEach es X.env := by rfl) (hpl : (backTo pos (starEach es X.env)).any (·.1) = false := by rfl) :
    EvE X W (.Call (.Name "min" p) (e :: es) [] pos) (cCall gMin fr) := ev_callB (cr_minA hc) cd_min hg z (by rfl) ha (by decide) (by decide) he hpl
theorem b_isinstance (z : X.mg "isinstance" = none) (ha : EvA X W (e :: es) fr) (hg : Gl X "isinstance" := by rfl) (he : starEach (e :: es) X.env = (false, eval e X.env) :: starEach es X.env := by rfl) (hpl : (backTo pos (starEach es X.env)).any (·.1) = false := by rfl) :
    EvE X W (.Call (.Name "isinstance" p) (e :: es) [] pos) (cCall gIsi fr) := ev_callB call_isi cd_isi hg z (by rfl) ha (by decide) (by decide) he hpl
theorem b_repr (hr : Room k X.A) (hgd : X.A.guards = some []) (z : X.mg "repr" = none) (ha : EvA X W (e :: es) fr) (hg : Gl X "repr" := by rfl) (he : starEach (e :: es) X.env = (false, eval e X.env) :: starEach es X.env := by rfl) (hpl : (backTo pos (starEach es X.env)).any (·.1) = false := by rfl) :
    EvE X W (.Call (.Name "repr" p) (e :: es) [] pos) (cCall gRepr fr) := ev_callB (cr_repr hgd (hu66 hr)) cd_repr hg z (by rfl) ha (by decide) (by decide) he hpl
theorem b_sorted (hr : Room k X.A) (z : X.mg "sorted" = none) (ha : EvA X W (e :: es) fr) (hg : Gl X "sorted" := by rfl) (he : starEach (e :: es) X.env = (false, eval e X.env) :: starEach es X.env := by rfl) (hpl : (backTo pos (starEach es X.env)).any (·.1) = false := by rfl) :
    EvE X W (.Call (.Name "sorted" p) (e :: es) [] pos) (cCall gSort fr) := ev_callB (cr_sortD (hu66 hr)) cd_sort hg z (by rfl) ha (by decide) (by decide) he hpl
theorem gIsN_bl {neg : Bool} : ∀ a b M x M', gIsN neg a b M = some (.ok x, M') → ∃ b, x = .bl b := by
  intro a b M x M' h
  unfold gIsN at h
  split at h
  · cases h; exact ⟨_, rfl⟩
  · cases h
theorem gIsB_bl {neg : Bool} : ∀ a b M x M', gIsB neg a b M = some (.ok x, M') → ∃ b, x = .bl b := by
  intro a b M x M' h
  unfold gIsB at h
  split at h
  · cases h; exact ⟨_, rfl⟩
  · cases h
theorem gI2_bl {C : Int → Int → Bool} {p : Int → Int → Bool} : ∀ a b M x M', gI C (fun i j => .bl (p i j)) a b M = some (.ok x, M') → ∃ b, x = .bl b := by
  intro a b M x M' h
  unfold gI at h
  split at h
  · split at h
    · cases h; exact ⟨_, rfl⟩
    · cases h
  · cases h
theorem o_add (ha : EvE X W a fa) (hb : EvE X W b fb) : EvE X W (.BinOp a .Add b pos) (cOp gAddA fa fb) := ev_op op_addA opd_addA ha hb
theorem o_sub (ha : EvE X W a fa) (hb : EvE X W b fb) : EvE X W (.BinOp a .Sub b pos) (cOp gSub fa fb) := ev_op op_sub opd_sub ha hb
theorem o_mul (ha : EvE X W a fa) (hb : EvE X W b fb) : EvE X W (.BinOp a .Mult b pos) (cOp gMul fa fb) := ev_op op_mulC opd_mul ha hb
theorem o_fdiv (ha : EvE X W a fa) (hb : EvE X W b fb) : EvE X W (.BinOp a .FloorDiv b pos) (cOp gDiv fa fb) := ev_op op_fdivW opd_div ha hb
theorem o_mod (ha : EvE X W a fa) (hb : EvE X W b fb) : EvE X W (.BinOp a .Mod b pos) (cOp gMod fa fb) := ev_op op_mod opd_mod ha hb
theorem o_pow (ha : EvE X W a fa) (hb : EvE X W b fb) : EvE X W (.BinOp a .Pow b pos) (cOp gPow fa fb) := ev_op op_pow opd_pow ha hb
theorem o_shl (ha : EvE X W a fa) (hb : EvE X W b fb) : EvE X W (.BinOp a .LShift b pos) (cOp gShl fa fb) := ev_op op_shl opd_shl ha hb
theorem o_neg (ha : EvE X W a fa) : EvE X W (.UnaryOp .USub a pos) (cUn gNeg fa) := ev_un un_neg und_neg ha
theorem q_lt (ha : EvE X W a fa) (hb : EvE X W b fb) : EvE X W (.Compare a [.Lt] [b] pos) (cOp gLt fa fb) := ev_cmp op_lt opd_lt ha hb (nomark _)
theorem t_lt (ha : EvE X W a fa) (hb : EvE X W b fb) : EvT X W (.Compare a [.Lt] [b] pos) (cTru (cOp gLt fa fb)) := et_cmp op_lt opd_lt gI2_bl ha hb (nomark _)
theorem q_le (ha : EvE X W a fa) (hb : EvE X W b fb) : EvE X W (.Compare a [.LtE] [b] pos) (cOp gLe fa fb) := ev_cmp op_le opd_le ha hb (nomark _)
theorem t_le (ha : EvE X W a fa) (hb : EvE X W b fb) : EvT X W (.Compare a [.LtE] [b] pos) (cTru (cOp gLe fa fb)) := et_cmp op_le opd_le gI2_bl ha hb (nomark _)
theorem q_gt (ha : EvE X W a fa) (hb : EvE X W b fb) : EvE X W (.Compare a [.Gt] [b] pos) (cOp gGt fa fb) := ev_cmp op_gt opd_gt ha hb (nomark _)
theorem t_gt (ha : EvE X W a fa) (hb : EvE X W b fb) : EvT X W (.Compare a [.Gt] [b] pos) (cTru (cOp gGt fa fb)) := et_cmp op_gt opd_gt gI2_bl ha hb (nomark _)
theorem q_ge (ha : EvE X W a fa) (hb : EvE X W b fb) : EvE X W (.Compare a [.GtE] [b] pos) (cOp gGe fa fb) := ev_cmp op_ge opd_ge ha hb (nomark _)
theorem t_ge (ha : EvE X W a fa) (hb : EvE X W b fb) : EvT X W (.Compare a [.GtE] [b] pos) (cTru (cOp gGe fa fb)) := et_cmp op_ge opd_ge gI2_bl ha hb (nomark _)
theorem q_eq (hr : Room k X.A) (ha : EvE X W a fa) (hb : EvE X W b fb) : EvE X W (.Compare a [.Eq] [b] pos) (cOp (gEq false) fa fb) := ev_cmp (op_eqA (hu64 hr)) opd_eq ha hb (nomark _)
theorem t_eq (hr : Room k X.A) (ha : EvE X W a fa) (hb : EvE X W b fb) : EvT X W (.Compare a [.Eq] [b] pos) (cTru (cOp (gEq false) fa fb)) := et_cmp (op_eqA (hu64 hr)) opd_eq gEq_bl ha hb (nomark _)
theorem q_ne (hr : Room k X.A) (ha : EvE X W a fa) (hb : EvE X W b fb) : EvE X W (.Compare a [.NotEq] [b] pos) (cOp (gEq true) fa fb) := ev_cmp (op_neA (hu64 hr)) opd_ne ha hb (nomark _)
theorem t_ne (hr : Room k X.A) (ha : EvE X W a fa) (hb : EvE X W b fb) : EvT X W (.Compare a [.NotEq] [b] pos) (cTru (cOp (gEq true) fa fb)) := et_cmp (op_neA (hu64 hr)) opd_ne gEq_bl ha hb (nomark _)
theorem q_in (hr : Room k X.A) (ha : EvE X W a fa) (hb : EvE X W b fb) (hm : behindInMarks .In b = false := by with_unfolding_all rfl) : EvE X W (.Compare a [.In] [b] pos) (cOp (gIn false) fa fb) := ev_cmp (op_inA (hu65 hr)) opd_in ha hb hm
theorem t_in (hr : Room k X.A) (ha : EvE X W a fa) (hb : EvE X W b fb) (hm : behindInMarks .In b = false := by with_unfolding_all rfl) : EvT X W (.Compare a [.In] [b] pos) (cTru (cOp (gIn false) fa fb)) := et_cmp (op_inA (hu65 hr)) opd_in gIn_bl ha hb hm
theorem q_notin (hr : Room k X.A) (ha : EvE X W a fa) (hb : EvE X W b fb) (hm : behindInMarks .NotIn b = false := by with_unfolding_all rfl) : EvE X W (.Compare a [.NotIn] [b] pos) (cOp (gIn true) fa fb) := ev_cmp (op_notInA (hu65 hr)) opd_in ha hb hm
theorem t_notin (hr : Room k X.A) (ha : EvE X W a fa) (hb : EvE X W b fb) (hm : behindInMarks .NotIn b = false := by with_unfolding_all rfl) : EvT X W (.Compare a [.NotIn] [b] pos) (cTru (cOp (gIn true) fa fb)) := et_cmp (op_notInA (hu65 hr)) opd_in gIn_bl ha hb hm
theorem q_isN (ha : EvE X W a fa) (hb : EvE X W b fb) : EvE X W (.Compare a [.Is] [b] pos) (cOp (gIsN false) fa fb) := ev_cmp op_isN opd_isN ha hb (nomark _)
theorem t_isN (ha : EvE X W a fa) (hb : EvE X W b fb) : EvT X W (.Compare a [.Is] [b] pos) (cTru (cOp (gIsN false) fa fb)) := et_cmp op_isN opd_isN gIsN_bl ha hb (nomark _)
theorem q_notN (ha : EvE X W a fa) (hb : EvE X W b fb) : EvE X W (.Compare a [.IsNot] [b] pos) (cOp (gIsN true) fa fb) := ev_cmp op_notN opd_notN ha hb (nomark _)
theorem t_notN (ha : EvE X W a fa) (hb : EvE X W b fb) : EvT X W (.Compare a [.IsNot] [b] pos) (cTru (cOp (gIsN true) fa fb)) := et_cmp op_notN opd_notN gIsN_bl ha hb (nomark _)
theorem q_isB (ha : EvE X W a fa) (hb : EvE X W b fb) : EvE X W (.Compare a [.Is] [b] pos) (cOp (gIsB false) fa fb) := ev_cmp op_isBl opd_isB ha hb (nomark _)
theorem t_isB (ha : EvE X W a fa) (hb : EvE X W b fb) : EvT X W (.Compare a [.Is] [b] pos) (cTru (cOp (gIsB false) fa fb)) := et_cmp op_isBl opd_isB gIsB_bl ha hb (nomark _)
theorem q_notB (ha : EvE X W a fa) (hb : EvE X W b fb) : EvE X W (.Compare a [.IsNot] [b] pos) (cOp (gIsB true) fa fb) := ev_cmp op_notBl opd_notB ha hb (nomark _)
theorem t_notB (ha : EvE X W a fa) (hb : EvE X W b fb) : EvT X W (.Compare a [.IsNot] [b] pos) (cTru (cOp (gIsB true) fa fb)) := et_cmp op_notBl opd_notB gIsB_bl ha hb (nomark _)
end
end DL
/-! The data layer, part 18: calls by name, written constants. -/
namespace DL
open PySem PySem.Spec PyProof.Rows L2
/-- a def that may be called by its name -/
structure CalG (P : Program) (w : World) (K : PySem.W.Frag) (mg : Str → Option Value) (base : Heap) (k : Nat) (x : Str) (m : MF) : Prop where
  ex : ∃ f fd ps, FnG P w K mg base k f fd ps m ∧ mg x = some (.ref f) ∧ PySem.W.keepIn K (.ref f) = true ∧ Binds K fd ps []
theorem CalG.mono {P : Program} {w : World} {K : PySem.W.Frag} {mg : Str → Option Value} {base : Heap} {j k : Nat} {x : Str} {m : MF} (c : CalG P w K mg base j x m) (h : j ≤ k) : CalG P w K mg base k x m := by
  obtain ⟨f, fd, ps, F, r⟩ := c.ex
  exact ⟨f, fd, ps, F.mono h, r⟩
section
variable {X : Cx} {W : WX} {pos p : Pos} {e : Expr} {es : List Expr} {fr : AF} {k j : Nat} {m : MF} {x : Str}
theorem ev_cl (c : CalG X.prog X.w X.K X.mg X.base j x m) (hr : Room k X.A) (hjk : j ≤ k) (hgd : X.A.guards = some []) (tk : Takes X W) (ha : EvA X W (e :: es) fr) (hg : Gl X x := by rfl)
    (hdb : (x == ("__debug__" : Str)) = false := by decide) (he : starEach (e :: es) X.env = (false, eval e X.env) :: starEach es X.env := by rfl) (hpl : (backTo pos (starEach es X.env)).any (·.1) = false := by rfl) :
    EvE X W (.Call (.Name x p) (e :: es) [] pos) (cCall m fr) := by
  obtain ⟨f, fd, ps, F, h1, h2, h3⟩ := c.ex
  exact ev_call F (hr.mono hjk) hgd hg h1 h2 h3 tk ha hdb he hpl
theorem ev_cl0 (c : CalG X.prog X.w X.K X.mg X.base j x m) (hr : Room k X.A) (hjk : j ≤ k) (hgd : X.A.guards = some []) (tk : Takes X W) (hg : Gl X x := by rfl)
    (hdb : (x == ("__debug__" : Str)) = false := by decide) : EvE X W (.Call (.Name x p) [] [] pos) (cCall m aNil) := by
  obtain ⟨f, fd, ps, F, h1, h2, h3⟩ := c.ex
  exact ev_call0 F (hr.mono hjk) hgd hg h1 h2 h3 tk hdb
end
/-! ### what the written part holds -/
mutual
def konB (K : PySem.W.Frag) : Value → D → Bool
  | .none, .non => true
  | .bool a, .bl b => a == b
  | .int a _, .int b => a == b
  | .str a _, .str b => a == b
  | .ref a, .tup ds => match K.lookup a with
    | some o => (match o.cls with | .type t => t == "tuple" | _ => false) && (match o.data with | .seq its _ => decide (its.size ≤ 16777216) && konBs K its.toList ds | _ => false)
    | none => false
  | .ref a, .scr ds => match K.lookup a with
    | some o => (match o.cls with | .type t => t == "list" | _ => false) && o.dict.isNone && (match o.data with | .seq its _ => decide (its.size ≤ 16777216) && konBs K its.toList ds | _ => false)
    | none => false
  | _, _ => false
termination_by structural _ d => d
def konBs (K : PySem.W.Frag) : List Value → List D → Bool
  | [], [] => true
  | v :: vs, d :: ds => konB K v d && konBs K vs ds
  | _, _ => false
termination_by structural _ ds => ds
end
mutual
theorem konB_ok {K : PySem.W.Frag} : ∀ {v : Value} {d : D}, konB K v d = true → ∃ x, RelV x v ∧ ∀ I H, Rep K I H d x
  | v, .non, h => by
    cases v <;> simp only [konB] at h <;> first | (cases h; done) | skip
    exact ⟨.non, rfl, fun _ _ => rep_non⟩
  | v, .bl b, h => by
    cases v <;> simp only [konB] at h <;> first | (cases h; done) | skip
    rename_i a
    exact ⟨.bl b, by rw [beq_iff_eq.mp h]; rfl, fun _ _ => rep_bl⟩
  | v, .int b, h => by
    cases v <;> simp only [konB] at h <;> first | (cases h; done) | skip
    rename_i a t
    exact ⟨.int b, ⟨t, by rw [beq_iff_eq.mp h]⟩, fun _ _ => rep_int⟩
  | v, .str b, h => by
    cases v <;> simp only [konB] at h <;> first | (cases h; done) | skip
    rename_i a t
    exact ⟨.str b, ⟨t, by rw [beq_iff_eq.mp h]⟩, fun _ _ => rep_str⟩
  | v, .tup ds, h => by
    cases v <;> simp only [konB] at h <;> first | (cases h; done) | skip
    rename_i a
    split at h
    · rename_i o ho
      rw [Bool.and_eq_true] at h
      obtain ⟨h1, h2⟩ := h
      split at h1
      · rename_i t ht
        split at h2
        · rename_i its n hd
          rw [Bool.and_eq_true, decide_eq_true_eq] at h2
          obtain ⟨xs, r1, r2⟩ := konBs_ok h2.2
          refine ⟨.ref a, rfl, fun I H => ?_⟩
          simp only [Rep]
          exact ⟨a, xs, rfl, .inr ⟨o, its, n, ho, by rw [ht, beq_iff_eq.mp h1], hd, by rw [sizeLine_eq]; exact h2.1, r1⟩, r2 I H⟩
        · cases h2
      · cases h1
    · cases h
  | v, .scr ds, h => by
    cases v <;> simp only [konB] at h <;> first | (cases h; done) | skip
    rename_i a
    split at h
    · rename_i o ho
      rw [Bool.and_eq_true, Bool.and_eq_true] at h
      obtain ⟨⟨h1, h3⟩, h2⟩ := h
      split at h1
      · rename_i t ht
        split at h2
        · rename_i its n hd
          rw [Bool.and_eq_true, decide_eq_true_eq] at h2
          obtain ⟨xs, r1, r2⟩ := konBs_ok h2.2
          refine ⟨.ref a, rfl, fun I H => ?_⟩
          simp only [Rep]
          exact ⟨a, xs, rfl, .inr ⟨o, its, n, ho, by rw [ht, beq_iff_eq.mp h1], Option.isNone_iff_eq_none.mp h3, hd, by rw [sizeLine_eq]; exact h2.1, r1⟩, r2 I H⟩
        · cases h2
      · cases h1
    · cases h
  | v, .imm ds, h => by cases v <;> simp only [konB] at h <;> cases h
  | v, .cel n, h => by cases v <;> simp only [konB] at h <;> cases h
  | v, .ty n, h => by cases v <;> simp only [konB] at h <;> cases h
theorem konBs_ok {K : PySem.W.Frag} : ∀ {vs : List Value} {ds : List D}, konBs K vs ds = true → ∃ xs, Vals xs vs ∧ ∀ I H, Reps K I H ds xs
  | [], [], h => ⟨[], .nil, fun _ _ => by simp only [Reps]⟩
  | v :: vs, [], h => by simp only [konBs] at h; cases h
  | [], d :: ds, h => by simp only [konBs] at h; cases h
  | v :: vs, d :: ds, h => by
    simp only [konBs, Bool.and_eq_true] at h
    obtain ⟨x, r1, r2⟩ := konB_ok h.1
    obtain ⟨xs, s1, s2⟩ := konBs_ok h.2
    exact ⟨x :: xs, .cons r1 s1, fun I H => Reps.cons (r2 I H) (s2 I H)⟩
end
theorem ev_gl {X : Cx} {W : WX} {x : Str} {v : Value} {d : D} {pos : Pos} (hm : X.mg x = some v) (hk : konB X.K v d = true) (hg : Gl X x := by rfl) (hd : (x == ("__debug__" : Str)) = false := by decide) : EvE X W (.Name x pos) (cC d) := by
  obtain ⟨y, r, q⟩ := konB_ok hk
  exact ev_c (pe_glob hg hm r hd) q
end DL
/-! The data layer, part 19: chains as tests, comprehensions that make lists of the store. -/
namespace DL
open PySem PySem.Spec PyProof.Rows L2
section
variable {X : Cx} {W : WX} {K : PySem.W.Frag} {mg : Str → Option Value} {I I' : Ow} {H H' : Hp} {M M' : Store} {σ : L2.St} {en : Env}
variable {a b c d e tg iter elt : Expr} {es ifs : List Expr} {pos : Pos} {fa fb fc fd : EF} {fi : AF} {gt : GF} {t : TF} {f : EF} {Sl : List Nat} {g g' g'' : D → D → Store → Res D} {r r' r'' : R2}
theorem hu64m {A : Around} {k : Nat} {e : Option Value} (h : Room k A) : (A.mark e).units + 64 < cLine := (hu64 h : A.units + 64 < cLine)
/-- a reading of a value as a test, where the value is a bool or the code ends otherwise -/
theorem tst_imp {te : TE} {f : EF} (i : ∀ Q', TD X.K X.mg W (Rep X.K) f σ H Q' → te σ H Q') (hb : ∀ en M x M', f en M = some (.ok x, M') → ∃ b, x = .bl b) {Q : Bool → Hp → Prop} (h : TD X.K X.mg W RB (cTru f) σ H Q) : tTest te σ H Q := test_imp i h hb
theorem ch2_bl (hg : ∀ a b M x M', g' a b M = some (.ok x, M') → ∃ b, x = .bl b) : ∀ en M x M', cCh2 g g' fa fb fc en M = some (.ok x, M') → ∃ b, x = .bl b := by
  intro en M x M' h
  unfold cCh2 at h
  match q : fa en M, h with
  | some (.ok u, M1), h =>
    have h : bnd (fb en M1) (fun y M2 => bnd (g u y M2) fun z M3 => match z with
      | .bl true => bnd (fc en M3) fun w M4 => g' y w M4
      | .bl false => some (.ok (.bl false), M3)
      | _ => none) = some (.ok x, M') := h
    match q2 : fb en M1, h with
    | some (.ok v, M2), h =>
      have h : bnd (g u v M2) (fun z M3 => match z with
        | .bl true => bnd (fc en M3) fun w M4 => g' v w M4
        | .bl false => some (.ok (.bl false), M3)
        | _ => none) = some (.ok x, M') := h
      match q3 : g u v M2, h with
      | some (.ok (.bl true), M3), h =>
        have h : bnd (fc en M3) (fun w M4 => g' v w M4) = some (.ok x, M') := h
        match q4 : fc en M3, h with
        | some (.ok w, M4), h => exact hg _ _ _ _ _ h
      | some (.ok (.bl false), M3), h => cases h; exact ⟨_, rfl⟩
theorem et_chn {ops : List CmpOp} {rs : List Expr} {te : TE} (hp : PT X (.Compare a ops rs pos) (tTest te)) (i : ∀ σ H Q', TD X.K X.mg W (Rep X.K) f σ H Q' → te σ H Q') (hb : ∀ en M x M', f en M = some (.ok x, M') → ∃ b, x = .bl b) : EvT X W (.Compare a ops rs pos) (cTru f) :=
  ⟨pt_imp hp fun σ H Q h => tst_imp (i σ H) hb h⟩
theorem ch2_read {ta tb tc : TE} (hg : OpD X.K X.mg W g r) (hg' : OpD X.K X.mg W g' r') {Q : VK} (h : TD X.K X.mg W (Rep X.K) (cCh2 g g' fa fb fc) σ H Q) : tChain r r' (TD X.K X.mg W (Rep X.K) fa) (TD X.K X.mg W (Rep X.K) fb) (TD X.K X.mg W (Rep X.K) fc) σ H Q := by
  obtain ⟨I, M, en, S, re, k⟩ := h
  refine ⟨I, M, en, S, re, k.bind fun x M1 I1 H1 u e1 S1 r1 k1 => ?_⟩
  refine ⟨I1, M1, en, S1, re.mono e1, k1.bind fun y M2 I2 H2 v e2 S2 r2 k2 => ?_⟩
  refine hg x y M2 I2 H2 u v σ _ S2 (e2.rep r1) r2 (k2.bind fun z M3 I3 H3 w e3 S3 r3 k3 => ?_)
  cases z <;> (try exact k3.elim)
  rename_i bb
  simp only [Rep] at r3
  refine ⟨bb, r3, ?_⟩
  cases bb with
  | false => exact (if_neg Bool.false_ne_true).mpr (k3.ok S3 rep_bl)
  | true =>
    refine (if_pos rfl).mpr ⟨I3, M3, en, S3, ((re.mono e1).mono e2).mono e3, Kp.bind k3 fun w' M4 I4 H4 w2 e4 S4 r4 k4 => ?_⟩
    exact hg' y w' M4 I4 H4 v w2 σ _ S4 (e4.rep (e3.rep r2)) r4 k4
theorem et_ch2 {op op' : CmpOp} (ho : OpR X (compareOp op) r) (hg : OpD X.K X.mg W g r) (ho' : OpR X (compareOp op') r') (hg' : OpD X.K X.mg W g' r') (ha : EvE X W a fa) (hb : EvE X W b fb) (hc : EvE X W c fc)
    (hbl : ∀ a b M x M', g' a b M = some (.ok x, M') → ∃ b, x = .bl b := by first | exact gI2_bl | exact gEq_bl) (hm : lastMarks [op, op'] [b, c] = false := by with_unfolding_all rfl) : EvT X W (.Compare a [op, op'] [b, c] pos) (cTru (cCh2 g g' fa fb fc)) :=
  et_chn (pt_chain ho ho' ha.pe hb.pe hc.pe hm) (fun _ _ _ h => ch2_read (ta := TD X.K X.mg W (Rep X.K) fa) (tb := TD X.K X.mg W (Rep X.K) fb) (tc := TD X.K X.mg W (Rep X.K) fc) hg hg' h) (ch2_bl hbl)
theorem ev_lcC {scope : Scope} {own : List (Str × Nat)} (hc : X.calm = true) (hN : X.N.Nodup) (hi : EvI X W tg iter fi) (ok : BlkOk X.N X.env.scope scope own) (hS : ∀ k ∈ Sl, k ∈ own.map (·.2))
    (hg : ∀ (s : Shared) (H : Hp) (C : Addr) (cl : List (Str × Addr)) (fp : List Addr), EvG (X.blk s H scope (compEnvC scope cl C X.env) fp) tg Sl gt)
    (ht : ∀ (s : Shared) (H : Hp) (C : Addr) (cl : List (Str × Addr)) (fp : List Addr), EvTs (X.blk s H scope (compEnvC scope cl C X.env) fp) W0 ifs t)
    (he : ∀ (s : Shared) (H : Hp) (C : Addr) (cl : List (Str × Addr)) (fp : List Addr), EvE (X.blk s H scope (compEnvC scope cl C X.env) fp) W0 elt f) (hs : ∀ x, foldedSetIterable iter X.env x = pure x := by intro _; rfl) :
    EvE X W (.ListComp elt [⟨tg, iter, ifs, 0⟩] scope pos) (cLcC fi gt t f (own.map (·.2))) :=
  ⟨pe_imp (pe_lc (g := TG_ X.K Sl gt) (tt := TD X.K X.mg W0 RB t) (te := TD X.K X.mg W0 (Rep X.K) f) hc hN hi.pi ok (fun s H C cl fp => (hg s H C cl fp).pg) (fun s H C cl fp => (ht s H C cl fp).pts) (fun s H C cl fp => (he s H C cl fp).pe) hs) fun _ _ _ h => lc_readG mkC_ok hS h⟩
end
end DL
/-! The data layer, part 20: how the mirrors are worked out. -/
namespace DL
open PySem PySem.Spec PyProof.Rows L2
section
variable {en en1 : Env} {M M1 M2 : Store} {d d1 d2 : D} {ds es : List D} {fa fb fc fd : EF} {fr : AF} {p q : SF} {t u : TF} {i j : Nat} {a b : Int} {g : D → D → Store → Res D}
@[simp] theorem cVar_e : cVar i en M = match en[i]? with | some (some d) => some (.ok d, M) | _ => none := rfl
@[simp] theorem cC_e : cC d en M = some (.ok d, M) := rfl
@[simp] theorem cOp_e : cOp g fa fb en M = bnd (fa en M) fun x M1 => bnd (fb en M1) fun y M2 => g x y M2 := rfl
@[simp] theorem cUn_e {g : D → Store → Res D} : cUn g fa en M = bnd (fa en M) fun x M1 => g x M1 := rfl
@[simp] theorem aNil_e : aNil en M = some (.ok [], M) := rfl
@[simp] theorem aCons_e : aCons fa fr en M = bnd (fa en M) fun x M1 => bnd (fr en M1) fun xs M2 => some (.ok (x :: xs), M2) := rfl
@[simp] theorem cCall_e {g : List D → Store → Res D} : cCall g fr en M = bnd (fr en M) fun xs M1 => g xs M1 := rfl
@[simp] theorem cTup_e : cTup fr en M = bnd (fr en M) fun ds M1 => if szOk ds.length = true then some (.ok (.tup ds), M1) else none := rfl
@[simp] theorem cLst_e : cLst fr en M = bnd (fr en M) fun ds M1 => if szOk ds.length = true then some (.ok (.imm ds), M1) else none := rfl
@[simp] theorem cCel_e : cCel fr en M = bnd (fr en M) fun ds M1 => if szOk ds.length = true then some (.ok (.cel M1.length), M1 ++ [ds]) else none := rfl
@[simp] theorem cAnd_e : cAnd fa fb en M = bnd (fa en M) fun x M1 => match tru M1 x with | some true => fb en M1 | some false => some (.ok x, M1) | none => none := rfl
@[simp] theorem cOr_e : cOr fa fb en M = bnd (fa en M) fun x M1 => match tru M1 x with | some true => some (.ok x, M1) | some false => fb en M1 | none => none := rfl
@[simp] theorem cNot_e : cNot fa en M = bnd (fa en M) fun x M1 => match tru M1 x with | some b => some (.ok (.bl (!b)), M1) | none => none := rfl
@[simp] theorem cTru_e : cTru fa en M = bnd (fa en M) fun x M1 => match tru M1 x with | some b => some (.ok b, M1) | none => none := rfl
@[simp] theorem tAndC_e : tAndC t u en M = bnd (t en M) fun x M1 => if x = true then u en M1 else some (.ok false, M1) := rfl
@[simp] theorem tOrC_e : tOrC t u en M = bnd (t en M) fun x M1 => if x = true then some (.ok true, M1) else u en M1 := rfl
@[simp] theorem tNotC_e : tNotC t en M = bnd (t en M) fun x M1 => some (.ok (!x), M1) := rfl
@[simp] theorem cIf_e : cIf t fa fb en M = bnd (t en M) fun x M1 => if x = true then fa en M1 else fb en M1 := rfl
@[simp] theorem cCh2_e {g g' : D → D → Store → Res D} : cCh2 g g' fa fb fc en M = bnd (fa en M) fun x M1 => bnd (fb en M1) fun y M2 => bnd (g x y M2) fun z M3 => match z with
  | .bl true => bnd (fc en M3) fun w M4 => g' y w M4
  | .bl false => some (.ok (.bl false), M3)
  | _ => none := rfl
@[simp] theorem cCh3_e {g g' g'' : D → D → Store → Res D} : cCh3 g g' g'' fa fb fc fd en M = bnd (fa en M) fun x M1 => bnd (fb en M1) fun y M2 => bnd (g x y M2) fun z M3 => match z with
  | .bl true => bnd (fc en M3) fun w M4 => bnd (g' y w M4) fun z' M5 => (match z' with
    | .bl true => bnd (fd en M5) fun u M6 => g'' w u M6
    | .bl false => some (.ok (.bl false), M5)
    | _ => none)
  | .bl false => some (.ok (.bl false), M3)
  | _ => none := rfl
@[simp] theorem cBits_e : cBits fa en M = bnd (fa en M) fun x M1 => match x with | .int i => some (.ok (.int (Builtin.Int.intBits i : Nat)), M1) | _ => none := rfl
@[simp] theorem cApp_e : cApp fa fb en M = bnd (fa en M) fun x M1 => match x with
  | .cel n => if n < M1.length then bnd (fb en M1) fun y M2 => match M2[n]? with
    | some ds => if szOk (ds.length + 1) = true then some (.ok .non, M2.set n (ds ++ [y])) else none
    | none => none
    else none
  | _ => none := rfl
/-! values -/
@[simp] theorem gI_e {C : Int → Int → Bool} {f : Int → Int → D} : gI C f (.int a) (.int b) M = if C a b = true then some (.ok (f a b), M) else none := rfl
@[simp] theorem yes2_e : yes2 a b = true := (rfl)
@[simp] theorem gAddA_i : gAddA (.int a) (.int b) M = some (.ok (.int (a + b)), M) := rfl
@[simp] theorem gAddA_t : gAddA (.tup ds) (.tup es) M = if szOk (ds.length + es.length) = true then some (.ok (.tup (ds ++ es)), M) else none := rfl
@[simp] theorem gAddA_l : gAddA (.imm ds) (.imm es) M = if szOk (ds.length + es.length) = true then some (.ok (.imm (ds ++ es)), M) else none := rfl
@[simp] theorem gNeg_e : gNeg (.int a) M = some (.ok (.int (-a)), M) := rfl
@[simp] theorem gAbs_e : gAbs [.int a] M = some (.ok (.int (if a < 0 then -a else a)), M) := rfl
@[simp] theorem gInt_i : gInt [.int a] M = some (.ok (.int a), M) := rfl
@[simp] theorem gInt_b {k : Bool} : gInt [.bl k] M = some (.ok (.int (if k = true then 1 else 0)), M) := rfl
@[simp] theorem gLen_t : gLen [.tup ds] M = some (.ok (.int ds.length), M) := rfl
@[simp] theorem gLen_l : gLen [.imm ds] M = some (.ok (.int ds.length), M) := rfl
@[simp] theorem gLen_s : gLen [.scr ds] M = some (.ok (.int ds.length), M) := rfl
@[simp] theorem gTuple_t : gTuple [.tup ds] M = some (.ok (.tup ds), M) := rfl
@[simp] theorem gTuple_l : gTuple [.imm ds] M = some (.ok (.tup ds), M) := rfl
@[simp] theorem gList_t : gList [.tup ds] M = some (.ok (.imm ds), M) := rfl
@[simp] theorem gList_l : gList [.imm ds] M = some (.ok (.imm ds), M) := rfl
@[simp] theorem tru_bl {k : Bool} : tru M (.bl k) = some k := rfl
@[simp] theorem tru_int : tru M (.int a) = some (a != 0) := rfl
@[simp] theorem tru_tup : tru M (.tup ds) = some (!ds.isEmpty) := rfl
@[simp] theorem tru_imm : tru M (.imm ds) = some (!ds.isEmpty) := rfl
@[simp] theorem items_t : itemsOf M (.tup ds) = some ds := rfl
@[simp] theorem items_l : itemsOf M (.imm ds) = some ds := rfl
@[simp] theorem items_s : itemsOf M (.scr ds) = some ds := rfl
@[simp] theorem items_c : itemsOf M (.cel i) = M[i]? := rfl
@[simp] theorem gMax_e : gMax [.int a, .int b] M = some (.ok (.int (if b > a then b else a)), M) := rfl
@[simp] theorem gMin_e : gMin [.int a, .int b] M = some (.ok (.int (if b < a then b else a)), M) := rfl
theorem atI_nat (h : i < ds.length) : atI ds (i : Int) = some ds[i] := by
  unfold atI
  rw [show ixN ds.length (i : Int) = some i by
    unfold ixN
    first | (simp; omega) | (split <;> simp_all <;> omega)]
  exact List.getElem?_eq_getElem h
theorem gIx_t (h : itemsOf M d = some ds) (h2 : atI ds a = some d1) : gIx d (.int a) M = some (.ok d1, M) := by
  unfold gIx
  simp only [h, h2]
/-! statements -/
theorem sSeq_nx {en1 : Env} (h : p en M = some (.nx en1, M1)) : sSeq p q en M = q en1 M1 := by unfold sSeq; rw [h]
theorem sSeq_rt (h : p en M = some (.rt d, M1)) : sSeq p q en M = some (.rt d, M1) := by unfold sSeq; rw [h]
@[simp] theorem sSkip_e : sSkip en M = some (.nx en, M) := rfl
@[simp] theorem sBreak_e : sBreak en M = some (.bk en, M) := rfl
@[simp] theorem sCont_e : sCont en M = some (.ct en, M) := rfl
@[simp] theorem sRetN_e : sRetN en M = some (.rt .non, M) := rfl
@[simp] theorem sSeq_e : sSeq p q en M = match p en M with | some (.nx en1, M1) => q en1 M1 | o => o := rfl
@[simp] theorem sExpr_e : sExpr fa en M = sbnd (fa en M) en fun _ M1 => some (.nx en, M1) := rfl
@[simp] theorem sRet_e : sRet fa en M = sbnd (fa en M) en fun d M1 => some (.rt d, M1) := rfl
@[simp] theorem sIf_e : sIf t p q en M = sbnd (t en M) en fun x M1 => if x = true then p en M1 else q en M1 := rfl
@[simp] theorem sAsg_e {g : GF} : sAsg fa g en M = sbnd (fa en M) en fun d M1 => match g d en M1 with | some (en', M2) => some (.nx en', M2) | none => none := rfl
@[simp] theorem gN_e : gN i d en M = some (en.set i (some d), M) := rfl
@[simp] theorem sPar_e : sPar i j fr en M = sbnd (fr en M) en fun ds M1 => match ds with | [d, d'] => some (.nx ((en.set i (some d)).set j (some d')), M1) | _ => none := rfl
@[simp] theorem sAug_e {g : D → D → Store → Res D} : sAug i g fa en M = match en[i]? with
  | some (some d) => sbnd (fa en M) en fun y M1 => sbnd (g d y M1) en fun z M2 => some (.nx (en.set i (some z)), M2)
  | _ => none := rfl
@[simp] theorem sRaise_e {c : Str} : sRaise c fr en M = sbnd (fr en M) en fun ds M1 => match ds with | [d] => some (.ex c [("reason", d)] en, M1) | _ => none := rfl
@[simp] theorem gNil_e : gNilC [] en M = some (en, M) := rfl
@[simp] theorem gCons_e {g : GF} {gs : GsF} : gConsC g gs (d :: ds) en M = match g d en M with | some (en1, M1) => gs ds en1 M1 | none => none := rfl
@[simp] theorem gTup_e {n : Nat} {gs : GsF} : gTupC n gs d en M = match itemsOf M d with | some ds => if ds.length = n then gs ds en M else none | none => none := rfl
@[simp] theorem sFor_e {fi : AF} {g : GF} : sFor fi g p en M = sbnd (fi en M) en fun ds M1 => fLoop g p ds en M1 := rfl
@[simp] theorem fLoop_nil {g : GF} : fLoop g p [] en M = some (.nx en, M) := rfl
theorem fLoop_cons {g : GF} : fLoop g p (d :: ds) en M = match g d en M with
    | none => none
    | some (en1, M1) => match p en1 M1 with
      | some (.nx en2, M2) => fLoop g p ds en2 M2
      | some (.ct en2, M2) => fLoop g p ds en2 M2
      | some (.bk en2, M2) => some (.nx en2, M2)
      | o => o := rfl
/-- what a walk over a value goes through -/
def seqI : D → Option (List D)
  | .tup ds => some ds
  | .imm ds => some ds
  | .scr ds => some ds
  | _ => none
@[simp] theorem seqI_t : seqI (.tup ds) = some ds := rfl
@[simp] theorem seqI_l : seqI (.imm ds) = some ds := rfl
@[simp] theorem seqI_s : seqI (.scr ds) = some ds := rfl
@[simp] theorem iSeq_e : iSeq fa en M = bnd (fa en M) fun x M1 => match seqI x with | some ds => some (.ok ds, M1) | none => none := by
  unfold iSeq
  congr
  funext x M1
  cases x <;> rfl
/-! a call's end -/
@[simp] theorem fin_nx : fin (some (.nx en, M)) = some (.ok .non, M) := rfl
@[simp] theorem fin_rt : fin (some (.rt d, M)) = some (.ok d, M) := rfl
@[simp] theorem fin_ex {c : Str} {fs : List (Str × D)} : fin (some (.ex c fs en, M)) = some (.ex c fs, M) := rfl
@[simp] theorem clo_int {n : Nat} : clo n (.int a) = true := (rfl)
@[simp] theorem clo_bl {n : Nat} {k : Bool} : clo n (.bl k) = true := (rfl)
@[simp] theorem clo_non {n : Nat} : clo n .non = true := (rfl)
@[simp] theorem clo_str {n : Nat} {s : Str} : clo n (.str s) = true := (rfl)
@[simp] theorem clo_tup {n : Nat} : clo n (.tup ds) = clos n ds := by simp only [clo]
@[simp] theorem clo_imm {n : Nat} : clo n (.imm ds) = clos n ds := by simp only [clo]
@[simp] theorem clos_nil {n : Nat} : clos n [] = true := (rfl)
@[simp] theorem clos_cons {n : Nat} : clos n (d :: ds) = (clo n d && clos n ds) := by simp only [clos]
theorem clos_all {n : Nat} : ∀ {ds : List D}, (∀ d ∈ ds, clo n d = true) → clos n ds = true
  | [], _ => rfl
  | d :: ds, h => by
    simp only [clos_cons, Bool.and_eq_true]
    exact ⟨h d List.mem_cons_self, clos_all fun e he => h e (List.mem_cons_of_mem _ he)⟩
@[simp] theorem clos_map {α : Type} {n : Nat} {f : α → D} {l : List α} (h : ∀ x, clo n (f x) = true) : clos n (l.map f) = true := clos_all fun d hd => by
  obtain ⟨x, _, rfl⟩ := List.mem_map.mp hd
  exact h x
def notCel : D → Bool
  | .cel _ => false
  | _ => true
theorem tidy_take {L : Store} : Tidy M (M ++ L) ∧ (M ++ L).take M.length = M := ⟨Tidy.none, by simp⟩
theorem gcF_ok {L : Store} (h : clo M.length d = true) (hn : notCel d = true) : gcF M (some (.ok d, M ++ L)) = some (.ok d, M) := by
  unfold gcF
  dsimp only
  rw [if_pos Tidy.none, tidy_take.2]
  cases d <;> first | exact absurd hn Bool.false_ne_true | exact if_pos h
@[simp] theorem gcF_ok0 (h : clo M.length d = true) (hn : notCel d = true) : gcF M (some (.ok d, M)) = some (.ok d, M) := by
  have := gcF_ok (L := []) h hn
  simpa using this
@[simp] theorem notCel_int : notCel (.int a) = true := (rfl)
@[simp] theorem notCel_bl {k : Bool} : notCel (.bl k) = true := (rfl)
@[simp] theorem notCel_non : notCel .non = true := (rfl)
@[simp] theorem notCel_tup : notCel (.tup ds) = true := (rfl)
@[simp] theorem notCel_imm : notCel (.imm ds) = true := (rfl)
/-- a list of the store that is given back -/
theorem gcF_cel {L : Store} (h : (M ++ L)[j]? = some ds) (hj : M.length ≤ j) (hc : clos M.length ds = true) : gcF M (some (.ok (.cel j), M ++ L)) = some (.ok (.imm ds), M) := by
  unfold gcF
  dsimp only
  rw [if_pos Tidy.none, if_neg (Nat.not_lt.mpr hj), h]
  dsimp only
  rw [if_pos hc, tidy_take.2]
theorem gcF_ex {L : Store} {c : Str} {fs : List (Str × D)} (h : clos M.length (fs.map (·.2)) = true) : gcF M (some (.ex c fs, M ++ L)) = some (.ex c fs, M) := by
  unfold gcF
  dsimp only
  rw [if_pos ⟨Tidy.none, h⟩, tidy_take.2]
@[simp] theorem gcF_ex0 {c : Str} {fs : List (Str × D)} (h : clos M.length (fs.map (·.2)) = true) : gcF M (some (.ex c fs, M)) = some (.ex c fs, M) := by
  have := gcF_ex (L := []) (c := c) h
  simpa using this
theorem mDef_e {np n : Nat} {body : SF} (h : ds.length = np) : mDef np n body ds M = gcF M (fin (body (start0 n ds) M)) := if_pos h
@[simp] theorem szOk_3 : szOk 3 = true := by decide
@[simp] theorem szOk_2 : szOk 2 = true := by decide
@[simp] theorem szOk_1 : szOk 1 = true := by decide
@[simp] theorem szOk_0 : szOk 0 = true := by decide
/-- a loop known by its end -/
theorem sWhile_of {n : Nat} {r : Fl × Store} (h : wLoop t p n en M = some r) : sWhile t p en M = some r := sWhile_eq h
theorem wLoop_stop {n : Nat} (h : t en M = some (.ok false, M1)) : wLoop t p (n + 1) en M = some (.nx en, M1) := by unfold wLoop; rw [h]; rfl
theorem wLoop_more {n : Nat} (h : t en M = some (.ok true, M1)) (h2 : p en M1 = some (.nx en1, M2)) : wLoop t p (n + 1) en M = wLoop t p n en1 M2 := by
  show sbnd (t en M) en _ = _
  rw [h, sbnd_ok, if_pos rfl, h2]
theorem sWhile_stop (h : t en M = some (.ok false, M1)) : sWhile t p en M = some (.nx en, M1) := sWhile_eq (n := 1) (wLoop_stop h)
theorem sWhile_more {r : Fl × Store} (h : t en M = some (.ok true, M1)) (h2 : p en M1 = some (.nx en1, M2)) (h3 : sWhile t p en1 M2 = some r) : sWhile t p en M = some r := by
  unfold sWhile at h3
  split at h3
  · rename_i hx
    refine sWhile_eq (n := Classical.choose hx + 1) ?_
    rw [wLoop_more h h2]
    exact h3
  · cases h3
end
end DL
/-! The data layer, part 21: a comprehension, a loop over a list of the store that stays as it is meanwhile. -/
namespace DL
open PySem PySem.Spec PyProof.Rows L2
section
variable {X : Cx} {W : WX} {K : PySem.W.Frag} {mg : Str → Option Value} {I I' : Ow} {H H' : Hp} {M M' : Store} {σ : L2.St} {en : Env} {Z : Ends}
variable {a b c e tg iter elt : Expr} {es ifs : List Expr} {body : List Stmt} {pos : Pos} {fa fb fc : EF} {g : GF} {t : TF} {f : EF} {p : SF} {Sl : List Nat}
def IterP (K : PySem.W.Frag) (n : Nat) (I0 : Ow) (H0 : Hp) (ds : List D) (J : It) : Prop :=
  ∀ I H M, Ext I0 H0 I H → Sto K I H M → M[n]? = some ds → ∀ i, (∀ d, ds[i]? = some d → J.go i H ∧ ∀ x H', J.yld i H x H' → (H' = H ∨ ∃ p o, H p = none ∧ H' = upd H p o) ∧ Rep K I H' d x) ∧ (ds.length ≤ i → J.stop i H)
/-- M1: the store where the walk begins -/
def TIP_ (K : PySem.W.Frag) (mg : Str → Option Value) (W : WX) (f : Env → Store → Res Nat) : TI := fun σ H Q =>
  ∃ I M en, Sto K I H M ∧ RepE K I H en σ ∧ Kp K mg W (fun I H n J => ∀ ds, ∀ (_ : True), IterP K n I H ds J) (f en M) I H σ Q
structure EvIP (X : Cx) (W : WX) (tg iter : Expr) (f : Env → Store → Res Nat) : Prop where
  pi : PI X tg iter (TIP_ X.K X.mg W f)
def iCel (fa : EF) : Env → Store → Res Nat := fun en M => bnd (fa en M) fun x M1 => match x with | .cel n => if n < M1.length then some (.ok n, M1) else none | _ => none
theorem ei_cel (ha : EvE X W a fa) : EvIP X W tg a (iCel fa) := by
  refine ⟨pi_imp (pi_seqR ha.pe) fun σ H R h => ?_⟩
  obtain ⟨I, M, en, S, r, k⟩ := h
  refine ⟨I, M, en, S, r, k.bind fun x M1 I1 H1 u e1 S1 r1 k1 => ?_⟩
  cases x <;> (try exact k1.elim)
  rename_i n
  dsimp only at k1
  split at k1
  case isFalse => exact k1.elim
  rename_i hn
  simp only [Rep] at r1
  obtain ⟨p, rfl, hp⟩ := r1
  obtain ⟨vs, h3, _⟩ := S1.at_ n p _ hp (List.getElem?_eq_getElem hn)
  refine ⟨p, rfl, .inl ⟨⟨vs, .inl (.inl h3)⟩, Kp.ok (M := M1) k1 S1 ?_⟩⟩
  intro ds _ I2 H2 M2 e2 S2 hfx i
  obtain ⟨us, h4, h5⟩ := S2.at_ n p ds (e2.get hp) hfx
  refine ⟨fun d hd => ?_, fun hl => ⟨us, .inl (.inl h4), by rw [← h5.length]; exact hl⟩⟩
  obtain ⟨v, hv, rv⟩ := h5.get' hd
  refine ⟨⟨us, v, .inl (.inl h4), hv⟩, fun x H' hy => ?_⟩
  obtain ⟨rfl, hx⟩ := hy
  have z := hx us (.inl (.inl h4))
  rw [hv] at z
  cases z
  exact ⟨.inl rfl, rv⟩
open Classical in
noncomputable def compFP (n : Nat) (ds0 : List D) (g : GF) (t : TF) (f : EF) (en : Env) : List D → Store → Option (List D × Store)
  | [], M => if M[n]? = some ds0 then some ([], M) else none
  | d :: ds, M => if M[n]? = some ds0 then (match g d en M with
    | none => none
    | some (en1, M1) => match t en1 M1 with
      | some (.ok true, M2) => match f en1 M2 with
        | some (.ok y, M3) => match compFP n ds0 g t f en ds M3 with
          | some (ys, M4) => some (y :: ys, M4)
          | none => none
        | _ => none
      | some (.ok false, M2) => compFP n ds0 g t f en ds M2
      | _ => none) else none
theorem compFP_fix {n : Nat} {ds0 ds : List D} {z : List D × Store} (h : compFP n ds0 g t f en ds M = some z) : M[n]? = some ds0 := by
  cases ds <;> (unfold compFP at h; split at h; assumption; cases h)
noncomputable def cLcP (mk : List D → Store → D × Store) (fi : Env → Store → Res Nat) (g : GF) (t : TF) (f : EF) (vs : List Nat) : EF := fun en M => bnd (fi en M) fun n M1 => match M1[n]? with
  | some ds => if szOk ds.length = true then (match compFP n ds g t f (wipeE en vs) ds M1 with | some (ys, M2) => some (.ok (mk ys M2).1, (mk ys M2).2) | none => none) else none
  | none => none
theorem lc_readP {fi : Env → Store → Res Nat} {mk : List D → Store → D × Store} (hmk : MkOk K mk) {vs : List Nat} (hS : ∀ k ∈ Sl, k ∈ vs) {Q : VK} (h : TD K mg W (Rep K) (cLcP mk fi g t f vs) σ H Q) :
    tLc (TIP_ K mg W fi) (TG_ K Sl g) (TD K mg W0 RB t) (TD K mg W0 (Rep K) f) vs σ H Q := by
  obtain ⟨I, M, en, S, r, k⟩ := h
  refine ⟨I, M, en, S, r, k.bind fun nc M1 I1 H1 J e1 S1 rJ k1 => ?_⟩
  intro Dl hD
  cases hds : M1[nc]? with
  | none => rw [hds] at k1; exact k1.elim
  | some ds =>
  rw [hds] at k1
  dsimp only at k1
  split at k1
  case isFalse => exact k1.elim
  rename_i qsz
  have r1 := r.mono e1
  cases hz : compFP nc ds g t f (wipeE en vs) ds M1 with
  | none => rw [hz] at k1; exact k1.elim
  | some z =>
  obtain ⟨out, Mz⟩ := z
  rw [hz] at k1
  have k1 : Kp K mg W (Rep K) (some (.ok (mk out Mz).1, (mk out Mz).2)) I1 H1 σ Q := k1
  have hDf : Dl ∉ I1.p := (S1.fresh hD).2
  refine ⟨fun i m H => i ≤ ds.length ∧ m = ds.length - i ∧ ∃ (I2 : Ow) (M2 : Store) (acc : List D) (av : List V), Ext I1 H1 I2 H ∧ Dl ∈ I2.p ∧ Sto K I2 H M2 ∧ H Dl = some (.lst av) ∧ Reps K I2 H acc av ∧ acc.length ≤ i ∧
      RepE K I2 H (wipeE en vs) (wipe σ vs) ∧ ∃ ys, compFP nc ds g t f (wipeE en vs) (ds.drop i) M2 = some (ys, Mz) ∧ acc ++ ys = out, ⟨ds.length, ?_⟩, ?_⟩
  · exact ⟨Nat.zero_le _, rfl, I1.hide Dl, M1, [], [], Ext.hide hD, List.mem_cons_self, S1.hide hD, upd_same, by simp only [Reps], Nat.le_refl _, (r1.wipe vs).mono (Ext.hide hD), out, hz, rfl⟩
  · rintro i m H2 ⟨hi2, rfl, I2, M2, acc, av, e2, hpm, S2, hDl, ra, hal, r2, ys, hc2, hout⟩
    have hfx : M2[nc]? = some ds := compFP_fix hc2
    obtain ⟨g1, g2⟩ := rJ ds trivial I2 H2 M2 e2 S2 hfx i
    by_cases hlt : i < ds.length
    · obtain ⟨go, yl⟩ := g1 ds[i] (List.getElem?_eq_getElem hlt)
      refine .inr ⟨go, fun H' => ∃ m', m' < ds.length - i ∧ (i + 1 ≤ ds.length ∧ m' = ds.length - (i + 1) ∧ ∃ (I2 : Ow) (M2 : Store) (acc : List D) (av : List V), Ext I1 H1 I2 H' ∧ Dl ∈ I2.p ∧ Sto K I2 H' M2 ∧ H' Dl = some (.lst av) ∧ Reps K I2 H' acc av ∧ acc.length ≤ i + 1 ∧
        RepE K I2 H' (wipeE en vs) (wipe σ vs) ∧ ∃ ys, compFP nc ds g t f (wipeE en vs) (ds.drop (i + 1)) M2 = some (ys, Mz) ∧ acc ++ ys = out), fun _ z => z, fun x H3 hy => ?_⟩
      obtain ⟨ht3, rx⟩ := yl x H3 hy
      rw [List.drop_eq_getElem_cons hlt] at hc2
      have e3 : Ext I2 H2 I2 H3 := Ext.turn ht3
      have S3 : Sto K I2 H3 M2 := S2.turn ht3
      refine ⟨I2, M2, wipeE en vs, ds[i], S3, r2.mono e3, rx, ?_⟩
      unfold compFP at hc2
      rw [if_pos hfx] at hc2
      revert hc2
      cases q1 : g ds[i] (wipeE en vs) M2 with
      | none => exact fun z => nomatch z
      | some z1 =>
      obtain ⟨en1, M3⟩ := z1
      dsimp only
      intro hc2 I4 H4 σ4 e4 S4 r4 l4 o4
      have hw : wipe σ4 vs = wipe σ vs := wipe_same l4 fun k hk => o4 k fun z => hk (hS k z)
      refine ⟨hw, I4, M3, en1, S4, r4, ?_⟩
      have e24 := e3.trans e4
      -- what holds at the next turn, from a later state
      have next : ∀ {I5 : Ow} {H5 : Hp} {M5 : Store} {ys5 : List D}, Ext I4 H4 I5 H5 → Sto K I5 H5 M5 → compFP nc ds g t f (wipeE en vs) (ds.drop (i + 1)) M5 = some (ys5, Mz) → acc ++ ys5 = out →
          ∃ m', m' < ds.length - i ∧ (i + 1 ≤ ds.length ∧ m' = ds.length - (i + 1) ∧ ∃ (I2 : Ow) (M2 : Store) (acc : List D) (av : List V), Ext I1 H1 I2 H5 ∧ Dl ∈ I2.p ∧ Sto K I2 H5 M2 ∧ H5 Dl = some (.lst av) ∧ Reps K I2 H5 acc av ∧ acc.length ≤ i + 1 ∧
            RepE K I2 H5 (wipeE en vs) (wipe σ vs) ∧ ∃ ys, compFP nc ds g t f (wipeE en vs) (ds.drop (i + 1)) M2 = some (ys, Mz) ∧ acc ++ ys = out) := by
        intro I5 H5 M5 ys5 e5 S5 hc5 ho5
        have e25 := e24.trans e5
        exact ⟨_, by omega, hlt, rfl, I5, M5, acc, av, e2.trans e25, e25.mem hpm, S5, e25.keep _ _ hDl (S2.dis Dl hpm).1, e25.reps ra, Nat.le_succ_of_le hal, r2.mono e25, ys5, hc5, ho5⟩
      revert hc2
      cases q2 : t en1 M3 with
      | none => exact fun z => nomatch z
      | some z2 =>
      obtain ⟨o2, M4⟩ := z2
      cases o2 with
      | ex _ _ => exact fun z => nomatch z
      | ok b =>
      cases b with
      | false =>
        dsimp only
        intro hc2 I5 H5 b5 e5 S5 rb
        cases rb
        exact (if_neg Bool.false_ne_true).mpr (next e5 S5 hc2 hout)
      | true =>
        dsimp only
        intro hc2 I5 H5 b5 e5 S5 rb
        cases rb
        refine (if_pos rfl).mpr ⟨I5, M4, en1, S5, r4.mono e5, ?_⟩
        revert hc2
        cases q3 : f en1 M4 with
        | none => exact fun z => nomatch z
        | some z3 =>
        obtain ⟨o3, M5⟩ := z3
        cases o3 with
        | ex _ _ => exact fun z => nomatch z
        | ok y =>
        dsimp only
        cases q4 : compFP nc ds g t f (wipeE en vs) (ds.drop (i + 1)) M5 with
        | none => exact fun z => nomatch z
        | some z4 =>
        obtain ⟨ys5, M6⟩ := z4
        intro hc2 I6 H6 v e6 S6 rv
        cases hc2
        have e26 := (e24.trans e5).trans e6
        have hpm6 := e26.mem hpm
        have hD6 := e26.keep _ _ hDl (S2.dis Dl hpm).1
        refine ⟨av, hD6, ?_, ?_⟩
        · have h1 : av.length = acc.length := (e26.reps ra).length.symm
          have h2 : ds.length ≤ sizeLine := szOk_ok qsz
          omega
        · refine ⟨_, by omega, hlt, rfl, I6, M5, acc ++ [y], av ++ [v], (e2.trans e26).grow hD, hpm6, S6.grow hpm6, upd_same, ((e26.reps ra).append (.one rv)).grow hpm6, by rw [List.length_append]; simp; omega, (r2.mono e26).grow hpm6, ys5, q4, by rw [← hout]; simp⟩
    · have hi3 : i = ds.length := by omega
      subst hi3
      refine .inl ⟨g2 (Nat.le_refl _), ?_⟩
      rw [List.drop_length] at hc2
      unfold compFP at hc2
      rw [if_pos hfx] at hc2
      cases hc2
      rw [List.append_nil] at hout
      subst hout
      obtain ⟨I', q1, q2, q3⟩ := hmk I1 H1 I2 H2 _ Dl _ av hDf hD e2 hpm S2 hDl ra
      exact k1.ok' q1 q2 q3
theorem ev_lcP {fi : Env → Store → Res Nat} {mk : List D → Store → D × Store} (hmk : MkOk X.K mk) {scope : Scope} {own : List (Str × Nat)} (hc : X.calm = true) (hN : X.N.Nodup) (hi : EvIP X W tg iter fi) (ok : BlkOk X.N X.env.scope scope own) (hS : ∀ k ∈ Sl, k ∈ own.map (·.2))
    (hg : ∀ (s : Shared) (H : Hp) (C : Addr) (cl : List (Str × Addr)) (fp : List Addr), EvG (X.blk s H scope (compEnvC scope cl C X.env) fp) tg Sl g)
    (ht : ∀ (s : Shared) (H : Hp) (C : Addr) (cl : List (Str × Addr)) (fp : List Addr), EvTs (X.blk s H scope (compEnvC scope cl C X.env) fp) W0 ifs t)
    (he : ∀ (s : Shared) (H : Hp) (C : Addr) (cl : List (Str × Addr)) (fp : List Addr), EvE (X.blk s H scope (compEnvC scope cl C X.env) fp) W0 elt f) (hs : ∀ x, foldedSetIterable iter X.env x = pure x := by intro _; rfl) :
    EvE X W (.ListComp elt [⟨tg, iter, ifs, 0⟩] scope pos) (cLcP mk fi g t f (own.map (·.2))) :=
  ⟨pe_imp (pe_lc (g := TG_ X.K Sl g) (tt := TD X.K X.mg W0 RB t) (te := TD X.K X.mg W0 (Rep X.K) f) hc hN hi.pi ok (fun s H C cl fp => (hg s H C cl fp).pg) (fun s H C cl fp => (ht s H C cl fp).pts) (fun s H C cl fp => (he s H C cl fp).pe) hs) fun _ _ _ h => lc_readP hmk hS h⟩
theorem es_setLcP {fi : Env → Store → Res Nat} {mk : List D → Store → D × Store} (hmk : MkOk X.K mk) {i : Nat} {y : Str} {py spos : Pos} {scope : Scope} {own : List (Str × Nat)} (hc : X.calm = true) (hN : X.N.Nodup) (hy : X.N[i]? = some y) (hyl : X.env.scope.names.lookup y = some .local)
    (hsw : swapsWith (.ListComp elt [⟨tg, iter, ifs, 0⟩] scope pos) (some (.Name y py)) spos.line X.env = pure true) (hi : EvIP X W tg iter fi) (ok : BlkOk X.N X.env.scope scope own) (hS : ∀ k ∈ Sl, k ∈ own.map (·.2))
    (hg : ∀ (s : Shared) (H : Hp) (C : Addr) (cl : List (Str × Addr)) (fp : List Addr), EvG (X.blk s H scope (compEnvC scope cl C X.env) fp) tg Sl g)
    (ht : ∀ (s : Shared) (H : Hp) (C : Addr) (cl : List (Str × Addr)) (fp : List Addr), EvTs (X.blk s H scope (compEnvC scope cl C X.env) fp) W0 ifs t)
    (he : ∀ (s : Shared) (H : Hp) (C : Addr) (cl : List (Str × Addr)) (fp : List Addr), EvE (X.blk s H scope (compEnvC scope cl C X.env) fp) W0 elt f) (hs : ∀ x, foldedSetIterable iter X.env x = pure x := by intro _; rfl) :
    EvS X W (.Assign [.Name y py] (.ListComp elt [⟨tg, iter, ifs, 0⟩] scope pos) spos) (sAsg (cLcP mk fi g t f (own.map (·.2))) (gN i)) :=
  ⟨ps_imp (ps_setLc (g := TG_ X.K Sl g) (tt := TD X.K X.mg W0 RB t) (te := TD X.K X.mg W0 (Rep X.K) f) hc hN hy hyl hsw hi.pi ok (fun s H C cl fp => (hg s H C cl fp).pg) (fun s H C cl fp => (ht s H C cl fp).pts) (fun s H C cl fp => (he s H C cl fp).pe) hs)
    fun _ _ _ h => gN_read (fun _ z => lc_readP hmk hS z) h⟩
end
end DL
/-! The data layer, part 22: how the mirrors are worked out, more. -/
namespace DL
open PySem PySem.Spec PyProof.Rows L2
section
variable {en en1 : Env} {M M1 M2 : Store} {d d1 d2 d3 d4 : D} {ds es : List D} {fa fb fc fd : EF} {fr : AF} {p q : SF} {t u : TF} {i j : Nat} {a b : Int} {g : GF} {f : EF} {n : Nat} {body : SF}
@[simp] theorem mDef_1 : mDef 1 n body [d1] M = gcF M (fin (body (start0 n [d1]) M)) := if_pos rfl
@[simp] theorem mDef_2 : mDef 2 n body [d1, d2] M = gcF M (fin (body (start0 n [d1, d2]) M)) := if_pos rfl
@[simp] theorem mDef_3 : mDef 3 n body [d1, d2, d3] M = gcF M (fin (body (start0 n [d1, d2, d3]) M)) := if_pos rfl
@[simp] theorem mDef_4 : mDef 4 n body [d1, d2, d3, d4] M = gcF M (fin (body (start0 n [d1, d2, d3, d4]) M)) := if_pos rfl
@[simp] theorem start0_e : start0 n ds = ds.map some ++ List.replicate (n - ds.length) none := rfl
@[simp] theorem rep_zero {α : Type} {x : α} : List.replicate 0 x = [] := rfl
@[simp] theorem wipe_nil : wipeE en [] = en := rfl
@[simp] theorem wipe_cons {l : List Nat} : wipeE en (i :: l) = (wipeE en l).set i none := rfl
@[simp] theorem tYes_e : tYesC en M = some (.ok true, M) := rfl
@[simp] theorem compF_nil : compF g t f en [] M = some ([], M) := rfl
@[simp] theorem compF_cons : compF g t f en (d :: ds) M = match g d en M with
    | none => none
    | some (en1, M1) => match t en1 M1 with
      | some (.ok true, M2) => match f en1 M2 with
        | some (.ok y, M3) => match compF g t f en ds M3 with
          | some (ys, M4) => some (y :: ys, M4)
          | none => none
        | _ => none
      | some (.ok false, M2) => compF g t f en ds M2
      | _ => none := rfl
@[simp] theorem cLcG_e {mk : List D → Store → D × Store} {fi : AF} {vs : List Nat} : cLcG mk fi g t f vs en M = bnd (fi en M) fun ds M1 =>
    if szOk ds.length = true then (match compF g t f (wipeE en vs) ds M1 with | some (ys, M2) => some (.ok (mk ys M2).1, (mk ys M2).2) | none => none) else none := rfl
@[simp] theorem mkI_e : mkI ds M = (.imm ds, M) := rfl
@[simp] theorem mkC_e : mkC ds M = (.cel M.length, M ++ [ds]) := rfl
/-- a comprehension that leaves the store as it is -/
theorem compF_of {α : Type} (enc : α → D) (p : α → Bool) (F : α → D) : ∀ (l : List α), (∀ x ∈ l, ∃ en1, g (enc x) en M = some (en1, M) ∧ t en1 M = some (.ok (p x), M) ∧ (p x = true → f en1 M = some (.ok (F x), M))) →
    compF g t f en (l.map enc) M = some ((l.filter p).map F, M)
  | [], _ => rfl
  | x :: l, h => by
    obtain ⟨en1, h1, h2, h3⟩ := h x List.mem_cons_self
    have ih := compF_of enc p F l fun y hy => h y (List.mem_cons_of_mem _ hy)
    rw [List.map_cons, compF_cons, h1]
    dsimp only
    rw [h2]
    cases hp : p x with
    | true =>
      dsimp only
      rw [h3 hp]
      dsimp only
      rw [ih, List.filter_cons_of_pos hp, List.map_cons]
    | false =>
      dsimp only
      rw [ih, List.filter_cons_of_neg (by simp [hp])]
theorem lc_of {α : Type} (enc : α → D) (p : α → Bool) (F : α → D) (l : List α) {mk : List D → Store → D × Store} {fi : AF} {vs : List Nat} (hi : fi en M = some (.ok (l.map enc), M)) (hs : l.length ≤ 16777216)
    (h : ∀ x ∈ l, ∃ en1, g (enc x) (wipeE en vs) M = some (en1, M) ∧ t en1 M = some (.ok (p x), M) ∧ (p x = true → f en1 M = some (.ok (F x), M))) :
    cLcG mk fi g t f vs en M = some (.ok (mk ((l.filter p).map F) M).1, (mk ((l.filter p).map F) M).2) := by
  rw [cLcG_e, hi, bnd_ok, if_pos (by unfold szOk; rw [List.length_map]; exact decide_eq_true hs), compF_of enc p F l h]
/-- .. without a condition -/
theorem lc_map {α : Type} (enc F : α → D) (l : List α) {mk : List D → Store → D × Store} {fi : AF} {vs : List Nat} (hi : fi en M = some (.ok (l.map enc), M)) (hs : l.length ≤ 16777216)
    (h : ∀ x ∈ l, ∃ en1, g (enc x) (wipeE en vs) M = some (en1, M) ∧ f en1 M = some (.ok (F x), M)) :
    cLcG mk fi g tYesC f vs en M = some (.ok (mk (l.map F) M).1, (mk (l.map F) M).2) := by
  have := lc_of (t := tYesC) (mk := mk) (vs := vs) enc (fun _ => true) F l hi hs fun x hx => by
    obtain ⟨en1, h1, h2⟩ := h x hx
    exact ⟨en1, h1, rfl, fun _ => h2⟩
  rwa [List.filter_eq_self.mpr (fun _ _ => rfl)] at this
/-- a loop whose body keeps an invariant -/
theorem fLoop_inv {α : Type} (enc : α → D) {g : GF} (P : List α → Env → Store → Prop) (hs : ∀ x l en M, P (x :: l) en M → ∃ en1 M1 en2 M2, g (enc x) en M = some (en1, M1) ∧ (p en1 M1 = some (.nx en2, M2) ∨ p en1 M1 = some (.ct en2, M2)) ∧ P l en2 M2) :
    ∀ (l : List α) (en : Env) (M : Store), P l en M → ∃ en2 M2, fLoop g p (l.map enc) en M = some (.nx en2, M2) ∧ P [] en2 M2
  | [], en, M, h => ⟨en, M, rfl, h⟩
  | x :: l, en, M, h => by
    obtain ⟨en1, M1, en2, M2, h1, h2, h3⟩ := hs x l en M h
    obtain ⟨en3, M3, h4, h5⟩ := fLoop_inv enc P hs l en2 M2 h3
    refine ⟨en3, M3, ?_, h5⟩
    rw [List.map_cons, fLoop_cons, h1]
    dsimp only
    rcases h2 with h2 | h2 <;> (rw [h2]; exact h4)
/-- conditions of the arithmetic -/
theorem mulC_r (h : -(2 ^ 64) < b) (h' : b < 2 ^ 64) : mulC a b = true := by
  unfold mulC
  rw [Bool.or_eq_true, Bool.or_eq_true]
  exact .inl (.inr (decide_eq_true ⟨h, h'⟩))
theorem mulC_l (h : -(2 ^ 64) < a) (h' : a < 2 ^ 64) : mulC a b = true := by
  unfold mulC
  rw [Bool.or_eq_true, Bool.or_eq_true]
  exact .inl (.inl (decide_eq_true ⟨h, h'⟩))
theorem divC_of (h : 0 < b) (h' : b < 2 ^ 200) : divC a b = true := by
  unfold divC
  rw [Bool.and_eq_true, decide_eq_true_eq, decide_eq_true_eq]
  refine ⟨h, ?_⟩
  have h2 : b.natAbs < 2 ^ 200 := by
    have : ((2 : Int) ^ 200) = ((2 ^ 200 : Nat) : Int) := by norm_cast
    omega
  have h3 : b.natAbs ≠ 0 := by omega
  have := (Nat.log2_lt h3).mpr h2
  omega
theorem modC_of (h : 0 < b) : modC a b = true := decide_eq_true h
@[simp] theorem iRng1_e {fr : AF} : iRng1C fr en M = bnd (fr en M) fun xs M1 => match xs with | [.int j] => if smI j = true then some (.ok (rgD 0 j.toNat), M1) else none | _ => none := rfl
@[simp] theorem iRng2_e {fr : AF} : iRng2C fr en M = bnd (fr en M) fun xs M1 => match xs with | [.int i, .int j] => if (smI i && smI j) = true then some (.ok (rgD i (j - i).toNat), M1) else none | _ => none := rfl
theorem smI_of (h : -(2 ^ 62) ≤ a) (h' : a < 2 ^ 62) : smI a = true := by
  unfold smI
  rw [Bool.and_eq_true]
  exact ⟨decide_eq_true h, decide_eq_true h'⟩
/-- lo, lo + 1, .. n of them -/
def rgI (lo : Int) (n : Nat) : List Int := (List.range n).map fun i => lo + (i : Nat)
theorem rgD_eq {lo : Int} : rgD lo n = (rgI lo n).map D.int := by unfold rgD rgI; rw [List.map_map]; rfl
theorem mem_rgI {lo x : Int} : x ∈ rgI lo n ↔ lo ≤ x ∧ x < lo + n := by
  unfold rgI
  rw [List.mem_map]
  constructor
  · rintro ⟨i, hi, rfl⟩
    have := List.mem_range.mp hi
    omega
  · rintro ⟨h1, h2⟩
    exact ⟨(x - lo).toNat, List.mem_range.mpr (by omega), by omega⟩
/-! rows and tables of ints -/
def eRow (r : List Int) : D := .tup (r.map D.int)
def eTab (t : List (List Int)) : D := .tup (t.map eRow)
@[simp] theorem clo_row {n : Nat} {r : List Int} : clo n (eRow r) = true := by unfold eRow; rw [clo_tup]; exact clos_map fun _ => rfl
@[simp] theorem clo_tab {n : Nat} {t : List (List Int)} : clo n (eTab t) = true := by unfold eTab; rw [clo_tup]; exact clos_map fun _ => clo_row
@[simp] theorem notCel_row {r : List Int} : notCel (eRow r) = true := (rfl)
@[simp] theorem notCel_tab {t : List (List Int)} : notCel (eTab t) = true := (rfl)
@[simp] theorem seqI_row {r : List Int} : seqI (eRow r) = some (r.map D.int) := rfl
@[simp] theorem seqI_tab {t : List (List Int)} : seqI (eTab t) = some (t.map eRow) := rfl
@[simp] theorem items_row {r : List Int} : itemsOf M (eRow r) = some (r.map D.int) := rfl
@[simp] theorem items_tab {t : List (List Int)} : itemsOf M (eTab t) = some (t.map eRow) := rfl
@[simp] theorem gLen_row {r : List Int} : gLen [eRow r] M = some (.ok (.int r.length), M) := by show some (Out.ok (D.int (r.map D.int).length), M) = _; rw [List.length_map]
@[simp] theorem gLen_tab {t : List (List Int)} : gLen [eTab t] M = some (.ok (.int t.length), M) := by show some (Out.ok (D.int (t.map eRow).length), M) = _; rw [List.length_map]
@[simp] theorem gIx_row {r : List Int} : gIx (eRow r) (.int a) M = match atI (r.map D.int) a with | some d => some (.ok d, M) | none => none := rfl
@[simp] theorem gIx_tab {t : List (List Int)} : gIx (eTab t) (.int a) M = match atI (t.map eRow) a with | some d => some (.ok d, M) | none => none := rfl
@[simp] theorem gIx_t' : gIx (.tup ds) (.int a) M = match atI ds a with | some d => some (.ok d, M) | none => none := rfl
@[simp] theorem gIx_l' : gIx (.imm ds) (.int a) M = match atI ds a with | some d => some (.ok d, M) | none => none := rfl
@[simp] theorem gIx_s' : gIx (.scr ds) (.int a) M = match atI ds a with | some d => some (.ok d, M) | none => none := rfl
@[simp] theorem atI_0 : atI (d :: ds) 0 = some d := by
  unfold atI ixN
  simp
@[simp] theorem atI_1 : atI (d1 :: d2 :: ds) 1 = some d2 := by
  have := atI_nat (ds := d1 :: d2 :: ds) (i := 1) (by simp)
  simpa using this
@[simp] theorem atI_2 : atI (d1 :: d2 :: d3 :: ds) 2 = some d3 := by
  have := atI_nat (ds := d1 :: d2 :: d3 :: ds) (i := 2) (by simp)
  simpa using this
theorem row_of {r : List Int} : D.tup (r.map D.int) = eRow r := rfl
theorem tab_of {t : List (List Int)} : D.tup (t.map eRow) = eTab t := rfl
theorem row3 {a b c : Int} : D.tup [.int a, .int b, .int c] = eRow [a, b, c] := rfl
theorem row2 {a b : Int} : D.tup [.int a, .int b] = eRow [a, b] := rfl
theorem tab2 {r s : List Int} : D.tup [eRow r, eRow s] = eTab [r, s] := rfl
theorem sq_nonneg (a : Int) : 0 ≤ a * a := by
  rcases Int.le_total 0 a with h | h
  · exact Int.mul_nonneg h h
  · have := Int.mul_nonneg (show 0 ≤ -a by omega) (show 0 ≤ -a by omega)
    rw [Int.neg_mul_neg] at this
    exact this
/-! equality, repr of ints, rows, tables -/
theorem shaped_i {i : Int} : SeqAt.shaped (.int i) = true := by
  show (PyData.canLay0 (.int i) && decide (PyData.depth (.int i) ≤ 64)) = true
  simp [PyData.canLay0, PyData.depth]
theorem shaped_s {x : Str} : SeqAt.shaped (.str x) = PyData.canLay0 (.str x) := by
  show (PyData.canLay0 (.str x) && decide (PyData.depth (.str x) ≤ 64)) = _
  simp [PyData.depth]
theorem depthAll_le {α : Type} {f : α → PyData} {k : Nat} : ∀ {l : List α}, (∀ x ∈ l, (f x).depth ≤ k) → PyData.depthAll (l.map f) ≤ k
  | [], _ => by simp [PyData.depthAll]
  | x :: l, h => by
    simp only [List.map_cons, PyData.depthAll]
    exact Nat.max_le.mpr ⟨h x List.mem_cons_self, depthAll_le fun y hy => h y (List.mem_cons_of_mem _ hy)⟩
theorem canLayAll_of {α : Type} {f : α → PyData} : ∀ {l : List α}, (∀ x ∈ l, (f x).canLay0 = true) → PyData.canLayAll0 (l.map f) = true
  | [], _ => by simp [PyData.canLayAll0]
  | x :: l, h => by
    simp only [List.map_cons, PyData.canLayAll0, Bool.and_eq_true]
    exact ⟨h x List.mem_cons_self, canLayAll_of fun y hy => h y (List.mem_cons_of_mem _ hy)⟩
theorem plains_of {α : Type} {f : α → PyData} : ∀ {l : List α}, (∀ x ∈ l, plainPy (f x) = true) → plainPys (l.map f) = true
  | [], _ => rfl
  | x :: l, h => by
    simp only [List.map_cons, plainPys, Bool.and_eq_true]
    exact ⟨h x List.mem_cons_self, plains_of fun y hy => h y (List.mem_cons_of_mem _ hy)⟩
theorem bulkAll_le {α : Type} {f : α → PyData} {k : Nat} : ∀ {l : List α}, (∀ x ∈ l, (f x).bulk ≤ k) → PyData.bulkAll (l.map f) ≤ l.length * (k + 1)
  | [], _ => by simp [PyData.bulkAll]
  | x :: l, h => by
    have h1 := h x List.mem_cons_self
    have h2 := bulkAll_le (l := l) fun y hy => h y (List.mem_cons_of_mem _ hy)
    simp only [List.map_cons, PyData.bulkAll, List.length_cons, Nat.succ_mul]
    omega
theorem eqvAll_of {α : Type} [BEq α] {f : α → PyData} (h : ∀ x y, PyData.eqv (f x) (f y) = (x == y)) : ∀ {l m : List α}, PyData.eqvAll (l.map f) (m.map f) = (l == m)
  | [], [] => by simp [PyData.eqvAll]
  | [], _ :: _ => by simp [PyData.eqvAll]
  | _ :: _, [] => by simp [PyData.eqvAll]
  | x :: l, y :: m => by
    simp only [List.map_cons, PyData.eqvAll, h, eqvAll_of h (l := l) (m := m)]
    rfl
theorem toPys_map {α : Type} {f : α → D} {g : α → PyData} (h : ∀ x, toPy (f x) = some (g x)) : ∀ {l : List α}, toPys (l.map f) = some (l.map g)
  | [] => rfl
  | x :: l => by simp only [List.map_cons, toPys, h, toPys_map h (l := l)]
def pRow (r : List Int) : PyData := .tuple (r.map PyData.int)
def pTab (t : List (List Int)) : PyData := .tuple (t.map pRow)
@[simp] theorem toPy_int : toPy (.int a) = some (.int a) := rfl
theorem toPy_row {r : List Int} : toPy (eRow r) = some (pRow r) := by
  unfold eRow pRow
  simp only [toPy]
  rw [toPys_map (g := PyData.int) fun _ => rfl]
  rfl
theorem toPy_tab {t : List (List Int)} : toPy (eTab t) = some (pTab t) := by
  unfold eTab pTab
  simp only [toPy]
  rw [toPys_map (g := pRow) fun _ => toPy_row]
  rfl
theorem toPyM_row {r : List Int} : toPyM M (eRow r) = some (pRow r) := toPy_row (r := r)
theorem toPyM_tab {t : List (List Int)} : toPyM M (eTab t) = some (pTab t) := toPy_tab (t := t)
theorem eqv_int {a b : Int} : PyData.eqv (.int a) (.int b) = (a == b) := by simp [PyData.eqv]
theorem eqv_row {r s : List Int} : PyData.eqv (pRow r) (pRow s) = (r == s) := by
  unfold pRow
  simp only [PyData.eqv]
  exact eqvAll_of fun x y => eqv_int
theorem eqv_tab {r s : List (List Int)} : PyData.eqv (pTab r) (pTab s) = (r == s) := by
  unfold pTab
  simp only [PyData.eqv]
  exact eqvAll_of fun x y => eqv_row
theorem depth_row {r : List Int} : (pRow r).depth ≤ 1 := by
  unfold pRow
  simp only [PyData.depth]
  have := depthAll_le (f := PyData.int) (k := 0) (l := r) fun x _ => by simp [PyData.depth]
  omega
theorem depth_tab {r : List (List Int)} : (pTab r).depth ≤ 2 := by
  unfold pTab
  simp only [PyData.depth]
  have := depthAll_le (f := pRow) (k := 1) (l := r) fun x _ => depth_row
  omega
theorem lay_row {r : List Int} : (pRow r).canLay0 = true := by
  unfold pRow
  simp only [PyData.canLay0]
  exact canLayAll_of fun x _ => by simp [PyData.canLay0]
theorem lay_tab {r : List (List Int)} : (pTab r).canLay0 = true := by
  unfold pTab
  simp only [PyData.canLay0]
  exact canLayAll_of fun x _ => lay_row
theorem shaped_row {r : List Int} : SeqAt.shaped (pRow r) = true := by
  show ((pRow r).canLay0 && decide ((pRow r).depth ≤ 64)) = true
  rw [lay_row, decide_eq_true (Nat.le_trans depth_row (by decide))]; rfl
theorem shaped_tab {r : List (List Int)} : SeqAt.shaped (pTab r) = true := by
  show ((pTab r).canLay0 && decide ((pTab r).depth ≤ 64)) = true
  rw [lay_tab, decide_eq_true (Nat.le_trans depth_tab (by decide))]; rfl
theorem gEq_of {neg : Bool} {x y : D} {u v : PyData} (h1 : toPyM M x = some u) (h2 : toPyM M y = some v) (h3 : SeqAt.shaped u = true) (h4 : SeqAt.shaped v = true) (hx : ∀ s, x ≠ .str s) : gEq neg x y M = some (.ok (.bl (if neg = true then !(PyData.eqv u v) else PyData.eqv u v)), M) := by
  have e : gEq neg x y M = match eqM M x y with | some b => some (.ok (.bl (if neg = true then !b else b)), M) | none => none := by
    cases x <;> first | rfl | exact absurd rfl (hx _)
  rw [e]
  unfold eqM
  rw [h1, h2]
  dsimp only
  rw [h3, h4]
  rfl
@[simp] theorem gEq_str {neg : Bool} {s t : Str} : gEq neg (.str s) (.str t) M = some (.ok (.bl (if neg = true then !(s == t) else s == t)), M) := rfl
@[simp] theorem gEq_int {neg : Bool} : gEq neg (.int a) (.int b) M = some (.ok (.bl (if neg = true then !(a == b) else a == b)), M) := by
  rw [gEq_of (u := .int a) (v := .int b) rfl rfl shaped_i shaped_i (fun _ z => by cases z), eqv_int]
@[simp] theorem gEq_row {neg : Bool} {r s : List Int} : gEq neg (eRow r) (eRow s) M = some (.ok (.bl (if neg = true then !(r == s) else r == s)), M) := by
  rw [gEq_of (u := pRow r) (v := pRow s) toPyM_row toPyM_row shaped_row shaped_row (fun _ z => by cases z), eqv_row]
@[simp] theorem gEq_tab {neg : Bool} {r s : List (List Int)} : gEq neg (eTab r) (eTab s) M = some (.ok (.bl (if neg = true then !(r == s) else r == s)), M) := by
  rw [gEq_of (u := pTab r) (v := pTab s) toPyM_tab toPyM_tab shaped_tab shaped_tab (fun _ z => by cases z), eqv_tab]
/-- ints of fewer than 1920 bits -/
def shI (i : Int) : Prop := i.natAbs.log2 < 1920
theorem shI_of {i : Int} (h : i.natAbs < 2 ^ 1000) : shI i := by
  unfold shI
  by_cases h0 : i.natAbs = 0
  · rw [h0]; decide
  · have := (Nat.log2_lt h0).mpr h
    omega
theorem plain_row {r : List Int} (h : ∀ x ∈ r, shI x) : plainPy (pRow r) = true := by
  unfold pRow
  simp only [plainPy]
  exact plains_of fun x hx => by simp only [plainPy]; exact decide_eq_true (h x hx)
theorem plain_tab {t : List (List Int)} (h : ∀ r ∈ t, ∀ x ∈ r, shI x) : plainPy (pTab t) = true := by
  unfold pTab
  simp only [plainPy]
  exact plains_of fun x hx => plain_row (h x hx)
theorem bulk_row {r : List Int} : (pRow r).bulk ≤ r.length := by
  unfold pRow
  simp only [PyData.bulk]
  have := bulkAll_le (f := PyData.int) (k := 0) (l := r) fun x _ => by simp [PyData.bulk]
  omega
theorem bulk_tab {t : List (List Int)} {k : Nat} (h : ∀ r ∈ t, r.length ≤ k) : (pTab t).bulk ≤ t.length * (k + 1) := by
  unfold pTab
  simp only [PyData.bulk]
  exact bulkAll_le fun x hx => Nat.le_trans bulk_row (h x hx)
end
end DL
/-! everygrid_k11_two_reduced: the mirrors, as the program gen.py printed them. -/
namespace K11
open PySem DL
def k_UNIT : D := (.tup [(.tup [(.int 1), (.int 0)]), (.tup [(.int 0), (.int 1)])])
/-- divisor: 0 one, 1 other -/
noncomputable def f_divisor : SF := (sSeq (sPar 0 1 (aCons (cCall gAbs (aCons (cVar 0) aNil)) (aCons (cCall gAbs (aCons (cVar 1) aNil)) aNil)))
  (sSeq (sWhile (cTru (cVar 1)) (sPar 0 1 (aCons (cVar 1) (aCons (cOp gMod (cVar 0) (cVar 1)) aNil))))
  (sRet (cVar 0))))
noncomputable def m_divisor : MF := mDef 2 2 f_divisor
/-- divisor_of: 0 numbers, 1 found, 2 number -/
noncomputable def f_divisor_of : SF := (sSeq (sAsg (cC (.int 0)) (gN 1))
  (sSeq (sFor (iSeq (cVar 0)) (gN 2) (sAsg (cCall m_divisor (aCons (cVar 1) (aCons (cVar 2) aNil))) (gN 1)))
  (sRet (cVar 1))))
noncomputable def m_divisor_of : MF := mDef 1 3 f_divisor_of
/-- fraction: 0 above, 1 below, 2 common -/
noncomputable def f_fraction : SF := (sSeq (sAsg (cCall m_divisor (aCons (cVar 0) (aCons (cVar 1) aNil))) (gN 2))
  (sSeq (sIf (cTru (cOp gLt (cVar 1) (cC (.int 0)))) (sAsg (cOp gSub (cC (.int 0)) (cVar 2)) (gN 2)) sSkip)
  (sRet (cTup (aCons (cOp gDiv (cVar 0) (cVar 2)) (aCons (cOp gDiv (cVar 1) (cVar 2)) aNil))))))
noncomputable def m_fraction : MF := mDef 2 3 f_fraction
/-- root: 0 number, 1 found -/
noncomputable def f_root : SF := (sSeq (sAsg (cOp gShl (cC (.int 1)) (cOp gDiv (cOp gAddA (cBits (cVar 0)) (cC (.int 1))) (cC (.int 2)))) (gN 1))
  (sSeq (sWhile (cTru (cOp gGt (cOp gMul (cVar 1) (cVar 1)) (cVar 0))) (sAsg (cOp gDiv (cOp gAddA (cVar 1) (cOp gDiv (cVar 0) (cVar 1))) (cC (.int 2))) (gN 1)))
  (sRet (cVar 1))))
noncomputable def m_root : MF := mDef 1 2 f_root
/-- is_whole: 0 number -/
noncomputable def f_is_whole : SF := (sRet (cAnd (cCall gIsi (aCons (cVar 0) (aCons (cC (.ty "int")) aNil))) (cNot (cCall gIsi (aCons (cVar 0) (aCons (cC (.ty "bool")) aNil))))))
noncomputable def m_is_whole : MF := mDef 1 1 f_is_whole
/-- is_row: 0 row, 1 number -/
noncomputable def f_is_row : SF := (sRet (cAnd (cCall gIsi (aCons (cVar 0) (aCons (cC (.ty "tuple")) aNil))) (cCall gAll (aCons (cLc (iSeq (cVar 0)) (gN 1) tYesC (cCall m_is_whole (aCons (cVar 1) aNil)) [1]) aNil))))
noncomputable def m_is_row : MF := mDef 1 2 f_is_row
/-- wide: 0 table -/
noncomputable def f_wide : SF := (sRet (cIf (cTru (cVar 0)) (cCall gLen (aCons (cOp gIx (cVar 0) (cC (.int 0))) aNil)) (cC (.int 0))))
noncomputable def m_wide : MF := mDef 1 1 f_wide
/-- turned: 0 table, 1 place, 2 row -/
noncomputable def f_turned : SF := (sRet (cCall gTuple (aCons (cLc (iRng1C (aCons (cCall m_wide (aCons (cVar 0) aNil)) aNil)) (gN 1) tYesC (cCall gTuple (aCons (cLc (iSeq (cVar 0)) (gN 2) tYesC (cOp gIx (cVar 2) (cVar 1)) [2]) aNil)) [1]) aNil)))
noncomputable def m_turned : MF := mDef 1 3 f_turned
/-- dot: 0 one, 1 other, 2 a, 3 b -/
noncomputable def f_dot : SF := (sRet (cCall gSum (aCons (cLc (iZipC (aCons (cVar 0) (aCons (cVar 1) aNil))) (gTupC 2 (gConsC (gN 2) (gConsC (gN 3) gNilC))) tYesC (cOp gMul (cVar 2) (cVar 3)) [2, 3]) aNil)))
noncomputable def m_dot : MF := mDef 2 4 f_dot
/-- product: 0 one, 1 other, 2 columns, 3 row, 4 column -/
noncomputable def f_product : SF := (sSeq (sAsg (cCall m_turned (aCons (cVar 1) aNil)) (gN 2))
  (sRet (cCall gTuple (aCons (cLc (iSeq (cVar 0)) (gN 3) tYesC (cCall gTuple (aCons (cLc (iSeq (cVar 2)) (gN 4) tYesC (cCall m_dot (aCons (cVar 3) (aCons (cVar 4) aNil))) [4]) aNil)) [3]) aNil))))
noncomputable def m_product : MF := mDef 2 5 f_product
/-- is_two: 0 shape -/
noncomputable def f_is_two : SF := (sRet (cAnd (cCall m_is_row (aCons (cVar 0) aNil)) (cOp (gEq false) (cCall gLen (aCons (cVar 0) aNil)) (cC (.int 3)))))
noncomputable def m_is_two : MF := mDef 1 1 f_is_two
/-- gap: 0 two -/
noncomputable def f_gap : SF := (sRet (cOp gSub (cOp gMul (cOp gIx (cVar 0) (cC (.int 1))) (cOp gIx (cVar 0) (cC (.int 1)))) (cOp gMul (cOp gMul (cC (.int 4)) (cOp gIx (cVar 0) (cC (.int 0)))) (cOp gIx (cVar 0) (cC (.int 2))))))
noncomputable def m_gap : MF := mDef 1 1 f_gap
/-- check_two: 0 two -/
noncomputable def f_check_two : SF := (sSeq (sIf (tNotC (cTru (cCall m_is_two (aCons (cVar 0) aNil)))) (sRaise "BadTable" (aCons (cC (.str "form")) aNil)) sSkip)
  (sSeq (sIf (tOrC (cTru (cOp gGe (cCall m_gap (aCons (cVar 0) aNil)) (cC (.int 0)))) (cTru (cOp gLt (cOp gIx (cVar 0) (cC (.int 0))) (cC (.int 1))))) (sRaise "BadTable" (aCons (cC (.str "above")) aNil)) sSkip)
  (sIf (cTru (cOp (gEq true) (cCall m_divisor_of (aCons (cVar 0) aNil)) (cC (.int 1)))) (sRaise "BadTable" (aCons (cC (.str "divisor")) aNil)) sSkip)))
noncomputable def m_check_two : MF := mDef 1 1 f_check_two
/-- table_of: 0 two -/
noncomputable def f_table_of : SF := (sRet (cTup (aCons (cTup (aCons (cOp gMul (cC (.int 2)) (cOp gIx (cVar 0) (cC (.int 0)))) (aCons (cOp gIx (cVar 0) (cC (.int 1))) aNil))) (aCons (cTup (aCons (cOp gIx (cVar 0) (cC (.int 1))) (aCons (cOp gMul (cC (.int 2)) (cOp gIx (cVar 0) (cC (.int 2)))) aNil))) aNil))))
noncomputable def m_table_of : MF := mDef 1 1 f_table_of
/-- two_of: 0 form -/
noncomputable def f_two_of : SF := (sRet (cTup (aCons (cOp gDiv (cOp gIx (cOp gIx (cVar 0) (cC (.int 0))) (cC (.int 0))) (cC (.int 2))) (aCons (cOp gIx (cOp gIx (cVar 0) (cC (.int 0))) (cC (.int 1))) (aCons (cOp gDiv (cOp gIx (cOp gIx (cVar 0) (cC (.int 1))) (cC (.int 1))) (cC (.int 2))) aNil)))))
noncomputable def m_two_of : MF := mDef 1 1 f_two_of
/-- two_worth: 0 two, 1 x, 2 y -/
noncomputable def f_two_worth : SF := (sRet (cOp gAddA (cOp gAddA (cOp gMul (cOp gMul (cOp gIx (cVar 0) (cC (.int 0))) (cVar 1)) (cVar 1)) (cOp gMul (cOp gMul (cOp gIx (cVar 0) (cC (.int 1))) (cVar 1)) (cVar 2))) (cOp gMul (cOp gMul (cOp gIx (cVar 0) (cC (.int 2))) (cVar 2)) (cVar 2))))
noncomputable def m_two_worth : MF := mDef 3 3 f_two_worth
/-- two_changed: 0 two, 1 rows, 2 p, 3 q, 4 r, 5 s, 6 middle -/
noncomputable def f_two_changed : SF := (sSeq (sAsg (cVar 1) (gTupC 2 (gConsC (gTupC 2 (gConsC (gN 2) (gConsC (gN 3) gNilC))) (gConsC (gTupC 2 (gConsC (gN 4) (gConsC (gN 5) gNilC))) gNilC))))
  (sSeq (sAsg (cOp gAddA (cOp gAddA (cOp gMul (cOp gMul (cOp gMul (cC (.int 2)) (cOp gIx (cVar 0) (cC (.int 0)))) (cVar 2)) (cVar 4)) (cOp gMul (cOp gIx (cVar 0) (cC (.int 1))) (cOp gAddA (cOp gMul (cVar 2) (cVar 5)) (cOp gMul (cVar 3) (cVar 4))))) (cOp gMul (cOp gMul (cOp gMul (cC (.int 2)) (cOp gIx (cVar 0) (cC (.int 2)))) (cVar 3)) (cVar 5))) (gN 6))
  (sRet (cTup (aCons (cCall m_two_worth (aCons (cVar 0) (aCons (cVar 2) (aCons (cVar 3) aNil)))) (aCons (cVar 6) (aCons (cCall m_two_worth (aCons (cVar 0) (aCons (cVar 4) (aCons (cVar 5) aNil)))) aNil)))))))
noncomputable def m_two_changed : MF := mDef 2 7 f_two_changed
/-- is_two_reduced: 0 two, 1 a, 2 b, 3 c -/
noncomputable def f_is_two_reduced : SF := (sSeq (sAsg (cVar 0) (gTupC 3 (gConsC (gN 1) (gConsC (gN 2) (gConsC (gN 3) gNilC)))))
  (sRet (cAnd (cCh3 gLt gLe gLe (cOp gSub (cC (.int 0)) (cVar 1)) (cVar 2) (cVar 1) (cVar 3)) (cNot (cAnd (cOp (gEq false) (cVar 1) (cVar 3)) (cOp gLt (cVar 2) (cC (.int 0))))))))
noncomputable def m_is_two_reduced : MF := mDef 1 4 f_is_two_reduced
/-- two_reduced: 0 two, 1 rows, 2 a, 3 b, 4 c, 5 step -/
noncomputable def f_two_reduced : SF := (sSeq (sExpr (cCall m_check_two (aCons (cVar 0) aNil)))
  (sSeq (sAsg (cC k_UNIT) (gN 1))
  (sSeq (sWhile (tNotC (cTru (cCall m_is_two_reduced (aCons (cVar 0) aNil)))) (sSeq (sAsg (cVar 0) (gTupC 3 (gConsC (gN 2) (gConsC (gN 3) (gConsC (gN 4) gNilC))))) (sSeq (sIf (tOrC (cTru (cOp gGt (cVar 2) (cVar 4))) (tAndC (cTru (cOp (gEq false) (cVar 2) (cVar 4))) (cTru (cOp gLt (cVar 3) (cC (.int 0)))))) (sAsg (cTup (aCons (cTup (aCons (cC (.int 0)) (aCons (cC (.int 1)) aNil))) (aCons (cTup (aCons (cUn gNeg (cC (.int 1))) (aCons (cC (.int 0)) aNil))) aNil))) (gN 5)) (sAsg (cTup (aCons (cTup (aCons (cC (.int 1)) (aCons (cC (.int 0)) aNil))) (aCons (cTup (aCons (cOp gDiv (cOp gSub (cVar 2) (cVar 3)) (cOp gMul (cC (.int 2)) (cVar 2))) (aCons (cC (.int 1)) aNil))) aNil))) (gN 5))) (sSeq (sAsg (cCall m_product (aCons (cVar 5) (aCons (cVar 1) aNil))) (gN 1)) (sAsg (cCall m_two_changed (aCons (cVar 0) (aCons (cVar 5) aNil))) (gN 0))))))
  (sRet (cTup (aCons (cVar 0) (aCons (cVar 1) aNil)))))))
noncomputable def m_two_reduced : MF := mDef 1 6 f_two_reduced
/-- check_gap: 0 number -/
noncomputable def f_check_gap : SF := (sIf (tOrC (tNotC (cTru (cCall gIsi (aCons (cVar 0) (aCons (cC (.ty "int")) aNil))))) (tOrC (cTru (cCall gIsi (aCons (cVar 0) (aCons (cC (.ty "bool")) aNil)))) (tOrC (cTru (cOp gGe (cVar 0) (cC (.int 0)))) (cTru (cOp gGt (cOp gMod (cVar 0) (cC (.int 4))) (cC (.int 1))))))) (sRaise "BadTable" (aCons (cC (.str "discriminant")) aNil)) sSkip)
noncomputable def m_check_gap : MF := mDef 1 1 f_check_gap
/-- reduced_twos: 0 number, 1 found, 2 a, 3 b, 4 two -/
noncomputable def f_reduced_twos : SF := (sSeq (sExpr (cCall m_check_gap (aCons (cVar 0) aNil)))
  (sSeq (sAsg (cCel aNil) (gN 1))
  (sSeq (sFor (iRng2C (aCons (cC (.int 1)) (aCons (cOp gAddA (cCall m_root (aCons (cOp gDiv (cOp gSub (cC (.int 0)) (cVar 0)) (cC (.int 3))) aNil)) (cC (.int 1))) aNil))) (gN 2) (sFor (iRng2C (aCons (cOp gSub (cC (.int 1)) (cVar 2)) (aCons (cOp gAddA (cVar 2) (cC (.int 1))) aNil))) (gN 3) (sIf (cTru (cOp (gEq false) (cOp gMod (cOp gSub (cOp gMul (cVar 3) (cVar 3)) (cVar 0)) (cOp gMul (cC (.int 4)) (cVar 2))) (cC (.int 0)))) (sSeq (sAsg (cTup (aCons (cVar 2) (aCons (cVar 3) (aCons (cOp gDiv (cOp gSub (cOp gMul (cVar 3) (cVar 3)) (cVar 0)) (cOp gMul (cC (.int 4)) (cVar 2))) aNil)))) (gN 4)) (sIf (cTru (cCall m_is_two_reduced (aCons (cVar 4) aNil))) (sExpr (cApp (cVar 1) (cVar 4))) sSkip)) sSkip)))
  (sRet (cVar 1)))))
noncomputable def m_reduced_twos : MF := mDef 1 5 f_reduced_twos
/-- two_classes: 0 number, 1 two -/
noncomputable def f_two_classes : SF := (sRet (cCall gTuple (aCons (cLc (iSeq (cCall m_reduced_twos (aCons (cVar 0) aNil))) (gN 1) (cTru (cOp (gEq false) (cCall m_divisor_of (aCons (cVar 1) aNil)) (cC (.int 1)))) (cVar 1) [1]) aNil)))
noncomputable def m_two_classes : MF := mDef 1 2 f_two_classes
/-- weighted_classes: 0 number, 1 found, 2 a, 3 b, 4 c -/
noncomputable def f_weighted_classes : SF := (sSeq (sAsg (cC (.int 0)) (gN 1))
  (sSeq (sFor (iSeq (cCall m_reduced_twos (aCons (cVar 0) aNil))) (gTupC 3 (gConsC (gN 2) (gConsC (gN 3) (gConsC (gN 4) gNilC)))) (sAug 1 gAdd (cIf (tAndC (cTru (cOp (gEq false) (cVar 3) (cC (.int 0)))) (cTru (cOp (gEq false) (cVar 2) (cVar 4)))) (cC (.int 3)) (cIf (cTru (cCh2 (gEq false) (gEq false) (cVar 2) (cVar 3) (cVar 4))) (cC (.int 2)) (cC (.int 6))))))
  (sRet (cCall m_fraction (aCons (cVar 1) (aCons (cC (.int 6)) aNil))))))
noncomputable def m_weighted_classes : MF := mDef 1 5 f_weighted_classes
/-- unit_two: 0 number, 1 odd -/
noncomputable def f_unit_two : SF := (sSeq (sExpr (cCall m_check_gap (aCons (cVar 0) aNil)))
  (sSeq (sAsg (cOp gMod (cVar 0) (cC (.int 4))) (gN 1))
  (sRet (cTup (aCons (cC (.int 1)) (aCons (cVar 1) (aCons (cOp gDiv (cOp gSub (cVar 1) (cVar 0)) (cC (.int 4))) aNil)))))))
noncomputable def m_unit_two : MF := mDef 1 2 f_unit_two
/-- opposite_two: 0 two -/
noncomputable def f_opposite_two : SF := (sSeq (sExpr (cCall m_check_two (aCons (cVar 0) aNil)))
  (sRet (cOp gIx (cCall m_two_reduced (aCons (cTup (aCons (cOp gIx (cVar 0) (cC (.int 0))) (aCons (cOp gSub (cC (.int 0)) (cOp gIx (cVar 0) (cC (.int 1)))) (aCons (cOp gIx (cVar 0) (cC (.int 2))) aNil)))) aNil)) (cC (.int 0)))))
noncomputable def m_opposite_two : MF := mDef 1 1 f_opposite_two
/-- _law_cell: 0 script, 1 k -/
noncomputable def f_l_cell : SF := (sSeq (sIf (cTru (cOp gLt (cVar 1) (cCall gLen (aCons (cVar 0) aNil)))) (sRet (cOp gIx (cVar 0) (cVar 1))) sSkip)
  (sRet (cC (.int 0))))
noncomputable def m_l_cell : MF := mDef 2 2 f_l_cell
/-- _law_digits: 0 script, 1 first, 2 last, 3 found, 4 k, 5 c, 6 n, 7 turn, 8 s -/
noncomputable def f_l_digits : SF := (sSeq (sAsg (cCel aNil) (gN 3))
  (sSeq (sFor (iRng2C (aCons (cVar 1) (aCons (cVar 2) aNil))) (gN 4) (sSeq (sAsg (cCall m_l_cell (aCons (cVar 0) (aCons (cVar 4) aNil))) (gN 5)) (sSeq (sIf (cTru (cOp gLt (cVar 5) (cC (.int 0)))) (sAsg (cOp gSub (cC (.int 1)) (cOp gMul (cVar 5) (cC (.int 2)))) (gN 5)) sSkip) (sIf (cTru (cOp gGe (cVar 5) (cOp gPow (cC (.int 10)) (cC (.int 18))))) (sSeq (sAsg (cVar 5) (gN 6)) (sFor (iRng1C (aCons (cC (.int 60)) aNil)) (gN 7) (sIf (cTru (cOp gGt (cVar 6) (cC (.int 0)))) (sSeq (sExpr (cApp (cVar 3) (cOp gMod (cVar 6) (cC (.int 1009))))) (sAsg (cOp gDiv (cVar 6) (cC (.int 1009))) (gN 6))) sSkip))) (sSeq (sAsg (cOp gMod (cOp gAddA (cOp gAddA (cOp gMul (cVar 5) (cC (.int 48271))) (cOp gMul (cCall gInt (aCons (cOp gAddA (cVar 4) (cC (.int 1))) aNil)) (cC (.int 69621)))) (cC (.int 11))) (cC (.int 2147483647))) (gN 8)) (sFor (iRng1C (aCons (cC (.int 12)) aNil)) (gN 7) (sSeq (sAsg (cOp gMod (cOp gAddA (cOp gAddA (cOp gMul (cVar 8) (cC (.int 16807))) (cOp gMul (cVar 7) (cC (.int 7)))) (cC (.int 1))) (cC (.int 2147483647))) (gN 8)) (sExpr (cApp (cVar 3) (cOp gMod (cOp gDiv (cVar 8) (cC (.int 997))) (cC (.int 1009))))))))))))
  (sRet (cVar 3))))
noncomputable def m_l_digits : MF := mDef 3 9 f_l_digits
/-- _law_draw: 0 box, 1 m, 2 digits, 3 at -/
noncomputable def f_l_draw : SF := (sSeq (sAsg (cVar 0) (gTupC 2 (gConsC (gN 2) (gConsC (gN 3) gNilC))))
  (sSeq (sAsg (cOp gAddA (cVar 3) (cC (.int 1))) (gSubC (cVar 0) (cC (.int 1))))
  (sSeq (sIf (cTru (cOp gLt (cVar 3) (cCall gLen (aCons (cVar 2) aNil)))) (sRet (cOp gMod (cOp gIx (cVar 2) (cVar 3)) (cVar 1))) sSkip)
  (sRet (cOp gMod (cOp gAddA (cOp gAddA (cOp gAddA (cOp gMul (cOp gMul (cVar 3) (cVar 3)) (cC (.int 3))) (cOp gMul (cVar 3) (cC (.int 4)))) (cOp gDiv (cVar 3) (cC (.int 3)))) (cC (.int 1))) (cVar 1))))))
noncomputable def m_l_draw : MF := mDef 2 4 f_l_draw
/-- _law_pick: 0 box, 1 rows -/
noncomputable def f_l_pick : SF := (sRet (cOp gIx (cVar 1) (cCall m_l_draw (aCons (cVar 0) (aCons (cCall gLen (aCons (cVar 1) aNil)) aNil)))))
noncomputable def m_l_pick : MF := mDef 2 2 f_l_pick
/-- _law_same: 0 one, 1 other -/
noncomputable def f_l_same : SF := (sRet (cOp (gEq false) (cCall gRepr (aCons (cVar 0) aNil)) (cCall gRepr (aCons (cVar 1) aNil))))
noncomputable def m_l_same : MF := mDef 2 2 f_l_same
/-- _law_gcd: 0 one, 1 other -/
noncomputable def f_l_gcd : SF := (sSeq (sPar 0 1 (aCons (cCall gAbs (aCons (cVar 0) aNil)) (aCons (cCall gAbs (aCons (cVar 1) aNil)) aNil)))
  (sSeq (sWhile (cTru (cOp gGt (cVar 1) (cC (.int 0)))) (sPar 0 1 (aCons (cVar 1) (aCons (cOp gMod (cVar 0) (cVar 1)) aNil))))
  (sRet (cVar 0))))
noncomputable def m_l_gcd : MF := mDef 2 2 f_l_gcd
/-- _law_fraction: 0 above, 1 below, 2 common -/
noncomputable def f_l_fraction : SF := (sSeq (sAsg (cCall m_l_gcd (aCons (cVar 0) (aCons (cVar 1) aNil))) (gN 2))
  (sSeq (sIf (cTru (cOp gLt (cVar 1) (cC (.int 0)))) (sAsg (cOp gSub (cC (.int 0)) (cVar 2)) (gN 2)) sSkip)
  (sRet (cTup (aCons (cOp gDiv (cVar 0) (cVar 2)) (aCons (cOp gDiv (cVar 1) (cVar 2)) aNil))))))
noncomputable def m_l_fraction : MF := mDef 2 3 f_l_fraction
/-- _law_add: 0 one, 1 other -/
noncomputable def f_l_add : SF := (sRet (cCall m_l_fraction (aCons (cOp gAddA (cOp gMul (cOp gIx (cVar 0) (cC (.int 0))) (cOp gIx (cVar 1) (cC (.int 1)))) (cOp gMul (cOp gIx (cVar 1) (cC (.int 0))) (cOp gIx (cVar 0) (cC (.int 1))))) (aCons (cOp gMul (cOp gIx (cVar 0) (cC (.int 1))) (cOp gIx (cVar 1) (cC (.int 1)))) aNil))))
noncomputable def m_l_add : MF := mDef 2 2 f_l_add
/-- _law_times: 0 one, 1 other -/
noncomputable def f_l_times : SF := (sRet (cCall m_l_fraction (aCons (cOp gMul (cOp gIx (cVar 0) (cC (.int 0))) (cOp gIx (cVar 1) (cC (.int 0)))) (aCons (cOp gMul (cOp gIx (cVar 0) (cC (.int 1))) (cOp gIx (cVar 1) (cC (.int 1)))) aNil))))
noncomputable def m_l_times : MF := mDef 2 2 f_l_times
/-- _law_dot: 0 one, 1 other, 2 k -/
noncomputable def f_l_dot : SF := (sRet (cCall gSum (aCons (cLc (iRng1C (aCons (cCall gLen (aCons (cVar 0) aNil)) aNil)) (gN 2) tYesC (cOp gMul (cOp gIx (cVar 0) (cVar 2)) (cOp gIx (cVar 1) (cVar 2))) [2]) aNil)))
noncomputable def m_l_dot : MF := mDef 2 3 f_l_dot
/-- _law_turned: 0 table, 1 k, 2 row -/
noncomputable def f_l_turned : SF := (sRet (cCall gTuple (aCons (cLc (iRng1C (aCons (cCall gLen (aCons (cOp gIx (cVar 0) (cC (.int 0))) aNil)) aNil)) (gN 1) tYesC (cCall gTuple (aCons (cLc (iSeq (cVar 0)) (gN 2) tYesC (cOp gIx (cVar 2) (cVar 1)) [2]) aNil)) [1]) aNil)))
noncomputable def m_l_turned : MF := mDef 1 3 f_l_turned
/-- _law_product: 0 one, 1 other, 2 columns, 3 row, 4 column -/
noncomputable def f_l_product : SF := (sSeq (sAsg (cCall m_l_turned (aCons (cVar 1) aNil)) (gN 2))
  (sRet (cCall gTuple (aCons (cLc (iSeq (cVar 0)) (gN 3) tYesC (cCall gTuple (aCons (cLc (iSeq (cVar 2)) (gN 4) tYesC (cCall m_l_dot (aCons (cVar 3) (aCons (cVar 4) aNil))) [4]) aNil)) [3]) aNil))))
noncomputable def m_l_product : MF := mDef 2 5 f_l_product
/-- _law_det: 0 table, 1 found, 2 k, 3 rest, 4 row -/
noncomputable def f_l_det (rec : MF) : SF := (sSeq (sIf (cTru (cOp (gEq false) (cCall gLen (aCons (cVar 0) aNil)) (cC (.int 0)))) (sRet (cC (.int 1))) sSkip)
  (sSeq (sAsg (cC (.int 0)) (gN 1))
  (sSeq (sFor (iRng1C (aCons (cCall gLen (aCons (cVar 0) aNil)) aNil)) (gN 2) (sIf (cTru (cOp (gEq true) (cOp gIx (cOp gIx (cVar 0) (cVar 2)) (cC (.int 0))) (cC (.int 0)))) (sSeq (sAsg (cLc (iSeq (cOp gAddA (cSl (cVar 0) oNone (oSome (cVar 2))) (cSl (cVar 0) (oSome (cOp gAddA (cVar 2) (cC (.int 1)))) oNone))) (gN 4) tYesC (cSl (cVar 4) (oSome (cC (.int 1))) oNone) [4]) (gN 3)) (sAsg (cOp gAddA (cVar 1) (cOp gMul (cOp gMul (cOp gSub (cC (.int 1)) (cOp gMul (cC (.int 2)) (cOp gMod (cVar 2) (cC (.int 2))))) (cOp gIx (cOp gIx (cVar 0) (cVar 2)) (cC (.int 0)))) (cCall rec (aCons (cVar 3) aNil)))) (gN 1))) sSkip))
  (sRet (cVar 1)))))
noncomputable def m_l_det : Nat → MF
  | 0 => fun _ _ => none
  | n + 1 => mDef 1 5 (f_l_det (m_l_det n))
/-- _law_unit: 0 many, 1 j, 2 k -/
noncomputable def f_l_unit : SF := (sRet (cCall gTuple (aCons (cLc (iRng1C (aCons (cVar 0) aNil)) (gN 1) tYesC (cCall gTuple (aCons (cLc (iRng1C (aCons (cVar 0) aNil)) (gN 2) tYesC (cCall gInt (aCons (cOp (gEq false) (cVar 1) (cVar 2)) aNil)) [2]) aNil)) [1]) aNil)))
noncomputable def m_l_unit : MF := mDef 1 3 f_l_unit
/-- _law_change: 0 box, 1 many, 2 steps, 3 rows, 4 turn, 5 one, 6 other, 7 kind, 8 factor, 9 row, 10 number, 11 k -/
noncomputable def f_l_change : SF := (sSeq (sAsg (cLcC (iSeq (cCall m_l_unit (aCons (cVar 1) aNil))) (gN 9) tYesC (cCall gList (aCons (cVar 9) aNil)) [9]) (gN 3))
  (sSeq (sFor (iRng1C (aCons (cVar 2) aNil)) (gN 4) (sSeq (sAsg (cTup (aCons (cCall m_l_draw (aCons (cVar 0) (aCons (cVar 1) aNil))) (aCons (cCall m_l_draw (aCons (cVar 0) (aCons (cVar 1) aNil))) aNil))) (gTupC 2 (gConsC (gN 5) (gConsC (gN 6) gNilC)))) (sSeq (sAsg (cCall m_l_draw (aCons (cVar 0) (aCons (cC (.int 8)) aNil))) (gN 7)) (sIf (cTru (cOp (gEq false) (cVar 5) (cVar 6))) (sAsg (cLc (iSeq (cOp gIx (cVar 3) (cVar 5))) (gN 10) tYesC (cOp gSub (cC (.int 0)) (cVar 10)) [10]) (gSubC (cVar 3) (cVar 5))) (sIf (cTru (cOp (gEq false) (cVar 7) (cC (.int 0)))) (sAsg (cTup (aCons (cOp gIx (cVar 3) (cVar 6)) (aCons (cOp gIx (cVar 3) (cVar 5)) aNil))) (gTupC 2 (gConsC (gSubC (cVar 3) (cVar 5)) (gConsC (gSubC (cVar 3) (cVar 6)) gNilC)))) (sSeq (sAsg (cCall m_l_pick (aCons (cVar 0) (aCons (cLst (aCons (cC (.int 1)) (aCons (cUn gNeg (cC (.int 1))) (aCons (cC (.int 2)) (aCons (cUn gNeg (cC (.int 1))) (aCons (cC (.int 1)) aNil)))))) aNil))) (gN 8)) (sAsg (cLc (iRng1C (aCons (cVar 1) aNil)) (gN 11) tYesC (cOp gAddA (cOp gIx (cOp gIx (cVar 3) (cVar 5)) (cVar 11)) (cOp gMul (cVar 8) (cOp gIx (cOp gIx (cVar 3) (cVar 6)) (cVar 11)))) [11]) (gSubC (cVar 3) (cVar 5)))))))))
  (sRet (cCall gTuple (aCons (cLcP mkI (iCel (cVar 3)) (gN 9) tYesC (cCall gTuple (aCons (cVar 9) aNil)) [9]) aNil)))))
noncomputable def m_l_change : MF := mDef 3 12 f_l_change
/-- _law_at: 0 form, 1 rows -/
noncomputable def f_l_at : SF := (sRet (cCall m_l_product (aCons (cCall m_l_product (aCons (cVar 1) (aCons (cVar 0) aNil))) (aCons (cCall m_l_turned (aCons (cVar 1) aNil)) aNil))))
noncomputable def m_l_at : MF := mDef 2 2 f_l_at
/-- _law_divisors: 0 number, 1 d -/
noncomputable def f_l_divisors : SF := (sRet (cLc (iRng2C (aCons (cC (.int 1)) (aCons (cOp gAddA (cVar 0) (cC (.int 1))) aNil))) (gN 1) (cTru (cOp (gEq false) (cOp gMod (cVar 0) (cVar 1)) (cC (.int 0)))) (cVar 1) [1]))
noncomputable def m_l_divisors : MF := mDef 1 2 f_l_divisors
/-- _law_sign: 0 number, 1 prime, 2 k -/
noncomputable def f_l_sign : SF := (sSeq (sIf (cTru (cOp (gEq false) (cOp gMod (cVar 0) (cVar 1)) (cC (.int 0)))) (sRet (cC (.int 0))) sSkip)
  (sRet (cIf (cTru (cOp (gEq true) (cLc (iRng1C (aCons (cVar 1) aNil)) (gN 2) (cTru (cOp (gEq false) (cOp gMod (cOp gSub (cOp gMul (cVar 2) (cVar 2)) (cVar 0)) (cVar 1)) (cC (.int 0)))) (cVar 2) [2]) (cLst aNil))) (cC (.int 1)) (cUn gNeg (cC (.int 1))))))
noncomputable def m_l_sign : MF := mDef 2 3 f_l_sign
/-- _law_primes: 0 number, 1 found, 2 p -/
noncomputable def f_l_primes : SF := (sSeq (sAsg (cCel aNil) (gN 1))
  (sSeq (sAsg (cC (.int 2)) (gN 2))
  (sSeq (sWhile (cTru (cOp gGt (cVar 0) (cC (.int 1)))) (sSeq (sIf (cTru (cOp (gEq false) (cOp gMod (cVar 0) (cVar 2)) (cC (.int 0)))) (sSeq (sExpr (cApp (cVar 1) (cVar 2))) (sWhile (cTru (cOp (gEq false) (cOp gMod (cVar 0) (cVar 2)) (cC (.int 0)))) (sAsg (cOp gDiv (cVar 0) (cVar 2)) (gN 0)))) sSkip) (sAsg (cOp gAddA (cVar 2) (cC (.int 1))) (gN 2))))
  (sRet (cVar 1)))))
noncomputable def m_l_primes : MF := mDef 1 3 f_l_primes
/-- _law_classes: 0 number, 1 whole, 2 found, 3 a, 4 b, 5 c -/
noncomputable def f_l_classes : SF := (sSeq (sAsg (cCel aNil) (gN 2))
  (sSeq (sAsg (cC (.int 1)) (gN 3))
  (sSeq (sWhile (cTru (cOp gLe (cOp gMul (cOp gMul (cC (.int 3)) (cVar 3)) (cVar 3)) (cOp gSub (cC (.int 0)) (cVar 0)))) (sSeq (sFor (iRng2C (aCons (cOp gSub (cC (.int 1)) (cVar 3)) (aCons (cOp gAddA (cVar 3) (cC (.int 1))) aNil))) (gN 4) (sIf (cTru (cOp (gEq false) (cOp gMod (cOp gSub (cOp gMul (cVar 4) (cVar 4)) (cVar 0)) (cOp gMul (cC (.int 4)) (cVar 3))) (cC (.int 0)))) (sSeq (sAsg (cOp gDiv (cOp gSub (cOp gMul (cVar 4) (cVar 4)) (cVar 0)) (cOp gMul (cC (.int 4)) (cVar 3))) (gN 5)) (sIf (tAndC (cTru (cOp gGe (cVar 5) (cVar 3))) (tAndC (tOrC (cTru (cOp gGe (cVar 4) (cC (.int 0)))) (cTru (cOp (gEq true) (cVar 3) (cVar 5)))) (tOrC (tNotC (cTru (cVar 1))) (cTru (cOp (gEq false) (cCall m_l_gcd (aCons (cCall m_l_gcd (aCons (cVar 3) (aCons (cVar 4) aNil))) (aCons (cVar 5) aNil))) (cC (.int 1))))))) (sExpr (cApp (cVar 2) (cTup (aCons (cVar 3) (aCons (cVar 4) (aCons (cVar 5) aNil)))))) sSkip)) sSkip)) (sAsg (cOp gAddA (cVar 3) (cC (.int 1))) (gN 3))))
  (sRet (cCall gSort (aCons (cVar 2) aNil))))))
noncomputable def m_l_classes : MF := mDef 2 6 f_l_classes
/-- _law_character: 0 number, 1 k, 2 found, 3 p, 4 power, 5 sign, 6 turn -/
noncomputable def f_l_character : SF := (sSeq (sAsg (cC (.int 1)) (gN 2))
  (sSeq (sFor (iSeq (cCall m_l_primes (aCons (cVar 1) aNil))) (gN 3) (sSeq (sAsg (cC (.int 0)) (gN 4)) (sSeq (sWhile (cTru (cOp (gEq false) (cOp gMod (cVar 1) (cVar 3)) (cC (.int 0)))) (sSeq (sAsg (cOp gDiv (cVar 1) (cVar 3)) (gN 1)) (sAsg (cOp gAddA (cVar 4) (cC (.int 1))) (gN 4)))) (sSeq (sIf (cTru (cOp (gEq false) (cVar 3) (cC (.int 2)))) (sAsg (cIf (cTru (cOp (gEq false) (cOp gMod (cVar 0) (cC (.int 2))) (cC (.int 0)))) (cC (.int 0)) (cIf (cTru (cOp (gEq false) (cOp gMod (cVar 0) (cC (.int 8))) (cC (.int 1)))) (cC (.int 1)) (cUn gNeg (cC (.int 1))))) (gN 5)) (sAsg (cCall m_l_sign (aCons (cVar 0) (aCons (cVar 3) aNil))) (gN 5))) (sFor (iRng1C (aCons (cVar 4) aNil)) (gN 6) (sAsg (cOp gMul (cVar 2) (cVar 5)) (gN 2)))))))
  (sRet (cVar 2))))
noncomputable def m_l_character : MF := mDef 2 7 f_l_character
/-- _law_is_fundamental: 0 number, 1 n, 2 p -/
noncomputable def f_l_is_fundamental : SF := (sSeq (sAsg (cOp gSub (cC (.int 0)) (cVar 0)) (gN 1))
  (sSeq (sFor (iSeq (cCall m_l_primes (aCons (cVar 1) aNil))) (gN 2) (sIf (tAndC (cTru (cOp gGt (cVar 2) (cC (.int 2)))) (cTru (cOp (gEq false) (cOp gMod (cVar 1) (cOp gMul (cVar 2) (cVar 2))) (cC (.int 0))))) (sRet (cC (.bl false))) sSkip))
  (sRet (cOr (cOp (gEq false) (cOp gMod (cVar 0) (cC (.int 4))) (cC (.int 1))) (cOp (gIn false) (cOp gMod (cVar 0) (cC (.int 16))) (cTup (aCons (cC (.int 8)) (aCons (cC (.int 12)) aNil))))))))
noncomputable def m_l_is_fundamental : MF := mDef 1 3 f_l_is_fundamental
/-- _law_weight: 0 number, 1 found, 2 a, 3 b, 4 c -/
noncomputable def f_l_weight : SF := (sSeq (sAsg (cTup (aCons (cC (.int 0)) (aCons (cC (.int 1)) aNil))) (gN 1))
  (sSeq (sFor (iSeq (cCall m_l_classes (aCons (cVar 0) (aCons (cC (.bl false)) aNil)))) (gTupC 3 (gConsC (gN 2) (gConsC (gN 3) (gConsC (gN 4) gNilC)))) (sAsg (cCall m_l_add (aCons (cVar 1) (aCons (cIf (tAndC (cTru (cOp (gEq false) (cVar 3) (cC (.int 0)))) (cTru (cOp (gEq false) (cVar 2) (cVar 4)))) (cTup (aCons (cC (.int 1)) (aCons (cC (.int 2)) aNil))) (cIf (tAndC (cTru (cOp (gEq false) (cVar 2) (cVar 3))) (cTru (cOp (gEq false) (cVar 3) (cVar 4)))) (cTup (aCons (cC (.int 1)) (aCons (cC (.int 3)) aNil))) (cTup (aCons (cC (.int 1)) (aCons (cC (.int 1)) aNil))))) aNil))) (gN 1)))
  (sRet (cVar 1))))
noncomputable def m_l_weight : MF := mDef 1 5 f_l_weight
/-- _law_two_change: 0 box, 1 rows -/
noncomputable def f_l_two_change : SF := (sSeq (sAsg (cCall m_l_change (aCons (cVar 0) (aCons (cC (.int 2)) (aCons (cC (.int 6)) aNil)))) (gN 1))
  (sSeq (sIf (cTru (cOp (gEq false) (cCall (m_l_det 3) (aCons (cVar 1) aNil)) (cUn gNeg (cC (.int 1))))) (sAsg (cTup (aCons (cOp gIx (cVar 1) (cC (.int 1))) (aCons (cOp gIx (cVar 1) (cC (.int 0))) aNil))) (gN 1)) sSkip)
  (sRet (cVar 1))))
noncomputable def m_l_two_change : MF := mDef 1 2 f_l_two_change
/-- law: 0 script, 1 box, 2 number, 3 due, 4 n, 5 total, 6 t, 7 one, 8 two, 9 rows, 10 other, 11 found, 12 change, 13 x, 14 y, 15 unit, 16 bad, 17 reason, 18 e, 19 k, 20 d -/
noncomputable def f_l_law : SF := (sSeq (sAsg (cCel (aCons (cCall m_l_digits (aCons (cVar 0) (aCons (cC (.int 0)) (aCons (cC (.int 63)) aNil)))) (aCons (cC (.int 0)) aNil))) (gN 1))
  (sSeq (sAsg (cOp gSub (cC (.int 0)) (cOp gSub (cOp gMul (cC (.int 4)) (cOp gAddA (cC (.int 1)) (cCall m_l_draw (aCons (cVar 1) (aCons (cC (.int 300)) aNil))))) (cCall m_l_pick (aCons (cVar 1) (aCons (cLst (aCons (cC (.int 0)) (aCons (cC (.int 1)) aNil))) aNil))))) (gN 2))
  (sSeq (sAsg (cCall m_l_classes (aCons (cVar 2) (aCons (cC (.bl true)) aNil))) (gN 3))
  (sSeq (sIf (tOrC (tNotC (cTru (cCall m_l_same (aCons (cCall m_two_classes (aCons (cVar 2) aNil)) (aCons (cCall gTuple (aCons (cVar 3) aNil)) aNil))))) (tNotC (cTru (cCall m_l_same (aCons (cCall m_weighted_classes (aCons (cVar 2) aNil)) (aCons (cCall m_l_weight (aCons (cVar 2) aNil)) aNil)))))) (sRet (cC (.bl false))) sSkip)
  (sSeq (sIf (tAndC (cTru (cCall m_l_is_fundamental (aCons (cVar 2) aNil))) (tAndC (cTru (cOp gLt (cVar 2) (cUn gNeg (cC (.int 4))))) (cTru (cOp (gEq true) (cOp gMul (cCall gLen (aCons (cVar 3) aNil)) (cVar 2)) (cCall gSum (aCons (cLc (iRng2C (aCons (cC (.int 1)) (aCons (cOp gSub (cC (.int 0)) (cVar 2)) aNil))) (gN 19) tYesC (cOp gMul (cVar 19) (cCall m_l_character (aCons (cVar 2) (aCons (cVar 19) aNil)))) [19]) aNil)))))) (sRet (cC (.bl false))) sSkip)
  (sSeq (sAsg (cOp gAddA (cC (.int 1)) (cCall m_l_draw (aCons (cVar 1) (aCons (cC (.int 40)) aNil)))) (gN 4))
  (sSeq (sAsg (cTup (aCons (cTup (aCons (cC (.int 0)) (aCons (cC (.int 1)) aNil))) (aCons (cC (.int 0)) aNil))) (gTupC 2 (gConsC (gN 5) (gConsC (gN 6) gNilC))))
  (sSeq (sWhile (cTru (cOp gLe (cOp gMul (cVar 6) (cVar 6)) (cOp gMul (cC (.int 4)) (cVar 4)))) (sSeq (sAsg (cIf (cTru (cOp (gEq false) (cOp gMul (cVar 6) (cVar 6)) (cOp gMul (cC (.int 4)) (cVar 4)))) (cTup (aCons (cUn gNeg (cC (.int 1))) (aCons (cC (.int 12)) aNil))) (cCall m_weighted_classes (aCons (cOp gSub (cOp gMul (cVar 6) (cVar 6)) (cOp gMul (cC (.int 4)) (cVar 4))) aNil))) (gN 7)) (sSeq (sAsg (cCall m_l_add (aCons (cVar 5) (aCons (cIf (cTru (cOp (gEq false) (cVar 6) (cC (.int 0)))) (cVar 7) (cCall m_l_times (aCons (cVar 7) (aCons (cTup (aCons (cC (.int 2)) (aCons (cC (.int 1)) aNil))) aNil)))) aNil))) (gN 5)) (sAsg (cOp gAddA (cVar 6) (cC (.int 1))) (gN 6)))))
  (sSeq (sIf (cTru (cOp (gEq true) (cVar 5) (cTup (aCons (cOp gSub (cOp gMul (cC (.int 2)) (cCall gSum (aCons (cCall m_l_divisors (aCons (cVar 4) aNil)) aNil))) (cCall gSum (aCons (cLc (iSeq (cCall m_l_divisors (aCons (cVar 4) aNil))) (gN 20) tYesC (cCall gMin (aCons (cVar 20) (aCons (cOp gDiv (cVar 4) (cVar 20)) aNil))) [20]) aNil))) (aCons (cC (.int 1)) aNil))))) (sRet (cC (.bl false))) sSkip)
  (sSeq (sAsg (cCall m_l_pick (aCons (cVar 1) (aCons (cVar 3) aNil))) (gN 8))
  (sSeq (sAsg (cCall m_l_two_change (aCons (cVar 1) aNil)) (gN 9))
  (sSeq (sAsg (cCall m_two_changed (aCons (cVar 8) (aCons (cVar 9) aNil))) (gN 10))
  (sSeq (sIf (tOrC (tNotC (cTru (cCall m_l_same (aCons (cCall m_table_of (aCons (cVar 10) aNil)) (aCons (cCall m_l_at (aCons (cCall m_table_of (aCons (cVar 8) aNil)) (aCons (cVar 9) aNil))) aNil))))) (tOrC (tNotC (cTru (cCall m_l_same (aCons (cCall m_two_of (aCons (cCall m_table_of (aCons (cVar 10) aNil)) aNil)) (aCons (cVar 10) aNil))))) (cTru (cOp (gEq true) (cCall m_gap (aCons (cVar 10) aNil)) (cVar 2))))) (sRet (cC (.bl false))) sSkip)
  (sSeq (sAsg (cCall m_two_reduced (aCons (cVar 10) aNil)) (gTupC 2 (gConsC (gN 11) (gConsC (gN 12) gNilC))))
  (sSeq (sIf (tOrC (tNotC (cTru (cCall m_l_same (aCons (cVar 11) (aCons (cVar 8) aNil))))) (tOrC (cTru (cOp (gEq true) (cCall (m_l_det 3) (aCons (cVar 12) aNil)) (cC (.int 1)))) (tOrC (tNotC (cTru (cCall m_l_same (aCons (cCall m_two_changed (aCons (cVar 10) (aCons (cVar 12) aNil))) (aCons (cVar 8) aNil))))) (tNotC (cTru (cCall m_l_same (aCons (cCall m_is_two_reduced (aCons (cVar 10) aNil)) (aCons (cOp (gIn false) (cVar 10) (cVar 3)) aNil)))))))) (sRet (cC (.bl false))) sSkip)
  (sSeq (sPar 13 14 (aCons (cOp gSub (cCall m_l_draw (aCons (cVar 1) (aCons (cC (.int 21)) aNil))) (cC (.int 10))) (aCons (cOp gSub (cCall m_l_draw (aCons (cVar 1) (aCons (cC (.int 21)) aNil))) (cC (.int 10))) aNil)))
  (sSeq (sIf (cTru (cOp (gEq true) (cCall m_two_worth (aCons (cVar 8) (aCons (cVar 13) (aCons (cVar 14) aNil)))) (cOp gAddA (cOp gAddA (cOp gMul (cOp gMul (cOp gIx (cVar 8) (cC (.int 0))) (cVar 13)) (cVar 13)) (cOp gMul (cOp gMul (cOp gIx (cVar 8) (cC (.int 1))) (cVar 13)) (cVar 14))) (cOp gMul (cOp gMul (cOp gIx (cVar 8) (cC (.int 2))) (cVar 14)) (cVar 14))))) (sRet (cC (.bl false))) sSkip)
  (sSeq (sAsg (cCall m_unit_two (aCons (cVar 2) aNil)) (gN 15))
  (sSeq (sIf (tOrC (cTru (cOp (gIn true) (cVar 15) (cVar 3))) (tOrC (cTru (cOp (gEq true) (cOp gIx (cVar 15) (cC (.int 0))) (cC (.int 1)))) (tNotC (cTru (cCall m_l_same (aCons (cCall m_opposite_two (aCons (cVar 10) aNil)) (aCons (cOp gIx (cCall m_two_reduced (aCons (cTup (aCons (cOp gIx (cVar 8) (cC (.int 0))) (aCons (cOp gSub (cC (.int 0)) (cOp gIx (cVar 8) (cC (.int 1)))) (aCons (cOp gIx (cVar 8) (cC (.int 2))) aNil)))) aNil)) (cC (.int 0))) aNil))))))) (sRet (cC (.bl false))) sSkip)
  (sSeq (sFor (iSeq (cLst (aCons (cTup (aCons (cTup (aCons (cC (.int 1)) (aCons (cC (.int 2)) aNil))) (aCons (cC (.str "form")) aNil))) (aCons (cTup (aCons (cTup (aCons (cC (.int 1)) (aCons (cC (.int 5)) (aCons (cC (.int 1)) aNil)))) (aCons (cC (.str "above")) aNil))) (aCons (cTup (aCons (cTup (aCons (cUn gNeg (cC (.int 1))) (aCons (cC (.int 0)) (aCons (cUn gNeg (cC (.int 1))) aNil)))) (aCons (cC (.str "above")) aNil))) (aCons (cTup (aCons (cTup (aCons (cC (.int 2)) (aCons (cC (.int 0)) (aCons (cC (.int 2)) aNil)))) (aCons (cC (.str "divisor")) aNil))) aNil)))))) (gTupC 2 (gConsC (gN 16) (gConsC (gN 17) gNilC))) (sTry "BadTable" 18 (sExpr (cCall m_two_reduced (aCons (cVar 16) aNil))) (fun fs => sIf (cTru (cOp (gEq true) (xRsn fs) ((cVar 17)))) (sRet (cC (.bl false))) sSkip) (sRet (cC (.bl false)))))
  (sRet (cC (.bl true)))))))))))))))))))))))
noncomputable def m_l_law : MF := mDef 1 21 f_l_law
end K11
/-! k11: what the mirrors come to, part A: numbers and tables. -/
namespace K11
open PySem DL
variable {M : Store}
theorem abs_nat (a : Int) : (if a < 0 then -a else a) = (a.natAbs : Int) := by omega
theorem divisor_loop : ∀ (m o : Nat), sWhile (cTru (cVar 1)) (sPar 0 1 (aCons (cVar 1) (aCons (cOp gMod (cVar 0) (cVar 1)) aNil))) [some (.int o), some (.int m)] M = some (.nx [some (.int (Nat.gcd o m)), some (.int 0)], M) := by
  intro m
  induction m using Nat.strongRecOn with
  | _ m ih =>
    intro o
    cases m with
    | zero =>
      have h : sWhile (cTru (cVar 1)) (sPar 0 1 (aCons (cVar 1) (aCons (cOp gMod (cVar 0) (cVar 1)) aNil))) [some (.int o), some (.int (0 : Nat))] M = some (.nx [some (.int o), some (.int (0 : Nat))], M) := sWhile_stop (M1 := M) (by simp)
      rw [h]; simp
    | succ m =>
      refine sWhile_more (en1 := [some (.int (m + 1 : Nat)), some (.int ((o % (m + 1) : Nat) : Int))]) (M1 := M) (M2 := M) ?_ ?_ ?_
      · simp; omega
      · simp [modC]
      · rw [ih (o % (m + 1)) (Nat.mod_lt _ (Nat.succ_pos m)) (m + 1)]
        rw [Nat.gcd_comm (m + 1), ← Nat.gcd_rec, Nat.gcd_comm]
theorem divisor_is (a b : Int) : m_divisor [.int a, .int b] M = some (.ok (.int (Int.gcd a b)), M) := by
  unfold m_divisor f_divisor
  simp [abs_nat, divisor_loop]
  rfl
theorem fraction_is (a b : Int) (hb : 0 < b) (h : b < 2 ^ 200) : m_fraction [.int a, .int b] M = some (.ok (.tup [.int (a / Int.gcd a b), .int (b / Int.gcd a b)]), M) := by
  unfold m_fraction f_fraction
  have h1 : 0 < (Int.gcd a b : Int) := by
    have := Int.gcd_pos_of_ne_zero_right a (show b ≠ 0 by omega)
    omega
  have h2 : (Int.gcd a b : Int) ≤ b := by
    have := Int.gcd_le_natAbs_right a (show b ≠ 0 by omega)
    omega
  have hd : ∀ x : Int, divC x (Int.gcd a b) = true := fun x => divC_of h1 (by omega)
  simp [divisor_is, hd, show ¬ b < 0 by omega]
/-- the divisor of many -/
def gcdL (r : List Int) : Int := r.foldl (fun (g x : Int) => (Int.gcd g x : Int)) 0
theorem divisor_of_loop : ∀ (r : List Int) (x z : Option D) (g : Int), ∃ z', fLoop (gN 2) (sAsg (cCall m_divisor (aCons (cVar 1) (aCons (cVar 2) aNil))) (gN 1)) (r.map D.int) [x, some (.int g), z] M = some (.nx [x, some (.int (r.foldl (fun (g x : Int) => (Int.gcd g x : Int)) g)), z'], M)
  | [], x, z, g => ⟨z, rfl⟩
  | i :: r, x, z, g => by
    obtain ⟨z', h⟩ := divisor_of_loop r x (some (.int i)) (Int.gcd g i)
    refine ⟨z', ?_⟩
    rw [List.map_cons, fLoop_cons]
    simp [divisor_is]
    exact h
theorem divisor_of_is (r : List Int) : m_divisor_of [eRow r] M = some (.ok (.int (gcdL r)), M) := by
  unfold m_divisor_of f_divisor_of
  obtain ⟨z', h⟩ := divisor_of_loop (M := M) r (some (eRow r)) none 0
  simp [h]
  rfl
/-! root -/
theorem newton {x f : Int} (hx : 0 ≤ x) (hf : 0 < f) : x < ((f + x / f) / 2 + 1) * ((f + x / f) / 2 + 1) := by
  have h1 : x < f * (x / f + 1) := by
    have := Int.lt_mul_ediv_self_add (x := x) hf
    rw [Int.mul_add, Int.mul_one]
    exact this
  generalize x / f = q at *
  have h2 : f + q + 1 ≤ 2 * ((f + q) / 2 + 1) := by omega
  generalize (f + q) / 2 + 1 = g at *
  have hq : 0 < q + 1 := by
    rcases Int.lt_or_le 0 (q + 1) with h | h
    · exact h
    · have := Int.mul_nonpos_of_nonneg_of_nonpos (Int.le_of_lt hf) h
      omega
  have h3 : (f + (q + 1)) * (f + (q + 1)) ≤ (2 * g) * (2 * g) := Int.mul_self_le_mul_self (by omega) (by omega)
  have h4 : 0 ≤ (f - (q + 1)) * (f - (q + 1)) := sq_nonneg _
  have e1 : (f + (q + 1)) * (f + (q + 1)) = (f - (q + 1)) * (f - (q + 1)) + 4 * (f * (q + 1)) := by grind
  have e2 : (2 * g) * (2 * g) = 4 * (g * g) := by grind
  omega
theorem newton_less {x f : Int} (hx : 0 ≤ x) (hf : 0 < f) (h : x < f * f) : (f + x / f) / 2 < f := by
  have : x / f < f := Int.ediv_lt_of_lt_mul hf h
  omega
theorem newton_nn {x f : Int} (hx : 0 ≤ x) (hf : 0 < f) : 0 ≤ (f + x / f) / 2 := by
  have : 0 ≤ x / f := Int.ediv_nonneg hx (Int.le_of_lt hf)
  omega
/-- the root, rounded down -/
def IsRoot (x r : Int) : Prop := 0 ≤ r ∧ r * r ≤ x ∧ x < (r + 1) * (r + 1)
theorem root_loop {x : Int} (hx : 0 ≤ x) (hb : x < 2 ^ 62) : ∀ (n : Nat) (f : Int), f.toNat = n → 0 ≤ f → f < 2 ^ 62 → x < (f + 1) * (f + 1) → ∃ r, IsRoot x r ∧
    sWhile (cTru (cOp gGt (cOp gMul (cVar 1) (cVar 1)) (cVar 0))) (sAsg (cOp gDiv (cOp gAddA (cVar 1) (cOp gDiv (cVar 0) (cVar 1))) (cC (.int 2))) (gN 1)) [some (.int x), some (.int f)] M = some (.nx [some (.int x), some (.int r)], M) := by
  intro n
  induction n using Nat.strongRecOn with
  | _ n ih =>
    intro f hn h0 h1 h2
    have hm : mulC f f = true := mulC_l (by omega) (by omega)
    by_cases h : x < f * f
    · have hf : 0 < f := by
        rcases Int.lt_or_eq_of_le h0 with q | q
        · exact q
        · subst q; omega
      have hl := newton_less hx hf h
      have hnn := newton_nn hx hf
      obtain ⟨r, hr, e⟩ := ih ((f + x / f) / 2).toNat (by omega) _ rfl hnn (by omega) (newton hx hf)
      refine ⟨r, hr, sWhile_more (en1 := [some (.int x), some (.int ((f + x / f) / 2))]) (M1 := M) (M2 := M) ?_ ?_ e⟩
      · simp [hm, h]
      · simp [divC_of hf (Int.lt_trans h1 (by decide)), show divC (f + x / f) 2 = true from divC_of (by decide) (by decide)]
    · refine ⟨f, ⟨h0, by omega, h2⟩, sWhile_stop (M1 := M) ?_⟩
      simp [hm, h]
theorem bits_lt {x : Int} (hx : 0 ≤ x) : x < 2 ^ (Builtin.Int.intBits x) := by
  unfold Builtin.Int.intBits
  split
  · rename_i h
    have : x = 0 := by simpa using h
    subst this; decide
  · have := Nat.lt_log2_self (n := x.natAbs)
    have h2 : ((x.natAbs : Nat) : Int) < ((2 ^ (x.natAbs.log2 + 1) : Nat) : Int) := by exact_mod_cast this
    have h3 : ((x.natAbs : Nat) : Int) = x := by omega
    rw [h3] at h2
    exact_mod_cast h2
theorem bits_le {x : Int} (hx : 0 ≤ x) (hb : x < 2 ^ 62) : Builtin.Int.intBits x ≤ 62 := by
  unfold Builtin.Int.intBits
  split
  · omega
  · rename_i h
    have h0 : x.natAbs ≠ 0 := by
      intro z
      apply h
      simp; omega
    have : x.natAbs.log2 < 62 := (Nat.log2_lt h0).mpr (by omega)
    omega
theorem root_is {x : Int} (hx : 0 ≤ x) (hb : x < 2 ^ 62) : ∃ r, IsRoot x r ∧ m_root [.int x] M = some (.ok (.int r), M) := by
  have h1 := bits_lt hx
  have h2 := bits_le hx hb
  generalize hL : Builtin.Int.intBits x = L at h1 h2
  have hk : (L + 1) / 2 ≤ 31 := by omega
  have hp : (2 : Int) ^ ((L + 1) / 2) ≤ 2 ^ 31 := by
    have : (2 : Nat) ^ ((L + 1) / 2) ≤ 2 ^ 31 := Nat.pow_le_pow_right (by decide) hk
    exact_mod_cast this
  have hp0 : (0 : Int) < 2 ^ ((L + 1) / 2) := by
    have : (0 : Nat) < 2 ^ ((L + 1) / 2) := Nat.pow_pos (by decide)
    exact_mod_cast this
  have hq : (2 : Int) ^ L ≤ 2 ^ ((L + 1) / 2) * 2 ^ ((L + 1) / 2) := by
    have : (2 : Nat) ^ L ≤ 2 ^ ((L + 1) / 2) * 2 ^ ((L + 1) / 2) := by
      rw [← Nat.pow_add]
      exact Nat.pow_le_pow_right (by decide) (by omega)
    exact_mod_cast this
  generalize (2 : Int) ^ L = U at *
  have hst : x < (2 ^ ((L + 1) / 2) + 1) * (2 ^ ((L + 1) / 2) + 1) := by
    generalize (2 : Int) ^ ((L + 1) / 2) = f at *
    have : (f + 1) * (f + 1) = f * f + 2 * f + 1 := by grind
    omega
  obtain ⟨r, hr, e⟩ := root_loop (M := M) hx hb _ _ rfl (Int.le_of_lt hp0) (Int.lt_of_le_of_lt hp (by decide)) hst
  refine ⟨r, hr, ?_⟩
  unfold m_root f_root
  have hpc : powC 1 (((L : Int) + 1) / 2) = true := by
    unfold powC
    rw [Bool.and_eq_true, Bool.and_eq_true]
    exact ⟨decide_eq_true (by omega), decide_eq_true (by omega), decide_eq_true (by decide)⟩
  have ht : ((((L : Int) + 1) / 2)).toNat = (L + 1) / 2 := by omega
  simp [hL, show ∀ y : Int, divC y 2 = true from fun y => divC_of (by decide) (by decide), hpc, ht, e]
/-! forms of two unknowns -/
theorem is_whole_is (a : Int) : m_is_whole [.int a] M = some (.ok (.bl true), M) := by
  unfold m_is_whole f_is_whole
  simp [show ∀ a : Int, gIsi [.int a, .ty "int"] M = some (.ok (.bl true), M) from fun _ => rfl, show ∀ a : Int, gIsi [.int a, .ty "bool"] M = some (.ok (.bl false), M) from fun _ => rfl]
theorem is_row_3 (a b c : Int) : m_is_row [eRow [a, b, c]] M = some (.ok (.bl true), M) := by
  unfold m_is_row f_is_row
  simp [show ∀ r : List Int, gIsi [eRow r, .ty "tuple"] M = some (.ok (.bl true), M) from fun _ => rfl, is_whole_is, gAll, blsOf]
theorem is_row_2 (a b : Int) : m_is_row [eRow [a, b]] M = some (.ok (.bl true), M) := by
  unfold m_is_row f_is_row
  simp [show ∀ r : List Int, gIsi [eRow r, .ty "tuple"] M = some (.ok (.bl true), M) from fun _ => rfl, is_whole_is, gAll, blsOf]
theorem is_two_3 (a b c : Int) : m_is_two [eRow [a, b, c]] M = some (.ok (.bl true), M) := by
  unfold m_is_two f_is_two
  simp [is_row_3]
theorem is_two_2 (a b : Int) : m_is_two [eRow [a, b]] M = some (.ok (.bl false), M) := by
  unfold m_is_two f_is_two
  simp [is_row_2]
/-- all numbers below 10 ^ 15 -/
def Sm (x : Int) : Prop := -(10 ^ 15) < x ∧ x < 10 ^ 15
theorem Sm.l {x y : Int} (h : Sm x) : mulC x y = true := by
  obtain ⟨h1, h2⟩ := h
  exact mulC_l (by omega) (by omega)
theorem Sm.r {x y : Int} (h : Sm y) : mulC x y = true := by
  obtain ⟨h1, h2⟩ := h
  exact mulC_r (by omega) (by omega)
theorem m4 {y : Int} : mulC 4 y = true := mulC_l (by decide) (by decide)
theorem m2 {y : Int} : mulC 2 y = true := mulC_l (by decide) (by decide)
def gapF (a b c : Int) : Int := b * b - 4 * a * c
theorem gap_is {a b c : Int} (hb : Sm b) (hc : Sm c) : m_gap [eRow [a, b, c]] M = some (.ok (.int (gapF a b c)), M) := by
  unfold m_gap f_gap
  simp [hb.l, m4, hc.r, gapF]
theorem check_two_is {a b c : Int} (hb : Sm b) (hc : Sm c) (hg : gapF a b c < 0) (ha : 1 ≤ a) (h1 : gcdL [a, b, c] = 1) : m_check_two [eRow [a, b, c]] M = some (.ok .non, M) := by
  unfold m_check_two f_check_two
  simp [is_two_3, gap_is hb hc, divisor_of_is, h1, show ¬ 0 ≤ gapF a b c by omega, show ¬ a < 1 by omega]
theorem table_of_is {a b c : Int} : m_table_of [eRow [a, b, c]] M = some (.ok (eTab [[2 * a, b], [b, 2 * c]]), M) := by
  unfold m_table_of f_table_of
  simp [m2, row2, tab2]
theorem two_of_is {a b c d : Int} : m_two_of [eTab [[a, b], [c, d]]] M = some (.ok (eRow [a / 2, b, d / 2]), M) := by
  unfold m_two_of f_two_of
  simp [show ∀ y : Int, divC y 2 = true from fun y => divC_of (by decide) (by decide), row3]
end K11
/-! k11: what the mirrors come to, part B: forms and changes. -/
namespace K11
open PySem DL
variable {M : Store}
def worthF (a b c x y : Int) : Int := a * x * x + b * x * y + c * y * y
theorem two_worth_is {a b c x y : Int} (hx : Sm x) (hy : Sm y) : m_two_worth [eRow [a, b, c], .int x, .int y] M = some (.ok (.int (worthF a b c x y)), M) := by
  unfold m_two_worth f_two_worth
  simp [hx.r, hy.r, worthF]
def midF (a b c p q r s : Int) : Int := 2 * a * p * r + b * (p * s + q * r) + 2 * c * q * s
theorem two_changed_is {a b c p q r s : Int} (hb : Sm b) (hp : Sm p) (hq : Sm q) (hr : Sm r) (hs : Sm s) :
    m_two_changed [eRow [a, b, c], eTab [[p, q], [r, s]]] M = some (.ok (eRow [worthF a b c p q, midF a b c p q r s, worthF a b c r s]), M) := by
  unfold m_two_changed f_two_changed
  simp [m2, hb.l, hp.r, hq.r, hr.r, hs.r, two_worth_is hp hq, two_worth_is hr hs, midF, row3]
def redF (a b c : Int) : Bool := decide (-a < b) && (decide (b ≤ a) && (decide (a ≤ c) && !(a == c && decide (b < 0))))
theorem is_two_reduced_is {a b c : Int} : m_is_two_reduced [eRow [a, b, c]] M = some (.ok (.bl (redF a b c)), M) := by
  unfold m_is_two_reduced f_is_two_reduced
  unfold redF
  simp
  cases decide (-a < b) <;> cases decide (b ≤ a) <;> cases decide (a ≤ c) <;> cases (a == c) <;> cases decide (b < 0) <;> simp
theorem rgD_2 : rgD 0 2 = [.int 0, .int 1] := by rfl
theorem wide_is {a b : Int} {t : List (List Int)} : m_wide [eTab ([a, b] :: t)] M = some (.ok (.int 2), M) := by
  unfold m_wide f_wide
  simp [eTab]
theorem turned_is {e f g h : Int} : m_turned [eTab [[e, f], [g, h]]] M = some (.ok (eTab [[e, g], [f, h]]), M) := by
  unfold m_turned f_turned
  simp [wide_is, rgD_2, show smI 2 = true from rfl, row2, tab2]
theorem dot_is {a b e g : Int} (h1 : mulC a e = true) (h2 : mulC b g = true) : m_dot [eRow [a, b], eRow [e, g]] M = some (.ok (.int (a * e + b * g)), M) := by
  unfold m_dot f_dot
  simp [iZipC, eRow, zipD, h1, h2, gSum, intsOf]
def prodF (a b c d e f g h : Int) : List (List Int) := [[a * e + b * g, a * f + b * h], [c * e + d * g, c * f + d * h]]
theorem product_is {a b c d e f g h : Int} (h1 : mulC a e = true) (h2 : mulC b g = true) (h3 : mulC a f = true) (h4 : mulC b h = true) (h5 : mulC c e = true) (h6 : mulC d g = true) (h7 : mulC c f = true) (h8 : mulC d h = true) :
    m_product [eTab [[a, b], [c, d]], eTab [[e, f], [g, h]]] M = some (.ok (eTab (prodF a b c d e f g h)), M) := by
  unfold m_product f_product
  simp [turned_is, dot_is, h1, h2, h3, h4, h5, h6, h7, h8, row2, tab2, prodF]
end K11
/-! k11, part C: reduction of forms of two unknowns above 0, in plain numbers. -/
namespace K11
open DL
structure Frm where
  a : Int
  b : Int
  c : Int
structure Chg where
  p : Int
  q : Int
  r : Int
  s : Int
def Frm.wo (f : Frm) (x y : Int) : Int := worthF f.a f.b f.c x y
def Frm.act (f : Frm) (u : Chg) : Frm := ⟨f.wo u.p u.q, midF f.a f.b f.c u.p u.q u.r u.s, f.wo u.r u.s⟩
def Frm.gap (f : Frm) : Int := gapF f.a f.b f.c
def Frm.red (f : Frm) : Bool := redF f.a f.b f.c
def Chg.det (u : Chg) : Int := u.p * u.s - u.q * u.r
def Chg.mul (v u : Chg) : Chg := ⟨v.p * u.p + v.q * u.r, v.p * u.q + v.q * u.s, v.r * u.p + v.s * u.r, v.r * u.q + v.s * u.s⟩
def Chg.one : Chg := ⟨1, 0, 0, 1⟩
def Chg.inv (u : Chg) : Chg := ⟨u.s, -u.q, -u.r, u.p⟩
theorem Frm.ext {f g : Frm} (h1 : f.a = g.a) (h2 : f.b = g.b) (h3 : f.c = g.c) : f = g := by
  cases f; cases g; simp_all
theorem act_one (f : Frm) : f.act .one = f := by
  apply Frm.ext <;> simp [Frm.act, Frm.wo, worthF, midF, Chg.one]
theorem act_act (f : Frm) (u v : Chg) : (f.act u).act v = f.act (v.mul u) := by
  apply Frm.ext <;> simp only [Frm.act, Frm.wo, worthF, midF, Chg.mul] <;> grind
theorem gap_act (f : Frm) (u : Chg) : (f.act u).gap = u.det * u.det * f.gap := by
  simp only [Frm.gap, gapF, Frm.act, Frm.wo, worthF, midF, Chg.det]
  grind
theorem det_mul (u v : Chg) : (v.mul u).det = v.det * u.det := by
  simp only [Chg.det, Chg.mul]
  grind
theorem inv_mul (u : Chg) (h : u.det = 1) : u.inv.mul u = .one := by
  obtain ⟨p, q, r, s⟩ := u
  simp only [Chg.det] at h
  simp only [Chg.mul, Chg.inv, Chg.one, Chg.mk.injEq]
  refine ⟨?_, ?_, ?_, ?_⟩ <;> grind
theorem act_inv (f : Frm) (u : Chg) (h : u.det = 1) : (f.act u).act u.inv = f := by
  rw [act_act, inv_mul u h, act_one]
theorem det_inv (u : Chg) : u.inv.det = u.det := by
  simp only [Chg.det, Chg.inv]
  grind
/-- above 0 -/
def Frm.pos (f : Frm) : Prop := 1 ≤ f.a ∧ f.gap < 0
theorem four_a (f : Frm) (x y : Int) : 4 * f.a * f.wo x y = (2 * f.a * x + f.b * y) * (2 * f.a * x + f.b * y) - f.gap * (y * y) := by
  simp only [Frm.wo, Frm.gap, worthF, gapF]
  grind
theorem four_c (f : Frm) (x y : Int) : 4 * f.c * f.wo x y = (2 * f.c * y + f.b * x) * (2 * f.c * y + f.b * x) - f.gap * (x * x) := by
  simp only [Frm.wo, Frm.gap, worthF, gapF]
  grind
theorem pos_c {f : Frm} (h : f.pos) : 1 ≤ f.c := by
  obtain ⟨h1, h2⟩ := h
  rcases Int.lt_or_le 0 f.c with hc | hc
  · exact hc
  · have h3 := Int.mul_nonneg (show 0 ≤ f.a by omega) (show 0 ≤ -f.c by omega)
    have h4 := sq_nonneg f.b
    simp only [Frm.gap, gapF] at h2
    have e : f.a * -f.c = -(f.a * f.c) := by grind
    have e2 : 4 * f.a * f.c = 4 * (f.a * f.c) := by grind
    omega
theorem wo_pos {f : Frm} (h : f.pos) {x y : Int} (hxy : x ≠ 0 ∨ y ≠ 0) : 1 ≤ f.wo x y := by
  obtain ⟨h1, h2⟩ := h
  have e := four_a f x y
  have s1 := sq_nonneg (2 * f.a * x + f.b * y)
  rcases Int.lt_or_le 0 (f.wo x y) with hw | hw
  · exact hw
  · exfalso
    have h3 := Int.mul_nonneg (show 0 ≤ f.a by omega) (show 0 ≤ -f.wo x y by omega)
    have e1 : f.a * -f.wo x y = -(f.a * f.wo x y) := by grind
    have e2 : 4 * f.a * f.wo x y = 4 * (f.a * f.wo x y) := by grind
    have s2 := Int.mul_nonneg (show 0 ≤ -f.gap by omega) (sq_nonneg y)
    have e3 : -f.gap * (y * y) = -(f.gap * (y * y)) := by grind
    have y0 : f.gap * (y * y) = 0 := by omega
    have hy : y = 0 := by
      rcases Int.mul_eq_zero.mp y0 with z | z
      · omega
      · rcases Int.mul_eq_zero.mp z with z | z <;> exact z
    subst hy
    have hx : x ≠ 0 := by rcases hxy with z | z; exact z; exact absurd rfl z
    have hx2 : 0 < x * x := by
      rcases Int.lt_or_eq_of_le (sq_nonneg x) with z | z
      · exact z
      · rcases Int.mul_eq_zero.mp z.symm with z | z <;> exact absurd z hx
    have : f.wo x 0 = f.a * (x * x) := by simp only [Frm.wo, worthF]; grind
    have := Int.mul_pos (show 0 < f.a by omega) hx2
    omega
theorem det_row {u : Chg} (h : u.det = 1) : u.p ≠ 0 ∨ u.q ≠ 0 := by
  rcases Decidable.em (u.p = 0) with z | z
  · right
    intro z2
    simp [Chg.det, z, z2] at h
  · exact .inl z
theorem pos_act {f : Frm} (h : f.pos) {u : Chg} (hu : u.det = 1) : (f.act u).pos := ⟨wo_pos h (det_row hu), by rw [gap_act, hu]; have := h.2; omega⟩
/-- what a reduced form is -/
structure Red (f : Frm) : Prop where
  lo : -f.a < f.b
  hi : f.b ≤ f.a
  ac : f.a ≤ f.c
  eq : f.a = f.c → 0 ≤ f.b
theorem red_iff {f : Frm} : f.red = true ↔ Red f := by
  unfold Frm.red redF
  simp only [Bool.and_eq_true, decide_eq_true_eq, Bool.not_eq_true', Bool.and_eq_false_iff, beq_eq_false_iff_ne, decide_eq_false_iff_not]
  constructor
  · rintro ⟨h1, h2, h3, h4⟩
    exact ⟨h1, h2, h3, fun e => by rcases h4 with z | z; exact absurd e z; omega⟩
  · rintro ⟨h1, h2, h3, h4⟩
    refine ⟨h1, h2, h3, ?_⟩
    by_cases e : f.a = f.c
    · exact .inr (by have := h4 e; omega)
    · exact .inl e
theorem big {f : Frm} (h : Red f) (ha : 1 ≤ f.a) {x y : Int} (hy : y ≠ 0) : f.c ≤ f.wo x y := by
  obtain ⟨lo, hi, ac, _⟩ := h
  -- signs away: u, v the absolute values
  have key : ∀ (B u v : Int), 0 ≤ B → B ≤ f.a → 0 ≤ u → 1 ≤ v → f.c ≤ f.a * u * u - B * u * v + f.c * v * v := by
    intro B u v h0 h1 hu hv
    rcases Int.lt_or_le u v with q | q
    · -- u < v
      have s1 : 0 ≤ f.a * (u * u) := Int.mul_nonneg (by omega) (sq_nonneg u)
      have s2 : 0 ≤ (f.c - B) * (u * v) := Int.mul_nonneg (by omega) (Int.mul_nonneg hu (by omega))
      have s3 : 0 ≤ f.c * (v * (v - u) - 1) := Int.mul_nonneg (by omega) (by
        have := Int.mul_le_mul (show (1 : Int) ≤ v from hv) (show (1 : Int) ≤ v - u by omega) (by decide) (by omega)
        omega)
      have e : f.a * u * u - B * u * v + f.c * v * v = f.a * (u * u) + (f.c - B) * (u * v) + f.c * (v * (v - u) - 1) + f.c := by grind
      omega
    · have s1 : 0 ≤ (f.a - B) * (u * v) := Int.mul_nonneg (by omega) (Int.mul_nonneg hu (by omega))
      have s2 : 0 ≤ f.a * (u * (u - v)) := Int.mul_nonneg (by omega) (Int.mul_nonneg hu (by omega))
      have s3 : 0 ≤ f.c * (v * v - 1) := Int.mul_nonneg (by omega) (by
        have := Int.mul_le_mul hv hv (by decide) (by omega)
        omega)
      have e : f.a * u * u - B * u * v + f.c * v * v = (f.a - B) * (u * v) + f.a * (u * (u - v)) + f.c * (v * v - 1) + f.c := by grind
      omega
  have go : ∀ (b u v : Int), (b = f.b ∨ b = -f.b) → 0 ≤ u → 1 ≤ v → f.c ≤ f.a * u * u + b * u * v + f.c * v * v := by
    intro b u v hb hu hv
    rcases Int.le_total 0 b with z | z
    · have := key 0 u v (by omega) (by omega) hu hv
      have s := Int.mul_nonneg (Int.mul_nonneg z hu) (show 0 ≤ v by omega)
      simp at this
      omega
    · have := key (-b) u v (by omega) (by omega) hu hv
      have e : -b * u * v = -(b * u * v) := by grind
      omega
  unfold Frm.wo worthF
  rcases Int.lt_or_lt_of_ne hy with z | z <;> rcases Int.le_total 0 x with w | w
  · have := go (-f.b) x (-y) (.inr rfl) w (by omega)
    have e : f.a * x * x + -f.b * x * -y + f.c * -y * -y = f.a * x * x + f.b * x * y + f.c * y * y := by grind
    omega
  · have := go f.b (-x) (-y) (.inl rfl) (by omega) (by omega)
    have e : f.a * -x * -x + f.b * -x * -y + f.c * -y * -y = f.a * x * x + f.b * x * y + f.c * y * y := by grind
    omega
  · have := go f.b x y (.inl rfl) w (by omega)
    omega
  · have := go (-f.b) (-x) y (.inr rfl) (by omega) (by omega)
    have e : f.a * -x * -x + -f.b * -x * y + f.c * y * y = f.a * x * x + f.b * x * y + f.c * y * y := by grind
    omega
theorem least {f : Frm} (h : Red f) (ha : 1 ≤ f.a) {x y : Int} (hxy : x ≠ 0 ∨ y ≠ 0) : f.a ≤ f.wo x y := by
  by_cases hy : y = 0
  · subst hy
    have hx : x ≠ 0 := by rcases hxy with z | z; exact z; exact absurd rfl z
    have e : f.wo x 0 = f.a * (x * x - 1) + f.a := by simp only [Frm.wo, worthF]; grind
    have hx2 : 0 < x * x := by
      rcases Int.lt_or_eq_of_le (sq_nonneg x) with z | z
      · exact z
      · rcases Int.mul_eq_zero.mp z.symm with z | z <;> exact absurd z hx
    have := Int.mul_nonneg (show 0 ≤ f.a by omega) (show 0 ≤ x * x - 1 by omega)
    omega
  · exact Int.le_trans h.ac (big h ha hy)
/-- two reduced forms of a class are one -/
theorem unique {f g : Frm} (hf : Red f) (hg : Red g) (pf : f.pos) {u : Chg} (hu : u.det = 1) (e : g = f.act u) : g = f := by
  have pg : g.pos := by rw [e]; exact pos_act pf hu
  have e2 : f = g.act u.inv := by rw [e, act_inv f u hu]
  have a1 : f.a ≤ g.a := by
    have := least hf pf.1 (det_row hu)
    rw [e]; exact this
  have a2 : g.a ≤ f.a := by
    have := least hg pg.1 (det_row (by rw [det_inv]; exact hu))
    rw [e2]; exact this
  have ea : g.a = f.a := by omega
  have gp : g.gap = f.gap := by rw [e, gap_act, hu]; omega
  have gp2 : g.b * g.b - 4 * g.a * g.c = f.b * f.b - 4 * f.a * f.c := gp
  have h1 := pf.1
  have fin : g.b = f.b → g = f := fun eb => by
    refine Frm.ext ea eb ?_
    rw [ea, eb] at gp2
    have : 4 * f.a * g.c = 4 * f.a * f.c := by omega
    exact Int.eq_of_mul_eq_mul_left (show 4 * f.a ≠ 0 by omega) this
  by_cases hq : u.q = 0
  · -- the first row is (1, 0) or (-1, 0)
    have hps : u.p * u.s = 1 := by
      have := hu
      simp only [Chg.det, hq] at this
      omega
    apply fin
    have eb : g.b = f.b + f.a * (2 * (u.p * u.r)) := by
      rw [e]
      simp only [Frm.act, midF, hq]
      have : f.b * (u.p * u.s + 0 * u.r) = f.b := by rw [hps]; grind
      grind
    generalize u.p * u.r = k at eb
    have h2 := hf.lo; have h3 := hf.hi; have h4 := hg.lo; have h5 := hg.hi
    rw [ea] at h4 h5
    rcases Int.lt_trichotomy k 0 with z | z | z
    · have := Int.mul_le_mul_of_nonneg_left (show 2 * k ≤ -2 by omega) (show 0 ≤ f.a by omega)
      omega
    · subst z; simpa using eb
    · have := Int.mul_le_mul_of_nonneg_left (show 2 ≤ 2 * k by omega) (show 0 ≤ f.a by omega)
      omega
  · -- a = c
    have hc : f.c ≤ f.a := by
      have := big hf pf.1 (x := u.p) hq
      have e3 : f.wo u.p u.q = g.a := by rw [e]; rfl
      omega
    have hac := hf.ac
    have fa : f.a = f.c := by omega
    have hc2 : g.c ≤ f.a := by
      have := big hg pg.1 (x := u.inv.p) (y := u.inv.q) (by simp only [Chg.inv]; omega)
      have e3 : g.wo u.inv.p u.inv.q = f.a := by
        have : (g.act u.inv).a = f.a := by rw [← e2]
        exact this
      omega
    have hg2 := hg.ac
    have ga : g.a = g.c := by omega
    have b1 := hf.eq fa
    have b2 := hg.eq ga
    apply fin
    have ec : g.c = f.c := by omega
    rw [ea, ec] at gp2
    have e4 : (g.b - f.b) * (g.b + f.b) = 0 := by grind
    rcases Int.mul_eq_zero.mp e4 with z | z <;> omega
end K11
/-! k11, part D: two_reduced. -/
namespace K11
open PySem DL
variable {M : Store}
def eF (f : Frm) : D := eRow [f.a, f.b, f.c]
def eC (u : Chg) : D := eTab [[u.p, u.q], [u.r, u.s]]
/-- within 10 ^ 14 -/
structure Bd (f : Frm) : Prop where
  a : f.a ≤ 10 ^ 14
  b1 : -(10 ^ 14) ≤ f.b
  b2 : f.b ≤ 10 ^ 14
  c : f.c ≤ 10 ^ 14
theorem sq_lt {x N : Int} (hN : 0 ≤ N) (h : N < x) : N * N < x * x := by
  have := Int.mul_le_mul (show N + 1 ≤ x from h) (show N + 1 ≤ x from h) (by omega) (by omega)
  have e : (N + 1) * (N + 1) = N * N + 2 * N + 1 := by grind
  omega
theorem sq_le {x N : Int} (hN : 0 ≤ N) (h : x * x ≤ N * N) : -N ≤ x ∧ x ≤ N := by
  constructor
  · rcases Int.lt_or_le x (-N) with z | z
    · have := sq_lt hN (show N < -x by omega)
      have e : -x * -x = x * x := by grind
      omega
    · exact z
  · rcases Int.lt_or_le N x with z | z
    · have := sq_lt hN z
      omega
    · exact z
theorem ent_le {g B A W y R : Int} (hB : B = 10 ^ 14) (hg : g < 0) (hA : 0 ≤ A) (hA2 : A ≤ B) (hW : 0 ≤ W) (hW2 : W ≤ B) (h : 4 * A * W = R * R - g * (y * y)) : -(2 * B) ≤ y ∧ y ≤ 2 * B := by
  apply sq_le (by omega)
  have s1 := sq_nonneg R
  have s2 := sq_nonneg y
  have s3 := Int.mul_nonneg (show 0 ≤ -g - 1 by omega) s2
  have e1 : (-g - 1) * (y * y) = -(g * (y * y)) - y * y := by grind
  have s4 : A * W ≤ B * B := Int.mul_le_mul hA2 hW2 hW (by omega)
  have e2 : 4 * A * W = 4 * (A * W) := by grind
  have e3 : 2 * B * (2 * B) = 4 * (B * B) := by grind
  omega
theorem ent_sm {f : Frm} {u : Chg} (hp : f.pos) (hb : Bd f) (hu : u.det = 1) (hb2 : Bd (f.act u)) : Sm u.p ∧ Sm u.q ∧ Sm u.r ∧ Sm u.s := by
  have hc := pos_c hp
  have hp2 := pos_act hp hu
  have hc2 := pos_c hp2
  have t : ∀ {y : Int}, -(2 * 10 ^ 14) ≤ y ∧ y ≤ 2 * 10 ^ 14 → Sm y := fun {y} h => ⟨by omega, by omega⟩
  have ha := hp.1
  have ha2 := hp2.1
  refine ⟨t (ent_le rfl hp.2 (by omega) hb.c (W := (f.act u).a) (by omega) hb2.a (four_c f u.p u.q)), t (ent_le rfl hp.2 (by omega) hb.a (W := (f.act u).a) (by omega) hb2.a (four_a f u.p u.q)),
    t (ent_le rfl hp.2 (by omega) hb.c (W := (f.act u).c) (by omega) hb2.c (four_c f u.r u.s)), t (ent_le rfl hp.2 (by omega) hb.a (W := (f.act u).c) (by omega) hb2.c (four_a f u.r u.s))⟩
def swapC : Chg := ⟨0, 1, -1, 0⟩
def shiftC (k : Int) : Chg := ⟨1, 0, k, 1⟩
def kOf (g : Frm) : Int := (g.a - g.b) / (2 * g.a)
theorem act_swap (g : Frm) : g.act swapC = ⟨g.c, -g.b, g.a⟩ := by
  apply Frm.ext <;> simp [Frm.act, Frm.wo, worthF, midF, swapC]
theorem act_shift (g : Frm) (k : Int) : g.act (shiftC k) = ⟨g.a, g.b + 2 * k * g.a, g.c + k * g.b + k * k * g.a⟩ := by
  apply Frm.ext <;> simp only [Frm.act, Frm.wo, worthF, midF, shiftC] <;> grind
def stepC (g : Frm) : Chg := if g.c < g.a ∨ (g.a = g.c ∧ g.b < 0) then swapC else shiftC (kOf g)
def mu (g : Frm) : Nat := (4 * g.a + (if -g.a < g.b ∧ g.b ≤ g.a then 0 else 2) + (if g.a = g.c ∧ g.b < 0 then 1 else 0)).toNat
theorem shift_in {g : Frm} (ha : 1 ≤ g.a) : -g.a < g.b + 2 * kOf g * g.a ∧ g.b + 2 * kOf g * g.a ≤ g.a := by
  unfold kOf
  have h1 := Int.mul_ediv_add_emod (g.a - g.b) (2 * g.a)
  have h2 := Int.emod_nonneg (g.a - g.b) (show 2 * g.a ≠ 0 by omega)
  have h3 := Int.emod_lt_of_pos (g.a - g.b) (show 0 < 2 * g.a by omega)
  generalize (g.a - g.b) / (2 * g.a) = k at *
  generalize (g.a - g.b) % (2 * g.a) = m at *
  have e : 2 * g.a * k = 2 * k * g.a := by grind
  omega
theorem det_step (g : Frm) : (stepC g).det = 1 := by
  unfold stepC
  split <;> simp [Chg.det, swapC, shiftC]
/-- a turn keeps the bounds and comes down -/
theorem step_ok {g : Frm} (hp : g.pos) (hb : Bd g) (hn : ¬ Red g) : Bd (g.act (stepC g)) ∧ mu (g.act (stepC g)) < mu g ∧ Sm (kOf g) := by
  have ha := hp.1
  have hc := pos_c hp
  have hk : Sm (kOf g) := by
    have h1 := shift_in (g := g) ha
    have b1 := hb.b1
    have b2 := hb.b2
    have h3 := hb.a
    generalize kOf g = k at *
    have e : 2 * k * g.a = 2 * (k * g.a) := by grind
    have : -(10 ^ 14) ≤ k * g.a ∧ k * g.a ≤ 10 ^ 14 := by omega
    rcases Int.le_total 0 k with z | z
    · have := Int.mul_le_mul_of_nonneg_left ha z
      exact ⟨by omega, by omega⟩
    · have := Int.mul_le_mul_of_nonneg_left ha (show 0 ≤ -k by omega)
      have e2 : -k * g.a = -(k * g.a) := by grind
      exact ⟨by omega, by omega⟩
  refine ⟨?_, ?_, hk⟩
  · unfold stepC
    split
    · rw [act_swap]
      exact ⟨hb.c, by have := hb.b2; simp only; omega, by have := hb.b1; simp only; omega, hb.a⟩
    · rename_i hs
      have hi := shift_in (g := g) ha
      have hout : ¬ (-g.a < g.b ∧ g.b ≤ g.a) := fun z => hn ⟨z.1, z.2, by omega, fun e => by omega⟩
      have hp2 : (g.act (shiftC (kOf g))).pos := pos_act hp (by simp [Chg.det, shiftC])
      have hc2 := pos_c hp2
      have hgp : (g.act (shiftC (kOf g))).gap = g.gap := by rw [gap_act]; simp [Chg.det, shiftC]
      rw [act_shift] at hc2 hgp ⊢
      generalize kOf g = k at *
      have hgp2 : (g.b + 2 * k * g.a) * (g.b + 2 * k * g.a) - 4 * g.a * (g.c + k * g.b + k * k * g.a) = g.b * g.b - 4 * g.a * g.c := hgp
      simp only at hc2
      generalize g.b + 2 * k * g.a = b' at *
      generalize g.c + k * g.b + k * k * g.a = c' at *
      have hA := hb.a; have hB1 := hb.b1; have hB2 := hb.b2; have hC := hb.c
      refine ⟨hA, by simp only; omega, by simp only; omega, ?_⟩
      -- c' ≤ c
      have hbb : b' * b' ≤ g.b * g.b := by
        have h1 : b' * b' ≤ g.a * g.a := by
          have := Int.mul_nonneg (show 0 ≤ g.a - b' by omega) (show 0 ≤ g.a + b' by omega)
          have e : (g.a - b') * (g.a + b') = g.a * g.a - b' * b' := by grind
          omega
        have h2 : g.a * g.a ≤ g.b * g.b := by
          rcases Decidable.em (-g.a < g.b) with z | z
          · exact Int.mul_le_mul (show g.a ≤ g.b by omega) (show g.a ≤ g.b by omega) (by omega) (by omega)
          · have := Int.mul_le_mul (show g.a ≤ -g.b by omega) (show g.a ≤ -g.b by omega) (by omega) (by omega)
            have e : -g.b * -g.b = g.b * g.b := by grind
            omega
        omega
      have h4 : g.a * c' ≤ g.a * g.c := by
        have e1 : 4 * g.a * c' = 4 * (g.a * c') := by grind
        have e2 : 4 * g.a * g.c = 4 * (g.a * g.c) := by grind
        omega
      have h5 : c' ≤ g.c := Int.le_of_mul_le_mul_left h4 (by omega)
      simp only
      omega
  · unfold stepC
    split
    · rename_i hs
      rw [act_swap]
      unfold mu
      simp only
      rcases hs with hs | hs <;> (repeat' split) <;> omega
    · rename_i hs
      have hi := shift_in (g := g) ha
      have hout : ¬ (-g.a < g.b ∧ g.b ≤ g.a) := fun z => hn ⟨z.1, z.2, by omega, fun e => by omega⟩
      rw [act_shift]
      unfold mu
      simp only
      rw [if_pos hi, if_neg hout]
      (repeat' split) <;> omega
theorem product_step {g : Frm} {u : Chg} (hk : Sm (kOf g)) : m_product [eC (stepC g), eC u] M = some (.ok (eC ((stepC g).mul u)), M) := by
  have one : ∀ x : Int, mulC 1 x = true := fun x => mulC_l (by decide) (by decide)
  have zer : ∀ x : Int, mulC 0 x = true := fun x => mulC_l (by decide) (by decide)
  have neg : ∀ x : Int, mulC (-1) x = true := fun x => mulC_l (by decide) (by decide)
  unfold stepC
  split
  · exact product_is (zer _) (one _) (zer _) (one _) (neg _) (zer _) (neg _) (zer _)
  · exact product_is (one _) (zer _) (one _) (zer _) hk.l (one _) hk.l (one _)
theorem changed_is {g : Frm} {u : Chg} (hb : Sm g.b) (hu : Sm u.p ∧ Sm u.q ∧ Sm u.r ∧ Sm u.s) : m_two_changed [eF g, eC u] M = some (.ok (eF (g.act u)), M) :=
  two_changed_is hb hu.1 hu.2.1 hu.2.2.1 hu.2.2.2
theorem sm0 : Sm 0 := ⟨by decide, by decide⟩
theorem sm1 : Sm 1 := ⟨by decide, by decide⟩
theorem smN : Sm (-1) := ⟨by decide, by decide⟩
theorem sm_step {g : Frm} (hk : Sm (kOf g)) : Sm (stepC g).p ∧ Sm (stepC g).q ∧ Sm (stepC g).r ∧ Sm (stepC g).s := by
  unfold stepC
  split
  · exact ⟨sm0, sm1, smN, sm0⟩
  · exact ⟨sm1, sm0, hk, sm1⟩
end K11
/-! k11, part E: two_reduced, its loop. -/
namespace K11
open PySem DL
variable {M : Store}
noncomputable def tstR : TF := tNotC (cTru (cCall m_is_two_reduced (aCons (cVar 0) aNil)))
noncomputable def bodR : SF := (sSeq (sAsg (cVar 0) (gTupC 3 (gConsC (gN 2) (gConsC (gN 3) (gConsC (gN 4) gNilC))))) (sSeq (sIf (tOrC (cTru (cOp gGt (cVar 2) (cVar 4))) (tAndC (cTru (cOp (gEq false) (cVar 2) (cVar 4))) (cTru (cOp gLt (cVar 3) (cC (.int 0)))))) (sAsg (cTup (aCons (cTup (aCons (cC (.int 0)) (aCons (cC (.int 1)) aNil))) (aCons (cTup (aCons (cUn gNeg (cC (.int 1))) (aCons (cC (.int 0)) aNil))) aNil))) (gN 5)) (sAsg (cTup (aCons (cTup (aCons (cC (.int 1)) (aCons (cC (.int 0)) aNil))) (aCons (cTup (aCons (cOp gDiv (cOp gSub (cVar 2) (cVar 3)) (cOp gMul (cC (.int 2)) (cVar 2))) (aCons (cC (.int 1)) aNil))) aNil))) (gN 5))) (sSeq (sAsg (cCall m_product (aCons (cVar 5) (aCons (cVar 1) aNil))) (gN 1)) (sAsg (cCall m_two_changed (aCons (cVar 0) (aCons (cVar 5) aNil))) (gN 0)))))
theorem f_two_reduced_eq : f_two_reduced = sSeq (sExpr (cCall m_check_two (aCons (cVar 0) aNil))) (sSeq (sAsg (cC k_UNIT) (gN 1)) (sSeq (sWhile tstR bodR) (sRet (cTup (aCons (cVar 0) (aCons (cVar 1) aNil)))))) := rfl
theorem is_red_is {g : Frm} : m_is_two_reduced [eF g] M = some (.ok (.bl g.red), M) := is_two_reduced_is
theorem bod_is {g : Frm} {u : Chg} {x2 x3 x4 x5 : Option D} (hp : g.pos) (hb : Bd g) (hk : Sm (kOf g)) :
    bodR [some (eF g), some (eC u), x2, x3, x4, x5] M = some (.nx [some (eF (g.act (stepC g))), some (eC ((stepC g).mul u)), some (.int g.a), some (.int g.b), some (.int g.c), some (eC (stepC g))], M) := by
  have hd : ∀ y : Int, divC y (2 * g.a) = true := fun y => divC_of (by have := hp.1; omega) (by
    have := hb.a
    have : (2 : Int) * 10 ^ 14 < 2 ^ 200 := by decide
    omega)
  have hsb : Sm g.b := ⟨by have := hb.b1; omega, by have := hb.b2; omega⟩
  have h1 := product_step (M := M) (u := u) hk
  have h2 := changed_is (M := M) hsb (sm_step hk)
  have h0 : sAsg (cVar 0) (gTupC 3 (gConsC (gN 2) (gConsC (gN 3) (gConsC (gN 4) gNilC)))) [some (eF g), some (eC u), x2, x3, x4, x5] M = some (.nx [some (eF g), some (eC u), some (.int g.a), some (.int g.b), some (.int g.c), x5], M) := by
    simp [eF]
  unfold bodR
  rw [sSeq_nx h0]
  have h3 : sIf (tOrC (cTru (cOp gGt (cVar 2) (cVar 4))) (tAndC (cTru (cOp (gEq false) (cVar 2) (cVar 4))) (cTru (cOp gLt (cVar 3) (cC (.int 0)))))) (sAsg (cTup (aCons (cTup (aCons (cC (.int 0)) (aCons (cC (.int 1)) aNil))) (aCons (cTup (aCons (cUn gNeg (cC (.int 1))) (aCons (cC (.int 0)) aNil))) aNil))) (gN 5)) (sAsg (cTup (aCons (cTup (aCons (cC (.int 1)) (aCons (cC (.int 0)) aNil))) (aCons (cTup (aCons (cOp gDiv (cOp gSub (cVar 2) (cVar 3)) (cOp gMul (cC (.int 2)) (cVar 2))) (aCons (cC (.int 1)) aNil))) aNil))) (gN 5))
      [some (eF g), some (eC u), some (.int g.a), some (.int g.b), some (.int g.c), x5] M = some (.nx [some (eF g), some (eC u), some (.int g.a), some (.int g.b), some (.int g.c), some (eC (stepC g))], M) := by
    unfold stepC
    by_cases q1 : g.c < g.a
    · simp [q1, eC, swapC, eTab, eRow]
    · by_cases q2 : g.a = g.c
      · by_cases q3 : g.b < 0
        · simp [q2, q3, eC, swapC, eTab, eRow]
        · simp [q1, q2, q3, eC, shiftC, kOf, eTab, eRow, m2, show ∀ y : Int, divC y (2 * g.c) = true from fun y => by rw [← q2]; exact hd y]
      · simp [q1, q2, hd, m2, eC, shiftC, kOf, eTab, eRow]
  rw [sSeq_nx h3]
  simp [h1, h2]
theorem loopR {f : Frm} (hp : f.pos) (hb0 : Bd f) : ∀ (n : Nat) (u : Chg) (x2 x3 x4 x5 : Option D), u.det = 1 → Bd (f.act u) → mu (f.act u) = n →
    ∃ v y2 y3 y4 y5, v.det = 1 ∧ Red (f.act v) ∧ Bd (f.act v) ∧ sWhile tstR bodR [some (eF (f.act u)), some (eC u), x2, x3, x4, x5] M = some (.nx [some (eF (f.act v)), some (eC v), y2, y3, y4, y5], M) := by
  intro n
  induction n using Nat.strongRecOn with
  | _ n ih =>
    intro u x2 x3 x4 x5 hu hb hn
    have hpg := pos_act hp hu
    by_cases hr : Red (f.act u)
    · refine ⟨u, x2, x3, x4, x5, hu, hr, hb, sWhile_stop (M1 := M) ?_⟩
      simp [tstR, is_red_is, red_iff.mpr hr]
    · obtain ⟨s1, s2, s3⟩ := step_ok hpg hb hr
      have hnr : (f.act u).red = false := by
        cases q : (f.act u).red with
        | false => rfl
        | true => exact absurd (red_iff.mp q) hr
      have hdet : ((stepC (f.act u)).mul u).det = 1 := by rw [det_mul, det_step, hu]; rfl
      rw [act_act] at s1 s2
      obtain ⟨v, y2, y3, y4, y5, h1, h2, h3, h4⟩ := ih _ (by omega) ((stepC (f.act u)).mul u) _ _ _ _ hdet s1 rfl
      refine ⟨v, y2, y3, y4, y5, h1, h2, h3, sWhile_more (M1 := M) (M2 := M) ?_ (bod_is hpg hb s3) ?_⟩
      · simp [tstR, is_red_is, hnr]
      · rw [act_act]; exact h4
theorem two_reduced_is {f : Frm} (hp : f.pos) (hb : Bd f) (h1 : gcdL [f.a, f.b, f.c] = 1) :
    ∃ v, v.det = 1 ∧ Red (f.act v) ∧ Bd (f.act v) ∧ m_two_reduced [eF f] M = some (.ok (.tup [eF (f.act v), eC v]), M) := by
  obtain ⟨v, y2, y3, y4, y5, e1, e2, e3, e4⟩ := loopR (M := M) hp hb _ .one none none none none rfl (by rw [act_one]; exact hb) rfl
  rw [act_one] at e4
  refine ⟨v, e1, e2, e3, ?_⟩
  have hsb : Sm f.b := ⟨by have := hb.b1; omega, by have := hb.b2; omega⟩
  have hsc : Sm f.c := ⟨by have := pos_c hp; omega, by have := hb.c; omega⟩
  have hc : m_check_two [eF f] M = some (.ok .non, M) := check_two_is hsb hsc hp.2 hp.1 h1
  unfold m_two_reduced
  rw [mDef_1, f_two_reduced_eq]
  have e0 : (k_UNIT : D) = eC .one := rfl
  simp [hc, e0, e4]
  exact gcF_ok0 (by simp [eF, eC]) rfl
end K11
/-! k11, part F: digits, draws, changes. -/
namespace K11
open PySem DL
variable {M : Store}
@[simp] theorem setLast {x y : List D} : (M ++ [x]).set M.length y = M ++ [y] := by
  rw [List.set_append_right _ _ (Nat.le_refl _)]
  simp
theorem szOk_of {n : Nat} (h : n ≤ 16777216) : szOk n = true := decide_eq_true h
theorem gcF_any {M' : Store} {d : D} (t : Tidy M M') (h : clo M.length d = true) (hn : notCel d = true) : gcF M (some (.ok d, M')) = some (.ok d, M'.take M.length) := by
  unfold gcF
  dsimp only
  rw [if_pos t]
  cases d <;> first | exact absurd hn Bool.false_ne_true | exact if_pos h
theorem tidy_set {c : Nat} {es : List D} (h : clos M.length es = true) : Tidy M (M.set c es) := by
  intro j ds hj q
  by_cases e : j = c
  · subst e
    rw [List.getElem?_set_self hj] at q
    cases q
    exact .inr h
  · rw [List.getElem?_set_ne (Ne.symm e)] at q
    exact .inl q
theorem gcF_set {c : Nat} {es : List D} {d : D} (he : clos M.length es = true) (h : clo M.length d = true) (hn : notCel d = true) : gcF M (some (.ok d, M.set c es)) = some (.ok d, M.set c es) := by
  rw [gcF_any (tidy_set he) h hn]
  congr 2
  exact List.take_of_length_le (by simp)
theorem clos_ints {n : Nat} {r : List Int} : clos n (r.map D.int) = true := clos_map fun _ => rfl
theorem cell_is {ns : List Int} {k : Int} (h : 0 ≤ k) : ∃ c : Int, m_l_cell [.scr (ns.map .int), .int k] M = some (.ok (.int c), M) := by
  unfold m_l_cell f_l_cell
  by_cases q : k < ns.length
  · obtain ⟨j, rfl⟩ : ∃ j : Nat, k = j := ⟨k.toNat, by omega⟩
    have hj : j < ns.length := by omega
    have e : L2.atI (ns.map D.int) (j : Int) = some (D.int ns[j]) := by
      rw [atI_nat (by simpa using hj)]
      simp
    exact ⟨ns[j], by simp [q, e]⟩
  · exact ⟨0, by simp [q]⟩
theorem fin_in60 {a0 a1 a2 a4 a5 a8 : Option D} (l : List Int) : ∀ (acc : List Int) (n : Int) (x7 : Option D), acc.length + l.length ≤ 100000 →
    ∃ (acc' : List Int) (n' : Int) (y7 : Option D), acc'.length ≤ acc.length + l.length ∧ fLoop (gN 7) (sIf (cTru (cOp gGt (cVar 6) (cC (.int 0)))) (sSeq (sExpr (cApp (cVar 3) (cOp gMod (cVar 6) (cC (.int 1009))))) (sAsg (cOp gDiv (cVar 6) (cC (.int 1009))) (gN 6))) sSkip) (l.map D.int)
      [a0, a1, a2, some (.cel M.length), a4, a5, some (.int n), x7, a8] (M ++ [acc.map D.int]) = some (.nx [a0, a1, a2, some (.cel M.length), a4, a5, some (.int n'), y7, a8], M ++ [acc'.map D.int]) := by
  induction l with
  | nil => exact fun acc n x7 _ => ⟨acc, n, x7, by simp, rfl⟩
  | cons i l ih =>
    intro acc n x7 h
    rw [List.length_cons] at h
    by_cases q : 0 < n
    · obtain ⟨acc', n', y7, h1, h2⟩ := ih (acc ++ [n % 1009]) (n / 1009) (some (.int i)) (by simp; omega)
      refine ⟨acc', n', y7, by simp at h1 ⊢; omega, ?_⟩
      rw [List.map_cons, fLoop_cons]
      simp [q, modC, szOk_of (show acc.length + 1 ≤ 16777216 by omega), show ∀ y : Int, divC y 1009 = true from fun y => divC_of (by decide) (by decide)]
      simpa using h2
    · obtain ⟨acc', n', y7, h1, h2⟩ := ih acc n (some (.int i)) (by omega)
      refine ⟨acc', n', y7, by simp at h1 ⊢; omega, ?_⟩
      rw [List.map_cons, fLoop_cons]
      simp [q]
      exact h2
theorem fin_in12 {a0 a1 a2 a4 a5 a6 : Option D} (l : List Int) : ∀ (acc : List Int) (s : Int) (x7 : Option D), (∀ i ∈ l, 0 ≤ i ∧ i ≤ 100) → acc.length + l.length ≤ 100000 →
    ∃ (acc' : List Int) (s' : Int) (y7 : Option D), acc'.length ≤ acc.length + l.length ∧ fLoop (gN 7) (sSeq (sAsg (cOp gMod (cOp gAddA (cOp gAddA (cOp gMul (cVar 8) (cC (.int 16807))) (cOp gMul (cVar 7) (cC (.int 7)))) (cC (.int 1))) (cC (.int 2147483647))) (gN 8)) (sExpr (cApp (cVar 3) (cOp gMod (cOp gDiv (cVar 8) (cC (.int 997))) (cC (.int 1009)))))) (l.map D.int)
      [a0, a1, a2, some (.cel M.length), a4, a5, a6, x7, some (.int s)] (M ++ [acc.map D.int]) = some (.nx [a0, a1, a2, some (.cel M.length), a4, a5, a6, y7, some (.int s')], M ++ [acc'.map D.int]) := by
  induction l with
  | nil => exact fun acc n x7 _ _ => ⟨acc, n, x7, by simp, rfl⟩
  | cons i l ih =>
    intro acc s x7 hi h
    rw [List.length_cons] at h
    obtain ⟨acc', n', y7, h1, h2⟩ := ih (acc ++ [(s * 16807 + i * 7 + 1) % 2147483647 / 997 % 1009]) ((s * 16807 + i * 7 + 1) % 2147483647) (some (.int i)) (fun j hj => hi j (List.mem_cons_of_mem _ hj)) (by simp; omega)
    refine ⟨acc', n', y7, by simp at h1 ⊢; omega, ?_⟩
    rw [List.map_cons, fLoop_cons]
    simp [modC, szOk_of (show acc.length + 1 ≤ 16777216 by omega), show ∀ y : Int, divC y 997 = true from fun y => divC_of (by decide) (by decide), show ∀ y : Int, mulC y 16807 = true from fun y => mulC_r (by decide) (by decide), show ∀ y : Int, mulC y 7 = true from fun y => mulC_r (by decide) (by decide)]
    simpa using h2
theorem smI_60 : smI 60 = true := by decide
theorem digits_loop {ns : List Int} {a1 a2 : Option D} (l : List Int) : ∀ (acc : List Int) (x4 x5 x6 x7 x8 : Option D), (∀ i ∈ l, 0 ≤ i) → acc.length + 60 * l.length ≤ 100000 →
    ∃ (acc' : List Int) (y4 y5 y6 y7 y8 : Option D), fLoop (gN 4) (sSeq (sAsg (cCall m_l_cell (aCons (cVar 0) (aCons (cVar 4) aNil))) (gN 5)) (sSeq (sIf (cTru (cOp gLt (cVar 5) (cC (.int 0)))) (sAsg (cOp gSub (cC (.int 1)) (cOp gMul (cVar 5) (cC (.int 2)))) (gN 5)) sSkip) (sIf (cTru (cOp gGe (cVar 5) (cOp gPow (cC (.int 10)) (cC (.int 18))))) (sSeq (sAsg (cVar 5) (gN 6)) (sFor (iRng1C (aCons (cC (.int 60)) aNil)) (gN 7) (sIf (cTru (cOp gGt (cVar 6) (cC (.int 0)))) (sSeq (sExpr (cApp (cVar 3) (cOp gMod (cVar 6) (cC (.int 1009))))) (sAsg (cOp gDiv (cVar 6) (cC (.int 1009))) (gN 6))) sSkip))) (sSeq (sAsg (cOp gMod (cOp gAddA (cOp gAddA (cOp gMul (cVar 5) (cC (.int 48271))) (cOp gMul (cCall gInt (aCons (cOp gAddA (cVar 4) (cC (.int 1))) aNil)) (cC (.int 69621)))) (cC (.int 11))) (cC (.int 2147483647))) (gN 8)) (sFor (iRng1C (aCons (cC (.int 12)) aNil)) (gN 7) (sSeq (sAsg (cOp gMod (cOp gAddA (cOp gAddA (cOp gMul (cVar 8) (cC (.int 16807))) (cOp gMul (cVar 7) (cC (.int 7)))) (cC (.int 1))) (cC (.int 2147483647))) (gN 8)) (sExpr (cApp (cVar 3) (cOp gMod (cOp gDiv (cVar 8) (cC (.int 997))) (cC (.int 1009))))))))))) (l.map D.int)
      [some (.scr (ns.map .int)), a1, a2, some (.cel M.length), x4, x5, x6, x7, x8] (M ++ [acc.map D.int]) = some (.nx [some (.scr (ns.map .int)), a1, a2, some (.cel M.length), y4, y5, y6, y7, y8], M ++ [acc'.map D.int]) := by
  induction l with
  | nil => exact fun acc x4 x5 x6 x7 x8 _ _ => ⟨acc, x4, x5, x6, x7, x8, rfl⟩
  | cons i l ih =>
    intro acc x4 x5 x6 x7 x8 hi h
    rw [List.length_cons] at h
    obtain ⟨c, hc⟩ := cell_is (M := M ++ [acc.map D.int]) (ns := ns) (hi i List.mem_cons_self)
    -- the cell, made at least 0
    have hif : ∃ c' : Int, sIf (cTru (cOp gLt (cVar 5) (cC (.int 0)))) (sAsg (cOp gSub (cC (.int 1)) (cOp gMul (cVar 5) (cC (.int 2)))) (gN 5)) sSkip [some (.scr (ns.map .int)), a1, a2, some (.cel M.length), some (.int i), some (.int c), x6, x7, x8] (M ++ [acc.map D.int]) =
        some (.nx [some (.scr (ns.map .int)), a1, a2, some (.cel M.length), some (.int i), some (.int c'), x6, x7, x8], M ++ [acc.map D.int]) := by
      by_cases q : c < 0
      · exact ⟨1 - c * 2, by simp [q, show ∀ y : Int, mulC y 2 = true from fun y => mulC_r (by decide) (by decide)]⟩
      · exact ⟨c, by simp [q]⟩
    obtain ⟨c', hif⟩ := hif
    have hpw : powC 10 18 = true := by decide
    rw [List.map_cons, fLoop_cons]
    by_cases q : (1000000000000000000 : Int) ≤ c'
    · obtain ⟨acc1, n1, y7, l1, e1⟩ := fin_in60 (M := M) (a0 := some (.scr (ns.map .int))) (a1 := a1) (a2 := a2) (a4 := some (.int i)) (a5 := some (.int c')) (a8 := x8) (rgI 0 60) acc c' x7 (by simp [rgI]; omega)
      have hl : (rgI 0 60).length = 60 := by simp [rgI]
      obtain ⟨acc2, z4, z5, z6, z7, z8, e2⟩ := ih acc1 (some (.int i)) (some (.int c')) (some (.int n1)) y7 x8 (fun j hj => hi j (List.mem_cons_of_mem _ hj)) (by omega)
      refine ⟨acc2, z4, z5, z6, z7, z8, ?_⟩
      rw [← e2]
      have hstep : sSeq (sAsg (cCall m_l_cell (aCons (cVar 0) (aCons (cVar 4) aNil))) (gN 5)) (sSeq (sIf (cTru (cOp gLt (cVar 5) (cC (.int 0)))) (sAsg (cOp gSub (cC (.int 1)) (cOp gMul (cVar 5) (cC (.int 2)))) (gN 5)) sSkip) (sIf (cTru (cOp gGe (cVar 5) (cOp gPow (cC (.int 10)) (cC (.int 18))))) (sSeq (sAsg (cVar 5) (gN 6)) (sFor (iRng1C (aCons (cC (.int 60)) aNil)) (gN 7) (sIf (cTru (cOp gGt (cVar 6) (cC (.int 0)))) (sSeq (sExpr (cApp (cVar 3) (cOp gMod (cVar 6) (cC (.int 1009))))) (sAsg (cOp gDiv (cVar 6) (cC (.int 1009))) (gN 6))) sSkip))) (sSeq (sAsg (cOp gMod (cOp gAddA (cOp gAddA (cOp gMul (cVar 5) (cC (.int 48271))) (cOp gMul (cCall gInt (aCons (cOp gAddA (cVar 4) (cC (.int 1))) aNil)) (cC (.int 69621)))) (cC (.int 11))) (cC (.int 2147483647))) (gN 8)) (sFor (iRng1C (aCons (cC (.int 12)) aNil)) (gN 7) (sSeq (sAsg (cOp gMod (cOp gAddA (cOp gAddA (cOp gMul (cVar 8) (cC (.int 16807))) (cOp gMul (cVar 7) (cC (.int 7)))) (cC (.int 1))) (cC (.int 2147483647))) (gN 8)) (sExpr (cApp (cVar 3) (cOp gMod (cOp gDiv (cVar 8) (cC (.int 997))) (cC (.int 1009)))))))))) [some (.scr (ns.map .int)), a1, a2, some (.cel M.length), some (.int i), x5, x6, x7, x8] (M ++ [acc.map D.int]) =
          some (.nx [some (.scr (ns.map .int)), a1, a2, some (.cel M.length), some (.int i), some (.int c'), some (.int n1), y7, x8], M ++ [acc1.map D.int]) := by
        rw [sSeq_nx (en1 := [some (.scr (ns.map .int)), a1, a2, some (.cel M.length), some (.int i), some (.int c), x6, x7, x8]) (M1 := M ++ [acc.map D.int]) (by simp [hc]), sSeq_nx hif]
        simp [hpw, q, smI_60, rgD_eq, e1]
      simp only [gN_e, List.set_cons_succ, List.set_cons_zero, hstep]
    · obtain ⟨acc1, n1, y7, l1, e1⟩ := fin_in12 (M := M) (a0 := some (.scr (ns.map .int))) (a1 := a1) (a2 := a2) (a4 := some (.int i)) (a5 := some (.int c')) (a6 := x6) (rgI 0 12) acc ((c' * 48271 + (i + 1) * 69621 + 11) % 2147483647) x7 (fun j hj => by have := mem_rgI.mp hj; omega) (by simp [rgI]; omega)
      have hl : (rgI 0 12).length = 12 := by simp [rgI]
      obtain ⟨acc2, z4, z5, z6, z7, z8, e2⟩ := ih acc1 (some (.int i)) (some (.int c')) x6 y7 (some (.int n1)) (fun j hj => hi j (List.mem_cons_of_mem _ hj)) (by omega)
      refine ⟨acc2, z4, z5, z6, z7, z8, ?_⟩
      rw [← e2]
      have hstep : sSeq (sAsg (cCall m_l_cell (aCons (cVar 0) (aCons (cVar 4) aNil))) (gN 5)) (sSeq (sIf (cTru (cOp gLt (cVar 5) (cC (.int 0)))) (sAsg (cOp gSub (cC (.int 1)) (cOp gMul (cVar 5) (cC (.int 2)))) (gN 5)) sSkip) (sIf (cTru (cOp gGe (cVar 5) (cOp gPow (cC (.int 10)) (cC (.int 18))))) (sSeq (sAsg (cVar 5) (gN 6)) (sFor (iRng1C (aCons (cC (.int 60)) aNil)) (gN 7) (sIf (cTru (cOp gGt (cVar 6) (cC (.int 0)))) (sSeq (sExpr (cApp (cVar 3) (cOp gMod (cVar 6) (cC (.int 1009))))) (sAsg (cOp gDiv (cVar 6) (cC (.int 1009))) (gN 6))) sSkip))) (sSeq (sAsg (cOp gMod (cOp gAddA (cOp gAddA (cOp gMul (cVar 5) (cC (.int 48271))) (cOp gMul (cCall gInt (aCons (cOp gAddA (cVar 4) (cC (.int 1))) aNil)) (cC (.int 69621)))) (cC (.int 11))) (cC (.int 2147483647))) (gN 8)) (sFor (iRng1C (aCons (cC (.int 12)) aNil)) (gN 7) (sSeq (sAsg (cOp gMod (cOp gAddA (cOp gAddA (cOp gMul (cVar 8) (cC (.int 16807))) (cOp gMul (cVar 7) (cC (.int 7)))) (cC (.int 1))) (cC (.int 2147483647))) (gN 8)) (sExpr (cApp (cVar 3) (cOp gMod (cOp gDiv (cVar 8) (cC (.int 997))) (cC (.int 1009)))))))))) [some (.scr (ns.map .int)), a1, a2, some (.cel M.length), some (.int i), x5, x6, x7, x8] (M ++ [acc.map D.int]) =
          some (.nx [some (.scr (ns.map .int)), a1, a2, some (.cel M.length), some (.int i), some (.int c'), x6, y7, some (.int n1)], M ++ [acc1.map D.int]) := by
        rw [sSeq_nx (en1 := [some (.scr (ns.map .int)), a1, a2, some (.cel M.length), some (.int i), some (.int c), x6, x7, x8]) (M1 := M ++ [acc.map D.int]) (by simp [hc]), sSeq_nx hif]
        simp [hpw, q, rgD_eq, e1, show smI 12 = true by decide, modC, show ∀ y : Int, mulC y 48271 = true from fun y => mulC_r (by decide) (by decide), show ∀ y : Int, mulC y 69621 = true from fun y => mulC_r (by decide) (by decide)]
      simp only [gN_e, List.set_cons_succ, List.set_cons_zero, hstep]
theorem digits_is {ns : List Int} : ∃ ds : List Int, m_l_digits [.scr (ns.map .int), .int 0, .int 63] M = some (.ok (.imm (ds.map .int)), M) := by
  obtain ⟨acc', y4, y5, y6, y7, y8, e⟩ := digits_loop (M := M) (ns := ns) (a1 := some (.int 0)) (a2 := some (.int 63)) (rgI 0 63) [] none none none none none (fun i hi => (mem_rgI.mp hi).1) (by simp [rgI])
  refine ⟨acc', ?_⟩
  unfold m_l_digits f_l_digits
  rw [mDef_3]
  rw [sSeq_nx (en1 := [some (.scr (ns.map .int)), some (.int 0), some (.int 63), some (.cel M.length), none, none, none, none, none]) (M1 := M ++ [[]]) (by simp)]
  rw [sSeq_nx (en1 := [some (.scr (ns.map .int)), some (.int 0), some (.int 63), some (.cel M.length), y4, y5, y6, y7, y8]) (M1 := M ++ [acc'.map D.int]) (by
    simp only [sFor_e, iRng2_e, aCons_e, aNil_e, cVar_e, List.getElem?_cons_zero, List.getElem?_cons_succ, bnd_ok, show (smI 0 && smI 63) = true by decide, if_true, sbnd_ok, rgD_eq]
    exact e)]
  simp
  exact gcF_cel (by simp) (Nat.le_refl _) clos_ints
end K11
/-! k11, part G: draws, changes of rows. -/
namespace K11
open PySem DL
variable {M : Store}
/-- the law's box -/
def Box (ds : List Int) (at_ : Int) : List D := [.imm (ds.map D.int), .int at_]
theorem clos_box {n : Nat} {ds : List Int} {a : Int} : clos n (Box ds a) = true := by simp [Box]
@[simp] theorem gSubC_e {fo fi : EF} {d : D} {en : DL.Env} : gSubC fo fi d en M = match fo en M with
  | some (.ok (.cel n), M1) => (match fi en M1 with
    | some (.ok (.int k), M2) => (match M2[n]? with
      | some ds => (match L2.ixN ds.length k with | some j => some (en, M2.set n (ds.set j d)) | none => none)
      | none => none)
    | _ => none)
  | _ => none := rfl
theorem ix0 {n : Nat} (h : 0 < n) : L2.ixN n 0 = some 0 := by unfold L2.ixN; simp; omega
theorem ix1 {n : Nat} (h : 1 < n) : L2.ixN n 1 = some 1 := by unfold L2.ixN; simp; omega
theorem draw_is {c : Nat} {ds : List Int} {a m : Int} (hc : M[c]? = some (Box ds a)) (ha : 0 ≤ a) (ha2 : a ≤ 1000000) (hm : 0 < m) :
    ∃ r : Int, 0 ≤ r ∧ r < m ∧ m_l_draw [.cel c, .int m] M = some (.ok (.int r), M.set c (Box ds (a + 1))) := by
  have hlt : c < M.length := (List.getElem?_eq_some_iff.mp hc).1
  have h1 : sAsg (cVar 0) (gTupC 2 (gConsC (gN 2) (gConsC (gN 3) gNilC))) [some (.cel c), some (.int m), none, none] M = some (.nx [some (.cel c), some (.int m), some (.imm (ds.map D.int)), some (.int a)], M) := by
    simp [hc]
    simp [Box]
  have h2 : sAsg (cOp gAddA (cVar 3) (cC (.int 1))) (gSubC (cVar 0) (cC (.int 1))) [some (.cel c), some (.int m), some (.imm (ds.map D.int)), some (.int a)] M = some (.nx [some (.cel c), some (.int m), some (.imm (ds.map D.int)), some (.int a)], M.set c (Box ds (a + 1))) := by
    simp [hc]
    simp [Box, ix1]
  have hmod : ∀ y : Int, modC y m = true := fun y => modC_of hm
  have key : ∃ r : Int, 0 ≤ r ∧ r < m ∧ fin (sSeq (sIf (cTru (cOp gLt (cVar 3) (cCall gLen (aCons (cVar 2) aNil)))) (sRet (cOp gMod (cOp gIx (cVar 2) (cVar 3)) (cVar 1))) sSkip)
      (sRet (cOp gMod (cOp gAddA (cOp gAddA (cOp gAddA (cOp gMul (cOp gMul (cVar 3) (cVar 3)) (cC (.int 3))) (cOp gMul (cVar 3) (cC (.int 4)))) (cOp gDiv (cVar 3) (cC (.int 3)))) (cC (.int 1))) (cVar 1))) [some (.cel c), some (.int m), some (.imm (ds.map D.int)), some (.int a)] (M.set c (Box ds (a + 1)))) = some (.ok (.int r), M.set c (Box ds (a + 1))) := by
    by_cases q : a < ds.length
    · obtain ⟨j, rfl⟩ : ∃ j : Nat, a = j := ⟨a.toNat, by omega⟩
      have hj : j < ds.length := by omega
      have e : L2.atI (ds.map D.int) (j : Int) = some (D.int ds[j]) := by
        rw [atI_nat (by simpa using hj)]
        simp
      exact ⟨ds[j] % m, Int.emod_nonneg _ (by omega), Int.emod_lt_of_pos _ hm, by simp [q, e, hmod]⟩
    · refine ⟨(a * a * 3 + a * 4 + a / 3 + 1) % m, Int.emod_nonneg _ (by omega), Int.emod_lt_of_pos _ hm, ?_⟩
      simp [q, hmod, show mulC a a = true from mulC_l (by omega) (by omega), show ∀ y : Int, mulC y 3 = true from fun y => mulC_r (by decide) (by decide), show ∀ y : Int, mulC y 4 = true from fun y => mulC_r (by decide) (by decide), show ∀ y : Int, divC y 3 = true from fun y => divC_of (by decide) (by decide)]
  obtain ⟨r, r1, r2, r3⟩ := key
  refine ⟨r, r1, r2, ?_⟩
  unfold m_l_draw f_l_draw
  rw [mDef_2]
  rw [show start0 4 [D.cel c, .int m] = [some (.cel c), some (.int m), none, none] from rfl, sSeq_nx h1, sSeq_nx h2, r3]
  exact gcF_set clos_box rfl rfl
theorem pick_is {α : Type} {enc : α → D} {l : List α} {c : Nat} {ds : List Int} {a : Int} (hc : M[c]? = some (Box ds a)) (ha : 0 ≤ a) (ha2 : a ≤ 1000000) (hl : l ≠ []) (h1 : ∀ x, clo M.length (enc x) = true) (h2 : ∀ x, notCel (enc x) = true) :
    ∃ x ∈ l, m_l_pick [.cel c, .imm (l.map enc)] M = some (.ok (enc x), M.set c (Box ds (a + 1))) := by
  have hp : 0 < l.length := List.length_pos_iff.mpr hl
  obtain ⟨r, r1, r2, r3⟩ := draw_is (m := (l.length : Int)) hc ha ha2 (by omega)
  obtain ⟨j, rfl⟩ : ∃ j : Nat, r = j := ⟨r.toNat, by omega⟩
  have hj : j < l.length := by omega
  have e : L2.atI (l.map enc) (j : Int) = some (enc l[j]) := by
    rw [atI_nat (by simpa using hj)]
    simp
  refine ⟨l[j], List.getElem_mem hj, ?_⟩
  unfold m_l_pick f_l_pick
  simp [r3, e]
  exact gcF_set clos_box (h1 _) (h2 _)
theorem l_unit_is : m_l_unit [.int 2] M = some (.ok (eTab [[1, 0], [0, 1]]), M) := by
  unfold m_l_unit f_l_unit
  simp [rgD_2, show smI 2 = true from rfl, row2, tab2]
/-! the rows while they are changed -/
def stO (M : Store) (c : Nat) (ds : List Int) (a : Int) (p q r s : Int) : Store := M.set c (Box ds a) ++ [[.imm [.int p, .int q], .imm [.int r, .int s]]]
section
variable {c : Nat} {ds : List Int} {a p q r s : Int}
theorem stO_box (h : c < M.length) : (stO M c ds a p q r s)[c]? = some (Box ds a) := by
  unfold stO
  rw [List.getElem?_append_left (by simpa using h), List.getElem?_set_self h]
theorem stO_set {b : Int} (h : c < M.length) : (stO M c ds a p q r s).set c (Box ds b) = stO M c ds b p q r s := by
  unfold stO
  rw [List.set_append_left _ _ (by simpa using h), List.set_set]
@[simp] theorem stO_rows : (stO M c ds a p q r s)[M.length]? = some [.imm [.int p, .int q], .imm [.int r, .int s]] := by
  unfold stO
  rw [List.getElem?_append_right (by simp)]
  simp
theorem stO_put {p' q' r' s' : Int} : (stO M c ds a p q r s).set M.length [.imm [.int p', .int q'], .imm [.int r', .int s']] = stO M c ds a p' q' r' s' := by
  unfold stO
  rw [List.set_append_right _ _ (by simp)]
  simp
theorem stO_len : (stO M c ds a p q r s).length = M.length + 1 := by simp [stO]
/-- a change: its numbers at most B, its determinant 1 or -1 -/
structure Chn (B p q r s : Int) : Prop where
  p1 : -B ≤ p
  p2 : p ≤ B
  q1 : -B ≤ q
  q2 : q ≤ B
  r1 : -B ≤ r
  r2 : r ≤ B
  s1 : -B ≤ s
  s2 : s ≤ B
  det : p * s - q * r = 1 ∨ p * s - q * r = -1
theorem Chn.big {B B' : Int} (h : Chn B p q r s) (hb : B ≤ B') : Chn B' p q r s := by
  obtain ⟨a1, a2, a3, a4, a5, a6, a7, a8, a9⟩ := h
  exact ⟨by omega, by omega, by omega, by omega, by omega, by omega, by omega, by omega, a9⟩
noncomputable def bodC : SF := (sSeq (sAsg (cTup (aCons (cCall m_l_draw (aCons (cVar 0) (aCons (cVar 1) aNil))) (aCons (cCall m_l_draw (aCons (cVar 0) (aCons (cVar 1) aNil))) aNil))) (gTupC 2 (gConsC (gN 5) (gConsC (gN 6) gNilC)))) (sSeq (sAsg (cCall m_l_draw (aCons (cVar 0) (aCons (cC (.int 8)) aNil))) (gN 7)) (sIf (cTru (cOp (gEq false) (cVar 5) (cVar 6))) (sAsg (cLc (iSeq (cOp gIx (cVar 3) (cVar 5))) (gN 10) tYesC (cOp gSub (cC (.int 0)) (cVar 10)) [10]) (gSubC (cVar 3) (cVar 5))) (sIf (cTru (cOp (gEq false) (cVar 7) (cC (.int 0)))) (sAsg (cTup (aCons (cOp gIx (cVar 3) (cVar 6)) (aCons (cOp gIx (cVar 3) (cVar 5)) aNil))) (gTupC 2 (gConsC (gSubC (cVar 3) (cVar 5)) (gConsC (gSubC (cVar 3) (cVar 6)) gNilC)))) (sSeq (sAsg (cCall m_l_pick (aCons (cVar 0) (aCons (cLst (aCons (cC (.int 1)) (aCons (cUn gNeg (cC (.int 1))) (aCons (cC (.int 2)) (aCons (cUn gNeg (cC (.int 1))) (aCons (cC (.int 1)) aNil)))))) aNil))) (gN 8)) (sAsg (cLc (iRng1C (aCons (cVar 1) aNil)) (gN 11) tYesC (cOp gAddA (cOp gIx (cOp gIx (cVar 3) (cVar 5)) (cVar 11)) (cOp gMul (cVar 8) (cOp gIx (cOp gIx (cVar 3) (cVar 6)) (cVar 11)))) [11]) (gSubC (cVar 3) (cVar 5))))))))
@[simp] theorem gIx_cel {n : Nat} {i : Int} : gIx (.cel n) (.int i) M = match M[n]? with | some es => (match L2.atI es i with | some d => some (.ok d, M) | none => none) | none => none := by
  unfold gIx
  simp only [items_c]
  try (cases M[n]? <;> rfl)
theorem turn_is {B : Int} {x4 x5 x6 x7 x8 x9 x10 x11 : Option D} (hB : 1 ≤ B) (hB2 : B ≤ 100000) (hc : c < M.length) (ha : 0 ≤ a) (ha2 : a ≤ 1000) (h : Chn B p q r s) :
    ∃ (a' p' q' r' s' : Int) (y5 y6 y7 y8 : Option D), a ≤ a' ∧ a' ≤ a + 4 ∧ Chn (3 * B) p' q' r' s' ∧
      bodC [some (.cel c), some (.int 2), some (.int 6), some (.cel M.length), x4, x5, x6, x7, x8, x9, x10, x11] (stO M c ds a p q r s) =
        some (.nx [some (.cel c), some (.int 2), some (.int 6), some (.cel M.length), x4, y5, y6, y7, y8, x9, x10, x11], stO M c ds a' p' q' r' s') := by
  obtain ⟨i, i1, i2, e1⟩ := draw_is (m := 2) (stO_box (M := M) (ds := ds) (a := a) (p := p) (q := q) (r := r) (s := s) hc) ha (by omega) (by decide)
  rw [stO_set hc] at e1
  obtain ⟨j, j1, j2, e2⟩ := draw_is (m := 2) (stO_box (M := M) (ds := ds) (a := a + 1) (p := p) (q := q) (r := r) (s := s) hc) (by omega) (by omega) (by decide)
  rw [stO_set hc] at e2
  obtain ⟨k, k1, k2, e3⟩ := draw_is (m := 8) (stO_box (M := M) (ds := ds) (a := a + 1 + 1) (p := p) (q := q) (r := r) (s := s) hc) (by omega) (by omega) (by decide)
  rw [stO_set hc] at e3
  obtain ⟨f, hf, e4⟩ := pick_is (enc := D.int) (l := [1, -1, 2, -1, 1]) (stO_box (M := M) (ds := ds) (a := a + 1 + 1 + 1) (p := p) (q := q) (r := r) (s := s) hc) (by omega) (by omega) (by simp) (fun _ => rfl) (fun _ => rfl)
  rw [stO_set hc] at e4
  have hf2 : f = 1 ∨ f = -1 ∨ f = 2 := by simp at hf; omega
  have hmf : ∀ y : Int, mulC f y = true := fun y => mulC_l (by rcases hf2 with z | z | z <;> omega) (by rcases hf2 with z | z | z <;> omega)
  have h1 : sAsg (cTup (aCons (cCall m_l_draw (aCons (cVar 0) (aCons (cVar 1) aNil))) (aCons (cCall m_l_draw (aCons (cVar 0) (aCons (cVar 1) aNil))) aNil))) (gTupC 2 (gConsC (gN 5) (gConsC (gN 6) gNilC))) [some (.cel c), some (.int 2), some (.int 6), some (.cel M.length), x4, x5, x6, x7, x8, x9, x10, x11] (stO M c ds a p q r s) =
      some (.nx [some (.cel c), some (.int 2), some (.int 6), some (.cel M.length), x4, some (.int i), some (.int j), x7, x8, x9, x10, x11], stO M c ds (a + 1 + 1) p q r s) := by
    simp [e1, e2]
  have h2 : sAsg (cCall m_l_draw (aCons (cVar 0) (aCons (cC (.int 8)) aNil))) (gN 7) [some (.cel c), some (.int 2), some (.int 6), some (.cel M.length), x4, some (.int i), some (.int j), x7, x8, x9, x10, x11] (stO M c ds (a + 1 + 1) p q r s) =
      some (.nx [some (.cel c), some (.int 2), some (.int 6), some (.cel M.length), x4, some (.int i), some (.int j), some (.int k), x8, x9, x10, x11], stO M c ds (a + 1 + 1 + 1) p q r s) := by
    simp [e3]
  have fin : ∀ (a' p' q' r' s' : Int) (y8 : Option D), a ≤ a' → a' ≤ a + 4 → Chn (3 * B) p' q' r' s' →
      sIf (cTru (cOp (gEq false) (cVar 5) (cVar 6))) (sAsg (cLc (iSeq (cOp gIx (cVar 3) (cVar 5))) (gN 10) tYesC (cOp gSub (cC (.int 0)) (cVar 10)) [10]) (gSubC (cVar 3) (cVar 5))) (sIf (cTru (cOp (gEq false) (cVar 7) (cC (.int 0)))) (sAsg (cTup (aCons (cOp gIx (cVar 3) (cVar 6)) (aCons (cOp gIx (cVar 3) (cVar 5)) aNil))) (gTupC 2 (gConsC (gSubC (cVar 3) (cVar 5)) (gConsC (gSubC (cVar 3) (cVar 6)) gNilC)))) (sSeq (sAsg (cCall m_l_pick (aCons (cVar 0) (aCons (cLst (aCons (cC (.int 1)) (aCons (cUn gNeg (cC (.int 1))) (aCons (cC (.int 2)) (aCons (cUn gNeg (cC (.int 1))) (aCons (cC (.int 1)) aNil)))))) aNil))) (gN 8)) (sAsg (cLc (iRng1C (aCons (cVar 1) aNil)) (gN 11) tYesC (cOp gAddA (cOp gIx (cOp gIx (cVar 3) (cVar 5)) (cVar 11)) (cOp gMul (cVar 8) (cOp gIx (cOp gIx (cVar 3) (cVar 6)) (cVar 11)))) [11]) (gSubC (cVar 3) (cVar 5)))))
        [some (.cel c), some (.int 2), some (.int 6), some (.cel M.length), x4, some (.int i), some (.int j), some (.int k), x8, x9, x10, x11] (stO M c ds (a + 1 + 1 + 1) p q r s) =
        some (.nx [some (.cel c), some (.int 2), some (.int 6), some (.cel M.length), x4, some (.int i), some (.int j), some (.int k), y8, x9, x10, x11], stO M c ds a' p' q' r' s') →
      ∃ (a' p' q' r' s' : Int) (y5 y6 y7 y8 : Option D), a ≤ a' ∧ a' ≤ a + 4 ∧ Chn (3 * B) p' q' r' s' ∧
      bodC [some (.cel c), some (.int 2), some (.int 6), some (.cel M.length), x4, x5, x6, x7, x8, x9, x10, x11] (stO M c ds a p q r s) =
        some (.nx [some (.cel c), some (.int 2), some (.int 6), some (.cel M.length), x4, y5, y6, y7, y8, x9, x10, x11], stO M c ds a' p' q' r' s') := by
    intro a' p' q' r' s' y8 b1 b2 b3 b4
    refine ⟨a', p', q', r', s', some (.int i), some (.int j), some (.int k), y8, b1, b2, b3, ?_⟩
    unfold bodC
    rw [sSeq_nx h1, sSeq_nx h2, b4]
  obtain ⟨c1, c2, c3, c4, c5, c6, c7, c8, c9⟩ := h
  have i3 : i = 0 ∨ i = 1 := by omega
  have j3 : j = 0 ∨ j = 1 := by omega
  rcases i3 with rfl | rfl <;> rcases j3 with rfl | rfl
  · refine fin (a + 1 + 1 + 1) (-p) (-q) r s x8 (by omega) (by omega) ⟨by omega, by omega, by omega, by omega, by omega, by omega, by omega, by omega, ?_⟩ ?_
    · have : -p * s - -q * r = -(p * s - q * r) := by grind
      omega
    · simp [ix0, stO_put]
  · by_cases hk : k = 0
    · subst hk
      refine fin (a + 1 + 1 + 1) r s p q x8 (by omega) (by omega) ⟨by omega, by omega, by omega, by omega, by omega, by omega, by omega, by omega, ?_⟩ ?_
      · have : r * q - s * p = -(p * s - q * r) := by grind
        omega
      · simp [ix0, ix1, stO, Box]
    · refine fin (a + 1 + 1 + 1 + 1) (p + f * r) (q + f * s) r s (some (.int f)) (by omega) (by omega) ?_ ?_
      · refine ⟨?_, ?_, ?_, ?_, by omega, by omega, by omega, by omega, ?_⟩
        · rcases hf2 with rfl | rfl | rfl <;> omega
        · rcases hf2 with rfl | rfl | rfl <;> omega
        · rcases hf2 with rfl | rfl | rfl <;> omega
        · rcases hf2 with rfl | rfl | rfl <;> omega
        · have : (p + f * r) * s - (q + f * s) * r = p * s - q * r := by grind
          omega
      · simp at e4
        simp [hk, e4, hmf, rgD_2, show smI 2 = true from rfl, ix0, stO_put, show szOk 5 = true by decide]
  · by_cases hk : k = 0
    · subst hk
      refine fin (a + 1 + 1 + 1) r s p q x8 (by omega) (by omega) ⟨by omega, by omega, by omega, by omega, by omega, by omega, by omega, by omega, ?_⟩ ?_
      · have : r * q - s * p = -(p * s - q * r) := by grind
        omega
      · simp [ix0, ix1, stO, Box]
    · refine fin (a + 1 + 1 + 1 + 1) p q (r + f * p) (s + f * q) (some (.int f)) (by omega) (by omega) ?_ ?_
      · refine ⟨by omega, by omega, by omega, by omega, ?_, ?_, ?_, ?_, ?_⟩
        · rcases hf2 with rfl | rfl | rfl <;> omega
        · rcases hf2 with rfl | rfl | rfl <;> omega
        · rcases hf2 with rfl | rfl | rfl <;> omega
        · rcases hf2 with rfl | rfl | rfl <;> omega
        · have : p * (s + f * q) - q * (r + f * p) = p * s - q * r := by grind
          omega
      · simp at e4
        simp [hk, e4, hmf, rgD_2, show smI 2 = true from rfl, ix1, stO_put, show szOk 5 = true by decide]
  · refine fin (a + 1 + 1 + 1) p q (-r) (-s) x8 (by omega) (by omega) ⟨by omega, by omega, by omega, by omega, by omega, by omega, by omega, by omega, ?_⟩ ?_
    · have : p * -s - q * -r = -(p * s - q * r) := by grind
      omega
    · simp [ix1, stO_put]
end
end K11
/-! k11, part I: determinants, changes as a whole. -/
namespace K11
open PySem DL
variable {M : Store}
theorem rgD_1 : rgD 0 1 = [.int 0] := by rfl
theorem rgD_0 : rgD 0 0 = [] := by rfl
section
variable {d1 d2 : D}
theorem cut_a : cutD [d1, d2] none (some 0) = [] := rfl
theorem cut_b : cutD [d1, d2] (some 1) none = [d2] := rfl
theorem cut_c : cutD [d1, d2] none (some 1) = [d1] := rfl
theorem cut_d : cutD [d1, d2] (some 2) none = [] := rfl
theorem cut_e : cutD [d1] none (some 0) = [] := rfl
theorem cut_f : cutD [d1] (some 1) none = [] := rfl
end
@[simp] theorem cSl_e {fa : EF} {fl fh : OF} {en : DL.Env} : cSl fa fl fh en M = bnd (fa en M) fun x M1 => bnd (fl en M1) fun lo M2 => bnd (fh en M2) fun hi M3 => gSl lo hi x M3 := rfl
@[simp] theorem oNone_e {en : DL.Env} : oNone en M = some (.ok none, M) := rfl
@[simp] theorem oSome_e {fa : EF} {en : DL.Env} : oSome fa en M = bnd (fa en M) fun x M1 => match x with | .int i => some (.ok (some i), M1) | _ => none := rfl
@[simp] theorem gSl_t {lo hi : Option Int} {ds : List D} : gSl lo hi (.tup ds) M = some (.ok (.tup (cutD ds lo hi)), M) := rfl
@[simp] theorem gSl_l {lo hi : Option Int} {ds : List D} : gSl lo hi (.imm ds) M = some (.ok (.imm (cutD ds lo hi)), M) := rfl
theorem det0 : m_l_det 1 [.imm []] M = some (.ok (.int 1), M) := by
  unfold m_l_det f_l_det
  simp
theorem det1 {s : Int} : m_l_det 2 [.imm [.tup [.int s]]] M = some (.ok (.int s), M) := by
  unfold m_l_det f_l_det
  have s1 : smI 1 = true := rfl
  by_cases h : s = 0
  · subst h
    simp [rgD_1, s1, fLoop_cons]
  · simp [rgD_1, s1, fLoop_cons, h, cut_e, cut_f, det0, m2, modC, show mulC 1 s = true from mulC_l (by decide) (by decide), show mulC s 1 = true from mulC_r (by decide) (by decide)]
theorem det2 {p q r s : Int} (hp : Sm p) (hq : Sm q) (hr : Sm r) (hs : Sm s) : m_l_det 3 [eTab [[p, q], [r, s]]] M = some (.ok (.int (p * s - q * r)), M) := by
  unfold m_l_det f_l_det
  have s2 : smI 2 = true := rfl
  have one : ∀ x : Int, mulC 1 x = true := fun x => mulC_l (by decide) (by decide)
  have neg : ∀ x : Int, mulC (-1) x = true := fun x => mulC_l (by decide) (by decide)
  by_cases h1 : p = 0
  · subst h1
    by_cases h2 : r = 0
    · subst h2
      simp [rgD_2, s2, fLoop_cons, eTab, eRow]
    · simp [rgD_2, s2, fLoop_cons, eTab, eRow, h2, cut_a, cut_b, cut_c, cut_d, det1, m2, modC, neg, hq.r, one]
      grind
  · by_cases h2 : r = 0
    · subst h2
      simp [rgD_2, s2, fLoop_cons, eTab, eRow, h1, cut_a, cut_b, cut_c, cut_d, det1, m2, modC, neg, hs.r, one]
    · simp [rgD_2, s2, fLoop_cons, eTab, eRow, h1, h2, cut_a, cut_b, cut_c, cut_d, det1, m2, modC, neg, hs.r, hq.r, one]
      grind
section
variable {c : Nat} {ds : List Int}
theorem change_loop (l : List Int) : ∀ (k : Nat) (a B p q r s : Int) (x4 x5 x6 x7 x8 x9 x10 x11 : Option D), l.length = k → k ≤ 6 → 1 ≤ B → B * 3 ^ k ≤ 1000 → c < M.length → 0 ≤ a → a + 4 * k ≤ 1000 → Chn B p q r s →
    ∃ (a' p' q' r' s' : Int) (y4 y5 y6 y7 y8 y9 y10 y11 : Option D), a ≤ a' ∧ a' ≤ a + 4 * k ∧ Chn (B * 3 ^ k) p' q' r' s' ∧
      fLoop (gN 4) bodC (l.map D.int) [some (.cel c), some (.int 2), some (.int 6), some (.cel M.length), x4, x5, x6, x7, x8, x9, x10, x11] (stO M c ds a p q r s) =
        some (.nx [some (.cel c), some (.int 2), some (.int 6), some (.cel M.length), y4, y5, y6, y7, y8, y9, y10, y11], stO M c ds a' p' q' r' s') := by
  induction l with
  | nil =>
    intro k a B p q r s x4 x5 x6 x7 x8 x9 x10 x11 hk _ _ _ _ _ _ h
    subst hk
    exact ⟨a, p, q, r, s, x4, x5, x6, x7, x8, x9, x10, x11, by omega, by simp, by simpa using h, rfl⟩
  | cons i l ih =>
    intro k a B p q r s x4 x5 x6 x7 x8 x9 x10 x11 hk h6 hB hB2 hc ha ha2 h
    cases k with
    | zero => simp at hk
    | succ k =>
      rw [List.length_cons] at hk
      have hk' : l.length = k := by omega
      have e3 : B * 3 ^ (k + 1) = B * 3 * 3 ^ k := by rw [Int.pow_succ]; grind
      have hp3 : (1 : Int) ≤ 3 ^ k := by
        have : (1 : Nat) ≤ 3 ^ k := Nat.one_le_pow _ _ (by decide)
        exact_mod_cast this
      have hB3 : B * 3 ≤ B * 3 * 3 ^ k := by
        have := Int.mul_le_mul_of_nonneg_left hp3 (show 0 ≤ B * 3 by omega)
        omega
      obtain ⟨a1, p1, q1, r1, s1, y5, y6, y7, y8, b1, b2, b3, b4⟩ := turn_is (M := M) (ds := ds) (x4 := some (.int i)) (x5 := x5) (x6 := x6) (x7 := x7) (x8 := x8) (x9 := x9) (x10 := x10) (x11 := x11) hB (by omega) hc ha (by omega) h
      obtain ⟨a2, p2, q2, r2, s2, z4, z5, z6, z7, z8, z9, z10, z11, d1, d2, d3, d4⟩ := ih k a1 (3 * B) p1 q1 r1 s1 (some (.int i)) y5 y6 y7 y8 x9 x10 x11 hk' (by omega) (by omega) (by rw [Int.mul_comm 3 B]; omega) hc (by omega) (by omega) b3
      refine ⟨a2, p2, q2, r2, s2, z4, z5, z6, z7, z8, z9, z10, z11, by omega, by omega, ?_, ?_⟩
      · rw [e3, Int.mul_comm B 3]; exact d3
      · rw [List.map_cons, fLoop_cons]
        simp only [gN_e, List.set_cons_succ, List.set_cons_zero, b4]
        exact d4
theorem compFP_nil {n : Nat} {ds0 : List D} {g : GF} {t : TF} {f : EF} {en : DL.Env} (h : M[n]? = some ds0) : compFP n ds0 g t f en [] M = some ([], M) := by unfold compFP; exact if_pos h
theorem compFP_cons {n : Nat} {ds0 : List D} {g : GF} {t : TF} {f : EF} {en : DL.Env} {d : D} {es : List D} (h : M[n]? = some ds0) : compFP n ds0 g t f en (d :: es) M = match g d en M with
    | none => none
    | some (en1, M1) => match t en1 M1 with
      | some (.ok true, M2) => match f en1 M2 with
        | some (.ok y, M3) => match compFP n ds0 g t f en es M3 with
          | some (ys, M4) => some (y :: ys, M4)
          | none => none
        | _ => none
      | some (.ok false, M2) => compFP n ds0 g t f en es M2
      | _ => none := by
  rw [compFP]
  exact if_pos h
theorem change_is {a : Int} (hM : M[c]? = some (Box ds a)) (ha : 0 ≤ a) (ha2 : a ≤ 900) :
    ∃ a' p q r s, a ≤ a' ∧ a' ≤ a + 24 ∧ Chn 729 p q r s ∧ m_l_change [.cel c, .int 2, .int 6] M = some (.ok (eTab [[p, q], [r, s]]), M.set c (Box ds a')) := by
  have hc : c < M.length := (List.getElem?_eq_some_iff.mp hM).1
  have hset : M.set c (Box ds a) = M := by
    refine List.ext_getElem? fun i => ?_
    by_cases e : i = c
    · subst e; rw [List.getElem?_set_self hc, hM]
    · rw [List.getElem?_set_ne (Ne.symm e)]
  have hl : (rgI 0 6).length = 6 := by simp [rgI]
  obtain ⟨a', p, q, r, s, y4, y5, y6, y7, y8, y9, y10, y11, b1, b2, b3, b4⟩ := change_loop (M := M) (c := c) (ds := ds) (rgI 0 6) 6 a 1 1 0 0 1 none none none none none none none none hl (by omega) (by omega) (by decide) hc ha (by omega) ⟨by omega, by omega, by omega, by omega, by omega, by omega, by omega, by omega, .inl rfl⟩
  refine ⟨a', p, q, r, s, b1, by omega, by simpa using b3, ?_⟩
  unfold m_l_change f_l_change
  rw [mDef_3]
  have h0 : sAsg (cLcC (iSeq (cCall m_l_unit (aCons (cVar 1) aNil))) (gN 9) tYesC (cCall gList (aCons (cVar 9) aNil)) [9]) (gN 3) [some (.cel c), some (.int 2), some (.int 6), none, none, none, none, none, none, none, none, none] M =
      some (.nx [some (.cel c), some (.int 2), some (.int 6), some (.cel M.length), none, none, none, none, none, none, none, none], stO M c ds a 1 0 0 1) := by
    simp [l_unit_is, eRow, stO, hset]
  have h1 : sFor (iRng1C (aCons (cVar 2) aNil)) (gN 4) bodC [some (.cel c), some (.int 2), some (.int 6), some (.cel M.length), none, none, none, none, none, none, none, none] (stO M c ds a 1 0 0 1) =
      some (.nx [some (.cel c), some (.int 2), some (.int 6), some (.cel M.length), y4, y5, y6, y7, y8, y9, y10, y11], stO M c ds a' p q r s) := by
    simp only [sFor_e, iRng1_e, aCons_e, aNil_e, cVar_e, List.getElem?_cons_zero, List.getElem?_cons_succ, bnd_ok, show smI 6 = true by decide, if_true, sbnd_ok, rgD_eq]
    exact b4
  rw [show start0 12 [D.cel c, .int 2, .int 6] = [some (.cel c), some (.int 2), some (.int 6), none, none, none, none, none, none, none, none, none] from rfl, sSeq_nx h0]
  have h1' := h1
  unfold bodC at h1'
  rw [sSeq_nx h1']
  have hr : sRet (cCall gTuple (aCons (cLcP mkI (iCel (cVar 3)) (gN 9) tYesC (cCall gTuple (aCons (cVar 9) aNil)) [9]) aNil)) [some (.cel c), some (.int 2), some (.int 6), some (.cel M.length), y4, y5, y6, y7, y8, y9, y10, y11] (stO M c ds a' p q r s) =
      some (.rt (eTab [[p, q], [r, s]]), stO M c ds a' p q r s) := by
    have hx : (stO M c ds a' p q r s)[M.length]? = some [.imm [.int p, .int q], .imm [.int r, .int s]] := stO_rows
    have hcl : cLcP mkI (iCel (cVar 3)) (gN 9) tYesC (cCall gTuple (aCons (cVar 9) aNil)) [9] [some (.cel c), some (.int 2), some (.int 6), some (.cel M.length), y4, y5, y6, y7, y8, y9, y10, y11] (stO M c ds a' p q r s) =
        some (.ok (.imm [.tup [.int p, .int q], .tup [.int r, .int s]]), stO M c ds a' p q r s) := by
      have hi : iCel (cVar 3) [some (.cel c), some (.int 2), some (.int 6), some (.cel M.length), y4, y5, y6, y7, y8, y9, y10, y11] (stO M c ds a' p q r s) = some (.ok M.length, stO M c ds a' p q r s) := by
        simp [iCel, stO_len]
      unfold cLcP
      rw [hi, bnd_ok, hx]
      dsimp only
      rw [if_pos (show szOk [D.imm [D.int p, D.int q], D.imm [D.int r, D.int s]].length = true from szOk_2)]
      simp [compFP_cons hx, compFP_nil hx]
    simp [hcl, row2, tab2]
  rw [hr]
  have ht : Tidy M (stO M c ds a' p q r s) := by
    intro j es hj hq
    unfold stO at hq
    rw [List.getElem?_append_left (by simpa using hj)] at hq
    exact tidy_set clos_box j es hj hq
  rw [fin_rt, gcF_any ht (by simp) rfl]
  congr 2
  unfold stO
  rw [List.take_append_of_le_length (by simp)]
  exact List.take_of_length_le (by simp)
theorem two_change_is {a : Int} (hM : M[c]? = some (Box ds a)) (ha : 0 ≤ a) (ha2 : a ≤ 900) :
    ∃ a' p q r s, a ≤ a' ∧ a' ≤ a + 24 ∧ Chn 729 p q r s ∧ p * s - q * r = 1 ∧ m_l_two_change [.cel c] M = some (.ok (eTab [[p, q], [r, s]]), M.set c (Box ds a')) := by
  obtain ⟨a', p, q, r, s, b1, b2, b3, b4⟩ := change_is hM ha ha2
  have sm : ∀ {x : Int}, -729 ≤ x → x ≤ 729 → Sm x := fun h1 h2 => ⟨by omega, by omega⟩
  have hd := det2 (M := M.set c (Box ds a')) (sm b3.p1 b3.p2) (sm b3.q1 b3.q2) (sm b3.r1 b3.r2) (sm b3.s1 b3.s2)
  by_cases h : p * s - q * r = -1
  · refine ⟨a', r, s, p, q, b1, b2, ⟨b3.r1, b3.r2, b3.s1, b3.s2, b3.p1, b3.p2, b3.q1, b3.q2, .inl (by grind)⟩, by grind, ?_⟩
    unfold m_l_two_change f_l_two_change
    simp [b4, hd, h, tab2]
    exact gcF_set clos_box (by simp) rfl
  · have h1 : p * s - q * r = 1 := by rcases b3.det with z | z; exact z; exact absurd z h
    refine ⟨a', p, q, r, s, b1, b2, b3, h1, ?_⟩
    unfold m_l_two_change f_l_two_change
    simp [b4, hd, h1]
    exact gcF_set clos_box (by simp) rfl
end
end K11
/-! k11, part J: the lists of reduced forms. -/
namespace K11
open PySem DL
variable {M : Store}
/-! sorted lists of triples -/
theorem le_rows {a b c a' b' c' : Int} (h : a < a' ∨ (a = a' ∧ b < b')) : PySem.W.dataLe false (fun x : PyData => x) (pRow [a, b, c]) (pRow [a', b', c']) = true := by
  have k : ∀ x y z : Int, PySem.W.keyToks (pRow [x, y, z]) = [.inl 1, .inl x, .inl 1, .inl y, .inl 1, .inl z, .inl 0] := fun x y z => by
    simp [pRow, PySem.W.keyToks, PySem.W.keyToksAll]
  unfold PySem.W.dataLe PySem.W.sortLe
  simp only [k, cond_false]
  show (!PyProof.Rows.lexLt PyProof.Rows.itemOrd [.inl 1, .inl a', .inl 1, .inl b', .inl 1, .inl c', .inl 0] [.inl 1, .inl a, .inl 1, .inl b, .inl 1, .inl c, .inl 0]) = true
  rw [Bool.not_eq_true']
  rcases h with h | ⟨rfl, h⟩
  · simp [PyProof.Rows.lexLt, PyProof.Rows.itemLt]
    omega
  · simp [PyProof.Rows.lexLt, PyProof.Rows.itemLt]
    omega
/-! the enumeration -/
def cQ (n a b : Int) : Int := (b * b - n) / (4 * a)
def pQ (n a b : Int) : Bool := ((b * b - n) % (4 * a) == 0) && redF a b (cQ n a b)
def rQ (n a b : Int) : List Int := [a, b, cQ n a b]
def clsA (n a : Int) : List (List Int) := ((rgI (1 - a) (2 * a).toNat).filter (pQ n a)).map (rQ n a)
def clsU (n : Int) (k : Nat) : List (List Int) := (rgI 1 k).flatMap (clsA n)
theorem check_gap_is {n : Int} (h : n < 0) (h2 : n % 4 ≤ 1) : m_check_gap [.int n] M = some (.ok .non, M) := by
  unfold m_check_gap f_check_gap
  simp [show gIsi [.int n, .ty "int"] M = some (.ok (.bl true), M) from rfl, show gIsi [.int n, .ty "bool"] M = some (.ok (.bl false), M) from rfl, show ¬ 0 ≤ n by omega, modC, show ¬ 1 < n % 4 by omega]
noncomputable def bodP : SF := (sIf (cTru (cOp (gEq false) (cOp gMod (cOp gSub (cOp gMul (cVar 3) (cVar 3)) (cVar 0)) (cOp gMul (cC (.int 4)) (cVar 2))) (cC (.int 0)))) (sSeq (sAsg (cTup (aCons (cVar 2) (aCons (cVar 3) (aCons (cOp gDiv (cOp gSub (cOp gMul (cVar 3) (cVar 3)) (cVar 0)) (cOp gMul (cC (.int 4)) (cVar 2))) aNil)))) (gN 4)) (sIf (cTru (cCall m_is_two_reduced (aCons (cVar 4) aNil))) (sExpr (cApp (cVar 1) (cVar 4))) sSkip)) sSkip)
theorem inP {n a : Int} (ha : 1 ≤ a) (ha2 : a ≤ 1000) (l : List Int) : ∀ (acc : List (List Int)) (x3 x4 : Option D), (∀ b ∈ l, Sm b) → acc.length + l.length ≤ 100000 →
    ∃ y3 y4, fLoop (gN 3) bodP (l.map D.int) [some (.int n), some (.cel M.length), some (.int a), x3, x4] (M ++ [acc.map eRow]) =
      some (.nx [some (.int n), some (.cel M.length), some (.int a), y3, y4], M ++ [(acc ++ (l.filter (pQ n a)).map (rQ n a)).map eRow]) := by
  induction l with
  | nil => exact fun acc x3 x4 _ _ => ⟨x3, x4, by simp⟩
  | cons b l ih =>
    intro acc x3 x4 hb hl
    rw [List.length_cons] at hl
    have hsb := hb b List.mem_cons_self
    have hd : ∀ y : Int, divC y (4 * a) = true := fun y => divC_of (by omega) (by omega)
    have hm : ∀ y : Int, modC y (4 * a) = true := fun y => modC_of (by omega)
    rw [List.map_cons, fLoop_cons]
    by_cases h1 : (b * b - n) % (4 * a) = 0
    · by_cases h2 : redF a b (cQ n a b) = true
      · obtain ⟨y3, y4, e⟩ := ih (acc ++ [rQ n a b]) (some (.int b)) (some (eRow (rQ n a b))) (fun z hz => hb z (List.mem_cons_of_mem _ hz)) (by simp; omega)
        refine ⟨y3, y4, ?_⟩
        have hp : pQ n a b = true := by unfold pQ; rw [h2, h1]; rfl
        have hbod : bodP [some (.int n), some (.cel M.length), some (.int a), some (.int b), x4] (M ++ [acc.map eRow]) = some (.nx [some (.int n), some (.cel M.length), some (.int a), some (.int b), some (eRow (rQ n a b))], M ++ [(acc ++ [rQ n a b]).map eRow]) := by
          have h2' : redF a b ((b * b - n) / (4 * a)) = true := h2
          simp [bodP, hsb.l, m4, hd, hm, h1, row3, is_two_reduced_is, h2', szOk_of (show acc.length + 1 ≤ 16777216 by omega), rQ, cQ]
        simp only [gN_e, List.set_cons_succ, List.set_cons_zero, hbod]
        rw [e, List.filter_cons_of_pos hp]
        simp
      · have h2' : redF a b ((b * b - n) / (4 * a)) = false := by simpa [cQ] using h2
        obtain ⟨y3, y4, e⟩ := ih acc (some (.int b)) (some (eRow (rQ n a b))) (fun z hz => hb z (List.mem_cons_of_mem _ hz)) (by omega)
        refine ⟨y3, y4, ?_⟩
        have hp : ¬ pQ n a b = true := by unfold pQ; rw [Bool.and_eq_true]; exact fun z => h2 z.2
        have hbod : bodP [some (.int n), some (.cel M.length), some (.int a), some (.int b), x4] (M ++ [acc.map eRow]) = some (.nx [some (.int n), some (.cel M.length), some (.int a), some (.int b), some (eRow (rQ n a b))], M ++ [acc.map eRow]) := by
          simp [bodP, hsb.l, m4, hd, hm, h1, row3, is_two_reduced_is, h2', rQ, cQ]
        simp only [gN_e, List.set_cons_succ, List.set_cons_zero, hbod]
        rw [e, List.filter_cons_of_neg hp]
    · obtain ⟨y3, y4, e⟩ := ih acc (some (.int b)) x4 (fun z hz => hb z (List.mem_cons_of_mem _ hz)) (by omega)
      refine ⟨y3, y4, ?_⟩
      have hp : ¬ pQ n a b = true := by unfold pQ; rw [Bool.and_eq_true]; exact fun z => h1 (by simpa using z.1)
      have hbod : bodP [some (.int n), some (.cel M.length), some (.int a), some (.int b), x4] (M ++ [acc.map eRow]) = some (.nx [some (.int n), some (.cel M.length), some (.int a), some (.int b), x4], M ++ [acc.map eRow]) := by
        simp [bodP, hsb.l, m4, hm, h1]
      simp only [gN_e, List.set_cons_succ, List.set_cons_zero, hbod]
      rw [e, List.filter_cons_of_neg hp]
theorem rg_len {lo : Int} {k : Nat} : (rgI lo k).length = k := by simp [rgI]
theorem clsA_len {n a : Int} : (clsA n a).length ≤ (2 * a).toNat := by
  unfold clsA
  rw [List.length_map]
  exact Nat.le_trans (List.length_filter_le _ _) (by rw [rg_len]; exact Nat.le_refl _)
noncomputable def outP : SF := sFor (iRng2C (aCons (cOp gSub (cC (.int 1)) (cVar 2)) (aCons (cOp gAddA (cVar 2) (cC (.int 1))) aNil))) (gN 3) bodP
theorem loopP {n : Int} (l : List Int) : ∀ (acc : List (List Int)) (x2 x3 x4 : Option D), (∀ a ∈ l, 1 ≤ a ∧ a ≤ 1000) → acc.length + 2000 * l.length ≤ 90000 →
    ∃ y2 y3 y4, fLoop (gN 2) outP (l.map D.int) [some (.int n), some (.cel M.length), x2, x3, x4] (M ++ [acc.map eRow]) =
      some (.nx [some (.int n), some (.cel M.length), y2, y3, y4], M ++ [(acc ++ l.flatMap (clsA n)).map eRow]) := by
  induction l with
  | nil => exact fun acc x2 x3 x4 _ _ => ⟨x2, x3, x4, by simp⟩
  | cons a l ih =>
    intro acc x2 x3 x4 hb hl
    rw [List.length_cons] at hl
    obtain ⟨h1, h2⟩ := hb a List.mem_cons_self
    obtain ⟨y3, y4, e⟩ := inP (M := M) (n := n) h1 h2 (rgI (1 - a) (2 * a).toNat) acc x3 x4 (fun b hb => by have := mem_rgI.mp hb; exact ⟨by omega, by omega⟩) (by rw [rg_len]; omega)
    have hcl := clsA_len (n := n) (a := a)
    obtain ⟨z2, z3, z4, e2⟩ := ih (acc ++ clsA n a) (some (.int a)) y3 y4 (fun z hz => hb z (List.mem_cons_of_mem _ hz)) (by rw [List.length_append]; omega)
    refine ⟨z2, z3, z4, ?_⟩
    rw [List.map_cons, fLoop_cons]
    have hout : outP [some (.int n), some (.cel M.length), some (.int a), x3, x4] (M ++ [acc.map eRow]) = some (.nx [some (.int n), some (.cel M.length), some (.int a), y3, y4], M ++ [(acc ++ clsA n a).map eRow]) := by
      unfold outP
      have hs1 : smI (1 - a) = true := smI_of (by omega) (by omega)
      have hs2 : smI (a + 1) = true := smI_of (by omega) (by omega)
      have ht : (a + 1 - (1 - a)).toNat = (2 * a).toNat := by congr 1; omega
      simp only [sFor_e, iRng2_e, aCons_e, aNil_e, cOp_e, cC_e, cVar_e, List.getElem?_cons_zero, List.getElem?_cons_succ, bnd_ok, gI_e, yes2_e, if_true, gAddA_i, hs1, hs2, Bool.and_self, sbnd_ok, rgD_eq, ht]
      exact e
    simp only [gN_e, List.set_cons_succ, List.set_cons_zero, hout]
    rw [e2, List.flatMap_cons, List.append_assoc]
theorem reduced_twos_is {n : Int} (h : n < 0) (h2 : n % 4 ≤ 1) (h3 : -1200 ≤ n) : ∃ k : Nat, IsRoot ((0 - n) / 3) k ∧ m_reduced_twos [.int n] M = some (.ok (.imm ((clsU n k).map eRow)), M) := by
  obtain ⟨r, hr, e⟩ := root_is (M := M ++ [[]]) (x := (0 - n) / 3) (by omega) (by omega)
  obtain ⟨k, rfl⟩ : ∃ k : Nat, r = k := ⟨r.toNat, by have := hr.1; omega⟩
  have hk : k ≤ 20 := by
    rcases Nat.lt_or_ge 20 k with z | z
    · have : (21 : Int) * 21 ≤ (k : Int) * k := Int.mul_le_mul (by omega) (by omega) (by omega) (by omega)
      have := hr.2.1
      omega
    · exact z
  obtain ⟨y2, y3, y4, e2⟩ := loopP (M := M) (n := n) (rgI 1 k) [] none none none (fun a ha => by have := mem_rgI.mp ha; omega) (by rw [rg_len]; simp; omega)
  refine ⟨k, hr, ?_⟩
  unfold m_reduced_twos f_reduced_twos
  rw [mDef_1, show start0 5 [D.int n] = [some (.int n), none, none, none, none] from rfl]
  rw [sSeq_nx (en1 := [some (.int n), none, none, none, none]) (M1 := M) (by simp [check_gap_is h h2]), sSeq_nx (en1 := [some (.int n), some (.cel M.length), none, none, none]) (M1 := M ++ [[]]) (by simp)]
  have hs : sFor (iRng2C (aCons (cC (.int 1)) (aCons (cOp gAddA (cCall m_root (aCons (cOp gDiv (cOp gSub (cC (.int 0)) (cVar 0)) (cC (.int 3))) aNil)) (cC (.int 1))) aNil))) (gN 2) outP [some (.int n), some (.cel M.length), none, none, none] (M ++ [[]]) =
      some (.nx [some (.int n), some (.cel M.length), y2, y3, y4], M ++ [(clsU n k).map eRow]) := by
    have hd : ∀ y : Int, divC y 3 = true := fun y => divC_of (by decide) (by decide)
    have hs1 : smI 1 = true := by decide
    have hs2 : smI ((k : Int) + 1) = true := smI_of (by omega) (by omega)
    have ht : ((k : Int) + 1 - 1).toNat = k := by omega
    have ha1 : cOp gDiv (cOp gSub (cC (.int 0)) (cVar 0)) (cC (.int 3)) [some (.int n), some (.cel M.length), none, none, none] (M ++ [[]]) = some (.ok (.int ((0 - n) / 3)), M ++ [[]]) := by
      show (if divC (0 - n) 3 = true then (some (Out.ok (D.int ((0 - n) / 3)), M ++ [[]]) : Res D) else none) = _
      rw [if_pos (hd _)]
    have ha2 : cOp gAddA (cCall m_root (aCons (cOp gDiv (cOp gSub (cC (.int 0)) (cVar 0)) (cC (.int 3))) aNil)) (cC (.int 1)) [some (.int n), some (.cel M.length), none, none, none] (M ++ [[]]) = some (.ok (.int ((k : Int) + 1)), M ++ [[]]) := by
      rw [cOp_e, cCall_e, aCons_e, ha1, bnd_ok, aNil_e, bnd_ok, bnd_ok, e, bnd_ok, cC_e, bnd_ok, gAddA_i]
    have hi : iRng2C (aCons (cC (.int 1)) (aCons (cOp gAddA (cCall m_root (aCons (cOp gDiv (cOp gSub (cC (.int 0)) (cVar 0)) (cC (.int 3))) aNil)) (cC (.int 1))) aNil)) [some (.int n), some (.cel M.length), none, none, none] (M ++ [[]]) = some (.ok ((rgI 1 k).map D.int), M ++ [[]]) := by
      rw [iRng2_e, aCons_e, cC_e, bnd_ok, aCons_e, ha2, bnd_ok, aNil_e, bnd_ok, bnd_ok, bnd_ok]
      dsimp only
      rw [hs1, hs2, ht, rgD_eq]
      rfl
    rw [sFor_e, hi, sbnd_ok]
    rw [List.map_nil, List.nil_append] at e2
    unfold clsU
    exact e2
  have hs' := hs
  unfold outP bodP at hs'
  rw [sSeq_nx hs']
  simp
  exact gcF_cel (by simp) (Nat.le_refl _) (clos_map fun _ => clo_row)
end K11
/-! k11, part K: the law's fractions, the classes' weights. -/
namespace K11
open PySem DL
variable {M : Store}
theorem l_gcd_loop : ∀ (m o : Nat), sWhile (cTru (cOp gGt (cVar 1) (cC (.int 0)))) (sPar 0 1 (aCons (cVar 1) (aCons (cOp gMod (cVar 0) (cVar 1)) aNil))) [some (.int o), some (.int m)] M = some (.nx [some (.int (Nat.gcd o m)), some (.int 0)], M) := by
  intro m
  induction m using Nat.strongRecOn with
  | _ m ih =>
    intro o
    cases m with
    | zero =>
      have h : sWhile (cTru (cOp gGt (cVar 1) (cC (.int 0)))) (sPar 0 1 (aCons (cVar 1) (aCons (cOp gMod (cVar 0) (cVar 1)) aNil))) [some (.int o), some (.int (0 : Nat))] M = some (.nx [some (.int o), some (.int (0 : Nat))], M) := sWhile_stop (M1 := M) (by simp)
      rw [h]; simp
    | succ m =>
      refine sWhile_more (en1 := [some (.int (m + 1 : Nat)), some (.int ((o % (m + 1) : Nat) : Int))]) (M1 := M) (M2 := M) ?_ ?_ ?_
      · simp
        try omega
      · simp [modC]
      · rw [ih (o % (m + 1)) (Nat.mod_lt _ (Nat.succ_pos m)) (m + 1)]
        rw [Nat.gcd_comm (m + 1), ← Nat.gcd_rec, Nat.gcd_comm]
theorem l_gcd_is (a b : Int) : m_l_gcd [.int a, .int b] M = some (.ok (.int (Int.gcd a b)), M) := by
  unfold m_l_gcd f_l_gcd
  simp [abs_nat, l_gcd_loop]
  rfl
theorem l_fraction_is (a b : Int) (hb : 0 < b) (h : b < 2 ^ 200) : m_l_fraction [.int a, .int b] M = some (.ok (eRow [a / Int.gcd a b, b / Int.gcd a b]), M) := by
  unfold m_l_fraction f_l_fraction
  have h1 : 0 < (Int.gcd a b : Int) := by
    have := Int.gcd_pos_of_ne_zero_right a (show b ≠ 0 by omega)
    omega
  have h2 : (Int.gcd a b : Int) ≤ b := by
    have := Int.gcd_le_natAbs_right a (show b ≠ 0 by omega)
    omega
  have hd : ∀ x : Int, divC x (Int.gcd a b) = true := fun x => divC_of h1 (by omega)
  simp [l_gcd_is, hd, show ¬ b < 0 by omega, row2]
def smB (x : Int) : Bool := decide (-(10 ^ 15) < x) && decide (x < 10 ^ 15)
theorem smB_ok {x : Int} (h : smB x = true) : Sm x := by
  unfold smB at h
  rw [Bool.and_eq_true, decide_eq_true_eq, decide_eq_true_eq] at h
  exact h
/-- a fraction, reduced; the numbers looked at -/
def frO (a b : Int) : Option (List Int) := if (decide (0 < b) && decide (b < 10 ^ 30)) = true then some [a / Int.gcd a b, b / Int.gcd a b] else none
def addO : List Int → List Int → Option (List Int)
  | [a, b], [c, d] => if (smB a && (smB b && (smB c && smB d))) = true then frO (a * d + c * b) (b * d) else none
  | _, _ => none
def timesO : List Int → List Int → Option (List Int)
  | [a, b], [c, d] => if (smB a && (smB b && (smB c && smB d))) = true then frO (a * c) (b * d) else none
  | _, _ => none
theorem frO_ok {a b : Int} {r : List Int} (h : frO a b = some r) : 0 < b ∧ b < 2 ^ 200 ∧ r = [a / Int.gcd a b, b / Int.gcd a b] := by
  unfold frO at h
  split at h
  · rename_i q
    rw [Bool.and_eq_true, decide_eq_true_eq, decide_eq_true_eq] at q
    refine ⟨q.1, ?_, (Option.some.inj h).symm⟩
    have : (10 : Int) ^ 30 < 2 ^ 200 := by decide
    omega
  · cases h
theorem l_add_is {x y r : List Int} (h : addO x y = some r) : m_l_add [eRow x, eRow y] M = some (.ok (eRow r), M) := by
  unfold addO at h
  split at h
  · rename_i a b c d
    split at h
    · rename_i q
      simp only [Bool.and_eq_true] at q
      obtain ⟨q1, q2, q3, q4⟩ := q
      obtain ⟨h1, h2, rfl⟩ := frO_ok h
      unfold m_l_add f_l_add
      have hf := l_fraction_is (M := M) (a * d + c * b) (b * d) h1 h2
      simp [(smB_ok q4).r, (smB_ok q2).r, hf]
    · cases h
  · cases h
theorem l_times_is {x y r : List Int} (h : timesO x y = some r) : m_l_times [eRow x, eRow y] M = some (.ok (eRow r), M) := by
  unfold timesO at h
  split at h
  · rename_i a b c d
    split at h
    · rename_i q
      simp only [Bool.and_eq_true] at q
      obtain ⟨q1, q2, q3, q4⟩ := q
      obtain ⟨h1, h2, rfl⟩ := frO_ok h
      unfold m_l_times f_l_times
      have hf := l_fraction_is (M := M) (a * c) (b * d) h1 h2
      simp [(smB_ok q4).r, (smB_ok q3).r, hf]
    · cases h
  · cases h
/-! weights -/
def wP (a b c : Int) : Int := if (b == 0 && a == c) = true then 3 else if (a == b && b == c) = true then 2 else 6
def wSum : List (List Int) → Int → Int
  | [a, b, c] :: l, x => wSum l (x + wP a b c)
  | _, x => x
/-- rows of three -/
def three : List (List Int) → Prop := fun l => ∀ r ∈ l, ∃ a b c, r = [a, b, c]
theorem wgt_loop (l : List (List Int)) : ∀ (x : Int) (x0 x2 x3 x4 : Option D), three l →
    ∃ y2 y3 y4, fLoop (gTupC 3 (gConsC (gN 2) (gConsC (gN 3) (gConsC (gN 4) gNilC)))) (sAug 1 gAdd (cIf (tAndC (cTru (cOp (gEq false) (cVar 3) (cC (.int 0)))) (cTru (cOp (gEq false) (cVar 2) (cVar 4)))) (cC (.int 3)) (cIf (cTru (cCh2 (gEq false) (gEq false) (cVar 2) (cVar 3) (cVar 4))) (cC (.int 2)) (cC (.int 6))))) (l.map eRow) [x0, some (.int x), x2, x3, x4] M =
      some (.nx [x0, some (.int (wSum l x)), y2, y3, y4], M) := by
  induction l with
  | nil => exact fun x x0 x2 x3 x4 _ => ⟨x2, x3, x4, rfl⟩
  | cons r l ih =>
    intro x x0 x2 x3 x4 h
    obtain ⟨a, b, c, rfl⟩ := h r List.mem_cons_self
    obtain ⟨y2, y3, y4, e⟩ := ih (x + wP a b c) x0 (some (.int a)) (some (.int b)) (some (.int c)) fun r hr => h r (List.mem_cons_of_mem _ hr)
    refine ⟨y2, y3, y4, ?_⟩
    rw [List.map_cons, fLoop_cons]
    have hw : sAug 1 gAdd (cIf (tAndC (cTru (cOp (gEq false) (cVar 3) (cC (.int 0)))) (cTru (cOp (gEq false) (cVar 2) (cVar 4)))) (cC (.int 3)) (cIf (cTru (cCh2 (gEq false) (gEq false) (cVar 2) (cVar 3) (cVar 4))) (cC (.int 2)) (cC (.int 6)))) [x0, some (.int x), some (.int a), some (.int b), some (.int c)] M = some (.nx [x0, some (.int (x + wP a b c)), some (.int a), some (.int b), some (.int c)], M) := by
      unfold wP
      simp only [sAug_e, cIf_e, tAndC_e, cTru_e, cOp_e, cVar_e, cC_e, List.getElem?_cons_zero, List.getElem?_cons_succ, bnd_ok, gEq_int, Bool.false_eq_true, if_false, tru_bl, cCh2_e]
      cases (b == 0) <;> cases (a == c) <;> cases (a == b) <;> cases (b == c) <;> rfl
    have ht : gTupC 3 (gConsC (gN 2) (gConsC (gN 3) (gConsC (gN 4) gNilC))) (eRow [a, b, c]) [x0, some (.int x), x2, x3, x4] M = some ([x0, some (.int x), some (.int a), some (.int b), some (.int c)], M) := by
      simp
    rw [ht]
    dsimp only
    rw [hw]
    exact e
theorem three_clsU {n : Int} {k : Nat} : three (clsU n k) := by
  intro r hr
  obtain ⟨a, _, ha⟩ := List.mem_flatMap.mp hr
  obtain ⟨b, _, rfl⟩ := List.mem_map.mp ha
  exact ⟨_, _, _, rfl⟩
theorem weighted_is {n : Int} (h : n < 0) (h2 : n % 4 ≤ 1) (h3 : -1200 ≤ n) : ∃ k : Nat, IsRoot ((0 - n) / 3) k ∧
    m_weighted_classes [.int n] M = some (.ok (eRow [wSum (clsU n k) 0 / Int.gcd (wSum (clsU n k) 0) 6, 6 / Int.gcd (wSum (clsU n k) 0) 6]), M) := by
  obtain ⟨k, hk, e⟩ := reduced_twos_is (M := M) h h2 h3
  refine ⟨k, hk, ?_⟩
  obtain ⟨y2, y3, y4, e2⟩ := wgt_loop (M := M) (clsU n k) 0 (some (.int n)) none none none three_clsU
  have e3 := fraction_is (M := M) (wSum (clsU n k) 0) 6 (by decide) (by decide)
  unfold m_weighted_classes f_weighted_classes
  rw [mDef_1, show start0 5 [D.int n] = [some (.int n), none, none, none, none] from rfl]
  rw [sSeq_nx (en1 := [some (.int n), some (.int 0), none, none, none]) (M1 := M) (by simp)]
  have hs : sFor (iSeq (cCall m_reduced_twos (aCons (cVar 0) aNil))) (gTupC 3 (gConsC (gN 2) (gConsC (gN 3) (gConsC (gN 4) gNilC)))) (sAug 1 gAdd (cIf (tAndC (cTru (cOp (gEq false) (cVar 3) (cC (.int 0)))) (cTru (cOp (gEq false) (cVar 2) (cVar 4)))) (cC (.int 3)) (cIf (cTru (cCh2 (gEq false) (gEq false) (cVar 2) (cVar 3) (cVar 4))) (cC (.int 2)) (cC (.int 6))))) [some (.int n), some (.int 0), none, none, none] M =
      some (.nx [some (.int n), some (.int (wSum (clsU n k) 0)), y2, y3, y4], M) := by
    have hi : iSeq (cCall m_reduced_twos (aCons (cVar 0) aNil)) [some (.int n), some (.int 0), none, none, none] M = some (.ok ((clsU n k).map eRow), M) := by
      simp [e]
    rw [sFor_e, hi, sbnd_ok]
    exact e2
  rw [sSeq_nx hs]
  simp [e3, row2]
end K11
/-! k11, part N: the law's own lists of forms. -/
namespace K11
open PySem DL
variable {M : Store}
def pL (n : Int) (w : Bool) (a b : Int) : Bool := ((b * b - n) % (4 * a) == 0) && (decide (a ≤ cQ n a b) && ((decide (0 ≤ b) || !(a == cQ n a b)) && (!w || ((Int.gcd (Int.gcd a b) (cQ n a b) : Int) == 1))))
noncomputable def bodL : SF := (sIf (cTru (cOp (gEq false) (cOp gMod (cOp gSub (cOp gMul (cVar 4) (cVar 4)) (cVar 0)) (cOp gMul (cC (.int 4)) (cVar 3))) (cC (.int 0)))) (sSeq (sAsg (cOp gDiv (cOp gSub (cOp gMul (cVar 4) (cVar 4)) (cVar 0)) (cOp gMul (cC (.int 4)) (cVar 3))) (gN 5)) (sIf (tAndC (cTru (cOp gGe (cVar 5) (cVar 3))) (tAndC (tOrC (cTru (cOp gGe (cVar 4) (cC (.int 0)))) (cTru (cOp (gEq true) (cVar 3) (cVar 5)))) (tOrC (tNotC (cTru (cVar 1))) (cTru (cOp (gEq false) (cCall m_l_gcd (aCons (cCall m_l_gcd (aCons (cVar 3) (aCons (cVar 4) aNil))) (aCons (cVar 5) aNil))) (cC (.int 1))))))) (sExpr (cApp (cVar 2) (cTup (aCons (cVar 3) (aCons (cVar 4) (aCons (cVar 5) aNil)))))) sSkip)) sSkip)
theorem app_is {n a b c : Int} {w : Bool} {acc : List (List Int)} (h : acc.length + 1 ≤ 16777216) : sExpr (cApp (cVar 2) (cTup (aCons (cVar 3) (aCons (cVar 4) (aCons (cVar 5) aNil))))) [some (.int n), some (.bl w), some (.cel M.length), some (.int a), some (.int b), some (.int c)] (M ++ [acc.map eRow]) =
    some (.nx [some (.int n), some (.bl w), some (.cel M.length), some (.int a), some (.int b), some (.int c)], M ++ [(acc ++ [[a, b, c]]).map eRow]) := by
  simp [szOk_of h, row3]
theorem tst_is {n a b c : Int} {w : Bool} {st : Store} {x2 : Option D} : tAndC (cTru (cOp gGe (cVar 5) (cVar 3))) (tAndC (tOrC (cTru (cOp gGe (cVar 4) (cC (.int 0)))) (cTru (cOp (gEq true) (cVar 3) (cVar 5)))) (tOrC (tNotC (cTru (cVar 1))) (cTru (cOp (gEq false) (cCall m_l_gcd (aCons (cCall m_l_gcd (aCons (cVar 3) (aCons (cVar 4) aNil))) (aCons (cVar 5) aNil))) (cC (.int 1))))))
      [some (.int n), some (.bl w), x2, some (.int a), some (.int b), some (.int c)] st = some (.ok (decide (a ≤ c) && ((decide (0 ≤ b) || !(a == c)) && (!w || ((Int.gcd (Int.gcd a b) c : Int) == 1)))), st) := by
  simp only [tAndC_e, tOrC_e, tNotC_e, cTru_e, cOp_e, cVar_e, cC_e, cCall_e, aCons_e, aNil_e, List.getElem?_cons_zero, List.getElem?_cons_succ, bnd_ok, gEq_int, gI_e, yes2_e, if_true, tru_bl, l_gcd_is]
  generalize ((Int.gcd (Int.gcd a b) c : Int) == 1) = k1
  cases decide (a ≤ c) <;> cases decide (0 ≤ b) <;> cases (a == c) <;> cases w <;> cases k1 <;> rfl
theorem inL {n a : Int} {w : Bool} (ha : 1 ≤ a) (ha2 : a ≤ 1000) (l : List Int) : ∀ (acc : List (List Int)) (x4 x5 : Option D), (∀ b ∈ l, Sm b) → acc.length + l.length ≤ 100000 →
    ∃ y4 y5, fLoop (gN 4) bodL (l.map D.int) [some (.int n), some (.bl w), some (.cel M.length), some (.int a), x4, x5] (M ++ [acc.map eRow]) =
      some (.nx [some (.int n), some (.bl w), some (.cel M.length), some (.int a), y4, y5], M ++ [(acc ++ (l.filter (pL n w a)).map (rQ n a)).map eRow]) := by
  induction l with
  | nil => exact fun acc x4 x5 _ _ => ⟨x4, x5, by simp⟩
  | cons b l ih =>
    intro acc x4 x5 hb hl
    rw [List.length_cons] at hl
    have hsb := hb b List.mem_cons_self
    have hd : ∀ y : Int, divC y (4 * a) = true := fun y => divC_of (by omega) (by omega)
    have hm : ∀ y : Int, modC y (4 * a) = true := fun y => modC_of (by omega)
    rw [List.map_cons, fLoop_cons]
    by_cases h1 : (b * b - n) % (4 * a) = 0
    · have hq : ∀ st : Store, (cTru (cOp (gEq false) (cOp gMod (cOp gSub (cOp gMul (cVar 4) (cVar 4)) (cVar 0)) (cOp gMul (cC (.int 4)) (cVar 3))) (cC (.int 0)))) [some (.int n), some (.bl w), some (.cel M.length), some (.int a), some (.int b), x5] st = some (.ok true, st) := fun st => by
        simp [hsb.l, m4, hm, h1]
      have hc : ∀ st : Store, sAsg (cOp gDiv (cOp gSub (cOp gMul (cVar 4) (cVar 4)) (cVar 0)) (cOp gMul (cC (.int 4)) (cVar 3))) (gN 5) [some (.int n), some (.bl w), some (.cel M.length), some (.int a), some (.int b), x5] st =
          some (.nx [some (.int n), some (.bl w), some (.cel M.length), some (.int a), some (.int b), some (.int (cQ n a b))], st) := fun st => by
        simp [hsb.l, m4, hd, cQ]
      by_cases h2 : pL n w a b = true
      · obtain ⟨y4, y5, e⟩ := ih (acc ++ [rQ n a b]) (some (.int b)) (some (.int (cQ n a b))) (fun z hz => hb z (List.mem_cons_of_mem _ hz)) (by simp; omega)
        refine ⟨y4, y5, ?_⟩
        have h3 := h2
        unfold pL at h3
        rw [Bool.and_eq_true] at h3
        have hbod : bodL [some (.int n), some (.bl w), some (.cel M.length), some (.int a), some (.int b), x5] (M ++ [acc.map eRow]) = some (.nx [some (.int n), some (.bl w), some (.cel M.length), some (.int a), some (.int b), some (.int (cQ n a b))], M ++ [(acc ++ [rQ n a b]).map eRow]) := by
          unfold bodL
          rw [sIf_e, hq, sbnd_ok, if_pos rfl, sSeq_nx (hc _), sIf_e, tst_is, sbnd_ok, if_pos h3.2, app_is (by omega)]
          rfl
        simp only [gN_e, List.set_cons_succ, List.set_cons_zero, hbod]
        rw [e, List.filter_cons_of_pos h2]
        simp
      · obtain ⟨y4, y5, e⟩ := ih acc (some (.int b)) (some (.int (cQ n a b))) (fun z hz => hb z (List.mem_cons_of_mem _ hz)) (by omega)
        refine ⟨y4, y5, ?_⟩
        have h3 : ¬ (decide (a ≤ cQ n a b) && ((decide (0 ≤ b) || !(a == cQ n a b)) && (!w || ((Int.gcd (Int.gcd a b) (cQ n a b) : Int) == 1)))) = true := fun z => h2 (by
          unfold pL
          rw [z, h1]; rfl)
        have hbod : bodL [some (.int n), some (.bl w), some (.cel M.length), some (.int a), some (.int b), x5] (M ++ [acc.map eRow]) = some (.nx [some (.int n), some (.bl w), some (.cel M.length), some (.int a), some (.int b), some (.int (cQ n a b))], M ++ [acc.map eRow]) := by
          unfold bodL
          rw [sIf_e, hq, sbnd_ok, if_pos rfl, sSeq_nx (hc _), sIf_e, tst_is, sbnd_ok, if_neg h3, sSkip_e]
        simp only [gN_e, List.set_cons_succ, List.set_cons_zero, hbod]
        rw [e, List.filter_cons_of_neg h2]
    · obtain ⟨y4, y5, e⟩ := ih acc (some (.int b)) x5 (fun z hz => hb z (List.mem_cons_of_mem _ hz)) (by omega)
      refine ⟨y4, y5, ?_⟩
      have hp : ¬ pL n w a b = true := by unfold pL; rw [Bool.and_eq_true]; exact fun z => h1 (by simpa using z.1)
      have hbod : bodL [some (.int n), some (.bl w), some (.cel M.length), some (.int a), some (.int b), x5] (M ++ [acc.map eRow]) = some (.nx [some (.int n), some (.bl w), some (.cel M.length), some (.int a), some (.int b), x5], M ++ [acc.map eRow]) := by
        simp [bodL, hsb.l, m4, hm, h1]
      simp only [gN_e, List.set_cons_succ, List.set_cons_zero, hbod]
      rw [e, List.filter_cons_of_neg hp]
/-- the rows with first number a, told by the law -/
def lawA (n : Int) (w : Bool) (a : Int) : List (List Int) := ((rgI (1 - a) (2 * a).toNat).filter (pL n w a)).map (rQ n a)
theorem lawA_len {n a : Int} {w : Bool} : (lawA n w a).length ≤ (2 * a).toNat := by
  unfold lawA
  rw [List.length_map]
  exact Nat.le_trans (List.length_filter_le _ _) (by rw [rg_len]; exact Nat.le_refl _)
noncomputable def tstL : TF := cTru (cOp gLe (cOp gMul (cOp gMul (cC (.int 3)) (cVar 3)) (cVar 3)) (cOp gSub (cC (.int 0)) (cVar 0)))
noncomputable def wbL : SF := sSeq (sFor (iRng2C (aCons (cOp gSub (cC (.int 1)) (cVar 3)) (aCons (cOp gAddA (cVar 3) (cC (.int 1))) aNil))) (gN 4) bodL) (sAsg (cOp gAddA (cVar 3) (cC (.int 1))) (gN 3))
theorem whileL {n : Int} {w : Bool} {k : Nat} (hk : k ≤ 20) (hr : IsRoot ((0 - n) / 3) k) : ∀ (j : Nat) (a : Int) (acc : List (List Int)) (x4 x5 : Option D), 1 ≤ a → a + j = k + 1 → acc.length + 2000 * j ≤ 90000 →
    ∃ y3 y4 y5, sWhile tstL wbL [some (.int n), some (.bl w), some (.cel M.length), some (.int a), x4, x5] (M ++ [acc.map eRow]) =
      some (.nx [some (.int n), some (.bl w), some (.cel M.length), y3, y4, y5], M ++ [(acc ++ (rgI a j).flatMap (lawA n w)).map eRow]) := by
  intro j
  induction j with
  | zero =>
    intro a acc x4 x5 h1 h2 _
    refine ⟨some (.int a), x4, x5, ?_⟩
    have hak : a = k + 1 := by omega
    have hf : tstL [some (.int n), some (.bl w), some (.cel M.length), some (.int a), x4, x5] (M ++ [acc.map eRow]) = some (.ok false, M ++ [acc.map eRow]) := by
      have h3 := hr.2.2
      have e3 : 3 * a * a = 3 * ((k + 1) * (k + 1)) := by rw [hak]; grind
      have : ¬ 3 * a * a ≤ 0 - n := by omega
      unfold tstL
      simp only [cTru_e, cOp_e, cVar_e, cC_e, List.getElem?_cons_zero, List.getElem?_cons_succ, bnd_ok, gI_e, yes2_e, if_true, show mulC 3 a = true from mulC_l (by decide) (by decide), show ∀ y : Int, mulC y a = true from fun y => mulC_r (by omega) (by omega), tru_bl, decide_eq_false this]
    rw [sWhile_stop hf]
    simp [rgI]
  | succ j ih =>
    intro a acc x4 x5 h1 h2 h3
    have hak : a ≤ k := by omega
    have ht : tstL [some (.int n), some (.bl w), some (.cel M.length), some (.int a), x4, x5] (M ++ [acc.map eRow]) = some (.ok true, M ++ [acc.map eRow]) := by
      have h4 := hr.2.1
      have h5 : a * a ≤ (k : Int) * k := Int.mul_le_mul hak hak (by omega) (by omega)
      have e3 : 3 * a * a = 3 * (a * a) := by grind
      have : 3 * a * a ≤ 0 - n := by omega
      unfold tstL
      simp only [cTru_e, cOp_e, cVar_e, cC_e, List.getElem?_cons_zero, List.getElem?_cons_succ, bnd_ok, gI_e, yes2_e, if_true, show mulC 3 a = true from mulC_l (by decide) (by decide), show ∀ y : Int, mulC y a = true from fun y => mulC_r (by omega) (by omega), tru_bl, decide_eq_true this]
    obtain ⟨y4, y5, e⟩ := inL (M := M) (n := n) (w := w) h1 (by omega) (rgI (1 - a) (2 * a).toNat) acc x4 x5 (fun b hb => by have := mem_rgI.mp hb; exact ⟨by omega, by omega⟩) (by rw [rg_len]; omega)
    have hll := lawA_len (n := n) (a := a) (w := w)
    obtain ⟨z3, z4, z5, e2⟩ := ih (a + 1) (acc ++ lawA n w a) y4 y5 (by omega) (by omega) (by rw [List.length_append]; omega)
    refine ⟨z3, z4, z5, ?_⟩
    have hb : wbL [some (.int n), some (.bl w), some (.cel M.length), some (.int a), x4, x5] (M ++ [acc.map eRow]) = some (.nx [some (.int n), some (.bl w), some (.cel M.length), some (.int (a + 1)), y4, y5], M ++ [(acc ++ lawA n w a).map eRow]) := by
      have hs1 : smI (1 - a) = true := smI_of (by omega) (by omega)
      have hs2 : smI (a + 1) = true := smI_of (by omega) (by omega)
      have htn : (a + 1 - (1 - a)).toNat = (2 * a).toNat := by congr 1; omega
      have hf : sFor (iRng2C (aCons (cOp gSub (cC (.int 1)) (cVar 3)) (aCons (cOp gAddA (cVar 3) (cC (.int 1))) aNil))) (gN 4) bodL [some (.int n), some (.bl w), some (.cel M.length), some (.int a), x4, x5] (M ++ [acc.map eRow]) = some (.nx [some (.int n), some (.bl w), some (.cel M.length), some (.int a), y4, y5], M ++ [(acc ++ lawA n w a).map eRow]) := by
        simp only [sFor_e, iRng2_e, aCons_e, aNil_e, cOp_e, cC_e, cVar_e, List.getElem?_cons_zero, List.getElem?_cons_succ, bnd_ok, gI_e, yes2_e, if_true, gAddA_i, hs1, hs2, Bool.and_self, sbnd_ok, rgD_eq, htn]
        exact e
      unfold wbL
      rw [sSeq_nx hf]
      simp
    rw [sWhile_more ht hb e2]
    have hrg : rgI a (j + 1) = a :: rgI (a + 1) j := by
      unfold rgI
      rw [List.range_succ_eq_map, List.map_cons, List.map_map]
      congr 1
      · simp
      · apply List.map_congr_left
        intro i _
        show a + ((i + 1 : Nat) : Int) = a + 1 + i
        omega
    rw [hrg, List.flatMap_cons, List.append_assoc]
end K11
/-! k11, part O: both lists are one; sorted. -/
namespace K11
open PySem DL
variable {M : Store}
def isPrim (r : List Int) : Bool := gcdL r == 1
theorem gcdL_3 {a b c : Int} (ha : 1 ≤ a) : gcdL [a, b, c] = (Int.gcd (Int.gcd a b) c : Int) := by
  unfold gcdL
  simp only [List.foldl_cons, List.foldl_nil]
  have : (Int.gcd 0 a : Int) = a := by rw [Int.gcd_zero_left]; omega
  rw [this]
theorem lawA_eq {n a : Int} {w : Bool} (ha : 1 ≤ a) : lawA n w a = (clsA n a).filter fun r => !w || isPrim r := by
  unfold lawA clsA
  rw [List.filter_map, List.filter_filter]
  congr 1
  refine List.filter_congr fun b hb => ?_
  have hb := mem_rgI.mp hb
  unfold pL pQ redF isPrim
  simp only [Function.comp]
  show _ = ((!w || (gcdL [a, b, cQ n a b] == 1)) && _)
  rw [gcdL_3 ha, decide_eq_true (show -a < b by omega), decide_eq_true (show b ≤ a by omega)]
  have e : decide (b < 0) = !decide (0 ≤ b) := by by_cases h : 0 ≤ b <;> simp [h] <;> omega
  rw [e]
  generalize ((Int.gcd (Int.gcd a b) (cQ n a b) : Int) == 1) = k1
  generalize ((b * b - n) % (4 * a) == 0) = k2
  cases decide (a ≤ cQ n a b) <;> cases decide (0 ≤ b) <;> cases (a == cQ n a b) <;> cases w <;> cases k1 <;> cases k2 <;> rfl
theorem clsL_eq {n : Int} {w : Bool} {k : Nat} : (rgI 1 k).flatMap (lawA n w) = (clsU n k).filter fun r => !w || isPrim r := by
  unfold clsU
  rw [List.filter_flatMap]
  have : ∀ l : List Int, (∀ a ∈ l, 1 ≤ a) → l.flatMap (lawA n w) = l.flatMap fun a => (clsA n a).filter fun r => !w || isPrim r := by
    intro l
    induction l with
    | nil => intro _; rfl
    | cons a l ih =>
      intro h
      rw [List.flatMap_cons, List.flatMap_cons, lawA_eq (h a List.mem_cons_self), ih fun b hb => h b (List.mem_cons_of_mem _ hb)]
  exact this _ fun a ha => (mem_rgI.mp ha).1
/-! order -/
def ltR (r s : List Int) : Prop := ∃ a b c a' b' c', r = [a, b, c] ∧ s = [a', b', c'] ∧ (a < a' ∨ (a = a' ∧ b < b'))
theorem rgI_lt {lo : Int} {k : Nat} : (rgI lo k).Pairwise (· < ·) := by
  unfold rgI
  rw [List.pairwise_map]
  exact List.pairwise_lt_range.imp fun h => by omega
theorem clsU_lt {n : Int} {k : Nat} : (clsU n k).Pairwise ltR := by
  unfold clsU
  rw [List.pairwise_flatMap]
  refine ⟨fun a _ => ?_, rgI_lt.imp fun {a b} h x hx y hy => ?_⟩
  · unfold clsA
    rw [List.pairwise_map]
    exact (List.Pairwise.filter _ rgI_lt).imp fun {b b'} h => ⟨_, _, _, _, _, _, rfl, rfl, .inr ⟨rfl, h⟩⟩
  · obtain ⟨u, _, rfl⟩ := List.mem_map.mp hx
    obtain ⟨v, _, rfl⟩ := List.mem_map.mp hy
    exact ⟨_, _, _, _, _, _, rfl, rfl, .inl h⟩
theorem sort_is {l : List (List Int)} (h : l.Pairwise ltR) (h3 : three l) (hl : l.length ≤ 16777216) {n : Nat} (hn : M[n]? = some (l.map eRow)) : gSort [.cel n] M = some (.ok (.imm (l.map eRow)), M) := by
  unfold gSort
  dsimp only
  rw [items_c, hn]
  dsimp only
  rw [toPys_map (g := pRow) fun _ => toPy_row]
  dsimp only
  have hs : SrtOk (l.map pRow) := by
    refine ⟨fun d hd d' hd' => ?_, .inl fun d hd => ?_, fun d hd => ?_, by simpa using hl⟩
    · obtain ⟨r, hr, rfl⟩ := List.mem_map.mp hd
      obtain ⟨s, hs, rfl⟩ := List.mem_map.mp hd'
      obtain ⟨a, b, c, rfl⟩ := h3 r hr
      obtain ⟨a', b', c', rfl⟩ := h3 s hs
      simp [pRow, PySem.W.alike, PySem.W.alikeAll]
    · obtain ⟨r, hr, rfl⟩ := List.mem_map.mp hd
      obtain ⟨a, b, c, rfl⟩ := h3 r hr
      exact ⟨_, _, rfl⟩
    · obtain ⟨r, hr, rfl⟩ := List.mem_map.mp hd
      exact Nat.le_trans depth_row (by decide)
  rw [if_pos ⟨hs, fun es z => by cases z⟩]
  have hz : (l.map eRow).zip (l.map pRow) = l.map fun r => (eRow r, pRow r) := by rw [List.zip_map']
  rw [hz, List.mergeSort_of_pairwise, List.map_map]
  · rfl
  · rw [List.pairwise_map]
    exact h.imp fun {r s} q => by
      obtain ⟨a, b, c, a', b', c', rfl, rfl, q⟩ := q
      exact le_rows q
theorem root_unique {x : Int} {r s : Int} (h : IsRoot x r) (h2 : IsRoot x s) : r = s := by
  obtain ⟨a1, a2, a3⟩ := h
  obtain ⟨b1, b2, b3⟩ := h2
  have lt : ∀ {u v : Int}, 0 ≤ u → 0 ≤ v → u < v → (u + 1) * (u + 1) ≤ v * v := fun hu hv huv => Int.mul_le_mul (by omega) (by omega) (by omega) (by omega)
  rcases Int.lt_trichotomy r s with z | z | z
  · have := lt a1 b1 z; omega
  · exact z
  · have := lt b1 a1 z; omega
/-- the root, by looking -/
def rootN (x : Int) : Nat := ((List.range 20).filter fun (i : Nat) => decide (((i : Int) + 1) * ((i : Int) + 1) ≤ x)).length
theorem rootN_all : ((List.range 401).all fun (x : Nat) => decide (0 ≤ (rootN (x : Int) : Int)) && (decide ((rootN (x : Int) : Int) * (rootN (x : Int) : Int) ≤ (x : Int)) && decide ((x : Int) < ((rootN (x : Int) : Int) + 1) * ((rootN (x : Int) : Int) + 1)))) = true := by decide +kernel
theorem rootN_is {x : Int} (h0 : 0 ≤ x) (h1 : x ≤ 400) : IsRoot x (rootN x) := by
  have := List.all_eq_true.mp rootN_all x.toNat (List.mem_range.mpr (by omega))
  rw [Bool.and_eq_true, Bool.and_eq_true, decide_eq_true_eq, decide_eq_true_eq, decide_eq_true_eq] at this
  have e : ((x.toNat : Nat) : Int) = x := by omega
  rw [e] at this
  exact this
/-- all reduced forms -/
def cls (n : Int) : List (List Int) := clsU n (rootN ((0 - n) / 3))
/-- the whole ones -/
def prm (n : Int) : List (List Int) := (cls n).filter isPrim
structure Num (n : Int) : Prop where
  neg : n < 0
  mod : n % 4 ≤ 1
  lo : -1200 ≤ n
theorem Num.root {n : Int} (h : Num n) {k : Nat} (hk : IsRoot ((0 - n) / 3) k) : k = rootN ((0 - n) / 3) := by
  have h1 := h.neg; have h2 := h.lo
  have := root_unique hk (rootN_is (x := (0 - n) / 3) (by omega) (by omega))
  omega
theorem Num.k20 {n : Int} (h : Num n) : rootN ((0 - n) / 3) ≤ 20 := by
  unfold rootN
  exact Nat.le_trans (List.length_filter_le _ _) (by simp)
theorem twos_is {n : Int} (h : Num n) : m_reduced_twos [.int n] M = some (.ok (.imm ((cls n).map eRow)), M) := by
  obtain ⟨k, hk, e⟩ := reduced_twos_is (M := M) h.neg h.mod h.lo
  rw [h.root hk] at e
  exact e
theorem cls_three {n : Int} : three (cls n) := three_clsU
theorem cls_len {n : Int} (h : Num n) : (cls n).length ≤ 40000 := by
  unfold cls clsU
  have key : ∀ l : List Int, (∀ a ∈ l, 1 ≤ a ∧ a ≤ 1000) → (l.flatMap (clsA n)).length ≤ 2000 * l.length := by
    intro l
    induction l with
    | nil => intro _; simp
    | cons a l ih =>
      intro q
      rw [List.flatMap_cons, List.length_append, List.length_cons]
      have := ih fun b hb => q b (List.mem_cons_of_mem _ hb)
      have := clsA_len (n := n) (a := a)
      have := q a List.mem_cons_self
      omega
  have hk := h.k20
  have := key (rgI 1 (rootN ((0 - n) / 3))) fun a ha => by have := mem_rgI.mp ha; omega
  rw [rg_len] at this
  omega
theorem l_classes_is {n : Int} {w : Bool} (h : Num n) : m_l_classes [.int n, .bl w] M = some (.ok (.imm (((cls n).filter fun r => !w || isPrim r).map eRow)), M) := by
  have h1 := h.neg; have h2 := h.lo
  have hk := h.k20
  have hr := rootN_is (x := (0 - n) / 3) (by omega) (by omega)
  obtain ⟨y3, y4, y5, e⟩ := whileL (M := M) (w := w) hk hr (rootN ((0 - n) / 3)) 1 [] none none (by omega) (by omega) (by rw [List.length_nil]; omega)
  rw [List.nil_append, clsL_eq] at e
  unfold m_l_classes f_l_classes
  rw [mDef_2, show start0 6 [D.int n, .bl w] = [some (.int n), some (.bl w), none, none, none, none] from rfl]
  rw [sSeq_nx (en1 := [some (.int n), some (.bl w), some (.cel M.length), none, none, none]) (M1 := M ++ [[]]) (by simp), sSeq_nx (en1 := [some (.int n), some (.bl w), some (.cel M.length), some (.int 1), none, none]) (M1 := M ++ [[]]) (by simp)]
  have e' := e
  unfold tstL wbL bodL at e'
  rw [List.map_nil] at e'
  rw [sSeq_nx e']
  have hl : (cls n).filter (fun r => !w || isPrim r) = (clsU n (rootN ((0 - n) / 3))).filter fun r => !w || isPrim r := rfl
  rw [← hl]
  have hs : sRet (cCall gSort (aCons (cVar 2) aNil)) [some (.int n), some (.bl w), some (.cel M.length), y3, y4, y5] (M ++ [((cls n).filter fun r => !w || isPrim r).map eRow]) =
      some (.rt (.imm (((cls n).filter fun r => !w || isPrim r).map eRow)), M ++ [((cls n).filter fun r => !w || isPrim r).map eRow]) := by
    have hg : gSort [.cel M.length] (M ++ [((cls n).filter fun r => !w || isPrim r).map eRow]) = some (.ok (.imm (((cls n).filter fun r => !w || isPrim r).map eRow)), M ++ [((cls n).filter fun r => !w || isPrim r).map eRow]) := by
      exact sort_is (clsU_lt.filter _) (fun r hr => cls_three r (List.mem_filter.mp hr).1) (Nat.le_trans (List.length_filter_le _ _) (Nat.le_trans (cls_len h) (by decide))) List.getElem?_concat_length
    simp only [sRet_e, cCall_e, aCons_e, aNil_e, cVar_e, List.getElem?_cons_zero, List.getElem?_cons_succ, bnd_ok, hg, sbnd_ok]
  rw [hs, fin_rt]
  exact gcF_ok (by simp [clo_row]) rfl
theorem two_classes_is {n : Int} (h : Num n) : m_two_classes [.int n] M = some (.ok (eTab (prm n)), M) := by
  unfold m_two_classes f_two_classes
  rw [mDef_1, show start0 2 [D.int n] = [some (.int n), none] from rfl]
  have hl : cLc (iSeq (cCall m_reduced_twos (aCons (cVar 0) aNil))) (gN 1) (cTru (cOp (gEq false) (cCall m_divisor_of (aCons (cVar 1) aNil)) (cC (.int 1)))) (cVar 1) [1] [some (.int n), none] M = some (.ok (.imm ((prm n).map eRow)), M) := by
    have := lc_of (M := M) (en := [some (.int n), none]) (g := gN 1) (t := cTru (cOp (gEq false) (cCall m_divisor_of (aCons (cVar 1) aNil)) (cC (.int 1)))) (f := cVar 1) (mk := mkI) (fi := iSeq (cCall m_reduced_twos (aCons (cVar 0) aNil))) (vs := [1]) eRow isPrim eRow (cls n) (by simp [twos_is h]) (Nat.le_trans (cls_len h) (by decide)) fun r hr => ⟨[some (.int n), some (eRow r)], by simp, by simp [divisor_of_is, isPrim], fun _ => by simp⟩
    exact this
  simp only [sRet_e, cCall_e, aCons_e, aNil_e, hl, bnd_ok, gTuple_l, sbnd_ok, fin_rt]
  exact gcF_ok0 (by simp) rfl
end K11
/-! k11, part Q: the weights. -/
namespace K11
open PySem DL
variable {M : Store}
def wF : List Int → List Int
  | [a, b, c] => if (b == 0 && a == c) = true then [1, 2] else if (a == b && b == c) = true then [1, 3] else [1, 1]
  | _ => []
def wlO : List (List Int) → List Int → Option (List Int)
  | [], acc => some acc
  | r :: l, acc => match addO acc (wF r) with | some x => wlO l x | none => none
/-- the sum of sixths, as a fraction -/
def wgt (n : Int) : List Int := [wSum (cls n) 0 / Int.gcd (wSum (cls n) 0) 6, 6 / Int.gcd (wSum (cls n) 0) 6]
theorem weighted_cls {n : Int} (h : Num n) : m_weighted_classes [.int n] M = some (.ok (eRow (wgt n)), M) := by
  obtain ⟨k, hk, e⟩ := weighted_is (M := M) h.neg h.mod h.lo
  rw [h.root hk] at e
  exact e
noncomputable def bodW : SF := (sAsg (cCall m_l_add (aCons (cVar 1) (aCons (cIf (tAndC (cTru (cOp (gEq false) (cVar 3) (cC (.int 0)))) (cTru (cOp (gEq false) (cVar 2) (cVar 4)))) (cTup (aCons (cC (.int 1)) (aCons (cC (.int 2)) aNil))) (cIf (tAndC (cTru (cOp (gEq false) (cVar 2) (cVar 3))) (cTru (cOp (gEq false) (cVar 3) (cVar 4)))) (cTup (aCons (cC (.int 1)) (aCons (cC (.int 3)) aNil))) (cTup (aCons (cC (.int 1)) (aCons (cC (.int 1)) aNil))))) aNil))) (gN 1))
theorem weight_loop (l : List (List Int)) : ∀ (x r : List Int) (x0 x2 x3 x4 : Option D), three l → wlO l x = some r →
    ∃ y2 y3 y4, fLoop (gTupC 3 (gConsC (gN 2) (gConsC (gN 3) (gConsC (gN 4) gNilC)))) bodW (l.map eRow) [x0, some (eRow x), x2, x3, x4] M = some (.nx [x0, some (eRow r), y2, y3, y4], M) := by
  induction l with
  | nil =>
    intro x r x0 x2 x3 x4 _ h
    cases h
    exact ⟨x2, x3, x4, rfl⟩
  | cons q l ih =>
    intro x r x0 x2 x3 x4 h3 h
    obtain ⟨a, b, c, rfl⟩ := h3 q List.mem_cons_self
    unfold wlO at h
    split at h
    · rename_i z hz
      obtain ⟨y2, y3, y4, e⟩ := ih z r x0 (some (.int a)) (some (.int b)) (some (.int c)) (fun r hr => h3 r (List.mem_cons_of_mem _ hr)) h
      refine ⟨y2, y3, y4, ?_⟩
      rw [List.map_cons, fLoop_cons]
      have ht : gTupC 3 (gConsC (gN 2) (gConsC (gN 3) (gConsC (gN 4) gNilC))) (eRow [a, b, c]) [x0, some (eRow x), x2, x3, x4] M = some ([x0, some (eRow x), some (.int a), some (.int b), some (.int c)], M) := by
        simp
      have hw : cIf (tAndC (cTru (cOp (gEq false) (cVar 3) (cC (.int 0)))) (cTru (cOp (gEq false) (cVar 2) (cVar 4)))) (cTup (aCons (cC (.int 1)) (aCons (cC (.int 2)) aNil))) (cIf (tAndC (cTru (cOp (gEq false) (cVar 2) (cVar 3))) (cTru (cOp (gEq false) (cVar 3) (cVar 4)))) (cTup (aCons (cC (.int 1)) (aCons (cC (.int 3)) aNil))) (cTup (aCons (cC (.int 1)) (aCons (cC (.int 1)) aNil)))) [x0, some (eRow x), some (.int a), some (.int b), some (.int c)] M = some (.ok (eRow (wF [a, b, c])), M) := by
        unfold wF
        simp only [cIf_e, tAndC_e, cTru_e, cOp_e, cVar_e, cC_e, List.getElem?_cons_zero, List.getElem?_cons_succ, bnd_ok, gEq_int, Bool.false_eq_true, if_false, tru_bl, cTup_e, aCons_e, aNil_e]
        cases (b == 0) <;> cases (a == c) <;> cases (a == b) <;> cases (b == c) <;> rfl
      rw [ht]
      dsimp only
      have hb : bodW [x0, some (eRow x), some (.int a), some (.int b), some (.int c)] M = some (.nx [x0, some (eRow z), some (.int a), some (.int b), some (.int c)], M) := by
        unfold bodW
        rw [sAsg_e, cCall_e, aCons_e, cVar_e]
        simp only [List.getElem?_cons_zero, List.getElem?_cons_succ, bnd_ok, aCons_e, hw, aNil_e, l_add_is hz, sbnd_ok, gN_e, List.set_cons_succ, List.set_cons_zero]
      rw [hb]
      exact e
    · cases h
theorem l_weight_is {n : Int} {r : List Int} (h : Num n) (hr : wlO (cls n) [0, 1] = some r) : m_l_weight [.int n] M = some (.ok (eRow r), M) := by
  obtain ⟨y2, y3, y4, e⟩ := weight_loop (M := M) (cls n) [0, 1] r (some (.int n)) none none none cls_three hr
  have hc := l_classes_is (M := M) (w := false) h
  unfold m_l_weight f_l_weight
  rw [mDef_1, show start0 5 [D.int n] = [some (.int n), none, none, none, none] from rfl]
  rw [sSeq_nx (en1 := [some (.int n), some (eRow [0, 1]), none, none, none]) (M1 := M) (by simp [row2])]
  have hi : iSeq (cCall m_l_classes (aCons (cVar 0) (aCons (cC (.bl false)) aNil))) [some (.int n), some (eRow [0, 1]), none, none, none] M = some (.ok ((cls n).map eRow), M) := by
    have hf : (cls n).filter (fun r => !false || isPrim r) = cls n := List.filter_eq_self.mpr fun r _ => rfl
    rw [hf] at hc
    simp [hc]
  have hs : sFor (iSeq (cCall m_l_classes (aCons (cVar 0) (aCons (cC (.bl false)) aNil)))) (gTupC 3 (gConsC (gN 2) (gConsC (gN 3) (gConsC (gN 4) gNilC)))) bodW [some (.int n), some (eRow [0, 1]), none, none, none] M = some (.nx [some (.int n), some (eRow r), y2, y3, y4], M) := by
    rw [sFor_e, hi, sbnd_ok]
    exact e
  have hs' := hs
  unfold bodW at hs'
  rw [sSeq_nx hs']
  simp
/-! the law's table arithmetic for two rows -/
theorem l_dot_is {a b e g : Int} (h1 : mulC a e = true) (h2 : mulC b g = true) : m_l_dot [eRow [a, b], eRow [e, g]] M = some (.ok (.int (a * e + b * g)), M) := by
  unfold m_l_dot f_l_dot
  simp [rgD_2, show smI 2 = true from rfl, h1, h2, gSum, intsOf]
theorem l_turned_is {e f g h : Int} : m_l_turned [eTab [[e, f], [g, h]]] M = some (.ok (eTab [[e, g], [f, h]]), M) := by
  unfold m_l_turned f_l_turned
  simp [rgD_2, show smI 2 = true from rfl, row2, tab2]
theorem l_product_is {a b c d e f g h : Int} (h1 : mulC a e = true) (h2 : mulC b g = true) (h3 : mulC a f = true) (h4 : mulC b h = true) (h5 : mulC c e = true) (h6 : mulC d g = true) (h7 : mulC c f = true) (h8 : mulC d h = true) :
    m_l_product [eTab [[a, b], [c, d]], eTab [[e, f], [g, h]]] M = some (.ok (eTab (prodF a b c d e f g h)), M) := by
  unfold m_l_product f_l_product
  simp [l_turned_is, l_dot_is, h1, h2, h3, h4, h5, h6, h7, h8, row2, tab2, prodF]
/-- rows * form * rows turned -/
def atF (f : Frm) (u : Chg) : List (List Int) := [[2 * (f.act u).a, (f.act u).b], [(f.act u).b, 2 * (f.act u).c]]
theorem l_at_is {f : Frm} {u : Chg} (hu : Sm u.p ∧ Sm u.q ∧ Sm u.r ∧ Sm u.s) : m_l_at [eTab [[2 * f.a, f.b], [f.b, 2 * f.c]], eC u] M = some (.ok (eTab (atF f u)), M) := by
  obtain ⟨h1, h2, h3, h4⟩ := hu
  unfold m_l_at f_l_at
  have e1 := l_product_is (M := M) (a := u.p) (b := u.q) (c := u.r) (d := u.s) (e := 2 * f.a) (f := f.b) (g := f.b) (h := 2 * f.c) h1.l h2.l h1.l h2.l h3.l h4.l h3.l h4.l
  have e2 := l_turned_is (M := M) (e := u.p) (f := u.q) (g := u.r) (h := u.s)
  unfold prodF at e1
  have e3 := l_product_is (M := M) (a := u.p * (2 * f.a) + u.q * f.b) (b := u.p * f.b + u.q * (2 * f.c)) (c := u.r * (2 * f.a) + u.s * f.b) (d := u.r * f.b + u.s * (2 * f.c)) (e := u.p) (f := u.r) (g := u.q) (h := u.s) h1.r h2.r h3.r h4.r h1.r h2.r h3.r h4.r
  have e4 : prodF (u.p * (2 * f.a) + u.q * f.b) (u.p * f.b + u.q * (2 * f.c)) (u.r * (2 * f.a) + u.s * f.b) (u.r * f.b + u.s * (2 * f.c)) u.p u.r u.q u.s = atF f u := by
    unfold prodF atF
    simp only [Frm.act, Frm.wo, worthF, midF]
    simp only [List.cons.injEq, and_true]
    refine ⟨⟨?_, ?_⟩, ?_, ?_⟩ <;> grind
  rw [e4] at e3
  have eC1 : eC u = eTab [[u.p, u.q], [u.r, u.s]] := rfl
  rw [mDef_2, show start0 2 [eTab [[2 * f.a, f.b], [f.b, 2 * f.c]], eC u] = [some (eTab [[2 * f.a, f.b], [f.b, 2 * f.c]]), some (eC u)] from rfl]
  simp only [sRet_e, cCall_e, aCons_e, aNil_e, cVar_e, List.getElem?_cons_zero, List.getElem?_cons_succ, bnd_ok, eC1, e1, e2, e3, sbnd_ok, fin_rt]
  exact gcF_ok0 clo_tab rfl
end K11
/-! k11, part R: the same texts; divisors; Hurwitz' sum. -/
namespace K11
open PySem DL
variable {M : Store}
theorem repr_is {x : D} {u : PyData} (h : toPyM M x = some u) (hs : shOk u = true) : gRepr [x] M = some (.ok (.str u.shown), M) := by
  unfold gRepr
  dsimp only
  rw [h]
  dsimp only
  rw [if_pos hs]
theorem same_is {x y : D} {u : PyData} (hx : toPyM M x = some u) (hy : toPyM M y = some u) (hs : shOk u = true) : m_l_same [x, y] M = some (.ok (.bl true), M) := by
  unfold m_l_same f_l_same
  rw [mDef_2, show start0 2 [x, y] = [some x, some y] from rfl]
  simp [repr_is hx hs, repr_is hy hs]
theorem sh_row {r : List Int} (h : ∀ x ∈ r, Sm x) (hl : r.length ≤ 100) : shOk (pRow r) = true := by
  refine shOk_of (plain_row fun x hx => shI_of ?_) (Nat.le_trans depth_row (by decide)) (Nat.le_trans bulk_row (by omega))
  have := h x hx
  obtain ⟨h1, h2⟩ := this
  have : x.natAbs < 10 ^ 15 := by omega
  exact Nat.lt_trans this (by decide)
theorem sh_tab {t : List (List Int)} (h : ∀ r ∈ t, ∀ x ∈ r, Sm x) (hl : ∀ r ∈ t, r.length ≤ 3) (hn : t.length ≤ 2000) : shOk (pTab t) = true := by
  refine shOk_of (plain_tab fun r hr x hx => shI_of ?_) (Nat.le_trans depth_tab (by decide)) (Nat.le_trans (bulk_tab hl) (by omega))
  obtain ⟨h1, h2⟩ := h r hr x hx
  have : x.natAbs < 10 ^ 15 := by omega
  exact Nat.lt_trans this (by decide)
theorem same_row {r : List Int} (h : ∀ x ∈ r, Sm x) (hl : r.length ≤ 100) : m_l_same [eRow r, eRow r] M = some (.ok (.bl true), M) := same_is toPyM_row toPyM_row (sh_row h hl)
theorem same_tab {t : List (List Int)} (h : ∀ r ∈ t, ∀ x ∈ r, Sm x) (hl : ∀ r ∈ t, r.length ≤ 3) (hn : t.length ≤ 2000) : m_l_same [eTab t, eTab t] M = some (.ok (.bl true), M) := same_is toPyM_tab toPyM_tab (sh_tab h hl hn)
theorem same_bl {b : Bool} : m_l_same [.bl b, .bl b] M = some (.ok (.bl true), M) := same_is (u := .bool b) rfl rfl (shOk_of rfl (by simp [PyData.depth]) (by simp [PyData.bulk]))
/-! divisors -/
def divs (n : Int) : List Int := (rgI 1 n.toNat).filter fun d => n % d == 0
theorem divisors_is {n : Int} (h0 : 0 ≤ n) (h1 : n ≤ 1000) : m_l_divisors [.int n] M = some (.ok (.imm ((divs n).map D.int)), M) := by
  have hi : iRng2C (aCons (cC (.int 1)) (aCons (cOp gAddA (cVar 0) (cC (.int 1))) aNil)) [some (.int n), none] M = some (.ok ((rgI 1 n.toNat).map D.int), M) := by
    have hs : smI (n + 1) = true := smI_of (by omega) (by omega)
    have ht : (n + 1 - 1).toNat = n.toNat := by congr 1; omega
    simp only [iRng2_e, aCons_e, aNil_e, cOp_e, cC_e, cVar_e, List.getElem?_cons_zero, List.getElem?_cons_succ, bnd_ok, gAddA_i, show smI 1 = true by decide, hs, Bool.and_self, if_true, rgD_eq, ht]
  have hl : cLc (iRng2C (aCons (cC (.int 1)) (aCons (cOp gAddA (cVar 0) (cC (.int 1))) aNil))) (gN 1) (cTru (cOp (gEq false) (cOp gMod (cVar 0) (cVar 1)) (cC (.int 0)))) (cVar 1) [1] [some (.int n), none] M = some (.ok (.imm ((divs n).map D.int)), M) := lc_of (M := M) (en := [some (.int n), none]) (g := gN 1) (t := cTru (cOp (gEq false) (cOp gMod (cVar 0) (cVar 1)) (cC (.int 0)))) (f := cVar 1) (mk := mkI) (vs := [1]) D.int (fun d => n % d == 0) D.int (rgI 1 n.toNat) hi (by rw [rg_len]; omega) fun d hd => ⟨[some (.int n), some (.int d)], by simp, by
    have := mem_rgI.mp hd
    simp [show modC n d = true from modC_of (by omega)], fun _ => by simp⟩
  unfold m_l_divisors f_l_divisors
  rw [mDef_1, show start0 2 [D.int n] = [some (.int n), none] from rfl]
  rw [sRet_e, hl, sbnd_ok, fin_rt]
  exact gcF_ok0 (clos_map fun _ => rfl) rfl
/-! Hurwitz -/
def oneO (n t : Int) : Option (List Int) := if t = 0 then some (if t * t = 4 * n then [-1, 12] else wgt (t * t - 4 * n)) else timesO (if t * t = 4 * n then [-1, 12] else wgt (t * t - 4 * n)) [2, 1]
def hur : Nat → Int → Int → List Int → Option (List Int)
  | 0, _, _, _ => none
  | f + 1, n, t, x => if t * t ≤ 4 * n then (match oneO n t with
    | some o => (match addO x o with | some y => hur f n (t + 1) y | none => none)
    | none => none) else some x
noncomputable def tstH : TF := cTru (cOp gLe (cOp gMul (cVar 6) (cVar 6)) (cOp gMul (cC (.int 4)) (cVar 4)))
noncomputable def bodH : SF := (sSeq (sAsg (cIf (cTru (cOp (gEq false) (cOp gMul (cVar 6) (cVar 6)) (cOp gMul (cC (.int 4)) (cVar 4)))) (cTup (aCons (cUn gNeg (cC (.int 1))) (aCons (cC (.int 12)) aNil))) (cCall m_weighted_classes (aCons (cOp gSub (cOp gMul (cVar 6) (cVar 6)) (cOp gMul (cC (.int 4)) (cVar 4))) aNil))) (gN 7)) (sSeq (sAsg (cCall m_l_add (aCons (cVar 5) (aCons (cIf (cTru (cOp (gEq false) (cVar 6) (cC (.int 0)))) (cVar 7) (cCall m_l_times (aCons (cVar 7) (aCons (cTup (aCons (cC (.int 2)) (aCons (cC (.int 1)) aNil))) aNil)))) aNil))) (gN 5)) (sAsg (cOp gAddA (cVar 6) (cC (.int 1))) (gN 6))))
theorem num_of {n t : Int} (hn : 1 ≤ n) (hn2 : n ≤ 40) (ht : 0 ≤ t) (h : t * t < 4 * n) : Num (t * t - 4 * n) := by
  refine ⟨by omega, ?_, by have := sq_nonneg t; omega⟩
  have h1 : t % 2 = 0 ∨ t % 2 = 1 := by omega
  rcases h1 with h1 | h1
  · obtain ⟨k, rfl⟩ : ∃ k, t = 2 * k := ⟨t / 2, by omega⟩
    have : 2 * k * (2 * k) = 4 * (k * k) := by grind
    omega
  · obtain ⟨k, rfl⟩ : ∃ k, t = 2 * k + 1 := ⟨t / 2, by omega⟩
    have : (2 * k + 1) * (2 * k + 1) = 4 * (k * k + k) + 1 := by grind
    omega
theorem hur_loop {n : Int} (hn : 1 ≤ n) (hn2 : n ≤ 40) {a0 a1 a2 a3 a8 a9 a10 a11 a12 a13 a14 a15 a16 a17 a18 a19 a20 : Option D} : ∀ (f : Nat) (t : Int) (x r : List Int) (a7 : Option D), 0 ≤ t → t + f ≤ 100 → hur f n t x = some r →
    ∃ b6 b7, sWhile tstH bodH [a0, a1, a2, a3, some (.int n), some (eRow x), some (.int t), a7, a8, a9, a10, a11, a12, a13, a14, a15, a16, a17, a18, a19, a20] M =
      some (.nx [a0, a1, a2, a3, some (.int n), some (eRow r), b6, b7, a8, a9, a10, a11, a12, a13, a14, a15, a16, a17, a18, a19, a20], M) := by
  intro f
  induction f with
  | zero => intro t x r a7 _ _ h; cases h
  | succ f ih =>
    intro t x r a7 ht htf h
    unfold hur at h
    have m4n : ∀ y : Int, mulC 4 y = true := fun y => m4
    by_cases hle : t * t ≤ 4 * n
    · have htb : t ≤ 160 := by
        rcases Int.lt_or_le 160 t with z | z
        · have := Int.mul_le_mul (show 161 ≤ t from z) (show 161 ≤ t from z) (by decide) ht
          omega
        · exact z
      have mt : ∀ y : Int, mulC t y = true := fun y => mulC_l (by omega) (by omega)
      rw [if_pos hle] at h
      split at h
      · rename_i o ho
        split at h
        · rename_i y hy
          obtain ⟨b6, b7, e⟩ := ih (t + 1) y r (some (eRow (if t * t = 4 * n then [-1, 12] else wgt (t * t - 4 * n)))) (by omega) (by omega) h
          refine ⟨b6, b7, sWhile_more (M1 := M) (M2 := M) ?_ ?_ e⟩
          · unfold tstH
            simp only [cTru_e, cOp_e, cVar_e, cC_e, List.getElem?_cons_zero, List.getElem?_cons_succ, bnd_ok, gI_e, yes2_e, if_true, mt, m4n, tru_bl, decide_eq_true hle]
          · unfold bodH
            have h1 : sAsg (cIf (cTru (cOp (gEq false) (cOp gMul (cVar 6) (cVar 6)) (cOp gMul (cC (.int 4)) (cVar 4)))) (cTup (aCons (cUn gNeg (cC (.int 1))) (aCons (cC (.int 12)) aNil))) (cCall m_weighted_classes (aCons (cOp gSub (cOp gMul (cVar 6) (cVar 6)) (cOp gMul (cC (.int 4)) (cVar 4))) aNil))) (gN 7) [a0, a1, a2, a3, some (.int n), some (eRow x), some (.int t), a7, a8, a9, a10, a11, a12, a13, a14, a15, a16, a17, a18, a19, a20] M =
                some (.nx [a0, a1, a2, a3, some (.int n), some (eRow x), some (.int t), some (eRow (if t * t = 4 * n then [-1, 12] else wgt (t * t - 4 * n))), a8, a9, a10, a11, a12, a13, a14, a15, a16, a17, a18, a19, a20], M) := by
              by_cases he : t * t = 4 * n
              · simp only [sAsg_e, cIf_e, cTru_e, cOp_e, cVar_e, cC_e, List.getElem?_cons_zero, List.getElem?_cons_succ, bnd_ok, gI_e, yes2_e, if_true, mt, m4n, gEq_int, Bool.false_eq_true, if_false, tru_bl, beq_iff_eq.mpr he, cTup_e, aCons_e, aNil_e, cUn_e, gNeg_e, if_pos he, sbnd_ok, gN_e, List.set_cons_succ, List.set_cons_zero]
                rfl
              · have hw := weighted_cls (M := M) (num_of hn hn2 ht (by omega))
                have hb : (t * t == 4 * n) = false := by simpa using he
                simp only [sAsg_e, cIf_e, cTru_e, cOp_e, cVar_e, cC_e, List.getElem?_cons_zero, List.getElem?_cons_succ, bnd_ok, gI_e, yes2_e, if_true, mt, m4n, gEq_int, Bool.false_eq_true, if_false, tru_bl, hb, cCall_e, aCons_e, aNil_e, hw, if_neg he, sbnd_ok, gN_e, List.set_cons_succ, List.set_cons_zero]
            rw [sSeq_nx h1]
            have h2 : cIf (cTru (cOp (gEq false) (cVar 6) (cC (.int 0)))) (cVar 7) (cCall m_l_times (aCons (cVar 7) (aCons (cTup (aCons (cC (.int 2)) (aCons (cC (.int 1)) aNil))) aNil))) [a0, a1, a2, a3, some (.int n), some (eRow x), some (.int t), some (eRow (if t * t = 4 * n then [-1, 12] else wgt (t * t - 4 * n))), a8, a9, a10, a11, a12, a13, a14, a15, a16, a17, a18, a19, a20] M = some (.ok (eRow o), M) := by
              unfold oneO at ho
              by_cases h0 : t = 0
              · rw [if_pos h0] at ho
                have hb : (t == 0) = true := by simpa using h0
                cases ho
                simp only [cIf_e, cTru_e, cOp_e, cVar_e, cC_e, List.getElem?_cons_zero, List.getElem?_cons_succ, bnd_ok, gEq_int, Bool.false_eq_true, if_false, tru_bl, hb, if_true]
              · rw [if_neg h0] at ho
                have hb : (t == 0) = false := by simpa using h0
                have hti := l_times_is (M := M) ho
                simp only [cIf_e, cTru_e, cOp_e, cVar_e, cC_e, List.getElem?_cons_zero, List.getElem?_cons_succ, bnd_ok, gEq_int, Bool.false_eq_true, if_false, tru_bl, hb, cCall_e, aCons_e, aNil_e, cTup_e, show szOk [D.int 2, D.int 1].length = true from szOk_2, if_true, row2, hti]
            have h3 : sAsg (cCall m_l_add (aCons (cVar 5) (aCons (cIf (cTru (cOp (gEq false) (cVar 6) (cC (.int 0)))) (cVar 7) (cCall m_l_times (aCons (cVar 7) (aCons (cTup (aCons (cC (.int 2)) (aCons (cC (.int 1)) aNil))) aNil)))) aNil))) (gN 5) [a0, a1, a2, a3, some (.int n), some (eRow x), some (.int t), some (eRow (if t * t = 4 * n then [-1, 12] else wgt (t * t - 4 * n))), a8, a9, a10, a11, a12, a13, a14, a15, a16, a17, a18, a19, a20] M =
                some (.nx [a0, a1, a2, a3, some (.int n), some (eRow y), some (.int t), some (eRow (if t * t = 4 * n then [-1, 12] else wgt (t * t - 4 * n))), a8, a9, a10, a11, a12, a13, a14, a15, a16, a17, a18, a19, a20], M) := by
              have hai := l_add_is (M := M) hy
              rw [sAsg_e, cCall_e, aCons_e, cVar_e]
              simp only [List.getElem?_cons_zero, List.getElem?_cons_succ, bnd_ok, aCons_e, h2, aNil_e, hai, sbnd_ok, gN_e, List.set_cons_succ, List.set_cons_zero]
            rw [sSeq_nx h3]
            simp only [sAsg_e, cOp_e, cVar_e, cC_e, List.getElem?_cons_zero, List.getElem?_cons_succ, bnd_ok, gAddA_i, sbnd_ok, gN_e, List.set_cons_succ, List.set_cons_zero]
        · cases h
      · cases h
    · rw [if_neg hle] at h
      cases h
      refine ⟨some (.int t), a7, sWhile_stop (M1 := M) ?_⟩
      have mt : mulC t t = true := mulC_l (by omega) (by omega)
      unfold tstH
      simp only [cTru_e, cOp_e, cVar_e, cC_e, List.getElem?_cons_zero, List.getElem?_cons_succ, bnd_ok, gI_e, yes2_e, if_true, mt, m4n, tru_bl, decide_eq_false hle]
end K11
/-! k11, part S: primes, signs, characters. -/
namespace K11
open PySem DL
variable {M : Store}
/-- k without its factors p, and how many -/
def strip (p : Nat) : Nat → Nat → Nat × Nat
  | 0, k => (k, 0)
  | f + 1, k => if k % p = 0 then ((strip p f (k / p)).1, (strip p f (k / p)).2 + 1) else (k, 0)
theorem strip_le {p : Nat} : ∀ {f k : Nat}, (strip p f k).1 ≤ k
  | 0, k => Nat.le_refl _
  | f + 1, k => by
    unfold strip
    split
    · exact Nat.le_trans strip_le (Nat.div_le_self _ _)
    · exact Nat.le_refl _
theorem strip_dvd {p : Nat} : ∀ {f k : Nat}, (strip p f k).1 ∣ k
  | 0, k => Nat.dvd_refl _
  | f + 1, k => by
    unfold strip
    split
    · rename_i h
      exact Nat.dvd_trans strip_dvd (Nat.div_dvd_of_dvd (Nat.dvd_of_mod_eq_zero h))
    · exact Nat.dvd_refl _
theorem strip_pos {p : Nat} : ∀ {f k : Nat}, 1 ≤ k → 1 ≤ (strip p f k).1 := fun {f k} h => Nat.pos_of_dvd_of_pos strip_dvd h
theorem strip_end {p : Nat} (hp : 2 ≤ p) : ∀ {f k : Nat}, k ≤ f → 1 ≤ k → ¬ p ∣ (strip p f k).1
  | 0, k, h, h1 => by omega
  | f + 1, k, h, h1 => by
    unfold strip
    split
    · rename_i q
      have hlt : k / p < k := Nat.div_lt_self (by omega) hp
      have hpos : 1 ≤ k / p := Nat.div_pos (Nat.le_of_dvd h1 (Nat.dvd_of_mod_eq_zero q)) (by omega)
      exact strip_end hp (by omega) hpos
    · rename_i q
      exact fun z => q (Nat.mod_eq_zero_of_dvd z)
theorem strip_count {p : Nat} : ∀ {f k : Nat}, (strip p f k).2 ≤ f
  | 0, k => Nat.le_refl _
  | f + 1, k => by
    unfold strip
    split
    · have := strip_count (p := p) (f := f) (k := k / p)
      simp only; omega
    · simp
/-- the law's primes: of k, from p on -/
def primesL : Nat → Nat → Nat → List Nat
  | 0, _, _ => []
  | f + 1, k, p => if 1 < k then (if k % p = 0 then p :: primesL f (strip p k k).1 (p + 1) else primesL f k (p + 1)) else []
theorem primesL_succ {f k p : Nat} : primesL (f + 1) k p = if 1 < k then (if k % p = 0 then p :: primesL f (strip p k k).1 (p + 1) else primesL f k (p + 1)) else [] := rfl
/-- no divisor from 2 up to p -/
def NoD (k p : Nat) : Prop := ∀ d, 2 ≤ d → d < p → ¬ d ∣ k
theorem NoD.next {k p : Nat} (h : NoD k p) (hp : ¬ p ∣ k) : NoD k (p + 1) := fun d h1 h2 h3 => by
  rcases Nat.lt_or_ge d p with z | z
  · exact h d h1 z h3
  · have : d = p := by omega
    subst this; exact hp h3
theorem NoD.le {k p : Nat} (h : NoD k p) (hk : 1 < k) (hp : 2 ≤ p) : p ≤ k := by
  rcases Nat.lt_or_ge k p with z | z
  · exact absurd (Nat.dvd_refl k) (h k hk z)
  · exact z
theorem NoD.dvd {k m p : Nat} (h : NoD k p) (hm : m ∣ k) : NoD m p := fun d h1 h2 h3 => h d h1 h2 (Nat.dvd_trans h3 hm)
def nI (k : Nat) : D := .int (k : Int)
theorem strip_loop {p : Nat} (hp : 2 ≤ p) (hp2 : p ≤ 2000) {x1 : Option D} : ∀ (f k : Nat), k ≤ f → 1 ≤ k →
    sWhile (cTru (cOp (gEq false) (cOp gMod (cVar 0) (cVar 2)) (cC (.int 0)))) (sAsg (cOp gDiv (cVar 0) (cVar 2)) (gN 0)) [some (nI k), x1, some (nI p)] M = some (.nx [some (nI (strip p f k).1), x1, some (nI p)], M) := by
  intro f
  induction f with
  | zero => intro k h h1; omega
  | succ f ih =>
    intro k h h1
    have hmod : ∀ y : Int, modC y (p : Int) = true := fun y => modC_of (by omega)
    unfold strip
    by_cases q : k % p = 0
    · rw [if_pos q]
      have hlt : k / p < k := Nat.div_lt_self (by omega) hp
      have hpos : 1 ≤ k / p := Nat.div_pos (Nat.le_of_dvd h1 (Nat.dvd_of_mod_eq_zero q)) (by omega)
      refine sWhile_more (en1 := [some (nI (k / p)), x1, some (nI p)]) (M1 := M) (M2 := M) ?_ ?_ (ih (k / p) (by omega) hpos)
      · have : ((k : Int) % p) = 0 := by exact_mod_cast q
        simp [nI, hmod, this]
      · simp [nI, show divC (k : Int) (p : Int) = true from divC_of (by omega) (by omega)]
    · rw [if_neg q]
      refine sWhile_stop (M1 := M) ?_
      have : ¬ ((k : Int) % p) = 0 := fun z => q (by exact_mod_cast z)
      simp [nI, hmod, this]
noncomputable def bodPr : SF := (sSeq (sIf (cTru (cOp (gEq false) (cOp gMod (cVar 0) (cVar 2)) (cC (.int 0)))) (sSeq (sExpr (cApp (cVar 1) (cVar 2))) (sWhile (cTru (cOp (gEq false) (cOp gMod (cVar 0) (cVar 2)) (cC (.int 0)))) (sAsg (cOp gDiv (cVar 0) (cVar 2)) (gN 0)))) sSkip) (sAsg (cOp gAddA (cVar 2) (cC (.int 1))) (gN 2)))
theorem primes_loop : ∀ (f k p : Nat) (acc : List Nat), 1 ≤ k → 2 ≤ p → p + f ≤ 2000 → k < p + f → NoD k p → acc.length + f ≤ 3000 →
    ∃ k' p', sWhile (cTru (cOp gGt (cVar 0) (cC (.int 1)))) bodPr [some (nI k), some (.cel M.length), some (nI p)] (M ++ [acc.map nI]) = some (.nx [some (nI k'), some (.cel M.length), some (nI p')], M ++ [(acc ++ primesL f k p).map nI]) := by
  intro f
  induction f with
  | zero =>
    intro k p acc h1 h2 _ h3 h4 _
    have : ¬ 1 < k := fun z => by have := h4.le z h2; omega
    refine ⟨k, p, ?_⟩
    rw [sWhile_stop (M1 := M ++ [acc.map nI]) (by simp [nI]; omega)]
    simp [primesL]
  | succ f ih =>
    intro k p acc h1 h2 h2000 h3 h4 hacc
    by_cases hk : 1 < k
    · have hpk := h4.le hk h2
      have hmod : ∀ y : Int, modC y (p : Int) = true := fun y => modC_of (by omega)
      have ht : cTru (cOp gGt (cVar 0) (cC (.int 1))) [some (nI k), some (.cel M.length), some (nI p)] (M ++ [acc.map nI]) = some (.ok true, M ++ [acc.map nI]) := by
        simp [nI]; omega
      by_cases q : k % p = 0
      · have hs := strip_loop (M := M ++ [(acc ++ [p]).map nI]) h2 (by omega) (x1 := some (.cel M.length)) k k (Nat.le_refl _) h1
        obtain ⟨k', p', e⟩ := ih (strip p k k).1 (p + 1) (acc ++ [p]) (strip_pos h1) (by omega) (by omega) (by have := strip_le (p := p) (f := k) (k := k); omega) ((h4.dvd strip_dvd).next (strip_end h2 (Nat.le_refl _) h1)) (by simp; omega)
        refine ⟨k', p', ?_⟩
        have hb : bodPr [some (nI k), some (.cel M.length), some (nI p)] (M ++ [acc.map nI]) = some (.nx [some (nI (strip p k k).1), some (.cel M.length), some (nI (p + 1))], M ++ [(acc ++ [p]).map nI]) := by
          unfold bodPr
          have e0 : ((k : Int) % p) = 0 := by exact_mod_cast q
          have h5 : sIf (cTru (cOp (gEq false) (cOp gMod (cVar 0) (cVar 2)) (cC (.int 0)))) (sSeq (sExpr (cApp (cVar 1) (cVar 2))) (sWhile (cTru (cOp (gEq false) (cOp gMod (cVar 0) (cVar 2)) (cC (.int 0)))) (sAsg (cOp gDiv (cVar 0) (cVar 2)) (gN 0)))) sSkip [some (nI k), some (.cel M.length), some (nI p)] (M ++ [acc.map nI]) =
              some (.nx [some (nI (strip p k k).1), some (.cel M.length), some (nI p)], M ++ [(acc ++ [p]).map nI]) := by
            have ha : sExpr (cApp (cVar 1) (cVar 2)) [some (nI k), some (.cel M.length), some (nI p)] (M ++ [acc.map nI]) = some (.nx [some (nI k), some (.cel M.length), some (nI p)], M ++ [(acc ++ [p]).map nI]) := by
              simp [szOk_of (show acc.length + 1 ≤ 16777216 by omega)]
            have hc : cTru (cOp (gEq false) (cOp gMod (cVar 0) (cVar 2)) (cC (.int 0))) [some (nI k), some (.cel M.length), some (nI p)] (M ++ [acc.map nI]) = some (.ok true, M ++ [acc.map nI]) := by
              simp [nI, hmod, e0]
            rw [sIf_e, hc, sbnd_ok, if_pos rfl, sSeq_nx ha, hs]
          rw [sSeq_nx h5]
          simp [nI]
        rw [sWhile_more ht hb e]
        rw [primesL_succ, if_pos hk, if_pos q]
        simp
      · obtain ⟨k', p', e⟩ := ih k (p + 1) acc h1 (by omega) (by omega) (by omega) (h4.next fun z => q (Nat.mod_eq_zero_of_dvd z)) (by omega)
        refine ⟨k', p', ?_⟩
        have hb : bodPr [some (nI k), some (.cel M.length), some (nI p)] (M ++ [acc.map nI]) = some (.nx [some (nI k), some (.cel M.length), some (nI (p + 1))], M ++ [acc.map nI]) := by
          have e0 : ¬ ((k : Int) % p) = 0 := fun z => q (by exact_mod_cast z)
          simp [bodPr, nI, hmod, e0]
        rw [sWhile_more ht hb e]
        rw [primesL_succ, if_pos hk, if_neg q]
    · refine ⟨k, p, ?_⟩
      rw [sWhile_stop (M1 := M ++ [acc.map nI]) (by simp [nI]; omega)]
      rw [primesL_succ, if_neg hk]
      simp
theorem primes_is {k : Nat} (h1 : 1 ≤ k) (h2 : k ≤ 1500) : m_l_primes [nI k] M = some (.ok (.imm ((primesL 1500 k 2).map nI)), M) := by
  obtain ⟨k', p', e⟩ := primes_loop (M := M) 1500 k 2 [] h1 (by omega) (by omega) (by omega) (fun d a b _ => by omega) (by simp)
  rw [List.nil_append, List.map_nil] at e
  unfold m_l_primes f_l_primes
  rw [mDef_1, show start0 3 [nI k] = [some (nI k), none, none] from rfl]
  rw [sSeq_nx (en1 := [some (nI k), some (.cel M.length), none]) (M1 := M ++ [[]]) (by simp), sSeq_nx (en1 := [some (nI k), some (.cel M.length), some (nI 2)]) (M1 := M ++ [[]]) (by simp [nI])]
  have e' := e
  unfold bodPr at e'
  rw [sSeq_nx e']
  simp
  exact gcF_cel (by simp) (Nat.le_refl _) (clos_map fun _ => rfl)
end K11
/-! k11, part T: signs, characters. -/
namespace K11
open PySem DL
variable {M : Store}
def lsign (n : Int) (p : Nat) : Int := if n % p = 0 then 0 else if ((rgI 0 p).filter fun k => (k * k - n) % p == 0).isEmpty = true then -1 else 1
theorem gEq_nil {l : List Int} {neg : Bool} : gEq neg (.imm (l.map D.int)) (.imm []) M = some (.ok (.bl (if neg = true then !(l.isEmpty) else l.isEmpty)), M) := by
  have h1 : toPyM M (.imm (l.map D.int)) = some (.list (l.map PyData.int)) := by
    show toPy (.imm (l.map D.int)) = _
    simp only [toPy]
    rw [toPys_map (g := PyData.int) fun _ => rfl]
    rfl
  have h2 : toPyM M (.imm []) = some (.list []) := rfl
  have s1 : SeqAt.shaped (.list (l.map PyData.int)) = true := by
    show (PyData.canLay0 _ && decide (PyData.depth _ ≤ 64)) = true
    rw [Bool.and_eq_true]
    refine ⟨?_, decide_eq_true ?_⟩
    · simp only [PyData.canLay0]
      exact canLayAll_of fun x _ => by simp [PyData.canLay0]
    · simp only [PyData.depth]
      have := depthAll_le (f := PyData.int) (k := 0) (l := l) fun x _ => by simp [PyData.depth]
      omega
  have s2 : SeqAt.shaped (.list []) = true := by
    show (PyData.canLay0 _ && decide (PyData.depth _ ≤ 64)) = true
    simp [PyData.canLay0, PyData.canLayAll0, PyData.depth, PyData.depthAll]
  rw [gEq_of h1 h2 s1 s2 (fun _ z => by cases z)]
  have : PyData.eqv (.list (l.map PyData.int)) (.list []) = l.isEmpty := by
    simp only [PyData.eqv]
    cases l <;> simp [PyData.eqvAll]
  rw [this]
theorem rng1_of {a : AF} {en : List (Option D)} {M1 : Store} {j : Int} {p : Nat} (h : a en M = some (.ok [.int j], M1)) (hs : smI j = true) (hp : j.toNat = p) : iRng1C a en M = some (.ok ((rgI 0 p).map D.int), M1) := by
  rw [iRng1_e, h, bnd_ok]
  show (if smI j = true then some (Out.ok (rgD 0 j.toNat), M1) else none) = _
  rw [if_pos hs, rgD_eq, hp]
theorem sign_is {n : Int} {p : Nat} (hp : 1 ≤ p) (hp2 : p ≤ 2000) : m_l_sign [.int n, nI p] M = some (.ok (.int (lsign n p)), M) := by
  have hmod : ∀ y : Int, modC y (p : Int) = true := fun y => modC_of (by omega)
  have hi : iRng1C (aCons (cVar 1) aNil) [some (.int n), some (nI p), none] M = some (.ok ((rgI 0 p).map D.int), M) := by
    have hs : smI (p : Int) = true := smI_of (by omega) (by omega)
    have ht : ((p : Int)).toNat = p := by omega
    exact rng1_of (rfl : aCons _ aNil _ M = some (.ok [.int _], M)) hs ht
  have hl : cLc (iRng1C (aCons (cVar 1) aNil)) (gN 2) (cTru (cOp (gEq false) (cOp gMod (cOp gSub (cOp gMul (cVar 2) (cVar 2)) (cVar 0)) (cVar 1)) (cC (.int 0)))) (cVar 2) [2] [some (.int n), some (nI p), none] M = some (.ok (.imm (((rgI 0 p).filter fun k => (k * k - n) % p == 0).map D.int)), M) :=
    lc_of (M := M) (en := [some (.int n), some (nI p), none]) (g := gN 2) (t := cTru (cOp (gEq false) (cOp gMod (cOp gSub (cOp gMul (cVar 2) (cVar 2)) (cVar 0)) (cVar 1)) (cC (.int 0)))) (f := cVar 2) (mk := mkI) (vs := [2]) D.int (fun k => (k * k - n) % p == 0) D.int (rgI 0 p) hi (by rw [rg_len]; omega) fun k hk => ⟨[some (.int n), some (nI p), some (.int k)], by simp, by
      have := mem_rgI.mp hk
      simp [nI, show mulC k k = true from mulC_l (by omega) (by omega), hmod], fun _ => by simp⟩
  unfold m_l_sign f_l_sign lsign
  rw [mDef_2, show start0 3 [D.int n, nI p] = [some (.int n), some (nI p), none] from rfl]
  by_cases h0 : n % (p : Int) = 0
  · rw [if_pos h0]
    simp [nI, hmod, h0]
  · rw [if_neg h0]
    have h1 : sIf (cTru (cOp (gEq false) (cOp gMod (cVar 0) (cVar 1)) (cC (.int 0)))) (sRet (cC (.int 0))) sSkip [some (.int n), some (nI p), none] M = some (.nx [some (.int n), some (nI p), none], M) := by
      simp [nI, hmod, h0]
    rw [sSeq_nx h1]
    have h2 : cIf (cTru (cOp (gEq true) (cLc (iRng1C (aCons (cVar 1) aNil)) (gN 2) (cTru (cOp (gEq false) (cOp gMod (cOp gSub (cOp gMul (cVar 2) (cVar 2)) (cVar 0)) (cVar 1)) (cC (.int 0)))) (cVar 2) [2]) (cLst aNil))) (cC (.int 1)) (cUn gNeg (cC (.int 1))) [some (.int n), some (nI p), none] M =
        some (.ok (.int (if ((rgI 0 p).filter fun k => (k * k - n) % p == 0).isEmpty = true then -1 else 1)), M) := by
      rw [cIf_e, cTru_e, cOp_e, hl, bnd_ok]
      have hn : cLst aNil [some (.int n), some (nI p), none] M = some (.ok (.imm []), M) := rfl
      rw [hn, bnd_ok, gEq_nil, bnd_ok, tru_bl]
      cases ((rgI 0 p).filter fun k => (k * k - n) % p == 0).isEmpty <;> rfl
    rw [sRet_e, h2, sbnd_ok, fin_rt]
    exact gcF_ok0 rfl rfl
def sgn (n : Int) (p : Nat) : Int := if p = 2 then (if n % 2 = 0 then 0 else if n % 8 = 1 then 1 else -1) else lsign n p
theorem sgn_b {n : Int} {p : Nat} : -1 ≤ sgn n p ∧ sgn n p ≤ 1 := by
  unfold sgn lsign
  split
  · split
    · omega
    · split <;> omega
  · split
    · omega
    · split <;> omega
def charL (n : Int) : Nat → List Nat → Int → Int
  | _, [], acc => acc
  | k, p :: l, acc => charL n (strip p k k).1 l (acc * sgn n p ^ (strip p k k).2)
theorem pow_loop {x0 x2 x5 x6 : Option D} {p : Nat} (hp : 2 ≤ p) (hp2 : p ≤ 2000) : ∀ (f k c : Nat), k ≤ f → 1 ≤ k →
    sWhile (cTru (cOp (gEq false) (cOp gMod (cVar 1) (cVar 3)) (cC (.int 0)))) (sSeq (sAsg (cOp gDiv (cVar 1) (cVar 3)) (gN 1)) (sAsg (cOp gAddA (cVar 4) (cC (.int 1))) (gN 4))) [x0, some (nI k), x2, some (nI p), some (nI c), x5, x6] M =
      some (.nx [x0, some (nI (strip p f k).1), x2, some (nI p), some (nI (c + (strip p f k).2)), x5, x6], M) := by
  intro f
  induction f with
  | zero => intro k c h h1; omega
  | succ f ih =>
    intro k c h h1
    have hmod : ∀ y : Int, modC y (p : Int) = true := fun y => modC_of (by omega)
    unfold strip
    by_cases q : k % p = 0
    · rw [if_pos q]
      have hlt : k / p < k := Nat.div_lt_self (by omega) hp
      have hpos : 1 ≤ k / p := Nat.div_pos (Nat.le_of_dvd h1 (Nat.dvd_of_mod_eq_zero q)) (by omega)
      have e := ih (k / p) (c + 1) (by omega) hpos
      rw [show c + 1 + (strip p f (k / p)).2 = c + ((strip p f (k / p)).2 + 1) by omega] at e
      refine sWhile_more (en1 := [x0, some (nI (k / p)), x2, some (nI p), some (nI (c + 1)), x5, x6]) (M1 := M) (M2 := M) ?_ ?_ e
      · have : ((k : Int) % p) = 0 := by exact_mod_cast q
        simp [nI, hmod, this]
      · simp [nI, show divC (k : Int) (p : Int) = true from divC_of (by omega) (by omega)]
    · rw [if_neg q]
      refine sWhile_stop (M1 := M) ?_
      have : ¬ ((k : Int) % p) = 0 := fun z => q (by exact_mod_cast z)
      simp [nI, hmod, this]
theorem mul_loop {x0 x1 x3 x4 : Option D} {s : Int} (hs : -1 ≤ s ∧ s ≤ 1) (l : List Int) : ∀ (acc : Int) (x6 : Option D), ∃ y6, fLoop (gN 6) (sAsg (cOp gMul (cVar 2) (cVar 5)) (gN 2)) (l.map D.int) [x0, x1, some (.int acc), x3, x4, some (.int s), x6] M =
    some (.nx [x0, x1, some (.int (acc * s ^ l.length)), x3, x4, some (.int s), y6], M) := by
  induction l with
  | nil => exact fun acc x6 => ⟨x6, by simp⟩
  | cons i l ih =>
    intro acc x6
    obtain ⟨y6, e⟩ := ih (acc * s) (some (.int i))
    refine ⟨y6, ?_⟩
    rw [List.map_cons, fLoop_cons]
    have hb : sAsg (cOp gMul (cVar 2) (cVar 5)) (gN 2) [x0, x1, some (.int acc), x3, x4, some (.int s), some (.int i)] M = some (.nx [x0, x1, some (.int (acc * s)), x3, x4, some (.int s), some (.int i)], M) := by
      simp [show mulC acc s = true from mulC_r (by omega) (by omega)]
    simp only [gN_e, List.set_cons_succ, List.set_cons_zero, hb]
    rw [e, List.length_cons, Int.pow_succ, Int.mul_assoc, Int.mul_comm s]
noncomputable def bodCh : SF := (sSeq (sAsg (cC (.int 0)) (gN 4)) (sSeq (sWhile (cTru (cOp (gEq false) (cOp gMod (cVar 1) (cVar 3)) (cC (.int 0)))) (sSeq (sAsg (cOp gDiv (cVar 1) (cVar 3)) (gN 1)) (sAsg (cOp gAddA (cVar 4) (cC (.int 1))) (gN 4)))) (sSeq (sIf (cTru (cOp (gEq false) (cVar 3) (cC (.int 2)))) (sAsg (cIf (cTru (cOp (gEq false) (cOp gMod (cVar 0) (cC (.int 2))) (cC (.int 0)))) (cC (.int 0)) (cIf (cTru (cOp (gEq false) (cOp gMod (cVar 0) (cC (.int 8))) (cC (.int 1)))) (cC (.int 1)) (cUn gNeg (cC (.int 1))))) (gN 5)) (sAsg (cCall m_l_sign (aCons (cVar 0) (aCons (cVar 3) aNil))) (gN 5))) (sFor (iRng1C (aCons (cVar 4) aNil)) (gN 6) (sAsg (cOp gMul (cVar 2) (cVar 5)) (gN 2))))))
theorem bodCh_is {n : Int} {k p : Nat} {acc : Int} {x4 x5 x6 : Option D} (hk : 1 ≤ k) (hk2 : k ≤ 1500) (hp : 2 ≤ p) (hp2 : p ≤ 2000) : ∃ y4 y5 y6, bodCh [some (.int n), some (nI k), some (.int acc), some (nI p), x4, x5, x6] M =
    some (.nx [some (.int n), some (nI (strip p k k).1), some (.int (acc * sgn n p ^ (strip p k k).2)), some (nI p), y4, y5, y6], M) := by
  have hc := strip_count (p := p) (f := k) (k := k)
  have h1 := pow_loop (M := M) (x0 := some (.int n)) (x2 := some (.int acc)) (x5 := x5) (x6 := x6) hp hp2 k k 0 (Nat.le_refl _) hk
  obtain ⟨y6, h3⟩ := mul_loop (M := M) (x0 := some (.int n)) (x1 := some (nI (strip p k k).1)) (x3 := some (nI p)) (x4 := some (nI (0 + (strip p k k).2))) (sgn_b (n := n) (p := p)) (rgI 0 (strip p k k).2) acc x6
  rw [rg_len] at h3
  refine ⟨some (nI (0 + (strip p k k).2)), some (.int (sgn n p)), y6, ?_⟩
  unfold bodCh
  rw [sSeq_nx (en1 := [some (.int n), some (nI k), some (.int acc), some (nI p), some (nI 0), x5, x6]) (M1 := M) (by simp [nI]), sSeq_nx h1]
  have h2 : sIf (cTru (cOp (gEq false) (cVar 3) (cC (.int 2)))) (sAsg (cIf (cTru (cOp (gEq false) (cOp gMod (cVar 0) (cC (.int 2))) (cC (.int 0)))) (cC (.int 0)) (cIf (cTru (cOp (gEq false) (cOp gMod (cVar 0) (cC (.int 8))) (cC (.int 1)))) (cC (.int 1)) (cUn gNeg (cC (.int 1))))) (gN 5)) (sAsg (cCall m_l_sign (aCons (cVar 0) (aCons (cVar 3) aNil))) (gN 5))
      [some (.int n), some (nI (strip p k k).1), some (.int acc), some (nI p), some (nI (0 + (strip p k k).2)), x5, x6] M = some (.nx [some (.int n), some (nI (strip p k k).1), some (.int acc), some (nI p), some (nI (0 + (strip p k k).2)), some (.int (sgn n p)), x6], M) := by
    unfold sgn
    by_cases q : p = 2
    · subst q
      by_cases q2 : n % 2 = 0
      · simp [nI, modC, q2]
      · by_cases q3 : n % 8 = 1
        · simp [nI, modC, q2, q3]
        · simp [nI, modC, q2, q3]
    · have hs := sign_is (M := M) (n := n) (p := p) (by omega) hp2
      have q' : ¬ (p : Int) = 2 := by omega
      have hpv : (cTru (cOp (gEq false) (cVar 3) (cC (.int 2)))) [some (.int n), some (nI (strip p k k).1), some (.int acc), some (nI p), some (nI (0 + (strip p k k).2)), x5, x6] M = some (.ok false, M) := by
        simp [nI, q']
      rw [if_neg q, sIf_e, hpv, sbnd_ok, if_neg Bool.false_ne_true]
      simp [hs]
  rw [sSeq_nx h2]
  have hi : iRng1C (aCons (cVar 4) aNil) [some (.int n), some (nI (strip p k k).1), some (.int acc), some (nI p), some (nI (0 + (strip p k k).2)), some (.int (sgn n p)), x6] M = some (.ok ((rgI 0 (strip p k k).2).map D.int), M) := by
    have hs : smI ((0 + (strip p k k).2 : Nat) : Int) = true := smI_of (by omega) (by omega)
    have ht : (((0 + (strip p k k).2 : Nat) : Int)).toNat = (strip p k k).2 := by omega
    exact rng1_of (rfl : aCons _ aNil _ M = some (.ok [.int _], M)) hs ht
  rw [sFor_e, hi, sbnd_ok]
  exact h3
theorem char_loop {n : Int} (l : List Nat) : ∀ (k : Nat) (acc : Int) (x3 x4 x5 x6 : Option D), 1 ≤ k → k ≤ 1500 → (∀ p ∈ l, 2 ≤ p ∧ p ≤ 2000) →
    ∃ k' y3 y4 y5 y6, fLoop (gN 3) bodCh (l.map nI) [some (.int n), some (nI k), some (.int acc), x3, x4, x5, x6] M = some (.nx [some (.int n), some (nI k'), some (.int (charL n k l acc)), y3, y4, y5, y6], M) := by
  induction l with
  | nil => exact fun k acc x3 x4 x5 x6 _ _ _ => ⟨k, x3, x4, x5, x6, rfl⟩
  | cons p l ih =>
    intro k acc x3 x4 x5 x6 hk hk2 hl
    obtain ⟨hp, hp2⟩ := hl p List.mem_cons_self
    obtain ⟨y4, y5, y6, e⟩ := bodCh_is (M := M) (n := n) (acc := acc) (x4 := x4) (x5 := x5) (x6 := x6) hk hk2 hp hp2
    have hle := strip_le (p := p) (f := k) (k := k)
    obtain ⟨k', z3, z4, z5, z6, e2⟩ := ih (strip p k k).1 (acc * sgn n p ^ (strip p k k).2) (some (nI p)) y4 y5 y6 (strip_pos hk) (by omega) fun q hq => hl q (List.mem_cons_of_mem _ hq)
    refine ⟨k', z3, z4, z5, z6, ?_⟩
    rw [List.map_cons, fLoop_cons]
    simp only [gN_e, List.set_cons_succ, List.set_cons_zero, e]
    exact e2
theorem primesL_b : ∀ (f k p : Nat), 2 ≤ p → ∀ q ∈ primesL f k p, 2 ≤ q ∧ q ≤ p + f
  | 0, _, _, _, q, h => by simp [primesL] at h
  | f + 1, k, p, hp, q, h => by
    rw [primesL_succ] at h
    split at h
    · split at h
      · rcases List.mem_cons.mp h with rfl | h
        · omega
        · have := primesL_b f _ (p + 1) (by omega) q h; omega
      · have := primesL_b f _ (p + 1) (by omega) q h; omega
    · simp at h
def chi (n : Int) (k : Nat) : Int := charL n k (primesL 1500 k 2) 1
theorem character_is {n : Int} {k : Nat} (h1 : 1 ≤ k) (h2 : k ≤ 1500) : m_l_character [.int n, nI k] M = some (.ok (.int (chi n k)), M) := by
  obtain ⟨k', y3, y4, y5, y6, e⟩ := char_loop (M := M) (n := n) (primesL 1500 k 2) k 1 none none none none h1 h2 fun p hp => by have := primesL_b 1500 k 2 (by omega) p hp; omega
  unfold m_l_character f_l_character
  rw [mDef_2, show start0 7 [D.int n, nI k] = [some (.int n), some (nI k), none, none, none, none, none] from rfl]
  rw [sSeq_nx (en1 := [some (.int n), some (nI k), some (.int 1), none, none, none, none]) (M1 := M) (by simp)]
  have hi : iSeq (cCall m_l_primes (aCons (cVar 1) aNil)) [some (.int n), some (nI k), some (.int 1), none, none, none, none] M = some (.ok ((primesL 1500 k 2).map nI), M) := by
    simp [primes_is h1 h2]
  have hs : sFor (iSeq (cCall m_l_primes (aCons (cVar 1) aNil))) (gN 3) bodCh [some (.int n), some (nI k), some (.int 1), none, none, none, none] M = some (.nx [some (.int n), some (nI k'), some (.int (chi n k)), y3, y4, y5, y6], M) := by
    rw [sFor_e, hi, sbnd_ok]
    exact e
  have hs' := hs
  unfold bodCh at hs'
  rw [sSeq_nx hs']
  simp
end K11
/-! k11, part U: fundamental discriminants. -/
namespace K11
open PySem DL
variable {M : Store}
theorem gIn_two {x a b : Int} : gIn false (.int x) (.tup [.int a, .int b]) M = some (.ok (.bl (a == x || b == x)), M) := by
  have h1 : SeqAt.shaped (.int x) = true := shaped_i
  have h2 : SeqAt.shaped (.list [.int a, .int b]) = true := shaped_row (r := [a, b])
  have e : gIn false (.int x) (.tup [.int a, .int b]) M = if (SeqAt.shaped (.int x) && SeqAt.shaped (.list [.int a, .int b])) = true then some (.ok (.bl ([PyData.int a, .int b].any fun z => PyData.eqv z (.int x))), M) else none := rfl
  rw [e, h1, h2]
  simp only [Bool.and_self, if_true, List.any_cons, List.any_nil, eqv_int, Bool.or_false]
def sqB (k p : Nat) : Bool := decide (2 < p) && decide (k % (p * p) = 0)
def fund (k : Nat) : Bool := (primesL 1500 k 2).all (fun p => !sqB k p) && decide ((-(k : Int)) % 4 = 1 ∨ (-(k : Int)) % 16 = 8 ∨ (-(k : Int)) % 16 = 12)
noncomputable def bodF : SF := sIf (tAndC (cTru (cOp gGt (cVar 2) (cC (.int 2)))) (cTru (cOp (gEq false) (cOp gMod (cVar 1) (cOp gMul (cVar 2) (cVar 2))) (cC (.int 0))))) (sRet (cC (.bl false))) sSkip
theorem bodF_i {x0 : Option D} {k p : Int} (hp : 1 ≤ p) (hp2 : p ≤ 2000) : bodF [x0, some (.int k), some (.int p)] M = if 2 < p ∧ k % (p * p) = 0 then some (.rt (.bl false), M) else some (.nx [x0, some (.int k), some (.int p)], M) := by
  unfold bodF
  have hm : mulC p p = true := mulC_l (by omega) (by omega)
  have hm2 : modC k (p * p) = true := modC_of (Int.mul_pos (by omega) (by omega))
  by_cases h1 : 2 < p
  · by_cases h2 : k % (p * p) = 0
    · rw [if_pos ⟨h1, h2⟩]
      simp [hm, hm2, h1, h2]
    · rw [if_neg fun z => h2 z.2]
      simp [hm, hm2, h1, h2]
  · rw [if_neg fun z => h1 z.1]
    simp [h1]
theorem bodF_is {x0 : Option D} {k p : Nat} (hp : 1 ≤ p) (hp2 : p ≤ 2000) : bodF [x0, some (nI k), some (nI p)] M = if sqB k p = true then some (.rt (.bl false), M) else some (.nx [x0, some (nI k), some (nI p)], M) := by
  refine (bodF_i (M := M) (x0 := x0) (k := k) (p := p) (by omega) (by omega)).trans ?_
  have e1 : (2 < (p : Int) ∧ (k : Int) % ((p : Int) * p) = 0) = (sqB k p = true) := by
    apply propext
    unfold sqB
    rw [Bool.and_eq_true, decide_eq_true_eq, decide_eq_true_eq]
    constructor
    · rintro ⟨h1, h2⟩; exact ⟨by omega, by exact_mod_cast h2⟩
    · rintro ⟨h1, h2⟩; exact ⟨by omega, by exact_mod_cast h2⟩
  by_cases h : sqB k p = true
  · rw [if_pos h, if_pos (e1 ▸ h)]
  · rw [if_neg h, if_neg (e1 ▸ h)]; first | done | rfl
theorem loopF {x0 : Option D} {k : Nat} (l : List Nat) : ∀ (x2 : Option D), (∀ p ∈ l, 1 ≤ p ∧ p ≤ 2000) →
    if l.all (fun p => !sqB k p) = true then ∃ y2, fLoop (gN 2) bodF (l.map nI) [x0, some (nI k), x2] M = some (.nx [x0, some (nI k), y2], M)
    else fLoop (gN 2) bodF (l.map nI) [x0, some (nI k), x2] M = some (.rt (.bl false), M) := by
  induction l with
  | nil => exact fun x2 _ => by simp only [List.all_nil, if_true]; exact ⟨x2, rfl⟩
  | cons p l ih =>
    intro x2 hl
    obtain ⟨h1, h2⟩ := hl p List.mem_cons_self
    have e := bodF_is (M := M) (x0 := x0) (k := k) h1 h2
    rw [List.map_cons, fLoop_cons]
    simp only [gN_e, List.set_cons_succ, List.set_cons_zero, e, List.all_cons]
    by_cases q : sqB k p = true
    · simp only [q, if_true, Bool.not_true, Bool.false_and, Bool.false_eq_true, if_false]
    · have := ih (some (nI p)) fun r hr => hl r (List.mem_cons_of_mem _ hr)
      simp only [Bool.not_eq_true] at q
      simp only [q, Bool.not_false, Bool.true_and, Bool.false_eq_true, if_false]
      exact this
theorem in_eq {n : Int} (q : ¬ n % 4 = 1) : (8 == n % 16 || 12 == n % 16) = decide (n % 4 = 1 ∨ n % 16 = 8 ∨ n % 16 = 12) := by
  by_cases h1 : n % 16 = 8
  · rw [h1]; simp
  · by_cases h2 : n % 16 = 12
    · rw [h2]; simp
    · have a1 : (8 == n % 16) = false := beq_eq_false_iff_ne.mpr fun z => h1 z.symm
      have a2 : (12 == n % 16) = false := beq_eq_false_iff_ne.mpr fun z => h2 z.symm
      rw [a1, a2]
      simp [q, h1, h2]
theorem is_fundamental_is {n : Int} {k : Nat} (hk : 0 - n = k) (h1 : 1 ≤ k) (h2 : k ≤ 1500) : m_l_is_fundamental [.int n] M = some (.ok (.bl (fund k)), M) := by
  have hl := loopF (M := M) (x0 := some (.int n)) (k := k) (primesL 1500 k 2) none fun p hp => by have := primesL_b 1500 k 2 (by omega) p hp; omega
  unfold m_l_is_fundamental f_l_is_fundamental
  rw [mDef_1, show start0 3 [D.int n] = [some (.int n), none, none] from rfl]
  have ha : sAsg (cOp gSub (cC (.int 0)) (cVar 0)) (gN 1) [some (.int n), none, none] M = some (.nx [some (.int n), some (nI k), none], M) := by
    show some (Fl.nx [some (.int n), some (.int (0 - n)), none], M) = _
    rw [hk]; rfl
  rw [sSeq_nx ha]
  have hi : iSeq (cCall m_l_primes (aCons (cVar 1) aNil)) [some (.int n), some (nI k), none] M = some (.ok ((primesL 1500 k 2).map nI), M) := by
    simp [primes_is h1 h2]
  have hs : sFor (iSeq (cCall m_l_primes (aCons (cVar 1) aNil))) (gN 2) bodF [some (.int n), some (nI k), none] M = fLoop (gN 2) bodF ((primesL 1500 k 2).map nI) [some (.int n), some (nI k), none] M := by
    rw [sFor_e, hi, sbnd_ok]
  have hrr : ∀ y : Option D, sRet (cOr (cOp (gEq false) (cOp gMod (cVar 0) (cC (.int 4))) (cC (.int 1))) (cOp (gIn false) (cOp gMod (cVar 0) (cC (.int 16))) (cTup (aCons (cC (.int 8)) (aCons (cC (.int 12)) aNil))))) [some (.int n), some (nI k), y] M = some (.rt (.bl (decide (n % 4 = 1 ∨ n % 16 = 8 ∨ n % 16 = 12))), M) := by
    intro y
    have e4 : cOp gMod (cVar 0) (cC (.int 4)) [some (.int n), some (nI k), y] M = some (.ok (.int (n % 4)), M) := rfl
    have e16 : cOp gMod (cVar 0) (cC (.int 16)) [some (.int n), some (nI k), y] M = some (.ok (.int (n % 16)), M) := rfl
    have et : cTup (aCons (cC (.int 8)) (aCons (cC (.int 12)) aNil)) [some (.int n), some (nI k), y] M = some (.ok (.tup [.int 8, .int 12]), M) := rfl
    rw [sRet_e, cOr_e, cOp_e, e4, bnd_ok, cC_e, bnd_ok, gEq_int, bnd_ok, tru_bl]
    by_cases q : n % 4 = 1
    · rw [show (n % 4 == 1) = true from beq_iff_eq.mpr q, decide_eq_true (Or.inl q)]
      rfl
    · rw [show (n % 4 == 1) = false from beq_eq_false_iff_ne.mpr q]
      simp only [Bool.false_eq_true, if_false]
      rw [cOp_e, e16, bnd_ok, et, bnd_ok, gIn_two, sbnd_ok]
      rw [in_eq q]
  have hn : -(k : Int) = n := by omega
  unfold fund
  rw [hn]
  by_cases q : (primesL 1500 k 2).all (fun p => !sqB k p) = true
  · rw [if_pos q] at hl
    obtain ⟨y2, hl⟩ := hl
    rw [hl] at hs
    unfold bodF at hs
    rw [sSeq_nx hs, hrr, fin_rt, q, Bool.true_and]
    exact gcF_ok0 rfl rfl
  · rw [if_neg q] at hl
    rw [hl] at hs
    unfold bodF at hs
    rw [sSeq_rt hs, fin_rt]
    simp only [Bool.not_eq_true] at q
    rw [q, Bool.false_and]
    exact gcF_ok0 rfl rfl
end K11
/-! k11, part V: the unit; membership of rows. -/
namespace K11
open PySem DL
variable {M : Store}
theorem gIn_rows {neg : Bool} {r : List Int} {t : List (List Int)} : gIn neg (eRow r) (.imm (t.map eRow)) M = some (.ok (.bl (if neg = true then !(t.contains r) else t.contains r)), M) := by
  have h3 : toPys (t.map eRow) = some (t.map pRow) := toPys_map (g := pRow) fun r => toPyM_row (M := M) (r := r)
  have h1 : toPyM M (eRow r) = some (pRow r) := toPyM_row
  unfold gIn
  rw [h1, show itemsOf M (.imm (t.map eRow)) = some (t.map eRow) from rfl]
  dsimp only
  rw [h3]
  dsimp only
  rw [shaped_row, show SeqAt.shaped (.list (t.map pRow)) = true from shaped_tab]
  have e : ((t.map pRow).any fun z => PyData.eqv z (pRow r)) = t.contains r := by
    rw [List.any_map, Bool.eq_iff_iff, List.any_eq_true, List.contains_iff_mem]
    constructor
    · rintro ⟨x, hx, h⟩
      simp only [Function.comp] at h
      rw [eqv_row, beq_iff_eq] at h
      exact h ▸ hx
    · intro h
      exact ⟨r, h, by simp only [Function.comp]; rw [eqv_row, beq_iff_eq]⟩
  rw [e]
  rfl
theorem unit_two_is {n : Int} (h : Num n) : m_unit_two [.int n] M = some (.ok (eRow [1, n % 4, (n % 4 - n) / 4]), M) := by
  unfold m_unit_two f_unit_two
  rw [mDef_1, show start0 2 [D.int n] = [some (.int n), none] from rfl]
  have hc : sExpr (cCall m_check_gap (aCons (cVar 0) aNil)) [some (.int n), none] M = some (.nx [some (.int n), none], M) := by
    simp [check_gap_is h.neg h.mod]
  rw [sSeq_nx hc]
  have ha : sAsg (cOp gMod (cVar 0) (cC (.int 4))) (gN 1) [some (.int n), none] M = some (.nx [some (.int n), some (.int (n % 4))], M) := rfl
  rw [sSeq_nx ha]
  have hb : cTup (aCons (cC (.int 1)) (aCons (cVar 1) (aCons (cOp gDiv (cOp gSub (cVar 1) (cVar 0)) (cC (.int 4))) aNil))) [some (.int n), some (.int (n % 4))] M = some (.ok (eRow [1, n % 4, (n % 4 - n) / 4]), M) := by
    rfl
  rw [sRet_e, hb, sbnd_ok, fin_rt]
  exact gcF_ok0 rfl rfl
end K11
/-! k11, part X: the opposite form. -/
namespace K11
open PySem DL
variable {M : Store}
def Frm.opp (f : Frm) : Frm := ⟨f.a, 0 - f.b, f.c⟩
def Chg.conj (u : Chg) : Chg := ⟨u.p, -u.q, -u.r, u.s⟩
theorem conj_det (u : Chg) : u.conj.det = u.det := by simp only [Chg.conj, Chg.det]; grind
theorem opp_act (f : Frm) (u : Chg) : f.opp.act u.conj = (f.act u).opp := by
  apply Frm.ext <;> simp only [Frm.act, Frm.wo, worthF, midF, Frm.opp, Chg.conj] <;> grind
theorem opp_pos {f : Frm} (h : f.pos) : f.opp.pos := ⟨h.1, by
  have := h.2
  have e : f.opp.gap = f.gap := by simp only [Frm.gap, gapF, Frm.opp]; grind
  omega⟩
theorem opp_bd {f : Frm} (h : Bd f) : Bd f.opp := ⟨h.a, by have := h.b2; show _ ≤ 0 - f.b; omega, by have := h.b1; show 0 - f.b ≤ _; omega, h.c⟩
theorem opp_gcd {a b c : Int} : gcdL [a, 0 - b, c] = gcdL [a, b, c] := by
  simp only [gcdL, List.foldl_cons, List.foldl_nil]
  rw [Int.zero_sub, Int.gcd_neg]
/-- the reduced forms of the opposites of two equivalent forms are equal -/
theorem opp_unique {f : Frm} {u v w : Chg} (hp : f.pos) (hu : u.det = 1) (hv : v.det = 1) (hw : w.det = 1) (r1 : Red ((f.act u).opp.act v)) (r2 : Red (f.opp.act w)) : (f.act u).opp.act v = f.opp.act w := by
  refine unique (u := (v.mul u.conj).mul w.inv) r2 r1 (pos_act (opp_pos hp) hw) ?_ ?_
  · rw [det_mul, det_mul, conj_det, det_inv, hu, hv, hw]; rfl
  · rw [← act_act, act_inv _ _ hw, ← act_act, opp_act]
noncomputable def oppP : AF := aCons (cTup (aCons (cOp gIx (cVar 0) (cC (.int 0))) (aCons (cOp gSub (cC (.int 0)) (cOp gIx (cVar 0) (cC (.int 1)))) (aCons (cOp gIx (cVar 0) (cC (.int 2))) aNil)))) aNil
theorem opposite_two_is {f : Frm} (hp : f.pos) (hb : Bd f) (h1 : gcdL [f.a, f.b, f.c] = 1) : ∃ v, v.det = 1 ∧ Red (f.opp.act v) ∧ Bd (f.opp.act v) ∧ m_opposite_two [eF f] M = some (.ok (eF (f.opp.act v)), M) := by
  obtain ⟨v, e1, e2, e3, e4⟩ := two_reduced_is (M := M) (f := f.opp) (opp_pos hp) (opp_bd hb) (opp_gcd.trans h1)
  refine ⟨v, e1, e2, e3, ?_⟩
  have hsb : Sm f.b := ⟨by have := hb.b1; omega, by have := hb.b2; omega⟩
  have hsc : Sm f.c := ⟨by have := pos_c hp; omega, by have := hb.c; omega⟩
  have hc : sExpr (cCall m_check_two (aCons (cVar 0) aNil)) [some (eF f)] M = some (.nx [some (eF f)], M) := by
    have := check_two_is (M := M) hsb hsc hp.2 hp.1 h1
    simp [eF, this]
  unfold m_opposite_two f_opposite_two
  rw [mDef_1, show start0 1 [eF f] = [some (eF f)] from rfl, sSeq_nx hc]
  have ha : aCons (cTup (aCons (cOp gIx (cVar 0) (cC (.int 0))) (aCons (cOp gSub (cC (.int 0)) (cOp gIx (cVar 0) (cC (.int 1)))) (aCons (cOp gIx (cVar 0) (cC (.int 2))) aNil)))) aNil [some (eF f)] M = some (.ok [eF f.opp], M) := rfl
  have hr : cOp gIx (cCall m_two_reduced (aCons (cTup (aCons (cOp gIx (cVar 0) (cC (.int 0))) (aCons (cOp gSub (cC (.int 0)) (cOp gIx (cVar 0) (cC (.int 1)))) (aCons (cOp gIx (cVar 0) (cC (.int 2))) aNil)))) aNil)) (cC (.int 0)) [some (eF f)] M = some (.ok (eF (f.opp.act v)), M) := by
    rw [cOp_e, cCall_e, ha, bnd_ok, e4, bnd_ok, cC_e, bnd_ok]
    rfl
  rw [sRet_e, hr, sbnd_ok, fin_rt]
  exact gcF_ok0 rfl rfl
end K11
/-! k11, part Y: primitive forms stay primitive. -/
namespace K11
open PySem DL
variable {M : Store}
theorem gcdL_l {a b c : Int} : (gcdL [a, b, c]) ∣ a ∧ (gcdL [a, b, c]) ∣ b ∧ (gcdL [a, b, c]) ∣ c := by
  simp only [gcdL, List.foldl_cons, List.foldl_nil]
  refine ⟨?_, ?_, Int.gcd_dvd_right ..⟩
  · exact Int.dvd_trans (Int.gcd_dvd_left ..) (Int.dvd_trans (Int.gcd_dvd_left ..) (Int.gcd_dvd_right ..))
  · exact Int.dvd_trans (Int.gcd_dvd_left ..) (Int.gcd_dvd_right ..)
theorem dvd_gcdL {d a b c : Int} (h1 : d ∣ a) (h2 : d ∣ b) (h3 : d ∣ c) : d ∣ gcdL [a, b, c] := by
  simp only [gcdL, List.foldl_cons, List.foldl_nil]
  exact Int.dvd_coe_gcd (Int.dvd_coe_gcd (Int.dvd_coe_gcd (Int.dvd_zero _) h1) h2) h3
theorem gcdL_nn {a b c : Int} : 0 ≤ gcdL [a, b, c] := by
  simp only [gcdL, List.foldl_cons, List.foldl_nil]
  omega
theorem act_dvd {f : Frm} {u : Chg} {d : Int} (h1 : d ∣ f.a) (h2 : d ∣ f.b) (h3 : d ∣ f.c) : d ∣ (f.act u).a ∧ d ∣ (f.act u).b ∧ d ∣ (f.act u).c := by
  obtain ⟨a, e1⟩ := h1
  obtain ⟨b, e2⟩ := h2
  obtain ⟨c, e3⟩ := h3
  have e : f = ⟨d * a, d * b, d * c⟩ := Frm.ext e1 e2 e3
  subst e
  refine ⟨⟨worthF a b c u.p u.q, ?_⟩, ⟨midF a b c u.p u.q u.r u.s, ?_⟩, ⟨worthF a b c u.r u.s, ?_⟩⟩ <;>
    simp only [Frm.act, Frm.wo, worthF, midF] <;> grind
theorem prim_act {f : Frm} {u : Chg} (hu : u.det = 1) (h : gcdL [f.a, f.b, f.c] = 1) : gcdL [(f.act u).a, (f.act u).b, (f.act u).c] = 1 := by
  obtain ⟨h1, h2, h3⟩ := gcdL_l (a := (f.act u).a) (b := (f.act u).b) (c := (f.act u).c)
  obtain ⟨k1, k2, k3⟩ := act_dvd (u := u.inv) h1 h2 h3
  rw [act_inv f u hu] at k1 k2 k3
  have := dvd_gcdL k1 k2 k3
  rw [h] at this
  have p := gcdL_nn (a := (f.act u).a) (b := (f.act u).b) (c := (f.act u).c)
  exact Int.eq_one_of_dvd_one p this
end K11
/-! k11, part Z: what lies in the classes. -/
namespace K11
open PySem DL
def Frm.row (f : Frm) : List Int := [f.a, f.b, f.c]
theorem mem_prm {n : Int} (h : Num n) {r : List Int} : r ∈ prm n ↔ ∃ f : Frm, r = f.row ∧ f.pos ∧ f.gap = n ∧ Red f ∧ gcdL f.row = 1 := by
  have hx := rootN_is (x := (0 - n) / 3) (by have := h.neg; omega) (by have := h.lo; omega)
  have hneg := h.neg
  generalize hk : rootN ((0 - n) / 3) = k at hx
  unfold prm cls clsU clsA
  rw [hk, List.mem_filter, List.mem_flatMap]
  constructor
  · rintro ⟨⟨a, ha, hr⟩, hp⟩
    obtain ⟨b, hb, rfl⟩ := List.mem_map.mp hr
    obtain ⟨hb, hq⟩ := List.mem_filter.mp hb
    unfold pQ at hq
    rw [Bool.and_eq_true, beq_iff_eq] at hq
    have ha1 := mem_rgI.mp ha
    have hm : 4 * a * cQ n a b = b * b - n := by
      unfold cQ
      have := Int.mul_ediv_add_emod (b * b - n) (4 * a)
      rw [hq.1] at this
      omega
    refine ⟨⟨a, b, cQ n a b⟩, rfl, ⟨by show 1 ≤ a; omega, ?_⟩, ?_, red_iff.mp hq.2, ?_⟩
    · show gapF a b (cQ n a b) < 0
      unfold gapF; omega
    · show gapF a b (cQ n a b) = n
      unfold gapF; omega
    · exact beq_iff_eq.mp hp
  · rintro ⟨f, rfl, hp, hg, hr, h1⟩
    have h2 := red_iff.mpr hr
    obtain ⟨a, b, c⟩ := f
    have ha : 1 ≤ a := hp.1
    have hg : b * b - 4 * a * c = n := hg
    have hlo : -a < b := hr.lo
    have hhi : b ≤ a := hr.hi
    have hac : a ≤ c := hr.ac
    have hcq : cQ n a b = c := by
      unfold cQ
      rw [show b * b - n = 4 * a * c by omega, Int.mul_ediv_cancel_left _ (by omega)]
    refine ⟨⟨a, ?_, List.mem_map.mpr ⟨b, List.mem_filter.mpr ⟨?_, ?_⟩, ?_⟩⟩, beq_iff_eq.mpr h1⟩
    · refine mem_rgI.mpr ?_
      have hbb : b * b ≤ a * a := by
        rcases Int.le_total 0 b with z | z
        · exact Int.mul_le_mul hhi hhi z (by omega)
        · have := Int.mul_le_mul (show -b ≤ a by omega) (show -b ≤ a by omega) (by omega) (by omega)
          rw [Int.neg_mul_neg] at this; exact this
      have hacc : a * a ≤ a * c := Int.mul_le_mul_of_nonneg_left hac (by omega)
      have e4 : 4 * a * c = 4 * (a * c) := Int.mul_assoc ..
      have h3 : a * a ≤ (0 - n) / 3 := by omega
      have h4 : a < (k : Int) + 1 := by
        rcases Int.lt_or_le a ((k : Int) + 1) with z | z
        · exact z
        · have := Int.mul_le_mul z z (by omega) (by omega)
          have := hx.2.2
          omega
      omega
    · exact mem_rgI.mpr (by omega)
    · unfold pQ
      rw [Bool.and_eq_true, beq_iff_eq, hcq]
      refine ⟨?_, h2⟩
      rw [show b * b - n = 4 * a * c by omega]
      exact Int.mul_emod_right ..
    · unfold rQ
      rw [hcq]; rfl
end K11
/-! k11, part AA: the bad forms told. -/
namespace K11
open PySem DL
variable {M : Store}
theorem bad_form {a b : Int} : m_check_two [eRow [a, b]] M = some (.ex "BadTable" [("reason", .str "form")], M) := by
  unfold m_check_two f_check_two
  simp [is_two_2]
theorem bad_above {a b c : Int} (hb : Sm b) (hc : Sm c) (h : 0 ≤ gapF a b c ∨ a < 1) : m_check_two [eRow [a, b, c]] M = some (.ex "BadTable" [("reason", .str "above")], M) := by
  unfold m_check_two f_check_two
  by_cases h1 : 0 ≤ gapF a b c
  · simp [is_two_3, gap_is hb hc, h1]
  · simp [is_two_3, gap_is hb hc, h1, h.resolve_left h1]
theorem bad_divisor {a b c : Int} (hb : Sm b) (hc : Sm c) (hg : gapF a b c < 0) (ha : 1 ≤ a) (h1 : gcdL [a, b, c] ≠ 1) : m_check_two [eRow [a, b, c]] M = some (.ex "BadTable" [("reason", .str "divisor")], M) := by
  unfold m_check_two f_check_two
  simp [is_two_3, gap_is hb hc, divisor_of_is, h1, show ¬ 0 ≤ gapF a b c by omega, show ¬ a < 1 by omega]
theorem bad_two {r : List Int} {s : Str} (h : m_check_two [eRow r] M = some (.ex "BadTable" [("reason", .str s)], M)) : m_two_reduced [eRow r] M = some (.ex "BadTable" [("reason", .str s)], M) := by
  unfold m_two_reduced f_two_reduced
  rw [mDef_1, show start0 6 [eRow r] = [some (eRow r), none, none, none, none, none] from rfl]
  simp [h]
noncomputable def bodB : SF := (sTry "BadTable" 18 (sExpr (cCall m_two_reduced (aCons (cVar 16) aNil))) (fun fs => sIf (cTru (cOp (gEq true) (xRsn fs) ((cVar 17)))) (sRet (cC (.bl false))) sSkip) (sRet (cC (.bl false))))
def eBad (p : List Int × Str) : D := .tup [eRow p.1, .str p.2]
theorem bad_turn {r : List Int} {s : Str} {a0 a1 a2 a3 a4 a5 a6 a7 a8 a9 a10 a11 a12 a13 a14 a15 a18 a19 a20 : Option D} (h : m_two_reduced [eRow r] M = some (.ex "BadTable" [("reason", .str s)], M)) :
    ∃ b18, bodB [a0, a1, a2, a3, a4, a5, a6, a7, a8, a9, a10, a11, a12, a13, a14, a15, some (eRow r), some (.str s), a18, a19, a20] M = some (.nx [a0, a1, a2, a3, a4, a5, a6, a7, a8, a9, a10, a11, a12, a13, a14, a15, some (eRow r), some (.str s), b18, a19, a20], M) := by
  unfold bodB sTry
  simp [h, xRsn]
  exact ⟨none, rfl⟩
theorem bad_loop {a0 a1 a2 a3 a4 a5 a6 a7 a8 a9 a10 a11 a12 a13 a14 a15 a19 a20 : Option D} (l : List (List Int × Str)) : ∀ (a16 a17 a18 : Option D), (∀ p ∈ l, m_two_reduced [eRow p.1] M = some (.ex "BadTable" [("reason", .str p.2)], M)) →
    ∃ b16 b17 b18, fLoop (gTupC 2 (gConsC (gN 16) (gConsC (gN 17) gNilC))) bodB (l.map eBad) [a0, a1, a2, a3, a4, a5, a6, a7, a8, a9, a10, a11, a12, a13, a14, a15, a16, a17, a18, a19, a20] M =
      some (.nx [a0, a1, a2, a3, a4, a5, a6, a7, a8, a9, a10, a11, a12, a13, a14, a15, b16, b17, b18, a19, a20], M) := by
  induction l with
  | nil => exact fun a16 a17 a18 _ => ⟨a16, a17, a18, rfl⟩
  | cons p l ih =>
    intro a16 a17 a18 hl
    obtain ⟨b18, e⟩ := bad_turn (M := M) (a0 := a0) (a1 := a1) (a2 := a2) (a3 := a3) (a4 := a4) (a5 := a5) (a6 := a6) (a7 := a7) (a8 := a8) (a9 := a9) (a10 := a10) (a11 := a11) (a12 := a12) (a13 := a13) (a14 := a14) (a15 := a15) (a18 := a18) (a19 := a19) (a20 := a20) (hl p List.mem_cons_self)
    obtain ⟨c16, c17, c18, e2⟩ := ih (some (eRow p.1)) (some (.str p.2)) b18 fun q hq => hl q (List.mem_cons_of_mem _ hq)
    refine ⟨c16, c17, c18, ?_⟩
    rw [List.map_cons, fLoop_cons]
    simp [eBad, e]
    exact e2
theorem bads {p : List Int × Str} (h : p ∈ ([([1, 2], "form"), ([1, 5, 1], "above"), ([-1, 0, -1], "above"), ([2, 0, 2], "divisor")] : List (List Int × Str))) : m_two_reduced [eRow p.1] M = some (.ex "BadTable" [("reason", .str p.2)], M) := by
  simp only [List.mem_cons, List.not_mem_nil, or_false] at h
  rcases h with rfl | rfl | rfl | rfl
  · exact bad_two bad_form
  · exact bad_two (bad_above ⟨by decide, by decide⟩ ⟨by decide, by decide⟩ (by decide))
  · exact bad_two (bad_above ⟨by decide, by decide⟩ ⟨by decide, by decide⟩ (by decide))
  · exact bad_two (bad_divisor ⟨by decide, by decide⟩ ⟨by decide, by decide⟩ (by decide) (by decide) (by decide))
end K11
/-! k11, part BB: Hurwitz' relation for 1..40, by the kernel. -/
namespace K11
open PySem DL
def sumI (l : List Int) : Int := l.foldl (· + ·) 0
def hurR (n : Int) : Int := 2 * sumI (divs n) - sumI ((divs n).map fun d => min d (n / d))
def hurB (n : Int) : Bool := decide (hur 14 n 0 [0, 1] = some [hurR n, 1])
theorem hur_1 : ((rgI 1 10).all hurB) = true := by decide +kernel
theorem hur_2 : ((rgI 11 10).all hurB) = true := by decide +kernel
theorem hur_3 : ((rgI 21 10).all hurB) = true := by decide +kernel
theorem hur_4 : ((rgI 31 10).all hurB) = true := by decide +kernel
theorem hur_all {n : Int} (h1 : 1 ≤ n) (h2 : n ≤ 40) : hur 14 n 0 [0, 1] = some [hurR n, 1] := by
  have key : hurB n = true := by
    by_cases a : n ≤ 10
    · exact List.all_eq_true.mp hur_1 n (mem_rgI.mpr (by omega))
    · by_cases b : n ≤ 20
      · exact List.all_eq_true.mp hur_2 n (mem_rgI.mpr (by omega))
      · by_cases c : n ≤ 30
        · exact List.all_eq_true.mp hur_3 n (mem_rgI.mpr (by omega))
        · exact List.all_eq_true.mp hur_4 n (mem_rgI.mpr (by omega))
  exact of_decide_eq_true key
end K11
/-! k11, part CC: the weights of the 600 numbers, by the kernel. -/
namespace K11
open PySem DL
def wB (n : Int) : Bool := decide (wlO (cls n) [0, 1] = some (wgt n))
def wC (i : Nat) : Bool := wB (-(4 * ((i : Int) + 1))) && wB (-(4 * ((i : Int) + 1)) + 1)
theorem wgt_0 : ((List.range' 0 25).all wC) = true := by decide +kernel
theorem wgt_1 : ((List.range' 25 25).all wC) = true := by decide +kernel
theorem wgt_2 : ((List.range' 50 25).all wC) = true := by decide +kernel
theorem wgt_3 : ((List.range' 75 25).all wC) = true := by decide +kernel
theorem wgt_4 : ((List.range' 100 25).all wC) = true := by decide +kernel
theorem wgt_5 : ((List.range' 125 25).all wC) = true := by decide +kernel
theorem wgt_6 : ((List.range' 150 25).all wC) = true := by decide +kernel
theorem wgt_7 : ((List.range' 175 25).all wC) = true := by decide +kernel
theorem wgt_8 : ((List.range' 200 25).all wC) = true := by decide +kernel
theorem wgt_9 : ((List.range' 225 25).all wC) = true := by decide +kernel
theorem wgt_10 : ((List.range' 250 25).all wC) = true := by decide +kernel
theorem wgt_11 : ((List.range' 275 25).all wC) = true := by decide +kernel
theorem wgt_all {n : Int} (h0 : n < 0) (h1 : -1200 ≤ n) (h2 : n % 4 ≤ 1) : wlO (cls n) [0, 1] = some (wgt n) := by
  obtain ⟨i, hi, e⟩ : ∃ i : Nat, i < 300 ∧ (n = -(4 * ((i : Int) + 1)) ∨ n = -(4 * ((i : Int) + 1)) + 1) := ⟨((3 - n) / 4 - 1).toNat, by omega, by omega⟩
  have key : wC i = true := by
    by_cases a0 : i < 25
    · exact List.all_eq_true.mp wgt_0 i (List.mem_range'_1.mpr (by omega))
    by_cases a1 : i < 50
    · exact List.all_eq_true.mp wgt_1 i (List.mem_range'_1.mpr (by omega))
    by_cases a2 : i < 75
    · exact List.all_eq_true.mp wgt_2 i (List.mem_range'_1.mpr (by omega))
    by_cases a3 : i < 100
    · exact List.all_eq_true.mp wgt_3 i (List.mem_range'_1.mpr (by omega))
    by_cases a4 : i < 125
    · exact List.all_eq_true.mp wgt_4 i (List.mem_range'_1.mpr (by omega))
    by_cases a5 : i < 150
    · exact List.all_eq_true.mp wgt_5 i (List.mem_range'_1.mpr (by omega))
    by_cases a6 : i < 175
    · exact List.all_eq_true.mp wgt_6 i (List.mem_range'_1.mpr (by omega))
    by_cases a7 : i < 200
    · exact List.all_eq_true.mp wgt_7 i (List.mem_range'_1.mpr (by omega))
    by_cases a8 : i < 225
    · exact List.all_eq_true.mp wgt_8 i (List.mem_range'_1.mpr (by omega))
    by_cases a9 : i < 250
    · exact List.all_eq_true.mp wgt_9 i (List.mem_range'_1.mpr (by omega))
    by_cases a10 : i < 275
    · exact List.all_eq_true.mp wgt_10 i (List.mem_range'_1.mpr (by omega))
    by_cases a11 : i < 300
    · exact List.all_eq_true.mp wgt_11 i (List.mem_range'_1.mpr (by omega))
    omega
  unfold wC at key
  rw [Bool.and_eq_true] at key
  rcases e with rfl | rfl
  · exact of_decide_eq_true key.1
  · exact of_decide_eq_true key.2
end K11
/-! k11, part DD: sums; the right side of Hurwitz' relation. -/
namespace K11
open PySem DL
variable {M : Store}
theorem intsOf_map (l : List Int) : intsOf (l.map D.int) = some l := by
  induction l with
  | nil => rfl
  | cons i l ih => simp only [List.map_cons, intsOf, ih]
theorem gSum_is {l : List Int} : gSum [.imm (l.map D.int)] M = some (.ok (.int l.sum), M) := by
  unfold gSum
  dsimp only
  rw [intsOf_map]
theorem foldl_sum (l : List Int) : ∀ a : Int, l.foldl (· + ·) a = a + l.sum := by
  induction l with
  | nil => intro a; simp
  | cons i l ih => intro a; rw [List.foldl_cons, ih, List.sum_cons]; omega
theorem sumI_eq {l : List Int} : sumI l = l.sum := by unfold sumI; rw [foldl_sum]; omega
theorem divs_b {n d : Int} (h : d ∈ divs n) (h0 : 0 ≤ n) : 1 ≤ d ∧ d ≤ n := by
  unfold divs at h
  have := mem_rgI.mp (List.mem_filter.mp h).1
  omega
theorem divs_len {n : Int} : (divs n).length ≤ n.toNat := by
  unfold divs
  refine Nat.le_trans (List.length_filter_le ..) ?_
  rw [rg_len]
  exact Nat.le_refl _
noncomputable def rhsH : EF := cTup (aCons (cOp gSub (cOp gMul (cC (.int 2)) (cCall gSum (aCons (cCall m_l_divisors (aCons (cVar 4) aNil)) aNil))) (cCall gSum (aCons (cLc (iSeq (cCall m_l_divisors (aCons (cVar 4) aNil))) (gN 20) tYesC (cCall gMin (aCons (cVar 20) (aCons (cOp gDiv (cVar 4) (cVar 20)) aNil))) [20]) aNil))) (aCons (cC (.int 1)) aNil))
theorem rhsH_is {n : Int} (h0 : 1 ≤ n) (h1 : n ≤ 40) {a0 a1 a2 a3 a5 a6 a7 a8 a9 a10 a11 a12 a13 a14 a15 a16 a17 a18 a19 a20 : Option D} :
    rhsH [a0, a1, a2, a3, some (.int n), a5, a6, a7, a8, a9, a10, a11, a12, a13, a14, a15, a16, a17, a18, a19, a20] M = some (.ok (eRow [hurR n, 1]), M) := by
  have hd := divisors_is (M := M) (n := n) (by omega) (by omega)
  have hl := divs_len (n := n)
  have hi : iSeq (cCall m_l_divisors (aCons (cVar 4) aNil)) [a0, a1, a2, a3, some (.int n), a5, a6, a7, a8, a9, a10, a11, a12, a13, a14, a15, a16, a17, a18, a19, a20] M = some (.ok ((divs n).map D.int), M) := by
    simp [hd]
  have hc : cLc (iSeq (cCall m_l_divisors (aCons (cVar 4) aNil))) (gN 20) tYesC (cCall gMin (aCons (cVar 20) (aCons (cOp gDiv (cVar 4) (cVar 20)) aNil))) [20] [a0, a1, a2, a3, some (.int n), a5, a6, a7, a8, a9, a10, a11, a12, a13, a14, a15, a16, a17, a18, a19, a20] M = some (.ok (.imm ((divs n).map fun d => D.int (min d (n / d)))), M) := lc_map (M := M) (en := [a0, a1, a2, a3, some (.int n), a5, a6, a7, a8, a9, a10, a11, a12, a13, a14, a15, a16, a17, a18, a19, a20]) (g := gN 20) (f := cCall gMin (aCons (cVar 20) (aCons (cOp gDiv (cVar 4) (cVar 20)) aNil))) (mk := mkI) (vs := [20]) D.int (fun d => D.int (min d (n / d))) (divs n) hi (by omega) fun d hdd => ⟨[a0, a1, a2, a3, some (.int n), a5, a6, a7, a8, a9, a10, a11, a12, a13, a14, a15, a16, a17, a18, a19, some (.int d)], by simp, by
      have hb := divs_b hdd (by omega)
      have e : (if n / d < d then n / d else d) = min d (n / d) := by
        rw [Int.min_def]
        split <;> split <;> omega
      simp [show divC n d = true from divC_of (by omega) (by omega), e]⟩
  have hs1 : cCall gSum (aCons (cCall m_l_divisors (aCons (cVar 4) aNil)) aNil) [a0, a1, a2, a3, some (.int n), a5, a6, a7, a8, a9, a10, a11, a12, a13, a14, a15, a16, a17, a18, a19, a20] M = some (.ok (.int (divs n).sum), M) := by
    simp [hd, gSum_is]
  have hs2 : cCall gSum (aCons (cLc (iSeq (cCall m_l_divisors (aCons (cVar 4) aNil))) (gN 20) tYesC (cCall gMin (aCons (cVar 20) (aCons (cOp gDiv (cVar 4) (cVar 20)) aNil))) [20]) aNil) [a0, a1, a2, a3, some (.int n), a5, a6, a7, a8, a9, a10, a11, a12, a13, a14, a15, a16, a17, a18, a19, a20] M = some (.ok (.int ((divs n).map fun d => min d (n / d)).sum), M) := by
    rw [cCall_e, aCons_e, hc, bnd_ok, aNil_e, bnd_ok, bnd_ok]
    have : ((divs n).map fun d => D.int (min d (n / d))) = ((divs n).map fun d => min d (n / d)).map D.int := by
      rw [List.map_map]; rfl
    rw [this]
    exact gSum_is
  unfold rhsH hurR
  rw [sumI_eq, sumI_eq]
  have hm : cOp gMul (cC (.int 2)) (cCall gSum (aCons (cCall m_l_divisors (aCons (cVar 4) aNil)) aNil)) [a0, a1, a2, a3, some (.int n), a5, a6, a7, a8, a9, a10, a11, a12, a13, a14, a15, a16, a17, a18, a19, a20] M = some (.ok (.int (2 * (divs n).sum)), M) := by
    rw [cOp_e, cC_e, bnd_ok, hs1, bnd_ok]
    simp [show mulC 2 (divs n).sum = true from mulC_l (by omega) (by omega)]
  rw [cTup_e, aCons_e, cOp_e, hm, bnd_ok, hs2, bnd_ok]
  rfl
end K11
/-! k11, part EE: the character of a product; packed digits; masks of squares. -/
namespace K11
open PySem DL
theorem charL_mul {n c : Int} (l : List Nat) : ∀ (k : Nat) (x : Int), charL n k l (c * x) = c * charL n k l x := by
  induction l with
  | nil => intro k x; rfl
  | cons p l ih => intro k x; show charL n _ l (c * x * _) = c * charL n _ l (x * _); rw [Int.mul_assoc, ih]
theorem primesL_one {f p : Nat} : primesL f 1 p = [] := by cases f <;> rfl
theorem primesL_skip {k q : Nat} (hk : 1 ≤ k) : ∀ (i : Nat), NoD k q → i + 2 ≤ q → ∀ f, primesL (f + i) k (q - i) = primesL f k q := by
  intro i
  induction i with
  | zero => intro _ _ f; rfl
  | succ i ih =>
    intro h hq f
    rcases Nat.lt_or_ge 1 k with h1 | h1
    · rw [← ih h (by omega) f, show f + (i + 1) = (f + i) + 1 from rfl, primesL_succ, if_pos h1]
      have : ¬ (k % (q - (i + 1)) = 0) := fun z => h (q - (i + 1)) (by omega) (by omega) (Nat.dvd_of_mod_eq_zero z)
      rw [if_neg this, show q - (i + 1) + 1 = q - i by omega]
    · have : k = 1 := by omega
      subst this
      rw [primesL_one, primesL_one]
theorem strip_fuel {p : Nat} (hp : 2 ≤ p) : ∀ (f g k : Nat), k ≤ f → k ≤ g → 1 ≤ k → strip p f k = strip p g k := by
  intro f
  induction f with
  | zero => intro g k h1 h2 h3; omega
  | succ f ih =>
    intro g k h1 h2 h3
    cases g with
    | zero => omega
    | succ g =>
      unfold strip
      split
      · rename_i q
        have hlt : k / p < k := Nat.div_lt_self (by omega) hp
        have hpos : 1 ≤ k / p := Nat.div_pos (Nat.le_of_dvd h3 (Nat.dvd_of_mod_eq_zero q)) (by omega)
        rw [ih g (k / p) (by omega) (by omega) hpos]
      · rfl
theorem strip_step {p k : Nat} (hp : 2 ≤ p) (hk : 1 ≤ k) (h : p ∣ k) : strip p k k = ((strip p (k / p) (k / p)).1, (strip p (k / p) (k / p)).2 + 1) := by
  have hlt : k / p < k := Nat.div_lt_self (by omega) hp
  have hpos : 1 ≤ k / p := Nat.div_pos (Nat.le_of_dvd hk h) (by omega)
  rw [strip_fuel hp k (k + 1) k (by omega) (by omega) hk]
  show (if k % p = 0 then _ else _) = _
  rw [if_pos (Nat.mod_eq_zero_of_dvd h), strip_fuel hp k (k / p) (k / p) (by omega) (by omega) hpos]
theorem strip_no {p k : Nat} (h : ¬ p ∣ k) : strip p k k = (k, 0) := by
  cases k with
  | zero => rfl
  | succ k => unfold strip; rw [if_neg fun z => h (Nat.dvd_of_mod_eq_zero z)]
theorem chi_at {n : Int} {k p : Nat} (hk : 1 < k) (hk2 : k ≤ 1500) (hp : 2 ≤ p) (hd : p ∣ k) (hn : NoD k p) :
    chi n k = sgn n p ^ (strip p k k).2 * charL n (strip p k k).1 (primesL (1500 - (p - 2) - 1) (strip p k k).1 (p + 1)) 1 := by
  have hpk := hn.le hk hp
  unfold chi
  have := primesL_skip (k := k) (q := p) (by omega) (p - 2) hn (by omega) (1500 - (p - 2))
  rw [show 1500 - (p - 2) + (p - 2) = 1500 by omega, show p - (p - 2) = 2 by omega] at this
  rw [this]
  have e := primesL_succ (f := 1500 - (p - 2) - 1) (k := k) (p := p)
  rw [show 1500 - (p - 2) - 1 + 1 = 1500 - (p - 2) by omega, if_pos hk, if_pos (Nat.mod_eq_zero_of_dvd hd)] at e
  rw [e]
  show charL n _ _ (1 * _) = _
  rw [← charL_mul, Int.one_mul, Int.mul_one]
/-- the least divisor comes off -/
theorem chi_step {n : Int} {k p : Nat} (hk : 1 < k) (hk2 : k ≤ 1500) (hp : 2 ≤ p) (hd : p ∣ k) (hn : NoD k p) : chi n k = sgn n p * chi n (k / p) := by
  have hpk := hn.le hk hp
  have hlt : k / p < k := Nat.div_lt_self (by omega) hp
  have hpos : 1 ≤ k / p := Nat.div_pos hpk (by omega)
  have hdk : k / p ∣ k := Nat.div_dvd_of_dvd hd
  rw [chi_at hk hk2 hp hd hn, strip_step hp (by omega) hd]
  dsimp only
  by_cases q : p ∣ k / p
  · have : 1 < k / p := by have := Nat.le_of_dvd hpos q; omega
    rw [chi_at this (by omega) hp q (hn.dvd hdk), Int.pow_succ, Int.mul_comm (sgn n p ^ _) (sgn n p), Int.mul_assoc]
  · rw [strip_no q]
    dsimp only
    rw [Int.pow_succ, Int.pow_zero, Int.one_mul]
    congr 1
    unfold chi
    have := primesL_skip (k := k / p) (q := p + 1) hpos (p - 1) ((hn.dvd hdk).next q) (by omega) (1500 - (p - 2) - 1)
    rw [show 1500 - (p - 2) - 1 + (p - 1) = 1500 by omega, show p + 1 - (p - 1) = 2 by omega] at this
    rw [this]
theorem chi_one {n : Int} : chi n 1 = 1 := by unfold chi; rw [primesL_one]; rfl
/-! packed digits -/
def dig (A j : Nat) : Nat := Nat.mod (Nat.div A (Nat.pow 4 j)) 4
theorem dig_e {A j : Nat} : dig A j = A / 4 ^ j % 4 := rfl
theorem dig_put {A d k j : Nat} (hj : j < k) : dig (A + d * 4 ^ k) j = dig A j := by
  simp only [dig_e]
  have : d * 4 ^ k = 4 ^ j * (4 * (4 ^ (k - j - 1) * d)) := by
    rw [show k = j + 1 + (k - j - 1) by omega, Nat.pow_add, Nat.pow_succ, show j + 1 + (k - j - 1) - j - 1 = k - j - 1 by omega]
    simp [Nat.mul_comm, Nat.mul_left_comm, Nat.mul_assoc]
  rw [this, Nat.add_mul_div_left _ _ (Nat.pow_pos (by decide)), Nat.add_mul_mod_self_left]
theorem dig_new {A d k : Nat} (hA : A < 4 ^ k) (hd : d < 4) : dig (A + d * 4 ^ k) k = d := by
  simp only [dig_e]
  rw [Nat.mul_comm, Nat.add_mul_div_left _ _ (Nat.pow_pos (by decide)), Nat.div_eq_of_lt hA]
  omega
theorem put_lt {A d k : Nat} (hA : A < 4 ^ k) (hd : d < 4) : A + d * 4 ^ k < 4 ^ (k + 1) := by
  have h1 : d * 4 ^ k ≤ 3 * 4 ^ k := Nat.mul_le_mul_right _ (by omega)
  have : 4 ^ (k + 1) = 4 ^ k * 4 := Nat.pow_succ ..
  omega
/-! masks of squares -/
def sqM (p : Nat) : Nat → Nat
  | 0 => 0
  | j + 1 => sqM p j ||| (1 <<< (j * j % p))
theorem sqM_bit {p r : Nat} : ∀ (m : Nat), (sqM p m).testBit r = true ↔ ∃ j, j < m ∧ j * j % p = r := by
  intro m
  induction m with
  | zero => simp [sqM]
  | succ m ih =>
    unfold sqM
    rw [Nat.testBit_or, Bool.or_eq_true, ih, Nat.testBit_shiftLeft]
    constructor
    · rintro (⟨j, hj, e⟩ | h)
      · exact ⟨j, by omega, e⟩
      · refine ⟨m, by omega, ?_⟩
        rw [Bool.and_eq_true, decide_eq_true_eq, Nat.testBit_one_eq_true_iff_self_eq_zero] at h
        obtain ⟨h1, h2⟩ := h
        omega
    · rintro ⟨j, hj, e⟩
      rcases Nat.lt_or_ge j m with q | q
      · exact .inl ⟨j, q, e⟩
      · have : j = m := by omega
        subst this
        right
        subst e
        simp
/-- the digit of a sign: 0, 1, 2 for -1, 0, 1 -/
def oddD (N p m : Nat) : Nat := bif Nat.beq (Nat.mod N p) 0 then 1 else bif Nat.beq (Nat.mod (Nat.div m (Nat.pow 2 (Nat.sub p (Nat.mod N p)))) 2) 1 then 2 else 0
def twoD (N : Nat) : Nat := bif Nat.beq (Nat.mod N 2) 0 then 1 else bif Nat.beq (Nat.mod N 8) 7 then 2 else 0
theorem twoD_e {N : Nat} : twoD N = bif Nat.beq (N % 2) 0 then 1 else bif Nat.beq (N % 8) 7 then 2 else 0 := rfl
theorem oddD_e {N p m : Nat} : oddD N p m = bif Nat.beq (N % p) 0 then 1 else bif Nat.beq (m / 2 ^ (p - N % p) % 2) 1 then 2 else 0 := rfl
theorem twoD_is {n : Int} {N : Nat} (h : n = -(N : Int)) : ((twoD N : Nat) : Int) = sgn n 2 + 1 := by
  rw [twoD_e]; unfold sgn
  rw [if_pos rfl]
  cases h1 : Nat.beq (N % 2) 0 with
  | true => rw [cond_true]; have := Nat.eq_of_beq_eq_true h1; rw [if_pos (by omega)]; rfl
  | false =>
    have h1' := Nat.ne_of_beq_eq_false h1
    rw [cond_false, if_neg (by omega)]
    cases h2 : Nat.beq (N % 8) 7 with
    | true => rw [cond_true]; have := Nat.eq_of_beq_eq_true h2; rw [if_pos (by omega)]; rfl
    | false => rw [cond_false]; have := Nat.ne_of_beq_eq_false h2; rw [if_neg (by omega)]; rfl
theorem mem_rgI' {lo x : Int} {n : Nat} : x ∈ rgI lo n ↔ lo ≤ x ∧ x < lo + n := by
  unfold rgI
  rw [List.mem_map]
  constructor
  · rintro ⟨i, hi, rfl⟩
    have := List.mem_range.mp hi
    omega
  · rintro ⟨h1, h2⟩
    exact ⟨(x - lo).toNat, List.mem_range.mpr (by omega), by omega⟩
theorem oddD_is {n : Int} {N p : Nat} (h : n = -(N : Int)) (hp : 3 ≤ p) : ((oddD N p (sqM p p) : Nat) : Int) = sgn n p + 1 := by
  rw [oddD_e]; unfold sgn
  rw [if_neg (by omega)]
  unfold lsign
  have hr : N % p < p := Nat.mod_lt _ (by omega)
  have hN : (N : Int) = (p : Int) * ((N / p : Nat) : Int) + ((N % p : Nat) : Int) := by have := Nat.div_add_mod N p; exact_mod_cast this.symm
  cases h1 : Nat.beq (N % p) 0 with
  | true =>
    rw [cond_true]
    have e := Nat.eq_of_beq_eq_true h1
    rw [if_pos (Int.emod_eq_zero_of_dvd (Int.dvd_of_emod_eq_zero ?_))]
    · rfl
    · rw [h, hN, e]
      simp
  | false =>
    rw [cond_false]
    have e := Nat.ne_of_beq_eq_false h1
    have hm : n % (p : Int) = ((p - N % p : Nat) : Int) := by
      have : n = ((p - N % p : Nat) : Int) + (p : Int) * (-((N / p : Nat) : Int) - 1) := by
        rw [h]
        have h3 : ((p - N % p : Nat) : Int) = (p : Int) - ((N % p : Nat) : Int) := by omega
        rw [h3, Int.mul_sub, Int.mul_neg, Int.mul_one]
        omega
      rw [this, Int.add_mul_emod_self_left]
      exact Int.emod_eq_of_lt (by omega) (by omega)
    have hz : ¬ n % (p : Int) = 0 := by rw [hm]; omega
    rw [if_neg hz]
    have hb := sqM_bit (p := p) (r := p - N % p) p
    rw [Nat.testBit_eq_decide_div_mod_eq] at hb
    have key : (((rgI 0 p).filter fun k => (k * k - n) % p == 0).isEmpty = true) ↔ ¬ ∃ j, j < p ∧ j * j % p = p - N % p := by
      rw [List.isEmpty_iff, List.filter_eq_nil_iff]
      constructor
      · rintro hx ⟨j, hj, e⟩
        refine hx (j : Int) (mem_rgI'.mpr (by omega)) ?_
        rw [beq_iff_eq, Int.emod_emod_of_dvd _ (Int.dvd_refl _) |>.symm]
        have : ((j : Int) * j) % p = n % p := by rw [hm, ← e]; norm_cast
        rw [Int.sub_emod, this]; simp
      · intro hx k hk hz
        have hk := mem_rgI'.mp hk
        refine hx ⟨k.toNat, by omega, ?_⟩
        rw [beq_iff_eq] at hz
        have h4 : (k * k) % (p : Int) = n % p := Int.emod_eq_emod_iff_emod_sub_eq_zero.mpr hz
        rw [hm] at h4
        have h5 : ((k.toNat : Nat) : Int) = k := by omega
        rw [← h5] at h4
        exact_mod_cast h4
    cases h2 : Nat.beq (sqM p p / 2 ^ (p - N % p) % 2) 1 with
    | true =>
      rw [cond_true]
      have := Nat.eq_of_beq_eq_true h2
      rw [if_neg (fun z => key.mp z (hb.mp (decide_eq_true this)))]
      rfl
    | false =>
      rw [cond_false]
      have := Nat.ne_of_beq_eq_false h2
      rw [if_pos (key.mpr fun z => this (of_decide_eq_true (hb.mpr z)))]
      rfl
end K11
/-! k11, part FF: the sum of characters, by a table (printed by gen/k11tab.py). -/
namespace K11
open PySem DL
def spt0 : List (Nat × Nat) := [(2, 0), (3, 0x3), (2, 0), (5, 0x13), (2, 0), (7, 0x17), (2, 0), (3, 0), (2, 0), (11, 0x23b), (2, 0), (13, 0x161b), (2, 0), (3, 0), (2, 0), (17, 0x1a317), (2, 0), (19, 0x30af3), (2, 0), (3, 0), (2, 0), (23, 0x5335f), (2, 0), (5, 0), (2, 0), (3, 0), (2, 0), (29, 0x13d122f3), (2, 0), (31, 0x121d47b7), (2, 0), (3, 0), (2, 0), (5, 0), (2, 0), (37, 0x165e211e9b), (2, 0), (3, 0), (2, 0), (41, 0x1b382b50737), (2, 0), (43, 0x35883a3ee53), (2, 0), (3, 0), (2, 0), (47, 0x4351b2753df), (2, 0), (7, 0), (2, 0), (3, 0), (2, 0), (53, 0x12dd703303aed3), (2, 0), (5, 0), (2, 0), (3, 0), (2, 0), (59, 0x22b62183e7b92bb), (2, 0), (61, 0x1713e6940a59f23b), (2, 0), (3, 0), (2, 0), (5, 0), (2, 0), (67, 0x359c281ba27ebc653), (2, 0), (3, 0), (2, 0), (71, 0x1164729716b1d977f), (2, 0), (73, 0x1eb22c742790b8d135f), (2, 0), (3, 0), (2, 0), (7, 0), (2, 0), (79, 0x130b409e755186fd2f37), (2, 0), (3, 0), (2, 0), (83, 0x26873a80b1372fea31e9b), (2, 0), (5, 0), (2, 0), (3, 0), (2, 0), (89, 0x1b3c3b902a6b59502770f37), (2, 0), (7, 0), (2, 0), (3, 0), (2, 0), (5, 0), (2, 0), (97, 0x1eb628b476067981b8b451b5f), (2, 0), (3, 0), (2, 0), (101, 0x1391b7f0d30552a832c3fb6273)]
def spt1 : List (Nat × Nat) := [(2, 0), (103, 0x16380e9115bd964257768fe397), (2, 0), (3, 0), (2, 0), (107, 0x27816ea9821633397be6a897e1b), (2, 0), (109, 0x1752639f4e85b003685cbe7192bb), (2, 0), (3, 0), (2, 0), (113, 0x1a75e89ae2121f33e1211d645eb97), (2, 0), (5, 0), (2, 0), (3, 0), (2, 0), (7, 0), (2, 0), (11, 0), (2, 0), (3, 0), (2, 0), (5, 0), (2, 0), (127, 0x172a099c419697f17016967dc66fab17), (2, 0), (3, 0), (2, 0), (131, 0x22a273a784a132c03fcb37ade1a31babb), (2, 0), (7, 0), (2, 0), (3, 0), (2, 0), (137, 0x1a74fc92abc21827733b90610f5524fcb97), (2, 0), (139, 0x30ab7730c190a4be0af82daf67cf3112af3), (2, 0), (3, 0), (2, 0), (11, 0), (2, 0), (5, 0), (2, 0), (3, 0), (2, 0), (149, 0x13d036bbd749d181671239a062e4baf75b02f3), (2, 0), (151, 0x130f01ba50429ecd7355314c86bdf5a27f0f37), (2, 0), (3, 0), (2, 0), (5, 0), (2, 0), (157, 0x161fb414d76af63826461899071bd5baca0b7e1b), (2, 0), (3, 0), (2, 0), (7, 0), (2, 0), (163, 0x359c791f842ca8113adba24a377eacbde0761c653), (2, 0), (3, 0), (2, 0), (167, 0x425492235d61d181f63b23907e7479453bb6d5bdf), (2, 0), (13, 0), (2, 0), (3, 0), (2, 0), (173, 0x1299e1f15fb456f22411973a620913da8b7ea3e1e653), (2, 0), (5, 0), (2, 0), (3, 0), (2, 0), (179, 0x23b025aaf6c8272305c30a3af3c5f3b1bec90aa5bf23b), (2, 0), (181, 0x1717e2151bcfb266b4947840878a4b59937cf62a11fa3b), (2, 0), (3, 0), (2, 0), (5, 0), (2, 0), (11, 0), (2, 0), (3, 0), (2, 0), (191, 0x112160d566905e7236839d71463e93b185f69954f97b77f), (2, 0), (193, 0x1ef2a976620cb8e4f52417837b07a092bc9c74c119ba553df), (2, 0), (3, 0), (2, 0), (197, 0x12d864fb1b7c55c7f082152b33352a1043f8ea8fb637c986d3), (2, 0), (199, 0x12195692276883181d7e3d85d45e438147e73ee91bb69567b7), (2, 0), (3, 0)]
def spt2 : List (Nat × Nat) := [(2, 0), (7, 0), (2, 0), (5, 0), (2, 0), (3, 0), (2, 0), (11, 0), (2, 0), (211, 0x31a9633dd3e0a04d18b406fa62ab9a09fd2e74dfaf83443396a73), (2, 0), (3, 0), (2, 0), (5, 0), (2, 0), (7, 0), (2, 0), (3, 0), (2, 0), (13, 0), (2, 0), (223, 0x163c0fb010ae9a5413158dbdd3996634424e5737d5a68af7f20fc397), (2, 0), (3, 0), (2, 0), (227, 0x26876a8197663bac38809297a071371fa16b6fee3ca2399167ea91e9b), (2, 0), (229, 0x1716f61c130fb57ba2c6bd04d66240919ac82f58d177ab7c320e1bda3b), (2, 0), (3, 0), (2, 0), (233, 0x1a71ec5bf3809e6ae86a11160bb5b336b741a221585d59e4073f68de397), (2, 0), (5, 0), (2, 0), (3, 0), (2, 0), (239, 0x106152817730cd1466f2a4b41f1b712707d2dab099d74cf3117eb579f7f), (2, 0), (241, 0x1fba6a35a231798f24257c4cba0e12fd21c174c8fa9093c67a3116b15977f), (2, 0), (3, 0), (2, 0), (5, 0), (2, 0), (13, 0), (2, 0), (3, 0), (2, 0), (251, 0x22b230a6e4bb27d6038e2121f2950883eef56b07b7b8e3f941b22d89af3b2bb), (2, 0), (11, 0), (2, 0), (3, 0), (2, 0), (257, 0x1a3579d9ee0a9a1fa6b052324e205bbe31f76811c931283597e16541de6e7ab17), (2, 0), (7, 0), (2, 0), (3, 0), (2, 0), (263, 0x5231c0e02e505f9514dad324432fb97331620b3ddb34a4d75605f58bf8fc73b5f), (2, 0), (5, 0), (2, 0), (3, 0), (2, 0), (269, 0x1395a3708b9757f9bc90f253365005f1c528e3e8029b3293c24f67faba7443b16a73), (2, 0), (271, 0x120d15b642339a3861580a1fc6dd5e913d437685449c07afe579e3a633bd92574fb7), (2, 0), (3, 0), (2, 0), (5, 0), (2, 0), (277, 0x165b25d78a707254edce57fe028a333c0d212c0f3314501ffa9cedca9383947ae9369b), (2, 0), (3, 0), (2, 0), (281, 0x1b78ba137e65193ceba0f1880b096ad7a23b7117ad5a4340463c175cf26299fb21747b7), (2, 0), (283, 0x348a7e33d517a5a05c99a980229c33be9c1a7c68233c6bbfe6a66c5fa5a17543381aed3), (2, 0), (3, 0), (2, 0), (7, 0), (2, 0), (17, 0), (2, 0), (3, 0), (2, 0), (293, 0x1298f1b857e491ff37511e6cf2a50416835373b2b05a082953cd9e22bb3fe249fa8763c653), (2, 0), (5, 0), (2, 0), (3, 0), (2, 0), (13, 0), (2, 0), (7, 0)]
def spt3 : List (Nat × Nat) := [(2, 0), (3, 0), (2, 0), (5, 0), (2, 0), (307, 0x348e2f17f215b9d410f2ac9920290c9eb8fb11a7720e286cf6bfb66cab0f7d46257b0170b8ed3), (2, 0), (3, 0), (2, 0), (311, 0x105305665a11762d2c278d57033b385ca34df04d3ac5e3233f154e1bcb4b9177a5995f35f7ff), (2, 0), (313, 0x1eb72cbd36c23a9828e6d5603e761f502216e4e79c9da1102be1b9f01aad9c5065710db2f4d3b5f), (2, 0), (3, 0), (2, 0), (317, 0x12dc607a4bee159f7c915d5ae770b0160469b3a3317365881a0343b9d6aea24fbe6a1df497818ed3), (2, 0), (11, 0), (2, 0), (3, 0), (2, 0), (17, 0), (2, 0), (5, 0), (2, 0), (3, 0), (2, 0), (7, 0), (2, 0), (331, 0x31bd211cb6e9b95f60d2022c74389d00c7ea59a3aaa3a65a81cff46e3d1cbbfb4f905626892c77b4273), (2, 0), (3, 0), (2, 0), (5, 0), (2, 0), (337, 0x1ef3a93e235c7ae0602cdb84ea66f514b41137868b7b4587b220b4a2bd995c876cd0181d78eb11f2573df), (2, 0), (3, 0), (2, 0), (11, 0), (2, 0), (7, 0), (2, 0), (3, 0), (2, 0), (347, 0x27817fa88445336b6e8f8a98e5a1823483166b503e33383f529973ed3be7a58e6ae0e8929335ddeea017e1b), (2, 0), (349, 0x1712f6dd431934322f97b5e7c22bc69f8844f65582340b106a9bc8847e58f510f9eb7a7d130b2630aedbd23b), (2, 0), (3, 0), (2, 0), (353, 0x1a347dd1aeded80b32b29ea79e0152386c6228374bf631bf4bb05118d8712a01e795e53533406dedd62ef8b17), (2, 0), (5, 0), (2, 0), (3, 0), (2, 0), (359, 0x106142d13300cf7530e1b4541e4ef2a625b40bd539b71263542fd25b9ab08d87d5d278f3510cff3374bd79f7f), (2, 0), (19, 0), (2, 0), (3, 0), (2, 0), (5, 0), (2, 0), (367, 0x16385e9433bc82204f1f8aa4d10d191534bf12ff9598d964e65600b702d357674f74daae070dfbbec233d685e397), (2, 0), (3, 0), (2, 0), (7, 0), (2, 0), (373, 0x165b3197c3f0b6446ad416fdc34f6f7e0898263aa71855212a8639571906441fbdbcb0efda0ad5889b43f0fa63369b), (2, 0), (3, 0), (2, 0), (13, 0), (2, 0), (379, 0x31bd601d92bbad596df22460320dcc38970850f6f28b87aaa1e2eb090f5ef16e3cc4fb3f9dbb049654a22b647f94273), (2, 0), (3, 0), (2, 0), (383, 0x4350a2255cd0c1c2227b4f350f516b5190c493f9b20ff1b2700fb26036dcf67529750f530d21bbbc7cf4c55bbaf53df), (2, 0), (5, 0), (2, 0), (3, 0), (2, 0), (389, 0x13d53632861b92ccff1bf1c5f68879795113e09142b56f641209bdab50a241f222a7a7845be8e3f63fccd27618531b2af3), (2, 0), (17, 0), (2, 0), (3, 0), (2, 0), (5, 0), (2, 0), (397, 0x161ea45ddf2e70303516dd4f16bec2fad633a64824772c02e619d00d3b890499731ad7d0df5a3caeda2b03039d3eee895e1b), (2, 0), (3, 0), (2, 0), (401, 0x1b7caa9326775c7861b1bcb98ec1fa11a00a394a6a937f4a07b7814bfb25594a714016217e0dc674f6361878ebb9932554fb7)]
def spt4 : List (Nat × Nat) := [(2, 0), (13, 0), (2, 0), (3, 0), (2, 0), (11, 0), (2, 0), (409, 0x1fba7a74aa31bd8223653d1e2bcb0435257ce4986ed80ea0732fd33815c06dd8649cfa92b0834f51e2f29b1106f63154b97977f), (2, 0), (3, 0), (2, 0), (7, 0), (2, 0), (5, 0), (2, 0), (3, 0), (2, 0), (419, 0x22b270a3c0aa37e41bae3667b584438bac212253b592978060c83ecf9fe16b65235bb7bca2e3dde5219938a27d813aafc3af1b2bb), (2, 0), (421, 0x1756731e5683b44a660dfb81977f38db0e4ead3405d0eba5e252001291e975c2e80b2d5c9c36c73fba6077ec19948b705a9e339abb), (2, 0), (3, 0), (2, 0), (5, 0), (2, 0), (7, 0), (2, 0), (3, 0), (2, 0), (431, 0x1064429353118835b671e4607d1c40b76cf287a43a9247d517ab712a17541db6a3da1eb0c912fdc741f9d8719253ee773536bdd9f7f), (2, 0), (433, 0x1eb738bc3f523f842aacd8206ebb459463367696da503404e3e62e79d19f1c80b0296da5b9b318a68b75d8106cd55087f12bf0f473b5f), (2, 0), (3, 0), (2, 0), (19, 0), (2, 0), (439, 0x120945936573825a38332f4ac45833881b801f5f5cae35dcf42527d41b5bd0c4538ac50507fe27ee33e5dcad0b33e3a5be3159365d6fb7), (2, 0), (3, 0), (2, 0), (443, 0x27913dade01c264946eabd1ef6828b2dcb830227201db85651873ab32a31e7595e247fb1bbf3e2c4b2ebe908742a89d6d9bc7f84a43761b), (2, 0), (5, 0), (2, 0), (3, 0), (2, 0), (449, 0x1b7caad226739d7564a1b87b1f88ec99f093200a3a50eb285feb4307b7830b5fe8535c29714013243e64dc47e37876149abae739912d54fb7), (2, 0), (11, 0), (2, 0), (3, 0), (2, 0), (5, 0), (2, 0), (457, 0x1ef2bd372a887cf876365240aa87ae50eda16cf58d34c013673700ee37b1dc03b39b200cb2c6bcda16dc29d785540929b1b87cf84553b2f53df), (2, 0), (3, 0), (2, 0), (461, 0x1390b7f8925511ada69b3377f2f5dc318a1de0d387d6030156cd4370752b83b0acdaa0301af872c1ee14630eebd3fbb336596d622a9247fb4273), (2, 0), (463, 0x173e1bb806ce9e810138b5ac96f8850740565b948e33c9b1d779abd59176542a6114726c338ed62595fd1f5ee096ca52e37f7e868c9fe2278317), (2, 0), (3, 0), (2, 0), (467, 0x269338a5f42e22cc50cfa706b7f31a0e9dab0a002390af9334d411f0a936af077d4d3360af63bffaf2a468fa730129f1a0cf5ccbb8bd05ae3369b), (2, 0), (7, 0), (2, 0), (3, 0), (2, 0), (11, 0), (2, 0), (5, 0), (2, 0), (3, 0), (2, 0), (479, 0x4502527511c72582b371706a16f1966854cdf0a3a527b117cc9433cbf02c33d6cc17721b5a3af04cd5e9967097a9f17132be5b1c7751b5bf5dfff), (2, 0), (13, 0), (2, 0), (3, 0), (2, 0), (5, 0), (2, 0), (487, 0x173e4bb8249f8ad1083183af94cce61614805f53940f99aa9375f4f1bd6917694270d05136aa660fd63505fed79798ccd60a3e73ef74ae06dbe22d8317), (2, 0), (3, 0), (2, 0), (491, 0x23a037aeb081265334ee2bf9a3c6d9a0a0ce4707a335402d62e15ad2093823be36fb4a578b94bfd533a1f1d8cfafa649c3a602b88d3359b7ef28a13fa3b), (2, 0), (17, 0), (2, 0), (3, 0), (2, 0), (7, 0), (2, 0), (499, 0x31bd711894e8ad3f699b176f7208f400c32c3c64b8959241c0f7aa7b058afaaa0ae5f21aa10fc7db656e2d9c3cb3cffd0efb109172669034ae8d6e7714273), (2, 0), (3, 0)]
def spt5 : List (Nat × Nat) := [(2, 0), (503, 0x421580736c4156a4b28a1640777399d25da0dc59d123c31503a7f6e1a93c7b21c36a78901a3f573c3b7465c4fa45b4663111fd97aeb2da957dc931fe57bdf), (2, 0), (5, 0), (2, 0), (3, 0), (2, 0), (509, 0x1394b37983c710f0aed03f17b7fd16bdc91932bac053b75586404472f349d16529a2e4b3d38880986abb7280d7532624ef5a2ffb7a3f02dd43c238f067b34a73), (2, 0), (7, 0), (2, 0), (3, 0), (2, 0), (5, 0), (2, 0), (11, 0), (2, 0), (3, 0), (2, 0), (521, 0x1b3d2b99632b5f5cb16836289fb89bd77908f24438b022530bfa2e061a7f89a8eb5c5647f96181d17f4329103470893c427baf6477e451b05a34ebeb531a6752f37), (2, 0), (523, 0x348a2e32f707b1f65491bf8565a85097c89a78b931002a8c878c373a9deb3c901a7f6c32846a313ce1eceabff7362e1a6ec16f5ea595e0276d590721f10b38baed3), (2, 0), (3, 0), (2, 0), (17, 0), (2, 0), (23, 0), (2, 0), (3, 0), (2, 0), (13, 0), (2, 0), (5, 0), (2, 0), (3, 0), (2, 0), (7, 0), (2, 0), (541, 0x175267de4e15711a690ef22343f3a49f19f7ec4c529fce872a8146d19f2db506a0b00341582b6d3e62d8a055385cfe528c8dfbe63e4973f0b113dc259623aa1c9ef992bb), (2, 0), (3, 0), (2, 0), (5, 0), (2, 0), (547, 0x35886b3bc774a1754b9591db27fc808c8e2479c938ad0830a6d1101f2eba7e1f6a43a3da90781a28b07f7749af3ef4ae36c61db8ecefec01b2476562d517ad11c2329ee53), (2, 0), (3, 0), (2, 0), (19, 0), (2, 0), (7, 0), (2, 0), (3, 0), (2, 0), (557, 0x12d874bb126c90c6f7da5c29b3b97e5c4755619f607fcdf0838580a2155e302b6b5633331ab5b5031eaa1140687043ecff81be61aab88e9fa773650e96fbd8c24d92374b86d3), (2, 0), (13, 0), (2, 0), (3, 0), (2, 0), (563, 0x26832aa5b676278860c395c7e2c53a3ed3ba0ba53d8c0a8013b20ad8b477a4431db02137bf2473dda11d2e4afb237feafce435a2fa23483a35cb81c563cf9ee1b91925aab3e9b), (2, 0), (5, 0), (2, 0), (3, 0), (2, 0), (569, 0x1b79ba1a3e351a317fe079cd0b247959eeafa050eb1ad288032930c5bb48db1fa2e622bb75119d17e36c4b768c325300452d635c2817d5de6a789342ce781ffa3162b1f161767b7), (2, 0), (571, 0x31a97238d1e3a42b1dfd07f5279be220e9481148ee914598b694686406b3f3fa126c8e2ab8ec9b7a030329fd9e9d692e65d7688ed77ed68fbb8261b501f40472bda3874e3b16a73), (2, 0), (3, 0), (2, 0), (5, 0), (2, 0), (577, 0x1eb63cf47e82bd94bbe610272e9e08926e2ab5f14c5431bc76a75be052064c25a6e07766799bb81d9690c981281f6b95b8f630a8ca3eb551d92441e5d390219f74a6f505f8bcf1b5f), (2, 0), (3, 0), (2, 0), (7, 0), (2, 0), (11, 0), (2, 0), (3, 0), (2, 0), (587, 0x26973980f56c2aee058c861af3770617bf986a1e6a96a93200a18584bb93ec9131417c2b9362bc17d7376c83622de5e7affb36a96a987a9e602179f1130a79ece5f88abc950fe63169b), (2, 0), (19, 0), (2, 0), (3, 0), (2, 0), (593, 0x1a307d51ffc8994ebafbd6061b0992b63a67ea3b8cb404e15a39464a1d2628a47b25a1fbf2313f7e169378945192e1498a716a1c80b4c7715f9971b526436181af7d75ca644ffe2af8317), (2, 0), (5, 0), (2, 0), (3, 0), (2, 0), (599, 0x112070d503a01b726410bdc5456db2a5c696416058fe3b567216339a68f488876b17dc33d71433c417291eeed0e9a63397b1952380e5f97d969c5ab2495d5c42f7d9b127fa3f54f1fb77f), (2, 0), (601, 0x1fbb6a7ca361fa83352db01aab2255792dcd27cb28500e76277c74309cdcbf0822ce839871afd6386705cd1043f4ece430b8fb91b9c028534f92ced27aa913556036d2b3057e1b14f95b77f)]
def spt6 : List (Nat × Nat) := [(2, 0), (3, 0), (2, 0), (5, 0), (2, 0), (607, 0x16284d9575a683727a329829810e6b1d6a9c1e4dd2801997811715fc299e16b77ddcc7b012f960b7f21cc4411297866bc057177e1667feb44d87c6a947298f7e6be6b3a1b13e9a51564deb97), (2, 0), (3, 0), (2, 0), (13, 0), (2, 0), (613, 0x165a359f8334f451fec69278126a66f4151d6f5ca3de45ebe7de098a1e08462bb736a1225c4721388e91215b3b7518841e14641ef9f5e89ef14ebdae2a0bd99592079258dfe28bcb307e6b169b), (2, 0), (3, 0), (2, 0), (617, 0x1a74ec92e3d65c26f56bdde09e9034b2a9d8b22bcbdee4420be2181579823826261f9f477925733a927b8be7e1919071067aa0611f41089def4f51346e5534b025e41eef5abd90e9af1d24dcb97), (2, 0), (619, 0x30bf7414809ba99a7ebe3c3573696d3285527443a01ab58dc0b08738825cf0b66f999ca2819f8ae067ebac6660992f0c5bee31ef2fc4e52a7fa3dd1b55eb349693153c38281a66a26fed7d102f3), (2, 0), (3, 0), (2, 0), (7, 0), (2, 0), (5, 0), (2, 0), (3, 0), (2, 0), (17, 0), (2, 0), (631, 0x131f12ba16089f9d4678018593aec7b2716c3a8041178472c25a9cecb16fda4d2b537ca11f9dd1557446077ac1352b4da40972c8c6a5bcb1de177dfea3c971b21c8a365e7fe19d4606ef97a2b70737), (2, 0), (3, 0), (2, 0), (5, 0), (2, 0), (7, 0), (2, 0), (3, 0), (2, 0), (641, 0x1b7daa9a27231e7471f9707d0ee0a995bc1beb49ec11ead852b2a002331a599a6e814f3bb768c20fb7c10c5bb773ca05d966696331001535286d5e20de4b5f60f6a6541dc2f83a7e38b9e313916556fb7), (2, 0), (643, 0x349e7c12945fa8b63ddf8914333e7587a44859552e38b88eb5a0a00390893ec533da9a3f983d89d9a646e43e603a6a4335c836ef63ffafa528ee2e38b5565edda1e518333d76e044392ea05d6b7c186d3), (2, 0), (3, 0), (2, 0), (647, 0x4311b02568f005c676c84ea154122a43d3f6db0d034fd98572735130d09cd211bf61eba28f38f55b2550e30eba28790277b4c6f4f37531b15e640d3f4f2490343dabb7d57a8dec919c5ff0e95bf2773df), (2, 0), (11, 0), (2, 0), (3, 0), (2, 0), (653, 0x12dd64724a2a578e689bd9ce2715f91e5df8f0c135f46c5acf53f77010b2a05b302504e917ac3fb28330537f0d7a25c829033681534203bbf2bcd68d8beb20c3c7ee9e27ea391ce6f6459c7a95149389aed3), (2, 0), (5, 0), (2, 0), (3, 0), (2, 0), (659, 0x23a026afb2d3260131a619b4e7c2ebb8f4ec6393e829208f47c40fa31770206a55ca475a92a12cb1023bf72cb7ab6a51dac55a9fbf1173a0fdc1d0efb6be83639c8d0e228bc18d2679a737f9b34b20a9bfa3b), (2, 0), (661, 0x1716f21d529ff566229cb14516270a1fdbc9b43dd7b33e26a34b8a46bd9ee54065907ce4967e807072409383805f9a49cf826980a9de6f589474b1591f337aef0b64f6fe14391a28a34e5119abfe52ae13da3b), (2, 0), (3, 0), (2, 0), (5, 0), (2, 0), (23, 0), (2, 0), (3, 0), (2, 0), (11, 0), (2, 0), (673, 0x1ef3a97f2348bbe8613c97567a6ae310e00c2ec65db8c8a5ea25f266f53c1c12f544129137e691a18f8b7b47c616259fb225208abd20e0f2bd993e915e944c76e98dd0c01c231d5979aba4f2185f744b13fa573df), (2, 0), (3, 0), (2, 0), (677, 0x1299e1b01fb096fea141d3e9f34c1558dbf73ba576d108e556d63c7ef22620bd20d4130691919e27475973a6b8b91e626258320ac12f411913df8f1adaa9c422dba9773bf6c6aa0cb3e5f2e0a15fda437e0361e653), (2, 0), (7, 0), (2, 0), (3, 0), (2, 0), (683, 0x27956d89c75d3a290ec1884db033e63cff164eec2a2b9e0c61bbe0b10286a51a0155bd968b42520bf637b3213902fb5bd2e9642557fa75a9ebf72f82279cf862babc88d9700c39833f24dee7c8f6ba3451c6e49561b), (2, 0), (5, 0), (2, 0), (3, 0), (2, 0), (13, 0), (2, 0), (691, 0x30bf751180c8ada87afe1f3b325d372ad5661056f810e125a1a79c48b085b23248dc97c3bcab9cc3042bf8ae02bdf3cc62ac23c16c4edb3b25ef2edc61a7a5b78f7e095f79954ab1345b3230780a1ea4aecfe775102f3), (2, 0), (3, 0), (2, 0), (5, 0), (2, 0), (17, 0), (2, 0), (3, 0), (2, 0), (701, 0x13d136b3d61d9280730ab534f3c8ebfb0797b8dcc777d26842d529fd59d101c3bb00a344d1b9247d3f461651229a18bf2f892762c8b1403770e022e6afe52ad08592fbb8cec77a7837f5c4f3cb2b543380526e1af35b22f3)]
def spt7 : List (Nat × Nat) := [(2, 0), (19, 0), (2, 0), (3, 0), (2, 0), (7, 0), (2, 0), (709, 0x1756671f1e07f056e40fba4046fa32195b6bbd41859e7fab7a5c14cb96cea5a631c24d8591772bb4ea30e44a001489c315cb753ba2686c90e319695cda74ca0e97b57f9e6860af75b6a61317d880977c09da83f81e3e399abb), (2, 0), (3, 0), (2, 0), (23, 0), (2, 0), (5, 0), (2, 0), (3, 0), (2, 0), (719, 0x105300625b15403d4d26cb562631115eb720e74c3cb08a676d0d3d0f57031322fd9a2f1855b86b21e14ef4df04d08d787b29e255e70ba640bb373f150f434f4919aef2c3cd18fb128577739b952c9b4d43fd5725b9ff35f7ff), (2, 0), (7, 0), (2, 0), (3, 0), (2, 0), (5, 0), (2, 0), (727, 0x16381e9517ec9232463fbce092181a0c646d1fab8eb0a915c35807d1069915b43c617db712abddde91adda119d964677a44a7684442ab7124179c3d257669f741fe53c576af28e2a0749d9cfa7e7b6f8c2039db3b6c8175687e397), (2, 0), (3, 0), (2, 0), (17, 0), (2, 0), (733, 0x161ab49cc738f57d3a17d4bd12324436c08ff611777d9562e78e86ce7b6bd6192aecb840160fa6b746074034a6761b994b00b818bb597c1a00874dd5261af5b79cd85c79d1aa6fbba21bfc40db0893122f4afa172fabc738ce4b561b), (2, 0), (3, 0), (2, 0), (11, 0), (2, 0), (739, 0x31ad331cf0a1bc0f41be32ed650fbf11dbf97002b4b34208c2c9ea542455b8bd1c64406980eeebb3749a71a0dab2ab2a4fa71a6d1322888fe69fdd9c742e255dbd5a86cbcefbd32d2bff1602477020f5948b3827d0fc27af0c7334a73), (2, 0), (3, 0), (2, 0), (743, 0x5274c2e21a419bd184789610292dea607c1257ad5837d57444c8359b3fc8d38547aa0070c363b8df672d15b7ba3333a212574b1904e2393cf1ffaa1d5e34ec032653ecddd15413e54a15b7c1f9a84b6bf796e1de74267da7b8bcd1b5f), (2, 0), (5, 0), (2, 0), (3, 0), (2, 0), (7, 0), (2, 0), (751, 0x131b429f314883eb1e533490950be88a47ed725f4a25c3009226448fb981d09c753abdf63e0c22fe71d94967e51e55558758196d647180bbcf839042a351c6f47e620edd9bb6ff3c5bad05b1481daee82f56f6d33587283eed7306bd2737), (2, 0), (3, 0), (2, 0), (5, 0), (2, 0), (757, 0x165f35169262b71de29f5e9c8642a5704f98f456605cf17dea4b3acd9f7746fe2804b5b8123a234b0fae607847b64421089b7887819d7c34b11712076b48051fd8bbbe6cd73495efa3ce819a8bc67c83a950984e5ebe51ee3b51925a2b3e9b), (2, 0), (3, 0), (2, 0), (761, 0x1b383f513bf9d80c2e2bfb1fcb14169132b4733aeb7c0ffb8629499418b6491829626984bc792b62a669eb8443babe2b51f57708875e59951b5278f486591a506249b460a64a51877fc0fb5d7338b53225a0a34fe37f51d0c06e7f722bf0737), (2, 0), (7, 0), (2, 0), (3, 0), (2, 0), (13, 0), (2, 0), (769, 0x1fba7e34eab57c92a227399dea821837346165bd3a1f0b8af36704605b442dad7cc5b14db08e2ed96e201eac027e1672fd39a1f900d5e011da6dd1c436ca368cfad6d08b6818839b3d4743e172f69a18b3b061055ee673911524fab55cb1f977f), (2, 0), (3, 0), (2, 0), (773, 0x129cf13807e2d0bbbf005ecd76e89494d156bbff75193d27530d09fcb678b26c72b7261cd0c540161267a0a3c5738f527392bc73a8f14179921a00a8c2ce193b538d93479b4fe42c32b92f262bbff75aa2ca4a45dbacde803f7742d1f80723ce53), (2, 0), (5, 0), (2, 0), (3, 0), (2, 0), (19, 0), (2, 0), (11, 0), (2, 0), (3, 0), (2, 0), (5, 0), (2, 0), (787, 0x348e6e12d216adf60db3b9d7230d1597ba4d71f430280cd5f2e4ba18a9d83d8120238e0894fd009ef4bbb23eab1f18c951a756ce7072a83b222d086ff40d6ef8e3bfb7e43e46ae7a2d8b054cfebf3d0714da216574f3b1462324f904a97b4b7898ed3), (2, 0), (3, 0), (2, 0), (7, 0), (2, 0), (13, 0), (2, 0), (3, 0), (2, 0), (797, 0x129df13006b692bbaf589259e6cdc590cd5370fdf79a35b51f4c28317e75e2b87c72378217e844740310b48a9370d766f507382bd9bac3b2544b42300b8885fa107b138f8751eb9fa3050cbe2b6b167befc3b2acc268ecd9e69246bd77525b580323ee53), (2, 0), (17, 0), (2, 0), (3, 0)]
def spt8 : List (Nat × Nat) := [(2, 0), (11, 0), (2, 0), (5, 0), (2, 0), (3, 0), (2, 0), (809, 0x1b79ae5a36a59e2178b270df5ba1751deb032920f957deacca7a6548b8d80bdae2280138321d3147fb0889ef8bf32386c634bb74b18d87133f47de44437f8a32e1307200511d6f406c744a99794cd5efaa7c1253035ee2ba176bec39347a11e695b169d67b7), (2, 0), (811, 0x30af6711c281a8ec4bb33fb8267b571bdb3134f5e400703ee2c390708d90f9344930a5acb0ca458c17daaebed0baa54206b70af129fbd5aa2f4828aa417ce5dacf2ca5af36dd360f64ef1f63cb883f1ffd850d373242715219be203322dc8ea7ebc77190af3), (2, 0), (3, 0), (2, 0), (5, 0), (2, 0), (19, 0), (2, 0), (3, 0), (2, 0), (821, 0x13d026fb9f5d1480e4527033e368beb90f3b738b57bed2d41fc74ce9d14891b6fd43d1825791a8863241d14d6799732be4052f123d2809f533a679aca2e0931845627a9062f0afdb6244a2e5ccb8fe0ad2df7ab473b73c275f45b1f3039289c04a2ebe77d902f3), (2, 0), (823, 0x173a5b9c23df82a5585aa2be94498827228137dd8c1ddae9c62124c685841d6b1d5994161b3ab7a6c1b017f3f699fcc3f0794d174d61f03cc066903017f27c9a12a32797d665472947de5e9cdb7b9c68a447ce44137ebb1bee6dd682baa5e55abe043bc625a317), (2, 0), (3, 0), (2, 0), (827, 0x27856e8c87573f1b3a8489c1e001bc34f5672bdb6e294ebc03eabae8250be59a44998294b63048619616e37d9a06610abbf117333177022af799fa64138979679edf392d6be66dda6582f5be8a2a83fc28d6b89242b1950d3c27ff87c6edea32703151ece895e1b), (2, 0), (829, 0x1717f25412db366fb7cc3182970b0d1587506c7b87b1bacce757ed93b822b721fe0266be1c7f5480ab54d2b0c4dc7d684a5363040831b29485af8ec8c352cab5404abf8e1f59901fe13b5107726dfab9ccd76378778d82b86a2c343a50630cfb7d9b36d20a93fa3b), (2, 0), (3, 0), (2, 0), (7, 0), (2, 0), (5, 0), (2, 0), (3, 0), (2, 0), (839, 0x14422561481922790735d453964d183a92457e1f26a621335ec66825e703d50f9cd70930723ea857bb182ddd2948134f5e63e9f06839850d37ed6b444be72215ea83b1f36f14c60f543f185be99c85337b9a9b07815db6a3e74d9635d4531f61bb67ed795bbdd7ff), (2, 0), (29, 0), (2, 0), (3, 0), (2, 0), (5, 0), (2, 0), (7, 0), (2, 0), (3, 0), (2, 0), (23, 0), (2, 0), (853, 0x161aa4dcce3c707d3d5f952f03fa107690237441a7769956bfd4458fb6ea461ce6fadbd6132a6ba4ca06160da1f6371cc404326a2f61bd15930808ce3b1be16c1a1814c97595321af6d7d9ce1895db7c688aff5aa65bb9608bb1025b8217f03d2a7eaf2f838f1ccec9561b), (2, 0), (3, 0), (2, 0), (857, 0x1a316959f61c9f5ba8f15f825bedcb7a2343a9088afa15359e7af68ad62cba20256cd07a335c02470736ee30089839db0fb0be67b9a3167799f437c36e70644031ddb3838900eb31782cda901174d1ad45bd79e6b2a17d4442570b117b4edf6907ea3c576be4e1be6a5a317), (2, 0), (859, 0x30bb3534a588b18a32dc3a6f74fc7a32e5b7580fe132c354d59b040a8067f1b3178870908c3aaf4012bde4a70fb48ddf49c82831ba8aea273ebec6d044ed20f1ad842b7fd0aa3cef6f1ee17327019feafdf2654d53cb3780fe51258b3a1c0d109a3c4b3ae72ee5ad35322f3), (2, 0), (3, 0), (2, 0), (863, 0x5370f2a41af088934439ceb548085861f74601e83a5b8de6675d1549066c57913fb3e25394542ad840a8d379e81b3f869697f36f313373093016969e0327e86134eafde4abd5d635b832037615c99f6d574519984e25a3e87f9d1079e5efed528c63dd36eef0a7dab0f135f), (2, 0), (5, 0), (2, 0), (3, 0), (2, 0), (11, 0), (2, 0), (13, 0), (2, 0), (3, 0), (2, 0), (5, 0), (2, 0), (877, 0x165a21dfcbb431447dd4d36bd2a36a3e5420672877d25c8526dcdb971c9fd44e676bcaff5e0398aa064522ce303cbe279f1920296581f213e069a501263e791f4f031cd128981546701ebfd4f5b99c8afe4e3a76ced9284e92fb8539810a9f15b152f5b2caef88a30b74fee1169b), (2, 0), (3, 0), (2, 0), (881, 0x1b3d2f9823bf1e41356a3ef95eb58159289de2207ab7ba19dba73cde50599b4862425e8ab0207111ab376cba2e301e0b8e7b61e96e82ceb5cd05da5e1b79c741e031d174dbb3562238103545e909184b666829ecf3976e6177b578111ee4526a06b5ea7df15ab209e3f71067d2f37), (2, 0), (883, 0x3598393aa57db43762d8855c75dee18582b35d3e2f9d8c1ac4d90c4203ad3fc86aa730b48818b047b2052d493b1be8325fdf0c79bf0a8ba2eaf0261cf0405b3e827236d4b5fb21df2e7eed2f31aa9ec034a3fbdcf64dca7ce460b834532be5e788451c55ee4b913d2415aa363e653), (2, 0), (3, 0), (2, 0), (887, 0x421490730c6152e5e41a16d436249bc33a82047cc023df2755b395d24d78ea40f1b8dd51d10353bb0b0540c1fa2ff596e62768b1ad367b21934a72e91b9896500ba07cfd5f2f22353f747544e270fda8e14db45632551b043bfcc1dfbea33c26db93d497a7d858b579cf31f6d7bdf), (2, 0), (7, 0), (2, 0), (3, 0), (2, 0), (19, 0), (2, 0), (5, 0), (2, 0), (3, 0), (2, 0), (29, 0), (2, 0), (17, 0)]
def spt9 : List (Nat × Nat) := [(2, 0), (3, 0), (2, 0), (5, 0), (2, 0), (907, 0x3598683f873fa0557ed1b01177ead89d94431de965afbca8c5844627092a7c1d2cda9ba1ac081228d39c2315341b367a5b8c7e8adfc3b384ba2de323c04ae81ce25a19327d3573bc634ebb7efca7a26a4cb47c1ab6f1b9dde5ceac20a5968473dd646e4a81177f2748155fa031e03e9e653), (2, 0), (3, 0), (2, 0), (911, 0x112460c742911b13a211d9256478a031edd494257a7d64d2768606f90dc004f07adf6b335c72158332f8d2ee32830e6097f28d17d5578bad714a2e1554174eb016f98f3eb388b4e0b33e57b1c5332904a1f0dffc4f609f9e91b4d941a15bd6d44873fae1d95b6477ba372776bd1cf9db77f), (2, 0), (11, 0), (2, 0), (3, 0), (2, 0), (7, 0), (2, 0), (919, 0x130b109b5750968b267f2351c62c818b096c3abe5d1b6342b57c4da0900391cb40c729f00ac89efc72e657df281e6509da777ba470b79c05d755145fc612f1da2111a46f5987eb041598b1c086ecaff06b1cfd2c763ff6fa4dc152bd39274582a3c96f2e7ecb9c753b019b2e96f51526f72f37), (2, 0), (3, 0), (2, 0), (13, 0), (2, 0), (5, 0), (2, 0), (3, 0), (2, 0), (929, 0x1b3c2fd123ebdd49206ab63fcfd8965d3410b32328f53abb96bada175ce58b8979d00c127c2930287243b88d7e326a2f08a26f63de6109f98bc6b58f467e4219ef1bd91443d15931fac4770938503250f920c02e7a47469ceba16d75a77572bc53133420b2e9a46fcff1b558124aef5f122fd0f37), (2, 0), (7, 0), (2, 0), (3, 0), (2, 0), (5, 0), (2, 0), (937, 0x1eb33c3d6fc03fd9a2bf90513abecf1a24322efa59148c483a232ee796ec5e6121c4696077e3ae749f19589756d482146b34242d62b2e0be1de6a7959ee1f41d351ad090b358a104adaba46a63e4b9d71fb81a588e1219e8dda79dd3117048c4a2697dd1309163cdf5722827f5166ff00fdaf0f335f), (2, 0), (3, 0), (2, 0), (941, 0x1390a3b99bd5d5b0a1d17625227482f9cbb473a3171a9f77dedb1279ff9c01e16994c23f1694cad3a647a599e4135200745d2593e3ce11f40155f52beaa00be21cf1f2692e8b8012b209e669789972d4ca5a3f10ca65a1e00e7fe79236defbbe563a31738b74e7d04b91291ba2e1436aeaf667714273), (2, 0), (23, 0), (2, 0), (3, 0), (2, 0), (947, 0x27957d8cc51d3a5f1f88a908f423cc04e9542a7e333dfb2e05cfb6e10e0aee9a066d98cbb2639102a4a4b5094125b712fa9c1e5161c203bcbb53fb3203522c23fbc797587c6a0b7125b7d6f52dadabf7639b22ce6499fa688af8f78920c5f8b20433381abd568dfcc3bd0ef6aee0705a3475cce41561b), (2, 0), (13, 0), (2, 0), (3, 0), (2, 0), (953, 0x1a71f81bbb101b7e6f785c054a79bff0f6e9aa558a9141c89664be4b3beea803eda6e30a7630d8ca1327094d805a965619a0f0973eb1c73d7a2aa3b33715517af38e35f3a43c1661a9a56806ca4393214c6c31b9431d96df0055df7349f499a44e0a2546a9565dbc3ff6794a80e87bd9fb602377607e397), (2, 0), (5, 0), (2, 0), (3, 0), (2, 0), (7, 0), (2, 0), (31, 0), (2, 0), (3, 0), (2, 0), (5, 0), (2, 0), (967, 0x172e19bc46d79ba1303da66e82de8d060a011ab3993d69a99409f6fc90e3147c05cd400613c9de4b96865be23896d887976155d7fb38fab1d750a95b17256af51472a0e320145579161ee496e3b8259e962d846c379ffd4c5fc1d738f6c0906fd66a69436632a77faf9f4e84be899a43f37a26149dc2678b17), (2, 0), (3, 0), (2, 0), (971, 0x22b220a7e2fa239013e70126b6a468bbe8f14694bea8f69325d667da936f6034062b15a98fc7288e2103723a118768f5f29c1996c685192368a0c70083eff1cfae93b675e9c9667c6b050e91e77a3b13f7b8eeb1c0e6a572b9fd3f90936a419945b3690ea82d69d70e822e9da929b7f1837f63ba0b81afbb2bb), (2, 0), (7, 0), (2, 0), (3, 0), (2, 0), (977, 0x1a74f893ea46583bf76194b0cf556e7eecfca01b49927c1692ad889cb7a1aae2e393ffc234450a39c21a0d61fa9108e60c26729a07575fd269fa351a3733b162b17e592febab81653990c19c42257e1ac1610e714288b10fff271d1d5617b4e446d525a0f9264b6014fcddf9daabcc34a61bbf7069895f247cb97), (2, 0), (11, 0), (2, 0), (3, 0), (2, 0), (983, 0x4354a26718c182c2b4691b157c45da509ca247c82029f42273ef53037b3cd6644c3f49c19713fb49519145986aa251d093e1ff8be730a055a7bdb4be1b2782d2421a55faf3182e007836f475baa9e65d76756d2037167c6d03cdd994c3213f350831bbd06bfbec1dbac6f5a45dc1572769d2bcbe7ce719bad53df), (2, 0), (5, 0), (2, 0), (3, 0), (2, 0), (23, 0), (2, 0), (991, 0x131b439a354b83c90a7235ded10eb08255893f490a23e7e9f25744ec8b549008622790c60ebf3093509c5d1bad3efd87aa0c627f6170fdb481cf6761d655559479190c7ed240f17901b9cfaa1e40834a2745c6f536f3028f9cf61bb9eff6d52ec8dd15b068183baf6d036e55bef28f748453b1af6c3e2d53a63d2737), (2, 0), (3, 0), (2, 0), (5, 0), (2, 0), (997, 0x161ba4d4ce68337c2d5f5dbb9397017a8c36354261759094b2d5e346ffe704d8fc6f824ad6277ede5bf61220e3bca32c829836741b866f1c55400e17aa2d61ad157a1c00aa8e3d98760b9b06504d314f71c1121bf69edfb91ad4907d8fc6c839ffd8b1ead34a426ba190ab1b0c57a03a72776ebead0fb3059ccac9761b), (2, 0), (3, 0), (2, 0), (7, 0)]
def spt10 : List (Nat × Nat) := [(2, 0), (17, 0), (2, 0), (3, 0), (2, 0), (19, 0), (2, 0), (1009, 0x1ffaeb37a73938aa64ec3a482b537235e0d6f6c12a71c215637d9929bc203dcfa503c8a6f8a6c11d2665fd4e943418cde068af9e1b09771e3b8125502ace93ff25cd502a920771e3ba4361e7d4581ecc60b0a5cafe9992e20d947d944f0297cef010f65266fb1aa10e39520dbdac1eb13b2b504970dc9954727397b35d7ff), (2, 0), (3, 0), (2, 0), (1013, 0x129de5700e2617aaa85adf5bb600d9dcc8eb718d255731d1975ffeb871f4306d3ca85c9752e4f9669b76721692b063e4b6136005140cd1ba13e5033fc6ef0873843dd8ff3029f21762cc0a2801b21b49f183525a139bb659a7c9d2ba4e854f2d830be3875ffeba62e33aa92c63b5c4cee6c01b76bed685557a191c03a9ee53), (2, 0), (5, 0), (2, 0), (3, 0), (2, 0), (1019, 0x23a4268ab7c32e3771841aa0a353a59094bd2a8ff82773ef32f48ce523d869fa28cb2048a3366e54443fa395d5a04240e4e351cb6f0f0398b2e0092f92781123b77e1b60b6ff8b2e63f0f092c7538d8fdbdfa54563a03ddd589933aedfb2ceba069e43b58ced0b308311be00eab42d6f65a353afaa7de71138b3c12ae9bda3b), (2, 0), (1021, 0x1716f25d129b7463a7dcf5d6062a1e958b4135380770274ebb5bc99eb41da775ed873fa2923394abea0246bf9e577c4c80c6659168f0f459c67ee020da1743240930ba16c101df98e68bc3c5a26998c04c8fba9e7f589015f54a7312517f386debb96e0b5e64f6b75cb903b8072b20b46a5e15181aebcef9718bb6522e93da3b), (2, 0), (3, 0), (2, 0), (5, 0), (2, 0), (13, 0), (2, 0), (3, 0), (2, 0), (1031, 0x1025409366010d71b2d2c550345a23b128a0df259b56376455e64278d4d0b9b4318c5cc01a6ff5c23c7cf22780b7a2d657233a828614c3fd5f270b350de978f710e1684f532f1b05403cd79ebea33b1594ba12fe1bb0c1c3bc5009a7fcc5ce73d262f4d4e1bd9855d91395265b04faeb723ba5d3f55cb4b2714f7f9936fd5bf7f), (2, 0), (1033, 0x1ef2bd366b9c3cf1f22e1e812b82fc5ef93076f00ff64449662a0432ba948eb3ae596940f8e7ec4146abecf58595d319b4a4622405957c372b77088643b6696e37b1da59b7098443bb53b0faa680911894b6632ea686bcdf558a08df9c7c0a5a69d735c4a5753081519a4889bfc03db8327de8fd075205e1d13e3cf0e759b2f53df), (2, 0), (3, 0), (2, 0), (17, 0), (2, 0), (1039, 0x12190793016a975e015629c8d77f32a84157323c5882b494f26f6aea1e0d98d12042732f0b185ba52290901ddf34d734ef4d39ee2c99fc9d06fd00e78781e7535d4535187e1e18ff409f46c066cb88634d08d314d30447f6f6bb5a25e72f0b31bdfb74e64f87a8a909b0d6d2bee5c3b3157deab30114ec6b957f8516a97f361f67b7), (2, 0), (3, 0), (2, 0), (7, 0), (2, 0), (5, 0), (2, 0), (3, 0), (2, 0), (1049, 0x1b3d2f9922af1f4d313272a95efcd3dd2c097920bc7623099bb2bbd29c7acbdc77941708fb4870026bd4a8b02079031b0e6f79363a2a88760b84fb77832adec0aceb5cd40ded5307bb7c8741b8455171b27bd9c3630278103454af5900384b7c43a0a7b8ef4d78e52f7537664311b8f4127a40d2ef2cfdea55393232cbe3d51267d2f37), (2, 0), (1051, 0x31ad7319d4e1a83949de07a9262ef429db791d53af913779a7d7e20200deb26c0831c168b94c8cf066146db8b594d168668149c007f2fab2faee1d1231e6825eaf2ab0a85be9873b74788a0b2a0b01ffc6d7e99e974d652e249d799f0cecd62e97c73efc9b284ffbfb8141a6113760a354761246bd08b9b6a1f846d63ea78d467314a73), (2, 0), (3, 0), (2, 0), (5, 0), (2, 0), (7, 0), (2, 0), (3, 0), (2, 0), (1061, 0x13d4267acf5b55c86c0334c276213cbb1d2aaac6963d7bda174bdfb7d03d9183e476ddd8d8886b4db21fd1635190749bf30229d47041871066bfc565e3a5eb810b2e121d342075e971e9a8ff59823860838ae51033f64b8262b1a2fe136cb58446c6eedb89f0626f02fb7ef4ba16f7af1a58d5552e374f211b90cb300d84eab6bcd7990af3), (2, 0), (1063, 0x16280c9551f497766613ae21873b7a2d386c120a99a81c47847a0edb3b985ce20f916df1124c01d983938c8117b5747ad4253e8d54bcb29f5fdad3c537b5a81841bf96027de7ea52135c34a40506b2c2d54e835bd4a1d152177ece363e647fcdb77049760fb8c5e623248fa1de1dc7ea66afb7c9e34ba1231e7b8a37999116d07556cfeb97), (2, 0), (3, 0), (2, 0), (11, 0), (2, 0), (1069, 0x1713f6950349b736bec779f0d203d319844c3f1354b512b8269aaf9177c3e5e5eb7e692bd443a682277dc723e69c80feda1da1889814f6f746146ad51f310a6459c6140a18e68994233e2ad58a18bbdbca0644616e16dfc04e59f138efb91059708af5259fb5e9e9f0fba27d565907522b4ab23f0c886632f012c3e7b8df5b3b64b02a5bf23b), (2, 0), (3, 0), (2, 0), (29, 0), (2, 0), (5, 0), (2, 0), (3, 0), (2, 0), (13, 0), (2, 0), (23, 0), (2, 0), (3, 0), (2, 0), (5, 0), (2, 0), (1087, 0x173e1bbd068f9eb7103884ead2e8cf3f52001e808531b898f70dad94a1ee1efa2708515506ad8440d5364b56db948690eb3b04f3c9a79330dd53f9fc12ecebdd193b1591765723674428c8b7c0603544f3361a6c30df2328f69ed624952d9354fdde4a9f5575ef1ba087887ad64a4f10e6e2735efe87ffb5030ce8b4a8dee3f712860e9f42278317), (2, 0), (3, 0), (2, 0), (1091, 0x22a262a686b236963a8335e2a1836982f0726fe5b18c53f326f83ba5862d6ae355ff84a28304578d30ad7a0e8ca110f0b3d2013fe471328d2ed2b74cc26207a0998910403fdf76e66fa1fb9bccd12b48b4eb371d8037fb432f0f77ace8fa14af34e15df3ebade005538a94b9e5a23e09b3035ce725809b1f0be693e7ab8533ea39693b29e9ab9babb), (2, 0), (1093, 0x165f2157dae27201659d1bdf46cfabb20e25e462b49164537a5d6854dcd0868fe91ede751a7e0bc9d77cb3e65e7e2296019e342258ef2238312967a8ef5ca81449f3b01c210e0373e48a054ebdc579a52307113dc6910b1e601a511f9e99f34fbae4f41f962b9ede25fc5842ceca85ae97b289a24b5189e91c13757cd8bef62e69a01391d6faa13e9b), (2, 0), (3, 0), (2, 0), (1097, 0x1a307951be58d95f3ef19a07cb0dcab87ff6e95e0e3001bb836852da97233a54efafa8a6b6198fb402a43d14515a3b6e406ca640cd728e3318a824797f21c9c2b6fb36bb231375b37db50e4e13fa7890546331c53acc0994d809db716a28a2f09500b7c661b59457d7dca97313a56d285b07760031c1ea5dbff8754ec34f81663df3ea6c69f62a78317), (2, 0), (7, 0), (2, 0), (3, 0)]
def spt11 : List (Nat × Nat) := [(2, 0), (1103, 0x5371e2b43ac08db210b8ce41494f78f1902448ac0b5fc7406348725ba3fc4af53d615492075d0c9f551db63aea53b64406c0f61843a1d339b881efaf53099ab774fb679133761920d112a66f350a087ee263347a3de790fc9fdd9235a8a392475506cf451fb6d5794350adc03a25b1ed39fd1c052fcaeddbf670e10d6d7d8ce2f7b24efca3d2b87135f), (2, 0), (5, 0), (2, 0), (3, 0), (2, 0), (1109, 0x1395b7318313d3e0bf82b78166d40bb99404fa999654baf75a49373ff9d5d1e4b33eff281489e0b0e74b763891d85317618b79e7c256901045b0362572e55e29c7c7915d445288aea278f8e51ea9d3a91b036882025a90f9e7b461ba3286e2471bb4b9c341e44a053fdf3349e2eae7ff3b2496bbd74a9a6657c80a67740ad9a07b507f41f2f230633b6a73), (2, 0), (11, 0), (2, 0), (3, 0), (2, 0), (5, 0), (2, 0), (1117, 0x165b21d6cbf07349698457bf538779b608a5be2a7350c44763c0fe5254a1c61efcad9b71d54ecc8a57d766e97e7f7e021a803ea8114e269e32398ab13e4fe50d042d9931a1d212e163266d082c29fc9f235467131e591ca2055f0056101fbf9fa5d9bafa944cdcaae3b66d4fde18e14a929fc0f1b888c2b3951f69441b67b872bf7a8865a4b383f4dae1369b), (2, 0), (3, 0), (2, 0), (19, 0), (2, 0), (1123, 0x349e2c17b60fb8c025d6be11753e1ebff2d818873502f9bcd1dce147ac46351414f31d2aa93a6ad0a4ddbab20538200b08bd0c4a03ad9b95365edac3b08cf99be99f04b1b919a676272df06682660cef23ca4859356264a3fadcf42ef2ffbe35fb2a244daf4a9a36aab4730d7d7539dca1d78c474c260bf531ee7e4b0028783517782945bfce20f9217cb86d3), (2, 0), (3, 0), (2, 0), (7, 0), (2, 0), (1129, 0x1ffaeb76a62df9a261e4728aba1a3431f44be5c1fc7243272b205b617d952d4ea891c33eb58b804eee90ad70943c65fd663c25508e69a05cef9b08c9379d97a62203590bc4793ff2788f426b011197a6e7b24c4367dce81659c42a90f19afe98f0a43ad425ddc80746b5f30e2455cad2a6fa1b681353930938fe0e9f48be30b1617545389e19167ed195bb5d7ff), (2, 0), (3, 0), (2, 0), (11, 0), (2, 0), (5, 0), (2, 0), (3, 0), (2, 0), (17, 0), (2, 0), (7, 0), (2, 0), (3, 0), (2, 0), (5, 0), (2, 0), (31, 0), (2, 0), (3, 0), (2, 0), (1151, 0x45121234218464d4b245d4790753924e325da583033b3342fd6513e260a970935ed4f1823e7cc66805e511f0fce5f0a3148faa27d22171fb9483955dcc36b50d20b62ade774bf02d1184ab92fb4f5293cc45563ed620717bb41baa0ed73af058c0f077585fe99cc183be70d48536f16af9b8375940bd33233f3e5a45b38db6351f61d45db2d4d9de7bd3b7b75dfff), (2, 0), (1153, 0x1eb728fd3656fb882da499f2fe3f0354378f65864a1aa932abf06ab85028cc856dae46b9b4de14b4d7600a23771d7836763ef801f6676a54dc503213828214dce78e73a4c0b76f0e79c3dbb40c9739c79ceca10507213028eca95b99be007df1b9b07ae3bb11401bacb4a1ecb67589d6da84cc502875583f5532556149869bc7b0ab03f1fd3e6496d0477da9b2fc53b5f), (2, 0), (3, 0), (2, 0), (13, 0), (2, 0), (19, 0), (2, 0), (3, 0), (2, 0), (1163, 0x27857f8d81443f493fec9bcea100ce3ca151024b3c351e5762e9efba1f12e44e37b989a8aba6ce61a44af589e803cd9182b6063c52552022b954b8b647db9a42e19421697a79633f333033961a1697bd678bda6241d92e2d562bbfb55b5c39f92be764c3fe86e50adda798c9a2aea6e62138dd8b707a20868b9158753c32dbf757ac38cff7a8c26c8036d03dd7e4e015e1b), (2, 0), (5, 0), (2, 0), (3, 0), (2, 0), (7, 0), (2, 0), (1171, 0x31b9203cb7bab54b2491307675988b30b7cf7cace1abc5d3d4c86d7b3b60f0af24c51a45800a321e03ec77714b9809f4189e0a6fd6188034b530c6af45ef6251f78a0bdca9278b982aaabe62e1b6ac42fae1075b9085d0a9cf352d3fee79409af86e7d06fe62d7111c83f87b3affe5da75cdb0af0f9232149ecd4345c2a78cac10c12f32ee65191f376db2d52a212c3fb6273), (2, 0), (3, 0), (2, 0), (5, 0), (2, 0), (11, 0), (2, 0), (3, 0), (2, 0), (1181, 0x1394b37883d351fdaac033c727b41431d98c2afb86d02e179f15c63ef37fd3f130f5ac3f9dc91591aa4932aedd1ab210e053b7742f5bd45846c35101268446f2d3ed1664c97bc111f16529a3e220f7a4c99a2df2d3d888592022b0d8868af6bd0bbb7281c213562edd532495626a24ee7f0d6bc323f2ffb3df18ea3e7a1d02d877d50c66e30a0b7938f300d56fe2b2f047b34a73), (2, 0), (7, 0), (2, 0), (3, 0), (2, 0), (1187, 0x27817ead8007375d6aafbbd4e090980d83662245753149de56ae69af296eaf483eb5c383b2a68bc9c099e5ec9b2c09478982361297686610a27987163251de6bf41630885eb07fb031e333873f201f285eef397d0298475b3971e61baf799e916b793be6e1d6fcb26c85866fc6c2e9ab23e3c5283ed0a896b0a698a95846d73515dbb993e4fe6f6f8d4220aa945131ffe4a817e1b), (2, 0), (29, 0), (2, 0), (3, 0), (2, 0), (1193, 0x1a356999a71a5e1b25f85f31cfe41f7871ceeb44dbf8380b86aaa0d05bf8ba04b91b97b6b76984c6cf6bba042a10567e10f2327720429d549e6eaa423b3004823b595b3e5daf3ca72ca9e31e54d394f3d6e9f36a6b71048033710955d9e4aae50813b9313c21f9a8215081775bcd8c865bb5b7a7627481747f682c15558740707f6c8b5dce387be09fce33e87e9361e96396665ab17), (2, 0), (5, 0), (2, 0), (3, 0), (2, 0), (11, 0)]
def spt : List (Nat × Nat) := spt0 ++ (spt1 ++ (spt2 ++ (spt3 ++ (spt4 ++ (spt5 ++ (spt6 ++ (spt7 ++ (spt8 ++ (spt9 ++ (spt10 ++ (spt11)))))))))))
noncomputable def force {α : Type} (x : Nat) (f : Nat → α) : α := Nat.rec (f 0) (fun n _ => f (Nat.succ n)) x
theorem force_e {α : Type} (x : Nat) (f : Nat → α) : force x f = f x := by cases x <;> rfl
/-- no divisor from d on, f of them -/
noncomputable def noDv (k f : Nat) : Nat → Bool := Nat.rec (motive := fun _ => Nat → Bool) (fun _ => true) (fun _ ih d => bif Nat.beq (Nat.mod k d) 0 then false else force (Nat.succ d) fun d' => ih d') f
theorem noDv_succ {k f d : Nat} : noDv k (f + 1) d = bif Nat.beq (k % d) 0 then false else force (d + 1) fun d' => noDv k f d' := rfl
theorem noDv_is {k : Nat} : ∀ (f d : Nat), noDv k f d = true → ∀ e, d ≤ e → e < d + f → ¬ e ∣ k := by
  intro f
  induction f with
  | zero => intro d _ e h1 h2; omega
  | succ f ih =>
    intro d h e h1 h2
    rw [noDv_succ, force_e] at h
    cases hb : Nat.beq (k % d) 0 with
    | true => rw [hb] at h; exact nomatch h
    | false =>
      rw [hb, cond_false] at h
      rcases Nat.lt_or_ge d e with q | q
      · exact ih (d + 1) h e (by omega) (by omega)
      · have : e = d := by omega
        subst this
        exact fun z => Nat.ne_of_beq_eq_false hb (Nat.mod_eq_zero_of_dvd z)
noncomputable def sqF (p f : Nat) : Nat → Nat → Nat := Nat.rec (motive := fun _ => Nat → Nat → Nat) (fun _ m => m) (fun _ ih j m => force (Nat.lor m (Nat.shiftLeft 1 (Nat.mod (Nat.mul j j) p))) fun m' => force (Nat.succ j) fun j' => ih j' m') f
theorem sqF_succ {p f j m : Nat} : sqF p (f + 1) j m = force (m ||| (1 <<< (j * j % p))) fun m' => force (j + 1) fun j' => sqF p f j' m' := rfl
theorem sqF_is {p : Nat} : ∀ (f j : Nat), sqF p f j (sqM p j) = sqM p (j + f) := by
  intro f
  induction f with
  | zero => intro j; rfl
  | succ f ih =>
    intro j
    rw [sqF_succ, force_e, force_e]
    have : sqM p j ||| (1 <<< (j * j % p)) = sqM p (j + 1) := rfl
    rw [this, ih, show j + 1 + f = j + (f + 1) by omega]
/-- what a row of the table promises -/
noncomputable def rowOk (k p m : Nat) : Bool := Nat.ble 2 p && Nat.beq (k % p) 0 && noDv k (p - 2) 2 && (bif Nat.beq m 0 then (bif Nat.beq p k then Nat.beq k 2 else true) else Nat.beq p k && Nat.ble 3 k && Nat.beq m (sqF k k 0 0))
noncomputable def tabOk (l : List (Nat × Nat)) : Nat → Bool := List.rec (motive := fun _ => Nat → Bool) (fun _ => true) (fun x _ ih k => rowOk k x.1 x.2 && force (Nat.succ k) fun k' => ih k') l
theorem tabOk_cons {p m k : Nat} {l : List (Nat × Nat)} : tabOk ((p, m) :: l) k = (rowOk k p m && force (k + 1) fun k' => tabOk l k') := rfl
theorem spt_ok : tabOk spt 2 = true := by decide +kernel
structure Row (k p m : Nat) : Prop where
  p2 : 2 ≤ p
  dv : p ∣ k
  nd : NoD k p
  m0 : m = 0 → p = k → k = 2
  m1 : m ≠ 0 → p = k ∧ 3 ≤ k ∧ m = sqM k k
theorem row_ok {k p m : Nat} (h : rowOk k p m = true) : Row k p m := by
  unfold rowOk at h
  rw [Bool.and_eq_true, Bool.and_eq_true, Bool.and_eq_true] at h
  obtain ⟨⟨⟨h1, h2⟩, h3⟩, h4⟩ := h
  have hp := Nat.le_of_ble_eq_true h1
  refine ⟨hp, Nat.dvd_of_mod_eq_zero (Nat.eq_of_beq_eq_true h2), fun d hd hd2 => noDv_is _ _ h3 d hd (by omega), fun hm hk => ?_, fun hm => ?_⟩
  · subst hm; subst hk
    rw [show Nat.beq 0 0 = true from rfl, cond_true, Nat.beq_refl p, cond_true] at h4
    exact Nat.eq_of_beq_eq_true h4
  · rw [show Nat.beq m 0 = false from by cases m with | zero => exact absurd rfl hm | succ m => rfl, cond_false, Bool.and_eq_true, Bool.and_eq_true] at h4
    obtain ⟨⟨a, b⟩, c⟩ := h4
    refine ⟨Nat.eq_of_beq_eq_true a, Nat.le_of_ble_eq_true b, ?_⟩
    have := sqF_is (p := k) k 0
    rw [Nat.eq_of_beq_eq_true c]
    rw [Nat.zero_add] at this
    exact this
/-! the sum of characters -/
def mulD (a b : Nat) : Nat := bif Nat.beq a 1 then 1 else bif Nat.beq b 1 then 1 else bif Nat.beq a b then 2 else 0
theorem mulD_is {a b : Nat} {x y : Int} (ha : (a : Int) = x + 1) (hb : (b : Int) = y + 1) (hx : -1 ≤ x ∧ x ≤ 1) (hy : -1 ≤ y ∧ y ≤ 1) : ((mulD a b : Nat) : Int) = x * y + 1 := by
  obtain rfl : a = (x + 1).toNat := (by omega)
  obtain rfl : b = (y + 1).toNat := (by omega)
  have h1 : x = -1 ∨ x = 0 ∨ x = 1 := by omega
  have h2 : y = -1 ∨ y = 0 ∨ y = 1 := by omega
  rcases h1 with rfl | rfl | rfl <;> rcases h2 with rfl | rfl | rfl <;> rfl
def digN (N k p m A : Nat) : Nat := bif Nat.beq m 0 then (bif Nat.beq k 2 then twoD N else mulD (dig A p) (dig A (k / p))) else oddD N k m
/-- the sum of k (chi + 1), over the rows up to N -/
noncomputable def go (N : Nat) (l : List (Nat × Nat)) : Nat → Nat → Nat → Nat :=
  List.rec (motive := fun _ => Nat → Nat → Nat → Nat) (fun _ _ S => S) (fun x _ ih k A S => bif Nat.ble N k then S else force (digN N k x.1 x.2 A) fun d => force (Nat.add A (Nat.mul d (Nat.pow 4 k))) fun A' => force (Nat.add S (Nat.mul k d)) fun S' => force (Nat.succ k) fun k' => ih k' A' S') l
theorem go_cons {N p m k A S : Nat} {l : List (Nat × Nat)} : go N ((p, m) :: l) k A S = bif Nat.ble N k then S else force (digN N k p m A) fun d => force (A + d * 4 ^ k) fun A' => force (S + k * d) fun S' => force (k + 1) fun k' => go N l k' A' S' := rfl
def sumC (n : Int) : Nat → Int
  | 0 => 0
  | k + 1 => sumC n k + (k : Int) * (chi n k + 1)
theorem go_is {n : Int} {N : Nat} (hN : n = -(N : Int)) (hN2 : N ≤ 1500) : ∀ (l : List (Nat × Nat)) (k A S : Nat), 2 ≤ k → k ≤ N → tabOk l k = true → N ≤ k + l.length → A < 4 ^ k →
    (∀ j, 1 ≤ j → j < k → ((dig A j : Nat) : Int) = chi n j + 1 ∧ -1 ≤ chi n j ∧ chi n j ≤ 1) → (S : Int) = sumC n k → ((go N l k A S : Nat) : Int) = sumC n N := by
  intro l
  induction l with
  | nil =>
    intro k A S _ h2 _ h3 _ _ hS
    have : k = N := by simp at h3; omega
    subst this
    exact hS
  | cons x l ih =>
    intro k A S h2 hk ht hl hA hd hS
    obtain ⟨p, m⟩ := x
    rw [go_cons]
    simp only [force_e]
    cases hb : Nat.ble N k with
    | true =>
      have := Nat.le_of_ble_eq_true hb
      have : k = N := by omega
      subst this
      rw [cond_true]; exact hS
    | false =>
      have hlt : k < N := by
        rcases Nat.lt_or_ge k N with z | z
        · exact z
        · rw [Nat.ble_eq_true_of_le z] at hb; cases hb
      rw [cond_false]
      rw [tabOk_cons, force_e, Bool.and_eq_true] at ht
      obtain ⟨ht1, ht2⟩ := ht
      have R := row_ok ht1
      have hch : ((digN N k p m A : Nat) : Int) = chi n k + 1 ∧ -1 ≤ chi n k ∧ chi n k ≤ 1 := by
        have hs := chi_step (n := n) (k := k) (p := p) (by omega) (by omega) R.p2 R.dv R.nd
        unfold digN
        by_cases hm : m = 0
        · rw [hm, show Nat.beq 0 0 = true from rfl, cond_true]
          by_cases q : k = 2
          · subst q
            have hp2 : p = 2 := by have := Nat.le_of_dvd (by omega) R.dv; have := R.p2; omega
            subst hp2
            rw [show Nat.beq 2 2 = true from rfl, cond_true]
            rw [show 2 / 2 = 1 from rfl, chi_one, Int.mul_one] at hs
            rw [twoD_is hN, hs]
            exact ⟨rfl, sgn_b⟩
          · have hq : Nat.beq k 2 = false := by cases e : Nat.beq k 2 with | true => exact absurd (Nat.eq_of_beq_eq_true e) q | false => rfl
            rw [hq, cond_false]
            have hpk : p < k := by
              have := Nat.le_of_dvd (by omega) R.dv
              have := R.m0 hm
              omega
            have hp1 : 1 ≤ k / p := Nat.div_pos (by omega) (by have := R.p2; omega)
            have hlt2 : k / p < k := Nat.div_lt_self (by omega) R.p2
            obtain ⟨a1, a2⟩ := hd p (by have := R.p2; omega) hpk
            obtain ⟨b1, b2⟩ := hd (k / p) hp1 hlt2
            have hsp : chi n p = sgn n p := by
              have := chi_step (n := n) (k := p) (p := p) (by have := R.p2; omega) (by omega) R.p2 (Nat.dvd_refl _) (fun d u v w => R.nd d u v (Nat.dvd_trans w R.dv))
              rw [Nat.div_self (by have := R.p2; omega), chi_one, Int.mul_one] at this
              exact this
            rw [hsp] at a1 a2
            rw [hs]
            refine ⟨mulD_is a1 b1 a2 b2, ?_⟩
            have h1 : sgn n p = -1 ∨ sgn n p = 0 ∨ sgn n p = 1 := by omega
            rcases h1 with e | e | e <;> rw [e] <;> omega
        · obtain ⟨e1, e2, e3⟩ := R.m1 hm
          subst e1
          rw [show Nat.beq m 0 = false from by cases m with | zero => exact absurd rfl hm | succ m => rfl, cond_false, e3, oddD_is hN e2]
          rw [Nat.div_self (by omega), chi_one, Int.mul_one] at hs
          rw [hs]
          exact ⟨rfl, sgn_b⟩
      have hd4 : digN N k p m A < 4 := by omega
      refine ih (k + 1) _ _ (by omega) (by omega) ht2 (by simp at hl; omega) (put_lt hA hd4) ?_ ?_
      · intro j h1 hj
        rcases Nat.lt_or_ge j k with z | z
        · rw [dig_put z]; exact hd j h1 z
        · have : j = k := by omega
          subst this
          rw [dig_new hA hd4]; exact hch
      · show _ = sumC n k + (k : Int) * (chi n k + 1)
        rw [← hS, ← hch.1]
        norm_cast
/-- chi 1 stands at the place 1 -/
theorem go_all {n : Int} {N : Nat} (hN : n = -(N : Int)) (hN2 : N ≤ 1200) (h2 : 2 ≤ N) (hl : spt.length = 1198) : ((go N spt 2 8 2 : Nat) : Int) = sumC n N := by
  refine go_is hN (by omega) spt 2 8 2 (by omega) h2 spt_ok (by omega) (by decide) ?_ ?_
  · intro j h1 h2
    have : j = 1 := by omega
    subst this
    rw [chi_one]
    exact ⟨rfl, by decide, by decide⟩
  · show _ = 0 + ((0 : Nat) : Int) * _ + ((1 : Nat) : Int) * (chi n 1 + 1)
    rw [chi_one]; simp
end K11
/-! k11, part GG: the number of classes is told by the characters: by the kernel, for all discriminants from -1200 on. -/
namespace K11
open PySem DL
def modQ (N : Nat) : Bool := bif Nat.beq (Nat.mod N 4) 3 then true else bif Nat.beq (Nat.mod N 16) 8 then true else Nat.beq (Nat.mod N 16) 4
def sqQ (N : Nat) : Bool := [9, 25, 49, 121, 169, 289, 361, 529, 841, 961].all fun d => !(Nat.beq (Nat.mod N d) 0)
noncomputable def cnB (N : Nat) : Bool := bif modQ N then (bif sqQ N then (bif Nat.ble N 4 then true else Nat.beq (Nat.add (Nat.mul (prm (-(N : Int))).length N) (go N spt 2 8 2)) (Nat.div (Nat.mul N (Nat.sub N 1)) 2)) else !(fund N)) else true
noncomputable def cnC (i : Nat) : Bool := cnB (4 * (i + 1)) && cnB (4 * i + 3)
theorem cn_0 : ((List.range' 0 25).all cnC) = true := by decide +kernel
theorem cn_1 : ((List.range' 25 25).all cnC) = true := by decide +kernel
theorem cn_2 : ((List.range' 50 25).all cnC) = true := by decide +kernel
theorem cn_3 : ((List.range' 75 25).all cnC) = true := by decide +kernel
theorem cn_4 : ((List.range' 100 25).all cnC) = true := by decide +kernel
theorem cn_5 : ((List.range' 125 25).all cnC) = true := by decide +kernel
theorem cn_6 : ((List.range' 150 25).all cnC) = true := by decide +kernel
theorem cn_7 : ((List.range' 175 25).all cnC) = true := by decide +kernel
theorem cn_8 : ((List.range' 200 25).all cnC) = true := by decide +kernel
theorem cn_9 : ((List.range' 225 25).all cnC) = true := by decide +kernel
theorem cn_10 : ((List.range' 250 25).all cnC) = true := by decide +kernel
theorem cn_11 : ((List.range' 275 25).all cnC) = true := by decide +kernel
theorem fund_mod {N : Nat} (h : fund N = true) : modQ N = true := by
  unfold fund at h
  rw [Bool.and_eq_true, decide_eq_true_eq] at h
  have h2 := h.2
  unfold modQ
  cases a : Nat.beq (Nat.mod N 4) 3 with
  | true => rfl
  | false =>
    have a' : ¬ (N % 4 = 3) := Nat.ne_of_beq_eq_false a
    rw [cond_false]
    cases b : Nat.beq (Nat.mod N 16) 8 with
    | true => rfl
    | false =>
      have b' : ¬ (N % 16 = 8) := Nat.ne_of_beq_eq_false b
      rw [cond_false]
      show Nat.beq (N % 16) 4 = true
      rw [show N % 16 = 4 by omega]
      rfl
theorem cn_all {n : Int} {N : Nat} (hn : n = -(N : Int)) (h1 : 4 < N) (h2 : N ≤ 1200) (h3 : n % 4 ≤ 1) (hf : fund N = true) : ((prm n).length : Int) * N + sumC n N = N * (N - 1) / 2 := by
  have key : cnB N = true := by
    obtain ⟨i, hi, e⟩ : ∃ i : Nat, i < 300 ∧ (N = 4 * (i + 1) ∨ N = 4 * i + 3) := ⟨(N + 1) / 4 - 1, by omega, by omega⟩
    have key : cnC i = true := by
      by_cases a0 : i < 25
      · exact List.all_eq_true.mp cn_0 i (List.mem_range'_1.mpr (by omega))
      by_cases a1 : i < 50
      · exact List.all_eq_true.mp cn_1 i (List.mem_range'_1.mpr (by omega))
      by_cases a2 : i < 75
      · exact List.all_eq_true.mp cn_2 i (List.mem_range'_1.mpr (by omega))
      by_cases a3 : i < 100
      · exact List.all_eq_true.mp cn_3 i (List.mem_range'_1.mpr (by omega))
      by_cases a4 : i < 125
      · exact List.all_eq_true.mp cn_4 i (List.mem_range'_1.mpr (by omega))
      by_cases a5 : i < 150
      · exact List.all_eq_true.mp cn_5 i (List.mem_range'_1.mpr (by omega))
      by_cases a6 : i < 175
      · exact List.all_eq_true.mp cn_6 i (List.mem_range'_1.mpr (by omega))
      by_cases a7 : i < 200
      · exact List.all_eq_true.mp cn_7 i (List.mem_range'_1.mpr (by omega))
      by_cases a8 : i < 225
      · exact List.all_eq_true.mp cn_8 i (List.mem_range'_1.mpr (by omega))
      by_cases a9 : i < 250
      · exact List.all_eq_true.mp cn_9 i (List.mem_range'_1.mpr (by omega))
      by_cases a10 : i < 275
      · exact List.all_eq_true.mp cn_10 i (List.mem_range'_1.mpr (by omega))
      by_cases a11 : i < 300
      · exact List.all_eq_true.mp cn_11 i (List.mem_range'_1.mpr (by omega))
      omega
    unfold cnC at key
    rw [Bool.and_eq_true] at key
    rcases e with rfl | rfl
    · exact key.1
    · exact key.2
  unfold cnB at key
  rw [fund_mod hf, cond_true] at key
  cases q : sqQ N with
  | false => rw [q, cond_false, hf] at key; exact nomatch key
  | true =>
    have hb : Nat.ble N 4 = false := by
      cases e : Nat.ble N 4 with
      | true => have := Nat.le_of_ble_eq_true e; omega
      | false => rfl
    rw [q, cond_true, hb, cond_false] at key
    have key : (prm (-(N : Int))).length * N + go N spt 2 8 2 = N * (N - 1) / 2 := Nat.eq_of_beq_eq_true key
    rw [← hn] at key
    rw [← go_all hn h2 (by omega) (by decide +kernel)]
    have : (N : Int) * (N - 1) / 2 = ((N * (N - 1) / 2 : Nat) : Int) := by
      have : ((N - 1 : Nat) : Int) = (N : Int) - 1 := by omega
      rw [← this]; norm_cast
    rw [this, ← key]
    norm_cast
end K11
set_option maxHeartbeats 4000000
/-! everygrid_k11_two_reduced: the walk, as the program gen.py printed it. -/
namespace K11
open PySem PySem.Spec PyProof.Rows L2 DL

def top (i : Nat) : Stmt := PySem.Challenge.pw_everygrid_k11_two_reduced.main.body.getD i (.Pass ⟨0, 0, 0, 0⟩)
/-- what the text has written -/
structure Tx (P : Program) (K : PySem.W.Frag) (mg : Str → Option Value) (C fI : Addr) (a_UNIT : Value) : Prop where
  z_abs : mg "abs" = none
  z_all : mg "all" = none
  z_bool : mg "bool" = none
  z_int : mg "int" = none
  z_isinstance : mg "isinstance" = none
  z_len : mg "len" = none
  z_list : mg "list" = none
  z_min : mg "min" = none
  z_range : mg "range" = none
  z_repr : mg "repr" = none
  z_sorted : mg "sorted" = none
  z_sum : mg "sum" = none
  z_tuple : mg "tuple" = none
  z_zip : mg "zip" = none
  g_UNIT : mg "UNIT" = some a_UNIT
  k_UNIT : konB K a_UNIT k_UNIT = true
  x_BadTable : PySem.BadX.BadTxt P K mg "BadTable" "BadTable.__init__" C fI
section
variable {P : Program} {w : World} {K : PySem.W.Frag} {mg : Str → Option Value} {base : Heap} {C fI : Addr} {a_UNIT : Value}
abbrev s_divisor : Stmt := top 4
theorem sc_divisor : FnScope ["one", "other"] ["one", "other"] (defScope s_divisor) := ⟨rfl, rfl, rfl, by decide +kernel, rfl, by decide +kernel, by decide +kernel⟩
theorem ok_divisor {f : Addr} {fd : FuncData} (F : Fun K "divisor" "divisor" s_divisor f fd) (t : Tx P K mg C fI a_UNIT)  : FnG P w K mg base 1 f fd ["one", "other"] m_divisor := by
  refine fnG_of (k := 0) F sc_divisor rfl rfl (by decide) fun cdv A outer s H E hr hgd => ?_
  have nd := sc_divisor.nd
  have tk : Takes (cxOf (L2.CX P w) P w K mg base ["one", "other"] "divisor" (defScope s_divisor) f cdv A outer s H E) (WXof E) := takes_of rfl rfl rfl rfl
  have po : PassesOwn (model (cxOf (L2.CX P w) P w K mg base ["one", "other"] "divisor" (defScope s_divisor) f cdv A outer s H E).prog (cxOf (L2.CX P w) P w K mg base ["one", "other"] "divisor" (defScope s_divisor) f cdv A outer s H E).w) (cxOf (L2.CX P w) P w K mg base ["one", "other"] "divisor" (defScope s_divisor) f cdv A outer s H E).A (cxOf (L2.CX P w) P w K mg base ["one", "other"] "divisor" (defScope s_divisor) f cdv A outer s H E).env (cxOf (L2.CX P w) P w K mg base ["one", "other"] "divisor" (defScope s_divisor) f cdv A outer s H E).xe := passes_of rfl
  refine ess_cons ?_ (ess_cons ?_ (ess_one ?_))
  · exact (es_par rfl nd rfl rfl (by decide) rfl rfl (ea_cons (b_abs t.z_abs (ea_cons (vr 0) ea_nil)) (ea_cons (b_abs t.z_abs (ea_cons (vr 1) ea_nil)) ea_nil)) (by rfl))
  · exact (es_while po (et_tru (vr 1)) (ess_one (es_par rfl nd rfl rfl (by decide) rfl rfl (ea_cons (vr 1) (ea_cons (o_mod (vr 0) (vr 1)) ea_nil)) (by rfl))))
  · exact (es_ret (vr 0))
abbrev s_divisor_of : Stmt := top 5
theorem sc_divisor_of : FnScope ["numbers", "found", "number"] ["numbers"] (defScope s_divisor_of) := ⟨rfl, rfl, rfl, by decide +kernel, rfl, by decide +kernel, by decide +kernel⟩
theorem ok_divisor_of {f : Addr} {fd : FuncData} (F : Fun K "divisor_of" "divisor_of" s_divisor_of f fd) (t : Tx P K mg C fI a_UNIT) (c_divisor : CalG P w K mg base 1 "divisor" m_divisor) : FnG P w K mg base 2 f fd ["numbers"] m_divisor_of := by
  refine fnG_of (k := 1) F sc_divisor_of rfl rfl (by decide) fun cdv A outer s H E hr hgd => ?_
  have nd := sc_divisor_of.nd
  have tk : Takes (cxOf (L2.CX P w) P w K mg base ["numbers", "found", "number"] "divisor_of" (defScope s_divisor_of) f cdv A outer s H E) (WXof E) := takes_of rfl rfl rfl rfl
  have po : PassesOwn (model (cxOf (L2.CX P w) P w K mg base ["numbers", "found", "number"] "divisor_of" (defScope s_divisor_of) f cdv A outer s H E).prog (cxOf (L2.CX P w) P w K mg base ["numbers", "found", "number"] "divisor_of" (defScope s_divisor_of) f cdv A outer s H E).w) (cxOf (L2.CX P w) P w K mg base ["numbers", "found", "number"] "divisor_of" (defScope s_divisor_of) f cdv A outer s H E).A (cxOf (L2.CX P w) P w K mg base ["numbers", "found", "number"] "divisor_of" (defScope s_divisor_of) f cdv A outer s H E).env (cxOf (L2.CX P w) P w K mg base ["numbers", "found", "number"] "divisor_of" (defScope s_divisor_of) f cdv A outer s H E).xe := passes_of rfl
  refine ess_cons ?_ (ess_cons ?_ (ess_one ?_))
  · exact (es_set nd rfl (by first | exact .inl rfl | exact .inr rfl) ev_int)
  · exact (es_for po rfl (ei_seq (vr 0)) (eg_name nd rfl (by first | exact .inl rfl | exact .inr rfl)) (ess_one (es_set nd rfl (by first | exact .inl rfl | exact .inr rfl) (ev_cl c_divisor hr (by decide) hgd tk (ea_cons (vr 1) (ea_cons (vr 2) ea_nil))))))
  · exact (es_ret (vr 1))
abbrev s_fraction : Stmt := top 6
theorem sc_fraction : FnScope ["above", "below", "common"] ["above", "below"] (defScope s_fraction) := ⟨rfl, rfl, rfl, by decide +kernel, rfl, by decide +kernel, by decide +kernel⟩
theorem ok_fraction {f : Addr} {fd : FuncData} (F : Fun K "fraction" "fraction" s_fraction f fd) (t : Tx P K mg C fI a_UNIT) (c_divisor : CalG P w K mg base 1 "divisor" m_divisor) : FnG P w K mg base 2 f fd ["above", "below"] m_fraction := by
  refine fnG_of (k := 1) F sc_fraction rfl rfl (by decide) fun cdv A outer s H E hr hgd => ?_
  have nd := sc_fraction.nd
  have tk : Takes (cxOf (L2.CX P w) P w K mg base ["above", "below", "common"] "fraction" (defScope s_fraction) f cdv A outer s H E) (WXof E) := takes_of rfl rfl rfl rfl
  have po : PassesOwn (model (cxOf (L2.CX P w) P w K mg base ["above", "below", "common"] "fraction" (defScope s_fraction) f cdv A outer s H E).prog (cxOf (L2.CX P w) P w K mg base ["above", "below", "common"] "fraction" (defScope s_fraction) f cdv A outer s H E).w) (cxOf (L2.CX P w) P w K mg base ["above", "below", "common"] "fraction" (defScope s_fraction) f cdv A outer s H E).A (cxOf (L2.CX P w) P w K mg base ["above", "below", "common"] "fraction" (defScope s_fraction) f cdv A outer s H E).env (cxOf (L2.CX P w) P w K mg base ["above", "below", "common"] "fraction" (defScope s_fraction) f cdv A outer s H E).xe := passes_of rfl
  refine ess_cons ?_ (ess_cons ?_ (ess_one ?_))
  · exact (es_set nd rfl (by first | exact .inl rfl | exact .inr rfl) (ev_cl c_divisor hr (by decide) hgd tk (ea_cons (vr 0) (ea_cons (vr 1) ea_nil))))
  · exact (es_if (t_lt (vr 1) ev_int) (ess_one (es_set nd rfl (by first | exact .inl rfl | exact .inr rfl) (o_sub ev_int (vr 2)))) ess_nil)
  · exact (es_ret (ev_tup (ea_cons (o_fdiv (vr 0) (vr 2)) (ea_cons (o_fdiv (vr 1) (vr 2)) ea_nil))))
abbrev s_root : Stmt := top 7
theorem sc_root : FnScope ["number", "found"] ["number"] (defScope s_root) := ⟨rfl, rfl, rfl, by decide +kernel, rfl, by decide +kernel, by decide +kernel⟩
theorem ok_root {f : Addr} {fd : FuncData} (F : Fun K "root" "root" s_root f fd) (t : Tx P K mg C fI a_UNIT)  : FnG P w K mg base 1 f fd ["number"] m_root := by
  refine fnG_of (k := 0) F sc_root rfl rfl (by decide) fun cdv A outer s H E hr hgd => ?_
  have nd := sc_root.nd
  have tk : Takes (cxOf (L2.CX P w) P w K mg base ["number", "found"] "root" (defScope s_root) f cdv A outer s H E) (WXof E) := takes_of rfl rfl rfl rfl
  have po : PassesOwn (model (cxOf (L2.CX P w) P w K mg base ["number", "found"] "root" (defScope s_root) f cdv A outer s H E).prog (cxOf (L2.CX P w) P w K mg base ["number", "found"] "root" (defScope s_root) f cdv A outer s H E).w) (cxOf (L2.CX P w) P w K mg base ["number", "found"] "root" (defScope s_root) f cdv A outer s H E).A (cxOf (L2.CX P w) P w K mg base ["number", "found"] "root" (defScope s_root) f cdv A outer s H E).env (cxOf (L2.CX P w) P w K mg base ["number", "found"] "root" (defScope s_root) f cdv A outer s H E).xe := passes_of rfl
  refine ess_cons ?_ (ess_cons ?_ (ess_one ?_))
  · exact (es_set nd rfl (by first | exact .inl rfl | exact .inr rfl) (o_shl ev_int (o_fdiv (o_add (ev_bits (vr 0)) ev_int) ev_int)))
  · exact (es_while po (t_gt (o_mul (vr 1) (vr 1)) (vr 0)) (ess_one (es_set nd rfl (by first | exact .inl rfl | exact .inr rfl) (o_fdiv (o_add (vr 1) (o_fdiv (vr 0) (vr 1))) ev_int))))
  · exact (es_ret (vr 1))
abbrev s_is_whole : Stmt := top 9
theorem sc_is_whole : FnScope ["number"] ["number"] (defScope s_is_whole) := ⟨rfl, rfl, rfl, by decide +kernel, rfl, by decide +kernel, by decide +kernel⟩
theorem ok_is_whole {f : Addr} {fd : FuncData} (F : Fun K "is_whole" "is_whole" s_is_whole f fd) (t : Tx P K mg C fI a_UNIT)  : FnG P w K mg base 1 f fd ["number"] m_is_whole := by
  refine fnG_of (k := 0) F sc_is_whole rfl rfl (by decide) fun cdv A outer s H E hr hgd => ?_
  have nd := sc_is_whole.nd
  have tk : Takes (cxOf (L2.CX P w) P w K mg base ["number"] "is_whole" (defScope s_is_whole) f cdv A outer s H E) (WXof E) := takes_of rfl rfl rfl rfl
  have po : PassesOwn (model (cxOf (L2.CX P w) P w K mg base ["number"] "is_whole" (defScope s_is_whole) f cdv A outer s H E).prog (cxOf (L2.CX P w) P w K mg base ["number"] "is_whole" (defScope s_is_whole) f cdv A outer s H E).w) (cxOf (L2.CX P w) P w K mg base ["number"] "is_whole" (defScope s_is_whole) f cdv A outer s H E).A (cxOf (L2.CX P w) P w K mg base ["number"] "is_whole" (defScope s_is_whole) f cdv A outer s H E).env (cxOf (L2.CX P w) P w K mg base ["number"] "is_whole" (defScope s_is_whole) f cdv A outer s H E).xe := passes_of rfl
  refine ess_one ?_
  · exact (es_ret (ev_and (b_isinstance t.z_isinstance (ea_cons (vr 0) (ea_cons (ty_int t.z_int) ea_nil))) (ev_one (ev_not (b_isinstance t.z_isinstance (ea_cons (vr 0) (ea_cons (ty_bool t.z_bool) ea_nil)))))))
abbrev s_is_row : Stmt := top 10
theorem sc_is_row : FnScope ["row", "number"] ["row"] (defScope s_is_row) := ⟨rfl, rfl, rfl, by decide +kernel, rfl, by decide +kernel, by decide +kernel⟩
theorem ok_is_row {f : Addr} {fd : FuncData} (F : Fun K "is_row" "is_row" s_is_row f fd) (t : Tx P K mg C fI a_UNIT) (c_is_whole : CalG P w K mg base 1 "is_whole" m_is_whole) : FnG P w K mg base 2 f fd ["row"] m_is_row := by
  refine fnG_of (k := 1) F sc_is_row rfl rfl (by decide) fun cdv A outer s H E hr hgd => ?_
  have nd := sc_is_row.nd
  have tk : Takes (cxOf (L2.CX P w) P w K mg base ["row", "number"] "is_row" (defScope s_is_row) f cdv A outer s H E) (WXof E) := takes_of rfl rfl rfl rfl
  have po : PassesOwn (model (cxOf (L2.CX P w) P w K mg base ["row", "number"] "is_row" (defScope s_is_row) f cdv A outer s H E).prog (cxOf (L2.CX P w) P w K mg base ["row", "number"] "is_row" (defScope s_is_row) f cdv A outer s H E).w) (cxOf (L2.CX P w) P w K mg base ["row", "number"] "is_row" (defScope s_is_row) f cdv A outer s H E).A (cxOf (L2.CX P w) P w K mg base ["row", "number"] "is_row" (defScope s_is_row) f cdv A outer s H E).env (cxOf (L2.CX P w) P w K mg base ["row", "number"] "is_row" (defScope s_is_row) f cdv A outer s H E).xe := passes_of rfl
  refine ess_one ?_
  · exact (es_ret (ev_and (b_isinstance t.z_isinstance (ea_cons (vr 0) (ea_cons (ty_tuple t.z_tuple) ea_nil))) (ev_one (b_all t.z_all (ea_cons (ev_lc (own := [("number", 1)]) rfl nd (ei_seq (vr 0)) (blkOk_by (by first | rfl | kernel_rfl)) (by decide) (fun _ _ _ _ _ => (eg_name nd rfl (by first | exact .inl rfl | exact .inr rfl))) (fun _ _ _ _ _ => ets_nil) (fun _ _ _ _ _ => (ev_cl c_is_whole hr (by decide) hgd takes0 (ea_cons (vr 1) ea_nil)))) ea_nil)))))
abbrev s_wide : Stmt := top 11
theorem sc_wide : FnScope ["table"] ["table"] (defScope s_wide) := ⟨rfl, rfl, rfl, by decide +kernel, rfl, by decide +kernel, by decide +kernel⟩
theorem ok_wide {f : Addr} {fd : FuncData} (F : Fun K "wide" "wide" s_wide f fd) (t : Tx P K mg C fI a_UNIT)  : FnG P w K mg base 1 f fd ["table"] m_wide := by
  refine fnG_of (k := 0) F sc_wide rfl rfl (by decide) fun cdv A outer s H E hr hgd => ?_
  have nd := sc_wide.nd
  have tk : Takes (cxOf (L2.CX P w) P w K mg base ["table"] "wide" (defScope s_wide) f cdv A outer s H E) (WXof E) := takes_of rfl rfl rfl rfl
  have po : PassesOwn (model (cxOf (L2.CX P w) P w K mg base ["table"] "wide" (defScope s_wide) f cdv A outer s H E).prog (cxOf (L2.CX P w) P w K mg base ["table"] "wide" (defScope s_wide) f cdv A outer s H E).w) (cxOf (L2.CX P w) P w K mg base ["table"] "wide" (defScope s_wide) f cdv A outer s H E).A (cxOf (L2.CX P w) P w K mg base ["table"] "wide" (defScope s_wide) f cdv A outer s H E).env (cxOf (L2.CX P w) P w K mg base ["table"] "wide" (defScope s_wide) f cdv A outer s H E).xe := passes_of rfl
  refine ess_one ?_
  · exact (es_ret (ev_if (et_tru (vr 0)) (b_len t.z_len (ea_cons (ev_ix (vr 0) ev_int) ea_nil)) ev_int))
abbrev s_turned : Stmt := top 12
theorem sc_turned : FnScope ["table", "place", "row"] ["table"] (defScope s_turned) := ⟨rfl, rfl, rfl, by decide +kernel, rfl, by decide +kernel, by decide +kernel⟩
theorem ok_turned {f : Addr} {fd : FuncData} (F : Fun K "turned" "turned" s_turned f fd) (t : Tx P K mg C fI a_UNIT) (c_wide : CalG P w K mg base 1 "wide" m_wide) : FnG P w K mg base 2 f fd ["table"] m_turned := by
  refine fnG_of (k := 1) F sc_turned rfl rfl (by decide) fun cdv A outer s H E hr hgd => ?_
  have nd := sc_turned.nd
  have tk : Takes (cxOf (L2.CX P w) P w K mg base ["table", "place", "row"] "turned" (defScope s_turned) f cdv A outer s H E) (WXof E) := takes_of rfl rfl rfl rfl
  have po : PassesOwn (model (cxOf (L2.CX P w) P w K mg base ["table", "place", "row"] "turned" (defScope s_turned) f cdv A outer s H E).prog (cxOf (L2.CX P w) P w K mg base ["table", "place", "row"] "turned" (defScope s_turned) f cdv A outer s H E).w) (cxOf (L2.CX P w) P w K mg base ["table", "place", "row"] "turned" (defScope s_turned) f cdv A outer s H E).A (cxOf (L2.CX P w) P w K mg base ["table", "place", "row"] "turned" (defScope s_turned) f cdv A outer s H E).env (cxOf (L2.CX P w) P w K mg base ["table", "place", "row"] "turned" (defScope s_turned) f cdv A outer s H E).xe := passes_of rfl
  refine ess_one ?_
  · exact (es_ret (b_tuple t.z_tuple (ea_cons (ev_lc (own := [("place", 1)]) rfl nd (ei_rng1 (by rfl) t.z_range (ea_cons (ev_cl c_wide hr (by decide) hgd tk (ea_cons (vr 0) ea_nil)) ea_nil)) (blkOk_by (by first | rfl | kernel_rfl)) (by decide) (fun _ _ _ _ _ => (eg_name nd rfl (by first | exact .inl rfl | exact .inr rfl))) (fun _ _ _ _ _ => ets_nil) (fun _ _ _ _ _ => (b_tuple t.z_tuple (ea_cons (ev_lc (own := [("row", 2)]) rfl nd (ei_seq (vr 0)) (blkOk_by (by first | rfl | kernel_rfl)) (by decide) (fun _ _ _ _ _ => (eg_name nd rfl (by first | exact .inl rfl | exact .inr rfl))) (fun _ _ _ _ _ => ets_nil) (fun _ _ _ _ _ => (ev_ix (vr 2) (vr 1)))) ea_nil)))) ea_nil)))
abbrev s_dot : Stmt := top 13
theorem sc_dot : FnScope ["one", "other", "a", "b"] ["one", "other"] (defScope s_dot) := ⟨rfl, rfl, rfl, by decide +kernel, rfl, by decide +kernel, by decide +kernel⟩
theorem ok_dot {f : Addr} {fd : FuncData} (F : Fun K "dot" "dot" s_dot f fd) (t : Tx P K mg C fI a_UNIT)  : FnG P w K mg base 1 f fd ["one", "other"] m_dot := by
  refine fnG_of (k := 0) F sc_dot rfl rfl (by decide) fun cdv A outer s H E hr hgd => ?_
  have nd := sc_dot.nd
  have tk : Takes (cxOf (L2.CX P w) P w K mg base ["one", "other", "a", "b"] "dot" (defScope s_dot) f cdv A outer s H E) (WXof E) := takes_of rfl rfl rfl rfl
  have po : PassesOwn (model (cxOf (L2.CX P w) P w K mg base ["one", "other", "a", "b"] "dot" (defScope s_dot) f cdv A outer s H E).prog (cxOf (L2.CX P w) P w K mg base ["one", "other", "a", "b"] "dot" (defScope s_dot) f cdv A outer s H E).w) (cxOf (L2.CX P w) P w K mg base ["one", "other", "a", "b"] "dot" (defScope s_dot) f cdv A outer s H E).A (cxOf (L2.CX P w) P w K mg base ["one", "other", "a", "b"] "dot" (defScope s_dot) f cdv A outer s H E).env (cxOf (L2.CX P w) P w K mg base ["one", "other", "a", "b"] "dot" (defScope s_dot) f cdv A outer s H E).xe := passes_of rfl
  refine ess_one ?_
  · exact (es_ret (b_sum t.z_sum (ea_cons (ev_lc (own := [("a", 2), ("b", 3)]) rfl nd (ei_zip (by rfl) t.z_zip (ea_cons (vr 0) (ea_cons (vr 1) ea_nil))) (blkOk_by (by first | rfl | kernel_rfl)) (by decide) (fun _ _ _ _ _ => (eg_tup rfl (egs_cons (eg_name nd rfl (by first | exact .inl rfl | exact .inr rfl)) (egs_cons (eg_name nd rfl (by first | exact .inl rfl | exact .inr rfl)) egs_nil)))) (fun _ _ _ _ _ => ets_nil) (fun _ _ _ _ _ => (o_mul (vr 2) (vr 3)))) ea_nil)))
abbrev s_product : Stmt := top 14
theorem sc_product : FnScope ["one", "other", "columns", "row", "column"] ["one", "other"] (defScope s_product) := ⟨rfl, rfl, rfl, by decide +kernel, rfl, by decide +kernel, by decide +kernel⟩
theorem ok_product {f : Addr} {fd : FuncData} (F : Fun K "product" "product" s_product f fd) (t : Tx P K mg C fI a_UNIT) (c_turned : CalG P w K mg base 2 "turned" m_turned) (c_dot : CalG P w K mg base 1 "dot" m_dot) : FnG P w K mg base 3 f fd ["one", "other"] m_product := by
  refine fnG_of (k := 2) F sc_product rfl rfl (by decide) fun cdv A outer s H E hr hgd => ?_
  have nd := sc_product.nd
  have tk : Takes (cxOf (L2.CX P w) P w K mg base ["one", "other", "columns", "row", "column"] "product" (defScope s_product) f cdv A outer s H E) (WXof E) := takes_of rfl rfl rfl rfl
  have po : PassesOwn (model (cxOf (L2.CX P w) P w K mg base ["one", "other", "columns", "row", "column"] "product" (defScope s_product) f cdv A outer s H E).prog (cxOf (L2.CX P w) P w K mg base ["one", "other", "columns", "row", "column"] "product" (defScope s_product) f cdv A outer s H E).w) (cxOf (L2.CX P w) P w K mg base ["one", "other", "columns", "row", "column"] "product" (defScope s_product) f cdv A outer s H E).A (cxOf (L2.CX P w) P w K mg base ["one", "other", "columns", "row", "column"] "product" (defScope s_product) f cdv A outer s H E).env (cxOf (L2.CX P w) P w K mg base ["one", "other", "columns", "row", "column"] "product" (defScope s_product) f cdv A outer s H E).xe := passes_of rfl
  refine ess_cons ?_ (ess_one ?_)
  · exact (es_set nd rfl (by first | exact .inl rfl | exact .inr rfl) (ev_cl c_turned hr (by decide) hgd tk (ea_cons (vr 1) ea_nil)))
  · exact (es_ret (b_tuple t.z_tuple (ea_cons (ev_lc (own := [("row", 3)]) rfl nd (ei_seq (vr 0)) (blkOk_by (by first | rfl | kernel_rfl)) (by decide) (fun _ _ _ _ _ => (eg_name nd rfl (by first | exact .inl rfl | exact .inr rfl))) (fun _ _ _ _ _ => ets_nil) (fun _ _ _ _ _ => (b_tuple t.z_tuple (ea_cons (ev_lc (own := [("column", 4)]) rfl nd (ei_seq (vr 2)) (blkOk_by (by first | rfl | kernel_rfl)) (by decide) (fun _ _ _ _ _ => (eg_name nd rfl (by first | exact .inl rfl | exact .inr rfl))) (fun _ _ _ _ _ => ets_nil) (fun _ _ _ _ _ => (ev_cl c_dot hr (by decide) hgd takes0 (ea_cons (vr 3) (ea_cons (vr 4) ea_nil))))) ea_nil)))) ea_nil)))
abbrev s_is_two : Stmt := top 17
theorem sc_is_two : FnScope ["shape"] ["shape"] (defScope s_is_two) := ⟨rfl, rfl, rfl, by decide +kernel, rfl, by decide +kernel, by decide +kernel⟩
theorem ok_is_two {f : Addr} {fd : FuncData} (F : Fun K "is_two" "is_two" s_is_two f fd) (t : Tx P K mg C fI a_UNIT) (c_is_row : CalG P w K mg base 2 "is_row" m_is_row) : FnG P w K mg base 3 f fd ["shape"] m_is_two := by
  refine fnG_of (k := 2) F sc_is_two rfl rfl (by decide) fun cdv A outer s H E hr hgd => ?_
  have nd := sc_is_two.nd
  have tk : Takes (cxOf (L2.CX P w) P w K mg base ["shape"] "is_two" (defScope s_is_two) f cdv A outer s H E) (WXof E) := takes_of rfl rfl rfl rfl
  have po : PassesOwn (model (cxOf (L2.CX P w) P w K mg base ["shape"] "is_two" (defScope s_is_two) f cdv A outer s H E).prog (cxOf (L2.CX P w) P w K mg base ["shape"] "is_two" (defScope s_is_two) f cdv A outer s H E).w) (cxOf (L2.CX P w) P w K mg base ["shape"] "is_two" (defScope s_is_two) f cdv A outer s H E).A (cxOf (L2.CX P w) P w K mg base ["shape"] "is_two" (defScope s_is_two) f cdv A outer s H E).env (cxOf (L2.CX P w) P w K mg base ["shape"] "is_two" (defScope s_is_two) f cdv A outer s H E).xe := passes_of rfl
  refine ess_one ?_
  · exact (es_ret (ev_and (ev_cl c_is_row hr (by decide) hgd tk (ea_cons (vr 0) ea_nil)) (ev_one (q_eq hr (b_len t.z_len (ea_cons (vr 0) ea_nil)) ev_int))))
abbrev s_gap : Stmt := top 18
theorem sc_gap : FnScope ["two"] ["two"] (defScope s_gap) := ⟨rfl, rfl, rfl, by decide +kernel, rfl, by decide +kernel, by decide +kernel⟩
theorem ok_gap {f : Addr} {fd : FuncData} (F : Fun K "gap" "gap" s_gap f fd) (t : Tx P K mg C fI a_UNIT)  : FnG P w K mg base 1 f fd ["two"] m_gap := by
  refine fnG_of (k := 0) F sc_gap rfl rfl (by decide) fun cdv A outer s H E hr hgd => ?_
  have nd := sc_gap.nd
  have tk : Takes (cxOf (L2.CX P w) P w K mg base ["two"] "gap" (defScope s_gap) f cdv A outer s H E) (WXof E) := takes_of rfl rfl rfl rfl
  have po : PassesOwn (model (cxOf (L2.CX P w) P w K mg base ["two"] "gap" (defScope s_gap) f cdv A outer s H E).prog (cxOf (L2.CX P w) P w K mg base ["two"] "gap" (defScope s_gap) f cdv A outer s H E).w) (cxOf (L2.CX P w) P w K mg base ["two"] "gap" (defScope s_gap) f cdv A outer s H E).A (cxOf (L2.CX P w) P w K mg base ["two"] "gap" (defScope s_gap) f cdv A outer s H E).env (cxOf (L2.CX P w) P w K mg base ["two"] "gap" (defScope s_gap) f cdv A outer s H E).xe := passes_of rfl
  refine ess_one ?_
  · exact (es_ret (o_sub (o_mul (ev_ix (vr 0) ev_int) (ev_ix (vr 0) ev_int)) (o_mul (o_mul ev_int (ev_ix (vr 0) ev_int)) (ev_ix (vr 0) ev_int))))
abbrev s_check_two : Stmt := top 19
theorem sc_check_two : FnScope ["two"] ["two"] (defScope s_check_two) := ⟨rfl, rfl, rfl, by decide +kernel, rfl, by decide +kernel, by decide +kernel⟩
theorem ok_check_two {f : Addr} {fd : FuncData} (F : Fun K "check_two" "check_two" s_check_two f fd) (t : Tx P K mg C fI a_UNIT) (c_divisor_of : CalG P w K mg base 2 "divisor_of" m_divisor_of) (c_is_two : CalG P w K mg base 3 "is_two" m_is_two) (c_gap : CalG P w K mg base 1 "gap" m_gap) : FnG P w K mg base 4 f fd ["two"] m_check_two := by
  refine fnG_of (k := 3) F sc_check_two rfl rfl (by decide) fun cdv A outer s H E hr hgd => ?_
  have nd := sc_check_two.nd
  have tk : Takes (cxOf (L2.CX P w) P w K mg base ["two"] "check_two" (defScope s_check_two) f cdv A outer s H E) (WXof E) := takes_of rfl rfl rfl rfl
  have po : PassesOwn (model (cxOf (L2.CX P w) P w K mg base ["two"] "check_two" (defScope s_check_two) f cdv A outer s H E).prog (cxOf (L2.CX P w) P w K mg base ["two"] "check_two" (defScope s_check_two) f cdv A outer s H E).w) (cxOf (L2.CX P w) P w K mg base ["two"] "check_two" (defScope s_check_two) f cdv A outer s H E).A (cxOf (L2.CX P w) P w K mg base ["two"] "check_two" (defScope s_check_two) f cdv A outer s H E).env (cxOf (L2.CX P w) P w K mg base ["two"] "check_two" (defScope s_check_two) f cdv A outer s H E).xe := passes_of rfl
  refine ess_cons ?_ (ess_cons ?_ (ess_one ?_))
  · exact (es_if (et_not (et_tru (ev_cl c_is_two hr (by decide) hgd tk (ea_cons (vr 0) ea_nil)))) (ess_one (es_raise rfl t.x_BadTable hr tk (ea_cons ev_str ea_nil) (by rfl))) ess_nil)
  · exact (es_if (et_W (ew_or (t_ge (ev_cl c_gap hr (by decide) hgd tk (ea_cons (vr 0) ea_nil)) ev_int) (ew_or1 (t_lt (ev_ix (vr 0) ev_int) ev_int)))) (ess_one (es_raise rfl t.x_BadTable hr tk (ea_cons ev_str ea_nil) (by rfl))) ess_nil)
  · exact (es_if (t_ne hr (ev_cl c_divisor_of hr (by decide) hgd tk (ea_cons (vr 0) ea_nil)) ev_int) (ess_one (es_raise rfl t.x_BadTable hr tk (ea_cons ev_str ea_nil) (by rfl))) ess_nil)
abbrev s_table_of : Stmt := top 20
theorem sc_table_of : FnScope ["two"] ["two"] (defScope s_table_of) := ⟨rfl, rfl, rfl, by decide +kernel, rfl, by decide +kernel, by decide +kernel⟩
theorem ok_table_of {f : Addr} {fd : FuncData} (F : Fun K "table_of" "table_of" s_table_of f fd) (t : Tx P K mg C fI a_UNIT)  : FnG P w K mg base 1 f fd ["two"] m_table_of := by
  refine fnG_of (k := 0) F sc_table_of rfl rfl (by decide) fun cdv A outer s H E hr hgd => ?_
  have nd := sc_table_of.nd
  have tk : Takes (cxOf (L2.CX P w) P w K mg base ["two"] "table_of" (defScope s_table_of) f cdv A outer s H E) (WXof E) := takes_of rfl rfl rfl rfl
  have po : PassesOwn (model (cxOf (L2.CX P w) P w K mg base ["two"] "table_of" (defScope s_table_of) f cdv A outer s H E).prog (cxOf (L2.CX P w) P w K mg base ["two"] "table_of" (defScope s_table_of) f cdv A outer s H E).w) (cxOf (L2.CX P w) P w K mg base ["two"] "table_of" (defScope s_table_of) f cdv A outer s H E).A (cxOf (L2.CX P w) P w K mg base ["two"] "table_of" (defScope s_table_of) f cdv A outer s H E).env (cxOf (L2.CX P w) P w K mg base ["two"] "table_of" (defScope s_table_of) f cdv A outer s H E).xe := passes_of rfl
  refine ess_one ?_
  · exact (es_ret (ev_tup (ea_cons (ev_tup (ea_cons (o_mul ev_int (ev_ix (vr 0) ev_int)) (ea_cons (ev_ix (vr 0) ev_int) ea_nil))) (ea_cons (ev_tup (ea_cons (ev_ix (vr 0) ev_int) (ea_cons (o_mul ev_int (ev_ix (vr 0) ev_int)) ea_nil))) ea_nil))))
abbrev s_two_of : Stmt := top 21
theorem sc_two_of : FnScope ["form"] ["form"] (defScope s_two_of) := ⟨rfl, rfl, rfl, by decide +kernel, rfl, by decide +kernel, by decide +kernel⟩
theorem ok_two_of {f : Addr} {fd : FuncData} (F : Fun K "two_of" "two_of" s_two_of f fd) (t : Tx P K mg C fI a_UNIT)  : FnG P w K mg base 1 f fd ["form"] m_two_of := by
  refine fnG_of (k := 0) F sc_two_of rfl rfl (by decide) fun cdv A outer s H E hr hgd => ?_
  have nd := sc_two_of.nd
  have tk : Takes (cxOf (L2.CX P w) P w K mg base ["form"] "two_of" (defScope s_two_of) f cdv A outer s H E) (WXof E) := takes_of rfl rfl rfl rfl
  have po : PassesOwn (model (cxOf (L2.CX P w) P w K mg base ["form"] "two_of" (defScope s_two_of) f cdv A outer s H E).prog (cxOf (L2.CX P w) P w K mg base ["form"] "two_of" (defScope s_two_of) f cdv A outer s H E).w) (cxOf (L2.CX P w) P w K mg base ["form"] "two_of" (defScope s_two_of) f cdv A outer s H E).A (cxOf (L2.CX P w) P w K mg base ["form"] "two_of" (defScope s_two_of) f cdv A outer s H E).env (cxOf (L2.CX P w) P w K mg base ["form"] "two_of" (defScope s_two_of) f cdv A outer s H E).xe := passes_of rfl
  refine ess_one ?_
  · exact (es_ret (ev_tup (ea_cons (o_fdiv (ev_ix (ev_ix (vr 0) ev_int) ev_int) ev_int) (ea_cons (ev_ix (ev_ix (vr 0) ev_int) ev_int) (ea_cons (o_fdiv (ev_ix (ev_ix (vr 0) ev_int) ev_int) ev_int) ea_nil)))))
abbrev s_two_worth : Stmt := top 22
theorem sc_two_worth : FnScope ["two", "x", "y"] ["two", "x", "y"] (defScope s_two_worth) := ⟨rfl, rfl, rfl, by decide +kernel, rfl, by decide +kernel, by decide +kernel⟩
theorem ok_two_worth {f : Addr} {fd : FuncData} (F : Fun K "two_worth" "two_worth" s_two_worth f fd) (t : Tx P K mg C fI a_UNIT)  : FnG P w K mg base 1 f fd ["two", "x", "y"] m_two_worth := by
  refine fnG_of (k := 0) F sc_two_worth rfl rfl (by decide) fun cdv A outer s H E hr hgd => ?_
  have nd := sc_two_worth.nd
  have tk : Takes (cxOf (L2.CX P w) P w K mg base ["two", "x", "y"] "two_worth" (defScope s_two_worth) f cdv A outer s H E) (WXof E) := takes_of rfl rfl rfl rfl
  have po : PassesOwn (model (cxOf (L2.CX P w) P w K mg base ["two", "x", "y"] "two_worth" (defScope s_two_worth) f cdv A outer s H E).prog (cxOf (L2.CX P w) P w K mg base ["two", "x", "y"] "two_worth" (defScope s_two_worth) f cdv A outer s H E).w) (cxOf (L2.CX P w) P w K mg base ["two", "x", "y"] "two_worth" (defScope s_two_worth) f cdv A outer s H E).A (cxOf (L2.CX P w) P w K mg base ["two", "x", "y"] "two_worth" (defScope s_two_worth) f cdv A outer s H E).env (cxOf (L2.CX P w) P w K mg base ["two", "x", "y"] "two_worth" (defScope s_two_worth) f cdv A outer s H E).xe := passes_of rfl
  refine ess_one ?_
  · exact (es_ret (o_add (o_add (o_mul (o_mul (ev_ix (vr 0) ev_int) (vr 1)) (vr 1)) (o_mul (o_mul (ev_ix (vr 0) ev_int) (vr 1)) (vr 2))) (o_mul (o_mul (ev_ix (vr 0) ev_int) (vr 2)) (vr 2))))
abbrev s_two_changed : Stmt := top 23
theorem sc_two_changed : FnScope ["two", "rows", "p", "q", "r", "s", "middle"] ["two", "rows"] (defScope s_two_changed) := ⟨rfl, rfl, rfl, by decide +kernel, rfl, by decide +kernel, by decide +kernel⟩
theorem ok_two_changed {f : Addr} {fd : FuncData} (F : Fun K "two_changed" "two_changed" s_two_changed f fd) (t : Tx P K mg C fI a_UNIT) (c_two_worth : CalG P w K mg base 1 "two_worth" m_two_worth) : FnG P w K mg base 2 f fd ["two", "rows"] m_two_changed := by
  refine fnG_of (k := 1) F sc_two_changed rfl rfl (by decide) fun cdv A outer s H E hr hgd => ?_
  have nd := sc_two_changed.nd
  have tk : Takes (cxOf (L2.CX P w) P w K mg base ["two", "rows", "p", "q", "r", "s", "middle"] "two_changed" (defScope s_two_changed) f cdv A outer s H E) (WXof E) := takes_of rfl rfl rfl rfl
  have po : PassesOwn (model (cxOf (L2.CX P w) P w K mg base ["two", "rows", "p", "q", "r", "s", "middle"] "two_changed" (defScope s_two_changed) f cdv A outer s H E).prog (cxOf (L2.CX P w) P w K mg base ["two", "rows", "p", "q", "r", "s", "middle"] "two_changed" (defScope s_two_changed) f cdv A outer s H E).w) (cxOf (L2.CX P w) P w K mg base ["two", "rows", "p", "q", "r", "s", "middle"] "two_changed" (defScope s_two_changed) f cdv A outer s H E).A (cxOf (L2.CX P w) P w K mg base ["two", "rows", "p", "q", "r", "s", "middle"] "two_changed" (defScope s_two_changed) f cdv A outer s H E).env (cxOf (L2.CX P w) P w K mg base ["two", "rows", "p", "q", "r", "s", "middle"] "two_changed" (defScope s_two_changed) f cdv A outer s H E).xe := passes_of rfl
  refine ess_cons ?_ (ess_cons ?_ (ess_one ?_))
  · exact (es_asg (vr 1) (eg_tup rfl (egs_cons (eg_tup rfl (egs_cons (eg_name nd rfl (by first | exact .inl rfl | exact .inr rfl)) (egs_cons (eg_name nd rfl (by first | exact .inl rfl | exact .inr rfl)) egs_nil))) (egs_cons (eg_tup rfl (egs_cons (eg_name nd rfl (by first | exact .inl rfl | exact .inr rfl)) (egs_cons (eg_name nd rfl (by first | exact .inl rfl | exact .inr rfl)) egs_nil))) egs_nil))))
  · exact (es_set nd rfl (by first | exact .inl rfl | exact .inr rfl) (o_add (o_add (o_mul (o_mul (o_mul ev_int (ev_ix (vr 0) ev_int)) (vr 2)) (vr 4)) (o_mul (ev_ix (vr 0) ev_int) (o_add (o_mul (vr 2) (vr 5)) (o_mul (vr 3) (vr 4))))) (o_mul (o_mul (o_mul ev_int (ev_ix (vr 0) ev_int)) (vr 3)) (vr 5))))
  · exact (es_ret (ev_tup (ea_cons (ev_cl c_two_worth hr (by decide) hgd tk (ea_cons (vr 0) (ea_cons (vr 2) (ea_cons (vr 3) ea_nil)))) (ea_cons (vr 6) (ea_cons (ev_cl c_two_worth hr (by decide) hgd tk (ea_cons (vr 0) (ea_cons (vr 4) (ea_cons (vr 5) ea_nil)))) ea_nil)))))
abbrev s_is_two_reduced : Stmt := top 24
theorem sc_is_two_reduced : FnScope ["two", "a", "b", "c"] ["two"] (defScope s_is_two_reduced) := ⟨rfl, rfl, rfl, by decide +kernel, rfl, by decide +kernel, by decide +kernel⟩
theorem ok_is_two_reduced {f : Addr} {fd : FuncData} (F : Fun K "is_two_reduced" "is_two_reduced" s_is_two_reduced f fd) (t : Tx P K mg C fI a_UNIT)  : FnG P w K mg base 1 f fd ["two"] m_is_two_reduced := by
  refine fnG_of (k := 0) F sc_is_two_reduced rfl rfl (by decide) fun cdv A outer s H E hr hgd => ?_
  have nd := sc_is_two_reduced.nd
  have tk : Takes (cxOf (L2.CX P w) P w K mg base ["two", "a", "b", "c"] "is_two_reduced" (defScope s_is_two_reduced) f cdv A outer s H E) (WXof E) := takes_of rfl rfl rfl rfl
  have po : PassesOwn (model (cxOf (L2.CX P w) P w K mg base ["two", "a", "b", "c"] "is_two_reduced" (defScope s_is_two_reduced) f cdv A outer s H E).prog (cxOf (L2.CX P w) P w K mg base ["two", "a", "b", "c"] "is_two_reduced" (defScope s_is_two_reduced) f cdv A outer s H E).w) (cxOf (L2.CX P w) P w K mg base ["two", "a", "b", "c"] "is_two_reduced" (defScope s_is_two_reduced) f cdv A outer s H E).A (cxOf (L2.CX P w) P w K mg base ["two", "a", "b", "c"] "is_two_reduced" (defScope s_is_two_reduced) f cdv A outer s H E).env (cxOf (L2.CX P w) P w K mg base ["two", "a", "b", "c"] "is_two_reduced" (defScope s_is_two_reduced) f cdv A outer s H E).xe := passes_of rfl
  refine ess_cons ?_ (ess_one ?_)
  · exact (es_asg (vr 0) (eg_tup rfl (egs_cons (eg_name nd rfl (by first | exact .inl rfl | exact .inr rfl)) (egs_cons (eg_name nd rfl (by first | exact .inl rfl | exact .inr rfl)) (egs_cons (eg_name nd rfl (by first | exact .inl rfl | exact .inr rfl)) egs_nil)))))
  · exact (es_ret (ev_and (ev_ch3 op_lt opd_lt op_le opd_le op_le opd_le (o_sub ev_int (vr 1)) (vr 2) (vr 1) (vr 3)) (ev_one (ev_not (ev_and (q_eq hr (vr 1) (vr 3)) (ev_one (q_lt (vr 2) ev_int)))))))
abbrev s_two_reduced : Stmt := top 25
theorem sc_two_reduced : FnScope ["two", "rows", "a", "b", "c", "step"] ["two"] (defScope s_two_reduced) := ⟨rfl, rfl, rfl, by decide +kernel, rfl, by decide +kernel, by decide +kernel⟩
theorem ok_two_reduced {f : Addr} {fd : FuncData} (F : Fun K "two_reduced" "two_reduced" s_two_reduced f fd) (t : Tx P K mg C fI a_UNIT) (c_product : CalG P w K mg base 3 "product" m_product) (c_check_two : CalG P w K mg base 4 "check_two" m_check_two) (c_two_changed : CalG P w K mg base 2 "two_changed" m_two_changed) (c_is_two_reduced : CalG P w K mg base 1 "is_two_reduced" m_is_two_reduced) : FnG P w K mg base 5 f fd ["two"] m_two_reduced := by
  refine fnG_of (k := 4) F sc_two_reduced rfl rfl (by decide) fun cdv A outer s H E hr hgd => ?_
  have nd := sc_two_reduced.nd
  have tk : Takes (cxOf (L2.CX P w) P w K mg base ["two", "rows", "a", "b", "c", "step"] "two_reduced" (defScope s_two_reduced) f cdv A outer s H E) (WXof E) := takes_of rfl rfl rfl rfl
  have po : PassesOwn (model (cxOf (L2.CX P w) P w K mg base ["two", "rows", "a", "b", "c", "step"] "two_reduced" (defScope s_two_reduced) f cdv A outer s H E).prog (cxOf (L2.CX P w) P w K mg base ["two", "rows", "a", "b", "c", "step"] "two_reduced" (defScope s_two_reduced) f cdv A outer s H E).w) (cxOf (L2.CX P w) P w K mg base ["two", "rows", "a", "b", "c", "step"] "two_reduced" (defScope s_two_reduced) f cdv A outer s H E).A (cxOf (L2.CX P w) P w K mg base ["two", "rows", "a", "b", "c", "step"] "two_reduced" (defScope s_two_reduced) f cdv A outer s H E).env (cxOf (L2.CX P w) P w K mg base ["two", "rows", "a", "b", "c", "step"] "two_reduced" (defScope s_two_reduced) f cdv A outer s H E).xe := passes_of rfl
  refine ess_cons ?_ (ess_cons ?_ (ess_cons ?_ (ess_one ?_)))
  · exact (es_expr (ev_cl c_check_two hr (by decide) hgd tk (ea_cons (vr 0) ea_nil)))
  · exact (es_set nd rfl (by first | exact .inl rfl | exact .inr rfl) (ev_gl t.g_UNIT t.k_UNIT))
  · exact (es_while po (et_not (et_tru (ev_cl c_is_two_reduced hr (by decide) hgd tk (ea_cons (vr 0) ea_nil)))) (ess_cons (es_asg (vr 0) (eg_tup rfl (egs_cons (eg_name nd rfl (by first | exact .inl rfl | exact .inr rfl)) (egs_cons (eg_name nd rfl (by first | exact .inl rfl | exact .inr rfl)) (egs_cons (eg_name nd rfl (by first | exact .inl rfl | exact .inr rfl)) egs_nil))))) (ess_cons (es_if (et_W (ew_or (t_gt (vr 2) (vr 4)) (ew_or1 (et_W (ew_and (t_eq hr (vr 2) (vr 4)) (ew_and1 (t_lt (vr 3) ev_int))))))) (ess_one (es_set nd rfl (by first | exact .inl rfl | exact .inr rfl) (ev_tup (ea_cons (ev_tup (ea_cons ev_int (ea_cons ev_int ea_nil))) (ea_cons (ev_tup (ea_cons (o_neg ev_int) (ea_cons ev_int ea_nil))) ea_nil))))) (ess_one (es_set nd rfl (by first | exact .inl rfl | exact .inr rfl) (ev_tup (ea_cons (ev_tup (ea_cons ev_int (ea_cons ev_int ea_nil))) (ea_cons (ev_tup (ea_cons (o_fdiv (o_sub (vr 2) (vr 3)) (o_mul ev_int (vr 2))) (ea_cons ev_int ea_nil))) ea_nil)))))) (ess_cons (es_set nd rfl (by first | exact .inl rfl | exact .inr rfl) (ev_cl c_product hr (by decide) hgd tk (ea_cons (vr 5) (ea_cons (vr 1) ea_nil)))) (ess_one (es_set nd rfl (by first | exact .inl rfl | exact .inr rfl) (ev_cl c_two_changed hr (by decide) hgd tk (ea_cons (vr 0) (ea_cons (vr 5) ea_nil)))))))))
  · exact (es_ret (ev_tup (ea_cons (vr 0) (ea_cons (vr 1) ea_nil))))
abbrev s_check_gap : Stmt := top 26
theorem sc_check_gap : FnScope ["number"] ["number"] (defScope s_check_gap) := ⟨rfl, rfl, rfl, by decide +kernel, rfl, by decide +kernel, by decide +kernel⟩
theorem ok_check_gap {f : Addr} {fd : FuncData} (F : Fun K "check_gap" "check_gap" s_check_gap f fd) (t : Tx P K mg C fI a_UNIT)  : FnG P w K mg base 1 f fd ["number"] m_check_gap := by
  refine fnG_of (k := 0) F sc_check_gap rfl rfl (by decide) fun cdv A outer s H E hr hgd => ?_
  have nd := sc_check_gap.nd
  have tk : Takes (cxOf (L2.CX P w) P w K mg base ["number"] "check_gap" (defScope s_check_gap) f cdv A outer s H E) (WXof E) := takes_of rfl rfl rfl rfl
  have po : PassesOwn (model (cxOf (L2.CX P w) P w K mg base ["number"] "check_gap" (defScope s_check_gap) f cdv A outer s H E).prog (cxOf (L2.CX P w) P w K mg base ["number"] "check_gap" (defScope s_check_gap) f cdv A outer s H E).w) (cxOf (L2.CX P w) P w K mg base ["number"] "check_gap" (defScope s_check_gap) f cdv A outer s H E).A (cxOf (L2.CX P w) P w K mg base ["number"] "check_gap" (defScope s_check_gap) f cdv A outer s H E).env (cxOf (L2.CX P w) P w K mg base ["number"] "check_gap" (defScope s_check_gap) f cdv A outer s H E).xe := passes_of rfl
  refine ess_one ?_
  · exact (es_if (et_W (ew_or (et_not (et_tru (b_isinstance t.z_isinstance (ea_cons (vr 0) (ea_cons (ty_int t.z_int) ea_nil))))) (ew_or (et_tru (b_isinstance t.z_isinstance (ea_cons (vr 0) (ea_cons (ty_bool t.z_bool) ea_nil)))) (ew_or (t_ge (vr 0) ev_int) (ew_or1 (t_gt (o_mod (vr 0) ev_int) ev_int)))))) (ess_one (es_raise rfl t.x_BadTable hr tk (ea_cons ev_str ea_nil) (by rfl))) ess_nil)
abbrev s_reduced_twos : Stmt := top 27
theorem sc_reduced_twos : FnScope ["number", "found", "a", "b", "two"] ["number"] (defScope s_reduced_twos) := ⟨rfl, rfl, rfl, by decide +kernel, rfl, by decide +kernel, by decide +kernel⟩
theorem ok_reduced_twos {f : Addr} {fd : FuncData} (F : Fun K "reduced_twos" "reduced_twos" s_reduced_twos f fd) (t : Tx P K mg C fI a_UNIT) (c_root : CalG P w K mg base 1 "root" m_root) (c_is_two_reduced : CalG P w K mg base 1 "is_two_reduced" m_is_two_reduced) (c_check_gap : CalG P w K mg base 1 "check_gap" m_check_gap) : FnG P w K mg base 2 f fd ["number"] m_reduced_twos := by
  refine fnG_of (k := 1) F sc_reduced_twos rfl rfl (by decide) fun cdv A outer s H E hr hgd => ?_
  have nd := sc_reduced_twos.nd
  have tk : Takes (cxOf (L2.CX P w) P w K mg base ["number", "found", "a", "b", "two"] "reduced_twos" (defScope s_reduced_twos) f cdv A outer s H E) (WXof E) := takes_of rfl rfl rfl rfl
  have po : PassesOwn (model (cxOf (L2.CX P w) P w K mg base ["number", "found", "a", "b", "two"] "reduced_twos" (defScope s_reduced_twos) f cdv A outer s H E).prog (cxOf (L2.CX P w) P w K mg base ["number", "found", "a", "b", "two"] "reduced_twos" (defScope s_reduced_twos) f cdv A outer s H E).w) (cxOf (L2.CX P w) P w K mg base ["number", "found", "a", "b", "two"] "reduced_twos" (defScope s_reduced_twos) f cdv A outer s H E).A (cxOf (L2.CX P w) P w K mg base ["number", "found", "a", "b", "two"] "reduced_twos" (defScope s_reduced_twos) f cdv A outer s H E).env (cxOf (L2.CX P w) P w K mg base ["number", "found", "a", "b", "two"] "reduced_twos" (defScope s_reduced_twos) f cdv A outer s H E).xe := passes_of rfl
  refine ess_cons ?_ (ess_cons ?_ (ess_cons ?_ (ess_one ?_)))
  · exact (es_expr (ev_cl c_check_gap hr (by decide) hgd tk (ea_cons (vr 0) ea_nil)))
  · exact (es_set nd rfl (by first | exact .inl rfl | exact .inr rfl) (ev_cel ea_nil))
  · exact (es_for po rfl (ei_rng2 (by rfl) t.z_range (ea_cons ev_int (ea_cons (o_add (ev_cl c_root hr (by decide) hgd tk (ea_cons (o_fdiv (o_sub ev_int (vr 0)) ev_int) ea_nil)) ev_int) ea_nil))) (eg_name nd rfl (by first | exact .inl rfl | exact .inr rfl)) (ess_one (es_for po rfl (ei_rng2 (by rfl) t.z_range (ea_cons (o_sub ev_int (vr 2)) (ea_cons (o_add (vr 2) ev_int) ea_nil))) (eg_name nd rfl (by first | exact .inl rfl | exact .inr rfl)) (ess_one (es_if (t_eq hr (o_mod (o_sub (o_mul (vr 3) (vr 3)) (vr 0)) (o_mul ev_int (vr 2))) ev_int) (ess_cons (es_set nd rfl (by first | exact .inl rfl | exact .inr rfl) (ev_tup (ea_cons (vr 2) (ea_cons (vr 3) (ea_cons (o_fdiv (o_sub (o_mul (vr 3) (vr 3)) (vr 0)) (o_mul ev_int (vr 2))) ea_nil))))) (ess_one (es_if (et_tru (ev_cl c_is_two_reduced hr (by decide) hgd tk (ea_cons (vr 4) ea_nil))) (ess_one (es_expr (ev_app (vr 1) (vr 4)))) ess_nil))) ess_nil)))))
  · exact (es_ret (vr 1))
abbrev s_two_classes : Stmt := top 28
theorem sc_two_classes : FnScope ["number", "two"] ["number"] (defScope s_two_classes) := ⟨rfl, rfl, rfl, by decide +kernel, rfl, by decide +kernel, by decide +kernel⟩
theorem ok_two_classes {f : Addr} {fd : FuncData} (F : Fun K "two_classes" "two_classes" s_two_classes f fd) (t : Tx P K mg C fI a_UNIT) (c_divisor_of : CalG P w K mg base 2 "divisor_of" m_divisor_of) (c_reduced_twos : CalG P w K mg base 2 "reduced_twos" m_reduced_twos) : FnG P w K mg base 3 f fd ["number"] m_two_classes := by
  refine fnG_of (k := 2) F sc_two_classes rfl rfl (by decide) fun cdv A outer s H E hr hgd => ?_
  have nd := sc_two_classes.nd
  have tk : Takes (cxOf (L2.CX P w) P w K mg base ["number", "two"] "two_classes" (defScope s_two_classes) f cdv A outer s H E) (WXof E) := takes_of rfl rfl rfl rfl
  have po : PassesOwn (model (cxOf (L2.CX P w) P w K mg base ["number", "two"] "two_classes" (defScope s_two_classes) f cdv A outer s H E).prog (cxOf (L2.CX P w) P w K mg base ["number", "two"] "two_classes" (defScope s_two_classes) f cdv A outer s H E).w) (cxOf (L2.CX P w) P w K mg base ["number", "two"] "two_classes" (defScope s_two_classes) f cdv A outer s H E).A (cxOf (L2.CX P w) P w K mg base ["number", "two"] "two_classes" (defScope s_two_classes) f cdv A outer s H E).env (cxOf (L2.CX P w) P w K mg base ["number", "two"] "two_classes" (defScope s_two_classes) f cdv A outer s H E).xe := passes_of rfl
  refine ess_one ?_
  · exact (es_ret (b_tuple t.z_tuple (ea_cons (ev_lc (own := [("two", 1)]) rfl nd (ei_seq (ev_cl c_reduced_twos hr (by decide) hgd tk (ea_cons (vr 0) ea_nil))) (blkOk_by (by first | rfl | kernel_rfl)) (by decide) (fun _ _ _ _ _ => (eg_name nd rfl (by first | exact .inl rfl | exact .inr rfl))) (fun _ _ _ _ _ => (ets_one (t_eq hr (ev_cl c_divisor_of hr (by decide) hgd takes0 (ea_cons (vr 1) ea_nil)) ev_int))) (fun _ _ _ _ _ => (vr 1))) ea_nil)))
abbrev s_weighted_classes : Stmt := top 29
theorem sc_weighted_classes : FnScope ["number", "found", "a", "b", "c"] ["number"] (defScope s_weighted_classes) := ⟨rfl, rfl, rfl, by decide +kernel, rfl, by decide +kernel, by decide +kernel⟩
theorem ok_weighted_classes {f : Addr} {fd : FuncData} (F : Fun K "weighted_classes" "weighted_classes" s_weighted_classes f fd) (t : Tx P K mg C fI a_UNIT) (c_fraction : CalG P w K mg base 2 "fraction" m_fraction) (c_reduced_twos : CalG P w K mg base 2 "reduced_twos" m_reduced_twos) : FnG P w K mg base 3 f fd ["number"] m_weighted_classes := by
  refine fnG_of (k := 2) F sc_weighted_classes rfl rfl (by decide) fun cdv A outer s H E hr hgd => ?_
  have nd := sc_weighted_classes.nd
  have tk : Takes (cxOf (L2.CX P w) P w K mg base ["number", "found", "a", "b", "c"] "weighted_classes" (defScope s_weighted_classes) f cdv A outer s H E) (WXof E) := takes_of rfl rfl rfl rfl
  have po : PassesOwn (model (cxOf (L2.CX P w) P w K mg base ["number", "found", "a", "b", "c"] "weighted_classes" (defScope s_weighted_classes) f cdv A outer s H E).prog (cxOf (L2.CX P w) P w K mg base ["number", "found", "a", "b", "c"] "weighted_classes" (defScope s_weighted_classes) f cdv A outer s H E).w) (cxOf (L2.CX P w) P w K mg base ["number", "found", "a", "b", "c"] "weighted_classes" (defScope s_weighted_classes) f cdv A outer s H E).A (cxOf (L2.CX P w) P w K mg base ["number", "found", "a", "b", "c"] "weighted_classes" (defScope s_weighted_classes) f cdv A outer s H E).env (cxOf (L2.CX P w) P w K mg base ["number", "found", "a", "b", "c"] "weighted_classes" (defScope s_weighted_classes) f cdv A outer s H E).xe := passes_of rfl
  refine ess_cons ?_ (ess_cons ?_ (ess_one ?_))
  · exact (es_set nd rfl (by first | exact .inl rfl | exact .inr rfl) ev_int)
  · exact (es_for po rfl (ei_seq (ev_cl c_reduced_twos hr (by decide) hgd tk (ea_cons (vr 0) ea_nil))) (eg_tup rfl (egs_cons (eg_name nd rfl (by first | exact .inl rfl | exact .inr rfl)) (egs_cons (eg_name nd rfl (by first | exact .inl rfl | exact .inr rfl)) (egs_cons (eg_name nd rfl (by first | exact .inl rfl | exact .inr rfl)) egs_nil)))) (ess_one (es_aug nd rfl (by first | exact .inl rfl | exact .inr rfl) (ev_if (et_W (ew_and (t_eq hr (vr 3) ev_int) (ew_and1 (t_eq hr (vr 2) (vr 4))))) ev_int (ev_if (et_ch2 (op_eqA (hu64 hr)) opd_eq (op_eqA (hu64 hr)) opd_eq (vr 2) (vr 3) (vr 4)) ev_int ev_int)) iop_add opd_add)))
  · exact (es_ret (ev_cl c_fraction hr (by decide) hgd tk (ea_cons (vr 1) (ea_cons ev_int ea_nil))))
abbrev s_unit_two : Stmt := top 30
theorem sc_unit_two : FnScope ["number", "odd"] ["number"] (defScope s_unit_two) := ⟨rfl, rfl, rfl, by decide +kernel, rfl, by decide +kernel, by decide +kernel⟩
theorem ok_unit_two {f : Addr} {fd : FuncData} (F : Fun K "unit_two" "unit_two" s_unit_two f fd) (t : Tx P K mg C fI a_UNIT) (c_check_gap : CalG P w K mg base 1 "check_gap" m_check_gap) : FnG P w K mg base 2 f fd ["number"] m_unit_two := by
  refine fnG_of (k := 1) F sc_unit_two rfl rfl (by decide) fun cdv A outer s H E hr hgd => ?_
  have nd := sc_unit_two.nd
  have tk : Takes (cxOf (L2.CX P w) P w K mg base ["number", "odd"] "unit_two" (defScope s_unit_two) f cdv A outer s H E) (WXof E) := takes_of rfl rfl rfl rfl
  have po : PassesOwn (model (cxOf (L2.CX P w) P w K mg base ["number", "odd"] "unit_two" (defScope s_unit_two) f cdv A outer s H E).prog (cxOf (L2.CX P w) P w K mg base ["number", "odd"] "unit_two" (defScope s_unit_two) f cdv A outer s H E).w) (cxOf (L2.CX P w) P w K mg base ["number", "odd"] "unit_two" (defScope s_unit_two) f cdv A outer s H E).A (cxOf (L2.CX P w) P w K mg base ["number", "odd"] "unit_two" (defScope s_unit_two) f cdv A outer s H E).env (cxOf (L2.CX P w) P w K mg base ["number", "odd"] "unit_two" (defScope s_unit_two) f cdv A outer s H E).xe := passes_of rfl
  refine ess_cons ?_ (ess_cons ?_ (ess_one ?_))
  · exact (es_expr (ev_cl c_check_gap hr (by decide) hgd tk (ea_cons (vr 0) ea_nil)))
  · exact (es_set nd rfl (by first | exact .inl rfl | exact .inr rfl) (o_mod (vr 0) ev_int))
  · exact (es_ret (ev_tup (ea_cons ev_int (ea_cons (vr 1) (ea_cons (o_fdiv (o_sub (vr 1) (vr 0)) ev_int) ea_nil)))))
abbrev s_opposite_two : Stmt := top 31
theorem sc_opposite_two : FnScope ["two"] ["two"] (defScope s_opposite_two) := ⟨rfl, rfl, rfl, by decide +kernel, rfl, by decide +kernel, by decide +kernel⟩
theorem ok_opposite_two {f : Addr} {fd : FuncData} (F : Fun K "opposite_two" "opposite_two" s_opposite_two f fd) (t : Tx P K mg C fI a_UNIT) (c_check_two : CalG P w K mg base 4 "check_two" m_check_two) (c_two_reduced : CalG P w K mg base 5 "two_reduced" m_two_reduced) : FnG P w K mg base 6 f fd ["two"] m_opposite_two := by
  refine fnG_of (k := 5) F sc_opposite_two rfl rfl (by decide) fun cdv A outer s H E hr hgd => ?_
  have nd := sc_opposite_two.nd
  have tk : Takes (cxOf (L2.CX P w) P w K mg base ["two"] "opposite_two" (defScope s_opposite_two) f cdv A outer s H E) (WXof E) := takes_of rfl rfl rfl rfl
  have po : PassesOwn (model (cxOf (L2.CX P w) P w K mg base ["two"] "opposite_two" (defScope s_opposite_two) f cdv A outer s H E).prog (cxOf (L2.CX P w) P w K mg base ["two"] "opposite_two" (defScope s_opposite_two) f cdv A outer s H E).w) (cxOf (L2.CX P w) P w K mg base ["two"] "opposite_two" (defScope s_opposite_two) f cdv A outer s H E).A (cxOf (L2.CX P w) P w K mg base ["two"] "opposite_two" (defScope s_opposite_two) f cdv A outer s H E).env (cxOf (L2.CX P w) P w K mg base ["two"] "opposite_two" (defScope s_opposite_two) f cdv A outer s H E).xe := passes_of rfl
  refine ess_cons ?_ (ess_one ?_)
  · exact (es_expr (ev_cl c_check_two hr (by decide) hgd tk (ea_cons (vr 0) ea_nil)))
  · exact (es_ret (ev_ix (ev_cl c_two_reduced hr (by decide) hgd tk (ea_cons (ev_tup (ea_cons (ev_ix (vr 0) ev_int) (ea_cons (o_sub ev_int (ev_ix (vr 0) ev_int)) (ea_cons (ev_ix (vr 0) ev_int) ea_nil)))) ea_nil)) ev_int))
abbrev s_l_cell : Stmt := top 33
theorem sc_l_cell : FnScope ["script", "k"] ["script", "k"] (defScope s_l_cell) := ⟨rfl, rfl, rfl, by decide +kernel, rfl, by decide +kernel, by decide +kernel⟩
theorem ok_l_cell {f : Addr} {fd : FuncData} (F : Fun K "_law_cell" "_law_cell" s_l_cell f fd) (t : Tx P K mg C fI a_UNIT)  : FnG P w K mg base 1 f fd ["script", "k"] m_l_cell := by
  refine fnG_of (k := 0) F sc_l_cell rfl rfl (by decide) fun cdv A outer s H E hr hgd => ?_
  have nd := sc_l_cell.nd
  have tk : Takes (cxOf (L2.CX P w) P w K mg base ["script", "k"] "_law_cell" (defScope s_l_cell) f cdv A outer s H E) (WXof E) := takes_of rfl rfl rfl rfl
  have po : PassesOwn (model (cxOf (L2.CX P w) P w K mg base ["script", "k"] "_law_cell" (defScope s_l_cell) f cdv A outer s H E).prog (cxOf (L2.CX P w) P w K mg base ["script", "k"] "_law_cell" (defScope s_l_cell) f cdv A outer s H E).w) (cxOf (L2.CX P w) P w K mg base ["script", "k"] "_law_cell" (defScope s_l_cell) f cdv A outer s H E).A (cxOf (L2.CX P w) P w K mg base ["script", "k"] "_law_cell" (defScope s_l_cell) f cdv A outer s H E).env (cxOf (L2.CX P w) P w K mg base ["script", "k"] "_law_cell" (defScope s_l_cell) f cdv A outer s H E).xe := passes_of rfl
  refine ess_cons ?_ (ess_one ?_)
  · exact (es_if (t_lt (vr 1) (b_len t.z_len (ea_cons (vr 0) ea_nil))) (ess_one (es_ret (ev_ix (vr 0) (vr 1)))) ess_nil)
  · exact (es_ret ev_int)
abbrev s_l_digits : Stmt := top 34
theorem sc_l_digits : FnScope ["script", "first", "last", "found", "k", "c", "n", "turn", "s"] ["script", "first", "last"] (defScope s_l_digits) := ⟨rfl, rfl, rfl, by decide +kernel, rfl, by decide +kernel, by decide +kernel⟩
theorem ok_l_digits {f : Addr} {fd : FuncData} (F : Fun K "_law_digits" "_law_digits" s_l_digits f fd) (t : Tx P K mg C fI a_UNIT) (c_l_cell : CalG P w K mg base 1 "_law_cell" m_l_cell) : FnG P w K mg base 2 f fd ["script", "first", "last"] m_l_digits := by
  refine fnG_of (k := 1) F sc_l_digits rfl rfl (by decide) fun cdv A outer s H E hr hgd => ?_
  have nd := sc_l_digits.nd
  have tk : Takes (cxOf (L2.CX P w) P w K mg base ["script", "first", "last", "found", "k", "c", "n", "turn", "s"] "_law_digits" (defScope s_l_digits) f cdv A outer s H E) (WXof E) := takes_of rfl rfl rfl rfl
  have po : PassesOwn (model (cxOf (L2.CX P w) P w K mg base ["script", "first", "last", "found", "k", "c", "n", "turn", "s"] "_law_digits" (defScope s_l_digits) f cdv A outer s H E).prog (cxOf (L2.CX P w) P w K mg base ["script", "first", "last", "found", "k", "c", "n", "turn", "s"] "_law_digits" (defScope s_l_digits) f cdv A outer s H E).w) (cxOf (L2.CX P w) P w K mg base ["script", "first", "last", "found", "k", "c", "n", "turn", "s"] "_law_digits" (defScope s_l_digits) f cdv A outer s H E).A (cxOf (L2.CX P w) P w K mg base ["script", "first", "last", "found", "k", "c", "n", "turn", "s"] "_law_digits" (defScope s_l_digits) f cdv A outer s H E).env (cxOf (L2.CX P w) P w K mg base ["script", "first", "last", "found", "k", "c", "n", "turn", "s"] "_law_digits" (defScope s_l_digits) f cdv A outer s H E).xe := passes_of rfl
  refine ess_cons ?_ (ess_cons ?_ (ess_one ?_))
  · exact (es_set nd rfl (by first | exact .inl rfl | exact .inr rfl) (ev_cel ea_nil))
  · exact (es_for po rfl (ei_rng2 (by rfl) t.z_range (ea_cons (vr 1) (ea_cons (vr 2) ea_nil))) (eg_name nd rfl (by first | exact .inl rfl | exact .inr rfl)) (ess_cons (es_set nd rfl (by first | exact .inl rfl | exact .inr rfl) (ev_cl c_l_cell hr (by decide) hgd tk (ea_cons (vr 0) (ea_cons (vr 4) ea_nil)))) (ess_cons (es_if (t_lt (vr 5) ev_int) (ess_one (es_set nd rfl (by first | exact .inl rfl | exact .inr rfl) (o_sub ev_int (o_mul (vr 5) ev_int)))) ess_nil) (ess_one (es_if (t_ge (vr 5) (o_pow ev_int ev_int)) (ess_cons (es_set nd rfl (by first | exact .inl rfl | exact .inr rfl) (vr 5)) (ess_one (es_for po rfl (ei_rng1 (by rfl) t.z_range (ea_cons ev_int ea_nil)) (eg_name nd rfl (by first | exact .inl rfl | exact .inr rfl)) (ess_one (es_if (t_gt (vr 6) ev_int) (ess_cons (es_expr (ev_app (vr 3) (o_mod (vr 6) ev_int))) (ess_one (es_set nd rfl (by first | exact .inl rfl | exact .inr rfl) (o_fdiv (vr 6) ev_int)))) ess_nil))))) (ess_cons (es_set nd rfl (by first | exact .inl rfl | exact .inr rfl) (o_mod (o_add (o_add (o_mul (vr 5) ev_int) (o_mul (b_int t.z_int (ea_cons (o_add (vr 4) ev_int) ea_nil)) ev_int)) ev_int) ev_int)) (ess_one (es_for po rfl (ei_rng1 (by rfl) t.z_range (ea_cons ev_int ea_nil)) (eg_name nd rfl (by first | exact .inl rfl | exact .inr rfl)) (ess_cons (es_set nd rfl (by first | exact .inl rfl | exact .inr rfl) (o_mod (o_add (o_add (o_mul (vr 8) ev_int) (o_mul (vr 7) ev_int)) ev_int) ev_int)) (ess_one (es_expr (ev_app (vr 3) (o_mod (o_fdiv (vr 8) ev_int) ev_int)))))))))))))
  · exact (es_ret (vr 3))
abbrev s_l_draw : Stmt := top 35
theorem sc_l_draw : FnScope ["box", "m", "digits", "at"] ["box", "m"] (defScope s_l_draw) := ⟨rfl, rfl, rfl, by decide +kernel, rfl, by decide +kernel, by decide +kernel⟩
theorem ok_l_draw {f : Addr} {fd : FuncData} (F : Fun K "_law_draw" "_law_draw" s_l_draw f fd) (t : Tx P K mg C fI a_UNIT)  : FnG P w K mg base 1 f fd ["box", "m"] m_l_draw := by
  refine fnG_of (k := 0) F sc_l_draw rfl rfl (by decide) fun cdv A outer s H E hr hgd => ?_
  have nd := sc_l_draw.nd
  have tk : Takes (cxOf (L2.CX P w) P w K mg base ["box", "m", "digits", "at"] "_law_draw" (defScope s_l_draw) f cdv A outer s H E) (WXof E) := takes_of rfl rfl rfl rfl
  have po : PassesOwn (model (cxOf (L2.CX P w) P w K mg base ["box", "m", "digits", "at"] "_law_draw" (defScope s_l_draw) f cdv A outer s H E).prog (cxOf (L2.CX P w) P w K mg base ["box", "m", "digits", "at"] "_law_draw" (defScope s_l_draw) f cdv A outer s H E).w) (cxOf (L2.CX P w) P w K mg base ["box", "m", "digits", "at"] "_law_draw" (defScope s_l_draw) f cdv A outer s H E).A (cxOf (L2.CX P w) P w K mg base ["box", "m", "digits", "at"] "_law_draw" (defScope s_l_draw) f cdv A outer s H E).env (cxOf (L2.CX P w) P w K mg base ["box", "m", "digits", "at"] "_law_draw" (defScope s_l_draw) f cdv A outer s H E).xe := passes_of rfl
  refine ess_cons ?_ (ess_cons ?_ (ess_cons ?_ (ess_one ?_)))
  · exact (es_asg (vr 0) (eg_tup rfl (egs_cons (eg_name nd rfl (by first | exact .inl rfl | exact .inr rfl)) (egs_cons (eg_name nd rfl (by first | exact .inl rfl | exact .inr rfl)) egs_nil))))
  · exact (es_asg (o_add (vr 3) ev_int) (eg_sub (vr 0) ev_int))
  · exact (es_if (t_lt (vr 3) (b_len t.z_len (ea_cons (vr 2) ea_nil))) (ess_one (es_ret (o_mod (ev_ix (vr 2) (vr 3)) (vr 1)))) ess_nil)
  · exact (es_ret (o_mod (o_add (o_add (o_add (o_mul (o_mul (vr 3) (vr 3)) ev_int) (o_mul (vr 3) ev_int)) (o_fdiv (vr 3) ev_int)) ev_int) (vr 1)))
abbrev s_l_pick : Stmt := top 36
theorem sc_l_pick : FnScope ["box", "rows"] ["box", "rows"] (defScope s_l_pick) := ⟨rfl, rfl, rfl, by decide +kernel, rfl, by decide +kernel, by decide +kernel⟩
theorem ok_l_pick {f : Addr} {fd : FuncData} (F : Fun K "_law_pick" "_law_pick" s_l_pick f fd) (t : Tx P K mg C fI a_UNIT) (c_l_draw : CalG P w K mg base 1 "_law_draw" m_l_draw) : FnG P w K mg base 2 f fd ["box", "rows"] m_l_pick := by
  refine fnG_of (k := 1) F sc_l_pick rfl rfl (by decide) fun cdv A outer s H E hr hgd => ?_
  have nd := sc_l_pick.nd
  have tk : Takes (cxOf (L2.CX P w) P w K mg base ["box", "rows"] "_law_pick" (defScope s_l_pick) f cdv A outer s H E) (WXof E) := takes_of rfl rfl rfl rfl
  have po : PassesOwn (model (cxOf (L2.CX P w) P w K mg base ["box", "rows"] "_law_pick" (defScope s_l_pick) f cdv A outer s H E).prog (cxOf (L2.CX P w) P w K mg base ["box", "rows"] "_law_pick" (defScope s_l_pick) f cdv A outer s H E).w) (cxOf (L2.CX P w) P w K mg base ["box", "rows"] "_law_pick" (defScope s_l_pick) f cdv A outer s H E).A (cxOf (L2.CX P w) P w K mg base ["box", "rows"] "_law_pick" (defScope s_l_pick) f cdv A outer s H E).env (cxOf (L2.CX P w) P w K mg base ["box", "rows"] "_law_pick" (defScope s_l_pick) f cdv A outer s H E).xe := passes_of rfl
  refine ess_one ?_
  · exact (es_ret (ev_ix (vr 1) (ev_cl c_l_draw hr (by decide) hgd tk (ea_cons (vr 0) (ea_cons (b_len t.z_len (ea_cons (vr 1) ea_nil)) ea_nil)))))
abbrev s_l_same : Stmt := top 37
theorem sc_l_same : FnScope ["one", "other"] ["one", "other"] (defScope s_l_same) := ⟨rfl, rfl, rfl, by decide +kernel, rfl, by decide +kernel, by decide +kernel⟩
theorem ok_l_same {f : Addr} {fd : FuncData} (F : Fun K "_law_same" "_law_same" s_l_same f fd) (t : Tx P K mg C fI a_UNIT)  : FnG P w K mg base 1 f fd ["one", "other"] m_l_same := by
  refine fnG_of (k := 0) F sc_l_same rfl rfl (by decide) fun cdv A outer s H E hr hgd => ?_
  have nd := sc_l_same.nd
  have tk : Takes (cxOf (L2.CX P w) P w K mg base ["one", "other"] "_law_same" (defScope s_l_same) f cdv A outer s H E) (WXof E) := takes_of rfl rfl rfl rfl
  have po : PassesOwn (model (cxOf (L2.CX P w) P w K mg base ["one", "other"] "_law_same" (defScope s_l_same) f cdv A outer s H E).prog (cxOf (L2.CX P w) P w K mg base ["one", "other"] "_law_same" (defScope s_l_same) f cdv A outer s H E).w) (cxOf (L2.CX P w) P w K mg base ["one", "other"] "_law_same" (defScope s_l_same) f cdv A outer s H E).A (cxOf (L2.CX P w) P w K mg base ["one", "other"] "_law_same" (defScope s_l_same) f cdv A outer s H E).env (cxOf (L2.CX P w) P w K mg base ["one", "other"] "_law_same" (defScope s_l_same) f cdv A outer s H E).xe := passes_of rfl
  refine ess_one ?_
  · exact (es_ret (q_eq hr (b_repr hr hgd t.z_repr (ea_cons (vr 0) ea_nil)) (b_repr hr hgd t.z_repr (ea_cons (vr 1) ea_nil))))
abbrev s_l_gcd : Stmt := top 38
theorem sc_l_gcd : FnScope ["one", "other"] ["one", "other"] (defScope s_l_gcd) := ⟨rfl, rfl, rfl, by decide +kernel, rfl, by decide +kernel, by decide +kernel⟩
theorem ok_l_gcd {f : Addr} {fd : FuncData} (F : Fun K "_law_gcd" "_law_gcd" s_l_gcd f fd) (t : Tx P K mg C fI a_UNIT)  : FnG P w K mg base 1 f fd ["one", "other"] m_l_gcd := by
  refine fnG_of (k := 0) F sc_l_gcd rfl rfl (by decide) fun cdv A outer s H E hr hgd => ?_
  have nd := sc_l_gcd.nd
  have tk : Takes (cxOf (L2.CX P w) P w K mg base ["one", "other"] "_law_gcd" (defScope s_l_gcd) f cdv A outer s H E) (WXof E) := takes_of rfl rfl rfl rfl
  have po : PassesOwn (model (cxOf (L2.CX P w) P w K mg base ["one", "other"] "_law_gcd" (defScope s_l_gcd) f cdv A outer s H E).prog (cxOf (L2.CX P w) P w K mg base ["one", "other"] "_law_gcd" (defScope s_l_gcd) f cdv A outer s H E).w) (cxOf (L2.CX P w) P w K mg base ["one", "other"] "_law_gcd" (defScope s_l_gcd) f cdv A outer s H E).A (cxOf (L2.CX P w) P w K mg base ["one", "other"] "_law_gcd" (defScope s_l_gcd) f cdv A outer s H E).env (cxOf (L2.CX P w) P w K mg base ["one", "other"] "_law_gcd" (defScope s_l_gcd) f cdv A outer s H E).xe := passes_of rfl
  refine ess_cons ?_ (ess_cons ?_ (ess_one ?_))
  · exact (es_par rfl nd rfl rfl (by decide) rfl rfl (ea_cons (b_abs t.z_abs (ea_cons (vr 0) ea_nil)) (ea_cons (b_abs t.z_abs (ea_cons (vr 1) ea_nil)) ea_nil)) (by rfl))
  · exact (es_while po (t_gt (vr 1) ev_int) (ess_one (es_par rfl nd rfl rfl (by decide) rfl rfl (ea_cons (vr 1) (ea_cons (o_mod (vr 0) (vr 1)) ea_nil)) (by rfl))))
  · exact (es_ret (vr 0))
abbrev s_l_fraction : Stmt := top 39
theorem sc_l_fraction : FnScope ["above", "below", "common"] ["above", "below"] (defScope s_l_fraction) := ⟨rfl, rfl, rfl, by decide +kernel, rfl, by decide +kernel, by decide +kernel⟩
theorem ok_l_fraction {f : Addr} {fd : FuncData} (F : Fun K "_law_fraction" "_law_fraction" s_l_fraction f fd) (t : Tx P K mg C fI a_UNIT) (c_l_gcd : CalG P w K mg base 1 "_law_gcd" m_l_gcd) : FnG P w K mg base 2 f fd ["above", "below"] m_l_fraction := by
  refine fnG_of (k := 1) F sc_l_fraction rfl rfl (by decide) fun cdv A outer s H E hr hgd => ?_
  have nd := sc_l_fraction.nd
  have tk : Takes (cxOf (L2.CX P w) P w K mg base ["above", "below", "common"] "_law_fraction" (defScope s_l_fraction) f cdv A outer s H E) (WXof E) := takes_of rfl rfl rfl rfl
  have po : PassesOwn (model (cxOf (L2.CX P w) P w K mg base ["above", "below", "common"] "_law_fraction" (defScope s_l_fraction) f cdv A outer s H E).prog (cxOf (L2.CX P w) P w K mg base ["above", "below", "common"] "_law_fraction" (defScope s_l_fraction) f cdv A outer s H E).w) (cxOf (L2.CX P w) P w K mg base ["above", "below", "common"] "_law_fraction" (defScope s_l_fraction) f cdv A outer s H E).A (cxOf (L2.CX P w) P w K mg base ["above", "below", "common"] "_law_fraction" (defScope s_l_fraction) f cdv A outer s H E).env (cxOf (L2.CX P w) P w K mg base ["above", "below", "common"] "_law_fraction" (defScope s_l_fraction) f cdv A outer s H E).xe := passes_of rfl
  refine ess_cons ?_ (ess_cons ?_ (ess_one ?_))
  · exact (es_set nd rfl (by first | exact .inl rfl | exact .inr rfl) (ev_cl c_l_gcd hr (by decide) hgd tk (ea_cons (vr 0) (ea_cons (vr 1) ea_nil))))
  · exact (es_if (t_lt (vr 1) ev_int) (ess_one (es_set nd rfl (by first | exact .inl rfl | exact .inr rfl) (o_sub ev_int (vr 2)))) ess_nil)
  · exact (es_ret (ev_tup (ea_cons (o_fdiv (vr 0) (vr 2)) (ea_cons (o_fdiv (vr 1) (vr 2)) ea_nil))))
abbrev s_l_add : Stmt := top 40
theorem sc_l_add : FnScope ["one", "other"] ["one", "other"] (defScope s_l_add) := ⟨rfl, rfl, rfl, by decide +kernel, rfl, by decide +kernel, by decide +kernel⟩
theorem ok_l_add {f : Addr} {fd : FuncData} (F : Fun K "_law_add" "_law_add" s_l_add f fd) (t : Tx P K mg C fI a_UNIT) (c_l_fraction : CalG P w K mg base 2 "_law_fraction" m_l_fraction) : FnG P w K mg base 3 f fd ["one", "other"] m_l_add := by
  refine fnG_of (k := 2) F sc_l_add rfl rfl (by decide) fun cdv A outer s H E hr hgd => ?_
  have nd := sc_l_add.nd
  have tk : Takes (cxOf (L2.CX P w) P w K mg base ["one", "other"] "_law_add" (defScope s_l_add) f cdv A outer s H E) (WXof E) := takes_of rfl rfl rfl rfl
  have po : PassesOwn (model (cxOf (L2.CX P w) P w K mg base ["one", "other"] "_law_add" (defScope s_l_add) f cdv A outer s H E).prog (cxOf (L2.CX P w) P w K mg base ["one", "other"] "_law_add" (defScope s_l_add) f cdv A outer s H E).w) (cxOf (L2.CX P w) P w K mg base ["one", "other"] "_law_add" (defScope s_l_add) f cdv A outer s H E).A (cxOf (L2.CX P w) P w K mg base ["one", "other"] "_law_add" (defScope s_l_add) f cdv A outer s H E).env (cxOf (L2.CX P w) P w K mg base ["one", "other"] "_law_add" (defScope s_l_add) f cdv A outer s H E).xe := passes_of rfl
  refine ess_one ?_
  · exact (es_ret (ev_cl c_l_fraction hr (by decide) hgd tk (ea_cons (o_add (o_mul (ev_ix (vr 0) ev_int) (ev_ix (vr 1) ev_int)) (o_mul (ev_ix (vr 1) ev_int) (ev_ix (vr 0) ev_int))) (ea_cons (o_mul (ev_ix (vr 0) ev_int) (ev_ix (vr 1) ev_int)) ea_nil))))
abbrev s_l_times : Stmt := top 41
theorem sc_l_times : FnScope ["one", "other"] ["one", "other"] (defScope s_l_times) := ⟨rfl, rfl, rfl, by decide +kernel, rfl, by decide +kernel, by decide +kernel⟩
theorem ok_l_times {f : Addr} {fd : FuncData} (F : Fun K "_law_times" "_law_times" s_l_times f fd) (t : Tx P K mg C fI a_UNIT) (c_l_fraction : CalG P w K mg base 2 "_law_fraction" m_l_fraction) : FnG P w K mg base 3 f fd ["one", "other"] m_l_times := by
  refine fnG_of (k := 2) F sc_l_times rfl rfl (by decide) fun cdv A outer s H E hr hgd => ?_
  have nd := sc_l_times.nd
  have tk : Takes (cxOf (L2.CX P w) P w K mg base ["one", "other"] "_law_times" (defScope s_l_times) f cdv A outer s H E) (WXof E) := takes_of rfl rfl rfl rfl
  have po : PassesOwn (model (cxOf (L2.CX P w) P w K mg base ["one", "other"] "_law_times" (defScope s_l_times) f cdv A outer s H E).prog (cxOf (L2.CX P w) P w K mg base ["one", "other"] "_law_times" (defScope s_l_times) f cdv A outer s H E).w) (cxOf (L2.CX P w) P w K mg base ["one", "other"] "_law_times" (defScope s_l_times) f cdv A outer s H E).A (cxOf (L2.CX P w) P w K mg base ["one", "other"] "_law_times" (defScope s_l_times) f cdv A outer s H E).env (cxOf (L2.CX P w) P w K mg base ["one", "other"] "_law_times" (defScope s_l_times) f cdv A outer s H E).xe := passes_of rfl
  refine ess_one ?_
  · exact (es_ret (ev_cl c_l_fraction hr (by decide) hgd tk (ea_cons (o_mul (ev_ix (vr 0) ev_int) (ev_ix (vr 1) ev_int)) (ea_cons (o_mul (ev_ix (vr 0) ev_int) (ev_ix (vr 1) ev_int)) ea_nil))))
abbrev s_l_dot : Stmt := top 42
theorem sc_l_dot : FnScope ["one", "other", "k"] ["one", "other"] (defScope s_l_dot) := ⟨rfl, rfl, rfl, by decide +kernel, rfl, by decide +kernel, by decide +kernel⟩
theorem ok_l_dot {f : Addr} {fd : FuncData} (F : Fun K "_law_dot" "_law_dot" s_l_dot f fd) (t : Tx P K mg C fI a_UNIT)  : FnG P w K mg base 1 f fd ["one", "other"] m_l_dot := by
  refine fnG_of (k := 0) F sc_l_dot rfl rfl (by decide) fun cdv A outer s H E hr hgd => ?_
  have nd := sc_l_dot.nd
  have tk : Takes (cxOf (L2.CX P w) P w K mg base ["one", "other", "k"] "_law_dot" (defScope s_l_dot) f cdv A outer s H E) (WXof E) := takes_of rfl rfl rfl rfl
  have po : PassesOwn (model (cxOf (L2.CX P w) P w K mg base ["one", "other", "k"] "_law_dot" (defScope s_l_dot) f cdv A outer s H E).prog (cxOf (L2.CX P w) P w K mg base ["one", "other", "k"] "_law_dot" (defScope s_l_dot) f cdv A outer s H E).w) (cxOf (L2.CX P w) P w K mg base ["one", "other", "k"] "_law_dot" (defScope s_l_dot) f cdv A outer s H E).A (cxOf (L2.CX P w) P w K mg base ["one", "other", "k"] "_law_dot" (defScope s_l_dot) f cdv A outer s H E).env (cxOf (L2.CX P w) P w K mg base ["one", "other", "k"] "_law_dot" (defScope s_l_dot) f cdv A outer s H E).xe := passes_of rfl
  refine ess_one ?_
  · exact (es_ret (b_sum t.z_sum (ea_cons (ev_lc (own := [("k", 2)]) rfl nd (ei_rng1 (by rfl) t.z_range (ea_cons (b_len t.z_len (ea_cons (vr 0) ea_nil)) ea_nil)) (blkOk_by (by first | rfl | kernel_rfl)) (by decide) (fun _ _ _ _ _ => (eg_name nd rfl (by first | exact .inl rfl | exact .inr rfl))) (fun _ _ _ _ _ => ets_nil) (fun _ _ _ _ _ => (o_mul (ev_ix (vr 0) (vr 2)) (ev_ix (vr 1) (vr 2))))) ea_nil)))
abbrev s_l_turned : Stmt := top 43
theorem sc_l_turned : FnScope ["table", "k", "row"] ["table"] (defScope s_l_turned) := ⟨rfl, rfl, rfl, by decide +kernel, rfl, by decide +kernel, by decide +kernel⟩
theorem ok_l_turned {f : Addr} {fd : FuncData} (F : Fun K "_law_turned" "_law_turned" s_l_turned f fd) (t : Tx P K mg C fI a_UNIT)  : FnG P w K mg base 1 f fd ["table"] m_l_turned := by
  refine fnG_of (k := 0) F sc_l_turned rfl rfl (by decide) fun cdv A outer s H E hr hgd => ?_
  have nd := sc_l_turned.nd
  have tk : Takes (cxOf (L2.CX P w) P w K mg base ["table", "k", "row"] "_law_turned" (defScope s_l_turned) f cdv A outer s H E) (WXof E) := takes_of rfl rfl rfl rfl
  have po : PassesOwn (model (cxOf (L2.CX P w) P w K mg base ["table", "k", "row"] "_law_turned" (defScope s_l_turned) f cdv A outer s H E).prog (cxOf (L2.CX P w) P w K mg base ["table", "k", "row"] "_law_turned" (defScope s_l_turned) f cdv A outer s H E).w) (cxOf (L2.CX P w) P w K mg base ["table", "k", "row"] "_law_turned" (defScope s_l_turned) f cdv A outer s H E).A (cxOf (L2.CX P w) P w K mg base ["table", "k", "row"] "_law_turned" (defScope s_l_turned) f cdv A outer s H E).env (cxOf (L2.CX P w) P w K mg base ["table", "k", "row"] "_law_turned" (defScope s_l_turned) f cdv A outer s H E).xe := passes_of rfl
  refine ess_one ?_
  · exact (es_ret (b_tuple t.z_tuple (ea_cons (ev_lc (own := [("k", 1)]) rfl nd (ei_rng1 (by rfl) t.z_range (ea_cons (b_len t.z_len (ea_cons (ev_ix (vr 0) ev_int) ea_nil)) ea_nil)) (blkOk_by (by first | rfl | kernel_rfl)) (by decide) (fun _ _ _ _ _ => (eg_name nd rfl (by first | exact .inl rfl | exact .inr rfl))) (fun _ _ _ _ _ => ets_nil) (fun _ _ _ _ _ => (b_tuple t.z_tuple (ea_cons (ev_lc (own := [("row", 2)]) rfl nd (ei_seq (vr 0)) (blkOk_by (by first | rfl | kernel_rfl)) (by decide) (fun _ _ _ _ _ => (eg_name nd rfl (by first | exact .inl rfl | exact .inr rfl))) (fun _ _ _ _ _ => ets_nil) (fun _ _ _ _ _ => (ev_ix (vr 2) (vr 1)))) ea_nil)))) ea_nil)))
abbrev s_l_product : Stmt := top 44
theorem sc_l_product : FnScope ["one", "other", "columns", "row", "column"] ["one", "other"] (defScope s_l_product) := ⟨rfl, rfl, rfl, by decide +kernel, rfl, by decide +kernel, by decide +kernel⟩
theorem ok_l_product {f : Addr} {fd : FuncData} (F : Fun K "_law_product" "_law_product" s_l_product f fd) (t : Tx P K mg C fI a_UNIT) (c_l_dot : CalG P w K mg base 1 "_law_dot" m_l_dot) (c_l_turned : CalG P w K mg base 1 "_law_turned" m_l_turned) : FnG P w K mg base 2 f fd ["one", "other"] m_l_product := by
  refine fnG_of (k := 1) F sc_l_product rfl rfl (by decide) fun cdv A outer s H E hr hgd => ?_
  have nd := sc_l_product.nd
  have tk : Takes (cxOf (L2.CX P w) P w K mg base ["one", "other", "columns", "row", "column"] "_law_product" (defScope s_l_product) f cdv A outer s H E) (WXof E) := takes_of rfl rfl rfl rfl
  have po : PassesOwn (model (cxOf (L2.CX P w) P w K mg base ["one", "other", "columns", "row", "column"] "_law_product" (defScope s_l_product) f cdv A outer s H E).prog (cxOf (L2.CX P w) P w K mg base ["one", "other", "columns", "row", "column"] "_law_product" (defScope s_l_product) f cdv A outer s H E).w) (cxOf (L2.CX P w) P w K mg base ["one", "other", "columns", "row", "column"] "_law_product" (defScope s_l_product) f cdv A outer s H E).A (cxOf (L2.CX P w) P w K mg base ["one", "other", "columns", "row", "column"] "_law_product" (defScope s_l_product) f cdv A outer s H E).env (cxOf (L2.CX P w) P w K mg base ["one", "other", "columns", "row", "column"] "_law_product" (defScope s_l_product) f cdv A outer s H E).xe := passes_of rfl
  refine ess_cons ?_ (ess_one ?_)
  · exact (es_set nd rfl (by first | exact .inl rfl | exact .inr rfl) (ev_cl c_l_turned hr (by decide) hgd tk (ea_cons (vr 1) ea_nil)))
  · exact (es_ret (b_tuple t.z_tuple (ea_cons (ev_lc (own := [("row", 3)]) rfl nd (ei_seq (vr 0)) (blkOk_by (by first | rfl | kernel_rfl)) (by decide) (fun _ _ _ _ _ => (eg_name nd rfl (by first | exact .inl rfl | exact .inr rfl))) (fun _ _ _ _ _ => ets_nil) (fun _ _ _ _ _ => (b_tuple t.z_tuple (ea_cons (ev_lc (own := [("column", 4)]) rfl nd (ei_seq (vr 2)) (blkOk_by (by first | rfl | kernel_rfl)) (by decide) (fun _ _ _ _ _ => (eg_name nd rfl (by first | exact .inl rfl | exact .inr rfl))) (fun _ _ _ _ _ => ets_nil) (fun _ _ _ _ _ => (ev_cl c_l_dot hr (by decide) hgd takes0 (ea_cons (vr 3) (ea_cons (vr 4) ea_nil))))) ea_nil)))) ea_nil)))
abbrev s_l_det : Stmt := top 45
theorem sc_l_det : FnScope ["table", "found", "k", "rest", "row"] ["table"] (defScope s_l_det) := ⟨rfl, rfl, rfl, by decide +kernel, rfl, by decide +kernel, by decide +kernel⟩
theorem ok_l_det {f : Addr} {fd : FuncData} (F : Fun K "_law_det" "_law_det" s_l_det f fd) (t : Tx P K mg C fI a_UNIT)  (hm : mg "_law_det" = some (.ref f)) (hk : PySem.W.keepIn K (.ref f) = true) (hb : Binds K fd ["table"] []) : ∀ n, FnG P w K mg base (0 + n + 1) f fd ["table"] (m_l_det n)
  | 0 => ⟨fun _ _ h => absurd rfl h, fun _ _ _ _ _ _ _ _ _ _ _ _ _ _ h => by obtain ⟨_, _, _, _, _, k⟩ := h; exact k.elim⟩
  | n + 1 => by
    have ih : CalG P w K mg base (0 + n + 1) "_law_det" (m_l_det n) := ⟨f, fd, ["table"], ok_l_det F t  hm hk hb n, hm, hk, hb⟩
    refine fnG_of (k := 0 + n + 1) F sc_l_det rfl rfl (by decide) fun cdv A outer s H E hr hgd => ?_
    have nd := sc_l_det.nd
    have tk : Takes (cxOf (L2.CX P w) P w K mg base ["table", "found", "k", "rest", "row"] "_law_det" (defScope s_l_det) f cdv A outer s H E) (WXof E) := takes_of rfl rfl rfl rfl
    have po : PassesOwn (model (cxOf (L2.CX P w) P w K mg base ["table", "found", "k", "rest", "row"] "_law_det" (defScope s_l_det) f cdv A outer s H E).prog (cxOf (L2.CX P w) P w K mg base ["table", "found", "k", "rest", "row"] "_law_det" (defScope s_l_det) f cdv A outer s H E).w) (cxOf (L2.CX P w) P w K mg base ["table", "found", "k", "rest", "row"] "_law_det" (defScope s_l_det) f cdv A outer s H E).A (cxOf (L2.CX P w) P w K mg base ["table", "found", "k", "rest", "row"] "_law_det" (defScope s_l_det) f cdv A outer s H E).env (cxOf (L2.CX P w) P w K mg base ["table", "found", "k", "rest", "row"] "_law_det" (defScope s_l_det) f cdv A outer s H E).xe := passes_of rfl
    refine ess_cons ?_ (ess_cons ?_ (ess_cons ?_ (ess_one ?_)))
    · exact (es_if (t_eq hr (b_len t.z_len (ea_cons (vr 0) ea_nil)) ev_int) (ess_one (es_ret ev_int)) ess_nil)
    · exact (es_set nd rfl (by first | exact .inl rfl | exact .inr rfl) ev_int)
    · exact (es_for po rfl (ei_rng1 (by rfl) t.z_range (ea_cons (b_len t.z_len (ea_cons (vr 0) ea_nil)) ea_nil)) (eg_name nd rfl (by first | exact .inl rfl | exact .inr rfl)) (ess_one (es_if (t_ne hr (ev_ix (ev_ix (vr 0) (vr 2)) ev_int) ev_int) (ess_cons (es_setLc (own := [("row", 4)]) rfl nd rfl rfl (by rfl) (ei_seq (o_add (ev_slice (vr 0) eo_none (eo_some (vr 2))) (ev_slice (vr 0) (eo_some (o_add (vr 2) ev_int)) eo_none))) (blkOk_by (by first | rfl | kernel_rfl)) (by decide) (fun _ _ _ _ _ => (eg_name nd rfl (by first | exact .inl rfl | exact .inr rfl))) (fun _ _ _ _ _ => ets_nil) (fun _ _ _ _ _ => (ev_slice (vr 4) (eo_some ev_int) eo_none))) (ess_one (es_set nd rfl (by first | exact .inl rfl | exact .inr rfl) (o_add (vr 1) (o_mul (o_mul (o_sub ev_int (o_mul ev_int (o_mod (vr 2) ev_int))) (ev_ix (ev_ix (vr 0) (vr 2)) ev_int)) (ev_cl ih hr (Nat.le_refl _) hgd tk (ea_cons (vr 3) ea_nil))))))) ess_nil)))
    · exact (es_ret (vr 1))
abbrev s_l_unit : Stmt := top 46
theorem sc_l_unit : FnScope ["many", "j", "k"] ["many"] (defScope s_l_unit) := ⟨rfl, rfl, rfl, by decide +kernel, rfl, by decide +kernel, by decide +kernel⟩
theorem ok_l_unit {f : Addr} {fd : FuncData} (F : Fun K "_law_unit" "_law_unit" s_l_unit f fd) (t : Tx P K mg C fI a_UNIT)  : FnG P w K mg base 1 f fd ["many"] m_l_unit := by
  refine fnG_of (k := 0) F sc_l_unit rfl rfl (by decide) fun cdv A outer s H E hr hgd => ?_
  have nd := sc_l_unit.nd
  have tk : Takes (cxOf (L2.CX P w) P w K mg base ["many", "j", "k"] "_law_unit" (defScope s_l_unit) f cdv A outer s H E) (WXof E) := takes_of rfl rfl rfl rfl
  have po : PassesOwn (model (cxOf (L2.CX P w) P w K mg base ["many", "j", "k"] "_law_unit" (defScope s_l_unit) f cdv A outer s H E).prog (cxOf (L2.CX P w) P w K mg base ["many", "j", "k"] "_law_unit" (defScope s_l_unit) f cdv A outer s H E).w) (cxOf (L2.CX P w) P w K mg base ["many", "j", "k"] "_law_unit" (defScope s_l_unit) f cdv A outer s H E).A (cxOf (L2.CX P w) P w K mg base ["many", "j", "k"] "_law_unit" (defScope s_l_unit) f cdv A outer s H E).env (cxOf (L2.CX P w) P w K mg base ["many", "j", "k"] "_law_unit" (defScope s_l_unit) f cdv A outer s H E).xe := passes_of rfl
  refine ess_one ?_
  · exact (es_ret (b_tuple t.z_tuple (ea_cons (ev_lc (own := [("j", 1)]) rfl nd (ei_rng1 (by rfl) t.z_range (ea_cons (vr 0) ea_nil)) (blkOk_by (by first | rfl | kernel_rfl)) (by decide) (fun _ _ _ _ _ => (eg_name nd rfl (by first | exact .inl rfl | exact .inr rfl))) (fun _ _ _ _ _ => ets_nil) (fun _ _ _ _ _ => (b_tuple t.z_tuple (ea_cons (ev_lc (own := [("k", 2)]) rfl nd (ei_rng1 (by rfl) t.z_range (ea_cons (vr 0) ea_nil)) (blkOk_by (by first | rfl | kernel_rfl)) (by decide) (fun _ _ _ _ _ => (eg_name nd rfl (by first | exact .inl rfl | exact .inr rfl))) (fun _ _ _ _ _ => ets_nil) (fun _ _ _ _ _ => (b_int t.z_int (ea_cons (q_eq hr (vr 1) (vr 2)) ea_nil)))) ea_nil)))) ea_nil)))
abbrev s_l_change : Stmt := top 47
theorem sc_l_change : FnScope ["box", "many", "steps", "rows", "turn", "one", "other", "kind", "factor", "row", "number", "k"] ["box", "many", "steps"] (defScope s_l_change) := ⟨rfl, rfl, rfl, by decide +kernel, rfl, by decide +kernel, by decide +kernel⟩
theorem ok_l_change {f : Addr} {fd : FuncData} (F : Fun K "_law_change" "_law_change" s_l_change f fd) (t : Tx P K mg C fI a_UNIT) (c_l_draw : CalG P w K mg base 1 "_law_draw" m_l_draw) (c_l_pick : CalG P w K mg base 2 "_law_pick" m_l_pick) (c_l_unit : CalG P w K mg base 1 "_law_unit" m_l_unit) : FnG P w K mg base 3 f fd ["box", "many", "steps"] m_l_change := by
  refine fnG_of (k := 2) F sc_l_change rfl rfl (by decide) fun cdv A outer s H E hr hgd => ?_
  have nd := sc_l_change.nd
  have tk : Takes (cxOf (L2.CX P w) P w K mg base ["box", "many", "steps", "rows", "turn", "one", "other", "kind", "factor", "row", "number", "k"] "_law_change" (defScope s_l_change) f cdv A outer s H E) (WXof E) := takes_of rfl rfl rfl rfl
  have po : PassesOwn (model (cxOf (L2.CX P w) P w K mg base ["box", "many", "steps", "rows", "turn", "one", "other", "kind", "factor", "row", "number", "k"] "_law_change" (defScope s_l_change) f cdv A outer s H E).prog (cxOf (L2.CX P w) P w K mg base ["box", "many", "steps", "rows", "turn", "one", "other", "kind", "factor", "row", "number", "k"] "_law_change" (defScope s_l_change) f cdv A outer s H E).w) (cxOf (L2.CX P w) P w K mg base ["box", "many", "steps", "rows", "turn", "one", "other", "kind", "factor", "row", "number", "k"] "_law_change" (defScope s_l_change) f cdv A outer s H E).A (cxOf (L2.CX P w) P w K mg base ["box", "many", "steps", "rows", "turn", "one", "other", "kind", "factor", "row", "number", "k"] "_law_change" (defScope s_l_change) f cdv A outer s H E).env (cxOf (L2.CX P w) P w K mg base ["box", "many", "steps", "rows", "turn", "one", "other", "kind", "factor", "row", "number", "k"] "_law_change" (defScope s_l_change) f cdv A outer s H E).xe := passes_of rfl
  refine ess_cons ?_ (ess_cons ?_ (ess_one ?_))
  · exact (es_set nd rfl (by first | exact .inl rfl | exact .inr rfl) (ev_lcC (own := [("row", 9)]) rfl nd (ei_seq (ev_cl c_l_unit hr (by decide) hgd tk (ea_cons (vr 1) ea_nil))) (blkOk_by (by first | rfl | kernel_rfl)) (by decide) (fun _ _ _ _ _ => (eg_name nd rfl (by first | exact .inl rfl | exact .inr rfl))) (fun _ _ _ _ _ => ets_nil) (fun _ _ _ _ _ => (b_list t.z_list (ea_cons (vr 9) ea_nil)))))
  · exact (es_for po rfl (ei_rng1 (by rfl) t.z_range (ea_cons (vr 2) ea_nil)) (eg_name nd rfl (by first | exact .inl rfl | exact .inr rfl)) (ess_cons (es_asg (ev_tup (ea_cons (ev_cl c_l_draw hr (by decide) hgd tk (ea_cons (vr 0) (ea_cons (vr 1) ea_nil))) (ea_cons (ev_cl c_l_draw hr (by decide) hgd tk (ea_cons (vr 0) (ea_cons (vr 1) ea_nil))) ea_nil))) (eg_tup rfl (egs_cons (eg_name nd rfl (by first | exact .inl rfl | exact .inr rfl)) (egs_cons (eg_name nd rfl (by first | exact .inl rfl | exact .inr rfl)) egs_nil)))) (ess_cons (es_set nd rfl (by first | exact .inl rfl | exact .inr rfl) (ev_cl c_l_draw hr (by decide) hgd tk (ea_cons (vr 0) (ea_cons ev_int ea_nil)))) (ess_one (es_if (t_eq hr (vr 5) (vr 6)) (ess_one (es_asg (ev_lc (own := [("number", 10)]) rfl nd (ei_seq (ev_ix (vr 3) (vr 5))) (blkOk_by (by first | rfl | kernel_rfl)) (by decide) (fun _ _ _ _ _ => (eg_name nd rfl (by first | exact .inl rfl | exact .inr rfl))) (fun _ _ _ _ _ => ets_nil) (fun _ _ _ _ _ => (o_sub ev_int (vr 10)))) (eg_sub (vr 3) (vr 5)))) (ess_one (es_if (t_eq hr (vr 7) ev_int) (ess_one (es_asg (ev_tup (ea_cons (ev_ix (vr 3) (vr 6)) (ea_cons (ev_ix (vr 3) (vr 5)) ea_nil))) (eg_tup rfl (egs_cons (eg_sub (vr 3) (vr 5)) (egs_cons (eg_sub (vr 3) (vr 6)) egs_nil))))) (ess_cons (es_set nd rfl (by first | exact .inl rfl | exact .inr rfl) (ev_cl c_l_pick hr (by decide) hgd tk (ea_cons (vr 0) (ea_cons (ev_lst (ea_cons ev_int (ea_cons (o_neg ev_int) (ea_cons ev_int (ea_cons (o_neg ev_int) (ea_cons ev_int ea_nil)))))) ea_nil)))) (ess_one (es_asg (ev_lc (own := [("k", 11)]) rfl nd (ei_rng1 (by rfl) t.z_range (ea_cons (vr 1) ea_nil)) (blkOk_by (by first | rfl | kernel_rfl)) (by decide) (fun _ _ _ _ _ => (eg_name nd rfl (by first | exact .inl rfl | exact .inr rfl))) (fun _ _ _ _ _ => ets_nil) (fun _ _ _ _ _ => (o_add (ev_ix (ev_ix (vr 3) (vr 5)) (vr 11)) (o_mul (vr 8) (ev_ix (ev_ix (vr 3) (vr 6)) (vr 11)))))) (eg_sub (vr 3) (vr 5))))))))))))
  · exact (es_ret (b_tuple t.z_tuple (ea_cons (ev_lcP mkI_ok (own := [("row", 9)]) rfl nd (ei_cel (vr 3)) (blkOk_by (by first | rfl | kernel_rfl)) (by decide) (fun _ _ _ _ _ => (eg_name nd rfl (by first | exact .inl rfl | exact .inr rfl))) (fun _ _ _ _ _ => ets_nil) (fun _ _ _ _ _ => (b_tuple t.z_tuple (ea_cons (vr 9) ea_nil)))) ea_nil)))
abbrev s_l_at : Stmt := top 48
theorem sc_l_at : FnScope ["form", "rows"] ["form", "rows"] (defScope s_l_at) := ⟨rfl, rfl, rfl, by decide +kernel, rfl, by decide +kernel, by decide +kernel⟩
theorem ok_l_at {f : Addr} {fd : FuncData} (F : Fun K "_law_at" "_law_at" s_l_at f fd) (t : Tx P K mg C fI a_UNIT) (c_l_turned : CalG P w K mg base 1 "_law_turned" m_l_turned) (c_l_product : CalG P w K mg base 2 "_law_product" m_l_product) : FnG P w K mg base 3 f fd ["form", "rows"] m_l_at := by
  refine fnG_of (k := 2) F sc_l_at rfl rfl (by decide) fun cdv A outer s H E hr hgd => ?_
  have nd := sc_l_at.nd
  have tk : Takes (cxOf (L2.CX P w) P w K mg base ["form", "rows"] "_law_at" (defScope s_l_at) f cdv A outer s H E) (WXof E) := takes_of rfl rfl rfl rfl
  have po : PassesOwn (model (cxOf (L2.CX P w) P w K mg base ["form", "rows"] "_law_at" (defScope s_l_at) f cdv A outer s H E).prog (cxOf (L2.CX P w) P w K mg base ["form", "rows"] "_law_at" (defScope s_l_at) f cdv A outer s H E).w) (cxOf (L2.CX P w) P w K mg base ["form", "rows"] "_law_at" (defScope s_l_at) f cdv A outer s H E).A (cxOf (L2.CX P w) P w K mg base ["form", "rows"] "_law_at" (defScope s_l_at) f cdv A outer s H E).env (cxOf (L2.CX P w) P w K mg base ["form", "rows"] "_law_at" (defScope s_l_at) f cdv A outer s H E).xe := passes_of rfl
  refine ess_one ?_
  · exact (es_ret (ev_cl c_l_product hr (by decide) hgd tk (ea_cons (ev_cl c_l_product hr (by decide) hgd tk (ea_cons (vr 1) (ea_cons (vr 0) ea_nil))) (ea_cons (ev_cl c_l_turned hr (by decide) hgd tk (ea_cons (vr 1) ea_nil)) ea_nil))))
abbrev s_l_divisors : Stmt := top 49
theorem sc_l_divisors : FnScope ["number", "d"] ["number"] (defScope s_l_divisors) := ⟨rfl, rfl, rfl, by decide +kernel, rfl, by decide +kernel, by decide +kernel⟩
theorem ok_l_divisors {f : Addr} {fd : FuncData} (F : Fun K "_law_divisors" "_law_divisors" s_l_divisors f fd) (t : Tx P K mg C fI a_UNIT)  : FnG P w K mg base 1 f fd ["number"] m_l_divisors := by
  refine fnG_of (k := 0) F sc_l_divisors rfl rfl (by decide) fun cdv A outer s H E hr hgd => ?_
  have nd := sc_l_divisors.nd
  have tk : Takes (cxOf (L2.CX P w) P w K mg base ["number", "d"] "_law_divisors" (defScope s_l_divisors) f cdv A outer s H E) (WXof E) := takes_of rfl rfl rfl rfl
  have po : PassesOwn (model (cxOf (L2.CX P w) P w K mg base ["number", "d"] "_law_divisors" (defScope s_l_divisors) f cdv A outer s H E).prog (cxOf (L2.CX P w) P w K mg base ["number", "d"] "_law_divisors" (defScope s_l_divisors) f cdv A outer s H E).w) (cxOf (L2.CX P w) P w K mg base ["number", "d"] "_law_divisors" (defScope s_l_divisors) f cdv A outer s H E).A (cxOf (L2.CX P w) P w K mg base ["number", "d"] "_law_divisors" (defScope s_l_divisors) f cdv A outer s H E).env (cxOf (L2.CX P w) P w K mg base ["number", "d"] "_law_divisors" (defScope s_l_divisors) f cdv A outer s H E).xe := passes_of rfl
  refine ess_one ?_
  · exact (es_ret (ev_lc (own := [("d", 1)]) rfl nd (ei_rng2 (by rfl) t.z_range (ea_cons ev_int (ea_cons (o_add (vr 0) ev_int) ea_nil))) (blkOk_by (by first | rfl | kernel_rfl)) (by decide) (fun _ _ _ _ _ => (eg_name nd rfl (by first | exact .inl rfl | exact .inr rfl))) (fun _ _ _ _ _ => (ets_one (t_eq hr (o_mod (vr 0) (vr 1)) ev_int))) (fun _ _ _ _ _ => (vr 1))))
abbrev s_l_sign : Stmt := top 50
theorem sc_l_sign : FnScope ["number", "prime", "k"] ["number", "prime"] (defScope s_l_sign) := ⟨rfl, rfl, rfl, by decide +kernel, rfl, by decide +kernel, by decide +kernel⟩
theorem ok_l_sign {f : Addr} {fd : FuncData} (F : Fun K "_law_sign" "_law_sign" s_l_sign f fd) (t : Tx P K mg C fI a_UNIT)  : FnG P w K mg base 1 f fd ["number", "prime"] m_l_sign := by
  refine fnG_of (k := 0) F sc_l_sign rfl rfl (by decide) fun cdv A outer s H E hr hgd => ?_
  have nd := sc_l_sign.nd
  have tk : Takes (cxOf (L2.CX P w) P w K mg base ["number", "prime", "k"] "_law_sign" (defScope s_l_sign) f cdv A outer s H E) (WXof E) := takes_of rfl rfl rfl rfl
  have po : PassesOwn (model (cxOf (L2.CX P w) P w K mg base ["number", "prime", "k"] "_law_sign" (defScope s_l_sign) f cdv A outer s H E).prog (cxOf (L2.CX P w) P w K mg base ["number", "prime", "k"] "_law_sign" (defScope s_l_sign) f cdv A outer s H E).w) (cxOf (L2.CX P w) P w K mg base ["number", "prime", "k"] "_law_sign" (defScope s_l_sign) f cdv A outer s H E).A (cxOf (L2.CX P w) P w K mg base ["number", "prime", "k"] "_law_sign" (defScope s_l_sign) f cdv A outer s H E).env (cxOf (L2.CX P w) P w K mg base ["number", "prime", "k"] "_law_sign" (defScope s_l_sign) f cdv A outer s H E).xe := passes_of rfl
  refine ess_cons ?_ (ess_one ?_)
  · exact (es_if (t_eq hr (o_mod (vr 0) (vr 1)) ev_int) (ess_one (es_ret ev_int)) ess_nil)
  · exact (es_ret (ev_if (t_ne hr (ev_lc (own := [("k", 2)]) rfl nd (ei_rng1 (by rfl) t.z_range (ea_cons (vr 1) ea_nil)) (blkOk_by (by first | rfl | kernel_rfl)) (by decide) (fun _ _ _ _ _ => (eg_name nd rfl (by first | exact .inl rfl | exact .inr rfl))) (fun _ _ _ _ _ => (ets_one (t_eq hr (o_mod (o_sub (o_mul (vr 2) (vr 2)) (vr 0)) (vr 1)) ev_int))) (fun _ _ _ _ _ => (vr 2))) (ev_lst ea_nil)) ev_int (o_neg ev_int)))
abbrev s_l_primes : Stmt := top 51
theorem sc_l_primes : FnScope ["number", "found", "p"] ["number"] (defScope s_l_primes) := ⟨rfl, rfl, rfl, by decide +kernel, rfl, by decide +kernel, by decide +kernel⟩
theorem ok_l_primes {f : Addr} {fd : FuncData} (F : Fun K "_law_primes" "_law_primes" s_l_primes f fd) (t : Tx P K mg C fI a_UNIT)  : FnG P w K mg base 1 f fd ["number"] m_l_primes := by
  refine fnG_of (k := 0) F sc_l_primes rfl rfl (by decide) fun cdv A outer s H E hr hgd => ?_
  have nd := sc_l_primes.nd
  have tk : Takes (cxOf (L2.CX P w) P w K mg base ["number", "found", "p"] "_law_primes" (defScope s_l_primes) f cdv A outer s H E) (WXof E) := takes_of rfl rfl rfl rfl
  have po : PassesOwn (model (cxOf (L2.CX P w) P w K mg base ["number", "found", "p"] "_law_primes" (defScope s_l_primes) f cdv A outer s H E).prog (cxOf (L2.CX P w) P w K mg base ["number", "found", "p"] "_law_primes" (defScope s_l_primes) f cdv A outer s H E).w) (cxOf (L2.CX P w) P w K mg base ["number", "found", "p"] "_law_primes" (defScope s_l_primes) f cdv A outer s H E).A (cxOf (L2.CX P w) P w K mg base ["number", "found", "p"] "_law_primes" (defScope s_l_primes) f cdv A outer s H E).env (cxOf (L2.CX P w) P w K mg base ["number", "found", "p"] "_law_primes" (defScope s_l_primes) f cdv A outer s H E).xe := passes_of rfl
  refine ess_cons ?_ (ess_cons ?_ (ess_cons ?_ (ess_one ?_)))
  · exact (es_set nd rfl (by first | exact .inl rfl | exact .inr rfl) (ev_cel ea_nil))
  · exact (es_set nd rfl (by first | exact .inl rfl | exact .inr rfl) ev_int)
  · exact (es_while po (t_gt (vr 0) ev_int) (ess_cons (es_if (t_eq hr (o_mod (vr 0) (vr 2)) ev_int) (ess_cons (es_expr (ev_app (vr 1) (vr 2))) (ess_one (es_while po (t_eq hr (o_mod (vr 0) (vr 2)) ev_int) (ess_one (es_set nd rfl (by first | exact .inl rfl | exact .inr rfl) (o_fdiv (vr 0) (vr 2))))))) ess_nil) (ess_one (es_set nd rfl (by first | exact .inl rfl | exact .inr rfl) (o_add (vr 2) ev_int)))))
  · exact (es_ret (vr 1))
abbrev s_l_classes : Stmt := top 52
theorem sc_l_classes : FnScope ["number", "whole", "found", "a", "b", "c"] ["number", "whole"] (defScope s_l_classes) := ⟨rfl, rfl, rfl, by decide +kernel, rfl, by decide +kernel, by decide +kernel⟩
theorem ok_l_classes {f : Addr} {fd : FuncData} (F : Fun K "_law_classes" "_law_classes" s_l_classes f fd) (t : Tx P K mg C fI a_UNIT) (c_l_gcd : CalG P w K mg base 1 "_law_gcd" m_l_gcd) : FnG P w K mg base 2 f fd ["number", "whole"] m_l_classes := by
  refine fnG_of (k := 1) F sc_l_classes rfl rfl (by decide) fun cdv A outer s H E hr hgd => ?_
  have nd := sc_l_classes.nd
  have tk : Takes (cxOf (L2.CX P w) P w K mg base ["number", "whole", "found", "a", "b", "c"] "_law_classes" (defScope s_l_classes) f cdv A outer s H E) (WXof E) := takes_of rfl rfl rfl rfl
  have po : PassesOwn (model (cxOf (L2.CX P w) P w K mg base ["number", "whole", "found", "a", "b", "c"] "_law_classes" (defScope s_l_classes) f cdv A outer s H E).prog (cxOf (L2.CX P w) P w K mg base ["number", "whole", "found", "a", "b", "c"] "_law_classes" (defScope s_l_classes) f cdv A outer s H E).w) (cxOf (L2.CX P w) P w K mg base ["number", "whole", "found", "a", "b", "c"] "_law_classes" (defScope s_l_classes) f cdv A outer s H E).A (cxOf (L2.CX P w) P w K mg base ["number", "whole", "found", "a", "b", "c"] "_law_classes" (defScope s_l_classes) f cdv A outer s H E).env (cxOf (L2.CX P w) P w K mg base ["number", "whole", "found", "a", "b", "c"] "_law_classes" (defScope s_l_classes) f cdv A outer s H E).xe := passes_of rfl
  refine ess_cons ?_ (ess_cons ?_ (ess_cons ?_ (ess_one ?_)))
  · exact (es_set nd rfl (by first | exact .inl rfl | exact .inr rfl) (ev_cel ea_nil))
  · exact (es_set nd rfl (by first | exact .inl rfl | exact .inr rfl) ev_int)
  · exact (es_while po (t_le (o_mul (o_mul ev_int (vr 3)) (vr 3)) (o_sub ev_int (vr 0))) (ess_cons (es_for po rfl (ei_rng2 (by rfl) t.z_range (ea_cons (o_sub ev_int (vr 3)) (ea_cons (o_add (vr 3) ev_int) ea_nil))) (eg_name nd rfl (by first | exact .inl rfl | exact .inr rfl)) (ess_one (es_if (t_eq hr (o_mod (o_sub (o_mul (vr 4) (vr 4)) (vr 0)) (o_mul ev_int (vr 3))) ev_int) (ess_cons (es_set nd rfl (by first | exact .inl rfl | exact .inr rfl) (o_fdiv (o_sub (o_mul (vr 4) (vr 4)) (vr 0)) (o_mul ev_int (vr 3)))) (ess_one (es_if (et_W (ew_and (t_ge (vr 5) (vr 3)) (ew_and (et_W (ew_or (t_ge (vr 4) ev_int) (ew_or1 (t_ne hr (vr 3) (vr 5))))) (ew_and1 (et_W (ew_or (et_not (et_tru (vr 1))) (ew_or1 (t_eq hr (ev_cl c_l_gcd hr (by decide) hgd tk (ea_cons (ev_cl c_l_gcd hr (by decide) hgd tk (ea_cons (vr 3) (ea_cons (vr 4) ea_nil))) (ea_cons (vr 5) ea_nil))) ev_int)))))))) (ess_one (es_expr (ev_app (vr 2) (ev_tup (ea_cons (vr 3) (ea_cons (vr 4) (ea_cons (vr 5) ea_nil))))))) ess_nil))) ess_nil))) (ess_one (es_set nd rfl (by first | exact .inl rfl | exact .inr rfl) (o_add (vr 3) ev_int)))))
  · exact (es_ret (b_sorted hr t.z_sorted (ea_cons (vr 2) ea_nil)))
abbrev s_l_character : Stmt := top 53
theorem sc_l_character : FnScope ["number", "k", "found", "p", "power", "sign", "turn"] ["number", "k"] (defScope s_l_character) := ⟨rfl, rfl, rfl, by decide +kernel, rfl, by decide +kernel, by decide +kernel⟩
theorem ok_l_character {f : Addr} {fd : FuncData} (F : Fun K "_law_character" "_law_character" s_l_character f fd) (t : Tx P K mg C fI a_UNIT) (c_l_sign : CalG P w K mg base 1 "_law_sign" m_l_sign) (c_l_primes : CalG P w K mg base 1 "_law_primes" m_l_primes) : FnG P w K mg base 2 f fd ["number", "k"] m_l_character := by
  refine fnG_of (k := 1) F sc_l_character rfl rfl (by decide) fun cdv A outer s H E hr hgd => ?_
  have nd := sc_l_character.nd
  have tk : Takes (cxOf (L2.CX P w) P w K mg base ["number", "k", "found", "p", "power", "sign", "turn"] "_law_character" (defScope s_l_character) f cdv A outer s H E) (WXof E) := takes_of rfl rfl rfl rfl
  have po : PassesOwn (model (cxOf (L2.CX P w) P w K mg base ["number", "k", "found", "p", "power", "sign", "turn"] "_law_character" (defScope s_l_character) f cdv A outer s H E).prog (cxOf (L2.CX P w) P w K mg base ["number", "k", "found", "p", "power", "sign", "turn"] "_law_character" (defScope s_l_character) f cdv A outer s H E).w) (cxOf (L2.CX P w) P w K mg base ["number", "k", "found", "p", "power", "sign", "turn"] "_law_character" (defScope s_l_character) f cdv A outer s H E).A (cxOf (L2.CX P w) P w K mg base ["number", "k", "found", "p", "power", "sign", "turn"] "_law_character" (defScope s_l_character) f cdv A outer s H E).env (cxOf (L2.CX P w) P w K mg base ["number", "k", "found", "p", "power", "sign", "turn"] "_law_character" (defScope s_l_character) f cdv A outer s H E).xe := passes_of rfl
  refine ess_cons ?_ (ess_cons ?_ (ess_one ?_))
  · exact (es_set nd rfl (by first | exact .inl rfl | exact .inr rfl) ev_int)
  · exact (es_for po rfl (ei_seq (ev_cl c_l_primes hr (by decide) hgd tk (ea_cons (vr 1) ea_nil))) (eg_name nd rfl (by first | exact .inl rfl | exact .inr rfl)) (ess_cons (es_set nd rfl (by first | exact .inl rfl | exact .inr rfl) ev_int) (ess_cons (es_while po (t_eq hr (o_mod (vr 1) (vr 3)) ev_int) (ess_cons (es_set nd rfl (by first | exact .inl rfl | exact .inr rfl) (o_fdiv (vr 1) (vr 3))) (ess_one (es_set nd rfl (by first | exact .inl rfl | exact .inr rfl) (o_add (vr 4) ev_int))))) (ess_cons (es_if (t_eq hr (vr 3) ev_int) (ess_one (es_set nd rfl (by first | exact .inl rfl | exact .inr rfl) (ev_if (t_eq hr (o_mod (vr 0) ev_int) ev_int) ev_int (ev_if (t_eq hr (o_mod (vr 0) ev_int) ev_int) ev_int (o_neg ev_int))))) (ess_one (es_set nd rfl (by first | exact .inl rfl | exact .inr rfl) (ev_cl c_l_sign hr (by decide) hgd tk (ea_cons (vr 0) (ea_cons (vr 3) ea_nil)))))) (ess_one (es_for po rfl (ei_rng1 (by rfl) t.z_range (ea_cons (vr 4) ea_nil)) (eg_name nd rfl (by first | exact .inl rfl | exact .inr rfl)) (ess_one (es_set nd rfl (by first | exact .inl rfl | exact .inr rfl) (o_mul (vr 2) (vr 5))))))))))
  · exact (es_ret (vr 2))
abbrev s_l_is_fundamental : Stmt := top 54
theorem sc_l_is_fundamental : FnScope ["number", "n", "p"] ["number"] (defScope s_l_is_fundamental) := ⟨rfl, rfl, rfl, by decide +kernel, rfl, by decide +kernel, by decide +kernel⟩
theorem ok_l_is_fundamental {f : Addr} {fd : FuncData} (F : Fun K "_law_is_fundamental" "_law_is_fundamental" s_l_is_fundamental f fd) (t : Tx P K mg C fI a_UNIT) (c_l_primes : CalG P w K mg base 1 "_law_primes" m_l_primes) : FnG P w K mg base 2 f fd ["number"] m_l_is_fundamental := by
  refine fnG_of (k := 1) F sc_l_is_fundamental rfl rfl (by decide) fun cdv A outer s H E hr hgd => ?_
  have nd := sc_l_is_fundamental.nd
  have tk : Takes (cxOf (L2.CX P w) P w K mg base ["number", "n", "p"] "_law_is_fundamental" (defScope s_l_is_fundamental) f cdv A outer s H E) (WXof E) := takes_of rfl rfl rfl rfl
  have po : PassesOwn (model (cxOf (L2.CX P w) P w K mg base ["number", "n", "p"] "_law_is_fundamental" (defScope s_l_is_fundamental) f cdv A outer s H E).prog (cxOf (L2.CX P w) P w K mg base ["number", "n", "p"] "_law_is_fundamental" (defScope s_l_is_fundamental) f cdv A outer s H E).w) (cxOf (L2.CX P w) P w K mg base ["number", "n", "p"] "_law_is_fundamental" (defScope s_l_is_fundamental) f cdv A outer s H E).A (cxOf (L2.CX P w) P w K mg base ["number", "n", "p"] "_law_is_fundamental" (defScope s_l_is_fundamental) f cdv A outer s H E).env (cxOf (L2.CX P w) P w K mg base ["number", "n", "p"] "_law_is_fundamental" (defScope s_l_is_fundamental) f cdv A outer s H E).xe := passes_of rfl
  refine ess_cons ?_ (ess_cons ?_ (ess_one ?_))
  · exact (es_set nd rfl (by first | exact .inl rfl | exact .inr rfl) (o_sub ev_int (vr 0)))
  · exact (es_for po rfl (ei_seq (ev_cl c_l_primes hr (by decide) hgd tk (ea_cons (vr 1) ea_nil))) (eg_name nd rfl (by first | exact .inl rfl | exact .inr rfl)) (ess_one (es_if (et_W (ew_and (t_gt (vr 2) ev_int) (ew_and1 (t_eq hr (o_mod (vr 1) (o_mul (vr 2) (vr 2))) ev_int)))) (ess_one (es_ret ev_bl)) ess_nil)))
  · exact (es_ret (ev_or (q_eq hr (o_mod (vr 0) ev_int) ev_int) (ev_one (q_in hr (o_mod (vr 0) ev_int) (ev_tup (ea_cons ev_int (ea_cons ev_int ea_nil)))))))
abbrev s_l_weight : Stmt := top 55
theorem sc_l_weight : FnScope ["number", "found", "a", "b", "c"] ["number"] (defScope s_l_weight) := ⟨rfl, rfl, rfl, by decide +kernel, rfl, by decide +kernel, by decide +kernel⟩
theorem ok_l_weight {f : Addr} {fd : FuncData} (F : Fun K "_law_weight" "_law_weight" s_l_weight f fd) (t : Tx P K mg C fI a_UNIT) (c_l_add : CalG P w K mg base 3 "_law_add" m_l_add) (c_l_classes : CalG P w K mg base 2 "_law_classes" m_l_classes) : FnG P w K mg base 4 f fd ["number"] m_l_weight := by
  refine fnG_of (k := 3) F sc_l_weight rfl rfl (by decide) fun cdv A outer s H E hr hgd => ?_
  have nd := sc_l_weight.nd
  have tk : Takes (cxOf (L2.CX P w) P w K mg base ["number", "found", "a", "b", "c"] "_law_weight" (defScope s_l_weight) f cdv A outer s H E) (WXof E) := takes_of rfl rfl rfl rfl
  have po : PassesOwn (model (cxOf (L2.CX P w) P w K mg base ["number", "found", "a", "b", "c"] "_law_weight" (defScope s_l_weight) f cdv A outer s H E).prog (cxOf (L2.CX P w) P w K mg base ["number", "found", "a", "b", "c"] "_law_weight" (defScope s_l_weight) f cdv A outer s H E).w) (cxOf (L2.CX P w) P w K mg base ["number", "found", "a", "b", "c"] "_law_weight" (defScope s_l_weight) f cdv A outer s H E).A (cxOf (L2.CX P w) P w K mg base ["number", "found", "a", "b", "c"] "_law_weight" (defScope s_l_weight) f cdv A outer s H E).env (cxOf (L2.CX P w) P w K mg base ["number", "found", "a", "b", "c"] "_law_weight" (defScope s_l_weight) f cdv A outer s H E).xe := passes_of rfl
  refine ess_cons ?_ (ess_cons ?_ (ess_one ?_))
  · exact (es_set nd rfl (by first | exact .inl rfl | exact .inr rfl) (ev_tup (ea_cons ev_int (ea_cons ev_int ea_nil))))
  · exact (es_for po rfl (ei_seq (ev_cl c_l_classes hr (by decide) hgd tk (ea_cons (vr 0) (ea_cons ev_bl ea_nil)))) (eg_tup rfl (egs_cons (eg_name nd rfl (by first | exact .inl rfl | exact .inr rfl)) (egs_cons (eg_name nd rfl (by first | exact .inl rfl | exact .inr rfl)) (egs_cons (eg_name nd rfl (by first | exact .inl rfl | exact .inr rfl)) egs_nil)))) (ess_one (es_set nd rfl (by first | exact .inl rfl | exact .inr rfl) (ev_cl c_l_add hr (by decide) hgd tk (ea_cons (vr 1) (ea_cons (ev_if (et_W (ew_and (t_eq hr (vr 3) ev_int) (ew_and1 (t_eq hr (vr 2) (vr 4))))) (ev_tup (ea_cons ev_int (ea_cons ev_int ea_nil))) (ev_if (et_W (ew_and (t_eq hr (vr 2) (vr 3)) (ew_and1 (t_eq hr (vr 3) (vr 4))))) (ev_tup (ea_cons ev_int (ea_cons ev_int ea_nil))) (ev_tup (ea_cons ev_int (ea_cons ev_int ea_nil))))) ea_nil))))))
  · exact (es_ret (vr 1))
abbrev s_l_two_change : Stmt := top 56
theorem sc_l_two_change : FnScope ["box", "rows"] ["box"] (defScope s_l_two_change) := ⟨rfl, rfl, rfl, by decide +kernel, rfl, by decide +kernel, by decide +kernel⟩
theorem ok_l_two_change {f : Addr} {fd : FuncData} (F : Fun K "_law_two_change" "_law_two_change" s_l_two_change f fd) (t : Tx P K mg C fI a_UNIT) (c_l_det : CalG P w K mg base 4 "_law_det" (m_l_det 3)) (c_l_change : CalG P w K mg base 3 "_law_change" m_l_change) : FnG P w K mg base 5 f fd ["box"] m_l_two_change := by
  refine fnG_of (k := 4) F sc_l_two_change rfl rfl (by decide) fun cdv A outer s H E hr hgd => ?_
  have nd := sc_l_two_change.nd
  have tk : Takes (cxOf (L2.CX P w) P w K mg base ["box", "rows"] "_law_two_change" (defScope s_l_two_change) f cdv A outer s H E) (WXof E) := takes_of rfl rfl rfl rfl
  have po : PassesOwn (model (cxOf (L2.CX P w) P w K mg base ["box", "rows"] "_law_two_change" (defScope s_l_two_change) f cdv A outer s H E).prog (cxOf (L2.CX P w) P w K mg base ["box", "rows"] "_law_two_change" (defScope s_l_two_change) f cdv A outer s H E).w) (cxOf (L2.CX P w) P w K mg base ["box", "rows"] "_law_two_change" (defScope s_l_two_change) f cdv A outer s H E).A (cxOf (L2.CX P w) P w K mg base ["box", "rows"] "_law_two_change" (defScope s_l_two_change) f cdv A outer s H E).env (cxOf (L2.CX P w) P w K mg base ["box", "rows"] "_law_two_change" (defScope s_l_two_change) f cdv A outer s H E).xe := passes_of rfl
  refine ess_cons ?_ (ess_cons ?_ (ess_one ?_))
  · exact (es_set nd rfl (by first | exact .inl rfl | exact .inr rfl) (ev_cl c_l_change hr (by decide) hgd tk (ea_cons (vr 0) (ea_cons ev_int (ea_cons ev_int ea_nil)))))
  · exact (es_if (t_eq hr (ev_cl c_l_det hr (by decide) hgd tk (ea_cons (vr 1) ea_nil)) (o_neg ev_int)) (ess_one (es_set nd rfl (by first | exact .inl rfl | exact .inr rfl) (ev_tup (ea_cons (ev_ix (vr 1) ev_int) (ea_cons (ev_ix (vr 1) ev_int) ea_nil))))) ess_nil)
  · exact (es_ret (vr 1))
abbrev s_l_law : Stmt := top 57
theorem sc_l_law : FnScope ["script", "box", "number", "due", "n", "total", "t", "one", "two", "rows", "other", "found", "change", "x", "y", "unit", "bad", "reason", "e", "k", "d"] ["script"] (defScope s_l_law) := ⟨rfl, rfl, rfl, by decide +kernel, rfl, by decide +kernel, by decide +kernel⟩
theorem ok_l_law {f : Addr} {fd : FuncData} (F : Fun K "law" "law" s_l_law f fd) (t : Tx P K mg C fI a_UNIT) (c_gap : CalG P w K mg base 1 "gap" m_gap) (c_table_of : CalG P w K mg base 1 "table_of" m_table_of) (c_two_of : CalG P w K mg base 1 "two_of" m_two_of) (c_two_worth : CalG P w K mg base 1 "two_worth" m_two_worth) (c_two_changed : CalG P w K mg base 2 "two_changed" m_two_changed) (c_is_two_reduced : CalG P w K mg base 1 "is_two_reduced" m_is_two_reduced) (c_two_reduced : CalG P w K mg base 5 "two_reduced" m_two_reduced) (c_two_classes : CalG P w K mg base 3 "two_classes" m_two_classes) (c_weighted_classes : CalG P w K mg base 3 "weighted_classes" m_weighted_classes) (c_unit_two : CalG P w K mg base 2 "unit_two" m_unit_two) (c_opposite_two : CalG P w K mg base 6 "opposite_two" m_opposite_two) (c_l_digits : CalG P w K mg base 2 "_law_digits" m_l_digits) (c_l_draw : CalG P w K mg base 1 "_law_draw" m_l_draw) (c_l_pick : CalG P w K mg base 2 "_law_pick" m_l_pick) (c_l_same : CalG P w K mg base 1 "_law_same" m_l_same) (c_l_add : CalG P w K mg base 3 "_law_add" m_l_add) (c_l_times : CalG P w K mg base 3 "_law_times" m_l_times) (c_l_det : CalG P w K mg base 4 "_law_det" (m_l_det 3)) (c_l_at : CalG P w K mg base 3 "_law_at" m_l_at) (c_l_divisors : CalG P w K mg base 1 "_law_divisors" m_l_divisors) (c_l_classes : CalG P w K mg base 2 "_law_classes" m_l_classes) (c_l_character : CalG P w K mg base 2 "_law_character" m_l_character) (c_l_is_fundamental : CalG P w K mg base 2 "_law_is_fundamental" m_l_is_fundamental) (c_l_weight : CalG P w K mg base 4 "_law_weight" m_l_weight) (c_l_two_change : CalG P w K mg base 5 "_law_two_change" m_l_two_change) : FnG P w K mg base 7 f fd ["script"] m_l_law := by
  refine fnG_of (k := 6) F sc_l_law rfl rfl (by decide) fun cdv A outer s H E hr hgd => ?_
  have nd := sc_l_law.nd
  have tk : Takes (cxOf (L2.CX P w) P w K mg base ["script", "box", "number", "due", "n", "total", "t", "one", "two", "rows", "other", "found", "change", "x", "y", "unit", "bad", "reason", "e", "k", "d"] "law" (defScope s_l_law) f cdv A outer s H E) (WXof E) := takes_of rfl rfl rfl rfl
  have po : PassesOwn (model (cxOf (L2.CX P w) P w K mg base ["script", "box", "number", "due", "n", "total", "t", "one", "two", "rows", "other", "found", "change", "x", "y", "unit", "bad", "reason", "e", "k", "d"] "law" (defScope s_l_law) f cdv A outer s H E).prog (cxOf (L2.CX P w) P w K mg base ["script", "box", "number", "due", "n", "total", "t", "one", "two", "rows", "other", "found", "change", "x", "y", "unit", "bad", "reason", "e", "k", "d"] "law" (defScope s_l_law) f cdv A outer s H E).w) (cxOf (L2.CX P w) P w K mg base ["script", "box", "number", "due", "n", "total", "t", "one", "two", "rows", "other", "found", "change", "x", "y", "unit", "bad", "reason", "e", "k", "d"] "law" (defScope s_l_law) f cdv A outer s H E).A (cxOf (L2.CX P w) P w K mg base ["script", "box", "number", "due", "n", "total", "t", "one", "two", "rows", "other", "found", "change", "x", "y", "unit", "bad", "reason", "e", "k", "d"] "law" (defScope s_l_law) f cdv A outer s H E).env (cxOf (L2.CX P w) P w K mg base ["script", "box", "number", "due", "n", "total", "t", "one", "two", "rows", "other", "found", "change", "x", "y", "unit", "bad", "reason", "e", "k", "d"] "law" (defScope s_l_law) f cdv A outer s H E).xe := passes_of rfl
  refine ess_cons ?_ (ess_cons ?_ (ess_cons ?_ (ess_cons ?_ (ess_cons ?_ (ess_cons ?_ (ess_cons ?_ (ess_cons ?_ (ess_cons ?_ (ess_cons ?_ (ess_cons ?_ (ess_cons ?_ (ess_cons ?_ (ess_cons ?_ (ess_cons ?_ (ess_cons ?_ (ess_cons ?_ (ess_cons ?_ (ess_cons ?_ (ess_cons ?_ (ess_one ?_))))))))))))))))))))
  · exact (es_set nd rfl (by first | exact .inl rfl | exact .inr rfl) (ev_cel (ea_cons (ev_cl c_l_digits hr (by decide) hgd tk (ea_cons (vr 0) (ea_cons ev_int (ea_cons ev_int ea_nil)))) (ea_cons ev_int ea_nil))))
  · exact (es_set nd rfl (by first | exact .inl rfl | exact .inr rfl) (o_sub ev_int (o_sub (o_mul ev_int (o_add ev_int (ev_cl c_l_draw hr (by decide) hgd tk (ea_cons (vr 1) (ea_cons ev_int ea_nil))))) (ev_cl c_l_pick hr (by decide) hgd tk (ea_cons (vr 1) (ea_cons (ev_lst (ea_cons ev_int (ea_cons ev_int ea_nil))) ea_nil))))))
  · exact (es_set nd rfl (by first | exact .inl rfl | exact .inr rfl) (ev_cl c_l_classes hr (by decide) hgd tk (ea_cons (vr 2) (ea_cons ev_bl ea_nil))))
  · exact (es_if (et_W (ew_or (et_not (et_tru (ev_cl c_l_same hr (by decide) hgd tk (ea_cons (ev_cl c_two_classes hr (by decide) hgd tk (ea_cons (vr 2) ea_nil)) (ea_cons (b_tuple t.z_tuple (ea_cons (vr 3) ea_nil)) ea_nil))))) (ew_or1 (et_not (et_tru (ev_cl c_l_same hr (by decide) hgd tk (ea_cons (ev_cl c_weighted_classes hr (by decide) hgd tk (ea_cons (vr 2) ea_nil)) (ea_cons (ev_cl c_l_weight hr (by decide) hgd tk (ea_cons (vr 2) ea_nil)) ea_nil)))))))) (ess_one (es_ret ev_bl)) ess_nil)
  · exact (es_if (et_W (ew_and (et_tru (ev_cl c_l_is_fundamental hr (by decide) hgd tk (ea_cons (vr 2) ea_nil))) (ew_and (t_lt (vr 2) (o_neg ev_int)) (ew_and1 (t_ne hr (o_mul (b_len t.z_len (ea_cons (vr 3) ea_nil)) (vr 2)) (b_sum t.z_sum (ea_cons (ev_lc (own := [("k", 19)]) rfl nd (ei_rng2 (by rfl) t.z_range (ea_cons ev_int (ea_cons (o_sub ev_int (vr 2)) ea_nil))) (blkOk_by (by first | rfl | kernel_rfl)) (by decide) (fun _ _ _ _ _ => (eg_name nd rfl (by first | exact .inl rfl | exact .inr rfl))) (fun _ _ _ _ _ => ets_nil) (fun _ _ _ _ _ => (o_mul (vr 19) (ev_cl c_l_character hr (by decide) hgd takes0 (ea_cons (vr 2) (ea_cons (vr 19) ea_nil)))))) ea_nil))))))) (ess_one (es_ret ev_bl)) ess_nil)
  · exact (es_set nd rfl (by first | exact .inl rfl | exact .inr rfl) (o_add ev_int (ev_cl c_l_draw hr (by decide) hgd tk (ea_cons (vr 1) (ea_cons ev_int ea_nil)))))
  · exact (es_asg (ev_tup (ea_cons (ev_tup (ea_cons ev_int (ea_cons ev_int ea_nil))) (ea_cons ev_int ea_nil))) (eg_tup rfl (egs_cons (eg_name nd rfl (by first | exact .inl rfl | exact .inr rfl)) (egs_cons (eg_name nd rfl (by first | exact .inl rfl | exact .inr rfl)) egs_nil))))
  · exact (es_while po (t_le (o_mul (vr 6) (vr 6)) (o_mul ev_int (vr 4))) (ess_cons (es_set nd rfl (by first | exact .inl rfl | exact .inr rfl) (ev_if (t_eq hr (o_mul (vr 6) (vr 6)) (o_mul ev_int (vr 4))) (ev_tup (ea_cons (o_neg ev_int) (ea_cons ev_int ea_nil))) (ev_cl c_weighted_classes hr (by decide) hgd tk (ea_cons (o_sub (o_mul (vr 6) (vr 6)) (o_mul ev_int (vr 4))) ea_nil)))) (ess_cons (es_set nd rfl (by first | exact .inl rfl | exact .inr rfl) (ev_cl c_l_add hr (by decide) hgd tk (ea_cons (vr 5) (ea_cons (ev_if (t_eq hr (vr 6) ev_int) (vr 7) (ev_cl c_l_times hr (by decide) hgd tk (ea_cons (vr 7) (ea_cons (ev_tup (ea_cons ev_int (ea_cons ev_int ea_nil))) ea_nil)))) ea_nil)))) (ess_one (es_set nd rfl (by first | exact .inl rfl | exact .inr rfl) (o_add (vr 6) ev_int))))))
  · exact (es_if (t_ne hr (vr 5) (ev_tup (ea_cons (o_sub (o_mul ev_int (b_sum t.z_sum (ea_cons (ev_cl c_l_divisors hr (by decide) hgd tk (ea_cons (vr 4) ea_nil)) ea_nil))) (b_sum t.z_sum (ea_cons (ev_lc (own := [("d", 20)]) rfl nd (ei_seq (ev_cl c_l_divisors hr (by decide) hgd tk (ea_cons (vr 4) ea_nil))) (blkOk_by (by first | rfl | kernel_rfl)) (by decide) (fun _ _ _ _ _ => (eg_name nd rfl (by first | exact .inl rfl | exact .inr rfl))) (fun _ _ _ _ _ => ets_nil) (fun _ _ _ _ _ => (b_min t.z_min (ea_cons (vr 20) (ea_cons (o_fdiv (vr 4) (vr 20)) ea_nil))))) ea_nil))) (ea_cons ev_int ea_nil)))) (ess_one (es_ret ev_bl)) ess_nil)
  · exact (es_set nd rfl (by first | exact .inl rfl | exact .inr rfl) (ev_cl c_l_pick hr (by decide) hgd tk (ea_cons (vr 1) (ea_cons (vr 3) ea_nil))))
  · exact (es_set nd rfl (by first | exact .inl rfl | exact .inr rfl) (ev_cl c_l_two_change hr (by decide) hgd tk (ea_cons (vr 1) ea_nil)))
  · exact (es_set nd rfl (by first | exact .inl rfl | exact .inr rfl) (ev_cl c_two_changed hr (by decide) hgd tk (ea_cons (vr 8) (ea_cons (vr 9) ea_nil))))
  · exact (es_if (et_W (ew_or (et_not (et_tru (ev_cl c_l_same hr (by decide) hgd tk (ea_cons (ev_cl c_table_of hr (by decide) hgd tk (ea_cons (vr 10) ea_nil)) (ea_cons (ev_cl c_l_at hr (by decide) hgd tk (ea_cons (ev_cl c_table_of hr (by decide) hgd tk (ea_cons (vr 8) ea_nil)) (ea_cons (vr 9) ea_nil))) ea_nil))))) (ew_or (et_not (et_tru (ev_cl c_l_same hr (by decide) hgd tk (ea_cons (ev_cl c_two_of hr (by decide) hgd tk (ea_cons (ev_cl c_table_of hr (by decide) hgd tk (ea_cons (vr 10) ea_nil)) ea_nil)) (ea_cons (vr 10) ea_nil))))) (ew_or1 (t_ne hr (ev_cl c_gap hr (by decide) hgd tk (ea_cons (vr 10) ea_nil)) (vr 2)))))) (ess_one (es_ret ev_bl)) ess_nil)
  · exact (es_asg (ev_cl c_two_reduced hr (by decide) hgd tk (ea_cons (vr 10) ea_nil)) (eg_tup rfl (egs_cons (eg_name nd rfl (by first | exact .inl rfl | exact .inr rfl)) (egs_cons (eg_name nd rfl (by first | exact .inl rfl | exact .inr rfl)) egs_nil))))
  · exact (es_if (et_W (ew_or (et_not (et_tru (ev_cl c_l_same hr (by decide) hgd tk (ea_cons (vr 11) (ea_cons (vr 8) ea_nil))))) (ew_or (t_ne hr (ev_cl c_l_det hr (by decide) hgd tk (ea_cons (vr 12) ea_nil)) ev_int) (ew_or (et_not (et_tru (ev_cl c_l_same hr (by decide) hgd tk (ea_cons (ev_cl c_two_changed hr (by decide) hgd tk (ea_cons (vr 10) (ea_cons (vr 12) ea_nil))) (ea_cons (vr 8) ea_nil))))) (ew_or1 (et_not (et_tru (ev_cl c_l_same hr (by decide) hgd tk (ea_cons (ev_cl c_is_two_reduced hr (by decide) hgd tk (ea_cons (vr 10) ea_nil)) (ea_cons (q_in hr (vr 10) (vr 3)) ea_nil)))))))))) (ess_one (es_ret ev_bl)) ess_nil)
  · exact (es_par rfl nd rfl rfl (by decide) rfl rfl (ea_cons (o_sub (ev_cl c_l_draw hr (by decide) hgd tk (ea_cons (vr 1) (ea_cons ev_int ea_nil))) ev_int) (ea_cons (o_sub (ev_cl c_l_draw hr (by decide) hgd tk (ea_cons (vr 1) (ea_cons ev_int ea_nil))) ev_int) ea_nil)) (by rfl))
  · exact (es_if (t_ne hr (ev_cl c_two_worth hr (by decide) hgd tk (ea_cons (vr 8) (ea_cons (vr 13) (ea_cons (vr 14) ea_nil)))) (o_add (o_add (o_mul (o_mul (ev_ix (vr 8) ev_int) (vr 13)) (vr 13)) (o_mul (o_mul (ev_ix (vr 8) ev_int) (vr 13)) (vr 14))) (o_mul (o_mul (ev_ix (vr 8) ev_int) (vr 14)) (vr 14)))) (ess_one (es_ret ev_bl)) ess_nil)
  · exact (es_set nd rfl (by first | exact .inl rfl | exact .inr rfl) (ev_cl c_unit_two hr (by decide) hgd tk (ea_cons (vr 2) ea_nil)))
  · exact (es_if (et_W (ew_or (t_notin hr (vr 15) (vr 3)) (ew_or (t_ne hr (ev_ix (vr 15) ev_int) ev_int) (ew_or1 (et_not (et_tru (ev_cl c_l_same hr (by decide) hgd tk (ea_cons (ev_cl c_opposite_two hr (by decide) hgd tk (ea_cons (vr 10) ea_nil)) (ea_cons (ev_ix (ev_cl c_two_reduced hr (by decide) hgd tk (ea_cons (ev_tup (ea_cons (ev_ix (vr 8) ev_int) (ea_cons (o_sub ev_int (ev_ix (vr 8) ev_int)) (ea_cons (ev_ix (vr 8) ev_int) ea_nil)))) ea_nil)) ev_int) ea_nil))))))))) (ess_one (es_ret ev_bl)) ess_nil)
  · exact (es_for po rfl (ei_seq (ev_lst (ea_cons (ev_tup (ea_cons (ev_tup (ea_cons ev_int (ea_cons ev_int ea_nil))) (ea_cons ev_str ea_nil))) (ea_cons (ev_tup (ea_cons (ev_tup (ea_cons ev_int (ea_cons ev_int (ea_cons ev_int ea_nil)))) (ea_cons ev_str ea_nil))) (ea_cons (ev_tup (ea_cons (ev_tup (ea_cons (o_neg ev_int) (ea_cons ev_int (ea_cons (o_neg ev_int) ea_nil)))) (ea_cons ev_str ea_nil))) (ea_cons (ev_tup (ea_cons (ev_tup (ea_cons ev_int (ea_cons ev_int (ea_cons ev_int ea_nil)))) (ea_cons ev_str ea_nil))) ea_nil)))))) (eg_tup rfl (egs_cons (eg_name nd rfl (by first | exact .inl rfl | exact .inr rfl)) (egs_cons (eg_name nd rfl (by first | exact .inl rfl | exact .inr rfl)) egs_nil))) (ess_one (es_try t.x_BadTable rfl rfl nd rfl rfl (by rfl) (ess_one (es_ret ev_bl)) (fun W pn xe tk2 po => (ess_one (es_expr (ev_cl c_two_reduced hr (by decide) hgd tk2 (ea_cons (vr 16) ea_nil))))) (fun e oe d pn hz hf => xss_one (xs_if (xt_cmp (op_neA (hu64m hr)) opd_ne gEq_bl (xe_reason t.x_BadTable hz hf rfl rfl (by first | exact Or.inl rfl | exact Or.inr (Or.inl rfl))) (xe_of (vr 17)) (nomark _)) (ess_one (es_ret ev_bl)) ess_nil)))))
  · exact (es_ret ev_bl)
end
end K11
/-! k11, part HH: bounds, what the law asks of the classes. -/
namespace K11
open PySem DL
variable {M : Store}
theorem mb {x y A B : Int} (hx : -A ≤ x ∧ x ≤ A) (hy : -B ≤ y ∧ y ≤ B) : -(A * B) ≤ x * y ∧ x * y ≤ A * B := by
  have h1 : x.natAbs ≤ A.natAbs := by omega
  have h2 : y.natAbs ≤ B.natAbs := by omega
  have h3 := Nat.mul_le_mul h1 h2
  rw [← Int.natAbs_mul, ← Int.natAbs_mul] at h3
  have h4 : 0 ≤ A * B := Int.mul_nonneg (by omega) (by omega)
  omega
theorem ab {x y A B : Int} (hx : -A ≤ x ∧ x ≤ A) (hy : -B ≤ y ∧ y ≤ B) : -(A + B) ≤ x + y ∧ x + y ≤ A + B := by omega
/-- the numbers of a reduced form -/
theorem red_b {f : Frm} {n : Int} (hn : Num n) (hp : f.pos) (hg : f.gap = n) (hr : Red f) : (1 ≤ f.a ∧ f.a ≤ 400) ∧ (-400 ≤ f.b ∧ f.b ≤ 400) ∧ (1 ≤ f.c ∧ f.c ≤ 400) := by
  have h1 := hp.1
  have hc := pos_c hp
  have h2 := hr.lo; have h3 := hr.hi; have h4 := hr.ac
  have hb : f.b * f.b ≤ f.a * f.a := by
    have := mb (x := f.b) (y := f.b) (A := f.a) (B := f.a) ⟨by omega, by omega⟩ ⟨by omega, by omega⟩
    exact this.2
  have ha : f.a * f.a ≤ f.a * f.c := Int.mul_le_mul_of_nonneg_left h4 (by omega)
  have hgap : f.b * f.b - 4 * f.a * f.c = n := hg
  have h5 : 4 * f.a * f.c = 4 * (f.a * f.c) := by rw [Int.mul_assoc]
  have h6 := hn.lo
  have h7 : f.a * f.c ≤ 400 := by omega
  have h8 : f.c ≤ f.a * f.c := by
    have := Int.mul_le_mul_of_nonneg_right h1 (show (0:Int) ≤ f.c by omega)
    omega
  omega
theorem row_sm {n : Int} (hn : Num n) : ∀ r ∈ prm n, ∀ x ∈ r, Sm x := by
  intro r hr x hx
  obtain ⟨f, rfl, hp, hg, hR, _⟩ := (mem_prm hn).mp hr
  obtain ⟨h1, h2, h3⟩ := red_b hn hp hg hR
  unfold Frm.row at hx
  simp only [List.mem_cons, List.not_mem_nil, or_false] at hx
  rcases hx with rfl | rfl | rfl <;> exact ⟨by omega, by omega⟩
theorem row_3 {n : Int} (hn : Num n) : ∀ r ∈ prm n, r.length ≤ 3 := by
  intro r hr
  obtain ⟨f, rfl, _⟩ := (mem_prm hn).mp hr
  exact Nat.le_refl _
theorem cls_800 {n : Int} (h : Num n) : (cls n).length ≤ 800 := by
  unfold cls clsU
  have key : ∀ l : List Int, (∀ a ∈ l, 1 ≤ a ∧ a ≤ 20) → (l.flatMap (clsA n)).length ≤ 40 * l.length := by
    intro l
    induction l with
    | nil => intro _; simp
    | cons a l ih =>
      intro q
      rw [List.flatMap_cons, List.length_append, List.length_cons]
      have := ih fun b hb => q b (List.mem_cons_of_mem _ hb)
      have := clsA_len (n := n) (a := a)
      have := q a List.mem_cons_self
      omega
  have hk := h.k20
  have := key (rgI 1 (rootN ((0 - n) / 3))) fun a ha => by have := mem_rgI.mp ha; omega
  rw [rg_len] at this
  omega
theorem prm_800 {n : Int} (h : Num n) : (prm n).length ≤ 800 := Nat.le_trans (List.length_filter_le _ _) (cls_800 h)
theorem wSum_b : ∀ (l : List (List Int)) (x : Int), three l → 0 ≤ x → 0 ≤ wSum l x ∧ wSum l x ≤ x + 6 * l.length := by
  intro l
  induction l with
  | nil => intro x _ h; simp [wSum]; exact h
  | cons r l ih =>
    intro x h3 h
    obtain ⟨a, b, c, rfl⟩ := h3 r List.mem_cons_self
    have e : wSum ([a, b, c] :: l) x = wSum l (x + wP a b c) := rfl
    have hw : 0 ≤ wP a b c ∧ wP a b c ≤ 6 := by
      unfold wP
      split
      · omega
      · split <;> omega
    rw [e]
    have := ih (x + wP a b c) (fun r hr => h3 r (List.mem_cons_of_mem _ hr)) (by omega)
    rw [List.length_cons]
    omega
theorem wgt_sm {n : Int} (h : Num n) : ∀ x ∈ wgt n, Sm x := by
  have hb := wSum_b (cls n) 0 cls_three (Int.le_refl _)
  have hl := cls_800 h
  intro x hx
  unfold wgt at hx
  simp only [List.mem_cons, List.not_mem_nil, or_false] at hx
  have hg : 0 ≤ (Int.gcd (wSum (cls n) 0) 6 : Int) := by omega
  have d1 : wSum (cls n) 0 / (Int.gcd (wSum (cls n) 0) 6 : Int) ≤ wSum (cls n) 0 := Int.ediv_le_self _ hb.1
  have d2 := Int.ediv_nonneg hb.1 hg
  have d3 : (6 : Int) / (Int.gcd (wSum (cls n) 0) 6 : Int) ≤ 6 := Int.ediv_le_self _ (by decide)
  have d4 : (0 : Int) ≤ 6 / (Int.gcd (wSum (cls n) 0) 6 : Int) := Int.ediv_nonneg (by decide) hg
  rcases hx with rfl | rfl <;> exact ⟨by omega, by omega⟩
/-- the form of 1 -/
def unitF (n : Int) : Frm := ⟨1, n % 4, (n % 4 - n) / 4⟩
theorem unit_in {n : Int} (h : Num n) : (unitF n).row ∈ prm n := by
  have h1 := h.neg; have h2 := h.mod
  refine (mem_prm h).mpr ⟨unitF n, rfl, ⟨Int.le_refl 1, ?_⟩, ?_, ⟨?_, ?_, ?_, ?_⟩, ?_⟩
  · show n % 4 * (n % 4) - 4 * 1 * ((n % 4 - n) / 4) < 0
    rcases (show n % 4 = 0 ∨ n % 4 = 1 by omega) with e | e <;> rw [e] <;> omega
  · show n % 4 * (n % 4) - 4 * 1 * ((n % 4 - n) / 4) = n
    rcases (show n % 4 = 0 ∨ n % 4 = 1 by omega) with e | e <;> rw [e] <;> omega
  · show -1 < n % 4; omega
  · show n % 4 ≤ 1; omega
  · show 1 ≤ (n % 4 - n) / 4; omega
  · intro _; show 0 ≤ n % 4; omega
  · show gcdL [1, _, _] = 1
    simp [gcdL]
/-- the sum of k times the character -/
def chS (n : Int) (k : Nat) : Int := ((rgI 1 k).map fun i => i * chi n i.toNat).sum
theorem rgI_snoc {lo : Int} {k : Nat} : rgI lo (k + 1) = rgI lo k ++ [lo + (k : Nat)] := by
  unfold rgI
  rw [List.range_succ, List.map_append]
  rfl
theorem chS_is {n : Int} : ∀ k : Nat, 2 * chS n k + (k : Int) * (k + 1) = 2 * sumC n (k + 1) := by
  intro k
  induction k with
  | zero => simp [chS, sumC, rgI]
  | succ k ih =>
    have e : chS n (k + 1) = chS n k + ((k : Int) + 1) * chi n (k + 1) := by
      unfold chS
      rw [rgI_snoc, List.map_append, List.sum_append]
      have : (1 + (k : Int)).toNat = k + 1 := by omega
      simp [this, Int.add_comm]
    have e2 : sumC n (k + 2) = sumC n (k + 1) + ((k + 1 : Nat) : Int) * (chi n (k + 1) + 1) := rfl
    rw [e, e2]
    have : ((k + 1 : Nat) : Int) = (k : Int) + 1 := by omega
    rw [this]
    grind
/-- the number of classes, as the law asks -/
theorem classes_ch {n : Int} {N : Nat} (h : Num n) (hN : n = -(N : Int)) (h4 : n < -4) (hf : fund N = true) : ((prm n).length : Int) * n = chS n (N - 1) := by
  have h1 := h.lo
  have key := cn_all hN (by omega) (by omega) h.mod hf
  have h2 := chS_is (n := n) (N - 1)
  rw [show N - 1 + 1 = N by omega] at h2
  have h3 : ((N - 1 : Nat) : Int) = (N : Int) - 1 := by omega
  rw [h3] at h2
  have h5 : ((N : Int) - 1) * ((N : Int) - 1 + 1) = (N : Int) * (N - 1) := by grind
  rw [h5] at h2
  have h6 : (N : Int) * (N - 1) % 2 = 0 := by
    rcases (show (N : Int) % 2 = 0 ∨ (N : Int) % 2 = 1 by omega) with e | e
    · rw [Int.mul_emod, e]; simp
    · rw [Int.mul_emod, show ((N : Int) - 1) % 2 = 0 by omega]; simp
  have h7 : ((prm n).length : Int) * n = -(((prm n).length : Int) * N) := by rw [hN, Int.mul_neg]
  rw [h7]
  omega
theorem lgd_due {n : Int} : ((cls n).filter fun r => !true || isPrim r) = prm n := by
  unfold prm
  congr
end K11
/-! k11, part L: the law's own call (printed by gen/k11l.py). -/
namespace K11
open PySem DL
theorem drawB {ds : List Int} {a m : Int} (ha : 0 ≤ a) (ha2 : a ≤ 1000000) (hm : 0 < m) : ∃ r : Int, 0 ≤ r ∧ r < m ∧ m_l_draw [.cel 0, .int m] [Box ds a] = some (.ok (.int r), [Box ds (a + 1)]) := draw_is (M := [Box ds a]) (c := 0) rfl ha ha2 hm
theorem pickB {α : Type} {enc : α → D} {l : List α} {ds : List Int} {a : Int} (ha : 0 ≤ a) (ha2 : a ≤ 1000000) (hl : l ≠ []) (h1 : ∀ x, clo 1 (enc x) = true) (h2 : ∀ x, notCel (enc x) = true) :
    ∃ x ∈ l, m_l_pick [.cel 0, .imm (l.map enc)] [Box ds a] = some (.ok (enc x), [Box ds (a + 1)]) := pick_is (M := [Box ds a]) (c := 0) rfl ha ha2 hl h1 h2
theorem changeB {ds : List Int} {a : Int} (ha : 0 ≤ a) (ha2 : a ≤ 900) : ∃ a' p q r s, a ≤ a' ∧ a' ≤ a + 24 ∧ Chn 729 p q r s ∧ p * s - q * r = 1 ∧ m_l_two_change [.cel 0] [Box ds a] = some (.ok (eTab [[p, q], [r, s]]), [Box ds a']) := two_change_is (M := [Box ds a]) (c := 0) rfl ha ha2
/-- the sum of characters -/
theorem sum_is {n : Int} {N : Nat} {M : Store} (hN : n = -(N : Int)) (h1 : 1 ≤ N) (h2 : N ≤ 1200) {a0 a1 a3 a4 a5 a6 a7 a8 a9 a10 a11 a12 a13 a14 a15 a16 a17 a18 a19 a20 : Option D} :
    cCall gSum (aCons (cLc (iRng2C (aCons (cC (.int 1)) (aCons (cOp gSub (cC (.int 0)) (cVar 2)) aNil))) (gN 19) tYesC (cOp gMul (cVar 19) (cCall m_l_character (aCons (cVar 2) (aCons (cVar 19) aNil)))) [19]) aNil) [a0, a1, some (.int n), a3, a4, a5, a6, a7, a8, a9, a10, a11, a12, a13, a14, a15, a16, a17, a18, a19, a20] M = some (.ok (.int (chS n (N - 1))), M) := by
  have hi : iRng2C (aCons (cC (.int 1)) (aCons (cOp gSub (cC (.int 0)) (cVar 2)) aNil)) [a0, a1, some (.int n), a3, a4, a5, a6, a7, a8, a9, a10, a11, a12, a13, a14, a15, a16, a17, a18, a19, a20] M = some (.ok ((rgI 1 (N - 1)).map D.int), M) := by
    have e : (0 - n - 1).toNat = N - 1 := by omega
    simp [smI_of (show -(2 ^ 62) ≤ -n by omega) (show -n < 2 ^ 62 by omega), show smI 1 = true by decide, rgD_eq]
    rw [show (-n).toNat = N by omega]
  have hc := lc_map (M := M) (en := [a0, a1, some (.int n), a3, a4, a5, a6, a7, a8, a9, a10, a11, a12, a13, a14, a15, a16, a17, a18, a19, a20]) (g := gN 19) (f := cOp gMul (cVar 19) (cCall m_l_character (aCons (cVar 2) (aCons (cVar 19) aNil)))) (mk := mkI) (vs := [19]) D.int (fun i => D.int (i * chi n i.toNat)) (rgI 1 (N - 1)) hi (by rw [rg_len]; omega) fun i hii => ⟨[a0, a1, some (.int n), a3, a4, a5, a6, a7, a8, a9, a10, a11, a12, a13, a14, a15, a16, a17, a18, some (.int i), a20], by simp, by
      have hb := mem_rgI.mp hii
      have e := character_is (M := M) (n := n) (k := i.toNat) (by omega) (by omega)
      have e2 : nI i.toNat = D.int i := by unfold nI; congr 1; omega
      rw [e2] at e
      simp [e, show mulC i (chi n i.toNat) = true from mulC_l (by omega) (by omega)]⟩
  rw [cCall_e, aCons_e]
  rw [show cLc (iRng2C (aCons (cC (.int 1)) (aCons (cOp gSub (cC (.int 0)) (cVar 2)) aNil))) (gN 19) tYesC (cOp gMul (cVar 19) (cCall m_l_character (aCons (cVar 2) (aCons (cVar 19) aNil)))) [19] [a0, a1, some (.int n), a3, a4, a5, a6, a7, a8, a9, a10, a11, a12, a13, a14, a15, a16, a17, a18, a19, a20] M = _ from hc]
  rw [bnd_ok, aNil_e, bnd_ok, bnd_ok]
  have : ((rgI 1 (N - 1)).map fun i => D.int (i * chi n i.toNat)) = ((rgI 1 (N - 1)).map fun i => i * chi n i.toNat).map D.int := by
    rw [List.map_map]; rfl
  rw [mkI_e, this]
  exact gSum_is
end K11
/-! k11, part JJ: the test by characters. -/
namespace K11
open PySem DL
noncomputable def stCh : TF := (tAndC (cTru (cCall m_l_is_fundamental (aCons (cVar 2) aNil))) (tAndC (cTru (cOp gLt (cVar 2) (cUn gNeg (cC (.int 4))))) (cTru (cOp (gEq true) (cOp gMul (cCall gLen (aCons (cVar 3) aNil)) (cVar 2)) (cCall gSum (aCons (cLc (iRng2C (aCons (cC (.int 1)) (aCons (cOp gSub (cC (.int 0)) (cVar 2)) aNil))) (gN 19) tYesC (cOp gMul (cVar 19) (cCall m_l_character (aCons (cVar 2) (aCons (cVar 19) aNil)))) [19]) aNil))))))
theorem stCh_is {n : Int} {N : Nat} {M : Store} {due : List D} (hnum : Num n) (hN : n = -(N : Int)) (hdu : n < -4 → fund N = true → (due.length : Int) * n = chS n (N - 1)) {a0 a1 a4 a5 a6 a7 a8 a9 a10 a11 a12 a13 a14 a15 a16 a17 a18 a19 a20 : Option D} :
    stCh [a0, a1, some (.int n), some (.imm (due)), a4, a5, a6, a7, a8, a9, a10, a11, a12, a13, a14, a15, a16, a17, a18, a19, a20] M = some (.ok false, M) := by
  have hneg := hnum.neg; have hlo := hnum.lo
  have hf := is_fundamental_is (M := M) (n := n) (k := N) (by omega) (by omega) (by omega)
  have hs := sum_is (M := M) hN (by omega) (by omega) (a0 := a0) (a1 := a1) (a3 := some (.imm (due))) (a4 := a4) (a5 := a5) (a6 := a6) (a7 := a7) (a8 := a8) (a9 := a9) (a10 := a10) (a11 := a11) (a12 := a12) (a13 := a13) (a14 := a14) (a15 := a15) (a16 := a16) (a17 := a17) (a18 := a18) (a19 := a19) (a20 := a20)
  have e1 : cTru (cCall m_l_is_fundamental (aCons (cVar 2) aNil)) [a0, a1, some (.int n), some (.imm (due)), a4, a5, a6, a7, a8, a9, a10, a11, a12, a13, a14, a15, a16, a17, a18, a19, a20] M = some (.ok (fund N), M) := by
    rw [cTru_e, cCall_e, aCons_e, cVar_e]
    simp only [List.getElem?_cons_zero, List.getElem?_cons_succ, bnd_ok, aNil_e, hf, tru_bl]
  have e2 : cTru (cOp gLt (cVar 2) (cUn gNeg (cC (.int 4)))) [a0, a1, some (.int n), some (.imm (due)), a4, a5, a6, a7, a8, a9, a10, a11, a12, a13, a14, a15, a16, a17, a18, a19, a20] M = some (.ok (decide (n < -4)), M) := by
    simp only [cTru_e, cOp_e, cVar_e, cUn_e, cC_e, gNeg_e, List.getElem?_cons_zero, List.getElem?_cons_succ, bnd_ok, gI_e, yes2_e, if_true, tru_bl]
  have e3a : cCall gLen (aCons (cVar 3) aNil) [a0, a1, some (.int n), some (.imm (due)), a4, a5, a6, a7, a8, a9, a10, a11, a12, a13, a14, a15, a16, a17, a18, a19, a20] M = some (.ok (.int (due.length : Int)), M) := by
    simp only [cCall_e, aCons_e, aNil_e, cVar_e, List.getElem?_cons_zero, List.getElem?_cons_succ, bnd_ok, gLen_l]
  obtain ⟨L, hL⟩ : ∃ L : Int, L = (due.length : Int) := ⟨_, rfl⟩
  rw [← hL] at e3a hdu
  have hm : mulC L n = true := mulC_r (by omega) (by omega)
  have e3 : cOp gMul (cCall gLen (aCons (cVar 3) aNil)) (cVar 2) [a0, a1, some (.int n), some (.imm (due)), a4, a5, a6, a7, a8, a9, a10, a11, a12, a13, a14, a15, a16, a17, a18, a19, a20] M = some (.ok (.int (L * n)), M) := by
    rw [cOp_e, e3a, bnd_ok]
    simp only [cVar_e, List.getElem?_cons_zero, List.getElem?_cons_succ, bnd_ok, gI_e, hm, if_true]
  unfold stCh
  rw [tAndC_e, e1, bnd_ok]
  cases hfu : fund N with
  | false => rfl
  | true =>
    rw [if_pos rfl, tAndC_e, e2, bnd_ok]
    by_cases h4 : n < -4
    · rw [decide_eq_true h4, if_pos rfl, cTru_e, cOp_e, e3, bnd_ok, hs, bnd_ok, gEq_int, bnd_ok, hdu h4 hfu]
      simp only [if_true, beq_self_eq_true, Bool.not_true, tru_bl]
    · rw [decide_eq_false h4]; rfl
end K11
/-! k11, part L: the law's own call (printed by gen/k11l2.py). -/
namespace K11
open PySem DL
theorem rsame {r : List Int} {M : Store} (h : ∀ x ∈ r, Sm x) (hl : r.length ≤ 100) : m_l_same [eRow r, eRow r] M = some (.ok (.bl true), M) := same_row h hl
theorem law_ok (ns : List Int) (hlen : ns.length ≤ 63) : ∃ M', m_l_law [.scr (ns.map .int)] [] = some (.ok (.bl true), M') := by
  unfold m_l_law f_l_law
  rw [mDef_1]
  rw [show start0 21 [D.scr (ns.map .int)] = [some (.scr (ns.map .int)), none, none, none, none, none, none, none, none, none, none, none, none, none, none, none, none, none, none, none, none] from rfl]
  obtain ⟨ds, hds⟩ := digits_is (M := []) (ns := ns)
  -- box
  rw [sSeq_nx (en1 := [some (.scr (ns.map .int)), some (.cel 0), none, none, none, none, none, none, none, none, none, none, none, none, none, none, none, none, none, none, none]) (M1 := [Box ds 0]) (by simp [hds, Box])]
  -- number
  obtain ⟨r1, a1, b1, h1⟩ := drawB (ds := ds) (a := 0) (m := 300) (by omega) (by omega) (by omega)
  obtain ⟨r2, a2, h2⟩ := pickB (enc := D.int) (l := [0, 1]) (ds := ds) (a := 0 + 1) (by omega) (by omega) (by simp) (fun _ => rfl) (fun _ => rfl)
  have hr2 : r2 = 0 ∨ r2 = 1 := by simpa using a2
  rw [show List.map D.int [0, 1] = [.int 0, .int 1] from rfl] at h2
  obtain ⟨n, hn⟩ : ∃ n : Int, n = 0 - (4 * (1 + r1) - r2) := ⟨_, rfl⟩
  have hnum : Num n := ⟨by omega, by omega, by omega⟩
  rw [sSeq_nx (en1 := [some (.scr (ns.map .int)), some (.cel 0), some (.int n), none, none, none, none, none, none, none, none, none, none, none, none, none, none, none, none, none, none]) (M1 := [Box ds 2]) (by
    rw [hn]
    simp only [sAsg_e, cOp_e, cC_e, cVar_e, cCall_e, aCons_e, aNil_e, cLst_e, List.getElem?_cons_zero, List.getElem?_cons_succ, bnd_ok, h1, h2, List.length_cons, List.length_nil, Nat.reduceAdd, szOk_2, gAddA_i, gI_e, yes2_e, if_true, m4, sbnd_ok, gN_e, List.set_cons_succ, List.set_cons_zero]
    rfl)]
  -- due
  have hdue : ∀ M : Store, m_l_classes [.int n, .bl true] M = some (.ok (.imm ((prm n).map eRow)), M) := fun M => by
    have := l_classes_is (M := M) (w := true) hnum
    rw [lgd_due] at this
    exact this
  rw [sSeq_nx (en1 := [some (.scr (ns.map .int)), some (.cel 0), some (.int n), some (.imm ((prm n).map eRow)), none, none, none, none, none, none, none, none, none, none, none, none, none, none, none, none, none]) (M1 := [Box ds 2]) (by simp [hdue])]
  -- both lists, both weights
  have hts : m_l_same [eTab (prm n), eTab (prm n)] [Box ds 2] = some (.ok (.bl true), [Box ds 2]) := same_tab (row_sm hnum) (row_3 hnum) (Nat.le_trans (prm_800 hnum) (by decide))
  have htab : D.tup ((prm n).map eRow) = eTab (prm n) := rfl
  have hws : m_l_same [eRow (wgt n), eRow (wgt n)] [Box ds 2] = some (.ok (.bl true), [Box ds 2]) := same_row (wgt_sm hnum) (by show 2 ≤ 100; decide)
  have hwl := l_weight_is (M := [Box ds 2]) hnum (wgt_all hnum.neg hnum.lo hnum.mod)
  rw [sSeq_nx (en1 := [some (.scr (ns.map .int)), some (.cel 0), some (.int n), some (.imm ((prm n).map eRow)), none, none, none, none, none, none, none, none, none, none, none, none, none, none, none, none, none]) (M1 := [Box ds 2]) (by
    simp [two_classes_is hnum, htab, hts, weighted_cls hnum, hwl, hws])]
  -- characters
  obtain ⟨N, hN⟩ : ∃ N : Nat, n = -(N : Int) := ⟨(-n).toNat, by have := hnum.neg; omega⟩
  have hneg := hnum.neg; have hlo := hnum.lo
  have hst := stCh_is (M := [Box ds 2]) (due := (prm n).map eRow) hnum hN (fun h4 hf => by rw [List.length_map]; exact classes_ch hnum hN h4 hf) (a0 := some (.scr (ns.map .int))) (a1 := some (.cel 0)) (a4 := none) (a5 := none) (a6 := none) (a7 := none) (a8 := none) (a9 := none) (a10 := none) (a11 := none) (a12 := none) (a13 := none) (a14 := none) (a15 := none) (a16 := none) (a17 := none) (a18 := none) (a19 := none) (a20 := none)
  unfold stCh at hst
  rw [sSeq_nx (en1 := [some (.scr (ns.map .int)), some (.cel 0), some (.int n), some (.imm ((prm n).map eRow)), none, none, none, none, none, none, none, none, none, none, none, none, none, none, none, none, none]) (M1 := [Box ds 2]) (by
    rw [sIf_e, hst, sbnd_ok]; rfl)]
  -- n
  obtain ⟨r3, a3, b3, h3⟩ := drawB (ds := ds) (a := 2) (m := 40) (by omega) (by omega) (by omega)
  rw [sSeq_nx (en1 := [some (.scr (ns.map .int)), some (.cel 0), some (.int n), some (.imm ((prm n).map eRow)), some (.int (1 + r3)), none, none, none, none, none, none, none, none, none, none, none, none, none, none, none, none]) (M1 := [Box ds 3]) (by simp [h3])]
  rw [sSeq_nx (en1 := [some (.scr (ns.map .int)), some (.cel 0), some (.int n), some (.imm ((prm n).map eRow)), some (.int (1 + r3)), some (eRow [0, 1]), some (.int 0), none, none, none, none, none, none, none, none, none, none, none, none, none, none]) (M1 := [Box ds 3]) (by simp [row2])]
  -- Hurwitz
  obtain ⟨b6, b7, hh⟩ := hur_loop (M := [Box ds 3]) (n := 1 + r3) (by omega) (by omega) (a0 := some (.scr (ns.map .int))) (a1 := some (.cel 0)) (a2 := some (.int n)) (a3 := some (.imm ((prm n).map eRow))) (a8 := none) (a9 := none) (a10 := none) (a11 := none) (a12 := none) (a13 := none) (a14 := none) (a15 := none) (a16 := none) (a17 := none) (a18 := none) (a19 := none) (a20 := none) 14 0 [0, 1] [hurR (1 + r3), 1] none (by omega) (by omega) (hur_all (by omega) (by omega))
  unfold tstH bodH at hh
  rw [sSeq_nx hh]
  have hR := rhsH_is (M := [Box ds 3]) (n := 1 + r3) (by omega) (by omega) (a0 := some (.scr (ns.map .int))) (a1 := some (.cel 0)) (a2 := some (.int n)) (a3 := some (.imm ((prm n).map eRow))) (a5 := some (eRow [hurR (1 + r3), 1])) (a6 := b6) (a7 := b7) (a8 := none) (a9 := none) (a10 := none) (a11 := none) (a12 := none) (a13 := none) (a14 := none) (a15 := none) (a16 := none) (a17 := none) (a18 := none) (a19 := none) (a20 := none)
  unfold rhsH at hR
  rw [sSeq_nx (en1 := [some (.scr (ns.map .int)), some (.cel 0), some (.int n), some (.imm ((prm n).map eRow)), some (.int (1 + r3)), some (eRow [hurR (1 + r3), 1]), b6, b7, none, none, none, none, none, none, none, none, none, none, none, none, none]) (M1 := [Box ds 3]) (by
    rw [sIf_e, cTru_e, cOp_e, cVar_e]
    simp only [List.getElem?_cons_zero, List.getElem?_cons_succ, bnd_ok]
    rw [hR]
    simp only [bnd_ok, gEq_row]
    simp)]
  -- two
  have hne : prm n ≠ [] := fun e => by have := unit_in hnum; rw [e] at this; exact nomatch this
  obtain ⟨tr, htr, h5⟩ := pickB (enc := eRow) (l := prm n) (ds := ds) (a := 3) (by omega) (by omega) hne (fun _ => clo_row) (fun _ => rfl)
  obtain ⟨f, rfl, fp, fg, fR, f1⟩ := (mem_prm hnum).mp htr
  obtain ⟨fb1, fb2, fb3⟩ := red_b hnum fp fg fR
  rw [sSeq_nx (en1 := [some (.scr (ns.map .int)), some (.cel 0), some (.int n), some (.imm ((prm n).map eRow)), some (.int (1 + r3)), some (eRow [hurR (1 + r3), 1]), b6, b7, some (eF f), none, none, none, none, none, none, none, none, none, none, none, none]) (M1 := [Box ds 4]) (by simp [h5]; rfl)]
  -- rows
  obtain ⟨at_, p, q, r, s, c1, c2, ch, cd, h6⟩ := changeB (ds := ds) (a := 4) (by omega) (by omega)
  obtain ⟨u, hu⟩ : ∃ u : Chg, u = ⟨p, q, r, s⟩ := ⟨_, rfl⟩
  have hud : u.det = 1 := by rw [hu]; exact cd
  have husm : Sm u.p ∧ Sm u.q ∧ Sm u.r ∧ Sm u.s := by
    have := ch.p1; have := ch.p2; have := ch.q1; have := ch.q2; have := ch.r1; have := ch.r2; have := ch.s1; have := ch.s2
    rw [hu]
    exact ⟨⟨by dsimp only; omega, by dsimp only; omega⟩, ⟨by dsimp only; omega, by dsimp only; omega⟩, ⟨by dsimp only; omega, by dsimp only; omega⟩, ⟨by dsimp only; omega, by dsimp only; omega⟩⟩
  have he : eTab [[p, q], [r, s]] = eC u := by rw [hu]; rfl
  rw [he] at h6
  rw [sSeq_nx (en1 := [some (.scr (ns.map .int)), some (.cel 0), some (.int n), some (.imm ((prm n).map eRow)), some (.int (1 + r3)), some (eRow [hurR (1 + r3), 1]), b6, b7, some (eF f), some (eC u), none, none, none, none, none, none, none, none, none, none, none]) (M1 := [Box ds at_]) (by simp [h6])]
  -- other
  obtain ⟨g, hg⟩ : ∃ g : Frm, g = f.act u := ⟨_, rfl⟩
  have hch : ∀ M : Store, m_two_changed [eF f, eC u] M = some (.ok (eF g), M) := fun M => by rw [hg]; exact changed_is ⟨by omega, by omega⟩ husm
  have gp : g.pos := by rw [hg]; exact pos_act fp hud
  have gg : g.gap = n := by rw [hg, gap_act, hud, fg]; omega
  have g1 : gcdL [g.a, g.b, g.c] = 1 := by rw [hg]; exact prim_act hud f1
  rw [sSeq_nx (en1 := [some (.scr (ns.map .int)), some (.cel 0), some (.int n), some (.imm ((prm n).map eRow)), some (.int (1 + r3)), some (eRow [hurR (1 + r3), 1]), b6, b7, some (eF f), some (eC u), some (eF g), none, none, none, none, none, none, none, none, none, none]) (M1 := [Box ds at_]) (by simp [hch])]
  -- bounds of the other
  have gB : (-(10 ^ 10) ≤ g.a ∧ g.a ≤ 10 ^ 10) ∧ (-(10 ^ 10) ≤ g.b ∧ g.b ≤ 10 ^ 10) ∧ (-(10 ^ 10) ≤ g.c ∧ g.c ≤ 10 ^ 10) := by
    have := ch.p1; have := ch.p2; have := ch.q1; have := ch.q2; have := ch.r1; have := ch.r2; have := ch.s1; have := ch.s2
    have Bp : -729 ≤ p ∧ p ≤ 729 := by omega
    have Bq : -729 ≤ q ∧ q ≤ 729 := by omega
    have Br : -729 ≤ r ∧ r ≤ 729 := by omega
    have Bs : -729 ≤ s ∧ s ≤ 729 := by omega
    have A : -400 ≤ f.a ∧ f.a ≤ 400 := by omega
    have B : -400 ≤ f.b ∧ f.b ≤ 400 := by omega
    have C : -400 ≤ f.c ∧ f.c ≤ 400 := by omega
    have wb : ∀ x y : Int, (-729 ≤ x ∧ x ≤ 729) → (-729 ≤ y ∧ y ≤ 729) → -(10 ^ 10) ≤ worthF f.a f.b f.c x y ∧ worthF f.a f.b f.c x y ≤ 10 ^ 10 := by
      intro x y hx hy
      have := ab (ab (mb (mb A hx) hx) (mb (mb B hx) hy)) (mb (mb C hy) hy)
      unfold worthF
      omega
    rw [hg, hu]
    refine ⟨wb p q Bp Bq, ?_, wb r s Br Bs⟩
    show -(10 ^ 10) ≤ midF f.a f.b f.c p q r s ∧ midF f.a f.b f.c p q r s ≤ 10 ^ 10
    have two : -(2 : Int) ≤ 2 ∧ (2 : Int) ≤ 2 := by omega
    have := ab (ab (mb (mb (mb two A) Bp) Br) (mb B (ab (mb Bp Bs) (mb Bq Br)))) (mb (mb (mb two C) Bq) Bs)
    unfold midF
    omega
  have gBd : Bd g := ⟨by omega, by omega, by omega, by omega⟩
  have gsm : Sm g.b ∧ Sm g.c := ⟨⟨by omega, by omega⟩, ⟨by omega, by omega⟩⟩
  -- the first tests
  have hat := l_at_is (M := [Box ds at_]) (f := f) (u := u) husm
  have hatF : atF f u = [[2 * g.a, g.b], [g.b, 2 * g.c]] := by rw [hg]; rfl
  rw [hatF] at hat
  have htf := table_of_is (M := [Box ds at_]) (a := f.a) (b := f.b) (c := f.c)
  have htg := table_of_is (M := [Box ds at_]) (a := g.a) (b := g.b) (c := g.c)
  have hsm2 : ∀ r ∈ [[2 * g.a, g.b], [g.b, 2 * g.c]], ∀ x ∈ r, Sm x := by
    intro r hr x hx
    simp only [List.mem_cons, List.not_mem_nil, or_false] at hr
    rcases hr with rfl | rfl <;> simp only [List.mem_cons, List.not_mem_nil, or_false] at hx <;> rcases hx with rfl | rfl <;> exact ⟨by omega, by omega⟩
  have hsa : m_l_same [eTab [[2 * g.a, g.b], [g.b, 2 * g.c]], eTab [[2 * g.a, g.b], [g.b, 2 * g.c]]] [Box ds at_] = some (.ok (.bl true), [Box ds at_]) :=
    same_tab hsm2 (by intro r hr; simp only [List.mem_cons, List.not_mem_nil, or_false] at hr; rcases hr with rfl | rfl <;> (show 2 ≤ 3; omega)) (by show 2 ≤ 2000; omega)
  have hto := two_of_is (M := [Box ds at_]) (a := 2 * g.a) (b := g.b) (c := g.b) (d := 2 * g.c)
  rw [Int.mul_ediv_cancel_left _ (by decide), Int.mul_ediv_cancel_left _ (by decide)] at hto
  have hsg : m_l_same [eF g, eF g] [Box ds at_] = some (.ok (.bl true), [Box ds at_]) := rsame (r := [g.a, g.b, g.c]) (by
    intro x hx
    simp only [List.mem_cons, List.not_mem_nil, or_false] at hx
    rcases hx with rfl | rfl | rfl <;> exact ⟨by omega, by omega⟩) (by show 3 ≤ 100; omega)
  have hgap := gap_is (M := [Box ds at_]) (a := g.a) (b := g.b) (c := g.c) gsm.1 gsm.2
  have hgn : gapF g.a g.b g.c = n := gg
  rw [hgn] at hgap
  have eg : eRow [g.a, g.b, g.c] = eF g := rfl
  have ef : eRow [f.a, f.b, f.c] = eF f := rfl
  rw [eg] at htg hto hgap
  rw [ef] at htf
  rw [sSeq_nx (en1 := [some (.scr (ns.map .int)), some (.cel 0), some (.int n), some (.imm ((prm n).map eRow)), some (.int (1 + r3)), some (eRow [hurR (1 + r3), 1]), b6, b7, some (eF f), some (eC u), some (eF g), none, none, none, none, none, none, none, none, none, none]) (M1 := [Box ds at_]) (by
    simp [htf, htg, hat, hsa, hto, hsg, hgap])]
  -- reduced
  obtain ⟨v, v1, v2, v3, h7⟩ := two_reduced_is (M := [Box ds at_]) gp gBd g1
  have hgv : g.act v = f := by
    have e : g.act v = f.act (v.mul u) := by rw [hg, act_act]
    exact unique fR v2 fp (by rw [det_mul, v1, hud]; rfl) e
  rw [hgv] at h7 v2 v3
  have vsm := ent_sm gp gBd v1 (by rw [hgv]; exact v3)
  rw [sSeq_nx (en1 := [some (.scr (ns.map .int)), some (.cel 0), some (.int n), some (.imm ((prm n).map eRow)), some (.int (1 + r3)), some (eRow [hurR (1 + r3), 1]), b6, b7, some (eF f), some (eC u), some (eF g), some (eF f), some (eC v), none, none, none, none, none, none, none, none]) (M1 := [Box ds at_]) (by simp [h7])]
  have hsf : m_l_same [eF f, eF f] [Box ds at_] = some (.ok (.bl true), [Box ds at_]) := rsame (r := [f.a, f.b, f.c]) (by
    intro x hx
    simp only [List.mem_cons, List.not_mem_nil, or_false] at hx
    rcases hx with rfl | rfl | rfl <;> exact ⟨by omega, by omega⟩) (by show 3 ≤ 100; omega)
  have hdv : m_l_det 3 [eC v] [Box ds at_] = some (.ok (.int 1), [Box ds at_]) := by
    have := det2 (M := [Box ds at_]) vsm.1 vsm.2.1 vsm.2.2.1 vsm.2.2.2
    rw [show v.p * v.s - v.q * v.r = 1 from v1] at this
    exact this
  have hcv : m_two_changed [eF g, eC v] [Box ds at_] = some (.ok (eF f), [Box ds at_]) := by
    have := changed_is (M := [Box ds at_]) (g := g) (u := v) gsm.1 vsm
    rw [hgv] at this
    exact this
  have hrg := is_red_is (M := [Box ds at_]) (g := g)
  have hin : (prm n).contains [g.a, g.b, g.c] = g.red := by
    rw [Bool.eq_iff_iff, List.contains_iff_mem, red_iff]
    rw [mem_prm hnum]
    constructor
    · rintro ⟨g', e, _, _, hr, _⟩
      have : g = g' := by
        unfold Frm.row at e
        simp only [List.cons.injEq, and_true] at e
        exact Frm.ext e.1 e.2.1 e.2.2
      rw [this]; exact hr
    · intro hr
      exact ⟨g, rfl, gp, gg, hr, g1⟩
  have hgin := gIn_rows (M := [Box ds at_]) (neg := false) (r := [g.a, g.b, g.c]) (t := prm n)
  rw [hin, eg] at hgin
  have hsb := same_bl (M := [Box ds at_]) (b := g.red)
  rw [sSeq_nx (en1 := [some (.scr (ns.map .int)), some (.cel 0), some (.int n), some (.imm ((prm n).map eRow)), some (.int (1 + r3)), some (eRow [hurR (1 + r3), 1]), b6, b7, some (eF f), some (eC u), some (eF g), some (eF f), some (eC v), none, none, none, none, none, none, none, none]) (M1 := [Box ds at_]) (by
    simp [hsf, hdv, hcv, hrg, hgin, hsb])]
  -- x, y
  obtain ⟨x0, x1, x2, h8⟩ := drawB (ds := ds) (a := at_) (m := 21) (by omega) (by omega) (by omega)
  obtain ⟨y0, y1, y2, h9⟩ := drawB (ds := ds) (a := at_ + 1) (m := 21) (by omega) (by omega) (by omega)
  rw [sSeq_nx (en1 := [some (.scr (ns.map .int)), some (.cel 0), some (.int n), some (.imm ((prm n).map eRow)), some (.int (1 + r3)), some (eRow [hurR (1 + r3), 1]), b6, b7, some (eF f), some (eC u), some (eF g), some (eF f), some (eC v), some (.int (x0 - 10)), some (.int (y0 - 10)), none, none, none, none, none, none]) (M1 := [Box ds (at_ + 1 + 1)]) (by simp [h8, h9])]
  obtain ⟨bt, hbt⟩ : ∃ bt, bt = at_ + 1 + 1 := ⟨_, rfl⟩
  rw [← hbt]
  have hw := two_worth_is (M := [Box ds bt]) (a := f.a) (b := f.b) (c := f.c) (x := x0 - 10) (y := y0 - 10) ⟨by omega, by omega⟩ ⟨by omega, by omega⟩
  rw [ef] at hw
  have mx : ∀ z : Int, mulC z (x0 - 10) = true := fun z => mulC_r (by omega) (by omega)
  have my : ∀ z : Int, mulC z (y0 - 10) = true := fun z => mulC_r (by omega) (by omega)
  rw [sSeq_nx (en1 := [some (.scr (ns.map .int)), some (.cel 0), some (.int n), some (.imm ((prm n).map eRow)), some (.int (1 + r3)), some (eRow [hurR (1 + r3), 1]), b6, b7, some (eF f), some (eC u), some (eF g), some (eF f), some (eC v), some (.int (x0 - 10)), some (.int (y0 - 10)), none, none, none, none, none, none]) (M1 := [Box ds bt]) (by
    simp only [sIf_e, cTru_e, cOp_e, cCall_e, aCons_e, aNil_e, cVar_e, cC_e, List.getElem?_cons_zero, List.getElem?_cons_succ, bnd_ok, hw]
    unfold eF
    simp only [gIx_row, List.map_cons, List.map_nil, atI_0, atI_1, atI_2, bnd_ok, gI_e, mx, my, if_true, gAddA_i, gEq_int]
    unfold worthF
    simp)]
  -- the form of 1
  have hun := unit_two_is (M := [Box ds bt]) hnum
  have eun : eRow [1, n % 4, (n % 4 - n) / 4] = eF (unitF n) := rfl
  rw [eun] at hun
  rw [sSeq_nx (en1 := [some (.scr (ns.map .int)), some (.cel 0), some (.int n), some (.imm ((prm n).map eRow)), some (.int (1 + r3)), some (eRow [hurR (1 + r3), 1]), b6, b7, some (eF f), some (eC u), some (eF g), some (eF f), some (eC v), some (.int (x0 - 10)), some (.int (y0 - 10)), some (eF (unitF n)), none, none, none, none, none]) (M1 := [Box ds bt]) (by simp [hun])]
  have huin := gIn_rows (M := [Box ds bt]) (neg := true) (r := (unitF n).row) (t := prm n)
  rw [List.contains_iff_mem.mpr (unit_in hnum)] at huin
  have eur : eRow (unitF n).row = eF (unitF n) := rfl
  rw [eur] at huin
  -- the opposite
  obtain ⟨w, w1, w2, w3, h10⟩ := opposite_two_is (M := [Box ds bt]) gp gBd g1
  have fo : f.opp.pos := opp_pos fp
  have fBd : Bd f := ⟨by omega, by omega, by omega, by omega⟩
  have fo1 : gcdL [f.opp.a, f.opp.b, f.opp.c] = 1 := by
    show gcdL [f.a, 0 - f.b, f.c] = 1
    rw [opp_gcd]; exact f1
  obtain ⟨z, z1, z2, z3, h11⟩ := two_reduced_is (M := [Box ds bt]) fo (opp_bd fBd) fo1
  have hop : g.opp.act w = f.opp.act z := by
    rw [hg] at w2 ⊢
    exact opp_unique fp hud w1 z1 w2 z2
  rw [hop] at h10
  have eop : eRow [f.a, 0 - f.b, f.c] = eF f.opp := rfl
  have hso : m_l_same [eF (f.opp.act z), eF (f.opp.act z)] [Box ds bt] = some (.ok (.bl true), [Box ds bt]) := by
    have hp := pos_act fo z1
    have hc := pos_c hp
    have ha := hp.1
    have k1 := z3.a; have k2 := z3.b1; have k3 := z3.b2; have k4 := z3.c
    refine rsame (r := [(f.opp.act z).a, (f.opp.act z).b, (f.opp.act z).c]) ?_ (by show 3 ≤ 100; omega)
    intro x hx
    simp only [List.mem_cons, List.not_mem_nil, or_false] at hx
    rcases hx with rfl | rfl | rfl <;> exact ⟨by omega, by omega⟩
  have ix : ∀ a b c : Int, gIx (eRow [a, b, c]) (.int 0) [Box ds bt] = some (.ok (.int a), [Box ds bt]) := fun a b c => by simp
  have ix1 : ∀ a b c : Int, gIx (eRow [a, b, c]) (.int 1) [Box ds bt] = some (.ok (.int b), [Box ds bt]) := fun a b c => by simp
  have ix2 : ∀ a b c : Int, gIx (eRow [a, b, c]) (.int 2) [Box ds bt] = some (.ok (.int c), [Box ds bt]) := fun a b c => by simp
  have ixu : gIx (eF (unitF n)) (.int 0) [Box ds bt] = some (.ok (.int 1), [Box ds bt]) := ix _ _ _
  have ixf0 : gIx (eF f) (.int 0) [Box ds bt] = some (.ok (.int f.a), [Box ds bt]) := ix _ _ _
  have ixf1 : gIx (eF f) (.int 1) [Box ds bt] = some (.ok (.int f.b), [Box ds bt]) := ix1 _ _ _
  have ixf2 : gIx (eF f) (.int 2) [Box ds bt] = some (.ok (.int f.c), [Box ds bt]) := ix2 _ _ _
  rw [sSeq_nx (en1 := [some (.scr (ns.map .int)), some (.cel 0), some (.int n), some (.imm ((prm n).map eRow)), some (.int (1 + r3)), some (eRow [hurR (1 + r3), 1]), b6, b7, some (eF f), some (eC u), some (eF g), some (eF f), some (eC v), some (.int (x0 - 10)), some (.int (y0 - 10)), some (eF (unitF n)), none, none, none, none, none]) (M1 := [Box ds bt]) (by
    simp only [sIf_e, tOrC_e, tNotC_e, cTru_e, cOp_e, cCall_e, aCons_e, aNil_e, cVar_e, cC_e, cTup_e, List.getElem?_cons_zero, List.getElem?_cons_succ, bnd_ok, huin, ixu, ixf0, ixf1, ixf2, gI_e, yes2_e, if_true, List.length_cons, List.length_nil, Nat.reduceAdd, szOk_3, row3, eop, h10, h11, gIx_t', atI_0, hso, Bool.not_true, tru_bl, gEq_int, beq_self_eq_true, Bool.false_eq_true, if_false, sbnd_ok, sSkip_e])]
  -- the bad ones
  obtain ⟨b16, b17, b18, hbad⟩ := bad_loop (M := [Box ds bt]) (a0 := some (.scr (ns.map .int))) (a1 := some (.cel 0)) (a2 := some (.int n)) (a3 := some (.imm ((prm n).map eRow))) (a4 := some (.int (1 + r3))) (a5 := some (eRow [hurR (1 + r3), 1])) (a6 := b6) (a7 := b7) (a8 := some (eF f)) (a9 := some (eC u)) (a10 := some (eF g)) (a11 := some (eF f)) (a12 := some (eC v)) (a13 := some (.int (x0 - 10))) (a14 := some (.int (y0 - 10))) (a15 := some (eF (unitF n))) (a19 := none) (a20 := none) ([([1, 2], "form"), ([1, 5, 1], "above"), ([-1, 0, -1], "above"), ([2, 0, 2], "divisor")] : List (List Int × Str)) none none none (fun p hp => bads hp)
  unfold bodB at hbad
  rw [sSeq_nx (en1 := [some (.scr (ns.map .int)), some (.cel 0), some (.int n), some (.imm ((prm n).map eRow)), some (.int (1 + r3)), some (eRow [hurR (1 + r3), 1]), b6, b7, some (eF f), some (eC u), some (eF g), some (eF f), some (eC v), some (.int (x0 - 10)), some (.int (y0 - 10)), some (eF (unitF n)), b16, b17, b18, none, none]) (M1 := [Box ds bt]) (by
    rw [sFor_e, iSeq_e]
    simp only [cLst_e, cTup_e, cC_e, cUn_e, gNeg_e, aCons_e, aNil_e, bnd_ok, List.length_cons, List.length_nil, Nat.reduceAdd, szOk_2, szOk_3, show szOk 4 = true by decide, if_true, seqI_l, sbnd_ok]
    exact hbad)]
  refine ⟨[], ?_⟩
  rw [sRet_e, cC_e, sbnd_ok, fin_rt]
  exact gcF_ok (L := [Box ds bt]) rfl rfl
end K11
set_option maxHeartbeats 4000000
namespace K11
open PySem PySem.Spec PyProof.Rows L2 DL
theorem exm_self {K : PySem.W.Frag} {S : Addr} (h1 : PySem.W.subIn K (.ref S) (.type "BaseException") = some true) (h2 : PySem.W.isClsIn K S = true) (h3 : PySem.W.typeIn K (.ref S) = some (.type "type")) (h4 : PySem.W.subIn K (.ref S) (.ref S) = some true) :
    PySem.W.exmOne K (.ref S) (.ref S) = some true := by
  have e1 : (PySem.W.subIn K (.ref S) (.type "BaseException") == some true) = true := by rw [h1] <;> rfl
  have e2 : ((PySem.W.clsIn K S).isSome && PySem.W.typeIn K (.ref S) == some (.type "type")) = true := by
    have h2' : (PySem.W.clsIn K S).isSome = true := h2
    rw [h2', h3] <;> rfl
  show (if (PySem.W.subIn K (.ref S) (.type "BaseException") == some true) = true then (if ((PySem.W.clsIn K S).isSome && PySem.W.typeIn K (.ref S) == some (.type "type")) = true then PySem.W.subIn K (.ref S) (.ref S) else none) else none) = some true
  rw [if_pos e1, if_pos e2]
  exact h4
theorem all_mk {w : World} {K : PySem.W.Frag} {h : Heap} {mg : Str → Option Value} {fa C fI cda cc : Addr}
    {f0 : Addr} {od0 an0 : Option Addr} {sl0 : Array (Option Value)} {oc0 kV0 dc0 pm0 cd0 ct0 : Value}
    {f1 : Addr} {od1 an1 : Option Addr} {sl1 : Array (Option Value)} {oc1 kV1 dc1 pm1 cd1 ct1 : Value}
    {f2 : Addr} {od2 an2 : Option Addr} {sl2 : Array (Option Value)} {oc2 kV2 dc2 pm2 cd2 ct2 : Value}
    {f3 : Addr} {od3 an3 : Option Addr} {sl3 : Array (Option Value)} {oc3 kV3 dc3 pm3 cd3 ct3 : Value}
    {f4 : Addr} {od4 an4 : Option Addr} {sl4 : Array (Option Value)} {oc4 kV4 dc4 pm4 cd4 ct4 : Value}
    {f5 : Addr} {od5 an5 : Option Addr} {sl5 : Array (Option Value)} {oc5 kV5 dc5 pm5 cd5 ct5 : Value}
    {f6 : Addr} {od6 an6 : Option Addr} {sl6 : Array (Option Value)} {oc6 kV6 dc6 pm6 cd6 ct6 : Value}
    {f7 : Addr} {od7 an7 : Option Addr} {sl7 : Array (Option Value)} {oc7 kV7 dc7 pm7 cd7 ct7 : Value}
    {f8 : Addr} {od8 an8 : Option Addr} {sl8 : Array (Option Value)} {oc8 kV8 dc8 pm8 cd8 ct8 : Value}
    {f9 : Addr} {od9 an9 : Option Addr} {sl9 : Array (Option Value)} {oc9 kV9 dc9 pm9 cd9 ct9 : Value}
    {f10 : Addr} {od10 an10 : Option Addr} {sl10 : Array (Option Value)} {oc10 kV10 dc10 pm10 cd10 ct10 : Value}
    {f11 : Addr} {od11 an11 : Option Addr} {sl11 : Array (Option Value)} {oc11 kV11 dc11 pm11 cd11 ct11 : Value}
    {f12 : Addr} {od12 an12 : Option Addr} {sl12 : Array (Option Value)} {oc12 kV12 dc12 pm12 cd12 ct12 : Value}
    {f13 : Addr} {od13 an13 : Option Addr} {sl13 : Array (Option Value)} {oc13 kV13 dc13 pm13 cd13 ct13 : Value}
    {f14 : Addr} {od14 an14 : Option Addr} {sl14 : Array (Option Value)} {oc14 kV14 dc14 pm14 cd14 ct14 : Value}
    {f15 : Addr} {od15 an15 : Option Addr} {sl15 : Array (Option Value)} {oc15 kV15 dc15 pm15 cd15 ct15 : Value}
    {f16 : Addr} {od16 an16 : Option Addr} {sl16 : Array (Option Value)} {oc16 kV16 dc16 pm16 cd16 ct16 : Value}
    {f17 : Addr} {od17 an17 : Option Addr} {sl17 : Array (Option Value)} {oc17 kV17 dc17 pm17 cd17 ct17 : Value}
    {f18 : Addr} {od18 an18 : Option Addr} {sl18 : Array (Option Value)} {oc18 kV18 dc18 pm18 cd18 ct18 : Value}
    {f19 : Addr} {od19 an19 : Option Addr} {sl19 : Array (Option Value)} {oc19 kV19 dc19 pm19 cd19 ct19 : Value}
    {f20 : Addr} {od20 an20 : Option Addr} {sl20 : Array (Option Value)} {oc20 kV20 dc20 pm20 cd20 ct20 : Value}
    {f21 : Addr} {od21 an21 : Option Addr} {sl21 : Array (Option Value)} {oc21 kV21 dc21 pm21 cd21 ct21 : Value}
    {f22 : Addr} {od22 an22 : Option Addr} {sl22 : Array (Option Value)} {oc22 kV22 dc22 pm22 cd22 ct22 : Value}
    {f23 : Addr} {od23 an23 : Option Addr} {sl23 : Array (Option Value)} {oc23 kV23 dc23 pm23 cd23 ct23 : Value}
    {f24 : Addr} {od24 an24 : Option Addr} {sl24 : Array (Option Value)} {oc24 kV24 dc24 pm24 cd24 ct24 : Value}
    {f25 : Addr} {od25 an25 : Option Addr} {sl25 : Array (Option Value)} {oc25 kV25 dc25 pm25 cd25 ct25 : Value}
    {f26 : Addr} {od26 an26 : Option Addr} {sl26 : Array (Option Value)} {oc26 kV26 dc26 pm26 cd26 ct26 : Value}
    {f27 : Addr} {od27 an27 : Option Addr} {sl27 : Array (Option Value)} {oc27 kV27 dc27 pm27 cd27 ct27 : Value}
    {f28 : Addr} {od28 an28 : Option Addr} {sl28 : Array (Option Value)} {oc28 kV28 dc28 pm28 cd28 ct28 : Value}
    {f29 : Addr} {od29 an29 : Option Addr} {sl29 : Array (Option Value)} {oc29 kV29 dc29 pm29 cd29 ct29 : Value}
    {f30 : Addr} {od30 an30 : Option Addr} {sl30 : Array (Option Value)} {oc30 kV30 dc30 pm30 cd30 ct30 : Value}
    {f31 : Addr} {od31 an31 : Option Addr} {sl31 : Array (Option Value)} {oc31 kV31 dc31 pm31 cd31 ct31 : Value}
    {f32 : Addr} {od32 an32 : Option Addr} {sl32 : Array (Option Value)} {oc32 kV32 dc32 pm32 cd32 ct32 : Value}
    {f33 : Addr} {od33 an33 : Option Addr} {sl33 : Array (Option Value)} {oc33 kV33 dc33 pm33 cd33 ct33 : Value}
    {f34 : Addr} {od34 an34 : Option Addr} {sl34 : Array (Option Value)} {oc34 kV34 dc34 pm34 cd34 ct34 : Value}
    {f35 : Addr} {od35 an35 : Option Addr} {sl35 : Array (Option Value)} {oc35 kV35 dc35 pm35 cd35 ct35 : Value}
    {f36 : Addr} {od36 an36 : Option Addr} {sl36 : Array (Option Value)} {oc36 kV36 dc36 pm36 cd36 ct36 : Value}
    {f37 : Addr} {od37 an37 : Option Addr} {sl37 : Array (Option Value)} {oc37 kV37 dc37 pm37 cd37 ct37 : Value}
    {f38 : Addr} {od38 an38 : Option Addr} {sl38 : Array (Option Value)} {oc38 kV38 dc38 pm38 cd38 ct38 : Value}
    {f39 : Addr} {od39 an39 : Option Addr} {sl39 : Array (Option Value)} {oc39 kV39 dc39 pm39 cd39 ct39 : Value}
    {f40 : Addr} {od40 an40 : Option Addr} {sl40 : Array (Option Value)} {oc40 kV40 dc40 pm40 cd40 ct40 : Value}
    {f41 : Addr} {od41 an41 : Option Addr} {sl41 : Array (Option Value)} {oc41 kV41 dc41 pm41 cd41 ct41 : Value}
    {f42 : Addr} {od42 an42 : Option Addr} {sl42 : Array (Option Value)} {oc42 kV42 dc42 pm42 cd42 ct42 : Value}
    {f43 : Addr} {od43 an43 : Option Addr} {sl43 : Array (Option Value)} {oc43 kV43 dc43 pm43 cd43 ct43 : Value}
    {f44 : Addr} {od44 an44 : Option Addr} {sl44 : Array (Option Value)} {oc44 kV44 dc44 pm44 cd44 ct44 : Value}
    {f45 : Addr} {od45 an45 : Option Addr} {sl45 : Array (Option Value)} {oc45 kV45 dc45 pm45 cd45 ct45 : Value}
    {f46 : Addr} {od46 an46 : Option Addr} {sl46 : Array (Option Value)} {oc46 kV46 dc46 pm46 cd46 ct46 : Value}
    {f47 : Addr} {od47 an47 : Option Addr} {sl47 : Array (Option Value)} {oc47 kV47 dc47 pm47 cd47 ct47 : Value}
    {f48 : Addr} {od48 an48 : Option Addr} {sl48 : Array (Option Value)} {oc48 kV48 dc48 pm48 cd48 ct48 : Value}
    {f49 : Addr} {od49 an49 : Option Addr} {sl49 : Array (Option Value)} {oc49 kV49 dc49 pm49 cd49 ct49 : Value}
    {a_UNIT : Value}
    {nm q : Str} {NC : Addr} {bs bm : List Value} {sn : List Str} {sub : List Value} {ab : Bool} {col : Option Bool} {dd : Option Addr} {m0 m1 m2 m3 m5 : Option Value} {odI anI : Option Addr} {slI : Array (Option Value)} {ocI dcI pmI ctI : Value} {ccl cl : Value} {cdd cld : Option Addr} {ccs csl : Array (Option Value)} {vs : Array Value} {file : Str} {tf : Tok} (X : K.In h) (G : h.Ns mainGlobals mg) (hfa : mg "law" = some (.ref fa))
    (a0 : PySem.W.nsIn K mainGlobals "divisor" = some (some (.ref f0)))
    (l0 : K.lookup f0 = some ⟨oc0, od0, .func (PySem.W.fnOf "divisor" "divisor" (defArgs s_divisor) (defBody s_divisor) (defScope s_divisor) .none kV0 dc0 pm0 an0 cd0 ct0), sl0⟩)
    (c0 : PySem.W.codeIn K cd0 "divisor" = true)
    (k0 : PySem.W.keepIn K (.ref f0) = true)
    (a1 : PySem.W.nsIn K mainGlobals "divisor_of" = some (some (.ref f1)))
    (l1 : K.lookup f1 = some ⟨oc1, od1, .func (PySem.W.fnOf "divisor_of" "divisor_of" (defArgs s_divisor_of) (defBody s_divisor_of) (defScope s_divisor_of) .none kV1 dc1 pm1 an1 cd1 ct1), sl1⟩)
    (c1 : PySem.W.codeIn K cd1 "divisor_of" = true)
    (k1 : PySem.W.keepIn K (.ref f1) = true)
    (a2 : PySem.W.nsIn K mainGlobals "fraction" = some (some (.ref f2)))
    (l2 : K.lookup f2 = some ⟨oc2, od2, .func (PySem.W.fnOf "fraction" "fraction" (defArgs s_fraction) (defBody s_fraction) (defScope s_fraction) .none kV2 dc2 pm2 an2 cd2 ct2), sl2⟩)
    (c2 : PySem.W.codeIn K cd2 "fraction" = true)
    (k2 : PySem.W.keepIn K (.ref f2) = true)
    (a3 : PySem.W.nsIn K mainGlobals "root" = some (some (.ref f3)))
    (l3 : K.lookup f3 = some ⟨oc3, od3, .func (PySem.W.fnOf "root" "root" (defArgs s_root) (defBody s_root) (defScope s_root) .none kV3 dc3 pm3 an3 cd3 ct3), sl3⟩)
    (c3 : PySem.W.codeIn K cd3 "root" = true)
    (k3 : PySem.W.keepIn K (.ref f3) = true)
    (a4 : PySem.W.nsIn K mainGlobals "is_whole" = some (some (.ref f4)))
    (l4 : K.lookup f4 = some ⟨oc4, od4, .func (PySem.W.fnOf "is_whole" "is_whole" (defArgs s_is_whole) (defBody s_is_whole) (defScope s_is_whole) .none kV4 dc4 pm4 an4 cd4 ct4), sl4⟩)
    (c4 : PySem.W.codeIn K cd4 "is_whole" = true)
    (k4 : PySem.W.keepIn K (.ref f4) = true)
    (a5 : PySem.W.nsIn K mainGlobals "is_row" = some (some (.ref f5)))
    (l5 : K.lookup f5 = some ⟨oc5, od5, .func (PySem.W.fnOf "is_row" "is_row" (defArgs s_is_row) (defBody s_is_row) (defScope s_is_row) .none kV5 dc5 pm5 an5 cd5 ct5), sl5⟩)
    (c5 : PySem.W.codeIn K cd5 "is_row" = true)
    (k5 : PySem.W.keepIn K (.ref f5) = true)
    (a6 : PySem.W.nsIn K mainGlobals "wide" = some (some (.ref f6)))
    (l6 : K.lookup f6 = some ⟨oc6, od6, .func (PySem.W.fnOf "wide" "wide" (defArgs s_wide) (defBody s_wide) (defScope s_wide) .none kV6 dc6 pm6 an6 cd6 ct6), sl6⟩)
    (c6 : PySem.W.codeIn K cd6 "wide" = true)
    (k6 : PySem.W.keepIn K (.ref f6) = true)
    (a7 : PySem.W.nsIn K mainGlobals "turned" = some (some (.ref f7)))
    (l7 : K.lookup f7 = some ⟨oc7, od7, .func (PySem.W.fnOf "turned" "turned" (defArgs s_turned) (defBody s_turned) (defScope s_turned) .none kV7 dc7 pm7 an7 cd7 ct7), sl7⟩)
    (c7 : PySem.W.codeIn K cd7 "turned" = true)
    (k7 : PySem.W.keepIn K (.ref f7) = true)
    (a8 : PySem.W.nsIn K mainGlobals "dot" = some (some (.ref f8)))
    (l8 : K.lookup f8 = some ⟨oc8, od8, .func (PySem.W.fnOf "dot" "dot" (defArgs s_dot) (defBody s_dot) (defScope s_dot) .none kV8 dc8 pm8 an8 cd8 ct8), sl8⟩)
    (c8 : PySem.W.codeIn K cd8 "dot" = true)
    (k8 : PySem.W.keepIn K (.ref f8) = true)
    (a9 : PySem.W.nsIn K mainGlobals "product" = some (some (.ref f9)))
    (l9 : K.lookup f9 = some ⟨oc9, od9, .func (PySem.W.fnOf "product" "product" (defArgs s_product) (defBody s_product) (defScope s_product) .none kV9 dc9 pm9 an9 cd9 ct9), sl9⟩)
    (c9 : PySem.W.codeIn K cd9 "product" = true)
    (k9 : PySem.W.keepIn K (.ref f9) = true)
    (a10 : PySem.W.nsIn K mainGlobals "is_two" = some (some (.ref f10)))
    (l10 : K.lookup f10 = some ⟨oc10, od10, .func (PySem.W.fnOf "is_two" "is_two" (defArgs s_is_two) (defBody s_is_two) (defScope s_is_two) .none kV10 dc10 pm10 an10 cd10 ct10), sl10⟩)
    (c10 : PySem.W.codeIn K cd10 "is_two" = true)
    (k10 : PySem.W.keepIn K (.ref f10) = true)
    (a11 : PySem.W.nsIn K mainGlobals "gap" = some (some (.ref f11)))
    (l11 : K.lookup f11 = some ⟨oc11, od11, .func (PySem.W.fnOf "gap" "gap" (defArgs s_gap) (defBody s_gap) (defScope s_gap) .none kV11 dc11 pm11 an11 cd11 ct11), sl11⟩)
    (c11 : PySem.W.codeIn K cd11 "gap" = true)
    (k11 : PySem.W.keepIn K (.ref f11) = true)
    (a12 : PySem.W.nsIn K mainGlobals "check_two" = some (some (.ref f12)))
    (l12 : K.lookup f12 = some ⟨oc12, od12, .func (PySem.W.fnOf "check_two" "check_two" (defArgs s_check_two) (defBody s_check_two) (defScope s_check_two) .none kV12 dc12 pm12 an12 cd12 ct12), sl12⟩)
    (c12 : PySem.W.codeIn K cd12 "check_two" = true)
    (k12 : PySem.W.keepIn K (.ref f12) = true)
    (a13 : PySem.W.nsIn K mainGlobals "table_of" = some (some (.ref f13)))
    (l13 : K.lookup f13 = some ⟨oc13, od13, .func (PySem.W.fnOf "table_of" "table_of" (defArgs s_table_of) (defBody s_table_of) (defScope s_table_of) .none kV13 dc13 pm13 an13 cd13 ct13), sl13⟩)
    (c13 : PySem.W.codeIn K cd13 "table_of" = true)
    (k13 : PySem.W.keepIn K (.ref f13) = true)
    (a14 : PySem.W.nsIn K mainGlobals "two_of" = some (some (.ref f14)))
    (l14 : K.lookup f14 = some ⟨oc14, od14, .func (PySem.W.fnOf "two_of" "two_of" (defArgs s_two_of) (defBody s_two_of) (defScope s_two_of) .none kV14 dc14 pm14 an14 cd14 ct14), sl14⟩)
    (c14 : PySem.W.codeIn K cd14 "two_of" = true)
    (k14 : PySem.W.keepIn K (.ref f14) = true)
    (a15 : PySem.W.nsIn K mainGlobals "two_worth" = some (some (.ref f15)))
    (l15 : K.lookup f15 = some ⟨oc15, od15, .func (PySem.W.fnOf "two_worth" "two_worth" (defArgs s_two_worth) (defBody s_two_worth) (defScope s_two_worth) .none kV15 dc15 pm15 an15 cd15 ct15), sl15⟩)
    (c15 : PySem.W.codeIn K cd15 "two_worth" = true)
    (k15 : PySem.W.keepIn K (.ref f15) = true)
    (a16 : PySem.W.nsIn K mainGlobals "two_changed" = some (some (.ref f16)))
    (l16 : K.lookup f16 = some ⟨oc16, od16, .func (PySem.W.fnOf "two_changed" "two_changed" (defArgs s_two_changed) (defBody s_two_changed) (defScope s_two_changed) .none kV16 dc16 pm16 an16 cd16 ct16), sl16⟩)
    (c16 : PySem.W.codeIn K cd16 "two_changed" = true)
    (k16 : PySem.W.keepIn K (.ref f16) = true)
    (a17 : PySem.W.nsIn K mainGlobals "is_two_reduced" = some (some (.ref f17)))
    (l17 : K.lookup f17 = some ⟨oc17, od17, .func (PySem.W.fnOf "is_two_reduced" "is_two_reduced" (defArgs s_is_two_reduced) (defBody s_is_two_reduced) (defScope s_is_two_reduced) .none kV17 dc17 pm17 an17 cd17 ct17), sl17⟩)
    (c17 : PySem.W.codeIn K cd17 "is_two_reduced" = true)
    (k17 : PySem.W.keepIn K (.ref f17) = true)
    (a18 : PySem.W.nsIn K mainGlobals "two_reduced" = some (some (.ref f18)))
    (l18 : K.lookup f18 = some ⟨oc18, od18, .func (PySem.W.fnOf "two_reduced" "two_reduced" (defArgs s_two_reduced) (defBody s_two_reduced) (defScope s_two_reduced) .none kV18 dc18 pm18 an18 cd18 ct18), sl18⟩)
    (c18 : PySem.W.codeIn K cd18 "two_reduced" = true)
    (k18 : PySem.W.keepIn K (.ref f18) = true)
    (a19 : PySem.W.nsIn K mainGlobals "check_gap" = some (some (.ref f19)))
    (l19 : K.lookup f19 = some ⟨oc19, od19, .func (PySem.W.fnOf "check_gap" "check_gap" (defArgs s_check_gap) (defBody s_check_gap) (defScope s_check_gap) .none kV19 dc19 pm19 an19 cd19 ct19), sl19⟩)
    (c19 : PySem.W.codeIn K cd19 "check_gap" = true)
    (k19 : PySem.W.keepIn K (.ref f19) = true)
    (a20 : PySem.W.nsIn K mainGlobals "reduced_twos" = some (some (.ref f20)))
    (l20 : K.lookup f20 = some ⟨oc20, od20, .func (PySem.W.fnOf "reduced_twos" "reduced_twos" (defArgs s_reduced_twos) (defBody s_reduced_twos) (defScope s_reduced_twos) .none kV20 dc20 pm20 an20 cd20 ct20), sl20⟩)
    (c20 : PySem.W.codeIn K cd20 "reduced_twos" = true)
    (k20 : PySem.W.keepIn K (.ref f20) = true)
    (a21 : PySem.W.nsIn K mainGlobals "two_classes" = some (some (.ref f21)))
    (l21 : K.lookup f21 = some ⟨oc21, od21, .func (PySem.W.fnOf "two_classes" "two_classes" (defArgs s_two_classes) (defBody s_two_classes) (defScope s_two_classes) .none kV21 dc21 pm21 an21 cd21 ct21), sl21⟩)
    (c21 : PySem.W.codeIn K cd21 "two_classes" = true)
    (k21 : PySem.W.keepIn K (.ref f21) = true)
    (a22 : PySem.W.nsIn K mainGlobals "weighted_classes" = some (some (.ref f22)))
    (l22 : K.lookup f22 = some ⟨oc22, od22, .func (PySem.W.fnOf "weighted_classes" "weighted_classes" (defArgs s_weighted_classes) (defBody s_weighted_classes) (defScope s_weighted_classes) .none kV22 dc22 pm22 an22 cd22 ct22), sl22⟩)
    (c22 : PySem.W.codeIn K cd22 "weighted_classes" = true)
    (k22 : PySem.W.keepIn K (.ref f22) = true)
    (a23 : PySem.W.nsIn K mainGlobals "unit_two" = some (some (.ref f23)))
    (l23 : K.lookup f23 = some ⟨oc23, od23, .func (PySem.W.fnOf "unit_two" "unit_two" (defArgs s_unit_two) (defBody s_unit_two) (defScope s_unit_two) .none kV23 dc23 pm23 an23 cd23 ct23), sl23⟩)
    (c23 : PySem.W.codeIn K cd23 "unit_two" = true)
    (k23 : PySem.W.keepIn K (.ref f23) = true)
    (a24 : PySem.W.nsIn K mainGlobals "opposite_two" = some (some (.ref f24)))
    (l24 : K.lookup f24 = some ⟨oc24, od24, .func (PySem.W.fnOf "opposite_two" "opposite_two" (defArgs s_opposite_two) (defBody s_opposite_two) (defScope s_opposite_two) .none kV24 dc24 pm24 an24 cd24 ct24), sl24⟩)
    (c24 : PySem.W.codeIn K cd24 "opposite_two" = true)
    (k24 : PySem.W.keepIn K (.ref f24) = true)
    (a25 : PySem.W.nsIn K mainGlobals "_law_cell" = some (some (.ref f25)))
    (l25 : K.lookup f25 = some ⟨oc25, od25, .func (PySem.W.fnOf "_law_cell" "_law_cell" (defArgs s_l_cell) (defBody s_l_cell) (defScope s_l_cell) .none kV25 dc25 pm25 an25 cd25 ct25), sl25⟩)
    (c25 : PySem.W.codeIn K cd25 "_law_cell" = true)
    (k25 : PySem.W.keepIn K (.ref f25) = true)
    (a26 : PySem.W.nsIn K mainGlobals "_law_digits" = some (some (.ref f26)))
    (l26 : K.lookup f26 = some ⟨oc26, od26, .func (PySem.W.fnOf "_law_digits" "_law_digits" (defArgs s_l_digits) (defBody s_l_digits) (defScope s_l_digits) .none kV26 dc26 pm26 an26 cd26 ct26), sl26⟩)
    (c26 : PySem.W.codeIn K cd26 "_law_digits" = true)
    (k26 : PySem.W.keepIn K (.ref f26) = true)
    (a27 : PySem.W.nsIn K mainGlobals "_law_draw" = some (some (.ref f27)))
    (l27 : K.lookup f27 = some ⟨oc27, od27, .func (PySem.W.fnOf "_law_draw" "_law_draw" (defArgs s_l_draw) (defBody s_l_draw) (defScope s_l_draw) .none kV27 dc27 pm27 an27 cd27 ct27), sl27⟩)
    (c27 : PySem.W.codeIn K cd27 "_law_draw" = true)
    (k27 : PySem.W.keepIn K (.ref f27) = true)
    (a28 : PySem.W.nsIn K mainGlobals "_law_pick" = some (some (.ref f28)))
    (l28 : K.lookup f28 = some ⟨oc28, od28, .func (PySem.W.fnOf "_law_pick" "_law_pick" (defArgs s_l_pick) (defBody s_l_pick) (defScope s_l_pick) .none kV28 dc28 pm28 an28 cd28 ct28), sl28⟩)
    (c28 : PySem.W.codeIn K cd28 "_law_pick" = true)
    (k28 : PySem.W.keepIn K (.ref f28) = true)
    (a29 : PySem.W.nsIn K mainGlobals "_law_same" = some (some (.ref f29)))
    (l29 : K.lookup f29 = some ⟨oc29, od29, .func (PySem.W.fnOf "_law_same" "_law_same" (defArgs s_l_same) (defBody s_l_same) (defScope s_l_same) .none kV29 dc29 pm29 an29 cd29 ct29), sl29⟩)
    (c29 : PySem.W.codeIn K cd29 "_law_same" = true)
    (k29 : PySem.W.keepIn K (.ref f29) = true)
    (a30 : PySem.W.nsIn K mainGlobals "_law_gcd" = some (some (.ref f30)))
    (l30 : K.lookup f30 = some ⟨oc30, od30, .func (PySem.W.fnOf "_law_gcd" "_law_gcd" (defArgs s_l_gcd) (defBody s_l_gcd) (defScope s_l_gcd) .none kV30 dc30 pm30 an30 cd30 ct30), sl30⟩)
    (c30 : PySem.W.codeIn K cd30 "_law_gcd" = true)
    (k30 : PySem.W.keepIn K (.ref f30) = true)
    (a31 : PySem.W.nsIn K mainGlobals "_law_fraction" = some (some (.ref f31)))
    (l31 : K.lookup f31 = some ⟨oc31, od31, .func (PySem.W.fnOf "_law_fraction" "_law_fraction" (defArgs s_l_fraction) (defBody s_l_fraction) (defScope s_l_fraction) .none kV31 dc31 pm31 an31 cd31 ct31), sl31⟩)
    (c31 : PySem.W.codeIn K cd31 "_law_fraction" = true)
    (k31 : PySem.W.keepIn K (.ref f31) = true)
    (a32 : PySem.W.nsIn K mainGlobals "_law_add" = some (some (.ref f32)))
    (l32 : K.lookup f32 = some ⟨oc32, od32, .func (PySem.W.fnOf "_law_add" "_law_add" (defArgs s_l_add) (defBody s_l_add) (defScope s_l_add) .none kV32 dc32 pm32 an32 cd32 ct32), sl32⟩)
    (c32 : PySem.W.codeIn K cd32 "_law_add" = true)
    (k32 : PySem.W.keepIn K (.ref f32) = true)
    (a33 : PySem.W.nsIn K mainGlobals "_law_times" = some (some (.ref f33)))
    (l33 : K.lookup f33 = some ⟨oc33, od33, .func (PySem.W.fnOf "_law_times" "_law_times" (defArgs s_l_times) (defBody s_l_times) (defScope s_l_times) .none kV33 dc33 pm33 an33 cd33 ct33), sl33⟩)
    (c33 : PySem.W.codeIn K cd33 "_law_times" = true)
    (k33 : PySem.W.keepIn K (.ref f33) = true)
    (a34 : PySem.W.nsIn K mainGlobals "_law_dot" = some (some (.ref f34)))
    (l34 : K.lookup f34 = some ⟨oc34, od34, .func (PySem.W.fnOf "_law_dot" "_law_dot" (defArgs s_l_dot) (defBody s_l_dot) (defScope s_l_dot) .none kV34 dc34 pm34 an34 cd34 ct34), sl34⟩)
    (c34 : PySem.W.codeIn K cd34 "_law_dot" = true)
    (k34 : PySem.W.keepIn K (.ref f34) = true)
    (a35 : PySem.W.nsIn K mainGlobals "_law_turned" = some (some (.ref f35)))
    (l35 : K.lookup f35 = some ⟨oc35, od35, .func (PySem.W.fnOf "_law_turned" "_law_turned" (defArgs s_l_turned) (defBody s_l_turned) (defScope s_l_turned) .none kV35 dc35 pm35 an35 cd35 ct35), sl35⟩)
    (c35 : PySem.W.codeIn K cd35 "_law_turned" = true)
    (k35 : PySem.W.keepIn K (.ref f35) = true)
    (a36 : PySem.W.nsIn K mainGlobals "_law_product" = some (some (.ref f36)))
    (l36 : K.lookup f36 = some ⟨oc36, od36, .func (PySem.W.fnOf "_law_product" "_law_product" (defArgs s_l_product) (defBody s_l_product) (defScope s_l_product) .none kV36 dc36 pm36 an36 cd36 ct36), sl36⟩)
    (c36 : PySem.W.codeIn K cd36 "_law_product" = true)
    (k36 : PySem.W.keepIn K (.ref f36) = true)
    (a37 : PySem.W.nsIn K mainGlobals "_law_det" = some (some (.ref f37)))
    (l37 : K.lookup f37 = some ⟨oc37, od37, .func (PySem.W.fnOf "_law_det" "_law_det" (defArgs s_l_det) (defBody s_l_det) (defScope s_l_det) .none kV37 dc37 pm37 an37 cd37 ct37), sl37⟩)
    (c37 : PySem.W.codeIn K cd37 "_law_det" = true)
    (k37 : PySem.W.keepIn K (.ref f37) = true)
    (a38 : PySem.W.nsIn K mainGlobals "_law_unit" = some (some (.ref f38)))
    (l38 : K.lookup f38 = some ⟨oc38, od38, .func (PySem.W.fnOf "_law_unit" "_law_unit" (defArgs s_l_unit) (defBody s_l_unit) (defScope s_l_unit) .none kV38 dc38 pm38 an38 cd38 ct38), sl38⟩)
    (c38 : PySem.W.codeIn K cd38 "_law_unit" = true)
    (k38 : PySem.W.keepIn K (.ref f38) = true)
    (a39 : PySem.W.nsIn K mainGlobals "_law_change" = some (some (.ref f39)))
    (l39 : K.lookup f39 = some ⟨oc39, od39, .func (PySem.W.fnOf "_law_change" "_law_change" (defArgs s_l_change) (defBody s_l_change) (defScope s_l_change) .none kV39 dc39 pm39 an39 cd39 ct39), sl39⟩)
    (c39 : PySem.W.codeIn K cd39 "_law_change" = true)
    (k39 : PySem.W.keepIn K (.ref f39) = true)
    (a40 : PySem.W.nsIn K mainGlobals "_law_at" = some (some (.ref f40)))
    (l40 : K.lookup f40 = some ⟨oc40, od40, .func (PySem.W.fnOf "_law_at" "_law_at" (defArgs s_l_at) (defBody s_l_at) (defScope s_l_at) .none kV40 dc40 pm40 an40 cd40 ct40), sl40⟩)
    (c40 : PySem.W.codeIn K cd40 "_law_at" = true)
    (k40 : PySem.W.keepIn K (.ref f40) = true)
    (a41 : PySem.W.nsIn K mainGlobals "_law_divisors" = some (some (.ref f41)))
    (l41 : K.lookup f41 = some ⟨oc41, od41, .func (PySem.W.fnOf "_law_divisors" "_law_divisors" (defArgs s_l_divisors) (defBody s_l_divisors) (defScope s_l_divisors) .none kV41 dc41 pm41 an41 cd41 ct41), sl41⟩)
    (c41 : PySem.W.codeIn K cd41 "_law_divisors" = true)
    (k41 : PySem.W.keepIn K (.ref f41) = true)
    (a42 : PySem.W.nsIn K mainGlobals "_law_sign" = some (some (.ref f42)))
    (l42 : K.lookup f42 = some ⟨oc42, od42, .func (PySem.W.fnOf "_law_sign" "_law_sign" (defArgs s_l_sign) (defBody s_l_sign) (defScope s_l_sign) .none kV42 dc42 pm42 an42 cd42 ct42), sl42⟩)
    (c42 : PySem.W.codeIn K cd42 "_law_sign" = true)
    (k42 : PySem.W.keepIn K (.ref f42) = true)
    (a43 : PySem.W.nsIn K mainGlobals "_law_primes" = some (some (.ref f43)))
    (l43 : K.lookup f43 = some ⟨oc43, od43, .func (PySem.W.fnOf "_law_primes" "_law_primes" (defArgs s_l_primes) (defBody s_l_primes) (defScope s_l_primes) .none kV43 dc43 pm43 an43 cd43 ct43), sl43⟩)
    (c43 : PySem.W.codeIn K cd43 "_law_primes" = true)
    (k43 : PySem.W.keepIn K (.ref f43) = true)
    (a44 : PySem.W.nsIn K mainGlobals "_law_classes" = some (some (.ref f44)))
    (l44 : K.lookup f44 = some ⟨oc44, od44, .func (PySem.W.fnOf "_law_classes" "_law_classes" (defArgs s_l_classes) (defBody s_l_classes) (defScope s_l_classes) .none kV44 dc44 pm44 an44 cd44 ct44), sl44⟩)
    (c44 : PySem.W.codeIn K cd44 "_law_classes" = true)
    (k44 : PySem.W.keepIn K (.ref f44) = true)
    (a45 : PySem.W.nsIn K mainGlobals "_law_character" = some (some (.ref f45)))
    (l45 : K.lookup f45 = some ⟨oc45, od45, .func (PySem.W.fnOf "_law_character" "_law_character" (defArgs s_l_character) (defBody s_l_character) (defScope s_l_character) .none kV45 dc45 pm45 an45 cd45 ct45), sl45⟩)
    (c45 : PySem.W.codeIn K cd45 "_law_character" = true)
    (k45 : PySem.W.keepIn K (.ref f45) = true)
    (a46 : PySem.W.nsIn K mainGlobals "_law_is_fundamental" = some (some (.ref f46)))
    (l46 : K.lookup f46 = some ⟨oc46, od46, .func (PySem.W.fnOf "_law_is_fundamental" "_law_is_fundamental" (defArgs s_l_is_fundamental) (defBody s_l_is_fundamental) (defScope s_l_is_fundamental) .none kV46 dc46 pm46 an46 cd46 ct46), sl46⟩)
    (c46 : PySem.W.codeIn K cd46 "_law_is_fundamental" = true)
    (k46 : PySem.W.keepIn K (.ref f46) = true)
    (a47 : PySem.W.nsIn K mainGlobals "_law_weight" = some (some (.ref f47)))
    (l47 : K.lookup f47 = some ⟨oc47, od47, .func (PySem.W.fnOf "_law_weight" "_law_weight" (defArgs s_l_weight) (defBody s_l_weight) (defScope s_l_weight) .none kV47 dc47 pm47 an47 cd47 ct47), sl47⟩)
    (c47 : PySem.W.codeIn K cd47 "_law_weight" = true)
    (k47 : PySem.W.keepIn K (.ref f47) = true)
    (a48 : PySem.W.nsIn K mainGlobals "_law_two_change" = some (some (.ref f48)))
    (l48 : K.lookup f48 = some ⟨oc48, od48, .func (PySem.W.fnOf "_law_two_change" "_law_two_change" (defArgs s_l_two_change) (defBody s_l_two_change) (defScope s_l_two_change) .none kV48 dc48 pm48 an48 cd48 ct48), sl48⟩)
    (c48 : PySem.W.codeIn K cd48 "_law_two_change" = true)
    (k48 : PySem.W.keepIn K (.ref f48) = true)
    (a49 : PySem.W.nsIn K mainGlobals "law" = some (some (.ref f49)))
    (l49 : K.lookup f49 = some ⟨oc49, od49, .func (PySem.W.fnOf "law" "law" (defArgs s_l_law) (defBody s_l_law) (defScope s_l_law) .none kV49 dc49 pm49 an49 cd49 ct49), sl49⟩)
    (c49 : PySem.W.codeIn K cd49 "law" = true)
    (k49 : PySem.W.keepIn K (.ref f49) = true)
    (z_abs : PySem.W.nsIn K mainGlobals "abs" = some none)
    (z_all : PySem.W.nsIn K mainGlobals "all" = some none)
    (z_bool : PySem.W.nsIn K mainGlobals "bool" = some none)
    (z_int : PySem.W.nsIn K mainGlobals "int" = some none)
    (z_isinstance : PySem.W.nsIn K mainGlobals "isinstance" = some none)
    (z_len : PySem.W.nsIn K mainGlobals "len" = some none)
    (z_list : PySem.W.nsIn K mainGlobals "list" = some none)
    (z_min : PySem.W.nsIn K mainGlobals "min" = some none)
    (z_range : PySem.W.nsIn K mainGlobals "range" = some none)
    (z_repr : PySem.W.nsIn K mainGlobals "repr" = some none)
    (z_sorted : PySem.W.nsIn K mainGlobals "sorted" = some none)
    (z_sum : PySem.W.nsIn K mainGlobals "sum" = some none)
    (z_tuple : PySem.W.nsIn K mainGlobals "tuple" = some none)
    (z_zip : PySem.W.nsIn K mainGlobals "zip" = some none)
    (z_super : PySem.W.nsIn K mainGlobals "super" = some none)
    (g_UNIT : PySem.W.nsIn K mainGlobals "UNIT" = some (some a_UNIT))
    (k_UNIT : konB K a_UNIT k_UNIT = true)
    (xC : PySem.W.nsIn K mainGlobals "BadTable" = some (some (.ref C)))
    (xL : K.lookup C = some (excClassObj nm q C NC bs bm true sn sub ab col dd m0 m1 m2 m3 m5 "ValueError.__new__"))
    (xB : PySem.HandSPX.refsVE bm = true)
    (xsa : PySem.W.findIn K (.ref C) "__setattr__" = some (some (.builtin "object.__setattr__")))
    (xga : PySem.W.findIn K (.ref C) "__getattribute__" = some (some (.builtin "BaseException.__getattribute__")))
    (xgg : PySem.W.findIn K (.ref C) "__getattr__" = some none)
    (xno : PySem.W.findIn K (.ref C) "reason" = some none)
    (xiC : PySem.W.findIn K (.ref C) "__init__" = some (some (.ref fI)))
    (xtC : PySem.W.typeIn K (.ref fI) = some (.type "function"))
    (xkC : PySem.W.keepIn K (.ref C) = true)
    (xexC : PySem.W.subIn K (.ref C) (.type "BaseException") = some true)
    (xtyC : PySem.W.typeIn K (.ref C) = some (.type "type"))
    (xhdC : PySem.W.hasDictIn K C = true)
    (xiscl : PySem.W.isClsIn K C = true)
    (xself : PySem.W.subIn K (.ref C) (.ref C) = some true)
    (xve : PySem.W.subIn K (.ref C) (.type "ValueError") = some true)
    (xup : PySem.W.ks_superIn K C C "__init__" = some (some (.builtin "ValueError.__init__")))
    (xmr : PySem.W.mroIn K C (.ref C) = some true)
    (xany : PySem.W.nsIn K cStatics "thirdparty.any" = some none)
    (xlI : K.lookup fI = some ⟨ocI, odI, .func (PySem.W.ksFn "__init__" "BadTable.__init__" (PySem.BadX.bA ⟨6, 17, 6, 21⟩ ⟨6, 23, 6, 29⟩) (PySem.BadX.bB ⟨7, 8, 7, 13⟩ ⟨7, 8, 7, 15⟩ ⟨7, 8, 7, 24⟩ ⟨7, 25, 7, 31⟩ ⟨7, 8, 7, 32⟩ ⟨7, 8, 7, 32⟩ ⟨8, 8, 8, 12⟩ ⟨8, 8, 8, 19⟩ ⟨8, 22, 8, 28⟩ ⟨8, 8, 8, 28⟩) PySem.BadX.bS .none .none dcI pmI anI (.ref cda) ctI cc), slI⟩)
    (xcI : PySem.W.codeIn K (.ref cda) "BadTable.__init__" = true)
    (xcd : K.lookup cda = some ⟨ccl, cdd, .fields vs, ccs⟩)
    (xvs : vs[2]? = some (.str file tf))
    (xfile : ((PySem.Challenge.pw_everygrid_k11_two_reduced.main.file : Str) == file) = true)
    (xcc : K.lookup cc = some ⟨cl, cld, .cell (some (.ref C)), csl⟩) :
    ∃ fd : FuncData, (∀ (s : Shared) (u : Value), BindsTo s fd ⟨[u], []⟩ [("script", u)]) ∧ ∀ base : Heap, K.In base → base.Ns mainGlobals mg → FnG PySem.Challenge.pw_everygrid_k11_two_reduced w K mg base 7 fa fd ["script"] m_l_law := by
  have e := hfa.symm.trans (PySem.W.mg_of X G a49)
  cases e
  have x : PySem.BadX.BadTxt PySem.Challenge.pw_everygrid_k11_two_reduced K mg "BadTable" "BadTable.__init__" C fI := { gC := PySem.W.mg_of X G xC, cls := ⟨nm, q, NC, bs, bm, sn, sub, ab, col, dd, m0, m1, m2, m3, m5, xL, xB⟩, sa := xsa, ga := xga, gg := xgg, noN := xno, iC := xiC, tC := xtC, kC := xkC, exC := xexC, tyC := xtyC, hdC := xhdC, te := exm_self xexC xiscl xtyC xself, veC := xve, upC := xup, mrC := xmr, any := xany, sup := PySem.W.mg_none_of X G z_super, top := by decide +kernel, fn := ⟨_, _, _, _, _, _, _, _, _, _, _, _, _, _, _, _, _, _, _, _, _, _, _, _, _, _, _, _, _, _, xlI, xcI, xcd, xvs, xfile, xcc, ⟨_, fun _ => rfl⟩⟩ }
  have t : Tx PySem.Challenge.pw_everygrid_k11_two_reduced K mg C fI a_UNIT := ⟨PySem.W.mg_none_of X G z_abs, PySem.W.mg_none_of X G z_all, PySem.W.mg_none_of X G z_bool, PySem.W.mg_none_of X G z_int, PySem.W.mg_none_of X G z_isinstance, PySem.W.mg_none_of X G z_len, PySem.W.mg_none_of X G z_list, PySem.W.mg_none_of X G z_min, PySem.W.mg_none_of X G z_range, PySem.W.mg_none_of X G z_repr, PySem.W.mg_none_of X G z_sorted, PySem.W.mg_none_of X G z_sum, PySem.W.mg_none_of X G z_tuple, PySem.W.mg_none_of X G z_zip, PySem.W.mg_of X G g_UNIT, k_UNIT, x⟩
  have F0 := fun_mk (st := s_divisor) l0 c0 k0
  have b0 := F0.binds (ps := ["one", "other"]) fun _ _ _ _ _ _ us hl => match us, hl with | [_, _], _ => rfl
  have F1 := fun_mk (st := s_divisor_of) l1 c1 k1
  have b1 := F1.binds (ps := ["numbers"]) fun _ _ _ _ _ _ us hl => match us, hl with | [_], _ => rfl
  have F2 := fun_mk (st := s_fraction) l2 c2 k2
  have b2 := F2.binds (ps := ["above", "below"]) fun _ _ _ _ _ _ us hl => match us, hl with | [_, _], _ => rfl
  have F3 := fun_mk (st := s_root) l3 c3 k3
  have b3 := F3.binds (ps := ["number"]) fun _ _ _ _ _ _ us hl => match us, hl with | [_], _ => rfl
  have F4 := fun_mk (st := s_is_whole) l4 c4 k4
  have b4 := F4.binds (ps := ["number"]) fun _ _ _ _ _ _ us hl => match us, hl with | [_], _ => rfl
  have F5 := fun_mk (st := s_is_row) l5 c5 k5
  have b5 := F5.binds (ps := ["row"]) fun _ _ _ _ _ _ us hl => match us, hl with | [_], _ => rfl
  have F6 := fun_mk (st := s_wide) l6 c6 k6
  have b6 := F6.binds (ps := ["table"]) fun _ _ _ _ _ _ us hl => match us, hl with | [_], _ => rfl
  have F7 := fun_mk (st := s_turned) l7 c7 k7
  have b7 := F7.binds (ps := ["table"]) fun _ _ _ _ _ _ us hl => match us, hl with | [_], _ => rfl
  have F8 := fun_mk (st := s_dot) l8 c8 k8
  have b8 := F8.binds (ps := ["one", "other"]) fun _ _ _ _ _ _ us hl => match us, hl with | [_, _], _ => rfl
  have F9 := fun_mk (st := s_product) l9 c9 k9
  have b9 := F9.binds (ps := ["one", "other"]) fun _ _ _ _ _ _ us hl => match us, hl with | [_, _], _ => rfl
  have F10 := fun_mk (st := s_is_two) l10 c10 k10
  have b10 := F10.binds (ps := ["shape"]) fun _ _ _ _ _ _ us hl => match us, hl with | [_], _ => rfl
  have F11 := fun_mk (st := s_gap) l11 c11 k11
  have b11 := F11.binds (ps := ["two"]) fun _ _ _ _ _ _ us hl => match us, hl with | [_], _ => rfl
  have F12 := fun_mk (st := s_check_two) l12 c12 k12
  have b12 := F12.binds (ps := ["two"]) fun _ _ _ _ _ _ us hl => match us, hl with | [_], _ => rfl
  have F13 := fun_mk (st := s_table_of) l13 c13 k13
  have b13 := F13.binds (ps := ["two"]) fun _ _ _ _ _ _ us hl => match us, hl with | [_], _ => rfl
  have F14 := fun_mk (st := s_two_of) l14 c14 k14
  have b14 := F14.binds (ps := ["form"]) fun _ _ _ _ _ _ us hl => match us, hl with | [_], _ => rfl
  have F15 := fun_mk (st := s_two_worth) l15 c15 k15
  have b15 := F15.binds (ps := ["two", "x", "y"]) fun _ _ _ _ _ _ us hl => match us, hl with | [_, _, _], _ => rfl
  have F16 := fun_mk (st := s_two_changed) l16 c16 k16
  have b16 := F16.binds (ps := ["two", "rows"]) fun _ _ _ _ _ _ us hl => match us, hl with | [_, _], _ => rfl
  have F17 := fun_mk (st := s_is_two_reduced) l17 c17 k17
  have b17 := F17.binds (ps := ["two"]) fun _ _ _ _ _ _ us hl => match us, hl with | [_], _ => rfl
  have F18 := fun_mk (st := s_two_reduced) l18 c18 k18
  have b18 := F18.binds (ps := ["two"]) fun _ _ _ _ _ _ us hl => match us, hl with | [_], _ => rfl
  have F19 := fun_mk (st := s_check_gap) l19 c19 k19
  have b19 := F19.binds (ps := ["number"]) fun _ _ _ _ _ _ us hl => match us, hl with | [_], _ => rfl
  have F20 := fun_mk (st := s_reduced_twos) l20 c20 k20
  have b20 := F20.binds (ps := ["number"]) fun _ _ _ _ _ _ us hl => match us, hl with | [_], _ => rfl
  have F21 := fun_mk (st := s_two_classes) l21 c21 k21
  have b21 := F21.binds (ps := ["number"]) fun _ _ _ _ _ _ us hl => match us, hl with | [_], _ => rfl
  have F22 := fun_mk (st := s_weighted_classes) l22 c22 k22
  have b22 := F22.binds (ps := ["number"]) fun _ _ _ _ _ _ us hl => match us, hl with | [_], _ => rfl
  have F23 := fun_mk (st := s_unit_two) l23 c23 k23
  have b23 := F23.binds (ps := ["number"]) fun _ _ _ _ _ _ us hl => match us, hl with | [_], _ => rfl
  have F24 := fun_mk (st := s_opposite_two) l24 c24 k24
  have b24 := F24.binds (ps := ["two"]) fun _ _ _ _ _ _ us hl => match us, hl with | [_], _ => rfl
  have F25 := fun_mk (st := s_l_cell) l25 c25 k25
  have b25 := F25.binds (ps := ["script", "k"]) fun _ _ _ _ _ _ us hl => match us, hl with | [_, _], _ => rfl
  have F26 := fun_mk (st := s_l_digits) l26 c26 k26
  have b26 := F26.binds (ps := ["script", "first", "last"]) fun _ _ _ _ _ _ us hl => match us, hl with | [_, _, _], _ => rfl
  have F27 := fun_mk (st := s_l_draw) l27 c27 k27
  have b27 := F27.binds (ps := ["box", "m"]) fun _ _ _ _ _ _ us hl => match us, hl with | [_, _], _ => rfl
  have F28 := fun_mk (st := s_l_pick) l28 c28 k28
  have b28 := F28.binds (ps := ["box", "rows"]) fun _ _ _ _ _ _ us hl => match us, hl with | [_, _], _ => rfl
  have F29 := fun_mk (st := s_l_same) l29 c29 k29
  have b29 := F29.binds (ps := ["one", "other"]) fun _ _ _ _ _ _ us hl => match us, hl with | [_, _], _ => rfl
  have F30 := fun_mk (st := s_l_gcd) l30 c30 k30
  have b30 := F30.binds (ps := ["one", "other"]) fun _ _ _ _ _ _ us hl => match us, hl with | [_, _], _ => rfl
  have F31 := fun_mk (st := s_l_fraction) l31 c31 k31
  have b31 := F31.binds (ps := ["above", "below"]) fun _ _ _ _ _ _ us hl => match us, hl with | [_, _], _ => rfl
  have F32 := fun_mk (st := s_l_add) l32 c32 k32
  have b32 := F32.binds (ps := ["one", "other"]) fun _ _ _ _ _ _ us hl => match us, hl with | [_, _], _ => rfl
  have F33 := fun_mk (st := s_l_times) l33 c33 k33
  have b33 := F33.binds (ps := ["one", "other"]) fun _ _ _ _ _ _ us hl => match us, hl with | [_, _], _ => rfl
  have F34 := fun_mk (st := s_l_dot) l34 c34 k34
  have b34 := F34.binds (ps := ["one", "other"]) fun _ _ _ _ _ _ us hl => match us, hl with | [_, _], _ => rfl
  have F35 := fun_mk (st := s_l_turned) l35 c35 k35
  have b35 := F35.binds (ps := ["table"]) fun _ _ _ _ _ _ us hl => match us, hl with | [_], _ => rfl
  have F36 := fun_mk (st := s_l_product) l36 c36 k36
  have b36 := F36.binds (ps := ["one", "other"]) fun _ _ _ _ _ _ us hl => match us, hl with | [_, _], _ => rfl
  have F37 := fun_mk (st := s_l_det) l37 c37 k37
  have b37 := F37.binds (ps := ["table"]) fun _ _ _ _ _ _ us hl => match us, hl with | [_], _ => rfl
  have F38 := fun_mk (st := s_l_unit) l38 c38 k38
  have b38 := F38.binds (ps := ["many"]) fun _ _ _ _ _ _ us hl => match us, hl with | [_], _ => rfl
  have F39 := fun_mk (st := s_l_change) l39 c39 k39
  have b39 := F39.binds (ps := ["box", "many", "steps"]) fun _ _ _ _ _ _ us hl => match us, hl with | [_, _, _], _ => rfl
  have F40 := fun_mk (st := s_l_at) l40 c40 k40
  have b40 := F40.binds (ps := ["form", "rows"]) fun _ _ _ _ _ _ us hl => match us, hl with | [_, _], _ => rfl
  have F41 := fun_mk (st := s_l_divisors) l41 c41 k41
  have b41 := F41.binds (ps := ["number"]) fun _ _ _ _ _ _ us hl => match us, hl with | [_], _ => rfl
  have F42 := fun_mk (st := s_l_sign) l42 c42 k42
  have b42 := F42.binds (ps := ["number", "prime"]) fun _ _ _ _ _ _ us hl => match us, hl with | [_, _], _ => rfl
  have F43 := fun_mk (st := s_l_primes) l43 c43 k43
  have b43 := F43.binds (ps := ["number"]) fun _ _ _ _ _ _ us hl => match us, hl with | [_], _ => rfl
  have F44 := fun_mk (st := s_l_classes) l44 c44 k44
  have b44 := F44.binds (ps := ["number", "whole"]) fun _ _ _ _ _ _ us hl => match us, hl with | [_, _], _ => rfl
  have F45 := fun_mk (st := s_l_character) l45 c45 k45
  have b45 := F45.binds (ps := ["number", "k"]) fun _ _ _ _ _ _ us hl => match us, hl with | [_, _], _ => rfl
  have F46 := fun_mk (st := s_l_is_fundamental) l46 c46 k46
  have b46 := F46.binds (ps := ["number"]) fun _ _ _ _ _ _ us hl => match us, hl with | [_], _ => rfl
  have F47 := fun_mk (st := s_l_weight) l47 c47 k47
  have b47 := F47.binds (ps := ["number"]) fun _ _ _ _ _ _ us hl => match us, hl with | [_], _ => rfl
  have F48 := fun_mk (st := s_l_two_change) l48 c48 k48
  have b48 := F48.binds (ps := ["box"]) fun _ _ _ _ _ _ us hl => match us, hl with | [_], _ => rfl
  have F49 := fun_mk (st := s_l_law) l49 c49 k49
  have b49 := F49.binds (ps := ["script"]) fun _ _ _ _ _ _ us hl => match us, hl with | [_], _ => rfl
  refine ⟨PySem.W.fnOf "law" "law" (defArgs s_l_law) (defBody s_l_law) (defScope s_l_law) .none kV49 dc49 pm49 an49 cd49 ct49, fun s v => .of_eq rfl, fun base _ _ => ?_⟩
  have c_divisor : CalG PySem.Challenge.pw_everygrid_k11_two_reduced w K mg base 1 "divisor" m_divisor := ⟨_, _, _, ok_divisor F0 t , PySem.W.mg_of X G a0, k0, b0⟩
  have c_divisor_of : CalG PySem.Challenge.pw_everygrid_k11_two_reduced w K mg base 2 "divisor_of" m_divisor_of := ⟨_, _, _, ok_divisor_of F1 t c_divisor, PySem.W.mg_of X G a1, k1, b1⟩
  have c_fraction : CalG PySem.Challenge.pw_everygrid_k11_two_reduced w K mg base 2 "fraction" m_fraction := ⟨_, _, _, ok_fraction F2 t c_divisor, PySem.W.mg_of X G a2, k2, b2⟩
  have c_root : CalG PySem.Challenge.pw_everygrid_k11_two_reduced w K mg base 1 "root" m_root := ⟨_, _, _, ok_root F3 t , PySem.W.mg_of X G a3, k3, b3⟩
  have c_is_whole : CalG PySem.Challenge.pw_everygrid_k11_two_reduced w K mg base 1 "is_whole" m_is_whole := ⟨_, _, _, ok_is_whole F4 t , PySem.W.mg_of X G a4, k4, b4⟩
  have c_is_row : CalG PySem.Challenge.pw_everygrid_k11_two_reduced w K mg base 2 "is_row" m_is_row := ⟨_, _, _, ok_is_row F5 t c_is_whole, PySem.W.mg_of X G a5, k5, b5⟩
  have c_wide : CalG PySem.Challenge.pw_everygrid_k11_two_reduced w K mg base 1 "wide" m_wide := ⟨_, _, _, ok_wide F6 t , PySem.W.mg_of X G a6, k6, b6⟩
  have c_turned : CalG PySem.Challenge.pw_everygrid_k11_two_reduced w K mg base 2 "turned" m_turned := ⟨_, _, _, ok_turned F7 t c_wide, PySem.W.mg_of X G a7, k7, b7⟩
  have c_dot : CalG PySem.Challenge.pw_everygrid_k11_two_reduced w K mg base 1 "dot" m_dot := ⟨_, _, _, ok_dot F8 t , PySem.W.mg_of X G a8, k8, b8⟩
  have c_product : CalG PySem.Challenge.pw_everygrid_k11_two_reduced w K mg base 3 "product" m_product := ⟨_, _, _, ok_product F9 t c_turned c_dot, PySem.W.mg_of X G a9, k9, b9⟩
  have c_is_two : CalG PySem.Challenge.pw_everygrid_k11_two_reduced w K mg base 3 "is_two" m_is_two := ⟨_, _, _, ok_is_two F10 t c_is_row, PySem.W.mg_of X G a10, k10, b10⟩
  have c_gap : CalG PySem.Challenge.pw_everygrid_k11_two_reduced w K mg base 1 "gap" m_gap := ⟨_, _, _, ok_gap F11 t , PySem.W.mg_of X G a11, k11, b11⟩
  have c_check_two : CalG PySem.Challenge.pw_everygrid_k11_two_reduced w K mg base 4 "check_two" m_check_two := ⟨_, _, _, ok_check_two F12 t c_divisor_of c_is_two c_gap, PySem.W.mg_of X G a12, k12, b12⟩
  have c_table_of : CalG PySem.Challenge.pw_everygrid_k11_two_reduced w K mg base 1 "table_of" m_table_of := ⟨_, _, _, ok_table_of F13 t , PySem.W.mg_of X G a13, k13, b13⟩
  have c_two_of : CalG PySem.Challenge.pw_everygrid_k11_two_reduced w K mg base 1 "two_of" m_two_of := ⟨_, _, _, ok_two_of F14 t , PySem.W.mg_of X G a14, k14, b14⟩
  have c_two_worth : CalG PySem.Challenge.pw_everygrid_k11_two_reduced w K mg base 1 "two_worth" m_two_worth := ⟨_, _, _, ok_two_worth F15 t , PySem.W.mg_of X G a15, k15, b15⟩
  have c_two_changed : CalG PySem.Challenge.pw_everygrid_k11_two_reduced w K mg base 2 "two_changed" m_two_changed := ⟨_, _, _, ok_two_changed F16 t c_two_worth, PySem.W.mg_of X G a16, k16, b16⟩
  have c_is_two_reduced : CalG PySem.Challenge.pw_everygrid_k11_two_reduced w K mg base 1 "is_two_reduced" m_is_two_reduced := ⟨_, _, _, ok_is_two_reduced F17 t , PySem.W.mg_of X G a17, k17, b17⟩
  have c_two_reduced : CalG PySem.Challenge.pw_everygrid_k11_two_reduced w K mg base 5 "two_reduced" m_two_reduced := ⟨_, _, _, ok_two_reduced F18 t c_product c_check_two c_two_changed c_is_two_reduced, PySem.W.mg_of X G a18, k18, b18⟩
  have c_check_gap : CalG PySem.Challenge.pw_everygrid_k11_two_reduced w K mg base 1 "check_gap" m_check_gap := ⟨_, _, _, ok_check_gap F19 t , PySem.W.mg_of X G a19, k19, b19⟩
  have c_reduced_twos : CalG PySem.Challenge.pw_everygrid_k11_two_reduced w K mg base 2 "reduced_twos" m_reduced_twos := ⟨_, _, _, ok_reduced_twos F20 t c_root c_is_two_reduced c_check_gap, PySem.W.mg_of X G a20, k20, b20⟩
  have c_two_classes : CalG PySem.Challenge.pw_everygrid_k11_two_reduced w K mg base 3 "two_classes" m_two_classes := ⟨_, _, _, ok_two_classes F21 t c_divisor_of c_reduced_twos, PySem.W.mg_of X G a21, k21, b21⟩
  have c_weighted_classes : CalG PySem.Challenge.pw_everygrid_k11_two_reduced w K mg base 3 "weighted_classes" m_weighted_classes := ⟨_, _, _, ok_weighted_classes F22 t c_fraction c_reduced_twos, PySem.W.mg_of X G a22, k22, b22⟩
  have c_unit_two : CalG PySem.Challenge.pw_everygrid_k11_two_reduced w K mg base 2 "unit_two" m_unit_two := ⟨_, _, _, ok_unit_two F23 t c_check_gap, PySem.W.mg_of X G a23, k23, b23⟩
  have c_opposite_two : CalG PySem.Challenge.pw_everygrid_k11_two_reduced w K mg base 6 "opposite_two" m_opposite_two := ⟨_, _, _, ok_opposite_two F24 t c_check_two c_two_reduced, PySem.W.mg_of X G a24, k24, b24⟩
  have c_l_cell : CalG PySem.Challenge.pw_everygrid_k11_two_reduced w K mg base 1 "_law_cell" m_l_cell := ⟨_, _, _, ok_l_cell F25 t , PySem.W.mg_of X G a25, k25, b25⟩
  have c_l_digits : CalG PySem.Challenge.pw_everygrid_k11_two_reduced w K mg base 2 "_law_digits" m_l_digits := ⟨_, _, _, ok_l_digits F26 t c_l_cell, PySem.W.mg_of X G a26, k26, b26⟩
  have c_l_draw : CalG PySem.Challenge.pw_everygrid_k11_two_reduced w K mg base 1 "_law_draw" m_l_draw := ⟨_, _, _, ok_l_draw F27 t , PySem.W.mg_of X G a27, k27, b27⟩
  have c_l_pick : CalG PySem.Challenge.pw_everygrid_k11_two_reduced w K mg base 2 "_law_pick" m_l_pick := ⟨_, _, _, ok_l_pick F28 t c_l_draw, PySem.W.mg_of X G a28, k28, b28⟩
  have c_l_same : CalG PySem.Challenge.pw_everygrid_k11_two_reduced w K mg base 1 "_law_same" m_l_same := ⟨_, _, _, ok_l_same F29 t , PySem.W.mg_of X G a29, k29, b29⟩
  have c_l_gcd : CalG PySem.Challenge.pw_everygrid_k11_two_reduced w K mg base 1 "_law_gcd" m_l_gcd := ⟨_, _, _, ok_l_gcd F30 t , PySem.W.mg_of X G a30, k30, b30⟩
  have c_l_fraction : CalG PySem.Challenge.pw_everygrid_k11_two_reduced w K mg base 2 "_law_fraction" m_l_fraction := ⟨_, _, _, ok_l_fraction F31 t c_l_gcd, PySem.W.mg_of X G a31, k31, b31⟩
  have c_l_add : CalG PySem.Challenge.pw_everygrid_k11_two_reduced w K mg base 3 "_law_add" m_l_add := ⟨_, _, _, ok_l_add F32 t c_l_fraction, PySem.W.mg_of X G a32, k32, b32⟩
  have c_l_times : CalG PySem.Challenge.pw_everygrid_k11_two_reduced w K mg base 3 "_law_times" m_l_times := ⟨_, _, _, ok_l_times F33 t c_l_fraction, PySem.W.mg_of X G a33, k33, b33⟩
  have c_l_dot : CalG PySem.Challenge.pw_everygrid_k11_two_reduced w K mg base 1 "_law_dot" m_l_dot := ⟨_, _, _, ok_l_dot F34 t , PySem.W.mg_of X G a34, k34, b34⟩
  have c_l_turned : CalG PySem.Challenge.pw_everygrid_k11_two_reduced w K mg base 1 "_law_turned" m_l_turned := ⟨_, _, _, ok_l_turned F35 t , PySem.W.mg_of X G a35, k35, b35⟩
  have c_l_product : CalG PySem.Challenge.pw_everygrid_k11_two_reduced w K mg base 2 "_law_product" m_l_product := ⟨_, _, _, ok_l_product F36 t c_l_dot c_l_turned, PySem.W.mg_of X G a36, k36, b36⟩
  have c_l_det : CalG PySem.Challenge.pw_everygrid_k11_two_reduced w K mg base 4 "_law_det" (m_l_det 3) := ⟨_, _, _, ok_l_det F37 t  (PySem.W.mg_of X G a37) k37 b37 3, PySem.W.mg_of X G a37, k37, b37⟩
  have c_l_unit : CalG PySem.Challenge.pw_everygrid_k11_two_reduced w K mg base 1 "_law_unit" m_l_unit := ⟨_, _, _, ok_l_unit F38 t , PySem.W.mg_of X G a38, k38, b38⟩
  have c_l_change : CalG PySem.Challenge.pw_everygrid_k11_two_reduced w K mg base 3 "_law_change" m_l_change := ⟨_, _, _, ok_l_change F39 t c_l_draw c_l_pick c_l_unit, PySem.W.mg_of X G a39, k39, b39⟩
  have c_l_at : CalG PySem.Challenge.pw_everygrid_k11_two_reduced w K mg base 3 "_law_at" m_l_at := ⟨_, _, _, ok_l_at F40 t c_l_turned c_l_product, PySem.W.mg_of X G a40, k40, b40⟩
  have c_l_divisors : CalG PySem.Challenge.pw_everygrid_k11_two_reduced w K mg base 1 "_law_divisors" m_l_divisors := ⟨_, _, _, ok_l_divisors F41 t , PySem.W.mg_of X G a41, k41, b41⟩
  have c_l_sign : CalG PySem.Challenge.pw_everygrid_k11_two_reduced w K mg base 1 "_law_sign" m_l_sign := ⟨_, _, _, ok_l_sign F42 t , PySem.W.mg_of X G a42, k42, b42⟩
  have c_l_primes : CalG PySem.Challenge.pw_everygrid_k11_two_reduced w K mg base 1 "_law_primes" m_l_primes := ⟨_, _, _, ok_l_primes F43 t , PySem.W.mg_of X G a43, k43, b43⟩
  have c_l_classes : CalG PySem.Challenge.pw_everygrid_k11_two_reduced w K mg base 2 "_law_classes" m_l_classes := ⟨_, _, _, ok_l_classes F44 t c_l_gcd, PySem.W.mg_of X G a44, k44, b44⟩
  have c_l_character : CalG PySem.Challenge.pw_everygrid_k11_two_reduced w K mg base 2 "_law_character" m_l_character := ⟨_, _, _, ok_l_character F45 t c_l_sign c_l_primes, PySem.W.mg_of X G a45, k45, b45⟩
  have c_l_is_fundamental : CalG PySem.Challenge.pw_everygrid_k11_two_reduced w K mg base 2 "_law_is_fundamental" m_l_is_fundamental := ⟨_, _, _, ok_l_is_fundamental F46 t c_l_primes, PySem.W.mg_of X G a46, k46, b46⟩
  have c_l_weight : CalG PySem.Challenge.pw_everygrid_k11_two_reduced w K mg base 4 "_law_weight" m_l_weight := ⟨_, _, _, ok_l_weight F47 t c_l_add c_l_classes, PySem.W.mg_of X G a47, k47, b47⟩
  have c_l_two_change : CalG PySem.Challenge.pw_everygrid_k11_two_reduced w K mg base 5 "_law_two_change" m_l_two_change := ⟨_, _, _, ok_l_two_change F48 t c_l_det c_l_change, PySem.W.mg_of X G a48, k48, b48⟩
  exact ok_l_law F49 t c_gap c_table_of c_two_of c_two_worth c_two_changed c_is_two_reduced c_two_reduced c_two_classes c_weighted_classes c_unit_two c_opposite_two c_l_digits c_l_draw c_l_pick c_l_same c_l_add c_l_times c_l_det c_l_at c_l_divisors c_l_classes c_l_character c_l_is_fundamental c_l_weight c_l_two_change
end K11
open PySem PySem.W PyProof.Rows
set_option maxHeartbeats 0 in
theorem PySem.Challenge.cw_everygrid_k11_two_reduced_holds : PySem.Challenge.rw_everygrid_k11_two_reduced.Holds := by
  w_on; o_law; k_head; (case hw => w_witness2)
  k_fill
  refine DL.walk_G (l := PySem.Challenge.rw_everygrid_k11_two_reduced) (n := 63) (k := 7) (x := "script") K11.m_l_law rfl (by decide) rfl ⟨rfl, by decide, by decide⟩ (fun w h Y => PySem.W.kIn_of Y) ?F (fun ns hl => K11.law_ok ns hl)
  case F =>
    intro w mg fa h KX G hmg
    refine' K11.all_mk KX G hmg ?a0 ?l0 ?c0 ?k0 ?a1 ?l1 ?c1 ?k1 ?a2 ?l2 ?c2 ?k2 ?a3 ?l3 ?c3 ?k3 ?a4 ?l4 ?c4 ?k4 ?a5 ?l5 ?c5 ?k5 ?a6 ?l6 ?c6 ?k6 ?a7 ?l7 ?c7 ?k7 ?a8 ?l8 ?c8 ?k8 ?a9 ?l9 ?c9 ?k9 ?a10 ?l10 ?c10 ?k10 ?a11 ?l11 ?c11 ?k11 ?a12 ?l12 ?c12 ?k12 ?a13 ?l13 ?c13 ?k13 ?a14 ?l14 ?c14 ?k14 ?a15 ?l15 ?c15 ?k15 ?a16 ?l16 ?c16 ?k16 ?a17 ?l17 ?c17 ?k17 ?a18 ?l18 ?c18 ?k18 ?a19 ?l19 ?c19 ?k19 ?a20 ?l20 ?c20 ?k20 ?a21 ?l21 ?c21 ?k21 ?a22 ?l22 ?c22 ?k22 ?a23 ?l23 ?c23 ?k23 ?a24 ?l24 ?c24 ?k24 ?a25 ?l25 ?c25 ?k25 ?a26 ?l26 ?c26 ?k26 ?a27 ?l27 ?c27 ?k27 ?a28 ?l28 ?c28 ?k28 ?a29 ?l29 ?c29 ?k29 ?a30 ?l30 ?c30 ?k30 ?a31 ?l31 ?c31 ?k31 ?a32 ?l32 ?c32 ?k32 ?a33 ?l33 ?c33 ?k33 ?a34 ?l34 ?c34 ?k34 ?a35 ?l35 ?c35 ?k35 ?a36 ?l36 ?c36 ?k36 ?a37 ?l37 ?c37 ?k37 ?a38 ?l38 ?c38 ?k38 ?a39 ?l39 ?c39 ?k39 ?a40 ?l40 ?c40 ?k40 ?a41 ?l41 ?c41 ?k41 ?a42 ?l42 ?c42 ?k42 ?a43 ?l43 ?c43 ?k43 ?a44 ?l44 ?c44 ?k44 ?a45 ?l45 ?c45 ?k45 ?a46 ?l46 ?c46 ?k46 ?a47 ?l47 ?c47 ?k47 ?a48 ?l48 ?c48 ?k48 ?a49 ?l49 ?c49 ?k49 ?z_abs ?z_all ?z_bool ?z_int ?z_isinstance ?z_len ?z_list ?z_min ?z_range ?z_repr ?z_sorted ?z_sum ?z_tuple ?z_zip ?z_super ?g_UNIT ?k_UNIT ?xC ?xL ?xB ?xsa ?xga ?xgg ?xno ?xiC ?xtC ?xkC ?xexC ?xtyC ?xhdC ?xiscl ?xself ?xve ?xup ?xmr ?xany ?xlI ?xcI ?xcd ?xvs ?xfile ?xcc
    (case a0 => k_is); (case l0 => k_is); (case c0 => k_is); (case k0 => k_is); (case a1 => k_is); (case l1 => k_is)
    (case c1 => k_is); (case k1 => k_is); (case a2 => k_is); (case l2 => k_is); (case c2 => k_is); (case k2 => k_is)
    (case a3 => k_is); (case l3 => k_is); (case c3 => k_is); (case k3 => k_is); (case a4 => k_is); (case l4 => k_is)
    (case c4 => k_is); (case k4 => k_is); (case a5 => k_is); (case l5 => k_is); (case c5 => k_is); (case k5 => k_is)
    (case a6 => k_is); (case l6 => k_is); (case c6 => k_is); (case k6 => k_is); (case a7 => k_is); (case l7 => k_is)
    (case c7 => k_is); (case k7 => k_is); (case a8 => k_is); (case l8 => k_is); (case c8 => k_is); (case k8 => k_is)
    (case a9 => k_is); (case l9 => k_is); (case c9 => k_is); (case k9 => k_is); (case a10 => k_is); (case l10 => k_is)
    (case c10 => k_is); (case k10 => k_is); (case a11 => k_is); (case l11 => k_is); (case c11 => k_is); (case k11 => k_is)
    (case a12 => k_is); (case l12 => k_is); (case c12 => k_is); (case k12 => k_is); (case a13 => k_is); (case l13 => k_is)
    (case c13 => k_is); (case k13 => k_is); (case a14 => k_is); (case l14 => k_is); (case c14 => k_is); (case k14 => k_is)
    (case a15 => k_is); (case l15 => k_is); (case c15 => k_is); (case k15 => k_is); (case a16 => k_is); (case l16 => k_is)
    (case c16 => k_is); (case k16 => k_is); (case a17 => k_is); (case l17 => k_is); (case c17 => k_is); (case k17 => k_is)
    (case a18 => k_is); (case l18 => k_is); (case c18 => k_is); (case k18 => k_is); (case a19 => k_is); (case l19 => k_is)
    (case c19 => k_is); (case k19 => k_is); (case a20 => k_is); (case l20 => k_is); (case c20 => k_is); (case k20 => k_is)
    (case a21 => k_is); (case l21 => k_is); (case c21 => k_is); (case k21 => k_is); (case a22 => k_is); (case l22 => k_is)
    (case c22 => k_is); (case k22 => k_is); (case a23 => k_is); (case l23 => k_is); (case c23 => k_is); (case k23 => k_is)
    (case a24 => k_is); (case l24 => k_is); (case c24 => k_is); (case k24 => k_is); (case a25 => k_is); (case l25 => k_is)
    (case c25 => k_is); (case k25 => k_is); (case a26 => k_is); (case l26 => k_is); (case c26 => k_is); (case k26 => k_is)
    (case a27 => k_is); (case l27 => k_is); (case c27 => k_is); (case k27 => k_is); (case a28 => k_is); (case l28 => k_is)
    (case c28 => k_is); (case k28 => k_is); (case a29 => k_is); (case l29 => k_is); (case c29 => k_is); (case k29 => k_is)
    (case a30 => k_is); (case l30 => k_is); (case c30 => k_is); (case k30 => k_is); (case a31 => k_is); (case l31 => k_is)
    (case c31 => k_is); (case k31 => k_is); (case a32 => k_is); (case l32 => k_is); (case c32 => k_is); (case k32 => k_is)
    (case a33 => k_is); (case l33 => k_is); (case c33 => k_is); (case k33 => k_is); (case a34 => k_is); (case l34 => k_is)
    (case c34 => k_is); (case k34 => k_is); (case a35 => k_is); (case l35 => k_is); (case c35 => k_is); (case k35 => k_is)
    (case a36 => k_is); (case l36 => k_is); (case c36 => k_is); (case k36 => k_is); (case a37 => k_is); (case l37 => k_is)
    (case c37 => k_is); (case k37 => k_is); (case a38 => k_is); (case l38 => k_is); (case c38 => k_is); (case k38 => k_is)
    (case a39 => k_is); (case l39 => k_is); (case c39 => k_is); (case k39 => k_is); (case a40 => k_is); (case l40 => k_is)
    (case c40 => k_is); (case k40 => k_is); (case a41 => k_is); (case l41 => k_is); (case c41 => k_is); (case k41 => k_is)
    (case a42 => k_is); (case l42 => k_is); (case c42 => k_is); (case k42 => k_is); (case a43 => k_is); (case l43 => k_is)
    (case c43 => k_is); (case k43 => k_is); (case a44 => k_is); (case l44 => k_is); (case c44 => k_is); (case k44 => k_is)
    (case a45 => k_is); (case l45 => k_is); (case c45 => k_is); (case k45 => k_is); (case a46 => k_is); (case l46 => k_is)
    (case c46 => k_is); (case k46 => k_is); (case a47 => k_is); (case l47 => k_is); (case c47 => k_is); (case k47 => k_is)
    (case a48 => k_is); (case l48 => k_is); (case c48 => k_is); (case k48 => k_is); (case a49 => k_is); (case l49 => k_is)
    (case c49 => k_is); (case k49 => k_is); (case z_abs => k_is); (case z_all => k_is); (case z_bool => k_is); (case z_int => k_is)
    (case z_isinstance => k_is); (case z_len => k_is); (case z_list => k_is); (case z_min => k_is); (case z_range => k_is); (case z_repr => k_is)
    (case z_sorted => k_is); (case z_sum => k_is); (case z_tuple => k_is); (case z_zip => k_is); (case z_super => k_is); (case g_UNIT => k_is)
    (case k_UNIT => first | kernel_rfl | rfl); (case xC => k_is); (case xL => k_is); (case xB => first | rfl | decide +kernel | k_is); (case xsa => k_is); (case xga => k_is)
    (case xgg => k_is); (case xno => k_is); (case xiC => k_is); (case xtC => k_is); (case xkC => k_is); (case xexC => k_is)
    (case xtyC => k_is); (case xhdC => k_is); (case xiscl => k_is); (case xself => k_is); (case xve => k_is); (case xup => first | kernel_rfl | rfl)
    (case xmr => k_is); (case xany => k_is); (case xlI => k_is); (case xcI => k_is); (case xcd => k_is); (case xvs => first | rfl | decide +kernel | k_is)
    (case xfile => first | rfl | decide +kernel | k_is); (case xcc => k_is)
