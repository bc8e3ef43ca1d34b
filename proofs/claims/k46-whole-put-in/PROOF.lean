import PyProof.Rows.All
import Wide.All
import OpenK.AllK
import Wide.FinOn
import HandS.ForMost
import HandS.Wide
import HandS.TupAny
import HandS.NoneIn
import HandS.Flow
import HandS.IsInst
import HandS.SortInts
import KE.KDictKeyed
import HandS.Style
import KE.DatumMoreOrd
import KE.KSortedM
import HandS.More
import HandS.HeadHook3
import HandS.Defaults
import HandS.Ends
import HandS.Words
import HandS.WordsExc
import HandS.Head0
import HandS.Head1
import HandS.Head2
import HandS.HeadEnd
import HandS.HeadHook1
import HandS.HeadHook2
import HandS.HeadHook4
import PySem.Challenge.RW_samepaper_k46_whole_put_in
set_option Elab.async false
set_option linter.all false
set_option maxRecDepth 100000
set_option maxHeartbeats 0
/-! A layer of data over HandS: values with their tuples inlined (D), mutable objects by number (MO), readings that are functions. -/
namespace DL
open PySem PySem.Spec PyProof.Rows L2

inductive D where
  | non | bl (b : Bool) | int (i : Int) | str (x : Str) | tup (ds : List D) | lst (ds : List D) | frl (ds : List D) | obj (i : Nat)

inductive MO where
  | lst (ds : List D) | dint (kvs : List (Int × D)) | dct (kvs : List (NestedKey × D)) | dfz (kvs : List (NestedKey × D)) | ins (fs : List (Str × D))

def KTup (K : PySem.W.Frag) (a : Addr) (xs : List V) : Prop :=
  ∃ (o : Obj) (its : Array Value) (n : Nat), K.lookup a = some o ∧ o.cls = .type "tuple" ∧ o.data = .seq its n ∧ its.size ≤ sizeLine ∧ Vals xs its.toList
def TupAt (K : PySem.W.Frag) (H : Hp) (ads : List Addr) (a : Addr) (xs : List V) : Prop := (a ∉ ads ∧ Rd H a (.tup xs)) ∨ KTup K a xs
def KLst (K : PySem.W.Frag) (a : Addr) (xs : List V) : Prop :=
  ∃ (o : Obj) (its : Array Value) (n : Nat), K.lookup a = some o ∧ o.cls = .type "list" ∧ o.dict = none ∧ o.data = .seq its n ∧ its.size ≤ sizeLine ∧ Vals xs its.toList
/-- a list that nobody writes to any more -/
def LstAt (H : Hp) (ads : List Addr) (a : Addr) (xs : List V) : Prop := a ∉ ads ∧ H a = some (.lst xs)
/-- the script -/
def FrlAt (K : PySem.W.Frag) (H : Hp) (ads : List Addr) (a : Addr) (xs : List V) : Prop := (a ∉ ads ∧ Rd H a (.lst xs)) ∨ KLst K a xs

mutual
def Is (K : PySem.W.Frag) (H : Hp) (ads : List Addr) : D → V → Prop
  | .non, v => v = .non
  | .bl b, v => v = .bl b
  | .int i, v => v = .int i
  | .str x, v => v = .str x
  | .tup ds, v => ∃ a xs, v = .ref a ∧ TupAt K H ads a xs ∧ Iss K H ads ds xs
  | .lst ds, v => ∃ a xs, v = .ref a ∧ LstAt H ads a xs ∧ Iss K H ads ds xs
  | .frl ds, v => ∃ a xs, v = .ref a ∧ FrlAt K H ads a xs ∧ Iss K H ads ds xs
  | .obj i, v => ∃ a, v = .ref a ∧ ads[i]? = some a
def Iss (K : PySem.W.Frag) (H : Hp) (ads : List Addr) : List D → List V → Prop
  | [], vs => vs = []
  | d :: ds, vs => ∃ v r, vs = v :: r ∧ Is K H ads d v ∧ Iss K H ads ds r
end
theorem is_test (K H ads ds v) : Is K H ads (.tup ds) v = ∃ a xs, v = .ref a ∧ TupAt K H ads a xs ∧ Iss K H ads ds xs := rfl

/-- from one state to a later one -/
structure Fw0 (H : Hp) (ads : List Addr) (H' : Hp) (ads' : List Addr) : Prop where
  pre : ∃ t, ads' = ads ++ t
  keep : ∀ b o, H b = some o → b ∉ ads → H' b = some o
  new : ∀ b ∈ ads', b ∉ ads → H b = none
/-- .. and what is locked stays so -/
structure Fw (H : Hp) (ads : List Addr) (H' : Hp) (ads' : List Addr) : Prop extends Fw0 H ads H' ads' where
  frz : ∀ b o u, H b = some (.frz o u) → H' b = some (.frz o u)
section
variable {H H1 H2 : Hp} {ads ads1 ads2 : List Addr}
theorem Fw0.refl (H : Hp) (ads : List Addr) : Fw0 H ads H ads := ⟨⟨[], by simp⟩, fun _ _ e _ => e, fun b h n => absurd h n⟩
theorem Fw.refl (H : Hp) (ads : List Addr) : Fw H ads H ads := ⟨Fw0.refl H ads, fun _ _ _ e => e⟩
theorem Fw0.out (f : Fw0 H ads H1 ads1) {b : Addr} {o : HO} (e : H b = some o) (n : b ∉ ads) : b ∉ ads1 := fun h => by
  have := f.new b h n
  rw [e] at this; cases this
theorem Fw0.trans (f : Fw0 H ads H1 ads1) (g : Fw0 H1 ads1 H2 ads2) : Fw0 H ads H2 ads2 := by
  obtain ⟨t, e⟩ := f.pre
  obtain ⟨u, e2⟩ := g.pre
  refine ⟨⟨t ++ u, by rw [e2, e, List.append_assoc]⟩, fun b o h n => g.keep b o (f.keep b o h n) (f.out h n), fun b hb n => ?_⟩
  by_cases h1 : b ∈ ads1
  · exact f.new b h1 n
  · have := g.new b hb h1
    cases q : H b with
    | none => rfl
    | some o =>
      rw [f.keep b o q n] at this; cases this
theorem Fw.trans (f : Fw H ads H1 ads1) (g : Fw H1 ads1 H2 ads2) : Fw H ads H2 ads2 := ⟨f.toFw0.trans g.toFw0, fun b o u e => g.frz b o u (f.frz b o u e)⟩
theorem Fw0.get (f : Fw0 H ads H1 ads1) {i : Nat} {a : Addr} (e : ads[i]? = some a) : ads1[i]? = some a := by
  obtain ⟨t, rfl⟩ := f.pre
  have := (List.getElem?_eq_some_iff.mp e).1
  rw [List.getElem?_append_left this]; exact e
/-- something new is laid, not among the mutable ones -/
theorem Fw.laid {p : Addr} {o : HO} (h : H p = none) : Fw H ads (upd H p o) ads := ⟨⟨⟨[], by simp⟩, fun b u e _ => by rw [upd_ne (ne_of_none e h)]; exact e, fun b h n => absurd h n⟩, fun b u v e => by rw [upd_ne (ne_of_none e h)]; exact e⟩
/-- .. among them -/
theorem Fw.push {p : Addr} {o : HO} (h : H p = none) : Fw H ads (upd H p o) (ads ++ [p]) := ⟨⟨⟨[p], rfl⟩, fun b u e _ => by rw [upd_ne (ne_of_none e h)]; exact e, fun b hb n => by
  rcases List.mem_append.mp hb with z | z
  · exact absurd z n
  · have e : b = p := by simpa using z
    rw [e]; exact h⟩, fun b u v e => by rw [upd_ne (ne_of_none e h)]; exact e⟩
/-- a mutable one is written -/
theorem Fw0.write {p : Addr} {o : HO} (h : p ∈ ads) : Fw0 H ads (upd H p o) ads := ⟨⟨[], by simp⟩, fun b u e n => by
  have hb : b ≠ p := fun z => by rw [z] at n; exact n h
  rw [upd_ne hb]; exact e, fun b h n => absurd h n⟩
theorem Fw.write {p : Addr} {o u : HO} (h : p ∈ ads) (hp : H p = some u) (hn : ∀ o v, u ≠ .frz o v) : Fw H ads (upd H p o) ads := ⟨Fw0.write h, fun b c v e => by
  have hb : b ≠ p := fun z => by
    rw [z, hp] at e
    cases e
    exact hn _ _ rfl
  rw [upd_ne hb]; exact e⟩
theorem Rd.fw0 (f : Fw0 H ads H1 ads1) {a : Addr} {u : HO} (n : a ∉ ads) (r : Rd H a u) : a ∉ ads1 ∧ Rd H1 a u := by
  rcases r with r | ⟨o, r⟩
  · exact ⟨f.out r n, .inl (f.keep a _ r n)⟩
  · exact ⟨f.out r n, .inr ⟨o, f.keep a _ r n⟩⟩
theorem TupAt.fw0 {K : PySem.W.Frag} {a : Addr} {xs : List V} (f : Fw0 H ads H1 ads1) (h : TupAt K H ads a xs) : TupAt K H1 ads1 a xs := by
  rcases h with ⟨n, r⟩ | h
  · exact .inl (Rd.fw0 f n r)
  · exact .inr h
theorem TupAt.sq {K : PySem.W.Frag} {a : Addr} {xs : List V} (h : TupAt K H ads a xs) : SqT K H a xs := by
  rcases h with ⟨n, r⟩ | h
  · exact .inl r
  · exact .inr h
theorem LstAt.fw0 {a : Addr} {xs : List V} (f : Fw0 H ads H1 ads1) (h : LstAt H ads a xs) : LstAt H1 ads1 a xs := ⟨f.out h.2 h.1, f.keep a _ h.2 h.1⟩
theorem LstAt.sq {K : PySem.W.Frag} {a : Addr} {xs : List V} (h : LstAt H ads a xs) : SqL K H a xs := .inl (.inl h.2)
theorem FrlAt.fw0 {K : PySem.W.Frag} {a : Addr} {xs : List V} (f : Fw0 H ads H1 ads1) (h : FrlAt K H ads a xs) : FrlAt K H1 ads1 a xs := by
  rcases h with ⟨n, r⟩ | h
  · exact .inl (Rd.fw0 f n r)
  · exact .inr h
theorem FrlAt.sq {K : PySem.W.Frag} {a : Addr} {xs : List V} (h : FrlAt K H ads a xs) : SqL K H a xs := by
  rcases h with ⟨n, r⟩ | h
  · exact .inl r
  · exact .inr h
end
mutual
theorem Is.fw0 {K : PySem.W.Frag} {H H1 : Hp} {ads ads1 : List Addr} (f : Fw0 H ads H1 ads1) : ∀ (d : D) (v : V), Is K H ads d v → Is K H1 ads1 d v
  | .non, _, h => h
  | .bl _, _, h => h
  | .int _, _, h => h
  | .str _, _, h => h
  | .tup ds, _, h => by
    obtain ⟨a, xs, e, t, q⟩ := h
    exact ⟨a, xs, e, t.fw0 f, Iss.fw0 f ds xs q⟩
  | .lst ds, _, h => by
    obtain ⟨a, xs, e, t, q⟩ := h
    exact ⟨a, xs, e, t.fw0 f, Iss.fw0 f ds xs q⟩
  | .frl ds, _, h => by
    obtain ⟨a, xs, e, t, q⟩ := h
    exact ⟨a, xs, e, t.fw0 f, Iss.fw0 f ds xs q⟩
  | .obj i, _, h => by
    obtain ⟨a, e, q⟩ := h
    exact ⟨a, e, f.get q⟩
theorem Iss.fw0 {K : PySem.W.Frag} {H H1 : Hp} {ads ads1 : List Addr} (f : Fw0 H ads H1 ads1) : ∀ (ds : List D) (vs : List V), Iss K H ads ds vs → Iss K H1 ads1 ds vs
  | [], _, h => h
  | d :: ds, _, h => by
    obtain ⟨v, r, e, h1, h2⟩ := h
    exact ⟨v, r, e, Is.fw0 f d v h1, Iss.fw0 f ds r h2⟩
end
section
variable {K : PySem.W.Frag} {H H1 : Hp} {ads ads1 : List Addr} {a : Addr} {xs : List V}
theorem TupAt.fw (f : Fw H ads H1 ads1) (h : TupAt K H ads a xs) : TupAt K H1 ads1 a xs := h.fw0 f.toFw0
theorem LstAt.fw (f : Fw H ads H1 ads1) (h : LstAt H ads a xs) : LstAt H1 ads1 a xs := h.fw0 f.toFw0
theorem FrlAt.fw (f : Fw H ads H1 ads1) (h : FrlAt K H ads a xs) : FrlAt K H1 ads1 a xs := h.fw0 f.toFw0
theorem Is.fw (f : Fw H ads H1 ads1) (d : D) (v : V) (h : Is K H ads d v) : Is K H1 ads1 d v := Is.fw0 f.toFw0 d v h
theorem Iss.fw (f : Fw H ads H1 ads1) (ds : List D) (vs : List V) (h : Iss K H ads ds vs) : Iss K H1 ads1 ds vs := Iss.fw0 f.toFw0 ds vs h
end
theorem Iss.length {K : PySem.W.Frag} {H : Hp} {ads : List Addr} : ∀ {ds : List D} {vs : List V}, Iss K H ads ds vs → vs.length = ds.length
  | [], _, h => by cases h; rfl
  | d :: ds, _, h => by
    obtain ⟨v, r, rfl, _, h2⟩ := h
    simp [h2.length]
theorem Iss.get {K : PySem.W.Frag} {H : Hp} {ads : List Addr} : ∀ {ds : List D} {vs : List V} {i : Nat} {d : D}, Iss K H ads ds vs → ds[i]? = some d → ∃ v, vs[i]? = some v ∧ Is K H ads d v
  | [], _, _, _, _, e => by simp at e
  | c :: ds, _, 0, d, h, e => by
    obtain ⟨v, r, rfl, h1, _⟩ := h
    simp at e; subst e
    exact ⟨v, rfl, h1⟩
  | c :: ds, _, i + 1, d, h, e => by
    obtain ⟨v, r, rfl, _, h2⟩ := h
    obtain ⟨u, a, b⟩ := h2.get (i := i) (by simpa using e)
    exact ⟨u, by simpa using a, b⟩
theorem Iss.get' {K : PySem.W.Frag} {H : Hp} {ads : List Addr} : ∀ {ds : List D} {vs : List V} {i : Nat} {v : V}, Iss K H ads ds vs → vs[i]? = some v → ∃ d, ds[i]? = some d ∧ Is K H ads d v
  | [], _, _, _, h, e => by cases h; simp at e
  | c :: ds, _, 0, d, h, e => by
    obtain ⟨v, r, rfl, h1, _⟩ := h
    simp at e; subst e
    exact ⟨c, rfl, h1⟩
  | c :: ds, _, i + 1, d, h, e => by
    obtain ⟨v, r, rfl, _, h2⟩ := h
    obtain ⟨u, a, b⟩ := h2.get' (i := i) (by simpa using e)
    exact ⟨u, by simpa using a, b⟩
theorem Iss.append {K : PySem.W.Frag} {H : Hp} {ads : List Addr} : ∀ {ds es : List D} {vs us : List V}, Iss K H ads ds vs → Iss K H ads es us → Iss K H ads (ds ++ es) (vs ++ us)
  | [], _, _, _, h, g => by cases h; exact g
  | c :: ds, _, _, _, h, g => by
    obtain ⟨v, r, rfl, h1, h2⟩ := h
    exact ⟨v, _, rfl, h1, h2.append g⟩
theorem Iss.take' {K : PySem.W.Frag} {H : Hp} {ads : List Addr} : ∀ {ds : List D} {vs : List V} (n : Nat), Iss K H ads ds vs → Iss K H ads (ds.take n) (vs.take n)
  | _, _, 0, _ => rfl
  | [], _, _ + 1, h => by cases h; rfl
  | c :: ds, _, n + 1, h => by
    obtain ⟨v, r, rfl, h1, h2⟩ := h
    exact ⟨v, _, rfl, h1, h2.take' n⟩
theorem Iss.drop' {K : PySem.W.Frag} {H : Hp} {ads : List Addr} : ∀ {ds : List D} {vs : List V} (n : Nat), Iss K H ads ds vs → Iss K H ads (ds.drop n) (vs.drop n)
  | _, _, 0, h => h
  | [], _, _ + 1, h => by cases h; rfl
  | c :: ds, _, n + 1, h => by
    obtain ⟨v, r, rfl, h1, h2⟩ := h
    exact h2.drop' n
theorem Iss.set {K : PySem.W.Frag} {H : Hp} {ads : List Addr} {d : D} {u : V} (hd : Is K H ads d u) : ∀ {ds : List D} {vs : List V} (n : Nat), Iss K H ads ds vs → Iss K H ads (ds.set n d) (vs.set n u)
  | [], _, _, h => by cases h; rfl
  | c :: ds, _, 0, h => by
    obtain ⟨v, r, rfl, h1, h2⟩ := h
    exact ⟨u, _, rfl, hd, h2⟩
  | c :: ds, _, n + 1, h => by
    obtain ⟨v, r, rfl, h1, h2⟩ := h
    exact ⟨v, _, rfl, h1, h2.set hd n⟩
theorem Iss.one {K : PySem.W.Frag} {H : Hp} {ads : List Addr} {d : D} {v : V} (h : Is K H ads d v) : Iss K H ads [d] [v] := ⟨v, [], rfl, h, rfl⟩
end DL
namespace DL
open PySem PySem.Spec PyProof.Rows L2

/-! ### keys of nested tuples -/
mutual
def kd : NestedKey → D
  | .none => .non
  | .num i => .int i
  | .text x => .str x
  | .tup ks => .tup (kds ks)
def kds : List NestedKey → List D
  | [] => []
  | k :: ks => kd k :: kds ks
end
mutual
def D.nk : D → Option NestedKey
  | .int i => some (.num i)
  | .str x => some (.text x)
  | .tup ds => (D.nks ds).map .tup
  | _ => none
def D.nks : List D → Option (List NestedKey)
  | [] => some []
  | d :: ds => (D.nk d).bind fun k => (D.nks ds).map fun ks => k :: ks
end
mutual
theorem nk_kd : ∀ (d : D) (k : NestedKey), D.nk d = some k → kd k = d
  | .int i, k, h => by have h : some (NestedKey.num i) = some k := h; cases h; rfl
  | .str x, k, h => by have h : some (NestedKey.text x) = some k := h; cases h; rfl
  | .tup ds, k, h => by
    have h : (D.nks ds).map NestedKey.tup = some k := h
    cases e : D.nks ds with
    | none => rw [e] at h; cases h
    | some ks =>
      rw [e] at h; cases h
      show D.tup (kds ks) = _
      rw [nks_kds ds ks e]
  | .non, _, h => nomatch (show (none : Option NestedKey) = some _ from h)
  | .bl _, _, h => nomatch (show (none : Option NestedKey) = some _ from h)
  | .lst _, _, h => nomatch (show (none : Option NestedKey) = some _ from h)
  | .frl _, _, h => nomatch (show (none : Option NestedKey) = some _ from h)
  | .obj _, _, h => nomatch (show (none : Option NestedKey) = some _ from h)
theorem nks_kds : ∀ (ds : List D) (ks : List NestedKey), D.nks ds = some ks → kds ks = ds
  | [], ks, h => by have h : some ([] : List NestedKey) = some ks := h; cases h; rfl
  | d :: ds, ks, h => by
    have h : ((D.nk d).bind fun k => (D.nks ds).map fun ks => k :: ks) = some ks := h
    cases e : D.nk d with
    | none => rw [e] at h; cases h
    | some k =>
      cases e2 : D.nks ds with
      | none => rw [e, e2] at h; cases h
      | some r =>
        rw [e, e2] at h; cases h
        show kd k :: kds r = _
        rw [nk_kd d k e, nks_kds ds r e2]
end
section
variable {X : Cx} {pins : List (Addr × Obj)} {σ : L2.St} {H : Hp} {s : Shared} {ads : List Addr}
mutual
theorem Is.nested (I : Inv X pins σ H s) : ∀ (k : NestedKey) (v : V) (u : Value), Is X.K H ads (kd k) v → RelV v u → NestedIs s.heap k u
  | .none, v, u, h, r => by
    have h : v = .non := h
    subst h; cases r; exact .none
  | .num i, v, u, h, r => by
    have h : v = .int i := h
    subst h; obtain ⟨t, rfl⟩ := r; exact .int i t
  | .text x, v, u, h, r => by
    have h : v = .str x := h
    subst h; obtain ⟨t, rfl⟩ := r; exact .text x t
  | .tup ks, v, u, h, r => by
    obtain ⟨a, xs, rfl, t, q⟩ := (show ∃ a xs, v = .ref a ∧ TupAt X.K H ads a xs ∧ Iss X.K H ads (kds ks) xs from h)
    cases r
    obtain ⟨its, rv, ⟨o, ho, hc, n, hd⟩, _⟩ := I.tuple t.sq
    exact .tup ho hc hd (by simpa using Iss.nested I ks xs its q rv)
theorem Iss.nested (I : Inv X pins σ H s) : ∀ (ks : List NestedKey) (vs : List V) (us : List Value), Iss X.K H ads (kds ks) vs → Vals vs us → NestedAll s.heap ks us
  | [], vs, us, h, r => by
    have h : vs = [] := h
    subst h; cases r; exact .nil
  | k :: ks, vs, us, h, r => by
    obtain ⟨v, l, rfl, h1, h2⟩ := (show ∃ v r, vs = v :: r ∧ Is X.K H ads (kd k) v ∧ Iss X.K H ads (kds ks) r from h)
    cases r with
    | cons r1 r2 => exact .cons (Is.nested I k v _ h1 r1) (Iss.nested I ks l _ h2 r2)
end
end

/-! ### the mutable objects -/
/-- a dict with nested keys: its entries as they stand -/
def NDp (P : Program) (w : World) (d : Addr) (xs : List (NestedKey × Addr × Value)) : Heap → Prop := fun h =>
  ∃ o es ep, h.get? d = some o ∧ o.ExactDict ∧ o.data = .dict es ep ∧ es.toList = xs.map (entryOfKey (nestedKind P w)) ∧ (xs.map (·.1)).Nodup
def NDo (P : Program) (w : World) (d : Addr) (xs : List (NestedKey × Addr × Value)) : HO := .ext (NDp P w d xs)
def NDr (K : PySem.W.Frag) (H : Hp) (ads : List Addr) (p : NestedKey × D) (x : NestedKey × Addr × Value) : Prop :=
  p.1 = x.1 ∧ p.1.depth ≤ 8 ∧ Is K H ads (kd p.1) (.ref x.2.1) ∧ ∃ v, RelV v x.2.2 ∧ Is K H ads p.2 v
def NDs (K : PySem.W.Frag) (H : Hp) (ads : List Addr) (kvs : List (NestedKey × D)) (xs : List (NestedKey × Addr × Value)) : Prop := Paired (NDr K H ads) kvs xs
def DIs (K : PySem.W.Frag) (H : Hp) (ads : List Addr) (kvs : List (Int × D)) (ks : List (Key × V)) : Prop := Paired (fun (p : Int × D) (q : Key × V) => q.1 = .inl p.1 ∧ Is K H ads p.2 q.2) kvs ks
def FIs (K : PySem.W.Frag) (H : Hp) (ads : List Addr) (fs : List (Str × D)) (gs : List (Str × V)) : Prop := Paired (fun (p : Str × D) (q : Str × V) => q.1 = p.1 ∧ Is K H ads p.2 q.2) fs gs
def MOk (P : Program) (w : World) (K : PySem.W.Frag) (H : Hp) (ads : List Addr) (a : Addr) : MO → Prop
  | .lst ds => ∃ vs, H a = some (.lst vs) ∧ Iss K H ads ds vs
  | .dint kvs => ∃ ks, H a = some (.dK ks) ∧ DIs K H ads kvs ks
  | .dct kvs => (a == sysModules) = false ∧ kvs.length ≤ sizeLine ∧ ∃ xs, H a = some (NDo P w a xs) ∧ NDs K H ads kvs xs
  | .dfz kvs => (a == sysModules) = false ∧ kvs.length ≤ sizeLine ∧ ∃ od xs, H a = some (.frz od (NDo P w a xs)) ∧ NDs K H ads kvs xs
  | .ins fs => ∃ C dx gs, PySem.W.nsIn K mainGlobals "Forms" = some (some (.ref C)) ∧ H a = some (.ins C dx gs) ∧ FIs K H ads fs gs
structure Rz (P : Program) (w : World) (K : PySem.W.Frag) (H : Hp) (ads : List Addr) (M : List MO) : Prop where
  len : ads.length = M.length
  nd : ads.Nodup
  ok : ∀ (i : Nat) (a : Addr) (o : MO), ads[i]? = some a → M[i]? = some o → MOk P w K H ads a o
section
variable {P : Program} {w : World} {K : PySem.W.Frag} {H H1 : Hp} {ads ads1 : List Addr} {M : List MO} {a p : Addr} {o : MO} {u : HO}
theorem NDs.fw0 {kvs xs} (f : Fw0 H ads H1 ads1) (h : NDs K H ads kvs xs) : NDs K H1 ads1 kvs xs :=
  Paired.mapP h fun _ _ ⟨e, d, k, v, r, q⟩ => ⟨e, d, Is.fw0 f _ _ k, v, r, Is.fw0 f _ _ q⟩
theorem DIs.fw0 {kvs ks} (f : Fw0 H ads H1 ads1) (h : DIs K H ads kvs ks) : DIs K H1 ads1 kvs ks := Paired.mapP h fun _ _ ⟨e, q⟩ => ⟨e, Is.fw0 f _ _ q⟩
theorem FIs.fw0 {fs gs} (f : Fw0 H ads H1 ads1) (h : FIs K H ads fs gs) : FIs K H1 ads1 fs gs := Paired.mapP h fun _ _ ⟨e, q⟩ => ⟨e, Is.fw0 f _ _ q⟩
theorem MOk.fw0 (f : Fw0 H ads H1 ads1) (e : H1 a = H a) (h : MOk P w K H ads a o) : MOk P w K H1 ads1 a o := by
  cases o with
  | lst ds => obtain ⟨vs, h1, h2⟩ := h; exact ⟨vs, e.trans h1, Iss.fw0 f _ _ h2⟩
  | dint kvs => obtain ⟨vs, h1, h2⟩ := h; exact ⟨vs, e.trans h1, h2.fw0 f⟩
  | dct kvs => obtain ⟨h1, h2, vs, h3, h4⟩ := h; exact ⟨h1, h2, vs, e.trans h3, h4.fw0 f⟩
  | dfz kvs => obtain ⟨h1, h2, od, vs, h3, h4⟩ := h; exact ⟨h1, h2, od, vs, e.trans h3, h4.fw0 f⟩
  | ins fs => obtain ⟨C, dx, gs, h0, h1, h2⟩ := h; exact ⟨C, dx, gs, h0, e.trans h1, h2.fw0 f⟩
theorem MOk.has (h : MOk P w K H ads a o) : ∃ u, H a = some u := by
  cases o with
  | lst ds => obtain ⟨vs, h1, h2⟩ := h; exact ⟨_, h1⟩
  | dint kvs => obtain ⟨vs, h1, h2⟩ := h; exact ⟨_, h1⟩
  | dct kvs => obtain ⟨h1, h2, vs, h3, h4⟩ := h; exact ⟨_, h3⟩
  | dfz kvs => obtain ⟨h1, h2, od, vs, h3, h4⟩ := h; exact ⟨_, h3⟩
  | ins fs => obtain ⟨C, dx, gs, h0, h1, h2⟩ := h; exact ⟨_, h1⟩
theorem Rz.at (z : Rz P w K H ads M) {i : Nat} (h : M[i]? = some o) : ∃ a, ads[i]? = some a ∧ MOk P w K H ads a o := by
  have hi := (List.getElem?_eq_some_iff.mp h).1
  have hi' : i < ads.length := by rw [z.len]; exact hi
  exact ⟨ads[i], List.getElem?_eq_getElem hi', z.ok i _ o (List.getElem?_eq_getElem hi') h⟩
theorem Rz.has (z : Rz P w K H ads M) (h : a ∈ ads) : ∃ u, H a = some u := by
  obtain ⟨i, hi, e⟩ := List.getElem_of_mem h
  have hi' : i < M.length := by rw [← z.len]; exact hi
  exact (z.ok i a M[i] (by rw [List.getElem?_eq_getElem hi, e]) (List.getElem?_eq_getElem hi')).has
theorem Rz.fw0 (f : Fw0 H ads H1 ads) (e : ∀ a ∈ ads, H1 a = H a) (z : Rz P w K H ads M) : Rz P w K H1 ads M :=
  ⟨z.len, z.nd, fun i a o h1 h2 => (z.ok i a o h1 h2).fw0 f (e a (List.mem_of_getElem? h1))⟩
theorem Rz.laid (z : Rz P w K H ads M) (hp : H p = none) : Rz P w K (upd H p u) ads M := z.fw0 (Fw.laid hp).toFw0 fun a ha => by
  obtain ⟨v, e⟩ := z.has ha
  exact upd_ne (ne_of_none e hp)
theorem Rz.push (z : Rz P w K H ads M) (hp : H p = none) (new : MOk P w K (upd H p u) (ads ++ [p]) p o) : Rz P w K (upd H p u) (ads ++ [p]) (M ++ [o]) := by
  have np : p ∉ ads := fun h => by
    obtain ⟨v, e⟩ := z.has h
    rw [hp] at e; cases e
  refine ⟨by simp [z.len], ?_, fun i a o' h1 h2 => ?_⟩
  · rw [List.nodup_append]
    exact ⟨z.nd, by simp, fun a ha b hb => by
      have e : b = p := by simpa using hb
      rw [e]; intro q; rw [q] at ha; exact np ha⟩
  · by_cases hi : i < ads.length
    · rw [List.getElem?_append_left hi] at h1
      rw [List.getElem?_append_left (by rw [← z.len]; exact hi)] at h2
      obtain ⟨v, e⟩ := (z.ok i a o' h1 h2).has
      exact (z.ok i a o' h1 h2).fw0 (Fw.push hp).toFw0 (upd_ne (ne_of_none e hp))
    · rw [List.getElem?_append_right (by omega)] at h1
      rw [List.getElem?_append_right (by rw [← z.len]; omega)] at h2
      rw [← z.len] at h2
      have h0 : i - ads.length = 0 := by
        have := (List.getElem?_eq_some_iff.mp h1).1
        simp at this; omega
      rw [h0] at h1 h2
      cases h1; cases h2
      exact new
theorem Rz.write (z : Rz P w K H ads M) {i : Nat} (hi : ads[i]? = some a) (new : MOk P w K (upd H a u) ads a o) : Rz P w K (upd H a u) ads (M.set i o) := by
  refine ⟨by simp [z.len], z.nd, fun j b o' h1 h2 => ?_⟩
  have ha : a ∈ ads := List.mem_of_getElem? hi
  by_cases hj : j = i
  · subst hj
    rw [hi] at h1; cases h1
    have hl : j < M.length := by rw [← z.len]; exact (List.getElem?_eq_some_iff.mp hi).1
    rw [List.getElem?_set_self hl] at h2
    cases h2
    exact new
  · rw [List.getElem?_set_ne (Ne.symm hj)] at h2
    have hb : b ≠ a := fun e => by
      subst e
      obtain ⟨x1, y1⟩ := List.getElem?_eq_some_iff.mp h1
      obtain ⟨x2, y2⟩ := List.getElem?_eq_some_iff.mp hi
      exact hj ((List.getElem_inj z.nd).mp (y1.trans y2.symm))
    exact (z.ok j b o' h1 h2).fw0 (Fw0.write ha) (upd_ne hb)
end

/-! ### readings that are functions -/
abbrev TF := List (Option D) → List MO → Option (D × List MO)
abbrev TFT := List (Option D) → List MO → Option (Bool × List MO)
abbrev TFA := List (Option D) → List MO → Option (List D × List MO)
inductive Out where
  | nx (δ : List (Option D)) | rt (d : D) | bk (δ : List (Option D)) | ct (δ : List (Option D))
abbrev TFS := List (Option D) → List MO → Option (Out × List MO)
def Sl (K : PySem.W.Frag) (H : Hp) (ads : List Addr) (σ : L2.St) (δ : List (Option D)) : Prop :=
  δ.length = σ.length ∧ ∀ (i : Nat) (d : D), δ[i]? = some (some d) → ∃ v, σ[i]? = some (some v) ∧ Is K H ads d v
theorem Sl.fw0 {K : PySem.W.Frag} {H H1 : Hp} {ads ads1 : List Addr} {σ : L2.St} {δ : List (Option D)} (f : Fw0 H ads H1 ads1) (h : Sl K H ads σ δ) : Sl K H1 ads1 σ δ :=
  ⟨h.1, fun i d e => let ⟨v, a, b⟩ := h.2 i d e; ⟨v, a, Is.fw0 f d v b⟩⟩
section
variable {P : Program} {w : World} {K : PySem.W.Frag} {H H1 : Hp} {ads ads1 : List Addr} {a : Addr} {o : MO}
theorem Sl.fw {σ : L2.St} {δ : List (Option D)} (f : Fw H ads H1 ads1) (h : Sl K H ads σ δ) : Sl K H1 ads1 σ δ := h.fw0 f.toFw0
theorem NDs.fw {kvs xs} (f : Fw H ads H1 ads1) (h : NDs K H ads kvs xs) : NDs K H1 ads1 kvs xs := h.fw0 f.toFw0
theorem DIs.fw {kvs ks} (f : Fw H ads H1 ads1) (h : DIs K H ads kvs ks) : DIs K H1 ads1 kvs ks := h.fw0 f.toFw0
theorem FIs.fw {fs gs} (f : Fw H ads H1 ads1) (h : FIs K H ads fs gs) : FIs K H1 ads1 fs gs := h.fw0 f.toFw0
end
theorem Sl.set {K : PySem.W.Frag} {H : Hp} {ads : List Addr} {σ : L2.St} {δ : List (Option D)} {i : Nat} {d : D} {v : V} (h : Sl K H ads σ δ) (q : Is K H ads d v) : Sl K H ads (σ.set i (some v)) (δ.set i (some d)) := by
  refine ⟨by simp [h.1], fun j e hj => ?_⟩
  by_cases hji : j = i
  · subst hji
    have hl : j < δ.length := by
      have := (List.getElem?_eq_some_iff.mp hj).1
      simpa using this
    rw [List.getElem?_set_self hl] at hj
    cases hj
    exact ⟨v, by rw [List.getElem?_set_self (by rw [← h.1]; exact hl)], q⟩
  · rw [List.getElem?_set_ne (Ne.symm hji)] at hj
    rw [List.getElem?_set_ne (Ne.symm hji)]
    exact h.2 j e hj
section
variable (P : Program) (w : World) (K : PySem.W.Frag)
def tOf (f : TF) : TE := fun σ H Q => ∃ δ ads M d M', Sl K H ads σ δ ∧ Rz P w K H ads M ∧ f δ M = some (d, M') ∧
  ∀ v H' ads', Fw H ads H' ads' → Rz P w K H' ads' M' → Is K H' ads' d v → Q v H'
def tOfT (f : TFT) : TT := fun σ H Q => ∃ δ ads M b M', Sl K H ads σ δ ∧ Rz P w K H ads M ∧ f δ M = some (b, M') ∧
  ∀ H' ads', Fw H ads H' ads' → Rz P w K H' ads' M' → Q b H'
def tOfA (f : TFA) : TA := fun σ H Q => ∃ δ ads M ds M', Sl K H ads σ δ ∧ Rz P w K H ads M ∧ f δ M = some (ds, M') ∧
  ∀ vs H' ads', Fw H ads H' ads' → Rz P w K H' ads' M' → Iss K H' ads' ds vs → Q vs H'
def FinS (D' : Ends) (H' : Hp) (ads' : List Addr) : Out → Prop
  | .nx δ => ∀ σ', Sl K H' ads' σ' δ → D'.nx σ' H'
  | .rt d => ∀ v, Is K H' ads' d v → D'.rt v H'
  | .bk δ => ∀ σ', Sl K H' ads' σ' δ → D'.bk σ' H'
  | .ct δ => ∀ σ', Sl K H' ads' σ' δ → D'.ct σ' H'
def tOfS (f : TFS) : TS := fun D' σ H => ∃ δ ads M o M', Sl K H ads σ δ ∧ Rz P w K H ads M ∧ f δ M = some (o, M') ∧
  ∀ H' ads', Fw H ads H' ads' → Rz P w K H' ads' M' → FinS K D' H' ads' o
end
def PF (X : Cx) (e : Expr) (f : TF) : Prop := PE X e (tOf X.prog X.w X.K f)
def PFT (X : Cx) (e : Expr) (f : TFT) : Prop := PT X e (tOfT X.prog X.w X.K f)
def PFW (X : Cx) (e : Expr) (f : TFT) : Prop := PW X e (tOfT X.prog X.w X.K f)
def PFA (X : Cx) (es : List Expr) (f : TFA) : Prop := PA X es (tOfA X.prog X.w X.K f)
def PFS (X : Cx) (st : Stmt) (f : TFS) : Prop := PS X st (tOfS X.prog X.w X.K f)
def PFSs (X : Cx) (st : List Stmt) (f : TFS) : Prop := PSs X st (tOfS X.prog X.w X.K f)
theorem pr {α β : Type} {a c : α} {b d : β} (h : (a, b) = (c, d)) : a = c ∧ b = d := Prod.mk.inj h
theorem spr {α β : Type} {a c : α} {b d : β} (h : some (a, b) = some (c, d)) : a = c ∧ b = d := Prod.mk.inj (Option.some.inj h)
section
variable {X : Cx} {e a b : Expr} {es : List Expr} {f fa fb : TF} {pos : Pos}
theorem pf_of {te : TE} (h : PE X e te) (k : ∀ σ H Q, tOf X.prog X.w X.K f σ H Q → te σ H Q) : PF X e f := ⟨fun pins s σ H Q I hq => h.run pins s σ H Q I (k σ H Q hq)⟩
theorem pft_of {f : TFT} {te : TT} (h : PT X e te) (k : ∀ σ H Q, tOfT X.prog X.w X.K f σ H Q → te σ H Q) : PFT X e f := ⟨fun pins s σ H Q I hq => h.run pins s σ H Q I (k σ H Q hq)⟩
theorem pfw_of {f : TFT} {te : TT} (h : PW X e te) (k : ∀ σ H Q, tOfT X.prog X.w X.K f σ H Q → te σ H Q) : PFW X e f := ⟨fun wh pins s σ H Q I hq => h.run wh pins s σ H Q I (k σ H Q hq)⟩
theorem pfa_of {f : TFA} {te : TA} (h : PA X es te) (k : ∀ σ H Q, tOfA X.prog X.w X.K f σ H Q → te σ H Q) : PFA X es f := ⟨fun pos pins s σ H Q I hq => h.run pos pins s σ H Q I (k σ H Q hq)⟩
theorem pfs_of {st : Stmt} {f : TFS} {te : TS} (h : PS X st te) (k : ∀ D' σ H, tOfS X.prog X.w X.K f D' σ H → te D' σ H) : PFS X st f := ⟨fun pins s σ H D' I hq => h.run pins s σ H D' I (k D' σ H hq)⟩
theorem pfss_of {st : List Stmt} {f : TFS} {te : TS} (h : PSs X st te) (k : ∀ D' σ H, tOfS X.prog X.w X.K f D' σ H → te D' σ H) : PFSs X st f := ⟨fun pins s σ H D' I hq => h.run pins s σ H D' I (k D' σ H hq)⟩

/-! ### names and constants -/
def eVar (i : Nat) : TF := fun δ M => match δ[i]? with
  | some (some d) => some (d, M)
  | _ => none
def eC (d : D) : TF := fun _ M => some (d, M)
theorem bind_some {α β : Type} {o : Option α} {g : α → Option β} {c : β} (h : o.bind g = some c) : ∃ a, o = some a ∧ g a = some c := by
  cases o with
  | none => cases h
  | some a => exact ⟨a, rfl, h⟩
theorem map_some {α β : Type} {o : Option α} {g : α → β} {c : β} (h : o.map g = some c) : ∃ a, o = some a ∧ g a = c := by
  cases o with
  | none => cases h
  | some a => cases h; exact ⟨a, rfl, rfl⟩
theorem pf_var (i : Nat) {x : Str} {pos : Pos} (hN : X.N[i]? = some x := by rfl) (hv : Vis X.env.scope x := by first | exact Or.inl rfl | exact Or.inr (Or.inl rfl) | exact Or.inr (Or.inr rfl)) (hd : (x == ("__debug__" : Str)) = false := by decide)
    (hcd : (x == ("__classdict__" : Str)) = false := by decide) : PF X (.Name x pos) (eVar i) := pf_of (pe_var hN hv hd hcd) fun σ H Q ⟨δ, ads, M, d, M', hs, hz, hf, k⟩ => by
  unfold eVar at hf
  split at hf
  · rename_i d' q
    obtain ⟨rfl, rfl⟩ := spr hf
    obtain ⟨v, e1, e2⟩ := hs.2 i _ q
    exact ⟨v, e1, k v H ads (Fw.refl H ads) hz e2⟩
  · cases hf
theorem pf_c {v : V} {d : D} (h : PE X e (tC v)) (hd : ∀ H ads, Is X.K H ads d v) : PF X e (eC d) := pf_of h fun σ H Q ⟨δ, ads, M, d', M', hs, hz, hf, k⟩ => by
  obtain ⟨rfl, rfl⟩ := spr hf
  exact k v H ads (Fw.refl H ads) hz (hd H ads)
theorem pf_int {i j pos} : PF X (.Constant (.int i) j pos) (eC (.int i)) := pf_c pe_int fun _ _ => rfl
theorem pf_bl {b j pos} : PF X (.Constant (.bool b) j pos) (eC (.bl b)) := pf_c pe_bl fun _ _ => rfl
theorem pf_non {j pos} : PF X (.Constant .none j pos) (eC .non) := pf_c pe_non fun _ _ => rfl
theorem pf_str {x j pos} : PF X (.Constant (.str x) j pos) (eC (.str x)) := pf_c pe_str fun _ _ => rfl
theorem pf_globI {x : Str} {i : Int} {u : Value} {pos : Pos} (hg : Gl X x) (hm : X.mg x = some u) (r : RelV (.int i) u) (hd : (x == ("__debug__" : Str)) = false := by decide) : PF X (.Name x pos) (eC (.int i)) := pf_c (pe_glob hg hm r hd) fun _ _ => rfl
theorem pf_globS {x y : Str} {u : Value} {pos : Pos} (hg : Gl X x) (hm : X.mg x = some u) (r : RelV (.str y) u) (hd : (x == ("__debug__" : Str)) = false := by decide) : PF X (.Name x pos) (eC (.str y)) := pf_c (pe_glob hg hm r hd) fun _ _ => rfl

/-! ### two values -/
/-- what a rule on two values asks, by a function -/
def LOp (X : Cx) (r : R2) (g : D → D → List MO → Option D) : Prop := ∀ (H : Hp) (ads : List Addr) (M : List MO) (x y : V) (d e c : D) (Q : VK), Rz X.prog X.w X.K H ads M → Is X.K H ads d x → Is X.K H ads e y → g d e M = some c →
  (∀ v H', Fw H ads H' ads → Rz X.prog X.w X.K H' ads M → Is X.K H' ads c v → Q v H') → r x y H Q
def eOp (g : D → D → List MO → Option D) (fa fb : TF) : TF := fun δ M => (fa δ M).bind fun p => (fb δ p.2).bind fun q => (g p.1 q.1 q.2).map fun c => (c, q.2)
theorem op_lift {r : R2} {g : D → D → List MO → Option D} (hg : LOp X r g) : ∀ σ H Q, tOf X.prog X.w X.K (eOp g fa fb) σ H Q → tOp r (tOf X.prog X.w X.K fa) (tOf X.prog X.w X.K fb) σ H Q := fun σ H Q ⟨δ, ads, M, d, M', hs, hz, hf, k⟩ => by
  obtain ⟨⟨d1, M1⟩, e1, hf⟩ := bind_some hf
  obtain ⟨⟨d2, M2⟩, e2, hf⟩ := bind_some hf
  obtain ⟨c, e3, hf⟩ := map_some hf
  obtain ⟨rfl, rfl⟩ := pr hf
  refine ⟨δ, ads, M, d1, M1, hs, hz, e1, fun v1 H1 ads1 f1 z1 i1 => ?_⟩
  refine ⟨δ, ads1, M1, d2, M2, hs.fw f1, z1, e2, fun v2 H2 ads2 f2 z2 i2 => ?_⟩
  exact hg H2 ads2 M2 v1 v2 d1 d2 c Q z2 (Is.fw f2 _ _ i1) i2 e3 fun v H' f z i => k v H' ads2 ((f1.trans f2).trans f) z i
theorem pf_op {op : Operator} {r : R2} {g : D → D → List MO → Option D} (ho : OpR X (binaryOp op) r) (hg : LOp X r g) (ha : PF X a fa) (hb : PF X b fb) : PF X (.BinOp a op b pos) (eOp g fa fb) := pf_of (pe_op ho ha hb) (op_lift hg)
theorem pf_cmpR {op : CmpOp} {r : R2} {g : D → D → List MO → Option D} (ho : OpR X (compareOp op) r) (hg : LOp X r g) (ha : PF X a fa) (hb : PF X b fb) (hm : behindInMarks op b = false) : PF X (.Compare a [op] [b] pos) (eOp g fa fb) := pf_of (pe_cmpR ho ha hb hm) (op_lift hg)
/-- a value as a test -/
def eT (f : TF) : TFT := fun δ M => (f δ M).bind fun p => match p.1 with
  | .bl b => some (b, p.2)
  | _ => none
theorem t_lift : ∀ σ H Q, tOfT X.prog X.w X.K (eT f) σ H Q → tOf X.prog X.w X.K f σ H fun v H' => ∃ k, v = .bl k ∧ Q k H' := fun σ H Q ⟨δ, ads, M, b, M', hs, hz, hf, k⟩ => by
  obtain ⟨⟨d1, M1⟩, e1, hf⟩ := bind_some hf
  dsimp only at hf
  split at hf
  · rename_i c
    obtain ⟨rfl, rfl⟩ := spr hf
    exact ⟨δ, ads, M, _, M1, hs, hz, e1, fun v H' ads' f' z' i => ⟨_, i, k H' ads' f' z'⟩⟩
  · cases hf
theorem pft_val (h : PF X e f) (he : ∀ whole, isTrue e X.env whole = (do let v ← whole; standAt e.pos; holding [v] (truthy v)) := by intro _; rfl) : PFT X e (eT f) := pft_of (pt_val h he) t_lift
theorem pft_cmpR {op : CmpOp} {r : R2} {g : D → D → List MO → Option D} (ho : OpR X (compareOp op) r) (hg : LOp X r g) (ha : PF X a fa) (hb : PF X b fb) (hm : behindInMarks op b = false) : PFT X (.Compare a [op] [b] pos) (eT (eOp g fa fb)) :=
  pft_of (pt_cmpR ho ha hb hm) fun σ H Q h => op_lift hg σ H _ (t_lift σ H Q h)

/-! ### and, or, not, if -/
def eAnd (f g : TFT) : TFT := fun δ M => (f δ M).bind fun p => if p.1 = true then g δ p.2 else some (false, p.2)
def eOr (f g : TFT) : TFT := fun δ M => (f δ M).bind fun p => if p.1 = true then some (true, p.2) else g δ p.2
def eNot (f : TFT) : TFT := fun δ M => (f δ M).map fun p => (!p.1, p.2)
variable {tA tB : TFT} {rest : List Expr}
theorem PFW.pt (h : PFW X e tA) : PFT X e tA := PW.pt h
theorem pfw_and1 (ha : PFT X a tA) : PFW X (.BoolOp .And [a] pos) tA := pw_and1 ha
theorem pfw_or1 (ha : PFT X a tA) : PFW X (.BoolOp .Or [a] pos) tA := pw_or1 ha
theorem pfw_and (ha : PFT X a tA) (hb : PFW X (.BoolOp .And (b :: rest) pos) tB) : PFW X (.BoolOp .And (a :: b :: rest) pos) (eAnd tA tB) := pfw_of (pw_and ha hb) fun σ H Q ⟨δ, ads, M, c, M', hs, hz, hf, k⟩ => by
  obtain ⟨⟨c1, M1⟩, e1, hf⟩ := bind_some hf
  refine ⟨δ, ads, M, c1, M1, hs, hz, e1, fun H1 ads1 f1 z1 => ?_⟩
  dsimp only at hf
  by_cases hc : c1 = true
  · rw [if_pos hc] at hf ⊢
    exact ⟨δ, ads1, M1, c, M', hs.fw f1, z1, hf, fun H2 ads2 f2 z2 => k H2 ads2 (f1.trans f2) z2⟩
  · rw [if_neg hc] at hf ⊢
    obtain ⟨rfl, rfl⟩ := spr hf
    exact k H1 ads1 f1 z1
theorem pfw_or (ha : PFT X a tA) (hb : PFW X (.BoolOp .Or (b :: rest) pos) tB) : PFW X (.BoolOp .Or (a :: b :: rest) pos) (eOr tA tB) := pfw_of (pw_or ha hb) fun σ H Q ⟨δ, ads, M, c, M', hs, hz, hf, k⟩ => by
  obtain ⟨⟨c1, M1⟩, e1, hf⟩ := bind_some hf
  refine ⟨δ, ads, M, c1, M1, hs, hz, e1, fun H1 ads1 f1 z1 => ?_⟩
  dsimp only at hf
  by_cases hc : c1 = true
  · rw [if_pos hc] at hf ⊢
    obtain ⟨rfl, rfl⟩ := spr hf
    exact k H1 ads1 f1 z1
  · rw [if_neg hc] at hf ⊢
    exact ⟨δ, ads1, M1, c, M', hs.fw f1, z1, hf, fun H2 ads2 f2 z2 => k H2 ads2 (f1.trans f2) z2⟩
theorem pft_not (ha : PFT X a tA) : PFT X (.UnaryOp .Not a pos) (eNot tA) := pft_of (pt_not ha) fun σ H Q ⟨δ, ads, M, c, M', hs, hz, hf, k⟩ => by
  obtain ⟨⟨c1, M1⟩, e1, hf⟩ := map_some hf
  obtain ⟨rfl, rfl⟩ := pr hf
  exact ⟨δ, ads, M, c1, M1, hs, hz, e1, fun H1 ads1 f1 z1 => k H1 ads1 f1 z1⟩
/-- or of bools as a value -/
def eOrV (fa fb : TF) : TF := fun δ M => (fa δ M).bind fun p => match p.1 with
  | .bl true => some (.bl true, p.2)
  | .bl false => fb δ p.2
  | _ => none
theorem pf_one {op} (h : PF X a fa) : PF X (.BoolOp op [a] pos) fa := pe_one h
theorem pf_or (ha : PF X a fa) (hb : PF X (.BoolOp .Or (b :: rest) pos) fb) : PF X (.BoolOp .Or (a :: b :: rest) pos) (eOrV fa fb) := pf_of (pe_or ha hb) fun σ H Q ⟨δ, ads, M, d, M', hs, hz, hf, k⟩ => by
  obtain ⟨⟨d1, M1⟩, e1, hf⟩ := bind_some hf
  dsimp only at hf
  split at hf
  · cases hf
    exact ⟨δ, ads, M, _, _, hs, hz, e1, fun v H' ads' f' z' i => ⟨true, i, by rw [if_pos rfl]; exact k _ H' ads' f' z' rfl⟩⟩
  · exact ⟨δ, ads, M, _, M1, hs, hz, e1, fun v H1 ads1 f1 z1 i => ⟨false, i, by
      rw [if_neg Bool.false_ne_true]
      exact ⟨δ, ads1, M1, d, M', hs.fw f1, z1, hf, fun v2 H2 ads2 f2 z2 i2 => k v2 H2 ads2 (f1.trans f2) z2 i2⟩⟩⟩
  · cases hf
/-- a if t else b -/
def eIf (t : TFT) (fa fb : TF) : TF := fun δ M => (t δ M).bind fun p => if p.1 = true then fa δ p.2 else fb δ p.2
theorem pf_ifExp {c : Expr} (hc : PFT X c tA) (ha : PF X a fa) (hb : PF X b fb) : PF X (.IfExp c a b pos) (eIf tA fa fb) := pf_of (pe_ifExp hc ha hb) fun σ H Q ⟨δ, ads, M, d, M', hs, hz, hf, k⟩ => by
  obtain ⟨⟨c1, M1⟩, e1, hf⟩ := bind_some hf
  refine ⟨δ, ads, M, c1, M1, hs, hz, e1, fun H1 ads1 f1 z1 => ?_⟩
  dsimp only at hf
  by_cases hc : c1 = true
  · rw [if_pos hc] at hf ⊢
    exact ⟨δ, ads1, M1, d, M', hs.fw f1, z1, hf, fun v H2 ads2 f2 z2 => k v H2 ads2 (f1.trans f2) z2⟩
  · rw [if_neg hc] at hf ⊢
    exact ⟨δ, ads1, M1, d, M', hs.fw f1, z1, hf, fun v H2 ads2 f2 z2 => k v H2 ads2 (f1.trans f2) z2⟩

/-! ### one value -/
def LUn (X : Cx) (r : V → Hp → VK → Prop) (g : D → List MO → Option D) : Prop := ∀ (H : Hp) (ads : List Addr) (M : List MO) (x : V) (d c : D) (Q : VK), Rz X.prog X.w X.K H ads M → Is X.K H ads d x → g d M = some c →
  (∀ v H', Fw H ads H' ads → Rz X.prog X.w X.K H' ads M → Is X.K H' ads c v → Q v H') → r x H Q
def eUn (g : D → List MO → Option D) (fa : TF) : TF := fun δ M => (fa δ M).bind fun p => (g p.1 p.2).map fun c => (c, p.2)
theorem pf_un {op : UnaryOp} {r : V → Hp → VK → Prop} {g : D → List MO → Option D} (ho : UnR X (unaryOp op) r) (hg : LUn X r g) (ha : PF X a fa) : PF X (.UnaryOp op a pos) (eUn g fa) := pf_of (pe_un ho ha) fun σ H Q ⟨δ, ads, M, d, M', hs, hz, hf, k⟩ => by
  obtain ⟨⟨d1, M1⟩, e1, hf⟩ := bind_some hf
  obtain ⟨c, e3, hf⟩ := map_some hf
  obtain ⟨rfl, rfl⟩ := pr hf
  exact ⟨δ, ads, M, d1, M1, hs, hz, e1, fun v1 H1 ads1 f1 z1 i1 => hg H1 ads1 M1 v1 d1 c Q z1 i1 e3 fun v H' f z i => k v H' ads1 (f1.trans f) z i⟩

/-! ### argument lists, displays -/
def aNil : TFA := fun _ M => some ([], M)
def aCons (f : TF) (g : TFA) : TFA := fun δ M => (f δ M).bind fun p => (g δ p.2).map fun q => (p.1 :: q.1, q.2)
theorem pfa_nil : PFA X [] aNil := pfa_of pa_nil fun σ H Q ⟨δ, ads, M, d, M', hs, hz, hf, k⟩ => by
  obtain ⟨rfl, rfl⟩ := spr hf
  exact k [] H ads (Fw.refl H ads) hz rfl
theorem pfa_cons {fr : TFA} (ha : PF X e f) (hr : PFA X es fr) (hs : starEach (e :: es) X.env = (false, eval e X.env) :: starEach es X.env := by rfl) : PFA X (e :: es) (aCons f fr) := pfa_of (pa_cons ha hr hs) fun σ H Q ⟨δ, ads, M, d, M', hs, hz, hf, k⟩ => by
  obtain ⟨⟨d1, M1⟩, e1, hf⟩ := bind_some hf
  obtain ⟨⟨d2, M2⟩, e2, hf⟩ := map_some hf
  obtain ⟨rfl, rfl⟩ := pr hf
  refine ⟨δ, ads, M, d1, M1, hs, hz, e1, fun v1 H1 ads1 f1 z1 i1 => ?_⟩
  refine ⟨δ, ads1, M1, d2, M2, hs.fw f1, z1, e2, fun v2 H2 ads2 f2 z2 i2 => ?_⟩
  exact k _ H2 ads2 (f1.trans f2) z2 ⟨v1, v2, rfl, Is.fw f2 _ _ i1, i2⟩
def eTup (f : TFA) : TF := fun δ M => (f δ M).bind fun p => if p.1.length ≤ 1000 then some (.tup p.1, p.2) else none
def eLst (f : TFA) : TF := fun δ M => (f δ M).bind fun p => if p.1.length ≤ 1000 then some (.lst p.1, p.2) else none
/-- a list that will be written to -/
def eLstM (f : TFA) : TF := fun δ M => (f δ M).bind fun p => if p.1.length ≤ 1000 then some (.obj p.2.length, p.2 ++ [.lst p.1]) else none
theorem le_line {n : Nat} (h : n ≤ 1000) : n ≤ sizeLine := Nat.le_of_lt (small1000 h)
theorem not_ads {P : Program} {w : World} {K : PySem.W.Frag} {H : Hp} {ads : List Addr} {M : List MO} {p : Addr} (z : Rz P w K H ads M) (hp : H p = none) : p ∉ ads := fun h => by
  obtain ⟨v, e⟩ := z.has h
  rw [hp] at e; cases e
/-- a new tuple, a new list, as data -/
theorem is_tup {P : Program} {w : World} {K : PySem.W.Frag} {H : Hp} {ads : List Addr} {M : List MO} {p : Addr} {ds : List D} {vs : List V} (z : Rz P w K H ads M) (hp : H p = none) (i : Iss K H ads ds vs) : Is K (upd H p (.tup vs)) ads (.tup ds) (.ref p) :=
  ⟨p, vs, rfl, .inl ⟨not_ads z hp, .inl upd_same⟩, Iss.fw (Fw.laid hp) _ _ i⟩
theorem is_lst {P : Program} {w : World} {K : PySem.W.Frag} {H : Hp} {ads : List Addr} {M : List MO} {p : Addr} {ds : List D} {vs : List V} (z : Rz P w K H ads M) (hp : H p = none) (i : Iss K H ads ds vs) : Is K (upd H p (.lst vs)) ads (.lst ds) (.ref p) :=
  ⟨p, vs, rfl, ⟨not_ads z hp, upd_same⟩, Iss.fw (Fw.laid hp) _ _ i⟩
theorem pf_tup {x1} {fr : TFA} (h : PFA X es fr) : PF X (.Tuple es x1 pos) (eTup fr) := pf_of (pe_tup h) fun σ H Q ⟨δ, ads, M, d, M', hs, hz, hf, k⟩ => by
  obtain ⟨⟨d1, M1⟩, e1, hf⟩ := bind_some hf
  dsimp only at hf
  split at hf
  · rename_i hl
    obtain ⟨rfl, rfl⟩ := spr hf
    refine ⟨δ, ads, M, d1, M1, hs, hz, e1, fun vs H1 ads1 f1 z1 i1 => ⟨by rw [i1.length]; exact le_line hl, fun p hp => ?_⟩⟩
    exact k _ _ ads1 (f1.trans (Fw.laid hp)) (z1.laid hp) (is_tup z1 hp i1)
  · cases hf
theorem pf_lst {fr : TFA} (h : PFA X es fr) : PF X (.List es pos) (eLst fr) := pf_of (pe_lst h) fun σ H Q ⟨δ, ads, M, d, M', hs, hz, hf, k⟩ => by
  obtain ⟨⟨d1, M1⟩, e1, hf⟩ := bind_some hf
  dsimp only at hf
  split at hf
  · rename_i hl
    obtain ⟨rfl, rfl⟩ := spr hf
    refine ⟨δ, ads, M, d1, M1, hs, hz, e1, fun vs H1 ads1 f1 z1 i1 => ⟨by rw [i1.length]; exact le_line hl, fun p hp => ?_⟩⟩
    exact k _ _ ads1 (f1.trans (Fw.laid hp)) (z1.laid hp) (is_lst z1 hp i1)
  · cases hf
theorem pf_lstM {fr : TFA} (h : PFA X es fr) : PF X (.List es pos) (eLstM fr) := pf_of (pe_lst h) fun σ H Q ⟨δ, ads, M, d, M', hs, hz, hf, k⟩ => by
  obtain ⟨⟨d1, M1⟩, e1, hf⟩ := bind_some hf
  dsimp only at hf
  split at hf
  · rename_i hl
    obtain ⟨rfl, rfl⟩ := spr hf
    refine ⟨δ, ads, M, d1, M1, hs, hz, e1, fun vs H1 ads1 f1 z1 i1 => ⟨by rw [i1.length]; exact le_line hl, fun p hp => ?_⟩⟩
    refine k _ _ (ads1 ++ [p]) (f1.trans (Fw.push hp)) (z1.push hp ⟨vs, upd_same, Iss.fw (Fw.push hp) _ _ i1⟩) ⟨p, rfl, ?_⟩
    rw [← z1.len, List.getElem?_append_right (Nat.le_refl _), Nat.sub_self]
    rfl
  · cases hf
end
end DL
namespace DL
open PySem PySem.Spec PyProof.Rows L2

/-! ### sequences read -/
def lstOf : D → List MO → Option (List D)
  | .lst ds, _ => some ds
  | .frl ds, _ => some ds
  | .obj i, M => match M[i]? with
    | some (.lst ds) => some ds
    | _ => none
  | _, _ => none
section
variable {P : Program} {w : World} {K : PySem.W.Frag} {H : Hp} {ads : List Addr} {M : List MO} {d : D} {v : V} {ds : List D}
theorem lst_of (z : Rz P w K H ads M) (i : Is K H ads d v) (h : lstOf d M = some ds) : ∃ a vs, v = .ref a ∧ SqL K H a vs ∧ Iss K H ads ds vs := by
  unfold lstOf at h
  split at h
  · cases h
    obtain ⟨a, xs, e, t, q⟩ := i
    exact ⟨a, xs, e, t.sq, q⟩
  · cases h
    obtain ⟨a, xs, e, t, q⟩ := i
    exact ⟨a, xs, e, t.sq, q⟩
  · rename_i j
    split at h
    · rename_i es e
      cases h
      obtain ⟨a, rfl, q⟩ := i
      obtain ⟨vs, h1, h2⟩ := z.ok j a _ q e
      exact ⟨a, vs, rfl, SqL.of h1, h2⟩
    · cases h
  · cases h
theorem obj_lst (z : Rz P w K H ads M) {i : Nat} (q : Is K H ads (.obj i) v) (h : M[i]? = some (.lst ds)) : ∃ a vs, v = .ref a ∧ ads[i]? = some a ∧ H a = some (.lst vs) ∧ Iss K H ads ds vs := by
  obtain ⟨a, rfl, q⟩ := q
  obtain ⟨vs, h1, h2⟩ := z.ok i a _ q h
  exact ⟨a, vs, rfl, q, h1, h2⟩
end
theorem iss_nil {K : PySem.W.Frag} {H : Hp} {ads : List Addr} {ds : List D} {vs : List V} (i : Iss K H ads ds vs) (h : vs = []) : ds = [] := by
  have := i.length
  rw [h] at this
  exact List.eq_nil_of_length_eq_zero this.symm
theorem iss_nil' {K : PySem.W.Frag} {H : Hp} {ads : List Addr} {ds : List D} {vs : List V} (i : Iss K H ads ds vs) (h : ds = []) : vs = [] := by
  subst h; exact i

theorem iss_empty {K : PySem.W.Frag} {H : Hp} {ads : List Addr} : ∀ {ds : List D} {vs : List V}, Iss K H ads ds vs → vs.isEmpty = ds.isEmpty
  | [], _, h => by cases h; rfl
  | _ :: _, _, ⟨_, _, e, _⟩ => by subst e; rfl

/-! ### + - * // % -/
def gAdd : D → D → List MO → Option D
  | .int i, .int j, _ => some (.int (i + j))
  | .str x, .str y, _ => if x.length + y.length ≤ 1000 then some (.str (x ++ y)) else none
  | .tup xs, .tup ys, _ => if xs.length + ys.length ≤ 1000 then some (.tup (xs ++ ys)) else none
  | .lst xs, .lst ys, _ => if xs.length + ys.length ≤ 100000 then some (.lst (xs ++ ys)) else none
  | .obj i, .obj j, M => match M[i]?, M[j]? with
    | some (.lst xs), some (.lst ys) => if xs.length + ys.length ≤ 100000 then some (.lst (xs ++ ys)) else none
    | _, _ => none
  | _, _, _ => none
def rAddA (K : PySem.W.Frag) : R2 := fun x y H Q => rI0 (fun i j => .int (i + j)) x y H Q ∨ ((fun x y H Q => ∃ i j, x = .str i ∧ y = .str j ∧ i.length + j.length ≤ sizeLine ∧ Q (.str (i ++ j)) H) x y H Q ∨ (rCatA K x y H Q ∨ rCat x y H Q))
section
variable {X : Cx}
theorem op_addA : OpR X (binaryOp .Add) (rAddA X.K) := op_add.or (op_add_str.or (op_catA.or op_cat))
theorem big_line {n : Nat} (h : n ≤ 100000) : n ≤ sizeLine := Nat.le_trans h (by decide)
theorem l_add : LOp X (rAddA X.K) gAdd := fun H ads M x y d e c Q z hx hy hg k => by
  unfold gAdd at hg
  split at hg
  · cases hg
    cases (show x = V.int _ from hx)
    cases (show y = V.int _ from hy)
    exact .inl ⟨_, _, rfl, rfl, k _ H (Fw.refl H ads) z rfl⟩
  · split at hg
    · rename_i hl
      cases hg
      cases (show x = V.str _ from hx)
      cases (show y = V.str _ from hy)
      exact .inr (.inl ⟨_, _, rfl, rfl, le_line hl, k _ H (Fw.refl H ads) z rfl⟩)
    · cases hg
  · split at hg
    · rename_i xs ys hl
      cases hg
      obtain ⟨a, vs, rfl, t, q⟩ := hx
      obtain ⟨b, us, rfl, t', q'⟩ := hy
      refine .inr (.inr (.inl ⟨a, b, vs, us, rfl, rfl, t.sq, t'.sq, by rw [q.length, q'.length]; exact le_line hl, fun e => ?_, fun _ e => ?_, fun _ _ p hp => ?_⟩))
      · have := iss_nil q e
        subst this
        exact k _ H (Fw.refl H ads) z ⟨b, us, rfl, t', q'⟩
      · have := iss_nil q' e
        subst this
        rw [List.append_nil] at k
        exact k _ H (Fw.refl H ads) z ⟨a, vs, rfl, t, q⟩
      · exact k _ _ (Fw.laid hp) (z.laid hp) (is_tup z hp (q.append q'))
    · cases hg
  · split at hg
    · rename_i xs ys hl
      cases hg
      obtain ⟨a, vs, rfl, t, q⟩ := hx
      obtain ⟨b, us, rfl, t', q'⟩ := hy
      exact .inr (.inr (.inr ⟨a, b, vs, us, rfl, rfl, t.2, t'.2, by rw [q.length, q'.length]; exact big_line hl, fun p hp => k _ _ (Fw.laid hp) (z.laid hp) (is_lst z hp (q.append q'))⟩))
    · cases hg
  · split at hg
    · rename_i xs ys e1 e2
      split at hg
      · rename_i hl
        cases hg
        obtain ⟨a, vs, rfl, _, t, q⟩ := obj_lst z hx e1
        obtain ⟨b, us, rfl, _, t', q'⟩ := obj_lst z hy e2
        exact .inr (.inr (.inr ⟨a, b, vs, us, rfl, rfl, t, t', by rw [q.length, q'.length]; exact big_line hl, fun p hp => k _ _ (Fw.laid hp) (z.laid hp) (is_lst z hp (q.append q'))⟩))
      · cases hg
    · cases hg
  · cases hg
/-- two ints -/
def g2 (c : Int → Int → Bool) (f : Int → Int → D) : D → D → List MO → Option D
  | .int i, .int j, _ => if c i j = true then some (f i j) else none
  | _, _, _ => none
theorem l_I {C : Int → Int → Prop} {g : Int → Int → V} {c : Int → Int → Bool} {f : Int → Int → D} (hc : ∀ i j, c i j = true → C i j) (hf : ∀ H ads i j, Is X.K H ads (f i j) (g i j)) : LOp X (rI C g) (g2 c f) := fun H ads M x y d e q Q z hx hy hg k => by
  unfold g2 at hg
  split at hg
  · split at hg
    · rename_i h
      cases hg
      cases (show x = V.int _ from hx)
      cases (show y = V.int _ from hy)
      exact ⟨_, _, rfl, rfl, hc _ _ h, k _ H (Fw.refl H ads) z (hf _ _ _ _)⟩
    · cases hg
  · cases hg
theorem l_I0 {g : Int → Int → V} {f : Int → Int → D} (hf : ∀ H ads i j, Is X.K H ads (f i j) (g i j)) : LOp X (rI0 g) (g2 (fun _ _ => true) f) := fun H ads M x y d e q Q z hx hy hg k => by
  obtain ⟨i, j, a, b, _, r⟩ := l_I (X := X) (C := fun _ _ => True) (g := g) (fun _ _ _ => True.intro) hf H ads M x y d e q Q z hx hy hg k
  exact ⟨i, j, a, b, r⟩
abbrev gSub := g2 (fun _ _ => true) fun i j => .int (i - j)
abbrev gMul := g2 (fun i j => decide (i.natAbs < 2 ^ 40) || decide (j.natAbs < 2 ^ 40)) fun i j => .int (i * j)
abbrev gDiv := g2 (fun _ j => decide (j ≠ 0) && decide (j.natAbs < 1073741824)) fun i j => .int (i.fdiv j)
abbrev gMod := g2 (fun _ j => decide (j ≠ 0)) fun i j => .int (i.fmod j)
theorem l_sub : LOp X (rI0 fun i j => .int (i - j)) gSub := l_I0 fun _ _ _ _ => rfl
theorem l_mul : LOp X (rI CMul fun i j => .int (i * j)) gMul := l_I (fun i j h => by
  rw [Bool.or_eq_true] at h
  have e : (2 : Nat) ^ 40 = 1099511627776 := by decide
  have e2 : (2 : Int) ^ 64 = 18446744073709551616 := by decide
  rcases h with h | h
  · have := of_decide_eq_true h
    exact .inl (by rw [e2]; omega)
  · have := of_decide_eq_true h
    exact .inr (by rw [e2]; omega)) fun _ _ _ _ => rfl
theorem l_div : LOp X (rI CDivN fun i j => .int (i.fdiv j)) gDiv := l_I (fun i j h => by
  rw [Bool.and_eq_true] at h
  exact ⟨of_decide_eq_true h.1, of_decide_eq_true h.2⟩) fun _ _ _ _ => rfl
theorem l_mod : LOp X (rI (fun _ j => j ≠ 0) fun i j => .int (i.fmod j)) gMod := l_I (fun i j h => of_decide_eq_true h) fun _ _ _ _ => rfl

/-! ### comparisons -/
abbrev gLt := g2 (fun _ _ => true) fun i j => .bl (decide (i < j))
abbrev gLe := g2 (fun _ _ => true) fun i j => .bl (decide (i ≤ j))
abbrev gGt := g2 (fun _ _ => true) fun i j => .bl (decide (j < i))
abbrev gGe := g2 (fun _ _ => true) fun i j => .bl (decide (j ≤ i))
theorem l_lt : LOp X (rI0 fun i j => .bl (decide (i < j))) gLt := l_I0 fun _ _ _ _ => rfl
theorem l_le : LOp X (rI0 fun i j => .bl (decide (i ≤ j))) gLe := l_I0 fun _ _ _ _ => rfl
theorem l_gt : LOp X (rI0 fun i j => .bl (decide (j < i))) gGt := l_I0 fun _ _ _ _ => rfl
theorem l_ge : LOp X (rI0 fun i j => .bl (decide (j ≤ i))) gGe := l_I0 fun _ _ _ _ => rfl
def rTupNil (K : PySem.W.Frag) : R2 := fun x y H Q => ∃ a b xs, x = .ref a ∧ y = .ref b ∧ SqT K H a xs ∧ SqT K H b [] ∧ Q (.bl xs.isEmpty) H
theorem op_tupNil (hu : X.A.units < cLine) : OpR X (compareOp .Eq) (rTupNil X.K) := by
  intro pins s σ H x y v u Q I rx ry h
  obtain ⟨a, b, xs, rfl, rfl, ha, hb, q⟩ := h
  cases rx
  cases ry
  obtain ⟨its, r1, p1, _⟩ := I.tuple ha
  obtain ⟨its2, r2, p2, _⟩ := I.tuple hb
  cases r2
  have hl : s.heap.IsTuple a its.toArray := p1
  have hl' : s.heap.IsTuple b ([] : List Value).toArray := p2
  refine SeqAt.RcAt.tuples (e := fun _ => true) hl hl' hu (fun j h1 h2 => absurd h2 (by simp)) X.prog X.w X.xe _ ?_
  refine fin_bl I q ?_
  cases r1 with
  | nil => rfl
  | cons _ _ => rfl
def gEq : D → D → List MO → Option D
  | .int i, .int j, _ => some (.bl (i == j))
  | .str x, .str y, _ => some (.bl (x == y))
  | .bl x, .bl y, _ => some (.bl (x == y))
  | .non, .int _, _ => some (.bl false)
  | .int _, .non, _ => some (.bl false)
  | .int _, .str _, _ => some (.bl false)
  | .tup ds, .tup [], _ => some (.bl ds.isEmpty)
  | _, _, _ => none
def rEqA (K : PySem.W.Frag) : R2 := fun x y H Q => rEq x y H Q ∨ rTupNil K x y H Q
theorem op_eqA (hu : X.A.units < cLine) : OpR X (compareOp .Eq) (rEqA X.K) := op_eq.or (op_tupNil hu)
theorem l_eq : LOp X (rEqA X.K) gEq := fun H ads M x y d e c Q z hx hy hg k => by
  unfold gEq at hg
  split at hg
  · cases hg
    cases (show x = V.int _ from hx)
    cases (show y = V.int _ from hy)
    exact .inl ⟨rfl, k _ H (Fw.refl H ads) z (by rw [dec_int]; rfl)⟩
  · cases hg
    cases (show x = V.str _ from hx)
    cases (show y = V.str _ from hy)
    exact .inl ⟨rfl, k _ H (Fw.refl H ads) z (by rw [dec_str]; rfl)⟩
  · cases hg
    cases (show x = V.bl _ from hx)
    cases (show y = V.bl _ from hy)
    exact .inl ⟨rfl, k _ H (Fw.refl H ads) z (by rw [dec_bl]; rfl)⟩
  · cases hg
    cases (show x = V.non from hx)
    cases (show y = V.int _ from hy)
    exact .inl ⟨rfl, k _ H (Fw.refl H ads) z (by rw [decide_eq_false (fun q => nomatch q)]; rfl)⟩
  · cases hg
    cases (show x = V.int _ from hx)
    cases (show y = V.non from hy)
    exact .inl ⟨rfl, k _ H (Fw.refl H ads) z (by rw [decide_eq_false (fun q => nomatch q)]; rfl)⟩
  · cases hg
    cases (show x = V.int _ from hx)
    cases (show y = V.str _ from hy)
    exact .inl ⟨rfl, k _ H (Fw.refl H ads) z (by rw [decide_eq_false (fun q => nomatch q)]; rfl)⟩
  · cases hg
    obtain ⟨a, vs, rfl, t, q⟩ := hx
    obtain ⟨b, us, rfl, t', q'⟩ := hy
    cases (show us = [] from q')
    refine .inr ⟨a, b, vs, rfl, rfl, t.sq, t'.sq, k _ H (Fw.refl H ads) z ?_⟩
    show V.bl _ = V.bl _
    rw [iss_empty q]
  · cases hg
def gNe : D → D → List MO → Option D
  | .int i, .int j, _ => some (.bl (!(i == j)))
  | .str i, .str j, _ => some (.bl (!(i == j)))
  | _, _, _ => none
theorem l_ne : LOp X rNe gNe := fun H ads M x y d e c Q z hx hy hg k => by
  unfold gNe at hg
  split at hg
  · cases hg
    cases (show x = V.int _ from hx)
    cases (show y = V.int _ from hy)
    exact ⟨rfl, k _ H (Fw.refl H ads) z (by rw [dec_int]; rfl)⟩
  · cases hg
    cases (show x = V.str _ from hx)
    cases (show y = V.str _ from hy)
    exact ⟨rfl, k _ H (Fw.refl H ads) z (by rw [dec_str]; rfl)⟩
  · cases hg
/-- is None, is True, and their contraries -/
def gIs (neg : Bool) : D → D → List MO → Option D
  | .non, .non, _ => some (.bl (!neg))
  | .int _, .non, _ => some (.bl neg)
  | .tup _, .non, _ => some (.bl neg)
  | .bl a, .bl b, _ => some (.bl (if neg then !decide (a = b) else decide (a = b)))
  | _, _, _ => none
def rIsA : R2 := fun x y H Q => (fun x y H Q => y = .non ∧ Q (.bl (decide (x = .non))) H) x y H Q ∨ rIsB x y H Q
def rNotA : R2 := fun x y H Q => (fun x y H Q => y = .non ∧ Q (.bl (!decide (x = .non))) H) x y H Q ∨ rNotB x y H Q
theorem op_isA : OpR X (compareOp .Is) rIsA := op_isN.or op_isBl
theorem op_notA : OpR X (compareOp .IsNot) rNotA := op_notN.or op_notBl
theorem l_is : LOp X rIsA (gIs false) := fun H ads M x y d e c Q z hx hy hg k => by
  unfold gIs at hg
  split at hg
  · cases hg
    cases (show x = V.non from hx)
    cases (show y = V.non from hy)
    exact .inl ⟨rfl, k _ H (Fw.refl H ads) z (by rw [decide_eq_true rfl]; rfl)⟩
  · cases hg
    cases (show x = V.int _ from hx)
    cases (show y = V.non from hy)
    exact .inl ⟨rfl, k _ H (Fw.refl H ads) z (by rw [decide_eq_false (fun q => nomatch q)]; rfl)⟩
  · cases hg
    obtain ⟨a, vs, rfl, t, q⟩ := hx
    cases (show y = V.non from hy)
    exact .inl ⟨rfl, k _ H (Fw.refl H ads) z (by rw [decide_eq_false (fun q => nomatch q)]; rfl)⟩
  · cases hg
    cases (show x = V.bl _ from hx)
    cases (show y = V.bl _ from hy)
    exact .inr ⟨_, _, rfl, rfl, k _ H (Fw.refl H ads) z rfl⟩
  · cases hg
theorem l_not : LOp X rNotA (gIs true) := fun H ads M x y d e c Q z hx hy hg k => by
  unfold gIs at hg
  split at hg
  · cases hg
    cases (show x = V.non from hx)
    cases (show y = V.non from hy)
    exact .inl ⟨rfl, k _ H (Fw.refl H ads) z (by rw [decide_eq_true rfl]; rfl)⟩
  · cases hg
    cases (show x = V.int _ from hx)
    cases (show y = V.non from hy)
    exact .inl ⟨rfl, k _ H (Fw.refl H ads) z (by rw [decide_eq_false (fun q => nomatch q)]; rfl)⟩
  · cases hg
    obtain ⟨a, vs, rfl, t, q⟩ := hx
    cases (show y = V.non from hy)
    exact .inl ⟨rfl, k _ H (Fw.refl H ads) z (by rw [decide_eq_false (fun q => nomatch q)]; rfl)⟩
  · cases hg
    cases (show x = V.bl _ from hx)
    cases (show y = V.bl _ from hy)
    exact .inr ⟨_, _, rfl, rfl, k _ H (Fw.refl H ads) z rfl⟩
  · cases hg
/-- flat values -/
def D.fv : D → Option V
  | .non => some .non
  | .bl b => some (.bl b)
  | .int i => some (.int i)
  | .str x => some (.str x)
  | _ => none
def fvs : List D → Option (List V)
  | [] => some []
  | d :: ds => (D.fv d).bind fun v => (fvs ds).map fun vs => v :: vs
theorem fv_is {K : PySem.W.Frag} {H : Hp} {ads : List Addr} {d : D} {u v : V} (h : D.fv d = some v) (i : Is K H ads d u) : u = v ∧ flatV v = true := by
  unfold D.fv at h
  split at h <;> first | (cases h; exact ⟨i, rfl⟩) | cases h
theorem fvs_is {K : PySem.W.Frag} {H : Hp} {ads : List Addr} : ∀ {ds : List D} {us vs : List V}, fvs ds = some vs → Iss K H ads ds us → us = vs ∧ vs.all flatV = true
  | [], us, vs, h, i => by
    cases h
    exact ⟨i, rfl⟩
  | d :: ds, us, vs, h, i => by
    obtain ⟨v, e1, h⟩ := bind_some h
    obtain ⟨r, e2, rfl⟩ := map_some h
    obtain ⟨u, l, rfl, i1, i2⟩ := i
    obtain ⟨rfl, f1⟩ := fv_is e1 i1
    obtain ⟨rfl, f2⟩ := fvs_is e2 i2
    exact ⟨rfl, by rw [List.all_cons, f1, f2]; rfl⟩
def gIn (neg : Bool) : D → D → List MO → Option D
  | x, .tup ds, _ => (D.fv x).bind fun v => (fvs ds).map fun vs => .bl (if neg then !inV v vs else inV v vs)
  | .str x, .str y, _ => some (.bl (if neg then !(!(Builtin.Str.occurrences y x 0 y.length 1).isEmpty) else !(Builtin.Str.occurrences y x 0 y.length 1).isEmpty))
  | x, y, M => (lstOf y M).bind fun ds => (D.fv x).bind fun v => (fvs ds).map fun vs => .bl (if neg then !inV v vs else inV v vs)
def rInA (K : PySem.W.Frag) : R2 := fun x y H Q => rIn K false x y H Q ∨ (fun x y H Q => ∃ i j, x = .str i ∧ y = .str j ∧ Q (.bl (!(Builtin.Str.occurrences j i 0 j.length 1).isEmpty)) H) x y H Q
def rNotInA (K : PySem.W.Frag) : R2 := fun x y H Q => rIn K true x y H Q ∨ (fun x y H Q => ∃ i j, x = .str i ∧ y = .str j ∧ Q (.bl (!(!(Builtin.Str.occurrences j i 0 j.length 1).isEmpty))) H) x y H Q
theorem op_inA : OpR X (compareOp .In) (rInA X.K) := op_in_seq.or op_in_str
theorem op_notInA : OpR X (compareOp .NotIn) (rNotInA X.K) := op_notIn_seq.or op_notin_str
theorem l_in0 {neg : Bool} {R : R2} (h1 : ∀ x y H Q, rIn X.K neg x y H Q → R x y H Q)
    (h2 : ∀ (i j : Str) H Q, Q (.bl (if neg then !(!(Builtin.Str.occurrences j i 0 j.length 1).isEmpty) else !(Builtin.Str.occurrences j i 0 j.length 1).isEmpty)) H → R (.str i) (.str j) H Q) : LOp X R (gIn neg) := fun H ads M x y d e c Q z hx hy hg k => by
  unfold gIn at hg
  split at hg
  · obtain ⟨v, e1, hg⟩ := bind_some hg
    obtain ⟨vs, e2, rfl⟩ := map_some hg
    obtain ⟨rfl, f1⟩ := fv_is e1 hx
    obtain ⟨a, us, rfl, t, q⟩ := hy
    obtain ⟨rfl, f2⟩ := fvs_is e2 q
    exact h1 _ _ _ _ ⟨a, us, rfl, .inr t.sq, f1, f2, k _ H (Fw.refl H ads) z rfl⟩
  · cases hg
    cases (show x = V.str _ from hx)
    cases (show y = V.str _ from hy)
    exact h2 _ _ _ _ (k _ H (Fw.refl H ads) z rfl)
  · obtain ⟨ds, e0, hg⟩ := bind_some hg
    obtain ⟨v, e1, hg⟩ := bind_some hg
    obtain ⟨vs, e2, rfl⟩ := map_some hg
    obtain ⟨rfl, f1⟩ := fv_is e1 hx
    obtain ⟨a, us, rfl, t, q⟩ := lst_of z hy e0
    obtain ⟨rfl, f2⟩ := fvs_is e2 q
    exact h1 _ _ _ _ ⟨a, us, rfl, .inl t, f1, f2, k _ H (Fw.refl H ads) z rfl⟩
theorem l_in : LOp X (rInA X.K) (gIn false) := l_in0 (fun _ _ _ _ h => .inl h) fun i j _ _ h => .inr ⟨i, j, rfl, rfl, h⟩
theorem l_notIn : LOp X (rNotInA X.K) (gIn true) := l_in0 (fun _ _ _ _ h => .inl h) fun i j _ _ h => .inr ⟨i, j, rfl, rfl, h⟩
/-- a op b op' c, the second only where the first is so -/
def eChain (g g' : D → D → List MO → Option D) (fa fb fc : TF) : TF := fun δ M => (fa δ M).bind fun p => (fb δ p.2).bind fun q => (g p.1 q.1 q.2).bind fun r => match r with
  | .bl true => (fc δ q.2).bind fun t => (g' q.1 t.1 t.2).map fun c => (c, t.2)
  | .bl false => some (.bl false, q.2)
  | _ => none
theorem chain_lift {r r' : R2} {g g' : D → D → List MO → Option D} {fa fb fc : TF} (hg : LOp X r g) (hg' : LOp X r' g') : ∀ σ H Q, tOf X.prog X.w X.K (eChain g g' fa fb fc) σ H Q → tChain r r' (tOf X.prog X.w X.K fa) (tOf X.prog X.w X.K fb) (tOf X.prog X.w X.K fc) σ H Q := fun σ H Q ⟨δ, ads, M, d, M', hs, hz, hf, k⟩ => by
  obtain ⟨⟨d1, M1⟩, e1, hf⟩ := bind_some hf
  obtain ⟨⟨d2, M2⟩, e2, hf⟩ := bind_some hf
  obtain ⟨b, e3, hf⟩ := bind_some hf
  refine ⟨δ, ads, M, d1, M1, hs, hz, e1, fun v1 H1 ads1 f1 z1 i1 => ?_⟩
  refine ⟨δ, ads1, M1, d2, M2, hs.fw f1, z1, e2, fun v2 H2 ads2 f2 z2 i2 => ?_⟩
  refine hg H2 ads2 M2 v1 v2 d1 d2 b _ z2 (Is.fw f2 _ _ i1) i2 e3 fun v H3 f3 z3 i3 => ?_
  dsimp only at hf
  split at hf
  · obtain ⟨⟨d3, M3⟩, e4, hf⟩ := bind_some hf
    obtain ⟨c, e5, hf⟩ := map_some hf
    obtain ⟨rfl, rfl⟩ := pr hf
    refine ⟨true, i3, ?_⟩
    rw [if_pos rfl]
    refine ⟨δ, ads2, M2, d3, M3, ((hs.fw f1).fw f2).fw f3, z3, e4, fun v4 H4 ads4 f4 z4 i4 => ?_⟩
    exact hg' H4 ads4 M3 v2 v4 d2 d3 _ Q z4 (Is.fw (f3.trans f4) _ _ i2) i4 e5 fun v5 H5 f5 z5 i5 => k v5 H5 ads4 ((((f1.trans f2).trans f3).trans f4).trans f5) z5 i5
  · obtain ⟨rfl, rfl⟩ := spr hf
    refine ⟨false, i3, ?_⟩
    rw [if_neg Bool.false_ne_true]
    exact k _ H3 ads2 ((f1.trans f2).trans f3) z3 rfl
  · cases hf
variable {a b c : Expr} {pos : Pos} {fa fb fc : TF}
theorem pf_chain {op op' : CmpOp} {r r' : R2} {g g' : D → D → List MO → Option D} (ho : OpR X (compareOp op) r) (hg : LOp X r g) (ho' : OpR X (compareOp op') r') (hg' : LOp X r' g') (ha : PF X a fa) (hb : PF X b fb) (hc : PF X c fc)
    (hm : lastMarks [op, op'] [b, c] = false := by with_unfolding_all rfl) : PF X (.Compare a [op, op'] [b, c] pos) (eChain g g' fa fb fc) := pf_of (pe_chain ho ho' ha hb hc hm) (chain_lift hg hg')
theorem pft_chain {op op' : CmpOp} {r r' : R2} {g g' : D → D → List MO → Option D} (ho : OpR X (compareOp op) r) (hg : LOp X r g) (ho' : OpR X (compareOp op') r') (hg' : LOp X r' g') (ha : PF X a fa) (hb : PF X b fb) (hc : PF X c fc)
    (hm : lastMarks [op, op'] [b, c] = false := by with_unfolding_all rfl) : PFT X (.Compare a [op, op'] [b, c] pos) (eT (eChain g g' fa fb fc)) :=
  pft_of (pt_chain ho ho' ha hb hc hm) fun σ H Q h => chain_lift hg hg' σ H _ (t_lift σ H Q h)

/-! ### a[i], a[i:j] -/
theorem iss_at {K : PySem.W.Frag} {H : Hp} {ads : List Addr} {ds : List D} {vs : List V} {i : Int} {d : D} (q : Iss K H ads ds vs) (h : atI ds i = some d) : ∃ v, atI vs i = some v ∧ Is K H ads d v := by
  unfold atI at h ⊢
  rw [← q.length] at h
  obtain ⟨j, e1, e2⟩ := bind_some h
  obtain ⟨v, e3, i3⟩ := q.get e2
  exact ⟨v, by rw [e1]; exact e3, i3⟩
def gIx : D → D → List MO → Option D
  | .tup ds, .int i, _ => atI ds i
  | .str x, .int i, _ => if x.length ≤ 1000 then (atI x.cps.toList i).map fun c => .str ⟨#[c]⟩ else none
  | d, .int i, M => (lstOf d M).bind fun ds => atI ds i
  | _, _, _ => none
theorem l_ix : LOp X (rIx X.K) gIx := fun H ads M x y d e c Q z hx hy hg k => by
  unfold gIx at hg
  split at hg
  · cases (show y = V.int _ from hy)
    obtain ⟨a, vs, rfl, t, q⟩ := hx
    obtain ⟨v, e1, i1⟩ := iss_at q hg
    exact .inr (.inl ⟨a, vs, _, v, rfl, rfl, t.sq, e1, k _ H (Fw.refl H ads) z i1⟩)
  · split at hg
    · rename_i hl
      obtain ⟨cc, e1, rfl⟩ := map_some hg
      cases (show x = V.str _ from hx)
      cases (show y = V.int _ from hy)
      exact .inr (.inr ⟨_, _, cc, rfl, rfl, le_line hl, e1, k _ H (Fw.refl H ads) z rfl⟩)
    · cases hg
  · obtain ⟨ds, e0, hg⟩ := bind_some hg
    cases (show y = V.int _ from hy)
    obtain ⟨a, vs, rfl, t, q⟩ := lst_of z hx e0
    obtain ⟨v, e1, i1⟩ := iss_at q hg
    exact .inl ⟨a, vs, _, v, rfl, rfl, t, e1, k _ H (Fw.refl H ads) z i1⟩
  · cases hg
theorem pf_ix (ha : PF X a fa) (hb : PF X b fb) (hs : PlainIx b := by intro _ _; rfl) : PF X (.Subscript a b pos) (eOp gIx fa fb) := pf_of (pe_ix ix_seq ha hb hs) (op_lift l_ix)
/-- the parts of a slice -/
abbrev TFO := List (Option D) → List MO → Option (Option Int × List MO)
def tOfO (P : Program) (w : World) (K : PySem.W.Frag) (f : TFO) : TO := fun σ H Q => ∃ δ ads M b M', Sl K H ads σ δ ∧ Rz P w K H ads M ∧ f δ M = some (b, M') ∧
  ∀ H' ads', Fw H ads H' ads' → Rz P w K H' ads' M' → Q b H'
def PFO (X : Cx) (e : Option Expr) (f : TFO) : Prop := PO X e (tOfO X.prog X.w X.K f)
def oNone : TFO := fun _ M => some (none, M)
def oSome (f : TF) : TFO := fun δ M => (f δ M).bind fun p => match p.1 with
  | .int i => some (some i, p.2)
  | _ => none
theorem pfo_none : PFO X none oNone := ⟨fun pins s σ H Q I hq => po_none.run pins s σ H Q I (by
  obtain ⟨δ, ads, M, b, M', hs, hz, hf, k⟩ := hq
  obtain ⟨rfl, rfl⟩ := spr hf
  exact k H ads (Fw.refl H ads) hz)⟩
theorem pfo_some (ha : PF X a fa) : PFO X (some a) (oSome fa) := ⟨fun pins s σ H Q I hq => (po_some ha).run pins s σ H Q I (by
  obtain ⟨δ, ads, M, b, M', hs, hz, hf, k⟩ := hq
  obtain ⟨⟨d1, M1⟩, e1, hf⟩ := bind_some hf
  dsimp only at hf
  split at hf
  · rename_i i
    obtain ⟨rfl, rfl⟩ := spr hf
    exact ⟨δ, ads, M, _, _, hs, hz, e1, fun v H' ads' f' z' q => ⟨i, q, k H' ads' f' z'⟩⟩
  · cases hf)⟩
def cutL (ds : List D) (lo hi : Option Int) : List D := (ds.drop (HT.sIx ds.length 0 lo)).take (HT.sIx ds.length ds.length hi - HT.sIx ds.length 0 lo)
theorem iss_cut {K : PySem.W.Frag} {H : Hp} {ads : List Addr} {ds : List D} {vs : List V} (q : Iss K H ads ds vs) (lo hi : Option Int) : Iss K H ads (cutL ds lo hi) (cutV vs lo hi) := by
  unfold cutL cutV
  rw [← q.length]
  exact (q.drop' _).take' _
def gSl : D → Option Int → Option Int → List MO → Option D
  | .tup ds, lo, hi, _ => some (.tup (cutL ds lo hi))
  | .str x, lo, hi, _ => if x.length ≤ 1000 then some (.str (cutS x lo hi)) else none
  | d, lo, hi, M => (lstOf d M).map fun ds => .lst (cutL ds lo hi)
def rSlAny (K : PySem.W.Frag) : V → Option Int → Option Int → Hp → VK → Prop := fun x lo hi H Q => rSlA K x lo hi H Q ∨ (rSlS x lo hi H Q ∨ rSlL K x lo hi H Q)
theorem sl_any : SlR X (rSlAny X.K) := sl_tupA.or (sl_str.or sl_list)
def eSl (fa : TF) (fl fh : TFO) : TF := fun δ M => (fa δ M).bind fun p => (fl δ p.2).bind fun q => (fh δ q.2).bind fun r => (gSl p.1 q.1 r.1 r.2).map fun c => (c, r.2)
theorem cut_whole {ds : List D} {lo hi : Option Int} (h : HT.sIx ds.length 0 lo = 0 ∧ HT.sIx ds.length ds.length hi = ds.length) : cutL ds lo hi = ds := by
  unfold cutL
  rw [h.1, h.2, List.drop_zero, Nat.sub_zero, List.take_length]
theorem pf_slice {lo hi : Option Expr} {p2 : Pos} {fl fh : TFO} (ha : PF X a fa) (hl : PFO X lo fl) (hh : PFO X hi fh) : PF X (.Subscript a (.Slice lo hi none p2) pos) (eSl fa fl fh) := pf_of (pe_slice sl_any ha hl hh) fun σ H Q ⟨δ, ads, M, d, M', hs, hz, hf, k⟩ => by
  obtain ⟨⟨d1, M1⟩, e1, hf⟩ := bind_some hf
  obtain ⟨⟨d2, M2⟩, e2, hf⟩ := bind_some hf
  obtain ⟨⟨d3, M3⟩, e3, hf⟩ := bind_some hf
  obtain ⟨c, e4, hf⟩ := map_some hf
  obtain ⟨rfl, rfl⟩ := pr hf
  refine ⟨δ, ads, M, d1, M1, hs, hz, e1, fun v1 H1 ads1 f1 z1 i1 => ?_⟩
  refine ⟨δ, ads1, M1, d2, M2, hs.fw f1, z1, e2, fun H2 ads2 f2 z2 => ?_⟩
  refine ⟨δ, ads2, M2, d3, M3, (hs.fw f1).fw f2, z2, e3, fun H3 ads3 f3 z3 => ?_⟩
  have i3 := Is.fw (f2.trans f3) _ _ i1
  have ff := (f1.trans f2).trans f3
  dsimp only at e4
  unfold gSl at e4
  split at e4
  · rename_i ds lo' hi'
    cases e4
    obtain ⟨p, vs, rfl, t, q⟩ := i3
    refine .inl ⟨p, vs, rfl, t.sq, fun h => ?_, fun _ l hl => k _ _ ads3 (ff.trans (Fw.laid hl)) (z3.laid hl) (is_tup z3 hl (iss_cut q _ _))⟩
    rw [q.length] at h
    rw [cut_whole h] at k
    exact k _ H3 ads3 ff z3 ⟨p, vs, rfl, t, q⟩
  · split at e4
    · rename_i hl
      cases e4
      cases (show v1 = V.str _ from i3)
      exact .inr (.inl ⟨_, rfl, le_line hl, k _ H3 ads3 ff z3 rfl⟩)
    · cases e4
  · obtain ⟨ds, e5, rfl⟩ := map_some e4
    obtain ⟨p, vs, rfl, t, q⟩ := lst_of z3 i3 e5
    exact .inr (.inr ⟨p, vs, rfl, t, fun l hl => k _ _ ads3 (ff.trans (Fw.laid hl)) (z3.laid hl) (is_lst z3 hl (iss_cut q _ _))⟩)
end
end DL
namespace DL
open PySem PySem.Spec PyProof.Rows L2

/-! ### calls of built-ins -/
def LCall (X : Cx) (r : List V → Hp → VK → Prop) (g : List D → List MO → Option D) : Prop := ∀ (H : Hp) (ads : List Addr) (M : List MO) (vs : List V) (ds : List D) (c : D) (Q : VK), Rz X.prog X.w X.K H ads M → Iss X.K H ads ds vs → g ds M = some c →
  (∀ v H', Fw H ads H' ads → Rz X.prog X.w X.K H' ads M → Is X.K H' ads c v → Q v H') → r vs H Q
def eCall (g : List D → List MO → Option D) (fa : TFA) : TF := fun δ M => (fa δ M).bind fun p => (g p.1 p.2).map fun c => (c, p.2)
section
variable {X : Cx} {e a b : Expr} {es : List Expr} {f fa fb : TF} {fr : TFA} {pos p apos : Pos} {x : Str} {id T : String} {r : List V → Hp → VK → Prop} {g : List D → List MO → Option D}
theorem call_lift (hl : LCall X r g) : ∀ σ H Q, tOf X.prog X.w X.K (eCall g fr) σ H Q → tCB r (tOfA X.prog X.w X.K fr) σ H Q := fun σ H Q ⟨δ, ads, M, d, M', hs, hz, hf, k⟩ => by
  obtain ⟨⟨d1, M1⟩, e1, hf⟩ := bind_some hf
  obtain ⟨c, e2, hf⟩ := map_some hf
  obtain ⟨rfl, rfl⟩ := pr hf
  exact ⟨δ, ads, M, d1, M1, hs, hz, e1, fun vs H1 ads1 f1 z1 i1 => hl H1 ads1 M1 vs d1 _ Q z1 i1 e2 fun v H' f z i => k v H' ads1 (f1.trans f) z i⟩
theorem pf_callB (hc : CallR X (.builtin id) r) (hl : LCall X r g) (hg : Gl X x) (hm : X.mg x = none) (hv : bootBuiltins x = some (.builtin id)) (ha : PFA X (e :: es) fr) (hn : x ≠ "__name__" := by decide) (hdb : (x == ("__debug__" : Str)) = false := by decide)
    (he : starEach (e :: es) X.env = (false, eval e X.env) :: starEach es X.env := by rfl) (hpl : (backTo pos (starEach es X.env)).any (·.1) = false := by rfl) : PF X (.Call (.Name x p) (e :: es) [] pos) (eCall g fr) := pf_of (pe_callB hc hg hm hv ha hn hdb he hpl) (call_lift hl)
theorem pf_callTy (hc : CallR X (.type T) r) (hl : LCall X r g) (hg : Gl X x) (hm : X.mg x = none) (hv : bootBuiltins x = some (.type T)) (ha : PFA X (e :: es) fr) (hn : x ≠ "__name__" := by decide) (hdb : (x == ("__debug__" : Str)) = false := by decide)
    (he : starEach (e :: es) X.env = (false, eval e X.env) :: starEach es X.env := by rfl) (hpl : (backTo pos (starEach es X.env)).any (·.1) = false := by rfl) : PF X (.Call (.Name x p) (e :: es) [] pos) (eCall g fr) := pf_of (pe_callTy hc hg hm hv ha hn hdb he hpl) (call_lift hl)
/-- len -/
def gLen : List D → List MO → Option D
  | [.tup ds], _ => some (.int ds.length)
  | [.str x], _ => if x.length ≤ 1000 then some (.int x.length) else none
  | [d], M => (lstOf d M).map fun ds => .int ds.length
  | _, _ => none
theorem iss1 {K : PySem.W.Frag} {H : Hp} {ads : List Addr} {d : D} {vs : List V} (h : Iss K H ads [d] vs) : ∃ v, vs = [v] ∧ Is K H ads d v := by
  obtain ⟨v, r, e, h1, h2⟩ := h
  cases h2
  exact ⟨v, e, h1⟩
theorem iss2 {K : PySem.W.Frag} {H : Hp} {ads : List Addr} {d c : D} {vs : List V} (h : Iss K H ads [d, c] vs) : ∃ v u, vs = [v, u] ∧ Is K H ads d v ∧ Is K H ads c u := by
  obtain ⟨v, r, e, h1, h2⟩ := h
  obtain ⟨u, e2, h3⟩ := iss1 h2
  subst e2
  exact ⟨v, u, e, h1, h3⟩
def rLenA (K : PySem.W.Frag) : List V → Hp → VK → Prop := fun xs H Q => (fun xs H Q => ∃ p ys, xs = [.ref p] ∧ (SqL K H p ys ∨ SqT K H p ys) ∧ Q (.int ys.length) H) xs H Q ∨ (fun xs H Q => ∃ z : Str, xs = [.str z] ∧ z.length ≤ sizeLine ∧ Q (.int z.length) H) xs H Q
theorem call_lenA : CallR X (.builtin "len") (rLenA X.K) := call_len_seq.or call_len_str
theorem l_len : LCall X (rLenA X.K) gLen := fun H ads M vs ds c Q z i hg k => by
  unfold gLen at hg
  split at hg
  · cases hg
    obtain ⟨v, rfl, a, us, rfl, t, q⟩ := iss1 i
    exact .inl ⟨a, us, rfl, .inr t.sq, k _ H (Fw.refl H ads) z (by rw [q.length]; rfl)⟩
  · split at hg
    · rename_i hl
      cases hg
      obtain ⟨v, rfl, q⟩ := iss1 i
      cases (show v = V.str _ from q)
      exact .inr ⟨_, rfl, le_line hl, k _ H (Fw.refl H ads) z rfl⟩
    · cases hg
  · obtain ⟨es, e0, rfl⟩ := map_some hg
    obtain ⟨v, rfl, q⟩ := iss1 i
    obtain ⟨a, us, rfl, t, q⟩ := lst_of z q e0
    exact .inl ⟨a, us, rfl, .inl t, k _ H (Fw.refl H ads) z (by rw [q.length]; rfl)⟩
  · cases hg
/-- int(b) -/
def gInt1 : List D → List MO → Option D
  | [.bl b], _ => some (.int (if b then 1 else 0))
  | _, _ => none
theorem l_int1 : LCall X (fun xs H Q => (∃ i, xs = [.int i] ∧ Q (.int i) H) ∨ ∃ k, xs = [.bl k] ∧ Q (.int (if k then 1 else 0)) H) gInt1 := fun H ads M vs ds c Q z i hg k => by
  unfold gInt1 at hg
  split at hg
  · cases hg
    obtain ⟨v, rfl, q⟩ := iss1 i
    cases (show v = V.bl _ from q)
    exact .inr ⟨_, rfl, k _ H (Fw.refl H ads) z rfl⟩
  · cases hg
/-- max, min of two ints -/
def gMax2 : List D → List MO → Option D
  | [.int i, .int j], _ => some (.int (if j > i then j else i))
  | _, _ => none
def gMin2 : List D → List MO → Option D
  | [.int i, .int j], _ => some (.int (if j < i then j else i))
  | _, _ => none
theorem l_max2 : LCall X (fun xs H Q => ∃ i j, xs = [.int i, .int j] ∧ Q (.int (if j > i then j else i)) H) gMax2 := fun H ads M vs ds c Q z i hg k => by
  unfold gMax2 at hg
  split at hg
  · cases hg
    obtain ⟨v, u, rfl, q, q'⟩ := iss2 i
    cases (show v = V.int _ from q)
    cases (show u = V.int _ from q')
    exact ⟨_, _, rfl, k _ H (Fw.refl H ads) z rfl⟩
  · cases hg
theorem l_min2 : LCall X (fun xs H Q => ∃ i j, xs = [.int i, .int j] ∧ Q (.int (if j < i then j else i)) H) gMin2 := fun H ads M vs ds c Q z i hg k => by
  unfold gMin2 at hg
  split at hg
  · cases hg
    obtain ⟨v, u, rfl, q, q'⟩ := iss2 i
    cases (show v = V.int _ from q)
    cases (show u = V.int _ from q')
    exact ⟨_, _, rfl, k _ H (Fw.refl H ads) z rfl⟩
  · cases hg
/-- tuple(x) -/
def gTuple : List D → List MO → Option D
  | [.tup ds], _ => some (.tup ds)
  | [d], M => (lstOf d M).map fun ds => .tup ds
  | _, _ => none
theorem l_tuple : LCall X (fun xs H Q => ∃ p ys, xs = [.ref p] ∧ ((SqL X.K H p ys ∧ ∀ l, H l = none → Q (.ref l) (upd H l (.tup ys))) ∨ (SqT X.K H p ys ∧ Q (.ref p) H))) gTuple := fun H ads M vs ds c Q z i hg k => by
  unfold gTuple at hg
  split at hg
  · cases hg
    obtain ⟨v, rfl, a, us, rfl, t, q⟩ := iss1 i
    exact ⟨a, us, rfl, .inr ⟨t.sq, k _ H (Fw.refl H ads) z ⟨a, us, rfl, t, q⟩⟩⟩
  · obtain ⟨es, e0, rfl⟩ := map_some hg
    obtain ⟨v, rfl, q⟩ := iss1 i
    obtain ⟨a, us, rfl, t, q⟩ := lst_of z q e0
    exact ⟨a, us, rfl, .inl ⟨t, fun l hl => k _ _ (Fw.laid hl) (z.laid hl) (is_tup z hl q)⟩⟩
  · cases hg
theorem log_small {n : Nat} (hl : n < 1000) : n.log2 < 1920 := by
  by_cases h0 : n = 0
  · rw [h0]; decide
  · rw [Nat.log2_lt h0]
    exact Nat.lt_of_lt_of_le hl (Nat.le_trans (show 1000 ≤ 2 ^ 10 by decide) (Nat.pow_le_pow_right (n := 2) (i := 10) (j := 1920) (by decide) (by decide)))
/-- str(n) -/
def gStr1 : List D → List MO → Option D
  | [.int i], _ => if i.natAbs < 1000 then some (.str (Str.ofString (toString i))) else none
  | _, _ => none
theorem l_str1 : LCall X (fun xs H Q => ∃ i : Int, xs = [.int i] ∧ i.natAbs.log2 < 1920 ∧ Q (.str (toString i)) H) gStr1 := fun H ads M vs ds c Q z i hg k => by
  unfold gStr1 at hg
  split at hg
  · split at hg
    · rename_i hl
      cases hg
      obtain ⟨v, rfl, q⟩ := iss1 i
      cases (show v = V.int _ from q)
      exact ⟨_, rfl, log_small hl, k _ H (Fw.refl H ads) z rfl⟩
    · cases hg
  · cases hg
/-- sum(list of ints) -/
def intL : List D → Option (List Int)
  | [] => some []
  | .int i :: r => (intL r).map fun l => i :: l
  | _ => none
def gSum : List D → List MO → Option D
  | [d], M => (lstOf d M).bind fun ds => (intL ds).map fun l => .int l.sum
  | _, _ => none
theorem intL_is {K : PySem.W.Frag} {H : Hp} {ads : List Addr} : ∀ {ds : List D} {vs : List V} {l : List Int}, intL ds = some l → Iss K H ads ds vs → vs = l.map V.int
  | [], _, _, h, i => by cases h; cases i; rfl
  | .int j :: r, _, _, h, i => by
    obtain ⟨l, e, rfl⟩ := map_some h
    obtain ⟨v, u, rfl, h1, h2⟩ := i
    cases (show v = V.int _ from h1)
    rw [intL_is e h2]; rfl
  | .non :: _, _, _, h, _ => nomatch h
  | .bl _ :: _, _, _, h, _ => nomatch h
  | .str _ :: _, _, _, h, _ => nomatch h
  | .tup _ :: _, _, _, h, _ => nomatch h
  | .lst _ :: _, _, _, h, _ => nomatch h
  | .frl _ :: _, _, _, h, _ => nomatch h
  | .obj _ :: _, _, _, h, _ => nomatch h
theorem l_sum : LCall X (rSum X.K) gSum := fun H ads M vs ds c Q z i hg k => by
  unfold gSum at hg
  split at hg
  · obtain ⟨es, e0, hg⟩ := bind_some hg
    obtain ⟨l, e1, rfl⟩ := map_some hg
    obtain ⟨v, rfl, q⟩ := iss1 i
    obtain ⟨a, us, rfl, t, q⟩ := lst_of z q e0
    rw [intL_is e1 q] at t
    exact ⟨a, l, rfl, t, k _ H (Fw.refl H ads) z rfl⟩
  · cases hg
/-- isinstance(e, int), isinstance(e, tuple) -/
def gIsi (T : String) : D → List MO → Option D
  | .int _, _ => some (.bl (T == "int"))
  | .tup _, _ => some (.bl (T == "tuple"))
  | .str _, _ => some (.bl false)
  | _, _ => none
theorem pf_isi {pT : Pos} {y : Str} (hT : T = "int" ∨ T = "tuple") (ha : PF X a fa) (hg : Gl X "isinstance") (hm : X.mg "isinstance" = none) (hgT : Gl X y) (hmT : X.mg y = none) (hvT : bootBuiltins y = some (.type T)) (hnT : y ≠ "__name__" := by decide) (hdT : (y == ("__debug__" : Str)) = false := by decide)
    (he : starEach [a, .Name y pT] X.env = (false, eval a X.env) :: starEach [.Name y pT] X.env := by rfl) (he2 : starEach [.Name y pT] X.env = (false, eval (.Name y pT) X.env) :: starEach [] X.env := by rfl) (hpl : (backTo pos (starEach [.Name y pT] X.env)).any (·.1) = false := by rfl) :
    PF X (.Call (.Name "isinstance" p) [a, .Name y pT] [] pos) (eUn (gIsi T) fa) := pf_of (pe_callB call_isi hg hm (by decide +kernel) (pa_cons ha (pa_cons (pe_bltn (v := .ty T) hgT hmT hvT rfl hnT hdT) pa_nil he2) he) (by decide) (by decide) he hpl) fun σ H Q ⟨δ, ads, M, d, M', hs, hz, hf, k⟩ => by
  obtain ⟨⟨d1, M1⟩, e1, hf⟩ := bind_some hf
  obtain ⟨c, e2, hf⟩ := map_some hf
  obtain ⟨rfl, rfl⟩ := pr hf
  refine ⟨δ, ads, M, d1, M1, hs, hz, e1, fun v H1 ads1 f1 z1 i1 => ?_⟩
  dsimp only at e2
  unfold gIsi at e2
  split at e2
  · cases e2
    cases (show v = V.int _ from i1)
    refine ⟨_, _, _, _, (T == "int"), rfl, .ty T, .base (.int _), kit_ty ?_, k _ H1 ads1 f1 z1 rfl⟩
    rcases hT with rfl | rfl <;> decide +kernel
  · cases e2
    obtain ⟨b, us, rfl, t, q⟩ := i1
    have ty : TyX X.K H1 (.ref b) (.type "tuple") := by
      rcases t with ⟨_, t | ⟨o, t⟩⟩ | ⟨o, its, n, t, tc, _⟩
      · exact .base (.tup t)
      · exact .fTuple t
      · exact .kTuple t tc
    refine ⟨_, _, _, _, (T == "tuple"), rfl, .ty T, ty, kit_ty ?_, k _ H1 ads1 f1 z1 rfl⟩
    rcases hT with rfl | rfl <;> decide +kernel
  · cases e2
    cases (show v = V.str _ from i1)
    refine ⟨_, _, _, _, false, rfl, .ty T, .base (.str _), kit_ty ?_, k _ H1 ads1 f1 z1 rfl⟩
    rcases hT with rfl | rfl <;> decide +kernel
  · cases e2

/-! ### the defs of the text -/
abbrev TFn := List D → List MO → Option (D × List MO)
def spF (P : Program) (w : World) (K : PySem.W.Frag) (n : Nat) (fn : TFn) : Sp := fun vs H Q _ => vs.length = n ∧ ∃ ads M ds d M', Rz P w K H ads M ∧ Iss K H ads ds vs ∧ fn ds M = some (d, M') ∧
  ∀ v H' ads', Fw H ads H' ads' → Rz P w K H' ads' M' → Is K H' ads' d v → Q v H'
def eFn (n : Nat) (fn : TFn) (fr : TFA) : TF := fun δ M => (fr δ M).bind fun p => if p.1.length = n then fn p.1 p.2 else none
variable {k : Nat} {f₀ C : Addr} {fd : FuncData} {ps : List Str} {fn : TFn} {m : Str} {n : Nat} {o : Expr} {fo : TF}
theorem pf_call (F : FnOk X.prog X.w X.K X.mg X.base CX0 k f₀ fd ps (spF X.prog X.w X.K n fn)) (hr : Room k X.A) (hg : Gl X x) (hm : X.mg x = some (.ref f₀)) (hk : PySem.W.keepIn X.K (.ref f₀) = true) (hb : Binds X.K fd ps [])
    (ha : PFA X (e :: es) fr) (hdb : (x == ("__debug__" : Str)) = false := by decide) (he : starEach (e :: es) X.env = (false, eval e X.env) :: starEach es X.env := by rfl) (hpl : (backTo pos (starEach es X.env)).any (·.1) = false := by rfl) :
    PF X (.Call (.Name x p) (e :: es) [] pos) (eFn n fn fr) := pf_of (pe_call F hr hg hm hk hb .nil pass0 ha hdb he hpl) fun σ H Q ⟨δ, ads, M, d, M', hs, hz, hf, kk⟩ => by
  obtain ⟨⟨d1, M1⟩, e1, hf⟩ := bind_some hf
  dsimp only at hf
  split at hf
  · rename_i hl
    refine ⟨δ, ads, M, d1, M1, hs, hz, e1, fun vs H1 ads1 f1 z1 i1 => ?_⟩
    show spF X.prog X.w X.K n fn (vs ++ []) H1 Q E0
    rw [List.append_nil]
    exact ⟨i1.length.trans hl, ads1, M1, d1, d, M', z1, i1, hf, fun v H2 ads2 f2 z2 i2 => kk v H2 ads2 (f1.trans f2) z2 i2⟩
  · cases hf
theorem fis_lookup {K : PySem.W.Frag} {H : Hp} {ads : List Addr} {m : Str} : ∀ {fs : List (Str × D)} {gs : List (Str × V)}, FIs K H ads fs gs → (fs.lookup m = none → gs.lookup m = none) ∧ ∀ d, fs.lookup m = some d → ∃ v, gs.lookup m = some v ∧ Is K H ads d v
  | [], _, h => by cases h; exact ⟨fun _ => rfl, fun d h => (nomatch h)⟩
  | (a, d) :: r, _, h => by
    cases h with
    | @cons _ q _ gs h1 h2 =>
      obtain ⟨e, i⟩ := h1
      obtain ⟨b, v⟩ := q
      have e : b = a := e
      subst e
      have ih := fis_lookup (m := m) h2
      rw [List.lookup_cons, List.lookup_cons]
      cases hb : m == b with
      | true =>
        refine ⟨fun z => (nomatch z), fun c z => ?_⟩
        cases z
        exact ⟨v, rfl, i⟩
      | false => exact ih
def eMeth (m : Str) (n : Nat) (fn : TFn) (fo : TF) (fr : TFA) : TF := fun δ M => (fo δ M).bind fun p => match p.1 with
  | .obj i => match p.2[i]? with
    | some (.ins fs) => if (fs.lookup m).isNone = true then (fr δ p.2).bind fun q => if q.1.length + 1 = n then fn (.obj i :: q.1) q.2 else none else none
    | _ => none
  | _ => none
theorem meth_lift (hC : PySem.W.nsIn X.K mainGlobals "Forms" = some (some (.ref C))) : ∀ σ H Q, tOf X.prog X.w X.K (eMeth m n fn fo fr) σ H Q → tMeth C m (spF X.prog X.w X.K n fn) [] E0 (tOf X.prog X.w X.K fo) (tOfA X.prog X.w X.K fr) σ H Q := fun σ H Q ⟨δ, ads, M, d, M', hs, hz, hf, kk⟩ => by
  obtain ⟨⟨d1, M1⟩, e1, hf⟩ := bind_some hf
  dsimp only at hf
  split at hf
  · rename_i i
    split at hf
    · rename_i fs e2
      split at hf
      · rename_i e3
        obtain ⟨⟨d2, M2⟩, e4, hf⟩ := bind_some hf
        dsimp only at hf
        split at hf
        · rename_i hl
          refine ⟨δ, ads, M, _, _, hs, hz, e1, fun v H1 ads1 f1 z1 i1 => ?_⟩
          obtain ⟨a, rfl, ia⟩ := i1
          obtain ⟨C', dx, gs, hC', ha, hfs⟩ := z1.ok i a _ ia e2
          rw [hC] at hC'
          have hC' : C = C' := by
            have := Option.some.inj (Option.some.inj hC')
            injection this
          subst hC'
          refine ⟨a, dx, gs, rfl, ha, (fis_lookup hfs).1 (Option.isNone_iff_eq_none.mp e3), δ, ads1, M1, d2, M2, hs.fw f1, z1, e4, fun vs H2 ads2 f2 z2 i2 => ?_⟩
          show spF X.prog X.w X.K n fn (V.ref a :: (vs ++ [])) H2 Q E0
          rw [List.append_nil]
          exact ⟨by rw [List.length_cons, i2.length]; exact hl, ads2, M2, .obj i :: d2, d, M', z2, ⟨_, _, rfl, ⟨a, rfl, f2.get ia⟩, i2⟩, hf, fun v H3 ads3 f3 z3 i3 => kk v H3 ads3 ((f1.trans f2).trans f3) z3 i3⟩
        · cases hf
      · cases hf
    · cases hf
  · cases hf
theorem pf_meth {pl : Sem Bool} (hC : PySem.W.nsIn X.K mainGlobals "Forms" = some (some (.ref C))) (ho : PF X o fo) (c : Cls X.K C) (hm : Meth X.K C m f₀) (F : FnOk X.prog X.w X.K X.mg X.base CX0 k f₀ fd ps (spF X.prog X.w X.K n fn)) (hr : Room k X.A) (hb : Binds X.K fd ps []) (ha : PFA X (e :: es) fr)
    (hst : starEach (e :: es) X.env = (false, eval e X.env) :: starEach es X.env := by rfl) (hpl : (backTo pos (starEach es X.env)).any (·.1) = false := by rfl)
    (ht : eval (.Call (.Attribute o m apos) (e :: es) [] pos) X.env = (do
      let ov ← eval o X.env
      standAt apos.atName
      let (f, first) ← holding [ov] (getMethod ov m pl)
      callWith pos f first (backTo pos (starEach (e :: es) X.env)) (backToKw pos (keywordEach [] X.env))) := by rfl) :
    PF X (.Call (.Attribute o m apos) (e :: es) [] pos) (eMeth m n fn fo fr) := pf_of (pe_meth ho c hm F hr hb .nil pass0 ha hst hpl ht) (meth_lift hC)
/-- C() -/
def eMake (fn : TFn) : TF := fun _ M => (fn [.obj M.length] (M ++ [.ins []])).bind fun p => match p.1 with
  | .non => some (.obj M.length, p.2)
  | _ => none
theorem pf_make0 (hC : PySem.W.nsIn X.K mainGlobals "Forms" = some (some (.ref C))) (M₀ : Mk X.K C f₀) (F : FnOk X.prog X.w X.K X.mg X.base CX0 k f₀ fd ps (spF X.prog X.w X.K 1 fn)) (hr : Room (k + 1) X.A) (hg : Gl X x) (hm : X.mg x = some (.ref C)) (hb : Binds X.K fd ps [])
    (hdb : (x == ("__debug__" : Str)) = false := by decide) : PF X (.Call (.Name x p) [] [] pos) (eMake fn) := pf_of (pe_make0 M₀ F hr hg hm hb .nil pass0 hdb) fun σ H Q ⟨δ, ads, M, d, M', hs, hz, hf, kk⟩ => by
  obtain ⟨⟨d1, M1⟩, e1, hf⟩ := bind_some hf
  dsimp only at hf
  split at hf
  · obtain ⟨rfl, rfl⟩ := spr hf
    intro x dx hx hdx ne
    have z1 := hz.laid (u := .own x) hdx
    have hx1 : upd H dx (.own x) x = none := by rw [upd_ne ne.symm]; exact hx
    have z2 : Rz X.prog X.w X.K (upd (upd H dx (.own x)) x (.ins C dx [])) (ads ++ [x]) (M ++ [.ins []]) := z1.push hx1 ⟨C, dx, [], hC, upd_same, .nil⟩
    have ff : Fw H ads (upd (upd H dx (.own x)) x (.ins C dx [])) (ads ++ [x]) := (Fw.laid hdx).trans (Fw.push hx1)
    have hi : (ads ++ [x])[M.length]? = some x := by rw [← hz.len, List.getElem?_append_right (Nat.le_refl _), Nat.sub_self]; rfl
    refine ⟨rfl, ads ++ [x], _, [.obj M.length], .non, _, z2, ⟨_, _, rfl, ⟨x, rfl, hi⟩, rfl⟩, e1, fun v H' ads' f' z' i' => ⟨i', ?_⟩⟩
    exact kk _ H' ads' (ff.trans f') z' ⟨x, rfl, f'.get hi⟩
  · cases hf

/-! ### attributes -/
def eFld (m : Str) (fo : TF) : TF := fun δ M => (fo δ M).bind fun p => match p.1 with
  | .obj i => match p.2[i]? with
    | some (.ins fs) => (fs.lookup m).map fun d => (d, p.2)
    | _ => none
  | _ => none
theorem pf_fld (hC : PySem.W.nsIn X.K mainGlobals "Forms" = some (some (.ref C))) (c : Cls X.K C) (hn : NoAttr X.K C m) (ho : PF X o fo) (hb : attributeBase o m X.env (eval o X.env) = eval o X.env := by rfl) : PF X (.Attribute o m pos) (eFld m fo) := pf_of (pe_fld ho hb) fun σ H Q ⟨δ, ads, M, d, M', hs, hz, hf, kk⟩ => by
  obtain ⟨⟨d1, M1⟩, e1, hf⟩ := bind_some hf
  dsimp only at hf
  split at hf
  · rename_i i
    split at hf
    · rename_i fs e2
      obtain ⟨c', e3, hf⟩ := map_some hf
      obtain ⟨rfl, rfl⟩ := pr hf
      refine ⟨δ, ads, M, _, _, hs, hz, e1, fun v H1 ads1 f1 z1 i1 => ?_⟩
      obtain ⟨a, rfl, ia⟩ := i1
      obtain ⟨C', dx, gs, hC', ha, hfs⟩ := z1.ok i a _ ia e2
      rw [hC] at hC'
      have hC' : C = C' := by
        have := Option.some.inj (Option.some.inj hC')
        injection this
      subst hC'
      obtain ⟨v, e4, i4⟩ := (fis_lookup hfs).2 _ e3
      exact ⟨a, C, dx, gs, v, rfl, ha, c, hn, e4, kk v H1 ads1 f1 z1 i4⟩
    · cases hf
  · cases hf
end
end DL
namespace DL
open PySem PySem.Spec PyProof.Rows L2

/-! ### small statements -/
def sSet (i : Nat) (f : TF) : TFS := fun δ M => (f δ M).map fun p => (.nx (δ.set i (some p.1)), p.2)
def sRet (f : TF) : TFS := fun δ M => (f δ M).map fun p => (.rt p.1, p.2)
def sDrop (f : TF) : TFS := fun δ M => (f δ M).map fun p => (.nx δ, p.2)
def sNil : TFS := fun δ M => some (.nx δ, M)
def sSeq (f g : TFS) : TFS := fun δ M => (f δ M).bind fun p => match p.1 with
  | .nx δ1 => g δ1 p.2
  | o => some (o, p.2)
def sIf (t : TFT) (f g : TFS) : TFS := fun δ M => (t δ M).bind fun p => if p.1 = true then f δ p.2 else g δ p.2
/-- a place that is not come to -/
def sNever : TFS := fun _ _ => none
def eNever : TF := fun _ _ => none
section
variable {X : Cx} {st : Stmt} {rest body : List Stmt} {e a b o : Expr} {es : List Expr} {f fa fb fo : TF} {F G : TFS} {t : TFT} {pos p apos : Pos} {x : Str} {i : Nat}
theorem pf_never : PF X e eNever := ⟨fun pins s σ H Q I hq => by
  obtain ⟨_, _, _, _, _, _, _, h, _⟩ := hq
  cases h⟩
theorem pfs_never : PFS X st sNever := ⟨fun pins s σ H D' I hq => by
  obtain ⟨_, _, _, _, _, _, _, h, _⟩ := hq
  cases h⟩
theorem pfss_never : PFSs X rest sNever := ⟨fun pins s σ H D' I hq => by
  obtain ⟨_, _, _, _, _, _, _, h, _⟩ := hq
  cases h⟩
theorem pfs_set {pos' : Pos} (hN : X.N.Nodup) (hi : X.N[i]? = some x) (hx : Loc X.env.scope x) (he : PF X e f) (hs : swapsWith e (some (.Name x pos')) pos.line X.env = pure false := by rfl) (hf : X.fn x = true ∨ X.env.scope.names.lookup x = some .local := by first | exact .inl rfl | exact .inr rfl | assumption) :
    PFS X (.Assign [.Name x pos'] e pos) (sSet i f) := pfs_of (ps_set hN hi hx he hs hf) fun D' σ H ⟨δ, ads, M, o, M', hs, hz, hf, k⟩ => by
  obtain ⟨⟨d1, M1⟩, e1, hf⟩ := map_some hf
  obtain ⟨rfl, rfl⟩ := pr hf
  exact ⟨δ, ads, M, d1, _, hs, hz, e1, fun v H1 ads1 f1 z1 i1 => k H1 ads1 f1 z1 _ ((hs.fw f1).set i1)⟩
theorem pfs_ret (he : PF X e f) : PFS X (.Return (some e) pos) (sRet f) := pfs_of (ps_ret he) fun D' σ H ⟨δ, ads, M, o, M', hs, hz, hf, k⟩ => by
  obtain ⟨⟨d1, M1⟩, e1, hf⟩ := map_some hf
  obtain ⟨rfl, rfl⟩ := pr hf
  exact ⟨δ, ads, M, d1, _, hs, hz, e1, fun v H1 ads1 f1 z1 i1 => k H1 ads1 f1 z1 v i1⟩
theorem pfs_expr (he : PF X e f) (hs : swapsWith e none pos.line X.env = pure false := by rfl) : PFS X (.Expr e pos) (sDrop f) := pfs_of (ps_expr he hs) fun D' σ H ⟨δ, ads, M, o, M', hs, hz, hf, k⟩ => by
  obtain ⟨⟨d1, M1⟩, e1, hf⟩ := map_some hf
  obtain ⟨rfl, rfl⟩ := pr hf
  exact ⟨δ, ads, M, d1, _, hs, hz, e1, fun v H1 ads1 f1 z1 i1 => k H1 ads1 f1 z1 _ (hs.fw f1)⟩
theorem pfss_nil : PFSs X [] sNil := pfss_of pss_nil fun D' σ H ⟨δ, ads, M, o, M', hs, hz, hf, k⟩ => by
  obtain ⟨rfl, rfl⟩ := spr hf
  exact k H ads (Fw.refl H ads) hz _ hs
theorem FinS.fw {K : PySem.W.Frag} {D' : Ends} {H' : Hp} {ads' : List Addr} {o : Out} (h : FinS K D' H' ads' o) : FinS K D' H' ads' o := h
theorem pfss_cons (h1 : PFS X st F) (h2 : PFSs X rest G) : PFSs X (st :: rest) (sSeq F G) := pfss_of (pss_cons h1 h2) fun D' σ H ⟨δ, ads, M, o, M', hs, hz, hf, k⟩ => by
  obtain ⟨⟨o1, M1⟩, e1, hf⟩ := bind_some hf
  refine ⟨δ, ads, M, o1, M1, hs, hz, e1, fun H1 ads1 f1 z1 => ?_⟩
  dsimp only at hf
  cases o1 with
  | nx δ1 => exact fun σ' s' => ⟨δ1, ads1, M1, o, M', s', z1, hf, fun H2 ads2 f2 z2 => k H2 ads2 (f1.trans f2) z2⟩
  | rt d =>
    obtain ⟨rfl, rfl⟩ := spr hf
    exact k H1 ads1 f1 z1
  | bk d =>
    obtain ⟨rfl, rfl⟩ := spr hf
    exact k H1 ads1 f1 z1
  | ct d =>
    obtain ⟨rfl, rfl⟩ := spr hf
    exact k H1 ads1 f1 z1
theorem pfss_one (h1 : PFS X st F) : PFSs X [st] F := pss_one h1
theorem pfs_if {c : Expr} {A B : List Stmt} (hc : PFT X c t) (hA : PFSs X A F) (hB : PFSs X B G) : PFS X (.If c A B pos) (sIf t F G) := pfs_of (ps_if hc hA hB) fun D' σ H ⟨δ, ads, M, o, M', hs, hz, hf, k⟩ => by
  obtain ⟨⟨b, M1⟩, e1, hf⟩ := bind_some hf
  refine ⟨δ, ads, M, b, M1, hs, hz, e1, fun H1 ads1 f1 z1 => ?_⟩
  dsimp only at hf
  by_cases hb : b = true
  · rw [if_pos hb] at hf ⊢
    exact ⟨δ, ads1, M1, o, M', hs.fw f1, z1, hf, fun H2 ads2 f2 z2 => k H2 ads2 (f1.trans f2) z2⟩
  · rw [if_neg hb] at hf ⊢
    exact ⟨δ, ads1, M1, o, M', hs.fw f1, z1, hf, fun H2 ads2 f2 z2 => k H2 ads2 (f1.trans f2) z2⟩
/-- x, y = a pair -/
def sUn2 (i j : Nat) (f : TF) : TFS := fun δ M => (f δ M).bind fun p => match p.1 with
  | .tup [c, d] => some (.nx ((δ.set i (some c)).set j (some d)), p.2)
  | _ => none
theorem pfs_un2 {j : Nat} {y : Str} {px py pt : Pos} {kt} (hc : X.calm = true) (hN : X.N.Nodup) (hi : X.N[i]? = some x) (hj : X.N[j]? = some y) (hx : Loc X.env.scope x) (hy : Loc X.env.scope y) (he : PF X e f)
    (hs : swapsWithSole [.Tuple [.Name x px, .Name y py] kt pt] e pos.line X.env = pure false := by rfl) (hw : swappedStores [.Tuple [.Name x px, .Name y py] kt pt] e X.env = pure none := by rfl)
    (hf1 : X.fn x = true ∨ X.env.scope.names.lookup x = some .local := by first | exact .inl rfl | exact .inr rfl | assumption) (hf2 : X.fn y = true ∨ X.env.scope.names.lookup y = some .local := by first | exact .inl rfl | exact .inr rfl | assumption)
    (h1 : (assignEach [.Tuple [.Name x px, .Name y py] kt pt] X.env).map (·.2) = [assign (.Tuple [.Name x px, .Name y py] kt pt) X.env] := by rfl)
    (hs1 : (assignEach [.Name x px, .Name y py] X.env).map (·.2) = assign (.Name x px) X.env :: (assignEach [.Name y py] X.env).map (·.2) := by rfl) (hs2 : (assignEach [.Name y py] X.env).map (·.2) = assign (.Name y py) X.env :: (assignEach [] X.env).map (·.2) := by rfl)
    (hn : (assignEach [.Name x px, .Name y py] X.env).length = 2 := by rfl) (hst : (assignEach [.Name x px, .Name y py] X.env).findIdx? (·.1) = none := by rfl) :
    PFS X (.Assign [.Tuple [.Name x px, .Name y py] kt pt] e pos) (sUn2 i j f) := pfs_of (ps_asg he (pg_tup hc (pgs_cons (pg_name hN hi hx hf1) (pgs_cons (pg_name hN hj hy hf2) pgs_nil hs2) hs1) hn hst) hs hw h1) fun D' σ H ⟨δ, ads, M, o, M', hs, hz, hf, k⟩ => by
  obtain ⟨⟨d1, M1⟩, e1, hf⟩ := bind_some hf
  dsimp only at hf
  split at hf
  · obtain ⟨rfl, rfl⟩ := spr hf
    refine ⟨δ, ads, M, _, _, hs, hz, e1, fun v H1 ads1 f1 z1 i1 => ?_⟩
    obtain ⟨l, vs, rfl, t, q⟩ := i1
    obtain ⟨u1, u2, rfl, q1, q2⟩ := iss2 q
    exact ⟨l, _, rfl, t.sq, rfl, u1, [u2], rfl, u2, [], rfl, rfl, k H1 ads1 f1 z1 _ (((hs.fw f1).set q1).set q2)⟩
  · cases hf
/-- l[i] = e, l a list that is written to -/
def sSetL (fv fo fi : TF) : TFS := fun δ M => (fv δ M).bind fun p => (fo δ p.2).bind fun q => (fi δ q.2).bind fun r => match q.1, r.1 with
  | .obj l, .int n => match r.2[l]? with
    | some (.lst ds) => (ixN ds.length n).map fun j => (.nx δ, r.2.set l (.lst (ds.set j p.1)))
    | _ => none
  | _, _ => none
theorem pfs_setL {ps : Pos} {fv fi : TF} {v i : Expr} (hv : PF X v fv) (ho : PF X o fo) (hi : PF X i fi) (ha : ∀ v, assign (.Subscript o i ps) X.env v = (do
      let ov ← holding [v] (eval o X.env)
      let iv ← holding [v, ov] (eval i X.env)
      standAt ps
      holding [v, ov, iv] (setItem ov iv v)
      release [v, ov, iv] []) := by intro _; rfl)
    (hs : swapsWithSole [.Subscript o i ps] v pos.line X.env = pure false := by rfl) (hw : swappedStores [.Subscript o i ps] v X.env = pure none := by rfl)
    (h1 : (assignEach [.Subscript o i ps] X.env).map (·.2) = [assign (.Subscript o i ps) X.env] := by rfl) : PFS X (.Assign [.Subscript o i ps] v pos) (sSetL fv fo fi) := pfs_of (ps_asg hv (pg_sub ho hi set_list ha) hs hw h1) fun D' σ H ⟨δ, ads, M, out, M', hs, hz, hf, k⟩ => by
  obtain ⟨⟨d1, M1⟩, e1, hf⟩ := bind_some hf
  obtain ⟨⟨d2, M2⟩, e2, hf⟩ := bind_some hf
  obtain ⟨⟨d3, M3⟩, e3, hf⟩ := bind_some hf
  dsimp only at hf
  split at hf
  · rename_i l n
    split at hf
    · rename_i ds e4
      obtain ⟨j, e5, hf⟩ := map_some hf
      obtain ⟨rfl, rfl⟩ := pr hf
      refine ⟨δ, ads, M, d1, M1, hs, hz, e1, fun u1 H1 ads1 f1 z1 i1 => ?_⟩
      refine ⟨δ, ads1, M1, _, M2, hs.fw f1, z1, e2, fun u2 H2 ads2 f2 z2 i2 => ?_⟩
      refine ⟨δ, ads2, M2, _, M3, (hs.fw f1).fw f2, z2, e3, fun u3 H3 ads3 f3 z3 i3 => ?_⟩
      cases (show u3 = V.int _ from i3)
      obtain ⟨p, vs, rfl, hp, hH, q⟩ := obj_lst z3 (Is.fw f3 _ _ i2) e4
      have hm := List.mem_of_getElem? hp
      have fw := Fw.write (o := .lst (vs.set j u1)) hm hH (fun _ _ z => nomatch z)
      have i1' := Is.fw fw _ _ (Is.fw (f2.trans f3) _ _ i1)
      refine ⟨p, vs, _, j, rfl, rfl, hH, by rw [q.length]; exact e5, ?_⟩
      have ff := ((f1.trans f2).trans f3).trans fw
      exact k _ ads3 ff (z3.write hp ⟨_, upd_same, (Iss.fw fw _ _ q).set i1' j⟩) _ (hs.fw ff)
    · cases hf
  · cases hf
/-- o.m = e -/
def putD (m : Str) (d : D) : List (Str × D) → List (Str × D)
  | [] => [(m, d)]
  | (g, c) :: r => if g = m then (g, d) :: r else (g, c) :: putD m d r
theorem FIs.put {K : PySem.W.Frag} {H : Hp} {ads : List Addr} {m : Str} {d : D} {v : V} (hd : Is K H ads d v) : ∀ {fs : List (Str × D)} {gs : List (Str × V)}, FIs K H ads fs gs → FIs K H ads (putD m d fs) (putF m v gs)
  | [], _, h => by cases h; exact .cons ⟨rfl, hd⟩ .nil
  | (a, c) :: r, _, h => by
    cases h with
    | @cons _ q _ gs h1 h2 =>
      obtain ⟨e, i⟩ := h1
      obtain ⟨b, u⟩ := q
      have e : b = a := e
      subst e
      show FIs K H ads (if b = m then (b, d) :: r else (b, c) :: putD m d r) (if b = m then (b, v) :: gs else (b, u) :: putF m v gs)
      by_cases hb : b = m
      · rw [if_pos hb, if_pos hb]; exact .cons ⟨rfl, hd⟩ h2
      · rw [if_neg hb, if_neg hb]; exact .cons ⟨rfl, i⟩ (FIs.put hd h2)
def sFldD (m : Str) (fv fo : TF) : TFS := fun δ M => (fv δ M).bind fun p => (fo δ p.2).bind fun q => match q.1 with
  | .obj i => match q.2[i]? with
    | some (.ins fs) => if fs.length < 100 then some (.nx δ, q.2.set i (.ins (putD m p.1 fs))) else none
    | _ => none
  | _ => none
theorem pfs_fld {C : Addr} {m : Str} {pos' : Pos} {fv : TF} {v : Expr} (hC : PySem.W.nsIn X.K mainGlobals "Forms" = some (some (.ref C))) (c : Cls X.K C) (hn : NoAttr X.K C m) (ho : PF X o fo) (hv : PF X v fv) (hs : swapsWith v (some (.Attribute o m pos')) pos.line X.env = pure false := by rfl) :
    PFS X (.Assign [.Attribute o m pos'] v pos) (sFldD m fv fo) := pfs_of (ps_fld ho hv hs) fun D' σ H ⟨δ, ads, M, out, M', hs, hz, hf, k⟩ => by
  obtain ⟨⟨d1, M1⟩, e1, hf⟩ := bind_some hf
  obtain ⟨⟨d2, M2⟩, e2, hf⟩ := bind_some hf
  dsimp only at hf
  split at hf
  · rename_i i
    split at hf
    · rename_i fs e3
      split at hf
      · rename_i hl
        obtain ⟨rfl, rfl⟩ := spr hf
        refine ⟨δ, ads, M, d1, M1, hs, hz, e1, fun u1 H1 ads1 f1 z1 i1 => ?_⟩
        refine ⟨δ, ads1, M1, _, M2, hs.fw f1, z1, e2, fun u2 H2 ads2 f2 z2 i2 => ?_⟩
        obtain ⟨a, rfl, ia⟩ := i2
        obtain ⟨C', dx, gs, hC', ha, hfs⟩ := z2.ok i a _ ia e3
        have hC2 := hC'
        rw [hC] at hC'
        have hC' : C = C' := by
          have := Option.some.inj (Option.some.inj hC')
          injection this
        subst hC'
        have hm := List.mem_of_getElem? ia
        have hl' : gs.length < 1000 := by rw [← Paired.length hfs]; omega
        refine ⟨a, C, dx, gs, rfl, ha, c, hn, hl', ?_⟩
        have fw := Fw.write (H := H2) (o := .ins C dx (putF m u1 gs)) hm ha (fun _ _ z => nomatch z)
        exact k _ ads2 ((f1.trans f2).trans fw) (z2.write ia ⟨C, dx, _, hC2, upd_same, (hfs.fw fw).put (Is.fw (f2.trans fw) _ _ i1)⟩) _ (hs.fw ((f1.trans f2).trans fw))
      · cases hf
    · cases hf
  · cases hf

/-! ### what a loop walks -/
def ItOk (K : PySem.W.Frag) (H : Hp) (ads : List Addr) (J : It) (ds : List D) : Prop := ∀ H' ads', Fw H ads H' ads' →
  (∀ i d, ds[i]? = some d → J.go i H' ∧ ∀ x H'', J.yld i H' x H'' → H'' = H' ∧ Is K H' ads' d x) ∧ J.stop ds.length H'
def tOfI (P : Program) (w : World) (K : PySem.W.Frag) (it : TFA) : TI := fun σ H R => ∃ δ ads M ds M', Sl K H ads σ δ ∧ Rz P w K H ads M ∧ it δ M = some (ds, M') ∧
  ∀ J H' ads', Fw H ads H' ads' → Rz P w K H' ads' M' → ItOk K H' ads' J ds → R J H'
def PFI (X : Cx) (tg iter : Expr) (it : TFA) : Prop := PI X tg iter (tOfI X.prog X.w X.K it)
theorem pfi_of {tg iter : Expr} {wi : TI} {it : TFA} (h : PI X tg iter wi) (k : ∀ σ H R, tOfI X.prog X.w X.K it σ H R → wi σ H R) : PFI X tg iter it := ⟨fun pins s σ H R I hq => h.run pins s σ H R I (k σ H R hq)⟩
def iTupD (f : TF) : TFA := fun δ M => (f δ M).bind fun p => match p.1 with
  | .tup ds => some (ds, p.2)
  | _ => none
def iLstD (f : TF) : TFA := fun δ M => (f δ M).bind fun p => match p.1 with
  | .lst ds => some (ds, p.2)
  | _ => none
def strD (x : Str) : List D := x.cps.toList.map fun c => .str ⟨#[c]⟩
def iStrD (f : TF) : TFA := fun δ M => (f δ M).bind fun p => match p.1 with
  | .str x => some (strD x, p.2)
  | _ => none
def iRngD (f : TFA) : TFA := fun δ M => (f δ M).bind fun p => match p.1 with
  | [.int n] => if n.natAbs < 1000 then some ((List.range n.toNat).map fun i => .int (i : Nat), p.2) else none
  | _ => none
theorem sqT_one {K : PySem.W.Frag} {H : Hp} {a : Addr} {xs ys : List V} (h : H a = some (.tup xs)) (h' : Rd H a (.tup ys)) : xs = ys := by
  rcases h' with h' | ⟨o, h'⟩
  · rw [h] at h'; cases h'; rfl
  · rw [h] at h'; cases h'
theorem rd_one {H : Hp} {a : Addr} {xs ys : List V} (h : Rd H a (.tup xs)) (h' : Rd H a (.tup ys)) : xs = ys := by
  rcases h with h | ⟨o, h⟩
  · rcases h' with h' | ⟨o, h'⟩
    · rw [h] at h'; cases h'; rfl
    · rw [h] at h'; cases h'
  · rcases h' with h' | ⟨o, h'⟩
    · rw [h] at h'; cases h'
    · rw [h] at h'; cases h'; rfl
theorem rdl_one {H : Hp} {a : Addr} {xs ys : List V} (h : Rd H a (.lst xs)) (h' : Rd H a (.lst ys)) : xs = ys := by
  rcases h with h | ⟨o, h⟩
  · rcases h' with h' | ⟨o, h'⟩
    · rw [h] at h'; cases h'; rfl
    · rw [h] at h'; cases h'
  · rcases h' with h' | ⟨o, h'⟩
    · rw [h] at h'; cases h'
    · rw [h] at h'; cases h'; rfl
theorem itt_ok {K : PySem.W.Frag} {H : Hp} {ads : List Addr} {a : Addr} {vs : List V} {ds : List D} (t : TupAt K H ads a vs) (q : Iss K H ads ds vs) : ItOk K H ads (Itt K a) ds := fun H' ads' f => by
  have t' := t.fw f
  have q' := Iss.fw f _ _ q
  refine ⟨fun i d e => ?_, vs, t'.sq, by rw [q.length]; exact Nat.le_refl _⟩
  obtain ⟨v, e1, i1⟩ := q'.get e
  refine ⟨⟨vs, v, t'.sq, e1⟩, fun x H'' hy => ⟨hy.1, ?_⟩⟩
  have e2 := hy.2 vs t'.sq
  rw [e1] at e2
  cases e2
  exact i1
theorem itl_ok {K : PySem.W.Frag} {H : Hp} {ads : List Addr} {a : Addr} {vs : List V} {ds : List D} (t : LstAt H ads a vs) (q : Iss K H ads ds vs) : ItOk K H ads (Itl K a) ds := fun H' ads' f => by
  have t' := t.fw f
  have q' := Iss.fw f _ _ q
  refine ⟨fun i d e => ?_, vs, t'.sq, by rw [q.length]; exact Nat.le_refl _⟩
  obtain ⟨v, e1, i1⟩ := q'.get e
  refine ⟨⟨vs, v, t'.sq, e1⟩, fun x H'' hy => ⟨hy.1, ?_⟩⟩
  have e2 := hy.2 vs t'.sq
  rw [e1] at e2
  cases e2
  exact i1
variable {tg : Expr}
theorem pfi_tup (ha : PF X a fa) : PFI X tg a (iTupD fa) := pfi_of (pi_tup ha) fun σ H R ⟨δ, ads, M, ds, M', hs, hz, hf, k⟩ => by
  obtain ⟨⟨d1, M1⟩, e1, hf⟩ := bind_some hf
  dsimp only at hf
  split at hf
  · obtain ⟨rfl, rfl⟩ := spr hf
    refine ⟨δ, ads, M, _, _, hs, hz, e1, fun v H1 ads1 f1 z1 i1 => ?_⟩
    obtain ⟨l, vs, rfl, t, q⟩ := i1
    exact ⟨l, rfl, ⟨vs, t.sq⟩, k _ H1 ads1 f1 z1 (itt_ok t q)⟩
  · cases hf
theorem pfi_lst (ha : PF X a fa) : PFI X tg a (iLstD fa) := pfi_of (pi_list ha) fun σ H R ⟨δ, ads, M, ds, M', hs, hz, hf, k⟩ => by
  obtain ⟨⟨d1, M1⟩, e1, hf⟩ := bind_some hf
  dsimp only at hf
  split at hf
  · obtain ⟨rfl, rfl⟩ := spr hf
    refine ⟨δ, ads, M, _, _, hs, hz, e1, fun v H1 ads1 f1 z1 i1 => ?_⟩
    obtain ⟨l, vs, rfl, t, q⟩ := i1
    exact ⟨l, rfl, ⟨vs, t.sq⟩, k _ H1 ads1 f1 z1 (itl_ok t q)⟩
  · cases hf
theorem pfi_str (ha : PF X a fa) : PFI X tg a (iStrD fa) := pfi_of (pi_str ha) fun σ H R ⟨δ, ads, M, ds, M', hs, hz, hf, k⟩ => by
  obtain ⟨⟨d1, M1⟩, e1, hf⟩ := bind_some hf
  dsimp only at hf
  split at hf
  · rename_i x
    obtain ⟨rfl, rfl⟩ := spr hf
    refine ⟨δ, ads, M, _, _, hs, hz, e1, fun v H1 ads1 f1 z1 i1 => ?_⟩
    cases (show v = V.str _ from i1)
    refine ⟨x, rfl, k _ H1 ads1 f1 z1 fun H' ads' f => ⟨fun i d e => ?_, ?_⟩⟩
    · have hi : i < x.cps.size := by
        have := (List.getElem?_eq_some_iff.mp e).1
        simpa [strD] using this
      refine ⟨hi, fun y H'' hy => ⟨hy.1, ?_⟩⟩
      obtain ⟨c, e1, rfl⟩ := hy.2
      unfold strD at e
      rw [List.getElem?_map, Array.getElem?_toList, e1] at e
      cases e
      rfl
    · show x.cps.size ≤ (strD x).length
      unfold strD
      rw [List.length_map, Array.length_toList]
      exact Nat.le_refl _
  · cases hf
theorem pfi_range {fr : TFA} (hg : Gl X "range") (hm : X.mg "range" = none) (ha : PFA X [a] fr) (hs : starEach [a] X.env = [(false, eval a X.env)] := by rfl) : PFI X tg (.Call (.Name "range" p) [a] [] pos) (iRngD fr) := pfi_of (pi_range1 hg hm ha hs) fun σ H R ⟨δ, ads, M, ds, M', hs, hz, hf, k⟩ => by
  obtain ⟨⟨d1, M1⟩, e1, hf⟩ := bind_some hf
  dsimp only at hf
  split at hf
  · rename_i n
    split at hf
    · rename_i hn
      obtain ⟨rfl, rfl⟩ := spr hf
      refine ⟨δ, ads, M, _, _, hs, hz, e1, fun vs H1 ads1 f1 z1 i1 => ?_⟩
      obtain ⟨v, rfl, q⟩ := iss1 i1
      cases (show v = V.int _ from q)
      have e2 : (2 : Int) ^ 62 = 4611686018427387904 := by decide
      refine ⟨n, rfl, by rw [e2]; omega, by rw [e2]; omega, k _ H1 ads1 f1 z1 fun H' ads' f => ⟨fun i d e => ?_, ?_⟩⟩
      · have hi : i < n.toNat := by
          have := (List.getElem?_eq_some_iff.mp e).1
          simpa using this
        refine ⟨hi, fun y H'' hy => ⟨hy.1, ?_⟩⟩
        rw [List.getElem?_map, List.getElem?_range hi] at e
        cases e
        rw [hy.2, Int.zero_add]
        rfl
      · show n.toNat ≤ _
        rw [List.length_map, List.length_range]
        exact Nat.le_refl _
    · cases hf
  · cases hf

/-! ### targets of loops -/
abbrev TFG := D → List (Option D) → Option (List (Option D))
def LG (X : Cx) (t : TG) (g : TFG) : Prop := ∀ (H : Hp) (ads : List Addr) (d : D) (v : V) (σ : L2.St) (δ δ' : List (Option D)) (Q : L2.St → Hp → Prop), Is X.K H ads d v → Sl X.K H ads σ δ → g d δ = some δ' → (∀ σ', Sl X.K H ads σ' δ' → Q σ' H) → t v σ H Q
def gNm (i : Nat) : TFG := fun d δ => some (δ.set i (some d))
def gPr (i j : Nat) : TFG := fun d δ => match d with
  | .tup [c, e] => some ((δ.set i (some c)).set j (some e))
  | _ => none
theorem lg_name : LG X (gName i) (gNm i) := fun H ads d v σ δ δ' Q hd hs hg k => by
  cases hg
  exact k _ (hs.set hd)
theorem lg_pair {j : Nat} : LG X (gTup X.K 2 (gCons (gName i) (gCons (gName j) gNil))) (gPr i j) := fun H ads d v σ δ δ' Q hd hs hg k => by
  unfold gPr at hg
  split at hg
  · cases hg
    obtain ⟨l, vs, rfl, t, q⟩ := hd
    obtain ⟨u1, u2, rfl, q1, q2⟩ := iss2 q
    exact ⟨l, _, rfl, t.sq, rfl, u1, [u2], rfl, u2, [], rfl, rfl, k _ ((hs.set q1).set q2)⟩
  · cases hg

/-! ### for -/
def forD (g : TFG) (body : TFS) : List D → TFS
  | [], δ, M => some (.nx δ, M)
  | d :: r, δ, M => (g d δ).bind fun δ1 => (body δ1 M).bind fun p => match p.1 with
    | .nx δ2 => forD g body r δ2 p.2
    | .ct δ2 => forD g body r δ2 p.2
    | .bk δ2 => some (.nx δ2, p.2)
    | .rt c => some (.rt c, p.2)
def sFor (it : TFA) (g : TFG) (body : TFS) : TFS := fun δ M => (it δ M).bind fun p => forD g body p.1 δ p.2
theorem drop_cons {α : Type} {ds : List α} {i : Nat} (h : i < ds.length) : ds.drop i = ds[i] :: ds.drop (i + 1) := List.drop_eq_getElem_cons h
theorem for_lift {it : TFA} {tG : TG} {g : TFG} (hg : LG X tG g) : ∀ D' σ H, tOfS X.prog X.w X.K (sFor it g F) D' σ H → tFor (tOfI X.prog X.w X.K it) tG (tOfS X.prog X.w X.K F) D' σ H := fun D' σ H ⟨δ, ads, M, out, M', hs, hz, hf, k⟩ => by
  obtain ⟨⟨ds, M1⟩, e1, hf⟩ := bind_some hf
  refine ⟨δ, ads, M, ds, M1, hs, hz, e1, fun J H1 ads1 f1 z1 hJ => ?_⟩
  refine ⟨fun i m σ' H' => m = ds.length - i ∧ i ≤ ds.length ∧ ∃ δ' ads' M2, Sl X.K H' ads' σ' δ' ∧ Rz X.prog X.w X.K H' ads' M2 ∧ Fw H1 ads1 H' ads' ∧ forD g F (ds.drop i) δ' M2 = some (out, M'), ⟨ds.length, by simp, Nat.zero_le _, δ, ads1, M1, hs.fw f1, z1, Fw.refl _ _, by rw [List.drop_zero]; exact hf⟩, ?_⟩
  rintro i m σ' H' ⟨rfl, hi, δ', ads', M2, s', z', f', hf'⟩
  obtain ⟨hgo, hst⟩ := hJ H' ads' f'
  by_cases hlt : i < ds.length
  · refine .inr ⟨(hgo i _ (List.getElem?_eq_getElem hlt)).1, fun σ2 H2 => ds.length - (i + 1) = ds.length - (i + 1) ∧ i + 1 ≤ ds.length ∧ ∃ δ' ads' M2, Sl X.K H2 ads' σ2 δ' ∧ Rz X.prog X.w X.K H2 ads' M2 ∧ Fw H1 ads1 H2 ads' ∧ forD g F (ds.drop (i + 1)) δ' M2 = some (out, M'), fun σ2 H2 q => ⟨ds.length - (i + 1), by omega, q⟩, fun x H'' hy => ?_⟩
    obtain ⟨rfl, ix⟩ := (hgo i _ (List.getElem?_eq_getElem hlt)).2 x H'' hy
    rw [drop_cons hlt] at hf'
    obtain ⟨δ1, e2, hf'⟩ := bind_some hf'
    obtain ⟨⟨o2, M3⟩, e3, hf'⟩ := bind_some hf'
    refine hg H'' ads' _ x σ' δ' δ1 _ ix s' e2 fun σ2 s2 => ?_
    refine ⟨δ1, ads', M2, o2, M3, s2, z', e3, fun H3 ads3 f3 z3 => ?_⟩
    dsimp only at hf'
    cases o2 with
    | nx δ2 => exact fun σ3 s3 => ⟨rfl, hlt, δ2, ads3, M3, s3, z3, f'.trans f3, hf'⟩
    | ct δ2 => exact fun σ3 s3 => ⟨rfl, hlt, δ2, ads3, M3, s3, z3, f'.trans f3, hf'⟩
    | bk δ2 =>
      obtain ⟨rfl, rfl⟩ := spr hf'
      exact fun σ3 s3 => k H3 ads3 ((f1.trans f').trans f3) z3 σ3 s3
    | rt c =>
      obtain ⟨rfl, rfl⟩ := spr hf'
      exact fun v iv => k H3 ads3 ((f1.trans f').trans f3) z3 v iv
  · have e : i = ds.length := by omega
    subst e
    rw [List.drop_length] at hf'
    obtain ⟨rfl, rfl⟩ := spr hf'
    exact .inl ⟨hst, k H' ads' (f1.trans f') z' σ' s'⟩
theorem pfs_for {it : TFA} {tG : TG} {g : TFG} {iter : Expr} (hp : PassesOwn (model X.prog X.w) X.A X.env X.xe) (hc : X.calm = true) (hi : PFI X tg iter it) (ht : PG X tg tG) (hg : LG X tG g) (hb : PFSs X body F)
    (hs : ∀ x, foldedSetIterable iter X.env x = pure x := by intro _; rfl) : PFS X (.For tg iter body [] pos) (sFor it g F) := pfs_of (ps_for hp hc hi ht hb hs) (for_lift hg)

/-! ### while -/
def whileD (t : TFT) (body : TFS) : Nat → TFS
  | 0, _, _ => none
  | n + 1, δ, M => (t δ M).bind fun p => if p.1 = true then (body δ p.2).bind fun q => match q.1 with
      | .nx δ2 => whileD t body n δ2 q.2
      | .ct δ2 => whileD t body n δ2 q.2
      | .bk δ2 => some (.nx δ2, q.2)
      | .rt c => some (.rt c, q.2)
    else some (.nx δ, p.2)
open Classical in
/-- what the loop tells with some number of turns -/
noncomputable def sWhile (t : TFT) (body : TFS) : TFS := fun δ M => if h : ∃ n r, whileD t body n δ M = some r then some h.choose_spec.choose else none
theorem whileD_mono {t : TFT} {body : TFS} : ∀ (n k : Nat) (δ M r), whileD t body n δ M = some r → whileD t body (n + k) δ M = some r
  | 0, _, _, _, _, h => nomatch h
  | n + 1, k, δ, M, r, h => by
    rw [show n + 1 + k = (n + k) + 1 by omega]
    obtain ⟨⟨b, M1⟩, e1, h⟩ := bind_some h
    show ((t δ M).bind fun p => _) = _
    rw [e1]
    dsimp only [Option.bind] at h ⊢
    by_cases hb : b = true
    · rw [if_pos hb] at h ⊢
      obtain ⟨⟨o, M2⟩, e2, h⟩ := bind_some h
      rw [e2]
      dsimp only at h ⊢
      cases o with
      | nx δ2 => exact whileD_mono n k δ2 M2 r h
      | ct δ2 => exact whileD_mono n k δ2 M2 r h
      | bk δ2 => exact h
      | rt c => exact h
    · rw [if_neg hb] at h ⊢
      exact h
theorem whileD_one {t : TFT} {body : TFS} {n m : Nat} {δ M r r'} (h : whileD t body n δ M = some r) (h' : whileD t body m δ M = some r') : r = r' := by
  have a := whileD_mono n m δ M r h
  have b := whileD_mono m n δ M r' h'
  rw [Nat.add_comm] at b
  rw [a] at b
  exact Option.some.inj b
theorem sWhile_of {t : TFT} {body : TFS} {n : Nat} {δ M r} (h : whileD t body n δ M = some r) : sWhile t body δ M = some r := by
  have ex : ∃ n r, whileD t body n δ M = some r := ⟨n, r, h⟩
  unfold sWhile
  rw [dif_pos ex]
  exact congrArg some (whileD_one ex.choose_spec.choose_spec h)
theorem of_sWhile {t : TFT} {body : TFS} {δ M r} (h : sWhile t body δ M = some r) : ∃ n, whileD t body n δ M = some r := by
  unfold sWhile at h
  split at h
  · rename_i ex
    cases h
    exact ⟨_, ex.choose_spec.choose_spec⟩
  · cases h
theorem pfs_while {c : Expr} (hp : PassesOwn (model X.prog X.w) X.A X.env X.xe) (hc : PFT X c t) (hb : PFSs X body F) : PFS X (.While c body [] pos) (sWhile t F) := pfs_of (ps_while hp hc hb) fun D' σ H ⟨δ, ads, M, out, M', hs, hz, hf, k⟩ => by
  obtain ⟨n, hf⟩ := of_sWhile hf
  refine ⟨fun m σ' H' => ∃ δ' ads' M2, Sl X.K H' ads' σ' δ' ∧ Rz X.prog X.w X.K H' ads' M2 ∧ Fw H ads H' ads' ∧ whileD t F m δ' M2 = some (out, M'), ⟨n, δ, ads, M, hs, hz, Fw.refl _ _, hf⟩, ?_⟩
  rintro m σ' H' ⟨δ', ads', M2, s', z', f', hf'⟩
  cases m with
  | zero => cases hf'
  | succ m =>
    obtain ⟨⟨b, M3⟩, e1, hf'⟩ := bind_some hf'
    refine ⟨δ', ads', M2, b, M3, s', z', e1, fun H1 ads1 f1 z1 => ?_⟩
    dsimp only at hf'
    by_cases hb : b = true
    · rw [if_pos hb] at hf' ⊢
      obtain ⟨⟨o2, M4⟩, e2, hf'⟩ := bind_some hf'
      refine ⟨fun σ2 H2 => ∃ δ' ads' M2, Sl X.K H2 ads' σ2 δ' ∧ Rz X.prog X.w X.K H2 ads' M2 ∧ Fw H ads H2 ads' ∧ whileD t F m δ' M2 = some (out, M'), fun σ2 H2 q => ⟨m, Nat.lt_succ_self m, q⟩, ?_⟩
      refine ⟨δ', ads1, M3, o2, M4, s'.fw f1, z1, e2, fun H3 ads3 f3 z3 => ?_⟩
      dsimp only at hf'
      cases o2 with
      | nx δ2 => exact fun σ3 s3 => ⟨δ2, ads3, M4, s3, z3, (f'.trans f1).trans f3, hf'⟩
      | ct δ2 => exact fun σ3 s3 => ⟨δ2, ads3, M4, s3, z3, (f'.trans f1).trans f3, hf'⟩
      | bk δ2 =>
        obtain ⟨rfl, rfl⟩ := spr hf'
        exact fun σ3 s3 => k H3 ads3 ((f'.trans f1).trans f3) z3 σ3 s3
      | rt c =>
        obtain ⟨rfl, rfl⟩ := spr hf'
        exact fun v iv => k H3 ads3 ((f'.trans f1).trans f3) z3 v iv
    · rw [if_neg hb] at hf' ⊢
      obtain ⟨rfl, rfl⟩ := spr hf'
      exact k H1 ads1 (f'.trans f1) z1 σ' (s'.fw f1)
end
end DL
namespace DL
open PySem PySem.Spec PyProof.Rows L2

/-! ### list comprehensions: the new list is a mutable object -/
def lcD (j n0 : Nat) (t : TFT) (elt : TF) (δ : List (Option D)) : List D → List MO → Option (List MO)
  | [], M => some M
  | d :: r, M => (t (δ.set j (some d)) M).bind fun p => if p.1 = true then (elt (δ.set j (some d)) p.2).bind fun q => match q.2[n0]? with
      | some (.lst acc) => if acc.length < 100000 then lcD j n0 t elt δ r (q.2.set n0 (.lst (acc ++ [q.1]))) else none
      | _ => none
    else lcD j n0 t elt δ r p.2
def eLc (j : Nat) (it : TFA) (t : TFT) (elt : TF) : TF := fun δ M => (it δ M).bind fun p => (lcD j p.2.length t elt δ p.1 (p.2 ++ [.lst []])).map fun M' => (.obj p.2.length, M')
def tTrue : TFT := fun _ M => some (true, M)
def PFTs (X : Cx) (ifs : List Expr) (f : TFT) : Prop := PTs X ifs (tOfT X.prog X.w X.K f)
section
variable {X : Cx} {tg iter elt e a b o : Expr} {ifs : List Expr} {scope : Scope} {own : List (Str × Nat)} {pos p apos cpos : Pos} {it : TFA} {t : TFT} {f fa fb fo : TF} {j : Nat} {x : Str}
theorem pfts_nil : PFTs X [] tTrue := ⟨fun pins s σ H Q I hq => pts_nil.run pins s σ H Q I (by
  obtain ⟨δ, ads, M, b, M', hs, hz, hf, k⟩ := hq
  obtain ⟨rfl, rfl⟩ := spr hf
  exact k H ads (Fw.refl H ads) hz)⟩
theorem pfts_one {c : Expr} (h : PFT X c t) : PFTs X [c] t := pts_one h
theorem wipe1 {σ : L2.St} {x : V} : wipe ((wipe σ [j]).set j (some x)) [j] = wipe σ [j] := by
  show ((σ.set j none).set j (some x)).set j none = σ.set j none
  rw [List.set_set, List.set_set]
theorem lc_lift : ∀ σ H Q, tOf X.prog X.w X.K (eLc j it t f) σ H Q → tLc (tOfI X.prog X.w X.K it) (gName j) (tOfT X.prog X.w X.K t) (tOf X.prog X.w X.K f) [j] σ H Q := fun σ H Q ⟨δ, ads, M, d, M', hs, hz, hf, k⟩ => by
  obtain ⟨⟨ds, M1⟩, e1, hf⟩ := bind_some hf
  obtain ⟨MF, e2, hf⟩ := map_some hf
  obtain ⟨rfl, rfl⟩ := pr hf
  refine ⟨δ, ads, M, ds, M1, hs, hz, e1, fun J H1 ads1 f1 z1 hJ L hL => ?_⟩
  dsimp only at e2 k
  have hs1 := hs.fw f1
  have hn0 : (ads1 ++ [L])[M1.length]? = some L := by rw [← z1.len, List.getElem?_append_right (Nat.le_refl _), Nat.sub_self]; rfl
  have z2 : Rz X.prog X.w X.K (upd H1 L (.lst [])) (ads1 ++ [L]) (M1 ++ [.lst []]) := z1.push hL ⟨[], upd_same, rfl⟩
  refine ⟨fun i m H' => m = ds.length - i ∧ i ≤ ds.length ∧ ∃ ads' M2, Rz X.prog X.w X.K H' ads' M2 ∧ Fw H1 ads1 H' ads' ∧ ads'[M1.length]? = some L ∧ lcD j M1.length t f δ (ds.drop i) M2 = some MF, ⟨ds.length, by simp, Nat.zero_le _, _, _, z2, Fw.push hL, hn0, by rw [List.drop_zero]; exact e2⟩, ?_⟩
  rintro i m H' ⟨rfl, hi, ads', M2, z', f', hn', hf'⟩
  obtain ⟨hgo, hst⟩ := hJ H' ads' f'
  by_cases hlt : i < ds.length
  · refine .inr ⟨(hgo i _ (List.getElem?_eq_getElem hlt)).1, fun H2 => ds.length - (i + 1) = ds.length - (i + 1) ∧ i + 1 ≤ ds.length ∧ ∃ ads' M2, Rz X.prog X.w X.K H2 ads' M2 ∧ Fw H1 ads1 H2 ads' ∧ ads'[M1.length]? = some L ∧ lcD j M1.length t f δ (ds.drop (i + 1)) M2 = some MF, fun H2 q => ⟨ds.length - (i + 1), by omega, q⟩, fun x H'' hy => ?_⟩
    obtain ⟨rfl, ix⟩ := (hgo i _ (List.getElem?_eq_getElem hlt)).2 x H'' hy
    rw [drop_cons hlt] at hf'
    obtain ⟨⟨b, M3⟩, e3, hf'⟩ := bind_some hf'
    have sw : Sl X.K H'' ads' ((wipe σ [j]).set j (some x)) (δ.set j (some ds[i])) := by
      have q := (hs1.fw f').set (i := j) ix
      have e : (wipe σ [j]).set j (some x) = σ.set j (some x) := by
        show (σ.set j none).set j (some x) = σ.set j (some x)
        rw [List.set_set]
      rw [e]; exact q
    refine ⟨wipe1, ?_⟩
    refine ⟨_, ads', M2, b, M3, sw, z', e3, fun H3 ads3 f3 z3 => ?_⟩
    dsimp only at hf'
    by_cases hb : b = true
    · rw [if_pos hb] at hf' ⊢
      obtain ⟨⟨c, M4⟩, e4, hf'⟩ := bind_some hf'
      dsimp only at hf'
      split at hf'
      · rename_i acc e5
        split at hf'
        · rename_i hl
          refine ⟨_, ads3, M3, c, M4, sw.fw f3, z3, e4, fun y H4 ads4 f4 z4 i4 => ?_⟩
          have hn4 := f4.get (f3.get hn')
          obtain ⟨vs, h1, h2⟩ := z4.ok _ L _ hn4 e5
          have hm := List.mem_of_getElem? hn4
          have fw := Fw.write (o := .lst (vs ++ [y])) hm h1 (fun _ _ z => nomatch z)
          refine ⟨vs, h1, by rw [h2.length]; exact Nat.lt_of_lt_of_le hl (by decide), rfl, hlt, ads4, _, z4.write (o := .lst (acc ++ [c])) hn4 ⟨_, upd_same, (Iss.fw fw _ _ h2).append (Iss.one (Is.fw fw _ _ i4))⟩, ((f'.trans f3).trans f4).trans fw, hn4, hf'⟩
        · cases hf'
      · cases hf'
    · rw [if_neg hb] at hf' ⊢
      exact ⟨rfl, hlt, ads3, M3, z3, f'.trans f3, f3.get hn', hf'⟩
  · have e : i = ds.length := by omega
    subst e
    rw [List.drop_length] at hf'
    cases hf'
    exact .inl ⟨hst, k _ H' ads' (f1.trans f') z' ⟨L, rfl, hn'⟩⟩
theorem pf_lc {scope : Scope} (own : List (Str × Nat)) (ho : own.map (·.2) = [j]) (hc : X.calm = true) (hN : X.N.Nodup) (hi : PFI X tg iter it) (ok : BlkOk X.N X.env.scope scope own)
    (hg : ∀ (s : Shared) (H : Hp) (C : Addr) (cl : List (Str × Addr)) (fp : List Addr), PG (X.blk s H scope (compEnvC scope cl C X.env) fp) tg (gName j)) (ht : ∀ (s : Shared) (H : Hp) (C : Addr) (cl : List (Str × Addr)) (fp : List Addr), PFTs (X.blk s H scope (compEnvC scope cl C X.env) fp) ifs t)
    (he : ∀ (s : Shared) (H : Hp) (C : Addr) (cl : List (Str × Addr)) (fp : List Addr), PF (X.blk s H scope (compEnvC scope cl C X.env) fp) elt f) (hs : ∀ x, foldedSetIterable iter X.env x = pure x := by intro _; rfl) :
    PF X (.ListComp elt [⟨tg, iter, ifs, 0⟩] scope pos) (eLc j it t f) := by
  have h := pe_lc (pos := pos) (tt := tOfT X.prog X.w X.K t) (te := tOf X.prog X.w X.K f) hc hN hi ok hg ht he hs
  rw [ho] at h
  exact pf_of h lc_lift
theorem pfs_setLc {i : Nat} {y : Str} {py spos : Pos} {scope : Scope} (own : List (Str × Nat)) (ho : own.map (·.2) = [j]) (hc : X.calm = true) (hN : X.N.Nodup) (hy : X.N[i]? = some y) (hyl : X.env.scope.names.lookup y = some .local)
    (hsw : swapsWith (.ListComp elt [⟨tg, iter, ifs, 0⟩] scope pos) (some (.Name y py)) spos.line X.env = pure true) (hi : PFI X tg iter it) (ok : BlkOk X.N X.env.scope scope own)
    (hg : ∀ (s : Shared) (H : Hp) (C : Addr) (cl : List (Str × Addr)) (fp : List Addr), PG (X.blk s H scope (compEnvC scope cl C X.env) fp) tg (gName j)) (ht : ∀ (s : Shared) (H : Hp) (C : Addr) (cl : List (Str × Addr)) (fp : List Addr), PFTs (X.blk s H scope (compEnvC scope cl C X.env) fp) ifs t)
    (he : ∀ (s : Shared) (H : Hp) (C : Addr) (cl : List (Str × Addr)) (fp : List Addr), PF (X.blk s H scope (compEnvC scope cl C X.env) fp) elt f) (hs : ∀ x, foldedSetIterable iter X.env x = pure x := by intro _; rfl) :
    PFS X (.Assign [.Name y py] (.ListComp elt [⟨tg, iter, ifs, 0⟩] scope pos) spos) (sSet i (eLc j it t f)) := by
  have h := ps_setLc (tt := tOfT X.prog X.w X.K t) (te := tOf X.prog X.w X.K f) (pos := pos) (spos := spos) (py := py) hc hN hy hyl hsw hi ok hg ht he hs
  rw [ho] at h
  refine pfs_of h fun D' σ H ⟨δ, ads, M, out, M', hs, hz, hf, k⟩ => ?_
  obtain ⟨⟨d1, M1⟩, e1, hf⟩ := map_some hf
  obtain ⟨rfl, rfl⟩ := pr hf
  exact lc_lift σ H _ ⟨δ, ads, M, d1, _, hs, hz, e1, fun v H1 ads1 f1 z1 i1 => k H1 ads1 f1 z1 _ ((hs.fw f1).set i1)⟩

/-! ### a def, by its body -/
def stD (N : Nat) (ds : List D) : List (Option D) := ds.map some ++ List.replicate (N - ds.length) none
def runF (N : Nat) (fb : TFS) : TFn := fun ds M => (fb (stD N ds) M).bind fun p => match p.1 with
  | .rt d => some (d, p.2)
  | .nx _ => some (.non, p.2)
  | _ => none
theorem sl_start {K : PySem.W.Frag} {H : Hp} {ads : List Addr} {N : List Str} {ds : List D} {vs : List V} (i : Iss K H ads ds vs) : Sl K H ads (L2.start N vs) (stD N.length ds) := by
  refine ⟨by simp [stD, L2.start, i.length], fun n d e => ?_⟩
  unfold stD at e
  unfold L2.start
  by_cases hn : n < ds.length
  · rw [List.getElem?_append_left (by simpa using hn), List.getElem?_map] at e
    rw [List.getElem?_append_left (by simpa [i.length] using hn), List.getElem?_map]
    cases q : ds[n]? with
    | none => rw [q] at e; cases e
    | some c =>
      rw [q] at e; cases e
      obtain ⟨v, h1, h2⟩ := i.get q
      exact ⟨v, by rw [h1]; rfl, h2⟩
  · rw [List.getElem?_append_right (by simpa using hn), List.getElem?_replicate] at e
    split at e <;> cases e
theorem okF {P : Program} {w : World} {K : PySem.W.Frag} {mg : Str → Option Value} {base : Heap} {x qual : Str} {st : Stmt} {f₀ : Addr} {fd : FuncData} {N ps : List Str} {k : Nat} {fb : TFS} (F : Fun K x qual st f₀ fd) (S : FnScope N ps (defScope st))
    (hb : ∀ (cdv : Value) (A : Around) (outer : List Env) (s : Shared) (H : Hp) (E : XK), Room k (A.deeper (envOfC qual (defScope st) s.heap.objs.size f₀ cdv)) → PFSs (cxOf CX0 P w K mg base N qual (defScope st) f₀ cdv A outer s H E).nox (defBody st) fb) :
    FnOk P w K mg base CX0 (k + 1) f₀ fd ps (spF P w K ps.length (runF N.length fb)) := by
  refine F.ok S (fun vs H Q E h => h.1) fun cdv A outer s H vs Q E hr h => ?_
  obtain ⟨hl, ads, M, ds, d, M', z, i, hf, kk⟩ := h
  obtain ⟨⟨out, M1⟩, e1, hf⟩ := bind_some hf
  refine ⟨_, hb cdv A outer s H E hr, stD N.length ds, ads, M, out, M1, sl_start i, z, e1, fun H' ads' f' z' => ?_⟩
  dsimp only at hf
  cases out with
  | rt c =>
    obtain ⟨rfl, rfl⟩ := spr hf
    exact fun v iv => kk v H' ads' f' z' iv
  | nx δ =>
    obtain ⟨rfl, rfl⟩ := spr hf
    exact fun σ' _ => kk _ H' ads' f' z' rfl
  | bk δ => cases hf
  | ct δ => cases hf

/-! ### methods of lists -/
/-- what is at l must be a list ahead of the argument, too -/
def isLst (d : D) (M : List MO) : Bool := match d with
  | .obj l => match M[l]? with
    | some (.lst _) => true
    | _ => false
  | _ => false
def eApp' (fo fa : TF) : TF := fun δ M => (fo δ M).bind fun p => if isLst p.1 p.2 = true then (fa δ p.2).bind fun q => match p.1 with
    | .obj l => match q.2[l]? with
      | some (.lst ds) => if ds.length < 100000 then some (.non, q.2.set l (.lst (ds ++ [q.1]))) else none
      | _ => none
    | _ => none
  else none
theorem is_lst_of {P : Program} {w : World} {K : PySem.W.Frag} {H : Hp} {ads : List Addr} {M : List MO} {d : D} {v : V} (z : Rz P w K H ads M) (i : Is K H ads d v) (h : isLst d M = true) : tyV K "list" v H := by
  unfold isLst at h
  split at h
  · split at h
    · rename_i l _ ds e
      obtain ⟨a, vs, rfl, _, hH, _⟩ := obj_lst z i e
      exact Or.inl ⟨rfl, _, Or.inl (Or.inl hH)⟩
    · cases h
  · cases h
theorem pf_app (ho : PF X o fo) (ha : PF X a fa)
    (hbase : attributeBase o "append" X.env (eval o X.env) = eval o X.env := by rfl)
    (hfew : ((backTo cpos (starEach [a] X.env)).all (fun x => !x.1) && (backToKw cpos (keywordEach [] X.env)).all (fun x => x.1.isSome)
      && decide (([a] : List Expr).length + ([] : List Keyword).length + (if ([] : List Keyword).isEmpty then 0 else 1) < 30)) = true := by rfl)
    (hline : (apos.endLine == cpos.line) = true := by rfl) (hs : starEach [a] X.env = (false, eval a X.env) :: starEach [] X.env := by rfl) (hplain : (backTo cpos (starEach [] X.env)).any (·.1) = false := by rfl) :
    PF X (.Call (.Attribute o "append" apos) [a] [] cpos) (eApp' fo fa) := pf_of (pe_bm PySem.F.plainAttrs_list PySem.F.slot_list_append PySem.F.type_list_append mt_append ho (pa_cons ha pa_nil hs) hbase hfew hline hs hplain) fun σ H Q ⟨δ, ads, M, d, M', hs, hz, hf, k⟩ => by
  obtain ⟨⟨d1, M1⟩, e1, hf⟩ := bind_some hf
  dsimp only at hf
  split at hf
  · rename_i hL
    obtain ⟨⟨d2, M2⟩, e2, hf⟩ := bind_some hf
    dsimp only at hf
    split at hf
    · rename_i l
      split at hf
      · rename_i ds e3
        split at hf
        · rename_i hl
          obtain ⟨rfl, rfl⟩ := spr hf
          refine ⟨δ, ads, M, _, M1, hs, hz, e1, fun v1 H1 ads1 f1 z1 i1 => ⟨is_lst_of z1 i1 hL, ?_⟩⟩
          refine ⟨δ, ads1, M1, d2, M2, hs.fw f1, z1, e2, fun v2 H2 ads2 f2 z2 i2 => ?_⟩
          obtain ⟨p, vs, rfl, hp, hH, q⟩ := obj_lst z2 (Is.fw f2 _ _ i1) e3
          have hm := List.mem_of_getElem? hp
          have fw := Fw.write (o := .lst (vs ++ [v2])) hm hH (fun _ _ z => nomatch z)
          refine ⟨p, vs, v2, rfl, rfl, hH, by rw [q.length]; exact Nat.lt_of_lt_of_le hl (by decide), ?_⟩
          exact k _ _ ads2 ((f1.trans f2).trans fw) (z2.write hp ⟨_, upd_same, (Iss.fw fw _ _ q).append (Iss.one (Is.fw fw _ _ i2))⟩) rfl
        · cases hf
      · cases hf
    · cases hf
  · cases hf
def eExt (fo fa : TF) : TF := fun δ M => (fo δ M).bind fun p => if isLst p.1 p.2 = true then (fa δ p.2).bind fun q => match p.1, q.1 with
    | .obj l, .obj n => match q.2[l]?, q.2[n]? with
      | some (.lst ds), some (.lst es) => if ds.length + es.length ≤ 100000 then some (.non, q.2.set l (.lst (ds ++ es))) else none
      | _, _ => none
    | _, _ => none
  else none
theorem pf_ext (ho : PF X o fo) (ha : PF X a fa)
    (hbase : attributeBase o "extend" X.env (eval o X.env) = eval o X.env := by rfl)
    (hfew : ((backTo cpos (starEach [a] X.env)).all (fun x => !x.1) && (backToKw cpos (keywordEach [] X.env)).all (fun x => x.1.isSome)
      && decide (([a] : List Expr).length + ([] : List Keyword).length + (if ([] : List Keyword).isEmpty then 0 else 1) < 30)) = true := by rfl)
    (hline : (apos.endLine == cpos.line) = true := by rfl) (hs : starEach [a] X.env = (false, eval a X.env) :: starEach [] X.env := by rfl) (hplain : (backTo cpos (starEach [] X.env)).any (·.1) = false := by rfl) :
    PF X (.Call (.Attribute o "extend" apos) [a] [] cpos) (eExt fo fa) := pf_of (pe_bm PySem.F.plainAttrs_list PySem.F.slot_list_extend PySem.F.type_list_extend mt_extend ho (pa_cons ha pa_nil hs) hbase hfew hline hs hplain) fun σ H Q ⟨δ, ads, M, d, M', hs, hz, hf, k⟩ => by
  obtain ⟨⟨d1, M1⟩, e1, hf⟩ := bind_some hf
  dsimp only at hf
  split at hf
  · rename_i hL
    obtain ⟨⟨d2, M2⟩, e2, hf⟩ := bind_some hf
    dsimp only at hf
    split at hf
    · rename_i l n
      split at hf
      · rename_i ds es e3 e4
        split at hf
        · rename_i hl
          obtain ⟨rfl, rfl⟩ := spr hf
          refine ⟨δ, ads, M, _, M1, hs, hz, e1, fun v1 H1 ads1 f1 z1 i1 => ⟨is_lst_of z1 i1 hL, ?_⟩⟩
          refine ⟨δ, ads1, M1, _, M2, hs.fw f1, z1, e2, fun v2 H2 ads2 f2 z2 i2 => ?_⟩
          obtain ⟨p, vs, rfl, hp, hH, q⟩ := obj_lst z2 (Is.fw f2 _ _ i1) e3
          obtain ⟨p', us, rfl, hp', hH', q'⟩ := obj_lst z2 i2 e4
          have hm := List.mem_of_getElem? hp
          have fw := Fw.write (o := .lst (vs ++ us)) hm hH (fun _ _ z => nomatch z)
          refine ⟨p, p', vs, us, rfl, rfl, hH, hH', by rw [q.length, q'.length]; exact big_line hl, ?_⟩
          exact k _ _ ads2 ((f1.trans f2).trans fw) (z2.write hp ⟨_, upd_same, (Iss.fw fw _ _ q).append (Iss.fw fw _ _ q')⟩) rfl
        · cases hf
      · cases hf
    · cases hf
  · cases hf
end
end DL
namespace DL
open PySem PySem.Spec PyProof.Rows L2

/-! ### dicts with nested keys -/
def valD {κ : Type} [DecidableEq κ] (kvs : List (κ × D)) (k : κ) : Option D := (kvs.find? fun p => decide (p.1 = k)).map (·.2)
def putN {κ : Type} [DecidableEq κ] (kvs : List (κ × D)) (k : κ) (d : D) : List (κ × D) := if (valD kvs k).isSome = true then kvs.map (fun p => if p.1 = k then (p.1, d) else p) else kvs ++ [(k, d)]
theorem valD_pos {κ : Type} [DecidableEq κ] {p : κ × D} {r : List (κ × D)} {k : κ} (e : p.1 = k) : valD (p :: r) k = some p.2 := by simp [valD, List.find?_cons, e]
theorem valD_neg {κ : Type} [DecidableEq κ] {p : κ × D} {r : List (κ × D)} {k : κ} (e : ¬ p.1 = k) : valD (p :: r) k = valD r k := by simp [valD, List.find?_cons, e]
theorem atKey_pos {κ : Type} [DecidableEq κ] {p : κ × Addr × Value} {r : List (κ × Addr × Value)} {k : κ} (e : p.1 = k) : atKey (p :: r) k = some p.2 := by simp [atKey, List.find?_cons, e]
theorem atKey_neg {κ : Type} [DecidableEq κ] {p : κ × Addr × Value} {r : List (κ × Addr × Value)} {k : κ} (e : ¬ p.1 = k) : atKey (p :: r) k = atKey r k := by simp [atKey, List.find?_cons, e]
section
variable {K : PySem.W.Frag} {H : Hp} {ads : List Addr}
theorem nds_val {k : NestedKey} : ∀ {kvs : List (NestedKey × D)} {xs : List (NestedKey × Addr × Value)}, NDs K H ads kvs xs → (valD kvs k = none → atKey xs k = none) ∧ ∀ c, valD kvs k = some c → ∃ a u v, atKey xs k = some (a, u) ∧ RelV v u ∧ Is K H ads c v
  | [], _, h => by
    cases h
    exact ⟨fun _ => rfl, fun c h => by cases h⟩
  | p :: kvs, _, h => by
    cases h with
    | @cons _ x _ xs h1 h2 =>
      obtain ⟨e, _, _, v, r, i⟩ := h1
      have ih := nds_val (k := k) h2
      by_cases hk : p.1 = k
      · have e1 : valD (p :: kvs) k = some p.2 := valD_pos hk
        have e2 : atKey (x :: xs) k = some x.2 := atKey_pos (by rw [← e]; exact hk)
        rw [e1, e2]
        exact ⟨fun z => (nomatch z), fun c z => by cases z; exact ⟨_, _, v, rfl, r, i⟩⟩
      · have e1 : valD (p :: kvs) k = valD kvs k := valD_neg hk
        have e2 : atKey (x :: xs) k = atKey xs k := atKey_neg (by rw [← e]; exact hk)
        rw [e1, e2]
        exact ih
theorem nds_isSome {k : NestedKey} {kvs : List (NestedKey × D)} {xs : List (NestedKey × Addr × Value)} (h : NDs K H ads kvs xs) : (atKey xs k).isSome = (valD kvs k).isSome := by
  have q := nds_val (k := k) h
  cases e : valD kvs k with
  | none => rw [q.1 e]; rfl
  | some c => obtain ⟨a, u, v, e2, _⟩ := q.2 c e; rw [e2]; rfl
theorem nds_map {k : NestedKey} {c : D} {v : V} {u : Value} (r : RelV v u) (i : Is K H ads c v) : ∀ {kvs : List (NestedKey × D)} {xs : List (NestedKey × Addr × Value)}, NDs K H ads kvs xs → NDs K H ads (kvs.map fun p => if p.1 = k then (p.1, c) else p) (xs.map (putAt k u))
  | [], _, h => by cases h; exact .nil
  | p :: kvs, _, h => by
    cases h with
    | @cons _ x _ xs h1 h2 =>
      refine .cons ?_ (nds_map r i h2)
      obtain ⟨e, d, q, v', r', i'⟩ := h1
      show NDr K H ads (if p.1 = k then (p.1, c) else p) (if x.1 = k then (x.1, x.2.1, u) else x)
      by_cases hk : p.1 = k
      · rw [if_pos hk, if_pos (by rw [← e]; exact hk)]
        exact ⟨e, d, q, v, r, i⟩
      · rw [if_neg hk, if_neg (by rw [← e]; exact hk)]
        exact ⟨e, d, q, v', r', i'⟩
theorem nds_put {k : NestedKey} {c : D} {v : V} {u : Value} {a : Addr} (hk : k.depth ≤ 8) (ik : Is K H ads (kd k) (.ref a)) (r : RelV v u) (i : Is K H ads c v) {kvs : List (NestedKey × D)} {xs : List (NestedKey × Addr × Value)} (h : NDs K H ads kvs xs) : NDs K H ads (putN kvs k c) (storedH xs k a u) := by
  unfold putN storedH
  rw [nds_isSome h]
  by_cases hs : (valD kvs k).isSome = true
  · rw [if_pos hs, if_pos hs]
    exact nds_map r i h
  · rw [if_neg hs, if_neg hs]
    have app : ∀ {kvs : List (NestedKey × D)} {xs : List (NestedKey × Addr × Value)}, NDs K H ads kvs xs → NDs K H ads (kvs ++ [(k, c)]) (xs ++ [(k, a, u)]) := by
      intro kvs xs h
      induction h with
      | nil => exact .cons ⟨rfl, hk, ik, v, r, i⟩ .nil
      | cons h1 _ ih => exact .cons h1 ih
    exact app h
theorem putN_length {κ : Type} [DecidableEq κ] (kvs : List (κ × D)) (k : κ) (d : D) : (putN kvs k d).length ≤ kvs.length + 1 := by
  unfold putN
  split
  · simp
  · simp
theorem nds_length {kvs : List (NestedKey × D)} {xs : List (NestedKey × Addr × Value)} (h : NDs K H ads kvs xs) : kvs.length = xs.length := Paired.length h
end
/-- the dict at d is read -/
def NDRd (P : Program) (w : World) (H : Hp) (d : Addr) (xs : List (NestedKey × Addr × Value)) : Prop := H d = some (NDo P w d xs) ∨ ∃ od, H d = some (.frz od (NDo P w d xs))
section
variable {X : Cx} {pins : List (Addr × Obj)} {σ : L2.St} {H : Hp} {s : Shared} {ads : List Addr} {d : Addr} {kvs : List (NestedKey × D)} {xs : List (NestedKey × Addr × Value)}
theorem nd_raw (I : Inv X pins σ H s) (h : NDRd X.prog X.w H d xs) : NDp X.prog X.w d xs s.heap := by
  rcases h with h | ⟨od, h⟩
  · exact (show NDp X.prog X.w d xs s.heap ∧ _ from I.hok d _ h).1
  · exact (show s.heap.get? d = some od ∧ (NDp X.prog X.w d xs s.heap ∧ _) from I.hok d _ h).2.1
theorem nd_dict (I : Inv X pins σ H s) (h : NDRd X.prog X.w H d xs) (q : NDs X.K H ads kvs xs) : s.heap.DictOfH (nestedKind X.prog X.w) d xs := by
  obtain ⟨o, es, ep, h1, h2, h3, h4, h5⟩ := nd_raw I h
  refine ⟨o, es, ep, h1, h2, h3, h4, ?_, h5⟩
  have all : ∀ {kvs : List (NestedKey × D)} {xs : List (NestedKey × Addr × Value)}, NDs X.K H ads kvs xs → ∀ x ∈ xs, (nestedKind X.prog X.w).is s.heap x.1 x.2.1 := by
    intro kvs xs h
    induction h with
    | nil => intro x hx; cases hx
    | cons h1 _ ih =>
      intro x hx
      rcases List.mem_cons.mp hx with rfl | hx
      · obtain ⟨e, dd, ik, _⟩ := h1
        rw [← e]
        exact ⟨Is.nested I _ _ _ ik rfl, dd⟩
      · exact ih x hx
  exact all q
theorem nd_key (I : Inv X pins σ H s) {k : NestedKey} {a : Addr} (hk : k.depth ≤ 8) (ik : Is X.K H ads (kd k) (.ref a)) : (nestedKind X.prog X.w).is s.heap k a := ⟨Is.nested I _ _ _ ik rfl, hk⟩
end
/-- a key as a value -/
def keyD (d : D) : Option NestedKey := match d with
  | .tup ds => (D.nk (.tup ds)).bind fun k => if k.depth ≤ 8 then some k else none
  | _ => none
theorem keyD_is {K : PySem.W.Frag} {H : Hp} {ads : List Addr} {d : D} {k : NestedKey} {v : V} (h : keyD d = some k) (i : Is K H ads d v) : k.depth ≤ 8 ∧ ∃ a, v = .ref a ∧ Is K H ads (kd k) (.ref a) := by
  unfold keyD at h
  split at h
  · obtain ⟨k', e, h⟩ := bind_some h
    split at h
    · rename_i hd
      cases h
      have i' := i
      obtain ⟨a, vs, rfl, _⟩ := i'
      exact ⟨hd, a, rfl, by rw [nk_kd _ _ e]; exact i⟩
    · cases h
  · cases h
def dctOf (d : D) (M : List MO) : Option (List (NestedKey × D)) := match d with
  | .obj l => match M[l]? with
    | some (.dct kvs) => some kvs
    | some (.dfz kvs) => some kvs
    | _ => none
  | _ => none
theorem dct_is {P : Program} {w : World} {K : PySem.W.Frag} {H : Hp} {ads : List Addr} {M : List MO} {d : D} {v : V} {kvs : List (NestedKey × D)} (z : Rz P w K H ads M) (i : Is K H ads d v) (h : dctOf d M = some kvs) :
    ∃ a xs, v = .ref a ∧ (a == sysModules) = false ∧ NDRd P w H a xs ∧ NDs K H ads kvs xs := by
  unfold dctOf at h
  split at h
  · rename_i l
    obtain ⟨a, rfl, ia⟩ := i
    split at h
    · rename_i kvs' e
      cases h
      obtain ⟨h1, h2, xs, h3, h4⟩ := z.ok l a _ ia e
      exact ⟨a, xs, rfl, h1, .inl h3, h4⟩
    · rename_i kvs' e
      cases h
      obtain ⟨h1, h2, od, xs, h3, h4⟩ := z.ok l a _ ia e
      exact ⟨a, xs, rfl, h1, .inr ⟨od, h3⟩, h4⟩
    · cases h
  · cases h
section
variable {X : Cx} {tg a b e o i v : Expr} {pos p apos cpos pos' : Pos} {f fa fb fo fi fv : TF} {x : Str}
/-- {} -/
def eDctN : TF := fun _ M => some (.obj M.length, M ++ [.dct []])
def eDctI : TF := fun _ M => some (.obj M.length, M ++ [.dint []])
def tDNewN (P : Program) (w : World) : TE := fun _ H Q => ∀ p, H p = none → (p == sysModules) = false → Q (.ref p) (upd H p (NDo P w p []))
theorem pe_dnewN : PE X (.Dict [] [] pos) (tDNewN X.prog X.w) := ⟨fun pins s σ H Q I h => by
  have hm : (s.heap.objs.size == sysModules) = false := beq_eq_false_iff_ne.mpr (Ne.symm (Nat.ne_of_lt I.big))
  refine wpAny_Dict_empty ⟨.ref s.heap.objs.size, _, I.laid (a := s.heap.objs.size) (o := NDo X.prog X.w s.heap.objs.size []) (t' := s.toks) (fun _ _ q => Heap.get?_push_of_some _ q) (Nat.le_refl _) ?_, rfl, h _ (I.hok.fresh (Nat.le_refl _)) hm⟩
  refine ⟨⟨_, #[], 0, Heap.get?_push_size _ rfl, ⟨rfl, rfl, rfl⟩, rfl, rfl, List.nodup_nil⟩, ⟨_, Heap.get?_push_size _ rfl⟩, fun h1 h2 q k => ?_⟩
  obtain ⟨o, es, ep, e, r⟩ := q
  exact ⟨o, es, ep, k o e, r⟩⟩
theorem pf_dctN : PF X (.Dict [] [] pos) eDctN := pf_of pe_dnewN fun σ H Q ⟨δ, ads, M, d, M', hs, hz, hf, k⟩ => by
  obtain ⟨rfl, rfl⟩ := spr hf
  intro p hp hm
  refine k _ _ (ads ++ [p]) (Fw.push hp) (hz.push hp ⟨hm, Nat.zero_le _, [], upd_same, .nil⟩) ⟨p, rfl, ?_⟩
  rw [← hz.len, List.getElem?_append_right (Nat.le_refl _), Nat.sub_self]; rfl
theorem pf_dctI : PF X (.Dict [] [] pos) eDctI := pf_of pe_dnewK fun σ H Q ⟨δ, ads, M, d, M', hs, hz, hf, k⟩ => by
  obtain ⟨rfl, rfl⟩ := spr hf
  intro p hp
  refine k _ _ (ads ++ [p]) (Fw.push hp) (hz.push hp ⟨[], upd_same, .nil⟩) ⟨p, rfl, ?_⟩
  rw [← hz.len, List.getElem?_append_right (Nat.le_refl _), Nat.sub_self]; rfl
/-- k in d, k not in d -/
def rNDin (P : Program) (w : World) (K : PySem.W.Frag) (neg : Bool) : R2 := fun y x H Q => ∃ (ads : List Addr) (k : NestedKey) (a d : Addr) (kvs : List (NestedKey × D)) (xs : List (NestedKey × Addr × Value)), y = .ref a ∧ x = .ref d ∧ (d == sysModules) = false ∧ NDRd P w H d xs ∧ NDs K H ads kvs xs ∧
  k.depth ≤ 8 ∧ Is K H ads (kd k) (.ref a) ∧ Q (.bl (if neg then !(valD kvs k).isSome else (valD kvs k).isSome)) H
theorem op_ndin (hu : X.A.units + 9 < cLine) : OpR X (compareOp .In) (rNDin X.prog X.w X.K false) := by
  intro pins s σ H y x u v Q I ry rx h
  obtain ⟨ads, k, a, d, kvs, xs, rfl, rfl, hm, hr, hn, hk, ik, q⟩ := h
  cases ry
  cases rx
  refine wpAny_in_heap (knd := nestedKind X.prog X.w) (by show X.A.in1.units + 8 < cLine; rw [Around.in1_units]; omega) (nd_key I hk ik) hm (nd_dict I hr hn) ?_
  rw [nds_isSome hn]
  exact ⟨.bl _, H, I.tok _, rfl, q⟩
theorem op_ndnotin (hu : X.A.units + 9 < cLine) : OpR X (compareOp .NotIn) (rNDin X.prog X.w X.K true) := by
  intro pins s σ H y x u v Q I ry rx h
  obtain ⟨ads, k, a, d, kvs, xs, rfl, rfl, hm, hr, hn, hk, ik, q⟩ := h
  cases ry
  cases rx
  show wpAny _ _ (do return Value.bool (!(← contains (Value.ref d) (Value.ref a)))) _ _ s
  refine wpAny_bind (wpAny_contains_heap (knd := nestedKind X.prog X.w) (by show X.A.in1.units + 8 < cLine; rw [Around.in1_units]; omega) (nd_key I hk ik) hm (nd_dict I hr hn) (wpAny_pure ?_))
  rw [nds_isSome hn]
  exact ⟨.bl _, H, I.tok _, rfl, q⟩
def gDin (neg : Bool) : D → D → List MO → Option D := fun y x M => (keyD y).bind fun k => (dctOf x M).map fun kvs => .bl (if neg then !(valD kvs k).isSome else (valD kvs k).isSome)
theorem l_din {neg : Bool} : LOp X (rNDin X.prog X.w X.K neg) (gDin neg) := fun H ads M x y d e c Q z hx hy hg k => by
  obtain ⟨ky, e1, hg⟩ := bind_some hg
  obtain ⟨kvs, e2, rfl⟩ := map_some hg
  obtain ⟨hk, a, rfl, ik⟩ := keyD_is e1 hx
  obtain ⟨p, xs, rfl, hm, hr, hn⟩ := dct_is z hy e2
  exact ⟨ads, ky, a, p, kvs, xs, rfl, rfl, hm, hr, hn, hk, ik, k _ H (Fw.refl H ads) z rfl⟩
/-- d[k] -/
def rNDget (P : Program) (w : World) (K : PySem.W.Frag) : R2 := fun x y H Q => ∃ (ads : List Addr) (k : NestedKey) (a d : Addr) (kvs : List (NestedKey × D)) (xs : List (NestedKey × Addr × Value)) (c : D), y = .ref a ∧ x = .ref d ∧ NDRd P w H d xs ∧ NDs K H ads kvs xs ∧
  k.depth ≤ 8 ∧ Is K H ads (kd k) (.ref a) ∧ valD kvs k = some c ∧ ∀ v, Is K H ads c v → Q v H
theorem pe_ndget {to ti : TE} (hu : X.A.units + 9 < cLine) (ho : PE X o to) (hi : PE X i ti) (hs : NoSl i) : PE X (.Subscript o i pos) (tOp (rNDget X.prog X.w X.K) to ti) := by
  refine ⟨fun pins s σ H Q I h => ?_⟩
  refine subD_of PySem.F.slot_dict_getitem.lookup hs (thn (ho.run pins s σ H _ I h) fun u s1 ⟨x, H1, I1, rx, q1⟩ => thn (hi.run pins s1 σ H1 _ I1 q1) fun iv s2 ⟨y, H2, I2, ry, q2⟩ => ?_)
  obtain ⟨ads, k, a, d, kvs, xs, c, rfl, rfl, hr, hn, hk, ik, hv, q⟩ := q2
  cases ry
  cases rx
  have dd := nd_dict I2 hr hn
  obtain ⟨a', u, v, e, r, iv⟩ := (nds_val hn).2 c hv
  exact ⟨dd.typeIs, wpAny_getItem_heap (knd := nestedKind X.prog X.w) (by show X.A.in1.units + 8 < cLine; rw [Around.in1_units]; omega) (nd_key I2 hk ik) dd e ⟨v, H2, I2.tok _, r, q v iv⟩⟩
def gDget : D → D → List MO → Option D := fun x y M => (keyD y).bind fun k => (dctOf x M).bind fun kvs => valD kvs k
theorem l_dget : LOp X (rNDget X.prog X.w X.K) gDget := fun H ads M x y d e c Q z hx hy hg k => by
  obtain ⟨ky, e1, hg⟩ := bind_some hg
  obtain ⟨kvs, e2, e3⟩ := bind_some hg
  obtain ⟨hk, a, rfl, ik⟩ := keyD_is e1 hy
  obtain ⟨p, xs, rfl, hm, hr, hn⟩ := dct_is z hx e2
  exact ⟨ads, ky, a, p, kvs, xs, c, rfl, rfl, hr, hn, hk, ik, e3, fun v iv => k v H (Fw.refl H ads) z iv⟩
theorem pf_dget (hu : X.A.units + 9 < cLine) (ho : PF X o fo) (hi : PF X i fi) (hs : NoSl i := by intro _ _; rfl) : PF X (.Subscript o i pos) (eOp gDget fo fi) := pf_of (pe_ndget hu ho hi hs) (op_lift l_dget)
/-- d[k] = v -/
def sDput (fv fo fi : TF) : TFS := fun δ M => (fv δ M).bind fun p => (fo δ p.2).bind fun q => (fi δ q.2).bind fun r => match q.1 with
  | .obj l => match r.2[l]? with
    | some (.dct kvs) => (keyD r.1).bind fun k => if kvs.length < 100000 then some (.nx δ, r.2.set l (.dct (putN kvs k p.1))) else none
    | _ => none
  | _ => none
def tNDput (P : Program) (w : World) (K : PySem.W.Frag) (tv to ti : TE) : TS := fun D' σ H => tv σ H fun v H1 => to σ H1 fun x H2 => ti σ H2 fun y H3 => ∃ (ads : List Addr) (k : NestedKey) (a d : Addr) (kvs : List (NestedKey × D)) (xs : List (NestedKey × Addr × Value)),
  y = .ref a ∧ x = .ref d ∧ H3 d = some (NDo P w d xs) ∧ NDs K H3 ads kvs xs ∧ k.depth ≤ 8 ∧ Is K H3 ads (kd k) (.ref a) ∧ xs.length < sizeLine ∧ ∀ u, RelV v u → D'.nx σ (upd H3 d (NDo P w d (storedH xs k a u)))
theorem ps_ndput {tv to ti : TE} (hu : X.A.units + 9 < cLine) (hv : PE X v tv) (ho : PE X o to) (hi : PE X i ti) (hs : swapsWith v (some (.Subscript o i pos')) pos.line X.env = pure false) : PS X (.Assign [.Subscript o i pos'] v pos) (tNDput X.prog X.w X.K tv to ti) := by
  refine ⟨fun pins s σ H D' I h => ?_⟩
  refine wpAny_Assign_Subscript (thn (hv.run pins s σ H _ I h) fun r s1 ⟨v, H1, I1, rv, q1⟩ => thn (ho.run pins s1 σ H1 _ I1 q1) fun u s2 ⟨x, H2, I2, rx, q2⟩ => thn (hi.run pins s2 σ H2 _ I2 q2) fun iv s3 ⟨y, H3, I3, ry, q3⟩ => ?_) hs
  obtain ⟨ads, k, a, d, kvs, xs, rfl, rfl, hr, hn, hk, ik, hl, q⟩ := q3
  cases ry
  cases rx
  have dd := nd_dict I3 (.inl hr) hn
  refine wpAny_setItem_heap (knd := nestedKind X.prog X.w) (hsz := Nat.le_of_lt hl) (by show X.A.in1.units + 8 < cLine; rw [Around.in1_units]; omega) (nd_key I3 hk ik) dd fun h' dd' hs' => ?_
  obtain ⟨oo, es, ep, h1, h2, h3, h4, _, h5⟩ := dd'
  refine ⟨σ, _, d_write I3 (ob := NDo X.prog X.w d (storedH xs k a r)) (by rw [hr]; exact True.intro) hs' ⟨oo, h1⟩ ⟨⟨oo, es, ep, h1, h2, h3, h4, h5⟩, ⟨oo, h1⟩, fun g1 g2 z kk => ?_⟩, q r rv⟩
  obtain ⟨o', es', ep', e', r'⟩ := z
  exact ⟨o', es', ep', kk o' e', r'⟩
theorem pfs_dput (hu : X.A.units + 9 < cLine) (hv : PF X v fv) (ho : PF X o fo) (hi : PF X i fi) (hs : swapsWith v (some (.Subscript o i pos')) pos.line X.env = pure false := by rfl) : PFS X (.Assign [.Subscript o i pos'] v pos) (sDput fv fo fi) := pfs_of (ps_ndput hu hv ho hi hs) fun D' σ H ⟨δ, ads, M, out, M', hs, hz, hf, k⟩ => by
  obtain ⟨⟨d1, M1⟩, e1, hf⟩ := bind_some hf
  obtain ⟨⟨d2, M2⟩, e2, hf⟩ := bind_some hf
  obtain ⟨⟨d3, M3⟩, e3, hf⟩ := bind_some hf
  dsimp only at hf
  split at hf
  · rename_i l
    split at hf
    · rename_i kvs e4
      obtain ⟨ky, e5, hf⟩ := bind_some hf
      split at hf
      · rename_i hl
        obtain ⟨rfl, rfl⟩ := spr hf
        refine ⟨δ, ads, M, d1, M1, hs, hz, e1, fun u1 H1 ads1 f1 z1 i1 => ?_⟩
        refine ⟨δ, ads1, M1, _, M2, hs.fw f1, z1, e2, fun u2 H2 ads2 f2 z2 i2 => ?_⟩
        refine ⟨δ, ads2, M2, d3, M3, (hs.fw f1).fw f2, z2, e3, fun u3 H3 ads3 f3 z3 i3 => ?_⟩
        obtain ⟨p, rfl, ip⟩ := Is.fw f3 _ _ i2
        obtain ⟨g1, g2, xs, g3, g4⟩ := z3.ok _ p _ ip e4
        obtain ⟨hk, a, rfl, ik⟩ := keyD_is e5 i3
        have hm := List.mem_of_getElem? ip
        refine ⟨ads3, ky, a, p, kvs, xs, rfl, rfl, g3, g4, hk, ik, by rw [← nds_length g4]; exact Nat.lt_of_lt_of_le hl (by decide), fun u ru => ?_⟩
        have fw := Fw.write (o := NDo X.prog X.w p (storedH xs ky a u)) hm g3 (fun _ _ z => nomatch z)
        have i1' := Is.fw (f2.trans f3) _ _ i1
        have ff := ((f1.trans f2).trans f3).trans fw
        refine k _ ads3 ff (z3.write (o := .dct (putN kvs ky d1)) ip ⟨g1, ?_, _, upd_same, (nds_put hk ik ru i1' g4).fw fw⟩) _ (hs.fw ff)
        exact Nat.le_trans (putN_length kvs ky d1) (Nat.le_trans (Nat.succ_le_of_lt hl) (by decide))
      · cases hf
    · cases hf
  · cases hf
/-- d.get(k) -/
def eGet1 (fo fi : TF) : TF := fun δ M => (fo δ M).bind fun p => if (dctOf p.1 p.2).isSome = true then (fi δ p.2).bind fun q => (keyD q.1).bind fun k => (dctOf p.1 q.2).map fun kvs => ((valD kvs k).getD .non, q.2) else none
def tNDget1 (P : Program) (w : World) (K : PySem.W.Frag) (to ti : TE) : TE := fun σ H Q => to σ H fun x H1 => ∃ d xs, x = .ref d ∧ (d == sysModules) = false ∧ NDRd P w H1 d xs ∧ ti σ H1 fun y H2 => ∃ (ads : List Addr) (k : NestedKey) (a : Addr) (kvs : List (NestedKey × D)) (xs : List (NestedKey × Addr × Value)),
  y = .ref a ∧ NDRd P w H2 d xs ∧ NDs K H2 ads kvs xs ∧ k.depth ≤ 8 ∧ Is K H2 ads (kd k) (.ref a) ∧ ∀ v, Is K H2 ads ((valD kvs k).getD .non) v → Q v H2
theorem pe_ndget1 {to ti : TE} (hu : X.A.units + 9 < cLine) (ho : PE X o to) (he : PE X e ti) (m : M1 X o "get" apos e cpos) : PE X (.Call (.Attribute o "get" apos) [e] [] cpos) (tNDget1 X.prog X.w X.K to ti) := by
  refine ⟨fun pins s σ H Q I h => ?_⟩
  refine wpAny_Call_method m.base m.few m.line PySem.F.plainAttrs_dict PySem.F.slot_dict_get PySem.F.type_dict_get (thn (ho.run pins s σ H _ I h) fun u s1 ⟨x, H1, I1, rx, q1⟩ => ?_)
  obtain ⟨d, xs, rfl, hm, hr, q1⟩ := q1
  obtain rfl : u = Value.ref d := rx
  obtain ⟨oo, es, ep, h1, h2, h3, h4⟩ := nd_raw I1 hr
  refine ⟨⟨oo, h1, h2.1⟩, fun b q => ?_, ?_⟩
  · cases q
    exact ⟨oo, h1, h2.2.1⟩
  rw [m.trees]
  refine Calls.callWith_builtin rfl (Calls.evalArgs_plain (Calls.spliced_cons (thn (he.run pins s1 σ H1 _ I1 q1) fun iv s2 ⟨y, H2, I2, ry, q2⟩ => Calls.spliced_nil ?_)))
  obtain ⟨ads, k, a, kvs, xs', rfl, hr', hn, hk, ik, q⟩ := q2
  cases ry
  have dd := nd_dict I2 hr' hn
  refine call_meetsIn PySem.F.slot_dict_get dd.typeIs PySem.F.entry_dict_get (PySem.F.args_dict_get_2 _ _) (meetsH_dict_get (nestedKind X.prog X.w) d a hm) ⟨by show X.A.in1.units + 8 < cLine; rw [Around.in1_units]; omega, k, xs', nd_key I2 hk ik, dd, ?_⟩
  cases ev : valD kvs k with
  | none =>
    rw [(nds_val hn).1 ev]
    rw [ev] at q
    exact ⟨.non, H2, I2.tok _, rfl, q _ rfl⟩
  | some c =>
    obtain ⟨a', u, v, e2, r, iv⟩ := (nds_val hn).2 c ev
    rw [e2]
    rw [ev] at q
    exact ⟨v, H2, I2.tok _, r, q _ iv⟩
theorem pf_get1 (hu : X.A.units + 9 < cLine) (ho : PF X o fo) (he : PF X e f) (m : M1 X o "get" apos e cpos := by exact ⟨rfl, rfl, rfl, rfl⟩) : PF X (.Call (.Attribute o "get" apos) [e] [] cpos) (eGet1 fo f) := pf_of (pe_ndget1 hu ho he m) fun σ H Q ⟨δ, ads, M, d, M', hs, hz, hf, k⟩ => by
  obtain ⟨⟨d1, M1⟩, e1, hf⟩ := bind_some hf
  dsimp only at hf
  split at hf
  · rename_i hd
    obtain ⟨⟨d2, M2⟩, e2, hf⟩ := bind_some hf
    obtain ⟨ky, e3, hf⟩ := bind_some hf
    obtain ⟨kvs, e4, hf⟩ := map_some hf
    obtain ⟨rfl, rfl⟩ := pr hf
    refine ⟨δ, ads, M, d1, M1, hs, hz, e1, fun v1 H1 ads1 f1 z1 i1 => ?_⟩
    obtain ⟨kvs0, e0⟩ := Option.isSome_iff_exists.mp hd
    obtain ⟨p, xs, rfl, hm, hr, hn⟩ := dct_is z1 i1 e0
    refine ⟨p, xs, rfl, hm, hr, δ, ads1, M1, d2, _, hs.fw f1, z1, e2, fun v2 H2 ads2 f2 z2 i2 => ?_⟩
    obtain ⟨p', xs', e5, hm', hr', hn'⟩ := dct_is z2 (Is.fw f2 _ _ i1) e4
    cases e5
    obtain ⟨hk, a, rfl, ik⟩ := keyD_is e3 i2
    exact ⟨ads2, ky, a, kvs, xs', rfl, hr', hn', hk, ik, fun v iv => k v H2 ads2 (f1.trans f2) z2 iv⟩
  · cases hf

/-! ### dicts with ints for keys -/
def dintOf (d : D) (M : List MO) : Option (List (Int × D)) := match d with
  | .obj l => match M[l]? with
    | some (.dint kvs) => some kvs
    | _ => none
  | _ => none
theorem dint_is {P : Program} {w : World} {K : PySem.W.Frag} {H : Hp} {ads : List Addr} {M : List MO} {d : D} {v : V} {kvs : List (Int × D)} (z : Rz P w K H ads M) (i : Is K H ads d v) (h : dintOf d M = some kvs) :
    ∃ a ks, v = .ref a ∧ H a = some (.dK ks) ∧ DIs K H ads kvs ks := by
  unfold dintOf at h
  split at h
  · rename_i l
    obtain ⟨a, rfl, ia⟩ := i
    split at h
    · rename_i kvs' e
      cases h
      obtain ⟨ks, h1, h2⟩ := z.ok l a _ ia e
      exact ⟨a, ks, rfl, h1, h2⟩
    · cases h
  · cases h
section
variable {K : PySem.W.Frag} {H : Hp} {ads : List Addr}
theorem dis_val {k : Int} : ∀ {kvs : List (Int × D)} {ks : List (Key × V)}, DIs K H ads kvs ks → (valD kvs k = none → valV ks (Sum.inl k) = none) ∧ ∀ c, valD kvs k = some c → ∃ v, valV ks (Sum.inl k) = some v ∧ Is K H ads c v
  | [], _, h => by
    cases h
    exact ⟨fun _ => rfl, fun c h => by cases h⟩
  | p :: kvs, _, h => by
    cases h with
    | @cons _ x _ xs h1 h2 =>
      obtain ⟨e, i⟩ := h1
      have ih := dis_val (k := k) h2
      by_cases hk : p.1 = k
      · have e1 : valD (p :: kvs) k = some p.2 := valD_pos hk
        have e2 : valV (x :: xs) (Sum.inl k : Key) = some x.2 := valV_pos (by rw [e, hk])
        rw [e1, e2]
        exact ⟨fun z => (nomatch z), fun c z => by cases z; exact ⟨_, rfl, i⟩⟩
      · have e1 : valD (p :: kvs) k = valD kvs k := valD_neg hk
        have e2 : valV (x :: xs) (Sum.inl k : Key) = valV xs (Sum.inl k) := valV_neg (by rw [e]; intro z; exact hk (Sum.inl.inj z))
        rw [e1, e2]
        exact ih
theorem dis_any {k : Int} : ∀ {kvs : List (Int × D)} {ks : List (Key × V)}, DIs K H ads kvs ks → (ks.any fun kv => decide (kv.1 = (Sum.inl k : Key))) = (valD kvs k).isSome
  | [], _, h => by cases h; rfl
  | p :: kvs, _, h => by
    cases h with
    | @cons _ x _ xs h1 h2 =>
      obtain ⟨e, i⟩ := h1
      rw [List.any_cons, dis_any h2]
      by_cases hk : p.1 = k
      · have e1 : valD (p :: kvs) k = some p.2 := valD_pos hk
        rw [e1, decide_eq_true (show x.1 = Sum.inl k by rw [e, hk])]
        rfl
      · have e1 : valD (p :: kvs) k = valD kvs k := valD_neg hk
        rw [e1, decide_eq_false (show ¬ x.1 = Sum.inl k by rw [e]; intro z; exact hk (Sum.inl.inj z))]
        rfl
theorem dis_put {k : Int} {c : D} {v : V} (i : Is K H ads c v) {kvs : List (Int × D)} {ks : List (Key × V)} (h : DIs K H ads kvs ks) : DIs K H ads (putN kvs k c) (putK ks (Sum.inl k) v) := by
  unfold putN putK
  rw [dis_any h]
  by_cases hs : (valD kvs k).isSome = true
  · rw [if_pos hs, if_pos hs]
    have mp : ∀ {kvs : List (Int × D)} {ks : List (Key × V)}, DIs K H ads kvs ks → DIs K H ads (kvs.map fun p => if p.1 = k then (p.1, c) else p) (ks.map fun kv => if kv.1 = (Sum.inl k : Key) then (kv.1, v) else kv) := by
      intro kvs ks h
      induction h with
      | nil => exact .nil
      | @cons p q _ _ h1 _ ih =>
        refine .cons ?_ ih
        obtain ⟨e, i'⟩ := h1
        dsimp only
        by_cases hk : p.1 = k
        · rw [if_pos hk, if_pos (by rw [e, hk])]
          exact ⟨e, i⟩
        · rw [if_neg hk, if_neg (by rw [e]; intro z; exact hk (Sum.inl.inj z))]
          exact ⟨e, i'⟩
    exact mp h
  · rw [if_neg hs, if_neg hs]
    have app : ∀ {kvs : List (Int × D)} {ks : List (Key × V)}, DIs K H ads kvs ks → DIs K H ads (kvs ++ [(k, c)]) (ks ++ [(Sum.inl k, v)]) := by
      intro kvs ks h
      induction h with
      | nil => exact .cons ⟨rfl, i⟩ .nil
      | cons h1 _ ih => exact .cons h1 ih
    exact app h
end
def sDputI (fv fo fi : TF) : TFS := fun δ M => (fv δ M).bind fun p => (fo δ p.2).bind fun q => (fi δ q.2).bind fun r => match q.1, r.1 with
  | .obj l, .int k => match r.2[l]? with
    | some (.dint kvs) => if kvs.length < 100000 then some (.nx δ, r.2.set l (.dint (putN kvs k p.1))) else none
    | _ => none
  | _, _ => none
theorem pfs_dputI (hu : X.A.units + 1 < cLine) (hv : PF X v fv) (ho : PF X o fo) (hi : PF X i fi) (hs : swapsWith v (some (.Subscript o i pos')) pos.line X.env = pure false := by rfl) : PFS X (.Assign [.Subscript o i pos'] v pos) (sDputI fv fo fi) := pfs_of (ps_dput hu ho hi hv hs) fun D' σ H ⟨δ, ads, M, out, M', hs, hz, hf, k⟩ => by
  obtain ⟨⟨d1, M1⟩, e1, hf⟩ := bind_some hf
  obtain ⟨⟨d2, M2⟩, e2, hf⟩ := bind_some hf
  obtain ⟨⟨d3, M3⟩, e3, hf⟩ := bind_some hf
  dsimp only at hf
  split at hf
  · rename_i l ky hh
    split at hf
    · rename_i kvs e4
      split at hf
      · rename_i hl
        obtain ⟨rfl, rfl⟩ := spr hf
        refine ⟨δ, ads, M, d1, M1, hs, hz, e1, fun u1 H1 ads1 f1 z1 i1 => ?_⟩
        refine ⟨δ, ads1, M1, _, M2, hs.fw f1, z1, e2, fun u2 H2 ads2 f2 z2 i2 => ?_⟩
        refine ⟨δ, ads2, M2, _, _, (hs.fw f1).fw f2, z2, e3, fun u3 H3 ads3 f3 z3 i3 => ?_⟩
        cases (show u3 = V.int _ from i3)
        obtain ⟨p, rfl, ip⟩ := Is.fw f3 _ _ i2
        obtain ⟨ks, g1, g2⟩ := z3.ok _ p _ ip e4
        have hm := List.mem_of_getElem? ip
        have fw := Fw.write (o := .dK (putK ks (Sum.inl ky) u1)) hm g1 (fun _ _ z => nomatch z)
        have i1' := Is.fw (f2.trans f3) _ _ i1
        have ff := ((f1.trans f2).trans f3).trans fw
        refine ⟨p, _, rfl, DPut.k (k := Sum.inl ky) g1 (by rw [← Paired.length g2]; exact Nat.lt_of_lt_of_le hl (by decide)), ?_⟩
        exact k _ ads3 ff (z3.write (o := .dint (putN kvs ky d1)) ip ⟨_, upd_same, (dis_put i1' g2).fw fw⟩) _ (hs.fw ff)
      · cases hf
    · cases hf
  · cases hf
/-- d[k] -/
def gDgetI : D → D → List MO → Option D := fun x y M => match y with
  | .int k => (dintOf x M).bind fun kvs => valD kvs k
  | _ => none
theorem pf_dgetI (hu : X.A.units + 1 < cLine) (ho : PF X o fo) (hi : PF X i fi) (hs : NoSl i := by intro _ _; rfl) : PF X (.Subscript o i pos) (eOp gDgetI fo fi) := pf_of (pe_dget hu ho hi hs) fun σ H Q ⟨δ, ads, M, d, M', hs, hz, hf, k⟩ => by
  obtain ⟨⟨d1, M1⟩, e1, hf⟩ := bind_some hf
  obtain ⟨⟨d2, M2⟩, e2, hf⟩ := bind_some hf
  obtain ⟨c, e3, hf⟩ := map_some hf
  obtain ⟨rfl, rfl⟩ := pr hf
  dsimp only at e3 k
  unfold gDgetI at e3
  split at e3
  · rename_i n hh hh2 hh3
    obtain ⟨kvs, e4, e5⟩ := bind_some e3
    refine ⟨δ, ads, M, d1, M1, hs, hz, e1, fun v1 H1 ads1 f1 z1 i1 => ?_⟩
    refine ⟨δ, ads1, M1, _, M2, hs.fw f1, z1, e2, fun v2 H2 ads2 f2 z2 i2 => ?_⟩
    cases (show v2 = V.int _ from i2)
    obtain ⟨p, ks, rfl, g1, g2⟩ := dint_is z2 (Is.fw f2 _ _ i1) e4
    obtain ⟨u, e6, iu⟩ := (dis_val g2).2 _ e5
    have q := DGet.k (k := Sum.inl n) g1
    rw [e6] at q
    exact ⟨p, u, rfl, q, k u H2 ads2 (f1.trans f2) z2 iu⟩
  · cases e3
/-- d.get(k, x) -/
def eGet2 (fo fi fx : TF) : TF := fun δ M => (fo δ M).bind fun p => if (dintOf p.1 p.2).isSome = true then (fi δ p.2).bind fun q => (fx δ q.2).bind fun r => match q.1 with
    | .int k => (dintOf p.1 r.2).map fun kvs => ((valD kvs k).getD r.1, r.2)
    | _ => none
  else none
theorem pf_get2 {c : Expr} {fc : TF} (hu : X.A.units + 1 < cLine) (ho : PF X o fo) (he : PF X e f) (hc : PF X c fc) (m : M2 X o "get" apos e c cpos := by exact ⟨rfl, rfl, rfl, rfl⟩) : PF X (.Call (.Attribute o "get" apos) [e, c] [] cpos) (eGet2 fo f fc) := pf_of (pe_dget2 hu ho he hc m) fun σ H Q ⟨δ, ads, M, d, M', hs, hz, hf, k⟩ => by
  obtain ⟨⟨d1, M1⟩, e1, hf⟩ := bind_some hf
  dsimp only at hf
  split at hf
  · rename_i hd
    obtain ⟨⟨d2, M2⟩, e2, hf⟩ := bind_some hf
    obtain ⟨⟨d3, M3⟩, e3, hf⟩ := bind_some hf
    dsimp only at hf
    split at hf
    · rename_i n hh
      obtain ⟨kvs, e4, hf⟩ := map_some hf
      obtain ⟨rfl, rfl⟩ := pr hf
      refine ⟨δ, ads, M, d1, M1, hs, hz, e1, fun v1 H1 ads1 f1 z1 i1 => ?_⟩
      obtain ⟨kvs0, e0⟩ := Option.isSome_iff_exists.mp hd
      obtain ⟨p, ks, rfl, g1, g2⟩ := dint_is z1 i1 e0
      refine ⟨p, rfl, .inl ⟨ks, .inl g1⟩, δ, ads1, M1, _, M2, hs.fw f1, z1, e2, fun v2 H2 ads2 f2 z2 i2 => ?_⟩
      cases (show v2 = V.int _ from i2)
      refine ⟨δ, ads2, M2, d3, _, (hs.fw f1).fw f2, z2, e3, fun v3 H3 ads3 f3 z3 i3 => ?_⟩
      obtain ⟨p', ks', e5, g1', g2'⟩ := dint_is z3 (Is.fw (f2.trans f3) _ _ i1) e4
      cases e5
      refine ⟨_, DGet.k (k := Sum.inl n) g1', ?_⟩
      have ff := (f1.trans f2).trans f3
      cases ev : valD kvs n with
      | none =>
        rw [(dis_val g2').1 ev]
        rw [ev] at k
        exact k _ H3 ads3 ff z3 i3
      | some c =>
        obtain ⟨u, e6, iu⟩ := (dis_val g2').2 c ev
        rw [e6]
        rw [ev] at k
        exact k _ H3 ads3 ff z3 iu
    · cases hf
  · cases hf
end
end DL
namespace DL
open PySem PySem.Spec PyProof.Rows L2

/-! ### for k in d, d a dict with nested keys: it is locked meanwhile -/
def Itn (P : Program) (w : World) (d : Addr) (o : Obj) (xs : List (NestedKey × Addr × Value)) : It :=
  ⟨fun i H => H d = some (.frz o (NDo P w d xs)) ∧ i < xs.length, fun i H x H' => H' = H ∧ ∃ (k : NestedKey) (a : Addr) (v : Value), xs[i]? = some (k, a, v) ∧ x = .ref a, fun i H => H d = some (.frz o (NDo P w d xs)) ∧ xs.length ≤ i⟩
section
variable {P : Program} {w : World} {K : PySem.W.Frag} {tg : Expr} {d : Addr} {o : Obj} {es : Array DictEntry} {ep : Nat}
theorem frzN {X : Cx} {pins : List (Addr × Obj)} {σ : L2.St} {H : Hp} {s : Shared} {xs : List (NestedKey × Addr × Value)} (I : Inv X pins σ H s) (h : H d = some (.frz o (NDo X.prog X.w d xs))) :
    s.heap.get? d = some o ∧ o.ExactDict ∧ ∃ es ep, o.data = .dict es ep ∧ es.toList = xs.map (entryOfKey (nestedKind X.prog X.w)) := by
  obtain ⟨e, ⟨o', es, ep, e', h2, h3, h4, _⟩, _⟩ := (show s.heap.get? d = some o ∧ (NDp X.prog X.w d xs s.heap ∧ _) from I.hok d _ h)
  rw [e] at e'
  cases e'
  exact ⟨e, h2, es, ep, h3, h4⟩
theorem turn_nd {xs : List (NestedKey × Addr × Value)} (it : Addr) (hod : o.data = .dict es ep) : Turn P w K tg (Itn P w d o xs) [it] it (fun i h => h.IsKeyIter it d i xs.length ep) where
  mem := by simp
  obj := fun i h st b hb => by
    have e : b = it := by simpa using hb
    subst e
    obtain ⟨oi, e, c, dd⟩ := st
    exact ⟨oi, e, fun v z => by rw [dd] at z; cases z⟩
  keep := fun i h h' st k => st.at fun oi e => k it (by simp) oi e
  item := by
    intro X hP hw hK hc i pins s σ H E I hf st hg
    subst hP hw hK
    obtain ⟨hd, hi⟩ := hg
    obtain ⟨f0, f1, f2, f3, f4, f5⟩ := hf it (by simp)
    obtain ⟨hgd, hx, es', ep', hdt, hes⟩ := frzN I hd
    obtain ⟨rfl, rfl⟩ := dict_ep hod hdt
    obtain ⟨⟨k, a, v⟩, hkv⟩ : ∃ p, xs[i]? = some p := ⟨xs[i], List.getElem?_eq_getElem hi⟩
    have hen : es'[i]? = some (entryOfKey (nestedKind X.prog X.w) (k, a, v)) := by
      rw [← Array.getElem?_toList, hes, List.getElem?_map, hkv]
      rfl
    have hsz : es'.size = xs.length := by rw [← Array.length_toList, hes, List.length_map]
    refine next_key_item st hgd hdt hsz hen fun h' st' sb => ?_
    have I1 : Inv X pins σ H { s with heap := h' } := I.turned (t' := s.toks) (fun b ob hb e => (sb.2 b hb).trans e) f0 f1 f3 f4 f5
    obtain ⟨oi, e, c, dd⟩ := id st'
    exact ⟨_, rfl, go_of (s := { s with heap := h' }) e c dd (by decide) ⟨.ref a, H, I1, rfl, ⟨rfl, k, a, v, hkv, rfl⟩, st', fun b hb => (hf b hb).1⟩⟩
  done := by
    intro X hP hw hK hc i pins s σ H E I hf st hg
    subst hP hw hK
    obtain ⟨hd, hi⟩ := hg
    obtain ⟨f0, f1, f2, f3, f4, f5⟩ := hf it (by simp)
    obtain ⟨hgd, hx, es', ep', hdt, hes⟩ := frzN I hd
    obtain ⟨rfl, rfl⟩ := dict_ep hod hdt
    have hsz : es'.size = xs.length := by rw [← Array.length_toList, hes, List.length_map]
    exact next_key_end (I.ok.hd hc) st hgd hdt hsz hi fun h' eb => ⟨rfl, I.turned (t' := s.toks) (fun b ob hb e => eb b ob hb e) f0 f1 f3 f4 f5⟩
  self := fun A i s Q E st h => by
    refine wpAny_pyIter_slot st.typeIs F.slot_dict_keyiterator_iter (wpAny_call_entry F.slot_dict_keyiterator_iter st.typeIs F.entry_dict_keyiterator_iter ?_ (F.args_dict_keyiterator_iter_1 _))
    show wpAny _ _ (ret (.ref it)) _ _ s
    exact wpAny_pure ⟨_, rfl, "dict_keyiterator", _, st.typeIs, F.slot_dict_keyiterator_next.lookup, h⟩
end
def iNd (P : Program) (w : World) (td : TE) : TI := fun σ H R => td σ H fun x H1 => ∃ d o xs, x = .ref d ∧ (d == sysModules) = false ∧ H1 d = some (.frz o (NDo P w d xs)) ∧ R (Itn P w d o xs) H1
section
variable {X : Cx} {tg e : Expr} {td : TE} {pos : Pos} {body : List Stmt} {F : TFS} {x : Str} {i : Nat}
theorem pi_nd (he : PE X e td) : PI X tg e (iNd X.prog X.w td) := by
  refine ⟨fun pins s σ H R I h => ?_⟩
  refine thn (he.run pins s σ H _ I h) fun u s1 ⟨x, H1, I1, rx, d, o, xs, ex, hm, hd, q⟩ => ?_
  subst ex
  obtain rfl : u = Value.ref d := rx
  obtain ⟨hgd, hx, es, ep, hdt, hes⟩ := frzN I1 hd
  have hsz : es.size = xs.length := by rw [← Array.length_toList, hes, List.length_map]
  refine iter_keys hm hgd hx hdt (pi_one (tk := s1.toks) I1 _ (turn_nd _ hdt) ⟨_, Heap.get?_push_size _ rfl, rfl, ?_⟩ q)
  rw [hsz] <;> rfl
def keysD (kvs : List (NestedKey × D)) : List D := kvs.map fun p => kd p.1
def iNdD (i : Nat) : TFA := fun δ M => match δ[i]? with
  | some (some (.obj l)) => match M[l]? with
    | some (.dfz kvs) => some (keysD kvs, M)
    | _ => none
  | _ => none
theorem itn_ok {P : Program} {w : World} {K : PySem.W.Frag} {H : Hp} {ads : List Addr} {d : Addr} {o : Obj} {xs : List (NestedKey × Addr × Value)} {kvs : List (NestedKey × D)} (hd : H d = some (.frz o (NDo P w d xs))) (hn : NDs K H ads kvs xs) : ItOk K H ads (Itn P w d o xs) (keysD kvs) := fun H' ads' f => by
  have hd' := f.frz _ _ _ hd
  have hn' := hn.fw f
  have hl := nds_length hn
  refine ⟨fun i c e => ?_, hd', by unfold keysD; rw [List.length_map, hl]; exact Nat.le_refl _⟩
  have hi : i < kvs.length := by
    have := (List.getElem?_eq_some_iff.mp e).1
    simpa [keysD] using this
  refine ⟨⟨hd', by rw [← hl]; exact hi⟩, fun y H'' hy => ⟨hy.1, ?_⟩⟩
  obtain ⟨k, a, v, e2, rfl⟩ := hy.2
  unfold keysD at e
  rw [List.getElem?_map, List.getElem?_eq_getElem hi] at e
  cases e
  have at_ : ∀ {kvs : List (NestedKey × D)} {xs : List (NestedKey × Addr × Value)}, NDs K H' ads' kvs xs → ∀ (i : Nat) p q, kvs[i]? = some p → xs[i]? = some q → NDr K H' ads' p q := by
    intro kvs xs h
    induction h with
    | nil => intro i p q e; simp at e
    | cons h1 _ ih =>
      intro i p q e e'
      cases i with
      | zero =>
        simp at e e'
        subst e e'
        exact h1
      | succ i => exact ih i p q (by simpa using e) (by simpa using e')
  exact (at_ hn' i _ _ (List.getElem?_eq_getElem hi) e2).2.2.1
theorem pfi_nd {x : Str} {px : Pos} (hN : X.N[i]? = some x) (hv : Vis X.env.scope x) (hd : (x == ("__debug__" : Str)) = false := by decide) (hcd : (x == ("__classdict__" : Str)) = false := by decide) : PFI X tg (.Name x px) (iNdD i) := pfi_of (pi_nd (pe_var hN hv hd hcd)) fun σ H R ⟨δ, ads, M, ds, M', hs, hz, hf, k⟩ => by
  unfold iNdD at hf
  split at hf
  · rename_i l e1
    split at hf
    · rename_i kvs e2
      obtain ⟨rfl, rfl⟩ := spr hf
      obtain ⟨v, e3, iv⟩ := hs.2 i _ e1
      obtain ⟨a, rfl, ia⟩ := iv
      obtain ⟨h1, h2, od, xs, h3, h4⟩ := hz.ok l a _ ia e2
      exact ⟨_, e3, a, od, xs, rfl, h1, h3, k _ H ads (Fw.refl H ads) hz (itn_ok h3 h4)⟩
    · cases hf
  · cases hf
def sForN (i : Nat) (g : TFG) (body : TFS) : TFS := fun δ M => match δ[i]? with
  | some (some (.obj l)) => match M[l]? with
    | some (.dct kvs) => (forD g body (keysD kvs) δ (M.set l (.dfz kvs))).bind fun q => match q.1 with
      | .nx δ' => some (.nx δ', q.2.set l (.dct kvs))
      | _ => none
    | _ => none
  | _ => none
theorem pfs_forN {tG : TG} {g : TFG} {px : Pos} (hp : PassesOwn (model X.prog X.w) X.A X.env X.xe) (hc : X.calm = true) (hN : X.N[i]? = some x) (hv : Vis X.env.scope x) (ht : PG X tg tG) (hg : LG X tG g) (hb : PFSs X body F)
    (hs : ∀ y, foldedSetIterable (.Name x px) X.env y = pure y := by intro _; rfl) (hd : (x == ("__debug__" : Str)) = false := by decide) (hcd : (x == ("__classdict__" : Str)) = false := by decide) : PFS X (.For tg (.Name x px) body [] pos) (sForN i g F) :=
  pfs_of (ps_lock (pfs_for hp hc (pfi_nd hN hv hd hcd) ht hg hb hs)) fun D' σ H ⟨δ, ads, M, out, M', hs, hz, hf, k⟩ => by
  unfold sForN at hf
  split at hf
  · rename_i l e1
    split at hf
    · rename_i kvs e2
      obtain ⟨⟨o2, M2⟩, e3, hf⟩ := bind_some hf
      dsimp only at hf
      split at hf
      · rename_i δ' 
        obtain ⟨rfl, rfl⟩ := spr hf
        obtain ⟨v, e4, iv⟩ := hs.2 i _ e1
        obtain ⟨a, rfl, ia⟩ := iv
        obtain ⟨h1, h2, xs, h3, h4⟩ := hz.ok l a _ ia e2
        have hm := List.mem_of_getElem? ia
        refine ⟨a, NDo X.prog X.w a xs, h3, True.intro, fun od => ?_⟩
        have fw := Fw.write (o := .frz od (NDo X.prog X.w a xs)) hm h3 (fun _ _ z => nomatch z)
        have z2 := hz.write (o := .dfz kvs) ia ⟨h1, h2, od, xs, upd_same, h4.fw fw⟩
        have hl : l < M.length := by rw [← hz.len]; exact (List.getElem?_eq_some_iff.mp ia).1
        refine ⟨δ, ads, M.set l (.dfz kvs), .nx δ', M2, hs.fw fw, z2, ?_, fun H' ads' f' z' σ' s' => ⟨f'.frz a od _ upd_same, ?_⟩⟩
        · unfold sFor iNdD
          rw [e1]
          dsimp only
          rw [List.getElem?_set_self hl]
          exact e3
        · have hH' : H' a = some (.frz od (NDo X.prog X.w a xs)) := f'.frz a od _ upd_same
          have ia' := f'.get ia
          have fw2 : Fw0 H' ads' (upd H' a (NDo X.prog X.w a xs)) ads' := Fw0.write (List.mem_of_getElem? ia')
          have ne : ∀ b o, H b = some o → b ∉ ads → b ≠ a := fun b o e n z => n (by rw [z]; exact hm)
          have ff : Fw H ads (upd H' a (NDo X.prog X.w a xs)) ads' := ⟨⟨f'.pre, fun b o e n => by
            rw [upd_ne (ne b o e n)]
            exact f'.keep b o (by rw [upd_ne (ne b o e n)]; exact e) n, fun b hb n => by
            have q := f'.new b hb n
            have hba : b ≠ a := fun z => n (by rw [z]; exact hm)
            rw [upd_ne hba] at q
            exact q⟩, fun b o u e => by
            have hba : b ≠ a := fun z => by
              rw [z, h3] at e
              cases e
            rw [upd_ne hba]
            exact f'.frz b o u (by rw [upd_ne hba]; exact e)⟩
          exact k _ ads' ff (z'.write (o := .dct kvs) ia' ⟨h1, h2, xs, upd_same, h4.fw ff⟩) σ' (s'.fw0 fw2)
      · cases hf
    · cases hf
  · cases hf

/-! ### sorted(d), d a dict with ints for keys -/
theorem ints_at : ∀ {us : List Value} {ks : List Int}, us.length = ks.length → (∀ (j : Nat) (v : Value), us[j]? = some v → ∃ (x : Int) (t : Tok), ks[j]? = some x ∧ v = Value.int x t) → IntsAre us ks
  | [], [], _, _ => .nil
  | u :: us, k :: ks, hl, h => by
    obtain ⟨x, t, e1, e2⟩ := h 0 u rfl
    have e1' : k = x := Option.some.inj e1
    subst e1'
    subst e2
    refine .cons _ _ (ints_at (by simpa using hl) fun j v e => ?_)
    obtain ⟨x, t, a, b⟩ := h (j + 1) v (by simpa using e)
    exact ⟨x, t, by simpa using a, b⟩
  | [], _ :: _, hl, _ => by simp at hl
  | _ :: _, [], hl, _ => by simp at hl
def rSortedD : List V → Hp → VK → Prop := fun xs H Q => ∃ (a : Addr) (kvs : List (Key × V)) (ks : List Int), xs = [.ref a] ∧ Rd H a (.dK kvs) ∧ kvs.map (·.1) = ks.map Sum.inl ∧
    ∀ (ys : List Int) (p : Addr), ys.Perm ks → ys.Pairwise (· ≤ ·) → H p = none → Q (.ref p) (upd H p (.lst (ys.map V.int)))
theorem call_sortedI (hcalm : X.calm = true) : CallR X (.builtin "sorted") rSortedD := by
  intro pins s σ H xs us Q I r q
  obtain ⟨a, kvs, ks, ex, hd, hks, q⟩ := q
  subst ex
  obtain ⟨u, eu, rx⟩ := vals1 r
  subst eu
  cases rx
  obtain ⟨z, lo, vs, rel, dd⟩ := dk_rd I.hok hd
  obtain ⟨ep, hat⟩ := dd.dictAt
  have hkeys : vs.map (·.1) = ks.map Sum.inl := rel.keys.symm.trans hks
  have hl : vs.length = ks.length := by
    have e := congrArg List.length hkeys
    rw [List.length_map, List.length_map] at e
    exact e
  have hl2 : kvs.length = ks.length := by
    have e := congrArg List.length hks
    rw [List.length_map, List.length_map] at e
    exact e
  have h16 : vs.length ≤ sizeLine := by rw [hl, ← hl2]; exact z
  refine Calls.call_function_entry PyProof.Rows.kind_sorted PyProof.Rows.plain_sorted PyProof.Rows.entry_sorted (PyProof.Rows.args_sorted1 _) ?_
  unfold Builtin.«sorted»
  refine wpAny_bind (m := checkCount "sorted" 1 1 _) (wpAny_pure ?_)
  refine wpAny_bind (PySem.W.kdu_collect (A := X.A.in1) (PySem.W.kdl_dict (knd := mixKind X.prog X.w) (kvs := vs) (ep := ep) lo) (I.ok.hd hcalm) hat h16 fun h' tk acc hk hacc => ?_)
  have hal : acc.toList.length = ks.length := by rw [Array.length_toList, hacc.1, hl]
  have hS : IntsAre acc.toList ks := ints_at hal fun j v e => by
    obtain ⟨k, x, e1, e2⟩ := hacc.2 j v (by rw [← Array.getElem?_toList]; exact e)
    have e3 : (vs.map (·.1))[j]? = some k := by rw [List.getElem?_map, e1]; all_goals rfl
    rw [hkeys, List.getElem?_map] at e3
    cases e4 : ks[j]? with
    | none => rw [e4] at e3; cases e3
    | some y =>
      rw [e4] at e3
      have e5 : Sum.inl y = k := Option.some.inj e3
      subst e5
      obtain ⟨t, ev⟩ := Value.isInt_shape (k := y) (v := v) e2
      exact ⟨y, t, rfl, ev⟩
  have I1 : Inv X pins σ H { s with heap := h', toks := tk } := I.kept hk
  have hz : acc.toList.length ≤ sizeLine := by rw [hal, ← hl2]; exact z
  refine wpAny_bind (wpAny_newList ?_ hz)
  have hoL : (h'.push (seqObj "list" acc.toList.toArray 0)).get? h'.objs.size = some (seqObj "list" acc.toList.toArray 0) := Heap.get?_push_size _ rfl
  show wpAny _ _ _ _ _ { s with heap := h'.push (seqObj "list" acc.toList.toArray 0), toks := tk }
  refine wpAny_bind (wpAny_holding (wpAny_call_entry PyProof.Rows.slot_list_sort ⟨_, hoL, rfl⟩ PyProof.Rows.entry_list_sort
    (SrtO.list_sort_ord (s := { s with heap := h'.push (seqObj "list" acc.toList.toArray 0), toks := tk }) SrtO.swo_int hoL hz (fun h2 => SrtO.ints_sortable hS h2) fun out h1 h2 => ⟨_, rfl, ?_⟩)
    (PyProof.Rows.args_list_sort _)))
  obtain ⟨k1, k2, k3⟩ := SrtO.ints_out hS h1 h2
  obtain ⟨e', he'⟩ := PyProof.Rows.sortedHeap_at (vs := acc.toList) (out := out.toArray) hoL
  have hlen : ((out.map SrtO.iv).map V.int).length ≤ sizeLine := by
    rw [List.length_map, k2.length_eq, ← hl2]
    exact z
  refine wpAny_pure ⟨_, rfl, .ref h'.objs.size, upd H h'.objs.size (.lst ((out.map SrtO.iv).map V.int)), I1.laid (t' := tk) (fun b u e => ?_) (Nat.le_refl _)
    (show ObjOk X.prog X.w _ _ _ (.lst ((out.map SrtO.iv).map V.int)) from ⟨hlen, out, e', vals_of_ints k1, he'⟩), rfl, q _ _ k2 k3 (I1.hok.fresh (Nat.le_refl _))⟩
  have hb : b < h'.objs.size := Heap.lt_size e
  rw [PyProof.Rows.sortedHeap_old (Nat.ne_of_lt hb) (by rw [size_push']; exact Nat.lt_succ_of_lt hb)]
  exact Heap.get?_push_of_some _ e
/-- ints in order -/
def insI (x : Int) : List Int → List Int
  | [] => [x]
  | y :: r => if x ≤ y then x :: y :: r else y :: insI x r
def sortI : List Int → List Int
  | [] => []
  | x :: r => insI x (sortI r)
theorem insI_perm (x : Int) : ∀ l : List Int, (insI x l).Perm (x :: l)
  | [] => List.Perm.refl _
  | y :: r => by
    unfold insI
    split
    · exact List.Perm.refl _
    · exact ((insI_perm x r).cons y).trans (List.Perm.swap x y r)
theorem sortI_perm : ∀ l : List Int, (sortI l).Perm l
  | [] => List.Perm.refl _
  | x :: r => (insI_perm x (sortI r)).trans ((sortI_perm r).cons x)
theorem insI_sorted (x : Int) : ∀ {l : List Int}, l.Pairwise (· ≤ ·) → (insI x l).Pairwise (· ≤ ·)
  | [], _ => List.pairwise_singleton _ x
  | y :: r, h => by
    unfold insI
    rw [List.pairwise_cons] at h
    split
    · rename_i hxy
      refine List.pairwise_cons.mpr ⟨fun a ha => ?_, List.pairwise_cons.mpr h⟩
      rcases List.mem_cons.mp ha with rfl | ha
      · exact hxy
      · exact Int.le_trans hxy (h.1 a ha)
    · rename_i hxy
      refine List.pairwise_cons.mpr ⟨fun a ha => ?_, insI_sorted x h.2⟩
      rcases List.mem_cons.mp ((insI_perm x r).mem_iff.mp ha) with rfl | ha
      · omega
      · exact h.1 a ha
theorem sortI_sorted : ∀ l : List Int, (sortI l).Pairwise (· ≤ ·)
  | [] => .nil
  | x :: r => insI_sorted x (sortI_sorted r)
def gSortedD : List D → List MO → Option D
  | [d], M => (dintOf d M).map fun kvs => .lst ((sortI (kvs.map (·.1))).map D.int)
  | _, _ => none
theorem dis_keys {K : PySem.W.Frag} {H : Hp} {ads : List Addr} : ∀ {kvs : List (Int × D)} {ks : List (Key × V)}, DIs K H ads kvs ks → ks.map (·.1) = (kvs.map (·.1)).map Sum.inl
  | [], _, h => by cases h; rfl
  | p :: kvs, _, h => by
    cases h with
    | @cons _ x _ xs h1 h2 =>
      rw [List.map_cons, List.map_cons, List.map_cons, dis_keys h2, h1.1]
theorem iss_ints {K : PySem.W.Frag} {H : Hp} {ads : List Addr} : ∀ l : List Int, Iss K H ads (l.map D.int) (l.map V.int)
  | [] => rfl
  | x :: r => ⟨_, _, rfl, rfl, iss_ints r⟩
theorem l_sorted : LCall X rSortedD gSortedD := fun H ads M vs ds c Q z i hg k => by
  unfold gSortedD at hg
  split at hg
  · obtain ⟨kvs, e0, rfl⟩ := map_some hg
    obtain ⟨v, rfl, q⟩ := iss1 i
    obtain ⟨a, ks, rfl, g1, g2⟩ := dint_is z q e0
    refine ⟨a, ks, kvs.map (·.1), rfl, .inl g1, dis_keys g2, fun ys p hp hs hn => ?_⟩
    have e : ys = sortI (kvs.map (·.1)) := PySem.W.ksm_same (hp.trans (sortI_perm _).symm) hs (sortI_sorted _)
    subst e
    exact k _ _ (Fw.laid hn) (z.laid hn) (is_lst z hn (iss_ints _))
  · cases hg

/-! ### min of two sums -/
end
section
variable {prog : Program} {w : World} {A : Around} {E : Value → Shared → Prop} {s : Shared}
theorem call_min_twoH {a b : Value} {Q : Value → Shared → Prop}
    (h : wpAny (model prog w) A.in1 (pyIter (.ref s.heap.objs.size)) (fun it s₂ => ∃ I fp wr G n P St H bt, it = .ref I ∧ WalksS prog w A.in1 I fp wr G n P St ∧ St 0 s₂ ∧ (∀ b ∈ fp, b < s₂.heap.objs.size) ∧ 0 < n ∧
      (∀ b o, H.get? b = some o → b ∉ wr) ∧ (∀ b o, H.get? b = some o → s₂.heap.get? b = some o) ∧ CmpIn prog w A.in1 .Lt H P bt ∧ ∀ v s', P (argBest bt (n - 1)) v → Moved wr G s₂ s' → Q v s') E
      { s with heap := s.heap.push { cls := .type "tuple", data := .seq #[a, b] } }) :
    wpAny (model prog w) A (call (.builtin "min") [a, b]) Q E s := by
  have hname : (toString "min" ++ toString ".loop" : String) = "min.loop" := by decide
  refine call_function_tree F.kind_min F.plain_min F.entry_min (F.args_min2 _ _) ?_
  show wpAny _ A.in1 (Builtin.Builtins.bindParams "min" ["key", "default"] 0 ⟨[], []⟩ >>= _) _ _ s
  refine wpAny_bind (wpAny_of_eq (show Builtin.Builtins.bindParams "min" ["key", "default"] 0 ⟨[], []⟩ = pure [none, none] from rfl) ?_)
  show wpAny _ A.in1 (newTuple [a, b] >>= _) _ _ s
  refine wpAny_bind (wpAny_newObj_type ?_)
  refine wpAny_bind (wpAny_mono h (fun it s₂ h₂ => ?_) fun _ _ e => e)
  obtain ⟨I, fp, wr, G, n, P, St, H, bt, rfl, W, hst, hfp, hn, hw, hkeep, hcmp, hQ⟩ := h₂
  refine wpAny_bind (wpAny_newObj_type ?_)
  have hSf : s₂.heap.objs.size ∉ fp := fun hm => Nat.lt_irrefl _ (hfp _ hm)
  rw [hname]
  refine wpAny_pure ⟨plainId_quiet F.plain_min_loop _, codeAny_min_loop_firstH W H hw bt hcmp s₂.heap.objs.size hSf (fresh_in hkeep) _ hn (fun b o e => Heap.get?_push_of_some _ (hkeep b o e)) (W.frame 0 s₂ _ s₂.toks hst (Nat.le_refl _) fun b _ o e => Heap.get?_push_of_some _ e) (Heap.get?_push_size _ rfl) fun v s' hP hm => ?_⟩
  exact hQ v s' hP (Moved.drop_new (tk := s₂.toks) hm (Nat.le_refl _))
open PySem.W in
theorem min_two_datum {α : Type} [DecidableEq α] [DatumOrd α] {a b : Value} {x y : α} {Q : Value → Shared → Prop} (hh : A.handled = none) (Ha : Holds s.heap a x) (Hb : Holds s.heap b y) (hu : A.units + 1 + Datum.depth α < cLine)
    (h : ∀ h' tk, (∀ c o, s.heap.get? c = some o → h'.get? c = some o) → Q (if DatumOrd.lt y x = true then b else a) { s with heap := h', toks := tk }) : wpAny (model prog w) A (call (.builtin "min") [a, b]) Q E s := by
  obtain ⟨as, ra⟩ := Ha
  obtain ⟨bs, rb⟩ := Hb
  have hk0 : ∀ c o, s.heap.get? c = some o → (s.heap.push { cls := .type "tuple", data := .seq #[a, b] }).get? c = some o := fun c o e => Heap.get?_push_of_some _ e
  have hr : ReadsAll (s.heap.push { cls := .type "tuple", data := .seq #[a, b] }) (#[a, b] : Array Value).toList [Datum.toD x, Datum.toD y] _ := .cons (reads_keeps hk0 ra) (.cons (reads_keeps hk0 rb) .nil)
  have hT : (s.heap.push { cls := .type "tuple", data := .seq #[a, b] }).IsTuple s.heap.objs.size #[a, b] := ⟨_, Heap.get?_push_size _ rfl, rfl, 0, rfl⟩
  have hal : AlikeAll [Datum.toD x, Datum.toD y] := alikeAll_datum [x, y]
  have hd : PyData.depthAll [Datum.toD x, Datum.toD y] ≤ Datum.depth α := depthAll_map [x, y]
  refine call_min_twoH (iter_tupleW (s := { s with heap := s.heap.push { cls := .type "tuple", data := .seq #[a, b] } }) (A := A.in1) hh hT fun s₂ e W st hfp hw hk => ?_)
  refine ⟨_, _, _, _, _, _, _, _, _, rfl, W, st, hfp, by show 0 < 2; decide, hw, hk, cmpIn_lt (s := { s with heap := s.heap.push { cls := .type "tuple", data := .seq #[a, b] } }) (A := A.in1) hr hal (by show A.units + 1 + _ < _; omega), fun v s' hP m => ?_⟩
  obtain ⟨h', tk, rfl, hk'⟩ := moved_old e rfl m
  have hv : v = if DatumOrd.lt y x = true then b else a := by
    have hP' : (#[a, b] : Array Value)[argBest (fun i j => dataLt ([Datum.toD x, Datum.toD y].getD i .none) ([Datum.toD x, Datum.toD y].getD j .none)) 1]? = some v := hP
    have e1 : argBest (fun i j => dataLt ([Datum.toD x, Datum.toD y].getD i .none) ([Datum.toD x, Datum.toD y].getD j .none)) 1 = if DatumOrd.lt y x = true then 1 else 0 := by
      show (if dataLt (Datum.toD y) (Datum.toD x) = true then 1 else 0) = _
      rw [DatumOrd.lt_eq]
    rw [e1] at hP'
    by_cases hl : DatumOrd.lt y x = true
    · rw [if_pos hl] at hP' ⊢
      exact (Option.some.inj hP').symm
    · rw [if_neg hl] at hP' ⊢
      exact (Option.some.inj hP').symm
  rw [hv]
  exact h h' tk fun c o ec => hk' c o (hk0 c o ec)
end
/-- ("sum", c, ((thing, many), ..)) -/
def prOf : D → Option (Int × Int)
  | .tup [.int a, .int b] => some (a, b)
  | _ => none
def prsOf : List D → Option (List (Int × Int))
  | [] => some []
  | d :: ds => (prOf d).bind fun p => (prsOf ds).map fun r => p :: r
def sumOf : D → Option (PySem.W.T3 Str Int (PySem.W.Tup (Int × Int)))
  | .tup [.str x, .int c, .tup ds] => (prsOf ds).map fun ps => ⟨x, c, ⟨ps⟩⟩
  | _ => none
section
variable {X : Cx} {pins : List (Addr × Obj)} {σ : L2.St} {H : Hp} {s : Shared} {ads : List Addr}
open PySem.W in
theorem prs_holds (I : Inv X pins σ H s) : ∀ {ds : List D} {ps : List (Int × Int)} {vs : List V} {us : List Value}, prsOf ds = some ps → Iss X.K H ads ds vs → Vals vs us → HoldAll s.heap us ps
  | [], _, _, _, h, i, r => by
    cases h
    cases i
    cases r
    exact HoldAll.nil
  | d :: ds, _, _, _, h, i, r => by
    obtain ⟨p, e1, h⟩ := bind_some h
    obtain ⟨q, e2, rfl⟩ := map_some h
    obtain ⟨v, l, rfl, i1, i2⟩ := i
    cases r with
    | @cons _ u _ us r1 r2 =>
      refine HoldAll.cons ?_ (prs_holds I e2 i2 r2)
      unfold prOf at e1
      split at e1
      · cases e1
        obtain ⟨a, ws, rfl, t, q⟩ := i1
        obtain ⟨x1, x2, rfl, j1, j2⟩ := iss2 q
        cases (show x1 = V.int _ from j1)
        cases (show x2 = V.int _ from j2)
        cases r1
        obtain ⟨its, rv, pt, _⟩ := I.tuple t.sq
        obtain ⟨y1, y2, rfl, ⟨t1, rfl⟩, ⟨t2, rfl⟩⟩ := vals2 rv
        exact holds_pair (show s.heap.IsTuple a _ from pt) (holds_int _ _) (holds_int _ _)
      · cases e1
open PySem.W in
theorem sum_holds (I : Inv X pins σ H s) {d : D} {p : T3 Str Int (Tup (Int × Int))} {v : V} {u : Value} (h : sumOf d = some p) (i : Is X.K H ads d v) (r : RelV v u) : Holds s.heap u p := by
  unfold sumOf at h
  split at h
  · obtain ⟨ps, e, rfl⟩ := map_some h
    obtain ⟨a, ws, rfl, t, q⟩ := i
    obtain ⟨x1, l1, rfl, j1, q⟩ := q
    obtain ⟨x2, x3, rfl, j2, j3⟩ := iss2 q
    cases (show x1 = V.str _ from j1)
    cases (show x2 = V.int _ from j2)
    obtain ⟨b, zs, rfl, tb, qb⟩ := j3
    cases r
    obtain ⟨its, rv, pt, _⟩ := I.tuple t.sq
    cases rv with
    | cons r1 rv =>
      obtain ⟨y2, y3, rfl, ⟨t2, rfl⟩, r3⟩ := vals2 rv
      obtain ⟨t1, rfl⟩ := r1
      cases r3
      obtain ⟨its2, rv2, pt2, _⟩ := I.tuple tb.sq
      exact holds_t3 (show s.heap.IsTuple a _ from pt) (holds_str _ _) (holds_int _ _) (holds_tup (show s.heap.IsTuple b _ from pt2) (by simpa using prs_holds I e qb rv2))
  · cases h
end
def gMinA : List D → List MO → Option D
  | [.int i, .int j], _ => some (.int (if j < i then j else i))
  | [d, e], _ => (sumOf d).bind fun x => (sumOf e).map fun y => if PySem.W.DatumOrd.lt y x = true then e else d
  | _, _ => none
def rMinA (K : PySem.W.Frag) : List V → Hp → VK → Prop := fun xs H Q => (fun xs H Q => ∃ i j, xs = [.int i, .int j] ∧ Q (.int (if j < i then j else i)) H) xs H Q ∨
  (fun xs H Q => ∃ (ads : List Addr) (d e : D) (u v : V) (x y : PySem.W.T3 Str Int (PySem.W.Tup (Int × Int))), xs = [u, v] ∧ sumOf d = some x ∧ sumOf e = some y ∧ Is K H ads d u ∧ Is K H ads e v ∧ Q (if PySem.W.DatumOrd.lt y x = true then v else u) H) xs H Q
section
variable {X : Cx}
theorem call_minA (hc : X.calm = true) (hu : X.A.units + 9 < cLine) : CallR X (.builtin "min") (rMinA X.K) := (call_min2 hc).or (by
  intro pins s σ H xs us Q I r h
  obtain ⟨ads, d, e, u, v, x, y, rfl, h1, h2, i1, i2, q⟩ := h
  obtain ⟨u1, u2, rfl, r1, r2⟩ := vals2 r
  refine min_two_datum (I.ok.hd hc) (sum_holds I h1 i1 r1) (sum_holds I h2 i2 r2) (Nat.lt_of_le_of_lt (Nat.add_le_add_left (show 1 + PySem.W.Datum.depth (PySem.W.T3 Str Int (PySem.W.Tup (Int × Int))) ≤ 9 by decide) X.A.units |> fun z => by rw [Nat.add_assoc]; exact z) hu) fun h' tk k => ?_
  refine ⟨_, H, I.kept k, ?_, q⟩
  by_cases hl : PySem.W.DatumOrd.lt y x = true
  · rw [if_pos hl, if_pos hl]; exact r2
  · rw [if_neg hl, if_neg hl]; exact r1)
theorem l_minA : LCall X (rMinA X.K) gMinA := fun H ads M vs ds c Q z i hg k => by
  unfold gMinA at hg
  split at hg
  · cases hg
    obtain ⟨v, u, rfl, q, q'⟩ := iss2 i
    cases (show v = V.int _ from q)
    cases (show u = V.int _ from q')
    exact .inl ⟨_, _, rfl, k _ H (Fw.refl H ads) z rfl⟩
  · obtain ⟨x, e1, hg⟩ := bind_some hg
    obtain ⟨y, e2, rfl⟩ := map_some hg
    obtain ⟨u, v, rfl, i1, i2⟩ := iss2 i
    refine .inr ⟨ads, _, _, u, v, x, y, rfl, e1, e2, i1, i2, k _ H (Fw.refl H ads) z ?_⟩
    by_cases hl : PySem.W.DatumOrd.lt y x = true
    · rw [if_pos hl, if_pos hl]; exact i2
    · rw [if_neg hl, if_neg hl]; exact i1
  · cases hg
end
end DL
namespace DL
open PySem PySem.Spec PyProof.Rows L2

/-! ### -n -/
def gNeg : D → List MO → Option D
  | .int i, _ => some (.int (-i))
  | _, _ => none
section
variable {X : Cx} {e : Expr} {f : TF} {pos p apos cpos : Pos} {x : Str} {a : Addr}
theorem l_neg : LUn X (rU fun i => .int (-i)) gNeg := fun H ads M x d c Q z hx hg k => by
  unfold gNeg at hg
  split at hg
  · cases hg
    cases (show x = V.int _ from hx)
    exact ⟨_, rfl, k _ H (Fw.refl H ads) z rfl⟩
  · cases hg
theorem pf_neg (ha : PF X e f) : PF X (.UnaryOp .USub e pos) (eUn gNeg f) := pf_un un_neg l_neg ha

/-! ### a global tuple, a global table -/
structure GTup (K : PySem.W.Frag) (d : D) (a : Addr) : Prop where
  is : ∀ H ads, Is K H ads d (.ref a)
theorem pf_globT {d : D} (hg : Gl X x) (hm : X.mg x = some (.ref a)) (t : GTup X.K d a) (hd : (x == ("__debug__" : Str)) = false := by decide) : PF X (.Name x pos) (eC d) := pf_c (v := .ref a) (pe_glob hg hm rfl hd) t.is
structure OpsAt (K : PySem.W.Frag) (w : World) (a : Addr) (T : List (Str × D)) : Prop where
  kd : ∃ es n, KDict K w a es n
  val : ∀ z d, T.lookup z = some d → ∃ u, PySem.W.nsIn K a z = some (some u) ∧ ∃ v, RelV v u ∧ ∀ H ads, Is K H ads d v
def eOps (T : List (Str × D)) (fi : TF) : TF := fun δ M => (fi δ M).bind fun q => match q.1 with
  | .str z => (T.lookup z).map fun d => (d, q.2)
  | _ => none
def tKDget (K : PySem.W.Frag) (a : Addr) (ti : TE) : TE := fun σ H Q => ti σ H fun y H1 => ∃ z u v, y = .str z ∧ PySem.W.nsIn K a z = some (some u) ∧ RelV v u ∧ Q v H1
theorem pe_kdget {ti : TE} (D : ∃ es n, KDict X.K X.w a es n) (hg : Gl X x) (hm : X.mg x = some (.ref a)) (he : PE X e ti) (m : M1 X (.Name x p) "get" apos e cpos) (hd : (x == ("__debug__" : Str)) = false := by decide) : PE X (.Call (.Attribute (.Name x p) "get" apos) [e] [] cpos) (tKDget X.K a ti) := by
  obtain ⟨es, n, D⟩ := D
  refine ⟨fun pins s σ H Q I h => ?_⟩
  refine wpAny_Call_method m.base m.few m.line PySem.F.plainAttrs_dict PySem.F.slot_dict_get PySem.F.type_dict_get (thn ((pe_glob (v := .ref a) hg hm rfl hd).run pins s σ H (fun v H' => v = .ref a ∧ H' = H) I ⟨rfl, rfl⟩) fun u s1 ⟨x, H1, I1, rx, q1⟩ => ?_)
  obtain ⟨rfl, rfl⟩ := q1
  obtain rfl : u = Value.ref a := rx
  refine ⟨⟨_, I1.kIn _ _ D.at_, rfl⟩, fun b q => ?_, ?_⟩
  · cases q
    exact ⟨_, I1.kIn _ _ D.at_, rfl⟩
  rw [m.trees]
  refine Calls.callWith_builtin rfl (Calls.evalArgs_plain (Calls.spliced_cons (thn (he.run pins s1 σ H1 _ I1 h) fun iv s2 ⟨y, H2, I2, ry, q2⟩ => Calls.spliced_nil ?_)))
  obtain ⟨z, u, v, rfl, e1, r, q⟩ := q2
  obtain ⟨t, rfl⟩ := ry
  have mp := PySem.W.mapOf_K (prog := X.prog) (w := X.w) I2.kIn D.at_ D.lit
  refine call_meetsIn PySem.F.slot_dict_get mp.typeIs PySem.F.entry_dict_get (PySem.F.args_dict_get_2 _ _) (meets_dict_get (hkey := strKind_is X.prog X.w z t) (hd := D.low)) ⟨_, mp, ?_⟩
  rw [PySem.W.find_K D.at_ e1]
  exact ⟨v, H2, I2.tok _, r, q⟩
theorem pf_ops {T : List (Str × D)} (O : OpsAt X.K X.w a T) (hg : Gl X x) (hm : X.mg x = some (.ref a)) (he : PF X e f) (m : M1 X (.Name x p) "get" apos e cpos := by exact ⟨rfl, rfl, rfl, rfl⟩) (hd : (x == ("__debug__" : Str)) = false := by decide) :
    PF X (.Call (.Attribute (.Name x p) "get" apos) [e] [] cpos) (eOps T f) := pf_of (pe_kdget O.kd hg hm he m hd) fun σ H Q ⟨δ, ads, M, d, M', hs, hz, hf, k⟩ => by
  obtain ⟨⟨d1, M1⟩, e1, hf⟩ := bind_some hf
  dsimp only at hf
  split at hf
  · rename_i z
    obtain ⟨c, e2, hf⟩ := map_some hf
    obtain ⟨rfl, rfl⟩ := pr hf
    refine ⟨δ, ads, M, _, _, hs, hz, e1, fun v H1 ads1 f1 z1 i1 => ?_⟩
    cases (show v = V.str _ from i1)
    obtain ⟨u, e3, v, r, i⟩ := O.val _ _ e2
    exact ⟨_, u, v, rfl, e3, r, k v H1 ads1 f1 z1 (i H1 ads1)⟩
  · cases hf
end
end DL
/-! Printed by gen.py: what each def does, as a function. -/
namespace DR
open PySem PySem.Spec PyProof.Rows L2 DL
abbrev FU : Nat := 24
def opsT : List (Str × D) := [("add", .tup [.str "n", .str "nn"]), ("sub", .tup [.str "n", .str "nn"]), ("mul", .tup [.str "n", .str "nn"]), ("div", .tup [.str "n", .str "nn"]), ("rest", .tup [.str "n", .str "nn"]), ("less", .tup [.str "n", .str "nn"]), ("same", .tup [.str "n", .str "nn"]), ("pick", .tup [.str "n", .str "nnn"]), ("copy", .tup [.str "n", .str "n"]), ("at", .tup [.str "n", .str "rn"]), ("size", .tup [.str "n", .str "r"]), ("put", .tup [.str "r", .str "rnn"]), ("many", .tup [.str "r", .str "nn"]), ("make", .tup [.str "r", .non]), ("keep", .tup [.str "r", .str "r"])]
def dSUMS : D := .tup [.str "add", .str "sub"]
noncomputable section
/-! taken_in: 0 whole -/
def fb_taken_in : TFS := (sRet (eOp gAdd (eOp gMod (eOp gSub (eVar 0) (eC (.int (-32768)))) (eC (.int (65536)))) (eC (.int (-32768)))))
def fn_taken_in : TFn := runF 1 fb_taken_in
/-! kinds_of: 0 op -/
def fb_kinds_of : TFS := (sRet (eOps opsT (eVar 0)))
def fn_kinds_of : TFn := runF 1 fb_kinds_of
/-! divided: 0 one, 1 other -/
def fb_divided : TFS := (sSeq (sIf (eT (eOp gEq (eVar 1) (eC (.int 0)))) (sRet (eC (.int 0))) sNil)
    (sRet (eFn 1 fn_taken_in (aCons (eOp gDiv (eVar 0) (eVar 1)) aNil))))
def fn_divided : TFn := runF 2 fb_divided
/-! done_sum: 0 op, 1 one, 2 other -/
def fb_done_sum : TFS := (sSeq (sIf (eT (eOp gEq (eVar 0) (eC (.str "add")))) (sRet (eFn 1 fn_taken_in (aCons (eOp gAdd (eVar 1) (eVar 2)) aNil))) sNil)
    (sSeq (sIf (eT (eOp gEq (eVar 0) (eC (.str "sub")))) (sRet (eFn 1 fn_taken_in (aCons (eOp gSub (eVar 1) (eVar 2)) aNil))) sNil)
    (sSeq (sIf (eT (eOp gEq (eVar 0) (eC (.str "mul")))) (sRet (eFn 1 fn_taken_in (aCons (eOp gMul (eVar 1) (eVar 2)) aNil))) sNil)
    (sSeq (sIf (eT (eOp gEq (eVar 0) (eC (.str "div")))) (sRet (eFn 2 fn_divided (aCons (eVar 1) (aCons (eVar 2) aNil)))) sNil)
    (sSeq (sIf (eT (eOp gEq (eVar 0) (eC (.str "rest")))) (sRet (eFn 1 fn_taken_in (aCons (eOp gSub (eVar 1) (eOp gMul (eVar 2) (eFn 2 fn_divided (aCons (eVar 1) (aCons (eVar 2) aNil))))) aNil))) sNil)
    (sSeq (sIf (eT (eOp gEq (eVar 0) (eC (.str "less")))) (sRet (eCall gInt1 (aCons (eOp gLt (eVar 1) (eVar 2)) aNil))) sNil)
    (sRet (eCall gInt1 (aCons (eOp gEq (eVar 1) (eVar 2)) aNil)))))))))
def fn_done_sum : TFn := runF 3 fb_done_sum
/-! done: 0 op, 1 values -/
def fb_done : TFS := (sSeq (sIf (eOr (eT (eOp gEq (eVar 0) (eC (.str "copy")))) (eT (eOp gEq (eVar 0) (eC (.str "keep"))))) (sRet (eOp gIx (eVar 1) (eC (.int 0)))) sNil)
    (sSeq (sIf (eT (eOp gEq (eVar 0) (eC (.str "pick")))) (sRet (eIf (eT (eOp gNe (eOp gIx (eVar 1) (eC (.int 0))) (eC (.int 0)))) (eOp gIx (eVar 1) (eC (.int 1))) (eOp gIx (eVar 1) (eC (.int 2))))) sNil)
    (sSeq (sIf (eT (eOp (gIn false) (eVar 0) (eTup (aCons (eC (.str "at")) (aCons (eC (.str "size")) (aCons (eC (.str "put")) (aCons (eC (.str "many")) (aCons (eC (.str "make")) aNil)))))))) sNever sNil)
    (sRet (eFn 3 fn_done_sum (aCons (eVar 0) (aCons (eOp gIx (eVar 1) (eC (.int 0))) (aCons (eOp gIx (eVar 1) (eC (.int 1))) aNil))))))))
def fn_done : TFn := runF 2 fb_done
/-! __init__: 0 self -/
def fb_m_init : TFS := (sSeq (sFldD "contents" (eLstM aNil) (eVar 0))
    (sSeq (sFldD "numbers" eDctN (eVar 0))
    (sSeq (sFldD "thing_keys" (eLstM aNil) (eVar 0))
    (sFldD "things" eDctN (eVar 0)))))
def fn_m_init : TFn := runF 1 fb_m_init
/-! kept: 0 self, 1 content -/
def fb_m_kept : TFS := (sSeq (sIf (eT (eOp (gDin true) (eVar 1) (eFld "numbers" (eVar 0)))) (sSeq (sDput (eCall gLen (aCons (eFld "contents" (eVar 0)) aNil)) (eFld "numbers" (eVar 0)) (eVar 1))
    (sDrop (eApp' (eFld "contents" (eVar 0)) (eVar 1)))) sNil)
    (sRet (eOp gDget (eFld "numbers" (eVar 0)) (eVar 1))))
def fn_m_kept : TFn := runF 2 fb_m_kept
/-! kept_thing: 0 self, 1 kind, 2 key -/
def fb_m_kept_thing : TFS := (sSeq (sIf (eT (eOp (gDin true) (eVar 2) (eFld "things" (eVar 0)))) (sSeq (sDput (eCall gLen (aCons (eFld "thing_keys" (eVar 0)) aNil)) (eFld "things" (eVar 0)) (eVar 2))
    (sDrop (eApp' (eFld "thing_keys" (eVar 0)) (eVar 2)))) sNil)
    (sSeq (sIf (eT (eOp gEq (eVar 1) (eC (.str "r")))) (sRet (eMeth "kept" 2 fn_m_kept (eVar 0) (aCons (eTup (aCons (eC (.str "row")) (aCons (eOp gDget (eFld "things" (eVar 0)) (eVar 2)) aNil))) aNil))) sNil)
    (sRet (eMeth "kept" 2 fn_m_kept (eVar 0) (aCons (eTup (aCons (eC (.str "sum")) (aCons (eC (.int 0)) (aCons (eTup (aCons (eTup (aCons (eOp gDget (eFld "things" (eVar 0)) (eVar 2)) (aCons (eC (.int 1)) aNil))) aNil)) aNil)))) aNil)))))
def fn_m_kept_thing : TFn := runF 3 fb_m_kept_thing
/-! plain: 0 self, 1 number -/
def fb_m_plain : TFS := (sRet (eMeth "kept" 2 fn_m_kept (eVar 0) (aCons (eTup (aCons (eC (.str "sum")) (aCons (eVar 1) (aCons (eTup aNil) aNil)))) aNil)))
def fn_m_plain : TFn := runF 2 fb_m_plain
/-! thing: 0 self, 1 kind, 2 label -/
def fb_m_thing : TFS := (sRet (eMeth "kept_thing" 3 fn_m_kept_thing (eVar 0) (aCons (eVar 1) (aCons (eTup (aCons (eC (.str "thing")) (aCons (eVar 1) (aCons (eVar 2) aNil)))) aNil))))
def fn_m_thing : TFn := runF 3 fb_m_thing
/-! whole: 0 self, 1 form, 2 content -/
def fb_m_whole : TFS := (sSeq (sSet 2 (eOp gIx (eFld "contents" (eVar 0)) (eVar 1)))
    (sSeq (sIf (eAnd (eT (eOp gEq (eOp gIx (eVar 2) (eC (.int 0))) (eC (.str "sum")))) (eT (eOp gEq (eOp gIx (eVar 2) (eC (.int 2))) (eTup aNil)))) (sRet (eOp gIx (eVar 2) (eC (.int 1)))) sNil)
    (sRet (eC .non))))
def fn_m_whole : TFn := runF 3 fb_m_whole
/-! kind: 0 self, 1 form -/
def fb_m_kind : TFS := (sRet (eIf (eT (eOp gEq (eOp gIx (eOp gIx (eFld "contents" (eVar 0)) (eVar 1)) (eC (.int 0))) (eC (.str "sum")))) (eC (.str "n")) (eC (.str "r"))))
def fn_m_kind : TFn := runF 2 fb_m_kind
/-! key_of: 0 self, 1 form -/
def fb_m_key_of : TFS := (sRet (eOp gIx (eFld "thing_keys" (eVar 0)) (eOp gIx (eOp gIx (eFld "contents" (eVar 0)) (eVar 1)) (eC (.int 1)))))
def fn_m_key_of : TFn := runF 2 fb_m_key_of
/-! added: 0 self, 1 one, 2 other, 3 times, 4 first, 5 second, 6 parts, 7 thing, 8 many, 9 left -/
def fb_m_added : TFS := (sSeq (sSet 4 (eOp gIx (eFld "contents" (eVar 0)) (eVar 1)))
    (sSeq (sSet 5 (eOp gIx (eFld "contents" (eVar 0)) (eVar 2)))
    (sSeq (sSet 6 eDctI)
    (sSeq (sFor (iTupD (eOp gIx (eVar 4) (eC (.int 2)))) (gPr 7 8) (sDputI (eVar 8) (eVar 6) (eVar 7)))
    (sSeq (sFor (iTupD (eOp gIx (eVar 5) (eC (.int 2)))) (gPr 7 8) (sDputI (eFn 1 fn_taken_in (aCons (eOp gAdd (eGet2 (eVar 6) (eVar 7) (eC (.int 0))) (eOp gMul (eVar 3) (eVar 8))) aNil)) (eVar 6) (eVar 7)))
    (sSeq (sSet 9 (eCall gTuple (aCons (eLc 7 (iLstD (eCall gSortedD (aCons (eVar 6) aNil))) (eT (eOp gNe (eOp gDgetI (eVar 6) (eVar 7)) (eC (.int 0)))) (eTup (aCons (eVar 7) (aCons (eOp gDgetI (eVar 6) (eVar 7)) aNil)))) aNil)))
    (sRet (eTup (aCons (eC (.str "sum")) (aCons (eFn 1 fn_taken_in (aCons (eOp gAdd (eOp gIx (eVar 4) (eC (.int 1))) (eOp gMul (eVar 3) (eOp gIx (eVar 5) (eC (.int 1))))) aNil)) (aCons (eVar 9) aNil)))))))))))
def fn_m_added : TFn := runF 10 fb_m_added
/-! so_often: 0 self, 1 form, 2 times -/
def fb_m_so_often : TFS := (sRet (eMeth "kept" 2 fn_m_kept (eVar 0) (aCons (eMeth "added" 4 fn_m_added (eVar 0) (aCons (eMeth "plain" 2 fn_m_plain (eVar 0) (aCons (eC (.int 0)) aNil)) (aCons (eVar 1) (aCons (eVar 2) aNil)))) aNil)))
def fn_m_so_often : TFn := runF 3 fb_m_so_often
/-! same_of: 0 self, 1 one, 2 other, 3 content, 4 turned -/
def fb_m_same_of : TFS := (sSeq (sSet 3 (eMeth "added" 4 fn_m_added (eVar 0) (aCons (eVar 1) (aCons (eVar 2) (aCons (eUn gNeg (eC (.int 1))) aNil)))))
    (sSeq (sIf (eT (eOp gEq (eOp gIx (eVar 3) (eC (.int 2))) (eTup aNil))) (sRet (eMeth "plain" 2 fn_m_plain (eVar 0) (aCons (eCall gInt1 (aCons (eOp gEq (eOp gIx (eVar 3) (eC (.int 1))) (eC (.int 0))) aNil)) aNil))) sNil)
    (sSeq (sSet 4 (eMeth "added" 4 fn_m_added (eVar 0) (aCons (eVar 2) (aCons (eVar 1) (aCons (eUn gNeg (eC (.int 1))) aNil)))))
    (sRet (eMeth "kept_thing" 3 fn_m_kept_thing (eVar 0) (aCons (eC (.str "n")) (aCons (eTup (aCons (eC (.str "same")) (aCons (eMeth "kept" 2 fn_m_kept (eVar 0) (aCons (eCall gMinA (aCons (eVar 3) (aCons (eVar 4) aNil))) aNil)) aNil))) aNil)))))))
def fn_m_same_of : TFn := runF 5 fb_m_same_of
/-! mul_of: 0 self, 1 one, 2 other -/
def fb_m_mul_of : TFS := (sSeq (sIf (eT (eOp (gIs true) (eMeth "whole" 2 fn_m_whole (eVar 0) (aCons (eVar 1) aNil)) (eC .non))) (sRet (eMeth "so_often" 3 fn_m_so_often (eVar 0) (aCons (eVar 2) (aCons (eMeth "whole" 2 fn_m_whole (eVar 0) (aCons (eVar 1) aNil)) aNil)))) sNil)
    (sSeq (sIf (eT (eOp (gIs true) (eMeth "whole" 2 fn_m_whole (eVar 0) (aCons (eVar 2) aNil)) (eC .non))) (sRet (eMeth "so_often" 3 fn_m_so_often (eVar 0) (aCons (eVar 1) (aCons (eMeth "whole" 2 fn_m_whole (eVar 0) (aCons (eVar 2) aNil)) aNil)))) sNil)
    (sRet (eMeth "kept_thing" 3 fn_m_kept_thing (eVar 0) (aCons (eC (.str "n")) (aCons (eTup (aCons (eC (.str "mul")) (aCons (eCall gMin2 (aCons (eVar 1) (aCons (eVar 2) aNil))) (aCons (eCall gMax2 (aCons (eVar 1) (aCons (eVar 2) aNil))) aNil)))) aNil))))))
def fn_m_mul_of : TFn := runF 3 fb_m_mul_of
/-! divided: 0 self, 1 op, 2 one, 3 other, 4 by -/
def fb_m_divided : TFS := (sSeq (sSet 4 (eMeth "whole" 2 fn_m_whole (eVar 0) (aCons (eVar 3) aNil)))
    (sSeq (sIf (eT (eOp gEq (eVar 4) (eC (.int 0)))) (sRet (eIf (eT (eOp gEq (eVar 1) (eC (.str "div")))) (eMeth "plain" 2 fn_m_plain (eVar 0) (aCons (eC (.int 0)) aNil)) (eVar 2))) sNil)
    (sSeq (sIf (eT (eOp gEq (eVar 4) (eC (.int 1)))) (sRet (eIf (eT (eOp gEq (eVar 1) (eC (.str "div")))) (eVar 2) (eMeth "plain" 2 fn_m_plain (eVar 0) (aCons (eC (.int 0)) aNil)))) sNil)
    (sRet (eC .non)))))
def fn_m_divided : TFn := runF 5 fb_m_divided
/-! at_of: 0 self, 1 row, 2 place, 3 at, 4 key -/
def fb_m_at_of : TFS := (sSeq (sSet 3 (eMeth "whole" 2 fn_m_whole (eVar 0) (aCons (eVar 2) aNil)))
    (sSeq (sSet 4 (eMeth "key_of" 2 fn_m_key_of (eVar 0) (aCons (eVar 1) aNil)))
    (sSeq (sIf (eT (eOp (gIs false) (eVar 3) (eC .non))) (sRet (eC .non)) sNil)
    (sSeq (sIf (eT (eOp gEq (eOp gIx (eVar 4) (eC (.int 0))) (eC (.str "make")))) (sRet (eIf (eT (eChain gLe gLt (eC (.int 0)) (eVar 3) (eOp gSub (eCall gLen (aCons (eVar 4) aNil)) (eC (.int 1))))) (eOp gIx (eVar 4) (eOp gAdd (eC (.int 1)) (eVar 3))) (eMeth "plain" 2 fn_m_plain (eVar 0) (aCons (eC (.int 0)) aNil)))) sNil)
    (sSeq (sIf (eAnd (eT (eOp gEq (eOp gIx (eVar 4) (eC (.int 0))) (eC (.str "many")))) (eT (eOp (gIs true) (eMeth "whole" 2 fn_m_whole (eVar 0) (aCons (eOp gIx (eVar 4) (eC (.int 1))) aNil)) (eC .non)))) (sRet (eIf (eT (eChain gLe gLt (eC (.int 0)) (eVar 3) (eCall gMin2 (aCons (eC (.int 40)) (aCons (eMeth "whole" 2 fn_m_whole (eVar 0) (aCons (eOp gIx (eVar 4) (eC (.int 1))) aNil)) aNil))))) (eOp gIx (eVar 4) (eC (.int 2))) (eMeth "plain" 2 fn_m_plain (eVar 0) (aCons (eC (.int 0)) aNil)))) sNil)
    (sRet (eC .non)))))))
def fn_m_at_of : TFn := runF 5 fb_m_at_of
/-! size_of: 0 self, 1 row, 2 key -/
def fb_m_size_of : TFS := (sSeq (sSet 2 (eMeth "key_of" 2 fn_m_key_of (eVar 0) (aCons (eVar 1) aNil)))
    (sSeq (sWhile (eT (eOp gEq (eOp gIx (eVar 2) (eC (.int 0))) (eC (.str "put")))) (sSeq (sSet 1 (eOp gIx (eVar 2) (eC (.int 1))))
    (sSet 2 (eMeth "key_of" 2 fn_m_key_of (eVar 0) (aCons (eVar 1) aNil)))))
    (sSeq (sIf (eT (eOp gEq (eOp gIx (eVar 2) (eC (.int 0))) (eC (.str "make")))) (sRet (eMeth "plain" 2 fn_m_plain (eVar 0) (aCons (eOp gSub (eCall gLen (aCons (eVar 2) aNil)) (eC (.int 1))) aNil))) sNil)
    (sSeq (sIf (eAnd (eT (eOp gEq (eOp gIx (eVar 2) (eC (.int 0))) (eC (.str "many")))) (eT (eOp (gIs true) (eMeth "whole" 2 fn_m_whole (eVar 0) (aCons (eOp gIx (eVar 2) (eC (.int 1))) aNil)) (eC .non)))) (sRet (eMeth "plain" 2 fn_m_plain (eVar 0) (aCons (eCall gMax2 (aCons (eC (.int 0)) (aCons (eCall gMin2 (aCons (eC (.int 40)) (aCons (eMeth "whole" 2 fn_m_whole (eVar 0) (aCons (eOp gIx (eVar 2) (eC (.int 1))) aNil)) aNil))) aNil))) aNil))) sNil)
    (sRet (eMeth "kept_thing" 3 fn_m_kept_thing (eVar 0) (aCons (eC (.str "n")) (aCons (eTup (aCons (eC (.str "size")) (aCons (eVar 1) aNil))) aNil))))))))
def fn_m_size_of : TFn := runF 3 fb_m_size_of
/-! put_of: 0 self, 1 row, 2 place, 3 number, 4 key, 5 at -/
def fb_m_put_of : TFS := (sSeq (sSet 4 (eMeth "key_of" 2 fn_m_key_of (eVar 0) (aCons (eVar 1) aNil)))
    (sSeq (sSet 5 (eMeth "whole" 2 fn_m_whole (eVar 0) (aCons (eVar 2) aNil)))
    (sSeq (sIf (eOr (eT (eOp gNe (eOp gIx (eVar 4) (eC (.int 0))) (eC (.str "make")))) (eT (eOp (gIs false) (eVar 5) (eC .non)))) (sRet (eMeth "kept_thing" 3 fn_m_kept_thing (eVar 0) (aCons (eC (.str "r")) (aCons (eTup (aCons (eC (.str "put")) (aCons (eVar 1) (aCons (eVar 2) (aCons (eVar 3) aNil))))) aNil)))) sNil)
    (sSeq (sIf (eOr (eT (eOp gLt (eVar 5) (eC (.int 0)))) (eT (eOp gGe (eVar 5) (eOp gSub (eCall gLen (aCons (eVar 4) aNil)) (eC (.int 1)))))) (sRet (eVar 1)) sNil)
    (sRet (eMeth "kept_thing" 3 fn_m_kept_thing (eVar 0) (aCons (eC (.str "r")) (aCons (eOp gAdd (eOp gAdd (eSl (eVar 4) oNone (oSome (eOp gAdd (eC (.int 1)) (eVar 5)))) (eTup (aCons (eVar 3) aNil))) (eSl (eVar 4) (oSome (eOp gAdd (eC (.int 2)) (eVar 5))) oNone)) aNil))))))))
def fn_m_put_of : TFn := runF 6 fb_m_put_of
/-! by_rule: 0 self, 1 op, 2 forms -/
def fb_m_by_rule : TFS := (sSeq (sIf (eOr (eT (eOp gEq (eVar 1) (eC (.str "copy")))) (eT (eOp gEq (eVar 1) (eC (.str "keep"))))) (sRet (eOp gIx (eVar 2) (eC (.int 0)))) sNil)
    (sSeq (sIf (eT (eOp (gIn false) (eVar 1) (eC dSUMS))) (sRet (eMeth "kept" 2 fn_m_kept (eVar 0) (aCons (eMeth "added" 4 fn_m_added (eVar 0) (aCons (eOp gIx (eVar 2) (eC (.int 0))) (aCons (eOp gIx (eVar 2) (eC (.int 1))) (aCons (eIf (eT (eOp gEq (eVar 1) (eC (.str "add")))) (eC (.int 1)) (eUn gNeg (eC (.int 1)))) aNil)))) aNil))) sNil)
    (sSeq (sIf (eT (eOp gEq (eVar 1) (eC (.str "mul")))) (sRet (eMeth "mul_of" 3 fn_m_mul_of (eVar 0) (aCons (eOp gIx (eVar 2) (eC (.int 0))) (aCons (eOp gIx (eVar 2) (eC (.int 1))) aNil)))) sNil)
    (sSeq (sIf (eT (eOp gEq (eVar 1) (eC (.str "same")))) (sRet (eMeth "same_of" 3 fn_m_same_of (eVar 0) (aCons (eOp gIx (eVar 2) (eC (.int 0))) (aCons (eOp gIx (eVar 2) (eC (.int 1))) aNil)))) sNil)
    (sSeq (sIf (eAnd (eT (eOp gEq (eVar 1) (eC (.str "less")))) (eT (eOp gEq (eOp gIx (eVar 2) (eC (.int 0))) (eOp gIx (eVar 2) (eC (.int 1)))))) (sRet (eMeth "plain" 2 fn_m_plain (eVar 0) (aCons (eC (.int 0)) aNil))) sNil)
    (sSeq (sIf (eOr (eT (eOp gEq (eVar 1) (eC (.str "div")))) (eT (eOp gEq (eVar 1) (eC (.str "rest"))))) (sRet (eMeth "divided" 4 fn_m_divided (eVar 0) (aCons (eVar 1) (aCons (eOp gIx (eVar 2) (eC (.int 0))) (aCons (eOp gIx (eVar 2) (eC (.int 1))) aNil))))) sNil)
    (sSeq (sIf (eT (eOp gEq (eVar 1) (eC (.str "pick")))) (sSeq (sIf (eT (eOp (gIs true) (eMeth "whole" 2 fn_m_whole (eVar 0) (aCons (eOp gIx (eVar 2) (eC (.int 0))) aNil)) (eC .non))) (sRet (eIf (eT (eOp gNe (eMeth "whole" 2 fn_m_whole (eVar 0) (aCons (eOp gIx (eVar 2) (eC (.int 0))) aNil)) (eC (.int 0)))) (eOp gIx (eVar 2) (eC (.int 1))) (eOp gIx (eVar 2) (eC (.int 2))))) sNil)
    (sRet (eIf (eT (eOp gEq (eOp gIx (eVar 2) (eC (.int 1))) (eOp gIx (eVar 2) (eC (.int 2))))) (eOp gIx (eVar 2) (eC (.int 1))) (eC .non)))) sNil)
    (sSeq (sIf (eT (eOp gEq (eVar 1) (eC (.str "at")))) (sRet (eMeth "at_of" 3 fn_m_at_of (eVar 0) (aCons (eOp gIx (eVar 2) (eC (.int 0))) (aCons (eOp gIx (eVar 2) (eC (.int 1))) aNil)))) sNil)
    (sSeq (sIf (eT (eOp gEq (eVar 1) (eC (.str "size")))) (sRet (eMeth "size_of" 2 fn_m_size_of (eVar 0) (aCons (eOp gIx (eVar 2) (eC (.int 0))) aNil))) sNil)
    (sSeq (sIf (eT (eOp gEq (eVar 1) (eC (.str "put")))) (sRet (eMeth "put_of" 4 fn_m_put_of (eVar 0) (aCons (eOp gIx (eVar 2) (eC (.int 0))) (aCons (eOp gIx (eVar 2) (eC (.int 1))) (aCons (eOp gIx (eVar 2) (eC (.int 2))) aNil))))) sNil)
    (sRet (eC .non))))))))))))
def fn_m_by_rule : TFn := runF 3 fb_m_by_rule
/-! made: 0 self, 1 op, 2 forms, 3 found, 4 kind, 5 numbers, 6 form -/
def fb_m_made : TFS := (sSeq (sSet 3 (eMeth "by_rule" 3 fn_m_by_rule (eVar 0) (aCons (eVar 1) (aCons (eVar 2) aNil))))
    (sSeq (sIf (eT (eOp (gIs true) (eVar 3) (eC .non))) (sRet (eVar 3)) sNil)
    (sSeq (sSet 4 (eOp gIx (eFn 1 fn_kinds_of (aCons (eVar 1) aNil)) (eC (.int 0))))
    (sSeq (sSet 5 (eLc 6 (iTupD (eVar 2)) tTrue (eIf (eT (eOp gEq (eMeth "kind" 2 fn_m_kind (eVar 0) (aCons (eVar 6) aNil)) (eC (.str "n")))) (eMeth "whole" 2 fn_m_whole (eVar 0) (aCons (eVar 6) aNil)) (eC .non))))
    (sSeq (sIf (eAnd (eT (eOp gEq (eVar 4) (eC (.str "n")))) (eT (eOp (gIn true) (eC .non) (eVar 5)))) (sRet (eMeth "plain" 2 fn_m_plain (eVar 0) (aCons (eFn 2 fn_done (aCons (eVar 1) (aCons (eCall gTuple (aCons (eVar 5) aNil)) aNil))) aNil))) sNil)
    (sRet (eMeth "kept_thing" 3 fn_m_kept_thing (eVar 0) (aCons (eVar 4) (aCons (eOp gAdd (eTup (aCons (eVar 1) aNil)) (eCall gTuple (aCons (eVar 2) aNil))) aNil)))))))))
def fn_m_made : TFn := runF 7 fb_m_made
/-! all_of: 0 text, 1 signs, 2 sign -/
def fb_all_of : TFS := (sSeq (sFor (iStrD (eVar 0)) (gNm 2) (sIf (eT (eOp (gIn true) (eVar 2) (eVar 1))) (sRet (eC (.bl false))) sNil))
    (sRet (eC (.bl true))))
def fn_all_of : TFn := runF 3 fb_all_of
/-! kind_of: 0 name, 1 figures -/
def fb_kind_of : TFS := (sSeq (sSet 1 (eSl (eVar 0) (oSome (eC (.int 1))) oNone))
    (sSeq (sIf (eOr (eT (eOp (gIn true) (eSl (eVar 0) oNone (oSome (eC (.int 1)))) (eTup (aCons (eC (.str "n")) (aCons (eC (.str "r")) aNil))))) (eOr (eT (eOp gLt (eCall gLen (aCons (eVar 1) aNil)) (eC (.int 1)))) (eOr (eT (eOp gGt (eCall gLen (aCons (eVar 1) aNil)) (eC (.int 5)))) (eNot (eT (eFn 2 fn_all_of (aCons (eVar 1) (aCons (eC (.str "0123456789")) aNil)))))))) (sRet (eC .non)) sNil)
    (sSeq (sIf (eAnd (eT (eOp gEq (eOp gIx (eVar 1) (eC (.int 0))) (eC (.str "0")))) (eT (eOp gGt (eCall gLen (aCons (eVar 1) aNil)) (eC (.int 1))))) (sRet (eC .non)) sNil)
    (sRet (eOp gIx (eVar 0) (eC (.int 0)))))))
def fn_kind_of : TFn := runF 2 fb_kind_of
/-! form_of: 0 forms, 1 term, 2 names, 3 found, 4 operand -/
def fb_form_of (rec : TFn) : TFS := (sSeq (sIf (eT (eUn (gIsi "int") (eVar 1))) (sRet (eMeth "plain" 2 fn_m_plain (eVar 0) (aCons (eVar 1) aNil))) sNil)
    (sSeq (sIf (eT (eUn (gIsi "int") (eOp gIx (eVar 1) (eC (.int 0))))) (sRet (eGet1 (eVar 2) (eVar 1))) sNil)
    (sSeq (sSet 3 (eLc 4 (iTupD (eSl (eVar 1) (oSome (eC (.int 1))) oNone)) tTrue (eFn 3 rec (aCons (eVar 0) (aCons (eVar 4) (aCons (eVar 2) aNil))))))
    (sSeq (sIf (eT (eOp (gIn false) (eC .non) (eVar 3))) (sRet (eC .non)) sNil)
    (sRet (eMeth "made" 3 fn_m_made (eVar 0) (aCons (eOp gIx (eVar 1) (eC (.int 0))) (aCons (eCall gTuple (aCons (eVar 3) aNil)) aNil))))))))
def fn_form_of : Nat → TFn
  | 0 => fun _ _ => none
  | n + 1 => runF 5 (fb_form_of (fn_form_of n))
/-! names_in: 0 term, 1 found, 2 operand -/
def fb_names_in (rec : TFn) : TFS := (sSeq (sIf (eT (eUn (gIsi "int") (eVar 0))) (sRet (eLstM aNil)) sNil)
    (sSeq (sIf (eT (eUn (gIsi "int") (eOp gIx (eVar 0) (eC (.int 0))))) (sRet (eLstM (aCons (eVar 0) aNil))) sNil)
    (sSeq (sSet 1 (eLstM aNil))
    (sSeq (sFor (iTupD (eSl (eVar 0) (oSome (eC (.int 1))) oNone)) (gNm 2) (sDrop (eExt (eVar 1) (eFn 1 rec (aCons (eVar 2) aNil)))))
    (sRet (eVar 1))))))
def fn_names_in : Nat → TFn
  | 0 => fun _ _ => none
  | n + 1 => runF 3 (fb_names_in (fn_names_in n))
/-! alike: 0 one, 1 other, 2 forms, 3 names, 4 named -/
def fb_alike : TFS := (sSeq (sSet 2 (eMake fn_m_init))
    (sSeq (sSet 3 eDctN)
    (sSeq (sFor (iLstD (eOp gAdd (eFn 1 (fn_names_in FU) (aCons (eVar 0) aNil)) (eFn 1 (fn_names_in FU) (aCons (eVar 1) aNil)))) (gNm 4) (sDput (eMeth "thing" 3 fn_m_thing (eVar 2) (aCons (eFn 1 fn_kind_of (aCons (eOp gIx (eVar 4) (eC (.int 1))) aNil)) (aCons (eVar 4) aNil))) (eVar 3) (eVar 4)))
    (sRet (eOp gEq (eFn 3 (fn_form_of FU) (aCons (eVar 2) (aCons (eVar 0) (aCons (eVar 3) aNil)))) (eFn 3 (fn_form_of FU) (aCons (eVar 2) (aCons (eVar 1) (aCons (eVar 3) aNil)))))))))
def fn_alike : TFn := runF 5 fb_alike
/-! _law_cell_at: 0 _law_script, 1 _law_k -/
def fb__law_cell_at : TFS := (sSeq (sIf (eT (eOp gLt (eVar 1) (eCall gLen (aCons (eVar 0) aNil)))) (sRet (eOp gIx (eVar 0) (eVar 1))) sNil)
    (sRet (eC (.int 0))))
def fn__law_cell_at : TFn := runF 2 fb__law_cell_at
/-! _law_box: 0 _law_cell -/
def fb__law_box : TFS := (sRet (eLstM (aCons (eOp gDiv (eVar 0) (eC (.int 2))) (aCons (eOp gMod (eVar 0) (eC (.int 2))) (aCons (eC (.int 0)) (aCons (eOp gMod (eVar 0) (eC (.int 2147483647))) aNil))))))
def fn__law_box : TFn := runF 1 fb__law_box
/-! _law_take: 0 _law_box_here, 1 _law_many, 2 _law_found -/
def fb__law_take : TFS := (sSeq (sSetL (eOp gAdd (eOp gIx (eVar 0) (eC (.int 2))) (eC (.int 1))) (eVar 0) (eC (.int 2)))
    (sSeq (sIf (eAnd (eT (eOp gEq (eOp gIx (eVar 0) (eC (.int 1))) (eC (.int 0)))) (eT (eOp (gIn true) (eOp gIx (eVar 0) (eC (.int 0))) (eTup (aCons (eC (.int 0)) (aCons (eUn gNeg (eC (.int 1))) aNil)))))) (sSeq (sSet 2 (eOp gMod (eOp gIx (eVar 0) (eC (.int 0))) (eVar 1)))
    (sSeq (sSetL (eOp gDiv (eOp gIx (eVar 0) (eC (.int 0))) (eVar 1)) (eVar 0) (eC (.int 0)))
    (sRet (eVar 2)))) sNil)
    (sSeq (sSetL (eOp gMod (eOp gAdd (eOp gAdd (eOp gMul (eOp gIx (eVar 0) (eC (.int 3))) (eC (.int 48271))) (eOp gMul (eC (.int 7)) (eOp gIx (eVar 0) (eC (.int 2))))) (eC (.int 3))) (eC (.int 2147483647))) (eVar 0) (eC (.int 3)))
    (sRet (eOp gMod (eOp gDiv (eOp gMod (eOp gMul (eOp gIx (eVar 0) (eC (.int 3))) (eC (.int 69621))) (eC (.int 2147483629))) (eC (.int 11))) (eVar 1))))))
def fn__law_take : TFn := runF 3 fb__law_take
/-! _law_number: 0 _law_box_here, 1 _law_some -/
def fb__law_number : TFS := (sSeq (sSet 1 (eLst (aCons (eC (.int 0)) (aCons (eC (.int 1)) (aCons (eOp gSub (eFn 2 fn__law_take (aCons (eVar 0) (aCons (eC (.int 5)) aNil))) (eC (.int 1))) (aCons (eC (.int 32767)) (aCons (eUn gNeg (eC (.int 32768))) (aCons (eOp gSub (eFn 2 fn__law_take (aCons (eVar 0) (aCons (eC (.int 65536)) aNil))) (eC (.int 32768))) aNil))))))))
    (sRet (eOp gIx (eVar 1) (eFn 2 fn__law_take (aCons (eVar 0) (aCons (eC (.int 6)) aNil))))))
def fn__law_number : TFn := runF 2 fb__law_number
/-! _law_leaf: 0 _law_box_here, 1 _law_kind -/
def fb__law_leaf : TFS := (sSeq (sIf (eAnd (eT (eOp gEq (eVar 1) (eC (.str "n")))) (eT (eOp gEq (eFn 2 fn__law_take (aCons (eVar 0) (aCons (eC (.int 3)) aNil))) (eC (.int 0))))) (sRet (eFn 1 fn__law_number (aCons (eVar 0) aNil))) sNil)
    (sRet (eTup (aCons (eFn 2 fn__law_take (aCons (eVar 0) (aCons (eC (.int 2)) aNil))) (aCons (eOp gAdd (eVar 1) (eCall gStr1 (aCons (eFn 2 fn__law_take (aCons (eVar 0) (aCons (eC (.int 2)) aNil))) aNil))) aNil)))))
def fn__law_leaf : TFn := runF 2 fb__law_leaf
/-! _law_term: 0 _law_box_here, 1 _law_kind, 2 _law_deep, 3 _law_ops, 4 _law_kinds, 5 _law_k, 6 _law_one -/
def fb__law_term (rec : TFn) : TFS := (sSeq (sIf (eOr (eT (eOp gEq (eVar 2) (eC (.int 0)))) (eT (eOp gEq (eFn 2 fn__law_take (aCons (eVar 0) (aCons (eC (.int 4)) aNil))) (eC (.int 0))))) (sRet (eFn 2 fn__law_leaf (aCons (eVar 0) (aCons (eVar 1) aNil)))) sNil)
    (sSeq (sSet 3 (eLst (aCons (eC (.str "add")) (aCons (eC (.str "sub")) (aCons (eC (.str "mul")) (aCons (eC (.str "div")) (aCons (eC (.str "rest")) (aCons (eC (.str "less")) (aCons (eC (.str "same")) (aCons (eC (.str "pick")) (aCons (eC (.str "copy")) (aCons (eC (.str "at")) (aCons (eC (.str "size")) (aCons (eC (.str "add")) (aCons (eC (.str "sub")) aNil)))))))))))))))
    (sSeq (sSet 4 (eLst (aCons (eC (.str "nn")) (aCons (eC (.str "nn")) (aCons (eC (.str "nn")) (aCons (eC (.str "nn")) (aCons (eC (.str "nn")) (aCons (eC (.str "nn")) (aCons (eC (.str "nn")) (aCons (eC (.str "nnn")) (aCons (eC (.str "n")) (aCons (eC (.str "rn")) (aCons (eC (.str "r")) (aCons (eC (.str "nn")) (aCons (eC (.str "nn")) aNil)))))))))))))))
    (sSeq (sIf (eT (eOp gEq (eVar 1) (eC (.str "r")))) (sSeq (sSet 3 (eLst (aCons (eC (.str "put")) (aCons (eC (.str "many")) (aCons (eC (.str "keep")) (aCons (eC (.str "make")) (aCons (eC (.str "make")) aNil)))))))
    (sSet 4 (eLst (aCons (eC (.str "rnn")) (aCons (eC (.str "nn")) (aCons (eC (.str "r")) (aCons (eSl (eC (.str "nnn")) oNone (oSome (eFn 2 fn__law_take (aCons (eVar 0) (aCons (eC (.int 4)) aNil))))) (aCons (eC (.str "nn")) aNil)))))))) sNil)
    (sSeq (sSet 5 (eFn 2 fn__law_take (aCons (eVar 0) (aCons (eCall gLen (aCons (eVar 3) aNil)) aNil))))
    (sRet (eOp gAdd (eTup (aCons (eOp gIx (eVar 3) (eVar 5)) aNil)) (eCall gTuple (aCons (eLc 6 (iStrD (eOp gIx (eVar 4) (eVar 5))) tTrue (eFn 3 rec (aCons (eVar 0) (aCons (eVar 6) (aCons (eOp gSub (eVar 2) (eC (.int 1))) aNil))))) aNil)))))))))
def fn__law_term : Nat → TFn
  | 0 => fun _ _ => none
  | n + 1 => runF 7 (fb__law_term (fn__law_term n))
/-! _law_near: 0 _law_box_here, 1 _law_term_here, 2 _law_kind, 3 _law_other, 4 _law_some, 5 _law_found -/
def fb__law_near : TFS := (sSeq (sSet 3 (eFn 2 fn__law_leaf (aCons (eVar 0) (aCons (eC (.str "n")) aNil))))
    (sSeq (sIf (eT (eOp gEq (eVar 2) (eC (.str "r")))) (sSeq (sSet 4 (eLst (aCons (eTup (aCons (eC (.str "keep")) (aCons (eVar 1) aNil))) (aCons (eTup (aCons (eC (.str "put")) (aCons (eVar 1) (aCons (eVar 3) (aCons (eVar 3) aNil))))) (aCons (eVar 1) (aCons (eTup (aCons (eC (.str "many")) (aCons (eC (.int 2)) (aCons (eVar 3) aNil)))) (aCons (eTup (aCons (eC (.str "keep")) (aCons (eTup (aCons (eC (.str "keep")) (aCons (eVar 1) aNil))) aNil))) aNil)))))))
    (sRet (eOp gIx (eVar 4) (eFn 2 fn__law_take (aCons (eVar 0) (aCons (eC (.int 5)) aNil)))))) sNil)
    (sSeq (sSet 4 (eLst (aCons (eTup (aCons (eC (.str "add")) (aCons (eVar 1) (aCons (eC (.int 0)) aNil)))) (aCons (eTup (aCons (eC (.str "sub")) (aCons (eTup (aCons (eC (.str "add")) (aCons (eVar 1) (aCons (eVar 3) aNil)))) (aCons (eVar 3) aNil)))) (aCons (eTup (aCons (eC (.str "copy")) (aCons (eVar 1) aNil))) (aCons (eTup (aCons (eC (.str "pick")) (aCons (eVar 3) (aCons (eVar 1) (aCons (eVar 1) aNil))))) aNil))))))
    (sSeq (sSet 4 (eOp gAdd (eVar 4) (eLst (aCons (eTup (aCons (eC (.str "mul")) (aCons (eVar 1) (aCons (eC (.int 1)) aNil)))) (aCons (eTup (aCons (eC (.str "div")) (aCons (eVar 1) (aCons (eC (.int 1)) aNil)))) (aCons (eTup (aCons (eC (.str "rest")) (aCons (eVar 1) (aCons (eC (.int 0)) aNil)))) (aCons (eTup (aCons (eC (.str "at")) (aCons (eTup (aCons (eC (.str "make")) (aCons (eVar 3) (aCons (eVar 1) aNil)))) (aCons (eC (.int 1)) aNil)))) aNil)))))))
    (sSeq (sSet 4 (eOp gAdd (eVar 4) (eLst (aCons (eTup (aCons (eC (.str "at")) (aCons (eTup (aCons (eC (.str "many")) (aCons (eC (.int 3)) (aCons (eVar 1) aNil)))) (aCons (eC (.int 2)) aNil)))) (aCons (eTup (aCons (eC (.str "sub")) (aCons (eC (.int 0)) (aCons (eTup (aCons (eC (.str "sub")) (aCons (eC (.int 0)) (aCons (eVar 1) aNil)))) aNil)))) (aCons (eTup (aCons (eC (.str "add")) (aCons (eVar 1) (aCons (eC (.int 1)) aNil)))) (aCons (eTup (aCons (eC (.str "mul")) (aCons (eVar 1) (aCons (eC (.int 2)) aNil)))) aNil)))))))
    (sSeq (sSet 4 (eOp gAdd (eVar 4) (eLst (aCons (eTup (aCons (eC (.str "sub")) (aCons (eTup (aCons (eC (.str "mul")) (aCons (eC (.int 3)) (aCons (eVar 1) aNil)))) (aCons (eTup (aCons (eC (.str "add")) (aCons (eVar 1) (aCons (eVar 1) aNil)))) aNil)))) (aCons (eTup (aCons (eC (.str "pick")) (aCons (eC (.int 0)) (aCons (eVar 3) (aCons (eVar 1) aNil))))) (aCons (eTup (aCons (eC (.str "pick")) (aCons (eC (.int 5)) (aCons (eVar 1) (aCons (eVar 3) aNil))))) aNil))))))
    (sSeq (sSet 5 (eOp gIx (eVar 4) (eFn 2 fn__law_take (aCons (eVar 0) (aCons (eC (.int 15)) aNil)))))
    (sSeq (sIf (eAnd (eT (eUn (gIsi "tuple") (eVar 1))) (eAnd (eT (eOp (gIn false) (eOp gIx (eVar 1) (eC (.int 0))) (eTup (aCons (eC (.str "add")) (aCons (eC (.str "sub")) (aCons (eC (.str "mul")) (aCons (eC (.str "same")) (aCons (eC (.str "less")) aNil)))))))) (eT (eOp gEq (eFn 2 fn__law_take (aCons (eVar 0) (aCons (eC (.int 2)) aNil))) (eC (.int 0)))))) (sRet (eTup (aCons (eOp gIx (eVar 1) (eC (.int 0))) (aCons (eOp gIx (eVar 1) (eC (.int 2))) (aCons (eOp gIx (eVar 1) (eC (.int 1))) aNil))))) sNil)
    (sRet (eVar 5))))))))))
def fn__law_near : TFn := runF 6 fb__law_near
/-! _law_edge: 0 _law_box_here, 1 _law_term_here, 2 _law_kind, 3 _law_other, 4 _law_place, 5 _law_row, 6 _law_some, 7 _law_way -/
def fb__law_edge : TFS := (sSeq (sSet 3 (eFn 2 fn__law_leaf (aCons (eVar 0) (aCons (eC (.str "n")) aNil))))
    (sSeq (sSet 4 (eOp gIx (eLst (aCons (eUn gNeg (eC (.int 1))) (aCons (eC (.int 0)) (aCons (eC (.int 1)) (aCons (eC (.int 2)) (aCons (eC (.int 39)) (aCons (eC (.int 40)) aNil))))))) (eFn 2 fn__law_take (aCons (eVar 0) (aCons (eC (.int 6)) aNil)))))
    (sSeq (sSet 5 (eOp gIx (eLst (aCons (eTup (aCons (eC (.str "make")) (aCons (eVar 3) (aCons (eC (.int 7)) aNil)))) (aCons (eFn 2 fn__law_leaf (aCons (eVar 0) (aCons (eC (.str "r")) aNil))) aNil))) (eFn 2 fn__law_take (aCons (eVar 0) (aCons (eC (.int 2)) aNil)))))
    (sSeq (sIf (eT (eOp gEq (eVar 2) (eC (.str "r")))) (sRet (eTup (aCons (eOp gIx (eLst (aCons (eVar 5) (aCons (eVar 1) aNil))) (eFn 2 fn__law_take (aCons (eVar 0) (aCons (eC (.int 2)) aNil)))) (aCons (eTup (aCons (eC (.str "put")) (aCons (eVar 5) (aCons (eVar 4) (aCons (eVar 3) aNil))))) aNil)))) sNil)
    (sSeq (sSet 6 (eLst (aCons (eTup (aCons (eC (.str "div")) (aCons (eVar 1) (aCons (eC (.int 0)) aNil)))) (aCons (eTup (aCons (eC (.str "div")) (aCons (eVar 1) (aCons (eC (.int 1)) aNil)))) (aCons (eTup (aCons (eC (.str "rest")) (aCons (eVar 1) (aCons (eC (.int 0)) aNil)))) (aCons (eTup (aCons (eC (.str "rest")) (aCons (eVar 1) (aCons (eC (.int 1)) aNil)))) (aCons (eTup (aCons (eC (.str "pick")) (aCons (eVar 4) (aCons (eVar 3) (aCons (eVar 1) aNil))))) aNil)))))))
    (sSeq (sSet 6 (eOp gAdd (eVar 6) (eLst (aCons (eTup (aCons (eC (.str "at")) (aCons (eTup (aCons (eC (.str "many")) (aCons (eOp gIx (eLst (aCons (eC (.int 2)) (aCons (eC (.int 40)) (aCons (eC (.int 41)) (aCons (eUn gNeg (eC (.int 3))) aNil))))) (eFn 2 fn__law_take (aCons (eVar 0) (aCons (eC (.int 4)) aNil)))) (aCons (eVar 1) aNil)))) (aCons (eVar 4) aNil)))) aNil))))
    (sSeq (sSet 6 (eOp gAdd (eVar 6) (eLst (aCons (eTup (aCons (eC (.str "at")) (aCons (eTup (aCons (eC (.str "make")) (aCons (eVar 3) (aCons (eVar 1) aNil)))) (aCons (eVar 4) aNil)))) (aCons (eTup (aCons (eC (.str "at")) (aCons (eTup (aCons (eC (.str "put")) (aCons (eVar 5) (aCons (eVar 3) (aCons (eVar 1) aNil))))) (aCons (eVar 3) aNil)))) aNil)))))
    (sSeq (sSet 7 (eFn 2 fn__law_take (aCons (eVar 0) (aCons (eC (.int 10)) aNil))))
    (sSeq (sIf (eT (eOp gGt (eVar 7) (eC (.int 7)))) (sRet (eTup (aCons (eTup (aCons (eC (.str "mul")) (aCons (eVar 3) (aCons (eVar 1) aNil)))) (aCons (eTup (aCons (eC (.str "mul")) (aCons (eVar 1) (aCons (eVar 3) aNil)))) aNil)))) sNil)
    (sRet (eTup (aCons (eIf (eT (eOp gEq (eVar 7) (eC (.int 7)))) (eVar 1) (eOp gIx (eLst (aCons (eVar 1) (aCons (eC (.int 0)) (aCons (eVar 3) aNil)))) (eFn 2 fn__law_take (aCons (eVar 0) (aCons (eC (.int 3)) aNil))))) (aCons (eOp gIx (eVar 6) (eVar 7)) aNil)))))))))))))
def fn__law_edge : TFn := runF 8 fb__law_edge
/-! _law_parts: 0 _law_term_here, 1 _law_one -/
def fb__law_parts (rec : TFn) : TFS := (sSeq (sIf (eOr (eT (eUn (gIsi "int") (eVar 0))) (eT (eUn (gIsi "int") (eOp gIx (eVar 0) (eC (.int 0)))))) (sRet (eC (.int 1))) sNil)
    (sRet (eOp gAdd (eC (.int 1)) (eCall gSum (aCons (eLc 1 (iTupD (eSl (eVar 0) (oSome (eC (.int 1))) oNone)) tTrue (eFn 1 rec (aCons (eVar 1) aNil))) aNil)))))
def fn__law_parts : Nat → TFn
  | 0 => fun _ _ => none
  | n + 1 => runF 2 (fb__law_parts (fn__law_parts n))
/-! _law_pair: 0 _law_box_here, 1 _law_kind, 2 _law_one, 3 _law_other, 4 _law_way -/
def fb__law_pair : TFS := (sSeq (sSet 1 (eOp gIx (eC (.str "nnr")) (eFn 2 fn__law_take (aCons (eVar 0) (aCons (eC (.int 3)) aNil)))))
    (sSeq (sSet 2 (eFn 3 (fn__law_term FU) (aCons (eVar 0) (aCons (eVar 1) (aCons (eC (.int 3)) aNil)))))
    (sSeq (sIf (eT (eOp gGt (eFn 1 (fn__law_parts FU) (aCons (eVar 2) aNil)) (eC (.int 16)))) (sSet 2 (eFn 3 (fn__law_term FU) (aCons (eVar 0) (aCons (eVar 1) (aCons (eC (.int 1)) aNil))))) sNil)
    (sSeq (sSet 3 (eFn 3 (fn__law_term FU) (aCons (eVar 0) (aCons (eVar 1) (aCons (eC (.int 3)) aNil)))))
    (sSeq (sSet 4 (eFn 2 fn__law_take (aCons (eVar 0) (aCons (eC (.int 4)) aNil))))
    (sSeq (sIf (eT (eOp gEq (eVar 4) (eC (.int 3)))) (sRet (eFn 3 fn__law_edge (aCons (eVar 0) (aCons (eVar 2) (aCons (eVar 1) aNil))))) sNil)
    (sSeq (sIf (eT (eOp gGt (eVar 4) (eC (.int 0)))) (sSet 3 (eFn 3 fn__law_near (aCons (eVar 0) (aCons (eVar 2) (aCons (eVar 1) aNil))))) sNil)
    (sRet (eTup (aCons (eVar 2) (aCons (eVar 3) aNil)))))))))))
def fn__law_pair : TFn := runF 5 fb__law_pair
/-! _law_put: 0 _law_term_here, 1 _law_names, 2 _law_one -/
def fb__law_put (rec : TFn) : TFS := (sSeq (sIf (eT (eUn (gIsi "int") (eVar 0))) (sRet (eVar 0)) sNil)
    (sSeq (sIf (eT (eUn (gIsi "int") (eOp gIx (eVar 0) (eC (.int 0))))) (sRet (eOp gDget (eVar 1) (eVar 0))) sNil)
    (sRet (eOp gAdd (eTup (aCons (eOp gIx (eVar 0) (eC (.int 0))) aNil)) (eCall gTuple (aCons (eLc 2 (iTupD (eSl (eVar 0) (oSome (eC (.int 1))) oNone)) tTrue (eFn 2 rec (aCons (eVar 2) (aCons (eVar 1) aNil)))) aNil))))))
def fn__law_put : Nat → TFn
  | 0 => fun _ _ => none
  | n + 1 => runF 3 (fb__law_put (fn__law_put n))
/-! _law_named: 0 _law_box_here, 1 _law_forms, 2 _law_names, 3 _law_table, 4 _law_depth, 5 _law_kind, 6 _law_k, 7 _law_name -/
def fb__law_named : TFS := (sSeq (sSet 2 eDctN)
    (sSeq (sSet 3 eDctN)
    (sSeq (sFor (iRngD (aCons (eC (.int 2)) aNil)) (gNm 4) (sFor (iStrD (eC (.str "nr"))) (gNm 5) (sFor (iRngD (aCons (eC (.int 2)) aNil)) (gNm 6) (sSeq (sSet 7 (eTup (aCons (eVar 4) (aCons (eOp gAdd (eVar 5) (eCall gStr1 (aCons (eVar 6) aNil))) aNil))))
    (sSeq (sDput (eFn 3 (fn__law_term FU) (aCons (eVar 0) (aCons (eVar 5) (aCons (eC (.int 1)) aNil)))) (eVar 2) (eVar 7))
    (sSeq (sIf (eAnd (eT (eOp gEq (eVar 5) (eC (.str "n")))) (eT (eOp gEq (eFn 2 fn__law_take (aCons (eVar 0) (aCons (eC (.int 3)) aNil))) (eC (.int 0))))) (sDput (eFn 1 fn__law_number (aCons (eVar 0) aNil)) (eVar 2) (eVar 7)) sNil)
    (sDput (eMeth "thing" 3 fn_m_thing (eVar 1) (aCons (eVar 5) (aCons (eTup (aCons (eC (.str "own")) (aCons (eVar 4) (aCons (eOp gAdd (eVar 5) (eCall gStr1 (aCons (eVar 6) aNil))) aNil)))) aNil))) (eVar 3) (eVar 7))))))))
    (sRet (eTup (aCons (eVar 2) (aCons (eVar 3) aNil)))))))
def fn__law_named : TFn := runF 8 fb__law_named
/-! _law_right: 0 _law_box_here, 1 _law_one, 2 _law_other, 3 _law_forms, 4 _law_names, 5 _law_table, 6 _law_told, 7 _law_name, 8 _law_first, 9 _law_second -/
def fb__law_right : TFS := (sSeq (sUn2 1 2 (eFn 1 fn__law_pair (aCons (eVar 0) aNil)))
    (sSeq (sSet 3 (eMake fn_m_init))
    (sSeq (sUn2 4 5 (eFn 2 fn__law_named (aCons (eVar 0) (aCons (eVar 3) aNil))))
    (sSeq (sSet 6 eDctN)
    (sSeq (sForN 4 (gNm 7) (sDput (eFn 3 (fn_form_of FU) (aCons (eVar 3) (aCons (eOp gDget (eVar 4) (eVar 7)) (aCons (eVar 5) aNil)))) (eVar 6) (eVar 7)))
    (sSeq (sSet 8 (eFn 2 (fn__law_put FU) (aCons (eVar 1) (aCons (eVar 4) aNil))))
    (sSeq (sSet 9 (eFn 2 (fn__law_put FU) (aCons (eVar 2) (aCons (eVar 4) aNil))))
    (sSeq (sIf (eT (eOp (gIs false) (eFn 2 fn_alike (aCons (eVar 1) (aCons (eVar 2) aNil))) (eC (.bl true)))) (sSeq (sIf (eT (eOp gNe (eFn 3 (fn_form_of FU) (aCons (eVar 3) (aCons (eVar 1) (aCons (eVar 6) aNil)))) (eFn 3 (fn_form_of FU) (aCons (eVar 3) (aCons (eVar 2) (aCons (eVar 6) aNil)))))) (sRet (eC (.bl false))) sNil)
    (sIf (eAnd (eT (eOp gLe (eCall gMax2 (aCons (eFn 1 (fn__law_parts FU) (aCons (eVar 8) aNil)) (aCons (eFn 1 (fn__law_parts FU) (aCons (eVar 9) aNil)) aNil))) (eC (.int 60)))) (eT (eOp (gIs true) (eFn 2 fn_alike (aCons (eVar 8) (aCons (eVar 9) aNil))) (eC (.bl true))))) (sRet (eC (.bl false))) sNil)) sNil)
    (sRet (eOrV (eOp gGt (eFn 1 (fn__law_parts FU) (aCons (eVar 8) aNil)) (eC (.int 60))) (eOp gEq (eFn 3 (fn_form_of FU) (aCons (eVar 3) (aCons (eVar 1) (aCons (eVar 6) aNil)))) (eFn 3 (fn_form_of FU) (aCons (eVar 3) (aCons (eVar 8) (aCons (eVar 5) aNil)))))))))))))))
def fn__law_right : TFn := runF 10 fb__law_right
/-! law: 0 _law_script, 1 _law_cell, 2 _law_box_here, 3 _law_turn -/
def fb_law : TFS := (sSeq (sFor (iLstD (eOp gAdd (eLst (aCons (eFn 2 fn__law_cell_at (aCons (eVar 0) (aCons (eC (.int 0)) aNil))) aNil)) (eSl (eVar 0) (oSome (eC (.int 1))) (oSome (eC (.int 8)))))) (gNm 1) (sSeq (sSet 2 (eFn 1 fn__law_box (aCons (eVar 1) aNil)))
    (sFor (iRngD (aCons (eC (.int 3)) aNil)) (gNm 3) (sIf (eNot (eT (eFn 1 fn__law_right (aCons (eVar 2) aNil)))) (sRet (eC (.bl false))) sNil))))
    (sRet (eC (.bl true))))
def fn_law : TFn := runF 4 fb_law
end
end DR
/-! Plain: sums of keys with coefficients, modulo 65536. -/
namespace PT
/-- the wrapped value -/
def wr (x : Int) : Int := (x + 32768) % 65536 - 32768
def InR (x : Int) : Prop := -32768 ≤ x ∧ x < 32768
theorem wr_in (x : Int) : InR (wr x) := by unfold InR wr; omega
theorem wr_id {x : Int} (h : InR x) : wr x = x := by unfold InR at h; unfold wr; omega
theorem in0 : InR 0 := ⟨by decide, by decide⟩
def Cg (a b : Int) : Prop := ∃ q, a = b + 65536 * q
theorem Cg.rfl' (a : Int) : Cg a a := ⟨0, by omega⟩
theorem Cg.of_eq {a b : Int} (h : a = b) : Cg a b := ⟨0, by omega⟩
theorem Cg.symm {a b : Int} (h : Cg a b) : Cg b a := by obtain ⟨q, h⟩ := h; exact ⟨-q, by omega⟩
theorem Cg.trans {a b c : Int} (h : Cg a b) (g : Cg b c) : Cg a c := by obtain ⟨q, h⟩ := h; obtain ⟨r, g⟩ := g; exact ⟨q + r, by omega⟩
theorem Cg.add {a b c d : Int} (h : Cg a b) (g : Cg c d) : Cg (a + c) (b + d) := by obtain ⟨q, h⟩ := h; obtain ⟨r, g⟩ := g; exact ⟨q + r, by omega⟩
theorem Cg.mul {a b : Int} (t : Int) (h : Cg a b) : Cg (t * a) (t * b) := by
  obtain ⟨q, h⟩ := h
  refine ⟨t * q, ?_⟩
  rw [h, Int.mul_add, Int.mul_left_comm]
theorem Cg.mulr {a b : Int} (t : Int) (h : Cg a b) : Cg (a * t) (b * t) := by rw [Int.mul_comm a, Int.mul_comm b]; exact h.mul t
theorem wr_cg (x : Int) : Cg (wr x) x := ⟨-((x + 32768) / 65536), by unfold wr; omega⟩
theorem wr_eq {a b : Int} (h : Cg a b) : wr a = wr b := by obtain ⟨q, h⟩ := h; unfold wr; omega
theorem eq_of_cg {a b : Int} (ha : InR a) (hb : InR b) (h : Cg a b) : a = b := by rw [← wr_id ha, ← wr_id hb]; exact wr_eq h
theorem Cg.wrl {a b : Int} (h : Cg a b) : Cg (wr a) b := (wr_cg a).trans h

section
variable {κ : Type} (ψ : κ → Int)
/-- m times k more -/
def ins (k : κ) (m : Int) : List (κ × Int) → List (κ × Int)
  | [] => if wr m = 0 then [] else [(k, wr m)]
  | p :: r => if ψ k = ψ p.1 then (if wr (p.2 + m) = 0 then r else (p.1, wr (p.2 + m)) :: r)
    else if ψ k < ψ p.1 then (if wr m = 0 then p :: r else (k, wr m) :: p :: r)
    else p :: ins k m r
def addP (ps qs : List (κ × Int)) (t : Int) : List (κ × Int) := qs.foldl (fun acc q => ins ψ q.1 (t * q.2) acc) ps
/-- in order, no zeros, in the range -/
def Can : List (κ × Int) → Prop
  | [] => True
  | p :: r => (∀ q ∈ r, ψ p.1 < ψ q.1) ∧ p.2 ≠ 0 ∧ InR p.2 ∧ Can r
variable {ψ}
theorem ins_mem {k : κ} {m : Int} : ∀ {ps : List (κ × Int)} {q : κ × Int}, q ∈ ins ψ k m ps → q.1 = k ∨ ∃ p ∈ ps, p.1 = q.1
  | [], q, h => by
    unfold ins at h
    split at h
    · cases h
    · left; simp at h; rw [h]
  | p :: r, q, h => by
    unfold ins at h
    split at h
    · split at h
      · exact .inr ⟨q, List.mem_cons_of_mem _ h, rfl⟩
      · rcases List.mem_cons.mp h with rfl | h
        · exact .inr ⟨p, List.mem_cons_self, rfl⟩
        · exact .inr ⟨q, List.mem_cons_of_mem _ h, rfl⟩
    · split at h
      · split at h
        · exact .inr ⟨q, h, rfl⟩
        · rcases List.mem_cons.mp h with rfl | h
          · exact .inl rfl
          · exact .inr ⟨q, h, rfl⟩
      · rcases List.mem_cons.mp h with rfl | h
        · exact .inr ⟨q, List.mem_cons_self, rfl⟩
        · rcases ins_mem h with h | ⟨p', h, e⟩
          · exact .inl h
          · exact .inr ⟨p', List.mem_cons_of_mem _ h, e⟩
theorem ins_can {k : κ} {m : Int} : ∀ {ps : List (κ × Int)}, Can ψ ps → Can ψ (ins ψ k m ps)
  | [], _ => by
    unfold ins
    split
    · trivial
    · rename_i h
      exact ⟨fun q h => (by cases h), h, wr_in _, trivial⟩
  | p :: r, ⟨h1, h2, h3, h4⟩ => by
    unfold ins
    split
    · split
      · exact h4
      · rename_i h
        exact ⟨h1, h, wr_in _, h4⟩
    · rename_i ne
      split
      · rename_i lt
        split
        · exact ⟨h1, h2, h3, h4⟩
        · rename_i h
          refine ⟨fun q hq => ?_, h, wr_in _, h1, h2, h3, h4⟩
          rcases List.mem_cons.mp hq with rfl | hq
          · exact lt
          · exact Int.lt_trans lt (h1 q hq)
      · rename_i lt
        refine ⟨fun q hq => ?_, h2, h3, ins_can h4⟩
        rcases ins_mem hq with e | ⟨p', hp, e⟩
        · rw [e]; omega
        · rw [← e]; exact h1 p' hp
theorem addP_can {t : Int} : ∀ {qs ps : List (κ × Int)}, Can ψ ps → Can ψ (addP ψ ps qs t)
  | [], ps, h => h
  | q :: qs, ps, h => by
    show Can ψ (addP ψ (ins ψ q.1 (t * q.2) ps) qs t)
    exact addP_can (ins_can h)
theorem addP_mem {t : Int} : ∀ {qs ps : List (κ × Int)} {x : κ × Int}, x ∈ addP ψ ps qs t → ∃ p, (p ∈ ps ∨ p ∈ qs) ∧ p.1 = x.1
  | [], ps, x, h => ⟨x, .inl h, rfl⟩
  | q :: qs, ps, x, h => by
    have h : x ∈ addP ψ (ins ψ q.1 (t * q.2) ps) qs t := h
    obtain ⟨p, hp, e⟩ := addP_mem h
    rcases hp with hp | hp
    · rcases ins_mem hp with e2 | ⟨p', hp', e2⟩
      · exact ⟨q, .inr List.mem_cons_self, by rw [← e, e2]⟩
      · exact ⟨p', .inl hp', by rw [e2, e]⟩
    · exact ⟨p, .inr (List.mem_cons_of_mem _ hp), e⟩
/-- the value under v -/
def S (v : κ → Int) : List (κ × Int) → Int
  | [] => 0
  | p :: r => p.2 * v p.1 + S v r
theorem S_ins (inj : ∀ a b, ψ a = ψ b → a = b) {v : κ → Int} {k : κ} {m : Int} : ∀ {ps : List (κ × Int)}, Cg (S v (ins ψ k m ps)) (m * v k + S v ps)
  | [] => by
    unfold ins
    split
    · rename_i h
      have := (wr_cg m).mulr (v k)
      rw [h, Int.zero_mul] at this
      show Cg 0 (m * v k + 0)
      rw [Int.add_zero]; exact this
    · exact ((wr_cg m).mulr (v k)).add (Cg.rfl' 0)
  | p :: r => by
    unfold ins
    split
    · rename_i h
      have e := inj _ _ h
      have key : Cg (wr (p.2 + m) * v p.1) (m * v k + p.2 * v p.1) := by
        refine ((wr_cg (p.2 + m)).mulr (v p.1)).trans (.of_eq ?_)
        rw [Int.add_mul, e]; omega
      split
      · rename_i h0
        rw [h0, Int.zero_mul] at key
        have := key.add (Cg.rfl' (S v r))
        refine (Cg.of_eq (by omega)).trans (this.trans (.of_eq ?_))
        show _ = m * v k + (p.2 * v p.1 + S v r)
        omega
      · refine (key.add (Cg.rfl' (S v r))).trans (.of_eq ?_)
        show _ = m * v k + (p.2 * v p.1 + S v r)
        omega
    · split
      · split
        · rename_i h0
          have key := (wr_cg m).mulr (v k)
          rw [h0, Int.zero_mul] at key
          exact (Cg.of_eq (by omega)).trans (key.add (Cg.rfl' (S v (p :: r))))
        · exact ((wr_cg m).mulr (v k)).add (Cg.rfl' (S v (p :: r)))
      · refine ((Cg.rfl' (p.2 * v p.1)).add (S_ins inj)).trans (.of_eq ?_)
        show _ = m * v k + (p.2 * v p.1 + S v r)
        omega
theorem S_addP (inj : ∀ a b, ψ a = ψ b → a = b) {v : κ → Int} {t : Int} : ∀ {qs ps : List (κ × Int)}, Cg (S v (addP ψ ps qs t)) (S v ps + t * S v qs)
  | [], ps => .of_eq (by show S v ps = S v ps + t * 0; omega)
  | q :: qs, ps => by
    show Cg (S v (addP ψ (ins ψ q.1 (t * q.2) ps) qs t)) _
    refine (S_addP inj).trans (((S_ins inj).add (Cg.rfl' _)).trans (.of_eq ?_))
    show _ = S v ps + t * (q.2 * v q.1 + S v qs)
    rw [Int.mul_add, Int.mul_assoc]; omega
open Classical in
noncomputable def ind (j : κ) : κ → Int := fun k => if k = j then 1 else 0
theorem S_ind_none {j : κ} : ∀ {ps : List (κ × Int)}, (∀ p ∈ ps, p.1 ≠ j) → S (ind j) ps = 0
  | [], _ => rfl
  | p :: r, h => by
    show p.2 * ind j p.1 + S (ind j) r = 0
    rw [S_ind_none fun q hq => h q (List.mem_cons_of_mem _ hq)]
    unfold ind
    rw [if_neg (h p List.mem_cons_self)]; omega
theorem S_ind_head {p : κ × Int} {r : List (κ × Int)} (h : ∀ q ∈ r, ψ p.1 < ψ q.1) : S (ind p.1) (p :: r) = p.2 := by
  show p.2 * ind p.1 p.1 + S (ind p.1) r = p.2
  rw [S_ind_none fun q hq e => by have := h q hq; rw [e] at this; omega]
  unfold ind
  rw [if_pos rfl]; omega
theorem can_ext (inj : ∀ a b, ψ a = ψ b → a = b) : ∀ {ps qs : List (κ × Int)}, Can ψ ps → Can ψ qs → (∀ j, Cg (S (ind j) ps) (S (ind j) qs)) → ps = qs
  | [], [], _, _, _ => rfl
  | [], q :: qs, _, ⟨h1, h2, h3, _⟩, h => by
    have e := h q.1
    rw [S_ind_head h1] at e
    exact absurd (eq_of_cg in0 h3 e).symm h2
  | p :: ps, [], ⟨h1, h2, h3, _⟩, _, h => by
    have e := h p.1
    rw [S_ind_head h1] at e
    exact absurd (eq_of_cg h3 in0 e) h2
  | p :: ps, q :: qs, ⟨h1, h2, h3, h4⟩, ⟨g1, g2, g3, g4⟩, h => by
    by_cases hlt : ψ p.1 < ψ q.1
    · have e := h p.1
      rw [S_ind_head h1, S_ind_none (ps := q :: qs) fun x hx ex => by
        rcases List.mem_cons.mp hx with rfl | hx
        · rw [ex] at hlt; omega
        · have := g1 x hx; rw [ex] at this; omega] at e
      exact absurd (eq_of_cg h3 in0 e) h2
    · by_cases hgt : ψ q.1 < ψ p.1
      · have e := h q.1
        rw [S_ind_head g1, S_ind_none (ps := p :: ps) fun x hx ex => by
          rcases List.mem_cons.mp hx with rfl | hx
          · rw [ex] at hgt; omega
          · have := h1 x hx; rw [ex] at this; omega] at e
        exact absurd (eq_of_cg in0 g3 e).symm g2
      · have ek : p.1 = q.1 := inj _ _ (by omega)
        have e := h p.1
        rw [S_ind_head h1, ek, S_ind_head g1] at e
        have ec := eq_of_cg h3 g3 e
        have ep : p = q := Prod.ext ek ec
        subst ep
        rw [can_ext inj h4 g4 fun j => ?_]
        obtain ⟨c, e⟩ := h j
        have e : p.2 * ind j p.1 + S (ind j) ps = p.2 * ind j p.1 + S (ind j) qs + 65536 * c := e
        exact ⟨c, by omega⟩
/-- keys mapped by an order -/
theorem ins_map {ι : Type} {χ : ι → Int} {g : κ → ι} {k : κ} {m : Int} : ∀ {ps : List (κ × Int)}, χ (g k) = ψ k → (∀ p ∈ ps, χ (g p.1) = ψ p.1) → (ins ψ k m ps).map (fun p => (g p.1, p.2)) = ins χ (g k) m (ps.map fun p => (g p.1, p.2))
  | [], hk, h => by
    unfold ins
    split
    · rfl
    · rfl
  | p :: r, hk, h => by
    have hp := h p List.mem_cons_self
    have ih := ins_map (m := m) hk fun q hq => h q (List.mem_cons_of_mem _ hq)
    rw [List.map_cons]
    unfold ins
    dsimp only
    rw [hk, hp]
    by_cases h1 : ψ k = ψ p.1
    · rw [if_pos h1, if_pos h1]
      by_cases h2 : wr (p.2 + m) = 0
      · rw [if_pos h2, if_pos h2]
      · rw [if_neg h2, if_neg h2]; rfl
    · rw [if_neg h1, if_neg h1]
      by_cases h2 : ψ k < ψ p.1
      · rw [if_pos h2, if_pos h2]
        by_cases h3 : wr m = 0
        · rw [if_pos h3, if_pos h3]; rfl
        · rw [if_neg h3, if_neg h3]; rfl
      · rw [if_neg h2, if_neg h2, List.map_cons, ih]
theorem addP_map {ι : Type} {χ : ι → Int} {g : κ → ι} {t : Int} : ∀ {qs ps : List (κ × Int)}, (∀ p ∈ ps, χ (g p.1) = ψ p.1) → (∀ p ∈ qs, χ (g p.1) = ψ p.1) → (addP ψ ps qs t).map (fun p => (g p.1, p.2)) = addP χ (ps.map fun p => (g p.1, p.2)) (qs.map fun p => (g p.1, p.2)) t
  | [], ps, _, _ => rfl
  | q :: qs, ps, h1, h2 => by
    show (addP ψ (ins ψ q.1 (t * q.2) ps) qs t).map _ = addP χ (ins χ (g q.1) (t * q.2) (ps.map fun p => (g p.1, p.2))) (qs.map fun p => (g p.1, p.2)) t
    rw [addP_map (fun p hp => ?_) fun p hp => h2 p (List.mem_cons_of_mem _ hp), ins_map (h2 q List.mem_cons_self) h1]
    rcases ins_mem hp with e | ⟨p', hp', e⟩
    · rw [e]; exact h2 q List.mem_cons_self
    · rw [← e]; exact h1 p' hp'
end
end PT
/-! Plain: forms as trees, what `made` makes of them under a numbering N. -/
namespace PT
inductive Op where
  | add | sub | mul | div | rest | less | same | pick | copy | idx | size | put | many | make | keep
deriving DecidableEq
structure Lb where
  own : Bool
  d : Bool
  r : Bool
  k : Bool
deriving DecidableEq
mutual
inductive K where
  | leaf (l : Lb) | op (o : Op) (fs : List F)
inductive F where
  | sum (n : Int) (ps : List (K × Int)) | row (k : K)
end
/-- a numbering -/
structure Nu where
  ψ : K → Nat
  φ : F → Nat
  ψi : ∀ a b, ψ a = ψ b → a = b
  φi : ∀ a b, φ a = φ b → a = b
def Nu.z (N : Nu) : K → Int := fun k => (N.ψ k : Int)
theorem Nu.zi (N : Nu) (a b : K) (h : N.z a = N.z b) : a = b := N.ψi a b (by unfold Nu.z at h; omega)
def F.cst : F → Int
  | .sum n _ => n
  | .row _ => 0
def F.pts : F → List (K × Int)
  | .sum _ ps => ps
  | .row _ => []
def F.isR : F → Bool
  | .sum _ _ => false
  | .row _ => true
def F.key : F → K
  | .row k => k
  | .sum _ _ => .leaf ⟨false, false, false, false⟩
def whole : F → Option Int
  | .sum n [] => some n
  | _ => none
def plain (n : Int) : F := .sum n []
def kt (r : Bool) (k : K) : F := if r = true then .row k else .sum 0 [(k, 1)]
def addF (N : Nu) (a b : F) (t : Int) : F := .sum (wr (a.cst + t * b.cst)) (addP N.z a.pts b.pts t)
def oft (N : Nu) (f : F) (t : Int) : F := addF N (plain 0) f t
/-! contents in order -/
def ltL : List (Int × Int) → List (Int × Int) → Bool
  | [], [] => false
  | [], _ :: _ => true
  | _ :: _, [] => false
  | p :: ps, q :: qs => if p = q then ltL ps qs else (if p.1 = q.1 then decide (p.2 < q.2) else decide (p.1 < q.1))
def ltC (n : Int) (ps : List (Int × Int)) (m : Int) (qs : List (Int × Int)) : Bool := if n = m then ltL ps qs else decide (n < m)
theorem ltL_asymm : ∀ {ps qs : List (Int × Int)}, ltL ps qs = true → ltL qs ps = false
  | [], [], h => by cases h
  | [], _ :: _, _ => rfl
  | _ :: _, [], h => by cases h
  | p :: ps, q :: qs, h => by
    unfold ltL at h ⊢
    by_cases e : p = q
    · rw [if_pos e] at h
      rw [if_pos e.symm]
      exact ltL_asymm h
    · rw [if_neg e] at h
      rw [if_neg (fun z => e z.symm)]
      by_cases e1 : p.1 = q.1
      · rw [if_pos e1] at h
        rw [if_pos e1.symm]
        have := of_decide_eq_true h
        exact decide_eq_false (by omega)
      · rw [if_neg e1] at h
        rw [if_neg (fun z => e1 z.symm)]
        have := of_decide_eq_true h
        exact decide_eq_false (by omega)
theorem ltL_tot : ∀ {ps qs : List (Int × Int)}, ltL ps qs = false → ltL qs ps = false → ps = qs
  | [], [], _, _ => rfl
  | [], _ :: _, h, _ => by cases h
  | _ :: _, [], _, h => by cases h
  | p :: ps, q :: qs, h, g => by
    unfold ltL at h g
    by_cases e : p = q
    · rw [if_pos e] at h
      rw [if_pos e.symm] at g
      rw [e, ltL_tot h g]
    · rw [if_neg e] at h
      rw [if_neg (fun z => e z.symm)] at g
      by_cases e1 : p.1 = q.1
      · rw [if_pos e1] at h
        rw [if_pos e1.symm] at g
        have h := of_decide_eq_false h
        have g := of_decide_eq_false g
        exact absurd (Prod.ext e1 (by omega)) e
      · rw [if_neg e1] at h
        rw [if_neg (fun z => e1 z.symm)] at g
        have h := of_decide_eq_false h
        have g := of_decide_eq_false g
        exact absurd (show p.1 = q.1 by omega) e1
def enc (N : Nu) (ps : List (K × Int)) : List (Int × Int) := ps.map fun p => (N.z p.1, p.2)
def ltF (N : Nu) (a b : F) : Bool := ltC a.cst (enc N a.pts) b.cst (enc N b.pts)
theorem enc_inj (N : Nu) : ∀ {ps qs : List (K × Int)}, enc N ps = enc N qs → ps = qs
  | [], [], _ => rfl
  | [], _ :: _, h => by cases h
  | _ :: _, [], h => by cases h
  | p :: ps, q :: qs, h => by
    unfold enc at h
    rw [List.map_cons, List.map_cons] at h
    injection h with h1 h2
    obtain ⟨a, b⟩ := Prod.mk.inj h1
    rw [enc_inj N h2, Prod.ext (N.zi _ _ a) b]
/-- the lesser of two contents -/
def minC (N : Nu) (a b : F) : F := if ltF N b a = true then b else a
theorem ltC_asymm {n m : Int} {ps qs : List (Int × Int)} (h : ltC n ps m qs = true) : ltC m qs n ps = false := by
  unfold ltC at h ⊢
  by_cases e : n = m
  · rw [if_pos e] at h
    rw [if_pos e.symm]
    exact ltL_asymm h
  · rw [if_neg e] at h
    rw [if_neg fun z => e z.symm]
    have := of_decide_eq_true h
    exact decide_eq_false (by omega)
theorem ltC_tot {n m : Int} {ps qs : List (Int × Int)} (h : ltC n ps m qs = false) (g : ltC m qs n ps = false) : n = m ∧ ps = qs := by
  unfold ltC at h g
  by_cases e : n = m
  · rw [if_pos e] at h
    rw [if_pos e.symm] at g
    exact ⟨e, ltL_tot h g⟩
  · rw [if_neg e] at h
    rw [if_neg fun z => e z.symm] at g
    have h := of_decide_eq_false h
    have g := of_decide_eq_false g
    omega
theorem minC_comm (N : Nu) {a b : F} (ha : a.isR = false) (hb : b.isR = false) : minC N a b = minC N b a := by
  unfold minC
  cases h1 : ltF N b a with
  | true =>
    have h2 : ltF N a b = false := ltC_asymm h1
    rw [h2]; rfl
  | false =>
    cases h2 : ltF N a b with
    | true => rfl
    | false =>
      obtain ⟨e1, e2⟩ := ltC_tot h1 h2
      have e2 := enc_inj N e2
      cases a with
      | row k => cases ha
      | sum n ps =>
      cases b with
      | row k => cases hb
      | sum m qs =>
        have e1 : m = n := e1
        have e2 : qs = ps := e2
        rw [e1, e2]
def sameOf (N : Nu) (c d : F) : F := if c.pts = [] then plain (if c.cst = 0 then 1 else 0) else kt false (.op .same [minC N c d])
def sameF (N : Nu) (a b : F) : F := sameOf N (addF N a b (-1)) (addF N b a (-1))
open Classical in
noncomputable def mn (N : Nu) (a b : F) : F := if N.φ b < N.φ a then b else a
noncomputable def mx (N : Nu) (a b : F) : F := if N.φ b > N.φ a then b else a
noncomputable def mulF (N : Nu) (a b : F) : F := match whole a with
  | some x => oft N b x
  | none => match whole b with
    | some y => oft N a y
    | none => kt false (.op .mul [mn N a b, mx N a b])
def dv (x y : Int) : Int := if y = 0 then 0 else wr (x.fdiv y)
def divF (a b : F) : F := match whole b with
  | some y => if y = 0 then plain 0 else if y = 1 then a else match whole a with
    | some x => plain (dv x y)
    | none => kt false (.op .div [a, b])
  | none => kt false (.op .div [a, b])
def restF (a b : F) : F := match whole b with
  | some y => if y = 0 then a else if y = 1 then plain 0 else match whole a with
    | some x => plain (wr (x - y * dv x y))
    | none => kt false (.op .rest [a, b])
  | none => kt false (.op .rest [a, b])
open Classical in
noncomputable def lessF (a b : F) : F := if a = b then plain 0 else match whole a, whole b with
  | some x, some y => plain (if x < y then 1 else 0)
  | _, _ => kt false (.op .less [a, b])
open Classical in
noncomputable def pickF (c a b : F) : F := match whole c with
  | some x => if x = 0 then b else a
  | none => if a = b then a else kt false (.op .pick [c, a, b])
def idxF (r p : F) : F := match whole p with
  | none => kt false (.op .idx [r, p])
  | some i => match r.key with
    | .op .make fs => if 0 ≤ i ∧ i < fs.length then fs.getD i.toNat (plain 0) else plain 0
    | .op .many [c, v] => match whole c with
      | some w => if 0 ≤ i ∧ i < min 40 w then v else plain 0
      | none => kt false (.op .idx [r, p])
    | _ => kt false (.op .idx [r, p])
def strip : F → F
  | .row (.op .put [r, p, n]) => strip r
  | f => f
def sizeF (r : F) : F := match (strip r).key with
  | .op .make fs => plain fs.length
  | .op .many [c, v] => match whole c with
    | some w => plain (max 0 (min 40 w))
    | none => kt false (.op .size [strip r])
  | _ => kt false (.op .size [strip r])
def putF (r p n : F) : F := match r.key, whole p with
  | .op .make fs, some i => if i < 0 ∨ i ≥ fs.length then r else kt true (.op .make (fs.set i.toNat n))
  | _, _ => kt true (.op .put [r, p, n])
noncomputable def made (N : Nu) : Op → List F → F
  | .copy, [a] => a
  | .keep, [a] => a
  | .add, [a, b] => addF N a b 1
  | .sub, [a, b] => addF N a b (-1)
  | .mul, [a, b] => mulF N a b
  | .same, [a, b] => sameF N a b
  | .same, [a] => sameOf N a (oft N a (-1))
  | .less, [a, b] => lessF a b
  | .div, [a, b] => divF a b
  | .rest, [a, b] => restF a b
  | .pick, [c, a, b] => pickF c a b
  | .idx, [r, p] => idxF r p
  | .size, [r] => sizeF r
  | .put, [r, p, n] => putF r p n
  | .many, [c, v] => kt true (.op .many [c, v])
  | .make, fs => kt true (.op .make fs)
  | _, _ => plain 0
/-! a tree of one table told in another -/
mutual
noncomputable def hK (N : Nu) (env : Lb → F) : K → F
  | .leaf l => env l
  | .op o fs => made N o (hFs N env fs)
noncomputable def hF (N : Nu) (env : Lb → F) : F → F
  | .sum n ps => hPs N env (plain n) ps
  | .row k => hK N env k
noncomputable def hFs (N : Nu) (env : Lb → F) : List F → List F
  | [] => []
  | f :: r => hF N env f :: hFs N env r
noncomputable def hPs (N : Nu) (env : Lb → F) (acc : F) : List (K × Int) → F
  | [] => acc
  | (k, m) :: r => hPs N env (addF N acc (hK N env k) m) r
end
/-! terms -/
inductive Tm where
  | num (n : Int) | name (l : Lb) | op (o : Op) (ts : List Tm)
mutual
noncomputable def ev (N : Nu) (env : Lb → F) : Tm → F
  | .num n => plain n
  | .name l => env l
  | .op o ts => made N o (evs N env ts)
noncomputable def evs (N : Nu) (env : Lb → F) : List Tm → List F
  | [] => []
  | t :: r => ev N env t :: evs N env r
end
mutual
def sub (σ : Lb → Tm) : Tm → Tm
  | .num n => .num n
  | .name l => σ l
  | .op o ts => .op o (subs σ ts)
def subs (σ : Lb → Tm) : List Tm → List Tm
  | [] => []
  | t :: r => sub σ t :: subs σ r
end
mutual
theorem ev_sub (N : Nu) (env : Lb → F) (σ : Lb → Tm) : ∀ t : Tm, ev N env (sub σ t) = ev N (fun l => ev N env (σ l)) t
  | .num n => rfl
  | .name l => rfl
  | .op o ts => by
    show made N o (evs N env (subs σ ts)) = made N o (evs N _ ts)
    rw [evs_subs N env σ ts]
theorem evs_subs (N : Nu) (env : Lb → F) (σ : Lb → Tm) : ∀ ts : List Tm, evs N env (subs σ ts) = evs N (fun l => ev N env (σ l)) ts
  | [] => rfl
  | t :: r => by
    show ev N env (sub σ t) :: evs N env (subs σ r) = _
    rw [ev_sub N env σ t, evs_subs N env σ r]; rfl
end
end PT
/-! Plain: well-formed trees; what is made in one table is made of the told parts in another. -/
namespace PT
def Sg : Op → List Bool → Bool → Prop
  | .copy, ks, r => ks = [false] ∧ r = false
  | .keep, ks, r => ks = [true] ∧ r = true
  | .add, ks, r => ks = [false, false] ∧ r = false
  | .sub, ks, r => ks = [false, false] ∧ r = false
  | .mul, ks, r => ks = [false, false] ∧ r = false
  | .less, ks, r => ks = [false, false] ∧ r = false
  | .div, ks, r => ks = [false, false] ∧ r = false
  | .rest, ks, r => ks = [false, false] ∧ r = false
  | .same, ks, r => (ks = [false, false] ∨ ks = [false]) ∧ r = false
  | .pick, ks, r => ks = [false, false, false] ∧ r = false
  | .idx, ks, r => ks = [true, false] ∧ r = false
  | .size, ks, r => ks = [true] ∧ r = false
  | .put, ks, r => ks = [true, false, false] ∧ r = true
  | .many, ks, r => ks = [false, false] ∧ r = true
  | .make, ks, r => (∀ b ∈ ks, b = false) ∧ ks.length ≤ 3 ∧ r = true
mutual
inductive WK (N : Nu) : K → Bool → Prop
  | leaf (l : Lb) : WK N (.leaf l) l.r
  | op {o : Op} {fs : List F} {ks : List Bool} {r : Bool} : Sg o ks r → WFs N fs ks → WK N (.op o fs) r
inductive WF (N : Nu) : F → Bool → Prop
  | sum {n : Int} {ps : List (K × Int)} : InR n → Can N.z ps → (∀ p ∈ ps, WK N p.1 false) → WF N (.sum n ps) false
  | row {k : K} : WK N k true → WF N (.row k) true
inductive WFs (N : Nu) : List F → List Bool → Prop
  | nil : WFs N [] []
  | cons {f : F} {b : Bool} {fs : List F} {ks : List Bool} : WF N f b → WFs N fs ks → WFs N (f :: fs) (b :: ks)
end
section
variable {N : Nu} {a b c f : F} {k : K} {r : Bool} {fs : List F} {ks : List Bool} {t : Int}
theorem WF.s (h : WF N f false) : ∃ n ps, f = .sum n ps ∧ InR n ∧ Can N.z ps ∧ ∀ p ∈ ps, WK N p.1 false := by
  cases h with
  | sum h1 h2 h3 => exact ⟨_, _, rfl, h1, h2, h3⟩
theorem WF.rw' (h : WF N f true) : ∃ k, f = .row k ∧ WK N k true := by
  cases h with
  | row h => exact ⟨_, rfl, h⟩
theorem wfs1 (h : WFs N fs [r]) : ∃ a, fs = [a] ∧ WF N a r := by
  cases h with
  | cons h1 h2 => cases h2; exact ⟨_, rfl, h1⟩
theorem wfs2 {q : Bool} (h : WFs N fs [r, q]) : ∃ a b, fs = [a, b] ∧ WF N a r ∧ WF N b q := by
  cases h with
  | cons h1 h2 => obtain ⟨b, rfl, h3⟩ := wfs1 h2; exact ⟨_, _, rfl, h1, h3⟩
theorem wfs3 {q s : Bool} (h : WFs N fs [r, q, s]) : ∃ a b c, fs = [a, b, c] ∧ WF N a r ∧ WF N b q ∧ WF N c s := by
  cases h with
  | cons h1 h2 => obtain ⟨b, c, rfl, h3, h4⟩ := wfs2 h2; exact ⟨_, _, _, rfl, h1, h3, h4⟩
theorem WFs.len : ∀ {fs : List F} {ks : List Bool}, WFs N fs ks → fs.length = ks.length
  | _, _, .nil => rfl
  | _, _, .cons _ h => by simp [h.len]
theorem WFs.all : ∀ {fs : List F} {ks : List Bool}, WFs N fs ks → (∀ b ∈ ks, b = false) → ∀ f ∈ fs, WF N f false
  | _, _, .nil, _, f, h => by cases h
  | _, _, .cons (b := b) h1 h2, hk, f, h => by
    have e := hk b List.mem_cons_self
    subst e
    rcases List.mem_cons.mp h with rfl | h
    · exact h1
    · exact h2.all (fun b hb => hk b (List.mem_cons_of_mem _ hb)) f h
theorem wfs_of : ∀ {fs : List F}, (∀ f ∈ fs, WF N f false) → WFs N fs (List.replicate fs.length false)
  | [], _ => .nil
  | f :: fs, h => .cons (h f List.mem_cons_self) (wfs_of fun g hg => h g (List.mem_cons_of_mem _ hg))
theorem wk_make (h : ∀ f ∈ fs, WF N f false) (hl : fs.length ≤ 3) : WK N (.op .make fs) true :=
  .op (ks := List.replicate fs.length false) ⟨fun b hb => List.eq_of_mem_replicate hb, by rw [List.length_replicate]; exact hl, rfl⟩ (wfs_of h)
theorem make_wf (h : WK N (.op .make fs) true) : (∀ f ∈ fs, WF N f false) ∧ fs.length ≤ 3 := by
  cases h with
  | op sg w =>
    obtain ⟨h1, h2, _⟩ := sg
    exact ⟨w.all h1, by rw [w.len]; exact h2⟩
theorem many_wf (h : WK N (.op .many fs) true) : ∃ c v, fs = [c, v] ∧ WF N c false ∧ WF N v false := by
  cases h with
  | op sg w =>
    obtain ⟨rfl, _⟩ := sg
    exact wfs2 w
theorem put_wf (h : WK N (.op .put fs) true) : ∃ a b c, fs = [a, b, c] ∧ WF N a true ∧ WF N b false ∧ WF N c false := by
  cases h with
  | op sg w =>
    obtain ⟨rfl, _⟩ := sg
    exact wfs3 w
theorem whole_plain {x : Int} (h : whole a = some x) : a = plain x := by
  unfold whole at h
  split at h
  · cases h; rfl
  · cases h
theorem wf_plain {n : Int} (h : InR n) : WF N (plain n) false := .sum h trivial fun p hp => by cases hp
theorem whole_in {x : Int} (h : whole a = some x) (w : WF N a false) : InR x := by
  have e := whole_plain h
  subst e
  obtain ⟨n, ps, e, h1, _⟩ := w.s
  injection e with e1 e2
  rw [e1]; exact h1
theorem wf_kt (h : WK N k r) : WF N (kt r k) r := by
  cases r with
  | true => exact .row h
  | false =>
    refine .sum in0 ⟨fun q hq => (nomatch hq), show (1 : Int) ≠ 0 from by decide, ⟨show (-32768 : Int) ≤ 1 from by decide, show (1 : Int) < 32768 from by decide⟩, trivial⟩ fun p hp => ?_
    have e : p = (k, 1) := by simpa using hp
    rw [e]; exact h
theorem wf_add (ha : WF N a false) (hb : WF N b false) : WF N (addF N a b t) false := by
  obtain ⟨n, ps, rfl, _, a2, a3⟩ := ha.s
  obtain ⟨m, qs, rfl, _, b2, b3⟩ := hb.s
  refine .sum (wr_in _) (addP_can a2) fun p hp => ?_
  obtain ⟨q, hq, e⟩ := addP_mem hp
  rw [← e]
  rcases hq with hq | hq
  · exact a3 q hq
  · exact b3 q hq
theorem wf_oft (ha : WF N a false) : WF N (oft N a t) false := wf_add (wf_plain in0) ha
theorem b01 (p : Prop) [Decidable p] : InR (if p then 1 else 0) := by
  by_cases h : p
  · rw [if_pos h]; exact ⟨by decide, by decide⟩
  · rw [if_neg h]; exact in0
theorem wf_min (ha : WF N a r) (hb : WF N b r) : WF N (minC N a b) r := by
  unfold minC
  split
  · exact hb
  · exact ha
theorem wf_sameOf (ha : WF N a false) (hb : WF N b false) : WF N (sameOf N a b) false := by
  unfold sameOf
  split
  · exact wf_plain (b01 _)
  · exact wf_kt (.op (ks := [false]) ⟨.inr rfl, rfl⟩ (.cons (wf_min ha hb) .nil))
theorem wf_mn (ha : WF N a r) (hb : WF N b r) : WF N (mn N a b) r := by unfold mn; split <;> assumption
theorem wf_mx (ha : WF N a r) (hb : WF N b r) : WF N (mx N a b) r := by unfold mx; split <;> assumption
theorem wf_kt2 {o : Op} (hs : Sg o [false, false] r) (ha : WF N a false) (hb : WF N b false) : WF N (kt r (.op o [a, b])) r := wf_kt (.op hs (.cons ha (.cons hb .nil)))
theorem wf_mul (ha : WF N a false) (hb : WF N b false) : WF N (mulF N a b) false := by
  unfold mulF
  split
  · exact wf_oft hb
  · split
    · exact wf_oft ha
    · exact wf_kt2 ⟨rfl, rfl⟩ (wf_mn ha hb) (wf_mx ha hb)
theorem dv_in (x y : Int) : InR (dv x y) := by
  unfold dv
  split
  · exact in0
  · exact wr_in _
theorem wf_div (ha : WF N a false) (hb : WF N b false) : WF N (divF a b) false := by
  unfold divF
  split
  · split
    · exact wf_plain in0
    · split
      · exact ha
      · split
        · exact wf_plain (dv_in _ _)
        · exact wf_kt2 ⟨rfl, rfl⟩ ha hb
  · exact wf_kt2 ⟨rfl, rfl⟩ ha hb
theorem wf_rest (ha : WF N a false) (hb : WF N b false) : WF N (restF a b) false := by
  unfold restF
  split
  · split
    · exact ha
    · split
      · exact wf_plain in0
      · split
        · exact wf_plain (wr_in _)
        · exact wf_kt2 ⟨rfl, rfl⟩ ha hb
  · exact wf_kt2 ⟨rfl, rfl⟩ ha hb
theorem wf_less (ha : WF N a false) (hb : WF N b false) : WF N (lessF a b) false := by
  unfold lessF
  split
  · exact wf_plain in0
  · split
    · exact wf_plain (b01 _)
    · exact wf_kt2 ⟨rfl, rfl⟩ ha hb
theorem wf_pick (hc : WF N c false) (ha : WF N a false) (hb : WF N b false) : WF N (pickF c a b) false := by
  unfold pickF
  split
  · split <;> assumption
  · split
    · exact ha
    · exact wf_kt (.op (ks := [false, false, false]) ⟨rfl, rfl⟩ (.cons hc (.cons ha (.cons hb .nil))))
theorem wf_idx (ha : WF N a true) (hb : WF N b false) : WF N (idxF a b) false := by
  have dflt : WF N (kt false (.op .idx [a, b])) false := wf_kt (.op (ks := [true, false]) ⟨rfl, rfl⟩ (.cons ha (.cons hb .nil)))
  obtain ⟨k, rfl, hk⟩ := ha.rw'
  unfold idxF
  split
  · exact dflt
  · rename_i i _
    split
    · rename_i fs e
      have e : k = .op .make fs := e
      subst e
      obtain ⟨h1, h2⟩ := make_wf hk
      split
      · rename_i hi
        have hl : i.toNat < fs.length := by omega
        rw [List.getD_eq_getElem?_getD, List.getElem?_eq_getElem hl]
        exact h1 _ (List.getElem_mem hl)
      · exact wf_plain in0
    · rename_i c v e
      have e : k = .op .many [c, v] := e
      subst e
      obtain ⟨c', v', e, h1, h2⟩ := many_wf hk
      cases e
      split
      · split
        · exact h2
        · exact wf_plain in0
      · exact dflt
    · exact dflt
theorem strip_wf : ∀ {f : F}, WF N f true → WF N (strip f) true := by
  intro f
  fun_induction strip f with
  | case1 r p n ih =>
    intro h
    obtain ⟨k, e, hk⟩ := h.rw'
    injection e with e
    subst e
    obtain ⟨a, b, c, e, h1, _⟩ := put_wf hk
    cases e
    exact ih h1
  | case2 f h => exact fun h => h
theorem wf_size (ha : WF N a true) : WF N (sizeF a) false := by
  have hs := strip_wf ha
  have dflt : WF N (kt false (.op .size [strip a])) false := wf_kt (.op (ks := [true]) ⟨rfl, rfl⟩ (.cons hs .nil))
  obtain ⟨k, ek, hk⟩ := hs.rw'
  unfold sizeF
  split
  · rename_i fs e
    rw [ek] at e
    have e : k = .op .make fs := e
    subst e
    obtain ⟨h1, h2⟩ := make_wf hk
    exact wf_plain ⟨by omega, by omega⟩
  · split
    · exact wf_plain ⟨by omega, by omega⟩
    · exact dflt
  · exact dflt
theorem wf_put (ha : WF N a true) (hb : WF N b false) (hc : WF N c false) : WF N (putF a b c) true := by
  have dflt : WF N (kt true (.op .put [a, b, c])) true := wf_kt (.op (ks := [true, false, false]) ⟨rfl, rfl⟩ (.cons ha (.cons hb (.cons hc .nil))))
  have ha' := ha
  obtain ⟨k, rfl, hk⟩ := ha.rw'
  unfold putF
  split
  · rename_i fs i e _
    have e : k = .op .make fs := e
    subst e
    obtain ⟨h1, h2⟩ := make_wf hk
    split
    · exact ha'
    · refine wf_kt (wk_make (fun f hf => ?_) (by rw [List.length_set]; exact h2))
      rcases List.mem_or_eq_of_mem_set hf with hf | hf
      · exact h1 f hf
      · rw [hf]; exact hc
  · exact dflt
theorem made_wf {o : Op} (hs : Sg o ks r) (h : WFs N fs ks) : WF N (made N o fs) r := by
  cases o with
  | copy => obtain ⟨rfl, rfl⟩ := hs; obtain ⟨a, rfl, h1⟩ := wfs1 h; exact h1
  | keep => obtain ⟨rfl, rfl⟩ := hs; obtain ⟨a, rfl, h1⟩ := wfs1 h; exact h1
  | add => obtain ⟨rfl, rfl⟩ := hs; obtain ⟨a, b, rfl, h1, h2⟩ := wfs2 h; exact wf_add h1 h2
  | sub => obtain ⟨rfl, rfl⟩ := hs; obtain ⟨a, b, rfl, h1, h2⟩ := wfs2 h; exact wf_add h1 h2
  | mul => obtain ⟨rfl, rfl⟩ := hs; obtain ⟨a, b, rfl, h1, h2⟩ := wfs2 h; exact wf_mul h1 h2
  | div => obtain ⟨rfl, rfl⟩ := hs; obtain ⟨a, b, rfl, h1, h2⟩ := wfs2 h; exact wf_div h1 h2
  | rest => obtain ⟨rfl, rfl⟩ := hs; obtain ⟨a, b, rfl, h1, h2⟩ := wfs2 h; exact wf_rest h1 h2
  | less => obtain ⟨rfl, rfl⟩ := hs; obtain ⟨a, b, rfl, h1, h2⟩ := wfs2 h; exact wf_less h1 h2
  | same =>
    obtain ⟨h0, rfl⟩ := hs
    rcases h0 with rfl | rfl
    · obtain ⟨a, b, rfl, h1, h2⟩ := wfs2 h; exact wf_sameOf (wf_add h1 h2) (wf_add h2 h1)
    · obtain ⟨a, rfl, h1⟩ := wfs1 h; exact wf_sameOf h1 (wf_oft h1)
  | pick => obtain ⟨rfl, rfl⟩ := hs; obtain ⟨a, b, c, rfl, h1, h2, h3⟩ := wfs3 h; exact wf_pick h1 h2 h3
  | idx => obtain ⟨rfl, rfl⟩ := hs; obtain ⟨a, b, rfl, h1, h2⟩ := wfs2 h; exact wf_idx h1 h2
  | size => obtain ⟨rfl, rfl⟩ := hs; obtain ⟨a, rfl, h1⟩ := wfs1 h; exact wf_size h1
  | put => obtain ⟨rfl, rfl⟩ := hs; obtain ⟨a, b, c, rfl, h1, h2, h3⟩ := wfs3 h; exact wf_put h1 h2 h3
  | many => obtain ⟨rfl, rfl⟩ := hs; obtain ⟨a, b, rfl, h1, h2⟩ := wfs2 h; exact wf_kt2 ⟨rfl, rfl⟩ h1 h2
  | make =>
    obtain ⟨h1, h2, rfl⟩ := hs
    have e : made N .make fs = kt true (.op .make fs) := by unfold made; rfl
    rw [e]
    exact wf_kt (wk_make (h.all h1) (by rw [h.len]; exact h2))
/-! ### values of sums -/
def lf (u0 : Int) (u : K → Int) (f : F) : Int := f.cst * u0 + S u f.pts
theorem lf_add {u0 : Int} {u : K → Int} : Cg (lf u0 u (addF N a b t)) (lf u0 u a + t * lf u0 u b) := by
  refine (((wr_cg _).mulr u0).add (S_addP N.zi)).trans (.of_eq ?_)
  show (a.cst + t * b.cst) * u0 + (S u a.pts + t * S u b.pts) = (a.cst * u0 + S u a.pts) + t * (b.cst * u0 + S u b.pts)
  rw [Int.add_mul, Int.mul_add, Int.mul_assoc]; omega
theorem S_zero : ∀ ps : List (K × Int), S (fun _ => 0) ps = 0
  | [] => rfl
  | p :: r => by
    show p.2 * 0 + S _ r = 0
    rw [S_zero r]; omega
theorem f_ext (ha : WF N a false) (hb : WF N b false) (h : ∀ u0 u, Cg (lf u0 u a) (lf u0 u b)) : a = b := by
  obtain ⟨n, ps, rfl, a1, a2, a3⟩ := ha.s
  obtain ⟨m, qs, rfl, b1, b2, b3⟩ := hb.s
  have e1 : n = m := eq_of_cg a1 b1 (by
    have := h 1 fun _ => 0
    unfold lf at this
    rw [S_zero, S_zero] at this
    have this : Cg (n * 1 + 0) (m * 1 + 0) := this
    rw [Int.mul_one, Int.mul_one, Int.add_zero, Int.add_zero] at this
    exact this)
  have e2 : ps = qs := can_ext N.zi a2 b2 fun j => by
    have := h 0 (ind j)
    have this : Cg (n * 0 + S (ind j) ps) (m * 0 + S (ind j) qs) := this
    rw [Int.mul_zero, Int.mul_zero, Int.zero_add, Int.zero_add] at this
    exact this
  rw [e1, e2]
theorem lf_oft {u0 : Int} {u : K → Int} : Cg (lf u0 u (oft N a t)) (t * lf u0 u a) := by
  refine lf_add.trans (.of_eq ?_)
  show (0 * u0 + 0) + t * lf u0 u a = _
  omega
theorem oft1 (ha : WF N a false) : oft N a 1 = a := f_ext (wf_oft ha) ha fun u0 u => lf_oft.trans (.of_eq (by omega))
theorem neg_sub (ha : WF N a false) (hb : WF N b false) : oft N (addF N a b (-1)) (-1) = addF N b a (-1) := f_ext (wf_oft (wf_add ha hb)) (wf_add hb ha) fun u0 u => by
  refine lf_oft.trans ((lf_add.mul (-1)).trans ((Cg.of_eq ?_).trans lf_add.symm))
  omega
end
/-! ### told in another table -/
section
variable {N1 N2 : Nu} {env : Lb → F} (henv : ∀ l, WF N2 (env l) l.r)
include henv
mutual
theorem hK_wf : ∀ (k : K) (r : Bool), WK N1 k r → WF N2 (hK N2 env k) r
  | .leaf l, r, h => by
    cases h
    unfold hK
    exact henv l
  | .op o fs, r, h => by
    cases h with
    | op sg w =>
      unfold hK
      exact made_wf sg (hFs_wf fs _ w)
theorem hF_wf : ∀ (f : F) (r : Bool), WF N1 f r → WF N2 (hF N2 env f) r
  | .sum n ps, r, h => by
    cases h with
    | sum h1 h2 h3 =>
      unfold hF
      exact hPs_wf ps _ h3 (wf_plain h1)
  | .row k, r, h => by
    cases h with
    | row h =>
      unfold hF
      exact hK_wf k true h
theorem hFs_wf : ∀ (fs : List F) (ks : List Bool), WFs N1 fs ks → WFs N2 (hFs N2 env fs) ks
  | [], ks, h => by
    cases h
    unfold hFs
    exact .nil
  | f :: r, ks, h => by
    cases h with
    | cons h1 h2 =>
      unfold hFs
      exact .cons (hF_wf f _ h1) (hFs_wf r _ h2)
theorem hPs_wf : ∀ (ps : List (K × Int)) (acc : F), (∀ p ∈ ps, WK N1 p.1 false) → WF N2 acc false → WF N2 (hPs N2 env acc ps) false
  | [], acc, _, h => by
    unfold hPs
    exact h
  | (k, m) :: r, acc, hp, h => by
    unfold hPs
    exact hPs_wf r _ (fun p hq => hp p (List.mem_cons_of_mem _ hq)) (wf_add h (hK_wf k false (hp (k, m) List.mem_cons_self)))
end
omit henv in
theorem lf_hPs {u0 : Int} {u : K → Int} : ∀ (ps : List (K × Int)) (acc : F), Cg (lf u0 u (hPs N2 env acc ps)) (lf u0 u acc + S (fun k => lf u0 u (hK N2 env k)) ps)
  | [], acc => by
    unfold hPs
    exact .of_eq (by show _ = _ + 0; omega)
  | (k, m) :: r, acc => by
    unfold hPs
    refine (lf_hPs r _).trans ((lf_add.add (Cg.rfl' _)).trans (.of_eq ?_))
    show _ = lf u0 u acc + (m * lf u0 u (hK N2 env k) + S _ r)
    omega
omit henv in
theorem lf_h {u0 : Int} {u : K → Int} {f : F} (hf : f.isR = false) : Cg (lf u0 u (hF N2 env f)) (f.cst * u0 + S (fun k => lf u0 u (hK N2 env k)) f.pts) := by
  cases f with
  | row k => cases hf
  | sum n ps =>
    unfold hF
    refine (lf_hPs ps _).trans (.of_eq ?_)
    dsimp only [F.cst, F.pts]
    show (n * u0 + 0) + _ = n * u0 + _
    omega
variable {a b c f : F} {fs : List F} {ks : List Bool} {r : Bool} {k : K} {t : Int}
theorem h_add (ha : WF N1 a false) (hb : WF N1 b false) : hF N2 env (addF N1 a b t) = addF N2 (hF N2 env a) (hF N2 env b) t := by
  have wa := hF_wf henv a false ha
  have wb := hF_wf henv b false hb
  refine f_ext (hF_wf henv _ false (wf_add ha hb)) (wf_add wa wb) fun u0 u => ?_
  obtain ⟨n, ps, rfl, _⟩ := ha.s
  obtain ⟨m, qs, rfl, _⟩ := hb.s
  refine (lf_h rfl).trans (Cg.trans ?_ lf_add.symm)
  refine (((wr_cg _).mulr u0).add (S_addP N1.zi)).trans ?_
  refine Cg.trans (.of_eq ?_) (((lf_h (f := .sum n ps) rfl).add ((lf_h (f := .sum m qs) rfl).mul t)).symm)
  dsimp only [F.cst, F.pts]
  rw [Int.add_mul, Int.mul_add, Int.mul_assoc]; omega
omit henv in
theorem h_plain (n : Int) : hF N2 env (plain n) = plain n := by
  unfold plain hF hPs
  rfl
theorem h_oft (ha : WF N1 a false) : hF N2 env (oft N1 a t) = oft N2 (hF N2 env a) t := by
  unfold oft
  rw [h_add henv (wf_plain in0) ha, h_plain]
theorem h_kt (hk : WK N1 k r) : hF N2 env (kt r k) = hK N2 env k := by
  cases r with
  | true =>
    show hF N2 env (.row k) = _
    rw [hF]
  | false =>
    show hF N2 env (.sum 0 [(k, 1)]) = _
    rw [hF, hPs, hPs]
    exact oft1 (hK_wf henv k false hk)
end
end PT
/-! Plain: made of told parts. -/
namespace PT
section
variable {N : Nu} {a b : F}
theorem oft_plain {x y : Int} : oft N (plain y) x = plain (wr (x * y)) := by
  show F.sum (wr (0 + x * y)) [] = _
  rw [Int.zero_add]; rfl
theorem whole_of_plain (x : Int) : whole (plain x) = some x := rfl
theorem mul_comm2 (a b : F) : mulF N a b = mulF N b a := by
  unfold mulF
  cases ha : whole a with
  | some x =>
    cases hb : whole b with
    | some y =>
      dsimp only
      rw [whole_plain ha, whole_plain hb, oft_plain, oft_plain, Int.mul_comm]
    | none => rfl
  | none =>
    cases hb : whole b with
    | some y => rfl
    | none =>
      dsimp only
      have e : [mn N a b, mx N a b] = [mn N b a, mx N b a] := by
        unfold mn mx
        by_cases h1 : N.φ b < N.φ a
        · rw [if_pos h1, if_neg (by omega), if_neg (by omega), if_pos (by omega)]
        · by_cases h2 : N.φ a < N.φ b
          · rw [if_neg h1, if_pos (by omega), if_pos (by omega), if_neg (by omega)]
          · have e := N.φi a b (by omega)
            rw [e]
      rw [e]
theorem sameOf_comm (ha : WF N a false) (e : b = oft N a (-1)) : sameOf N b a = sameOf N a b := by
  obtain ⟨n, ps, rfl, h1, h2, h3⟩ := ha.s
  have hb : WF N b false := by rw [e]; exact wf_oft ha
  by_cases hp : ps = []
  · subst hp
    have e2 : b = plain (wr (-1 * n)) := by rw [e]; exact oft_plain
    have p1 : (plain (wr (-1 * n))).pts = [] := rfl
    have p2 : (F.sum n []).pts = [] := rfl
    rw [e2]
    unfold sameOf
    rw [if_pos p1, if_pos p2]
    show plain (if wr (-1 * n) = 0 then 1 else 0) = plain (if n = 0 then 1 else 0)
    by_cases hn : n = 0
    · rw [if_pos hn, if_pos (by rw [hn]; decide)]
    · rw [if_neg hn, if_neg (by unfold InR at h1; unfold wr; omega)]
  · have hq : b.pts ≠ [] := fun z => by
      obtain ⟨m, qs, rfl, _⟩ := hb.s
      have z : qs = [] := z
      subst z
      have e3 : F.sum n ps = oft N (.sum m []) (-1) := by
        rw [e]
        exact f_ext ha (wf_oft (wf_oft ha)) fun u0 u => ((lf_oft.trans (lf_oft.mul (-1))).trans (.of_eq (by omega))).symm
      rw [show oft N (.sum m []) (-1) = plain _ from oft_plain] at e3
      injection e3 with _ e4
      exact hp e4
    unfold sameOf
    rw [if_neg hq, if_neg (show (F.sum n ps).pts ≠ [] from hp), minC_comm N (by cases hb; rfl) rfl]
theorem oft_oft (ha : WF N a false) : oft N (oft N a (-1)) (-1) = a := f_ext (wf_oft (wf_oft ha)) ha fun u0 u => (lf_oft.trans (lf_oft.mul (-1))).trans (.of_eq (by omega))
theorem strip_idem : ∀ f : F, strip (strip f) = strip f := by
  intro f
  fun_induction strip f with
  | case1 r p n ih => exact ih
  | case2 f h =>
    unfold strip
    split
    · rename_i r p n
      exact absurd rfl (h r p n)
    · rfl
theorem size_strip (f : F) : sizeF (strip f) = sizeF f := by
  unfold sizeF
  rw [strip_idem]
theorem size_put {r p n : F} : sizeF (.row (.op .put [r, p, n])) = sizeF r := by
  have e : strip (.row (.op .put [r, p, n])) = strip r := by rw [strip]
  unfold sizeF
  rw [e]
theorem size_make (fs : List F) : sizeF (.row (.op .make fs)) = plain fs.length := by
  have e : strip (.row (.op .make fs)) = .row (.op .make fs) := by rw [strip]; intro r p n h; cases h
  unfold sizeF
  rw [e]; rfl
end
section
variable {N1 N2 : Nu} {env : Lb → F} (henv : ∀ l, WF N2 (env l) l.r)
variable {a b c f : F} {fs : List F} {ks : List Bool} {r : Bool} {k : K} {t : Int}
theorem hFs_map : ∀ fs : List F, hFs N2 env fs = fs.map (hF N2 env)
  | [] => by rw [hFs]; rfl
  | f :: r => by rw [hFs, hFs_map r]; rfl
theorem h_whole {x : Int} (h : whole a = some x) : hF N2 env a = plain x := by
  rw [whole_plain h, h_plain]
theorem h_op (o : Op) (fs : List F) : hK N2 env (.op o fs) = made N2 o (fs.map (hF N2 env)) := by rw [hK, hFs_map]
theorem h_row (k : K) : hF N2 env (.row k) = hK N2 env k := by rw [hF]
theorem h_make (fs : List F) : hF N2 env (.row (.op .make fs)) = .row (.op .make (fs.map (hF N2 env))) := by
  rw [h_row, h_op]
  unfold made
  rfl
theorem h_many : hF N2 env (.row (.op .many [a, b])) = .row (.op .many [hF N2 env a, hF N2 env b]) := by
  rw [h_row, h_op]
  rfl
include henv
theorem h_dflt {o : Op} (hs : Sg o ks r) (h : WFs N1 fs ks) : hF N2 env (kt r (.op o fs)) = made N2 o (fs.map (hF N2 env)) := by rw [h_kt henv (.op hs h), h_op]
theorem h_sameOf (wc : WF N1 a false) (wd : WF N1 b false) (e1 : hF N2 env b = oft N2 (hF N2 env a) (-1)) (e2 : hF N2 env a = oft N2 (hF N2 env b) (-1)) : hF N2 env (sameOf N1 a b) = sameOf N2 (hF N2 env a) (hF N2 env b) := by
  have wA := hF_wf henv a false wc
  have wB := hF_wf henv b false wd
  unfold sameOf
  by_cases hp : a.pts = []
  · rw [if_pos hp]
    have ea : a = plain a.cst := by
      obtain ⟨n, ps, rfl, _⟩ := wc.s
      have hp : ps = [] := hp
      subst hp; rfl
    have eA : hF N2 env a = plain a.cst := by rw [ea]; exact h_plain _
    have p2 : (plain a.cst).pts = [] := rfl
    rw [h_plain, eA, if_pos p2]
    rfl
  · rw [if_neg hp, h_dflt henv (o := .same) (ks := [false]) ⟨.inr rfl, rfl⟩ (.cons (wf_min wc wd) .nil)]
    show sameOf N2 (hF N2 env (minC N1 a b)) (oft N2 (hF N2 env (minC N1 a b)) (-1)) = sameOf N2 (hF N2 env a) (hF N2 env b)
    unfold minC
    split
    · rw [← e2]
      exact sameOf_comm wA e1
    · rw [← e1]
theorem h_size (ha : WF N1 a true) : sizeF (hF N2 env a) = sizeF (hF N2 env (strip a)) := by
  revert ha
  fun_induction strip a with
  | case1 r p n ih =>
    intro h
    obtain ⟨k, e, hk⟩ := h.rw'
    injection e with e
    subst e
    obtain ⟨a, b, c, e, h1, h2, h3⟩ := put_wf hk
    cases e
    rw [← ih h1, h_row, h_op]
    show sizeF (putF (hF N2 env r) (hF N2 env p) (hF N2 env n)) = _
    unfold putF
    split
    · rename_i fs i e1 e2
      split
      · rfl
      · obtain ⟨k', e3, _⟩ := (hF_wf henv r true h1).rw'
        rw [e3] at e1 ⊢
        have e1 : k' = .op .make fs := e1
        subst e1
        show sizeF (.row (.op .make _)) = _
        rw [size_make, size_make, List.length_set]
    · exact size_put
  | case2 f h => intro _; rfl
theorem made_h {o : Op} (hs : Sg o ks r) (h : WFs N1 fs ks) : hF N2 env (made N1 o fs) = made N2 o (fs.map (hF N2 env)) := by
  cases o with
  | copy => obtain ⟨rfl, rfl⟩ := hs; obtain ⟨a, rfl, h1⟩ := wfs1 h; rfl
  | keep => obtain ⟨rfl, rfl⟩ := hs; obtain ⟨a, rfl, h1⟩ := wfs1 h; rfl
  | add => obtain ⟨rfl, rfl⟩ := hs; obtain ⟨a, b, rfl, h1, h2⟩ := wfs2 h; exact h_add henv h1 h2
  | sub => obtain ⟨rfl, rfl⟩ := hs; obtain ⟨a, b, rfl, h1, h2⟩ := wfs2 h; exact h_add henv h1 h2
  | mul =>
    obtain ⟨rfl, rfl⟩ := hs; obtain ⟨a, b, rfl, h1, h2⟩ := wfs2 h
    show hF N2 env (mulF N1 a b) = mulF N2 (hF N2 env a) (hF N2 env b)
    unfold mulF
    cases ha : whole a with
    | some x =>
      dsimp only
      rw [h_oft henv h2, h_whole ha]; rfl
    | none =>
      cases hb : whole b with
      | some y =>
        dsimp only
        rw [h_oft henv h1, h_whole hb]
        show _ = mulF N2 (hF N2 env a) (plain y)
        rw [mul_comm2]; rfl
      | none =>
        dsimp only
        rw [h_dflt henv (o := .mul) (ks := [false, false]) ⟨rfl, rfl⟩ (.cons (wf_mn h1 h2) (.cons (wf_mx h1 h2) .nil))]
        show mulF N2 (hF N2 env (mn N1 a b)) (hF N2 env (mx N1 a b)) = mulF N2 (hF N2 env a) (hF N2 env b)
        unfold mn mx
        by_cases g1 : N1.φ b < N1.φ a
        · rw [if_pos g1, if_neg (by omega), mul_comm2]
        · by_cases g2 : N1.φ a < N1.φ b
          · rw [if_neg g1, if_pos (by omega)]
          · have e := N1.φi a b (by omega)
            subst e
            rw [if_neg g1]
  | same =>
    obtain ⟨h0, rfl⟩ := hs
    rcases h0 with rfl | rfl
    · obtain ⟨a, b, rfl, h1, h2⟩ := wfs2 h
      show hF N2 env (sameOf N1 (addF N1 a b (-1)) (addF N1 b a (-1))) = sameOf N2 (addF N2 (hF N2 env a) (hF N2 env b) (-1)) (addF N2 (hF N2 env b) (hF N2 env a) (-1))
      have wA := hF_wf henv a false h1
      have wB := hF_wf henv b false h2
      rw [h_sameOf henv (wf_add h1 h2) (wf_add h2 h1), h_add henv h1 h2, h_add henv h2 h1]
      · rw [h_add henv h1 h2, h_add henv h2 h1, neg_sub wA wB]
      · rw [h_add henv h1 h2, h_add henv h2 h1, neg_sub wB wA]
    · obtain ⟨a, rfl, h1⟩ := wfs1 h
      show hF N2 env (sameOf N1 a (oft N1 a (-1))) = sameOf N2 (hF N2 env a) (oft N2 (hF N2 env a) (-1))
      have wA := hF_wf henv a false h1
      rw [h_sameOf henv h1 (wf_oft h1), h_oft henv h1]
      · rw [h_oft henv h1]
      · rw [h_oft henv h1, oft_oft wA]
  | less =>
    obtain ⟨rfl, rfl⟩ := hs; obtain ⟨a, b, rfl, h1, h2⟩ := wfs2 h
    show hF N2 env (lessF a b) = lessF (hF N2 env a) (hF N2 env b)
    have dflt := h_dflt henv (o := .less) (ks := [false, false]) ⟨rfl, rfl⟩ h
    unfold lessF
    by_cases e : a = b
    · rw [if_pos e, if_pos (by rw [e]), h_plain]
    · rw [if_neg e]
      split
      · rename_i x y ex ey
        rw [h_whole ex, h_whole ey, h_plain]
        exact (if_neg (fun z => e (by rw [whole_plain ex, whole_plain ey]; exact z))).symm
      · exact dflt
  | div =>
    obtain ⟨rfl, rfl⟩ := hs; obtain ⟨a, b, rfl, h1, h2⟩ := wfs2 h
    show hF N2 env (divF a b) = divF (hF N2 env a) (hF N2 env b)
    have dflt := h_dflt henv (o := .div) (ks := [false, false]) ⟨rfl, rfl⟩ h
    unfold divF
    cases hb : whole b with
    | none => exact dflt
    | some y =>
      dsimp only
      rw [h_whole hb]
      show _ = if y = 0 then plain 0 else if y = 1 then hF N2 env a else _
      by_cases y0 : y = 0
      · rw [if_pos y0, if_pos y0, h_plain]
      · rw [if_neg y0, if_neg y0]
        by_cases y1 : y = 1
        · rw [if_pos y1, if_pos y1]
        · rw [if_neg y1, if_neg y1]
          cases ha : whole a with
          | none =>
            dsimp only
            rw [dflt]
            show divF (hF N2 env a) (hF N2 env b) = _
            rw [h_whole hb]
            unfold divF
            rw [whole_of_plain]
            dsimp only
            rw [if_neg y0, if_neg y1]
          | some x =>
            dsimp only
            rw [h_whole ha, h_plain]; rfl
  | rest =>
    obtain ⟨rfl, rfl⟩ := hs; obtain ⟨a, b, rfl, h1, h2⟩ := wfs2 h
    show hF N2 env (restF a b) = restF (hF N2 env a) (hF N2 env b)
    have dflt := h_dflt henv (o := .rest) (ks := [false, false]) ⟨rfl, rfl⟩ h
    unfold restF
    cases hb : whole b with
    | none => exact dflt
    | some y =>
      dsimp only
      rw [h_whole hb]
      show _ = if y = 0 then hF N2 env a else if y = 1 then plain 0 else _
      by_cases y0 : y = 0
      · rw [if_pos y0, if_pos y0]
      · rw [if_neg y0, if_neg y0]
        by_cases y1 : y = 1
        · rw [if_pos y1, if_pos y1, h_plain]
        · rw [if_neg y1, if_neg y1]
          cases ha : whole a with
          | none =>
            dsimp only
            rw [dflt]
            show restF (hF N2 env a) (hF N2 env b) = _
            rw [h_whole hb]
            unfold restF
            rw [whole_of_plain]
            dsimp only
            rw [if_neg y0, if_neg y1]
          | some x =>
            dsimp only
            rw [h_whole ha, h_plain]; rfl
  | pick =>
    obtain ⟨rfl, rfl⟩ := hs; obtain ⟨c, a, b, rfl, h1, h2, h3⟩ := wfs3 h
    show hF N2 env (pickF c a b) = pickF (hF N2 env c) (hF N2 env a) (hF N2 env b)
    have dflt := h_dflt henv (o := .pick) (ks := [false, false, false]) ⟨rfl, rfl⟩ h
    cases hc : whole c with
    | some x =>
      unfold pickF
      rw [hc, h_whole hc]
      dsimp only
      rw [whole_of_plain]
      dsimp only
      split <;> rfl
    | none =>
      by_cases e : a = b
      · have e1 : pickF c a b = a := by unfold pickF; rw [hc]; exact if_pos e
        rw [e1, ← e]
        unfold pickF
        split
        · split <;> rfl
        · rw [if_pos rfl]
      · have e1 : pickF c a b = kt false (.op .pick [c, a, b]) := by unfold pickF; rw [hc]; exact if_neg e
        rw [e1]
        exact dflt
  | idx =>
    obtain ⟨rfl, rfl⟩ := hs; obtain ⟨a, p, rfl, h1, h2⟩ := wfs2 h
    show hF N2 env (idxF a p) = idxF (hF N2 env a) (hF N2 env p)
    have dflt := h_dflt henv (o := .idx) (ks := [true, false]) ⟨rfl, rfl⟩ h
    obtain ⟨k, rfl, hk⟩ := h1.rw'
    unfold idxF
    split
    · exact dflt
    · rename_i i ei
      rw [h_whole ei, whole_of_plain]
      dsimp only
      split
      · rename_i fs' e
        have e : k = .op .make fs' := e
        subst e
        rw [h_make]
        show _ = if 0 ≤ i ∧ i < ((fs'.map (hF N2 env)).length : Nat) then (fs'.map (hF N2 env)).getD i.toNat (plain 0) else plain 0
        rw [List.length_map]
        split
        · rename_i hi
          have hl : i.toNat < fs'.length := by omega
          rw [List.getD_eq_getElem?_getD, List.getD_eq_getElem?_getD, List.getElem?_map, List.getElem?_eq_getElem hl]
          rfl
        · exact h_plain _
      · rename_i c v e
        have e : k = .op .many [c, v] := e
        subst e
        split
        · rename_i w ew
          rw [h_many, h_whole ew]
          show _ = if 0 ≤ i ∧ i < min 40 w then hF N2 env v else plain 0
          split
          · rfl
          · exact h_plain _
        · have d2 := dflt
          rw [d2]
          show idxF (hF N2 env (.row (.op .many [c, v]))) (hF N2 env p) = _
          rw [h_whole ei]
          rfl
      · rw [dflt]
        show idxF (hF N2 env (.row k)) (hF N2 env p) = _
        rw [h_whole ei]
        rfl
  | size =>
    obtain ⟨rfl, rfl⟩ := hs; obtain ⟨a, rfl, h1⟩ := wfs1 h
    show hF N2 env (sizeF a) = sizeF (hF N2 env a)
    have ws := strip_wf h1
    have dflt := h_dflt henv (o := .size) (ks := [true]) ⟨rfl, rfl⟩ (.cons ws .nil)
    rw [h_size henv h1, ← size_strip a]
    have hi := strip_idem a
    generalize strip a = s at ws dflt hi
    obtain ⟨k, rfl, hk⟩ := ws.rw'
    unfold sizeF
    rw [hi]
    split
    · rename_i fs' e
      have e : k = .op .make fs' := e
      subst e
      rw [h_plain, h_make]
      have := size_make (fs'.map (hF N2 env))
      unfold sizeF at this
      rw [this, List.length_map]
    · rename_i c v e
      have e : k = .op .many [c, v] := e
      subst e
      split
      · rename_i w ew
        rw [h_plain, h_many, h_whole ew]
        have e : strip (.row (.op .many [plain w, hF N2 env v])) = .row (.op .many [plain w, hF N2 env v]) := by rw [strip]; intro r p n h; cases h
        rw [e]
        rfl
      · rw [dflt]
        rfl
    · rw [dflt]
      rfl
  | put =>
    obtain ⟨rfl, rfl⟩ := hs; obtain ⟨a, p, n, rfl, h1, h2, h3⟩ := wfs3 h
    show hF N2 env (putF a p n) = putF (hF N2 env a) (hF N2 env p) (hF N2 env n)
    have dflt := h_dflt henv (o := .put) (ks := [true, false, false]) ⟨rfl, rfl⟩ h
    obtain ⟨k, rfl, hk⟩ := h1.rw'
    unfold putF
    split
    · rename_i fs' i e ei
      have e : k = .op .make fs' := e
      subst e
      rw [h_make, h_whole ei]
      show _ = if i < 0 ∨ i ≥ ((fs'.map (hF N2 env)).length : Nat) then _ else kt true (.op .make ((fs'.map (hF N2 env)).set i.toNat (hF N2 env n)))
      rw [List.length_map]
      split
      · exact h_make _
      · show hF N2 env (.row (.op .make _)) = _
        rw [h_make, List.map_set]
        rfl
    · rw [dflt]
      rfl
  | many =>
    obtain ⟨rfl, rfl⟩ := hs; obtain ⟨a, b, rfl, h1, h2⟩ := wfs2 h
    exact h_many
  | make =>
    obtain ⟨h1, h2, rfl⟩ := hs
    have e : ∀ N fs, made N .make fs = kt true (.op .make fs) := fun N fs => by unfold made; rfl
    rw [e, e]
    exact h_make _
end
/-! ### terms -/
mutual
inductive WT : Tm → Bool → Prop
  | num {n : Int} : InR n → WT (.num n) false
  | name (l : Lb) : l.own = false → WT (.name l) l.r
  | op {o : Op} {ts : List Tm} {ks : List Bool} {r : Bool} : Sg o ks r → (o = .same → ks = [false, false]) → WTs ts ks → WT (.op o ts) r
inductive WTs : List Tm → List Bool → Prop
  | nil : WTs [] []
  | cons {t : Tm} {b : Bool} {ts : List Tm} {ks : List Bool} : WT t b → WTs ts ks → WTs (t :: ts) (b :: ks)
end
section
variable {N N1 N2 : Nu} {env : Lb → F} (henv : ∀ l, WF N2 (env l) l.r)
include henv
mutual
theorem ev_wf : ∀ (t : Tm) (r : Bool), WT t r → WF N2 (ev N2 env t) r
  | .num n, r, h => by
    cases h with
    | num h => exact wf_plain h
  | .name l, r, h => by
    cases h
    exact henv l
  | .op o ts, r, h => by
    cases h with
    | op hs _ w => exact made_wf hs (evs_wf ts _ w)
theorem evs_wf : ∀ (ts : List Tm) (ks : List Bool), WTs ts ks → WFs N2 (evs N2 env ts) ks
  | [], _, h => by
    cases h
    exact .nil
  | t :: r, _, h => by
    cases h with
    | cons h1 h2 => exact .cons (ev_wf t _ h1) (evs_wf r _ h2)
end
omit henv in
/-- each name its own thing -/
def leaf (l : Lb) : F := kt l.r (.leaf l)
omit henv in
theorem leaf_wf (N : Nu) (l : Lb) : WF N (leaf l) l.r := wf_kt (.leaf l)
mutual
theorem ev_h : ∀ (t : Tm) (r : Bool), WT t r → hF N2 env (ev N1 leaf t) = ev N2 env t
  | .num n, r, h => h_plain n
  | .name l, r, h => by
    show hF N2 env (kt l.r (.leaf l)) = env l
    rw [h_kt (N1 := N1) henv (.leaf l), hK]
  | .op o ts, r, h => by
    cases h with
    | op hs _ w =>
      show hF N2 env (made N1 o (evs N1 leaf ts)) = made N2 o (evs N2 env ts)
      rw [made_h henv hs (evs_wf (leaf_wf N1) ts _ w), evs_h ts _ w]
theorem evs_h : ∀ (ts : List Tm) (ks : List Bool), WTs ts ks → (evs N1 leaf ts).map (hF N2 env) = evs N2 env ts
  | [], _, h => rfl
  | t :: r, _, h => by
    cases h with
    | cons h1 h2 =>
      show hF N2 env (ev N1 leaf t) :: (evs N1 leaf r).map (hF N2 env) = _
      rw [ev_h t _ h1, evs_h r _ h2]; rfl
end
/-- alike in the free table: equal in any other -/
theorem alike_all {t s : Tm} {r q : Bool} (ht : WT t r) (hs : WT s q) (e : ev N1 leaf t = ev N1 leaf s) : ev N2 env t = ev N2 env s := by
  rw [← ev_h henv t r ht (N1 := N1), ← ev_h henv s q hs (N1 := N1), e]
omit henv in
/-- .. and with the names put in -/
theorem alike_sub {N3 : Nu} {σ : Lb → Tm} (hσ : ∀ l, WT (σ l) l.r) {t s : Tm} {r q : Bool} (ht : WT t r) (hs : WT s q) (e : ev N1 leaf t = ev N1 leaf s) : ev N3 leaf (sub σ t) = ev N3 leaf (sub σ s) := by
  rw [ev_sub, ev_sub]
  exact alike_all (fun l => ev_wf (leaf_wf N3) _ _ (hσ l)) ht hs e
end
end PT
/-! Plain: trees told by numbers, none twice. -/
namespace PT
def prN (a b : Nat) : Nat := 2 ^ a * (2 * b + 1)
theorem prN_inj : ∀ {a b c d : Nat}, prN a b = prN c d → a = c ∧ b = d
  | 0, b, 0, d, h => ⟨rfl, by unfold prN at h; omega⟩
  | 0, b, c + 1, d, h => by
    exfalso
    unfold prN at h
    rw [Nat.pow_succ, Nat.mul_comm (2 ^ c) 2, Nat.mul_assoc] at h
    generalize 2 ^ c * (2 * d + 1) = z at h
    omega
  | a + 1, b, 0, d, h => by
    exfalso
    unfold prN at h
    rw [Nat.pow_succ, Nat.mul_comm (2 ^ a) 2, Nat.mul_assoc] at h
    generalize 2 ^ a * (2 * b + 1) = z at h
    omega
  | a + 1, b, c + 1, d, h => by
    have h2 : prN a b = prN c d := by
      unfold prN at h ⊢
      rw [Nat.pow_succ, Nat.mul_comm (2 ^ a) 2, Nat.mul_assoc, Nat.pow_succ, Nat.mul_comm (2 ^ c) 2, Nat.mul_assoc] at h
      omega
    obtain ⟨e1, e2⟩ := prN_inj h2
    exact ⟨by rw [e1], e2⟩
def zN (i : Int) : Nat := if 0 ≤ i then 2 * i.toNat else 2 * (-i).toNat + 1
theorem zN_inj {i j : Int} (h : zN i = zN j) : i = j := by
  unfold zN at h
  split at h <;> split at h <;> omega
def bN (b : Bool) : Nat := if b = true then 1 else 0
theorem bN_inj {a b : Bool} (h : bN a = bN b) : a = b := by
  cases a <;> cases b <;> first | rfl | (exact absurd h (by decide))
def lN (l : Lb) : Nat := prN (bN l.own) (prN (bN l.d) (prN (bN l.r) (bN l.k)))
theorem lN_inj {a b : Lb} (h : lN a = lN b) : a = b := by
  obtain ⟨h1, h⟩ := prN_inj h
  obtain ⟨h2, h⟩ := prN_inj h
  obtain ⟨h3, h4⟩ := prN_inj h
  obtain ⟨a1, a2, a3, a4⟩ := a
  obtain ⟨b1, b2, b3, b4⟩ := b
  have e1 : a1 = b1 := bN_inj h1
  have e2 : a2 = b2 := bN_inj h2
  have e3 : a3 = b3 := bN_inj h3
  have e4 : a4 = b4 := bN_inj h4
  rw [e1, e2, e3, e4]
def oN : Op → Nat
  | .add => 0
  | .sub => 1
  | .mul => 2
  | .div => 3
  | .rest => 4
  | .less => 5
  | .same => 6
  | .pick => 7
  | .copy => 8
  | .idx => 9
  | .size => 10
  | .put => 11
  | .many => 12
  | .make => 13
  | .keep => 14
theorem oN_inj {a b : Op} (h : oN a = oN b) : a = b := by
  revert h
  cases a <;> cases b <;> first | (intro _; rfl) | (intro h; exact absurd h (by decide))
mutual
def cK : K → Nat
  | .leaf l => prN 0 (lN l)
  | .op o fs => prN 1 (prN (oN o) (cFs fs))
def cF : F → Nat
  | .sum n ps => prN 0 (prN (zN n) (cPs ps))
  | .row k => prN 1 (cK k)
def cFs : List F → Nat
  | [] => 0
  | f :: r => prN (cF f) (cFs r) + 1
def cPs : List (K × Int) → Nat
  | [] => 0
  | (k, m) :: r => prN (cK k) (prN (zN m) (cPs r)) + 1
end
mutual
theorem cK_inj : ∀ a b : K, cK a = cK b → a = b
  | .leaf l, .leaf l', h => by
    rw [cK, cK] at h
    rw [lN_inj (prN_inj h).2]
  | .leaf l, .op o fs, h => by
    rw [cK, cK] at h
    exact absurd (prN_inj h).1 (by decide)
  | .op o fs, .leaf l, h => by
    rw [cK, cK] at h
    exact absurd (prN_inj h).1 (by decide)
  | .op o fs, .op o' fs', h => by
    rw [cK, cK] at h
    obtain ⟨h1, h2⟩ := prN_inj (prN_inj h).2
    rw [oN_inj h1, cFs_inj fs fs' h2]
theorem cF_inj : ∀ a b : F, cF a = cF b → a = b
  | .sum n ps, .sum m qs, h => by
    rw [cF, cF] at h
    obtain ⟨h1, h2⟩ := prN_inj (prN_inj h).2
    rw [zN_inj h1, cPs_inj ps qs h2]
  | .sum n ps, .row k, h => by
    rw [cF, cF] at h
    exact absurd (prN_inj h).1 (by decide)
  | .row k, .sum n ps, h => by
    rw [cF, cF] at h
    exact absurd (prN_inj h).1 (by decide)
  | .row k, .row k', h => by
    rw [cF, cF] at h
    rw [cK_inj k k' (prN_inj h).2]
theorem cFs_inj : ∀ a b : List F, cFs a = cFs b → a = b
  | [], [], _ => rfl
  | [], f :: r, h => by
    rw [cFs, cFs] at h
    omega
  | f :: r, [], h => by
    rw [cFs, cFs] at h
    omega
  | f :: r, g :: s, h => by
    rw [cFs, cFs] at h
    obtain ⟨h1, h2⟩ := prN_inj (Nat.succ.inj h)
    rw [cF_inj f g h1, cFs_inj r s h2]
theorem cPs_inj : ∀ a b : List (K × Int), cPs a = cPs b → a = b
  | [], [], _ => rfl
  | [], (k, m) :: r, h => by
    rw [cPs, cPs] at h
    omega
  | (k, m) :: r, [], h => by
    rw [cPs, cPs] at h
    omega
  | (k, m) :: r, (k', m') :: s, h => by
    rw [cPs, cPs] at h
    obtain ⟨h1, h2⟩ := prN_inj (Nat.succ.inj h)
    obtain ⟨h3, h4⟩ := prN_inj h2
    rw [cK_inj k k' h1, zN_inj h3, cPs_inj r s h4]
end
end PT
/-! Readings, told to simp. -/
namespace PM
open PySem PySem.Spec PyProof.Rows L2 DL DR
@[simp] theorem runF_eq (N : Nat) (fb : TFS) (ds : List D) (M : List MO) : runF N fb ds M = (fb (stD N ds) M).bind fun p => match p.1 with
    | .rt d => some (d, p.2)
    | .nx _ => some (.non, p.2)
    | _ => none := rfl
@[simp] theorem eVar_eq (i : Nat) (δ : List (Option D)) (M : List MO) : eVar i δ M = match δ[i]? with
    | some (some d) => some (d, M)
    | _ => none := rfl
@[simp] theorem eC_eq (d : D) (δ : List (Option D)) (M : List MO) : eC d δ M = some (d, M) := rfl
@[simp] theorem eOp_eq (g : D → D → List MO → Option D) (fa fb : TF) (δ : List (Option D)) (M : List MO) : eOp g fa fb δ M = (fa δ M).bind fun p => (fb δ p.2).bind fun q => (g p.1 q.1 q.2).map fun c => (c, q.2) := rfl
@[simp] theorem eT_eq (f : TF) (δ : List (Option D)) (M : List MO) : eT f δ M = (f δ M).bind fun p => match p.1 with
    | .bl b => some (b, p.2)
    | _ => none := rfl
@[simp] theorem eAnd_eq (f g : TFT) (δ : List (Option D)) (M : List MO) : eAnd f g δ M = (f δ M).bind fun p => if p.1 = true then g δ p.2 else some (false, p.2) := rfl
@[simp] theorem eOr_eq (f g : TFT) (δ : List (Option D)) (M : List MO) : eOr f g δ M = (f δ M).bind fun p => if p.1 = true then some (true, p.2) else g δ p.2 := rfl
@[simp] theorem eNot_eq (f : TFT) (δ : List (Option D)) (M : List MO) : eNot f δ M = (f δ M).map fun p => (!p.1, p.2) := rfl
@[simp] theorem eOrV_eq (fa fb : TF) (δ : List (Option D)) (M : List MO) : eOrV fa fb δ M = (fa δ M).bind fun p => match p.1 with
    | .bl true => some (.bl true, p.2)
    | .bl false => fb δ p.2
    | _ => none := rfl
@[simp] theorem eIf_eq (t : TFT) (fa fb : TF) (δ : List (Option D)) (M : List MO) : eIf t fa fb δ M = (t δ M).bind fun p => if p.1 = true then fa δ p.2 else fb δ p.2 := rfl
@[simp] theorem eUn_eq (g : D → List MO → Option D) (fa : TF) (δ : List (Option D)) (M : List MO) : eUn g fa δ M = (fa δ M).bind fun p => (g p.1 p.2).map fun c => (c, p.2) := rfl
@[simp] theorem aNil_eq (δ : List (Option D)) (M : List MO) : aNil δ M = some ([], M) := rfl
@[simp] theorem aCons_eq (f : TF) (g : TFA) (δ : List (Option D)) (M : List MO) : aCons f g δ M = (f δ M).bind fun p => (g δ p.2).map fun q => (p.1 :: q.1, q.2) := rfl
@[simp] theorem eTup_eq (f : TFA) (δ : List (Option D)) (M : List MO) : eTup f δ M = (f δ M).bind fun p => if p.1.length ≤ 1000 then some (.tup p.1, p.2) else none := rfl
@[simp] theorem eLst_eq (f : TFA) (δ : List (Option D)) (M : List MO) : eLst f δ M = (f δ M).bind fun p => if p.1.length ≤ 1000 then some (.lst p.1, p.2) else none := rfl
@[simp] theorem eLstM_eq (f : TFA) (δ : List (Option D)) (M : List MO) : eLstM f δ M = (f δ M).bind fun p => if p.1.length ≤ 1000 then some (.obj p.2.length, p.2 ++ [.lst p.1]) else none := rfl
@[simp] theorem eChain_eq (g g' : D → D → List MO → Option D) (fa fb fc : TF) (δ : List (Option D)) (M : List MO) : eChain g g' fa fb fc δ M = (fa δ M).bind fun p => (fb δ p.2).bind fun q => (g p.1 q.1 q.2).bind fun r => match r with
  | .bl true => (fc δ q.2).bind fun t => (g' q.1 t.1 t.2).map fun c => (c, t.2)
  | .bl false => some (.bl false, q.2)
  | _ => none := rfl
@[simp] theorem eSl_eq (fa : TF) (fl fh : TFO) (δ : List (Option D)) (M : List MO) : eSl fa fl fh δ M = (fa δ M).bind fun p => (fl δ p.2).bind fun q => (fh δ q.2).bind fun r => (gSl p.1 q.1 r.1 r.2).map fun c => (c, r.2) := rfl
@[simp] theorem oNone_eq (δ : List (Option D)) (M : List MO) : oNone δ M = some (none, M) := rfl
@[simp] theorem oSome_eq (f : TF) (δ : List (Option D)) (M : List MO) : oSome f δ M = (f δ M).bind fun p => match p.1 with
  | .int i => some (some i, p.2)
  | _ => none := rfl
@[simp] theorem eCall_eq (g : List D → List MO → Option D) (fa : TFA) (δ : List (Option D)) (M : List MO) : eCall g fa δ M = (fa δ M).bind fun p => (g p.1 p.2).map fun c => (c, p.2) := rfl
@[simp] theorem eFn_eq (n : Nat) (fn : TFn) (fr : TFA) (δ : List (Option D)) (M : List MO) : eFn n fn fr δ M = (fr δ M).bind fun p => if p.1.length = n then fn p.1 p.2 else none := rfl
@[simp] theorem sSet_eq (i : Nat) (f : TF) (δ : List (Option D)) (M : List MO) : sSet i f δ M = (f δ M).map fun p => (.nx (δ.set i (some p.1)), p.2) := rfl
@[simp] theorem sRet_eq (f : TF) (δ : List (Option D)) (M : List MO) : sRet f δ M = (f δ M).map fun p => (.rt p.1, p.2) := rfl
@[simp] theorem sDrop_eq (f : TF) (δ : List (Option D)) (M : List MO) : sDrop f δ M = (f δ M).map fun p => (.nx δ, p.2) := rfl
@[simp] theorem sNil_eq (δ : List (Option D)) (M : List MO) : sNil δ M = some (.nx δ, M) := rfl
@[simp] theorem sSeq_eq (f g : TFS) (δ : List (Option D)) (M : List MO) : sSeq f g δ M = (f δ M).bind fun p => match p.1 with
  | .nx δ1 => g δ1 p.2
  | o => some (o, p.2) := rfl
@[simp] theorem sIf_eq (t : TFT) (f g : TFS) (δ : List (Option D)) (M : List MO) : sIf t f g δ M = (t δ M).bind fun p => if p.1 = true then f δ p.2 else g δ p.2 := rfl
/-! ### the object of Forms -/
def flds (i : Nat) : List (Str × D) := [(Str.ofString "contents", .obj (i + 1)), (Str.ofString "numbers", .obj (i + 2)), (Str.ofString "thing_keys", .obj (i + 3)), (Str.ofString "things", .obj (i + 4))]
@[simp] theorem eFld_eq (m : Str) (fo : TF) (δ : List (Option D)) (M : List MO) : eFld m fo δ M = (fo δ M).bind fun p => match p.1 with
  | .obj i => match p.2[i]? with
    | some (.ins fs) => (fs.lookup m).map fun d => (d, p.2)
    | _ => none
  | _ => none := rfl
@[simp] theorem eMeth_eq (m : Str) (n : Nat) (fn : TFn) (fo : TF) (fr : TFA) (δ : List (Option D)) (M : List MO) : eMeth m n fn fo fr δ M = (fo δ M).bind fun p => match p.1 with
  | .obj i => match p.2[i]? with
    | some (.ins fs) => if (fs.lookup m).isNone = true then (fr δ p.2).bind fun q => if q.1.length + 1 = n then fn (.obj i :: q.1) q.2 else none else none
    | _ => none
  | _ => none := rfl
@[simp] theorem eApp_eq (fo fa : TF) (δ : List (Option D)) (M : List MO) : eApp' fo fa δ M = (fo δ M).bind fun p => if isLst p.1 p.2 = true then (fa δ p.2).bind fun q => match p.1 with
    | .obj l => match q.2[l]? with
      | some (.lst ds) => if ds.length < 100000 then some (.non, q.2.set l (.lst (ds ++ [q.1]))) else none
      | _ => none
    | _ => none
  else none := rfl
@[simp] theorem sDput_eq (fv fo fi : TF) (δ : List (Option D)) (M : List MO) : sDput fv fo fi δ M = (fv δ M).bind fun p => (fo δ p.2).bind fun q => (fi δ q.2).bind fun r => match q.1 with
  | .obj l => match r.2[l]? with
    | some (.dct kvs) => (keyD r.1).bind fun k => if kvs.length < 100000 then some (.nx δ, r.2.set l (.dct (putN kvs k p.1))) else none
    | _ => none
  | _ => none := rfl
@[simp] theorem fl_contents (i : Nat) : (flds i).lookup (Str.ofString "contents") = some (.obj (i + 1)) := rfl
@[simp] theorem fl_numbers (i : Nat) : (flds i).lookup (Str.ofString "numbers") = some (.obj (i + 2)) := rfl
@[simp] theorem fl_thing_keys (i : Nat) : (flds i).lookup (Str.ofString "thing_keys") = some (.obj (i + 3)) := rfl
@[simp] theorem fl_things (i : Nat) : (flds i).lookup (Str.ofString "things") = some (.obj (i + 4)) := rfl
@[simp] theorem im_kept (i : Nat) : (flds i).lookup (Str.ofString "kept") = none := rfl
@[simp] theorem im_kept_thing (i : Nat) : (flds i).lookup (Str.ofString "kept_thing") = none := rfl
@[simp] theorem im_plain (i : Nat) : (flds i).lookup (Str.ofString "plain") = none := rfl
@[simp] theorem im_thing (i : Nat) : (flds i).lookup (Str.ofString "thing") = none := rfl
@[simp] theorem im_whole (i : Nat) : (flds i).lookup (Str.ofString "whole") = none := rfl
@[simp] theorem im_kind (i : Nat) : (flds i).lookup (Str.ofString "kind") = none := rfl
@[simp] theorem im_key_of (i : Nat) : (flds i).lookup (Str.ofString "key_of") = none := rfl
@[simp] theorem im_added (i : Nat) : (flds i).lookup (Str.ofString "added") = none := rfl
@[simp] theorem im_so_often (i : Nat) : (flds i).lookup (Str.ofString "so_often") = none := rfl
@[simp] theorem im_same_of (i : Nat) : (flds i).lookup (Str.ofString "same_of") = none := rfl
@[simp] theorem im_mul_of (i : Nat) : (flds i).lookup (Str.ofString "mul_of") = none := rfl
@[simp] theorem im_divided (i : Nat) : (flds i).lookup (Str.ofString "divided") = none := rfl
@[simp] theorem im_at_of (i : Nat) : (flds i).lookup (Str.ofString "at_of") = none := rfl
@[simp] theorem im_size_of (i : Nat) : (flds i).lookup (Str.ofString "size_of") = none := rfl
@[simp] theorem im_put_of (i : Nat) : (flds i).lookup (Str.ofString "put_of") = none := rfl
@[simp] theorem im_by_rule (i : Nat) : (flds i).lookup (Str.ofString "by_rule") = none := rfl
@[simp] theorem im_made (i : Nat) : (flds i).lookup (Str.ofString "made") = none := rfl
/-! ### keys -/
mutual
def nn : NestedKey → Bool
  | .none => false
  | .num _ => true
  | .text _ => true
  | .tup ks => nns ks
def nns : List NestedKey → Bool
  | [] => true
  | k :: ks => nn k && nns ks
end
mutual
theorem nk_of : ∀ k : NestedKey, nn k = true → D.nk (kd k) = some k
  | .none, h => nomatch (show false = true from h)
  | .num i, _ => rfl
  | .text x, _ => rfl
  | .tup ks, h => by
    show (D.nks (kds ks)).map NestedKey.tup = some (.tup ks)
    rw [nks_of ks h]; rfl
theorem nks_of : ∀ ks : List NestedKey, nns ks = true → D.nks (kds ks) = some ks
  | [], _ => rfl
  | k :: ks, h => by
    obtain ⟨h1, h2⟩ := Bool.and_eq_true_iff.mp (show (nn k && nns ks) = true from h)
    show ((D.nk (kd k)).bind fun k => (D.nks (kds ks)).map fun ks => k :: ks) = some (k :: ks)
    rw [nk_of k h1, nks_of ks h2]; rfl
end
/-- a key that a dict takes -/
def Key (c : NestedKey) : Prop := ∃ ks, c = .tup ks ∧ nn c = true ∧ c.depth ≤ 8
theorem Key.get {c : NestedKey} (h : Key c) : keyD (kd c) = some c := by
  obtain ⟨ks, rfl, h1, h2⟩ := h
  show ((D.nk (kd (.tup ks))).bind fun k => if k.depth ≤ 8 then some k else none) = _
  rw [nk_of _ h1]
  exact if_pos h2
open Classical in
/-- the place of a in l -/
noncomputable def idx {α : Type} (l : List α) (a : α) : Nat := match l with
  | [] => 0
  | b :: r => if b = a then 0 else idx r a + 1
section
variable {α β : Type} {a b : α}
theorem idx_pos {r : List α} (h : b = a) : idx (b :: r) a = 0 := by rw [idx]; exact if_pos h
theorem idx_neg {r : List α} (h : ¬ b = a) : idx (b :: r) a = idx r a + 1 := by rw [idx]; exact if_neg h
theorem idx_get : ∀ {l : List α}, a ∈ l → l[idx l a]? = some a
  | [], h => by cases h
  | b :: r, h => by
    by_cases e : b = a
    · rw [idx_pos e, e]; rfl
    · rw [idx_neg e, List.getElem?_cons_succ]
      rcases List.mem_cons.mp h with h | h
      · exact absurd h.symm e
      · exact idx_get h
theorem idx_lt {l : List α} (h : a ∈ l) : idx l a < l.length := (List.getElem?_eq_some_iff.mp (idx_get h)).1
theorem idx_not : ∀ {l : List α}, a ∉ l → idx l a = l.length
  | [], _ => rfl
  | b :: r, h => by
    rw [List.mem_cons, not_or] at h
    rw [idx_neg fun e => h.1 e.symm, idx_not h.2]; rfl
theorem idx_inj {l : List α} (ha : a ∈ l) (h : idx l a = idx l b) : a = b := by
  by_cases hb : b ∈ l
  · have e := idx_get ha
    rw [h, idx_get hb] at e
    exact (Option.some.inj e).symm
  · have := idx_lt ha
    rw [h, idx_not hb] at this
    exact absurd this (Nat.lt_irrefl _)
theorem idx_app {m : List α} : ∀ {l : List α}, a ∈ l → idx (l ++ m) a = idx l a
  | [], h => by cases h
  | b :: r, h => by
    rw [List.cons_append]
    by_cases e : b = a
    · rw [idx_pos e, idx_pos e]
    · rw [idx_neg e, idx_neg e]
      rcases List.mem_cons.mp h with h | h
      · exact absurd h.symm e
      · rw [idx_app h]
theorem idx_new : ∀ {l : List α}, a ∉ l → idx (l ++ [a]) a = l.length
  | [], _ => idx_pos rfl
  | b :: r, h => by
    rw [List.mem_cons, not_or] at h
    rw [List.cons_append, idx_neg fun e => h.1 e.symm, idx_new h.2]; rfl
theorem idx_map {g : α → β} : ∀ {l : List α}, (∀ b ∈ l, g b = g a → b = a) → idx (l.map g) (g a) = idx l a
  | [], _ => rfl
  | b :: r, h => by
    rw [List.map_cons]
    by_cases e : b = a
    · rw [idx_pos e, idx_pos (by rw [e])]
    · rw [idx_neg e, idx_neg fun z => e (h b List.mem_cons_self z), idx_map fun b hb => h b (List.mem_cons_of_mem _ hb)]
end
/-- a dict that numbers its keys -/
def ndx (n : Nat) : List NestedKey → List (NestedKey × D)
  | [] => []
  | c :: r => (c, .int (n : Nat)) :: ndx (n + 1) r
theorem ndx_val {c : NestedKey} : ∀ {cs : List NestedKey} {n : Nat}, valD (ndx n cs) c = if c ∈ cs then some (.int ((n + idx cs c : Nat) : Int)) else none
  | [], n => by rw [if_neg (by simp)]; rfl
  | d :: r, n => by
    by_cases e : d = c
    · show valD ((d, .int (n : Nat)) :: ndx (n + 1) r) c = _
      rw [valD_pos (by exact e), if_pos (by rw [e]; exact List.mem_cons_self), idx_pos e]
      rfl
    · show valD ((d, .int (n : Nat)) :: ndx (n + 1) r) c = _
      rw [valD_neg (by exact e), ndx_val (cs := r) (n := n + 1)]
      by_cases h : c ∈ r
      · rw [if_pos h, if_pos (List.mem_cons_of_mem _ h), idx_neg e]
        congr 3
        omega
      · rw [if_neg h, if_neg (by simp only [List.mem_cons, not_or]; exact ⟨fun z => e z.symm, h⟩)]
theorem ndx_len : ∀ (cs : List NestedKey) (n : Nat), (ndx n cs).length = cs.length
  | [], _ => rfl
  | _ :: r, n => by
    show (ndx (n + 1) r).length + 1 = r.length + 1
    rw [ndx_len r]
theorem ndx_app (c : NestedKey) : ∀ (cs : List NestedKey) (n : Nat), ndx n cs ++ [(c, .int ((n + cs.length : Nat) : Int))] = ndx n (cs ++ [c])
  | [], n => rfl
  | d :: r, n => by
    show (d, D.int (n : Nat)) :: (ndx (n + 1) r ++ [(c, .int ((n + (r.length + 1) : Nat) : Int))]) = (d, D.int (n : Nat)) :: ndx (n + 1) (r ++ [c])
    rw [← ndx_app c r (n + 1)]
    congr 5
    omega
theorem ndx_put {c : NestedKey} {cs : List NestedKey} (h : c ∉ cs) : putN (ndx 0 cs) c (.int (cs.length : Nat)) = ndx 0 (cs ++ [c]) := by
  unfold putN
  rw [ndx_val, if_neg h]
  show ndx 0 cs ++ _ = _
  rw [← ndx_app c cs 0, Nat.zero_add]
/-! ### the table, by keys -/
structure Raw (M : List MO) (i : Nat) (Cs Ks : List NestedKey) : Prop where
  ins : M[i]? = some (.ins (flds i))
  c : M[i + 1]? = some (.lst (Cs.map kd))
  n : M[i + 2]? = some (.dct (ndx 0 Cs))
  k : M[i + 3]? = some (.lst (Ks.map kd))
  t : M[i + 4]? = some (.dct (ndx 0 Ks))
/-- what else was there stays -/
structure Fr (i : Nat) (M M' : List MO) : Prop where
  len : M.length ≤ M'.length
  at_ : ∀ j, j < M.length → (j ≤ i ∨ i + 4 < j) → M'[j]? = M[j]?
theorem Fr.refl (i : Nat) (M : List MO) : Fr i M M := ⟨Nat.le_refl _, fun _ _ _ => rfl⟩
theorem Fr.trans {i : Nat} {M M1 M2 : List MO} (f : Fr i M M1) (g : Fr i M1 M2) : Fr i M M2 := ⟨Nat.le_trans f.len g.len, fun j h k => (g.at_ j (Nat.lt_of_lt_of_le h f.len) k).trans (f.at_ j h k)⟩
theorem some_lt {M : List MO} {j : Nat} {o : MO} (h : M[j]? = some o) : j < M.length := (List.getElem?_eq_some_iff.mp h).1
section
variable {M : List MO} {i : Nat} {Cs Ks : List NestedKey} {c : NestedKey}
theorem kept_raw (h : Raw M i Cs Ks) (hk : Key c) (hl : Cs.length < 100000) : ∃ M', fn_m_kept [.obj i, kd c] M = some (.int (idx Cs c : Nat), M') ∧ Raw M' i (if c ∈ Cs then Cs else Cs ++ [c]) Ks ∧ Fr i M M' := by
  have f0 := h.ins
  have f1 := h.c
  have f2 := h.n
  by_cases hc : c ∈ Cs
  · refine ⟨M, ?_, by rw [if_pos hc]; exact h, Fr.refl i M⟩
    simp [fn_m_kept, fb_m_kept, stD, gDin, hk.get, dctOf, f0, f2, ndx_val, hc, gDget]
  · refine ⟨(M.set (i + 2) (.dct (ndx 0 (Cs ++ [c])))).set (i + 1) (.lst ((Cs ++ [c]).map kd)), ?_, ?_, ?_⟩
    · simp [fn_m_kept, fb_m_kept, stD, gDin, hk.get, dctOf, f0, f2, f1, ndx_val, hc, gDget, gLen, lstOf, ndx_len, hl, ndx_put hc, isLst, List.getElem?_set_self', List.getElem?_set_ne]
      rw [idx_new hc, idx_not hc]
    · rw [if_neg hc]
      refine ⟨?_, ?_, ?_, ?_, ?_⟩
      · simp [List.getElem?_set_ne, f0]
      · simp [List.getElem?_set_self', List.getElem?_set_ne, f1]
      · simp [List.getElem?_set_self', List.getElem?_set_ne, f2]
      · simp [List.getElem?_set_ne, h.k]
      · simp [List.getElem?_set_ne, h.t]
    · refine ⟨by simp, fun j h1 h2 => ?_⟩
      rw [List.getElem?_set_ne (by omega), List.getElem?_set_ne (by omega)]
/-- the things' half -/
def mThing (M : List MO) (i : Nat) (Ks : List NestedKey) (c : NestedKey) : List MO := (M.set (i + 4) (.dct (ndx 0 (Ks ++ [c])))).set (i + 3) (.lst ((Ks ++ [c]).map kd))
theorem raw_thing (h : Raw M i Cs Ks) : Raw (mThing M i Ks c) i Cs (Ks ++ [c]) ∧ Fr i M (mThing M i Ks c) := by
  unfold mThing
  refine ⟨⟨?_, ?_, ?_, ?_, ?_⟩, by simp, fun j h1 h2 => ?_⟩
  · simp [List.getElem?_set_ne, h.ins]
  · simp [List.getElem?_set_ne, h.c]
  · simp [List.getElem?_set_ne, h.n]
  · simp [List.getElem?_set_self', List.getElem?_set_ne, h.k]
  · simp [List.getElem?_set_self', List.getElem?_set_ne, h.t]
  · rw [List.getElem?_set_ne (by omega), List.getElem?_set_ne (by omega)]
theorem beq_n_r : (Str.ofString "n" == Str.ofString "r") = false := by decide
theorem thing_raw {r : Bool} {M2 : List MO} {v : D} (h : Raw M i Cs Ks) (hk : Key c) (hl : Ks.length < 100000)
    (h2 : ∀ M1, M1 = (if c ∈ Ks then M else mThing M i Ks c) → fn_m_kept [.obj i, if r = true then .tup [.str (Str.ofString "row"), .int (idx Ks c : Nat)] else .tup [.str (Str.ofString "sum"), .int 0, .tup [.tup [.int (idx Ks c : Nat), .int 1]]]] M1 = some (v, M2)) :
    fn_m_kept_thing [.obj i, .str (if r = true then Str.ofString "r" else Str.ofString "n"), kd c] M = some (v, M2) := by
  have f0 := h.ins
  have f3 := h.k
  have f4 := h.t
  by_cases hc : c ∈ Ks
  · have h2 := h2 M (by rw [if_pos hc])
    cases r <;> simp at h2 <;> simp [fn_m_kept_thing, fb_m_kept_thing, stD, gDin, hk.get, dctOf, f0, f4, ndx_val, hc, gDget, gEq, h2, beq_n_r]
  · have h2 := h2 (mThing M i Ks c) (by rw [if_neg hc])
    unfold mThing at h2
    cases r <;> simp at h2 <;> simp [fn_m_kept_thing, fb_m_kept_thing, stD, gDin, hk.get, dctOf, f0, f3, f4, ndx_val, hc, gDget, gLen, lstOf, ndx_len, hl, ndx_put hc, isLst, List.getElem?_set_self', List.getElem?_set_ne, gEq, beq_n_r, idx_new hc, idx_not hc ▸ h2]
end
end PM
/-! Tables of trees, as they lie in the state. -/
namespace PM
open PySem PySem.Spec PyProof.Rows L2 DL DR PT
def ostr : Op → Str
  | .add => Str.ofString "add"
  | .sub => Str.ofString "sub"
  | .mul => Str.ofString "mul"
  | .div => Str.ofString "div"
  | .rest => Str.ofString "rest"
  | .less => Str.ofString "less"
  | .same => Str.ofString "same"
  | .pick => Str.ofString "pick"
  | .copy => Str.ofString "copy"
  | .idx => Str.ofString "at"
  | .size => Str.ofString "size"
  | .put => Str.ofString "put"
  | .many => Str.ofString "many"
  | .make => Str.ofString "make"
  | .keep => Str.ofString "keep"
theorem ostr_inj (a b : Op) (h : ostr a = ostr b) : a = b := by
  revert h
  cases a <;> cases b <;> first | (intro _; rfl) | (intro h; exact absurd h (by decide))
theorem ostr_thing (a : Op) : ostr a ≠ Str.ofString "thing" := by cases a <;> decide
def kst (r : Bool) : Str := if r = true then Str.ofString "r" else Str.ofString "n"
def bi (b : Bool) : Int := if b = true then 1 else 0
/-- n0, n1, r0, r1 -/
def nmS (r k : Bool) : Str := match r, k with
  | false, false => Str.ofString "n0"
  | false, true => Str.ofString "n1"
  | true, false => Str.ofString "r0"
  | true, true => Str.ofString "r1"
def lbk (l : Lb) : NestedKey := if l.own = true then .tup [.text (Str.ofString "own"), .num (bi l.d), .text (nmS l.r l.k)] else .tup [.num (bi l.d), .text (nmS l.r l.k)]
theorem lbk_inj (a b : Lb) (h : lbk a = lbk b) : a = b := by
  obtain ⟨a1, a2, a3, a4⟩ := a
  obtain ⟨b1, b2, b3, b4⟩ := b
  revert h
  cases a1 <;> cases b1 <;> cases a2 <;> cases b2 <;> cases a3 <;> cases b3 <;> cases a4 <;> cases b4 <;> first | (intro _; rfl) | (intro h; exact absurd h (by decide))
def Op.isR : Op → Bool
  | .put => true
  | .many => true
  | .make => true
  | .keep => true
  | _ => false
def kdK : K → Bool
  | .leaf l => l.r
  | .op o _ => Op.isR o
theorem sg_isR {o : Op} {ks : List Bool} {r : Bool} (h : Sg o ks r) : r = Op.isR o := by
  cases o <;> first | exact h.2 | exact h.2.2
/-! ### tables -/
structure Tb where
  C : List F
  Q : List K
noncomputable def kF (T : Tb) : F → NestedKey
  | .sum n ps => .tup [.text (Str.ofString "sum"), .num n, .tup (ps.map fun p => .tup [.num (idx T.Q p.1 : Nat), .num p.2])]
  | .row k => .tup [.text (Str.ofString "row"), .num (idx T.Q k : Nat)]
noncomputable def kK (T : Tb) : K → NestedKey
  | .leaf l => .tup [.text (Str.ofString "thing"), .text (kst l.r), lbk l]
  | .op o fs => .tup (.text (ostr o) :: fs.map fun f => .num (idx T.C f : Nat))
inductive Ar (T : Tb) : List F → List Bool → Prop
  | nil : Ar T [] []
  | cons {f : F} {b : Bool} {fs : List F} {ks : List Bool} : f ∈ T.C → f.isR = b → Ar T fs ks → Ar T (f :: fs) (b :: ks)
theorem Ar.mem {T : Tb} : ∀ {fs : List F} {ks : List Bool}, Ar T fs ks → ∀ f ∈ fs, f ∈ T.C
  | _, _, .nil, f, h => by cases h
  | _, _, .cons h1 _ h3, f, h => by
    rcases List.mem_cons.mp h with rfl | h
    · exact h1
    · exact h3.mem f h
theorem Ar.len {T : Tb} : ∀ {fs : List F} {ks : List Bool}, Ar T fs ks → fs.length = ks.length
  | _, _, .nil => rfl
  | _, _, .cons _ _ h => by simp [h.len]
def FOk (T : Tb) : F → Prop
  | .sum n ps => InR n ∧ Can (fun k => (idx T.Q k : Int)) ps ∧ ∀ p ∈ ps, p.1 ∈ T.Q ∧ kdK p.1 = false
  | .row k => k ∈ T.Q ∧ kdK k = true
def KOk (T : Tb) : K → Prop
  | .leaf _ => True
  | .op o fs => ∃ ks, Sg o ks (Op.isR o) ∧ Ar T fs ks
structure TOk (T : Tb) : Prop where
  c : ∀ f ∈ T.C, FOk T f
  q : ∀ k ∈ T.Q, KOk T k
/-- T grows to T' -/
structure Gr (T T' : Tb) : Prop where
  c : ∃ x, T'.C = T.C ++ x
  q : ∃ x, T'.Q = T.Q ++ x
section
variable {T T1 T2 : Tb} {f g : F} {k : K}
theorem Gr.refl (T : Tb) : Gr T T := ⟨⟨[], by simp⟩, ⟨[], by simp⟩⟩
theorem Gr.trans (a : Gr T T1) (b : Gr T1 T2) : Gr T T2 := by
  obtain ⟨⟨x, a1⟩, ⟨y, a2⟩⟩ := a
  obtain ⟨⟨z, b1⟩, ⟨u, b2⟩⟩ := b
  exact ⟨⟨x ++ z, by rw [b1, a1, List.append_assoc]⟩, ⟨y ++ u, by rw [b2, a2, List.append_assoc]⟩⟩
theorem Gr.mc (g : Gr T T1) (h : f ∈ T.C) : f ∈ T1.C := by
  obtain ⟨x, e⟩ := g.c
  rw [e]; exact List.mem_append_left _ h
theorem Gr.mq (g : Gr T T1) (h : k ∈ T.Q) : k ∈ T1.Q := by
  obtain ⟨x, e⟩ := g.q
  rw [e]; exact List.mem_append_left _ h
theorem Gr.ic (g : Gr T T1) (h : f ∈ T.C) : idx T1.C f = idx T.C f := by
  obtain ⟨x, e⟩ := g.c
  rw [e]; exact idx_app h
theorem Gr.iq (g : Gr T T1) (h : k ∈ T.Q) : idx T1.Q k = idx T.Q k := by
  obtain ⟨x, e⟩ := g.q
  rw [e]; exact idx_app h
theorem can_congr {κ : Type} {ψ χ : κ → Int} : ∀ {ps : List (κ × Int)}, (∀ p ∈ ps, ψ p.1 = χ p.1) → Can ψ ps → Can χ ps
  | [], _, _ => trivial
  | p :: r, h, ⟨h1, h2, h3, h4⟩ => ⟨fun q hq => by
      rw [← h p List.mem_cons_self, ← h q (List.mem_cons_of_mem _ hq)]
      exact h1 q hq, h2, h3, can_congr (fun q hq => h q (List.mem_cons_of_mem _ hq)) h4⟩
theorem FOk.mono (g : Gr T T1) (h : FOk T f) : FOk T1 f := by
  cases f with
  | sum n ps =>
    obtain ⟨h1, h2, h3⟩ := h
    refine ⟨h1, can_congr (fun p hp => ?_) h2, fun p hp => ⟨g.mq (h3 p hp).1, (h3 p hp).2⟩⟩
    rw [g.iq (h3 p hp).1]
  | row k => exact ⟨g.mq h.1, h.2⟩
theorem Ar.mono (g : Gr T T1) : ∀ {fs : List F} {ks : List Bool}, Ar T fs ks → Ar T1 fs ks
  | _, _, .nil => .nil
  | _, _, .cons h1 h2 h3 => .cons (g.mc h1) h2 (h3.mono g)
theorem KOk.mono (g : Gr T T1) (h : KOk T k) : KOk T1 k := by
  cases k with
  | leaf l => trivial
  | op o fs =>
    obtain ⟨ks, h1, h2⟩ := h
    exact ⟨ks, h1, h2.mono g⟩
theorem kF_mono (g : Gr T T1) (h : FOk T f) : kF T1 f = kF T f := by
  cases f with
  | sum n ps =>
    have e : (ps.map fun p => NestedKey.tup [.num (idx T1.Q p.1 : Nat), .num p.2]) = ps.map fun p => NestedKey.tup [.num (idx T.Q p.1 : Nat), .num p.2] := List.map_congr_left fun p hp => by rw [g.iq (h.2.2 p hp).1]
    simp only [kF, e]
  | row k =>
    simp only [kF, g.iq h.1]
theorem kK_mono (g : Gr T T1) (h : KOk T k) : kK T1 k = kK T k := by
  cases k with
  | leaf l => rfl
  | op o fs =>
    obtain ⟨ks, _, h2⟩ := h
    have e : (fs.map fun f => NestedKey.num (idx T1.C f : Nat)) = fs.map fun f => NestedKey.num (idx T.C f : Nat) := List.map_congr_left fun p hp => by rw [g.ic (h2.mem p hp)]
    simp only [kK, e]
theorem map_inj {α β : Type} {u : α → β} {P : α → Prop} (hu : ∀ a b, P a → u a = u b → a = b) : ∀ {l m : List α}, (∀ a ∈ l, P a) → l.map u = m.map u → l = m
  | [], [], _, _ => rfl
  | [], _ :: _, _, h => by cases h
  | _ :: _, [], _, h => by cases h
  | a :: l, b :: m, hp, h => by
    rw [List.map_cons, List.map_cons] at h
    injection h with h1 h2
    rw [hu a b (hp a List.mem_cons_self) h1, map_inj hu (fun a ha => hp a (List.mem_cons_of_mem _ ha)) h2]
theorem kF_inj (h : FOk T f) (e : kF T f = kF T g) : f = g := by
  cases f with
  | sum n ps =>
    cases g with
    | sum m qs =>
      unfold kF at e
      simp only [NestedKey.tup.injEq, List.cons.injEq, NestedKey.num.injEq, true_and, and_true] at e
      obtain ⟨e1, e2⟩ := e
      rw [e1]
      congr 1
      refine map_inj (P := fun p => p.1 ∈ T.Q) (fun a b ha hab => ?_) (fun p hp => (h.2.2 p hp).1) e2
      simp only [NestedKey.tup.injEq, List.cons.injEq, NestedKey.num.injEq, and_true] at hab
      exact Prod.ext (idx_inj ha (by omega)) hab.2
    | row k =>
      unfold kF at e
      simp at e
  | row k =>
    cases g with
    | sum m qs =>
      unfold kF at e
      simp at e
    | row k' =>
      unfold kF at e
      simp only [NestedKey.tup.injEq, List.cons.injEq, NestedKey.num.injEq, true_and, and_true] at e
      rw [idx_inj (a := k) (b := k') h.1 (by omega)]
theorem kK_inj {k' : K} (h : KOk T k) (e : kK T k = kK T k') : k = k' := by
  cases k with
  | leaf l =>
    cases k' with
    | leaf l' =>
      unfold kK at e
      simp only [NestedKey.tup.injEq, List.cons.injEq, true_and, and_true] at e
      rw [lbk_inj _ _ e.2]
    | op o fs =>
      unfold kK at e
      simp only [NestedKey.tup.injEq, List.cons.injEq, NestedKey.text.injEq] at e
      exact absurd e.1.symm (ostr_thing o)
  | op o fs =>
    cases k' with
    | leaf l' =>
      unfold kK at e
      simp only [NestedKey.tup.injEq, List.cons.injEq, NestedKey.text.injEq] at e
      exact absurd e.1 (ostr_thing o)
    | op o' fs' =>
      unfold kK at e
      simp only [NestedKey.tup.injEq, List.cons.injEq, NestedKey.text.injEq] at e
      obtain ⟨ks, _, h2⟩ := h
      rw [ostr_inj _ _ e.1]
      congr 1
      refine map_inj (P := fun f => f ∈ T.C) (fun a b ha hab => ?_) h2.mem e.2
      simp only [NestedKey.num.injEq] at hab
      exact idx_inj ha (by omega)
/-! keys fit a dict -/
theorem nns_map {α : Type} {u : α → NestedKey} (hu : ∀ a, nn (u a) = true) : ∀ l : List α, nns (l.map u) = true
  | [] => rfl
  | a :: l => by
    show (nn (u a) && nns (l.map u)) = true
    rw [hu a, nns_map hu l]; rfl
theorem dep_map {α : Type} {u : α → NestedKey} {n : Nat} (hu : ∀ a, (u a).depth ≤ n) : ∀ l : List α, NestedKey.depthAll (l.map u) ≤ n
  | [] => Nat.zero_le _
  | a :: l => by
    show max (u a).depth (NestedKey.depthAll (l.map u)) ≤ n
    exact Nat.max_le.mpr ⟨hu a, dep_map hu l⟩
end
end PM
/-! The table's first methods. -/
namespace PM
open PySem PySem.Spec PyProof.Rows L2 DL DR PT
structure Tab (M : List MO) (i : Nat) (T : Tb) : Prop where
  raw : Raw M i (T.C.map (kF T)) (T.Q.map (kK T))
  ok : TOk T
def sz (T : Tb) : Nat := T.C.length + T.Q.length
/-- N numbers as T does -/
structure Ag (N : Nu) (T : Tb) : Prop where
  c : ∀ f ∈ T.C, N.φ f = idx T.C f
  q : ∀ k ∈ T.Q, N.ψ k = idx T.Q k
theorem Ag.mono {N : Nu} {T T1 : Tb} (g : Gr T T1) (a : Ag N T1) : Ag N T := ⟨fun f h => (a.c f (g.mc h)).trans (g.ic h), fun k h => (a.q k (g.mq h)).trans (g.iq h)⟩
open Classical in
noncomputable def addC (T : Tb) (f : F) : Tb := if f ∈ T.C then T else ⟨T.C ++ [f], T.Q⟩
open Classical in
noncomputable def addQ (T : Tb) (k : PT.K) : Tb := if k ∈ T.Q then T else ⟨T.C, T.Q ++ [k]⟩
section
variable {M M1 : List MO} {i : Nat} {T T1 : Tb} {f g : F} {k : PT.K} {n : Nat} {r : Bool}
theorem addC_gr : Gr T (addC T f) := by
  unfold addC
  split
  · exact .refl T
  · exact ⟨⟨[f], rfl⟩, ⟨[], by simp⟩⟩
theorem addC_mem : f ∈ (addC T f).C := by
  unfold addC
  split
  · assumption
  · exact List.mem_append_right _ List.mem_cons_self
theorem addC_sz : sz (addC T f) ≤ sz T + 1 := by
  unfold addC sz
  split
  · omega
  · simp; omega
theorem addQ_gr : Gr T (addQ T k) := by
  unfold addQ
  split
  · exact .refl T
  · exact ⟨⟨[], by simp⟩, ⟨[k], rfl⟩⟩
theorem addQ_mem : k ∈ (addQ T k).Q := by
  unfold addQ
  split
  · assumption
  · exact List.mem_append_right _ List.mem_cons_self
theorem addQ_sz : sz (addQ T k) ≤ sz T + 1 := by
  unfold addQ sz
  split
  · omega
  · simp; omega
theorem kF_key (T : Tb) (f : F) : Key (kF T f) := by
  cases f with
  | row k => exact ⟨_, rfl, rfl, by simp [kF, NestedKey.depth, NestedKey.depthAll]⟩
  | sum n ps =>
    refine ⟨_, rfl, ?_, ?_⟩
    · show (true && (true && (nns (ps.map fun p => NestedKey.tup [.num (idx T.Q p.1 : Nat), .num p.2]) && true))) = true
      rw [nns_map (fun p => rfl) ps]; rfl
    · have := dep_map (u := fun p : PT.K × Int => NestedKey.tup [.num (idx T.Q p.1 : Nat), .num p.2]) (n := 3) (fun p => by show NestedKey.depth (.tup [.num _, .num _]) ≤ 3; simp [NestedKey.depth, NestedKey.depthAll]) ps
      simp only [kF, NestedKey.depth, NestedKey.depthAll]
      omega
theorem lbk_key (l : Lb) : nn (lbk l) = true ∧ (lbk l).depth ≤ 4 := by
  obtain ⟨a, b, c, d⟩ := l
  cases a <;> cases b <;> cases c <;> cases d <;> decide
theorem kK_key (T : Tb) (k : PT.K) : Key (kK T k) := by
  cases k with
  | leaf l =>
    obtain ⟨h1, h2⟩ := lbk_key l
    refine ⟨_, rfl, ?_, ?_⟩
    · show (true && (true && (nn (lbk l) && true))) = true
      rw [h1]; rfl
    · simp only [kK, NestedKey.depth, NestedKey.depthAll]
      omega
  | op o fs =>
    refine ⟨_, rfl, ?_, ?_⟩
    · show (true && nns (fs.map fun f => NestedKey.num (idx T.C f : Nat))) = true
      rw [nns_map (fun p => rfl) fs]; rfl
    · have := dep_map (u := fun f : F => NestedKey.num (idx T.C f : Nat)) (n := 3) (fun p => by simp [NestedKey.depth]) fs
      simp only [kK, NestedKey.depth, NestedKey.depthAll]
      omega
theorem mapC (hg : Gr T T1) (h : TOk T) : T.C.map (kF T1) = T.C.map (kF T) := List.map_congr_left fun f hf => kF_mono hg (h.c f hf)
theorem mapQ (hg : Gr T T1) (h : TOk T) : T.Q.map (kK T1) = T.Q.map (kK T) := List.map_congr_left fun f hf => kK_mono hg (h.q f hf)
theorem mem_kF (h : TOk T) (hf : FOk T f) : kF T f ∈ T.C.map (kF T) ↔ f ∈ T.C := by
  constructor
  · intro z
    obtain ⟨g, hg, e⟩ := List.mem_map.mp z
    rw [kF_inj hf e.symm]; exact hg
  · exact fun z => List.mem_map.mpr ⟨f, z, rfl⟩
theorem mem_kK (h : TOk T) (hk : KOk T k) : kK T k ∈ T.Q.map (kK T) ↔ k ∈ T.Q := by
  constructor
  · intro z
    obtain ⟨g, hg, e⟩ := List.mem_map.mp z
    rw [kK_inj hk e.symm]; exact hg
  · exact fun z => List.mem_map.mpr ⟨k, z, rfl⟩
theorem idx_kF (h : TOk T) (hf : FOk T f) : idx (T.C.map (kF T)) (kF T f) = idx T.C f := idx_map fun g hg e => kF_inj (h.c g hg) e
theorem idx_kK (h : TOk T) (hk : KOk T k) : idx (T.Q.map (kK T)) (kK T k) = idx T.Q k := idx_map fun g hg e => kK_inj (h.q g hg) e
theorem addC_ok (h : TOk T) (hf : FOk T f) : TOk (addC T f) := by
  refine ⟨fun g hg => ?_, fun k hk => ?_⟩
  · by_cases z : g ∈ T.C
    · exact (h.c g z).mono addC_gr
    · have e : g = f := by
        unfold addC at hg
        split at hg
        · exact absurd hg z
        · rcases List.mem_append.mp hg with hg | hg
          · exact absurd hg z
          · simpa using hg
      rw [e]; exact hf.mono addC_gr
  · have z : k ∈ T.Q := by
      unfold addC at hk
      split at hk <;> exact hk
    exact (h.q k z).mono addC_gr
theorem addQ_ok (h : TOk T) (hf : KOk T k) : TOk (addQ T k) := by
  refine ⟨fun g hg => ?_, fun k' hk => ?_⟩
  · have z : g ∈ T.C := by
      unfold addQ at hg
      split at hg <;> exact hg
    exact (h.c g z).mono addQ_gr
  · by_cases z : k' ∈ T.Q
    · exact (h.q k' z).mono addQ_gr
    · have e : k' = k := by
        unfold addQ at hk
        split at hk
        · exact absurd hk z
        · rcases List.mem_append.mp hk with hk | hk
          · exact absurd hk z
          · simpa using hk
      rw [e]; exact hf.mono addQ_gr
theorem kept_ok (h : Tab M i T) (hf : FOk T f) (hl : sz T < 100000) : ∃ M', fn_m_kept [.obj i, kd (kF T f)] M = some (.int (idx (addC T f).C f : Nat), M') ∧ Tab M' i (addC T f) ∧ Fr i M M' := by
  obtain ⟨M', e1, e2, e3⟩ := kept_raw h.raw (kF_key T f) (by unfold sz at hl; rw [List.length_map]; omega)
  refine ⟨M', ?_, ⟨?_, addC_ok h.ok hf⟩, e3⟩
  · rw [e1, idx_kF h.ok hf]
    unfold addC
    split
    · rfl
    · rename_i hn
      rw [idx_new hn, idx_not hn]
  · by_cases hc : f ∈ T.C
    · rw [if_pos ((mem_kF h.ok hf).mpr hc)] at e2
      have e : addC T f = T := if_pos hc
      rw [e]; exact e2
    · rw [if_neg fun z => hc ((mem_kF h.ok hf).mp z)] at e2
      have g := addC_gr (T := T) (f := f)
      have e : addC T f = ⟨T.C ++ [f], T.Q⟩ := if_neg hc
      have a1 := mapC g h.ok
      have a2 := mapQ g h.ok
      have a3 := kF_mono g hf
      rw [e] at a1 a2 a3 ⊢
      show Raw M' i ((T.C ++ [f]).map _) (T.Q.map _)
      rw [List.map_append, a1, a2, List.map_cons, a3]
      exact e2
/-- what a method gives: a form, and how it stands in all numberings -/
def Ret (i : Nat) (M : List MO) (T : Tb) (n : Nat) (r : Bool) (g : Nu → F) (res : Option (D × List MO)) : Prop :=
  ∃ M' T' f, res = some (.int (idx T'.C f : Nat), M') ∧ Tab M' i T' ∧ Gr T T' ∧ Fr i M M' ∧ sz T' ≤ sz T + n ∧ f ∈ T'.C ∧ f.isR = r ∧ ∀ N, Ag N T' → f = g N
theorem kt_ok {T : Tb} (r : Bool) (hk : k ∈ T.Q) (hr : kdK k = r) : FOk T (kt r k) := by
  cases r with
  | true => exact ⟨hk, hr⟩
  | false => exact ⟨in0, ⟨fun q hq => (nomatch hq), show (1 : Int) ≠ 0 from by decide, ⟨show (-32768 : Int) ≤ 1 from by decide, show (1 : Int) < 32768 from by decide⟩, trivial⟩, fun p hp => by
      have e : p = (k, 1) := by simpa using hp
      rw [e]; exact ⟨hk, hr⟩⟩
theorem kt_isR (r : Bool) (k : PT.K) : (kt r k).isR = r := by cases r <;> rfl
theorem kt_kd (T : Tb) (r : Bool) (k : PT.K) : kd (kF T (kt r k)) = if r = true then .tup [.str (Str.ofString "row"), .int (idx T.Q k : Nat)] else .tup [.str (Str.ofString "sum"), .int 0, .tup [.tup [.int (idx T.Q k : Nat), .int 1]]] := by cases r <;> rfl
theorem thing_ok (h : Tab M i T) (hk : KOk T k) (hr : kdK k = r) (hl : sz T + 2 < 100000) : Ret i M T 2 r (fun _ => kt r k) (fn_m_kept_thing [.obj i, .str (kst r), kd (kK T k)] M) := by
  have g := addQ_gr (T := T) (k := k)
  have h1 : Tab (if kK T k ∈ T.Q.map (kK T) then M else mThing M i (T.Q.map (kK T)) (kK T k)) i (addQ T k) ∧ Fr i M (if kK T k ∈ T.Q.map (kK T) then M else mThing M i (T.Q.map (kK T)) (kK T k)) := by
    by_cases hc : k ∈ T.Q
    · rw [if_pos ((mem_kK h.ok hk).mpr hc), show addQ T k = T from if_pos hc]
      exact ⟨h, Fr.refl i M⟩
    · rw [if_neg fun z => hc ((mem_kK h.ok hk).mp z)]
      have e : addQ T k = ⟨T.C, T.Q ++ [k]⟩ := if_neg hc
      have a1 := mapC g h.ok
      have a2 := mapQ g h.ok
      have a3 := kK_mono g hk
      have ok := addQ_ok h.ok hk
      obtain ⟨b1, b2⟩ := raw_thing (c := kK T k) h.raw
      refine ⟨⟨?_, ok⟩, b2⟩
      rw [e] at a1 a2 a3 ⊢
      show Raw _ i (T.C.map _) ((T.Q ++ [k]).map _)
      rw [List.map_append, a1, a2, List.map_cons, a3]
      exact b1
  generalize hM : (if kK T k ∈ T.Q.map (kK T) then M else mThing M i (T.Q.map (kK T)) (kK T k)) = M1 at h1
  obtain ⟨t1, f1⟩ := h1
  have s1 := addQ_sz (T := T) (k := k)
  obtain ⟨M2, e1, e2, e3⟩ := kept_ok t1 (kt_ok r (addQ_mem (T := T)) hr) (by omega)
  have s2 := addC_sz (T := addQ T k) (f := kt r k)
  refine ⟨M2, _, kt r k, ?_, e2, g.trans addC_gr, f1.trans e3, by omega, addC_mem, kt_isR r k, fun _ _ => rfl⟩
  refine thing_raw (r := r) h.raw (kK_key T k) (by unfold sz at hl; rw [List.length_map]; omega) fun M' hM' => ?_
  rw [hM', hM, idx_kK h.ok hk]
  rw [kt_kd] at e1
  have e4 : idx (addQ T k).Q k = idx T.Q k := by
    by_cases hc : k ∈ T.Q
    · exact g.iq hc
    · rw [show addQ T k = ⟨T.C, T.Q ++ [k]⟩ from if_neg hc]
      show idx (T.Q ++ [k]) k = _
      rw [idx_new hc, idx_not hc]
  rw [e4] at e1
  exact e1
theorem plain_ok {n : Int} (h : Tab M i T) (hn : InR n) (hl : sz T + 1 < 100000) : Ret i M T 1 false (fun _ => plain n) (fn_m_plain [.obj i, .int n] M) := by
  obtain ⟨M2, e1, e2, e3⟩ := kept_ok (f := plain n) h ⟨hn, trivial, fun p hp => (nomatch hp)⟩ (by omega)
  refine ⟨M2, _, plain n, ?_, e2, addC_gr, e3, addC_sz, addC_mem, rfl, fun _ _ => rfl⟩
  have e1 : fn_m_kept [.obj i, .tup [.str (Str.ofString "sum"), .int n, .tup []]] M = _ := e1
  have f0 := h.raw.ins
  simp [fn_m_plain, fb_m_plain, stD, f0, e1]
/-! looks -/
theorem atI_nat {α : Type} {l : List α} {n : Nat} {a : α} (h : l[n]? = some a) : atI l (n : Int) = some a := by
  have hn : n < l.length := (List.getElem?_eq_some_iff.mp h).1
  unfold atI ixN
  rw [if_pos (by omega), if_pos (by omega)]
  exact h
theorem atC (h : Tab M i T) (hf : f ∈ T.C) : gIx (.obj (i + 1)) (.int (idx T.C f : Nat)) M = some (kd (kF T f)) := by
  show (lstOf (.obj (i + 1)) M).bind (fun ds => atI ds _) = _
  have e : lstOf (.obj (i + 1)) M = some ((T.C.map (kF T)).map kd) := by
    show (match M[i + 1]? with
      | some (.lst ds) => some ds
      | _ => none) = _
    rw [h.raw.c]
  rw [e]
  refine atI_nat ?_
  rw [List.getElem?_map, List.getElem?_map, idx_get hf]
  rfl
theorem atQ (h : Tab M i T) (hk : k ∈ T.Q) : gIx (.obj (i + 3)) (.int (idx T.Q k : Nat)) M = some (kd (kK T k)) := by
  show (lstOf (.obj (i + 3)) M).bind (fun ds => atI ds _) = _
  have e : lstOf (.obj (i + 3)) M = some ((T.Q.map (kK T)).map kd) := by
    show (match M[i + 3]? with
      | some (.lst ds) => some ds
      | _ => none) = _
    rw [h.raw.k]
  rw [e]
  refine atI_nat ?_
  rw [List.getElem?_map, List.getElem?_map, idx_get hk]
  rfl
def ow : Option Int → D
  | some n => .int n
  | none => .non
theorem kds_map {α : Type} (u : α → NestedKey) : ∀ l : List α, kds (l.map u) = l.map fun a => kd (u a)
  | [] => rfl
  | a :: l => by
    show kd (u a) :: kds (l.map u) = _
    rw [kds_map u l]; rfl
theorem kd_sum (T : Tb) (n : Int) (ps : List (PT.K × Int)) : kd (kF T (.sum n ps)) = .tup [.str (Str.ofString "sum"), .int n, .tup (ps.map fun p => .tup [.int (idx T.Q p.1 : Nat), .int p.2])] := by
  show D.tup [_, _, .tup (kds _)] = _
  rw [kds_map]
  rfl
theorem kd_row (T : Tb) (k : PT.K) : kd (kF T (.row k)) = .tup [.str (Str.ofString "row"), .int (idx T.Q k : Nat)] := rfl
theorem kd_op (T : Tb) (o : Op) (fs : List F) : kd (kK T (.op o fs)) = .tup (.str (ostr o) :: fs.map fun f => .int (idx T.C f : Nat)) := by
  show D.tup (_ :: kds _) = _
  rw [kds_map]
  rfl
theorem beq_row_sum : (Str.ofString "row" == Str.ofString "sum") = false := by decide
@[simp] theorem ix0 (a : D) (r : List D) (M : List MO) : gIx (.tup (a :: r)) (.int 0) M = some a := atI_nat (n := 0) rfl
@[simp] theorem ix1 (a b : D) (r : List D) (M : List MO) : gIx (.tup (a :: b :: r)) (.int 1) M = some b := atI_nat (n := 1) rfl
@[simp] theorem ix2 (a b c : D) (r : List D) (M : List MO) : gIx (.tup (a :: b :: c :: r)) (.int 2) M = some c := atI_nat (n := 2) rfl
theorem whole_ok (h : Tab M i T) (hf : f ∈ T.C) : fn_m_whole [.obj i, .int (idx T.C f : Nat)] M = some (ow (whole f), M) := by
  have f0 := h.raw.ins
  have a := atC h hf
  cases f with
  | row k =>
    rw [kd_row] at a
    simp [fn_m_whole, fb_m_whole, stD, f0, a, gEq, beq_row_sum, whole, ow]
  | sum n ps =>
    rw [kd_sum] at a
    cases ps with
    | nil => simp [fn_m_whole, fb_m_whole, stD, f0, a, gEq, whole, ow]
    | cons p ps => simp [fn_m_whole, fb_m_whole, stD, f0, a, gEq, whole, ow]
theorem kind_ok (h : Tab M i T) (hf : f ∈ T.C) : fn_m_kind [.obj i, .int (idx T.C f : Nat)] M = some (.str (kst f.isR), M) := by
  have f0 := h.raw.ins
  have a := atC h hf
  cases f with
  | row k =>
    rw [kd_row] at a
    simp [fn_m_kind, fb_m_kind, stD, f0, a, gEq, beq_row_sum, kst, F.isR]
  | sum n ps =>
    rw [kd_sum] at a
    simp [fn_m_kind, fb_m_kind, stD, f0, a, gEq, kst, F.isR]
theorem key_ok (h : Tab M i T) (hf : .row k ∈ T.C) : fn_m_key_of [.obj i, .int (idx T.C (.row k) : Nat)] M = some (kd (kK T k), M) := by
  have f0 := h.raw.ins
  have a := atC h hf
  have b := atQ h (h.ok.c _ hf).1
  rw [kd_row] at a
  simp [fn_m_key_of, fb_m_key_of, stD, f0, a, b]
end
end PM
/-! Sums added: the text's way gives the plain sum. -/
namespace PM
open PySem PySem.Spec PyProof.Rows L2 DL DR PT
def getI : List (Int × Int) → Int → Option Int
  | [], _ => none
  | p :: r, k => if p.1 = k then some p.2 else getI r k
def putI (ks : List (Int × Int)) (k v : Int) : List (Int × Int) := if (getI ks k).isSome = true then ks.map (fun p => if p.1 = k then (p.1, v) else p) else ks ++ [(k, v)]
def gI (ks : List (Int × Int)) (k : Int) : Int := (getI ks k).getD 0
def dI (ks : List (Int × Int)) : List (Int × D) := ks.map fun p => (p.1, .int p.2)
theorem dI_val (k : Int) : ∀ ks : List (Int × Int), valD (dI ks) k = (getI ks k).map D.int
  | [] => rfl
  | p :: r => by
    show valD ((p.1, D.int p.2) :: dI r) k = _
    unfold getI
    by_cases e : p.1 = k
    · rw [valD_pos (by exact e), if_pos e]; rfl
    · rw [valD_neg (by exact e), if_neg e, dI_val k r]
theorem dI_put (k v : Int) (ks : List (Int × Int)) : putN (dI ks) k (.int v) = dI (putI ks k v) := by
  unfold putN putI
  rw [dI_val, Option.isSome_map]
  by_cases h : (getI ks k).isSome = true
  · rw [if_pos h, if_pos h]
    unfold dI
    rw [List.map_map, List.map_map]
    refine List.map_congr_left fun p _ => ?_
    show (if p.1 = k then (p.1, D.int v) else (p.1, D.int p.2)) = (fun p : Int × Int => (p.1, D.int p.2)) (if p.1 = k then (p.1, v) else p)
    split <;> rfl
  · rw [if_neg h, if_neg h]
    unfold dI
    rw [List.map_append]; rfl
theorem get_none {k : Int} : ∀ {ks : List (Int × Int)}, getI ks k = none ↔ k ∉ ks.map (·.1)
  | [] => by simp [getI]
  | p :: r => by
    unfold getI
    rw [List.map_cons, List.mem_cons, not_or]
    by_cases e : p.1 = k
    · rw [if_pos e]
      exact ⟨fun h => (nomatch h), fun h => absurd e.symm h.1⟩
    · rw [if_neg e]
      exact ⟨fun h => ⟨fun z => e z.symm, get_none.mp h⟩, fun h => get_none.mpr h.2⟩
theorem get_map {k v j : Int} : ∀ {ks : List (Int × Int)}, getI (ks.map (fun p => if p.1 = k then (p.1, v) else p)) j = if j = k then (getI ks j).map (fun _ => v) else getI ks j
  | [] => by
    show none = if j = k then none else none
    split <;> rfl
  | p :: r => by
    rw [List.map_cons]
    unfold getI
    by_cases h1 : p.1 = k
    · rw [if_pos h1]
      dsimp only
      by_cases h2 : p.1 = j
      · rw [if_pos h2, if_pos h2, if_pos (by omega)]; rfl
      · rw [if_neg h2, if_neg h2]
        exact get_map
    · rw [if_neg h1]
      by_cases h2 : p.1 = j
      · rw [if_pos h2, if_pos h2, if_neg (by omega)]
      · rw [if_neg h2, if_neg h2]
        exact get_map
theorem get_app {k v j : Int} : ∀ {ks : List (Int × Int)}, getI (ks ++ [(k, v)]) j = (getI ks j).or (if k = j then some v else none)
  | [] => by
    show (if k = j then some v else getI [] j) = _
    split <;> rfl
  | p :: r => by
    rw [List.cons_append]
    unfold getI
    by_cases h : p.1 = j
    · rw [if_pos h, if_pos h]; rfl
    · rw [if_neg h, if_neg h]
      exact get_app
theorem gI_put {k v j : Int} {ks : List (Int × Int)} : gI (putI ks k v) j = if j = k then v else gI ks j := by
  unfold gI putI
  by_cases h : (getI ks k).isSome = true
  · rw [if_pos h, get_map]
    by_cases e : j = k
    · subst e
      rw [if_pos rfl, if_pos rfl]
      obtain ⟨x, hx⟩ := Option.isSome_iff_exists.mp h
      rw [hx]; rfl
    · rw [if_neg e, if_neg e]
  · rw [if_neg h, get_app]
    by_cases e : j = k
    · subst e
      have : getI ks j = none := by simpa using h
      rw [if_pos rfl, this, if_pos rfl]; rfl
    · rw [if_neg e, if_neg (fun z => e z.symm)]
      cases getI ks j <;> rfl
theorem put_keys {k v : Int} {ks : List (Int × Int)} : (putI ks k v).map (·.1) = if k ∈ ks.map (·.1) then ks.map (·.1) else ks.map (·.1) ++ [k] := by
  unfold putI
  by_cases h : (getI ks k).isSome = true
  · have hm : k ∈ ks.map (·.1) := by
      apply Classical.byContradiction
      intro z
      rw [get_none.mpr z] at h
      cases h
    rw [if_pos h, if_pos hm, List.map_map]
    refine List.map_congr_left fun p _ => ?_
    show (if p.1 = k then (p.1, v) else p).1 = p.1
    split <;> rfl
  · have hm : k ∉ ks.map (·.1) := get_none.mp (by simpa using h)
    rw [if_neg h, if_neg hm, List.map_append]; rfl
theorem put_nd {k v : Int} {ks : List (Int × Int)} (h : (ks.map (·.1)).Nodup) : ((putI ks k v).map (·.1)).Nodup := by
  rw [put_keys]
  split
  · exact h
  · rename_i hn
    rw [List.nodup_append]
    exact ⟨h, by simp, fun a ha b hb => by
      have e : b = k := by simpa using hb
      rw [e]; intro z; rw [z] at ha; exact hn ha⟩
theorem put_in {k v : Int} {ks : List (Int × Int)} (hv : InR v) (h : ∀ p ∈ ks, InR p.2) : ∀ p ∈ putI ks k v, InR p.2 := by
  intro p hp
  unfold putI at hp
  split at hp
  · obtain ⟨q, hq, e⟩ := List.mem_map.mp hp
    split at e
    · rw [← e]; exact hv
    · rw [← e]; exact h q hq
  · rcases List.mem_append.mp hp with hp | hp
    · exact h p hp
    · have e : p = (k, v) := by simpa using hp
      rw [e]; exact hv
theorem put_len {k v : Int} {ks : List (Int × Int)} : (putI ks k v).length ≤ ks.length + 1 := by
  unfold putI
  split <;> simp
def put1 (ks ps : List (Int × Int)) : List (Int × Int) := ps.foldl (fun a p => putI a p.1 p.2) ks
def put2 (ks ps : List (Int × Int)) (t : Int) : List (Int × Int) := ps.foldl (fun a p => putI a p.1 (wr (gI a p.1 + t * p.2))) ks
theorem put1_nd : ∀ {ps ks : List (Int × Int)}, (ks.map (·.1)).Nodup → ((put1 ks ps).map (·.1)).Nodup
  | [], _, h => h
  | p :: r, ks, h => put1_nd (ps := r) (put_nd h)
theorem put2_nd {t : Int} : ∀ {ps ks : List (Int × Int)}, (ks.map (·.1)).Nodup → ((put2 ks ps t).map (·.1)).Nodup
  | [], _, h => h
  | p :: r, ks, h => put2_nd (ps := r) (put_nd h)
theorem put1_in : ∀ {ps ks : List (Int × Int)}, (∀ p ∈ ps, InR p.2) → (∀ p ∈ ks, InR p.2) → ∀ p ∈ put1 ks ps, InR p.2
  | [], _, _, h => h
  | p :: r, ks, g, h => put1_in (ps := r) (fun q hq => g q (List.mem_cons_of_mem _ hq)) (put_in (g p List.mem_cons_self) h)
theorem put2_in {t : Int} : ∀ {ps ks : List (Int × Int)}, (∀ p ∈ ks, InR p.2) → ∀ p ∈ put2 ks ps t, InR p.2
  | [], _, h => h
  | p :: r, ks, h => put2_in (ps := r) (put_in (wr_in _) h)
theorem put1_len : ∀ {ps ks : List (Int × Int)}, (put1 ks ps).length ≤ ks.length + ps.length
  | [], _ => Nat.le_refl _
  | p :: r, ks => by
    have := put1_len (ps := r) (ks := putI ks p.1 p.2)
    have := put_len (k := p.1) (v := p.2) (ks := ks)
    show (put1 (putI ks p.1 p.2) r).length ≤ ks.length + (r.length + 1)
    omega
def idI : Int → Int := fun x => x
theorem put1_g {j : Int} : ∀ {ps ks : List (Int × Int)}, Can idI ps → gI (put1 ks ps) j = if j ∈ ps.map (·.1) then S (ind j) ps else gI ks j
  | [], ks, _ => by rw [if_neg (by simp)]; rfl
  | p :: r, ks, ⟨h1, h2, h3, h4⟩ => by
    show gI (put1 (putI ks p.1 p.2) r) j = _
    rw [put1_g h4, gI_put, List.map_cons]
    by_cases hr : j ∈ r.map (·.1)
    · have ne : p.1 ≠ j := fun e => by
        obtain ⟨q, hq, e2⟩ := List.mem_map.mp hr
        have := h1 q hq
        unfold idI at this
        omega
      rw [if_pos hr, if_pos (List.mem_cons_of_mem _ hr)]
      show _ = p.2 * ind j p.1 + S (ind j) r
      unfold ind
      rw [if_neg ne]; omega
    · rw [if_neg hr]
      by_cases e : j = p.1
      · subst e
        rw [if_pos rfl, if_pos List.mem_cons_self, S_ind_head h1]
      · rw [if_neg e, if_neg (by simp only [List.mem_cons, not_or]; exact ⟨e, hr⟩)]
theorem put1_g0 {j : Int} {ps : List (Int × Int)} (h : Can idI ps) : gI (put1 [] ps) j = S (ind j) ps := by
  rw [put1_g h]
  split
  · rfl
  · rename_i hn
    rw [S_ind_none fun p hp e => hn (List.mem_map.mpr ⟨p, hp, e⟩)]; rfl
theorem put2_g {j t : Int} : ∀ {ps ks : List (Int × Int)}, Cg (gI (put2 ks ps t) j) (gI ks j + t * S (ind j) ps)
  | [], ks => .of_eq (by show gI ks j = gI ks j + t * 0; omega)
  | p :: r, ks => by
    show Cg (gI (put2 (putI ks p.1 (wr (gI ks p.1 + t * p.2))) r t) j) _
    refine put2_g.trans ?_
    rw [gI_put]
    show Cg _ (gI ks j + t * (p.2 * ind j p.1 + S (ind j) r))
    by_cases e : j = p.1
    · subst e
      rw [if_pos rfl]
      refine ((wr_cg _).add (Cg.rfl' _)).trans (.of_eq ?_)
      unfold ind
      rw [if_pos rfl, Int.mul_add, Int.mul_one]; omega
    · rw [if_neg e]
      refine .of_eq ?_
      unfold ind
      rw [if_neg (fun z => e z.symm), Int.mul_zero, Int.zero_add]
/-- the sum's list, as the text makes it -/
def outI (P : List (Int × Int)) (k : Int) : Option (Int × Int) := if gI P k = 0 then none else some (k, gI P k)
def leftI (P : List (Int × Int)) : List (Int × Int) := (sortI (P.map (·.1))).filterMap (outI P)
theorem S_left {P : List (Int × Int)} {j : Int} : ∀ {l : List Int}, l.Nodup → S (ind j) (l.filterMap (outI P)) = if j ∈ l then gI P j else 0
  | [], _ => by rw [if_neg (by simp)]; rfl
  | k :: r, h => by
    obtain ⟨h1, h2⟩ := List.nodup_cons.mp h
    have ih := S_left (P := P) (j := j) h2
    rw [List.filterMap_cons]
    unfold outI
    by_cases e : gI P k = 0
    · rw [if_pos e]
      dsimp only
      show S (ind j) (r.filterMap (outI P)) = _
      rw [ih]
      by_cases hj : j = k
      · subst hj
        rw [if_neg h1, if_pos List.mem_cons_self, e]
      · by_cases hr : j ∈ r
        · rw [if_pos hr, if_pos (List.mem_cons_of_mem _ hr)]
        · rw [if_neg hr, if_neg (by simp only [List.mem_cons, not_or]; exact ⟨hj, hr⟩)]
    · rw [if_neg e]
      dsimp only
      show gI P k * ind j k + S (ind j) (r.filterMap (outI P)) = _
      rw [ih]
      by_cases hj : j = k
      · subst hj
        rw [if_neg h1, if_pos List.mem_cons_self]
        unfold ind
        rw [if_pos rfl]; omega
      · unfold ind
        rw [if_neg (fun z => hj z.symm)]
        by_cases hr : j ∈ r
        · rw [if_pos hr, if_pos (List.mem_cons_of_mem _ hr)]; omega
        · rw [if_neg hr, if_neg (by simp only [List.mem_cons, not_or]; exact ⟨hj, hr⟩)]; omega
theorem can_left {P : List (Int × Int)} (hP : ∀ k, InR (gI P k)) : ∀ {l : List Int}, l.Pairwise (· < ·) → Can idI (l.filterMap (outI P))
  | [], _ => trivial
  | k :: r, h => by
    obtain ⟨h1, h2⟩ := List.pairwise_cons.mp h
    rw [List.filterMap_cons]
    unfold outI
    by_cases e : gI P k = 0
    · rw [if_pos e]
      exact can_left hP h2
    · rw [if_neg e]
      refine ⟨fun q hq => ?_, e, hP k, can_left hP h2⟩
      obtain ⟨x, hx, ex⟩ := List.mem_filterMap.mp hq
      have e2 : q.1 = x := by
        split at ex
        · cases ex
        · have := Option.some.inj ex
          rw [← this]
      show idI k < idI q.1
      rw [e2]
      exact h1 x hx
theorem pw_lt : ∀ {l : List Int}, l.Pairwise (· ≤ ·) → l.Nodup → l.Pairwise (· < ·)
  | [], _, _ => .nil
  | a :: r, h, g => by
    obtain ⟨h1, h2⟩ := List.pairwise_cons.mp h
    obtain ⟨g1, g2⟩ := List.nodup_cons.mp g
    refine List.pairwise_cons.mpr ⟨fun b hb => ?_, pw_lt h2 g2⟩
    have := h1 b hb
    have : a ≠ b := fun e => g1 (by rw [e]; exact hb)
    omega
theorem gI_mem {k : Int} : ∀ {ks : List (Int × Int)}, (∀ p ∈ ks, InR p.2) → InR (gI ks k)
  | [], _ => in0
  | p :: r, h => by
    unfold gI getI
    split
    · exact h p List.mem_cons_self
    · exact gI_mem fun q hq => h q (List.mem_cons_of_mem _ hq)
theorem can_in {κ : Type} {ψ : κ → Int} : ∀ {ps : List (κ × Int)}, Can ψ ps → ∀ p ∈ ps, InR p.2
  | [], _, p, h => by cases h
  | q :: r, ⟨_, _, h3, h4⟩, p, h => by
    rcases List.mem_cons.mp h with rfl | h
    · exact h3
    · exact can_in h4 p h
theorem left_add {A B : List (Int × Int)} {t : Int} (hA : Can idI A) (hB : Can idI B) : leftI (put2 (put1 [] A) B t) = addP idI A B t := by
  have nd : ((put2 (put1 [] A) B t).map (·.1)).Nodup := put2_nd (put1_nd (by exact List.nodup_nil))
  have nd2 : (sortI ((put2 (put1 [] A) B t).map (·.1))).Nodup := (sortI_perm _).nodup_iff.mpr nd
  refine can_ext (fun a b h => h) (can_left (fun k => gI_mem (put2_in (put1_in (can_in hA) fun p hp => absurd hp List.not_mem_nil))) (pw_lt (sortI_sorted _) nd2)) (addP_can hA) fun j => ?_
  have e : S (ind j) (leftI (put2 (put1 [] A) B t)) = gI (put2 (put1 [] A) B t) j := by
    unfold leftI
    rw [S_left nd2]
    split
    · rfl
    · rename_i hn
      have : getI (put2 (put1 [] A) B t) j = none := get_none.mpr fun z => hn ((sortI_perm _).mem_iff.mpr z)
      unfold gI
      rw [this]; rfl
  rw [e]
  refine put2_g.trans ?_
  rw [put1_g0 hA]
  exact (S_addP (ψ := idI) (fun a b h => h)).symm
end PM
/-! added: what the reading gives. -/
namespace PM
open PySem PySem.Spec PyProof.Rows L2 DL DR PT
theorem fmod_emod (x : Int) {y : Int} (h : 0 ≤ y) : x.fmod y = x % y := Int.fmod_eq_emod_of_nonneg x h
theorem taken_ok (x : Int) (M : List MO) : fn_taken_in [.int x] M = some (.int (wr x), M) := by
  have e : (x - -32768).fmod 65536 + -32768 = wr x := by
    rw [fmod_emod _ (by decide)]
    unfold wr
    omega
  simp [fn_taken_in, fb_taken_in, stD, g2]
  rw [← e]
  rfl
theorem set_same {M : List MO} {l : Nat} {o : MO} (h : M[l]? = some o) : M.set l o = M := by
  obtain ⟨hl, e⟩ := List.getElem?_eq_some_iff.mp h
  rw [← e]
  exact List.set_getElem_self hl
def pD (p : Int × Int) : D := .tup [.int p.1, .int p.2]
section
variable {M : List MO} {l : Nat} {s0 s1 s2 s3 s4 s5 x9 : Option D} {t : Int}
theorem loop1 : ∀ (ps ks : List (Int × Int)) (M : List MO) (x7 x8 : Option D), M[l]? = some (.dint (dI ks)) → ks.length + ps.length < 100000 →
    ∃ y7 y8, forD (gPr 7 8) (sDputI (eVar 8) (eVar 6) (eVar 7)) (ps.map pD) [s0, s1, s2, s3, s4, s5, some (.obj l), x7, x8, x9] M = some (.nx [s0, s1, s2, s3, s4, s5, some (.obj l), y7, y8, x9], M.set l (.dint (dI (put1 ks ps))))
  | [], ks, M, x7, x8, h, _ => ⟨x7, x8, by
      show some (Out.nx _, M) = _
      rw [show put1 ks [] = ks from rfl, set_same h]⟩
  | p :: r, ks, M, x7, x8, h, hl => by
    have hl2 : ks.length < 100000 := by simp at hl; omega
    have hs : (M.set l (.dint (dI (putI ks p.1 p.2))))[l]? = some (.dint (dI (putI ks p.1 p.2))) := by simp [List.getElem?_set_self', h]
    have hlen := put_len (k := p.1) (v := p.2) (ks := ks)
    obtain ⟨y7, y8, e⟩ := loop1 r (putI ks p.1 p.2) (M.set l (.dint (dI (putI ks p.1 p.2)))) (some (.int p.1)) (some (.int p.2)) hs (by simp at hl; omega)
    refine ⟨y7, y8, ?_⟩
    have hd : (dI ks).length = ks.length := by simp [dI]
    rw [List.set_set] at e
    rw [show put1 ks (p :: r) = put1 (putI ks p.1 p.2) r from rfl, ← e, List.map_cons]
    simp [forD, gPr, pD, sDputI, h, dI_put, hd, hl2]
theorem loop2 (ht : t.natAbs < 2 ^ 40) : ∀ (ps ks : List (Int × Int)) (M : List MO) (x7 x8 : Option D), M[l]? = some (.dint (dI ks)) → ks.length + ps.length < 100000 →
    ∃ y7 y8, forD (gPr 7 8) (sDputI (eFn 1 fn_taken_in (aCons (eOp gAdd (eGet2 (eVar 6) (eVar 7) (eC (.int 0))) (eOp gMul (eVar 3) (eVar 8))) aNil)) (eVar 6) (eVar 7)) (ps.map pD) [s0, s1, s2, some (.int t), s4, s5, some (.obj l), x7, x8, x9] M = some (.nx [s0, s1, s2, some (.int t), s4, s5, some (.obj l), y7, y8, x9], M.set l (.dint (dI (put2 ks ps t))))
  | [], ks, M, x7, x8, h, _ => ⟨x7, x8, by
      show some (Out.nx _, M) = _
      rw [show put2 ks [] t = ks from rfl, set_same h]⟩
  | p :: r, ks, M, x7, x8, h, hl => by
    have hl2 : ks.length < 100000 := by simp at hl; omega
    have hs : (M.set l (.dint (dI (putI ks p.1 (wr (gI ks p.1 + t * p.2))))))[l]? = some (.dint (dI (putI ks p.1 (wr (gI ks p.1 + t * p.2))))) := by simp [List.getElem?_set_self', h]
    have hlen := put_len (k := p.1) (v := wr (gI ks p.1 + t * p.2)) (ks := ks)
    obtain ⟨y7, y8, e⟩ := loop2 ht r (putI ks p.1 (wr (gI ks p.1 + t * p.2))) (M.set l (.dint (dI (putI ks p.1 (wr (gI ks p.1 + t * p.2)))))) (some (.int p.1)) (some (.int p.2)) hs (by simp at hl; omega)
    refine ⟨y7, y8, ?_⟩
    have hd : (dI ks).length = ks.length := by simp [dI]
    have hv : (valD (dI ks) p.1).getD (.int 0) = .int (gI ks p.1) := by
      rw [dI_val]
      unfold gI
      cases getI ks p.1 <;> rfl
    rw [List.set_set] at e
    rw [show put2 ks (p :: r) t = put2 (putI ks p.1 (wr (gI ks p.1 + t * p.2))) r t from rfl, ← e, List.map_cons]
    have hb : (decide (t.natAbs < 2 ^ 40) || decide (p.2.natAbs < 2 ^ 40)) = true := by simp [ht]
    have hm : gMul (.int t) (.int p.2) M = some (.int (t * p.2)) := if_pos hb
    have ha : gAdd (.int (gI ks p.1)) (.int (t * p.2)) M = some (.int (gI ks p.1 + t * p.2)) := rfl
    simp only [forD, gPr, pD, sDputI, eGet2, eFn_eq, aCons_eq, aNil_eq, eOp_eq, eVar_eq, eC_eq, dintOf, h, Option.bind_some, Option.map_some, Option.isSome_some, if_true, List.getElem?_cons_succ, List.getElem?_cons_zero, List.set_cons_succ, List.set_cons_zero, hv, hm, ha, List.length_cons, List.length_nil, taken_ok, dI_put, hd, hl2]
theorem lc_left {n0 : Nat} {P : List (Int × Int)} {δ : List (Option D)} (h6 : δ[6]? = some (some (.obj l))) (h7 : 7 < δ.length) (hne : n0 ≠ l) : ∀ (ks : List Int) (M : List MO) (acc : List D), M[l]? = some (.dint (dI P)) → M[n0]? = some (.lst acc) → (∀ k ∈ ks, (getI P k).isSome = true) → acc.length + ks.length < 100000 →
    lcD 7 n0 (eT (eOp gNe (eOp gDgetI (eVar 6) (eVar 7)) (eC (.int 0)))) (eTup (aCons (eVar 7) (aCons (eOp gDgetI (eVar 6) (eVar 7)) aNil))) δ (ks.map D.int) M = some (M.set n0 (.lst (acc ++ (ks.filterMap (outI P)).map pD)))
  | [], M, acc, h, hn, _, _ => by
    show some M = _
    rw [show ([] : List Int).filterMap (outI P) = [] from rfl, List.map_nil, List.append_nil, set_same hn]
  | k :: r, M, acc, h, hn, hk, hl => by
    have hl2 : acc.length < 100000 := by simp at hl; omega
    obtain ⟨v, hv⟩ := Option.isSome_iff_exists.mp (hk k List.mem_cons_self)
    have hg : gI P k = v := by unfold gI; rw [hv]; rfl
    have e6 : (δ.set 7 (some (.int k)))[6]? = some (some (.obj l)) := by rw [List.getElem?_set_ne (by decide)]; exact h6
    have e7 : (δ.set 7 (some (.int k)))[7]? = some (some (.int k)) := by rw [List.getElem?_set_self h7]
    have hd : valD (dI P) k = some (.int v) := by rw [dI_val, hv]; rfl
    rw [List.map_cons, List.filterMap_cons]
    unfold outI
    rw [hg]
    by_cases hz : v = 0
    · rw [if_pos hz]
      have ih := lc_left h6 h7 hne r M acc h hn (fun x hx => hk x (List.mem_cons_of_mem _ hx)) (by simp at hl; omega)
      refine Eq.trans ?_ ih
      simp [lcD, e6, e7, gDgetI, dintOf, h, hd, gNe, hz]
    · rw [if_neg hz]
      have hs : (M.set n0 (.lst (acc ++ [pD (k, v)])))[n0]? = some (.lst (acc ++ [pD (k, v)])) := by simp [List.getElem?_set_self', hn]
      have hs2 : (M.set n0 (.lst (acc ++ [pD (k, v)])))[l]? = some (.dint (dI P)) := by rw [List.getElem?_set_ne hne]; exact h
      have ih := lc_left h6 h7 hne r _ _ hs2 hs (fun x hx => hk x (List.mem_cons_of_mem _ hx)) (by simp at hl ⊢; omega)
      rw [List.set_set] at ih
      show _ = some (M.set n0 (.lst (acc ++ pD (k, v) :: (r.filterMap (outI P)).map pD)))
      rw [List.append_assoc] at ih
      refine Eq.trans ?_ ih
      simp [lcD, e6, e7, gDgetI, dintOf, h, hd, gNe, hz, hn, hl2, pD]
end
end PM
/-! added, so_often, same_of, mul_of. -/
namespace PM
open PySem PySem.Spec PyProof.Rows L2 DL DR PT
theorem seq_nx {f g : TFS} {δ δ1 : List (Option D)} {M M1 : List MO} (h : f δ M = some (.nx δ1, M1)) : sSeq f g δ M = g δ1 M1 := by
  rw [sSeq_eq, h]; rfl
theorem seq_rt {f g : TFS} {δ : List (Option D)} {M M1 : List MO} {d : D} (h : f δ M = some (.rt d, M1)) : sSeq f g δ M = some (.rt d, M1) := by
  rw [sSeq_eq, h]; rfl
noncomputable def zT (T : Tb) : PT.K → Int := fun k => (idx T.Q k : Int)
noncomputable def encT (T : Tb) (ps : List (PT.K × Int)) : List (Int × Int) := ps.map fun p => (zT T p.1, p.2)
noncomputable def addT (T : Tb) (a b : F) (t : Int) : F := .sum (wr (a.cst + t * b.cst)) (addP (zT T) a.pts b.pts t)
section
variable {M M1 : List MO} {i : Nat} {T T1 : Tb} {a b f g : F} {k : PT.K} {n : Nat} {r : Bool} {t : Int}
theorem can_enc {T : Tb} : ∀ {ps : List (PT.K × Int)}, Can (zT T) ps → Can idI (encT T ps)
  | [], _ => trivial
  | p :: r, ⟨h1, h2, h3, h4⟩ => ⟨fun q hq => by
      obtain ⟨x, hx, e⟩ := List.mem_map.mp hq
      rw [← e]
      exact h1 x hx, h2, h3, can_enc h4⟩
theorem can_len {κ : Type} {ψ : κ → Int} {hi : Int} : ∀ {ps : List (κ × Int)} {lo : Int}, Can ψ ps → (∀ p ∈ ps, lo ≤ ψ p.1 ∧ ψ p.1 < hi) → lo ≤ hi → (ps.length : Int) ≤ hi - lo
  | [], lo, _, _, hlo => by
    show (0 : Int) ≤ _
    omega
  | p :: r, lo, ⟨h1, _, _, h4⟩, hb, hlo => by
    obtain ⟨b1, b2⟩ := hb p List.mem_cons_self
    have := can_len (lo := ψ p.1 + 1) h4 (fun q hq => ⟨by have := h1 q hq; omega, (hb q (List.mem_cons_of_mem _ hq)).2⟩) (by omega)
    show ((r.length + 1 : Nat) : Int) ≤ hi - lo
    omega
theorem pts_len {n : Int} {ps : List (PT.K × Int)} (h : FOk T (.sum n ps)) : ps.length ≤ T.Q.length := by
  have := can_len (lo := 0) (hi := (T.Q.length : Int)) h.2.1 (fun p hp => ⟨by omega, by have := idx_lt (h.2.2 p hp).1; omega⟩) (by omega)
  omega
theorem raw_app {Cs Ks : List NestedKey} {X : List MO} (h : Raw M i Cs Ks) : Raw (M ++ X) i Cs Ks := by
  have z : ∀ {j : Nat} {o : MO}, M[j]? = some o → (M ++ X)[j]? = some o := fun {j o} e => by
    rw [List.getElem?_append_left (List.getElem?_eq_some_iff.mp e).1]; exact e
  exact ⟨z h.ins, z h.c, z h.n, z h.k, z h.t⟩
theorem fr_app {X : List MO} : Fr i M (M ++ X) := ⟨by simp, fun j h _ => by rw [List.getElem?_append_left h]⟩
theorem Tab.app {X : List MO} (h : Tab M i T) : Tab (M ++ X) i T := ⟨raw_app h.raw, h.ok⟩
theorem addT_ok (ha : FOk T a) (hb : FOk T b) (ra : a.isR = false) (rb : b.isR = false) : FOk T (addT T a b t) := by
  cases a with
  | row k => cases ra
  | sum n ps =>
  cases b with
  | row k => cases rb
  | sum m qs =>
  refine ⟨wr_in _, addP_can ha.2.1, fun p hp => ?_⟩
  obtain ⟨q, hq, e⟩ := addP_mem hp
  rw [← e]
  rcases hq with hq | hq
  · exact ha.2.2 q hq
  · exact hb.2.2 q hq
theorem addT_ag {N : Nu} (g : Ag N T) (ha : FOk T a) (hb : FOk T b) : addT T a b t = addF N a b t := by
  have hz : ∀ f : F, FOk T f → ∀ p ∈ f.pts, zT T p.1 = N.z p.1 := fun f hf p hp => by
    cases f with
    | row k => cases hp
    | sum n ps =>
      have := g.q _ (hf.2.2 p hp).1
      show (idx T.Q p.1 : Int) = (N.ψ p.1 : Int)
      rw [this]
  have := addP_map (ψ := N.z) (χ := zT T) (g := fun k => k) (t := t) (hz a ha) (hz b hb)
  unfold addT addF
  congr 1
  simpa using this.symm
theorem added_ok (h : Tab M i T) (ha : a ∈ T.C) (hb : b ∈ T.C) (ra : a.isR = false) (rb : b.isR = false) (ht : t.natAbs < 2 ^ 40) (hl : sz T < 40000) :
    ∃ X, fn_m_added [.obj i, .int (idx T.C a : Nat), .int (idx T.C b : Nat), .int t] M = some (kd (kF T (addT T a b t)), M ++ X) := by
  have f0 := h.raw.ins
  have qa := atC h ha
  have qb := atC h hb
  have oa := h.ok.c a ha
  have ob := h.ok.c b hb
  cases a with
  | row k => cases ra
  | sum n ps =>
  cases b with
  | row k => cases rb
  | sum m qs =>
  have la := pts_len oa
  have lb := pts_len ob
  unfold sz at hl
  rw [kd_sum] at qa qb
  have ea : (ps.map fun p => D.tup [.int (idx T.Q p.1 : Nat), .int p.2]) = (encT T ps).map pD := by unfold encT; rw [List.map_map]; rfl
  have eb : (qs.map fun p => D.tup [.int (idx T.Q p.1 : Nat), .int p.2]) = (encT T qs).map pD := by unfold encT; rw [List.map_map]; rfl
  rw [ea] at qa
  rw [eb] at qb
  have lA : (encT T ps).length = ps.length := by unfold encT; simp
  have lB : (encT T qs).length = qs.length := by unfold encT; simp
  have c1 : ∀ Y : List MO, (M ++ MO.dint [] :: Y)[M.length]? = some (MO.dint (dI [])) := fun Y => by simp [dI]
  obtain ⟨x7, x8, w1⟩ := loop1 (l := M.length) (s0 := some (.obj i)) (s1 := some (.int (idx T.C (.sum n ps) : Nat))) (s2 := some (.int (idx T.C (.sum m qs) : Nat))) (s3 := some (.int t)) (s4 := some (.tup [.str (Str.ofString "sum"), .int n, .tup ((encT T ps).map pD)])) (s5 := some (.tup [.str (Str.ofString "sum"), .int m, .tup ((encT T qs).map pD)])) (x9 := none) (encT T ps) [] (M ++ [MO.dint []]) none none (c1 []) (by simp; omega)
  have e1 : (M ++ [MO.dint []]).set M.length (.dint (dI (put1 [] (encT T ps)))) = M ++ [.dint (dI (put1 [] (encT T ps)))] := by simp
  rw [e1] at w1
  have l1 := put1_len (ps := encT T ps) (ks := [])
  have c2 : (M ++ [MO.dint (dI (put1 [] (encT T ps)))])[M.length]? = some (MO.dint (dI (put1 [] (encT T ps)))) := by simp
  obtain ⟨y7, y8, w2⟩ := loop2 (l := M.length) (s0 := some (.obj i)) (s1 := some (.int (idx T.C (.sum n ps) : Nat))) (s2 := some (.int (idx T.C (.sum m qs) : Nat))) (s4 := some (.tup [.str (Str.ofString "sum"), .int n, .tup ((encT T ps).map pD)])) (s5 := some (.tup [.str (Str.ofString "sum"), .int m, .tup ((encT T qs).map pD)])) (x9 := none) ht (encT T qs) (put1 [] (encT T ps)) (M ++ [MO.dint (dI (put1 [] (encT T ps)))]) x7 x8 c2 (by simp at l1; omega)
  generalize hP : put2 (put1 [] (encT T ps)) (encT T qs) t = P at w2
  have e2 : (M ++ [MO.dint (dI (put1 [] (encT T ps)))]).set M.length (.dint (dI P)) = M ++ [.dint (dI P)] := by simp
  rw [e2] at w2
  have c3 : (M ++ [MO.dint (dI P)] ++ [MO.lst []])[M.length]? = some (MO.dint (dI P)) := by simp
  have c4 : (M ++ [MO.dint (dI P)] ++ [MO.lst []])[M.length + 1]? = some (.lst []) := by
    rw [List.getElem?_append_right (by simp)]; simp
  have nd : (P.map (·.1)).Nodup := by rw [← hP]; exact put2_nd (put1_nd (by exact List.nodup_nil))
  have lP : P.length ≤ (put1 [] (encT T ps)).length + (encT T qs).length := by
    rw [← hP]
    have : ∀ (ps ks : List (Int × Int)), (put2 ks ps t).length ≤ ks.length + ps.length := by
      intro ps
      induction ps with
      | nil => intro ks; exact Nat.le_refl _
      | cons p r ih =>
        intro ks
        have := ih (putI ks p.1 (wr (gI ks p.1 + t * p.2)))
        have := put_len (k := p.1) (v := wr (gI ks p.1 + t * p.2)) (ks := ks)
        show (put2 (putI ks p.1 (wr (gI ks p.1 + t * p.2))) r t).length ≤ ks.length + (r.length + 1)
        omega
    exact this _ _
  have w3 := lc_left (l := M.length) (n0 := M.length + 1) (P := P) (δ := [some (.obj i), some (.int (idx T.C (.sum n ps) : Nat)), some (.int (idx T.C (.sum m qs) : Nat)), some (.int t), some (.tup [.str (Str.ofString "sum"), .int n, .tup ((encT T ps).map pD)]), some (.tup [.str (Str.ofString "sum"), .int m, .tup ((encT T qs).map pD)]), some (.obj M.length), y7, y8, none])
    rfl (by simp) (by omega) (sortI (P.map (·.1))) _ [] c3 c4 (fun k hk => by
      have hk := (sortI_perm _).mem_iff.mp hk
      cases e : getI P k with
      | none => exact absurd hk (get_none.mp e)
      | some v => rfl) (by
      have := (sortI_perm (P.map (·.1))).length_eq
      simp at this l1 ⊢
      omega)
  have e3 : (M ++ [MO.dint (dI P)] ++ [MO.lst []]).set (M.length + 1) (.lst ([] ++ ((sortI (P.map (·.1))).filterMap (outI P)).map pD)) = M ++ [.dint (dI P), MO.lst ((leftI P).map pD)] := by
    simp [List.set_append, leftI]
  rw [e3] at w3
  have c5 : (M ++ [MO.dint (dI P), MO.lst ((leftI P).map pD)])[M.length + 1]? = some (.lst ((leftI P).map pD)) := by
    rw [List.getElem?_append_right (by simp)]; simp
  have hk : (dI P).map (·.1) = P.map (·.1) := by unfold dI; rw [List.map_map]; rfl
  have hleft : leftI P = encT T (addP (zT T) ps qs t) := by
    rw [← hP, left_add (can_enc oa.2.1) (can_enc ob.2.1)]
    exact (addP_map (ψ := zT T) (χ := idI) (g := zT T) (fun _ _ => rfl) fun _ _ => rfl).symm
  have hb : (decide (t.natAbs < 2 ^ 40) || decide (m.natAbs < 2 ^ 40)) = true := by rw [decide_eq_true ht]; rfl
  have hm : ∀ Y, gMul (.int t) (.int m) Y = some (.int (t * m)) := fun Y => if_pos hb
  have had : ∀ Y, gAdd (.int n) (.int (t * m)) Y = some (.int (n + t * m)) := fun Y => rfl
  refine ⟨[.dint (dI P), MO.lst ((leftI P).map pD)], ?_⟩
  unfold fn_m_added fb_m_added
  rw [runF_eq]
  have st : stD 10 [.obj i, .int (idx T.C (.sum n ps) : Nat), .int (idx T.C (.sum m qs) : Nat), .int t] = [some (.obj i), some (.int (idx T.C (.sum n ps) : Nat)), some (.int (idx T.C (.sum m qs) : Nat)), some (.int t), none, none, none, none, none, none] := rfl
  rw [st, seq_nx (show _ = some (Out.nx [some (.obj i), some (.int (idx T.C (.sum n ps) : Nat)), some (.int (idx T.C (.sum m qs) : Nat)), some (.int t), some (.tup [.str (Str.ofString "sum"), .int n, .tup ((encT T ps).map pD)]), none, none, none, none, none], M) by simp [f0, qa]),
    seq_nx (show _ = some (Out.nx [some (.obj i), some (.int (idx T.C (.sum n ps) : Nat)), some (.int (idx T.C (.sum m qs) : Nat)), some (.int t), some (.tup [.str (Str.ofString "sum"), .int n, .tup ((encT T ps).map pD)]), some (.tup [.str (Str.ofString "sum"), .int m, .tup ((encT T qs).map pD)]), none, none, none, none], M) by simp [f0, qb]),
    seq_nx (show _ = some (Out.nx [some (.obj i), some (.int (idx T.C (.sum n ps) : Nat)), some (.int (idx T.C (.sum m qs) : Nat)), some (.int t), some (.tup [.str (Str.ofString "sum"), .int n, .tup ((encT T ps).map pD)]), some (.tup [.str (Str.ofString "sum"), .int m, .tup ((encT T qs).map pD)]), some (.obj M.length), none, none, none], M ++ [.dint []]) by simp [eDctI]),
    seq_nx (show _ = some (_, _) by
      refine Eq.trans ?_ w1
      simp [sFor, iTupD]),
    seq_nx (show _ = some (_, _) by
      refine Eq.trans ?_ w2
      simp [sFor, iTupD]),
    seq_nx (show _ = some (Out.nx [some (.obj i), some (.int (idx T.C (.sum n ps) : Nat)), some (.int (idx T.C (.sum m qs) : Nat)), some (.int t), some (.tup [.str (Str.ofString "sum"), .int n, .tup ((encT T ps).map pD)]), some (.tup [.str (Str.ofString "sum"), .int m, .tup ((encT T qs).map pD)]), some (.obj M.length), y7, y8, some (.tup ((leftI P).map pD))], M ++ [.dint (dI P), MO.lst ((leftI P).map pD)]) by
      have c6 : dintOf (.obj M.length) (M ++ [MO.dint (dI P)]) = some (dI P) := by simp [dintOf]
      simp only [sSet_eq, eCall_eq, aCons_eq, aNil_eq, eLc, iLstD, gSortedD, eVar_eq, List.getElem?_cons_succ, List.getElem?_cons_zero, Option.bind_some, Option.map_some, c6, hk, List.length_append, List.length_cons, List.length_nil, Nat.zero_add]
      rw [w3]
      simp only [Option.bind_some, Option.map_some, gTuple, lstOf, c5]
      rfl)]
  simp only [sRet_eq, eTup_eq, aCons_eq, aNil_eq, eC_eq, eFn_eq, eOp_eq, eVar_eq, List.getElem?_cons_succ, List.getElem?_cons_zero, Option.bind_some, Option.map_some, ix1, hm, had, List.length_cons, List.length_nil, taken_ok]
  rw [show addT T (.sum n ps) (.sum m qs) t = .sum (wr (n + t * m)) (addP (zT T) ps qs t) from rfl, kd_sum]
  have ef : ((addP (zT T) ps qs t).map fun p => D.tup [.int (idx T.Q p.1 : Nat), .int p.2]) = (leftI P).map pD := by
    rw [hleft]
    unfold encT; rw [List.map_map]; rfl
  rw [ef]
  simp
end
end PM
/-! so_often, same_of, mul_of, divided. -/
namespace PM
open PySem PySem.Spec PyProof.Rows L2 DL DR PT
section
variable {M M1 : List MO} {i : Nat} {T T1 : Tb} {a b f g c d : F} {k : PT.K} {n m : Nat} {r : Bool} {t : Int} {u v : Nu → F} {res : Option (D × List MO)}
theorem Ret.from (h : Ret i M1 T1 n r u res) (gr : Gr T T1) (fr : Fr i M M1) (hs : sz T1 ≤ sz T + m) (hg : ∀ N, Ag N T1 → u N = v N) : Ret i M T (m + n) r v res := by
  obtain ⟨M', T', f, h1, h2, h3, h4, h5, h6, h7, h8⟩ := h
  exact ⟨M', T', f, h1, h2, gr.trans h3, fr.trans h4, by omega, h6, h7, fun N hN => (h8 N hN).trans (hg N (hN.mono h3))⟩
theorem Ret.weak (h : Ret i M T n r u res) (hn : n ≤ m) : Ret i M T m r u res := by
  obtain ⟨M', T', f, h1, h2, h3, h4, h5, h6, h7, h8⟩ := h
  exact ⟨M', T', f, h1, h2, h3, h4, by omega, h6, h7, h8⟩
theorem ret_self (h : Tab M i T) (hf : f ∈ T.C) (hr : f.isR = r) (hg : ∀ N, Ag N T → f = u N) : Ret i M T 0 r u (some (.int (idx T.C f : Nat), M)) := ⟨M, T, f, rfl, h, .refl T, .refl i M, by omega, hf, hr, hg⟩
theorem kept_ret (h : Tab M i T) (hf : FOk T f) (hl : sz T < 100000) (hg : ∀ N, Ag N T → f = u N) : Ret i M T 1 f.isR u (fn_m_kept [.obj i, kd (kF T f)] M) := by
  obtain ⟨M', e1, e2, e3⟩ := kept_ok h hf hl
  exact ⟨M', _, f, e1, e2, addC_gr, e3, addC_sz, addC_mem, rfl, fun N hN => hg N (hN.mono addC_gr)⟩
theorem plain_fok {n : Int} (h : InR n) : FOk T (plain n) := ⟨h, trivial, fun p hp => (nomatch hp)⟩
theorem plain_ex {n : Int} (h : Tab M i T) (hn : InR n) (hl : sz T < 100000) : ∃ M', fn_m_plain [.obj i, .int n] M = some (.int (idx (addC T (plain n)).C (plain n) : Nat), M') ∧ Tab M' i (addC T (plain n)) ∧ Fr i M M' := by
  obtain ⟨M2, e1, e2, e3⟩ := kept_ok (f := plain n) h (plain_fok hn) hl
  refine ⟨M2, ?_, e2, e3⟩
  have e1 : fn_m_kept [.obj i, .tup [.str (Str.ofString "sum"), .int n, .tup []]] M = _ := e1
  have f0 := h.raw.ins
  simp [fn_m_plain, fb_m_plain, stD, f0, e1]
theorem oft_ok (h : Tab M i T) (hf : f ∈ T.C) (hr : f.isR = false) (ht : t.natAbs < 2 ^ 40) (hl : sz T + 10 < 40000) : Ret i M T 2 false (fun N => oft N f t) (fn_m_so_often [.obj i, .int (idx T.C f : Nat), .int t] M) := by
  obtain ⟨M1, e1, h1, f1⟩ := plain_ex h in0 (by omega)
  have g1 := addC_gr (T := T) (f := plain 0)
  have s1 := addC_sz (T := T) (f := plain 0)
  have m0 : plain 0 ∈ (addC T (plain 0)).C := addC_mem
  obtain ⟨X, e2⟩ := added_ok h1 m0 (g1.mc hf) rfl hr ht (by omega)
  have ok := addT_ok (t := t) (h1.ok.c _ m0) (h1.ok.c _ (g1.mc hf)) rfl hr
  have e3 := kept_ret (u := fun N => oft N f t) (h1.app (X := X)) ok (by omega) (fun N hN => addT_ag hN (h1.ok.c _ m0) (h1.ok.c _ (g1.mc hf)))
  have f0 := h.raw.ins
  have f10 := h1.raw.ins
  rw [g1.ic hf] at e2
  have e : fn_m_so_often [.obj i, .int (idx T.C f : Nat), .int t] M = fn_m_kept [.obj i, kd (kF (addC T (plain 0)) (addT (addC T (plain 0)) (plain 0) f t))] (M1 ++ X) := by
    simp [fn_m_so_often, fb_m_so_often, stD, f0, e1, e2]
    cases fn_m_kept [.obj i, kd (kF (addC T (plain 0)) (addT (addC T (plain 0)) (plain 0) f t))] (M1 ++ X) <;> rfl
  rw [e]
  exact (e3.from g1 (f1.trans fr_app) s1 fun _ _ => rfl)
/-! contents compared -/
theorem ltL_eq : ∀ ps qs : List (Int × Int), PySem.W.listLt ps qs = ltL ps qs
  | [], [] => rfl
  | [], _ :: _ => rfl
  | _ :: _, [] => rfl
  | p :: ps, q :: qs => by
    show (if p = q then PySem.W.listLt ps qs else if p.1 = q.1 then decide (p.2 < q.2) else decide (p.1 < q.1)) = _
    rw [ltL_eq ps qs]; rfl
theorem lt3_eq (x : Str) (n m : Int) (ps qs : List (Int × Int)) : PySem.W.DatumOrd.lt (⟨x, m, ⟨qs⟩⟩ : PySem.W.T3 Str Int (PySem.W.Tup (Int × Int))) ⟨x, n, ⟨ps⟩⟩ = ltC m qs n ps := by
  show (if x = x then (if m = n then PySem.W.listLt qs ps else decide (m < n)) else _) = _
  rw [if_pos rfl, ltL_eq]
  rfl
theorem prs_eq : ∀ ps : List (Int × Int), prsOf (ps.map pD) = some ps
  | [] => rfl
  | p :: r => by
    show ((prOf (pD p)).bind fun q => (prsOf (r.map pD)).map fun r => q :: r) = _
    rw [prs_eq r]; rfl
noncomputable def minT (T : Tb) (c d : F) : F := if ltC d.cst (encT T d.pts) c.cst (encT T c.pts) = true then d else c
theorem kd_sum2 (T : Tb) (n : Int) (ps : List (PT.K × Int)) : kd (kF T (.sum n ps)) = .tup [.str (Str.ofString "sum"), .int n, .tup ((encT T ps).map pD)] := by
  rw [kd_sum]
  unfold encT
  rw [List.map_map]
  rfl
theorem min_ok (hc : c.isR = false) (hd : d.isR = false) : gMinA [kd (kF T c), kd (kF T d)] M = some (kd (kF T (minT T c d))) := by
  cases c with
  | row k => cases hc
  | sum n ps =>
  cases d with
  | row k => cases hd
  | sum m qs =>
  have e1 : sumOf (kd (kF T (.sum n ps))) = some ⟨Str.ofString "sum", n, ⟨encT T ps⟩⟩ := by
    rw [kd_sum2]
    show (prsOf ((encT T ps).map pD)).map _ = _
    rw [prs_eq]; rfl
  have e2 : sumOf (kd (kF T (.sum m qs))) = some ⟨Str.ofString "sum", m, ⟨encT T qs⟩⟩ := by
    rw [kd_sum2]
    show (prsOf ((encT T qs).map pD)).map _ = _
    rw [prs_eq]; rfl
  have e : gMinA [kd (kF T (.sum n ps)), kd (kF T (.sum m qs))] M = (sumOf (kd (kF T (.sum n ps)))).bind fun x => (sumOf (kd (kF T (.sum m qs)))).map fun y => if PySem.W.DatumOrd.lt y x = true then kd (kF T (.sum m qs)) else kd (kF T (.sum n ps)) := by
    rw [kd_sum2, kd_sum2]; rfl
  rw [e, e1, e2]
  show some (if PySem.W.DatumOrd.lt (⟨Str.ofString "sum", m, ⟨encT T qs⟩⟩ : PySem.W.T3 Str Int (PySem.W.Tup (Int × Int))) ⟨Str.ofString "sum", n, ⟨encT T ps⟩⟩ = true then _ else _) = _
  rw [lt3_eq]
  have e3 : minT T (.sum n ps) (.sum m qs) = if ltC m (encT T qs) n (encT T ps) = true then .sum m qs else .sum n ps := rfl
  rw [e3]
  by_cases hb : ltC m (encT T qs) n (encT T ps) = true
  · rw [if_pos hb, if_pos hb]
  · rw [if_neg hb, if_neg hb]
theorem enc_ag {N : Nu} (g : Ag N T) (hf : FOk T f) : encT T f.pts = enc N f.pts := by
  unfold encT enc
  refine List.map_congr_left fun p hp => ?_
  cases f with
  | row k => cases hp
  | sum n ps =>
    have := g.q _ (hf.2.2 p hp).1
    show ((idx T.Q p.1 : Int), p.2) = ((N.ψ p.1 : Int), p.2)
    rw [this]
theorem min_ag {N : Nu} (g : Ag N T) (hc : FOk T c) (hd : FOk T d) : minT T c d = minC N c d := by
  unfold minT minC ltF
  rw [enc_ag g hc, enc_ag g hd]
theorem min_fok (hc : FOk T c) (hd : FOk T d) : FOk T (minT T c d) := by unfold minT; split <;> assumption
theorem min_isR (hc : c.isR = r) (hd : d.isR = r) : (minT T c d).isR = r := by unfold minT; split <;> assumption
theorem kdIx2 (T : Tb) (n : Int) (ps : List (PT.K × Int)) (M : List MO) : gIx (kd (kF T (.sum n ps))) (.int 2) M = some (.tup ((encT T ps).map pD)) := by rw [kd_sum2]; simp
theorem kdIx1 (T : Tb) (n : Int) (ps : List (PT.K × Int)) (M : List MO) : gIx (kd (kF T (.sum n ps))) (.int 1) M = some (.int n) := by rw [kd_sum2]; simp
theorem opt_eta {o : Option (D × List MO)} : (o.bind fun p => some (Out.rt p.1, p.2)).bind (fun p => match p.1 with
    | .rt d => some (d, p.2)
    | .nx _ => some (.non, p.2)
    | _ => none) = o := by cases o <;> rfl
theorem opt_eta2 {o : Option (D × List MO)} : (Option.map (fun p => (Out.rt p.1, p.2)) o).bind (fun p => match p.1 with
    | .rt d => some (d, p.2)
    | .nx _ => some (.non, p.2)
    | _ => none) = o := by cases o <;> rfl
theorem same_ok (h : Tab M i T) (ha : a ∈ T.C) (hb : b ∈ T.C) (ra : a.isR = false) (rb : b.isR = false) (hl : sz T + 10 < 40000) : Ret i M T 3 false (fun N => sameF N a b) (fn_m_same_of [.obj i, .int (idx T.C a : Nat), .int (idx T.C b : Nat)] M) := by
  have f0 := h.raw.ins
  have oa := h.ok.c a ha
  have ob := h.ok.c b hb
  obtain ⟨X, e1⟩ := added_ok (t := -1) h ha hb ra rb (by decide) (by omega)
  have oc := addT_ok (t := -1) oa ob ra rb
  have hX := h.app (X := X)
  have f1 := hX.raw.ins
  have ag1 : ∀ N, Ag N T → addT T a b (-1) = addF N a b (-1) := fun N hN => addT_ag hN oa ob
  have ag2 : ∀ N, Ag N T → addT T b a (-1) = addF N b a (-1) := fun N hN => addT_ag hN ob oa
  generalize hc : addT T a b (-1) = c at e1 oc ag1
  have rc : c.isR = false := by rw [← hc]; rfl
  cases c with
  | row k => cases rc
  | sum n ps =>
  cases ps with
  | nil =>
    have i1 : InR (if n = 0 then 1 else 0) := b01 _
    have e2 := plain_ok hX i1 (by omega)
    have e : fn_m_same_of [.obj i, .int (idx T.C a : Nat), .int (idx T.C b : Nat)] M = fn_m_plain [.obj i, .int (if n = 0 then 1 else 0)] (M ++ X) := by
      have x2 := kdIx2 T n [] (M ++ X)
      have x1 := kdIx1 T n [] (M ++ X)
      have he : (encT T []).map pD = [] := rfl
      rw [he] at x2
      simp [fn_m_same_of, fb_m_same_of, stD, f0, f1, gNeg, e1, x1, x2, gEq, gInt1]
      generalize fn_m_plain [.obj i, .int (if n = 0 then 1 else 0)] (M ++ X) = o
      cases o <;> rfl
    rw [e]
    refine ((e2.from (.refl T) fr_app (m := 0) (by omega) fun N hN => ?_).weak (by omega))
    unfold sameF sameOf
    rw [← ag1 N hN]
    rfl
  | cons p ps =>
    obtain ⟨Y, e2⟩ := added_ok (t := -1) hX hb ha rb ra (by decide) (by omega)
    have od := addT_ok (t := -1) ob oa rb ra
    have hY := hX.app (X := Y)
    have f2 := hY.raw.ins
    generalize hd : addT T b a (-1) = d at e2 od ag2
    have rd : d.isR = false := by rw [← hd]; rfl
    have om := min_fok oc od
    have rm : (minT T (.sum n (p :: ps)) d).isR = false := min_isR rfl rd
    obtain ⟨M2, e3, h3, f3⟩ := kept_ok hY om (by omega)
    have g3 := addC_gr (T := T) (f := minT T (.sum n (p :: ps)) d)
    have s3 := addC_sz (T := T) (f := minT T (.sum n (p :: ps)) d)
    have m3 : minT T (.sum n (p :: ps)) d ∈ (addC T (minT T (.sum n (p :: ps)) d)).C := addC_mem
    have f4 := h3.raw.ins
    have e4 := thing_ok (k := .op .same [minT T (.sum n (p :: ps)) d]) (r := false) h3 ⟨[false], ⟨.inr rfl, rfl⟩, .cons m3 rm .nil⟩ rfl (by omega)
    rw [kd_op] at e4
    have e : fn_m_same_of [.obj i, .int (idx T.C a : Nat), .int (idx T.C b : Nat)] M = fn_m_kept_thing [.obj i, .str (kst false), .tup (.str (ostr .same) :: [minT T (.sum n (p :: ps)) d].map fun f => .int (idx (addC T (minT T (.sum n (p :: ps)) d)).C f : Nat))] M2 := by
      have x2 := kdIx2 T n (p :: ps) (M ++ X)
      have mm := min_ok (T := T) (M := M ++ X ++ Y) (c := .sum n (p :: ps)) (d := d) rfl rd
      have he : ((encT T (p :: ps)).map pD).isEmpty = false := rfl
      simp only [List.append_assoc] at e2 e3 mm f2
      simp [fn_m_same_of, fb_m_same_of, stD, f0, f1, f2, f4, gNeg, e1, x2, gEq, he, e2, mm, e3, kst, ostr]
      generalize fn_m_kept_thing _ M2 = o
      cases o <;> rfl
    rw [e]
    refine ((e4.from g3 (fr_app.trans (fr_app.trans f3)) s3 fun N hN => ?_).weak (by omega))
    unfold sameF sameOf
    have hN := hN.mono g3
    rw [← ag1 N hN, ← ag2 N hN, if_neg (by intro z; cases z), min_ag hN oc od]
end
end PM
/-! mul_of, divided, at_of, size_of, put_of. -/
namespace PM
open PySem PySem.Spec PyProof.Rows L2 DL DR PT
section
variable {M M1 : List MO} {i : Nat} {T T1 : Tb} {a b f g c d : F} {k : PT.K} {n m : Nat} {r : Bool} {t : Int} {u v : Nu → F} {res : Option (D × List MO)}
theorem ret_rt {o : Option (D × List MO)} : (Option.map (fun p => (Out.rt p.1, p.2)) o).bind (fun p => match p.1 with
    | .rt d => some (d, p.2)
    | .nx _ => some (.non, p.2)
    | _ => none) = o := by cases o <;> rfl
theorem whole_big {x : Int} (h : TOk T) (ha : a ∈ T.C) (hw : whole a = some x) : InR x := by
  have e := whole_plain hw
  subst e
  exact (h.c _ ha).1
theorem inr_abs {x : Int} (h : InR x) : x.natAbs < 2 ^ 40 := by
  unfold InR at h
  have : (2 : Nat) ^ 40 = 1099511627776 := by decide
  omega
noncomputable def mnT (T : Tb) (a b : F) : F := if idx T.C b < idx T.C a then b else a
noncomputable def mxT (T : Tb) (a b : F) : F := if idx T.C b > idx T.C a then b else a
theorem mul_ok (h : Tab M i T) (ha : a ∈ T.C) (hb : b ∈ T.C) (ra : a.isR = false) (rb : b.isR = false) (hl : sz T + 10 < 40000) : Ret i M T 2 false (fun N => mulF N a b) (fn_m_mul_of [.obj i, .int (idx T.C a : Nat), .int (idx T.C b : Nat)] M) := by
  have f0 := h.raw.ins
  have wa := whole_ok h ha
  have wb := whole_ok h hb
  cases ea : whole a with
  | some x =>
    rw [ea] at wa
    have e := oft_ok (t := x) h hb rb (inr_abs (whole_big h.ok ha ea)) hl
    have e2 : fn_m_mul_of [.obj i, .int (idx T.C a : Nat), .int (idx T.C b : Nat)] M = fn_m_so_often [.obj i, .int (idx T.C b : Nat), .int x] M := by
      simp [fn_m_mul_of, fb_m_mul_of, stD, f0, wa, ow, gIs]
      generalize fn_m_so_often _ M = o
      cases o <;> rfl
    rw [e2]
    refine (e.from (.refl T) (.refl i M) (m := 0) (by omega) fun N hN => ?_).weak (by omega)
    unfold mulF
    rw [ea]
  | none =>
    rw [ea] at wa
    cases eb : whole b with
    | some y =>
      rw [eb] at wb
      have e := oft_ok (t := y) h ha ra (inr_abs (whole_big h.ok hb eb)) hl
      have e2 : fn_m_mul_of [.obj i, .int (idx T.C a : Nat), .int (idx T.C b : Nat)] M = fn_m_so_often [.obj i, .int (idx T.C a : Nat), .int y] M := by
        simp [fn_m_mul_of, fb_m_mul_of, stD, f0, wa, wb, ow, gIs]
        generalize fn_m_so_often _ M = o
        cases o <;> rfl
      rw [e2]
      refine (e.from (.refl T) (.refl i M) (m := 0) (by omega) fun N hN => ?_).weak (by omega)
      unfold mulF
      rw [ea, eb]
    | none =>
      rw [eb] at wb
      have m1 : mnT T a b ∈ T.C := by unfold mnT; split <;> assumption
      have m2 : mxT T a b ∈ T.C := by unfold mxT; split <;> assumption
      have r1 : (mnT T a b).isR = false := by unfold mnT; split <;> assumption
      have r2 : (mxT T a b).isR = false := by unfold mxT; split <;> assumption
      have e := thing_ok (k := .op .mul [mnT T a b, mxT T a b]) (r := false) h ⟨[false, false], ⟨rfl, rfl⟩, .cons m1 r1 (.cons m2 r2 .nil)⟩ rfl (by omega)
      rw [kd_op] at e
      have i1 : (if (idx T.C b : Int) < idx T.C a then (idx T.C b : Int) else idx T.C a) = (idx T.C (mnT T a b) : Nat) := by
        unfold mnT
        by_cases z : idx T.C b < idx T.C a
        · rw [if_pos z, if_pos (by omega)]
        · rw [if_neg z, if_neg (by omega)]
      have i2 : (if (idx T.C b : Int) > idx T.C a then (idx T.C b : Int) else idx T.C a) = (idx T.C (mxT T a b) : Nat) := by
        unfold mxT
        by_cases z : idx T.C b > idx T.C a
        · rw [if_pos z, if_pos (by omega)]
        · rw [if_neg z, if_neg (by omega)]
      have g1 : gMin2 [.int (idx T.C a : Nat), .int (idx T.C b : Nat)] M = some (.int (idx T.C (mnT T a b) : Nat)) := by rw [← i1]; rfl
      have g2 : gMax2 [.int (idx T.C a : Nat), .int (idx T.C b : Nat)] M = some (.int (idx T.C (mxT T a b) : Nat)) := by rw [← i2]; rfl
      have e2 : fn_m_mul_of [.obj i, .int (idx T.C a : Nat), .int (idx T.C b : Nat)] M = fn_m_kept_thing [.obj i, .str (kst false), .tup (.str (ostr .mul) :: [mnT T a b, mxT T a b].map fun f => .int (idx T.C f : Nat))] M := by
        simp [fn_m_mul_of, fb_m_mul_of, stD, f0, wa, wb, ow, gIs, g1, g2, kst, ostr]
        generalize fn_m_kept_thing _ M = o
        cases o <;> rfl
      rw [e2]
      refine (e.from (.refl T) (.refl i M) (m := 0) (by omega) fun N hN => ?_).weak (by omega)
      have j1 : mnT T a b = mn N a b := by unfold mnT mn; rw [hN.c _ ha, hN.c _ hb]
      have j2 : mxT T a b = mx N a b := by unfold mxT mx; rw [hN.c _ ha, hN.c _ hb]
      unfold mulF
      rw [ea, eb, j1, j2]
theorem beq_rest_div : (Str.ofString "rest" == Str.ofString "div") = false := by decide
theorem div_yes {o : Op} (ho : o = .div ∨ o = .rest) (h : Tab M i T) (ha : a ∈ T.C) (hb : b ∈ T.C) (ra : a.isR = false) (hl : sz T + 10 < 40000) {y : Int} (hy : whole b = some y) (h01 : y = 0 ∨ y = 1) : Ret i M T 1 false (fun N => made N o [a, b]) (fn_m_divided [.obj i, .str (ostr o), .int (idx T.C a : Nat), .int (idx T.C b : Nat)] M) := by
  have f0 := h.raw.ins
  have wb := whole_ok h hb
  rw [hy] at wb
  have e := plain_ok h in0 (by omega)
  have s := ret_self (u := fun _ => a) h ha ra fun _ _ => rfl
  rcases ho with rfl | rfl <;> rcases h01 with rfl | rfl
  · have e2 : fn_m_divided [.obj i, .str (ostr .div), .int (idx T.C a : Nat), .int (idx T.C b : Nat)] M = fn_m_plain [.obj i, .int 0] M := by
      simp [fn_m_divided, fb_m_divided, stD, f0, wb, ow, gEq, ostr]
      generalize fn_m_plain _ M = o
      cases o <;> rfl
    rw [e2]
    refine (e.from (.refl T) (.refl i M) (m := 0) (by omega) fun N hN => ?_)
    show _ = divF a b
    unfold divF
    rw [hy]; rfl
  · have e2 : fn_m_divided [.obj i, .str (ostr .div), .int (idx T.C a : Nat), .int (idx T.C b : Nat)] M = some (.int (idx T.C a : Nat), M) := by
      simp [fn_m_divided, fb_m_divided, stD, f0, wb, ow, gEq, ostr]
    rw [e2]
    refine (s.from (.refl T) (.refl i M) (m := 1) (by omega) fun N hN => ?_)
    show _ = divF a b
    unfold divF
    rw [hy]; rfl
  · have e2 : fn_m_divided [.obj i, .str (ostr .rest), .int (idx T.C a : Nat), .int (idx T.C b : Nat)] M = some (.int (idx T.C a : Nat), M) := by
      simp [fn_m_divided, fb_m_divided, stD, f0, wb, ow, gEq, ostr, beq_rest_div]
    rw [e2]
    refine (s.from (.refl T) (.refl i M) (m := 1) (by omega) fun N hN => ?_)
    show _ = restF a b
    unfold restF
    rw [hy]; rfl
  · have e2 : fn_m_divided [.obj i, .str (ostr .rest), .int (idx T.C a : Nat), .int (idx T.C b : Nat)] M = fn_m_plain [.obj i, .int 0] M := by
      simp [fn_m_divided, fb_m_divided, stD, f0, wb, ow, gEq, ostr, beq_rest_div]
      generalize fn_m_plain _ M = o
      cases o <;> rfl
    rw [e2]
    refine (e.from (.refl T) (.refl i M) (m := 0) (by omega) fun N hN => ?_)
    show _ = restF a b
    unfold restF
    rw [hy]; rfl
theorem div_no {o : Op} (h : Tab M i T) (hb : b ∈ T.C) (hy : ∀ y, whole b = some y → y ≠ 0 ∧ y ≠ 1) : fn_m_divided [.obj i, .str (ostr o), .int (idx T.C a : Nat), .int (idx T.C b : Nat)] M = some (.non, M) := by
  have f0 := h.raw.ins
  have wb := whole_ok h hb
  cases e : whole b with
  | none =>
    rw [e] at wb
    simp [fn_m_divided, fb_m_divided, stD, f0, wb, ow, gEq]
  | some y =>
    rw [e] at wb
    obtain ⟨h0, h1⟩ := hy y e
    simp [fn_m_divided, fb_m_divided, stD, f0, wb, ow, gEq, h0, h1]
/-! keys looked at -/
theorem row_of (hr : a.isR = true) : ∃ k, a = .row k := by
  cases a with
  | sum n ps => cases hr
  | row k => exact ⟨k, rfl⟩
theorem beq_make (o : Op) : (ostr o == Str.ofString "make") = decide (o = .make) := by cases o <;> decide
theorem beq_many (o : Op) : (ostr o == Str.ofString "many") = decide (o = .many) := by cases o <;> decide
theorem beq_put (o : Op) : (ostr o == Str.ofString "put") = decide (o = .put) := by cases o <;> decide
theorem beq_thing_make : (Str.ofString "thing" == Str.ofString "make") = false := by decide
theorem beq_thing_many : (Str.ofString "thing" == Str.ofString "many") = false := by decide
theorem beq_thing_put : (Str.ofString "thing" == Str.ofString "put") = false := by decide
theorem kd_leaf (T : Tb) (l : Lb) : kd (kK T (.leaf l)) = .tup [.str (Str.ofString "thing"), .str (kst l.r), kd (lbk l)] := rfl
theorem ar_many (h : KOk T (.op .many [c, d])) : c ∈ T.C ∧ d ∈ T.C ∧ d.isR = false := by
  obtain ⟨ks, ⟨rfl, _⟩, w⟩ := h
  cases w with
  | cons h1 h2 h3 =>
    cases h3 with
    | cons h4 h5 h6 => exact ⟨h1, h4, h5⟩
theorem fs_many {fs : List F} (h : KOk T (.op .many fs)) : ∃ c d, fs = [c, d] := by
  obtain ⟨ks, ⟨rfl, _⟩, w⟩ := h
  cases w with
  | cons h1 h2 h3 =>
    cases h3 with
    | cons h4 h5 h6 =>
      cases h6
      exact ⟨_, _, rfl⟩
theorem ar_make {fs : List F} (h : KOk T (.op .make fs)) : (∀ f ∈ fs, f ∈ T.C ∧ f.isR = false) ∧ fs.length ≤ 3 := by
  obtain ⟨ks, ⟨h1, h2, _⟩, w⟩ := h
  refine ⟨?_, by rw [w.len]; exact h2⟩
  have : ∀ {fs : List F} {ks : List Bool}, Ar T fs ks → (∀ b ∈ ks, b = false) → ∀ f ∈ fs, f ∈ T.C ∧ f.isR = false := by
    intro fs ks w
    induction w with
    | nil => intro _ f hf; cases hf
    | cons g1 g2 _ ih =>
      intro hk f hf
      rcases List.mem_cons.mp hf with rfl | hf
      · exact ⟨g1, g2.trans (hk _ List.mem_cons_self)⟩
      · exact ih (fun b hb => hk b (List.mem_cons_of_mem _ hb)) f hf
  exact this w h1
theorem ar_put {fs : List F} (h : KOk T (.op .put fs)) : ∃ r p n, fs = [r, p, n] ∧ r ∈ T.C ∧ r.isR = true := by
  obtain ⟨ks, ⟨rfl, _⟩, w⟩ := h
  cases w with
  | cons h1 h2 h3 =>
    cases h3 with
    | cons h4 h5 h6 =>
      cases h6 with
      | cons h7 h8 h9 =>
        cases h9
        exact ⟨_, _, _, rfl, h1, h2⟩
theorem atI_cons {x : D} {l : List D} {j : Nat} {y : D} (h : l[j]? = some y) : atI (x :: l) (1 + (j : Int)) = some y := by
  have : (1 + (j : Int)) = ((j + 1 : Nat) : Int) := by omega
  rw [this]
  exact atI_nat (by rw [List.getElem?_cons_succ]; exact h)
theorem at_make {fs : List F} {x : Int} (h : Tab M i T) (hr : .row (.op .make fs) ∈ T.C) (hp : b ∈ T.C) (hx : whole b = some x) (hl : sz T + 10 < 40000) : Ret i M T 1 false (fun _ => idxF (.row (.op .make fs)) b) (fn_m_at_of [.obj i, .int (idx T.C (.row (.op .make fs)) : Nat), .int (idx T.C b : Nat)] M) := by
  have f0 := h.raw.ins
  have wb := whole_ok h hp
  have kk := key_ok h hr
  obtain ⟨am, al⟩ := ar_make (h.ok.q _ (h.ok.c _ hr).1)
  rw [hx] at wb
  rw [kd_op] at kk
  have ei : idxF (.row (.op .make fs)) b = if 0 ≤ x ∧ x < fs.length then fs.getD x.toNat (plain 0) else plain 0 := by
    unfold idxF
    rw [hx]; rfl
  have len : ∀ Y, gLen [.tup (.str (ostr .make) :: fs.map fun f => D.int (idx T.C f : Nat))] Y = some (.int ((fs.length + 1 : Nat) : Int)) := fun Y => by
    show some (D.int _) = _
    rw [List.length_cons, List.length_map]
  by_cases hin : 0 ≤ x ∧ x < fs.length
  · have hj : x.toNat < fs.length := by omega
    have hfs : fs.getD x.toNat (plain 0) = fs[x.toNat] := by rw [List.getD_eq_getElem?_getD, List.getElem?_eq_getElem hj]; rfl
    obtain ⟨mc, mr⟩ := am _ (List.getElem_mem hj)
    have ea : ∀ Y, gIx (.tup (.str (ostr .make) :: fs.map fun f => D.int (idx T.C f : Nat))) (.int (1 + x)) Y = some (.int (idx T.C fs[x.toNat] : Nat)) := fun Y => by
      have ex : (1 + x) = 1 + ((x.toNat : Nat) : Int) := by omega
      rw [ex]
      refine atI_cons ?_
      rw [List.getElem?_map, List.getElem?_eq_getElem hj]; rfl
    have e2 : fn_m_at_of [.obj i, .int (idx T.C (.row (.op .make fs)) : Nat), .int (idx T.C b : Nat)] M = some (.int (idx T.C fs[x.toNat] : Nat), M) := by
      have h1 : x < (fs.length : Int) + 1 - 1 := by omega
      simp [fn_m_at_of, fb_m_at_of, stD, f0, wb, kk, ow, gIs, gEq, ostr, g2, hin.1]
      have len' := len M
      have ea' := ea M
      simp [ostr] at len' ea'
      have h1' : x < (fs.length : Int) := by omega
      simp [len', ea', h1, h1', gAdd, g2]
    rw [e2]
    refine (ret_self (u := fun _ => idxF (.row (.op .make fs)) b) h mc mr fun N hN => ?_).weak (by omega)
    rw [ei, if_pos hin, hfs]
  · have e := plain_ok h in0 (by omega)
    have e2 : fn_m_at_of [.obj i, .int (idx T.C (.row (.op .make fs)) : Nat), .int (idx T.C b : Nat)] M = fn_m_plain [.obj i, .int 0] M := by
      have len' := len M
      simp [ostr] at len'
      by_cases h0 : 0 ≤ x
      · have h1 : ¬ x < (fs.length : Int) + 1 - 1 := by omega
        have h1' : ¬ x < (fs.length : Int) := by omega
        simp [fn_m_at_of, fb_m_at_of, stD, f0, wb, kk, ow, gIs, gEq, ostr, g2, h0, len', h1, h1']
        generalize fn_m_plain _ M = o
        cases o <;> rfl
      · simp [fn_m_at_of, fb_m_at_of, stD, f0, wb, kk, ow, gIs, gEq, ostr, g2, h0, len']
        generalize fn_m_plain _ M = o
        cases o <;> rfl
    rw [e2]
    refine (e.from (.refl T) (.refl i M) (m := 0) (by omega) fun N hN => ?_)
    rw [ei, if_neg hin]
theorem at_many {x : Int} (h : Tab M i T) (hr : .row (.op .many [c, d]) ∈ T.C) (hp : b ∈ T.C) (hx : whole b = some x) {y : Int} (hc : whole c = some y) (hl : sz T + 10 < 40000) : Ret i M T 1 false (fun _ => idxF (.row (.op .many [c, d])) b) (fn_m_at_of [.obj i, .int (idx T.C (.row (.op .many [c, d])) : Nat), .int (idx T.C b : Nat)] M) := by
  have f0 := h.raw.ins
  have wb := whole_ok h hp
  have kk := key_ok h hr
  obtain ⟨mc, md, rd⟩ := ar_many (h.ok.q _ (h.ok.c _ hr).1)
  have wc := whole_ok h mc
  rw [hx] at wb
  rw [hc] at wc
  rw [kd_op] at kk
  have ei : idxF (.row (.op .many [c, d])) b = if 0 ≤ x ∧ x < min 40 y then d else plain 0 := by
    unfold idxF
    rw [hx]
    show (match whole c with
      | some w => if 0 ≤ x ∧ x < min 40 w then d else plain 0
      | none => kt false (.op .idx [.row (.op .many [c, d]), b])) = _
    rw [hc]
  have bm : (Str.ofString "many" == Str.ofString "make") = false := by decide
  have em : (if y < 40 then y else 40) = min 40 y := by
    by_cases z : y < 40
    · rw [if_pos z]; omega
    · rw [if_neg z]; omega
  by_cases hin : 0 ≤ x ∧ x < min 40 y
  · have e2 : fn_m_at_of [.obj i, .int (idx T.C (.row (.op .many [c, d])) : Nat), .int (idx T.C b : Nat)] M = some (.int (idx T.C d : Nat), M) := by
      have h2 := hin.2
      simp [fn_m_at_of, fb_m_at_of, stD, f0, wb, wc, kk, ow, gIs, gEq, ostr, g2, hin.1, bm, gMin2, em, h2]
    rw [e2]
    refine (ret_self (u := fun _ => idxF (.row (.op .many [c, d])) b) h md rd fun N hN => ?_).weak (by omega)
    rw [ei, if_pos hin]
  · have e := plain_ok h in0 (by omega)
    have e2 : fn_m_at_of [.obj i, .int (idx T.C (.row (.op .many [c, d])) : Nat), .int (idx T.C b : Nat)] M = fn_m_plain [.obj i, .int 0] M := by
      by_cases h0 : 0 ≤ x
      · have h1 : ¬ x < min 40 y := fun z => hin ⟨h0, z⟩
        simp [fn_m_at_of, fb_m_at_of, stD, f0, wb, wc, kk, ow, gIs, gEq, ostr, g2, h0, bm, gMin2, em, h1]
        generalize fn_m_plain _ M = o
        cases o <;> rfl
      · simp [fn_m_at_of, fb_m_at_of, stD, f0, wb, wc, kk, ow, gIs, gEq, ostr, g2, h0, bm, gMin2, em]
        generalize fn_m_plain _ M = o
        cases o <;> rfl
    rw [e2]
    refine (e.from (.refl T) (.refl i M) (m := 0) (by omega) fun N hN => ?_)
    rw [ei, if_neg hin]
/-- no rule for a place -/
theorem at_non (h : Tab M i T) (hr : .row k ∈ T.C) (hp : b ∈ T.C) (hx : whole b = none ∨ ((∀ fs, k ≠ .op .make fs) ∧ ∀ c d, k = .op .many [c, d] → whole c = none)) : fn_m_at_of [.obj i, .int (idx T.C (.row k) : Nat), .int (idx T.C b : Nat)] M = some (.non, M) ∧ idxF (.row k) b = kt false (.op .idx [.row k, b]) := by
  have f0 := h.raw.ins
  have wb := whole_ok h hp
  have kk := key_ok h hr
  have ok := h.ok.q _ (h.ok.c _ hr).1
  cases e : whole b with
  | none =>
    rw [e] at wb
    refine ⟨by simp [fn_m_at_of, fb_m_at_of, stD, f0, wb, kk, ow, gIs], ?_⟩
    unfold idxF
    rw [e]
  | some x =>
    rw [e] at wb
    rcases hx with hx | ⟨h1, h2⟩
    · rw [e] at hx; cases hx
    · cases k with
      | leaf l =>
        rw [kd_leaf] at kk
        refine ⟨by simp [fn_m_at_of, fb_m_at_of, stD, f0, wb, kk, ow, gIs, gEq, beq_thing_make, beq_thing_many], ?_⟩
        unfold idxF
        rw [e]; rfl
      | op o fs =>
        rw [kd_op] at kk
        have n1 : o ≠ .make := fun z => h1 fs (by rw [z])
        have bm : (ostr o == Str.ofString "make") = false := by rw [beq_make, decide_eq_false n1]
        by_cases n2 : o = .many
        · subst n2
          obtain ⟨c, d, rfl⟩ := fs_many ok
          obtain ⟨mc, md, rd⟩ := ar_many ok
          have wc := whole_ok h mc
          have hc := h2 c d rfl
          rw [hc] at wc
          have bm2 : (ostr .many == Str.ofString "many") = true := by rw [beq_many]; rfl
          refine ⟨by simp [fn_m_at_of, fb_m_at_of, stD, f0, wb, wc, kk, ow, gIs, gEq, bm, bm2], ?_⟩
          unfold idxF
          rw [e]
          show (match whole c with
            | some w => if 0 ≤ x ∧ x < min 40 w then d else plain 0
            | none => kt false (.op .idx [.row (.op .many [c, d]), b])) = _
          rw [hc]
        · have bm2 : (ostr o == Str.ofString "many") = false := by rw [beq_many, decide_eq_false n2]
          refine ⟨by simp [fn_m_at_of, fb_m_at_of, stD, f0, wb, kk, ow, gIs, gEq, bm, bm2], ?_⟩
          unfold idxF
          rw [e]
          dsimp only [F.key]
          split
          · rename_i z; injection z with z; exact absurd z n1
          · rename_i z; injection z with z; exact absurd z n2
          · rfl
end
end PM
/-! size_of, put_of. -/
namespace PM
open PySem PySem.Spec PyProof.Rows L2 DL DR PT
section
variable {M M1 : List MO} {i : Nat} {T T1 : Tb} {a b f g c d : F} {k : PT.K} {n m : Nat} {r : Bool} {t : Int} {u v : Nu → F} {res : Option (D × List MO)}
theorem not_put (h : KOk T k) (hn : ∀ r p n, k ≠ .op .put [r, p, n]) : ∃ y ys, kd (kK T k) = .tup (.str y :: ys) ∧ (y == Str.ofString "put") = false := by
  cases k with
  | leaf l => exact ⟨_, _, kd_leaf T l, beq_thing_put⟩
  | op o fs =>
    refine ⟨_, _, kd_op T o fs, ?_⟩
    rw [beq_put]
    refine decide_eq_false fun z => ?_
    subst z
    obtain ⟨r, p, n, rfl, _⟩ := ar_put h
    exact hn r p n rfl
theorem while_strip (h : Tab M i T) : ∀ a : F, a ∈ T.C → a.isR = true → strip a ∈ T.C ∧ (strip a).isR = true ∧ ∃ n, whileD (eT (eOp gEq (eOp gIx (eVar 2) (eC (.int 0))) (eC (.str (Str.ofString "put"))))) (sSeq (sSet 1 (eOp gIx (eVar 2) (eC (.int 1)))) (sSet 2 (eMeth (Str.ofString "key_of") 2 fn_m_key_of (eVar 0) (aCons (eVar 1) aNil)))) n
    [some (.obj i), some (.int (idx T.C a : Nat)), some (kd (kK T a.key))] M = some (.nx [some (.obj i), some (.int (idx T.C (strip a) : Nat)), some (kd (kK T (strip a).key))], M) := by
  intro a
  have f0 := h.raw.ins
  fun_induction strip a with
  | case1 r p n ih =>
    intro ha hr
    have ok := h.ok.q _ (h.ok.c _ ha).1
    obtain ⟨r', p', n', e, h1, h2⟩ := ar_put ok
    cases e
    obtain ⟨g1, g2, m, e⟩ := ih h1 h2
    refine ⟨g1, g2, m + 1, ?_⟩
    obtain ⟨k, rfl⟩ := row_of h2
    have kk := key_ok h h1
    have bp : (ostr .put == Str.ofString "put") = true := by rw [beq_put]; rfl
    refine Eq.trans ?_ e
    show ((eT (eOp gEq (eOp gIx (eVar 2) (eC (.int 0))) (eC (.str (Str.ofString "put"))))) _ M).bind _ = _
    rw [show (F.row (.op .put [.row k, p, n])).key = .op .put [.row k, p, n] from rfl, kd_op]
    simp [gEq, bp, f0, kk]
    rfl
  | case2 a hn =>
    intro ha hr
    refine ⟨ha, hr, 1, ?_⟩
    obtain ⟨k, rfl⟩ := row_of hr
    have ok := h.ok.q _ (h.ok.c _ ha).1
    obtain ⟨y, ys, e1, e2⟩ := not_put ok (fun r p n z => hn r p n (by rw [z]))
    show ((eT (eOp gEq (eOp gIx (eVar 2) (eC (.int 0))) (eC (.str (Str.ofString "put"))))) _ M).bind _ = _
    rw [show (F.row k).key = k from rfl, e1]
    simp [gEq, e2]
theorem size_ok (h : Tab M i T) (ha : a ∈ T.C) (hr : a.isR = true) (hl : sz T + 10 < 40000) : Ret i M T 2 false (fun _ => sizeF a) (fn_m_size_of [.obj i, .int (idx T.C a : Nat)] M) := by
  have f0 := h.raw.ins
  obtain ⟨ms, rs, n, wl⟩ := while_strip h a ha hr
  have wl := sWhile_of wl
  obtain ⟨k0, ek0⟩ := row_of hr
  have kk : fn_m_key_of [.obj i, .int (idx T.C a : Nat)] M = some (kd (kK T a.key), M) := by
    rw [ek0] at ha ⊢
    exact key_ok h ha
  have es : sizeF (strip a) = sizeF a := size_strip a
  have ei := strip_idem a
  generalize hs : strip a = s at ms rs wl es ei
  obtain ⟨k, rfl⟩ := row_of rs
  have ok := h.ok.q _ (h.ok.c _ ms).1
  have head : ∀ g : TFS, sSeq (sSet 2 (eMeth (Str.ofString "key_of") 2 fn_m_key_of (eVar 0) (aCons (eVar 1) aNil))) (sSeq (sWhile (eT (eOp gEq (eOp gIx (eVar 2) (eC (.int 0))) (eC (.str (Str.ofString "put"))))) (sSeq (sSet 1 (eOp gIx (eVar 2) (eC (.int 1)))) (sSet 2 (eMeth (Str.ofString "key_of") 2 fn_m_key_of (eVar 0) (aCons (eVar 1) aNil))))) g) (stD 3 [.obj i, .int (idx T.C a : Nat)]) M = g [some (.obj i), some (.int (idx T.C (.row k) : Nat)), some (kd (kK T k))] M := fun g => by
    have e1 : sSet 2 (eMeth (Str.ofString "key_of") 2 fn_m_key_of (eVar 0) (aCons (eVar 1) aNil)) (stD 3 [.obj i, .int (idx T.C a : Nat)]) M = some (.nx [some (.obj i), some (.int (idx T.C a : Nat)), some (kd (kK T a.key))], M) := by simp [stD, f0, kk]
    rw [seq_nx e1, seq_nx wl]; rfl
  have dflt : (∀ fs, k ≠ .op .make fs) → (∀ c d, k = .op .many [c, d] → whole c = none) → Ret i M T 2 false (fun _ => sizeF a) (fn_m_size_of [.obj i, .int (idx T.C a : Nat)] M) := fun n1 n2 => by
    have e := thing_ok (k := .op .size [.row k]) (r := false) h ⟨[true], ⟨rfl, rfl⟩, .cons ms rs .nil⟩ rfl (by omega)
    rw [kd_op] at e
    have e2 : fn_m_size_of [.obj i, .int (idx T.C a : Nat)] M = fn_m_kept_thing [.obj i, .str (kst false), .tup (.str (ostr .size) :: [F.row k].map fun f => .int (idx T.C f : Nat))] M := by
      unfold fn_m_size_of fb_m_size_of
      rw [runF_eq, head]
      cases k with
      | leaf l =>
        rw [kd_leaf]
        simp [f0, gEq, beq_thing_make, beq_thing_many, kst, ostr]
        generalize fn_m_kept_thing _ M = o
        cases o <;> rfl
      | op o fs =>
        rw [kd_op]
        have b1 : (ostr o == Str.ofString "make") = false := by rw [beq_make]; exact decide_eq_false fun z => n1 fs (by rw [z])
        by_cases z : o = .many
        · subst z
          obtain ⟨c, d, rfl⟩ := fs_many ok
          obtain ⟨mc, md, rd⟩ := ar_many ok
          have wc := whole_ok h mc
          rw [n2 c d rfl] at wc
          have b2 : (ostr .many == Str.ofString "many") = true := by rw [beq_many]; rfl
          simp [f0, gEq, b1, b2, wc, ow, gIs, kst]
          simp [ostr]
          generalize fn_m_kept_thing _ M = o
          cases o <;> rfl
        · have b2 : (ostr o == Str.ofString "many") = false := by rw [beq_many]; exact decide_eq_false z
          simp [f0, gEq, b1, b2, kst]
          simp [ostr]
          generalize fn_m_kept_thing _ M = o
          cases o <;> rfl
    rw [e2]
    refine (e.from (.refl T) (.refl i M) (m := 0) (by omega) fun N hN => ?_).weak (by omega)
    rw [← es]
    unfold sizeF
    rw [ei]
    dsimp only [F.key]
    split
    · exact absurd rfl (n1 _)
    · rw [n2 _ _ rfl]
    · rfl
  by_cases c1 : ∃ fs, k = .op .make fs
  · obtain ⟨fs, rfl⟩ := c1
    obtain ⟨am, al⟩ := ar_make ok
    have e := plain_ok (n := (fs.length : Int)) h ⟨by omega, by omega⟩ (by omega)
    have len : gLen [.tup (.str (ostr .make) :: fs.map fun f => D.int (idx T.C f : Nat))] M = some (.int ((fs.length + 1 : Nat) : Int)) := by
      show some (D.int _) = _
      rw [List.length_cons, List.length_map]
    have b1 : (ostr .make == Str.ofString "make") = true := by rw [beq_make]; rfl
    have e2 : fn_m_size_of [.obj i, .int (idx T.C a : Nat)] M = fn_m_plain [.obj i, .int (fs.length : Int)] M := by
      unfold fn_m_size_of fb_m_size_of
      rw [runF_eq, head, kd_op]
      have l2 : (fs.length : Int) + 1 - 1 = fs.length := by omega
      simp [f0, gEq, b1, len, g2, l2]
      generalize fn_m_plain _ M = o
      cases o <;> rfl
    rw [e2]
    refine (e.from (.refl T) (.refl i M) (m := 0) (by omega) fun N hN => ?_).weak (by omega)
    rw [← es]
    exact (size_make fs).symm
  · by_cases c2 : ∃ c d y, k = .op .many [c, d] ∧ whole c = some y
    · obtain ⟨c, d, y, rfl, hy⟩ := c2
      obtain ⟨mc, md, rd⟩ := ar_many ok
      have wc := whole_ok h mc
      rw [hy] at wc
      have e := plain_ok (n := max 0 (min 40 y)) h ⟨by omega, by omega⟩ (by omega)
      have b1 : (ostr .many == Str.ofString "make") = false := by rw [beq_make]; rfl
      have b2 : (ostr .many == Str.ofString "many") = true := by rw [beq_many]; rfl
      have em : (if y < 40 then y else 40) = min 40 y := by
        by_cases z : y < 40
        · rw [if_pos z]; omega
        · rw [if_neg z]; omega
      have ex : (if min 40 y > 0 then min 40 y else 0) = max 0 (min 40 y) := by
        by_cases z : min 40 y > 0
        · rw [if_pos z]; omega
        · rw [if_neg z]; omega
      have q1 : gMin2 [.int 40, .int y] M = some (.int (min 40 y)) := by rw [← em]; rfl
      have q2 : gMax2 [.int 0, .int (min 40 y)] M = some (.int (max 0 (min 40 y))) := by rw [← ex]; rfl
      have e2 : fn_m_size_of [.obj i, .int (idx T.C a : Nat)] M = fn_m_plain [.obj i, .int (max 0 (min 40 y))] M := by
        unfold fn_m_size_of fb_m_size_of
        rw [runF_eq, head, kd_op]
        simp [f0, gEq, b1, b2, wc, ow, gIs, q1, q2]
        generalize fn_m_plain _ M = o
        cases o <;> rfl
      rw [e2]
      refine (e.from (.refl T) (.refl i M) (m := 0) (by omega) fun N hN => ?_).weak (by omega)
      rw [← es]
      unfold sizeF
      rw [ei]
      show _ = match whole c with
        | some w => plain (max 0 (min 40 w))
        | none => _
      rw [hy]
    · refine dflt (fun fs z => c1 ⟨fs, z⟩) fun c d z => ?_
      cases e : whole c with
      | none => rfl
      | some y => exact absurd ⟨c, d, y, z, e⟩ c2
end
end PM
/-! put_of; what made does where no rule holds. -/
namespace PM
open PySem PySem.Spec PyProof.Rows L2 DL DR PT
theorem cut_set {y v : D} {l : List D} {j : Nat} (hj : j < l.length) : cutL (y :: l) none (some (1 + (j : Int))) ++ [v] ++ cutL (y :: l) (some (2 + (j : Int))) none = y :: l.set j v := by
  have e1 : (1 + (j : Int)) = ((j + 1 : Nat) : Int) := by omega
  have e2 : (2 + (j : Int)) = ((j + 2 : Nat) : Int) := by omega
  unfold cutL
  rw [e1, e2, HT.sIx_nat, HT.sIx_nat, HT.sIx_none, HT.sIx_none, List.length_cons, Nat.min_eq_left (by omega), Nat.min_eq_left (by omega), Nat.sub_zero, List.drop_zero, List.take_succ_cons, List.drop_succ_cons, List.set_eq_take_append_cons_drop, if_pos hj]
  have e3 : ((l.drop (j + 1)).take (l.length + 1 - (j + 2))) = l.drop (j + 1) := List.take_of_length_le (by rw [List.length_drop]; omega)
  rw [e3]
  simp
section
variable {M M1 : List MO} {i : Nat} {T T1 : Tb} {a b f g c d : F} {k : PT.K} {n m : Nat} {r : Bool} {t : Int} {u v : Nu → F} {res : Option (D × List MO)}
theorem ar_of : ∀ {fs : List F}, (∀ f ∈ fs, f ∈ T.C ∧ f.isR = false) → Ar T fs (List.replicate fs.length false)
  | [], _ => .nil
  | f :: fs, h => .cons (h f List.mem_cons_self).1 (h f List.mem_cons_self).2 (ar_of fun g hg => h g (List.mem_cons_of_mem _ hg))
theorem kok_make {fs : List F} (h : ∀ f ∈ fs, f ∈ T.C ∧ f.isR = false) (hl : fs.length ≤ 3) : KOk T (.op .make fs) :=
  ⟨List.replicate fs.length false, ⟨fun b hb => List.eq_of_mem_replicate hb, by rw [List.length_replicate]; exact hl, rfl⟩, ar_of h⟩
theorem put_ok (h : Tab M i T) (ha : a ∈ T.C) (hb : b ∈ T.C) (hc : c ∈ T.C) (ra : a.isR = true) (rb : b.isR = false) (rc : c.isR = false) (hl : sz T + 10 < 40000) : Ret i M T 2 true (fun _ => putF a b c) (fn_m_put_of [.obj i, .int (idx T.C a : Nat), .int (idx T.C b : Nat), .int (idx T.C c : Nat)] M) := by
  have f0 := h.raw.ins
  have wb := whole_ok h hb
  obtain ⟨k, rfl⟩ := row_of ra
  have kk := key_ok h ha
  have ok := h.ok.q _ (h.ok.c _ ha).1
  have dflt : (∀ fs x, k = .op .make fs → whole b = some x → False) → Ret i M T 2 true (fun _ => putF (.row k) b c) (fn_m_put_of [.obj i, .int (idx T.C (.row k) : Nat), .int (idx T.C b : Nat), .int (idx T.C c : Nat)] M) := fun hn => by
    have e := thing_ok (k := .op .put [.row k, b, c]) (r := true) h ⟨[true, false, false], ⟨rfl, rfl⟩, .cons ha ra (.cons hb rb (.cons hc rc .nil))⟩ rfl (by omega)
    rw [kd_op] at e
    have e2 : fn_m_put_of [.obj i, .int (idx T.C (.row k) : Nat), .int (idx T.C b : Nat), .int (idx T.C c : Nat)] M = fn_m_kept_thing [.obj i, .str (kst true), .tup (.str (ostr .put) :: [F.row k, b, c].map fun f => .int (idx T.C f : Nat))] M := by
      cases k with
      | leaf l =>
        rw [kd_leaf] at kk
        simp [fn_m_put_of, fb_m_put_of, stD, f0, kk, wb, gNe, beq_thing_make, kst, ostr]
        generalize fn_m_kept_thing _ M = o
        cases o <;> rfl
      | op o fs =>
        rw [kd_op] at kk
        by_cases z : o = .make
        · subst z
          have b1 : (ostr .make == Str.ofString "make") = true := by rw [beq_make]; rfl
          cases hw : whole b with
          | some x => exact absurd (hn fs x rfl hw) (fun z => z)
          | none =>
            rw [hw] at wb
            simp [fn_m_put_of, fb_m_put_of, stD, f0, kk, wb, ow, gIs, gNe, b1, kst]
            simp [ostr]
            generalize fn_m_kept_thing _ M = o
            cases o <;> rfl
        · have b1 : (ostr o == Str.ofString "make") = false := by rw [beq_make]; exact decide_eq_false z
          simp [fn_m_put_of, fb_m_put_of, stD, f0, kk, wb, gNe, b1, kst]
          simp [ostr]
          generalize fn_m_kept_thing _ M = o
          cases o <;> rfl
    rw [e2]
    refine (e.from (.refl T) (.refl i M) (m := 0) (by omega) fun N hN => ?_)
    unfold PT.putF
    split
    · rename_i fs x e1 e2
      exact absurd (hn fs x e1 e2) (fun z => z)
    · rfl
  by_cases hm : ∃ fs x, k = .op .make fs ∧ whole b = some x
  · obtain ⟨fs, x, rfl, hw⟩ := hm
    rw [hw] at wb
    rw [kd_op] at kk
    obtain ⟨am, al⟩ := ar_make ok
    have ep : putF (.row (.op .make fs)) b c = if x < 0 ∨ x ≥ fs.length then .row (.op .make fs) else kt true (.op .make (fs.set x.toNat c)) := by
      unfold PT.putF
      rw [hw]; rfl
    have len : gLen [.tup (.str (ostr .make) :: fs.map fun f => D.int (idx T.C f : Nat))] M = some (.int ((fs.length + 1 : Nat) : Int)) := by
      show some (D.int _) = _
      rw [List.length_cons, List.length_map]
    have b1 : (ostr .make == Str.ofString "make") = true := by rw [beq_make]; rfl
    by_cases hout : x < 0 ∨ x ≥ fs.length
    · have e2 : fn_m_put_of [.obj i, .int (idx T.C (.row (.op .make fs)) : Nat), .int (idx T.C b : Nat), .int (idx T.C c : Nat)] M = some (.int (idx T.C (.row (.op .make fs)) : Nat), M) := by
        by_cases h0 : x < 0
        · simp [fn_m_put_of, fb_m_put_of, stD, f0, kk, wb, ow, gIs, gNe, b1, g2, h0]
        · have h1 : (fs.length : Int) ≤ x := by omega
          simp [fn_m_put_of, fb_m_put_of, stD, f0, kk, wb, ow, gIs, gNe, b1, g2, h0, len]
          have h2 : (fs.length : Int) + 1 - 1 ≤ x := by omega
          simp [h1, h2]
      rw [e2]
      refine (ret_self (u := fun _ => putF (.row (.op .make fs)) b c) h ha ra fun N hN => ?_).weak (by omega)
      rw [ep, if_pos hout]
    · have hj : x.toNat < fs.length := by omega
      have hs : ∀ f ∈ fs.set x.toNat c, f ∈ T.C ∧ f.isR = false := fun f hf => by
        rcases List.mem_or_eq_of_mem_set hf with hf | hf
        · exact am f hf
        · rw [hf]; exact ⟨hc, rc⟩
      have e := thing_ok (k := .op .make (fs.set x.toNat c)) (r := true) h (kok_make hs (by rw [List.length_set]; exact al)) rfl (by omega)
      rw [kd_op] at e
      have ex : x = ((x.toNat : Nat) : Int) := by omega
      have cs := cut_set (y := .str (ostr .make)) (v := .int (idx T.C c : Nat)) (l := fs.map fun f => D.int (idx T.C f : Nat)) (j := x.toNat) (by rw [List.length_map]; exact hj)
      rw [← ex] at cs
      have e2 : fn_m_put_of [.obj i, .int (idx T.C (.row (.op .make fs)) : Nat), .int (idx T.C b : Nat), .int (idx T.C c : Nat)] M = fn_m_kept_thing [.obj i, .str (kst true), .tup (.str (ostr .make) :: (fs.set x.toNat c).map fun f => .int (idx T.C f : Nat))] M := by
        have h0 : ¬ x < 0 := by omega
        have h1 : ¬ (fs.length : Int) ≤ x := by omega
        have h2 : ¬ (fs.length : Int) + 1 - 1 ≤ x := by omega
        have a1 : gAdd (.int 1) (.int x) M = some (.int (1 + x)) := rfl
        have a2 : gAdd (.int 2) (.int x) M = some (.int (2 + x)) := rfl
        have s1 : ∀ lo hi, gSl (.tup (.str (ostr .make) :: fs.map fun f => D.int (idx T.C f : Nat))) lo hi M = some (.tup (cutL (.str (ostr .make) :: fs.map fun f => D.int (idx T.C f : Nat)) lo hi)) := fun lo hi => rfl
        have cl : ∀ lo hi, (cutL (.str (ostr .make) :: fs.map fun f => D.int (idx T.C f : Nat)) lo hi).length ≤ 4 := fun lo hi => by
          unfold cutL
          rw [List.length_take, List.length_drop, List.length_cons, List.length_map]
          omega
        have t1 : gAdd (.tup (cutL (.str (ostr .make) :: fs.map fun f => D.int (idx T.C f : Nat)) none (some (1 + x)))) (.tup [.int (idx T.C c : Nat)]) M = some (.tup (cutL (.str (ostr .make) :: fs.map fun f => D.int (idx T.C f : Nat)) none (some (1 + x)) ++ [.int (idx T.C c : Nat)])) := by
          have := cl none (some (1 + x))
          exact if_pos (by simp; omega)
        have t2 : gAdd (.tup (cutL (.str (ostr .make) :: fs.map fun f => D.int (idx T.C f : Nat)) none (some (1 + x)) ++ [.int (idx T.C c : Nat)])) (.tup (cutL (.str (ostr .make) :: fs.map fun f => D.int (idx T.C f : Nat)) (some (2 + x)) none)) M = some (.tup (cutL (.str (ostr .make) :: fs.map fun f => D.int (idx T.C f : Nat)) none (some (1 + x)) ++ [.int (idx T.C c : Nat)] ++ cutL (.str (ostr .make) :: fs.map fun f => D.int (idx T.C f : Nat)) (some (2 + x)) none)) := by
          have := cl none (some (1 + x))
          have := cl (some (2 + x)) none
          exact if_pos (by simp; omega)
        rw [cs] at t2
        rw [show (fs.set x.toNat c).map (fun f => D.int (idx T.C f : Nat)) = (fs.map fun f => D.int (idx T.C f : Nat)).set x.toNat (.int (idx T.C c : Nat)) from by rw [List.map_set]]
        unfold fn_m_put_of fb_m_put_of
        rw [runF_eq]
        have st : stD 6 [.obj i, .int (idx T.C (.row (.op .make fs)) : Nat), .int (idx T.C b : Nat), .int (idx T.C c : Nat)] = [some (.obj i), some (.int (idx T.C (.row (.op .make fs)) : Nat)), some (.int (idx T.C b : Nat)), some (.int (idx T.C c : Nat)), none, none] := rfl
        rw [st, seq_nx (show _ = some (Out.nx [some (.obj i), some (.int (idx T.C (.row (.op .make fs)) : Nat)), some (.int (idx T.C b : Nat)), some (.int (idx T.C c : Nat)), some (.tup (.str (ostr .make) :: fs.map fun f => D.int (idx T.C f : Nat))), none], M) by simp [f0, kk]),
          seq_nx (show _ = some (Out.nx [some (.obj i), some (.int (idx T.C (.row (.op .make fs)) : Nat)), some (.int (idx T.C b : Nat)), some (.int (idx T.C c : Nat)), some (.tup (.str (ostr .make) :: fs.map fun f => D.int (idx T.C f : Nat))), some (.int x)], M) by simp [f0, wb, ow]),
          seq_nx (show _ = some (Out.nx [some (.obj i), some (.int (idx T.C (.row (.op .make fs)) : Nat)), some (.int (idx T.C b : Nat)), some (.int (idx T.C c : Nat)), some (.tup (.str (ostr .make) :: fs.map fun f => D.int (idx T.C f : Nat))), some (.int x)], M) by simp [gNe, b1, gIs]),
          seq_nx (show _ = some (Out.nx [some (.obj i), some (.int (idx T.C (.row (.op .make fs)) : Nat)), some (.int (idx T.C b : Nat)), some (.int (idx T.C c : Nat)), some (.tup (.str (ostr .make) :: fs.map fun f => D.int (idx T.C f : Nat))), some (.int x)], M) by simp [g2, h0, len, h1, h2])]
        simp only [sRet_eq, eMeth_eq, eVar_eq, aCons_eq, aNil_eq, eC_eq, eOp_eq, eSl_eq, oNone_eq, oSome_eq, eTup_eq, List.getElem?_cons_succ, List.getElem?_cons_zero, Option.bind_some, Option.map_some, f0, im_kept_thing, Option.isNone_none, if_true, a1, a2, s1, t1, t2, List.length_cons, List.length_nil, Nat.zero_add, Nat.reduceAdd, Nat.reduceLeDiff]
        show ((fn_m_kept_thing _ M).map _).bind _ = _
        exact opt_eta2
      rw [e2]
      refine (e.from (.refl T) (.refl i M) (m := 0) (by omega) fun N hN => ?_)
      rw [ep, if_neg hout]
  · exact dflt fun fs x e1 e2 => hm ⟨fs, x, e1, e2⟩
end
end PM
/-! made. -/
namespace PM
open PySem PySem.Spec PyProof.Rows L2 DL DR PT
theorem beq_copy (o : Op) : (ostr o == Str.ofString "copy") = decide (o = .copy) := by cases o <;> decide
theorem beq_keep (o : Op) : (ostr o == Str.ofString "keep") = decide (o = .keep) := by cases o <;> decide
theorem beq_add (o : Op) : (ostr o == Str.ofString "add") = decide (o = .add) := by cases o <;> decide
theorem beq_sub (o : Op) : (ostr o == Str.ofString "sub") = decide (o = .sub) := by cases o <;> decide
theorem beq_mul (o : Op) : (ostr o == Str.ofString "mul") = decide (o = .mul) := by cases o <;> decide
theorem beq_same (o : Op) : (ostr o == Str.ofString "same") = decide (o = .same) := by cases o <;> decide
theorem beq_less (o : Op) : (ostr o == Str.ofString "less") = decide (o = .less) := by cases o <;> decide
theorem beq_div (o : Op) : (ostr o == Str.ofString "div") = decide (o = .div) := by cases o <;> decide
theorem beq_rest (o : Op) : (ostr o == Str.ofString "rest") = decide (o = .rest) := by cases o <;> decide
theorem beq_pick (o : Op) : (ostr o == Str.ofString "pick") = decide (o = .pick) := by cases o <;> decide
theorem beq_at (o : Op) : (ostr o == Str.ofString "at") = decide (o = .idx) := by cases o <;> decide
theorem beq_size (o : Op) : (ostr o == Str.ofString "size") = decide (o = .size) := by cases o <;> decide
theorem in_sums (o : Op) (M : List MO) : gIn false (.str (ostr o)) dSUMS M = some (.bl (decide (o = .add ∨ o = .sub))) := by cases o <;> rfl
theorem kinds_ok (o : Op) (M : List MO) : ∃ x, fn_kinds_of [.str (ostr o)] M = some (.tup [.str (kst (Op.isR o)), x], M) := by cases o <;> exact ⟨_, rfl⟩
theorem in_done (o : Op) (M : List MO) : gIn false (.str (ostr o)) (.tup [.str (Str.ofString "at"), .str (Str.ofString "size"), .str (Str.ofString "put"), .str (Str.ofString "many"), .str (Str.ofString "make")]) M = some (.bl (decide (o = .idx ∨ o = .size ∨ o = .put ∨ o = .many ∨ o = .make))) := by cases o <;> rfl
section
variable {M M1 : List MO} {i : Nat} {T T1 : Tb} {a b f g c d : F} {k : PT.K} {n m : Nat} {r : Bool} {t : Int} {u v : Nu → F} {res : Option (D × List MO)} {o : Op} {fs : List F}
theorem done_less (x y : Int) (M : List MO) : fn_done [.str (ostr .less), .tup [.int x, .int y]] M = some (.int (if x < y then 1 else 0), M) := by
  simp [fn_done, fb_done, stD, gEq, beq_copy, beq_keep, beq_pick, in_done, fn_done_sum, fb_done_sum, beq_add, beq_sub, beq_mul, beq_div, beq_rest, beq_less, g2, gInt1]
theorem divided_ok {x y : Int} (hy : y.natAbs < 1073741824) (M : List MO) : fn_divided [.int x, .int y] M = some (.int (dv x y), M) := by
  unfold dv
  by_cases h : y = 0
  · simp [fn_divided, fb_divided, stD, gEq, h]
  · simp [fn_divided, fb_divided, stD, gEq, h, g2, hy, taken_ok]
theorem done_div {x y : Int} (hy : InR y) (M : List MO) : fn_done [.str (ostr .div), .tup [.int x, .int y]] M = some (.int (dv x y), M) := by
  have := divided_ok (x := x) (y := y) (by unfold InR at hy; omega) M
  simp [fn_done, fb_done, stD, gEq, beq_copy, beq_keep, beq_pick, in_done, fn_done_sum, fb_done_sum, beq_add, beq_sub, beq_mul, beq_div, beq_rest, beq_less, this]
theorem done_rest {x y : Int} (hy : InR y) (M : List MO) : fn_done [.str (ostr .rest), .tup [.int x, .int y]] M = some (.int (wr (x - y * dv x y)), M) := by
  have e := divided_ok (x := x) (y := y) (by unfold InR at hy; omega) M
  have hm : gMul (.int y) (.int (dv x y)) M = some (.int (y * dv x y)) := if_pos (by show (decide (y.natAbs < 2 ^ 40) || decide ((dv x y).natAbs < 2 ^ 40)) = true; rw [decide_eq_true (inr_abs hy)]; rfl)
  have hs : DL.gSub (.int x) (.int (y * dv x y)) M = some (.int (x - y * dv x y)) := rfl
  simp [fn_done, fb_done, stD, gEq, beq_copy, beq_keep, beq_pick, in_done, fn_done_sum, fb_done_sum, beq_add, beq_sub, beq_mul, beq_div, beq_rest, beq_less, e]
  simp only [hm, hs, Option.map_some, Option.bind_some, List.length_cons, List.length_nil]
  simp [taken_ok]
theorem raw_set {Cs Ks : List NestedKey} {n0 : Nat} {x : MO} (h : Raw M i Cs Ks) (hn : i + 4 < n0) : Raw (M.set n0 x) i Cs Ks := by
  have z : ∀ {j : Nat} {o : MO}, j ≤ i + 4 → M[j]? = some o → (M.set n0 x)[j]? = some o := fun {j o} hj e => by
    rw [List.getElem?_set_ne (by omega)]; exact e
  exact ⟨z (by omega) h.ins, z (by omega) h.c, z (by omega) h.n, z (by omega) h.k, z (by omega) h.t⟩
theorem tab_set {n0 : Nat} {x : MO} (h : Tab M i T) (hn : i + 4 < n0) : Tab (M.set n0 x) i T := ⟨raw_set h.raw hn, h.ok⟩
theorem tab_lt (h : Tab M i T) : i + 4 < M.length := (List.getElem?_eq_some_iff.mp h.raw.t).1
theorem whole_row (hr : a.isR = true) : whole a = none := by
  obtain ⟨k, rfl⟩ := row_of hr
  rfl
theorem kst_ff : kst false = Str.ofString "n" := rfl
theorem kst_tt : kst true = Str.ofString "r" := rfl
theorem beq_r_n : (Str.ofString "r" == Str.ofString "n") = false := by decide
theorem lc_nums {n0 : Nat} {δ : List (Option D)} (h0 : δ[0]? = some (some (.obj i))) (h6 : 6 < δ.length) (hn : i + 4 < n0) : ∀ (fs : List F) (M : List MO) (acc : List D), Tab M i T → M[n0]? = some (.lst acc) → (∀ f ∈ fs, f ∈ T.C) → acc.length + fs.length < 100000 →
    lcD 6 n0 tTrue (eIf (eT (eOp gEq (eMeth (Str.ofString "kind") 2 fn_m_kind (eVar 0) (aCons (eVar 6) aNil)) (eC (.str (Str.ofString "n"))))) (eMeth (Str.ofString "whole") 2 fn_m_whole (eVar 0) (aCons (eVar 6) aNil)) (eC .non)) δ (fs.map fun f => D.int (idx T.C f : Nat)) M = some (M.set n0 (.lst (acc ++ fs.map fun f => ow (whole f))))
  | [], M, acc, h, hm, _, _ => by
    show some M = _
    rw [List.map_nil, List.append_nil, set_same hm]
  | f :: r, M, acc, h, hm, hf, hl => by
    have hl2 : acc.length < 100000 := by simp at hl; omega
    have f0 := h.raw.ins
    have mf := hf f List.mem_cons_self
    have e0 : (δ.set 6 (some (.int (idx T.C f : Nat))))[0]? = some (some (.obj i)) := by rw [List.getElem?_set_ne (by decide)]; exact h0
    have e6 : (δ.set 6 (some (.int (idx T.C f : Nat))))[6]? = some (some (.int (idx T.C f : Nat))) := by rw [List.getElem?_set_self h6]
    have hs : (M.set n0 (.lst (acc ++ [ow (whole f)])))[n0]? = some (.lst (acc ++ [ow (whole f)])) := by simp [List.getElem?_set_self', hm]
    have ih := lc_nums h0 h6 hn r _ _ (tab_set (x := .lst (acc ++ [ow (whole f)])) h hn) hs (fun g hg => hf g (List.mem_cons_of_mem _ hg)) (by simp at hl ⊢; omega)
    rw [List.set_set, List.append_assoc] at ih
    rw [List.map_cons, List.map_cons]
    refine Eq.trans ?_ ih
    have ke := kind_ok h mf
    have we := whole_ok h mf
    cases hr : f.isR with
    | true =>
      rw [hr] at ke
      have w0 := whole_row hr
      rw [w0] at we ⊢
      simp [lcD, tTrue, e0, e6, f0, ke, kst_tt, gEq, beq_r_n, hm, hl2, ow]
    | false =>
      rw [hr] at ke
      simp [lcD, tTrue, e0, e6, f0, ke, we, kst_ff, gEq, hm, hl2]
def vO : Option Int → V
  | some x => .int x
  | none => .non
theorem fvs_nums : ∀ ws : List (Option Int), fvs (ws.map ow) = some (ws.map vO)
  | [] => rfl
  | w :: r => by
    show ((D.fv (ow w)).bind fun v => (fvs (r.map ow)).map fun vs => v :: vs) = _
    rw [fvs_nums r]
    cases w <;> rfl
theorem inV_nums : ∀ ws : List (Option Int), inV .non (ws.map vO) = ws.any Option.isNone
  | [] => rfl
  | w :: r => by
    have ih := inV_nums r
    unfold inV at ih ⊢
    rw [List.map_cons, List.any_cons, ih, List.any_cons]
    cases w <;> rfl
theorem made_rule {y : Str} {ds : List D} {v : Int} {M' : List MO} (h : Tab M i T) (e : fn_m_by_rule [.obj i, .str y, .tup ds] M = some (.int v, M')) : fn_m_made [.obj i, .str y, .tup ds] M = some (.int v, M') := by
  have f0 := h.raw.ins
  simp [fn_m_made, fb_m_made, stD, f0, e, gIs]
noncomputable def nums (fs : List F) : List D := fs.map fun f => ow (whole f)
theorem made_head (h : Tab M i T) (e : fn_m_by_rule [.obj i, .str (ostr o), .tup (fs.map fun f => D.int (idx T.C f : Nat))] M = some (.non, M)) (hf : ∀ f ∈ fs, f ∈ T.C) (hl : fs.length ≤ 3) :
    fn_m_made [.obj i, .str (ostr o), .tup (fs.map fun f => D.int (idx T.C f : Nat))] M = if Op.isR o = false ∧ (fs.map whole).any Option.isNone = false then (fn_done [.str (ostr o), .tup (nums fs)] (M ++ [.lst (nums fs)])).bind fun p => fn_m_plain [.obj i, p.1] p.2
      else fn_m_kept_thing [.obj i, .str (kst (Op.isR o)), .tup (.str (ostr o) :: fs.map fun f => D.int (idx T.C f : Nat))] (M ++ [.lst (nums fs)]) := by
  have f0 := h.raw.ins
  have hA := h.app (X := [MO.lst (nums fs)])
  have f1 := hA.raw.ins
  obtain ⟨kx, ek⟩ := kinds_ok o M
  have lt := tab_lt h
  have w := lc_nums (i := i) (T := T) (n0 := M.length) (δ := [some (.obj i), some (.str (ostr o)), some (.tup (fs.map fun f => D.int (idx T.C f : Nat))), some .non, some (.str (kst (Op.isR o))), none, none]) rfl (by simp) lt fs (M ++ [MO.lst []]) [] h.app (by simp) hf (by simp; omega)
  have e1 : (M ++ [MO.lst []]).set M.length (.lst ([] ++ fs.map fun f => ow (whole f))) = M ++ [MO.lst (nums fs)] := by simp [nums]
  rw [e1] at w
  have lst : ∀ Y, lstOf (.obj M.length) (M ++ MO.lst (nums fs) :: Y) = some (nums fs) := fun Y => by simp [lstOf]
  have fv : fvs (nums fs) = some ((fs.map whole).map vO) := by
    have := fvs_nums (fs.map whole)
    rw [List.map_map] at this
    exact this
  have gi : gIn true .non (.obj M.length) (M ++ [MO.lst (nums fs)]) = some (.bl (!(fs.map whole).any Option.isNone)) := by
    show ((lstOf (.obj M.length) (M ++ [MO.lst (nums fs)])).bind fun ds => (D.fv .non).bind fun v => (fvs ds).map fun vs => D.bl (if true = true then !inV v vs else inV v vs)) = _
    rw [lst []]
    show (fvs (nums fs)).map _ = _
    rw [fv]
    show some (D.bl (if true = true then !inV .non ((fs.map whole).map vO) else inV .non ((fs.map whole).map vO))) = _
    rw [inV_nums]
    rfl
  unfold fn_m_made fb_m_made
  rw [runF_eq]
  have st : stD 7 [.obj i, .str (ostr o), .tup (fs.map fun f => D.int (idx T.C f : Nat))] = [some (.obj i), some (.str (ostr o)), some (.tup (fs.map fun f => D.int (idx T.C f : Nat))), none, none, none, none] := rfl
  rw [st, seq_nx (show _ = some (Out.nx [some (.obj i), some (.str (ostr o)), some (.tup (fs.map fun f => D.int (idx T.C f : Nat))), some .non, none, none, none], M) by simp [f0, e]),
    seq_nx (show _ = some (Out.nx [some (.obj i), some (.str (ostr o)), some (.tup (fs.map fun f => D.int (idx T.C f : Nat))), some .non, none, none, none], M) by simp [gIs]),
    seq_nx (show _ = some (Out.nx [some (.obj i), some (.str (ostr o)), some (.tup (fs.map fun f => D.int (idx T.C f : Nat))), some .non, some (.str (kst (Op.isR o))), none, none], M) by simp [ek]),
    seq_nx (show _ = some (Out.nx [some (.obj i), some (.str (ostr o)), some (.tup (fs.map fun f => D.int (idx T.C f : Nat))), some .non, some (.str (kst (Op.isR o))), some (.obj M.length), none], M ++ [MO.lst (nums fs)]) by
      simp only [sSet_eq, eLc, iTupD, eVar_eq, List.getElem?_cons_succ, List.getElem?_cons_zero, Option.bind_some]
      rw [w]
      rfl)]
  by_cases hc : Op.isR o = false ∧ (fs.map whole).any Option.isNone = false
  · rw [if_pos hc]
    have kn : (kst (Op.isR o) == Str.ofString "n") = true := by rw [hc.1]; decide
    have gt : gTuple [.obj M.length] (M ++ [MO.lst (nums fs)]) = some (.tup (nums fs)) := by
      show (lstOf (.obj M.length) (M ++ [MO.lst (nums fs)])).map _ = _
      rw [lst []]; rfl
    rw [hc.2] at gi
    simp only [sSeq_eq, sIf_eq, eAnd_eq, eT_eq, eOp_eq, eVar_eq, List.getElem?_cons_succ, List.getElem?_cons_zero, Option.bind_some, eC_eq, gEq, kn, Option.map_some, if_true, gi, Bool.not_false, sRet_eq, eMeth_eq, f1, im_plain, Option.isNone_none, aCons_eq, aNil_eq, eFn_eq, eCall_eq, gt, List.length_cons, List.length_nil]
    cases fn_done [.str (ostr o), .tup (nums fs)] (M ++ [MO.lst (nums fs)]) with
    | none => rfl
    | some p =>
      obtain ⟨p1, p2⟩ := p
      have g1 : True := trivial
      simp only [Option.bind_some, Option.map_some]
      show (((fn_m_plain [.obj i, p1] p2).map _).bind _).bind _ = fn_m_plain [.obj i, p1] p2
      cases fn_m_plain [.obj i, p1] p2 <;> rfl
  · rw [if_neg hc]
    have fin : ∀ δ, δ = [some (.obj i), some (.str (ostr o)), some (.tup (fs.map fun f => D.int (idx T.C f : Nat))), some D.non, some (.str (kst (Op.isR o))), some (.obj M.length), none] →
        (sRet (eMeth (Str.ofString "kept_thing") 3 fn_m_kept_thing (eVar 0) (aCons (eVar 4) (aCons (eOp gAdd (eTup (aCons (eVar 1) aNil)) (eCall gTuple (aCons (eVar 2) aNil))) aNil))) δ (M ++ [MO.lst (nums fs)])).bind (fun p => match p.1 with
          | .rt d => some (d, p.2)
          | .nx _ => some (.non, p.2)
          | _ => none) = fn_m_kept_thing [.obj i, .str (kst (Op.isR o)), .tup (.str (ostr o) :: fs.map fun f => D.int (idx T.C f : Nat))] (M ++ [.lst (nums fs)]) := fun δ hδ => by
      subst hδ
      have ga : gAdd (.tup [.str (ostr o)]) (.tup (fs.map fun f => D.int (idx T.C f : Nat))) (M ++ [MO.lst (nums fs)]) = some (.tup ([.str (ostr o)] ++ fs.map fun f => D.int (idx T.C f : Nat))) := if_pos (by simp; omega)
      simp only [sRet_eq, eMeth_eq, eVar_eq, List.getElem?_cons_succ, List.getElem?_cons_zero, Option.bind_some, f1, im_kept_thing, Option.isNone_none, if_true, aCons_eq, aNil_eq, eOp_eq, eTup_eq, eCall_eq, gTuple, Option.map_some, List.length_cons, List.length_nil, ga, Nat.zero_add, Nat.reduceLeDiff, Nat.reduceAdd]
      exact opt_eta2
    rw [sSeq_eq]
    cases hk : Op.isR o with
    | true =>
      rw [hk] at fin
      have kn : (kst true == Str.ofString "n") = false := by decide
      simp only [sIf_eq, eAnd_eq, eT_eq, eOp_eq, eVar_eq, List.getElem?_cons_succ, List.getElem?_cons_zero, Option.bind_some, eC_eq, gEq, kn, Option.map_some, Bool.false_eq_true, if_false, sNil_eq]
      exact fin _ rfl
    | false =>
      have hw : (fs.map whole).any Option.isNone = true := by
        cases z : (fs.map whole).any Option.isNone with
        | true => rfl
        | false => exact absurd ⟨hk, z⟩ hc
      rw [hk] at fin
      rw [hw] at gi
      have kn : (kst false == Str.ofString "n") = true := by decide
      simp only [sIf_eq, eAnd_eq, eT_eq, eOp_eq, eVar_eq, List.getElem?_cons_succ, List.getElem?_cons_zero, Option.bind_some, eC_eq, gEq, kn, Option.map_some, if_true, gi, Bool.not_true, Bool.false_eq_true, if_false, sNil_eq]
      exact fin _ rfl
end
end PM
/-! made, op by op. -/
namespace PM
open PySem PySem.Spec PyProof.Rows L2 DL DR PT
section
variable {M M1 : List MO} {i : Nat} {T T1 : Tb} {a b f g c d : F} {k : PT.K} {n m : Nat} {r p q s : Bool} {t : Int} {u v : Nu → F} {res : Option (D × List MO)} {o : Op} {fs : List F} {ks : List Bool}
theorem ar1 (h : Ar T fs [p]) : ∃ a, fs = [a] ∧ a ∈ T.C ∧ a.isR = p := by
  cases h with
  | cons h1 h2 h3 => cases h3; exact ⟨_, rfl, h1, h2⟩
theorem ar2 (h : Ar T fs [p, q]) : ∃ a b, fs = [a, b] ∧ a ∈ T.C ∧ a.isR = p ∧ b ∈ T.C ∧ b.isR = q := by
  cases h with
  | cons h1 h2 h3 => obtain ⟨b, rfl, g1, g2⟩ := ar1 h3; exact ⟨_, _, rfl, h1, h2, g1, g2⟩
theorem ar3 (h : Ar T fs [p, q, s]) : ∃ a b c, fs = [a, b, c] ∧ a ∈ T.C ∧ a.isR = p ∧ b ∈ T.C ∧ b.isR = q ∧ c ∈ T.C ∧ c.isR = s := by
  cases h with
  | cons h1 h2 h3 => obtain ⟨b, c, rfl, g1, g2, g3, g4⟩ := ar2 h3; exact ⟨_, _, _, rfl, h1, h2, g1, g2, g3, g4⟩
theorem rule_ret {y : Str} {ds : List D} (h : Tab M i T) (e : Ret i M T n r u (fn_m_by_rule [.obj i, .str y, .tup ds] M)) : Ret i M T n r u (fn_m_made [.obj i, .str y, .tup ds] M) := by
  have e' := e
  obtain ⟨M', T', f, h1, _⟩ := e'
  rw [made_rule h h1, ← h1]
  exact e
theorem fall_kt (h : Tab M i T) (e : fn_m_by_rule [.obj i, .str (ostr o), .tup (fs.map fun f => D.int (idx T.C f : Nat))] M = some (.non, M)) (sg : Sg o ks r) (ar : Ar T fs ks) (hl3 : fs.length ≤ 3) (hc : Op.isR o = true ∨ ∃ f ∈ fs, whole f = none) (hl : sz T + 20 < 40000)
    (hu : ∀ N, Ag N T → kt r (.op o fs) = u N) : Ret i M T 2 r u (fn_m_made [.obj i, .str (ostr o), .tup (fs.map fun f => D.int (idx T.C f : Nat))] M) := by
  have er := sg_isR sg
  rw [made_head h e ar.mem hl3, if_neg]
  · have hA := h.app (X := [MO.lst (nums fs)])
    have e2 := thing_ok (k := .op o fs) (r := Op.isR o) hA ⟨ks, by rw [← er]; exact sg, ar⟩ rfl (by omega)
    rw [kd_op] at e2
    rw [er] at hu ⊢
    refine (e2.from (.refl T) fr_app (m := 0) (by omega) hu).weak (by omega)
  · rintro ⟨z1, z2⟩
    rcases hc with hc | ⟨f, hf, hw⟩
    · rw [hc] at z1; cases z1
    · have : (fs.map whole).any Option.isNone = true := List.any_eq_true.mpr ⟨none, List.mem_map.mpr ⟨f, hf, hw⟩, rfl⟩
      rw [this] at z2; cases z2
theorem fall_plain {v : Int} (h : Tab M i T) (e : fn_m_by_rule [.obj i, .str (ostr o), .tup (fs.map fun f => D.int (idx T.C f : Nat))] M = some (.non, M)) (hf : ∀ f ∈ fs, f ∈ T.C) (hl3 : fs.length ≤ 3) (hk : Op.isR o = false) (hw : (fs.map whole).any Option.isNone = false)
    (hd : ∀ M, fn_done [.str (ostr o), .tup (nums fs)] M = some (.int v, M)) (hv : InR v) (hl : sz T + 20 < 40000) (hu : ∀ N, Ag N T → plain v = u N) : Ret i M T 1 false u (fn_m_made [.obj i, .str (ostr o), .tup (fs.map fun f => D.int (idx T.C f : Nat))] M) := by
  rw [made_head h e hf hl3, if_pos ⟨hk, hw⟩, hd]
  have hA := h.app (X := [MO.lst (nums fs)])
  have e2 := plain_ok hA hv (by omega)
  exact (e2.from (.refl T) fr_app (m := 0) (by omega) hu).weak (by omega)
theorem rule_cmp (x y : Nat) (M : List MO) : gEq (.int (x : Nat)) (.int (y : Nat)) M = some (.bl (decide (x = y))) := by
  show some (D.bl _) = _
  congr 2
  by_cases h : x = y
  · rw [h]; simp
  · rw [decide_eq_false h]
    exact beq_eq_false_iff_ne.mpr (by omega)
theorem idx_eq (ha : a ∈ T.C) : (idx T.C a = idx T.C b) ↔ a = b := ⟨fun h => idx_inj ha h, fun h => by rw [h]⟩
theorem made_ok (h : Tab M i T) (sg : Sg o ks r) (hs : o = .same → ks = [false, false]) (ar : Ar T fs ks) (hl : sz T + 20 < 40000) : Ret i M T 5 r (fun N => made N o fs) (fn_m_made [.obj i, .str (ostr o), .tup (fs.map fun f => D.int (idx T.C f : Nat))] M) := by
  have f0 := h.raw.ins
  cases o with
  | copy =>
    obtain ⟨rfl, rfl⟩ := sg
    obtain ⟨a, rfl, ha, ra⟩ := ar1 ar
    refine (rule_ret (n := 0) h ?_).weak (by omega)
    have e : fn_m_by_rule [.obj i, .str (ostr .copy), .tup ([a].map fun f => D.int (idx T.C f : Nat))] M = some (.int (idx T.C a : Nat), M) := by
      simp [fn_m_by_rule, fb_m_by_rule, stD, f0, gEq, beq_copy]
    rw [e]
    exact ret_self h ha ra fun _ _ => rfl
  | keep =>
    obtain ⟨rfl, rfl⟩ := sg
    obtain ⟨a, rfl, ha, ra⟩ := ar1 ar
    refine (rule_ret (n := 0) h ?_).weak (by omega)
    have e : fn_m_by_rule [.obj i, .str (ostr .keep), .tup ([a].map fun f => D.int (idx T.C f : Nat))] M = some (.int (idx T.C a : Nat), M) := by
      simp [fn_m_by_rule, fb_m_by_rule, stD, f0, gEq, beq_copy, beq_keep]
    rw [e]
    exact ret_self h ha ra fun _ _ => rfl
  | add =>
    obtain ⟨rfl, rfl⟩ := sg
    obtain ⟨a, b, rfl, ha, ra, hb, rb⟩ := ar2 ar
    refine (rule_ret (n := 1) h ?_).weak (by omega)
    obtain ⟨X, e1⟩ := added_ok (t := 1) h ha hb ra rb (by decide) (by omega)
    have oc := addT_ok (t := 1) (h.ok.c a ha) (h.ok.c b hb) ra rb
    have e2 := kept_ret (u := fun N => addF N a b 1) (h.app (X := X)) oc (by omega) (fun N hN => addT_ag hN (h.ok.c a ha) (h.ok.c b hb))
    have f1 := (h.app (X := X)).raw.ins
    have e : fn_m_by_rule [.obj i, .str (ostr .add), .tup ([a, b].map fun f => D.int (idx T.C f : Nat))] M = fn_m_kept [.obj i, kd (kF T (addT T a b 1))] (M ++ X) := by
      simp [fn_m_by_rule, fb_m_by_rule, stD, f0, f1, gEq, beq_copy, beq_keep, beq_add, in_sums, e1]
      generalize fn_m_kept _ (M ++ X) = o
      cases o <;> rfl
    rw [e]
    exact (e2.from (.refl T) fr_app (m := 0) (by omega) fun _ _ => rfl)
  | sub =>
    obtain ⟨rfl, rfl⟩ := sg
    obtain ⟨a, b, rfl, ha, ra, hb, rb⟩ := ar2 ar
    refine (rule_ret (n := 1) h ?_).weak (by omega)
    obtain ⟨X, e1⟩ := added_ok (t := -1) h ha hb ra rb (by decide) (by omega)
    have oc := addT_ok (t := -1) (h.ok.c a ha) (h.ok.c b hb) ra rb
    have e2 := kept_ret (u := fun N => addF N a b (-1)) (h.app (X := X)) oc (by omega) (fun N hN => addT_ag hN (h.ok.c a ha) (h.ok.c b hb))
    have f1 := (h.app (X := X)).raw.ins
    have e : fn_m_by_rule [.obj i, .str (ostr .sub), .tup ([a, b].map fun f => D.int (idx T.C f : Nat))] M = fn_m_kept [.obj i, kd (kF T (addT T a b (-1)))] (M ++ X) := by
      simp [fn_m_by_rule, fb_m_by_rule, stD, f0, f1, gEq, beq_copy, beq_keep, beq_add, in_sums, gNeg, e1]
      generalize fn_m_kept _ (M ++ X) = o
      cases o <;> rfl
    rw [e]
    exact (e2.from (.refl T) fr_app (m := 0) (by omega) fun _ _ => rfl)
  | mul =>
    obtain ⟨rfl, rfl⟩ := sg
    obtain ⟨a, b, rfl, ha, ra, hb, rb⟩ := ar2 ar
    refine (rule_ret (n := 2) h ?_).weak (by omega)
    have e2 := mul_ok h ha hb ra rb (by omega)
    have e : fn_m_by_rule [.obj i, .str (ostr .mul), .tup ([a, b].map fun f => D.int (idx T.C f : Nat))] M = fn_m_mul_of [.obj i, .int (idx T.C a : Nat), .int (idx T.C b : Nat)] M := by
      simp [fn_m_by_rule, fb_m_by_rule, stD, f0, gEq, beq_copy, beq_keep, beq_mul, in_sums]
      generalize fn_m_mul_of _ M = o
      cases o <;> rfl
    rw [e]
    exact e2
  | same =>
    have hk := hs rfl
    obtain ⟨_, rfl⟩ := sg
    subst hk
    obtain ⟨a, b, rfl, ha, ra, hb, rb⟩ := ar2 ar
    refine (rule_ret (n := 3) h ?_).weak (by omega)
    have e2 := same_ok h ha hb ra rb (by omega)
    have e : fn_m_by_rule [.obj i, .str (ostr .same), .tup ([a, b].map fun f => D.int (idx T.C f : Nat))] M = fn_m_same_of [.obj i, .int (idx T.C a : Nat), .int (idx T.C b : Nat)] M := by
      simp [fn_m_by_rule, fb_m_by_rule, stD, f0, gEq, beq_copy, beq_keep, beq_mul, beq_same, in_sums]
      generalize fn_m_same_of _ M = o
      cases o <;> rfl
    rw [e]
    exact e2
  | less =>
    obtain ⟨rfl, rfl⟩ := sg
    obtain ⟨a, b, rfl, ha, ra, hb, rb⟩ := ar2 ar
    by_cases hab : a = b
    · refine (rule_ret (n := 1) h ?_).weak (by omega)
      have e2 := plain_ok h in0 (by omega)
      have e : fn_m_by_rule [.obj i, .str (ostr .less), .tup ([a, b].map fun f => D.int (idx T.C f : Nat))] M = fn_m_plain [.obj i, .int 0] M := by
        rw [hab]
        simp [fn_m_by_rule, fb_m_by_rule, stD, f0, gEq, beq_copy, beq_keep, beq_mul, beq_same, beq_less, in_sums]
        generalize fn_m_plain _ M = o
        cases o <;> rfl
      rw [e]
      refine (e2.from (.refl T) (.refl i M) (m := 0) (by omega) fun N hN => ?_)
      show _ = lessF a b
      unfold lessF
      rw [if_pos hab]
    · have e : fn_m_by_rule [.obj i, .str (ostr .less), .tup ([a, b].map fun f => D.int (idx T.C f : Nat))] M = some (.non, M) := by
        have n1 : ¬ (idx T.C a = idx T.C b) := fun z => hab (idx_inj ha z)
        have n2 : ((idx T.C a : Int) == (idx T.C b : Int)) = false := beq_eq_false_iff_ne.mpr (by omega)
        simp [fn_m_by_rule, fb_m_by_rule, stD, f0, gEq, beq_copy, beq_keep, beq_mul, beq_same, beq_less, beq_div, beq_rest, beq_pick, beq_at, beq_size, beq_put, in_sums, n1, n2]
      have em : ∀ N, made N .less [a, b] = match whole a, whole b with
        | some x, some y => plain (if x < y then 1 else 0)
        | _, _ => kt false (.op .less [a, b]) := fun N => by
        show lessF a b = _
        unfold lessF
        first
          | (rw [if_neg hab]; done)
          | (rw [if_neg hab]; cases whole a <;> cases whole b <;> rfl)
      cases ea : whole a with
      | none =>
        refine (fall_kt h e (r := false) ⟨rfl, rfl⟩ ar (by simp) (.inr ⟨a, by simp, ea⟩) (by omega) fun N hN => ?_).weak (by omega)
        rw [em, ea]
      | some x =>
        cases eb : whole b with
        | none =>
          refine (fall_kt h e (r := false) ⟨rfl, rfl⟩ ar (by simp) (.inr ⟨b, by simp, eb⟩) (by omega) fun N hN => ?_).weak (by omega)
          rw [em, ea, eb]
        | some y =>
          refine (fall_plain (v := if x < y then 1 else 0) h e ar.mem (by simp) rfl (by simp [ea, eb]) (fun M => ?_) (b01 _) (by omega) fun N hN => ?_).weak (by omega)
          · rw [show nums [a, b] = [.int x, .int y] from by simp [nums, ea, eb, ow]]
            exact done_less x y M
          · rw [em, ea, eb]
  | div =>
    obtain ⟨rfl, rfl⟩ := sg
    obtain ⟨a, b, rfl, ha, ra, hb, rb⟩ := ar2 ar
    have er : fn_m_by_rule [.obj i, .str (ostr .div), .tup ([a, b].map fun f => D.int (idx T.C f : Nat))] M = fn_m_divided [.obj i, .str (ostr .div), .int (idx T.C a : Nat), .int (idx T.C b : Nat)] M := by
      simp [fn_m_by_rule, fb_m_by_rule, stD, f0, gEq, beq_copy, beq_keep, beq_mul, beq_same, beq_less, beq_div, in_sums]
      generalize fn_m_divided _ M = o
      cases o <;> rfl
    by_cases h01 : ∃ y, whole b = some y ∧ (y = 0 ∨ y = 1)
    · obtain ⟨y, hy, h01⟩ := h01
      refine (rule_ret (n := 1) h ?_).weak (by omega)
      rw [er]
      exact div_yes (.inl rfl) h ha hb ra (by omega) hy h01
    · have hno : ∀ y, whole b = some y → y ≠ 0 ∧ y ≠ 1 := fun y hy => ⟨fun z => h01 ⟨y, hy, .inl z⟩, fun z => h01 ⟨y, hy, .inr z⟩⟩
      have e := er.trans (div_no (o := .div) (a := a) h hb hno)
      cases eb : whole b with
      | none =>
        refine (fall_kt h e (r := false) ⟨rfl, rfl⟩ ar (by simp) (.inr ⟨b, by simp, eb⟩) (by omega) fun N hN => ?_).weak (by omega)
        show _ = divF a b
        unfold divF
        rw [eb]
      | some y =>
        obtain ⟨y0, y1⟩ := hno y eb
        cases ea : whole a with
        | none =>
          refine (fall_kt h e (r := false) ⟨rfl, rfl⟩ ar (by simp) (.inr ⟨a, by simp, ea⟩) (by omega) fun N hN => ?_).weak (by omega)
          show _ = divF a b
          unfold divF
          rw [eb]
          dsimp only
          rw [if_neg y0, if_neg y1, ea]
        | some x =>
          refine (fall_plain (v := dv x y) h e ar.mem (by simp) rfl (by simp [ea, eb]) (fun M => ?_) (dv_in x y) (by omega) fun N hN => ?_).weak (by omega)
          · rw [show nums [a, b] = [.int x, .int y] from by simp [nums, ea, eb, ow]]
            exact done_div (whole_big h.ok hb eb) M
          · show _ = divF a b
            unfold divF
            rw [eb]
            dsimp only
            rw [if_neg y0, if_neg y1, ea]
  | rest =>
    obtain ⟨rfl, rfl⟩ := sg
    obtain ⟨a, b, rfl, ha, ra, hb, rb⟩ := ar2 ar
    have er : fn_m_by_rule [.obj i, .str (ostr .rest), .tup ([a, b].map fun f => D.int (idx T.C f : Nat))] M = fn_m_divided [.obj i, .str (ostr .rest), .int (idx T.C a : Nat), .int (idx T.C b : Nat)] M := by
      simp [fn_m_by_rule, fb_m_by_rule, stD, f0, gEq, beq_copy, beq_keep, beq_mul, beq_same, beq_less, beq_div, beq_rest, in_sums]
      generalize fn_m_divided _ M = o
      cases o <;> rfl
    by_cases h01 : ∃ y, whole b = some y ∧ (y = 0 ∨ y = 1)
    · obtain ⟨y, hy, h01⟩ := h01
      refine (rule_ret (n := 1) h ?_).weak (by omega)
      rw [er]
      exact div_yes (.inr rfl) h ha hb ra (by omega) hy h01
    · have hno : ∀ y, whole b = some y → y ≠ 0 ∧ y ≠ 1 := fun y hy => ⟨fun z => h01 ⟨y, hy, .inl z⟩, fun z => h01 ⟨y, hy, .inr z⟩⟩
      have e := er.trans (div_no (o := .rest) (a := a) h hb hno)
      cases eb : whole b with
      | none =>
        refine (fall_kt h e (r := false) ⟨rfl, rfl⟩ ar (by simp) (.inr ⟨b, by simp, eb⟩) (by omega) fun N hN => ?_).weak (by omega)
        show _ = restF a b
        unfold restF
        rw [eb]
      | some y =>
        obtain ⟨y0, y1⟩ := hno y eb
        cases ea : whole a with
        | none =>
          refine (fall_kt h e (r := false) ⟨rfl, rfl⟩ ar (by simp) (.inr ⟨a, by simp, ea⟩) (by omega) fun N hN => ?_).weak (by omega)
          show _ = restF a b
          unfold restF
          rw [eb]
          dsimp only
          rw [if_neg y0, if_neg y1, ea]
        | some x =>
          refine (fall_plain (v := wr (x - y * dv x y)) h e ar.mem (by simp) rfl (by simp [ea, eb]) (fun M => ?_) (wr_in _) (by omega) fun N hN => ?_).weak (by omega)
          · rw [show nums [a, b] = [.int x, .int y] from by simp [nums, ea, eb, ow]]
            exact done_rest (whole_big h.ok hb eb) M
          · show _ = restF a b
            unfold restF
            rw [eb]
            dsimp only
            rw [if_neg y0, if_neg y1, ea]
  | pick =>
    obtain ⟨rfl, rfl⟩ := sg
    obtain ⟨c, a, b, rfl, hc, rc, ha, ra, hb, rb⟩ := ar3 ar
    have wc := whole_ok h hc
    have em : ∀ N, made N .pick [c, a, b] = pickF c a b := fun N => rfl
    cases ec : whole c with
    | some x =>
      rw [ec] at wc
      refine (rule_ret (n := 0) h ?_).weak (by omega)
      by_cases hx : x = 0
      · have e : fn_m_by_rule [.obj i, .str (ostr .pick), .tup ([c, a, b].map fun f => D.int (idx T.C f : Nat))] M = some (.int (idx T.C b : Nat), M) := by
          simp [fn_m_by_rule, fb_m_by_rule, stD, f0, gEq, beq_copy, beq_keep, beq_mul, beq_same, beq_less, beq_div, beq_rest, beq_pick, in_sums, wc, ow, gIs, gNe, hx]
        rw [e]
        refine ret_self h hb rb fun N hN => ?_
        rw [em]
        unfold pickF
        rw [ec]
        exact (if_pos hx).symm
      · have e : fn_m_by_rule [.obj i, .str (ostr .pick), .tup ([c, a, b].map fun f => D.int (idx T.C f : Nat))] M = some (.int (idx T.C a : Nat), M) := by
          simp [fn_m_by_rule, fb_m_by_rule, stD, f0, gEq, beq_copy, beq_keep, beq_mul, beq_same, beq_less, beq_div, beq_rest, beq_pick, in_sums, wc, ow, gIs, gNe, hx]
        rw [e]
        refine ret_self h ha ra fun N hN => ?_
        rw [em]
        unfold pickF
        rw [ec]
        exact (if_neg hx).symm
    | none =>
      rw [ec] at wc
      by_cases hab : a = b
      · refine (rule_ret (n := 0) h ?_).weak (by omega)
        have e : fn_m_by_rule [.obj i, .str (ostr .pick), .tup ([c, a, b].map fun f => D.int (idx T.C f : Nat))] M = some (.int (idx T.C a : Nat), M) := by
          rw [← hab]
          simp [fn_m_by_rule, fb_m_by_rule, stD, f0, gEq, beq_copy, beq_keep, beq_mul, beq_same, beq_less, beq_div, beq_rest, beq_pick, in_sums, wc, ow, gIs, gNe]
        rw [e]
        refine ret_self h ha ra fun N hN => ?_
        rw [em]
        unfold pickF
        rw [ec]
        exact (if_pos hab).symm
      · have e : fn_m_by_rule [.obj i, .str (ostr .pick), .tup ([c, a, b].map fun f => D.int (idx T.C f : Nat))] M = some (.non, M) := by
          have n1 : ¬ (idx T.C a = idx T.C b) := fun z => hab (idx_inj ha z)
          have n2 : ((idx T.C a : Int) == (idx T.C b : Int)) = false := beq_eq_false_iff_ne.mpr (by omega)
          simp [fn_m_by_rule, fb_m_by_rule, stD, f0, gEq, beq_copy, beq_keep, beq_mul, beq_same, beq_less, beq_div, beq_rest, beq_pick, in_sums, wc, ow, gIs, gNe, n1, n2]
        refine (fall_kt h e (r := false) ⟨rfl, rfl⟩ ar (by simp) (.inr ⟨c, by simp, ec⟩) (by omega) fun N hN => ?_).weak (by omega)
        rw [em]
        unfold pickF
        rw [ec]
        exact (if_neg hab).symm
  | idx =>
    obtain ⟨rfl, rfl⟩ := sg
    obtain ⟨a, b, rfl, ha, ra, hb, rb⟩ := ar2 ar
    have er : fn_m_by_rule [.obj i, .str (ostr .idx), .tup ([a, b].map fun f => D.int (idx T.C f : Nat))] M = fn_m_at_of [.obj i, .int (idx T.C a : Nat), .int (idx T.C b : Nat)] M := by
      simp [fn_m_by_rule, fb_m_by_rule, stD, f0, gEq, beq_copy, beq_keep, beq_mul, beq_same, beq_less, beq_div, beq_rest, beq_pick, beq_at, in_sums]
      generalize fn_m_at_of _ M = o
      cases o <;> rfl
    obtain ⟨k, rfl⟩ := row_of ra
    have go : ∀ (hx : whole b = none ∨ ((∀ fs, k ≠ .op .make fs) ∧ ∀ c d, k = .op .many [c, d] → whole c = none)), Ret i M T 5 false (fun N => made N .idx [.row k, b]) (fn_m_made [.obj i, .str (ostr .idx), .tup ([.row k, b].map fun f => D.int (idx T.C f : Nat))] M) := fun hx => by
      obtain ⟨e1, e2⟩ := at_non h ha hb hx
      refine (fall_kt h (er.trans e1) (r := false) ⟨rfl, rfl⟩ ar (by simp) (.inr ⟨.row k, by simp, rfl⟩) (by omega) fun N hN => ?_).weak (by omega)
      exact e2.symm
    cases eb : whole b with
    | none => exact go (.inl eb)
    | some x =>
      by_cases c1 : ∃ fs, k = .op .make fs
      · obtain ⟨fs, rfl⟩ := c1
        refine (rule_ret (n := 1) h ?_).weak (by omega)
        rw [er]
        exact at_make h ha hb eb (by omega)
      · by_cases c2 : ∃ c d y, k = .op .many [c, d] ∧ whole c = some y
        · obtain ⟨c, d, y, rfl, hy⟩ := c2
          refine (rule_ret (n := 1) h ?_).weak (by omega)
          rw [er]
          exact at_many h ha hb eb hy (by omega)
        · refine go (.inr ⟨fun fs z => c1 ⟨fs, z⟩, fun c d z => ?_⟩)
          cases ec : whole c with
          | none => rfl
          | some y => exact absurd ⟨c, d, y, z, ec⟩ c2
  | size =>
    obtain ⟨rfl, rfl⟩ := sg
    obtain ⟨a, rfl, ha, ra⟩ := ar1 ar
    refine (rule_ret (n := 2) h ?_).weak (by omega)
    have er : fn_m_by_rule [.obj i, .str (ostr .size), .tup ([a].map fun f => D.int (idx T.C f : Nat))] M = fn_m_size_of [.obj i, .int (idx T.C a : Nat)] M := by
      simp [fn_m_by_rule, fb_m_by_rule, stD, f0, gEq, beq_copy, beq_keep, beq_mul, beq_same, beq_less, beq_div, beq_rest, beq_pick, beq_at, beq_size, in_sums]
      generalize fn_m_size_of _ M = o
      cases o <;> rfl
    rw [er]
    exact size_ok h ha ra (by omega)
  | put =>
    obtain ⟨rfl, rfl⟩ := sg
    obtain ⟨a, b, c, rfl, ha, ra, hb, rb, hc, rc⟩ := ar3 ar
    refine (rule_ret (n := 2) h ?_).weak (by omega)
    have er : fn_m_by_rule [.obj i, .str (ostr .put), .tup ([a, b, c].map fun f => D.int (idx T.C f : Nat))] M = fn_m_put_of [.obj i, .int (idx T.C a : Nat), .int (idx T.C b : Nat), .int (idx T.C c : Nat)] M := by
      simp [fn_m_by_rule, fb_m_by_rule, stD, f0, gEq, beq_copy, beq_keep, beq_mul, beq_same, beq_less, beq_div, beq_rest, beq_pick, beq_at, beq_size, beq_put, in_sums]
      generalize fn_m_put_of _ M = o
      cases o <;> rfl
    rw [er]
    exact put_ok h ha hb hc ra rb rc (by omega)
  | many =>
    obtain ⟨rfl, rfl⟩ := sg
    obtain ⟨a, b, rfl, ha, ra, hb, rb⟩ := ar2 ar
    have e : fn_m_by_rule [.obj i, .str (ostr .many), .tup ([a, b].map fun f => D.int (idx T.C f : Nat))] M = some (.non, M) := by
      simp [fn_m_by_rule, fb_m_by_rule, stD, f0, gEq, beq_copy, beq_keep, beq_mul, beq_same, beq_less, beq_div, beq_rest, beq_pick, beq_at, beq_size, beq_put, in_sums]
    exact (fall_kt h e (r := true) ⟨rfl, rfl⟩ ar (by simp) (.inl rfl) (by omega) fun N hN => rfl).weak (by omega)
  | make =>
    have sg' := sg
    obtain ⟨h1, h2, rfl⟩ := sg
    have e : fn_m_by_rule [.obj i, .str (ostr .make), .tup (fs.map fun f => D.int (idx T.C f : Nat))] M = some (.non, M) := by
      simp [fn_m_by_rule, fb_m_by_rule, stD, f0, gEq, beq_copy, beq_keep, beq_mul, beq_same, beq_less, beq_div, beq_rest, beq_pick, beq_at, beq_size, beq_put, in_sums]
    refine (fall_kt h e (r := true) sg' ar (by rw [ar.len]; exact h2) (.inl rfl) (by omega) fun N hN => ?_).weak (by omega)
    show _ = made N .make fs
    unfold made
    rfl
end
end PM
/-! A numbering for each table; the empty table; things. -/
namespace PM
open PySem PySem.Spec PyProof.Rows L2 DL DR PT
open Classical in
noncomputable def nuOf (T : Tb) : Nu where
  ψ := fun k => if k ∈ T.Q then idx T.Q k else T.Q.length + cK k
  φ := fun f => if f ∈ T.C then idx T.C f else T.C.length + cF f
  ψi := fun a b h => by

    by_cases ha : a ∈ T.Q
    · by_cases hb : b ∈ T.Q
      · rw [if_pos ha, if_pos hb] at h
        exact idx_inj ha h
      · rw [if_pos ha, if_neg hb] at h
        have := idx_lt ha
        omega
    · by_cases hb : b ∈ T.Q
      · rw [if_neg ha, if_pos hb] at h
        have := idx_lt hb
        omega
      · rw [if_neg ha, if_neg hb] at h
        exact cK_inj a b (by omega)
  φi := fun a b h => by

    by_cases ha : a ∈ T.C
    · by_cases hb : b ∈ T.C
      · rw [if_pos ha, if_pos hb] at h
        exact idx_inj ha h
      · rw [if_pos ha, if_neg hb] at h
        have := idx_lt ha
        omega
    · by_cases hb : b ∈ T.C
      · rw [if_neg ha, if_pos hb] at h
        have := idx_lt hb
        omega
      · rw [if_neg ha, if_neg hb] at h
        exact cF_inj a b (by omega)
theorem nuOf_ag (T : Tb) : Ag (nuOf T) T := ⟨fun f h => if_pos h, fun k h => if_pos h⟩
def T0 : Tb := ⟨[], []⟩
section
variable {M M1 : List MO} {i j : Nat} {T T1 : Tb} {f : F} {n : Nat} {r : Bool} {l : Lb}
/-- Forms() -/
theorem forms_ok (δ : List (Option D)) (M : List MO) : ∃ X, eMake fn_m_init δ M = some (.obj M.length, M ++ X) ∧ Tab (M ++ X) M.length T0 := by
  refine ⟨[.ins (flds M.length), .lst [], .dct [], .lst [], .dct []], ?_, ⟨⟨?_, ?_, ?_, ?_, ?_⟩, ⟨fun f h => (nomatch h), fun k h => (nomatch h)⟩⟩⟩
  · have p1 : putD (Str.ofString "contents") (.obj (M.length + 1)) [] = [(Str.ofString "contents", .obj (M.length + 1))] := rfl
    have p2 : putD (Str.ofString "numbers") (.obj (M.length + 2)) [(Str.ofString "contents", .obj (M.length + 1))] = [(Str.ofString "contents", .obj (M.length + 1)), (Str.ofString "numbers", .obj (M.length + 2))] := rfl
    have p3 : putD (Str.ofString "thing_keys") (.obj (M.length + 3)) [(Str.ofString "contents", .obj (M.length + 1)), (Str.ofString "numbers", .obj (M.length + 2))] = [(Str.ofString "contents", .obj (M.length + 1)), (Str.ofString "numbers", .obj (M.length + 2)), (Str.ofString "thing_keys", .obj (M.length + 3))] := rfl
    have p4 : putD (Str.ofString "things") (.obj (M.length + 4)) [(Str.ofString "contents", .obj (M.length + 1)), (Str.ofString "numbers", .obj (M.length + 2)), (Str.ofString "thing_keys", .obj (M.length + 3))] = flds M.length := rfl
    simp [eMake, fn_m_init, fb_m_init, stD, sFldD, eDctN, p1, p2, p3, p4, List.set_append]
  · simp
  · rw [List.getElem?_append_right (by omega)]; simp [T0]
  · rw [List.getElem?_append_right (by omega)]; simp [T0, ndx]
  · rw [List.getElem?_append_right (by omega)]; simp [T0]
  · rw [List.getElem?_append_right (by omega)]; simp [T0, ndx]
theorem lthing_ok (h : Tab M i T) (hl : sz T + 2 < 100000) : Ret i M T 2 l.r (fun _ => kt l.r (.leaf l)) (fn_m_thing [.obj i, .str (kst l.r), kd (lbk l)] M) := by
  have e := thing_ok (k := .leaf l) (r := l.r) h trivial rfl hl
  rw [kd_leaf] at e
  have f0 := h.raw.ins
  have e2 : fn_m_thing [.obj i, .str (kst l.r), kd (lbk l)] M = fn_m_kept_thing [.obj i, .str (kst l.r), .tup [.str (Str.ofString "thing"), .str (kst l.r), kd (lbk l)]] M := by
    simp [fn_m_thing, fb_m_thing, stD, f0]
    generalize fn_m_kept_thing _ M = o
    cases o <;> rfl
  rw [e2]
  exact e
end
/-! ### terms as data -/
def nk (l : Lb) : NestedKey := .tup [.num (bi l.d), .text (nmS l.r l.k)]
theorem nk_key (l : Lb) : Key (nk l) := ⟨_, rfl, rfl, by simp [nk, NestedKey.depth, NestedKey.depthAll]⟩
theorem nk_inj {a b : Lb} (ha : a.own = false) (hb : b.own = false) (h : nk a = nk b) : a = b := by
  refine lbk_inj a b ?_
  unfold lbk
  rw [ha, hb]
  exact h
theorem nk_lbk {l : Lb} (h : l.own = false) : lbk l = nk l := by
  unfold lbk
  rw [h]; rfl
mutual
def tD : PT.Tm → D
  | .num n => .int n
  | .name l => kd (nk l)
  | .op o ts => .tup (.str (ostr o) :: tDs ts)
def tDs : List PT.Tm → List D
  | [] => []
  | t :: r => tD t :: tDs r
end
mutual
def dep : PT.Tm → Nat
  | .num _ => 1
  | .name _ => 1
  | .op _ ts => 1 + deps ts
def deps : List PT.Tm → Nat
  | [] => 0
  | t :: r => max (dep t) (deps r)
end
mutual
def siz : PT.Tm → Nat
  | .num _ => 1
  | .name _ => 1
  | .op _ ts => 1 + sizs ts
def sizs : List PT.Tm → Nat
  | [] => 0
  | t :: r => siz t + sizs r
end
mutual
def nms : PT.Tm → List Lb
  | .num _ => []
  | .name l => [l]
  | .op _ ts => nmss ts
def nmss : List PT.Tm → List Lb
  | [] => []
  | t :: r => nms t ++ nmss r
end
theorem tDs_len : ∀ ts : List PT.Tm, (tDs ts).length = ts.length
  | [] => rfl
  | t :: r => by
    show (tDs r).length + 1 = r.length + 1
    rw [tDs_len r]
/-- env, told by the dict at j, for the names of which P holds -/
def EnvAt (M : List MO) (j : Nat) (T : Tb) (env : Lb → F) (P : Lb → Prop) : Prop := ∃ kvs, M[j]? = some (.dct kvs) ∧ ∀ l, P l → valD kvs (nk l) = some (.int (idx T.C (env l) : Nat)) ∧ env l ∈ T.C ∧ (env l).isR = l.r
theorem EnvAt.mono {M M1 : List MO} {i j : Nat} {T T1 : Tb} {env : Lb → F} {P : Lb → Prop} (h : EnvAt M j T env P) (fr : Fr i M M1) (g : Gr T T1) (hj : i + 4 < j) : EnvAt M1 j T1 env P := by
  obtain ⟨kvs, h1, h2⟩ := h
  refine ⟨kvs, by rw [fr.at_ j (some_lt h1) (.inr hj)]; exact h1, fun l hl => ?_⟩
  obtain ⟨a, b, c⟩ := h2 l hl
  exact ⟨by rw [a, g.ic b], g.mc b, c⟩
theorem sg_len {o : Op} {ks : List Bool} {r : Bool} (h : Sg o ks r) : ks.length ≤ 3 := by
  cases o <;> first | (obtain ⟨rfl, _⟩ := h; simp; done) | (obtain ⟨_, h2, _⟩ := h; exact h2) | (obtain ⟨h | h, _⟩ := h <;> rw [h] <;> simp)
theorem wts_len : ∀ {ts : List PT.Tm} {ks : List Bool}, WTs ts ks → ts.length = ks.length
  | _, _, .nil => rfl
  | _, _, .cons _ h => by simp [wts_len h]
theorem fvs_ints : ∀ l : List Int, fvs (l.map D.int) = some (l.map V.int)
  | [] => rfl
  | x :: r => by
    show ((D.fv (.int x)).bind fun v => (fvs (r.map D.int)).map fun vs => v :: vs) = _
    rw [fvs_ints r]; rfl
theorem inV_ints : ∀ l : List Int, inV .non (l.map V.int) = false
  | [] => rfl
  | x :: r => by
    have ih := inV_ints r
    unfold inV at ih ⊢
    rw [List.map_cons, List.any_cons, ih]; rfl
theorem kd_tup (ks : List NestedKey) : ∃ ds, kd (.tup ks) = .tup ds := ⟨_, rfl⟩
section
variable {M M1 : List MO} {i j : Nat} {T T1 : Tb} {f : F} {n : Nat} {r : Bool} {l : Lb} {env : Lb → F} {P : Lb → Prop}
/-- the turns of the list within form_of -/
def FormsOf (i n0 : Nat) (M : List MO) (T : Tb) (acc : List D) (ts : List PT.Tm) (ks : List Bool) (env : Lb → F) (res : Option (List MO)) : Prop :=
  ∃ M' T' fs, res = some M' ∧ M'[n0]? = some (.lst (acc ++ fs.map fun f => D.int (idx T'.C f : Nat))) ∧ Tab M' i T' ∧ Gr T T' ∧ M.length ≤ M'.length ∧ (∀ k, k < M.length → (k ≤ i ∨ i + 4 < k) → k ≠ n0 → M'[k]? = M[k]?) ∧ sz T' ≤ sz T + 5 * sizs ts ∧ Ar T' fs ks ∧ ∀ N, Ag N T' → fs = evs N env ts
mutual
theorem form_ok : ∀ (t : PT.Tm) (r : Bool) (n : Nat) (M : List MO) (T : Tb), WT t r → dep t ≤ n → Tab M i T → i + 4 < j → EnvAt M j T env P → (∀ l ∈ nms t, P l) → sz T + 5 * siz t + 30 < 40000 → Ret i M T (5 * siz t) r (fun N => ev N env t) (fn_form_of n [.obj i, tD t, .obj j] M)
  | .num x, r, 0, M, T, _, hd, _, _, _, _, _ => absurd hd (by show ¬ (1 ≤ 0); decide)
  | .name l, r, 0, M, T, _, hd, _, _, _, _, _ => absurd hd (by show ¬ (1 ≤ 0); decide)
  | .op o ts, r, 0, M, T, _, hd, _, _, _, _, _ => absurd hd (by show ¬ (1 + deps ts ≤ 0); omega)
  | .num x, r, n + 1, M, T, w, hd, h, hj, he, hP, hl => by
    cases w with
    | num hx =>
      have f0 := h.raw.ins
      have e := plain_ok h hx (by omega)
      have e2 : fn_form_of (n + 1) [.obj i, tD (.num x), .obj j] M = fn_m_plain [.obj i, .int x] M := by
        have g0 : (Str.ofString "int" == Str.ofString "int") = true := by decide
        simp [fn_form_of, fb_form_of, stD, tD, gIsi, f0]
        generalize fn_m_plain _ M = o
        cases o <;> rfl
      rw [e2]
      exact (e.from (.refl T) (.refl i M) (m := 0) (by omega) fun N hN => rfl).weak (by show 0 + 1 ≤ 5 * 1; omega)
  | .name l, r, n + 1, M, T, w, hd, h, hj, he, hP, hl => by
    cases w with
    | name _ ho =>
      obtain ⟨kvs, h1, h2⟩ := he
      obtain ⟨a, b, c⟩ := h2 l (hP l List.mem_cons_self)
      have kk := (nk_key l).get
      have e2 : fn_form_of (n + 1) [.obj i, tD (.name l), .obj j] M = some (.int (idx T.C (env l) : Nat), M) := by
        have td : tD (.name l) = kd (nk l) := rfl
        have t2 : kd (nk l) = .tup [.int (bi l.d), .str (nmS l.r l.k)] := rfl
        rw [td]
        have i1 : gIsi "int" (kd (nk l)) M = some (.bl false) := by rw [t2]; rfl
        have i2 : gIx (kd (nk l)) (.int 0) M = some (.int (bi l.d)) := by rw [t2]; exact ix0 _ _ _
        have i3 : gIsi "int" (.int (bi l.d)) M = some (.bl true) := rfl
        simp [fn_form_of, fb_form_of, stD, i1, i2, i3, eGet1, dctOf, h1, kk, a]
      rw [e2]
      exact (ret_self (u := fun N => ev N env (.name l)) h b c fun N hN => rfl).weak (by omega)
  | .op o ts, r, n + 1, M, T, w, hd, h, hj, he, hP, hl => by
    cases w with
    | op sg hs wt =>
      rename_i ks
      have hd' : deps ts ≤ n := by have : 1 + deps ts ≤ n + 1 := hd; omega
      have hl' : sz T + 5 * (1 + sizs ts) + 30 < 40000 := hl
      have f0 := h.raw.ins
      have lt := tab_lt h
      have l3 : ts.length ≤ 3 := by rw [wts_len wt]; exact sg_len sg
      obtain ⟨M1, T1, fs, w1, w2, w3, w4, w5, w6, w7, w8, w9⟩ := forms_loop ts ks n M.length (M ++ [MO.lst []]) T [] [some (.obj i), some (tD (.op o ts)), some (.obj j), none, none] wt hd' h.app hj (he.mono fr_app (.refl T) hj) hP (by omega) (by simp) lt (by simp; have := some_lt he.choose_spec.1; omega) rfl rfl rfl (by simp; omega)
      have fr1 : Fr i M M1 := ⟨by simp at w5; omega, fun k h1 h2 => by
        rw [w6 k (by simp; omega) h2 (by omega), List.getElem?_append_left h1]⟩
      have f1 := w3.raw.ins
      rw [List.nil_append] at w2
      have la : fs.length ≤ 3 := by rw [w8.len, ← wts_len wt]; exact l3
      have e3 := made_ok w3 sg hs w8 (by omega)
      have e2 : fn_form_of (n + 1) [.obj i, tD (.op o ts), .obj j] M = fn_m_made [.obj i, .str (ostr o), .tup (fs.map fun f => D.int (idx T1.C f : Nat))] M1 := by
        have td : tD (.op o ts) = .tup (.str (ostr o) :: tDs ts) := rfl
        rw [td] at w1 ⊢
        have i1 : gIsi "int" (.tup (.str (ostr o) :: tDs ts)) M = some (.bl false) := rfl
        have i3 : gIsi "int" (.str (ostr o)) M = some (.bl false) := rfl
        have s1 : gSl (.tup (.str (ostr o) :: tDs ts)) (some 1) none M = some (.tup (tDs ts)) := by
          show some (D.tup (cutL (.str (ostr o) :: tDs ts) (some ((1 : Nat) : Int)) none)) = _
          unfold cutL
          rw [HT.sIx_nat, HT.sIx_none, List.length_cons, Nat.min_eq_left (by omega), List.drop_succ_cons, List.drop_zero, List.take_of_length_le (by omega)]
        have ls : lstOf (.obj M.length) M1 = some (fs.map fun f => D.int (idx T1.C f : Nat)) := by
          show (match M1[M.length]? with
            | some (.lst ds) => some ds
            | _ => none) = _
          rw [w2]
        have mm : (fs.map fun f => D.int (idx T1.C f : Nat)) = (fs.map fun f => (idx T1.C f : Int)).map D.int := by rw [List.map_map]; rfl
        have gi : gIn false .non (.obj M.length) M1 = some (.bl false) := by
          show ((lstOf (.obj M.length) M1).bind fun ds => (D.fv .non).bind fun v => (fvs ds).map fun vs => D.bl (if false = true then !inV v vs else inV v vs)) = _
          rw [ls]
          show (fvs (fs.map fun f => D.int (idx T1.C f : Nat))).map _ = _
          rw [mm, fvs_ints]
          show some (D.bl (if false = true then _ else inV .non _)) = _
          rw [inV_ints]; rfl
        have gt : gTuple [.obj M.length] M1 = some (.tup (fs.map fun f => D.int (idx T1.C f : Nat))) := by
          show (lstOf (.obj M.length) M1).map _ = _
          rw [ls]; rfl
        unfold fn_form_of fb_form_of
        rw [runF_eq]
        have st : stD 5 [.obj i, .tup (.str (ostr o) :: tDs ts), .obj j] = [some (.obj i), some (.tup (.str (ostr o) :: tDs ts)), some (.obj j), none, none] := rfl
        rw [st, seq_nx (show _ = some (Out.nx [some (.obj i), some (.tup (.str (ostr o) :: tDs ts)), some (.obj j), none, none], M) by simp [i1]),
          seq_nx (show _ = some (Out.nx [some (.obj i), some (.tup (.str (ostr o) :: tDs ts)), some (.obj j), none, none], M) by simp [i3]),
          seq_nx (show _ = some (Out.nx [some (.obj i), some (.tup (.str (ostr o) :: tDs ts)), some (.obj j), some (.obj M.length), none], M1) by
            simp only [sSet_eq, eLc, iTupD, eSl_eq, oSome_eq, oNone_eq, eC_eq, eVar_eq, List.getElem?_cons_succ, List.getElem?_cons_zero, Option.bind_some, s1, Option.map_some]
            rw [w1]
            rfl),
          seq_nx (show _ = some (Out.nx [some (.obj i), some (.tup (.str (ostr o) :: tDs ts)), some (.obj j), some (.obj M.length), none], M1) by simp [gi])]
        have i0 : gIx (.tup (.str (ostr o) :: tDs ts)) (.int 0) M1 = some (.str (ostr o)) := ix0 _ _ _
        simp [f1, i0, gt]
        generalize fn_m_made _ M1 = o
        cases o <;> rfl
      rw [e2]
      have sT : sizs ts + 1 = siz (.op o ts) := by show _ = 1 + sizs ts; omega
      refine (e3.from w4 fr1 w7 fun N hN => ?_).weak (by rw [← sT]; omega)
      show made N o fs = made N o (evs N env ts)
      rw [w9 N hN]
theorem forms_loop : ∀ (ts : List PT.Tm) (ks : List Bool) (n n0 : Nat) (M : List MO) (T : Tb) (acc : List D) (δ : List (Option D)), WTs ts ks → deps ts ≤ n → Tab M i T → i + 4 < j → EnvAt M j T env P → (∀ l ∈ nmss ts, P l) → sz T + 5 * sizs ts + 30 < 40000 → M[n0]? = some (.lst acc) → i + 4 < n0 → j ≠ n0 →
    δ[0]? = some (some (.obj i)) → δ[2]? = some (some (.obj j)) → δ.length = 5 → acc.length + ts.length < 100000 →
    FormsOf i n0 M T acc ts ks env (lcD 4 n0 tTrue (eFn 3 (fn_form_of n) (aCons (eVar 0) (aCons (eVar 4) (aCons (eVar 2) aNil)))) δ (tDs ts) M)
  | [], _, n, n0, M, T, acc, δ, w, hd, h, hj, he, hP, hl, hn, hi, hne, d0, d2, dl, ha => by
    cases w
    exact ⟨M, T, [], rfl, by rw [hn, List.map_nil, List.append_nil], h, .refl T, Nat.le_refl _, fun k _ _ _ => rfl, by omega, .nil, fun _ _ => rfl⟩
  | t :: r, _, n, n0, M, T, acc, δ, w, hd, h, hj, he, hP, hl, hn, hi, hne, d0, d2, dl, ha => by
    cases w with
    | cons wt wr =>
      rename_i b ks
      have hd' : max (dep t) (deps r) ≤ n := hd
      have hl' : sz T + 5 * (siz t + sizs r) + 30 < 40000 := hl
      obtain ⟨M1, T1, f, e1, h1, g1, fr1, s1, m1, r1, v1⟩ := form_ok t b n M T wt (by omega) h hj he (fun l hl => hP l (List.mem_append_left _ hl)) (by omega)
      have hn1 : M1[n0]? = some (.lst acc) := by rw [fr1.at_ n0 (some_lt hn) (.inr hi)]; exact hn
      have he1 := he.mono fr1 g1 hj
      have hl2 : acc.length < 100000 := by simp at ha; omega
      have he2 : EnvAt (M1.set n0 (.lst (acc ++ [.int (idx T1.C f : Nat)]))) j T1 env P := by
        obtain ⟨kvs, a1, a2⟩ := he1
        exact ⟨kvs, by rw [List.getElem?_set_ne (Ne.symm hne)]; exact a1, a2⟩
      have hn2 : (M1.set n0 (.lst (acc ++ [.int (idx T1.C f : Nat)])))[n0]? = some (.lst (acc ++ [.int (idx T1.C f : Nat)])) := by simp [List.getElem?_set_self', hn1]
      obtain ⟨M2, T2, fs, w1, w2, w3, w4, w5, w6, w7, w8, w9⟩ := forms_loop r ks n n0 _ T1 _ δ wr (by omega) (tab_set h1 hi) hj he2 (fun l hl => hP l (List.mem_append_right _ hl)) (by omega) hn2 hi hne d0 d2 dl (by simp at ha ⊢; omega)
      refine ⟨M2, T2, f :: fs, ?_, ?_, w3, g1.trans w4, ?_, fun k k1 k2 k3 => ?_, ?_, .cons (w4.mc m1) r1 w8, fun N hN => ?_⟩
      · refine Eq.trans ?_ w1
        have q0 : (δ.set 4 (some (tD t)))[0]? = some (some (.obj i)) := by rw [List.getElem?_set_ne (by decide)]; exact d0
        have q2 : (δ.set 4 (some (tD t)))[2]? = some (some (.obj j)) := by rw [List.getElem?_set_ne (by decide)]; exact d2
        have q4 : (δ.set 4 (some (tD t)))[4]? = some (some (tD t)) := by rw [List.getElem?_set_self (by omega)]
        show lcD 4 n0 tTrue _ δ (tD t :: tDs r) M = _
        simp only [lcD, tTrue, Option.bind_some, if_true, eFn_eq, aCons_eq, aNil_eq, eVar_eq, q0, q2, q4, Option.map_some, List.length_cons, List.length_nil, e1, hn1, hl2]
      · rw [w2, List.append_assoc, List.map_cons, w4.ic m1]
        rfl
      · have := fr1.len
        simp at w5
        omega
      · rw [w6 k (by rw [List.length_set]; have := fr1.len; omega) k2 k3, List.getElem?_set_ne (Ne.symm k3), fr1.at_ k k1 k2]
      · show sz T2 ≤ sz T + 5 * (siz t + sizs r)
        omega
      · show f :: fs = ev N env t :: evs N env r
        rw [v1 N (hN.mono w4), w9 N hN]
end
end
end PM
/-! names_in, kind_of, alike. -/
namespace PM
open PySem PySem.Spec PyProof.Rows L2 DL DR PT
/-- all that was is as it was -/
structure Ext (M M' : List MO) : Prop where
  len : M.length ≤ M'.length
  at_ : ∀ k, k < M.length → M'[k]? = M[k]?
theorem Ext.refl (M : List MO) : Ext M M := ⟨Nat.le_refl _, fun _ _ => rfl⟩
theorem Ext.trans {M M1 M2 : List MO} (a : Ext M M1) (b : Ext M1 M2) : Ext M M2 := ⟨Nat.le_trans a.len b.len, fun k h => (b.at_ k (Nat.lt_of_lt_of_le h a.len)).trans (a.at_ k h)⟩
theorem Ext.app (M X : List MO) : Ext M (M ++ X) := ⟨by simp, fun k h => by rw [List.getElem?_append_left h]⟩
theorem Ext.of {M M1 M2 : List MO} (a : Ext M M1) (l : M1.length ≤ M2.length) (h : ∀ k, k < M.length → M2[k]? = M1[k]?) : Ext M M2 := ⟨Nat.le_trans a.len l, fun k hk => (h k hk).trans (a.at_ k hk)⟩
def lD (l : Lb) : D := kd (nk l)
section
variable {M M1 : List MO} {i j : Nat} {T T1 : Tb} {f : F} {n : Nat} {r : Bool} {l : Lb}
def NamesOf (M : List MO) (t : List Lb) (res : Option (D × List MO)) : Prop := ∃ M' l, res = some (.obj l, M') ∧ M'[l]? = some (.lst (t.map lD)) ∧ Ext M M' ∧ M.length ≤ l
mutual
theorem nmss_len : ∀ ts : List PT.Tm, (nmss ts).length ≤ sizs ts
  | [] => Nat.le_refl _
  | t :: r => by
    show (nms t ++ nmss r).length ≤ siz t + sizs r
    rw [List.length_append]
    have := nms_len t
    have := nmss_len r
    omega
theorem nms_len : ∀ t : PT.Tm, (nms t).length ≤ siz t
  | .num _ => Nat.zero_le _
  | .name _ => Nat.le_refl _
  | .op o ts => by
    show (nmss ts).length ≤ 1 + sizs ts
    have := nmss_len ts
    omega
end
theorem slice1 (x : D) (l : List D) (M : List MO) : gSl (.tup (x :: l)) (some 1) none M = some (.tup l) := by
  show some (D.tup (cutL (x :: l) (some ((1 : Nat) : Int)) none)) = _
  unfold cutL
  rw [HT.sIx_nat, HT.sIx_none, List.length_cons, Nat.min_eq_left (by omega), List.drop_succ_cons, List.drop_zero, List.take_of_length_le (by omega)]
mutual
theorem names_ok : ∀ (t : PT.Tm) (n : Nat) (M : List MO), dep t ≤ n → siz t < 50000 → NamesOf M (nms t) (fn_names_in n [tD t] M)
  | .num x, 0, M, hd, _ => absurd hd (by show ¬ (1 ≤ 0); decide)
  | .name l, 0, M, hd, _ => absurd hd (by show ¬ (1 ≤ 0); decide)
  | .op o ts, 0, M, hd, _ => absurd hd (by show ¬ (1 + deps ts ≤ 0); omega)
  | .num x, n + 1, M, hd, _ => by
    refine ⟨M ++ [.lst []], M.length, ?_, by simp [nms], .app M _, Nat.le_refl _⟩
    simp [fn_names_in, fb_names_in, stD, tD, gIsi]
  | .name l, n + 1, M, hd, _ => by
    refine ⟨M ++ [.lst [lD l]], M.length, ?_, by simp [nms], .app M _, Nat.le_refl _⟩
    have td : tD (.name l) = kd (nk l) := rfl
    have t2 : kd (nk l) = .tup [.int (bi l.d), .str (nmS l.r l.k)] := rfl
    rw [td]
    have i1 : gIsi "int" (kd (nk l)) M = some (.bl false) := by rw [t2]; rfl
    have i2 : gIx (kd (nk l)) (.int 0) M = some (.int (bi l.d)) := by rw [t2]; exact ix0 _ _ _
    have i3 : gIsi "int" (.int (bi l.d)) M = some (.bl true) := rfl
    simp [fn_names_in, fb_names_in, stD, i1, i2, i3, lD]
  | .op o ts, n + 1, M, hd, hs => by
    have hd' : deps ts ≤ n := by have : 1 + deps ts ≤ n + 1 := hd; omega
    have hs' : 1 + sizs ts < 50000 := hs
    obtain ⟨M1, y, w1, w2, w3, w4⟩ := names_loop ts n M.length (M ++ [.lst []]) [] (some (tD (.op o ts))) none hd' (by simp; omega) (by simp)
    refine ⟨M1, M.length, ?_, by rw [w2]; rfl, ?_, Nat.le_refl _⟩
    · have td : tD (.op o ts) = .tup (.str (ostr o) :: tDs ts) := rfl
      rw [td] at w1 ⊢
      have i1 : gIsi "int" (.tup (.str (ostr o) :: tDs ts)) M = some (.bl false) := rfl
      have i3 : gIsi "int" (.str (ostr o)) M = some (.bl false) := rfl
      have s1 := slice1 (.str (ostr o)) (tDs ts) (M ++ [.lst []])
      unfold fn_names_in fb_names_in
      rw [runF_eq]
      have st : stD 3 [.tup (.str (ostr o) :: tDs ts)] = [some (.tup (.str (ostr o) :: tDs ts)), none, none] := rfl
      rw [st, seq_nx (show _ = some (Out.nx [some (.tup (.str (ostr o) :: tDs ts)), none, none], M) by simp [i1]),
        seq_nx (show _ = some (Out.nx [some (.tup (.str (ostr o) :: tDs ts)), none, none], M) by simp [i3]),
        seq_nx (show _ = some (Out.nx [some (.tup (.str (ostr o) :: tDs ts)), some (.obj M.length), none], M ++ [.lst []]) by simp),
        seq_nx (show _ = some (Out.nx [some (.tup (.str (ostr o) :: tDs ts)), some (.obj M.length), y], M1) by
          refine Eq.trans ?_ w1
          simp [sFor, iTupD, s1])]
      simp
    · refine ⟨by simp at w3; omega, fun k hk => ?_⟩
      rw [w4 k (by simp; omega) (by omega), List.getElem?_append_left hk]
theorem names_loop : ∀ (ts : List PT.Tm) (n n0 : Nat) (M : List MO) (acc : List Lb) (x0 x2 : Option D), deps ts ≤ n → acc.length + sizs ts < 50000 → M[n0]? = some (.lst (acc.map lD)) →
    ∃ M' y, forD (gNm 2) (sDrop (eExt (eVar 1) (eFn 1 (fn_names_in n) (aCons (eVar 2) aNil)))) (tDs ts) [x0, some (.obj n0), x2] M = some (.nx [x0, some (.obj n0), y], M') ∧ M'[n0]? = some (.lst ((acc ++ nmss ts).map lD)) ∧ M.length ≤ M'.length ∧ ∀ k, k < M.length → k ≠ n0 → M'[k]? = M[k]?
  | [], n, n0, M, acc, x0, x2, _, _, hn => ⟨M, x2, rfl, by rw [hn]; show _ = some (MO.lst ((acc ++ []).map lD)); rw [List.append_nil], Nat.le_refl _, fun _ _ _ => rfl⟩
  | t :: r, n, n0, M, acc, x0, x2, hd, hs, hn => by
    have hd' : max (dep t) (deps r) ≤ n := hd
    have hs' : acc.length + (siz t + sizs r) < 50000 := hs
    obtain ⟨M1, l, e1, e2, e3, e4⟩ := names_ok t n M (by omega) (by omega)
    have ln := nms_len t
    have hn1 : M1[n0]? = some (.lst (acc.map lD)) := by rw [e3.at_ n0 (some_lt hn)]; exact hn
    have hn2 : (M1.set n0 (.lst ((acc ++ nms t).map lD)))[n0]? = some (.lst ((acc ++ nms t).map lD)) := by simp [List.getElem?_set_self', hn1]
    obtain ⟨M2, y, w1, w2, w3, w4⟩ := names_loop r n n0 (M1.set n0 (.lst ((acc ++ nms t).map lD))) (acc ++ nms t) x0 (some (tD t)) (by omega) (by rw [List.length_append]; omega) hn2
    refine ⟨M2, y, ?_, by rw [w2, List.append_assoc]; rfl, ?_, fun k k1 k2 => ?_⟩
    · refine Eq.trans ?_ w1
      have l5 : (acc.map lD).length + ((nms t).map lD).length ≤ 100000 := by rw [List.length_map, List.length_map]; omega
      have il : isLst (.obj n0) M = true := by
        show (match M[n0]? with
          | some (.lst _) => true
          | _ => false) = true
        rw [hn]
      show forD _ _ (tD t :: tDs r) _ M = _
      rw [List.length_map, List.length_map] at l5
      simp [forD, gNm, eExt, il, e1, hn1, e2, l5, List.map_append]
    · have := e3.len
      simp at w3
      omega
    · rw [w4 k (by rw [List.length_set]; have := e3.len; omega) k2, List.getElem?_set_ne (Ne.symm k2), e3.at_ k k1]
end
theorem kind_of_ok (r k : Bool) (M : List MO) : fn_kind_of [.str (nmS r k)] M = some (.str (kst r), M) := by cases r <;> cases k <;> kernel_rfl
theorem putN_val {κ : Type} [DecidableEq κ] {kvs : List (κ × D)} {k j : κ} {d : D} : valD (putN kvs k d) j = if j = k then some d else valD kvs j := by
  have app : ∀ kvs : List (κ × D), valD (kvs ++ [(k, d)]) j = (valD kvs j).or (if k = j then some d else none) := by
    intro kvs
    induction kvs with
    | nil =>
      by_cases e : k = j
      · rw [if_pos e]
        show valD ((k, d) :: []) j = _
        rw [valD_pos (by exact e)]; rfl
      · rw [if_neg e]
        show valD ((k, d) :: []) j = _
        rw [valD_neg (by exact e)]; rfl
    | cons p r ih =>
      by_cases e : p.1 = j
      · rw [List.cons_append, valD_pos e, valD_pos e]; rfl
      · rw [List.cons_append, valD_neg e, valD_neg e, ih]
  have mp : ∀ kvs : List (κ × D), valD (kvs.map fun p => if p.1 = k then (p.1, d) else p) j = if j = k then (valD kvs j).map (fun _ => d) else valD kvs j := by
    intro kvs
    induction kvs with
    | nil =>
      show none = if j = k then none else none
      split <;> rfl
    | cons p r ih =>
      rw [List.map_cons]
      by_cases e1 : p.1 = k
      · rw [if_pos e1]
        by_cases e2 : p.1 = j
        · rw [valD_pos (by exact e2), valD_pos e2, if_pos (e2.symm.trans e1)]; rfl
        · rw [valD_neg (by exact e2), valD_neg e2, ih]
      · rw [if_neg e1]
        by_cases e2 : p.1 = j
        · rw [valD_pos e2, valD_pos e2, if_neg (fun z => e1 (e2.trans z))]
        · rw [valD_neg e2, valD_neg e2, ih]
  unfold putN
  by_cases h : (valD kvs k).isSome = true
  · rw [if_pos h, mp]
    by_cases e : j = k
    · subst e
      rw [if_pos rfl, if_pos rfl]
      obtain ⟨x, hx⟩ := Option.isSome_iff_exists.mp h
      rw [hx]; rfl
    · rw [if_neg e, if_neg e]
  · rw [if_neg h, app]
    by_cases e : j = k
    · subst e
      have : valD kvs j = none := by simpa using h
      rw [if_pos rfl, this, if_pos rfl]; rfl
    · rw [if_neg e, if_neg (fun z => e z.symm)]
      cases valD kvs j <;> rfl
end
end PM
/-! alike. -/
namespace PM
open PySem PySem.Spec PyProof.Rows L2 DL DR PT
section
variable {M M1 : List MO} {i j : Nat} {T T1 : Tb} {f : F} {n : Nat} {r : Bool} {l : Lb}
theorem Ext.get {o : MO} (e : Ext M M1) {k : Nat} (h : M[k]? = some o) : M1[k]? = some o := by rw [e.at_ k (some_lt h)]; exact h
theorem tab_ext (h : Tab M i T) (e : Ext M M1) : Tab M1 i T := ⟨⟨e.get h.raw.ins, e.get h.raw.c, e.get h.raw.n, e.get h.raw.k, e.get h.raw.t⟩, h.ok⟩
mutual
theorem wt_own : ∀ (t : PT.Tm) (r : Bool), WT t r → ∀ l ∈ nms t, l.own = false
  | .num _, _, _, l, h => by cases h
  | .name l', _, w, l, h => by
    cases w with
    | name _ ho =>
      have e : l = l' := by simpa [nms] using h
      rw [e]; exact ho
  | .op o ts, _, w, l, h => by
    cases w with
    | op _ _ ws => exact wts_own ts _ ws l h
theorem wts_own : ∀ (ts : List PT.Tm) (ks : List Bool), WTs ts ks → ∀ l ∈ nmss ts, l.own = false
  | [], _, _, l, h => by cases h
  | t :: r, _, w, l, h => by
    cases w with
    | cons w1 w2 =>
      rcases List.mem_append.mp h with h | h
      · exact wt_own t _ w1 l h
      · exact wts_own r _ w2 l h
end
theorem lbk_lD (h : l.own = false) : kd (lbk l) = lD l := by rw [nk_lbk h]; rfl
theorem alike_loop {x0 x1 : Option D} (hj : i + 4 < j) : ∀ (L : List Lb) (M : List MO) (T : Tb) (kvs : List (NestedKey × D)) (Sx : Lb → Prop) (x4 : Option D), (∀ l ∈ L, l.own = false) → Tab M i T → M[j]? = some (.dct kvs) →
    (∀ l, Sx l → l.own = false ∧ valD kvs (nk l) = some (.int (idx T.C (leaf l) : Nat)) ∧ leaf l ∈ T.C) → kvs.length + L.length < 50000 → sz T + 2 * L.length + 10 < 40000 →
    ∃ M' T' kvs' y, forD (gNm 4) (sDput (eMeth (Str.ofString "thing") 3 fn_m_thing (eVar 2) (aCons (eFn 1 fn_kind_of (aCons (eOp gIx (eVar 4) (eC (.int 1))) aNil)) (aCons (eVar 4) aNil))) (eVar 3) (eVar 4)) (L.map lD) [x0, x1, some (.obj i), some (.obj j), x4] M = some (.nx [x0, x1, some (.obj i), some (.obj j), y], M') ∧
      Tab M' i T' ∧ M'[j]? = some (.dct kvs') ∧ (∀ l, Sx l ∨ l ∈ L → l.own = false ∧ valD kvs' (nk l) = some (.int (idx T'.C (leaf l) : Nat)) ∧ leaf l ∈ T'.C) ∧ M.length ≤ M'.length ∧ (∀ k, k < i → M'[k]? = M[k]?) ∧ sz T' ≤ sz T + 2 * L.length
  | [], M, T, kvs, Sx, x4, _, h, hk, hs, _, _ => ⟨M, T, kvs, x4, rfl, h, hk, fun l hl => hs l (hl.elim (fun z => z) fun z => (nomatch z)), Nat.le_refl _, fun _ _ => rfl, by omega⟩
  | l :: L, M, T, kvs, Sx, x4, ho, h, hk, hs, hl, hz => by
    have hol := ho l List.mem_cons_self
    obtain ⟨M1, T1, f, e1, h1, g1, fr1, s1, m1, r1, v1⟩ := lthing_ok (l := l) h (by simp at hz; omega)
    have ef : f = leaf l := v1 (nuOf T1) (nuOf_ag T1)
    subst ef
    rw [lbk_lD hol] at e1
    have hk1 : M1[j]? = some (.dct kvs) := by rw [fr1.at_ j (some_lt hk) (.inr hj)]; exact hk
    have hl2 : kvs.length < 100000 := by simp at hl; omega
    have hk2 : (M1.set j (.dct (putN kvs (nk l) (.int (idx T1.C (leaf l) : Nat)))))[j]? = some (.dct (putN kvs (nk l) (.int (idx T1.C (leaf l) : Nat)))) := by simp [List.getElem?_set_self', hk1]
    have pl := putN_length kvs (nk l) (.int (idx T1.C (leaf l) : Nat))
    obtain ⟨M2, T2, kvs2, y, w1, w2, w3, w4, w5, w6, w7⟩ := alike_loop hj L (M1.set j (.dct (putN kvs (nk l) (.int (idx T1.C (leaf l) : Nat))))) T1 (putN kvs (nk l) (.int (idx T1.C (leaf l) : Nat))) (fun x => Sx x ∨ x = l) (some (lD l)) (fun x hx => ho x (List.mem_cons_of_mem _ hx)) (tab_set h1 hj) hk2 (fun x hx => by
      rw [putN_val]
      by_cases e : nk x = nk l
      · rw [if_pos e]
        rcases hx with hx | hx
        · obtain ⟨a0, a, b⟩ := hs x hx
          rw [nk_inj a0 hol e]
          exact ⟨hol, rfl, m1⟩
        · rw [hx]; exact ⟨hol, rfl, m1⟩
      · rw [if_neg e]
        rcases hx with hx | hx
        · obtain ⟨a0, a, b⟩ := hs x hx
          exact ⟨a0, by rw [a, g1.ic b], g1.mc b⟩
        · rw [hx] at e; exact absurd rfl e) (by simp at hl; omega) (by simp at hz; omega)
    refine ⟨M2, T2, kvs2, y, ?_, w2, w3, fun x hx => w4 x ?_, ?_, fun k hki => ?_, ?_⟩
    · refine Eq.trans ?_ w1
      have f0 := h.raw.ins
      have kk := (nk_key l).get
      have ko := kind_of_ok l.r l.k M
      have i1 : gIx (lD l) (.int 1) M = some (.str (nmS l.r l.k)) := ix1 _ _ _ _
      have kk : keyD (lD l) = some (nk l) := kk
      rw [List.map_cons]
      simp [forD, gNm, f0, i1, ko, e1, hk1, kk, hl2]
    · rcases hx with hx | hx
      · exact .inl (.inl hx)
      · rcases List.mem_cons.mp hx with hx | hx
        · exact .inl (.inr hx)
        · exact .inr hx
    · have := fr1.len
      simp at w5
      omega
    · rw [w6 k hki, List.getElem?_set_ne (by omega), fr1.at_ k (by have := tab_lt h; omega) (.inl (by omega))]
    · simp only [List.length_cons]
      omega
theorem leaf_isR (l : Lb) : (leaf l).isR = l.r := kt_isR _ _
theorem iLst_lst {ds : List D} {e : TF} {δ : List (Option D)} {M M1 : List MO} (h : e δ M = some (.lst ds, M1)) : iLstD e δ M = some (ds, M1) := by
  unfold iLstD
  rw [h]; rfl
open Classical in
theorem alike_ok {t s : PT.Tm} {q : Bool} (wt : WT t r) (ws : WT s q) (dt : dep t ≤ FU) (ds : dep s ≤ FU) (st : siz t ≤ 2000) (ss : siz s ≤ 2000) : ∃ M' b N, fn_alike [tD t, tD s] M = some (.bl b, M') ∧ Ext M M' ∧ (b = true ↔ ev N leaf t = ev N leaf s) := by
  have lt := nms_len t
  have ls := nms_len s
  obtain ⟨X, a1, a2⟩ := forms_ok [some (tD t), some (tD s), none, none, none] M
  have hi := tab_lt a2
  have hj : M.length + 4 < (M ++ X).length := hi
  have e2 : Ext (M ++ X) (M ++ X ++ [.dct []]) := .app _ _
  obtain ⟨M3, l1, b1, b2, b3, b4⟩ := names_ok t FU (M ++ X ++ [.dct []]) dt (by omega)
  obtain ⟨M4, l2, c1, c2, c3, c4⟩ := names_ok s FU M3 ds (by omega)
  have b2' := c3.get b2
  have h4 := tab_ext (tab_ext (tab_ext a2 e2) b3) c3
  have hk : M4[(M ++ X).length]? = some (.dct []) := c3.get (b3.get (by simp))
  obtain ⟨M5, T5, kvs, y, w1, w2, w3, w4, w5, w6, w7⟩ := alike_loop (x0 := some (tD t)) (x1 := some (tD s)) hj (nms t ++ nms s) M4 T0 [] (fun _ => False) none (fun l hl => by
    rcases List.mem_append.mp hl with hl | hl
    · exact wt_own t r wt l hl
    · exact wt_own s q ws l hl) h4 hk (fun l hl => hl.elim) (by simp; omega) (by simp [sz, T0]; omega)
  have he : EnvAt M5 (M ++ X).length T5 leaf (fun l => l ∈ nms t ++ nms s) := ⟨kvs, w3, fun l hl => by
    obtain ⟨_, x1, x2⟩ := w4 l (.inr hl)
    exact ⟨x1, x2, leaf_isR l⟩⟩
  have z5 : sz T5 ≤ 2 * (siz t + siz s) := by
    have : sz T0 = 0 := rfl
    rw [List.length_append] at w7
    omega
  obtain ⟨M6, T6, f6, f1, f2, f3, f4, f5, m6, r6, v6⟩ := form_ok (j := (M ++ X).length) t r FU M5 T5 wt dt w2 hj he (fun l hl => List.mem_append_left _ hl) (by omega)
  obtain ⟨M7, T7, f7, g1, g2, g3, g4, g5, m7, r7, v7⟩ := form_ok (j := (M ++ X).length) s q FU M6 T6 ws ds f2 hj (he.mono f4 f3 hj) (fun l hl => List.mem_append_right _ hl) (by omega)
  have ag := nuOf_ag T7
  have x6 : f6 = ev (nuOf T7) leaf t := v6 (nuOf T7) (ag.mono g3)
  have x7 : f7 = ev (nuOf T7) leaf s := v7 (nuOf T7) ag
  refine ⟨M7, decide (f6 = f7), nuOf T7, ?_, ?_, ?_⟩
  · have iq : gEq (.int (idx T6.C f6 : Nat)) (.int (idx T7.C f7 : Nat)) M7 = some (.bl (decide (f6 = f7))) := by
      rw [rule_cmp, ← g3.ic m6]
      congr 2
      exact decide_eq_decide.mpr (idx_eq (g3.mc m6))
    have ga : gAdd (.obj l1) (.obj l2) M4 = some (.lst ((nms t ++ nms s).map lD)) := by
      show (match M4[l1]?, M4[l2]? with
        | some (.lst xs), some (.lst ys) => if xs.length + ys.length ≤ 100000 then some (D.lst (xs ++ ys)) else none
        | _, _ => none) = _
      rw [b2', c2]
      dsimp only
      rw [if_pos (by rw [List.length_map, List.length_map]; omega), List.map_append]
    unfold fn_alike fb_alike
    rw [runF_eq]
    have sd : stD 5 [tD t, tD s] = [some (tD t), some (tD s), none, none, none] := rfl
    rw [sd, seq_nx (show _ = some (Out.nx [some (tD t), some (tD s), some (.obj M.length), none, none], M ++ X) by simp [a1]),
      seq_nx (show _ = some (Out.nx [some (tD t), some (tD s), some (.obj M.length), some (.obj (M ++ X).length), none], M ++ X ++ [.dct []]) by simp [eDctN]),
      seq_nx (show _ = some (Out.nx [some (tD t), some (tD s), some (.obj M.length), some (.obj (M ++ X).length), y], M5) by
        refine Eq.trans ?_ w1
        unfold sFor
        rw [iLst_lst (ds := (nms t ++ nms s).map lD) (M1 := M4) (by simp [-List.length_append, -List.append_assoc, b1, c1, ga])]
        rfl)]
    simp [-List.length_append, f1, g1, iq]
  · have q1 := b3.len
    have q2 := c3.len
    have q3 : (M ++ X ++ [MO.dct []]).length = M.length + X.length + 1 := by simp; omega
    have q4 := f4.len
    have q5 := g4.len
    refine ⟨by omega, fun k hk => ?_⟩
    rw [g4.at_ k (by omega) (.inl (by omega)), f4.at_ k (by omega) (.inl (by omega)), w6 k hk, c3.at_ k (by omega), b3.at_ k (by omega), e2.at_ k (by rw [List.length_append]; omega), List.getElem?_append_left hk]
  · rw [← x6, ← x7, decide_eq_true_eq]
end
end PM
/-! What the law draws: boxes, numbers, leaves, terms. -/
namespace PM
open PySem PySem.Spec PyProof.Rows L2 DL DR PT
def bx (x0 x1 x2 x3 : Int) : MO := .lst [.int x0, .int x1, .int x2, .int x3]
def BoxAt (M : List MO) (b : Nat) : Prop := ∃ x0 x1 x2 x3, M[b]? = some (bx x0 x1 x2 x3)
structure Br (b : Nat) (M M' : List MO) : Prop where
  len : M.length ≤ M'.length
  at_ : ∀ k, k < M.length → k ≠ b → M'[k]? = M[k]?
  box : BoxAt M' b
section
variable {M M1 M2 : List MO} {b : Nat} {m : Int}
theorem Br.trans (f : Br b M M1) (g : Br b M1 M2) : Br b M M2 := ⟨Nat.le_trans f.len g.len, fun k h n => (g.at_ k (Nat.lt_of_lt_of_le h f.len) n).trans (f.at_ k h n), g.box⟩
theorem Br.refl (h : BoxAt M b) : Br b M M := ⟨Nat.le_refl _, fun _ _ _ => rfl, h⟩
theorem Br.app (h : BoxAt M b) (X : List MO) : Br b M (M ++ X) := ⟨by simp, fun k h _ => by rw [List.getElem?_append_left h], by
  obtain ⟨x0, x1, x2, x3, e⟩ := h
  exact ⟨x0, x1, x2, x3, by rw [List.getElem?_append_left (some_lt e)]; exact e⟩⟩
theorem bx_l {x0 x1 x2 x3 : Int} (h : M[b]? = some (bx x0 x1 x2 x3)) : lstOf (.obj b) M = some [.int x0, .int x1, .int x2, .int x3] := by
  show (match M[b]? with
    | some (.lst ds) => some ds
    | _ => none) = _
  rw [h]; rfl
theorem bx0 {x0 x1 x2 x3 : Int} (h : M[b]? = some (bx x0 x1 x2 x3)) : gIx (.obj b) (.int 0) M = some (.int x0) := by
  show (lstOf (.obj b) M).bind (fun ds => atI ds ((0 : Nat) : Int)) = _
  rw [bx_l h]
  exact atI_nat (l := [D.int x0, .int x1, .int x2, .int x3]) (n := 0) rfl
theorem bx1 {x0 x1 x2 x3 : Int} (h : M[b]? = some (bx x0 x1 x2 x3)) : gIx (.obj b) (.int 1) M = some (.int x1) := by
  show (lstOf (.obj b) M).bind (fun ds => atI ds ((1 : Nat) : Int)) = _
  rw [bx_l h]
  exact atI_nat (l := [D.int x0, .int x1, .int x2, .int x3]) (n := 1) rfl
theorem bx2 {x0 x1 x2 x3 : Int} (h : M[b]? = some (bx x0 x1 x2 x3)) : gIx (.obj b) (.int 2) M = some (.int x2) := by
  show (lstOf (.obj b) M).bind (fun ds => atI ds ((2 : Nat) : Int)) = _
  rw [bx_l h]
  exact atI_nat (l := [D.int x0, .int x1, .int x2, .int x3]) (n := 2) rfl
theorem bx3 {x0 x1 x2 x3 : Int} (h : M[b]? = some (bx x0 x1 x2 x3)) : gIx (.obj b) (.int 3) M = some (.int x3) := by
  show (lstOf (.obj b) M).bind (fun ds => atI ds ((3 : Nat) : Int)) = _
  rw [bx_l h]
  exact atI_nat (l := [D.int x0, .int x1, .int x2, .int x3]) (n := 3) rfl
theorem gMul_r {x y : Int} (h : y.natAbs < 2 ^ 40) (Y : List MO) : gMul (.int x) (.int y) Y = some (.int (x * y)) := if_pos (show (decide (x.natAbs < 2 ^ 40) || decide (y.natAbs < 2 ^ 40)) = true from Bool.or_eq_true_iff.mpr (.inr (decide_eq_true h)))
theorem gMul_l {x y : Int} (h : x.natAbs < 2 ^ 40) (Y : List MO) : gMul (.int x) (.int y) Y = some (.int (x * y)) := if_pos (show (decide (x.natAbs < 2 ^ 40) || decide (y.natAbs < 2 ^ 40)) = true from Bool.or_eq_true_iff.mpr (.inl (decide_eq_true h)))
theorem bx_set {x0 x1 x2 x3 y0 y1 y2 y3 : Int} (h : M[b]? = some (bx x0 x1 x2 x3)) : (M.set b (bx y0 y1 y2 y3))[b]? = some (bx y0 y1 y2 y3) := by simp [List.getElem?_set_self', h]
theorem setL_ok {x0 x1 x2 x3 : Int} (h : M[b]? = some (bx x0 x1 x2 x3)) {fv fo : TF} {k : Nat} {v : Int} {δ : List (Option D)} (hv : fv δ M = some (.int v, M)) (ho : fo δ M = some (.obj b, M)) (hk : k < 4) : sSetL fv fo (eC (.int (k : Nat))) δ M = some (.nx δ, M.set b (.lst ([D.int x0, .int x1, .int x2, .int x3].set k (.int v)))) := by
  have e : ixN 4 (k : Int) = some k := by unfold ixN; rw [if_pos (by omega), if_pos (by omega)]; rfl
  unfold sSetL
  rw [hv]
  simp only [Option.bind_some, ho, eC_eq, h, bx, List.length_cons, List.length_nil]
  rw [show (0 + 1 + 1 + 1 + 1 : Nat) = 4 from rfl, e]
  rfl
theorem take_ok (hb : BoxAt M b) (hm : 0 < m) (hm2 : m ≤ 65536) : ∃ v M', fn__law_take [.obj b, .int m] M = some (.int v, M') ∧ 0 ≤ v ∧ v < m ∧ Br b M M' := by
  obtain ⟨x0, x1, x2, x3, h⟩ := hb
  have m0 : m ≠ 0 := by omega
  have m1 : m.natAbs < 1073741824 := by omega
  have h1 : (M.set b (bx x0 x1 (x2 + 1) x3))[b]? = some (bx x0 x1 (x2 + 1) x3) := bx_set h
  have s1 : sSetL (eOp gAdd (eOp gIx (eVar 0) (eC (.int 2))) (eC (.int 1))) (eVar 0) (eC (.int 2)) [some (.obj b), some (.int m), none] M = some (.nx [some (.obj b), some (.int m), none], M.set b (bx x0 x1 (x2 + 1) x3)) :=
    setL_ok (k := 2) (v := x2 + 1) h (by simp [bx2 h, gAdd]) (by simp) (by decide)
  have st : stD 3 [.obj b, .int m] = [some (.obj b), some (.int m), none] := rfl
  have gin : gIn true (.int x0) (.tup [.int 0, .int (-1)]) (M.set b (bx x0 x1 (x2 + 1) x3)) = some (.bl (!inV (.int x0) [.int 0, .int (-1)])) := rfl
  have fr : ∀ o, (∃ y0 y1 y2 y3, o = bx y0 y1 y2 y3) → Br b M (M.set b o) := fun o ⟨y0, y1, y2, y3, e⟩ => by
    subst e
    exact ⟨by simp, fun k _ n => by rw [List.getElem?_set_ne (Ne.symm n)], ⟨_, _, _, _, bx_set h⟩⟩
  unfold fn__law_take fb__law_take
  rw [runF_eq, st, seq_nx s1]
  by_cases c : x1 = 0 ∧ inV (.int x0) [.int 0, .int (-1)] = false
  · obtain ⟨c1, c2⟩ := c
    subst c1
    refine ⟨x0.fmod m, M.set b (bx (x0.fdiv m) 0 (x2 + 1) x3), ?_, ?_, ?_, fr _ ⟨_, _, _, _, rfl⟩⟩
    · have s2 : sSetL (eOp gDiv (eOp gIx (eVar 0) (eC (.int 0))) (eVar 1)) (eVar 0) (eC (.int 0)) [some (.obj b), some (.int m), some (.int (x0.fmod m))] (M.set b (bx x0 0 (x2 + 1) x3)) = some (.nx [some (.obj b), some (.int m), some (.int (x0.fmod m))], M.set b (bx (x0.fdiv m) 0 (x2 + 1) x3)) := by
        have := setL_ok (k := 0) (v := x0.fdiv m) (fv := eOp gDiv (eOp gIx (eVar 0) (eC (.int 0))) (eVar 1)) (fo := eVar 0) (δ := [some (.obj b), some (.int m), some (.int (x0.fmod m))]) h1 (by simp [bx0 h1, g2, m0, m1]) (by simp) (by decide)
        rw [List.set_set] at this
        exact this
      have q1 := bx1 h1
      have q0 := bx0 h1
      rw [seq_rt (show _ = some (Out.rt (.int (x0.fmod m)), M.set b (bx (x0.fdiv m) 0 (x2 + 1) x3)) by
        rw [sIf_eq]
        simp [q1, q0, gEq, gNeg, gin, c2, -sSeq_eq]
        rw [seq_nx (show _ = some (Out.nx [some (.obj b), some (.int m), some (.int (x0.fmod m))], M.set b (bx x0 0 (x2 + 1) x3)) by simp [q0, g2, m0])]
        rw [seq_nx s2]
        simp)]
      rfl
    · rw [fmod_emod _ (by omega)]; exact Int.emod_nonneg _ m0
    · rw [fmod_emod _ (by omega)]; exact Int.emod_lt_of_pos _ hm
  · have h2 : ∀ z, (M.set b (bx x0 x1 (x2 + 1) z))[b]? = some (bx x0 x1 (x2 + 1) z) := fun z => bx_set h
    have g1 : ∀ Y, gMul (.int x3) (.int 48271) Y = some (.int (x3 * 48271)) := fun Y => gMul_r (by decide) Y
    have g3 : ∀ Y, gMul (.int 7) (.int (x2 + 1)) Y = some (.int (7 * (x2 + 1))) := fun Y => gMul_l (by decide) Y
    have g4 : ∀ Y z, gMul (.int z) (.int 69621) Y = some (.int (z * 69621)) := fun Y z => gMul_r (by decide) Y
    have q1 := bx1 h1
    have q0 := bx0 h1
    have q2 := bx2 h1
    have q3 := bx3 h1
    refine ⟨((((x3 * 48271 + 7 * (x2 + 1) + 3).fmod 2147483647 * 69621).fmod 2147483629).fdiv 11).fmod m, M.set b (bx x0 x1 (x2 + 1) ((x3 * 48271 + 7 * (x2 + 1) + 3).fmod 2147483647)), ?_, ?_, ?_, fr _ ⟨_, _, _, _, rfl⟩⟩
    · have s3 : sSetL (eOp gMod (eOp gAdd (eOp gAdd (eOp gMul (eOp gIx (eVar 0) (eC (.int 3))) (eC (.int 48271))) (eOp gMul (eC (.int 7)) (eOp gIx (eVar 0) (eC (.int 2))))) (eC (.int 3))) (eC (.int 2147483647))) (eVar 0) (eC (.int 3)) [some (.obj b), some (.int m), none] (M.set b (bx x0 x1 (x2 + 1) x3)) = some (.nx [some (.obj b), some (.int m), none], M.set b (bx x0 x1 (x2 + 1) ((x3 * 48271 + 7 * (x2 + 1) + 3).fmod 2147483647))) := by
        have := setL_ok (k := 3) (v := (x3 * 48271 + 7 * (x2 + 1) + 3).fmod 2147483647) (fv := eOp gMod (eOp gAdd (eOp gAdd (eOp gMul (eOp gIx (eVar 0) (eC (.int 3))) (eC (.int 48271))) (eOp gMul (eC (.int 7)) (eOp gIx (eVar 0) (eC (.int 2))))) (eC (.int 3))) (eC (.int 2147483647))) (fo := eVar 0) (δ := [some (.obj b), some (.int m), none]) h1 (by
          have gm : ∀ x Y, gMod (.int x) (.int 2147483647) Y = some (.int (x.fmod 2147483647)) := fun x Y => rfl
          have ga : ∀ x y Y, gAdd (.int x) (.int y) Y = some (.int (x + y)) := fun x y Y => rfl
          simp only [eOp_eq, eVar_eq, eC_eq, List.getElem?_cons_zero, Option.bind_some, q3, q2, Option.map_some, g1, g3, ga, gm]) (by simp) (by decide)
        rw [List.set_set] at this
        exact this
      rw [seq_nx (show _ = some (Out.nx [some (.obj b), some (.int m), none], M.set b (bx x0 x1 (x2 + 1) x3)) by
        rw [sIf_eq]
        by_cases c1 : x1 = 0
        · have c2 : inV (.int x0) [.int 0, .int (-1)] = true := by
            cases z : inV (.int x0) [.int 0, .int (-1)] with
            | true => rfl
            | false => exact absurd ⟨c1, z⟩ c
          subst c1
          simp [q1, q0, gEq, gNeg, gin, c2, -sSeq_eq]
        · simp [q1, q0, gEq, c1, gNeg, gin, -sSeq_eq]), seq_nx s3]
      have q3' := bx3 (h2 ((x3 * 48271 + 7 * (x2 + 1) + 3).fmod 2147483647))
      have gm1 : ∀ x Y, gMod (.int x) (.int 2147483629) Y = some (.int (x.fmod 2147483629)) := fun x Y => rfl
      have gm2 : ∀ x Y, gMod (.int x) (.int m) Y = some (.int (x.fmod m)) := fun x Y => if_pos (decide_eq_true m0)
      have gd : ∀ x Y, gDiv (.int x) (.int 11) Y = some (.int (x.fdiv 11)) := fun x Y => rfl
      simp only [sRet_eq, eOp_eq, eVar_eq, eC_eq, List.getElem?_cons_zero, List.getElem?_cons_succ, Option.bind_some, q3', Option.map_some, g4, gm1, gm2, gd]
    · rw [fmod_emod _ (show 0 ≤ m by omega)]; exact Int.emod_nonneg _ m0
    · rw [fmod_emod _ (show 0 ≤ m by omega)]; exact Int.emod_lt_of_pos _ hm
end
end PM
/-! Numbers, leaves, terms drawn. -/
namespace PM
open PySem PySem.Spec PyProof.Rows L2 DL DR PT
section
variable {M M1 M2 : List MO} {b : Nat} {m : Int}
theorem lst_at {ds : List D} {k : Int} (h0 : 0 ≤ k) (h1 : k < ds.length) (M : List MO) : ∃ d, ds[k.toNat]? = some d ∧ gIx (.lst ds) (.int k) M = some d := by
  obtain ⟨j, rfl⟩ : ∃ j : Nat, k = j := ⟨k.toNat, by omega⟩
  have hk : j < ds.length := by omega
  exact ⟨ds[j], List.getElem?_eq_getElem hk, atI_nat (List.getElem?_eq_getElem hk)⟩
theorem lst_pick {ds : List D} {k : Int} (h0 : 0 ≤ k) (h1 : k < ds.length) (M : List MO) : ∃ d, d ∈ ds ∧ gIx (.lst ds) (.int k) M = some d := by
  obtain ⟨d, h, e⟩ := lst_at h0 h1 M
  exact ⟨d, List.mem_of_getElem? h, e⟩
theorem number_ok (hb : BoxAt M b) : ∃ n M', fn__law_number [.obj b] M = some (.int n, M') ∧ InR n ∧ Br b M M' := by
  obtain ⟨v1, M1, e1, a1, a2, r1⟩ := take_ok (m := 5) hb (by decide) (by decide)
  obtain ⟨v2, M2, e2, b1, b2, r2⟩ := take_ok (m := 65536) r1.box (by decide) (by decide)
  obtain ⟨v3, M3, e3, c1, c2, r3⟩ := take_ok (m := 6) r2.box (by decide) (by decide)
  obtain ⟨d, hd, ed⟩ := lst_pick (ds := [D.int 0, .int 1, .int (v1 - 1), .int 32767, .int (-32768), .int (v2 - 32768)]) c1 (by simpa using c2) M3
  have : ∃ n, d = .int n ∧ InR n := by
    unfold InR
    simp only [List.mem_cons, List.not_mem_nil, or_false] at hd
    rcases hd with rfl | rfl | rfl | rfl | rfl | rfl
    · exact ⟨_, rfl, by omega, by omega⟩
    · exact ⟨_, rfl, by omega, by omega⟩
    · exact ⟨_, rfl, by omega, by omega⟩
    · exact ⟨_, rfl, by omega, by omega⟩
    · exact ⟨_, rfl, by omega, by omega⟩
    · exact ⟨_, rfl, by omega, by omega⟩
  obtain ⟨n, rfl, hn⟩ := this
  refine ⟨n, M3, ?_, hn, (r1.trans r2).trans r3⟩
  have gs : ∀ x y Y, DL.gSub (.int x) (.int y) Y = some (.int (x - y)) := fun x y Y => rfl
  have gn : ∀ x Y, gNeg (.int x) Y = some (.int (-x)) := fun x Y => rfl
  unfold fn__law_number fb__law_number
  rw [runF_eq, show stD 2 [D.obj b] = [some (.obj b), none] from rfl]
  rw [seq_nx (show _ = some (Out.nx [some (.obj b), some (.lst [D.int 0, .int 1, .int (v1 - 1), .int 32767, .int (-32768), .int (v2 - 32768)])], M2) by
    simp only [sSet_eq, eLst_eq, aCons_eq, aNil_eq, eC_eq, eOp_eq, eFn_eq, eVar_eq, eUn_eq, List.getElem?_cons_zero, Option.bind_some, Option.map_some, List.length_cons, List.length_nil, e1, e2, gs, gn, Nat.zero_add, Nat.reduceAdd, if_true, Nat.reduceLeDiff, List.set_cons_succ, List.set_cons_zero])]
  simp only [sRet_eq, eOp_eq, eFn_eq, aCons_eq, aNil_eq, eC_eq, eVar_eq, List.getElem?_cons_zero, List.getElem?_cons_succ, Option.bind_some, Option.map_some, List.length_cons, List.length_nil, e3, ed, Nat.zero_add, Nat.reduceAdd, if_true]
theorem nm_add (r k : Bool) (M : List MO) : gAdd (.str (kst r)) (.str (Str.ofString (toString (bi k)))) M = some (.str (nmS r k)) := by cases r <;> cases k <;> kernel_rfl
theorem str_bi (k : Bool) (M : List MO) : gStr1 [.int (bi k)] M = some (.str (Str.ofString (toString (bi k)))) := by cases k <;> rfl
theorem bi_of {v : Int} (h0 : 0 ≤ v) (h1 : v < 2) : ∃ d, v = bi d := by
  by_cases h : v = 0
  · exact ⟨false, h⟩
  · exact ⟨true, by show v = 1; omega⟩
theorem leaf_ok (r : Bool) (hb : BoxAt M b) : ∃ t M', fn__law_leaf [.obj b, .str (kst r)] M = some (tD t, M') ∧ WT t r ∧ siz t = 1 ∧ dep t = 1 ∧ Br b M M' := by
  have name : ∀ M1, Br b M M1 → ∃ t M', (sRet (eTup (aCons (eFn 2 fn__law_take (aCons (eVar 0) (aCons (eC (.int 2)) aNil))) (aCons (eOp gAdd (eVar 1) (eCall gStr1 (aCons (eFn 2 fn__law_take (aCons (eVar 0) (aCons (eC (.int 2)) aNil))) aNil))) aNil))) [some (.obj b), some (.str (kst r))] M1) = some (.rt (tD t), M') ∧ WT t r ∧ siz t = 1 ∧ dep t = 1 ∧ Br b M M' := fun M1 r1 => by
    obtain ⟨v2, M2, e2, b1, b2, r2⟩ := take_ok (m := 2) r1.box (by decide) (by decide)
    obtain ⟨v3, M3, e3, c1, c2, r3⟩ := take_ok (m := 2) r2.box (by decide) (by decide)
    obtain ⟨d, rfl⟩ := bi_of b1 b2
    obtain ⟨k, rfl⟩ := bi_of c1 c2
    refine ⟨.name ⟨false, d, r, k⟩, M3, ?_, .name _ rfl, rfl, rfl, (r1.trans r2).trans r3⟩
    simp only [sRet_eq, eTup_eq, aCons_eq, aNil_eq, eFn_eq, eVar_eq, eC_eq, eOp_eq, eCall_eq, List.getElem?_cons_zero, List.getElem?_cons_succ, Option.bind_some, Option.map_some, List.length_cons, List.length_nil, e2, e3, str_bi, nm_add, Nat.zero_add, Nat.reduceAdd, if_true, Nat.reduceLeDiff]
    rfl
  unfold fn__law_leaf fb__law_leaf
  rw [runF_eq, show stD 2 [D.obj b, .str (kst r)] = [some (.obj b), some (.str (kst r))] from rfl]
  cases r with
  | true =>
    obtain ⟨t, M', e, w⟩ := name M (.refl hb)
    refine ⟨t, M', ?_, w⟩
    have kn : (kst true == Str.ofString "n") = false := by decide
    rw [seq_nx (show _ = some (Out.nx [some (.obj b), some (.str (kst true))], M) by simp [gEq, kn]), e]
    rfl
  | false =>
    have kn : (kst false == Str.ofString "n") = true := by decide
    obtain ⟨v1, M1, e1, a1, a2, r1⟩ := take_ok (m := 3) hb (by decide) (by decide)
    by_cases hv : v1 = 0
    · obtain ⟨n, M2, e2, hn, r2⟩ := number_ok r1.box
      refine ⟨.num n, M2, ?_, .num hn, rfl, rfl, r1.trans r2⟩
      rw [seq_rt (show _ = some (Out.rt (.int n), M2) by simp [gEq, kn, e1, hv, e2])]
      rfl
    · obtain ⟨t, M', e, w⟩ := name M1 r1
      refine ⟨t, M', ?_, w⟩
      rw [seq_nx (show _ = some (Out.nx [some (.obj b), some (.str (kst false))], M1) by simp [gEq, kn, e1, hv]), e]
      rfl
/-! kinds as texts -/
def kS (ks : List Bool) : Str := ⟨(ks.map fun b => if b = true then 114 else 110).toArray⟩
theorem kst_eq (b : Bool) : kst b = ⟨#[if b = true then 114 else 110]⟩ := by cases b <;> kernel_rfl
theorem strD_kS (ks : List Bool) : strD (kS ks) = ks.map fun b => .str (kst b) := by
  unfold strD kS
  rw [List.toList_toArray, List.map_map]
  refine List.map_congr_left fun b _ => ?_
  rw [kst_eq]; rfl
def B : Nat → Nat
  | 0 => 1
  | d + 1 => 1 + 3 * B d
theorem B_pos : ∀ d, 1 ≤ B d
  | 0 => Nat.le_refl _
  | d + 1 => by show 1 ≤ 1 + 3 * B d; omega
/-- ops with the kinds of their parts -/
def Pk (r : Bool) (P : List (Op × List Bool)) : Prop := ∀ p ∈ P, Sg p.1 p.2 r ∧ (p.1 = .same → p.2 = [false, false])
def PN : List (Op × List Bool) := [(.add, [false, false]), (.sub, [false, false]), (.mul, [false, false]), (.div, [false, false]), (.rest, [false, false]), (.less, [false, false]), (.same, [false, false]), (.pick, [false, false, false]), (.copy, [false]), (.idx, [true, false]), (.size, [true]), (.add, [false, false]), (.sub, [false, false])]
def PR (n : Nat) : List (Op × List Bool) := [(.put, [true, false, false]), (.many, [false, false]), (.keep, [true]), (.make, List.replicate n false), (.make, [false, false])]
theorem pk_n : Pk false PN := by
  intro p hp
  unfold PN at hp
  simp only [List.mem_cons, List.not_mem_nil, or_false] at hp
  rcases hp with rfl | rfl | rfl | rfl | rfl | rfl | rfl | rfl | rfl | rfl | rfl | rfl | rfl <;> refine ⟨?_, ?_⟩ <;> first | exact ⟨rfl, rfl⟩ | exact ⟨.inl rfl, rfl⟩ | (intro _; rfl) | (intro h; cases h)
theorem pk_r {n : Nat} (h : n ≤ 3) : Pk true (PR n) := by
  intro p hp
  unfold PR at hp
  simp only [List.mem_cons, List.not_mem_nil, or_false] at hp
  rcases hp with rfl | rfl | rfl | rfl | rfl
  · exact ⟨⟨rfl, rfl⟩, fun h => (nomatch h)⟩
  · exact ⟨⟨rfl, rfl⟩, fun h => (nomatch h)⟩
  · exact ⟨⟨rfl, rfl⟩, fun h => (nomatch h)⟩
  · exact ⟨⟨fun b hb => List.eq_of_mem_replicate hb, by simpa using h, rfl⟩, fun h => (nomatch h)⟩
  · exact ⟨⟨fun b hb => by simpa using hb, by decide, rfl⟩, fun h => (nomatch h)⟩
theorem nnn_cut {v : Int} (h0 : 0 ≤ v) (h1 : v < 4) (M : List MO) : gSl (.str (Str.ofString "nnn")) none (some v) M = some (.str (kS (List.replicate v.toNat false))) := by
  have : v = 0 ∨ v = 1 ∨ v = 2 ∨ v = 3 := by omega
  rcases this with rfl | rfl | rfl | rfl <;> kernel_rfl
/-- a term is drawn -/
def Drawn (b : Nat) (M : List MO) (r : Bool) (d s : Nat) (res : Option (D × List MO)) : Prop := ∃ t M', res = some (tD t, M') ∧ WT t r ∧ dep t ≤ d ∧ siz t ≤ s ∧ Br b M M'
theorem terms_loop {d n n0 : Nat} (ih : ∀ (r : Bool) (M : List MO), BoxAt M b → Drawn b M r (d + 1) (B d) (fn__law_term n [.obj b, .str (kst r), .int (d : Nat)] M)) {δ : List (Option D)} (h0 : δ[0]? = some (some (.obj b))) (h2 : δ[2]? = some (some (.int ((d + 1 : Nat) : Int)))) (h6 : 6 < δ.length) (hn : n0 ≠ b) :
    ∀ (ks : List Bool) (M : List MO) (acc : List D), BoxAt M b → M[n0]? = some (.lst acc) → acc.length + ks.length < 1000 →
    ∃ M' ts, lcD 6 n0 tTrue (eFn 3 (fn__law_term n) (aCons (eVar 0) (aCons (eVar 6) (aCons (eOp DL.gSub (eVar 2) (eC (.int 1))) aNil)))) δ (ks.map fun b => .str (kst b)) M = some M' ∧ M'[n0]? = some (.lst (acc ++ tDs ts)) ∧ WTs ts ks ∧ deps ts ≤ d + 1 ∧ sizs ts ≤ ks.length * B d ∧ M.length ≤ M'.length ∧ (∀ k, k < M.length → k ≠ b → k ≠ n0 → M'[k]? = M[k]?) ∧ BoxAt M' b
  | [], M, acc, hb, hm, _ => ⟨M, [], rfl, by rw [hm]; show _ = some (MO.lst (acc ++ [])); rw [List.append_nil], .nil, Nat.zero_le _, Nat.zero_le _, Nat.le_refl _, fun _ _ _ _ => rfl, hb⟩
  | r :: ks, M, acc, hb, hm, hl => by
    obtain ⟨t, M1, e1, w1, d1, s1, r1⟩ := ih r M hb
    have hm1 : M1[n0]? = some (.lst acc) := by rw [r1.at_ n0 (some_lt hm) hn]; exact hm
    have hm2 : (M1.set n0 (.lst (acc ++ [tD t])))[n0]? = some (.lst (acc ++ [tD t])) := by simp [List.getElem?_set_self', hm1]
    have hb2 : BoxAt (M1.set n0 (.lst (acc ++ [tD t]))) b := by
      obtain ⟨x0, x1, x2, x3, e⟩ := r1.box
      exact ⟨x0, x1, x2, x3, by rw [List.getElem?_set_ne hn]; exact e⟩
    have hl2 : acc.length < 100000 := by omega
    obtain ⟨M2, ts, e2, a1, a2, a3, a4, a5, a6, a7⟩ := terms_loop ih h0 h2 h6 hn ks _ _ hb2 hm2 (by simp at hl ⊢; omega)
    refine ⟨M2, t :: ts, ?_, by rw [a1, List.append_assoc]; rfl, .cons w1 a2, ?_, ?_, ?_, fun k k1 k2 k3 => ?_, a7⟩
    · refine Eq.trans ?_ e2
      have q0 : (δ.set 6 (some (.str (kst r))))[0]? = some (some (.obj b)) := by rw [List.getElem?_set_ne (by decide)]; exact h0
      have q2 : (δ.set 6 (some (.str (kst r))))[2]? = some (some (.int ((d + 1 : Nat) : Int))) := by rw [List.getElem?_set_ne (by decide)]; exact h2
      have q6 : (δ.set 6 (some (.str (kst r))))[6]? = some (some (.str (kst r))) := by rw [List.getElem?_set_self h6]
      have gs : DL.gSub (.int ((d + 1 : Nat) : Int)) (.int 1) M = some (.int (d : Nat)) := by
        show some (D.int _) = _
        congr 2
        omega
      rw [List.map_cons]
      simp only [lcD, tTrue, Option.bind_some, if_true, eFn_eq, aCons_eq, aNil_eq, eVar_eq, eOp_eq, eC_eq, q0, q2, q6, gs, Option.map_some, List.length_cons, List.length_nil, Nat.zero_add, Nat.reduceAdd, if_true, e1, hm1, hl2]
    · show max (dep t) (deps ts) ≤ d + 1
      omega
    · show siz t + sizs ts ≤ (ks.length + 1) * B d
      rw [Nat.add_mul]; omega
    · have := r1.len
      simp at a5
      omega
    · rw [a6 k (by rw [List.length_set]; have := r1.len; omega) k2 k3, List.getElem?_set_ne (Ne.symm k3), r1.at_ k k1 k2]
end
end PM
/-! Terms drawn. -/
namespace PM
open PySem PySem.Spec PyProof.Rows L2 DL DR PT
section
variable {M M1 M2 : List MO} {b : Nat} {m : Int}
def opsD (P : List (Op × List Bool)) : List D := P.map fun p => .str (ostr p.1)
def knsD (P : List (Op × List Bool)) : List D := P.map fun p => .str (kS p.2)
theorem kS_nn : Str.ofString "nn" = kS [false, false] := by kernel_rfl
theorem kS_nnn : Str.ofString "nnn" = kS [false, false, false] := by kernel_rfl
theorem kS_n : Str.ofString "n" = kS [false] := by kernel_rfl
theorem kS_rn : Str.ofString "rn" = kS [true, false] := by kernel_rfl
theorem kS_r : Str.ofString "r" = kS [true] := by kernel_rfl
theorem kS_rnn : Str.ofString "rnn" = kS [true, false, false] := by kernel_rfl
/-- behind the lists: one op is chosen, its parts are drawn -/
theorem term_tail {r : Bool} {d n : Nat} {P : List (Op × List Bool)} (hP : Pk r P) (hp0 : 0 < P.length) (hp : P.length ≤ 20) (ih : ∀ (r : Bool) (M : List MO), BoxAt M b → Drawn b M r (d + 1) (B d) (fn__law_term n [.obj b, .str (kst r), .int (d : Nat)] M)) (hb : BoxAt M b) :
    ∃ t M', sSeq (sSet 5 (eFn 2 fn__law_take (aCons (eVar 0) (aCons (eCall gLen (aCons (eVar 3) aNil)) aNil)))) (sRet (eOp gAdd (eTup (aCons (eOp gIx (eVar 3) (eVar 5)) aNil)) (eCall gTuple (aCons (eLc 6 (iStrD (eOp gIx (eVar 4) (eVar 5))) tTrue (eFn 3 (fn__law_term n) (aCons (eVar 0) (aCons (eVar 6) (aCons (eOp DL.gSub (eVar 2) (eC (.int 1))) aNil))))) aNil))))
      [some (.obj b), some (.str (kst r)), some (.int ((d + 1 : Nat) : Int)), some (.lst (opsD P)), some (.lst (knsD P)), none, none] M = some (.rt (tD t), M') ∧ WT t r ∧ dep t ≤ d + 2 ∧ siz t ≤ B (d + 1) ∧ Br b M M' := by
  obtain ⟨v, M1, e1, v0, v1, r1⟩ := take_ok (m := (P.length : Int)) hb (by omega) (by omega)
  obtain ⟨d1, g1, g2⟩ := lst_at (ds := opsD P) v0 (by unfold opsD; rw [List.length_map]; exact v1) M1
  obtain ⟨d2, g3, g4⟩ := lst_at (ds := knsD P) v0 (by unfold knsD; rw [List.length_map]; exact v1) M1
  have hv : v.toNat < P.length := by omega
  unfold opsD at g1
  unfold knsD at g3
  rw [List.getElem?_map, List.getElem?_eq_getElem hv] at g1 g3
  obtain ⟨sg, ss⟩ := hP _ (List.getElem_mem hv)
  generalize P[v.toNat] = p at g1 g3 sg ss
  obtain ⟨o, ks⟩ := p
  have g1 := Option.some.inj g1
  have g3 := Option.some.inj g3
  subst g1 g3
  have l3 : ks.length ≤ 3 := sg_len sg
  have hn0 : M1.length ≠ b := by
    obtain ⟨_, _, _, _, e⟩ := r1.box
    have := some_lt e
    omega
  have ba := (Br.app r1.box [MO.lst []])
  obtain ⟨M2, ts, w1, w2, w3, w4, w5, w6, w7, w8⟩ := terms_loop (d := d) (n := n) (n0 := M1.length) ih (δ := [some (.obj b), some (.str (kst r)), some (.int ((d + 1 : Nat) : Int)), some (.lst (opsD P)), some (.lst (knsD P)), some (.int v), none]) rfl rfl (by simp) hn0 ks (M1 ++ [MO.lst []]) [] ba.box (by simp) (by simp; omega)
  refine ⟨.op o ts, M2, ?_, .op sg ss w3, ?_, ?_, ⟨?_, fun k h1 h2 => ?_, w8⟩⟩
  · have gl : gLen [.lst (opsD P)] M = some (.int (P.length : Nat)) := by
      show some (D.int _) = _
      unfold opsD
      rw [List.length_map]
    rw [seq_nx (show _ = some (Out.nx [some (.obj b), some (.str (kst r)), some (.int ((d + 1 : Nat) : Int)), some (.lst (opsD P)), some (.lst (knsD P)), some (.int v), none], M1) by simp [gl, e1])]
    have ls : lstOf (.obj M1.length) M2 = some (tDs ts) := by
      show (match M2[M1.length]? with
        | some (.lst ds) => some ds
        | _ => none) = _
      rw [w2]; rfl
    have gt : gTuple [.obj M1.length] M2 = some (.tup (tDs ts)) := by
      show (lstOf (.obj M1.length) M2).map _ = _
      rw [ls]; rfl
    have lt : (tDs ts).length ≤ 3 := by rw [tDs_len, wts_len w3]; exact l3
    have ga : gAdd (.tup [.str (ostr o)]) (.tup (tDs ts)) M2 = some (.tup (.str (ostr o) :: tDs ts)) := if_pos (by simp; omega)
    simp only [sRet_eq, eOp_eq, eTup_eq, eCall_eq, aCons_eq, aNil_eq, eVar_eq, eLc, iStrD, List.getElem?_cons_zero, List.getElem?_cons_succ, Option.bind_some, Option.map_some, g2, g4, strD_kS, List.length_cons, List.length_nil, Nat.zero_add, Nat.reduceAdd, Nat.reduceLeDiff, if_true]
    rw [w1]
    simp only [Option.bind_some, Option.map_some, gt, ga]
    rfl
  · show 1 + deps ts ≤ d + 2
    omega
  · show 1 + sizs ts ≤ 1 + 3 * B d
    have : ks.length * B d ≤ 3 * B d := Nat.mul_le_mul_right _ l3
    omega
  · have := r1.len
    simp at w6
    omega
  · rw [w7 k (by have := r1.len; simp; omega) h2 (by have := r1.len; omega), List.getElem?_append_left (by have := r1.len; omega), r1.at_ k h1 h2]
theorem term_ok : ∀ (d : Nat) (n : Nat) (r : Bool) (M : List MO), d < n → d < 10 → BoxAt M b → Drawn b M r (d + 1) (B d) (fn__law_term n [.obj b, .str (kst r), .int (d : Nat)] M)
  | d, 0, r, M, hn, _, _ => absurd hn (Nat.not_lt_zero _)
  | d, n + 1, r, M, hn, hd, hb => by
    have leafy : ∀ M1, Br b M M1 → (∃ t M', fn__law_leaf [.obj b, .str (kst r)] M1 = some (tD t, M') ∧ WT t r ∧ dep t ≤ d + 1 ∧ siz t ≤ B d ∧ Br b M M') := fun M1 r1 => by
      obtain ⟨t, M', e, w, s, dd, r2⟩ := leaf_ok r r1.box
      have := B_pos d
      exact ⟨t, M', e, w, by omega, by omega, r1.trans r2⟩
    have st : stD 7 [.obj b, .str (kst r), .int (d : Nat)] = [some (.obj b), some (.str (kst r)), some (.int (d : Nat)), none, none, none, none] := rfl
    show Drawn b M r (d + 1) (B d) (runF 7 (fb__law_term (fn__law_term n)) [.obj b, .str (kst r), .int (d : Nat)] M)
    unfold fb__law_term
    rw [runF_eq, st]
    cases d with
    | zero =>
      obtain ⟨t, M', e, w⟩ := leafy M (.refl hb)
      refine ⟨t, M', ?_, w⟩
      rw [seq_rt (show _ = some (Out.rt (tD t), M') by simp [gEq, e])]
      rfl
    | succ d =>
      have ih : ∀ (r : Bool) (M : List MO), BoxAt M b → Drawn b M r (d + 1) (B d) (fn__law_term n [.obj b, .str (kst r), .int (d : Nat)] M) := fun r M hb => term_ok d n r M (by omega) (by omega) hb
      obtain ⟨v, M1, e1, v0, v1, r1⟩ := take_ok (m := 4) hb (by decide) (by decide)
      have dz : ((((d + 1 : Nat) : Int) == 0) = false) := beq_eq_false_iff_ne.mpr (by omega)
      have dz' : ¬ ((d : Int) + 1 = 0) := by omega
      by_cases hv : v = 0
      · obtain ⟨t, M', e, w⟩ := leafy M1 r1
        refine ⟨t, M', ?_, w⟩
        rw [seq_rt (show _ = some (Out.rt (tD t), M') by simp [gEq, dz', e1, hv, e])]
        rfl
      · have s0 : ∀ (A : TFS), sIf (eOr (eT (eOp gEq (eVar 2) (eC (.int 0)))) (eT (eOp gEq (eFn 2 fn__law_take (aCons (eVar 0) (aCons (eC (.int 4)) aNil))) (eC (.int 0))))) A sNil [some (.obj b), some (.str (kst r)), some (.int ((d + 1 : Nat) : Int)), none, none, none, none] M = some (.nx [some (.obj b), some (.str (kst r)), some (.int ((d + 1 : Nat) : Int)), none, none, none, none], M1) := fun A => by simp [gEq, dz', e1, hv]
        have s1 : eLst (aCons (eC (.str (Str.ofString "add"))) (aCons (eC (.str (Str.ofString "sub"))) (aCons (eC (.str (Str.ofString "mul"))) (aCons (eC (.str (Str.ofString "div"))) (aCons (eC (.str (Str.ofString "rest"))) (aCons (eC (.str (Str.ofString "less"))) (aCons (eC (.str (Str.ofString "same"))) (aCons (eC (.str (Str.ofString "pick"))) (aCons (eC (.str (Str.ofString "copy"))) (aCons (eC (.str (Str.ofString "at"))) (aCons (eC (.str (Str.ofString "size"))) (aCons (eC (.str (Str.ofString "add"))) (aCons (eC (.str (Str.ofString "sub"))) aNil))))))))))))) = fun δ M => some (.lst (opsD PN), M) := by funext δ M; rfl
        have s2 : eLst (aCons (eC (.str (Str.ofString "nn"))) (aCons (eC (.str (Str.ofString "nn"))) (aCons (eC (.str (Str.ofString "nn"))) (aCons (eC (.str (Str.ofString "nn"))) (aCons (eC (.str (Str.ofString "nn"))) (aCons (eC (.str (Str.ofString "nn"))) (aCons (eC (.str (Str.ofString "nn"))) (aCons (eC (.str (Str.ofString "nnn"))) (aCons (eC (.str (Str.ofString "n"))) (aCons (eC (.str (Str.ofString "rn"))) (aCons (eC (.str (Str.ofString "r"))) (aCons (eC (.str (Str.ofString "nn"))) (aCons (eC (.str (Str.ofString "nn"))) aNil))))))))))))) = fun δ M => some (.lst (knsD PN), M) := by
          rw [kS_nn, kS_nnn, kS_n, kS_rn, kS_r]
          funext δ M
          rfl
        rw [s1, s2]
        rw [seq_nx (s0 _)]
        rw [seq_nx (show _ = some (Out.nx [some (.obj b), some (.str (kst r)), some (.int ((d + 1 : Nat) : Int)), some (.lst (opsD PN)), none, none, none], M1) from rfl)]
        rw [seq_nx (show _ = some (Out.nx [some (.obj b), some (.str (kst r)), some (.int ((d + 1 : Nat) : Int)), some (.lst (opsD PN)), some (.lst (knsD PN)), none, none], M1) from rfl)]
        cases r with
        | false =>
          have kn : (kst false == Str.ofString "r") = false := by decide
          rw [seq_nx (show _ = some (Out.nx [some (.obj b), some (.str (kst false)), some (.int ((d + 1 : Nat) : Int)), some (.lst (opsD PN)), some (.lst (knsD PN)), none, none], M1) by simp [gEq, kn])]
          obtain ⟨t, M', e, w1, w2, w3, r2⟩ := term_tail pk_n (by decide) (by decide) ih r1.box
          exact ⟨t, M', by rw [e]; rfl, w1, w2, w3, r1.trans r2⟩
        | true =>
          have kn : (kst true == Str.ofString "r") = true := by decide
          obtain ⟨v, M2, e2, v0, v1, r2⟩ := take_ok (m := 4) r1.box (by decide) (by decide)
          have cut := nnn_cut v0 v1 M2
          rw [seq_nx (show _ = some (Out.nx [some (.obj b), some (.str (kst true)), some (.int ((d + 1 : Nat) : Int)), some (.lst (opsD (PR v.toNat))), some (.lst (knsD (PR v.toNat))), none, none], M2) by
            simp [gEq, kn, e2, cut, -sSeq_eq]
            rw [seq_nx (show _ = some (Out.nx [some (.obj b), some (.str (kst true)), some (.int ((d + 1 : Nat) : Int)), some (.lst (opsD (PR v.toNat))), some (.lst (knsD PN)), none, none], M1) from rfl)]
            simp [e2, cut]
            rw [kS_nn, kS_r, kS_rnn]
            rfl)]
          obtain ⟨t, M', e, w1, w2, w3, r3⟩ := term_tail (pk_r (n := v.toNat) (by omega)) (show 0 < 5 by decide) (show 5 ≤ 20 by decide) ih r2.box
          exact ⟨t, M', by rw [e]; rfl, w1, w2, w3, (r1.trans r2).trans r3⟩
end
end PM
/-! Terms near a term; edges. -/
namespace PM
open PySem PySem.Spec PyProof.Rows L2 DL DR PT
section
variable {M M1 M2 : List MO} {b : Nat} {m : Int} {r : Bool} {t s o : PT.Tm} {d n : Nat}
/-- fits: kind, depth, size -/
def Fit (t : PT.Tm) (r : Bool) (d n : Nat) : Prop := WT t r ∧ dep t ≤ d ∧ siz t ≤ n
theorem Fit.weak {d' n' : Nat} (h : Fit t r d n) (hd : d ≤ d') (hn : n ≤ n') : Fit t r d' n' := ⟨h.1, by have := h.2.1; omega, by have := h.2.2; omega⟩
theorem fit_num {x : Int} (h : InR x) : Fit (.num x) false 1 1 := ⟨.num h, Nat.le_refl _, Nat.le_refl _⟩
theorem fit1 {o : Op} {q : Bool} {a : PT.Tm} (sg : Sg o [q] r) (hs : o ≠ .same) (ha : Fit a q d n) : Fit (.op o [a]) r (d + 1) (n + 1) := by
  refine ⟨.op sg (fun z => absurd z hs) (.cons ha.1 .nil), ?_, ?_⟩
  · show 1 + max (dep a) 0 ≤ d + 1
    have := ha.2.1; omega
  · show 1 + (siz a + 0) ≤ n + 1
    have := ha.2.2; omega
theorem fit2 {o : Op} {q p : Bool} {a c : PT.Tm} {n' : Nat} (sg : Sg o [q, p] r) (hs : o = .same → q = false ∧ p = false) (ha : Fit a q d n) (hc : Fit c p d n') : Fit (.op o [a, c]) r (d + 1) (n + n' + 1) := by
  refine ⟨.op sg (fun z => by obtain ⟨rfl, rfl⟩ := hs z; rfl) (.cons ha.1 (.cons hc.1 .nil)), ?_, ?_⟩
  · show 1 + max (dep a) (max (dep c) 0) ≤ d + 1
    have := ha.2.1
    have := hc.2.1
    omega
  · show 1 + (siz a + (siz c + 0)) ≤ n + n' + 1
    have := ha.2.2
    have := hc.2.2
    omega
theorem fit3 {o : Op} {q p u : Bool} {a c e : PT.Tm} {n' n'' : Nat} (sg : Sg o [q, p, u] r) (hs : o ≠ .same) (ha : Fit a q d n) (hc : Fit c p d n') (he : Fit e u d n'') : Fit (.op o [a, c, e]) r (d + 1) (n + n' + n'' + 1) := by
  refine ⟨.op sg (fun z => absurd z hs) (.cons ha.1 (.cons hc.1 (.cons he.1 .nil))), ?_, ?_⟩
  · show 1 + max (dep a) (max (dep c) (max (dep e) 0)) ≤ d + 1
    have := ha.2.1
    have := hc.2.1
    have := he.2.1
    omega
  · show 1 + (siz a + (siz c + (siz e + 0))) ≤ n + n' + n'' + 1
    have := ha.2.2
    have := hc.2.2
    have := he.2.2
    omega
theorem list_pick {ts : List PT.Tm} {k : Int} (h0 : 0 ≤ k) (h1 : k < ts.length) (M : List MO) : ∃ t, t ∈ ts ∧ gIx (.lst (ts.map tD)) (.int k) M = some (tD t) := by
  obtain ⟨d, hd, e⟩ := lst_pick (ds := ts.map tD) h0 (by rw [List.length_map]; exact h1) M
  obtain ⟨t, ht, rfl⟩ := List.mem_map.mp hd
  exact ⟨t, ht, e⟩
def nearR (t o : PT.Tm) : List PT.Tm := [.op .keep [t], .op .put [t, o, o], t, .op .many [.num 2, o], .op .keep [.op .keep [t]]]
def nearN (t o : PT.Tm) : List PT.Tm := [.op .add [t, .num 0], .op .sub [.op .add [t, o], o], .op .copy [t], .op .pick [o, t, t], .op .mul [t, .num 1], .op .div [t, .num 1], .op .rest [t, .num 0], .op .idx [.op .make [o, t], .num 1],
  .op .idx [.op .many [.num 3, t], .num 2], .op .sub [.num 0, .op .sub [.num 0, t]], .op .add [t, .num 1], .op .mul [t, .num 2], .op .sub [.op .mul [.num 3, t], .op .add [t, t]], .op .pick [.num 0, o, t], .op .pick [.num 5, t, o]]
theorem inr_small {x : Int} (h0 : -100 ≤ x) (h1 : x ≤ 100) : InR x := ⟨by omega, by omega⟩
theorem mk2 {a c : PT.Tm} {n' : Nat} (ha : Fit a false d n) (hc : Fit c false d n') : Fit (.op .make [a, c]) true (d + 1) (n + n' + 1) := fit2 ⟨fun b hb => by simpa using hb, by decide, rfl⟩ (fun z => (nomatch z)) ha hc
theorem nearR_fit (ht : Fit t true d n) (ho : Fit o false 1 1) (hd : 1 ≤ d) : ∀ s ∈ nearR t o, Fit s true (d + 2) (3 * n + 10) := by
  intro s hs
  have o' := ho.weak hd (Nat.le_refl 1)
  unfold nearR at hs
  simp only [List.mem_cons, List.not_mem_nil, or_false] at hs
  rcases hs with rfl | rfl | rfl | rfl | rfl
  · refine Fit.weak (fit1 ⟨rfl, rfl⟩ (fun z => (nomatch z)) ht) ?_ ?_ <;> omega
  · refine Fit.weak (fit3 ⟨rfl, rfl⟩ (fun z => (nomatch z)) ht o' o') ?_ ?_ <;> omega
  · refine Fit.weak ht ?_ ?_ <;> omega
  · refine Fit.weak (fit2 ⟨rfl, rfl⟩ (fun z => (nomatch z)) (fit_num (inr_small (by decide) (by decide))) ho) ?_ ?_ <;> omega
  · refine Fit.weak (fit1 ⟨rfl, rfl⟩ (fun z => (nomatch z)) (fit1 ⟨rfl, rfl⟩ (fun z => (nomatch z)) ht)) ?_ ?_ <;> omega
theorem nearN_fit (ht : Fit t false d n) (ho : Fit o false 1 1) (hd : 1 ≤ d) : ∀ s ∈ nearN t o, Fit s false (d + 2) (3 * n + 10) := by
  intro s hs
  have o' := ho.weak hd (Nat.le_refl 1)
  have num : ∀ {x : Int}, -100 ≤ x → x ≤ 100 → Fit (.num x) false d 1 := fun h0 h1 => (fit_num (inr_small h0 h1)).weak hd (Nat.le_refl 1)
  have num' : ∀ {x : Int}, -100 ≤ x → x ≤ 100 → Fit (.num x) false (d + 1) 1 := fun h0 h1 => (num h0 h1).weak (by omega) (Nat.le_refl 1)
  have o'' := o'.weak (Nat.le_succ d) (Nat.le_refl 1)
  have ns : ∀ {o : Op}, o = .same → False = True → False := fun _ z => by rw [z]; trivial
  unfold nearN at hs
  simp only [List.mem_cons, List.not_mem_nil, or_false] at hs
  rcases hs with rfl | rfl | rfl | rfl | rfl | rfl | rfl | rfl | rfl | rfl | rfl | rfl | rfl | rfl | rfl
  · refine Fit.weak (fit2 ⟨rfl, rfl⟩ (fun z => (nomatch z)) ht (num (by decide) (by decide))) ?_ ?_ <;> omega
  · refine Fit.weak (fit2 ⟨rfl, rfl⟩ (fun z => (nomatch z)) (fit2 (r := false) ⟨rfl, rfl⟩ (fun z => (nomatch z)) ht o') o'') ?_ ?_ <;> omega
  · refine Fit.weak (fit1 ⟨rfl, rfl⟩ (fun z => (nomatch z)) ht) ?_ ?_ <;> omega
  · refine Fit.weak (fit3 ⟨rfl, rfl⟩ (fun z => (nomatch z)) o' ht ht) ?_ ?_ <;> omega
  · refine Fit.weak (fit2 ⟨rfl, rfl⟩ (fun z => (nomatch z)) ht (num (by decide) (by decide))) ?_ ?_ <;> omega
  · refine Fit.weak (fit2 ⟨rfl, rfl⟩ (fun z => (nomatch z)) ht (num (by decide) (by decide))) ?_ ?_ <;> omega
  · refine Fit.weak (fit2 ⟨rfl, rfl⟩ (fun z => (nomatch z)) ht (num (by decide) (by decide))) ?_ ?_ <;> omega
  · refine Fit.weak (fit2 ⟨rfl, rfl⟩ (fun z => (nomatch z)) (mk2 o' ht) (num' (by decide) (by decide))) ?_ ?_ <;> omega
  · refine Fit.weak (fit2 ⟨rfl, rfl⟩ (fun z => (nomatch z)) (fit2 (r := true) ⟨rfl, rfl⟩ (fun z => (nomatch z)) (num (by decide) (by decide)) ht) (num' (by decide) (by decide))) ?_ ?_ <;> omega
  · refine Fit.weak (fit2 ⟨rfl, rfl⟩ (fun z => (nomatch z)) (num' (by decide) (by decide)) (fit2 (r := false) ⟨rfl, rfl⟩ (fun z => (nomatch z)) (num (by decide) (by decide)) ht)) ?_ ?_ <;> omega
  · refine Fit.weak (fit2 ⟨rfl, rfl⟩ (fun z => (nomatch z)) ht (num (by decide) (by decide))) ?_ ?_ <;> omega
  · refine Fit.weak (fit2 ⟨rfl, rfl⟩ (fun z => (nomatch z)) ht (num (by decide) (by decide))) ?_ ?_ <;> omega
  · refine Fit.weak (fit2 ⟨rfl, rfl⟩ (fun z => (nomatch z)) (fit2 (r := false) ⟨rfl, rfl⟩ (fun z => (nomatch z)) (num (by decide) (by decide)) ht) (fit2 (r := false) ⟨rfl, rfl⟩ (fun z => (nomatch z)) ht ht)) ?_ ?_ <;> omega
  · refine Fit.weak (fit3 ⟨rfl, rfl⟩ (fun z => (nomatch z)) (num (by decide) (by decide)) o' ht) ?_ ?_ <;> omega
  · refine Fit.weak (fit3 ⟨rfl, rfl⟩ (fun z => (nomatch z)) (num (by decide) (by decide)) ht o') ?_ ?_ <;> omega
theorem in_swap (o : Op) (M : List MO) : gIn false (.str (ostr o)) (.tup [.str (Str.ofString "add"), .str (Str.ofString "sub"), .str (Str.ofString "mul"), .str (Str.ofString "same"), .str (Str.ofString "less")]) M = some (.bl (decide (o = .add ∨ o = .sub ∨ o = .mul ∨ o = .same ∨ o = .less))) := by cases o <;> rfl
theorem near_ok (hb : BoxAt M b) (ht : Fit t r d n) (hd : 1 ≤ d) : ∃ s M', fn__law_near [.obj b, tD t, .str (kst r)] M = some (tD s, M') ∧ Fit s r (d + 2) (3 * n + 10) ∧ Br b M M' := by
  obtain ⟨o, M1, e1, wo, so, do', r1⟩ := leaf_ok false hb
  have fo : Fit o false 1 1 := ⟨wo, by omega, by omega⟩
  have st : stD 6 [.obj b, tD t, .str (kst r)] = [some (.obj b), some (tD t), some (.str (kst r)), none, none, none] := rfl
  have e1 : fn__law_leaf [.obj b, .str (Str.ofString "n")] M = some (tD o, M1) := e1
  unfold fn__law_near fb__law_near
  rw [runF_eq, st, seq_nx (show _ = some (Out.nx [some (.obj b), some (tD t), some (.str (kst r)), some (tD o), none, none], M1) by simp [e1])]
  cases r with
  | true =>
    have kn : (kst true == Str.ofString "r") = true := by decide
    obtain ⟨v, M2, e2, v0, v1, r2⟩ := take_ok (m := 5) r1.box (by decide) (by decide)
    obtain ⟨s, hs, es⟩ := list_pick (ts := nearR t o) v0 v1 M2
    refine ⟨s, M2, ?_, nearR_fit ht fo hd s hs, r1.trans r2⟩
    rw [seq_rt (show _ = some (Out.rt (tD s), M2) by
      simp only [sIf_eq, eT_eq, eOp_eq, eVar_eq, eC_eq, List.getElem?_cons_zero, List.getElem?_cons_succ, Option.bind_some, Option.map_some, gEq, kn, if_true]
      rw [seq_nx (show _ = some (Out.nx [some (.obj b), some (tD t), some (.str (kst true)), some (tD o), some (.lst ((nearR t o).map tD)), none], M1) from rfl)]
      simp [e2, es])]
    rfl
  | false =>
    have kn : (kst false == Str.ofString "r") = false := by decide
    obtain ⟨v, M2, e2, v0, v1, r2⟩ := take_ok (m := 15) r1.box (by decide) (by decide)
    obtain ⟨s, hs, es⟩ := list_pick (ts := nearN t o) v0 v1 M2
    have fs := nearN_fit ht fo hd s hs
    rw [seq_nx (show _ = some (Out.nx [some (.obj b), some (tD t), some (.str (kst false)), some (tD o), none, none], M1) by simp [gEq, kn]),
      seq_nx (show _ = some (Out.nx [some (.obj b), some (tD t), some (.str (kst false)), some (tD o), some (.lst (((nearN t o).take 4).map tD)), none], M1) from rfl),
      seq_nx (show _ = some (Out.nx [some (.obj b), some (tD t), some (.str (kst false)), some (tD o), some (.lst (((nearN t o).take 8).map tD)), none], M1) from rfl),
      seq_nx (show _ = some (Out.nx [some (.obj b), some (tD t), some (.str (kst false)), some (tD o), some (.lst (((nearN t o).take 12).map tD)), none], M1) from rfl),
      seq_nx (show _ = some (Out.nx [some (.obj b), some (tD t), some (.str (kst false)), some (tD o), some (.lst ((nearN t o).map tD)), none], M1) from rfl),
      seq_nx (show _ = some (Out.nx [some (.obj b), some (tD t), some (.str (kst false)), some (tD o), some (.lst ((nearN t o).map tD)), some (tD s)], M2) by simp [e2, es])]
    have plain : (∀ A : TFT, (eAnd (eT (eUn (gIsi "tuple") (eVar 1))) (eAnd (eT (eOp (gIn false) (eOp gIx (eVar 1) (eC (.int 0))) (eTup (aCons (eC (.str (Str.ofString "add"))) (aCons (eC (.str (Str.ofString "sub"))) (aCons (eC (.str (Str.ofString "mul"))) (aCons (eC (.str (Str.ofString "same"))) (aCons (eC (.str (Str.ofString "less"))) aNil)))))))) A)) [some (.obj b), some (tD t), some (.str (kst false)), some (tD o), some (.lst ((nearN t o).map tD)), some (tD s)] M2 = some (false, M2)) ∨ ∃ op x y, t = .op op [x, y] ∧ (op = .add ∨ op = .sub ∨ op = .mul ∨ op = .same ∨ op = .less) := by
      cases t with
      | num x => exact .inl fun A => rfl
      | name l => exact .inl fun A => rfl
      | op op ts =>
        by_cases h : op = .add ∨ op = .sub ∨ op = .mul ∨ op = .same ∨ op = .less
        · have w := ht.1
          cases w with
          | op sg hs ws =>
            rename_i ks
            have hk : ks = [false, false] := by
              rcases h with rfl | rfl | rfl | rfl | rfl
              · exact sg.1
              · exact sg.1
              · exact sg.1
              · exact hs rfl
              · exact sg.1
            subst hk
            cases ws with
            | cons w1 w2 =>
              cases w2 with
              | cons w3 w4 =>
                cases w4
                exact .inr ⟨op, _, _, rfl, h⟩
        · refine .inl fun A => ?_
          have g := in_swap op M2
          rw [decide_eq_false h] at g
          have i1 : gIsi "tuple" (tD (.op op ts)) M2 = some (.bl true) := rfl
          have i0 : gIx (tD (.op op ts)) (.int 0) M2 = some (.str (ostr op)) := ix0 _ _ _
          simp [i1, i0, g]
    rcases plain with plain | ⟨op, x, y, rfl, hop⟩
    · refine ⟨s, M2, ?_, fs, r1.trans r2⟩
      rw [seq_nx (show _ = some (Out.nx [some (.obj b), some (tD t), some (.str (kst false)), some (tD o), some (.lst ((nearN t o).map tD)), some (tD s)], M2) by rw [sIf_eq, plain]; rfl)]
      rfl
    · obtain ⟨u, M3, e3, u0, u1, r3⟩ := take_ok (m := 2) r2.box (by decide) (by decide)
      have g := in_swap op M2
      rw [decide_eq_true hop] at g
      have td : tD (.op op [x, y]) = .tup [.str (ostr op), tD x, tD y] := rfl
      have i1 : gIsi "tuple" (.tup [.str (ostr op), tD x, tD y]) M2 = some (.bl true) := rfl
      by_cases hu : u = 0
      · refine ⟨.op op [y, x], M3, ?_, ?_, (r1.trans r2).trans r3⟩
        · rw [td, seq_rt (show _ = some (Out.rt (.tup [.str (ostr op), tD y, tD x]), M3) by simp [i1, g, e3, hu, gEq])]
          rfl
        · obtain ⟨w, hd1, hn1⟩ := ht
          cases w with
          | op sg hs ws =>
            rename_i ks
            have hk : ks = [false, false] := by
              rcases hop with rfl | rfl | rfl | rfl | rfl
              · exact sg.1
              · exact sg.1
              · exact sg.1
              · exact hs rfl
              · exact sg.1
            subst hk
            cases ws with
            | cons w1 w2 =>
              cases w2 with
              | cons w3 w4 =>
                refine ⟨.op sg hs (.cons w3 (.cons w1 .nil)), ?_, ?_⟩
                · have hd1 : 1 + max (dep x) (max (dep y) 0) ≤ d := hd1
                  show 1 + max (dep y) (max (dep x) 0) ≤ d + 2
                  omega
                · have hn1 : 1 + (siz x + (siz y + 0)) ≤ n := hn1
                  show 1 + (siz y + (siz x + 0)) ≤ 3 * n + 10
                  omega
      · refine ⟨s, M3, ?_, fs, (r1.trans r2).trans r3⟩
        rw [seq_nx (show _ = some (Out.nx [some (.obj b), some (tD (.op op [x, y])), some (.str (kst false)), some (tD o), some (.lst ((nearN (.op op [x, y]) o).map tD)), some (tD s)], M3) by
          rw [td]
          simp [i1, g, e3, hu, gEq])]
        rfl
end
end PM
/-! Edges, sizes, pairs. -/
namespace PM
open PySem PySem.Spec PyProof.Rows L2 DL DR PT
section
variable {M M1 M2 : List MO} {b : Nat} {m : Int} {r : Bool} {t s o : PT.Tm} {d n : Nat}
def edgeN (t o w : PT.Tm) (p x : Int) : List PT.Tm := [.op .div [t, .num 0], .op .div [t, .num 1], .op .rest [t, .num 0], .op .rest [t, .num 1], .op .pick [.num p, o, t], .op .idx [.op .many [.num x, t], .num p], .op .idx [.op .make [o, t], .num p], .op .idx [.op .put [w, o, t], o]]
/-- two terms, both of a kind -/
def Two (b : Nat) (M : List MO) (d n : Nat) (res : Option (D × List MO)) : Prop := ∃ s1 s2 q1 q2 M', res = some (.tup [tD s1, tD s2], M') ∧ Fit s1 q1 d n ∧ Fit s2 q2 d n ∧ Br b M M'
theorem int_pick {ds : List Int} {k : Int} (h0 : 0 ≤ k) (h1 : k < ds.length) (M : List MO) : ∃ x, x ∈ ds ∧ gIx (.lst (ds.map D.int)) (.int k) M = some (.int x) := by
  obtain ⟨d, hd, e⟩ := lst_pick (ds := ds.map D.int) h0 (by rw [List.length_map]; exact h1) M
  obtain ⟨t, ht, rfl⟩ := List.mem_map.mp hd
  exact ⟨t, ht, e⟩
theorem edge_ok (hb : BoxAt M b) (ht : Fit t r d n) (hd : 1 ≤ d) : Two b M (d + 3) (3 * n + 20) (fn__law_edge [.obj b, tD t, .str (kst r)] M) := by
  obtain ⟨o, M1, e1, wo, so, do', r1⟩ := leaf_ok false hb
  have fo : Fit o false 1 1 := ⟨wo, by omega, by omega⟩
  have e1 : fn__law_leaf [.obj b, .str (Str.ofString "n")] M = some (tD o, M1) := e1
  obtain ⟨v2, M2, e2, a0, a1, r2⟩ := take_ok (m := 6) r1.box (by decide) (by decide)
  obtain ⟨p, hp, ep⟩ := int_pick (ds := [-1, 0, 1, 2, 39, 40]) a0 (by simpa using a1) M2
  have ip : InR p := by
    simp only [List.mem_cons, List.not_mem_nil, or_false] at hp
    unfold InR
    omega
  obtain ⟨w0, M3, e3, ww, sw, dw, r3⟩ := leaf_ok true r2.box
  have e3 : fn__law_leaf [.obj b, .str (Str.ofString "r")] M2 = some (tD w0, M3) := e3
  obtain ⟨v4, M4, e4, b0, b1, r4⟩ := take_ok (m := 2) r3.box (by decide) (by decide)
  obtain ⟨w, hw, ew⟩ := list_pick (ts := [.op .make [o, .num 7], w0]) b0 (by simpa using b1) M4
  have num1 : ∀ {x : Int}, InR x → Fit (.num x) false 1 1 := fun h => fit_num h
  have fw : Fit w true 2 3 := by
    simp only [List.mem_cons, List.not_mem_nil, or_false] at hw
    rcases hw with rfl | rfl
    · exact mk2 fo (num1 (inr_small (by decide) (by decide)))
    · exact ⟨ww, by omega, by omega⟩
  have ew : gIx (.lst [tD (.op .make [o, .num 7]), tD w0]) (.int v4) M4 = some (tD w) := ew
  have ep : gIx (.lst [.int (-1), .int 0, .int 1, .int 2, .int 39, .int 40]) (.int v2) M2 = some (.int p) := ep
  have r14 := ((r1.trans r2).trans r3).trans r4
  have st : stD 8 [.obj b, tD t, .str (kst r)] = [some (.obj b), some (tD t), some (.str (kst r)), none, none, none, none, none] := rfl
  have gn : ∀ x Y, gNeg (.int x) Y = some (.int (-x)) := fun x Y => rfl
  unfold fn__law_edge fb__law_edge
  rw [runF_eq, st, seq_nx (show _ = some (Out.nx [some (.obj b), some (tD t), some (.str (kst r)), some (tD o), none, none, none, none], M1) by simp [e1]),
    seq_nx (show _ = some (Out.nx [some (.obj b), some (tD t), some (.str (kst r)), some (tD o), some (.int p), none, none, none], M2) by simp [gn, e2, ep]),
    seq_nx (show _ = some (Out.nx [some (.obj b), some (tD t), some (.str (kst r)), some (tD o), some (.int p), some (tD w), none, none], M4) by
      have tm : tD (.op .make [o, .num 7]) = .tup [.str (Str.ofString "make"), tD o, .int 7] := rfl
      rw [tm] at ew
      simp [e3, e4, ew])]
  cases r with
  | true =>
    have kn : (kst true == Str.ofString "r") = true := by decide
    obtain ⟨v5, M5, e5, c0, c1, r5⟩ := take_ok (m := 2) r4.box (by decide) (by decide)
    obtain ⟨s1, hs1, es1⟩ := list_pick (ts := [w, t]) c0 (by simpa using c1) M5
    have es1 : gIx (.lst [tD w, tD t]) (.int v5) M5 = some (tD s1) := es1
    have fs1 : Fit s1 true (d + 3) (3 * n + 20) := by
      simp only [List.mem_cons, List.not_mem_nil, or_false] at hs1
      rcases hs1 with rfl | rfl
      · refine Fit.weak fw ?_ ?_ <;> omega
      · refine Fit.weak ht ?_ ?_ <;> omega
    have num2 : Fit (.num p) false 2 1 := (num1 ip).weak (by decide) (by decide)
    have fs2 : Fit (.op .put [w, .num p, o]) true (d + 3) (3 * n + 20) := by
      refine Fit.weak (fit3 ⟨rfl, rfl⟩ (fun z => (nomatch z)) fw num2 (fo.weak (show 1 ≤ 2 by decide) (Nat.le_refl 1))) ?_ ?_ <;> omega
    refine ⟨s1, .op .put [w, .num p, o], true, true, M5, ?_, fs1, fs2, r14.trans r5⟩
    rw [seq_rt (show _ = some (Out.rt (.tup [tD s1, tD (.op .put [w, .num p, o])]), M5) by
      simp [gEq, kn, e5, es1]
      rfl)]
    rfl
  | false =>
    have kn : (kst false == Str.ofString "r") = false := by decide
    obtain ⟨v5, M5, e5, c0, c1, r5⟩ := take_ok (m := 4) r4.box (by decide) (by decide)
    obtain ⟨x, hx, ex⟩ := int_pick (ds := [2, 40, 41, -3]) c0 (by simpa using c1) M5
    have ex : gIx (.lst [.int 2, .int 40, .int 41, .int (-3)]) (.int v5) M5 = some (.int x) := ex
    have ix : InR x := by
      simp only [List.mem_cons, List.not_mem_nil, or_false] at hx
      unfold InR
      omega
    obtain ⟨v6, M6, e6, d0, d1, r6⟩ := take_ok (m := 10) r5.box (by decide) (by decide)
    rw [seq_nx (show _ = some (Out.nx [some (.obj b), some (tD t), some (.str (kst false)), some (tD o), some (.int p), some (tD w), none, none], M4) by simp [gEq, kn]),
      seq_nx (show _ = some (Out.nx [some (.obj b), some (tD t), some (.str (kst false)), some (tD o), some (.int p), some (tD w), some (.lst (((edgeN t o w p x).take 5).map tD)), none], M4) from rfl),
      seq_nx (show _ = some (Out.nx [some (.obj b), some (tD t), some (.str (kst false)), some (tD o), some (.int p), some (tD w), some (.lst (((edgeN t o w p x).take 6).map tD)), none], M5) by
        have ga : ∀ u, gAdd (.lst (((edgeN t o w p x).take 5).map tD)) (.lst [u]) M5 = some (.lst (((edgeN t o w p x).take 5).map tD ++ [u])) := fun u => rfl
        simp only [sSet_eq, eOp_eq, eLst_eq, eTup_eq, aCons_eq, aNil_eq, eC_eq, eVar_eq, eUn_eq, eFn_eq, List.getElem?_cons_zero, List.getElem?_cons_succ, Option.bind_some, Option.map_some, List.length_cons, List.length_nil, Nat.zero_add, Nat.reduceAdd, Nat.reduceLeDiff, if_true, gn, e5, ex, ga, List.set_cons_succ, List.set_cons_zero]
        rfl),
      seq_nx (show _ = some (Out.nx [some (.obj b), some (tD t), some (.str (kst false)), some (tD o), some (.int p), some (tD w), some (.lst ((edgeN t o w p x).map tD)), none], M5) from rfl),
      seq_nx (show _ = some (Out.nx [some (.obj b), some (tD t), some (.str (kst false)), some (tD o), some (.int p), some (tD w), some (.lst ((edgeN t o w p x).map tD)), some (.int v6)], M6) by simp [e6])]
    have o' := fo.weak hd (Nat.le_refl 1)
    have numd : ∀ {y : Int}, InR y → Fit (.num y) false d 1 := fun h => (fit_num h).weak hd (Nat.le_refl 1)
    by_cases h7 : v6 > 7
    · refine ⟨.op .mul [o, t], .op .mul [t, o], false, false, M6, ?_, ?_, ?_, (r14.trans r5).trans r6⟩
      · have g7 : gGt (.int v6) (.int 7) M6 = some (.bl true) := by
          show some (D.bl (decide (7 < v6))) = _
          rw [decide_eq_true (by omega)]
        rw [seq_rt (show _ = some (Out.rt (.tup [tD (.op .mul [o, t]), tD (.op .mul [t, o])]), M6) by
          simp [-sSeq_eq, g7]
          exact ⟨rfl, rfl⟩)]
        rfl
      · refine Fit.weak (fit2 ⟨rfl, rfl⟩ (fun z => (nomatch z)) o' ht) ?_ ?_ <;> omega
      · refine Fit.weak (fit2 ⟨rfl, rfl⟩ (fun z => (nomatch z)) ht o') ?_ ?_ <;> omega
    · obtain ⟨s2, hs2, es2⟩ := list_pick (ts := edgeN t o w p x) d0 (by show v6 < 8; omega) M6
      have fs2 : Fit s2 false (d + 3) (3 * n + 20) := by
        have o2 := o'.weak (show d ≤ d + 1 by omega) (Nat.le_refl 1)
        have n2 : ∀ {y : Int}, InR y → Fit (.num y) false (d + 1) 1 := fun h => (numd h).weak (by omega) (Nat.le_refl 1)
        have w2 : Fit w true (d + 1) 3 := fw.weak (by omega) (Nat.le_refl 3)
        have t2 : Fit t false (d + 1) n := ht.weak (by omega) (Nat.le_refl n)
        have o3 := o2.weak (show d + 1 ≤ d + 2 by omega) (Nat.le_refl 1)
        unfold edgeN at hs2
        simp only [List.mem_cons, List.not_mem_nil, or_false] at hs2
        rcases hs2 with rfl | rfl | rfl | rfl | rfl | rfl | rfl | rfl
        · refine Fit.weak (fit2 ⟨rfl, rfl⟩ (fun z => (nomatch z)) ht (numd (inr_small (by decide) (by decide)))) ?_ ?_ <;> omega
        · refine Fit.weak (fit2 ⟨rfl, rfl⟩ (fun z => (nomatch z)) ht (numd (inr_small (by decide) (by decide)))) ?_ ?_ <;> omega
        · refine Fit.weak (fit2 ⟨rfl, rfl⟩ (fun z => (nomatch z)) ht (numd (inr_small (by decide) (by decide)))) ?_ ?_ <;> omega
        · refine Fit.weak (fit2 ⟨rfl, rfl⟩ (fun z => (nomatch z)) ht (numd (inr_small (by decide) (by decide)))) ?_ ?_ <;> omega
        · refine Fit.weak (fit3 ⟨rfl, rfl⟩ (fun z => (nomatch z)) (numd ip) o' ht) ?_ ?_ <;> omega
        · refine Fit.weak (fit2 ⟨rfl, rfl⟩ (fun z => (nomatch z)) (fit2 (r := true) ⟨rfl, rfl⟩ (fun z => (nomatch z)) (numd ix) ht) (n2 ip)) ?_ ?_ <;> omega
        · refine Fit.weak (fit2 ⟨rfl, rfl⟩ (fun z => (nomatch z)) (mk2 o' ht) (n2 ip)) ?_ ?_ <;> omega
        · refine Fit.weak (fit2 ⟨rfl, rfl⟩ (fun z => (nomatch z)) (fit3 (r := true) ⟨rfl, rfl⟩ (fun z => (nomatch z)) w2 o2 t2) o3) ?_ ?_ <;> omega
      have g7 : gGt (.int v6) (.int 7) M6 = some (.bl false) := by
        show some (D.bl (decide (7 < v6))) = _
        rw [decide_eq_false (by omega)]
      rw [seq_nx (show _ = some (Out.nx [some (.obj b), some (tD t), some (.str (kst false)), some (tD o), some (.int p), some (tD w), some (.lst ((edgeN t o w p x).map tD)), some (.int v6)], M6) by simp [-sSeq_eq, g7])]
      by_cases h77 : v6 = 7
      · refine ⟨t, s2, false, false, M6, ?_, ?_, fs2, (r14.trans r5).trans r6⟩
        · rw [h77] at es2 ⊢
          simp [gEq, es2]
        · refine Fit.weak ht ?_ ?_ <;> omega
      · obtain ⟨v7, M7, e7, f0, f1, r7⟩ := take_ok (m := 3) r6.box (by decide) (by decide)
        obtain ⟨s1, hs1, es1⟩ := list_pick (ts := [t, .num 0, o]) f0 (by simpa using f1) M7
        have es1 : gIx (.lst [tD t, .int 0, tD o]) (.int v7) M7 = some (tD s1) := es1
        obtain ⟨s2', hs2', es2'⟩ := list_pick (ts := edgeN t o w p x) d0 (by show v6 < 8; omega) M7
        have e22 : gIx (.lst ((edgeN t o w p x).map tD)) (.int v6) M7 = some (tD s2) := by
          rw [← es2]; rfl
        refine ⟨s1, s2, false, false, M7, ?_, ?_, fs2, ((r14.trans r5).trans r6).trans r7⟩
        · simp [gEq, h77, e7, es1, e22]
        · simp only [List.mem_cons, List.not_mem_nil, or_false] at hs1
          rcases hs1 with rfl | rfl | rfl
          · refine Fit.weak ht ?_ ?_ <;> omega
          · refine Fit.weak (numd in0) ?_ ?_ <;> omega
          · refine Fit.weak fo ?_ ?_ <;> omega
end
end PM
/-! Sizes, names put in, pairs. -/
namespace PM
open PySem PySem.Spec PyProof.Rows L2 DL DR PT
section
variable {M M1 M2 : List MO} {b : Nat} {m : Int} {r : Bool} {t s o : PT.Tm} {d n : Nat}
theorem dct_at {j : Nat} {kvs : List (NestedKey × D)} (h : M[j]? = some (.dct kvs)) : dctOf (.obj j) M = some kvs := by
  show (match M[j]? with
    | some (.dct kvs) => some kvs
    | some (.dfz kvs) => some kvs
    | _ => none) = _
  rw [h]
def sizeL : List PT.Tm → List Int
  | [] => []
  | t :: r => (siz t : Int) :: sizeL r
theorem sizeL_sum : ∀ ts : List PT.Tm, (sizeL ts).sum = (sizs ts : Int)
  | [] => rfl
  | t :: r => by
    show (siz t : Int) + (sizeL r).sum = ((siz t + sizs r : Nat) : Int)
    rw [sizeL_sum r]; omega
theorem intL_ints : ∀ l : List Int, intL (l.map D.int) = some l
  | [] => rfl
  | x :: r => by
    show (intL (r.map D.int)).map _ = _
    rw [intL_ints r]; rfl
theorem set_ext {M0 M : List MO} {n0 : Nat} {x : MO} (e : Ext M0 M) (h : M0.length ≤ n0) : Ext M0 (M.set n0 x) := ⟨by rw [List.length_set]; exact e.len, fun k hk => by rw [List.getElem?_set_ne (by omega), e.at_ k hk]⟩
mutual
theorem parts_ok : ∀ (t : PT.Tm) (n : Nat) (M : List MO) (r : Bool), WT t r → dep t ≤ n → ∃ M', fn__law_parts n [tD t] M = some (.int (siz t : Nat), M') ∧ Ext M M'
  | .num x, 0, M, _, _, hd => absurd hd (by show ¬ (1 ≤ 0); decide)
  | .name l, 0, M, _, _, hd => absurd hd (by show ¬ (1 ≤ 0); decide)
  | .op o ts, 0, M, _, _, hd => absurd hd (by show ¬ (1 + deps ts ≤ 0); omega)
  | .num x, n + 1, M, _, _, _ => ⟨M, by simp [fn__law_parts, fb__law_parts, stD, tD, gIsi, siz], .refl M⟩
  | .name l, n + 1, M, _, _, _ => ⟨M, by
      have td : tD (.name l) = .tup [.int (bi l.d), .str (nmS l.r l.k)] := rfl
      simp [fn__law_parts, fb__law_parts, stD, td, gIsi, siz], .refl M⟩
  | .op o ts, n + 1, M, r, w, hd => by
    have hd' : deps ts ≤ n := by have : 1 + deps ts ≤ n + 1 := hd; omega
    cases w with
    | op sg hs ws =>
      have l3 : ts.length ≤ 3 := by rw [wts_len ws]; exact sg_len sg
      obtain ⟨M1, w1, w2, w3⟩ := parts_loop ts n M.length (M ++ [.lst []]) M [] [some (tD (.op o ts)), none] _ ws hd' (by simp) (.app _ _) (Nat.le_refl _) (by simp) (by simp; omega)
      refine ⟨M1, ?_, w3⟩
      have td : tD (.op o ts) = .tup (.str (ostr o) :: tDs ts) := rfl
      rw [td] at w1 ⊢
      have i1 : gIsi "int" (.tup (.str (ostr o) :: tDs ts)) M = some (.bl false) := rfl
      have i3 : gIsi "int" (.str (ostr o)) M = some (.bl false) := rfl
      have s1 := slice1 (.str (ostr o)) (tDs ts) M
      unfold fn__law_parts fb__law_parts
      rw [runF_eq, show stD 2 [.tup (.str (ostr o) :: tDs ts)] = [some (.tup (.str (ostr o) :: tDs ts)), none] from rfl]
      rw [seq_nx (show _ = some (Out.nx [some (.tup (.str (ostr o) :: tDs ts)), none], M) by simp [i1, i3])]
      have gs : gSum [.obj M.length] M1 = some (.int (sizs ts : Nat)) := by
        show (lstOf (.obj M.length) M1).bind _ = _
        rw [show lstOf (.obj M.length) M1 = some ((sizeL ts).map D.int) from by
          show (match M1[M.length]? with
            | some (.lst ds) => some ds
            | _ => none) = _
          rw [w2]; rfl]
        show (intL ((sizeL ts).map D.int)).map _ = _
        rw [intL_ints]
        show some (D.int (sizeL ts).sum) = _
        rw [sizeL_sum]
      simp only [sRet_eq, eOp_eq, eC_eq, eCall_eq, aCons_eq, aNil_eq, eLc, iTupD, eSl_eq, oSome_eq, oNone_eq, eVar_eq, List.getElem?_cons_zero, Option.bind_some, Option.map_some, s1]
      rw [w1]
      simp only [Option.bind_some, Option.map_some, gs]
      show some (D.int (1 + ((sizs ts : Nat) : Int)), M1) = some (D.int ((1 + sizs ts : Nat) : Int), M1)
      congr 3
theorem parts_loop : ∀ (ts : List PT.Tm) (n n0 : Nat) (M M0 : List MO) (acc : List D) (δ : List (Option D)) (ks : List Bool), WTs ts ks → deps ts ≤ n → M[n0]? = some (.lst acc) → Ext M0 M → M0.length ≤ n0 → δ.length = 2 → acc.length + ts.length < 1000 →
    ∃ M', lcD 1 n0 tTrue (eFn 1 (fn__law_parts n) (aCons (eVar 1) aNil)) δ (tDs ts) M = some M' ∧ M'[n0]? = some (.lst (acc ++ (sizeL ts).map D.int)) ∧ Ext M0 M'
  | [], n, n0, M, M0, acc, δ, _, _, _, hm, he, _, _, _ => ⟨M, rfl, by rw [hm]; show _ = some (MO.lst (acc ++ [])); rw [List.append_nil], he⟩
  | t :: ts, n, n0, M, M0, acc, δ, _, w, hd, hm, he, h0, dl, ha => by
    cases w with
    | cons w1 w2 =>
      have hd' : max (dep t) (deps ts) ≤ n := hd
      obtain ⟨M1, e1, x1⟩ := parts_ok t n M _ w1 (by omega)
      have hm1 : M1[n0]? = some (.lst acc) := x1.get hm
      have hl : acc.length < 100000 := by omega
      obtain ⟨M2, e2, e3, e4⟩ := parts_loop ts n n0 (M1.set n0 (.lst (acc ++ [.int (siz t : Nat)]))) M0 (acc ++ [.int (siz t : Nat)]) δ _ w2 (by omega) (by simp [List.getElem?_set_self', hm1]) (set_ext (he.trans x1) h0) h0 dl (by simp at ha ⊢; omega)
      refine ⟨M2, ?_, by rw [e3, List.append_assoc]; rfl, e4⟩
      refine Eq.trans ?_ e2
      have q1 : (δ.set 1 (some (tD t)))[1]? = some (some (tD t)) := by rw [List.getElem?_set_self (by omega)]
      show lcD 1 n0 tTrue _ δ (tD t :: tDs ts) M = _
      simp only [lcD, tTrue, Option.bind_some, if_true, eFn_eq, aCons_eq, aNil_eq, eVar_eq, q1, Option.map_some, List.length_cons, List.length_nil, Nat.zero_add, e1, hm1, hl]
end
/-- names of the terms put in: the dict at j tells σ -/
def SubAt (M : List MO) (j : Nat) (σ : Lb → PT.Tm) (P : Lb → Prop) : Prop := ∃ kvs, M[j]? = some (.dct kvs) ∧ ∀ l, P l → valD kvs (nk l) = some (tD (σ l))
theorem SubAt.ext {j : Nat} {σ : Lb → PT.Tm} {P : Lb → Prop} (h : SubAt M j σ P) (e : Ext M M1) : SubAt M1 j σ P := by
  obtain ⟨kvs, h1, h2⟩ := h
  exact ⟨kvs, e.get h1, h2⟩
mutual
theorem lput_ok {j : Nat} {σ : Lb → PT.Tm} {P : Lb → Prop} : ∀ (t : PT.Tm) (n : Nat) (M : List MO) (r : Bool), WT t r → dep t ≤ n → SubAt M j σ P → (∀ l ∈ nms t, P l) → ∃ M', fn__law_put n [tD t, .obj j] M = some (tD (sub σ t), M') ∧ Ext M M'
  | .num x, 0, M, _, _, hd, _, _ => absurd hd (by show ¬ (1 ≤ 0); decide)
  | .name l, 0, M, _, _, hd, _, _ => absurd hd (by show ¬ (1 ≤ 0); decide)
  | .op o ts, 0, M, _, _, hd, _, _ => absurd hd (by show ¬ (1 + deps ts ≤ 0); omega)
  | .num x, n + 1, M, _, _, _, _, _ => ⟨M, by simp [fn__law_put, fb__law_put, stD, tD, gIsi, sub], .refl M⟩
  | .name l, n + 1, M, _, _, _, hσ, hP => ⟨M, by
      obtain ⟨kvs, h1, h2⟩ := hσ
      have v := h2 l (hP l List.mem_cons_self)
      have kk := (nk_key l).get
      have td : tD (.name l) = kd (nk l) := rfl
      have t2 : kd (nk l) = .tup [.int (bi l.d), .str (nmS l.r l.k)] := rfl
      rw [td]
      have i1 : gIsi "int" (kd (nk l)) M = some (.bl false) := by rw [t2]; rfl
      have i2 : gIx (kd (nk l)) (.int 0) M = some (.int (bi l.d)) := by rw [t2]; exact ix0 _ _ _
      have i3 : gIsi "int" (.int (bi l.d)) M = some (.bl true) := rfl
      have g : gDget (.obj j) (kd (nk l)) M = some (tD (σ l)) := by
        show (keyD (kd (nk l))).bind (fun k => (dctOf (.obj j) M).bind fun kvs => valD kvs k) = _
        rw [kk, dct_at h1]
        exact v
      simp [fn__law_put, fb__law_put, stD, i1, i2, i3, g, sub], .refl M⟩
  | .op o ts, n + 1, M, r, w, hd, hσ, hP => by
    have hd' : deps ts ≤ n := by have : 1 + deps ts ≤ n + 1 := hd; omega
    cases w with
    | op sg hs ws =>
      have l3 : ts.length ≤ 3 := by rw [wts_len ws]; exact sg_len sg
      obtain ⟨M1, w1, w2, w3⟩ := lput_loop ts n M.length (M ++ [.lst []]) M [] [some (tD (.op o ts)), some (.obj j), none] _ ws hd' (by simp) (.app _ _) (Nat.le_refl _) rfl (by simp) (by simp; omega) hσ hP
      refine ⟨M1, ?_, w3⟩
      have td : tD (.op o ts) = .tup (.str (ostr o) :: tDs ts) := rfl
      rw [td] at w1 ⊢
      have i1 : gIsi "int" (.tup (.str (ostr o) :: tDs ts)) M = some (.bl false) := rfl
      have i3 : gIsi "int" (.str (ostr o)) M = some (.bl false) := rfl
      have i0 : gIx (.tup (.str (ostr o) :: tDs ts)) (.int 0) M = some (.str (ostr o)) := ix0 _ _ _
      have s1 := slice1 (.str (ostr o)) (tDs ts) M
      unfold fn__law_put fb__law_put
      rw [runF_eq, show stD 3 [.tup (.str (ostr o) :: tDs ts), .obj j] = [some (.tup (.str (ostr o) :: tDs ts)), some (.obj j), none] from rfl]
      rw [seq_nx (show _ = some (Out.nx [some (.tup (.str (ostr o) :: tDs ts)), some (.obj j), none], M) by simp [i1]),
        seq_nx (show _ = some (Out.nx [some (.tup (.str (ostr o) :: tDs ts)), some (.obj j), none], M) by simp [i3])]
      have gt : gTuple [.obj M.length] M1 = some (.tup (tDs (subs σ ts))) := by
        show (lstOf (.obj M.length) M1).map _ = _
        rw [show lstOf (.obj M.length) M1 = some (tDs (subs σ ts)) from by
          show (match M1[M.length]? with
            | some (.lst ds) => some ds
            | _ => none) = _
          rw [w2]; rfl]
        rfl
      have sl : ∀ ts : List PT.Tm, (subs σ ts).length = ts.length := by
        intro ts
        induction ts with
        | nil => rfl
        | cons t r ih => show (subs σ r).length + 1 = r.length + 1; rw [ih]
      have ga : gAdd (.tup [.str (ostr o)]) (.tup (tDs (subs σ ts))) M1 = some (.tup (.str (ostr o) :: tDs (subs σ ts))) := if_pos (by rw [tDs_len, sl]; simp; omega)
      simp only [sRet_eq, eOp_eq, eC_eq, eTup_eq, eCall_eq, aCons_eq, aNil_eq, eLc, iTupD, eSl_eq, oSome_eq, oNone_eq, eVar_eq, List.getElem?_cons_zero, Option.bind_some, Option.map_some, i0, s1, List.length_cons, List.length_nil, Nat.zero_add, Nat.reduceLeDiff, if_true]
      rw [w1]
      simp only [Option.bind_some, Option.map_some, gt, ga]
      rfl
theorem lput_loop {j : Nat} {σ : Lb → PT.Tm} {P : Lb → Prop} : ∀ (ts : List PT.Tm) (n n0 : Nat) (M M0 : List MO) (acc : List D) (δ : List (Option D)) (ks : List Bool), WTs ts ks → deps ts ≤ n → M[n0]? = some (.lst acc) → Ext M0 M → M0.length ≤ n0 → δ[1]? = some (some (.obj j)) → δ.length = 3 → acc.length + ts.length < 1000 → SubAt M0 j σ P → (∀ l ∈ nmss ts, P l) →
    ∃ M', lcD 2 n0 tTrue (eFn 2 (fn__law_put n) (aCons (eVar 2) (aCons (eVar 1) aNil))) δ (tDs ts) M = some M' ∧ M'[n0]? = some (.lst (acc ++ tDs (subs σ ts))) ∧ Ext M0 M'
  | [], n, n0, M, M0, acc, δ, _, _, _, hm, he, _, _, _, _, _, _ => ⟨M, rfl, by rw [hm]; show _ = some (MO.lst (acc ++ [])); rw [List.append_nil], he⟩
  | t :: ts, n, n0, M, M0, acc, δ, _, w, hd, hm, he, h0, d1, dl, ha, hσ, hP => by
    cases w with
    | cons w1 w2 =>
      have hd' : max (dep t) (deps ts) ≤ n := hd
      obtain ⟨M1, e1, x1⟩ := lput_ok t n M _ w1 (by omega) (hσ.ext he) (fun l hl => hP l (List.mem_append_left _ hl))
      have hm1 : M1[n0]? = some (.lst acc) := x1.get hm
      have hl : acc.length < 100000 := by omega
      obtain ⟨M2, e2, e3, e4⟩ := lput_loop ts n n0 (M1.set n0 (.lst (acc ++ [tD (sub σ t)]))) M0 (acc ++ [tD (sub σ t)]) δ _ w2 (by omega) (by simp [List.getElem?_set_self', hm1]) (set_ext (he.trans x1) h0) h0 d1 dl (by simp at ha ⊢; omega) hσ (fun l hl => hP l (List.mem_append_right _ hl))
      refine ⟨M2, ?_, by rw [e3, List.append_assoc]; rfl, e4⟩
      refine Eq.trans ?_ e2
      have q1 : (δ.set 2 (some (tD t)))[1]? = some (some (.obj j)) := by rw [List.getElem?_set_ne (by decide)]; exact d1
      have q2 : (δ.set 2 (some (tD t)))[2]? = some (some (tD t)) := by rw [List.getElem?_set_self (by omega)]
      show lcD 2 n0 tTrue _ δ (tD t :: tDs ts) M = _
      simp only [lcD, tTrue, Option.bind_some, if_true, eFn_eq, aCons_eq, aNil_eq, eVar_eq, q1, q2, Option.map_some, List.length_cons, List.length_nil, Nat.zero_add, Nat.reduceAdd, e1, hm1, hl]
end
theorem Br.ext (h : Br b M M1) (e : Ext M1 M2) : Br b M M2 := ⟨Nat.le_trans h.len e.len, fun k hk n => (e.at_ k (Nat.lt_of_lt_of_le hk h.len)).trans (h.at_ k hk n), by
  obtain ⟨x0, x1, x2, x3, z⟩ := h.box
  exact ⟨x0, x1, x2, x3, e.get z⟩⟩
theorem nnr_at {v : Int} (h0 : 0 ≤ v) (h1 : v < 3) (M : List MO) : ∃ r, gIx (.str (Str.ofString "nnr")) (.int v) M = some (.str (kst r)) := by
  have : v = 0 ∨ v = 1 ∨ v = 2 := by omega
  rcases this with rfl | rfl | rfl
  · exact ⟨false, by kernel_rfl⟩
  · exact ⟨false, by kernel_rfl⟩
  · exact ⟨true, by kernel_rfl⟩
theorem pair_ok (hb : BoxAt M b) : Two b M 7 140 (fn__law_pair [.obj b] M) := by
  obtain ⟨v1, M1, e1, a0, a1, r1⟩ := take_ok (m := 3) hb (by decide) (by decide)
  obtain ⟨r, er⟩ := nnr_at a0 a1 M1
  obtain ⟨t, M2, e2, w2, d2, s2, r2⟩ := term_ok 3 FU r M1 (by decide) (by decide) r1.box
  have e2 : fn__law_term FU [.obj b, .str (kst r), .int 3] M1 = some (tD t, M2) := e2
  obtain ⟨M3, e3, x3⟩ := parts_ok t FU M2 r w2 (Nat.le_trans d2 (by decide))
  have r3 := (r1.trans r2).ext x3
  have s2 : siz t ≤ 40 := s2
  have st : stD 5 [.obj b] = [some (.obj b), none, none, none, none] := rfl
  unfold fn__law_pair fb__law_pair
  rw [runF_eq, st, seq_nx (show _ = some (Out.nx [some (.obj b), some (.str (kst r)), none, none, none], M1) by simp [e1, er]),
    seq_nx (show _ = some (Out.nx [some (.obj b), some (.str (kst r)), some (tD t), none, none], M2) by simp [e2])]
  have one : ∃ t1 M4, sIf (eT (eOp gGt (eFn 1 (fn__law_parts FU) (aCons (eVar 2) aNil)) (eC (.int 16)))) (sSet 2 (eFn 3 (fn__law_term FU) (aCons (eVar 0) (aCons (eVar 1) (aCons (eC (.int 1)) aNil))))) sNil [some (.obj b), some (.str (kst r)), some (tD t), none, none] M2 = some (.nx [some (.obj b), some (.str (kst r)), some (tD t1), none, none], M4) ∧ Fit t1 r 4 40 ∧ Br b M M4 := by
    by_cases hs : siz t > 16
    · have g : gGt (.int (siz t : Nat)) (.int 16) M3 = some (.bl true) := by
        show some (D.bl (decide ((16 : Int) < siz t))) = _
        rw [decide_eq_true (by omega)]
      obtain ⟨t1, M4, e4, w4, d4, s4, r4⟩ := term_ok 1 FU r M3 (by decide) (by decide) r3.box
      have e4 : fn__law_term FU [.obj b, .str (kst r), .int 1] M3 = some (tD t1, M4) := e4
      have s4 : siz t1 ≤ 4 := s4
      refine ⟨t1, M4, by simp [e3, g, e4], ⟨w4, by omega, by omega⟩, r3.trans r4⟩
    · have g : gGt (.int (siz t : Nat)) (.int 16) M3 = some (.bl false) := by
        show some (D.bl (decide ((16 : Int) < siz t))) = _
        rw [decide_eq_false (by omega)]
      exact ⟨t, M3, by simp [e3, g], ⟨w2, d2, s2⟩, r3⟩
  obtain ⟨t1, M4, e4, f1, r4⟩ := one
  obtain ⟨s, M5, e5, w5, d5, s5, r5⟩ := term_ok 3 FU r M4 (by decide) (by decide) r4.box
  have e5 : fn__law_term FU [.obj b, .str (kst r), .int 3] M4 = some (tD s, M5) := e5
  have s5 : siz s ≤ 40 := s5
  obtain ⟨v6, M6, e6, b0, b1, r6⟩ := take_ok (m := 4) r5.box (by decide) (by decide)
  have r46 := (r4.trans r5).trans r6
  rw [seq_nx e4, seq_nx (show _ = some (Out.nx [some (.obj b), some (.str (kst r)), some (tD t1), some (tD s), none], M5) by simp [e5]),
    seq_nx (show _ = some (Out.nx [some (.obj b), some (.str (kst r)), some (tD t1), some (tD s), some (.int v6)], M6) by simp [e6])]
  by_cases h3 : v6 = 3
  · obtain ⟨s1, s2, q1, q2, M7, e7, g1, g2, r7⟩ := edge_ok (t := t1) r6.box f1 (by decide)
    refine ⟨s1, s2, q1, q2, M7, ?_, g1, g2, r46.trans r7⟩
    rw [seq_rt (show _ = some (Out.rt (.tup [tD s1, tD s2]), M7) by simp [gEq, h3, e7])]
    rfl
  · rw [seq_nx (show _ = some (Out.nx [some (.obj b), some (.str (kst r)), some (tD t1), some (tD s), some (.int v6)], M6) by simp [gEq, h3])]
    by_cases h0 : v6 > 0
    · have g : gGt (.int v6) (.int 0) M6 = some (.bl true) := by
        show some (D.bl (decide (0 < v6))) = _
        rw [decide_eq_true (by omega)]
      obtain ⟨s2, M7, e7, g2, r7⟩ := near_ok (t := t1) r6.box f1 (by decide)
      refine ⟨t1, s2, r, r, M7, ?_, f1.weak (by decide) (by decide), g2.weak (by decide) (by decide), r46.trans r7⟩
      rw [seq_nx (show _ = some (Out.nx [some (.obj b), some (.str (kst r)), some (tD t1), some (tD s2), some (.int v6)], M7) by simp [g, e7])]
      simp
    · have g : gGt (.int v6) (.int 0) M6 = some (.bl false) := by
        show some (D.bl (decide (0 < v6))) = _
        rw [decide_eq_false (by omega)]
      refine ⟨t1, s, r, r, M6, ?_, f1.weak (by decide) (by decide), ⟨w5, by omega, by omega⟩, r46⟩
      rw [seq_nx (show _ = some (Out.nx [some (.obj b), some (.str (kst r)), some (tD t1), some (tD s), some (.int v6)], M6) by simp [g])]
      simp
end
end PM
/-! The names' terms and their table. -/
namespace PM
open PySem PySem.Spec PyProof.Rows L2 DL DR PT
section
variable {M M1 M2 : List MO} {b i j j2 j3 : Nat} {m : Int} {r : Bool} {t s o : PT.Tm} {d n c : Nat} {T T1 : Tb} {S : Lb → Prop} {σ : Lb → PT.Tm}
/-- the law's own things -/
def ownF (l : Lb) : F := leaf ⟨true, l.d, l.r, l.k⟩
theorem tab_br (h : Tab M i T) (e : Br b M M1) (hb : b < i) : Tab M1 i T := by
  have z : ∀ {k : Nat} {o : MO}, i ≤ k → M[k]? = some o → M1[k]? = some o := fun {k o} hk g => by rw [e.at_ k (some_lt g) (by omega)]; exact g
  exact ⟨⟨z (Nat.le_refl _) h.raw.ins, z (by omega) h.raw.c, z (by omega) h.raw.n, z (by omega) h.raw.k, z (by omega) h.raw.t⟩, h.ok⟩
theorem Br.get (e : Br b M M1) {k : Nat} {o : MO} (hk : k ≠ b) (h : M[k]? = some o) : M1[k]? = some o := by rw [e.at_ k (some_lt h) hk]; exact h
theorem box_set (h : BoxAt M b) {k : Nat} {o : MO} (hk : k ≠ b) : BoxAt (M.set k o) b := by
  obtain ⟨x0, x1, x2, x3, e⟩ := h
  exact ⟨x0, x1, x2, x3, by rw [List.getElem?_set_ne hk]; exact e⟩
theorem box_fr (h : BoxAt M b) (f : Fr i M M1) (hb : b < i) : BoxAt M1 b := by
  obtain ⟨x0, x1, x2, x3, e⟩ := h
  exact ⟨x0, x1, x2, x3, by rw [f.at_ b (some_lt e) (.inl (by omega))]; exact e⟩
theorem box_ext (h : BoxAt M b) (f : Ext M M1) : BoxAt M1 b := by
  obtain ⟨x0, x1, x2, x3, e⟩ := h
  exact ⟨x0, x1, x2, x3, f.get e⟩
theorem get_set {k : Nat} {o x : MO} (h : M[k]? = some x) : (M.set k o)[k]? = some o := by simp [List.getElem?_set_self', h]
structure NI (b i j2 j3 : Nat) (M : List MO) (T : Tb) (S : Lb → Prop) (σ : Lb → PT.Tm) (c : Nat) : Prop where
  tab : Tab M i T
  box : BoxAt M b
  n : ∃ kn, M[j2]? = some (.dct kn) ∧ kn.length ≤ 2 * c ∧ (∀ l, S l → valD kn (nk l) = some (tD (σ l))) ∧ ∀ p ∈ kn, ∃ l, S l ∧ p.1 = nk l
  t : ∃ kt, M[j3]? = some (.dct kt) ∧ kt.length ≤ c ∧ ∀ l, S l → valD kt (nk l) = some (.int (idx T.C (ownF l) : Nat)) ∧ ownF l ∈ T.C
  fit : ∀ l, Fit (σ l) l.r 2 4
  own : ∀ l, S l → l.own = false
  sz : PM.sz T ≤ 2 * c
theorem put_keysN {kvs : List (NestedKey × D)} {k : NestedKey} {d : D} : ∀ p ∈ putN kvs k d, p.1 = k ∨ ∃ q ∈ kvs, q.1 = p.1 := by
  intro p hp
  unfold putN at hp
  split at hp
  · obtain ⟨q, hq, e⟩ := List.mem_map.mp hp
    split at e
    · rw [← e]; exact .inr ⟨q, hq, rfl⟩
    · rw [← e]; exact .inr ⟨q, hq, rfl⟩
  · rcases List.mem_append.mp hp with hp | hp
    · exact .inr ⟨p, hp, rfl⟩
    · exact .inl (by have e : p = (k, d) := by simpa using hp
                     rw [e])
theorem bi_str (r k : Bool) : ∃ z, (∀ M, gStr1 [.int (bi k)] M = some (.str z)) ∧ ∀ M, gAdd (.str (kst r)) (.str z) M = some (.str (nmS r k)) := ⟨_, str_bi k, nm_add r k⟩
def stepF : TFS := sSeq (sSet 7 (eTup (aCons (eVar 4) (aCons (eOp gAdd (eVar 5) (eCall gStr1 (aCons (eVar 6) aNil))) aNil))))
    (sSeq (sDput (eFn 3 (fn__law_term FU) (aCons (eVar 0) (aCons (eVar 5) (aCons (eC (.int 1)) aNil)))) (eVar 2) (eVar 7))
    (sSeq (sIf (eAnd (eT (eOp gEq (eVar 5) (eC (.str (Str.ofString "n"))))) (eT (eOp gEq (eFn 2 fn__law_take (aCons (eVar 0) (aCons (eC (.int 3)) aNil))) (eC (.int 0))))) (sDput (eFn 1 fn__law_number (aCons (eVar 0) aNil)) (eVar 2) (eVar 7)) sNil)
    (sDput (eMeth (Str.ofString "thing") 3 fn_m_thing (eVar 1) (aCons (eVar 5) (aCons (eTup (aCons (eC (.str (Str.ofString "own"))) (aCons (eVar 4) (aCons (eOp gAdd (eVar 5) (eCall gStr1 (aCons (eVar 6) aNil))) aNil)))) aNil))) (eVar 3) (eVar 7))))
theorem step_ok (l : Lb) (ho : l.own = false) (h : NI b i j2 j3 M T S σ c) (hb : b < i) (h2 : i + 4 < j2) (h3 : i + 4 < j3) (h23 : j2 ≠ j3) (hc : c < 100) {x7 : Option D} :
    ∃ M' T' σ', stepF [some (.obj b), some (.obj i), some (.obj j2), some (.obj j3), some (.int (bi l.d)), some (.str (kst l.r)), some (.int (bi l.k)), x7] M = some (.nx [some (.obj b), some (.obj i), some (.obj j2), some (.obj j3), some (.int (bi l.d)), some (.str (kst l.r)), some (.int (bi l.k)), some (lD l)], M') ∧ NI b i j2 j3 M' T' (fun x => S x ∨ x = l) σ' (c + 1) := by
  obtain ⟨kn, n1, n2, n3, n4⟩ := h.n
  obtain ⟨kt, t1, t2, t3⟩ := h.t
  obtain ⟨t, M1, e1, w1, d1, s1, r1⟩ := term_ok 1 FU l.r M (by decide) (by decide) h.box
  have e1 : fn__law_term FU [.obj b, .str (kst l.r), .int 1] M = some (tD t, M1) := e1
  have ft : Fit t l.r 2 4 := ⟨w1, d1, s1⟩
  have kk : keyD (lD l) = some (nk l) := (nk_key l).get
  have kl : lD l = .tup [.int (bi l.d), .str (nmS l.r l.k)] := rfl
  have nl : kn.length < 100000 := by omega
  have n1' := r1.get (by omega) n1
  have t1' := r1.get (by omega) t1
  have tb1 := tab_br h.tab r1 hb
  -- the second write to names
  have two : ∃ t' M2, Fit t' l.r 2 4 ∧ sIf (eAnd (eT (eOp gEq (eVar 5) (eC (.str (Str.ofString "n"))))) (eT (eOp gEq (eFn 2 fn__law_take (aCons (eVar 0) (aCons (eC (.int 3)) aNil))) (eC (.int 0))))) (sDput (eFn 1 fn__law_number (aCons (eVar 0) aNil)) (eVar 2) (eVar 7)) sNil
      [some (.obj b), some (.obj i), some (.obj j2), some (.obj j3), some (.int (bi l.d)), some (.str (kst l.r)), some (.int (bi l.k)), some (lD l)] (M1.set j2 (.dct (putN kn (nk l) (tD t)))) = some (.nx [some (.obj b), some (.obj i), some (.obj j2), some (.obj j3), some (.int (bi l.d)), some (.str (kst l.r)), some (.int (bi l.k)), some (lD l)], M2) ∧
      Tab M2 i T ∧ BoxAt M2 b ∧ M2[j3]? = some (.dct kt) ∧ ∃ kn2, M2[j2]? = some (.dct kn2) ∧ kn2.length ≤ kn.length + 2 ∧ (∀ k, valD kn2 k = if k = nk l then some (tD t') else valD kn k) ∧ ∀ p ∈ kn2, p.1 = nk l ∨ ∃ q ∈ kn, q.1 = p.1 := by
    have hb1 := box_set (o := .dct (putN kn (nk l) (tD t))) r1.box (show j2 ≠ b by omega)
    have tb2 := tab_set (x := .dct (putN kn (nk l) (tD t))) tb1 h2
    have p1 := putN_length kn (nk l) (tD t)
    have base : M1.set j2 (.dct (putN kn (nk l) (tD t))) = M1.set j2 (.dct (putN kn (nk l) (tD t))) := rfl
    have g2 : (M1.set j2 (.dct (putN kn (nk l) (tD t))))[j2]? = some (.dct (putN kn (nk l) (tD t))) := get_set n1'
    have g3 : (M1.set j2 (.dct (putN kn (nk l) (tD t))))[j3]? = some (.dct kt) := by rw [List.getElem?_set_ne h23]; exact t1'
    cases hr : l.r with
    | true =>
      have kn' : (kst true == Str.ofString "n") = false := by decide
      refine ⟨t, _, by rw [← hr]; exact ft, by simp [gEq, kn'], tb2, hb1, g3, _, g2, by omega, fun k => putN_val, put_keysN⟩
    | false =>
      have kn' : (kst false == Str.ofString "n") = true := by decide
      obtain ⟨v, M2, e2, v0, v1, r2⟩ := take_ok (m := 3) hb1 (by decide) (by decide)
      have q2 := r2.get (by omega) g2
      have q3 := r2.get (by omega) g3
      have tb3 := tab_br tb2 r2 hb
      by_cases hv : v = 0
      · obtain ⟨y, M3, e3, hy, r3⟩ := number_ok r2.box
        have z2 := r3.get (by omega) q2
        have z3 := r3.get (by omega) q3
        have p2 := putN_length (putN kn (nk l) (tD t)) (nk l) (.int y)
        have hl : (putN kn (nk l) (tD t)).length < 100000 := by omega
        refine ⟨.num y, M3.set j2 (.dct (putN (putN kn (nk l) (tD t)) (nk l) (.int y))), (fit_num hy).weak (by decide) (by decide), by simp [gEq, kn', e2, hv, e3, z2, kk, hl], tab_set (tab_br tb3 r3 hb) h2, box_set r3.box (by omega), by rw [List.getElem?_set_ne h23]; exact z3, _, get_set z2, by omega, fun k => ?_, fun p hp => ?_⟩
        · rw [putN_val, putN_val]
          by_cases e : k = nk l
          · rw [if_pos e, if_pos e]; rfl
          · rw [if_neg e, if_neg e, if_neg e]
        · rcases put_keysN p hp with e | ⟨q, hq, e⟩
          · exact .inl e
          · rcases put_keysN q hq with e' | ⟨q', hq', e'⟩
            · exact .inl (e.symm.trans e')
            · exact .inr ⟨q', hq', e'.trans e⟩
      · refine ⟨t, M2, by rw [← hr]; exact ft, by simp [gEq, kn', e2, hv], tb3, r2.box, q3, _, q2, by omega, fun k => putN_val, put_keysN⟩
  obtain ⟨t', M2, ft', e2, tb2, bx2, u3, kn2, u2, lk2, vk2, pk2⟩ := two
  obtain ⟨M3, T3, f, e3, tb3, g3, fr3, sz3, m3, i3, v3⟩ := lthing_ok (l := ⟨true, l.d, l.r, l.k⟩) tb2 (by have := h.sz; omega)
  have ef : f = ownF l := v3 (nuOf T3) (nuOf_ag T3)
  subst ef
  have e3 : fn_m_thing [.obj i, .str (kst l.r), .tup [.str (Str.ofString "own"), .int (bi l.d), .str (nmS l.r l.k)]] M2 = some (.int (idx T3.C (ownF l) : Nat), M3) := e3
  have y2 : M3[j2]? = some (.dct kn2) := by rw [fr3.at_ j2 (some_lt u2) (.inr h2)]; exact u2
  have y3 : M3[j3]? = some (.dct kt) := by rw [fr3.at_ j3 (some_lt u3) (.inr h3)]; exact u3
  have pl := putN_length kt (nk l) (.int (idx T3.C (ownF l) : Nat))
  have f0 := tb2.raw.ins
  refine ⟨M3.set j3 (.dct (putN kt (nk l) (.int (idx T3.C (ownF l) : Nat)))), T3, fun x => if x = l then t' else σ x, ?_, ⟨tab_set tb3 h3, box_set (box_fr bx2 fr3 hb) (by omega), ⟨kn2, by rw [List.getElem?_set_ne h23.symm]; exact y2, by omega, fun x hx => ?_, fun p hp => ?_⟩, ⟨_, get_set y3, by omega, fun x hx => ?_⟩, fun x => ?_, fun x hx => ?_, ?_⟩⟩
  · unfold stepF
    obtain ⟨z, zs, za⟩ := bi_str l.r l.k
    have ltt : kt.length < 100000 := by omega
    rw [seq_nx (show _ = some (Out.nx [some (.obj b), some (.obj i), some (.obj j2), some (.obj j3), some (.int (bi l.d)), some (.str (kst l.r)), some (.int (bi l.k)), some (lD l)], M) by simp [zs, za, kl]),
      seq_nx (show _ = some (Out.nx [some (.obj b), some (.obj i), some (.obj j2), some (.obj j3), some (.int (bi l.d)), some (.str (kst l.r)), some (.int (bi l.k)), some (lD l)], M1.set j2 (.dct (putN kn (nk l) (tD t)))) by simp [e1, n1', kk, nl]),
      seq_nx e2]
    simp [f0, zs, za, e3, y3, kk, ltt]
  · rw [vk2]
    by_cases e : nk x = nk l
    · rw [if_pos e]
      have : x = l := by
        rcases hx with hx | hx
        · exact nk_inj (h.own x hx) ho e
        · exact hx
      rw [if_pos this]
    · rw [if_neg e]
      rcases hx with hx | hx
      · rw [if_neg (fun z => e (by rw [z])), n3 x hx]
      · rw [hx] at e; exact absurd rfl e
  · rcases pk2 p hp with e | ⟨q, hq, e⟩
    · exact ⟨l, .inr rfl, e⟩
    · obtain ⟨x, hx, ex⟩ := n4 q hq
      exact ⟨x, .inl hx, by rw [← e, ex]⟩
  · rw [putN_val]
    by_cases e : nk x = nk l
    · rw [if_pos e]
      have : x = l := by
        rcases hx with hx | hx
        · exact nk_inj (h.own x hx) ho e
        · exact hx
      rw [this]
      exact ⟨rfl, m3⟩
    · rw [if_neg e]
      rcases hx with hx | hx
      · obtain ⟨a1, a2⟩ := t3 x hx
        exact ⟨by rw [a1, g3.ic a2], g3.mc a2⟩
      · rw [hx] at e; exact absurd rfl e
  · by_cases e : x = l
    · rw [if_pos e, e]; exact ft'
    · rw [if_neg e]; exact h.fit x
  · rcases hx with hx | hx
    · exact h.own x hx
    · rw [hx]; exact ho
  · have := h.sz
    omega
end
end PM
/-! All names. -/
namespace PM
open PySem PySem.Spec PyProof.Rows L2 DL DR PT
section
variable {M M1 M2 : List MO} {b i j j2 j3 : Nat} {m : Int} {r : Bool} {t s o : PT.Tm} {d n c : Nat} {T T1 : Tb} {S : Lb → Prop} {σ : Lb → PT.Tm}
theorem NI.weak {S' : Lb → Prop} {c' : Nat} (h : NI b i j2 j3 M T S σ c) (hs : ∀ l, S' l ↔ S l) (hc : c ≤ c') : NI b i j2 j3 M T S' σ c' := by
  have e : S' = S := funext fun l => propext (hs l)
  subst e
  obtain ⟨kn, n1, n2, n3, n4⟩ := h.n
  obtain ⟨kt, t1, t2, t3⟩ := h.t
  exact ⟨h.tab, h.box, ⟨kn, n1, by omega, n3, n4⟩, ⟨kt, t1, by omega, t3⟩, h.fit, h.own, by have := h.sz; omega⟩
def loopK : TFS := sFor (iRngD (aCons (eC (.int 2)) aNil)) (gNm 6) stepF
def loopR : TFS := sFor (iStrD (eC (.str (Str.ofString "nr")))) (gNm 5) loopK
def loopD : TFS := sFor (iRngD (aCons (eC (.int 2)) aNil)) (gNm 4) loopR
theorem rng2 (δ : List (Option D)) (M : List MO) : iRngD (aCons (eC (.int 2)) aNil) δ M = some ([.int (bi false), .int (bi true)], M) := rfl
theorem nr_str : strD (Str.ofString "nr") = [.str (kst false), .str (kst true)] := by kernel_rfl
theorem for2 {it : TFA} {g : TFG} {f : TFS} {δ δ1 δ2 δ1' δ2' : List (Option D)} {M M1 M2 : List MO} {d1 d2 : D} (hi : it δ M = some ([d1, d2], M)) (g1 : g d1 δ = some δ1) (e1 : f δ1 M = some (.nx δ1', M1)) (g2 : g d2 δ1' = some δ2) (e2 : f δ2 M1 = some (.nx δ2', M2)) : sFor it g f δ M = some (.nx δ2', M2) := by
  unfold sFor
  rw [hi]
  show forD g f [d1, d2] δ M = _
  simp only [forD, g1, e1, g2, e2, Option.bind_some]
section
variable (hb : b < i) (h2 : i + 4 < j2) (h3 : i + 4 < j3) (h23 : j2 ≠ j3)
include hb h2 h3 h23
theorem loopK_ok (dd rr : Bool) (h : NI b i j2 j3 M T S σ c) (hc : c < 50) {x6 x7 : Option D} :
    ∃ M' T' σ' x6' x7', loopK [some (.obj b), some (.obj i), some (.obj j2), some (.obj j3), some (.int (bi dd)), some (.str (kst rr)), x6, x7] M = some (.nx [some (.obj b), some (.obj i), some (.obj j2), some (.obj j3), some (.int (bi dd)), some (.str (kst rr)), x6', x7'], M') ∧
      NI b i j2 j3 M' T' (fun l => S l ∨ (l.own = false ∧ l.d = dd ∧ l.r = rr)) σ' (c + 2) := by
  obtain ⟨M1, T1, σ1, e1, n1⟩ := step_ok ⟨false, dd, rr, false⟩ rfl h hb h2 h3 h23 (by omega) (x7 := x7)
  obtain ⟨M2, T2, σ2, e2, n2⟩ := step_ok ⟨false, dd, rr, true⟩ rfl n1 hb h2 h3 h23 (by omega) (x7 := some (lD ⟨false, dd, rr, false⟩))
  refine ⟨M2, T2, σ2, _, _, for2 (rng2 _ _) rfl e1 rfl e2, n2.weak (fun l => ?_) (Nat.le_refl _)⟩
  obtain ⟨a1, a2, a3, a4⟩ := l
  constructor
  · rintro (x | ⟨x1, x2, x3⟩)
    · exact .inl (.inl x)
    · have x1 : a1 = false := x1
      have x2 : a2 = dd := x2
      have x3 : a3 = rr := x3
      subst x1 x2 x3
      cases a4
      · exact .inl (.inr rfl)
      · exact .inr rfl
  · rintro ((x | x) | x)
    · exact .inl x
    · cases x
      exact .inr ⟨rfl, rfl, rfl⟩
    · cases x
      exact .inr ⟨rfl, rfl, rfl⟩
theorem loopR_ok (dd : Bool) (h : NI b i j2 j3 M T S σ c) (hc : c < 40) {x5 x6 x7 : Option D} :
    ∃ M' T' σ' x5' x6' x7', loopR [some (.obj b), some (.obj i), some (.obj j2), some (.obj j3), some (.int (bi dd)), x5, x6, x7] M = some (.nx [some (.obj b), some (.obj i), some (.obj j2), some (.obj j3), some (.int (bi dd)), x5', x6', x7'], M') ∧
      NI b i j2 j3 M' T' (fun l => S l ∨ (l.own = false ∧ l.d = dd)) σ' (c + 4) := by
  obtain ⟨M1, T1, σ1, y6, y7, e1, n1⟩ := loopK_ok hb h2 h3 h23 dd false h (by omega) (x6 := x6) (x7 := x7)
  obtain ⟨M2, T2, σ2, z6, z7, e2, n2⟩ := loopK_ok hb h2 h3 h23 dd true n1 (by omega) (x6 := y6) (x7 := y7)
  refine ⟨M2, T2, σ2, some (.str (kst true)), z6, z7, for2 (d1 := .str (kst false)) (d2 := .str (kst true)) ?_ rfl e1 rfl e2, n2.weak (fun l => ?_) (by omega)⟩
  · show some (strD (Str.ofString "nr"), M) = _
    rw [nr_str]
  · obtain ⟨a1, a2, a3, a4⟩ := l
    constructor
    · rintro (x | ⟨x1, x2⟩)
      · exact .inl (.inl x)
      · cases a3
        · exact .inl (.inr ⟨x1, x2, rfl⟩)
        · exact .inr ⟨x1, x2, rfl⟩
    · rintro ((x | ⟨x1, x2, _⟩) | ⟨x1, x2, _⟩)
      · exact .inl x
      · exact .inr ⟨x1, x2⟩
      · exact .inr ⟨x1, x2⟩
theorem loopD_ok (h : NI b i j2 j3 M T S σ c) (hc : c < 20) {x4 x5 x6 x7 : Option D} :
    ∃ M' T' σ' x4' x5' x6' x7', loopD [some (.obj b), some (.obj i), some (.obj j2), some (.obj j3), x4, x5, x6, x7] M = some (.nx [some (.obj b), some (.obj i), some (.obj j2), some (.obj j3), x4', x5', x6', x7'], M') ∧
      NI b i j2 j3 M' T' (fun l => S l ∨ l.own = false) σ' (c + 8) := by
  obtain ⟨M1, T1, σ1, y5, y6, y7, e1, n1⟩ := loopR_ok hb h2 h3 h23 false h (by omega) (x5 := x5) (x6 := x6) (x7 := x7)
  obtain ⟨M2, T2, σ2, z5, z6, z7, e2, n2⟩ := loopR_ok hb h2 h3 h23 true n1 (by omega) (x5 := y5) (x6 := y6) (x7 := y7)
  refine ⟨M2, T2, σ2, some (.int (bi true)), z5, z6, z7, for2 (rng2 _ _) rfl e1 rfl e2, n2.weak (fun l => ?_) (by omega)⟩
  obtain ⟨a1, a2, a3, a4⟩ := l
  constructor
  · rintro (x | x1)
    · exact .inl (.inl x)
    · cases a2
      · exact .inl (.inr ⟨x1, rfl⟩)
      · exact .inr ⟨x1, rfl⟩
  · rintro ((x | ⟨x1, _⟩) | ⟨x1, _⟩)
    · exact .inl x
    · exact .inr x1
    · exact .inr x1
end
def σ0 (l : Lb) : PT.Tm := .name ⟨false, l.d, l.r, l.k⟩
theorem named_ok (hb : BoxAt M b) (ht : Tab M i T0) (hbi : b < i) : ∃ M' T' σ', fn__law_named [.obj b, .obj i] M = some (.tup [.obj M.length, .obj (M.length + 1)], M') ∧ NI b i M.length (M.length + 1) M' T' (fun l => l.own = false) σ' 8 := by
  have lt := tab_lt ht
  have h0 : NI b i M.length (M.length + 1) (M ++ [.dct [], .dct []]) T0 (fun _ => False) σ0 0 := ⟨ht.app, by
    obtain ⟨x0, x1, x2, x3, e⟩ := hb
    exact ⟨x0, x1, x2, x3, by rw [List.getElem?_append_left (some_lt e)]; exact e⟩, ⟨[], by simp, Nat.zero_le _, fun l h => h.elim, fun p h => (nomatch h)⟩, ⟨[], by rw [List.getElem?_append_right (by omega)]; simp, Nat.zero_le _, fun l h => h.elim⟩,
    fun l => ⟨.name ⟨false, l.d, l.r, l.k⟩ rfl, by show 1 ≤ 2; decide, by show 1 ≤ 4; decide⟩, fun l h => h.elim, Nat.zero_le _⟩
  obtain ⟨M', T', σ', y4, y5, y6, y7, e, n⟩ := loopD_ok hbi lt (by omega) (by omega) h0 (by decide) (x4 := none) (x5 := none) (x6 := none) (x7 := none)
  refine ⟨M', T', σ', ?_, n.weak (fun l => by simp) (by decide)⟩
  unfold fn__law_named fb__law_named
  rw [runF_eq, show stD 8 [.obj b, .obj i] = [some (.obj b), some (.obj i), none, none, none, none, none, none] from rfl]
  rw [seq_nx (show _ = some (Out.nx [some (.obj b), some (.obj i), some (.obj M.length), none, none, none, none, none], M ++ [.dct []]) by simp [eDctN]),
    seq_nx (show _ = some (Out.nx [some (.obj b), some (.obj i), some (.obj M.length), some (.obj (M.length + 1)), none, none, none, none], M ++ [.dct [], .dct []]) by simp [eDctN])]
  have e : sFor (iRngD (aCons (eC (.int 2)) aNil)) (gNm 4) (sFor (iStrD (eC (.str (Str.ofString "nr")))) (gNm 5) (sFor (iRngD (aCons (eC (.int 2)) aNil)) (gNm 6) stepF)) [some (.obj b), some (.obj i), some (.obj M.length), some (.obj (M.length + 1)), none, none, none, none] (M ++ [.dct [], .dct []]) = _ := e
  unfold stepF at e
  rw [seq_nx e]
  simp
end
end PM
/-! What is told of the names; the law's right. -/
namespace PM
open PySem PySem.Spec PyProof.Rows L2 DL DR PT
mutual
theorem ev_congr {N : Nu} {e e' : Lb → F} : ∀ t : PT.Tm, (∀ l ∈ nms t, e l = e' l) → ev N e t = ev N e' t
  | .num n, _ => rfl
  | .name l, h => h l List.mem_cons_self
  | .op o ts, h => by
    show made N o (evs N e ts) = made N o (evs N e' ts)
    rw [evs_congr ts h]
theorem evs_congr {N : Nu} {e e' : Lb → F} : ∀ ts : List PT.Tm, (∀ l ∈ nmss ts, e l = e' l) → evs N e ts = evs N e' ts
  | [], _ => rfl
  | t :: r, h => by
    show ev N e t :: evs N e r = ev N e' t :: evs N e' r
    rw [ev_congr t fun l hl => h l (List.mem_append_left _ hl), evs_congr r fun l hl => h l (List.mem_append_right _ hl)]
end
mutual
theorem sub_wt {σ : Lb → PT.Tm} (hσ : ∀ l, WT (σ l) l.r) : ∀ (t : PT.Tm) (r : Bool), WT t r → WT (sub σ t) r
  | .num n, _, h => h
  | .name l, _, h => by
    cases h
    exact hσ l
  | .op o ts, _, h => by
    cases h with
    | op sg hs w => exact .op sg hs (subs_wt hσ ts _ w)
theorem subs_wt {σ : Lb → PT.Tm} (hσ : ∀ l, WT (σ l) l.r) : ∀ (ts : List PT.Tm) (ks : List Bool), WTs ts ks → WTs (subs σ ts) ks
  | [], _, h => by
    cases h
    exact .nil
  | t :: r, _, h => by
    cases h with
    | cons h1 h2 => exact .cons (sub_wt hσ t _ h1) (subs_wt hσ r _ h2)
end
mutual
theorem sub_dep {σ : Lb → PT.Tm} {k : Nat} (hσ : ∀ l, dep (σ l) ≤ k + 1) : ∀ t : PT.Tm, dep (sub σ t) ≤ dep t + k
  | .num n => by show 1 ≤ 1 + k; omega
  | .name l => by
    show dep (σ l) ≤ 1 + k
    have := hσ l
    omega
  | .op o ts => by
    show 1 + deps (subs σ ts) ≤ 1 + deps ts + k
    have := subs_dep hσ ts
    omega
theorem subs_dep {σ : Lb → PT.Tm} {k : Nat} (hσ : ∀ l, dep (σ l) ≤ k + 1) : ∀ ts : List PT.Tm, deps (subs σ ts) ≤ deps ts + k
  | [] => Nat.zero_le _
  | t :: r => by
    show max (dep (sub σ t)) (deps (subs σ r)) ≤ max (dep t) (deps r) + k
    have := sub_dep hσ t
    have := subs_dep hσ r
    omega
end
section
variable {M M1 M2 : List MO} {b i j j2 j3 j6 : Nat} {m : Int} {r : Bool} {t s o : PT.Tm} {d n c : Nat} {T T1 : Tb} {S : Lb → Prop} {σ : Lb → PT.Tm} {told : Lb → F}
theorem EnvAt.ext {env : Lb → F} {P : Lb → Prop} (h : EnvAt M j T env P) (e : Ext M M1) : EnvAt M1 j T env P := by
  obtain ⟨kvs, h1, h2⟩ := h
  exact ⟨kvs, e.get h1, h2⟩
theorem own_wf (N : Nu) (l : Lb) : WF N (ownF l) l.r := leaf_wf N ⟨true, l.d, l.r, l.k⟩
/-- what is told so far -/
structure TI (b i j2 j3 j6 : Nat) (kn : List (NestedKey × D)) (σ : Lb → PT.Tm) (M : List MO) (T : Tb) (P : Lb → Prop) (told : Lb → F) (c : Nat) : Prop where
  tab : Tab M i T
  box : BoxAt M b
  n : M[j2]? = some (.dfz kn)
  e : EnvAt M j3 T ownF (fun l => l.own = false)
  v : ∃ kv, M[j6]? = some (.dct kv) ∧ kv.length ≤ c ∧ ∀ l, P l → valD kv (nk l) = some (.int (idx T.C (told l) : Nat)) ∧ told l ∈ T.C ∧ (told l).isR = l.r ∧ ∀ N, Ag N T → told l = ev N ownF (σ l)
  own : ∀ l, P l → l.own = false
  lf : ∀ l, l.own = true → told l = leaf l
  sz : PM.sz T ≤ 16 + 20 * c
theorem told_loop (hb : b < i) (h2 : i + 4 < j2) (h3 : i + 4 < j3) (h6 : i + 4 < j6) (h26 : j2 ≠ j6) (h36 : j3 ≠ j6) {kn : List (NestedKey × D)} (fit : ∀ l, Fit (σ l) l.r 2 4) (hk : ∀ l, l.own = false → valD kn (nk l) = some (tD (σ l))) {x1 x2 x8 x9 : Option D} :
    ∀ (L : List Lb) (M : List MO) (T : Tb) (P : Lb → Prop) (told : Lb → F) (c : Nat) (x7 : Option D), (∀ l ∈ L, l.own = false) → TI b i j2 j3 j6 kn σ M T P told c → c + L.length < 1000 →
    ∃ M' T' told' y, forD (gNm 7) (sDput (eFn 3 (fn_form_of FU) (aCons (eVar 3) (aCons (eOp gDget (eVar 4) (eVar 7)) (aCons (eVar 5) aNil)))) (eVar 6) (eVar 7)) (L.map lD) [some (.obj b), x1, x2, some (.obj i), some (.obj j2), some (.obj j3), some (.obj j6), x7, x8, x9] M = some (.nx [some (.obj b), x1, x2, some (.obj i), some (.obj j2), some (.obj j3), some (.obj j6), y, x8, x9], M') ∧
      TI b i j2 j3 j6 kn σ M' T' (fun l => P l ∨ l ∈ L) told' (c + L.length)
  | [], M, T, P, told, c, x7, _, h, _ => ⟨M, T, told, x7, rfl, by
      have e : (fun l => P l ∨ l ∈ ([] : List Lb)) = P := funext fun l => by simp
      rw [e]; exact h⟩
  | l :: L, M, T, P, told, c, x7, ho, h, hc => by
    have hol := ho l List.mem_cons_self
    have hc' : c + (L.length + 1) < 1000 := hc
    obtain ⟨kv, v1, v2, v3⟩ := h.v
    have fl := fit l
    obtain ⟨M1, T1, f, e1, tb1, g1, fr1, s1, m1, r1, w1⟩ := form_ok (j := j3) (P := fun l => l.own = false) (σ l) l.r FU M T fl.1 (Nat.le_trans fl.2.1 (by decide)) h.tab h3 h.e (fun x hx => wt_own _ _ fl.1 x hx) (by have := h.sz; have := fl.2.2; omega)
    have q6 : M1[j6]? = some (.dct kv) := by rw [fr1.at_ j6 (some_lt v1) (.inr h6)]; exact v1
    have q2 : M1[j2]? = some (.dfz kn) := by rw [fr1.at_ j2 (some_lt h.n) (.inr h2)]; exact h.n
    have q3 := h.e.mono fr1 g1 h3
    have pl := putN_length kv (nk l) (.int (idx T1.C f : Nat))
    have sl := fl.2.2
    have hI : TI b i j2 j3 j6 kn σ (M1.set j6 (.dct (putN kv (nk l) (.int (idx T1.C f : Nat))))) T1 (fun x => P x ∨ x = l) (fun x => if x = l then f else told x) (c + 1) := by
      refine ⟨tab_set tb1 h6, box_set (box_fr h.box fr1 hb) (by omega), by rw [List.getElem?_set_ne h26.symm]; exact q2, ?_, ⟨_, get_set q6, by omega, fun x hx => ?_⟩, fun x hx => ?_, fun x hx => ?_, ?_⟩
      · obtain ⟨kt, a1, a2⟩ := q3
        exact ⟨kt, by rw [List.getElem?_set_ne h36.symm]; exact a1, a2⟩
      · rw [putN_val]
        by_cases e : x = l
        · subst e
          rw [if_pos rfl, if_pos rfl]
          exact ⟨rfl, m1, r1, w1⟩
        · have hx' : P x := hx.elim (fun z => z) fun z => absurd z e
          rw [if_neg fun z => e (nk_inj (h.own x hx') hol z), if_neg e]
          obtain ⟨a1, a2, a3, a4⟩ := v3 x hx'
          exact ⟨by rw [a1, g1.ic a2], g1.mc a2, a3, fun N hN => a4 N (hN.mono g1)⟩
      · rcases hx with hx | hx
        · exact h.own x hx
        · rw [hx]; exact hol
      · rw [if_neg fun z => by rw [z, hol] at hx; cases hx]
        exact h.lf x hx
      · have := h.sz
        omega
    obtain ⟨M2, T2, told2, y, e2, i2⟩ := told_loop hb h2 h3 h6 h26 h36 fit hk L _ _ _ _ _ (some (lD l)) (fun x hx => ho x (List.mem_cons_of_mem _ hx)) hI (by omega)
    refine ⟨M2, T2, told2, y, ?_, ?_⟩
    · refine Eq.trans ?_ e2
      have kk : keyD (lD l) = some (nk l) := (nk_key l).get
      have lk : kv.length < 100000 := by omega
      have dg : gDget (.obj j2) (lD l) M = some (tD (σ l)) := by
        show (keyD (lD l)).bind (fun k => (dctOf (.obj j2) M).bind fun kvs => valD kvs k) = _
        have : dctOf (.obj j2) M = some kn := by
          show (match M[j2]? with
            | some (.dct kvs) => some kvs
            | some (.dfz kvs) => some kvs
            | _ => none) = _
          rw [h.n]
        rw [kk, this]
        exact hk l hol
      rw [List.map_cons]
      simp [forD, gNm, dg, e1, q6, kk, lk]
    · have e : (fun x => (P x ∨ x = l) ∨ x ∈ L) = fun x => P x ∨ x ∈ l :: L := funext fun x => propext (by simp [or_assoc])
      rw [e] at i2
      have e3 : c + 1 + L.length = c + (l :: L).length := by simp; omega
      rw [← e3]
      exact i2
theorem keys_list {P : Lb → Prop} : ∀ kn : List (NestedKey × D), (∀ p ∈ kn, ∃ l, P l ∧ p.1 = nk l) → ∃ L : List Lb, keysD kn = L.map lD ∧ L.length = kn.length ∧ (∀ l ∈ L, P l) ∧ ∀ p ∈ kn, ∃ l ∈ L, p.1 = nk l
  | [], _ => ⟨[], rfl, rfl, fun l h => (nomatch h), fun p h => (nomatch h)⟩
  | p :: r, h => by
    obtain ⟨L, e1, e2, e3, e4⟩ := keys_list r fun q hq => h q (List.mem_cons_of_mem _ hq)
    obtain ⟨l, hl, e⟩ := h p List.mem_cons_self
    refine ⟨l :: L, ?_, by simp [e2], fun x hx => ?_, fun q hq => ?_⟩
    · show kd p.1 :: keysD r = lD l :: L.map lD
      rw [e1, e]; rfl
    · rcases List.mem_cons.mp hx with rfl | hx
      · exact hl
      · exact e3 x hx
    · rcases List.mem_cons.mp hq with rfl | hq
      · exact ⟨l, List.mem_cons_self, e⟩
      · obtain ⟨x, hx, ex⟩ := e4 q hq
        exact ⟨x, List.mem_cons_of_mem _ hx, ex⟩
theorem val_key {kn : List (NestedKey × D)} {k : NestedKey} {d : D} : valD kn k = some d → ∃ p ∈ kn, p.1 = k := by
  induction kn with
  | nil => intro h; cases h
  | cons p r ih =>
    intro h
    by_cases e : p.1 = k
    · exact ⟨p, List.mem_cons_self, e⟩
    · rw [valD_neg e] at h
      obtain ⟨q, hq, eq⟩ := ih h
      exact ⟨q, List.mem_cons_of_mem _ hq, eq⟩
/-- all is told -/
structure GS (b i j3 j6 : Nat) (σ : Lb → PT.Tm) (told : Lb → F) (M : List MO) (T : Tb) (c : Nat) : Prop where
  tab : Tab M i T
  box : BoxAt M b
  e3 : EnvAt M j3 T ownF (fun l => l.own = false)
  e6 : EnvAt M j6 T told (fun l => l.own = false)
  v : ∀ l, l.own = false → ∀ N, Ag N T → told l = ev N ownF (σ l)
  sz : PM.sz T ≤ c
theorem GS.ext (h : GS b i j3 j6 σ told M T c) (e : Ext M M1) : GS b i j3 j6 σ told M1 T c := ⟨tab_ext h.tab e, box_ext h.box e, h.e3.ext e, h.e6.ext e, h.v, h.sz⟩
theorem GS.fr (h : GS b i j3 j6 σ told M T c) (hb : b < i) (h3 : i + 4 < j3) (h6 : i + 4 < j6) (tb : Tab M1 i T1) (g : Gr T T1) (f : Fr i M M1) {c' : Nat} (s : PM.sz T1 ≤ PM.sz T + c') : GS b i j3 j6 σ told M1 T1 (c + c') :=
  ⟨tb, box_fr h.box f hb, h.e3.mono f g h3, h.e6.mono f g h6, fun l hl N hN => h.v l hl N (hN.mono g), by have := h.sz; omega⟩
theorem gs_form (h : GS b i j3 j6 σ told M T c) (hb : b < i) (h3 : i + 4 < j3) (h6 : i + 4 < j6) {q : Bool} (w : WT t q) (hd : dep t ≤ FU) (hs : siz t ≤ 150) (hc : c ≤ 10000) : ∃ M1 T1 f, fn_form_of FU [.obj i, tD t, .obj j6] M = some (.int (idx T1.C f : Nat), M1) ∧ GS b i j3 j6 σ told M1 T1 (c + 750) ∧ Gr T T1 ∧ f ∈ T1.C ∧ ∀ N, Ag N T1 → f = ev N told t := by
  obtain ⟨M1, T1, f, e1, tb1, g1, fr1, s1, m1, r1, w1⟩ := form_ok (j := j6) (P := fun l => l.own = false) t q FU M T w hd h.tab h6 h.e6 (fun x hx => wt_own _ _ w x hx) (by have := h.sz; omega)
  exact ⟨M1, T1, f, e1, h.fr hb h3 h6 tb1 g1 fr1 (by omega), g1, m1, w1⟩
theorem gs_form3 (h : GS b i j3 j6 σ told M T c) (hb : b < i) (h3 : i + 4 < j3) (h6 : i + 4 < j6) {q : Bool} (w : WT t q) (hd : dep t ≤ FU) (hs : siz t ≤ 150) (hc : c ≤ 10000) : ∃ M1 T1 f, fn_form_of FU [.obj i, tD t, .obj j3] M = some (.int (idx T1.C f : Nat), M1) ∧ GS b i j3 j6 σ told M1 T1 (c + 750) ∧ Gr T T1 ∧ f ∈ T1.C ∧ ∀ N, Ag N T1 → f = ev N ownF t := by
  obtain ⟨M1, T1, f, e1, tb1, g1, fr1, s1, m1, r1, w1⟩ := form_ok (j := j3) (P := fun l => l.own = false) t q FU M T w hd h.tab h3 h.e3 (fun x hx => wt_own _ _ w x hx) (by have := h.sz; omega)
  exact ⟨M1, T1, f, e1, h.fr hb h3 h6 tb1 g1 fr1 (by omega), g1, m1, w1⟩
theorem told_wf (fit : ∀ l, Fit (σ l) l.r 2 4) (lf : ∀ l, l.own = true → told l = leaf l) {N : Nu} (hv : ∀ l, l.own = false → told l = ev N ownF (σ l)) (l : Lb) : WF N (told l) l.r := by
  cases h : l.own with
  | true => rw [lf l h]; exact leaf_wf N l
  | false => rw [hv l h]; exact ev_wf (own_wf N) _ _ (fit l).1
end
end PM
/-! The law's right, the law. -/
namespace PM
open PySem PySem.Spec PyProof.Rows L2 DL DR PT
section
variable {M M1 M2 : List MO} {b i j j2 j3 j6 : Nat} {m : Int} {r : Bool} {t s o : PT.Tm} {d n c : Nat} {T T1 : Tb} {S : Lb → Prop} {σ : Lb → PT.Tm} {told : Lb → F}
theorem sSeq_one {f g : TFS} {δ δ1 : List (Option D)} {M M1 : List MO} {res : Option (Out × List MO)} (h : f δ M = some (.nx δ1, M1)) (e : g δ1 M1 = res) : sSeq f g δ M = res := by rw [seq_nx h]; exact e
/-- behind what is told -/
theorem right_end (hb : b < i) (h3 : i + 4 < j3) (h6 : i + 4 < j6) {q1 q2 : Bool} {t1 t2 : PT.Tm} (f1 : Fit t1 q1 7 140) (f2 : Fit t2 q2 7 140) (fit : ∀ l, Fit (σ l) l.r 2 4) (lf : ∀ l, l.own = true → told l = leaf l)
    (h : GS b i j3 j6 σ told M T 400) {x4 x7 : Option D} :
    ∃ M', (sSeq (sIf (eT (eOp (gIs false) (eFn 2 fn_alike (aCons (eVar 1) (aCons (eVar 2) aNil))) (eC (.bl true)))) (sSeq (sIf (eT (eOp gNe (eFn 3 (fn_form_of FU) (aCons (eVar 3) (aCons (eVar 1) (aCons (eVar 6) aNil)))) (eFn 3 (fn_form_of FU) (aCons (eVar 3) (aCons (eVar 2) (aCons (eVar 6) aNil)))))) (sRet (eC (.bl false))) sNil)
    (sIf (eAnd (eT (eOp gLe (eCall gMax2 (aCons (eFn 1 (fn__law_parts FU) (aCons (eVar 8) aNil)) (aCons (eFn 1 (fn__law_parts FU) (aCons (eVar 9) aNil)) aNil))) (eC (.int 60)))) (eT (eOp (gIs true) (eFn 2 fn_alike (aCons (eVar 8) (aCons (eVar 9) aNil))) (eC (.bl true))))) (sRet (eC (.bl false))) sNil)) sNil)
    (sRet (eOrV (eOp gGt (eFn 1 (fn__law_parts FU) (aCons (eVar 8) aNil)) (eC (.int 60))) (eOp gEq (eFn 3 (fn_form_of FU) (aCons (eVar 3) (aCons (eVar 1) (aCons (eVar 6) aNil)))) (eFn 3 (fn_form_of FU) (aCons (eVar 3) (aCons (eVar 8) (aCons (eVar 5) aNil))))))))
      [some (.obj b), some (tD t1), some (tD t2), some (.obj i), x4, some (.obj j3), some (.obj j6), x7, some (tD (sub σ t1)), some (tD (sub σ t2))] M = some (.rt (.bl true), M') ∧ BoxAt M' b := by
  obtain ⟨w1, d1, s1⟩ := f1
  obtain ⟨w2, d2, s2⟩ := f2
  have hσ : ∀ l, WT (σ l) l.r := fun l => (fit l).1
  have u1 := sub_wt hσ t1 q1 w1
  have u2 := sub_wt hσ t2 q2 w2
  have hd1 : dep (sub σ t1) ≤ FU := Nat.le_trans (sub_dep (k := 1) (fun l => (fit l).2.1) t1) (by show dep t1 + 1 ≤ 24; omega)
  have hd2 : dep (sub σ t2) ≤ FU := Nat.le_trans (sub_dep (k := 1) (fun l => (fit l).2.1) t2) (by show dep t2 + 1 ≤ 24; omega)
  have k1 : dep t1 ≤ FU := by show dep t1 ≤ 24; omega
  have k2 : dep t2 ≤ FU := by show dep t2 ≤ 24; omega
  -- the last line
  have last : ∀ (M : List MO) (T : Tb) (c : Nat), GS b i j3 j6 σ told M T c → c ≤ 5000 → ∃ M', (sRet (eOrV (eOp gGt (eFn 1 (fn__law_parts FU) (aCons (eVar 8) aNil)) (eC (.int 60))) (eOp gEq (eFn 3 (fn_form_of FU) (aCons (eVar 3) (aCons (eVar 1) (aCons (eVar 6) aNil)))) (eFn 3 (fn_form_of FU) (aCons (eVar 3) (aCons (eVar 8) (aCons (eVar 5) aNil)))))))
      [some (.obj b), some (tD t1), some (tD t2), some (.obj i), x4, some (.obj j3), some (.obj j6), x7, some (tD (sub σ t1)), some (tD (sub σ t2))] M = some (.rt (.bl true), M') ∧ BoxAt M' b := fun M T c h hc => by
    obtain ⟨Ma, ea, xa⟩ := parts_ok (sub σ t1) FU M q1 u1 hd1
    have ha := h.ext xa
    by_cases hs : siz (sub σ t1) > 60
    · have g : gGt (.int (siz (sub σ t1) : Nat)) (.int 60) Ma = some (.bl true) := by
        show some (D.bl (decide ((60 : Int) < siz (sub σ t1)))) = _
        rw [decide_eq_true (by omega)]
      exact ⟨Ma, by simp [ea, g], ha.box⟩
    · have g : gGt (.int (siz (sub σ t1) : Nat)) (.int 60) Ma = some (.bl false) := by
        show some (D.bl (decide ((60 : Int) < siz (sub σ t1)))) = _
        rw [decide_eq_false (by omega)]
      obtain ⟨Mb, Tb', fb, eb, hb', gb, mb, vb⟩ := gs_form ha hb h3 h6 w1 k1 (by omega) (by omega)
      obtain ⟨Mc, Tc, fc, ec, hc', gc, mc, vc⟩ := gs_form3 hb' hb h3 h6 u1 hd1 (by omega) (by omega)
      have ag := nuOf_ag Tc
      have e1 : fb = ev (nuOf Tc) told t1 := vb _ (ag.mono gc)
      have e2 : fc = ev (nuOf Tc) ownF (sub σ t1) := vc _ ag
      have e3 : fb = fc := by
        rw [e1, e2, ev_sub]
        exact ev_congr t1 fun l hl => hc'.v l (wt_own _ _ w1 l hl) _ ag
      refine ⟨Mc, ?_, hc'.box⟩
      have q : gEq (.int (idx Tb'.C fb : Nat)) (.int (idx Tc.C fc : Nat)) Mc = some (.bl true) := by
        rw [rule_cmp, ← gc.ic mb, e3]
        simp
      simp [ea, g, eb, ec, q]
  obtain ⟨Ma, ba, Na, ea, xa, ia⟩ := alike_ok (M := M) w1 w2 k1 k2 (by omega) (by omega)
  have ha := h.ext xa
  cases ba with
  | false =>
    obtain ⟨M', e, bx⟩ := last Ma T 400 ha (by decide)
    refine ⟨M', sSeq_one (δ1 := [some (.obj b), some (tD t1), some (tD t2), some (.obj i), x4, some (.obj j3), some (.obj j6), x7, some (tD (sub σ t1)), some (tD (sub σ t2))]) (M1 := Ma) ?_ e, bx⟩
    have g : gIs false (.bl false) (.bl true) Ma = some (.bl false) := rfl
    simp [ea, g]
  | true =>
    have eq1 := ia.mp rfl
    obtain ⟨Mb, Tb', fb, eb, hb', gb, mb, vb⟩ := gs_form ha hb h3 h6 w1 k1 (by omega) (by decide)
    obtain ⟨Mc, Tc, fc, ec, hc', gc, mc, vc⟩ := gs_form hb' hb h3 h6 w2 k2 (by omega) (by decide)
    have ag := nuOf_ag Tc
    have e1 : fb = ev (nuOf Tc) told t1 := vb _ (ag.mono gc)
    have e2 : fc = ev (nuOf Tc) told t2 := vc _ ag
    have e3 : fb = fc := by
      rw [e1, e2]
      exact alike_all (fun l => told_wf fit lf (fun l hl => hc'.v l hl _ ag) l) w1 w2 eq1
    have ne : gNe (.int (idx Tb'.C fb : Nat)) (.int (idx Tc.C fc : Nat)) Mc = some (.bl false) := by
      rw [← gc.ic mb, e3]
      show some (D.bl (!((idx Tc.C fc : Int) == (idx Tc.C fc : Int)))) = _
      rw [beq_self_eq_true]; rfl
    obtain ⟨Md, ed, xd⟩ := parts_ok (sub σ t1) FU Mc q1 u1 hd1
    obtain ⟨Me, ee, xe⟩ := parts_ok (sub σ t2) FU Md q2 u2 hd2
    have he := (hc'.ext xd).ext xe
    have g1 : gIs false (.bl true) (.bl true) Ma = some (.bl true) := rfl
    have mid : ∃ Mf, Ext Me Mf ∧ sIf (eAnd (eT (eOp gLe (eCall gMax2 (aCons (eFn 1 (fn__law_parts FU) (aCons (eVar 8) aNil)) (aCons (eFn 1 (fn__law_parts FU) (aCons (eVar 9) aNil)) aNil))) (eC (.int 60)))) (eT (eOp (gIs true) (eFn 2 fn_alike (aCons (eVar 8) (aCons (eVar 9) aNil))) (eC (.bl true))))) (sRet (eC (.bl false))) sNil
        [some (.obj b), some (tD t1), some (tD t2), some (.obj i), x4, some (.obj j3), some (.obj j6), x7, some (tD (sub σ t1)), some (tD (sub σ t2))] Mc = some (.nx [some (.obj b), some (tD t1), some (tD t2), some (.obj i), x4, some (.obj j3), some (.obj j6), x7, some (tD (sub σ t1)), some (tD (sub σ t2))], Mf) := by
      have gm : gMax2 [.int (siz (sub σ t1) : Nat), .int (siz (sub σ t2) : Nat)] Me = some (.int (if (siz (sub σ t2) : Int) > siz (sub σ t1) then (siz (sub σ t2) : Int) else siz (sub σ t1))) := rfl
      generalize hz : (if (siz (sub σ t2) : Int) > siz (sub σ t1) then (siz (sub σ t2) : Int) else siz (sub σ t1)) = z at gm
      have z1 : (siz (sub σ t1) : Int) ≤ z ∧ (siz (sub σ t2) : Int) ≤ z := by
        rw [← hz]
        split <;> omega
      by_cases h60 : z ≤ 60
      · have gl : gLe (.int z) (.int 60) Me = some (.bl true) := by
          show some (D.bl (decide (z ≤ 60))) = _
          rw [decide_eq_true h60]
        obtain ⟨Mf, bf, Nf, ef, xf, jf⟩ := alike_ok (M := Me) u1 u2 hd1 hd2 (by omega) (by omega)
        have bt : bf = true := jf.mpr (alike_sub hσ w1 w2 eq1)
        subst bt
        have gi : gIs true (.bl true) (.bl true) Mf = some (.bl false) := rfl
        exact ⟨Mf, xf, by simp [ed, ee, gm, gl, ef, gi]⟩
      · have gl : gLe (.int z) (.int 60) Me = some (.bl false) := by
          show some (D.bl (decide (z ≤ 60))) = _
          rw [decide_eq_false h60]
        exact ⟨Me, .refl Me, by simp [ed, ee, gm, gl]⟩
    obtain ⟨Mf, xf, ef⟩ := mid
    obtain ⟨M', e, bx⟩ := last Mf Tc _ (he.ext xf) (by decide)
    refine ⟨M', sSeq_one (δ1 := [some (.obj b), some (tD t1), some (tD t2), some (.obj i), x4, some (.obj j3), some (.obj j6), x7, some (tD (sub σ t1)), some (tD (sub σ t2))]) (M1 := Mf) ?_ e, bx⟩
    rw [sIf_eq]
    simp only [eT_eq, eOp_eq, eFn_eq, aCons_eq, aNil_eq, eVar_eq, eC_eq, List.getElem?_cons_zero, List.getElem?_cons_succ, Option.bind_some, Option.map_some, List.length_cons, List.length_nil, Nat.zero_add, Nat.reduceAdd, if_true, ea, g1]
    rw [seq_nx (show _ = some (Out.nx [some (.obj b), some (tD t1), some (tD t2), some (.obj i), x4, some (.obj j3), some (.obj j6), x7, some (tD (sub σ t1)), some (tD (sub σ t2))], Mc) by simp [eb, ec, ne])]
    exact ef
theorem right_ok (hbx : BoxAt M b) : ∃ M', fn__law_right [.obj b] M = some (.bl true, M') ∧ BoxAt M' b := by
  obtain ⟨t1, t2, q1, q2, M1, e1, f1, f2, r1⟩ := pair_ok hbx
  have lb : b < M1.length := by
    obtain ⟨_, _, _, _, e⟩ := r1.box
    exact some_lt e
  obtain ⟨X, a1, a2⟩ := forms_ok [some (.obj b), some (tD t1), some (tD t2), none, none, none, none, none, none, none] M1
  have bx2 := box_ext r1.box (Ext.app M1 X)
  have lt := tab_lt a2
  obtain ⟨M3, T3, σ, e3, ni⟩ := named_ok bx2 a2 lb
  obtain ⟨kn, n1, n2, n3, n4⟩ := ni.n
  obtain ⟨kt, t0, _, t3⟩ := ni.t
  have l2 := some_lt n1
  have l3 := some_lt t0
  generalize hj : (M1 ++ X).length = j2 at *
  have e4 : Ext M3 (M3 ++ [MO.dct []]) := .app _ _
  obtain ⟨L, k1, k2, k3, k4⟩ := keys_list kn n4
  have g2 : (M3 ++ [MO.dct []])[j2]? = some (.dct kn) := e4.get n1
  have ti : TI b M1.length j2 (j2 + 1) M3.length kn σ ((M3 ++ [MO.dct []]).set j2 (.dfz kn)) T3 (fun _ => False) leaf 0 := by
    refine ⟨tab_set (tab_ext ni.tab e4) lt, box_set (box_ext ni.box e4) (by omega), get_set g2, ⟨kt, by rw [List.getElem?_set_ne (by omega)]; exact e4.get t0, fun l hl => ?_⟩, ⟨[], by rw [List.getElem?_set_ne (by omega)]; simp, Nat.le_refl _, fun l h => h.elim⟩, fun l h => h.elim, fun l _ => rfl, by have := ni.sz; omega⟩
    obtain ⟨y1, y2⟩ := t3 l hl
    exact ⟨y1, y2, leaf_isR _⟩
  obtain ⟨M5, T5, told, y7, e5, t5⟩ := told_loop (x1 := some (tD t1)) (x2 := some (tD t2)) (x8 := none) (x9 := none) lb lt (by omega) (by omega) (by omega) (by omega) ni.fit (fun l hl => n3 l hl) L _ T3 _ leaf 0 none k3 ti (by omega)
  obtain ⟨kv, v1, v2, v3⟩ := t5.v
  have all : ∀ l, l.own = false → l ∈ L := fun l hl => by
    obtain ⟨p, hp, ep⟩ := val_key (n3 l hl)
    obtain ⟨x, hx, ex⟩ := k4 p hp
    have : x = l := nk_inj (k3 x hx) hl (ex.symm.trans ep)
    rw [← this]; exact hx
  have gs : GS b M1.length (j2 + 1) M3.length σ told (M5.set j2 (.dct kn)) T5 400 := by
    obtain ⟨kt', z1, z2⟩ := t5.e
    refine ⟨tab_set t5.tab lt, box_set t5.box (by omega), ⟨kt', by rw [List.getElem?_set_ne (by omega)]; exact z1, z2⟩, ⟨kv, by rw [List.getElem?_set_ne (by omega)]; exact v1, fun l hl => ?_⟩, fun l hl => ?_, ?_⟩
    · obtain ⟨y1, y2, y3, _⟩ := v3 l (.inr (all l hl))
      exact ⟨y1, y2, y3⟩
    · exact (v3 l (.inr (all l hl))).2.2.2
    · have := t5.sz
      omega
  have sa : SubAt (M5.set j2 (.dct kn)) j2 σ (fun l => l.own = false) := ⟨kn, get_set t5.n, n3⟩
  obtain ⟨M7, e7, x7⟩ := lput_ok t1 FU _ q1 f1.1 (by have := f1.2.1; show dep t1 ≤ 24; omega) sa (fun l hl => wt_own _ _ f1.1 l hl)
  obtain ⟨M8, e8, x8⟩ := lput_ok t2 FU _ q2 f2.1 (by have := f2.2.1; show dep t2 ≤ 24; omega) (sa.ext x7) (fun l hl => wt_own _ _ f2.1 l hl)
  obtain ⟨M9, e9, b9⟩ := right_end (x4 := some (.obj j2)) (x7 := y7) lb (show M1.length + 4 < j2 + 1 by omega) (show M1.length + 4 < M3.length by omega) f1 f2 ni.fit t5.lf ((gs.ext x7).ext x8)
  refine ⟨M9, ?_, b9⟩
  unfold fn__law_right fb__law_right
  rw [runF_eq, show stD 10 [D.obj b] = [some (.obj b), none, none, none, none, none, none, none, none, none] from rfl]
  rw [seq_nx (show _ = some (Out.nx [some (.obj b), some (tD t1), some (tD t2), none, none, none, none, none, none, none], M1) by simp [sUn2, e1]),
    seq_nx (show _ = some (Out.nx [some (.obj b), some (tD t1), some (tD t2), some (.obj M1.length), none, none, none, none, none, none], M1 ++ X) by simp [a1]),
    seq_nx (show _ = some (Out.nx [some (.obj b), some (tD t1), some (tD t2), some (.obj M1.length), some (.obj j2), some (.obj (j2 + 1)), none, none, none, none], M3) by simp [sUn2, e3]),
    seq_nx (show _ = some (Out.nx [some (.obj b), some (tD t1), some (tD t2), some (.obj M1.length), some (.obj j2), some (.obj (j2 + 1)), some (.obj M3.length), none, none, none], M3 ++ [MO.dct []]) by simp [eDctN]),
    seq_nx (show _ = some (Out.nx [some (.obj b), some (tD t1), some (tD t2), some (.obj M1.length), some (.obj j2), some (.obj (j2 + 1)), some (.obj M3.length), y7, none, none], M5.set j2 (.dct kn)) by
      unfold sForN
      simp only [List.getElem?_cons_zero, List.getElem?_cons_succ, g2, k1, e5, Option.bind_some]),
    seq_nx (show _ = some (Out.nx [some (.obj b), some (tD t1), some (tD t2), some (.obj M1.length), some (.obj j2), some (.obj (j2 + 1)), some (.obj M3.length), y7, some (tD (sub σ t1)), none], M7) by simp [e7]),
    seq_nx (show _ = some (Out.nx [some (.obj b), some (tD t1), some (tD t2), some (.obj M1.length), some (.obj j2), some (.obj (j2 + 1)), some (.obj M3.length), y7, some (tD (sub σ t1)), some (tD (sub σ t2))], M8) by simp [e8]), e9]
  rfl
theorem box_ok (x : Int) (M : List MO) : ∃ X, fn__law_box [.int x] M = some (.obj M.length, M ++ X) ∧ BoxAt (M ++ X) M.length := by
  refine ⟨[bx (x.fdiv 2) (x.fmod 2) 0 (x.fmod 2147483647)], ?_, x.fdiv 2, x.fmod 2, 0, x.fmod 2147483647, by simp⟩
  have g1 : ∀ Y, gDiv (.int x) (.int 2) Y = some (.int (x.fdiv 2)) := fun Y => rfl
  have g2 : ∀ Y, gMod (.int x) (.int 2) Y = some (.int (x.fmod 2)) := fun Y => rfl
  have g3 : ∀ Y, gMod (.int x) (.int 2147483647) Y = some (.int (x.fmod 2147483647)) := fun Y => rfl
  unfold fn__law_box fb__law_box
  rw [runF_eq, show stD 1 [D.int x] = [some (.int x)] from rfl]
  simp only [sRet_eq, eLstM_eq, aCons_eq, aNil_eq, eOp_eq, eC_eq, eVar_eq, List.getElem?_cons_zero, Option.bind_some, Option.map_some, g1, g2, g3, List.length_cons, List.length_nil, Nat.zero_add, Nat.reduceAdd, Nat.reduceLeDiff, if_true]
  rfl
noncomputable def turnF : TFS := sIf (eNot (eT (eFn 1 fn__law_right (aCons (eVar 2) aNil)))) (sRet (eC (.bl false))) sNil
theorem turns_ok {x0 x1 : Option D} : ∀ (L : List D) (M : List MO) (x3 : Option D), BoxAt M b → ∃ M' y, forD (gNm 3) turnF L [x0, x1, some (.obj b), x3] M = some (.nx [x0, x1, some (.obj b), y], M')
  | [], M, x3, _ => ⟨M, x3, rfl⟩
  | d :: L, M, x3, hb => by
    obtain ⟨M1, e1, b1⟩ := right_ok hb
    obtain ⟨M2, y, e2⟩ := turns_ok (x0 := x0) (x1 := x1) L M1 (some d) b1
    refine ⟨M2, y, ?_⟩
    refine Eq.trans ?_ e2
    have e3 : turnF [x0, x1, some (.obj b), some d] M = some (.nx [x0, x1, some (.obj b), some d], M1) := by
      unfold turnF
      simp [e1]
    show ((gNm 3 d [x0, x1, some (.obj b), x3]).bind fun δ1 => (turnF δ1 M).bind _) = _
    show ((turnF [x0, x1, some (.obj b), some d] M).bind _) = _
    rw [e3]
    rfl
theorem cells_ok {x0 : Option D} : ∀ (L : List Int) (M : List MO) (x1 x2 x3 : Option D), ∃ M' y1 y2 y3, forD (gNm 1) (sSeq (sSet 2 (eFn 1 fn__law_box (aCons (eVar 1) aNil))) (sFor (iRngD (aCons (eC (.int 3)) aNil)) (gNm 3) turnF)) (L.map D.int) [x0, x1, x2, x3] M = some (.nx [x0, y1, y2, y3], M')
  | [], M, x1, x2, x3 => ⟨M, x1, x2, x3, rfl⟩
  | c :: L, M, x1, x2, x3 => by
    obtain ⟨X, e1, b1⟩ := box_ok c M
    obtain ⟨M2, y3, e2⟩ := turns_ok (x0 := x0) (x1 := some (.int c)) [.int 0, .int 1, .int 2] (M ++ X) x3 b1
    obtain ⟨M3, y1, y2, z3, e3⟩ := cells_ok (x0 := x0) L M2 (some (.int c)) (some (.obj M.length)) y3
    refine ⟨M3, y1, y2, z3, ?_⟩
    refine Eq.trans ?_ e3
    have e4 : (sSeq (sSet 2 (eFn 1 fn__law_box (aCons (eVar 1) aNil))) (sFor (iRngD (aCons (eC (.int 3)) aNil)) (gNm 3) turnF)) [x0, some (.int c), x2, x3] M = some (.nx [x0, some (.int c), some (.obj M.length), y3], M2) := by
      rw [seq_nx (show _ = some (Out.nx [x0, some (.int c), some (.obj M.length), x3], M ++ X) by simp [e1])]
      exact e2
    rw [List.map_cons]
    show ((sSeq (sSet 2 (eFn 1 fn__law_box (aCons (eVar 1) aNil))) (sFor (iRngD (aCons (eC (.int 3)) aNil)) (gNm 3) turnF)) [x0, some (.int c), x2, x3] M).bind _ = _
    rw [e4]
    rfl
theorem pure_law (ns : List Int) (hl : ns.length ≤ 63) : ∃ M', fn_law [.frl (ns.map D.int)] [] = some (.bl true, M') := by
  have hc : ∃ x, fn__law_cell_at [.frl (ns.map D.int), .int 0] [] = some (.int x, []) := by
    cases ns with
    | nil => exact ⟨0, rfl⟩
    | cons x r =>
      have g : gLt (.int 0) (.int ((x :: r).length : Nat)) [] = some (.bl true) := by
        show some (D.bl (decide ((0 : Int) < ((x :: r).length : Nat)))) = _
        rw [decide_eq_true (by simp)]
      have gl : gLen [.frl ((x :: r).map D.int)] [] = some (.int ((x :: r).length : Nat)) := by
        show some (D.int (((x :: r).map D.int).length : Nat)) = _
        rw [List.length_map]
      have gi : gIx (.frl ((x :: r).map D.int)) (.int 0) [] = some (.int x) := atI_nat (l := (x :: r).map D.int) (n := 0) rfl
      refine ⟨x, ?_⟩
      unfold fn__law_cell_at fb__law_cell_at
      rw [runF_eq, show stD 2 [D.frl ((x :: r).map D.int), .int 0] = [some (.frl ((x :: r).map D.int)), some (.int 0)] from rfl]
      rw [seq_rt (show _ = some (Out.rt (.int x), []) by
        simp only [sIf_eq, eT_eq, eOp_eq, eVar_eq, eCall_eq, aCons_eq, aNil_eq, List.getElem?_cons_zero, List.getElem?_cons_succ, Option.bind_some, Option.map_some, gl, g, if_true, sRet_eq, gi])]
      rfl
  obtain ⟨x, ex⟩ := hc
  have cut : ∃ L : List Int, cutL (ns.map D.int) (some 1) (some 8) = L.map D.int ∧ L.length ≤ 63 := by
    unfold cutL
    rw [← List.map_drop, ← List.map_take]
    exact ⟨_, rfl, by rw [List.length_take, List.length_drop]; omega⟩
  obtain ⟨L, eL, lL⟩ := cut
  obtain ⟨M', y1, y2, y3, e⟩ := cells_ok (x0 := some (.frl (ns.map D.int))) (x :: L) [] none none none
  refine ⟨M', ?_⟩
  unfold fn_law fb_law
  rw [runF_eq, show stD 4 [D.frl (ns.map D.int)] = [some (.frl (ns.map D.int)), none, none, none] from rfl]
  have ga : gAdd (.lst [.int x]) (.lst (L.map D.int)) [] = some (.lst ((x :: L).map D.int)) := if_pos (by rw [List.length_map]; simp; omega)
  have gs : gSl (.frl (ns.map D.int)) (some 1) (some 8) [] = some (.lst (L.map D.int)) := by
    show some (D.lst (cutL (ns.map D.int) (some 1) (some 8))) = _
    rw [eL]
  have hd : (sFor (iLstD (eOp gAdd (eLst (aCons (eFn 2 fn__law_cell_at (aCons (eVar 0) (aCons (eC (.int 0)) aNil))) aNil)) (eSl (eVar 0) (oSome (eC (.int 1))) (oSome (eC (.int 8)))))) (gNm 1) (sSeq (sSet 2 (eFn 1 fn__law_box (aCons (eVar 1) aNil))) (sFor (iRngD (aCons (eC (.int 3)) aNil)) (gNm 3) turnF))) [some (.frl (ns.map D.int)), none, none, none] [] = some (.nx [some (.frl (ns.map D.int)), y1, y2, y3], M') := by
    refine Eq.trans ?_ e
    unfold sFor
    rw [iLst_lst (ds := (x :: L).map D.int) (M1 := []) (by
      simp only [eOp_eq, eLst_eq, eFn_eq, aCons_eq, aNil_eq, eVar_eq, eC_eq, eSl_eq, oSome_eq, List.getElem?_cons_zero, Option.bind_some, Option.map_some, List.length_cons, List.length_nil, Nat.zero_add, Nat.reduceAdd, Nat.reduceLeDiff, if_true, ex, gs, ga])]
    rfl
  unfold turnF at hd
  rw [seq_nx hd]
  simp
end
end PM
/-! Printed by gen.py: each def keeps its reading. -/
namespace DR
open PySem PySem.Spec PyProof.Rows L2 DL
def top (i : Nat) : Stmt := PySem.Challenge.pw_samepaper_k46_whole_put_in.main.body.getD i (.Pass ⟨0, 0, 0, 0⟩)
structure DefOk (K : PySem.W.Frag) (mg : Str → Option Value) (x : Str) (st : Stmt) (ps : List Str) (f : Addr) (fd : FuncData) : Prop where
  fn : Fun K x x st f fd
  gl : mg x = some (.ref f)
  bd : Binds K fd ps []
structure MethOk (K : PySem.W.Frag) (C : Addr) (m qual : Str) (st : Stmt) (ps : List Str) (f : Addr) (fd : FuncData) : Prop where
  fn : Fun K m qual st f fd
  me : Meth K C m f
  bd : Binds K fd ps []
structure Fx (K : PySem.W.Frag) (w : World) (mg : Str → Option Value) where
  C : Addr
  nsC : PySem.W.nsIn K mainGlobals "Forms" = some (some (.ref C))
  g_Forms : mg "Forms" = some (.ref C)
  cls : Cls K C
  no_contents : NoAttr K C "contents"
  no_numbers : NoAttr K C "numbers"
  no_thing_keys : NoAttr K C "thing_keys"
  no_things : NoAttr K C "things"
  t_LEAST : Tok
  g_LEAST : mg "LEAST" = some (.int (-32768) t_LEAST)
  t_TURN : Tok
  g_TURN : mg "TURN" = some (.int (65536) t_TURN)
  t_LONGEST : Tok
  g_LONGEST : mg "LONGEST" = some (.int (40) t_LONGEST)
  t_FIGURES : Tok
  g_FIGURES : mg "FIGURES" = some (.str "0123456789" t_FIGURES)
  a_SUMS : Addr
  g_SUMS : mg "SUMS" = some (.ref a_SUMS)
  k_SUMS : GTup K dSUMS a_SUMS
  a_OPERATIONS : Addr
  g_OPERATIONS : mg "OPERATIONS" = some (.ref a_OPERATIONS)
  k_OPERATIONS : OpsAt K w a_OPERATIONS opsT
  fr_len : mg "len" = none
  fr_max : mg "max" = none
  fr_min : mg "min" = none
  fr_sum : mg "sum" = none
  fr_sorted : mg "sorted" = none
  fr_int : mg "int" = none
  fr_tuple : mg "tuple" = none
  fr_str : mg "str" = none
  fr_isinstance : mg "isinstance" = none
  fr_range : mg "range" = none
  f_taken_in : Addr
  fd_taken_in : FuncData
  d_taken_in : DefOk K mg "taken_in" (top 5) ["whole"] f_taken_in fd_taken_in
  f_kinds_of : Addr
  fd_kinds_of : FuncData
  d_kinds_of : DefOk K mg "kinds_of" (top 6) ["op"] f_kinds_of fd_kinds_of
  f_divided : Addr
  fd_divided : FuncData
  d_divided : DefOk K mg "divided" (top 7) ["one", "other"] f_divided fd_divided
  f_done_sum : Addr
  fd_done_sum : FuncData
  d_done_sum : DefOk K mg "done_sum" (top 8) ["op", "one", "other"] f_done_sum fd_done_sum
  f_done : Addr
  fd_done : FuncData
  d_done : DefOk K mg "done" (top 11) ["op", "values"] f_done fd_done
  f_m_init : Addr
  fd_m_init : FuncData
  u_m_init : Fun K "__init__" "Forms.__init__" (inClass (top 14) 0) f_m_init fd_m_init
  b_m_init : Binds K fd_m_init ["self"] []
  mkr : Mk K C f_m_init
  f_m_kept : Addr
  fd_m_kept : FuncData
  m_kept : MethOk K C "kept" "Forms.kept" (inClass (top 14) 1) ["self", "content"] f_m_kept fd_m_kept
  f_m_kept_thing : Addr
  fd_m_kept_thing : FuncData
  m_kept_thing : MethOk K C "kept_thing" "Forms.kept_thing" (inClass (top 14) 2) ["self", "kind", "key"] f_m_kept_thing fd_m_kept_thing
  f_m_plain : Addr
  fd_m_plain : FuncData
  m_plain : MethOk K C "plain" "Forms.plain" (inClass (top 14) 3) ["self", "number"] f_m_plain fd_m_plain
  f_m_thing : Addr
  fd_m_thing : FuncData
  m_thing : MethOk K C "thing" "Forms.thing" (inClass (top 14) 4) ["self", "kind", "label"] f_m_thing fd_m_thing
  f_m_whole : Addr
  fd_m_whole : FuncData
  m_whole : MethOk K C "whole" "Forms.whole" (inClass (top 14) 5) ["self", "form"] f_m_whole fd_m_whole
  f_m_kind : Addr
  fd_m_kind : FuncData
  m_kind : MethOk K C "kind" "Forms.kind" (inClass (top 14) 6) ["self", "form"] f_m_kind fd_m_kind
  f_m_key_of : Addr
  fd_m_key_of : FuncData
  m_key_of : MethOk K C "key_of" "Forms.key_of" (inClass (top 14) 7) ["self", "form"] f_m_key_of fd_m_key_of
  f_m_added : Addr
  fd_m_added : FuncData
  m_added : MethOk K C "added" "Forms.added" (inClass (top 14) 8) ["self", "one", "other", "times"] f_m_added fd_m_added
  f_m_so_often : Addr
  fd_m_so_often : FuncData
  m_so_often : MethOk K C "so_often" "Forms.so_often" (inClass (top 14) 9) ["self", "form", "times"] f_m_so_often fd_m_so_often
  f_m_same_of : Addr
  fd_m_same_of : FuncData
  m_same_of : MethOk K C "same_of" "Forms.same_of" (inClass (top 14) 10) ["self", "one", "other"] f_m_same_of fd_m_same_of
  f_m_mul_of : Addr
  fd_m_mul_of : FuncData
  m_mul_of : MethOk K C "mul_of" "Forms.mul_of" (inClass (top 14) 11) ["self", "one", "other"] f_m_mul_of fd_m_mul_of
  f_m_divided : Addr
  fd_m_divided : FuncData
  m_divided : MethOk K C "divided" "Forms.divided" (inClass (top 14) 12) ["self", "op", "one", "other"] f_m_divided fd_m_divided
  f_m_at_of : Addr
  fd_m_at_of : FuncData
  m_at_of : MethOk K C "at_of" "Forms.at_of" (inClass (top 14) 13) ["self", "row", "place"] f_m_at_of fd_m_at_of
  f_m_size_of : Addr
  fd_m_size_of : FuncData
  m_size_of : MethOk K C "size_of" "Forms.size_of" (inClass (top 14) 14) ["self", "row"] f_m_size_of fd_m_size_of
  f_m_put_of : Addr
  fd_m_put_of : FuncData
  m_put_of : MethOk K C "put_of" "Forms.put_of" (inClass (top 14) 15) ["self", "row", "place", "number"] f_m_put_of fd_m_put_of
  f_m_by_rule : Addr
  fd_m_by_rule : FuncData
  m_by_rule : MethOk K C "by_rule" "Forms.by_rule" (inClass (top 14) 16) ["self", "op", "forms"] f_m_by_rule fd_m_by_rule
  f_m_made : Addr
  fd_m_made : FuncData
  m_made : MethOk K C "made" "Forms.made" (inClass (top 14) 17) ["self", "op", "forms"] f_m_made fd_m_made
  f_all_of : Addr
  fd_all_of : FuncData
  d_all_of : DefOk K mg "all_of" (top 17) ["text", "signs"] f_all_of fd_all_of
  f_kind_of : Addr
  fd_kind_of : FuncData
  d_kind_of : DefOk K mg "kind_of" (top 18) ["name"] f_kind_of fd_kind_of
  f_form_of : Addr
  fd_form_of : FuncData
  d_form_of : DefOk K mg "form_of" (top 20) ["forms", "term", "names"] f_form_of fd_form_of
  f_names_in : Addr
  fd_names_in : FuncData
  d_names_in : DefOk K mg "names_in" (top 21) ["term"] f_names_in fd_names_in
  f_alike : Addr
  fd_alike : FuncData
  d_alike : DefOk K mg "alike" (top 22) ["one", "other"] f_alike fd_alike
  f__law_cell_at : Addr
  fd__law_cell_at : FuncData
  d__law_cell_at : DefOk K mg "_law_cell_at" (top 24) ["_law_script", "_law_k"] f__law_cell_at fd__law_cell_at
  f__law_box : Addr
  fd__law_box : FuncData
  d__law_box : DefOk K mg "_law_box" (top 25) ["_law_cell"] f__law_box fd__law_box
  f__law_take : Addr
  fd__law_take : FuncData
  d__law_take : DefOk K mg "_law_take" (top 26) ["_law_box_here", "_law_many"] f__law_take fd__law_take
  f__law_number : Addr
  fd__law_number : FuncData
  d__law_number : DefOk K mg "_law_number" (top 27) ["_law_box_here"] f__law_number fd__law_number
  f__law_leaf : Addr
  fd__law_leaf : FuncData
  d__law_leaf : DefOk K mg "_law_leaf" (top 28) ["_law_box_here", "_law_kind"] f__law_leaf fd__law_leaf
  f__law_term : Addr
  fd__law_term : FuncData
  d__law_term : DefOk K mg "_law_term" (top 29) ["_law_box_here", "_law_kind", "_law_deep"] f__law_term fd__law_term
  f__law_near : Addr
  fd__law_near : FuncData
  d__law_near : DefOk K mg "_law_near" (top 30) ["_law_box_here", "_law_term_here", "_law_kind"] f__law_near fd__law_near
  f__law_edge : Addr
  fd__law_edge : FuncData
  d__law_edge : DefOk K mg "_law_edge" (top 31) ["_law_box_here", "_law_term_here", "_law_kind"] f__law_edge fd__law_edge
  f__law_parts : Addr
  fd__law_parts : FuncData
  d__law_parts : DefOk K mg "_law_parts" (top 32) ["_law_term_here"] f__law_parts fd__law_parts
  f__law_pair : Addr
  fd__law_pair : FuncData
  d__law_pair : DefOk K mg "_law_pair" (top 33) ["_law_box_here"] f__law_pair fd__law_pair
  f__law_put : Addr
  fd__law_put : FuncData
  d__law_put : DefOk K mg "_law_put" (top 34) ["_law_term_here", "_law_names"] f__law_put fd__law_put
  f__law_named : Addr
  fd__law_named : FuncData
  d__law_named : DefOk K mg "_law_named" (top 35) ["_law_box_here", "_law_forms"] f__law_named fd__law_named
  f__law_right : Addr
  fd__law_right : FuncData
  d__law_right : DefOk K mg "_law_right" (top 36) ["_law_box_here"] f__law_right fd__law_right
  f_law : Addr
  fd_law : FuncData
  d_law : DefOk K mg "law" (top 37) ["_law_script"] f_law fd_law
theorem u9 {A : Around} {k : Nat} (hr : Room k A) : A.units + 9 < cLine := Nat.lt_of_le_of_lt (Nat.add_le_add_left (by decide : 9 ≤ 64) _) hr.units
theorem u1 {A : Around} {k : Nat} (hr : Room k A) : A.units + 1 < cLine := Nat.lt_of_le_of_lt (Nat.add_le_add_left (by decide : 1 ≤ 64) _) hr.units
section
variable {P : Program} {w : World} {K : PySem.W.Frag} {mg : Str → Option Value} {base : Heap}
abbrev n_taken_in : List Str := ["whole"]
abbrev p_taken_in : List Str := ["whole"]
theorem sc_taken_in : FnScope n_taken_in p_taken_in (defScope (top 5)) := ⟨rfl, rfl, rfl, by decide +kernel, rfl, by decide +kernel, by decide +kernel⟩
theorem ok_taken_in (W : Fx K w mg) : FnOk P w K mg base CX0 1 W.f_taken_in W.fd_taken_in p_taken_in (spF P w K 1 fn_taken_in) := okF (N := n_taken_in) (ps := p_taken_in) W.d_taken_in.fn sc_taken_in fun cdv A outer s H E hr =>
      (pfss_one (pfs_ret (pf_op op_addA l_add (pf_op op_modN l_mod (pf_op op_sub l_sub (pf_var 0) (pf_globI rfl W.g_LEAST ⟨W.t_LEAST, rfl⟩)) (pf_globI rfl W.g_TURN ⟨W.t_TURN, rfl⟩)) (pf_globI rfl W.g_LEAST ⟨W.t_LEAST, rfl⟩))))
abbrev n_kinds_of : List Str := ["op"]
abbrev p_kinds_of : List Str := ["op"]
theorem sc_kinds_of : FnScope n_kinds_of p_kinds_of (defScope (top 6)) := ⟨rfl, rfl, rfl, by decide +kernel, rfl, by decide +kernel, by decide +kernel⟩
theorem ok_kinds_of (W : Fx K w mg) : FnOk P w K mg base CX0 1 W.f_kinds_of W.fd_kinds_of p_kinds_of (spF P w K 1 fn_kinds_of) := okF (N := n_kinds_of) (ps := p_kinds_of) W.d_kinds_of.fn sc_kinds_of fun cdv A outer s H E hr =>
      (pfss_one (pfs_ret (pf_ops W.k_OPERATIONS rfl W.g_OPERATIONS (pf_var 0))))
abbrev n_divided : List Str := ["one", "other"]
abbrev p_divided : List Str := ["one", "other"]
theorem sc_divided : FnScope n_divided p_divided (defScope (top 7)) := ⟨rfl, rfl, rfl, by decide +kernel, rfl, by decide +kernel, by decide +kernel⟩
theorem ok_divided (W : Fx K w mg) : FnOk P w K mg base CX0 2 W.f_divided W.fd_divided p_divided (spF P w K 2 fn_divided) := okF (N := n_divided) (ps := p_divided) W.d_divided.fn sc_divided fun cdv A outer s H E hr =>
      (pfss_cons (pfs_if (pft_cmpR (op_eqA hr.units0) l_eq (pf_var 1) pf_int (nomark _)) (pfss_one (pfs_ret pf_int)) pfss_nil)
      (pfss_one (pfs_ret (pf_call (ok_taken_in W) (hr.mono (by decide)) rfl W.d_taken_in.gl W.d_taken_in.fn.kp W.d_taken_in.bd (pfa_cons (pf_op op_fdivN l_div (pf_var 0) (pf_var 1)) pfa_nil)))))
abbrev n_done_sum : List Str := ["op", "one", "other"]
abbrev p_done_sum : List Str := ["op", "one", "other"]
theorem sc_done_sum : FnScope n_done_sum p_done_sum (defScope (top 8)) := ⟨rfl, rfl, rfl, by decide +kernel, rfl, by decide +kernel, by decide +kernel⟩
theorem ok_done_sum (W : Fx K w mg) : FnOk P w K mg base CX0 3 W.f_done_sum W.fd_done_sum p_done_sum (spF P w K 3 fn_done_sum) := okF (N := n_done_sum) (ps := p_done_sum) W.d_done_sum.fn sc_done_sum fun cdv A outer s H E hr =>
      (pfss_cons (pfs_if (pft_cmpR (op_eqA hr.units0) l_eq (pf_var 0) pf_str (nomark _)) (pfss_one (pfs_ret (pf_call (ok_taken_in W) (hr.mono (by decide)) rfl W.d_taken_in.gl W.d_taken_in.fn.kp W.d_taken_in.bd (pfa_cons (pf_op op_addA l_add (pf_var 1) (pf_var 2)) pfa_nil)))) pfss_nil)
      (pfss_cons (pfs_if (pft_cmpR (op_eqA hr.units0) l_eq (pf_var 0) pf_str (nomark _)) (pfss_one (pfs_ret (pf_call (ok_taken_in W) (hr.mono (by decide)) rfl W.d_taken_in.gl W.d_taken_in.fn.kp W.d_taken_in.bd (pfa_cons (pf_op op_sub l_sub (pf_var 1) (pf_var 2)) pfa_nil)))) pfss_nil)
      (pfss_cons (pfs_if (pft_cmpR (op_eqA hr.units0) l_eq (pf_var 0) pf_str (nomark _)) (pfss_one (pfs_ret (pf_call (ok_taken_in W) (hr.mono (by decide)) rfl W.d_taken_in.gl W.d_taken_in.fn.kp W.d_taken_in.bd (pfa_cons (pf_op op_mul l_mul (pf_var 1) (pf_var 2)) pfa_nil)))) pfss_nil)
      (pfss_cons (pfs_if (pft_cmpR (op_eqA hr.units0) l_eq (pf_var 0) pf_str (nomark _)) (pfss_one (pfs_ret (pf_call (ok_divided W) (hr.mono (by decide)) rfl W.d_divided.gl W.d_divided.fn.kp W.d_divided.bd (pfa_cons (pf_var 1) (pfa_cons (pf_var 2) pfa_nil))))) pfss_nil)
      (pfss_cons (pfs_if (pft_cmpR (op_eqA hr.units0) l_eq (pf_var 0) pf_str (nomark _)) (pfss_one (pfs_ret (pf_call (ok_taken_in W) (hr.mono (by decide)) rfl W.d_taken_in.gl W.d_taken_in.fn.kp W.d_taken_in.bd (pfa_cons (pf_op op_sub l_sub (pf_var 1) (pf_op op_mul l_mul (pf_var 2) (pf_call (ok_divided W) (hr.mono (by decide)) rfl W.d_divided.gl W.d_divided.fn.kp W.d_divided.bd (pfa_cons (pf_var 1) (pfa_cons (pf_var 2) pfa_nil))))) pfa_nil)))) pfss_nil)
      (pfss_cons (pfs_if (pft_cmpR (op_eqA hr.units0) l_eq (pf_var 0) pf_str (nomark _)) (pfss_one (pfs_ret (pf_callTy call_int1 l_int1 rfl W.fr_int rfl (pfa_cons (pf_cmpR op_lt l_lt (pf_var 1) (pf_var 2) (nomark _)) pfa_nil)))) pfss_nil)
      (pfss_one (pfs_ret (pf_callTy call_int1 l_int1 rfl W.fr_int rfl (pfa_cons (pf_cmpR (op_eqA hr.units0) l_eq (pf_var 1) (pf_var 2) (nomark _)) pfa_nil))))))))))
abbrev n_done : List Str := ["op", "values"]
abbrev p_done : List Str := ["op", "values"]
theorem sc_done : FnScope n_done p_done (defScope (top 11)) := ⟨rfl, rfl, rfl, by decide +kernel, rfl, by decide +kernel, by decide +kernel⟩
theorem ok_done (W : Fx K w mg) : FnOk P w K mg base CX0 4 W.f_done W.fd_done p_done (spF P w K 2 fn_done) := okF (N := n_done) (ps := p_done) W.d_done.fn sc_done fun cdv A outer s H E hr =>
      (pfss_cons (pfs_if (PFW.pt (pfw_or (pft_cmpR (op_eqA hr.units0) l_eq (pf_var 0) pf_str (nomark _)) (pfw_or1 (pft_cmpR (op_eqA hr.units0) l_eq (pf_var 0) pf_str (nomark _))))) (pfss_one (pfs_ret (pf_ix (pf_var 1) pf_int))) pfss_nil)
      (pfss_cons (pfs_if (pft_cmpR (op_eqA hr.units0) l_eq (pf_var 0) pf_str (nomark _)) (pfss_one (pfs_ret (pf_ifExp (pft_cmpR op_ne l_ne (pf_ix (pf_var 1) pf_int) pf_int (nomark _)) (pf_ix (pf_var 1) pf_int) (pf_ix (pf_var 1) pf_int)))) pfss_nil)
      (pfss_cons (pfs_if (pft_cmpR op_inA l_in (pf_var 0) (pf_tup (pfa_cons pf_str (pfa_cons pf_str (pfa_cons pf_str (pfa_cons pf_str (pfa_cons pf_str pfa_nil)))))) (by with_unfolding_all rfl)) pfss_never pfss_nil)
      (pfss_one (pfs_ret (pf_call (ok_done_sum W) (hr.mono (by decide)) rfl W.d_done_sum.gl W.d_done_sum.fn.kp W.d_done_sum.bd (pfa_cons (pf_var 0) (pfa_cons (pf_ix (pf_var 1) pf_int) (pfa_cons (pf_ix (pf_var 1) pf_int) pfa_nil)))))))))
abbrev n_m_init : List Str := ["self"]
abbrev p_m_init : List Str := ["self"]
theorem sc_m_init : FnScope n_m_init p_m_init (defScope (inClass (top 14) 0)) := ⟨rfl, rfl, rfl, by decide +kernel, rfl, by decide +kernel, by decide +kernel⟩
theorem ok_m_init (W : Fx K w mg) : FnOk P w K mg base CX0 1 W.f_m_init W.fd_m_init p_m_init (spF P w K 1 fn_m_init) := okF (N := n_m_init) (ps := p_m_init) W.u_m_init sc_m_init fun cdv A outer s H E hr =>
      (pfss_cons (pfs_fld W.nsC W.cls W.no_contents (pf_var 0) (pf_lstM pfa_nil))
      (pfss_cons (pfs_fld W.nsC W.cls W.no_numbers (pf_var 0) pf_dctN)
      (pfss_cons (pfs_fld W.nsC W.cls W.no_thing_keys (pf_var 0) (pf_lstM pfa_nil))
      (pfss_one (pfs_fld W.nsC W.cls W.no_things (pf_var 0) pf_dctN)))))
abbrev n_m_kept : List Str := ["self", "content"]
abbrev p_m_kept : List Str := ["self", "content"]
theorem sc_m_kept : FnScope n_m_kept p_m_kept (defScope (inClass (top 14) 1)) := ⟨rfl, rfl, rfl, by decide +kernel, rfl, by decide +kernel, by decide +kernel⟩
theorem ok_m_kept (W : Fx K w mg) : FnOk P w K mg base CX0 1 W.f_m_kept W.fd_m_kept p_m_kept (spF P w K 2 fn_m_kept) := okF (N := n_m_kept) (ps := p_m_kept) W.m_kept.fn sc_m_kept fun cdv A outer s H E hr =>
      (pfss_cons (pfs_if (pft_cmpR (op_ndnotin (u9 hr)) l_din (pf_var 1) (pf_fld W.nsC W.cls W.no_numbers (pf_var 0)) (by with_unfolding_all rfl)) (pfss_cons (pfs_dput (u9 hr) (pf_callB call_lenA l_len rfl W.fr_len rfl (pfa_cons (pf_fld W.nsC W.cls W.no_contents (pf_var 0)) pfa_nil)) (pf_fld W.nsC W.cls W.no_numbers (pf_var 0)) (pf_var 1))
      (pfss_one (pfs_expr (pf_app (pf_fld W.nsC W.cls W.no_contents (pf_var 0)) (pf_var 1))))) pfss_nil)
      (pfss_one (pfs_ret (pf_dget (u9 hr) (pf_fld W.nsC W.cls W.no_numbers (pf_var 0)) (pf_var 1)))))
abbrev n_m_kept_thing : List Str := ["self", "kind", "key"]
abbrev p_m_kept_thing : List Str := ["self", "kind", "key"]
theorem sc_m_kept_thing : FnScope n_m_kept_thing p_m_kept_thing (defScope (inClass (top 14) 2)) := ⟨rfl, rfl, rfl, by decide +kernel, rfl, by decide +kernel, by decide +kernel⟩
theorem ok_m_kept_thing (W : Fx K w mg) : FnOk P w K mg base CX0 2 W.f_m_kept_thing W.fd_m_kept_thing p_m_kept_thing (spF P w K 3 fn_m_kept_thing) := okF (N := n_m_kept_thing) (ps := p_m_kept_thing) W.m_kept_thing.fn sc_m_kept_thing fun cdv A outer s H E hr =>
      (pfss_cons (pfs_if (pft_cmpR (op_ndnotin (u9 hr)) l_din (pf_var 2) (pf_fld W.nsC W.cls W.no_things (pf_var 0)) (by with_unfolding_all rfl)) (pfss_cons (pfs_dput (u9 hr) (pf_callB call_lenA l_len rfl W.fr_len rfl (pfa_cons (pf_fld W.nsC W.cls W.no_thing_keys (pf_var 0)) pfa_nil)) (pf_fld W.nsC W.cls W.no_things (pf_var 0)) (pf_var 2))
      (pfss_one (pfs_expr (pf_app (pf_fld W.nsC W.cls W.no_thing_keys (pf_var 0)) (pf_var 2))))) pfss_nil)
      (pfss_cons (pfs_if (pft_cmpR (op_eqA hr.units0) l_eq (pf_var 1) pf_str (nomark _)) (pfss_one (pfs_ret (pf_meth W.nsC (pf_var 0) W.cls W.m_kept.me (ok_m_kept W) (hr.mono (by decide)) W.m_kept.bd (pfa_cons (pf_tup (pfa_cons pf_str (pfa_cons (pf_dget (u9 hr) (pf_fld W.nsC W.cls W.no_things (pf_var 0)) (pf_var 2)) pfa_nil))) pfa_nil)))) pfss_nil)
      (pfss_one (pfs_ret (pf_meth W.nsC (pf_var 0) W.cls W.m_kept.me (ok_m_kept W) (hr.mono (by decide)) W.m_kept.bd (pfa_cons (pf_tup (pfa_cons pf_str (pfa_cons pf_int (pfa_cons (pf_tup (pfa_cons (pf_tup (pfa_cons (pf_dget (u9 hr) (pf_fld W.nsC W.cls W.no_things (pf_var 0)) (pf_var 2)) (pfa_cons pf_int pfa_nil))) pfa_nil)) pfa_nil)))) pfa_nil))))))
abbrev n_m_plain : List Str := ["self", "number"]
abbrev p_m_plain : List Str := ["self", "number"]
theorem sc_m_plain : FnScope n_m_plain p_m_plain (defScope (inClass (top 14) 3)) := ⟨rfl, rfl, rfl, by decide +kernel, rfl, by decide +kernel, by decide +kernel⟩
theorem ok_m_plain (W : Fx K w mg) : FnOk P w K mg base CX0 2 W.f_m_plain W.fd_m_plain p_m_plain (spF P w K 2 fn_m_plain) := okF (N := n_m_plain) (ps := p_m_plain) W.m_plain.fn sc_m_plain fun cdv A outer s H E hr =>
      (pfss_one (pfs_ret (pf_meth W.nsC (pf_var 0) W.cls W.m_kept.me (ok_m_kept W) (hr.mono (by decide)) W.m_kept.bd (pfa_cons (pf_tup (pfa_cons pf_str (pfa_cons (pf_var 1) (pfa_cons (pf_tup pfa_nil) pfa_nil)))) pfa_nil))))
abbrev n_m_thing : List Str := ["self", "kind", "label"]
abbrev p_m_thing : List Str := ["self", "kind", "label"]
theorem sc_m_thing : FnScope n_m_thing p_m_thing (defScope (inClass (top 14) 4)) := ⟨rfl, rfl, rfl, by decide +kernel, rfl, by decide +kernel, by decide +kernel⟩
theorem ok_m_thing (W : Fx K w mg) : FnOk P w K mg base CX0 3 W.f_m_thing W.fd_m_thing p_m_thing (spF P w K 3 fn_m_thing) := okF (N := n_m_thing) (ps := p_m_thing) W.m_thing.fn sc_m_thing fun cdv A outer s H E hr =>
      (pfss_one (pfs_ret (pf_meth W.nsC (pf_var 0) W.cls W.m_kept_thing.me (ok_m_kept_thing W) (hr.mono (by decide)) W.m_kept_thing.bd (pfa_cons (pf_var 1) (pfa_cons (pf_tup (pfa_cons pf_str (pfa_cons (pf_var 1) (pfa_cons (pf_var 2) pfa_nil)))) pfa_nil)))))
abbrev n_m_whole : List Str := ["self", "form", "content"]
abbrev p_m_whole : List Str := ["self", "form"]
theorem sc_m_whole : FnScope n_m_whole p_m_whole (defScope (inClass (top 14) 5)) := ⟨rfl, rfl, rfl, by decide +kernel, rfl, by decide +kernel, by decide +kernel⟩
theorem ok_m_whole (W : Fx K w mg) : FnOk P w K mg base CX0 1 W.f_m_whole W.fd_m_whole p_m_whole (spF P w K 2 fn_m_whole) := okF (N := n_m_whole) (ps := p_m_whole) W.m_whole.fn sc_m_whole fun cdv A outer s H E hr =>
      (pfss_cons (pfs_set (i := 2) sc_m_whole.nd rfl (by first | exact Or.inl rfl | exact Or.inr rfl) (pf_ix (pf_fld W.nsC W.cls W.no_contents (pf_var 0)) (pf_var 1)))
      (pfss_cons (pfs_if (PFW.pt (pfw_and (pft_cmpR (op_eqA hr.units0) l_eq (pf_ix (pf_var 2) pf_int) pf_str (nomark _)) (pfw_and1 (pft_cmpR (op_eqA hr.units0) l_eq (pf_ix (pf_var 2) pf_int) (pf_tup pfa_nil) (nomark _))))) (pfss_one (pfs_ret (pf_ix (pf_var 2) pf_int))) pfss_nil)
      (pfss_one (pfs_ret pf_non))))
abbrev n_m_kind : List Str := ["self", "form"]
abbrev p_m_kind : List Str := ["self", "form"]
theorem sc_m_kind : FnScope n_m_kind p_m_kind (defScope (inClass (top 14) 6)) := ⟨rfl, rfl, rfl, by decide +kernel, rfl, by decide +kernel, by decide +kernel⟩
theorem ok_m_kind (W : Fx K w mg) : FnOk P w K mg base CX0 1 W.f_m_kind W.fd_m_kind p_m_kind (spF P w K 2 fn_m_kind) := okF (N := n_m_kind) (ps := p_m_kind) W.m_kind.fn sc_m_kind fun cdv A outer s H E hr =>
      (pfss_one (pfs_ret (pf_ifExp (pft_cmpR (op_eqA hr.units0) l_eq (pf_ix (pf_ix (pf_fld W.nsC W.cls W.no_contents (pf_var 0)) (pf_var 1)) pf_int) pf_str (nomark _)) pf_str pf_str)))
abbrev n_m_key_of : List Str := ["self", "form"]
abbrev p_m_key_of : List Str := ["self", "form"]
theorem sc_m_key_of : FnScope n_m_key_of p_m_key_of (defScope (inClass (top 14) 7)) := ⟨rfl, rfl, rfl, by decide +kernel, rfl, by decide +kernel, by decide +kernel⟩
theorem ok_m_key_of (W : Fx K w mg) : FnOk P w K mg base CX0 1 W.f_m_key_of W.fd_m_key_of p_m_key_of (spF P w K 2 fn_m_key_of) := okF (N := n_m_key_of) (ps := p_m_key_of) W.m_key_of.fn sc_m_key_of fun cdv A outer s H E hr =>
      (pfss_one (pfs_ret (pf_ix (pf_fld W.nsC W.cls W.no_thing_keys (pf_var 0)) (pf_ix (pf_ix (pf_fld W.nsC W.cls W.no_contents (pf_var 0)) (pf_var 1)) pf_int))))
abbrev n_m_added : List Str := ["self", "one", "other", "times", "first", "second", "parts", "thing", "many", "left"]
abbrev p_m_added : List Str := ["self", "one", "other", "times"]
theorem sc_m_added : FnScope n_m_added p_m_added (defScope (inClass (top 14) 8)) := ⟨rfl, rfl, rfl, by decide +kernel, rfl, by decide +kernel, by decide +kernel⟩
theorem ok_m_added (W : Fx K w mg) : FnOk P w K mg base CX0 2 W.f_m_added W.fd_m_added p_m_added (spF P w K 4 fn_m_added) := okF (N := n_m_added) (ps := p_m_added) W.m_added.fn sc_m_added fun cdv A outer s H E hr =>
      (pfss_cons (pfs_set (i := 4) sc_m_added.nd rfl (by first | exact Or.inl rfl | exact Or.inr rfl) (pf_ix (pf_fld W.nsC W.cls W.no_contents (pf_var 0)) (pf_var 1)))
      (pfss_cons (pfs_set (i := 5) sc_m_added.nd rfl (by first | exact Or.inl rfl | exact Or.inr rfl) (pf_ix (pf_fld W.nsC W.cls W.no_contents (pf_var 0)) (pf_var 2)))
      (pfss_cons (pfs_set (i := 6) sc_m_added.nd rfl (by first | exact Or.inl rfl | exact Or.inr rfl) pf_dctI)
      (pfss_cons (pfs_for PassesOwn.never rfl (pfi_tup (pf_ix (pf_var 4) pf_int)) (pg_tup rfl (pgs_cons (pg_name (i := 7) sc_m_added.nd rfl (by first | exact Or.inl rfl | exact Or.inr rfl)) (pgs_cons (pg_name (i := 8) sc_m_added.nd rfl (by first | exact Or.inl rfl | exact Or.inr rfl)) pgs_nil))) lg_pair (pfss_one (pfs_dputI (u1 hr) (pf_var 8) (pf_var 6) (pf_var 7))))
      (pfss_cons (pfs_for PassesOwn.never rfl (pfi_tup (pf_ix (pf_var 5) pf_int)) (pg_tup rfl (pgs_cons (pg_name (i := 7) sc_m_added.nd rfl (by first | exact Or.inl rfl | exact Or.inr rfl)) (pgs_cons (pg_name (i := 8) sc_m_added.nd rfl (by first | exact Or.inl rfl | exact Or.inr rfl)) pgs_nil))) lg_pair (pfss_one (pfs_dputI (u1 hr) (pf_call (ok_taken_in W) (hr.mono (by decide)) rfl W.d_taken_in.gl W.d_taken_in.fn.kp W.d_taken_in.bd (pfa_cons (pf_op op_addA l_add (pf_get2 (u1 hr) (pf_var 6) (pf_var 7) pf_int) (pf_op op_mul l_mul (pf_var 3) (pf_var 8))) pfa_nil)) (pf_var 6) (pf_var 7))))
      (pfss_cons (pfs_set (i := 9) sc_m_added.nd rfl (by first | exact Or.inl rfl | exact Or.inr rfl) (pf_callTy call_tuple_of l_tuple rfl W.fr_tuple rfl (pfa_cons (pf_lc [("thing", 7)] rfl rfl sc_m_added.nd (pfi_lst (pf_callB (call_sortedI rfl) l_sorted rfl W.fr_sorted rfl (pfa_cons (pf_var 6) pfa_nil))) (blkOk_by (own := [("thing", 7)]) (N := n_m_added) (sc := defScope (inClass (top 14) 8)) (by decide +kernel)) (fun _ _ _ _ _ => pg_name (i := 7) sc_m_added.nd rfl (Or.inl rfl)) (fun _ _ _ _ _ => pfts_one (pft_cmpR op_ne l_ne (pf_dgetI (u1 hr) (pf_var 6) (pf_var 7)) pf_int (nomark _))) (fun _ _ _ _ _ => (pf_tup (pfa_cons (pf_var 7) (pfa_cons (pf_dgetI (u1 hr) (pf_var 6) (pf_var 7)) pfa_nil))))) pfa_nil)))
      (pfss_one (pfs_ret (pf_tup (pfa_cons pf_str (pfa_cons (pf_call (ok_taken_in W) (hr.mono (by decide)) rfl W.d_taken_in.gl W.d_taken_in.fn.kp W.d_taken_in.bd (pfa_cons (pf_op op_addA l_add (pf_ix (pf_var 4) pf_int) (pf_op op_mul l_mul (pf_var 3) (pf_ix (pf_var 5) pf_int))) pfa_nil)) (pfa_cons (pf_var 9) pfa_nil))))))))))))
abbrev n_m_so_often : List Str := ["self", "form", "times"]
abbrev p_m_so_often : List Str := ["self", "form", "times"]
theorem sc_m_so_often : FnScope n_m_so_often p_m_so_often (defScope (inClass (top 14) 9)) := ⟨rfl, rfl, rfl, by decide +kernel, rfl, by decide +kernel, by decide +kernel⟩
theorem ok_m_so_often (W : Fx K w mg) : FnOk P w K mg base CX0 3 W.f_m_so_often W.fd_m_so_often p_m_so_often (spF P w K 3 fn_m_so_often) := okF (N := n_m_so_often) (ps := p_m_so_often) W.m_so_often.fn sc_m_so_often fun cdv A outer s H E hr =>
      (pfss_one (pfs_ret (pf_meth W.nsC (pf_var 0) W.cls W.m_kept.me (ok_m_kept W) (hr.mono (by decide)) W.m_kept.bd (pfa_cons (pf_meth W.nsC (pf_var 0) W.cls W.m_added.me (ok_m_added W) (hr.mono (by decide)) W.m_added.bd (pfa_cons (pf_meth W.nsC (pf_var 0) W.cls W.m_plain.me (ok_m_plain W) (hr.mono (by decide)) W.m_plain.bd (pfa_cons pf_int pfa_nil)) (pfa_cons (pf_var 1) (pfa_cons (pf_var 2) pfa_nil)))) pfa_nil))))
abbrev n_m_same_of : List Str := ["self", "one", "other", "content", "turned"]
abbrev p_m_same_of : List Str := ["self", "one", "other"]
theorem sc_m_same_of : FnScope n_m_same_of p_m_same_of (defScope (inClass (top 14) 10)) := ⟨rfl, rfl, rfl, by decide +kernel, rfl, by decide +kernel, by decide +kernel⟩
theorem ok_m_same_of (W : Fx K w mg) : FnOk P w K mg base CX0 3 W.f_m_same_of W.fd_m_same_of p_m_same_of (spF P w K 3 fn_m_same_of) := okF (N := n_m_same_of) (ps := p_m_same_of) W.m_same_of.fn sc_m_same_of fun cdv A outer s H E hr =>
      (pfss_cons (pfs_set (i := 3) sc_m_same_of.nd rfl (by first | exact Or.inl rfl | exact Or.inr rfl) (pf_meth W.nsC (pf_var 0) W.cls W.m_added.me (ok_m_added W) (hr.mono (by decide)) W.m_added.bd (pfa_cons (pf_var 1) (pfa_cons (pf_var 2) (pfa_cons (pf_neg pf_int) pfa_nil)))))
      (pfss_cons (pfs_if (pft_cmpR (op_eqA hr.units0) l_eq (pf_ix (pf_var 3) pf_int) (pf_tup pfa_nil) (nomark _)) (pfss_one (pfs_ret (pf_meth W.nsC (pf_var 0) W.cls W.m_plain.me (ok_m_plain W) (hr.mono (by decide)) W.m_plain.bd (pfa_cons (pf_callTy call_int1 l_int1 rfl W.fr_int rfl (pfa_cons (pf_cmpR (op_eqA hr.units0) l_eq (pf_ix (pf_var 3) pf_int) pf_int (nomark _)) pfa_nil)) pfa_nil)))) pfss_nil)
      (pfss_cons (pfs_set (i := 4) sc_m_same_of.nd rfl (by first | exact Or.inl rfl | exact Or.inr rfl) (pf_meth W.nsC (pf_var 0) W.cls W.m_added.me (ok_m_added W) (hr.mono (by decide)) W.m_added.bd (pfa_cons (pf_var 2) (pfa_cons (pf_var 1) (pfa_cons (pf_neg pf_int) pfa_nil)))))
      (pfss_one (pfs_ret (pf_meth W.nsC (pf_var 0) W.cls W.m_kept_thing.me (ok_m_kept_thing W) (hr.mono (by decide)) W.m_kept_thing.bd (pfa_cons pf_str (pfa_cons (pf_tup (pfa_cons pf_str (pfa_cons (pf_meth W.nsC (pf_var 0) W.cls W.m_kept.me (ok_m_kept W) (hr.mono (by decide)) W.m_kept.bd (pfa_cons (pf_callB (call_minA rfl (u9 hr)) l_minA rfl W.fr_min rfl (pfa_cons (pf_var 3) (pfa_cons (pf_var 4) pfa_nil))) pfa_nil)) pfa_nil))) pfa_nil))))))))
abbrev n_m_mul_of : List Str := ["self", "one", "other"]
abbrev p_m_mul_of : List Str := ["self", "one", "other"]
theorem sc_m_mul_of : FnScope n_m_mul_of p_m_mul_of (defScope (inClass (top 14) 11)) := ⟨rfl, rfl, rfl, by decide +kernel, rfl, by decide +kernel, by decide +kernel⟩
theorem ok_m_mul_of (W : Fx K w mg) : FnOk P w K mg base CX0 4 W.f_m_mul_of W.fd_m_mul_of p_m_mul_of (spF P w K 3 fn_m_mul_of) := okF (N := n_m_mul_of) (ps := p_m_mul_of) W.m_mul_of.fn sc_m_mul_of fun cdv A outer s H E hr =>
      (pfss_cons (pfs_if (pft_cmpR op_notA l_not (pf_meth W.nsC (pf_var 0) W.cls W.m_whole.me (ok_m_whole W) (hr.mono (by decide)) W.m_whole.bd (pfa_cons (pf_var 1) pfa_nil)) pf_non (nomark _)) (pfss_one (pfs_ret (pf_meth W.nsC (pf_var 0) W.cls W.m_so_often.me (ok_m_so_often W) (hr.mono (by decide)) W.m_so_often.bd (pfa_cons (pf_var 2) (pfa_cons (pf_meth W.nsC (pf_var 0) W.cls W.m_whole.me (ok_m_whole W) (hr.mono (by decide)) W.m_whole.bd (pfa_cons (pf_var 1) pfa_nil)) pfa_nil))))) pfss_nil)
      (pfss_cons (pfs_if (pft_cmpR op_notA l_not (pf_meth W.nsC (pf_var 0) W.cls W.m_whole.me (ok_m_whole W) (hr.mono (by decide)) W.m_whole.bd (pfa_cons (pf_var 2) pfa_nil)) pf_non (nomark _)) (pfss_one (pfs_ret (pf_meth W.nsC (pf_var 0) W.cls W.m_so_often.me (ok_m_so_often W) (hr.mono (by decide)) W.m_so_often.bd (pfa_cons (pf_var 1) (pfa_cons (pf_meth W.nsC (pf_var 0) W.cls W.m_whole.me (ok_m_whole W) (hr.mono (by decide)) W.m_whole.bd (pfa_cons (pf_var 2) pfa_nil)) pfa_nil))))) pfss_nil)
      (pfss_one (pfs_ret (pf_meth W.nsC (pf_var 0) W.cls W.m_kept_thing.me (ok_m_kept_thing W) (hr.mono (by decide)) W.m_kept_thing.bd (pfa_cons pf_str (pfa_cons (pf_tup (pfa_cons pf_str (pfa_cons (pf_callB (call_min2 rfl) l_min2 rfl W.fr_min rfl (pfa_cons (pf_var 1) (pfa_cons (pf_var 2) pfa_nil))) (pfa_cons (pf_callB (call_max2 rfl) l_max2 rfl W.fr_max rfl (pfa_cons (pf_var 1) (pfa_cons (pf_var 2) pfa_nil))) pfa_nil)))) pfa_nil)))))))
abbrev n_m_divided : List Str := ["self", "op", "one", "other", "by"]
abbrev p_m_divided : List Str := ["self", "op", "one", "other"]
theorem sc_m_divided : FnScope n_m_divided p_m_divided (defScope (inClass (top 14) 12)) := ⟨rfl, rfl, rfl, by decide +kernel, rfl, by decide +kernel, by decide +kernel⟩
theorem ok_m_divided (W : Fx K w mg) : FnOk P w K mg base CX0 3 W.f_m_divided W.fd_m_divided p_m_divided (spF P w K 4 fn_m_divided) := okF (N := n_m_divided) (ps := p_m_divided) W.m_divided.fn sc_m_divided fun cdv A outer s H E hr =>
      (pfss_cons (pfs_set (i := 4) sc_m_divided.nd rfl (by first | exact Or.inl rfl | exact Or.inr rfl) (pf_meth W.nsC (pf_var 0) W.cls W.m_whole.me (ok_m_whole W) (hr.mono (by decide)) W.m_whole.bd (pfa_cons (pf_var 3) pfa_nil)))
      (pfss_cons (pfs_if (pft_cmpR (op_eqA hr.units0) l_eq (pf_var 4) pf_int (nomark _)) (pfss_one (pfs_ret (pf_ifExp (pft_cmpR (op_eqA hr.units0) l_eq (pf_var 1) pf_str (nomark _)) (pf_meth W.nsC (pf_var 0) W.cls W.m_plain.me (ok_m_plain W) (hr.mono (by decide)) W.m_plain.bd (pfa_cons pf_int pfa_nil)) (pf_var 2)))) pfss_nil)
      (pfss_cons (pfs_if (pft_cmpR (op_eqA hr.units0) l_eq (pf_var 4) pf_int (nomark _)) (pfss_one (pfs_ret (pf_ifExp (pft_cmpR (op_eqA hr.units0) l_eq (pf_var 1) pf_str (nomark _)) (pf_var 2) (pf_meth W.nsC (pf_var 0) W.cls W.m_plain.me (ok_m_plain W) (hr.mono (by decide)) W.m_plain.bd (pfa_cons pf_int pfa_nil))))) pfss_nil)
      (pfss_one (pfs_ret pf_non)))))
abbrev n_m_at_of : List Str := ["self", "row", "place", "at", "key"]
abbrev p_m_at_of : List Str := ["self", "row", "place"]
theorem sc_m_at_of : FnScope n_m_at_of p_m_at_of (defScope (inClass (top 14) 13)) := ⟨rfl, rfl, rfl, by decide +kernel, rfl, by decide +kernel, by decide +kernel⟩
theorem ok_m_at_of (W : Fx K w mg) : FnOk P w K mg base CX0 3 W.f_m_at_of W.fd_m_at_of p_m_at_of (spF P w K 3 fn_m_at_of) := okF (N := n_m_at_of) (ps := p_m_at_of) W.m_at_of.fn sc_m_at_of fun cdv A outer s H E hr =>
      (pfss_cons (pfs_set (i := 3) sc_m_at_of.nd rfl (by first | exact Or.inl rfl | exact Or.inr rfl) (pf_meth W.nsC (pf_var 0) W.cls W.m_whole.me (ok_m_whole W) (hr.mono (by decide)) W.m_whole.bd (pfa_cons (pf_var 2) pfa_nil)))
      (pfss_cons (pfs_set (i := 4) sc_m_at_of.nd rfl (by first | exact Or.inl rfl | exact Or.inr rfl) (pf_meth W.nsC (pf_var 0) W.cls W.m_key_of.me (ok_m_key_of W) (hr.mono (by decide)) W.m_key_of.bd (pfa_cons (pf_var 1) pfa_nil)))
      (pfss_cons (pfs_if (pft_cmpR op_isA l_is (pf_var 3) pf_non (nomark _)) (pfss_one (pfs_ret pf_non)) pfss_nil)
      (pfss_cons (pfs_if (pft_cmpR (op_eqA hr.units0) l_eq (pf_ix (pf_var 4) pf_int) pf_str (nomark _)) (pfss_one (pfs_ret (pf_ifExp (pft_chain op_le l_le op_lt l_lt pf_int (pf_var 3) (pf_op op_sub l_sub (pf_callB call_lenA l_len rfl W.fr_len rfl (pfa_cons (pf_var 4) pfa_nil)) pf_int)) (pf_ix (pf_var 4) (pf_op op_addA l_add pf_int (pf_var 3))) (pf_meth W.nsC (pf_var 0) W.cls W.m_plain.me (ok_m_plain W) (hr.mono (by decide)) W.m_plain.bd (pfa_cons pf_int pfa_nil))))) pfss_nil)
      (pfss_cons (pfs_if (PFW.pt (pfw_and (pft_cmpR (op_eqA hr.units0) l_eq (pf_ix (pf_var 4) pf_int) pf_str (nomark _)) (pfw_and1 (pft_cmpR op_notA l_not (pf_meth W.nsC (pf_var 0) W.cls W.m_whole.me (ok_m_whole W) (hr.mono (by decide)) W.m_whole.bd (pfa_cons (pf_ix (pf_var 4) pf_int) pfa_nil)) pf_non (nomark _))))) (pfss_one (pfs_ret (pf_ifExp (pft_chain op_le l_le op_lt l_lt pf_int (pf_var 3) (pf_callB (call_min2 rfl) l_min2 rfl W.fr_min rfl (pfa_cons pf_int (pfa_cons (pf_meth W.nsC (pf_var 0) W.cls W.m_whole.me (ok_m_whole W) (hr.mono (by decide)) W.m_whole.bd (pfa_cons (pf_ix (pf_var 4) pf_int) pfa_nil)) pfa_nil)))) (pf_ix (pf_var 4) pf_int) (pf_meth W.nsC (pf_var 0) W.cls W.m_plain.me (ok_m_plain W) (hr.mono (by decide)) W.m_plain.bd (pfa_cons pf_int pfa_nil))))) pfss_nil)
      (pfss_one (pfs_ret pf_non)))))))
abbrev n_m_size_of : List Str := ["self", "row", "key"]
abbrev p_m_size_of : List Str := ["self", "row"]
theorem sc_m_size_of : FnScope n_m_size_of p_m_size_of (defScope (inClass (top 14) 14)) := ⟨rfl, rfl, rfl, by decide +kernel, rfl, by decide +kernel, by decide +kernel⟩
theorem ok_m_size_of (W : Fx K w mg) : FnOk P w K mg base CX0 3 W.f_m_size_of W.fd_m_size_of p_m_size_of (spF P w K 2 fn_m_size_of) := okF (N := n_m_size_of) (ps := p_m_size_of) W.m_size_of.fn sc_m_size_of fun cdv A outer s H E hr =>
      (pfss_cons (pfs_set (i := 2) sc_m_size_of.nd rfl (by first | exact Or.inl rfl | exact Or.inr rfl) (pf_meth W.nsC (pf_var 0) W.cls W.m_key_of.me (ok_m_key_of W) (hr.mono (by decide)) W.m_key_of.bd (pfa_cons (pf_var 1) pfa_nil)))
      (pfss_cons (pfs_while PassesOwn.never (pft_cmpR (op_eqA hr.units0) l_eq (pf_ix (pf_var 2) pf_int) pf_str (nomark _)) (pfss_cons (pfs_set (i := 1) sc_m_size_of.nd rfl (by first | exact Or.inl rfl | exact Or.inr rfl) (pf_ix (pf_var 2) pf_int))
      (pfss_one (pfs_set (i := 2) sc_m_size_of.nd rfl (by first | exact Or.inl rfl | exact Or.inr rfl) (pf_meth W.nsC (pf_var 0) W.cls W.m_key_of.me (ok_m_key_of W) (hr.mono (by decide)) W.m_key_of.bd (pfa_cons (pf_var 1) pfa_nil))))))
      (pfss_cons (pfs_if (pft_cmpR (op_eqA hr.units0) l_eq (pf_ix (pf_var 2) pf_int) pf_str (nomark _)) (pfss_one (pfs_ret (pf_meth W.nsC (pf_var 0) W.cls W.m_plain.me (ok_m_plain W) (hr.mono (by decide)) W.m_plain.bd (pfa_cons (pf_op op_sub l_sub (pf_callB call_lenA l_len rfl W.fr_len rfl (pfa_cons (pf_var 2) pfa_nil)) pf_int) pfa_nil)))) pfss_nil)
      (pfss_cons (pfs_if (PFW.pt (pfw_and (pft_cmpR (op_eqA hr.units0) l_eq (pf_ix (pf_var 2) pf_int) pf_str (nomark _)) (pfw_and1 (pft_cmpR op_notA l_not (pf_meth W.nsC (pf_var 0) W.cls W.m_whole.me (ok_m_whole W) (hr.mono (by decide)) W.m_whole.bd (pfa_cons (pf_ix (pf_var 2) pf_int) pfa_nil)) pf_non (nomark _))))) (pfss_one (pfs_ret (pf_meth W.nsC (pf_var 0) W.cls W.m_plain.me (ok_m_plain W) (hr.mono (by decide)) W.m_plain.bd (pfa_cons (pf_callB (call_max2 rfl) l_max2 rfl W.fr_max rfl (pfa_cons pf_int (pfa_cons (pf_callB (call_min2 rfl) l_min2 rfl W.fr_min rfl (pfa_cons pf_int (pfa_cons (pf_meth W.nsC (pf_var 0) W.cls W.m_whole.me (ok_m_whole W) (hr.mono (by decide)) W.m_whole.bd (pfa_cons (pf_ix (pf_var 2) pf_int) pfa_nil)) pfa_nil))) pfa_nil))) pfa_nil)))) pfss_nil)
      (pfss_one (pfs_ret (pf_meth W.nsC (pf_var 0) W.cls W.m_kept_thing.me (ok_m_kept_thing W) (hr.mono (by decide)) W.m_kept_thing.bd (pfa_cons pf_str (pfa_cons (pf_tup (pfa_cons pf_str (pfa_cons (pf_var 1) pfa_nil))) pfa_nil)))))))))
abbrev n_m_put_of : List Str := ["self", "row", "place", "number", "key", "at"]
abbrev p_m_put_of : List Str := ["self", "row", "place", "number"]
theorem sc_m_put_of : FnScope n_m_put_of p_m_put_of (defScope (inClass (top 14) 15)) := ⟨rfl, rfl, rfl, by decide +kernel, rfl, by decide +kernel, by decide +kernel⟩
theorem ok_m_put_of (W : Fx K w mg) : FnOk P w K mg base CX0 3 W.f_m_put_of W.fd_m_put_of p_m_put_of (spF P w K 4 fn_m_put_of) := okF (N := n_m_put_of) (ps := p_m_put_of) W.m_put_of.fn sc_m_put_of fun cdv A outer s H E hr =>
      (pfss_cons (pfs_set (i := 4) sc_m_put_of.nd rfl (by first | exact Or.inl rfl | exact Or.inr rfl) (pf_meth W.nsC (pf_var 0) W.cls W.m_key_of.me (ok_m_key_of W) (hr.mono (by decide)) W.m_key_of.bd (pfa_cons (pf_var 1) pfa_nil)))
      (pfss_cons (pfs_set (i := 5) sc_m_put_of.nd rfl (by first | exact Or.inl rfl | exact Or.inr rfl) (pf_meth W.nsC (pf_var 0) W.cls W.m_whole.me (ok_m_whole W) (hr.mono (by decide)) W.m_whole.bd (pfa_cons (pf_var 2) pfa_nil)))
      (pfss_cons (pfs_if (PFW.pt (pfw_or (pft_cmpR op_ne l_ne (pf_ix (pf_var 4) pf_int) pf_str (nomark _)) (pfw_or1 (pft_cmpR op_isA l_is (pf_var 5) pf_non (nomark _))))) (pfss_one (pfs_ret (pf_meth W.nsC (pf_var 0) W.cls W.m_kept_thing.me (ok_m_kept_thing W) (hr.mono (by decide)) W.m_kept_thing.bd (pfa_cons pf_str (pfa_cons (pf_tup (pfa_cons pf_str (pfa_cons (pf_var 1) (pfa_cons (pf_var 2) (pfa_cons (pf_var 3) pfa_nil))))) pfa_nil))))) pfss_nil)
      (pfss_cons (pfs_if (PFW.pt (pfw_or (pft_cmpR op_lt l_lt (pf_var 5) pf_int (nomark _)) (pfw_or1 (pft_cmpR op_ge l_ge (pf_var 5) (pf_op op_sub l_sub (pf_callB call_lenA l_len rfl W.fr_len rfl (pfa_cons (pf_var 4) pfa_nil)) pf_int) (nomark _))))) (pfss_one (pfs_ret (pf_var 1))) pfss_nil)
      (pfss_one (pfs_ret (pf_meth W.nsC (pf_var 0) W.cls W.m_kept_thing.me (ok_m_kept_thing W) (hr.mono (by decide)) W.m_kept_thing.bd (pfa_cons pf_str (pfa_cons (pf_op op_addA l_add (pf_op op_addA l_add (pf_slice (pf_var 4) pfo_none (pfo_some (pf_op op_addA l_add pf_int (pf_var 5)))) (pf_tup (pfa_cons (pf_var 3) pfa_nil))) (pf_slice (pf_var 4) (pfo_some (pf_op op_addA l_add pf_int (pf_var 5))) pfo_none)) pfa_nil)))))))))
abbrev n_m_by_rule : List Str := ["self", "op", "forms"]
abbrev p_m_by_rule : List Str := ["self", "op", "forms"]
theorem sc_m_by_rule : FnScope n_m_by_rule p_m_by_rule (defScope (inClass (top 14) 16)) := ⟨rfl, rfl, rfl, by decide +kernel, rfl, by decide +kernel, by decide +kernel⟩
theorem ok_m_by_rule (W : Fx K w mg) : FnOk P w K mg base CX0 5 W.f_m_by_rule W.fd_m_by_rule p_m_by_rule (spF P w K 3 fn_m_by_rule) := okF (N := n_m_by_rule) (ps := p_m_by_rule) W.m_by_rule.fn sc_m_by_rule fun cdv A outer s H E hr =>
      (pfss_cons (pfs_if (PFW.pt (pfw_or (pft_cmpR (op_eqA hr.units0) l_eq (pf_var 1) pf_str (nomark _)) (pfw_or1 (pft_cmpR (op_eqA hr.units0) l_eq (pf_var 1) pf_str (nomark _))))) (pfss_one (pfs_ret (pf_ix (pf_var 2) pf_int))) pfss_nil)
      (pfss_cons (pfs_if (pft_cmpR op_inA l_in (pf_var 1) (pf_globT rfl W.g_SUMS W.k_SUMS) (by with_unfolding_all rfl)) (pfss_one (pfs_ret (pf_meth W.nsC (pf_var 0) W.cls W.m_kept.me (ok_m_kept W) (hr.mono (by decide)) W.m_kept.bd (pfa_cons (pf_meth W.nsC (pf_var 0) W.cls W.m_added.me (ok_m_added W) (hr.mono (by decide)) W.m_added.bd (pfa_cons (pf_ix (pf_var 2) pf_int) (pfa_cons (pf_ix (pf_var 2) pf_int) (pfa_cons (pf_ifExp (pft_cmpR (op_eqA hr.units0) l_eq (pf_var 1) pf_str (nomark _)) pf_int (pf_neg pf_int)) pfa_nil)))) pfa_nil)))) pfss_nil)
      (pfss_cons (pfs_if (pft_cmpR (op_eqA hr.units0) l_eq (pf_var 1) pf_str (nomark _)) (pfss_one (pfs_ret (pf_meth W.nsC (pf_var 0) W.cls W.m_mul_of.me (ok_m_mul_of W) (hr.mono (by decide)) W.m_mul_of.bd (pfa_cons (pf_ix (pf_var 2) pf_int) (pfa_cons (pf_ix (pf_var 2) pf_int) pfa_nil))))) pfss_nil)
      (pfss_cons (pfs_if (pft_cmpR (op_eqA hr.units0) l_eq (pf_var 1) pf_str (nomark _)) (pfss_one (pfs_ret (pf_meth W.nsC (pf_var 0) W.cls W.m_same_of.me (ok_m_same_of W) (hr.mono (by decide)) W.m_same_of.bd (pfa_cons (pf_ix (pf_var 2) pf_int) (pfa_cons (pf_ix (pf_var 2) pf_int) pfa_nil))))) pfss_nil)
      (pfss_cons (pfs_if (PFW.pt (pfw_and (pft_cmpR (op_eqA hr.units0) l_eq (pf_var 1) pf_str (nomark _)) (pfw_and1 (pft_cmpR (op_eqA hr.units0) l_eq (pf_ix (pf_var 2) pf_int) (pf_ix (pf_var 2) pf_int) (nomark _))))) (pfss_one (pfs_ret (pf_meth W.nsC (pf_var 0) W.cls W.m_plain.me (ok_m_plain W) (hr.mono (by decide)) W.m_plain.bd (pfa_cons pf_int pfa_nil)))) pfss_nil)
      (pfss_cons (pfs_if (PFW.pt (pfw_or (pft_cmpR (op_eqA hr.units0) l_eq (pf_var 1) pf_str (nomark _)) (pfw_or1 (pft_cmpR (op_eqA hr.units0) l_eq (pf_var 1) pf_str (nomark _))))) (pfss_one (pfs_ret (pf_meth W.nsC (pf_var 0) W.cls W.m_divided.me (ok_m_divided W) (hr.mono (by decide)) W.m_divided.bd (pfa_cons (pf_var 1) (pfa_cons (pf_ix (pf_var 2) pf_int) (pfa_cons (pf_ix (pf_var 2) pf_int) pfa_nil)))))) pfss_nil)
      (pfss_cons (pfs_if (pft_cmpR (op_eqA hr.units0) l_eq (pf_var 1) pf_str (nomark _)) (pfss_cons (pfs_if (pft_cmpR op_notA l_not (pf_meth W.nsC (pf_var 0) W.cls W.m_whole.me (ok_m_whole W) (hr.mono (by decide)) W.m_whole.bd (pfa_cons (pf_ix (pf_var 2) pf_int) pfa_nil)) pf_non (nomark _)) (pfss_one (pfs_ret (pf_ifExp (pft_cmpR op_ne l_ne (pf_meth W.nsC (pf_var 0) W.cls W.m_whole.me (ok_m_whole W) (hr.mono (by decide)) W.m_whole.bd (pfa_cons (pf_ix (pf_var 2) pf_int) pfa_nil)) pf_int (nomark _)) (pf_ix (pf_var 2) pf_int) (pf_ix (pf_var 2) pf_int)))) pfss_nil)
      (pfss_one (pfs_ret (pf_ifExp (pft_cmpR (op_eqA hr.units0) l_eq (pf_ix (pf_var 2) pf_int) (pf_ix (pf_var 2) pf_int) (nomark _)) (pf_ix (pf_var 2) pf_int) pf_non)))) pfss_nil)
      (pfss_cons (pfs_if (pft_cmpR (op_eqA hr.units0) l_eq (pf_var 1) pf_str (nomark _)) (pfss_one (pfs_ret (pf_meth W.nsC (pf_var 0) W.cls W.m_at_of.me (ok_m_at_of W) (hr.mono (by decide)) W.m_at_of.bd (pfa_cons (pf_ix (pf_var 2) pf_int) (pfa_cons (pf_ix (pf_var 2) pf_int) pfa_nil))))) pfss_nil)
      (pfss_cons (pfs_if (pft_cmpR (op_eqA hr.units0) l_eq (pf_var 1) pf_str (nomark _)) (pfss_one (pfs_ret (pf_meth W.nsC (pf_var 0) W.cls W.m_size_of.me (ok_m_size_of W) (hr.mono (by decide)) W.m_size_of.bd (pfa_cons (pf_ix (pf_var 2) pf_int) pfa_nil)))) pfss_nil)
      (pfss_cons (pfs_if (pft_cmpR (op_eqA hr.units0) l_eq (pf_var 1) pf_str (nomark _)) (pfss_one (pfs_ret (pf_meth W.nsC (pf_var 0) W.cls W.m_put_of.me (ok_m_put_of W) (hr.mono (by decide)) W.m_put_of.bd (pfa_cons (pf_ix (pf_var 2) pf_int) (pfa_cons (pf_ix (pf_var 2) pf_int) (pfa_cons (pf_ix (pf_var 2) pf_int) pfa_nil)))))) pfss_nil)
      (pfss_one (pfs_ret pf_non))))))))))))
abbrev n_m_made : List Str := ["self", "op", "forms", "found", "kind", "numbers", "form"]
abbrev p_m_made : List Str := ["self", "op", "forms"]
theorem sc_m_made : FnScope n_m_made p_m_made (defScope (inClass (top 14) 17)) := ⟨rfl, rfl, rfl, by decide +kernel, rfl, by decide +kernel, by decide +kernel⟩
theorem ok_m_made (W : Fx K w mg) : FnOk P w K mg base CX0 6 W.f_m_made W.fd_m_made p_m_made (spF P w K 3 fn_m_made) := okF (N := n_m_made) (ps := p_m_made) W.m_made.fn sc_m_made fun cdv A outer s H E hr =>
      (pfss_cons (pfs_set (i := 3) sc_m_made.nd rfl (by first | exact Or.inl rfl | exact Or.inr rfl) (pf_meth W.nsC (pf_var 0) W.cls W.m_by_rule.me (ok_m_by_rule W) (hr.mono (by decide)) W.m_by_rule.bd (pfa_cons (pf_var 1) (pfa_cons (pf_var 2) pfa_nil))))
      (pfss_cons (pfs_if (pft_cmpR op_notA l_not (pf_var 3) pf_non (nomark _)) (pfss_one (pfs_ret (pf_var 3))) pfss_nil)
      (pfss_cons (pfs_set (i := 4) sc_m_made.nd rfl (by first | exact Or.inl rfl | exact Or.inr rfl) (pf_ix (pf_call (ok_kinds_of W) (hr.mono (by decide)) rfl W.d_kinds_of.gl W.d_kinds_of.fn.kp W.d_kinds_of.bd (pfa_cons (pf_var 1) pfa_nil)) pf_int))
      (pfss_cons (pfs_setLc (i := 5) [("form", 6)] rfl rfl sc_m_made.nd rfl rfl (sw_true rfl rfl rfl (by decide +kernel)) (pfi_tup (pf_var 2)) (blkOk_by (own := [("form", 6)]) (N := n_m_made) (sc := defScope (inClass (top 14) 17)) (by decide +kernel)) (fun _ _ _ _ _ => pg_name (i := 6) sc_m_made.nd rfl (Or.inl rfl)) (fun _ _ _ _ _ => pfts_nil) (fun _ _ _ _ _ => (pf_ifExp (pft_cmpR (op_eqA hr.units0) l_eq (pf_meth W.nsC (pf_var 0) W.cls W.m_kind.me (ok_m_kind W) (hr.mono (by decide)) W.m_kind.bd (pfa_cons (pf_var 6) pfa_nil)) pf_str (nomark _)) (pf_meth W.nsC (pf_var 0) W.cls W.m_whole.me (ok_m_whole W) (hr.mono (by decide)) W.m_whole.bd (pfa_cons (pf_var 6) pfa_nil)) pf_non)))
      (pfss_cons (pfs_if (PFW.pt (pfw_and (pft_cmpR (op_eqA hr.units0) l_eq (pf_var 4) pf_str (nomark _)) (pfw_and1 (pft_cmpR op_notInA l_notIn pf_non (pf_var 5) (by with_unfolding_all rfl))))) (pfss_one (pfs_ret (pf_meth W.nsC (pf_var 0) W.cls W.m_plain.me (ok_m_plain W) (hr.mono (by decide)) W.m_plain.bd (pfa_cons (pf_call (ok_done W) (hr.mono (by decide)) rfl W.d_done.gl W.d_done.fn.kp W.d_done.bd (pfa_cons (pf_var 1) (pfa_cons (pf_callTy call_tuple_of l_tuple rfl W.fr_tuple rfl (pfa_cons (pf_var 5) pfa_nil)) pfa_nil))) pfa_nil)))) pfss_nil)
      (pfss_one (pfs_ret (pf_meth W.nsC (pf_var 0) W.cls W.m_kept_thing.me (ok_m_kept_thing W) (hr.mono (by decide)) W.m_kept_thing.bd (pfa_cons (pf_var 4) (pfa_cons (pf_op op_addA l_add (pf_tup (pfa_cons (pf_var 1) pfa_nil)) (pf_callTy call_tuple_of l_tuple rfl W.fr_tuple rfl (pfa_cons (pf_var 2) pfa_nil))) pfa_nil))))))))))
abbrev n_all_of : List Str := ["text", "signs", "sign"]
abbrev p_all_of : List Str := ["text", "signs"]
theorem sc_all_of : FnScope n_all_of p_all_of (defScope (top 17)) := ⟨rfl, rfl, rfl, by decide +kernel, rfl, by decide +kernel, by decide +kernel⟩
theorem ok_all_of (W : Fx K w mg) : FnOk P w K mg base CX0 1 W.f_all_of W.fd_all_of p_all_of (spF P w K 2 fn_all_of) := okF (N := n_all_of) (ps := p_all_of) W.d_all_of.fn sc_all_of fun cdv A outer s H E hr =>
      (pfss_cons (pfs_for PassesOwn.never rfl (pfi_str (pf_var 0)) (pg_name (i := 2) sc_all_of.nd rfl (by first | exact Or.inl rfl | exact Or.inr rfl)) lg_name (pfss_one (pfs_if (pft_cmpR op_notInA l_notIn (pf_var 2) (pf_var 1) (by with_unfolding_all rfl)) (pfss_one (pfs_ret pf_bl)) pfss_nil)))
      (pfss_one (pfs_ret pf_bl)))
abbrev n_kind_of : List Str := ["name", "figures"]
abbrev p_kind_of : List Str := ["name"]
theorem sc_kind_of : FnScope n_kind_of p_kind_of (defScope (top 18)) := ⟨rfl, rfl, rfl, by decide +kernel, rfl, by decide +kernel, by decide +kernel⟩
theorem ok_kind_of (W : Fx K w mg) : FnOk P w K mg base CX0 2 W.f_kind_of W.fd_kind_of p_kind_of (spF P w K 1 fn_kind_of) := okF (N := n_kind_of) (ps := p_kind_of) W.d_kind_of.fn sc_kind_of fun cdv A outer s H E hr =>
      (pfss_cons (pfs_set (i := 1) sc_kind_of.nd rfl (by first | exact Or.inl rfl | exact Or.inr rfl) (pf_slice (pf_var 0) (pfo_some pf_int) pfo_none))
      (pfss_cons (pfs_if (PFW.pt (pfw_or (pft_cmpR op_notInA l_notIn (pf_slice (pf_var 0) pfo_none (pfo_some pf_int)) (pf_tup (pfa_cons pf_str (pfa_cons pf_str pfa_nil))) (by with_unfolding_all rfl)) (pfw_or (pft_cmpR op_lt l_lt (pf_callB call_lenA l_len rfl W.fr_len rfl (pfa_cons (pf_var 1) pfa_nil)) pf_int (nomark _)) (pfw_or (pft_cmpR op_gt l_gt (pf_callB call_lenA l_len rfl W.fr_len rfl (pfa_cons (pf_var 1) pfa_nil)) pf_int (nomark _)) (pfw_or1 (pft_not (pft_val (pf_call (ok_all_of W) (hr.mono (by decide)) rfl W.d_all_of.gl W.d_all_of.fn.kp W.d_all_of.bd (pfa_cons (pf_var 1) (pfa_cons (pf_globS rfl W.g_FIGURES ⟨W.t_FIGURES, rfl⟩) pfa_nil)))))))))) (pfss_one (pfs_ret pf_non)) pfss_nil)
      (pfss_cons (pfs_if (PFW.pt (pfw_and (pft_cmpR (op_eqA hr.units0) l_eq (pf_ix (pf_var 1) pf_int) pf_str (nomark _)) (pfw_and1 (pft_cmpR op_gt l_gt (pf_callB call_lenA l_len rfl W.fr_len rfl (pfa_cons (pf_var 1) pfa_nil)) pf_int (nomark _))))) (pfss_one (pfs_ret pf_non)) pfss_nil)
      (pfss_one (pfs_ret (pf_ix (pf_var 0) pf_int))))))
abbrev n_form_of : List Str := ["forms", "term", "names", "found", "operand"]
abbrev p_form_of : List Str := ["forms", "term", "names"]
theorem sc_form_of : FnScope n_form_of p_form_of (defScope (top 20)) := ⟨rfl, rfl, rfl, by decide +kernel, rfl, by decide +kernel, by decide +kernel⟩
theorem ok_form_of (W : Fx K w mg) : ∀ n, FnOk P w K mg base CX0 (6 + n) W.f_form_of W.fd_form_of p_form_of (spF P w K 3 (fn_form_of n))
  | 0 => ⟨fun _ _ _ _ h => h.1, fun A outer s H args us vs Q E hr he hb hv hs => by
    obtain ⟨_, _, _, _, _, _, _, _, h, _⟩ := hs
    cases h⟩
  | n + 1 => okF (N := n_form_of) (ps := p_form_of) W.d_form_of.fn sc_form_of fun cdv A outer s H E hr =>
      (pfss_cons (pfs_if (pft_val (pf_isi (T := "int") (by decide) (pf_var 1) rfl W.fr_isinstance rfl W.fr_int rfl)) (pfss_one (pfs_ret (pf_meth W.nsC (pf_var 0) W.cls W.m_plain.me (ok_m_plain W) (hr.mono (by first | exact Nat.le_refl _ | exact Nat.le_trans (by decide) (Nat.le_add_right 6 n))) W.m_plain.bd (pfa_cons (pf_var 1) pfa_nil)))) pfss_nil)
      (pfss_cons (pfs_if (pft_val (pf_isi (T := "int") (by decide) (pf_ix (pf_var 1) pf_int) rfl W.fr_isinstance rfl W.fr_int rfl)) (pfss_one (pfs_ret (pf_get1 (u9 hr) (pf_var 2) (pf_var 1)))) pfss_nil)
      (pfss_cons (pfs_setLc (i := 3) [("operand", 4)] rfl rfl sc_form_of.nd rfl rfl (sw_true rfl rfl rfl (by decide +kernel)) (pfi_tup (pf_slice (pf_var 1) (pfo_some pf_int) pfo_none)) (blkOk_by (own := [("operand", 4)]) (N := n_form_of) (sc := defScope (top 20)) (by decide +kernel)) (fun _ _ _ _ _ => pg_name (i := 4) sc_form_of.nd rfl (Or.inl rfl)) (fun _ _ _ _ _ => pfts_nil) (fun _ _ _ _ _ => (pf_call (ok_form_of W n) (hr.mono (by first | exact Nat.le_refl _ | exact Nat.le_trans (by decide) (Nat.le_add_right 6 n))) rfl W.d_form_of.gl W.d_form_of.fn.kp W.d_form_of.bd (pfa_cons (pf_var 0) (pfa_cons (pf_var 4) (pfa_cons (pf_var 2) pfa_nil))))))
      (pfss_cons (pfs_if (pft_cmpR op_inA l_in pf_non (pf_var 3) (by with_unfolding_all rfl)) (pfss_one (pfs_ret pf_non)) pfss_nil)
      (pfss_one (pfs_ret (pf_meth W.nsC (pf_var 0) W.cls W.m_made.me (ok_m_made W) (hr.mono (by first | exact Nat.le_refl _ | exact Nat.le_trans (by decide) (Nat.le_add_right 6 n))) W.m_made.bd (pfa_cons (pf_ix (pf_var 1) pf_int) (pfa_cons (pf_callTy call_tuple_of l_tuple rfl W.fr_tuple rfl (pfa_cons (pf_var 3) pfa_nil)) pfa_nil)))))))))
abbrev n_names_in : List Str := ["term", "found", "operand"]
abbrev p_names_in : List Str := ["term"]
theorem sc_names_in : FnScope n_names_in p_names_in (defScope (top 21)) := ⟨rfl, rfl, rfl, by decide +kernel, rfl, by decide +kernel, by decide +kernel⟩
theorem ok_names_in (W : Fx K w mg) : ∀ n, FnOk P w K mg base CX0 (0 + n) W.f_names_in W.fd_names_in p_names_in (spF P w K 1 (fn_names_in n))
  | 0 => ⟨fun _ _ _ _ h => h.1, fun A outer s H args us vs Q E hr he hb hv hs => by
    obtain ⟨_, _, _, _, _, _, _, _, h, _⟩ := hs
    cases h⟩
  | n + 1 => okF (N := n_names_in) (ps := p_names_in) W.d_names_in.fn sc_names_in fun cdv A outer s H E hr =>
      (pfss_cons (pfs_if (pft_val (pf_isi (T := "int") (by decide) (pf_var 0) rfl W.fr_isinstance rfl W.fr_int rfl)) (pfss_one (pfs_ret (pf_lstM pfa_nil))) pfss_nil)
      (pfss_cons (pfs_if (pft_val (pf_isi (T := "int") (by decide) (pf_ix (pf_var 0) pf_int) rfl W.fr_isinstance rfl W.fr_int rfl)) (pfss_one (pfs_ret (pf_lstM (pfa_cons (pf_var 0) pfa_nil)))) pfss_nil)
      (pfss_cons (pfs_set (i := 1) sc_names_in.nd rfl (by first | exact Or.inl rfl | exact Or.inr rfl) (pf_lstM pfa_nil))
      (pfss_cons (pfs_for PassesOwn.never rfl (pfi_tup (pf_slice (pf_var 0) (pfo_some pf_int) pfo_none)) (pg_name (i := 2) sc_names_in.nd rfl (by first | exact Or.inl rfl | exact Or.inr rfl)) lg_name (pfss_one (pfs_expr (pf_ext (pf_var 1) (pf_call (ok_names_in W n) (hr.mono (by first | exact Nat.le_refl _ | exact Nat.le_trans (by decide) (Nat.le_add_right 0 n))) rfl W.d_names_in.gl W.d_names_in.fn.kp W.d_names_in.bd (pfa_cons (pf_var 2) pfa_nil))))))
      (pfss_one (pfs_ret (pf_var 1)))))))
abbrev n_alike : List Str := ["one", "other", "forms", "names", "named"]
abbrev p_alike : List Str := ["one", "other"]
theorem sc_alike : FnScope n_alike p_alike (defScope (top 22)) := ⟨rfl, rfl, rfl, by decide +kernel, rfl, by decide +kernel, by decide +kernel⟩
theorem ok_alike (W : Fx K w mg) : FnOk P w K mg base CX0 31 W.f_alike W.fd_alike p_alike (spF P w K 2 fn_alike) := okF (N := n_alike) (ps := p_alike) W.d_alike.fn sc_alike fun cdv A outer s H E hr =>
      (pfss_cons (pfs_set (i := 2) sc_alike.nd rfl (by first | exact Or.inl rfl | exact Or.inr rfl) (pf_make0 W.nsC W.mkr (ok_m_init W) (hr.mono (by decide)) rfl W.g_Forms W.b_m_init))
      (pfss_cons (pfs_set (i := 3) sc_alike.nd rfl (by first | exact Or.inl rfl | exact Or.inr rfl) pf_dctN)
      (pfss_cons (pfs_for PassesOwn.never rfl (pfi_lst (pf_op op_addA l_add (pf_call (ok_names_in W FU) (hr.mono (by decide)) rfl W.d_names_in.gl W.d_names_in.fn.kp W.d_names_in.bd (pfa_cons (pf_var 0) pfa_nil)) (pf_call (ok_names_in W FU) (hr.mono (by decide)) rfl W.d_names_in.gl W.d_names_in.fn.kp W.d_names_in.bd (pfa_cons (pf_var 1) pfa_nil)))) (pg_name (i := 4) sc_alike.nd rfl (by first | exact Or.inl rfl | exact Or.inr rfl)) lg_name (pfss_one (pfs_dput (u9 hr) (pf_meth W.nsC (pf_var 2) W.cls W.m_thing.me (ok_m_thing W) (hr.mono (by decide)) W.m_thing.bd (pfa_cons (pf_call (ok_kind_of W) (hr.mono (by decide)) rfl W.d_kind_of.gl W.d_kind_of.fn.kp W.d_kind_of.bd (pfa_cons (pf_ix (pf_var 4) pf_int) pfa_nil)) (pfa_cons (pf_var 4) pfa_nil))) (pf_var 3) (pf_var 4))))
      (pfss_one (pfs_ret (pf_cmpR (op_eqA hr.units0) l_eq (pf_call (ok_form_of W FU) (hr.mono (by decide)) rfl W.d_form_of.gl W.d_form_of.fn.kp W.d_form_of.bd (pfa_cons (pf_var 2) (pfa_cons (pf_var 0) (pfa_cons (pf_var 3) pfa_nil)))) (pf_call (ok_form_of W FU) (hr.mono (by decide)) rfl W.d_form_of.gl W.d_form_of.fn.kp W.d_form_of.bd (pfa_cons (pf_var 2) (pfa_cons (pf_var 1) (pfa_cons (pf_var 3) pfa_nil)))) (nomark _)))))))
abbrev n__law_cell_at : List Str := ["_law_script", "_law_k"]
abbrev p__law_cell_at : List Str := ["_law_script", "_law_k"]
theorem sc__law_cell_at : FnScope n__law_cell_at p__law_cell_at (defScope (top 24)) := ⟨rfl, rfl, rfl, by decide +kernel, rfl, by decide +kernel, by decide +kernel⟩
theorem ok__law_cell_at (W : Fx K w mg) : FnOk P w K mg base CX0 1 W.f__law_cell_at W.fd__law_cell_at p__law_cell_at (spF P w K 2 fn__law_cell_at) := okF (N := n__law_cell_at) (ps := p__law_cell_at) W.d__law_cell_at.fn sc__law_cell_at fun cdv A outer s H E hr =>
      (pfss_cons (pfs_if (pft_cmpR op_lt l_lt (pf_var 1) (pf_callB call_lenA l_len rfl W.fr_len rfl (pfa_cons (pf_var 0) pfa_nil)) (nomark _)) (pfss_one (pfs_ret (pf_ix (pf_var 0) (pf_var 1)))) pfss_nil)
      (pfss_one (pfs_ret pf_int)))
abbrev n__law_box : List Str := ["_law_cell"]
abbrev p__law_box : List Str := ["_law_cell"]
theorem sc__law_box : FnScope n__law_box p__law_box (defScope (top 25)) := ⟨rfl, rfl, rfl, by decide +kernel, rfl, by decide +kernel, by decide +kernel⟩
theorem ok__law_box (W : Fx K w mg) : FnOk P w K mg base CX0 1 W.f__law_box W.fd__law_box p__law_box (spF P w K 1 fn__law_box) := okF (N := n__law_box) (ps := p__law_box) W.d__law_box.fn sc__law_box fun cdv A outer s H E hr =>
      (pfss_one (pfs_ret (pf_lstM (pfa_cons (pf_op op_fdivN l_div (pf_var 0) pf_int) (pfa_cons (pf_op op_modN l_mod (pf_var 0) pf_int) (pfa_cons pf_int (pfa_cons (pf_op op_modN l_mod (pf_var 0) pf_int) pfa_nil)))))))
abbrev n__law_take : List Str := ["_law_box_here", "_law_many", "_law_found"]
abbrev p__law_take : List Str := ["_law_box_here", "_law_many"]
theorem sc__law_take : FnScope n__law_take p__law_take (defScope (top 26)) := ⟨rfl, rfl, rfl, by decide +kernel, rfl, by decide +kernel, by decide +kernel⟩
theorem ok__law_take (W : Fx K w mg) : FnOk P w K mg base CX0 1 W.f__law_take W.fd__law_take p__law_take (spF P w K 2 fn__law_take) := okF (N := n__law_take) (ps := p__law_take) W.d__law_take.fn sc__law_take fun cdv A outer s H E hr =>
      (pfss_cons (pfs_setL (pf_op op_addA l_add (pf_ix (pf_var 0) pf_int) pf_int) (pf_var 0) pf_int)
      (pfss_cons (pfs_if (PFW.pt (pfw_and (pft_cmpR (op_eqA hr.units0) l_eq (pf_ix (pf_var 0) pf_int) pf_int (nomark _)) (pfw_and1 (pft_cmpR op_notInA l_notIn (pf_ix (pf_var 0) pf_int) (pf_tup (pfa_cons pf_int (pfa_cons (pf_neg pf_int) pfa_nil))) (by with_unfolding_all rfl))))) (pfss_cons (pfs_set (i := 2) sc__law_take.nd rfl (by first | exact Or.inl rfl | exact Or.inr rfl) (pf_op op_modN l_mod (pf_ix (pf_var 0) pf_int) (pf_var 1)))
      (pfss_cons (pfs_setL (pf_op op_fdivN l_div (pf_ix (pf_var 0) pf_int) (pf_var 1)) (pf_var 0) pf_int)
      (pfss_one (pfs_ret (pf_var 2))))) pfss_nil)
      (pfss_cons (pfs_setL (pf_op op_modN l_mod (pf_op op_addA l_add (pf_op op_addA l_add (pf_op op_mul l_mul (pf_ix (pf_var 0) pf_int) pf_int) (pf_op op_mul l_mul pf_int (pf_ix (pf_var 0) pf_int))) pf_int) pf_int) (pf_var 0) pf_int)
      (pfss_one (pfs_ret (pf_op op_modN l_mod (pf_op op_fdivN l_div (pf_op op_modN l_mod (pf_op op_mul l_mul (pf_ix (pf_var 0) pf_int) pf_int) pf_int) pf_int) (pf_var 1)))))))
abbrev n__law_number : List Str := ["_law_box_here", "_law_some"]
abbrev p__law_number : List Str := ["_law_box_here"]
theorem sc__law_number : FnScope n__law_number p__law_number (defScope (top 27)) := ⟨rfl, rfl, rfl, by decide +kernel, rfl, by decide +kernel, by decide +kernel⟩
theorem ok__law_number (W : Fx K w mg) : FnOk P w K mg base CX0 2 W.f__law_number W.fd__law_number p__law_number (spF P w K 1 fn__law_number) := okF (N := n__law_number) (ps := p__law_number) W.d__law_number.fn sc__law_number fun cdv A outer s H E hr =>
      (pfss_cons (pfs_set (i := 1) sc__law_number.nd rfl (by first | exact Or.inl rfl | exact Or.inr rfl) (pf_lst (pfa_cons pf_int (pfa_cons pf_int (pfa_cons (pf_op op_sub l_sub (pf_call (ok__law_take W) (hr.mono (by decide)) rfl W.d__law_take.gl W.d__law_take.fn.kp W.d__law_take.bd (pfa_cons (pf_var 0) (pfa_cons pf_int pfa_nil))) pf_int) (pfa_cons pf_int (pfa_cons (pf_neg pf_int) (pfa_cons (pf_op op_sub l_sub (pf_call (ok__law_take W) (hr.mono (by decide)) rfl W.d__law_take.gl W.d__law_take.fn.kp W.d__law_take.bd (pfa_cons (pf_var 0) (pfa_cons pf_int pfa_nil))) pf_int) pfa_nil))))))))
      (pfss_one (pfs_ret (pf_ix (pf_var 1) (pf_call (ok__law_take W) (hr.mono (by decide)) rfl W.d__law_take.gl W.d__law_take.fn.kp W.d__law_take.bd (pfa_cons (pf_var 0) (pfa_cons pf_int pfa_nil)))))))
abbrev n__law_leaf : List Str := ["_law_box_here", "_law_kind"]
abbrev p__law_leaf : List Str := ["_law_box_here", "_law_kind"]
theorem sc__law_leaf : FnScope n__law_leaf p__law_leaf (defScope (top 28)) := ⟨rfl, rfl, rfl, by decide +kernel, rfl, by decide +kernel, by decide +kernel⟩
theorem ok__law_leaf (W : Fx K w mg) : FnOk P w K mg base CX0 3 W.f__law_leaf W.fd__law_leaf p__law_leaf (spF P w K 2 fn__law_leaf) := okF (N := n__law_leaf) (ps := p__law_leaf) W.d__law_leaf.fn sc__law_leaf fun cdv A outer s H E hr =>
      (pfss_cons (pfs_if (PFW.pt (pfw_and (pft_cmpR (op_eqA hr.units0) l_eq (pf_var 1) pf_str (nomark _)) (pfw_and1 (pft_cmpR (op_eqA hr.units0) l_eq (pf_call (ok__law_take W) (hr.mono (by decide)) rfl W.d__law_take.gl W.d__law_take.fn.kp W.d__law_take.bd (pfa_cons (pf_var 0) (pfa_cons pf_int pfa_nil))) pf_int (nomark _))))) (pfss_one (pfs_ret (pf_call (ok__law_number W) (hr.mono (by decide)) rfl W.d__law_number.gl W.d__law_number.fn.kp W.d__law_number.bd (pfa_cons (pf_var 0) pfa_nil)))) pfss_nil)
      (pfss_one (pfs_ret (pf_tup (pfa_cons (pf_call (ok__law_take W) (hr.mono (by decide)) rfl W.d__law_take.gl W.d__law_take.fn.kp W.d__law_take.bd (pfa_cons (pf_var 0) (pfa_cons pf_int pfa_nil))) (pfa_cons (pf_op op_addA l_add (pf_var 1) (pf_callTy call_str_int l_str1 rfl W.fr_str rfl (pfa_cons (pf_call (ok__law_take W) (hr.mono (by decide)) rfl W.d__law_take.gl W.d__law_take.fn.kp W.d__law_take.bd (pfa_cons (pf_var 0) (pfa_cons pf_int pfa_nil))) pfa_nil))) pfa_nil))))))
abbrev n__law_term : List Str := ["_law_box_here", "_law_kind", "_law_deep", "_law_ops", "_law_kinds", "_law_k", "_law_one"]
abbrev p__law_term : List Str := ["_law_box_here", "_law_kind", "_law_deep"]
theorem sc__law_term : FnScope n__law_term p__law_term (defScope (top 29)) := ⟨rfl, rfl, rfl, by decide +kernel, rfl, by decide +kernel, by decide +kernel⟩
theorem ok__law_term (W : Fx K w mg) : ∀ n, FnOk P w K mg base CX0 (3 + n) W.f__law_term W.fd__law_term p__law_term (spF P w K 3 (fn__law_term n))
  | 0 => ⟨fun _ _ _ _ h => h.1, fun A outer s H args us vs Q E hr he hb hv hs => by
    obtain ⟨_, _, _, _, _, _, _, _, h, _⟩ := hs
    cases h⟩
  | n + 1 => okF (N := n__law_term) (ps := p__law_term) W.d__law_term.fn sc__law_term fun cdv A outer s H E hr =>
      (pfss_cons (pfs_if (PFW.pt (pfw_or (pft_cmpR (op_eqA hr.units0) l_eq (pf_var 2) pf_int (nomark _)) (pfw_or1 (pft_cmpR (op_eqA hr.units0) l_eq (pf_call (ok__law_take W) (hr.mono (by first | exact Nat.le_refl _ | exact Nat.le_trans (by decide) (Nat.le_add_right 3 n))) rfl W.d__law_take.gl W.d__law_take.fn.kp W.d__law_take.bd (pfa_cons (pf_var 0) (pfa_cons pf_int pfa_nil))) pf_int (nomark _))))) (pfss_one (pfs_ret (pf_call (ok__law_leaf W) (hr.mono (by first | exact Nat.le_refl _ | exact Nat.le_trans (by decide) (Nat.le_add_right 3 n))) rfl W.d__law_leaf.gl W.d__law_leaf.fn.kp W.d__law_leaf.bd (pfa_cons (pf_var 0) (pfa_cons (pf_var 1) pfa_nil))))) pfss_nil)
      (pfss_cons (pfs_set (i := 3) sc__law_term.nd rfl (by first | exact Or.inl rfl | exact Or.inr rfl) (pf_lst (pfa_cons pf_str (pfa_cons pf_str (pfa_cons pf_str (pfa_cons pf_str (pfa_cons pf_str (pfa_cons pf_str (pfa_cons pf_str (pfa_cons pf_str (pfa_cons pf_str (pfa_cons pf_str (pfa_cons pf_str (pfa_cons pf_str (pfa_cons pf_str pfa_nil)))))))))))))))
      (pfss_cons (pfs_set (i := 4) sc__law_term.nd rfl (by first | exact Or.inl rfl | exact Or.inr rfl) (pf_lst (pfa_cons pf_str (pfa_cons pf_str (pfa_cons pf_str (pfa_cons pf_str (pfa_cons pf_str (pfa_cons pf_str (pfa_cons pf_str (pfa_cons pf_str (pfa_cons pf_str (pfa_cons pf_str (pfa_cons pf_str (pfa_cons pf_str (pfa_cons pf_str pfa_nil)))))))))))))))
      (pfss_cons (pfs_if (pft_cmpR (op_eqA hr.units0) l_eq (pf_var 1) pf_str (nomark _)) (pfss_cons (pfs_set (i := 3) sc__law_term.nd rfl (by first | exact Or.inl rfl | exact Or.inr rfl) (pf_lst (pfa_cons pf_str (pfa_cons pf_str (pfa_cons pf_str (pfa_cons pf_str (pfa_cons pf_str pfa_nil)))))))
      (pfss_one (pfs_set (i := 4) sc__law_term.nd rfl (by first | exact Or.inl rfl | exact Or.inr rfl) (pf_lst (pfa_cons pf_str (pfa_cons pf_str (pfa_cons pf_str (pfa_cons (pf_slice pf_str pfo_none (pfo_some (pf_call (ok__law_take W) (hr.mono (by first | exact Nat.le_refl _ | exact Nat.le_trans (by decide) (Nat.le_add_right 3 n))) rfl W.d__law_take.gl W.d__law_take.fn.kp W.d__law_take.bd (pfa_cons (pf_var 0) (pfa_cons pf_int pfa_nil))))) (pfa_cons pf_str pfa_nil))))))))) pfss_nil)
      (pfss_cons (pfs_set (i := 5) sc__law_term.nd rfl (by first | exact Or.inl rfl | exact Or.inr rfl) (pf_call (ok__law_take W) (hr.mono (by first | exact Nat.le_refl _ | exact Nat.le_trans (by decide) (Nat.le_add_right 3 n))) rfl W.d__law_take.gl W.d__law_take.fn.kp W.d__law_take.bd (pfa_cons (pf_var 0) (pfa_cons (pf_callB call_lenA l_len rfl W.fr_len rfl (pfa_cons (pf_var 3) pfa_nil)) pfa_nil))))
      (pfss_one (pfs_ret (pf_op op_addA l_add (pf_tup (pfa_cons (pf_ix (pf_var 3) (pf_var 5)) pfa_nil)) (pf_callTy call_tuple_of l_tuple rfl W.fr_tuple rfl (pfa_cons (pf_lc [("_law_one", 6)] rfl rfl sc__law_term.nd (pfi_str (pf_ix (pf_var 4) (pf_var 5))) (blkOk_by (own := [("_law_one", 6)]) (N := n__law_term) (sc := defScope (top 29)) (by decide +kernel)) (fun _ _ _ _ _ => pg_name (i := 6) sc__law_term.nd rfl (Or.inl rfl)) (fun _ _ _ _ _ => pfts_nil) (fun _ _ _ _ _ => (pf_call (ok__law_term W n) (hr.mono (by first | exact Nat.le_refl _ | exact Nat.le_trans (by decide) (Nat.le_add_right 3 n))) rfl W.d__law_term.gl W.d__law_term.fn.kp W.d__law_term.bd (pfa_cons (pf_var 0) (pfa_cons (pf_var 6) (pfa_cons (pf_op op_sub l_sub (pf_var 2) pf_int) pfa_nil)))))) pfa_nil))))))))))
abbrev n__law_near : List Str := ["_law_box_here", "_law_term_here", "_law_kind", "_law_other", "_law_some", "_law_found"]
abbrev p__law_near : List Str := ["_law_box_here", "_law_term_here", "_law_kind"]
theorem sc__law_near : FnScope n__law_near p__law_near (defScope (top 30)) := ⟨rfl, rfl, rfl, by decide +kernel, rfl, by decide +kernel, by decide +kernel⟩
theorem ok__law_near (W : Fx K w mg) : FnOk P w K mg base CX0 4 W.f__law_near W.fd__law_near p__law_near (spF P w K 3 fn__law_near) := okF (N := n__law_near) (ps := p__law_near) W.d__law_near.fn sc__law_near fun cdv A outer s H E hr =>
      (pfss_cons (pfs_set (i := 3) sc__law_near.nd rfl (by first | exact Or.inl rfl | exact Or.inr rfl) (pf_call (ok__law_leaf W) (hr.mono (by decide)) rfl W.d__law_leaf.gl W.d__law_leaf.fn.kp W.d__law_leaf.bd (pfa_cons (pf_var 0) (pfa_cons pf_str pfa_nil))))
      (pfss_cons (pfs_if (pft_cmpR (op_eqA hr.units0) l_eq (pf_var 2) pf_str (nomark _)) (pfss_cons (pfs_set (i := 4) sc__law_near.nd rfl (by first | exact Or.inl rfl | exact Or.inr rfl) (pf_lst (pfa_cons (pf_tup (pfa_cons pf_str (pfa_cons (pf_var 1) pfa_nil))) (pfa_cons (pf_tup (pfa_cons pf_str (pfa_cons (pf_var 1) (pfa_cons (pf_var 3) (pfa_cons (pf_var 3) pfa_nil))))) (pfa_cons (pf_var 1) (pfa_cons (pf_tup (pfa_cons pf_str (pfa_cons pf_int (pfa_cons (pf_var 3) pfa_nil)))) (pfa_cons (pf_tup (pfa_cons pf_str (pfa_cons (pf_tup (pfa_cons pf_str (pfa_cons (pf_var 1) pfa_nil))) pfa_nil))) pfa_nil)))))))
      (pfss_one (pfs_ret (pf_ix (pf_var 4) (pf_call (ok__law_take W) (hr.mono (by decide)) rfl W.d__law_take.gl W.d__law_take.fn.kp W.d__law_take.bd (pfa_cons (pf_var 0) (pfa_cons pf_int pfa_nil))))))) pfss_nil)
      (pfss_cons (pfs_set (i := 4) sc__law_near.nd rfl (by first | exact Or.inl rfl | exact Or.inr rfl) (pf_lst (pfa_cons (pf_tup (pfa_cons pf_str (pfa_cons (pf_var 1) (pfa_cons pf_int pfa_nil)))) (pfa_cons (pf_tup (pfa_cons pf_str (pfa_cons (pf_tup (pfa_cons pf_str (pfa_cons (pf_var 1) (pfa_cons (pf_var 3) pfa_nil)))) (pfa_cons (pf_var 3) pfa_nil)))) (pfa_cons (pf_tup (pfa_cons pf_str (pfa_cons (pf_var 1) pfa_nil))) (pfa_cons (pf_tup (pfa_cons pf_str (pfa_cons (pf_var 3) (pfa_cons (pf_var 1) (pfa_cons (pf_var 1) pfa_nil))))) pfa_nil))))))
      (pfss_cons (pfs_set (i := 4) sc__law_near.nd rfl (by first | exact Or.inl rfl | exact Or.inr rfl) (pf_op op_addA l_add (pf_var 4) (pf_lst (pfa_cons (pf_tup (pfa_cons pf_str (pfa_cons (pf_var 1) (pfa_cons pf_int pfa_nil)))) (pfa_cons (pf_tup (pfa_cons pf_str (pfa_cons (pf_var 1) (pfa_cons pf_int pfa_nil)))) (pfa_cons (pf_tup (pfa_cons pf_str (pfa_cons (pf_var 1) (pfa_cons pf_int pfa_nil)))) (pfa_cons (pf_tup (pfa_cons pf_str (pfa_cons (pf_tup (pfa_cons pf_str (pfa_cons (pf_var 3) (pfa_cons (pf_var 1) pfa_nil)))) (pfa_cons pf_int pfa_nil)))) pfa_nil)))))))
      (pfss_cons (pfs_set (i := 4) sc__law_near.nd rfl (by first | exact Or.inl rfl | exact Or.inr rfl) (pf_op op_addA l_add (pf_var 4) (pf_lst (pfa_cons (pf_tup (pfa_cons pf_str (pfa_cons (pf_tup (pfa_cons pf_str (pfa_cons pf_int (pfa_cons (pf_var 1) pfa_nil)))) (pfa_cons pf_int pfa_nil)))) (pfa_cons (pf_tup (pfa_cons pf_str (pfa_cons pf_int (pfa_cons (pf_tup (pfa_cons pf_str (pfa_cons pf_int (pfa_cons (pf_var 1) pfa_nil)))) pfa_nil)))) (pfa_cons (pf_tup (pfa_cons pf_str (pfa_cons (pf_var 1) (pfa_cons pf_int pfa_nil)))) (pfa_cons (pf_tup (pfa_cons pf_str (pfa_cons (pf_var 1) (pfa_cons pf_int pfa_nil)))) pfa_nil)))))))
      (pfss_cons (pfs_set (i := 4) sc__law_near.nd rfl (by first | exact Or.inl rfl | exact Or.inr rfl) (pf_op op_addA l_add (pf_var 4) (pf_lst (pfa_cons (pf_tup (pfa_cons pf_str (pfa_cons (pf_tup (pfa_cons pf_str (pfa_cons pf_int (pfa_cons (pf_var 1) pfa_nil)))) (pfa_cons (pf_tup (pfa_cons pf_str (pfa_cons (pf_var 1) (pfa_cons (pf_var 1) pfa_nil)))) pfa_nil)))) (pfa_cons (pf_tup (pfa_cons pf_str (pfa_cons pf_int (pfa_cons (pf_var 3) (pfa_cons (pf_var 1) pfa_nil))))) (pfa_cons (pf_tup (pfa_cons pf_str (pfa_cons pf_int (pfa_cons (pf_var 1) (pfa_cons (pf_var 3) pfa_nil))))) pfa_nil))))))
      (pfss_cons (pfs_set (i := 5) sc__law_near.nd rfl (by first | exact Or.inl rfl | exact Or.inr rfl) (pf_ix (pf_var 4) (pf_call (ok__law_take W) (hr.mono (by decide)) rfl W.d__law_take.gl W.d__law_take.fn.kp W.d__law_take.bd (pfa_cons (pf_var 0) (pfa_cons pf_int pfa_nil)))))
      (pfss_cons (pfs_if (PFW.pt (pfw_and (pft_val (pf_isi (T := "tuple") (by decide) (pf_var 1) rfl W.fr_isinstance rfl W.fr_tuple rfl)) (pfw_and (pft_cmpR op_inA l_in (pf_ix (pf_var 1) pf_int) (pf_tup (pfa_cons pf_str (pfa_cons pf_str (pfa_cons pf_str (pfa_cons pf_str (pfa_cons pf_str pfa_nil)))))) (by with_unfolding_all rfl)) (pfw_and1 (pft_cmpR (op_eqA hr.units0) l_eq (pf_call (ok__law_take W) (hr.mono (by decide)) rfl W.d__law_take.gl W.d__law_take.fn.kp W.d__law_take.bd (pfa_cons (pf_var 0) (pfa_cons pf_int pfa_nil))) pf_int (nomark _)))))) (pfss_one (pfs_ret (pf_tup (pfa_cons (pf_ix (pf_var 1) pf_int) (pfa_cons (pf_ix (pf_var 1) pf_int) (pfa_cons (pf_ix (pf_var 1) pf_int) pfa_nil)))))) pfss_nil)
      (pfss_one (pfs_ret (pf_var 5)))))))))))
abbrev n__law_edge : List Str := ["_law_box_here", "_law_term_here", "_law_kind", "_law_other", "_law_place", "_law_row", "_law_some", "_law_way"]
abbrev p__law_edge : List Str := ["_law_box_here", "_law_term_here", "_law_kind"]
theorem sc__law_edge : FnScope n__law_edge p__law_edge (defScope (top 31)) := ⟨rfl, rfl, rfl, by decide +kernel, rfl, by decide +kernel, by decide +kernel⟩
theorem ok__law_edge (W : Fx K w mg) : FnOk P w K mg base CX0 4 W.f__law_edge W.fd__law_edge p__law_edge (spF P w K 3 fn__law_edge) := okF (N := n__law_edge) (ps := p__law_edge) W.d__law_edge.fn sc__law_edge fun cdv A outer s H E hr =>
      (pfss_cons (pfs_set (i := 3) sc__law_edge.nd rfl (by first | exact Or.inl rfl | exact Or.inr rfl) (pf_call (ok__law_leaf W) (hr.mono (by decide)) rfl W.d__law_leaf.gl W.d__law_leaf.fn.kp W.d__law_leaf.bd (pfa_cons (pf_var 0) (pfa_cons pf_str pfa_nil))))
      (pfss_cons (pfs_set (i := 4) sc__law_edge.nd rfl (by first | exact Or.inl rfl | exact Or.inr rfl) (pf_ix (pf_lst (pfa_cons (pf_neg pf_int) (pfa_cons pf_int (pfa_cons pf_int (pfa_cons pf_int (pfa_cons pf_int (pfa_cons pf_int pfa_nil))))))) (pf_call (ok__law_take W) (hr.mono (by decide)) rfl W.d__law_take.gl W.d__law_take.fn.kp W.d__law_take.bd (pfa_cons (pf_var 0) (pfa_cons pf_int pfa_nil)))))
      (pfss_cons (pfs_set (i := 5) sc__law_edge.nd rfl (by first | exact Or.inl rfl | exact Or.inr rfl) (pf_ix (pf_lst (pfa_cons (pf_tup (pfa_cons pf_str (pfa_cons (pf_var 3) (pfa_cons pf_int pfa_nil)))) (pfa_cons (pf_call (ok__law_leaf W) (hr.mono (by decide)) rfl W.d__law_leaf.gl W.d__law_leaf.fn.kp W.d__law_leaf.bd (pfa_cons (pf_var 0) (pfa_cons pf_str pfa_nil))) pfa_nil))) (pf_call (ok__law_take W) (hr.mono (by decide)) rfl W.d__law_take.gl W.d__law_take.fn.kp W.d__law_take.bd (pfa_cons (pf_var 0) (pfa_cons pf_int pfa_nil)))))
      (pfss_cons (pfs_if (pft_cmpR (op_eqA hr.units0) l_eq (pf_var 2) pf_str (nomark _)) (pfss_one (pfs_ret (pf_tup (pfa_cons (pf_ix (pf_lst (pfa_cons (pf_var 5) (pfa_cons (pf_var 1) pfa_nil))) (pf_call (ok__law_take W) (hr.mono (by decide)) rfl W.d__law_take.gl W.d__law_take.fn.kp W.d__law_take.bd (pfa_cons (pf_var 0) (pfa_cons pf_int pfa_nil)))) (pfa_cons (pf_tup (pfa_cons pf_str (pfa_cons (pf_var 5) (pfa_cons (pf_var 4) (pfa_cons (pf_var 3) pfa_nil))))) pfa_nil))))) pfss_nil)
      (pfss_cons (pfs_set (i := 6) sc__law_edge.nd rfl (by first | exact Or.inl rfl | exact Or.inr rfl) (pf_lst (pfa_cons (pf_tup (pfa_cons pf_str (pfa_cons (pf_var 1) (pfa_cons pf_int pfa_nil)))) (pfa_cons (pf_tup (pfa_cons pf_str (pfa_cons (pf_var 1) (pfa_cons pf_int pfa_nil)))) (pfa_cons (pf_tup (pfa_cons pf_str (pfa_cons (pf_var 1) (pfa_cons pf_int pfa_nil)))) (pfa_cons (pf_tup (pfa_cons pf_str (pfa_cons (pf_var 1) (pfa_cons pf_int pfa_nil)))) (pfa_cons (pf_tup (pfa_cons pf_str (pfa_cons (pf_var 4) (pfa_cons (pf_var 3) (pfa_cons (pf_var 1) pfa_nil))))) pfa_nil)))))))
      (pfss_cons (pfs_set (i := 6) sc__law_edge.nd rfl (by first | exact Or.inl rfl | exact Or.inr rfl) (pf_op op_addA l_add (pf_var 6) (pf_lst (pfa_cons (pf_tup (pfa_cons pf_str (pfa_cons (pf_tup (pfa_cons pf_str (pfa_cons (pf_ix (pf_lst (pfa_cons pf_int (pfa_cons pf_int (pfa_cons pf_int (pfa_cons (pf_neg pf_int) pfa_nil))))) (pf_call (ok__law_take W) (hr.mono (by decide)) rfl W.d__law_take.gl W.d__law_take.fn.kp W.d__law_take.bd (pfa_cons (pf_var 0) (pfa_cons pf_int pfa_nil)))) (pfa_cons (pf_var 1) pfa_nil)))) (pfa_cons (pf_var 4) pfa_nil)))) pfa_nil))))
      (pfss_cons (pfs_set (i := 6) sc__law_edge.nd rfl (by first | exact Or.inl rfl | exact Or.inr rfl) (pf_op op_addA l_add (pf_var 6) (pf_lst (pfa_cons (pf_tup (pfa_cons pf_str (pfa_cons (pf_tup (pfa_cons pf_str (pfa_cons (pf_var 3) (pfa_cons (pf_var 1) pfa_nil)))) (pfa_cons (pf_var 4) pfa_nil)))) (pfa_cons (pf_tup (pfa_cons pf_str (pfa_cons (pf_tup (pfa_cons pf_str (pfa_cons (pf_var 5) (pfa_cons (pf_var 3) (pfa_cons (pf_var 1) pfa_nil))))) (pfa_cons (pf_var 3) pfa_nil)))) pfa_nil)))))
      (pfss_cons (pfs_set (i := 7) sc__law_edge.nd rfl (by first | exact Or.inl rfl | exact Or.inr rfl) (pf_call (ok__law_take W) (hr.mono (by decide)) rfl W.d__law_take.gl W.d__law_take.fn.kp W.d__law_take.bd (pfa_cons (pf_var 0) (pfa_cons pf_int pfa_nil))))
      (pfss_cons (pfs_if (pft_cmpR op_gt l_gt (pf_var 7) pf_int (nomark _)) (pfss_one (pfs_ret (pf_tup (pfa_cons (pf_tup (pfa_cons pf_str (pfa_cons (pf_var 3) (pfa_cons (pf_var 1) pfa_nil)))) (pfa_cons (pf_tup (pfa_cons pf_str (pfa_cons (pf_var 1) (pfa_cons (pf_var 3) pfa_nil)))) pfa_nil))))) pfss_nil)
      (pfss_one (pfs_ret (pf_tup (pfa_cons (pf_ifExp (pft_cmpR (op_eqA hr.units0) l_eq (pf_var 7) pf_int (nomark _)) (pf_var 1) (pf_ix (pf_lst (pfa_cons (pf_var 1) (pfa_cons pf_int (pfa_cons (pf_var 3) pfa_nil)))) (pf_call (ok__law_take W) (hr.mono (by decide)) rfl W.d__law_take.gl W.d__law_take.fn.kp W.d__law_take.bd (pfa_cons (pf_var 0) (pfa_cons pf_int pfa_nil))))) (pfa_cons (pf_ix (pf_var 6) (pf_var 7)) pfa_nil))))))))))))))
abbrev n__law_parts : List Str := ["_law_term_here", "_law_one"]
abbrev p__law_parts : List Str := ["_law_term_here"]
theorem sc__law_parts : FnScope n__law_parts p__law_parts (defScope (top 32)) := ⟨rfl, rfl, rfl, by decide +kernel, rfl, by decide +kernel, by decide +kernel⟩
theorem ok__law_parts (W : Fx K w mg) : ∀ n, FnOk P w K mg base CX0 (0 + n) W.f__law_parts W.fd__law_parts p__law_parts (spF P w K 1 (fn__law_parts n))
  | 0 => ⟨fun _ _ _ _ h => h.1, fun A outer s H args us vs Q E hr he hb hv hs => by
    obtain ⟨_, _, _, _, _, _, _, _, h, _⟩ := hs
    cases h⟩
  | n + 1 => okF (N := n__law_parts) (ps := p__law_parts) W.d__law_parts.fn sc__law_parts fun cdv A outer s H E hr =>
      (pfss_cons (pfs_if (PFW.pt (pfw_or (pft_val (pf_isi (T := "int") (by decide) (pf_var 0) rfl W.fr_isinstance rfl W.fr_int rfl)) (pfw_or1 (pft_val (pf_isi (T := "int") (by decide) (pf_ix (pf_var 0) pf_int) rfl W.fr_isinstance rfl W.fr_int rfl))))) (pfss_one (pfs_ret pf_int)) pfss_nil)
      (pfss_one (pfs_ret (pf_op op_addA l_add pf_int (pf_callB (cr_sum rfl) l_sum rfl W.fr_sum rfl (pfa_cons (pf_lc [("_law_one", 1)] rfl rfl sc__law_parts.nd (pfi_tup (pf_slice (pf_var 0) (pfo_some pf_int) pfo_none)) (blkOk_by (own := [("_law_one", 1)]) (N := n__law_parts) (sc := defScope (top 32)) (by decide +kernel)) (fun _ _ _ _ _ => pg_name (i := 1) sc__law_parts.nd rfl (Or.inl rfl)) (fun _ _ _ _ _ => pfts_nil) (fun _ _ _ _ _ => (pf_call (ok__law_parts W n) (hr.mono (by first | exact Nat.le_refl _ | exact Nat.le_trans (by decide) (Nat.le_add_right 0 n))) rfl W.d__law_parts.gl W.d__law_parts.fn.kp W.d__law_parts.bd (pfa_cons (pf_var 1) pfa_nil)))) pfa_nil))))))
abbrev n__law_pair : List Str := ["_law_box_here", "_law_kind", "_law_one", "_law_other", "_law_way"]
abbrev p__law_pair : List Str := ["_law_box_here"]
theorem sc__law_pair : FnScope n__law_pair p__law_pair (defScope (top 33)) := ⟨rfl, rfl, rfl, by decide +kernel, rfl, by decide +kernel, by decide +kernel⟩
theorem ok__law_pair (W : Fx K w mg) : FnOk P w K mg base CX0 28 W.f__law_pair W.fd__law_pair p__law_pair (spF P w K 1 fn__law_pair) := okF (N := n__law_pair) (ps := p__law_pair) W.d__law_pair.fn sc__law_pair fun cdv A outer s H E hr =>
      (pfss_cons (pfs_set (i := 1) sc__law_pair.nd rfl (by first | exact Or.inl rfl | exact Or.inr rfl) (pf_ix pf_str (pf_call (ok__law_take W) (hr.mono (by decide)) rfl W.d__law_take.gl W.d__law_take.fn.kp W.d__law_take.bd (pfa_cons (pf_var 0) (pfa_cons pf_int pfa_nil)))))
      (pfss_cons (pfs_set (i := 2) sc__law_pair.nd rfl (by first | exact Or.inl rfl | exact Or.inr rfl) (pf_call (ok__law_term W FU) (hr.mono (by decide)) rfl W.d__law_term.gl W.d__law_term.fn.kp W.d__law_term.bd (pfa_cons (pf_var 0) (pfa_cons (pf_var 1) (pfa_cons pf_int pfa_nil)))))
      (pfss_cons (pfs_if (pft_cmpR op_gt l_gt (pf_call (ok__law_parts W FU) (hr.mono (by decide)) rfl W.d__law_parts.gl W.d__law_parts.fn.kp W.d__law_parts.bd (pfa_cons (pf_var 2) pfa_nil)) pf_int (nomark _)) (pfss_one (pfs_set (i := 2) sc__law_pair.nd rfl (by first | exact Or.inl rfl | exact Or.inr rfl) (pf_call (ok__law_term W FU) (hr.mono (by decide)) rfl W.d__law_term.gl W.d__law_term.fn.kp W.d__law_term.bd (pfa_cons (pf_var 0) (pfa_cons (pf_var 1) (pfa_cons pf_int pfa_nil)))))) pfss_nil)
      (pfss_cons (pfs_set (i := 3) sc__law_pair.nd rfl (by first | exact Or.inl rfl | exact Or.inr rfl) (pf_call (ok__law_term W FU) (hr.mono (by decide)) rfl W.d__law_term.gl W.d__law_term.fn.kp W.d__law_term.bd (pfa_cons (pf_var 0) (pfa_cons (pf_var 1) (pfa_cons pf_int pfa_nil)))))
      (pfss_cons (pfs_set (i := 4) sc__law_pair.nd rfl (by first | exact Or.inl rfl | exact Or.inr rfl) (pf_call (ok__law_take W) (hr.mono (by decide)) rfl W.d__law_take.gl W.d__law_take.fn.kp W.d__law_take.bd (pfa_cons (pf_var 0) (pfa_cons pf_int pfa_nil))))
      (pfss_cons (pfs_if (pft_cmpR (op_eqA hr.units0) l_eq (pf_var 4) pf_int (nomark _)) (pfss_one (pfs_ret (pf_call (ok__law_edge W) (hr.mono (by decide)) rfl W.d__law_edge.gl W.d__law_edge.fn.kp W.d__law_edge.bd (pfa_cons (pf_var 0) (pfa_cons (pf_var 2) (pfa_cons (pf_var 1) pfa_nil)))))) pfss_nil)
      (pfss_cons (pfs_if (pft_cmpR op_gt l_gt (pf_var 4) pf_int (nomark _)) (pfss_one (pfs_set (i := 3) sc__law_pair.nd rfl (by first | exact Or.inl rfl | exact Or.inr rfl) (pf_call (ok__law_near W) (hr.mono (by decide)) rfl W.d__law_near.gl W.d__law_near.fn.kp W.d__law_near.bd (pfa_cons (pf_var 0) (pfa_cons (pf_var 2) (pfa_cons (pf_var 1) pfa_nil)))))) pfss_nil)
      (pfss_one (pfs_ret (pf_tup (pfa_cons (pf_var 2) (pfa_cons (pf_var 3) pfa_nil))))))))))))
abbrev n__law_put : List Str := ["_law_term_here", "_law_names", "_law_one"]
abbrev p__law_put : List Str := ["_law_term_here", "_law_names"]
theorem sc__law_put : FnScope n__law_put p__law_put (defScope (top 34)) := ⟨rfl, rfl, rfl, by decide +kernel, rfl, by decide +kernel, by decide +kernel⟩
theorem ok__law_put (W : Fx K w mg) : ∀ n, FnOk P w K mg base CX0 (0 + n) W.f__law_put W.fd__law_put p__law_put (spF P w K 2 (fn__law_put n))
  | 0 => ⟨fun _ _ _ _ h => h.1, fun A outer s H args us vs Q E hr he hb hv hs => by
    obtain ⟨_, _, _, _, _, _, _, _, h, _⟩ := hs
    cases h⟩
  | n + 1 => okF (N := n__law_put) (ps := p__law_put) W.d__law_put.fn sc__law_put fun cdv A outer s H E hr =>
      (pfss_cons (pfs_if (pft_val (pf_isi (T := "int") (by decide) (pf_var 0) rfl W.fr_isinstance rfl W.fr_int rfl)) (pfss_one (pfs_ret (pf_var 0))) pfss_nil)
      (pfss_cons (pfs_if (pft_val (pf_isi (T := "int") (by decide) (pf_ix (pf_var 0) pf_int) rfl W.fr_isinstance rfl W.fr_int rfl)) (pfss_one (pfs_ret (pf_dget (u9 hr) (pf_var 1) (pf_var 0)))) pfss_nil)
      (pfss_one (pfs_ret (pf_op op_addA l_add (pf_tup (pfa_cons (pf_ix (pf_var 0) pf_int) pfa_nil)) (pf_callTy call_tuple_of l_tuple rfl W.fr_tuple rfl (pfa_cons (pf_lc [("_law_one", 2)] rfl rfl sc__law_put.nd (pfi_tup (pf_slice (pf_var 0) (pfo_some pf_int) pfo_none)) (blkOk_by (own := [("_law_one", 2)]) (N := n__law_put) (sc := defScope (top 34)) (by decide +kernel)) (fun _ _ _ _ _ => pg_name (i := 2) sc__law_put.nd rfl (Or.inl rfl)) (fun _ _ _ _ _ => pfts_nil) (fun _ _ _ _ _ => (pf_call (ok__law_put W n) (hr.mono (by first | exact Nat.le_refl _ | exact Nat.le_trans (by decide) (Nat.le_add_right 0 n))) rfl W.d__law_put.gl W.d__law_put.fn.kp W.d__law_put.bd (pfa_cons (pf_var 2) (pfa_cons (pf_var 1) pfa_nil))))) pfa_nil)))))))
abbrev n__law_named : List Str := ["_law_box_here", "_law_forms", "_law_names", "_law_table", "_law_depth", "_law_kind", "_law_k", "_law_name"]
abbrev p__law_named : List Str := ["_law_box_here", "_law_forms"]
theorem sc__law_named : FnScope n__law_named p__law_named (defScope (top 35)) := ⟨rfl, rfl, rfl, by decide +kernel, rfl, by decide +kernel, by decide +kernel⟩
theorem ok__law_named (W : Fx K w mg) : FnOk P w K mg base CX0 28 W.f__law_named W.fd__law_named p__law_named (spF P w K 2 fn__law_named) := okF (N := n__law_named) (ps := p__law_named) W.d__law_named.fn sc__law_named fun cdv A outer s H E hr =>
      (pfss_cons (pfs_set (i := 2) sc__law_named.nd rfl (by first | exact Or.inl rfl | exact Or.inr rfl) pf_dctN)
      (pfss_cons (pfs_set (i := 3) sc__law_named.nd rfl (by first | exact Or.inl rfl | exact Or.inr rfl) pf_dctN)
      (pfss_cons (pfs_for PassesOwn.never rfl (pfi_range rfl W.fr_range (pfa_cons pf_int pfa_nil)) (pg_name (i := 4) sc__law_named.nd rfl (by first | exact Or.inl rfl | exact Or.inr rfl)) lg_name (pfss_one (pfs_for PassesOwn.never rfl (pfi_str pf_str) (pg_name (i := 5) sc__law_named.nd rfl (by first | exact Or.inl rfl | exact Or.inr rfl)) lg_name (pfss_one (pfs_for PassesOwn.never rfl (pfi_range rfl W.fr_range (pfa_cons pf_int pfa_nil)) (pg_name (i := 6) sc__law_named.nd rfl (by first | exact Or.inl rfl | exact Or.inr rfl)) lg_name (pfss_cons (pfs_set (i := 7) sc__law_named.nd rfl (by first | exact Or.inl rfl | exact Or.inr rfl) (pf_tup (pfa_cons (pf_var 4) (pfa_cons (pf_op op_addA l_add (pf_var 5) (pf_callTy call_str_int l_str1 rfl W.fr_str rfl (pfa_cons (pf_var 6) pfa_nil))) pfa_nil))))
      (pfss_cons (pfs_dput (u9 hr) (pf_call (ok__law_term W FU) (hr.mono (by decide)) rfl W.d__law_term.gl W.d__law_term.fn.kp W.d__law_term.bd (pfa_cons (pf_var 0) (pfa_cons (pf_var 5) (pfa_cons pf_int pfa_nil)))) (pf_var 2) (pf_var 7))
      (pfss_cons (pfs_if (PFW.pt (pfw_and (pft_cmpR (op_eqA hr.units0) l_eq (pf_var 5) pf_str (nomark _)) (pfw_and1 (pft_cmpR (op_eqA hr.units0) l_eq (pf_call (ok__law_take W) (hr.mono (by decide)) rfl W.d__law_take.gl W.d__law_take.fn.kp W.d__law_take.bd (pfa_cons (pf_var 0) (pfa_cons pf_int pfa_nil))) pf_int (nomark _))))) (pfss_one (pfs_dput (u9 hr) (pf_call (ok__law_number W) (hr.mono (by decide)) rfl W.d__law_number.gl W.d__law_number.fn.kp W.d__law_number.bd (pfa_cons (pf_var 0) pfa_nil)) (pf_var 2) (pf_var 7))) pfss_nil)
      (pfss_one (pfs_dput (u9 hr) (pf_meth W.nsC (pf_var 1) W.cls W.m_thing.me (ok_m_thing W) (hr.mono (by decide)) W.m_thing.bd (pfa_cons (pf_var 5) (pfa_cons (pf_tup (pfa_cons pf_str (pfa_cons (pf_var 4) (pfa_cons (pf_op op_addA l_add (pf_var 5) (pf_callTy call_str_int l_str1 rfl W.fr_str rfl (pfa_cons (pf_var 6) pfa_nil))) pfa_nil)))) pfa_nil))) (pf_var 3) (pf_var 7)))))))))))
      (pfss_one (pfs_ret (pf_tup (pfa_cons (pf_var 2) (pfa_cons (pf_var 3) pfa_nil))))))))
abbrev n__law_right : List Str := ["_law_box_here", "_law_one", "_law_other", "_law_forms", "_law_names", "_law_table", "_law_told", "_law_name", "_law_first", "_law_second"]
abbrev p__law_right : List Str := ["_law_box_here"]
theorem sc__law_right : FnScope n__law_right p__law_right (defScope (top 36)) := ⟨rfl, rfl, rfl, by decide +kernel, rfl, by decide +kernel, by decide +kernel⟩
theorem ok__law_right (W : Fx K w mg) : FnOk P w K mg base CX0 32 W.f__law_right W.fd__law_right p__law_right (spF P w K 1 fn__law_right) := okF (N := n__law_right) (ps := p__law_right) W.d__law_right.fn sc__law_right fun cdv A outer s H E hr =>
      (pfss_cons (pfs_un2 (i := 1) (j := 2) rfl sc__law_right.nd rfl rfl (by first | exact Or.inl rfl | exact Or.inr rfl) (by first | exact Or.inl rfl | exact Or.inr rfl) (pf_call (ok__law_pair W) (hr.mono (by decide)) rfl W.d__law_pair.gl W.d__law_pair.fn.kp W.d__law_pair.bd (pfa_cons (pf_var 0) pfa_nil)))
      (pfss_cons (pfs_set (i := 3) sc__law_right.nd rfl (by first | exact Or.inl rfl | exact Or.inr rfl) (pf_make0 W.nsC W.mkr (ok_m_init W) (hr.mono (by decide)) rfl W.g_Forms W.b_m_init))
      (pfss_cons (pfs_un2 (i := 4) (j := 5) rfl sc__law_right.nd rfl rfl (by first | exact Or.inl rfl | exact Or.inr rfl) (by first | exact Or.inl rfl | exact Or.inr rfl) (pf_call (ok__law_named W) (hr.mono (by decide)) rfl W.d__law_named.gl W.d__law_named.fn.kp W.d__law_named.bd (pfa_cons (pf_var 0) (pfa_cons (pf_var 3) pfa_nil))))
      (pfss_cons (pfs_set (i := 6) sc__law_right.nd rfl (by first | exact Or.inl rfl | exact Or.inr rfl) pf_dctN)
      (pfss_cons (pfs_forN (i := 4) PassesOwn.never rfl rfl (by first | exact Or.inl rfl | exact Or.inr (Or.inl rfl) | exact Or.inr (Or.inr rfl)) (pg_name (i := 7) sc__law_right.nd rfl (by first | exact Or.inl rfl | exact Or.inr rfl)) lg_name (pfss_one (pfs_dput (u9 hr) (pf_call (ok_form_of W FU) (hr.mono (by decide)) rfl W.d_form_of.gl W.d_form_of.fn.kp W.d_form_of.bd (pfa_cons (pf_var 3) (pfa_cons (pf_dget (u9 hr) (pf_var 4) (pf_var 7)) (pfa_cons (pf_var 5) pfa_nil)))) (pf_var 6) (pf_var 7))))
      (pfss_cons (pfs_set (i := 8) sc__law_right.nd rfl (by first | exact Or.inl rfl | exact Or.inr rfl) (pf_call (ok__law_put W FU) (hr.mono (by decide)) rfl W.d__law_put.gl W.d__law_put.fn.kp W.d__law_put.bd (pfa_cons (pf_var 1) (pfa_cons (pf_var 4) pfa_nil))))
      (pfss_cons (pfs_set (i := 9) sc__law_right.nd rfl (by first | exact Or.inl rfl | exact Or.inr rfl) (pf_call (ok__law_put W FU) (hr.mono (by decide)) rfl W.d__law_put.gl W.d__law_put.fn.kp W.d__law_put.bd (pfa_cons (pf_var 2) (pfa_cons (pf_var 4) pfa_nil))))
      (pfss_cons (pfs_if (pft_cmpR op_isA l_is (pf_call (ok_alike W) (hr.mono (by decide)) rfl W.d_alike.gl W.d_alike.fn.kp W.d_alike.bd (pfa_cons (pf_var 1) (pfa_cons (pf_var 2) pfa_nil))) pf_bl (nomark _)) (pfss_cons (pfs_if (pft_cmpR op_ne l_ne (pf_call (ok_form_of W FU) (hr.mono (by decide)) rfl W.d_form_of.gl W.d_form_of.fn.kp W.d_form_of.bd (pfa_cons (pf_var 3) (pfa_cons (pf_var 1) (pfa_cons (pf_var 6) pfa_nil)))) (pf_call (ok_form_of W FU) (hr.mono (by decide)) rfl W.d_form_of.gl W.d_form_of.fn.kp W.d_form_of.bd (pfa_cons (pf_var 3) (pfa_cons (pf_var 2) (pfa_cons (pf_var 6) pfa_nil)))) (nomark _)) (pfss_one (pfs_ret pf_bl)) pfss_nil)
      (pfss_one (pfs_if (PFW.pt (pfw_and (pft_cmpR op_le l_le (pf_callB (call_max2 rfl) l_max2 rfl W.fr_max rfl (pfa_cons (pf_call (ok__law_parts W FU) (hr.mono (by decide)) rfl W.d__law_parts.gl W.d__law_parts.fn.kp W.d__law_parts.bd (pfa_cons (pf_var 8) pfa_nil)) (pfa_cons (pf_call (ok__law_parts W FU) (hr.mono (by decide)) rfl W.d__law_parts.gl W.d__law_parts.fn.kp W.d__law_parts.bd (pfa_cons (pf_var 9) pfa_nil)) pfa_nil))) pf_int (nomark _)) (pfw_and1 (pft_cmpR op_notA l_not (pf_call (ok_alike W) (hr.mono (by decide)) rfl W.d_alike.gl W.d_alike.fn.kp W.d_alike.bd (pfa_cons (pf_var 8) (pfa_cons (pf_var 9) pfa_nil))) pf_bl (nomark _))))) (pfss_one (pfs_ret pf_bl)) pfss_nil))) pfss_nil)
      (pfss_one (pfs_ret (pf_or (pf_cmpR op_gt l_gt (pf_call (ok__law_parts W FU) (hr.mono (by decide)) rfl W.d__law_parts.gl W.d__law_parts.fn.kp W.d__law_parts.bd (pfa_cons (pf_var 8) pfa_nil)) pf_int (nomark _)) (pf_one (pf_cmpR (op_eqA hr.units0) l_eq (pf_call (ok_form_of W FU) (hr.mono (by decide)) rfl W.d_form_of.gl W.d_form_of.fn.kp W.d_form_of.bd (pfa_cons (pf_var 3) (pfa_cons (pf_var 1) (pfa_cons (pf_var 6) pfa_nil)))) (pf_call (ok_form_of W FU) (hr.mono (by decide)) rfl W.d_form_of.gl W.d_form_of.fn.kp W.d_form_of.bd (pfa_cons (pf_var 3) (pfa_cons (pf_var 8) (pfa_cons (pf_var 5) pfa_nil)))) (nomark _))))))))))))))
abbrev n_law : List Str := ["_law_script", "_law_cell", "_law_box_here", "_law_turn"]
abbrev p_law : List Str := ["_law_script"]
theorem sc_law : FnScope n_law p_law (defScope (top 37)) := ⟨rfl, rfl, rfl, by decide +kernel, rfl, by decide +kernel, by decide +kernel⟩
theorem ok_law (W : Fx K w mg) : FnOk P w K mg base CX0 33 W.f_law W.fd_law p_law (spF P w K 1 fn_law) := okF (N := n_law) (ps := p_law) W.d_law.fn sc_law fun cdv A outer s H E hr =>
      (pfss_cons (pfs_for PassesOwn.never rfl (pfi_lst (pf_op op_addA l_add (pf_lst (pfa_cons (pf_call (ok__law_cell_at W) (hr.mono (by decide)) rfl W.d__law_cell_at.gl W.d__law_cell_at.fn.kp W.d__law_cell_at.bd (pfa_cons (pf_var 0) (pfa_cons pf_int pfa_nil))) pfa_nil)) (pf_slice (pf_var 0) (pfo_some pf_int) (pfo_some pf_int)))) (pg_name (i := 1) sc_law.nd rfl (by first | exact Or.inl rfl | exact Or.inr rfl)) lg_name (pfss_cons (pfs_set (i := 2) sc_law.nd rfl (by first | exact Or.inl rfl | exact Or.inr rfl) (pf_call (ok__law_box W) (hr.mono (by decide)) rfl W.d__law_box.gl W.d__law_box.fn.kp W.d__law_box.bd (pfa_cons (pf_var 1) pfa_nil)))
      (pfss_one (pfs_for PassesOwn.never rfl (pfi_range rfl W.fr_range (pfa_cons pf_int pfa_nil)) (pg_name (i := 3) sc_law.nd rfl (by first | exact Or.inl rfl | exact Or.inr rfl)) lg_name (pfss_one (pfs_if (pft_not (pft_val (pf_call (ok__law_right W) (hr.mono (by decide)) rfl W.d__law_right.gl W.d__law_right.fn.kp W.d__law_right.bd (pfa_cons (pf_var 2) pfa_nil)))) (pfss_one (pfs_ret pf_bl)) pfss_nil))))))
      (pfss_one (pfs_ret pf_bl)))
end
end DR
/-! Printed by genhd.py: the head, its facts, the end of the walk. -/
namespace DR
open PySem PySem.Spec PyProof.Rows L2 DL
theorem fun_of {K : PySem.W.Frag} {x qual : Str} {st : Stmt} {f : Addr} {fd : FuncData} (F : FunD K x qual (defArgs st) (defBody st) (defScope st) [] [] f fd) : Fun K x qual st f fd := by
  obtain ⟨oc, od, dV, kV, doc, pm, an, cdv, ct, osl, rfl, lk, hcd, hD, hK⟩ := F.ex
  rcases hD with ⟨_, rfl⟩ | ⟨e, _⟩
  · exact ⟨⟨oc, od, kV, doc, pm, an, cdv, ct, osl, rfl, lk, hcd⟩, F.kp⟩
  · exact absurd rfl e
/-! ### tuples of words -/
def litB : D → Value → Bool
  | .str x, .str y _ => decide (x = y)
  | .non, .none => true
  | _, _ => false
def litsB : List D → List Value → Bool
  | [], [] => true
  | d :: ds, u :: us => litB d u && litsB ds us
  | _, _ => false
def tupC (K : PySem.W.Frag) (d : D) (u : Value) : Bool := match d, u with
  | .tup ds, .ref a => match K.lookup a with
    | some ⟨.type c, _, .seq its _, _⟩ => decide (c = "tuple") && (decide (its.size ≤ sizeLine) && litsB ds its.toList)
    | _ => false
  | _, _ => false
theorem lits_ok {K : PySem.W.Frag} : ∀ {ds : List D} {us : List Value}, litsB ds us = true → ∃ vs, Vals vs us ∧ ∀ H ads, Iss K H ads ds vs
  | [], [], _ => ⟨[], .nil, fun _ _ => rfl⟩
  | d :: ds, u :: us, h => by
    obtain ⟨h1, h2⟩ := He.ba (show (litB d u && litsB ds us) = true from h)
    obtain ⟨vs, r, i⟩ := lits_ok (K := K) h2
    unfold litB at h1
    split at h1
    · rename_i x y t
      have e := of_decide_eq_true h1
      subst e
      exact ⟨.str x :: vs, .cons ⟨t, rfl⟩ r, fun H ads => ⟨_, _, rfl, rfl, i H ads⟩⟩
    · exact ⟨.non :: vs, .cons rfl r, fun H ads => ⟨_, _, rfl, rfl, i H ads⟩⟩
    · cases h1
  | [], _ :: _, h => by cases h
  | _ :: _, [], h => by cases h
theorem tup_ok {K : PySem.W.Frag} {d : D} {u : Value} (h : tupC K d u = true) : ∃ a, u = .ref a ∧ ∀ H ads, Is K H ads d (.ref a) := by
  unfold tupC at h
  split at h
  · rename_i ds a
    split at h
    · rename_i c od its n sl e
      obtain ⟨h1, h2⟩ := He.ba h
      obtain ⟨h3, h4⟩ := He.ba h2
      obtain ⟨vs, r, i⟩ := lits_ok (K := K) h4
      have e1 : c = "tuple" := of_decide_eq_true h1
      subst e1
      exact ⟨a, rfl, fun H ads => ⟨a, vs, rfl, .inr ⟨_, its, n, e, rfl, rfl, of_decide_eq_true h3, r⟩, i H ads⟩⟩
    · cases h
  · cases h
def exB (K : PySem.W.Frag) : Bool := tupC K dSUMS (.ref (He.ga K "SUMS")) && opsT.all fun q => match PySem.W.nsIn K (He.ga K "OPERATIONS") q.1 with
  | some (some u) => tupC K q.2 u
  | _ => false
theorem sums_ok {K : PySem.W.Frag} (h : exB K = true) : GTup K dSUMS (He.ga K "SUMS") := by
  obtain ⟨a, e, i⟩ := tup_ok (He.ba h).1
  cases e
  exact ⟨i⟩
theorem look_mem {z : Str} {d : D} : ∀ {l : List (Str × D)}, l.lookup z = some d → (z, d) ∈ l
  | [], h => by cases h
  | (y, c) :: r, h => by
    rw [List.lookup_cons] at h
    cases e : z == y with
    | true =>
      rw [e] at h
      cases h
      rw [eq_of_beq e]
      exact List.mem_cons_self
    | false =>
      rw [e] at h
      exact List.mem_cons_of_mem _ (look_mem h)
theorem ops_ok {K : PySem.W.Frag} {w : World} (kd : ∃ es n, KDict K w (He.ga K "OPERATIONS") es n) (h : exB K = true) : OpsAt K w (He.ga K "OPERATIONS") opsT := ⟨kd, fun z d e => by
  have h2 := List.all_eq_true.mp (He.ba h).2 (z, d) (look_mem e)
  dsimp only at h2
  split at h2
  · rename_i u e2
    obtain ⟨a, rfl, i⟩ := tup_ok h2
    exact ⟨_, e2, .ref a, rfl, i⟩
  · cases h2⟩
/-! ### the head -/
def d_taken_in : He.DefD := ⟨("taken_in", none), "taken_in", "taken_in", defArgs (top 5), defBody (top 5), defScope (top 5), [], []⟩
def d_kinds_of : He.DefD := ⟨("kinds_of", none), "kinds_of", "kinds_of", defArgs (top 6), defBody (top 6), defScope (top 6), [], []⟩
def d_divided : He.DefD := ⟨("divided", none), "divided", "divided", defArgs (top 7), defBody (top 7), defScope (top 7), [], []⟩
def d_done_sum : He.DefD := ⟨("done_sum", none), "done_sum", "done_sum", defArgs (top 8), defBody (top 8), defScope (top 8), [], []⟩
def d_done : He.DefD := ⟨("done", none), "done", "done", defArgs (top 11), defBody (top 11), defScope (top 11), [], []⟩
def d_m_init : He.DefD := ⟨("Forms", some "__init__"), "__init__", "Forms.__init__", defArgs (inClass (top 14) 0), defBody (inClass (top 14) 0), defScope (inClass (top 14) 0), [], []⟩
def d_m_kept : He.DefD := ⟨("Forms", some "kept"), "kept", "Forms.kept", defArgs (inClass (top 14) 1), defBody (inClass (top 14) 1), defScope (inClass (top 14) 1), [], []⟩
def d_m_kept_thing : He.DefD := ⟨("Forms", some "kept_thing"), "kept_thing", "Forms.kept_thing", defArgs (inClass (top 14) 2), defBody (inClass (top 14) 2), defScope (inClass (top 14) 2), [], []⟩
def d_m_plain : He.DefD := ⟨("Forms", some "plain"), "plain", "Forms.plain", defArgs (inClass (top 14) 3), defBody (inClass (top 14) 3), defScope (inClass (top 14) 3), [], []⟩
def d_m_thing : He.DefD := ⟨("Forms", some "thing"), "thing", "Forms.thing", defArgs (inClass (top 14) 4), defBody (inClass (top 14) 4), defScope (inClass (top 14) 4), [], []⟩
def d_m_whole : He.DefD := ⟨("Forms", some "whole"), "whole", "Forms.whole", defArgs (inClass (top 14) 5), defBody (inClass (top 14) 5), defScope (inClass (top 14) 5), [], []⟩
def d_m_kind : He.DefD := ⟨("Forms", some "kind"), "kind", "Forms.kind", defArgs (inClass (top 14) 6), defBody (inClass (top 14) 6), defScope (inClass (top 14) 6), [], []⟩
def d_m_key_of : He.DefD := ⟨("Forms", some "key_of"), "key_of", "Forms.key_of", defArgs (inClass (top 14) 7), defBody (inClass (top 14) 7), defScope (inClass (top 14) 7), [], []⟩
def d_m_added : He.DefD := ⟨("Forms", some "added"), "added", "Forms.added", defArgs (inClass (top 14) 8), defBody (inClass (top 14) 8), defScope (inClass (top 14) 8), [], []⟩
def d_m_so_often : He.DefD := ⟨("Forms", some "so_often"), "so_often", "Forms.so_often", defArgs (inClass (top 14) 9), defBody (inClass (top 14) 9), defScope (inClass (top 14) 9), [], []⟩
def d_m_same_of : He.DefD := ⟨("Forms", some "same_of"), "same_of", "Forms.same_of", defArgs (inClass (top 14) 10), defBody (inClass (top 14) 10), defScope (inClass (top 14) 10), [], []⟩
def d_m_mul_of : He.DefD := ⟨("Forms", some "mul_of"), "mul_of", "Forms.mul_of", defArgs (inClass (top 14) 11), defBody (inClass (top 14) 11), defScope (inClass (top 14) 11), [], []⟩
def d_m_divided : He.DefD := ⟨("Forms", some "divided"), "divided", "Forms.divided", defArgs (inClass (top 14) 12), defBody (inClass (top 14) 12), defScope (inClass (top 14) 12), [], []⟩
def d_m_at_of : He.DefD := ⟨("Forms", some "at_of"), "at_of", "Forms.at_of", defArgs (inClass (top 14) 13), defBody (inClass (top 14) 13), defScope (inClass (top 14) 13), [], []⟩
def d_m_size_of : He.DefD := ⟨("Forms", some "size_of"), "size_of", "Forms.size_of", defArgs (inClass (top 14) 14), defBody (inClass (top 14) 14), defScope (inClass (top 14) 14), [], []⟩
def d_m_put_of : He.DefD := ⟨("Forms", some "put_of"), "put_of", "Forms.put_of", defArgs (inClass (top 14) 15), defBody (inClass (top 14) 15), defScope (inClass (top 14) 15), [], []⟩
def d_m_by_rule : He.DefD := ⟨("Forms", some "by_rule"), "by_rule", "Forms.by_rule", defArgs (inClass (top 14) 16), defBody (inClass (top 14) 16), defScope (inClass (top 14) 16), [], []⟩
def d_m_made : He.DefD := ⟨("Forms", some "made"), "made", "Forms.made", defArgs (inClass (top 14) 17), defBody (inClass (top 14) 17), defScope (inClass (top 14) 17), [], []⟩
def d_all_of : He.DefD := ⟨("all_of", none), "all_of", "all_of", defArgs (top 17), defBody (top 17), defScope (top 17), [], []⟩
def d_kind_of : He.DefD := ⟨("kind_of", none), "kind_of", "kind_of", defArgs (top 18), defBody (top 18), defScope (top 18), [], []⟩
def d_form_of : He.DefD := ⟨("form_of", none), "form_of", "form_of", defArgs (top 20), defBody (top 20), defScope (top 20), [], []⟩
def d_names_in : He.DefD := ⟨("names_in", none), "names_in", "names_in", defArgs (top 21), defBody (top 21), defScope (top 21), [], []⟩
def d_alike : He.DefD := ⟨("alike", none), "alike", "alike", defArgs (top 22), defBody (top 22), defScope (top 22), [], []⟩
def d__law_cell_at : He.DefD := ⟨("_law_cell_at", none), "_law_cell_at", "_law_cell_at", defArgs (top 24), defBody (top 24), defScope (top 24), [], []⟩
def d__law_box : He.DefD := ⟨("_law_box", none), "_law_box", "_law_box", defArgs (top 25), defBody (top 25), defScope (top 25), [], []⟩
def d__law_take : He.DefD := ⟨("_law_take", none), "_law_take", "_law_take", defArgs (top 26), defBody (top 26), defScope (top 26), [], []⟩
def d__law_number : He.DefD := ⟨("_law_number", none), "_law_number", "_law_number", defArgs (top 27), defBody (top 27), defScope (top 27), [], []⟩
def d__law_leaf : He.DefD := ⟨("_law_leaf", none), "_law_leaf", "_law_leaf", defArgs (top 28), defBody (top 28), defScope (top 28), [], []⟩
def d__law_term : He.DefD := ⟨("_law_term", none), "_law_term", "_law_term", defArgs (top 29), defBody (top 29), defScope (top 29), [], []⟩
def d__law_near : He.DefD := ⟨("_law_near", none), "_law_near", "_law_near", defArgs (top 30), defBody (top 30), defScope (top 30), [], []⟩
def d__law_edge : He.DefD := ⟨("_law_edge", none), "_law_edge", "_law_edge", defArgs (top 31), defBody (top 31), defScope (top 31), [], []⟩
def d__law_parts : He.DefD := ⟨("_law_parts", none), "_law_parts", "_law_parts", defArgs (top 32), defBody (top 32), defScope (top 32), [], []⟩
def d__law_pair : He.DefD := ⟨("_law_pair", none), "_law_pair", "_law_pair", defArgs (top 33), defBody (top 33), defScope (top 33), [], []⟩
def d__law_put : He.DefD := ⟨("_law_put", none), "_law_put", "_law_put", defArgs (top 34), defBody (top 34), defScope (top 34), [], []⟩
def d__law_named : He.DefD := ⟨("_law_named", none), "_law_named", "_law_named", defArgs (top 35), defBody (top 35), defScope (top 35), [], []⟩
def d__law_right : He.DefD := ⟨("_law_right", none), "_law_right", "_law_right", defArgs (top 36), defBody (top 36), defScope (top 36), [], []⟩
def d_law : He.DefD := ⟨("law", none), "law", "law", defArgs (top 37), defBody (top 37), defScope (top 37), [], []⟩
def tOps : He.Tab := (fun K => He.ga K "OPERATIONS", [("add" : Str), ("sub" : Str), ("mul" : Str), ("div" : Str), ("rest" : Str), ("less" : Str), ("same" : Str), ("pick" : Str), ("copy" : Str), ("at" : Str), ("size" : Str), ("put" : Str), ("many" : Str), ("make" : Str), ("keep" : Str)])
def fn : List He.DefD := [d_taken_in, d_kinds_of, d_divided, d_done_sum, d_done, d_m_init, d_m_kept, d_m_kept_thing, d_m_plain, d_m_thing, d_m_whole, d_m_kind, d_m_key_of, d_m_added, d_m_so_often, d_m_same_of, d_m_mul_of, d_m_divided, d_m_at_of, d_m_size_of, d_m_put_of, d_m_by_rule, d_m_made, d_all_of, d_kind_of, d_form_of, d_names_in, d_alike, d__law_cell_at, d__law_box, d__law_take, d__law_number, d__law_leaf, d__law_term, d__law_near, d__law_edge, d__law_parts, d__law_pair, d__law_put, d__law_named, d__law_right, d_law]
def fa : List He.Fa := [.glo "Forms", .glo "Forms", .cls "Forms", .noat "Forms" "contents", .noat "Forms" "numbers", .noat "Forms" "thing_keys", .noat "Forms" "things", .int "LEAST" (-32768), .int "TURN" (65536), .int "LONGEST" (40), .str "FIGURES" "0123456789", .glo "SUMS", .glo "OPERATIONS", .free "len", .free "max", .free "min", .free "sum", .free "sorted", .free "int", .free "tuple", .free "str", .free "isinstance", .free "range", .glo "taken_in", .glo "kinds_of", .glo "divided", .glo "done_sum", .glo "done", .mkr "Forms", .meth "Forms" "kept", .meth "Forms" "kept_thing", .meth "Forms" "plain", .meth "Forms" "thing", .meth "Forms" "whole", .meth "Forms" "kind", .meth "Forms" "key_of", .meth "Forms" "added", .meth "Forms" "so_often", .meth "Forms" "same_of", .meth "Forms" "mul_of", .meth "Forms" "divided", .meth "Forms" "at_of", .meth "Forms" "size_of", .meth "Forms" "put_of", .meth "Forms" "by_rule", .meth "Forms" "made", .glo "all_of", .glo "kind_of", .glo "form_of", .glo "names_in", .glo "alike", .glo "_law_cell_at", .glo "_law_box", .glo "_law_take", .glo "_law_number", .glo "_law_leaf", .glo "_law_term", .glo "_law_near", .glo "_law_edge", .glo "_law_parts", .glo "_law_pair", .glo "_law_put", .glo "_law_named", .glo "_law_right", .glo "law"]
def loose : List Str := [("__name__" : Str), ("LEAST" : Str), ("TURN" : Str), ("LONGEST" : Str), ("OPERATIONS" : Str), ("taken_in" : Str), ("kinds_of" : Str), ("divided" : Str), ("done_sum" : Str), ("put_at" : Str), ("done_row" : Str), ("done" : Str), ("SUMS" : Str), ("Forms" : Str), ("FIGURES" : Str), ("all_of" : Str), ("kind_of" : Str), ("form_of" : Str), ("names_in" : Str), ("alike" : Str), ("_law_cell_at" : Str), ("_law_box" : Str), ("_law_take" : Str), ("_law_number" : Str), ("_law_leaf" : Str), ("_law_term" : Str), ("_law_near" : Str), ("_law_edge" : Str), ("_law_parts" : Str), ("_law_pair" : Str), ("_law_put" : Str), ("_law_named" : Str), ("_law_right" : Str)]
abbrev R : PySem.W.OpenRow := PySem.W.OpenLaw.row PySem.Challenge.rw_samepaper_k46_whole_put_in
abbrev hk : PySem.W.Hook := He.hookX 5 fa fn [tOps] [] exB
def ob (s : PySem.W.SharedT) : He.AlX := He.obsX 5 fa fn [tOps] [] exB (HandSHeadRun.getT s)
theorem ob_eq (s : PySem.W.SharedT) : ob s = hk.obs s.abs := He.obsX_eq (HandSHeadRun.getT_eq s)
theorem run (w : World) : HandSHeadRun.RunEq R (PySem.W.view R.prog [37]) hk ob 4000 loose w := PySem.W.byRow2 "special-get-raises" (P := fun w => HandSHeadRun.RunEq R (PySem.W.view R.prog [37]) hk ob 4000 loose w)
  (fun w => by
    intro os
    kernel_rfl)
  (fun w => by
    intro os
    kernel_rfl) w
theorem fx {w : World} {K : PySem.W.Frag} {h : Heap} {mg : Str → Option Value} (X : K.In h) (G : h.Ns mainGlobals mg) (c : He.SaysX fa fn [tOps] [] exB w h K) : ∃ W : Fx K w mg, W.f_law = He.fAd K ("law", none) ∧ (∀ (s : Shared) (v : Value), BindsTo s W.fd_law ⟨[v], []⟩ [("_law_script", v)]) := by
  obtain ⟨t_LEAST, g_LEAST⟩ := He.int_ok X G (c.t.d.fact 7 rfl)
  obtain ⟨t_TURN, g_TURN⟩ := He.int_ok X G (c.t.d.fact 8 rfl)
  obtain ⟨t_LONGEST, g_LONGEST⟩ := He.int_ok X G (c.t.d.fact 9 rfl)
  obtain ⟨t_FIGURES, g_FIGURES⟩ := He.str_ok X G (c.t.d.fact 10 rfl)
  obtain ⟨fd_taken_in, F_taken_in⟩ := c.t.d.def_ 0 (d := d_taken_in) rfl
  obtain ⟨fd_kinds_of, F_kinds_of⟩ := c.t.d.def_ 1 (d := d_kinds_of) rfl
  obtain ⟨fd_divided, F_divided⟩ := c.t.d.def_ 2 (d := d_divided) rfl
  obtain ⟨fd_done_sum, F_done_sum⟩ := c.t.d.def_ 3 (d := d_done_sum) rfl
  obtain ⟨fd_done, F_done⟩ := c.t.d.def_ 4 (d := d_done) rfl
  obtain ⟨fd_m_init, F_m_init⟩ := c.t.d.def_ 5 (d := d_m_init) rfl
  obtain ⟨fd_m_kept, F_m_kept⟩ := c.t.d.def_ 6 (d := d_m_kept) rfl
  obtain ⟨fd_m_kept_thing, F_m_kept_thing⟩ := c.t.d.def_ 7 (d := d_m_kept_thing) rfl
  obtain ⟨fd_m_plain, F_m_plain⟩ := c.t.d.def_ 8 (d := d_m_plain) rfl
  obtain ⟨fd_m_thing, F_m_thing⟩ := c.t.d.def_ 9 (d := d_m_thing) rfl
  obtain ⟨fd_m_whole, F_m_whole⟩ := c.t.d.def_ 10 (d := d_m_whole) rfl
  obtain ⟨fd_m_kind, F_m_kind⟩ := c.t.d.def_ 11 (d := d_m_kind) rfl
  obtain ⟨fd_m_key_of, F_m_key_of⟩ := c.t.d.def_ 12 (d := d_m_key_of) rfl
  obtain ⟨fd_m_added, F_m_added⟩ := c.t.d.def_ 13 (d := d_m_added) rfl
  obtain ⟨fd_m_so_often, F_m_so_often⟩ := c.t.d.def_ 14 (d := d_m_so_often) rfl
  obtain ⟨fd_m_same_of, F_m_same_of⟩ := c.t.d.def_ 15 (d := d_m_same_of) rfl
  obtain ⟨fd_m_mul_of, F_m_mul_of⟩ := c.t.d.def_ 16 (d := d_m_mul_of) rfl
  obtain ⟨fd_m_divided, F_m_divided⟩ := c.t.d.def_ 17 (d := d_m_divided) rfl
  obtain ⟨fd_m_at_of, F_m_at_of⟩ := c.t.d.def_ 18 (d := d_m_at_of) rfl
  obtain ⟨fd_m_size_of, F_m_size_of⟩ := c.t.d.def_ 19 (d := d_m_size_of) rfl
  obtain ⟨fd_m_put_of, F_m_put_of⟩ := c.t.d.def_ 20 (d := d_m_put_of) rfl
  obtain ⟨fd_m_by_rule, F_m_by_rule⟩ := c.t.d.def_ 21 (d := d_m_by_rule) rfl
  obtain ⟨fd_m_made, F_m_made⟩ := c.t.d.def_ 22 (d := d_m_made) rfl
  obtain ⟨fd_all_of, F_all_of⟩ := c.t.d.def_ 23 (d := d_all_of) rfl
  obtain ⟨fd_kind_of, F_kind_of⟩ := c.t.d.def_ 24 (d := d_kind_of) rfl
  obtain ⟨fd_form_of, F_form_of⟩ := c.t.d.def_ 25 (d := d_form_of) rfl
  obtain ⟨fd_names_in, F_names_in⟩ := c.t.d.def_ 26 (d := d_names_in) rfl
  obtain ⟨fd_alike, F_alike⟩ := c.t.d.def_ 27 (d := d_alike) rfl
  obtain ⟨fd__law_cell_at, F__law_cell_at⟩ := c.t.d.def_ 28 (d := d__law_cell_at) rfl
  obtain ⟨fd__law_box, F__law_box⟩ := c.t.d.def_ 29 (d := d__law_box) rfl
  obtain ⟨fd__law_take, F__law_take⟩ := c.t.d.def_ 30 (d := d__law_take) rfl
  obtain ⟨fd__law_number, F__law_number⟩ := c.t.d.def_ 31 (d := d__law_number) rfl
  obtain ⟨fd__law_leaf, F__law_leaf⟩ := c.t.d.def_ 32 (d := d__law_leaf) rfl
  obtain ⟨fd__law_term, F__law_term⟩ := c.t.d.def_ 33 (d := d__law_term) rfl
  obtain ⟨fd__law_near, F__law_near⟩ := c.t.d.def_ 34 (d := d__law_near) rfl
  obtain ⟨fd__law_edge, F__law_edge⟩ := c.t.d.def_ 35 (d := d__law_edge) rfl
  obtain ⟨fd__law_parts, F__law_parts⟩ := c.t.d.def_ 36 (d := d__law_parts) rfl
  obtain ⟨fd__law_pair, F__law_pair⟩ := c.t.d.def_ 37 (d := d__law_pair) rfl
  obtain ⟨fd__law_put, F__law_put⟩ := c.t.d.def_ 38 (d := d__law_put) rfl
  obtain ⟨fd__law_named, F__law_named⟩ := c.t.d.def_ 39 (d := d__law_named) rfl
  obtain ⟨fd__law_right, F__law_right⟩ := c.t.d.def_ 40 (d := d__law_right) rfl
  obtain ⟨fd_law, F_law⟩ := c.t.d.def_ 41 (d := d_law) rfl
  exact ⟨{
    C := He.ga K "Forms"
    nsC := He.eqO_ok (c.t.d.fact 0 rfl)
    g_Forms := He.glo_ok X G (c.t.d.fact 1 rfl)
    cls := He.cls_ok (c.t.d.fact 2 rfl)
    no_contents := He.noat_ok (c.t.d.fact 3 rfl)
    no_numbers := He.noat_ok (c.t.d.fact 4 rfl)
    no_thing_keys := He.noat_ok (c.t.d.fact 5 rfl)
    no_things := He.noat_ok (c.t.d.fact 6 rfl)
    t_LEAST := t_LEAST
    g_LEAST := g_LEAST
    t_TURN := t_TURN
    g_TURN := g_TURN
    t_LONGEST := t_LONGEST
    g_LONGEST := g_LONGEST
    t_FIGURES := t_FIGURES
    g_FIGURES := g_FIGURES
    a_SUMS := He.ga K "SUMS"
    g_SUMS := He.glo_ok X G (c.t.d.fact 11 rfl)
    k_SUMS := sums_ok c.more
    a_OPERATIONS := He.ga K "OPERATIONS"
    g_OPERATIONS := He.glo_ok X G (c.t.d.fact 12 rfl)
    k_OPERATIONS := ops_ok (c.t.tab 0 (t := tOps) rfl) c.more
    fr_len := He.free_ok X G (c.t.d.fact 13 rfl)
    fr_max := He.free_ok X G (c.t.d.fact 14 rfl)
    fr_min := He.free_ok X G (c.t.d.fact 15 rfl)
    fr_sum := He.free_ok X G (c.t.d.fact 16 rfl)
    fr_sorted := He.free_ok X G (c.t.d.fact 17 rfl)
    fr_int := He.free_ok X G (c.t.d.fact 18 rfl)
    fr_tuple := He.free_ok X G (c.t.d.fact 19 rfl)
    fr_str := He.free_ok X G (c.t.d.fact 20 rfl)
    fr_isinstance := He.free_ok X G (c.t.d.fact 21 rfl)
    fr_range := He.free_ok X G (c.t.d.fact 22 rfl)
    f_taken_in := He.fAd K ("taken_in", none)
    fd_taken_in := fd_taken_in
    d_taken_in := ⟨fun_of F_taken_in, He.glo_ok X G (c.t.d.fact 23 rfl), (FunD.bindsN (ps := ["whole"]) F_taken_in fun _ _ _ _ _ _ us hl => match us, hl with | [_], _ => rfl)⟩
    f_kinds_of := He.fAd K ("kinds_of", none)
    fd_kinds_of := fd_kinds_of
    d_kinds_of := ⟨fun_of F_kinds_of, He.glo_ok X G (c.t.d.fact 24 rfl), (FunD.bindsN (ps := ["op"]) F_kinds_of fun _ _ _ _ _ _ us hl => match us, hl with | [_], _ => rfl)⟩
    f_divided := He.fAd K ("divided", none)
    fd_divided := fd_divided
    d_divided := ⟨fun_of F_divided, He.glo_ok X G (c.t.d.fact 25 rfl), (FunD.bindsN (ps := ["one", "other"]) F_divided fun _ _ _ _ _ _ us hl => match us, hl with | [_, _], _ => rfl)⟩
    f_done_sum := He.fAd K ("done_sum", none)
    fd_done_sum := fd_done_sum
    d_done_sum := ⟨fun_of F_done_sum, He.glo_ok X G (c.t.d.fact 26 rfl), (FunD.bindsN (ps := ["op", "one", "other"]) F_done_sum fun _ _ _ _ _ _ us hl => match us, hl with | [_, _, _], _ => rfl)⟩
    f_done := He.fAd K ("done", none)
    fd_done := fd_done
    d_done := ⟨fun_of F_done, He.glo_ok X G (c.t.d.fact 27 rfl), (FunD.bindsN (ps := ["op", "values"]) F_done fun _ _ _ _ _ _ us hl => match us, hl with | [_, _], _ => rfl)⟩
    f_m_init := He.fAd K ("Forms", some "__init__")
    fd_m_init := fd_m_init
    u_m_init := fun_of F_m_init
    b_m_init := (FunD.bindsN (ps := ["self"]) F_m_init fun _ _ _ _ _ _ us hl => match us, hl with | [_], _ => rfl)
    mkr := He.mkr_ok (c.t.d.fact 28 rfl)
    f_m_kept := He.fAd K ("Forms", some "kept")
    fd_m_kept := fd_m_kept
    m_kept := ⟨fun_of F_m_kept, He.meth_ok (c.t.d.fact 29 rfl), (FunD.bindsN (ps := ["self", "content"]) F_m_kept fun _ _ _ _ _ _ us hl => match us, hl with | [_, _], _ => rfl)⟩
    f_m_kept_thing := He.fAd K ("Forms", some "kept_thing")
    fd_m_kept_thing := fd_m_kept_thing
    m_kept_thing := ⟨fun_of F_m_kept_thing, He.meth_ok (c.t.d.fact 30 rfl), (FunD.bindsN (ps := ["self", "kind", "key"]) F_m_kept_thing fun _ _ _ _ _ _ us hl => match us, hl with | [_, _, _], _ => rfl)⟩
    f_m_plain := He.fAd K ("Forms", some "plain")
    fd_m_plain := fd_m_plain
    m_plain := ⟨fun_of F_m_plain, He.meth_ok (c.t.d.fact 31 rfl), (FunD.bindsN (ps := ["self", "number"]) F_m_plain fun _ _ _ _ _ _ us hl => match us, hl with | [_, _], _ => rfl)⟩
    f_m_thing := He.fAd K ("Forms", some "thing")
    fd_m_thing := fd_m_thing
    m_thing := ⟨fun_of F_m_thing, He.meth_ok (c.t.d.fact 32 rfl), (FunD.bindsN (ps := ["self", "kind", "label"]) F_m_thing fun _ _ _ _ _ _ us hl => match us, hl with | [_, _, _], _ => rfl)⟩
    f_m_whole := He.fAd K ("Forms", some "whole")
    fd_m_whole := fd_m_whole
    m_whole := ⟨fun_of F_m_whole, He.meth_ok (c.t.d.fact 33 rfl), (FunD.bindsN (ps := ["self", "form"]) F_m_whole fun _ _ _ _ _ _ us hl => match us, hl with | [_, _], _ => rfl)⟩
    f_m_kind := He.fAd K ("Forms", some "kind")
    fd_m_kind := fd_m_kind
    m_kind := ⟨fun_of F_m_kind, He.meth_ok (c.t.d.fact 34 rfl), (FunD.bindsN (ps := ["self", "form"]) F_m_kind fun _ _ _ _ _ _ us hl => match us, hl with | [_, _], _ => rfl)⟩
    f_m_key_of := He.fAd K ("Forms", some "key_of")
    fd_m_key_of := fd_m_key_of
    m_key_of := ⟨fun_of F_m_key_of, He.meth_ok (c.t.d.fact 35 rfl), (FunD.bindsN (ps := ["self", "form"]) F_m_key_of fun _ _ _ _ _ _ us hl => match us, hl with | [_, _], _ => rfl)⟩
    f_m_added := He.fAd K ("Forms", some "added")
    fd_m_added := fd_m_added
    m_added := ⟨fun_of F_m_added, He.meth_ok (c.t.d.fact 36 rfl), (FunD.bindsN (ps := ["self", "one", "other", "times"]) F_m_added fun _ _ _ _ _ _ us hl => match us, hl with | [_, _, _, _], _ => rfl)⟩
    f_m_so_often := He.fAd K ("Forms", some "so_often")
    fd_m_so_often := fd_m_so_often
    m_so_often := ⟨fun_of F_m_so_often, He.meth_ok (c.t.d.fact 37 rfl), (FunD.bindsN (ps := ["self", "form", "times"]) F_m_so_often fun _ _ _ _ _ _ us hl => match us, hl with | [_, _, _], _ => rfl)⟩
    f_m_same_of := He.fAd K ("Forms", some "same_of")
    fd_m_same_of := fd_m_same_of
    m_same_of := ⟨fun_of F_m_same_of, He.meth_ok (c.t.d.fact 38 rfl), (FunD.bindsN (ps := ["self", "one", "other"]) F_m_same_of fun _ _ _ _ _ _ us hl => match us, hl with | [_, _, _], _ => rfl)⟩
    f_m_mul_of := He.fAd K ("Forms", some "mul_of")
    fd_m_mul_of := fd_m_mul_of
    m_mul_of := ⟨fun_of F_m_mul_of, He.meth_ok (c.t.d.fact 39 rfl), (FunD.bindsN (ps := ["self", "one", "other"]) F_m_mul_of fun _ _ _ _ _ _ us hl => match us, hl with | [_, _, _], _ => rfl)⟩
    f_m_divided := He.fAd K ("Forms", some "divided")
    fd_m_divided := fd_m_divided
    m_divided := ⟨fun_of F_m_divided, He.meth_ok (c.t.d.fact 40 rfl), (FunD.bindsN (ps := ["self", "op", "one", "other"]) F_m_divided fun _ _ _ _ _ _ us hl => match us, hl with | [_, _, _, _], _ => rfl)⟩
    f_m_at_of := He.fAd K ("Forms", some "at_of")
    fd_m_at_of := fd_m_at_of
    m_at_of := ⟨fun_of F_m_at_of, He.meth_ok (c.t.d.fact 41 rfl), (FunD.bindsN (ps := ["self", "row", "place"]) F_m_at_of fun _ _ _ _ _ _ us hl => match us, hl with | [_, _, _], _ => rfl)⟩
    f_m_size_of := He.fAd K ("Forms", some "size_of")
    fd_m_size_of := fd_m_size_of
    m_size_of := ⟨fun_of F_m_size_of, He.meth_ok (c.t.d.fact 42 rfl), (FunD.bindsN (ps := ["self", "row"]) F_m_size_of fun _ _ _ _ _ _ us hl => match us, hl with | [_, _], _ => rfl)⟩
    f_m_put_of := He.fAd K ("Forms", some "put_of")
    fd_m_put_of := fd_m_put_of
    m_put_of := ⟨fun_of F_m_put_of, He.meth_ok (c.t.d.fact 43 rfl), (FunD.bindsN (ps := ["self", "row", "place", "number"]) F_m_put_of fun _ _ _ _ _ _ us hl => match us, hl with | [_, _, _, _], _ => rfl)⟩
    f_m_by_rule := He.fAd K ("Forms", some "by_rule")
    fd_m_by_rule := fd_m_by_rule
    m_by_rule := ⟨fun_of F_m_by_rule, He.meth_ok (c.t.d.fact 44 rfl), (FunD.bindsN (ps := ["self", "op", "forms"]) F_m_by_rule fun _ _ _ _ _ _ us hl => match us, hl with | [_, _, _], _ => rfl)⟩
    f_m_made := He.fAd K ("Forms", some "made")
    fd_m_made := fd_m_made
    m_made := ⟨fun_of F_m_made, He.meth_ok (c.t.d.fact 45 rfl), (FunD.bindsN (ps := ["self", "op", "forms"]) F_m_made fun _ _ _ _ _ _ us hl => match us, hl with | [_, _, _], _ => rfl)⟩
    f_all_of := He.fAd K ("all_of", none)
    fd_all_of := fd_all_of
    d_all_of := ⟨fun_of F_all_of, He.glo_ok X G (c.t.d.fact 46 rfl), (FunD.bindsN (ps := ["text", "signs"]) F_all_of fun _ _ _ _ _ _ us hl => match us, hl with | [_, _], _ => rfl)⟩
    f_kind_of := He.fAd K ("kind_of", none)
    fd_kind_of := fd_kind_of
    d_kind_of := ⟨fun_of F_kind_of, He.glo_ok X G (c.t.d.fact 47 rfl), (FunD.bindsN (ps := ["name"]) F_kind_of fun _ _ _ _ _ _ us hl => match us, hl with | [_], _ => rfl)⟩
    f_form_of := He.fAd K ("form_of", none)
    fd_form_of := fd_form_of
    d_form_of := ⟨fun_of F_form_of, He.glo_ok X G (c.t.d.fact 48 rfl), (FunD.bindsN (ps := ["forms", "term", "names"]) F_form_of fun _ _ _ _ _ _ us hl => match us, hl with | [_, _, _], _ => rfl)⟩
    f_names_in := He.fAd K ("names_in", none)
    fd_names_in := fd_names_in
    d_names_in := ⟨fun_of F_names_in, He.glo_ok X G (c.t.d.fact 49 rfl), (FunD.bindsN (ps := ["term"]) F_names_in fun _ _ _ _ _ _ us hl => match us, hl with | [_], _ => rfl)⟩
    f_alike := He.fAd K ("alike", none)
    fd_alike := fd_alike
    d_alike := ⟨fun_of F_alike, He.glo_ok X G (c.t.d.fact 50 rfl), (FunD.bindsN (ps := ["one", "other"]) F_alike fun _ _ _ _ _ _ us hl => match us, hl with | [_, _], _ => rfl)⟩
    f__law_cell_at := He.fAd K ("_law_cell_at", none)
    fd__law_cell_at := fd__law_cell_at
    d__law_cell_at := ⟨fun_of F__law_cell_at, He.glo_ok X G (c.t.d.fact 51 rfl), (FunD.bindsN (ps := ["_law_script", "_law_k"]) F__law_cell_at fun _ _ _ _ _ _ us hl => match us, hl with | [_, _], _ => rfl)⟩
    f__law_box := He.fAd K ("_law_box", none)
    fd__law_box := fd__law_box
    d__law_box := ⟨fun_of F__law_box, He.glo_ok X G (c.t.d.fact 52 rfl), (FunD.bindsN (ps := ["_law_cell"]) F__law_box fun _ _ _ _ _ _ us hl => match us, hl with | [_], _ => rfl)⟩
    f__law_take := He.fAd K ("_law_take", none)
    fd__law_take := fd__law_take
    d__law_take := ⟨fun_of F__law_take, He.glo_ok X G (c.t.d.fact 53 rfl), (FunD.bindsN (ps := ["_law_box_here", "_law_many"]) F__law_take fun _ _ _ _ _ _ us hl => match us, hl with | [_, _], _ => rfl)⟩
    f__law_number := He.fAd K ("_law_number", none)
    fd__law_number := fd__law_number
    d__law_number := ⟨fun_of F__law_number, He.glo_ok X G (c.t.d.fact 54 rfl), (FunD.bindsN (ps := ["_law_box_here"]) F__law_number fun _ _ _ _ _ _ us hl => match us, hl with | [_], _ => rfl)⟩
    f__law_leaf := He.fAd K ("_law_leaf", none)
    fd__law_leaf := fd__law_leaf
    d__law_leaf := ⟨fun_of F__law_leaf, He.glo_ok X G (c.t.d.fact 55 rfl), (FunD.bindsN (ps := ["_law_box_here", "_law_kind"]) F__law_leaf fun _ _ _ _ _ _ us hl => match us, hl with | [_, _], _ => rfl)⟩
    f__law_term := He.fAd K ("_law_term", none)
    fd__law_term := fd__law_term
    d__law_term := ⟨fun_of F__law_term, He.glo_ok X G (c.t.d.fact 56 rfl), (FunD.bindsN (ps := ["_law_box_here", "_law_kind", "_law_deep"]) F__law_term fun _ _ _ _ _ _ us hl => match us, hl with | [_, _, _], _ => rfl)⟩
    f__law_near := He.fAd K ("_law_near", none)
    fd__law_near := fd__law_near
    d__law_near := ⟨fun_of F__law_near, He.glo_ok X G (c.t.d.fact 57 rfl), (FunD.bindsN (ps := ["_law_box_here", "_law_term_here", "_law_kind"]) F__law_near fun _ _ _ _ _ _ us hl => match us, hl with | [_, _, _], _ => rfl)⟩
    f__law_edge := He.fAd K ("_law_edge", none)
    fd__law_edge := fd__law_edge
    d__law_edge := ⟨fun_of F__law_edge, He.glo_ok X G (c.t.d.fact 58 rfl), (FunD.bindsN (ps := ["_law_box_here", "_law_term_here", "_law_kind"]) F__law_edge fun _ _ _ _ _ _ us hl => match us, hl with | [_, _, _], _ => rfl)⟩
    f__law_parts := He.fAd K ("_law_parts", none)
    fd__law_parts := fd__law_parts
    d__law_parts := ⟨fun_of F__law_parts, He.glo_ok X G (c.t.d.fact 59 rfl), (FunD.bindsN (ps := ["_law_term_here"]) F__law_parts fun _ _ _ _ _ _ us hl => match us, hl with | [_], _ => rfl)⟩
    f__law_pair := He.fAd K ("_law_pair", none)
    fd__law_pair := fd__law_pair
    d__law_pair := ⟨fun_of F__law_pair, He.glo_ok X G (c.t.d.fact 60 rfl), (FunD.bindsN (ps := ["_law_box_here"]) F__law_pair fun _ _ _ _ _ _ us hl => match us, hl with | [_], _ => rfl)⟩
    f__law_put := He.fAd K ("_law_put", none)
    fd__law_put := fd__law_put
    d__law_put := ⟨fun_of F__law_put, He.glo_ok X G (c.t.d.fact 61 rfl), (FunD.bindsN (ps := ["_law_term_here", "_law_names"]) F__law_put fun _ _ _ _ _ _ us hl => match us, hl with | [_, _], _ => rfl)⟩
    f__law_named := He.fAd K ("_law_named", none)
    fd__law_named := fd__law_named
    d__law_named := ⟨fun_of F__law_named, He.glo_ok X G (c.t.d.fact 62 rfl), (FunD.bindsN (ps := ["_law_box_here", "_law_forms"]) F__law_named fun _ _ _ _ _ _ us hl => match us, hl with | [_, _], _ => rfl)⟩
    f__law_right := He.fAd K ("_law_right", none)
    fd__law_right := fd__law_right
    d__law_right := ⟨fun_of F__law_right, He.glo_ok X G (c.t.d.fact 63 rfl), (FunD.bindsN (ps := ["_law_box_here"]) F__law_right fun _ _ _ _ _ _ us hl => match us, hl with | [_], _ => rfl)⟩
    f_law := He.fAd K ("law", none)
    fd_law := fd_law
    d_law := ⟨fun_of F_law, He.glo_ok X G (c.t.d.fact 64 rfl), (FunD.bindsN (ps := ["_law_script"]) F_law fun _ _ _ _ _ _ us hl => match us, hl with | [_], _ => rfl)⟩
  }, rfl, fun s v => FunD.bindsA (ps := ["_law_script"]) F_law (fun _ _ _ _ _ _ us hl => match us, hl with | [_], _ => rfl) s [v] rfl⟩
end DR

open PySem PySem.W PySem.Calls PyProof.Rows
theorem dr_holds (pure_law : ∀ ns : List Int, ns.length ≤ 63 → ∃ M', DR.fn_law [.frl (ns.map DL.D.int)] [] = some (.bl true, M')) : PySem.Challenge.rw_samepaper_k46_whole_put_in.Holds := by
  w_on; o_law
  refine HandSHeadRun.head_any (r := OpenLaw.row PySem.Challenge.rw_samepaper_k46_whole_put_in) (q := view (OpenLaw.row PySem.Challenge.rw_samepaper_k46_whole_put_in).prog [37]) (H := DR.hk) (ob := DR.ob) (M := 4000) (loose := DR.loose) (d := HandSHeadRun.topDef (OpenLaw.row PySem.Challenge.rw_samepaper_k46_whole_put_in).prog 37) (kwd := []) DR.ob_eq
    (by kernel_rfl) (fun s => by kernel_rfl) DR.run (by kernel_rfl) (by kernel_rfl) (by kernel_rfl) (by rfl) (by first | assumption | decide +kernel) (by decide +kernel) ⟨rfl, rfl, rfl, rfl, rfl, by decide +kernel⟩ ?hw ?hc
  case hw => w_witness2
  case hc =>
    refine L2.walk_ofE (l := PySem.Challenge.rw_samepaper_k46_whole_put_in) (n := 63) (k := 33) (x := "_law_script") (CX := L2.CX0) rfl (by decide) (by kernel_rfl) ⟨rfl, by decide, by decide⟩ ?F (fun _ _ _ _ z => z)
    intro w mg fa h Y G hmg0
    obtain ⟨K, KX, c⟩ := Y
    have hmg : mg ("law" : PySem.Str) = some (.ref fa) := by
      have e : (HandSHeadRun.topDef (OpenLaw.row PySem.Challenge.rw_samepaper_k46_whole_put_in).prog 37).name = ("law" : PySem.Str) := by kernel_rfl
      rw [← e]
      exact hmg0
    obtain ⟨W, e1, hb⟩ := DR.fx KX G c
    have e2 : W.f_law = fa := by
      have := W.d_law.gl.symm.trans hmg
      cases this
      rfl
    subst e2
    refine ⟨K, W.fd_law, DL.spF (PySem.Challenge.rw_samepaper_k46_whole_put_in).prog w K 1 DR.fn_law, KX, hb, fun H a ns hl _ hS => ?_, fun base _ _ => DR.ok_law W⟩
    obtain ⟨M', e⟩ := pure_law ns hl
    refine ⟨rfl, [], [], [.frl (ns.map DL.D.int)], .bl true, M', ⟨rfl, List.nodup_nil, fun i a o h => by simp at h⟩, ⟨_, _, rfl, ⟨a, _, rfl, ?_, DL.iss_ints ns⟩, rfl⟩, e, fun v H' ads' _ _ i => i⟩
    rcases hS with h | h
    · exact .inl ⟨by simp, h⟩
    · exact .inr h
theorem PySem.Challenge.cw_samepaper_k46_whole_put_in_holds : PySem.Challenge.rw_samepaper_k46_whole_put_in.Holds := by
  exact dr_holds fun ns h => PM.pure_law ns h
