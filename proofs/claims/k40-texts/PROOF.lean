import PyProof.Rows.All
import Wide.All
import OpenK.AllK
import Wide.FinOn
import HandS.ForMost
import HandS.TupAny
import HandS.Conv
import HandS.Flow
import HandS.Lambda
import HandS.Deep
import HandS.Zip
import HandS.SortKw
import HandS.Iter
import KE.DatumOrd
import KE.GoesMore
import PyProof.EnumMake
import PyProof.SumWalkG
import PyProof.WalksMore
import PyProof.SeqI3
import HandS.Set
import HandS.SetFor
import HandS.TupSets
import HandS.IsInst
import HandS.Style
import HandS.More
import KE.KIndexOf
import KE.SortData
import KE.DataMinMax
import KE.KMinKey
import HandS.EndTab
import KE.KExcIs
import HandS.ExcOwn
import HandS.ExcIs
import HandS.ExcField
import HandS.ExcInit
import HandS.WordsExc
import HandS.MakeKwOnly
import HandS.FStr
import HandS.MakeKw
import HandS.OwnEq
import KE.KCallOwn
import HandS.Text
import HandS.Codes
import PySem.Challenge.RW_suretickets_k40_texts
set_option Elab.async false
set_option linter.all false
set_option maxRecDepth 100000
set_option maxHeartbeats 4000000
/-! Fx, part A: data without a heap, abstract stores, the judgements. -/
namespace Fx
open PySem L2

/-- data that never changes -/
inductive D where
  | non | bl (b : Bool) | int (i : Int) | str (x : Str) | tup (ds : List D) | lis (ds : List D)
mutual
def Rep (K : PySem.W.Frag) (H : Hp) : D → V → Prop
  | .non, v => v = .non
  | .bl b, v => v = .bl b
  | .int i, v => v = .int i
  | .str x, v => v = .str x
  | .tup ds, v => ∃ a xs, v = .ref a ∧ SqT K H a xs ∧ Reps K H ds xs
  | .lis ds, v => ∃ a xs o, v = .ref a ∧ H a = some (.frz o (.lst xs)) ∧ Reps K H ds xs
def Reps (K : PySem.W.Frag) (H : Hp) : List D → List V → Prop
  | [], xs => xs = []
  | d :: ds, xs => ∃ x r, xs = x :: r ∧ Rep K H d x ∧ Reps K H ds r
end
/-- tuples (and what is locked) stay -/
structure Tx (H H2 : Hp) : Prop where
  tup : ∀ a xs, H a = some (.tup xs) → H2 a = some (.tup xs)
  frz : ∀ a o u, H a = some (.frz o u) → H2 a = some (.frz o u)
  ext : ∀ a φ, H a = some (.ext φ) → H2 a = some (.ext φ)
theorem Tx.refl (H : Hp) : Tx H H := ⟨fun _ _ h => h, fun _ _ _ h => h, fun _ _ h => h⟩
theorem Tx.trans {H H1 H2 : Hp} (a : Tx H H1) (b : Tx H1 H2) : Tx H H2 := ⟨fun x y h => b.tup x y (a.tup x y h), fun x y z h => b.frz x y z (a.frz x y z h), fun x y h => b.ext x y (a.ext x y h)⟩
theorem Tx.same {H H2 : Hp} (s : Same H H2) : Tx H H2 := ⟨fun _ _ h => s _ _ h, fun _ _ _ h => s _ _ h, fun _ _ h => s _ _ h⟩
theorem sqT_tx {K : PySem.W.Frag} {H H2 : Hp} {a : Addr} {xs : List V} (t : Tx H H2) (h : SqT K H a xs) : SqT K H2 a xs := by
  rcases h with (h | ⟨o, h⟩) | h
  · exact .inl (.inl (t.tup _ _ h))
  · exact .inl (.inr ⟨o, t.frz _ _ _ h⟩)
  · exact .inr h
mutual
theorem Rep.tx {K : PySem.W.Frag} {H H2 : Hp} (t : Tx H H2) : ∀ {d : D} {v : V}, Rep K H d v → Rep K H2 d v
  | .non, _, h => h
  | .bl _, _, h => h
  | .int _, _, h => h
  | .str _, _, h => h
  | .tup _, _, ⟨a, xs, e, q, r⟩ => ⟨a, xs, e, sqT_tx t q, Reps.tx t r⟩
  | .lis _, _, ⟨a, xs, o, e, q, r⟩ => ⟨a, xs, o, e, t.frz _ _ _ q, Reps.tx t r⟩
theorem Reps.tx {K : PySem.W.Frag} {H H2 : Hp} (t : Tx H H2) : ∀ {ds : List D} {vs : List V}, Reps K H ds vs → Reps K H2 ds vs
  | [], _, h => h
  | _ :: _, _, ⟨x, r, e, h1, h2⟩ => ⟨x, r, e, Rep.tx t h1, Reps.tx t h2⟩
end
theorem Reps.length {K : PySem.W.Frag} {H : Hp} : ∀ {ds : List D} {vs : List V}, Reps K H ds vs → vs.length = ds.length
  | [], _, h => by rw [show _ = [] from h]; rfl
  | _ :: _, _, ⟨x, r, e, _, h2⟩ => by rw [e, List.length_cons, List.length_cons, Reps.length h2]
theorem Reps.get {K : PySem.W.Frag} {H : Hp} : ∀ {ds : List D} {vs : List V} {i : Nat} {d : D}, Reps K H ds vs → ds[i]? = some d → ∃ v, vs[i]? = some v ∧ Rep K H d v
  | [], _, _, _, _, e => by simp at e
  | _ :: _, _, 0, _, ⟨x, r, e, h1, _⟩, e2 => by
    subst e
    have : _ = _ := Option.some.inj e2
    subst this
    exact ⟨x, rfl, h1⟩
  | _ :: ds, _, i + 1, d, ⟨x, r, e, _, h2⟩, e2 => by
    subst e
    exact Reps.get (ds := ds) (i := i) h2 e2
theorem Reps.get' {K : PySem.W.Frag} {H : Hp} : ∀ {ds : List D} {vs : List V} {i : Nat} {v : V}, Reps K H ds vs → vs[i]? = some v → ∃ d, ds[i]? = some d ∧ Rep K H d v
  | [], _, _, _, h, e => by rw [show _ = [] from h] at e; simp at e
  | d :: _, _, 0, _, ⟨x, r, e, h1, _⟩, e2 => by
    subst e
    have : _ = _ := Option.some.inj e2
    subst this
    exact ⟨d, rfl, h1⟩
  | _ :: ds, _, i + 1, d, ⟨x, r, e, _, h2⟩, e2 => by
    subst e
    exact Reps.get' (ds := ds) (i := i) h2 e2
theorem Reps.append {K : PySem.W.Frag} {H : Hp} : ∀ {ds es : List D} {vs us : List V}, Reps K H ds vs → Reps K H es us → Reps K H (ds ++ es) (vs ++ us)
  | [], _, _, _, h, k => by rw [show _ = [] from h]; exact k
  | _ :: _, _, _, _, ⟨x, r, e, h1, h2⟩, k => by
    subst e
    exact ⟨x, _, rfl, h1, Reps.append h2 k⟩
theorem Reps.drop {K : PySem.W.Frag} {H : Hp} : ∀ {ds : List D} {vs : List V} (n : Nat), Reps K H ds vs → Reps K H (ds.drop n) (vs.drop n)
  | _, _, 0, h => h
  | [], _, n + 1, h => by rw [show _ = [] from h]; rfl
  | _ :: _, _, n + 1, ⟨x, r, e, _, h2⟩ => by
    subst e
    exact Reps.drop n h2
theorem Reps.take {K : PySem.W.Frag} {H : Hp} : ∀ {ds : List D} {vs : List V} (n : Nat), Reps K H ds vs → Reps K H (ds.take n) (vs.take n)
  | _, _, 0, _ => rfl
  | [], _, n + 1, h => by rw [show _ = [] from h]; rfl
  | _ :: _, _, n + 1, ⟨x, r, e, h1, h2⟩ => by
    subst e
    exact ⟨x, _, rfl, h1, Reps.take n h2⟩
theorem Reps.set {K : PySem.W.Frag} {H : Hp} {d : D} {v : V} (q : Rep K H d v) : ∀ {ds : List D} {vs : List V} (n : Nat), Reps K H ds vs → Reps K H (ds.set n d) (vs.set n v)
  | [], _, _, h => by rw [show _ = [] from h]; rfl
  | _ :: _, _, 0, ⟨x, r, e, _, h2⟩ => by
    subst e
    exact ⟨v, r, rfl, q, h2⟩
  | _ :: _, _, n + 1, ⟨x, r, e, h1, h2⟩ => by
    subst e
    exact ⟨x, _, rfl, h1, Reps.set q n h2⟩
theorem Reps.erase {K : PySem.W.Frag} {H : Hp} : ∀ {ds : List D} {vs : List V} (n : Nat), Reps K H ds vs → Reps K H (ds.eraseIdx n) (vs.eraseIdx n)
  | [], _, _, h => by rw [show _ = [] from h]; rfl
  | _ :: _, _, 0, ⟨x, r, e, _, h2⟩ => by
    subst e
    exact h2
  | _ :: _, _, n + 1, ⟨x, r, e, h1, h2⟩ => by
    subst e
    exact ⟨x, _, rfl, h1, Reps.erase n h2⟩
theorem Reps.reverse {K : PySem.W.Frag} {H : Hp} : ∀ {ds : List D} {vs : List V}, Reps K H ds vs → Reps K H ds.reverse vs.reverse
  | [], _, h => by rw [show _ = [] from h]; rfl
  | _ :: _, _, ⟨x, r, e, h1, h2⟩ => by
    subst e
    rw [List.reverse_cons, List.reverse_cons]
    exact (Reps.reverse h2).append ⟨x, [], rfl, h1, rfl⟩
/-- ints, bools, texts by their values -/
theorem reps_ints {K : PySem.W.Frag} {H : Hp} : ∀ {ns : List Int} {vs : List V}, Reps K H (ns.map D.int) vs ↔ vs = ns.map V.int
  | [], _ => Iff.rfl
  | n :: ns, vs => by
    constructor
    · rintro ⟨x, r, rfl, h1, h2⟩
      rw [show x = V.int n from h1, reps_ints.mp h2]
      rfl
    · rintro rfl
      exact ⟨_, _, rfl, rfl, reps_ints.mpr rfl⟩
theorem reps_bls {K : PySem.W.Frag} {H : Hp} : ∀ {ns : List Bool} {vs : List V}, Reps K H (ns.map D.bl) vs ↔ vs = ns.map V.bl
  | [], _ => Iff.rfl
  | n :: ns, vs => by
    constructor
    · rintro ⟨x, r, rfl, h1, h2⟩
      rw [show x = V.bl n from h1, reps_bls.mp h2]
      rfl
    · rintro rfl
      exact ⟨_, _, rfl, rfl, reps_bls.mpr rfl⟩
theorem reps_strs {K : PySem.W.Frag} {H : Hp} : ∀ {ns : List Str} {vs : List V}, Reps K H (ns.map D.str) vs ↔ vs = ns.map V.str
  | [], _ => Iff.rfl
  | n :: ns, vs => by
    constructor
    · rintro ⟨x, r, rfl, h1, h2⟩
      rw [show x = V.str n from h1, reps_strs.mp h2]
      rfl
    · rintro rfl
      exact ⟨_, _, rfl, rfl, reps_strs.mpr rfl⟩

/-- what a name may hold: data, a list of data that nobody changes, an object of the abstract store, a list of such things that nobody changes -/
inductive AV where
  | dat (d : D) | ls (ds : List D) | mut (j : Nat) | la (as : List AV) | scr (ns : List Int) | tx (ds : List D) | exc (C : Addr) (fs : List (Str × D)) | fn (f : Addr) | ta (as : List AV)
/-- an object of the abstract store -/
inductive MO where
  | lst (ds : List D) | town (j : Nat) | rests | ins (C : Addr) (fs : List (Str × AV)) | kd (ks : List Int) | tab (P : Addr) (q : Str)
def LstAt (ad : List Addr) (H : Hp) (a : Addr) (xs : List V) : Prop := H a = some (.lst xs) ∧ a ∉ ad
def ScrAt (K : PySem.W.Frag) (ad : List Addr) (H : Hp) (a : Addr) (xs : List V) : Prop := (Rd H a (.lst xs) ∧ a ∉ ad) ∨ SqL K (fun _ => none) a xs
/-- a tuple of the heap whose object is known: it has no dict -/
def ExT (H : Hp) (a : Addr) (xs : List V) : Prop := ∃ o : Obj, H a = some (.frz o (.tup xs)) ∧ o.cls = .type "tuple" ∧ o.dict = none
/-- the fields of an exception -/
def XdAt (K : PySem.W.Frag) (ad : List Addr) (H : Hp) (d : Option Addr) (fs : List (Str × D)) : Prop := match d with
  | none => fs = []
  | some dx => dx ∉ ad ∧ ∃ xs, H dx = some (.xd xs) ∧ ∀ f d, fs.lookup f = some d → ∃ v, xs.lookup f = some v ∧ Rep K H d v
/-- an exception that is held -/
def ExcAt (K : PySem.W.Frag) (ad : List Addr) (H : Hp) (C : Addr) (fs : List (Str × D)) (v : V) : Prop :=
  ∃ (a : Addr) (oe : Obj), v = .ref a ∧ a ∉ ad ∧ H a = some (.ext fun h => h.get? a = some oe) ∧ oe.cls = .ref C ∧ (∃ vs, oe.data = .fields vs) ∧ XdAt K ad H oe.dict fs
mutual
def RepA (K : PySem.W.Frag) (ad : List Addr) (H : Hp) : AV → V → Prop
  | .dat d, v => Rep K H d v
  | .ls ds, v => ∃ a xs, v = .ref a ∧ LstAt ad H a xs ∧ Reps K H ds xs
  | .mut j, v => ∃ a, ad[j]? = some a ∧ v = .ref a
  | .la as, v => ∃ a xs, v = .ref a ∧ LstAt ad H a xs ∧ RepAs K ad H as xs
  | .ta as, v => ∃ a xs, v = .ref a ∧ SqT K H a xs ∧ RepAs K ad H as xs
  | .scr ns, v => ∃ a, v = .ref a ∧ ScrAt K ad H a (ns.map V.int)
  | .tx ds, v => ∃ a xs, v = .ref a ∧ ExT H a xs ∧ Reps K H ds xs
  | .exc C fs, v => ExcAt K ad H C fs v
  | .fn f, v => v = .ref f
def RepAs (K : PySem.W.Frag) (ad : List Addr) (H : Hp) : List AV → List V → Prop
  | [], xs => xs = []
  | d :: ds, xs => ∃ x r, xs = x :: r ∧ RepA K ad H d x ∧ RepAs K ad H ds r
end
def RepF (K : PySem.W.Frag) (ad : List Addr) (H : Hp) : AV → V → Prop
  | .dat d, v => Rep K H d v
  | .mut j, v => ∃ a, ad[j]? = some a ∧ v = .ref a
  | _, _ => False
/-- the fields of an object -/
def RepFs (K : PySem.W.Frag) (ad : List Addr) (H : Hp) : List (Str × AV) → List (Str × V) → Prop
  | [], xs => xs = []
  | p :: ps, xs => ∃ v r, xs = (p.1, v) :: r ∧ RepF K ad H p.2 v ∧ RepFs K ad H ps r
/-- what the law's cells still hold: keys from 0 to 62, each once -/
def RestOk (kvs : List (Key × V)) : Prop := (kvs.map (·.1)).Nodup ∧ ∀ p ∈ kvs, ∃ i v : Int, p = (Sum.inl i, V.int v) ∧ 0 ≤ i ∧ i < 63
def ObjA (K : PySem.W.Frag) (ad : List Addr) (H : Hp) (a : Addr) : MO → Prop
  | .lst ds => ∃ xs, H a = some (.lst xs) ∧ Reps K H ds xs
  | .town j => ∃ (c : Int) (b : Addr), ad[j]? = some b ∧ H a = some (.dK [(Sum.inr "count", V.int c), (Sum.inr "rests", V.ref b)])
  | .rests => ∃ kvs, H a = some (.dK kvs) ∧ RestOk kvs
  | .ins C fs => ∃ dx xs, H a = some (.ins C dx xs) ∧ RepFs K ad H fs xs
  | .kd ks => H a = some (.dK (ks.map fun k => (Sum.inl k, V.bl true)))
  | .tab P q => a = P ∧ LamX.TabS H a q
/-- the store -/
structure StOk (K : PySem.W.Frag) (ad : List Addr) (H : Hp) (M : List MO) : Prop where
  nd : ad.Nodup
  len : ad.length = M.length
  obj : ∀ (j : Nat) (m : MO), M[j]? = some m → ∃ a, ad[j]? = some a ∧ ObjA K ad H a m
/-- from (ad, H) on to (ad2, H2): the store may change and grow by what is new; all else is kept -/
structure Nx (ad : List Addr) (H : Hp) (ad2 : List Addr) (H2 : Hp) : Prop where
  pre : ∃ t, ad2 = ad ++ t
  fresh : ∀ a ∈ ad2, a ∉ ad → H a = none
  keep : ∀ a o, a ∉ ad → H a = some o → H2 a = some o
  tx : Tx H H2
section
variable {K : PySem.W.Frag} {ad ad1 ad2 : List Addr} {H H1 H2 : Hp} {M : List MO}
theorem Nx.same (s : Same H H2) : Nx ad H ad H2 := ⟨⟨[], by simp⟩, fun a h n => absurd h n, fun a o _ h => s a o h, Tx.same s⟩
theorem Nx.refl : Nx ad H ad H := Nx.same (Same.refl H)
theorem Nx.sub (n : Nx ad H ad2 H2) {a : Addr} (h : a ∈ ad) : a ∈ ad2 := by
  obtain ⟨t, e⟩ := n.pre
  rw [e]
  exact List.mem_append_left _ h
theorem Nx.trans (n : Nx ad H ad1 H1) (m : Nx ad1 H1 ad2 H2) : Nx ad H ad2 H2 := by
  refine ⟨?_, fun a h2 h => ?_, fun a o h e => ?_, n.tx.trans m.tx⟩
  · obtain ⟨t, e⟩ := n.pre
    obtain ⟨u, e2⟩ := m.pre
    exact ⟨t ++ u, by rw [e2, e, List.append_assoc]⟩
  · by_cases h1 : a ∈ ad1
    · exact n.fresh a h1 h
    · have z := m.fresh a h2 h1
      cases q : H a with
      | none => rfl
      | some o =>
        rw [n.keep a o h q] at z
        cases z
  · refine m.keep a o (fun z => ?_) (n.keep a o h e)
    have z2 := n.fresh a z h
    rw [e] at z2
    cases z2
theorem Nx.get (n : Nx ad H ad2 H2) {j : Nat} {a : Addr} (h : ad[j]? = some a) : ad2[j]? = some a := by
  obtain ⟨t, e⟩ := n.pre
  rw [e, List.getElem?_append_left (List.getElem?_eq_some_iff.mp h).1]
  exact h
theorem LstAt.nx (n : Nx ad H ad2 H2) {a : Addr} {xs : List V} (h : LstAt ad H a xs) : LstAt ad2 H2 a xs := by
  refine ⟨n.keep _ _ h.2 h.1, fun z => ?_⟩
  have q := n.fresh a z h.2
  rw [h.1] at q
  cases q
theorem LstAt.sq {a : Addr} {xs : List V} (h : LstAt ad H a xs) : SqL K H a xs := .inl (.inl h.1)
theorem ScrAt.nx (n : Nx ad H ad2 H2) {a : Addr} {xs : List V} (h : ScrAt K ad H a xs) : ScrAt K ad2 H2 a xs := by
  rcases h with ⟨h, hn⟩ | h
  · refine .inl ⟨?_, fun z => ?_⟩
    · rcases h with h | ⟨o, h⟩
      · exact .inl (n.keep _ _ hn h)
      · exact .inr ⟨o, n.keep _ _ hn h⟩
    · have q := n.fresh a z hn
      rcases h with h | ⟨o, h⟩ <;> (rw [h] at q; cases q)
  · exact .inr h
theorem ScrAt.sq {a : Addr} {xs : List V} (h : ScrAt K ad H a xs) : SqL K H a xs := by
  rcases h with ⟨h, _⟩ | (h | ⟨o, h⟩) | h
  · exact .inl h
  · cases h
  · cases h
  · exact .inr h
theorem ExT.tx (t : Tx H H2) {a : Addr} {xs : List V} (h : ExT H a xs) : ExT H2 a xs := by
  obtain ⟨o, h1, h2, h3⟩ := h
  exact ⟨o, t.frz _ _ _ h1, h2, h3⟩
theorem ExT.sq {a : Addr} {xs : List V} (h : ExT H a xs) : SqT K H a xs := by
  obtain ⟨o, h1, _⟩ := h
  exact .inl (.inr ⟨o, h1⟩)
theorem Nx.out (n : Nx ad H ad2 H2) {a : Addr} {o : HO} (h : a ∉ ad) (e : H a = some o) : a ∉ ad2 := fun z => by
  have q := n.fresh a z h
  rw [e] at q
  cases q
theorem XdAt.nx (n : Nx ad H ad2 H2) {d : Option Addr} {fs : List (Str × D)} (h : XdAt K ad H d fs) : XdAt K ad2 H2 d fs := by
  cases d with
  | none => exact h
  | some dx =>
    obtain ⟨h1, xs, h2, h3⟩ := h
    refine ⟨n.out h1 h2, xs, n.keep _ _ h1 h2, fun f d e => ?_⟩
    obtain ⟨v, e1, r⟩ := h3 f d e
    exact ⟨v, e1, r.tx n.tx⟩
theorem ExcAt.nx (n : Nx ad H ad2 H2) {C : Addr} {fs : List (Str × D)} {v : V} (h : ExcAt K ad H C fs v) : ExcAt K ad2 H2 C fs v := by
  obtain ⟨a, oe, e, h1, h2, h3, h4, h5⟩ := h
  exact ⟨a, oe, e, n.out h1 h2, n.keep _ _ h1 h2, h3, h4, h5.nx n⟩
mutual
theorem RepA.nx (n : Nx ad H ad2 H2) : ∀ {a : AV} {v : V}, RepA K ad H a v → RepA K ad2 H2 a v
  | .dat _, _, h => Rep.tx n.tx h
  | .ls _, _, ⟨a, xs, e, q, r⟩ => ⟨a, xs, e, q.nx n, r.tx n.tx⟩
  | .mut _, _, ⟨a, q, e⟩ => ⟨a, n.get q, e⟩
  | .la _, _, ⟨a, xs, e, q, r⟩ => ⟨a, xs, e, q.nx n, RepAs.nx n r⟩
  | .ta _, _, ⟨a, xs, e, q, r⟩ => ⟨a, xs, e, sqT_tx n.tx q, RepAs.nx n r⟩
  | .scr _, _, ⟨a, e, q⟩ => ⟨a, e, q.nx n⟩
  | .tx _, _, ⟨a, xs, e, q, r⟩ => ⟨a, xs, e, q.tx n.tx, r.tx n.tx⟩
  | .exc _ _, _, h => ExcAt.nx n h
  | .fn _, _, h => h
theorem RepAs.nx (n : Nx ad H ad2 H2) : ∀ {as : List AV} {vs : List V}, RepAs K ad H as vs → RepAs K ad2 H2 as vs
  | [], _, h => h
  | _ :: _, _, ⟨x, r, e, h1, h2⟩ => ⟨x, r, e, RepA.nx n h1, RepAs.nx n h2⟩
end
theorem RepF.nx' (g : ∀ (j : Nat) (a : Addr), ad[j]? = some a → ad2[j]? = some a) (t : Tx H H2) : ∀ {a : AV} {v : V}, RepF K ad H a v → RepF K ad2 H2 a v
  | .dat _, _, h => Rep.tx t h
  | .mut _, _, ⟨a, q, e⟩ => ⟨a, g _ _ q, e⟩
  | .ls _, _, h => h.elim
  | .la _, _, h => h.elim
  | .ta _, _, h => h.elim
  | .scr _, _, h => h.elim
  | .tx _, _, h => h.elim
  | .exc _ _, _, h => h.elim
  | .fn _, _, h => h.elim
theorem RepFs.nx' (g : ∀ (j : Nat) (a : Addr), ad[j]? = some a → ad2[j]? = some a) (t : Tx H H2) : ∀ {a : List (Str × AV)} {v : List (Str × V)}, RepFs K ad H a v → RepFs K ad2 H2 a v
  | [], _, h => h
  | _ :: _, _, ⟨x, r, e, h1, h2⟩ => ⟨x, r, e, RepF.nx' g t h1, RepFs.nx' g t h2⟩
theorem ObjA.nx' (g : ∀ (j : Nat) (a : Addr), ad[j]? = some a → ad2[j]? = some a) (t : Tx H H2) {a : Addr} (e : ∀ o, H a = some o → H2 a = some o) : ∀ {m : MO}, ObjA K ad H a m → ObjA K ad2 H2 a m
  | .lst _, ⟨xs, h, r⟩ => ⟨xs, e _ h, r.tx t⟩
  | .town _, ⟨c, b, h, k⟩ => ⟨c, b, g _ _ h, e _ k⟩
  | .rests, ⟨kvs, h, k⟩ => ⟨kvs, e _ h, k⟩
  | .ins _ _, ⟨dx, xs, h, k⟩ => ⟨dx, xs, e _ h, RepFs.nx' g t k⟩
  | .kd _, h => e _ h
  | .tab _ _, ⟨z, ps, h1, h2, h3⟩ => ⟨z, ps, e _ h1, h2, fun pos cv hc => by
    obtain ⟨c, e1, e2⟩ := h3 pos cv hc
    exact ⟨c, e1, t.ext _ _ e2⟩⟩
theorem ObjA.there {a : Addr} : ∀ {m : MO}, ObjA K ad H a m → ∃ o, H a = some o ∧ (∀ xs, o ≠ .tup xs) ∧ (∀ u w, o ≠ .frz u w) ∧ ∀ φ, o ≠ .ext φ
  | .lst _, ⟨xs, h, r⟩ => ⟨_, h, (by intro _ z; cases z), (by intro _ _ z; cases z), (by intro _ z; cases z)⟩
  | .town _, ⟨c, b, h, k⟩ => ⟨_, k, (by intro _ z; cases z), (by intro _ _ z; cases z), (by intro _ z; cases z)⟩
  | .rests, ⟨kvs, h, k⟩ => ⟨_, h, (by intro _ z; cases z), (by intro _ _ z; cases z), (by intro _ z; cases z)⟩
  | .ins _ _, ⟨dx, xs, h, k⟩ => ⟨_, h, (by intro _ z; cases z), (by intro _ _ z; cases z), (by intro _ z; cases z)⟩
  | .tab _ _, ⟨_, ps, h, _⟩ => ⟨_, h, (by intro _ z; cases z), (by intro _ _ z; cases z), (by intro _ z; cases z)⟩
  | .kd _, h => ⟨_, h, (by intro _ z; cases z), (by intro _ _ z; cases z), (by intro _ z; cases z)⟩
theorem StOk.there (S : StOk K ad H M) {a : Addr} (h : a ∈ ad) : ∃ o, H a = some o ∧ (∀ xs, o ≠ .tup xs) ∧ (∀ u w, o ≠ .frz u w) ∧ ∀ φ, o ≠ .ext φ := by
  obtain ⟨j, hj, e⟩ := List.mem_iff_getElem.mp h
  have hM : j < M.length := S.len ▸ hj
  obtain ⟨b, hb, o⟩ := S.obj j M[j] (List.getElem?_eq_getElem hM)
  rw [List.getElem?_eq_getElem hj, e] at hb
  cases hb
  exact o.there
theorem StOk.free (S : StOk K ad H M) {p : Addr} (h : H p = none) : p ∉ ad := fun z => by
  obtain ⟨o, e, _⟩ := S.there z
  rw [h] at e
  cases e
theorem StOk.same (s : Same H H2) (S : StOk K ad H M) : StOk K ad H2 M := ⟨S.nd, S.len, fun j m e => by
  obtain ⟨a, h, o⟩ := S.obj j m e
  exact ⟨a, h, o.nx' (fun _ _ q => q) (Tx.same s) (s a)⟩⟩
/-- a new object stands -/
theorem StOk.push (S : StOk K ad H M) {p : Addr} {m : MO} (hp : p ∉ ad) (hm : ObjA K (ad ++ [p]) H p m) : StOk K (ad ++ [p]) H (M ++ [m]) := by
  refine ⟨?_, by rw [List.length_append, List.length_append, S.len]; rfl, fun j x e => ?_⟩
  · rw [List.nodup_append]
    exact ⟨S.nd, List.nodup_cons.mpr ⟨List.not_mem_nil, List.nodup_nil⟩, fun a ha b hb z => hp (by rw [List.mem_singleton.mp hb] at z; rw [← z]; exact ha)⟩
  · by_cases hj : j < M.length
    · rw [List.getElem?_append_left hj] at e
      obtain ⟨a, h, o⟩ := S.obj j x e
      have g : ∀ (i : Nat) (b : Addr), ad[i]? = some b → (ad ++ [p])[i]? = some b := fun i b q => by
        rw [List.getElem?_append_left (List.getElem?_eq_some_iff.mp q).1]
        exact q
      exact ⟨a, g j a h, o.nx' g (Tx.refl H) fun _ q => q⟩
    · have hj2 : j = M.length := by
        have := (List.getElem?_eq_some_iff.mp e).1
        rw [List.length_append] at this
        have h1 : [m].length = 1 := rfl
        omega
      subst hj2
      rw [List.getElem?_append_right (Nat.le_refl _), Nat.sub_self] at e
      cases e
      refine ⟨p, ?_, hm⟩
      rw [← S.len, List.getElem?_append_right (Nat.le_refl _), Nat.sub_self]
      rfl
/-- the j-th object has changed -/
theorem StOk.put (S : StOk K ad H M) {j : Nat} {a : Addr} {m : MO} {o : HO} (hj : ad[j]? = some a) (hm : ObjA K ad (upd H a o) a m) : StOk K ad (upd H a o) (M.set j m) ∧ Nx ad H ad (upd H a o) := by
  have ha : a ∈ ad := List.mem_of_getElem? hj
  obtain ⟨u, hu, nt, nf, ne⟩ := S.there ha
  have t : Tx H (upd H a o) := ⟨fun b xs q => by
    rw [upd_ne (fun z => by subst z; rw [hu] at q; exact nt xs (Option.some.inj q))]
    exact q, fun b x y q => by
    rw [upd_ne (fun z => by subst z; rw [hu] at q; exact nf _ _ (Option.some.inj q))]
    exact q, fun b x q => by
    rw [upd_ne (fun z => by subst z; rw [hu] at q; exact ne _ (Option.some.inj q))]
    exact q⟩
  refine ⟨⟨S.nd, by rw [List.length_set, S.len], fun i x e => ?_⟩, ⟨⟨[], by simp⟩, fun a h n => absurd h n, fun b u hb q => by
    rw [upd_ne (fun z => hb (by rw [z]; exact ha))]
    exact q, t⟩⟩
  by_cases hi : j = i
  · subst hi
    have hl : j < M.length := by
      have := (List.getElem?_eq_some_iff.mp hj).1
      rw [S.len] at this
      exact this
    rw [List.getElem?_set_self hl] at e
    cases e
    exact ⟨a, hj, hm⟩
  · rw [List.getElem?_set_ne hi] at e
    obtain ⟨b, hb, ob⟩ := S.obj i x e
    refine ⟨b, hb, ob.nx' (fun _ _ q => q) t fun w q => ?_⟩
    rw [upd_ne (fun z => hi (nd_ix S.nd hj (by rw [← z]; exact hb)))]
    exact q
end

/-! ### the frame's names -/
abbrev Dl := List (Option AV)
structure EnvOk (K : PySem.W.Frag) (ad : List Addr) (H : Hp) (σ : L2.St) (δ : Dl) : Prop where
  len : σ.length = δ.length
  at_ : ∀ (i : Nat) (a : AV), δ[i]? = some (some a) → ∃ v, σ[i]? = some (some v) ∧ RepA K ad H a v
section
variable {K : PySem.W.Frag} {ad ad1 ad2 : List Addr} {H H1 H2 : Hp} {σ : L2.St} {δ : Dl}
theorem EnvOk.nx (n : Nx ad H ad2 H2) (e : EnvOk K ad H σ δ) : EnvOk K ad2 H2 σ δ := ⟨e.len, fun i a h => by
  obtain ⟨v, h1, h2⟩ := e.at_ i a h
  exact ⟨v, h1, h2.nx n⟩⟩
theorem EnvOk.set (e : EnvOk K ad H σ δ) {i : Nat} {a : AV} {v : V} (r : RepA K ad H a v) : EnvOk K ad H (σ.set i (some v)) (δ.set i (some a)) := ⟨by rw [List.length_set, List.length_set, e.len], fun j b h => by
  by_cases hi : i = j
  · subst hi
    have hl : i < δ.length := by
      have := (List.getElem?_eq_some_iff.mp h).1
      rw [List.length_set] at this
      exact this
    rw [List.getElem?_set_self hl] at h
    have : a = b := Option.some.inj (Option.some.inj h)
    subst this
    exact ⟨v, by rw [List.getElem?_set_self (by rw [e.len]; exact hl)], r⟩
  · rw [List.getElem?_set_ne hi] at h
    rw [List.getElem?_set_ne hi]
    exact e.at_ j b h⟩
/-- a name forgotten -/
theorem EnvOk.unset (e : EnvOk K ad H σ δ) {i : Nat} : EnvOk K ad H (σ.set i none) (δ.set i none) := ⟨by rw [List.length_set, List.length_set, e.len], fun j b h => by
  by_cases hi : i = j
  · subst hi
    have hl : i < δ.length := by
      have := (List.getElem?_eq_some_iff.mp h).1
      rw [List.length_set] at this
      exact this
    rw [List.getElem?_set_self hl] at h
    cases h
  · rw [List.getElem?_set_ne hi] at h
    rw [List.getElem?_set_ne hi]
    exact e.at_ j b h⟩
def wipeD (δ : Dl) : List Nat → Dl
  | [] => δ
  | v :: vs => (wipeD δ vs).set v none
theorem EnvOk.wipe (e : EnvOk K ad H σ δ) : ∀ vs : List Nat, EnvOk K ad H (L2.wipe σ vs) (wipeD δ vs)
  | [] => e
  | _ :: vs => (EnvOk.wipe e vs).unset
theorem envOk_start {as : List AV} {vs : List V} {N : List Str} (r : RepAs K ad H as vs) : EnvOk K ad H (L2.start N vs) (as.map some ++ List.replicate (N.length - as.length) none) := by
  have hl : ∀ {as : List AV} {vs : List V}, RepAs K ad H as vs → vs.length = as.length := by
    intro as
    induction as with
    | nil => intro vs h; rw [show vs = [] from h]; rfl
    | cons a as ih =>
      rintro vs ⟨x, r, rfl, _, h⟩
      rw [List.length_cons, List.length_cons, ih h]
  have hg : ∀ {as : List AV} {vs : List V} (i : Nat) (a : AV), RepAs K ad H as vs → as[i]? = some a → ∃ v, vs[i]? = some v ∧ RepA K ad H a v := by
    intro as
    induction as with
    | nil => intro vs i a _ e; simp at e
    | cons b as ih =>
      rintro vs i a ⟨x, r, rfl, h1, h⟩ e
      cases i with
      | zero =>
        have : b = a := Option.some.inj e
        subst this
        exact ⟨x, rfl, h1⟩
      | succ i => exact ih i a h e
  refine ⟨by unfold L2.start; simp only [List.length_append, List.length_map, List.length_replicate, hl r], fun i a h => ?_⟩
  by_cases hi : i < as.length
  · rw [List.getElem?_append_left (by rw [List.length_map]; exact hi), List.getElem?_map] at h
    have h2 : as[i]? = some a := by
      rw [List.getElem?_eq_getElem hi] at h ⊢
      exact Option.some.inj h ▸ rfl
    obtain ⟨v, hv, rv⟩ := hg i a r h2
    refine ⟨v, ?_, rv⟩
    unfold L2.start
    rw [List.getElem?_append_left (by rw [List.length_map, hl r]; exact hi), List.getElem?_map, hv]
    rfl
  · rw [List.getElem?_append_right (by rw [List.length_map]; omega), List.getElem?_replicate] at h
    split at h <;> cases h
end

/-! ### what a piece of syntax does, whatever the rule -/
def wE (X : Cx) (e : Expr) : TE := fun σ H Q => ∃ t, PE X e t ∧ t σ H Q
theorem wE_ok {X : Cx} {e : Expr} : PE X e (wE X e) := ⟨fun pins s σ H Q I ⟨t, h, q⟩ => h.run pins s σ H Q I q⟩
def wT (X : Cx) (e : Expr) : TT := fun σ H Q => ∃ t, PT X e t ∧ t σ H Q
theorem wT_ok {X : Cx} {e : Expr} : PT X e (wT X e) := ⟨fun pins s σ H Q I ⟨t, h, q⟩ => h.run pins s σ H Q I q⟩
def wW (X : Cx) (e : Expr) : TT := fun σ H Q => ∃ t, PW X e t ∧ t σ H Q
theorem wW_ok {X : Cx} {e : Expr} : PW X e (wW X e) := ⟨fun wh pins s σ H Q I ⟨t, h, q⟩ => h.run wh pins s σ H Q I q⟩
def wA (X : Cx) (e : List Expr) : TA := fun σ H Q => ∃ t, PA X e t ∧ t σ H Q
theorem wA_ok {X : Cx} {e : List Expr} : PA X e (wA X e) := ⟨fun pos pins s σ H Q I ⟨t, h, q⟩ => h.run pos pins s σ H Q I q⟩
def wSs (X : Cx) (e : List Stmt) : TS := fun D σ H => ∃ t, PSs X e t ∧ t D σ H
theorem wSs_ok {X : Cx} {e : List Stmt} : PSs X e (wSs X e) := ⟨fun pins s σ H D I ⟨t, h, q⟩ => h.run pins s σ H D I q⟩
def wS (X : Cx) (e : Stmt) : TS := fun D σ H => ∃ t, PS X e t ∧ t D σ H
theorem wS_ok {X : Cx} {e : Stmt} : PS X e (wS X e) := ⟨fun pins s σ H D I ⟨t, h, q⟩ => h.run pins s σ H D I q⟩
def wG (X : Cx) (e : Expr) : TG := fun v σ H Q => ∃ t, PG X e t ∧ t v σ H Q
theorem wG_ok {X : Cx} {e : Expr} : PG X e (wG X e) := ⟨fun pins s σ H v u Q I r ⟨t, h, q⟩ => h.run pins s σ H v u Q I r q⟩
def wTs (X : Cx) (e : List Expr) : TT := fun σ H Q => ∃ t, PTs X e t ∧ t σ H Q
theorem wTs_ok {X : Cx} {e : List Expr} : PTs X e (wTs X e) := ⟨fun pins s σ H Q I ⟨t, h, q⟩ => h.run pins s σ H Q I q⟩
def wK (X : Cx) (e : List Keyword) : TA := fun σ H Q => ∃ t, PK X e t ∧ t σ H Q
theorem wK_ok {X : Cx} {e : List Keyword} : PK X e (wK X e) := ⟨fun pos pins s σ H Q I ⟨t, h, q⟩ => h.run pos pins s σ H Q I q⟩
def wO (X : Cx) (f : Value → Value → Sem Value) : R2 := fun x y H Q => ∃ r, OpR X f r ∧ r x y H Q
theorem wO_ok {X : Cx} {f : Value → Value → Sem Value} : OpR X f (wO X f) := fun pins s σ H x y v u Q I rx ry ⟨r, h, q⟩ => h pins s σ H x y v u Q I rx ry q

/-! ### where a piece of syntax stands -/
structure SC where
  P : Program
  w : World
  K : PySem.W.Frag
  mg : Str → Option Value
  base : Heap
  N : List Str
  sc : Scope
  fn : Str → Bool
  k : Nat
  okE : Value → Str → Prop := fun _ _ => True
structure Dyn (c : SC) where
  A : Around
  s0 : Shared
  H0 : Hp
  env : Env
  outer : List Env
  stack : List Env
  ex : List Addr
  pn : List (Addr × Obj)
  xe : Value → Shared → Prop
  sc : env.scope = c.sc
  room : Room c.k A
  pass : PassesOwn (model c.P c.w) A env xe
  en : c.okE env.code env.qual
@[reducible] def Dyn.cx {c : SC} (y : Dyn c) : Cx where
  prog := c.P
  w := c.w
  K := c.K
  mg := c.mg
  base := c.base
  A := y.A
  N := c.N
  s_0 := y.s0
  H_0 := y.H0
  env := y.env
  outer := y.outer
  stack := y.stack
  ex := y.ex
  fn := c.fn
  calm := true
  pn := y.pn
  xe := y.xe
abbrev AQ := AV → List MO → Prop
/-- an expression -/
def EvX (c : SC) (δ : Dl) (M : List MO) (e : Expr) (Post : AQ) : Prop :=
  ∀ (y : Dyn c) (σ : L2.St) (H : Hp) (ad : List Addr), EnvOk c.K ad H σ δ → StOk c.K ad H M → ∀ Q : VK,
    (∀ v H2 ad2 a M2, Nx ad H ad2 H2 → StOk c.K ad2 H2 M2 → RepA c.K ad2 H2 a v → Post a M2 → Q v H2) → wE y.cx e σ H Q
/-- an expression that makes a new list -/
def EvF (c : SC) (δ : Dl) (M : List MO) (e : Expr) (Post : List D → List MO → Prop) : Prop :=
  ∀ (y : Dyn c) (σ : L2.St) (H : Hp) (ad : List Addr), EnvOk c.K ad H σ δ → StOk c.K ad H M → ∀ Q : VK,
    (∀ p xs H2 ad2 ds M2, Nx ad H ad2 H2 → StOk c.K ad2 H2 M2 → H p = none → p ∉ ad2 → H2 p = some (.lst xs) → Reps c.K H2 ds xs → Post ds M2 → Q (.ref p) H2) → wE y.cx e σ H Q
/-- a test -/
def EvT (c : SC) (δ : Dl) (M : List MO) (e : Expr) (Post : Bool → List MO → Prop) : Prop :=
  ∀ (y : Dyn c) (σ : L2.St) (H : Hp) (ad : List Addr), EnvOk c.K ad H σ δ → StOk c.K ad H M → ∀ Q : Bool → Hp → Prop,
    (∀ b H2 ad2 M2, Nx ad H ad2 H2 → StOk c.K ad2 H2 M2 → Post b M2 → Q b H2) → wT y.cx e σ H Q
def EvW (c : SC) (δ : Dl) (M : List MO) (e : Expr) (Post : Bool → List MO → Prop) : Prop :=
  ∀ (y : Dyn c) (σ : L2.St) (H : Hp) (ad : List Addr), EnvOk c.K ad H σ δ → StOk c.K ad H M → ∀ Q : Bool → Hp → Prop,
    (∀ b H2 ad2 M2, Nx ad H ad2 H2 → StOk c.K ad2 H2 M2 → Post b M2 → Q b H2) → wW y.cx e σ H Q
/-- a clause's tests -/
def EvTs (c : SC) (δ : Dl) (M : List MO) (e : List Expr) (Post : Bool → List MO → Prop) : Prop :=
  ∀ (y : Dyn c) (σ : L2.St) (H : Hp) (ad : List Addr), EnvOk c.K ad H σ δ → StOk c.K ad H M → ∀ Q : Bool → Hp → Prop,
    (∀ b H2 ad2 M2, Nx ad H ad2 H2 → StOk c.K ad2 H2 M2 → Post b M2 → Q b H2) → wTs y.cx e σ H Q
/-- arguments -/
def EvA (c : SC) (δ : Dl) (M : List MO) (es : List Expr) (Post : List AV → List MO → Prop) : Prop :=
  ∀ (y : Dyn c) (σ : L2.St) (H : Hp) (ad : List Addr), EnvOk c.K ad H σ δ → StOk c.K ad H M → ∀ Q : List V → Hp → Prop,
    (∀ vs H2 ad2 as M2, Nx ad H ad2 H2 → StOk c.K ad2 H2 M2 → RepAs c.K ad2 H2 as vs → Post as M2 → Q vs H2) → wA y.cx es σ H Q
def EvK (c : SC) (δ : Dl) (M : List MO) (es : List Keyword) (Post : List AV → List MO → Prop) : Prop :=
  ∀ (y : Dyn c) (σ : L2.St) (H : Hp) (ad : List Addr), EnvOk c.K ad H σ δ → StOk c.K ad H M → ∀ Q : List V → Hp → Prop,
    (∀ vs H2 ad2 as M2, Nx ad H ad2 H2 → StOk c.K ad2 H2 M2 → RepAs c.K ad2 H2 as vs → Post as M2 → Q vs H2) → wK y.cx es σ H Q
/-- what is wanted behind statements -/
structure AE where
  nx : Dl → List MO → Prop
  rt : AQ
  bk : Dl → List MO → Prop := fun _ _ => False
  ct : Dl → List MO → Prop := fun _ _ => False
structure EndsOk (K : PySem.W.Frag) (ad : List Addr) (H : Hp) (D : AE) (E : Ends) : Prop where
  nx : ∀ σ2 H2 ad2 δ2 M2, Nx ad H ad2 H2 → EnvOk K ad2 H2 σ2 δ2 → StOk K ad2 H2 M2 → D.nx δ2 M2 → E.nx σ2 H2
  rt : ∀ v H2 ad2 a M2, Nx ad H ad2 H2 → StOk K ad2 H2 M2 → RepA K ad2 H2 a v → D.rt a M2 → E.rt v H2
  bk : ∀ σ2 H2 ad2 δ2 M2, Nx ad H ad2 H2 → EnvOk K ad2 H2 σ2 δ2 → StOk K ad2 H2 M2 → D.bk δ2 M2 → E.bk σ2 H2
  ct : ∀ σ2 H2 ad2 δ2 M2, Nx ad H ad2 H2 → EnvOk K ad2 H2 σ2 δ2 → StOk K ad2 H2 M2 → D.ct δ2 M2 → E.ct σ2 H2
theorem EndsOk.on {K : PySem.W.Frag} {ad ad1 : List Addr} {H H1 : Hp} {D : AE} {E : Ends} (n : Nx ad H ad1 H1) (e : EndsOk K ad H D E) : EndsOk K ad1 H1 D E :=
  ⟨fun _ _ _ _ _ m => e.nx _ _ _ _ _ (n.trans m), fun _ _ _ _ _ m => e.rt _ _ _ _ _ (n.trans m), fun _ _ _ _ _ m => e.bk _ _ _ _ _ (n.trans m), fun _ _ _ _ _ m => e.ct _ _ _ _ _ (n.trans m)⟩
def Run (c : SC) (δ : Dl) (M : List MO) (sts : List Stmt) (D : AE) : Prop :=
  ∀ (y : Dyn c) (σ : L2.St) (H : Hp) (ad : List Addr), EnvOk c.K ad H σ δ → StOk c.K ad H M → ∀ E : Ends, EndsOk c.K ad H D E → wSs y.cx sts E σ H
def Run1 (c : SC) (δ : Dl) (M : List MO) (st : Stmt) (D : AE) : Prop :=
  ∀ (y : Dyn c) (σ : L2.St) (H : Hp) (ad : List Addr), EnvOk c.K ad H σ δ → StOk c.K ad H M → ∀ E : Ends, EndsOk c.K ad H D E → wS y.cx st E σ H
/-- a def's promise in these words -/
abbrev ASp := List AV → List MO → AQ → Prop
def spOf (K : PySem.W.Frag) (n : Nat) (A : ASp) : Sp := fun vs H Q _ => vs.length = n ∧ ∃ ad as M Post, StOk K ad H M ∧ RepAs K ad H as vs ∧ A as M Post ∧
  ∀ v H2 ad2 a M2, Nx ad H ad2 H2 → StOk K ad2 H2 M2 → RepA K ad2 H2 a v → Post a M2 → Q v H2
end Fx

/-! Fx, part B: rules for expressions and tests. -/
namespace Fx
open PySem L2
section
variable {c : SC} {δ : Dl} {M : List MO} {Post Post2 : AQ} {a b e t : Expr} {es : List Expr} {pos p p1 p2 : Pos} {j : Nat} {x : Str}

theorem EvX.imp (h : EvX c δ M e Post) (k : ∀ a M2, Post a M2 → Post2 a M2) : EvX c δ M e Post2 := fun y σ H ad he hs Q q =>
  h y σ H ad he hs Q fun v H2 ad2 a M2 n s r p => q v H2 ad2 a M2 n s r (k a M2 p)
theorem EvT.imp {B B2 : Bool → List MO → Prop} (h : EvT c δ M e B) (k : ∀ b M2, B b M2 → B2 b M2) : EvT c δ M e B2 := fun y σ H ad he hs Q q =>
  h y σ H ad he hs Q fun b H2 ad2 M2 n s p => q b H2 ad2 M2 n s (k b M2 p)
theorem EvF.imp {B B2 : List D → List MO → Prop} (h : EvF c δ M e B) (k : ∀ b M2, B b M2 → B2 b M2) : EvF c δ M e B2 := fun y σ H ad he hs Q q =>
  h y σ H ad he hs Q fun p xs H2 ad2 ds M2 n s f1 f2 f3 f4 z => q p xs H2 ad2 ds M2 n s f1 f2 f3 f4 (k ds M2 z)
/-- a new list that nobody will change -/
theorem x_F (h : EvF c δ M e fun ds M2 => Post (.ls ds) M2) : EvX c δ M e Post := fun y σ H ad he hs Q q =>
  h y σ H ad he hs Q fun p xs H2 ad2 ds M2 n s f1 f2 f3 f4 z => q (.ref p) H2 ad2 (.ls ds) M2 n s ⟨p, xs, rfl, ⟨f3, f2⟩, f4⟩ z

/-! ### names, constants -/
theorem x_var (i : Nat) {a : AV} (hd : δ[i]? = some (some a)) (hN : c.N[i]? = some x) (hv : Vis c.sc x) (h : Post a M) (hd1 : (x == ("__debug__" : Str)) = false := by decide) (hd2 : (x == ("__classdict__" : Str)) = false := by decide) :
    EvX c δ M (.Name x pos) Post := fun y σ H ad he hs Q q => by
  obtain ⟨v, e1, r⟩ := he.at_ i a hd
  exact ⟨_, pe_var (X := y.cx) (i := i) hN (by rw [show y.cx.env.scope = c.sc from y.sc]; exact hv) hd1 hd2, v, e1, q v H ad a M Nx.refl hs r h⟩
theorem x_int {i : Int} (h : Post (.dat (.int i)) M) : EvX c δ M (.Constant (.int i) j pos) Post := fun y σ H ad he hs Q q => ⟨_, pe_int, q _ H ad _ M Nx.refl hs (show RepA _ _ _ (.dat (.int i)) _ from rfl) h⟩
theorem x_bl {i : Bool} (h : Post (.dat (.bl i)) M) : EvX c δ M (.Constant (.bool i) j pos) Post := fun y σ H ad he hs Q q => ⟨_, pe_bl, q _ H ad _ M Nx.refl hs (show RepA _ _ _ (.dat (.bl i)) _ from rfl) h⟩
theorem x_non (h : Post (.dat .non) M) : EvX c δ M (.Constant .none j pos) Post := fun y σ H ad he hs Q q => ⟨_, pe_non, q _ H ad _ M Nx.refl hs (show RepA _ _ _ (.dat .non) _ from rfl) h⟩
theorem x_str {i : Str} (h : Post (.dat (.str i)) M) : EvX c δ M (.Constant (.str i) j pos) Post := fun y σ H ad he hs Q q => ⟨_, pe_str, q _ H ad _ M Nx.refl hs (show RepA _ _ _ (.dat (.str i)) _ from rfl) h⟩
/-- a constant of the module -/
theorem x_glob {d : D} {u : Value} {v : V} (hg : c.sc.names.lookup x = some .globalImplicit) (hm : c.mg x = some u) (r : RelV v u) (hd : ∀ H, Rep c.K H d v) (h : Post (.dat d) M) (hd1 : (x == ("__debug__" : Str)) = false := by decide) :
    EvX c δ M (.Name x pos) Post := fun y σ H ad he hs Q q => by
  refine ⟨_, pe_glob (X := y.cx) (v := v) (u := u) ?_ hm r hd1, q v H ad (.dat d) M Nx.refl hs (hd H) h⟩
  show y.env.scope.names.lookup x = some .globalImplicit
  rw [y.sc]
  exact hg

/-! ### operators -/
def BinR (c : SC) (f : Value → Value → Sem Value) (x y : AV) (M : List MO) (Post : AQ) : Prop :=
  ∀ (z : Dyn c) (H : Hp) (ad : List Addr), StOk c.K ad H M → ∀ vx vy, RepA c.K ad H x vx → RepA c.K ad H y vy → ∀ Q : VK,
    (∀ v H2 ad2 a M2, Nx ad H ad2 H2 → StOk c.K ad2 H2 M2 → RepA c.K ad2 H2 a v → Post a M2 → Q v H2) → wO z.cx f vx vy H Q
def CmpR (c : SC) (op : CmpOp) (x y : AV) (M : List MO) (B : Bool → List MO → Prop) : Prop :=
  ∀ (z : Dyn c) (H : Hp) (ad : List Addr), StOk c.K ad H M → ∀ vx vy, RepA c.K ad H x vx → RepA c.K ad H y vy → ∀ Q : VK,
    (∀ b H2 ad2 M2, Nx ad H ad2 H2 → StOk c.K ad2 H2 M2 → B b M2 → Q (.bl b) H2) → wO z.cx (compareOp op) vx vy H Q
theorem x_bin {op : Operator} (h : EvX c δ M a fun x M1 => EvX c δ M1 b fun y M2 => BinR c (binaryOp op) x y M2 Post) : EvX c δ M (.BinOp a op b pos) Post := fun y σ H ad he hs Q q =>
  ⟨_, pe_op wO_ok wE_ok wE_ok, h y σ H ad he hs _ fun v H1 ad1 x M1 n1 s1 r1 p1 => p1 y σ H1 ad1 (he.nx n1) s1 _ fun u H2 ad2 z M2 n2 s2 r2 p2 =>
    p2 y H2 ad2 s2 v u (r1.nx n2) r2 Q fun w H3 ad3 a3 M3 n3 s3 r3 p3 => q w H3 ad3 a3 M3 ((n1.trans n2).trans n3) s3 r3 p3⟩
theorem x_cmp {op : CmpOp} (h : EvX c δ M a fun x M1 => EvX c δ M1 b fun y M2 => CmpR c op x y M2 fun k M3 => Post (.dat (.bl k)) M3) (hm : behindInMarks op b = false) : EvX c δ M (.Compare a [op] [b] pos) Post := fun y σ H ad he hs Q q =>
  ⟨_, pe_cmpR wO_ok wE_ok wE_ok hm, h y σ H ad he hs _ fun v H1 ad1 x M1 n1 s1 r1 p1 => p1 y σ H1 ad1 (he.nx n1) s1 _ fun u H2 ad2 z M2 n2 s2 r2 p2 =>
    p2 y H2 ad2 s2 v u (r1.nx n2) r2 Q fun k H3 ad3 M3 n3 s3 p3 => q _ H3 ad3 _ M3 ((n1.trans n2).trans n3) s3 (show RepA _ _ _ (.dat (.bl k)) _ from rfl) p3⟩
theorem t_cmp {op : CmpOp} {B : Bool → List MO → Prop} (h : EvX c δ M a fun x M1 => EvX c δ M1 b fun y M2 => CmpR c op x y M2 B) (hm : behindInMarks op b = false) : EvT c δ M (.Compare a [op] [b] pos) B := fun y σ H ad he hs Q q =>
  ⟨_, pt_cmpR wO_ok wE_ok wE_ok hm, h y σ H ad he hs _ fun v H1 ad1 x M1 n1 s1 r1 p1 => p1 y σ H1 ad1 (he.nx n1) s1 _ fun u H2 ad2 z M2 n2 s2 r2 p2 =>
    p2 y H2 ad2 s2 v u (r1.nx n2) r2 _ fun k H3 ad3 M3 n3 s3 p3 => ⟨k, rfl, q _ H3 ad3 M3 ((n1.trans n2).trans n3) s3 p3⟩⟩
theorem x_chain {op op2 : CmpOp} {e : Expr} (h : EvX c δ M a fun x M1 => EvX c δ M1 b fun y M2 => CmpR c op x y M2 fun k M3 => (k = true → EvX c δ M3 e fun z M4 => CmpR c op2 y z M4 fun k M5 => Post (.dat (.bl k)) M5) ∧ (k = false → Post (.dat (.bl false)) M3))
    (hm : lastMarks [op, op2] [b, e] = false) : EvX c δ M (.Compare a [op, op2] [b, e] pos) Post := fun y σ H ad he hs Q q =>
  ⟨_, pe_chain wO_ok wO_ok wE_ok wE_ok wE_ok hm, h y σ H ad he hs _ fun v H1 ad1 x M1 n1 s1 r1 p1 => p1 y σ H1 ad1 (he.nx n1) s1 _ fun u H2 ad2 z M2 n2 s2 r2 p2 =>
    p2 y H2 ad2 s2 v u (r1.nx n2) r2 _ fun k H3 ad3 M3 n3 s3 p3 => ⟨k, rfl, by
      have n13 := (n1.trans n2).trans n3
      cases k with
      | false => exact iteF (q _ H3 ad3 _ M3 n13 s3 (show RepA _ _ _ (.dat (.bl false)) _ from rfl) (p3.2 rfl))
      | true =>
        refine iteT (p3.1 rfl y σ H3 ad3 (he.nx n13) s3 _ fun w H4 ad4 a4 M4 n4 s4 r4 p4 => ?_)
        exact p4 y H4 ad4 s4 u w ((r2.nx n3).nx n4) r4 Q fun k5 H5 ad5 M5 n5 s5 p5 => q _ H5 ad5 _ M5 ((n13.trans n4).trans n5) s5 (show RepA _ _ _ (.dat (.bl k5)) _ from rfl) p5⟩⟩
theorem t_chain {op op2 : CmpOp} {e : Expr} {B : Bool → List MO → Prop} (h : EvX c δ M a fun x M1 => EvX c δ M1 b fun y M2 => CmpR c op x y M2 fun k M3 => (k = true → EvX c δ M3 e fun z M4 => CmpR c op2 y z M4 B) ∧ (k = false → B false M3))
    (hm : lastMarks [op, op2] [b, e] = false) : EvT c δ M (.Compare a [op, op2] [b, e] pos) B := fun y σ H ad he hs Q q =>
  ⟨_, pt_chain wO_ok wO_ok wE_ok wE_ok wE_ok hm, h y σ H ad he hs _ fun v H1 ad1 x M1 n1 s1 r1 p1 => p1 y σ H1 ad1 (he.nx n1) s1 _ fun u H2 ad2 z M2 n2 s2 r2 p2 =>
    p2 y H2 ad2 s2 v u (r1.nx n2) r2 _ fun k H3 ad3 M3 n3 s3 p3 => ⟨k, rfl, by
      have n13 := (n1.trans n2).trans n3
      cases k with
      | false => exact iteF ⟨false, rfl, q _ H3 ad3 M3 n13 s3 (p3.2 rfl)⟩
      | true =>
        refine iteT (p3.1 rfl y σ H3 ad3 (he.nx n13) s3 _ fun w H4 ad4 a4 M4 n4 s4 r4 p4 => ?_)
        exact p4 y H4 ad4 s4 u w ((r2.nx n3).nx n4) r4 _ fun k5 H5 ad5 M5 n5 s5 p5 => ⟨k5, rfl, q _ H5 ad5 M5 ((n13.trans n4).trans n5) s5 p5⟩⟩⟩

/-! ### tests -/
variable {B : Bool → List MO → Prop}
theorem t_val (h : EvX c δ M e fun a M1 => ∃ k, a = .dat (.bl k) ∧ B k M1) (he : ∀ env whole, isTrue e env whole = (do let v ← whole; standAt e.pos; holding [v] (truthy v))) : EvT c δ M e B := fun y σ H ad hn hs Q q =>
  ⟨_, pt_val wE_ok (he y.env), h y σ H ad hn hs _ fun v H1 ad1 x M1 n1 s1 r1 ⟨k, ex, p1⟩ => by
    subst ex
    exact ⟨k, r1, q k H1 ad1 M1 n1 s1 p1⟩⟩
/-- what is true of a value -/
def TruA (M : List MO) : AV → Bool → Prop
  | .dat .non, k => k = false
  | .dat (.bl b), k => k = b
  | .dat (.int i), k => k = (i != 0)
  | .dat (.str x), k => x.length ≤ 1000000 ∧ k = (x.length != 0)
  | .dat (.tup ds), k => k = !ds.isEmpty
  | .ls ds, k => k = !ds.isEmpty
  | .mut j, k => ∃ ds, M[j]? = some (.lst ds) ∧ k = !ds.isEmpty
  | .la as, k => k = !as.isEmpty
  | .ta as, k => k = !as.isEmpty
  | .dat (.lis ds), k => k = !ds.isEmpty
  | .scr ns, k => k = !ns.isEmpty
  | .tx ds, k => k = !ds.isEmpty
  | .exc _ _, _ => False
  | .fn _, _ => False
theorem reps_empty {K : PySem.W.Frag} {H : Hp} {ds : List D} {vs : List V} (r : Reps K H ds vs) : (!vs.isEmpty) = !ds.isEmpty := by
  have := r.length
  cases ds <;> cases vs <;> first | rfl | (simp at this)
theorem repAs_length {K : PySem.W.Frag} {ad : List Addr} {H : Hp} : ∀ {as : List AV} {vs : List V}, RepAs K ad H as vs → vs.length = as.length
  | [], _, h => by rw [show _ = [] from h]; rfl
  | _ :: _, _, ⟨x, r, e, _, h2⟩ => by rw [e, List.length_cons, List.length_cons, repAs_length h2]
theorem tru_of {K : PySem.W.Frag} {ad : List Addr} {H : Hp} (S : StOk K ad H M) : ∀ {a : AV} {v : V} {k : Bool}, RepA K ad H a v → TruA M a k → TruV K v H k
  | .dat .non, _, _, r, h => by rw [show _ = V.non from r]; exact h
  | .dat (.bl b), _, _, r, h => by rw [show _ = V.bl b from r]; exact h
  | .dat (.int i), _, _, r, h => by rw [show _ = V.int i from r]; exact h
  | .dat (.str x), _, _, r, h => by
    rw [show _ = V.str x from r]
    refine ⟨Nat.le_trans h.1 (by decide), h.2.trans ?_⟩
    cases q : x.length with
    | zero => rfl
    | succ n => simp <;> omega
  | .dat (.tup ds), _, _, ⟨a, xs, e, q, r⟩, h => by
    subst e
    exact .inr (.inl ⟨xs, q, h.trans (reps_empty r).symm⟩)
  | .ls ds, _, _, ⟨a, xs, e, q, r⟩, h => by
    subst e
    exact .inl ⟨xs, q.sq, h.trans (reps_empty r).symm⟩
  | .mut j, _, _, ⟨a, q, e⟩, ⟨ds, hm, h⟩ => by
    subst e
    obtain ⟨a2, h2, xs, h3, r⟩ := S.obj j _ hm
    rw [q] at h2
    cases h2
    exact .inl ⟨xs, .inl (.inl h3), h.trans (reps_empty r).symm⟩
  | .dat (.lis ds), _, _, ⟨a, xs, o, e, q, r⟩, h => by
    subst e
    exact .inl ⟨xs, .inl (.inr ⟨o, q⟩), h.trans (reps_empty r).symm⟩
  | .ta as, _, _, ⟨a, xs, e, q, r⟩, h => by
    subst e
    refine .inr (.inl ⟨xs, q, h.trans ?_⟩)
    have := repAs_length r
    cases as <;> cases xs <;> first | rfl | (simp at this)
  | .la as, _, _, ⟨a, xs, e, q, r⟩, h => by
    subst e
    refine .inl ⟨xs, q.sq, h.trans ?_⟩
    have := repAs_length r
    cases as <;> cases xs <;> first | rfl | (simp at this)
  | .scr ns, _, _, ⟨a, e, q⟩, h => by
    subst e
    refine .inl ⟨_, q.sq, h.trans ?_⟩
    cases ns <;> rfl
  | .tx ds, _, _, ⟨a, xs, e, q, r⟩, h => by
    subst e
    exact .inr (.inl ⟨xs, q.sq, h.trans (reps_empty r).symm⟩)
  | .exc _ _, _, _, _, h => h.elim
  | .fn _, _, _, _, h => h.elim
theorem t_tru (h : EvX c δ M e fun a M1 => ∃ k, TruA M1 a k ∧ B k M1) (he : ∀ env whole, isTrue e env whole = (do let v ← whole; standAt e.pos; holding [v] (truthy v))) : EvT c δ M e B := fun y σ H ad hn hs Q q =>
  ⟨_, pt_truth wE_ok (he y.env), h y σ H ad hn hs _ fun v H1 ad1 x M1 n1 s1 r1 ⟨k, hk, p1⟩ => ⟨k, tru_of s1 r1 hk, q k H1 ad1 M1 n1 s1 p1⟩⟩
theorem t_not (h : EvT c δ M e fun k M1 => B (!k) M1) : EvT c δ M (.UnaryOp .Not e pos) B := fun y σ H ad he hs Q q =>
  ⟨_, pt_not wT_ok, h y σ H ad he hs _ fun k H1 ad1 M1 n1 s1 p1 => q _ H1 ad1 M1 n1 s1 p1⟩
theorem t_W (h : EvW c δ M e B) : EvT c δ M e B := fun y σ H ad he hs Q q => ⟨_, wW_ok.pt, h y σ H ad he hs Q q⟩
theorem w_and1 (h : EvT c δ M a B) : EvW c δ M (.BoolOp .And [a] pos) B := fun y σ H ad he hs Q q => ⟨_, pw_and1 wT_ok, h y σ H ad he hs Q q⟩
theorem w_or1 (h : EvT c δ M a B) : EvW c δ M (.BoolOp .Or [a] pos) B := fun y σ H ad he hs Q q => ⟨_, pw_or1 wT_ok, h y σ H ad he hs Q q⟩
theorem w_and (h : EvT c δ M a fun k M1 => (k = true → EvW c δ M1 (.BoolOp .And (b :: es) pos) B) ∧ (k = false → B false M1)) : EvW c δ M (.BoolOp .And (a :: b :: es) pos) B := fun y σ H ad he hs Q q =>
  ⟨_, pw_and wT_ok wW_ok, h y σ H ad he hs _ fun k H1 ad1 M1 n1 s1 p1 => by
    cases k with
    | true => exact iteT (p1.1 rfl y σ H1 ad1 (he.nx n1) s1 Q fun k2 H2 ad2 M2 n2 s2 p2 => q k2 H2 ad2 M2 (n1.trans n2) s2 p2)
    | false => exact iteF (q false H1 ad1 M1 n1 s1 (p1.2 rfl))⟩
theorem w_or (h : EvT c δ M a fun k M1 => (k = true → B true M1) ∧ (k = false → EvW c δ M1 (.BoolOp .Or (b :: es) pos) B)) : EvW c δ M (.BoolOp .Or (a :: b :: es) pos) B := fun y σ H ad he hs Q q =>
  ⟨_, pw_or wT_ok wW_ok, h y σ H ad he hs _ fun k H1 ad1 M1 n1 s1 p1 => by
    cases k with
    | false => exact iteF (p1.2 rfl y σ H1 ad1 (he.nx n1) s1 Q fun k2 H2 ad2 M2 n2 s2 p2 => q k2 H2 ad2 M2 (n1.trans n2) s2 p2)
    | true => exact iteT (q true H1 ad1 M1 n1 s1 (p1.1 rfl))⟩
/-- as values -/
theorem x_one {op : BoolOp} (h : EvX c δ M a Post) : EvX c δ M (.BoolOp op [a] pos) Post := fun y σ H ad he hs Q q => ⟨_, pe_one wE_ok, h y σ H ad he hs Q q⟩
theorem x_and (h : EvX c δ M a fun x M1 => ∃ k, x = .dat (.bl k) ∧ (k = true → EvX c δ M1 (.BoolOp .And (b :: es) pos) Post) ∧ (k = false → Post (.dat (.bl false)) M1)) : EvX c δ M (.BoolOp .And (a :: b :: es) pos) Post := fun y σ H ad he hs Q q =>
  ⟨_, pe_and wE_ok wE_ok, h y σ H ad he hs _ fun v H1 ad1 x M1 n1 s1 r1 ⟨k, ex, p1⟩ => by
    subst ex
    refine ⟨k, r1, ?_⟩
    cases k with
    | true => exact iteT (p1.1 rfl y σ H1 ad1 (he.nx n1) s1 Q fun v2 H2 ad2 a2 M2 n2 s2 r2 p2 => q v2 H2 ad2 a2 M2 (n1.trans n2) s2 r2 p2)
    | false => exact iteF (q _ H1 ad1 _ M1 n1 s1 (show RepA _ _ _ (.dat (.bl false)) _ from rfl) (p1.2 rfl))⟩
theorem x_or (h : EvX c δ M a fun x M1 => ∃ k, x = .dat (.bl k) ∧ (k = true → Post (.dat (.bl true)) M1) ∧ (k = false → EvX c δ M1 (.BoolOp .Or (b :: es) pos) Post)) : EvX c δ M (.BoolOp .Or (a :: b :: es) pos) Post := fun y σ H ad he hs Q q =>
  ⟨_, pe_or wE_ok wE_ok, h y σ H ad he hs _ fun v H1 ad1 x M1 n1 s1 r1 ⟨k, ex, p1⟩ => by
    subst ex
    refine ⟨k, r1, ?_⟩
    cases k with
    | false => exact iteF (p1.2 rfl y σ H1 ad1 (he.nx n1) s1 Q fun v2 H2 ad2 a2 M2 n2 s2 r2 p2 => q v2 H2 ad2 a2 M2 (n1.trans n2) s2 r2 p2)
    | true => exact iteT (q _ H1 ad1 _ M1 n1 s1 (show RepA _ _ _ (.dat (.bl true)) _ from rfl) (p1.1 rfl))⟩
theorem x_not (h : EvX c δ M a fun x M1 => ∃ k, TruA M1 x k ∧ Post (.dat (.bl (!k))) M1) : EvX c δ M (.UnaryOp .Not a pos) Post := fun y σ H ad he hs Q q =>
  ⟨_, pe_notT wE_ok, h y σ H ad he hs _ fun v H1 ad1 x M1 n1 s1 r1 ⟨k, hk, p1⟩ => ⟨k, tru_of s1 r1 hk, q _ H1 ad1 _ M1 n1 s1 (show RepA _ _ _ (.dat (.bl (!k))) _ from rfl) p1⟩⟩
theorem x_neg (h : EvX c δ M a fun x M1 => ∃ i, x = .dat (.int i) ∧ Post (.dat (.int (-i))) M1) : EvX c δ M (.UnaryOp .USub a pos) Post := fun y σ H ad he hs Q q =>
  ⟨_, pe_un un_neg wE_ok, h y σ H ad he hs _ fun v H1 ad1 x M1 n1 s1 r1 ⟨i, ex, p1⟩ => by
    subst ex
    exact ⟨i, r1, q _ H1 ad1 _ M1 n1 s1 (show RepA _ _ _ (.dat (.int (-i))) _ from rfl) p1⟩⟩
theorem x_if (h : EvT c δ M t fun k M1 => (k = true → EvX c δ M1 a Post) ∧ (k = false → EvX c δ M1 b Post)) : EvX c δ M (.IfExp t a b pos) Post := fun y σ H ad he hs Q q =>
  ⟨_, pe_ifExp wT_ok wE_ok wE_ok, h y σ H ad he hs _ fun k H1 ad1 M1 n1 s1 p1 => by
    cases k with
    | true => exact iteT (p1.1 rfl y σ H1 ad1 (he.nx n1) s1 Q fun v2 H2 ad2 a2 M2 n2 s2 r2 p2 => q v2 H2 ad2 a2 M2 (n1.trans n2) s2 r2 p2)
    | false => exact iteF (p1.2 rfl y σ H1 ad1 (he.nx n1) s1 Q fun v2 H2 ad2 a2 M2 n2 s2 r2 p2 => q v2 H2 ad2 a2 M2 (n1.trans n2) s2 r2 p2)⟩

/-! ### arguments, displays -/
theorem a_nil {Pa : List AV → List MO → Prop} (h : Pa [] M) : EvA c δ M [] Pa := fun y σ H ad he hs Q q => ⟨_, pa_nil, q [] H ad [] M Nx.refl hs rfl h⟩
theorem a_cons {Pa : List AV → List MO → Prop} (h : EvX c δ M e fun x M1 => EvA c δ M1 es fun xs M2 => Pa (x :: xs) M2) (hs1 : ∀ env, starEach (e :: es) env = (false, eval e env) :: starEach es env) : EvA c δ M (e :: es) Pa := fun y σ H ad he hs Q q =>
  ⟨_, pa_cons wE_ok wA_ok (hs1 y.env), h y σ H ad he hs _ fun v H1 ad1 x M1 n1 s1 r1 p1 => p1 y σ H1 ad1 (he.nx n1) s1 _ fun vs H2 ad2 xs M2 n2 s2 r2 p2 => q _ H2 ad2 (x :: xs) M2 (n1.trans n2) s2 ⟨v, vs, rfl, r1.nx n2, r2⟩ p2⟩
theorem k_nil {Pa : List AV → List MO → Prop} (h : Pa [] M) : EvK c δ M [] Pa := fun y σ H ad he hs Q q => ⟨_, pk_nil, q [] H ad [] M Nx.refl hs rfl h⟩
theorem k_cons {Pa : List AV → List MO → Prop} {nm : Option Str} {kpos : Pos} {ks : List Keyword} (h : EvX c δ M e fun x M1 => EvK c δ M1 ks fun xs M2 => Pa (x :: xs) M2) : EvK c δ M (⟨nm, e, kpos⟩ :: ks) Pa := fun y σ H ad he hs Q q =>
  ⟨_, pk_cons wE_ok wK_ok, h y σ H ad he hs _ fun v H1 ad1 x M1 n1 s1 r1 p1 => p1 y σ H1 ad1 (he.nx n1) s1 _ fun vs H2 ad2 xs M2 n2 s2 r2 p2 => q _ H2 ad2 (x :: xs) M2 (n1.trans n2) s2 ⟨v, vs, rfl, r1.nx n2, r2⟩ p2⟩
theorem reps_of_dat {K : PySem.W.Frag} {ad : List Addr} {H : Hp} : ∀ {ds : List D} {vs : List V}, RepAs K ad H (ds.map .dat) vs → Reps K H ds vs
  | [], _, h => h
  | _ :: _, _, ⟨x, r, e, h1, h2⟩ => ⟨x, r, e, h1, reps_of_dat h2⟩
/-- the list of data that a list of values is -/
def DatsAre : List AV → List D → Prop
  | [], ds => ds = []
  | a :: as, ds => ∃ d r, a = .dat d ∧ ds = d :: r ∧ DatsAre as r
theorem DatsAre.reps {K : PySem.W.Frag} {ad : List Addr} {H : Hp} : ∀ {as : List AV} {ds : List D} {vs : List V}, DatsAre as ds → RepAs K ad H as vs → Reps K H ds vs
  | [], _, _, e, h => by rw [show _ = [] from e]; exact h
  | _ :: _, _, _, ⟨d, r, e1, e2, q⟩, ⟨x, rr, e, h1, h2⟩ => by
    subst e1 e2 e
    exact ⟨x, rr, rfl, h1, q.reps h2⟩
class DatsC (as : List AV) (ds : outParam (List D)) : Prop where
  are : DatsAre as ds
instance datsC_nil : DatsC [] [] := ⟨rfl⟩
instance datsC_cons {d : D} {as : List AV} {ds : List D} [h : DatsC as ds] : DatsC (.dat d :: as) (d :: ds) := ⟨⟨d, ds, rfl, rfl, h.are⟩⟩
theorem dats_ex {as : List AV} {ds : List D} {Q : List D → Prop} [h1 : DatsC as ds] (h2 : ds.length ≤ 1000000) (h3 : Q ds) : ∃ ds, DatsAre as ds ∧ ds.length ≤ 1000000 ∧ Q ds := ⟨ds, h1.are, h2, h3⟩
theorem same_new {H : Hp} {p : Addr} {o : HO} (h : H p = none) : Same H (upd H p o) := fun b u e => by
  rw [upd_ne (ne_of_none e h)]
  exact e
theorem x_tup {k : Nat} (h : EvA c δ M es fun as M1 => ∃ ds, DatsAre as ds ∧ ds.length ≤ 1000000 ∧ Post (.dat (.tup ds)) M1) : EvX c δ M (.Tuple es k pos) Post := fun y σ H ad he hs Q q =>
  ⟨_, pe_tup wA_ok, h y σ H ad he hs _ fun vs H1 ad1 as M1 n1 s1 r1 ⟨ds, hd, hl, p1⟩ => by
    have rr := hd.reps r1
    refine ⟨by rw [rr.length]; exact Nat.le_trans hl (by decide), fun p hp => ?_⟩
    have sm := same_new (o := .tup vs) hp
    exact q _ _ ad1 _ M1 (n1.trans (Nx.same sm)) (s1.same sm) (show RepA _ _ _ (.dat (.tup ds)) _ from ⟨p, vs, rfl, .inl (.inl upd_same), rr.tx (Tx.same sm)⟩) p1⟩
theorem f_lst {Pf : List D → List MO → Prop} (h : EvA c δ M es fun as M1 => ∃ ds, DatsAre as ds ∧ ds.length ≤ 1000000 ∧ Pf ds M1) : EvF c δ M (.List es pos) Pf := fun y σ H ad he hs Q q =>
  ⟨_, pe_lst wA_ok, h y σ H ad he hs _ fun vs H1 ad1 as M1 n1 s1 r1 ⟨ds, hd, hl, p1⟩ => by
    have rr := hd.reps r1
    refine ⟨by rw [rr.length]; exact Nat.le_trans hl (by decide), fun p hp => ?_⟩
    have sm := same_new (o := .lst vs) hp
    have hp0 : H p = none := by
      cases z : H p with
      | none => rfl
      | some o =>
        by_cases hm : p ∈ ad
        · exact absurd (n1.sub hm) (s1.free hp)
        · rw [n1.keep p o hm z] at hp; cases hp
    exact q p vs _ ad1 ds M1 (n1.trans (Nx.same sm)) (s1.same sm) hp0 (s1.free hp) upd_same (rr.tx (Tx.same sm)) p1⟩
/-- a list of other things than data -/
theorem x_la (h : EvA c δ M es fun as M1 => as.length ≤ 1000000 ∧ Post (.la as) M1) : EvX c δ M (.List es pos) Post := fun y σ H ad he hs Q q =>
  ⟨_, pe_lst wA_ok, h y σ H ad he hs _ fun vs H1 ad1 as M1 n1 s1 r1 ⟨hl, p1⟩ => by
    refine ⟨by rw [repAs_length r1]; exact Nat.le_trans hl (by decide), fun p hp => ?_⟩
    have sm := same_new (o := .lst vs) hp
    exact q _ _ ad1 (.la as) M1 (n1.trans (Nx.same sm)) (s1.same sm) ⟨p, vs, rfl, ⟨upd_same, s1.free hp⟩, r1.nx (Nx.same sm)⟩ p1⟩
end

/-! ### values: sequences -/
/-- a list of data -/
def IsL (M : List MO) (a : AV) (ds : List D) : Prop := a = .ls ds ∨ ∃ j, a = .mut j ∧ M[j]? = some (.lst ds)
def IsS (M : List MO) (a : AV) (ds : List D) : Prop := a = .dat (.tup ds) ∨ IsL M a ds
section
variable {c : SC} {M : List MO} {Post : AQ} {B : Bool → List MO → Prop} {K : PySem.W.Frag} {ad : List Addr} {H : Hp}
theorem IsL.sq {a : AV} {ds : List D} {v : V} (h : IsL M a ds) (S : StOk K ad H M) (r : RepA K ad H a v) : ∃ p xs, v = .ref p ∧ SqL K H p xs ∧ Reps K H ds xs := by
  rcases h with rfl | ⟨j, rfl, hm⟩
  · obtain ⟨p, xs, e, q, rr⟩ := r
    exact ⟨p, xs, e, q.sq, rr⟩
  · obtain ⟨p, q, e⟩ := r
    obtain ⟨a2, h2, xs, h3, rr⟩ := S.obj j _ hm
    rw [q] at h2
    cases h2
    exact ⟨p, xs, e, .inl (.inl h3), rr⟩
theorem IsS.sq {a : AV} {ds : List D} {v : V} (h : IsS M a ds) (S : StOk K ad H M) (r : RepA K ad H a v) : ∃ p xs, v = .ref p ∧ (SqL K H p xs ∨ SqT K H p xs) ∧ Reps K H ds xs := by
  rcases h with rfl | h
  · obtain ⟨p, xs, e, q, rr⟩ := r
    exact ⟨p, xs, e, .inr q, rr⟩
  · obtain ⟨p, xs, e, q, rr⟩ := h.sq S r
    exact ⟨p, xs, e, .inl q, rr⟩
theorem isS_tup {ds : List D} : IsS M (.dat (.tup ds)) ds := .inl rfl
theorem isS_ls {ds : List D} : IsS M (.ls ds) ds := .inr (.inl rfl)
theorem isS_mut {j : Nat} {ds : List D} (h : M[j]? = some (.lst ds)) : IsS M (.mut j) ds := .inr (.inr ⟨j, rfl, h⟩)
theorem isL_ls {ds : List D} : IsL M (.ls ds) ds := .inl rfl
theorem isL_mut {j : Nat} {ds : List D} (h : M[j]? = some (.lst ds)) : IsL M (.mut j) ds := .inr ⟨j, rfl, h⟩

/-! ### arithmetic -/
theorem b_int {f : Value → Value → Sem Value} {C : Int → Int → Prop} {g : Int → Int → Int} (ho : ∀ X : Cx, OpR X f (rI C fun i j => .int (g i j))) {i j : Int} (hc : C i j) (h : Post (.dat (.int (g i j))) M) : BinR c f (.dat (.int i)) (.dat (.int j)) M Post :=
  fun z H ad hs vx vy rx ry Q q => ⟨_, ho z.cx, i, j, rx, ry, hc, q _ H ad _ M Nx.refl hs (show RepA _ _ _ (.dat (.int (g i j))) _ from rfl) h⟩
theorem b_int0 {f : Value → Value → Sem Value} {g : Int → Int → Int} (ho : ∀ X : Cx, OpR X f (rI0 fun i j => .int (g i j))) {i j : Int} (h : Post (.dat (.int (g i j))) M) : BinR c f (.dat (.int i)) (.dat (.int j)) M Post :=
  fun z H ad hs vx vy rx ry Q q => ⟨_, ho z.cx, i, j, rx, ry, q _ H ad _ M Nx.refl hs (show RepA _ _ _ (.dat (.int (g i j))) _ from rfl) h⟩
theorem b_add {i j : Int} (h : Post (.dat (.int (i + j))) M) : BinR c (binaryOp .Add) (.dat (.int i)) (.dat (.int j)) M Post := b_int0 (fun _ => op_add) h
theorem b_sub {i j : Int} (h : Post (.dat (.int (i - j))) M) : BinR c (binaryOp .Sub) (.dat (.int i)) (.dat (.int j)) M Post := b_int0 (fun _ => op_sub) h
theorem b_mul {i j : Int} (hc : CMul i j) (h : Post (.dat (.int (i * j))) M) : BinR c (binaryOp .Mult) (.dat (.int i)) (.dat (.int j)) M Post := b_int (fun _ => op_mul) hc h
theorem b_div {i j : Int} (hc : 0 < j ∧ j < 1073741824) (h : Post (.dat (.int (i / j))) M) : BinR c (binaryOp .FloorDiv) (.dat (.int i)) (.dat (.int j)) M Post := b_int (fun _ => op_fdiv) hc h
theorem b_mod {i j : Int} (hc : 0 < j) (h : Post (.dat (.int (i % j))) M) : BinR c (binaryOp .Mod) (.dat (.int i)) (.dat (.int j)) M Post := b_int (fun _ => op_mod) hc h
theorem b_pow {i j : Int} (hc : CPow i j) (h : Post (.dat (.int (i ^ j.toNat))) M) : BinR c (binaryOp .Pow) (.dat (.int i)) (.dat (.int j)) M Post := b_int (fun _ => op_pow) hc h
theorem b_strs {i j : Str} (hl : i.length + j.length ≤ 1000000) (h : Post (.dat (.str (i ++ j))) M) : BinR c (binaryOp .Add) (.dat (.str i)) (.dat (.str j)) M Post :=
  fun z H ad hs vx vy rx ry Q q => ⟨_, op_add_str, i, j, rx, ry, Nat.le_trans hl (by decide), q _ H ad _ M Nx.refl hs (show RepA _ _ _ (.dat (.str (i ++ j))) _ from rfl) h⟩
/-- t + u -/
theorem b_catT {ds es : List D} (hl : ds.length + es.length ≤ 1000000) (h : Post (.dat (.tup (ds ++ es))) M) : BinR c (binaryOp .Add) (.dat (.tup ds)) (.dat (.tup es)) M Post :=
  fun z H ad hs vx vy ⟨a, xs, ea, qa, ra⟩ ⟨b, ys, eb, qb, rb⟩ Q q => by
    refine ⟨_, op_catA, a, b, xs, ys, ea, eb, qa, qb, by rw [ra.length, rb.length]; exact Nat.le_trans hl (by decide), fun e => ?_, fun _ e => ?_, fun _ _ p hp => ?_⟩
    · subst e
      have e2 : ds = [] := by cases ds with | nil => rfl | cons d r => exact absurd ra.length (by simp)
      subst e2
      exact q _ H ad _ M Nx.refl hs (show RepA _ _ _ (.dat (.tup es)) _ from ⟨b, ys, rfl, qb, rb⟩) h
    · subst e
      have e2 : es = [] := by cases es with | nil => rfl | cons d r => exact absurd rb.length (by simp)
      subst e2
      rw [List.append_nil] at h
      exact q _ H ad _ M Nx.refl hs (show RepA _ _ _ (.dat (.tup ds)) _ from ⟨a, xs, rfl, qa, ra⟩) h
    · have sm := same_new (o := .tup (xs ++ ys)) hp
      exact q _ _ ad _ M (Nx.same sm) (hs.same sm) (show RepA _ _ _ (.dat (.tup (ds ++ es))) _ from ⟨p, _, rfl, .inl (.inl upd_same), (ra.append rb).tx (Tx.same sm)⟩) h

/-! ### comparisons -/
theorem c_lt {i j : Int} (h : B (decide (i < j)) M) : CmpR c .Lt (.dat (.int i)) (.dat (.int j)) M B := fun z H ad hs vx vy rx ry Q q => ⟨_, op_lt, i, j, rx, ry, q _ H ad M Nx.refl hs h⟩
theorem c_le {i j : Int} (h : B (decide (i ≤ j)) M) : CmpR c .LtE (.dat (.int i)) (.dat (.int j)) M B := fun z H ad hs vx vy rx ry Q q => ⟨_, op_le, i, j, rx, ry, q _ H ad M Nx.refl hs h⟩
theorem c_gt {i j : Int} (h : B (decide (j < i)) M) : CmpR c .Gt (.dat (.int i)) (.dat (.int j)) M B := fun z H ad hs vx vy rx ry Q q => ⟨_, op_gt, i, j, rx, ry, q _ H ad M Nx.refl hs h⟩
theorem c_ge {i j : Int} (h : B (decide (j ≤ i)) M) : CmpR c .GtE (.dat (.int i)) (.dat (.int j)) M B := fun z H ad hs vx vy rx ry Q q => ⟨_, op_ge, i, j, rx, ry, q _ H ad M Nx.refl hs h⟩
theorem c_eqI {i j : Int} (h : B (decide (i = j)) M) : CmpR c .Eq (.dat (.int i)) (.dat (.int j)) M B := fun z H ad hs vx vy rx ry Q q => by
  rw [show vx = .int i from rx, show vy = .int j from ry]
  refine ⟨_, op_eq, rfl, ?_⟩
  rw [show decide (V.int i = V.int j) = decide (i = j) by rw [dec_int, Bool.beq_eq_decide_eq]]
  exact q _ H ad M Nx.refl hs h
theorem c_neI {i j : Int} (h : B (!decide (i = j)) M) : CmpR c .NotEq (.dat (.int i)) (.dat (.int j)) M B := fun z H ad hs vx vy rx ry Q q => by
  rw [show vx = .int i from rx, show vy = .int j from ry]
  refine ⟨_, op_ne, rfl, ?_⟩
  rw [show decide (V.int i = V.int j) = decide (i = j) by rw [dec_int, Bool.beq_eq_decide_eq]]
  exact q _ H ad M Nx.refl hs h
theorem c_eqB {i j : Bool} (h : B (i == j) M) : CmpR c .Eq (.dat (.bl i)) (.dat (.bl j)) M B := fun z H ad hs vx vy rx ry Q q => by
  rw [show vx = .bl i from rx, show vy = .bl j from ry]
  refine ⟨_, op_eq, rfl, ?_⟩
  rw [dec_bl]
  exact q _ H ad M Nx.refl hs h
theorem c_neB {i j : Bool} (h : B (!(i == j)) M) : CmpR c .NotEq (.dat (.bl i)) (.dat (.bl j)) M B := fun z H ad hs vx vy rx ry Q q => by
  rw [show vx = .bl i from rx, show vy = .bl j from ry]
  refine ⟨_, op_ne, rfl, ?_⟩
  rw [dec_bl]
  exact q _ H ad M Nx.refl hs h
theorem c_eqS {i j : Str} (h : B (i == j) M) : CmpR c .Eq (.dat (.str i)) (.dat (.str j)) M B := fun z H ad hs vx vy rx ry Q q => by
  rw [show vx = .str i from rx, show vy = .str j from ry]
  refine ⟨_, op_eq, rfl, ?_⟩
  rw [dec_str]
  exact q _ H ad M Nx.refl hs h
theorem c_neS {i j : Str} (h : B (!(i == j)) M) : CmpR c .NotEq (.dat (.str i)) (.dat (.str j)) M B := fun z H ad hs vx vy rx ry Q q => by
  rw [show vx = .str i from rx, show vy = .str j from ry]
  refine ⟨_, op_ne, rfl, ?_⟩
  rw [dec_str]
  exact q _ H ad M Nx.refl hs h
def isNon : AV → Bool
  | .dat .non => true
  | _ => false
theorem non_iff {a : AV} {v : V} (r : RepA K ad H a v) : decide (v = .non) = isNon a := by
  cases a with
  | dat d =>
    cases d with
    | non => rw [show v = .non from r]; rfl
    | bl b => rw [show v = .bl b from r]; rfl
    | int b => rw [show v = .int b from r]; rfl
    | str b => rw [show v = .str b from r]; rfl
    | tup ds => obtain ⟨p, xs, rfl, _⟩ := r; rfl
    | lis ds => obtain ⟨p, xs, o, rfl, _⟩ := r; rfl
  | ls ds => obtain ⟨p, xs, rfl, _⟩ := r; rfl
  | «mut» j => obtain ⟨p, _, rfl⟩ := r; rfl
  | la as => obtain ⟨p, xs, rfl, _⟩ := r; rfl
  | ta as => obtain ⟨p, xs, rfl, _⟩ := r; rfl
  | scr ns => obtain ⟨p, rfl, _⟩ := r; rfl
  | tx ds => obtain ⟨p, xs, rfl, _⟩ := r; rfl
  | exc C fs => obtain ⟨p, oe, rfl, _⟩ := r; rfl
  | fn f => rw [show v = .ref f from r]; rfl
theorem c_is {x : AV} (h : B (isNon x) M) : CmpR c .Is x (.dat .non) M B := fun z H ad hs vx vy rx ry Q q => by
  refine ⟨_, op_isN, ry, ?_⟩
  rw [non_iff rx]
  exact q _ H ad M Nx.refl hs h
theorem c_isnot {x : AV} (h : B (!isNon x) M) : CmpR c .IsNot x (.dat .non) M B := fun z H ad hs vx vy rx ry Q q => by
  refine ⟨_, op_notN, ry, ?_⟩
  rw [non_iff rx]
  exact q _ H ad M Nx.refl hs h

/-! ### == of data at any depth -/
mutual
def D.py : D → PyData
  | .non => .none
  | .bl b => .bool b
  | .int i => .int i
  | .str x => .str x
  | .tup ds => .tuple (pys ds)
  | .lis ds => .list (pys ds)
def pys : List D → List PyData
  | [] => []
  | d :: ds => d.py :: pys ds
end
mutual
theorem rep_dp : ∀ {d : D} {v : V}, Rep K H d v → Dp K H v d.py
  | .non, _, h => by rw [show _ = V.non from h]; exact .non
  | .bl b, _, h => by rw [show _ = V.bl b from h]; exact .bl b
  | .int b, _, h => by rw [show _ = V.int b from h]; exact .int b
  | .str b, _, h => by rw [show _ = V.str b from h]; exact .str b
  | .tup ds, _, ⟨a, xs, e, q, r⟩ => by subst e; exact .tup q (reps_dp r)
  | .lis ds, _, ⟨a, xs, o, e, q, r⟩ => by subst e; exact .lst (.inl (.inr ⟨o, q⟩)) (reps_dp r)
theorem reps_dp : ∀ {ds : List D} {vs : List V}, Reps K H ds vs → DpAll K H vs (pys ds)
  | [], _, h => by rw [show _ = [] from h]; exact .nil
  | _ :: _, _, ⟨x, r, e, h1, h2⟩ => by subst e; exact .cons (rep_dp h1) (reps_dp h2)
end
mutual
def avPy (M : List MO) : AV → PyData
  | .dat d => d.py
  | .ls ds => .list (pys ds)
  | .mut j => match M[j]? with
    | some (.lst ds) => .list (pys ds)
    | _ => .none
  | .la as => .list (avPys M as)
  | .ta as => .tuple (avPys M as)
  | .scr ns => .list (pys (ns.map D.int))
  | .tx ds => .tuple (pys ds)
  | .exc _ _ => .none
  | .fn _ => .none
def avPys (M : List MO) : List AV → List PyData
  | [] => []
  | d :: ds => avPy M d :: avPys M ds
end
mutual
/-- a value that is data: lists of the store among it -/
def IsDat (M : List MO) : AV → Prop
  | .dat _ => True
  | .ls _ => True
  | .mut j => ∃ ds, M[j]? = some (.lst ds)
  | .la as => IsDats M as
  | .ta as => IsDats M as
  | .scr _ => False
  | .tx _ => True
  | .exc _ _ => False
  | .fn _ => False
def IsDats (M : List MO) : List AV → Prop
  | [] => True
  | d :: ds => IsDat M d ∧ IsDats M ds
end
mutual
theorem av_dp (S : StOk K ad H M) : ∀ {a : AV} {v : V}, RepA K ad H a v → IsDat M a → Dp K H v (avPy M a)
  | .dat _, _, r, _ => rep_dp r
  | .ls _, _, ⟨a, xs, e, q, r⟩, _ => by subst e; exact .lst q.sq (reps_dp r)
  | .mut j, _, ⟨a, q, e⟩, ⟨ds, hm⟩ => by
    subst e
    obtain ⟨a2, h2, xs, h3, rr⟩ := S.obj j _ hm
    rw [q] at h2
    cases h2
    unfold avPy
    rw [hm]
    exact .lst (.inl (.inl h3)) (reps_dp rr)
  | .la _, _, ⟨a, xs, e, q, r⟩, h => by subst e; exact .lst q.sq (avs_dp S r h)
  | .ta _, _, ⟨a, xs, e, q, r⟩, h => by subst e; exact .tup q (avs_dp S r h)
  | .scr _, _, _, h => h.elim
  | .tx _, _, ⟨a, xs, e, q, r⟩, _ => by subst e; exact .tup q.sq (reps_dp r)
  | .exc _ _, _, _, h => h.elim
  | .fn _, _, _, h => h.elim
theorem avs_dp (S : StOk K ad H M) : ∀ {ds : List AV} {vs : List V}, RepAs K ad H ds vs → IsDats M ds → DpAll K H vs (avPys M ds)
  | [], _, h, _ => by rw [show _ = [] from h]; exact .nil
  | _ :: _, _, ⟨x, r, e, h1, h2⟩, hd => by subst e; exact .cons (av_dp S h1 hd.1) (avs_dp S h2 hd.2)
end
theorem c_eqD {x y : AV} (hx : IsDat M x) (hy : IsDat M y) (sx : SeqAt.shaped (avPy M x) = true) (sy : SeqAt.shaped (avPy M y) = true) (h : B (PyData.eqv (avPy M x) (avPy M y)) M) : CmpR c .Eq x y M B := fun z H ad hs vx vy rx ry Q q =>
  ⟨_, op_eqD z.room.units, _, _, av_dp hs rx hx, av_dp hs ry hy, sx, sy, q _ H ad M Nx.refl hs h⟩
theorem c_neD {x y : AV} (hx : IsDat M x) (hy : IsDat M y) (sx : SeqAt.shaped (avPy M x) = true) (sy : SeqAt.shaped (avPy M y) = true) (h : B (!PyData.eqv (avPy M x) (avPy M y)) M) : CmpR c .NotEq x y M B := fun z H ad hs vx vy rx ry Q q =>
  ⟨_, op_neD z.room.units, _, _, av_dp hs rx hx, av_dp hs ry hy, sx, sy, q _ H ad M Nx.refl hs h⟩
/-- x in xs, flat things -/
def fl : D → Bool
  | .tup _ => false
  | .lis _ => false
  | _ => true
def flV : D → V
  | .non => .non
  | .bl b => .bl b
  | .int i => .int i
  | .str x => .str x
  | .tup _ => .non
  | .lis _ => .non
theorem rep_fl : ∀ {d : D} {v : V}, Rep K H d v → fl d = true → v = flV d ∧ flatV v = true
  | .non, _, h, _ => by rw [show _ = V.non from h]; exact ⟨rfl, rfl⟩
  | .bl b, _, h, _ => by rw [show _ = V.bl b from h]; exact ⟨rfl, rfl⟩
  | .int b, _, h, _ => by rw [show _ = V.int b from h]; exact ⟨rfl, rfl⟩
  | .str b, _, h, _ => by rw [show _ = V.str b from h]; exact ⟨rfl, rfl⟩
  | .tup _, _, _, h => by cases h
  | .lis _, _, _, h => by cases h
theorem reps_fl : ∀ {ds : List D} {vs : List V}, Reps K H ds vs → ds.all fl = true → vs = ds.map flV ∧ vs.all flatV = true
  | [], _, h, _ => by rw [show _ = [] from h]; exact ⟨rfl, rfl⟩
  | d :: ds, _, ⟨x, r, e, h1, h2⟩, h => by
    subst e
    rw [List.all_cons, Bool.and_eq_true] at h
    obtain ⟨e1, f1⟩ := rep_fl h1 h.1
    obtain ⟨e2, f2⟩ := reps_fl h2 h.2
    exact ⟨by rw [e1, e2]; rfl, by rw [List.all_cons, f1, f2]; rfl⟩
def inD (d : D) (ds : List D) : Bool := inV (flV d) (ds.map flV)
theorem c_in {d : D} {y : AV} {ds : List D} (hy : IsS M y ds) (hd : fl d = true) (hs : ds.all fl = true) (h : B (inD d ds) M) : CmpR c .In (.dat d) y M B := fun z H ad st vx vy rx ry Q q => by
  obtain ⟨p, xs, rfl, hq, rr⟩ := hy.sq st ry
  obtain ⟨e1, f1⟩ := rep_fl rx hd
  obtain ⟨e2, f2⟩ := reps_fl rr hs
  refine ⟨_, op_in_seq, p, xs, rfl, hq, f1, f2, ?_⟩
  rw [e1, e2]
  exact q _ H ad M Nx.refl st h
theorem c_notin {d : D} {y : AV} {ds : List D} (hy : IsS M y ds) (hd : fl d = true) (hs : ds.all fl = true) (h : B (!inD d ds) M) : CmpR c .NotIn (.dat d) y M B := fun z H ad st vx vy rx ry Q q => by
  obtain ⟨p, xs, rfl, hq, rr⟩ := hy.sq st ry
  obtain ⟨e1, f1⟩ := rep_fl rx hd
  obtain ⟨e2, f2⟩ := reps_fl rr hs
  refine ⟨_, op_notIn_seq, p, xs, rfl, hq, f1, f2, ?_⟩
  rw [e1, e2]
  exact q _ H ad M Nx.refl st h
end

/-! ### subscripts -/
section
variable {c : SC} {δ : Dl} {M : List MO} {Post : AQ} {a b e t : Expr} {es : List Expr} {pos p p1 p2 : Pos} {x : Str}
/-- what stands at i of x -/
def IxA (M : List MO) (x : AV) (i : Int) (Post : D → Prop) : Prop :=
  (∃ ds d, IsS M x ds ∧ atI ds i = some d ∧ Post d) ∨ ∃ s ch, x = .dat (.str s) ∧ s.length ≤ 1000000 ∧ atI s.cps.toList i = some ch ∧ Post (.str ⟨#[ch]⟩)
theorem atI_reps {K : PySem.W.Frag} {H : Hp} {ds : List D} {xs : List V} {i : Int} {d : D} (r : Reps K H ds xs) (h : atI ds i = some d) : ∃ v, atI xs i = some v ∧ Rep K H d v := by
  unfold atI at h ⊢
  rw [r.length]
  cases q : ixN ds.length i with
  | none => rw [q] at h; cases h
  | some j =>
    rw [q] at h
    exact r.get h
theorem x_ix (h : EvX c δ M a fun x M1 => EvX c δ M1 b fun y M2 => ∃ i, y = .dat (.int i) ∧ IxA M2 x i fun d => Post (.dat d) M2) (hp : PlainIx b) : EvX c δ M (.Subscript a b pos) Post := fun y σ H ad he hs Q q =>
  ⟨_, pe_ix (r := rIx c.K) ix_seq wE_ok wE_ok hp, h y σ H ad he hs _ fun v H1 ad1 x M1 n1 s1 r1 p1 => p1 y σ H1 ad1 (he.nx n1) s1 _ fun u H2 ad2 z M2 n2 s2 r2 ⟨i, ez, p2⟩ => by
    subst ez
    have n := n1.trans n2
    rcases p2 with ⟨ds, d, hx, ha, p2⟩ | ⟨s, ch, rfl, hl, ha, p2⟩
    · obtain ⟨pp, xs, rfl, hq, rr⟩ := hx.sq s2 (r1.nx n2)
      obtain ⟨w, hw, rw'⟩ := atI_reps rr ha
      rcases hq with hq | hq
      · exact .inl ⟨pp, xs, i, w, rfl, r2, hq, hw, q w H2 ad2 (.dat d) M2 n s2 rw' p2⟩
      · exact .inr (.inl ⟨pp, xs, i, w, rfl, r2, hq, hw, q w H2 ad2 (.dat d) M2 n s2 rw' p2⟩)
    · exact .inr (.inr ⟨s, i, ch, r1, r2, Nat.le_trans hl (by decide), ha, q _ H2 ad2 (.dat (.str ⟨#[ch]⟩)) M2 n s2 rfl p2⟩)⟩
/-- an end of a slice -/
def EvO (c : SC) (δ : Dl) (M : List MO) (e : Option Expr) (Post : Option Int → List MO → Prop) : Prop := match e with
  | none => Post none M
  | some e => EvX c δ M e fun a M1 => ∃ i, a = .dat (.int i) ∧ Post (some i) M1
def wOp (X : Cx) (e : Option Expr) : TO := fun σ H Q => ∃ t, PO X e t ∧ t σ H Q
theorem wOp_ok {X : Cx} {e : Option Expr} : PO X e (wOp X e) := ⟨fun pins s σ H Q I ⟨t, h, q⟩ => h.run pins s σ H Q I q⟩
theorem EvO.run {o : Option Expr} {Po : Option Int → List MO → Prop} (h : EvO c δ M o Po) (y : Dyn c) (σ : L2.St) (H : Hp) (ad : List Addr) (he : EnvOk c.K ad H σ δ) (hs : StOk c.K ad H M) (Q : Option Int → Hp → Prop)
    (q : ∀ i H2 ad2 M2, Nx ad H ad2 H2 → StOk c.K ad2 H2 M2 → Po i M2 → Q i H2) : wOp y.cx o σ H Q := by
  cases o with
  | none => exact ⟨_, po_none, q none H ad M Nx.refl hs h⟩
  | some e =>
    refine ⟨_, po_some wE_ok, h y σ H ad he hs _ fun v H2 ad2 a M2 n s r ⟨i, ea, p⟩ => ?_⟩
    subst ea
    exact ⟨i, r, q _ H2 ad2 M2 n s p⟩
def cutD (xs : List D) (lo hi : Option Int) : List D := (xs.drop (HT.sIx xs.length 0 lo)).take (HT.sIx xs.length xs.length hi - HT.sIx xs.length 0 lo)
theorem cut_reps {K : PySem.W.Frag} {H : Hp} {ds : List D} {xs : List V} {lo hi : Option Int} (r : Reps K H ds xs) : Reps K H (cutD ds lo hi) (cutV xs lo hi) := by
  unfold cutD cutV
  rw [r.length]
  exact (r.drop _).take _
/-- t[lo:hi] of a tuple -/
theorem x_slT {lo hi : Option Expr} (h : EvX c δ M a fun x M1 => EvO c δ M1 lo fun l M2 => EvO c δ M2 hi fun u M3 => ∃ ds, x = .dat (.tup ds) ∧ Post (.dat (.tup (cutD ds l u))) M3) : EvX c δ M (.Subscript a (.Slice lo hi none p2) pos) Post := fun y σ H ad he hs Q q =>
  ⟨_, pe_slice sl_tupA wE_ok wOp_ok wOp_ok, h y σ H ad he hs _ fun v H1 ad1 x M1 n1 s1 r1 p1 => p1.run y σ H1 ad1 (he.nx n1) s1 _ fun l H2 ad2 M2 n2 s2 p2 => p2.run y σ H2 ad2 (he.nx (n1.trans n2)) s2 _ fun u H3 ad3 M3 n3 s3 ⟨ds, ex, p3⟩ => by
    subst ex
    have n := (n1.trans n2).trans n3
    obtain ⟨pp, xs, rfl, hq, rr⟩ := (r1.nx n2).nx n3
    refine ⟨pp, xs, rfl, hq, fun ⟨w1, w2⟩ => ?_, fun _ p hp => ?_⟩
    · have ec : cutD ds l u = ds := by
        unfold cutD
        rw [rr.length] at w1 w2
        rw [w1, w2]
        simp
      rw [ec] at p3
      exact q _ H3 ad3 _ M3 n s3 (show RepA _ _ _ (.dat (.tup ds)) _ from ⟨pp, xs, rfl, hq, rr⟩) p3
    · have sm := same_new (o := .tup (cutV xs l u)) hp
      exact q _ _ ad3 _ M3 (n.trans (Nx.same sm)) (s3.same sm) (show RepA _ _ _ (.dat (.tup (cutD ds l u))) _ from ⟨p, _, rfl, .inl (.inl upd_same), (cut_reps rr).tx (Tx.same sm)⟩) p3⟩
theorem free_back {ad ad2 : List Addr} {H H2 : Hp} {K : PySem.W.Frag} {M2 : List MO} (n : Nx ad H ad2 H2) (s : StOk K ad2 H2 M2) {p : Addr} (hp : H2 p = none) : H p = none := by
  cases z : H p with
  | none => rfl
  | some o =>
    by_cases hm : p ∈ ad
    · exact absurd (n.sub hm) (s.free hp)
    · rw [n.keep p o hm z] at hp; cases hp
/-- xs[lo:hi] of a list -/
theorem f_slL {Pf : List D → List MO → Prop} {lo hi : Option Expr} (h : EvX c δ M a fun x M1 => EvO c δ M1 lo fun l M2 => EvO c δ M2 hi fun u M3 => ∃ ds, IsL M3 x ds ∧ Pf (cutD ds l u) M3) : EvF c δ M (.Subscript a (.Slice lo hi none p2) pos) Pf := fun y σ H ad he hs Q q =>
  ⟨_, pe_slice sl_list wE_ok wOp_ok wOp_ok, h y σ H ad he hs _ fun v H1 ad1 x M1 n1 s1 r1 p1 => p1.run y σ H1 ad1 (he.nx n1) s1 _ fun l H2 ad2 M2 n2 s2 p2 => p2.run y σ H2 ad2 (he.nx (n1.trans n2)) s2 _ fun u H3 ad3 M3 n3 s3 ⟨ds, ex, p3⟩ => by
    have n := (n1.trans n2).trans n3
    obtain ⟨pp, xs, rfl, hq, rr⟩ := ex.sq s3 ((r1.nx n2).nx n3)
    refine ⟨pp, xs, rfl, hq, fun p hp => ?_⟩
    have sm := same_new (o := .lst (cutV xs l u)) hp
    exact q p _ _ ad3 _ M3 (n.trans (Nx.same sm)) (s3.same sm) (free_back n s3 hp) (s3.free hp) upd_same ((cut_reps rr).tx (Tx.same sm)) p3⟩
end
end Fx

/-! Fx, part C: targets, walks, comprehensions, statements, defs. -/
namespace Fx
open PySem L2

/-! ### targets -/
/-- a value goes to a target; is: the slots that are written -/
def EvG (c : SC) (δ : Dl) (tg : Expr) (is : List Nat) (a : AV) (Pg : Dl → Prop) : Prop :=
  ∀ (y : Dyn c) (σ : L2.St) (H : Hp) (ad : List Addr) (v : V), EnvOk c.K ad H σ δ → RepA c.K ad H a v → ∀ Q : L2.St → Hp → Prop,
    (∀ σ2 δ2, EnvOk c.K ad H σ2 δ2 → (∀ vs, (∀ i ∈ is, i ∈ vs) → wipe σ2 vs = wipe σ vs) → Pg δ2 → Q σ2 H) → wG y.cx tg v σ H Q
theorem wipe_at (σ : L2.St) (x : Option V) (i : Nat) : ∀ vs : List Nat, i ∈ vs → wipe (σ.set i x) vs = wipe σ vs
  | [], h => by cases h
  | v :: vs, h => by
    have nots : ∀ vs : List Nat, i ∉ vs → wipe (σ.set i x) vs = (wipe σ vs).set i x := by
      intro vs
      induction vs with
      | nil => intro _; rfl
      | cons w ws ih =>
        intro hn
        have h1 : w ≠ i := fun e => hn (by rw [e]; exact List.mem_cons_self)
        show (wipe (σ.set i x) ws).set w none = ((wipe σ ws).set w none).set i x
        rw [ih (fun z => hn (List.mem_cons_of_mem _ z)), List.set_comm _ _ (Ne.symm h1)]
    show (wipe (σ.set i x) vs).set v none = (wipe σ vs).set v none
    by_cases hv : i ∈ vs
    · rw [wipe_at σ x i vs hv]
    · have e : i = v := by
        rcases List.mem_cons.mp h with e | e
        · exact e
        · exact absurd e hv
      rw [nots vs hv, e, List.set_set]
theorem g_name {c : SC} {δ : Dl} {x : Str} {pos : Pos} {a : AV} {Pg : Dl → Prop} (i : Nat) (hi : c.N[i]? = some x) (hN : c.N.Nodup) (hx : Loc c.sc x) (hf : c.fn x = true ∨ c.sc.names.lookup x = some .local) (h : Pg (δ.set i (some a))) :
    EvG c δ (.Name x pos) [i] a Pg := fun y σ H ad v he r Q q =>
  ⟨_, pg_name (X := y.cx) hN hi (by show Loc y.env.scope x; rw [y.sc]; exact hx) (by show c.fn x = true ∨ y.env.scope.names.lookup x = some .local; rw [y.sc]; exact hf),
    q _ _ (he.set r) (fun vs hv => wipe_at _ _ i vs (hv i List.mem_cons_self)) h⟩
/-- several targets -/
def EvGs (c : SC) (δ : Dl) (tgs : List Expr) (is : List Nat) (as : List D) (Pg : Dl → Prop) : Prop :=
  ∀ (y : Dyn c) (σ : L2.St) (H : Hp) (ad : List Addr) (vs : List V), EnvOk c.K ad H σ δ → Reps c.K H as vs → ∀ Q : L2.St → Hp → Prop,
    (∀ σ2 δ2, EnvOk c.K ad H σ2 δ2 → (∀ ws, (∀ i ∈ is, i ∈ ws) → wipe σ2 ws = wipe σ ws) → Pg δ2 → Q σ2 H) → ∃ t, PGs y.cx tgs t ∧ t vs σ H Q
theorem gs_nil {c : SC} {δ : Dl} {Pg : Dl → Prop} (h : Pg δ) : EvGs c δ [] [] [] Pg := fun y σ H ad vs he r Q q => ⟨_, pgs_nil, r, q σ δ he (fun _ _ => rfl) h⟩
def wGs (X : Cx) (tgs : List Expr) : TGs := fun vs σ H Q => ∃ t, PGs X tgs t ∧ t vs σ H Q
theorem wGs_ok {X : Cx} {tgs : List Expr} : PGs X tgs (wGs X tgs) := ⟨fun pins s σ H vs us Q I r ⟨t, h, q⟩ => h.run pins s σ H vs us Q I r q⟩
theorem gs_cons {c : SC} {δ : Dl} {tg : Expr} {tgs : List Expr} {is js : List Nat} {a : D} {as : List D} {Pg : Dl → Prop} (h : EvG c δ tg is (.dat a) fun δ1 => EvGs c δ1 tgs js as Pg)
    (hs : ∀ env, (assignEach (tg :: tgs) env).map (·.2) = assign tg env :: (assignEach tgs env).map (·.2)) : EvGs c δ (tg :: tgs) (is ++ js) (a :: as) Pg := fun y σ H ad vs he ⟨x, r, e, h1, h2⟩ Q q => by
  subst e
  refine ⟨_, pgs_cons wG_ok wGs_ok (hs y.env), x, r, rfl, h y σ H ad x he h1 _ fun σ2 δ2 he2 w2 p2 => p2 y σ2 H ad r he2 h2 Q fun σ3 δ3 he3 w3 p3 => q σ3 δ3 he3 (fun ws hw => ?_) p3⟩
  rw [w3 ws (fun i hi => hw i (List.mem_append_right _ hi)), w2 ws (fun i hi => hw i (List.mem_append_left _ hi))]
theorem g_tup {c : SC} {δ : Dl} {tgs : List Expr} {k : Nat} {pos : Pos} {is : List Nat} {as : List D} {Pg : Dl → Prop} (h : EvGs c δ tgs is as Pg) (hn : ∀ env, (assignEach tgs env).length = as.length)
    (hst : ∀ env, (assignEach tgs env).findIdx? (·.1) = none) : EvG c δ (.Tuple tgs k pos) is (.dat (.tup as)) Pg := fun y σ H ad v he ⟨a, xs, e, q, r⟩ Q qq =>
  ⟨_, pg_tup (X := y.cx) rfl wGs_ok (hn y.env) (hst y.env), a, xs, e, q, r.length, h y σ H ad xs he r Q qq⟩

/-- the slots left open -/
def EvGx (c : SC) (δ : Dl) (tg : Expr) (a : AV) (Pg : Dl → Prop) : Prop := ∃ is, EvG c δ tg is a Pg
/-! ### what is walked -/
def wI (X : Cx) (tg iter : Expr) : TI := fun σ H R => ∃ wi, PI X tg iter wi ∧ wi σ H R
theorem wI_ok {X : Cx} {tg iter : Expr} : PI X tg iter (wI X tg iter) := ⟨fun pins s σ H R I ⟨t, h, q⟩ => h.run pins s σ H R I q⟩
/-- the iterator J gives ds, one by one, as long as the store keeps what is walked -/
def Walks (K : PySem.W.Frag) (J : It) (ad : List Addr) (H : Hp) (ds : List D) (src : Option Nat) : Prop :=
  ∀ ad2 H2 M2, Nx ad H ad2 H2 → StOk K ad2 H2 M2 → (∀ j, src = some j → M2[j]? = some (.lst ds)) → ∀ i,
    (∀ d, ds[i]? = some d → J.go i H2 ∧ ∀ x H3, J.yld i H2 x H3 → Same H2 H3 ∧ Rep K H3 d x) ∧ (i = ds.length → J.stop i H2)
def EvI (c : SC) (δ : Dl) (M : List MO) (tg iter : Expr) (Pi : List D → Option Nat → List MO → Prop) : Prop :=
  ∀ (y : Dyn c) (σ : L2.St) (H : Hp) (ad : List Addr), EnvOk c.K ad H σ δ → StOk c.K ad H M → ∀ R : It → Hp → Prop,
    (∀ J H1 ad1 ds src M1, Nx ad H ad1 H1 → StOk c.K ad1 H1 M1 → Walks c.K J ad1 H1 ds src → Pi ds src M1 → R J H1) → wI y.cx tg iter σ H R
section
variable {X : Cx} {tg : Expr}
def iSeq (K : PySem.W.Frag) (tl : TE) : TI := fun σ H R => tl σ H fun x H1 => (∃ a, x = .ref a ∧ (∃ xs, SqL K H1 a xs) ∧ R (Itl K a) H1) ∨ ∃ a, x = .ref a ∧ (∃ xs, SqT K H1 a xs) ∧ R (Itt K a) H1
theorem pi_seq {l : Expr} {tl : TE} (hl : PE X l tl) : PI X tg l (iSeq X.K tl) := by
  refine ⟨fun pins s σ H R I h => ?_⟩
  refine thn (hl.run pins s σ H _ I h) fun v s1 ⟨x, H1, I1, r1, q1⟩ => ?_
  rcases q1 with ⟨a, e, ⟨xs, hq⟩, q⟩ | ⟨a, e, ⟨xs, hq⟩, q⟩
  · subst e
    cases r1
    obtain ⟨its, rv, p, hz⟩ := I1.list hq
    refine wpAny_pyIter_list p.isList ?_
    refine ⟨s1.heap.objs.size, [s1.heap.objs.size], _, _, H1, rfl, I1.kept (t' := s1.toks) fun b o e => Heap.get?_push_of_some _ e, turn_list a _, ⟨_, Heap.get?_push_size _ rfl, rfl, rfl⟩, fun b hb => ?_, q⟩
    have e : b = s1.heap.objs.size := by simpa using hb
    subst e
    exact I1.fpOk (Nat.le_refl _) (I1.hok.fresh (Nat.le_refl _))
  · subst e
    cases r1
    obtain ⟨its, rv, p, hz⟩ := I1.tuple hq
    refine wpAny_pyIter_tuple (show s1.heap.IsTuple a its.toArray from p) ?_
    refine ⟨s1.heap.objs.size, [s1.heap.objs.size], _, _, H1, rfl, I1.kept (t' := s1.toks) fun b o e => Heap.get?_push_of_some _ e, turn_tuple a _, ⟨_, Heap.get?_push_size _ rfl, rfl, rfl⟩, fun b hb => ?_, q⟩
    have e : b = s1.heap.objs.size := by simpa using hb
    subst e
    exact I1.fpOk (Nat.le_refl _) (I1.hok.fresh (Nat.le_refl _))
end
section
variable {c : SC} {δ : Dl} {M : List MO} {Post : AQ} {a b e t iter tg : Expr} {es : List Expr} {pos p p1 p2 : Pos} {x : Str} {Pi : List D → Option Nat → List MO → Prop}
/-- where the store keeps a list: its place -/
def srcOf : AV → Option Nat
  | .mut j => some j
  | _ => none
theorem walks_list {K : PySem.W.Frag} {ad : List Addr} {H : Hp} {a : AV} {ds : List D} {v : V} (S : StOk K ad H M) (r : RepA K ad H a v) (h : IsL M a ds) : ∃ q xs, v = .ref q ∧ SqL K H q xs ∧ Walks K (Itl K q) ad H ds (srcOf a) := by
  have fin : ∀ {q : Addr} {H2 : Hp} {xs : List V} (i : Nat), SqL K H2 q xs → (∀ xs', SqL K H2 q xs' → xs' = xs ∨ True) → Reps K H2 ds xs →
      (∀ d, ds[i]? = some d → (Itl K q).go i H2 ∧ ∀ x H3, (Itl K q).yld i H2 x H3 → Same H2 H3 ∧ Rep K H3 d x) ∧ (i = ds.length → (Itl K q).stop i H2) := by
    intro q H2 xs i hq _ rr
    refine ⟨fun d hd => ?_, fun e => ⟨xs, hq, by rw [rr.length, e]; exact Nat.le_refl _⟩⟩
    obtain ⟨w, hw, rw'⟩ := rr.get hd
    refine ⟨⟨xs, w, hq, hw⟩, fun x H3 ⟨e3, y⟩ => ?_⟩
    subst e3
    have := y xs hq
    rw [hw] at this
    cases this
    exact ⟨Same.refl _, rw'⟩
  rcases h with rfl | ⟨j, rfl, hm⟩
  · obtain ⟨q, xs, e, hq, rr⟩ := r
    exact ⟨q, xs, e, hq.sq, fun ad2 H2 M2 n s _ i => fin i (hq.nx n).sq (fun _ _ => .inr trivial) (rr.tx n.tx)⟩
  · obtain ⟨q, hq, e⟩ := r
    obtain ⟨a2, h2, xs, h3, rr⟩ := S.obj j _ hm
    rw [hq] at h2
    cases h2
    refine ⟨q, xs, e, .inl (.inl h3), fun ad2 H2 M2 n s k i => ?_⟩
    obtain ⟨a4, h4, xs2, h5, rr2⟩ := s.obj j _ (k j rfl)
    rw [n.get hq] at h4
    cases h4
    exact fin i (.inl (.inl h5)) (fun _ _ => .inr trivial) rr2
theorem walks_tup {K : PySem.W.Frag} {ad : List Addr} {H : Hp} {ds : List D} {v : V} (r : RepA K ad H (.dat (.tup ds)) v) : ∃ q xs, v = .ref q ∧ SqT K H q xs ∧ Walks K (Itt K q) ad H ds none := by
  obtain ⟨q, xs, e, hq, rr⟩ := r
  refine ⟨q, xs, e, hq, fun ad2 H2 M2 n s _ i => ⟨fun d hd => ?_, fun e => ⟨xs, sqT_tx n.tx hq, by rw [rr.length, e]; exact Nat.le_refl _⟩⟩⟩
  obtain ⟨w, hw, rw'⟩ := (rr.tx n.tx).get hd
  refine ⟨⟨xs, w, sqT_tx n.tx hq, hw⟩, fun x H3 ⟨e3, y⟩ => ?_⟩
  subst e3
  have := y xs (sqT_tx n.tx hq)
  rw [hw] at this
  cases this
  exact ⟨Same.refl _, rw'⟩
theorem i_seq (h : EvX c δ M e fun a M1 => ∃ ds, IsS M1 a ds ∧ Pi ds (srcOf a) M1) : EvI c δ M tg e Pi := fun y σ H ad he hs R q =>
  ⟨_, pi_seq wE_ok, h y σ H ad he hs _ fun v H1 ad1 a M1 n1 s1 r1 ⟨ds, hx, p1⟩ => by
    rcases hx with rfl | hx
    · obtain ⟨qq, xs, e, hq, w⟩ := walks_tup r1
      exact .inr ⟨qq, e, ⟨xs, hq⟩, q _ H1 ad1 ds _ M1 n1 s1 w p1⟩
    · obtain ⟨qq, xs, e, hq, w⟩ := walks_list s1 r1 hx
      exact .inl ⟨qq, e, ⟨xs, hq⟩, q _ H1 ad1 ds _ M1 n1 s1 w p1⟩⟩
/-- lo, lo + 1, .. -/
def rgD (lo hi : Int) : List D := (List.range (hi - lo).toNat).map fun i => D.int (lo + (i : Nat))
theorem rgD_len (lo hi : Int) : (rgD lo hi).length = (hi - lo).toNat := by unfold rgD; rw [List.length_map, List.length_range]
theorem rgD_get {lo hi : Int} {i : Nat} {d : D} (h : (rgD lo hi)[i]? = some d) : i < (hi - lo).toNat ∧ d = .int (lo + (i : Nat)) := by
  have hl := (List.getElem?_eq_some_iff.mp h).1
  rw [rgD_len] at hl
  unfold rgD at h
  rw [List.getElem?_map, List.getElem?_range hl] at h
  exact ⟨hl, (Option.some.inj h).symm⟩
theorem walks_rng {K : PySem.W.Frag} {ad : List Addr} {H : Hp} (lo hi : Int) : Walks K (Itr lo (hi - lo).toNat) ad H (rgD lo hi) none := fun ad2 H2 M2 n s _ i => by
  refine ⟨fun d hd => ?_, fun e => ?_⟩
  · obtain ⟨h1, h2⟩ := rgD_get hd
    subst h2
    refine ⟨h1, fun x H3 ⟨e3, y⟩ => ?_⟩
    subst e3 y
    exact ⟨Same.refl _, rfl⟩
  · show (hi - lo).toNat ≤ i
    rw [e, rgD_len]
    exact Nat.le_refl _
def SC.gl (c : SC) (x : Str) : Prop := c.sc.names.lookup x = some .globalImplicit
theorem glS {c : SC} (y : Dyn c) {x : Str} (h : c.gl x) : Gl y.cx x := by
  show y.env.scope.names.lookup x = some .globalImplicit
  rw [y.sc]
  exact h
theorem repAs1 {K : PySem.W.Frag} {ad : List Addr} {H : Hp} {a : AV} {vs : List V} (r : RepAs K ad H [a] vs) : ∃ v, vs = [v] ∧ RepA K ad H a v := by
  obtain ⟨x, r, e, h, e2⟩ := r
  have e2 : r = [] := e2
  subst e2
  exact ⟨x, e, h⟩
theorem repAs2 {K : PySem.W.Frag} {ad : List Addr} {H : Hp} {a b : AV} {vs : List V} (r : RepAs K ad H [a, b] vs) : ∃ v w, vs = [v, w] ∧ RepA K ad H a v ∧ RepA K ad H b w := by
  obtain ⟨x, r, e, h, rr⟩ := r
  obtain ⟨w, e2, h2⟩ := repAs1 rr
  subst e2
  exact ⟨x, w, e, h, h2⟩
/-- 0, 1, .. -/
def rg0 (n : Int) : List D := (List.range n.toNat).map fun i => D.int (i : Nat)
theorem rg0_eq (n : Int) : rg0 n = rgD 0 n := by
  unfold rg0 rgD
  rw [Int.sub_zero]
  apply List.map_congr_left
  intro i _
  rw [Int.zero_add]
theorem rg0_len (n : Int) : (rg0 n).length = n.toNat := by rw [rg0_eq, rgD_len, Int.sub_zero]
theorem rg0_get {n : Int} {i : Nat} {d : D} (h : (rg0 n)[i]? = some d) : i < n.toNat ∧ d = .int (i : Nat) := by
  rw [rg0_eq] at h
  have := rgD_get h
  rw [Int.sub_zero, Int.zero_add] at this
  exact this
theorem i_rng1 (hm : c.mg "range" = none) (hg : c.gl "range") (h : EvA c δ M [a] fun as M1 => ∃ n : Int, as = [.dat (.int n)] ∧ -(2 ^ 62) ≤ n ∧ n < 2 ^ 62 ∧ Pi (rg0 n) none M1)
    (hs1 : ∀ env, starEach [a] env = [(false, eval a env)]) : EvI c δ M tg (.Call (.Name "range" p) [a] [] pos) Pi := fun y σ H ad he hs R q =>
  ⟨_, pi_range1 (glS y hg) hm wA_ok (hs1 y.env), h y σ H ad he hs _ fun vs H1 ad1 as M1 n1 s1 r1 ⟨n, e, b1, b2, p1⟩ => by
    subst e
    obtain ⟨v, e, rv⟩ := repAs1 r1
    refine ⟨n, by rw [e, show v = .int n from rv], b1, b2, q _ H1 ad1 _ _ M1 n1 s1 ?_ p1⟩
    have := walks_rng (K := c.K) (ad := ad1) (H := H1) 0 n
    rw [Int.sub_zero, ← rg0_eq] at this
    exact this⟩
theorem i_rng2 (hm : c.mg "range" = none) (hg : c.gl "range") (h : EvA c δ M [a, b] fun as M1 => ∃ lo hi : Int, as = [.dat (.int lo), .dat (.int hi)] ∧ (-(2 ^ 62) ≤ lo ∧ lo < 2 ^ 62 ∧ -(2 ^ 62) ≤ hi ∧ hi < 2 ^ 62) ∧ Pi (rgD lo hi) none M1)
    (hs1 : ∀ env, starEach [a, b] env = [(false, eval a env), (false, eval b env)]) (hs2 : ∀ env, starEach [b] env = [(false, eval b env)]) : EvI c δ M tg (.Call (.Name "range" p) [a, b] [] pos) Pi := fun y σ H ad he hs R q =>
  ⟨_, pi_range2 (glS y hg) hm wA_ok (hs1 y.env) (hs2 y.env), h y σ H ad he hs _ fun vs H1 ad1 as M1 n1 s1 r1 ⟨lo, hi, e, b1, p1⟩ => by
    subst e
    obtain ⟨v, w, e, rv, rw'⟩ := repAs2 r1
    exact ⟨lo, hi, by rw [e, show v = .int lo from rv, show w = .int hi from rw'], b1, q _ H1 ad1 _ _ M1 n1 s1 (walks_rng lo hi) p1⟩⟩
end

/-! ### comprehensions -/
@[reducible] def SC.blk (c : SC) (scope : Scope) : SC := { c with sc := relS scope c.sc, fn := fun x => scope.names.lookup x == some .cell }
@[reducible] def Dyn.blk {c : SC} (y : Dyn c) (scope : Scope) (s : Shared) (H : Hp) (C : Addr) (cl : List (Str × Addr)) (fp : List Addr) : Dyn (c.blk scope) where
  A := y.A
  s0 := s
  H0 := H
  env := compEnvC scope cl C y.env
  outer := y.stack
  stack := y.stack
  ex := fp
  pn := []
  xe := fun _ _ => False
  sc := by
    show relS scope y.env.scope = relS scope c.sc
    rw [y.sc]
  room := y.room
  pass := PassesOwn.never
  en := y.en
/-- how one turn of a comprehension goes -/
def LcTurn (c : SC) (δ : Dl) (tg elt : Expr) (ifs : List Expr) (vs : List Nat) (d : D) (M : List MO) (yes : D → List MO → Prop) (no : List MO → Prop) : Prop :=
  ∃ is, (∀ i ∈ is, i ∈ vs) ∧ EvG c δ tg is (.dat d) fun δ2 => EvTs c δ2 M ifs fun k M3 => (k = true → EvX c δ2 M3 elt fun a M4 => ∃ d', a = .dat d' ∧ yes d' M4) ∧ (k = false → no M3)
section
variable {c : SC} {δ : Dl} {M : List MO} {Post : AQ} {a b e t iter tg elt : Expr} {es ifs : List Expr} {pos p p1 p2 : Pos} {x : Str} {Pi : List D → Option Nat → List MO → Prop} {own : List (Str × Nat)} {scope : Scope} {Pf : List D → List MO → Prop}

theorem wipe_wipe (σ : L2.St) (vs : List Nat) : wipe (wipe σ vs) vs = wipe σ vs := by
  have gen : ∀ us : List Nat, (∀ u ∈ us, u ∈ vs) → wipe (wipe σ us) vs = wipe σ vs := by
    intro us
    induction us with
    | nil => intro _; rfl
    | cons u us ih =>
      intro hu
      show wipe ((wipe σ us).set u none) vs = wipe σ vs
      rw [wipe_at _ _ u vs (hu u List.mem_cons_self), ih fun w hw => hu w (List.mem_cons_of_mem _ hw)]
  exact gen vs fun _ h => h
/-- an object beside the store changes -/
theorem StOk.other {K : PySem.W.Frag} {ad : List Addr} {H : Hp} {q : Addr} {xs ys : List V} (S : StOk K ad H M) (hn : q ∉ ad) (hx : H q = some (.lst xs)) : StOk K ad (upd H q (.lst ys)) M ∧ Tx H (upd H q (.lst ys)) := by
  have t : Tx H (upd H q (.lst ys)) := ⟨fun b zs e => by
    rw [upd_ne (ne_of e hx (by intro z; cases z))]
    exact e, fun b o u e => by
    rw [upd_ne (ne_of e hx (by intro z; cases z))]
    exact e, fun b φ e => by
    rw [upd_ne (ne_of e hx (by intro z; cases z))]
    exact e⟩
  refine ⟨⟨S.nd, S.len, fun j m e => ?_⟩, t⟩
  obtain ⟨a, h, o⟩ := S.obj j m e
  refine ⟨a, h, o.nx' (fun _ _ z => z) t fun w z => ?_⟩
  rw [upd_ne (fun e => hn (by rw [← e]; exact List.mem_of_getElem? h))]
  exact z
/-- the comprehension's reading -/
theorem lc_read
    (h : EvI c δ M tg iter fun ds src M1 => ds.length ≤ 1000000 ∧ ∃ I : Nat → List D → List MO → Prop, I 0 [] M1 ∧ (∀ i acc M2, I i acc M2 → ∀ j, src = some j → M2[j]? = some (.lst ds)) ∧
      (∀ i d acc M2, ds[i]? = some d → I i acc M2 → LcTurn (c.blk scope) (wipeD δ (own.map (·.2))) tg elt ifs (own.map (·.2)) d M2 (fun d' M4 => I (i + 1) (acc ++ [d']) M4) (fun M3 => I (i + 1) acc M3)) ∧ ∀ acc M2, I ds.length acc M2 → Pf acc M2)
    (y : Dyn c) (σ : L2.St) (H : Hp) (ad : List Addr) (he : EnvOk c.K ad H σ δ) (hs : StOk c.K ad H M) (Q : VK)
    (q : ∀ p xs H2 ad2 ds M2, Nx ad H ad2 H2 → StOk c.K ad2 H2 M2 → H p = none → p ∉ ad2 → H2 p = some (.lst xs) → Reps c.K H2 ds xs → Pf ds M2 → Q (.ref p) H2) :
    tLc (wI y.cx tg iter) (fun v σ H Q => ∀ s0 H0 C cl fp, wG (y.blk scope s0 H0 C cl fp).cx tg v σ H Q) (fun σ H Q => ∀ s0 H0 C cl fp, wTs (y.blk scope s0 H0 C cl fp).cx ifs σ H Q) (fun σ H Q => ∀ s0 H0 C cl fp, wE (y.blk scope s0 H0 C cl fp).cx elt σ H Q) (own.map (·.2)) σ H Q := by
  refine h y σ H ad he hs _ ?_
  intro J H1 ad1 ds src M1 n1 s1 w hP
  obtain ⟨hl, I, i0, ik, it, idn⟩ := hP
  intro Dq hD
  have sm0 : Same H1 (upd H1 Dq (.lst [])) := same_new hD
  let St' : Nat → Hp → Prop := fun i H' => i ≤ ds.length ∧ ∃ (ad' : List Addr) (M' : List MO) (acc : List D) (xs : List V), Nx ad1 H1 ad' H' ∧ StOk c.K ad' H' M' ∧ Dq ∉ ad' ∧ H' Dq = some (.lst xs) ∧ Reps c.K H' acc xs ∧ acc.length ≤ i ∧ I i acc M'
  refine ⟨fun i m H' => m = ds.length - i ∧ St' i H', ⟨ds.length, by omega, Nat.zero_le _, ad1, M1, [], [], Nx.same sm0, s1.same sm0, s1.free hD, upd_same, rfl, Nat.le_refl _, i0⟩, ?_⟩
  rintro i m H' ⟨rfl, hi, ad', M', acc, xs, n', s', nd, hx, rr, hacc, inv⟩
  obtain ⟨hgo, hstop⟩ := w ad' H' M' n' s' (ik i acc M' inv) i
  by_cases hlt : i < ds.length
  · obtain ⟨go, yl⟩ := hgo ds[i] (List.getElem?_eq_getElem hlt)
    refine .inr ⟨go, St' (i + 1), fun H'' hq => ⟨ds.length - (i + 1), by omega, rfl, hq⟩, fun x H3 hy => ?_⟩
    obtain ⟨sm, rx⟩ := yl x H3 hy
    intro s0 H0 C cl fp
    have n3 : Nx ad1 H1 ad' H3 := n'.trans (Nx.same sm)
    have env : EnvOk c.K ad' H3 (wipe σ (own.map (·.2))) (wipeD δ (own.map (·.2))) := (he.nx (n1.trans n3)).wipe _
    obtain ⟨is, his, it'⟩ := it i ds[i] acc M' (List.getElem?_eq_getElem hlt) inv
    refine it' (y.blk scope s0 H0 C cl fp) _ H3 ad' x env rx _ ?_
    intro σ2 δ2 e2 w2 pT
    refine ⟨by rw [w2 _ his, wipe_wipe], ?_⟩
    intro s01 H01 C1 cl1 fp1
    refine pT (y.blk scope s01 H01 C1 cl1 fp1) σ2 H3 ad' e2 (s'.same sm) _ ?_
    intro b H4 ad4 M4 n4 s4 pB
    have hx3 : H3 Dq = some (.lst xs) := sm _ _ hx
    have nd4 : Dq ∉ ad4 := fun z => by
      have := n4.fresh Dq z nd
      rw [hx3] at this
      cases this
    have hx4 : H4 Dq = some (.lst xs) := n4.keep _ _ nd hx3
    cases b with
    | false =>
      refine iteF ?_
      exact ⟨hlt, ad4, M4, acc, xs, n3.trans n4, s4, nd4, hx4, (rr.tx (Tx.same sm)).tx n4.tx, by omega, pB.2 rfl⟩
    | true =>
      refine iteT ?_
      intro s02 H02 C2 cl2 fp2
      refine (pB.1 rfl) (y.blk scope s02 H02 C2 cl2 fp2) σ2 H4 ad4 (e2.nx n4) s4 _ ?_
      intro v H5 ad5 a M5 n5 s5 r5 hp
      obtain ⟨d', ea, pI⟩ := hp
      subst ea
      have nd5 : Dq ∉ ad5 := fun z => by
        have := n5.fresh Dq z nd4
        rw [hx4] at this
        cases this
      have hx5 : H5 Dq = some (.lst xs) := n5.keep _ _ nd4 hx4
      have n15 : Nx ad1 H1 ad5 H5 := (n3.trans n4).trans n5
      obtain ⟨s6, t6⟩ := s5.other (ys := xs ++ [v]) nd5 hx5
      have rr5 : Reps c.K (upd H5 Dq (.lst (xs ++ [v]))) acc xs := (((rr.tx (Tx.same sm)).tx n4.tx).tx n5.tx).tx t6
      refine ⟨xs, hx5, ?_, hlt, ad5, M5, acc ++ [d'], xs ++ [v], ⟨n15.pre, n15.fresh, fun a o hn e => ?_, n15.tx.trans t6⟩, s6, nd5, upd_same, ?_, ?_, pI⟩
      · have := rr5.length
        have h24 : sizeLine = 16777216 := sizeLine_eq
        omega
      · rw [upd_ne (ne_of_none e hD)]
        exact n15.keep a o hn e
      · have rv : Rep c.K H5 d' v := r5
        exact rr5.append ⟨v, [], rfl, rv.tx t6, rfl⟩
      · rw [List.length_append]
        have : [d'].length = 1 := rfl
        omega
  · have ei : i = ds.length := by omega
    subst ei
    exact .inl ⟨hstop rfl, q Dq xs H' ad' acc M' (n1.trans n') s' (free_back n1 s1 hD) nd hx rr (idn acc M' inv)⟩
theorem f_lc (own : List (Str × Nat)) (ok : BlkOk c.N c.sc scope own) (hN : c.N.Nodup)
    (h : EvI c δ M tg iter fun ds src M1 => ds.length ≤ 1000000 ∧ ∃ I : Nat → List D → List MO → Prop, I 0 [] M1 ∧ (∀ i acc M2, I i acc M2 → ∀ j, src = some j → M2[j]? = some (.lst ds)) ∧
      (∀ i d acc M2, ds[i]? = some d → I i acc M2 → LcTurn (c.blk scope) (wipeD δ (own.map (·.2))) tg elt ifs (own.map (·.2)) d M2 (fun d' M4 => I (i + 1) (acc ++ [d']) M4) (fun M3 => I (i + 1) acc M3)) ∧ ∀ acc M2, I ds.length acc M2 → Pf acc M2)
    (hf : ∀ env x, foldedSetIterable iter env x = pure x) : EvF c δ M (.ListComp elt [⟨tg, iter, ifs, 0⟩] scope pos) Pf := fun y σ H ad he hs Q q =>
  ⟨_, pe_lc (X := y.cx) (own := own) (wi := wI y.cx tg iter) (g := fun v σ H Q => ∀ s0 H0 C cl fp, wG (y.blk scope s0 H0 C cl fp).cx tg v σ H Q) (tt := fun σ H Q => ∀ s0 H0 C cl fp, wTs (y.blk scope s0 H0 C cl fp).cx ifs σ H Q)
    (te := fun σ H Q => ∀ s0 H0 C cl fp, wE (y.blk scope s0 H0 C cl fp).cx elt σ H Q) rfl hN wI_ok (by show BlkOk c.N y.env.scope scope own; rw [y.sc]; exact ok)
    (fun s0 H0 C cl fp => ⟨fun pins s σ H v u Q I r hw => (wG_ok (X := (y.blk scope s0 H0 C cl fp).cx)).run pins s σ H v u Q I r (hw s0 H0 C cl fp)⟩)
    (fun s0 H0 C cl fp => ⟨fun pins s σ H Q I hw => (wTs_ok (X := (y.blk scope s0 H0 C cl fp).cx)).run pins s σ H Q I (hw s0 H0 C cl fp)⟩)
    (fun s0 H0 C cl fp => ⟨fun pins s σ H Q I hw => (wE_ok (X := (y.blk scope s0 H0 C cl fp).cx)).run pins s σ H Q I (hw s0 H0 C cl fp)⟩) (hf y.env),
    lc_read h y σ H ad he hs Q q⟩
theorem ts_nil {B : Bool → List MO → Prop} (h : B true M) : EvTs c δ M [] B := fun y σ H ad he hs Q q => ⟨_, pts_nil, q true H ad M Nx.refl hs h⟩
theorem ts_one {B : Bool → List MO → Prop} (h : EvT c δ M t B) : EvTs c δ M [t] B := fun y σ H ad he hs Q q => ⟨_, pts_one wT_ok, h y σ H ad he hs Q q⟩
/-- a plain comprehension: nothing of the store changes -/
theorem f_lcP {α : Type} (own : List (Str × Nat)) (f : α → D) (pr : α → Bool) (ok : BlkOk c.N c.sc scope own) (hN : c.N.Nodup)
    (h : EvI c δ M tg iter fun ds src M1 => ∃ (xs : List α) (g : α → D), ds = xs.map g ∧ xs.length ≤ 1000000 ∧ (∀ j, src = some j → M1[j]? = some (.lst ds)) ∧
      (∀ x, x ∈ xs → LcTurn (c.blk scope) (wipeD δ (own.map (·.2))) tg elt ifs (own.map (·.2)) (g x) M1 (fun d' M4 => pr x = true ∧ d' = f x ∧ M4 = M1) (fun M3 => pr x = false ∧ M3 = M1)) ∧ Pf ((xs.filter pr).map f) M1)
    (hf : ∀ env x, foldedSetIterable iter env x = pure x) : EvF c δ M (.ListComp elt [⟨tg, iter, ifs, 0⟩] scope pos) Pf := by
  refine f_lc own ok hN (fun y σ H ad he hs R q => h y σ H ad he hs R fun J H1 ad1 ds src M1 n1 s1 w hP => q J H1 ad1 ds src M1 n1 s1 w ?_) hf
  obtain ⟨xs, g, e, hl, hk, ht, hd⟩ := hP
  subst e
  refine ⟨by rw [List.length_map]; exact hl, fun i acc M2 => M2 = M1 ∧ acc = ((xs.take i).filter pr).map f, ⟨rfl, rfl⟩, fun i acc M2 hI => by rw [hI.1]; exact hk, fun i d acc M2 hi hI => ?_, fun acc M2 hI => ?_⟩
  · obtain ⟨rfl, rfl⟩ := hI
    have hl2 := (List.getElem?_eq_some_iff.mp hi).1
    rw [List.length_map] at hl2
    rw [List.getElem?_map, List.getElem?_eq_getElem hl2] at hi
    have ed : g xs[i] = d := Option.some.inj hi
    subst ed
    have et : xs.take (i + 1) = xs.take i ++ [xs[i]] := by rw [List.take_succ, List.getElem?_eq_getElem hl2]; rfl
    obtain ⟨is, his, ht'⟩ := ht xs[i] (List.getElem_mem hl2)
    refine ⟨is, his, fun y σ H ad v he r Q q => ?_⟩
    refine ht' y σ H ad v he r Q fun σ2 δ2 e2 w2 pT => q σ2 δ2 e2 w2 fun y2 σ3 H3 ad3 he3 hs3 Q3 q3 => pT y2 σ3 H3 ad3 he3 hs3 Q3 fun b H4 ad4 M4 n4 s4 pB => q3 b H4 ad4 M4 n4 s4 ⟨fun hb => (pB.1 hb).imp ?_, fun hb => ?_⟩
    · rintro a M5 ⟨d', ea, h1, h2, h3⟩
      refine ⟨d', ea, h3, ?_⟩
      rw [et, List.filter_append, List.map_append, List.filter_cons, if_pos h1, h2]
      rfl
    · obtain ⟨h1, h3⟩ := pB.2 hb
      refine ⟨h3, ?_⟩
      rw [et, List.filter_append, List.map_append, List.filter_cons, if_neg (by rw [h1]; decide)]
      show _ = _ ++ []
      rw [List.append_nil]
  · obtain ⟨rfl, rfl⟩ := hI
    rw [List.length_map, List.take_length]
    exact hd

/-! ### statements -/
theorem r_nil {D : AE} (h : D.nx δ M) : Run c δ M [] D := fun y σ H ad he hs E q => ⟨_, pss_nil, q.nx σ H ad δ M Nx.refl he hs h⟩
theorem r_cons {D : AE} {st : Stmt} {sts : List Stmt} (h : Run1 c δ M st { D with nx := fun δ2 M2 => Run c δ2 M2 sts D }) : Run c δ M (st :: sts) D := fun y σ H ad he hs E q =>
  ⟨_, pss_cons wS_ok wSs_ok, h y σ H ad he hs _ ⟨fun σ2 H2 ad2 δ2 M2 n e s p => p y σ2 H2 ad2 e s E (q.on n), q.rt, q.bk, q.ct⟩⟩
theorem r_one {D : AE} {st : Stmt} (h : Run1 c δ M st D) : Run c δ M [st] D := fun y σ H ad he hs E q => ⟨_, pss_one wS_ok, h y σ H ad he hs E q⟩
theorem s_ret {D : AE} (h : EvX c δ M e D.rt) : Run1 c δ M (.Return (some e) pos) D := fun y σ H ad he hs E q =>
  ⟨_, ps_ret wE_ok, h y σ H ad he hs _ fun v H2 ad2 a M2 n s r p => q.rt v H2 ad2 a M2 n s r p⟩
theorem s_if {D : AE} {b1 b2 : List Stmt} (h : EvT c δ M t fun k M1 => (k = true → Run c δ M1 b1 D) ∧ (k = false → Run c δ M1 b2 D)) : Run1 c δ M (.If t b1 b2 pos) D := fun y σ H ad he hs E q =>
  ⟨_, ps_if wT_ok wSs_ok wSs_ok, h y σ H ad he hs _ fun k H1 ad1 M1 n1 s1 p1 => by
    cases k with
    | true => exact iteT (p1.1 rfl y σ H1 ad1 (he.nx n1) s1 E (q.on n1))
    | false => exact iteF (p1.2 rfl y σ H1 ad1 (he.nx n1) s1 E (q.on n1))⟩
theorem s_expr {D : AE} (h : EvX c δ M e fun _ M1 => D.nx δ M1) (hs1 : ∀ env, swapsWith e none pos.line env = pure false) : Run1 c δ M (.Expr e pos) D := fun y σ H ad he hs E q =>
  ⟨_, ps_expr wE_ok (hs1 y.env), h y σ H ad he hs _ fun v H2 ad2 a M2 n s r p => q.nx σ H2 ad2 δ M2 n (he.nx n) s p⟩
theorem s_set {D : AE} (i : Nat) (hi : c.N[i]? = some x) (hN : c.N.Nodup) (hx : Loc c.sc x) (hf : c.fn x = true ∨ c.sc.names.lookup x = some .local) (h : EvX c δ M e fun a M1 => D.nx (δ.set i (some a)) M1)
    (hs1 : ∀ env, swapsWith e (some (.Name x p)) pos.line env = pure false) : Run1 c δ M (.Assign [.Name x p] e pos) D := fun y σ H ad he hs E q =>
  ⟨_, ps_set (X := y.cx) hN hi (by show Loc y.env.scope x; rw [y.sc]; exact hx) wE_ok (hs1 y.env) (by show c.fn x = true ∨ y.env.scope.names.lookup x = some .local; rw [y.sc]; exact hf),
    h y σ H ad he hs _ fun v H2 ad2 a M2 n s r p => q.nx _ H2 ad2 _ M2 n ((he.nx n).set r) s p⟩
theorem push_nx {ad ad2 : List Addr} {H H2 : Hp} {q : Addr} (n : Nx ad H ad2 H2) (hq : H q = none) (hn : q ∉ ad2) : Nx ad H (ad2 ++ [q]) H2 := by
  refine ⟨?_, fun a ha hna => ?_, n.keep, n.tx⟩
  · obtain ⟨t, e⟩ := n.pre
    exact ⟨t ++ [q], by rw [e, List.append_assoc]⟩
  · rcases List.mem_append.mp ha with z | z
    · exact n.fresh a z hna
    · rw [List.mem_singleton.mp z]
      exact hq
/-- x = a new list that will be changed: it goes into the store -/
theorem s_new {D : AE} (i : Nat) (hi : c.N[i]? = some x) (hN : c.N.Nodup) (hx : Loc c.sc x) (hf : c.fn x = true ∨ c.sc.names.lookup x = some .local) (h : EvF c δ M e fun ds M1 => D.nx (δ.set i (some (.mut M1.length))) (M1 ++ [.lst ds]))
    (hs1 : ∀ env, swapsWith e (some (.Name x p)) pos.line env = pure false) : Run1 c δ M (.Assign [.Name x p] e pos) D := fun y σ H ad he hs E q =>
  ⟨_, ps_set (X := y.cx) hN hi (by show Loc y.env.scope x; rw [y.sc]; exact hx) wE_ok (hs1 y.env) (by show c.fn x = true ∨ y.env.scope.names.lookup x = some .local; rw [y.sc]; exact hf),
    h y σ H ad he hs _ fun pq xs H2 ad2 ds M2 n s f1 f2 f3 f4 z => by
      have n2 := push_nx n f1 f2
      exact q.nx _ H2 (ad2 ++ [pq]) _ _ n2 ((he.nx n2).set (show RepA _ _ _ (.mut M2.length) _ from ⟨pq, by rw [← s.len, List.getElem?_append_right (Nat.le_refl _), Nat.sub_self]; rfl, rfl⟩)) (s.push (m := .lst ds) f2 ⟨xs, f3, f4⟩) z⟩
/-- x = [..]: the comprehension writes x itself -/
theorem s_setLc {D : AE} (own : List (Str × Nat)) (i : Nat) (hi : c.N[i]? = some x) (hxl : c.sc.names.lookup x = some .local) (hsw : ∀ env : Env, env.scope = c.sc → swapsWith (.ListComp elt [⟨tg, iter, ifs, 0⟩] scope pos) (some (.Name x p)) p1.line env = pure true)
    (ok : BlkOk c.N c.sc scope own) (hN : c.N.Nodup) (hf : ∀ env x, foldedSetIterable iter env x = pure x)
    (h : EvI c δ M tg iter fun ds src M1 => ds.length ≤ 1000000 ∧ ∃ I : Nat → List Fx.D → List MO → Prop, I 0 [] M1 ∧ (∀ i acc M2, I i acc M2 → ∀ j, src = some j → M2[j]? = some (.lst ds)) ∧
      (∀ i d acc M2, ds[i]? = some d → I i acc M2 → LcTurn (c.blk scope) (wipeD δ (own.map (·.2))) tg elt ifs (own.map (·.2)) d M2 (fun d' M4 => I (i + 1) (acc ++ [d']) M4) (fun M3 => I (i + 1) acc M3)) ∧ ∀ acc M2, I ds.length acc M2 → Pf acc M2)
    (k : (∀ ds M2, Pf ds M2 → D.nx (δ.set i (some (.ls ds))) M2) ∨ ∀ ds M2, Pf ds M2 → D.nx (δ.set i (some (.mut M2.length))) (M2 ++ [.lst ds])) :
    Run1 c δ M (.Assign [.Name x p] (.ListComp elt [⟨tg, iter, ifs, 0⟩] scope pos) p1) D := fun y σ H ad he hs E q =>
  ⟨_, ps_setLc (X := y.cx) (own := own) (wi := wI y.cx tg iter) (g := fun v σ H Q => ∀ s0 H0 C cl fp, wG (y.blk scope s0 H0 C cl fp).cx tg v σ H Q) (tt := fun σ H Q => ∀ s0 H0 C cl fp, wTs (y.blk scope s0 H0 C cl fp).cx ifs σ H Q)
    (te := fun σ H Q => ∀ s0 H0 C cl fp, wE (y.blk scope s0 H0 C cl fp).cx elt σ H Q) rfl hN hi (by show y.env.scope.names.lookup x = some .local; rw [y.sc]; exact hxl) (hsw y.env y.sc) wI_ok (by show BlkOk c.N y.env.scope scope own; rw [y.sc]; exact ok)
    (fun s0 H0 C cl fp => ⟨fun pins s σ H v u Q I r hw => (wG_ok (X := (y.blk scope s0 H0 C cl fp).cx)).run pins s σ H v u Q I r (hw s0 H0 C cl fp)⟩)
    (fun s0 H0 C cl fp => ⟨fun pins s σ H Q I hw => (wTs_ok (X := (y.blk scope s0 H0 C cl fp).cx)).run pins s σ H Q I (hw s0 H0 C cl fp)⟩)
    (fun s0 H0 C cl fp => ⟨fun pins s σ H Q I hw => (wE_ok (X := (y.blk scope s0 H0 C cl fp).cx)).run pins s σ H Q I (hw s0 H0 C cl fp)⟩) (hf y.env),
    lc_read h y σ H ad he hs _ fun pq xs H2 ad2 ds M2 n s f1 f2 f3 f4 z => by
      rcases k with k | k
      · exact q.nx _ H2 ad2 _ M2 n ((he.nx n).set (show RepA _ _ _ (.ls ds) _ from ⟨pq, xs, rfl, ⟨f3, f2⟩, f4⟩)) s (k ds M2 z)
      · have n2 := push_nx n f1 f2
        exact q.nx _ H2 (ad2 ++ [pq]) _ _ n2 ((he.nx n2).set (show RepA _ _ _ (.mut M2.length) _ from ⟨pq, by rw [← s.len, List.getElem?_append_right (Nat.le_refl _), Nat.sub_self]; rfl, rfl⟩)) (s.push (m := .lst ds) f2 ⟨xs, f3, f4⟩) (k ds M2 z)⟩
theorem s_asg {D : AE} (h : EvX c δ M e fun a M1 => EvGx c δ tg a fun δ2 => D.nx δ2 M1) (hs1 : ∀ env, swapsWithSole [tg] e pos.line env = pure false) (hw : ∀ env, swappedStores [tg] e env = pure none)
    (h1 : ∀ env, (assignEach [tg] env).map (·.2) = [assign tg env]) : Run1 c δ M (.Assign [tg] e pos) D := fun y σ H ad he hs E q =>
  ⟨_, ps_asg wE_ok wG_ok (hs1 y.env) (hw y.env) (h1 y.env), h y σ H ad he hs _ fun v H2 ad2 a M2 n s r ⟨_, p⟩ => p y σ H2 ad2 v (he.nx n) r _ fun σ2 δ2 e2 _ p2 => q.nx σ2 H2 ad2 δ2 M2 n e2 s p2⟩
/-- a, b = x, y -/
theorem s_par {D : AE} {x2 : Str} {px py pt pt2 : Pos} {kt k2 : Nat} (i j : Nat) (hi : c.N[i]? = some x) (hj : c.N[j]? = some x2) (hN : c.N.Nodup) (hij : i ≠ j) (hx : c.sc.names.lookup x = some .local) (hy : c.sc.names.lookup x2 = some .local)
    (h : EvA c δ M [a, b] fun as M1 => ∃ v w, as = [v, w] ∧ D.nx ((δ.set i (some v)).set j (some w)) M1)
    (hw : ∀ env : Env, env.scope = c.sc → swappedStores [.Tuple [.Name x px, .Name x2 py] kt pt] (.Tuple [a, b] k2 pt2) env = pure (some [x, x2]))
    (hs1 : ∀ env, swapsWithSole [.Tuple [.Name x px, .Name x2 py] kt pt] (.Tuple [a, b] k2 pt2) pos.line env = pure false) :
    Run1 c δ M (.Assign [.Tuple [.Name x px, .Name x2 py] kt pt] (.Tuple [a, b] k2 pt2) pos) D := fun y σ H ad he hs E q =>
  ⟨_, ps_par (X := y.cx) rfl hN hi hj hij (by show y.env.scope.names.lookup x = some .local; rw [y.sc]; exact hx) (by show y.env.scope.names.lookup x2 = some .local; rw [y.sc]; exact hy) wA_ok (hw y.env y.sc) (hs1 y.env),
    h y σ H ad he hs _ fun vs H2 ad2 as M2 n s r ⟨v, w, e, p⟩ => by
      subst e
      obtain ⟨v1, w1, e1, r1, r2⟩ := repAs2 r
      exact ⟨v1, w1, e1, q.nx _ H2 ad2 _ M2 n (((he.nx n).set r1).set r2) s p⟩⟩
/-- a list of the store changes at its place -/
def ipR (X : Cx) (op : Operator) : TIp := fun x y H Q => ∃ t, PIp X op t ∧ t x y H Q
/-- x op= e -/
theorem s_aug {D : AE} {op : Operator} {v : AV} (i : Nat) (hi : c.N[i]? = some x) (hN : c.N.Nodup) (hx : Loc c.sc x) (hf : c.fn x = true ∨ c.sc.names.lookup x = some .local) (hv : δ[i]? = some (some v))
    (h : EvX c δ M e fun a M1 => BinR c (inplaceOp op) v a M1 fun r M2 => D.nx (δ.set i (some r)) M2) : Run1 c δ M (.AugAssign (.Name x p) op e pos) D := fun y σ H ad he hs E q => by
  obtain ⟨w, hw, rw'⟩ := he.at_ i v hv
  refine ⟨_, ps_aug (X := y.cx) (ti := wO y.cx (inplaceOp op)) hN hi (by show Loc y.env.scope x; rw [y.sc]; exact hx) wE_ok (fun pins s σ H x y v u Q I r1 r2 ⟨t, ht, hq⟩ => ht pins s σ H x y v u Q I r1 r2 hq) (by show c.fn x = true ∨ y.env.scope.names.lookup x = some .local; rw [y.sc]; exact hf), w, hw, ?_⟩
  exact h y σ H ad he hs _ fun u H1 ad1 a M1 n1 s1 r1 p1 => p1 y H1 ad1 s1 w u (rw'.nx n1) r1 _ fun z H2 ad2 a2 M2 n2 s2 r2 p2 => q.nx _ H2 ad2 _ M2 (n1.trans n2) ((he.nx (n1.trans n2)).set r2) s2 p2
/-- for -/
theorem s_for {D : AE} {body : List Stmt} (h : EvI c δ M tg iter fun ds src M1 => ∃ I : Nat → Dl → List MO → Prop, I 0 δ M1 ∧ (∀ i δ2 M2, I i δ2 M2 → ∀ j, src = some j → M2[j]? = some (.lst ds)) ∧
      (∀ i d δ2 M2, ds[i]? = some d → I i δ2 M2 → EvGx c δ2 tg (.dat d) fun δ3 => Run c δ3 M2 body { D with nx := I (i + 1), ct := I (i + 1), bk := D.nx }) ∧ ∀ δ2 M2, I ds.length δ2 M2 → D.nx δ2 M2)
    (hf : ∀ env x, foldedSetIterable iter env x = pure x) : Run1 c δ M (.For tg iter body [] pos) D := fun y σ H ad he hs E q =>
  ⟨_, ps_for (X := y.cx) y.pass rfl wI_ok wG_ok wSs_ok (hf y.env), h y σ H ad he hs _ fun J H1 ad1 ds src M1 n1 s1 w ⟨I, i0, ik, it, idn⟩ => by
    refine ⟨fun i m σ' H' => m = ds.length - i ∧ i ≤ ds.length ∧ ∃ ad' M' δ', Nx ad1 H1 ad' H' ∧ StOk c.K ad' H' M' ∧ EnvOk c.K ad' H' σ' δ' ∧ I i δ' M', ⟨ds.length, by omega, Nat.zero_le _, ad1, M1, δ, Nx.refl, s1, he.nx n1, i0⟩, ?_⟩
    rintro i m σ' H' ⟨rfl, hi, ad', M', δ', n', s', e', inv⟩
    obtain ⟨hgo, hstop⟩ := w ad' H' M' n' s' (ik i δ' M' inv) i
    by_cases hlt : i < ds.length
    · obtain ⟨go, yl⟩ := hgo ds[i] (List.getElem?_eq_getElem hlt)
      refine .inr ⟨go, fun σ2 H2 => i + 1 ≤ ds.length ∧ ∃ ad' M' δ', Nx ad1 H1 ad' H2 ∧ StOk c.K ad' H2 M' ∧ EnvOk c.K ad' H2 σ2 δ' ∧ I (i + 1) δ' M', fun σ2 H2 hq => ⟨ds.length - (i + 1), by omega, rfl, hq⟩, fun x H3 hy => ?_⟩
      obtain ⟨sm, rx⟩ := yl x H3 hy
      have n3 : Nx ad1 H1 ad' H3 := n'.trans (Nx.same sm)
      obtain ⟨is, it'⟩ := it i ds[i] δ' M' (List.getElem?_eq_getElem hlt) inv
      refine it' y σ' H3 ad' x (e'.nx (Nx.same sm)) rx _ fun σ2 δ2 e2 _ p2 => ?_
      refine p2 y σ2 H3 ad' e2 (s'.same sm) _ ⟨fun σ4 H4 ad4 δ4 M4 n4 e4 s4 p4 => ⟨hlt, ad4, M4, δ4, n3.trans n4, s4, e4, p4⟩, fun v H4 ad4 a M4 n4 s4 r4 p4 => q.rt v H4 ad4 a M4 (n1.trans (n3.trans n4)) s4 r4 p4,
        fun σ4 H4 ad4 δ4 M4 n4 e4 s4 p4 => q.nx σ4 H4 ad4 δ4 M4 (n1.trans (n3.trans n4)) e4 s4 p4, fun σ4 H4 ad4 δ4 M4 n4 e4 s4 p4 => ⟨hlt, ad4, M4, δ4, n3.trans n4, s4, e4, p4⟩⟩
    · have ei : i = ds.length := by omega
      subst ei
      exact .inl ⟨hstop rfl, q.nx σ' H' ad' δ' M' (n1.trans n') e' s' (idn δ' M' inv)⟩⟩
/-- while -/
theorem s_while {D : AE} {body : List Stmt} (I : Nat → Dl → List MO → Prop) (n0 : Nat) (h0 : I n0 δ M)
    (h : ∀ n δ2 M2, I n δ2 M2 → EvT c δ2 M2 t fun k M3 => (k = true → Run c δ2 M3 body { D with nx := fun δ4 M4 => ∃ m, m < n ∧ I m δ4 M4, ct := fun δ4 M4 => ∃ m, m < n ∧ I m δ4 M4, bk := D.nx }) ∧ (k = false → D.nx δ2 M3)) :
    Run1 c δ M (.While t body [] pos) D := fun y σ H ad he hs E q => by
  refine ⟨_, ps_while (X := y.cx) y.pass wT_ok wSs_ok, fun m σ' H' => ∃ ad' M' δ', Nx ad H ad' H' ∧ StOk c.K ad' H' M' ∧ EnvOk c.K ad' H' σ' δ' ∧ I m δ' M', ⟨n0, ad, M, δ, Nx.refl, hs, he, h0⟩, ?_⟩
  rintro m σ' H' ⟨ad', M', δ', n', s', e', inv⟩
  refine h m δ' M' inv y σ' H' ad' e' s' _ fun b H1 ad1 M1 n1 s1 p1 => ?_
  cases b with
  | true =>
    refine iteT ⟨fun σ2 H2 => ∃ k, k < m ∧ ∃ ad' M' δ', Nx ad H ad' H2 ∧ StOk c.K ad' H2 M' ∧ EnvOk c.K ad' H2 σ2 δ' ∧ I k δ' M', fun σ2 H2 hq => hq, ?_⟩
    refine p1.1 rfl y σ' H1 ad1 (e'.nx n1) s1 _ ⟨fun σ4 H4 ad4 δ4 M4 n4 e4 s4 ⟨k, hk, p4⟩ => ⟨k, hk, ad4, M4, δ4, (n'.trans n1).trans n4, s4, e4, p4⟩, fun v H4 ad4 a M4 n4 s4 r4 p4 => q.rt v H4 ad4 a M4 ((n'.trans n1).trans n4) s4 r4 p4,
      fun σ4 H4 ad4 δ4 M4 n4 e4 s4 p4 => q.nx σ4 H4 ad4 δ4 M4 ((n'.trans n1).trans n4) e4 s4 p4, fun σ4 H4 ad4 δ4 M4 n4 e4 s4 ⟨k, hk, p4⟩ => ⟨k, hk, ad4, M4, δ4, (n'.trans n1).trans n4, s4, e4, p4⟩⟩
  | false => exact iteF (q.nx σ' H1 ad1 δ' M1 (n'.trans n1) (e'.nx n1) s1 (p1.2 rfl))
theorem s_cont {D : AE} (h : D.ct δ M) : Run1 c δ M (.Continue pos) D := fun y σ H ad he hs E q => ⟨_, ps_continue, q.ct σ H ad δ M Nx.refl he hs h⟩
end
end Fx

/-! Fx, part D: defs and their calls, built-in calls, lists of the store. -/
namespace Fx
open PySem L2

/-! ### a def of the text keeps its promise -/
structure DefOk (P : Program) (w : World) (K : PySem.W.Frag) (mg : Str → Option Value) (base : Heap) (k : Nat) (x : Str) (st : Stmt) (ps : List Str) (sp : Sp) : Prop where
  ex : ∃ fa fd, mg x = some (.ref fa) ∧ Fun K x x st fa fd ∧ Binds K fd ps [] ∧ FnOk P w K mg base CX0 k fa fd ps sp
section
variable {P : Program} {w : World} {K : PySem.W.Frag} {mg : Str → Option Value} {base : Heap} {k : Nat} {x : Str} {st : Stmt} {ps N : List Str}
@[reducible] def scOf (P : Program) (w : World) (K : PySem.W.Frag) (mg : Str → Option Value) (base : Heap) (N : List Str) (st : Stmt) (k : Nat) : SC := { P := P, w := w, K := K, mg := mg, base := base, N := N, sc := defScope st, fn := fun _ => true, k := k }
/-- what is handed back, the def's own objects forgotten -/
def Fin (M : List MO) (Post : AQ) : AQ := fun a M2 => Post a M2 ∨ ∃ rest, M2 = M ++ rest ∧
  ((∃ d, a = .dat d ∧ Post a M) ∨ (∃ ds, a = .ls ds ∧ Post a M) ∨ (∃ j ds, a = .mut j ∧ M.length ≤ j ∧ M2[j]? = some (.lst ds) ∧ Post (.ls ds) M) ∨ ∃ ds, a = .tx ds ∧ Post a M)
theorem fin_same {M : List MO} {Post : AQ} {a : AV} {M2 : List MO} (h : Post a M2) : Fin M Post a M2 := .inl h
theorem fin_dat {M rest : List MO} {Post : AQ} {d : D} (h : Post (.dat d) M) : Fin M Post (.dat d) (M ++ rest) := .inr ⟨rest, rfl, .inl ⟨d, rfl, h⟩⟩
theorem fin_ls {M rest : List MO} {Post : AQ} {ds : List D} (h : Post (.ls ds) M) : Fin M Post (.ls ds) (M ++ rest) := .inr ⟨rest, rfl, .inr (.inl ⟨ds, rfl, h⟩)⟩
theorem fin_mut {M rest : List MO} {Post : AQ} {j : Nat} {ds : List D} (hj : M.length ≤ j) (hm : (M ++ rest)[j]? = some (.lst ds)) (h : Post (.ls ds) M) : Fin M Post (.mut j) (M ++ rest) := .inr ⟨rest, rfl, .inr (.inr (.inl ⟨j, ds, rfl, hj, hm, h⟩))⟩
theorem fin_tx {M rest : List MO} {Post : AQ} {ds : List D} (h : Post (.tx ds) M) : Fin M Post (.tx ds) (M ++ rest) := .inr ⟨rest, rfl, .inr (.inr (.inr ⟨ds, rfl, h⟩))⟩
theorem RepF.back {K : PySem.W.Frag} {ad t : List Addr} {H H2 : Hp} : ∀ {a : AV} {v u : V}, RepF K ad H a u → RepF K (ad ++ t) H2 a v → RepF K ad H2 a v
  | .dat _, _, _, _, h => h
  | .mut _, _, _, ⟨b, hb, _⟩, ⟨a, q, e⟩ => ⟨a, by
    rw [List.getElem?_append_left (List.getElem?_eq_some_iff.mp hb).1] at q
    exact q, e⟩
  | .ls _, _, _, _, h => h.elim
  | .la _, _, _, _, h => h.elim
  | .ta _, _, _, _, h => h.elim
  | .scr _, _, _, _, h => h.elim
  | .tx _, _, _, _, h => h.elim
  | .exc _ _, _, _, _, h => h.elim
  | .fn _, _, _, _, h => h.elim
theorem RepFs.back {K : PySem.W.Frag} {ad t : List Addr} {H H2 : Hp} : ∀ {a : List (Str × AV)} {v u : List (Str × V)}, RepFs K ad H a u → RepFs K (ad ++ t) H2 a v → RepFs K ad H2 a v
  | [], _, _, _, h => h
  | _ :: _, _, _, ⟨x, r, e, h1, h2⟩, ⟨x2, r2, e2, h3, h4⟩ => ⟨x2, r2, e2, RepF.back h1 h3, RepFs.back h2 h4⟩
theorem StOk.back {K : PySem.W.Frag} {ad t : List Addr} {H H2 : Hp} {M rest : List MO} (S : StOk K ad H M) (S2 : StOk K (ad ++ t) H2 (M ++ rest)) : StOk K ad H2 M := by
  refine ⟨S.nd, S.len, fun j m e => ?_⟩
  obtain ⟨a, ha, o⟩ := S.obj j m e
  obtain ⟨a2, ha2, o2⟩ := S2.obj j m (by rw [List.getElem?_append_left (List.getElem?_eq_some_iff.mp e).1]; exact e)
  have lt : ∀ {i : Nat} {b : Addr}, ad[i]? = some b → (ad ++ t)[i]? = some b := fun {i b} q => by
    rw [List.getElem?_append_left (List.getElem?_eq_some_iff.mp q).1]
    exact q
  rw [lt ha] at ha2
  cases ha2
  refine ⟨a, ha, ?_⟩
  cases m with
  | lst ds => exact o2
  | town i =>
    obtain ⟨c, b, hb, k⟩ := o2
    obtain ⟨c', b', hb', k'⟩ := o
    rw [lt hb'] at hb
    cases hb
    exact ⟨c, _, hb', k⟩
  | rests => exact o2
  | tab P q => exact o2
  | kd ks => exact o2
  | ins C fs =>
    obtain ⟨dx, xs, h1, h2⟩ := o2
    obtain ⟨dx', xs', h1', h2'⟩ := o
    exact ⟨dx, xs, h1, RepFs.back h2' h2⟩
theorem Nx.back {ad t : List Addr} {H H2 : Hp} (n : Nx ad H (ad ++ t) H2) : Nx ad H ad H2 := ⟨⟨[], by simp⟩, fun a h k => absurd h k, n.keep, n.tx⟩
theorem fn_mk {fa : Addr} {fd : FuncData} {ql : Str} {A : ASp} (F : Fun K x ql st fa fd) (S : FnScope N ps (defScope st))
    (h : ∀ as M Post, as.length = ps.length → A as M Post → Run (scOf P w K mg base N st k) (as.map some ++ List.replicate (N.length - as.length) none) M (defBody st) { nx := fun _ M2 => Fin M Post (.dat .non) M2, rt := Fin M Post }) :
    FnOk P w K mg base CX0 (k + 1) fa fd ps (spOf K ps.length A) := by
  refine F.ok S (fun vs H Q E h => h.1) (fun cdv A' outer s H vs Q E hr hsp => ?_)
  obtain ⟨hl, ad, as, M, Post, hs, hr2, hA, q⟩ := hsp
  have fin : ∀ v H2 ad2 a M2, Nx ad H ad2 H2 → StOk K ad2 H2 M2 → RepA K ad2 H2 a v → Fin M Post a M2 → Q v H2 := by
    intro v H2 ad2 a M2 n s2 r p
    rcases p with p | ⟨rest, rfl, p⟩
    · exact q v H2 ad2 a M2 n s2 r p
    · obtain ⟨t, rfl⟩ := n.pre
      have sb := hs.back s2
      rcases p with ⟨d, rfl, p⟩ | ⟨ds, rfl, p⟩ | ⟨j, ds, rfl, hj, hm, p⟩ | ⟨ds, rfl, p⟩
      · exact q v H2 ad (.dat d) M n.back sb r p
      · obtain ⟨b, xs, e, ⟨h1, h2⟩, h3⟩ := r
        exact q v H2 ad (.ls ds) M n.back sb ⟨b, xs, e, ⟨h1, fun z => h2 (List.mem_append_left _ z)⟩, h3⟩ p
      · obtain ⟨b, hb, e⟩ := r
        obtain ⟨b2, hb2, xs, h1, h3⟩ := s2.obj j _ hm
        rw [hb] at hb2
        cases hb2
        refine q v H2 ad (.ls ds) M n.back sb ⟨b, xs, e, ⟨h1, fun z => ?_⟩, h3⟩ p
        obtain ⟨i, hi⟩ := List.getElem?_of_mem z
        have hi2 := hi
        rw [← List.getElem?_append_left (l₂ := t) (List.getElem?_eq_some_iff.mp hi).1] at hi
        have := nd_ix s2.nd hi hb
        have h4 := (List.getElem?_eq_some_iff.mp hi2).1
        rw [hs.len] at h4
        omega
      · exact q v H2 ad (.tx ds) M n.back sb r p
  let env := PyProof.Rows.envOfC ql (defScope st) s.heap.objs.size fa cdv
  let y : Dyn (scOf P w K mg base N st k) := ⟨A'.deeper env, s, H, env, outer, env :: outer, [], [], fun _ _ => False, rfl, hr, PassesOwn.never, trivial⟩
  exact ⟨wSs y.cx (defBody st), wSs_ok, h as M Post (by rw [← repAs_length hr2]; exact hl) hA y _ H ad (envOk_start hr2) hs _
    ⟨fun _ H2 ad2 _ M2 n _ s2 p => fin _ H2 ad2 (.dat .non) M2 n s2 rfl p, fun v H2 ad2 a M2 n s2 r p => fin v H2 ad2 a M2 n s2 r p, fun _ _ _ _ _ _ _ _ z => z.elim, fun _ _ _ _ _ _ _ _ z => z.elim⟩⟩
end

/-! ### calls -/
section
variable {c : SC} {δ : Dl} {M : List MO} {Post : AQ} {a b e t : Expr} {es : List Expr} {pos p p1 p2 : Pos} {x : Str} {k : Nat} {st : Stmt} {ps : List Str} {Pf : List D → List MO → Prop}
theorem x_call {A : ASp} (F : DefOk c.P c.w c.K c.mg c.base k x st ps (spOf c.K ps.length A)) (hk : k ≤ c.k) (hg : c.gl x) (h : EvA c δ M (e :: es) fun as M1 => as.length = ps.length ∧ A as M1 Post)
    (hst : ∀ env, starEach (e :: es) env = (false, eval e env) :: starEach es env) (hpl : ∀ env, (backTo pos (starEach es env)).any (·.1) = false) (hdb : (x == ("__debug__" : Str)) = false := by decide) : EvX c δ M (.Call (.Name x p) (e :: es) [] pos) Post := fun y σ H ad he hs Q q => by
  obtain ⟨fa, fd, hm, F1, hb, ok⟩ := F.ex
  refine ⟨_, pe_call (X := y.cx) ok (y.room.mono hk) (glS y hg) hm F1.kp hb .nil pass0 wA_ok hdb (hst y.env) (hpl y.env), h y σ H ad he hs _ fun vs H1 ad1 as M1 n1 s1 r1 ⟨hl, hA⟩ => ?_⟩
  rw [List.append_nil]
  exact ⟨by rw [repAs_length r1]; exact hl, ad1, as, M1, Post, s1, r1, hA, fun v H2 ad2 a2 M2 n2 s2 r2 p2 => q v H2 ad2 a2 M2 (n1.trans n2) s2 r2 p2⟩
theorem x_call0 {A : ASp} (F : DefOk c.P c.w c.K c.mg c.base k x st [] (spOf c.K 0 A)) (hk : k ≤ c.k) (hg : c.gl x) (h : A [] M Post) (hdb : (x == ("__debug__" : Str)) = false := by decide) : EvX c δ M (.Call (.Name x p) [] [] pos) Post := fun y σ H ad he hs Q q => by
  obtain ⟨fa, fd, hm, F1, hb, ok⟩ := F.ex
  exact ⟨_, pe_call0 (X := y.cx) ok (y.room.mono hk) (glS y hg) hm F1.kp hb .nil pass0 hdb, rfl, ad, [], M, Post, hs, rfl, h, fun v H2 ad2 a2 M2 n2 s2 r2 p2 => q v H2 ad2 a2 M2 n2 s2 r2 p2⟩
/-- keywords: the positional ones, then the rest in the def's own order -/
def ordK (m n : Nat) {α : Type} (us ws : List α) : List α := if us.length = m ∧ ws.length = n then us ++ ws else []
theorem repAs_append {K : PySem.W.Frag} {ad : List Addr} {H : Hp} : ∀ {as bs : List AV} {vs us : List V}, RepAs K ad H as vs → RepAs K ad H bs us → RepAs K ad H (as ++ bs) (vs ++ us)
  | [], _, _, _, h, k => by rw [show _ = [] from h]; exact k
  | _ :: _, _, _, _, ⟨x, r, e, h1, h2⟩, k => by
    subst e
    exact ⟨x, _, rfl, h1, repAs_append h2 k⟩
theorem vals_append {xs ys : List V} {us ws : List Value} (a : Vals xs us) (b : Vals ys ws) : Vals (xs ++ ys) (us ++ ws) := a.append b
theorem x_callK {A : ASp} {kws : List Keyword} {m n : Nat} (ks : List Str) (F : DefOk c.P c.w c.K c.mg c.base k x st ps (spOf c.K ps.length A)) (hk : k ≤ c.k) (hg : c.gl x)
    (hB : ∀ (kV doc pm : Value) (an : Option Addr) (cdv ct : Value) (us ws : List Value), us.length = m → ws.length = n → bindArgs (PySem.W.fnOf x x (defArgs st) (defBody st) (defScope st) .none kV doc pm an cdv ct) ⟨us, ks.zip ws⟩ = pure (ps.zip (us ++ ws)))
    (hmn : ps.length = m + n) (hn0 : 0 < m + n)
    (h : EvA c δ M (e :: es) fun as M1 => EvK c δ M1 kws fun bs M2 => as.length = m ∧ bs.length = n ∧ A (as ++ bs) M2 Post)
    (hst : ∀ env, starEach (e :: es) env = (false, eval e env) :: starEach es env) (hall : ∀ env, (backToKw pos (keywordEach kws env)).all (·.1.isSome) = true) (hks : ∀ env, (backToKw pos (keywordEach kws env)).filterMap (·.1) = ks)
    (hpl : ∀ env, ((backTo pos (starEach (e :: es) env)).any (·.1) || (backToKw pos (keywordEach kws env)).any (·.1.isNone)) = false) (hdb : (x == ("__debug__" : Str)) = false := by decide) : EvX c δ M (.Call (.Name x p) (e :: es) kws pos) Post := fun y σ H ad he hs Q q => by
  obtain ⟨fa, fd, hm, F1, hb, ok⟩ := F.ex
  have kb : KBinds c.K fd ps ks (ordK m n) (ordK m n) := by
    obtain ⟨oc, od, kV, doc, pm, an, cdv, ct, osl, rfl, lk, hcd⟩ := F1.ex
    refine ⟨fun s us ws _ hl => ?_, fun {vs us zs ws} r1 r2 => ?_⟩
    · unfold ordK at hl ⊢
      by_cases hc : us.length = m ∧ ws.length = n
      · rw [if_pos hc]
        exact .of_eq (hB kV doc pm an cdv ct us ws hc.1 hc.2)
      · rw [if_neg hc] at hl
        have : ([] : List Value).length = 0 := rfl
        omega
    · unfold ordK
      rw [r1.length, r2.length]
      by_cases hc : us.length = m ∧ ws.length = n
      · rw [if_pos hc, if_pos hc]
        exact vals_append r1 r2
      · rw [if_neg hc, if_neg hc]
        exact .nil
  refine ⟨_, pe_callK (X := y.cx) (ks := ks) ok (y.room.mono hk) (glS y hg) hm F1.kp kb pass0 wA_ok wK_ok (hall y.env) (hks y.env) hdb (hst y.env) (hpl y.env), h y σ H ad he hs _ fun vs H1 ad1 as M1 n1 s1 r1 p1 => p1 y σ H1 ad1 (he.nx n1) s1 _ fun us H2 ad2 bs M2 n2 s2 r2 ⟨l1, l2, hA⟩ => ?_⟩
  have e1 : vs.length = m ∧ us.length = n := ⟨by rw [repAs_length r1]; exact l1, by rw [repAs_length r2]; exact l2⟩
  unfold ordK
  rw [if_pos e1]
  exact ⟨by rw [List.length_append, e1.1, e1.2, hmn], ad2, as ++ bs, M2, Post, s2, repAs_append (r1.nx n2) r2, hA, fun v H3 ad3 a3 M3 n3 s3 r3 p3 => q v H3 ad3 a3 M3 ((n1.trans n2).trans n3) s3 r3 p3⟩

/-! ### built-in calls -/
def wC (X : Cx) (fv : Value) : List V → Hp → VK → Prop := fun vs H Q => ∃ r, CallR X fv r ∧ r vs H Q
theorem wC_ok {X : Cx} {fv : Value} : CallR X fv (wC X fv) := fun pins s σ H xs us Q I r ⟨t, h, q⟩ => h pins s σ H xs us Q I r q
def CallA (c : SC) (fv : Value) (as : List AV) (M : List MO) (Post : AQ) : Prop :=
  ∀ (z : Dyn c) (H : Hp) (ad : List Addr), StOk c.K ad H M → ∀ vs, RepAs c.K ad H as vs → ∀ Q : VK,
    (∀ v H2 ad2 a M2, Nx ad H ad2 H2 → StOk c.K ad2 H2 M2 → RepA c.K ad2 H2 a v → Post a M2 → Q v H2) → wC z.cx fv vs H Q
def CallF (c : SC) (fv : Value) (as : List AV) (M : List MO) (Pf : List D → List MO → Prop) : Prop :=
  ∀ (z : Dyn c) (H : Hp) (ad : List Addr), StOk c.K ad H M → ∀ vs, RepAs c.K ad H as vs → ∀ Q : VK,
    (∀ p xs H2 ad2 ds M2, Nx ad H ad2 H2 → StOk c.K ad2 H2 M2 → H p = none → p ∉ ad2 → H2 p = some (.lst xs) → Reps c.K H2 ds xs → Pf ds M2 → Q (.ref p) H2) → wC z.cx fv vs H Q
variable {id T : String}
theorem x_blt (hg : c.gl x) (hm : c.mg x = none) (hv : bootBuiltins x = some (.builtin id)) (h : EvA c δ M (e :: es) fun as M1 => CallA c (.builtin id) as M1 Post)
    (hst : ∀ env, starEach (e :: es) env = (false, eval e env) :: starEach es env) (hpl : ∀ env, (backTo pos (starEach es env)).any (·.1) = false) (hn : x ≠ "__name__" := by decide) (hdb : (x == ("__debug__" : Str)) = false := by decide) : EvX c δ M (.Call (.Name x p) (e :: es) [] pos) Post := fun y σ H ad he hs Q q =>
  ⟨_, pe_callB (X := y.cx) wC_ok (glS y hg) hm hv wA_ok hn hdb (hst y.env) (hpl y.env), h y σ H ad he hs _ fun vs H1 ad1 as M1 n1 s1 r1 p1 => p1 y H1 ad1 s1 vs r1 Q fun v H2 ad2 a2 M2 n2 s2 r2 p2 => q v H2 ad2 a2 M2 (n1.trans n2) s2 r2 p2⟩
theorem f_blt (hg : c.gl x) (hm : c.mg x = none) (hv : bootBuiltins x = some (.builtin id)) (h : EvA c δ M (e :: es) fun as M1 => CallF c (.builtin id) as M1 Pf)
    (hst : ∀ env, starEach (e :: es) env = (false, eval e env) :: starEach es env) (hpl : ∀ env, (backTo pos (starEach es env)).any (·.1) = false) (hn : x ≠ "__name__" := by decide) (hdb : (x == ("__debug__" : Str)) = false := by decide) : EvF c δ M (.Call (.Name x p) (e :: es) [] pos) Pf := fun y σ H ad he hs Q q =>
  ⟨_, pe_callB (X := y.cx) wC_ok (glS y hg) hm hv wA_ok hn hdb (hst y.env) (hpl y.env), h y σ H ad he hs _ fun vs H1 ad1 as M1 n1 s1 r1 p1 => p1 y H1 ad1 s1 vs r1 Q fun pq xs H2 ad2 ds M2 n2 s2 f1 f2 f3 f4 z => q pq xs H2 ad2 ds M2 (n1.trans n2) s2 (free_back n1 s1 f1) f2 f3 f4 z⟩
theorem x_ty (hg : c.gl x) (hm : c.mg x = none) (hv : bootBuiltins x = some (.type T)) (h : EvA c δ M (e :: es) fun as M1 => CallA c (.type T) as M1 Post)
    (hst : ∀ env, starEach (e :: es) env = (false, eval e env) :: starEach es env) (hpl : ∀ env, (backTo pos (starEach es env)).any (·.1) = false) (hn : x ≠ "__name__" := by decide) (hdb : (x == ("__debug__" : Str)) = false := by decide) : EvX c δ M (.Call (.Name x p) (e :: es) [] pos) Post := fun y σ H ad he hs Q q =>
  ⟨_, pe_callTy (X := y.cx) wC_ok (glS y hg) hm hv wA_ok hn hdb (hst y.env) (hpl y.env), h y σ H ad he hs _ fun vs H1 ad1 as M1 n1 s1 r1 p1 => p1 y H1 ad1 s1 vs r1 Q fun v H2 ad2 a2 M2 n2 s2 r2 p2 => q v H2 ad2 a2 M2 (n1.trans n2) s2 r2 p2⟩
theorem f_ty (hg : c.gl x) (hm : c.mg x = none) (hv : bootBuiltins x = some (.type T)) (h : EvA c δ M (e :: es) fun as M1 => CallF c (.type T) as M1 Pf)
    (hst : ∀ env, starEach (e :: es) env = (false, eval e env) :: starEach es env) (hpl : ∀ env, (backTo pos (starEach es env)).any (·.1) = false) (hn : x ≠ "__name__" := by decide) (hdb : (x == ("__debug__" : Str)) = false := by decide) : EvF c δ M (.Call (.Name x p) (e :: es) [] pos) Pf := fun y σ H ad he hs Q q =>
  ⟨_, pe_callTy (X := y.cx) wC_ok (glS y hg) hm hv wA_ok hn hdb (hst y.env) (hpl y.env), h y σ H ad he hs _ fun vs H1 ad1 as M1 n1 s1 r1 p1 => p1 y H1 ad1 s1 vs r1 Q fun pq xs H2 ad2 ds M2 n2 s2 f1 f2 f3 f4 z => q pq xs H2 ad2 ds M2 (n1.trans n2) s2 (free_back n1 s1 f1) f2 f3 f4 z⟩

theorem ca_len {v : AV} {ds : List D} (hv : IsS M v ds) (h : Post (.dat (.int ds.length)) M) : CallA c (.builtin "len") [v] M Post := fun z H ad hs vs r Q q => by
  obtain ⟨u, rfl, ru⟩ := repAs1 r
  obtain ⟨pp, xs, rfl, hq, rr⟩ := hv.sq hs ru
  refine ⟨_, call_len_seq, pp, xs, rfl, hq, ?_⟩
  rw [rr.length]
  exact q _ H ad (.dat (.int ds.length)) M Nx.refl hs rfl h
theorem ca_lenS {s : Str} (hl : s.length ≤ 1000000) (h : Post (.dat (.int s.length)) M) : CallA c (.builtin "len") [.dat (.str s)] M Post := fun z H ad hs vs r Q q => by
  obtain ⟨u, rfl, ru⟩ := repAs1 r
  rw [show u = .str s from ru]
  exact ⟨_, call_len_str, s, rfl, Nat.le_trans hl (by decide), q _ H ad (.dat (.int s.length)) M Nx.refl hs rfl h⟩
theorem ca_sum {v : AV} {ns : List Int} (hv : IsL M v (ns.map .int)) (h : Post (.dat (.int ns.sum)) M) : CallA c (.builtin "sum") [v] M Post := fun z H ad hs vs r Q q => by
  obtain ⟨u, rfl, ru⟩ := repAs1 r
  obtain ⟨pp, xs, rfl, hq, rr⟩ := hv.sq hs ru
  rw [reps_ints.mp rr] at hq
  exact ⟨_, cr_sum rfl, pp, ns, rfl, hq, q _ H ad (.dat (.int ns.sum)) M Nx.refl hs rfl h⟩
theorem ca_max {v : AV} {ns : List Int} (hv : IsL M v (ns.map .int)) (hl : 0 < ns.length) (h : ∀ m, m ∈ ns → (∀ y, y ∈ ns → y ≤ m) → Post (.dat (.int m)) M) : CallA c (.builtin "max") [v] M Post := fun z H ad hs vs r Q q => by
  obtain ⟨u, rfl, ru⟩ := repAs1 r
  obtain ⟨pp, xs, rfl, hq, rr⟩ := hv.sq hs ru
  rw [reps_ints.mp rr] at hq
  exact ⟨_, cr_max rfl, pp, ns, rfl, hq, hl, fun m h1 h2 => q _ H ad (.dat (.int m)) M Nx.refl hs rfl (h m h1 h2)⟩
theorem ca_min {v : AV} {ns : List Int} (hv : IsL M v (ns.map .int)) (hl : 0 < ns.length) (h : ∀ m, m ∈ ns → (∀ y, y ∈ ns → m ≤ y) → Post (.dat (.int m)) M) : CallA c (.builtin "min") [v] M Post := fun z H ad hs vs r Q q => by
  obtain ⟨u, rfl, ru⟩ := repAs1 r
  obtain ⟨pp, xs, rfl, hq, rr⟩ := hv.sq hs ru
  rw [reps_ints.mp rr] at hq
  exact ⟨_, cr_min rfl, pp, ns, rfl, hq, hl, fun m h1 h2 => q _ H ad (.dat (.int m)) M Nx.refl hs rfl (h m h1 h2)⟩
theorem ca_max2 {i j : Int} (h : Post (.dat (.int (if j > i then j else i))) M) : CallA c (.builtin "max") [.dat (.int i), .dat (.int j)] M Post := fun z H ad hs vs r Q q => by
  obtain ⟨u, w, rfl, ru, rw'⟩ := repAs2 r
  rw [show u = .int i from ru, show w = .int j from rw']
  exact ⟨_, call_max2 rfl, i, j, rfl, q _ H ad (.dat (.int _)) M Nx.refl hs rfl h⟩
theorem ca_min2 {i j : Int} (h : Post (.dat (.int (if j < i then j else i))) M) : CallA c (.builtin "min") [.dat (.int i), .dat (.int j)] M Post := fun z H ad hs vs r Q q => by
  obtain ⟨u, w, rfl, ru, rw'⟩ := repAs2 r
  rw [show u = .int i from ru, show w = .int j from rw']
  exact ⟨_, call_min2 rfl, i, j, rfl, q _ H ad (.dat (.int _)) M Nx.refl hs rfl h⟩
theorem ca_all {v : AV} {bs : List Bool} (hv : IsL M v (bs.map .bl)) (h : Post (.dat (.bl (bs.all (fun b => b)))) M) : CallA c (.builtin "all") [v] M Post := fun z H ad hs vs r Q q => by
  obtain ⟨u, rfl, ru⟩ := repAs1 r
  obtain ⟨pp, xs, rfl, hq, rr⟩ := hv.sq hs ru
  rw [reps_bls.mp rr] at hq
  exact ⟨_, cr_all rfl, pp, bs, rfl, hq, q _ H ad (.dat (.bl (bs.all (fun b => b)))) M Nx.refl hs rfl h⟩
theorem cf_sorted {v : AV} {ns : List Int} (hv : IsL M v (ns.map .int)) (hl : ns.length < 64) (h : ∀ ns' : List Int, ns'.Perm ns → ns'.Pairwise (· ≤ ·) → Pf (ns'.map .int) M) : CallF c (.builtin "sorted") [v] M Pf := fun z H ad hs vs r Q q => by
  obtain ⟨u, rfl, ru⟩ := repAs1 r
  obtain ⟨pp, xs, rfl, hq, rr⟩ := hv.sq hs ru
  rw [reps_ints.mp rr] at hq
  refine ⟨_, cr_sorted, pp, ns, rfl, hq, hl, fun ns' q' h1 h2 hn => ?_⟩
  have sm := same_new (o := .lst (ns'.map V.int)) hn
  exact q q' _ _ ad (ns'.map .int) M (Nx.same sm) (hs.same sm) hn (hs.free hn) upd_same (reps_ints.mpr rfl) (h ns' h1 h2)
theorem ca_tuple {v : AV} {ds : List D} (hv : IsS M v ds) (h : Post (.dat (.tup ds)) M) : CallA c (.type "tuple") [v] M Post := fun z H ad hs vs r Q q => by
  obtain ⟨u, rfl, ru⟩ := repAs1 r
  obtain ⟨pp, xs, rfl, hq, rr⟩ := hv.sq hs ru
  refine ⟨_, call_tuple_of, pp, xs, rfl, ?_⟩
  rcases hq with hq | hq
  · refine .inl ⟨hq, fun l hn => ?_⟩
    have sm := same_new (o := .tup xs) hn
    exact q _ _ ad (.dat (.tup ds)) M (Nx.same sm) (hs.same sm) ⟨l, xs, rfl, .inl (.inl upd_same), rr.tx (Tx.same sm)⟩ h
  · exact .inr ⟨hq, q _ H ad (.dat (.tup ds)) M Nx.refl hs ⟨pp, xs, rfl, hq, rr⟩ h⟩
theorem cf_list {v : AV} {ds : List D} (hv : IsS M v ds) (h : Pf ds M) : CallF c (.type "list") [v] M Pf := fun z H ad hs vs r Q q => by
  obtain ⟨u, rfl, ru⟩ := repAs1 r
  obtain ⟨pp, xs, rfl, hq, rr⟩ := hv.sq hs ru
  refine ⟨_, call_list_of, pp, xs, rfl, hq, fun l hn => ?_⟩
  have sm := same_new (o := .lst xs) hn
  exact q l xs _ ad ds M (Nx.same sm) (hs.same sm) hn (hs.free hn) upd_same (rr.tx (Tx.same sm)) h
/-- list(range(..)), tuple(range(..)) -/
def EvR (c : SC) (δ : Dl) (M : List MO) (e : Expr) (Pr : Int → Int → List MO → Prop) : Prop :=
  ∀ (y : Dyn c) (σ : L2.St) (H : Hp) (ad : List Addr), EnvOk c.K ad H σ δ → StOk c.K ad H M → ∀ Q : Int → Int → Hp → Prop,
    (∀ lo hi H2 ad2 M2, Nx ad H ad2 H2 → StOk c.K ad2 H2 M2 → Pr lo hi M2 → Q lo hi H2) → ∃ t, PRg y.cx e t ∧ t σ H Q
theorem rg_1 {Pr : Int → Int → List MO → Prop} (hm : c.mg "range" = none) (hg : c.gl "range") (h : EvX c δ M a fun v M1 => ∃ n, v = .dat (.int n) ∧ Pr 0 n M1) (hst : ∀ env, starEach [a] env = (false, eval a env) :: starEach [] env) : EvR c δ M (.Call (.Name "range" p) [a] [] pos) Pr := fun y σ H ad he hs Q q =>
  ⟨_, prg_1 (X := y.cx) (glS y hg) hm wE_ok (hst y.env), h y σ H ad he hs _ fun v H1 ad1 a1 M1 n1 s1 r1 ⟨n, e, p1⟩ => by
    subst e
    exact ⟨n, r1, q 0 n H1 ad1 M1 n1 s1 p1⟩⟩
theorem rg_2 {Pr : Int → Int → List MO → Prop} (hm : c.mg "range" = none) (hg : c.gl "range") (h : EvX c δ M a fun v M1 => EvX c δ M1 b fun w M2 => ∃ m n, v = .dat (.int m) ∧ w = .dat (.int n) ∧ Pr m n M2) (hst : ∀ env, starEach [a, b] env = (false, eval a env) :: starEach [b] env)
    (hst2 : ∀ env, starEach [b] env = (false, eval b env) :: starEach [] env) (hpl : ∀ env, (backTo pos (starEach [b] env)).any (·.1) = false) : EvR c δ M (.Call (.Name "range" p) [a, b] [] pos) Pr := fun y σ H ad he hs Q q =>
  ⟨_, prg_2 (X := y.cx) (glS y hg) hm wE_ok wE_ok (hst y.env) (hst2 y.env) (hpl y.env), h y σ H ad he hs _ fun v H1 ad1 a1 M1 n1 s1 r1 p1 => p1 y σ H1 ad1 (he.nx n1) s1 _ fun w H2 ad2 a2 M2 n2 s2 r2 ⟨m, n, e1, e2, p2⟩ => by
    subst e1 e2
    exact ⟨m, n, r1, r2, q m n H2 ad2 M2 (n1.trans n2) s2 p2⟩⟩
theorem rgD_V (a b : Int) : rgV a b = (List.range (b - a).toNat).map (fun i => V.int (a + (i : Nat))) := rfl
theorem reps_rg {K : PySem.W.Frag} {H : Hp} (a b : Int) : Reps K H (rgD a b) (rgV a b) := by
  have gen : ∀ l : List Nat, Reps K H (l.map fun i => D.int (a + (i : Nat))) (l.map fun i => V.int (a + (i : Nat))) := by
    intro l
    induction l with
    | nil => rfl
    | cons i l ih => exact ⟨_, _, rfl, rfl, ih⟩
  exact gen _
def wR (X : Cx) (e : Expr) : L2.St → Hp → (Int → Int → Hp → Prop) → Prop := fun σ H Q => ∃ t, PRg X e t ∧ t σ H Q
theorem wR_ok {X : Cx} {e : Expr} : PRg X e (wR X e) := fun pins s σ H Q I ⟨t, h, q⟩ => h pins s σ H Q I q
theorem f_lrg (hm : c.mg "list" = none) (hg : c.gl "list") (h : EvR c δ M e fun lo hi M1 => (-(2 ^ 20) ≤ lo ∧ lo ≤ 2 ^ 20 ∧ -(2 ^ 20) ≤ hi ∧ hi ≤ 2 ^ 20) ∧ Pf (rgD lo hi) M1) (hst : ∀ env, starEach [e] env = (false, eval e env) :: starEach [] env) : EvF c δ M (.Call (.Name "list" p) [e] [] pos) Pf := fun y σ H ad he hs Q q =>
  ⟨_, pe_listRg (X := y.cx) rfl (glS y hg) hm wR_ok (hst y.env), h y σ H ad he hs _ fun lo hi H1 ad1 M1 n1 s1 ⟨b, p1⟩ => by
    refine ⟨⟨by omega, by omega, by omega, by omega, by omega⟩, fun qq hn => ?_⟩
    have sm := same_new (o := .lst (rgV lo hi)) hn
    exact q qq _ _ ad1 _ M1 (n1.trans (Nx.same sm)) (s1.same sm) (free_back n1 s1 hn) (s1.free hn) upd_same (reps_rg lo hi) p1⟩
theorem x_trg (hm : c.mg "tuple" = none) (hg : c.gl "tuple") (h : EvR c δ M e fun lo hi M1 => (-(2 ^ 20) ≤ lo ∧ lo ≤ 2 ^ 20 ∧ -(2 ^ 20) ≤ hi ∧ hi ≤ 2 ^ 20) ∧ Post (.dat (.tup (rgD lo hi))) M1) (hst : ∀ env, starEach [e] env = (false, eval e env) :: starEach [] env) : EvX c δ M (.Call (.Name "tuple" p) [e] [] pos) Post := fun y σ H ad he hs Q q =>
  ⟨_, pe_tupRg (X := y.cx) rfl (glS y hg) hm wR_ok (hst y.env), h y σ H ad he hs _ fun lo hi H1 ad1 M1 n1 s1 ⟨b, p1⟩ => by
    refine ⟨⟨by omega, by omega, by omega, by omega, by omega⟩, fun qq hn => ?_⟩
    have sm := same_new (o := .tup (rgV lo hi)) hn
    exact q _ _ ad1 (.dat (.tup (rgD lo hi))) M1 (n1.trans (Nx.same sm)) (s1.same sm) ⟨qq, _, rfl, .inl (.inl upd_same), reps_rg lo hi⟩ p1⟩

/-! ### lists of the store -/
def wM (X : Cx) (id : String) : V → List V → Hp → VK → Prop := fun x vs H Q => ∃ r, MtR X id r ∧ r x vs H Q
theorem wM_ok {X : Cx} {id : String} : MtR X id (wM X id) := fun pins s σ H x xs v us Q I rx r ⟨t, h, q⟩ => h pins s σ H x xs v us Q I rx r q
theorem st_lst {K : PySem.W.Frag} {ad : List Addr} {H : Hp} {j : Nat} {ds : List D} {v : V} (S : StOk K ad H M) (r : RepA K ad H (.mut j) v) (hm : M[j]? = some (.lst ds)) : ∃ q xs, v = .ref q ∧ ad[j]? = some q ∧ H q = some (.lst xs) ∧ Reps K H ds xs := by
  obtain ⟨q, hq, e⟩ := r
  obtain ⟨a2, h2, xs, h3, rr⟩ := S.obj j _ hm
  rw [hq] at h2
  cases h2
  exact ⟨q, xs, e, hq, h3, rr⟩
/-- what a method does to a list of the store -/
def MetA (c : SC) (id : String) (j : Nat) (as : List AV) (M : List MO) (Post : AQ) : Prop :=
  ∀ (z : Dyn c) (H : Hp) (ad : List Addr), StOk c.K ad H M → ∀ v vs, RepA c.K ad H (.mut j) v → RepAs c.K ad H as vs → ∀ Q : VK,
    (∀ v H2 ad2 a M2, Nx ad H ad2 H2 → StOk c.K ad2 H2 M2 → RepA c.K ad2 H2 a v → Post a M2 → Q v H2) → wM z.cx id v vs H Q
theorem x_lm {name : Str} {apos : Pos} {o : Expr} (slot : Slot "list" name id) (hty : typeOf (.builtin id) = pure (.type "method_descriptor"))
    (h : EvX c δ M o fun v M1 => ∃ j ds, v = .mut j ∧ M1[j]? = some (.lst ds) ∧ EvA c δ M1 (e :: es) fun as M2 => MetA c id j as M2 Post)
    (hbase : ∀ env, attributeBase o name env (eval o env) = eval o env)
    (hfew : ∀ env, ((backTo pos (starEach (e :: es) env)).all (fun x => !x.1) && (backToKw pos (keywordEach [] env)).all (fun x => x.1.isSome) && decide ((e :: es).length + ([] : List Keyword).length + (if ([] : List Keyword).isEmpty then 0 else 1) < 30)) = true)
    (hline : (apos.endLine == pos.line) = true) (hst : ∀ env, starEach (e :: es) env = (false, eval e env) :: starEach es env) (hpl : ∀ env, (backTo pos (starEach es env)).any (·.1) = false) : EvX c δ M (.Call (.Attribute o name apos) (e :: es) [] pos) Post := fun y σ H ad he hs Q q =>
  ⟨_, pe_bm (X := y.cx) PySem.F.plainAttrs_list slot hty wM_ok wE_ok wA_ok (hbase y.env) (hfew y.env) hline (hst y.env) (hpl y.env), h y σ H ad he hs _ fun v H1 ad1 a1 M1 n1 s1 r1 ⟨j, ds, e1, hm, p1⟩ => by
    subst e1
    obtain ⟨qq, xs, rfl, hq, hx, rr⟩ := st_lst s1 r1 hm
    refine ⟨.inl ⟨rfl, xs, .inl (.inl hx)⟩, p1 y σ H1 ad1 (he.nx n1) s1 _ fun vs H2 ad2 as M2 n2 s2 r2 p2 => ?_⟩
    exact p2 y H2 ad2 s2 _ vs (r1.nx n2) r2 Q fun v3 H3 ad3 a3 M3 n3 s3 r3 p3 => q v3 H3 ad3 a3 M3 ((n1.trans n2).trans n3) s3 r3 p3⟩
theorem x_lm0 {name : Str} {apos : Pos} {o : Expr} (slot : Slot "list" name id) (hty : typeOf (.builtin id) = pure (.type "method_descriptor"))
    (h : EvX c δ M o fun v M1 => ∃ j ds, v = .mut j ∧ M1[j]? = some (.lst ds) ∧ MetA c id j [] M1 Post) (hbase : ∀ env, attributeBase o name env (eval o env) = eval o env) (hline : (apos.endLine == pos.line) = true) : EvX c δ M (.Call (.Attribute o name apos) [] [] pos) Post := fun y σ H ad he hs Q q =>
  ⟨_, pe_bm0 (X := y.cx) PySem.F.plainAttrs_list slot hty wM_ok wE_ok (hbase y.env) hline, h y σ H ad he hs _ fun v H1 ad1 a1 M1 n1 s1 r1 ⟨j, ds, e1, hm, p1⟩ => by
    subst e1
    obtain ⟨qq, xs, rfl, hq, hx, rr⟩ := st_lst s1 r1 hm
    exact ⟨.inl ⟨rfl, xs, .inl (.inl hx)⟩, p1 y H1 ad1 s1 _ [] r1 rfl Q fun v3 H3 ad3 a3 M3 n3 s3 r3 p3 => q v3 H3 ad3 a3 M3 (n1.trans n3) s3 r3 p3⟩⟩
theorem put_lst {K : PySem.W.Frag} {ad : List Addr} {H : Hp} {j : Nat} {q : Addr} {ds es : List D} {xs ys : List V} (S : StOk K ad H M) (hq : ad[j]? = some q) (hx : H q = some (.lst xs)) (r : Reps K H es ys) :
    StOk K ad (upd H q (.lst ys)) (M.set j (.lst es)) ∧ Nx ad H ad (upd H q (.lst ys)) := by
  have t : Tx H (upd H q (.lst ys)) := ⟨fun b zs e => by
    rw [upd_ne (ne_of e hx (by intro z; cases z))]
    exact e, fun b o u e => by
    rw [upd_ne (ne_of e hx (by intro z; cases z))]
    exact e, fun b φ e => by
    rw [upd_ne (ne_of e hx (by intro z; cases z))]
    exact e⟩
  exact S.put (m := .lst es) hq ⟨ys, upd_same, r.tx t⟩
theorem me_append {j : Nat} {d : D} {ds : List D} (hm : M[j]? = some (.lst ds)) (hl : ds.length < 1000000) (h : Post (.dat .non) (M.set j (.lst (ds ++ [d])))) : MetA c "list.append" j [.dat d] M Post := fun z H ad hs v vs rv r Q q => by
  obtain ⟨u, rfl, ru⟩ := repAs1 r
  obtain ⟨qq, xs, rfl, hq, hx, rr⟩ := st_lst hs rv hm
  obtain ⟨s2, n2⟩ := put_lst (ds := ds) (ys := xs ++ [u]) (es := ds ++ [d]) hs hq hx (rr.append ⟨u, [], rfl, ru, rfl⟩)
  refine ⟨_, mt_append, qq, xs, u, rfl, rfl, hx, ?_, q _ _ ad (.dat .non) _ n2 s2 rfl h⟩
  rw [rr.length]
  exact Nat.lt_trans hl (by decide)
theorem me_extend {j : Nat} {v : AV} {ds es : List D} (hm : M[j]? = some (.lst ds)) (hv : v = .ls es) (hl : ds.length + es.length ≤ 1000000) (h : Post (.dat .non) (M.set j (.lst (ds ++ es)))) : MetA c "list.extend" j [v] M Post := fun z H ad hs w vs rv r Q q => by
  subst hv
  obtain ⟨u, rfl, ru⟩ := repAs1 r
  obtain ⟨qq, xs, rfl, hq, hx, rr⟩ := st_lst hs rv hm
  obtain ⟨pp, ys, rfl, hy, ry⟩ := ru
  obtain ⟨s2, n2⟩ := put_lst (ds := ds) (ys := xs ++ ys) (es := ds ++ es) hs hq hx (rr.append ry)
  refine ⟨_, mt_extend, qq, pp, xs, ys, rfl, rfl, hx, hy.1, ?_, q _ _ ad (.dat .non) _ n2 s2 rfl h⟩
  rw [rr.length, ry.length]
  exact Nat.le_trans hl (by decide)
theorem me_pop {j : Nat} {ds : List D} {d : D} (hm : M[j]? = some (.lst ds)) (hd : ds[ds.length - 1]? = some d) (h : Post (.dat d) (M.set j (.lst ds.dropLast))) : MetA c "list.pop" j [] M Post := fun z H ad hs w vs rv r Q q => by
  have er : vs = [] := r
  subst er
  obtain ⟨qq, xs, rfl, hq, hx, rr⟩ := st_lst hs rv hm
  obtain ⟨v, hv, rv2⟩ := rr.get hd
  have rd : Reps c.K H ds.dropLast xs.dropLast := by
    rw [List.dropLast_eq_take, List.dropLast_eq_take, rr.length]
    exact rr.take _
  obtain ⟨s2, n2⟩ := put_lst (ds := ds) hs hq hx rd
  refine ⟨_, mt_pop, qq, xs, v, rfl, rfl, hx, by rw [rr.length]; exact hv, q _ _ ad (.dat d) _ n2 s2 (Rep.tx n2.tx rv2) h⟩
theorem me_popAt {j : Nat} {ds : List D} {d : D} {i : Nat} (hm : M[j]? = some (.lst ds)) (hd : ds[i]? = some d) (hl : ds.length ≤ 1000000) (h : Post (.dat d) (M.set j (.lst (ds.eraseIdx i)))) : MetA c "list.pop" j [.dat (.int (i : Nat))] M Post := fun z H ad hs w vs rv r Q q => by
  obtain ⟨u, rfl, ru⟩ := repAs1 r
  rw [show u = .int (i : Nat) from ru]
  obtain ⟨qq, xs, rfl, hq, hx, rr⟩ := st_lst hs rv hm
  obtain ⟨v, hv, rv2⟩ := rr.get hd
  obtain ⟨s2, n2⟩ := put_lst (ds := ds) hs hq hx (rr.erase i)
  have hi : i < ds.length := (List.getElem?_eq_some_iff.mp hd).1
  have hs1 : seqIndex? (i : Int) xs.length = some i := by
    have : ixN xs.length (i : Int) = some i := by
      unfold ixN
      rw [if_pos (by omega), if_pos (by rw [rr.length]; omega)]
      simp
    exact (ixN_seq this).1
  exact ⟨_, mt_popAt, qq, xs, i, i, v, rfl, rfl, hx, by omega, by omega, hs1, hv, q _ _ ad (.dat d) _ n2 s2 (Rep.tx n2.tx rv2) h⟩
/-- xs[i] = e -/
theorem s_put {D : AE} {o i : Expr} (h : EvX c δ M e fun v M1 => EvX c δ M1 o fun w M2 => EvX c δ M2 i fun u M3 => ∃ (d : Fx.D) (j : Nat) (ds : List Fx.D) (n : Nat), v = .dat d ∧ w = .mut j ∧ u = .dat (.int (n : Nat)) ∧ M3[j]? = some (.lst ds) ∧ n < ds.length ∧ D.nx δ (M3.set j (.lst (ds.set n d))))
    (hs1 : ∀ env, swapsWithSole [.Subscript o i p] e pos.line env = pure false) (hw : ∀ env, swappedStores [.Subscript o i p] e env = pure none) (h1 : ∀ env, (assignEach [.Subscript o i p] env).map (·.2) = [assign (.Subscript o i p) env])
    (ha : ∀ (env : Env) v, assign (.Subscript o i p) env v = (do
      let ov ← holding [v] (eval o env)
      let iv ← holding [v, ov] (eval i env)
      standAt p
      holding [v, ov, iv] (setItem ov iv v)
      release [v, ov, iv] [])) : Run1 c δ M (.Assign [.Subscript o i p] e pos) D := fun y σ H ad he hs E q =>
  ⟨_, ps_asg wE_ok (pg_sub wE_ok wE_ok set_list (ha y.env)) (hs1 y.env) (hw y.env) (h1 y.env), h y σ H ad he hs _ fun v H1 ad1 a1 M1 n1 s1 r1 p1 => p1 y σ H1 ad1 (he.nx n1) s1 _ fun w H2 ad2 a2 M2 n2 s2 r2 p2 => p2 y σ H2 ad2 (he.nx (n1.trans n2)) s2 _ fun u H3 ad3 a3 M3 n3 s3 r3 ⟨d, j, ds, n, e1, e2, e3, hm, hn, p3⟩ => by
    subst e1 e2 e3
    have n13 := (n1.trans n2).trans n3
    obtain ⟨qq, xs, rfl, hq, hx, rr⟩ := st_lst s3 (r2.nx n3) hm
    obtain ⟨s4, n4⟩ := put_lst (ds := ds) (ys := xs.set n v) s3 hq hx (rr.set (Rep.tx (n2.tx.trans n3.tx) r1) n)
    refine ⟨qq, xs, n, n, rfl, r3, hx, ?_, q.nx σ _ ad3 δ _ (n13.trans n4) (he.nx (n13.trans n4)) s4 p3⟩
    unfold ixN
    rw [if_pos (by omega), if_pos (by rw [rr.length]; omega)]
    simp⟩
end

/-! ### names by their places, found by themselves -/
class VarAt (N : List Str) (x : Str) (i : outParam Nat) : Prop where
  get : N[i]? = some x
instance varAt_here {x : Str} {r : List Str} : VarAt (x :: r) x 0 := ⟨rfl⟩
instance (priority := low) varAt_next {x y : Str} {r : List Str} {i : Nat} [h : VarAt r x i] : VarAt (y :: r) x (i + 1) := ⟨h.get⟩
def namesB (N : List Str) : Bool := decide N.Nodup && N.all fun x => !(x == ("__debug__" : Str)) && !(x == ("__classdict__" : Str))
class NamesOk (N : List Str) : Prop where
  ok : namesB N = true
theorem NamesOk.nd {N : List Str} (h : NamesOk N) : N.Nodup := by
  have := h.ok
  unfold namesB at this
  rw [Bool.and_eq_true] at this
  exact of_decide_eq_true this.1
theorem NamesOk.at_ {N : List Str} (h : NamesOk N) {i : Nat} {x : Str} (e : N[i]? = some x) : (x == ("__debug__" : Str)) = false ∧ (x == ("__classdict__" : Str)) = false := by
  have := h.ok
  unfold namesB at this
  rw [Bool.and_eq_true, List.all_eq_true] at this
  have q := this.2 x (List.mem_of_getElem? e)
  rw [Bool.and_eq_true] at q
  exact ⟨by simpa using q.1, by simpa using q.2⟩
section
variable {c : SC} {δ : Dl} {M : List MO} {Post : AQ} {e : Expr} {pos p : Pos} {x : Str} {i : Nat}
theorem x_v {a : AV} [hN : VarAt c.N x i] [hk : NamesOk c.N] (hd : δ[i]? = some (some a)) (hv : Vis c.sc x) (h : Post a M) : EvX c δ M (.Name x pos) Post := x_var i hd hN.get hv h (hk.at_ hN.get).1 (hk.at_ hN.get).2
theorem g_n {a : AV} {Pg : Dl → Prop} [hN : VarAt c.N x i] [hk : NamesOk c.N] (hx : Loc c.sc x) (hf : c.fn x = true ∨ c.sc.names.lookup x = some .local) (h : Pg (δ.set i (some a))) : EvG c δ (.Name x pos) [i] a Pg := g_name i hN.get hk.nd hx hf h
theorem gx_n {a : AV} {Pg : Dl → Prop} [hN : VarAt c.N x i] [hk : NamesOk c.N] (hx : Loc c.sc x) (hf : c.fn x = true ∨ c.sc.names.lookup x = some .local) (h : Pg (δ.set i (some a))) : EvGx c δ (.Name x pos) a Pg := ⟨[i], g_n hx hf h⟩
theorem gx_2 {y : Str} {j k : Nat} {q1 q2 : Pos} {a b : D} {Pg : Dl → Prop} [hN : VarAt c.N x i] [hN2 : VarAt c.N y j] [hk : NamesOk c.N] (hx : Loc c.sc x) (hf : c.fn x = true ∨ c.sc.names.lookup x = some .local) (hx2 : Loc c.sc y) (hf2 : c.fn y = true ∨ c.sc.names.lookup y = some .local)
    (h : Pg ((δ.set i (some (.dat a))).set j (some (.dat b)))) : EvGx c δ (.Tuple [.Name x q1, .Name y q2] k pos) (.dat (.tup [a, b])) Pg :=
  ⟨[i] ++ ([j] ++ []), g_tup (gs_cons (g_n hx hf (gs_cons (g_n hx2 hf2 (gs_nil h)) (fun _ => rfl))) (fun _ => rfl)) (fun _ => rfl) (fun _ => rfl)⟩
theorem lt_n {elt : Expr} {ifs : List Expr} {vs : List Nat} {d : D} {yes : D → List MO → Prop} {no : List MO → Prop} [hN : VarAt c.N x i] [hk : NamesOk c.N] (hi : i ∈ vs) (hx : Loc c.sc x) (hf : c.fn x = true ∨ c.sc.names.lookup x = some .local)
    (h : EvTs c (δ.set i (some (.dat d))) M ifs fun k M3 => (k = true → EvX c (δ.set i (some (.dat d))) M3 elt fun a M4 => ∃ d', a = .dat d' ∧ yes d' M4) ∧ (k = false → no M3)) : LcTurn c δ (.Name x pos) elt ifs vs d M yes no :=
  ⟨[i], fun k hk => by rw [List.mem_singleton.mp hk]; exact hi, g_n hx hf h⟩
theorem lt_2 {elt : Expr} {ifs : List Expr} {vs : List Nat} {y : Str} {j k : Nat} {q1 q2 : Pos} {a b : D} {yes : D → List MO → Prop} {no : List MO → Prop} [hN : VarAt c.N x i] [hN2 : VarAt c.N y j] [hk : NamesOk c.N] (hi : i ∈ vs) (hj : j ∈ vs) (hx : Loc c.sc x) (hf : c.fn x = true ∨ c.sc.names.lookup x = some .local)
    (hx2 : Loc c.sc y) (hf2 : c.fn y = true ∨ c.sc.names.lookup y = some .local)
    (h : EvTs c ((δ.set i (some (.dat a))).set j (some (.dat b))) M ifs fun k M3 => (k = true → EvX c ((δ.set i (some (.dat a))).set j (some (.dat b))) M3 elt fun a M4 => ∃ d', a = .dat d' ∧ yes d' M4) ∧ (k = false → no M3)) :
    LcTurn c δ (.Tuple [.Name x q1, .Name y q2] k pos) elt ifs vs (.tup [a, b]) M yes no :=
  ⟨[i] ++ ([j] ++ []), fun z hz => by
    rcases List.mem_cons.mp hz with rfl | hz
    · exact hi
    · rw [List.mem_singleton.mp hz]
      exact hj, g_tup (gs_cons (g_n hx hf (gs_cons (g_n hx2 hf2 (gs_nil h)) (fun _ => rfl))) (fun _ => rfl)) (fun _ => rfl) (fun _ => rfl)⟩
theorem s_st {D : AE} [hN : VarAt c.N x i] [hk : NamesOk c.N] (hx : Loc c.sc x) (hf : c.fn x = true ∨ c.sc.names.lookup x = some .local) (h : EvX c δ M e fun a M1 => D.nx (δ.set i (some a)) M1)
    (hs1 : ∀ env, swapsWith e (some (.Name x p)) pos.line env = pure false) : Run1 c δ M (.Assign [.Name x p] e pos) D := s_set i hN.get hk.nd hx hf h hs1
theorem s_nw {D : AE} [hN : VarAt c.N x i] [hk : NamesOk c.N] (hx : Loc c.sc x) (hf : c.fn x = true ∨ c.sc.names.lookup x = some .local) (h : EvF c δ M e fun ds M1 => D.nx (δ.set i (some (.mut M1.length))) (M1 ++ [.lst ds]))
    (hs1 : ∀ env, swapsWith e (some (.Name x p)) pos.line env = pure false) : Run1 c δ M (.Assign [.Name x p] e pos) D := s_new i hN.get hk.nd hx hf h hs1
theorem s_ag {D : AE} {op : Operator} {v : AV} [hN : VarAt c.N x i] [hk : NamesOk c.N] (hx : Loc c.sc x) (hf : c.fn x = true ∨ c.sc.names.lookup x = some .local) (hv : δ[i]? = some (some v))
    (h : EvX c δ M e fun a M1 => BinR c (inplaceOp op) v a M1 fun r M2 => D.nx (δ.set i (some r)) M2) : Run1 c δ M (.AugAssign (.Name x p) op e pos) D := s_aug i hN.get hk.nd hx hf hv h
theorem b_iadd {i j : Int} (h : Post (.dat (.int (i + j))) M) : BinR c (inplaceOp .Add) (.dat (.int i)) (.dat (.int j)) M Post := b_int0 (fun _ => iop_add) h
theorem b_isub {i j : Int} (h : Post (.dat (.int (i - j))) M) : BinR c (inplaceOp .Sub) (.dat (.int i)) (.dat (.int j)) M Post := b_int0 (fun _ => iop_sub) h
theorem b_imul {i j : Int} (hc : CMul i j) (h : Post (.dat (.int (i * j))) M) : BinR c (inplaceOp .Mult) (.dat (.int i)) (.dat (.int j)) M Post := b_int (fun _ => iop_mul) hc h
end

section
variable {M : List MO} {Q : D → Prop}
theorem ix_tup {ds : List D} {i : Int} {d : D} (h : atI ds i = some d) (k : Q d) : ∃ i', (AV.dat (.int i)) = .dat (.int i') ∧ IxA M (.dat (.tup ds)) i' Q := ⟨i, rfl, .inl ⟨ds, d, isS_tup, h, k⟩⟩
theorem ix_ls {ds : List D} {i : Int} {d : D} (h : atI ds i = some d) (k : Q d) : ∃ i', (AV.dat (.int i)) = .dat (.int i') ∧ IxA M (.ls ds) i' Q := ⟨i, rfl, .inl ⟨ds, d, isS_ls, h, k⟩⟩
theorem ix_mut {j : Nat} {ds : List D} {i : Int} {d : D} (hm : M[j]? = some (.lst ds)) (h : atI ds i = some d) (k : Q d) : ∃ i', (AV.dat (.int i)) = .dat (.int i') ∧ IxA M (.mut j) i' Q := ⟨i, rfl, .inl ⟨ds, d, isS_mut hm, h, k⟩⟩
theorem atI_at {ds : List D} {i : Int} {n : Nat} {d : D} (e : i = (n : Int)) (h : ds[n]? = some d) : atI ds i = some d := by
  rw [e]
  exact atI_nat h
end
section
variable {c : SC} {M : List MO} {Post : AQ}
theorem IsL.at_ {K : PySem.W.Frag} {ad : List Addr} {H : Hp} {a : AV} {ds : List D} {v : V} (h : IsL M a ds) (S : StOk K ad H M) (r : RepA K ad H a v) : ∃ p xs, v = .ref p ∧ H p = some (.lst xs) ∧ Reps K H ds xs := by
  rcases h with rfl | ⟨j, rfl, hm⟩
  · obtain ⟨p, xs, e, q, rr⟩ := r
    exact ⟨p, xs, e, q.1, rr⟩
  · obtain ⟨p, q, e⟩ := r
    obtain ⟨a2, h2, xs, h3, rr⟩ := S.obj j _ hm
    rw [q] at h2
    cases h2
    exact ⟨p, xs, e, h3, rr⟩
/-- xs + ys -/
theorem b_catL {x y : AV} {ds es : List D} (hx : IsL M x ds) (hy : IsL M y es) (hl : ds.length + es.length ≤ 1000000) (h : Post (.ls (ds ++ es)) M) : BinR c (binaryOp .Add) x y M Post := fun z H ad hs vx vy rx ry Q q => by
  obtain ⟨p, xs, rfl, h1, r1⟩ := hx.at_ hs rx
  obtain ⟨p2, ys, rfl, h2, r2⟩ := hy.at_ hs ry
  refine ⟨_, op_cat, p, p2, xs, ys, rfl, rfl, h1, h2, by rw [r1.length, r2.length]; exact Nat.le_trans hl (by decide), fun n hn => ?_⟩
  have sm := same_new (o := .lst (xs ++ ys)) hn
  exact q _ _ ad (.ls (ds ++ es)) M (Nx.same sm) (hs.same sm) ⟨n, _, rfl, ⟨upd_same, hs.free hn⟩, (r1.append r2).tx (Tx.same sm)⟩ h
/-- xs * n -/
theorem b_repL {x : AV} {ds : List D} {n : Int} (hx : IsL M x ds) (h0 : 0 ≤ n) (hn : n ≤ 1000) (hl : ds.length ≤ 1000) (h : Post (.ls (List.replicate n.toNat ds).flatten) M) : BinR c (binaryOp .Mult) x (.dat (.int n)) M Post := fun z H ad hs vx vy rx ry Q q => by
  obtain ⟨p, xs, rfl, h1, r1⟩ := hx.at_ hs rx
  have hm : xs.length * n.toNat ≤ 1000 * 1000 := Nat.mul_le_mul (by rw [r1.length]; exact hl) (by omega)
  refine ⟨_, op_rep, p, n, xs, rfl, ry, h1, by omega, by omega, Nat.le_trans hm (by decide), fun n2 hn2 => ?_⟩
  have sm := same_new (o := .lst (List.replicate n.toNat xs).flatten) hn2
  have rr : ∀ k : Nat, Reps c.K H (List.replicate k ds).flatten (List.replicate k xs).flatten := by
    intro k
    induction k with
    | zero => rfl
    | succ k ih =>
      rw [List.replicate_succ, List.replicate_succ, List.flatten_cons, List.flatten_cons]
      exact r1.append ih
  exact q _ _ ad (.ls _) M (Nx.same sm) (hs.same sm) ⟨n2, _, rfl, ⟨upd_same, hs.free hn2⟩, (rr _).tx (Tx.same sm)⟩ h
end
theorem get_push {α : Type} {M : List α} {x : α} : (M ++ [x])[M.length]? = some x := by
  rw [List.getElem?_append_right (Nat.le_refl _), Nat.sub_self]
  rfl
theorem set_push {α : Type} {M : List α} {x y : α} : (M ++ [x]).set M.length y = M ++ [y] := by
  rw [List.set_append_right _ _ (Nat.le_refl _), Nat.sub_self]
  rfl
end Fx

/-! Fx, part E: tickets and books as data; the law's own draws. -/
namespace Fx
open PySem L2
def tI (ns : List Int) : D := .tup (ns.map D.int)
def tII (b : List (List Int)) : D := .tup (b.map tI)
def rg (lo hi : Int) : List Int := (List.range (hi - lo).toNat).map fun i => lo + (i : Nat)
theorem rgD_eq (lo hi : Int) : rgD lo hi = (rg lo hi).map D.int := by
  unfold rgD rg
  rw [List.map_map]
  rfl
theorem rg0_map (n : Int) : rg0 n = (rg 0 n).map D.int := by rw [rg0_eq, rgD_eq]
theorem rg_len (lo hi : Int) : (rg lo hi).length = (hi - lo).toNat := by unfold rg; rw [List.length_map, List.length_range]
theorem rg_mem {lo hi x : Int} : x ∈ rg lo hi ↔ lo ≤ x ∧ x < hi := by
  unfold rg
  rw [List.mem_map]
  constructor
  · rintro ⟨i, hi, rfl⟩
    rw [List.mem_range] at hi
    omega
  · rintro ⟨h1, h2⟩
    exact ⟨(x - lo).toNat, by rw [List.mem_range]; omega, by omega⟩
/-- a def that changes nothing of the store -/
def pureA (R : List AV → AV → Prop) : ASp := fun as M Post => ∃ r, R as r ∧ Post r M
theorem isEmpty_map' {α β : Type} (f : α → β) (xs : List α) : (xs.map f).isEmpty = xs.isEmpty := by cases xs <;> rfl

/-! ### the law's town: {'count': .., 'rests': {..}} -/
theorem sCR : ¬ (("count" : Str) = "rests") := by decide +kernel
theorem sRC : ¬ (("rests" : Str) = "count") := by decide +kernel
section
variable {c : SC} {δ : Dl} {M : List MO} {Post : AQ} {a b e f o : Expr} {pos p p1 p2 : Pos} {jj jk : Nat}
theorem val_count {u v : V} : valV [((Sum.inr "count" : Key), u), (Sum.inr "rests", v)] (Sum.inr "count") = some u := by
  unfold valV
  rw [List.find?_cons_of_pos (by simp)]
  rfl
theorem val_rests {u v : V} : valV [((Sum.inr "count" : Key), u), (Sum.inr "rests", v)] (Sum.inr "rests") = some v := by
  unfold valV
  rw [List.find?_cons_of_neg (by simp [sCR]), List.find?_cons_of_pos (by simp)]
  rfl
theorem put_count {u v w : V} : putK [((Sum.inr "count" : Key), u), (Sum.inr "rests", v)] (Sum.inr "count") w = [((Sum.inr "count" : Key), w), (Sum.inr "rests", v)] := by
  unfold putK
  rw [if_pos (by simp)]
  simp [sRC]
theorem st_town {K : PySem.W.Frag} {ad : List Addr} {H : Hp} {j i : Nat} {v : V} (S : StOk K ad H M) (r : RepA K ad H (.mut j) v) (hm : M[j]? = some (.town i)) :
    ∃ q b n, v = .ref q ∧ ad[j]? = some q ∧ ad[i]? = some b ∧ H q = some (.dK [(Sum.inr "count", V.int n), (Sum.inr "rests", V.ref b)]) := by
  obtain ⟨q, hq, e⟩ := r
  obtain ⟨a2, h2, n, b, h3, h4⟩ := S.obj j _ hm
  rw [hq] at h2
  cases h2
  exact ⟨q, b, n, e, hq, h3, h4⟩
theorem st_rests {K : PySem.W.Frag} {ad : List Addr} {H : Hp} {j : Nat} {v : V} (S : StOk K ad H M) (r : RepA K ad H (.mut j) v) (hm : M[j]? = some .rests) : ∃ q kvs, v = .ref q ∧ ad[j]? = some q ∧ H q = some (.dK kvs) ∧ RestOk kvs := by
  obtain ⟨q, hq, e⟩ := r
  obtain ⟨a2, h2, kvs, h3, h4⟩ := S.obj j _ hm
  rw [hq] at h2
  cases h2
  exact ⟨q, kvs, e, hq, h3, h4⟩
/-- town['count'] -/
theorem x_count (h : EvX c δ M o fun v M1 => ∃ j i, v = .mut j ∧ M1[j]? = some (.town i) ∧ ∀ n : Int, Post (.dat (.int n)) M1) : EvX c δ M (.Subscript o (.Constant (.str "count") jj p) pos) Post := fun y σ H ad he hs Q q =>
  ⟨_, pe_dget (X := y.cx) (hu_of y.room) wE_ok pe_str (fun _ _ => rfl), h y σ H ad he hs _ fun v H1 ad1 a1 M1 n1 s1 r1 ⟨j, i, e1, hm, p1⟩ => by
    subst e1
    obtain ⟨qq, bb, n, rfl, hq, hb, hH⟩ := st_town s1 r1 hm
    exact ⟨qq, V.int n, rfl, by rw [← val_count (u := V.int n) (v := V.ref bb)]; exact DGet.k (k := Sum.inr "count") hH, q _ H1 ad1 (.dat (.int n)) M1 n1 s1 rfl (p1 n)⟩⟩
/-- town['rests'] -/
theorem x_rests (h : EvX c δ M o fun v M1 => ∃ j i, v = .mut j ∧ M1[j]? = some (.town i) ∧ Post (.mut i) M1) : EvX c δ M (.Subscript o (.Constant (.str "rests") jj p) pos) Post := fun y σ H ad he hs Q q =>
  ⟨_, pe_dget (X := y.cx) (hu_of y.room) wE_ok pe_str (fun _ _ => rfl), h y σ H ad he hs _ fun v H1 ad1 a1 M1 n1 s1 r1 ⟨j, i, e1, hm, p1⟩ => by
    subst e1
    obtain ⟨qq, bb, n, rfl, hq, hb, hH⟩ := st_town s1 r1 hm
    exact ⟨qq, V.ref bb, rfl, by rw [← val_rests (u := V.int n) (v := V.ref bb)]; exact DGet.k (k := Sum.inr "rests") hH, q _ H1 ad1 (.mut i) M1 n1 s1 ⟨bb, hb, rfl⟩ p1⟩⟩
theorem set_same {α : Type} {l : List α} {j : Nat} {x : α} (h : l[j]? = some x) : l.set j x = l := by
  apply List.ext_getElem?
  intro i
  by_cases e : j = i
  · subst e
    rw [List.getElem?_set_self (List.getElem?_eq_some_iff.mp h).1, h]
  · rw [List.getElem?_set_ne e]
/-- town['count'] = e -/
theorem s_count {D : AE} (h : EvX c δ M e fun w M1 => EvX c δ M1 o fun v M2 => ∃ (n : Int) (j i : Nat), w = .dat (.int n) ∧ v = .mut j ∧ M2[j]? = some (.town i) ∧ D.nx δ M2)
    (hs1 : ∀ env, swapsWith e (some (.Subscript o (.Constant (.str "count") jj p) p1)) pos.line env = pure false) : Run1 c δ M (.Assign [.Subscript o (.Constant (.str "count") jj p) p1] e pos) D := fun y σ H ad he hs E q =>
  ⟨_, ps_dput (X := y.cx) (hu_of y.room) wE_ok pe_str wE_ok (hs1 y.env), h y σ H ad he hs _ fun w H1 ad1 a1 M1 n1 s1 r1 p1 => p1 y σ H1 ad1 (he.nx n1) s1 _ fun v H2 ad2 a2 M2 n2 s2 r2 ⟨n, j, i, e1, e2, hm, p2⟩ => by
    subst e1 e2
    obtain ⟨qq, bb, n0, rfl, hq, hb, hH⟩ := st_town s2 r2 hm
    obtain rfl : w = V.int n := r1
    obtain ⟨s3, n3⟩ := s2.put (m := .town i) (o := .dK [(Sum.inr "count", V.int n), (Sum.inr "rests", V.ref bb)]) hq ⟨n, bb, hb, upd_same⟩
    rw [set_same hm] at s3
    refine ⟨qq, _, rfl, DPut.k (k := Sum.inr "count") hH (by show 2 < sizeLine; decide), ?_⟩
    rw [put_count]
    exact q.nx σ _ ad2 δ M2 ((n1.trans n2).trans n3) (he.nx ((n1.trans n2).trans n3)) s3 p2⟩
theorem rest_val {kvs : List (Key × V)} (h : RestOk kvs) {k : Key} {v : V} (e : valV kvs k = some v) : ∃ n : Int, v = V.int n := by
  unfold valV at e
  cases q : kvs.find? fun kv => decide (kv.1 = k) with
  | none => rw [q] at e; cases e
  | some kv =>
    rw [q] at e
    obtain ⟨i, n, ek, _⟩ := h.2 kv (List.mem_of_find?_eq_some q)
    subst ek
    exact ⟨n, (Option.some.inj e).symm⟩
theorem putK_keys (kvs : List (Key × V)) (k : Key) (v : V) : (putK kvs k v).map (·.1) = if (kvs.any fun kv => decide (kv.1 = k)) = true then kvs.map (·.1) else kvs.map (·.1) ++ [k] := by
  unfold putK
  by_cases hc : (kvs.any fun kv => decide (kv.1 = k)) = true
  · rw [if_pos hc, if_pos hc, List.map_map]
    apply List.map_congr_left
    intro p _
    show (if p.1 = k then (p.1, v) else p).1 = p.1
    split <;> rfl
  · rw [if_neg hc, if_neg hc, List.map_append]
    rfl
theorem rest_put {kvs : List (Key × V)} (h : RestOk kvs) {i n : Int} (h0 : 0 ≤ i) (h1 : i < 63) : RestOk (putK kvs (Sum.inl i) (V.int n)) := by
  refine ⟨?_, fun p hp => ?_⟩
  · rw [putK_keys]
    split
    · exact h.1
    · rename_i hc
      rw [List.nodup_append]
      refine ⟨h.1, List.nodup_cons.mpr ⟨List.not_mem_nil, List.nodup_nil⟩, fun x hx y hy e => hc ?_⟩
      rw [List.mem_singleton.mp hy] at e
      subst e
      obtain ⟨q, hq, e2⟩ := List.mem_map.mp hx
      rw [List.any_eq_true]
      exact ⟨q, hq, decide_eq_true e2⟩
  · unfold putK at hp
    split at hp
    · obtain ⟨q, hq, e⟩ := List.mem_map.mp hp
      obtain ⟨i2, n2, e2, b1, b2⟩ := h.2 q hq
      by_cases hk : q.1 = Sum.inl i
      · rw [if_pos hk] at e
        rw [e2] at e hk
        have : i2 = i := Sum.inl.inj hk
        subst this
        exact ⟨i2, n, e.symm, b1, b2⟩
      · rw [if_neg hk] at e
        exact ⟨i2, n2, by rw [← e]; exact e2, b1, b2⟩
    · rcases List.mem_append.mp hp with hp | hp
      · exact h.2 p hp
      · rw [List.mem_singleton.mp hp]
        exact ⟨i, n, rfl, h0, h1⟩
theorem nodup_len {α : Type} [DecidableEq α] : ∀ (l m : List α), l.Nodup → (∀ x ∈ l, x ∈ m) → l.length ≤ m.length
  | [], m, _, _ => Nat.zero_le _
  | a :: l, m, hn, hs => by
    have ha := hs a List.mem_cons_self
    obtain ⟨h1, h2⟩ := List.nodup_cons.mp hn
    have ih := nodup_len l (m.erase a) h2 fun x hx => (List.mem_erase_of_ne (fun e => h1 (by rw [← e]; exact hx))).mpr (hs x (List.mem_cons_of_mem _ hx))
    rw [List.length_erase_of_mem ha] at ih
    have : 0 < m.length := List.length_pos_of_mem ha
    rw [List.length_cons]
    omega
theorem rest_len {kvs : List (Key × V)} (h : RestOk kvs) : kvs.length < sizeLine := by
  have sub : ∀ x ∈ kvs.map (·.1), x ∈ (List.range 63).map fun (i : Nat) => (Sum.inl (i : Int) : Key) := by
    intro x hx
    obtain ⟨q, hq, e⟩ := List.mem_map.mp hx
    obtain ⟨i, n, e2, b1, b2⟩ := h.2 q hq
    rw [e2] at e
    rw [← e]
    exact List.mem_map.mpr ⟨i.toNat, List.mem_range.mpr (by omega), by show (Sum.inl ((i.toNat : Nat) : Int) : Key) = Sum.inl i; rw [Int.toNat_of_nonneg b1]⟩
  have hl := nodup_len _ _ h.1 sub
  rw [List.length_map, List.length_map, List.length_range] at hl
  have : sizeLine = 16777216 := sizeLine_eq
  omega
/-- town['rests'].get(at, e) -/
theorem x_rget (h : EvX c δ M o fun v M1 => ∃ j, v = .mut j ∧ M1[j]? = some .rests ∧ EvX c δ M1 e fun w M2 => EvX c δ M2 f fun u M3 => ∃ i n : Int, w = .dat (.int i) ∧ u = .dat (.int n) ∧ M3[j]? = some .rests ∧ ∀ m : Int, Post (.dat (.int m)) M3)
    (hM : ∀ X : Cx, M2 X o "get" p e f pos) : EvX c δ M (.Call (.Attribute o "get" p) [e, f] [] pos) Post := fun y σ H ad he hs Q q =>
  ⟨_, pe_dget2 (X := y.cx) (hu_of y.room) wE_ok wE_ok wE_ok (hM y.cx), h y σ H ad he hs _ fun v H1 ad1 a1 M1 n1 s1 r1 ⟨j, e1, hm, p1⟩ => by
    subst e1
    obtain ⟨qq, kvs, rfl, hq, hH, ok⟩ := st_rests s1 r1 hm
    refine ⟨qq, rfl, .inl ⟨kvs, .inl hH⟩, p1 y σ H1 ad1 (he.nx n1) s1 _ fun w H2 ad2 a2 M2 n2 s2 r2 p2 => p2 y σ H2 ad2 (he.nx (n1.trans n2)) s2 _ fun u H3 ad3 a3 M3 n3 s3 r3 ⟨i, n, e2, e3, hm3, p3⟩ => ?_⟩
    subst e2 e3
    obtain ⟨q2, kvs2, e4, hq2, hH2, ok2⟩ := st_rests s3 ((r1.nx n2).nx n3) hm3
    cases e4
    have n13 := (n1.trans n2).trans n3
    obtain rfl : w = V.int i := r2
    obtain rfl : u = V.int n := r3
    refine ⟨valV kvs2 (Sum.inl i), DGet.k (k := Sum.inl i) hH2, ?_⟩
    cases z : valV kvs2 (Sum.inl i) with
    | none => exact q _ H3 ad3 (.dat (.int n)) M3 n13 s3 rfl (p3 n)
    | some w =>
      obtain ⟨m, rfl⟩ := rest_val ok2 z
      exact q _ H3 ad3 (.dat (.int m)) M3 n13 s3 rfl (p3 m)⟩
/-- town['rests'][at] = e -/
theorem s_rput {D : AE} (h : EvX c δ M e fun w M1 => EvX c δ M1 o fun v M2 => EvX c δ M2 f fun u M3 => ∃ (n i : Int) (j : Nat), w = .dat (.int n) ∧ v = .mut j ∧ u = .dat (.int i) ∧ M3[j]? = some .rests ∧ 0 ≤ i ∧ i < 63 ∧ D.nx δ M3)
    (hs1 : ∀ env, swapsWith e (some (.Subscript o f p1)) pos.line env = pure false) : Run1 c δ M (.Assign [.Subscript o f p1] e pos) D := fun y σ H ad he hs E q =>
  ⟨_, ps_dput (X := y.cx) (hu_of y.room) wE_ok wE_ok wE_ok (hs1 y.env), h y σ H ad he hs _ fun w H1 ad1 a1 M1 n1 s1 r1 p1 => p1 y σ H1 ad1 (he.nx n1) s1 _ fun v H2 ad2 a2 M2 n2 s2 r2 p2 => p2 y σ H2 ad2 (he.nx (n1.trans n2)) s2 _ fun u H3 ad3 a3 M3 n3 s3 r3 ⟨n, i, j, e1, e2, e3, hm, b0, b1, p3⟩ => by
    subst e1 e2 e3
    obtain ⟨qq, kvs, rfl, hq, hH, ok⟩ := st_rests s3 (r2.nx n3) hm
    obtain rfl : w = V.int n := r1
    obtain rfl : u = V.int i := r3
    obtain ⟨s4, n4⟩ := s3.put (m := .rests) (o := .dK (putK kvs (Sum.inl i) (V.int n))) hq ⟨_, upd_same, rest_put ok b0 b1⟩
    rw [set_same hm] at s4
    have n14 := ((n1.trans n2).trans n3).trans n4
    exact ⟨qq, _, rfl, DPut.k (k := Sum.inl i) hH (rest_len ok), q.nx σ _ ad3 δ M3 n14 (he.nx n14) s4 p3⟩⟩
/-- {'count': 0, 'rests': {}} -/
theorem x_begun {j1 j2 j3 : Nat} {q1 q2 q3 q4 : Pos} (h : Post (.mut M.length) (M ++ [.town (M.length + 1), .rests])) :
    EvX c δ M (.Dict [some (.Constant (.str "count") j1 q1), some (.Constant (.str "rests") j2 q2)] [.Constant (.int 0) j3 q3, .Dict [] [] q4] pos) Post := fun y σ H ad he hs Q q =>
  ⟨_, pe_disp (X := y.cx) (pps_cons pe_str pe_int (pps_cons pe_str pe_dnewK pps_nil)) (by rfl) (by rfl) (fun z => by cases z) (Nat.le_of_ble_eq_true rfl), fun p1 h1 p2 h2 => by
    have ne : p2 ≠ p1 := fun e => by
      rw [e, upd_same] at h2
      cases h2
    have h20 : H p2 = none := by
      rw [upd_ne ne] at h2
      exact h2
    refine ⟨by rw [upd_ne ne.symm, upd_same], [(Sum.inr "count", V.int 0), (Sum.inr "rests", V.ref p2)], rfl, Nat.le_of_ble_eq_true rfl, ?_⟩
    have em : mergeK [] [((Sum.inr "count" : Key), V.int 0), (Sum.inr "rests", V.ref p2)] = [((Sum.inr "count" : Key), V.int 0), (Sum.inr "rests", V.ref p2)] := by
      show putK (putK [] (Sum.inr "count" : Key) (V.int 0)) (Sum.inr "rests" : Key) (V.ref p2) = _
      unfold putK
      simp [sCR]
    rw [em]
    have sm : Same H (upd (upd (upd H p1 (.dK [])) p2 (.dK [])) p1 (.dK [(Sum.inr "count", V.int 0), (Sum.inr "rests", V.ref p2)])) := fun b o e => by
      rw [upd_ne (ne_of_none e h1), upd_ne (ne_of_none e h20), upd_ne (ne_of_none e h1)]
      exact e
    have S1 := hs.same sm
    have f1 := hs.free h1
    have f2 := hs.free h20
    have l1 : ad.length = M.length := hs.len
    have S3 : StOk c.K (ad ++ [p1, p2]) (upd (upd (upd H p1 (.dK [])) p2 (.dK [])) p1 (.dK [(Sum.inr "count", V.int 0), (Sum.inr "rests", V.ref p2)])) (M ++ [.town (M.length + 1), .rests]) := by
      have g : ∀ (i : Nat) (b : Addr), ad[i]? = some b → (ad ++ [p1, p2])[i]? = some b := fun i b z => by
        rw [List.getElem?_append_left (List.getElem?_eq_some_iff.mp z).1]
        exact z
      refine ⟨?_, by rw [List.length_append, List.length_append, l1]; rfl, fun j m e => ?_⟩
      · rw [List.nodup_append]
        refine ⟨hs.nd, List.nodup_cons.mpr ⟨fun z => ne (List.mem_singleton.mp z).symm, List.nodup_cons.mpr ⟨List.not_mem_nil, List.nodup_nil⟩⟩, fun a ha b hb z => ?_⟩
        subst z
        rcases List.mem_cons.mp hb with z | z
        · exact f1 (by rw [← z]; exact ha)
        · exact f2 (by rw [← List.mem_singleton.mp z]; exact ha)
      · by_cases hj : j < M.length
        · rw [List.getElem?_append_left hj] at e
          obtain ⟨a, ha, o⟩ := S1.obj j m e
          exact ⟨a, g j a ha, o.nx' g (Tx.refl _) fun _ z => z⟩
        · rw [List.getElem?_append_right (by omega)] at e
          have hlt := (List.getElem?_eq_some_iff.mp e).1
          have h2l : ([MO.town (M.length + 1), MO.rests] : List MO).length = 2 := rfl
          rw [h2l] at hlt
          have gg : ∀ i, i < 2 → (ad ++ [p1, p2])[M.length + i]? = [p1, p2][i]? := fun i _ => by
            rw [List.getElem?_append_right (by omega)]
            congr 1
            omega
          have hjj : j = M.length ∨ j = M.length + 1 := by omega
          rcases hjj with rfl | rfl
          · rw [Nat.sub_self] at e
            cases e
            exact ⟨p1, by have := gg 0 (by omega); rw [Nat.add_zero] at this; exact this, 0, p2, gg 1 (by omega), upd_same⟩
          · rw [show M.length + 1 - M.length = 1 by omega] at e
            cases e
            exact ⟨p2, gg 1 (by omega), [], by rw [upd_ne ne, upd_same], List.nodup_nil, fun p hp => by cases hp⟩
    refine q _ _ (ad ++ [p1, p2]) (.mut M.length) _ ⟨⟨[p1, p2], rfl⟩, fun a ha hn => ?_, fun a o _ e => sm a o e, Tx.same sm⟩ S3 ⟨p1, ?_, rfl⟩ h
    · rcases List.mem_append.mp ha with z | z
      · exact absurd z hn
      · rcases List.mem_cons.mp z with z | z
        · rw [z]; exact h1
        · rw [List.mem_singleton.mp z]; exact h20
    · rw [List.getElem?_append_right (by omega), show M.length - ad.length = 0 by omega]
      rfl⟩
/-! ### the script -/
theorem ca_lenScr {ns : List Int} (h : Post (.dat (.int ns.length)) M) : CallA c (.builtin "len") [.scr ns] M Post := fun z H ad hs vs r Q q => by
  obtain ⟨u, rfl, a, rfl, ru⟩ := repAs1 r
  refine ⟨_, call_len_seq, a, _, rfl, .inl ru.sq, ?_⟩
  rw [List.length_map]
  exact q _ H ad (.dat (.int ns.length)) M Nx.refl hs rfl h
theorem x_ixScr (h : EvX c δ M a fun x M1 => EvX c δ M1 b fun y M2 => ∃ (ns : List Int) (i n : Int), x = .scr ns ∧ y = .dat (.int i) ∧ atI ns i = some n ∧ Post (.dat (.int n)) M2) (hp : PlainIx b) : EvX c δ M (.Subscript a b pos) Post := fun y σ H ad he hs Q q =>
  ⟨_, pe_ix (r := rIx c.K) ix_seq wE_ok wE_ok hp, h y σ H ad he hs _ fun v H1 ad1 x M1 n1 s1 r1 p1 => p1 y σ H1 ad1 (he.nx n1) s1 _ fun u H2 ad2 z M2 n2 s2 r2 ⟨ns, i, n, ex, ez, ha, p2⟩ => by
    subst ex ez
    obtain ⟨pp, rfl, ru⟩ := r1.nx n2
    refine .inl ⟨pp, _, i, .int n, rfl, r2, ru.sq, ?_, q _ H2 ad2 (.dat (.int n)) M2 (n1.trans n2) s2 rfl p2⟩
    unfold atI at ha ⊢
    rw [List.length_map]
    cases z : ixN ns.length i with
    | none => rw [z] at ha; cases ha
    | some j =>
      rw [z] at ha
      show (ns.map V.int)[j]? = _
      rw [List.getElem?_map, show ns[j]? = some n from ha]
      rfl⟩
end

/-! ### == of data that is plain -/
def okD : Nat → D → Bool
  | _, .non => true
  | _, .bl _ => true
  | _, .int _ => true
  | _, .str x => PyData.strOk x
  | 0, .tup _ => false
  | n + 1, .tup ds => ds.all (okD n)
  | 0, .lis _ => false
  | n + 1, .lis ds => ds.all (okD n)
theorem okD_py : ∀ (n : Nat) (d : D), okD n d = true → d.py.canLay0 = true ∧ d.py.depth ≤ n
  | n, .non, _ => ⟨rfl, Nat.zero_le _⟩
  | n, .bl _, _ => ⟨rfl, Nat.zero_le _⟩
  | n, .int _, _ => ⟨rfl, Nat.zero_le _⟩
  | n, .str x, h => ⟨by cases n <;> exact h, Nat.zero_le _⟩
  | 0, .tup _, h => by cases h
  | 0, .lis _, h => by cases h
  | n + 1, .tup ds, h => by
    have gen : ∀ ds : List D, ds.all (okD n) = true → PyData.canLayAll0 (pys ds) = true ∧ PyData.depthAll (pys ds) ≤ n := by
      intro ds
      induction ds with
      | nil => intro _; exact ⟨rfl, Nat.zero_le _⟩
      | cons d ds ih =>
        intro h
        rw [List.all_cons, Bool.and_eq_true] at h
        obtain ⟨a1, a2⟩ := okD_py n d h.1
        obtain ⟨b1, b2⟩ := ih h.2
        refine ⟨?_, ?_⟩
        · show (PyData.canLay0 d.py && PyData.canLayAll0 (pys ds)) = true
          rw [a1, b1]; rfl
        · show max (PyData.depth d.py) (PyData.depthAll (pys ds)) ≤ n
          omega
    obtain ⟨h1, h2⟩ := gen ds h
    exact ⟨h1, Nat.succ_le_succ h2⟩
  | n + 1, .lis ds, h => by
    have gen : ∀ ds : List D, ds.all (okD n) = true → PyData.canLayAll0 (pys ds) = true ∧ PyData.depthAll (pys ds) ≤ n := by
      intro ds
      induction ds with
      | nil => intro _; exact ⟨rfl, Nat.zero_le _⟩
      | cons d ds ih =>
        intro h
        rw [List.all_cons, Bool.and_eq_true] at h
        obtain ⟨a1, a2⟩ := okD_py n d h.1
        obtain ⟨b1, b2⟩ := ih h.2
        refine ⟨?_, ?_⟩
        · show (PyData.canLay0 d.py && PyData.canLayAll0 (pys ds)) = true
          rw [a1, b1]; rfl
        · show max (PyData.depth d.py) (PyData.depthAll (pys ds)) ≤ n
          omega
    obtain ⟨h1, h2⟩ := gen ds h
    exact ⟨h1, Nat.succ_le_succ h2⟩
theorem okD_shaped {n : Nat} {d : D} (h : okD n d = true) (hn : n ≤ 60) : SeqAt.shaped d.py = true := by
  obtain ⟨a, b⟩ := okD_py n d h
  unfold SeqAt.shaped
  rw [a, decide_eq_true (by omega)]
  rfl
theorem okDs_shaped {n : Nat} {ds : List D} (h : ds.all (okD n) = true) (hn : n ≤ 50) : SeqAt.shaped (.list (pys ds)) = true := by
  have : okD (n + 1) (.tup ds) = true := h
  obtain ⟨a, b⟩ := okD_py (n + 1) (.tup ds) this
  unfold SeqAt.shaped
  have a2 : PyData.canLayAll0 (pys ds) = true := a
  have b2 : PyData.depthAll (pys ds) + 1 ≤ n + 1 := b
  rw [show PyData.canLay0 (.list (pys ds)) = PyData.canLayAll0 (pys ds) from rfl, a2, show PyData.depth (.list (pys ds)) = PyData.depthAll (pys ds) + 1 from rfl, decide_eq_true (by omega)]
  rfl
theorem ok_tI (n : Nat) (ns : List Int) : okD (n + 1) (tI ns) = true := by
  show (ns.map D.int).all (okD n) = true
  rw [List.all_map]
  apply List.all_eq_true.mpr
  intro x _
  cases n <;> rfl
theorem ok_tII (n : Nat) (b : List (List Int)) : okD (n + 2) (tII b) = true := by
  show (b.map tI).all (okD (n + 1)) = true
  rw [List.all_map]
  apply List.all_eq_true.mpr
  intro x _
  exact ok_tI n x
section
variable {c : SC} {M : List MO} {B : Bool → List MO → Prop}
theorem c_ne_same (n : Nat) {d d2 : D} (e : d = d2) (hd : okD n d = true) (h : B false M) (hn : n ≤ 60 := by decide) : CmpR c .NotEq (.dat d) (.dat d2) M B := by
  subst e
  refine c_neD trivial trivial (okD_shaped hd hn) (okD_shaped hd hn) ?_
  show B (!PyData.eqv d.py d.py) M
  rw [SeqAt.eqv_refl _ (okD_py n d hd).1]
  exact h
theorem c_eq_same (n : Nat) {d d2 : D} (e : d = d2) (hd : okD n d = true) (h : B true M) (hn : n ≤ 60 := by decide) : CmpR c .Eq (.dat d) (.dat d2) M B := by
  subst e
  refine c_eqD trivial trivial (okD_shaped hd hn) (okD_shaped hd hn) ?_
  show B (PyData.eqv d.py d.py) M
  rw [SeqAt.eqv_refl _ (okD_py n d hd).1]
  exact h
/-- two lists of data, the same -/
theorem c_neL_same (n : Nat) {x y : AV} {ds es : List D} (hx : IsL M x ds) (hy : IsL M y es) (e : ds = es) (hd : ds.all (okD n) = true) (h : B false M) (hn : n ≤ 50 := by decide) : CmpR c .NotEq x y M B := by
  subst e
  have py : ∀ {z : AV}, IsL M z ds → IsDat M z ∧ avPy M z = .list (pys ds) := by
    intro z hz
    rcases hz with rfl | ⟨j, rfl, hm⟩
    · exact ⟨trivial, rfl⟩
    · refine ⟨⟨ds, hm⟩, ?_⟩
      unfold avPy
      rw [hm]
  obtain ⟨a1, b1⟩ := py hx
  obtain ⟨a2, b2⟩ := py hy
  refine c_neD a1 a2 (by rw [b1]; exact okDs_shaped hd hn) (by rw [b2]; exact okDs_shaped hd hn) ?_
  rw [b1, b2, SeqAt.eqv_refl _ (SeqAt.canLay_of_shaped (okDs_shaped hd hn))]
  exact h
end
end Fx

/-! Fx, part F: max with default, xs[i] op= e, enumerate over tuples, zip of tuples, calls by keywords alone. -/
namespace Fx
open PySem L2

/-! ### max(xs, default=d), ints -/
def rMaxDf (K : PySem.W.Frag) : List V → List V → Hp → VK → Prop := fun xs zs H Q => ∃ (p : Addr) (ns : List Int) (d : Int), xs = [.ref p] ∧ zs = [.int d] ∧ SqL K H p (ns.map V.int) ∧ (ns = [] → Q (.int d) H) ∧ ∀ m, m ∈ ns → (∀ y ∈ ns, y ≤ m) → Q (.int m) H
theorem maxOf_int (x : Int) (xs : List Int) : PySem.W.maxOf x xs ∈ x :: xs ∧ ∀ y ∈ x :: xs, y ≤ PySem.W.maxOf x xs := by
  unfold PySem.W.maxOf
  induction xs generalizing x with
  | nil => exact ⟨List.mem_cons_self, fun y hy => by rw [List.mem_singleton.mp hy]; exact Int.le_refl _⟩
  | cons z zs ih =>
    rw [List.foldl_cons]
    obtain ⟨h1, h2⟩ := ih (if PySem.W.DatumOrd.lt x z = true then z else x)
    have hd : PySem.W.DatumOrd.lt x z = decide (x < z) := rfl
    rw [hd] at h1 h2 ⊢
    by_cases hx : x < z
    · rw [if_pos (decide_eq_true hx)] at h1 h2 ⊢
      refine ⟨List.mem_cons_of_mem _ h1, fun y hy => ?_⟩
      rcases List.mem_cons.mp hy with rfl | hy
      · have := h2 z List.mem_cons_self
        omega
      · exact h2 y hy
    · rw [if_neg (by simp only [decide_eq_true_eq]; exact hx)] at h1 h2 ⊢
      refine ⟨?_, fun y hy => ?_⟩
      · rcases List.mem_cons.mp h1 with e | h
        · rw [e]; exact List.mem_cons_self
        · exact List.mem_cons_of_mem _ (List.mem_cons_of_mem _ h)
      · rcases List.mem_cons.mp hy with rfl | hy
        · exact h2 y List.mem_cons_self
        · rcases List.mem_cons.mp hy with rfl | hy
          · have := h2 x List.mem_cons_self
            omega
          · exact h2 y (List.mem_cons_of_mem _ hy)
theorem crk_maxDf {X : Cx} (hc : X.calm = true) (hu : X.A.units + 1 < cLine) : CallRK X (.builtin "max") ["default"] (rMaxDf X.K) := by
  intro pins s σ H xs zs us ws Q I r1 r2 h
  obtain ⟨p, ns, d, rfl, rfl, hq, h0, h1⟩ := h
  obtain ⟨its, rv, hl, hz⟩ := I.list hq
  rw [Vals.ref1 r1]
  cases r2 with
  | cons r rr =>
    cases rr
    obtain ⟨t, rfl⟩ := r
    have hi := rv.ints
    refine PySem.W.max_list_datum_default (α := Int) (xs := ns) (I.ok.hd hc) hl.isList (PySem.W.HoldAll.of_ints (by simpa using hi)) (by show X.A.units + 1 + 0 < cLine; exact hu) (fun e h' tk hk => ⟨.int d, H, I.kept hk, ⟨_, rfl⟩, h0 e⟩) fun y ys i v h' tk e hi2 hv hk => ?_
    obtain ⟨as, rr2⟩ := hv
    obtain ⟨q1, q2⟩ := maxOf_int y ys
    rw [← e] at q1 q2
    cases rr2 with
    | int n t2 => exact ⟨.int _, H, I.kept hk, ⟨_, rfl⟩, h1 _ q1 q2⟩
section
variable {c : SC} {δ : Dl} {M : List MO} {Post : AQ} {a b e t : Expr} {es : List Expr} {pos p p1 p2 : Pos} {x : Str} {id : String}
def wCK (X : Cx) (f : Value) (ks : List Str) (xs zs : List V) (H : Hp) (Q : VK) : Prop := ∃ r, CallRK X f ks r ∧ r xs zs H Q
theorem wCK_ok {X : Cx} {f : Value} {ks : List Str} : CallRK X f ks (wCK X f ks) := fun pins s σ H xs zs us ws Q I r1 r2 ⟨r, h, q⟩ => h pins s σ H xs zs us ws Q I r1 r2 q
def CallAK (c : SC) (f : Value) (ks : List Str) (as bs : List AV) (M : List MO) (Post : AQ) : Prop :=
  ∀ (z : Dyn c) (H : Hp) (ad : List Addr), StOk c.K ad H M → ∀ vs us, RepAs c.K ad H as vs → RepAs c.K ad H bs us → ∀ Q : VK,
    (∀ v H2 ad2 a M2, Nx ad H ad2 H2 → StOk c.K ad2 H2 M2 → RepA c.K ad2 H2 a v → Post a M2 → Q v H2) → wCK z.cx f ks vs us H Q
theorem repAs_nx {K : PySem.W.Frag} {ad ad2 : List Addr} {H H2 : Hp} {as : List AV} {vs : List V} (n : Nx ad H ad2 H2) (r : RepAs K ad H as vs) : RepAs K ad2 H2 as vs := r.nx n
theorem x_bltK {kws : List Keyword} (ks : List Str) (hg : c.gl x) (hm : c.mg x = none) (hv : bootBuiltins x = some (.builtin id)) (h : EvA c δ M (e :: es) fun as M1 => EvK c δ M1 kws fun bs M2 => CallAK c (.builtin id) ks as bs M2 Post)
    (he : ∀ env, backTo pos (starEach (e :: es) env) = (false, eval e env) :: backTo pos (starEach es env)) (hpl : ∀ env, (backTo pos (starEach (e :: es) env)).any (·.1) = false) (hall : ∀ env, (backToKw pos (keywordEach kws env)).all (·.1.isSome) = true)
    (hno : ∀ env, (backToKw pos (keywordEach kws env)).any (·.1.isNone) = false) (hks : ∀ env, (backToKw pos (keywordEach kws env)).filterMap (·.1) = ks) (hn : x ≠ "__name__" := by decide) (hdb : (x == ("__debug__" : Str)) = false := by decide) :
    EvX c δ M (.Call (.Name x p) (e :: es) kws pos) Post := fun y σ H ad he' hs Q q =>
  ⟨_, pe_callBK (X := y.cx) wCK_ok (glS y hg) hm hv wA_ok wK_ok hn hdb (he y.env) (hpl y.env) (hall y.env) (hno y.env) (hks y.env), h y σ H ad he' hs _ fun vs H1 ad1 as M1 n1 s1 r1 p1 => p1 y σ H1 ad1 (he'.nx n1) s1 _ fun us H2 ad2 bs M2 n2 s2 r2 p2 =>
    p2 y H2 ad2 s2 vs us (r1.nx n2) r2 Q fun v H3 ad3 a3 M3 n3 s3 r3 p3 => q v H3 ad3 a3 M3 ((n1.trans n2).trans n3) s3 r3 p3⟩
theorem ck_maxDf {v : AV} {ns : List Int} {d : Int} (hv : IsL M v (ns.map .int)) (h0 : ns = [] → Post (.dat (.int d)) M) (h : ∀ m, m ∈ ns → (∀ y, y ∈ ns → y ≤ m) → Post (.dat (.int m)) M) : CallAK c (.builtin "max") ["default"] [v] [.dat (.int d)] M Post := fun z H ad hs vs us r r2 Q q => by
  obtain ⟨u, rfl, ru⟩ := repAs1 r
  obtain ⟨u2, rfl, ru2⟩ := repAs1 r2
  obtain ⟨pp, xs, rfl, hq, rr⟩ := hv.sq hs ru
  rw [reps_ints.mp rr] at hq
  rw [show u2 = .int d from ru2]
  exact ⟨_, crk_maxDf rfl (hu_of z.room), pp, ns, d, rfl, rfl, hq, fun e => q _ H ad (.dat (.int d)) M Nx.refl hs rfl (h0 e), fun m h1 h2 => q _ H ad (.dat (.int m)) M Nx.refl hs rfl (h m h1 h2)⟩

/-! ### xs[i] op= e -/
def rGetL (K : PySem.W.Frag) : V → V → Hp → VK → Prop := fun o i H Q => ∃ p xs n v, o = .ref p ∧ i = .int (n : Nat) ∧ SqL K H p xs ∧ xs[n]? = some v ∧ Q v H
theorem get_listN {X : Cx} : PGet X (rGetL X.K) := by
  intro pins s σ H o i ov iv Q I ro ri h
  obtain ⟨p, xs, n, v, rfl, rfl, hq, hx, q⟩ := h
  cases ro
  obtain ⟨t, rfl⟩ := ri
  obtain ⟨its, rv, hl, hz⟩ := I.list hq
  obtain ⟨u, hu, ru⟩ := rv.get hx
  have hn := (List.getElem?_eq_some_iff.mp hx).1
  have h63 := line63
  exact wpAny_getItem_list hl.isList (by omega) (by omega) (by simpa using hu) ⟨v, H, I, ru, q⟩
theorem s_augS {D : AE} {o i : Expr} {op : Operator} (h : EvX c δ M o fun w M1 => EvX c δ M1 i fun u M2 => ∃ (j n : Nat) (ds : List Fx.D) (d : Fx.D), w = .mut j ∧ u = .dat (.int (n : Nat)) ∧ M2[j]? = some (.lst ds) ∧ ds[n]? = some d ∧
      EvX c δ M2 e fun v M3 => BinR c (inplaceOp op) (.dat d) v M3 fun r M4 => ∃ (d' : Fx.D) (ds4 : List Fx.D), r = .dat d' ∧ M4[j]? = some (.lst ds4) ∧ n < ds4.length ∧ D.nx δ (M4.set j (.lst (ds4.set n d'))))
    (ha : ∀ ov iv new, augStore i ov iv new = (do holding [new, ov, iv] (setItem ov iv new); release [new, ov, iv] []; pure .next)) : Run1 c δ M (.AugAssign (.Subscript o i p) op e pos) D := fun y σ H ad he hs E q =>
  ⟨_, ps_augS wE_ok wE_ok get_listN wE_ok (wO_ok (X := y.cx) (f := inplaceOp op)) set_list ha, h y σ H ad he hs _ fun w H1 ad1 a1 M1 n1 s1 r1 p1 => p1 y σ H1 ad1 (he.nx n1) s1 _ fun u H2 ad2 a2 M2 n2 s2 r2 ⟨j, n, ds, d, e1, e2, hm, hd, p2⟩ => by
    subst e1 e2
    obtain ⟨qq, xs, rfl, hq, hx, rr⟩ := st_lst s2 (r1.nx n2) hm
    obtain ⟨v0, hv0, rv0⟩ := rr.get hd
    have n12 := n1.trans n2
    refine ⟨qq, xs, n, v0, rfl, r2, .inl (.inl hx), hv0, p2 y σ H2 ad2 (he.nx n12) s2 _ fun v H3 ad3 a3 M3 n3 s3 r3 p3 => ?_⟩
    refine p3 y H3 ad3 s3 v0 v (show RepA c.K ad3 H3 (.dat d) v0 from Rep.tx n3.tx rv0) r3 _ fun v4 H4 ad4 a4 M4 n4 s4 r4 ⟨d', ds4, e4, hm4, hn4, p4⟩ => ?_
    subst e4
    obtain ⟨q4, xs4, e5, hq4, hx4, rr4⟩ := st_lst s4 ((((show RepA c.K ad2 H2 (.mut j) (.ref qq) from ⟨qq, hq, rfl⟩).nx n3).nx n4)) hm4
    cases e5
    obtain ⟨s5, n5⟩ := put_lst (ds := ds4) (ys := xs4.set n v4) s4 hq4 hx4 (rr4.set r4 n)
    have n15 := ((n12.trans n3).trans n4).trans n5
    refine ⟨qq, xs4, n, n, rfl, r2, hx4, ?_, q.nx σ _ ad4 δ _ n15 (he.nx n15) s5 p4⟩
    unfold ixN
    rw [if_pos (by omega), if_pos (by rw [rr4.length]; omega)]
    simp⟩
end

end Fx

/-! Fx, part G: enumerate over a tuple, zip of tuples, calls by keywords alone. -/
namespace PySem
open Sem (wp)
open AutoSeq1 (wpAny_loadPart')
theorem meets_enumerate_newT9 (l : Addr) (items : Array Value) (n : Nat) (dct : Option Addr) (sl : Array (Option Value)) :
    Meets (Builtin.«enumerate.__new__» ⟨[.type "enumerate", .ref l], []⟩) (fun _ R s => s.heap.get? l = some { cls := .type "tuple", dict := dct, data := .seq items n, slots := sl } ∧
      R (.ok (.ret (.ref (s.heap.push { cls := .type "tuple_iterator", data := .fields #[.ref l, .int 0 0] }).objs.size)))
        { s with heap := (s.heap.push { cls := .type "tuple_iterator", data := .fields #[.ref l, .int 0 0] }).push { cls := .type "enumerate", data := .fields #[.none, .bool false, .ref s.heap.objs.size, rawInt 0, .none, .none] } }) :=
  .of_wp fun prog w A R s h => by
    obtain ⟨hp, g, d, tk, os⟩ := s; obtain ⟨hl, h⟩ := h
    have hsub := sub_enumerate
    have hL : Heap.IsTuple (Shared.heap ⟨hp, g, d, tk, os⟩) l items := ⟨_, hl, rfl, n, rfl⟩
    wp_walk using wpAny_loadPart' hl
    refine wpAny_stack_any fun st => wpAny_pure ?_
    split
    · rename_i c _ _ _ _ _
      cases (c == Value.type "enumerate")
      · wp_walk using wpAny_loadPart' hl, wpAny_pyIter_tuple hL
        exact ⟨_, rfl, h⟩
      · wp_walk using wpAny_loadPart' hl, wpAny_pyIter_tuple hL
        exact ⟨_, rfl, h⟩
    · wp_walk using wpAny_loadPart' hl, wpAny_pyIter_tuple hL
      exact ⟨_, rfl, h⟩
section
variable {prog : Program} {w : World} {A : Around} {E : Value → Shared → Prop} {s : Shared}
theorem call_enumerate_tuple9 {l : Addr} {items : Array Value} {Q : Value → Shared → Prop} (hL : s.heap.IsTuple l items)
    (h : ∀ h', IsEnum h' (s.heap.objs.size + 1) s.heap.objs.size 0 .none → h'.IsTupleIter s.heap.objs.size l 0 → h'.objs.size = s.heap.objs.size + 2 →
      (∀ b o, s.heap.get? b = some o → h'.get? b = some o) → Q (.ref (s.heap.objs.size + 1)) { s with heap := h' }) :
    wpAny (model prog w) A (call (.type "enumerate") [.ref l]) Q E s := by
  obtain ⟨⟨c, dct, dt, sl⟩, hl, hc, n, hd⟩ := hL
  replace hc : c = .type "tuple" := hc
  replace hd : dt = .seq items n := hd
  subst hc hd
  refine callType_new F.called_enumerate (by decide) (F.typeCall_enumerate_1 _) (F.newCall_enumerate_1 _) (fun obj => F.args_object_init_2 obj _) F.entry_enumerate_new
    (meets_enumerate_newT9 l items n dct sl) ⟨hl, ?_⟩
  have hz : (s.heap.push { cls := .type "tuple_iterator", data := .fields #[.ref l, .int 0 0] }).objs.size = s.heap.objs.size + 1 := Heap.size_push ..
  show _ ∧ _
  rw [hz]
  have he : IsEnum ((s.heap.push { cls := .type "tuple_iterator", data := .fields #[.ref l, .int 0 0] }).push
      { cls := .type "enumerate", data := .fields #[.none, .bool false, .ref s.heap.objs.size, rawInt 0, .none, .none] }) (s.heap.objs.size + 1) s.heap.objs.size 0 .none := by
    have := Heap.get?_push_size (s.heap.push { cls := .type "tuple_iterator", data := .fields #[.ref l, .int 0 0] })
      (o := { cls := .type "enumerate", data := .fields #[.none, .bool false, .ref s.heap.objs.size, rawInt 0, .none, .none] }) rfl
    rw [hz] at this; exact this
  refine ⟨⟨_, he, rfl⟩, h _ he ⟨_, Heap.get?_push_of_some _ (Heap.get?_push_size _ rfl), rfl, rfl⟩ (by rw [Heap.size_push, hz]) fun b o x => Heap.get?_push_of_some _ (Heap.get?_push_of_some _ x)⟩
theorem pyNext_enumT_end9 {e it l : Addr} {i : Nat} {items : Array Value} {old : Value} {Q : Option Value → Shared → Prop} (hh : A.handled = none)
    (he : IsEnum s.heap e it i old) (hit : s.heap.IsTupleIter it l i) (hl : s.heap.IsTuple l items) (hx : items[i]? = none)
    (hQ : ∀ h', Heap.ExtBut it s.heap h' → Q none { s with heap := h' }) : wpAny (model prog w) A (pyNext (.ref e)) Q E s := by
  have hT : s.TypeIs (.ref e) "enumerate" := ⟨_, he, rfl⟩
  unfold pyNext
  refine wpAny_bind (wpAny_attempt (wpAny_callSpecial?_slot (name := Str.ofString "__next__") hT F.slot_enumerate_next
    (wpAny_call_entry F.slot_enumerate_next hT F.entry_enumerate_next ?_ (F.args_enumerate_next_1 _))))
  show wpAny _ _ (field (.ref e) 2 >>= _) _ _ _
  refine wpAny_bind (wpAny_field he rfl (x := .ref it) rfl ?_)
  refine wpAny_bind (wpAny_nextOf_tuple_end hh hit hl hx fun h' x he' hx' => ?_)
  obtain ⟨o, ho, hc⟩ := hx'
  refine wpAny_bind (wpAny_isInstance (T := "StopIteration") (b := true) ⟨o, ho, hc⟩ isSubtype_stop ?_)
  exact wpAny_pure (hQ _ he')
end
end PySem
namespace L2
open PySem PySem.Spec PyProof.Rows
/-- the tuple at a, each item in a new pair -/
def IteT (K : PySem.W.Frag) (a : Addr) : It :=
  ⟨fun i H => ∃ (xs : List V) (x : V), SqT K H a xs ∧ xs[i]? = some x, fun i H v H' => ∃ T x, v = .ref T ∧ H T = none ∧ H' = upd H T (.tup [.int (i : Nat), x]) ∧ ∀ xs, SqT K H a xs → xs[i]? = some x, fun i H => ∃ xs : List V, SqT K H a xs ∧ xs.length ≤ i⟩
theorem turn_enumT {P : Program} {w : World} {K : PySem.W.Frag} {elts : List Expr} {kk : Nat} {tpos : Pos} (a e it : Addr) (hea : e ≠ a) (hia : a ≠ it) (hei : e ≠ it) :
    Turn P w K (.Tuple elts kk tpos) (IteT K a) [e, it] e (fun i h => (∃ old, IsEnum h e it ((i : Nat) : Int) old) ∧ h.IsTupleIter it a i) where
  mem := by simp
  obj := fun i h st b hb => by
    obtain ⟨⟨old, he⟩, ⟨o, ho, hc, hd⟩⟩ := st
    have e' : b = e ∨ b = it := by simpa using hb
    rcases e' with z | z
    · rw [z]; exact ⟨_, he, fun v q => nomatch q⟩
    · rw [z]; exact ⟨o, ho, fun v q => by rw [hd] at q; cases q⟩
  keep := fun i h h' st k => let ⟨⟨old, he⟩, hi⟩ := st; ⟨⟨old, k e (by simp) _ he⟩, hi.at fun o q => k it (by simp) o q⟩
  item := by
    intro X hP hw hK hc i pins s σ H E I hf st hg
    subst hP hw hK
    obtain ⟨⟨old, he⟩, hit⟩ := st
    obtain ⟨xs, x, hq, hx⟩ := hg
    obtain ⟨its, rv, p, hz⟩ := I.tuple hq
    obtain ⟨u, hu, ru⟩ := rv.get hx
    have hel : e < s.heap.objs.size := Heap.lt_size he
    have hil : it < s.heap.objs.size := by obtain ⟨_, q, _⟩ := hit; exact Heap.lt_size q
    have hil2 : i < its.toArray.size := by
      have := (List.getElem?_eq_some_iff.mp hu).1
      simpa using this
    refine wpAny_pyNext_enum_itemD (Draws.tuple (A := X.A.in1) (I.ok.hd hc) it a hia its.toArray) he ⟨hit, (show s.heap.IsTuple a its.toArray from p)⟩ hil2 hei (by simp [hei, hea]) fun z h' tk hz' ho hst' hT hsz hk => ?_
    have ezu : z = u := by
      have h1 : its.toArray[i]? = some u := by simpa using hu
      rw [h1] at hz'
      exact (Option.some.inj hz').symm
    subst ezu
    obtain ⟨hit', _⟩ := hst'
    refine ⟨_, rfl, wpAny_letOwnedTupleGo_enum (s := { s with heap := h', toks := tk + 1 }) ho fun h'' he' sb => ?_⟩
    have hT2 : h''.get? s.heap.objs.size = some { cls := .type "tuple", data := .seq #[.int i tk, z] } := (sb.2 _ (Nat.ne_of_gt hel)).trans hT
    have new : ObjOk X.prog X.w (upd H s.heap.objs.size (.tup [.int (i : Nat), x])) h'' s.heap.objs.size (.tup [.int (i : Nat), x]) :=
      ⟨by show 2 ≤ sizeLine; decide, [.int i tk, z], .cons ⟨_, rfl⟩ (.cons ru .nil), ⟨_, hT2, rfl, _, rfl⟩⟩
    have I1 : Inv X pins σ (upd H s.heap.objs.size (.tup [.int (i : Nat), x])) { s with heap := h'', toks := tk + 1 } :=
      I.turnedNew (ch := [e, it]) (fun b ob hb q => (sb.2 b (fun z => hb (by simp [z]))).trans (hk b ob (fun z => hb (by simp [z])) (fun z => hb (by simp [z])) q)) hf (Nat.le_refl _) new
    refine ⟨.ref s.heap.objs.size, _, I1, rfl, ⟨_, x, rfl, I.hok.fresh (Nat.le_refl _), rfl, fun ys hy => by rw [I.tuple_inj hy hq]; exact hx⟩, ⟨⟨z, ?_⟩, hit'.at fun o q => (sb.2 it (Ne.symm hei)).trans q⟩, fun b hb => ?_⟩
    · have e1 : ((i + 1 : Nat) : Int) = (i : Int) + 1 := by omega
      rw [e1]; exact he'
    · have hb' : b < s.heap.objs.size := by
        have e' : b = e ∨ b = it := by simpa using hb
        rcases e' with z | z
        · rw [z]; exact hel
        · rw [z]; exact hil
      rw [upd_ne (Nat.ne_of_lt hb')]
      exact (hf b hb).1
  done := by
    intro X hP hw hK hc i pins s σ H E I hf st hg
    subst hP hw hK
    obtain ⟨⟨old, he⟩, hit⟩ := st
    obtain ⟨xs, hq, hx⟩ := hg
    obtain ⟨its, rv, p, hz⟩ := I.tuple hq
    obtain ⟨f0, f1, f2, f3, f4, f5⟩ := hf it (by simp)
    have hl := rv.length
    exact pyNext_enumT_end9 (I.ok.hd hc) he hit (show s.heap.IsTuple a its.toArray from p) (by simp; omega) fun h' eb => ⟨rfl, I.turned (t' := s.toks) (fun b o hb q => eb b o hb q) f0 f1 f3 f4 f5⟩
  self := fun A i s Q E st h => let ⟨⟨_, he⟩, _⟩ := st; wpAny_pyIter_enum he h
def iEnumT (K : PySem.W.Frag) (ta : TA) : TI := fun σ H R => ta σ H fun vs H1 => ∃ a xs, vs = [.ref a] ∧ SqT K H1 a xs ∧ R (IteT K a) H1
theorem pi_enumT {X : Cx} {e : Expr} {ta : TA} {p pos tpos : Pos} {elts : List Expr} {kk : Nat} (hg : Gl X "enumerate") (hm : X.mg "enumerate" = none) (ha : PA X [e] ta) (hs : starEach [e] X.env = [(false, eval e X.env)]) :
    PI X (.Tuple elts kk tpos) (.Call (.Name "enumerate" p) [e] [] pos) (iEnumT X.K ta) := by
  refine ⟨fun pins s σ H R I h => ?_⟩
  refine Call_ (ld_blt I hg hm boot_enumerate (PyProof.Rows.callWith_type1 (thn (ha.run pos pins s σ H _ I h) fun us s1 ⟨vs, H1, I1, r1, q1⟩ => ?_) hs rfl))
  obtain ⟨a, xs, ex, hq, q⟩ := q1
  subst ex
  cases r1 with
  | cons r rr =>
    cases rr
    cases r
    obtain ⟨its, rv, p', hz⟩ := I1.tuple hq
    have hal : a < s1.heap.objs.size := by
      obtain ⟨o, ho, _⟩ := id p'
      exact Heap.lt_size ho
    refine call_enumerate_tuple9 (show s1.heap.IsTuple a its.toArray from p') fun h' he hit hsz hk => wpAny_pyIter_enum he ?_
    have I2 : Inv X pins σ H1 { s1 with heap := h' } := I1.kept (t' := s1.toks) hk
    refine ⟨s1.heap.objs.size + 1, [s1.heap.objs.size + 1, s1.heap.objs.size], _, _, H1, rfl, I2, turn_enumT a (s1.heap.objs.size + 1) s1.heap.objs.size (Nat.ne_of_gt (Nat.lt_succ_of_lt hal)) (Nat.ne_of_lt hal) (Nat.succ_ne_self _), ⟨⟨.none, he⟩, hit⟩, fun b hb => ?_, q⟩
    have e' : b = s1.heap.objs.size + 1 ∨ b = s1.heap.objs.size := by simpa using hb
    have hle : s1.heap.objs.size ≤ b := by
      rcases e' with z | z
      · rw [z]; exact Nat.le_add_right _ _
      · rw [z]; exact Nat.le_refl _
    exact I1.fpOk hle (I1.hok.fresh hle)
/-- f(k = v, ..) -/
theorem pe_callK00 {X : Cx} {CX : CXT} {k : Nat} {f : Addr} {fd : FuncData} {ps ks : List Str} {sp : Sp} {x : Str} {p pos : Pos} {kws : List Keyword} {g : List Value → List Value → List Value} {gV : List V → List V → List V} {E : XK} {tk : TA}
    (F : FnOk X.prog X.w X.K X.mg X.base CX k f fd ps sp) (hr : Room k X.A) (hg : Gl X x) (hm : X.mg x = some (.ref f)) (hk : PySem.W.keepIn X.K (.ref f) = true) (hb : KBinds X.K fd ps ks g gV) (hx : Passes CX X E)
    (hkw : PK X kws tk) (hall : (backToKw pos (keywordEach kws X.env)).all (·.1.isSome) = true) (hks : (backToKw pos (keywordEach kws X.env)).filterMap (·.1) = ks)
    (hdb : (x == ("__debug__" : Str)) = false)
    (hpl : ((backTo pos (starEach [] X.env)).any (·.1) || (backToKw pos (keywordEach kws X.env)).any (·.1.isNone)) = false) :
    PE X (.Call (.Name x p) [] kws pos) (fun σ H Q => tk σ H fun zs H2 => sp (gV [] zs) H2 Q E) := by
  refine ⟨fun pins s σ H Q I h => ?_⟩
  refine wpAny_Call_Name_kw (ld_glob I hg hm ?_ hdb)
  refine PySem.W.callWith_KW0 (h₀ := X.base) I.ok.mod.kin hk hall ?_ hpl
  refine thn (hkw.run pos pins s σ H _ I h) fun ws s2 ⟨zs, H2, I2, rz, q2⟩ => ⟨I2.kIn, ?_⟩
  rw [hks]
  exact run_fnk (us := []) (vs := []) F hr hb hx I2 .nil rz q2
end L2
namespace Fx
open PySem L2
section
variable {c : SC} {δ : Dl} {M : List MO} {Post : AQ} {a b e t : Expr} {es : List Expr} {pos p p1 p2 tpos : Pos} {x : Str} {Pi : List D → Option Nat → List MO → Prop} {elts : List Expr} {kk : Nat}
def enumD (ds : List D) : List D := ds.zipIdx.map fun q => D.tup [.int (q.2 : Nat), q.1]
theorem enumD_len (ds : List D) : (enumD ds).length = ds.length := by unfold enumD; rw [List.length_map, List.length_zipIdx]
theorem enumD_get {ds : List D} {i : Nat} {d : D} (h : (enumD ds)[i]? = some d) : ∃ d', ds[i]? = some d' ∧ d = .tup [.int (i : Nat), d'] := by
  unfold enumD at h
  rw [List.getElem?_map, List.getElem?_zipIdx] at h
  cases q : ds[i]? with
  | none => rw [q] at h; cases h
  | some d' =>
    rw [q] at h
    have := Option.some.inj h
    exact ⟨d', rfl, by rw [← this]; simp⟩
theorem walks_enumT {K : PySem.W.Frag} {ad : List Addr} {H : Hp} {ds : List D} {q : Addr} {xs : List V} (hq : SqT K H q xs) (rr : Reps K H ds xs) : Walks K (IteT K q) ad H (enumD ds) none := fun ad2 H2 M2 n s _ i => by
  have hq2 := sqT_tx n.tx hq
  have rr2 := rr.tx n.tx
  refine ⟨fun d hd => ?_, fun e => ⟨xs, hq2, by rw [rr2.length, e, enumD_len]; exact Nat.le_refl _⟩⟩
  obtain ⟨d', hd', rfl⟩ := enumD_get hd
  obtain ⟨w, hw, rw'⟩ := rr2.get hd'
  refine ⟨⟨xs, w, hq2, hw⟩, fun x H3 ⟨T, y, e1, hT, e3, hy⟩ => ?_⟩
  subst e1 e3
  have := hy xs hq2
  rw [hw] at this
  cases this
  have sm := same_new (o := .tup [.int (i : Nat), w]) hT
  exact ⟨sm, T, _, rfl, .inl (.inl upd_same), _, _, rfl, rfl, _, _, rfl, Rep.tx (Tx.same sm) rw', rfl⟩
theorem i_enumT (hm : c.mg "enumerate" = none) (hg : c.gl "enumerate") (h : EvA c δ M [e] fun as M1 => ∃ ds, as = [.dat (.tup ds)] ∧ Pi (enumD ds) none M1)
    (hs1 : ∀ env, starEach [e] env = [(false, eval e env)]) : EvI c δ M (.Tuple elts kk tpos) (.Call (.Name "enumerate" p) [e] [] pos) Pi := fun y σ H ad he hs R q =>
  ⟨_, pi_enumT (glS y hg) hm wA_ok (hs1 y.env), h y σ H ad he hs _ fun vs H1 ad1 as M1 n1 s1 r1 ⟨ds, e1, p1⟩ => by
    subst e1
    obtain ⟨v, e2, qq, xs, e3, hq, rr⟩ := repAs1 r1
    subst e2 e3
    exact ⟨qq, xs, rfl, hq, q _ H1 ad1 _ _ M1 n1 s1 (walks_enumT hq rr) p1⟩⟩
/-- zip of two tuples -/
def zipD (ds es : List D) : List D := (ds.zip es).map fun q => D.tup [q.1, q.2]
theorem zipD_get {ds es : List D} {i : Nat} {d : D} (h : (zipD ds es)[i]? = some d) : ∃ d1 d2, ds[i]? = some d1 ∧ es[i]? = some d2 ∧ d = .tup [d1, d2] := by
  unfold zipD at h
  rw [List.getElem?_map] at h
  cases q : (ds.zip es)[i]? with
  | none => rw [q] at h; cases h
  | some d' =>
    rw [q] at h
    have := Option.some.inj h
    obtain ⟨h1, h2⟩ := List.getElem?_zip_eq_some.mp q
    exact ⟨d'.1, d'.2, h1, h2, this.symm⟩
theorem walks_zipT {K : PySem.W.Frag} {ad : List Addr} {H : Hp} {ds es : List D} {qa qb : Addr} {xs ys : List V} (hq : SqT K H qa xs) (rr : Reps K H ds xs) (hq' : SqT K H qb ys) (rr' : Reps K H es ys) : Walks K (RZ.ItzT K qa qb) ad H (zipD ds es) none := fun ad2 H2 M2 n s _ i => by
  have hq2 := sqT_tx n.tx hq
  have rr2 := rr.tx n.tx
  have hq2' := sqT_tx n.tx hq'
  have rr2' := rr'.tx n.tx
  refine ⟨fun d hd => ?_, fun e => ⟨xs, ys, hq2, hq2', ?_⟩⟩
  · obtain ⟨d1, d2, h1, h2, rfl⟩ := zipD_get hd
    obtain ⟨w, hw, rw'⟩ := rr2.get h1
    obtain ⟨w2, hw2, rw2⟩ := rr2'.get h2
    refine ⟨⟨xs, ys, w, w2, hq2, hq2', hw, hw2⟩, fun x H3 ⟨T, y, z, e1, hT, e3, hy, hz⟩ => ?_⟩
    subst e1 e3
    have := hy xs hq2
    rw [hw] at this
    cases this
    have := hz ys hq2'
    rw [hw2] at this
    cases this
    have sm := same_new (o := .tup [w, w2]) hT
    exact ⟨sm, T, _, rfl, .inl (.inl upd_same), _, _, rfl, Rep.tx (Tx.same sm) rw', _, _, rfl, Rep.tx (Tx.same sm) rw2, rfl⟩
  · have hl : (zipD ds es).length = min ds.length es.length := by unfold zipD; rw [List.length_map, List.length_zip]
    rw [rr2.length, rr2'.length]
    omega
theorem i_zipT (hm : c.mg "zip" = none) (hg : c.gl "zip") (h : EvA c δ M [a, b] fun as M1 => ∃ ds es, as = [.dat (.tup ds), .dat (.tup es)] ∧ Pi (zipD ds es) none M1)
    (hs1 : ∀ env, starEach [a, b] env = (false, eval a env) :: starEach [b] env) (hpl : ∀ env, (backTo pos (starEach [b] env)).any (·.1) = false) : EvI c δ M (.Tuple elts kk tpos) (.Call (.Name "zip" p) [a, b] [] pos) Pi := fun y σ H ad he hs R q =>
  ⟨_, RZ.pi_zipA (glS y hg) hm wA_ok (hs1 y.env) (hpl y.env), h y σ H ad he hs _ fun vs H1 ad1 as M1 n1 s1 r1 ⟨ds, es, e1, p1⟩ => by
    subst e1
    obtain ⟨v, v2, e2, ⟨qa, xs, e3, hq, rr⟩, ⟨qb, ys, e4, hq', rr'⟩⟩ := repAs2 r1
    subst e2 e3 e4
    exact ⟨qa, qb, xs, ys, rfl, .inr ⟨hq, hq', q _ H1 ad1 _ _ M1 n1 s1 (walks_zipT hq rr hq' rr') p1⟩⟩⟩
/-- f(k = v, ..), in the order of the parameters -/
theorem x_callK0 {A : ASp} {kws : List Keyword} {n k : Nat} {st : Stmt} {ps : List Str} (ks : List Str) (F : DefOk c.P c.w c.K c.mg c.base k x st ps (spOf c.K ps.length A)) (hk : k ≤ c.k) (hg : c.gl x)
    (hB : ∀ (kV doc pm : Value) (an : Option Addr) (cdv ct : Value) (ws : List Value), ws.length = n → bindArgs (PySem.W.fnOf x x (defArgs st) (defBody st) (defScope st) .none kV doc pm an cdv ct) ⟨[], ks.zip ws⟩ = pure (ps.zip ws))
    (hmn : ps.length = n) (hn0 : 0 < n)
    (h : EvK c δ M kws fun bs M2 => bs.length = n ∧ A bs M2 Post)
    (hall : ∀ env, (backToKw pos (keywordEach kws env)).all (·.1.isSome) = true) (hks : ∀ env, (backToKw pos (keywordEach kws env)).filterMap (·.1) = ks)
    (hpl : ∀ env, ((backTo pos (starEach [] env)).any (·.1) || (backToKw pos (keywordEach kws env)).any (·.1.isNone)) = false) (hdb : (x == ("__debug__" : Str)) = false := by decide) : EvX c δ M (.Call (.Name x p) [] kws pos) Post := fun y σ H ad he hs Q q => by
  obtain ⟨fa, fd, hm, F1, hb, ok⟩ := F.ex
  have kb : KBinds c.K fd ps ks (ordK 0 n) (ordK 0 n) := by
    obtain ⟨oc, od, kV, doc, pm, an, cdv, ct, osl, rfl, lk, hcd⟩ := F1.ex
    refine ⟨fun s us ws _ hl => ?_, fun {vs us zs ws} r1 r2 => ?_⟩
    · unfold ordK at hl ⊢
      by_cases hc : us.length = 0 ∧ ws.length = n
      · rw [if_pos hc]
        have eu : us = [] := List.eq_nil_of_length_eq_zero hc.1
        subst eu
        exact .of_eq (hB kV doc pm an cdv ct ws hc.2)
      · rw [if_neg hc] at hl
        have : ([] : List Value).length = 0 := rfl
        omega
    · unfold ordK
      rw [r1.length, r2.length]
      by_cases hc : us.length = 0 ∧ ws.length = n
      · rw [if_pos hc, if_pos hc]
        exact vals_append r1 r2
      · rw [if_neg hc, if_neg hc]
        exact .nil
  refine ⟨_, pe_callK00 (X := y.cx) (ks := ks) ok (y.room.mono hk) (glS y hg) hm F1.kp kb pass0 wK_ok (hall y.env) (hks y.env) hdb (hpl y.env), h y σ H ad he hs _ fun us H2 ad2 bs M2 n2 s2 r2 ⟨l2, hA⟩ => ?_⟩
  have e1 : ([] : List V).length = 0 ∧ us.length = n := ⟨rfl, by rw [repAs_length r2]; exact l2⟩
  unfold ordK
  rw [if_pos e1]
  exact ⟨by rw [List.nil_append, e1.2, hmn], ad2, bs, M2, Post, s2, r2, hA, fun v H3 ad3 a3 M3 n3 s3 r3 p3 => q v H3 ad3 a3 M3 (n2.trans n3) s3 r3 p3⟩
/-- a new list goes into the store at once -/
theorem x_N (h : EvF c δ M e fun ds M1 => Post (.mut M1.length) (M1 ++ [.lst ds])) : EvX c δ M e Post := fun y σ H ad he hs Q q =>
  h y σ H ad he hs Q fun pq xs H2 ad2 ds M2 n s f1 f2 f3 f4 z => q (.ref pq) H2 (ad2 ++ [pq]) (.mut M2.length) _ (push_nx n f1 f2) (s.push (m := .lst ds) f2 ⟨xs, f3, f4⟩) ⟨pq, by rw [← s.len, List.getElem?_append_right (Nat.le_refl _), Nat.sub_self]; rfl, rfl⟩ z
/-- x, y = a, b -/
theorem s_p2 {D : AE} {x2 : Str} {i j : Nat} {px py pt pt2 : Pos} {kt k2 : Nat} [hi : VarAt c.N x i] [hj : VarAt c.N x2 j] [hk : NamesOk c.N] (hij : i ≠ j) (hx : c.sc.names.lookup x = some .local) (hy : c.sc.names.lookup x2 = some .local)
    (h : EvA c δ M [a, b] fun as M1 => ∃ v w, as = [v, w] ∧ D.nx ((δ.set i (some v)).set j (some w)) M1)
    (hw : ∀ env : Env, env.scope = c.sc → swappedStores [.Tuple [.Name x px, .Name x2 py] kt pt] (.Tuple [a, b] k2 pt2) env = pure (some [x, x2]))
    (hs1 : ∀ env, swapsWithSole [.Tuple [.Name x px, .Name x2 py] kt pt] (.Tuple [a, b] k2 pt2) pos.line env = pure false) :
    Run1 c δ M (.Assign [.Tuple [.Name x px, .Name x2 py] kt pt] (.Tuple [a, b] k2 pt2) pos) D := s_par i j hi.get hj.get hk.nd hij hx hy h hw hs1
theorem swaps_of {S : Scope} {ts : List Expr} {v : Expr} {r : Sem (Option (List Str))} (h : ∀ (env : Env), swappedStores ts v { env with scope := S } = r) : ∀ env : Env, env.scope = S → swappedStores ts v env = r := fun env e => by
  have := h env
  rw [← e] at this
  exact this
/-- xs * n, a new list -/
theorem f_repL {Pf : List D → List MO → Prop} (h : EvX c δ M a fun x M1 => EvX c δ M1 b fun y M2 => ∃ (ds : List D) (n : Int), IsL M2 x ds ∧ y = .dat (.int n) ∧ 0 ≤ n ∧ n ≤ 1000 ∧ ds.length ≤ 1000 ∧ Pf (List.replicate n.toNat ds).flatten M2) : EvF c δ M (.BinOp a .Mult b pos) Pf := fun y σ H ad he hs Q q =>
  ⟨_, pe_op op_rep wE_ok wE_ok, h y σ H ad he hs _ fun v H1 ad1 x M1 n1 s1 r1 p1 => p1 y σ H1 ad1 (he.nx n1) s1 _ fun u H2 ad2 z M2 n2 s2 r2 ⟨ds, n, hx, e2, h0, hn, hl, p2⟩ => by
    subst e2
    obtain ⟨pp, xs, rfl, h1, rr⟩ := hx.at_ s2 (r1.nx n2)
    have hm : xs.length * n.toNat ≤ 1000 * 1000 := Nat.mul_le_mul (by rw [rr.length]; exact hl) (by omega)
    refine ⟨pp, n, xs, rfl, r2, h1, by omega, by omega, Nat.le_trans hm (by decide), fun q2 hq2 => ?_⟩
    have sm := same_new (o := .lst (List.replicate n.toNat xs).flatten) hq2
    have n12 := n1.trans n2
    have reps : ∀ k : Nat, Reps c.K H2 (List.replicate k ds).flatten (List.replicate k xs).flatten := by
      intro k
      induction k with
      | zero => rfl
      | succ k ih =>
        rw [List.replicate_succ, List.replicate_succ, List.flatten_cons, List.flatten_cons]
        exact rr.append ih
    exact q q2 _ _ ad2 _ M2 (n12.trans (Nx.same sm)) (s2.same sm) (free_back n12 s2 hq2) (s2.free hq2) upd_same ((reps _).tx (Tx.same sm)) p2⟩
/-- xs + ys, a new list -/
theorem f_catL {Pf : List D → List MO → Prop} (h : EvX c δ M a fun x M1 => EvX c δ M1 b fun y M2 => ∃ ds es : List D, IsL M2 x ds ∧ IsL M2 y es ∧ ds.length + es.length ≤ 1000000 ∧ Pf (ds ++ es) M2) : EvF c δ M (.BinOp a .Add b pos) Pf := fun y σ H ad he hs Q q =>
  ⟨_, pe_op op_cat wE_ok wE_ok, h y σ H ad he hs _ fun v H1 ad1 x M1 n1 s1 r1 p1 => p1 y σ H1 ad1 (he.nx n1) s1 _ fun u H2 ad2 z M2 n2 s2 r2 ⟨ds, es, hx, hy, hl, p2⟩ => by
    obtain ⟨pp, xs, rfl, h1, rr⟩ := hx.at_ s2 (r1.nx n2)
    obtain ⟨pp2, ys, rfl, h2, rr2⟩ := hy.at_ s2 r2
    refine ⟨pp, pp2, xs, ys, rfl, rfl, h1, h2, by rw [rr.length, rr2.length]; exact Nat.le_trans hl (by decide), fun q2 hq2 => ?_⟩
    have sm := same_new (o := .lst (xs ++ ys)) hq2
    have n12 := n1.trans n2
    exact q q2 _ _ ad2 _ M2 (n12.trans (Nx.same sm)) (s2.same sm) (free_back n12 s2 hq2) (s2.free hq2) upd_same ((rr.append rr2).tx (Tx.same sm)) p2⟩
end
end Fx

/-! Fx, part H: sum of a tuple, slices by their ends, == of lists. -/
namespace L2
open PySem PySem.Spec PyProof.Rows
section
variable {prog : Program} {w : World} {A : Around} {E : Value → Shared → Prop} {s : Shared} {l : Addr} {its : List Value} {ns : List Int} {Q : Value → Shared → Prop}
theorem sum_tupRaw (hh : A.handled = none) (hl : s.heap.IsTuple l its.toArray) (hi : IntsAre its ns)
    (h : ∀ h' tk t', (∀ b o, s.heap.get? b = some o → h'.get? b = some o) → Q (.int ns.sum t') { s with heap := h', toks := tk }) : wpAny (model prog w) A (call (.builtin "sum") [.ref l]) Q E s := by
  obtain ⟨xs, e⟩ := hi.allInts.items
  have hn : numsOf (intItems xs).toList = ns := by rw [← e]; exact hi.numsOf
  rw [nums_intItems] at hn
  rw [e] at hl
  have hlt : l < s.heap.objs.size := by obtain ⟨_, e, _⟩ := hl; exact Heap.lt_size e
  refine call_sum_walkG (wpAny_pyIter_tuple hl ?_)
  refine ⟨_, _, _, _, _, _, numAt xs, rfl, Walks.tuple (A := A.in1) hh _ l (Nat.ne_of_lt hlt) (intItems xs), ⟨⟨_, Heap.get?_push_size _ rfl, rfl, rfl⟩, hl.push _⟩, fun b hb => ?_, (fun _ _ => intItems_at), fun h' tk t' hk => ?_⟩
  · show b < (s.heap.push _).objs.size
    rw [Heap.size_push]
    rcases List.mem_cons.mp hb with rfl | hb
    · exact Nat.lt_succ_self _
    · rcases List.mem_cons.mp hb with rfl | hb
      · exact Nat.lt_succ_of_lt hlt
      · cases hb
  · have := h h' tk t' fun b o e => by
      refine hk b o (fun hm => ?_) (Heap.get?_push_of_some _ e)
      rcases List.mem_cons.mp hm with e1 | hm
      · exact absurd (e1 ▸ Heap.lt_size e) (Nat.lt_irrefl _)
      · cases hm
    rw [preSum_eq, List.take_of_length_le (by simp [intItems]), hn]; exact this
end
def rSumT (K : PySem.W.Frag) : List V → Hp → VK → Prop := fun vs H Q => ∃ (a : Addr) (ns : List Int), vs = [V.ref a] ∧ SqT K H a (ns.map V.int) ∧ Q (.int ns.sum) H
theorem cr_sumT {X : Cx} (hc : X.calm = true) : CallR X (.builtin "sum") (rSumT X.K) := by
  intro pins s σ H vs us Q I r h
  obtain ⟨a, ns, rfl, hs, q⟩ := h
  obtain ⟨its, rv, hl, _⟩ := I.tuple hs
  rw [Vals.ref1 r]
  exact sum_tupRaw (I.ok.hd hc) (show s.heap.IsTuple a its.toArray from hl) rv.ints fun h' tk t' hk => ⟨.int _, H, I.kept hk, ⟨_, rfl⟩, q⟩
end L2
namespace Fx
open PySem L2
section
variable {c : SC} {δ : Dl} {M : List MO} {Post : AQ} {B : Bool → List MO → Prop}
theorem ca_sumT {ns : List Int} (h : Post (.dat (.int ns.sum)) M) : CallA c (.builtin "sum") [.dat (tI ns)] M Post := fun z H ad hs vs r Q q => by
  obtain ⟨u, rfl, pp, xs, rfl, hq, rr⟩ := repAs1 r
  rw [reps_ints.mp rr] at hq
  exact ⟨_, cr_sumT rfl, pp, ns, rfl, hq, q _ H ad (.dat (.int ns.sum)) M Nx.refl hs rfl h⟩
theorem cut_hi (ds : List D) (k : Nat) : cutD ds none (some (k : Int)) = ds.take k := by
  unfold cutD
  rw [HT.sIx_none, HT.sIx_nat, List.drop_zero, Nat.sub_zero]
  by_cases h : k ≤ ds.length
  · rw [Nat.min_eq_left h]
  · rw [Nat.min_eq_right (by omega), List.take_of_length_le (Nat.le_refl _), List.take_of_length_le (by omega)]
theorem cut_lo (ds : List D) (k : Nat) : cutD ds (some (k : Int)) none = ds.drop k := by
  unfold cutD
  rw [HT.sIx_none, HT.sIx_nat]
  by_cases h : k ≤ ds.length
  · rw [Nat.min_eq_left h, List.take_of_length_le (by rw [List.length_drop]; exact Nat.le_refl _)]
  · rw [Nat.min_eq_right (by omega), List.drop_of_length_le (by omega), List.drop_of_length_le (by omega)]
    simp
theorem c_eqL_same (n : Nat) {x y : AV} {ds es : List D} (hx : IsL M x ds) (hy : IsL M y es) (e : ds = es) (hd : ds.all (okD n) = true) (h : B true M) (hn : n ≤ 50 := by decide) : CmpR c .Eq x y M B := by
  subst e
  have py : ∀ {z : AV}, IsL M z ds → IsDat M z ∧ avPy M z = .list (pys ds) := by
    intro z hz
    rcases hz with rfl | ⟨j, rfl, hm⟩
    · exact ⟨trivial, rfl⟩
    · refine ⟨⟨ds, hm⟩, ?_⟩
      unfold avPy
      rw [hm]
  obtain ⟨a1, b1⟩ := py hx
  obtain ⟨a2, b2⟩ := py hy
  refine c_eqD a1 a2 (by rw [b1]; exact okDs_shaped hd hn) (by rw [b2]; exact okDs_shaped hd hn) ?_
  rw [b1, b2, SeqAt.eqv_refl _ (SeqAt.canLay_of_shaped (okDs_shaped hd hn))]
  exact h
theorem o_none {Po : Option Int → List MO → Prop} (h : Po none M) : EvO c δ M none Po := h
theorem o_some {e : Expr} {Po : Option Int → List MO → Prop} (h : EvX c δ M e fun a M1 => ∃ i, a = .dat (.int i) ∧ Po (some i) M1) : EvO c δ M (some e) Po := h
end
end Fx

/-! Fx, part I: len(set(a) & set(b)), tuples of ints. -/
namespace L2
open PySem PySem.Spec PyProof.Rows
section
variable {P : Program} {w : World} {A : Around} {E : Value → Shared → Prop} {s : Shared} {a : Addr} {es : Array (Int × Value)} {ep : Nat} {t : SetTable}
theorem setWalk_at {Q : Array (Int × Value) → Shared → Prop} (ha : SetAt s.heap a es ep t) (hf : t.fits es.size = true) (hl : w.params.followText "set-order" = true ∨ t.led = true)
    (h : ∀ ys d, ys.toList.Perm es.toList → Q ys { s with drawn := d }) : wpAny (model P w) A (setWalk a) Q E s := by
  obtain ⟨o, ho, _, hd⟩ := ha
  unfold setWalk
  refine wpAny_bind (wpAny_setState_of ho hd hf ?_)
  dsimp only
  refine wpAny_bind (wpAny_byText ?_)
  cases hb : w.params.followText "set-order" with
  | true =>
    refine wp_if_pos rfl ?_
    exact wpAny_bind (wpAny_askSetting (wpAny_pure (h _ s.drawn (pick_perm _ es))))
  | false =>
    have hled : t.led = true := hl.resolve_left (by rw [hb]; exact Bool.false_ne_true)
    refine wp_if_neg Bool.false_ne_true ?_
    try refine wpAny_bind (wpAny_pure ?_)
    cases hdr : (!t.plain && decide (es.size > 1)) with
    | true =>
      refine wp_if_pos (by show (!t.plain && decide (es.size > 1)) = true; exact hdr) ?_
      refine wpAny_bind (drawOrder_at _ _ _ _ (by rw [Array.length_toList]; exact Nat.le_refl _) fun ys d hp => wpAny_pure (h _ d ?_))
      exact hp
    | false =>
      refine wp_if_neg (by show ¬ ((!t.plain && decide (es.size > 1)) = true); rw [hdr]; exact Bool.false_ne_true) ?_
      try refine wpAny_bind (wpAny_pure ?_)
      refine wpAny_bind (wpAny_of_eq (a := ()) ?_ ?_)
      · show (if (!t.led && decide (es.size > 1)) = true then unsupported "set:maker-not-led" else pure ()) = pure ()
        rw [hled] <;> rfl
      · exact wpAny_pure (h _ s.drawn (List.Perm.refl _))
theorem setsQuiet_ints {Q : Bool → Shared → Prop} {sets : List Addr} (hs : ∀ b ∈ sets, ∃ es ep t, SetAt s.heap b es ep t ∧ t.fits es.size = true ∧ ∀ e ∈ es.toList, GoodE e) (h : Q true s) : wpAny (model P w) A (setsQuiet sets) Q E s := by
  unfold setsQuiet
  refine wpAny_bind (wpAny_forIn_list _ (fun rest b s' => (∀ x ∈ rest, x ∈ sets) ∧ b = ⟨none, ()⟩ ∧ s' = s) _ ?_ ?_ sets _ ⟨fun _ h => h, rfl, rfl⟩)
  · rintro x rest b s' ⟨hx, rfl, rfl⟩
    obtain ⟨es, ep, t, ⟨o, ho, _, hd⟩, hf, g⟩ := hs x (hx x List.mem_cons_self)
    refine wpAny_bind (wpAny_setEntries_of ho hd hf ?_)
    refine wpAny_bind (PySem.MeetsSeq2.wpAny_forIn_array _ (fun rest b s'' => (∀ x ∈ rest, x ∈ es.toList) ∧ b = ⟨none, ()⟩ ∧ s'' = s') _ ?_ ?_ es _ ⟨fun _ h => h, rfl, rfl⟩)
    · rintro y rest2 b s'' ⟨hy, rfl, rfl⟩
      obtain ⟨k, tk, e1, e2⟩ := g y (hy y List.mem_cons_self)
      obtain ⟨y1, y2⟩ := y
      simp only at e1
      subst e1
      exact wpAny_pure ⟨fun z hz => hy z (List.mem_cons_of_mem _ hz), rfl, rfl⟩
    · rintro b s'' ⟨_, rfl, rfl⟩
      exact wpAny_pure ⟨fun z hz => hx z (List.mem_cons_of_mem _ hz), rfl, rfl⟩
  · rintro b s' ⟨_, rfl, rfl⟩
    exact wpAny_pure h
theorem walkUnseen_at {Q : Array (Int × Value) → Shared → Prop} {r b : Addr} {S : Int → Bool} {n : Nat} (ha : SetAt s.heap a es ep t) (hf : t.fits es.size = true) (g : ∀ e ∈ es.toList, GoodE e) (hl : w.params.followText "set-order" = true ∨ t.led = true)
    (hb : SetR w s.heap b S n) (hr : SetR w s.heap r (fun _ => false) 0) (hra : r ≠ a)
    (h : ∀ ys d h', ys.toList.Perm es.toList → Heap.SameBut r s.heap h' → SetR w h' r (fun _ => false) 0 → Q ys { s with heap := h', drawn := d }) : wpAny (model P w) A (setWalkUnseen a [b, r] (some r)) Q E s := by
  obtain ⟨o, ho, hcl, hd⟩ := id ha
  unfold setWalkUnseen
  refine wpAny_bind (wpAny_setState_of ho hd hf ?_)
  dsimp only
  refine wpAny_bind (wpAny_byText ?_)
  have walk : wpAny (model P w) A (setWalk a) Q E s := setWalk_at ha hf hl fun ys d hp => h ys d s.heap hp (Heap.SameBut.refl r s.heap) hr
  cases hc : (w.params.followText "set-order" || (t.led && t.plain) || decide (es.size ≤ 1)) with
  | true =>
    refine wp_if_pos (by first | rfl | exact hc) ?_
    first | exact walk | exact wpAny_bind (wpAny_mono walk (fun ys s' q => wpAny_pure q) fun _ _ e => e)
  | false =>
    refine wp_if_neg (by first | exact Bool.false_ne_true | (rw [hc]; exact Bool.false_ne_true)) ?_
    try refine wpAny_bind (wpAny_pure ?_)
    obtain ⟨or', er, epr, tr, hor, hexr, hdr, gr, ndr, hmr, hbr, hfr, hnr, hrr, hlr⟩ := id hr
    have q1 : ∀ x ∈ [a, b, r], ∃ es ep t, SetAt s.heap x es ep t ∧ t.fits es.size = true ∧ ∀ e ∈ es.toList, GoodE e := by
      intro x hx
      rcases List.mem_cons.mp hx with rfl | hx
      · exact ⟨es, ep, t, ha, hf, g⟩
      rcases List.mem_cons.mp hx with rfl | hx
      · obtain ⟨o2, e2, ep2, t2, ho2, hex2, hd2, g2, _, _, _, hf2, _⟩ := hb
        exact ⟨e2, ep2, t2, ⟨o2, ho2, hex2.1, hd2⟩, hf2, g2⟩
      · rw [List.mem_singleton.mp hx]
        exact ⟨er, epr, tr, ⟨or', hor, hexr.1, hdr⟩, hfr, gr⟩
    refine wpAny_bind (setsQuiet_ints q1 ?_)
    refine wp_if_neg (by simp) ?_
    try refine wpAny_bind (wpAny_pure ?_)
    refine wpAny_bind (wpAny_rule ?_)
    refine wpAny_bind (wpAny_setState_of hor hdr hfr ?_)
    dsimp only
    have er0 : er = #[] := by
      apply Array.eq_empty_of_size_eq_zero
      exact hnr
    cases hc2 : ((tr.led && !t.led) || (tr.plain && !t.plain)) with
    | false =>
      refine wp_if_neg (by first | exact Bool.false_ne_true | (rw [hc2]; exact Bool.false_ne_true)) ?_
      exact wpAny_pure (h es s.drawn s.heap (List.Perm.refl _) (Heap.SameBut.refl r s.heap) hr)
    | true =>
      refine wp_if_pos (by first | rfl | exact hc2) ?_
      refine wpAny_bind (wpAny_storeSet_of hor hdr ?_ (fits_of_scanBound hbr))
      refine wpAny_pure (h es s.drawn _ (List.Perm.refl _) (Heap.SameBut.update s.heap r _) ?_)
      have ho1 := store_at (es' := er) (t' := { tr with led := tr.led && t.led, plain := tr.plain && t.plain }) hor hdr
      refine ⟨_, er, _, _, ho1, hexr, rfl, gr, ndr, hmr, hbr, ?_, hnr, hrr, ?_⟩
      · exact hfr
      · rcases hl with z | z
        · exact .inl z
        · rcases hlr with y | y
          · exact .inl y
          · refine .inr ?_
            show (tr.led && t.led) = true
            rw [y, z]; rfl
/-- the walk over one set, asking another -/
theorem inter_loop {Q : PUnit → Shared → Prop} {wa ask r : Addr} {ew : Array (Int × Value)} {epw : Nat} {tw : SetTable} {U : Int → Bool} {n : Nat} {nm : String} (hw : SetAt s.heap wa ew epw tw) (hfw : tw.fits ew.size = true) (gw : ∀ e ∈ ew.toList, GoodE e) (ndw : (ew.toList.map keyOf).Nodup)
    (hlw : w.params.followText "set-order" = true ∨ tw.led = true) (Rq : SetR w s.heap ask U n) (Rr : SetR w s.heap r (fun _ => false) 0) (hrw : r ≠ wa) (hrq : r ≠ ask) (room : ew.size + 1 < scanBound)
    (h : ∀ (out : List Int) (d : Drawn) (h' : Heap), out.Nodup → (∀ k, k ∈ out ↔ k ∈ ew.toList.map keyOf ∧ U k = true) → SetR w h' r (fun j => decide (j ∈ out)) out.length → Heap.SameBut r s.heap h' → Q PUnit.unit { s with heap := h', drawn := d }) :
    wpAny (model P w) A (do
      let was ← setEpoch wa
      let l ← setWalkUnseen wa [ask, r] (some r)
      forIn l PUnit.unit fun x __s => do
        holding [x.snd] do
          let f ← setFind ask x.snd x.fst
          if f.isSome = true then do
            let _ ← setAddHashed r x.snd x.fst
            pure ()
          else pure ()
        Builtin.Frozenset.unchanged nm wa was
        pure (ForInStep.yield PUnit.unit)
      pure PUnit.unit) Q E s := by
  obtain ⟨ow, how, hcw, hdw⟩ := id hw
  refine wpAny_bind (wpAny_setEpoch_of how hdw hfw ?_)
  refine wpAny_bind (walkUnseen_at hw hfw gw hlw Rq Rr hrw fun ys d h1 hp sb1 Rr1 => ?_)
  have sz : ys.toList.length = ew.size := by rw [hp.length_eq, Array.length_toList]
  refine wpAny_bind (PySem.MeetsSeq2.wpAny_forIn_array _ (fun rest _ s' => ∃ (done : List (Int × Value)) (h' : Heap), done ++ rest = ys.toList ∧ s' = { s with heap := h', drawn := d } ∧ Heap.SameBut r s.heap h' ∧
    SetR w h' r (fun j => decide (j ∈ (done.map keyOf).filter U)) ((done.map keyOf).filter U).length) _ ?_ ?_ ys _ ⟨[], h1, rfl, rfl, sb1, Rr1⟩)
  · rintro x rest b s' ⟨done, h', hd, rfl, sb, R⟩
    have hx : x ∈ ys.toList := by rw [← hd]; exact List.mem_append_right _ List.mem_cons_self
    obtain ⟨k, tk, e1, e2⟩ := gw x (hp.mem_iff.mp hx)
    obtain ⟨x1, x2⟩ := x
    simp only at e1 e2
    subst e1 e2
    have Rq' : SetR w h' ask U n := Rq.at fun o e => (sb.2 ask hrq.symm).trans e
    have how' : h'.get? wa = some ow := (sb.2 wa hrw.symm).trans how
    have nd : ((done ++ (hashInt k, Value.int k tk) :: rest).map keyOf).Nodup := by
      rw [hd]
      exact (hp.map keyOf).nodup_iff.mpr ndw
    have hlen : done.length + 1 ≤ ew.size := by
      rw [← sz, ← hd, List.length_append, List.length_cons]
      omega
    have hfl : ((done.map keyOf).filter U).length ≤ done.length := Nat.le_trans (List.length_filter_le _ _) (by rw [List.length_map]; exact Nat.le_refl _)
    have hnk : k ∉ done.map keyOf := by
      rw [List.map_append, List.map_cons] at nd
      have z := (List.nodup_append.mp nd).2.2
      intro q
      exact z k q k List.mem_cons_self rfl
    have emap : (done ++ [(hashInt k, Value.int k tk)]).map keyOf = done.map keyOf ++ [k] := by rw [List.map_append]; rfl
    have tail : ∀ (R' : ForInStep PUnit → Shared → Prop) (h2 : Heap), Heap.SameBut r s.heap h2 → R' (.yield PUnit.unit) { s with heap := h2, drawn := d } →
        wpAny (model P w) A (do
          Builtin.Frozenset.unchanged nm wa epw
          pure (ForInStep.yield PUnit.unit)) R' E { s with heap := h2, drawn := d } := fun R' h2 sb2 q => by
      unfold Builtin.Frozenset.unchanged
      have how2 : h2.get? wa = some ow := (sb2.2 wa hrw.symm).trans how
      refine wpAny_bind (wpAny_bind (wpAny_setEpoch_of (s := { s with heap := h2, drawn := d }) how2 hdw hfw ?_))
      exact wp_if_neg (by simp) (wpAny_pure (wpAny_pure q))
    refine wpAny_bind (wpAny_holding ?_)
    refine wpAny_bind (wpAny_setFind_of (knd := intKind P w) (s := { s with heap := h', drawn := d }) (k := k) (intKind_is P w k tk) rfl Rq'.setOf fun f hf => ?_)
    cases hU : U k with
    | false =>
      refine wp_if_neg (by rw [hf, hU]; exact Bool.false_ne_true) (wpAny_pure ?_)
      refine tail _ h' sb ⟨done ++ [(hashInt k, Value.int k tk)], h', by rw [List.append_assoc]; exact hd, rfl, sb, ?_⟩
      rw [emap, List.filter_append, List.filter_cons, if_neg (by rw [hU]; exact Bool.false_ne_true), List.filter_nil, List.append_nil]
      exact R
    | true =>
      refine wp_if_pos (by rw [hf, hU]) ?_
      refine wpAny_bind (setR_add_hashed (s := { s with heap := h', drawn := d }) R (by omega) fun h2 sb2 R2 => wpAny_pure ?_)
      refine tail _ h2 (sb.trans sb2) ⟨done ++ [(hashInt k, Value.int k tk)], h2, by rw [List.append_assoc]; exact hd, rfl, sb.trans sb2, ?_⟩
      rw [emap, List.filter_append, List.filter_cons, if_pos hU, List.filter_nil]
      have hk2 : k ∉ (done.map keyOf).filter U := fun z => hnk (List.mem_filter.mp z).1
      rw [if_neg (by simp only [decide_eq_true_eq]; exact hk2)] at R2
      rw [List.length_append]
      have e : ∀ j, decide (j ∈ (done.map keyOf).filter U ++ [k]) = (decide (j ∈ (done.map keyOf).filter U) || decide (j = k)) := fun j => by
        by_cases h1 : j ∈ (done.map keyOf).filter U
        · rw [decide_eq_true h1, decide_eq_true (List.mem_append_left _ h1)]; rfl
        · by_cases h2 : j = k
          · rw [decide_eq_true h2, decide_eq_true (List.mem_append_right _ (by rw [h2]; exact List.mem_singleton.mpr rfl)), Bool.or_true]
          · rw [decide_eq_false h1, decide_eq_false h2, decide_eq_false (fun z => (List.mem_append.mp z).elim h1 fun y => h2 (List.mem_singleton.mp y))]; rfl
      exact R2.congr e
  · rintro b s' ⟨done, h', hd, rfl, sb, R⟩
    rw [List.append_nil] at hd
    subst hd
    refine wpAny_pure (h _ d h' ?_ (fun k => ?_) R sb)
    · exact List.Pairwise.filter _ ((hp.map keyOf).nodup_iff.mpr ndw)
    · rw [List.mem_filter, (hp.map keyOf).mem_iff]
/-- what both have -/
theorem inter_at {Q : Value → Shared → Prop} {b : Addr} {S T : Int → Bool} {n m : Nat} {nm : String} (Ra : SetR w s.heap a S n) (Rb : SetR w s.heap b T m) (hab : a ≠ b) (room : n + m + 1 < scanBound)
    (h : ∀ (out : List Int) (d : Drawn) (h' : Heap), out.Nodup → (∀ k, k ∈ out ↔ S k = true ∧ T k = true) → SetR w h' s.heap.objs.size (fun j => decide (j ∈ out)) out.length → (∀ c o, s.heap.get? c = some o → h'.get? c = some o) → Q (.ref s.heap.objs.size) { s with heap := h', drawn := d }) :
    wpAny (model P w) A (Builtin.Frozenset.intersection nm a (.ref b)) Q E s := by
  obtain ⟨oa, ea, epa, ta, hoa, hexa, hda, ga, nda, hma, hba, hfa, hna, hra, hla⟩ := id Ra
  obtain ⟨ob, eb, epb, tb, hob, hexb, hdb, gb, ndb, hmb, hbb, hfb, hnb, hrb, hlb⟩ := id Rb
  have hta : s.TypeIs (.ref a) "set" := ⟨oa, hoa, hexa.1⟩
  have hal : a < s.heap.objs.size := Heap.lt_size hoa
  have hbl : b < s.heap.objs.size := Heap.lt_size hob
  unfold Builtin.Frozenset.intersection
  refine wp_if_neg (by simp; exact fun e => hab e.symm) ?_
  try refine wpAny_bind (wpAny_pure ?_)
  refine wpAny_bind (m := Builtin.Frozenset.baseOf a) ?_
  unfold Builtin.Frozenset.baseOf
  refine wpAny_bind (wpAny_isInstance (T := "set") (b := true) hta sub_set_self (wpAny_pure ?_))
  simp only [if_true]
  refine wpAny_bind (m := newSet (.type "set")) ?_
  unfold newSet
  refine wpAny_bind (wpAny_byText ?_)
  dsimp only
  simp only [newObj]
  refine wpAny_bind (wpAny_alloc (wpAny_pure ?_))
  refine wpAny_bind (m := Builtin.Frozenset.addrOf _) (wpAny_pure ?_)
  refine wpAny_bind (wpAny_holding ?_)
  have keep0 : ∀ c o, s.heap.get? c = some o → (s.heap.push { cls := .type "set", dict := none, data := .set #[] 0 (.fresh 0 0 (!w.params.followText "set-order")) }).get? c = some o := fun c o e => Heap.get?_push_of_some _ e
  have Rr := setR_fresh (h := s.heap) w
  have Ra1 := Ra.at (keep0 a)
  have Rb1 := Rb.at (keep0 b)
  generalize hh0 : s.heap.push { cls := .type "set", dict := none, data := .set #[] 0 (.fresh 0 0 (!w.params.followText "set-order")) } = h0 at keep0 Rr Ra1 Rb1
  have htb : Shared.TypeIs { s with heap := h0 } (.ref b) "set" := ⟨ob, keep0 _ _ hob, hexb.1⟩
  refine wpAny_bind (m := Builtin.Frozenset.isAnySet _) ?_
  unfold Builtin.Frozenset.isAnySet
  refine wpAny_bind (wpAny_isInstance (T := "set") (b := true) htb sub_set_self ?_)
  refine wpAny_pure ?_
  refine wp_if_pos rfl ?_
  refine wpAny_bind (m := Builtin.Frozenset.addrOf _) (wpAny_pure ?_)
  unfold Builtin.Frozenset.sizeOf
  refine wpAny_bind (wpAny_bind (wpAny_setEntries_of (s := { s with heap := h0 }) (keep0 _ _ hob) hdb hfb (wpAny_pure ?_)))
  refine wpAny_bind (wpAny_bind (wpAny_setEntries_of (s := { s with heap := h0 }) (keep0 _ _ hoa) hda hfa (wpAny_pure ?_)))
  have fin : ∀ (out : List Int) (d : Drawn) (h' : Heap), out.Nodup → (∀ k, k ∈ out ↔ S k = true ∧ T k = true) → SetR w h' s.heap.objs.size (fun j => decide (j ∈ out)) out.length → Heap.SameBut s.heap.objs.size h0 h' →
      wpAny (model P w) A (pure (Value.ref s.heap.objs.size)) Q E { s with heap := h', drawn := d } := fun out d h' h1 h2 h3 sb =>
    wpAny_pure (h out d h' h1 h2 h3 fun c o e => (sb.2 c (Nat.ne_of_lt (Heap.lt_size e))).trans (keep0 c o e))
  by_cases hsz : eb.size > ea.size
  · simp only [if_pos hsz]
    exact inter_loop (s := { s with heap := h0 }) ⟨oa, keep0 _ _ hoa, hexa.1, hda⟩ hfa ga nda hla Rb1 Rr (Nat.ne_of_gt hal) (Nat.ne_of_gt hbl) (by omega) fun out d h' h1 h2 h3 sb => fin out d h' h1 (fun k => by rw [h2 k, hma k]) h3 sb
  · simp only [if_neg hsz]
    exact inter_loop (s := { s with heap := h0 }) ⟨ob, keep0 _ _ hob, hexb.1, hdb⟩ hfb gb ndb hlb Ra1 Rr (Nat.ne_of_gt hbl) (Nat.ne_of_gt hal) (by omega) fun out d h' h1 h2 h3 sb => fin out d h' h1 (fun k => by rw [h2 k, hmb k, And.comm]) h3 sb
theorem entry_set_and9 : entryFor table "set.__and__" = some Builtin.«frozenset.__and__» :=
  entryFor_alias (id' := "frozenset.__and__") (by kernel_rfl) rfl (by decide +kernel) (by kernel_rfl)
/-- set & set -/
theorem and_at {Q : Value → Shared → Prop} {b : Addr} {S T : Int → Bool} {n m : Nat} (Ra : SetR w s.heap a S n) (Rb : SetR w s.heap b T m) (hab : a ≠ b) (room : n + m + 1 < scanBound)
    (h : ∀ (out : List Int) (d : Drawn) (h' : Heap), out.Nodup → (∀ k, k ∈ out ↔ S k = true ∧ T k = true) → SetR w h' s.heap.objs.size (fun j => decide (j ∈ out)) out.length → (∀ c o, s.heap.get? c = some o → h'.get? c = some o) → Q (.ref s.heap.objs.size) { s with heap := h', drawn := d }) :
    wpAny (model P w) A (binaryOp .BitAnd (.ref a) (.ref b)) Q E s := by
  obtain ⟨oa, ea, epa, ta, hoa, hexa, hda, _⟩ := id Ra
  obtain ⟨ob, eb, epb, tb, hob, hexb, hdb, _⟩ := id Rb
  have hta : s.TypeIs (.ref a) "set" := ⟨oa, hoa, hexa.1⟩
  have htb : s.TypeIs (.ref b) "set" := ⟨ob, hob, hexb.1⟩
  refine wpAny_binaryOp_same (op := .BitAnd) hta htb F.fills_set_and F.slot_set_and ?_
  refine wpAny_call_entry F.slot_set_and hta entry_set_and9 ?_ (F.args_set_and_2 _ _)
  unfold Builtin.«frozenset.__and__»
  refine wpAny_bind (m := Builtin.Frozenset.slot1 "__and__" _) (wpAny_of_eq (a := (.ref a, .ref b)) (by rfl) ?_)
  dsimp only
  simp only [Bool.false_eq_true, if_false]
  refine wpAny_bind ?_
  refine wpAny_bind (m := Builtin.Frozenset.isAnySet _) ?_
  unfold Builtin.Frozenset.isAnySet
  refine wpAny_bind (wpAny_isInstance (T := "set") (b := true) hta sub_set_self (wpAny_pure ?_))
  refine wpAny_bind (wpAny_isInstance (T := "set") (b := true) htb sub_set_self (wpAny_pure ?_))
  refine wp_if_neg (by simp) ?_
  try refine wpAny_bind (wpAny_pure ?_)
  refine wpAny_bind (inter_at Ra Rb hab room fun out d h' h1 h2 h3 k => wpAny_pure ⟨_, rfl, (by intro z; cases z), h out d h' h1 h2 h3 k⟩)
end
end L2

namespace L2
open PySem PySem.Spec PyProof.Rows
/-- a set of ints at a, the ints of out -/
def SetO (w : World) (a : Addr) (S : Int → Bool) (n : Nat) : HO := .ext fun h => SetR w h a S n
theorem setO_new {P : Program} {w : World} {H : Hp} {h : Heap} {a : Addr} {S : Int → Bool} {n : Nat} (R : SetR w h a S n) : ObjOk P w H h a (SetO w a S n) := by
  obtain ⟨o, es, ep, t, ho, r⟩ := id R
  exact ⟨R, ⟨o, ho⟩, fun h1 h2 p k => SetR.at p k⟩
section
variable {X : Cx}
def rSetOfI (K : PySem.W.Frag) (w : World) : List V → Hp → VK → Prop := fun xs H Q => ∃ (l : Addr) (ns : List Int), xs = [V.ref l] ∧ SqT K H l (ns.map V.int) ∧ ns.length ≤ 1000 ∧
  ∀ a n, H a = none → n ≤ ns.length → Q (.ref a) (upd H a (SetO w a (fun j => decide (j ∈ ns)) n))
theorem cr_setOfI9 (hc : X.calm = true) : CallR X (.type "set") (rSetOfI X.K X.w) := by
  intro pins s σ H xs us Q I r h
  obtain ⟨l, ns, rfl, hl, hf, q⟩ := h
  rw [Vals.ref1 r]
  obtain ⟨its, rv, pt, hz⟩ := I.tuple hl
  have hn : H s.heap.objs.size = none := I.hok.fresh (Nat.le_refl _)
  have hi : IntsAre its.toArray.toList ns := ints_of_vals rv
  refine call_set_tupI ns (I.ok.hd hc) (show s.heap.IsTuple l its.toArray from pt) hi (by unfold scanBound; omega) fun h' tk c R1 hcn k => ?_
  exact ⟨.ref s.heap.objs.size, upd H s.heap.objs.size (SetO X.w s.heap.objs.size (fun j => decide (j ∈ ns)) c), I.laid (t' := tk) k (Nat.le_refl _) (setO_new R1), rfl, q _ c hn hcn⟩
def rAndI (w : World) : R2 := fun x y H Q => ∃ (a b : Addr) (S T : Int → Bool) (n m : Nat), x = .ref a ∧ y = .ref b ∧ a ≠ b ∧ H a = some (SetO w a S n) ∧ H b = some (SetO w b T m) ∧ n ≤ 1000 ∧ m ≤ 1000 ∧
  ∀ c (out : List Int), H c = none → out.Nodup → (∀ k, k ∈ out ↔ S k = true ∧ T k = true) → Q (.ref c) (upd H c (SetO w c (fun j => decide (j ∈ out)) out.length))
theorem op_andI : OpR X (binaryOp .BitAnd) (rAndI X.w) := by
  intro pins s σ H x y v u Q I rx ry h
  obtain ⟨a, b, S, T, n, m, rfl, rfl, hab, ha, hb, hn, hm, q⟩ := h
  cases rx
  cases ry
  have Ra : SetR X.w s.heap a S n := (I.hok a _ ha).1
  have Rb : SetR X.w s.heap b T m := (I.hok b _ hb).1
  have hnn : H s.heap.objs.size = none := I.hok.fresh (Nat.le_refl _)
  refine and_at Ra Rb hab (by unfold scanBound; omega) fun out d h' h1 h2 h3 k => ?_
  refine ⟨.ref s.heap.objs.size, upd H s.heap.objs.size (SetO X.w s.heap.objs.size (fun j => decide (j ∈ out)) out.length), ?_, rfl, q _ out hnn h1 h2⟩
  exact I.call (ch := []) (g' := s.gens) (t' := s.toks) (Un.laid k (Nat.le_refl _) hnn) (I.hok.laid k (Nat.le_refl _) (setO_new h3)) I.bare (fun _ z => nomatch z)
def rLenSet (w : World) : List V → Hp → VK → Prop := fun xs H Q => ∃ (a : Addr) (S : Int → Bool) (n : Nat), xs = [V.ref a] ∧ H a = some (SetO w a S n) ∧ Q (.int (n : Nat)) H
theorem cr_lenSet9 : CallR X (.builtin "len") (rLenSet X.w) := by
  intro pins s σ H xs us Q I r h
  obtain ⟨a, S, n, rfl, ha, q⟩ := h
  rw [Vals.ref1 r]
  have Ra : SetR X.w s.heap a S n := (I.hok a _ ha).1
  obtain ⟨o, es, ep, t, ho, hex, hd, g, nd, hm, hb, hf, hn, _⟩ := Ra
  have hsb : scanBound = 4096 := rfl
  refine call_len_set ho hex hd hf (by omega) ⟨.int (n : Nat), H, I.tok _, ⟨_, by rw [hn]⟩, q⟩
end
end L2
namespace Fx
open PySem L2
section
variable {c : SC} {δ : Dl} {M : List MO} {Post : AQ} {a b : Expr} {p1 p2 p3 p4 p5 p6 pos : Pos}
/-- len(set(a) & set(b)) -/
theorem x_same (hl : c.gl "len") (hlm : c.mg "len" = none) (hs : c.gl "set") (hsm : c.mg "set" = none)
    (h : EvX c δ M a fun x M1 => ∃ ns : List Int, x = .dat (tI ns) ∧ ns.length ≤ 1000 ∧ EvX c δ M1 b fun y M2 => ∃ ms : List Int, y = .dat (tI ms) ∧ ms.length ≤ 1000 ∧ ∀ out : List Int, out.Nodup → (∀ k, k ∈ out ↔ k ∈ ns ∧ k ∈ ms) → Post (.dat (.int (out.length : Nat))) M2)
    (sa : ∀ env, starEach [a] env = (false, eval a env) :: starEach [] env) (sb : ∀ env, starEach [b] env = (false, eval b env) :: starEach [] env) :
    EvX c δ M (.Call (.Name "len" p1) [.BinOp (.Call (.Name "set" p2) [a] [] p3) .BitAnd (.Call (.Name "set" p4) [b] [] p5) p6] [] pos) Post := fun y σ H ad he hst Q q => by
  refine ⟨_, pe_callB (X := y.cx) cr_lenSet9 (glS y hl) hlm PySem.boot_len (pa_cons (pe_op op_andI (pe_callTy (cr_setOfI9 rfl) (glS y hs) hsm PyProof.Rows.boot_set (pa_cons wE_ok pa_nil (sa y.env)) (by decide) (by decide) (sa y.env) (by rfl)) (pe_callTy (cr_setOfI9 rfl) (glS y hs) hsm PyProof.Rows.boot_set (pa_cons wE_ok pa_nil (sb y.env)) (by decide) (by decide) (sb y.env) (by rfl))) pa_nil (by rfl)) (by decide) (by decide) (by rfl) (by rfl), ?_⟩
  refine h y σ H ad he hst _ fun xv H1 ad1 ax M1 n1 s1 r1 p1 => ?_
  obtain ⟨ns, rfl, hl1, p1⟩ := p1
  obtain ⟨pa, xs, rfl, hq, rr⟩ := r1
  rw [reps_ints.mp rr] at hq
  refine ⟨pa, ns, rfl, hq, hl1, fun q1 c1 hq1 hc1 => ?_⟩
  have sm1 := same_new (o := SetO c.w q1 (fun j => decide (j ∈ ns)) c1) hq1
  have n2 := n1.trans (Nx.same (ad := ad1) sm1)
  have fq1 : q1 ∉ ad1 := s1.free hq1
  refine p1 y σ _ ad1 (he.nx n2) (s1.same sm1) _ fun yv H3 ad3 ay M3 n3 s3 r3 p3 => ?_
  obtain ⟨ms, rfl, hl2, p3⟩ := p3
  obtain ⟨pb, ys, rfl, hq', rr'⟩ := r3
  rw [reps_ints.mp rr'] at hq'
  refine ⟨pb, ms, rfl, hq', hl2, fun q2 c2 hq2 hc2 => ?_⟩
  have sm2 := same_new (o := SetO c.w q2 (fun j => decide (j ∈ ms)) c2) hq2
  have k1 : H3 q1 = some (SetO c.w q1 (fun j => decide (j ∈ ns)) c1) := n3.keep q1 _ fq1 upd_same
  have n4 := (n2.trans n3).trans (Nx.same (ad := ad3) sm2)
  have s4 := s3.same sm2
  have ne : q1 ≠ q2 := ne_of_none k1 hq2
  refine ⟨q1, q2, _, _, c1, c2, rfl, rfl, ne, sm2 _ _ k1, upd_same, by omega, by omega, fun q3 out hq3 hnd hmem => ?_⟩
  have sm3 := same_new (o := SetO c.w q3 (fun j => decide (j ∈ out)) out.length) hq3
  refine ⟨q3, _, out.length, rfl, upd_same, q _ _ ad3 (.dat (.int (out.length : Nat))) M3 (n4.trans (Nx.same sm3)) (s4.same sm3) rfl (p3 out hnd fun k => ?_)⟩
  rw [hmem k, decide_eq_true_eq, decide_eq_true_eq]
end
end Fx

/-! Fx, part J: list.count, isinstance, t[::-1] of a tuple. -/
namespace Fx
open PySem L2
section
variable {c : SC} {δ : Dl} {M : List MO} {Post : AQ} {a b e o : Expr} {p p1 p2 p3 apos pos : Pos} {x : Str}
/-- xs.count(e), ints -/
theorem x_lcount (h : EvX c δ M o fun v M1 => ∃ ns : List Int, v = .ls (ns.map .int) ∧ EvX c δ M1 e fun w M2 => ∃ k : Int, w = .dat (.int k) ∧ Post (.dat (.int (ns.count k : Nat))) M2)
    (hbase : ∀ env, attributeBase o "count" env (eval o env) = eval o env)
    (hfew : ∀ env, ((backTo pos (starEach [e] env)).all (fun x => !x.1) && (backToKw pos (keywordEach [] env)).all (fun x => x.1.isSome) && decide ([e].length + ([] : List Keyword).length + (if ([] : List Keyword).isEmpty then 0 else 1) < 30)) = true)
    (hline : (apos.endLine == pos.line) = true) (hst : ∀ env, starEach [e] env = (false, eval e env) :: starEach [] env) : EvX c δ M (.Call (.Attribute o "count" apos) [e] [] pos) Post := fun y σ H ad he hs Q q =>
  ⟨_, pe_bm (X := y.cx) PySem.F.plainAttrs_list PySem.F.slot_list_count PySem.F.type_list_count mt_lcount wE_ok (pa_cons wE_ok pa_nil (hst y.env)) (hbase y.env) (hfew y.env) hline (hst y.env) rfl, h y σ H ad he hs _ fun v H1 ad1 a1 M1 n1 s1 r1 ⟨ns, e1, p1⟩ => by
    subst e1
    obtain ⟨qq, xs, rfl, hq, rr⟩ := id r1
    refine ⟨.inl ⟨rfl, xs, hq.sq⟩, p1 y σ H1 ad1 (he.nx n1) s1 _ fun w H2 ad2 a2 M2 n2 s2 r2 ⟨k, e2, p2⟩ => ?_⟩
    subst e2
    obtain ⟨q3, xs3, e3, hq3, rr3⟩ := r1.nx n2
    cases e3
    have hq4 := hq3.sq (K := c.K)
    rw [reps_ints.mp rr3] at hq4
    refine ⟨qq, ns, k, rfl, ?_, hq4, q _ H2 ad2 (.dat (.int (ns.count k : Nat))) M2 (n1.trans n2) s2 rfl p2⟩
    rw [show w = .int k from r2]⟩
/-- isinstance(e, T), T a built-in type -/
def tyN : AV → String
  | .dat .non => "NoneType"
  | .dat (.bl _) => "bool"
  | .dat (.int _) => "int"
  | .dat (.str _) => "str"
  | .dat (.tup _) => "tuple"
  | .tx _ => "tuple"
  | .ta _ => "tuple"
  | _ => "list"
/-- what isinstance says of a built-in type -/
def kitA (a : AV) (T : String) : Option Bool := match a with
  | .exc _ _ => none
  | .fn _ => none
  | a => kitB (tyN a) T
theorem kitA_of {a : AV} {T : String} {k : Bool} (h : kitA a T = some k) : ((∀ C fs, a ≠ .exc C fs) ∧ ∀ f, a ≠ .fn f) ∧ kitB (tyN a) T = some k := by
  cases a with
  | exc C fs => cases h
  | fn f => cases h
  | dat d => exact ⟨⟨fun _ _ z => (by cases z), fun _ z => (by cases z)⟩, h⟩
  | ls d => exact ⟨⟨fun _ _ z => (by cases z), fun _ z => (by cases z)⟩, h⟩
  | «mut» d => exact ⟨⟨fun _ _ z => (by cases z), fun _ z => (by cases z)⟩, h⟩
  | ta d => exact ⟨⟨fun _ _ z => (by cases z), fun _ z => (by cases z)⟩, h⟩
  | la d => exact ⟨⟨fun _ _ z => (by cases z), fun _ z => (by cases z)⟩, h⟩
  | scr d => exact ⟨⟨fun _ _ z => (by cases z), fun _ z => (by cases z)⟩, h⟩
  | tx d => exact ⟨⟨fun _ _ z => (by cases z), fun _ z => (by cases z)⟩, h⟩
theorem ty_of {K : PySem.W.Frag} {ad : List Addr} {H : Hp} (S : StOk K ad H M) : ∀ {a : AV} {v : V}, RepA K ad H a v → (∀ j, a = .mut j → ∃ ds, M[j]? = some (.lst ds)) → (∀ ns, a ≠ .scr ns) → ((∀ C fs, a ≠ .exc C fs) ∧ ∀ f, a ≠ .fn f) → TyX K H v (.type (tyN a))
  | .dat .non, _, r, _, _, _ => by rw [show _ = V.non from r]; exact .base .non
  | .dat (.bl b), _, r, _, _, _ => by rw [show _ = V.bl b from r]; exact .base (.bl b)
  | .dat (.int i), _, r, _, _, _ => by rw [show _ = V.int i from r]; exact .base (.int i)
  | .dat (.str i), _, r, _, _, _ => by rw [show _ = V.str i from r]; exact .base (.str i)
  | .dat (.tup ds), _, ⟨a, xs, e, q, r⟩, _, _, _ => by
    subst e
    rcases q with (q | ⟨o, q⟩) | ⟨o, q⟩
    · exact .base (.tup q)
    · exact .fTuple q
    · obtain ⟨its, n, hk, hc, _⟩ := q
      exact .kTuple hk hc
  | .ls ds, _, ⟨a, xs, e, q, r⟩, _, _, _ => by subst e; exact .base (.lst q.1)
  | .mut j, _, ⟨a, q, e⟩, h, _, _ => by
    subst e
    obtain ⟨ds, hm⟩ := h j rfl
    obtain ⟨a2, h2, xs, h3, rr⟩ := S.obj j _ hm
    rw [q] at h2
    cases h2
    exact .base (.lst h3)
  | .la as, _, ⟨a, xs, e, q, r⟩, _, _, _ => by subst e; exact .base (.lst q.1)
  | .dat (.lis ds), _, ⟨a, xs, o, e, q, r⟩, _, _, _ => by subst e; exact .base (.frz q)
  | .ta ds, _, ⟨a, xs, e, q, r⟩, _, _, _ => by
    subst e
    rcases q with (q | ⟨o, q⟩) | ⟨o, q⟩
    · exact .base (.tup q)
    · exact .fTuple q
    · obtain ⟨its, n, hk, hc, _⟩ := q
      exact .kTuple hk hc
  | .exc C fs, _, _, _, _, h => absurd rfl (h.1 C fs)
  | .fn f, _, _, _, _, h => absurd rfl (h.2 f)
  | .scr ns, _, _, _, h, _ => absurd rfl (h ns)
  | .tx ds, _, ⟨a, xs, e, q, r⟩, _, _, _ => by
    subst e
    obtain ⟨o, q, _⟩ := q
    exact .fTuple q
theorem x_isi {T : String} (hg : c.gl "isinstance") (hm : c.mg "isinstance" = none) (hg2 : c.gl x) (hm2 : c.mg x = none) (hv : bootBuiltins x = some (.type T)) (h : EvX c δ M e fun a M1 => (∀ j, a = .mut j → ∃ ds, M1[j]? = some (.lst ds)) ∧ (∀ ns, a ≠ .scr ns) ∧ ∃ k, kitA a T = some k ∧ Post (.dat (.bl k)) M1)
    (hst : ∀ env, starEach [e, .Name x p1] env = (false, eval e env) :: starEach [.Name x p1] env) (hn : x ≠ "__name__" := by decide) (hd : (x == ("__debug__" : Str)) = false := by decide) : EvX c δ M (.Call (.Name "isinstance" p) [e, .Name x p1] [] pos) Post := fun y σ H ad he hs Q q =>
  ⟨_, pe_callB (X := y.cx) call_isi (glS y hg) hm PyProof.Rows.boot_isinstance (pa_cons wE_ok (pa_cons (pe_bltn (v := .ty T) (glS y hg2) hm2 hv rfl hn hd) pa_nil (by rfl)) (hst y.env)) (by decide) (by decide) (hst y.env) (by rfl), h y σ H ad he hs _ fun v H1 ad1 a1 M1 n1 s1 r1 ⟨h1, h2, k, hk, p1⟩ =>
    ⟨v, .ty T, .type (tyN a1), .type T, k, rfl, .ty T, ty_of s1 r1 h1 h2 (kitA_of hk).1, kit_ty (kitA_of hk).2, q _ H1 ad1 (.dat (.bl k)) M1 n1 s1 rfl p1⟩⟩
end
end Fx

/-! Fx, part K: x = [..] where x is a cell, and where it is a local. -/
namespace Fx
open PySem L2
section
variable {c : SC} {δ : Dl} {M : List MO} {Post : AQ} {a b e o tg iter elt : Expr} {ifs : List Expr} {scope : Scope} {own : List (Str × Nat)} {p p1 p2 p3 apos pos : Pos} {x : Str} {i : Nat}
theorem sw_of {S : Scope} {v : Expr} {t : Option Expr} {l : Nat} {r : Sem Bool} (h : ∀ (env : Env), swapsWith v t l { env with scope := S } = r) : ∀ env : Env, env.scope = S → swapsWith v t l env = r := fun env e => by
  have := h env
  rw [← e] at this
  exact this
/-- x = e, where the store's order hangs on the scope -/
theorem s_sc {D : AE} [hN : VarAt c.N x i] [hk : NamesOk c.N] (hx : Loc c.sc x) (hf : c.fn x = true ∨ c.sc.names.lookup x = some .local) (h : EvX c δ M e fun a M1 => D.nx (δ.set i (some a)) M1)
    (hs1 : ∀ env : Env, env.scope = c.sc → swapsWith e (some (.Name x p)) pos.line env = pure false) : Run1 c δ M (.Assign [.Name x p] e pos) D := fun y σ H ad he hs E q =>
  ⟨_, ps_set (X := y.cx) hk.nd hN.get (by show Loc y.env.scope x; rw [y.sc]; exact hx) wE_ok (hs1 y.env y.sc) (by show c.fn x = true ∨ y.env.scope.names.lookup x = some .local; rw [y.sc]; exact hf),
    h y σ H ad he hs _ fun v H2 ad2 a M2 n s r p => q.nx _ H2 ad2 _ M2 n ((he.nx n).set r) s p⟩
/-- what a plain comprehension asks, as the general one -/
theorem lc_plain {Pf : List D → List MO → Prop} {α : Type} (f : α → D) (pr : α → Bool)
    (h : EvI c δ M tg iter fun ds src M1 => ∃ (xs : List α) (g : α → D), ds = xs.map g ∧ xs.length ≤ 1000000 ∧ (∀ j, src = some j → M1[j]? = some (.lst ds)) ∧
      (∀ x, x ∈ xs → LcTurn (c.blk scope) (wipeD δ (own.map (·.2))) tg elt ifs (own.map (·.2)) (g x) M1 (fun d' M4 => pr x = true ∧ d' = f x ∧ M4 = M1) (fun M3 => pr x = false ∧ M3 = M1)) ∧ Pf ((xs.filter pr).map f) M1) :
    EvI c δ M tg iter fun ds src M1 => ds.length ≤ 1000000 ∧ ∃ I : Nat → List D → List MO → Prop, I 0 [] M1 ∧ (∀ i acc M2, I i acc M2 → ∀ j, src = some j → M2[j]? = some (.lst ds)) ∧
      (∀ i d acc M2, ds[i]? = some d → I i acc M2 → LcTurn (c.blk scope) (wipeD δ (own.map (·.2))) tg elt ifs (own.map (·.2)) d M2 (fun d' M4 => I (i + 1) (acc ++ [d']) M4) (fun M3 => I (i + 1) acc M3)) ∧ ∀ acc M2, I ds.length acc M2 → Pf acc M2 := by
  refine fun y σ H ad he hs R q => h y σ H ad he hs R fun J H1 ad1 ds src M1 n1 s1 w hP => q J H1 ad1 ds src M1 n1 s1 w ?_
  obtain ⟨xs, g, e, hl, hk, ht, hd⟩ := hP
  subst e
  refine ⟨by rw [List.length_map]; exact hl, fun i acc M2 => M2 = M1 ∧ acc = ((xs.take i).filter pr).map f, ⟨rfl, rfl⟩, fun i acc M2 hI => by rw [hI.1]; exact hk, fun i d acc M2 hi hI => ?_, fun acc M2 hI => ?_⟩
  · obtain ⟨rfl, rfl⟩ := hI
    have hl2 := (List.getElem?_eq_some_iff.mp hi).1
    rw [List.length_map] at hl2
    rw [List.getElem?_map, List.getElem?_eq_getElem hl2] at hi
    have ed : g xs[i] = d := Option.some.inj hi
    subst ed
    have et : xs.take (i + 1) = xs.take i ++ [xs[i]] := by rw [List.take_succ, List.getElem?_eq_getElem hl2]; rfl
    obtain ⟨is, his, ht'⟩ := ht xs[i] (List.getElem_mem hl2)
    refine ⟨is, his, fun y σ H ad v he r Q q => ?_⟩
    refine ht' y σ H ad v he r Q fun σ2 δ2 e2 w2 pT => q σ2 δ2 e2 w2 fun y2 σ3 H3 ad3 he3 hs3 Q3 q3 => pT y2 σ3 H3 ad3 he3 hs3 Q3 fun b H4 ad4 M4 n4 s4 pB => q3 b H4 ad4 M4 n4 s4 ⟨fun hb => (pB.1 hb).imp ?_, fun hb => ?_⟩
    · rintro a M5 ⟨d', ea, h1, h2, h3⟩
      refine ⟨d', ea, h3, ?_⟩
      rw [et, List.filter_append, List.map_append, List.filter_cons, if_pos h1, h2]
      rfl
    · obtain ⟨h1, h3⟩ := pB.2 hb
      refine ⟨h3, ?_⟩
      rw [et, List.filter_append, List.map_append, List.filter_cons, if_neg (by rw [h1]; decide)]
      show _ = _ ++ []
      rw [List.append_nil]
  · obtain ⟨rfl, rfl⟩ := hI
    rw [List.length_map, List.take_length]
    exact hd
/-- x = [..], x a local, nothing of the store changes -/
theorem s_lcP {D : AE} {α : Type} [hN : VarAt c.N x i] [hk : NamesOk c.N] (own : List (Str × Nat)) (f : α → Fx.D) (pr : α → Bool) (ok : BlkOk c.N c.sc scope own) (hxl : c.sc.names.lookup x = some .local) (hkd : c.sc.kind = .function) (hln : (p.line == pos.line) = true)
    (ha : (scope.names.any fun (n, k) => n == x && (k == .local || k == .cell)) = false)
    (h : EvI c δ M tg iter fun ds src M1 => ∃ (xs : List α) (g : α → Fx.D), ds = xs.map g ∧ xs.length ≤ 1000000 ∧ (∀ j, src = some j → M1[j]? = some (.lst ds)) ∧
      (∀ x, x ∈ xs → LcTurn (c.blk scope) (wipeD δ (own.map (·.2))) tg elt ifs (own.map (·.2)) (g x) M1 (fun d' M4 => pr x = true ∧ d' = f x ∧ M4 = M1) (fun M3 => pr x = false ∧ M3 = M1)) ∧ D.nx (δ.set i (some (.ls ((xs.filter pr).map f)))) M1)
    (hf : ∀ env x, foldedSetIterable iter env x = pure x) : Run1 c δ M (.Assign [.Name x p] (.ListComp elt [⟨tg, iter, ifs, 0⟩] scope pos) p1) D :=
  s_setLc own i hN.get hxl (fun env e => sw_true (by rw [e]; exact hkd) (by rw [e]; exact hxl) hln ha) ok hk.nd hf (lc_plain (Pf := fun ds M2 => D.nx (δ.set i (some (.ls ds))) M2) f pr h) (.inl fun ds M2 z => z)
end
end Fx

/-! Fx, part L: a, b = x, y where one is a cell; == [] of lists of data. -/
namespace Fx
open PySem L2
section
variable {c : SC} {δ : Dl} {M : List MO} {Post : AQ} {B : Bool → List MO → Prop} {e tg : Expr} {pos : Pos}
theorem s_asc {D : AE} (h : EvX c δ M e fun a M1 => EvGx c δ tg a fun δ2 => D.nx δ2 M1) (hs1 : ∀ env, swapsWithSole [tg] e pos.line env = pure false) (hw : ∀ env : Env, env.scope = c.sc → swappedStores [tg] e env = pure none)
    (h1 : ∀ env, (assignEach [tg] env).map (·.2) = [assign tg env]) : Run1 c δ M (.Assign [tg] e pos) D := fun y σ H ad he hs E q =>
  ⟨_, ps_asg wE_ok wG_ok (hs1 y.env) (hw y.env y.sc) (h1 y.env), h y σ H ad he hs _ fun v H2 ad2 a M2 n s r ⟨_, p⟩ => p y σ H2 ad2 v (he.nx n) r _ fun σ2 δ2 e2 _ p2 => q.nx σ2 H2 ad2 δ2 M2 n e2 s p2⟩
theorem eqv_nil (ds : List D) : PyData.eqv (.list (pys ds)) (.list []) = ds.isEmpty := by
  cases ds with
  | nil => simp [pys, PyData.eqv, PyData.eqvAll]
  | cons d ds => simp [pys, PyData.eqv, PyData.eqvAll]
theorem eqv_nilT (ds : List D) : PyData.eqv (.tuple (pys ds)) (.tuple []) = ds.isEmpty := by
  cases ds with
  | nil => simp [pys, PyData.eqv, PyData.eqvAll]
  | cons d ds => simp [pys, PyData.eqv, PyData.eqvAll]
theorem nil_ok : SeqAt.shaped (.list []) = true := okDs_shaped (n := 0) (ds := []) rfl (by decide)
theorem c_neNil (n : Nat) {ds : List D} (hd : ds.all (okD n) = true) (h : B (!ds.isEmpty) M) (hn : n ≤ 50 := by decide) : CmpR c .NotEq (.ls ds) (.ls []) M B := by
  refine c_neD trivial trivial (okDs_shaped hd hn) nil_ok ?_
  show B (!PyData.eqv (.list (pys ds)) (.list [])) M
  rw [eqv_nil]
  exact h
theorem c_eqNil (n : Nat) {ds : List D} (hd : ds.all (okD n) = true) (h : B ds.isEmpty M) (hn : n ≤ 50 := by decide) : CmpR c .Eq (.ls ds) (.ls []) M B := by
  refine c_eqD trivial trivial (okDs_shaped hd hn) nil_ok ?_
  show B (PyData.eqv (.list (pys ds)) (.list [])) M
  rw [eqv_nil]
  exact h
theorem c_neNilT (n : Nat) {ds : List D} (hd : ds.all (okD n) = true) (h : B (!ds.isEmpty) M) (hn : n ≤ 50 := by decide) : CmpR c .NotEq (.dat (.tup ds)) (.dat (.tup [])) M B := by
  refine c_neD trivial trivial (okD_shaped (n := n + 1) (d := .tup ds) hd (by omega)) (okD_shaped (n := 1) (d := .tup []) rfl (by decide)) ?_
  show B (!PyData.eqv (.tuple (pys ds)) (.tuple [])) M
  rw [eqv_nilT]
  exact h
theorem c_eqNilT (n : Nat) {ds : List D} (hd : ds.all (okD n) = true) (h : B ds.isEmpty M) (hn : n ≤ 50 := by decide) : CmpR c .Eq (.dat (.tup ds)) (.dat (.tup [])) M B := by
  refine c_eqD trivial trivial (okD_shaped (n := n + 1) (d := .tup ds) hd (by omega)) (okD_shaped (n := 1) (d := .tup []) rfl (by decide)) ?_
  show B (PyData.eqv (.tuple (pys ds)) (.tuple [])) M
  rw [eqv_nilT]
  exact h
theorem all_ok_tI (n : Nat) (b : List (List Int)) : (b.map tI).all (okD (n + 1)) = true := ok_tII n b
end
end Fx

/-! Fx, part M: t[::-1] of a tuple, xs[::-1] of a list. -/
namespace L2
open PySem PySem.Spec PyProof.Rows
theorem rev_pick9 (xs : Array Value) : ((List.range xs.size).filterMap fun (m : Nat) => xs[((xs.size : Int) - 1 + (m : Int) * (-1)).toNat]?).toArray = xs.toList.reverse.toArray := by
  congr 1
  have gen : ∀ k, k ≤ xs.size → ((List.range k).filterMap fun (m : Nat) => xs[((xs.size : Int) - 1 + (m : Int) * (-1)).toNat]?) = xs.toList.reverse.take k := by
    intro k
    induction k with
    | zero => intro _; rfl
    | succ k ih =>
      intro hk
      rw [List.range_succ, List.filterMap_append, ih (by omega), List.take_succ]
      congr 1
      have e : ((xs.size : Int) - 1 + (k : Int) * (-1)).toNat = xs.size - 1 - k := by omega
      have h2 : xs.size - 1 - k < xs.size := by omega
      have h3 : xs.toList.reverse[k]? = some xs[xs.size - 1 - k] := by
        rw [List.getElem?_reverse (by simpa using (show k < xs.size by omega)), Array.length_toList, Array.getElem?_toList, Array.getElem?_eq_getElem h2]
      rw [h3]
      simp only [List.filterMap_cons, List.filterMap_nil, e, Array.getElem?_eq_getElem h2, Option.toList_some]
  rw [gen xs.size (Nat.le_refl _), List.take_of_length_le (by simp)]
section
variable {prog : Program} {w : World} {A : Around} {E : Value → Shared → Prop} {s : Shared}
theorem sliceApplied_rev9 {sl : Addr} {vl vu vs : Value} {n : Nat} {Q : Int × Int × Nat → Shared → Prop} (hs : s.heap.IsSliceOf sl vl vu vs) (pl : IsPart vl none) (pu : IsPart vu none) (ps : IsPart vs (some (-1)))
    (h : Q ((n : Int) - 1, -1, n) s) : wpAny (model prog w) A (Builtin.Slice.sliceApplied (.ref sl) (pure (n : Int))) Q E s := by
  obtain ⟨os, hos, hcs, hds⟩ := id hs
  unfold Builtin.Slice.sliceApplied Builtin.Slice.sliceFields
  refine wpAny_bind (wpAny_bind (wpAny_field hos hds (x := vl) rfl (wpAny_bind (wpAny_field hos hds (x := vu) rfl (wpAny_bind (wpAny_field hos hds (x := vs) rfl (wpAny_pure ?_)))))))
  refine wpAny_bind (HT.slicePart_ ps ?_)
  show wpAny _ _ (if ((-1 : Int) == 0) = true then _ else _) _ _ s
  rw [if_neg (by decide)]
  refine wpAny_bind (HT.slicePart_ pl (wpAny_bind (HT.slicePart_ pu (wpAny_bind (wpAny_pure ?_)))))
  show wpAny _ _ (pure ((n : Int) - 1, (-1 : Int), Builtin.Slice.slicePlaces ((n : Int) - 1) (-1) (-1))) _ _ s
  have e : Builtin.Slice.slicePlaces ((n : Int) - 1) (-1) (-1) = n := by
    unfold Builtin.Slice.slicePlaces
    rw [if_neg (by decide)]
    split
    · rw [show (-(-1) : Int) = 1 by decide, Int.ediv_one]
      omega
    · omega
  rw [e]
  exact wpAny_pure h
theorem getItem_tuple_rev9 {t sl : Addr} {items : Array Value} {vl vu vs : Value} {Q : Value → Shared → Prop} (ht : IsTup s.heap t items) (hs : s.heap.IsSliceOf sl vl vu vs) (pl : IsPart vl none) (pu : IsPart vu none) (ps : IsPart vs (some (-1)))
    (h : Q (.ref s.heap.objs.size) { s with heap := s.heap.push { cls := .type "tuple", data := .seq items.toList.reverse.toArray } })
    (hsz : items.size ≤ sizeLine) : wpAny (model prog w) A (getItem (.ref t) (.ref sl)) Q E s := by
  have htake : sizeOk (.seq items.toList.reverse.toArray) := by
    show items.toList.reverse.toArray.size ≤ sizeLine
    rw [List.size_toArray, List.length_reverse, Array.length_toList]
    exact hsz
  obtain ⟨os, hos, hcs, hds⟩ := id hs
  have hTs : s.TypeIs (.ref sl) "slice" := ⟨os, hos, hcs⟩
  unfold getItem
  try with_reducible refine wpAny_holding ?_
  first | refine wpAny_bind (wpAny_pure ?_) | skip
  refine wpAny_bind (wpAny_sequenceKey ht.typeIs (by decide) ?_)
  refine wpAny_bind (wpAny_callSpecial?_slot (name := Str.ofString "__getitem__") ht.typeIs PyProof.Rows.slot_tuple_getitem
    (wpAny_call_entry PyProof.Rows.slot_tuple_getitem ht.typeIs entry_tuple_getitem ?_ (args_tuple_getitem _ _)))
  show wpAny _ _ (Builtin.Tuple.tupleItemsOf (.ref t) >>= _) _ _ s
  refine wpAny_bind (tupleItemsOf_ ht ?_)
  refine wpAny_bind (wpAny_typeOf hTs ?_)
  rw [if_pos (by decide)]
  refine wpAny_bind (sliceApplied_rev9 hs pl pu ps ?_)
  have hno : ¬ ((((items.size : Int) - 1) == 0 && (-1 : Int) == 1 && items.size == items.size) = true) := by
    intro q
    rw [Bool.and_eq_true, Bool.and_eq_true] at q
    exact absurd q.1.2 (by decide)
  show wpAny _ _ (if (((items.size : Int) - 1) == 0 && (-1 : Int) == 1 && items.size == items.size) = true then _ else _) _ _ s
  rw [if_neg hno, rev_pick9]
  first
    | exact wpAny_bind (m := Builtin.Tuple.tupleExact _) (wpAny_newObj_type (wpAny_pure ⟨_, rfl, wpAny_pure h⟩) htake)
    | exact wpAny_bind (m := Builtin.Tuple.tupleExact _) (wpAny_newObj_type (wpAny_bind (wpAny_pure (wpAny_pure ⟨_, rfl, wpAny_pure h⟩))) htake)
    | exact wpAny_bind (wpAny_bind (m := Builtin.Tuple.tupleExact _) (wpAny_newObj_type (wpAny_pure (wpAny_pure ⟨_, rfl, wpAny_pure h⟩)) htake))
    | exact wpAny_bind (wpAny_bind (m := Builtin.Tuple.tupleExact _) (wpAny_newObj_type (wpAny_pure ⟨_, rfl, wpAny_pure h⟩) htake))
end
section
variable {X : Cx}
def tRevT9 (K : PySem.W.Frag) (te : TE) : TE := fun σ H Q => te σ H fun x H1 => ∃ a xs, x = .ref a ∧ SqT K H1 a xs ∧ ∀ p, H1 p = none → Q (.ref p) (upd H1 p (.tup xs.reverse))
theorem pe_revT9 {e : Expr} {te : TE} {k : Nat} {p1 p2 p3 pos : Pos} (he : PE X e te) : PE X (.Subscript e (.Slice none none (some (.UnaryOp .USub (.Constant (.int 1) k p1) p2)) p3) pos) (tRevT9 X.K te) := by
  refine ⟨fun pins s σ H Q I h => ?_⟩
  refine Subscript_ (thn (he.run pins s σ H _ I h) fun v s1 ⟨x, H1, I1, r1, q1⟩ => ?_)
  obtain ⟨a, xs, ex, hx, q⟩ := q1
  subst ex
  cases r1
  have hst : PO X (some (.UnaryOp .USub (.Constant (.int 1) k p1) p2)) (tPart (tUn (rU fun i => .int (-i)) (tC (.int 1)))) := po_some (pe_un un_neg pe_int)
  refine wpAny_Slice (thn (po_none.run pins s1 σ H1 (fun o H2 => o = none ∧ H2 = H1) I1 ⟨rfl, rfl⟩) fun vl s2 ⟨l, H2, I2, pl, el, e2⟩ => ?_)
  subst el e2
  refine thn (po_none.run pins s2 σ H2 (fun o H3 => o = none ∧ H3 = H2) I2 ⟨rfl, rfl⟩) fun vu s3 ⟨u, H3, I3, pu, eu, e3⟩ => ?_
  subst eu e3
  refine thn (hst.run pins s3 σ H3 (fun o H4 => o = some (-1) ∧ H4 = H3) I3 ⟨1, rfl, -1, rfl, rfl, rfl⟩) fun vs s4 ⟨o, H4, I4, ps, eo, e4⟩ => ?_
  subst eo e4
  have I5 : Inv X pins σ H4 { s4 with heap := s4.heap.push { cls := .type "slice", data := .fields #[vl, vu, vs] } } := I4.kept (t' := s4.toks) fun b ob q => Heap.get?_push_of_some _ q
  obtain ⟨its, r, ht, hz⟩ := I5.tuple hx
  have hlen := r.length
  show wpAny (model X.prog X.w) X.A (subscriptTail e (.Slice none none (some (.UnaryOp .USub (.Constant (.int 1) k p1) p2)) p3) (.ref a) (.ref s4.heap.objs.size)) (EP X pins σ Q) X.xe { s4 with heap := s4.heap.push { cls := .type "slice", data := .fields #[vl, vu, vs] } }
  refine tail_any (ops := [.ref a, .ref s4.heap.objs.size]) ht.typeIs (PyProof.Rows.slot_tuple_getitem.lookup) ?_ (by with_unfolding_all rfl)
  refine getItem_tuple_rev9 ht (Heap.IsSliceOf.new _ vl vu vs) pl pu ps ?_ (by rw [List.size_toArray]; omega)
  refine ⟨.ref _, _, I5.laid (t' := s4.toks) (o := .tup xs.reverse) (fun b ob q => Heap.get?_push_of_some _ q) (Nat.le_refl _) ?_, rfl, q _ (I5.hok.fresh (Nat.le_refl _))⟩
  exact ⟨by rw [List.length_reverse]; exact hz, _, r.reverse, ⟨_, Heap.get?_push_size _ rfl, rfl, _, rfl⟩⟩
end
end L2
namespace Fx
open PySem L2
section
variable {c : SC} {δ : Dl} {M : List MO} {Post : AQ} {e : Expr} {k : Nat} {p1 p2 p3 pos : Pos}
theorem x_revT (h : EvX c δ M e fun a M1 => ∃ ds, a = .dat (.tup ds) ∧ Post (.dat (.tup ds.reverse)) M1) : EvX c δ M (.Subscript e (.Slice none none (some (.UnaryOp .USub (.Constant (.int 1) k p1) p2)) p3) pos) Post := fun y σ H ad he hs Q q =>
  ⟨_, pe_revT9 wE_ok, h y σ H ad he hs _ fun v H1 ad1 a M1 n1 s1 r1 ⟨ds, ea, p1⟩ => by
    subst ea
    obtain ⟨pp, xs, rfl, hq, rr⟩ := r1
    refine ⟨pp, xs, rfl, hq, fun p hp => ?_⟩
    have sm := same_new (o := .tup xs.reverse) hp
    exact q _ _ ad1 (.dat (.tup ds.reverse)) M1 (n1.trans (Nx.same sm)) (s1.same sm) ⟨p, _, rfl, .inl (.inl upd_same), rr.reverse.tx (Tx.same sm)⟩ p1⟩
theorem f_revL {Pf : List D → List MO → Prop} (h : EvX c δ M e fun a M1 => ∃ ds, IsL M1 a ds ∧ Pf ds.reverse M1) : EvF c δ M (.Subscript e (.Slice none none (some (.UnaryOp .USub (.Constant (.int 1) k p1) p2)) p3) pos) Pf := fun y σ H ad he hs Q q =>
  ⟨_, pe_revL wE_ok, h y σ H ad he hs _ fun v H1 ad1 a M1 n1 s1 r1 ⟨ds, hx, p1⟩ => by
    obtain ⟨pp, xs, rfl, hq, rr⟩ := hx.sq s1 r1
    refine ⟨pp, xs, rfl, hq, fun p hp => ?_⟩
    have sm := same_new (o := .lst xs.reverse) hp
    exact q p _ _ ad1 ds.reverse M1 (n1.trans (Nx.same sm)) (s1.same sm) (free_back n1 s1 hp) (s1.free hp) upd_same (rr.reverse.tx (Tx.same sm)) p1⟩
/-! ways that meet again -/
theorem s_ifF {D : AE} {t : Expr} {b1 b2 : List Stmt} (h : EvT c δ M t fun k M1 => k = false ∧ M1 = M) (k : Run c δ M b2 D) : Run1 c δ M (.If t b1 b2 pos) D :=
  s_if (h.imp fun b M1 ⟨hb, hM⟩ => by
    subst hb hM
    exact ⟨fun h => (by cases h), fun _ => k⟩)
theorem s_ifT {D : AE} {t : Expr} {b1 b2 : List Stmt} (h : EvT c δ M t fun k M1 => k = true ∧ M1 = M) (k : Run c δ M b1 D) : Run1 c δ M (.If t b1 b2 pos) D :=
  s_if (h.imp fun b M1 ⟨hb, hM⟩ => by
    subst hb hM
    exact ⟨fun _ => k, fun h => (by cases h)⟩)
theorem s_ifB {D : AE} {t : Expr} {b1 b2 : List Stmt} (v : Bool) (h : EvT c δ M t fun k M1 => k = v ∧ M1 = M) (k1 : v = true → Run c δ M b1 D) (k2 : v = false → Run c δ M b2 D) : Run1 c δ M (.If t b1 b2 pos) D :=
  s_if (h.imp fun b M1 ⟨hb, hM⟩ => by
    subst hb hM
    exact ⟨k1, k2⟩)
theorem x_eq (v : AV) (h : EvX c δ M e fun a M1 => a = v ∧ M1 = M) (k : Post v M) : EvX c δ M e Post := h.imp fun a M1 ⟨ha, hM⟩ => by
  subst ha hM
  exact k
theorem t_eq {B : Bool → List MO → Prop} {t : Expr} (v : Bool) (h : EvT c δ M t fun k M1 => k = v ∧ M1 = M) (k : B v M) : EvT c δ M t B := h.imp fun b M1 ⟨hb, hM⟩ => by
  subst hb hM
  exact k
end
end Fx

/-! Fx, part N: a dict of ints, each True. -/
namespace Fx
open PySem L2
section
variable {c : SC} {δ : Dl} {M : List MO} {Post : AQ} {a b e o f : Expr} {p p1 p2 p3 p4 p5 p6 pos : Pos}
/-! ### a dict of ints, each True -/
def addK (ks : List Int) (k : Int) : List Int := if k ∈ ks then ks else ks ++ [k]
theorem putK_add (ks : List Int) (k : Int) : putK (ks.map fun k => ((Sum.inl k : Key), V.bl true)) (Sum.inl k) (V.bl true) = (addK ks k).map fun k => ((Sum.inl k : Key), V.bl true) := by
  unfold putK addK
  by_cases h : k ∈ ks
  · rw [if_pos h, if_pos]
    · rw [List.map_map]
      apply List.map_congr_left
      intro x _
      show (if (Sum.inl x : Key) = Sum.inl k then ((Sum.inl x : Key), V.bl true) else (Sum.inl x, V.bl true)) = _
      split <;> rfl
    · rw [List.any_map, List.any_eq_true]
      exact ⟨k, h, decide_eq_true rfl⟩
  · rw [if_neg h, if_neg, List.map_append]
    · rfl
    · rw [List.any_map, List.any_eq_true]
      rintro ⟨x, hx, e⟩
      have : (Sum.inl x : Key) = Sum.inl k := of_decide_eq_true e
      exact h (Sum.inl.inj this ▸ hx)
/-- x = {} -/
theorem x_dnew (h : Post (.mut M.length) (M ++ [.kd []])) : EvX c δ M (.Dict [] [] pos) Post := fun y σ H ad he hs Q q =>
  ⟨_, pe_dnewK (X := y.cx), fun p1 h1 => by
    have sm := same_new (o := .dK []) h1
    have s1 := hs.same sm
    have f1 := hs.free h1
    exact q _ _ (ad ++ [p1]) (.mut M.length) _ (push_nx (Nx.same sm) h1 f1) (s1.push (m := .kd []) f1 upd_same) ⟨p1, by rw [← hs.len, List.getElem?_append_right (Nat.le_refl _), Nat.sub_self]; rfl, rfl⟩ h⟩
/-- d[e] = True -/
theorem s_kput {D : AE} {jt : Nat} {pt : Pos} (h : EvX c δ M o fun v M2 => EvX c δ M2 f fun u M3 => ∃ (i : Int) (j : Nat) (ks : List Int), v = .mut j ∧ u = .dat (.int i) ∧ M3[j]? = some (.kd ks) ∧ ks.length < 1000000 ∧ D.nx δ (M3.set j (.kd (addK ks i))))
    (hs1 : ∀ env, swapsWith (.Constant (.bool true) jt pt) (some (.Subscript o f p1)) pos.line env = pure false) : Run1 c δ M (.Assign [.Subscript o f p1] (.Constant (.bool true) jt pt) pos) D := fun y σ H ad he hs E q =>
  ⟨_, ps_dput (X := y.cx) (hu_of y.room) wE_ok wE_ok pe_bl (hs1 y.env), h y σ H ad he hs _ fun v H2 ad2 a2 M2 n2 s2 r2 p2 => p2 y σ H2 ad2 (he.nx n2) s2 _ fun u H3 ad3 a3 M3 n3 s3 r3 ⟨i, j, ks, e2, e3, hm, hl, p3⟩ => by
    subst e2 e3
    obtain ⟨qq, hq, rfl⟩ := r2.nx n3
    obtain ⟨a4, h4, hH⟩ := s3.obj j _ hm
    rw [hq] at h4
    cases h4
    obtain rfl : u = V.int i := r3
    have hH : H3 qq = some (.dK (ks.map fun k => (Sum.inl k, V.bl true))) := hH
    obtain ⟨s4, n4⟩ := s3.put (m := .kd (addK ks i)) (o := .dK ((addK ks i).map fun k => (Sum.inl k, V.bl true))) hq upd_same
    have n14 := (n2.trans n3).trans n4
    have hlt : (ks.map fun k => ((Sum.inl k : Key), V.bl true)).length < sizeLine := by
      rw [List.length_map]
      have h24 : sizeLine = 16777216 := sizeLine_eq
      omega
    refine ⟨qq, _, rfl, DPut.k (k := Sum.inl i) hH hlt, ?_⟩
    rw [putK_add]
    exact q.nx σ _ ad3 δ _ n14 (he.nx n14) s4 p3⟩
/-- sorted(d) -/
theorem cf_sortedK {Pf : List D → List MO → Prop} {j : Nat} {ks : List Int} (hm : M[j]? = some (.kd ks)) (hl : ks.length < 64) (h : ∀ ns : List Int, ns.Perm ks → ns.Pairwise (· ≤ ·) → Pf (ns.map .int) M) : CallF c (.builtin "sorted") [.mut j] M Pf := fun z H ad hs vs r Q q => by
  obtain ⟨u, rfl, ru⟩ := repAs1 r
  obtain ⟨qq, hq, rfl⟩ := ru
  obtain ⟨a4, h4, hH⟩ := hs.obj j _ hm
  rw [hq] at h4
  cases h4
  refine ⟨_, call_sortedDI rfl, qq, _, ks, rfl, .inl hH, ?_, hl, fun ns' q' h1 h2 hn => ?_⟩
  · rw [List.map_map]
    rfl
  have sm := same_new (o := .lst (ns'.map V.int)) hn
  exact q q' _ _ ad (ns'.map .int) M (Nx.same sm) (hs.same sm) hn (hs.free hn) upd_same (reps_ints.mpr rfl) (h ns' h1 h2)
end
end Fx

/-! Fx, part O: x = [..] into the store; enumerate over a list; list.index of ints. -/
namespace Fx
open PySem L2
section
variable {c : SC} {δ : Dl} {M : List MO} {Post : AQ} {a b e o tg iter elt : Expr} {ifs : List Expr} {scope : Scope} {own : List (Str × Nat)} {p p1 p2 p3 apos pos tpos : Pos} {x : Str} {i : Nat} {Pi : List D → Option Nat → List MO → Prop} {elts : List Expr} {kk : Nat}
/-- x = [..], x a local, the list goes into the store -/
theorem s_lcN {D : AE} {α : Type} [hN : VarAt c.N x i] [hk : NamesOk c.N] (own : List (Str × Nat)) (f : α → Fx.D) (pr : α → Bool) (ok : BlkOk c.N c.sc scope own) (hxl : c.sc.names.lookup x = some .local) (hkd : c.sc.kind = .function) (hln : (p.line == pos.line) = true)
    (ha : (scope.names.any fun (n, k) => n == x && (k == .local || k == .cell)) = false)
    (h : EvI c δ M tg iter fun ds src M1 => ∃ (xs : List α) (g : α → Fx.D), ds = xs.map g ∧ xs.length ≤ 1000000 ∧ (∀ j, src = some j → M1[j]? = some (.lst ds)) ∧
      (∀ x, x ∈ xs → LcTurn (c.blk scope) (wipeD δ (own.map (·.2))) tg elt ifs (own.map (·.2)) (g x) M1 (fun d' M4 => pr x = true ∧ d' = f x ∧ M4 = M1) (fun M3 => pr x = false ∧ M3 = M1)) ∧ D.nx (δ.set i (some (.mut M1.length))) (M1 ++ [.lst ((xs.filter pr).map f)]))
    (hf : ∀ env x, foldedSetIterable iter env x = pure x) : Run1 c δ M (.Assign [.Name x p] (.ListComp elt [⟨tg, iter, ifs, 0⟩] scope pos) p1) D :=
  s_setLc own i hN.get hxl (fun env e => sw_true (by rw [e]; exact hkd) (by rw [e]; exact hxl) hln ha) ok hk.nd hf (lc_plain (Pf := fun ds M2 => D.nx (δ.set i (some (.mut M2.length))) (M2 ++ [.lst ds])) f pr h) (.inr fun ds M2 z => z)
theorem walks_enumL {K : PySem.W.Frag} {ad : List Addr} {H : Hp} {ds : List D} {q : Addr} {xs : List V} (hq : LstAt ad H q xs) (rr : Reps K H ds xs) : Walks K (Ite K q) ad H (enumD ds) none := fun ad2 H2 M2 n s _ i => by
  have hq2 := (hq.nx n).sq (K := K)
  have rr2 := rr.tx n.tx
  refine ⟨fun d hd => ?_, fun e => ⟨xs, hq2, by rw [rr2.length, e, enumD_len]; exact Nat.le_refl _⟩⟩
  obtain ⟨d', hd', rfl⟩ := enumD_get hd
  obtain ⟨w, hw, rw'⟩ := rr2.get hd'
  refine ⟨⟨xs, w, hq2, hw⟩, fun x H3 ⟨T, y, e1, hT, e3, hy⟩ => ?_⟩
  subst e1 e3
  have := hy xs hq2
  rw [hw] at this
  cases this
  have sm := same_new (o := .tup [.int (i : Nat), w]) hT
  exact ⟨sm, T, _, rfl, .inl (.inl upd_same), _, _, rfl, rfl, _, _, rfl, Rep.tx (Tx.same sm) rw', rfl⟩
theorem i_enumL (hm : c.mg "enumerate" = none) (hg : c.gl "enumerate") (h : EvA c δ M [e] fun as M1 => ∃ ds, as = [.ls ds] ∧ Pi (enumD ds) none M1)
    (hs1 : ∀ env, starEach [e] env = [(false, eval e env)]) : EvI c δ M (.Tuple elts kk tpos) (.Call (.Name "enumerate" p) [e] [] pos) Pi := fun y σ H ad he hs R q =>
  ⟨_, pi_enum (glS y hg) hm wA_ok (hs1 y.env), h y σ H ad he hs _ fun vs H1 ad1 as M1 n1 s1 r1 ⟨ds, e1, p1⟩ => by
    subst e1
    obtain ⟨v, e2, qq, xs, e3, hq, rr⟩ := repAs1 r1
    subst e2 e3
    exact ⟨qq, xs, rfl, hq.sq, q _ H1 ad1 _ _ M1 n1 s1 (walks_enumL hq rr) p1⟩⟩
theorem enum_map {α : Type} (xs : List α) (f : α → D) : enumD (xs.map f) = xs.zipIdx.map fun q => D.tup [.int (q.2 : Nat), f q.1] := by
  unfold enumD
  rw [List.zipIdx_map, List.map_map]
  rfl
theorem eqV_int (a b : Int) : eqV (V.int a) (V.int b) = decide (a = b) := by simp [eqV, Bool.beq_eq_decide_eq]
/-- xs.index(e), ints, e among them -/
theorem x_lindex (h : EvX c δ M o fun v M1 => ∃ ns : List Int, v = .ls (ns.map .int) ∧ EvX c δ M1 e fun w M2 => ∃ k : Int, w = .dat (.int k) ∧ k ∈ ns ∧ Post (.dat (.int (ns.idxOf k : Nat))) M2)
    (hbase : ∀ env, attributeBase o "index" env (eval o env) = eval o env)
    (hfew : ∀ env, ((backTo pos (starEach [e] env)).all (fun x => !x.1) && (backToKw pos (keywordEach [] env)).all (fun x => x.1.isSome) && decide ([e].length + ([] : List Keyword).length + (if ([] : List Keyword).isEmpty then 0 else 1) < 30)) = true)
    (hline : (apos.endLine == pos.line) = true) (hst : ∀ env, starEach [e] env = (false, eval e env) :: starEach [] env) : EvX c δ M (.Call (.Attribute o "index" apos) [e] [] pos) Post := fun y σ H ad he hs Q q =>
  ⟨_, pe_bm (X := y.cx) PySem.F.plainAttrs_list PySem.F.slot_list_index PySem.F.type_list_index mt_index wE_ok (pa_cons wE_ok pa_nil (hst y.env)) (hbase y.env) (hfew y.env) hline (hst y.env) rfl, h y σ H ad he hs _ fun v H1 ad1 a1 M1 n1 s1 r1 ⟨ns, e1, p1⟩ => by
    subst e1
    obtain ⟨qq, xs, rfl, hq, rr⟩ := id r1
    refine ⟨.inl ⟨rfl, xs, hq.sq⟩, p1 y σ H1 ad1 (he.nx n1) s1 _ fun w H2 ad2 a2 M2 n2 s2 r2 ⟨k, e2, hk, p2⟩ => ?_⟩
    subst e2
    obtain ⟨q3, xs3, e3, hq3, rr3⟩ := r1.nx n2
    cases e3
    have hq4 := hq3.sq (K := c.K)
    rw [reps_ints.mp rr3] at hq4
    have hlt := List.idxOf_lt_length_iff.mpr hk
    refine ⟨qq, ns.map V.int, V.int k, ns.idxOf k, V.int k, rfl, ?_, hq4, rfl, ?_, ?_, ?_, fun m z hm hz => ?_, q _ H2 ad2 (.dat (.int (ns.idxOf k : Nat))) M2 (n1.trans n2) s2 rfl p2⟩
    · rw [show w = .int k from r2]
    · rw [List.all_map]
      exact List.all_eq_true.mpr fun _ _ => rfl
    · rw [List.getElem?_map, List.getElem?_eq_getElem hlt, List.getElem_idxOf hlt]
      rfl
    · rw [eqV_int, decide_eq_true rfl]
    · have hml : m < ns.length := Nat.lt_trans hm hlt
      rw [List.getElem?_map, List.getElem?_eq_getElem hml] at hz
      have ez : z = V.int ns[m] := (Option.some.inj hz).symm
      rw [ez, eqV_int]
      refine decide_eq_false fun e => ?_
      have := List.not_of_lt_findIdx (p := (· == k)) (xs := ns) (i := m) (by exact hm)
      simp [e] at this⟩
/-- two ways behind a statement meet again -/
theorem s_join {D : AE} {st : Stmt} (J : Dl → List MO → Prop) (h : Run1 c δ M st { D with nx := J }) (k : ∀ δ2 M2, J δ2 M2 → D.nx δ2 M2) : Run1 c δ M st D := fun y σ H ad he hs E q =>
  h y σ H ad he hs E ⟨fun σ2 H2 ad2 δ2 M2 n e s p => q.nx σ2 H2 ad2 δ2 M2 n e s (k δ2 M2 p), q.rt, q.bk, q.ct⟩
end
end Fx

/-! Fx, part P: a, b, .. = x, y, .. of any values; int(b). -/
namespace Fx
open PySem L2
section
variable {c : SC} {δ : Dl} {M : List MO} {Post : AQ} {a b e o : Expr} {es tgs : List Expr} {p p1 p2 p3 pos pt pt2 : Pos} {x : Str} {i : Nat} {is : List Nat}
/-- targets that are names, with their places -/
inductive NT (c : SC) : List Expr → List Nat → Prop
  | nil : NT c [] []
  | cons {x : Str} {pos : Pos} {i : Nat} {tgs : List Expr} {is : List Nat} (hN : c.N[i]? = some x) (hnd : c.N.Nodup) (hx : Loc c.sc x) (hf : c.fn x = true ∨ c.sc.names.lookup x = some .local)
      (hs : ∀ env, (assignEach (.Name x pos :: tgs) env).map (·.2) = assign (.Name x pos) env :: (assignEach tgs env).map (·.2)) (h : NT c tgs is) : NT c (.Name x pos :: tgs) (i :: is)
theorem nt_c [hN : VarAt c.N x i] [hk : NamesOk c.N] (hx : Loc c.sc x) (hf : c.fn x = true ∨ c.sc.names.lookup x = some .local)
    (hs : ∀ env, (assignEach (.Name x pos :: tgs) env).map (·.2) = assign (.Name x pos) env :: (assignEach tgs env).map (·.2)) (h : NT c tgs is) : NT c (.Name x pos :: tgs) (i :: is) := .cons hN.get hk.nd hx hf hs h
def gNames : List Nat → TGs
  | [] => gNil
  | i :: is => gCons (gName i) (gNames is)
def setAll (δ : Dl) : List Nat → List AV → Dl
  | i :: is, a :: as => setAll (δ.set i (some a)) is as
  | _, _ => δ
theorem NT.pgs (h : NT c tgs is) (y : Dyn c) : PGs y.cx tgs (gNames is) := by
  induction h with
  | nil => exact pgs_nil
  | cons hN hnd hx hf hs h ih => exact pgs_cons (pg_name (X := y.cx) hnd hN (by show Loc y.env.scope _; rw [y.sc]; exact hx) (by show c.fn _ = true ∨ y.env.scope.names.lookup _ = some .local; rw [y.sc]; exact hf)) ih (hs y.env)
theorem gNames_run {K : PySem.W.Frag} {ad : List Addr} {H : Hp} : ∀ {is : List Nat} {as : List AV} {vs : List V} {σ : L2.St} {δ : Dl} {Q : L2.St → Hp → Prop}, RepAs K ad H as vs → as.length = is.length → EnvOk K ad H σ δ →
    (∀ σ2, EnvOk K ad H σ2 (setAll δ is as) → Q σ2 H) → gNames is vs σ H Q
  | [], [], vs, σ, δ, Q, r, _, e, q => ⟨r, q σ e⟩
  | i :: is, a :: as, vs, σ, δ, Q, ⟨v, r, ev, h1, h2⟩, hl, e, q => by
    subst ev
    exact ⟨v, r, rfl, gNames_run h2 (by simpa using hl) (e.set h1) q⟩
  | [], _ :: _, _, _, _, _, _, hl, _, _ => by simp at hl
  | _ :: _, [], _, _, _, _, _, hl, _, _ => by simp at hl
/-- a, b, .. = x, y, ..: a tuple is made and taken apart -/
theorem s_tupN {D : AE} {k k2 : Nat} (nt : NT c tgs is) (h : EvA c δ M es fun as M1 => as.length = is.length ∧ D.nx (setAll δ is as) M1) (hi : is.length ≤ 1000)
    (hs1 : ∀ env, swapsWithSole [.Tuple tgs k pt] (.Tuple es k2 pt2) pos.line env = pure false) (hw : ∀ env : Env, env.scope = c.sc → swappedStores [.Tuple tgs k pt] (.Tuple es k2 pt2) env = pure none)
    (h1 : ∀ env, (assignEach [.Tuple tgs k pt] env).map (·.2) = [assign (.Tuple tgs k pt) env]) (hn : ∀ env, (assignEach tgs env).length = is.length) (hst : ∀ env, (assignEach tgs env).findIdx? (·.1) = none) :
    Run1 c δ M (.Assign [.Tuple tgs k pt] (.Tuple es k2 pt2) pos) D := fun y σ H ad he hs E q =>
  ⟨_, ps_asg (pe_tup wA_ok) (pg_tup (X := y.cx) rfl (nt.pgs y) (hn y.env) (hst y.env)) (hs1 y.env) (hw y.env y.sc) (h1 y.env), h y σ H ad he hs _ fun vs H1 ad1 as M1 n1 s1 r1 ⟨hl, p1⟩ => by
    have hvl := repAs_length r1
    refine ⟨by rw [hvl, hl]; exact Nat.le_trans hi (by decide), fun p hp => ?_⟩
    have sm := same_new (o := .tup vs) hp
    have n2 := n1.trans (Nx.same (ad := ad1) sm)
    exact ⟨p, vs, rfl, .inl (.inl upd_same), by rw [hvl, hl], gNames_run (r1.nx (Nx.same sm)) hl (he.nx n2) fun σ2 e2 => q.nx σ2 _ ad1 _ M1 n2 e2 (s1.same sm) p1⟩⟩
theorem repAs3 {K : PySem.W.Frag} {ad : List Addr} {H : Hp} {a b c : AV} {vs : List V} (r : RepAs K ad H [a, b, c] vs) : ∃ u v w, vs = [u, v, w] ∧ RepA K ad H a u ∧ RepA K ad H b v ∧ RepA K ad H c w := by
  obtain ⟨x, r, e, h, rr⟩ := r
  obtain ⟨v, w, e2, h2, h3⟩ := repAs2 rr
  subst e2
  exact ⟨x, v, w, e, h, h2, h3⟩
/-- a, b, c = x, y, z, all locals -/
theorem s_p3 {D : AE} {x2 x3 : Str} {j l : Nat} {e1 e2 e3 : Expr} {px py pz : Pos} {kt k2 : Nat} [hi : VarAt c.N x i] [hj : VarAt c.N x2 j] [hl : VarAt c.N x3 l] [hk : NamesOk c.N] (hij : i ≠ j) (hil : i ≠ l) (hjl : j ≠ l) (hx : c.sc.names.lookup x = some .local) (hy : c.sc.names.lookup x2 = some .local) (hz : c.sc.names.lookup x3 = some .local)
    (h : EvA c δ M [e1, e2, e3] fun as M1 => ∃ u v w, as = [u, v, w] ∧ D.nx (((δ.set i (some u)).set j (some v)).set l (some w)) M1)
    (hw : ∀ env : Env, env.scope = c.sc → swappedStores [.Tuple [.Name x px, .Name x2 py, .Name x3 pz] kt pt] (.Tuple [e1, e2, e3] k2 pt2) env = pure (some [x, x2, x3]))
    (hs1 : ∀ env, swapsWithSole [.Tuple [.Name x px, .Name x2 py, .Name x3 pz] kt pt] (.Tuple [e1, e2, e3] k2 pt2) pos.line env = pure false) :
    Run1 c δ M (.Assign [.Tuple [.Name x px, .Name x2 py, .Name x3 pz] kt pt] (.Tuple [e1, e2, e3] k2 pt2) pos) D := fun y σ H ad he hs E q =>
  ⟨_, ps_par3 (X := y.cx) rfl hk.nd hi.get hj.get hl.get hij hil hjl (by show y.env.scope.names.lookup x = some .local; rw [y.sc]; exact hx) (by show y.env.scope.names.lookup x2 = some .local; rw [y.sc]; exact hy) (by show y.env.scope.names.lookup x3 = some .local; rw [y.sc]; exact hz) wA_ok (hw y.env y.sc) (hs1 y.env),
    h y σ H ad he hs _ fun vs H2 ad2 as M2 n s r ⟨u, v, w, e, p⟩ => by
      subst e
      obtain ⟨u1, v1, w1, e1, r1, r2, r3⟩ := repAs3 r
      exact ⟨u1, v1, w1, e1, q.nx _ H2 ad2 _ M2 n ((((he.nx n).set r1).set r2).set r3) s p⟩⟩
theorem ca_int1 {k : Bool} (h : Post (.dat (.int (if k then 1 else 0))) M) : CallA c (.type "int") [.dat (.bl k)] M Post := fun z H ad hs vs r Q q => by
  obtain ⟨u, rfl, ru⟩ := repAs1 r
  rw [show u = .bl k from ru]
  exact ⟨_, call_int1, .inr ⟨k, rfl, q _ H ad (.dat (.int (if k then 1 else 0))) M Nx.refl hs rfl h⟩⟩
end
end Fx

/-! Fx, part Q: t += u of tuples; data in a list of data. -/
namespace L2
open PySem PySem.Spec PyProof.Rows HT
theorem no_iadd_tup9 : typeLookup (.type "tuple") (dunderI "add") = pure none := by rw [typeLookup_type, builtinLookup_eq_fast]; kernel_rfl
section
variable {X : Cx}
theorem iop_catA9 : OpR X (inplaceOp .Add) (rCatA X.K) := by
  intro pins s σ H x y v u Q I rx ry h
  obtain ⟨a, b, xs, ys, rfl, rfl, ha, hb, hz, q0, q1, q2⟩ := h
  cases rx
  cases ry
  obtain ⟨vs, r1, p1, _⟩ := I.tuple ha
  obtain ⟨ws, r2, p2, _⟩ := I.tuple hb
  have l1 := r1.length
  have l2 := r2.length
  obtain ⟨⟨c1, d1, dt1, sl1⟩, ho, hc, n, hd⟩ := id p1
  obtain ⟨⟨c2, d2, dt2, sl2⟩, ho2, hc2, n2, hd2⟩ := id p2
  simp only at hc hd hc2 hd2
  subst hc hd hc2 hd2
  by_cases hv : xs = []
  · have e1 : vs = [] := List.eq_nil_of_length_eq_zero (by rw [← l1, hv]; rfl)
    exact wpAny_inplaceOp_concat ⟨_, ho, rfl⟩ ⟨_, ho2, rfl⟩ no_iadd_tup9 noFill_tuple_add seq_tuple_add (call_meets PySem.F.slot_tuple_add ⟨_, ho, rfl⟩ PySem.F.entry_tuple_add (PySem.F.args_tuple_add_2 _ _)
      (tuple_addW0 a b vs.toArray ws.toArray n n2 d1 d2 sl1 sl2 (by simp [e1])) ⟨ho, ho2, ⟨.ref b, H, I, rfl, q0 hv⟩⟩)
  · have hv' : vs ≠ [] := fun e => hv (List.eq_nil_of_length_eq_zero (by rw [l1, e]; rfl))
    by_cases hw : ys = []
    · have e2 : ws = [] := List.eq_nil_of_length_eq_zero (by rw [← l2, hw]; rfl)
      exact wpAny_inplaceOp_concat ⟨_, ho, rfl⟩ ⟨_, ho2, rfl⟩ no_iadd_tup9 noFill_tuple_add seq_tuple_add (call_meets PySem.F.slot_tuple_add ⟨_, ho, rfl⟩ PySem.F.entry_tuple_add (PySem.F.args_tuple_add_2 _ _)
        (tuple_addW1 a b vs.toArray ws.toArray n n2 d1 d2 sl1 sl2 (by simpa using hv') (by simp [e2])) ⟨ho, ho2, ⟨.ref a, H, I, rfl, q1 hv hw⟩⟩)
    · have hw' : ws ≠ [] := fun e => hw (List.eq_nil_of_length_eq_zero (by rw [l2, e]; rfl))
      refine wpAny_inplaceOp_concat ⟨_, ho, rfl⟩ ⟨_, ho2, rfl⟩ no_iadd_tup9 noFill_tuple_add seq_tuple_add (call_meets PySem.F.slot_tuple_add ⟨_, ho, rfl⟩ PySem.F.entry_tuple_add (PySem.F.args_tuple_add_2 _ _)
        (tuple_addW2 a b vs.toArray ws.toArray n n2 d1 d2 sl1 sl2 (by simpa using hv') (by simpa using hw') (by rw [List.size_toArray, List.size_toArray]; omega)) ⟨ho, ho2, ?_⟩)
      rw [show vs.toArray ++ ws.toArray = (vs ++ ws).toArray by simp]
      refine ⟨.ref _, _, I.laid (t' := s.toks) (o := .tup (xs ++ ys)) (fun b ob q => Heap.get?_push_of_some _ q) (Nat.le_refl _) ?_, rfl, q2 hv hw _ (I.hok.fresh (Nat.le_refl _))⟩
      exact ⟨by rw [List.length_append]; exact hz, _, r1.append r2, ⟨_, Heap.get?_push_size _ rfl, rfl, _, rfl⟩⟩
end
end L2
namespace Fx
open PySem L2
section
variable {c : SC} {δ : Dl} {M : List MO} {Post : AQ} {B : Bool → List MO → Prop}
theorem b_icatT {ds es : List D} (hl : ds.length + es.length ≤ 1000000) (h : Post (.dat (.tup (ds ++ es))) M) : BinR c (inplaceOp .Add) (.dat (.tup ds)) (.dat (.tup es)) M Post :=
  fun z H ad hs vx vy ⟨a, xs, ea, qa, ra⟩ ⟨b, ys, eb, qb, rb⟩ Q q => by
    refine ⟨_, iop_catA9, a, b, xs, ys, ea, eb, qa, qb, by rw [ra.length, rb.length]; exact Nat.le_trans hl (by decide), fun e => ?_, fun _ e => ?_, fun _ _ p hp => ?_⟩
    · subst e
      have e2 : ds = [] := by cases ds with | nil => rfl | cons d r => exact absurd ra.length (by simp)
      subst e2
      exact q _ H ad _ M Nx.refl hs (show RepA _ _ _ (.dat (.tup es)) _ from ⟨b, ys, rfl, qb, rb⟩) h
    · subst e
      have e2 : es = [] := by cases es with | nil => rfl | cons d r => exact absurd rb.length (by simp)
      subst e2
      rw [List.append_nil] at h
      exact q _ H ad _ M Nx.refl hs (show RepA _ _ _ (.dat (.tup ds)) _ from ⟨a, xs, rfl, qa, ra⟩) h
    · have sm := same_new (o := .tup (xs ++ ys)) hp
      exact q _ _ ad _ M (Nx.same sm) (hs.same sm) (show RepA _ _ _ (.dat (.tup (ds ++ es))) _ from ⟨p, _, rfl, .inl (.inl upd_same), (ra.append rb).tx (Tx.same sm)⟩) h
/-! tuples of ints: == and in by their ints -/
theorem eqv_all_ints : ∀ a b : List Int, PyData.eqvAll (pys (a.map D.int)) (pys (b.map D.int)) = decide (a = b)
  | [], [] => by simp [pys, PyData.eqvAll]
  | [], _ :: _ => by simp [pys, PyData.eqvAll]
  | _ :: _, [] => by simp [pys, PyData.eqvAll]
  | x :: a, y :: b => by
    have ih := eqv_all_ints a b
    show PyData.eqvAll (D.py (.int x) :: pys (a.map D.int)) (D.py (.int y) :: pys (b.map D.int)) = _
    simp only [PyData.eqvAll, ih, D.py, PyData.eqv]
    by_cases h : x = y <;> by_cases h2 : a = b <;> simp [h, h2]
theorem eqv_tI (a b : List Int) : PyData.eqv (tI a).py (tI b).py = decide (a = b) := by
  show PyData.eqv (.tuple (pys (a.map D.int))) (.tuple (pys (b.map D.int))) = _
  simp only [PyData.eqv, eqv_all_ints]
theorem eqv_all_tI : ∀ a b : List (List Int), PyData.eqvAll (pys (a.map tI)) (pys (b.map tI)) = decide (a = b)
  | [], [] => by simp [pys, PyData.eqvAll]
  | [], _ :: _ => by simp [pys, PyData.eqvAll]
  | _ :: _, [] => by simp [pys, PyData.eqvAll]
  | x :: a, y :: b => by
    have ih := eqv_all_tI a b
    have e := eqv_tI x y
    show PyData.eqvAll ((tI x).py :: pys (a.map tI)) ((tI y).py :: pys (b.map tI)) = _
    simp only [PyData.eqvAll, ih, e]
    by_cases h : x = y <;> by_cases h2 : a = b <;> simp [h, h2]
theorem eqv_tII (a b : List (List Int)) : PyData.eqv (tII a).py (tII b).py = decide (a = b) := by
  show PyData.eqv (.tuple (pys (a.map tI))) (.tuple (pys (b.map tI))) = _
  simp only [PyData.eqv, eqv_all_tI]
theorem pys_map (ts : List (List Int)) : pys (ts.map tI) = ts.map fun t => (tI t).py := by
  induction ts with
  | nil => rfl
  | cons t ts ih => show (tI t).py :: pys (ts.map tI) = _; rw [ih]; rfl
theorem any_tI (t : List Int) (ts : List (List Int)) : (pys (ts.map tI)).any (fun z => PyData.eqv z (tI t).py) = decide (t ∈ ts) := by
  rw [pys_map, List.any_map]
  induction ts with
  | nil => simp
  | cons u ts ih =>
    rw [List.any_cons, ih]
    have e : ((fun z => PyData.eqv z (tI t).py) ∘ fun t => (tI t).py) u = decide (u = t) := eqv_tI u t
    rw [e]
    by_cases h : u = t
    · subst h; simp
    · have h2 : ¬ t = u := fun q => h q.symm
      simp [h, h2]
theorem isL_py {y : AV} {ds : List D} (hy : IsL M y ds) : IsDat M y ∧ avPy M y = .list (pys ds) := by
  rcases hy with rfl | ⟨j, rfl, hm⟩
  · exact ⟨trivial, rfl⟩
  · refine ⟨⟨ds, hm⟩, ?_⟩
    unfold avPy
    rw [hm]
theorem c_inT {t : List Int} {ts : List (List Int)} {y : AV} (hy : IsL M y (ts.map tI)) (h : B (decide (t ∈ ts)) M) : CmpR c .In (.dat (tI t)) y M B := fun z H ad st vx vy rx ry Q q => by
  obtain ⟨h1, h2⟩ := isL_py hy
  have dy := av_dp st ry h1
  rw [h2] at dy
  refine ⟨_, op_inD (by have := z.room.un; show z.A.units + 65 < cLine; omega), _, _, rep_dp rx, dy, okD_shaped (ok_tI 0 t) (by decide), okDs_shaped (all_ok_tI 0 ts) (by decide), ?_⟩
  rw [any_tI]
  exact q _ H ad M Nx.refl st h
theorem c_notinT {t : List Int} {ts : List (List Int)} {y : AV} (hy : IsL M y (ts.map tI)) (h : B (!decide (t ∈ ts)) M) : CmpR c .NotIn (.dat (tI t)) y M B := fun z H ad st vx vy rx ry Q q => by
  obtain ⟨h1, h2⟩ := isL_py hy
  have dy := av_dp st ry h1
  rw [h2] at dy
  refine ⟨_, op_notInD (by have := z.room.un; show z.A.units + 65 < cLine; omega), _, _, rep_dp rx, dy, okD_shaped (ok_tI 0 t) (by decide), okDs_shaped (all_ok_tI 0 ts) (by decide), ?_⟩
  rw [any_tI]
  exact q _ H ad M Nx.refl st h
theorem c_neTT {a b : List (List Int)} (h : B (!decide (a = b)) M) : CmpR c .NotEq (.dat (tII a)) (.dat (tII b)) M B := by
  refine c_neD trivial trivial (okD_shaped (ok_tII 0 a) (by decide)) (okD_shaped (ok_tII 0 b) (by decide)) ?_
  show B (!PyData.eqv (tII a).py (tII b).py) M
  rw [eqv_tII]
  exact h
theorem c_neT {a b : List Int} (h : B (!decide (a = b)) M) : CmpR c .NotEq (.dat (tI a)) (.dat (tI b)) M B := by
  refine c_neD trivial trivial (okD_shaped (ok_tI 0 a) (by decide)) (okD_shaped (ok_tI 0 b) (by decide)) ?_
  show B (!PyData.eqv (tI a).py (tI b).py) M
  rw [eqv_tI]
  exact h
theorem c_eqLL {x y : AV} {a b : List (List Int)} (hx : IsL M x (a.map tI)) (hy : IsL M y (b.map tI)) (h : B (decide (a = b)) M) : CmpR c .Eq x y M B := by
  obtain ⟨a1, b1⟩ := isL_py hx
  obtain ⟨a2, b2⟩ := isL_py hy
  refine c_eqD a1 a2 (by rw [b1]; exact okDs_shaped (all_ok_tI 0 a) (by decide)) (by rw [b2]; exact okDs_shaped (all_ok_tI 0 b) (by decide)) ?_
  rw [b1, b2]
  show B (PyData.eqv (.list (pys (a.map tI))) (.list (pys (b.map tI)))) M
  simp only [PyData.eqv, eqv_all_tI]
  exact h
end
end Fx

/-! Fx, part X: tuples whose object is known; t.index(x). -/
namespace L2
open PySem PySem.Spec PyProof.Rows HT
abbrev tupO9 (us : List Value) : Obj := { cls := .type "tuple", data := .seq us.toArray }
section
variable {X : Cx}
/-- a new tuple, its object known -/
theorem laidX9 {pins : List (Addr × Obj)} {σ : St} {H : Hp} {s : Shared} {us : List Value} {xs : List V} {Q : VK} (I : Inv X pins σ H s) (r : Vals xs us) (hz : xs.length ≤ sizeLine) (q : ∀ p, H p = none → Q (.ref p) (upd H p (.frz (tupO9 us) (.tup xs)))) :
    EP X pins σ Q (.ref s.heap.objs.size) { s with heap := s.heap.push (tupO9 us) } := by
  have g : (s.heap.push (tupO9 us)).get? s.heap.objs.size = some (tupO9 us) := Heap.get?_push_size _ rfl
  refine ⟨.ref s.heap.objs.size, _, I.laid (t' := s.toks) (o := .frz (tupO9 us) (.tup xs)) (fun b ob e => Heap.get?_push_of_some _ e) (Nat.le_refl _) ?_, rfl, q _ (I.hok.fresh (Nat.le_refl _))⟩
  exact ⟨g, hz, us, r, ⟨_, g, rfl, _, rfl⟩⟩
def tTupX9 (t : TA) : TE := fun σ H Q => t σ H fun xs H1 => xs.length ≤ sizeLine ∧ ∀ p o, H1 p = none → o.cls = .type "tuple" → o.dict = none → Q (.ref p) (upd H1 p (.frz o (.tup xs)))
theorem pe_tupX9 {es : List Expr} {t : TA} {pos : Pos} {x1 : Nat} (h : PA X es t) : PE X (.Tuple es x1 pos) (tTupX9 t) := by
  refine ⟨fun pins s σ H Q I hq => ?_⟩
  exact wpAny_Tuple_spliced (thn (h.run pos pins s σ H _ I hq) fun us s1 ⟨xs, H1, I1, r, z, q⟩ => ⟨by rw [← r.length]; exact z, laidX9 I1 r z fun p hp => q p _ hp rfl rfl⟩)
def rCatX9 (K : PySem.W.Frag) : R2 := fun x y H Q => ∃ a b xs ys, x = .ref a ∧ y = .ref b ∧ SqT K H a xs ∧ SqT K H b ys ∧ xs.length + ys.length ≤ sizeLine ∧
  (xs = [] → Q (.ref b) H) ∧ (xs ≠ [] → ys = [] → Q (.ref a) H) ∧ (xs ≠ [] → ys ≠ [] → ∀ p o, H p = none → o.cls = .type "tuple" → o.dict = none → Q (.ref p) (upd H p (.frz o (.tup (xs ++ ys)))))
theorem op_catX9 : OpR X (binaryOp .Add) (rCatX9 X.K) := by
  intro pins s σ H x y v u Q I rx ry h
  obtain ⟨a, b, xs, ys, rfl, rfl, ha, hb, hz, q0, q1, q2⟩ := h
  cases rx
  cases ry
  obtain ⟨vs, r1, p1, _⟩ := I.tuple ha
  obtain ⟨ws, r2, p2, _⟩ := I.tuple hb
  by_cases hx : xs = []
  · subst hx
    cases r1
    exact cat_tup0 p1 p2 ⟨.ref b, H, I, rfl, q0 rfl⟩
  · refine cat_tup p1 p2 (fun z => hx (r1.nil_iff.mp z)) (fun z => ⟨.ref a, H, I, rfl, q1 hx (r2.nil_iff.mp z)⟩) (fun z => ?_) (by rw [← r1.length, ← r2.length]; exact hz)
    exact laidX9 I (r1.append r2) (by rw [List.length_append]; exact hz) fun p hp => q2 hx (fun w => z (r2.nil_iff.mpr w)) p _ hp rfl rfl
theorem call_tupleX9 : CallR X (.type "tuple") (fun xs H Q => ∃ p ys, xs = [.ref p] ∧ SqL X.K H p ys ∧ ∀ l o, H l = none → o.cls = .type "tuple" → o.dict = none → Q (.ref l) (upd H l (.frz o (.tup ys)))) := by
  intro pins s σ H xs us Q I r h
  obtain ⟨p, ys, rfl, hq, q⟩ := h
  obtain ⟨u, rfl, rx⟩ := vals1 r
  cases rx
  obtain ⟨its, r', pl, hz⟩ := I.list hq
  have hlen := r'.length
  refine call_tuple_list pl.isList (fun h' kp => ?_) (by simp only [List.size_toArray] <;> omega)
  have I1 : Inv X pins σ H { s with heap := h' } := I.kept (t' := s.toks) kp
  exact laidX9 I1 r' hz fun p hp => q p _ hp rfl rfl
/-- t.index(e), ints -/
def tTIx9 (to : TE) (ta : TA) : TE := fun σ H Q => to σ H fun x H1 => ∃ (a : Addr) (ns : List Int) (o : Obj), x = .ref a ∧ H1 a = some (.frz o (.tup (ns.map V.int))) ∧ o.cls = .type "tuple" ∧ o.dict = none ∧
  ta σ H1 fun vs H2 => ∃ k : Int, vs = [.int k] ∧ k ∈ ns ∧ H2 a = some (.frz o (.tup (ns.map V.int))) ∧ Q (.int (ns.idxOf k : Nat)) H2
theorem pe_tindex9 {o e : Expr} {to : TE} {ta : TA} {apos cpos : Pos} (ho : PE X o to) (ha : PA X [e] ta) (hbase : attributeBase o "index" X.env (eval o X.env) = eval o X.env)
    (hfew : ((backTo cpos (starEach [e] X.env)).all (fun x => !x.1) && (backToKw cpos (keywordEach [] X.env)).all (fun x => x.1.isSome) && decide ([e].length + ([] : List Keyword).length + (if ([] : List Keyword).isEmpty then 0 else 1) < 30)) = true)
    (hline : (apos.endLine == cpos.line) = true) (hs : starEach [e] X.env = (false, eval e X.env) :: starEach [] X.env) : PE X (.Call (.Attribute o "index" apos) [e] [] cpos) (tTIx9 to ta) := by
  refine ⟨fun pins s σ H Q I h => ?_⟩
  refine wpAny_Call_method_late hbase hfew hline rfl (thn (ho.run pins s σ H _ I h) fun v s1 ⟨x, H1, I1, r1, q1⟩ => ?_)
  obtain ⟨a, ns, ob, rfl, hH, hcl, hdc, q1⟩ := q1
  cases r1
  obtain ⟨ho1, hz1, its1, rv1, pt1⟩ := I1.hok a _ hH
  refine ⟨"tuple", "tuple.index", PySem.F.plainAttrs_tuple, PySem.F.slot_tuple_index, PySem.F.type_tuple_index, ⟨ob, ho1, hcl⟩, fun b e2 => ?_, ?_⟩
  · cases e2
    exact ⟨ob, ho1, hdc⟩
  · have hA := ha.run cpos pins s1 σ H1 _ I1 q1
    rw [hs] at hA ⊢
    refine Calls.callWith_builtin (by rfl) (Calls.evalArgs_plain ?_)
    refine thn hA fun us s2 ⟨vs, H2, I2, r2, q2⟩ => ?_
    obtain ⟨k, rfl, hk, hH2, q⟩ := q2
    obtain ⟨u, rfl, t, rfl⟩ := vals1 r2
    obtain ⟨_, hz2, its2, rv2, pt2⟩ := I2.hok a _ hH2
    exact SeqAt.call_tuple_index (show s2.heap.IsTuple a its2.toArray from pt2) (SeqAt.ItemsEq.ints (ints_of_vals rv2)) hk ⟨.int _, H2, I2.tok _, ⟨_, rfl⟩, q⟩
end
end L2
namespace Fx
open PySem L2
section
variable {c : SC} {δ : Dl} {M : List MO} {Post : AQ} {e o : Expr} {es : List Expr} {apos pos : Pos} {k : Nat}
/-- a known tuple is a tuple -/
theorem x_tx (h : EvX c δ M e fun a M1 => ∃ ds, a = .tx ds ∧ Post (.dat (.tup ds)) M1) : EvX c δ M e Post := fun y σ H ad he hs Q q =>
  h y σ H ad he hs Q fun v H1 ad1 a M1 n1 s1 r1 ⟨ds, ea, p1⟩ => by
    subst ea
    obtain ⟨pp, xs, rfl, hx, rr⟩ := r1
    exact q _ H1 ad1 (.dat (.tup ds)) M1 n1 s1 ⟨pp, xs, rfl, hx.sq, rr⟩ p1
theorem x_tupX (h : EvA c δ M es fun as M1 => ∃ ds, DatsAre as ds ∧ ds.length ≤ 1000000 ∧ Post (.tx ds) M1) : EvX c δ M (.Tuple es k pos) Post := fun y σ H ad he hs Q q =>
  ⟨_, pe_tupX9 wA_ok, h y σ H ad he hs _ fun vs H1 ad1 as M1 n1 s1 r1 ⟨ds, hd, hl, p1⟩ => by
    have rr := hd.reps r1
    refine ⟨by rw [rr.length]; exact Nat.le_trans hl (by decide), fun p ob hp h1 h2 => ?_⟩
    have sm := same_new (o := .frz ob (.tup vs)) hp
    exact q _ _ ad1 (.tx ds) M1 (n1.trans (Nx.same sm)) (s1.same sm) ⟨p, vs, rfl, ⟨ob, upd_same, h1, h2⟩, rr.tx (Tx.same sm)⟩ p1⟩
theorem b_catX {ds es : List D} (hl : ds.length + es.length ≤ 1000000) (h : Post (.tx (ds ++ es)) M) : BinR c (binaryOp .Add) (.tx ds) (.tx es) M Post :=
  fun z H ad hs vx vy ⟨a, xs, ea, qa, ra⟩ ⟨b, ys, eb, qb, rb⟩ Q q => by
    refine ⟨_, op_catX9, a, b, xs, ys, ea, eb, qa.sq, qb.sq, by rw [ra.length, rb.length]; exact Nat.le_trans hl (by decide), fun e => ?_, fun _ e => ?_, fun _ _ p ob hp h1 h2 => ?_⟩
    · subst e
      have e2 : ds = [] := by cases ds with | nil => rfl | cons d r => exact absurd ra.length (by simp)
      subst e2
      exact q _ H ad (.tx es) M Nx.refl hs ⟨b, ys, rfl, qb, rb⟩ h
    · subst e
      have e2 : es = [] := by cases es with | nil => rfl | cons d r => exact absurd rb.length (by simp)
      subst e2
      rw [List.append_nil] at h
      exact q _ H ad (.tx ds) M Nx.refl hs ⟨a, xs, rfl, qa, ra⟩ h
    · have sm := same_new (o := .frz ob (.tup (xs ++ ys))) hp
      exact q _ _ ad (.tx (ds ++ es)) M (Nx.same sm) (hs.same sm) ⟨p, _, rfl, ⟨ob, upd_same, h1, h2⟩, (ra.append rb).tx (Tx.same sm)⟩ h
theorem ca_tupleX {v : AV} {ds : List D} (hv : IsL M v ds) (h : Post (.tx ds) M) : CallA c (.type "tuple") [v] M Post := fun z H ad hs vs r Q q => by
  obtain ⟨u, rfl, ru⟩ := repAs1 r
  obtain ⟨pp, xs, rfl, hq, rr⟩ := hv.sq hs ru
  refine ⟨_, call_tupleX9, pp, xs, rfl, hq, fun l ob hn h1 h2 => ?_⟩
  have sm := same_new (o := .frz ob (.tup xs)) hn
  exact q _ _ ad (.tx ds) M (Nx.same sm) (hs.same sm) ⟨l, xs, rfl, ⟨ob, upd_same, h1, h2⟩, rr.tx (Tx.same sm)⟩ h
/-- t.index(e) -/
theorem x_tindex (h : EvX c δ M o fun v M1 => ∃ ns : List Int, v = .tx (ns.map .int) ∧ EvA c δ M1 [e] fun ws M2 => ∃ k : Int, ws = [.dat (.int k)] ∧ k ∈ ns ∧ Post (.dat (.int (ns.idxOf k : Nat))) M2)
    (hbase : ∀ env, attributeBase o "index" env (eval o env) = eval o env)
    (hfew : ∀ env, ((backTo pos (starEach [e] env)).all (fun x => !x.1) && (backToKw pos (keywordEach [] env)).all (fun x => x.1.isSome) && decide ([e].length + ([] : List Keyword).length + (if ([] : List Keyword).isEmpty then 0 else 1) < 30)) = true)
    (hline : (apos.endLine == pos.line) = true) (hst : ∀ env, starEach [e] env = (false, eval e env) :: starEach [] env) : EvX c δ M (.Call (.Attribute o "index" apos) [e] [] pos) Post := fun y σ H ad he hs Q q =>
  ⟨_, pe_tindex9 wE_ok wA_ok (hbase y.env) (hfew y.env) hline (hst y.env), h y σ H ad he hs _ fun v H1 ad1 a1 M1 n1 s1 r1 ⟨ns, e1, p1⟩ => by
    subst e1
    obtain ⟨a, xs, rfl, ⟨ob, hH, hc, hd⟩, rr⟩ := r1
    rw [reps_ints.mp rr] at hH
    refine ⟨a, ns, ob, rfl, hH, hc, hd, p1 y σ H1 ad1 (he.nx n1) s1 _ fun ws H2 ad2 as M2 n2 s2 r2 ⟨k, e2, hk, p2⟩ => ?_⟩
    subst e2
    obtain ⟨w, rfl, rw'⟩ := repAs1 r2
    exact ⟨k, by rw [show w = .int k from rw'], hk, n2.tx.frz _ _ _ hH, q _ H2 ad2 (.dat (.int (ns.idxOf k : Nat))) M2 (n1.trans n2) s2 rfl p2⟩⟩
end
end Fx

/-! Fx, part T: sorted(x) of a list or a tuple of alike data; min(x) and max(x) of a list of such. -/
namespace Fx
open PySem L2
section
variable {K : PySem.W.Frag} {H : Hp} {β : Type} {enc : β → D}
/-- what an item stands for -/
def StdT (K : PySem.W.Frag) (H : Hp) (enc : β → D) (v : Value) (b : β) : Prop := ∃ x, RelV x v ∧ Rep K H (enc b) x
theorem each_of_reps : ∀ {bs : List β} {xs : List V} {its : List Value}, Vals xs its → Reps K H (bs.map enc) xs → PySem.W.EachIs (StdT K H enc) its bs
  | [], _, _, r, h => by
    cases (show _ = [] from h)
    cases r
    exact .nil
  | b :: bs, _, _, r, ⟨x, t, e, h1, h2⟩ => by
    subst e
    cases r with
    | cons r1 r2 => exact .cons ⟨x, r1, h1⟩ (each_of_reps r2 h2)
theorem reps_of_each : ∀ {bs : List β} {its : List Value}, PySem.W.EachIs (StdT K H enc) its bs → ∃ xs, Vals xs its ∧ Reps K H (bs.map enc) xs
  | _, _, .nil => ⟨[], .nil, rfl⟩
  | _, _, .cons ⟨x, r1, h1⟩ t => by
    obtain ⟨xs, r2, h2⟩ := reps_of_each t
    exact ⟨x :: xs, .cons r1 r2, x, xs, rfl, h1, h2⟩
end
section
variable {X : Cx} {β : Type}
def leD (enc : β → D) : β → β → Bool := PySem.W.dataLe false fun b => (enc b).py
def SortOk (enc : β → D) (bs : List β) : Prop := PySem.W.AllAlike (bs.map fun b => (enc b).py) ∧ PySem.W.Sortable (bs.map fun b => (enc b).py) ∧ ∀ b ∈ bs, (enc b).py.depth ≤ 60
open PySem.W PyProof.Rows in
theorem call_sortedD9 (enc : β → D) (hu : X.A.units + 65 < cLine) : CallR X (.builtin "sorted") (fun vs H Q => ∃ a xs bs, vs = [V.ref a] ∧ (SqL X.K H a xs ∨ SqT X.K H a xs) ∧ Reps X.K H (bs.map enc) xs ∧ SortOk enc bs ∧
    ∀ xs' p, Reps X.K H ((bs.mergeSort (leD enc)).map enc) xs' → H p = none → Q (.ref p) (upd H p (.lst xs'))) := by
  intro pins s σ H vs us Q I r h
  obtain ⟨a, xs, bs, rfl, hq, hr, ⟨hal, hsb, hdp⟩, q⟩ := h
  rw [Vals.ref1 r]
  have there : ∃ (its : List Value) (o : Obj) (T : String) (n : Nat), Vals xs its ∧ s.heap.get? a = some o ∧ o.cls = .type T ∧ (T = "list" ∨ T = "tuple") ∧ o.data = .seq its.toArray n ∧ xs.length ≤ sizeLine := by
    rcases hq with hq | hq
    · obtain ⟨its, r', pl, hz⟩ := I.list hq
      obtain ⟨o, ho, hc, n, hd⟩ := pl.isList
      exact ⟨its, o, _, n, r', ho, hc, .inl rfl, hd, hz⟩
    · obtain ⟨its, r', pl, hz⟩ := I.tuple hq
      obtain ⟨o, ho, hc, n, hd⟩ := pl
      exact ⟨its, o, _, n, r', ho, hc, .inr rfl, hd, hz⟩
  obtain ⟨its, o, T, n, rv, ho, hc, hT, hd, hz⟩ := there
  have hlen := rv.length
  have hL : its.length ≤ sizeLine := by omega
  have each := each_of_reps rv hr
  have elen : its.length = bs.length := by rw [← hlen, hr.length, List.length_map]
  refine Calls.call_function_entry kind_sorted plain_sorted entry_sorted (args_sorted1 _) ?_
  unfold Builtin.«sorted»
  refine wpAny_bind (m := checkCount "sorted" 1 1 _) (wpAny_pure ?_)
  refine wpAny_bind (wpAny_collect_seq a hT ho hc hd (fun h' kp => ?_) (by rw [List.size_toArray]; exact hL))
  refine wpAny_bind (wpAny_newList ?_ (by simpa using hL))
  rw [show its.toArray.toList = its by simp]
  have I1 : Inv X pins σ H { s with heap := h' } := I.kept (t' := s.toks) kp
  have hoL : (h'.push (seqObj "list" its.toArray 0)).get? h'.objs.size = some (seqObj "list" its.toArray 0) := Heap.get?_push_size _ rfl
  show wpAny _ _ _ _ _ { s with heap := h'.push (seqObj "list" its.toArray 0) }
  have er : EachIs (fun v b => ∃ as, Reads (sortingHeap (h'.push (seqObj "list" its.toArray 0)) h'.objs.size its) v (enc b).py as) its bs := each.mono fun v b ⟨x, rx, hx⟩ => by
    obtain ⟨as, hR⟩ := Dp.reads I1 _ _ _ (rep_dp hx) rx
    exact ⟨as, PyProof.Rows.Reads.keeps (fun b o e => sortingHeap_old (Nat.ne_of_lt (Heap.lt_size e)) (Heap.get?_push_of_some _ e)) hR⟩
  refine wpAny_bind (wpAny_holding (wpAny_call_entry slot_list_sort ⟨_, hoL, rfl⟩ entry_list_sort (list_sort_vals (s := { s with heap := h'.push (seqObj "list" its.toArray 0) }) (κ := dataKind (sortingHeap (h'.push (seqObj "list" its.toArray 0)) h'.objs.size its) (bs.map fun b => (enc b).py)) hoL
    (SortsAt.data (s := { s with heap := sortingHeap (h'.push (seqObj "list" its.toArray 0)) h'.objs.size its }) (each_map (R := fun v d => ∃ as, Reads (sortingHeap (h'.push (seqObj "list" its.toArray 0)) h'.objs.size its) v d as) (fun b => (enc b).py) er) hal hsb (bound_map fun b hb => ?dep)) hL ⟨_, rfl, ?ret⟩) (args_list_sort _)))
  case dep =>
    have := hdp b hb
    show X.A.units + 2 + _ < _
    omega
  case ret =>
    refine wpAny_pure ⟨_, rfl, ?_⟩
    have res := sortVals_data false each er hal
    obtain ⟨xs', r2, h2⟩ := reps_of_each res
    obtain ⟨ep, he'⟩ := sortedHeap_at (vs := its) (out := (sortVals (dataKind (sortingHeap (h'.push (seqObj "list" its.toArray 0)) h'.objs.size its) (bs.map fun b => (enc b).py)) false its its).toArray) hoL
    have l2 : xs'.length ≤ sizeLine := by
      rw [h2.length, List.length_map, List.length_mergeSort, ← elen]
      exact hL
    refine ⟨.ref _, upd H h'.objs.size (.lst xs'), I1.laid (t' := s.toks) (fun b o e => ?_) (Nat.le_refl _) ⟨l2, _, ep, r2, he'⟩, rfl, q xs' _ h2 (I1.hok.fresh (Nat.le_refl _))⟩
    have lt := Heap.lt_size e
    rw [sortedHeap_old (Nat.ne_of_lt lt) (by rw [size_push']; exact Nat.lt_succ_of_lt lt)]
    exact Heap.get?_push_of_some _ e
end
section
variable {c : SC} {M : List MO} {Pf : List D → List MO → Prop} {β : Type}
theorem cf_sortedD (enc : β → D) {v : AV} {bs : List β} (hv : IsL M v (bs.map enc) ∨ v = .dat (.tup (bs.map enc))) (hs : SortOk enc bs) (h : Pf ((bs.mergeSort (leD enc)).map enc) M) : CallF c (.builtin "sorted") [v] M Pf := fun z H ad st vs r Q q => by
  obtain ⟨u, rfl, ru⟩ := repAs1 r
  have un : z.A.units + 65 < cLine := by have := z.room.un; omega
  rcases hv with hv | rfl
  · obtain ⟨pp, xs, rfl, hq, rr⟩ := hv.sq st ru
    refine ⟨_, call_sortedD9 enc un, pp, xs, bs, rfl, .inl hq, rr, hs, fun xs' p h2 hn => ?_⟩
    have sm := same_new (o := .lst xs') hn
    exact q p _ _ ad _ M (Nx.same sm) (st.same sm) hn (st.free hn) upd_same (h2.tx (Tx.same sm)) h
  · obtain ⟨pp, xs, rfl, hq, rr⟩ := ru
    refine ⟨_, call_sortedD9 enc un, pp, xs, bs, rfl, .inr hq, rr, hs, fun xs' p h2 hn => ?_⟩
    have sm := same_new (o := .lst xs') hn
    exact q p _ _ ad _ M (Nx.same sm) (st.same sm) hn (st.free hn) upd_same (h2.tx (Tx.same sm)) h
end
section
variable {X : Cx}
theorem op_inDT9 (hu : X.A.units + 65 < cLine) : OpR X (compareOp .In) (fun x y H Q => ∃ d ds, Dp X.K H x d ∧ Dp X.K H y (.tuple ds) ∧ SeqAt.shaped d = true ∧ SeqAt.shaped (.tuple ds) = true ∧ Q (.bl (ds.any fun z => PyData.eqv z d)) H) := by
  intro pins s σ H x y v u Q I rx ry h
  obtain ⟨d, ds, hd, he, sd, se, q⟩ := h
  obtain ⟨as, r1⟩ := Dp.reads I d x v hd rx
  obtain ⟨bs, r2⟩ := Dp.reads I (.tuple ds) y u he ry
  exact SeqAt.in_tuple_reads r2 r1 (SeqAt.canLay_of_shaped se) (SeqAt.canLay_of_shaped sd) (PyProof.Rows.room_in_shaped sd hu) ⟨.bl _, H, I, rfl, q⟩
end
section
variable {c : SC} {M : List MO} {B : Bool → List MO → Prop}
theorem c_inTT {t : List Int} {ts : List (List Int)} (h : B (decide (t ∈ ts)) M) : CmpR c .In (.dat (tI t)) (.dat (tII ts)) M B := fun z H ad st vx vy rx ry Q q => by
  have dy : Dp c.K H vy (.tuple (pys (ts.map tI))) := rep_dp (d := tII ts) ry
  refine ⟨_, op_inDT9 (by have := z.room.un; show z.A.units + 65 < cLine; omega), _, _, rep_dp rx, dy, okD_shaped (ok_tI 0 t) (by decide), okD_shaped (d := tII ts) (ok_tII 0 ts) (by decide), ?_⟩
  rw [any_tI]
  exact q _ H ad M Nx.refl st h
end
/-! min(x) of a list of data -/
theorem minD_mem : ∀ (xs : List PyData) (x : PyData), PySem.W.minD x xs ∈ x :: xs
  | [], x => List.mem_cons_self
  | y :: ys, x => by
    have e : PySem.W.minD x (y :: ys) = PySem.W.minD (if PySem.W.dataLt y x then y else x) ys := rfl
    rw [e]
    rcases List.mem_cons.mp (minD_mem ys (if PySem.W.dataLt y x then y else x)) with h | h
    · rw [h]
      split
      · exact List.mem_cons_of_mem _ List.mem_cons_self
      · exact List.mem_cons_self
    · exact List.mem_cons_of_mem _ (List.mem_cons_of_mem _ h)
theorem minD_le : ∀ (xs : List PyData) (x : PyData), ∀ z ∈ x :: xs, PySem.W.dataLt z (PySem.W.minD x xs) = false := by
  let O : PyProof.Rows.KeyOrd := PyProof.Rows.listOrd PyProof.Rows.itemOrd
  have lt : ∀ a b, PySem.W.dataLt a b = O.blt (PySem.W.keyToks a) (PySem.W.keyToks b) := fun _ _ => rfl
  intro xs
  induction xs with
  | nil =>
    intro x z hz
    rw [List.mem_singleton.mp hz]
    exact O.irrefl _
  | cons y ys ih =>
    intro x z hz
    have e : PySem.W.minD x (y :: ys) = PySem.W.minD (if PySem.W.dataLt y x then y else x) ys := rfl
    rw [e]
    have h0 := ih (if PySem.W.dataLt y x then y else x)
    have ha := h0 _ List.mem_cons_self
    have hx : PySem.W.dataLt x (if PySem.W.dataLt y x then y else x) = false := by
      split
      · rename_i h
        exact PyProof.Rows.KeyOrd.klt_asymm (O := O) h
      · exact O.irrefl _
    have hy : PySem.W.dataLt y (if PySem.W.dataLt y x then y else x) = false := by
      split
      · exact O.irrefl _
      · rename_i h
        simpa using h
    rcases List.mem_cons.mp hz with rfl | hz
    · exact PyProof.Rows.KeyOrd.kle_trans (O := O) ha hx
    · rcases List.mem_cons.mp hz with rfl | hz
      · exact PyProof.Rows.KeyOrd.kle_trans (O := O) ha hy
      · exact h0 z (List.mem_cons_of_mem _ hz)
theorem depthAll_le {n : Nat} : ∀ {ds : List PyData}, (∀ d ∈ ds, d.depth ≤ n) → PyData.depthAll ds ≤ n
  | [], _ => by simp [PyData.depthAll]
  | d :: ds, h => by
    rw [PyData.depthAll]
    exact Nat.max_le.mpr ⟨h d List.mem_cons_self, depthAll_le fun d' h' => h d' (List.mem_cons_of_mem _ h')⟩
theorem pys_enc {β : Type} (enc : β → D) : ∀ bs : List β, pys (bs.map enc) = bs.map fun b => (enc b).py
  | [] => rfl
  | b :: bs => by
    show (enc b).py :: pys (bs.map enc) = _
    rw [pys_enc enc bs]
    rfl
section
variable {X : Cx} {β : Type}
theorem call_minD9 (enc : β → D) (hc : X.calm = true) (hu : X.A.units + 65 < cLine) : CallR X (.builtin "min") (fun vs H Q => ∃ a xs bs, vs = [V.ref a] ∧ SqL X.K H a xs ∧ Reps X.K H (bs.map enc) xs ∧ bs ≠ [] ∧ SortOk enc bs ∧ (∀ b ∈ bs, (enc b).py ≠ .none) ∧
    ∀ (i : Nat) (b : β) (x : V), bs[i]? = some b → xs[i]? = some x → (∀ b' ∈ bs, PySem.W.dataLt (enc b').py (enc b).py = false) → Q x H) := by
  intro pins s σ H vs us Q I r h
  obtain ⟨a, xs, bs, rfl, hq, hr, hne, ⟨hal, _, hdp⟩, hnn, q⟩ := h
  rw [Vals.ref1 r]
  obtain ⟨its, rv, pl, hz⟩ := I.list hq
  have hd := reps_dp hr
  rw [pys_enc] at hd
  obtain ⟨as, hR⟩ := Dp.readsAll I _ _ its hd rv
  cases bs with
  | nil => exact absurd rfl hne
  | cons b0 bs =>
    have ha : PySem.W.AlikeAll ((enc b0).py :: bs.map fun b => (enc b).py) := ⟨fun x hx y hy => hal x hx y hy, fun x hx => by
      obtain ⟨b, hb, rfl⟩ := List.mem_map.mp (show x ∈ (b0 :: bs).map fun b => (enc b).py from hx)
      exact hnn b hb⟩
    have dl : PyData.depthAll ((enc b0).py :: bs.map fun b => (enc b).py) ≤ 60 := depthAll_le fun d hd => by
      obtain ⟨b, hb, rfl⟩ := List.mem_map.mp (show d ∈ (b0 :: bs).map fun b => (enc b).py from hd)
      exact hdp b hb
    refine PySem.W.min_list_data (I.ok.hd hc) (vs := its.toArray) pl.isList (x := (enc b0).py) (xs := bs.map fun b => (enc b).py) (by rw [List.toList_toArray]; exact hR) ha (by omega) fun i v h' tk as' hv hrd hk => ?_
    have hv' : its[i]? = some v := by simpa using hv
    have lx := rv.length
    have hil : i < xs.length := by rw [lx]; exact (List.getElem?_eq_some_iff.mp hv').1
    have hx : xs[i]? = some xs[i] := List.getElem?_eq_getElem hil
    obtain ⟨u, hu', ru⟩ := rv.get hx
    rw [hv'] at hu'
    cases hu'
    obtain ⟨d, hd1, rd⟩ := hr.get' hx
    rw [List.getElem?_map] at hd1
    cases hbi : (b0 :: bs)[i]? with
    | none => rw [hbi] at hd1; cases hd1
    | some b =>
      rw [hbi] at hd1
      cases hd1
      obtain ⟨as2, r2⟩ := Dp.reads I _ _ _ (rep_dp rd) ru
      have hb := List.mem_of_getElem? hbi
      have e : PySem.W.minD (enc b0).py (bs.map fun b => (enc b).py) = (enc b).py :=
        PySem.W.alike_unique _ _ _ _ _ (hal _ (minD_mem _ _) _ (List.mem_map.mpr ⟨b, hb, rfl⟩)) hrd (PyProof.Rows.Reads.keeps hk r2)
      refine ⟨xs[i], H, I.kept hk, ru, q i b _ hbi hx fun b' hb' => ?_⟩
      rw [← e]
      exact minD_le _ _ _ (show (enc b').py ∈ (b0 :: bs).map fun b => (enc b).py from List.mem_map.mpr ⟨b', hb', rfl⟩)
end
section
variable {c : SC} {M : List MO} {Post : AQ} {β : Type}
theorem ca_minD (enc : β → D) {v : AV} {bs : List β} (hv : IsL M v (bs.map enc)) (hne : bs ≠ []) (hs : SortOk enc bs) (hnn : ∀ b ∈ bs, (enc b).py ≠ .none) (h : ∀ b ∈ bs, (∀ b' ∈ bs, PySem.W.dataLt (enc b').py (enc b).py = false) → Post (.dat (enc b)) M) : CallA c (.builtin "min") [v] M Post := fun z H ad st vs r Q q => by
  obtain ⟨u, rfl, ru⟩ := repAs1 r
  obtain ⟨pp, xs, rfl, hq, rr⟩ := hv.sq st ru
  refine ⟨_, call_minD9 enc rfl (by have := z.room.un; show z.A.units + 65 < cLine; omega), pp, xs, bs, rfl, hq, rr, hne, hs, hnn, fun i b x hb hx hle => ?_⟩
  obtain ⟨d, hd, rd⟩ := rr.get' hx
  rw [List.getElem?_map, hb] at hd
  cases hd
  exact q x H ad (.dat (enc b)) M Nx.refl st rd (h b (List.mem_of_getElem? hb) hle)
end
/-! rows of ints -/
theorem leD_tI : leD tI = fun a b => decide (a ≤ b) := by
  funext p q
  show (!PySem.W.dataLt (tI q).py (tI p).py) = _
  have e : ∀ t : List Int, (tI t).py = .tuple (t.map .int) := fun t => by
    show PyData.tuple (pys (t.map D.int)) = _
    have : ∀ t : List Int, pys (t.map D.int) = t.map .int := fun t => by
      induction t with
      | nil => rfl
      | cons x t ih => show D.py (.int x) :: pys (t.map D.int) = _; rw [ih]; rfl
    rw [this]
  rw [e, e, PySem.W.dataLt_tuple]
  show (!PySem.W.rowLt (q.map .int) (p.map .int)) = _
  rw [PySem.W.dataLt_ints]
  by_cases h : q < p
  · have h' : ¬ p ≤ q := fun r => List.not_lt.mpr r h
    simp [h, h']
  · have h' : p ≤ q := List.not_lt.mp h
    simp [h, h']
theorem tI_py (t : List Int) : (tI t).py = .tuple (t.map .int) := by
  show PyData.tuple (pys (t.map D.int)) = _
  have : ∀ t : List Int, pys (t.map D.int) = t.map .int := fun t => by
    induction t with
    | nil => rfl
    | cons x t ih => show D.py (.int x) :: pys (t.map D.int) = _; rw [ih]; rfl
  rw [this]
theorem sortOk_rows {ts : List (List Int)} (h : ∀ t ∈ ts, t ≠ []) : SortOk tI ts := by
  refine ⟨fun d hd d' hd' => ?_, .inl fun d hd => ?_, fun b hb => ?_⟩
  · obtain ⟨b, _, rfl⟩ := List.mem_map.mp hd
    obtain ⟨b', _, rfl⟩ := List.mem_map.mp hd'
    simp only [tI_py, PySem.W.alike]
    exact PySem.W.alike_ints _ _
  · obtain ⟨b, hb, rfl⟩ := List.mem_map.mp hd
    cases b with
    | nil => exact absurd rfl (h _ hb)
    | cons x r => exact ⟨_, _, tI_py _⟩
  · rw [tI_py]
    simp [PyData.depth, PySem.W.depth_ints]
def sortR (ts : List (List Int)) : List (List Int) := ts.mergeSort (fun a b => decide (a ≤ b))
theorem sortR_perm (ts : List (List Int)) : (sortR ts).Perm ts := List.mergeSort_perm _ _
theorem sortR_eq {a b : List (List Int)} : sortR a = sortR b ↔ a.Perm b := by
  constructor
  · intro h
    exact (sortR_perm a).symm.trans (h ▸ sortR_perm b)
  · intro h
    have tr : ∀ x y z : List Int, decide (x ≤ y) = true → decide (y ≤ z) = true → decide (x ≤ z) = true := fun x y z h1 h2 => by
      simp only [decide_eq_true_eq] at *
      exact List.le_trans h1 h2
    have tt : ∀ x y : List Int, (decide (x ≤ y) || decide (y ≤ x)) = true := fun x y => by
      rcases List.le_total x y with h | h <;> simp [h]
    have p1 := List.pairwise_mergeSort tr tt a
    have p2 := List.pairwise_mergeSort tr tt b
    refine List.Perm.eq_of_pairwise ?_ p1 p2 ((sortR_perm a).trans (h.trans (sortR_perm b).symm))
    intro x y _ _ h1 h2
    simp only [decide_eq_true_eq] at h1 h2
    exact List.le_antisymm h1 h2
section
variable {c : SC} {M : List MO} {Pf : List D → List MO → Prop}
theorem cf_sortedR {v : AV} {ts : List (List Int)} (hv : IsL M v (ts.map tI) ∨ v = .dat (tII ts)) (hn : ∀ t ∈ ts, t ≠ []) (h : Pf ((sortR ts).map tI) M) : CallF c (.builtin "sorted") [v] M Pf :=
  cf_sortedD tI hv (sortOk_rows hn) (by rw [leD_tI]; exact h)
end
end Fx

/-! Fx, part Y: lambdas; max(x, key=lambda ..). -/
namespace L2
open PySem PySem.Spec PyProof.Rows LamX
/-- a lambda's names: its parameters, what it captures, globals -/
structure LamS9 (sc scope : Scope) : Prop where
  kind : scope.kind = .function
  co : scope.isCoroutine = false
  gen : scope.isGenerator = false
  own : ∀ y ∈ scope.names, y.2 ≠ .cell
  free : ∀ y ∈ scope.names, y.2 = .free → sc.names.lookup y.1 = some .cell ∨ sc.names.lookup y.1 = some .free
def lamSB9 (sc scope : Scope) : Bool :=
  decide (scope.kind = .function) && !scope.isCoroutine && !scope.isGenerator && scope.names.all fun y => !decide (y.2 = .cell) && (!decide (y.2 = .free) || decide (sc.names.lookup y.1 = some .cell) || decide (sc.names.lookup y.1 = some .free))
theorem lamS_by9 {sc scope : Scope} (h : lamSB9 sc scope = true) : LamS9 sc scope := by
  unfold lamSB9 at h
  simp only [Bool.and_eq_true, Bool.or_eq_true, Bool.not_eq_true', decide_eq_true_eq, decide_eq_false_iff_not, List.all_eq_true] at h
  obtain ⟨⟨⟨h1, h2⟩, h3⟩, h4⟩ := h
  refine ⟨h1, h2, h3, fun y hy => (h4 y hy).1, fun y hy e => ?_⟩
  rcases (h4 y hy).2 with (z | z) | z
  · exact absurd e z
  · exact .inl z
  · exact .inr z
theorem LamS9.has {X : Cx} {scope : Scope} (L : LamS9 X.env.scope scope) (ok : X.Ok) : ∀ y ∈ scope.names, y.2 = .free → ∃ c, X.env.cells.lookup y.1 = some c := fun y hy e => by
  rcases L.free y hy e with k | k
  · exact ok.has _ (.inl k)
  · exact ok.has _ (.inr k)
section
variable {X : Cx} {pins : List (Addr × Obj)} {σ σ' : L2.St} {H : Hp} {s : Shared}
/-- the lambda is made; T is the one table that it needs -/
theorem lam_make9 {c P : Addr} {params : Arguments} {body : Expr} {scope : Scope} {pos : Pos} {E : Value → Shared → Prop} {Q : Value → Shared → Prop} (I : Inv X pins σ H s) (TB : TabB X.base X.mg c P) (hcode : X.env.code = .ref c)
    (hT : TabS H P (X.env.qual ++ "<lambda>")) (hdef : defaultsOf params X.env = ([], [])) (hfree : ∀ y ∈ scope.names, y.2 = .free → ∃ c, X.env.cells.lookup y.1 = some c)
    (h : ∀ (f c' : Addr) (pm ctv : Value) (H1 : Hp) (s' : Shared), Inv X pins σ H1 s' → (H1 = H ∨ ∃ ps, H c' = none ∧ (∃ qs, H P = some (.tbl qs)) ∧ H1 = upd (upd H P (.tbl ps)) c' (CodeO c' (X.env.qual ++ "<lambda>"))) → TabS H1 P (X.env.qual ++ "<lambda>") →
      s'.heap.get? f = some (PySem.W.kla_obj "<lambda>" (X.env.qual ++ "<lambda>") params body scope (cloFrom X.env.cells scope.names []) pm c' ctv) → H1 f = none → f ∉ frs X.stack → H1 c' = some (CodeO c' (X.env.qual ++ "<lambda>")) → Q (.ref f) s') :
    wpAny (model X.prog X.w) X.A (eval (.Lambda params body scope pos) X.env) Q E s := by
  obtain ⟨ps, hP, ht, ha⟩ := hT
  refine PySem.W.kla_eval hdef ?_
  have bP : s.heap.BuiltinsAt X.mg P := TB.bm.keeps I.bk
  have hP' : s.heap.get? P = some { cls := .none, data := .fields ps } := I.hok P _ hP
  have nofr : ∀ f, s.heap.objs.size ≤ f → f ∉ frs X.stack := fun f hf z => by
    rcases List.mem_cons.mp (I.stkSub _ z) with e | e
    · have h1 := I.lt
      rw [← e] at h1
      exact Nat.lt_irrefl _ (Nat.lt_of_lt_of_le h1 hf)
    · exact I.nofs hf e
  cases hc : codeAmong pos ps.toList with
  | none =>
    refine PySem.W.kla_makeFunction (mg := X.mg) (c := c) (P := P) (ps := ps) (closure_ok hfree) I.ok.glob (I.mod.glob.keeps I.bk) hcode (TB.code.keeps I.bk) hP' ht hc TB.gP bP fun c' ctv h' tk hx hge hlt hrec htb => ?_
    obtain ⟨c2, oc, vs, t, e2, hoc, hd, hv⟩ := hrec
    cases e2
    have hsz : s.heap.objs.size ≤ h'.objs.size := Nat.le_trans hge (Nat.le_of_lt hlt)
    have nC : H c' = none := I.hok.fresh hge
    have I1 := inv_table (t' := tk) (more := #[rawInt pos.line, rawInt pos.col, .ref c']) (h' := h'.push (PySem.W.kla_obj "<lambda>" (X.env.qual ++ "<lambda>") params body scope (cloFrom X.env.cells scope.names []) ((X.mg "__name__").getD .none) c' ctv)) I hP
      (fun b o hb e => Heap.get?_push_of_some _ (hx b o hb e)) (Heap.get?_push_of_some _ htb) hge ⟨oc, vs, t, Heap.get?_push_of_some _ hoc, hd, hv⟩
    have hE : ∀ b o, H b = some o → (∀ ps, o ≠ .tbl ps) → (upd (upd H P (.tbl (ps ++ #[rawInt pos.line, rawInt pos.col, .ref c']))) c' (CodeO c' (X.env.qual ++ "<lambda>"))) b = some o := fun b o e n => by
      rw [upd_ne (ne_of_none e nC), upd_ne (fun z => n ps (Option.some.inj (e.symm.trans (by rw [z]; exact hP))))]
      exact e
    have eL : (ps ++ #[rawInt pos.line, rawInt pos.col, .ref c']).toList = ps.toList ++ [rawInt pos.line, rawInt pos.col, .ref c'] := by simp
    refine h h'.objs.size c' ((X.mg "__name__").getD .none) ctv _ _ I1 (.inr ⟨_, nC, ⟨ps, hP⟩, rfl⟩) ?_ (Heap.get?_push_size _ rfl) ?_ (nofr _ hsz) upd_same
    · refine ⟨_, by rw [upd_ne (ne_of_none hP nC), upd_same], by rw [eL]; exact PySem.TriplesOk_snoc _ _ _ _ ht, fun p' cv hcv => ?_⟩
      rw [eL] at hcv
      rcases among_app _ ht hcv with z | z
      · obtain ⟨c0, e1, e2⟩ := ha p' cv z
        exact ⟨c0, e1, hE _ _ e2 codeO_ne⟩
      · exact ⟨c', z, upd_same⟩
    · have n1 : h'.objs.size ≠ c' := Nat.ne_of_gt hlt
      have n2 : h'.objs.size ≠ P := Nat.ne_of_gt (Nat.lt_of_lt_of_le (Heap.lt_size hP') hsz)
      rw [upd_ne n1, upd_ne n2]
      exact I.hok.fresh hsz
  | some cv =>
    obtain ⟨c', e, hco⟩ := ha pos cv hc
    subst e
    refine PySem.W.kla_makeFunctionHit (mg := X.mg) (c := c) (P := P) (ps := ps) (closure_ok hfree) I.ok.glob (I.mod.glob.keeps I.bk) hcode (TB.code.keeps I.bk) hP' ht hc bP fun ctv h' tk hx hsz => ?_
    have I1 : Inv X pins σ H { s with heap := h'.push (PySem.W.kla_obj "<lambda>" (X.env.qual ++ "<lambda>") params body scope (cloFrom X.env.cells scope.names []) ((X.mg "__name__").getD .none) c' ctv), toks := tk } := I.kept fun b o e => Heap.get?_push_of_some _ (hx b o e)
    exact h h'.objs.size c' ((X.mg "__name__").getD .none) ctv H _ I1 (.inl rfl) ⟨ps, hP, ht, ha⟩ (Heap.get?_push_size _ rfl) (I.hok.fresh hsz) (nofr _ hsz) hco
/-- its body begins -/
theorem lam_start9 {A : Around} {E : XK} {scope : Scope} {f c' : Addr} {h₁ : Heap} {tk : Nat} {bm : Str → Option Value} (I : Inv X pins σ H s) (L : LamS9 X.env.scope scope) (hA : A.frames = X.A.frames) (hd : A.handled = none)
    (hns : h₁.Ns s.heap.objs.size bm) (kp : ∀ b o, s.heap.get? b = some o → h₁.get? b = some o) (hl : σ'.length = σ.length)
    (hσ : ∀ (i : Nat) (y : Str) (v : V), X.N[i]? = some y → σ'[i]? = some (some v) → Vis scope y → (scope.names.lookup y = some .local ∧ ∃ u, RelV v u ∧ bm y = some u) ∨ (scope.names.lookup y = some .free ∧ σ[i]? = some (some v))) :
    Inv (lamCx X A X.stack s H E scope f c') [] σ' H { s with heap := h₁, toks := tk } := by
  have e0 : Env0 X.prog X.w X.K X.mg X.base A X.stack s H := by
    obtain ⟨a1, a2, a3, a4, a5, a6, a7, a8⟩ := I.env0
    exact ⟨hA.trans a1, a2, a3, a4, a5, a6, a7, a8⟩
  have hfree := L.has I.ok
  have cm : ∀ {y c}, (cloFrom X.env.cells scope.names []).lookup y = some c → X.env.cells.lookup y = some c := fun {y c} e => by
    rcases cloFrom_mem (PySem.mem_of_lookup e) with hm | ⟨h1, h2⟩
    · cases hm
    · obtain ⟨c1, hc⟩ := hfree _ h1 rfl
      have hc : X.env.cells.lookup y = some c1 := hc
      have e2 : c = c1 := by
        rw [h2, hc] <;> rfl
      rw [e2]
      exact hc
  have look : ∀ {y}, scope.names.lookup y = some .free → ∃ c, (cloFrom X.env.cells scope.names []).lookup y = some c := fun {y} hl => by
    have hy : (y, NameKind.free) ∈ scope.names := PySem.mem_of_lookup hl
    exact mem_lookup (cloFrom_has (cells := X.env.cells) (acc := []) hy)
  have cellK : ∀ {c : Addr} {v : Option Value}, s.heap.IsCell c v → h₁.IsCell c v := fun {c v} ⟨o, ho, hd⟩ => ⟨_, kp _ _ ho, hd⟩
  have noA : ∀ b : Addr, b ∉ (lamCx X A X.stack s H E scope f c').ex := fun b z => absurd (show b ∈ ([] : List Addr) from z) (by simp)
  refine ⟨⟨e0.mod, L.kind, rfl, rfl, Nat.le_refl _, fun y z c e1 e2 => I.ok.inj y z c (cm e1) (cm e2), fun y hy => ?_, fun y c z _ => ?_, fun _ => hd, Around.frames_deeper e0.frames, .inr ⟨rfl, rfl⟩, fun b z => absurd z (noA b), e0.bs, e0.bsz, fun b _ _ => noA b,
      fun b z => absurd z (noA b), e0.funs, e0.frf⟩,
    rfl, e0.bare, Un.kept kp, ⟨_, hns, fun i y v e1 e2 e3 => ?_⟩, fun y c e => ?_, e0.hok.fresh (Nat.le_refl _), fun y c e => ?_, fun q hq => absurd (show q ∈ ([] : List (Addr × Obj)) ++ [] from hq) (by simp), e0.hok.kept kp, hl.trans I.len⟩
  · have hy : scope.names.lookup y = some .cell ∨ scope.names.lookup y = some .free := hy
    rcases hy with hy | hy
    · exact absurd rfl (L.own _ (PySem.mem_of_lookup hy))
    · exact look hy
  · have z : false = true := z
    cases z
  · rcases hσ i y v e1 e2 e3 with ⟨k, u, ru, hb⟩ | ⟨k, e2'⟩
    · exact ⟨u, ru, .inl ⟨k, hb⟩⟩
    · obtain ⟨m, hn, hl⟩ := I.loc
      have hvis : Vis X.env.scope y := (L.free _ (PySem.mem_of_lookup k) rfl).elim (fun k => .inr (.inl k)) (fun k => .inr (.inr k))
      obtain ⟨w', r, q⟩ := hl i y v e1 e2' hvis
      obtain ⟨c2, h2⟩ := look k
      refine ⟨w', r, .inr ⟨.inr k, c2, h2, ?_⟩⟩
      have c1 := cm h2
      rcases q with ⟨k', _⟩ | ⟨_, c3, e', z⟩
      · have k' : X.env.scope.names.lookup y = some .local := k'
        rcases L.free _ (PySem.mem_of_lookup k) rfl with k2 | k2 <;> rw [show X.env.scope.names.lookup y = _ from k2] at k' <;> cases k'
      · rw [c1] at e'
        cases e'
        exact cellK z
  · obtain ⟨w', z⟩ := I.cell y c (cm e)
    exact ⟨w', cellK z⟩
  · obtain ⟨v, o, ho, hd⟩ := I.cell y c (cm e)
    exact I.freeC y c (cm e)
/-- the lambda called -/
theorem lam_call9 {A : Around} {E : XK} {params : Arguments} {body : Expr} {scope : Scope} {f c' : Addr} {pm ctv : Value} {args : List Value} {binds : List (Str × Value)} {k : Nat} {Q : VK} {tb : TE} (I : Inv X pins σ H s) (L : LamS9 X.env.scope scope) (hA : A.frames = X.A.frames)
    (hr : Room (k + 1) A) (hf : s.heap.get? f = some (PySem.W.kla_obj "<lambda>" (X.env.qual ++ "<lambda>") params body scope (cloFrom X.env.cells scope.names []) pm c' ctv)) (hc : H c' = some (CodeO c' (X.env.qual ++ "<lambda>")))
    (hbind : bindArgs (PySem.W.kla_fn "<lambda>" (X.env.qual ++ "<lambda>") params body scope (cloFrom X.env.cells scope.names []) pm (.ref c') ctv) ⟨args, []⟩ = pure binds) (hloc : ∀ y ∈ binds, scope.names.lookup y.1 = some .local) (hl : σ'.length = σ.length)
    (hσ : ∀ (i : Nat) (y : Str) (v : V), X.N[i]? = some y → σ'[i]? = some (some v) → Vis scope y → (scope.names.lookup y = some .local ∧ ∃ u, RelV v u ∧ binds.reverse.lookup y = some u) ∨ (scope.names.lookup y = some .free ∧ σ[i]? = some (some v)))
    (hbody : PE (lamCx X A X.stack s H E scope f c') body tb) (ht : tb σ' H Q) :
    codeAny (model X.prog X.w) A (.call (.ref f) ⟨args, []⟩) (CR (L2.CX X.prog X.w) X.stack X.prog X.w H s Q E) s := by
  obtain ⟨⟨oc, vs, t, hoc, hdc, hvc⟩, _, _⟩ := I.hok c' _ hc
  refine PySem.W.kla_callFunE hr.depth hf rfl L.co L.gen rfl ⟨c', oc, vs, t, rfl, hoc, hdc, hvc⟩ ?_
  rw [hbind]
  refine wpAny_pure (wpAny_newFunctionEnv (fun y hy => L.own y hy) hloc (fun h₁ hns hsb => ⟨I.nolimit.fresh _ hsb, ?_⟩) L.kind)
  show codeAny _ _ (.expr body (lamEnv X scope s.heap.objs.size f c')) _ _
  have kp : ∀ b o, s.heap.get? b = some o → h₁.get? b = some o := fun b o e => hsb.extBut b o (Nat.ne_of_lt (Heap.lt_size e)) (Heap.get?_push_of_some _ e)
  have J : Inv (lamCx X A X.stack s H E scope f c') [] σ' H { s with heap := h₁, toks := s.toks + binds.length } := lam_start9 I L hA hr.hd hns kp hl hσ
  refine PySem.W.kla_codeExpr (wpAny_mono (hbody.run [] _ _ H Q J ht) (fun v s' hq => ?_) fun e s' hq => hq)
  obtain ⟨w', H', J', rv, q⟩ := hq
  exact ⟨w', H', J'.os, J'.bare, J'.base, J'.hok, rv, q⟩
end
/-! ### max by a key -/
/-- from s0 on to s: the store's predicate J holds -/
structure At9 (P : Program) (w : World) (fr : List Env) (J : Hp → Prop) (s0 : Shared) (H0 : Hp) (s : Shared) (H : Hp) : Prop where
  os : s.os = s0.os
  bare : AllBare s.gens
  un : Un (frs fr) [] H0 H s0.heap s.heap
  hok : HOk P w H s.heap
  j : J H
section
variable {P : Program} {w : World} {fr : List Env} {J : Hp → Prop} {s0 s s1 : Shared} {H0 H H1 : Hp} {A : Around} {R : Result → Shared → Prop} {l f I S : Addr} {xs : List V}
/-- an object changes that nobody tracks and that was not there at s0 -/
theorem At9.but {b0 : Addr} {h' : Heap} {tk : Nat} (a : At9 P w fr J s0 H0 s H) (n0 : s0.heap.get? b0 = none) (nh : H b0 = none) (k : ∀ b o, b ≠ b0 → s.heap.get? b = some o → h'.get? b = some o) : At9 P w fr J s0 H0 { s with heap := h', toks := tk } H := by
  have ne : ∀ b o, s0.heap.get? b = some o → b ≠ b0 := fun b o e z => by rw [z, n0] at e; cases e
  refine ⟨a.os, a.bare, ⟨fun b o e n h1 h2 => k b o (ne b o e) (a.un.keep b o e n h1 h2), fun b o e n h1 h2 => ?_, a.un.free, fun b o e h2 => ?_, a.un.tups, a.un.frzs, a.un.tbls⟩, fun b o e => ?_, a.j⟩
  · obtain ⟨sl, q⟩ := a.un.slot b o e n h1 h2
    exact ⟨sl, k b _ (ne b o e) q⟩
  · obtain ⟨o', q⟩ := a.un.there b o e h2
    exact ⟨o', k b _ (ne b o e) q⟩
  · have hb : b ≠ b0 := fun z => by rw [z, nh] at e; cases e
    refine (a.hok b o e).stay (fun b' u hb' e' => k b' u ?_ e') (fun _ h => h) (fun _ _ h => h)
    rcases hb' with rfl | hb'
    · exact hb
    · intro z
      rw [z, nh] at hb'
      cases hb'
theorem At9.list (a : At9 P w fr J s0 H0 s H) (hJ : ∀ H, J H → H l = some (.lst xs)) : ∃ its : List Value, Vals xs its ∧ s.heap.IsList l its.toArray ∧ its.length ≤ sizeLine := by
  obtain ⟨z, its, n, rv, e⟩ := a.hok l _ (hJ H a.j)
  exact ⟨its, rv, ⟨_, e, rfl, n, rfl⟩, by rw [← rv.length]; exact z⟩
/-- behind a call -/
theorem At9.call {Q : VK} {u : Value} {s2 : Shared} (a : At9 P w fr J s0 H0 s H) (hs : ∀ b o, s0.heap.get? b = some o → ∃ o', s.heap.get? b = some o') (c : CE fr P w H s Q u s2) (hQ : ∀ v H2, Q v H2 → J H2) : ∃ v H2, At9 P w fr J s0 H0 s2 H2 ∧ Un (frs fr) [] H H2 s.heap s2.heap ∧ RelV v u ∧ Q v H2 := by
  obtain ⟨v, H2, os, bare, un, hok, rv, q⟩ := c
  exact ⟨v, H2, ⟨os.trans a.os, bare, a.un.trans un, hok, hQ v H2 q⟩, un, rv, q⟩
theorem max_loop9 (kf : Nat → Int) (hh : A.handled = none) (hJ : ∀ H, J H → H l = some (.lst xs)) (hlI : l ≠ I) (hSI : S ≠ I) (hIf : I ∉ frs fr) (hSf : S ∉ frs fr) (hI0 : s0.heap.get? I = none) (hS0 : s0.heap.get? S = none)
    (turn : ∀ (i : Nat) (x : V) (u : Value) (s1 : Shared) (H1 : Hp), xs[i]? = some x → RelV x u → At9 P w fr J s0 H0 s1 H1 → wpAny (model P w) A.in1 (call (.ref f) [u]) (CE fr P w H1 s1 fun v H2 => v = V.int (kf i) ∧ J H2) (fun _ _ => False) s1)
    (hR : ∀ (i : Nat) (x : V) (u : Value) (s1 : Shared) (H1 : Hp), xs[i]? = some x → RelV x u → (∀ j, j < xs.length → kf i ≥ kf j ∧ (j < i → kf i > kf j)) → At9 P w fr J s0 H0 s1 H1 → R (.ok (.ret u)) s1) :
    ∀ (r j i : Nat) (s1 : Shared) (H1 : Hp) (xb : V) (vb : Value) (tb : Tok) (c : Nat), xs.length - (j + 1) = r → j + 1 ≤ xs.length → At9 P w fr J s0 H0 s1 H1 → H1 I = none → H1 S = none → s1.heap.get? S = some (seqObj "list" #[vb, .int (kf i) tb] c) →
      s1.heap.IsListIter I l (j + 1) → xs[i]? = some xb → RelV xb vb → i ≤ j → (∀ j', j' ≤ j → kf i ≥ kf j' ∧ (j' < i → kf i > kf j')) →
      codeAny (model P w) A (.builtin "max.loop" ⟨[.ref I, .ref f, .ref S], []⟩) R s1 := by
  have hname : (toString "max" ++ toString ".loop" : String) = "max.loop" := by decide
  intro r
  induction r with
  | zero =>
    intro j i s1 H1 xb vb tb c hr hj a nI nS gS hit hvb rb hij hbest
    have hin : j + 1 = xs.length := by omega
    obtain ⟨its, rv, hl, hz⟩ := a.list hJ
    have W := Walks.list (prog := P) (w := w) (A := A.in1) hh I l hlI its.toArray
    have hsz : its.toArray.size = xs.length := by rw [List.size_toArray, rv.length]
    refine codeAny_builtin PySem.F.entry_max_loop ?_
    rw [Around.under_plainId PySem.F.plain_max_loop _]
    show wpAny _ A.in1 (seqItems? (.ref S) >>= _) _ _ _
    refine wpAny_bind (wpAny_seqItems gS rfl ?_)
    show wpAny _ A.in1 (tryCatch (pyNext (.ref I)) _ >>= _) _ _ _
    refine wpAny_bind (wpAny_tryCatch (W.done _ _ _ ⟨by rw [hsz, ← hin]; exact hit, hl⟩ fun h' tk' hk' => ?_))
    have a1 : At9 P w fr J s0 H0 { s1 with heap := h', toks := tk' } H1 := a.but hI0 nI fun b o hb e => hk' b o (by simpa using hb) e
    have gS' := hk' S _ (by simpa using hSI) gS
    show wpAny _ A.in1 (updateSeq S (fun _ => #[]) >>= _) _ _ _
    refine wpAny_bind ?_
    refine wpAny_updateSeq gS' rfl (wpAny_bind (wpAny_letGo (wpAny_pure ?_)))
    exact hR i xb vb _ H1 hvb rb (fun j' hj' => hbest j' (by omega)) (a1.but (b0 := S) hS0 nS fun b o hb e => by rw [Heap.get?_update_ne _ _ _ _ hb]; exact e)
  | succ r ih =>
    intro j i s1 H1 xb vb tb c hr hj a nI nS gS hit hvb rb hij hbest
    have hlt : j + 1 < xs.length := by omega
    obtain ⟨its, rv, hl, hz⟩ := a.list hJ
    have W := Walks.list (prog := P) (w := w) (A := A.in1) hh I l hlI its.toArray
    have hsz : its.toArray.size = xs.length := by rw [List.size_toArray, rv.length]
    refine codeAny_builtin PySem.F.entry_max_loop ?_
    rw [Around.under_plainId PySem.F.plain_max_loop _]
    show wpAny _ A.in1 (seqItems? (.ref S) >>= _) _ _ _
    refine wpAny_bind (wpAny_seqItems gS rfl ?_)
    show wpAny _ A.in1 (tryCatch (pyNext (.ref I)) _ >>= _) _ _ _
    refine wpAny_bind (wpAny_tryCatch (W.item (j + 1) _ _ _ (by rw [hsz]; exact hlt) ⟨hit, hl⟩ fun v h' tk' hP hst' hk' => ?_))
    have hv : its[j + 1]? = some v := by simpa using hP
    have hx : xs[j + 1]? = some xs[j + 1] := List.getElem?_eq_getElem hlt
    have rx : RelV xs[j + 1] v := by
      obtain ⟨u, hu, ru⟩ := rv.get hx
      rw [hv] at hu
      cases hu
      exact ru
    obtain ⟨oI', hoI', hoc, hod⟩ := id hst'.1
    have a1 : At9 P w fr J s0 H0 { s1 with heap := h', toks := tk' } H1 := a.but hI0 nI fun b o hb e => hk' b o (by simpa using hb) e
    have gS' := hk' S _ (by simpa using hSI) gS
    show wpAny _ A.in1 (tryCatch (holding [v] (call (.ref f) [v])) _ >>= _) _ _ _
    refine wpAny_bind (wpAny_tryCatch (wpAny_holding (wpAny_mono (turn (j + 1) _ v _ H1 hx rx a1) (fun x s2 he => ?_) fun _ _ hF => hF.elim)))
    obtain ⟨v2, H2, a2, un2, r2, rfl, hJ2⟩ := a1.call (fun b o e => a1.un.there b o e (by simp)) he fun _ _ q => q.2
    obtain ⟨t2, rfl⟩ := r2
    have gS2 := un2.keep S _ gS' nS hSf (by simp)
    have gI2 := un2.keep I _ hoI' nI hIf (by simp)
    have nS2 := un2.free S _ gS' nS (by simp)
    have nI2 := un2.free I _ hoI' nI (by simp)
    have hit2 : s2.heap.IsListIter I l (j + 1 + 1) := ⟨oI', gI2, hoc, hod⟩
    show wpAny _ A.in1 (tryCatch (holding [v, .int (kf (j + 1)) t2] (richCompare .Gt (.int (kf (j + 1)) t2) (.int (kf i) tb) >>= _)) _ >>= _) _ _ _
    refine wpAny_bind (wpAny_tryCatch (wpAny_holding (wpAny_bind (CmpOf.ints_gt (prog := P) (w := w) (A := A.in1) (P := fun i v => ∃ t, v = .int (kf i) t) kf (fun i v h => h) (j + 1) i _ _ _ _ _ ⟨t2, rfl⟩ ⟨tb, rfl⟩ ?_))))
    refine wpAny_bind (wpAny_holding (wpAny_truthy_bool ?_))
    refine wpAny_bind (wpAny_letGo (wpAny_pure ?_))
    by_cases hb' : kf (j + 1) > kf i
    · obtain ⟨c2, hc2⟩ : ∃ c2, (s2.heap.update S (Obj.mapSeq fun _ => #[v, .int (kf (j + 1)) t2])).get? S = some (seqObj "list" #[v, .int (kf (j + 1)) t2] c2) := ⟨_, get?_update_seq gS2 fun _ => #[v, .int (kf (j + 1)) t2]⟩
      simp only [hb', decide_true, if_true]
      refine wpAny_bind ?_
      refine wpAny_updateSeq gS2 rfl (wpAny_bind (wpAny_letGo ?_))
      rw [hname]
      refine wpAny_pure ⟨plainId_quiet PySem.F.plain_max_loop _, ih (j + 1) (j + 1) _ H2 _ v t2 c2 (by omega) hlt (a2.but (b0 := S) hS0 nS2 fun b o hb e => by rw [Heap.get?_update_ne _ _ _ _ hb]; exact e) nI2 nS2 hc2 ⟨oI', ?_, hoc, hod⟩ hx rx (Nat.le_refl _) fun j' hj' => ?_⟩
      · show (s2.heap.update S _).get? I = _
        rw [Heap.get?_update_ne _ _ _ _ hSI.symm]
        exact gI2
      · by_cases e : j' = j + 1
        · subst e
          exact ⟨by omega, fun _ => by omega⟩
        · have hb1 := hbest j' (by omega)
          have hb2 := hb1.1
          exact ⟨by omega, fun _ => by omega⟩
    · simp only [hb', decide_false, Bool.false_eq_true, if_false]
      refine wpAny_bind (wpAny_letGo ?_)
      rw [hname]
      refine wpAny_pure ⟨plainId_quiet PySem.F.plain_max_loop _, ih (j + 1) i _ H2 xb vb tb c (by omega) hlt a2 nI2 nS2 gS2 hit2 hvb rb (by omega) fun j' hj' => ?_⟩
      by_cases e : j' = j + 1
      · subst e
        exact ⟨by omega, fun _ => by omega⟩
      · exact hbest j' (by omega)
theorem max_key9 {Q : Value → Shared → Prop} {E : Value → Shared → Prop} (kf : Nat → Int) (hh : A.handled = none) (hJ : ∀ H, J H → H l = some (.lst xs)) (hne : 0 < xs.length) (fre : ∀ b, s0.heap.objs.size ≤ b → b ∉ frs fr) (a : At9 P w fr J s0 H0 s0 H0)
    (turn : ∀ (i : Nat) (x : V) (u : Value) (s1 : Shared) (H1 : Hp), xs[i]? = some x → RelV x u → At9 P w fr J s0 H0 s1 H1 → wpAny (model P w) A.in1 (call (.ref f) [u]) (CE fr P w H1 s1 fun v H2 => v = V.int (kf i) ∧ J H2) (fun _ _ => False) s1)
    (hR : ∀ (i : Nat) (x : V) (u : Value) (s1 : Shared) (H1 : Hp), xs[i]? = some x → RelV x u → (∀ j, j < xs.length → kf i ≥ kf j ∧ (j < i → kf i > kf j)) → At9 P w fr J s0 H0 s1 H1 → Q u s1) :
    wpAny (model P w) A (call (.builtin "max") [.ref l] [(Str.ofString "key", .ref f)]) Q E s0 := by
  have hname : (toString "max" ++ toString ".loop" : String) = "max.loop" := by decide
  obtain ⟨its, rv, hls, hz⟩ := a.list hJ
  obtain ⟨ol, hol, _⟩ := id hls
  have hll : l < s0.heap.objs.size := Heap.lt_size hol
  refine kmk_tree PySem.F.kind_max PySem.F.plain_max PySem.F.entry_max (kmk_max_key _ _) ?_
  show wpAny _ A.in1 (Builtin.Builtins.bindParams "max" ["key", "default"] 0 ⟨[], [(Str.ofString "key", .ref f)]⟩ >>= _) _ _ s0
  refine wpAny_bind (wpAny_of_eq (show Builtin.Builtins.bindParams "max" ["key", "default"] 0 ⟨[], [(Str.ofString "key", .ref f)]⟩ = pure [some (.ref f), none] from rfl) ?_)
  refine wpAny_bind (wpAny_pure ?_)
  refine wpAny_bind (wpAny_pyIter_list hls ?_)
  refine wpAny_bind (wpAny_newList ?_ (Nat.zero_le _))
  rw [hname]
  have hS : (s0.heap.push { cls := .type "list_iterator", data := .fields #[.ref l, .int 0 0] }).objs.size = s0.heap.objs.size + 1 := size_push' ..
  have hlI : l ≠ s0.heap.objs.size := Nat.ne_of_lt hll
  have hSI : (s0.heap.push { cls := .type "list_iterator", data := .fields #[.ref l, .int 0 0] }).objs.size ≠ s0.heap.objs.size := by rw [hS]; exact Nat.ne_of_gt (Nat.lt_succ_self _)
  have hI0 : s0.heap.get? s0.heap.objs.size = none := Heap.get?_none_of_le (Nat.le_refl _)
  have hS0 : s0.heap.get? (s0.heap.push { cls := .type "list_iterator", data := .fields #[.ref l, .int 0 0] }).objs.size = none := by rw [hS]; exact Heap.get?_none_of_le (Nat.le_succ _)
  have nI : H0 s0.heap.objs.size = none := a.hok.fresh (Nat.le_refl _)
  have nS : H0 (s0.heap.push { cls := .type "list_iterator", data := .fields #[.ref l, .int 0 0] }).objs.size = none := by rw [hS]; exact a.hok.fresh (Nat.le_succ _)
  have hIf : s0.heap.objs.size ∉ frs fr := fre _ (Nat.le_refl _)
  have hSf : (s0.heap.push { cls := .type "list_iterator", data := .fields #[.ref l, .int 0 0] }).objs.size ∉ frs fr := by rw [hS]; exact fre _ (Nat.le_succ _)
  refine wpAny_pure ⟨plainId_quiet PySem.F.plain_max_loop _, ?_⟩
  have gI : ((s0.heap.push { cls := .type "list_iterator", data := .fields #[.ref l, .int 0 0] }).push (seqObj "list" #[] 0)).get? s0.heap.objs.size = some { cls := .type "list_iterator", data := .fields #[.ref l, .int 0 0] } :=
    Heap.get?_push_of_some _ (Heap.get?_push_size _ rfl)
  have gS : ((s0.heap.push { cls := .type "list_iterator", data := .fields #[.ref l, .int 0 0] }).push (seqObj "list" #[] 0)).get? (s0.heap.push { cls := .type "list_iterator", data := .fields #[.ref l, .int 0 0] }).objs.size = some (seqObj "list" #[] 0) := Heap.get?_push_size _ rfl
  have aH : At9 P w fr J s0 H0 { s0 with heap := (s0.heap.push { cls := .type "list_iterator", data := .fields #[.ref l, .int 0 0] }).push (seqObj "list" #[] 0) } H0 :=
    a.but (tk := s0.toks) hI0 nI fun b o _ e => Heap.get?_push_of_some _ (Heap.get?_push_of_some _ e)
  have hsz : its.toArray.size = xs.length := by rw [List.size_toArray, rv.length]
  have hlsH : ((s0.heap.push { cls := .type "list_iterator", data := .fields #[.ref l, .int 0 0] }).push (seqObj "list" #[] 0)).IsList l its.toArray := by
    obtain ⟨o, e, r⟩ := id hls
    exact ⟨o, Heap.get?_push_of_some _ (Heap.get?_push_of_some _ e), r⟩
  have W := Walks.list (prog := P) (w := w) (A := A.in1) hh s0.heap.objs.size l hlI its.toArray
  refine codeAny_builtin PySem.F.entry_max_loop ?_
  rw [Around.under_plainId PySem.F.plain_max_loop _]
  show wpAny _ A.in1 (seqItems? (.ref _) >>= _) _ _ _
  refine wpAny_bind (wpAny_seqItems gS rfl ?_)
  show wpAny _ A.in1 (tryCatch (pyNext (.ref s0.heap.objs.size)) _ >>= _) _ _ _
  refine wpAny_bind (wpAny_tryCatch (W.item 0 _ _ _ (by rw [hsz]; exact hne) ⟨⟨_, gI, rfl, rfl⟩, hlsH⟩ fun v h' tk' hP hst' hk' => ?_))
  have hv : its[0]? = some v := by simpa using hP
  have hx : xs[0]? = some xs[0] := List.getElem?_eq_getElem hne
  have rx : RelV xs[0] v := by
    obtain ⟨u, hu, ru⟩ := rv.get hx
    rw [hv] at hu
    cases hu
    exact ru
  obtain ⟨oI', hoI', hoc, hod⟩ := id hst'.1
  have a1 : At9 P w fr J s0 H0 { s0 with heap := h', toks := tk' } H0 := aH.but hI0 nI fun b o hb e => hk' b o (by simpa using hb) e
  have gS' := hk' _ _ (by simpa using hSI) gS
  show wpAny _ A.in1 (tryCatch (holding [v] (call (.ref f) [v])) _ >>= _) _ _ _
  refine wpAny_bind (wpAny_tryCatch (wpAny_holding (wpAny_mono (turn 0 _ v _ H0 hx rx a1) (fun x s2 he => ?_) fun _ _ hF => hF.elim)))
  obtain ⟨v2, H2, a2, un2, r2, rfl, hJ2⟩ := a1.call (fun b o e => a1.un.there b o e (by simp)) he fun _ _ q => q.2
  obtain ⟨t2, rfl⟩ := r2
  have gS2 := un2.keep _ _ gS' nS hSf (by simp)
  have gI2 := un2.keep _ _ hoI' nI hIf (by simp)
  have nS2 := un2.free _ _ gS' nS (by simp)
  have nI2 := un2.free _ _ hoI' nI (by simp)
  obtain ⟨c2, hc2⟩ : ∃ c2, (s2.heap.update (s0.heap.push { cls := .type "list_iterator", data := .fields #[.ref l, .int 0 0] }).objs.size (Obj.mapSeq fun _ => #[v, .int (kf 0) t2])).get? (s0.heap.push { cls := .type "list_iterator", data := .fields #[.ref l, .int 0 0] }).objs.size = some (seqObj "list" #[v, .int (kf 0) t2] c2) := ⟨_, get?_update_seq gS2 fun _ => #[v, .int (kf 0) t2]⟩
  show wpAny _ A.in1 (updateSeq (s0.heap.push { cls := .type "list_iterator", data := .fields #[.ref l, .int 0 0] }).objs.size (fun _ => #[v, .int (kf 0) t2]) >>= _) _ _ _
  refine wpAny_bind ?_
  refine wpAny_updateSeq gS2 rfl ?_
  rw [hname]
  refine wpAny_pure ⟨plainId_quiet PySem.F.plain_max_loop _, max_loop9 (I := s0.heap.objs.size) kf hh hJ hlI hSI hIf hSf hI0 hS0 turn hR _ 0 0 _ H2 _ v t2 c2 rfl hne (a2.but hS0 nS2 fun b o hb e => by rw [Heap.get?_update_ne _ _ _ _ hb]; exact e) nI2 nS2 hc2 ⟨oI', ?_, hoc, hod⟩ hx rx (Nat.le_refl _) fun j' hj' => ?_⟩
  · show (s2.heap.update _ _).get? s0.heap.objs.size = _
    rw [Heap.get?_update_ne _ _ _ _ hSI.symm]
    exact gI2
  · have e : j' = 0 := by omega
    subst e
    exact ⟨by omega, fun h => absurd h (Nat.lt_irrefl _)⟩
end
end L2
namespace Fx
open PySem L2 LamX
@[reducible] def SC.lam (c : SC) (scope : Scope) (k : Nat) : SC := { c with sc := scope, fn := fun _ => false, k := k, okE := fun _ _ => True }
@[reducible] def Dyn.lam {c : SC} (y : Dyn c) {k : Nat} (A : Around) (s : Shared) (H : Hp) (scope : Scope) (f c' : Addr) (hr : Room k (A.deeper (lamEnv y.cx scope s.heap.objs.size f c'))) : Dyn (c.lam scope k) where
  A := A.deeper (lamEnv y.cx scope s.heap.objs.size f c')
  s0 := s
  H0 := H
  env := lamEnv y.cx scope s.heap.objs.size f c'
  outer := y.stack
  stack := lamEnv y.cx scope s.heap.objs.size f c' :: y.stack
  ex := []
  pn := []
  xe := fun _ _ => False
  sc := rfl
  room := hr
  pass := PassesOwn.never
  en := trivial
/-- an expression by what it does -/
def tAll (X : Cx) (e : Expr) : TE := fun σ H Q => ∀ pins s, Inv X pins σ H s → wpAny (model X.prog X.w) X.A (eval e X.env) (EP X pins σ Q) X.xe s
theorem tAll_ok {X : Cx} {e : Expr} : PE X e (tAll X e) := ⟨fun pins s σ H Q I h => h pins s I⟩
theorem set_same9 {α : Type} : ∀ {l : List α} {j : Nat} {x : α}, l[j]? = some x → l.set j x = l
  | [], _, _, h => by simp at h
  | y :: l, 0, x, h => by
    have : y = x := Option.some.inj h
    subst this
    rfl
  | y :: l, j + 1, x, h => congrArg (y :: ·) (set_same9 (l := l) (j := j) h)
/-- the table has grown -/
theorem tab_nx {K : PySem.W.Frag} {ad : List Addr} {H H2 : Hp} {M : List MO} {j : Nat} {P c' : Addr} {q : Str} (S : StOk K ad H M) (hj : M[j]? = some (.tab P q)) (hT : TabS H2 P q)
    (h : H2 = H ∨ ∃ ps, H c' = none ∧ (∃ qs, H P = some (.tbl qs)) ∧ H2 = upd (upd H P (.tbl ps)) c' (CodeO c' q)) : StOk K ad H2 M ∧ Nx ad H ad H2 := by
  rcases h with rfl | ⟨ps, hc, ⟨qs, hP⟩, rfl⟩
  · exact ⟨S, Nx.refl⟩
  · have ne : P ≠ c' := ne_of_none hP hc
    have e : upd (upd H P (.tbl ps)) c' (CodeO c' q) = upd (upd H c' (CodeO c' q)) P (.tbl ps) := by
      funext b
      by_cases h1 : b = P
      · subst h1
        rw [upd_ne ne, upd_same, upd_same]
      · by_cases h2 : b = c'
        · subst h2
          rw [upd_same, upd_ne h1, upd_same]
        · rw [upd_ne h2, upd_ne h1, upd_ne h1, upd_ne h2]
    rw [e] at hT ⊢
    have sm := same_new (o := CodeO c' q) hc
    obtain ⟨a, ha, haP, _⟩ := S.obj j _ hj
    subst haP
    obtain ⟨S2, n2⟩ := (S.same sm).put (m := .tab a q) (o := .tbl ps) ha ⟨rfl, hT⟩
    rw [set_same9 hj] at S2
    exact ⟨S2, (Nx.same sm).trans n2⟩
section
variable {c : SC} {δ : Dl} {M : List MO} {Post : AQ} {e : Expr} {p pos lpos kpos : Pos} {params : Arguments} {body : Expr} {scope : Scope}
/-- max(e, key=lambda pn: body), a new list -/
theorem x_maxKey {α : Type} {cd Pt : Addr} {ql pn : Str} {ip k : Nat} (jt : Nat) (hE : ∀ cv q, c.okE cv q → cv = .ref cd ∧ q = ql) (TB : TabB c.base c.mg cd Pt) (L : LamS9 c.sc scope) (hpar : scope.names.lookup pn = some .local)
    (hone : (scope.names.all fun y => !decide (y.2 = .local) || y.1 == pn) = true) (hN : c.N[ip]? = some pn) (hnd : c.N.Nodup) (hdef : ∀ env, defaultsOf params env = ([], []))
    (hbind : ∀ (q : Str) (cl : List (Str × Addr)) (pm cv ctv u : Value), bindArgs (PySem.W.kla_fn "<lambda>" q params body scope cl pm cv ctv) ⟨[u], []⟩ = pure [(pn, u)]) (hg : c.gl "max") (hm : c.mg "max" = none) (hk : c.k = k + 2)
    (h : EvF c δ M e fun ds M1 => ∃ (ts : List α) (enc : α → D) (kf : α → Int), ds = ts.map enc ∧ ts ≠ [] ∧ M1[jt]? = some (.tab Pt (ql ++ "<lambda>")) ∧
      (∀ t ∈ ts, EvX (c.lam scope k) (δ.set ip (some (.dat (enc t)))) M1 body fun b M2 => b = .dat (.int (kf t)) ∧ M2 = M1) ∧
      ∀ (i : Nat) (t : α), ts[i]? = some t → (∀ (j : Nat) (t' : α), ts[j]? = some t' → kf t' ≤ kf t ∧ (j < i → kf t' < kf t)) → Post (.dat (enc t)) M1)
    (hst : ∀ env, backTo pos (starEach [e] env) = (false, eval e env) :: backTo pos (starEach [] env)) (hpl : ∀ env, (backTo pos (starEach [e] env)).any (·.1) = false)
    (hse : ∀ env, starEach [e] env = (false, eval e env) :: starEach [] env) :
    EvX c δ M (.Call (.Name "max" p) [e] [⟨some "key", .Lambda params body scope lpos, kpos⟩] pos) Post := fun y σ H ad he hs Q q => by
  refine ⟨_, tAll_ok, fun pins s I => ?_⟩
  have hg' := glS y hg
  obtain ⟨ecode, equal⟩ := hE _ _ y.en
  have L' : LamS9 y.cx.env.scope scope := by rw [show y.cx.env.scope = c.sc from y.sc]; exact L
  refine wpAny_Call_Name_kw (ld_blt I hg' hm PyProof.Rows.boot_max ?_)
  have first := h y σ H ad he hs (fun v H1 => ∃ l xs ad1 M1, ∃ (ts : List α) (enc : α → D) (kf : α → Int), v = .ref l ∧ Nx ad H ad1 H1 ∧ StOk c.K ad1 H1 M1 ∧ l ∉ ad1 ∧ H1 l = some (.lst xs) ∧ Reps c.K H1 (ts.map enc) xs ∧ ts ≠ [] ∧ M1[jt]? = some (.tab Pt (ql ++ "<lambda>")) ∧
      (∀ t ∈ ts, EvX (c.lam scope k) (δ.set ip (some (.dat (enc t)))) M1 body fun b M2 => b = .dat (.int (kf t)) ∧ M2 = M1) ∧
      ∀ (i : Nat) (t : α), ts[i]? = some t → (∀ (j : Nat) (t' : α), ts[j]? = some t' → kf t' ≤ kf t ∧ (j < i → kf t' < kf t)) → Post (.dat (enc t)) M1) (fun p xs H2 ad2 ds M2 n s2 f1 f2 f3 f4 z => by
    obtain ⟨ts, enc, kf, rfl, z⟩ := z
    exact ⟨p, xs, ad2, M2, ts, enc, kf, rfl, n, s2, f2, f3, f4, z⟩)
  refine PyProof.Rows.callWith_kw (thn ((pa_cons (X := y.cx) wE_ok pa_nil (hse y.env)).run pos pins s σ H (fun vs H1 => ∃ v, vs = [v] ∧ ∃ l xs ad1 M1, ∃ (ts : List α) (enc : α → D) (kf : α → Int), v = .ref l ∧ Nx ad H ad1 H1 ∧ StOk c.K ad1 H1 M1 ∧ l ∉ ad1 ∧ H1 l = some (.lst xs) ∧ Reps c.K H1 (ts.map enc) xs ∧ ts ≠ [] ∧ M1[jt]? = some (.tab Pt (ql ++ "<lambda>")) ∧
      (∀ t ∈ ts, EvX (c.lam scope k) (δ.set ip (some (.dat (enc t)))) M1 body fun b M2 => b = .dat (.int (kf t)) ∧ M2 = M1) ∧
      ∀ (i : Nat) (t : α), ts[i]? = some t → (∀ (j : Nat) (t' : α), ts[j]? = some t' → kf t' ≤ kf t ∧ (j < i → kf t' < kf t)) → Post (.dat (enc t)) M1) I ?_) fun us s1 hA => ?_) (hst y.env) (hpl y.env) rfl rfl
  · show wE y.cx e σ H _
    obtain ⟨t0, pt0, ht0⟩ := first
    refine ⟨tAll y.cx e, tAll_ok, fun pins s I => thn (pt0.run pins s σ H _ I ht0) fun u s' ⟨v, H', I', r, z⟩ => ⟨v, H', I', r, ?_⟩⟩
    exact ⟨v, rfl, z⟩
  obtain ⟨vs, H1, I1, rv, v, rfl, l, xs, ad1, M1, ts, enc, kf, rfl, n1, S1, hl1, hl2, hrep, hne, hjt, hbody, hpost⟩ := hA
  have eu := Vals.ref1 rv
  subst eu
  show wpAny _ _ (evalAll [do let v ← eval (.Lambda params body scope lpos) y.cx.env; standAt pos; pure v]) _ _ s1
  have hT1 : TabS H1 Pt (y.cx.env.qual ++ "<lambda>") := by
    obtain ⟨a, ha, haP, hT⟩ := S1.obj jt _ hjt
    subst haP
    rw [show y.cx.env.qual = ql from equal]
    exact hT
  refine wpAny_evalAll_cons (wpAny_bind (lam_make9 I1 TB ecode hT1 (hdef _) (L'.has I1.ok) fun f c' pm ctv H2 s2 I2 hup hT2 hf hfn hfr hco => ?_))
  refine wpAny_bind (wpAny_standAt (wpAny_pure ?_))
  refine wpAny_evalAll_nil ?_
  rw [show y.cx.env.qual = ql from equal] at hup hT2
  obtain ⟨S2, n2⟩ := tab_nx S1 hjt hT2 hup
  show wpAny _ _ (call (.builtin "max") [.ref l] [(Str.ofString "key", .ref f)]) _ _ s2
  have hkf : ∀ (i : Nat) (t : α), ts[i]? = some t → ((ts[i]?).map kf).getD 0 = kf t := fun i t e => by rw [e]; rfl
  have lxs : xs.length = ts.length := by rw [hrep.length, List.length_map]
  have after : ∀ s3 H3, At9 c.P c.w y.stack (fun H => Nx ad1 H2 ad1 H ∧ StOk c.K ad1 H M1) s2 H2 s3 H3 → Inv y.cx pins σ H3 s3 := fun s3 H3 a => by
    obtain ⟨v, H', I', r, e⟩ := I2.after (Q := fun _ H => H = H3) (u := .none) (show CE y.cx.stack y.cx.prog y.cx.w H2 s2 _ _ s3 from ⟨.non, H3, a.os, a.bare, a.un, a.hok, rfl, rfl⟩)
    rw [← show H' = H3 from e]
    exact I'
  refine max_key9 (P := c.P) (w := c.w) (fr := y.stack) (J := fun H => Nx ad1 H2 ad1 H ∧ StOk c.K ad1 H M1) (H0 := H2) (xs := xs) (fun i => ((ts[i]?).map kf).getD 0) y.room.hd (fun H ⟨n, _⟩ => n.keep l _ hl1 (n2.keep l _ hl1 hl2)) ?_ ?_ ⟨rfl, I2.bare, Un.refl, I2.hok, Nx.refl, S2⟩ ?_ ?_
  · rw [lxs]
    exact List.length_pos_iff.mpr hne
  · intro b hb z
    rcases List.mem_cons.mp (I2.stkSub _ z) with e | e
    · have h1 := I2.lt
      rw [← e] at h1
      exact Nat.lt_irrefl _ (Nat.lt_of_lt_of_le h1 hb)
    · exact I2.nofs hb e
  · intro i x u s3 H3 hx rx a
    have I3 := after s3 H3 a
    obtain ⟨n3, S3⟩ := a.j
    obtain ⟨d, hd, rd⟩ := hrep.get' hx
    rw [List.getElem?_map] at hd
    cases hti : ts[i]? with
    | none => rw [hti] at hd; cases hd
    | some t =>
      rw [hti] at hd
      cases hd
      have hr1 : Room (k + 1) y.cx.A.in1 := by
        have := y.room
        rw [hk] at this
        exact this.in1
      have hf3 := a.un.keep f _ hf hfn hfr (by simp)
      have hfree3 : H3 c' = some (CodeO c' (y.cx.env.qual ++ "<lambda>")) := n3.tx.ext _ _ hco
      have n13 := n2.trans n3
      have env3 : EnvOk c.K ad1 H3 (σ.set ip (some x)) (δ.set ip (some (.dat (enc t)))) := ((he.nx n1).nx n13).set (Rep.tx n13.tx rd)
      have ev := hbody t (List.mem_of_getElem? hti) (Dyn.lam y y.cx.A.in1 s3 H3 scope f c' (hr1.deeper _)) (σ.set ip (some x)) H3 ad1 env3 S3 (fun v H4 => v = V.int (kf t) ∧ Nx ad1 H2 ad1 H4 ∧ StOk c.K ad1 H4 M1) (fun v H4 ad4 a4 M4 n4 S4 r4 ⟨e1, e2⟩ => by
        subst e1 e2
        obtain ⟨tt, rfl⟩ := n4.pre
        have : tt = [] := by
          have l1 := S4.len
          have l2 := S3.len
          rw [List.length_append] at l1
          exact List.eq_nil_of_length_eq_zero (by omega)
        subst this
        rw [List.append_nil] at n4 S4
        exact ⟨r4, n3.trans n4, S4⟩)
      refine wpAny_call (codeAny_mono (lam_call9 (X := y.cx) (E := fun _ _ _ => False) (binds := [(pn, u)]) (σ' := σ.set ip (some x)) (tb := wE (Dyn.lam y y.cx.A.in1 s3 H3 scope f c' (hr1.deeper _)).cx body) I3 L' rfl hr1 hf3 hfree3 (hbind _ _ _ _ _ _) ?_ (by rw [List.length_set]) ?_ (PE.nox wE_ok) ev) fun r s4 hq => ?_)
      · intro z hz
        rw [List.mem_singleton.mp hz]
        exact hpar
      · intro i' y' v' e1 e2 e3
        have nodup := hnd
        rcases e3 with k3 | k3 | k3
        · have hy : y' = pn := by
            have := List.all_eq_true.mp hone _ (PySem.mem_of_lookup k3)
            simpa using this
          subst hy
          have hi : i' = ip := nodup_ix hnd e1 hN
          subst hi
          have hlt : i' < σ.length := by
            have := (List.getElem?_eq_some_iff.mp e2).1
            rwa [List.length_set] at this
          rw [List.getElem?_set_self hlt] at e2
          have : x = v' := Option.some.inj (Option.some.inj e2)
          subst this
          exact .inl ⟨hpar, u, rx, by simp⟩
        · exact absurd rfl (L.own _ (PySem.mem_of_lookup k3))
        · refine .inr ⟨k3, ?_⟩
          have hi : ip ≠ i' := fun z => by
            subst z
            rw [hN] at e1
            cases e1
            rw [hpar] at k3
            cases k3
          rw [List.getElem?_set_ne hi] at e2
          exact e2
      · cases r with
        | error e =>
          obtain ⟨_, _, _, _, _, _, _, _, _, _, _, _, z⟩ := (show L2.CX _ _ _ _ _ _ _ _ from hq)
          exact z
        | ok fl =>
          cases fl with
          | ret u2 =>
            obtain ⟨v, H', os, bare, un, hok, r, q1, q2⟩ := (show CE _ _ _ _ _ _ _ _ from hq)
            exact ⟨v, _, os, bare, un, hok, r, q1, q2⟩
          | next => exact False.elim hq
          | brk => exact False.elim hq
          | cont => exact False.elim hq
  · intro i x u s3 H3 hx rx hbest a
    obtain ⟨n3, S3⟩ := a.j
    obtain ⟨d, hd, rd⟩ := hrep.get' hx
    rw [List.getElem?_map] at hd
    cases hti : ts[i]? with
    | none => rw [hti] at hd; cases hd
    | some t =>
      rw [hti] at hd
      cases hd
      have n13 := n2.trans n3
      refine ⟨x, H3, after s3 H3 a, rx, q x H3 ad1 (.dat (enc t)) M1 (n1.trans n13) S3 (Rep.tx n13.tx rd) (hpost i t hti fun j t' hj => ?_)⟩
      have hjl : j < xs.length := by rw [lxs]; exact (List.getElem?_eq_some_iff.mp hj).1
      obtain ⟨b1, b2⟩ := hbest j hjl
      simp only [hti, hj, Option.map_some, Option.getD_some] at b1 b2
      exact ⟨b1, b2⟩
end
end Fx
namespace Fx
open PySem L2 LamX
/-- the table of the def x is known -/
class TabOf (K : PySem.W.Frag) (mg : Str → Option Value) (base : Heap) (x : Str) (Pt : outParam Addr) : Prop where
  ex : ∃ cb, TabB base mg cb Pt ∧ ∀ (fa : Addr) (o : Obj) (fd : FuncData), mg x = some (.ref fa) → K.lookup fa = some o → o.data = .func fd → fd.code = .ref cb
theorem codeHd_mk9 {K : PySem.W.Frag} {h : Heap} {c P : Addr} {d : Option Addr} {vs : Array Value} {sl : Array (Option Value)} {f : Str} {tf tg tt : Tok} {fl n : Int} {b : Bool} (X : K.In h) (hk : K.lookup c = some ⟨.type "code", d, .fields vs, sl⟩) (h11 : vs[11]? = some (.ref P))
    (h18 : vs.getD 18 .none = .str f tf) (h7 : vs.getD 7 .none = .int fl tg) (h9 : vs.getD 9 .none = .bool b) (h10 : vs.getD 10 .none = .int n tt) (hne : c ≠ P) : PySem.W.CodeHd h c P :=
  ⟨_, vs, f, tf, fl, tg, b, n, tt, X _ _ hk, rfl, rfl, h11, by rw [Array.getD_eq_getD_getElem?, h11]; rfl, h18, h7, h9, h10, hne⟩
@[reducible] def scOfL (P : Program) (w : World) (K : PySem.W.Frag) (mg : Str → Option Value) (base : Heap) (N : List Str) (st : Stmt) (cd : Addr) (ql : Str) (k : Nat) : SC := { scOf P w K mg base N st k with okE := fun cv q => cv = .ref cd ∧ q = ql }
section
variable {P : Program} {w : World} {K : PySem.W.Frag} {mg : Str → Option Value} {base : Heap} {k : Nat} {x : Str} {st : Stmt} {ps N : List Str}
/-- a def that makes lambdas -/
theorem fn_mkL {fa : Addr} {fd : FuncData} {ql : Str} {A : ASp} {cd : Addr} (F : Fun K x ql st fa fd) (hcode : fd.code = .ref cd) (S : FnScope N ps (defScope st))
    (h : ∀ as M Post, as.length = ps.length → A as M Post → Run (scOfL P w K mg base N st cd (ql ++ ".<locals>.") k) (as.map some ++ List.replicate (N.length - as.length) none) M (defBody st) { nx := fun _ M2 => Fin M Post (.dat .non) M2, rt := Fin M Post }) :
    FnOk P w K mg base CX0 (k + 1) fa fd ps (spOf K ps.length A) := by
  obtain ⟨oc, od, kV, doc, pm, an, cdv, ct, osl, rfl, lk, hcd⟩ := F.ex
  have ecd : cdv = .ref cd := hcode
  subst ecd
  refine fn_of lk hcd S (fun vs H Q E h => h.1) fun A' outer s H vs Q E hr hsp => ?_
  obtain ⟨hl, ad, as, M, Post, hs, hr2, hA, q⟩ := hsp
  have fin : ∀ v H2 ad2 a M2, Nx ad H ad2 H2 → StOk K ad2 H2 M2 → RepA K ad2 H2 a v → Fin M Post a M2 → Q v H2 := by
    intro v H2 ad2 a M2 n s2 r p
    rcases p with p | ⟨rest, rfl, p⟩
    · exact q v H2 ad2 a M2 n s2 r p
    · obtain ⟨t, rfl⟩ := n.pre
      have sb := hs.back s2
      rcases p with ⟨d, rfl, p⟩ | ⟨ds, rfl, p⟩ | ⟨j, ds, rfl, hj, hm, p⟩ | ⟨ds, rfl, p⟩
      · exact q v H2 ad (.dat d) M n.back sb r p
      · obtain ⟨b, xs, e, ⟨h1, h2⟩, h3⟩ := r
        exact q v H2 ad (.ls ds) M n.back sb ⟨b, xs, e, ⟨h1, fun z => h2 (List.mem_append_left _ z)⟩, h3⟩ p
      · obtain ⟨b, hb, e⟩ := r
        obtain ⟨b2, hb2, xs, h1, h3⟩ := s2.obj j _ hm
        rw [hb] at hb2
        cases hb2
        refine q v H2 ad (.ls ds) M n.back sb ⟨b, xs, e, ⟨h1, fun z => ?_⟩, h3⟩ p
        obtain ⟨i, hi⟩ := List.getElem?_of_mem z
        have hi2 := hi
        rw [← List.getElem?_append_left (l₂ := t) (List.getElem?_eq_some_iff.mp hi).1] at hi
        have := nd_ix s2.nd hi hb
        have h4 := (List.getElem?_eq_some_iff.mp hi2).1
        rw [hs.len] at h4
        omega
      · exact q v H2 ad (.tx ds) M n.back sb r p
  let env := PyProof.Rows.envOfC ql (defScope st) s.heap.objs.size fa (.ref cd)
  let y : Dyn (scOfL P w K mg base N st cd (ql ++ ".<locals>.") k) := ⟨A'.deeper env, s, H, env, outer, env :: outer, [], [], fun _ _ => False, rfl, hr, PassesOwn.never, ⟨rfl, rfl⟩⟩
  exact ⟨wSs y.cx (defBody st), PSs.nox wSs_ok, h as M Post (by rw [← repAs_length hr2]; exact hl) hA y _ H ad (envOk_start hr2) hs _
    ⟨fun _ H2 ad2 _ M2 n _ s2 p => fin _ H2 ad2 (.dat .non) M2 n s2 rfl p, fun v H2 ad2 a M2 n s2 r p => fin v H2 ad2 a M2 n s2 r p, fun _ _ _ _ _ _ _ _ z => z.elim, fun _ _ _ _ _ _ _ _ z => z.elim⟩⟩
end
end Fx

/-! Fx, part V: exceptions: raised, heard, held. -/
namespace L2
open PySem PySem.Spec PyProof.Rows
/-- the object of a held exception -/
abbrev heldO (a : Addr) (oe : Obj) : HO := .ext fun h => h.get? a = some oe
section
variable {X : Cx}
theorem inst_held9 {H : Hp} {pins : List (Addr × Obj)} {σ : St} {s : Shared} {a D : Addr} {oe : Obj} (I : Inv X pins σ H s) (ha : H a = some (heldO a oe)) (hc : oe.cls = .ref D) (hd : ∃ vs, oe.data = .fields vs)
    (hx : oe.dict = none ∨ ∃ dx fs, oe.dict = some dx ∧ H dx = some (.xd fs)) : ∃ od, PySem.W.InstAt s.heap a oe D od := by
  obtain ⟨vs, hv⟩ := hd
  have hget : s.heap.get? a = some oe := (I.hok a _ ha).1
  have hno : PySem.W.notCls oe = true := by unfold PySem.W.notCls; rw [hv] <;> rfl
  rcases hx with hx | ⟨dx, fs, hx, hH⟩
  · exact ⟨none, hget, hc, hno, by rw [hx]; trivial⟩
  · obtain ⟨mA, ⟨o, es, ep, e, r⟩, _⟩ := (show ObjOk X.prog X.w H s.heap dx (.xd fs) from I.hok dx _ hH)
    exact ⟨some o, hget, hc, hno, by rw [hx]; exact e⟩
def rIsX9 (K : PySem.W.Frag) : List V → Hp → VK → Prop := fun xs H Q => ∃ (a D : Addr) (oe : Obj) (c : V) (cv : Value) (b : Bool), xs = [.ref a, c] ∧ H a = some (heldO a oe) ∧ oe.cls = .ref D ∧ (∃ vs, oe.data = .fields vs) ∧ (oe.dict = none ∨ ∃ dx fs, oe.dict = some dx ∧ H dx = some (.xd fs)) ∧
  ExcC K D ∧ (∀ u, RelV c u → u = cv) ∧ PySem.W.kitOne K (.ref D) cv = some b ∧ Q (.bl b) H
theorem call_isX9 : CallR X (.builtin "isinstance") (rIsX9 X.K) := by
  intro pins s σ H xs us Q I r h
  obtain ⟨a, D, oe, c, cv, b, rfl, ha, hc, hd, hx, C, hcv, e, q⟩ := h
  cases r with
  | cons rx rr =>
    cases rr with
    | cons rt rr =>
      cases rr
      cases rx
      have ec := hcv _ rt
      subst ec
      obtain ⟨od, J⟩ := inst_held9 I ha hc hd hx
      have hcl : (PySem.W.clsIn X.K D).isSome = true := by
        obtain ⟨cd, h, _⟩ := PySem.W.any_some C.hd
        rw [h]
        rfl
      exact PySem.W.kia_one (PySem.W.kitx_exc hcl C.hg C.hk C.hs C.ha C.hn C.ht C.hm) I.kIn J e (fun z => nomatch z) fun tk => ⟨.bl b, H, I.kept (t' := tk) fun _ _ z => z, rfl, q⟩
/-- e.n of a held exception -/
def tXf9 (K : PySem.W.Frag) (n : Str) (te : TE) : TE := fun σ H Q => te σ H fun x H1 => ∃ (a C dd : Addr) (oe : Obj) (fs : List (Str × V)) (v : V), x = .ref a ∧ H1 a = some (heldO a oe) ∧ oe.cls = .ref C ∧ (∃ vs, oe.data = .fields vs) ∧ oe.dict = some dd ∧ H1 dd = some (.xd fs) ∧
  XfC K C ∧ PySem.W.findIn K (.ref C) n = some none ∧ fs.lookup n = some v ∧ Q v H1
theorem pe_xf9 {e : Expr} {te : TE} {pos : Pos} {n : Str} (he : PE X e te) (hb : attributeBase e n X.env (eval e X.env) = eval e X.env) : PE X (.Attribute e n pos) (tXf9 X.K n te) := by
  refine ⟨fun pins s σ H Q I h => ?_⟩
  refine attr_of hb (thn (he.run pins s σ H _ I h) fun u s1 hh => ?_)
  obtain ⟨x, H1, I1, rx, a, C, dd, oe, fs, v, ex, hH, hc, ⟨vs, hv⟩, hdd, ea, T, hno, l, q⟩ := hh
  subst ex
  obtain rfl : u = Value.ref a := rx
  have ha : s1.heap.get? a = some oe := (I1.hok a _ hH).1
  have hx : ObjOk X.prog X.w H1 s1.heap dd (.xd fs) := I1.hok dd _ ea
  obtain ⟨mA, hns, hr⟩ := hx
  obtain ⟨od, ho, hl⟩ := lookIn_ns hns
  obtain ⟨u, hu, ru⟩ := RelO.some_of (v := v) (o := mA n) (by rw [← l]; exact hr n)
  have J : PySem.W.InstAt s1.heap a oe C (some od) := ⟨ha, hc, by unfold PySem.W.notCls; rw [hv] <;> rfl, by rw [hdd]; exact ho⟩
  exact HandSPX.exc_get I1.kIn J T.ga T.gg T.exC (PySem.W.findObj_own T.hdC hno rfl (by rw [hl, hu])) (handed_of ru) ⟨v, H1, I1.tok _, ru, q⟩
/-- from now on it is tracked -/
theorem Inv.track9 {H : Hp} {pins : List (Addr × Obj)} {σ : St} {s : Shared} {a : Addr} {oe : Obj} (I : Inv X ((a, oe) :: pins) σ H s) (h0 : X.s_0.heap.get? a = none) (hp : ∀ p ∈ X.pn ++ pins, p.1 ≠ a) : Inv X pins σ (upd H a (heldO a oe)) s := by
  obtain ⟨ha, hn, hL, hF, hcell⟩ := I.pin (a, oe) (List.mem_append_right _ List.mem_cons_self)
  have ne : ∀ {b : Addr} {o : HO}, H b = some o → b ≠ a := fun {b o} e z => by rw [z, hn] at e; cases e
  have ne0 : ∀ {b : Addr} {o : Obj}, X.s_0.heap.get? b = some o → b ≠ a := fun {b o} e z => by rw [z, h0] at e; cases e
  have hc : ∀ x c, X.env.cells.lookup x = some c → c ≠ a := fun x c e z => by
    obtain ⟨v, o, ho, hd⟩ := I.cell x c e
    rw [z, ha] at ho
    cases ho
    exact hcell _ hd
  refine ⟨I.ok, I.os, I.bare, ⟨I.base.keep, I.base.slot, fun b o e n hx => ?_, I.base.there, fun b xs e => ?_, fun b o u e => ?_, fun b ps e => ?_⟩, I.loc, I.cell, ?_, fun x c e => ?_, fun p hp' => ?_, fun b o e => ?_, I.len⟩
  · rw [upd_ne (ne0 e)]
    exact I.base.free b o e n hx
  · have z := I.base.tups b xs e
    rw [upd_ne (ne z)]
    exact z
  · have z := I.base.frzs b o u e
    rw [upd_ne (ne z)]
    exact z
  · obtain ⟨more, z⟩ := I.base.tbls b ps e
    exact ⟨more, by rw [upd_ne (ne z)]; exact z⟩
  · rw [upd_ne (fun z => hL z.symm)]
    exact I.free
  · rw [upd_ne (hc x c e)]
    exact I.freeC x c e
  · obtain ⟨e1, e2, e3⟩ := I.pin p (by
      rcases List.mem_append.mp hp' with z | z
      · exact List.mem_append_left _ z
      · exact List.mem_append_right _ (List.mem_cons_of_mem _ z))
    exact ⟨e1, by rw [upd_ne (hp p hp')]; exact e2, e3⟩
  · by_cases hb : b = a
    · subst hb
      rw [upd_same] at e
      cases e
      exact ⟨ha, ⟨oe, ha⟩, fun h1 h2 k1 k2 => k2 _ k1⟩
    · rw [upd_ne hb] at e
      refine (I.hok b o e).stay (fun b' u _ z => z) (fun b' z => ?_) (fun b' xs z => ?_)
      · rw [upd_ne (ne z)]
        exact z
      · rw [upd_ne (ne z)]
        exact z
end
/-- what the clause 'except x as n: ..' wishes, where n's exception stays held behind it -/
def wAsK9 (K : PySem.W.Frag) (c : Value) (i : Nat) (ts : Addr → Value → Option Addr → TS) (Wout : WX) (D : Ends) : WX := fun cls d σ H =>
  ∃ b, PySem.W.exmOne K cls c = some b ∧ (b = true → ∀ a oe, H a = none → Zc cls d oe → (∃ vs, oe.data = .fields vs) →
    ts a cls d { nx := fun σ' H' => H' a = none → D.nx (σ'.set i none) (upd H' a (heldO a oe)), rt := fun _ _ => False, bk := fun _ _ => False, ct := fun _ _ => False } (σ.set i (some (.ref a))) H) ∧
    (b = false → Wout cls d σ H)
section
variable {X : Cx} {x n : Str} {c : Value} {i : Nat} {body suite : List Stmt} {b₀ : Stmt} {np pos pos' : Pos} {tb : WX → TS} {ts : Addr → Value → Option Addr → TS} {Wout : WX}
theorem ps_tryK9 (hs : X.stack = X.env :: X.outer) (hf : X.env.frame = some X.env.locals) (hex : X.ex = []) (hN : X.N.Nodup) (hi : X.N[i]? = some n) (hln : X.env.kindOf n = some .local) (hc : Names X x c) (tk : Takes X Wout)
    (hb : ∀ (W : WX) (pn : List (Addr × Obj)) (xe : Value → Shared → Prop), Takes (X.tr pn xe) W → PassesOwn (model X.prog X.w) X.A X.env xe → PSs (X.tr pn xe) body (tb W))
    (hsu : ∀ (a : Addr) (oe : Obj) (cls : Value) (d : Option Addr) (pn : List (Addr × Obj)), Zc cls d oe → (∃ vs, oe.data = .fields vs) → PSs (X.suite a ((a, oe) :: pn)) (b₀ :: suite) (ts a cls d)) :
    PS X (.Try body [.ExceptHandler (some (.Name x np)) (some n) (b₀ :: suite) pos'] [] [] pos) (fun D σ H => tb (wAsK9 X.K c i ts Wout D) D σ H) := by
  refine ⟨fun pins s σ H D I h => ?_⟩
  have ok := I.ok
  have hfr : X.A.frames = some (X.env :: X.outer) := by rw [ok.frames, hs]
  have hloc : Loc X.env.scope n := .inl hln
  refine wpAny_Try_except ?_
  refine wpAny_mono ((hb (wAsK9 X.K c i ts Wout D) (X.pn ++ pins) (fun e s₁ => wpAny (model X.prog X.w) X.A (noteFrame e X.env) (fun _ s₂ => wpAny (model X.prog X.w) X.A (setFlight e none) (fun _ s₃ =>
    wpAny (model X.prog X.w) X.A (handleBy e X.env [.ExceptHandler (some (.Name x np)) (some n) (b₀ :: suite) pos']) (SP X pins D) X.xe s₃) X.xe s₂) X.xe s₁) (fun u s' xx => ?_) PassesOwn.looking).run [] s σ H D (I.toTry _) h) (fun f s1 hsp => ?_) (fun e s1 he => he)
  · -- the catch
    obtain ⟨a, B, sI, pins', σ', H', cls, d, rfl, J', nb, up, sky, na, os, ag, b, hb1, hyes, hno⟩ := xx
    have J : Inv X pins σ' H' sI := J'.ofTry ok
    have sky' : Sky B (X.env :: X.outer) a (Zc cls d) X.env.locals s'.heap := by rw [← hs]; exact sky
    show wpAny (model X.prog X.w) X.A (noteFrame (.ref a) X.env) _ _ _
    refine Sky.land Zc.steady hfr hf sky' fun h3 fl3 up3 => ?_
    have J3 : Inv X pins σ' H' { s' with heap := h3 } := J.landed nb fl3.1 (up.trans up3) os ag
    obtain ⟨oe3, vs3, he3, hz3, hd3⟩ := fl3.there
    have notFr : ∀ {h : Heap} {o : Obj} {vs : Array Value}, h.FunFrames B (X.env :: X.outer) → h.get? a = some o → o.data = .fields vs → a ∉ frs (X.env :: X.outer) := fun {h o vs} ff e dd hm => by
      obtain ⟨_, o', e', hnf⟩ := ff.mem hm
      rw [e] at e'; cases e'
      exact hnf _ dd
    have nfr := notFr fl3.2.2.1 he3 hd3
    have nL : a ≠ X.env.locals := fun z => nfr (List.mem_filterMap.mpr ⟨X.env, List.mem_cons_self, by rw [hf, z]⟩)
    have nF : a ∉ X.fs := fun hm => by
      obtain ⟨e, he, q⟩ := List.mem_filterMap.mp hm
      exact nfr (List.mem_filterMap.mpr ⟨e, List.mem_cons_of_mem _ he, q⟩)
    have nI : sI.heap.get? a = none := by
      cases e : sI.heap.get? a with
      | none => rfl
      | some o =>
        have z := nb a o e (by rw [hs]; exact nfr)
        rw [fl3.2.1] at z
        cases z
    have n0 : X.s_0.heap.get? a = none := by
      cases e : X.s_0.heap.get? a with
      | none => rfl
      | some o =>
        obtain ⟨o', z⟩ := J.base.there a o e (by rw [hex]; simp)
        rw [nI] at z
        cases z
    have nP : ∀ p ∈ X.pn ++ pins, p.1 ≠ a := fun p hp z => by
      have e := (J.pin p hp).1
      rw [z, nI] at e
      cases e
    have S3 := J3.suite he3 hd3 na nL nF
    refine wpAny_handleBy_cons (codeAny_handlers_test ?_) (by intro q; cases q)
    have LT : PySem.W.Looks (model X.prog X.w) h3 (typeOf (.ref a)) cls := fun A Q E s k q => wpAny_typeOf_ref (k _ _ he3) (by rw [hz3.1]; exact q)
    have LM := PySem.W.exm_one (M := model X.prog X.w) (J3.kIn) LT hb1
    have test : ∀ {Q : Value → Shared → Prop} {E : Value → Shared → Prop}, Q c { s' with heap := h3 } → wpAny (model X.prog X.w) (X.A.mark (some (.ref a))) (eval (.Name x np) X.env) Q E { s' with heap := h3 } := fun {Q E} q => by
      obtain ⟨hg, hdbg, hm | ⟨hm, hv, hnn⟩⟩ := hc
      · exact ld_glob (X := X.suite a ((a, oe3) :: (X.pn ++ pins))) S3 hg hm q hdbg
      · exact ld_blt (X := X.suite a ((a, oe3) :: (X.pn ++ pins))) S3 hg hm hv q hnn hdbg
    refine test (LM.here ?_)
    cases b with
    | true =>
      refine codeAny_handlers_suite_as ?_
      refine HandSPX.lands_againZ fl3 fun h4 fl4 up4 => ?_
      have J4 : Inv X pins σ' H' { s' with heap := h4 } := J.landed nb fl4.1 ((up.trans up3).trans up4) os ag
      obtain ⟨oe4, vs4, he4, hz4, hd4⟩ := fl4.there
      have S4 := J4.suite he4 hd4 na nL nF
      refine store_ok (X := X.suite a ((a, oe4) :: (X.pn ++ pins))) (v := .ref a) S4 hN hi hloc rfl (fun s5 S5 => ?_) (.inr hln)
      refine wpAny_mono ((hsu a oe4 cls d (X.pn ++ pins) hz4 ⟨_, hd4⟩).run [] s5 _ H' _ S5 (hyes rfl a oe4 na hz4 ⟨_, hd4⟩)) (fun f s6 hsp => ?_) (fun _ _ z => False.elim z)
      cases f with
      | next =>
        obtain ⟨σ6, H6, S6, q6⟩ := hsp
        have pa := S6.pin (a, oe4) (List.mem_append_left _ List.mem_cons_self)
        have I6 : Inv X ((a, oe4) :: pins) σ6 H6 s6 := (S6.unsuite ok).pins_of fun p hp => by
          rcases List.mem_cons.mp hp with rfl | hp
          · exact pa
          · exact (S6.unsuite ok).pin p (List.mem_append_right _ hp)
        exact gone_ok I6 hN hi hln fun s7 J7 => ⟨_, _, J7.track9 n0 nP, q6 pa.2.1⟩
      | brk =>
        obtain ⟨σ6, H6, S6, q6⟩ := hsp
        exact False.elim q6
      | cont =>
        obtain ⟨σ6, H6, S6, q6⟩ := hsp
        exact False.elim q6
      | ret u =>
        obtain ⟨v6, σ6, H6, S6, r6, q6⟩ := hsp
        exact False.elim q6
    | false =>
      show wpAny _ X.A (handleBy (.ref a) X.env []) _ _ _
      refine wpAny_handleBy_nil ?_
      obtain ⟨k1, k2, k3, oe, vs, T, oT, ts', he, hz, hd, h1, hr⟩ := id fl3
      unfold PySem.passOn
      refine wpAny_bind (wpAny_field he hd h1 ?_)
      rw [if_neg (show ¬ ((Value.ref T == Value.none) = true) from by simp)]
      have fin : wpAny (model X.prog X.w) X.A (setFlight (.ref a) X.env.frame) (fun _ s4 => wpAny (model X.prog X.w) X.A (throw (.ref a) : Sem Flow) (SP X pins D) X.xe s4) X.xe { s' with heap := h3 } := by
        rw [hf]
        refine HandSPX.setFlight_upZ fl3 fun h4 hh4 up4 => wpAny_throw (tk _ _ ?_)
        exact ⟨a, B, sI, pins, σ', H', cls, d, rfl, J, nb, (up.trans up3).trans up4, .inr (.inr (by rw [hs]; exact hh4)), na, os, ag, hno rfl⟩
      first
        | exact wpAny_bind (wpAny_pure (wpAny_bind fin))
        | exact wpAny_bind fin
  · cases f with
    | next =>
      obtain ⟨σ', H', J', q⟩ := hsp
      exact wpAny_execs_nil ⟨σ', H', J'.ofTry ok, q⟩
    | brk =>
      obtain ⟨σ', H', J', q⟩ := hsp
      exact ⟨σ', H', J'.ofTry ok, q⟩
    | cont =>
      obtain ⟨σ', H', J', q⟩ := hsp
      exact ⟨σ', H', J'.ofTry ok, q⟩
    | ret u =>
      obtain ⟨v, σ', H', J', r, q⟩ := hsp
      exact ⟨v, σ', H', J'.ofTry ok, r, q⟩
end
end L2
namespace L2
open PySem PySem.Spec PyProof.Rows LamX
section
variable {X : Cx} {pins : List (Addr × Obj)} {σ : L2.St} {H : Hp} {s : Shared}
/-- x(), in the def that got the lambda; what it lets out is W's at the slots that stand then -/
theorem pe_act9 {CXg : CXT} {Eg : XK} {Ng : List Str} {qg : Str} {sg : Scope} {g f c' : Addr} {cdg pm ctv : Value} {params : Arguments} {body : Expr} {scope : Scope} {k i : Nat} {a : Str} {pn : List (Addr × Obj)} {xe : Value → Shared → Prop} {W : WX} {tb : XK → TE} {p1 p2 : Pos}
    (I : Inv X pins σ H s) (L : LamS X.env.scope scope) (hf : s.heap.get? f = some (PySem.W.kla_obj "<lambda>" (X.env.qual ++ "<lambda>") params body scope (cloFrom X.env.cells scope.names []) pm c' ctv)) (hfn : H f = none) (hfr : f ∉ frs X.stack)
    (hbind : bindArgs (PySem.W.kla_fn "<lambda>" (X.env.qual ++ "<lambda>") params body scope (cloFrom X.env.cells scope.names []) pm (.ref c') ctv) ⟨[], []⟩ = pure [])
    (tk : Takes ((cxOf CXg X.prog X.w X.K X.mg X.base Ng qg sg g cdg X.A X.stack s H Eg).tr pn xe) W) (hr : Room (k + 1) (X.A.deeper (envOfC qg sg s.heap.objs.size g cdg)))
    (hbody : ∀ (A : Around) (outer : List Env) (s : Shared) (H : Hp) (E : XK), Room k (A.deeper (lamEnv X scope s.heap.objs.size f c')) → PE (lamCx X A outer s H E scope f c') body (tb E))
    (hN : Ng[i]? = some a) (hv : Vis sg a) (hd : (a == ("__debug__" : Str)) = false := by decide) (hcd : (a == ("__classdict__" : Str)) = false := by decide) :
    PE ((cxOf CXg X.prog X.w X.K X.mg X.base Ng qg sg g cdg X.A X.stack s H Eg).tr pn xe) (.Call (.Name a p1) [] [] p2)
      (fun σZ HZ Q => σZ[i]? = some (some (.ref f)) ∧ HZ c' = some (CodeO c' (X.env.qual ++ "<lambda>")) ∧ tb (fun cls d H' => W cls d σZ H') σ HZ Q) := by
  refine ⟨fun pinsZ sZ σZ HZ Q IZ h => ?_⟩
  obtain ⟨hs, hc, ht⟩ := h
  refine wpAny_Call_Name_kw (thn ((pe_var (pos := p1) (i := i) hN hv hd hcd).run pinsZ sZ σZ HZ (fun v H1 => v = .ref f ∧ H1 = HZ) IZ ⟨.ref f, hs, rfl, rfl⟩) fun u s1 ⟨v, H1, I1, r1, q1⟩ => ?_)
  obtain ⟨ev, eH⟩ := q1
  subst ev
  rw [eH] at I1
  obtain rfl : u = Value.ref f := r1
  have of1 : s1.heap.get? f = some (PySem.W.kla_obj "<lambda>" (X.env.qual ++ "<lambda>") params body scope (cloFrom X.env.cells scope.names []) pm c' ctv) := I1.base.keep f _ hf hfn hfr (fun z => nomatch (show f ∈ ([] : List Addr) from z))
  refine PySem.W.callWith_F0 ⟨_, _, _, _, of1⟩ ?_
  have un : Un (frs X.stack) [] H HZ s.heap s1.heap := I1.base
  obtain ⟨⟨oc, vs, t, hoc, hdc, hvc⟩, _, _⟩ := I1.hok c' _ hc
  have rc : codeAny (model X.prog X.w) (X.A.deeper (envOfC qg sg s.heap.objs.size g cdg)) (.call (.ref f) ⟨[], []⟩) (CR (L2.CX X.prog X.w) (envOfC qg sg s.heap.objs.size g cdg :: X.stack) X.prog X.w HZ s1 Q (fun cls d H' => W cls d σZ H')) s1 := by
    refine PySem.W.kla_callFunE hr.depth of1 rfl L.co L.gen rfl ⟨c', oc, vs, t, rfl, hoc, hdc, hvc⟩ ?_
    rw [hbind]
    refine wpAny_pure (wpAny_newFunctionEnv (fun y hy => (L.own y hy).2) (fun y hy => absurd hy (by simp)) (fun h₁ hns hsb => ⟨I1.nolimit.fresh _ hsb, ?_⟩) L.kind)
    show codeAny _ _ (.expr body (lamEnv X scope s1.heap.objs.size f c')) _ _
    have kp : ∀ b o, s1.heap.get? b = some o → h₁.get? b = some o := fun b o e => hsb.extBut b o (Nat.ne_of_lt (Heap.lt_size e)) (Heap.get?_push_of_some _ e)
    have J : Inv (lamCx X (X.A.deeper (envOfC qg sg s.heap.objs.size g cdg)) (envOfC qg sg s.heap.objs.size g cdg :: X.stack) s1 HZ (fun cls d H' => W cls d σZ H') scope f c') [] σ HZ { s1 with heap := h₁, toks := s1.toks + ([] : List (Str × Value)).length } :=
      lam_start2 I L I1.env0 hr.hd un hns kp
    refine PySem.W.kla_codeExpr (wpAny_mono ((hbody _ _ s1 HZ _ (hr.deeper _)).run [] _ _ HZ Q J ht) (fun v s' hq => ?_) fun e s' hq => hq)
    obtain ⟨w', H', J', rv, q⟩ := hq
    exact ⟨w', H', J'.os, J'.bare, J'.base, J'.hok, rv, q⟩
  refine wpAny_call (codeAny_mono rc fun r s' hq => ?_)
  cases r with
  | error e => exact tk e s' (XE.of_call I1 (fun _ _ _ h => h) hq)
  | ok fl =>
    cases fl with
    | ret u => exact I1.after hq
    | next => exact False.elim hq
    | brk => exact False.elim hq
    | cont => exact False.elim hq
end
end L2
namespace Fx
open PySem L2 LamX
/-- what is wanted of an exception: its class, its fields, the store -/
abbrev XP := Addr → List (Str × D) → List MO → Prop
def XOut (K : PySem.W.Frag) (ad : List Addr) (H : Hp) (X : XP) (W : XK) : Prop := ∀ C d fs H2 ad2 M2, Nx ad H ad2 H2 → StOk K ad2 H2 M2 → XdAt K ad2 H2 d fs → X C fs M2 → W (.ref C) d H2
theorem XOut.on {K : PySem.W.Frag} {ad ad1 : List Addr} {H H1 : Hp} {X : XP} {W : XK} (n : Nx ad H ad1 H1) (x : XOut K ad H X W) : XOut K ad1 H1 X W := fun C d fs H2 ad2 M2 m => x C d fs H2 ad2 M2 (n.trans m)
/-- an expression that may raise -/
def EvRx (c : SC) (δ : Dl) (M : List MO) (e : Expr) (Post : AQ) (X : XP) : Prop :=
  ∀ (y : Dyn c) (W : XK), Takes y.cx (fun cls d _ H => W cls d H) → ∀ (σ : L2.St) (H : Hp) (ad : List Addr), EnvOk c.K ad H σ δ → StOk c.K ad H M → ∀ Q : VK,
    (∀ v H2 ad2 a M2, Nx ad H ad2 H2 → StOk c.K ad2 H2 M2 → RepA c.K ad2 H2 a v → Post a M2 → Q v H2) → XOut c.K ad H X W → wE y.cx e σ H Q
/-- statements that may raise -/
def RunX (c : SC) (δ : Dl) (M : List MO) (sts : List Stmt) (D : AE) (X : XP) : Prop :=
  ∀ (y : Dyn c) (W : XK), Takes y.cx (fun cls d _ H => W cls d H) → ∀ (σ : L2.St) (H : Hp) (ad : List Addr), EnvOk c.K ad H σ δ → StOk c.K ad H M → ∀ E : Ends, EndsOk c.K ad H D E → XOut c.K ad H X W → wSs y.cx sts E σ H
abbrev ASpX := List AV → List MO → AQ → XP → Prop
def spOfX (K : PySem.W.Frag) (n : Nat) (A : ASpX) : Sp := fun vs H Q E => vs.length = n ∧ ∃ ad as M Post X, StOk K ad H M ∧ RepAs K ad H as vs ∧ A as M Post X ∧
  (∀ v H2 ad2 a M2, Nx ad H ad2 H2 → StOk K ad2 H2 M2 → RepA K ad2 H2 a v → Post a M2 → Q v H2) ∧ XOut K ad H X E
structure DefOkX (P : Program) (w : World) (K : PySem.W.Frag) (mg : Str → Option Value) (base : Heap) (k : Nat) (x : Str) (st : Stmt) (ps : List Str) (sp : Sp) : Prop where
  ex : ∃ fa fd, mg x = some (.ref fa) ∧ Fun K x x st fa fd ∧ Binds K fd ps [] ∧ FnOk P w K mg base (L2.CX P w) k fa fd ps sp
section
variable {P : Program} {w : World} {K : PySem.W.Frag} {mg : Str → Option Value} {base : Heap} {k : Nat} {x : Str} {st : Stmt} {ps N : List Str}
theorem fn_mkX {fa : Addr} {fd : FuncData} {ql : Str} {A : ASpX} (F : Fun K x ql st fa fd) (S : FnScope N ps (defScope st))
    (h : ∀ as M Post X, as.length = ps.length → A as M Post X → RunX (scOf P w K mg base N st k) (as.map some ++ List.replicate (N.length - as.length) none) M (defBody st) { nx := fun _ M2 => Fin M Post (.dat .non) M2, rt := Fin M Post } X) :
    FnOk P w K mg base (L2.CX P w) (k + 1) fa fd ps (spOfX K ps.length A) := by
  refine F.okX S (fun vs H Q E h => h.1) (fun cdv A' outer s H vs Q E hr hsp => ?_)
  obtain ⟨hl, ad, as, M, Post, X, hs, hr2, hA, q, qx⟩ := hsp
  have fin : ∀ v H2 ad2 a M2, Nx ad H ad2 H2 → StOk K ad2 H2 M2 → RepA K ad2 H2 a v → Fin M Post a M2 → Q v H2 := by
    intro v H2 ad2 a M2 n s2 r p
    rcases p with p | ⟨rest, rfl, p⟩
    · exact q v H2 ad2 a M2 n s2 r p
    · obtain ⟨t, rfl⟩ := n.pre
      have sb := hs.back s2
      rcases p with ⟨d, rfl, p⟩ | ⟨ds, rfl, p⟩ | ⟨j, ds, rfl, hj, hm, p⟩ | ⟨ds, rfl, p⟩
      · exact q v H2 ad (.dat d) M n.back sb r p
      · obtain ⟨b, xs, e, ⟨h1, h2⟩, h3⟩ := r
        exact q v H2 ad (.ls ds) M n.back sb ⟨b, xs, e, ⟨h1, fun z => h2 (List.mem_append_left _ z)⟩, h3⟩ p
      · obtain ⟨b, hb, e⟩ := r
        obtain ⟨b2, hb2, xs, h1, h3⟩ := s2.obj j _ hm
        rw [hb] at hb2
        cases hb2
        refine q v H2 ad (.ls ds) M n.back sb ⟨b, xs, e, ⟨h1, fun z => ?_⟩, h3⟩ p
        obtain ⟨i, hi⟩ := List.getElem?_of_mem z
        have hi2 := hi
        rw [← List.getElem?_append_left (l₂ := t) (List.getElem?_eq_some_iff.mp hi).1] at hi
        have := nd_ix s2.nd hi hb
        have h4 := (List.getElem?_eq_some_iff.mp hi2).1
        rw [hs.len] at h4
        omega
      · exact q v H2 ad (.tx ds) M n.back sb r p
  let env := PyProof.Rows.envOfC ql (defScope st) s.heap.objs.size fa cdv
  let y : Dyn (scOf P w K mg base N st k) := ⟨A'.deeper env, s, H, env, outer, env :: outer, [], [], (cxOf (L2.CX P w) P w K mg base N ql (defScope st) fa cdv A' outer s H E).xe, rfl, hr,
    passes_of (X := cxOf (L2.CX P w) P w K mg base N ql (defScope st) fa cdv A' outer s H E) rfl, trivial⟩
  have tk : Takes y.cx (fun cls d _ H => E cls d H) := takes_of (X := y.cx) rfl rfl rfl rfl
  exact ⟨wSs y.cx (defBody st), wSs_ok, h as M Post X (by rw [← repAs_length hr2]; exact hl) hA y E tk _ H ad (envOk_start hr2) hs _
    ⟨fun _ H2 ad2 _ M2 n _ s2 p => fin _ H2 ad2 (.dat .non) M2 n s2 rfl p, fun v H2 ad2 a M2 n s2 r p => fin v H2 ad2 a M2 n s2 r p, fun _ _ _ _ _ _ _ _ z => z.elim, fun _ _ _ _ _ _ _ _ z => z.elim⟩ qx⟩
end
section
variable {c : SC} {δ : Dl} {M : List MO} {Post : AQ} {X : XP} {D : AE} {a b e t : Expr} {es : List Expr} {pos p p1 p2 pos' : Pos} {x : Str} {k : Nat} {st : Stmt} {sts : List Stmt} {ps : List Str}
theorem rx_run (h : Run c δ M sts D) : RunX c δ M sts D X := fun y W _ σ H ad he hs E q _ => h y σ H ad he hs E q
theorem rx_cons (h : Run1 c δ M st { D with nx := fun δ1 M1 => RunX c δ1 M1 sts D X }) : RunX c δ M (st :: sts) D X := fun y W tk σ H ad he hs E q qx =>
  ⟨_, pss_cons wS_ok wSs_ok, h y σ H ad he hs _ ⟨fun σ2 H2 ad2 δ2 M2 n e s p => p y W tk σ2 H2 ad2 e s E (q.on n) (qx.on n), q.rt, q.bk, q.ct⟩⟩
theorem rx_if {b1 b2 : List Stmt} (h : EvT c δ M t fun k M1 => (k = true → RunX c δ M1 b1 { D with nx := fun δ1 M1 => RunX c δ1 M1 sts D X } X) ∧ (k = false → RunX c δ M1 b2 { D with nx := fun δ1 M1 => RunX c δ1 M1 sts D X } X)) : RunX c δ M (.If t b1 b2 pos :: sts) D X := fun y W tk σ H ad he hs E q qx => by
  refine ⟨_, pss_cons (ps_if wT_ok wSs_ok wSs_ok) wSs_ok, h y σ H ad he hs _ fun k H1 ad1 M1 n1 s1 p1 => ?_⟩
  have ends : EndsOk c.K ad1 H1 { D with nx := fun δ1 M1 => RunX c δ1 M1 sts D X } { E with nx := wSs y.cx sts E } :=
    ⟨fun σ2 H2 ad2 δ2 M2 n e s p => p y W tk σ2 H2 ad2 e s E (q.on (n1.trans n)) (qx.on (n1.trans n)), (q.on n1).rt, (q.on n1).bk, (q.on n1).ct⟩
  cases k with
  | true => exact iteT (p1.1 rfl y W tk σ H1 ad1 (he.nx n1) s1 _ ends (qx.on n1))
  | false => exact iteF (p1.2 rfl y W tk σ H1 ad1 (he.nx n1) s1 _ ends (qx.on n1))
/-- a class of the text, over ValueError, without own __init__ -/
class TxtExc (K : PySem.W.Frag) (mg : Str → Option Value) (x : Str) (C : outParam Addr) : Prop where
  gC : mg x = some (.ref C)
  q : PySem.W.excIn K C [.type "ValueError", .type "Exception", .type "BaseException", .type "object"] "ValueError.__new__" = true
  kC : PySem.W.keepIn K (.ref C) = true
  s1 : PySem.W.subIn K (.ref C) (.type "BaseException") = some true
  t1 : PySem.W.typeIn K (.ref C) = some (.type "type")
/-- raise X('text') -/
theorem rx_raiseT {C : Addr} {m : Str} {j : Nat} (T : TxtExc c.K c.mg x C) (hg : c.gl x) (h : X C [] M) (hdb : (x == ("__debug__" : Str)) = false := by decide) : RunX c δ M [.Raise (some (.Call (.Name x p) [.Constant (.str m) j p2] [] pos)) none pos'] D X := fun y W tk σ H ad he hs E q qx =>
  ⟨_, pss_one (ps_raise rfl tk (pmk_own (X := y.cx) PySem.F.excBase_ValueError T.q T.gC T.kC (raises_own T.s1 T.t1) (glS y hg) hdb)), qx C none [] H ad M Nx.refl hs rfl h⟩
/-- a def that may raise, called -/
theorem e_callX {A : ASpX} (F : DefOkX c.P c.w c.K c.mg c.base k x st ps (spOfX c.K ps.length A)) (hk : k ≤ c.k) (hg : c.gl x) (h : EvA c δ M (e :: es) fun as M1 => as.length = ps.length ∧ A as M1 Post X)
    (hst : ∀ env, starEach (e :: es) env = (false, eval e env) :: starEach es env) (hpl : ∀ env, (backTo pos (starEach es env)).any (·.1) = false) (hdb : (x == ("__debug__" : Str)) = false := by decide) : EvRx c δ M (.Call (.Name x p) (e :: es) [] pos) Post X := fun y W tk σ H ad he hs Q q qx => by
  obtain ⟨fa, fd, hm, F1, hb, ok⟩ := F.ex
  refine ⟨_, pe_call (X := y.cx) (E := W) ok (y.room.mono hk) (glS y hg) hm F1.kp hb .nil (passes_call tk fun _ _ _ _ h => h) wA_ok hdb (hst y.env) (hpl y.env), h y σ H ad he hs _ fun vs H1 ad1 as M1 n1 s1 r1 ⟨hl, hA⟩ => ?_⟩
  rw [List.append_nil]
  exact ⟨by rw [repAs_length r1]; exact hl, ad1, as, M1, Post, X, s1, r1, hA, fun v H2 ad2 a2 M2 n2 s2 r2 p2 => q v H2 ad2 a2 M2 (n1.trans n2) s2 r2 p2, qx.on n1⟩
/-- .. where it does not raise -/
theorem x_callX {A : ASpX} (F : DefOkX c.P c.w c.K c.mg c.base k x st ps (spOfX c.K ps.length A)) (hk : k ≤ c.k) (hg : c.gl x) (h : EvA c δ M (e :: es) fun as M1 => as.length = ps.length ∧ A as M1 Post fun _ _ _ => False)
    (hst : ∀ env, starEach (e :: es) env = (false, eval e env) :: starEach es env) (hpl : ∀ env, (backTo pos (starEach es env)).any (·.1) = false) (hdb : (x == ("__debug__" : Str)) = false := by decide) : EvX c δ M (.Call (.Name x p) (e :: es) [] pos) Post := fun y σ H ad he hs Q q =>
  e_callX F hk hg h hst hpl hdb y (fun _ _ _ => False) L2.takes0 σ H ad he hs Q q fun _ _ _ _ _ _ _ _ _ z => z
/-- isinstance(e, C), e a held exception -/
theorem x_isiX {CX : Addr} (hg : c.gl "isinstance") (hm : c.mg "isinstance" = none) (hg2 : c.gl x) (hm2 : c.mg x = some (.ref CX)) (h : EvX c δ M e fun a M1 => ∃ D fs k, a = .exc D fs ∧ ExcC c.K D ∧ PySem.W.kitOne c.K (.ref D) (.ref CX) = some k ∧ Post (.dat (.bl k)) M1)
    (hst : ∀ env, starEach [e, .Name x p1] env = (false, eval e env) :: starEach [.Name x p1] env) (hd : (x == ("__debug__" : Str)) = false := by decide) : EvX c δ M (.Call (.Name "isinstance" p) [e, .Name x p1] [] pos) Post := fun y σ H ad he hs Q q =>
  ⟨_, pe_callB (X := y.cx) call_isX9 (glS y hg) hm PyProof.Rows.boot_isinstance (pa_cons wE_ok (pa_cons (pe_glob (v := .ref CX) (glS y hg2) hm2 rfl hd) pa_nil (by rfl)) (hst y.env)) (by decide) (by decide) (hst y.env) (by rfl), h y σ H ad he hs _ fun v H1 ad1 a1 M1 n1 s1 r1 ⟨D, fs, k, e1, hC, hk, p1⟩ => by
    subst e1
    obtain ⟨aa, oe, rfl, h1, h2, h3, h4, h5⟩ := r1
    refine ⟨aa, D, oe, .ref CX, .ref CX, k, rfl, h2, h3, h4, ?_, hC, fun u r => r, hk, q _ H1 ad1 (.dat (.bl k)) M1 n1 s1 rfl p1⟩
    cases hdd : oe.dict with
    | none => exact .inl rfl
    | some dx =>
      rw [hdd] at h5
      obtain ⟨_, xs, hx, _⟩ := h5
      exact .inr ⟨dx, xs, rfl, hx⟩⟩
theorem x_isiXT {T : String} (hg : c.gl "isinstance") (hm : c.mg "isinstance" = none) (hg2 : c.gl x) (hm2 : c.mg x = none) (hv : bootBuiltins x = some (.type T)) (h : EvX c δ M e fun a M1 => ∃ D fs k, a = .exc D fs ∧ ExcC c.K D ∧ PySem.W.kitOne c.K (.ref D) (.type T) = some k ∧ Post (.dat (.bl k)) M1)
    (hst : ∀ env, starEach [e, .Name x p1] env = (false, eval e env) :: starEach [.Name x p1] env) (hn : x ≠ "__name__" := by decide) (hd : (x == ("__debug__" : Str)) = false := by decide) : EvX c δ M (.Call (.Name "isinstance" p) [e, .Name x p1] [] pos) Post := fun y σ H ad he hs Q q =>
  ⟨_, pe_callB (X := y.cx) call_isX9 (glS y hg) hm PyProof.Rows.boot_isinstance (pa_cons wE_ok (pa_cons (pe_bltn (v := .ty T) (glS y hg2) hm2 hv rfl hn hd) pa_nil (by rfl)) (hst y.env)) (by decide) (by decide) (hst y.env) (by rfl), h y σ H ad he hs _ fun v H1 ad1 a1 M1 n1 s1 r1 ⟨D, fs, k, e1, hC, hk, p1⟩ => by
    subst e1
    obtain ⟨aa, oe, rfl, h1, h2, h3, h4, h5⟩ := r1
    refine ⟨aa, D, oe, .ty T, .type T, k, rfl, h2, h3, h4, ?_, hC, fun u r => r, hk, q _ H1 ad1 (.dat (.bl k)) M1 n1 s1 rfl p1⟩
    cases hdd : oe.dict with
    | none => exact .inl rfl
    | some dx =>
      rw [hdd] at h5
      obtain ⟨_, xs, hx, _⟩ := h5
      exact .inr ⟨dx, xs, rfl, hx⟩⟩
/-- e.n, e a held exception -/
theorem x_excAt (h : EvX c δ M e fun a M1 => ∃ C fs d, a = .exc C fs ∧ XfC c.K C ∧ PySem.W.findIn c.K (.ref C) x = some none ∧ fs.lookup x = some d ∧ Post (.dat d) M1) (hb : ∀ env, attributeBase e x env (eval e env) = eval e env) : EvX c δ M (.Attribute e x pos) Post := fun y σ H ad he hs Q q =>
  ⟨_, pe_xf9 wE_ok (hb y.env), h y σ H ad he hs _ fun v H1 ad1 a1 M1 n1 s1 r1 ⟨C, fs, d, e1, hX, hf, hl, p1⟩ => by
    subst e1
    obtain ⟨aa, oe, rfl, h1, h2, h3, h4, h5⟩ := r1
    cases hdd : oe.dict with
    | none =>
      rw [hdd] at h5
      rw [show fs = [] from h5] at hl
      cases hl
    | some dx =>
      rw [hdd] at h5
      obtain ⟨_, xs, hx, hall⟩ := h5
      obtain ⟨v, e2, rv⟩ := hall x d hl
      exact ⟨aa, C, dx, oe, xs, v, rfl, h2, h3, h4, hdd, hx, hX, hf, e2, q v H1 ad1 (.dat d) M1 n1 s1 rv p1⟩⟩
end
end Fx
namespace Fx
open PySem L2 LamX
section
variable {c : SC} {δ : Dl} {M : List MO} {Post : AQ} {p pos lpos : Pos} {params : Arguments} {body : Expr} {scope : Scope}
/-- the reading of the lambda's body, wherever it is called -/
def tLam9 (X : Cx) (k : Nat) (scope : Scope) (f c' : Addr) (body : Expr) (E : XK) : TE := fun σ H Q => ∀ (A : Around) (outer : List Env) (s : Shared) (H0 : Hp), Room k (A.deeper (lamEnv X scope s.heap.objs.size f c')) → wE (lamCx X A outer s H0 E scope f c') body σ H Q
theorem lam_read9 {k : Nat} {PV : AQ} {PX : XP} (h : EvRx (c.lam scope k) δ M body PV PX) (y : Dyn c) {f c' : Addr} {σ : L2.St} {H : Hp} {ad : List Addr} (he : EnvOk c.K ad H σ δ) (hs : StOk c.K ad H M) {E : XK} {Q : VK}
    (q : ∀ v H2 ad2 a M2, Nx ad H ad2 H2 → StOk c.K ad2 H2 M2 → RepA c.K ad2 H2 a v → PV a M2 → Q v H2) (qx : XOut c.K ad H PX E) : tLam9 y.cx k scope f c' body E σ H Q := fun A outer s0 H0 hr => by
  let yl : Dyn (c.lam scope k) := ⟨A.deeper (lamEnv y.cx scope s0.heap.objs.size f c'), s0, H0, lamEnv y.cx scope s0.heap.objs.size f c', outer, lamEnv y.cx scope s0.heap.objs.size f c' :: outer, [], [],
    (lamCx y.cx A outer s0 H0 E scope f c').xe, rfl, hr, passes_of (X := lamCx y.cx A outer s0 H0 E scope f c') (K := fun e s'' => L2.CX y.cx.prog y.cx.w outer H0 s0 E e s'') (E₁ := fun e s'' => L2.CX y.cx.prog y.cx.w outer H0 s0 E e s'') rfl, trivial⟩
  have tkl : Takes yl.cx (fun cls d _ H => E cls d H) := takes_of (X := yl.cx) (E₁ := fun e s'' => L2.CX y.cx.prog y.cx.w outer H0 s0 E e s'') rfl rfl rfl rfl
  exact h yl E tkl σ H ad he hs Q q qx
/-- the names of the law's _law_heard -/
abbrev heardN : List Str := ["deed", "kept", "found", "e", "kind"]
/-- x(lambda: body), x the law's _law_heard: it tries what it got, and keeps the exception -/
theorem x_heard {cd Pt TE : Addr} {ql xh : Str} {sth st1 : Stmt} {rest : List Stmt} {q1 q2 q3 q4 q5 q6 q7 q8 q9 q10 : Pos} {k : Nat} {gh : Addr} {fdh : FuncData} (jt : Nat) (hE : ∀ cv q, c.okE cv q → cv = .ref cd ∧ q = ql) (TB : TabB c.base c.mg cd Pt) (L : LamS c.sc scope)
    (hdef : ∀ env, defaultsOf params env = ([], [])) (hbind : ∀ (q : Str) (cl : List (Str × Addr)) (pm cv ctv : Value), bindArgs (PySem.W.kla_fn "<lambda>" q params body scope cl pm cv ctv) ⟨[], []⟩ = pure [])
    (hg : c.gl xh) (hmh : c.mg xh = some (.ref gh)) (Fh : Fun c.K xh xh sth gh fdh) (hbh : Binds c.K fdh ["deed"] []) (Sh : FnScope heardN ["deed"] (defScope sth))
    (hbd : defBody sth = st1 :: .Try [.Assign [.Name "found" q1] (.Call (.Name "deed" q2) [] [] q3) q4] [.ExceptHandler (some (.Name "TicketError" q5)) (some "e") [.Assign [.Name "kept" q6] (.Name "e" q7) q8] q9] [] [] q10 :: rest)
    (hsc : (defScope sth).names.lookup ("deed" : Str) = some .local ∧ (defScope sth).names.lookup ("kept" : Str) = some .local ∧ (defScope sth).names.lookup ("found" : Str) = some .local ∧ (defScope sth).names.lookup ("e" : Str) = some .local ∧ (defScope sth).names.lookup ("TicketError" : Str) = some .globalImplicit)
    (hmT : c.mg "TicketError" = some (.ref TE)) (hk : c.k = k + 2)
    (hw1 : ∀ env, swapsWith (.Call (.Name "deed" q2) [] [] q3) (some (.Name "found" q1)) q4.line env = pure false) (hw2 : ∀ env, swapsWith (.Name "e" q7) (some (.Name "kept" q6)) q8.line env = pure false)
    (hst1 : ∀ (f : Addr) (M' : List MO) (D : AE), D.nx [some (.fn f), some (.dat .non), some (.dat .non), none, none] M' → Run1 (scOf c.P c.w c.K c.mg c.base heardN sth (k + 1)) [some (.fn f), none, none, none, none] M' st1 D)
    (hjt : M[jt]? = some (.tab Pt (ql ++ "<lambda>")))
    (h : EvRx (c.lam scope k) δ M body
      (fun a M2 => ∀ f, Run (scOf c.P c.w c.K c.mg c.base heardN sth (k + 1)) [some (.fn f), some (.dat .non), some a, none, none] M2 rest { nx := fun _ _ => False, rt := Post })
      (fun C fs M2 => PySem.W.exmOne c.K (.ref C) (.ref TE) = some true ∧ ∀ f, Run (scOf c.P c.w c.K c.mg c.base heardN sth (k + 1)) [some (.fn f), some (.exc C fs), some (.dat .non), none, none] M2 rest { nx := fun _ _ => False, rt := Post }))
    (hdb : (xh == ("__debug__" : Str)) = false := by decide) : EvX c δ M (.Call (.Name xh p) [.Lambda params body scope lpos] [] pos) Post := fun y σ H ad he hs Q q => by
  refine ⟨_, tAll_ok, fun pins s I => ?_⟩
  have hg' := glS y hg
  obtain ⟨ecode, equal⟩ := hE _ _ y.en
  have L' : LamS y.cx.env.scope scope := by rw [show y.cx.env.scope = c.sc from y.sc]; exact L
  have hT0 : TabS H Pt (y.cx.env.qual ++ "<lambda>") := by
    obtain ⟨a, ha, haP, hT⟩ := hs.obj jt _ hjt
    subst haP
    rw [show y.cx.env.qual = ql from equal]
    exact hT
  obtain ⟨oc, od, kV, doc, pmh, an, cdv, ct, osl, rfl, lk, hcdh⟩ := Fh.ex
  refine wpAny_Call_Name_kw (ld_glob I hg' hmh ?_ hdb)
  refine PySem.W.callWith_K (h₀ := y.cx.base) I.ok.mod.kin Fh.kp ?_ (by rfl) (by rfl)
  show wpAny _ _ (spliced ((false, eval (.Lambda params body scope lpos) y.cx.env) :: backTo pos (starEach [] y.cx.env))) _ _ s
  refine Calls.spliced_cons (lam_make9 I TB ecode hT0 (hdef _) (L'.has I.ok) fun f c' pm ctv H1 s1 I1 hup hT1 hf hfn hfr hco => ?_)
  refine Calls.spliced_nil ⟨I1.kIn, ?_⟩
  rw [show y.cx.env.qual = ql from equal] at hup hT1
  obtain ⟨S1, n1⟩ := tab_nx hs hjt hT1 hup
  have hr0 : Room (k + 1 + 1) y.cx.A := by
    have := y.room
    rw [hk] at this
    exact this
  have rc : codeAny (model y.cx.prog y.cx.w) y.cx.A (.call (.ref gh) ⟨[.ref f], []⟩) (CR CX0 y.cx.stack y.cx.prog y.cx.w H1 s1 Q (fun _ _ _ => False)) s1 := by
    refine run_ofS (N := heardN) (ps := ["deed"]) (us := [.ref f]) (vs := [.ref f]) lk hcdh Sh hr0 I1.env0 (hbh s1 [.ref f] I1.kIn rfl) (.cons rfl .nil) rfl fun hr' => ?_
    let env := PyProof.Rows.envOfC xh (defScope sth) s1.heap.objs.size gh cdv
    let yz : Dyn (scOf c.P c.w c.K c.mg c.base heardN sth (k + 1)) := ⟨y.cx.A.deeper env, s1, H1, env, y.cx.stack, env :: y.cx.stack, [], [], fun _ _ => False, rfl, hr', PassesOwn.never, trivial⟩
    have nd := Sh.nd
    have tryOk : PS yz.cx (.Try [.Assign [.Name "found" q1] (.Call (.Name "deed" q2) [] [] q3) q4] [.ExceptHandler (some (.Name "TicketError" q5)) (some "e") [.Assign [.Name "kept" q6] (.Name "e" q7) q8] q9] [] [] q10) _ :=
      ps_tryK9 (X := yz.cx) (i := 3) (Wout := fun _ _ _ _ => False) rfl rfl rfl nd rfl hsc.2.2.2.1 ⟨hsc.2.2.2.2, by decide, .inl hmT⟩ L2.takes0
        (fun W pn xe tk _ => pss_one (ps_set (X := yz.cx.tr pn xe) (i := 2) nd rfl (.inl hsc.2.2.1)
          (pe_act9 (X := y.cx) (CXg := CX0) (Eg := fun _ _ _ => False) (Ng := heardN) (qg := xh) (sg := defScope sth) (g := gh) (cdg := cdv) (k := k) (i := 0) (tb := tLam9 y.cx k scope f c' body) I1 L' hf hfn hfr (hbind _ _ _ _ _) tk hr' (fun A outer s H E hr2 => ⟨fun pins s' σ' H' Q' I' hq => wE_ok.run pins s' σ' H' Q' I' (hq A outer s H hr2)⟩) rfl (.inl hsc.1))
          (hw1 _) (.inl rfl)))
        (fun a oe cls d pn _ _ => pss_one (ps_set (X := yz.cx.suite a ((a, oe) :: pn)) (i := 1) nd rfl (.inl hsc.2.1) (pe_var (X := yz.cx.suite a ((a, oe) :: pn)) (i := 3) rfl (.inl hsc.2.2.2.1)) (hw2 _) (.inl rfl)))
    rw [hbd]
    refine ⟨_, PSs.nox (pss_cons (X := yz.cx) wS_ok (pss_cons tryOk wSs_ok)), ?_⟩
    have e0 : EnvOk c.K ad H1 (L2.start heardN [.ref f]) [some (.fn f), none, none, none, none] := envOk_start (as := [.fn f]) ⟨.ref f, [], rfl, rfl, rfl⟩
    refine hst1 f M { nx := fun δ2 M2 => δ2 = [some (.fn f), some (.dat .non), some (.dat .non), none, none] ∧ M2 = M, rt := fun _ _ => False } ⟨rfl, rfl⟩ yz (L2.start heardN [.ref f]) H1 ad e0 S1 _ ⟨fun σ2 H2 ad2 δ2 M2 n2 e2 s2 ⟨ed, eM⟩ => ?_, fun _ _ _ _ _ _ _ _ z => z.elim, fun _ _ _ _ _ _ _ _ z => z.elim, fun _ _ _ _ _ _ _ _ z => z.elim⟩
    subst ed eM
    obtain ⟨vf, hvf, rf⟩ := e2.at_ 0 _ rfl
    have hc2 : H2 c' = some (CodeO c' (y.cx.env.qual ++ "<lambda>")) := n2.tx.ext _ _ hco
    have n02 : Nx ad H ad2 H2 := n1.trans n2
    have ends : ∀ {ad3 : List Addr} {H3 : Hp}, Nx ad H ad3 H3 → EndsOk c.K ad3 H3 { nx := fun _ _ => False, rt := Post } { nx := fun _ H' => Q .non H', rt := Q } := fun n3 =>
      ⟨fun _ _ _ _ _ _ _ _ z => z.elim, fun v H4 ad4 a4 M4 n4 s4 r4 p4 => q v H4 ad4 a4 M4 (n3.trans n4) s4 r4 p4, fun _ _ _ _ _ _ _ _ z => z.elim, fun _ _ _ _ _ _ _ _ z => z.elim⟩
    refine ⟨by rw [hvf, show vf = .ref f from rf], hc2, lam_read9 h y (he.nx n02) s2 (fun v H3 ad3 a3 M3 n3 s3 r3 hp => ?_) (fun C d fs H3 ad3 M3 n3 s3 hx hp => ?_)⟩
    · exact hp f yz (σ2.set 2 (some v)) H3 ad3 ((e2.nx n3).set r3) s3 _ (ends (n02.trans n3))
    · obtain ⟨hex, hrun⟩ := hp
      refine ⟨true, hex, fun _ a oe hna hz hfl => ?_, fun z => (by cases z)⟩
      have lσ : 3 < σ2.length := by rw [e2.len]; show 3 < 5; decide
      refine ⟨.ref a, by rw [List.getElem?_set_self lσ], fun hna2 => ?_⟩
      have sm := same_new (o := heldO a oe) hna2
      have n4 : Nx ad3 H3 ad3 (upd H3 a (heldO a oe)) := Nx.same sm
      have hz1 : oe.cls = .ref C := hz.1
      have hz2 : oe.dict = d := hz.2
      have rex : RepA c.K ad3 (upd H3 a (heldO a oe)) (.exc C fs) (.ref a) := ⟨a, oe, rfl, s3.free hna2, upd_same, hz1, hfl, by rw [hz2]; exact hx.nx n4⟩
      have env4 : EnvOk c.K ad3 (upd H3 a (heldO a oe)) (((σ2.set 3 (some (.ref a))).set 1 (some (.ref a))).set 3 none) [some (.fn f), some (.exc C fs), some (.dat .non), none, none] :=
        EnvOk.unset (((((e2.nx n3).nx n4).set (i := 3) (a := .fn a) (v := .ref a) rfl).set (i := 1) rex)) (i := 3)
      exact hrun f yz _ _ ad3 env4 (s3.same sm) _ (ends ((n02.trans n3).trans n4))
  refine wpAny_call (codeAny_mono rc fun r s2 hq => ?_)
  cases r with
  | error e => exact (show False from hq).elim
  | ok fl =>
    cases fl with
    | ret u => exact I1.after hq
    | next => exact False.elim hq
    | brk => exact False.elim hq
    | cont => exact False.elim hq
end
end Fx
namespace Fx
open PySem L2 LamX
/-- the program's exceptions: cs their classes, in the law's order, TE their base, rs those that are raised -/
class Exs (K : PySem.W.Frag) (mg : Str → Option Value) (cs : outParam (Nat → Addr)) (TE : outParam Addr) (rs : outParam (List Nat)) : Prop where
  te : mg "TicketError" = some (.ref TE)
  n0 : mg "NoDraw" = some (.ref (cs 0))
  n1 : mg "NoNumber" = some (.ref (cs 1))
  n2 : mg "NoTicket" = some (.ref (cs 2))
  n3 : mg "Closed" = some (.ref (cs 3))
  n4 : mg "NoName" = some (.ref (cs 4))
  n5 : mg "NoBack" = some (.ref (cs 5))
  n6 : mg "NoText" = some (.ref (cs 6))
  own : ∀ i ∈ rs, i < 7 ∧ ExcC K (cs i) ∧ PySem.W.exmOne K (.ref (cs i)) (.ref TE) = some true ∧ PySem.W.kitOne K (.ref (cs i)) (.type "ValueError") = some true ∧ ∀ j, j < 7 → PySem.W.kitOne K (.ref (cs i)) (.ref (cs j)) = some (decide (i = j))
  fld : ∀ i ∈ rs, (i = 1 → XfC K (cs i) ∧ PySem.W.findIn K (.ref (cs i)) "number" = some none) ∧ (i = 4 → XfC K (cs i) ∧ PySem.W.findIn K (.ref (cs i)) "name" = some none) ∧ (i = 6 → XfC K (cs i) ∧ PySem.W.findIn K (.ref (cs i)) "at" = some none)
/-- what _law_heard tells of an exception -/
def heardD (i : Nat) (fs : List (Str × D)) : Option D := match i with
  | 1 => (fs.lookup ("number" : Str)).map fun d => .tup [.str "no number", d]
  | 4 => (fs.lookup ("name" : Str)).map fun d => .tup [.str "no name", d]
  | 6 => (fs.lookup ("at" : Str)).map fun d => .tup [.str "no text", d]
  | 0 => some (.tup [.str "no draw"])
  | 2 => some (.tup [.str "no ticket"])
  | 3 => some (.tup [.str "closed"])
  | 5 => some (.tup [.str "no back"])
  | _ => none
def kindS : List Str := ["no draw", "no number", "no ticket", "closed", "no name", "no back", "no text"]
section
variable {c : SC} {δ : Dl} {M : List MO} {Post : AQ} {X : XP} {a b e t : Expr} {es : List Expr} {pos p p1 p2 pos' : Pos} {x : Str} {k : Nat} {st : Stmt} {ps : List Str}
/-- a def that may raise, called with keywords -/
theorem e_callKX {A : ASpX} {kws : List Keyword} {m n : Nat} (ks : List Str) (F : DefOkX c.P c.w c.K c.mg c.base k x st ps (spOfX c.K ps.length A)) (hk : k ≤ c.k) (hg : c.gl x)
    (hB : ∀ (kV doc pm : Value) (an : Option Addr) (cdv ct : Value) (us ws : List Value), us.length = m → ws.length = n → bindArgs (PySem.W.fnOf x x (defArgs st) (defBody st) (defScope st) .none kV doc pm an cdv ct) ⟨us, ks.zip ws⟩ = pure (ps.zip (us ++ ws)))
    (hmn : ps.length = m + n) (hn0 : 0 < m + n)
    (h : EvA c δ M (e :: es) fun as M1 => EvK c δ M1 kws fun bs M2 => as.length = m ∧ bs.length = n ∧ A (as ++ bs) M2 Post X)
    (hst : ∀ env, starEach (e :: es) env = (false, eval e env) :: starEach es env) (hall : ∀ env, (backToKw pos (keywordEach kws env)).all (·.1.isSome) = true) (hks : ∀ env, (backToKw pos (keywordEach kws env)).filterMap (·.1) = ks)
    (hpl : ∀ env, ((backTo pos (starEach (e :: es) env)).any (·.1) || (backToKw pos (keywordEach kws env)).any (·.1.isNone)) = false) (hdb : (x == ("__debug__" : Str)) = false := by decide) : EvRx c δ M (.Call (.Name x p) (e :: es) kws pos) Post X := fun y W tk σ H ad he hs Q q qx => by
  obtain ⟨fa, fd, hm, F1, hb, ok⟩ := F.ex
  have kb : KBinds c.K fd ps ks (ordK m n) (ordK m n) := by
    obtain ⟨oc, od, kV, doc, pm, an, cdv, ct, osl, rfl, lk, hcd⟩ := F1.ex
    refine ⟨fun s us ws _ hl => ?_, fun {vs us zs ws} r1 r2 => ?_⟩
    · unfold ordK at hl ⊢
      by_cases hc : us.length = m ∧ ws.length = n
      · rw [if_pos hc]
        exact .of_eq (hB kV doc pm an cdv ct us ws hc.1 hc.2)
      · rw [if_neg hc] at hl
        rw [hmn] at hl
        exact absurd hl (by show ¬ (0 = m + n); omega)
    · unfold ordK
      rw [r1.length, r2.length]
      split
      · exact vals_append r1 r2
      · exact .nil
  refine ⟨_, pe_callK (X := y.cx) (E := W) ok (y.room.mono hk) (glS y hg) hm F1.kp kb (passes_call tk fun _ _ _ _ h => h) wA_ok wK_ok (hall y.env) (hks y.env) hdb (hst y.env) (hpl y.env), h y σ H ad he hs _ fun vs H1 ad1 as M1 n1 s1 r1 p1 => p1 y σ H1 ad1 (he.nx n1) s1 _ fun us H2 ad2 bs M2 n2 s2 r2 ⟨hl1, hl2, hA⟩ => ?_⟩
  have e1 : vs.length = m := by rw [repAs_length r1]; exact hl1
  have e2 : us.length = n := by rw [repAs_length r2]; exact hl2
  show spOfX c.K ps.length A (ordK m n vs us) H2 Q W
  unfold ordK
  rw [if_pos ⟨e1, e2⟩]
  exact ⟨by rw [List.length_append, e1, e2]; exact hmn.symm, ad2, as ++ bs, M2, Post, X, s2, repAs_append (r1.nx n2) r2, hA, fun v H3 ad3 a3 M3 n3 s3 r3 p3 => q v H3 ad3 a3 M3 ((n1.trans n2).trans n3) s3 r3 p3, qx.on (n1.trans n2)⟩
end
/-! < of tuples of ints -/
section
variable {X : Cx}
theorem op_ltD9 (hu : X.A.units + 65 < cLine) : OpR X (compareOp .Lt) (fun x y H Q => ∃ d d', Dp X.K H x d ∧ Dp X.K H y d' ∧ PySem.W.alike d d' = true ∧ d ≠ .none ∧ d.depth ≤ 60 ∧ Q (.bl (PySem.W.dataLt d d')) H) := by
  intro pins s σ H x y v u Q I rx ry h
  obtain ⟨d, d', hd, hd', hal, hnn, hdp, q⟩ := h
  obtain ⟨as, r1⟩ := Dp.reads I d x v hd rx
  obtain ⟨bs, r2⟩ := Dp.reads I d' y u hd' ry
  have hm : min d.depth d'.depth ≤ d.depth := Nat.min_le_left _ _
  exact PySem.W.rcLt_alike _ _ X.A s v u _ _ r1 r2 hal hnn (by omega) X.prog X.w X.xe _ ⟨.bl _, H, I, rfl, q⟩
end
section
variable {c : SC} {M : List MO} {B : Bool → List MO → Prop}
theorem c_ltT {a b : List Int} (h : B (decide (a < b)) M) : CmpR c .Lt (.dat (tI a)) (.dat (tI b)) M B := fun z H ad st vx vy rx ry Q q => by
  refine ⟨_, op_ltD9 (by have := z.room.un; show z.A.units + 65 < cLine; omega), _, _, rep_dp rx, rep_dp ry, ?_, ?_, ?_, ?_⟩
  · rw [tI_py, tI_py]
    simp only [PySem.W.alike]
    exact PySem.W.alike_ints _ _
  · rw [tI_py]
    intro z
    cases z
  · rw [tI_py]
    simp [PyData.depth, PySem.W.depth_ints]
  · rw [tI_py, tI_py, PySem.W.dataLt_tuple]
    show Q (.bl (PySem.W.rowLt (a.map .int) (b.map .int))) H
    rw [PySem.W.dataLt_ints]
    exact q _ H ad M Nx.refl st h
end
end Fx
namespace L2
open PySem PySem.Spec PyProof.Rows
section
variable {X : Cx}
theorem eqU_count9 {y : V} : ∀ {xs : List V} {us : List Value}, Vals xs us → xs.all flatV = true → us.countP (eqU y) = xs.countP fun z => eqV z y
  | _, _, .nil, _ => rfl
  | z :: xs, u :: us, .cons r t, f => by
    rw [List.all_cons, Bool.and_eq_true] at f
    rw [List.countP_cons, List.countP_cons, eqU_count9 t f.2, eqU_of r f.1]
def rCntF9 (K : PySem.W.Frag) : V → List V → Hp → VK → Prop := fun x xs H Q => ∃ (p : Addr) (ys : List V) (y : V), x = .ref p ∧ xs = [y] ∧ SqL K H p ys ∧ flatV y = true ∧ ys.all flatV = true ∧ Q (.int ((ys.countP fun z => eqV z y : Nat) : Int)) H
/-- xs.count(y), flat items -/
theorem mt_countF9 : MtR X "list.count" (rCntF9 X.K) := by
  intro pins s σ H x xs v us Q I rx rxs h
  obtain ⟨p, ys, y, rfl, rfl, hs, fy, fys, q⟩ := h
  cases rx
  obtain ⟨u, rfl, ru⟩ := rxs.one
  obtain ⟨its, rv, ⟨⟨cls, dd, data, sl⟩, n, ho, hc, hdn, hd⟩, hlen⟩ := I.list hs
  simp only at hc hd
  subst hc hd
  refine call_meets PySem.F.slot_list_count ⟨_, ho, rfl⟩ PySem.F.entry_list_count (PySem.F.args_list_count_2 _ _)
    (SeqAt.list_countAt p its.toArray n dd sl u (eqU y)) ⟨ho, fun u' hu' => mem_eqAt ru fy rv fys u' (by simpa using hu'), ?_⟩
  have ec : its.toArray.toList.countP (eqU y) = ys.countP fun z => eqV z y := eqU_count9 rv fys
  refine ⟨.int _, H, I.tok _, ⟨s.toks, ?_⟩, q⟩
  show Value.int ((its.toArray.toList.countP (eqU y) : Nat) : Int) s.toks = _
  rw [ec]
end
end L2
namespace Fx
open PySem L2
section
variable {c : SC} {δ : Dl} {M : List MO} {Post : AQ} {a b e o : Expr} {p p1 p2 p3 apos pos : Pos} {x : Str}
/-- xs.count(e), flat data -/
theorem x_lcountF (h : EvX c δ M o fun v M1 => ∃ ds : List D, v = .ls ds ∧ ds.all fl = true ∧ EvX c δ M1 e fun w M2 => ∃ d : D, w = .dat d ∧ fl d = true ∧ Post (.dat (.int (((ds.map flV).countP fun z => eqV z (flV d) : Nat) : Int))) M2)
    (hbase : ∀ env, attributeBase o "count" env (eval o env) = eval o env)
    (hfew : ∀ env, ((backTo pos (starEach [e] env)).all (fun x => !x.1) && (backToKw pos (keywordEach [] env)).all (fun x => x.1.isSome) && decide ([e].length + ([] : List Keyword).length + (if ([] : List Keyword).isEmpty then 0 else 1) < 30)) = true)
    (hline : (apos.endLine == pos.line) = true) (hst : ∀ env, starEach [e] env = (false, eval e env) :: starEach [] env) : EvX c δ M (.Call (.Attribute o "count" apos) [e] [] pos) Post := fun y σ H ad he hs Q q =>
  ⟨_, pe_bm (X := y.cx) PySem.F.plainAttrs_list PySem.F.slot_list_count PySem.F.type_list_count mt_countF9 wE_ok (pa_cons wE_ok pa_nil (hst y.env)) (hbase y.env) (hfew y.env) hline (hst y.env) rfl, h y σ H ad he hs _ fun v H1 ad1 a1 M1 n1 s1 r1 ⟨ds, e1, hf, p1⟩ => by
    subst e1
    obtain ⟨qq, xs, rfl, hq, rr⟩ := id r1
    refine ⟨.inl ⟨rfl, xs, hq.sq⟩, p1 y σ H1 ad1 (he.nx n1) s1 _ fun w H2 ad2 a2 M2 n2 s2 r2 ⟨d, e2, hfd, p2⟩ => ?_⟩
    subst e2
    obtain ⟨q3, xs3, e3, hq3, rr3⟩ := r1.nx n2
    cases e3
    obtain ⟨ew, fw⟩ := rep_fl r2 hfd
    obtain ⟨ex, fx⟩ := reps_fl rr3 hf
    refine ⟨qq, xs3, w, rfl, rfl, hq3.sq, fw, fx, ?_⟩
    rw [ew, ex]
    exact q _ H2 ad2 (.dat (.int _)) M2 (n1.trans n2) s2 rfl p2⟩
/-- xs.index(e), flat data -/
theorem x_lindexF (h : EvX c δ M o fun v M1 => ∃ ds : List D, v = .ls ds ∧ ds.all fl = true ∧ EvX c δ M1 e fun w M2 => ∃ (d : D) (j : Nat) (z : V), w = .dat d ∧ fl d = true ∧ (ds.map flV)[j]? = some z ∧ eqV z (flV d) = true ∧ (∀ (m : Nat) (z' : V), m < j → (ds.map flV)[m]? = some z' → eqV z' (flV d) = false) ∧ Post (.dat (.int (j : Nat))) M2)
    (hbase : ∀ env, attributeBase o "index" env (eval o env) = eval o env)
    (hfew : ∀ env, ((backTo pos (starEach [e] env)).all (fun x => !x.1) && (backToKw pos (keywordEach [] env)).all (fun x => x.1.isSome) && decide ([e].length + ([] : List Keyword).length + (if ([] : List Keyword).isEmpty then 0 else 1) < 30)) = true)
    (hline : (apos.endLine == pos.line) = true) (hst : ∀ env, starEach [e] env = (false, eval e env) :: starEach [] env) : EvX c δ M (.Call (.Attribute o "index" apos) [e] [] pos) Post := fun y σ H ad he hs Q q =>
  ⟨_, pe_bm (X := y.cx) PySem.F.plainAttrs_list PySem.F.slot_list_index PySem.F.type_list_index mt_index wE_ok (pa_cons wE_ok pa_nil (hst y.env)) (hbase y.env) (hfew y.env) hline (hst y.env) rfl, h y σ H ad he hs _ fun v H1 ad1 a1 M1 n1 s1 r1 ⟨ds, e1, hf, p1⟩ => by
    subst e1
    obtain ⟨qq, xs, rfl, hq, rr⟩ := id r1
    refine ⟨.inl ⟨rfl, xs, hq.sq⟩, p1 y σ H1 ad1 (he.nx n1) s1 _ fun w H2 ad2 a2 M2 n2 s2 r2 ⟨d, j, z, e2, hfd, hz, hze, hno, p2⟩ => ?_⟩
    subst e2
    obtain ⟨q3, xs3, e3, hq3, rr3⟩ := r1.nx n2
    cases e3
    obtain ⟨ew, fw⟩ := rep_fl r2 hfd
    obtain ⟨ex, fx⟩ := reps_fl rr3 hf
    subst ew ex
    exact ⟨qq, _, _, j, z, rfl, rfl, hq3.sq, fw, fx, hz, hze, hno, q _ H2 ad2 (.dat (.int (j : Nat))) M2 (n1.trans n2) s2 rfl p2⟩⟩
end
end Fx

/-! Fx, part U: exceptions with an own __init__, made with keywords. -/
namespace PySem
namespace HandSPX
open Builtin Builtin.ObjectAttr
section
variable {M : Model} {A : Around} {E : Value → Shared → Prop} {h : Heap} {g : Array GenState} {d : Drawn} {t : Nat} {os : OsState}
variable {nm q : Str} {C N : Addr} {bs bm bmB : List Value} {hdct : Bool} {sn : List Str} {sub : List Value} {ab : Bool} {col : Option Bool} {dd : Option Addr} {k0 k1 k2 k3 k5 : Option Value} {B newId initId : String} {kw : List (Str × Value)}
theorem check_new_ownK9 (F : ExcBaseFacts B newId initId bmB) (hT : ∀ X : String, bm.contains (.type X) = bmB.contains (.type X)) {rest : List Value} {Q : Unit → Shared → Prop}
    (hC : h.get? C = some (excClassObj nm q C N bs bm hdct sn sub ab col dd k0 k1 k2 k3 k5 newId)) (hq : Q () ⟨h, g, d, t, os⟩) : wpAny M A (checkBuiltinCall newId ⟨.ref C :: rest, kw⟩) Q E ⟨h, g, d, t, os⟩ := by
  have hcont : (Value.ref C :: bm).contains (.type B) = true := by rw [List.contains_cons, hT, F.hasB, Bool.or_true]
  have hstar := F.noStar
  simp only [checkBuiltinCall, F.newKind, F.newSplit, F.newRow]
  repeat (first | refine wpAny_loadPart_at hC ?_ | (refine wpAny_isSubtype_exc hC ?_; rw [hcont]) | refine wpAny_staticBase_exc hC ?_ | refine wpAny_madeBy_exc hC ?_ | simp only [bne_self_eq_false, Bool.false_eq_true, if_false] | wp_step)
  exact hq
theorem check_type_callK9 {rest : List Value} {Q : Unit → Shared → Prop} (hC : h.get? C = some (excClassObj nm q C N bs bm hdct sn sub ab col dd k0 k1 k2 k3 k5 newId))
    (hq : Q () ⟨h, g, d, t, os⟩) : wpAny M A (checkBuiltinCall "type.__call__" ⟨.ref C :: rest, kw⟩) Q E ⟨h, g, d, t, os⟩ := by
  have f3 := tc_sub
  have hT : (⟨h, g, d, t, os⟩ : Shared).TypeIs (.ref C) "type" := ⟨_, hC, rfl⟩
  simp only [checkBuiltinCall, tc_kind, tc_split]
  repeat (any_goals (first | assumption | with_reducible refine wpAny_loadPart_at hC ?_ | with_reducible refine wpAny_onRaise ?_ | with_reducible refine wpAny_map ?_ | wp_step))
end
section
variable {prog : Program} {w : World} {A : Around} {E : Value → Shared → Prop} {R : Result → Shared → Prop} {h : Heap} {g : Array GenState} {d : Drawn} {t : Nat} {os : OsState}
variable {nm q : Str} {C N : Addr} {bs bm bmB : List Value} {hdct : Bool} {sn : List Str} {sub : List Value} {ab : Bool} {col : Option Bool} {dd : Option Addr} {k0 k1 k2 k3 k5 : Option Value} {B newId initId : String} {kw : List (Str × Value)}
theorem new_ownK9 (F : ExcBaseFacts B newId initId bmB) (hT : ∀ X : String, bm.contains (.type X) = bmB.contains (.type X)) {rest : List Value}
    (hC : h.get? C = some (excClassObj nm q C N bs bm hdct sn sub ab col dd k0 k1 k2 k3 k5 newId))
    (hq : R (.ok (.ret (.ref (h.objs.size + 1)))) ⟨(h.push { cls := .type "tuple", data := .seq rest.toArray }).push
      { cls := .ref C, data := .fields #[.ref h.objs.size, .none, .none, .none, .bool false, .none] }, g, d, t, os⟩) (hrest : rest.length ≤ sizeLine) :
    codeAny (model prog w) A (.builtin newId ⟨.ref C :: rest, kw⟩) R ⟨h, g, d, t, os⟩ := by
  have hends := F.ends
  have hcB : (Value.ref C :: bm).contains (.type B) = true := by rw [List.contains_cons, hT, F.hasB, Bool.or_true]
  have hcA : (Value.ref C :: bm).contains (.type "AttributeError") = false := by rw [List.contains_cons, hT, F.noAttr]; rfl
  have hcN : (Value.ref C :: bm).contains (.type "NameError") = false := by rw [List.contains_cons, hT, F.noName]; rfl
  refine codeAny_builtinAt F.entry ?_
  unfold Builtin.«BaseException.__new__»
  refine wpAt_bind ?_
  show wpAt _ _ _ (stack >>= _) _ _ _
  refine wpAt_bind (wpAt_stack fun p below => wpAt_of_wpAny ?_)
  wp_walk
  refine wpAt_of_wpAny ?_
  rw [F.owner]
  repeat (first | with_reducible refine wpAny_madeHere_exc F.canon hC ?_ | with_reducible refine wpAny_loadPart_at hC ?_ | (with_reducible refine wpAny_isSubtype_exc hC ?_; first | rw [hcB] | rw [hcA] | rw [hcN]) | wp_step)
  show R _ _
  rw [Heap.size_push]
  exact hq
theorem type_call_ownK9 (F : ExcBaseFacts B newId initId bmB) (hT : ∀ X : String, bm.contains (.type X) = bmB.contains (.type X)) {rest : List Value} {fI : Addr} {Q : Fin → Shared → Prop}
    (hC : h.get? C = some (excClassObj nm q C N bs bm hdct sn sub ab col dd k0 k1 k2 k3 k5 newId))
    (hi : W.Looks (model prog w) h (typeLookup (.ref C) "__init__") (some (.ref fI))) (hb : ∀ self, W.Looks (model prog w) h (bindSpecial (.ref fI) self) (.ref fI, [self])) (hrest : rest.length ≤ sizeLine)
    (hq : codeAny (model prog w) A (.call (.ref fI) ⟨.ref (h.objs.size + 1) :: rest, kw⟩)
      (fun r s' => match r with | .ok (.ret v) => v = .none ∧ Q (.done (.ret (.ref (h.objs.size + 1)))) s' | .ok _ => False | .error e => E e s')
      ⟨(h.push (W.kdv_tup rest)).push (excO C h.objs.size), g, d, t, os⟩) :
    wpAny (model prog w) A (Builtin.«type.__call__» ⟨.ref C :: rest, kw⟩) Q E ⟨h, g, d, t, os⟩ := by
  repeat (first | with_reducible refine wpAny_loadPart_at hC ?_ | with_reducible refine wpAny_madeBy_exc hC ?_ | wp_step)
  refine codeAny_call_builtin_code (Code.quiet_builtin _ F.quiet) (check_new_ownK9 F hT hC ?_)
  refine new_ownK9 F hT hC ?_ hrest
  show wpAny _ _ _ _ _ _
  have k : ∀ b o, h.get? b = some o → ((h.push (W.kdv_tup rest)).push (excO C h.objs.size)).get? b = some o := fun b o e => Heap.get?_push_of_some _ (Heap.get?_push_of_some _ e)
  have hC₁ := k _ _ hC
  have hget : ((h.push (W.kdv_tup rest)).push (excO C h.objs.size)).get? (h.objs.size + 1) = some (excO C h.objs.size) := by heap_get
  have hcC : (Value.ref C :: bm).contains (.ref C) = true := by simp
  have i1 := hi.keeps k
  have b1 := (hb (.ref (h.objs.size + 1))).keeps k
  unfold isInstance
  repeat (first | with_reducible refine wpAny_loadPart_at hget ?_ | (with_reducible refine wpAny_isSubtype_exc hC₁ ?_; rw [hcC]) | wp_step)
  show wpAny _ _ (typeLookup (.ref C) _) _ _ _
  refine i1.at ?_
  refine wpAny_holding (wpAny_bind (b1.at ?_))
  refine wpAny_bind (wpAny_call (codeAny_mono hq fun r s' z => ?_))
  rcases r with e | (v | _ | _ | _) <;> first | exact z | exact z.elim | skip
  obtain ⟨rfl, z⟩ := z
  first
    | exact wpAny_pure (wpAny_pure z)
    | (wp_walk; exact z)
theorem call_ownK9 (F : ExcBaseFacts B newId initId bmB) (hT : ∀ X : String, bm.contains (.type X) = bmB.contains (.type X)) {rest : List Value} {fI : Addr}
    (hC : h.get? C = some (excClassObj nm q C N bs bm hdct sn sub ab col dd k0 k1 k2 k3 k5 newId))
    (hi : W.Looks (model prog w) h (typeLookup (.ref C) "__init__") (some (.ref fI))) (hb : ∀ self, W.Looks (model prog w) h (bindSpecial (.ref fI) self) (.ref fI, [self])) (hrest : rest.length ≤ sizeLine)
    (hq : codeAny (model prog w) (A.under (.builtin "type.__call__" ⟨.ref C :: rest, kw⟩)) (.call (.ref fI) ⟨.ref (h.objs.size + 1) :: rest, kw⟩) (W.InitBack (h.objs.size + 1) R)
      ⟨(h.push (W.kdv_tup rest)).push (excO C h.objs.size), g, d, t, os⟩) :
    codeAny (model prog w) A (.call (.ref C) ⟨rest, kw⟩) R ⟨h, g, d, t, os⟩ := by
  have f1 := tc_lookup
  have f2 := tc_bind (.ref C)
  have hTy : (⟨h, g, d, t, os⟩ : Shared).TypeIs (.ref C) "type" := ⟨_, hC, rfl⟩
  refine codeAny_of_tree ?_
  show wpAny _ _ (callAny (.ref C) _) _ _ _
  repeat (any_goals (first | assumption | with_reducible refine wpAny_loadPart_at hC ?_ | wp_step))
  refine ⟨rfl, ?_⟩
  refine codeAny_call_builtin_at (Code.quiet_builtin _ (by decide +kernel)) entry_typeCall (check_type_callK9 hC (type_call_ownK9 F hT hC hi hb hrest ?_))
  refine codeAny_mono hq fun r s' z => ?_
  rcases r with e | (v | _ | _ | _) <;> exact z
end
end HandSPX
end PySem
namespace L2
open PySem PySem.Spec PyProof.Rows
/-- __init__(self, f): self.f = f -/
def spIni9 (K : PySem.W.Frag) (f : Str) : Sp := fun vs H Q _ => ∃ (a C : Addr) (v : V), vs = [.ref a, v] ∧ OexC K C ∧ PySem.W.findIn K (.ref C) f = some none ∧ H a = some (exo a C none) ∧ ∀ dx, H dx = none → dx ≠ a → Q .non (upd (upd H dx (exd dx [(f, v)])) a (exo a C (some dx)))
theorem ini_ok9 {P : Program} {w : World} {K : PySem.W.Frag} {mg : Str → Option Value} {base : Heap} {qn f : Str} {fI : Addr} {fd : FuncData} {st : Stmt} {p1 p2 p3 p4 : Pos} {k : Nat}
    (S : FnScope ["self", f] ["self", f] (defScope st)) (hbd : defBody st = [.Assign [.Attribute (.Name "self" p1) f p2] (.Name f p3) p4]) (hl1 : (defScope st).names.lookup ("self" : Str) = some .local) (hl2 : (defScope st).names.lookup f = some .local)
    (hf1 : (f == ("__debug__" : Str)) = false) (hf2 : (f == ("__classdict__" : Str)) = false) (hw : ∀ env, swapsWith (.Name f p3) (some (.Attribute (.Name "self" p1) f p2)) p4.line env = pure false)
    (mk : (∀ (sp : Sp), (∀ vs H Q E, sp vs H Q E → vs.length = 2) → (∀ (cdv : Value) (A : Around) (outer : List Env) (s : Shared) (H : Hp) (vs : List V) (Q : VK) (E : XK), Room k (A.deeper (envOfC qn (defScope st) s.heap.objs.size fI cdv)) → sp vs H Q E →
      ∃ t, PSs (cxOf (L2.CX P w) P w K mg base ["self", f] qn (defScope st) fI cdv A outer s H E) (defBody st) t ∧ t { nx := fun _ H' => Q .non H', rt := Q } (start ["self", f] vs) H) → FnOk P w K mg base (L2.CX P w) (k + 1) fI fd ["self", f] sp)) :
    FnOk P w K mg base (L2.CX P w) (k + 1) fI fd ["self", f] (spIni9 K f) := by
  refine mk _ (fun vs H Q E h => ?_) fun cdv A outer s H vs Q E hr h => ?_
  · obtain ⟨a, C, v, rfl, _⟩ := h
    rfl
  obtain ⟨a, C, v, rfl, T, hno, ha, q⟩ := h
  rw [hbd]
  refine ⟨_, pss_one (ps_ost (pe_var (i := 0) rfl (.inl hl1)) (pe_var (i := 1) rfl (.inl hl2) hf1 hf2) (hw _)), ?_⟩
  exact ⟨v, rfl, .ref a, rfl, a, C, rfl, T, hno, .inl ⟨ha, q⟩⟩
section
variable {X : Cx}
theorem oex_make9 {CX : CXT} {pins : List (Addr × Obj)} {σ : St} {H : Hp} {s : Shared} {C fI : Addr} {k : Nat} {fd : FuncData} {f : Str} {us : List Value} {kw : List (Str × Value)} {v : V} {u : Value} {Q : XK} (T : OexC X.K C) (iC : PySem.W.findIn X.K (.ref C) "__init__" = some (some (.ref fI)))
    (tI : PySem.W.typeIn X.K (.ref fI) = some (.type "function")) (hno : PySem.W.findIn X.K (.ref C) f = some none) (F1 : FnOk X.prog X.w X.K X.mg X.base CX k fI fd ["self", f] (spIni9 X.K f)) (hr : Room (k + 1) X.A) (hx : Passes CX X (fun _ _ _ => False))
    (I : Inv X pins σ H s) (hus : us.length ≤ sizeLine) (hb : ∀ (s : Shared) (e : Addr), X.K.In s.heap → BindsTo s fd ⟨.ref e :: us, kw⟩ [("self", .ref e), (f, u)]) (rv : RelV v u) (q : ∀ d, H d = none → Q (.ref C) (some d) (upd H d (.xd [(f, v)]))) :
    wpAny (model X.prog X.w) X.A (call (.ref C) us kw) (MkP X pins σ Q) X.xe s := by
  obtain ⟨nm, qn, N, bs, bm, sn, sub, ab, col, dd, k0, k1, k2, k3, k5, hC, hbm⟩ := T.cls
  obtain ⟨hp, g, dr, tk, os⟩ := s
  have hsz : hp.objs.size ≤ hp.objs.size + 1 := Nat.le_succ _
  have hn : H (hp.objs.size + 1) = none := I.hok.fresh hsz
  have kk : ∀ b o, hp.get? b = some o → ((hp.push (PySem.W.kdv_tup us)).push (PySem.HandSPX.excO C hp.objs.size)).get? b = some o := fun b o e => Heap.get?_push_of_some _ (Heap.get?_push_of_some _ e)
  have hget : ((hp.push (PySem.W.kdv_tup us)).push (PySem.HandSPX.excO C hp.objs.size)).get? (hp.objs.size + 1) = some (PySem.HandSPX.excO C hp.objs.size) := by heap_get
  have I2 : Inv X pins σ (upd H (hp.objs.size + 1) (exo (hp.objs.size + 1) C none)) ⟨(hp.push (PySem.W.kdv_tup us)).push (PySem.HandSPX.excO C hp.objs.size), g, dr, tk, os⟩ :=
    I.laid (t' := tk) (a := hp.objs.size + 1) (o := exo (hp.objs.size + 1) C none) (h' := (hp.push (PySem.W.kdv_tup us)).push (PySem.HandSPX.excO C hp.objs.size)) kk hsz (exo_ok hget)
  have r2 : Vals [V.ref (hp.objs.size + 1), v] [Value.ref (hp.objs.size + 1), u] := .cons rfl (.cons rv .nil)
  refine wpAny_call (PySem.HandSPX.call_ownK9 F.excBase_ValueError (fun Y => PySem.HandSPX.refsVE_contains Y bm hbm) (I.kIn _ _ hC) (PySem.W.looks_findIn I.kIn iC) (fun self => PySem.W.bind_fn I.kIn self tI) hus
    (codeAny_mono (F1.run _ X.stack _ _ ⟨Value.ref (hp.objs.size + 1) :: us, kw⟩ [Value.ref (hp.objs.size + 1), u] _ (fun v H2 => v = .non ∧ ∃ (d : Addr) (fs : List (Str × V)), H2 (hp.objs.size + 1) = some (exo (hp.objs.size + 1) C (some d)) ∧ H2 d = some (exd d fs) ∧ H d = none ∧ Q (.ref C) (some d) (upd (del H2 (hp.objs.size + 1)) d (.xd fs))) (fun _ _ _ => False) (hr.make C us kw) (I2.env0.make C us kw) (hb _ _ I2.kIn) r2
      ⟨_, C, v, rfl, T, hno, upd_same, fun dx hdx hne => ⟨rfl, dx, [(f, v)], upd_same, by rw [upd_ne hne, upd_same], by rw [upd_ne hne] at hdx; exact hdx, ?_⟩⟩) fun r s' hq' => ?_))
  · have hdx' : H dx = none := by rw [upd_ne hne] at hdx; exact hdx
    have e : upd (del (upd (upd (upd H (hp.objs.size + 1) (exo (hp.objs.size + 1) C none)) dx (exd dx [(f, v)])) (hp.objs.size + 1) (exo (hp.objs.size + 1) C (some dx))) (hp.objs.size + 1)) dx (.xd [(f, v)]) = upd H dx (.xd [(f, v)]) := by
      funext b
      by_cases h1 : b = dx
      · rw [h1, upd_same, upd_same]
      · rw [upd_ne h1, upd_ne h1]
        by_cases h2 : b = hp.objs.size + 1
        · rw [h2, del_same, hn]
        · rw [del_ne h2, upd_ne h2, upd_ne h1, upd_ne h2]
    rw [e]
    exact q dx hdx'
  cases r with
  | error er => exact hx pins σ _ _ er s' I2 hq'
  | ok fl =>
    cases fl with
    | ret u =>
      obtain ⟨v, H2, os2, bare2, un2, hok2, rv, ev, d, fs, ea, ed, hd1, q2⟩ := hq'
      subst ev
      obtain ⟨h2, g2, d2, t2, os'⟩ := s'
      exact ⟨rv, mk_end (raises_own T.exC T.tyC) I hsz kk un2 hok2 os2 bare2 ea ed hd1 q2⟩
    | next => exact False.elim hq'
    | brk => exact False.elim hq'
    | cont => exact False.elim hq'
/-- C(f = e) -/
theorem pmk_oexK9 {CX : CXT} {C fI : Addr} {k : Nat} {fd : FuncData} {x f : Str} {e : Expr} {te : TE} {p pos kp : Pos} (T : OexC X.K C) (iC : PySem.W.findIn X.K (.ref C) "__init__" = some (some (.ref fI)))
    (tI : PySem.W.typeIn X.K (.ref fI) = some (.type "function")) (hno : PySem.W.findIn X.K (.ref C) f = some none) (F1 : FnOk X.prog X.w X.K X.mg X.base CX k fI fd ["self", f] (spIni9 X.K f)) (hr : Room (k + 1) X.A) (hx : Passes CX X (fun _ _ _ => False))
    (hb : ∀ (s : Shared) (e : Addr) (u : Value), X.K.In s.heap → BindsTo s fd ⟨[.ref e], [(f, u)]⟩ [("self", .ref e), (f, u)]) (hg : Gl X x) (hm : X.mg x = some (.ref C)) (he : PE X e te) (hdb : (x == ("__debug__" : Str)) = false := by decide) :
    PMk X (.Call (.Name x p) [] [⟨some f, e, kp⟩] pos) (fun σ H Q => te σ H fun v H1 => ∀ d, H1 d = none → Q (.ref C) (some d) (upd H1 d (.xd [(f, v)]))) := by
  intro pins s σ H Q I h
  refine wpAny_Call_Name_kw (ld_glob I hg hm ?_ hdb)
  refine PySem.W.callWith_KW0 (h₀ := X.base) I.ok.mod.kin T.kC (by rfl) (thn ((pk_cons (nm := some f) (kpos := kp) he pk_nil).run pos pins s σ H (fun vs H1 => match vs with | [v] => ∀ d, H1 d = none → Q (.ref C) (some d) (upd H1 d (.xd [(f, v)])) | _ => False) I h) fun us s1 ⟨vs, H1, I1, r1, q1⟩ => ⟨I1.kIn, ?_⟩) (by rfl)
  match vs, r1, q1 with
  | [v], r1, q1 =>
  obtain ⟨u, rfl, ru⟩ := r1.one
  exact oex_make9 T iC tI hno F1 hr hx I1 (by show 0 ≤ _; omega) (fun s e hk => hb s e u hk) ru q1
end
end L2
namespace Fx
open PySem L2 LamX
/-- a class of the text over ValueError, its __init__ stores its one parameter -/
class IniExc (K : PySem.W.Frag) (mg : Str → Option Value) (x : Str) (C : outParam Addr) (f : outParam Str) : Prop where
  gC : mg x = some (.ref C)
  T : OexC K C
  fld : PySem.W.findIn K (.ref C) f = some none
  ini : ∃ (fI : Addr) (fd : FuncData), PySem.W.findIn K (.ref C) "__init__" = some (some (.ref fI)) ∧ PySem.W.typeIn K (.ref fI) = some (.type "function") ∧
    (∀ (s : Shared) (e : Addr) (u : Value), K.In s.heap → BindsTo s fd ⟨[.ref e], [(f, u)]⟩ [("self", .ref e), (f, u)]) ∧
    (∀ (s : Shared) (e : Addr) (u : Value), K.In s.heap → BindsTo s fd ⟨[.ref e, u], []⟩ [("self", .ref e), (f, u)]) ∧
    ∀ (P : Program) (w : World) (base : Heap) (k : Nat), FnOk P w K mg base (L2.CX P w) (k + 1) fI fd ["self", f] (spIni9 K f)
section
variable {c : SC} {δ : Dl} {M : List MO} {Post : AQ} {X : XP} {D : AE} {a b e t : Expr} {es : List Expr} {pos p p1 p2 pos' kp : Pos} {x f : Str} {k : Nat} {st : Stmt} {ps : List Str}
theorem xd_out {K : PySem.W.Frag} {ad ad1 : List Addr} {H H1 : Hp} {M1 : List MO} {X : XP} {W : XK} {C dx : Addr} {f : Str} {v : V} {d : Fx.D} (qx : XOut K ad H X W) (n : Nx ad H ad1 H1) (s : StOk K ad1 H1 M1) (r : Rep K H1 d v) (hd : H1 dx = none) (h : X C [(f, d)] M1) : W (.ref C) (some dx) (upd H1 dx (.xd [(f, v)])) := by
  have sm := same_new (o := .xd [(f, v)]) hd
  refine qx C (some dx) [(f, d)] _ ad1 M1 (n.trans (Nx.same sm)) (s.same sm) ⟨s.free hd, [(f, v)], upd_same, fun f' d' hl => ?_⟩ h
  rw [List.lookup_cons] at hl ⊢
  by_cases hff : (f' == f) = true
  · rw [hff] at hl ⊢
    cases hl
    exact ⟨v, rfl, (show RepA K ad1 (upd H1 dx (.xd [(f, v)])) (.dat d) v from (show RepA K ad1 H1 (.dat d) v from r).nx (Nx.same sm))⟩
  · rw [Bool.eq_false_iff.mpr hff] at hl
    cases hl
/-- raise X(f = e) -/
theorem rx_raiseK {C : Addr} (T : IniExc c.K c.mg x C f) (hk : 2 ≤ c.k) (hg : c.gl x) (h : EvX c δ M e fun a M1 => ∃ d, a = .dat d ∧ X C [(f, d)] M1) (hdb : (x == ("__debug__" : Str)) = false := by decide) : RunX c δ M [.Raise (some (.Call (.Name x p) [] [⟨some f, e, kp⟩] pos)) none pos'] D X := fun y W tk σ H ad he hs E q qx => by
  obtain ⟨fI, fd, i1, i2, i3, i4, i5⟩ := T.ini
  refine ⟨_, pss_one (ps_raise rfl tk (pmk_oexK9 (X := y.cx) (k := 1) T.T i1 i2 T.fld (i5 _ _ _ 0) (y.room.mono hk) (passes_call tk fun _ _ _ _ h => h.elim) i3 (glS y hg) T.gC wE_ok hdb)), h y σ H ad he hs _ fun v H1 ad1 a1 M1 n1 s1 r1 ⟨d, e1, p1⟩ dx hdx => ?_⟩
  subst e1
  exact xd_out qx n1 s1 r1 hdx p1
/-- a def that may raise, called with keywords alone, in the order o of the parameters -/
theorem e_callKX0 {A : ASpX} {kws : List Keyword} {n : Nat} (ks : List Str) (o : {α : Type} → List α → List α) (F : DefOkX c.P c.w c.K c.mg c.base k x st ps (spOfX c.K ps.length A)) (hk : k ≤ c.k) (hg : c.gl x)
    (hB : ∀ (kV doc pm : Value) (an : Option Addr) (cdv ct : Value) (ws : List Value), ws.length = n → bindArgs (PySem.W.fnOf x x (defArgs st) (defBody st) (defScope st) .none kV doc pm an cdv ct) ⟨[], ks.zip ws⟩ = pure (ps.zip (o ws)))
    (hol : ∀ {α : Type} (l : List α), l.length = n → (o l).length = ps.length) (hor : ∀ {vs : List V} {us : List Value}, Vals vs us → us.length = n → Vals (o vs) (o us)) (hoA : ∀ {ad : List Addr} {H : Hp} {as : List AV} {vs : List V}, RepAs c.K ad H as vs → vs.length = n → RepAs c.K ad H (o as) (o vs))
    (hn0 : 0 < ps.length) (h : EvK c δ M kws fun bs M2 => bs.length = n ∧ A (o bs) M2 Post X)
    (hall : ∀ env, (backToKw pos (keywordEach kws env)).all (·.1.isSome) = true) (hks : ∀ env, (backToKw pos (keywordEach kws env)).filterMap (·.1) = ks)
    (hpl : ∀ env, ((backTo pos (starEach [] env)).any (·.1) || (backToKw pos (keywordEach kws env)).any (·.1.isNone)) = false) (hdb : (x == ("__debug__" : Str)) = false := by decide) : EvRx c δ M (.Call (.Name x p) [] kws pos) Post X := fun y W tk σ H ad he hs Q q qx => by
  obtain ⟨fa, fd, hm, F1, hb, ok⟩ := F.ex
  have kb : KBinds c.K fd ps ks (fun us ws => if us.length = 0 ∧ ws.length = n then o ws else []) (fun us ws => if us.length = 0 ∧ ws.length = n then o ws else []) := by
    obtain ⟨oc, od, kV, doc, pm, an, cdv, ct, osl, rfl, lk, hcd⟩ := F1.ex
    refine ⟨fun s us ws _ hl => ?_, fun {vs us zs ws} r1 r2 => ?_⟩
    · by_cases hc : us.length = 0 ∧ ws.length = n
      · rw [if_pos hc]
        have eu : us = [] := List.eq_nil_of_length_eq_zero hc.1
        subst eu
        exact .of_eq (hB kV doc pm an cdv ct ws hc.2)
      · rw [if_neg hc] at hl
        have : ([] : List Value).length = 0 := rfl
        omega
    · rw [r1.length, r2.length]
      by_cases hc : us.length = 0 ∧ ws.length = n
      · rw [if_pos hc, if_pos hc]
        exact hor r2 hc.2
      · rw [if_neg hc, if_neg hc]
        exact .nil
  refine ⟨_, pe_callK00 (X := y.cx) (E := W) (ks := ks) ok (y.room.mono hk) (glS y hg) hm F1.kp kb (passes_call tk fun _ _ _ _ h => h) wK_ok (hall y.env) (hks y.env) hdb (hpl y.env), h y σ H ad he hs _ fun us H2 ad2 bs M2 n2 s2 r2 ⟨l2, hA⟩ => ?_⟩
  have e1 : us.length = n := by rw [repAs_length r2]; exact l2
  show spOfX c.K ps.length A (if ([] : List V).length = 0 ∧ us.length = n then o us else []) H2 Q W
  rw [if_pos ⟨rfl, e1⟩]
  exact ⟨hol _ e1, ad2, o bs, M2, Post, X, s2, hoA r2 e1, hA, fun v H3 ad3 a3 M3 n3 s3 r3 p3 => q v H3 ad3 a3 M3 (n2.trans n3) s3 r3 p3, qx.on n2⟩
/-- two of them, the other way round -/
def swp {α : Type} : List α → List α
  | [a, b] => [b, a]
  | _ => []
theorem swp_len {α : Type} : ∀ l : List α, l.length = 2 → (swp l).length = 2
  | [_, _], _ => rfl
theorem swp_vals {vs : List V} {us : List Value} (r : Vals vs us) (h : us.length = 2) : Vals (swp vs) (swp us) := by
  match us, h, vs, r with
  | [_, _], _, [_, _], .cons r1 (.cons r2 .nil) => exact .cons r2 (.cons r1 .nil)
theorem swp_reps {K : PySem.W.Frag} {ad : List Addr} {H : Hp} {as : List AV} {vs : List V} (r : RepAs K ad H as vs) (h : vs.length = 2) : RepAs K ad H (swp as) (swp vs) := by
  have h2 := repAs_length r
  rw [h] at h2
  match vs, h, as, h2, r with
  | [_, _], _, [_, _], _, r =>
    obtain ⟨v1, r1, e1, h1, v2, r2, e2, h2, e3⟩ := r
    cases e1
    cases e2
    exact ⟨_, _, rfl, h2, _, _, rfl, h1, rfl⟩
end
end Fx

/-! Fx, part Ob: objects of the program's own classes. -/
namespace L2
open PySem
/-- o.m(e, .., k = v, ..) -/
theorem pe_methK9 {X : Cx} {CX : CXT} {k : Nat} {f C : Addr} {fd : FuncData} {ps ks : List Str} {sp : Sp} {m : Str} {pos apos : Pos} {e o : Expr} {es : List Expr} {kws : List Keyword} {g : List Value → List Value → List Value} {gV : List V → List V → List V} {E : XK} {ta : TE} {t tk : TA} {pl : Sem Bool}
    (he : PE X o ta) (c : Cls X.K C) (hm : Meth X.K C m f) (F : FnOk X.prog X.w X.K X.mg X.base CX k f fd ps sp) (hr : Room k X.A) (hb : KBinds X.K fd ps ks g gV) (hx : Passes CX X E) (ha : PA X (e :: es) t) (hkw : PK X kws tk)
    (hall : (backToKw pos (keywordEach kws X.env)).all (·.1.isSome) = true) (hks : (backToKw pos (keywordEach kws X.env)).filterMap (·.1) = ks)
    (hst : starEach (e :: es) X.env = (false, eval e X.env) :: starEach es X.env) (hpl : ((backTo pos (starEach (e :: es) X.env)).any (·.1) || (backToKw pos (keywordEach kws X.env)).any (·.1.isNone)) = false)
    (ht : eval (.Call (.Attribute o m apos) (e :: es) kws pos) X.env = (do
      let ov ← eval o X.env
      standAt apos.atName
      let (f, first) ← holding [ov] (getMethod ov m pl)
      callWith pos f first (backTo pos (starEach (e :: es) X.env)) (backToKw pos (keywordEach kws X.env)))) :
    PE X (.Call (.Attribute o m apos) (e :: es) kws pos) (fun σ H Q => ta σ H fun x H1 => ∃ a dx fs, x = .ref a ∧ H1 a = some (.ins C dx fs) ∧ fs.lookup m = none ∧ t σ H1 fun vs H2 => tk σ H2 fun zs H3 => sp (gV (x :: vs) zs) H3 Q E) := by
  refine ⟨fun pins s σ H Q I h => ?_⟩
  refine PySem.W.methodCall_KW (pl := pl) (thn (he.run pins s σ H _ I h) fun u s1 ⟨x, H1, I1, rx, a, dx, fs, ex, ea, l, q⟩ => ?_) ht
  subst ex
  obtain rfl : u = Value.ref a := rx
  refine getmeth_ok I1 ea c hm l ?_
  refine PySem.W.callWith_KW (first := [.ref a]) (h₀ := X.base) I.ok.mod.kin hm.kp hall (thn (ha.run pos pins s1 σ H1 _ I1 q) fun us s2 ⟨vs, H2, I2, r, q2⟩ => ?_) hpl hst
  refine thn (hkw.run pos pins s2 σ H2 _ I2 q2) fun ws s3 ⟨zs, H3, I3, rz, q3⟩ => ⟨I3.kIn, ?_⟩
  rw [hks]
  exact run_fnk (us := .ref a :: us) (vs := .ref a :: vs) F hr hb hx I3 (.cons rfl r) rz q3
/-- o.m(k = v, ..) -/
theorem pe_methK09 {X : Cx} {CX : CXT} {k : Nat} {f C : Addr} {fd : FuncData} {ps ks : List Str} {sp : Sp} {m : Str} {pos apos : Pos} {o : Expr} {kws : List Keyword} {g : List Value → List Value → List Value} {gV : List V → List V → List V} {E : XK} {ta : TE} {tk : TA} {pl : Sem Bool}
    (he : PE X o ta) (c : Cls X.K C) (hm : Meth X.K C m f) (F : FnOk X.prog X.w X.K X.mg X.base CX k f fd ps sp) (hr : Room k X.A) (hb : KBinds X.K fd ps ks g gV) (hx : Passes CX X E) (hkw : PK X kws tk)
    (hall : (backToKw pos (keywordEach kws X.env)).all (·.1.isSome) = true) (hks : (backToKw pos (keywordEach kws X.env)).filterMap (·.1) = ks)
    (hpl : ((backTo pos (starEach [] X.env)).any (·.1) || (backToKw pos (keywordEach kws X.env)).any (·.1.isNone)) = false)
    (ht : eval (.Call (.Attribute o m apos) [] kws pos) X.env = (do
      let ov ← eval o X.env
      standAt apos.atName
      let (f, first) ← holding [ov] (getMethod ov m pl)
      callWith pos f first (backTo pos (starEach [] X.env)) (backToKw pos (keywordEach kws X.env)))) :
    PE X (.Call (.Attribute o m apos) [] kws pos) (fun σ H Q => ta σ H fun x H1 => ∃ a dx fs, x = .ref a ∧ H1 a = some (.ins C dx fs) ∧ fs.lookup m = none ∧ tk σ H1 fun zs H3 => sp (gV [x] zs) H3 Q E) := by
  refine ⟨fun pins s σ H Q I h => ?_⟩
  refine PySem.W.methodCall_KW (pl := pl) (thn (he.run pins s σ H _ I h) fun u s1 ⟨x, H1, I1, rx, a, dx, fs, ex, ea, l, q⟩ => ?_) ht
  subst ex
  obtain rfl : u = Value.ref a := rx
  refine getmeth_ok I1 ea c hm l ?_
  refine PySem.W.callWith_KW0 (first := [.ref a]) (h₀ := X.base) I.ok.mod.kin hm.kp hall ?_ hpl
  refine thn (hkw.run pos pins s1 σ H1 _ I1 q) fun ws s3 ⟨zs, H3, I3, rz, q3⟩ => ⟨I3.kIn, ?_⟩
  rw [hks]
  exact run_fnk (us := [.ref a]) (vs := [.ref a]) F hr hb hx I3 (.cons rfl .nil) rz q3
end L2
namespace Fx
open PySem L2
/-- a method that keeps its promise; it may raise -/
structure MetOk (P : Program) (w : World) (K : PySem.W.Frag) (mg : Str → Option Value) (base : Heap) (CX : CXT) (k : Nat) (C : Addr) (m ql : Str) (st : Stmt) (ps : List Str) (sp : Sp) : Prop where
  ex : ∃ fa fd, Cls K C ∧ Meth K C m fa ∧ Fun K m ql st fa fd ∧ Binds K fd ps [] ∧ FnOk P w K mg base CX k fa fd ps sp
def putA (f : Str) (v : AV) : List (Str × AV) → List (Str × AV)
  | [] => [(f, v)]
  | (g, x) :: r => if g = f then (g, v) :: r else (g, x) :: putA f v r
section
variable {K : PySem.W.Frag} {ad : List Addr} {H : Hp}
theorem repF_A : ∀ {a : AV} {v : V}, RepF K ad H a v → RepA K ad H a v
  | .dat _, _, h => h
  | .mut _, _, h => h
  | .ls _, _, h => h.elim
  | .la _, _, h => h.elim
  | .ta _, _, h => h.elim
  | .scr _, _, h => h.elim
  | .tx _, _, h => h.elim
  | .exc _ _, _, h => h.elim
  | .fn _, _, h => h.elim
def isF : AV → Bool
  | .dat _ => true
  | .mut _ => true
  | _ => false
theorem repA_F : ∀ {a : AV} {v : V}, isF a = true → RepA K ad H a v → RepF K ad H a v
  | .dat _, _, _, h => h
  | .mut _, _, _, h => h
  | .ls _, _, z, _ => by cases z
  | .la _, _, z, _ => by cases z
  | .ta _, _, z, _ => by cases z
  | .scr _, _, z, _ => by cases z
  | .tx _, _, z, _ => by cases z
  | .exc _ _, _, z, _ => by cases z
  | .fn _, _, z, _ => by cases z
theorem repFs_lookup {f : Str} {a : AV} : ∀ {fs : List (Str × AV)} {xs : List (Str × V)}, RepFs K ad H fs xs → fs.lookup f = some a → ∃ v, xs.lookup f = some v ∧ RepA K ad H a v
  | [], _, _, h => by cases h
  | (g, b) :: fs, _, ⟨v, r, e, h1, h2⟩, h => by
    subst e
    rw [List.lookup_cons] at h ⊢
    cases hg : f == g with
    | true =>
      rw [hg] at h
      cases h
      exact ⟨v, rfl, repF_A h1⟩
    | false =>
      rw [hg] at h
      exact repFs_lookup h2 h
theorem repFs_none {f : Str} : ∀ {fs : List (Str × AV)} {xs : List (Str × V)}, RepFs K ad H fs xs → fs.lookup f = none → xs.lookup f = none
  | [], _, h, _ => by rw [show _ = [] from h]; rfl
  | (g, b) :: fs, _, ⟨v, r, e, h1, h2⟩, h => by
    subst e
    rw [List.lookup_cons] at h ⊢
    cases hg : f == g with
    | true => rw [hg] at h; cases h
    | false =>
      rw [hg] at h
      exact repFs_none h2 h
theorem repFs_len : ∀ {fs : List (Str × AV)} {xs : List (Str × V)}, RepFs K ad H fs xs → xs.length = fs.length
  | [], _, h => by rw [show _ = [] from h]; rfl
  | _ :: _, _, ⟨v, r, e, h1, h2⟩ => by rw [e, List.length_cons, List.length_cons, repFs_len h2]
theorem repFs_put {f : Str} {a : AV} {v : V} (q : RepF K ad H a v) : ∀ {fs : List (Str × AV)} {xs : List (Str × V)}, RepFs K ad H fs xs → RepFs K ad H (putA f a fs) (putF f v xs)
  | [], _, h => by rw [show _ = [] from h]; exact ⟨v, [], rfl, q, rfl⟩
  | (g, b) :: fs, _, ⟨u, r, e, h1, h2⟩ => by
    subst e
    unfold putA putF
    by_cases hg : g = f
    · rw [if_pos hg, if_pos hg]
      exact ⟨v, r, rfl, q, h2⟩
    · rw [if_neg hg, if_neg hg]
      exact ⟨u, _, rfl, h1, repFs_put q h2⟩
end
section
variable {c : SC} {δ : Dl} {M : List MO} {Post : AQ} {X : XP} {D : AE} {e o : Expr} {es : List Expr} {kws : List Keyword} {pos p apos pos' : Pos} {x m f ql : Str} {k : Nat} {st : Stmt} {sts : List Stmt} {ps : List Str} {C : Addr}
theorem st_ins {K : PySem.W.Frag} {ad : List Addr} {H : Hp} {j : Nat} {fs : List (Str × AV)} {v : V} (S : StOk K ad H M) (r : RepA K ad H (.mut j) v) (hm : M[j]? = some (.ins C fs)) : ∃ q dx xs, v = .ref q ∧ ad[j]? = some q ∧ H q = some (.ins C dx xs) ∧ RepFs K ad H fs xs := by
  obtain ⟨q, hq, e⟩ := r
  obtain ⟨q2, hq2, dx, xs, h1, h2⟩ := S.obj j _ hm
  rw [hq] at hq2
  cases hq2
  exact ⟨q, dx, xs, e, hq, h1, h2⟩
/-- o.f -/
theorem x_fld (h : EvX c δ M o fun v M1 => ∃ j C fs a, v = .mut j ∧ M1[j]? = some (.ins C fs) ∧ Cls c.K C ∧ NoAttr c.K C f ∧ fs.lookup f = some a ∧ Post a M1) (hb : ∀ env, attributeBase o f env (eval o env) = eval o env) : EvX c δ M (.Attribute o f pos) Post := fun y σ H ad he hs Q q =>
  ⟨_, pe_fld (X := y.cx) wE_ok (hb y.env), h y σ H ad he hs _ fun v H1 ad1 x M1 n1 s1 r1 ⟨j, C, fs, a, ex, hm, hc, hn, hl, p1⟩ => by
    subst ex
    obtain ⟨pp, dx, xs, rfl, hp, hH, hfs⟩ := st_ins s1 r1 hm
    obtain ⟨u, hv, rv⟩ := repFs_lookup hfs hl
    exact ⟨pp, C, dx, xs, u, rfl, hH, hc, hn, hv, q u H1 ad1 a M1 n1 s1 rv p1⟩⟩
/-- o.f = e -/
theorem s_fld (h : EvX c δ M e fun w M1 => EvX c δ M1 o fun v M2 => ∃ j C fs, v = .mut j ∧ M2[j]? = some (.ins C fs) ∧ Cls c.K C ∧ NoAttr c.K C f ∧ fs.length < 1000 ∧ isF w = true ∧ D.nx δ (M2.set j (.ins C (putA f w fs))))
    (hs1 : ∀ env, swapsWith e (some (.Attribute o f p)) pos.line env = pure false) : Run1 c δ M (.Assign [.Attribute o f p] e pos) D := fun y σ H ad he hs E q =>
  ⟨_, ps_fld (X := y.cx) wE_ok wE_ok (hs1 y.env), h y σ H ad he hs _ fun u H1 ad1 w M1 n1 s1 r1 p1 => p1 y σ H1 ad1 (he.nx n1) s1 _ fun v H2 ad2 z M2 n2 s2 r2 ⟨j, C, fs, ex, hm, hc, hn, hl, hw, p2⟩ => by
    subst ex
    obtain ⟨pp, dx, xs, rfl, hp, hH, hfs⟩ := st_ins s2 r2 hm
    refine ⟨pp, C, dx, xs, rfl, hH, hc, hn, by rw [repFs_len hfs]; exact hl, ?_⟩
    have rw1 := repA_F hw (r1.nx n2)
    have t : Tx H2 (upd H2 pp (.ins C dx (putF f u xs))) := ⟨fun b ys z => by
      rw [upd_ne (fun zz => by subst zz; rw [hH] at z; cases z)]; exact z, fun b a1 a2 z => by
      rw [upd_ne (fun zz => by subst zz; rw [hH] at z; cases z)]; exact z, fun b a1 z => by
      rw [upd_ne (fun zz => by subst zz; rw [hH] at z; cases z)]; exact z⟩
    obtain ⟨s3, n3⟩ := s2.put (m := .ins C (putA f w fs)) (o := .ins C dx (putF f u xs)) hp ⟨dx, _, upd_same, RepFs.nx' (fun _ _ z => z) t (repFs_put rw1 hfs)⟩
    have n := (n1.trans n2).trans n3
    exact q.nx σ _ ad2 δ _ n (he.nx n) s3 p2⟩
/-- o.m(e, ..): a method that does not raise -/
theorem x_met {A : ASp} {pl : Env → Sem Bool} (F : MetOk c.P c.w c.K c.mg c.base CX0 k C m ql st ps (spOf c.K ps.length A)) (hk : k ≤ c.k)
    (h : EvX c δ M o fun v M1 => ∃ j fs, v = .mut j ∧ M1[j]? = some (.ins C fs) ∧ fs.lookup m = none ∧ EvA c δ M1 (e :: es) fun as M2 => as.length + 1 = ps.length ∧ A (.mut j :: as) M2 Post)
    (hst : ∀ env, starEach (e :: es) env = (false, eval e env) :: starEach es env) (hpl : ∀ env, (backTo pos (starEach es env)).any (·.1) = false)
    (ht : ∀ env, eval (.Call (.Attribute o m apos) (e :: es) [] pos) env = (do
      let ov ← eval o env
      standAt apos.atName
      let (f, first) ← holding [ov] (getMethod ov m (pl env))
      callWith pos f first (backTo pos (starEach (e :: es) env)) (backToKw pos (keywordEach [] env)))) : EvX c δ M (.Call (.Attribute o m apos) (e :: es) [] pos) Post := fun y σ H ad he hs Q q => by
  obtain ⟨fa, fd, hc, hm, F1, hb, ok⟩ := F.ex
  refine ⟨_, pe_meth (X := y.cx) (pl := pl y.env) wE_ok hc hm ok (y.room.mono hk) hb .nil pass0 wA_ok (hst y.env) (hpl y.env) (ht y.env), h y σ H ad he hs _ fun v H1 ad1 x M1 n1 s1 r1 ⟨j, fs, ex, hj, hl, p1⟩ => ?_⟩
  subst ex
  obtain ⟨pp, dx, xs, rfl, hp, hH, hfs⟩ := st_ins s1 r1 hj
  refine ⟨pp, dx, xs, rfl, hH, repFs_none hfs hl, p1 y σ H1 ad1 (he.nx n1) s1 _ fun vs H2 ad2 as M2 n2 s2 r2 ⟨hl2, hA⟩ => ?_⟩
  rw [List.append_nil]
  exact ⟨by rw [List.length_cons, repAs_length r2]; exact hl2, ad2, .mut j :: as, M2, Post, s2, ⟨_, _, rfl, ⟨pp, n2.get hp, rfl⟩, r2⟩, hA, fun v H3 ad3 a3 M3 n3 s3 r3 p3 => q v H3 ad3 a3 M3 ((n1.trans n2).trans n3) s3 r3 p3⟩
theorem x_met0 {A : ASp} {pl : Env → Sem Bool} (F : MetOk c.P c.w c.K c.mg c.base CX0 k C m ql st ["self"] (spOf c.K 1 A)) (hk : k ≤ c.k)
    (h : EvX c δ M o fun v M1 => ∃ j fs, v = .mut j ∧ M1[j]? = some (.ins C fs) ∧ fs.lookup m = none ∧ A [.mut j] M1 Post)
    (ht : ∀ env, eval (.Call (.Attribute o m apos) [] [] pos) env = (do
      let ov ← eval o env
      standAt apos.atName
      let (f, first) ← holding [ov] (getMethod ov m (pl env))
      callWith pos f first (backTo pos (starEach [] env)) (backToKw pos (keywordEach [] env)))) : EvX c δ M (.Call (.Attribute o m apos) [] [] pos) Post := fun y σ H ad he hs Q q => by
  obtain ⟨fa, fd, hc, hm, F1, hb, ok⟩ := F.ex
  refine ⟨_, pe_meth0 (X := y.cx) (pl := pl y.env) wE_ok hc hm ok (y.room.mono hk) hb .nil pass0 (ht y.env), h y σ H ad he hs _ fun v H1 ad1 x M1 n1 s1 r1 ⟨j, fs, ex, hj, hl, hA⟩ => ?_⟩
  subst ex
  obtain ⟨pp, dx, xs, rfl, hp, hH, hfs⟩ := st_ins s1 r1 hj
  refine ⟨pp, dx, xs, rfl, hH, repFs_none hfs hl, ?_⟩
  exact ⟨rfl, ad1, [.mut j], M1, Post, s1, ⟨_, _, rfl, ⟨pp, hp, rfl⟩, rfl⟩, hA, fun v H3 ad3 a3 M3 n3 s3 r3 p3 => q v H3 ad3 a3 M3 (n1.trans n3) s3 r3 p3⟩
/-- o.m(k = v, ..): a method that does not raise -/
theorem x_metK0 {A : ASp} {n : Nat} {pl : Env → Sem Bool} (ks : List Str) (F : MetOk c.P c.w c.K c.mg c.base CX0 k C m ql st ps (spOf c.K ps.length A)) (hk : k ≤ c.k)
    (hB : ∀ (kV doc pm : Value) (an : Option Addr) (cdv ct : Value) (us ws : List Value), us.length = 1 → ws.length = n → bindArgs (PySem.W.fnOf m ql (defArgs st) (defBody st) (defScope st) .none kV doc pm an cdv ct) ⟨us, ks.zip ws⟩ = pure (ps.zip (us ++ ws)))
    (hmn : ps.length = 1 + n)
    (h : EvX c δ M o fun v M1 => ∃ j fs, v = .mut j ∧ M1[j]? = some (.ins C fs) ∧ fs.lookup m = none ∧ EvK c δ M1 kws fun bs M3 => bs.length = n ∧ A (.mut j :: bs) M3 Post)
    (hall : ∀ env, (backToKw pos (keywordEach kws env)).all (·.1.isSome) = true) (hks : ∀ env, (backToKw pos (keywordEach kws env)).filterMap (·.1) = ks)
    (hpl : ∀ env, ((backTo pos (starEach [] env)).any (·.1) || (backToKw pos (keywordEach kws env)).any (·.1.isNone)) = false)
    (ht : ∀ env, eval (.Call (.Attribute o m apos) [] kws pos) env = (do
      let ov ← eval o env
      standAt apos.atName
      let (f, first) ← holding [ov] (getMethod ov m (pl env))
      callWith pos f first (backTo pos (starEach [] env)) (backToKw pos (keywordEach kws env)))) : EvX c δ M (.Call (.Attribute o m apos) [] kws pos) Post := fun y σ H ad he hs Q q => by
  obtain ⟨fa, fd, hc, hm, F1, hb, ok⟩ := F.ex
  have kb : KBinds c.K fd ps ks (ordK 1 n) (ordK 1 n) := by
    obtain ⟨oc, od, kV, doc, pm, an, cdv, ct, osl, rfl, lk, hcd⟩ := F1.ex
    refine ⟨fun s us ws _ hl => ?_, fun {vs us zs ws} r1 r2 => ?_⟩
    · unfold ordK at hl ⊢
      by_cases hc : us.length = 1 ∧ ws.length = n
      · rw [if_pos hc]
        exact .of_eq (hB kV doc pm an cdv ct us ws hc.1 hc.2)
      · rw [if_neg hc] at hl
        rw [hmn] at hl
        exact absurd hl (by show ¬ (0 = 1 + n); omega)
    · unfold ordK
      rw [r1.length, r2.length]
      split
      · exact vals_append r1 r2
      · exact .nil
  refine ⟨_, pe_methK09 (X := y.cx) (pl := pl y.env) wE_ok hc hm ok (y.room.mono hk) kb pass0 wK_ok (hall y.env) (hks y.env) (hpl y.env) (ht y.env), h y σ H ad he hs _ fun v H1 ad1 x M1 n1 s1 r1 ⟨j, fs, ex, hj, hl, p1⟩ => ?_⟩
  subst ex
  obtain ⟨pp, dx, xs, rfl, hp, hH, hfs⟩ := st_ins s1 r1 hj
  refine ⟨pp, dx, xs, rfl, hH, repFs_none hfs hl, p1 y σ H1 ad1 (he.nx n1) s1 _ fun us H3 ad3 bs M3 n3 s3 r3 ⟨hl2, hA⟩ => ?_⟩
  have e2 : us.length = n := by rw [repAs_length r3]; exact hl2
  show spOf c.K ps.length A (ordK 1 n [V.ref pp] us) H3 Q _
  unfold ordK
  rw [if_pos ⟨rfl, e2⟩]
  exact ⟨by rw [List.length_append, e2]; exact hmn.symm, ad3, .mut j :: bs, M3, Post, s3, ⟨_, _, rfl, ⟨pp, n3.get hp, rfl⟩, r3⟩, hA, fun v H4 ad4 a4 M4 n4 s4 r4 p4 => q v H4 ad4 a4 M4 ((n1.trans n3).trans n4) s4 r4 p4⟩
/-- o.m(e, ..): a method that may raise -/
theorem e_met {A : ASpX} {pl : Env → Sem Bool} (F : MetOk c.P c.w c.K c.mg c.base (L2.CX c.P c.w) k C m ql st ps (spOfX c.K ps.length A)) (hk : k ≤ c.k)
    (h : EvX c δ M o fun v M1 => ∃ j fs, v = .mut j ∧ M1[j]? = some (.ins C fs) ∧ fs.lookup m = none ∧ EvA c δ M1 (e :: es) fun as M2 => as.length + 1 = ps.length ∧ A (.mut j :: as) M2 Post X)
    (hst : ∀ env, starEach (e :: es) env = (false, eval e env) :: starEach es env) (hpl : ∀ env, (backTo pos (starEach es env)).any (·.1) = false)
    (ht : ∀ env, eval (.Call (.Attribute o m apos) (e :: es) [] pos) env = (do
      let ov ← eval o env
      standAt apos.atName
      let (f, first) ← holding [ov] (getMethod ov m (pl env))
      callWith pos f first (backTo pos (starEach (e :: es) env)) (backToKw pos (keywordEach [] env)))) : EvRx c δ M (.Call (.Attribute o m apos) (e :: es) [] pos) Post X := fun y W tk σ H ad he hs Q q qx => by
  obtain ⟨fa, fd, hc, hm, F1, hb, ok⟩ := F.ex
  refine ⟨_, pe_meth (X := y.cx) (E := W) (pl := pl y.env) wE_ok hc hm ok (y.room.mono hk) hb .nil (passes_call tk fun _ _ _ _ h => h) wA_ok (hst y.env) (hpl y.env) (ht y.env), h y σ H ad he hs _ fun v H1 ad1 x M1 n1 s1 r1 ⟨j, fs, ex, hj, hl, p1⟩ => ?_⟩
  subst ex
  obtain ⟨pp, dx, xs, rfl, hp, hH, hfs⟩ := st_ins s1 r1 hj
  refine ⟨pp, dx, xs, rfl, hH, repFs_none hfs hl, p1 y σ H1 ad1 (he.nx n1) s1 _ fun vs H2 ad2 as M2 n2 s2 r2 ⟨hl2, hA⟩ => ?_⟩
  rw [List.append_nil]
  exact ⟨by rw [List.length_cons, repAs_length r2]; exact hl2, ad2, .mut j :: as, M2, Post, X, s2, ⟨_, _, rfl, ⟨pp, n2.get hp, rfl⟩, r2⟩, hA, fun v H3 ad3 a3 M3 n3 s3 r3 p3 => q v H3 ad3 a3 M3 ((n1.trans n2).trans n3) s3 r3 p3, qx.on (n1.trans n2)⟩
theorem e_met0 {A : ASpX} {pl : Env → Sem Bool} (F : MetOk c.P c.w c.K c.mg c.base (L2.CX c.P c.w) k C m ql st ["self"] (spOfX c.K 1 A)) (hk : k ≤ c.k)
    (h : EvX c δ M o fun v M1 => ∃ j fs, v = .mut j ∧ M1[j]? = some (.ins C fs) ∧ fs.lookup m = none ∧ A [.mut j] M1 Post X)
    (ht : ∀ env, eval (.Call (.Attribute o m apos) [] [] pos) env = (do
      let ov ← eval o env
      standAt apos.atName
      let (f, first) ← holding [ov] (getMethod ov m (pl env))
      callWith pos f first (backTo pos (starEach [] env)) (backToKw pos (keywordEach [] env)))) : EvRx c δ M (.Call (.Attribute o m apos) [] [] pos) Post X := fun y W tk σ H ad he hs Q q qx => by
  obtain ⟨fa, fd, hc, hm, F1, hb, ok⟩ := F.ex
  refine ⟨_, pe_meth0 (X := y.cx) (E := W) (pl := pl y.env) wE_ok hc hm ok (y.room.mono hk) hb .nil (passes_call tk fun _ _ _ _ h => h) (ht y.env), h y σ H ad he hs _ fun v H1 ad1 x M1 n1 s1 r1 ⟨j, fs, ex, hj, hl, hA⟩ => ?_⟩
  subst ex
  obtain ⟨pp, dx, xs, rfl, hp, hH, hfs⟩ := st_ins s1 r1 hj
  refine ⟨pp, dx, xs, rfl, hH, repFs_none hfs hl, ?_⟩
  exact ⟨rfl, ad1, [.mut j], M1, Post, X, s1, ⟨_, _, rfl, ⟨pp, hp, rfl⟩, rfl⟩, hA, fun v H3 ad3 a3 M3 n3 s3 r3 p3 => q v H3 ad3 a3 M3 (n1.trans n3) s3 r3 p3, qx.on n1⟩
/-- with keywords -/
theorem e_metK {A : ASpX} {m1 n : Nat} {pl : Env → Sem Bool} (ks : List Str) (F : MetOk c.P c.w c.K c.mg c.base (L2.CX c.P c.w) k C m ql st ps (spOfX c.K ps.length A)) (hk : k ≤ c.k)
    (hB : ∀ (kV doc pm : Value) (an : Option Addr) (cdv ct : Value) (us ws : List Value), us.length = m1 + 1 → ws.length = n → bindArgs (PySem.W.fnOf m ql (defArgs st) (defBody st) (defScope st) .none kV doc pm an cdv ct) ⟨us, ks.zip ws⟩ = pure (ps.zip (us ++ ws)))
    (hmn : ps.length = m1 + 1 + n)
    (h : EvX c δ M o fun v M1 => ∃ j fs, v = .mut j ∧ M1[j]? = some (.ins C fs) ∧ fs.lookup m = none ∧ EvA c δ M1 (e :: es) fun as M2 => EvK c δ M2 kws fun bs M3 => as.length = m1 ∧ bs.length = n ∧ A (.mut j :: (as ++ bs)) M3 Post X)
    (hst : ∀ env, starEach (e :: es) env = (false, eval e env) :: starEach es env) (hall : ∀ env, (backToKw pos (keywordEach kws env)).all (·.1.isSome) = true) (hks : ∀ env, (backToKw pos (keywordEach kws env)).filterMap (·.1) = ks)
    (hpl : ∀ env, ((backTo pos (starEach (e :: es) env)).any (·.1) || (backToKw pos (keywordEach kws env)).any (·.1.isNone)) = false)
    (ht : ∀ env, eval (.Call (.Attribute o m apos) (e :: es) kws pos) env = (do
      let ov ← eval o env
      standAt apos.atName
      let (f, first) ← holding [ov] (getMethod ov m (pl env))
      callWith pos f first (backTo pos (starEach (e :: es) env)) (backToKw pos (keywordEach kws env)))) : EvRx c δ M (.Call (.Attribute o m apos) (e :: es) kws pos) Post X := fun y W tk σ H ad he hs Q q qx => by
  obtain ⟨fa, fd, hc, hm, F1, hb, ok⟩ := F.ex
  have kb : KBinds c.K fd ps ks (ordK (m1 + 1) n) (ordK (m1 + 1) n) := by
    obtain ⟨oc, od, kV, doc, pm, an, cdv, ct, osl, rfl, lk, hcd⟩ := F1.ex
    refine ⟨fun s us ws _ hl => ?_, fun {vs us zs ws} r1 r2 => ?_⟩
    · unfold ordK at hl ⊢
      by_cases hc : us.length = m1 + 1 ∧ ws.length = n
      · rw [if_pos hc]
        exact .of_eq (hB kV doc pm an cdv ct us ws hc.1 hc.2)
      · rw [if_neg hc] at hl
        rw [hmn] at hl
        exact absurd hl (by show ¬ (0 = m1 + 1 + n); omega)
    · unfold ordK
      rw [r1.length, r2.length]
      split
      · exact vals_append r1 r2
      · exact .nil
  refine ⟨_, pe_methK9 (X := y.cx) (E := W) (pl := pl y.env) wE_ok hc hm ok (y.room.mono hk) kb (passes_call tk fun _ _ _ _ h => h) wA_ok wK_ok (hall y.env) (hks y.env) (hst y.env) (hpl y.env) (ht y.env), h y σ H ad he hs _ fun v H1 ad1 x M1 n1 s1 r1 ⟨j, fs, ex, hj, hl, p1⟩ => ?_⟩
  subst ex
  obtain ⟨pp, dx, xs, rfl, hp, hH, hfs⟩ := st_ins s1 r1 hj
  refine ⟨pp, dx, xs, rfl, hH, repFs_none hfs hl, p1 y σ H1 ad1 (he.nx n1) s1 _ fun vs H2 ad2 as M2 n2 s2 r2 p2 => p2 y σ H2 ad2 (he.nx (n1.trans n2)) s2 _ fun us H3 ad3 bs M3 n3 s3 r3 ⟨hl1, hl2, hA⟩ => ?_⟩
  have e1 : (V.ref pp :: vs).length = m1 + 1 := by rw [List.length_cons, repAs_length r2, hl1]
  have e2 : us.length = n := by rw [repAs_length r3]; exact hl2
  show spOfX c.K ps.length A (ordK (m1 + 1) n (V.ref pp :: vs) us) H3 Q W
  unfold ordK
  rw [if_pos ⟨e1, e2⟩]
  exact ⟨by rw [List.length_append, e1, e2]; exact hmn.symm, ad3, .mut j :: (as ++ bs), M3, Post, X, s3, ⟨_, _, rfl, ⟨pp, (n2.trans n3).get hp, rfl⟩, repAs_append (r2.nx n3) r3⟩, hA, fun v H4 ad4 a4 M4 n4 s4 r4 p4 => q v H4 ad4 a4 M4 (((n1.trans n2).trans n3).trans n4) s4 r4 p4, qx.on ((n1.trans n2).trans n3)⟩
theorem e_metK0 {A : ASpX} {n : Nat} {pl : Env → Sem Bool} (ks : List Str) (F : MetOk c.P c.w c.K c.mg c.base (L2.CX c.P c.w) k C m ql st ps (spOfX c.K ps.length A)) (hk : k ≤ c.k)
    (hB : ∀ (kV doc pm : Value) (an : Option Addr) (cdv ct : Value) (us ws : List Value), us.length = 1 → ws.length = n → bindArgs (PySem.W.fnOf m ql (defArgs st) (defBody st) (defScope st) .none kV doc pm an cdv ct) ⟨us, ks.zip ws⟩ = pure (ps.zip (us ++ ws)))
    (hmn : ps.length = 1 + n)
    (h : EvX c δ M o fun v M1 => ∃ j fs, v = .mut j ∧ M1[j]? = some (.ins C fs) ∧ fs.lookup m = none ∧ EvK c δ M1 kws fun bs M3 => bs.length = n ∧ A (.mut j :: bs) M3 Post X)
    (hall : ∀ env, (backToKw pos (keywordEach kws env)).all (·.1.isSome) = true) (hks : ∀ env, (backToKw pos (keywordEach kws env)).filterMap (·.1) = ks)
    (hpl : ∀ env, ((backTo pos (starEach [] env)).any (·.1) || (backToKw pos (keywordEach kws env)).any (·.1.isNone)) = false)
    (ht : ∀ env, eval (.Call (.Attribute o m apos) [] kws pos) env = (do
      let ov ← eval o env
      standAt apos.atName
      let (f, first) ← holding [ov] (getMethod ov m (pl env))
      callWith pos f first (backTo pos (starEach [] env)) (backToKw pos (keywordEach kws env)))) : EvRx c δ M (.Call (.Attribute o m apos) [] kws pos) Post X := fun y W tk σ H ad he hs Q q qx => by
  obtain ⟨fa, fd, hc, hm, F1, hb, ok⟩ := F.ex
  have kb : KBinds c.K fd ps ks (ordK 1 n) (ordK 1 n) := by
    obtain ⟨oc, od, kV, doc, pm, an, cdv, ct, osl, rfl, lk, hcd⟩ := F1.ex
    refine ⟨fun s us ws _ hl => ?_, fun {vs us zs ws} r1 r2 => ?_⟩
    · unfold ordK at hl ⊢
      by_cases hc : us.length = 1 ∧ ws.length = n
      · rw [if_pos hc]
        exact .of_eq (hB kV doc pm an cdv ct us ws hc.1 hc.2)
      · rw [if_neg hc] at hl
        rw [hmn] at hl
        exact absurd hl (by show ¬ (0 = 1 + n); omega)
    · unfold ordK
      rw [r1.length, r2.length]
      split
      · exact vals_append r1 r2
      · exact .nil
  refine ⟨_, pe_methK09 (X := y.cx) (E := W) (pl := pl y.env) wE_ok hc hm ok (y.room.mono hk) kb (passes_call tk fun _ _ _ _ h => h) wK_ok (hall y.env) (hks y.env) (hpl y.env) (ht y.env), h y σ H ad he hs _ fun v H1 ad1 x M1 n1 s1 r1 ⟨j, fs, ex, hj, hl, p1⟩ => ?_⟩
  subst ex
  obtain ⟨pp, dx, xs, rfl, hp, hH, hfs⟩ := st_ins s1 r1 hj
  refine ⟨pp, dx, xs, rfl, hH, repFs_none hfs hl, p1 y σ H1 ad1 (he.nx n1) s1 _ fun us H3 ad3 bs M3 n3 s3 r3 ⟨hl2, hA⟩ => ?_⟩
  have e2 : us.length = n := by rw [repAs_length r3]; exact hl2
  show spOfX c.K ps.length A (ordK 1 n [V.ref pp] us) H3 Q W
  unfold ordK
  rw [if_pos ⟨rfl, e2⟩]
  exact ⟨by rw [List.length_append, e2]; exact hmn.symm, ad3, .mut j :: bs, M3, Post, X, s3, ⟨_, _, rfl, ⟨pp, n3.get hp, rfl⟩, r3⟩, hA, fun v H4 ad4 a4 M4 n4 s4 r4 p4 => q v H4 ad4 a4 M4 ((n1.trans n3).trans n4) s4 r4 p4, qx.on (n1.trans n3)⟩
/-- an expression that may raise, where it does not -/
theorem x_rx (h : EvRx c δ M e Post fun _ _ _ => False) : EvX c δ M e Post := fun y σ H ad he hs Q q => h y (fun _ _ _ => False) L2.takes0 σ H ad he hs Q q fun _ _ _ _ _ _ _ _ _ z => z
/-- x = e, where e may raise -/
theorem rx_st {i : Nat} [hN : VarAt c.N x i] [hk : NamesOk c.N] (hx : Loc c.sc x) (hf : c.fn x = true ∨ c.sc.names.lookup x = some .local) (h : EvRx c δ M e (fun a M1 => RunX c (δ.set i (some a)) M1 sts D X) X)
    (hs1 : ∀ env, swapsWith e (some (.Name x p)) pos.line env = pure false) : RunX c δ M (.Assign [.Name x p] e pos :: sts) D X := fun y W tk σ H ad he hs E q qx =>
  ⟨_, pss_cons (ps_set (X := y.cx) hk.nd hN.get (by show Loc y.env.scope x; rw [y.sc]; exact hx) wE_ok (hs1 y.env) (by show c.fn x = true ∨ y.env.scope.names.lookup x = some .local; rw [y.sc]; exact hf)) wSs_ok,
    h y W tk σ H ad he hs _ (fun v H2 ad2 a M2 n s r pp => pp y W tk _ H2 ad2 ((he.nx n).set r) s E (q.on n) (qx.on n)) qx⟩
/-- e;, where e may raise -/
theorem rx_ret (h : EvX c δ M e D.rt) : RunX c δ M [.Return (some e) pos] D X := rx_run (r_one (s_ret h))
end
/-! ### making -/
section
variable {c : SC} {δ : Dl} {M : List MO} {Post : AQ} {e : Expr} {es : List Expr} {kws : List Keyword} {pos p : Pos} {x : Str} {k : Nat} {st : Stmt} {ps : List Str} {C : Addr}
theorem made_st {K : PySem.W.Frag} {ad : List Addr} {H : Hp} {x dx : Addr} (S : StOk K ad H M) (hx : H x = none) (hdx : H dx = none) (hne : dx ≠ x) :
    StOk K (ad ++ [x]) (upd (upd H dx (.own x)) x (.ins C dx [])) (M ++ [.ins C []]) ∧ Nx ad H (ad ++ [x]) (upd (upd H dx (.own x)) x (.ins C dx [])) := by
  have sm : Same H (upd (upd H dx (.own x)) x (.ins C dx [])) := fun b o e => by
    rw [upd_ne (ne_of_none e hx), upd_ne (ne_of_none e hdx)]
    exact e
  have S1 := S.same sm
  exact ⟨S1.push (m := .ins C []) (S.free hx) ⟨dx, [], upd_same, rfl⟩, push_nx (Nx.same sm) hx (S.free hx)⟩
/-- a def with defaults, by its body -/
theorem fn_mkD {P : Program} {w : World} {K : PySem.W.Frag} {mg : Str → Option Value} {base : Heap} {N : List Str} {fa : Addr} {fd : FuncData} {ql : Str} {dvs : List V} {A : ASp} (F : FunD K x ql (defArgs st) (defBody st) (defScope st) dvs [] fa fd) (S : FnScope N ps (defScope st))
    (h : ∀ as M Post, as.length = ps.length → A as M Post → Run (scOf P w K mg base N st k) (as.map some ++ List.replicate (N.length - as.length) none) M (defBody st) { nx := fun _ M2 => Post (.dat .non) M2, rt := fun _ _ => False }) :
    FnOk P w K mg base CX0 (k + 1) fa fd ps (spOf K ps.length A) := by
  refine F.ok S (fun vs H Q E h => h.1) (fun cdv A' outer s H vs Q E hr hsp => ?_)
  obtain ⟨hl, ad, as, M, Post, hs, hr2, hA, q⟩ := hsp
  let env := PyProof.Rows.envOfC ql (defScope st) s.heap.objs.size fa cdv
  let y : Dyn (scOf P w K mg base N st k) := ⟨A'.deeper env, s, H, env, outer, env :: outer, [], [], fun _ _ => False, rfl, hr, PassesOwn.never, trivial⟩
  exact ⟨wSs y.cx (defBody st), (wSs_ok (X := y.cx)).nox, h as M Post (by rw [← repAs_length hr2]; exact hl) hA y _ H ad (envOk_start hr2) hs _
    ⟨fun _ H2 ad2 _ M2 n _ s2 p => q _ H2 ad2 (.dat .non) M2 n s2 rfl p, fun v H2 ad2 a M2 n s2 r p => p.elim, fun _ _ _ _ _ _ _ _ z => z.elim, fun _ _ _ _ _ _ _ _ z => z.elim⟩⟩
/-- a class that can be made: sp is its __init__ -/
structure MakOk (P : Program) (w : World) (K : PySem.W.Frag) (mg : Str → Option Value) (base : Heap) (k : Nat) (x : Str) (C : Addr) (ps : List Str) (sp : Sp) : Prop where
  ex : ∃ f fd, Mk K C f ∧ FnOk P w K mg base CX0 k f fd ps sp ∧ mg x = some (.ref C) ∧ Binds K fd ps []
theorem x_make {A : ASp} (F : MakOk c.P c.w c.K c.mg c.base k x C ps (spOf c.K ps.length A)) (hk : k + 1 ≤ c.k) (hg : c.gl x)
    (h : EvA c δ M (e :: es) fun as M1 => as.length + 1 = ps.length ∧ A (.mut M1.length :: as) (M1 ++ [.ins C []]) fun r M2 => r = .dat .non ∧ Post (.mut M1.length) M2)
    (hst : ∀ env, starEach (e :: es) env = (false, eval e env) :: starEach es env) (hpl : ∀ env, (backTo pos (starEach es env)).any (·.1) = false) (hdb : (x == ("__debug__" : Str)) = false := by decide) : EvX c δ M (.Call (.Name x p) (e :: es) [] pos) Post := fun y σ H ad he hs Q q => by
  obtain ⟨fa, fd, MK, ok, hm, hb⟩ := F.ex
  refine ⟨_, pe_make (X := y.cx) MK ok (y.room.mono hk) (glS y hg) hm hb .nil pass0 wA_ok hdb (hst y.env) (hpl y.env), h y σ H ad he hs _ fun vs H1 ad1 as M1 n1 s1 r1 ⟨hl, hA⟩ xa dx hx hdx hne => ?_⟩
  rw [List.append_nil]
  obtain ⟨S2, n2⟩ := made_st (C := C) s1 hx hdx hne
  have hgx : (ad1 ++ [xa])[M1.length]? = some xa := by rw [← s1.len, List.getElem?_append_right (Nat.le_refl _), Nat.sub_self]; rfl
  refine ⟨by rw [List.length_cons, repAs_length r1]; exact hl, ad1 ++ [xa], .mut M1.length :: as, M1 ++ [.ins C []], _, S2, ⟨_, _, rfl, ⟨xa, hgx, rfl⟩, r1.nx n2⟩, hA, fun v H3 ad3 a3 M3 n3 s3 r3 ⟨e3, p3⟩ => ?_⟩
  subst e3
  exact ⟨r3, q _ H3 ad3 (.mut M1.length) M3 ((n1.trans n2).trans n3) s3 ⟨xa, n3.get hgx, rfl⟩ p3⟩
end
end Fx

/-! Fx, part Oc: len, str of own objects, f-texts, defaults and keywords of a making, raise X(e). -/
namespace L2
open PySem
section
variable {X : Cx} {pins : List (Addr × Obj)} {σ : St} {H : Hp} {s : Shared} {k : Nat} {f : Addr} {fd : FuncData} {ps : List Str} {sp : Sp}
/-- a def runs deeper in -/
theorem run_in9 {A : Around} {E : Value → Shared → Prop} {vs : List V} {us : List Value} {Q : VK} (F : FnOk X.prog X.w X.K X.mg X.base CX0 k f fd ps sp) (hr : Room k A) (hA : A.frames = X.A.frames) (hb : Binds X.K fd ps []) (I : Inv X pins σ H s) (r : Vals vs us) (h : sp vs H Q (fun _ _ _ => False)) :
    wpAny (model X.prog X.w) A (call (.ref f) us) (EP X pins σ Q) E s := by
  have e0 : Env0 X.prog X.w X.K X.mg X.base A X.stack s H := by
    have e := I.env0
    exact ⟨by rw [hA]; exact e.frames, e.mod, e.bs, e.bsz, e.funs, e.frf, e.hok, e.bare⟩
  have hl := F.len _ _ _ _ h
  refine wpAny_call (codeAny_mono (F.run A X.stack s H ⟨us, []⟩ us vs Q (fun _ _ _ => False) hr e0 (by
    have := hb s us I.kIn (by rw [List.append_nil, ← r.length]; exact hl)
    rw [List.append_nil] at this
    exact this) r h) fun r s' hq => ?_)
  cases r with
  | error e => exact (show False from hq).elim
  | ok fl =>
    cases fl with
    | ret w => exact I.after hq
    | next => exact False.elim hq
    | brk => exact False.elim hq
    | cont => exact False.elim hq
/-- len(x), x an own object -/
theorem call_lenO9 {C : Addr} (F : FnOk X.prog X.w X.K X.mg X.base CX0 k f fd ps sp) (hr : Room (k + 1) X.A) (hb : Binds X.K fd ps []) (hs : PySem.W.findIn X.K (.ref C) "__len__" = some (some (.ref f))) (hf : PySem.W.isFn X.K (.ref f) = true) :
    CallR X (.builtin "len") (fun xs H Q => ∃ a dx fs, xs = [.ref a] ∧ H a = some (.ins C dx fs) ∧ sp [.ref a] H (fun v H2 => ∃ n : Int, v = .int n ∧ 0 ≤ n ∧ n < 2 ^ 63 ∧ Q (.int n) H2) (fun _ _ _ => False)) := by
  intro pins s σ H xs us Q I rs h
  obtain ⟨a, dx, fs, rfl, ha, h⟩ := h
  obtain ⟨u, rfl, ru⟩ := vals1 rs
  obtain rfl : u = Value.ref a := ru
  obtain ⟨mA, J, _⟩ := ins_get I.hok ha
  obtain ⟨od, J, _⟩ := J.look
  obtain ⟨m, hF⟩ := I.fr
  refine PySem.W.len_K hF I.ok.mod.kin J hs hf ?_
  refine wpAny_mono (run_in9 (A := X.A.in1) (vs := [V.ref a]) F hr.in1 rfl hb I (.cons rfl .nil) h) (fun v s' hv => ?_) fun _ _ e => e
  obtain ⟨v0, H2, I2, rv, n, rfl, h0, h1, q⟩ := hv
  obtain ⟨t, rfl⟩ := rv
  exact ⟨⟨h0, h1⟩, .int n, H2, I2.tok _, ⟨_, rfl⟩, q⟩
/-- str(x), x an own object -/
theorem call_strO9 {C : Addr} (F : FnOk X.prog X.w X.K X.mg X.base CX0 k f fd ps sp) (hr : Room (k + 2) X.A) (hb : Binds X.K fd ps []) (hs : PySem.W.findIn X.K (.ref C) "__str__" = some (some (.ref f))) (hf : PySem.W.isFn X.K (.ref f) = true) :
    CallR X (.type "str") (fun xs H Q => ∃ a dx fs, xs = [.ref a] ∧ H a = some (.ins C dx fs) ∧ sp [.ref a] H (fun v H2 => ∃ n : Str, v = .str n ∧ Q (.str n) H2) (fun _ _ _ => False)) := by
  intro pins s σ H xs us Q I rs h
  obtain ⟨a, dx, fs, rfl, ha, h⟩ := h
  obtain ⟨u, rfl, ru⟩ := vals1 rs
  obtain rfl : u = Value.ref a := ru
  obtain ⟨mA, J, _⟩ := ins_get I.hok ha
  obtain ⟨od, J, _⟩ := J.look
  refine PySem.W.kso_call (by have := hr.un; show X.A.units + 1 + 1 < _; omega) I.kIn J hs hf ?_
  refine wpAny_mono (run_in9 (A := X.A.in1.in1) (vs := [V.ref a]) F (hr.in1).in1 rfl hb I (.cons rfl .nil) h) (fun v s' hv => ?_) fun _ _ e => e
  obtain ⟨v0, H2, I2, rv, n, rfl, q⟩ := hv
  obtain ⟨t, rfl⟩ := rv
  exact ⟨.str n, H2, I2, ⟨_, rfl⟩, q⟩
/-- C(e) of an exception whose __init__ stores its one parameter -/
theorem pmk_oexP9 {CX : CXT} {C fI : Addr} {k : Nat} {fd : FuncData} {x f : Str} {e : Expr} {te : TE} {p pos : Pos} (T : OexC X.K C) (iC : PySem.W.findIn X.K (.ref C) "__init__" = some (some (.ref fI)))
    (tI : PySem.W.typeIn X.K (.ref fI) = some (.type "function")) (hno : PySem.W.findIn X.K (.ref C) f = some none) (F1 : FnOk X.prog X.w X.K X.mg X.base CX k fI fd ["self", f] (spIni9 X.K f)) (hr : Room (k + 1) X.A) (hx : Passes CX X (fun _ _ _ => False))
    (hb : ∀ (s : Shared) (e : Addr) (u : Value), X.K.In s.heap → BindsTo s fd ⟨[.ref e, u], []⟩ [("self", .ref e), (f, u)]) (hg : Gl X x) (hm : X.mg x = some (.ref C)) (he : PE X e te) (hdb : (x == ("__debug__" : Str)) = false)
    (hst : starEach [e] X.env = (false, eval e X.env) :: starEach [] X.env) (hpl : (backTo pos (starEach [] X.env)).any (·.1) = false) :
    PMk X (.Call (.Name x p) [e] [] pos) (fun σ H Q => te σ H fun v H1 => ∀ d, H1 d = none → Q (.ref C) (some d) (upd H1 d (.xd [(f, v)]))) := by
  intro pins s σ H Q I h
  refine wpAny_Call_Name_kw (ld_glob I hg hm ?_ hdb)
  refine PySem.W.callWith_K (h₀ := X.base) I.ok.mod.kin T.kC (thn ((pa_cons he pa_nil hst).run pos pins s σ H (fun vs H1 => match vs with | [v] => ∀ d, H1 d = none → Q (.ref C) (some d) (upd H1 d (.xd [(f, v)])) | _ => False) I h) fun us s1 ⟨vs, H1, I1, r1, q1⟩ => ⟨I1.kIn, ?_⟩) hst hpl
  match vs, r1, q1 with
  | [v], r1, q1 =>
  obtain ⟨u, rfl, ru⟩ := r1.one
  exact oex_make9 T iC tI hno F1 hr hx I1 (by show 1 ≤ sizeLine; decide) (fun s e hk => hb s e u hk) ru q1
end
end L2
namespace Fx
open PySem L2 LamX
section
variable {c : SC} {δ : Dl} {M : List MO} {Post : AQ} {X : XP} {D : AE} {e o : Expr} {es : List Expr} {kws : List Keyword} {pos p apos pos' : Pos} {x m f ql : Str} {k : Nat} {st : Stmt} {sts : List Stmt} {ps : List Str} {C : Addr}
/-- raise X(e) -/
theorem rx_raiseP {C : Addr} (T : IniExc c.K c.mg x C f) (hk : 2 ≤ c.k) (hg : c.gl x) (h : EvX c δ M e fun a M1 => ∃ d, a = .dat d ∧ X C [(f, d)] M1)
    (hst : ∀ env, starEach [e] env = (false, eval e env) :: starEach [] env) (hpl : ∀ env, (backTo pos (starEach [] env)).any (·.1) = false) (hdb : (x == ("__debug__" : Str)) = false := by decide) : RunX c δ M [.Raise (some (.Call (.Name x p) [e] [] pos)) none pos'] D X := fun y W tk σ H ad he hs E q qx => by
  obtain ⟨fI, fd, i1, i2, i3, i4, i5⟩ := T.ini
  refine ⟨_, pss_one (ps_raise rfl tk (pmk_oexP9 (X := y.cx) (k := 1) T.T i1 i2 T.fld (i5 _ _ _ 0) (y.room.mono hk) (passes_call tk fun _ _ _ _ h => h.elim) i4 (glS y hg) T.gC wE_ok hdb (hst y.env) (hpl y.env))), h y σ H ad he hs _ fun v H1 ad1 a1 M1 n1 s1 r1 ⟨d, e1, p1⟩ dx hdx => ?_⟩
  subst e1
  exact xd_out qx n1 s1 r1 hdx p1
theorem ca_lenO {A : ASp} {j : Nat} {fs : List (Str × AV)} (F : MetOk c.P c.w c.K c.mg c.base CX0 k C "__len__" ql st ["self"] (spOf c.K 1 A)) (hk : k + 1 ≤ c.k) (hj : M[j]? = some (.ins C fs)) (h : A [.mut j] M fun r M2 => ∃ n : Int, r = .dat (.int n) ∧ 0 ≤ n ∧ n < 2 ^ 63 ∧ Post r M2) : CallA c (.builtin "len") [.mut j] M Post := fun z H ad hs vs r Q q => by
  obtain ⟨fa, fd, hc, hm, F1, hb, ok⟩ := F.ex
  obtain ⟨v, rfl, rv⟩ := repAs1 r
  obtain ⟨pp, dx, xs, rfl, hp, hH, hfs⟩ := st_ins hs rv hj
  refine ⟨_, call_lenO9 (X := z.cx) (C := C) ok (z.room.mono hk) hb hm.at_ hm.fn, pp, dx, xs, rfl, hH, rfl, ad, [.mut j], M, _, hs, ⟨_, _, rfl, ⟨pp, hp, rfl⟩, rfl⟩, h, fun v H2 ad2 a2 M2 n2 s2 r2 ⟨n, e, h0, h1, p2⟩ => ?_⟩
  subst e
  exact ⟨n, r2, h0, h1, q _ H2 ad2 (.dat (.int n)) M2 n2 s2 rfl p2⟩
theorem ca_strO {A : ASp} {j : Nat} {fs : List (Str × AV)} (F : MetOk c.P c.w c.K c.mg c.base CX0 k C "__str__" ql st ["self"] (spOf c.K 1 A)) (hk : k + 2 ≤ c.k) (hj : M[j]? = some (.ins C fs)) (h : A [.mut j] M fun r M2 => ∃ n : Str, r = .dat (.str n) ∧ Post r M2) : CallA c (.type "str") [.mut j] M Post := fun z H ad hs vs r Q q => by
  obtain ⟨fa, fd, hc, hm, F1, hb, ok⟩ := F.ex
  obtain ⟨v, rfl, rv⟩ := repAs1 r
  obtain ⟨pp, dx, xs, rfl, hp, hH, hfs⟩ := st_ins hs rv hj
  refine ⟨_, call_strO9 (X := z.cx) (C := C) ok (z.room.mono hk) hb hm.at_ hm.fn, pp, dx, xs, rfl, hH, rfl, ad, [.mut j], M, _, hs, ⟨_, _, rfl, ⟨pp, hp, rfl⟩, rfl⟩, h, fun v H2 ad2 a2 M2 n2 s2 r2 ⟨n, e, p2⟩ => ?_⟩
  subst e
  exact ⟨n, r2, q _ H2 ad2 (.dat (.str n)) M2 n2 s2 rfl p2⟩
/-- str(i) -/
theorem ca_strI {i : Int} (hi : i.natAbs.log2 < 1920) (h : Post (.dat (.str (toString i))) M) : CallA c (.type "str") [.dat (.int i)] M Post := fun z H ad hs vs r Q q => by
  obtain ⟨v, rfl, rv⟩ := repAs1 r
  exact ⟨_, call_str_int, i, by rw [show v = V.int i from rv], hi, q _ H ad (.dat (.str (toString i))) M Nx.refl hs rfl h⟩
/-- {x} in an f-text -/
theorem x_fmt (h : EvX c δ M e fun a M1 => (∃ y : Str, a = .dat (.str y) ∧ y.length ≤ 1000000 ∧ Post (.dat (.str y)) M1) ∨ ∃ i : Int, a = .dat (.int i) ∧ i.natAbs.log2 < 1920 ∧ Post (.dat (.str (toString i))) M1) : EvX c δ M (.FormattedValue e (-1) none pos) Post := fun y σ H ad he hs Q q =>
  ⟨_, pe_fmt wE_ok, h y σ H ad he hs _ fun v H1 ad1 a M1 n1 s1 r1 p1 => by
    rcases p1 with ⟨z, rfl, hz, p1⟩ | ⟨i, rfl, hi, p1⟩
    · exact .inl ⟨z, r1, Nat.le_trans hz (by decide), q _ H1 ad1 (.dat (.str z)) M1 n1 s1 rfl p1⟩
    · exact .inr ⟨i, r1, hi, q _ H1 ad1 (.dat (.str (toString i))) M1 n1 s1 rfl p1⟩⟩
/-- the parts of an f-text, one behind the other -/
def EvJ (c : SC) (δ : Dl) : List MO → List Expr → Str → (Str → List MO → Prop) → Prop
  | M, [], acc, P => P acc M
  | M, e :: es, acc, P => EvX c δ M e fun a M1 => ∃ y : Str, a = .dat (.str y) ∧ (acc ++ y).length ≤ 1000000 ∧ EvJ c δ M1 es (acc ++ y) P
theorem evj_run (y : Dyn c) {σ : L2.St} : ∀ {es : List Expr} {M : List MO} {acc : Str} {P : Str → List MO → Prop} {H : Hp} {ad : List Addr} {Q : Str → Hp → Prop}, EvJ c δ M es acc P → EnvOk c.K ad H σ δ → StOk c.K ad H M →
    (∀ out H2 ad2 M2, Nx ad H ad2 H2 → StOk c.K ad2 H2 M2 → P out M2 → Q out H2) → tJs (es.map fun e => wE y.cx e) acc σ H Q
  | [], M, acc, P, H, ad, Q, h, he, hs, q => q acc H ad M Nx.refl hs h
  | e :: es, M, acc, P, H, ad, Q, h, he, hs, q => h y σ H ad he hs _ fun v H1 ad1 a M1 n1 s1 r1 ⟨z, ea, hz, p1⟩ => by
    subst ea
    exact ⟨z, r1, Nat.le_trans hz (by decide), evj_run y p1 (he.nx n1) s1 fun out H2 ad2 M2 n2 s2 p2 => q out H2 ad2 M2 (n1.trans n2) s2 p2⟩
theorem pj_all (y : Dyn c) : ∀ es : List Expr, PJ y.cx es (es.map fun e => wE y.cx e)
  | [] => .nil
  | e :: es => .cons wE_ok (pj_all y es)
theorem x_fstr {v1 v2 : Expr} {rest : List Expr} (h : EvJ c δ M (v1 :: v2 :: rest) Str.empty fun s M1 => Post (.dat (.str s)) M1) : EvX c δ M (.JoinedStr (v1 :: v2 :: rest) pos) Post := fun y σ H ad he hs Q q =>
  ⟨_, pe_joined (X := y.cx) (pj_all y _), evj_run y h he hs fun out H2 ad2 M2 n2 s2 p2 => q _ H2 ad2 (.dat (.str out)) M2 n2 s2 rfl p2⟩
/-- a class made, its last parameters by their defaults -/
structure MakD (P : Program) (w : World) (K : PySem.W.Frag) (mg : Str → Option Value) (base : Heap) (k : Nat) (x : Str) (C : Addr) (ps : List Str) (das : List Fx.D) (sp : Sp) : Prop where
  ex : ∃ f fd ds dvs, Mk K C f ∧ FnOk P w K mg base CX0 k f fd ps sp ∧ mg x = some (.ref C) ∧ Binds K fd ps ds ∧ Vals dvs ds ∧ ∀ H, Reps K H das dvs
theorem repAs_dats {K : PySem.W.Frag} {ad : List Addr} {H : Hp} : ∀ {ds : List Fx.D} {vs : List V}, Reps K H ds vs → RepAs K ad H (ds.map AV.dat) vs
  | [], _, h => h
  | _ :: _, _, ⟨x, r, e, h1, h2⟩ => ⟨x, r, e, h1, repAs_dats h2⟩
theorem x_makeD {A : ASp} {das : List Fx.D} (F : MakD c.P c.w c.K c.mg c.base k x C ps das (spOf c.K ps.length A)) (hk : k + 1 ≤ c.k) (hg : c.gl x)
    (h : EvA c δ M (e :: es) fun as M1 => as.length + 1 + das.length = ps.length ∧ A (.mut M1.length :: (as ++ das.map AV.dat)) (M1 ++ [.ins C []]) fun r M2 => r = .dat .non ∧ Post (.mut M1.length) M2)
    (hst : ∀ env, starEach (e :: es) env = (false, eval e env) :: starEach es env) (hpl : ∀ env, (backTo pos (starEach es env)).any (·.1) = false) (hdb : (x == ("__debug__" : Str)) = false := by decide) : EvX c δ M (.Call (.Name x p) (e :: es) [] pos) Post := fun y σ H ad he hs Q q => by
  obtain ⟨fa, fd, ds, dvs, MK, ok, hm, hb, hd, hR⟩ := F.ex
  refine ⟨_, pe_make (X := y.cx) MK ok (y.room.mono hk) (glS y hg) hm hb hd pass0 wA_ok hdb (hst y.env) (hpl y.env), h y σ H ad he hs _ fun vs H1 ad1 as M1 n1 s1 r1 ⟨hl, hA⟩ xa dx hx hdx hne => ?_⟩
  obtain ⟨S2, n2⟩ := made_st (C := C) s1 hx hdx hne
  have hgx : (ad1 ++ [xa])[M1.length]? = some xa := by rw [← s1.len, List.getElem?_append_right (Nat.le_refl _), Nat.sub_self]; rfl
  have hdl : dvs.length = das.length := (hR H1).length
  refine ⟨by rw [List.length_cons, List.length_append, repAs_length r1, hdl]; omega, ad1 ++ [xa], .mut M1.length :: (as ++ das.map AV.dat), M1 ++ [.ins C []], _, S2, ⟨_, _, rfl, ⟨xa, hgx, rfl⟩, repAs_append (r1.nx n2) (repAs_dats (hR _))⟩, hA, fun v H3 ad3 a3 M3 n3 s3 r3 ⟨e3, p3⟩ => ?_⟩
  subst e3
  exact ⟨r3, q _ H3 ad3 (.mut M1.length) M3 ((n1.trans n2).trans n3) s3 ⟨xa, n3.get hgx, rfl⟩ p3⟩
/-- a class made with keywords: gA puts the values (the object first) in the parameters' order -/
structure MakK (P : Program) (w : World) (K : PySem.W.Frag) (mg : Str → Option Value) (base : Heap) (k : Nat) (x : Str) (C : Addr) (ps : List Str) (n : Nat) (ks : List Str) (gA : List AV → List AV → List AV) (sp : Sp) : Prop where
  ex : ∃ f fd g gV, Mk K C f ∧ FnOk P w K mg base CX0 k f fd ps sp ∧ mg x = some (.ref C) ∧ KBn K fd ps (n + 1) ks g gV ∧
    (∀ (ad : List Addr) (H : Hp) (as bs : List AV) (vs zs : List V), RepAs K ad H as vs → RepAs K ad H bs zs → vs.length = n + 1 → zs.length = ks.length → RepAs K ad H (gA as bs) (gV vs zs) ∧ (gV vs zs).length = ps.length)
theorem x_makeK0 {A : ASp} {gA : List AV → List AV → List AV} {ks : List Str} (F : MakK c.P c.w c.K c.mg c.base k x C ps 0 ks gA (spOf c.K ps.length A)) (hk : k + 1 ≤ c.k) (hg : c.gl x)
    (h : EvK c δ M kws fun bs M1 => bs.length = ks.length ∧ A (gA [.mut M1.length] bs) (M1 ++ [.ins C []]) fun r M2 => r = .dat .non ∧ Post (.mut M1.length) M2)
    (hall : ∀ env, (backToKw pos (keywordEach kws env)).all (·.1.isSome) = true) (hks : ∀ env, (backToKw pos (keywordEach kws env)).filterMap (·.1) = ks)
    (hpl : ∀ env, ((backTo pos (starEach [] env)).any (·.1) || (backToKw pos (keywordEach kws env)).any (·.1.isNone)) = false) (hdb : (x == ("__debug__" : Str)) = false := by decide) : EvX c δ M (.Call (.Name x p) [] kws pos) Post := fun y σ H ad he hs Q q => by
  obtain ⟨fa, fd, g, gV, MK, ok, hm, hb, hR⟩ := F.ex
  refine ⟨_, pe_makeK0 (X := y.cx) MK ok (y.room.mono hk) (glS y hg) hm hb pass0 wK_ok (hall y.env) (hks y.env) hdb (hpl y.env), h y σ H ad he hs _ fun zs H1 ad1 bs M1 n1 s1 r1 ⟨hl, hA⟩ => ⟨rfl, by rw [repAs_length r1]; exact hl, fun xa dx hx hdx hne => ?_⟩⟩
  obtain ⟨S2, n2⟩ := made_st (C := C) s1 hx hdx hne
  have hgx : (ad1 ++ [xa])[M1.length]? = some xa := by rw [← s1.len, List.getElem?_append_right (Nat.le_refl _), Nat.sub_self]; rfl
  obtain ⟨rr, rl⟩ := hR (ad1 ++ [xa]) _ [.mut M1.length] bs [.ref xa] zs ⟨_, _, rfl, ⟨xa, hgx, rfl⟩, rfl⟩ (r1.nx n2) rfl (by rw [repAs_length r1]; exact hl)
  refine ⟨rl, ad1 ++ [xa], gA [.mut M1.length] bs, M1 ++ [.ins C []], _, S2, rr, hA, fun v H3 ad3 a3 M3 n3 s3 r3 ⟨e3, p3⟩ => ?_⟩
  subst e3
  exact ⟨r3, q _ H3 ad3 (.mut M1.length) M3 ((n1.trans n2).trans n3) s3 ⟨xa, n3.get hgx, rfl⟩ p3⟩
theorem x_makeK {A : ASp} {gA : List AV → List AV → List AV} {ks : List Str} {n : Nat} (F : MakK c.P c.w c.K c.mg c.base k x C ps n ks gA (spOf c.K ps.length A)) (hk : k + 1 ≤ c.k) (hg : c.gl x)
    (h : EvA c δ M (e :: es) fun as M1 => EvK c δ M1 kws fun bs M2 => as.length = n ∧ bs.length = ks.length ∧ A (gA (.mut M2.length :: as) bs) (M2 ++ [.ins C []]) fun r M3 => r = .dat .non ∧ Post (.mut M2.length) M3)
    (hst : ∀ env, starEach (e :: es) env = (false, eval e env) :: starEach es env)
    (hall : ∀ env, (backToKw pos (keywordEach kws env)).all (·.1.isSome) = true) (hks : ∀ env, (backToKw pos (keywordEach kws env)).filterMap (·.1) = ks)
    (hpl : ∀ env, ((backTo pos (starEach (e :: es) env)).any (·.1) || (backToKw pos (keywordEach kws env)).any (·.1.isNone)) = false) (hdb : (x == ("__debug__" : Str)) = false := by decide) : EvX c δ M (.Call (.Name x p) (e :: es) kws pos) Post := fun y σ H ad he hs Q q => by
  obtain ⟨fa, fd, g, gV, MK, ok, hm, hb, hR⟩ := F.ex
  refine ⟨_, pe_makeK (X := y.cx) MK ok (y.room.mono hk) (glS y hg) hm hb pass0 wA_ok wK_ok (hall y.env) (hks y.env) hdb (hst y.env) (hpl y.env), h y σ H ad he hs _ fun vs H1 ad1 as M1 n1 s1 r1 p1 => p1 y σ H1 ad1 (he.nx n1) s1 _ fun zs H2 ad2 bs M2 n2 s2 r2 ⟨hl1, hl, hA⟩ => ⟨by rw [repAs_length r1]; exact hl1, by rw [repAs_length r2]; exact hl, fun xa dx hx hdx hne => ?_⟩⟩
  obtain ⟨S2, n3⟩ := made_st (C := C) s2 hx hdx hne
  have hgx : (ad2 ++ [xa])[M2.length]? = some xa := by rw [← s2.len, List.getElem?_append_right (Nat.le_refl _), Nat.sub_self]; rfl
  obtain ⟨rr, rl⟩ := hR (ad2 ++ [xa]) _ (.mut M2.length :: as) bs (.ref xa :: vs) zs ⟨_, _, rfl, ⟨xa, hgx, rfl⟩, (r1.nx n2).nx n3⟩ (r2.nx n3) (by rw [List.length_cons, repAs_length r1, hl1]) (by rw [repAs_length r2]; exact hl)
  refine ⟨rl, ad2 ++ [xa], gA (.mut M2.length :: as) bs, M2 ++ [.ins C []], _, S2, rr, hA, fun v H3 ad3 a3 M3 n4 s3 r3 ⟨e3, p3⟩ => ?_⟩
  subst e3
  exact ⟨r3, q _ H3 ad3 (.mut M2.length) M3 (((n1.trans n2).trans n3).trans n4) s3 ⟨xa, n4.get hgx, rfl⟩ p3⟩
end
end Fx

/-! Fx, part S: set of a list of ints. -/
namespace L2
open PySem PySem.Spec PyProof.Rows
abbrev bareSet9 (w : World) : Obj := { cls := .type "set", dict := none, data := .set #[] 0 (.fresh 0 0 (!w.params.followText "set-order")) }
section
variable {P : Program} {w : World} {A : Around} {E : Value → Shared → Prop} {s : Shared}
theorem call_set_lstI9 {l : Addr} {its : Array Value} (ms : List Int) {Q : Value → Shared → Prop} (hh : A.handled = none) (hL : s.heap.IsList l its) (hI : IntsAre its.toList ms) (hb : ms.length + 1 < scanBound)
    (k : ∀ (h2 : Heap) (t2 n : Nat), SetR w h2 s.heap.objs.size (fun j => decide (j ∈ ms)) n → n ≤ ms.length → (∀ b o, s.heap.get? b = some o → h2.get? b = some o) → Q (.ref s.heap.objs.size) { s with heap := h2, toks := t2 }) :
    wpAny (model P w) A (call (.type "set") [.ref l]) Q E s := by
  have hz : its.size = ms.length := by
    have e := IntsAre.length hI
    rwa [Array.length_toList] at e
  obtain ⟨cm, tm, hmro⟩ := F.called_set.mro
  have f1 := F.called_set.made
  have f2 := F.called_set.sub
  refine wpAny_call (codeAny_of_tree ?_)
  show wpAny _ _ (callAny (.type "set") _) _ _ _
  refine wpAny_pure ⟨Code.quiet_builtin _ (by decide +kernel), codeAny_builtin F.entry_type_call ?_⟩
  rw [Around.under_plain (weight_type_call_type "set" [.ref l] []) rfl]
  have f3 := F.called_set.notType
  have f4 := F.called_set.canCreate
  have f5 := F.typeCall_set_1 (.ref l)
  repeat (any_goals (first | assumption | wp_step))
  refine codeAny_mono (code_set_led1 (.ref l) (E := E) (Q₁ := fun ob s1 => ob = .ref s.heap.objs.size ∧ s1 = { s with heap := s.heap.push (bareSet9 w) }) ⟨rfl, rfl⟩) fun r1 s1 hr1 => ?_
  cases r1 with
  | error e => exact hr1
  | ok fl =>
    cases fl with
    | ret ob =>
      obtain ⟨rfl, rfl⟩ := hr1
      have g0 : (s.heap.push (bareSet9 w)).get? s.heap.objs.size = some (bareSet9 w) := Heap.get?_push_size _ rfl
      have hT : Shared.TypeIs { s with heap := s.heap.push (bareSet9 w) } (.ref s.heap.objs.size) "set" := ⟨_, g0, rfl⟩
      have f6 := F.called_set.init.lookup
      have f7 := F.called_set.init.bind (.ref s.heap.objs.size)
      repeat (any_goals (first | assumption | wp_step))
      refine codeAny_mono (codeAny_call_builtin (R := wants (fun r s2 => r = .none ∧ ∃ h2 t2 n, s2 = { s with heap := h2, toks := t2 } ∧ SetR w h2 s.heap.objs.size (fun j => decide (j ∈ ms)) n ∧ n ≤ ms.length ∧
          (∀ b o, s.heap.get? b = some o → h2.get? b = some o)) E) F.called_set.init.plain F.entry_set_init (check_set_init_1 hT ?_)) fun r3 s3 hr3 => ?_
      · obtain ⟨⟨oc, od, odt, osl⟩, ho, hc, nl, hd⟩ := hL
        simp only at hc hd
        subst hc
        subst hd
        have ho1 : (s.heap.push (bareSet9 w)).get? l = some { cls := .type "list", dict := od, data := .seq its nl, slots := osl } := Heap.get?_push_of_some _ ho
        have f8 := F.sub_list_set
        have f9 := F.sub_list_frozenset
        have ne1 : (Value.type "list" == Value.type "dict") = false := by decide
        have hL1 : (s.heap.push (bareSet9 w)).IsList l its := ⟨_, ho1, rfl, nl, rfl⟩
        unfold Builtin.«set.__init__» noKeywords Builtin.Frozenset.updateFrom
        generalize hPI : pyIter = PI
        wp_walk
        subst hPI
        refine wpAny_pyIter_list hL1 ?_
        refine wpAny_bind (wpAny_runValue ?_)
        have hlS : l < s.heap.objs.size := Heap.lt_size ho
        have hh3 : A.in1.in1.in1.handled = none := by simp [hh]
        have hz1 : (s.heap.push (bareSet9 w)).objs.size = s.heap.objs.size + 1 := Heap.size_push ..
        have neI : l ≠ (s.heap.push (bareSet9 w)).objs.size := fun z => absurd (z.trans hz1) (Nat.ne_of_lt (Nat.lt_succ_of_lt hlS))
        have nSf : s.heap.objs.size ∉ [(s.heap.push (bareSet9 w)).objs.size, l] := by
          intro z
          rcases List.mem_cons.mp z with z | z
          · exact absurd (z.trans hz1) (Nat.ne_of_lt (Nat.lt_succ_self _))
          · exact absurd (List.mem_singleton.mp z) (Nat.ne_of_gt hlS)
        have vals : ∀ (i : Nat) (v : Value), its[i]? = some v → ∃ x t, ms[i]? = some x ∧ v = .int x t := fun i v hv => by
          have hi : i < ms.length := by
            have := (Array.getElem?_eq_some_iff.mp hv).1
            omega
          obtain ⟨t, e⟩ := PyProof.Rows.IntsAre.int_at hI i v (by rw [Array.getElem?_toList]; exact hv)
          refine ⟨ms[i], t, List.getElem?_eq_getElem hi, ?_⟩
          rw [e, List.getD_eq_getElem?_getD, List.getElem?_eq_getElem hi] <;> rfl
        refine set_update_ints ((Walks.list hh3 _ l neI its).toS) s.heap.objs.size nSf ms hz hb vals (its.size - 0) 0 _ (by omega) (Nat.zero_le _) ⟨⟨_, Heap.get?_push_size _ rfl, rfl, rfl⟩, (hL1.push _)⟩ ?g1 ?g2
        case g1 => exact ⟨0, Nat.le_refl 0, setR_new_at (Heap.get?_push_of_some _ g0)⟩
        case g2 =>
          intro s4 n4 hm hn4 hS4
          obtain ⟨h4, g4, d4, t4, o4⟩ := s4
          obtain rfl : g4 = s.gens := hm.gens
          obtain rfl : d4 = s.drawn := hm.drawn
          obtain rfl : o4 = s.os := hm.os
          show wpAny _ _ _ _ _ _
          refine wpAny_pure ?_
          show wpAny _ _ (ret Value.none) _ _ _
          refine wpAny_pure ⟨rfl, h4, t4, n4, rfl, hS4, by omega, fun b o e => ?_⟩
          have lt0 : b < s.heap.objs.size := Heap.lt_size e
          refine hm.heap b o (fun z => ?_) (Heap.get?_push_of_some _ (Heap.get?_push_of_some _ e))
          rcases List.mem_cons.mp z with z | z
          · exact absurd z (Nat.ne_of_lt lt0)
          · exact absurd ((List.mem_singleton.mp z).trans hz1) (Nat.ne_of_lt (Nat.lt_succ_of_lt lt0))
      · cases r3 with
        | error e => exact hr3
        | ok fl3 =>
          cases fl3 with
          | ret r =>
            obtain ⟨rfl, h2, t2, n2, rfl, q1, q2, q3⟩ := hr3
            repeat (any_goals (first | assumption | wp_step))
            exact k _ _ _ q1 q2 q3
          | _ => exact hr3.elim
    | _ => exact hr1.elim
end
section
variable {X : Cx}
def rSetOfL9 (K : PySem.W.Frag) (w : World) : List V → Hp → VK → Prop := fun xs H Q => ∃ (l : Addr) (ns : List Int), xs = [V.ref l] ∧ (SqT K H l (ns.map V.int) ∨ SqL K H l (ns.map V.int)) ∧ ns.length ≤ 1000 ∧
  ∀ a n, H a = none → n ≤ ns.length → Q (.ref a) (upd H a (SetO w a (fun j => decide (j ∈ ns)) n))
theorem cr_setOfL9 (hc : X.calm = true) : CallR X (.type "set") (rSetOfL9 X.K X.w) := by
  intro pins s σ H xs us Q I r h
  obtain ⟨l, ns, rfl, hl, hf, q⟩ := h
  rcases hl with hl | hl
  · exact cr_setOfI9 hc pins s σ H _ us Q I r ⟨l, ns, rfl, hl, hf, q⟩
  · rw [Vals.ref1 r]
    obtain ⟨its, rv, pt, hz⟩ := I.list hl
    have hn : H s.heap.objs.size = none := I.hok.fresh (Nat.le_refl _)
    have hi : IntsAre its.toArray.toList ns := ints_of_vals rv
    refine call_set_lstI9 ns (I.ok.hd hc) pt.isList hi (by unfold scanBound; omega) fun h' tk c R1 hcn k => ?_
    exact ⟨.ref s.heap.objs.size, upd H s.heap.objs.size (SetO X.w s.heap.objs.size (fun j => decide (j ∈ ns)) c), I.laid (t' := tk) k (Nat.le_refl _) (setO_new R1), rfl, q _ c hn hcn⟩
end
end L2
namespace Fx
open PySem L2
section
variable {c : SC} {δ : Dl} {M : List MO} {Post : AQ} {a b e o f : Expr} {p p1 p2 p3 p4 p5 p6 pos : Pos}
/-- len(set(a) & set(b)), a tuple or a list -/
theorem x_sameL (hl : c.gl "len") (hlm : c.mg "len" = none) (hs : c.gl "set") (hsm : c.mg "set" = none)
    (h : EvX c δ M a fun x M1 => ∃ ns : List Int, (x = .dat (tI ns) ∨ x = .ls (ns.map D.int)) ∧ ns.length ≤ 1000 ∧ EvX c δ M1 b fun y M2 => ∃ ms : List Int, y = .dat (tI ms) ∧ ms.length ≤ 1000 ∧ ∀ out : List Int, out.Nodup → (∀ k, k ∈ out ↔ k ∈ ns ∧ k ∈ ms) → Post (.dat (.int (out.length : Nat))) M2)
    (sa : ∀ env, starEach [a] env = (false, eval a env) :: starEach [] env) (sb : ∀ env, starEach [b] env = (false, eval b env) :: starEach [] env) :
    EvX c δ M (.Call (.Name "len" p1) [.BinOp (.Call (.Name "set" p2) [a] [] p3) .BitAnd (.Call (.Name "set" p4) [b] [] p5) p6] [] pos) Post := fun y σ H ad he hst Q q => by
  refine ⟨_, pe_callB (X := y.cx) cr_lenSet9 (glS y hl) hlm PySem.boot_len (pa_cons (pe_op op_andI (pe_callTy (cr_setOfL9 rfl) (glS y hs) hsm PyProof.Rows.boot_set (pa_cons wE_ok pa_nil (sa y.env)) (by decide) (by decide) (sa y.env) (by rfl)) (pe_callTy (cr_setOfI9 rfl) (glS y hs) hsm PyProof.Rows.boot_set (pa_cons wE_ok pa_nil (sb y.env)) (by decide) (by decide) (sb y.env) (by rfl))) pa_nil (by rfl)) (by decide) (by decide) (by rfl) (by rfl), ?_⟩
  refine h y σ H ad he hst _ fun xv H1 ad1 ax M1 n1 s1 r1 p1 => ?_
  obtain ⟨ns, hx, hl1, p1⟩ := p1
  obtain ⟨pa, rfl, hq⟩ : ∃ pa, xv = .ref pa ∧ (SqT c.K H1 pa (ns.map V.int) ∨ SqL c.K H1 pa (ns.map V.int)) := by
    rcases hx with rfl | rfl
    · obtain ⟨pa, xs, rfl, hq, rr⟩ := r1
      rw [reps_ints.mp rr] at hq
      exact ⟨pa, rfl, .inl hq⟩
    · obtain ⟨pa, xs, rfl, hq, rr⟩ := r1
      rw [reps_ints.mp rr] at hq
      exact ⟨pa, rfl, .inr hq.sq⟩
  refine ⟨pa, ns, rfl, hq, hl1, fun q1 c1 hq1 hc1 => ?_⟩
  have sm1 := same_new (o := SetO c.w q1 (fun j => decide (j ∈ ns)) c1) hq1
  have n2 := n1.trans (Nx.same (ad := ad1) sm1)
  have fq1 : q1 ∉ ad1 := s1.free hq1
  refine p1 y σ _ ad1 (he.nx n2) (s1.same sm1) _ fun yv H3 ad3 ay M3 n3 s3 r3 p3 => ?_
  obtain ⟨ms, rfl, hl2, p3⟩ := p3
  obtain ⟨pb, ys, rfl, hq', rr'⟩ := r3
  rw [reps_ints.mp rr'] at hq'
  refine ⟨pb, ms, rfl, hq', hl2, fun q2 c2 hq2 hc2 => ?_⟩
  have sm2 := same_new (o := SetO c.w q2 (fun j => decide (j ∈ ms)) c2) hq2
  have k1 : H3 q1 = some (SetO c.w q1 (fun j => decide (j ∈ ns)) c1) := n3.keep q1 _ fq1 upd_same
  have n4 := (n2.trans n3).trans (Nx.same (ad := ad3) sm2)
  have s4 := s3.same sm2
  have ne : q1 ≠ q2 := ne_of_none k1 hq2
  refine ⟨q1, q2, _, _, c1, c2, rfl, rfl, ne, sm2 _ _ k1, upd_same, by omega, by omega, fun q3 out hq3 hnd hmem => ?_⟩
  have sm3 := same_new (o := SetO c.w q3 (fun j => decide (j ∈ out)) out.length) hq3
  refine ⟨q3, _, out.length, rfl, upd_same, q _ _ ad3 (.dat (.int (out.length : Nat))) M3 (n4.trans (Nx.same sm3)) (s4.same sm3) rfl (p3 out hnd fun k => ?_)⟩
  rw [hmem k, decide_eq_true_eq, decide_eq_true_eq]
end
end Fx

/-! Fx, part St: texts walked, cut. -/
namespace Fx
open PySem L2
section
variable {c : SC} {δ : Dl} {M : List MO} {Post : AQ} {a b e tg : Expr} {pos p p1 p2 tpos : Pos} {Pi : List D → Option Nat → List MO → Prop}
def lettersD (x : Str) : List D := x.cps.toList.map fun ch => D.str ⟨#[ch]⟩
theorem walks_str {K : PySem.W.Frag} {ad : List Addr} {H : Hp} {x : Str} : Walks K (Its x) ad H (lettersD x) none := fun ad2 H2 M2 n s _ i => by
  refine ⟨fun d hd => ?_, fun e => ?_⟩
  · unfold lettersD at hd
    rw [List.getElem?_map] at hd
    cases hc : x.cps.toList[i]? with
    | none => rw [hc] at hd; cases hd
    | some ch =>
      rw [hc] at hd
      have ed : D.str ⟨#[ch]⟩ = d := Option.some.inj hd
      subst ed
      have hc2 : x.cps[i]? = some ch := by rw [← Array.getElem?_toList]; exact hc
      refine ⟨(Array.getElem?_eq_some_iff.mp hc2).1, fun v H3 ⟨e3, ch', h1, h2⟩ => ?_⟩
      subst e3 h2
      rw [hc2] at h1
      cases h1
      exact ⟨Same.refl _, rfl⟩
  · show x.cps.size ≤ i
    rw [e]
    unfold lettersD
    rw [List.length_map, Array.length_toList]
    exact Nat.le_refl _
/-- for .. in a text -/
theorem i_str (h : EvX c δ M e fun a M1 => ∃ x, a = .dat (.str x) ∧ Pi (lettersD x) none M1) : EvI c δ M tg e Pi := fun y σ H ad he hs R q =>
  ⟨_, pi_str wE_ok, h y σ H ad he hs _ fun v H1 ad1 a M1 n1 s1 r1 ⟨x, ea, p1⟩ => by
    subst ea
    exact ⟨x, r1, q _ H1 ad1 _ _ M1 n1 s1 walks_str p1⟩⟩
/-- x[lo:hi] of a text -/
theorem x_slS {lo hi : Option Expr} (h : EvX c δ M a fun x M1 => EvO c δ M1 lo fun l M2 => EvO c δ M2 hi fun u M3 => ∃ z, x = .dat (.str z) ∧ z.length ≤ 1000000 ∧ Post (.dat (.str (cutS z l u))) M3) : EvX c δ M (.Subscript a (.Slice lo hi none p2) pos) Post := fun y σ H ad he hs Q q =>
  ⟨_, pe_slice sl_str wE_ok wOp_ok wOp_ok, h y σ H ad he hs _ fun v H1 ad1 x M1 n1 s1 r1 p1 => p1.run y σ H1 ad1 (he.nx n1) s1 _ fun l H2 ad2 M2 n2 s2 p2 => p2.run y σ H2 ad2 (he.nx (n1.trans n2)) s2 _ fun u H3 ad3 M3 n3 s3 ⟨z, ex, hz, p3⟩ => by
    subst ex
    have n := (n1.trans n2).trans n3
    exact ⟨z, r1, Nat.le_trans hz (by decide), q _ H3 ad3 (.dat (.str (cutS z l u))) M3 n s3 rfl p3⟩⟩
/-- xs[i] = e -/
theorem s_six {D : AE} {o i : Expr} (h : EvX c δ M e fun v M1 => EvX c δ M1 o fun w M2 => EvX c δ M2 i fun u M3 => ∃ (d : Fx.D) (j n : Nat) (ds : List Fx.D), v = .dat d ∧ w = .mut j ∧ u = .dat (.int (n : Nat)) ∧ M3[j]? = some (.lst ds) ∧ n < ds.length ∧ D.nx δ (M3.set j (.lst (ds.set n d))))
    (hs1 : ∀ env, swapsWithSole [.Subscript o i p] e pos.line env = pure false) (hw : ∀ env, swappedStores [.Subscript o i p] e env = pure none) (h1 : ∀ env, (assignEach [.Subscript o i p] env).map (·.2) = [assign (.Subscript o i p) env])
    (ha : ∀ env v, assign (.Subscript o i p) env v = (do
      let ov ← holding [v] (eval o env)
      let iv ← holding [v, ov] (eval i env)
      standAt p
      holding [v, ov, iv] (setItem ov iv v)
      release [v, ov, iv] [])) : Run1 c δ M (.Assign [.Subscript o i p] e pos) D := fun y σ H ad he hs E q =>
  ⟨_, ps_asg wE_ok (pg_sub wE_ok wE_ok set_list (ha y.env)) (hs1 y.env) (hw y.env) (h1 y.env), h y σ H ad he hs _ fun v H1 ad1 a1 M1 n1 s1 r1 p1 => p1 y σ H1 ad1 (he.nx n1) s1 _ fun w H2 ad2 a2 M2 n2 s2 r2 p2 => p2 y σ H2 ad2 (he.nx (n1.trans n2)) s2 _ fun u H3 ad3 a3 M3 n3 s3 r3 ⟨d, j, n, ds, e1, e2, e3, hm, hn, p3⟩ => by
    subst e1 e2 e3
    obtain ⟨qq, xs, e4, hq, hx, rr⟩ := st_lst s3 (r2.nx n3) hm
    subst e4
    have rv : Rep c.K H3 d v := Rep.tx n3.tx (Rep.tx n2.tx r1)
    obtain ⟨s5, n5⟩ := put_lst (ds := ds) (ys := xs.set n v) s3 hq hx (rr.set rv n)
    have n15 := ((n1.trans n2).trans n3).trans n5
    refine ⟨qq, xs, n, n, rfl, r3, hx, ?_, q.nx σ _ ad3 δ _ n15 (he.nx n15) s5 p3⟩
    unfold ixN
    rw [if_pos (by omega), if_pos (by rw [rr.length]; omega)]
    simp⟩
/-- xs.index(e), ints, e among them, xs of the store -/
theorem x_lindexM {o : Expr} {apos : Pos} (h : EvX c δ M o fun v M1 => ∃ (ns : List Int) (j : Nat), v = .mut j ∧ M1[j]? = some (.lst (ns.map .int)) ∧ EvX c δ M1 e fun w M2 => ∃ k : Int, w = .dat (.int k) ∧ M2[j]? = some (.lst (ns.map .int)) ∧ k ∈ ns ∧ Post (.dat (.int (ns.idxOf k : Nat))) M2)
    (hbase : ∀ env, attributeBase o "index" env (eval o env) = eval o env)
    (hfew : ∀ env, ((backTo pos (starEach [e] env)).all (fun x => !x.1) && (backToKw pos (keywordEach [] env)).all (fun x => x.1.isSome) && decide ([e].length + ([] : List Keyword).length + (if ([] : List Keyword).isEmpty then 0 else 1) < 30)) = true)
    (hline : (apos.endLine == pos.line) = true) (hst : ∀ env, starEach [e] env = (false, eval e env) :: starEach [] env) : EvX c δ M (.Call (.Attribute o "index" apos) [e] [] pos) Post := fun y σ H ad he hs Q q =>
  ⟨_, pe_bm (X := y.cx) PySem.F.plainAttrs_list PySem.F.slot_list_index PySem.F.type_list_index mt_index wE_ok (pa_cons wE_ok pa_nil (hst y.env)) (hbase y.env) (hfew y.env) hline (hst y.env) rfl, h y σ H ad he hs _ fun v H1 ad1 a1 M1 n1 s1 r1 ⟨ns, j, e1, hm1, p1⟩ => by
    subst e1
    obtain ⟨qq, xs, e4, hq, hx, rr⟩ := st_lst s1 r1 hm1
    subst e4
    refine ⟨.inl ⟨rfl, xs, .inl (.inl hx)⟩, p1 y σ H1 ad1 (he.nx n1) s1 _ fun w H2 ad2 a2 M2 n2 s2 r2 ⟨k, e2, hm2, hk, p2⟩ => ?_⟩
    subst e2
    obtain ⟨q3, xs3, e3, hq3, hx3, rr3⟩ := st_lst s2 (r1.nx n2) hm2
    cases e3
    have hq4 : SqL c.K H2 qq xs3 := .inl (.inl hx3)
    rw [reps_ints.mp rr3] at hq4
    have hlt := List.idxOf_lt_length_iff.mpr hk
    refine ⟨qq, ns.map V.int, V.int k, ns.idxOf k, V.int k, rfl, ?_, hq4, rfl, ?_, ?_, ?_, fun m z hm hz => ?_, q _ H2 ad2 (.dat (.int (ns.idxOf k : Nat))) M2 (n1.trans n2) s2 rfl p2⟩
    · rw [show w = .int k from r2]
    · rw [List.all_map]
      exact List.all_eq_true.mpr fun _ _ => rfl
    · rw [List.getElem?_map, List.getElem?_eq_getElem hlt, List.getElem_idxOf hlt]
      rfl
    · rw [eqV_int, decide_eq_true rfl]
    · have hml : m < ns.length := Nat.lt_trans hm hlt
      rw [List.getElem?_map, List.getElem?_eq_getElem hml] at hz
      have ez : z = V.int ns[m] := (Option.some.inj hz).symm
      rw [ez, eqV_int]
      refine decide_eq_false fun e => ?_
      have := List.not_of_lt_findIdx (p := (· == k)) (xs := ns) (i := m) (by exact hm)
      simp [e] at this⟩
end
end Fx

/-! Fx, part Tx: texts split and joined, read as numbers; sorted sets; None in a list; an exception made by its default. -/
namespace L2
open PySem PySem.Spec PyProof.Rows
section
variable {X : Cx}
/-- sorted of a set of ints -/
def rSortSet9 (w : World) : List V → Hp → VK → Prop := fun vs H Q => ∃ (a : Addr) (S : Int → Bool) (n : Nat), vs = [V.ref a] ∧ H a = some (SetO w a S n) ∧ n < 64 ∧
  ∀ (out : List Int) (p : Addr), out.Pairwise (· < ·) → (∀ k : Int, k ∈ out ↔ S k = true) → H p = none → Q (.ref p) (upd H p (.lst (out.map V.int)))
theorem cr_sortSet9 (hc : X.calm = true) : CallR X (.builtin "sorted") (rSortSet9 X.w) := fun pins s σ H vs us Q I r h => by
  obtain ⟨a, S, n, rfl, ha, h64, q⟩ := h
  rw [Vals.ref1 r]
  refine sorted_set (show SetR X.w s.heap a S n from (I.hok a _ ha).1) (I.ok.hd hc) h64 fun s2 p out c ns k g o hp hg hi hs hm hl => ?_
  have hn : H p = none := I.hok.fresh hp
  have J : Inv X pins σ (upd H p (.lst (ns.map V.int))) { s with heap := s2.heap, gens := s2.gens, drawn := s2.drawn, toks := s2.toks } :=
    I.call (ch := []) (Un.laid k hp hn) (I.hok.laid k hp ⟨by rw [List.length_map, hl, sizeLine_eq]; omega, out.toList, c, vals_of_ints hi, hg⟩) (by rw [g]; exact I.bare) (fun _ z => nomatch z)
  rw [show s2 = { s with heap := s2.heap, gens := s2.gens, drawn := s2.drawn, toks := s2.toks } by cases s2; cases s; cases o; rfl]
  exact ⟨.ref p, _, J, rfl, q ns p hs hm hn⟩
/-- C() of an exception whose __init__ stores its one parameter, None by default -/
theorem pmk_oexN9 {CX : CXT} {C fI : Addr} {k : Nat} {fd : FuncData} {x f : Str} {p pos : Pos} (T : OexC X.K C) (iC : PySem.W.findIn X.K (.ref C) "__init__" = some (some (.ref fI)))
    (tI : PySem.W.typeIn X.K (.ref fI) = some (.type "function")) (hno : PySem.W.findIn X.K (.ref C) f = some none) (F1 : FnOk X.prog X.w X.K X.mg X.base CX k fI fd ["self", f] (spIni9 X.K f)) (hr : Room (k + 1) X.A) (hx : Passes CX X (fun _ _ _ => False))
    (hb : ∀ (s : Shared) (e : Addr), X.K.In s.heap → BindsTo s fd ⟨[.ref e], []⟩ [("self", .ref e), (f, .none)]) (hg : Gl X x) (hm : X.mg x = some (.ref C)) (hdb : (x == ("__debug__" : Str)) = false := by decide) :
    PMk X (.Call (.Name x p) [] [] pos) (fun σ H Q => ∀ d, H d = none → Q (.ref C) (some d) (upd H d (.xd [(f, .non)]))) := by
  intro pins s σ H Q I h
  refine wpAny_Call_Name_kw (ld_glob I hg hm ?_ hdb)
  exact PySem.W.callWith_K0 I.kIn T.kC (oex_make9 (us := []) (kw := []) (v := .non) (u := .none) T iC tI hno F1 hr hx I (by show 0 ≤ _; omega) (fun s e hk => hb s e hk) rfl h)
end
end L2
namespace Fx
open PySem L2 LamX
/-- a class of the text over ValueError, its __init__ stores its one parameter, None by default -/
class IniExcD (K : PySem.W.Frag) (mg : Str → Option Value) (x : Str) (C : outParam Addr) (f : outParam Str) : Prop where
  gC : mg x = some (.ref C)
  T : OexC K C
  fld : PySem.W.findIn K (.ref C) f = some none
  ini : ∃ (fI : Addr) (fd : FuncData), PySem.W.findIn K (.ref C) "__init__" = some (some (.ref fI)) ∧ PySem.W.typeIn K (.ref fI) = some (.type "function") ∧
    (∀ (s : Shared) (e : Addr) (u : Value), K.In s.heap → BindsTo s fd ⟨[.ref e], [(f, u)]⟩ [("self", .ref e), (f, u)]) ∧
    (∀ (s : Shared) (e : Addr), K.In s.heap → BindsTo s fd ⟨[.ref e], []⟩ [("self", .ref e), (f, .none)]) ∧
    ∀ (P : Program) (w : World) (base : Heap) (k : Nat), FnOk P w K mg base (L2.CX P w) (k + 1) fI fd ["self", f] (spIni9 K f)
section
variable {c : SC} {δ : Dl} {M : List MO} {Post : AQ} {B : Bool → List MO → Prop} {X : XP} {D : AE} {a b e o t : Expr} {es : List Expr} {pos p p1 p2 p3 p4 pos' kp apos : Pos} {x f : Str} {k : Nat} {Pf : List Fx.D → List MO → Prop}
/-- raise X(f = e), X with a default -/
theorem rx_raiseKD {C : Addr} (T : IniExcD c.K c.mg x C f) (hk : 2 ≤ c.k) (hg : c.gl x) (h : EvX c δ M e fun a M1 => ∃ d, a = .dat d ∧ X C [(f, d)] M1) (hdb : (x == ("__debug__" : Str)) = false := by decide) : RunX c δ M [.Raise (some (.Call (.Name x p) [] [⟨some f, e, kp⟩] pos)) none pos'] D X := fun y W tk σ H ad he hs E q qx => by
  obtain ⟨fI, fd, i1, i2, i3, i4, i5⟩ := T.ini
  refine ⟨_, pss_one (ps_raise rfl tk (pmk_oexK9 (X := y.cx) (k := 1) T.T i1 i2 T.fld (i5 _ _ _ 0) (y.room.mono hk) (passes_call tk fun _ _ _ _ h => h.elim) i3 (glS y hg) T.gC wE_ok hdb)), h y σ H ad he hs _ fun v H1 ad1 a1 M1 n1 s1 r1 ⟨d, e1, p1⟩ dx hdx => ?_⟩
  subst e1
  exact xd_out qx n1 s1 r1 hdx p1
/-- raise X() -/
theorem rx_raiseN {C : Addr} (T : IniExcD c.K c.mg x C f) (hk : 2 ≤ c.k) (hg : c.gl x) (h : X C [(f, .non)] M) (hdb : (x == ("__debug__" : Str)) = false := by decide) : RunX c δ M [.Raise (some (.Call (.Name x p) [] [] pos)) none pos'] D X := fun y W tk σ H ad he hs E q qx => by
  obtain ⟨fI, fd, i1, i2, i3, i4, i5⟩ := T.ini
  refine ⟨_, pss_one (ps_raise rfl tk (pmk_oexN9 (X := y.cx) (k := 1) T.T i1 i2 T.fld (i5 _ _ _ 0) (y.room.mono hk) (passes_call tk fun _ _ _ _ h => h.elim) i4 (glS y hg) T.gC hdb)), fun dx hdx => ?_⟩
  exact xd_out qx Nx.refl hs (d := .non) rfl hdx h
/-- for .., its body may raise -/
theorem rx_for {tg iter : Expr} {body sts : List Stmt} (h : EvI c δ M tg iter fun ds src M1 => ∃ I : Nat → Dl → List MO → Prop, I 0 δ M1 ∧ (∀ i δ2 M2, I i δ2 M2 → ∀ j, src = some j → M2[j]? = some (.lst ds)) ∧
      (∀ i d δ2 M2, ds[i]? = some d → I i δ2 M2 → EvGx c δ2 tg (.dat d) fun δ3 => RunX c δ3 M2 body { D with nx := I (i + 1), ct := I (i + 1), bk := fun δ M => RunX c δ M sts D X } X) ∧ ∀ δ2 M2, I ds.length δ2 M2 → RunX c δ2 M2 sts D X)
    (hf : ∀ env x, foldedSetIterable iter env x = pure x) : RunX c δ M (.For tg iter body [] pos :: sts) D X := fun y W tk σ H ad he hs E q qx =>
  ⟨_, pss_cons (ps_for (X := y.cx) y.pass rfl wI_ok wG_ok wSs_ok (hf y.env)) wSs_ok, h y σ H ad he hs _ fun J H1 ad1 ds src M1 n1 s1 w ⟨I, i0, ik, it, idn⟩ => by
    have nx : ∀ {σ2 : L2.St} {H2 : Hp} {ad2 : List Addr} {δ2 : Dl} {M2 : List MO}, Nx ad H ad2 H2 → EnvOk c.K ad2 H2 σ2 δ2 → StOk c.K ad2 H2 M2 → RunX c δ2 M2 sts D X → wSs y.cx sts E σ2 H2 := fun n e s p => p y W tk _ _ _ e s E (q.on n) (qx.on n)
    refine ⟨fun i m σ' H' => m = ds.length - i ∧ i ≤ ds.length ∧ ∃ ad' M' δ', Nx ad1 H1 ad' H' ∧ StOk c.K ad' H' M' ∧ EnvOk c.K ad' H' σ' δ' ∧ I i δ' M', ⟨ds.length, by omega, Nat.zero_le _, ad1, M1, δ, Nx.refl, s1, he.nx n1, i0⟩, ?_⟩
    rintro i m σ' H' ⟨rfl, hi, ad', M', δ', n', s', e', inv⟩
    obtain ⟨hgo, hstop⟩ := w ad' H' M' n' s' (ik i δ' M' inv) i
    by_cases hlt : i < ds.length
    · obtain ⟨go, yl⟩ := hgo ds[i] (List.getElem?_eq_getElem hlt)
      refine .inr ⟨go, fun σ2 H2 => i + 1 ≤ ds.length ∧ ∃ ad' M' δ', Nx ad1 H1 ad' H2 ∧ StOk c.K ad' H2 M' ∧ EnvOk c.K ad' H2 σ2 δ' ∧ I (i + 1) δ' M', fun σ2 H2 hq => ⟨ds.length - (i + 1), by omega, rfl, hq⟩, fun x H3 hy => ?_⟩
      obtain ⟨sm, rx⟩ := yl x H3 hy
      have n3 : Nx ad1 H1 ad' H3 := n'.trans (Nx.same sm)
      obtain ⟨is, it'⟩ := it i ds[i] δ' M' (List.getElem?_eq_getElem hlt) inv
      refine it' y σ' H3 ad' x (e'.nx (Nx.same sm)) rx _ fun σ2 δ2 e2 _ p2 => ?_
      refine p2 y W tk σ2 H3 ad' e2 (s'.same sm) _ ⟨fun σ4 H4 ad4 δ4 M4 n4 e4 s4 p4 => ⟨hlt, ad4, M4, δ4, n3.trans n4, s4, e4, p4⟩, fun v H4 ad4 a M4 n4 s4 r4 p4 => q.rt v H4 ad4 a M4 (n1.trans (n3.trans n4)) s4 r4 p4,
        fun σ4 H4 ad4 δ4 M4 n4 e4 s4 p4 => nx (n1.trans (n3.trans n4)) e4 s4 p4, fun σ4 H4 ad4 δ4 M4 n4 e4 s4 p4 => ⟨hlt, ad4, M4, δ4, n3.trans n4, s4, e4, p4⟩⟩ (qx.on (n1.trans n3))
    · have ei : i = ds.length := by omega
      subst ei
      exact .inl ⟨hstop rfl, nx (n1.trans n') e' s' (idn δ' M' inv)⟩⟩
theorem c_eqLI {x y : AV} {a b : List Int} (hx : IsL M x (a.map Fx.D.int)) (hy : IsL M y (b.map Fx.D.int)) (h : B (decide (a = b)) M) : CmpR c .Eq x y M B := by
  obtain ⟨a1, b1⟩ := isL_py hx
  obtain ⟨a2, b2⟩ := isL_py hy
  have ok : ∀ l : List Int, (l.map Fx.D.int).all (okD 0) = true := fun l => by
    rw [List.all_map]
    exact List.all_eq_true.mpr fun _ _ => rfl
  refine c_eqD a1 a2 (by rw [b1]; exact okDs_shaped (ok a) (by decide)) (by rw [b2]; exact okDs_shaped (ok b) (by decide)) ?_
  rw [b1, b2]
  show B (PyData.eqv (.list (pys (a.map Fx.D.int))) (.list (pys (b.map Fx.D.int)))) M
  simp only [PyData.eqv, eqv_all_ints]
  exact h
/-- o.split(e) -/
theorem f_split (h : EvX c δ M o fun v M1 => ∃ s : Str, v = .dat (.str s) ∧ EvX c δ M1 e fun w M2 => ∃ u : Str, w = .dat (.str u) ∧ (u.length == 0) = false ∧ s.length + 2 ≤ 1000000 ∧ Pf ((Txt.split s u).map Fx.D.str) M2)
    (hst : ∀ env, starEach [e] env = [(false, eval e env)]) (hbase : ∀ env, attributeBase o "split" env (eval o env) = eval o env) (hline : (apos.endLine == pos.line) = true) : EvF c δ M (.Call (.Attribute o "split" apos) [e] [] pos) Pf := fun y σ H ad he hs Q q =>
  ⟨_, pe_split (X := y.cx) wE_ok wE_ok (hst y.env) (hbase y.env) hline, h y σ H ad he hs _ fun v H1 ad1 a1 M1 n1 s1 r1 ⟨s, e1, p1⟩ => by
    subst e1
    refine ⟨⟨s, r1⟩, p1 y σ H1 ad1 (he.nx n1) s1 _ fun w H2 ad2 a2 M2 n2 s2 r2 ⟨u, e2, hu, hl, p2⟩ => ?_⟩
    subst e2
    refine ⟨s, u, r1, by rw [show w = V.str u from r2], hu, Nat.le_trans hl (by decide), fun p hp => ?_⟩
    have n := n1.trans n2
    have sm := same_new (o := .lst ((Txt.split s u).map V.str)) hp
    exact q p _ _ ad2 _ M2 (n.trans (Nx.same sm)) (s2.same sm) (free_back n s2 hp) (s2.free hp) upd_same (reps_strs.mpr rfl) p2⟩
/-- o.join(e) -/
theorem x_join (h : EvX c δ M o fun v M1 => ∃ s : Str, v = .dat (.str s) ∧ EvX c δ M1 e fun w M2 => ∃ ys : List Str, IsS M2 w (ys.map Fx.D.str) ∧ (ys.map (·.length)).sum + ys.length * s.length ≤ 16777216 ∧ Post (.dat (.str (Txt.join s ys))) M2)
    (hst : ∀ env, starEach [e] env = [(false, eval e env)]) (hbase : ∀ env, attributeBase o "join" env (eval o env) = eval o env) (hline : (apos.endLine == pos.line) = true) : EvX c δ M (.Call (.Attribute o "join" apos) [e] [] pos) Post := fun y σ H ad he hs Q q =>
  ⟨_, pe_join (X := y.cx) wE_ok wE_ok (hst y.env) (hbase y.env) hline, h y σ H ad he hs _ fun v H1 ad1 a1 M1 n1 s1 r1 ⟨s, e1, p1⟩ => by
    subst e1
    refine ⟨⟨s, r1⟩, p1 y σ H1 ad1 (he.nx n1) s1 _ fun w H2 ad2 a2 M2 n2 s2 r2 ⟨ys, hy, hl, p2⟩ => ?_⟩
    obtain ⟨pp, xs, rfl, hq, rr⟩ := hy.sq s2 r2
    rw [reps_strs.mp rr] at hq
    exact ⟨s, pp, ys, r1, rfl, hq, hl, q _ H2 ad2 (.dat (.str (Txt.join s ys))) M2 (n1.trans n2) s2 rfl p2⟩⟩
/-- int(text) -/
theorem ca_intS {s : Str} {n : Int} (hn : PySem.intText? s = some n) (hl : s.length ≤ 640) (h : Post (.dat (.int n)) M) : CallA c (.type "int") [.dat (.str s)] M Post := fun z H ad hs vs r Q q => by
  obtain ⟨v, rfl, rv⟩ := repAs1 r
  exact ⟨_, call_int_str, s, n, by rw [show v = V.str s from rv], hn, hl, q _ H ad (.dat (.int n)) M Nx.refl hs rfl h⟩
/-- sign in text -/
theorem c_inSign {ch : Nat} {z : Str} (h : B (decide (ch ∈ z.cps.toList)) M) : CmpR c .In (.dat (.str ⟨#[ch]⟩)) (.dat (.str z)) M B := fun y H ad st vx vy rx ry Q q =>
  ⟨_, op_in_sign, ch, z, rx, ry, q _ H ad M Nx.refl st h⟩
/-- d in ys, data of any depth -/
theorem c_inDD (n : Nat) {d : Fx.D} {v : AV} {ds : List Fx.D} (hv : IsL M v ds) (hd : okD n d = true) (hs : ds.all (okD n) = true) (h : B ((pys ds).any fun z => PyData.eqv z d.py) M) (hn : n ≤ 50 := by decide) : CmpR c .In (.dat d) v M B := fun z H ad st vx vy rx ry Q q => by
  obtain ⟨h1, h2⟩ := isL_py hv
  have dy := av_dp st ry h1
  rw [h2] at dy
  exact ⟨_, op_inD (by have := z.room.un; show z.A.units + 65 < cLine; omega), _, _, rep_dp rx, dy, okD_shaped hd (by omega), okDs_shaped hs (by omega), q _ H ad M Nx.refl st h⟩
/-- xs.index(e), data of any depth -/
theorem x_lindexD (n : Nat) (h : EvX c δ M o fun v M1 => ∃ ds : List Fx.D, v = .ls ds ∧ ds.all (okD n) = true ∧ EvX c δ M1 e fun w M2 => ∃ (d : Fx.D) (j : Nat) (z : PyData), w = .dat d ∧ okD n d = true ∧ (pys ds)[j]? = some z ∧ PyData.eqv z d.py = true ∧ (∀ (m : Nat) (z' : PyData), m < j → (pys ds)[m]? = some z' → PyData.eqv z' d.py = false) ∧ Post (.dat (.int (j : Nat))) M2)
    (hbase : ∀ env, attributeBase o "index" env (eval o env) = eval o env)
    (hfew : ∀ env, ((backTo pos (starEach [e] env)).all (fun x => !x.1) && (backToKw pos (keywordEach [] env)).all (fun x => x.1.isSome) && decide ([e].length + ([] : List Keyword).length + (if ([] : List Keyword).isEmpty then 0 else 1) < 30)) = true)
    (hline : (apos.endLine == pos.line) = true) (hst : ∀ env, starEach [e] env = (false, eval e env) :: starEach [] env) (hn : n ≤ 50 := by decide) : EvX c δ M (.Call (.Attribute o "index" apos) [e] [] pos) Post := fun y σ H ad he hs Q q =>
  ⟨_, pe_bm (X := y.cx) PySem.F.plainAttrs_list PySem.F.slot_list_index PySem.F.type_list_index (mt_indexD (by have := y.room.un; show y.A.units + 65 < cLine; omega)) wE_ok (pa_cons wE_ok pa_nil (hst y.env)) (hbase y.env) (hfew y.env) hline (hst y.env) rfl, h y σ H ad he hs _ fun v H1 ad1 a1 M1 n1 s1 r1 ⟨ds, e1, hf, p1⟩ => by
    subst e1
    obtain ⟨qq, xs, rfl, hq, rr⟩ := id r1
    refine ⟨.inl ⟨rfl, xs, hq.sq⟩, p1 y σ H1 ad1 (he.nx n1) s1 _ fun w H2 ad2 a2 M2 n2 s2 r2 ⟨d, j, z, e2, hfd, hz, hze, hno, p2⟩ => ?_⟩
    subst e2
    have dy := av_dp (a := .ls ds) s2 (r1.nx n2) trivial
    exact ⟨qq, w, _, _, j, z, rfl, rfl, dy, rep_dp r2, okDs_shaped hf (by omega), okD_shaped hfd (by omega), hz, hze, hno, q _ H2 ad2 (.dat (.int (j : Nat))) M2 (n1.trans n2) s2 rfl p2⟩⟩
/-- sorted(set(a)), a list of ints -/
theorem f_sset (hl : c.gl "sorted") (hlm : c.mg "sorted" = none) (hs : c.gl "set") (hsm : c.mg "set" = none)
    (h : EvX c δ M a fun v M1 => ∃ ns : List Int, v = .ls (ns.map Fx.D.int) ∧ ns.length < 64 ∧ ∀ out : List Int, out.Pairwise (· < ·) → (∀ k, k ∈ out ↔ k ∈ ns) → Pf (out.map Fx.D.int) M1)
    (sa : ∀ env, starEach [a] env = (false, eval a env) :: starEach [] env) : EvF c δ M (.Call (.Name "sorted" p1) [.Call (.Name "set" p2) [a] [] p3] [] pos) Pf := fun y σ H ad he hst Q q => by
  refine ⟨_, pe_callB (X := y.cx) (cr_sortSet9 rfl) (glS y hl) hlm PyProof.Rows.boot_sorted (pa_cons (pe_callTy (cr_setOfL9 rfl) (glS y hs) hsm PyProof.Rows.boot_set (pa_cons wE_ok pa_nil (sa y.env)) (by decide) (by decide) (sa y.env) (by rfl)) pa_nil (by rfl)) (by decide) (by decide) (by rfl) (by rfl), ?_⟩
  refine h y σ H ad he hst _ fun xv H1 ad1 ax M1 n1 s1 r1 ⟨ns, hx, hl1, p1⟩ => ?_
  subst hx
  obtain ⟨pa, xs, rfl, hq, rr⟩ := r1
  rw [reps_ints.mp rr] at hq
  refine ⟨pa, ns, rfl, .inr hq.sq, by omega, fun q1 c1 hq1 hc1 => ?_⟩
  have sm1 := same_new (o := SetO c.w q1 (fun j => decide (j ∈ ns)) c1) hq1
  refine ⟨q1, _, c1, rfl, upd_same, by omega, fun out p hs1 hm1 hp => ?_⟩
  have n2 := n1.trans (Nx.same (ad := ad1) sm1)
  have s2 := s1.same sm1
  have sm2 := same_new (o := .lst (out.map V.int)) hp
  exact q p _ _ ad1 _ M1 (n2.trans (Nx.same sm2)) (s2.same sm2) (free_back n2 s2 hp) (s2.free hp) upd_same (reps_ints.mpr rfl) (p1 out hs1 fun k => by rw [hm1]; simp)
end
end Fx

/-! The mathematics: ways and rows. -/
namespace My
open Fx
/-- in how many ways k can be chosen of n -/
def ch : Nat → Nat → Nat
  | _, 0 => 1
  | 0, _ + 1 => 0
  | n + 1, k + 1 => ch n k + ch n (k + 1)
theorem ch_zero (n : Nat) : ch n 0 = 1 := by cases n <;> rfl
theorem ch_big : ∀ (n k : Nat), n < k → ch n k = 0
  | 0, 0, h => by omega
  | 0, _ + 1, _ => rfl
  | n + 1, 0, h => by omega
  | n + 1, k + 1, h => by
    show ch n k + ch n (k + 1) = 0
    rw [ch_big n k (by omega), ch_big n (k + 1) (by omega)]
theorem ch_succ (n k : Nat) : ch (n + 1) (k + 1) = ch n k + ch n (k + 1) := rfl
theorem ch_step : ∀ (n k : Nat), k ≤ n → (k + 1) * ch n (k + 1) = ch n k * (n - k)
  | 0, k, h => by
    have : k = 0 := by omega
    subst this
    rfl
  | n + 1, 0, _ => by
    rw [ch_succ, ch_zero, ch_zero, Nat.one_mul]
    have ih := ch_step n 0 (by omega)
    rw [ch_zero] at ih
    omega
  | n + 1, k + 1, h => by
    rw [ch_succ, ch_succ]
    have i1 := ch_step n k (by omega)
    by_cases hk : k + 1 ≤ n
    · have i2 := ch_step n (k + 1) hk
      obtain ⟨d, hd⟩ : ∃ d, n = k + 1 + d := ⟨n - (k + 1), by omega⟩
      subst hd
      have e1 : k + 1 + d - k = d + 1 := by omega
      have e2 : k + 1 + d - (k + 1) = d := by omega
      have e3 : k + 1 + d + 1 - (k + 1) = d + 1 := by omega
      rw [e1] at i1
      rw [e2] at i2
      rw [e3]
      generalize ch (k + 1 + d) k = A at *
      generalize ch (k + 1 + d) (k + 1) = B at *
      generalize ch (k + 1 + d) (k + 1 + 1) = C at *
      rw [Nat.mul_add, Nat.add_mul A B, ← i1]
      have : (k + 1 + 1) * C = B * d := i2
      rw [this]
      rw [Nat.add_mul (k + 1) 1 B, Nat.one_mul, Nat.mul_succ B d]
      omega
    · have : n = k := by omega
      subst this
      rw [ch_big n (n + 1) (by omega), ch_big n (n + 1 + 1) (by omega)]
      simp
def waysL (m : Int) : Nat → Int
  | 0 => 1
  | n + 1 => waysL m n * (m - n) / ((n : Int) + 1)
def waysN (m s : Int) : Int := if 0 ≤ s ∧ s ≤ m then waysL m s.toNat else 0
theorem waysL_ch (m : Nat) : ∀ n : Nat, n ≤ m → waysL (m : Int) n = (ch m n : Int)
  | 0, _ => by rw [ch_zero]; rfl
  | n + 1, h => by
    show waysL (m : Int) n * ((m : Int) - n) / ((n : Int) + 1) = _
    rw [waysL_ch m n (by omega)]
    have e := ch_step m n (by omega)
    have : (ch m n : Int) * ((m : Int) - n) = ((n : Int) + 1) * (ch m (n + 1) : Int) := by
      have h2 : ((m - n : Nat) : Int) = (m : Int) - n := by omega
      rw [← h2]
      exact_mod_cast e.symm
    rw [this, Int.mul_ediv_cancel_left _ (by omega)]
theorem waysN_ch (m s : Nat) : waysN (m : Int) (s : Int) = (ch m s : Int) := by
  unfold waysN
  by_cases h : s ≤ m
  · rw [if_pos ⟨by omega, by omega⟩, Int.toNat_natCast, waysL_ch m s h]
  · rw [if_neg (by omega), ch_big m s (by omega)]
    rfl
theorem waysN_out {m s : Int} (h : ¬ (0 ≤ s ∧ s ≤ m)) : waysN m s = 0 := if_neg h
theorem waysN_in {m s : Int} (h0 : 0 ≤ s) (h1 : s ≤ m) : waysN m s = waysL m s.toNat := if_pos ⟨h0, h1⟩
theorem ch_le : ∀ (n k : Nat), ch n k ≤ 2 ^ n
  | n, 0 => by rw [ch_zero]; exact Nat.one_le_two_pow
  | 0, _ + 1 => Nat.zero_le _
  | n + 1, k + 1 => by
    rw [ch_succ, Nat.pow_succ]
    have := ch_le n k
    have := ch_le n (k + 1)
    omega
theorem _root_.List.filter_true' {α : Type} (l : List α) : l.filter (fun _ => true) = l := by simp
/-! ### rows -/
/-- all rising rows of s numbers from first to many, in order: as the program's chosen makes them -/
def chosenL (many : Int) : Nat → Int → List (List Int)
  | 0, _ => [[]]
  | s + 1, first => (rg first (many - ((s : Int) + 1) + 2)).flatMap fun n => (chosenL many s (n + 1)).map (n :: ·)
theorem rg_cons {lo hi : Int} (h : lo < hi) : rg lo hi = lo :: rg (lo + 1) hi := by
  unfold rg
  obtain ⟨k, hk⟩ : ∃ k : Nat, (hi - lo).toNat = k + 1 := ⟨(hi - lo).toNat - 1, by omega⟩
  have h2 : (hi - (lo + 1)).toNat = k := by omega
  rw [hk, h2, List.range_succ_eq_map, List.map_cons, List.map_map]
  have e1 : lo + ((0 : Nat) : Int) = lo := by simp
  rw [e1]
  congr 1
  apply List.map_congr_left
  intro i _
  show lo + ((i + 1 : Nat) : Int) = lo + 1 + (i : Nat)
  omega
theorem rg_nil {lo hi : Int} (h : hi ≤ lo) : rg lo hi = [] := by
  unfold rg
  rw [show (hi - lo).toNat = 0 by omega]
  rfl
theorem chosen_nil {many : Int} {s : Nat} {first : Int} (h : many - s + 1 ≤ first) : chosenL many (s + 1) first = [] := by
  show (rg first (many - ((s : Int) + 1) + 2)).flatMap _ = []
  rw [rg_nil (lo := first) (hi := many - ((s : Int) + 1) + 2) (by omega)]
  rfl
theorem chosen_cons {many : Int} {s : Nat} {first : Int} (h : first ≤ many - s) : chosenL many (s + 1) first = (chosenL many s (first + 1)).map (first :: ·) ++ chosenL many (s + 1) (first + 1) := by
  show (rg first (many - ((s : Int) + 1) + 2)).flatMap _ = _
  rw [rg_cons (lo := first) (hi := many - ((s : Int) + 1) + 2) (by omega)]
  rfl
/-- how many: by counting -/
theorem chosen_count : ∀ (d : Nat) (s : Nat) (many first : Int), many + 1 - first = (d : Int) → (chosenL many s first).length = ch d s
  | d, 0, _, _, _ => by rw [ch_zero]; rfl
  | 0, s + 1, many, first, h => by
    rw [chosen_nil (many := many) (s := s) (first := first) (by omega)]
    rfl
  | d + 1, s + 1, many, first, h => by
    by_cases hh : first ≤ many - s
    · rw [chosen_cons hh, List.length_append, List.length_map, chosen_count d s many (first + 1) (by omega), chosen_count d (s + 1) many (first + 1) (by omega)]
      rfl
    · rw [chosen_nil (by omega), ch_big (d + 1) (s + 1) (by omega)]
      rfl
theorem chosen_none (s : Nat) (many first : Int) (h : many + 1 < first) : (chosenL many s first).length ≤ 1 := by
  cases s with
  | zero => exact Nat.le_refl 1
  | succ s =>
    rw [chosen_nil (by omega)]
    exact Nat.zero_le 1
theorem chosen_few (s : Nat) (many first : Int) (h1 : 1 ≤ first) (h2 : many ≤ 12) : (chosenL many s first).length ≤ 4096 := by
  by_cases h : many + 1 < first
  · exact Nat.le_trans (chosen_none s many first h) (by decide)
  · obtain ⟨d, hd⟩ : ∃ d : Nat, many + 1 - first = (d : Int) := ⟨(many + 1 - first).toNat, by omega⟩
    rw [chosen_count d s many first hd]
    have := ch_le d s
    have h3 : (2 : Nat) ^ d ≤ 2 ^ 12 := Nat.pow_le_pow_right (by decide) (by omega)
    have : (2 : Nat) ^ 12 = 4096 := by decide
    omega
theorem chosen_row_len {many : Int} : ∀ {s : Nat} {first : Int} {r : List Int}, r ∈ chosenL many s first → r.length = s
  | 0, _, r, h => by
    rw [List.mem_singleton.mp h]
    rfl
  | s + 1, first, r, h => by
    obtain ⟨n, _, h2⟩ := List.mem_flatMap.mp h
    obtain ⟨q, hq, e⟩ := List.mem_map.mp h2
    rw [← e, List.length_cons, chosen_row_len hq]
end My

/-! The mathematics: the law's own rows are the program's. -/
namespace My
open Fx
/-- all rising rows, made without looking ahead -/
def up (m : Int) : Nat → Int → List (List Int)
  | 0, _ => [[]]
  | s + 1, f => (rg f (m + 1)).flatMap fun n => (up m s (n + 1)).map (n :: ·)
theorem up_nil {m : Int} : ∀ {s : Nat} {f : Int}, m < f + s - 1 → up m s f = []  ∨ s = 0
  | 0, _, _ => .inr rfl
  | s + 1, f, h => by
    refine .inl ?_
    show (rg f (m + 1)).flatMap _ = []
    rw [List.flatMap_eq_nil_iff]
    intro n hn
    obtain ⟨h1, h2⟩ := rg_mem.mp hn
    rcases up_nil (m := m) (s := s) (f := n + 1) (by omega) with e | e
    · rw [e]; rfl
    · omega
theorem rg_split {a b c : Int} (h1 : a ≤ b) (h2 : b ≤ c) : rg a c = rg a b ++ rg b c := by
  obtain ⟨k, hk⟩ : ∃ k : Nat, b - a = k := ⟨(b - a).toNat, by omega⟩
  induction k generalizing a with
  | zero =>
    have : a = b := by omega
    subst this
    rw [rg_nil (Int.le_refl a)]
    rfl
  | succ k ih => rw [rg_cons (show a < c by omega), rg_cons (show a < b by omega), List.cons_append, ih (by omega) (by omega)]
theorem up_chosen {m : Int} : ∀ (s : Nat) (f : Int), up m s f = chosenL m s f
  | 0, _ => rfl
  | s + 1, f => by
    show (rg f (m + 1)).flatMap _ = (rg f (m - ((s : Int) + 1) + 2)).flatMap _
    have e : (fun n => (up m s (n + 1)).map (n :: ·)) = fun n => (chosenL m s (n + 1)).map (n :: ·) := by
      funext n
      rw [up_chosen s (n + 1)]
    rw [e]
    by_cases hc : m - ((s : Int) + 1) + 2 ≤ f
    · rw [rg_nil hc]
      show _ = []
      rw [List.flatMap_eq_nil_iff]
      intro n hn
      obtain ⟨h1, h2⟩ := rg_mem.mp hn
      rw [← up_chosen s (n + 1)]
      rcases up_nil (m := m) (s := s) (f := n + 1) (by omega) with e | e
      · rw [e]; rfl
      · omega
    · rw [rg_split (a := f) (b := m - ((s : Int) + 1) + 2) (c := m + 1) (by omega) (by omega), List.flatMap_append]
      have : ((rg (m - ((s : Int) + 1) + 2) (m + 1)).flatMap fun n => (chosenL m s (n + 1)).map (n :: ·)) = [] := by
        rw [List.flatMap_eq_nil_iff]
        intro n hn
        obtain ⟨h1, h2⟩ := rg_mem.mp hn
        rw [← up_chosen s (n + 1)]
        rcases up_nil (m := m) (s := s) (f := n + 1) (by omega) with e | e
        · rw [e]; rfl
        · omega
      rw [this, List.append_nil]
/-- by the last number instead of the first -/
theorem up_last {m : Int} : ∀ (s : Nat) (f : Int), up m (s + 1) f = (up m s f).flatMap fun r => (rg (1 + r.getLastD (f - 1)) (m + 1)).map fun x => r ++ [x]
  | 0, f => by
    show (rg f (m + 1)).flatMap (fun n => [[n]]) = [[]].flatMap _
    rw [List.flatMap_singleton]
    show _ = (rg (1 + (f - 1)) (m + 1)).map fun x => [x]
    rw [show 1 + (f - 1) = f by omega, List.flatMap_def]
    induction rg f (m + 1) with
    | nil => rfl
    | cons a l ih =>
      simp only [List.map_cons, List.flatten_cons, List.singleton_append] at ih ⊢
      rw [ih]
  | s + 1, f => by
    show (rg f (m + 1)).flatMap (fun n => (up m (s + 1) (n + 1)).map (n :: ·)) = ((rg f (m + 1)).flatMap fun n => (up m s (n + 1)).map (n :: ·)).flatMap _
    rw [List.flatMap_assoc]
    congr 1
    funext n
    rw [up_last s (n + 1), List.map_flatMap, List.flatMap_map]
    congr 1
    funext r
    rw [List.map_map, show n + 1 - 1 = n by omega, show (n :: r).getLastD (f - 1) = r.getLastD n by cases r <;> rfl]
    rfl
theorem up_mem {m : Int} : ∀ {s : Nat} {f : Int} {r : List Int}, r ∈ up m s f ↔ r.Pairwise (· < ·) ∧ (∀ x ∈ r, f ≤ x ∧ x ≤ m) ∧ r.length = s
  | 0, f, r => by
    show r ∈ [[]] ↔ _
    rw [List.mem_singleton]
    constructor
    · rintro rfl
      exact ⟨List.Pairwise.nil, fun x hx => (by cases hx), rfl⟩
    · rintro ⟨_, _, h⟩
      exact List.eq_nil_of_length_eq_zero h
  | s + 1, f, r => by
    show r ∈ (rg f (m + 1)).flatMap _ ↔ _
    rw [List.mem_flatMap]
    constructor
    · rintro ⟨n, hn, hr⟩
      obtain ⟨q, hq, rfl⟩ := List.mem_map.mp hr
      obtain ⟨h1, h2, h3⟩ := up_mem.mp hq
      obtain ⟨h4, h5⟩ := rg_mem.mp hn
      refine ⟨List.pairwise_cons.mpr ⟨fun x hx => by have := h2 x hx; omega, h1⟩, fun x hx => ?_, by rw [List.length_cons, h3]⟩
      rcases List.mem_cons.mp hx with rfl | hx
      · omega
      · have := h2 x hx
        omega
    · rintro ⟨h1, h2, h3⟩
      cases r with
      | nil => cases h3
      | cons n q =>
        obtain ⟨h4, h5⟩ := List.pairwise_cons.mp h1
        have hn := h2 n List.mem_cons_self
        refine ⟨n, rg_mem.mpr ⟨hn.1, by omega⟩, List.mem_map.mpr ⟨q, up_mem.mpr ⟨h5, fun x hx => ⟨?_, (h2 x (List.mem_cons_of_mem _ hx)).2⟩, by rw [List.length_cons] at h3; omega⟩, rfl⟩⟩
        have := h4 x hx
        omega
/-- the greatest, at least 0 -/
def rmax (r : List Int) : Int := r.foldl max 0
theorem foldl_max (r : List Int) : ∀ a : Int, a ≤ r.foldl max a ∧ (∀ x ∈ r, x ≤ r.foldl max a) ∧ (r.foldl max a = a ∨ r.foldl max a ∈ r) := by
  induction r with
  | nil => intro a; exact ⟨Int.le_refl _, fun x hx => (by cases hx), .inl rfl⟩
  | cons b r ih =>
    intro a
    obtain ⟨h1, h2, h3⟩ := ih (max a b)
    refine ⟨Int.le_trans (Int.le_max_left a b) h1, fun x hx => ?_, ?_⟩
    · rcases List.mem_cons.mp hx with rfl | hx
      · exact Int.le_trans (Int.le_max_right a x) h1
      · exact h2 x hx
    · rcases h3 with h3 | h3
      · show r.foldl max (max a b) = a ∨ r.foldl max (max a b) ∈ b :: r
        rw [h3]
        by_cases h : a ≤ b
        · rw [Int.max_eq_right h]
          exact .inr List.mem_cons_self
        · rw [Int.max_eq_left (by omega)]
          exact .inl rfl
      · exact .inr (List.mem_cons_of_mem _ h3)
theorem rmax_of {r : List Int} {m : Int} (h1 : m ∈ 0 :: r) (h2 : ∀ y, y ∈ 0 :: r → y ≤ m) : m = rmax r := by
  obtain ⟨a, b, c⟩ := foldl_max r 0
  have h3 : m ≤ rmax r := by
    rcases List.mem_cons.mp h1 with rfl | h
    · exact a
    · exact b m h
  have h4 : rmax r ≤ m := by
    rcases c with c | c
    · show r.foldl max 0 ≤ m
      rw [c]
      exact h2 0 List.mem_cons_self
    · exact h2 _ (List.mem_cons_of_mem _ c)
  omega
theorem rmax_last {r : List Int} (h : r.Pairwise (· < ·)) (h0 : ∀ x ∈ r, 1 ≤ x) : rmax r = r.getLastD 0 := by
  symm
  apply rmax_of
  · cases r with
    | nil => exact List.mem_cons_self
    | cons a r =>
      refine List.mem_cons_of_mem _ ?_
      have : (a :: r).getLastD 0 = (a :: r).getLast (by simp) := by
        simp [List.getLastD_eq_getLast?, List.getLast?_eq_getLast]
      rw [this]
      exact List.getLast_mem _
  · intro y hy
    rcases List.mem_cons.mp hy with rfl | hy
    · cases r with
      | nil => exact Int.le_refl _
      | cons a r =>
        have : (a :: r).getLastD 0 = (a :: r).getLast (by simp) := by
          simp [List.getLastD_eq_getLast?, List.getLast?_eq_getLast]
        rw [this]
        have := h0 _ (List.getLast_mem (l := a :: r) (by simp))
        omega
    · cases r with
      | nil => cases hy
      | cons a r =>
        have : (a :: r).getLastD 0 = (a :: r).getLast (by simp) := by
          simp [List.getLastD_eq_getLast?, List.getLast?_eq_getLast]
        rw [this]
        have e := List.dropLast_concat_getLast (l := a :: r) (by simp)
        rw [← e] at hy h
        rcases List.mem_append.mp hy with hy | hy
        · have := (List.pairwise_append.mp h).2.2 y hy _ (List.mem_singleton.mpr rfl)
          omega
        · rw [List.mem_singleton.mp hy]
          exact Int.le_refl _
def rowExt (m : Int) (r : List Int) : List (List Int) := (rg (1 + rmax r) (m + 1)).map fun x => r ++ [x]
/-- the law's rows -/
def rowsL (m : Int) : Nat → List (List Int)
  | 0 => [[]]
  | s + 1 => (rowsL m s).flatMap (rowExt m)
theorem flatMap_same {α β : Type} {l : List α} {f g : α → List β} (h : ∀ x ∈ l, f x = g x) : l.flatMap f = l.flatMap g := by
  induction l with
  | nil => rfl
  | cons a l ih => rw [List.flatMap_cons, List.flatMap_cons, h a List.mem_cons_self, ih fun x hx => h x (List.mem_cons_of_mem _ hx)]
theorem rows_up {m : Int} : ∀ s : Nat, rowsL m s = up m s 1
  | 0 => rfl
  | s + 1 => by
    show (rowsL m s).flatMap (rowExt m) = _
    rw [rows_up s, up_last s 1]
    apply flatMap_same
    intro r hr
    obtain ⟨h1, h2, _⟩ := up_mem.mp hr
    unfold rowExt
    rw [rmax_last h1 fun x hx => (h2 x hx).1]
    rfl
theorem rows_chosen {m : Int} (s : Nat) : rowsL m s = chosenL m s 1 := by rw [rows_up, up_chosen]
theorem chosen_mem {m : Int} {s : Nat} {f : Int} {r : List Int} : r ∈ chosenL m s f ↔ r.Pairwise (· < ·) ∧ (∀ x ∈ r, f ≤ x ∧ x ≤ m) ∧ r.length = s := by rw [← up_chosen, up_mem]
theorem getElem_map {α β : Type} {f : α → β} {l : List α} {i : Nat} {b : β} (h : (l.map f)[i]? = some b) : ∃ a, l[i]? = some a ∧ b = f a := by
  rw [List.getElem?_map] at h
  cases q : l[i]? with
  | none => rw [q] at h; cases h
  | some a =>
    rw [q] at h
    exact ⟨a, rfl, (Option.some.inj h).symm⟩
end My

/-! what is right, the spreads: definitions and plain facts -/
namespace My
open PySem L2 Fx
/-- a rising row of numbers up to m -/
def Row (m : Int) (t : List Int) : Prop := t.Pairwise (· < ·) ∧ ∀ x ∈ t, 1 ≤ x ∧ x ≤ m
def Book (m : Int) (b : List (List Int)) : Prop := ∀ t ∈ b, Row m t ∧ t ≠ []
def rightL (t d : List Int) : Nat := (d.filter fun x => decide (x ∈ t)).length
def bestL (b : List (List Int)) (d : List Int) : Nat := (b.map fun t => rightL t d).foldl max 0
def spreadL (m d : Int) (z : Nat) : List Int := (List.range (z + 1)).map fun (r : Nat) => waysN z r * waysN (m - z) (d - r)
def bspreadL (m : Int) (d : Nat) (b : List (List Int)) : List Int := (List.range (d + 1)).map fun r => (((chosenL m d 1).filter fun w => decide (bestL b w = r)).length : Int)
theorem inD_int (x : Int) (t : List Int) : inD (.int x) (t.map .int) = decide (x ∈ t) := by
  unfold inD inV
  rw [List.map_map, List.any_map]
  induction t with
  | nil => simp
  | cons y t ih =>
    rw [List.any_cons, ih]
    have e : eqV (V.int y) (V.int x) = decide (y = x) := by
      show _ = _
      simp [eqV, Bool.beq_eq_decide_eq]
    have e2 : (((fun z => eqV z (flV (D.int x))) ∘ flV ∘ D.int) y) = decide (y = x) := e
    rw [e2]
    by_cases h : y = x
    · subst h; simp
    · have h2 : ¬ x = y := fun q => h q.symm
      simp [h, h2]
theorem fl_ints (t : List Int) : (t.map D.int).all fl = true := by
  rw [List.all_map]
  apply List.all_eq_true.mpr
  intro x _
  rfl
theorem rg_nodup (a b : Int) : (rg a b).Nodup := by
  unfold rg List.Nodup
  rw [List.pairwise_map]
  exact List.nodup_range.imp fun h e => h (by omega)
/-- sorted pieces of 1 .. m are rows -/
theorem row_of {m : Int} {ns F L : List Int} (h1 : ns.Perm F) (h2 : ns.Pairwise (· ≤ ·)) (hp : (L ++ F).Perm (rg 1 (m + 1))) : Row m ns := by
  have nd : (L ++ F).Nodup := hp.nodup_iff.mpr (rg_nodup _ _)
  have ndF : ns.Nodup := h1.nodup_iff.mpr (List.nodup_append.mp nd).2.1
  refine ⟨?_, fun x hx => ?_⟩
  · exact (List.Pairwise.and h2 ndF).imp fun ⟨h, k⟩ => by omega
  · have : x ∈ rg 1 (m + 1) := hp.mem_iff.mp (List.mem_append_right _ (h1.mem_iff.mp hx))
    rw [rg_mem] at this
    omega
theorem Row.len {m : Int} {t : List Int} (h : Row m t) (h0 : 0 ≤ m) : (t.length : Int) ≤ m := by
  have nd : t.Nodup := h.1.imp fun h e => by omega
  have := nodup_len t (rg 1 (m + 1)) nd fun x hx => rg_mem.mpr (by have := h.2 x hx; omega)
  rw [rg_len] at this
  omega
theorem erase_perm {α : Type} : ∀ {l : List α} {i : Nat} {x : α}, l[i]? = some x → (x :: l.eraseIdx i).Perm l
  | [], i, x, h => by simp at h
  | y :: l, 0, x, h => by
    have : y = x := Option.some.inj h
    subst this
    exact List.Perm.refl _
  | y :: l, i + 1, x, h => (List.Perm.swap y x _).trans (List.Perm.cons y (erase_perm (l := l) (i := i) h))
theorem take_drop_perm {α : Type} {l : List α} {i : Nat} {x : α} (h : l[i]? = some x) (F : List α) : (l.eraseIdx i ++ (F ++ [x])).Perm (l ++ F) := by
  have h1 : (x :: l.eraseIdx i).Perm l := erase_perm h
  have h2 : (l.eraseIdx i ++ (F ++ [x])).Perm ((x :: l.eraseIdx i) ++ F) := by
    rw [← List.append_assoc]
    exact (List.perm_append_comm (l₁ := l.eraseIdx i ++ F) (l₂ := [x]))
  exact h2.trans (h1.append_right F)
theorem foldl_max_nat (l : List Nat) : ∀ a : Nat, a ≤ l.foldl max a ∧ (∀ x ∈ l, x ≤ l.foldl max a) ∧ (l.foldl max a = a ∨ l.foldl max a ∈ l) := by
  induction l with
  | nil => intro a; exact ⟨Nat.le_refl _, fun x h => (by cases h), .inl rfl⟩
  | cons y l ih =>
    intro a
    obtain ⟨h1, h2, h3⟩ := ih (max a y)
    rw [List.foldl_cons]
    refine ⟨by omega, fun x hx => ?_, ?_⟩
    · rcases List.mem_cons.mp hx with rfl | hx
      · omega
      · exact h2 x hx
    · rcases h3 with h3 | h3
      · rw [h3]
        by_cases h : a ≤ y
        · right; rw [Nat.max_eq_right h]; exact List.mem_cons_self
        · left; omega
      · exact .inr (List.mem_cons_of_mem _ h3)
/-- max of the list of what is right -/
theorem best_nil (d : List Int) : bestL [] d = 0 := rfl
theorem best_of_max {b : List (List Int)} {d : List Int} {m : Int} (h1 : m ∈ b.map fun t => (rightL t d : Int)) (h2 : ∀ y, y ∈ (b.map fun t => (rightL t d : Int)) → y ≤ m) : m = (bestL b d : Int) := by
  obtain ⟨t, ht, rfl⟩ := List.mem_map.mp h1
  obtain ⟨g1, g2, g3⟩ := foldl_max_nat (b.map fun t => rightL t d) 0
  have a1 : rightL t d ≤ bestL b d := g2 _ (List.mem_map.mpr ⟨t, ht, rfl⟩)
  rcases g3 with g3 | g3
  · have : bestL b d = 0 := g3
    omega
  · obtain ⟨u, hu, e⟩ := List.mem_map.mp g3
    have := h2 (rightL u d : Int) (List.mem_map.mpr ⟨u, hu, rfl⟩)
    have e2 : rightL u d = bestL b d := e
    omega
theorem right_le (t d : List Int) : rightL t d ≤ d.length := List.length_filter_le _ _
theorem best_le (b : List (List Int)) (d : List Int) : bestL b d ≤ d.length := by
  obtain ⟨g1, g2, g3⟩ := foldl_max_nat (b.map fun t => rightL t d) 0
  rcases g3 with g3 | g3
  · have : bestL b d = 0 := g3
    omega
  · obtain ⟨u, hu, e⟩ := List.mem_map.mp g3
    have e2 : rightL u d = bestL b d := e
    have := right_le u d
    omega
/-- counting up, draw by draw -/
def tally (n : Nat) (f : List Int → Nat) (ws : List (List Int)) : List Int := (List.range n).map fun r => ((ws.filter fun w => decide (f w = r)).length : Int)
theorem tally_len (n : Nat) (f : List Int → Nat) (ws : List (List Int)) : (tally n f ws).length = n := by unfold tally; rw [List.length_map, List.length_range]
theorem tally_nil (n : Nat) (f : List Int → Nat) : tally n f [] = List.replicate n 0 := by
  unfold tally
  apply List.ext_getElem
  · simp
  · intro i h1 h2; simp
theorem tally_get {n : Nat} {f : List Int → Nat} {ws : List (List Int)} {r : Nat} (h : r < n) : (tally n f ws)[r]? = some ((ws.filter fun w => decide (f w = r)).length : Int) := by
  unfold tally
  rw [List.getElem?_map, List.getElem?_range h]
  rfl
theorem tally_snoc {n : Nat} {f : List Int → Nat} {ws : List (List Int)} {w : List Int} (h : f w < n) : tally n f (ws ++ [w]) = (tally n f ws).set (f w) (((ws.filter fun u => decide (f u = f w)).length : Int) + 1) := by
  apply List.ext_getElem?
  intro i
  by_cases hi : i < n
  · rw [tally_get hi]
    by_cases e : f w = i
    · subst e
      rw [List.getElem?_set_self (by rw [tally_len]; exact h), List.filter_append, List.length_append]
      simp
    · rw [List.getElem?_set_ne e, tally_get hi, List.filter_append, List.length_append]
      simp [e]
  · rw [List.getElem?_eq_none (by rw [tally_len]; omega), List.getElem?_eq_none (by rw [List.length_set, tally_len]; omega)]
theorem waysN_bound (a s : Int) (h : a ≤ 60) : 0 ≤ waysN a s ∧ waysN a s ≤ 2 ^ 60 := by
  by_cases hs : 0 ≤ s ∧ s ≤ a
  · obtain ⟨an, rfl⟩ : ∃ n : Nat, a = (n : Int) := ⟨a.toNat, by omega⟩
    obtain ⟨sn, rfl⟩ : ∃ n : Nat, s = (n : Int) := ⟨s.toNat, by omega⟩
    rw [waysN_ch]
    refine ⟨by omega, ?_⟩
    have h1 := ch_le an sn
    have h2 : 2 ^ an ≤ 2 ^ 60 := Nat.pow_le_pow_right (by decide) (by omega)
    omega
  · rw [waysN_out hs]
    omega
theorem rep_ints (n : Nat) : (List.replicate n (0 : Int)).map D.int = (List.replicate n [D.int 0]).flatten := by
  rw [List.map_replicate]
  induction n with
  | zero => rfl
  | succ n ih => rw [List.replicate_succ, List.replicate_succ, List.flatten_cons, ← ih]; rfl
end My

/-! how many draws have so many right -/
namespace My
open PySem L2 Fx
theorem same_right {t r out : List Int} (hn : out.Nodup) (hm : ∀ k, k ∈ out ↔ k ∈ t ∧ k ∈ r) (hr : r.Nodup) : out.length = rightL t r := by
  unfold rightL
  have h2 : (r.filter fun x => decide (x ∈ t)).Nodup := List.Pairwise.filter _ hr
  refine Nat.le_antisymm (nodup_len _ _ hn fun x hx => ?_) (nodup_len _ _ h2 fun x hx => ?_)
  · have := (hm x).mp hx
    exact List.mem_filter.mpr ⟨this.2, decide_eq_true this.1⟩
  · obtain ⟨h3, h4⟩ := List.mem_filter.mp hx
    exact (hm x).mpr ⟨of_decide_eq_true h4, h3⟩
theorem Row.nodup {m : Int} {t : List Int} (h : Row m t) : t.Nodup := h.1.imp fun h e => by omega
theorem chosen_nodup {m : Int} {s : Nat} {f : Int} {r : List Int} (h : r ∈ chosenL m s f) : r.Nodup := (chosen_mem.mp h).1.imp fun h e => by omega
theorem chosen_row {m : Int} {s : Nat} {r : List Int} (h : r ∈ chosenL m s 1) : Row m r := ⟨(chosen_mem.mp h).1, (chosen_mem.mp h).2.1⟩
theorem top_best {b : List (List Int)} {d : List Int} {m : Int} (h1 : m ∈ 0 :: b.map fun t => (rightL t d : Int)) (h2 : ∀ y, y ∈ (0 :: b.map fun t => (rightL t d : Int)) → y ≤ m) : m = (bestL b d : Int) := by
  rcases List.mem_cons.mp h1 with e | h1
  · subst e
    obtain ⟨g1, g2, g3⟩ := foldl_max_nat (b.map fun t => rightL t d) 0
    rcases g3 with g3 | g3
    · have : bestL b d = 0 := g3
      omega
    · obtain ⟨u, hu, e⟩ := List.mem_map.mp g3
      have := h2 (rightL u d : Int) (List.mem_cons_of_mem _ (List.mem_map.mpr ⟨u, hu, rfl⟩))
      have e2 : rightL u d = bestL b d := e
      omega
  · exact best_of_max h1 fun y hy => h2 y (List.mem_cons_of_mem _ hy)
/-- of the numbers from f to m, how many are of t -/
def inFrom (t : List Int) (f m : Int) : Nat := ((rg f (m + 1)).filter fun x => decide (x ∈ t)).length
def cnt (t : List Int) (m : Int) (s : Nat) (f : Int) (r : Nat) : Nat := ((chosenL m s f).filter fun w => decide (rightL t w = r)).length
theorem cnt_eq (t : List Int) (m : Int) : ∀ (n : Nat) (f : Int) (s r : Nat), m + 1 - f = (n : Int) → inFrom t f m ≤ n ∧ cnt t m s f r = if r ≤ s then ch (inFrom t f m) r * ch (n - inFrom t f m) (s - r) else 0
  | 0, f, s, r, hn => by
    have e : rg f (m + 1) = [] := rg_nil (by omega)
    have e1 : inFrom t f m = 0 := by unfold inFrom; rw [e]; rfl
    refine ⟨by omega, ?_⟩
    rw [e1]
    cases s with
    | zero =>
      unfold cnt chosenL
      cases r with
      | zero => rfl
      | succ r => simp [rightL]
    | succ s =>
      unfold cnt
      rw [chosen_nil (by omega)]
      by_cases h : r ≤ s + 1
      · rw [if_pos h]
        cases r with
        | zero => rfl
        | succ r => rw [show ch 0 (r + 1) = 0 from rfl, Nat.zero_mul]; rfl
      · rw [if_neg h]; rfl
  | n + 1, f, s, r, hn => by
    obtain ⟨hle, _⟩ := cnt_eq t m n (f + 1) 0 0 (by omega)
    have ih := fun s r => (cnt_eq t m n (f + 1) s r (by omega)).2
    have e : rg f (m + 1) = f :: rg (f + 1) (m + 1) := rg_cons (by omega)
    have e1 : inFrom t f m = (if f ∈ t then 1 else 0) + inFrom t (f + 1) m := by
      unfold inFrom
      rw [e, List.filter_cons]
      by_cases h : f ∈ t
      · rw [if_pos (decide_eq_true h), if_pos h, List.length_cons]; omega
      · rw [if_neg (by simp [h]), if_neg h]; omega
    have hI : inFrom t f m ≤ n + 1 := by rw [e1]; split <;> omega
    refine ⟨hI, ?_⟩
    cases s with
    | zero =>
      unfold cnt chosenL
      cases r with
      | zero => simp [rightL, ch_zero]
      | succ r => simp [rightL]
    | succ s =>
      by_cases hs : f ≤ m - s
      · have ec : cnt t m (s + 1) f r = ((chosenL m s (f + 1)).filter fun w => decide (rightL t (f :: w) = r)).length + cnt t m (s + 1) (f + 1) r := by
          unfold cnt
          rw [chosen_cons hs, List.filter_append, List.length_append, List.filter_map, List.length_map]
          rfl
        have hr : ∀ w, rightL t (f :: w) = (if f ∈ t then 1 else 0) + rightL t w := by
          intro w
          unfold rightL
          rw [List.filter_cons]
          by_cases h : f ∈ t
          · rw [if_pos (decide_eq_true h), if_pos h, List.length_cons]; omega
          · rw [if_neg (by simp [h]), if_neg h]; omega
        rw [ec, e1, ih (s + 1) r]
        by_cases h : f ∈ t
        · simp only [if_pos h] at hr ⊢
          cases r with
          | zero =>
            have z : ((chosenL m s (f + 1)).filter fun w => decide (rightL t (f :: w) = 0)) = [] := List.filter_eq_nil_iff.mpr fun w _ q => by
              have := of_decide_eq_true q
              rw [hr w] at this
              omega
            rw [z, if_pos (Nat.zero_le _), if_pos (Nat.zero_le _), ch_zero, ch_zero, show n + 1 - (1 + inFrom t (f + 1) m) = n - inFrom t (f + 1) m by omega]
            simp
          | succ r =>
            have z : ((chosenL m s (f + 1)).filter fun w => decide (rightL t (f :: w) = r + 1)).length = cnt t m s (f + 1) r := by
              unfold cnt
              congr 2
              funext w
              rw [hr w]
              exact decide_eq_decide.mpr (by omega)
            rw [z, ih s r, show n + 1 - (1 + inFrom t (f + 1) m) = n - inFrom t (f + 1) m by omega, show 1 + inFrom t (f + 1) m = inFrom t (f + 1) m + 1 by omega, ch_succ]
            by_cases hrs : r ≤ s
            · rw [if_pos hrs, if_pos (by omega), if_pos (by omega), show s + 1 - (r + 1) = s - r by omega, Nat.add_mul]
            · rw [if_neg hrs, if_neg (by omega), if_neg (by omega)]
        · simp only [if_neg h] at hr ⊢
          have z : ((chosenL m s (f + 1)).filter fun w => decide (rightL t (f :: w) = r)).length = cnt t m s (f + 1) r := by
            unfold cnt
            congr 2
            funext w
            rw [hr w, Nat.zero_add]
          rw [z, ih s r, Nat.zero_add, show n + 1 - inFrom t (f + 1) m = (n - inFrom t (f + 1) m) + 1 by omega]
          by_cases hrs : r ≤ s
          · rw [if_pos hrs, if_pos (by omega), if_pos (by omega), show s + 1 - r = (s - r) + 1 by omega, ch_succ, Nat.mul_add]
          · rw [if_neg hrs]
            by_cases hr1 : r ≤ s + 1
            · rw [if_pos hr1, if_pos hr1, show s + 1 - r = 0 by omega, ch_zero, ch_zero]
              omega
            · rw [if_neg hr1, if_neg hr1]
      · have ez : cnt t m (s + 1) f r = 0 := by
          unfold cnt
          rw [chosen_nil (by omega)]
          rfl
        rw [ez, e1]
        by_cases hrs : r ≤ s + 1
        · rw [if_pos hrs]
          symm
          rw [← e1]
          rcases Nat.lt_or_ge (inFrom t f m) r with h1 | h1
          · rw [ch_big _ _ h1, Nat.zero_mul]
          · rw [ch_big (n + 1 - inFrom t f m) (s + 1 - r) (by omega), Nat.mul_zero]
        · rw [if_neg hrs]
theorem inFrom_row {m : Int} {t : List Int} (h : Row m t) : inFrom t 1 m = t.length := by
  unfold inFrom
  have h2 : ((rg 1 (m + 1)).filter fun x => decide (x ∈ t)).Nodup := List.Pairwise.filter _ (rg_nodup _ _)
  refine Nat.le_antisymm (nodup_len _ _ h2 fun x hx => of_decide_eq_true (List.mem_filter.mp hx).2) (nodup_len _ _ h.nodup fun x hx => ?_)
  refine List.mem_filter.mpr ⟨rg_mem.mpr ?_, decide_eq_true hx⟩
  have := h.2 x hx
  omega
/-- a ticket's spread counts the draws -/
theorem spread_cnt {n d : Nat} {t : List Int} (h : Row n t) (hd : d ≤ n) : spreadL n d t.length = (List.range (t.length + 1)).map fun r => (cnt t n d 1 r : Int) := by
  unfold spreadL
  apply List.map_congr_left
  intro r hr
  have hl := h.len (by omega)
  obtain ⟨_, e⟩ := cnt_eq t n n 1 d r (by omega)
  rw [e, inFrom_row h, waysN_ch, show ((n : Int) - t.length) = ((n - t.length : Nat) : Int) by omega]
  by_cases hrd : r ≤ d
  · rw [if_pos hrd, show ((d : Int) - r) = ((d - r : Nat) : Int) by omega, waysN_ch]
    simp
  · rw [if_neg hrd, waysN_out (by omega)]
    simp
theorem count_map_cast {α : Type} (l : List α) (f : α → Nat) (r : Nat) : (l.map fun x => (f x : Int)).count (r : Int) = (l.filter fun x => decide (f x = r)).length := by
  induction l with
  | nil => rfl
  | cons x l ih =>
    rw [List.map_cons, List.count_cons, List.filter_cons, ih]
    by_cases h : f x = r
    · have : ((f x : Int) == (r : Int)) = true := by simp [h]
      rw [if_pos this, if_pos (decide_eq_true h), List.length_cons]
    · have : ¬ ((f x : Int) == (r : Int)) = true := by simp; omega
      rw [if_neg this, if_neg (by simp [h])]
      rfl
end My

/-! whole numbers, tickets: as the program looks at any thing -/
namespace My
open PySem L2 Fx
def wholeD (lo hi : Int) : D → Bool
  | .int i => decide (lo ≤ i) && decide (i ≤ hi)
  | _ => false
def pairs : List Int → List (Int × Int)
  | a :: b :: l => (a, b) :: pairs (b :: l)
  | _ => []
def rises (ns : List Int) : Bool := (pairs ns).all fun p => decide (p.1 < p.2)
def intsOf : List D → List Int
  | .int i :: ds => i :: intsOf ds
  | _ :: ds => intsOf ds
  | [] => []
def ticketD (m : Int) : D → Bool
  | .tup ds => !ds.isEmpty && ds.all (wholeD 1 m) && rises (intsOf ds)
  | _ => false
theorem ints_whole {lo hi : Int} : ∀ {ds : List D}, ds.all (wholeD lo hi) = true → ds = (intsOf ds).map D.int ∧ ∀ x ∈ intsOf ds, lo ≤ x ∧ x ≤ hi
  | [], _ => ⟨rfl, fun x hx => (by cases hx)⟩
  | .int i :: ds, h => by
    rw [List.all_cons, Bool.and_eq_true] at h
    obtain ⟨h1, h2⟩ := ints_whole h.2
    have h3 : (decide (lo ≤ i) && decide (i ≤ hi)) = true := h.1
    rw [Bool.and_eq_true, decide_eq_true_eq, decide_eq_true_eq] at h3
    refine ⟨?_, fun x hx => ?_⟩
    · show _ = D.int i :: _
      rw [← h1]
    · rcases List.mem_cons.mp hx with rfl | hx
      · exact h3
      · exact h2 x hx
  | .non :: ds, h => by rw [List.all_cons, Bool.and_eq_true] at h; cases h.1
  | .bl _ :: ds, h => by rw [List.all_cons, Bool.and_eq_true] at h; cases h.1
  | .str _ :: ds, h => by rw [List.all_cons, Bool.and_eq_true] at h; cases h.1
  | .tup _ :: ds, h => by rw [List.all_cons, Bool.and_eq_true] at h; cases h.1
  | .lis _ :: ds, h => by rw [List.all_cons, Bool.and_eq_true] at h; cases h.1
theorem ints_map (ns : List Int) : intsOf (ns.map D.int) = ns := by
  induction ns with
  | nil => rfl
  | cons x ns ih => show x :: intsOf (ns.map D.int) = _; rw [ih]
theorem pairs_zip : ∀ ns : List Int, pairs ns = ns.zip (ns.drop 1)
  | [] => rfl
  | [_] => rfl
  | a :: b :: l => by
    show (a, b) :: pairs (b :: l) = (a, b) :: (b :: l).zip l
    rw [pairs_zip (b :: l)]
    rfl
theorem zip_pairs (ns : List Int) : zipD (ns.map D.int) ((ns.map D.int).drop 1) = (pairs ns).map fun p => D.tup [.int p.1, .int p.2] := by
  rw [pairs_zip]
  unfold zipD
  rw [← List.map_drop, List.zip_map, List.map_map]
  rfl
theorem rises_iff : ∀ ns : List Int, rises ns = true ↔ ns.Pairwise (· < ·)
  | [] => ⟨fun _ => List.Pairwise.nil, fun _ => rfl⟩
  | [a] => ⟨fun _ => List.pairwise_singleton _ _, fun _ => rfl⟩
  | a :: b :: l => by
    have ih := rises_iff (b :: l)
    have e : rises (a :: b :: l) = (decide (a < b) && rises (b :: l)) := rfl
    rw [e, Bool.and_eq_true, ih, decide_eq_true_eq]
    constructor
    · rintro ⟨h1, h2⟩
      refine List.pairwise_cons.mpr ⟨fun x hx => ?_, h2⟩
      rcases List.mem_cons.mp hx with rfl | hx
      · exact h1
      · have := (List.pairwise_cons.mp h2).1 x hx
        omega
    · intro h
      obtain ⟨h1, h2⟩ := List.pairwise_cons.mp h
      exact ⟨h1 b List.mem_cons_self, h2⟩
theorem ticket_iff {m : Int} {r : List Int} : ticketD m (tI r) = true ↔ Row m r ∧ r ≠ [] := by
  show (!(r.map D.int).isEmpty && (r.map D.int).all (wholeD 1 m) && rises (intsOf (r.map D.int))) = true ↔ _
  rw [ints_map, Bool.and_eq_true, Bool.and_eq_true, rises_iff, isEmpty_map', List.all_map]
  constructor
  · rintro ⟨⟨h1, h2⟩, h3⟩
    refine ⟨⟨h3, fun x hx => ?_⟩, fun e => ?_⟩
    · have := List.all_eq_true.mp h2 x hx
      have : (decide (1 ≤ x) && decide (x ≤ m)) = true := this
      simpa using this
    · rw [e] at h1; cases h1
  · rintro ⟨⟨h3, h2⟩, h1⟩
    refine ⟨⟨?_, List.all_eq_true.mpr fun x hx => ?_⟩, h3⟩
    · cases r with
      | nil => exact absurd rfl h1
      | cons _ _ => rfl
    · show (decide (1 ≤ x) && decide (x ≤ m)) = true
      have := h2 x hx
      simpa using this
theorem ticket_row {m : Int} {r : List Int} (h : Row m r) (h2 : r ≠ []) : ticketD m (tI r) = true := ticket_iff.mpr ⟨h, h2⟩
theorem kit_int (d : D) : kitB (tyN (.dat d)) "int" = some (match d with | .int _ => true | .bl _ => true | _ => false) := by
  cases d <;> kernel_rfl
theorem kit_tuple (d : D) : kitB (tyN (.dat d)) "tuple" = some (match d with | .tup _ => true | _ => false) := by
  cases d <;> kernel_rfl
end My

/-! texts of tickets and books -/
namespace My
open PySem L2 Fx SX
def numC (i : Int) : List Nat := TL.numL i.toNat
theorem num_str {i : Int} (h : 0 ≤ i) : Str.ofString (toString i) = S (numC i) := by
  obtain ⟨n, rfl⟩ : ∃ n : Nat, i = n := ⟨i.toNat, by omega⟩
  rw [num_S]
  unfold numC
  rw [Int.toNat_natCast]
theorem numC_inj {i j : Int} (hi : 0 ≤ i) (hj : 0 ≤ j) (h : numC i = numC j) : i = j := by
  have := TL.numL_inj h
  omega
theorem numC_ne (i : Int) : numC i ≠ [] := TL.numL_ne _
theorem numC_len {i : Int} (h : i ≤ 99) : (numC i).length ≤ 2 := TL.numL_len (k := 2) (by decide) (by show i.toNat < 100; omega)
theorem numC_digit (i : Int) : ∀ c ∈ numC i, 48 ≤ c ∧ c ≤ 57 := TL.numL_digits _
theorem numC_val {i : Int} (h : 0 ≤ i) : ((NumText.digitsVal (numC i) : Nat) : Int) = i := by
  unfold numC
  rw [TL.numL_val]
  omega
/-- the text of a ticket, of a book -/
def tkT (t : List Int) : List Nat := TL.joinL [45] (t.map numC)
def bkT (b : List (List Int)) : List Nat := TL.joinL [32] (b.map tkT)
theorem joinL_mem {s c : Nat} : ∀ {ps : List (List Nat)}, c ∈ TL.joinL [s] ps → c = s ∨ ∃ p ∈ ps, c ∈ p
  | [], h => by cases h
  | [p], h => .inr ⟨p, List.mem_cons_self, h⟩
  | p :: q :: r, h => by
    have h : c ∈ p ++ ([s] ++ TL.joinL [s] (q :: r)) := h
    rcases List.mem_append.mp h with h | h
    · exact .inr ⟨p, List.mem_cons_self, h⟩
    · rcases List.mem_append.mp h with h | h
      · exact .inl (List.mem_singleton.mp h)
      · rcases joinL_mem h with h | ⟨x, hx, h⟩
        · exact .inl h
        · exact .inr ⟨x, List.mem_cons_of_mem _ hx, h⟩
theorem joinL_len {s : Nat} : ∀ {ps : List (List Nat)} {n : Nat}, (∀ p ∈ ps, p.length ≤ n) → (TL.joinL [s] ps).length ≤ ps.length * (n + 1)
  | [], n, _ => Nat.zero_le _
  | [p], n, h => by
    have := h p List.mem_cons_self
    show p.length ≤ 1 * (n + 1)
    omega
  | p :: q :: r, n, h => by
    have h1 := h p List.mem_cons_self
    have h2 := joinL_len (s := s) (ps := q :: r) (n := n) fun x hx => h x (List.mem_cons_of_mem _ hx)
    show (p ++ ([s] ++ TL.joinL [s] (q :: r))).length ≤ ((q :: r).length + 1) * (n + 1)
    rw [List.length_append, List.length_append, Nat.add_mul]
    show p.length + (1 + _) ≤ _
    omega
theorem joinL_ne {s : Nat} : ∀ {ps : List (List Nat)}, ps ≠ [] → (∀ p ∈ ps, p ≠ []) → TL.joinL [s] ps ≠ []
  | [], h, _ => absurd rfl h
  | [p], _, h => h p List.mem_cons_self
  | p :: q :: r, _, h => fun e => by
    have e : p ++ ([s] ++ TL.joinL [s] (q :: r)) = [] := e
    exact h p List.mem_cons_self (List.append_eq_nil_iff.mp e).1
theorem tkT_free {t : List Int} {c : Nat} (hc : c ≠ 45) (hd : c < 48 ∨ 57 < c) : c ∉ tkT t := fun h => by
  rcases joinL_mem h with h | ⟨p, hp, h⟩
  · exact hc h
  · obtain ⟨i, _, rfl⟩ := List.mem_map.mp hp
    have := numC_digit i c h
    omega
theorem tkT_ne {t : List Int} (h : t ≠ []) : tkT t ≠ [] := joinL_ne (fun e => h (List.map_eq_nil_iff.mp e)) fun p hp => by
  obtain ⟨i, _, rfl⟩ := List.mem_map.mp hp
  exact numC_ne i
theorem spl_ne (s : Nat) : ∀ (a acc : List Nat), TL.spl [s] 0 acc a ≠ []
  | [], acc => by rw [TL.spl_nil]; exact fun h => by cases h
  | c :: r, acc => by
    cases h : TL.pre [s] (c :: r) with
    | true => rw [TL.spl_hit h]; exact fun h => by cases h
    | false => rw [TL.spl_miss h]; exact spl_ne s r _
theorem join_spl (s : Nat) : ∀ (a acc : List Nat), TL.joinL [s] (TL.spl [s] 0 acc a) = acc ++ a
  | [], acc => by rw [TL.spl_nil, List.append_nil]; rfl
  | c :: r, acc => by
    cases h : TL.pre [s] (c :: r) with
    | true =>
      rw [TL.spl_hit h]
      have ec : c = s := by
        unfold TL.pre at h
        have h : ([c] == [s]) = true := h
        simpa using h
      have ih := join_spl s r []
      cases hz : TL.spl [s] ([s].length - 1) [] r with
      | nil => exact absurd hz (spl_ne s r [])
      | cons q l =>
        show acc ++ ([s] ++ TL.joinL [s] (q :: l)) = _
        rw [← hz, show TL.joinL [s] (TL.spl [s] ([s].length - 1) [] r) = r from ih, ec]
        rfl
    | false =>
      rw [TL.spl_miss h, join_spl s r (acc ++ [c]), List.append_assoc]
      rfl
theorem spl_len (s : Nat) : ∀ (a acc : List Nat), (TL.spl [s] 0 acc a).length ≤ a.length + 1
  | [], acc => by rw [TL.spl_nil]; exact Nat.le_refl _
  | c :: r, acc => by
    cases h : TL.pre [s] (c :: r) with
    | true =>
      rw [TL.spl_hit h]
      have := spl_len s r []
      show (TL.spl [s] 0 [] r).length + 1 ≤ r.length + 1 + 1
      omega
    | false =>
      rw [TL.spl_miss h]
      have := spl_len s r (acc ++ [c])
      show _ ≤ r.length + 1 + 1
      omega
theorem part_len (s : Nat) : ∀ (a acc p : List Nat), p ∈ TL.spl [s] 0 acc a → p.length ≤ acc.length + a.length
  | [], acc, p, hp => by rw [TL.spl_nil] at hp; rw [List.mem_singleton.mp hp]; exact Nat.le_refl _
  | c :: r, acc, p, hp => by
    cases h : TL.pre [s] (c :: r) with
    | true =>
      rw [TL.spl_hit h] at hp
      show p.length ≤ acc.length + (r.length + 1)
      rcases List.mem_cons.mp hp with rfl | hp
      · omega
      · have := part_len s r [] p hp
        have e : ([] : List Nat).length = 0 := rfl
        omega
    | false =>
      rw [TL.spl_miss h] at hp
      have := part_len s r (acc ++ [c]) p hp
      rw [List.length_append] at this
      have e : [c].length = 1 := rfl
      show p.length ≤ acc.length + (r.length + 1)
      omega
/-! ### what is read -/
def dig (c : Nat) : Bool := decide (48 ≤ c) && decide (c ≤ 57)
def wordOk (w : List Nat) : Bool := decide (1 ≤ w.length) && decide (w.length ≤ 2) && w.all dig
def valC (w : List Nat) : Int := ((NumText.digitsVal w : Nat) : Int)
def tickOf (m : Int) (a : List Nat) : Option (List Int) :=
  if (TL.spl [45] 0 [] a).all wordOk = true then
    (if (ticketD m (tI ((TL.spl [45] 0 [] a).map valC)) && decide (tkT ((TL.spl [45] 0 [] a).map valC) = a)) = true then some ((TL.spl [45] 0 [] a).map valC) else none)
  else none
def goodC (m : Int) : List (List Nat) := (rg 1 (m + 1)).map numC
def rowC (m : Int) (a : List Nat) : List Int := (TL.spl [45] 0 [] a).map fun w => (((goodC m).idxOf w : Nat) : Int) + 1
def allGood (m : Int) (a : List Nat) : Bool := (TL.spl [45] 0 [] a).all fun w => decide (w ∈ goodC m)
def meant (m : Int) (a : List Nat) : Option (List Int) :=
  if allGood m a = true then (if (rowC m a).Pairwise (· < ·) then some (rowC m a) else none) else none
theorem good_at {m : Int} {i : Nat} {w : List Nat} (h : (goodC m)[i]? = some w) : (i : Int) + 1 ≤ m ∧ w = numC ((i : Int) + 1) := by
  unfold goodC at h
  rw [List.getElem?_map] at h
  cases e : (rg 1 (m + 1))[i]? with
  | none => rw [e] at h; cases h
  | some x =>
    rw [e] at h
    cases h
    unfold rg at e
    rw [List.getElem?_map] at e
    cases e2 : (List.range ((m + 1) - 1).toNat)[i]? with
    | none => rw [e2] at e; cases e
    | some k =>
      rw [e2] at e
      cases e
      obtain ⟨h1, h2⟩ := List.getElem?_eq_some_iff.mp e2
      rw [List.getElem_range] at h2
      rw [List.length_range] at h1
      subst h2
      refine ⟨by omega, ?_⟩
      rw [Int.add_comm]
theorem good_mem {m : Int} {w : List Nat} : w ∈ goodC m ↔ ∃ i : Int, 1 ≤ i ∧ i ≤ m ∧ w = numC i := by
  constructor
  · intro h
    obtain ⟨i, hi⟩ := List.getElem?_of_mem h
    obtain ⟨h1, h2⟩ := good_at hi
    exact ⟨_, by omega, h1, h2⟩
  · rintro ⟨i, h1, h2, rfl⟩
    exact List.mem_map.mpr ⟨i, rg_mem.mpr ⟨h1, by omega⟩, rfl⟩
theorem good_idx {m : Int} {w : List Nat} (h : w ∈ goodC m) : 1 ≤ (((goodC m).idxOf w : Nat) : Int) + 1 ∧ (((goodC m).idxOf w : Nat) : Int) + 1 ≤ m ∧ w = numC ((((goodC m).idxOf w : Nat) : Int) + 1) := by
  have hl := List.idxOf_lt_length_of_mem h
  obtain ⟨h1, h2⟩ := good_at (i := (goodC m).idxOf w) (w := w) (by rw [List.getElem?_eq_getElem hl, List.getElem_idxOf])
  exact ⟨by omega, h1, h2⟩
theorem row_spl {m : Int} {r : List Int} (h : Row m r) (hne : r ≠ []) : TL.spl [45] 0 [] (tkT r) = r.map numC :=
  spl_join (fun e => hne (List.map_eq_nil_iff.mp e)) fun p hp hm => by
    obtain ⟨i, _, rfl⟩ := List.mem_map.mp hp
    have := numC_digit i 45 hm
    omega
theorem tick_iff {m : Int} (hm : m ≤ 99) {a : List Nat} {r : List Int} : tickOf m a = some r ↔ Row m r ∧ r ≠ [] ∧ tkT r = a := by
  unfold tickOf
  constructor
  · intro h
    split at h
    · split at h
      · rename_i h1 h2
        cases h
        rw [Bool.and_eq_true] at h2
        obtain ⟨h3, h4⟩ := ticket_iff.mp h2.1
        exact ⟨h3, h4, of_decide_eq_true h2.2⟩
      · cases h
    · cases h
  · rintro ⟨h1, h2, rfl⟩
    have ew : (TL.spl [45] 0 [] (tkT r)).map valC = r := by
      rw [row_spl h1 h2, List.map_map]
      conv => rhs; rw [← List.map_id r]
      exact List.map_congr_left fun i hi => numC_val (by have := h1.2 i hi; omega)
    rw [if_pos, ew, if_pos]
    · rw [ticket_row h1 h2]
      simp
    · rw [row_spl h1 h2, List.all_map]
      refine List.all_eq_true.mpr fun i hi => ?_
      have h3 := h1.2 i hi
      have h4 := numC_len (i := i) (by omega)
      have h5 : 1 ≤ (numC i).length := List.length_pos_iff.mpr (numC_ne i)
      show (decide _ && decide _ && _) = true
      rw [decide_eq_true h5, decide_eq_true h4]
      refine List.all_eq_true.mpr fun c hc => ?_
      have := numC_digit i c hc
      unfold dig
      rw [decide_eq_true this.1, decide_eq_true this.2]
      rfl
theorem meant_iff {m : Int} {a : List Nat} {r : List Int} : meant m a = some r ↔ Row m r ∧ r ≠ [] ∧ tkT r = a := by
  unfold meant
  constructor
  · intro h
    split at h
    · split at h
      · rename_i h1 h2
        cases h
        have hg : ∀ w ∈ TL.spl [45] 0 [] a, w ∈ goodC m := fun w hw => of_decide_eq_true (List.all_eq_true.mp h1 w hw)
        refine ⟨⟨h2, fun x hx => ?_⟩, fun e => spl_ne 45 a [] (List.map_eq_nil_iff.mp e), ?_⟩
        · obtain ⟨w, hw, rfl⟩ := List.mem_map.mp hx
          have := good_idx (hg w hw)
          exact ⟨this.1, this.2.1⟩
        · unfold tkT rowC
          rw [List.map_map]
          have e : (TL.spl [45] 0 [] a).map (numC ∘ fun w => (((goodC m).idxOf w : Nat) : Int) + 1) = TL.spl [45] 0 [] a := by
            conv => rhs; rw [← List.map_id (TL.spl [45] 0 [] a)]
            exact List.map_congr_left fun w hw => (good_idx (hg w hw)).2.2.symm
          rw [e, join_spl]
          rfl
      · cases h
    · cases h
  · rintro ⟨h1, h2, rfl⟩
    have hg : ∀ i ∈ r, numC i ∈ goodC m := fun i hi => good_mem.mpr ⟨i, (h1.2 i hi).1, (h1.2 i hi).2, rfl⟩
    have er : rowC m (tkT r) = r := by
      unfold rowC
      rw [row_spl h1 h2, List.map_map]
      conv => rhs; rw [← List.map_id r]
      refine List.map_congr_left fun i hi => ?_
      have h3 := good_idx (hg i hi)
      have h4 := h1.2 i hi
      exact (numC_inj (by omega) (by omega) h3.2.2).symm
    rw [if_pos, er, if_pos h1.1]
    unfold allGood
    rw [row_spl h1 h2, List.all_map]
    exact List.all_eq_true.mpr fun i hi => decide_eq_true (hg i hi)
theorem tick_meant {m : Int} (hm : m ≤ 99) (a : List Nat) : tickOf m a = meant m a := by
  apply Option.ext
  intro r
  rw [tick_iff hm, meant_iff]
theorem meant_tk {m : Int} {t : List Int} (h : Row m t) (hne : t ≠ []) : meant m (tkT t) = some t := meant_iff.mpr ⟨h, hne, rfl⟩
/-! ### books -/
def wordsL (a : List Nat) : List (List Nat) := if a = [] then [] else TL.spl [32] 0 [] a
def readL (m : Int) (a : List Nat) : List (Option (List Int)) := (wordsL a).map (meant m)
theorem words_bk {b : List (List Int)} (h : ∀ t ∈ b, t ≠ []) : wordsL (bkT b) = b.map tkT := by
  unfold wordsL
  cases b with
  | nil => rfl
  | cons t r =>
    rw [if_neg]
    · exact spl_join (fun e => by cases e) fun p hp => by
        obtain ⟨x, _, rfl⟩ := List.mem_map.mp hp
        exact tkT_free (by decide) (by decide)
    · exact joinL_ne (fun e => by cases e) fun p hp => by
        obtain ⟨x, hx, rfl⟩ := List.mem_map.mp hp
        exact tkT_ne (h x hx)
theorem read_bk {m : Int} {b : List (List Int)} (h : ∀ t ∈ b, Row m t ∧ t ≠ []) : readL m (bkT b) = b.map some := by
  unfold readL
  rw [words_bk fun t ht => (h t ht).2, List.map_map]
  exact List.map_congr_left fun t ht => meant_tk (h t ht).1 (h t ht).2
def optD : Option (List Int) → D
  | none => .non
  | some t => tI t
def dueD (l : List (Option (List Int))) : D := if none ∈ l then .tup [.str "no text", .int (l.idxOf none : Nat)] else .tup [.str "told", .tup (l.map optD)]
theorem ok_opt (n : Nat) (o : Option (List Int)) : okD (n + 1) (optD o) = true := by
  cases o with
  | none => rfl
  | some t => exact ok_tI n t
theorem ok_due (l : List (Option (List Int))) : okD 3 (dueD l) = true := by
  unfold dueD
  split
  · show (PyData.strOk "no text" && (true && true)) = true
    decide +kernel
  · show (PyData.strOk "told" && ((l.map optD).all (okD 1 ·) && true)) = true
    rw [List.all_map, show l.all ((fun x => okD 1 x) ∘ optD) = true from List.all_eq_true.mpr (fun o _ => ok_opt 0 o)]
    decide +kernel
theorem eqv_opt (o : Option (List Int)) : PyData.eqv (optD o).py (D.py .non) = o.isNone := by
  cases o with
  | none => simp [optD, D.py, PyData.eqv]
  | some t => simp [optD, tI, D.py, PyData.eqv]
theorem pys_opt (l : List (Option (List Int))) : pys (l.map optD) = l.map fun o => (optD o).py := by
  induction l with
  | nil => rfl
  | cons t ts ih => show (optD t).py :: pys (ts.map optD) = _; rw [ih]; rfl
theorem any_non (l : List (Option (List Int))) : ((pys (l.map optD)).any fun z => PyData.eqv z (D.py .non)) = decide (none ∈ l) := by
  rw [pys_opt, List.any_map]
  induction l with
  | nil => simp
  | cons o l ih =>
    rw [List.any_cons, ih]
    show (PyData.eqv (optD o).py (D.py .non) || _) = _
    rw [eqv_opt]
    cases o <;> simp
/-- either all is read, or the first that is not -/
theorem read_all {l : List (Option (List Int))} (h : none ∉ l) : ∃ b : List (List Int), l = b.map some := by
  induction l with
  | nil => exact ⟨[], rfl⟩
  | cons o l ih =>
    obtain ⟨b, rfl⟩ := ih fun z => h (List.mem_cons_of_mem _ z)
    cases o with
    | none => exact absurd List.mem_cons_self h
    | some t => exact ⟨t :: b, rfl⟩
theorem due_all (b : List (List Int)) : dueD (b.map some) = .tup [.str "told", tII b] := by
  unfold dueD
  rw [if_neg, List.map_map]
  · rfl
  · intro h
    obtain ⟨t, _, e⟩ := List.mem_map.mp h
    cases e
/-! ### small facts for the walk -/
theorem log40 {i : Int} (h0 : 0 ≤ i) (h : i ≤ 1000) : i.natAbs.log2 < 1920 := by
  by_cases hz : i.natAbs = 0
  · rw [hz]; decide
  · have := (Nat.log2_lt (k := 60) hz).mpr (by omega)
    omega
theorem numC_len4 {i : Int} (h : i ≤ 1000) : (numC i).length ≤ 4 := TL.numL_len (k := 4) (by decide) (by show i.toNat < 10000; omega)
theorem sum_len {n : Nat} : ∀ {ys : List Str}, (∀ y ∈ ys, y.length ≤ n) → (ys.map (·.length)).sum ≤ ys.length * n
  | [], _ => Nat.zero_le _
  | y :: ys, h => by
    have h1 := h y List.mem_cons_self
    have h2 := sum_len (ys := ys) fun x hx => h x (List.mem_cons_of_mem _ hx)
    rw [List.map_cons, List.sum_cons, List.length_cons, Nat.add_mul]
    omega
theorem tkT_len {t : List Int} (h : ∀ x ∈ t, x ≤ 1000) : (tkT t).length ≤ t.length * 5 := by
  have := joinL_len (s := 45) (ps := t.map numC) (n := 4) fun p hp => by
    obtain ⟨i, hi, rfl⟩ := List.mem_map.mp hp
    exact numC_len4 (h i hi)
  rw [List.length_map] at this
  exact this
theorem val_le {w : List Nat} (h : wordOk w = true) : 0 ≤ valC w ∧ valC w ≤ 1000 := by
  unfold wordOk at h
  rw [Bool.and_eq_true, Bool.and_eq_true, decide_eq_true_eq, decide_eq_true_eq] at h
  obtain ⟨⟨h1, h2⟩, h3⟩ := h
  have hd : ∀ c ∈ w, c ≤ 57 := fun c hc => by
    have := List.all_eq_true.mp h3 c hc
    unfold dig at this
    rw [Bool.and_eq_true, decide_eq_true_eq, decide_eq_true_eq] at this
    exact this.2
  unfold valC
  refine ⟨by omega, ?_⟩
  match w, h1, h2, hd with
  | [c], _, _, hd =>
    have := hd c List.mem_cons_self
    show ((0 * 10 + (c - 48) : Nat) : Int) ≤ 1000
    omega
  | [c, d], _, _, hd =>
    have h4 := hd c List.mem_cons_self
    have h5 := hd d (List.mem_cons_of_mem _ List.mem_cons_self)
    show (((0 * 10 + (c - 48)) * 10 + (d - 48) : Nat) : Int) ≤ 1000
    omega
theorem word_int {w : List Nat} (h : wordOk w = true) : intText? (S w) = some (valC w) := by
  unfold wordOk at h
  rw [Bool.and_eq_true, Bool.and_eq_true, decide_eq_true_eq, decide_eq_true_eq] at h
  exact int_S h.2 (fun e => by rw [e] at h; exact absurd h.1.1 (by decide)) (by omega)
theorem dig_in (c : Nat) : decide (c ∈ (("0123456789" : Str)).cps.toList) = dig c := by
  have e : (("0123456789" : Str)).cps.toList = [48, 49, 50, 51, 52, 53, 54, 55, 56, 57] := by decide +kernel
  rw [e]
  unfold dig
  by_cases h : 48 ≤ c ∧ c ≤ 57
  · rw [decide_eq_true h.1, decide_eq_true h.2]
    apply decide_eq_true
    have : c = 48 ∨ c = 49 ∨ c = 50 ∨ c = 51 ∨ c = 52 ∨ c = 53 ∨ c = 54 ∨ c = 55 ∨ c = 56 ∨ c = 57 := by omega
    rcases this with rfl | rfl | rfl | rfl | rfl | rfl | rfl | rfl | rfl | rfl <;> decide
  · have : ¬ c ∈ [48, 49, 50, 51, 52, 53, 54, 55, 56, 57] := fun z => by
      simp only [List.mem_cons, List.not_mem_nil, or_false] at z
      omega
    rw [decide_eq_false this]
    by_cases h1 : 48 ≤ c
    · rw [decide_eq_true h1, decide_eq_false (fun z => h ⟨h1, z⟩)]
      rfl
    · rw [decide_eq_false h1]
      rfl
theorem dash : ("-" : Str) = S [45] := rfl
theorem blank : (" " : Str) = S [32] := rfl
theorem split_dash (a : List Nat) : Txt.split (S a) "-" = (TL.spl [45] 0 [] a).map S := split_S (b := [45]) (by decide) (by decide)
theorem split_blank (a : List Nat) : Txt.split (S a) " " = (TL.spl [32] 0 [] a).map S := split_S (b := [32]) (by decide) (by decide)
theorem join_dash (ps : List (List Nat)) : Txt.join "-" (ps.map S) = S (TL.joinL [45] ps) := join_S [45] ps
theorem join_blank (ps : List (List Nat)) : Txt.join " " (ps.map S) = S (TL.joinL [32] ps) := join_S [32] ps
theorem len_S (a : List Nat) : (S a).length = a.length := S_len a
theorem idx_first {l : List (Option (List Int))} {bs : List (List Int)} {i : Nat} (h : l.take i = bs.map some) (hi : l[i]? = some none) : none ∈ l ∧ l.idxOf none = i := by
  refine ⟨List.mem_of_getElem? hi, ?_⟩
  obtain ⟨hlt, hget⟩ := List.getElem?_eq_some_iff.mp hi
  have e : l = l.take i ++ none :: l.drop (i + 1) := by
    conv => lhs; rw [← List.take_append_drop i l, List.drop_eq_getElem_cons hlt, hget]
  have hn : none ∉ l.take i := fun z => by
    rw [h] at z
    obtain ⟨t, _, e⟩ := List.mem_map.mp z
    cases e
  rw [e, List.idxOf_append, if_neg hn, List.idxOf_cons_self, List.length_take]
  omega
theorem take_snoc {l : List (Option (List Int))} {bs : List (List Int)} {i : Nat} {t : List Int} (h : l.take i = bs.map some) (hi : l[i]? = some (some t)) : l.take (i + 1) = (bs ++ [t]).map some := by
  rw [List.take_add_one, hi, h, List.map_append]
  rfl
theorem asc_ext : ∀ {a b : List Int}, a.Pairwise (· < ·) → b.Pairwise (· < ·) → (∀ x, x ∈ a ↔ x ∈ b) → a = b
  | [], [], _, _, _ => rfl
  | [], y :: b, _, _, h => absurd ((h y).mpr List.mem_cons_self) (fun z => by cases z)
  | x :: a, [], _, _, h => absurd ((h x).mp List.mem_cons_self) (fun z => by cases z)
  | x :: a, y :: b, ha, hb, h => by
    obtain ⟨h1, h2⟩ := List.pairwise_cons.mp ha
    obtain ⟨h3, h4⟩ := List.pairwise_cons.mp hb
    have e : x = y := by
      rcases List.mem_cons.mp ((h x).mp List.mem_cons_self) with e | hx
      · exact e
      · rcases List.mem_cons.mp ((h y).mpr List.mem_cons_self) with e | hy
        · exact e.symm
        · have := h1 y hy
          have := h3 x hx
          omega
    subst e
    rw [asc_ext h2 h4 fun z => ?_]
    have := h z
    rw [List.mem_cons, List.mem_cons] at this
    constructor
    · intro hz
      rcases this.mp (.inr hz) with e | hz2
      · subst e
        exact absurd (h1 z hz) (by omega)
      · exact hz2
    · intro hz
      rcases this.mpr (.inr hz) with e | hz2
      · subst e
        exact absurd (h3 z hz) (by omega)
      · exact hz2
theorem asc_self {r out : List Int} (h : out.Pairwise (· < ·)) (hm : ∀ k, k ∈ out ↔ k ∈ r) : decide (r = out) = decide (r.Pairwise (· < ·)) := by
  by_cases h2 : r.Pairwise (· < ·)
  · rw [decide_eq_true h2]
    exact decide_eq_true (asc_ext h2 h fun x => (hm x).symm)
  · rw [decide_eq_false h2]
    exact decide_eq_false fun e => h2 (e ▸ h)
theorem spl_count (s : Nat) : ∀ (a acc : List Nat), (TL.spl [s] 0 acc a).length = a.count s + 1
  | [], acc => by rw [TL.spl_nil]; rfl
  | c :: r, acc => by
    cases h : TL.pre [s] (c :: r) with
    | true =>
      rw [TL.spl_hit h]
      have ec : c = s := by
        unfold TL.pre at h
        have h : ([c] == [s]) = true := h
        simpa using h
      have := spl_count s r []
      show (TL.spl [s] 0 [] r).length + 1 = _
      rw [this, ec, List.count_cons_self]
    | false =>
      rw [TL.spl_miss h, spl_count s r (acc ++ [c])]
      have ec : c ≠ s := fun e => by
        subst e
        have : TL.pre [c] (c :: r) = true := by
          unfold TL.pre
          show ([c] == [c]) = true
          simp
        rw [h] at this
        cases this
      rw [List.count_cons_of_ne ec]
theorem part_count (s k : Nat) : ∀ (a acc p : List Nat), p ∈ TL.spl [s] 0 acc a → p.count k ≤ acc.count k + a.count k
  | [], acc, p, hp => by rw [TL.spl_nil] at hp; rw [List.mem_singleton.mp hp]; exact Nat.le_refl _
  | c :: r, acc, p, hp => by
    have hc : r.count k ≤ (c :: r).count k := by rw [List.count_cons]; omega
    cases h : TL.pre [s] (c :: r) with
    | true =>
      rw [TL.spl_hit h] at hp
      rcases List.mem_cons.mp hp with rfl | hp
      · omega
      · have := part_count s k r [] p hp
        have e : ([] : List Nat).count k = 0 := rfl
        omega
    | false =>
      rw [TL.spl_miss h] at hp
      have := part_count s k r (acc ++ [c]) p hp
      rw [List.count_append] at this
      have e : [c].count k + r.count k = (c :: r).count k := by
        rw [← List.count_append]
        rfl
      omega
theorem part_mem (s : Nat) : ∀ (a acc p : List Nat), p ∈ TL.spl [s] 0 acc a → ∀ c ∈ p, c ∈ acc ∨ c ∈ a
  | [], acc, p, hp, c, hc => by rw [TL.spl_nil] at hp; rw [List.mem_singleton.mp hp] at hc; exact .inl hc
  | x :: r, acc, p, hp, c, hc => by
    cases h : TL.pre [s] (x :: r) with
    | true =>
      rw [TL.spl_hit h] at hp
      rcases List.mem_cons.mp hp with rfl | hp
      · exact .inl hc
      · rcases part_mem s r [] p hp c hc with z | z
        · cases z
        · exact .inr (List.mem_cons_of_mem _ z)
    | false =>
      rw [TL.spl_miss h] at hp
      rcases part_mem s r (acc ++ [x]) p hp c hc with z | z
      · rcases List.mem_append.mp z with z | z
        · exact .inl z
        · rw [List.mem_singleton.mp z]
          exact .inr List.mem_cons_self
      · exact .inr (List.mem_cons_of_mem _ z)
/-- a text the law may meet -/
structure TxtOk (a : List Nat) : Prop where
  len : a.length ≤ 900
  dash : a.count 45 ≤ 60
  low : ∀ c ∈ a, c < 128
theorem TxtOk.part {a p : List Nat} (h : TxtOk a) (hp : p ∈ TL.spl [32] 0 [] a) : TxtOk p :=
  ⟨by have := part_len 32 a [] p hp; have := h.len; have e : ([] : List Nat).length = 0 := rfl; omega, by have := part_count 32 45 a [] p hp; have := h.dash; have e : ([] : List Nat).count 45 = 0 := rfl; omega,
    fun c hc => by rcases part_mem 32 a [] p hp c hc with z | z; cases z; exact h.low c z⟩
theorem low_str {a : List Nat} (h : ∀ c ∈ a, c < 128) : PyData.strOk (S a) = true := by
  unfold PyData.strOk
  rw [← Array.all_toList]
  exact List.all_eq_true.mpr fun c hc => decide_eq_true (by have := h c hc; omega)
theorem mem_S {w : List Nat} {l : List (List Nat)} : decide (S w ∈ l.map S) = decide (w ∈ l) := by
  by_cases h : w ∈ l
  · rw [decide_eq_true h]
    exact decide_eq_true (List.mem_map.mpr ⟨w, h, rfl⟩)
  · rw [decide_eq_false h]
    exact decide_eq_false fun z => by
      obtain ⟨x, hx, e⟩ := List.mem_map.mp z
      exact h (S_inj e ▸ hx)
theorem in_strs (s : Str) (l : List Str) : inD (.str s) (l.map D.str) = decide (s ∈ l) := by
  induction l with
  | nil => rfl
  | cons a l ih =>
    have e : inD (.str s) ((a :: l).map D.str) = (eqV (V.str a) (V.str s) || inD (.str s) (l.map D.str)) := rfl
    rw [e, ih]
    have e2 : eqV (V.str a) (V.str s) = decide (a = s) := by simp [eqV, Bool.beq_eq_decide_eq]
    rw [e2, ← Bool.decide_or]
    refine decide_eq_decide.mpr ⟨fun h => ?_, fun h => ?_⟩
    · rcases h with h | h
      · rw [h]; exact List.mem_cons_self
      · exact List.mem_cons_of_mem _ h
    · rcases List.mem_cons.mp h with h | h
      · exact .inl h.symm
      · exact .inr h
theorem idx_before : ∀ {G : List (List Nat)} {w : List Nat} {m : Nat}, m < G.idxOf w → G[m]? ≠ some w
  | [], w, m, h, e => by cases e
  | x :: l, w, 0, h, e => by
    have : x = w := Option.some.inj e
    subst this
    rw [List.idxOf_cons_self] at h
    omega
  | x :: l, w, m + 1, h, e => by
    by_cases hx : x = w
    · subst hx
      rw [List.idxOf_cons_self] at h
      omega
    · rw [List.idxOf_cons, show (x == w) = false from beq_eq_false_iff_ne.mpr hx] at h
      have h : m + 1 < l.idxOf w + 1 := h
      exact idx_before (G := l) (w := w) (m := m) (by omega) e
theorem idx_strs {G : List (List Nat)} {w : List Nat} (h : w ∈ G) : (((G.map S).map D.str).map flV)[G.idxOf w]? = some (V.str (S w)) ∧ eqV (V.str (S w)) (flV (D.str (S w))) = true ∧
    ∀ (m : Nat) (z' : V), m < G.idxOf w → (((G.map S).map D.str).map flV)[m]? = some z' → eqV z' (flV (D.str (S w))) = false := by
  have hl := List.idxOf_lt_length_of_mem h
  refine ⟨?_, ?_, fun m z' hm hz => ?_⟩
  · rw [List.getElem?_map, List.getElem?_map, List.getElem?_map, List.getElem?_eq_getElem hl, List.getElem_idxOf]
    rfl
  · show (S w == S w) = true
    rw [S_beq_eq]
    exact decide_eq_true rfl
  · rw [List.getElem?_map, List.getElem?_map, List.getElem?_map, List.getElem?_eq_getElem (by omega)] at hz
    cases hz
    show (S G[m] == S w) = false
    rw [S_beq_eq]
    refine decide_eq_false fun e => ?_
    exact idx_before hm (by rw [List.getElem?_eq_getElem (by omega), S_inj (congrArg S e)])
theorem non_before : ∀ {l : List (Option (List Int))} {m : Nat}, m < l.idxOf none → l[m]? ≠ some none
  | [], m, h, e => by cases e
  | x :: l, 0, h, e => by
    have : x = none := Option.some.inj e
    subst this
    rw [List.idxOf_cons_self] at h
    omega
  | x :: l, m + 1, h, e => by
    by_cases hx : x = none
    · subst hx
      rw [List.idxOf_cons_self] at h
      omega
    · rw [List.idxOf_cons, show (x == none) = false from beq_eq_false_iff_ne.mpr hx] at h
      have h : m + 1 < l.idxOf none + 1 := h
      exact non_before (l := l) (m := m) (by omega) e
theorem idx_non {l : List (Option (List Int))} (h : none ∈ l) : ∃ z, (pys (l.map optD))[l.idxOf none]? = some z ∧ PyData.eqv z (D.py .non) = true ∧
    ∀ (m : Nat) (z' : PyData), m < l.idxOf none → (pys (l.map optD))[m]? = some z' → PyData.eqv z' (D.py .non) = false := by
  have hl := List.idxOf_lt_length_of_mem h
  rw [pys_opt]
  refine ⟨(optD none).py, ?_, eqv_opt none, fun m z' hm hz => ?_⟩
  · rw [List.getElem?_map, List.getElem?_eq_getElem hl, List.getElem_idxOf]
    rfl
  · rw [List.getElem?_map] at hz
    cases ho : l[m]? with
    | none => rw [ho] at hz; cases hz
    | some o =>
      rw [ho] at hz
      cases hz
      rw [eqv_opt]
      cases o with
      | none => exact absurd ho (non_before hm)
      | some t => rfl
end My

/-! the law's texts: lines of books with signs put in or taken out -/
namespace My
open PySem L2 Fx SX
theorem cut_to {a : List Nat} {i : Int} (h : 0 ≤ i) : cutS (S a) none (some i) = S (a.take i.toNat) := (C8.cutS_slice _ _ _).trans (slice_to h)
theorem cut_from {a : List Nat} {i : Int} (h : 0 ≤ i) : cutS (S a) (some i) none = S (a.drop i.toNat) := (C8.cutS_slice _ _ _).trans (slice_from h)
theorem join_dash_count : ∀ {ps : List (List Nat)}, (∀ p ∈ ps, 45 ∉ p) → (TL.joinL [45] ps).count 45 ≤ ps.length
  | [], _ => Nat.le_refl _
  | [p], h => by
    show p.count 45 ≤ 1
    rw [List.count_eq_zero_of_not_mem (h p List.mem_cons_self)]
    exact Nat.zero_le _
  | p :: q :: r, h => by
    have h2 := join_dash_count (ps := q :: r) fun x hx => h x (List.mem_cons_of_mem _ hx)
    show (p ++ ([45] ++ TL.joinL [45] (q :: r))).count 45 ≤ (q :: r).length + 1
    rw [List.count_append, List.count_append, List.count_eq_zero_of_not_mem (h p List.mem_cons_self)]
    have e : [45].count 45 = 1 := rfl
    omega
theorem join_blank_count {n : Nat} : ∀ {ps : List (List Nat)}, (∀ p ∈ ps, p.count 45 ≤ n) → (TL.joinL [32] ps).count 45 ≤ ps.length * n
  | [], _ => Nat.zero_le _
  | [p], h => by
    show p.count 45 ≤ 1 * n
    have := h p List.mem_cons_self
    omega
  | p :: q :: r, h => by
    have h1 := h p List.mem_cons_self
    have h2 := join_blank_count (n := n) (ps := q :: r) fun x hx => h x (List.mem_cons_of_mem _ hx)
    show (p ++ ([32] ++ TL.joinL [32] (q :: r))).count 45 ≤ ((q :: r).length + 1) * n
    rw [List.count_append, List.count_append, Nat.add_mul]
    have e : [32].count 45 = 0 := rfl
    omega
/-- a line of a book -/
structure LineOk (a : List Nat) : Prop where
  len : a.length ≤ 400
  dash : a.count 45 ≤ 50
  low : ∀ c ∈ a, c < 128
theorem book_line {m : Int} {b : List (List Int)} (hb : Book m b) (hm1 : 1 ≤ m) (hm : m ≤ 12) (hl : b.length ≤ 4) : LineOk (bkT b) := by
  have ht : ∀ t ∈ b, t.length ≤ 12 := fun t h => by
    have := (hb t h).1.len (by omega)
    omega
  refine ⟨?_, ?_, fun c hc => ?_⟩
  · have := joinL_len (s := 32) (ps := b.map tkT) (n := 60) fun p hp => by
      obtain ⟨t, h, rfl⟩ := List.mem_map.mp hp
      have h1 := tkT_len (t := t) fun x hx => by have := (hb t h).1.2 x hx; omega
      have h2 := ht t h
      omega
    rw [List.length_map] at this
    show (TL.joinL [32] (b.map tkT)).length ≤ 400
    omega
  · have := join_blank_count (n := 12) (ps := b.map tkT) fun p hp => by
      obtain ⟨t, h, rfl⟩ := List.mem_map.mp hp
      have h1 := join_dash_count (ps := t.map numC) fun p hp hm => by
        obtain ⟨i, _, rfl⟩ := List.mem_map.mp hp
        have := numC_digit i 45 hm
        omega
      rw [List.length_map] at h1
      have h2 := ht t h
      exact Nat.le_trans h1 h2
    rw [List.length_map] at this
    show (TL.joinL [32] (b.map tkT)).count 45 ≤ 50
    omega
  · rcases joinL_mem hc with h | ⟨p, hp, h⟩
    · omega
    · obtain ⟨t, _, rfl⟩ := List.mem_map.mp hp
      rcases joinL_mem h with h | ⟨q, hq, h⟩
      · omega
      · obtain ⟨i, _, rfl⟩ := List.mem_map.mp hq
        have := numC_digit i c h
        omega
theorem LineOk.txt {a : List Nat} (h : LineOk a) (i j : Nat) (hij : i ≤ j) (mid : List Nat) (h1 : mid.length ≤ 1) (h2 : ∀ c ∈ mid, c < 128) : TxtOk (a.take i ++ (mid ++ a.drop j)) := by
  have hl := h.len
  refine ⟨?_, ?_, fun c hc => ?_⟩
  · rw [List.length_append, List.length_append, List.length_take, List.length_drop]
    omega
  · rw [List.count_append, List.count_append]
    have e : a.count 45 = (a.take i).count 45 + (a.drop i).count 45 := by
      rw [← List.count_append, List.take_append_drop]
    have e2 : (a.drop j).count 45 ≤ (a.drop i).count 45 := by
      have : a.drop j = (a.drop i).drop (j - i) := by
        rw [List.drop_drop]
        congr 1
        omega
      rw [this]
      exact (List.drop_sublist _ _).count_le 45
    have e3 : mid.count 45 ≤ mid.length := List.count_le_length
    have := h.dash
    omega
  · rcases List.mem_append.mp hc with z | z
    · exact h.low c (List.mem_of_mem_take z)
    · rcases List.mem_append.mp z with z | z
      · exact h2 c z
      · exact h.low c (List.mem_of_mem_drop z)
def signL : List Nat := [48, 49, 50, 51, 52, 53, 54, 55, 56, 57, 45, 32, 45, 49, 97]
theorem sign_at {r : Int} (h0 : 0 ≤ r) (h1 : r < 15) : ∃ ch, signL[r.toNat]? = some ch ∧ ch < 128 := by
  have hl : r.toNat < signL.length := by show _ < 15; omega
  refine ⟨_, List.getElem?_eq_getElem hl, ?_⟩
  have all : signL.all (fun c => decide (c < 128)) = true := by decide +kernel
  exact of_decide_eq_true (List.all_eq_true.mp all _ (List.getElem_mem hl))
/-- what comes of reading a ticket -/
def tickD : Option (List Int) → D
  | none => .tup [.str "no text", .non]
  | some t => .tup [.str "told", tI t]
theorem ok_tick (o : Option (List Int)) : okD 3 (tickD o) = true := by
  cases o with
  | none => decide +kernel
  | some t =>
    show (PyData.strOk "told" && (okD 2 (tI t) && true)) = true
    rw [show okD 2 (tI t) = true from ok_tI 1 t]
    decide +kernel
theorem due_none {l : List (Option (List Int))} (h : none ∈ l) : (D.tup [.str "no text", .int (l.idxOf none : Nat)]) = dueD l := by
  unfold dueD
  rw [if_pos h]
theorem due_some {l : List (Option (List Int))} {b : List (List Int)} (h : l = b.map some) : (D.tup [.str "told", tII b]) = dueD l := by
  rw [h, due_all]
/-- the texts by hand that no ticket has -/
def badL : List (List Nat) := [[], [45], [49, 45], [45, 49], [49, 45, 45, 50], [50, 45, 49], [49, 45, 49], [48, 49], [49, 45, 49, 51], [48], [49, 32, 50], [49, 44, 50], [43, 49], [49, 45, 48, 50], [32, 49], [49, 32]]
theorem bad_none : ∀ a ∈ badL, tickOf 12 a = none := by
  have h : badL.all (fun a => decide (tickOf 12 a = none)) = true := by decide +kernel
  exact fun a ha => of_decide_eq_true (List.all_eq_true.mp h a ha)
theorem bad_len : ∀ a ∈ badL, a.length ≤ 900 := by
  have h : badL.all (fun a => decide (a.length ≤ 900)) = true := by decide +kernel
  exact fun a ha => of_decide_eq_true (List.all_eq_true.mp h a ha)
def oddL : List Nat := [49, 45, 50, 32, 120, 32, 48]
theorem odd_read : readL 12 oddL = [some [1, 2], none, none] := by decide +kernel
end My

namespace My
open PySem L2 Fx
/-! ### the text -/
def topS (i : Nat) : Stmt := PySem.Challenge.pw_suretickets_k40_texts.main.body.getD i (.Pass ⟨0, 0, 0, 0⟩)
abbrev s_is_whole : Stmt := topS 10
abbrev N_is_whole : List Str := ["thing", "least", "most"]
abbrev ps_is_whole : List Str := ["thing", "least", "most"]
abbrev lv_is_whole : Nat := 1
theorem sc_is_whole : FnScope N_is_whole ps_is_whole (defScope s_is_whole) := ⟨rfl, rfl, rfl, by decide +kernel, rfl, by decide +kernel, by decide +kernel⟩
instance nk_is_whole : NamesOk N_is_whole := ⟨by decide +kernel⟩
abbrev c_is_whole (P : Program) (w : World) (K : PySem.W.Frag) (mg : Str → Option Value) (base : Heap) (k : Nat) : SC := scOf P w K mg base N_is_whole s_is_whole k
abbrev s_is_ticket : Stmt := topS 11
abbrev N_is_ticket : List Str := ["lot", "thing", "number", "one", "other"]
abbrev ps_is_ticket : List Str := ["lot", "thing"]
abbrev lv_is_ticket : Nat := 2
theorem sc_is_ticket : FnScope N_is_ticket ps_is_ticket (defScope s_is_ticket) := ⟨rfl, rfl, rfl, by decide +kernel, rfl, by decide +kernel, by decide +kernel⟩
instance nk_is_ticket : NamesOk N_is_ticket := ⟨by decide +kernel⟩
abbrev c_is_ticket (P : Program) (w : World) (K : PySem.W.Frag) (mg : Str → Option Value) (base : Heap) (k : Nat) : SC := scOf P w K mg base N_is_ticket s_is_ticket k
abbrev s_ticket_text : Stmt := topS 14
abbrev N_ticket_text : List Str := ["ticket", "number"]
abbrev ps_ticket_text : List Str := ["ticket"]
abbrev lv_ticket_text : Nat := 1
theorem sc_ticket_text : FnScope N_ticket_text ps_ticket_text (defScope s_ticket_text) := ⟨rfl, rfl, rfl, by decide +kernel, rfl, by decide +kernel, by decide +kernel⟩
instance nk_ticket_text : NamesOk N_ticket_text := ⟨by decide +kernel⟩
abbrev c_ticket_text (P : Program) (w : World) (K : PySem.W.Frag) (mg : Str → Option Value) (base : Heap) (k : Nat) : SC := scOf P w K mg base N_ticket_text s_ticket_text k
abbrev s_ticket_of : Stmt := topS 15
abbrev N_ticket_of : List Str := ["lot", "text", "words", "sign", "word", "found"]
abbrev ps_ticket_of : List Str := ["lot", "text"]
abbrev lv_ticket_of : Nat := 3
theorem sc_ticket_of : FnScope N_ticket_of ps_ticket_of (defScope s_ticket_of) := ⟨rfl, rfl, rfl, by decide +kernel, rfl, by decide +kernel, by decide +kernel⟩
instance nk_ticket_of : NamesOk N_ticket_of := ⟨by decide +kernel⟩
abbrev c_ticket_of (P : Program) (w : World) (K : PySem.W.Frag) (mg : Str → Option Value) (base : Heap) (k : Nat) : SC := scOf P w K mg base N_ticket_of s_ticket_of k
abbrev s_read_ticket : Stmt := topS 16
abbrev N_read_ticket : List Str := ["lot", "text", "found"]
abbrev ps_read_ticket : List Str := ["lot", "text"]
abbrev lv_read_ticket : Nat := 4
theorem sc_read_ticket : FnScope N_read_ticket ps_read_ticket (defScope s_read_ticket) := ⟨rfl, rfl, rfl, by decide +kernel, rfl, by decide +kernel, by decide +kernel⟩
instance nk_read_ticket : NamesOk N_read_ticket := ⟨by decide +kernel⟩
abbrev c_read_ticket (P : Program) (w : World) (K : PySem.W.Frag) (mg : Str → Option Value) (base : Heap) (k : Nat) : SC := scOf P w K mg base N_read_ticket s_read_ticket k
abbrev s_book_text : Stmt := topS 17
abbrev N_book_text : List Str := ["book", "ticket"]
abbrev ps_book_text : List Str := ["book"]
abbrev lv_book_text : Nat := 2
theorem sc_book_text : FnScope N_book_text ps_book_text (defScope s_book_text) := ⟨rfl, rfl, rfl, by decide +kernel, rfl, by decide +kernel, by decide +kernel⟩
instance nk_book_text : NamesOk N_book_text := ⟨by decide +kernel⟩
abbrev c_book_text (P : Program) (w : World) (K : PySem.W.Frag) (mg : Str → Option Value) (base : Heap) (k : Nat) : SC := scOf P w K mg base N_book_text s_book_text k
abbrev s_read_book : Stmt := topS 18
abbrev N_read_book : List Str := ["lot", "text", "found", "at", "word", "ticket"]
abbrev ps_read_book : List Str := ["lot", "text"]
abbrev lv_read_book : Nat := 4
theorem sc_read_book : FnScope N_read_book ps_read_book (defScope s_read_book) := ⟨rfl, rfl, rfl, by decide +kernel, rfl, by decide +kernel, by decide +kernel⟩
instance nk_read_book : NamesOk N_read_book := ⟨by decide +kernel⟩
abbrev c_read_book (P : Program) (w : World) (K : PySem.W.Frag) (mg : Str → Option Value) (base : Heap) (k : Nat) : SC := scOf P w K mg base N_read_book s_read_book k
abbrev s_law_draw : Stmt := topS 20
abbrev N_law_draw : List Str := ["script", "town", "many", "at", "rest", "number"]
abbrev ps_law_draw : List Str := ["script", "town", "many"]
abbrev lv_law_draw : Nat := 1
theorem sc_law_draw : FnScope N_law_draw ps_law_draw (defScope s_law_draw) := ⟨rfl, rfl, rfl, by decide +kernel, rfl, by decide +kernel, by decide +kernel⟩
instance nk_law_draw : NamesOk N_law_draw := ⟨by decide +kernel⟩
abbrev c_law_draw (P : Program) (w : World) (K : PySem.W.Frag) (mg : Str → Option Value) (base : Heap) (k : Nat) : SC := scOf P w K mg base N_law_draw s_law_draw k
abbrev s_law_begun : Stmt := topS 21
abbrev N_law_begun : List Str := []
abbrev ps_law_begun : List Str := []
abbrev lv_law_begun : Nat := 1
theorem sc_law_begun : FnScope N_law_begun ps_law_begun (defScope s_law_begun) := ⟨rfl, rfl, rfl, by decide +kernel, rfl, by decide +kernel, by decide +kernel⟩
instance nk_law_begun : NamesOk N_law_begun := ⟨by decide +kernel⟩
abbrev c_law_begun (P : Program) (w : World) (K : PySem.W.Frag) (mg : Str → Option Value) (base : Heap) (k : Nat) : SC := scOf P w K mg base N_law_begun s_law_begun k
abbrev s_law_a_lot : Stmt := topS 22
abbrev N_law_a_lot : List Str := ["script", "town", "greatest", "many"]
abbrev ps_law_a_lot : List Str := ["script", "town", "greatest"]
abbrev lv_law_a_lot : Nat := 2
theorem sc_law_a_lot : FnScope N_law_a_lot ps_law_a_lot (defScope s_law_a_lot) := ⟨rfl, rfl, rfl, by decide +kernel, rfl, by decide +kernel, by decide +kernel⟩
instance nk_law_a_lot : NamesOk N_law_a_lot := ⟨by decide +kernel⟩
abbrev c_law_a_lot (P : Program) (w : World) (K : PySem.W.Frag) (mg : Str → Option Value) (base : Heap) (k : Nat) : SC := scOf P w K mg base N_law_a_lot s_law_a_lot k
abbrev s_law_a_row : Stmt := topS 23
abbrev N_law_a_row : List Str := ["script", "town", "many", "size", "left", "found", "turn"]
abbrev ps_law_a_row : List Str := ["script", "town", "many", "size"]
abbrev lv_law_a_row : Nat := 2
theorem sc_law_a_row : FnScope N_law_a_row ps_law_a_row (defScope s_law_a_row) := ⟨rfl, rfl, rfl, by decide +kernel, rfl, by decide +kernel, by decide +kernel⟩
instance nk_law_a_row : NamesOk N_law_a_row := ⟨by decide +kernel⟩
abbrev c_law_a_row (P : Program) (w : World) (K : PySem.W.Frag) (mg : Str → Option Value) (base : Heap) (k : Nat) : SC := scOf P w K mg base N_law_a_row s_law_a_row k
abbrev s_law_a_book : Stmt := topS 24
abbrev N_law_a_book : List Str := ["script", "town", "many", "greatest", "found", "turn"]
abbrev ps_law_a_book : List Str := ["script", "town", "many", "greatest"]
abbrev lv_law_a_book : Nat := 3
theorem sc_law_a_book : FnScope N_law_a_book ps_law_a_book (defScope s_law_a_book) := ⟨rfl, rfl, rfl, by decide +kernel, rfl, by decide +kernel, by decide +kernel⟩
instance nk_law_a_book : NamesOk N_law_a_book := ⟨by decide +kernel⟩
abbrev c_law_a_book (P : Program) (w : World) (K : PySem.W.Frag) (mg : Str → Option Value) (base : Heap) (k : Nat) : SC := scOf P w K mg base N_law_a_book s_law_a_book k
abbrev s_law_class : Stmt := topS 25
abbrev N_law_class : List Str := ["kept", "kinds"]
abbrev ps_law_class : List Str := ["kept"]
abbrev lv_law_class : Nat := 1
theorem sc_law_class : FnScope N_law_class ps_law_class (defScope s_law_class) := ⟨rfl, rfl, rfl, by decide +kernel, rfl, by decide +kernel, by decide +kernel⟩
instance nk_law_class : NamesOk N_law_class := ⟨by decide +kernel⟩
abbrev c_law_class (P : Program) (w : World) (K : PySem.W.Frag) (mg : Str → Option Value) (base : Heap) (k : Nat) : SC := scOf P w K mg base N_law_class s_law_class k
abbrev s_law_heard : Stmt := topS 26
abbrev N_law_heard : List Str := ["deed", "kept", "found", "e", "kind"]
abbrev ps_law_heard : List Str := ["deed"]
abbrev lv_law_heard : Nat := 2
theorem sc_law_heard : FnScope N_law_heard ps_law_heard (defScope s_law_heard) := ⟨rfl, rfl, rfl, by decide +kernel, rfl, by decide +kernel, by decide +kernel⟩
instance nk_law_heard : NamesOk N_law_heard := ⟨by decide +kernel⟩
abbrev c_law_heard (P : Program) (w : World) (K : PySem.W.Frag) (mg : Str → Option Value) (base : Heap) (k : Nat) : SC := scOf P w K mg base N_law_heard s_law_heard k
abbrev s_law_meant : Stmt := topS 27
abbrev N_law_meant : List Str := ["pair", "word", "parts", "good", "number", "part", "row"]
abbrev ps_law_meant : List Str := ["pair", "word"]
abbrev lv_law_meant : Nat := 1
theorem sc_law_meant : FnScope N_law_meant ps_law_meant (defScope s_law_meant) := ⟨rfl, rfl, rfl, by decide +kernel, rfl, by decide +kernel, by decide +kernel⟩
instance nk_law_meant : NamesOk N_law_meant := ⟨by decide +kernel⟩
abbrev c_law_meant (P : Program) (w : World) (K : PySem.W.Frag) (mg : Str → Option Value) (base : Heap) (k : Nat) : SC := scOf P w K mg base N_law_meant s_law_meant k
abbrev s_law_due : Stmt := topS 28
abbrev N_law_due : List Str := ["pair", "line", "some", "word"]
abbrev ps_law_due : List Str := ["pair", "line"]
abbrev lv_law_due : Nat := 2
theorem sc_law_due : FnScope N_law_due ps_law_due (defScope s_law_due) := ⟨rfl, rfl, rfl, by decide +kernel, rfl, by decide +kernel, by decide +kernel⟩
instance nk_law_due : NamesOk N_law_due := ⟨by decide +kernel⟩
abbrev c_law_due (P : Program) (w : World) (K : PySem.W.Frag) (mg : Str → Option Value) (base : Heap) (k : Nat) : SC := scOf P w K mg base N_law_due s_law_due k
abbrev s_law : Stmt := topS 29
abbrev N_law : List Str := ["script", "town", "k", "pair", "pages", "line", "number", "page", "j", "at", "sign", "other", "one", "due", "bad"]
abbrev ps_law : List Str := ["script"]
abbrev lv_law : Nat := 7
theorem sc_law : FnScope N_law ps_law (defScope s_law) := ⟨rfl, rfl, rfl, by decide +kernel, rfl, by decide +kernel, by decide +kernel⟩
instance nk_law : NamesOk N_law := ⟨by decide +kernel⟩
abbrev c_law (P : Program) (w : World) (K : PySem.W.Frag) (mg : Str → Option Value) (base : Heap) (k : Nat) : SC := scOf P w K mg base N_law s_law k
abbrev cL_law (P : Program) (w : World) (K : PySem.W.Frag) (mg : Str → Option Value) (base : Heap) (cd : Addr) (k : Nat) : SC := scOfL P w K mg base N_law s_law cd ("law" ++ ".<locals>.") k
abbrev q_law : Str := "law" ++ ".<locals>." ++ "<lambda>"
abbrev s_ini6 : Stmt := (C8.clsBody (topS 8)).getD 0 (.Pass ⟨0, 0, 0, 0⟩)
theorem sc_ini6 : FnScope ["self", "at"] ["self", "at"] (defScope s_ini6) := ⟨rfl, rfl, rfl, by decide +kernel, rfl, by decide +kernel, by decide +kernel⟩
structure Txt (K : PySem.W.Frag) (mg : Str → Option Value) : Prop where
  b_isinstance : mg "isinstance" = none
  b_int : mg "int" = none
  b_bool : mg "bool" = none
  b_all : mg "all" = none
  b_tuple : mg "tuple" = none
  b_zip : mg "zip" = none
  b_str : mg "str" = none
  b_len : mg "len" = none
  b_enumerate : mg "enumerate" = none
  b_range : mg "range" = none
  b_list : mg "list" = none
  b_sorted : mg "sorted" = none
  b_ValueError : mg "ValueError" = none
  b_set : mg "set" = none
  k_FIGURES : ∃ t, mg "FIGURES" = some (.str "0123456789" t)
  f_is_whole : ∃ fa fd, mg "is_whole" = some (.ref fa) ∧ Fun K "is_whole" "is_whole" s_is_whole fa fd ∧ Binds K fd ps_is_whole []
  f_is_ticket : ∃ fa fd, mg "is_ticket" = some (.ref fa) ∧ Fun K "is_ticket" "is_ticket" s_is_ticket fa fd ∧ Binds K fd ps_is_ticket []
  f_ticket_text : ∃ fa fd, mg "ticket_text" = some (.ref fa) ∧ Fun K "ticket_text" "ticket_text" s_ticket_text fa fd ∧ Binds K fd ps_ticket_text []
  f_ticket_of : ∃ fa fd, mg "ticket_of" = some (.ref fa) ∧ Fun K "ticket_of" "ticket_of" s_ticket_of fa fd ∧ Binds K fd ps_ticket_of []
  f_read_ticket : ∃ fa fd, mg "read_ticket" = some (.ref fa) ∧ Fun K "read_ticket" "read_ticket" s_read_ticket fa fd ∧ Binds K fd ps_read_ticket []
  f_book_text : ∃ fa fd, mg "book_text" = some (.ref fa) ∧ Fun K "book_text" "book_text" s_book_text fa fd ∧ Binds K fd ps_book_text []
  f_read_book : ∃ fa fd, mg "read_book" = some (.ref fa) ∧ Fun K "read_book" "read_book" s_read_book fa fd ∧ Binds K fd ps_read_book []
  f_law_draw : ∃ fa fd, mg "_law_draw" = some (.ref fa) ∧ Fun K "_law_draw" "_law_draw" s_law_draw fa fd ∧ Binds K fd ps_law_draw []
  f_law_begun : ∃ fa fd, mg "_law_begun" = some (.ref fa) ∧ Fun K "_law_begun" "_law_begun" s_law_begun fa fd ∧ Binds K fd ps_law_begun []
  f_law_a_lot : ∃ fa fd, mg "_law_a_lot" = some (.ref fa) ∧ Fun K "_law_a_lot" "_law_a_lot" s_law_a_lot fa fd ∧ Binds K fd ps_law_a_lot []
  f_law_a_row : ∃ fa fd, mg "_law_a_row" = some (.ref fa) ∧ Fun K "_law_a_row" "_law_a_row" s_law_a_row fa fd ∧ Binds K fd ps_law_a_row []
  f_law_a_book : ∃ fa fd, mg "_law_a_book" = some (.ref fa) ∧ Fun K "_law_a_book" "_law_a_book" s_law_a_book fa fd ∧ Binds K fd ps_law_a_book []
  f_law_class : ∃ fa fd, mg "_law_class" = some (.ref fa) ∧ Fun K "_law_class" "_law_class" s_law_class fa fd ∧ Binds K fd ps_law_class []
  f_law_heard : ∃ fa fd, mg "_law_heard" = some (.ref fa) ∧ Fun K "_law_heard" "_law_heard" s_law_heard fa fd ∧ Binds K fd ps_law_heard []
  f_law_meant : ∃ fa fd, mg "_law_meant" = some (.ref fa) ∧ Fun K "_law_meant" "_law_meant" s_law_meant fa fd ∧ Binds K fd ps_law_meant []
  f_law_due : ∃ fa fd, mg "_law_due" = some (.ref fa) ∧ Fun K "_law_due" "_law_due" s_law_due fa fd ∧ Binds K fd ps_law_due []
  f_law : ∃ fa fd, mg "law" = some (.ref fa) ∧ Fun K "law" "law" s_law fa fd ∧ Binds K fd ps_law []
end My

namespace My
open PySem L2 Fx
section
variable {P : Program} {w : World} {K : PySem.W.Frag} {mg : Str → Option Value} {base : Heap}
def A_is_whole : ASp := fun as M Post => ∃ (d : D) (lo hi : Int), as = [.dat d, .dat (.int lo), .dat (.int hi)] ∧ Post (.dat (.bl (wholeD lo hi d))) M
theorem d_is_whole (T : Txt K mg) : DefOk P w K mg base lv_is_whole "is_whole" s_is_whole ps_is_whole (spOf K ps_is_whole.length A_is_whole) := by
  obtain ⟨fa, fd, hm, F, hb⟩ := T.f_is_whole
  refine ⟨fa, fd, hm, F, hb, fn_mk F sc_is_whole fun as M Post hl hA => ?_⟩
  obtain ⟨d, lo, hi, rfl, q⟩ := hA
  show Run (c_is_whole P w K mg base _) [some (.dat d), some (.dat (.int lo)), some (.dat (.int hi))] M _ _
  refine r_one (s_ret (x_and (x_isi rfl T.b_isinstance rfl T.b_int PyProof.Rows.boot_int ?_ (fun _ => rfl))))
  refine x_v rfl (by first | exact Or.inl rfl | exact Or.inr (Or.inl rfl) | exact Or.inr (Or.inr rfl)) ?_
  refine ⟨fun j e => (by cases e), fun _ e => (by cases e), _, kit_int d, _, rfl, fun h => ?_, fun h => ?_⟩
  · refine x_and (x_not (x_isi rfl T.b_isinstance rfl T.b_bool PyProof.Rows.boot_bool ?_ (fun _ => rfl)))
    refine x_v rfl (by first | exact Or.inl rfl | exact Or.inr (Or.inl rfl) | exact Or.inr (Or.inr rfl)) ?_
    cases d with
    | int i =>
      refine ⟨fun j e => (by cases e), fun _ e => (by cases e), false, (by kernel_rfl), false, rfl, true, rfl, fun _ => ?_, fun h => by cases h⟩
      refine x_one (x_chain ?_ (by with_unfolding_all rfl))
      repeat (first | refine x_int ?_ | (refine x_v rfl (by first | exact Or.inl rfl | exact Or.inr (Or.inl rfl) | exact Or.inr (Or.inr rfl)) ?_) | (first | refine b_add ?_ | refine b_sub ?_ | refine b_mul (by first | omega | (constructor <;> omega) | exact Or.inl ⟨by omega, by omega⟩ | exact Or.inr ⟨by omega, by omega⟩) ?_ | refine b_div (by first | omega | (constructor <;> omega) | exact Or.inl ⟨by omega, by omega⟩ | exact Or.inr ⟨by omega, by omega⟩) ?_ | refine b_mod (by first | omega | (constructor <;> omega) | exact Or.inl ⟨by omega, by omega⟩ | exact Or.inr ⟨by omega, by omega⟩) ?_ | refine b_strs (by first | omega | (constructor <;> omega) | exact Or.inl ⟨by omega, by omega⟩ | exact Or.inr ⟨by omega, by omega⟩) ?_ | refine b_catT (by first | exact Nat.le_of_ble_eq_true rfl | decide | (simp; done) | (simp <;> omega)) ?_ | refine c_lt ?_ | refine c_le ?_ | refine c_gt ?_ | refine c_ge ?_ | refine c_eqI ?_ | refine c_neI ?_ | refine c_is ?_ | refine c_isnot ?_ | refine c_eqB ?_ | refine c_neB ?_ | refine c_eqS ?_ | refine c_neS ?_ | refine b_iadd ?_ | refine b_isub ?_ | refine b_imul (by first | omega | (constructor <;> omega) | exact Or.inl ⟨by omega, by omega⟩ | exact Or.inr ⟨by omega, by omega⟩) ?_) | refine x_non ?_ | refine x_str ?_ | refine x_bl ?_ | refine x_bin ?_ | refine x_cmp ?_ (by rfl) | refine t_cmp ?_ (by rfl) | refine t_chain ?_ (by with_unfolding_all rfl) | refine x_chain ?_ (by with_unfolding_all rfl) | refine t_not ?_ | refine x_neg ?_ | refine x_if ?_ | refine a_cons ?_ (fun _ => rfl) | refine a_nil ?_ | refine x_tup ?_ | refine x_ix ?_ (fun _ _ => rfl) | refine ix_tup rfl ?_ | refine dats_ex (by first | exact Nat.le_of_ble_eq_true rfl | decide | (simp; done) | (simp <;> omega)) ?_ | refine r_cons ?_ | refine r_nil ?_ | refine s_ret ?_ | refine s_if ?_ | (refine s_st (by first | exact Or.inl rfl | exact Or.inr rfl) (by first | exact Or.inl rfl | exact Or.inr rfl) ?_ (fun _ => rfl)) | (refine s_ag (by first | exact Or.inl rfl | exact Or.inr rfl) (by first | exact Or.inl rfl | exact Or.inr rfl) rfl ?_) | refine s_expr ?_ (fun _ => rfl))
      refine ⟨fun h => ?_, fun h => ?_⟩
      · repeat (first | refine x_int ?_ | (refine x_v rfl (by first | exact Or.inl rfl | exact Or.inr (Or.inl rfl) | exact Or.inr (Or.inr rfl)) ?_) | (first | refine b_add ?_ | refine b_sub ?_ | refine b_mul (by first | omega | (constructor <;> omega) | exact Or.inl ⟨by omega, by omega⟩ | exact Or.inr ⟨by omega, by omega⟩) ?_ | refine b_div (by first | omega | (constructor <;> omega) | exact Or.inl ⟨by omega, by omega⟩ | exact Or.inr ⟨by omega, by omega⟩) ?_ | refine b_mod (by first | omega | (constructor <;> omega) | exact Or.inl ⟨by omega, by omega⟩ | exact Or.inr ⟨by omega, by omega⟩) ?_ | refine b_strs (by first | omega | (constructor <;> omega) | exact Or.inl ⟨by omega, by omega⟩ | exact Or.inr ⟨by omega, by omega⟩) ?_ | refine b_catT (by first | exact Nat.le_of_ble_eq_true rfl | decide | (simp; done) | (simp <;> omega)) ?_ | refine c_lt ?_ | refine c_le ?_ | refine c_gt ?_ | refine c_ge ?_ | refine c_eqI ?_ | refine c_neI ?_ | refine c_is ?_ | refine c_isnot ?_ | refine c_eqB ?_ | refine c_neB ?_ | refine c_eqS ?_ | refine c_neS ?_ | refine b_iadd ?_ | refine b_isub ?_ | refine b_imul (by first | omega | (constructor <;> omega) | exact Or.inl ⟨by omega, by omega⟩ | exact Or.inr ⟨by omega, by omega⟩) ?_) | refine x_non ?_ | refine x_str ?_ | refine x_bl ?_ | refine x_bin ?_ | refine x_cmp ?_ (by rfl) | refine t_cmp ?_ (by rfl) | refine t_chain ?_ (by with_unfolding_all rfl) | refine x_chain ?_ (by with_unfolding_all rfl) | refine t_not ?_ | refine x_neg ?_ | refine x_if ?_ | refine a_cons ?_ (fun _ => rfl) | refine a_nil ?_ | refine x_tup ?_ | refine x_ix ?_ (fun _ _ => rfl) | refine ix_tup rfl ?_ | refine dats_ex (by first | exact Nat.le_of_ble_eq_true rfl | decide | (simp; done) | (simp <;> omega)) ?_ | refine r_cons ?_ | refine r_nil ?_ | refine s_ret ?_ | refine s_if ?_ | (refine s_st (by first | exact Or.inl rfl | exact Or.inr rfl) (by first | exact Or.inl rfl | exact Or.inr rfl) ?_ (fun _ => rfl)) | (refine s_ag (by first | exact Or.inl rfl | exact Or.inr rfl) (by first | exact Or.inl rfl | exact Or.inr rfl) rfl ?_) | refine s_expr ?_ (fun _ => rfl))
        have e : wholeD lo hi (.int i) = decide (i ≤ hi) := by
          show (decide (lo ≤ i) && decide (i ≤ hi)) = _
          rw [h, Bool.true_and]
        rw [e] at q
        exact fin_same q
      · have e : wholeD lo hi (.int i) = false := by
          show (decide (lo ≤ i) && decide (i ≤ hi)) = _
          rw [h, Bool.false_and]
        rw [e] at q
        exact fin_same q
    | bl b =>
      refine ⟨fun j e => (by cases e), fun _ e => (by cases e), true, (by kernel_rfl), true, rfl, false, rfl, fun h => (by cases h), fun _ => fin_same q⟩
    | non => cases h
    | str x => cases h
    | tup ds => cases h
    | lis ds => cases h
  · cases d with
    | int i => cases h
    | bl b => cases h
    | non => exact fin_same q
    | str x => exact fin_same q
    | tup ds => exact fin_same q
    | lis ds => exact fin_same q
end
end My

namespace My
open PySem L2 Fx
section
variable {P : Program} {w : World} {K : PySem.W.Frag} {mg : Str → Option Value} {base : Heap}
def A_is_ticket : ASp := fun as M Post => ∃ (m : Int) (l : List D) (a : AV), as = [.dat (.tup (.int m :: l)), a] ∧ ((∃ d, a = .dat d ∧ okD 5 d = true ∧ (∀ ds, d = .tup ds → ds.length ≤ 1000) ∧ Post (.dat (.bl (ticketD m d))) M) ∨ ∃ ds, a = .ls ds ∧ Post (.dat (.bl false)) M)
theorem d_is_ticket (T : Txt K mg) : DefOk P w K mg base lv_is_ticket "is_ticket" s_is_ticket ps_is_ticket (spOf K ps_is_ticket.length A_is_ticket) := by
  obtain ⟨fa, fd, hm, F, hb⟩ := T.f_is_ticket
  refine ⟨fa, fd, hm, F, hb, fn_mk F sc_is_ticket fun as M Post hl hA => ?_⟩
  obtain ⟨m, l, a, rfl, hA⟩ := hA
  rcases hA with ⟨d, rfl, hd, hdl, q⟩ | ⟨ds, rfl, q⟩
  · show Run (c_is_ticket P w K mg base _) [some (.dat (.tup (.int m :: l))), some (.dat d), none, none, none] M _ _
    refine r_cons (s_if (t_W (w_or (t_not (t_val (x_isi rfl T.b_isinstance rfl T.b_tuple PyProof.Rows.boot_tuple ?_ (fun _ => rfl)) (fun _ _ => rfl))))))
    refine x_v rfl (by first | exact Or.inl rfl | exact Or.inr (Or.inl rfl) | exact Or.inr (Or.inr rfl)) ?_
    refine ⟨fun j e => (by cases e), fun _ e => (by cases e), _, kit_tuple d, _, rfl, ?_, ?_⟩
    · intro h
      refine ⟨fun _ => ?_, fun h => by cases h⟩
      refine r_one (s_ret (x_bl ?_))
      cases d with
      | tup ds => cases h
      | non => exact fin_same q
      | bl b => exact fin_same q
      | int i => exact fin_same q
      | str x => exact fin_same q
      | lis x => exact fin_same q
    · intro h
      cases d with
      | non => cases h
      | bl b => cases h
      | int i => cases h
      | str x => cases h
      | lis x => cases h
      | tup ds =>
      have hdl2 : ds.length ≤ 1000 := hdl ds rfl
      refine w_or (t_cmp ?_ (by rfl))
      refine x_v rfl (by first | exact Or.inl rfl | exact Or.inr (Or.inl rfl) | exact Or.inr (Or.inr rfl)) ?_
      refine x_tup (a_nil (dats_ex (by decide) ?_))
      refine c_eqNilT 4 hd ?_
      refine ⟨fun h => ?_, fun h => ?_⟩
      · refine ⟨fun _ => ?_, fun h => by cases h⟩
        refine r_one (s_ret (x_bl ?_))
        have e : ticketD m (.tup ds) = false := by
          show (!ds.isEmpty && _ && _) = false
          rw [h]; rfl
        rw [e] at q
        exact fin_same q
      · refine w_or1 (t_not (t_val ?_ (fun _ _ => rfl)))
        refine x_blt rfl T.b_all PyProof.Rows.boot_all ?_ (fun _ => rfl) (fun _ => rfl)
        refine a_cons ?_ (fun _ => rfl)
        refine x_F (f_lcP [("number", 2)] (fun d : D => .bl (wholeD 1 m d)) (fun _ => true) (blkOk_by (by kernel_rfl)) nk_is_ticket.nd (i_seq ?_) (fun _ _ => rfl))
        refine x_v rfl (by first | exact Or.inl rfl | exact Or.inr (Or.inl rfl) | exact Or.inr (Or.inr rfl)) ?_
        refine ⟨_, isS_tup, ds, id, (List.map_id ds).symm, by omega, fun j e => (by cases e), fun t ht => ?_, ?_⟩
        · refine lt_n (by first | exact List.mem_cons_self | exact List.mem_cons_of_mem _ List.mem_cons_self | (simp; done)) (by first | exact Or.inl rfl | exact Or.inr rfl) (by first | exact Or.inl rfl | exact Or.inr rfl) ?_
          refine ts_nil ⟨fun _ => ?_, fun h => by cases h⟩
          refine x_call (d_is_whole T) (Nat.le_of_ble_eq_true rfl) rfl ?_ (fun _ => rfl) (fun _ => rfl)
          refine a_cons ?_ (fun _ => rfl)
          refine x_v rfl (by first | exact Or.inl rfl | exact Or.inr (Or.inl rfl) | exact Or.inr (Or.inr rfl)) ?_
          refine a_cons (x_int ?_) (fun _ => rfl)
          refine a_cons (x_ix ?_ (fun _ _ => rfl)) (fun _ => rfl)
          refine x_v rfl (by first | exact Or.inl rfl | exact Or.inr (Or.inl rfl) | exact Or.inr (Or.inr rfl)) ?_
          refine x_int ?_
          refine ix_tup (d := .int m) (atI_at (n := 0) rfl rfl) ?_
          exact a_nil ⟨rfl, t, 1, m, rfl, _, rfl, rfl, rfl, rfl⟩
        rw [List.filter_true', show (ds.map fun d : D => D.bl (wholeD 1 m d)) = (ds.map (wholeD 1 m)).map D.bl by rw [List.map_map]; rfl]
        refine a_nil (ca_all isL_ls ?_)
        have eall : (ds.map (wholeD 1 m)).all (fun b => b) = ds.all (wholeD 1 m) := by rw [List.all_map]; rfl
        rw [eall]
        refine ⟨_, rfl, fun h2 => ?_, fun h2 => ?_⟩
        · have h3 : ds.all (wholeD 1 m) = false := by simpa using h2
          refine r_one (s_ret (x_bl ?_))
          have e : ticketD m (.tup ds) = false := by
            show (!ds.isEmpty && ds.all (wholeD 1 m) && _) = false
            rw [h3]; simp
          rw [e] at q
          exact fin_same q
        · have h3 : ds.all (wholeD 1 m) = true := by simpa using h2
          obtain ⟨eds, _⟩ := ints_whole h3
          generalize hns : intsOf ds = ns at eds
          subst eds
          rw [List.length_map] at hdl2
          refine r_nil (r_one (s_ret ?_))
          refine x_blt rfl T.b_all PyProof.Rows.boot_all ?_ (fun _ => rfl) (fun _ => rfl)
          refine a_cons ?_ (fun _ => rfl)
          refine x_F (f_lcP [("one", 3), ("other", 4)] (fun p : Int × Int => .bl (decide (p.1 < p.2))) (fun _ => true) (blkOk_by (by kernel_rfl)) nk_is_ticket.nd (i_zipT T.b_zip rfl ?_ (fun _ => rfl) (fun _ => rfl)) (fun _ _ => rfl))
          refine a_cons ?_ (fun _ => rfl)
          refine x_v rfl (by first | exact Or.inl rfl | exact Or.inr (Or.inl rfl) | exact Or.inr (Or.inr rfl)) ?_
          refine a_cons ?_ (fun _ => rfl)
          refine x_slT ?_
          refine x_v rfl (by first | exact Or.inl rfl | exact Or.inr (Or.inl rfl) | exact Or.inr (Or.inr rfl)) ?_
          refine o_some (x_int ⟨1, rfl, o_none ⟨_, rfl, ?_⟩⟩)
          rw [show cutD (ns.map D.int) (some 1) none = (ns.map D.int).drop 1 from cut_lo _ 1]
          refine a_nil ⟨_, _, rfl, ?_⟩
          rw [zip_pairs]
          refine ⟨pairs ns, fun p => D.tup [.int p.1, .int p.2], rfl, ?_, fun j e => (by cases e), fun t ht => ?_, ?_⟩
          · rw [pairs_zip, List.length_zip]
            omega
          · refine lt_2 (by first | exact List.mem_cons_self | exact List.mem_cons_of_mem _ List.mem_cons_self | (simp; done)) (by first | exact List.mem_cons_self | exact List.mem_cons_of_mem _ List.mem_cons_self | (simp; done)) (by first | exact Or.inl rfl | exact Or.inr rfl) (by first | exact Or.inl rfl | exact Or.inr rfl) (by first | exact Or.inl rfl | exact Or.inr rfl) (by first | exact Or.inl rfl | exact Or.inr rfl) ?_
            refine ts_nil ⟨fun _ => ?_, fun h => by cases h⟩
            repeat (first | refine x_int ?_ | (refine x_v rfl (by first | exact Or.inl rfl | exact Or.inr (Or.inl rfl) | exact Or.inr (Or.inr rfl)) ?_) | (first | refine b_add ?_ | refine b_sub ?_ | refine b_mul (by first | omega | (constructor <;> omega) | exact Or.inl ⟨by omega, by omega⟩ | exact Or.inr ⟨by omega, by omega⟩) ?_ | refine b_div (by first | omega | (constructor <;> omega) | exact Or.inl ⟨by omega, by omega⟩ | exact Or.inr ⟨by omega, by omega⟩) ?_ | refine b_mod (by first | omega | (constructor <;> omega) | exact Or.inl ⟨by omega, by omega⟩ | exact Or.inr ⟨by omega, by omega⟩) ?_ | refine b_strs (by first | omega | (constructor <;> omega) | exact Or.inl ⟨by omega, by omega⟩ | exact Or.inr ⟨by omega, by omega⟩) ?_ | refine b_catT (by first | exact Nat.le_of_ble_eq_true rfl | decide | (simp; done) | (simp <;> omega)) ?_ | refine c_lt ?_ | refine c_le ?_ | refine c_gt ?_ | refine c_ge ?_ | refine c_eqI ?_ | refine c_neI ?_ | refine c_is ?_ | refine c_isnot ?_ | refine c_eqB ?_ | refine c_neB ?_ | refine c_eqS ?_ | refine c_neS ?_ | refine b_iadd ?_ | refine b_isub ?_ | refine b_imul (by first | omega | (constructor <;> omega) | exact Or.inl ⟨by omega, by omega⟩ | exact Or.inr ⟨by omega, by omega⟩) ?_) | refine x_non ?_ | refine x_str ?_ | refine x_bl ?_ | refine x_bin ?_ | refine x_cmp ?_ (by rfl) | refine t_cmp ?_ (by rfl) | refine t_chain ?_ (by with_unfolding_all rfl) | refine x_chain ?_ (by with_unfolding_all rfl) | refine t_not ?_ | refine x_neg ?_ | refine x_if ?_ | refine a_cons ?_ (fun _ => rfl) | refine a_nil ?_ | refine x_tup ?_ | refine x_ix ?_ (fun _ _ => rfl) | refine ix_tup rfl ?_ | refine dats_ex (by first | exact Nat.le_of_ble_eq_true rfl | decide | (simp; done) | (simp <;> omega)) ?_ | refine r_cons ?_ | refine r_nil ?_ | refine s_ret ?_ | refine s_if ?_ | (refine s_st (by first | exact Or.inl rfl | exact Or.inr rfl) (by first | exact Or.inl rfl | exact Or.inr rfl) ?_ (fun _ => rfl)) | (refine s_ag (by first | exact Or.inl rfl | exact Or.inr rfl) (by first | exact Or.inl rfl | exact Or.inr rfl) rfl ?_) | refine s_expr ?_ (fun _ => rfl))
            exact ⟨_, rfl, rfl, rfl, rfl⟩
          rw [List.filter_true', show ((pairs ns).map fun p : Int × Int => D.bl (decide (p.1 < p.2))) = ((pairs ns).map fun p => decide (p.1 < p.2)).map D.bl by rw [List.map_map]; rfl]
          refine a_nil (ca_all isL_ls ?_)
          have e : ticketD m (.tup (ns.map D.int)) = ((pairs ns).map fun p => decide (p.1 < p.2)).all (fun b => b) := by
            have e0 : (ns.map D.int).isEmpty = false := h
            show (!(ns.map D.int).isEmpty && (ns.map D.int).all (wholeD 1 m) && rises (intsOf (ns.map D.int))) = _
            rw [h3, ints_map, e0, List.all_map]
            rfl
          rw [e] at q
          exact fin_same q
  · show Run (c_is_ticket P w K mg base _) [some (.dat (.tup (.int m :: l))), some (.ls ds), none, none, none] M _ _
    refine r_cons (s_if (t_W (w_or (t_not (t_val (x_isi rfl T.b_isinstance rfl T.b_tuple PyProof.Rows.boot_tuple ?_ (fun _ => rfl)) (fun _ _ => rfl))))))
    refine x_v rfl (by first | exact Or.inl rfl | exact Or.inr (Or.inl rfl) | exact Or.inr (Or.inr rfl)) ?_
    refine ⟨fun j e => (by cases e), fun _ e => (by cases e), false, (by kernel_rfl), _, rfl, fun _ => ⟨fun _ => ?_, fun h => by cases h⟩, fun h => by cases h⟩
    exact r_one (s_ret (x_bl (fin_same q)))
end
end My

namespace My
open PySem L2 Fx
section
variable {P : Program} {w : World} {K : PySem.W.Frag} {mg : Str → Option Value} {base : Heap}
def A_ticket_text : ASp := fun as M Post => ∃ t : List Int, as = [.dat (tI t)] ∧ (∀ x ∈ t, 0 ≤ x ∧ x ≤ 1000) ∧ t.length ≤ 1000 ∧ Post (.dat (.str (SX.S (tkT t)))) M
theorem d_ticket_text (T : Txt K mg) : DefOk P w K mg base lv_ticket_text "ticket_text" s_ticket_text ps_ticket_text (spOf K ps_ticket_text.length A_ticket_text) := by
  obtain ⟨fa, fd, hm, F, hb⟩ := T.f_ticket_text
  refine ⟨fa, fd, hm, F, hb, fn_mk F sc_ticket_text fun as M Post hl hA => ?_⟩
  obtain ⟨t, rfl, ht, hlen, q⟩ := hA
  show Run (c_ticket_text P w K mg base _) [some (.dat (tI t)), none] M _ _
  refine r_one (s_ret (x_join (x_str ⟨_, rfl, ?_⟩) (fun _ => rfl) (fun _ => rfl) rfl))
  refine x_F (f_lcP [("number", 1)] (fun i : Int => D.str (SX.S (numC i))) (fun _ => true) (blkOk_by (by kernel_rfl)) nk_ticket_text.nd (i_seq ?_) (fun _ _ => rfl))
  refine x_v rfl (by first | exact Or.inl rfl | exact Or.inr (Or.inl rfl) | exact Or.inr (Or.inr rfl)) ?_
  refine ⟨_, isS_tup, t, D.int, rfl, by omega, fun k e => (by cases e), fun i hi => ?_, ?_⟩
  · refine lt_n (by first | exact List.mem_cons_self | exact List.mem_cons_of_mem _ List.mem_cons_self | (simp; done)) (by first | exact Or.inl rfl | exact Or.inr rfl) (by first | exact Or.inl rfl | exact Or.inr rfl) ?_
    refine ts_nil ⟨fun _ => ?_, fun h => by cases h⟩
    refine x_ty rfl T.b_str PyProof.Rows.boot_str ?_ (fun _ => rfl) (fun _ => rfl)
    refine a_cons ?_ (fun _ => rfl)
    refine x_v rfl (by first | exact Or.inl rfl | exact Or.inr (Or.inl rfl) | exact Or.inr (Or.inr rfl)) ?_
    have h := ht i hi
    refine a_nil (ca_strI (log40 h.1 h.2) ⟨_, rfl, rfl, ?_, rfl⟩)
    exact congrArg D.str (num_str h.1)
  rw [List.filter_true']
  refine ⟨(t.map numC).map SX.S, ?_, ?_, ?_⟩
  · rw [List.map_map, List.map_map]
    exact isS_ls
  · have := sum_len (n := 4) (ys := (t.map numC).map SX.S) fun y hy => by
      obtain ⟨p, hp, rfl⟩ := List.mem_map.mp hy
      obtain ⟨i, hi, rfl⟩ := List.mem_map.mp hp
      rw [len_S]
      exact numC_len4 (ht i hi).2
    rw [List.length_map, List.length_map] at this
    rw [List.length_map, List.length_map]
    show _ + t.length * 1 ≤ _
    omega
  rw [join_dash]
  exact fin_same q
end
end My

namespace My
open PySem L2 Fx
section
variable {P : Program} {w : World} {K : PySem.W.Frag} {mg : Str → Option Value} {base : Heap}
def A_ticket_of : ASp := fun as M Post => ∃ (m d : Int) (a : List Nat), as = [.dat (tI [m, d]), .dat (.str (SX.S a))] ∧ a.length ≤ 900 ∧ Post (.dat (optD (tickOf m a))) M
theorem d_ticket_of (T : Txt K mg) : DefOk P w K mg base lv_ticket_of "ticket_of" s_ticket_of ps_ticket_of (spOf K ps_ticket_of.length A_ticket_of) := by
  obtain ⟨fa, fd, hm, F, hb⟩ := T.f_ticket_of
  obtain ⟨tk, hk⟩ := T.k_FIGURES
  refine ⟨fa, fd, hm, F, hb, fn_mk F sc_ticket_of fun as M Post hl hA => ?_⟩
  obtain ⟨m, d, a, rfl, hlen, q⟩ := hA
  show Run (c_ticket_of P w K mg base _) [some (.dat (tI [m, d])), some (.dat (.str (SX.S a))), none, none, none, none] M _ _
  refine r_cons ?_
  refine s_st (by first | exact Or.inl rfl | exact Or.inr rfl) (by first | exact Or.inl rfl | exact Or.inr rfl) ?_ (fun _ => rfl)
  refine x_F (f_split ?_ (fun _ => rfl) (fun _ => rfl) rfl)
  refine x_v rfl (by first | exact Or.inl rfl | exact Or.inr (Or.inl rfl) | exact Or.inr (Or.inr rfl)) ?_
  refine ⟨_, rfl, x_str ⟨_, rfl, rfl, by rw [len_S]; omega, ?_⟩⟩
  rw [split_dash, List.map_map]
  have hsl := spl_len 45 a []
  have hpl := part_len 45 a []
  unfold tickOf at q
  generalize TL.spl [45] 0 [] a = ws at *
  refine r_cons (s_if (t_not (t_val ?_ (fun _ _ => rfl))))
  refine x_blt rfl T.b_all PyProof.Rows.boot_all ?_ (fun _ => rfl) (fun _ => rfl)
  refine a_cons ?_ (fun _ => rfl)
  refine x_F (f_lcP [("word", 4)] (fun w : List Nat => D.bl (wordOk w)) (fun _ => true) (blkOk_by (by kernel_rfl)) nk_ticket_of.nd (i_seq ?_) (fun _ _ => rfl))
  refine x_v rfl (by first | exact Or.inl rfl | exact Or.inr (Or.inl rfl) | exact Or.inr (Or.inr rfl)) ?_
  refine ⟨_, isS_ls, ws, D.str ∘ SX.S, rfl, by omega, fun k e => (by cases e), fun w hw => ?_, ?_⟩
  · have hwl := hpl w hw
    refine lt_n (by first | exact List.mem_cons_self | exact List.mem_cons_of_mem _ List.mem_cons_self | (simp; done)) (by first | exact Or.inl rfl | exact Or.inr rfl) (by first | exact Or.inl rfl | exact Or.inr rfl) ?_
    refine ts_nil ⟨fun _ => ?_, fun h => by cases h⟩
    refine x_eq (.dat (.bl (wordOk w))) (x_and (x_chain ?_ (by with_unfolding_all rfl))) ⟨_, rfl, rfl, rfl, rfl⟩
    refine x_int ?_
    refine x_blt rfl T.b_len PySem.boot_len ?_ (fun _ => rfl) (fun _ => rfl)
    refine a_cons ?_ (fun _ => rfl)
    refine x_v rfl (by first | exact Or.inl rfl | exact Or.inr (Or.inl rfl) | exact Or.inr (Or.inr rfl)) ?_
    refine a_nil (ca_lenS (by show (SX.S w).length ≤ _; rw [len_S]; have : ([] : List Nat).length = 0 := rfl; omega) ?_)
    show CmpR _ _ _ (.dat (.int ((SX.S w).length : Nat))) _ _
    rw [len_S]
    refine c_le ⟨fun h1 => x_int (c_le ⟨_, rfl, fun h2 => ?_, fun h2 => ?_⟩), fun h1 => ⟨_, rfl, fun h => (by cases h), fun _ => ?_⟩⟩
    · have h1 := of_decide_eq_true h1
      have h2 := of_decide_eq_true h2
      have ew : wordOk w = w.all dig := by
        unfold wordOk
        rw [decide_eq_true (show 1 ≤ w.length by omega), decide_eq_true (show w.length ≤ 2 by omega)]
        rfl
      rw [ew]
      refine x_one ?_
      refine x_blt rfl T.b_all PyProof.Rows.boot_all ?_ (fun _ => rfl) (fun _ => rfl)
      refine a_cons ?_ (fun _ => rfl)
      refine x_F (f_lcP [("sign", 3)] (fun ch : Nat => D.bl (dig ch)) (fun _ => true) (blkOk_by (by kernel_rfl)) nk_ticket_of.nd (i_str ?_) (fun _ _ => rfl))
      refine x_v rfl (by first | exact Or.inl rfl | exact Or.inr (Or.inl rfl) | exact Or.inr (Or.inr rfl)) ?_
      refine ⟨_, rfl, w, fun ch => D.str ⟨#[ch]⟩, rfl, by omega, fun k e => (by cases e), fun ch hch => ?_, ?_⟩
      · refine lt_n (by first | exact List.mem_cons_self | exact List.mem_cons_of_mem _ List.mem_cons_self | (simp; done)) (by first | exact Or.inl rfl | exact Or.inr rfl) (by first | exact Or.inl rfl | exact Or.inr rfl) ?_
        refine ts_nil ⟨fun _ => ?_, fun h => by cases h⟩
        refine x_cmp ?_ (by rfl)
        refine x_v rfl (by first | exact Or.inl rfl | exact Or.inr (Or.inl rfl) | exact Or.inr (Or.inr rfl)) ?_
        refine x_glob (d := .str "0123456789") rfl hk (v := .str "0123456789") ⟨_, rfl⟩ (fun _ => rfl) ?_
        refine c_inSign ?_
        rw [dig_in]
        exact ⟨_, rfl, rfl, rfl, rfl⟩
      rw [List.filter_true']
      refine a_nil (ca_all (bs := w.map dig) (by rw [List.map_map]; exact isL_ls) ⟨?_, rfl⟩)
      rw [List.all_map]
      rfl
    · have h2 := of_decide_eq_false h2
      refine ⟨?_, rfl⟩
      unfold wordOk
      rw [decide_eq_false (show ¬ w.length ≤ 2 by omega), Bool.and_false, Bool.false_and]
    · have h1 := of_decide_eq_false h1
      refine ⟨?_, rfl⟩
      unfold wordOk
      rw [decide_eq_false (show ¬ 1 ≤ w.length by omega), Bool.false_and, Bool.false_and]
  rw [List.filter_true']
  refine a_nil (ca_all (bs := ws.map wordOk) (by rw [List.map_map]; exact isL_ls) ?_)
  rw [List.all_map, show (fun b => b) ∘ wordOk = wordOk from rfl]
  refine ⟨_, rfl, fun h => ?_, fun h => ?_⟩
  · rw [if_neg (by rw [show ws.all wordOk = false by simpa using h]; decide)] at q
    exact r_one (s_ret (x_non (fin_same q)))
  have hall : ws.all wordOk = true := by simpa using h
  rw [if_pos hall] at q
  have hok : ∀ w ∈ ws, wordOk w = true := fun w hw => List.all_eq_true.mp hall w hw
  refine r_nil (r_cons ?_)
  refine s_st (by first | exact Or.inl rfl | exact Or.inr rfl) (by first | exact Or.inl rfl | exact Or.inr rfl) ?_ (fun _ => rfl)
  refine x_ty rfl T.b_tuple PyProof.Rows.boot_tuple ?_ (fun _ => rfl) (fun _ => rfl)
  refine a_cons ?_ (fun _ => rfl)
  refine x_F (f_lcP [("word", 4)] (fun w : List Nat => D.int (valC w)) (fun _ => true) (blkOk_by (by kernel_rfl)) nk_ticket_of.nd (i_seq ?_) (fun _ _ => rfl))
  refine x_v rfl (by first | exact Or.inl rfl | exact Or.inr (Or.inl rfl) | exact Or.inr (Or.inr rfl)) ?_
  refine ⟨_, isS_ls, ws, D.str ∘ SX.S, rfl, by omega, fun k e => (by cases e), fun w hw => ?_, ?_⟩
  · have hwl := hpl w hw
    have e0 : ([] : List Nat).length = 0 := rfl
    refine lt_n (by first | exact List.mem_cons_self | exact List.mem_cons_of_mem _ List.mem_cons_self | (simp; done)) (by first | exact Or.inl rfl | exact Or.inr rfl) (by first | exact Or.inl rfl | exact Or.inr rfl) ?_
    refine ts_nil ⟨fun _ => ?_, fun h => by cases h⟩
    refine x_ty rfl T.b_int PyProof.Rows.boot_int ?_ (fun _ => rfl) (fun _ => rfl)
    refine a_cons ?_ (fun _ => rfl)
    refine x_v rfl (by first | exact Or.inl rfl | exact Or.inr (Or.inl rfl) | exact Or.inr (Or.inr rfl)) ?_
    refine a_nil (ca_intS (word_int (hok w hw)) ?_ ⟨_, rfl, rfl, rfl, rfl⟩)
    have h2 := hok w hw
    unfold wordOk at h2
    rw [Bool.and_eq_true, Bool.and_eq_true, decide_eq_true_eq, decide_eq_true_eq] at h2
    rw [len_S]
    omega
  rw [List.filter_true']
  refine a_nil (ca_tuple isS_ls ?_)
  rw [show ws.map (fun w => D.int (valC w)) = (ws.map valC).map D.int by rw [List.map_map]; rfl]
  have hr : ∀ x ∈ ws.map valC, 0 ≤ x ∧ x ≤ 1000 := fun x hx => by
    obtain ⟨w, hw, rfl⟩ := List.mem_map.mp hx
    exact val_le (hok w hw)
  have hrl : (ws.map valC).length ≤ 1000 := by rw [List.length_map]; omega
  generalize ws.map valC = r at *
  refine r_one (s_ret (x_if (t_W (w_and (t_val ?_ (fun _ _ => rfl))))))
  refine x_call (d_is_ticket T) (Nat.le_of_ble_eq_true rfl) rfl ?_ (fun _ => rfl) (fun _ => rfl)
  refine a_cons ?_ (fun _ => rfl)
  refine x_v rfl (by first | exact Or.inl rfl | exact Or.inr (Or.inl rfl) | exact Or.inr (Or.inr rfl)) ?_
  refine a_cons ?_ (fun _ => rfl)
  refine x_v rfl (by first | exact Or.inl rfl | exact Or.inr (Or.inl rfl) | exact Or.inr (Or.inr rfl)) ?_
  refine a_nil ⟨rfl, m, _, _, rfl, .inl ⟨_, rfl, ok_tI 4 r, fun ds e => by cases e; rw [List.length_map]; exact hrl, ?_⟩⟩
  refine ⟨_, rfl, fun h1 => w_and1 (t_cmp ?_ (by rfl)), fun h1 => ⟨fun h => (by cases h), fun _ => ?_⟩⟩
  · refine x_call (d_ticket_text T) (Nat.le_of_ble_eq_true rfl) rfl ?_ (fun _ => rfl) (fun _ => rfl)
    refine a_cons ?_ (fun _ => rfl)
    refine x_v rfl (by first | exact Or.inl rfl | exact Or.inr (Or.inl rfl) | exact Or.inr (Or.inr rfl)) ?_
    refine a_nil ⟨rfl, r, rfl, hr, hrl, ?_⟩
    refine x_v rfl (by first | exact Or.inl rfl | exact Or.inr (Or.inl rfl) | exact Or.inr (Or.inr rfl)) ?_
    refine c_eqS ?_
    rw [SX.S_beq_eq]
    refine ⟨fun h2 => ?_, fun h2 => ?_⟩
    · rw [show ticketD m (tI r) = true from h1, h2] at q
      refine x_v rfl (by first | exact Or.inl rfl | exact Or.inr (Or.inl rfl) | exact Or.inr (Or.inr rfl)) ?_
      exact fin_same q
    · rw [show ticketD m (tI r) = true from h1, h2] at q
      exact x_non (fin_same q)
  · rw [show ticketD m (tI r) = false from h1] at q
    exact x_non (fin_same q)
end
end My

namespace My
open PySem L2 Fx
section
variable {P : Program} {w : World} {K : PySem.W.Frag} {mg : Str → Option Value} {base : Heap}
def A_read_ticket (C6 : Addr) : ASpX := fun as M Post X => ∃ (m d : Int) (a : List Nat), as = [.dat (tI [m, d]), .dat (.str (SX.S a))] ∧ a.length ≤ 900 ∧ (tickOf m a = none → X C6 [("at", .non)] M) ∧ ∀ r, tickOf m a = some r → Post (.dat (tI r)) M
theorem d_read_ticket (T : Txt K mg) {cs : Nat → Addr} {TE : Addr} {rs : List Nat} [EX : Exs K mg cs TE rs] [TI : IniExcD K mg "NoText" (cs 6) "at"] : DefOkX P w K mg base lv_read_ticket "read_ticket" s_read_ticket ps_read_ticket (spOfX K ps_read_ticket.length (A_read_ticket (cs 6))) := by
  obtain ⟨fa, fd, hm, F, hb⟩ := T.f_read_ticket
  refine ⟨fa, fd, hm, F, hb, fn_mkX F sc_read_ticket fun as M Post X hl hA => ?_⟩
  obtain ⟨m, d, a, rfl, hlen, x6, q⟩ := hA
  show RunX (c_read_ticket P w K mg base _) [some (.dat (tI [m, d])), some (.dat (.str (SX.S a))), none] M _ _ _
  refine rx_cons ?_
  refine s_st (by first | exact Or.inl rfl | exact Or.inr rfl) (by first | exact Or.inl rfl | exact Or.inr rfl) ?_ (fun _ => rfl)
  refine x_call (d_ticket_of T) (Nat.le_of_ble_eq_true rfl) rfl ?_ (fun _ => rfl) (fun _ => rfl)
  refine a_cons ?_ (fun _ => rfl)
  refine x_v rfl (by first | exact Or.inl rfl | exact Or.inr (Or.inl rfl) | exact Or.inr (Or.inr rfl)) ?_
  refine a_cons ?_ (fun _ => rfl)
  refine x_v rfl (by first | exact Or.inl rfl | exact Or.inr (Or.inl rfl) | exact Or.inr (Or.inr rfl)) ?_
  refine a_nil ⟨rfl, m, d, a, rfl, hlen, ?_⟩
  refine rx_if (t_cmp ?_ (by rfl))
  refine x_v rfl (by first | exact Or.inl rfl | exact Or.inr (Or.inl rfl) | exact Or.inr (Or.inr rfl)) ?_
  refine x_non (c_is ?_)
  cases h : tickOf m a with
  | none =>
    refine ⟨fun _ => ?_, fun h => by cases h⟩
    exact rx_raiseN TI (Nat.le_of_ble_eq_true rfl) rfl (x6 h)
  | some r =>
    refine ⟨fun h => (by cases h), fun _ => rx_run (r_nil (rx_run (r_one (s_ret ?_))))⟩
    refine x_v rfl (by first | exact Or.inl rfl | exact Or.inr (Or.inl rfl) | exact Or.inr (Or.inr rfl)) ?_
    exact fin_same (q r h)
end
end My

namespace My
open PySem L2 Fx
section
variable {P : Program} {w : World} {K : PySem.W.Frag} {mg : Str → Option Value} {base : Heap}
def A_book_text : ASp := fun as M Post => ∃ b : List (List Int), as = [.dat (tII b)] ∧ (∀ t ∈ b, (∀ x ∈ t, 0 ≤ x ∧ x ≤ 1000) ∧ t.length ≤ 100) ∧ b.length ≤ 100 ∧ Post (.dat (.str (SX.S (bkT b)))) M
theorem d_book_text (T : Txt K mg) : DefOk P w K mg base lv_book_text "book_text" s_book_text ps_book_text (spOf K ps_book_text.length A_book_text) := by
  obtain ⟨fa, fd, hm, F, hb⟩ := T.f_book_text
  refine ⟨fa, fd, hm, F, hb, fn_mk F sc_book_text fun as M Post hl hA => ?_⟩
  obtain ⟨b, rfl, hb1, hlen, q⟩ := hA
  show Run (c_book_text P w K mg base _) [some (.dat (tII b)), none] M _ _
  refine r_one (s_ret (x_join (x_str ⟨_, rfl, ?_⟩) (fun _ => rfl) (fun _ => rfl) rfl))
  refine x_F (f_lcP [("ticket", 1)] (fun t : List Int => D.str (SX.S (tkT t))) (fun _ => true) (blkOk_by (by kernel_rfl)) nk_book_text.nd (i_seq ?_) (fun _ _ => rfl))
  refine x_v rfl (by first | exact Or.inl rfl | exact Or.inr (Or.inl rfl) | exact Or.inr (Or.inr rfl)) ?_
  refine ⟨_, isS_tup, b, tI, rfl, by omega, fun k e => (by cases e), fun t ht => ?_, ?_⟩
  · refine lt_n (by first | exact List.mem_cons_self | exact List.mem_cons_of_mem _ List.mem_cons_self | (simp; done)) (by first | exact Or.inl rfl | exact Or.inr rfl) (by first | exact Or.inl rfl | exact Or.inr rfl) ?_
    refine ts_nil ⟨fun _ => ?_, fun h => by cases h⟩
    refine x_call (d_ticket_text T) (Nat.le_of_ble_eq_true rfl) rfl ?_ (fun _ => rfl) (fun _ => rfl)
    refine a_cons ?_ (fun _ => rfl)
    refine x_v rfl (by first | exact Or.inl rfl | exact Or.inr (Or.inl rfl) | exact Or.inr (Or.inr rfl)) ?_
    have h := hb1 t ht
    exact a_nil ⟨rfl, t, rfl, h.1, by omega, _, rfl, rfl, rfl, rfl⟩
  rw [List.filter_true']
  refine ⟨(b.map tkT).map SX.S, ?_, ?_, ?_⟩
  · rw [List.map_map, List.map_map]
    exact isS_ls
  · have := sum_len (n := 500) (ys := (b.map tkT).map SX.S) fun y hy => by
      obtain ⟨p, hp, rfl⟩ := List.mem_map.mp hy
      obtain ⟨t, ht, rfl⟩ := List.mem_map.mp hp
      rw [len_S]
      have h1 := tkT_len fun x hx => ((hb1 t ht).1 x hx).2
      have h2 := (hb1 t ht).2
      omega
    rw [List.length_map, List.length_map] at this
    rw [List.length_map, List.length_map]
    show _ + b.length * 1 ≤ _
    omega
  rw [join_blank]
  exact fin_same q
end
end My

namespace My
open PySem L2 Fx
section
variable {P : Program} {w : World} {K : PySem.W.Frag} {mg : Str → Option Value} {base : Heap}
def A_read_book (C6 : Addr) : ASpX := fun as M Post X => ∃ (m d : Int) (a : List Nat), as = [.dat (tI [m, d]), .dat (.str (SX.S a))] ∧ m ≤ 99 ∧ a.length ≤ 900 ∧ (none ∈ readL m a → ∀ ex, X C6 [("at", .int ((readL m a).idxOf none : Nat))] (M ++ ex)) ∧ ∀ b : List (List Int), readL m a = b.map some → Post (.dat (tII b)) M
theorem d_read_book (T : Txt K mg) {cs : Nat → Addr} {TE : Addr} {rs : List Nat} [EX : Exs K mg cs TE rs] [TI : IniExcD K mg "NoText" (cs 6) "at"] : DefOkX P w K mg base lv_read_book "read_book" s_read_book ps_read_book (spOfX K ps_read_book.length (A_read_book (cs 6))) := by
  obtain ⟨fa, fd, hm, F, hb⟩ := T.f_read_book
  refine ⟨fa, fd, hm, F, hb, fn_mkX F sc_read_book fun as M Post X hl hA => ?_⟩
  obtain ⟨m, d, a, rfl, hm99, hlen, x6, q⟩ := hA
  show RunX (c_read_book P w K mg base _) [some (.dat (tI [m, d])), some (.dat (.str (SX.S a))), none, none, none, none] M _ _ _
  refine rx_cons ?_
  refine s_nw (by first | exact Or.inl rfl | exact Or.inr rfl) (by first | exact Or.inl rfl | exact Or.inr rfl) ?_ (fun _ => rfl)
  refine f_lst (a_nil (dats_ex (by decide) ?_))
  refine rx_for (i_enumL T.b_enumerate rfl ?_ (fun _ => rfl)) (fun _ _ => rfl)
  refine a_cons (x_eq (.ls ((wordsL a).map (D.str ∘ SX.S))) (x_if (t_tru ?_ (fun _ _ => rfl))) ?_) (fun _ => rfl)
  · refine x_v rfl (by first | exact Or.inl rfl | exact Or.inr (Or.inl rfl) | exact Or.inr (Or.inr rfl)) ?_
    refine ⟨_, ⟨by rw [len_S]; omega, rfl⟩, fun h => ?_, fun h => ?_⟩
    · refine x_F (f_split ?_ (fun _ => rfl) (fun _ => rfl) rfl)
      refine x_v rfl (by first | exact Or.inl rfl | exact Or.inr (Or.inl rfl) | exact Or.inr (Or.inr rfl)) ?_
      refine ⟨_, rfl, x_str ⟨_, rfl, rfl, by rw [len_S]; omega, ?_⟩⟩
      rw [split_blank, List.map_map]
      refine ⟨?_, rfl⟩
      unfold wordsL
      rw [if_neg (fun e => by rw [e] at h; cases h)]
    · refine x_F (f_lst (a_nil (dats_ex (by decide) ⟨?_, rfl⟩)))
      unfold wordsL
      rw [len_S] at h
      rw [if_pos (by
        cases a with
        | nil => rfl
        | cons _ _ => cases h)]
      rfl
  have hwl : (wordsL a).length ≤ a.length + 1 := by
    unfold wordsL
    split
    · exact Nat.zero_le _
    · exact spl_len 32 a []
  have hpl : ∀ p ∈ wordsL a, p.length ≤ 900 := fun p hp => by
    unfold wordsL at hp
    split at hp
    · cases hp
    · have := part_len 32 a [] p hp
      have e0 : ([] : List Nat).length = 0 := rfl
      omega
  have hrl : (readL m a).length = (wordsL a).length := List.length_map ..
  refine a_nil ⟨_, rfl, ?_⟩
  refine ⟨fun i δ M2 => ∃ (bs : List (List Int)) (z3 z4 z5 : Option AV), (readL m a).take i = bs.map some ∧ M2 = M ++ [.lst (bs.map tI)] ∧ bs.length ≤ i ∧ δ = [some (.dat (tI [m, d])), some (.dat (.str (SX.S a))), some (.mut M.length), z3, z4, z5], ⟨[], _, _, _, rfl, rfl, Nat.le_refl _, rfl⟩, fun i δ M2 _ k e => (by cases e), ?_, ?_⟩
  · rintro i dd δ M2 hi ⟨bs, z3, z4, z5, htk, rfl, hbl, rfl⟩
    obtain ⟨d', hd', rfl⟩ := enumD_get hi
    rw [List.getElem?_map] at hd'
    cases hw : (wordsL a)[i]? with
    | none => rw [hw] at hd'; cases hd'
    | some w =>
    rw [hw] at hd'
    cases hd'
    have hil := (List.getElem?_eq_some_iff.mp hw).1
    have hri : (readL m a)[i]? = some (meant m w) := by
      unfold readL
      rw [List.getElem?_map, hw]
      rfl
    refine gx_2 (by first | exact Or.inl rfl | exact Or.inr rfl) (by first | exact Or.inl rfl | exact Or.inr rfl) (by first | exact Or.inl rfl | exact Or.inr rfl) (by first | exact Or.inl rfl | exact Or.inr rfl) ?_
    refine rx_cons ?_
    refine s_st (by first | exact Or.inl rfl | exact Or.inr rfl) (by first | exact Or.inl rfl | exact Or.inr rfl) ?_ (fun _ => rfl)
    refine x_call (d_ticket_of T) (Nat.le_of_ble_eq_true rfl) rfl ?_ (fun _ => rfl) (fun _ => rfl)
    refine a_cons ?_ (fun _ => rfl)
    refine x_v rfl (by first | exact Or.inl rfl | exact Or.inr (Or.inl rfl) | exact Or.inr (Or.inr rfl)) ?_
    refine a_cons ?_ (fun _ => rfl)
    refine x_v rfl (by first | exact Or.inl rfl | exact Or.inr (Or.inl rfl) | exact Or.inr (Or.inr rfl)) ?_
    refine a_nil ⟨rfl, m, d, w, rfl, hpl w (List.mem_of_getElem? hw), ?_⟩
    rw [tick_meant hm99]
    refine rx_if (t_cmp ?_ (by rfl))
    refine x_v rfl (by first | exact Or.inl rfl | exact Or.inr (Or.inl rfl) | exact Or.inr (Or.inr rfl)) ?_
    refine x_non (c_is ?_)
    cases h : meant m w with
    | none =>
      refine ⟨fun _ => ?_, fun h => by cases h⟩
      rw [h] at hri
      obtain ⟨h1, h2⟩ := idx_first htk hri
      refine rx_raiseKD TI (Nat.le_of_ble_eq_true rfl) rfl ?_
      refine x_v rfl (by first | exact Or.inl rfl | exact Or.inr (Or.inl rfl) | exact Or.inr (Or.inr rfl)) ?_
      have := x6 h1 [.lst (bs.map tI)]
      rw [h2] at this
      exact ⟨_, rfl, this⟩
    | some t =>
      refine ⟨fun h => (by cases h), fun _ => rx_run (r_nil ?_)⟩
      rw [h] at hri
      refine rx_run (r_one (s_expr ?_ (fun _ => rfl)))
      refine x_lm PySem.F.slot_list_append PySem.F.type_list_append ?_ (fun _ => rfl) (fun _ => rfl) rfl (fun _ => rfl) (fun _ => rfl)
      refine x_v rfl (by first | exact Or.inl rfl | exact Or.inr (Or.inl rfl) | exact Or.inr (Or.inr rfl)) ?_
      refine ⟨M.length, _, rfl, get_push, ?_⟩
      refine a_cons ?_ (fun _ => rfl)
      refine x_v rfl (by first | exact Or.inl rfl | exact Or.inr (Or.inl rfl) | exact Or.inr (Or.inr rfl)) ?_
      refine a_nil (me_append get_push (by rw [List.length_map]; omega) ?_)
      rw [set_push]
      exact ⟨bs ++ [t], _, _, _, take_snoc htk hri, by rw [List.map_append]; rfl, by rw [List.length_append]; show bs.length + 1 ≤ i + 1; omega, rfl⟩
  rintro δ M2 ⟨bs, z3, z4, z5, htk, rfl, hbl, rfl⟩
  have ee : (enumD ((wordsL a).map (D.str ∘ SX.S))).length = (readL m a).length := by
    unfold enumD
    rw [List.length_map, List.length_zipIdx, List.length_map, hrl]
  rw [ee, List.take_length] at htk
  refine rx_run (r_one (s_ret ?_))
  refine x_ty rfl T.b_tuple PyProof.Rows.boot_tuple ?_ (fun _ => rfl) (fun _ => rfl)
  refine a_cons ?_ (fun _ => rfl)
  refine x_v rfl (by first | exact Or.inl rfl | exact Or.inr (Or.inl rfl) | exact Or.inr (Or.inr rfl)) ?_
  refine a_nil (ca_tuple (isS_mut get_push) ?_)
  exact fin_dat (q bs htk)
end
end My

namespace My
open PySem L2 Fx
section
variable {P : Program} {w : World} {K : PySem.W.Frag} {mg : Str → Option Value} {base : Heap}
def A_law_draw : ASp := fun as M Post => ∃ (ns : List Int) (j i : Nat) (m : Int), as = [.scr ns, .mut j, .dat (.int m)] ∧ ns.length ≤ 63 ∧ M[j]? = some (.town i) ∧ M[i]? = some .rests ∧ 0 < m ∧ m ≤ 1000000 ∧ ∀ r : Int, 0 ≤ r → r < m → Post (.dat (.int r)) M
theorem d_law_draw (T : Txt K mg) : DefOk P w K mg base lv_law_draw "_law_draw" s_law_draw ps_law_draw (spOf K ps_law_draw.length A_law_draw) := by
  obtain ⟨fa, fd, hm, F, hb⟩ := T.f_law_draw
  refine ⟨fa, fd, hm, F, hb, fn_mk F sc_law_draw fun as M Post hl hA => ?_⟩
  obtain ⟨ns, j, i, m, rfl, hn, hj, hi, hm, hm2, q⟩ := hA
  have q2 : ∀ r : Int, Fin M Post (.dat (.int (r % m))) M := fun r => fin_same (q _ (Int.emod_nonneg _ (by omega)) (Int.emod_lt_of_pos _ hm))
  show Run (c_law_draw P w K mg base _) [some (.scr ns), some (.mut j), some (.dat (.int m)), none, none, none] M _ _
  have rest2 : ∀ at_ r : Int, 0 ≤ at_ → at_ < 63 → Run (c_law_draw P w K mg base 0) [some (.scr ns), some (.mut j), some (.dat (.int m)), some (.dat (.int at_)), some (.dat (.int r)), none] M ((defBody s_law_draw).drop 3) { nx := fun _ M2 => Fin M Post (.dat .non) M2, rt := Fin M Post } := by
    intro at_ r h0 h1
    repeat (first | refine x_int ?_ | (refine x_v rfl (by first | exact Or.inl rfl | exact Or.inr (Or.inl rfl) | exact Or.inr (Or.inr rfl)) ?_) | (first | refine b_add ?_ | refine b_sub ?_ | refine b_mul (by first | omega | (constructor <;> omega) | exact Or.inl ⟨by omega, by omega⟩ | exact Or.inr ⟨by omega, by omega⟩) ?_ | refine b_div (by first | omega | (constructor <;> omega) | exact Or.inl ⟨by omega, by omega⟩ | exact Or.inr ⟨by omega, by omega⟩) ?_ | refine b_mod (by first | omega | (constructor <;> omega) | exact Or.inl ⟨by omega, by omega⟩ | exact Or.inr ⟨by omega, by omega⟩) ?_ | refine b_strs (by first | omega | (constructor <;> omega) | exact Or.inl ⟨by omega, by omega⟩ | exact Or.inr ⟨by omega, by omega⟩) ?_ | refine b_catT (by first | exact Nat.le_of_ble_eq_true rfl | decide | (simp; done) | (simp <;> omega)) ?_ | refine c_lt ?_ | refine c_le ?_ | refine c_gt ?_ | refine c_ge ?_ | refine c_eqI ?_ | refine c_neI ?_ | refine c_is ?_ | refine c_isnot ?_ | refine c_eqB ?_ | refine c_neB ?_ | refine c_eqS ?_ | refine c_neS ?_ | refine b_iadd ?_ | refine b_isub ?_ | refine b_imul (by first | omega | (constructor <;> omega) | exact Or.inl ⟨by omega, by omega⟩ | exact Or.inr ⟨by omega, by omega⟩) ?_) | refine x_non ?_ | refine x_str ?_ | refine x_bl ?_ | refine x_bin ?_ | refine x_cmp ?_ (by rfl) | refine t_cmp ?_ (by rfl) | refine t_chain ?_ (by with_unfolding_all rfl) | refine x_chain ?_ (by with_unfolding_all rfl) | refine t_not ?_ | refine x_neg ?_ | refine x_if ?_ | refine a_cons ?_ (fun _ => rfl) | refine a_nil ?_ | refine x_tup ?_ | refine x_ix ?_ (fun _ _ => rfl) | refine ix_tup rfl ?_ | refine dats_ex (by first | exact Nat.le_of_ble_eq_true rfl | decide | (simp; done) | (simp <;> omega)) ?_ | refine r_cons ?_ | refine r_nil ?_ | refine s_ret ?_ | refine s_if ?_ | (refine s_st (by first | exact Or.inl rfl | exact Or.inr rfl) (by first | exact Or.inl rfl | exact Or.inr rfl) ?_ (fun _ => rfl)) | (refine s_ag (by first | exact Or.inl rfl | exact Or.inr rfl) (by first | exact Or.inl rfl | exact Or.inr rfl) rfl ?_) | refine s_expr ?_ (fun _ => rfl))
    refine b_pow ⟨by decide, by decide, by decide⟩ ?_
    repeat (first | refine x_int ?_ | (refine x_v rfl (by first | exact Or.inl rfl | exact Or.inr (Or.inl rfl) | exact Or.inr (Or.inr rfl)) ?_) | (first | refine b_add ?_ | refine b_sub ?_ | refine b_mul (by first | omega | (constructor <;> omega) | exact Or.inl ⟨by omega, by omega⟩ | exact Or.inr ⟨by omega, by omega⟩) ?_ | refine b_div (by first | omega | (constructor <;> omega) | exact Or.inl ⟨by omega, by omega⟩ | exact Or.inr ⟨by omega, by omega⟩) ?_ | refine b_mod (by first | omega | (constructor <;> omega) | exact Or.inl ⟨by omega, by omega⟩ | exact Or.inr ⟨by omega, by omega⟩) ?_ | refine b_strs (by first | omega | (constructor <;> omega) | exact Or.inl ⟨by omega, by omega⟩ | exact Or.inr ⟨by omega, by omega⟩) ?_ | refine b_catT (by first | exact Nat.le_of_ble_eq_true rfl | decide | (simp; done) | (simp <;> omega)) ?_ | refine c_lt ?_ | refine c_le ?_ | refine c_gt ?_ | refine c_ge ?_ | refine c_eqI ?_ | refine c_neI ?_ | refine c_is ?_ | refine c_isnot ?_ | refine c_eqB ?_ | refine c_neB ?_ | refine c_eqS ?_ | refine c_neS ?_ | refine b_iadd ?_ | refine b_isub ?_ | refine b_imul (by first | omega | (constructor <;> omega) | exact Or.inl ⟨by omega, by omega⟩ | exact Or.inr ⟨by omega, by omega⟩) ?_) | refine x_non ?_ | refine x_str ?_ | refine x_bl ?_ | refine x_bin ?_ | refine x_cmp ?_ (by rfl) | refine t_cmp ?_ (by rfl) | refine t_chain ?_ (by with_unfolding_all rfl) | refine x_chain ?_ (by with_unfolding_all rfl) | refine t_not ?_ | refine x_neg ?_ | refine x_if ?_ | refine a_cons ?_ (fun _ => rfl) | refine a_nil ?_ | refine x_tup ?_ | refine x_ix ?_ (fun _ _ => rfl) | refine ix_tup rfl ?_ | refine dats_ex (by first | exact Nat.le_of_ble_eq_true rfl | decide | (simp; done) | (simp <;> omega)) ?_ | refine r_cons ?_ | refine r_nil ?_ | refine s_ret ?_ | refine s_if ?_ | (refine s_st (by first | exact Or.inl rfl | exact Or.inr rfl) (by first | exact Or.inl rfl | exact Or.inr rfl) ?_ (fun _ => rfl)) | (refine s_ag (by first | exact Or.inl rfl | exact Or.inr rfl) (by first | exact Or.inl rfl | exact Or.inr rfl) rfl ?_) | refine s_expr ?_ (fun _ => rfl))
    refine ⟨fun h => ?_, fun h => ?_⟩
    · refine r_cons (s_rput ?_ (fun _ => rfl))
      repeat (first | refine x_int ?_ | (refine x_v rfl (by first | exact Or.inl rfl | exact Or.inr (Or.inl rfl) | exact Or.inr (Or.inr rfl)) ?_) | (first | refine b_add ?_ | refine b_sub ?_ | refine b_mul (by first | omega | (constructor <;> omega) | exact Or.inl ⟨by omega, by omega⟩ | exact Or.inr ⟨by omega, by omega⟩) ?_ | refine b_div (by first | omega | (constructor <;> omega) | exact Or.inl ⟨by omega, by omega⟩ | exact Or.inr ⟨by omega, by omega⟩) ?_ | refine b_mod (by first | omega | (constructor <;> omega) | exact Or.inl ⟨by omega, by omega⟩ | exact Or.inr ⟨by omega, by omega⟩) ?_ | refine b_strs (by first | omega | (constructor <;> omega) | exact Or.inl ⟨by omega, by omega⟩ | exact Or.inr ⟨by omega, by omega⟩) ?_ | refine b_catT (by first | exact Nat.le_of_ble_eq_true rfl | decide | (simp; done) | (simp <;> omega)) ?_ | refine c_lt ?_ | refine c_le ?_ | refine c_gt ?_ | refine c_ge ?_ | refine c_eqI ?_ | refine c_neI ?_ | refine c_is ?_ | refine c_isnot ?_ | refine c_eqB ?_ | refine c_neB ?_ | refine c_eqS ?_ | refine c_neS ?_ | refine b_iadd ?_ | refine b_isub ?_ | refine b_imul (by first | omega | (constructor <;> omega) | exact Or.inl ⟨by omega, by omega⟩ | exact Or.inr ⟨by omega, by omega⟩) ?_) | refine x_non ?_ | refine x_str ?_ | refine x_bl ?_ | refine x_bin ?_ | refine x_cmp ?_ (by rfl) | refine t_cmp ?_ (by rfl) | refine t_chain ?_ (by with_unfolding_all rfl) | refine x_chain ?_ (by with_unfolding_all rfl) | refine t_not ?_ | refine x_neg ?_ | refine x_if ?_ | refine a_cons ?_ (fun _ => rfl) | refine a_nil ?_ | refine x_tup ?_ | refine dats_ex (by first | exact Nat.le_of_ble_eq_true rfl | decide | (simp; done) | (simp <;> omega)) ?_ | refine r_cons ?_ | refine r_nil ?_ | refine s_ret ?_ | refine s_if ?_ | (refine s_st (by first | exact Or.inl rfl | exact Or.inr rfl) (by first | exact Or.inl rfl | exact Or.inr rfl) ?_ (fun _ => rfl)) | (refine s_ag (by first | exact Or.inl rfl | exact Or.inr rfl) (by first | exact Or.inl rfl | exact Or.inr rfl) rfl ?_) | refine s_expr ?_ (fun _ => rfl))
      refine x_rests ?_
      repeat (first | refine x_int ?_ | (refine x_v rfl (by first | exact Or.inl rfl | exact Or.inr (Or.inl rfl) | exact Or.inr (Or.inr rfl)) ?_) | (first | refine b_add ?_ | refine b_sub ?_ | refine b_mul (by first | omega | (constructor <;> omega) | exact Or.inl ⟨by omega, by omega⟩ | exact Or.inr ⟨by omega, by omega⟩) ?_ | refine b_div (by first | omega | (constructor <;> omega) | exact Or.inl ⟨by omega, by omega⟩ | exact Or.inr ⟨by omega, by omega⟩) ?_ | refine b_mod (by first | omega | (constructor <;> omega) | exact Or.inl ⟨by omega, by omega⟩ | exact Or.inr ⟨by omega, by omega⟩) ?_ | refine b_strs (by first | omega | (constructor <;> omega) | exact Or.inl ⟨by omega, by omega⟩ | exact Or.inr ⟨by omega, by omega⟩) ?_ | refine b_catT (by first | exact Nat.le_of_ble_eq_true rfl | decide | (simp; done) | (simp <;> omega)) ?_ | refine c_lt ?_ | refine c_le ?_ | refine c_gt ?_ | refine c_ge ?_ | refine c_eqI ?_ | refine c_neI ?_ | refine c_is ?_ | refine c_isnot ?_ | refine c_eqB ?_ | refine c_neB ?_ | refine c_eqS ?_ | refine c_neS ?_ | refine b_iadd ?_ | refine b_isub ?_ | refine b_imul (by first | omega | (constructor <;> omega) | exact Or.inl ⟨by omega, by omega⟩ | exact Or.inr ⟨by omega, by omega⟩) ?_) | refine x_non ?_ | refine x_str ?_ | refine x_bl ?_ | refine x_bin ?_ | refine x_cmp ?_ (by rfl) | refine t_cmp ?_ (by rfl) | refine t_chain ?_ (by with_unfolding_all rfl) | refine x_chain ?_ (by with_unfolding_all rfl) | refine t_not ?_ | refine x_neg ?_ | refine x_if ?_ | refine a_cons ?_ (fun _ => rfl) | refine a_nil ?_ | refine x_tup ?_ | refine x_ix ?_ (fun _ _ => rfl) | refine ix_tup rfl ?_ | refine dats_ex (by first | exact Nat.le_of_ble_eq_true rfl | decide | (simp; done) | (simp <;> omega)) ?_ | refine r_cons ?_ | refine r_nil ?_ | refine s_ret ?_ | refine s_if ?_ | (refine s_st (by first | exact Or.inl rfl | exact Or.inr rfl) (by first | exact Or.inl rfl | exact Or.inr rfl) ?_ (fun _ => rfl)) | (refine s_ag (by first | exact Or.inl rfl | exact Or.inr rfl) (by first | exact Or.inl rfl | exact Or.inr rfl) rfl ?_) | refine s_expr ?_ (fun _ => rfl))
      refine ⟨j, i, rfl, hj, ?_⟩
      repeat (first | refine x_int ?_ | (refine x_v rfl (by first | exact Or.inl rfl | exact Or.inr (Or.inl rfl) | exact Or.inr (Or.inr rfl)) ?_) | (first | refine b_add ?_ | refine b_sub ?_ | refine b_mul (by first | omega | (constructor <;> omega) | exact Or.inl ⟨by omega, by omega⟩ | exact Or.inr ⟨by omega, by omega⟩) ?_ | refine b_div (by first | omega | (constructor <;> omega) | exact Or.inl ⟨by omega, by omega⟩ | exact Or.inr ⟨by omega, by omega⟩) ?_ | refine b_mod (by first | omega | (constructor <;> omega) | exact Or.inl ⟨by omega, by omega⟩ | exact Or.inr ⟨by omega, by omega⟩) ?_ | refine b_strs (by first | omega | (constructor <;> omega) | exact Or.inl ⟨by omega, by omega⟩ | exact Or.inr ⟨by omega, by omega⟩) ?_ | refine b_catT (by first | exact Nat.le_of_ble_eq_true rfl | decide | (simp; done) | (simp <;> omega)) ?_ | refine c_lt ?_ | refine c_le ?_ | refine c_gt ?_ | refine c_ge ?_ | refine c_eqI ?_ | refine c_neI ?_ | refine c_is ?_ | refine c_isnot ?_ | refine c_eqB ?_ | refine c_neB ?_ | refine c_eqS ?_ | refine c_neS ?_ | refine b_iadd ?_ | refine b_isub ?_ | refine b_imul (by first | omega | (constructor <;> omega) | exact Or.inl ⟨by omega, by omega⟩ | exact Or.inr ⟨by omega, by omega⟩) ?_) | refine x_non ?_ | refine x_str ?_ | refine x_bl ?_ | refine x_bin ?_ | refine x_cmp ?_ (by rfl) | refine t_cmp ?_ (by rfl) | refine t_chain ?_ (by with_unfolding_all rfl) | refine x_chain ?_ (by with_unfolding_all rfl) | refine t_not ?_ | refine x_neg ?_ | refine x_if ?_ | refine a_cons ?_ (fun _ => rfl) | refine a_nil ?_ | refine x_tup ?_ | refine x_ix ?_ (fun _ _ => rfl) | refine ix_tup rfl ?_ | refine dats_ex (by first | exact Nat.le_of_ble_eq_true rfl | decide | (simp; done) | (simp <;> omega)) ?_ | refine r_cons ?_ | refine r_nil ?_ | refine s_ret ?_ | refine s_if ?_ | (refine s_st (by first | exact Or.inl rfl | exact Or.inr rfl) (by first | exact Or.inl rfl | exact Or.inr rfl) ?_ (fun _ => rfl)) | (refine s_ag (by first | exact Or.inl rfl | exact Or.inr rfl) (by first | exact Or.inl rfl | exact Or.inr rfl) rfl ?_) | refine s_expr ?_ (fun _ => rfl))
      refine ⟨_, at_, i, rfl, rfl, rfl, hi, h0, h1, ?_⟩
      repeat (first | refine x_int ?_ | (refine x_v rfl (by first | exact Or.inl rfl | exact Or.inr (Or.inl rfl) | exact Or.inr (Or.inr rfl)) ?_) | (first | refine b_add ?_ | refine b_sub ?_ | refine b_mul (by first | omega | (constructor <;> omega) | exact Or.inl ⟨by omega, by omega⟩ | exact Or.inr ⟨by omega, by omega⟩) ?_ | refine b_div (by first | omega | (constructor <;> omega) | exact Or.inl ⟨by omega, by omega⟩ | exact Or.inr ⟨by omega, by omega⟩) ?_ | refine b_mod (by first | omega | (constructor <;> omega) | exact Or.inl ⟨by omega, by omega⟩ | exact Or.inr ⟨by omega, by omega⟩) ?_ | refine b_strs (by first | omega | (constructor <;> omega) | exact Or.inl ⟨by omega, by omega⟩ | exact Or.inr ⟨by omega, by omega⟩) ?_ | refine b_catT (by first | exact Nat.le_of_ble_eq_true rfl | decide | (simp; done) | (simp <;> omega)) ?_ | refine c_lt ?_ | refine c_le ?_ | refine c_gt ?_ | refine c_ge ?_ | refine c_eqI ?_ | refine c_neI ?_ | refine c_is ?_ | refine c_isnot ?_ | refine c_eqB ?_ | refine c_neB ?_ | refine c_eqS ?_ | refine c_neS ?_ | refine b_iadd ?_ | refine b_isub ?_ | refine b_imul (by first | omega | (constructor <;> omega) | exact Or.inl ⟨by omega, by omega⟩ | exact Or.inr ⟨by omega, by omega⟩) ?_) | refine x_non ?_ | refine x_str ?_ | refine x_bl ?_ | refine x_bin ?_ | refine x_cmp ?_ (by rfl) | refine t_cmp ?_ (by rfl) | refine t_chain ?_ (by with_unfolding_all rfl) | refine x_chain ?_ (by with_unfolding_all rfl) | refine t_not ?_ | refine x_neg ?_ | refine x_if ?_ | refine a_cons ?_ (fun _ => rfl) | refine a_nil ?_ | refine x_tup ?_ | refine x_ix ?_ (fun _ _ => rfl) | refine ix_tup rfl ?_ | refine dats_ex (by first | exact Nat.le_of_ble_eq_true rfl | decide | (simp; done) | (simp <;> omega)) ?_ | refine r_cons ?_ | refine r_nil ?_ | refine s_ret ?_ | refine s_if ?_ | (refine s_st (by first | exact Or.inl rfl | exact Or.inr rfl) (by first | exact Or.inl rfl | exact Or.inr rfl) ?_ (fun _ => rfl)) | (refine s_ag (by first | exact Or.inl rfl | exact Or.inr rfl) (by first | exact Or.inl rfl | exact Or.inr rfl) rfl ?_) | refine s_expr ?_ (fun _ => rfl))
      exact q2 r
    · refine r_nil (r_cons ?_)
      refine s_st (by first | exact Or.inl rfl | exact Or.inr rfl) (by first | exact Or.inl rfl | exact Or.inr rfl) ?_ (fun _ => rfl)
      refine x_bin (x_bin ?_)
      refine x_v rfl (by first | exact Or.inl rfl | exact Or.inr (Or.inl rfl) | exact Or.inr (Or.inr rfl)) ?_
      refine x_bin ?_
      refine x_int ?_
      refine x_count ?_
      refine x_v rfl (by first | exact Or.inl rfl | exact Or.inr (Or.inl rfl) | exact Or.inr (Or.inr rfl)) ?_
      refine ⟨j, i, rfl, hj, fun n => ?_⟩
      repeat (first | refine x_int ?_ | (refine x_v rfl (by first | exact Or.inl rfl | exact Or.inr (Or.inl rfl) | exact Or.inr (Or.inr rfl)) ?_) | (first | refine b_add ?_ | refine b_sub ?_ | refine b_mul (by first | omega | (constructor <;> omega) | exact Or.inl ⟨by omega, by omega⟩ | exact Or.inr ⟨by omega, by omega⟩) ?_ | refine b_div (by first | omega | (constructor <;> omega) | exact Or.inl ⟨by omega, by omega⟩ | exact Or.inr ⟨by omega, by omega⟩) ?_ | refine b_mod (by first | omega | (constructor <;> omega) | exact Or.inl ⟨by omega, by omega⟩ | exact Or.inr ⟨by omega, by omega⟩) ?_ | refine b_strs (by first | omega | (constructor <;> omega) | exact Or.inl ⟨by omega, by omega⟩ | exact Or.inr ⟨by omega, by omega⟩) ?_ | refine b_catT (by first | exact Nat.le_of_ble_eq_true rfl | decide | (simp; done) | (simp <;> omega)) ?_ | refine c_lt ?_ | refine c_le ?_ | refine c_gt ?_ | refine c_ge ?_ | refine c_eqI ?_ | refine c_neI ?_ | refine c_is ?_ | refine c_isnot ?_ | refine c_eqB ?_ | refine c_neB ?_ | refine c_eqS ?_ | refine c_neS ?_ | refine b_iadd ?_ | refine b_isub ?_ | refine b_imul (by first | omega | (constructor <;> omega) | exact Or.inl ⟨by omega, by omega⟩ | exact Or.inr ⟨by omega, by omega⟩) ?_) | refine x_non ?_ | refine x_str ?_ | refine x_bl ?_ | refine x_bin ?_ | refine x_cmp ?_ (by rfl) | refine t_cmp ?_ (by rfl) | refine t_chain ?_ (by with_unfolding_all rfl) | refine x_chain ?_ (by with_unfolding_all rfl) | refine t_not ?_ | refine x_neg ?_ | refine x_if ?_ | refine a_cons ?_ (fun _ => rfl) | refine a_nil ?_ | refine x_tup ?_ | refine x_ix ?_ (fun _ _ => rfl) | refine ix_tup rfl ?_ | refine dats_ex (by first | exact Nat.le_of_ble_eq_true rfl | decide | (simp; done) | (simp <;> omega)) ?_ | refine r_cons ?_ | refine r_nil ?_ | refine s_ret ?_ | refine s_if ?_ | (refine s_st (by first | exact Or.inl rfl | exact Or.inr rfl) (by first | exact Or.inl rfl | exact Or.inr rfl) ?_ (fun _ => rfl)) | (refine s_ag (by first | exact Or.inl rfl | exact Or.inr rfl) (by first | exact Or.inl rfl | exact Or.inr rfl) rfl ?_) | refine s_expr ?_ (fun _ => rfl))
      have b0 : 0 ≤ (r + 104729 * n) % 4294967291 := Int.emod_nonneg _ (by decide)
      have b1 : (r + 104729 * n) % 4294967291 < 4294967291 := Int.emod_lt_of_pos _ (by decide)
      generalize (r + 104729 * n) % 4294967291 = num at b0 b1
      refine b_pow ⟨by decide, by decide, by omega⟩ ?_
      repeat (first | refine x_int ?_ | (refine x_v rfl (by first | exact Or.inl rfl | exact Or.inr (Or.inl rfl) | exact Or.inr (Or.inr rfl)) ?_) | (first | refine b_add ?_ | refine b_sub ?_ | refine b_mul (by first | omega | (constructor <;> omega) | exact Or.inl ⟨by omega, by omega⟩ | exact Or.inr ⟨by omega, by omega⟩) ?_ | refine b_div (by first | omega | (constructor <;> omega) | exact Or.inl ⟨by omega, by omega⟩ | exact Or.inr ⟨by omega, by omega⟩) ?_ | refine b_mod (by first | omega | (constructor <;> omega) | exact Or.inl ⟨by omega, by omega⟩ | exact Or.inr ⟨by omega, by omega⟩) ?_ | refine b_strs (by first | omega | (constructor <;> omega) | exact Or.inl ⟨by omega, by omega⟩ | exact Or.inr ⟨by omega, by omega⟩) ?_ | refine b_catT (by first | exact Nat.le_of_ble_eq_true rfl | decide | (simp; done) | (simp <;> omega)) ?_ | refine c_lt ?_ | refine c_le ?_ | refine c_gt ?_ | refine c_ge ?_ | refine c_eqI ?_ | refine c_neI ?_ | refine c_is ?_ | refine c_isnot ?_ | refine c_eqB ?_ | refine c_neB ?_ | refine c_eqS ?_ | refine c_neS ?_ | refine b_iadd ?_ | refine b_isub ?_ | refine b_imul (by first | omega | (constructor <;> omega) | exact Or.inl ⟨by omega, by omega⟩ | exact Or.inr ⟨by omega, by omega⟩) ?_) | refine x_non ?_ | refine x_str ?_ | refine x_bl ?_ | refine x_bin ?_ | refine x_cmp ?_ (by rfl) | refine t_cmp ?_ (by rfl) | refine t_chain ?_ (by with_unfolding_all rfl) | refine x_chain ?_ (by with_unfolding_all rfl) | refine t_not ?_ | refine x_neg ?_ | refine x_if ?_ | refine a_cons ?_ (fun _ => rfl) | refine a_nil ?_ | refine x_tup ?_ | refine x_ix ?_ (fun _ _ => rfl) | refine ix_tup rfl ?_ | refine dats_ex (by first | exact Nat.le_of_ble_eq_true rfl | decide | (simp; done) | (simp <;> omega)) ?_ | refine r_cons ?_ | refine r_nil ?_ | refine s_ret ?_ | refine s_if ?_ | (refine s_st (by first | exact Or.inl rfl | exact Or.inr rfl) (by first | exact Or.inl rfl | exact Or.inr rfl) ?_ (fun _ => rfl)) | (refine s_ag (by first | exact Or.inl rfl | exact Or.inr rfl) (by first | exact Or.inl rfl | exact Or.inr rfl) rfl ?_) | refine s_expr ?_ (fun _ => rfl))
      have b2 : 0 ≤ num ^ (5 : Int).toNat % 4294967279 := Int.emod_nonneg _ (by decide)
      have b3 : num ^ (5 : Int).toNat % 4294967279 < 4294967279 := Int.emod_lt_of_pos _ (by decide)
      generalize num ^ (5 : Int).toNat % 4294967279 = num2 at b2 b3
      repeat (first | refine x_int ?_ | (refine x_v rfl (by first | exact Or.inl rfl | exact Or.inr (Or.inl rfl) | exact Or.inr (Or.inr rfl)) ?_) | (first | refine b_add ?_ | refine b_sub ?_ | refine b_mul (by first | omega | (constructor <;> omega) | exact Or.inl ⟨by omega, by omega⟩ | exact Or.inr ⟨by omega, by omega⟩) ?_ | refine b_div (by first | omega | (constructor <;> omega) | exact Or.inl ⟨by omega, by omega⟩ | exact Or.inr ⟨by omega, by omega⟩) ?_ | refine b_mod (by first | omega | (constructor <;> omega) | exact Or.inl ⟨by omega, by omega⟩ | exact Or.inr ⟨by omega, by omega⟩) ?_ | refine b_strs (by first | omega | (constructor <;> omega) | exact Or.inl ⟨by omega, by omega⟩ | exact Or.inr ⟨by omega, by omega⟩) ?_ | refine b_catT (by first | exact Nat.le_of_ble_eq_true rfl | decide | (simp; done) | (simp <;> omega)) ?_ | refine c_lt ?_ | refine c_le ?_ | refine c_gt ?_ | refine c_ge ?_ | refine c_eqI ?_ | refine c_neI ?_ | refine c_is ?_ | refine c_isnot ?_ | refine c_eqB ?_ | refine c_neB ?_ | refine c_eqS ?_ | refine c_neS ?_ | refine b_iadd ?_ | refine b_isub ?_ | refine b_imul (by first | omega | (constructor <;> omega) | exact Or.inl ⟨by omega, by omega⟩ | exact Or.inr ⟨by omega, by omega⟩) ?_) | refine x_non ?_ | refine x_str ?_ | refine x_bl ?_ | refine x_bin ?_ | refine x_cmp ?_ (by rfl) | refine t_cmp ?_ (by rfl) | refine t_chain ?_ (by with_unfolding_all rfl) | refine x_chain ?_ (by with_unfolding_all rfl) | refine t_not ?_ | refine x_neg ?_ | refine x_if ?_ | refine a_cons ?_ (fun _ => rfl) | refine a_nil ?_ | refine x_tup ?_ | refine x_ix ?_ (fun _ _ => rfl) | refine ix_tup rfl ?_ | refine dats_ex (by first | exact Nat.le_of_ble_eq_true rfl | decide | (simp; done) | (simp <;> omega)) ?_ | refine r_cons ?_ | refine r_nil ?_ | refine s_ret ?_ | refine s_if ?_ | (refine s_st (by first | exact Or.inl rfl | exact Or.inr rfl) (by first | exact Or.inl rfl | exact Or.inr rfl) ?_ (fun _ => rfl)) | (refine s_ag (by first | exact Or.inl rfl | exact Or.inr rfl) (by first | exact Or.inl rfl | exact Or.inr rfl) rfl ?_) | refine s_expr ?_ (fun _ => rfl))
      exact q2 _
  have rest1 : ∀ at_ : Int, 0 ≤ at_ → at_ < 63 → (ns ≠ [] → at_ < ns.length) → Run (c_law_draw P w K mg base 0) [some (.scr ns), some (.mut j), some (.dat (.int m)), some (.dat (.int at_)), none, none] M ((defBody s_law_draw).drop 2) { nx := fun _ M2 => Fin M Post (.dat .non) M2, rt := Fin M Post } := by
    intro at_ h0 h1 h2
    refine r_cons ?_
    refine s_st (by first | exact Or.inl rfl | exact Or.inr rfl) (by first | exact Or.inl rfl | exact Or.inr rfl) ?_ (fun _ => rfl)
    refine x_rget (x_rests ?_) (fun X => ⟨rfl, rfl, rfl, rfl⟩)
    refine x_v rfl (by first | exact Or.inl rfl | exact Or.inr (Or.inl rfl) | exact Or.inr (Or.inr rfl)) ?_
    refine ⟨j, i, rfl, hj, i, rfl, hi, ?_⟩
    refine x_v rfl (by first | exact Or.inl rfl | exact Or.inr (Or.inl rfl) | exact Or.inr (Or.inr rfl)) ?_
    refine x_if (t_tru ?_ (fun _ _ => rfl))
    refine x_v rfl (by first | exact Or.inl rfl | exact Or.inr (Or.inl rfl) | exact Or.inr (Or.inr rfl)) ?_
    refine ⟨!ns.isEmpty, rfl, fun h => ?_, fun h => ?_⟩
    · have hne : ns ≠ [] := by
        intro e
        rw [e] at h
        cases h
      refine x_ixScr ?_ (fun _ _ => rfl)
      refine x_v rfl (by first | exact Or.inl rfl | exact Or.inr (Or.inl rfl) | exact Or.inr (Or.inr rfl)) ?_
      refine x_v rfl (by first | exact Or.inl rfl | exact Or.inr (Or.inl rfl) | exact Or.inr (Or.inr rfl)) ?_
      have hlt : at_.toNat < ns.length := by have := h2 hne; omega
      refine ⟨ns, at_, ns[at_.toNat], rfl, rfl, ?_, at_, _, rfl, rfl, hi, fun r => rest2 at_ r h0 h1⟩
      have e := atI_nat (List.getElem?_eq_getElem hlt)
      rw [Int.toNat_of_nonneg h0] at e
      exact e
    · refine x_int ?_
      exact ⟨at_, _, rfl, rfl, hi, fun r => rest2 at_ r h0 h1⟩
  refine r_cons (s_count ?_ (fun _ => rfl))
  refine x_bin (x_count ?_)
  refine x_v rfl (by first | exact Or.inl rfl | exact Or.inr (Or.inl rfl) | exact Or.inr (Or.inr rfl)) ?_
  refine ⟨j, i, rfl, hj, fun n => ?_⟩
  repeat (first | refine x_int ?_ | (refine x_v rfl (by first | exact Or.inl rfl | exact Or.inr (Or.inl rfl) | exact Or.inr (Or.inr rfl)) ?_) | (first | refine b_add ?_ | refine b_sub ?_ | refine b_mul (by first | omega | (constructor <;> omega) | exact Or.inl ⟨by omega, by omega⟩ | exact Or.inr ⟨by omega, by omega⟩) ?_ | refine b_div (by first | omega | (constructor <;> omega) | exact Or.inl ⟨by omega, by omega⟩ | exact Or.inr ⟨by omega, by omega⟩) ?_ | refine b_mod (by first | omega | (constructor <;> omega) | exact Or.inl ⟨by omega, by omega⟩ | exact Or.inr ⟨by omega, by omega⟩) ?_ | refine b_strs (by first | omega | (constructor <;> omega) | exact Or.inl ⟨by omega, by omega⟩ | exact Or.inr ⟨by omega, by omega⟩) ?_ | refine b_catT (by first | exact Nat.le_of_ble_eq_true rfl | decide | (simp; done) | (simp <;> omega)) ?_ | refine c_lt ?_ | refine c_le ?_ | refine c_gt ?_ | refine c_ge ?_ | refine c_eqI ?_ | refine c_neI ?_ | refine c_is ?_ | refine c_isnot ?_ | refine c_eqB ?_ | refine c_neB ?_ | refine c_eqS ?_ | refine c_neS ?_ | refine b_iadd ?_ | refine b_isub ?_ | refine b_imul (by first | omega | (constructor <;> omega) | exact Or.inl ⟨by omega, by omega⟩ | exact Or.inr ⟨by omega, by omega⟩) ?_) | refine x_non ?_ | refine x_str ?_ | refine x_bl ?_ | refine x_bin ?_ | refine x_cmp ?_ (by rfl) | refine t_cmp ?_ (by rfl) | refine t_chain ?_ (by with_unfolding_all rfl) | refine x_chain ?_ (by with_unfolding_all rfl) | refine t_not ?_ | refine x_neg ?_ | refine x_if ?_ | refine a_cons ?_ (fun _ => rfl) | refine a_nil ?_ | refine x_tup ?_ | refine x_ix ?_ (fun _ _ => rfl) | refine ix_tup rfl ?_ | refine dats_ex (by first | exact Nat.le_of_ble_eq_true rfl | decide | (simp; done) | (simp <;> omega)) ?_ | refine r_cons ?_ | refine r_nil ?_ | refine s_ret ?_ | refine s_if ?_ | (refine s_st (by first | exact Or.inl rfl | exact Or.inr rfl) (by first | exact Or.inl rfl | exact Or.inr rfl) ?_ (fun _ => rfl)) | (refine s_ag (by first | exact Or.inl rfl | exact Or.inr rfl) (by first | exact Or.inl rfl | exact Or.inr rfl) rfl ?_) | refine s_expr ?_ (fun _ => rfl))
  refine ⟨n + 1, j, i, rfl, rfl, hj, ?_⟩
  refine r_cons ?_
  refine s_st (by first | exact Or.inl rfl | exact Or.inr rfl) (by first | exact Or.inl rfl | exact Or.inr rfl) ?_ (fun _ => rfl)
  refine x_if (t_tru ?_ (fun _ _ => rfl))
  refine x_v rfl (by first | exact Or.inl rfl | exact Or.inr (Or.inl rfl) | exact Or.inr (Or.inr rfl)) ?_
  refine ⟨!ns.isEmpty, rfl, fun h => ?_, fun h => ?_⟩
  · have hlen : 0 < ns.length := by
      cases ns with
      | nil => cases h
      | cons a r => exact Nat.succ_pos _
    refine x_bin (x_count ?_)
    refine x_v rfl (by first | exact Or.inl rfl | exact Or.inr (Or.inl rfl) | exact Or.inr (Or.inr rfl)) ?_
    refine ⟨j, i, rfl, hj, fun n2 => ?_⟩
    refine x_blt rfl T.b_len PySem.boot_len ?_ (fun _ => rfl) (fun _ => rfl)
    repeat (first | refine x_int ?_ | (refine x_v rfl (by first | exact Or.inl rfl | exact Or.inr (Or.inl rfl) | exact Or.inr (Or.inr rfl)) ?_) | (first | refine b_add ?_ | refine b_sub ?_ | refine b_mul (by first | omega | (constructor <;> omega) | exact Or.inl ⟨by omega, by omega⟩ | exact Or.inr ⟨by omega, by omega⟩) ?_ | refine b_div (by first | omega | (constructor <;> omega) | exact Or.inl ⟨by omega, by omega⟩ | exact Or.inr ⟨by omega, by omega⟩) ?_ | refine b_mod (by first | omega | (constructor <;> omega) | exact Or.inl ⟨by omega, by omega⟩ | exact Or.inr ⟨by omega, by omega⟩) ?_ | refine b_strs (by first | omega | (constructor <;> omega) | exact Or.inl ⟨by omega, by omega⟩ | exact Or.inr ⟨by omega, by omega⟩) ?_ | refine b_catT (by first | exact Nat.le_of_ble_eq_true rfl | decide | (simp; done) | (simp <;> omega)) ?_ | refine c_lt ?_ | refine c_le ?_ | refine c_gt ?_ | refine c_ge ?_ | refine c_eqI ?_ | refine c_neI ?_ | refine c_is ?_ | refine c_isnot ?_ | refine c_eqB ?_ | refine c_neB ?_ | refine c_eqS ?_ | refine c_neS ?_ | refine b_iadd ?_ | refine b_isub ?_ | refine b_imul (by first | omega | (constructor <;> omega) | exact Or.inl ⟨by omega, by omega⟩ | exact Or.inr ⟨by omega, by omega⟩) ?_) | refine x_non ?_ | refine x_str ?_ | refine x_bl ?_ | refine x_bin ?_ | refine x_cmp ?_ (by rfl) | refine t_cmp ?_ (by rfl) | refine t_chain ?_ (by with_unfolding_all rfl) | refine x_chain ?_ (by with_unfolding_all rfl) | refine t_not ?_ | refine x_neg ?_ | refine x_if ?_ | refine a_cons ?_ (fun _ => rfl) | refine a_nil ?_ | refine x_tup ?_ | refine x_ix ?_ (fun _ _ => rfl) | refine ix_tup rfl ?_ | refine dats_ex (by first | exact Nat.le_of_ble_eq_true rfl | decide | (simp; done) | (simp <;> omega)) ?_ | refine r_cons ?_ | refine r_nil ?_ | refine s_ret ?_ | refine s_if ?_ | (refine s_st (by first | exact Or.inl rfl | exact Or.inr rfl) (by first | exact Or.inl rfl | exact Or.inr rfl) ?_ (fun _ => rfl)) | (refine s_ag (by first | exact Or.inl rfl | exact Or.inr rfl) (by first | exact Or.inl rfl | exact Or.inr rfl) rfl ?_) | refine s_expr ?_ (fun _ => rfl))
    refine ca_lenScr ?_
    have hp : (0 : Int) < (ns.length : Int) := by omega
    refine b_mod hp ?_
    have hle : (ns.length : Int) ≤ 63 := by omega
    exact rest1 _ (Int.emod_nonneg _ (Int.ne_of_gt hp)) (Int.lt_of_lt_of_le (Int.emod_lt_of_pos n2 hp) hle) (fun _ => Int.emod_lt_of_pos _ hp)
  · have hlen : ns = [] := by
      cases ns with
      | nil => rfl
      | cons a r => cases h
    refine x_int ?_
    exact rest1 0 (by omega) (by omega) (fun e => absurd hlen e)
end
end My

namespace My
open PySem L2 Fx
section
variable {P : Program} {w : World} {K : PySem.W.Frag} {mg : Str → Option Value} {base : Heap}
def A_law_begun : ASp := fun as M Post => as = [] ∧ Post (.mut M.length) (M ++ [.town (M.length + 1), .rests])
theorem d_law_begun (T : Txt K mg) : DefOk P w K mg base lv_law_begun "_law_begun" s_law_begun [] (spOf K 0 A_law_begun) := by
  obtain ⟨fa, fd, hm, F, hb⟩ := T.f_law_begun
  refine ⟨fa, fd, hm, F, hb, fn_mk F sc_law_begun fun as M Post hl hA => ?_⟩
  obtain ⟨rfl, q⟩ := hA
  show Run (c_law_begun P w K mg base _) [] M _ _
  refine r_one (s_ret (x_begun (fin_same q)))
end
end My

namespace My
open PySem L2 Fx
section
variable {P : Program} {w : World} {K : PySem.W.Frag} {mg : Str → Option Value} {base : Heap}
def A_law_a_lot : ASp := fun as M Post => ∃ (ns : List Int) (j i : Nat) (g : Int), as = [.scr ns, .mut j, .dat (.int g)] ∧ ns.length ≤ 63 ∧ M[j]? = some (.town i) ∧ M[i]? = some .rests ∧ 0 < g ∧ g ≤ 1000 ∧
  ∀ m d : Int, 1 ≤ d → d ≤ m → m ≤ g → Post (.dat (tI [m, d])) M
theorem d_law_a_lot (T : Txt K mg) : DefOk P w K mg base lv_law_a_lot "_law_a_lot" s_law_a_lot ps_law_a_lot (spOf K ps_law_a_lot.length A_law_a_lot) := by
  obtain ⟨fa, fd, hm, F, hb⟩ := T.f_law_a_lot
  refine ⟨fa, fd, hm, F, hb, fn_mk F sc_law_a_lot fun as M Post hl hA => ?_⟩
  obtain ⟨ns, j, i, g, rfl, hn, hj, hi, hg, hg2, q⟩ := hA
  show Run (c_law_a_lot P w K mg base _) [some (.scr ns), some (.mut j), some (.dat (.int g)), none] M _ _
  repeat (first | refine x_int ?_ | (refine x_v rfl (by first | exact Or.inl rfl | exact Or.inr (Or.inl rfl) | exact Or.inr (Or.inr rfl)) ?_) | (first | refine b_add ?_ | refine b_sub ?_ | refine b_mul (by first | omega | (constructor <;> omega) | exact Or.inl ⟨by omega, by omega⟩ | exact Or.inr ⟨by omega, by omega⟩) ?_ | refine b_div (by first | omega | (constructor <;> omega) | exact Or.inl ⟨by omega, by omega⟩ | exact Or.inr ⟨by omega, by omega⟩) ?_ | refine b_mod (by first | omega | (constructor <;> omega) | exact Or.inl ⟨by omega, by omega⟩ | exact Or.inr ⟨by omega, by omega⟩) ?_ | refine b_strs (by first | omega | (constructor <;> omega) | exact Or.inl ⟨by omega, by omega⟩ | exact Or.inr ⟨by omega, by omega⟩) ?_ | refine b_catT (by first | exact Nat.le_of_ble_eq_true rfl | decide | (simp; done) | (simp <;> omega)) ?_ | refine c_lt ?_ | refine c_le ?_ | refine c_gt ?_ | refine c_ge ?_ | refine c_eqI ?_ | refine c_neI ?_ | refine c_is ?_ | refine c_isnot ?_ | refine c_eqB ?_ | refine c_neB ?_ | refine c_eqS ?_ | refine c_neS ?_ | refine b_iadd ?_ | refine b_isub ?_ | refine b_imul (by first | omega | (constructor <;> omega) | exact Or.inl ⟨by omega, by omega⟩ | exact Or.inr ⟨by omega, by omega⟩) ?_) | refine x_non ?_ | refine x_str ?_ | refine x_bl ?_ | refine x_bin ?_ | refine x_cmp ?_ (by rfl) | refine t_cmp ?_ (by rfl) | refine t_chain ?_ (by with_unfolding_all rfl) | refine x_chain ?_ (by with_unfolding_all rfl) | refine t_not ?_ | refine x_neg ?_ | refine x_if ?_ | refine a_cons ?_ (fun _ => rfl) | refine a_nil ?_ | refine x_tup ?_ | refine x_ix ?_ (fun _ _ => rfl) | refine ix_tup rfl ?_ | refine dats_ex (by first | exact Nat.le_of_ble_eq_true rfl | decide | (simp; done) | (simp <;> omega)) ?_ | refine r_cons ?_ | refine r_nil ?_ | refine s_ret ?_ | refine s_if ?_ | (refine s_st (by first | exact Or.inl rfl | exact Or.inr rfl) (by first | exact Or.inl rfl | exact Or.inr rfl) ?_ (fun _ => rfl)) | (refine s_ag (by first | exact Or.inl rfl | exact Or.inr rfl) (by first | exact Or.inl rfl | exact Or.inr rfl) rfl ?_) | refine s_expr ?_ (fun _ => rfl))
  refine x_call (d_law_draw T) (Nat.le_of_ble_eq_true rfl) rfl ?_ (fun _ => rfl) (fun _ => rfl)
  repeat (first | refine x_int ?_ | (refine x_v rfl (by first | exact Or.inl rfl | exact Or.inr (Or.inl rfl) | exact Or.inr (Or.inr rfl)) ?_) | (first | refine b_add ?_ | refine b_sub ?_ | refine b_mul (by first | omega | (constructor <;> omega) | exact Or.inl ⟨by omega, by omega⟩ | exact Or.inr ⟨by omega, by omega⟩) ?_ | refine b_div (by first | omega | (constructor <;> omega) | exact Or.inl ⟨by omega, by omega⟩ | exact Or.inr ⟨by omega, by omega⟩) ?_ | refine b_mod (by first | omega | (constructor <;> omega) | exact Or.inl ⟨by omega, by omega⟩ | exact Or.inr ⟨by omega, by omega⟩) ?_ | refine b_strs (by first | omega | (constructor <;> omega) | exact Or.inl ⟨by omega, by omega⟩ | exact Or.inr ⟨by omega, by omega⟩) ?_ | refine b_catT (by first | exact Nat.le_of_ble_eq_true rfl | decide | (simp; done) | (simp <;> omega)) ?_ | refine c_lt ?_ | refine c_le ?_ | refine c_gt ?_ | refine c_ge ?_ | refine c_eqI ?_ | refine c_neI ?_ | refine c_is ?_ | refine c_isnot ?_ | refine c_eqB ?_ | refine c_neB ?_ | refine c_eqS ?_ | refine c_neS ?_ | refine b_iadd ?_ | refine b_isub ?_ | refine b_imul (by first | omega | (constructor <;> omega) | exact Or.inl ⟨by omega, by omega⟩ | exact Or.inr ⟨by omega, by omega⟩) ?_) | refine x_non ?_ | refine x_str ?_ | refine x_bl ?_ | refine x_bin ?_ | refine x_cmp ?_ (by rfl) | refine t_cmp ?_ (by rfl) | refine t_chain ?_ (by with_unfolding_all rfl) | refine x_chain ?_ (by with_unfolding_all rfl) | refine t_not ?_ | refine x_neg ?_ | refine x_if ?_ | refine a_cons ?_ (fun _ => rfl) | refine a_nil ?_ | refine x_tup ?_ | refine x_ix ?_ (fun _ _ => rfl) | refine ix_tup rfl ?_ | refine dats_ex (by first | exact Nat.le_of_ble_eq_true rfl | decide | (simp; done) | (simp <;> omega)) ?_ | refine r_cons ?_ | refine r_nil ?_ | refine s_ret ?_ | refine s_if ?_ | (refine s_st (by first | exact Or.inl rfl | exact Or.inr rfl) (by first | exact Or.inl rfl | exact Or.inr rfl) ?_ (fun _ => rfl)) | (refine s_ag (by first | exact Or.inl rfl | exact Or.inr rfl) (by first | exact Or.inl rfl | exact Or.inr rfl) rfl ?_) | refine s_expr ?_ (fun _ => rfl))
  refine ⟨rfl, ns, j, i, g, rfl, hn, hj, hi, hg, by omega, fun r h0 h1 => ?_⟩
  repeat (first | refine x_int ?_ | (refine x_v rfl (by first | exact Or.inl rfl | exact Or.inr (Or.inl rfl) | exact Or.inr (Or.inr rfl)) ?_) | (first | refine b_add ?_ | refine b_sub ?_ | refine b_mul (by first | omega | (constructor <;> omega) | exact Or.inl ⟨by omega, by omega⟩ | exact Or.inr ⟨by omega, by omega⟩) ?_ | refine b_div (by first | omega | (constructor <;> omega) | exact Or.inl ⟨by omega, by omega⟩ | exact Or.inr ⟨by omega, by omega⟩) ?_ | refine b_mod (by first | omega | (constructor <;> omega) | exact Or.inl ⟨by omega, by omega⟩ | exact Or.inr ⟨by omega, by omega⟩) ?_ | refine b_strs (by first | omega | (constructor <;> omega) | exact Or.inl ⟨by omega, by omega⟩ | exact Or.inr ⟨by omega, by omega⟩) ?_ | refine b_catT (by first | exact Nat.le_of_ble_eq_true rfl | decide | (simp; done) | (simp <;> omega)) ?_ | refine c_lt ?_ | refine c_le ?_ | refine c_gt ?_ | refine c_ge ?_ | refine c_eqI ?_ | refine c_neI ?_ | refine c_is ?_ | refine c_isnot ?_ | refine c_eqB ?_ | refine c_neB ?_ | refine c_eqS ?_ | refine c_neS ?_ | refine b_iadd ?_ | refine b_isub ?_ | refine b_imul (by first | omega | (constructor <;> omega) | exact Or.inl ⟨by omega, by omega⟩ | exact Or.inr ⟨by omega, by omega⟩) ?_) | refine x_non ?_ | refine x_str ?_ | refine x_bl ?_ | refine x_bin ?_ | refine x_cmp ?_ (by rfl) | refine t_cmp ?_ (by rfl) | refine t_chain ?_ (by with_unfolding_all rfl) | refine x_chain ?_ (by with_unfolding_all rfl) | refine t_not ?_ | refine x_neg ?_ | refine x_if ?_ | refine a_cons ?_ (fun _ => rfl) | refine a_nil ?_ | refine x_tup ?_ | refine x_ix ?_ (fun _ _ => rfl) | refine ix_tup rfl ?_ | refine dats_ex (by first | exact Nat.le_of_ble_eq_true rfl | decide | (simp; done) | (simp <;> omega)) ?_ | refine r_cons ?_ | refine r_nil ?_ | refine s_ret ?_ | refine s_if ?_ | (refine s_st (by first | exact Or.inl rfl | exact Or.inr rfl) (by first | exact Or.inl rfl | exact Or.inr rfl) ?_ (fun _ => rfl)) | (refine s_ag (by first | exact Or.inl rfl | exact Or.inr rfl) (by first | exact Or.inl rfl | exact Or.inr rfl) rfl ?_) | refine s_expr ?_ (fun _ => rfl))
  refine x_call (d_law_draw T) (Nat.le_of_ble_eq_true rfl) rfl ?_ (fun _ => rfl) (fun _ => rfl)
  repeat (first | refine x_int ?_ | (refine x_v rfl (by first | exact Or.inl rfl | exact Or.inr (Or.inl rfl) | exact Or.inr (Or.inr rfl)) ?_) | (first | refine b_add ?_ | refine b_sub ?_ | refine b_mul (by first | omega | (constructor <;> omega) | exact Or.inl ⟨by omega, by omega⟩ | exact Or.inr ⟨by omega, by omega⟩) ?_ | refine b_div (by first | omega | (constructor <;> omega) | exact Or.inl ⟨by omega, by omega⟩ | exact Or.inr ⟨by omega, by omega⟩) ?_ | refine b_mod (by first | omega | (constructor <;> omega) | exact Or.inl ⟨by omega, by omega⟩ | exact Or.inr ⟨by omega, by omega⟩) ?_ | refine b_strs (by first | omega | (constructor <;> omega) | exact Or.inl ⟨by omega, by omega⟩ | exact Or.inr ⟨by omega, by omega⟩) ?_ | refine b_catT (by first | exact Nat.le_of_ble_eq_true rfl | decide | (simp; done) | (simp <;> omega)) ?_ | refine c_lt ?_ | refine c_le ?_ | refine c_gt ?_ | refine c_ge ?_ | refine c_eqI ?_ | refine c_neI ?_ | refine c_is ?_ | refine c_isnot ?_ | refine c_eqB ?_ | refine c_neB ?_ | refine c_eqS ?_ | refine c_neS ?_ | refine b_iadd ?_ | refine b_isub ?_ | refine b_imul (by first | omega | (constructor <;> omega) | exact Or.inl ⟨by omega, by omega⟩ | exact Or.inr ⟨by omega, by omega⟩) ?_) | refine x_non ?_ | refine x_str ?_ | refine x_bl ?_ | refine x_bin ?_ | refine x_cmp ?_ (by rfl) | refine t_cmp ?_ (by rfl) | refine t_chain ?_ (by with_unfolding_all rfl) | refine x_chain ?_ (by with_unfolding_all rfl) | refine t_not ?_ | refine x_neg ?_ | refine x_if ?_ | refine a_cons ?_ (fun _ => rfl) | refine a_nil ?_ | refine x_tup ?_ | refine x_ix ?_ (fun _ _ => rfl) | refine ix_tup rfl ?_ | refine dats_ex (by first | exact Nat.le_of_ble_eq_true rfl | decide | (simp; done) | (simp <;> omega)) ?_ | refine r_cons ?_ | refine r_nil ?_ | refine s_ret ?_ | refine s_if ?_ | (refine s_st (by first | exact Or.inl rfl | exact Or.inr rfl) (by first | exact Or.inl rfl | exact Or.inr rfl) ?_ (fun _ => rfl)) | (refine s_ag (by first | exact Or.inl rfl | exact Or.inr rfl) (by first | exact Or.inl rfl | exact Or.inr rfl) rfl ?_) | refine s_expr ?_ (fun _ => rfl))
  refine ⟨rfl, ns, j, i, 1 + r, rfl, hn, hj, hi, by omega, by omega, fun r2 h2 h3 => ?_⟩
  repeat (first | refine x_int ?_ | (refine x_v rfl (by first | exact Or.inl rfl | exact Or.inr (Or.inl rfl) | exact Or.inr (Or.inr rfl)) ?_) | (first | refine b_add ?_ | refine b_sub ?_ | refine b_mul (by first | omega | (constructor <;> omega) | exact Or.inl ⟨by omega, by omega⟩ | exact Or.inr ⟨by omega, by omega⟩) ?_ | refine b_div (by first | omega | (constructor <;> omega) | exact Or.inl ⟨by omega, by omega⟩ | exact Or.inr ⟨by omega, by omega⟩) ?_ | refine b_mod (by first | omega | (constructor <;> omega) | exact Or.inl ⟨by omega, by omega⟩ | exact Or.inr ⟨by omega, by omega⟩) ?_ | refine b_strs (by first | omega | (constructor <;> omega) | exact Or.inl ⟨by omega, by omega⟩ | exact Or.inr ⟨by omega, by omega⟩) ?_ | refine b_catT (by first | exact Nat.le_of_ble_eq_true rfl | decide | (simp; done) | (simp <;> omega)) ?_ | refine c_lt ?_ | refine c_le ?_ | refine c_gt ?_ | refine c_ge ?_ | refine c_eqI ?_ | refine c_neI ?_ | refine c_is ?_ | refine c_isnot ?_ | refine c_eqB ?_ | refine c_neB ?_ | refine c_eqS ?_ | refine c_neS ?_ | refine b_iadd ?_ | refine b_isub ?_ | refine b_imul (by first | omega | (constructor <;> omega) | exact Or.inl ⟨by omega, by omega⟩ | exact Or.inr ⟨by omega, by omega⟩) ?_) | refine x_non ?_ | refine x_str ?_ | refine x_bl ?_ | refine x_bin ?_ | refine x_cmp ?_ (by rfl) | refine t_cmp ?_ (by rfl) | refine t_chain ?_ (by with_unfolding_all rfl) | refine x_chain ?_ (by with_unfolding_all rfl) | refine t_not ?_ | refine x_neg ?_ | refine x_if ?_ | refine a_cons ?_ (fun _ => rfl) | refine a_nil ?_ | refine x_tup ?_ | refine x_ix ?_ (fun _ _ => rfl) | refine ix_tup rfl ?_ | refine dats_ex (by first | exact Nat.le_of_ble_eq_true rfl | decide | (simp; done) | (simp <;> omega)) ?_ | refine r_cons ?_ | refine r_nil ?_ | refine s_ret ?_ | refine s_if ?_ | (refine s_st (by first | exact Or.inl rfl | exact Or.inr rfl) (by first | exact Or.inl rfl | exact Or.inr rfl) ?_ (fun _ => rfl)) | (refine s_ag (by first | exact Or.inl rfl | exact Or.inr rfl) (by first | exact Or.inl rfl | exact Or.inr rfl) rfl ?_) | refine s_expr ?_ (fun _ => rfl))
  exact fin_same (q (1 + r) (1 + r2) (by omega) (by omega) (by omega))
end
end My

namespace My
open PySem L2 Fx
section
variable {P : Program} {w : World} {K : PySem.W.Frag} {mg : Str → Option Value} {base : Heap}
def A_law_a_row : ASp := fun as M Post => ∃ (ns : List Int) (j i : Nat) (m : Int) (z : Nat), as = [.scr ns, .mut j, .dat (.int m), .dat (.int z)] ∧ ns.length ≤ 63 ∧ M[j]? = some (.town i) ∧ M[i]? = some .rests ∧ 0 ≤ m ∧ m ≤ 60 ∧ z ≤ m ∧
  ∀ r : List Int, Row m r → r.length = z → Post (.dat (tI r)) M
theorem erase_map {α β : Type} (f : α → β) : ∀ (l : List α) (i : Nat), (l.map f).eraseIdx i = (l.eraseIdx i).map f
  | [], _ => rfl
  | _ :: _, 0 => rfl
  | x :: l, i + 1 => congrArg (f x :: ·) (erase_map f l i)
theorem d_law_a_row (T : Txt K mg) : DefOk P w K mg base lv_law_a_row "_law_a_row" s_law_a_row ps_law_a_row (spOf K ps_law_a_row.length A_law_a_row) := by
  obtain ⟨fa, fd, hm, F, hb⟩ := T.f_law_a_row
  refine ⟨fa, fd, hm, F, hb, fn_mk F sc_law_a_row fun as M Post hl hA => ?_⟩
  obtain ⟨ns, j, i, m, z, rfl, hn, hj, hi, hm0, hm1, hz, q⟩ := hA
  show Run (c_law_a_row P w K mg base _) [some (.scr ns), some (.mut j), some (.dat (.int m)), some (.dat (.int z)), none, none, none] M _ _
  have jl : j < M.length := (List.getElem?_eq_some_iff.mp hj).1
  have il : i < M.length := (List.getElem?_eq_some_iff.mp hi).1
  refine r_cons ?_
  refine s_p2 (by decide) rfl rfl ?_ (swaps_of fun _ => rfl) (fun _ => rfl)
  refine a_cons ?_ (fun _ => rfl)
  refine x_N (f_lrg T.b_list rfl (rg_2 T.b_range rfl ?_ (fun _ => rfl) (fun _ => rfl) (fun _ => rfl)) (fun _ => rfl))
  repeat (first | refine x_int ?_ | (refine x_v rfl (by first | exact Or.inl rfl | exact Or.inr (Or.inl rfl) | exact Or.inr (Or.inr rfl)) ?_) | (first | refine b_add ?_ | refine b_sub ?_ | refine b_mul (by first | omega | (constructor <;> omega) | exact Or.inl ⟨by omega, by omega⟩ | exact Or.inr ⟨by omega, by omega⟩) ?_ | refine b_div (by first | omega | (constructor <;> omega) | exact Or.inl ⟨by omega, by omega⟩ | exact Or.inr ⟨by omega, by omega⟩) ?_ | refine b_mod (by first | omega | (constructor <;> omega) | exact Or.inl ⟨by omega, by omega⟩ | exact Or.inr ⟨by omega, by omega⟩) ?_ | refine b_strs (by first | omega | (constructor <;> omega) | exact Or.inl ⟨by omega, by omega⟩ | exact Or.inr ⟨by omega, by omega⟩) ?_ | refine b_catT (by first | exact Nat.le_of_ble_eq_true rfl | decide | (simp; done) | (simp <;> omega)) ?_ | refine c_lt ?_ | refine c_le ?_ | refine c_gt ?_ | refine c_ge ?_ | refine c_eqI ?_ | refine c_neI ?_ | refine c_is ?_ | refine c_isnot ?_ | refine c_eqB ?_ | refine c_neB ?_ | refine c_eqS ?_ | refine c_neS ?_ | refine b_iadd ?_ | refine b_isub ?_ | refine b_imul (by first | omega | (constructor <;> omega) | exact Or.inl ⟨by omega, by omega⟩ | exact Or.inr ⟨by omega, by omega⟩) ?_) | refine x_non ?_ | refine x_str ?_ | refine x_bl ?_ | refine x_bin ?_ | refine x_cmp ?_ (by rfl) | refine t_cmp ?_ (by rfl) | refine t_chain ?_ (by with_unfolding_all rfl) | refine x_chain ?_ (by with_unfolding_all rfl) | refine t_not ?_ | refine x_neg ?_ | refine x_if ?_ | refine a_cons ?_ (fun _ => rfl) | refine a_nil ?_ | refine x_tup ?_ | refine x_ix ?_ (fun _ _ => rfl) | refine ix_tup rfl ?_ | refine dats_ex (by first | exact Nat.le_of_ble_eq_true rfl | decide | (simp; done) | (simp <;> omega)) ?_ | refine r_cons ?_ | refine r_nil ?_ | refine s_ret ?_ | refine s_if ?_ | (refine s_st (by first | exact Or.inl rfl | exact Or.inr rfl) (by first | exact Or.inl rfl | exact Or.inr rfl) ?_ (fun _ => rfl)) | (refine s_ag (by first | exact Or.inl rfl | exact Or.inr rfl) (by first | exact Or.inl rfl | exact Or.inr rfl) rfl ?_) | refine s_expr ?_ (fun _ => rfl))
  refine ⟨1, m + 1, rfl, rfl, ⟨by omega, by omega, by omega, by omega⟩, ?_⟩
  refine a_cons ?_ (fun _ => rfl)
  refine x_N (f_lst ?_)
  repeat (first | refine x_int ?_ | (refine x_v rfl (by first | exact Or.inl rfl | exact Or.inr (Or.inl rfl) | exact Or.inr (Or.inr rfl)) ?_) | (first | refine b_add ?_ | refine b_sub ?_ | refine b_mul (by first | omega | (constructor <;> omega) | exact Or.inl ⟨by omega, by omega⟩ | exact Or.inr ⟨by omega, by omega⟩) ?_ | refine b_div (by first | omega | (constructor <;> omega) | exact Or.inl ⟨by omega, by omega⟩ | exact Or.inr ⟨by omega, by omega⟩) ?_ | refine b_mod (by first | omega | (constructor <;> omega) | exact Or.inl ⟨by omega, by omega⟩ | exact Or.inr ⟨by omega, by omega⟩) ?_ | refine b_strs (by first | omega | (constructor <;> omega) | exact Or.inl ⟨by omega, by omega⟩ | exact Or.inr ⟨by omega, by omega⟩) ?_ | refine b_catT (by first | exact Nat.le_of_ble_eq_true rfl | decide | (simp; done) | (simp <;> omega)) ?_ | refine c_lt ?_ | refine c_le ?_ | refine c_gt ?_ | refine c_ge ?_ | refine c_eqI ?_ | refine c_neI ?_ | refine c_is ?_ | refine c_isnot ?_ | refine c_eqB ?_ | refine c_neB ?_ | refine c_eqS ?_ | refine c_neS ?_ | refine b_iadd ?_ | refine b_isub ?_ | refine b_imul (by first | omega | (constructor <;> omega) | exact Or.inl ⟨by omega, by omega⟩ | exact Or.inr ⟨by omega, by omega⟩) ?_) | refine x_non ?_ | refine x_str ?_ | refine x_bl ?_ | refine x_bin ?_ | refine x_cmp ?_ (by rfl) | refine t_cmp ?_ (by rfl) | refine t_chain ?_ (by with_unfolding_all rfl) | refine x_chain ?_ (by with_unfolding_all rfl) | refine t_not ?_ | refine x_neg ?_ | refine x_if ?_ | refine a_cons ?_ (fun _ => rfl) | refine a_nil ?_ | refine x_tup ?_ | refine x_ix ?_ (fun _ _ => rfl) | refine ix_tup rfl ?_ | refine dats_ex (by first | exact Nat.le_of_ble_eq_true rfl | decide | (simp; done) | (simp <;> omega)) ?_ | refine r_cons ?_ | refine r_nil ?_ | refine s_ret ?_ | refine s_if ?_ | (refine s_st (by first | exact Or.inl rfl | exact Or.inr rfl) (by first | exact Or.inl rfl | exact Or.inr rfl) ?_ (fun _ => rfl)) | (refine s_ag (by first | exact Or.inl rfl | exact Or.inr rfl) (by first | exact Or.inl rfl | exact Or.inr rfl) rfl ?_) | refine s_expr ?_ (fun _ => rfl))
  refine ⟨_, _, rfl, ?_⟩
  refine r_cons ?_
  refine s_for (i_rng1 T.b_range rfl ?_ (fun _ => rfl)) (fun _ _ => rfl)
  repeat (first | refine x_int ?_ | (refine x_v rfl (by first | exact Or.inl rfl | exact Or.inr (Or.inl rfl) | exact Or.inr (Or.inr rfl)) ?_) | (first | refine b_add ?_ | refine b_sub ?_ | refine b_mul (by first | omega | (constructor <;> omega) | exact Or.inl ⟨by omega, by omega⟩ | exact Or.inr ⟨by omega, by omega⟩) ?_ | refine b_div (by first | omega | (constructor <;> omega) | exact Or.inl ⟨by omega, by omega⟩ | exact Or.inr ⟨by omega, by omega⟩) ?_ | refine b_mod (by first | omega | (constructor <;> omega) | exact Or.inl ⟨by omega, by omega⟩ | exact Or.inr ⟨by omega, by omega⟩) ?_ | refine b_strs (by first | omega | (constructor <;> omega) | exact Or.inl ⟨by omega, by omega⟩ | exact Or.inr ⟨by omega, by omega⟩) ?_ | refine b_catT (by first | exact Nat.le_of_ble_eq_true rfl | decide | (simp; done) | (simp <;> omega)) ?_ | refine c_lt ?_ | refine c_le ?_ | refine c_gt ?_ | refine c_ge ?_ | refine c_eqI ?_ | refine c_neI ?_ | refine c_is ?_ | refine c_isnot ?_ | refine c_eqB ?_ | refine c_neB ?_ | refine c_eqS ?_ | refine c_neS ?_ | refine b_iadd ?_ | refine b_isub ?_ | refine b_imul (by first | omega | (constructor <;> omega) | exact Or.inl ⟨by omega, by omega⟩ | exact Or.inr ⟨by omega, by omega⟩) ?_) | refine x_non ?_ | refine x_str ?_ | refine x_bl ?_ | refine x_bin ?_ | refine x_cmp ?_ (by rfl) | refine t_cmp ?_ (by rfl) | refine t_chain ?_ (by with_unfolding_all rfl) | refine x_chain ?_ (by with_unfolding_all rfl) | refine t_not ?_ | refine x_neg ?_ | refine x_if ?_ | refine a_cons ?_ (fun _ => rfl) | refine a_nil ?_ | refine x_tup ?_ | refine x_ix ?_ (fun _ _ => rfl) | refine ix_tup rfl ?_ | refine dats_ex (by first | exact Nat.le_of_ble_eq_true rfl | decide | (simp; done) | (simp <;> omega)) ?_ | refine r_cons ?_ | refine r_nil ?_ | refine s_ret ?_ | refine s_if ?_ | (refine s_st (by first | exact Or.inl rfl | exact Or.inr rfl) (by first | exact Or.inl rfl | exact Or.inr rfl) ?_ (fun _ => rfl)) | (refine s_ag (by first | exact Or.inl rfl | exact Or.inr rfl) (by first | exact Or.inl rfl | exact Or.inr rfl) rfl ?_) | refine s_expr ?_ (fun _ => rfl))
  refine ⟨z, rfl, by omega, by omega, fun a δ M2 => ∃ L F : List Int, (L ++ F).Perm (rg 1 (m + 1)) ∧ F.length = a ∧ (∃ z1, δ = [some (.scr ns), some (.mut j), some (.dat (.int m)), some (.dat (.int z)), some (.mut M.length), some (.mut (M.length + 1)), z1]) ∧
    M2 = M ++ [.lst (L.map D.int)] ++ [.lst (F.map D.int)], ⟨rg 1 (m + 1), [], by rw [List.append_nil], rfl, ⟨none, ?_⟩, ?_⟩, fun i δ M2 _ j e => (by cases e), ?_, ?_⟩
  · rw [List.length_append]
    rfl
  · rw [rgD_eq]
    rfl
  · rintro a d δ M2 ha ⟨L, F, hp, hF, ⟨z1, rfl⟩, rfl⟩
    obtain ⟨h2, rfl⟩ := rg0_get ha
    have hLl : L.length + F.length = m.toNat := by
      have := hp.length_eq
      rw [List.length_append, rg_len] at this
      omega
    have g1 : (M ++ [MO.lst (L.map D.int)] ++ [.lst (F.map D.int)])[M.length]? = some (.lst (L.map D.int)) := by
      rw [List.append_assoc, List.getElem?_append_right (Nat.le_refl _), Nat.sub_self]
      rfl
    refine gx_n (by first | exact Or.inl rfl | exact Or.inr rfl) (by first | exact Or.inl rfl | exact Or.inr rfl) ?_
    refine r_one (s_expr ?_ (fun _ => rfl))
    refine x_lm PySem.F.slot_list_append PySem.F.type_list_append ?_ (fun _ => rfl) (fun _ => rfl) rfl (fun _ => rfl) (fun _ => rfl)
    refine x_v rfl (by first | exact Or.inl rfl | exact Or.inr (Or.inl rfl) | exact Or.inr (Or.inr rfl)) ?_
    refine ⟨M.length + 1, F.map D.int, rfl, ?_, ?_⟩
    · rw [List.getElem?_append_right (by rw [List.length_append]; exact Nat.le_refl _), List.length_append]
      simp
    refine a_cons ?_ (fun _ => rfl)
    refine x_lm PySem.F.slot_list_pop PySem.F.type_list_pop ?_ (fun _ => rfl) (fun _ => rfl) rfl (fun _ => rfl) (fun _ => rfl)
    refine x_v rfl (by first | exact Or.inl rfl | exact Or.inr (Or.inl rfl) | exact Or.inr (Or.inr rfl)) ?_
    refine ⟨M.length, L.map D.int, rfl, g1, ?_⟩
    refine a_cons ?_ (fun _ => rfl)
    refine x_call (d_law_draw T) (Nat.le_of_ble_eq_true rfl) rfl ?_ (fun _ => rfl) (fun _ => rfl)
    refine a_cons ?_ (fun _ => rfl)
    refine x_v rfl (by first | exact Or.inl rfl | exact Or.inr (Or.inl rfl) | exact Or.inr (Or.inr rfl)) ?_
    refine a_cons ?_ (fun _ => rfl)
    refine x_v rfl (by first | exact Or.inl rfl | exact Or.inr (Or.inl rfl) | exact Or.inr (Or.inr rfl)) ?_
    refine a_cons ?_ (fun _ => rfl)
    refine x_blt rfl T.b_len PySem.boot_len ?_ (fun _ => rfl) (fun _ => rfl)
    refine a_cons ?_ (fun _ => rfl)
    refine x_v rfl (by first | exact Or.inl rfl | exact Or.inr (Or.inl rfl) | exact Or.inr (Or.inr rfl)) ?_
    refine a_nil (ca_len (isS_mut g1) (a_nil ?_))
    rw [List.length_map]
    refine ⟨rfl, ns, j, i, L.length, rfl, hn, ?_, ?_, by omega, by omega, fun r h3 h4 => ?_⟩
    · rw [List.append_assoc, List.getElem?_append_left jl]; exact hj
    · rw [List.append_assoc, List.getElem?_append_left il]; exact hi
    obtain ⟨rn, rfl⟩ : ∃ rn : Nat, r = (rn : Int) := ⟨r.toNat, by omega⟩
    have hr : rn < L.length := by omega
    refine a_nil (me_popAt (d := D.int L[rn]) g1 (by rw [List.getElem?_map, List.getElem?_eq_getElem hr]; rfl) (by rw [List.length_map]; omega) ?_)
    have e1 : (M ++ [MO.lst (L.map D.int)] ++ [MO.lst (F.map D.int)]).set M.length (MO.lst ((L.map D.int).eraseIdx rn)) = M ++ [MO.lst ((L.eraseIdx rn).map D.int)] ++ [MO.lst (F.map D.int)] := by
      rw [List.append_assoc, List.set_append_right _ _ (Nat.le_refl _), Nat.sub_self, erase_map, List.append_assoc]
      rfl
    rw [e1]
    have l1 : M.length + 1 = (M ++ [MO.lst ((L.eraseIdx rn).map D.int)]).length := by rw [List.length_append]; rfl
    refine a_nil (me_append (ds := F.map D.int) ?_ (by rw [List.length_map]; omega) ?_)
    · rw [l1]
      exact get_push
    rw [l1, set_push]
    refine ⟨L.eraseIdx rn, F ++ [L[rn]], ?_, by rw [List.length_append, hF]; rfl, ⟨some (.dat (.int (a : Nat))), ?_⟩, ?_⟩
    · exact (take_drop_perm (List.getElem?_eq_getElem hr) F).trans hp
    · rw [← l1]
      rfl
    · rw [List.map_append]
      rfl
  · rintro δ M2 ⟨L, F, hp, hF, ⟨z1, rfl⟩, rfl⟩
    rw [rg0_len] at hF
    refine r_one (s_ret ?_)
    refine x_ty rfl T.b_tuple PyProof.Rows.boot_tuple ?_ (fun _ => rfl) (fun _ => rfl)
    refine a_cons ?_ (fun _ => rfl)
    refine x_F ?_
    refine f_blt rfl T.b_sorted PyProof.Rows.boot_sorted ?_ (fun _ => rfl) (fun _ => rfl)
    refine a_cons ?_ (fun _ => rfl)
    refine x_v rfl (by first | exact Or.inl rfl | exact Or.inr (Or.inl rfl) | exact Or.inr (Or.inr rfl)) ?_
    have hFl : F.length ≤ m.toNat := by
      have := hp.length_eq
      rw [List.length_append, rg_len] at this
      omega
    refine a_nil (cf_sorted (ns := F) (isL_mut ?_) (by omega) fun ns' h1 h2 => ?_)
    · rw [show M.length + 1 = (M ++ [MO.lst (L.map D.int)]).length by rw [List.length_append]; rfl]
      exact get_push
    refine a_nil (ca_tuple isS_ls ?_)
    rw [List.append_assoc]
    exact fin_dat (q ns' (row_of h1 h2 hp) (by rw [h1.length_eq, hF]; omega))
end
end My

namespace My
open PySem L2 Fx
section
variable {P : Program} {w : World} {K : PySem.W.Frag} {mg : Str → Option Value} {base : Heap}
def A_law_a_book : ASp := fun as M Post => ∃ (ns : List Int) (j i : Nat) (m g : Int), as = [.scr ns, .mut j, .dat (.int m), .dat (.int g)] ∧ ns.length ≤ 63 ∧ M[j]? = some (.town i) ∧ M[i]? = some .rests ∧ 1 ≤ m ∧ m ≤ 60 ∧ 0 ≤ g ∧ g ≤ 1000 ∧
  ∀ b : List (List Int), Book m b → (b.length : Int) ≤ g → Post (.dat (tII b)) M
theorem d_law_a_book (T : Txt K mg) : DefOk P w K mg base lv_law_a_book "_law_a_book" s_law_a_book ps_law_a_book (spOf K ps_law_a_book.length A_law_a_book) := by
  obtain ⟨fa, fd, hm, F, hb⟩ := T.f_law_a_book
  refine ⟨fa, fd, hm, F, hb, fn_mk F sc_law_a_book fun as M Post hl hA => ?_⟩
  obtain ⟨ns, j, i, m, g, rfl, hn, hj, hi, hm0, hm1, hg0, hg1, q⟩ := hA
  show Run (c_law_a_book P w K mg base _) [some (.scr ns), some (.mut j), some (.dat (.int m)), some (.dat (.int g)), none, none] M _ _
  refine r_cons ?_
  refine s_st (by first | exact Or.inl rfl | exact Or.inr rfl) (by first | exact Or.inl rfl | exact Or.inr rfl) ?_ (fun _ => rfl)
  repeat (first | refine x_int ?_ | (refine x_v rfl (by first | exact Or.inl rfl | exact Or.inr (Or.inl rfl) | exact Or.inr (Or.inr rfl)) ?_) | (first | refine b_add ?_ | refine b_sub ?_ | refine b_mul (by first | omega | (constructor <;> omega) | exact Or.inl ⟨by omega, by omega⟩ | exact Or.inr ⟨by omega, by omega⟩) ?_ | refine b_div (by first | omega | (constructor <;> omega) | exact Or.inl ⟨by omega, by omega⟩ | exact Or.inr ⟨by omega, by omega⟩) ?_ | refine b_mod (by first | omega | (constructor <;> omega) | exact Or.inl ⟨by omega, by omega⟩ | exact Or.inr ⟨by omega, by omega⟩) ?_ | refine b_strs (by first | omega | (constructor <;> omega) | exact Or.inl ⟨by omega, by omega⟩ | exact Or.inr ⟨by omega, by omega⟩) ?_ | refine b_catT (by first | exact Nat.le_of_ble_eq_true rfl | decide | (simp; done) | (simp <;> omega)) ?_ | refine c_lt ?_ | refine c_le ?_ | refine c_gt ?_ | refine c_ge ?_ | refine c_eqI ?_ | refine c_neI ?_ | refine c_is ?_ | refine c_isnot ?_ | refine c_eqB ?_ | refine c_neB ?_ | refine c_eqS ?_ | refine c_neS ?_ | refine b_iadd ?_ | refine b_isub ?_ | refine b_imul (by first | omega | (constructor <;> omega) | exact Or.inl ⟨by omega, by omega⟩ | exact Or.inr ⟨by omega, by omega⟩) ?_) | refine x_non ?_ | refine x_str ?_ | refine x_bl ?_ | refine x_bin ?_ | refine x_cmp ?_ (by rfl) | refine t_cmp ?_ (by rfl) | refine t_chain ?_ (by with_unfolding_all rfl) | refine x_chain ?_ (by with_unfolding_all rfl) | refine t_not ?_ | refine x_neg ?_ | refine x_if ?_ | refine a_cons ?_ (fun _ => rfl) | refine a_nil ?_ | refine x_tup ?_ | refine x_ix ?_ (fun _ _ => rfl) | refine ix_tup rfl ?_ | refine dats_ex (by first | exact Nat.le_of_ble_eq_true rfl | decide | (simp; done) | (simp <;> omega)) ?_ | refine r_cons ?_ | refine r_nil ?_ | refine s_ret ?_ | refine s_if ?_ | (refine s_st (by first | exact Or.inl rfl | exact Or.inr rfl) (by first | exact Or.inl rfl | exact Or.inr rfl) ?_ (fun _ => rfl)) | (refine s_ag (by first | exact Or.inl rfl | exact Or.inr rfl) (by first | exact Or.inl rfl | exact Or.inr rfl) rfl ?_) | refine s_expr ?_ (fun _ => rfl))
  refine s_for (i_rng1 T.b_range rfl ?_ (fun _ => rfl)) (fun _ _ => rfl)
  refine a_cons ?_ (fun _ => rfl)
  refine x_call (d_law_draw T) (Nat.le_of_ble_eq_true rfl) rfl ?_ (fun _ => rfl) (fun _ => rfl)
  repeat (first | refine x_int ?_ | (refine x_v rfl (by first | exact Or.inl rfl | exact Or.inr (Or.inl rfl) | exact Or.inr (Or.inr rfl)) ?_) | (first | refine b_add ?_ | refine b_sub ?_ | refine b_mul (by first | omega | (constructor <;> omega) | exact Or.inl ⟨by omega, by omega⟩ | exact Or.inr ⟨by omega, by omega⟩) ?_ | refine b_div (by first | omega | (constructor <;> omega) | exact Or.inl ⟨by omega, by omega⟩ | exact Or.inr ⟨by omega, by omega⟩) ?_ | refine b_mod (by first | omega | (constructor <;> omega) | exact Or.inl ⟨by omega, by omega⟩ | exact Or.inr ⟨by omega, by omega⟩) ?_ | refine b_strs (by first | omega | (constructor <;> omega) | exact Or.inl ⟨by omega, by omega⟩ | exact Or.inr ⟨by omega, by omega⟩) ?_ | refine b_catT (by first | exact Nat.le_of_ble_eq_true rfl | decide | (simp; done) | (simp <;> omega)) ?_ | refine c_lt ?_ | refine c_le ?_ | refine c_gt ?_ | refine c_ge ?_ | refine c_eqI ?_ | refine c_neI ?_ | refine c_is ?_ | refine c_isnot ?_ | refine c_eqB ?_ | refine c_neB ?_ | refine c_eqS ?_ | refine c_neS ?_ | refine b_iadd ?_ | refine b_isub ?_ | refine b_imul (by first | omega | (constructor <;> omega) | exact Or.inl ⟨by omega, by omega⟩ | exact Or.inr ⟨by omega, by omega⟩) ?_) | refine x_non ?_ | refine x_str ?_ | refine x_bl ?_ | refine x_bin ?_ | refine x_cmp ?_ (by rfl) | refine t_cmp ?_ (by rfl) | refine t_chain ?_ (by with_unfolding_all rfl) | refine x_chain ?_ (by with_unfolding_all rfl) | refine t_not ?_ | refine x_neg ?_ | refine x_if ?_ | refine a_cons ?_ (fun _ => rfl) | refine a_nil ?_ | refine x_tup ?_ | refine x_ix ?_ (fun _ _ => rfl) | refine ix_tup rfl ?_ | refine dats_ex (by first | exact Nat.le_of_ble_eq_true rfl | decide | (simp; done) | (simp <;> omega)) ?_ | refine r_cons ?_ | refine r_nil ?_ | refine s_ret ?_ | refine s_if ?_ | (refine s_st (by first | exact Or.inl rfl | exact Or.inr rfl) (by first | exact Or.inl rfl | exact Or.inr rfl) ?_ (fun _ => rfl)) | (refine s_ag (by first | exact Or.inl rfl | exact Or.inr rfl) (by first | exact Or.inl rfl | exact Or.inr rfl) rfl ?_) | refine s_expr ?_ (fun _ => rfl))
  refine ⟨rfl, ns, j, i, g + 1, rfl, hn, hj, hi, by omega, by omega, fun n h0 h1 => ?_⟩
  refine a_nil ⟨n, rfl, by omega, by omega, fun a δ M2 => M2 = M ∧ ∃ (b : List (List Int)) (z1 : Option AV), Book m b ∧ b.length = a ∧ δ = [some (.scr ns), some (.mut j), some (.dat (.int m)), some (.dat (.int g)), some (.dat (tII b)), z1], ⟨rfl, [], _, (by intro t h; cases h), rfl, rfl⟩, fun i δ M2 _ j e => (by cases e), ?_, ?_⟩
  · rintro a d δ M2 ha ⟨rfl, b, z1, hbk, hbl, rfl⟩
    obtain ⟨h2, rfl⟩ := rg0_get ha
    refine gx_n (by first | exact Or.inl rfl | exact Or.inr rfl) (by first | exact Or.inl rfl | exact Or.inr rfl) ?_
    refine r_one ?_
    refine s_st (by first | exact Or.inl rfl | exact Or.inr rfl) (by first | exact Or.inl rfl | exact Or.inr rfl) ?_ (fun _ => rfl)
    refine x_bin ?_
    refine x_v rfl (by first | exact Or.inl rfl | exact Or.inr (Or.inl rfl) | exact Or.inr (Or.inr rfl)) ?_
    refine x_tup ?_
    refine a_cons ?_ (fun _ => rfl)
    refine x_call (d_law_a_row T) (Nat.le_of_ble_eq_true rfl) rfl ?_ (fun _ => rfl) (fun _ => rfl)
    refine a_cons ?_ (fun _ => rfl)
    refine x_v rfl (by first | exact Or.inl rfl | exact Or.inr (Or.inl rfl) | exact Or.inr (Or.inr rfl)) ?_
    refine a_cons ?_ (fun _ => rfl)
    refine x_v rfl (by first | exact Or.inl rfl | exact Or.inr (Or.inl rfl) | exact Or.inr (Or.inr rfl)) ?_
    refine a_cons ?_ (fun _ => rfl)
    refine x_v rfl (by first | exact Or.inl rfl | exact Or.inr (Or.inl rfl) | exact Or.inr (Or.inr rfl)) ?_
    refine a_cons ?_ (fun _ => rfl)
    refine x_bin ?_
    refine x_int ?_
    refine x_call (d_law_draw T) (Nat.le_of_ble_eq_true rfl) rfl ?_ (fun _ => rfl) (fun _ => rfl)
    repeat (first | refine x_int ?_ | (refine x_v rfl (by first | exact Or.inl rfl | exact Or.inr (Or.inl rfl) | exact Or.inr (Or.inr rfl)) ?_) | (first | refine b_add ?_ | refine b_sub ?_ | refine b_mul (by first | omega | (constructor <;> omega) | exact Or.inl ⟨by omega, by omega⟩ | exact Or.inr ⟨by omega, by omega⟩) ?_ | refine b_div (by first | omega | (constructor <;> omega) | exact Or.inl ⟨by omega, by omega⟩ | exact Or.inr ⟨by omega, by omega⟩) ?_ | refine b_mod (by first | omega | (constructor <;> omega) | exact Or.inl ⟨by omega, by omega⟩ | exact Or.inr ⟨by omega, by omega⟩) ?_ | refine b_strs (by first | omega | (constructor <;> omega) | exact Or.inl ⟨by omega, by omega⟩ | exact Or.inr ⟨by omega, by omega⟩) ?_ | refine b_catT (by first | exact Nat.le_of_ble_eq_true rfl | decide | (simp; done) | (simp <;> omega)) ?_ | refine c_lt ?_ | refine c_le ?_ | refine c_gt ?_ | refine c_ge ?_ | refine c_eqI ?_ | refine c_neI ?_ | refine c_is ?_ | refine c_isnot ?_ | refine c_eqB ?_ | refine c_neB ?_ | refine c_eqS ?_ | refine c_neS ?_ | refine b_iadd ?_ | refine b_isub ?_ | refine b_imul (by first | omega | (constructor <;> omega) | exact Or.inl ⟨by omega, by omega⟩ | exact Or.inr ⟨by omega, by omega⟩) ?_) | refine x_non ?_ | refine x_str ?_ | refine x_bl ?_ | refine x_bin ?_ | refine x_cmp ?_ (by rfl) | refine t_cmp ?_ (by rfl) | refine t_chain ?_ (by with_unfolding_all rfl) | refine x_chain ?_ (by with_unfolding_all rfl) | refine t_not ?_ | refine x_neg ?_ | refine x_if ?_ | refine a_cons ?_ (fun _ => rfl) | refine a_nil ?_ | refine x_tup ?_ | refine x_ix ?_ (fun _ _ => rfl) | refine ix_tup rfl ?_ | refine dats_ex (by first | exact Nat.le_of_ble_eq_true rfl | decide | (simp; done) | (simp <;> omega)) ?_ | refine r_cons ?_ | refine r_nil ?_ | refine s_ret ?_ | refine s_if ?_ | (refine s_st (by first | exact Or.inl rfl | exact Or.inr rfl) (by first | exact Or.inl rfl | exact Or.inr rfl) ?_ (fun _ => rfl)) | (refine s_ag (by first | exact Or.inl rfl | exact Or.inr rfl) (by first | exact Or.inl rfl | exact Or.inr rfl) rfl ?_) | refine s_expr ?_ (fun _ => rfl))
    refine ⟨rfl, ns, j, i, m, rfl, hn, hj, hi, by omega, by omega, fun r h3 h4 => ?_⟩
    refine b_add (a_nil ?_)
    obtain ⟨rn, hrn⟩ : ∃ rn : Nat, 1 + r = (rn : Int) := ⟨(1 + r).toNat, by omega⟩
    rw [hrn]
    refine ⟨rfl, ns, j, i, m, rn, rfl, hn, hj, hi, by omega, hm1, by omega, fun row hrow hrl => ?_⟩
    refine a_nil ?_
    refine dats_ex (by first | exact Nat.le_of_ble_eq_true rfl | decide | (simp; done) | (simp <;> omega)) ?_
    refine b_catT (by simp <;> omega) ?_
    refine ⟨rfl, b ++ [row], some (.dat (.int (a : Nat))), ?_, by rw [List.length_append, hbl]; rfl, ?_⟩
    · intro t ht
      rcases List.mem_append.mp ht with ht | ht
      · exact hbk t ht
      · rw [List.mem_singleton.mp ht]
        refine ⟨hrow, fun e => ?_⟩
        rw [e] at hrl
        have : (0 : Nat) = rn := hrl
        omega
    · show _ = [some (AV.scr ns), some (.mut j), some (.dat (.int m)), some (.dat (.int g)), some (.dat (.tup ((b ++ [row]).map tI))), _]
      rw [List.map_append]
      rfl
  · rintro δ M2 ⟨rfl, b, z1, hbk, hbl, rfl⟩
    rw [rg0_len] at hbl
    repeat (first | refine x_int ?_ | (refine x_v rfl (by first | exact Or.inl rfl | exact Or.inr (Or.inl rfl) | exact Or.inr (Or.inr rfl)) ?_) | (first | refine b_add ?_ | refine b_sub ?_ | refine b_mul (by first | omega | (constructor <;> omega) | exact Or.inl ⟨by omega, by omega⟩ | exact Or.inr ⟨by omega, by omega⟩) ?_ | refine b_div (by first | omega | (constructor <;> omega) | exact Or.inl ⟨by omega, by omega⟩ | exact Or.inr ⟨by omega, by omega⟩) ?_ | refine b_mod (by first | omega | (constructor <;> omega) | exact Or.inl ⟨by omega, by omega⟩ | exact Or.inr ⟨by omega, by omega⟩) ?_ | refine b_strs (by first | omega | (constructor <;> omega) | exact Or.inl ⟨by omega, by omega⟩ | exact Or.inr ⟨by omega, by omega⟩) ?_ | refine b_catT (by first | exact Nat.le_of_ble_eq_true rfl | decide | (simp; done) | (simp <;> omega)) ?_ | refine c_lt ?_ | refine c_le ?_ | refine c_gt ?_ | refine c_ge ?_ | refine c_eqI ?_ | refine c_neI ?_ | refine c_is ?_ | refine c_isnot ?_ | refine c_eqB ?_ | refine c_neB ?_ | refine c_eqS ?_ | refine c_neS ?_ | refine b_iadd ?_ | refine b_isub ?_ | refine b_imul (by first | omega | (constructor <;> omega) | exact Or.inl ⟨by omega, by omega⟩ | exact Or.inr ⟨by omega, by omega⟩) ?_) | refine x_non ?_ | refine x_str ?_ | refine x_bl ?_ | refine x_bin ?_ | refine x_cmp ?_ (by rfl) | refine t_cmp ?_ (by rfl) | refine t_chain ?_ (by with_unfolding_all rfl) | refine x_chain ?_ (by with_unfolding_all rfl) | refine t_not ?_ | refine x_neg ?_ | refine x_if ?_ | refine a_cons ?_ (fun _ => rfl) | refine a_nil ?_ | refine x_tup ?_ | refine x_ix ?_ (fun _ _ => rfl) | refine ix_tup rfl ?_ | refine dats_ex (by first | exact Nat.le_of_ble_eq_true rfl | decide | (simp; done) | (simp <;> omega)) ?_ | refine r_cons ?_ | refine r_nil ?_ | refine s_ret ?_ | refine s_if ?_ | (refine s_st (by first | exact Or.inl rfl | exact Or.inr rfl) (by first | exact Or.inl rfl | exact Or.inr rfl) ?_ (fun _ => rfl)) | (refine s_ag (by first | exact Or.inl rfl | exact Or.inr rfl) (by first | exact Or.inl rfl | exact Or.inr rfl) rfl ?_) | refine s_expr ?_ (fun _ => rfl))
    exact fin_same (q b hbk (by omega))
end
end My

namespace My
open PySem L2 Fx
section
variable {P : Program} {w : World} {K : PySem.W.Frag} {mg : Str → Option Value} {base : Heap}
def A_law_class (cs : Nat → Addr) (rs : List Nat) : ASp := fun as M Post => ∃ (i : Nat) (fs : List (Str × D)), as = [.exc (cs i) fs] ∧ i ∈ rs ∧ Post (.dat (.str (kindS.getD i ""))) M
theorem d_law_class (T : Txt K mg) {cs : Nat → Addr} {TE : Addr} {rs : List Nat} [EX : Exs K mg cs TE rs] : DefOk P w K mg base lv_law_class "_law_class" s_law_class ps_law_class (spOf K ps_law_class.length (A_law_class cs rs)) := by
  obtain ⟨fa, fd, hm, F, hb⟩ := T.f_law_class
  refine ⟨fa, fd, hm, F, hb, fn_mk F sc_law_class fun as M Post hl hA => ?_⟩
  obtain ⟨i, fs, rfl, hi, q⟩ := hA
  obtain ⟨hi7, hC, hex, hval, hkit⟩ := EX.own i hi
  show Run (c_law_class P w K mg base _) [some (.exc (cs i) fs), none] M _ _
  refine r_cons ?_
  refine s_st (by first | exact Or.inl rfl | exact Or.inr rfl) (by first | exact Or.inl rfl | exact Or.inr rfl) ?_ (fun _ => rfl)
  refine x_F (f_lst ?_)
  refine a_cons (x_isiX rfl T.b_isinstance rfl EX.n0 ?_ (fun _ => rfl)) (fun _ => rfl)
  refine x_v rfl (by first | exact Or.inl rfl | exact Or.inr (Or.inl rfl) | exact Or.inr (Or.inr rfl)) ?_
  refine ⟨_, _, _, rfl, hC, hkit 0 (by omega), ?_⟩
  refine a_cons (x_isiX rfl T.b_isinstance rfl EX.n1 ?_ (fun _ => rfl)) (fun _ => rfl)
  refine x_v rfl (by first | exact Or.inl rfl | exact Or.inr (Or.inl rfl) | exact Or.inr (Or.inr rfl)) ?_
  refine ⟨_, _, _, rfl, hC, hkit 1 (by omega), ?_⟩
  refine a_cons (x_isiX rfl T.b_isinstance rfl EX.n2 ?_ (fun _ => rfl)) (fun _ => rfl)
  refine x_v rfl (by first | exact Or.inl rfl | exact Or.inr (Or.inl rfl) | exact Or.inr (Or.inr rfl)) ?_
  refine ⟨_, _, _, rfl, hC, hkit 2 (by omega), ?_⟩
  refine a_cons (x_isiX rfl T.b_isinstance rfl EX.n3 ?_ (fun _ => rfl)) (fun _ => rfl)
  refine x_v rfl (by first | exact Or.inl rfl | exact Or.inr (Or.inl rfl) | exact Or.inr (Or.inr rfl)) ?_
  refine ⟨_, _, _, rfl, hC, hkit 3 (by omega), ?_⟩
  refine a_nil (dats_ex (by first | exact Nat.le_of_ble_eq_true rfl | decide | (simp; done) | (simp <;> omega)) ?_)
  refine r_cons ?_
  refine s_st (by first | exact Or.inl rfl | exact Or.inr rfl) (by first | exact Or.inl rfl | exact Or.inr rfl) ?_ (fun _ => rfl)
  refine x_bin ?_
  refine x_v rfl (by first | exact Or.inl rfl | exact Or.inr (Or.inl rfl) | exact Or.inr (Or.inr rfl)) ?_
  refine x_F (f_lst ?_)
  refine a_cons (x_isiX rfl T.b_isinstance rfl EX.n4 ?_ (fun _ => rfl)) (fun _ => rfl)
  refine x_v rfl (by first | exact Or.inl rfl | exact Or.inr (Or.inl rfl) | exact Or.inr (Or.inr rfl)) ?_
  refine ⟨_, _, _, rfl, hC, hkit 4 (by omega), ?_⟩
  refine a_cons (x_isiX rfl T.b_isinstance rfl EX.n5 ?_ (fun _ => rfl)) (fun _ => rfl)
  refine x_v rfl (by first | exact Or.inl rfl | exact Or.inr (Or.inl rfl) | exact Or.inr (Or.inr rfl)) ?_
  refine ⟨_, _, _, rfl, hC, hkit 5 (by omega), ?_⟩
  refine a_cons (x_isiX rfl T.b_isinstance rfl EX.n6 ?_ (fun _ => rfl)) (fun _ => rfl)
  refine x_v rfl (by first | exact Or.inl rfl | exact Or.inr (Or.inl rfl) | exact Or.inr (Or.inr rfl)) ?_
  refine ⟨_, _, _, rfl, hC, hkit 6 (by omega), ?_⟩
  refine a_nil (dats_ex (by first | exact Nat.le_of_ble_eq_true rfl | decide | (simp; done) | (simp <;> omega)) (b_catL isL_ls isL_ls (by show 4 + 3 ≤ 1000000; decide) ?_))
  have hcount : (((([D.bl (decide (i = 0)), D.bl (decide (i = 1)), D.bl (decide (i = 2)), D.bl (decide (i = 3))] ++ [D.bl (decide (i = 4)), D.bl (decide (i = 5)), D.bl (decide (i = 6))]).map flV).countP fun z => eqV z (flV (.bl true)) : Nat) : Int) = 1 ∧
      (([D.bl (decide (i = 0)), D.bl (decide (i = 1)), D.bl (decide (i = 2)), D.bl (decide (i = 3))] ++ [D.bl (decide (i = 4)), D.bl (decide (i = 5)), D.bl (decide (i = 6))]).map flV)[i]? = some (V.bl true) ∧ eqV (V.bl true) (flV (.bl true)) = true ∧
      ∀ (m : Nat) (z' : V), m < i → (([D.bl (decide (i = 0)), D.bl (decide (i = 1)), D.bl (decide (i = 2)), D.bl (decide (i = 3))] ++ [D.bl (decide (i = 4)), D.bl (decide (i = 5)), D.bl (decide (i = 6))]).map flV)[m]? = some z' → eqV z' (flV (.bl true)) = false := by
    have hcase : i = 0 ∨ i = 1 ∨ i = 2 ∨ i = 3 ∨ i = 4 ∨ i = 5 ∨ i = 6 := by omega
    rcases hcase with rfl | rfl | rfl | rfl | rfl | rfl | rfl <;> refine ⟨rfl, rfl, rfl, fun m z' hm hz => ?_⟩
    all_goals
      match m, hm with
      | 0, _ => first | (cases hz; rfl) | omega
      | 1, _ => first | (cases hz; rfl) | omega
      | 2, _ => first | (cases hz; rfl) | omega
      | 3, _ => first | (cases hz; rfl) | omega
      | 4, _ => first | (cases hz; rfl) | omega
      | 5, _ => first | (cases hz; rfl) | omega
      | m + 6, h => omega
  obtain ⟨h1, h2, h3, h4⟩ := hcount
  refine r_cons (s_ifF (t_W (w_or (t_cmp (x_lcountF ?_ (fun _ => rfl) (fun _ => rfl) rfl (fun _ => rfl)) (by rfl)))) ?_)
  · refine x_v rfl (by first | exact Or.inl rfl | exact Or.inr (Or.inl rfl) | exact Or.inr (Or.inr rfl)) ?_
    refine ⟨_, rfl, rfl, x_bl ⟨_, rfl, rfl, ?_⟩⟩
    rw [h1]
    refine x_int (c_neI ⟨fun h => (by cases h), fun _ => w_or1 (t_not (t_val (x_isiXT rfl T.b_isinstance rfl T.b_ValueError PyProof.Rows.Boot.«ValueError» ?_ (fun _ => rfl)) (fun _ _ => rfl)))⟩)
    refine x_v rfl (by first | exact Or.inl rfl | exact Or.inr (Or.inl rfl) | exact Or.inr (Or.inr rfl)) ?_
    refine ⟨_, _, _, rfl, hC, hval, true, rfl, ?_⟩
    exact ⟨rfl, rfl⟩
  refine r_nil (r_one (s_ret (x_ix ?_ (fun _ _ => rfl))))
  refine x_F (f_lst ?_)
  repeat (first | refine x_int ?_ | (refine x_v rfl (by first | exact Or.inl rfl | exact Or.inr (Or.inl rfl) | exact Or.inr (Or.inr rfl)) ?_) | (first | refine b_add ?_ | refine b_sub ?_ | refine b_mul (by first | omega | (constructor <;> omega) | exact Or.inl ⟨by omega, by omega⟩ | exact Or.inr ⟨by omega, by omega⟩) ?_ | refine b_div (by first | omega | (constructor <;> omega) | exact Or.inl ⟨by omega, by omega⟩ | exact Or.inr ⟨by omega, by omega⟩) ?_ | refine b_mod (by first | omega | (constructor <;> omega) | exact Or.inl ⟨by omega, by omega⟩ | exact Or.inr ⟨by omega, by omega⟩) ?_ | refine b_strs (by first | omega | (constructor <;> omega) | exact Or.inl ⟨by omega, by omega⟩ | exact Or.inr ⟨by omega, by omega⟩) ?_ | refine b_catT (by first | exact Nat.le_of_ble_eq_true rfl | decide | (simp; done) | (simp <;> omega)) ?_ | refine c_lt ?_ | refine c_le ?_ | refine c_gt ?_ | refine c_ge ?_ | refine c_eqI ?_ | refine c_neI ?_ | refine c_is ?_ | refine c_isnot ?_ | refine c_eqB ?_ | refine c_neB ?_ | refine c_eqS ?_ | refine c_neS ?_ | refine b_iadd ?_ | refine b_isub ?_ | refine b_imul (by first | omega | (constructor <;> omega) | exact Or.inl ⟨by omega, by omega⟩ | exact Or.inr ⟨by omega, by omega⟩) ?_) | refine x_non ?_ | refine x_str ?_ | refine x_bl ?_ | refine x_bin ?_ | refine x_cmp ?_ (by rfl) | refine t_cmp ?_ (by rfl) | refine t_chain ?_ (by with_unfolding_all rfl) | refine x_chain ?_ (by with_unfolding_all rfl) | refine t_not ?_ | refine x_neg ?_ | refine x_if ?_ | refine a_cons ?_ (fun _ => rfl) | refine a_nil ?_ | refine x_tup ?_ | refine x_ix ?_ (fun _ _ => rfl) | refine ix_tup rfl ?_ | refine dats_ex (by first | exact Nat.le_of_ble_eq_true rfl | decide | (simp; done) | (simp <;> omega)) ?_ | refine r_cons ?_ | refine r_nil ?_ | refine s_ret ?_ | refine s_if ?_ | (refine s_st (by first | exact Or.inl rfl | exact Or.inr rfl) (by first | exact Or.inl rfl | exact Or.inr rfl) ?_ (fun _ => rfl)) | (refine s_ag (by first | exact Or.inl rfl | exact Or.inr rfl) (by first | exact Or.inl rfl | exact Or.inr rfl) rfl ?_) | refine s_expr ?_ (fun _ => rfl))
  refine x_lindexF ?_ (fun _ => rfl) (fun _ => rfl) rfl (fun _ => rfl)
  refine x_v rfl (by first | exact Or.inl rfl | exact Or.inr (Or.inl rfl) | exact Or.inr (Or.inr rfl)) ?_
  refine ⟨_, rfl, rfl, x_bl ⟨.bl true, i, .bl true, rfl, rfl, h2, h3, h4, ?_⟩⟩
  refine ix_ls (d := .str (kindS.getD i "")) (atI_at rfl ?_) (fin_same q)
  have hcase : i = 0 ∨ i = 1 ∨ i = 2 ∨ i = 3 ∨ i = 4 ∨ i = 5 ∨ i = 6 := by omega
  rcases hcase with rfl | rfl | rfl | rfl | rfl | rfl | rfl <;> rfl
end
end My

namespace My
open PySem L2 Fx
section
variable {P : Program} {w : World} {K : PySem.W.Frag} {mg : Str → Option Value} {base : Heap}
theorem heard_rest (T : Txt K mg) {cs : Nat → Addr} {TE : Addr} {rs : List Nat} [EX : Exs K mg cs TE rs] {k : Nat} (hk : 1 ≤ k) {M : List MO} {Post : AQ} (f : Addr) :
    (∀ d, Post (.dat (.tup [.str "told", d])) M → Run (c_law_heard P w K mg base k) [some (.fn f), some (.dat .non), some (.dat d), none, none] M ((defBody s_law_heard).drop 2) { nx := fun _ _ => False, rt := Post }) ∧
    (∀ i fs d, i ∈ rs → heardD i fs = some d → Post (.dat d) M → Run (c_law_heard P w K mg base k) [some (.fn f), some (.exc (cs i) fs), some (.dat .non), none, none] M ((defBody s_law_heard).drop 2) { nx := fun _ _ => False, rt := Post }) := by
  refine ⟨fun d q => ?_, fun i fs d hi hd q => ?_⟩
  · refine r_cons (s_if (t_cmp ?_ (by rfl)))
    refine x_v rfl (by first | exact Or.inl rfl | exact Or.inr (Or.inl rfl) | exact Or.inr (Or.inr rfl)) ?_
    refine x_non (c_is ⟨fun _ => r_one (s_ret (x_tup (a_cons (x_str ?_) (fun _ => rfl)))), fun h => by cases h⟩)
    refine a_cons ?_ (fun _ => rfl)
    refine x_v rfl (by first | exact Or.inl rfl | exact Or.inr (Or.inl rfl) | exact Or.inr (Or.inr rfl)) ?_
    exact a_nil (dats_ex (by first | exact Nat.le_of_ble_eq_true rfl | decide | (simp; done) | (simp <;> omega)) q)
  · obtain ⟨f1, f4, f6⟩ := EX.fld i hi
    obtain ⟨hi7, _⟩ := EX.own i hi
    refine r_cons (s_if (t_cmp ?_ (by rfl)))
    refine x_v rfl (by first | exact Or.inl rfl | exact Or.inr (Or.inl rfl) | exact Or.inr (Or.inr rfl)) ?_
    refine x_non (c_is ⟨fun h => (by cases h), fun _ => r_nil (r_cons ?_)⟩)
    refine s_st (by first | exact Or.inl rfl | exact Or.inr rfl) (by first | exact Or.inl rfl | exact Or.inr rfl) ?_ (fun _ => rfl)
    refine x_call (d_law_class T) hk rfl ?_ (fun _ => rfl) (fun _ => rfl)
    refine a_cons ?_ (fun _ => rfl)
    refine x_v rfl (by first | exact Or.inl rfl | exact Or.inr (Or.inl rfl) | exact Or.inr (Or.inr rfl)) ?_
    refine a_nil ⟨rfl, i, fs, rfl, hi, ?_⟩
    have hcase : i = 0 ∨ i = 1 ∨ i = 2 ∨ i = 3 ∨ i = 4 ∨ i = 5 ∨ i = 6 := by omega
    have plain : (i = 0 ∨ i = 2 ∨ i = 3 ∨ i = 5) → d = .tup [.str (kindS.getD i "")] ∧ (kindS.getD i "" == ("no number" : Str)) = false ∧ (kindS.getD i "" == ("no name" : Str)) = false ∧ (kindS.getD i "" == ("no text" : Str)) = false := fun hc => by
      rcases hc with rfl | rfl | rfl | rfl <;> (cases hd; exact ⟨rfl, by decide, by decide, by decide⟩)
    by_cases hp : i = 0 ∨ i = 2 ∨ i = 3 ∨ i = 5
    · obtain ⟨rfl, e1, e2, e3⟩ := plain hp
      refine r_cons (s_if (t_cmp ?_ (by rfl)))
      refine x_v rfl (by first | exact Or.inl rfl | exact Or.inr (Or.inl rfl) | exact Or.inr (Or.inr rfl)) ?_
      refine x_str (c_eqS ?_)
      rw [e1]
      refine ⟨fun h => (by cases h), fun _ => r_nil (r_cons (s_if (t_cmp ?_ (by rfl))))⟩
      refine x_v rfl (by first | exact Or.inl rfl | exact Or.inr (Or.inl rfl) | exact Or.inr (Or.inr rfl)) ?_
      refine x_str (c_eqS ?_)
      rw [e2]
      refine ⟨fun h => (by cases h), fun _ => r_nil (r_one (s_ret (x_if (t_cmp ?_ (by rfl)))))⟩
      refine x_v rfl (by first | exact Or.inl rfl | exact Or.inr (Or.inl rfl) | exact Or.inr (Or.inr rfl)) ?_
      refine x_str (c_eqS ?_)
      rw [e3]
      refine ⟨fun h => (by cases h), fun _ => x_tup (a_cons ?_ (fun _ => rfl))⟩
      refine x_v rfl (by first | exact Or.inl rfl | exact Or.inr (Or.inl rfl) | exact Or.inr (Or.inr rfl)) ?_
      exact a_nil (dats_ex (by first | exact Nat.le_of_ble_eq_true rfl | decide | (simp; done) | (simp <;> omega)) q)
    · have hc : i = 1 ∨ i = 4 ∨ i = 6 := by omega
      rcases hc with rfl | rfl | rfl
      · obtain ⟨X1, X2⟩ := f1 rfl
        cases hf : fs.lookup ("number" : Str) with
        | none =>
          have : heardD 1 fs = (fs.lookup ("number" : Str)).map fun d => .tup [.str "no number", d] := rfl
          rw [this, hf] at hd
          cases hd
        | some d0 =>
          have : heardD 1 fs = (fs.lookup ("number" : Str)).map fun d => .tup [.str "no number", d] := rfl
          rw [this, hf] at hd
          cases hd
          refine r_cons (s_if (t_cmp ?_ (by rfl)))
          refine x_v rfl (by first | exact Or.inl rfl | exact Or.inr (Or.inl rfl) | exact Or.inr (Or.inr rfl)) ?_
          refine x_str (c_eqS ⟨fun _ => r_one (s_ret (x_tup (a_cons ?_ (fun _ => rfl)))), fun h => (by cases h)⟩)
          refine x_v rfl (by first | exact Or.inl rfl | exact Or.inr (Or.inl rfl) | exact Or.inr (Or.inr rfl)) ?_
          refine a_cons (x_excAt ?_ (fun _ => rfl)) (fun _ => rfl)
          refine x_v rfl (by first | exact Or.inl rfl | exact Or.inr (Or.inl rfl) | exact Or.inr (Or.inr rfl)) ?_
          refine ⟨_, fs, d0, rfl, X1, X2, hf, ?_⟩
          exact a_nil (dats_ex (by first | exact Nat.le_of_ble_eq_true rfl | decide | (simp; done) | (simp <;> omega)) q)
      · obtain ⟨X1, X2⟩ := f4 rfl
        cases hf : fs.lookup ("name" : Str) with
        | none =>
          have : heardD 4 fs = (fs.lookup ("name" : Str)).map fun d => .tup [.str "no name", d] := rfl
          rw [this, hf] at hd
          cases hd
        | some d0 =>
          have : heardD 4 fs = (fs.lookup ("name" : Str)).map fun d => .tup [.str "no name", d] := rfl
          rw [this, hf] at hd
          cases hd
          refine r_cons (s_if (t_cmp ?_ (by rfl)))
          refine x_v rfl (by first | exact Or.inl rfl | exact Or.inr (Or.inl rfl) | exact Or.inr (Or.inr rfl)) ?_
          refine x_str (c_eqS ⟨fun h => (by cases h), fun _ => r_nil (r_cons (s_if (t_cmp ?_ (by rfl))))⟩)
          refine x_v rfl (by first | exact Or.inl rfl | exact Or.inr (Or.inl rfl) | exact Or.inr (Or.inr rfl)) ?_
          refine x_str (c_eqS ⟨fun _ => r_one (s_ret (x_tup (a_cons ?_ (fun _ => rfl)))), fun h => (by cases h)⟩)
          refine x_v rfl (by first | exact Or.inl rfl | exact Or.inr (Or.inl rfl) | exact Or.inr (Or.inr rfl)) ?_
          refine a_cons (x_excAt ?_ (fun _ => rfl)) (fun _ => rfl)
          refine x_v rfl (by first | exact Or.inl rfl | exact Or.inr (Or.inl rfl) | exact Or.inr (Or.inr rfl)) ?_
          refine ⟨_, fs, d0, rfl, X1, X2, hf, ?_⟩
          exact a_nil (dats_ex (by first | exact Nat.le_of_ble_eq_true rfl | decide | (simp; done) | (simp <;> omega)) q)
      · obtain ⟨X1, X2⟩ := f6 rfl
        cases hf : fs.lookup ("at" : Str) with
        | none =>
          have : heardD 6 fs = (fs.lookup ("at" : Str)).map fun d => .tup [.str "no text", d] := rfl
          rw [this, hf] at hd
          cases hd
        | some d0 =>
          have : heardD 6 fs = (fs.lookup ("at" : Str)).map fun d => .tup [.str "no text", d] := rfl
          rw [this, hf] at hd
          cases hd
          refine r_cons (s_if (t_cmp ?_ (by rfl)))
          refine x_v rfl (by first | exact Or.inl rfl | exact Or.inr (Or.inl rfl) | exact Or.inr (Or.inr rfl)) ?_
          refine x_str (c_eqS ⟨fun h => (by cases h), fun _ => r_nil (r_cons (s_if (t_cmp ?_ (by rfl))))⟩)
          refine x_v rfl (by first | exact Or.inl rfl | exact Or.inr (Or.inl rfl) | exact Or.inr (Or.inr rfl)) ?_
          refine x_str (c_eqS ⟨fun h => (by cases h), fun _ => r_nil (r_one (s_ret (x_if (t_cmp ?_ (by rfl)))))⟩)
          refine x_v rfl (by first | exact Or.inl rfl | exact Or.inr (Or.inl rfl) | exact Or.inr (Or.inr rfl)) ?_
          refine x_str (c_eqS ⟨fun _ => x_tup (a_cons ?_ (fun _ => rfl)), fun h => (by cases h)⟩)
          refine x_v rfl (by first | exact Or.inl rfl | exact Or.inr (Or.inl rfl) | exact Or.inr (Or.inr rfl)) ?_
          refine a_cons (x_excAt ?_ (fun _ => rfl)) (fun _ => rfl)
          refine x_v rfl (by first | exact Or.inl rfl | exact Or.inr (Or.inl rfl) | exact Or.inr (Or.inr rfl)) ?_
          refine ⟨_, fs, d0, rfl, X1, X2, hf, ?_⟩
          exact a_nil (dats_ex (by first | exact Nat.le_of_ble_eq_true rfl | decide | (simp; done) | (simp <;> omega)) q)
theorem heard_st1 {k : Nat} (f : Addr) (M : List MO) (D : AE) (h : D.nx [some (.fn f), some (.dat .non), some (.dat .non), none, none] M) : Run1 (c_law_heard P w K mg base k) [some (.fn f), none, none, none, none] M ((defBody s_law_heard).getD 0 (.Pass ⟨0, 0, 0, 0⟩)) D := by
  show Run1 (c_law_heard P w K mg base k) _ M (.Assign _ _ _) D
  refine s_tupN (nt_c (by first | exact Or.inl rfl | exact Or.inr rfl) (by first | exact Or.inl rfl | exact Or.inr rfl) (fun _ => rfl) (nt_c (by first | exact Or.inl rfl | exact Or.inr rfl) (by first | exact Or.inl rfl | exact Or.inr rfl) (fun _ => rfl) .nil)) ?_ (by decide) (fun _ => rfl) (swaps_of fun _ => rfl) (fun _ => rfl) (fun _ => rfl) (fun _ => rfl)
  repeat (first | refine x_int ?_ | (refine x_v rfl (by first | exact Or.inl rfl | exact Or.inr (Or.inl rfl) | exact Or.inr (Or.inr rfl)) ?_) | (first | refine b_add ?_ | refine b_sub ?_ | refine b_mul (by first | omega | (constructor <;> omega) | exact Or.inl ⟨by omega, by omega⟩ | exact Or.inr ⟨by omega, by omega⟩) ?_ | refine b_div (by first | omega | (constructor <;> omega) | exact Or.inl ⟨by omega, by omega⟩ | exact Or.inr ⟨by omega, by omega⟩) ?_ | refine b_mod (by first | omega | (constructor <;> omega) | exact Or.inl ⟨by omega, by omega⟩ | exact Or.inr ⟨by omega, by omega⟩) ?_ | refine b_strs (by first | omega | (constructor <;> omega) | exact Or.inl ⟨by omega, by omega⟩ | exact Or.inr ⟨by omega, by omega⟩) ?_ | refine b_catT (by first | exact Nat.le_of_ble_eq_true rfl | decide | (simp; done) | (simp <;> omega)) ?_ | refine c_lt ?_ | refine c_le ?_ | refine c_gt ?_ | refine c_ge ?_ | refine c_eqI ?_ | refine c_neI ?_ | refine c_is ?_ | refine c_isnot ?_ | refine c_eqB ?_ | refine c_neB ?_ | refine c_eqS ?_ | refine c_neS ?_ | refine b_iadd ?_ | refine b_isub ?_ | refine b_imul (by first | omega | (constructor <;> omega) | exact Or.inl ⟨by omega, by omega⟩ | exact Or.inr ⟨by omega, by omega⟩) ?_) | refine x_non ?_ | refine x_str ?_ | refine x_bl ?_ | refine x_bin ?_ | refine x_cmp ?_ (by rfl) | refine t_cmp ?_ (by rfl) | refine t_chain ?_ (by with_unfolding_all rfl) | refine x_chain ?_ (by with_unfolding_all rfl) | refine t_not ?_ | refine x_neg ?_ | refine x_if ?_ | refine a_cons ?_ (fun _ => rfl) | refine a_nil ?_ | refine x_tup ?_ | refine x_ix ?_ (fun _ _ => rfl) | refine ix_tup rfl ?_ | refine dats_ex (by first | exact Nat.le_of_ble_eq_true rfl | decide | (simp; done) | (simp <;> omega)) ?_ | refine r_cons ?_ | refine r_nil ?_ | refine s_ret ?_ | refine s_if ?_ | (refine s_st (by first | exact Or.inl rfl | exact Or.inr rfl) (by first | exact Or.inl rfl | exact Or.inr rfl) ?_ (fun _ => rfl)) | (refine s_ag (by first | exact Or.inl rfl | exact Or.inr rfl) (by first | exact Or.inl rfl | exact Or.inr rfl) rfl ?_) | refine s_expr ?_ (fun _ => rfl))
  exact ⟨rfl, h⟩
/-- _law_heard(lambda: body) in a def that makes lambdas -/
theorem x_hd (T : Txt K mg) {cs : Nat → Addr} {TE : Addr} {rs : List Nat} [EX : Exs K mg cs TE rs] {cd Pt : Addr} {N : List Str} {st : Stmt} {ql : Str} {k jt : Nat} {δ : Dl} {M : List MO} {Post : AQ} {p pos lpos : Pos} {params : Arguments} {body : Expr} {scope : Scope} (TB : LamX.TabB base mg cd Pt) (hjt : M[jt]? = some (.tab Pt (ql ++ "<lambda>")))
    (L : LamX.LamS (defScope st) scope) (hdef : ∀ env, defaultsOf params env = ([], [])) (hbind : ∀ (q : Str) (cl : List (Str × Addr)) (pm cv ctv : Value), bindArgs (PySem.W.kla_fn "<lambda>" q params body scope cl pm cv ctv) ⟨[], []⟩ = pure [])
    (hg : (defScope st).names.lookup ("_law_heard" : Str) = some .globalImplicit)
    (h : EvRx (SC.lam (scOfL P w K mg base N st cd ql (k + 2)) scope k) δ M body (fun a M2 => ∃ d, a = .dat d ∧ Post (.dat (.tup [.str "told", d])) M2) (fun C fs M2 => ∃ i d, i ∈ rs ∧ C = cs i ∧ heardD i fs = some d ∧ Post (.dat d) M2)) :
    EvX (scOfL P w K mg base N st cd ql (k + 2)) δ M (.Call (.Name "_law_heard" p) [.Lambda params body scope lpos] [] pos) Post := by
  obtain ⟨gh, fdh, hmh, Fh, hbh⟩ := T.f_law_heard
  refine x_heard (c := scOfL P w K mg base N st cd ql (k + 2)) (k := k) jt (fun cv q h => h) TB L hdef hbind hg hmh Fh hbh sc_law_heard (rest := (defBody s_law_heard).drop 2) (st1 := (defBody s_law_heard).getD 0 (.Pass ⟨0, 0, 0, 0⟩)) rfl ⟨rfl, rfl, rfl, rfl, rfl⟩ EX.te rfl (fun _ => rfl) (fun _ => rfl) (fun f M' D hD => heard_st1 f M' D hD) hjt ?_
  intro y W tk σ H ad he hs Q q qx
  refine h y W tk σ H ad he hs Q (fun v H2 ad2 a M2 n s r ⟨d, e, hp⟩ => q v H2 ad2 a M2 n s r ?_) (fun C d fs H2 ad2 M2 n s x ⟨i, d', hi, e, hd, hp⟩ => qx C d fs H2 ad2 M2 n s x ?_)
  · subst e
    intro f
    exact (heard_rest T (by omega) f).1 d hp
  · subst e
    exact ⟨(EX.own i hi).2.2.1, fun f => (heard_rest T (by omega) f).2 i fs d' hi hd hp⟩
end
end My

namespace My
open PySem L2 Fx
section
variable {P : Program} {w : World} {K : PySem.W.Frag} {mg : Str → Option Value} {base : Heap}
def A_law_meant : ASp := fun as M Post => ∃ (m d : Int) (a : List Nat), as = [.dat (tI [m, d]), .dat (.str (SX.S a))] ∧ 1 ≤ m ∧ m ≤ 99 ∧ TxtOk a ∧ Post (.dat (optD (meant m a))) M
theorem d_law_meant (T : Txt K mg) : DefOk P w K mg base lv_law_meant "_law_meant" s_law_meant ps_law_meant (spOf K ps_law_meant.length A_law_meant) := by
  obtain ⟨fa, fd, hm, F, hb⟩ := T.f_law_meant
  refine ⟨fa, fd, hm, F, hb, fn_mk F sc_law_meant fun as M Post hl hA => ?_⟩
  obtain ⟨m, d, a, rfl, hm1, hm2, hok, q⟩ := hA
  have hlen := hok.len
  show Run (c_law_meant P w K mg base _) [some (.dat (tI [m, d])), some (.dat (.str (SX.S a))), none, none, none, none, none] M _ _
  refine r_cons ?_
  refine s_tupN (nt_c (by first | exact Or.inl rfl | exact Or.inr rfl) (by first | exact Or.inl rfl | exact Or.inr rfl) (fun _ => rfl) (nt_c (by first | exact Or.inl rfl | exact Or.inr rfl) (by first | exact Or.inl rfl | exact Or.inr rfl) (fun _ => rfl) .nil)) ?_ (by decide) (fun _ => rfl) (swaps_of fun _ => rfl) (fun _ => rfl) (fun _ => rfl) (fun _ => rfl)
  refine a_cons ?_ (fun _ => rfl)
  refine x_F (f_split ?_ (fun _ => rfl) (fun _ => rfl) rfl)
  refine x_v rfl (by first | exact Or.inl rfl | exact Or.inr (Or.inl rfl) | exact Or.inr (Or.inr rfl)) ?_
  refine ⟨_, rfl, x_str ⟨_, rfl, rfl, by rw [len_S]; omega, ?_⟩⟩
  rw [split_dash, List.map_map]
  have hcnt := spl_count 45 a []
  have hlow : ∀ p ∈ TL.spl [45] 0 [] a, ∀ c ∈ p, c < 128 := fun p hp c hc => by
    rcases part_mem 45 a [] p hp c hc with z | z
    · cases z
    · exact hok.low c z
  have hdash := hok.dash
  unfold meant allGood rowC at q
  generalize TL.spl [45] 0 [] a = ws at *
  have hws : ws.length ≤ 61 := by omega
  refine a_cons ?_ (fun _ => rfl)
  refine x_F (f_lcP [("number", 4)] (fun i : Int => D.str (SX.S (numC i))) (fun _ => true) (blkOk_by (by kernel_rfl)) nk_law_meant.nd (i_rng2 T.b_range rfl ?_ (fun _ => rfl) (fun _ => rfl)) (fun _ _ => rfl))
  refine a_cons (x_int ?_) (fun _ => rfl)
  refine a_cons (x_bin (x_ix ?_ (fun _ _ => rfl))) (fun _ => rfl)
  refine x_v rfl (by first | exact Or.inl rfl | exact Or.inr (Or.inl rfl) | exact Or.inr (Or.inr rfl)) ?_
  refine x_int (ix_tup (d := .int m) (atI_at (n := 0) rfl rfl) ?_)
  refine x_int (b_add ?_)
  refine a_nil ⟨1, m + 1, rfl, ⟨by omega, by omega, by omega, by omega⟩, rg 1 (m + 1), D.int, rgD_eq _ _, by rw [rg_len]; omega, fun j e => (by cases e), fun i hi => ?_, ?_⟩
  · have hi2 := rg_mem.mp hi
    refine lt_n (by first | exact List.mem_cons_self | exact List.mem_cons_of_mem _ List.mem_cons_self | (simp; done)) (by first | exact Or.inl rfl | exact Or.inr rfl) (by first | exact Or.inl rfl | exact Or.inr rfl) ?_
    refine ts_nil ⟨fun _ => ?_, fun h => by cases h⟩
    refine x_ty rfl T.b_str PyProof.Rows.boot_str ?_ (fun _ => rfl) (fun _ => rfl)
    refine a_cons ?_ (fun _ => rfl)
    refine x_v rfl (by first | exact Or.inl rfl | exact Or.inr (Or.inl rfl) | exact Or.inr (Or.inr rfl)) ?_
    refine a_nil (ca_strI (log40 (by omega) (by omega)) ⟨_, rfl, rfl, ?_, rfl⟩)
    exact congrArg D.str (num_str (by omega))
  rw [List.filter_true', show (rg 1 (m + 1)).map (fun i => D.str (SX.S (numC i))) = ((goodC m).map SX.S).map D.str by unfold goodC; rw [List.map_map, List.map_map]; rfl]
  refine a_nil ⟨rfl, ?_⟩
  generalize hgm : goodC m = G at *
  refine r_cons (s_if (t_cmp ?_ (by rfl)))
  refine x_F (f_lcP [("part", 5)] (fun w : List Nat => D.str (SX.S w)) (fun w => !decide (w ∈ G)) (blkOk_by (by kernel_rfl)) nk_law_meant.nd (i_seq ?_) (fun _ _ => rfl))
  refine x_v rfl (by first | exact Or.inl rfl | exact Or.inr (Or.inl rfl) | exact Or.inr (Or.inr rfl)) ?_
  refine ⟨_, isS_ls, ws, D.str ∘ SX.S, rfl, by omega, fun k e => (by cases e), fun w hw => ?_, ?_⟩
  · refine lt_n (by first | exact List.mem_cons_self | exact List.mem_cons_of_mem _ List.mem_cons_self | (simp; done)) (by first | exact Or.inl rfl | exact Or.inr rfl) (by first | exact Or.inl rfl | exact Or.inr rfl) ?_
    refine ts_one (t_cmp ?_ (by rfl))
    refine x_v rfl (by first | exact Or.inl rfl | exact Or.inr (Or.inl rfl) | exact Or.inr (Or.inr rfl)) ?_
    refine x_v rfl (by first | exact Or.inl rfl | exact Or.inr (Or.inl rfl) | exact Or.inr (Or.inr rfl)) ?_
    refine c_notin isS_ls rfl (by rw [List.all_map]; exact List.all_eq_true.mpr fun _ _ => rfl) ?_
    rw [show inD ((D.str ∘ SX.S) w) ((G.map SX.S).map D.str) = decide (w ∈ G) from (in_strs (SX.S w) (G.map SX.S)).trans mem_S]
    refine ⟨fun h => ?_, fun h => ⟨h, rfl⟩⟩
    refine x_v rfl (by first | exact Or.inl rfl | exact Or.inr (Or.inl rfl) | exact Or.inr (Or.inr rfl)) ?_
    exact ⟨_, rfl, h, rfl, rfl⟩
  refine x_F (f_lst (a_nil (dats_ex (by decide) ?_)))
  refine c_neNil 1 ?_ ?_
  · rw [List.all_map]
    exact List.all_eq_true.mpr fun w hw => low_str (hlow w (List.mem_filter.mp hw).1)
  rw [isEmpty_map']
  have hcase : (ws.filter fun w => !decide (w ∈ G)).isEmpty = ws.all fun w => decide (w ∈ G) := by
    rw [Bool.eq_iff_iff, List.isEmpty_iff, List.filter_eq_nil_iff, List.all_eq_true]
    exact ⟨fun h w hw => by simpa using h w hw, fun h w hw => by simpa using h w hw⟩
  rw [hcase]
  refine ⟨fun h => ?_, fun h => ?_⟩
  · rw [if_neg (by rw [show (ws.all fun w => decide (w ∈ G)) = false by simpa using h]; decide)] at q
    exact r_one (s_ret (x_non (fin_same q)))
  have hall : (ws.all fun w => decide (w ∈ G)) = true := by simpa using h
  rw [if_pos hall] at q
  have hg : ∀ w ∈ ws, w ∈ G := fun w hw => of_decide_eq_true (List.all_eq_true.mp hall w hw)
  refine r_nil (r_cons ?_)
  refine s_lcP [("part", 5)] (fun w : List Nat => D.int (((G.idxOf w : Nat) : Int) + 1)) (fun _ => true) (blkOk_by (by kernel_rfl)) rfl rfl rfl (by decide +kernel) (i_seq ?_) (fun _ _ => rfl)
  refine x_v rfl (by first | exact Or.inl rfl | exact Or.inr (Or.inl rfl) | exact Or.inr (Or.inr rfl)) ?_
  refine ⟨_, isS_ls, ws, D.str ∘ SX.S, rfl, by omega, fun k e => (by cases e), fun w hw => ?_, ?_⟩
  · refine lt_n (by first | exact List.mem_cons_self | exact List.mem_cons_of_mem _ List.mem_cons_self | (simp; done)) (by first | exact Or.inl rfl | exact Or.inr rfl) (by first | exact Or.inl rfl | exact Or.inr rfl) ?_
    refine ts_nil ⟨fun _ => ?_, fun h => by cases h⟩
    refine x_bin (x_lindexF ?_ (fun _ => rfl) (fun _ => rfl) rfl (fun _ => rfl))
    refine x_v rfl (by first | exact Or.inl rfl | exact Or.inr (Or.inl rfl) | exact Or.inr (Or.inr rfl)) ?_
    refine ⟨_, rfl, by rw [List.all_map]; exact List.all_eq_true.mpr fun _ _ => rfl, ?_⟩
    refine x_v rfl (by first | exact Or.inl rfl | exact Or.inr (Or.inl rfl) | exact Or.inr (Or.inr rfl)) ?_
    obtain ⟨z1, z2, z3⟩ := idx_strs (hg w hw)
    refine ⟨_, G.idxOf w, _, rfl, rfl, z1, z2, z3, ?_⟩
    refine x_int (b_add ⟨_, rfl, rfl, rfl, rfl⟩)
  rw [List.filter_true', show (ws.map fun w => D.int (((G.idxOf w : Nat) : Int) + 1)) = (ws.map fun w => ((G.idxOf w : Nat) : Int) + 1).map D.int by rw [List.map_map]; rfl]
  have hrl : (ws.map fun w => ((G.idxOf w : Nat) : Int) + 1).length ≤ 61 := by rw [List.length_map]; exact hws
  generalize (ws.map fun w => ((G.idxOf w : Nat) : Int) + 1) = r at *
  refine r_one (s_ret (x_if (t_cmp ?_ (by rfl))))
  refine x_v rfl (by first | exact Or.inl rfl | exact Or.inr (Or.inl rfl) | exact Or.inr (Or.inr rfl)) ?_
  refine x_F (f_sset rfl T.b_sorted rfl T.b_set ?_ (fun _ => rfl))
  refine x_v rfl (by first | exact Or.inl rfl | exact Or.inr (Or.inl rfl) | exact Or.inr (Or.inr rfl)) ?_
  refine ⟨r, rfl, by omega, fun out h1 h2 => ?_⟩
  refine c_eqLI isL_ls isL_ls ?_
  rw [asc_self h1 h2]
  refine ⟨fun h3 => ?_, fun h3 => ?_⟩
  · rw [if_pos (of_decide_eq_true h3)] at q
    refine x_ty rfl T.b_tuple PyProof.Rows.boot_tuple ?_ (fun _ => rfl) (fun _ => rfl)
    refine a_cons ?_ (fun _ => rfl)
    refine x_v rfl (by first | exact Or.inl rfl | exact Or.inr (Or.inl rfl) | exact Or.inr (Or.inr rfl)) ?_
    exact a_nil (ca_tuple isS_ls (fin_same q))
  · rw [if_neg (of_decide_eq_false h3)] at q
    exact x_non (fin_same q)
end
end My

namespace My
open PySem L2 Fx
section
variable {P : Program} {w : World} {K : PySem.W.Frag} {mg : Str → Option Value} {base : Heap}
def A_law_due : ASp := fun as M Post => ∃ (m d : Int) (a : List Nat), as = [.dat (tI [m, d]), .dat (.str (SX.S a))] ∧ 1 ≤ m ∧ m ≤ 99 ∧ TxtOk a ∧ Post (.dat (dueD (readL m a))) M
theorem d_law_due (T : Txt K mg) : DefOk P w K mg base lv_law_due "_law_due" s_law_due ps_law_due (spOf K ps_law_due.length A_law_due) := by
  obtain ⟨fa, fd, hm, F, hb⟩ := T.f_law_due
  refine ⟨fa, fd, hm, F, hb, fn_mk F sc_law_due fun as M Post hl hA => ?_⟩
  obtain ⟨m, d, a, rfl, hm1, hm2, hok, q⟩ := hA
  have hlen := hok.len
  show Run (c_law_due P w K mg base _) [some (.dat (tI [m, d])), some (.dat (.str (SX.S a))), none, none] M _ _
  refine r_cons ?_
  refine s_st (by first | exact Or.inl rfl | exact Or.inr rfl) (by first | exact Or.inl rfl | exact Or.inr rfl) ?_ (fun _ => rfl)
  refine x_eq (.ls ((readL m a).map optD)) (x_if (t_cmp ?_ (by rfl))) ?_
  · refine x_v rfl (by first | exact Or.inl rfl | exact Or.inr (Or.inl rfl) | exact Or.inr (Or.inr rfl)) ?_
    refine x_str (c_neS ?_)
    rw [show (SX.S a == ("" : Str)) = decide (a = []) from SX.S_beq_eq (a := a) (b := [])]
    unfold readL wordsL
    refine ⟨fun h => ?_, fun h => ?_⟩
    · have hne : a ≠ [] := by simpa using h
      rw [if_neg hne]
      refine x_F (f_lcP [("word", 3)] (fun w : List Nat => optD (meant m w)) (fun _ => true) (blkOk_by (by kernel_rfl)) nk_law_due.nd (i_seq ?_) (fun _ _ => rfl))
      refine x_F (f_split ?_ (fun _ => rfl) (fun _ => rfl) rfl)
      refine x_v rfl (by first | exact Or.inl rfl | exact Or.inr (Or.inl rfl) | exact Or.inr (Or.inr rfl)) ?_
      refine ⟨_, rfl, x_str ⟨_, rfl, rfl, by rw [len_S]; omega, ?_⟩⟩
      rw [split_blank, List.map_map]
      have hsl := spl_len 32 a []
      refine ⟨_, isS_ls, TL.spl [32] 0 [] a, D.str ∘ SX.S, rfl, by omega, fun k e => (by cases e), fun w hw => ?_, ?_⟩
      · refine lt_n (by first | exact List.mem_cons_self | exact List.mem_cons_of_mem _ List.mem_cons_self | (simp; done)) (by first | exact Or.inl rfl | exact Or.inr rfl) (by first | exact Or.inl rfl | exact Or.inr rfl) ?_
        refine ts_nil ⟨fun _ => ?_, fun h => by cases h⟩
        refine x_call (d_law_meant T) (Nat.le_of_ble_eq_true rfl) rfl ?_ (fun _ => rfl) (fun _ => rfl)
        refine a_cons ?_ (fun _ => rfl)
        refine x_v rfl (by first | exact Or.inl rfl | exact Or.inr (Or.inl rfl) | exact Or.inr (Or.inr rfl)) ?_
        refine a_cons ?_ (fun _ => rfl)
        refine x_v rfl (by first | exact Or.inl rfl | exact Or.inr (Or.inl rfl) | exact Or.inr (Or.inr rfl)) ?_
        exact a_nil ⟨rfl, m, d, w, rfl, hm1, hm2, hok.part hw, _, rfl, rfl, rfl, rfl⟩
      rw [List.filter_true', List.map_map]
      exact ⟨rfl, rfl⟩
    · have he : a = [] := by simpa using h
      rw [if_pos he]
      exact x_F (f_lst (a_nil (dats_ex (ds := []) (by decide) ⟨rfl, rfl⟩)))
  generalize readL m a = l at *
  have okl : (l.map optD).all (okD 1) = true := by
    rw [List.all_map]
    exact List.all_eq_true.mpr fun o _ => ok_opt 0 o
  refine r_one (s_ret (x_if (t_cmp (x_non ?_) (by rfl))))
  refine x_v rfl (by first | exact Or.inl rfl | exact Or.inr (Or.inl rfl) | exact Or.inr (Or.inr rfl)) ?_
  refine c_inDD 1 isL_ls rfl okl ?_
  rw [any_non]
  unfold dueD at q
  refine ⟨fun h => ?_, fun h => ?_⟩
  · have hin := of_decide_eq_true h
    rw [if_pos hin] at q
    refine x_tup (a_cons (x_str ?_) (fun _ => rfl))
    refine a_cons (x_lindexD 1 ?_ (fun _ => rfl) (fun _ => rfl) rfl (fun _ => rfl)) (fun _ => rfl)
    refine x_v rfl (by first | exact Or.inl rfl | exact Or.inr (Or.inl rfl) | exact Or.inr (Or.inr rfl)) ?_
    obtain ⟨z, z1, z2, z3⟩ := idx_non hin
    refine ⟨_, rfl, okl, x_non ⟨.non, l.idxOf none, z, rfl, rfl, z1, z2, z3, ?_⟩⟩
    exact a_nil (dats_ex (by first | exact Nat.le_of_ble_eq_true rfl | decide | (simp; done) | (simp <;> omega)) (fin_same q))
  · rw [if_neg (of_decide_eq_false h)] at q
    refine x_tup (a_cons (x_str ?_) (fun _ => rfl))
    refine a_cons ?_ (fun _ => rfl)
    refine x_ty rfl T.b_tuple PyProof.Rows.boot_tuple ?_ (fun _ => rfl) (fun _ => rfl)
    refine a_cons ?_ (fun _ => rfl)
    refine x_v rfl (by first | exact Or.inl rfl | exact Or.inr (Or.inl rfl) | exact Or.inr (Or.inr rfl)) ?_
    refine a_nil (ca_tuple isS_ls ?_)
    exact a_nil (dats_ex (by first | exact Nat.le_of_ble_eq_true rfl | decide | (simp; done) | (simp <;> omega)) (fin_same q))
end
end My

namespace My
open PySem L2 Fx
section
variable {P : Program} {w : World} {K : PySem.W.Frag} {mg : Str → Option Value} {base : Heap}
theorem due_ok9 {l : List (Option (List Int))} {d : D} (h : d = dueD l) : okD 3 d = true := h ▸ ok_due l
/-- _law_heard(lambda: body) in a comprehension of a def that makes lambdas -/
theorem x_hdB (T : Txt K mg) {cs : Nat → Addr} {TE : Addr} {rs : List Nat} [EX : Exs K mg cs TE rs] {cd Pt : Addr} {N : List Str} {st : Stmt} {ql : Str} {k jt : Nat} {δ : Dl} {M : List MO} {Post : AQ} {p pos lpos : Pos} {params : Arguments} {body : Expr} {scope bs : Scope} (TB : LamX.TabB base mg cd Pt) (hjt : M[jt]? = some (.tab Pt (ql ++ "<lambda>")))
    (L : LamX.LamS (relS bs (defScope st)) scope) (hdef : ∀ env, defaultsOf params env = ([], [])) (hbind : ∀ (q : Str) (cl : List (Str × Addr)) (pm cv ctv : Value), bindArgs (PySem.W.kla_fn "<lambda>" q params body scope cl pm cv ctv) ⟨[], []⟩ = pure [])
    (hg : ((scOfL P w K mg base N st cd ql (k + 2)).blk bs).gl "_law_heard")
    (h : EvRx (SC.lam ((scOfL P w K mg base N st cd ql (k + 2)).blk bs) scope k) δ M body (fun a M2 => ∃ d, a = .dat d ∧ Post (.dat (.tup [.str "told", d])) M2) (fun C fs M2 => ∃ i d, i ∈ rs ∧ C = cs i ∧ heardD i fs = some d ∧ Post (.dat d) M2)) :
    EvX ((scOfL P w K mg base N st cd ql (k + 2)).blk bs) δ M (.Call (.Name "_law_heard" p) [.Lambda params body scope lpos] [] pos) Post := by
  obtain ⟨gh, fdh, hmh, Fh, hbh⟩ := T.f_law_heard
  refine x_heard (c := (scOfL P w K mg base N st cd ql (k + 2)).blk bs) (k := k) jt (fun cv q h => h) TB L hdef hbind hg hmh Fh hbh sc_law_heard (rest := (defBody s_law_heard).drop 2) (st1 := (defBody s_law_heard).getD 0 (.Pass ⟨0, 0, 0, 0⟩)) rfl ⟨rfl, rfl, rfl, rfl, rfl⟩ EX.te rfl (fun _ => rfl) (fun _ => rfl) (fun f M' D hD => heard_st1 f M' D hD) hjt ?_
  intro y W tk σ H ad he hs Q q qx
  refine h y W tk σ H ad he hs Q (fun v H2 ad2 a M2 n s r ⟨d, e, hp⟩ => q v H2 ad2 a M2 n s r ?_) (fun C d fs H2 ad2 M2 n s x ⟨i, d', hi, e, hd, hp⟩ => qx C d fs H2 ad2 M2 n s x ?_)
  · subst e
    intro f
    exact (heard_rest T (by omega) f).1 d hp
  · subst e
    exact ⟨(EX.own i hi).2.2.1, fun f => (heard_rest T (by omega) f).2 i fs d' hi hd hp⟩
theorem s_ifE {c : SC} {δ : Dl} {M M0 : List MO} {D : AE} {t : Expr} {b1 b2 : List Stmt} {pos : Pos} (h : EvT c δ M t fun k M1 => k = false ∧ ∃ ex, M1 = M0 ++ ex) (k : ∀ ex, Run c δ (M0 ++ ex) b2 D) : Run1 c δ M (.If t b1 b2 pos) D :=
  s_if (h.imp fun b M1 ⟨hb, ex, hM⟩ => by
    subst hb hM
    exact ⟨fun h => (by cases h), fun _ => k ex⟩)
def A_law (Pt : Addr) : ASp := fun as M Post => ∃ ns : List Int, as = [.scr ns] ∧ M = [.tab Pt q_law] ∧ ns.length ≤ 63 ∧ Post (.dat (.bl true)) M
theorem fn_law (T : Txt K mg) {Pt : Addr} [TF : TabOf K mg base "law" Pt] {cs : Nat → Addr} {TE : Addr} [EX : Exs K mg cs TE [6]] [TD : IniExcD K mg "NoText" (cs 6) "at"] {fa : Addr} {fd : FuncData} (hm : mg "law" = some (.ref fa)) (F : Fun K "law" "law" s_law fa fd) : FnOk P w K mg base CX0 lv_law fa fd ps_law (spOf K ps_law.length (A_law Pt)) := by
  obtain ⟨cb, TB, hcd⟩ := TF.ex
  have hcode : fd.code = .ref cb := by
    obtain ⟨oc, od, kV, doc, pm, an, cdv, ct, osl, rfl, lk, _⟩ := F.ex
    exact hcd _ _ _ hm lk rfl
  refine fn_mkL F hcode sc_law fun as M Post hl hA => ?_
  obtain ⟨ns, rfl, rfl, hn, q⟩ := hA
  have q2 : ∀ ex : List MO, Fin [.tab Pt q_law] Post (.dat (.bl true)) (.tab Pt q_law :: .town 2 :: .rests :: ex) := fun ex => fin_dat (M := [.tab Pt q_law]) (rest := .town 2 :: .rests :: ex) q
  show Run (cL_law P w K mg base cb _) [some (.scr ns), none, none, none, none, none, none, none, none, none, none, none, none, none, none] [.tab Pt q_law] _ _
  refine r_cons ?_
  refine s_st (by first | exact Or.inl rfl | exact Or.inr rfl) (by first | exact Or.inl rfl | exact Or.inr rfl) ?_ (fun _ => rfl)
  refine x_call0 (d_law_begun T) (Nat.le_of_ble_eq_true rfl) rfl ?_
  refine ⟨rfl, ?_⟩
  refine r_cons ?_
  refine s_for (i_rng1 T.b_range rfl ?_ (fun _ => rfl)) (fun _ _ => rfl)
  repeat (first | refine x_int ?_ | (refine x_v rfl (by first | exact Or.inl rfl | exact Or.inr (Or.inl rfl) | exact Or.inr (Or.inr rfl)) ?_) | (first | refine b_add ?_ | refine b_sub ?_ | refine b_mul (by first | omega | (constructor <;> omega) | exact Or.inl ⟨by omega, by omega⟩ | exact Or.inr ⟨by omega, by omega⟩) ?_ | refine b_div (by first | omega | (constructor <;> omega) | exact Or.inl ⟨by omega, by omega⟩ | exact Or.inr ⟨by omega, by omega⟩) ?_ | refine b_mod (by first | omega | (constructor <;> omega) | exact Or.inl ⟨by omega, by omega⟩ | exact Or.inr ⟨by omega, by omega⟩) ?_ | refine b_strs (by first | omega | (constructor <;> omega) | exact Or.inl ⟨by omega, by omega⟩ | exact Or.inr ⟨by omega, by omega⟩) ?_ | refine b_catT (by first | exact Nat.le_of_ble_eq_true rfl | decide | (simp; done) | (simp <;> omega)) ?_ | refine c_lt ?_ | refine c_le ?_ | refine c_gt ?_ | refine c_ge ?_ | refine c_eqI ?_ | refine c_neI ?_ | refine c_is ?_ | refine c_isnot ?_ | refine c_eqB ?_ | refine c_neB ?_ | refine c_eqS ?_ | refine c_neS ?_ | refine b_iadd ?_ | refine b_isub ?_ | refine b_imul (by first | omega | (constructor <;> omega) | exact Or.inl ⟨by omega, by omega⟩ | exact Or.inr ⟨by omega, by omega⟩) ?_) | refine x_non ?_ | refine x_str ?_ | refine x_bl ?_ | refine x_bin ?_ | refine x_cmp ?_ (by rfl) | refine t_cmp ?_ (by rfl) | refine t_chain ?_ (by with_unfolding_all rfl) | refine x_chain ?_ (by with_unfolding_all rfl) | refine t_not ?_ | refine x_neg ?_ | refine x_if ?_ | refine a_cons ?_ (fun _ => rfl) | refine a_nil ?_ | refine x_tup ?_ | refine x_ix ?_ (fun _ _ => rfl) | refine ix_tup rfl ?_ | refine dats_ex (by first | exact Nat.le_of_ble_eq_true rfl | decide | (simp; done) | (simp <;> omega)) ?_ | refine r_cons ?_ | refine r_nil ?_ | refine s_ret ?_ | refine s_if ?_ | (refine s_st (by first | exact Or.inl rfl | exact Or.inr rfl) (by first | exact Or.inl rfl | exact Or.inr rfl) ?_ (fun _ => rfl)) | (refine s_ag (by first | exact Or.inl rfl | exact Or.inr rfl) (by first | exact Or.inl rfl | exact Or.inr rfl) rfl ?_) | refine s_expr ?_ (fun _ => rfl))
  refine ⟨2, rfl, by omega, by omega, fun i δ M2 => ∃ ex z2 z3 z4 z5 z6 z7 z8 z9 z10 z11 z12 z13 z14, M2 = .tab Pt q_law :: .town 2 :: .rests :: ex ∧ δ = [some (.scr ns), some (.mut 1), z2, z3, z4, z5, z6, z7, z8, z9, z10, z11, z12, z13, z14], ⟨[], _, _, _, _, _, _, _, _, _, _, _, _, _, rfl, rfl⟩, fun i δ M2 _ j e => (by cases e), ?_, ?_⟩
  · rintro i d δ M2 hi ⟨ex, z2, z3, z4, z5, z6, z7, z8, z9, z10, z11, z12, z13, z14, rfl, rfl⟩
    obtain ⟨h2, rfl⟩ := rg0_get hi
    refine gx_n (by first | exact Or.inl rfl | exact Or.inr rfl) (by first | exact Or.inl rfl | exact Or.inr rfl) ?_
    refine r_cons ?_
    refine s_st (by first | exact Or.inl rfl | exact Or.inr rfl) (by first | exact Or.inl rfl | exact Or.inr rfl) ?_ (fun _ => rfl)
    refine x_call (d_law_a_lot T) (Nat.le_of_ble_eq_true rfl) rfl ?_ (fun _ => rfl) (fun _ => rfl)
    repeat (first | refine x_int ?_ | (refine x_v rfl (by first | exact Or.inl rfl | exact Or.inr (Or.inl rfl) | exact Or.inr (Or.inr rfl)) ?_) | (first | refine b_add ?_ | refine b_sub ?_ | refine b_mul (by first | omega | (constructor <;> omega) | exact Or.inl ⟨by omega, by omega⟩ | exact Or.inr ⟨by omega, by omega⟩) ?_ | refine b_div (by first | omega | (constructor <;> omega) | exact Or.inl ⟨by omega, by omega⟩ | exact Or.inr ⟨by omega, by omega⟩) ?_ | refine b_mod (by first | omega | (constructor <;> omega) | exact Or.inl ⟨by omega, by omega⟩ | exact Or.inr ⟨by omega, by omega⟩) ?_ | refine b_strs (by first | omega | (constructor <;> omega) | exact Or.inl ⟨by omega, by omega⟩ | exact Or.inr ⟨by omega, by omega⟩) ?_ | refine b_catT (by first | exact Nat.le_of_ble_eq_true rfl | decide | (simp; done) | (simp <;> omega)) ?_ | refine c_lt ?_ | refine c_le ?_ | refine c_gt ?_ | refine c_ge ?_ | refine c_eqI ?_ | refine c_neI ?_ | refine c_is ?_ | refine c_isnot ?_ | refine c_eqB ?_ | refine c_neB ?_ | refine c_eqS ?_ | refine c_neS ?_ | refine b_iadd ?_ | refine b_isub ?_ | refine b_imul (by first | omega | (constructor <;> omega) | exact Or.inl ⟨by omega, by omega⟩ | exact Or.inr ⟨by omega, by omega⟩) ?_) | refine x_non ?_ | refine x_str ?_ | refine x_bl ?_ | refine x_bin ?_ | refine x_cmp ?_ (by rfl) | refine t_cmp ?_ (by rfl) | refine t_chain ?_ (by with_unfolding_all rfl) | refine x_chain ?_ (by with_unfolding_all rfl) | refine t_not ?_ | refine x_neg ?_ | refine x_if ?_ | refine a_cons ?_ (fun _ => rfl) | refine a_nil ?_ | refine x_tup ?_ | refine x_ix ?_ (fun _ _ => rfl) | refine ix_tup rfl ?_ | refine dats_ex (by first | exact Nat.le_of_ble_eq_true rfl | decide | (simp; done) | (simp <;> omega)) ?_ | refine r_cons ?_ | refine r_nil ?_ | refine s_ret ?_ | refine s_if ?_ | (refine s_st (by first | exact Or.inl rfl | exact Or.inr rfl) (by first | exact Or.inl rfl | exact Or.inr rfl) ?_ (fun _ => rfl)) | (refine s_ag (by first | exact Or.inl rfl | exact Or.inr rfl) (by first | exact Or.inl rfl | exact Or.inr rfl) rfl ?_) | refine s_expr ?_ (fun _ => rfl))
    refine ⟨rfl, ns, 1, 2, 12, rfl, hn, rfl, rfl, by omega, by omega, fun m dd hd1 hd2 hm12 => ?_⟩
    refine r_cons ?_
    refine s_st (by first | exact Or.inl rfl | exact Or.inr rfl) (by first | exact Or.inl rfl | exact Or.inr rfl) ?_ (fun _ => rfl)
    refine x_call (d_law_a_book T) (Nat.le_of_ble_eq_true rfl) rfl ?_ (fun _ => rfl) (fun _ => rfl)
    refine a_cons ?_ (fun _ => rfl)
    refine x_v rfl (by first | exact Or.inl rfl | exact Or.inr (Or.inl rfl) | exact Or.inr (Or.inr rfl)) ?_
    refine a_cons ?_ (fun _ => rfl)
    refine x_v rfl (by first | exact Or.inl rfl | exact Or.inr (Or.inl rfl) | exact Or.inr (Or.inr rfl)) ?_
    refine a_cons (x_ix ?_ (fun _ _ => rfl)) (fun _ => rfl)
    refine x_v rfl (by first | exact Or.inl rfl | exact Or.inr (Or.inl rfl) | exact Or.inr (Or.inr rfl)) ?_
    refine x_int (ix_tup (d := .int m) (atI_at (n := 0) rfl rfl) ?_)
    refine a_cons (x_int ?_) (fun _ => rfl)
    refine a_nil ⟨rfl, ns, 1, 2, m, 4, rfl, hn, rfl, rfl, by omega, by omega, by omega, by omega, fun b hbk hbl => ?_⟩
    have hline := book_line hbk (by omega) hm12 (by omega)
    have ht12 : ∀ t ∈ b, t.length ≤ 12 := fun t ht => by
      have := (hbk t ht).1.len (by omega)
      omega
    have hx12 : ∀ t ∈ b, ∀ x ∈ t, 0 ≤ x ∧ x ≤ 1000 := fun t ht x hx => by
      have := (hbk t ht).1.2 x hx
      omega
    refine r_cons ?_
    refine s_st (by first | exact Or.inl rfl | exact Or.inr rfl) (by first | exact Or.inl rfl | exact Or.inr rfl) ?_ (fun _ => rfl)
    refine x_eq (.dat (.str (SX.S (bkT b)))) ?_ ?_
    · refine x_join (x_str ⟨_, rfl, ?_⟩) (fun _ => rfl) (fun _ => rfl) rfl
      refine x_F (f_lcP [("page", 7)] (fun t : List Int => D.str (SX.S (tkT t))) (fun _ => true) (blkOk_by (by kernel_rfl)) nk_law.nd (i_seq ?_) (fun _ _ => rfl))
      refine x_v rfl (by first | exact Or.inl rfl | exact Or.inr (Or.inl rfl) | exact Or.inr (Or.inr rfl)) ?_
      refine ⟨_, isS_tup, b, tI, rfl, by omega, fun k e => (by cases e), fun t ht => ?_, ?_⟩
      · refine lt_n (by first | exact List.mem_cons_self | exact List.mem_cons_of_mem _ List.mem_cons_self | (simp; done)) (by first | exact Or.inl rfl | exact Or.inr rfl) (by first | exact Or.inl rfl | exact Or.inr rfl) ?_
        refine ts_nil ⟨fun _ => ?_, fun h => by cases h⟩
        refine x_join (x_str ⟨_, rfl, ?_⟩) (fun _ => rfl) (fun _ => rfl) rfl
        refine x_F (f_lcP [("number", 6)] (fun i : Int => D.str (SX.S (numC i))) (fun _ => true) (blkOk_by (by kernel_rfl)) nk_law.nd (i_seq ?_) (fun _ _ => rfl))
        refine x_v rfl (by first | exact Or.inl rfl | exact Or.inr (Or.inl rfl) | exact Or.inr (Or.inr rfl)) ?_
        have htl := ht12 t ht
        refine ⟨_, isS_tup, t, D.int, rfl, by omega, fun k e => (by cases e), fun i hi => ?_, ?_⟩
        · refine lt_n (by first | exact List.mem_cons_self | exact List.mem_cons_of_mem _ List.mem_cons_self | (simp; done)) (by first | exact Or.inl rfl | exact Or.inr rfl) (by first | exact Or.inl rfl | exact Or.inr rfl) ?_
          refine ts_nil ⟨fun _ => ?_, fun h => by cases h⟩
          refine x_ty rfl T.b_str PyProof.Rows.boot_str ?_ (fun _ => rfl) (fun _ => rfl)
          refine a_cons ?_ (fun _ => rfl)
          refine x_v rfl (by first | exact Or.inl rfl | exact Or.inr (Or.inl rfl) | exact Or.inr (Or.inr rfl)) ?_
          have h := hx12 t ht i hi
          refine a_nil (ca_strI (log40 h.1 h.2) ⟨_, rfl, rfl, ?_, rfl⟩)
          exact congrArg D.str (num_str h.1)
        rw [List.filter_true']
        refine ⟨(t.map numC).map SX.S, ?_, ?_, ?_⟩
        · rw [List.map_map, List.map_map]
          exact isS_ls
        · have := sum_len (n := 4) (ys := (t.map numC).map SX.S) fun y hy => by
            obtain ⟨p, hp, rfl⟩ := List.mem_map.mp hy
            obtain ⟨i, hi, rfl⟩ := List.mem_map.mp hp
            rw [len_S]
            exact numC_len4 (hx12 t ht i hi).2
          rw [List.length_map, List.length_map] at this
          rw [List.length_map, List.length_map]
          show _ + t.length * 1 ≤ _
          omega
        rw [join_dash]
        exact ⟨_, rfl, rfl, rfl, rfl⟩
      rw [List.filter_true']
      refine ⟨(b.map tkT).map SX.S, ?_, ?_, ?_⟩
      · rw [List.map_map, List.map_map]
        exact isS_ls
      · have := sum_len (n := 60) (ys := (b.map tkT).map SX.S) fun y hy => by
          obtain ⟨p, hp, rfl⟩ := List.mem_map.mp hy
          obtain ⟨t, ht, rfl⟩ := List.mem_map.mp hp
          rw [len_S]
          have h1 := tkT_len fun x hx => (hx12 t ht x hx).2
          have h2 := ht12 t ht
          omega
        rw [List.length_map, List.length_map] at this
        rw [List.length_map, List.length_map]
        show _ + b.length * 1 ≤ _
        omega
      rw [join_blank]
      exact ⟨rfl, rfl⟩
    have hread := read_bk hbk
    have hlen := hline.len
    refine r_cons (s_ifF (t_W (w_or (t_cmp ?_ (by rfl)))) ?_)
    · refine x_call (d_book_text T) (Nat.le_of_ble_eq_true rfl) rfl ?_ (fun _ => rfl) (fun _ => rfl)
      refine a_cons ?_ (fun _ => rfl)
      refine x_v rfl (by first | exact Or.inl rfl | exact Or.inr (Or.inl rfl) | exact Or.inr (Or.inr rfl)) ?_
      refine a_nil ⟨rfl, b, rfl, fun t ht => ⟨hx12 t ht, by have := ht12 t ht; omega⟩, by omega, ?_⟩
      refine x_v rfl (by first | exact Or.inl rfl | exact Or.inr (Or.inl rfl) | exact Or.inr (Or.inr rfl)) ?_
      refine c_neS ?_
      rw [SX.S_beq_eq, decide_eq_true rfl]
      refine ⟨fun h => (by cases h), fun _ => w_or1 (t_cmp ?_ (by rfl))⟩
      refine x_callX (d_read_book T) (Nat.le_of_ble_eq_true rfl) rfl ?_ (fun _ => rfl) (fun _ => rfl)
      refine a_cons ?_ (fun _ => rfl)
      refine x_v rfl (by first | exact Or.inl rfl | exact Or.inr (Or.inl rfl) | exact Or.inr (Or.inr rfl)) ?_
      refine a_cons ?_ (fun _ => rfl)
      refine x_v rfl (by first | exact Or.inl rfl | exact Or.inr (Or.inl rfl) | exact Or.inr (Or.inr rfl)) ?_
      refine a_nil ⟨rfl, m, dd, bkT b, rfl, by omega, by omega, fun hin => ?_, fun b2 hb2 => ?_⟩
      · rw [hread] at hin
        obtain ⟨t, _, e⟩ := List.mem_map.mp hin
        cases e
      · rw [hread] at hb2
        have eb : b = b2 := (List.map_inj_right fun _ _ e => Option.some.inj e).mp hb2
        subst eb
        refine x_v rfl (by first | exact Or.inl rfl | exact Or.inr (Or.inl rfl) | exact Or.inr (Or.inr rfl)) ?_
        exact c_ne_same 2 rfl (ok_tII 0 _) ⟨rfl, rfl⟩
    refine r_nil (r_cons (s_ifF (t_cmp ?_ (by rfl)) ?_))
    · refine x_F (f_lcP [("page", 7)] (fun t : List Int => D.str (SX.S (tkT t))) (fun _ => true) (blkOk_by (by kernel_rfl)) nk_law.nd (i_seq ?_) (fun _ _ => rfl))
      refine x_v rfl (by first | exact Or.inl rfl | exact Or.inr (Or.inl rfl) | exact Or.inr (Or.inr rfl)) ?_
      refine ⟨_, isS_tup, b, tI, rfl, by omega, fun k e => (by cases e), fun t ht => ?_, ?_⟩
      · refine lt_n (by first | exact List.mem_cons_self | exact List.mem_cons_of_mem _ List.mem_cons_self | (simp; done)) (by first | exact Or.inl rfl | exact Or.inr rfl) (by first | exact Or.inl rfl | exact Or.inr rfl) ?_
        refine ts_nil ⟨fun _ => ?_, fun h => by cases h⟩
        refine x_call (d_ticket_text T) (Nat.le_of_ble_eq_true rfl) rfl ?_ (fun _ => rfl) (fun _ => rfl)
        refine a_cons ?_ (fun _ => rfl)
        refine x_v rfl (by first | exact Or.inl rfl | exact Or.inr (Or.inl rfl) | exact Or.inr (Or.inr rfl)) ?_
        have htl := ht12 t ht
        exact a_nil ⟨rfl, t, rfl, hx12 t ht, by omega, _, rfl, rfl, rfl, rfl⟩
      rw [List.filter_true']
      have hws := words_bk (b := b) fun t ht => (hbk t ht).2
      refine x_eq (.ls ((wordsL (bkT b)).map (D.str ∘ SX.S))) (x_if (t_cmp ?_ (by rfl))) ?_
      · refine x_v rfl (by first | exact Or.inl rfl | exact Or.inr (Or.inl rfl) | exact Or.inr (Or.inr rfl)) ?_
        refine x_tup (a_nil (dats_ex (by decide) ?_))
        refine c_neTT (a := b) (b := []) ?_
        refine ⟨fun h => ?_, fun h => ?_⟩
        · refine x_F (f_split ?_ (fun _ => rfl) (fun _ => rfl) rfl)
          refine x_v rfl (by first | exact Or.inl rfl | exact Or.inr (Or.inl rfl) | exact Or.inr (Or.inr rfl)) ?_
          refine ⟨_, rfl, x_str ⟨_, rfl, rfl, by rw [len_S]; omega, ?_⟩⟩
          rw [split_blank, List.map_map]
          refine ⟨?_, rfl⟩
          unfold wordsL
          rw [if_neg]
          have hne : b ≠ [] := by simpa using h
          exact joinL_ne (fun e => hne (List.map_eq_nil_iff.mp e)) fun p hp => by
            obtain ⟨x, hx, rfl⟩ := List.mem_map.mp hp
            exact tkT_ne (hbk x hx).2
        · have hne : b = [] := by simpa using h
          refine x_F (f_lst (a_nil (dats_ex (ds := []) (by decide) ⟨?_, rfl⟩)))
          rw [hne]
          rfl
      refine c_neL_same 1 isL_ls isL_ls ?_ ?_ ⟨rfl, rfl⟩
      · rw [hws, List.map_map]
        rfl
      · rw [List.all_map]
        refine List.all_eq_true.mpr fun t ht => low_str fun c hc => ?_
        rcases joinL_mem hc with h | ⟨p, hp, h⟩
        · omega
        · obtain ⟨i, _, rfl⟩ := List.mem_map.mp hp
          have := numC_digit i c h
          omega
    generalize bkT b = line at *
    refine r_nil (r_one (s_for (i_rng1 T.b_range rfl ?_ (fun _ => rfl)) (fun _ _ => rfl)))
    repeat (first | refine x_int ?_ | (refine x_v rfl (by first | exact Or.inl rfl | exact Or.inr (Or.inl rfl) | exact Or.inr (Or.inr rfl)) ?_) | (first | refine b_add ?_ | refine b_sub ?_ | refine b_mul (by first | omega | (constructor <;> omega) | exact Or.inl ⟨by omega, by omega⟩ | exact Or.inr ⟨by omega, by omega⟩) ?_ | refine b_div (by first | omega | (constructor <;> omega) | exact Or.inl ⟨by omega, by omega⟩ | exact Or.inr ⟨by omega, by omega⟩) ?_ | refine b_mod (by first | omega | (constructor <;> omega) | exact Or.inl ⟨by omega, by omega⟩ | exact Or.inr ⟨by omega, by omega⟩) ?_ | refine b_strs (by first | omega | (constructor <;> omega) | exact Or.inl ⟨by omega, by omega⟩ | exact Or.inr ⟨by omega, by omega⟩) ?_ | refine b_catT (by first | exact Nat.le_of_ble_eq_true rfl | decide | (simp; done) | (simp <;> omega)) ?_ | refine c_lt ?_ | refine c_le ?_ | refine c_gt ?_ | refine c_ge ?_ | refine c_eqI ?_ | refine c_neI ?_ | refine c_is ?_ | refine c_isnot ?_ | refine c_eqB ?_ | refine c_neB ?_ | refine c_eqS ?_ | refine c_neS ?_ | refine b_iadd ?_ | refine b_isub ?_ | refine b_imul (by first | omega | (constructor <;> omega) | exact Or.inl ⟨by omega, by omega⟩ | exact Or.inr ⟨by omega, by omega⟩) ?_) | refine x_non ?_ | refine x_str ?_ | refine x_bl ?_ | refine x_bin ?_ | refine x_cmp ?_ (by rfl) | refine t_cmp ?_ (by rfl) | refine t_chain ?_ (by with_unfolding_all rfl) | refine x_chain ?_ (by with_unfolding_all rfl) | refine t_not ?_ | refine x_neg ?_ | refine x_if ?_ | refine a_cons ?_ (fun _ => rfl) | refine a_nil ?_ | refine x_tup ?_ | refine x_ix ?_ (fun _ _ => rfl) | refine ix_tup rfl ?_ | refine dats_ex (by first | exact Nat.le_of_ble_eq_true rfl | decide | (simp; done) | (simp <;> omega)) ?_ | refine r_cons ?_ | refine r_nil ?_ | refine s_ret ?_ | refine s_if ?_ | (refine s_st (by first | exact Or.inl rfl | exact Or.inr rfl) (by first | exact Or.inl rfl | exact Or.inr rfl) ?_ (fun _ => rfl)) | (refine s_ag (by first | exact Or.inl rfl | exact Or.inr rfl) (by first | exact Or.inl rfl | exact Or.inr rfl) rfl ?_) | refine s_expr ?_ (fun _ => rfl))
    refine ⟨5, rfl, by omega, by omega, fun j δ M2 => ∃ ex z6 z7 z8 z9 z10 z11 z12 z13 z14, M2 = .tab Pt q_law :: .town 2 :: .rests :: ex ∧ δ = [some (.scr ns), some (.mut 1), some (.dat (.int (i : Nat))), some (.dat (tI [m, dd])), some (.dat (tII b)), some (.dat (.str (SX.S line))), z6, z7, z8, z9, z10, z11, z12, z13, z14], ⟨ex, _, _, _, _, _, _, _, _, _, rfl, rfl⟩, fun i δ M2 _ j e => (by cases e), ?_, ?_⟩
    · clear ex z6 z7 z8 z9 z10 z11 z12 z13 z14
      rintro j d δ M2 hj ⟨ex, z6, z7, z8, z9, z10, z11, z12, z13, z14, rfl, rfl⟩
      obtain ⟨hj2, rfl⟩ := rg0_get hj
      refine gx_n (by first | exact Or.inl rfl | exact Or.inr rfl) (by first | exact Or.inl rfl | exact Or.inr rfl) ?_
      refine r_cons ?_
      refine s_p2 (by decide) rfl rfl ?_ (swaps_of fun _ => rfl) (fun _ => rfl)
      refine a_cons ?_ (fun _ => rfl)
      refine x_call (d_law_draw T) (Nat.le_of_ble_eq_true rfl) rfl ?_ (fun _ => rfl) (fun _ => rfl)
      refine a_cons ?_ (fun _ => rfl)
      refine x_v rfl (by first | exact Or.inl rfl | exact Or.inr (Or.inl rfl) | exact Or.inr (Or.inr rfl)) ?_
      refine a_cons ?_ (fun _ => rfl)
      refine x_v rfl (by first | exact Or.inl rfl | exact Or.inr (Or.inl rfl) | exact Or.inr (Or.inr rfl)) ?_
      refine a_cons (x_bin ?_) (fun _ => rfl)
      refine x_blt rfl T.b_len PySem.boot_len ?_ (fun _ => rfl) (fun _ => rfl)
      refine a_cons ?_ (fun _ => rfl)
      refine x_v rfl (by first | exact Or.inl rfl | exact Or.inr (Or.inl rfl) | exact Or.inr (Or.inr rfl)) ?_
      refine a_nil (ca_lenS (by rw [len_S]; omega) ?_)
      rw [len_S]
      refine x_int (b_add (a_nil ?_))
      refine ⟨rfl, ns, 1, 2, (line.length : Int) + 1, rfl, hn, rfl, rfl, by omega, by omega, fun at_ ha0 ha1 => ?_⟩
      refine a_cons (x_ix (x_str ?_) (fun _ _ => rfl)) (fun _ => rfl)
      refine x_call (d_law_draw T) (Nat.le_of_ble_eq_true rfl) rfl ?_ (fun _ => rfl) (fun _ => rfl)
      refine a_cons ?_ (fun _ => rfl)
      refine x_v rfl (by first | exact Or.inl rfl | exact Or.inr (Or.inl rfl) | exact Or.inr (Or.inr rfl)) ?_
      refine a_cons ?_ (fun _ => rfl)
      refine x_v rfl (by first | exact Or.inl rfl | exact Or.inr (Or.inl rfl) | exact Or.inr (Or.inr rfl)) ?_
      refine a_cons (x_int ?_) (fun _ => rfl)
      refine a_nil ⟨rfl, ns, 1, 2, 15, rfl, hn, rfl, rfl, by omega, by omega, fun sr hs0 hs1 => ?_⟩
      obtain ⟨ch, hch, hc128⟩ := sign_at hs0 hs1
      refine ⟨sr, rfl, .inr ⟨_, ch, rfl, by decide +kernel, ?_, ?_⟩⟩
      · rw [show (("0123456789- -1a" : Str)).cps.toList = signL by decide +kernel, show sr = (sr.toNat : Int) by omega]
        exact atI_nat hch
      refine a_nil ⟨_, _, rfl, ?_⟩
      rw [show (⟨#[ch]⟩ : Str) = SX.S [ch] from rfl]
      obtain ⟨o1, ho1, hok1⟩ : ∃ o, o = line.take at_.toNat ++ ([ch] ++ line.drop at_.toNat) ∧ TxtOk o := ⟨_, rfl, hline.txt _ _ (by omega) [ch] (Nat.le_refl 1) fun c hc => by rw [List.mem_singleton.mp hc]; exact hc128⟩
      obtain ⟨o2, ho2, hok2⟩ : ∃ o, o = line.take at_.toNat ++ line.drop (at_ + 1).toNat ∧ TxtOk o := ⟨_, rfl, hline.txt at_.toNat (at_ + 1).toNat (by omega) [] (by decide) fun c hc => by cases hc⟩
      obtain ⟨o3, ho3, hok3⟩ : ∃ o, o = line.take at_.toNat ++ ([ch] ++ line.drop (at_ + 1).toNat) ∧ TxtOk o := ⟨_, rfl, hline.txt at_.toNat (at_ + 1).toNat (by omega) [ch] (Nat.le_refl 1) fun c hc => by rw [List.mem_singleton.mp hc]; exact hc128⟩
      have htk : ∀ n, (line.take n).length ≤ 400 := fun n => by rw [List.length_take]; omega
      have hdr : ∀ n, (line.drop n).length ≤ 400 := fun n => by rw [List.length_drop]; omega
      have t1 := htk at_.toNat
      have t2 := hdr at_.toNat
      have t3 := hdr (at_ + 1).toNat
      have l1 : [ch].length = 1 := rfl
      have p1 : 0 ≤ at_ + 1 := by omega
      refine r_one (s_for (i_seq ?_) (fun _ _ => rfl))
      refine x_F (f_lst ?_)
      refine a_cons (x_bin (x_bin (x_slS ?_))) (fun _ => rfl)
      refine x_v rfl (by first | exact Or.inl rfl | exact Or.inr (Or.inl rfl) | exact Or.inr (Or.inr rfl)) ?_
      refine o_none (o_some ?_)
      refine x_v rfl (by first | exact Or.inl rfl | exact Or.inr (Or.inl rfl) | exact Or.inr (Or.inr rfl)) ?_
      refine ⟨at_, rfl, _, rfl, by rw [len_S]; omega, ?_⟩
      rw [cut_to ha0]
      refine x_v rfl (by first | exact Or.inl rfl | exact Or.inr (Or.inl rfl) | exact Or.inr (Or.inr rfl)) ?_
      refine b_strs (by rw [len_S, len_S]; omega) (x_slS ?_)
      refine x_v rfl (by first | exact Or.inl rfl | exact Or.inr (Or.inl rfl) | exact Or.inr (Or.inr rfl)) ?_
      refine o_some ?_
      refine x_v rfl (by first | exact Or.inl rfl | exact Or.inr (Or.inl rfl) | exact Or.inr (Or.inr rfl)) ?_
      refine ⟨at_, rfl, o_none ⟨_, rfl, by rw [len_S]; omega, ?_⟩⟩
      rw [cut_from ha0, SX.S_cat]
      refine b_strs (by rw [len_S, len_S, List.length_append]; omega) ?_
      rw [SX.S_cat, List.append_assoc, ← ho1]
      refine a_cons (x_bin (x_slS ?_)) (fun _ => rfl)
      refine x_v rfl (by first | exact Or.inl rfl | exact Or.inr (Or.inl rfl) | exact Or.inr (Or.inr rfl)) ?_
      refine o_none (o_some ?_)
      refine x_v rfl (by first | exact Or.inl rfl | exact Or.inr (Or.inl rfl) | exact Or.inr (Or.inr rfl)) ?_
      refine ⟨at_, rfl, _, rfl, by rw [len_S]; omega, ?_⟩
      rw [cut_to ha0]
      refine x_slS ?_
      refine x_v rfl (by first | exact Or.inl rfl | exact Or.inr (Or.inl rfl) | exact Or.inr (Or.inr rfl)) ?_
      refine o_some (x_bin ?_)
      refine x_v rfl (by first | exact Or.inl rfl | exact Or.inr (Or.inl rfl) | exact Or.inr (Or.inr rfl)) ?_
      refine x_int (b_add ⟨at_ + 1, rfl, o_none ⟨_, rfl, by rw [len_S]; omega, ?_⟩⟩)
      rw [cut_from p1]
      refine b_strs (by rw [len_S, len_S]; omega) ?_
      rw [SX.S_cat, ← ho2]
      refine a_cons (x_bin (x_bin (x_slS ?_))) (fun _ => rfl)
      refine x_v rfl (by first | exact Or.inl rfl | exact Or.inr (Or.inl rfl) | exact Or.inr (Or.inr rfl)) ?_
      refine o_none (o_some ?_)
      refine x_v rfl (by first | exact Or.inl rfl | exact Or.inr (Or.inl rfl) | exact Or.inr (Or.inr rfl)) ?_
      refine ⟨at_, rfl, _, rfl, by rw [len_S]; omega, ?_⟩
      rw [cut_to ha0]
      refine x_v rfl (by first | exact Or.inl rfl | exact Or.inr (Or.inl rfl) | exact Or.inr (Or.inr rfl)) ?_
      refine b_strs (by rw [len_S, len_S]; omega) (x_slS ?_)
      refine x_v rfl (by first | exact Or.inl rfl | exact Or.inr (Or.inl rfl) | exact Or.inr (Or.inr rfl)) ?_
      refine o_some (x_bin ?_)
      refine x_v rfl (by first | exact Or.inl rfl | exact Or.inr (Or.inl rfl) | exact Or.inr (Or.inr rfl)) ?_
      refine x_int (b_add ⟨at_ + 1, rfl, o_none ⟨_, rfl, by rw [len_S]; omega, ?_⟩⟩)
      rw [cut_from p1, SX.S_cat]
      refine b_strs (by rw [len_S, len_S, List.length_append]; omega) ?_
      rw [SX.S_cat, List.append_assoc, ← ho3]
      refine a_nil (dats_ex (ds := [.str (SX.S o1), .str (SX.S o2), .str (SX.S o3)]) (Nat.le_of_ble_eq_true rfl) ?_)
      have key : ∀ d ∈ ([.str (SX.S o1), .str (SX.S o2), .str (SX.S o3)] : List D), ∃ o, d = .str (SX.S o) ∧ TxtOk o := fun d hd => by
        rcases List.mem_cons.mp hd with rfl | hd
        · exact ⟨_, rfl, hok1⟩
        rcases List.mem_cons.mp hd with rfl | hd
        · exact ⟨_, rfl, hok2⟩
        rw [List.mem_singleton.mp hd]
        exact ⟨_, rfl, hok3⟩
      clear ho1 ho2 ho3 hok1 hok2 hok3
      generalize ([.str (SX.S o1), .str (SX.S o2), .str (SX.S o3)] : List D) = ds at *
      refine ⟨_, isS_ls, fun jj δ M2 => ∃ ex z6 z7 z11 z12 z13 z14, M2 = .tab Pt q_law :: .town 2 :: .rests :: ex ∧ δ = [some (.scr ns), some (.mut 1), some (.dat (.int (i : Nat))), some (.dat (tI [m, dd])), some (.dat (tII b)), some (.dat (.str (SX.S line))), z6, z7, some (.dat (.int (j : Nat))), some (.dat (.int at_)), some (.dat (.str (SX.S [ch]))), z11, z12, z13, z14], ⟨ex, _, _, _, _, _, _, rfl, rfl⟩, fun i δ M2 _ j e => (by cases e), ?_, ?_⟩
      · clear ex z6 z7 z11 z12 z13 z14
        rintro jj d δ M2 hjj ⟨ex, z6, z7, z11, z12, z13, z14, rfl, rfl⟩
        obtain ⟨o, rfl, hok⟩ := key d (List.mem_of_getElem? hjj)
        have hol := hok.len
        refine gx_n (by first | exact Or.inl rfl | exact Or.inr rfl) (by first | exact Or.inl rfl | exact Or.inr rfl) ?_
        refine r_cons (s_ifE (M0 := .tab Pt q_law :: .town 2 :: .rests :: ex) (t_cmp ?_ (by rfl)) fun ex2 => ?_)
        · refine x_hd T (k := 4) (jt := 0) TB rfl (LamX.lamS_by (by kernel_rfl)) (fun _ => rfl) (fun _ _ _ _ _ => rfl) rfl ?_
          refine e_callKX (m := 1) (n := 1) ["text"] (d_read_book T) (Nat.le_of_ble_eq_true rfl) rfl (fun _ _ _ _ _ _ us ws h1 h2 => match us, ws, h1, h2 with | [_], [_], _, _ => rfl) rfl (by decide) ?_ (fun _ => rfl) (fun _ => rfl) (fun _ => rfl) (fun _ => rfl)
          refine a_cons ?_ (fun _ => rfl)
          refine x_v rfl (by first | exact Or.inl rfl | exact Or.inr (Or.inl rfl) | exact Or.inr (Or.inr rfl)) ?_
          refine a_nil (k_cons ?_)
          refine x_v rfl (by first | exact Or.inl rfl | exact Or.inr (Or.inl rfl) | exact Or.inr (Or.inr rfl)) ?_
          refine k_nil ⟨rfl, rfl, m, dd, o, rfl, by omega, by omega, fun hin ex2 => ⟨6, _, by simp, rfl, rfl, ?_⟩, fun b2 hb2 => ⟨_, rfl, ?_⟩⟩
          · refine x_call (d_law_due T) (Nat.le_of_ble_eq_true rfl) rfl ?_ (fun _ => rfl) (fun _ => rfl)
            refine a_cons ?_ (fun _ => rfl)
            refine x_v rfl (by first | exact Or.inl rfl | exact Or.inr (Or.inl rfl) | exact Or.inr (Or.inr rfl)) ?_
            refine a_cons ?_ (fun _ => rfl)
            refine x_v rfl (by first | exact Or.inl rfl | exact Or.inr (Or.inl rfl) | exact Or.inr (Or.inr rfl)) ?_
            refine a_nil ⟨rfl, m, dd, o, rfl, by omega, by omega, hok, ?_⟩
            exact c_ne_same 3 (due_none hin) (due_ok9 (due_none hin)) ⟨rfl, ex2, rfl⟩
          · refine x_call (d_law_due T) (Nat.le_of_ble_eq_true rfl) rfl ?_ (fun _ => rfl) (fun _ => rfl)
            refine a_cons ?_ (fun _ => rfl)
            refine x_v rfl (by first | exact Or.inl rfl | exact Or.inr (Or.inl rfl) | exact Or.inr (Or.inr rfl)) ?_
            refine a_cons ?_ (fun _ => rfl)
            refine x_v rfl (by first | exact Or.inl rfl | exact Or.inr (Or.inl rfl) | exact Or.inr (Or.inr rfl)) ?_
            refine a_nil ⟨rfl, m, dd, o, rfl, by omega, by omega, hok, ?_⟩
            exact c_ne_same 3 (due_some hb2) (due_ok9 (due_some hb2)) ⟨rfl, [], by rw [List.append_nil]⟩
        show Run _ _ (.tab Pt q_law :: .town 2 :: .rests :: (ex ++ ex2)) _ _
        generalize ex ++ ex2 = ex3
        refine r_nil (r_cons ?_)
        refine s_st (by first | exact Or.inl rfl | exact Or.inr rfl) (by first | exact Or.inl rfl | exact Or.inr rfl) ?_ (fun _ => rfl)
        refine x_call (d_law_meant T) (Nat.le_of_ble_eq_true rfl) rfl ?_ (fun _ => rfl) (fun _ => rfl)
        refine a_cons ?_ (fun _ => rfl)
        refine x_v rfl (by first | exact Or.inl rfl | exact Or.inr (Or.inl rfl) | exact Or.inr (Or.inr rfl)) ?_
        refine a_cons ?_ (fun _ => rfl)
        refine x_v rfl (by first | exact Or.inl rfl | exact Or.inr (Or.inl rfl) | exact Or.inr (Or.inr rfl)) ?_
        refine a_nil ⟨rfl, m, dd, o, rfl, by omega, by omega, hok, ?_⟩
        refine r_cons ?_
        refine s_st (by first | exact Or.inl rfl | exact Or.inr rfl) (by first | exact Or.inl rfl | exact Or.inr rfl) ?_ (fun _ => rfl)
        refine x_eq (.dat (tickD (meant m o))) (x_if (t_cmp ?_ (by rfl))) ?_
        · refine x_v rfl (by first | exact Or.inl rfl | exact Or.inr (Or.inl rfl) | exact Or.inr (Or.inr rfl)) ?_
          refine x_non (c_is ?_)
          cases h : meant m o with
          | none =>
            refine ⟨fun _ => ?_, fun h => by cases h⟩
            refine x_tup (a_cons (x_str ?_) (fun _ => rfl))
            refine a_cons (x_non ?_) (fun _ => rfl)
            exact a_nil (dats_ex (by first | exact Nat.le_of_ble_eq_true rfl | decide | (simp; done) | (simp <;> omega)) ⟨rfl, rfl⟩)
          | some r =>
            refine ⟨fun h => (by cases h), fun _ => ?_⟩
            refine x_tup (a_cons (x_str ?_) (fun _ => rfl))
            refine a_cons ?_ (fun _ => rfl)
            refine x_v rfl (by first | exact Or.inl rfl | exact Or.inr (Or.inl rfl) | exact Or.inr (Or.inr rfl)) ?_
            exact a_nil (dats_ex (ds := [.str "told", tI r]) (by first | exact Nat.le_of_ble_eq_true rfl | decide | (simp; done) | (simp <;> omega)) ⟨rfl, rfl⟩)
        refine r_one (s_ifF (t_cmp ?_ (by rfl)) ?_)
        · refine x_hd T (k := 4) (jt := 0) TB rfl (LamX.lamS_by (by kernel_rfl)) (fun _ => rfl) (fun _ _ _ _ _ => rfl) rfl ?_
          refine e_callX (d_read_ticket T) (Nat.le_of_ble_eq_true rfl) rfl ?_ (fun _ => rfl) (fun _ => rfl)
          refine a_cons ?_ (fun _ => rfl)
          refine x_v rfl (by first | exact Or.inl rfl | exact Or.inr (Or.inl rfl) | exact Or.inr (Or.inr rfl)) ?_
          refine a_cons ?_ (fun _ => rfl)
          refine x_v rfl (by first | exact Or.inl rfl | exact Or.inr (Or.inl rfl) | exact Or.inr (Or.inr rfl)) ?_
          have hm99 : m ≤ 99 := by omega
          refine a_nil ⟨rfl, m, dd, o, rfl, by omega, fun hin => ⟨6, _, by simp, rfl, rfl, ?_⟩, fun r hr => ⟨_, rfl, ?_⟩⟩
          · rw [tick_meant hm99] at hin
            refine x_v rfl (by first | exact Or.inl rfl | exact Or.inr (Or.inl rfl) | exact Or.inr (Or.inr rfl)) ?_
            rw [hin]
            exact c_ne_same 3 rfl (ok_tick none) ⟨rfl, rfl⟩
          · rw [tick_meant hm99] at hr
            refine x_v rfl (by first | exact Or.inl rfl | exact Or.inr (Or.inl rfl) | exact Or.inr (Or.inr rfl)) ?_
            rw [hr]
            exact c_ne_same 3 rfl (ok_tick (some r)) ⟨rfl, rfl⟩
        exact r_nil ⟨_, _, _, _, _, _, _, rfl, rfl⟩
      · rintro δ M2 ⟨ex, z6, z7, z11, z12, z13, z14, rfl, rfl⟩
        exact ⟨_, _, _, _, _, _, _, _, _, _, rfl, rfl⟩
    · rintro δ M2 ⟨ex, z6, z7, z8, z9, z10, z11, z12, z13, z14, rfl, rfl⟩
      exact ⟨_, _, _, _, _, _, _, _, _, _, _, _, _, _, rfl, rfl⟩
  · rintro δ M2 ⟨ex, z2, z3, z4, z5, z6, z7, z8, z9, z10, z11, z12, z13, z14, rfl, rfl⟩
    refine r_cons ?_
    refine s_st (by first | exact Or.inl rfl | exact Or.inr rfl) (by first | exact Or.inl rfl | exact Or.inr rfl) ?_ (fun _ => rfl)
    refine x_eq (.ls (badL.map (D.str ∘ SX.S))) (x_F (f_lst ?_)) ?_
    · iterate 16 refine a_cons (x_str ?_) (fun _ => rfl)
      exact a_nil (dats_ex (ds := badL.map (D.str ∘ SX.S)) (by decide) ⟨rfl, rfl⟩)
    refine r_cons (s_ifF (t_cmp ?_ (by rfl)) ?_)
    · refine x_F (f_lcP [("line", 5)] (fun _ : List Nat => D.tup [.str "no text", .non]) (fun _ => true) (blkOk_by (by kernel_rfl)) nk_law.nd (i_seq ?_) (fun _ _ => rfl))
      refine x_v rfl (by first | exact Or.inl rfl | exact Or.inr (Or.inl rfl) | exact Or.inr (Or.inr rfl)) ?_
      refine ⟨_, isS_ls, badL, D.str ∘ SX.S, rfl, by decide, fun k e => (by cases e), fun a ha => ?_, ?_⟩
      · refine lt_n (by first | exact List.mem_cons_self | exact List.mem_cons_of_mem _ List.mem_cons_self | (simp; done)) (by first | exact Or.inl rfl | exact Or.inr rfl) (by first | exact Or.inl rfl | exact Or.inr rfl) ?_
        refine ts_nil ⟨fun _ => ?_, fun h => by cases h⟩
        refine x_hdB T (k := 4) (jt := 0) TB rfl (LamX.lamS_by (by kernel_rfl)) (fun _ => rfl) (fun _ _ _ _ _ => rfl) rfl ?_
        refine e_callX (d_read_ticket T) (Nat.le_of_ble_eq_true rfl) rfl ?_ (fun _ => rfl) (fun _ => rfl)
        refine a_cons (x_tup (a_cons (x_int ?_) (fun _ => rfl))) (fun _ => rfl)
        refine a_cons (x_int ?_) (fun _ => rfl)
        refine a_nil (dats_ex (ds := [.int 12, .int 1]) (by decide) ?_)
        refine a_cons ?_ (fun _ => rfl)
        refine x_v rfl (by first | exact Or.inl rfl | exact Or.inr (Or.inl rfl) | exact Or.inr (Or.inr rfl)) ?_
        have hno := bad_none a ha
        refine a_nil ⟨rfl, 12, 1, a, rfl, bad_len a ha, fun _ => ⟨6, _, by simp, rfl, rfl, ?_⟩, fun r hr => (by rw [hno] at hr; cases hr)⟩
        exact ⟨_, rfl, rfl, rfl, rfl⟩
      rw [List.filter_true']
      refine x_F (f_lcP [("line", 5)] (fun _ : List Nat => D.tup [.str "no text", .non]) (fun _ => true) (blkOk_by (by kernel_rfl)) nk_law.nd (i_seq ?_) (fun _ _ => rfl))
      refine x_v rfl (by first | exact Or.inl rfl | exact Or.inr (Or.inl rfl) | exact Or.inr (Or.inr rfl)) ?_
      refine ⟨_, isS_ls, badL, D.str ∘ SX.S, rfl, by decide, fun k e => (by cases e), fun a ha => ?_, ?_⟩
      · refine lt_n (by first | exact List.mem_cons_self | exact List.mem_cons_of_mem _ List.mem_cons_self | (simp; done)) (by first | exact Or.inl rfl | exact Or.inr rfl) (by first | exact Or.inl rfl | exact Or.inr rfl) ?_
        refine ts_nil ⟨fun _ => ?_, fun h => by cases h⟩
        refine x_tup (a_cons (x_str ?_) (fun _ => rfl))
        refine a_cons (x_non ?_) (fun _ => rfl)
        exact a_nil (dats_ex (by decide) ⟨_, rfl, rfl, rfl, rfl⟩)
      rw [List.filter_true']
      exact c_neL_same 3 isL_ls isL_ls rfl (by decide +kernel) ⟨rfl, rfl⟩
    refine r_nil (r_one (s_ret (x_and (x_cmp ?_ (by rfl)))))
    refine x_callX (d_read_book T) (Nat.le_of_ble_eq_true rfl) rfl ?_ (fun _ => rfl) (fun _ => rfl)
    refine a_cons (x_tup (a_cons (x_int ?_) (fun _ => rfl))) (fun _ => rfl)
    refine a_cons (x_int ?_) (fun _ => rfl)
    refine a_nil (dats_ex (ds := [.int 12, .int 1]) (by decide) ?_)
    refine a_cons (x_str ?_) (fun _ => rfl)
    refine a_nil ⟨rfl, 12, 1, [], rfl, by omega, by decide, fun h => (by cases h), fun b2 hb2 => ?_⟩
    have eb : b2 = [] := List.map_eq_nil_iff.mp hb2.symm
    subst eb
    refine x_tup (a_nil (dats_ex (ds := []) (by decide) ?_))
    refine c_eq_same 2 rfl (ok_tII 0 []) ⟨true, rfl, fun _ => x_one (x_cmp ?_ (by rfl)), fun h => (by cases h)⟩
    refine x_hd T (k := 4) (jt := 0) TB rfl (LamX.lamS_by (by kernel_rfl)) (fun _ => rfl) (fun _ _ _ _ _ => rfl) rfl ?_
    refine e_callX (d_read_book T) (Nat.le_of_ble_eq_true rfl) rfl ?_ (fun _ => rfl) (fun _ => rfl)
    refine a_cons (x_tup (a_cons (x_int ?_) (fun _ => rfl))) (fun _ => rfl)
    refine a_cons (x_int ?_) (fun _ => rfl)
    refine a_nil (dats_ex (ds := [.int 12, .int 1]) (by decide) ?_)
    refine a_cons (x_str ?_) (fun _ => rfl)
    refine a_nil ⟨rfl, 12, 1, oddL, rfl, by omega, by decide, fun _ ex2 => ⟨6, _, by simp, rfl, rfl, ?_⟩, fun b2 hb2 => ?_⟩
    · rw [odd_read, show ([some [1, 2], none, none] : List (Option (List Int))).idxOf none = 1 by decide +kernel]
      refine x_tup (a_cons (x_str ?_) (fun _ => rfl))
      refine a_cons (x_int ?_) (fun _ => rfl)
      refine a_nil (dats_ex (ds := [.str "no text", .int 1]) (by decide) ?_)
      exact c_eq_same 3 rfl (by decide +kernel) (q2 (ex ++ ex2))
    · rw [odd_read] at hb2
      match b2, hb2 with
      | _ :: _ :: _, h => cases h
end
end My

namespace My
open PySem L2 Fx
def spLawT (K : PySem.W.Frag) (Ps : List Addr) : Sp := fun vs H Q _ => ∃ (a : Addr) (ns : List Int), vs = [.ref a] ∧ SqL K H a (ns.map V.int) ∧ ns.length ≤ 63 ∧ (∀ P ∈ Ps, H P = some (.tbl #[])) ∧ ∀ H', Q (.bl true) H'
theorem law_endT {P : Program} {w : World} {K : PySem.W.Frag} {mg : Str → Option Value} {base : Heap} {Pb0 : Addr} (T : Txt K mg) [TabOf K mg base "law" Pb0] {cs : Nat → Addr} {TE : Addr} [Exs K mg cs TE [6]] [IniExcD K mg "NoText" (cs 6) "at"]  (nd : [Pb0].Nodup) {fa : Addr} {fd : FuncData} (hm : mg "law" = some (.ref fa)) (F : Fun K "law" "law" s_law fa fd) : FnOk P w K mg base CX0 lv_law fa fd ["script"] (spLawT K [Pb0]) := by
  refine FnOk.imp (sp := spOf K ps_law.length (A_law Pb0)) (fn_law T hm F) fun vs H Q E h => ?_
  obtain ⟨a, ns, rfl, hS, hl, hP, q⟩ := h
  have hPs : ∀ (j : Nat) (m : MO), ([MO.tab Pb0 q_law] : List MO)[j]? = some m → ∃ a, [Pb0][j]? = some a ∧ ObjA K [Pb0] H a m := fun j m e => by
    match j, e with
    | 0, e => cases e; exact ⟨_, rfl, rfl, LamX.TabS.nil (hP _ (by simp))⟩
    | j + 1, e => cases e
  refine ⟨rfl, [Pb0], [.scr ns], [MO.tab Pb0 q_law], fun a _ => a = .dat (.bl true), ⟨nd, rfl, hPs⟩, ⟨.ref a, [], rfl, ⟨a, rfl, ?_⟩, rfl⟩, ⟨ns, rfl, rfl, hl, rfl⟩, fun v H2 ad2 a2 M2 _ _ r e => ?_⟩
  · rcases hS with h | h
    · refine .inl ⟨h, fun z => ?_⟩
      have := hP a z
      rcases h with h | ⟨o, h⟩ <;> (rw [h] at this; cases this)
    · exact .inr (.inr h)
  · subst e
    rw [show v = .bl true from r]
    exact q H2
theorem txt_mkT {l : PySem.W.OpenLaw} {w : World} {K : PySem.W.Frag} {h : Heap} {mg : Str → Option Value} {fa : Addr} (X : K.In h) (G : h.Ns mainGlobals mg) (hfa : mg "law" = some (.ref fa))
    {tc_FIGURES : Tok}
    {fa0 : Addr} {od0 an0 : Option Addr} {sl0 : Array (Option Value)} {oc0 kV0 dc0 pm0 cd0 ct0 : Value}
    {fa1 : Addr} {od1 an1 : Option Addr} {sl1 : Array (Option Value)} {oc1 kV1 dc1 pm1 cd1 ct1 : Value}
    {fa2 : Addr} {od2 an2 : Option Addr} {sl2 : Array (Option Value)} {oc2 kV2 dc2 pm2 cd2 ct2 : Value}
    {fa3 : Addr} {od3 an3 : Option Addr} {sl3 : Array (Option Value)} {oc3 kV3 dc3 pm3 cd3 ct3 : Value}
    {fa4 : Addr} {od4 an4 : Option Addr} {sl4 : Array (Option Value)} {oc4 kV4 dc4 pm4 cd4 ct4 : Value}
    {fa5 : Addr} {od5 an5 : Option Addr} {sl5 : Array (Option Value)} {oc5 kV5 dc5 pm5 cd5 ct5 : Value}
    {fa6 : Addr} {od6 an6 : Option Addr} {sl6 : Array (Option Value)} {oc6 kV6 dc6 pm6 cd6 ct6 : Value}
    {fa7 : Addr} {od7 an7 : Option Addr} {sl7 : Array (Option Value)} {oc7 kV7 dc7 pm7 cd7 ct7 : Value}
    {fa8 : Addr} {od8 an8 : Option Addr} {sl8 : Array (Option Value)} {oc8 kV8 dc8 pm8 cd8 ct8 : Value}
    {fa9 : Addr} {od9 an9 : Option Addr} {sl9 : Array (Option Value)} {oc9 kV9 dc9 pm9 cd9 ct9 : Value}
    {fa10 : Addr} {od10 an10 : Option Addr} {sl10 : Array (Option Value)} {oc10 kV10 dc10 pm10 cd10 ct10 : Value}
    {fa11 : Addr} {od11 an11 : Option Addr} {sl11 : Array (Option Value)} {oc11 kV11 dc11 pm11 cd11 ct11 : Value}
    {fa12 : Addr} {od12 an12 : Option Addr} {sl12 : Array (Option Value)} {oc12 kV12 dc12 pm12 cd12 ct12 : Value}
    {fa13 : Addr} {od13 an13 : Option Addr} {sl13 : Array (Option Value)} {oc13 kV13 dc13 pm13 cd13 ct13 : Value}
    {fa14 : Addr} {od14 an14 : Option Addr} {sl14 : Array (Option Value)} {oc14 kV14 dc14 pm14 cd14 ct14 : Value}
    {fa15 : Addr} {od15 an15 : Option Addr} {sl15 : Array (Option Value)} {oc15 kV15 dc15 pm15 cd15 ct15 : Value}
    {fa16 : Addr} {od16 an16 : Option Addr} {sl16 : Array (Option Value)} {oc16 kV16 dc16 pm16 cd16 ct16 : Value}
    {cb0 Pb0 : Addr} {db0 : Option Addr} {vb0 : Array Value} {lb0 : Array (Option Value)} {sb0 : Str} {tb0 ub0 wb0 : Tok} {ib0 jb0 : Int} {bb0 : Bool}
    (z_isinstance : PySem.W.nsIn K mainGlobals "isinstance" = some none)
    (z_int : PySem.W.nsIn K mainGlobals "int" = some none)
    (z_bool : PySem.W.nsIn K mainGlobals "bool" = some none)
    (z_all : PySem.W.nsIn K mainGlobals "all" = some none)
    (z_tuple : PySem.W.nsIn K mainGlobals "tuple" = some none)
    (z_zip : PySem.W.nsIn K mainGlobals "zip" = some none)
    (z_str : PySem.W.nsIn K mainGlobals "str" = some none)
    (z_len : PySem.W.nsIn K mainGlobals "len" = some none)
    (z_enumerate : PySem.W.nsIn K mainGlobals "enumerate" = some none)
    (z_range : PySem.W.nsIn K mainGlobals "range" = some none)
    (z_list : PySem.W.nsIn K mainGlobals "list" = some none)
    (z_sorted : PySem.W.nsIn K mainGlobals "sorted" = some none)
    (z_ValueError : PySem.W.nsIn K mainGlobals "ValueError" = some none)
    (z_set : PySem.W.nsIn K mainGlobals "set" = some none)
    (y_FIGURES : PySem.W.nsIn K mainGlobals "FIGURES" = some (some (.str "0123456789" tc_FIGURES)))
    (a0 : PySem.W.nsIn K mainGlobals "is_whole" = some (some (.ref fa0))) (l0 : K.lookup fa0 = some ⟨oc0, od0, .func (PySem.W.fnOf "is_whole" "is_whole" (defArgs s_is_whole) (defBody s_is_whole) (defScope s_is_whole) .none kV0 dc0 pm0 an0 cd0 ct0), sl0⟩) (c0 : PySem.W.codeIn K cd0 "is_whole" = true) (k0 : PySem.W.keepIn K (.ref fa0) = true)
    (a1 : PySem.W.nsIn K mainGlobals "is_ticket" = some (some (.ref fa1))) (l1 : K.lookup fa1 = some ⟨oc1, od1, .func (PySem.W.fnOf "is_ticket" "is_ticket" (defArgs s_is_ticket) (defBody s_is_ticket) (defScope s_is_ticket) .none kV1 dc1 pm1 an1 cd1 ct1), sl1⟩) (c1 : PySem.W.codeIn K cd1 "is_ticket" = true) (k1 : PySem.W.keepIn K (.ref fa1) = true)
    (a2 : PySem.W.nsIn K mainGlobals "ticket_text" = some (some (.ref fa2))) (l2 : K.lookup fa2 = some ⟨oc2, od2, .func (PySem.W.fnOf "ticket_text" "ticket_text" (defArgs s_ticket_text) (defBody s_ticket_text) (defScope s_ticket_text) .none kV2 dc2 pm2 an2 cd2 ct2), sl2⟩) (c2 : PySem.W.codeIn K cd2 "ticket_text" = true) (k2 : PySem.W.keepIn K (.ref fa2) = true)
    (a3 : PySem.W.nsIn K mainGlobals "ticket_of" = some (some (.ref fa3))) (l3 : K.lookup fa3 = some ⟨oc3, od3, .func (PySem.W.fnOf "ticket_of" "ticket_of" (defArgs s_ticket_of) (defBody s_ticket_of) (defScope s_ticket_of) .none kV3 dc3 pm3 an3 cd3 ct3), sl3⟩) (c3 : PySem.W.codeIn K cd3 "ticket_of" = true) (k3 : PySem.W.keepIn K (.ref fa3) = true)
    (a4 : PySem.W.nsIn K mainGlobals "read_ticket" = some (some (.ref fa4))) (l4 : K.lookup fa4 = some ⟨oc4, od4, .func (PySem.W.fnOf "read_ticket" "read_ticket" (defArgs s_read_ticket) (defBody s_read_ticket) (defScope s_read_ticket) .none kV4 dc4 pm4 an4 cd4 ct4), sl4⟩) (c4 : PySem.W.codeIn K cd4 "read_ticket" = true) (k4 : PySem.W.keepIn K (.ref fa4) = true)
    (a5 : PySem.W.nsIn K mainGlobals "book_text" = some (some (.ref fa5))) (l5 : K.lookup fa5 = some ⟨oc5, od5, .func (PySem.W.fnOf "book_text" "book_text" (defArgs s_book_text) (defBody s_book_text) (defScope s_book_text) .none kV5 dc5 pm5 an5 cd5 ct5), sl5⟩) (c5 : PySem.W.codeIn K cd5 "book_text" = true) (k5 : PySem.W.keepIn K (.ref fa5) = true)
    (a6 : PySem.W.nsIn K mainGlobals "read_book" = some (some (.ref fa6))) (l6 : K.lookup fa6 = some ⟨oc6, od6, .func (PySem.W.fnOf "read_book" "read_book" (defArgs s_read_book) (defBody s_read_book) (defScope s_read_book) .none kV6 dc6 pm6 an6 cd6 ct6), sl6⟩) (c6 : PySem.W.codeIn K cd6 "read_book" = true) (k6 : PySem.W.keepIn K (.ref fa6) = true)
    (a7 : PySem.W.nsIn K mainGlobals "_law_draw" = some (some (.ref fa7))) (l7 : K.lookup fa7 = some ⟨oc7, od7, .func (PySem.W.fnOf "_law_draw" "_law_draw" (defArgs s_law_draw) (defBody s_law_draw) (defScope s_law_draw) .none kV7 dc7 pm7 an7 cd7 ct7), sl7⟩) (c7 : PySem.W.codeIn K cd7 "_law_draw" = true) (k7 : PySem.W.keepIn K (.ref fa7) = true)
    (a8 : PySem.W.nsIn K mainGlobals "_law_begun" = some (some (.ref fa8))) (l8 : K.lookup fa8 = some ⟨oc8, od8, .func (PySem.W.fnOf "_law_begun" "_law_begun" (defArgs s_law_begun) (defBody s_law_begun) (defScope s_law_begun) .none kV8 dc8 pm8 an8 cd8 ct8), sl8⟩) (c8 : PySem.W.codeIn K cd8 "_law_begun" = true) (k8 : PySem.W.keepIn K (.ref fa8) = true)
    (a9 : PySem.W.nsIn K mainGlobals "_law_a_lot" = some (some (.ref fa9))) (l9 : K.lookup fa9 = some ⟨oc9, od9, .func (PySem.W.fnOf "_law_a_lot" "_law_a_lot" (defArgs s_law_a_lot) (defBody s_law_a_lot) (defScope s_law_a_lot) .none kV9 dc9 pm9 an9 cd9 ct9), sl9⟩) (c9 : PySem.W.codeIn K cd9 "_law_a_lot" = true) (k9 : PySem.W.keepIn K (.ref fa9) = true)
    (a10 : PySem.W.nsIn K mainGlobals "_law_a_row" = some (some (.ref fa10))) (l10 : K.lookup fa10 = some ⟨oc10, od10, .func (PySem.W.fnOf "_law_a_row" "_law_a_row" (defArgs s_law_a_row) (defBody s_law_a_row) (defScope s_law_a_row) .none kV10 dc10 pm10 an10 cd10 ct10), sl10⟩) (c10 : PySem.W.codeIn K cd10 "_law_a_row" = true) (k10 : PySem.W.keepIn K (.ref fa10) = true)
    (a11 : PySem.W.nsIn K mainGlobals "_law_a_book" = some (some (.ref fa11))) (l11 : K.lookup fa11 = some ⟨oc11, od11, .func (PySem.W.fnOf "_law_a_book" "_law_a_book" (defArgs s_law_a_book) (defBody s_law_a_book) (defScope s_law_a_book) .none kV11 dc11 pm11 an11 cd11 ct11), sl11⟩) (c11 : PySem.W.codeIn K cd11 "_law_a_book" = true) (k11 : PySem.W.keepIn K (.ref fa11) = true)
    (a12 : PySem.W.nsIn K mainGlobals "_law_class" = some (some (.ref fa12))) (l12 : K.lookup fa12 = some ⟨oc12, od12, .func (PySem.W.fnOf "_law_class" "_law_class" (defArgs s_law_class) (defBody s_law_class) (defScope s_law_class) .none kV12 dc12 pm12 an12 cd12 ct12), sl12⟩) (c12 : PySem.W.codeIn K cd12 "_law_class" = true) (k12 : PySem.W.keepIn K (.ref fa12) = true)
    (a13 : PySem.W.nsIn K mainGlobals "_law_heard" = some (some (.ref fa13))) (l13 : K.lookup fa13 = some ⟨oc13, od13, .func (PySem.W.fnOf "_law_heard" "_law_heard" (defArgs s_law_heard) (defBody s_law_heard) (defScope s_law_heard) .none kV13 dc13 pm13 an13 cd13 ct13), sl13⟩) (c13 : PySem.W.codeIn K cd13 "_law_heard" = true) (k13 : PySem.W.keepIn K (.ref fa13) = true)
    (a14 : PySem.W.nsIn K mainGlobals "_law_meant" = some (some (.ref fa14))) (l14 : K.lookup fa14 = some ⟨oc14, od14, .func (PySem.W.fnOf "_law_meant" "_law_meant" (defArgs s_law_meant) (defBody s_law_meant) (defScope s_law_meant) .none kV14 dc14 pm14 an14 cd14 ct14), sl14⟩) (c14 : PySem.W.codeIn K cd14 "_law_meant" = true) (k14 : PySem.W.keepIn K (.ref fa14) = true)
    (a15 : PySem.W.nsIn K mainGlobals "_law_due" = some (some (.ref fa15))) (l15 : K.lookup fa15 = some ⟨oc15, od15, .func (PySem.W.fnOf "_law_due" "_law_due" (defArgs s_law_due) (defBody s_law_due) (defScope s_law_due) .none kV15 dc15 pm15 an15 cd15 ct15), sl15⟩) (c15 : PySem.W.codeIn K cd15 "_law_due" = true) (k15 : PySem.W.keepIn K (.ref fa15) = true)
    (a16 : PySem.W.nsIn K mainGlobals "law" = some (some (.ref fa16))) (l16 : K.lookup fa16 = some ⟨oc16, od16, .func (PySem.W.fnOf "law" "law" (defArgs s_law) (defBody s_law) (defScope s_law) .none kV16 dc16 pm16 an16 cd16 ct16), sl16⟩) (c16 : PySem.W.codeIn K cd16 "law" = true) (k16 : PySem.W.keepIn K (.ref fa16) = true)
    (tbq0 : K.lookup cb0 = some ⟨.type "code", db0, .fields vb0, lb0⟩) (tbq0a : vb0[11]? = some (.ref Pb0)) (tbq0b : vb0.getD 18 .none = .str sb0 tb0) (tbq0c : vb0.getD 7 .none = .int ib0 ub0) (tbq0d : vb0.getD 9 .none = .bool bb0) (tbq0e : vb0.getD 10 .none = .int jb0 wb0) (tbq0f : cb0 ≠ Pb0) (tbq0g : cd16 = .ref cb0) (tbq0h : K.lookup Pb0 = none) (tbq0i : h.get? Pb0 = some { cls := .none, data := .fields #[] }) (nd : [Pb0].Nodup)
    {CT C0 C1 C2 C3 C4 C5 C6 : Addr}
    {TDI6 : Addr} {odT6 : Option Addr} {ocT6 : Value} {nTI6 : Nat} {slT6 : Array (Option Value)}
    {nmI6 qI6 : Str} {NI6 fI6 : Addr} {bsI6 bmI6 subI6 : List Value} {snI6 : List Str} {abI6 : Bool} {colI6 : Option Bool} {ddI6 odI6 anI6 : Option Addr} {k0I6 k1I6 k2I6 k3I6 k5I6 : Option Value} {slI6 : Array (Option Value)} {ocI6 kVI6 dcI6 pmI6 cdI6 ctI6 : Value}
    (xeT : PySem.W.nsIn K mainGlobals "TicketError" = some (some (.ref CT)))
    (xe0 : PySem.W.nsIn K mainGlobals "NoDraw" = some (some (.ref C0)))
    (xe1 : PySem.W.nsIn K mainGlobals "NoNumber" = some (some (.ref C1)))
    (xe2 : PySem.W.nsIn K mainGlobals "NoTicket" = some (some (.ref C2)))
    (xe3 : PySem.W.nsIn K mainGlobals "Closed" = some (some (.ref C3)))
    (xe4 : PySem.W.nsIn K mainGlobals "NoName" = some (some (.ref C4)))
    (xe5 : PySem.W.nsIn K mainGlobals "NoBack" = some (some (.ref C5)))
    (xe6 : PySem.W.nsIn K mainGlobals "NoText" = some (some (.ref C6)))
    (x6g : PySem.W.findIn K (.ref C6) "__getattribute__" = some (some (.builtin "BaseException.__getattribute__")))
    (x6k : PySem.W.findIn K (.ref C6) "__getattr__" = some none)
    (x6s : PySem.W.subIn K (.ref C6) (.type "BaseException") = some true)
    (x6d : PySem.W.hasDictIn K C6 = true)
    (x6a : PySem.W.findIn K (.ref C6) "__class__" = some (some (.builtin "object.__class__")))
    (x6n : PySem.W.specialIn K (.builtin "object.__class__") "__get__" = some (some (.builtin "getset_descriptor.__get__")))
    (x6t : PySem.W.takesIn K (.builtin "object.__class__") = some true)
    (x6m : PySem.W.mroIn K C6 (.type "object") = some true)
    (x6e : PySem.W.exmOne K (.ref C6) (.ref CT) = some true)
    (x6v : PySem.W.kitOne K (.ref C6) (.type "ValueError") = some true)
    (x6j0 : PySem.W.kitOne K (.ref C6) (.ref C0) = some false)
    (x6j1 : PySem.W.kitOne K (.ref C6) (.ref C1) = some false)
    (x6j2 : PySem.W.kitOne K (.ref C6) (.ref C2) = some false)
    (x6j3 : PySem.W.kitOne K (.ref C6) (.ref C3) = some false)
    (x6j4 : PySem.W.kitOne K (.ref C6) (.ref C4) = some false)
    (x6j5 : PySem.W.kitOne K (.ref C6) (.ref C5) = some false)
    (x6j6 : PySem.W.kitOne K (.ref C6) (.ref C6) = some true)
    (x6y : PySem.W.typeIn K (.ref C6) = some (.type "type"))
    (x6p : PySem.W.keepIn K (.ref C6) = true)
    (x6o : K.lookup C6 = some (excClassObj nmI6 qI6 C6 NI6 bsI6 bmI6 true snI6 subI6 abI6 colI6 ddI6 k0I6 k1I6 k2I6 k3I6 k5I6 "ValueError.__new__"))
    (x6b : PySem.HandSPX.refsVE bmI6 = true)
    (x6sa : PySem.W.findIn K (.ref C6) "__setattr__" = some (some (.builtin "object.__setattr__")))
    (x6i : PySem.W.findIn K (.ref C6) "__init__" = some (some (.ref fI6)))
    (x6u : PySem.W.typeIn K (.ref fI6) = some (.type "function"))
    (x6l : K.lookup fI6 = some ⟨ocI6, odI6, .func (PySem.W.fnOf "__init__" "NoText.__init__" (defArgs s_ini6) (defBody s_ini6) (defScope s_ini6) (.ref TDI6) kVI6 dcI6 pmI6 anI6 cdI6 ctI6), slI6⟩)
    (x6T : K.lookup TDI6 = some ⟨ocT6, odT6, .seq #[.none] nTI6, slT6⟩)
    (x6c : PySem.W.codeIn K cdI6 "NoText.__init__" = true)
    (x6f : PySem.W.findIn K (.ref C6) "at" = some none) : LamX.LawAtS l w K CX0 lv_law 63 "script" mg fa h := by
  have T : Txt K mg := ⟨PySem.W.mg_none_of X G z_isinstance,
    PySem.W.mg_none_of X G z_int,
    PySem.W.mg_none_of X G z_bool,
    PySem.W.mg_none_of X G z_all,
    PySem.W.mg_none_of X G z_tuple,
    PySem.W.mg_none_of X G z_zip,
    PySem.W.mg_none_of X G z_str,
    PySem.W.mg_none_of X G z_len,
    PySem.W.mg_none_of X G z_enumerate,
    PySem.W.mg_none_of X G z_range,
    PySem.W.mg_none_of X G z_list,
    PySem.W.mg_none_of X G z_sorted,
    PySem.W.mg_none_of X G z_ValueError,
    PySem.W.mg_none_of X G z_set,
    ⟨_, PySem.W.mg_of X G y_FIGURES⟩,
    ⟨fa0, _, PySem.W.mg_of X G a0, fun_mk (st := s_is_whole) l0 c0 k0, (fun_mk (st := s_is_whole) l0 c0 k0).binds fun _ _ _ _ _ _ us hl => match us, hl with | [_, _, _], _ => rfl⟩,
    ⟨fa1, _, PySem.W.mg_of X G a1, fun_mk (st := s_is_ticket) l1 c1 k1, (fun_mk (st := s_is_ticket) l1 c1 k1).binds fun _ _ _ _ _ _ us hl => match us, hl with | [_, _], _ => rfl⟩,
    ⟨fa2, _, PySem.W.mg_of X G a2, fun_mk (st := s_ticket_text) l2 c2 k2, (fun_mk (st := s_ticket_text) l2 c2 k2).binds fun _ _ _ _ _ _ us hl => match us, hl with | [_], _ => rfl⟩,
    ⟨fa3, _, PySem.W.mg_of X G a3, fun_mk (st := s_ticket_of) l3 c3 k3, (fun_mk (st := s_ticket_of) l3 c3 k3).binds fun _ _ _ _ _ _ us hl => match us, hl with | [_, _], _ => rfl⟩,
    ⟨fa4, _, PySem.W.mg_of X G a4, fun_mk (st := s_read_ticket) l4 c4 k4, (fun_mk (st := s_read_ticket) l4 c4 k4).binds fun _ _ _ _ _ _ us hl => match us, hl with | [_, _], _ => rfl⟩,
    ⟨fa5, _, PySem.W.mg_of X G a5, fun_mk (st := s_book_text) l5 c5 k5, (fun_mk (st := s_book_text) l5 c5 k5).binds fun _ _ _ _ _ _ us hl => match us, hl with | [_], _ => rfl⟩,
    ⟨fa6, _, PySem.W.mg_of X G a6, fun_mk (st := s_read_book) l6 c6 k6, (fun_mk (st := s_read_book) l6 c6 k6).binds fun _ _ _ _ _ _ us hl => match us, hl with | [_, _], _ => rfl⟩,
    ⟨fa7, _, PySem.W.mg_of X G a7, fun_mk (st := s_law_draw) l7 c7 k7, (fun_mk (st := s_law_draw) l7 c7 k7).binds fun _ _ _ _ _ _ us hl => match us, hl with | [_, _, _], _ => rfl⟩,
    ⟨fa8, _, PySem.W.mg_of X G a8, fun_mk (st := s_law_begun) l8 c8 k8, (fun_mk (st := s_law_begun) l8 c8 k8).binds fun _ _ _ _ _ _ us hl => match us, hl with | [], _ => rfl⟩,
    ⟨fa9, _, PySem.W.mg_of X G a9, fun_mk (st := s_law_a_lot) l9 c9 k9, (fun_mk (st := s_law_a_lot) l9 c9 k9).binds fun _ _ _ _ _ _ us hl => match us, hl with | [_, _, _], _ => rfl⟩,
    ⟨fa10, _, PySem.W.mg_of X G a10, fun_mk (st := s_law_a_row) l10 c10 k10, (fun_mk (st := s_law_a_row) l10 c10 k10).binds fun _ _ _ _ _ _ us hl => match us, hl with | [_, _, _, _], _ => rfl⟩,
    ⟨fa11, _, PySem.W.mg_of X G a11, fun_mk (st := s_law_a_book) l11 c11 k11, (fun_mk (st := s_law_a_book) l11 c11 k11).binds fun _ _ _ _ _ _ us hl => match us, hl with | [_, _, _, _], _ => rfl⟩,
    ⟨fa12, _, PySem.W.mg_of X G a12, fun_mk (st := s_law_class) l12 c12 k12, (fun_mk (st := s_law_class) l12 c12 k12).binds fun _ _ _ _ _ _ us hl => match us, hl with | [_], _ => rfl⟩,
    ⟨fa13, _, PySem.W.mg_of X G a13, fun_mk (st := s_law_heard) l13 c13 k13, (fun_mk (st := s_law_heard) l13 c13 k13).binds fun _ _ _ _ _ _ us hl => match us, hl with | [_], _ => rfl⟩,
    ⟨fa14, _, PySem.W.mg_of X G a14, fun_mk (st := s_law_meant) l14 c14 k14, (fun_mk (st := s_law_meant) l14 c14 k14).binds fun _ _ _ _ _ _ us hl => match us, hl with | [_, _], _ => rfl⟩,
    ⟨fa15, _, PySem.W.mg_of X G a15, fun_mk (st := s_law_due) l15 c15 k15, (fun_mk (st := s_law_due) l15 c15 k15).binds fun _ _ _ _ _ _ us hl => match us, hl with | [_, _], _ => rfl⟩,
    ⟨fa16, _, PySem.W.mg_of X G a16, fun_mk (st := s_law) l16 c16 k16, (fun_mk (st := s_law) l16 c16 k16).binds fun _ _ _ _ _ _ us hl => match us, hl with | [_], _ => rfl⟩⟩
  obtain ⟨fa2, fd, hm, F, hb⟩ := T.f_law
  have hm2 := hm
  rw [hfa] at hm
  cases hm
  have all : ∀ {p : Addr × Addr → Prop}, p (cb0, Pb0) → ∀ x ∈ ([(cb0, Pb0)] : List (Addr × Addr)), p x := fun {p} hp x hx => by
    simp only [List.mem_cons, List.not_mem_nil, or_false] at hx
    subst hx
    exact hp
  refine ⟨fd, [(cb0, Pb0)], spLawT K [Pb0], all (p := fun p => h.get? p.2 = _) ?_, all (p := fun p => K.lookup p.2 = none) ?_, all (p := fun p => PySem.W.CodeHd h p.1 p.2) ?_, fun s v => ?_, fun H a ns hl _ hT hS => ?_, fun base _ _ TB => ?_⟩
  · exact tbq0i
  · exact tbq0h
  · exact codeHd_mk9 X tbq0 tbq0a tbq0b tbq0c tbq0d tbq0e tbq0f
  · obtain ⟨oc, od, kV, doc, pm, an, cdv, ct, osl, rfl, lk, hcd⟩ := F.ex
    exact .of_eq rfl
  · refine ⟨a, ns, rfl, hS, hl, fun P hP => ?_, fun _ => rfl⟩
    simp only [List.mem_cons, List.not_mem_nil, or_false] at hP
    rw [hP]
    exact hT (cb0, Pb0) (by simp)
  · haveI t0 : TabOf K mg base "law" Pb0 := ⟨cb0, TB (cb0, Pb0) (by simp), fun fa o fd h1 h2 h3 => by
      rw [PySem.W.mg_of X G a16] at h1
      cases h1
      rw [l16] at h2
      cases h2
      cases h3
      exact tbq0g⟩
    haveI EX : Exs K mg (fun i => ([C0, C1, C2, C3, C4, C5, C6] : List Addr).getD i 0) CT [6] := ⟨PySem.W.mg_of X G xeT, PySem.W.mg_of X G xe0, PySem.W.mg_of X G xe1, PySem.W.mg_of X G xe2, PySem.W.mg_of X G xe3, PySem.W.mg_of X G xe4, PySem.W.mg_of X G xe5, PySem.W.mg_of X G xe6, fun i hi => by
      simp only [List.mem_cons, List.not_mem_nil, or_false] at hi
      subst hi
      exact ⟨by decide, ⟨x6g, x6k, x6s, x6d, x6a, x6n, x6t, x6m⟩, x6e, x6v, fun j hj => match j, hj with | 0, _ => x6j0 | 1, _ => x6j1 | 2, _ => x6j2 | 3, _ => x6j3 | 4, _ => x6j4 | 5, _ => x6j5 | 6, _ => x6j6⟩
      , fun i hi => by
      simp only [List.mem_cons, List.not_mem_nil, or_false] at hi
      subst hi
      exact ⟨fun h => absurd h (by decide), fun h => absurd h (by decide), fun _ => ⟨⟨x6g, x6k, x6s, x6d⟩, x6f⟩⟩
      ⟩
    haveI TI6 : IniExcD K mg "NoText" ((fun i => ([C0, C1, C2, C3, C4, C5, C6] : List Addr).getD i 0) 6) "at" := ⟨PySem.W.mg_of X G xe6, ⟨⟨_, _, _, _, _, _, _, _, _, _, _, _, _, _, _, x6o, x6b⟩, x6sa, x6s, x6y, x6p⟩, x6f, fI6, _, x6i, x6u, fun s e u hX => PySem.W.binds_K hX rfl x6T rfl rfl rfl, fun s e hX => PySem.W.binds_K hX rfl x6T rfl rfl rfl, fun P w base k => ini_ok9 sc_ini6 rfl rfl rfl rfl rfl (fun _ => rfl) (fun sp len hb => fn_of x6l x6c sc_ini6 len (fun A outer s H vs Q E hr hsp => hb cdI6 A outer s H vs Q E hr hsp))⟩
    exact law_endT T nd hm2 F
end My
open PySem PySem.W PyProof.Rows
theorem PySem.Challenge.cw_suretickets_k40_texts_holds : PySem.Challenge.rw_suretickets_k40_texts.Holds := by
  w_on; o_law; k_head; (case hw => w_witness2)
  k_fill
  refine LamX.walk_ofTs (l := PySem.Challenge.rw_suretickets_k40_texts) (n := 63) (k := My.lv_law) (x := "script") (CX := fun _ => L2.CX0) rfl (by decide) rfl ⟨rfl, by decide, by decide⟩ (fun w h Y => PySem.W.km_in_of Y) ?F (fun _ _ _ _ _ h => h)
  case F =>
    intro w mg fa h Y KX G hmg
    have hT8 := PySem.W.km_tabs_of Y
    refine' My.txt_mkT KX G hmg ?z_isinstance ?z_int ?z_bool ?z_all ?z_tuple ?z_zip ?z_str ?z_len ?z_enumerate ?z_range ?z_list ?z_sorted ?z_ValueError ?z_set ?y_FIGURES ?a0 ?l0 ?c0 ?k0 ?a1 ?l1 ?c1 ?k1 ?a2 ?l2 ?c2 ?k2 ?a3 ?l3 ?c3 ?k3 ?a4 ?l4 ?c4 ?k4 ?a5 ?l5 ?c5 ?k5 ?a6 ?l6 ?c6 ?k6 ?a7 ?l7 ?c7 ?k7 ?a8 ?l8 ?c8 ?k8 ?a9 ?l9 ?c9 ?k9 ?a10 ?l10 ?c10 ?k10 ?a11 ?l11 ?c11 ?k11 ?a12 ?l12 ?c12 ?k12 ?a13 ?l13 ?c13 ?k13 ?a14 ?l14 ?c14 ?k14 ?a15 ?l15 ?c15 ?k15 ?a16 ?l16 ?c16 ?k16 ?tbq0 ?tbq0a ?tbq0b ?tbq0c ?tbq0d ?tbq0e ?tbq0f ?tbq0g ?tbq0h ?tbq0i ?nd ?xeT ?xe0 ?xe1 ?xe2 ?xe3 ?xe4 ?xe5 ?xe6 ?x6g ?x6k ?x6s ?x6d ?x6a ?x6n ?x6t ?x6m ?x6e ?x6v ?x6j0 ?x6j1 ?x6j2 ?x6j3 ?x6j4 ?x6j5 ?x6j6 ?x6y ?x6p ?x6o ?x6b ?x6sa ?x6i ?x6u ?x6l ?x6T ?x6c ?x6f
    (case z_isinstance => k_is)
    (case z_int => k_is)
    (case z_bool => k_is)
    (case z_all => k_is)
    (case z_tuple => k_is)
    (case z_zip => k_is)
    (case z_str => k_is)
    (case z_len => k_is)
    (case z_enumerate => k_is)
    (case z_range => k_is)
    (case z_list => k_is)
    (case z_sorted => k_is)
    (case z_ValueError => k_is)
    (case z_set => k_is)
    (case y_FIGURES => k_is)
    (case a0 => k_is)
    (case l0 => k_is)
    (case c0 => k_is)
    (case k0 => k_is)
    (case a1 => k_is)
    (case l1 => k_is)
    (case c1 => k_is)
    (case k1 => k_is)
    (case a2 => k_is)
    (case l2 => k_is)
    (case c2 => k_is)
    (case k2 => k_is)
    (case a3 => k_is)
    (case l3 => k_is)
    (case c3 => k_is)
    (case k3 => k_is)
    (case a4 => k_is)
    (case l4 => k_is)
    (case c4 => k_is)
    (case k4 => k_is)
    (case a5 => k_is)
    (case l5 => k_is)
    (case c5 => k_is)
    (case k5 => k_is)
    (case a6 => k_is)
    (case l6 => k_is)
    (case c6 => k_is)
    (case k6 => k_is)
    (case a7 => k_is)
    (case l7 => k_is)
    (case c7 => k_is)
    (case k7 => k_is)
    (case a8 => k_is)
    (case l8 => k_is)
    (case c8 => k_is)
    (case k8 => k_is)
    (case a9 => k_is)
    (case l9 => k_is)
    (case c9 => k_is)
    (case k9 => k_is)
    (case a10 => k_is)
    (case l10 => k_is)
    (case c10 => k_is)
    (case k10 => k_is)
    (case a11 => k_is)
    (case l11 => k_is)
    (case c11 => k_is)
    (case k11 => k_is)
    (case a12 => k_is)
    (case l12 => k_is)
    (case c12 => k_is)
    (case k12 => k_is)
    (case a13 => k_is)
    (case l13 => k_is)
    (case c13 => k_is)
    (case k13 => k_is)
    (case a14 => k_is)
    (case l14 => k_is)
    (case c14 => k_is)
    (case k14 => k_is)
    (case a15 => k_is)
    (case l15 => k_is)
    (case c15 => k_is)
    (case k15 => k_is)
    (case a16 => k_is)
    (case l16 => k_is)
    (case c16 => k_is)
    (case k16 => k_is)
    (case tbq0g => rfl)
    (case tbq0 => k_is)
    (case tbq0a => rfl)
    (case tbq0b => rfl)
    (case tbq0c => rfl)
    (case tbq0d => rfl)
    (case tbq0e => rfl)
    (case tbq0f => decide)
    (case tbq0h => kernel_rfl)
    (case tbq0i => exact hT8 _ (by simp))
    (case nd => decide)
    (case xeT => k_is)
    (case xe0 => k_is)
    (case xe1 => k_is)
    (case xe2 => k_is)
    (case xe3 => k_is)
    (case xe4 => k_is)
    (case xe5 => k_is)
    (case xe6 => k_is)
    (case x6g => k_is)
    (case x6k => k_is)
    (case x6s => k_is)
    (case x6d => k_is)
    (case x6a => k_is)
    (case x6n => k_is)
    (case x6t => k_is)
    (case x6m => k_is)
    (case x6e => kernel_rfl)
    (case x6v => kernel_rfl)
    (case x6j0 => kernel_rfl)
    (case x6j1 => kernel_rfl)
    (case x6j2 => kernel_rfl)
    (case x6j3 => kernel_rfl)
    (case x6j4 => kernel_rfl)
    (case x6j5 => kernel_rfl)
    (case x6j6 => kernel_rfl)
    (case x6y => k_is)
    (case x6p => k_is)
    (case x6o => k_is)
    (case x6b => rfl)
    (case x6sa => k_is)
    (case x6i => k_is)
    (case x6u => k_is)
    (case x6l => k_is)
    (case x6T => k_is)
    (case x6c => k_is)
    (case x6f => k_is)
