import PyProof.Rows.All
import Wide.All
import OpenK.AllK
import Wide.FinOn
import HandS.ForMost
import HandS.TupAny
import HandS.Conv
import HandS.Flow
import HandS.Lambda
import HandS.Deep
import HandS.Zip
import HandS.SortKw
import HandS.Iter
import KE.DatumOrd
import KE.GoesMore
import PyProof.EnumMake
import PyProof.SumWalkG
import PyProof.WalksMore
import PyProof.SeqI3
import HandS.Set
import HandS.SetFor
import HandS.TupSets
import HandS.IsInst
import HandS.Style
import HandS.More
import KE.KIndexOf
import KE.SortData
import KE.DataMinMax
import KE.KMinKey
import HandS.EndTab
import KE.KExcIs
import HandS.ExcOwn
import HandS.ExcIs
import HandS.ExcField
import HandS.ExcInit
import HandS.WordsExc
import HandS.MakeKwOnly
import HandS.FStr
import HandS.MakeKw
import HandS.OwnEq
import KE.KCallOwn
import PyProof.InstNe
import PySem.Challenge.RW_suretickets_k37_whole_desks_back_and_aga
set_option Elab.async false
set_option linter.all false
set_option maxRecDepth 100000
set_option maxHeartbeats 4000000
/-! Fx, part A: data without a heap, abstract stores, the judgements. -/
namespace Fx
open PySem L2

/-- data that never changes -/
inductive D where
  | non | bl (b : Bool) | int (i : Int) | str (x : Str) | tup (ds : List D) | lis (ds : List D)
mutual
def Rep (K : PySem.W.Frag) (H : Hp) : D → V → Prop
  | .non, v => v = .non
  | .bl b, v => v = .bl b
  | .int i, v => v = .int i
  | .str x, v => v = .str x
  | .tup ds, v => ∃ a xs, v = .ref a ∧ SqT K H a xs ∧ Reps K H ds xs
  | .lis ds, v => ∃ a xs o, v = .ref a ∧ H a = some (.frz o (.lst xs)) ∧ Reps K H ds xs
def Reps (K : PySem.W.Frag) (H : Hp) : List D → List V → Prop
  | [], xs => xs = []
  | d :: ds, xs => ∃ x r, xs = x :: r ∧ Rep K H d x ∧ Reps K H ds r
end
/-- tuples (and what is locked) stay -/
structure Tx (H H2 : Hp) : Prop where
  tup : ∀ a xs, H a = some (.tup xs) → H2 a = some (.tup xs)
  frz : ∀ a o u, H a = some (.frz o u) → H2 a = some (.frz o u)
  ext : ∀ a φ, H a = some (.ext φ) → H2 a = some (.ext φ)
theorem Tx.refl (H : Hp) : Tx H H := ⟨fun _ _ h => h, fun _ _ _ h => h, fun _ _ h => h⟩
theorem Tx.trans {H H1 H2 : Hp} (a : Tx H H1) (b : Tx H1 H2) : Tx H H2 := ⟨fun x y h => b.tup x y (a.tup x y h), fun x y z h => b.frz x y z (a.frz x y z h), fun x y h => b.ext x y (a.ext x y h)⟩
theorem Tx.same {H H2 : Hp} (s : Same H H2) : Tx H H2 := ⟨fun _ _ h => s _ _ h, fun _ _ _ h => s _ _ h, fun _ _ h => s _ _ h⟩
theorem sqT_tx {K : PySem.W.Frag} {H H2 : Hp} {a : Addr} {xs : List V} (t : Tx H H2) (h : SqT K H a xs) : SqT K H2 a xs := by
  rcases h with (h | ⟨o, h⟩) | h
  · exact .inl (.inl (t.tup _ _ h))
  · exact .inl (.inr ⟨o, t.frz _ _ _ h⟩)
  · exact .inr h
mutual
theorem Rep.tx {K : PySem.W.Frag} {H H2 : Hp} (t : Tx H H2) : ∀ {d : D} {v : V}, Rep K H d v → Rep K H2 d v
  | .non, _, h => h
  | .bl _, _, h => h
  | .int _, _, h => h
  | .str _, _, h => h
  | .tup _, _, ⟨a, xs, e, q, r⟩ => ⟨a, xs, e, sqT_tx t q, Reps.tx t r⟩
  | .lis _, _, ⟨a, xs, o, e, q, r⟩ => ⟨a, xs, o, e, t.frz _ _ _ q, Reps.tx t r⟩
theorem Reps.tx {K : PySem.W.Frag} {H H2 : Hp} (t : Tx H H2) : ∀ {ds : List D} {vs : List V}, Reps K H ds vs → Reps K H2 ds vs
  | [], _, h => h
  | _ :: _, _, ⟨x, r, e, h1, h2⟩ => ⟨x, r, e, Rep.tx t h1, Reps.tx t h2⟩
end
theorem Reps.length {K : PySem.W.Frag} {H : Hp} : ∀ {ds : List D} {vs : List V}, Reps K H ds vs → vs.length = ds.length
  | [], _, h => by rw [show _ = [] from h]; rfl
  | _ :: _, _, ⟨x, r, e, _, h2⟩ => by rw [e, List.length_cons, List.length_cons, Reps.length h2]
theorem Reps.get {K : PySem.W.Frag} {H : Hp} : ∀ {ds : List D} {vs : List V} {i : Nat} {d : D}, Reps K H ds vs → ds[i]? = some d → ∃ v, vs[i]? = some v ∧ Rep K H d v
  | [], _, _, _, _, e => by simp at e
  | _ :: _, _, 0, _, ⟨x, r, e, h1, _⟩, e2 => by
    subst e
    have : _ = _ := Option.some.inj e2
    subst this
    exact ⟨x, rfl, h1⟩
  | _ :: ds, _, i + 1, d, ⟨x, r, e, _, h2⟩, e2 => by
    subst e
    exact Reps.get (ds := ds) (i := i) h2 e2
theorem Reps.get' {K : PySem.W.Frag} {H : Hp} : ∀ {ds : List D} {vs : List V} {i : Nat} {v : V}, Reps K H ds vs → vs[i]? = some v → ∃ d, ds[i]? = some d ∧ Rep K H d v
  | [], _, _, _, h, e => by rw [show _ = [] from h] at e; simp at e
  | d :: _, _, 0, _, ⟨x, r, e, h1, _⟩, e2 => by
    subst e
    have : _ = _ := Option.some.inj e2
    subst this
    exact ⟨d, rfl, h1⟩
  | _ :: ds, _, i + 1, d, ⟨x, r, e, _, h2⟩, e2 => by
    subst e
    exact Reps.get' (ds := ds) (i := i) h2 e2
theorem Reps.append {K : PySem.W.Frag} {H : Hp} : ∀ {ds es : List D} {vs us : List V}, Reps K H ds vs → Reps K H es us → Reps K H (ds ++ es) (vs ++ us)
  | [], _, _, _, h, k => by rw [show _ = [] from h]; exact k
  | _ :: _, _, _, _, ⟨x, r, e, h1, h2⟩, k => by
    subst e
    exact ⟨x, _, rfl, h1, Reps.append h2 k⟩
theorem Reps.drop {K : PySem.W.Frag} {H : Hp} : ∀ {ds : List D} {vs : List V} (n : Nat), Reps K H ds vs → Reps K H (ds.drop n) (vs.drop n)
  | _, _, 0, h => h
  | [], _, n + 1, h => by rw [show _ = [] from h]; rfl
  | _ :: _, _, n + 1, ⟨x, r, e, _, h2⟩ => by
    subst e
    exact Reps.drop n h2
theorem Reps.take {K : PySem.W.Frag} {H : Hp} : ∀ {ds : List D} {vs : List V} (n : Nat), Reps K H ds vs → Reps K H (ds.take n) (vs.take n)
  | _, _, 0, _ => rfl
  | [], _, n + 1, h => by rw [show _ = [] from h]; rfl
  | _ :: _, _, n + 1, ⟨x, r, e, h1, h2⟩ => by
    subst e
    exact ⟨x, _, rfl, h1, Reps.take n h2⟩
theorem Reps.set {K : PySem.W.Frag} {H : Hp} {d : D} {v : V} (q : Rep K H d v) : ∀ {ds : List D} {vs : List V} (n : Nat), Reps K H ds vs → Reps K H (ds.set n d) (vs.set n v)
  | [], _, _, h => by rw [show _ = [] from h]; rfl
  | _ :: _, _, 0, ⟨x, r, e, _, h2⟩ => by
    subst e
    exact ⟨v, r, rfl, q, h2⟩
  | _ :: _, _, n + 1, ⟨x, r, e, h1, h2⟩ => by
    subst e
    exact ⟨x, _, rfl, h1, Reps.set q n h2⟩
theorem Reps.erase {K : PySem.W.Frag} {H : Hp} : ∀ {ds : List D} {vs : List V} (n : Nat), Reps K H ds vs → Reps K H (ds.eraseIdx n) (vs.eraseIdx n)
  | [], _, _, h => by rw [show _ = [] from h]; rfl
  | _ :: _, _, 0, ⟨x, r, e, _, h2⟩ => by
    subst e
    exact h2
  | _ :: _, _, n + 1, ⟨x, r, e, h1, h2⟩ => by
    subst e
    exact ⟨x, _, rfl, h1, Reps.erase n h2⟩
theorem Reps.reverse {K : PySem.W.Frag} {H : Hp} : ∀ {ds : List D} {vs : List V}, Reps K H ds vs → Reps K H ds.reverse vs.reverse
  | [], _, h => by rw [show _ = [] from h]; rfl
  | _ :: _, _, ⟨x, r, e, h1, h2⟩ => by
    subst e
    rw [List.reverse_cons, List.reverse_cons]
    exact (Reps.reverse h2).append ⟨x, [], rfl, h1, rfl⟩
/-- ints, bools, texts by their values -/
theorem reps_ints {K : PySem.W.Frag} {H : Hp} : ∀ {ns : List Int} {vs : List V}, Reps K H (ns.map D.int) vs ↔ vs = ns.map V.int
  | [], _ => Iff.rfl
  | n :: ns, vs => by
    constructor
    · rintro ⟨x, r, rfl, h1, h2⟩
      rw [show x = V.int n from h1, reps_ints.mp h2]
      rfl
    · rintro rfl
      exact ⟨_, _, rfl, rfl, reps_ints.mpr rfl⟩
theorem reps_bls {K : PySem.W.Frag} {H : Hp} : ∀ {ns : List Bool} {vs : List V}, Reps K H (ns.map D.bl) vs ↔ vs = ns.map V.bl
  | [], _ => Iff.rfl
  | n :: ns, vs => by
    constructor
    · rintro ⟨x, r, rfl, h1, h2⟩
      rw [show x = V.bl n from h1, reps_bls.mp h2]
      rfl
    · rintro rfl
      exact ⟨_, _, rfl, rfl, reps_bls.mpr rfl⟩
theorem reps_strs {K : PySem.W.Frag} {H : Hp} : ∀ {ns : List Str} {vs : List V}, Reps K H (ns.map D.str) vs ↔ vs = ns.map V.str
  | [], _ => Iff.rfl
  | n :: ns, vs => by
    constructor
    · rintro ⟨x, r, rfl, h1, h2⟩
      rw [show x = V.str n from h1, reps_strs.mp h2]
      rfl
    · rintro rfl
      exact ⟨_, _, rfl, rfl, reps_strs.mpr rfl⟩

/-- what a name may hold: data, a list of data that nobody changes, an object of the abstract store, a list of such things that nobody changes -/
inductive AV where
  | dat (d : D) | ls (ds : List D) | mut (j : Nat) | la (as : List AV) | scr (ns : List Int) | tx (ds : List D) | exc (C : Addr) (fs : List (Str × D)) | fn (f : Addr) | ta (as : List AV)
/-- an object of the abstract store -/
inductive MO where
  | lst (ds : List D) | town (j : Nat) | rests | ins (C : Addr) (fs : List (Str × AV)) | kd (ks : List Int) | tab (P : Addr) (q : Str)
def LstAt (ad : List Addr) (H : Hp) (a : Addr) (xs : List V) : Prop := H a = some (.lst xs) ∧ a ∉ ad
def ScrAt (K : PySem.W.Frag) (ad : List Addr) (H : Hp) (a : Addr) (xs : List V) : Prop := (Rd H a (.lst xs) ∧ a ∉ ad) ∨ SqL K (fun _ => none) a xs
/-- a tuple of the heap whose object is known: it has no dict -/
def ExT (H : Hp) (a : Addr) (xs : List V) : Prop := ∃ o : Obj, H a = some (.frz o (.tup xs)) ∧ o.cls = .type "tuple" ∧ o.dict = none
/-- the fields of an exception -/
def XdAt (K : PySem.W.Frag) (ad : List Addr) (H : Hp) (d : Option Addr) (fs : List (Str × D)) : Prop := match d with
  | none => fs = []
  | some dx => dx ∉ ad ∧ ∃ xs, H dx = some (.xd xs) ∧ ∀ f d, fs.lookup f = some d → ∃ v, xs.lookup f = some v ∧ Rep K H d v
/-- an exception that is held -/
def ExcAt (K : PySem.W.Frag) (ad : List Addr) (H : Hp) (C : Addr) (fs : List (Str × D)) (v : V) : Prop :=
  ∃ (a : Addr) (oe : Obj), v = .ref a ∧ a ∉ ad ∧ H a = some (.ext fun h => h.get? a = some oe) ∧ oe.cls = .ref C ∧ (∃ vs, oe.data = .fields vs) ∧ XdAt K ad H oe.dict fs
mutual
def RepA (K : PySem.W.Frag) (ad : List Addr) (H : Hp) : AV → V → Prop
  | .dat d, v => Rep K H d v
  | .ls ds, v => ∃ a xs, v = .ref a ∧ LstAt ad H a xs ∧ Reps K H ds xs
  | .mut j, v => ∃ a, ad[j]? = some a ∧ v = .ref a
  | .la as, v => ∃ a xs, v = .ref a ∧ LstAt ad H a xs ∧ RepAs K ad H as xs
  | .ta as, v => ∃ a xs, v = .ref a ∧ SqT K H a xs ∧ RepAs K ad H as xs
  | .scr ns, v => ∃ a, v = .ref a ∧ ScrAt K ad H a (ns.map V.int)
  | .tx ds, v => ∃ a xs, v = .ref a ∧ ExT H a xs ∧ Reps K H ds xs
  | .exc C fs, v => ExcAt K ad H C fs v
  | .fn f, v => v = .ref f
def RepAs (K : PySem.W.Frag) (ad : List Addr) (H : Hp) : List AV → List V → Prop
  | [], xs => xs = []
  | d :: ds, xs => ∃ x r, xs = x :: r ∧ RepA K ad H d x ∧ RepAs K ad H ds r
end
def RepF (K : PySem.W.Frag) (ad : List Addr) (H : Hp) : AV → V → Prop
  | .dat d, v => Rep K H d v
  | .mut j, v => ∃ a, ad[j]? = some a ∧ v = .ref a
  | _, _ => False
/-- the fields of an object -/
def RepFs (K : PySem.W.Frag) (ad : List Addr) (H : Hp) : List (Str × AV) → List (Str × V) → Prop
  | [], xs => xs = []
  | p :: ps, xs => ∃ v r, xs = (p.1, v) :: r ∧ RepF K ad H p.2 v ∧ RepFs K ad H ps r
/-- what the law's cells still hold: keys from 0 to 62, each once -/
def RestOk (kvs : List (Key × V)) : Prop := (kvs.map (·.1)).Nodup ∧ ∀ p ∈ kvs, ∃ i v : Int, p = (Sum.inl i, V.int v) ∧ 0 ≤ i ∧ i < 63
def ObjA (K : PySem.W.Frag) (ad : List Addr) (H : Hp) (a : Addr) : MO → Prop
  | .lst ds => ∃ xs, H a = some (.lst xs) ∧ Reps K H ds xs
  | .town j => ∃ (c : Int) (b : Addr), ad[j]? = some b ∧ H a = some (.dK [(Sum.inr "count", V.int c), (Sum.inr "rests", V.ref b)])
  | .rests => ∃ kvs, H a = some (.dK kvs) ∧ RestOk kvs
  | .ins C fs => ∃ dx xs, H a = some (.ins C dx xs) ∧ RepFs K ad H fs xs
  | .kd ks => H a = some (.dK (ks.map fun k => (Sum.inl k, V.bl true)))
  | .tab P q => a = P ∧ LamX.TabS H a q
/-- the store -/
structure StOk (K : PySem.W.Frag) (ad : List Addr) (H : Hp) (M : List MO) : Prop where
  nd : ad.Nodup
  len : ad.length = M.length
  obj : ∀ (j : Nat) (m : MO), M[j]? = some m → ∃ a, ad[j]? = some a ∧ ObjA K ad H a m
/-- from (ad, H) on to (ad2, H2): the store may change and grow by what is new; all else is kept -/
structure Nx (ad : List Addr) (H : Hp) (ad2 : List Addr) (H2 : Hp) : Prop where
  pre : ∃ t, ad2 = ad ++ t
  fresh : ∀ a ∈ ad2, a ∉ ad → H a = none
  keep : ∀ a o, a ∉ ad → H a = some o → H2 a = some o
  tx : Tx H H2
section
variable {K : PySem.W.Frag} {ad ad1 ad2 : List Addr} {H H1 H2 : Hp} {M : List MO}
theorem Nx.same (s : Same H H2) : Nx ad H ad H2 := ⟨⟨[], by simp⟩, fun a h n => absurd h n, fun a o _ h => s a o h, Tx.same s⟩
theorem Nx.refl : Nx ad H ad H := Nx.same (Same.refl H)
theorem Nx.sub (n : Nx ad H ad2 H2) {a : Addr} (h : a ∈ ad) : a ∈ ad2 := by
  obtain ⟨t, e⟩ := n.pre
  rw [e]
  exact List.mem_append_left _ h
theorem Nx.trans (n : Nx ad H ad1 H1) (m : Nx ad1 H1 ad2 H2) : Nx ad H ad2 H2 := by
  refine ⟨?_, fun a h2 h => ?_, fun a o h e => ?_, n.tx.trans m.tx⟩
  · obtain ⟨t, e⟩ := n.pre
    obtain ⟨u, e2⟩ := m.pre
    exact ⟨t ++ u, by rw [e2, e, List.append_assoc]⟩
  · by_cases h1 : a ∈ ad1
    · exact n.fresh a h1 h
    · have z := m.fresh a h2 h1
      cases q : H a with
      | none => rfl
      | some o =>
        rw [n.keep a o h q] at z
        cases z
  · refine m.keep a o (fun z => ?_) (n.keep a o h e)
    have z2 := n.fresh a z h
    rw [e] at z2
    cases z2
theorem Nx.get (n : Nx ad H ad2 H2) {j : Nat} {a : Addr} (h : ad[j]? = some a) : ad2[j]? = some a := by
  obtain ⟨t, e⟩ := n.pre
  rw [e, List.getElem?_append_left (List.getElem?_eq_some_iff.mp h).1]
  exact h
theorem LstAt.nx (n : Nx ad H ad2 H2) {a : Addr} {xs : List V} (h : LstAt ad H a xs) : LstAt ad2 H2 a xs := by
  refine ⟨n.keep _ _ h.2 h.1, fun z => ?_⟩
  have q := n.fresh a z h.2
  rw [h.1] at q
  cases q
theorem LstAt.sq {a : Addr} {xs : List V} (h : LstAt ad H a xs) : SqL K H a xs := .inl (.inl h.1)
theorem ScrAt.nx (n : Nx ad H ad2 H2) {a : Addr} {xs : List V} (h : ScrAt K ad H a xs) : ScrAt K ad2 H2 a xs := by
  rcases h with ⟨h, hn⟩ | h
  · refine .inl ⟨?_, fun z => ?_⟩
    · rcases h with h | ⟨o, h⟩
      · exact .inl (n.keep _ _ hn h)
      · exact .inr ⟨o, n.keep _ _ hn h⟩
    · have q := n.fresh a z hn
      rcases h with h | ⟨o, h⟩ <;> (rw [h] at q; cases q)
  · exact .inr h
theorem ScrAt.sq {a : Addr} {xs : List V} (h : ScrAt K ad H a xs) : SqL K H a xs := by
  rcases h with ⟨h, _⟩ | (h | ⟨o, h⟩) | h
  · exact .inl h
  · cases h
  · cases h
  · exact .inr h
theorem ExT.tx (t : Tx H H2) {a : Addr} {xs : List V} (h : ExT H a xs) : ExT H2 a xs := by
  obtain ⟨o, h1, h2, h3⟩ := h
  exact ⟨o, t.frz _ _ _ h1, h2, h3⟩
theorem ExT.sq {a : Addr} {xs : List V} (h : ExT H a xs) : SqT K H a xs := by
  obtain ⟨o, h1, _⟩ := h
  exact .inl (.inr ⟨o, h1⟩)
theorem Nx.out (n : Nx ad H ad2 H2) {a : Addr} {o : HO} (h : a ∉ ad) (e : H a = some o) : a ∉ ad2 := fun z => by
  have q := n.fresh a z h
  rw [e] at q
  cases q
theorem XdAt.nx (n : Nx ad H ad2 H2) {d : Option Addr} {fs : List (Str × D)} (h : XdAt K ad H d fs) : XdAt K ad2 H2 d fs := by
  cases d with
  | none => exact h
  | some dx =>
    obtain ⟨h1, xs, h2, h3⟩ := h
    refine ⟨n.out h1 h2, xs, n.keep _ _ h1 h2, fun f d e => ?_⟩
    obtain ⟨v, e1, r⟩ := h3 f d e
    exact ⟨v, e1, r.tx n.tx⟩
theorem ExcAt.nx (n : Nx ad H ad2 H2) {C : Addr} {fs : List (Str × D)} {v : V} (h : ExcAt K ad H C fs v) : ExcAt K ad2 H2 C fs v := by
  obtain ⟨a, oe, e, h1, h2, h3, h4, h5⟩ := h
  exact ⟨a, oe, e, n.out h1 h2, n.keep _ _ h1 h2, h3, h4, h5.nx n⟩
mutual
theorem RepA.nx (n : Nx ad H ad2 H2) : ∀ {a : AV} {v : V}, RepA K ad H a v → RepA K ad2 H2 a v
  | .dat _, _, h => Rep.tx n.tx h
  | .ls _, _, ⟨a, xs, e, q, r⟩ => ⟨a, xs, e, q.nx n, r.tx n.tx⟩
  | .mut _, _, ⟨a, q, e⟩ => ⟨a, n.get q, e⟩
  | .la _, _, ⟨a, xs, e, q, r⟩ => ⟨a, xs, e, q.nx n, RepAs.nx n r⟩
  | .ta _, _, ⟨a, xs, e, q, r⟩ => ⟨a, xs, e, sqT_tx n.tx q, RepAs.nx n r⟩
  | .scr _, _, ⟨a, e, q⟩ => ⟨a, e, q.nx n⟩
  | .tx _, _, ⟨a, xs, e, q, r⟩ => ⟨a, xs, e, q.tx n.tx, r.tx n.tx⟩
  | .exc _ _, _, h => ExcAt.nx n h
  | .fn _, _, h => h
theorem RepAs.nx (n : Nx ad H ad2 H2) : ∀ {as : List AV} {vs : List V}, RepAs K ad H as vs → RepAs K ad2 H2 as vs
  | [], _, h => h
  | _ :: _, _, ⟨x, r, e, h1, h2⟩ => ⟨x, r, e, RepA.nx n h1, RepAs.nx n h2⟩
end
theorem RepF.nx' (g : ∀ (j : Nat) (a : Addr), ad[j]? = some a → ad2[j]? = some a) (t : Tx H H2) : ∀ {a : AV} {v : V}, RepF K ad H a v → RepF K ad2 H2 a v
  | .dat _, _, h => Rep.tx t h
  | .mut _, _, ⟨a, q, e⟩ => ⟨a, g _ _ q, e⟩
  | .ls _, _, h => h.elim
  | .la _, _, h => h.elim
  | .ta _, _, h => h.elim
  | .scr _, _, h => h.elim
  | .tx _, _, h => h.elim
  | .exc _ _, _, h => h.elim
  | .fn _, _, h => h.elim
theorem RepFs.nx' (g : ∀ (j : Nat) (a : Addr), ad[j]? = some a → ad2[j]? = some a) (t : Tx H H2) : ∀ {a : List (Str × AV)} {v : List (Str × V)}, RepFs K ad H a v → RepFs K ad2 H2 a v
  | [], _, h => h
  | _ :: _, _, ⟨x, r, e, h1, h2⟩ => ⟨x, r, e, RepF.nx' g t h1, RepFs.nx' g t h2⟩
theorem ObjA.nx' (g : ∀ (j : Nat) (a : Addr), ad[j]? = some a → ad2[j]? = some a) (t : Tx H H2) {a : Addr} (e : ∀ o, H a = some o → H2 a = some o) : ∀ {m : MO}, ObjA K ad H a m → ObjA K ad2 H2 a m
  | .lst _, ⟨xs, h, r⟩ => ⟨xs, e _ h, r.tx t⟩
  | .town _, ⟨c, b, h, k⟩ => ⟨c, b, g _ _ h, e _ k⟩
  | .rests, ⟨kvs, h, k⟩ => ⟨kvs, e _ h, k⟩
  | .ins _ _, ⟨dx, xs, h, k⟩ => ⟨dx, xs, e _ h, RepFs.nx' g t k⟩
  | .kd _, h => e _ h
  | .tab _ _, ⟨z, ps, h1, h2, h3⟩ => ⟨z, ps, e _ h1, h2, fun pos cv hc => by
    obtain ⟨c, e1, e2⟩ := h3 pos cv hc
    exact ⟨c, e1, t.ext _ _ e2⟩⟩
theorem ObjA.there {a : Addr} : ∀ {m : MO}, ObjA K ad H a m → ∃ o, H a = some o ∧ (∀ xs, o ≠ .tup xs) ∧ (∀ u w, o ≠ .frz u w) ∧ ∀ φ, o ≠ .ext φ
  | .lst _, ⟨xs, h, r⟩ => ⟨_, h, (by intro _ z; cases z), (by intro _ _ z; cases z), (by intro _ z; cases z)⟩
  | .town _, ⟨c, b, h, k⟩ => ⟨_, k, (by intro _ z; cases z), (by intro _ _ z; cases z), (by intro _ z; cases z)⟩
  | .rests, ⟨kvs, h, k⟩ => ⟨_, h, (by intro _ z; cases z), (by intro _ _ z; cases z), (by intro _ z; cases z)⟩
  | .ins _ _, ⟨dx, xs, h, k⟩ => ⟨_, h, (by intro _ z; cases z), (by intro _ _ z; cases z), (by intro _ z; cases z)⟩
  | .tab _ _, ⟨_, ps, h, _⟩ => ⟨_, h, (by intro _ z; cases z), (by intro _ _ z; cases z), (by intro _ z; cases z)⟩
  | .kd _, h => ⟨_, h, (by intro _ z; cases z), (by intro _ _ z; cases z), (by intro _ z; cases z)⟩
theorem StOk.there (S : StOk K ad H M) {a : Addr} (h : a ∈ ad) : ∃ o, H a = some o ∧ (∀ xs, o ≠ .tup xs) ∧ (∀ u w, o ≠ .frz u w) ∧ ∀ φ, o ≠ .ext φ := by
  obtain ⟨j, hj, e⟩ := List.mem_iff_getElem.mp h
  have hM : j < M.length := S.len ▸ hj
  obtain ⟨b, hb, o⟩ := S.obj j M[j] (List.getElem?_eq_getElem hM)
  rw [List.getElem?_eq_getElem hj, e] at hb
  cases hb
  exact o.there
theorem StOk.free (S : StOk K ad H M) {p : Addr} (h : H p = none) : p ∉ ad := fun z => by
  obtain ⟨o, e, _⟩ := S.there z
  rw [h] at e
  cases e
theorem StOk.same (s : Same H H2) (S : StOk K ad H M) : StOk K ad H2 M := ⟨S.nd, S.len, fun j m e => by
  obtain ⟨a, h, o⟩ := S.obj j m e
  exact ⟨a, h, o.nx' (fun _ _ q => q) (Tx.same s) (s a)⟩⟩
/-- a new object stands -/
theorem StOk.push (S : StOk K ad H M) {p : Addr} {m : MO} (hp : p ∉ ad) (hm : ObjA K (ad ++ [p]) H p m) : StOk K (ad ++ [p]) H (M ++ [m]) := by
  refine ⟨?_, by rw [List.length_append, List.length_append, S.len]; rfl, fun j x e => ?_⟩
  · rw [List.nodup_append]
    exact ⟨S.nd, List.nodup_cons.mpr ⟨List.not_mem_nil, List.nodup_nil⟩, fun a ha b hb z => hp (by rw [List.mem_singleton.mp hb] at z; rw [← z]; exact ha)⟩
  · by_cases hj : j < M.length
    · rw [List.getElem?_append_left hj] at e
      obtain ⟨a, h, o⟩ := S.obj j x e
      have g : ∀ (i : Nat) (b : Addr), ad[i]? = some b → (ad ++ [p])[i]? = some b := fun i b q => by
        rw [List.getElem?_append_left (List.getElem?_eq_some_iff.mp q).1]
        exact q
      exact ⟨a, g j a h, o.nx' g (Tx.refl H) fun _ q => q⟩
    · have hj2 : j = M.length := by
        have := (List.getElem?_eq_some_iff.mp e).1
        rw [List.length_append] at this
        have h1 : [m].length = 1 := rfl
        omega
      subst hj2
      rw [List.getElem?_append_right (Nat.le_refl _), Nat.sub_self] at e
      cases e
      refine ⟨p, ?_, hm⟩
      rw [← S.len, List.getElem?_append_right (Nat.le_refl _), Nat.sub_self]
      rfl
/-- the j-th object has changed -/
theorem StOk.put (S : StOk K ad H M) {j : Nat} {a : Addr} {m : MO} {o : HO} (hj : ad[j]? = some a) (hm : ObjA K ad (upd H a o) a m) : StOk K ad (upd H a o) (M.set j m) ∧ Nx ad H ad (upd H a o) := by
  have ha : a ∈ ad := List.mem_of_getElem? hj
  obtain ⟨u, hu, nt, nf, ne⟩ := S.there ha
  have t : Tx H (upd H a o) := ⟨fun b xs q => by
    rw [upd_ne (fun z => by subst z; rw [hu] at q; exact nt xs (Option.some.inj q))]
    exact q, fun b x y q => by
    rw [upd_ne (fun z => by subst z; rw [hu] at q; exact nf _ _ (Option.some.inj q))]
    exact q, fun b x q => by
    rw [upd_ne (fun z => by subst z; rw [hu] at q; exact ne _ (Option.some.inj q))]
    exact q⟩
  refine ⟨⟨S.nd, by rw [List.length_set, S.len], fun i x e => ?_⟩, ⟨⟨[], by simp⟩, fun a h n => absurd h n, fun b u hb q => by
    rw [upd_ne (fun z => hb (by rw [z]; exact ha))]
    exact q, t⟩⟩
  by_cases hi : j = i
  · subst hi
    have hl : j < M.length := by
      have := (List.getElem?_eq_some_iff.mp hj).1
      rw [S.len] at this
      exact this
    rw [List.getElem?_set_self hl] at e
    cases e
    exact ⟨a, hj, hm⟩
  · rw [List.getElem?_set_ne hi] at e
    obtain ⟨b, hb, ob⟩ := S.obj i x e
    refine ⟨b, hb, ob.nx' (fun _ _ q => q) t fun w q => ?_⟩
    rw [upd_ne (fun z => hi (nd_ix S.nd hj (by rw [← z]; exact hb)))]
    exact q
end

/-! ### the frame's names -/
abbrev Dl := List (Option AV)
structure EnvOk (K : PySem.W.Frag) (ad : List Addr) (H : Hp) (σ : L2.St) (δ : Dl) : Prop where
  len : σ.length = δ.length
  at_ : ∀ (i : Nat) (a : AV), δ[i]? = some (some a) → ∃ v, σ[i]? = some (some v) ∧ RepA K ad H a v
section
variable {K : PySem.W.Frag} {ad ad1 ad2 : List Addr} {H H1 H2 : Hp} {σ : L2.St} {δ : Dl}
theorem EnvOk.nx (n : Nx ad H ad2 H2) (e : EnvOk K ad H σ δ) : EnvOk K ad2 H2 σ δ := ⟨e.len, fun i a h => by
  obtain ⟨v, h1, h2⟩ := e.at_ i a h
  exact ⟨v, h1, h2.nx n⟩⟩
theorem EnvOk.set (e : EnvOk K ad H σ δ) {i : Nat} {a : AV} {v : V} (r : RepA K ad H a v) : EnvOk K ad H (σ.set i (some v)) (δ.set i (some a)) := ⟨by rw [List.length_set, List.length_set, e.len], fun j b h => by
  by_cases hi : i = j
  · subst hi
    have hl : i < δ.length := by
      have := (List.getElem?_eq_some_iff.mp h).1
      rw [List.length_set] at this
      exact this
    rw [List.getElem?_set_self hl] at h
    have : a = b := Option.some.inj (Option.some.inj h)
    subst this
    exact ⟨v, by rw [List.getElem?_set_self (by rw [e.len]; exact hl)], r⟩
  · rw [List.getElem?_set_ne hi] at h
    rw [List.getElem?_set_ne hi]
    exact e.at_ j b h⟩
/-- a name forgotten -/
theorem EnvOk.unset (e : EnvOk K ad H σ δ) {i : Nat} : EnvOk K ad H (σ.set i none) (δ.set i none) := ⟨by rw [List.length_set, List.length_set, e.len], fun j b h => by
  by_cases hi : i = j
  · subst hi
    have hl : i < δ.length := by
      have := (List.getElem?_eq_some_iff.mp h).1
      rw [List.length_set] at this
      exact this
    rw [List.getElem?_set_self hl] at h
    cases h
  · rw [List.getElem?_set_ne hi] at h
    rw [List.getElem?_set_ne hi]
    exact e.at_ j b h⟩
def wipeD (δ : Dl) : List Nat → Dl
  | [] => δ
  | v :: vs => (wipeD δ vs).set v none
theorem EnvOk.wipe (e : EnvOk K ad H σ δ) : ∀ vs : List Nat, EnvOk K ad H (L2.wipe σ vs) (wipeD δ vs)
  | [] => e
  | _ :: vs => (EnvOk.wipe e vs).unset
theorem envOk_start {as : List AV} {vs : List V} {N : List Str} (r : RepAs K ad H as vs) : EnvOk K ad H (L2.start N vs) (as.map some ++ List.replicate (N.length - as.length) none) := by
  have hl : ∀ {as : List AV} {vs : List V}, RepAs K ad H as vs → vs.length = as.length := by
    intro as
    induction as with
    | nil => intro vs h; rw [show vs = [] from h]; rfl
    | cons a as ih =>
      rintro vs ⟨x, r, rfl, _, h⟩
      rw [List.length_cons, List.length_cons, ih h]
  have hg : ∀ {as : List AV} {vs : List V} (i : Nat) (a : AV), RepAs K ad H as vs → as[i]? = some a → ∃ v, vs[i]? = some v ∧ RepA K ad H a v := by
    intro as
    induction as with
    | nil => intro vs i a _ e; simp at e
    | cons b as ih =>
      rintro vs i a ⟨x, r, rfl, h1, h⟩ e
      cases i with
      | zero =>
        have : b = a := Option.some.inj e
        subst this
        exact ⟨x, rfl, h1⟩
      | succ i => exact ih i a h e
  refine ⟨by unfold L2.start; simp only [List.length_append, List.length_map, List.length_replicate, hl r], fun i a h => ?_⟩
  by_cases hi : i < as.length
  · rw [List.getElem?_append_left (by rw [List.length_map]; exact hi), List.getElem?_map] at h
    have h2 : as[i]? = some a := by
      rw [List.getElem?_eq_getElem hi] at h ⊢
      exact Option.some.inj h ▸ rfl
    obtain ⟨v, hv, rv⟩ := hg i a r h2
    refine ⟨v, ?_, rv⟩
    unfold L2.start
    rw [List.getElem?_append_left (by rw [List.length_map, hl r]; exact hi), List.getElem?_map, hv]
    rfl
  · rw [List.getElem?_append_right (by rw [List.length_map]; omega), List.getElem?_replicate] at h
    split at h <;> cases h
end

/-! ### what a piece of syntax does, whatever the rule -/
def wE (X : Cx) (e : Expr) : TE := fun σ H Q => ∃ t, PE X e t ∧ t σ H Q
theorem wE_ok {X : Cx} {e : Expr} : PE X e (wE X e) := ⟨fun pins s σ H Q I ⟨t, h, q⟩ => h.run pins s σ H Q I q⟩
def wT (X : Cx) (e : Expr) : TT := fun σ H Q => ∃ t, PT X e t ∧ t σ H Q
theorem wT_ok {X : Cx} {e : Expr} : PT X e (wT X e) := ⟨fun pins s σ H Q I ⟨t, h, q⟩ => h.run pins s σ H Q I q⟩
def wW (X : Cx) (e : Expr) : TT := fun σ H Q => ∃ t, PW X e t ∧ t σ H Q
theorem wW_ok {X : Cx} {e : Expr} : PW X e (wW X e) := ⟨fun wh pins s σ H Q I ⟨t, h, q⟩ => h.run wh pins s σ H Q I q⟩
def wA (X : Cx) (e : List Expr) : TA := fun σ H Q => ∃ t, PA X e t ∧ t σ H Q
theorem wA_ok {X : Cx} {e : List Expr} : PA X e (wA X e) := ⟨fun pos pins s σ H Q I ⟨t, h, q⟩ => h.run pos pins s σ H Q I q⟩
def wSs (X : Cx) (e : List Stmt) : TS := fun D σ H => ∃ t, PSs X e t ∧ t D σ H
theorem wSs_ok {X : Cx} {e : List Stmt} : PSs X e (wSs X e) := ⟨fun pins s σ H D I ⟨t, h, q⟩ => h.run pins s σ H D I q⟩
def wS (X : Cx) (e : Stmt) : TS := fun D σ H => ∃ t, PS X e t ∧ t D σ H
theorem wS_ok {X : Cx} {e : Stmt} : PS X e (wS X e) := ⟨fun pins s σ H D I ⟨t, h, q⟩ => h.run pins s σ H D I q⟩
def wG (X : Cx) (e : Expr) : TG := fun v σ H Q => ∃ t, PG X e t ∧ t v σ H Q
theorem wG_ok {X : Cx} {e : Expr} : PG X e (wG X e) := ⟨fun pins s σ H v u Q I r ⟨t, h, q⟩ => h.run pins s σ H v u Q I r q⟩
def wTs (X : Cx) (e : List Expr) : TT := fun σ H Q => ∃ t, PTs X e t ∧ t σ H Q
theorem wTs_ok {X : Cx} {e : List Expr} : PTs X e (wTs X e) := ⟨fun pins s σ H Q I ⟨t, h, q⟩ => h.run pins s σ H Q I q⟩
def wK (X : Cx) (e : List Keyword) : TA := fun σ H Q => ∃ t, PK X e t ∧ t σ H Q
theorem wK_ok {X : Cx} {e : List Keyword} : PK X e (wK X e) := ⟨fun pos pins s σ H Q I ⟨t, h, q⟩ => h.run pos pins s σ H Q I q⟩
def wO (X : Cx) (f : Value → Value → Sem Value) : R2 := fun x y H Q => ∃ r, OpR X f r ∧ r x y H Q
theorem wO_ok {X : Cx} {f : Value → Value → Sem Value} : OpR X f (wO X f) := fun pins s σ H x y v u Q I rx ry ⟨r, h, q⟩ => h pins s σ H x y v u Q I rx ry q

/-! ### where a piece of syntax stands -/
structure SC where
  P : Program
  w : World
  K : PySem.W.Frag
  mg : Str → Option Value
  base : Heap
  N : List Str
  sc : Scope
  fn : Str → Bool
  k : Nat
  okE : Value → Str → Prop := fun _ _ => True
structure Dyn (c : SC) where
  A : Around
  s0 : Shared
  H0 : Hp
  env : Env
  outer : List Env
  stack : List Env
  ex : List Addr
  pn : List (Addr × Obj)
  xe : Value → Shared → Prop
  sc : env.scope = c.sc
  room : Room c.k A
  pass : PassesOwn (model c.P c.w) A env xe
  en : c.okE env.code env.qual
@[reducible] def Dyn.cx {c : SC} (y : Dyn c) : Cx where
  prog := c.P
  w := c.w
  K := c.K
  mg := c.mg
  base := c.base
  A := y.A
  N := c.N
  s_0 := y.s0
  H_0 := y.H0
  env := y.env
  outer := y.outer
  stack := y.stack
  ex := y.ex
  fn := c.fn
  calm := true
  pn := y.pn
  xe := y.xe
abbrev AQ := AV → List MO → Prop
/-- an expression -/
def EvX (c : SC) (δ : Dl) (M : List MO) (e : Expr) (Post : AQ) : Prop :=
  ∀ (y : Dyn c) (σ : L2.St) (H : Hp) (ad : List Addr), EnvOk c.K ad H σ δ → StOk c.K ad H M → ∀ Q : VK,
    (∀ v H2 ad2 a M2, Nx ad H ad2 H2 → StOk c.K ad2 H2 M2 → RepA c.K ad2 H2 a v → Post a M2 → Q v H2) → wE y.cx e σ H Q
/-- an expression that makes a new list -/
def EvF (c : SC) (δ : Dl) (M : List MO) (e : Expr) (Post : List D → List MO → Prop) : Prop :=
  ∀ (y : Dyn c) (σ : L2.St) (H : Hp) (ad : List Addr), EnvOk c.K ad H σ δ → StOk c.K ad H M → ∀ Q : VK,
    (∀ p xs H2 ad2 ds M2, Nx ad H ad2 H2 → StOk c.K ad2 H2 M2 → H p = none → p ∉ ad2 → H2 p = some (.lst xs) → Reps c.K H2 ds xs → Post ds M2 → Q (.ref p) H2) → wE y.cx e σ H Q
/-- a test -/
def EvT (c : SC) (δ : Dl) (M : List MO) (e : Expr) (Post : Bool → List MO → Prop) : Prop :=
  ∀ (y : Dyn c) (σ : L2.St) (H : Hp) (ad : List Addr), EnvOk c.K ad H σ δ → StOk c.K ad H M → ∀ Q : Bool → Hp → Prop,
    (∀ b H2 ad2 M2, Nx ad H ad2 H2 → StOk c.K ad2 H2 M2 → Post b M2 → Q b H2) → wT y.cx e σ H Q
def EvW (c : SC) (δ : Dl) (M : List MO) (e : Expr) (Post : Bool → List MO → Prop) : Prop :=
  ∀ (y : Dyn c) (σ : L2.St) (H : Hp) (ad : List Addr), EnvOk c.K ad H σ δ → StOk c.K ad H M → ∀ Q : Bool → Hp → Prop,
    (∀ b H2 ad2 M2, Nx ad H ad2 H2 → StOk c.K ad2 H2 M2 → Post b M2 → Q b H2) → wW y.cx e σ H Q
/-- a clause's tests -/
def EvTs (c : SC) (δ : Dl) (M : List MO) (e : List Expr) (Post : Bool → List MO → Prop) : Prop :=
  ∀ (y : Dyn c) (σ : L2.St) (H : Hp) (ad : List Addr), EnvOk c.K ad H σ δ → StOk c.K ad H M → ∀ Q : Bool → Hp → Prop,
    (∀ b H2 ad2 M2, Nx ad H ad2 H2 → StOk c.K ad2 H2 M2 → Post b M2 → Q b H2) → wTs y.cx e σ H Q
/-- arguments -/
def EvA (c : SC) (δ : Dl) (M : List MO) (es : List Expr) (Post : List AV → List MO → Prop) : Prop :=
  ∀ (y : Dyn c) (σ : L2.St) (H : Hp) (ad : List Addr), EnvOk c.K ad H σ δ → StOk c.K ad H M → ∀ Q : List V → Hp → Prop,
    (∀ vs H2 ad2 as M2, Nx ad H ad2 H2 → StOk c.K ad2 H2 M2 → RepAs c.K ad2 H2 as vs → Post as M2 → Q vs H2) → wA y.cx es σ H Q
def EvK (c : SC) (δ : Dl) (M : List MO) (es : List Keyword) (Post : List AV → List MO → Prop) : Prop :=
  ∀ (y : Dyn c) (σ : L2.St) (H : Hp) (ad : List Addr), EnvOk c.K ad H σ δ → StOk c.K ad H M → ∀ Q : List V → Hp → Prop,
    (∀ vs H2 ad2 as M2, Nx ad H ad2 H2 → StOk c.K ad2 H2 M2 → RepAs c.K ad2 H2 as vs → Post as M2 → Q vs H2) → wK y.cx es σ H Q
/-- what is wanted behind statements -/
structure AE where
  nx : Dl → List MO → Prop
  rt : AQ
  bk : Dl → List MO → Prop := fun _ _ => False
  ct : Dl → List MO → Prop := fun _ _ => False
structure EndsOk (K : PySem.W.Frag) (ad : List Addr) (H : Hp) (D : AE) (E : Ends) : Prop where
  nx : ∀ σ2 H2 ad2 δ2 M2, Nx ad H ad2 H2 → EnvOk K ad2 H2 σ2 δ2 → StOk K ad2 H2 M2 → D.nx δ2 M2 → E.nx σ2 H2
  rt : ∀ v H2 ad2 a M2, Nx ad H ad2 H2 → StOk K ad2 H2 M2 → RepA K ad2 H2 a v → D.rt a M2 → E.rt v H2
  bk : ∀ σ2 H2 ad2 δ2 M2, Nx ad H ad2 H2 → EnvOk K ad2 H2 σ2 δ2 → StOk K ad2 H2 M2 → D.bk δ2 M2 → E.bk σ2 H2
  ct : ∀ σ2 H2 ad2 δ2 M2, Nx ad H ad2 H2 → EnvOk K ad2 H2 σ2 δ2 → StOk K ad2 H2 M2 → D.ct δ2 M2 → E.ct σ2 H2
theorem EndsOk.on {K : PySem.W.Frag} {ad ad1 : List Addr} {H H1 : Hp} {D : AE} {E : Ends} (n : Nx ad H ad1 H1) (e : EndsOk K ad H D E) : EndsOk K ad1 H1 D E :=
  ⟨fun _ _ _ _ _ m => e.nx _ _ _ _ _ (n.trans m), fun _ _ _ _ _ m => e.rt _ _ _ _ _ (n.trans m), fun _ _ _ _ _ m => e.bk _ _ _ _ _ (n.trans m), fun _ _ _ _ _ m => e.ct _ _ _ _ _ (n.trans m)⟩
def Run (c : SC) (δ : Dl) (M : List MO) (sts : List Stmt) (D : AE) : Prop :=
  ∀ (y : Dyn c) (σ : L2.St) (H : Hp) (ad : List Addr), EnvOk c.K ad H σ δ → StOk c.K ad H M → ∀ E : Ends, EndsOk c.K ad H D E → wSs y.cx sts E σ H
def Run1 (c : SC) (δ : Dl) (M : List MO) (st : Stmt) (D : AE) : Prop :=
  ∀ (y : Dyn c) (σ : L2.St) (H : Hp) (ad : List Addr), EnvOk c.K ad H σ δ → StOk c.K ad H M → ∀ E : Ends, EndsOk c.K ad H D E → wS y.cx st E σ H
/-- a def's promise in these words -/
abbrev ASp := List AV → List MO → AQ → Prop
def spOf (K : PySem.W.Frag) (n : Nat) (A : ASp) : Sp := fun vs H Q _ => vs.length = n ∧ ∃ ad as M Post, StOk K ad H M ∧ RepAs K ad H as vs ∧ A as M Post ∧
  ∀ v H2 ad2 a M2, Nx ad H ad2 H2 → StOk K ad2 H2 M2 → RepA K ad2 H2 a v → Post a M2 → Q v H2
end Fx

/-! Fx, part B: rules for expressions and tests. -/
namespace Fx
open PySem L2
section
variable {c : SC} {δ : Dl} {M : List MO} {Post Post2 : AQ} {a b e t : Expr} {es : List Expr} {pos p p1 p2 : Pos} {j : Nat} {x : Str}

theorem EvX.imp (h : EvX c δ M e Post) (k : ∀ a M2, Post a M2 → Post2 a M2) : EvX c δ M e Post2 := fun y σ H ad he hs Q q =>
  h y σ H ad he hs Q fun v H2 ad2 a M2 n s r p => q v H2 ad2 a M2 n s r (k a M2 p)
theorem EvT.imp {B B2 : Bool → List MO → Prop} (h : EvT c δ M e B) (k : ∀ b M2, B b M2 → B2 b M2) : EvT c δ M e B2 := fun y σ H ad he hs Q q =>
  h y σ H ad he hs Q fun b H2 ad2 M2 n s p => q b H2 ad2 M2 n s (k b M2 p)
theorem EvF.imp {B B2 : List D → List MO → Prop} (h : EvF c δ M e B) (k : ∀ b M2, B b M2 → B2 b M2) : EvF c δ M e B2 := fun y σ H ad he hs Q q =>
  h y σ H ad he hs Q fun p xs H2 ad2 ds M2 n s f1 f2 f3 f4 z => q p xs H2 ad2 ds M2 n s f1 f2 f3 f4 (k ds M2 z)
/-- a new list that nobody will change -/
theorem x_F (h : EvF c δ M e fun ds M2 => Post (.ls ds) M2) : EvX c δ M e Post := fun y σ H ad he hs Q q =>
  h y σ H ad he hs Q fun p xs H2 ad2 ds M2 n s f1 f2 f3 f4 z => q (.ref p) H2 ad2 (.ls ds) M2 n s ⟨p, xs, rfl, ⟨f3, f2⟩, f4⟩ z

/-! ### names, constants -/
theorem x_var (i : Nat) {a : AV} (hd : δ[i]? = some (some a)) (hN : c.N[i]? = some x) (hv : Vis c.sc x) (h : Post a M) (hd1 : (x == ("__debug__" : Str)) = false := by decide) (hd2 : (x == ("__classdict__" : Str)) = false := by decide) :
    EvX c δ M (.Name x pos) Post := fun y σ H ad he hs Q q => by
  obtain ⟨v, e1, r⟩ := he.at_ i a hd
  exact ⟨_, pe_var (X := y.cx) (i := i) hN (by rw [show y.cx.env.scope = c.sc from y.sc]; exact hv) hd1 hd2, v, e1, q v H ad a M Nx.refl hs r h⟩
theorem x_int {i : Int} (h : Post (.dat (.int i)) M) : EvX c δ M (.Constant (.int i) j pos) Post := fun y σ H ad he hs Q q => ⟨_, pe_int, q _ H ad _ M Nx.refl hs (show RepA _ _ _ (.dat (.int i)) _ from rfl) h⟩
theorem x_bl {i : Bool} (h : Post (.dat (.bl i)) M) : EvX c δ M (.Constant (.bool i) j pos) Post := fun y σ H ad he hs Q q => ⟨_, pe_bl, q _ H ad _ M Nx.refl hs (show RepA _ _ _ (.dat (.bl i)) _ from rfl) h⟩
theorem x_non (h : Post (.dat .non) M) : EvX c δ M (.Constant .none j pos) Post := fun y σ H ad he hs Q q => ⟨_, pe_non, q _ H ad _ M Nx.refl hs (show RepA _ _ _ (.dat .non) _ from rfl) h⟩
theorem x_str {i : Str} (h : Post (.dat (.str i)) M) : EvX c δ M (.Constant (.str i) j pos) Post := fun y σ H ad he hs Q q => ⟨_, pe_str, q _ H ad _ M Nx.refl hs (show RepA _ _ _ (.dat (.str i)) _ from rfl) h⟩
/-- a constant of the module -/
theorem x_glob {d : D} {u : Value} {v : V} (hg : c.sc.names.lookup x = some .globalImplicit) (hm : c.mg x = some u) (r : RelV v u) (hd : ∀ H, Rep c.K H d v) (h : Post (.dat d) M) (hd1 : (x == ("__debug__" : Str)) = false := by decide) :
    EvX c δ M (.Name x pos) Post := fun y σ H ad he hs Q q => by
  refine ⟨_, pe_glob (X := y.cx) (v := v) (u := u) ?_ hm r hd1, q v H ad (.dat d) M Nx.refl hs (hd H) h⟩
  show y.env.scope.names.lookup x = some .globalImplicit
  rw [y.sc]
  exact hg

/-! ### operators -/
def BinR (c : SC) (f : Value → Value → Sem Value) (x y : AV) (M : List MO) (Post : AQ) : Prop :=
  ∀ (z : Dyn c) (H : Hp) (ad : List Addr), StOk c.K ad H M → ∀ vx vy, RepA c.K ad H x vx → RepA c.K ad H y vy → ∀ Q : VK,
    (∀ v H2 ad2 a M2, Nx ad H ad2 H2 → StOk c.K ad2 H2 M2 → RepA c.K ad2 H2 a v → Post a M2 → Q v H2) → wO z.cx f vx vy H Q
def CmpR (c : SC) (op : CmpOp) (x y : AV) (M : List MO) (B : Bool → List MO → Prop) : Prop :=
  ∀ (z : Dyn c) (H : Hp) (ad : List Addr), StOk c.K ad H M → ∀ vx vy, RepA c.K ad H x vx → RepA c.K ad H y vy → ∀ Q : VK,
    (∀ b H2 ad2 M2, Nx ad H ad2 H2 → StOk c.K ad2 H2 M2 → B b M2 → Q (.bl b) H2) → wO z.cx (compareOp op) vx vy H Q
theorem x_bin {op : Operator} (h : EvX c δ M a fun x M1 => EvX c δ M1 b fun y M2 => BinR c (binaryOp op) x y M2 Post) : EvX c δ M (.BinOp a op b pos) Post := fun y σ H ad he hs Q q =>
  ⟨_, pe_op wO_ok wE_ok wE_ok, h y σ H ad he hs _ fun v H1 ad1 x M1 n1 s1 r1 p1 => p1 y σ H1 ad1 (he.nx n1) s1 _ fun u H2 ad2 z M2 n2 s2 r2 p2 =>
    p2 y H2 ad2 s2 v u (r1.nx n2) r2 Q fun w H3 ad3 a3 M3 n3 s3 r3 p3 => q w H3 ad3 a3 M3 ((n1.trans n2).trans n3) s3 r3 p3⟩
theorem x_cmp {op : CmpOp} (h : EvX c δ M a fun x M1 => EvX c δ M1 b fun y M2 => CmpR c op x y M2 fun k M3 => Post (.dat (.bl k)) M3) (hm : behindInMarks op b = false) : EvX c δ M (.Compare a [op] [b] pos) Post := fun y σ H ad he hs Q q =>
  ⟨_, pe_cmpR wO_ok wE_ok wE_ok hm, h y σ H ad he hs _ fun v H1 ad1 x M1 n1 s1 r1 p1 => p1 y σ H1 ad1 (he.nx n1) s1 _ fun u H2 ad2 z M2 n2 s2 r2 p2 =>
    p2 y H2 ad2 s2 v u (r1.nx n2) r2 Q fun k H3 ad3 M3 n3 s3 p3 => q _ H3 ad3 _ M3 ((n1.trans n2).trans n3) s3 (show RepA _ _ _ (.dat (.bl k)) _ from rfl) p3⟩
theorem t_cmp {op : CmpOp} {B : Bool → List MO → Prop} (h : EvX c δ M a fun x M1 => EvX c δ M1 b fun y M2 => CmpR c op x y M2 B) (hm : behindInMarks op b = false) : EvT c δ M (.Compare a [op] [b] pos) B := fun y σ H ad he hs Q q =>
  ⟨_, pt_cmpR wO_ok wE_ok wE_ok hm, h y σ H ad he hs _ fun v H1 ad1 x M1 n1 s1 r1 p1 => p1 y σ H1 ad1 (he.nx n1) s1 _ fun u H2 ad2 z M2 n2 s2 r2 p2 =>
    p2 y H2 ad2 s2 v u (r1.nx n2) r2 _ fun k H3 ad3 M3 n3 s3 p3 => ⟨k, rfl, q _ H3 ad3 M3 ((n1.trans n2).trans n3) s3 p3⟩⟩
theorem x_chain {op op2 : CmpOp} {e : Expr} (h : EvX c δ M a fun x M1 => EvX c δ M1 b fun y M2 => CmpR c op x y M2 fun k M3 => (k = true → EvX c δ M3 e fun z M4 => CmpR c op2 y z M4 fun k M5 => Post (.dat (.bl k)) M5) ∧ (k = false → Post (.dat (.bl false)) M3))
    (hm : lastMarks [op, op2] [b, e] = false) : EvX c δ M (.Compare a [op, op2] [b, e] pos) Post := fun y σ H ad he hs Q q =>
  ⟨_, pe_chain wO_ok wO_ok wE_ok wE_ok wE_ok hm, h y σ H ad he hs _ fun v H1 ad1 x M1 n1 s1 r1 p1 => p1 y σ H1 ad1 (he.nx n1) s1 _ fun u H2 ad2 z M2 n2 s2 r2 p2 =>
    p2 y H2 ad2 s2 v u (r1.nx n2) r2 _ fun k H3 ad3 M3 n3 s3 p3 => ⟨k, rfl, by
      have n13 := (n1.trans n2).trans n3
      cases k with
      | false => exact iteF (q _ H3 ad3 _ M3 n13 s3 (show RepA _ _ _ (.dat (.bl false)) _ from rfl) (p3.2 rfl))
      | true =>
        refine iteT (p3.1 rfl y σ H3 ad3 (he.nx n13) s3 _ fun w H4 ad4 a4 M4 n4 s4 r4 p4 => ?_)
        exact p4 y H4 ad4 s4 u w ((r2.nx n3).nx n4) r4 Q fun k5 H5 ad5 M5 n5 s5 p5 => q _ H5 ad5 _ M5 ((n13.trans n4).trans n5) s5 (show RepA _ _ _ (.dat (.bl k5)) _ from rfl) p5⟩⟩
theorem t_chain {op op2 : CmpOp} {e : Expr} {B : Bool → List MO → Prop} (h : EvX c δ M a fun x M1 => EvX c δ M1 b fun y M2 => CmpR c op x y M2 fun k M3 => (k = true → EvX c δ M3 e fun z M4 => CmpR c op2 y z M4 B) ∧ (k = false → B false M3))
    (hm : lastMarks [op, op2] [b, e] = false) : EvT c δ M (.Compare a [op, op2] [b, e] pos) B := fun y σ H ad he hs Q q =>
  ⟨_, pt_chain wO_ok wO_ok wE_ok wE_ok wE_ok hm, h y σ H ad he hs _ fun v H1 ad1 x M1 n1 s1 r1 p1 => p1 y σ H1 ad1 (he.nx n1) s1 _ fun u H2 ad2 z M2 n2 s2 r2 p2 =>
    p2 y H2 ad2 s2 v u (r1.nx n2) r2 _ fun k H3 ad3 M3 n3 s3 p3 => ⟨k, rfl, by
      have n13 := (n1.trans n2).trans n3
      cases k with
      | false => exact iteF ⟨false, rfl, q _ H3 ad3 M3 n13 s3 (p3.2 rfl)⟩
      | true =>
        refine iteT (p3.1 rfl y σ H3 ad3 (he.nx n13) s3 _ fun w H4 ad4 a4 M4 n4 s4 r4 p4 => ?_)
        exact p4 y H4 ad4 s4 u w ((r2.nx n3).nx n4) r4 _ fun k5 H5 ad5 M5 n5 s5 p5 => ⟨k5, rfl, q _ H5 ad5 M5 ((n13.trans n4).trans n5) s5 p5⟩⟩⟩

/-! ### tests -/
variable {B : Bool → List MO → Prop}
theorem t_val (h : EvX c δ M e fun a M1 => ∃ k, a = .dat (.bl k) ∧ B k M1) (he : ∀ env whole, isTrue e env whole = (do let v ← whole; standAt e.pos; holding [v] (truthy v))) : EvT c δ M e B := fun y σ H ad hn hs Q q =>
  ⟨_, pt_val wE_ok (he y.env), h y σ H ad hn hs _ fun v H1 ad1 x M1 n1 s1 r1 ⟨k, ex, p1⟩ => by
    subst ex
    exact ⟨k, r1, q k H1 ad1 M1 n1 s1 p1⟩⟩
/-- what is true of a value -/
def TruA (M : List MO) : AV → Bool → Prop
  | .dat .non, k => k = false
  | .dat (.bl b), k => k = b
  | .dat (.int i), k => k = (i != 0)
  | .dat (.str x), k => x.length ≤ 1000000 ∧ k = (x.length != 0)
  | .dat (.tup ds), k => k = !ds.isEmpty
  | .ls ds, k => k = !ds.isEmpty
  | .mut j, k => ∃ ds, M[j]? = some (.lst ds) ∧ k = !ds.isEmpty
  | .la as, k => k = !as.isEmpty
  | .ta as, k => k = !as.isEmpty
  | .dat (.lis ds), k => k = !ds.isEmpty
  | .scr ns, k => k = !ns.isEmpty
  | .tx ds, k => k = !ds.isEmpty
  | .exc _ _, _ => False
  | .fn _, _ => False
theorem reps_empty {K : PySem.W.Frag} {H : Hp} {ds : List D} {vs : List V} (r : Reps K H ds vs) : (!vs.isEmpty) = !ds.isEmpty := by
  have := r.length
  cases ds <;> cases vs <;> first | rfl | (simp at this)
theorem repAs_length {K : PySem.W.Frag} {ad : List Addr} {H : Hp} : ∀ {as : List AV} {vs : List V}, RepAs K ad H as vs → vs.length = as.length
  | [], _, h => by rw [show _ = [] from h]; rfl
  | _ :: _, _, ⟨x, r, e, _, h2⟩ => by rw [e, List.length_cons, List.length_cons, repAs_length h2]
theorem tru_of {K : PySem.W.Frag} {ad : List Addr} {H : Hp} (S : StOk K ad H M) : ∀ {a : AV} {v : V} {k : Bool}, RepA K ad H a v → TruA M a k → TruV K v H k
  | .dat .non, _, _, r, h => by rw [show _ = V.non from r]; exact h
  | .dat (.bl b), _, _, r, h => by rw [show _ = V.bl b from r]; exact h
  | .dat (.int i), _, _, r, h => by rw [show _ = V.int i from r]; exact h
  | .dat (.str x), _, _, r, h => by
    rw [show _ = V.str x from r]
    refine ⟨Nat.le_trans h.1 (by decide), h.2.trans ?_⟩
    cases q : x.length with
    | zero => rfl
    | succ n => simp <;> omega
  | .dat (.tup ds), _, _, ⟨a, xs, e, q, r⟩, h => by
    subst e
    exact .inr (.inl ⟨xs, q, h.trans (reps_empty r).symm⟩)
  | .ls ds, _, _, ⟨a, xs, e, q, r⟩, h => by
    subst e
    exact .inl ⟨xs, q.sq, h.trans (reps_empty r).symm⟩
  | .mut j, _, _, ⟨a, q, e⟩, ⟨ds, hm, h⟩ => by
    subst e
    obtain ⟨a2, h2, xs, h3, r⟩ := S.obj j _ hm
    rw [q] at h2
    cases h2
    exact .inl ⟨xs, .inl (.inl h3), h.trans (reps_empty r).symm⟩
  | .dat (.lis ds), _, _, ⟨a, xs, o, e, q, r⟩, h => by
    subst e
    exact .inl ⟨xs, .inl (.inr ⟨o, q⟩), h.trans (reps_empty r).symm⟩
  | .ta as, _, _, ⟨a, xs, e, q, r⟩, h => by
    subst e
    refine .inr (.inl ⟨xs, q, h.trans ?_⟩)
    have := repAs_length r
    cases as <;> cases xs <;> first | rfl | (simp at this)
  | .la as, _, _, ⟨a, xs, e, q, r⟩, h => by
    subst e
    refine .inl ⟨xs, q.sq, h.trans ?_⟩
    have := repAs_length r
    cases as <;> cases xs <;> first | rfl | (simp at this)
  | .scr ns, _, _, ⟨a, e, q⟩, h => by
    subst e
    refine .inl ⟨_, q.sq, h.trans ?_⟩
    cases ns <;> rfl
  | .tx ds, _, _, ⟨a, xs, e, q, r⟩, h => by
    subst e
    exact .inr (.inl ⟨xs, q.sq, h.trans (reps_empty r).symm⟩)
  | .exc _ _, _, _, _, h => h.elim
  | .fn _, _, _, _, h => h.elim
theorem t_tru (h : EvX c δ M e fun a M1 => ∃ k, TruA M1 a k ∧ B k M1) (he : ∀ env whole, isTrue e env whole = (do let v ← whole; standAt e.pos; holding [v] (truthy v))) : EvT c δ M e B := fun y σ H ad hn hs Q q =>
  ⟨_, pt_truth wE_ok (he y.env), h y σ H ad hn hs _ fun v H1 ad1 x M1 n1 s1 r1 ⟨k, hk, p1⟩ => ⟨k, tru_of s1 r1 hk, q k H1 ad1 M1 n1 s1 p1⟩⟩
theorem t_not (h : EvT c δ M e fun k M1 => B (!k) M1) : EvT c δ M (.UnaryOp .Not e pos) B := fun y σ H ad he hs Q q =>
  ⟨_, pt_not wT_ok, h y σ H ad he hs _ fun k H1 ad1 M1 n1 s1 p1 => q _ H1 ad1 M1 n1 s1 p1⟩
theorem t_W (h : EvW c δ M e B) : EvT c δ M e B := fun y σ H ad he hs Q q => ⟨_, wW_ok.pt, h y σ H ad he hs Q q⟩
theorem w_and1 (h : EvT c δ M a B) : EvW c δ M (.BoolOp .And [a] pos) B := fun y σ H ad he hs Q q => ⟨_, pw_and1 wT_ok, h y σ H ad he hs Q q⟩
theorem w_or1 (h : EvT c δ M a B) : EvW c δ M (.BoolOp .Or [a] pos) B := fun y σ H ad he hs Q q => ⟨_, pw_or1 wT_ok, h y σ H ad he hs Q q⟩
theorem w_and (h : EvT c δ M a fun k M1 => (k = true → EvW c δ M1 (.BoolOp .And (b :: es) pos) B) ∧ (k = false → B false M1)) : EvW c δ M (.BoolOp .And (a :: b :: es) pos) B := fun y σ H ad he hs Q q =>
  ⟨_, pw_and wT_ok wW_ok, h y σ H ad he hs _ fun k H1 ad1 M1 n1 s1 p1 => by
    cases k with
    | true => exact iteT (p1.1 rfl y σ H1 ad1 (he.nx n1) s1 Q fun k2 H2 ad2 M2 n2 s2 p2 => q k2 H2 ad2 M2 (n1.trans n2) s2 p2)
    | false => exact iteF (q false H1 ad1 M1 n1 s1 (p1.2 rfl))⟩
theorem w_or (h : EvT c δ M a fun k M1 => (k = true → B true M1) ∧ (k = false → EvW c δ M1 (.BoolOp .Or (b :: es) pos) B)) : EvW c δ M (.BoolOp .Or (a :: b :: es) pos) B := fun y σ H ad he hs Q q =>
  ⟨_, pw_or wT_ok wW_ok, h y σ H ad he hs _ fun k H1 ad1 M1 n1 s1 p1 => by
    cases k with
    | false => exact iteF (p1.2 rfl y σ H1 ad1 (he.nx n1) s1 Q fun k2 H2 ad2 M2 n2 s2 p2 => q k2 H2 ad2 M2 (n1.trans n2) s2 p2)
    | true => exact iteT (q true H1 ad1 M1 n1 s1 (p1.1 rfl))⟩
/-- as values -/
theorem x_one {op : BoolOp} (h : EvX c δ M a Post) : EvX c δ M (.BoolOp op [a] pos) Post := fun y σ H ad he hs Q q => ⟨_, pe_one wE_ok, h y σ H ad he hs Q q⟩
theorem x_and (h : EvX c δ M a fun x M1 => ∃ k, x = .dat (.bl k) ∧ (k = true → EvX c δ M1 (.BoolOp .And (b :: es) pos) Post) ∧ (k = false → Post (.dat (.bl false)) M1)) : EvX c δ M (.BoolOp .And (a :: b :: es) pos) Post := fun y σ H ad he hs Q q =>
  ⟨_, pe_and wE_ok wE_ok, h y σ H ad he hs _ fun v H1 ad1 x M1 n1 s1 r1 ⟨k, ex, p1⟩ => by
    subst ex
    refine ⟨k, r1, ?_⟩
    cases k with
    | true => exact iteT (p1.1 rfl y σ H1 ad1 (he.nx n1) s1 Q fun v2 H2 ad2 a2 M2 n2 s2 r2 p2 => q v2 H2 ad2 a2 M2 (n1.trans n2) s2 r2 p2)
    | false => exact iteF (q _ H1 ad1 _ M1 n1 s1 (show RepA _ _ _ (.dat (.bl false)) _ from rfl) (p1.2 rfl))⟩
theorem x_or (h : EvX c δ M a fun x M1 => ∃ k, x = .dat (.bl k) ∧ (k = true → Post (.dat (.bl true)) M1) ∧ (k = false → EvX c δ M1 (.BoolOp .Or (b :: es) pos) Post)) : EvX c δ M (.BoolOp .Or (a :: b :: es) pos) Post := fun y σ H ad he hs Q q =>
  ⟨_, pe_or wE_ok wE_ok, h y σ H ad he hs _ fun v H1 ad1 x M1 n1 s1 r1 ⟨k, ex, p1⟩ => by
    subst ex
    refine ⟨k, r1, ?_⟩
    cases k with
    | false => exact iteF (p1.2 rfl y σ H1 ad1 (he.nx n1) s1 Q fun v2 H2 ad2 a2 M2 n2 s2 r2 p2 => q v2 H2 ad2 a2 M2 (n1.trans n2) s2 r2 p2)
    | true => exact iteT (q _ H1 ad1 _ M1 n1 s1 (show RepA _ _ _ (.dat (.bl true)) _ from rfl) (p1.1 rfl))⟩
theorem x_not (h : EvX c δ M a fun x M1 => ∃ k, TruA M1 x k ∧ Post (.dat (.bl (!k))) M1) : EvX c δ M (.UnaryOp .Not a pos) Post := fun y σ H ad he hs Q q =>
  ⟨_, pe_notT wE_ok, h y σ H ad he hs _ fun v H1 ad1 x M1 n1 s1 r1 ⟨k, hk, p1⟩ => ⟨k, tru_of s1 r1 hk, q _ H1 ad1 _ M1 n1 s1 (show RepA _ _ _ (.dat (.bl (!k))) _ from rfl) p1⟩⟩
theorem x_neg (h : EvX c δ M a fun x M1 => ∃ i, x = .dat (.int i) ∧ Post (.dat (.int (-i))) M1) : EvX c δ M (.UnaryOp .USub a pos) Post := fun y σ H ad he hs Q q =>
  ⟨_, pe_un un_neg wE_ok, h y σ H ad he hs _ fun v H1 ad1 x M1 n1 s1 r1 ⟨i, ex, p1⟩ => by
    subst ex
    exact ⟨i, r1, q _ H1 ad1 _ M1 n1 s1 (show RepA _ _ _ (.dat (.int (-i))) _ from rfl) p1⟩⟩
theorem x_if (h : EvT c δ M t fun k M1 => (k = true → EvX c δ M1 a Post) ∧ (k = false → EvX c δ M1 b Post)) : EvX c δ M (.IfExp t a b pos) Post := fun y σ H ad he hs Q q =>
  ⟨_, pe_ifExp wT_ok wE_ok wE_ok, h y σ H ad he hs _ fun k H1 ad1 M1 n1 s1 p1 => by
    cases k with
    | true => exact iteT (p1.1 rfl y σ H1 ad1 (he.nx n1) s1 Q fun v2 H2 ad2 a2 M2 n2 s2 r2 p2 => q v2 H2 ad2 a2 M2 (n1.trans n2) s2 r2 p2)
    | false => exact iteF (p1.2 rfl y σ H1 ad1 (he.nx n1) s1 Q fun v2 H2 ad2 a2 M2 n2 s2 r2 p2 => q v2 H2 ad2 a2 M2 (n1.trans n2) s2 r2 p2)⟩

/-! ### arguments, displays -/
theorem a_nil {Pa : List AV → List MO → Prop} (h : Pa [] M) : EvA c δ M [] Pa := fun y σ H ad he hs Q q => ⟨_, pa_nil, q [] H ad [] M Nx.refl hs rfl h⟩
theorem a_cons {Pa : List AV → List MO → Prop} (h : EvX c δ M e fun x M1 => EvA c δ M1 es fun xs M2 => Pa (x :: xs) M2) (hs1 : ∀ env, starEach (e :: es) env = (false, eval e env) :: starEach es env) : EvA c δ M (e :: es) Pa := fun y σ H ad he hs Q q =>
  ⟨_, pa_cons wE_ok wA_ok (hs1 y.env), h y σ H ad he hs _ fun v H1 ad1 x M1 n1 s1 r1 p1 => p1 y σ H1 ad1 (he.nx n1) s1 _ fun vs H2 ad2 xs M2 n2 s2 r2 p2 => q _ H2 ad2 (x :: xs) M2 (n1.trans n2) s2 ⟨v, vs, rfl, r1.nx n2, r2⟩ p2⟩
theorem k_nil {Pa : List AV → List MO → Prop} (h : Pa [] M) : EvK c δ M [] Pa := fun y σ H ad he hs Q q => ⟨_, pk_nil, q [] H ad [] M Nx.refl hs rfl h⟩
theorem k_cons {Pa : List AV → List MO → Prop} {nm : Option Str} {kpos : Pos} {ks : List Keyword} (h : EvX c δ M e fun x M1 => EvK c δ M1 ks fun xs M2 => Pa (x :: xs) M2) : EvK c δ M (⟨nm, e, kpos⟩ :: ks) Pa := fun y σ H ad he hs Q q =>
  ⟨_, pk_cons wE_ok wK_ok, h y σ H ad he hs _ fun v H1 ad1 x M1 n1 s1 r1 p1 => p1 y σ H1 ad1 (he.nx n1) s1 _ fun vs H2 ad2 xs M2 n2 s2 r2 p2 => q _ H2 ad2 (x :: xs) M2 (n1.trans n2) s2 ⟨v, vs, rfl, r1.nx n2, r2⟩ p2⟩
theorem reps_of_dat {K : PySem.W.Frag} {ad : List Addr} {H : Hp} : ∀ {ds : List D} {vs : List V}, RepAs K ad H (ds.map .dat) vs → Reps K H ds vs
  | [], _, h => h
  | _ :: _, _, ⟨x, r, e, h1, h2⟩ => ⟨x, r, e, h1, reps_of_dat h2⟩
/-- the list of data that a list of values is -/
def DatsAre : List AV → List D → Prop
  | [], ds => ds = []
  | a :: as, ds => ∃ d r, a = .dat d ∧ ds = d :: r ∧ DatsAre as r
theorem DatsAre.reps {K : PySem.W.Frag} {ad : List Addr} {H : Hp} : ∀ {as : List AV} {ds : List D} {vs : List V}, DatsAre as ds → RepAs K ad H as vs → Reps K H ds vs
  | [], _, _, e, h => by rw [show _ = [] from e]; exact h
  | _ :: _, _, _, ⟨d, r, e1, e2, q⟩, ⟨x, rr, e, h1, h2⟩ => by
    subst e1 e2 e
    exact ⟨x, rr, rfl, h1, q.reps h2⟩
class DatsC (as : List AV) (ds : outParam (List D)) : Prop where
  are : DatsAre as ds
instance datsC_nil : DatsC [] [] := ⟨rfl⟩
instance datsC_cons {d : D} {as : List AV} {ds : List D} [h : DatsC as ds] : DatsC (.dat d :: as) (d :: ds) := ⟨⟨d, ds, rfl, rfl, h.are⟩⟩
theorem dats_ex {as : List AV} {ds : List D} {Q : List D → Prop} [h1 : DatsC as ds] (h2 : ds.length ≤ 1000000) (h3 : Q ds) : ∃ ds, DatsAre as ds ∧ ds.length ≤ 1000000 ∧ Q ds := ⟨ds, h1.are, h2, h3⟩
theorem same_new {H : Hp} {p : Addr} {o : HO} (h : H p = none) : Same H (upd H p o) := fun b u e => by
  rw [upd_ne (ne_of_none e h)]
  exact e
theorem x_tup {k : Nat} (h : EvA c δ M es fun as M1 => ∃ ds, DatsAre as ds ∧ ds.length ≤ 1000000 ∧ Post (.dat (.tup ds)) M1) : EvX c δ M (.Tuple es k pos) Post := fun y σ H ad he hs Q q =>
  ⟨_, pe_tup wA_ok, h y σ H ad he hs _ fun vs H1 ad1 as M1 n1 s1 r1 ⟨ds, hd, hl, p1⟩ => by
    have rr := hd.reps r1
    refine ⟨by rw [rr.length]; exact Nat.le_trans hl (by decide), fun p hp => ?_⟩
    have sm := same_new (o := .tup vs) hp
    exact q _ _ ad1 _ M1 (n1.trans (Nx.same sm)) (s1.same sm) (show RepA _ _ _ (.dat (.tup ds)) _ from ⟨p, vs, rfl, .inl (.inl upd_same), rr.tx (Tx.same sm)⟩) p1⟩
theorem f_lst {Pf : List D → List MO → Prop} (h : EvA c δ M es fun as M1 => ∃ ds, DatsAre as ds ∧ ds.length ≤ 1000000 ∧ Pf ds M1) : EvF c δ M (.List es pos) Pf := fun y σ H ad he hs Q q =>
  ⟨_, pe_lst wA_ok, h y σ H ad he hs _ fun vs H1 ad1 as M1 n1 s1 r1 ⟨ds, hd, hl, p1⟩ => by
    have rr := hd.reps r1
    refine ⟨by rw [rr.length]; exact Nat.le_trans hl (by decide), fun p hp => ?_⟩
    have sm := same_new (o := .lst vs) hp
    have hp0 : H p = none := by
      cases z : H p with
      | none => rfl
      | some o =>
        by_cases hm : p ∈ ad
        · exact absurd (n1.sub hm) (s1.free hp)
        · rw [n1.keep p o hm z] at hp; cases hp
    exact q p vs _ ad1 ds M1 (n1.trans (Nx.same sm)) (s1.same sm) hp0 (s1.free hp) upd_same (rr.tx (Tx.same sm)) p1⟩
/-- a list of other things than data -/
theorem x_la (h : EvA c δ M es fun as M1 => as.length ≤ 1000000 ∧ Post (.la as) M1) : EvX c δ M (.List es pos) Post := fun y σ H ad he hs Q q =>
  ⟨_, pe_lst wA_ok, h y σ H ad he hs _ fun vs H1 ad1 as M1 n1 s1 r1 ⟨hl, p1⟩ => by
    refine ⟨by rw [repAs_length r1]; exact Nat.le_trans hl (by decide), fun p hp => ?_⟩
    have sm := same_new (o := .lst vs) hp
    exact q _ _ ad1 (.la as) M1 (n1.trans (Nx.same sm)) (s1.same sm) ⟨p, vs, rfl, ⟨upd_same, s1.free hp⟩, r1.nx (Nx.same sm)⟩ p1⟩
end

/-! ### values: sequences -/
/-- a list of data -/
def IsL (M : List MO) (a : AV) (ds : List D) : Prop := a = .ls ds ∨ ∃ j, a = .mut j ∧ M[j]? = some (.lst ds)
def IsS (M : List MO) (a : AV) (ds : List D) : Prop := a = .dat (.tup ds) ∨ IsL M a ds
section
variable {c : SC} {M : List MO} {Post : AQ} {B : Bool → List MO → Prop} {K : PySem.W.Frag} {ad : List Addr} {H : Hp}
theorem IsL.sq {a : AV} {ds : List D} {v : V} (h : IsL M a ds) (S : StOk K ad H M) (r : RepA K ad H a v) : ∃ p xs, v = .ref p ∧ SqL K H p xs ∧ Reps K H ds xs := by
  rcases h with rfl | ⟨j, rfl, hm⟩
  · obtain ⟨p, xs, e, q, rr⟩ := r
    exact ⟨p, xs, e, q.sq, rr⟩
  · obtain ⟨p, q, e⟩ := r
    obtain ⟨a2, h2, xs, h3, rr⟩ := S.obj j _ hm
    rw [q] at h2
    cases h2
    exact ⟨p, xs, e, .inl (.inl h3), rr⟩
theorem IsS.sq {a : AV} {ds : List D} {v : V} (h : IsS M a ds) (S : StOk K ad H M) (r : RepA K ad H a v) : ∃ p xs, v = .ref p ∧ (SqL K H p xs ∨ SqT K H p xs) ∧ Reps K H ds xs := by
  rcases h with rfl | h
  · obtain ⟨p, xs, e, q, rr⟩ := r
    exact ⟨p, xs, e, .inr q, rr⟩
  · obtain ⟨p, xs, e, q, rr⟩ := h.sq S r
    exact ⟨p, xs, e, .inl q, rr⟩
theorem isS_tup {ds : List D} : IsS M (.dat (.tup ds)) ds := .inl rfl
theorem isS_ls {ds : List D} : IsS M (.ls ds) ds := .inr (.inl rfl)
theorem isS_mut {j : Nat} {ds : List D} (h : M[j]? = some (.lst ds)) : IsS M (.mut j) ds := .inr (.inr ⟨j, rfl, h⟩)
theorem isL_ls {ds : List D} : IsL M (.ls ds) ds := .inl rfl
theorem isL_mut {j : Nat} {ds : List D} (h : M[j]? = some (.lst ds)) : IsL M (.mut j) ds := .inr ⟨j, rfl, h⟩

/-! ### arithmetic -/
theorem b_int {f : Value → Value → Sem Value} {C : Int → Int → Prop} {g : Int → Int → Int} (ho : ∀ X : Cx, OpR X f (rI C fun i j => .int (g i j))) {i j : Int} (hc : C i j) (h : Post (.dat (.int (g i j))) M) : BinR c f (.dat (.int i)) (.dat (.int j)) M Post :=
  fun z H ad hs vx vy rx ry Q q => ⟨_, ho z.cx, i, j, rx, ry, hc, q _ H ad _ M Nx.refl hs (show RepA _ _ _ (.dat (.int (g i j))) _ from rfl) h⟩
theorem b_int0 {f : Value → Value → Sem Value} {g : Int → Int → Int} (ho : ∀ X : Cx, OpR X f (rI0 fun i j => .int (g i j))) {i j : Int} (h : Post (.dat (.int (g i j))) M) : BinR c f (.dat (.int i)) (.dat (.int j)) M Post :=
  fun z H ad hs vx vy rx ry Q q => ⟨_, ho z.cx, i, j, rx, ry, q _ H ad _ M Nx.refl hs (show RepA _ _ _ (.dat (.int (g i j))) _ from rfl) h⟩
theorem b_add {i j : Int} (h : Post (.dat (.int (i + j))) M) : BinR c (binaryOp .Add) (.dat (.int i)) (.dat (.int j)) M Post := b_int0 (fun _ => op_add) h
theorem b_sub {i j : Int} (h : Post (.dat (.int (i - j))) M) : BinR c (binaryOp .Sub) (.dat (.int i)) (.dat (.int j)) M Post := b_int0 (fun _ => op_sub) h
theorem b_mul {i j : Int} (hc : CMul i j) (h : Post (.dat (.int (i * j))) M) : BinR c (binaryOp .Mult) (.dat (.int i)) (.dat (.int j)) M Post := b_int (fun _ => op_mul) hc h
theorem b_div {i j : Int} (hc : 0 < j ∧ j < 1073741824) (h : Post (.dat (.int (i / j))) M) : BinR c (binaryOp .FloorDiv) (.dat (.int i)) (.dat (.int j)) M Post := b_int (fun _ => op_fdiv) hc h
theorem b_mod {i j : Int} (hc : 0 < j) (h : Post (.dat (.int (i % j))) M) : BinR c (binaryOp .Mod) (.dat (.int i)) (.dat (.int j)) M Post := b_int (fun _ => op_mod) hc h
theorem b_pow {i j : Int} (hc : CPow i j) (h : Post (.dat (.int (i ^ j.toNat))) M) : BinR c (binaryOp .Pow) (.dat (.int i)) (.dat (.int j)) M Post := b_int (fun _ => op_pow) hc h
theorem b_strs {i j : Str} (hl : i.length + j.length ≤ 1000000) (h : Post (.dat (.str (i ++ j))) M) : BinR c (binaryOp .Add) (.dat (.str i)) (.dat (.str j)) M Post :=
  fun z H ad hs vx vy rx ry Q q => ⟨_, op_add_str, i, j, rx, ry, Nat.le_trans hl (by decide), q _ H ad _ M Nx.refl hs (show RepA _ _ _ (.dat (.str (i ++ j))) _ from rfl) h⟩
/-- t + u -/
theorem b_catT {ds es : List D} (hl : ds.length + es.length ≤ 1000000) (h : Post (.dat (.tup (ds ++ es))) M) : BinR c (binaryOp .Add) (.dat (.tup ds)) (.dat (.tup es)) M Post :=
  fun z H ad hs vx vy ⟨a, xs, ea, qa, ra⟩ ⟨b, ys, eb, qb, rb⟩ Q q => by
    refine ⟨_, op_catA, a, b, xs, ys, ea, eb, qa, qb, by rw [ra.length, rb.length]; exact Nat.le_trans hl (by decide), fun e => ?_, fun _ e => ?_, fun _ _ p hp => ?_⟩
    · subst e
      have e2 : ds = [] := by cases ds with | nil => rfl | cons d r => exact absurd ra.length (by simp)
      subst e2
      exact q _ H ad _ M Nx.refl hs (show RepA _ _ _ (.dat (.tup es)) _ from ⟨b, ys, rfl, qb, rb⟩) h
    · subst e
      have e2 : es = [] := by cases es with | nil => rfl | cons d r => exact absurd rb.length (by simp)
      subst e2
      rw [List.append_nil] at h
      exact q _ H ad _ M Nx.refl hs (show RepA _ _ _ (.dat (.tup ds)) _ from ⟨a, xs, rfl, qa, ra⟩) h
    · have sm := same_new (o := .tup (xs ++ ys)) hp
      exact q _ _ ad _ M (Nx.same sm) (hs.same sm) (show RepA _ _ _ (.dat (.tup (ds ++ es))) _ from ⟨p, _, rfl, .inl (.inl upd_same), (ra.append rb).tx (Tx.same sm)⟩) h

/-! ### comparisons -/
theorem c_lt {i j : Int} (h : B (decide (i < j)) M) : CmpR c .Lt (.dat (.int i)) (.dat (.int j)) M B := fun z H ad hs vx vy rx ry Q q => ⟨_, op_lt, i, j, rx, ry, q _ H ad M Nx.refl hs h⟩
theorem c_le {i j : Int} (h : B (decide (i ≤ j)) M) : CmpR c .LtE (.dat (.int i)) (.dat (.int j)) M B := fun z H ad hs vx vy rx ry Q q => ⟨_, op_le, i, j, rx, ry, q _ H ad M Nx.refl hs h⟩
theorem c_gt {i j : Int} (h : B (decide (j < i)) M) : CmpR c .Gt (.dat (.int i)) (.dat (.int j)) M B := fun z H ad hs vx vy rx ry Q q => ⟨_, op_gt, i, j, rx, ry, q _ H ad M Nx.refl hs h⟩
theorem c_ge {i j : Int} (h : B (decide (j ≤ i)) M) : CmpR c .GtE (.dat (.int i)) (.dat (.int j)) M B := fun z H ad hs vx vy rx ry Q q => ⟨_, op_ge, i, j, rx, ry, q _ H ad M Nx.refl hs h⟩
theorem c_eqI {i j : Int} (h : B (decide (i = j)) M) : CmpR c .Eq (.dat (.int i)) (.dat (.int j)) M B := fun z H ad hs vx vy rx ry Q q => by
  rw [show vx = .int i from rx, show vy = .int j from ry]
  refine ⟨_, op_eq, rfl, ?_⟩
  rw [show decide (V.int i = V.int j) = decide (i = j) by rw [dec_int, Bool.beq_eq_decide_eq]]
  exact q _ H ad M Nx.refl hs h
theorem c_neI {i j : Int} (h : B (!decide (i = j)) M) : CmpR c .NotEq (.dat (.int i)) (.dat (.int j)) M B := fun z H ad hs vx vy rx ry Q q => by
  rw [show vx = .int i from rx, show vy = .int j from ry]
  refine ⟨_, op_ne, rfl, ?_⟩
  rw [show decide (V.int i = V.int j) = decide (i = j) by rw [dec_int, Bool.beq_eq_decide_eq]]
  exact q _ H ad M Nx.refl hs h
theorem c_eqB {i j : Bool} (h : B (i == j) M) : CmpR c .Eq (.dat (.bl i)) (.dat (.bl j)) M B := fun z H ad hs vx vy rx ry Q q => by
  rw [show vx = .bl i from rx, show vy = .bl j from ry]
  refine ⟨_, op_eq, rfl, ?_⟩
  rw [dec_bl]
  exact q _ H ad M Nx.refl hs h
theorem c_neB {i j : Bool} (h : B (!(i == j)) M) : CmpR c .NotEq (.dat (.bl i)) (.dat (.bl j)) M B := fun z H ad hs vx vy rx ry Q q => by
  rw [show vx = .bl i from rx, show vy = .bl j from ry]
  refine ⟨_, op_ne, rfl, ?_⟩
  rw [dec_bl]
  exact q _ H ad M Nx.refl hs h
theorem c_eqS {i j : Str} (h : B (i == j) M) : CmpR c .Eq (.dat (.str i)) (.dat (.str j)) M B := fun z H ad hs vx vy rx ry Q q => by
  rw [show vx = .str i from rx, show vy = .str j from ry]
  refine ⟨_, op_eq, rfl, ?_⟩
  rw [dec_str]
  exact q _ H ad M Nx.refl hs h
theorem c_neS {i j : Str} (h : B (!(i == j)) M) : CmpR c .NotEq (.dat (.str i)) (.dat (.str j)) M B := fun z H ad hs vx vy rx ry Q q => by
  rw [show vx = .str i from rx, show vy = .str j from ry]
  refine ⟨_, op_ne, rfl, ?_⟩
  rw [dec_str]
  exact q _ H ad M Nx.refl hs h
def isNon : AV → Bool
  | .dat .non => true
  | _ => false
theorem non_iff {a : AV} {v : V} (r : RepA K ad H a v) : decide (v = .non) = isNon a := by
  cases a with
  | dat d =>
    cases d with
    | non => rw [show v = .non from r]; rfl
    | bl b => rw [show v = .bl b from r]; rfl
    | int b => rw [show v = .int b from r]; rfl
    | str b => rw [show v = .str b from r]; rfl
    | tup ds => obtain ⟨p, xs, rfl, _⟩ := r; rfl
    | lis ds => obtain ⟨p, xs, o, rfl, _⟩ := r; rfl
  | ls ds => obtain ⟨p, xs, rfl, _⟩ := r; rfl
  | «mut» j => obtain ⟨p, _, rfl⟩ := r; rfl
  | la as => obtain ⟨p, xs, rfl, _⟩ := r; rfl
  | ta as => obtain ⟨p, xs, rfl, _⟩ := r; rfl
  | scr ns => obtain ⟨p, rfl, _⟩ := r; rfl
  | tx ds => obtain ⟨p, xs, rfl, _⟩ := r; rfl
  | exc C fs => obtain ⟨p, oe, rfl, _⟩ := r; rfl
  | fn f => rw [show v = .ref f from r]; rfl
theorem c_is {x : AV} (h : B (isNon x) M) : CmpR c .Is x (.dat .non) M B := fun z H ad hs vx vy rx ry Q q => by
  refine ⟨_, op_isN, ry, ?_⟩
  rw [non_iff rx]
  exact q _ H ad M Nx.refl hs h
theorem c_isnot {x : AV} (h : B (!isNon x) M) : CmpR c .IsNot x (.dat .non) M B := fun z H ad hs vx vy rx ry Q q => by
  refine ⟨_, op_notN, ry, ?_⟩
  rw [non_iff rx]
  exact q _ H ad M Nx.refl hs h

/-! ### == of data at any depth -/
mutual
def D.py : D → PyData
  | .non => .none
  | .bl b => .bool b
  | .int i => .int i
  | .str x => .str x
  | .tup ds => .tuple (pys ds)
  | .lis ds => .list (pys ds)
def pys : List D → List PyData
  | [] => []
  | d :: ds => d.py :: pys ds
end
mutual
theorem rep_dp : ∀ {d : D} {v : V}, Rep K H d v → Dp K H v d.py
  | .non, _, h => by rw [show _ = V.non from h]; exact .non
  | .bl b, _, h => by rw [show _ = V.bl b from h]; exact .bl b
  | .int b, _, h => by rw [show _ = V.int b from h]; exact .int b
  | .str b, _, h => by rw [show _ = V.str b from h]; exact .str b
  | .tup ds, _, ⟨a, xs, e, q, r⟩ => by subst e; exact .tup q (reps_dp r)
  | .lis ds, _, ⟨a, xs, o, e, q, r⟩ => by subst e; exact .lst (.inl (.inr ⟨o, q⟩)) (reps_dp r)
theorem reps_dp : ∀ {ds : List D} {vs : List V}, Reps K H ds vs → DpAll K H vs (pys ds)
  | [], _, h => by rw [show _ = [] from h]; exact .nil
  | _ :: _, _, ⟨x, r, e, h1, h2⟩ => by subst e; exact .cons (rep_dp h1) (reps_dp h2)
end
mutual
def avPy (M : List MO) : AV → PyData
  | .dat d => d.py
  | .ls ds => .list (pys ds)
  | .mut j => match M[j]? with
    | some (.lst ds) => .list (pys ds)
    | _ => .none
  | .la as => .list (avPys M as)
  | .ta as => .tuple (avPys M as)
  | .scr ns => .list (pys (ns.map D.int))
  | .tx ds => .tuple (pys ds)
  | .exc _ _ => .none
  | .fn _ => .none
def avPys (M : List MO) : List AV → List PyData
  | [] => []
  | d :: ds => avPy M d :: avPys M ds
end
mutual
/-- a value that is data: lists of the store among it -/
def IsDat (M : List MO) : AV → Prop
  | .dat _ => True
  | .ls _ => True
  | .mut j => ∃ ds, M[j]? = some (.lst ds)
  | .la as => IsDats M as
  | .ta as => IsDats M as
  | .scr _ => False
  | .tx _ => True
  | .exc _ _ => False
  | .fn _ => False
def IsDats (M : List MO) : List AV → Prop
  | [] => True
  | d :: ds => IsDat M d ∧ IsDats M ds
end
mutual
theorem av_dp (S : StOk K ad H M) : ∀ {a : AV} {v : V}, RepA K ad H a v → IsDat M a → Dp K H v (avPy M a)
  | .dat _, _, r, _ => rep_dp r
  | .ls _, _, ⟨a, xs, e, q, r⟩, _ => by subst e; exact .lst q.sq (reps_dp r)
  | .mut j, _, ⟨a, q, e⟩, ⟨ds, hm⟩ => by
    subst e
    obtain ⟨a2, h2, xs, h3, rr⟩ := S.obj j _ hm
    rw [q] at h2
    cases h2
    unfold avPy
    rw [hm]
    exact .lst (.inl (.inl h3)) (reps_dp rr)
  | .la _, _, ⟨a, xs, e, q, r⟩, h => by subst e; exact .lst q.sq (avs_dp S r h)
  | .ta _, _, ⟨a, xs, e, q, r⟩, h => by subst e; exact .tup q (avs_dp S r h)
  | .scr _, _, _, h => h.elim
  | .tx _, _, ⟨a, xs, e, q, r⟩, _ => by subst e; exact .tup q.sq (reps_dp r)
  | .exc _ _, _, _, h => h.elim
  | .fn _, _, _, h => h.elim
theorem avs_dp (S : StOk K ad H M) : ∀ {ds : List AV} {vs : List V}, RepAs K ad H ds vs → IsDats M ds → DpAll K H vs (avPys M ds)
  | [], _, h, _ => by rw [show _ = [] from h]; exact .nil
  | _ :: _, _, ⟨x, r, e, h1, h2⟩, hd => by subst e; exact .cons (av_dp S h1 hd.1) (avs_dp S h2 hd.2)
end
theorem c_eqD {x y : AV} (hx : IsDat M x) (hy : IsDat M y) (sx : SeqAt.shaped (avPy M x) = true) (sy : SeqAt.shaped (avPy M y) = true) (h : B (PyData.eqv (avPy M x) (avPy M y)) M) : CmpR c .Eq x y M B := fun z H ad hs vx vy rx ry Q q =>
  ⟨_, op_eqD z.room.units, _, _, av_dp hs rx hx, av_dp hs ry hy, sx, sy, q _ H ad M Nx.refl hs h⟩
theorem c_neD {x y : AV} (hx : IsDat M x) (hy : IsDat M y) (sx : SeqAt.shaped (avPy M x) = true) (sy : SeqAt.shaped (avPy M y) = true) (h : B (!PyData.eqv (avPy M x) (avPy M y)) M) : CmpR c .NotEq x y M B := fun z H ad hs vx vy rx ry Q q =>
  ⟨_, op_neD z.room.units, _, _, av_dp hs rx hx, av_dp hs ry hy, sx, sy, q _ H ad M Nx.refl hs h⟩
/-- x in xs, flat things -/
def fl : D → Bool
  | .tup _ => false
  | .lis _ => false
  | _ => true
def flV : D → V
  | .non => .non
  | .bl b => .bl b
  | .int i => .int i
  | .str x => .str x
  | .tup _ => .non
  | .lis _ => .non
theorem rep_fl : ∀ {d : D} {v : V}, Rep K H d v → fl d = true → v = flV d ∧ flatV v = true
  | .non, _, h, _ => by rw [show _ = V.non from h]; exact ⟨rfl, rfl⟩
  | .bl b, _, h, _ => by rw [show _ = V.bl b from h]; exact ⟨rfl, rfl⟩
  | .int b, _, h, _ => by rw [show _ = V.int b from h]; exact ⟨rfl, rfl⟩
  | .str b, _, h, _ => by rw [show _ = V.str b from h]; exact ⟨rfl, rfl⟩
  | .tup _, _, _, h => by cases h
  | .lis _, _, _, h => by cases h
theorem reps_fl : ∀ {ds : List D} {vs : List V}, Reps K H ds vs → ds.all fl = true → vs = ds.map flV ∧ vs.all flatV = true
  | [], _, h, _ => by rw [show _ = [] from h]; exact ⟨rfl, rfl⟩
  | d :: ds, _, ⟨x, r, e, h1, h2⟩, h => by
    subst e
    rw [List.all_cons, Bool.and_eq_true] at h
    obtain ⟨e1, f1⟩ := rep_fl h1 h.1
    obtain ⟨e2, f2⟩ := reps_fl h2 h.2
    exact ⟨by rw [e1, e2]; rfl, by rw [List.all_cons, f1, f2]; rfl⟩
def inD (d : D) (ds : List D) : Bool := inV (flV d) (ds.map flV)
theorem c_in {d : D} {y : AV} {ds : List D} (hy : IsS M y ds) (hd : fl d = true) (hs : ds.all fl = true) (h : B (inD d ds) M) : CmpR c .In (.dat d) y M B := fun z H ad st vx vy rx ry Q q => by
  obtain ⟨p, xs, rfl, hq, rr⟩ := hy.sq st ry
  obtain ⟨e1, f1⟩ := rep_fl rx hd
  obtain ⟨e2, f2⟩ := reps_fl rr hs
  refine ⟨_, op_in_seq, p, xs, rfl, hq, f1, f2, ?_⟩
  rw [e1, e2]
  exact q _ H ad M Nx.refl st h
theorem c_notin {d : D} {y : AV} {ds : List D} (hy : IsS M y ds) (hd : fl d = true) (hs : ds.all fl = true) (h : B (!inD d ds) M) : CmpR c .NotIn (.dat d) y M B := fun z H ad st vx vy rx ry Q q => by
  obtain ⟨p, xs, rfl, hq, rr⟩ := hy.sq st ry
  obtain ⟨e1, f1⟩ := rep_fl rx hd
  obtain ⟨e2, f2⟩ := reps_fl rr hs
  refine ⟨_, op_notIn_seq, p, xs, rfl, hq, f1, f2, ?_⟩
  rw [e1, e2]
  exact q _ H ad M Nx.refl st h
end

/-! ### subscripts -/
section
variable {c : SC} {δ : Dl} {M : List MO} {Post : AQ} {a b e t : Expr} {es : List Expr} {pos p p1 p2 : Pos} {x : Str}
/-- what stands at i of x -/
def IxA (M : List MO) (x : AV) (i : Int) (Post : D → Prop) : Prop :=
  (∃ ds d, IsS M x ds ∧ atI ds i = some d ∧ Post d) ∨ ∃ s ch, x = .dat (.str s) ∧ s.length ≤ 1000000 ∧ atI s.cps.toList i = some ch ∧ Post (.str ⟨#[ch]⟩)
theorem atI_reps {K : PySem.W.Frag} {H : Hp} {ds : List D} {xs : List V} {i : Int} {d : D} (r : Reps K H ds xs) (h : atI ds i = some d) : ∃ v, atI xs i = some v ∧ Rep K H d v := by
  unfold atI at h ⊢
  rw [r.length]
  cases q : ixN ds.length i with
  | none => rw [q] at h; cases h
  | some j =>
    rw [q] at h
    exact r.get h
theorem x_ix (h : EvX c δ M a fun x M1 => EvX c δ M1 b fun y M2 => ∃ i, y = .dat (.int i) ∧ IxA M2 x i fun d => Post (.dat d) M2) (hp : PlainIx b) : EvX c δ M (.Subscript a b pos) Post := fun y σ H ad he hs Q q =>
  ⟨_, pe_ix (r := rIx c.K) ix_seq wE_ok wE_ok hp, h y σ H ad he hs _ fun v H1 ad1 x M1 n1 s1 r1 p1 => p1 y σ H1 ad1 (he.nx n1) s1 _ fun u H2 ad2 z M2 n2 s2 r2 ⟨i, ez, p2⟩ => by
    subst ez
    have n := n1.trans n2
    rcases p2 with ⟨ds, d, hx, ha, p2⟩ | ⟨s, ch, rfl, hl, ha, p2⟩
    · obtain ⟨pp, xs, rfl, hq, rr⟩ := hx.sq s2 (r1.nx n2)
      obtain ⟨w, hw, rw'⟩ := atI_reps rr ha
      rcases hq with hq | hq
      · exact .inl ⟨pp, xs, i, w, rfl, r2, hq, hw, q w H2 ad2 (.dat d) M2 n s2 rw' p2⟩
      · exact .inr (.inl ⟨pp, xs, i, w, rfl, r2, hq, hw, q w H2 ad2 (.dat d) M2 n s2 rw' p2⟩)
    · exact .inr (.inr ⟨s, i, ch, r1, r2, Nat.le_trans hl (by decide), ha, q _ H2 ad2 (.dat (.str ⟨#[ch]⟩)) M2 n s2 rfl p2⟩)⟩
/-- an end of a slice -/
def EvO (c : SC) (δ : Dl) (M : List MO) (e : Option Expr) (Post : Option Int → List MO → Prop) : Prop := match e with
  | none => Post none M
  | some e => EvX c δ M e fun a M1 => ∃ i, a = .dat (.int i) ∧ Post (some i) M1
def wOp (X : Cx) (e : Option Expr) : TO := fun σ H Q => ∃ t, PO X e t ∧ t σ H Q
theorem wOp_ok {X : Cx} {e : Option Expr} : PO X e (wOp X e) := ⟨fun pins s σ H Q I ⟨t, h, q⟩ => h.run pins s σ H Q I q⟩
theorem EvO.run {o : Option Expr} {Po : Option Int → List MO → Prop} (h : EvO c δ M o Po) (y : Dyn c) (σ : L2.St) (H : Hp) (ad : List Addr) (he : EnvOk c.K ad H σ δ) (hs : StOk c.K ad H M) (Q : Option Int → Hp → Prop)
    (q : ∀ i H2 ad2 M2, Nx ad H ad2 H2 → StOk c.K ad2 H2 M2 → Po i M2 → Q i H2) : wOp y.cx o σ H Q := by
  cases o with
  | none => exact ⟨_, po_none, q none H ad M Nx.refl hs h⟩
  | some e =>
    refine ⟨_, po_some wE_ok, h y σ H ad he hs _ fun v H2 ad2 a M2 n s r ⟨i, ea, p⟩ => ?_⟩
    subst ea
    exact ⟨i, r, q _ H2 ad2 M2 n s p⟩
def cutD (xs : List D) (lo hi : Option Int) : List D := (xs.drop (HT.sIx xs.length 0 lo)).take (HT.sIx xs.length xs.length hi - HT.sIx xs.length 0 lo)
theorem cut_reps {K : PySem.W.Frag} {H : Hp} {ds : List D} {xs : List V} {lo hi : Option Int} (r : Reps K H ds xs) : Reps K H (cutD ds lo hi) (cutV xs lo hi) := by
  unfold cutD cutV
  rw [r.length]
  exact (r.drop _).take _
/-- t[lo:hi] of a tuple -/
theorem x_slT {lo hi : Option Expr} (h : EvX c δ M a fun x M1 => EvO c δ M1 lo fun l M2 => EvO c δ M2 hi fun u M3 => ∃ ds, x = .dat (.tup ds) ∧ Post (.dat (.tup (cutD ds l u))) M3) : EvX c δ M (.Subscript a (.Slice lo hi none p2) pos) Post := fun y σ H ad he hs Q q =>
  ⟨_, pe_slice sl_tupA wE_ok wOp_ok wOp_ok, h y σ H ad he hs _ fun v H1 ad1 x M1 n1 s1 r1 p1 => p1.run y σ H1 ad1 (he.nx n1) s1 _ fun l H2 ad2 M2 n2 s2 p2 => p2.run y σ H2 ad2 (he.nx (n1.trans n2)) s2 _ fun u H3 ad3 M3 n3 s3 ⟨ds, ex, p3⟩ => by
    subst ex
    have n := (n1.trans n2).trans n3
    obtain ⟨pp, xs, rfl, hq, rr⟩ := (r1.nx n2).nx n3
    refine ⟨pp, xs, rfl, hq, fun ⟨w1, w2⟩ => ?_, fun _ p hp => ?_⟩
    · have ec : cutD ds l u = ds := by
        unfold cutD
        rw [rr.length] at w1 w2
        rw [w1, w2]
        simp
      rw [ec] at p3
      exact q _ H3 ad3 _ M3 n s3 (show RepA _ _ _ (.dat (.tup ds)) _ from ⟨pp, xs, rfl, hq, rr⟩) p3
    · have sm := same_new (o := .tup (cutV xs l u)) hp
      exact q _ _ ad3 _ M3 (n.trans (Nx.same sm)) (s3.same sm) (show RepA _ _ _ (.dat (.tup (cutD ds l u))) _ from ⟨p, _, rfl, .inl (.inl upd_same), (cut_reps rr).tx (Tx.same sm)⟩) p3⟩
theorem free_back {ad ad2 : List Addr} {H H2 : Hp} {K : PySem.W.Frag} {M2 : List MO} (n : Nx ad H ad2 H2) (s : StOk K ad2 H2 M2) {p : Addr} (hp : H2 p = none) : H p = none := by
  cases z : H p with
  | none => rfl
  | some o =>
    by_cases hm : p ∈ ad
    · exact absurd (n.sub hm) (s.free hp)
    · rw [n.keep p o hm z] at hp; cases hp
/-- xs[lo:hi] of a list -/
theorem f_slL {Pf : List D → List MO → Prop} {lo hi : Option Expr} (h : EvX c δ M a fun x M1 => EvO c δ M1 lo fun l M2 => EvO c δ M2 hi fun u M3 => ∃ ds, IsL M3 x ds ∧ Pf (cutD ds l u) M3) : EvF c δ M (.Subscript a (.Slice lo hi none p2) pos) Pf := fun y σ H ad he hs Q q =>
  ⟨_, pe_slice sl_list wE_ok wOp_ok wOp_ok, h y σ H ad he hs _ fun v H1 ad1 x M1 n1 s1 r1 p1 => p1.run y σ H1 ad1 (he.nx n1) s1 _ fun l H2 ad2 M2 n2 s2 p2 => p2.run y σ H2 ad2 (he.nx (n1.trans n2)) s2 _ fun u H3 ad3 M3 n3 s3 ⟨ds, ex, p3⟩ => by
    have n := (n1.trans n2).trans n3
    obtain ⟨pp, xs, rfl, hq, rr⟩ := ex.sq s3 ((r1.nx n2).nx n3)
    refine ⟨pp, xs, rfl, hq, fun p hp => ?_⟩
    have sm := same_new (o := .lst (cutV xs l u)) hp
    exact q p _ _ ad3 _ M3 (n.trans (Nx.same sm)) (s3.same sm) (free_back n s3 hp) (s3.free hp) upd_same ((cut_reps rr).tx (Tx.same sm)) p3⟩
end
end Fx

/-! Fx, part C: targets, walks, comprehensions, statements, defs. -/
namespace Fx
open PySem L2

/-! ### targets -/
/-- a value goes to a target; is: the slots that are written -/
def EvG (c : SC) (δ : Dl) (tg : Expr) (is : List Nat) (a : AV) (Pg : Dl → Prop) : Prop :=
  ∀ (y : Dyn c) (σ : L2.St) (H : Hp) (ad : List Addr) (v : V), EnvOk c.K ad H σ δ → RepA c.K ad H a v → ∀ Q : L2.St → Hp → Prop,
    (∀ σ2 δ2, EnvOk c.K ad H σ2 δ2 → (∀ vs, (∀ i ∈ is, i ∈ vs) → wipe σ2 vs = wipe σ vs) → Pg δ2 → Q σ2 H) → wG y.cx tg v σ H Q
theorem wipe_at (σ : L2.St) (x : Option V) (i : Nat) : ∀ vs : List Nat, i ∈ vs → wipe (σ.set i x) vs = wipe σ vs
  | [], h => by cases h
  | v :: vs, h => by
    have nots : ∀ vs : List Nat, i ∉ vs → wipe (σ.set i x) vs = (wipe σ vs).set i x := by
      intro vs
      induction vs with
      | nil => intro _; rfl
      | cons w ws ih =>
        intro hn
        have h1 : w ≠ i := fun e => hn (by rw [e]; exact List.mem_cons_self)
        show (wipe (σ.set i x) ws).set w none = ((wipe σ ws).set w none).set i x
        rw [ih (fun z => hn (List.mem_cons_of_mem _ z)), List.set_comm _ _ (Ne.symm h1)]
    show (wipe (σ.set i x) vs).set v none = (wipe σ vs).set v none
    by_cases hv : i ∈ vs
    · rw [wipe_at σ x i vs hv]
    · have e : i = v := by
        rcases List.mem_cons.mp h with e | e
        · exact e
        · exact absurd e hv
      rw [nots vs hv, e, List.set_set]
theorem g_name {c : SC} {δ : Dl} {x : Str} {pos : Pos} {a : AV} {Pg : Dl → Prop} (i : Nat) (hi : c.N[i]? = some x) (hN : c.N.Nodup) (hx : Loc c.sc x) (hf : c.fn x = true ∨ c.sc.names.lookup x = some .local) (h : Pg (δ.set i (some a))) :
    EvG c δ (.Name x pos) [i] a Pg := fun y σ H ad v he r Q q =>
  ⟨_, pg_name (X := y.cx) hN hi (by show Loc y.env.scope x; rw [y.sc]; exact hx) (by show c.fn x = true ∨ y.env.scope.names.lookup x = some .local; rw [y.sc]; exact hf),
    q _ _ (he.set r) (fun vs hv => wipe_at _ _ i vs (hv i List.mem_cons_self)) h⟩
/-- several targets -/
def EvGs (c : SC) (δ : Dl) (tgs : List Expr) (is : List Nat) (as : List D) (Pg : Dl → Prop) : Prop :=
  ∀ (y : Dyn c) (σ : L2.St) (H : Hp) (ad : List Addr) (vs : List V), EnvOk c.K ad H σ δ → Reps c.K H as vs → ∀ Q : L2.St → Hp → Prop,
    (∀ σ2 δ2, EnvOk c.K ad H σ2 δ2 → (∀ ws, (∀ i ∈ is, i ∈ ws) → wipe σ2 ws = wipe σ ws) → Pg δ2 → Q σ2 H) → ∃ t, PGs y.cx tgs t ∧ t vs σ H Q
theorem gs_nil {c : SC} {δ : Dl} {Pg : Dl → Prop} (h : Pg δ) : EvGs c δ [] [] [] Pg := fun y σ H ad vs he r Q q => ⟨_, pgs_nil, r, q σ δ he (fun _ _ => rfl) h⟩
def wGs (X : Cx) (tgs : List Expr) : TGs := fun vs σ H Q => ∃ t, PGs X tgs t ∧ t vs σ H Q
theorem wGs_ok {X : Cx} {tgs : List Expr} : PGs X tgs (wGs X tgs) := ⟨fun pins s σ H vs us Q I r ⟨t, h, q⟩ => h.run pins s σ H vs us Q I r q⟩
theorem gs_cons {c : SC} {δ : Dl} {tg : Expr} {tgs : List Expr} {is js : List Nat} {a : D} {as : List D} {Pg : Dl → Prop} (h : EvG c δ tg is (.dat a) fun δ1 => EvGs c δ1 tgs js as Pg)
    (hs : ∀ env, (assignEach (tg :: tgs) env).map (·.2) = assign tg env :: (assignEach tgs env).map (·.2)) : EvGs c δ (tg :: tgs) (is ++ js) (a :: as) Pg := fun y σ H ad vs he ⟨x, r, e, h1, h2⟩ Q q => by
  subst e
  refine ⟨_, pgs_cons wG_ok wGs_ok (hs y.env), x, r, rfl, h y σ H ad x he h1 _ fun σ2 δ2 he2 w2 p2 => p2 y σ2 H ad r he2 h2 Q fun σ3 δ3 he3 w3 p3 => q σ3 δ3 he3 (fun ws hw => ?_) p3⟩
  rw [w3 ws (fun i hi => hw i (List.mem_append_right _ hi)), w2 ws (fun i hi => hw i (List.mem_append_left _ hi))]
theorem g_tup {c : SC} {δ : Dl} {tgs : List Expr} {k : Nat} {pos : Pos} {is : List Nat} {as : List D} {Pg : Dl → Prop} (h : EvGs c δ tgs is as Pg) (hn : ∀ env, (assignEach tgs env).length = as.length)
    (hst : ∀ env, (assignEach tgs env).findIdx? (·.1) = none) : EvG c δ (.Tuple tgs k pos) is (.dat (.tup as)) Pg := fun y σ H ad v he ⟨a, xs, e, q, r⟩ Q qq =>
  ⟨_, pg_tup (X := y.cx) rfl wGs_ok (hn y.env) (hst y.env), a, xs, e, q, r.length, h y σ H ad xs he r Q qq⟩

/-- the slots left open -/
def EvGx (c : SC) (δ : Dl) (tg : Expr) (a : AV) (Pg : Dl → Prop) : Prop := ∃ is, EvG c δ tg is a Pg
/-! ### what is walked -/
def wI (X : Cx) (tg iter : Expr) : TI := fun σ H R => ∃ wi, PI X tg iter wi ∧ wi σ H R
theorem wI_ok {X : Cx} {tg iter : Expr} : PI X tg iter (wI X tg iter) := ⟨fun pins s σ H R I ⟨t, h, q⟩ => h.run pins s σ H R I q⟩
/-- the iterator J gives ds, one by one, as long as the store keeps what is walked -/
def Walks (K : PySem.W.Frag) (J : It) (ad : List Addr) (H : Hp) (ds : List D) (src : Option Nat) : Prop :=
  ∀ ad2 H2 M2, Nx ad H ad2 H2 → StOk K ad2 H2 M2 → (∀ j, src = some j → M2[j]? = some (.lst ds)) → ∀ i,
    (∀ d, ds[i]? = some d → J.go i H2 ∧ ∀ x H3, J.yld i H2 x H3 → Same H2 H3 ∧ Rep K H3 d x) ∧ (i = ds.length → J.stop i H2)
def EvI (c : SC) (δ : Dl) (M : List MO) (tg iter : Expr) (Pi : List D → Option Nat → List MO → Prop) : Prop :=
  ∀ (y : Dyn c) (σ : L2.St) (H : Hp) (ad : List Addr), EnvOk c.K ad H σ δ → StOk c.K ad H M → ∀ R : It → Hp → Prop,
    (∀ J H1 ad1 ds src M1, Nx ad H ad1 H1 → StOk c.K ad1 H1 M1 → Walks c.K J ad1 H1 ds src → Pi ds src M1 → R J H1) → wI y.cx tg iter σ H R
section
variable {X : Cx} {tg : Expr}
def iSeq (K : PySem.W.Frag) (tl : TE) : TI := fun σ H R => tl σ H fun x H1 => (∃ a, x = .ref a ∧ (∃ xs, SqL K H1 a xs) ∧ R (Itl K a) H1) ∨ ∃ a, x = .ref a ∧ (∃ xs, SqT K H1 a xs) ∧ R (Itt K a) H1
theorem pi_seq {l : Expr} {tl : TE} (hl : PE X l tl) : PI X tg l (iSeq X.K tl) := by
  refine ⟨fun pins s σ H R I h => ?_⟩
  refine thn (hl.run pins s σ H _ I h) fun v s1 ⟨x, H1, I1, r1, q1⟩ => ?_
  rcases q1 with ⟨a, e, ⟨xs, hq⟩, q⟩ | ⟨a, e, ⟨xs, hq⟩, q⟩
  · subst e
    cases r1
    obtain ⟨its, rv, p, hz⟩ := I1.list hq
    refine wpAny_pyIter_list p.isList ?_
    refine ⟨s1.heap.objs.size, [s1.heap.objs.size], _, _, H1, rfl, I1.kept (t' := s1.toks) fun b o e => Heap.get?_push_of_some _ e, turn_list a _, ⟨_, Heap.get?_push_size _ rfl, rfl, rfl⟩, fun b hb => ?_, q⟩
    have e : b = s1.heap.objs.size := by simpa using hb
    subst e
    exact I1.fpOk (Nat.le_refl _) (I1.hok.fresh (Nat.le_refl _))
  · subst e
    cases r1
    obtain ⟨its, rv, p, hz⟩ := I1.tuple hq
    refine wpAny_pyIter_tuple (show s1.heap.IsTuple a its.toArray from p) ?_
    refine ⟨s1.heap.objs.size, [s1.heap.objs.size], _, _, H1, rfl, I1.kept (t' := s1.toks) fun b o e => Heap.get?_push_of_some _ e, turn_tuple a _, ⟨_, Heap.get?_push_size _ rfl, rfl, rfl⟩, fun b hb => ?_, q⟩
    have e : b = s1.heap.objs.size := by simpa using hb
    subst e
    exact I1.fpOk (Nat.le_refl _) (I1.hok.fresh (Nat.le_refl _))
end
section
variable {c : SC} {δ : Dl} {M : List MO} {Post : AQ} {a b e t iter tg : Expr} {es : List Expr} {pos p p1 p2 : Pos} {x : Str} {Pi : List D → Option Nat → List MO → Prop}
/-- where the store keeps a list: its place -/
def srcOf : AV → Option Nat
  | .mut j => some j
  | _ => none
theorem walks_list {K : PySem.W.Frag} {ad : List Addr} {H : Hp} {a : AV} {ds : List D} {v : V} (S : StOk K ad H M) (r : RepA K ad H a v) (h : IsL M a ds) : ∃ q xs, v = .ref q ∧ SqL K H q xs ∧ Walks K (Itl K q) ad H ds (srcOf a) := by
  have fin : ∀ {q : Addr} {H2 : Hp} {xs : List V} (i : Nat), SqL K H2 q xs → (∀ xs', SqL K H2 q xs' → xs' = xs ∨ True) → Reps K H2 ds xs →
      (∀ d, ds[i]? = some d → (Itl K q).go i H2 ∧ ∀ x H3, (Itl K q).yld i H2 x H3 → Same H2 H3 ∧ Rep K H3 d x) ∧ (i = ds.length → (Itl K q).stop i H2) := by
    intro q H2 xs i hq _ rr
    refine ⟨fun d hd => ?_, fun e => ⟨xs, hq, by rw [rr.length, e]; exact Nat.le_refl _⟩⟩
    obtain ⟨w, hw, rw'⟩ := rr.get hd
    refine ⟨⟨xs, w, hq, hw⟩, fun x H3 ⟨e3, y⟩ => ?_⟩
    subst e3
    have := y xs hq
    rw [hw] at this
    cases this
    exact ⟨Same.refl _, rw'⟩
  rcases h with rfl | ⟨j, rfl, hm⟩
  · obtain ⟨q, xs, e, hq, rr⟩ := r
    exact ⟨q, xs, e, hq.sq, fun ad2 H2 M2 n s _ i => fin i (hq.nx n).sq (fun _ _ => .inr trivial) (rr.tx n.tx)⟩
  · obtain ⟨q, hq, e⟩ := r
    obtain ⟨a2, h2, xs, h3, rr⟩ := S.obj j _ hm
    rw [hq] at h2
    cases h2
    refine ⟨q, xs, e, .inl (.inl h3), fun ad2 H2 M2 n s k i => ?_⟩
    obtain ⟨a4, h4, xs2, h5, rr2⟩ := s.obj j _ (k j rfl)
    rw [n.get hq] at h4
    cases h4
    exact fin i (.inl (.inl h5)) (fun _ _ => .inr trivial) rr2
theorem walks_tup {K : PySem.W.Frag} {ad : List Addr} {H : Hp} {ds : List D} {v : V} (r : RepA K ad H (.dat (.tup ds)) v) : ∃ q xs, v = .ref q ∧ SqT K H q xs ∧ Walks K (Itt K q) ad H ds none := by
  obtain ⟨q, xs, e, hq, rr⟩ := r
  refine ⟨q, xs, e, hq, fun ad2 H2 M2 n s _ i => ⟨fun d hd => ?_, fun e => ⟨xs, sqT_tx n.tx hq, by rw [rr.length, e]; exact Nat.le_refl _⟩⟩⟩
  obtain ⟨w, hw, rw'⟩ := (rr.tx n.tx).get hd
  refine ⟨⟨xs, w, sqT_tx n.tx hq, hw⟩, fun x H3 ⟨e3, y⟩ => ?_⟩
  subst e3
  have := y xs (sqT_tx n.tx hq)
  rw [hw] at this
  cases this
  exact ⟨Same.refl _, rw'⟩
theorem i_seq (h : EvX c δ M e fun a M1 => ∃ ds, IsS M1 a ds ∧ Pi ds (srcOf a) M1) : EvI c δ M tg e Pi := fun y σ H ad he hs R q =>
  ⟨_, pi_seq wE_ok, h y σ H ad he hs _ fun v H1 ad1 a M1 n1 s1 r1 ⟨ds, hx, p1⟩ => by
    rcases hx with rfl | hx
    · obtain ⟨qq, xs, e, hq, w⟩ := walks_tup r1
      exact .inr ⟨qq, e, ⟨xs, hq⟩, q _ H1 ad1 ds _ M1 n1 s1 w p1⟩
    · obtain ⟨qq, xs, e, hq, w⟩ := walks_list s1 r1 hx
      exact .inl ⟨qq, e, ⟨xs, hq⟩, q _ H1 ad1 ds _ M1 n1 s1 w p1⟩⟩
/-- lo, lo + 1, .. -/
def rgD (lo hi : Int) : List D := (List.range (hi - lo).toNat).map fun i => D.int (lo + (i : Nat))
theorem rgD_len (lo hi : Int) : (rgD lo hi).length = (hi - lo).toNat := by unfold rgD; rw [List.length_map, List.length_range]
theorem rgD_get {lo hi : Int} {i : Nat} {d : D} (h : (rgD lo hi)[i]? = some d) : i < (hi - lo).toNat ∧ d = .int (lo + (i : Nat)) := by
  have hl := (List.getElem?_eq_some_iff.mp h).1
  rw [rgD_len] at hl
  unfold rgD at h
  rw [List.getElem?_map, List.getElem?_range hl] at h
  exact ⟨hl, (Option.some.inj h).symm⟩
theorem walks_rng {K : PySem.W.Frag} {ad : List Addr} {H : Hp} (lo hi : Int) : Walks K (Itr lo (hi - lo).toNat) ad H (rgD lo hi) none := fun ad2 H2 M2 n s _ i => by
  refine ⟨fun d hd => ?_, fun e => ?_⟩
  · obtain ⟨h1, h2⟩ := rgD_get hd
    subst h2
    refine ⟨h1, fun x H3 ⟨e3, y⟩ => ?_⟩
    subst e3 y
    exact ⟨Same.refl _, rfl⟩
  · show (hi - lo).toNat ≤ i
    rw [e, rgD_len]
    exact Nat.le_refl _
def SC.gl (c : SC) (x : Str) : Prop := c.sc.names.lookup x = some .globalImplicit
theorem glS {c : SC} (y : Dyn c) {x : Str} (h : c.gl x) : Gl y.cx x := by
  show y.env.scope.names.lookup x = some .globalImplicit
  rw [y.sc]
  exact h
theorem repAs1 {K : PySem.W.Frag} {ad : List Addr} {H : Hp} {a : AV} {vs : List V} (r : RepAs K ad H [a] vs) : ∃ v, vs = [v] ∧ RepA K ad H a v := by
  obtain ⟨x, r, e, h, e2⟩ := r
  have e2 : r = [] := e2
  subst e2
  exact ⟨x, e, h⟩
theorem repAs2 {K : PySem.W.Frag} {ad : List Addr} {H : Hp} {a b : AV} {vs : List V} (r : RepAs K ad H [a, b] vs) : ∃ v w, vs = [v, w] ∧ RepA K ad H a v ∧ RepA K ad H b w := by
  obtain ⟨x, r, e, h, rr⟩ := r
  obtain ⟨w, e2, h2⟩ := repAs1 rr
  subst e2
  exact ⟨x, w, e, h, h2⟩
/-- 0, 1, .. -/
def rg0 (n : Int) : List D := (List.range n.toNat).map fun i => D.int (i : Nat)
theorem rg0_eq (n : Int) : rg0 n = rgD 0 n := by
  unfold rg0 rgD
  rw [Int.sub_zero]
  apply List.map_congr_left
  intro i _
  rw [Int.zero_add]
theorem rg0_len (n : Int) : (rg0 n).length = n.toNat := by rw [rg0_eq, rgD_len, Int.sub_zero]
theorem rg0_get {n : Int} {i : Nat} {d : D} (h : (rg0 n)[i]? = some d) : i < n.toNat ∧ d = .int (i : Nat) := by
  rw [rg0_eq] at h
  have := rgD_get h
  rw [Int.sub_zero, Int.zero_add] at this
  exact this
theorem i_rng1 (hm : c.mg "range" = none) (hg : c.gl "range") (h : EvA c δ M [a] fun as M1 => ∃ n : Int, as = [.dat (.int n)] ∧ -(2 ^ 62) ≤ n ∧ n < 2 ^ 62 ∧ Pi (rg0 n) none M1)
    (hs1 : ∀ env, starEach [a] env = [(false, eval a env)]) : EvI c δ M tg (.Call (.Name "range" p) [a] [] pos) Pi := fun y σ H ad he hs R q =>
  ⟨_, pi_range1 (glS y hg) hm wA_ok (hs1 y.env), h y σ H ad he hs _ fun vs H1 ad1 as M1 n1 s1 r1 ⟨n, e, b1, b2, p1⟩ => by
    subst e
    obtain ⟨v, e, rv⟩ := repAs1 r1
    refine ⟨n, by rw [e, show v = .int n from rv], b1, b2, q _ H1 ad1 _ _ M1 n1 s1 ?_ p1⟩
    have := walks_rng (K := c.K) (ad := ad1) (H := H1) 0 n
    rw [Int.sub_zero, ← rg0_eq] at this
    exact this⟩
theorem i_rng2 (hm : c.mg "range" = none) (hg : c.gl "range") (h : EvA c δ M [a, b] fun as M1 => ∃ lo hi : Int, as = [.dat (.int lo), .dat (.int hi)] ∧ (-(2 ^ 62) ≤ lo ∧ lo < 2 ^ 62 ∧ -(2 ^ 62) ≤ hi ∧ hi < 2 ^ 62) ∧ Pi (rgD lo hi) none M1)
    (hs1 : ∀ env, starEach [a, b] env = [(false, eval a env), (false, eval b env)]) (hs2 : ∀ env, starEach [b] env = [(false, eval b env)]) : EvI c δ M tg (.Call (.Name "range" p) [a, b] [] pos) Pi := fun y σ H ad he hs R q =>
  ⟨_, pi_range2 (glS y hg) hm wA_ok (hs1 y.env) (hs2 y.env), h y σ H ad he hs _ fun vs H1 ad1 as M1 n1 s1 r1 ⟨lo, hi, e, b1, p1⟩ => by
    subst e
    obtain ⟨v, w, e, rv, rw'⟩ := repAs2 r1
    exact ⟨lo, hi, by rw [e, show v = .int lo from rv, show w = .int hi from rw'], b1, q _ H1 ad1 _ _ M1 n1 s1 (walks_rng lo hi) p1⟩⟩
end

/-! ### comprehensions -/
@[reducible] def SC.blk (c : SC) (scope : Scope) : SC := { c with sc := relS scope c.sc, fn := fun x => scope.names.lookup x == some .cell }
@[reducible] def Dyn.blk {c : SC} (y : Dyn c) (scope : Scope) (s : Shared) (H : Hp) (C : Addr) (cl : List (Str × Addr)) (fp : List Addr) : Dyn (c.blk scope) where
  A := y.A
  s0 := s
  H0 := H
  env := compEnvC scope cl C y.env
  outer := y.stack
  stack := y.stack
  ex := fp
  pn := []
  xe := fun _ _ => False
  sc := by
    show relS scope y.env.scope = relS scope c.sc
    rw [y.sc]
  room := y.room
  pass := PassesOwn.never
  en := y.en
/-- how one turn of a comprehension goes -/
def LcTurn (c : SC) (δ : Dl) (tg elt : Expr) (ifs : List Expr) (vs : List Nat) (d : D) (M : List MO) (yes : D → List MO → Prop) (no : List MO → Prop) : Prop :=
  ∃ is, (∀ i ∈ is, i ∈ vs) ∧ EvG c δ tg is (.dat d) fun δ2 => EvTs c δ2 M ifs fun k M3 => (k = true → EvX c δ2 M3 elt fun a M4 => ∃ d', a = .dat d' ∧ yes d' M4) ∧ (k = false → no M3)
section
variable {c : SC} {δ : Dl} {M : List MO} {Post : AQ} {a b e t iter tg elt : Expr} {es ifs : List Expr} {pos p p1 p2 : Pos} {x : Str} {Pi : List D → Option Nat → List MO → Prop} {own : List (Str × Nat)} {scope : Scope} {Pf : List D → List MO → Prop}

theorem wipe_wipe (σ : L2.St) (vs : List Nat) : wipe (wipe σ vs) vs = wipe σ vs := by
  have gen : ∀ us : List Nat, (∀ u ∈ us, u ∈ vs) → wipe (wipe σ us) vs = wipe σ vs := by
    intro us
    induction us with
    | nil => intro _; rfl
    | cons u us ih =>
      intro hu
      show wipe ((wipe σ us).set u none) vs = wipe σ vs
      rw [wipe_at _ _ u vs (hu u List.mem_cons_self), ih fun w hw => hu w (List.mem_cons_of_mem _ hw)]
  exact gen vs fun _ h => h
/-- an object beside the store changes -/
theorem StOk.other {K : PySem.W.Frag} {ad : List Addr} {H : Hp} {q : Addr} {xs ys : List V} (S : StOk K ad H M) (hn : q ∉ ad) (hx : H q = some (.lst xs)) : StOk K ad (upd H q (.lst ys)) M ∧ Tx H (upd H q (.lst ys)) := by
  have t : Tx H (upd H q (.lst ys)) := ⟨fun b zs e => by
    rw [upd_ne (ne_of e hx (by intro z; cases z))]
    exact e, fun b o u e => by
    rw [upd_ne (ne_of e hx (by intro z; cases z))]
    exact e, fun b φ e => by
    rw [upd_ne (ne_of e hx (by intro z; cases z))]
    exact e⟩
  refine ⟨⟨S.nd, S.len, fun j m e => ?_⟩, t⟩
  obtain ⟨a, h, o⟩ := S.obj j m e
  refine ⟨a, h, o.nx' (fun _ _ z => z) t fun w z => ?_⟩
  rw [upd_ne (fun e => hn (by rw [← e]; exact List.mem_of_getElem? h))]
  exact z
/-- the comprehension's reading -/
theorem lc_read
    (h : EvI c δ M tg iter fun ds src M1 => ds.length ≤ 1000000 ∧ ∃ I : Nat → List D → List MO → Prop, I 0 [] M1 ∧ (∀ i acc M2, I i acc M2 → ∀ j, src = some j → M2[j]? = some (.lst ds)) ∧
      (∀ i d acc M2, ds[i]? = some d → I i acc M2 → LcTurn (c.blk scope) (wipeD δ (own.map (·.2))) tg elt ifs (own.map (·.2)) d M2 (fun d' M4 => I (i + 1) (acc ++ [d']) M4) (fun M3 => I (i + 1) acc M3)) ∧ ∀ acc M2, I ds.length acc M2 → Pf acc M2)
    (y : Dyn c) (σ : L2.St) (H : Hp) (ad : List Addr) (he : EnvOk c.K ad H σ δ) (hs : StOk c.K ad H M) (Q : VK)
    (q : ∀ p xs H2 ad2 ds M2, Nx ad H ad2 H2 → StOk c.K ad2 H2 M2 → H p = none → p ∉ ad2 → H2 p = some (.lst xs) → Reps c.K H2 ds xs → Pf ds M2 → Q (.ref p) H2) :
    tLc (wI y.cx tg iter) (fun v σ H Q => ∀ s0 H0 C cl fp, wG (y.blk scope s0 H0 C cl fp).cx tg v σ H Q) (fun σ H Q => ∀ s0 H0 C cl fp, wTs (y.blk scope s0 H0 C cl fp).cx ifs σ H Q) (fun σ H Q => ∀ s0 H0 C cl fp, wE (y.blk scope s0 H0 C cl fp).cx elt σ H Q) (own.map (·.2)) σ H Q := by
  refine h y σ H ad he hs _ ?_
  intro J H1 ad1 ds src M1 n1 s1 w hP
  obtain ⟨hl, I, i0, ik, it, idn⟩ := hP
  intro Dq hD
  have sm0 : Same H1 (upd H1 Dq (.lst [])) := same_new hD
  let St' : Nat → Hp → Prop := fun i H' => i ≤ ds.length ∧ ∃ (ad' : List Addr) (M' : List MO) (acc : List D) (xs : List V), Nx ad1 H1 ad' H' ∧ StOk c.K ad' H' M' ∧ Dq ∉ ad' ∧ H' Dq = some (.lst xs) ∧ Reps c.K H' acc xs ∧ acc.length ≤ i ∧ I i acc M'
  refine ⟨fun i m H' => m = ds.length - i ∧ St' i H', ⟨ds.length, by omega, Nat.zero_le _, ad1, M1, [], [], Nx.same sm0, s1.same sm0, s1.free hD, upd_same, rfl, Nat.le_refl _, i0⟩, ?_⟩
  rintro i m H' ⟨rfl, hi, ad', M', acc, xs, n', s', nd, hx, rr, hacc, inv⟩
  obtain ⟨hgo, hstop⟩ := w ad' H' M' n' s' (ik i acc M' inv) i
  by_cases hlt : i < ds.length
  · obtain ⟨go, yl⟩ := hgo ds[i] (List.getElem?_eq_getElem hlt)
    refine .inr ⟨go, St' (i + 1), fun H'' hq => ⟨ds.length - (i + 1), by omega, rfl, hq⟩, fun x H3 hy => ?_⟩
    obtain ⟨sm, rx⟩ := yl x H3 hy
    intro s0 H0 C cl fp
    have n3 : Nx ad1 H1 ad' H3 := n'.trans (Nx.same sm)
    have env : EnvOk c.K ad' H3 (wipe σ (own.map (·.2))) (wipeD δ (own.map (·.2))) := (he.nx (n1.trans n3)).wipe _
    obtain ⟨is, his, it'⟩ := it i ds[i] acc M' (List.getElem?_eq_getElem hlt) inv
    refine it' (y.blk scope s0 H0 C cl fp) _ H3 ad' x env rx _ ?_
    intro σ2 δ2 e2 w2 pT
    refine ⟨by rw [w2 _ his, wipe_wipe], ?_⟩
    intro s01 H01 C1 cl1 fp1
    refine pT (y.blk scope s01 H01 C1 cl1 fp1) σ2 H3 ad' e2 (s'.same sm) _ ?_
    intro b H4 ad4 M4 n4 s4 pB
    have hx3 : H3 Dq = some (.lst xs) := sm _ _ hx
    have nd4 : Dq ∉ ad4 := fun z => by
      have := n4.fresh Dq z nd
      rw [hx3] at this
      cases this
    have hx4 : H4 Dq = some (.lst xs) := n4.keep _ _ nd hx3
    cases b with
    | false =>
      refine iteF ?_
      exact ⟨hlt, ad4, M4, acc, xs, n3.trans n4, s4, nd4, hx4, (rr.tx (Tx.same sm)).tx n4.tx, by omega, pB.2 rfl⟩
    | true =>
      refine iteT ?_
      intro s02 H02 C2 cl2 fp2
      refine (pB.1 rfl) (y.blk scope s02 H02 C2 cl2 fp2) σ2 H4 ad4 (e2.nx n4) s4 _ ?_
      intro v H5 ad5 a M5 n5 s5 r5 hp
      obtain ⟨d', ea, pI⟩ := hp
      subst ea
      have nd5 : Dq ∉ ad5 := fun z => by
        have := n5.fresh Dq z nd4
        rw [hx4] at this
        cases this
      have hx5 : H5 Dq = some (.lst xs) := n5.keep _ _ nd4 hx4
      have n15 : Nx ad1 H1 ad5 H5 := (n3.trans n4).trans n5
      obtain ⟨s6, t6⟩ := s5.other (ys := xs ++ [v]) nd5 hx5
      have rr5 : Reps c.K (upd H5 Dq (.lst (xs ++ [v]))) acc xs := (((rr.tx (Tx.same sm)).tx n4.tx).tx n5.tx).tx t6
      refine ⟨xs, hx5, ?_, hlt, ad5, M5, acc ++ [d'], xs ++ [v], ⟨n15.pre, n15.fresh, fun a o hn e => ?_, n15.tx.trans t6⟩, s6, nd5, upd_same, ?_, ?_, pI⟩
      · have := rr5.length
        have h24 : sizeLine = 16777216 := sizeLine_eq
        omega
      · rw [upd_ne (ne_of_none e hD)]
        exact n15.keep a o hn e
      · have rv : Rep c.K H5 d' v := r5
        exact rr5.append ⟨v, [], rfl, rv.tx t6, rfl⟩
      · rw [List.length_append]
        have : [d'].length = 1 := rfl
        omega
  · have ei : i = ds.length := by omega
    subst ei
    exact .inl ⟨hstop rfl, q Dq xs H' ad' acc M' (n1.trans n') s' (free_back n1 s1 hD) nd hx rr (idn acc M' inv)⟩
theorem f_lc (own : List (Str × Nat)) (ok : BlkOk c.N c.sc scope own) (hN : c.N.Nodup)
    (h : EvI c δ M tg iter fun ds src M1 => ds.length ≤ 1000000 ∧ ∃ I : Nat → List D → List MO → Prop, I 0 [] M1 ∧ (∀ i acc M2, I i acc M2 → ∀ j, src = some j → M2[j]? = some (.lst ds)) ∧
      (∀ i d acc M2, ds[i]? = some d → I i acc M2 → LcTurn (c.blk scope) (wipeD δ (own.map (·.2))) tg elt ifs (own.map (·.2)) d M2 (fun d' M4 => I (i + 1) (acc ++ [d']) M4) (fun M3 => I (i + 1) acc M3)) ∧ ∀ acc M2, I ds.length acc M2 → Pf acc M2)
    (hf : ∀ env x, foldedSetIterable iter env x = pure x) : EvF c δ M (.ListComp elt [⟨tg, iter, ifs, 0⟩] scope pos) Pf := fun y σ H ad he hs Q q =>
  ⟨_, pe_lc (X := y.cx) (own := own) (wi := wI y.cx tg iter) (g := fun v σ H Q => ∀ s0 H0 C cl fp, wG (y.blk scope s0 H0 C cl fp).cx tg v σ H Q) (tt := fun σ H Q => ∀ s0 H0 C cl fp, wTs (y.blk scope s0 H0 C cl fp).cx ifs σ H Q)
    (te := fun σ H Q => ∀ s0 H0 C cl fp, wE (y.blk scope s0 H0 C cl fp).cx elt σ H Q) rfl hN wI_ok (by show BlkOk c.N y.env.scope scope own; rw [y.sc]; exact ok)
    (fun s0 H0 C cl fp => ⟨fun pins s σ H v u Q I r hw => (wG_ok (X := (y.blk scope s0 H0 C cl fp).cx)).run pins s σ H v u Q I r (hw s0 H0 C cl fp)⟩)
    (fun s0 H0 C cl fp => ⟨fun pins s σ H Q I hw => (wTs_ok (X := (y.blk scope s0 H0 C cl fp).cx)).run pins s σ H Q I (hw s0 H0 C cl fp)⟩)
    (fun s0 H0 C cl fp => ⟨fun pins s σ H Q I hw => (wE_ok (X := (y.blk scope s0 H0 C cl fp).cx)).run pins s σ H Q I (hw s0 H0 C cl fp)⟩) (hf y.env),
    lc_read h y σ H ad he hs Q q⟩
theorem ts_nil {B : Bool → List MO → Prop} (h : B true M) : EvTs c δ M [] B := fun y σ H ad he hs Q q => ⟨_, pts_nil, q true H ad M Nx.refl hs h⟩
theorem ts_one {B : Bool → List MO → Prop} (h : EvT c δ M t B) : EvTs c δ M [t] B := fun y σ H ad he hs Q q => ⟨_, pts_one wT_ok, h y σ H ad he hs Q q⟩
/-- a plain comprehension: nothing of the store changes -/
theorem f_lcP {α : Type} (own : List (Str × Nat)) (f : α → D) (pr : α → Bool) (ok : BlkOk c.N c.sc scope own) (hN : c.N.Nodup)
    (h : EvI c δ M tg iter fun ds src M1 => ∃ (xs : List α) (g : α → D), ds = xs.map g ∧ xs.length ≤ 1000000 ∧ (∀ j, src = some j → M1[j]? = some (.lst ds)) ∧
      (∀ x, x ∈ xs → LcTurn (c.blk scope) (wipeD δ (own.map (·.2))) tg elt ifs (own.map (·.2)) (g x) M1 (fun d' M4 => pr x = true ∧ d' = f x ∧ M4 = M1) (fun M3 => pr x = false ∧ M3 = M1)) ∧ Pf ((xs.filter pr).map f) M1)
    (hf : ∀ env x, foldedSetIterable iter env x = pure x) : EvF c δ M (.ListComp elt [⟨tg, iter, ifs, 0⟩] scope pos) Pf := by
  refine f_lc own ok hN (fun y σ H ad he hs R q => h y σ H ad he hs R fun J H1 ad1 ds src M1 n1 s1 w hP => q J H1 ad1 ds src M1 n1 s1 w ?_) hf
  obtain ⟨xs, g, e, hl, hk, ht, hd⟩ := hP
  subst e
  refine ⟨by rw [List.length_map]; exact hl, fun i acc M2 => M2 = M1 ∧ acc = ((xs.take i).filter pr).map f, ⟨rfl, rfl⟩, fun i acc M2 hI => by rw [hI.1]; exact hk, fun i d acc M2 hi hI => ?_, fun acc M2 hI => ?_⟩
  · obtain ⟨rfl, rfl⟩ := hI
    have hl2 := (List.getElem?_eq_some_iff.mp hi).1
    rw [List.length_map] at hl2
    rw [List.getElem?_map, List.getElem?_eq_getElem hl2] at hi
    have ed : g xs[i] = d := Option.some.inj hi
    subst ed
    have et : xs.take (i + 1) = xs.take i ++ [xs[i]] := by rw [List.take_succ, List.getElem?_eq_getElem hl2]; rfl
    obtain ⟨is, his, ht'⟩ := ht xs[i] (List.getElem_mem hl2)
    refine ⟨is, his, fun y σ H ad v he r Q q => ?_⟩
    refine ht' y σ H ad v he r Q fun σ2 δ2 e2 w2 pT => q σ2 δ2 e2 w2 fun y2 σ3 H3 ad3 he3 hs3 Q3 q3 => pT y2 σ3 H3 ad3 he3 hs3 Q3 fun b H4 ad4 M4 n4 s4 pB => q3 b H4 ad4 M4 n4 s4 ⟨fun hb => (pB.1 hb).imp ?_, fun hb => ?_⟩
    · rintro a M5 ⟨d', ea, h1, h2, h3⟩
      refine ⟨d', ea, h3, ?_⟩
      rw [et, List.filter_append, List.map_append, List.filter_cons, if_pos h1, h2]
      rfl
    · obtain ⟨h1, h3⟩ := pB.2 hb
      refine ⟨h3, ?_⟩
      rw [et, List.filter_append, List.map_append, List.filter_cons, if_neg (by rw [h1]; decide)]
      show _ = _ ++ []
      rw [List.append_nil]
  · obtain ⟨rfl, rfl⟩ := hI
    rw [List.length_map, List.take_length]
    exact hd

/-! ### statements -/
theorem r_nil {D : AE} (h : D.nx δ M) : Run c δ M [] D := fun y σ H ad he hs E q => ⟨_, pss_nil, q.nx σ H ad δ M Nx.refl he hs h⟩
theorem r_cons {D : AE} {st : Stmt} {sts : List Stmt} (h : Run1 c δ M st { D with nx := fun δ2 M2 => Run c δ2 M2 sts D }) : Run c δ M (st :: sts) D := fun y σ H ad he hs E q =>
  ⟨_, pss_cons wS_ok wSs_ok, h y σ H ad he hs _ ⟨fun σ2 H2 ad2 δ2 M2 n e s p => p y σ2 H2 ad2 e s E (q.on n), q.rt, q.bk, q.ct⟩⟩
theorem r_one {D : AE} {st : Stmt} (h : Run1 c δ M st D) : Run c δ M [st] D := fun y σ H ad he hs E q => ⟨_, pss_one wS_ok, h y σ H ad he hs E q⟩
theorem s_ret {D : AE} (h : EvX c δ M e D.rt) : Run1 c δ M (.Return (some e) pos) D := fun y σ H ad he hs E q =>
  ⟨_, ps_ret wE_ok, h y σ H ad he hs _ fun v H2 ad2 a M2 n s r p => q.rt v H2 ad2 a M2 n s r p⟩
theorem s_if {D : AE} {b1 b2 : List Stmt} (h : EvT c δ M t fun k M1 => (k = true → Run c δ M1 b1 D) ∧ (k = false → Run c δ M1 b2 D)) : Run1 c δ M (.If t b1 b2 pos) D := fun y σ H ad he hs E q =>
  ⟨_, ps_if wT_ok wSs_ok wSs_ok, h y σ H ad he hs _ fun k H1 ad1 M1 n1 s1 p1 => by
    cases k with
    | true => exact iteT (p1.1 rfl y σ H1 ad1 (he.nx n1) s1 E (q.on n1))
    | false => exact iteF (p1.2 rfl y σ H1 ad1 (he.nx n1) s1 E (q.on n1))⟩
theorem s_expr {D : AE} (h : EvX c δ M e fun _ M1 => D.nx δ M1) (hs1 : ∀ env, swapsWith e none pos.line env = pure false) : Run1 c δ M (.Expr e pos) D := fun y σ H ad he hs E q =>
  ⟨_, ps_expr wE_ok (hs1 y.env), h y σ H ad he hs _ fun v H2 ad2 a M2 n s r p => q.nx σ H2 ad2 δ M2 n (he.nx n) s p⟩
theorem s_set {D : AE} (i : Nat) (hi : c.N[i]? = some x) (hN : c.N.Nodup) (hx : Loc c.sc x) (hf : c.fn x = true ∨ c.sc.names.lookup x = some .local) (h : EvX c δ M e fun a M1 => D.nx (δ.set i (some a)) M1)
    (hs1 : ∀ env, swapsWith e (some (.Name x p)) pos.line env = pure false) : Run1 c δ M (.Assign [.Name x p] e pos) D := fun y σ H ad he hs E q =>
  ⟨_, ps_set (X := y.cx) hN hi (by show Loc y.env.scope x; rw [y.sc]; exact hx) wE_ok (hs1 y.env) (by show c.fn x = true ∨ y.env.scope.names.lookup x = some .local; rw [y.sc]; exact hf),
    h y σ H ad he hs _ fun v H2 ad2 a M2 n s r p => q.nx _ H2 ad2 _ M2 n ((he.nx n).set r) s p⟩
theorem push_nx {ad ad2 : List Addr} {H H2 : Hp} {q : Addr} (n : Nx ad H ad2 H2) (hq : H q = none) (hn : q ∉ ad2) : Nx ad H (ad2 ++ [q]) H2 := by
  refine ⟨?_, fun a ha hna => ?_, n.keep, n.tx⟩
  · obtain ⟨t, e⟩ := n.pre
    exact ⟨t ++ [q], by rw [e, List.append_assoc]⟩
  · rcases List.mem_append.mp ha with z | z
    · exact n.fresh a z hna
    · rw [List.mem_singleton.mp z]
      exact hq
/-- x = a new list that will be changed: it goes into the store -/
theorem s_new {D : AE} (i : Nat) (hi : c.N[i]? = some x) (hN : c.N.Nodup) (hx : Loc c.sc x) (hf : c.fn x = true ∨ c.sc.names.lookup x = some .local) (h : EvF c δ M e fun ds M1 => D.nx (δ.set i (some (.mut M1.length))) (M1 ++ [.lst ds]))
    (hs1 : ∀ env, swapsWith e (some (.Name x p)) pos.line env = pure false) : Run1 c δ M (.Assign [.Name x p] e pos) D := fun y σ H ad he hs E q =>
  ⟨_, ps_set (X := y.cx) hN hi (by show Loc y.env.scope x; rw [y.sc]; exact hx) wE_ok (hs1 y.env) (by show c.fn x = true ∨ y.env.scope.names.lookup x = some .local; rw [y.sc]; exact hf),
    h y σ H ad he hs _ fun pq xs H2 ad2 ds M2 n s f1 f2 f3 f4 z => by
      have n2 := push_nx n f1 f2
      exact q.nx _ H2 (ad2 ++ [pq]) _ _ n2 ((he.nx n2).set (show RepA _ _ _ (.mut M2.length) _ from ⟨pq, by rw [← s.len, List.getElem?_append_right (Nat.le_refl _), Nat.sub_self]; rfl, rfl⟩)) (s.push (m := .lst ds) f2 ⟨xs, f3, f4⟩) z⟩
/-- x = [..]: the comprehension writes x itself -/
theorem s_setLc {D : AE} (own : List (Str × Nat)) (i : Nat) (hi : c.N[i]? = some x) (hxl : c.sc.names.lookup x = some .local) (hsw : ∀ env : Env, env.scope = c.sc → swapsWith (.ListComp elt [⟨tg, iter, ifs, 0⟩] scope pos) (some (.Name x p)) p1.line env = pure true)
    (ok : BlkOk c.N c.sc scope own) (hN : c.N.Nodup) (hf : ∀ env x, foldedSetIterable iter env x = pure x)
    (h : EvI c δ M tg iter fun ds src M1 => ds.length ≤ 1000000 ∧ ∃ I : Nat → List Fx.D → List MO → Prop, I 0 [] M1 ∧ (∀ i acc M2, I i acc M2 → ∀ j, src = some j → M2[j]? = some (.lst ds)) ∧
      (∀ i d acc M2, ds[i]? = some d → I i acc M2 → LcTurn (c.blk scope) (wipeD δ (own.map (·.2))) tg elt ifs (own.map (·.2)) d M2 (fun d' M4 => I (i + 1) (acc ++ [d']) M4) (fun M3 => I (i + 1) acc M3)) ∧ ∀ acc M2, I ds.length acc M2 → Pf acc M2)
    (k : (∀ ds M2, Pf ds M2 → D.nx (δ.set i (some (.ls ds))) M2) ∨ ∀ ds M2, Pf ds M2 → D.nx (δ.set i (some (.mut M2.length))) (M2 ++ [.lst ds])) :
    Run1 c δ M (.Assign [.Name x p] (.ListComp elt [⟨tg, iter, ifs, 0⟩] scope pos) p1) D := fun y σ H ad he hs E q =>
  ⟨_, ps_setLc (X := y.cx) (own := own) (wi := wI y.cx tg iter) (g := fun v σ H Q => ∀ s0 H0 C cl fp, wG (y.blk scope s0 H0 C cl fp).cx tg v σ H Q) (tt := fun σ H Q => ∀ s0 H0 C cl fp, wTs (y.blk scope s0 H0 C cl fp).cx ifs σ H Q)
    (te := fun σ H Q => ∀ s0 H0 C cl fp, wE (y.blk scope s0 H0 C cl fp).cx elt σ H Q) rfl hN hi (by show y.env.scope.names.lookup x = some .local; rw [y.sc]; exact hxl) (hsw y.env y.sc) wI_ok (by show BlkOk c.N y.env.scope scope own; rw [y.sc]; exact ok)
    (fun s0 H0 C cl fp => ⟨fun pins s σ H v u Q I r hw => (wG_ok (X := (y.blk scope s0 H0 C cl fp).cx)).run pins s σ H v u Q I r (hw s0 H0 C cl fp)⟩)
    (fun s0 H0 C cl fp => ⟨fun pins s σ H Q I hw => (wTs_ok (X := (y.blk scope s0 H0 C cl fp).cx)).run pins s σ H Q I (hw s0 H0 C cl fp)⟩)
    (fun s0 H0 C cl fp => ⟨fun pins s σ H Q I hw => (wE_ok (X := (y.blk scope s0 H0 C cl fp).cx)).run pins s σ H Q I (hw s0 H0 C cl fp)⟩) (hf y.env),
    lc_read h y σ H ad he hs _ fun pq xs H2 ad2 ds M2 n s f1 f2 f3 f4 z => by
      rcases k with k | k
      · exact q.nx _ H2 ad2 _ M2 n ((he.nx n).set (show RepA _ _ _ (.ls ds) _ from ⟨pq, xs, rfl, ⟨f3, f2⟩, f4⟩)) s (k ds M2 z)
      · have n2 := push_nx n f1 f2
        exact q.nx _ H2 (ad2 ++ [pq]) _ _ n2 ((he.nx n2).set (show RepA _ _ _ (.mut M2.length) _ from ⟨pq, by rw [← s.len, List.getElem?_append_right (Nat.le_refl _), Nat.sub_self]; rfl, rfl⟩)) (s.push (m := .lst ds) f2 ⟨xs, f3, f4⟩) (k ds M2 z)⟩
theorem s_asg {D : AE} (h : EvX c δ M e fun a M1 => EvGx c δ tg a fun δ2 => D.nx δ2 M1) (hs1 : ∀ env, swapsWithSole [tg] e pos.line env = pure false) (hw : ∀ env, swappedStores [tg] e env = pure none)
    (h1 : ∀ env, (assignEach [tg] env).map (·.2) = [assign tg env]) : Run1 c δ M (.Assign [tg] e pos) D := fun y σ H ad he hs E q =>
  ⟨_, ps_asg wE_ok wG_ok (hs1 y.env) (hw y.env) (h1 y.env), h y σ H ad he hs _ fun v H2 ad2 a M2 n s r ⟨_, p⟩ => p y σ H2 ad2 v (he.nx n) r _ fun σ2 δ2 e2 _ p2 => q.nx σ2 H2 ad2 δ2 M2 n e2 s p2⟩
/-- a, b = x, y -/
theorem s_par {D : AE} {x2 : Str} {px py pt pt2 : Pos} {kt k2 : Nat} (i j : Nat) (hi : c.N[i]? = some x) (hj : c.N[j]? = some x2) (hN : c.N.Nodup) (hij : i ≠ j) (hx : c.sc.names.lookup x = some .local) (hy : c.sc.names.lookup x2 = some .local)
    (h : EvA c δ M [a, b] fun as M1 => ∃ v w, as = [v, w] ∧ D.nx ((δ.set i (some v)).set j (some w)) M1)
    (hw : ∀ env : Env, env.scope = c.sc → swappedStores [.Tuple [.Name x px, .Name x2 py] kt pt] (.Tuple [a, b] k2 pt2) env = pure (some [x, x2]))
    (hs1 : ∀ env, swapsWithSole [.Tuple [.Name x px, .Name x2 py] kt pt] (.Tuple [a, b] k2 pt2) pos.line env = pure false) :
    Run1 c δ M (.Assign [.Tuple [.Name x px, .Name x2 py] kt pt] (.Tuple [a, b] k2 pt2) pos) D := fun y σ H ad he hs E q =>
  ⟨_, ps_par (X := y.cx) rfl hN hi hj hij (by show y.env.scope.names.lookup x = some .local; rw [y.sc]; exact hx) (by show y.env.scope.names.lookup x2 = some .local; rw [y.sc]; exact hy) wA_ok (hw y.env y.sc) (hs1 y.env),
    h y σ H ad he hs _ fun vs H2 ad2 as M2 n s r ⟨v, w, e, p⟩ => by
      subst e
      obtain ⟨v1, w1, e1, r1, r2⟩ := repAs2 r
      exact ⟨v1, w1, e1, q.nx _ H2 ad2 _ M2 n (((he.nx n).set r1).set r2) s p⟩⟩
/-- a list of the store changes at its place -/
def ipR (X : Cx) (op : Operator) : TIp := fun x y H Q => ∃ t, PIp X op t ∧ t x y H Q
/-- x op= e -/
theorem s_aug {D : AE} {op : Operator} {v : AV} (i : Nat) (hi : c.N[i]? = some x) (hN : c.N.Nodup) (hx : Loc c.sc x) (hf : c.fn x = true ∨ c.sc.names.lookup x = some .local) (hv : δ[i]? = some (some v))
    (h : EvX c δ M e fun a M1 => BinR c (inplaceOp op) v a M1 fun r M2 => D.nx (δ.set i (some r)) M2) : Run1 c δ M (.AugAssign (.Name x p) op e pos) D := fun y σ H ad he hs E q => by
  obtain ⟨w, hw, rw'⟩ := he.at_ i v hv
  refine ⟨_, ps_aug (X := y.cx) (ti := wO y.cx (inplaceOp op)) hN hi (by show Loc y.env.scope x; rw [y.sc]; exact hx) wE_ok (fun pins s σ H x y v u Q I r1 r2 ⟨t, ht, hq⟩ => ht pins s σ H x y v u Q I r1 r2 hq) (by show c.fn x = true ∨ y.env.scope.names.lookup x = some .local; rw [y.sc]; exact hf), w, hw, ?_⟩
  exact h y σ H ad he hs _ fun u H1 ad1 a M1 n1 s1 r1 p1 => p1 y H1 ad1 s1 w u (rw'.nx n1) r1 _ fun z H2 ad2 a2 M2 n2 s2 r2 p2 => q.nx _ H2 ad2 _ M2 (n1.trans n2) ((he.nx (n1.trans n2)).set r2) s2 p2
/-- for -/
theorem s_for {D : AE} {body : List Stmt} (h : EvI c δ M tg iter fun ds src M1 => ∃ I : Nat → Dl → List MO → Prop, I 0 δ M1 ∧ (∀ i δ2 M2, I i δ2 M2 → ∀ j, src = some j → M2[j]? = some (.lst ds)) ∧
      (∀ i d δ2 M2, ds[i]? = some d → I i δ2 M2 → EvGx c δ2 tg (.dat d) fun δ3 => Run c δ3 M2 body { D with nx := I (i + 1), ct := I (i + 1), bk := D.nx }) ∧ ∀ δ2 M2, I ds.length δ2 M2 → D.nx δ2 M2)
    (hf : ∀ env x, foldedSetIterable iter env x = pure x) : Run1 c δ M (.For tg iter body [] pos) D := fun y σ H ad he hs E q =>
  ⟨_, ps_for (X := y.cx) y.pass rfl wI_ok wG_ok wSs_ok (hf y.env), h y σ H ad he hs _ fun J H1 ad1 ds src M1 n1 s1 w ⟨I, i0, ik, it, idn⟩ => by
    refine ⟨fun i m σ' H' => m = ds.length - i ∧ i ≤ ds.length ∧ ∃ ad' M' δ', Nx ad1 H1 ad' H' ∧ StOk c.K ad' H' M' ∧ EnvOk c.K ad' H' σ' δ' ∧ I i δ' M', ⟨ds.length, by omega, Nat.zero_le _, ad1, M1, δ, Nx.refl, s1, he.nx n1, i0⟩, ?_⟩
    rintro i m σ' H' ⟨rfl, hi, ad', M', δ', n', s', e', inv⟩
    obtain ⟨hgo, hstop⟩ := w ad' H' M' n' s' (ik i δ' M' inv) i
    by_cases hlt : i < ds.length
    · obtain ⟨go, yl⟩ := hgo ds[i] (List.getElem?_eq_getElem hlt)
      refine .inr ⟨go, fun σ2 H2 => i + 1 ≤ ds.length ∧ ∃ ad' M' δ', Nx ad1 H1 ad' H2 ∧ StOk c.K ad' H2 M' ∧ EnvOk c.K ad' H2 σ2 δ' ∧ I (i + 1) δ' M', fun σ2 H2 hq => ⟨ds.length - (i + 1), by omega, rfl, hq⟩, fun x H3 hy => ?_⟩
      obtain ⟨sm, rx⟩ := yl x H3 hy
      have n3 : Nx ad1 H1 ad' H3 := n'.trans (Nx.same sm)
      obtain ⟨is, it'⟩ := it i ds[i] δ' M' (List.getElem?_eq_getElem hlt) inv
      refine it' y σ' H3 ad' x (e'.nx (Nx.same sm)) rx _ fun σ2 δ2 e2 _ p2 => ?_
      refine p2 y σ2 H3 ad' e2 (s'.same sm) _ ⟨fun σ4 H4 ad4 δ4 M4 n4 e4 s4 p4 => ⟨hlt, ad4, M4, δ4, n3.trans n4, s4, e4, p4⟩, fun v H4 ad4 a M4 n4 s4 r4 p4 => q.rt v H4 ad4 a M4 (n1.trans (n3.trans n4)) s4 r4 p4,
        fun σ4 H4 ad4 δ4 M4 n4 e4 s4 p4 => q.nx σ4 H4 ad4 δ4 M4 (n1.trans (n3.trans n4)) e4 s4 p4, fun σ4 H4 ad4 δ4 M4 n4 e4 s4 p4 => ⟨hlt, ad4, M4, δ4, n3.trans n4, s4, e4, p4⟩⟩
    · have ei : i = ds.length := by omega
      subst ei
      exact .inl ⟨hstop rfl, q.nx σ' H' ad' δ' M' (n1.trans n') e' s' (idn δ' M' inv)⟩⟩
/-- while -/
theorem s_while {D : AE} {body : List Stmt} (I : Nat → Dl → List MO → Prop) (n0 : Nat) (h0 : I n0 δ M)
    (h : ∀ n δ2 M2, I n δ2 M2 → EvT c δ2 M2 t fun k M3 => (k = true → Run c δ2 M3 body { D with nx := fun δ4 M4 => ∃ m, m < n ∧ I m δ4 M4, ct := fun δ4 M4 => ∃ m, m < n ∧ I m δ4 M4, bk := D.nx }) ∧ (k = false → D.nx δ2 M3)) :
    Run1 c δ M (.While t body [] pos) D := fun y σ H ad he hs E q => by
  refine ⟨_, ps_while (X := y.cx) y.pass wT_ok wSs_ok, fun m σ' H' => ∃ ad' M' δ', Nx ad H ad' H' ∧ StOk c.K ad' H' M' ∧ EnvOk c.K ad' H' σ' δ' ∧ I m δ' M', ⟨n0, ad, M, δ, Nx.refl, hs, he, h0⟩, ?_⟩
  rintro m σ' H' ⟨ad', M', δ', n', s', e', inv⟩
  refine h m δ' M' inv y σ' H' ad' e' s' _ fun b H1 ad1 M1 n1 s1 p1 => ?_
  cases b with
  | true =>
    refine iteT ⟨fun σ2 H2 => ∃ k, k < m ∧ ∃ ad' M' δ', Nx ad H ad' H2 ∧ StOk c.K ad' H2 M' ∧ EnvOk c.K ad' H2 σ2 δ' ∧ I k δ' M', fun σ2 H2 hq => hq, ?_⟩
    refine p1.1 rfl y σ' H1 ad1 (e'.nx n1) s1 _ ⟨fun σ4 H4 ad4 δ4 M4 n4 e4 s4 ⟨k, hk, p4⟩ => ⟨k, hk, ad4, M4, δ4, (n'.trans n1).trans n4, s4, e4, p4⟩, fun v H4 ad4 a M4 n4 s4 r4 p4 => q.rt v H4 ad4 a M4 ((n'.trans n1).trans n4) s4 r4 p4,
      fun σ4 H4 ad4 δ4 M4 n4 e4 s4 p4 => q.nx σ4 H4 ad4 δ4 M4 ((n'.trans n1).trans n4) e4 s4 p4, fun σ4 H4 ad4 δ4 M4 n4 e4 s4 ⟨k, hk, p4⟩ => ⟨k, hk, ad4, M4, δ4, (n'.trans n1).trans n4, s4, e4, p4⟩⟩
  | false => exact iteF (q.nx σ' H1 ad1 δ' M1 (n'.trans n1) (e'.nx n1) s1 (p1.2 rfl))
theorem s_cont {D : AE} (h : D.ct δ M) : Run1 c δ M (.Continue pos) D := fun y σ H ad he hs E q => ⟨_, ps_continue, q.ct σ H ad δ M Nx.refl he hs h⟩
end
end Fx

/-! Fx, part D: defs and their calls, built-in calls, lists of the store. -/
namespace Fx
open PySem L2

/-! ### a def of the text keeps its promise -/
structure DefOk (P : Program) (w : World) (K : PySem.W.Frag) (mg : Str → Option Value) (base : Heap) (k : Nat) (x : Str) (st : Stmt) (ps : List Str) (sp : Sp) : Prop where
  ex : ∃ fa fd, mg x = some (.ref fa) ∧ Fun K x x st fa fd ∧ Binds K fd ps [] ∧ FnOk P w K mg base CX0 k fa fd ps sp
section
variable {P : Program} {w : World} {K : PySem.W.Frag} {mg : Str → Option Value} {base : Heap} {k : Nat} {x : Str} {st : Stmt} {ps N : List Str}
@[reducible] def scOf (P : Program) (w : World) (K : PySem.W.Frag) (mg : Str → Option Value) (base : Heap) (N : List Str) (st : Stmt) (k : Nat) : SC := { P := P, w := w, K := K, mg := mg, base := base, N := N, sc := defScope st, fn := fun _ => true, k := k }
/-- what is handed back, the def's own objects forgotten -/
def Fin (M : List MO) (Post : AQ) : AQ := fun a M2 => Post a M2 ∨ ∃ rest, M2 = M ++ rest ∧
  ((∃ d, a = .dat d ∧ Post a M) ∨ (∃ ds, a = .ls ds ∧ Post a M) ∨ (∃ j ds, a = .mut j ∧ M.length ≤ j ∧ M2[j]? = some (.lst ds) ∧ Post (.ls ds) M) ∨ ∃ ds, a = .tx ds ∧ Post a M)
theorem fin_same {M : List MO} {Post : AQ} {a : AV} {M2 : List MO} (h : Post a M2) : Fin M Post a M2 := .inl h
theorem fin_dat {M rest : List MO} {Post : AQ} {d : D} (h : Post (.dat d) M) : Fin M Post (.dat d) (M ++ rest) := .inr ⟨rest, rfl, .inl ⟨d, rfl, h⟩⟩
theorem fin_ls {M rest : List MO} {Post : AQ} {ds : List D} (h : Post (.ls ds) M) : Fin M Post (.ls ds) (M ++ rest) := .inr ⟨rest, rfl, .inr (.inl ⟨ds, rfl, h⟩)⟩
theorem fin_mut {M rest : List MO} {Post : AQ} {j : Nat} {ds : List D} (hj : M.length ≤ j) (hm : (M ++ rest)[j]? = some (.lst ds)) (h : Post (.ls ds) M) : Fin M Post (.mut j) (M ++ rest) := .inr ⟨rest, rfl, .inr (.inr (.inl ⟨j, ds, rfl, hj, hm, h⟩))⟩
theorem fin_tx {M rest : List MO} {Post : AQ} {ds : List D} (h : Post (.tx ds) M) : Fin M Post (.tx ds) (M ++ rest) := .inr ⟨rest, rfl, .inr (.inr (.inr ⟨ds, rfl, h⟩))⟩
theorem RepF.back {K : PySem.W.Frag} {ad t : List Addr} {H H2 : Hp} : ∀ {a : AV} {v u : V}, RepF K ad H a u → RepF K (ad ++ t) H2 a v → RepF K ad H2 a v
  | .dat _, _, _, _, h => h
  | .mut _, _, _, ⟨b, hb, _⟩, ⟨a, q, e⟩ => ⟨a, by
    rw [List.getElem?_append_left (List.getElem?_eq_some_iff.mp hb).1] at q
    exact q, e⟩
  | .ls _, _, _, _, h => h.elim
  | .la _, _, _, _, h => h.elim
  | .ta _, _, _, _, h => h.elim
  | .scr _, _, _, _, h => h.elim
  | .tx _, _, _, _, h => h.elim
  | .exc _ _, _, _, _, h => h.elim
  | .fn _, _, _, _, h => h.elim
theorem RepFs.back {K : PySem.W.Frag} {ad t : List Addr} {H H2 : Hp} : ∀ {a : List (Str × AV)} {v u : List (Str × V)}, RepFs K ad H a u → RepFs K (ad ++ t) H2 a v → RepFs K ad H2 a v
  | [], _, _, _, h => h
  | _ :: _, _, _, ⟨x, r, e, h1, h2⟩, ⟨x2, r2, e2, h3, h4⟩ => ⟨x2, r2, e2, RepF.back h1 h3, RepFs.back h2 h4⟩
theorem StOk.back {K : PySem.W.Frag} {ad t : List Addr} {H H2 : Hp} {M rest : List MO} (S : StOk K ad H M) (S2 : StOk K (ad ++ t) H2 (M ++ rest)) : StOk K ad H2 M := by
  refine ⟨S.nd, S.len, fun j m e => ?_⟩
  obtain ⟨a, ha, o⟩ := S.obj j m e
  obtain ⟨a2, ha2, o2⟩ := S2.obj j m (by rw [List.getElem?_append_left (List.getElem?_eq_some_iff.mp e).1]; exact e)
  have lt : ∀ {i : Nat} {b : Addr}, ad[i]? = some b → (ad ++ t)[i]? = some b := fun {i b} q => by
    rw [List.getElem?_append_left (List.getElem?_eq_some_iff.mp q).1]
    exact q
  rw [lt ha] at ha2
  cases ha2
  refine ⟨a, ha, ?_⟩
  cases m with
  | lst ds => exact o2
  | town i =>
    obtain ⟨c, b, hb, k⟩ := o2
    obtain ⟨c', b', hb', k'⟩ := o
    rw [lt hb'] at hb
    cases hb
    exact ⟨c, _, hb', k⟩
  | rests => exact o2
  | tab P q => exact o2
  | kd ks => exact o2
  | ins C fs =>
    obtain ⟨dx, xs, h1, h2⟩ := o2
    obtain ⟨dx', xs', h1', h2'⟩ := o
    exact ⟨dx, xs, h1, RepFs.back h2' h2⟩
theorem Nx.back {ad t : List Addr} {H H2 : Hp} (n : Nx ad H (ad ++ t) H2) : Nx ad H ad H2 := ⟨⟨[], by simp⟩, fun a h k => absurd h k, n.keep, n.tx⟩
theorem fn_mk {fa : Addr} {fd : FuncData} {ql : Str} {A : ASp} (F : Fun K x ql st fa fd) (S : FnScope N ps (defScope st))
    (h : ∀ as M Post, as.length = ps.length → A as M Post → Run (scOf P w K mg base N st k) (as.map some ++ List.replicate (N.length - as.length) none) M (defBody st) { nx := fun _ M2 => Fin M Post (.dat .non) M2, rt := Fin M Post }) :
    FnOk P w K mg base CX0 (k + 1) fa fd ps (spOf K ps.length A) := by
  refine F.ok S (fun vs H Q E h => h.1) (fun cdv A' outer s H vs Q E hr hsp => ?_)
  obtain ⟨hl, ad, as, M, Post, hs, hr2, hA, q⟩ := hsp
  have fin : ∀ v H2 ad2 a M2, Nx ad H ad2 H2 → StOk K ad2 H2 M2 → RepA K ad2 H2 a v → Fin M Post a M2 → Q v H2 := by
    intro v H2 ad2 a M2 n s2 r p
    rcases p with p | ⟨rest, rfl, p⟩
    · exact q v H2 ad2 a M2 n s2 r p
    · obtain ⟨t, rfl⟩ := n.pre
      have sb := hs.back s2
      rcases p with ⟨d, rfl, p⟩ | ⟨ds, rfl, p⟩ | ⟨j, ds, rfl, hj, hm, p⟩ | ⟨ds, rfl, p⟩
      · exact q v H2 ad (.dat d) M n.back sb r p
      · obtain ⟨b, xs, e, ⟨h1, h2⟩, h3⟩ := r
        exact q v H2 ad (.ls ds) M n.back sb ⟨b, xs, e, ⟨h1, fun z => h2 (List.mem_append_left _ z)⟩, h3⟩ p
      · obtain ⟨b, hb, e⟩ := r
        obtain ⟨b2, hb2, xs, h1, h3⟩ := s2.obj j _ hm
        rw [hb] at hb2
        cases hb2
        refine q v H2 ad (.ls ds) M n.back sb ⟨b, xs, e, ⟨h1, fun z => ?_⟩, h3⟩ p
        obtain ⟨i, hi⟩ := List.getElem?_of_mem z
        have hi2 := hi
        rw [← List.getElem?_append_left (l₂ := t) (List.getElem?_eq_some_iff.mp hi).1] at hi
        have := nd_ix s2.nd hi hb
        have h4 := (List.getElem?_eq_some_iff.mp hi2).1
        rw [hs.len] at h4
        omega
      · exact q v H2 ad (.tx ds) M n.back sb r p
  let env := PyProof.Rows.envOfC ql (defScope st) s.heap.objs.size fa cdv
  let y : Dyn (scOf P w K mg base N st k) := ⟨A'.deeper env, s, H, env, outer, env :: outer, [], [], fun _ _ => False, rfl, hr, PassesOwn.never, trivial⟩
  exact ⟨wSs y.cx (defBody st), wSs_ok, h as M Post (by rw [← repAs_length hr2]; exact hl) hA y _ H ad (envOk_start hr2) hs _
    ⟨fun _ H2 ad2 _ M2 n _ s2 p => fin _ H2 ad2 (.dat .non) M2 n s2 rfl p, fun v H2 ad2 a M2 n s2 r p => fin v H2 ad2 a M2 n s2 r p, fun _ _ _ _ _ _ _ _ z => z.elim, fun _ _ _ _ _ _ _ _ z => z.elim⟩⟩
end

/-! ### calls -/
section
variable {c : SC} {δ : Dl} {M : List MO} {Post : AQ} {a b e t : Expr} {es : List Expr} {pos p p1 p2 : Pos} {x : Str} {k : Nat} {st : Stmt} {ps : List Str} {Pf : List D → List MO → Prop}
theorem x_call {A : ASp} (F : DefOk c.P c.w c.K c.mg c.base k x st ps (spOf c.K ps.length A)) (hk : k ≤ c.k) (hg : c.gl x) (h : EvA c δ M (e :: es) fun as M1 => as.length = ps.length ∧ A as M1 Post)
    (hst : ∀ env, starEach (e :: es) env = (false, eval e env) :: starEach es env) (hpl : ∀ env, (backTo pos (starEach es env)).any (·.1) = false) (hdb : (x == ("__debug__" : Str)) = false := by decide) : EvX c δ M (.Call (.Name x p) (e :: es) [] pos) Post := fun y σ H ad he hs Q q => by
  obtain ⟨fa, fd, hm, F1, hb, ok⟩ := F.ex
  refine ⟨_, pe_call (X := y.cx) ok (y.room.mono hk) (glS y hg) hm F1.kp hb .nil pass0 wA_ok hdb (hst y.env) (hpl y.env), h y σ H ad he hs _ fun vs H1 ad1 as M1 n1 s1 r1 ⟨hl, hA⟩ => ?_⟩
  rw [List.append_nil]
  exact ⟨by rw [repAs_length r1]; exact hl, ad1, as, M1, Post, s1, r1, hA, fun v H2 ad2 a2 M2 n2 s2 r2 p2 => q v H2 ad2 a2 M2 (n1.trans n2) s2 r2 p2⟩
theorem x_call0 {A : ASp} (F : DefOk c.P c.w c.K c.mg c.base k x st [] (spOf c.K 0 A)) (hk : k ≤ c.k) (hg : c.gl x) (h : A [] M Post) (hdb : (x == ("__debug__" : Str)) = false := by decide) : EvX c δ M (.Call (.Name x p) [] [] pos) Post := fun y σ H ad he hs Q q => by
  obtain ⟨fa, fd, hm, F1, hb, ok⟩ := F.ex
  exact ⟨_, pe_call0 (X := y.cx) ok (y.room.mono hk) (glS y hg) hm F1.kp hb .nil pass0 hdb, rfl, ad, [], M, Post, hs, rfl, h, fun v H2 ad2 a2 M2 n2 s2 r2 p2 => q v H2 ad2 a2 M2 n2 s2 r2 p2⟩
/-- keywords: the positional ones, then the rest in the def's own order -/
def ordK (m n : Nat) {α : Type} (us ws : List α) : List α := if us.length = m ∧ ws.length = n then us ++ ws else []
theorem repAs_append {K : PySem.W.Frag} {ad : List Addr} {H : Hp} : ∀ {as bs : List AV} {vs us : List V}, RepAs K ad H as vs → RepAs K ad H bs us → RepAs K ad H (as ++ bs) (vs ++ us)
  | [], _, _, _, h, k => by rw [show _ = [] from h]; exact k
  | _ :: _, _, _, _, ⟨x, r, e, h1, h2⟩, k => by
    subst e
    exact ⟨x, _, rfl, h1, repAs_append h2 k⟩
theorem vals_append {xs ys : List V} {us ws : List Value} (a : Vals xs us) (b : Vals ys ws) : Vals (xs ++ ys) (us ++ ws) := a.append b
theorem x_callK {A : ASp} {kws : List Keyword} {m n : Nat} (ks : List Str) (F : DefOk c.P c.w c.K c.mg c.base k x st ps (spOf c.K ps.length A)) (hk : k ≤ c.k) (hg : c.gl x)
    (hB : ∀ (kV doc pm : Value) (an : Option Addr) (cdv ct : Value) (us ws : List Value), us.length = m → ws.length = n → bindArgs (PySem.W.fnOf x x (defArgs st) (defBody st) (defScope st) .none kV doc pm an cdv ct) ⟨us, ks.zip ws⟩ = pure (ps.zip (us ++ ws)))
    (hmn : ps.length = m + n) (hn0 : 0 < m + n)
    (h : EvA c δ M (e :: es) fun as M1 => EvK c δ M1 kws fun bs M2 => as.length = m ∧ bs.length = n ∧ A (as ++ bs) M2 Post)
    (hst : ∀ env, starEach (e :: es) env = (false, eval e env) :: starEach es env) (hall : ∀ env, (backToKw pos (keywordEach kws env)).all (·.1.isSome) = true) (hks : ∀ env, (backToKw pos (keywordEach kws env)).filterMap (·.1) = ks)
    (hpl : ∀ env, ((backTo pos (starEach (e :: es) env)).any (·.1) || (backToKw pos (keywordEach kws env)).any (·.1.isNone)) = false) (hdb : (x == ("__debug__" : Str)) = false := by decide) : EvX c δ M (.Call (.Name x p) (e :: es) kws pos) Post := fun y σ H ad he hs Q q => by
  obtain ⟨fa, fd, hm, F1, hb, ok⟩ := F.ex
  have kb : KBinds c.K fd ps ks (ordK m n) (ordK m n) := by
    obtain ⟨oc, od, kV, doc, pm, an, cdv, ct, osl, rfl, lk, hcd⟩ := F1.ex
    refine ⟨fun s us ws _ hl => ?_, fun {vs us zs ws} r1 r2 => ?_⟩
    · unfold ordK at hl ⊢
      by_cases hc : us.length = m ∧ ws.length = n
      · rw [if_pos hc]
        exact .of_eq (hB kV doc pm an cdv ct us ws hc.1 hc.2)
      · rw [if_neg hc] at hl
        have : ([] : List Value).length = 0 := rfl
        omega
    · unfold ordK
      rw [r1.length, r2.length]
      by_cases hc : us.length = m ∧ ws.length = n
      · rw [if_pos hc, if_pos hc]
        exact vals_append r1 r2
      · rw [if_neg hc, if_neg hc]
        exact .nil
  refine ⟨_, pe_callK (X := y.cx) (ks := ks) ok (y.room.mono hk) (glS y hg) hm F1.kp kb pass0 wA_ok wK_ok (hall y.env) (hks y.env) hdb (hst y.env) (hpl y.env), h y σ H ad he hs _ fun vs H1 ad1 as M1 n1 s1 r1 p1 => p1 y σ H1 ad1 (he.nx n1) s1 _ fun us H2 ad2 bs M2 n2 s2 r2 ⟨l1, l2, hA⟩ => ?_⟩
  have e1 : vs.length = m ∧ us.length = n := ⟨by rw [repAs_length r1]; exact l1, by rw [repAs_length r2]; exact l2⟩
  unfold ordK
  rw [if_pos e1]
  exact ⟨by rw [List.length_append, e1.1, e1.2, hmn], ad2, as ++ bs, M2, Post, s2, repAs_append (r1.nx n2) r2, hA, fun v H3 ad3 a3 M3 n3 s3 r3 p3 => q v H3 ad3 a3 M3 ((n1.trans n2).trans n3) s3 r3 p3⟩

/-! ### built-in calls -/
def wC (X : Cx) (fv : Value) : List V → Hp → VK → Prop := fun vs H Q => ∃ r, CallR X fv r ∧ r vs H Q
theorem wC_ok {X : Cx} {fv : Value} : CallR X fv (wC X fv) := fun pins s σ H xs us Q I r ⟨t, h, q⟩ => h pins s σ H xs us Q I r q
def CallA (c : SC) (fv : Value) (as : List AV) (M : List MO) (Post : AQ) : Prop :=
  ∀ (z : Dyn c) (H : Hp) (ad : List Addr), StOk c.K ad H M → ∀ vs, RepAs c.K ad H as vs → ∀ Q : VK,
    (∀ v H2 ad2 a M2, Nx ad H ad2 H2 → StOk c.K ad2 H2 M2 → RepA c.K ad2 H2 a v → Post a M2 → Q v H2) → wC z.cx fv vs H Q
def CallF (c : SC) (fv : Value) (as : List AV) (M : List MO) (Pf : List D → List MO → Prop) : Prop :=
  ∀ (z : Dyn c) (H : Hp) (ad : List Addr), StOk c.K ad H M → ∀ vs, RepAs c.K ad H as vs → ∀ Q : VK,
    (∀ p xs H2 ad2 ds M2, Nx ad H ad2 H2 → StOk c.K ad2 H2 M2 → H p = none → p ∉ ad2 → H2 p = some (.lst xs) → Reps c.K H2 ds xs → Pf ds M2 → Q (.ref p) H2) → wC z.cx fv vs H Q
variable {id T : String}
theorem x_blt (hg : c.gl x) (hm : c.mg x = none) (hv : bootBuiltins x = some (.builtin id)) (h : EvA c δ M (e :: es) fun as M1 => CallA c (.builtin id) as M1 Post)
    (hst : ∀ env, starEach (e :: es) env = (false, eval e env) :: starEach es env) (hpl : ∀ env, (backTo pos (starEach es env)).any (·.1) = false) (hn : x ≠ "__name__" := by decide) (hdb : (x == ("__debug__" : Str)) = false := by decide) : EvX c δ M (.Call (.Name x p) (e :: es) [] pos) Post := fun y σ H ad he hs Q q =>
  ⟨_, pe_callB (X := y.cx) wC_ok (glS y hg) hm hv wA_ok hn hdb (hst y.env) (hpl y.env), h y σ H ad he hs _ fun vs H1 ad1 as M1 n1 s1 r1 p1 => p1 y H1 ad1 s1 vs r1 Q fun v H2 ad2 a2 M2 n2 s2 r2 p2 => q v H2 ad2 a2 M2 (n1.trans n2) s2 r2 p2⟩
theorem f_blt (hg : c.gl x) (hm : c.mg x = none) (hv : bootBuiltins x = some (.builtin id)) (h : EvA c δ M (e :: es) fun as M1 => CallF c (.builtin id) as M1 Pf)
    (hst : ∀ env, starEach (e :: es) env = (false, eval e env) :: starEach es env) (hpl : ∀ env, (backTo pos (starEach es env)).any (·.1) = false) (hn : x ≠ "__name__" := by decide) (hdb : (x == ("__debug__" : Str)) = false := by decide) : EvF c δ M (.Call (.Name x p) (e :: es) [] pos) Pf := fun y σ H ad he hs Q q =>
  ⟨_, pe_callB (X := y.cx) wC_ok (glS y hg) hm hv wA_ok hn hdb (hst y.env) (hpl y.env), h y σ H ad he hs _ fun vs H1 ad1 as M1 n1 s1 r1 p1 => p1 y H1 ad1 s1 vs r1 Q fun pq xs H2 ad2 ds M2 n2 s2 f1 f2 f3 f4 z => q pq xs H2 ad2 ds M2 (n1.trans n2) s2 (free_back n1 s1 f1) f2 f3 f4 z⟩
theorem x_ty (hg : c.gl x) (hm : c.mg x = none) (hv : bootBuiltins x = some (.type T)) (h : EvA c δ M (e :: es) fun as M1 => CallA c (.type T) as M1 Post)
    (hst : ∀ env, starEach (e :: es) env = (false, eval e env) :: starEach es env) (hpl : ∀ env, (backTo pos (starEach es env)).any (·.1) = false) (hn : x ≠ "__name__" := by decide) (hdb : (x == ("__debug__" : Str)) = false := by decide) : EvX c δ M (.Call (.Name x p) (e :: es) [] pos) Post := fun y σ H ad he hs Q q =>
  ⟨_, pe_callTy (X := y.cx) wC_ok (glS y hg) hm hv wA_ok hn hdb (hst y.env) (hpl y.env), h y σ H ad he hs _ fun vs H1 ad1 as M1 n1 s1 r1 p1 => p1 y H1 ad1 s1 vs r1 Q fun v H2 ad2 a2 M2 n2 s2 r2 p2 => q v H2 ad2 a2 M2 (n1.trans n2) s2 r2 p2⟩
theorem f_ty (hg : c.gl x) (hm : c.mg x = none) (hv : bootBuiltins x = some (.type T)) (h : EvA c δ M (e :: es) fun as M1 => CallF c (.type T) as M1 Pf)
    (hst : ∀ env, starEach (e :: es) env = (false, eval e env) :: starEach es env) (hpl : ∀ env, (backTo pos (starEach es env)).any (·.1) = false) (hn : x ≠ "__name__" := by decide) (hdb : (x == ("__debug__" : Str)) = false := by decide) : EvF c δ M (.Call (.Name x p) (e :: es) [] pos) Pf := fun y σ H ad he hs Q q =>
  ⟨_, pe_callTy (X := y.cx) wC_ok (glS y hg) hm hv wA_ok hn hdb (hst y.env) (hpl y.env), h y σ H ad he hs _ fun vs H1 ad1 as M1 n1 s1 r1 p1 => p1 y H1 ad1 s1 vs r1 Q fun pq xs H2 ad2 ds M2 n2 s2 f1 f2 f3 f4 z => q pq xs H2 ad2 ds M2 (n1.trans n2) s2 (free_back n1 s1 f1) f2 f3 f4 z⟩

theorem ca_len {v : AV} {ds : List D} (hv : IsS M v ds) (h : Post (.dat (.int ds.length)) M) : CallA c (.builtin "len") [v] M Post := fun z H ad hs vs r Q q => by
  obtain ⟨u, rfl, ru⟩ := repAs1 r
  obtain ⟨pp, xs, rfl, hq, rr⟩ := hv.sq hs ru
  refine ⟨_, call_len_seq, pp, xs, rfl, hq, ?_⟩
  rw [rr.length]
  exact q _ H ad (.dat (.int ds.length)) M Nx.refl hs rfl h
theorem ca_lenS {s : Str} (hl : s.length ≤ 1000000) (h : Post (.dat (.int s.length)) M) : CallA c (.builtin "len") [.dat (.str s)] M Post := fun z H ad hs vs r Q q => by
  obtain ⟨u, rfl, ru⟩ := repAs1 r
  rw [show u = .str s from ru]
  exact ⟨_, call_len_str, s, rfl, Nat.le_trans hl (by decide), q _ H ad (.dat (.int s.length)) M Nx.refl hs rfl h⟩
theorem ca_sum {v : AV} {ns : List Int} (hv : IsL M v (ns.map .int)) (h : Post (.dat (.int ns.sum)) M) : CallA c (.builtin "sum") [v] M Post := fun z H ad hs vs r Q q => by
  obtain ⟨u, rfl, ru⟩ := repAs1 r
  obtain ⟨pp, xs, rfl, hq, rr⟩ := hv.sq hs ru
  rw [reps_ints.mp rr] at hq
  exact ⟨_, cr_sum rfl, pp, ns, rfl, hq, q _ H ad (.dat (.int ns.sum)) M Nx.refl hs rfl h⟩
theorem ca_max {v : AV} {ns : List Int} (hv : IsL M v (ns.map .int)) (hl : 0 < ns.length) (h : ∀ m, m ∈ ns → (∀ y, y ∈ ns → y ≤ m) → Post (.dat (.int m)) M) : CallA c (.builtin "max") [v] M Post := fun z H ad hs vs r Q q => by
  obtain ⟨u, rfl, ru⟩ := repAs1 r
  obtain ⟨pp, xs, rfl, hq, rr⟩ := hv.sq hs ru
  rw [reps_ints.mp rr] at hq
  exact ⟨_, cr_max rfl, pp, ns, rfl, hq, hl, fun m h1 h2 => q _ H ad (.dat (.int m)) M Nx.refl hs rfl (h m h1 h2)⟩
theorem ca_min {v : AV} {ns : List Int} (hv : IsL M v (ns.map .int)) (hl : 0 < ns.length) (h : ∀ m, m ∈ ns → (∀ y, y ∈ ns → m ≤ y) → Post (.dat (.int m)) M) : CallA c (.builtin "min") [v] M Post := fun z H ad hs vs r Q q => by
  obtain ⟨u, rfl, ru⟩ := repAs1 r
  obtain ⟨pp, xs, rfl, hq, rr⟩ := hv.sq hs ru
  rw [reps_ints.mp rr] at hq
  exact ⟨_, cr_min rfl, pp, ns, rfl, hq, hl, fun m h1 h2 => q _ H ad (.dat (.int m)) M Nx.refl hs rfl (h m h1 h2)⟩
theorem ca_max2 {i j : Int} (h : Post (.dat (.int (if j > i then j else i))) M) : CallA c (.builtin "max") [.dat (.int i), .dat (.int j)] M Post := fun z H ad hs vs r Q q => by
  obtain ⟨u, w, rfl, ru, rw'⟩ := repAs2 r
  rw [show u = .int i from ru, show w = .int j from rw']
  exact ⟨_, call_max2 rfl, i, j, rfl, q _ H ad (.dat (.int _)) M Nx.refl hs rfl h⟩
theorem ca_min2 {i j : Int} (h : Post (.dat (.int (if j < i then j else i))) M) : CallA c (.builtin "min") [.dat (.int i), .dat (.int j)] M Post := fun z H ad hs vs r Q q => by
  obtain ⟨u, w, rfl, ru, rw'⟩ := repAs2 r
  rw [show u = .int i from ru, show w = .int j from rw']
  exact ⟨_, call_min2 rfl, i, j, rfl, q _ H ad (.dat (.int _)) M Nx.refl hs rfl h⟩
theorem ca_all {v : AV} {bs : List Bool} (hv : IsL M v (bs.map .bl)) (h : Post (.dat (.bl (bs.all (fun b => b)))) M) : CallA c (.builtin "all") [v] M Post := fun z H ad hs vs r Q q => by
  obtain ⟨u, rfl, ru⟩ := repAs1 r
  obtain ⟨pp, xs, rfl, hq, rr⟩ := hv.sq hs ru
  rw [reps_bls.mp rr] at hq
  exact ⟨_, cr_all rfl, pp, bs, rfl, hq, q _ H ad (.dat (.bl (bs.all (fun b => b)))) M Nx.refl hs rfl h⟩
theorem cf_sorted {v : AV} {ns : List Int} (hv : IsL M v (ns.map .int)) (hl : ns.length < 64) (h : ∀ ns' : List Int, ns'.Perm ns → ns'.Pairwise (· ≤ ·) → Pf (ns'.map .int) M) : CallF c (.builtin "sorted") [v] M Pf := fun z H ad hs vs r Q q => by
  obtain ⟨u, rfl, ru⟩ := repAs1 r
  obtain ⟨pp, xs, rfl, hq, rr⟩ := hv.sq hs ru
  rw [reps_ints.mp rr] at hq
  refine ⟨_, cr_sorted, pp, ns, rfl, hq, hl, fun ns' q' h1 h2 hn => ?_⟩
  have sm := same_new (o := .lst (ns'.map V.int)) hn
  exact q q' _ _ ad (ns'.map .int) M (Nx.same sm) (hs.same sm) hn (hs.free hn) upd_same (reps_ints.mpr rfl) (h ns' h1 h2)
theorem ca_tuple {v : AV} {ds : List D} (hv : IsS M v ds) (h : Post (.dat (.tup ds)) M) : CallA c (.type "tuple") [v] M Post := fun z H ad hs vs r Q q => by
  obtain ⟨u, rfl, ru⟩ := repAs1 r
  obtain ⟨pp, xs, rfl, hq, rr⟩ := hv.sq hs ru
  refine ⟨_, call_tuple_of, pp, xs, rfl, ?_⟩
  rcases hq with hq | hq
  · refine .inl ⟨hq, fun l hn => ?_⟩
    have sm := same_new (o := .tup xs) hn
    exact q _ _ ad (.dat (.tup ds)) M (Nx.same sm) (hs.same sm) ⟨l, xs, rfl, .inl (.inl upd_same), rr.tx (Tx.same sm)⟩ h
  · exact .inr ⟨hq, q _ H ad (.dat (.tup ds)) M Nx.refl hs ⟨pp, xs, rfl, hq, rr⟩ h⟩
theorem cf_list {v : AV} {ds : List D} (hv : IsS M v ds) (h : Pf ds M) : CallF c (.type "list") [v] M Pf := fun z H ad hs vs r Q q => by
  obtain ⟨u, rfl, ru⟩ := repAs1 r
  obtain ⟨pp, xs, rfl, hq, rr⟩ := hv.sq hs ru
  refine ⟨_, call_list_of, pp, xs, rfl, hq, fun l hn => ?_⟩
  have sm := same_new (o := .lst xs) hn
  exact q l xs _ ad ds M (Nx.same sm) (hs.same sm) hn (hs.free hn) upd_same (rr.tx (Tx.same sm)) h
/-- list(range(..)), tuple(range(..)) -/
def EvR (c : SC) (δ : Dl) (M : List MO) (e : Expr) (Pr : Int → Int → List MO → Prop) : Prop :=
  ∀ (y : Dyn c) (σ : L2.St) (H : Hp) (ad : List Addr), EnvOk c.K ad H σ δ → StOk c.K ad H M → ∀ Q : Int → Int → Hp → Prop,
    (∀ lo hi H2 ad2 M2, Nx ad H ad2 H2 → StOk c.K ad2 H2 M2 → Pr lo hi M2 → Q lo hi H2) → ∃ t, PRg y.cx e t ∧ t σ H Q
theorem rg_1 {Pr : Int → Int → List MO → Prop} (hm : c.mg "range" = none) (hg : c.gl "range") (h : EvX c δ M a fun v M1 => ∃ n, v = .dat (.int n) ∧ Pr 0 n M1) (hst : ∀ env, starEach [a] env = (false, eval a env) :: starEach [] env) : EvR c δ M (.Call (.Name "range" p) [a] [] pos) Pr := fun y σ H ad he hs Q q =>
  ⟨_, prg_1 (X := y.cx) (glS y hg) hm wE_ok (hst y.env), h y σ H ad he hs _ fun v H1 ad1 a1 M1 n1 s1 r1 ⟨n, e, p1⟩ => by
    subst e
    exact ⟨n, r1, q 0 n H1 ad1 M1 n1 s1 p1⟩⟩
theorem rg_2 {Pr : Int → Int → List MO → Prop} (hm : c.mg "range" = none) (hg : c.gl "range") (h : EvX c δ M a fun v M1 => EvX c δ M1 b fun w M2 => ∃ m n, v = .dat (.int m) ∧ w = .dat (.int n) ∧ Pr m n M2) (hst : ∀ env, starEach [a, b] env = (false, eval a env) :: starEach [b] env)
    (hst2 : ∀ env, starEach [b] env = (false, eval b env) :: starEach [] env) (hpl : ∀ env, (backTo pos (starEach [b] env)).any (·.1) = false) : EvR c δ M (.Call (.Name "range" p) [a, b] [] pos) Pr := fun y σ H ad he hs Q q =>
  ⟨_, prg_2 (X := y.cx) (glS y hg) hm wE_ok wE_ok (hst y.env) (hst2 y.env) (hpl y.env), h y σ H ad he hs _ fun v H1 ad1 a1 M1 n1 s1 r1 p1 => p1 y σ H1 ad1 (he.nx n1) s1 _ fun w H2 ad2 a2 M2 n2 s2 r2 ⟨m, n, e1, e2, p2⟩ => by
    subst e1 e2
    exact ⟨m, n, r1, r2, q m n H2 ad2 M2 (n1.trans n2) s2 p2⟩⟩
theorem rgD_V (a b : Int) : rgV a b = (List.range (b - a).toNat).map (fun i => V.int (a + (i : Nat))) := rfl
theorem reps_rg {K : PySem.W.Frag} {H : Hp} (a b : Int) : Reps K H (rgD a b) (rgV a b) := by
  have gen : ∀ l : List Nat, Reps K H (l.map fun i => D.int (a + (i : Nat))) (l.map fun i => V.int (a + (i : Nat))) := by
    intro l
    induction l with
    | nil => rfl
    | cons i l ih => exact ⟨_, _, rfl, rfl, ih⟩
  exact gen _
def wR (X : Cx) (e : Expr) : L2.St → Hp → (Int → Int → Hp → Prop) → Prop := fun σ H Q => ∃ t, PRg X e t ∧ t σ H Q
theorem wR_ok {X : Cx} {e : Expr} : PRg X e (wR X e) := fun pins s σ H Q I ⟨t, h, q⟩ => h pins s σ H Q I q
theorem f_lrg (hm : c.mg "list" = none) (hg : c.gl "list") (h : EvR c δ M e fun lo hi M1 => (-(2 ^ 20) ≤ lo ∧ lo ≤ 2 ^ 20 ∧ -(2 ^ 20) ≤ hi ∧ hi ≤ 2 ^ 20) ∧ Pf (rgD lo hi) M1) (hst : ∀ env, starEach [e] env = (false, eval e env) :: starEach [] env) : EvF c δ M (.Call (.Name "list" p) [e] [] pos) Pf := fun y σ H ad he hs Q q =>
  ⟨_, pe_listRg (X := y.cx) rfl (glS y hg) hm wR_ok (hst y.env), h y σ H ad he hs _ fun lo hi H1 ad1 M1 n1 s1 ⟨b, p1⟩ => by
    refine ⟨⟨by omega, by omega, by omega, by omega, by omega⟩, fun qq hn => ?_⟩
    have sm := same_new (o := .lst (rgV lo hi)) hn
    exact q qq _ _ ad1 _ M1 (n1.trans (Nx.same sm)) (s1.same sm) (free_back n1 s1 hn) (s1.free hn) upd_same (reps_rg lo hi) p1⟩
theorem x_trg (hm : c.mg "tuple" = none) (hg : c.gl "tuple") (h : EvR c δ M e fun lo hi M1 => (-(2 ^ 20) ≤ lo ∧ lo ≤ 2 ^ 20 ∧ -(2 ^ 20) ≤ hi ∧ hi ≤ 2 ^ 20) ∧ Post (.dat (.tup (rgD lo hi))) M1) (hst : ∀ env, starEach [e] env = (false, eval e env) :: starEach [] env) : EvX c δ M (.Call (.Name "tuple" p) [e] [] pos) Post := fun y σ H ad he hs Q q =>
  ⟨_, pe_tupRg (X := y.cx) rfl (glS y hg) hm wR_ok (hst y.env), h y σ H ad he hs _ fun lo hi H1 ad1 M1 n1 s1 ⟨b, p1⟩ => by
    refine ⟨⟨by omega, by omega, by omega, by omega, by omega⟩, fun qq hn => ?_⟩
    have sm := same_new (o := .tup (rgV lo hi)) hn
    exact q _ _ ad1 (.dat (.tup (rgD lo hi))) M1 (n1.trans (Nx.same sm)) (s1.same sm) ⟨qq, _, rfl, .inl (.inl upd_same), reps_rg lo hi⟩ p1⟩

/-! ### lists of the store -/
def wM (X : Cx) (id : String) : V → List V → Hp → VK → Prop := fun x vs H Q => ∃ r, MtR X id r ∧ r x vs H Q
theorem wM_ok {X : Cx} {id : String} : MtR X id (wM X id) := fun pins s σ H x xs v us Q I rx r ⟨t, h, q⟩ => h pins s σ H x xs v us Q I rx r q
theorem st_lst {K : PySem.W.Frag} {ad : List Addr} {H : Hp} {j : Nat} {ds : List D} {v : V} (S : StOk K ad H M) (r : RepA K ad H (.mut j) v) (hm : M[j]? = some (.lst ds)) : ∃ q xs, v = .ref q ∧ ad[j]? = some q ∧ H q = some (.lst xs) ∧ Reps K H ds xs := by
  obtain ⟨q, hq, e⟩ := r
  obtain ⟨a2, h2, xs, h3, rr⟩ := S.obj j _ hm
  rw [hq] at h2
  cases h2
  exact ⟨q, xs, e, hq, h3, rr⟩
/-- what a method does to a list of the store -/
def MetA (c : SC) (id : String) (j : Nat) (as : List AV) (M : List MO) (Post : AQ) : Prop :=
  ∀ (z : Dyn c) (H : Hp) (ad : List Addr), StOk c.K ad H M → ∀ v vs, RepA c.K ad H (.mut j) v → RepAs c.K ad H as vs → ∀ Q : VK,
    (∀ v H2 ad2 a M2, Nx ad H ad2 H2 → StOk c.K ad2 H2 M2 → RepA c.K ad2 H2 a v → Post a M2 → Q v H2) → wM z.cx id v vs H Q
theorem x_lm {name : Str} {apos : Pos} {o : Expr} (slot : Slot "list" name id) (hty : typeOf (.builtin id) = pure (.type "method_descriptor"))
    (h : EvX c δ M o fun v M1 => ∃ j ds, v = .mut j ∧ M1[j]? = some (.lst ds) ∧ EvA c δ M1 (e :: es) fun as M2 => MetA c id j as M2 Post)
    (hbase : ∀ env, attributeBase o name env (eval o env) = eval o env)
    (hfew : ∀ env, ((backTo pos (starEach (e :: es) env)).all (fun x => !x.1) && (backToKw pos (keywordEach [] env)).all (fun x => x.1.isSome) && decide ((e :: es).length + ([] : List Keyword).length + (if ([] : List Keyword).isEmpty then 0 else 1) < 30)) = true)
    (hline : (apos.endLine == pos.line) = true) (hst : ∀ env, starEach (e :: es) env = (false, eval e env) :: starEach es env) (hpl : ∀ env, (backTo pos (starEach es env)).any (·.1) = false) : EvX c δ M (.Call (.Attribute o name apos) (e :: es) [] pos) Post := fun y σ H ad he hs Q q =>
  ⟨_, pe_bm (X := y.cx) PySem.F.plainAttrs_list slot hty wM_ok wE_ok wA_ok (hbase y.env) (hfew y.env) hline (hst y.env) (hpl y.env), h y σ H ad he hs _ fun v H1 ad1 a1 M1 n1 s1 r1 ⟨j, ds, e1, hm, p1⟩ => by
    subst e1
    obtain ⟨qq, xs, rfl, hq, hx, rr⟩ := st_lst s1 r1 hm
    refine ⟨.inl ⟨rfl, xs, .inl (.inl hx)⟩, p1 y σ H1 ad1 (he.nx n1) s1 _ fun vs H2 ad2 as M2 n2 s2 r2 p2 => ?_⟩
    exact p2 y H2 ad2 s2 _ vs (r1.nx n2) r2 Q fun v3 H3 ad3 a3 M3 n3 s3 r3 p3 => q v3 H3 ad3 a3 M3 ((n1.trans n2).trans n3) s3 r3 p3⟩
theorem x_lm0 {name : Str} {apos : Pos} {o : Expr} (slot : Slot "list" name id) (hty : typeOf (.builtin id) = pure (.type "method_descriptor"))
    (h : EvX c δ M o fun v M1 => ∃ j ds, v = .mut j ∧ M1[j]? = some (.lst ds) ∧ MetA c id j [] M1 Post) (hbase : ∀ env, attributeBase o name env (eval o env) = eval o env) (hline : (apos.endLine == pos.line) = true) : EvX c δ M (.Call (.Attribute o name apos) [] [] pos) Post := fun y σ H ad he hs Q q =>
  ⟨_, pe_bm0 (X := y.cx) PySem.F.plainAttrs_list slot hty wM_ok wE_ok (hbase y.env) hline, h y σ H ad he hs _ fun v H1 ad1 a1 M1 n1 s1 r1 ⟨j, ds, e1, hm, p1⟩ => by
    subst e1
    obtain ⟨qq, xs, rfl, hq, hx, rr⟩ := st_lst s1 r1 hm
    exact ⟨.inl ⟨rfl, xs, .inl (.inl hx)⟩, p1 y H1 ad1 s1 _ [] r1 rfl Q fun v3 H3 ad3 a3 M3 n3 s3 r3 p3 => q v3 H3 ad3 a3 M3 (n1.trans n3) s3 r3 p3⟩⟩
theorem put_lst {K : PySem.W.Frag} {ad : List Addr} {H : Hp} {j : Nat} {q : Addr} {ds es : List D} {xs ys : List V} (S : StOk K ad H M) (hq : ad[j]? = some q) (hx : H q = some (.lst xs)) (r : Reps K H es ys) :
    StOk K ad (upd H q (.lst ys)) (M.set j (.lst es)) ∧ Nx ad H ad (upd H q (.lst ys)) := by
  have t : Tx H (upd H q (.lst ys)) := ⟨fun b zs e => by
    rw [upd_ne (ne_of e hx (by intro z; cases z))]
    exact e, fun b o u e => by
    rw [upd_ne (ne_of e hx (by intro z; cases z))]
    exact e, fun b φ e => by
    rw [upd_ne (ne_of e hx (by intro z; cases z))]
    exact e⟩
  exact S.put (m := .lst es) hq ⟨ys, upd_same, r.tx t⟩
theorem me_append {j : Nat} {d : D} {ds : List D} (hm : M[j]? = some (.lst ds)) (hl : ds.length < 1000000) (h : Post (.dat .non) (M.set j (.lst (ds ++ [d])))) : MetA c "list.append" j [.dat d] M Post := fun z H ad hs v vs rv r Q q => by
  obtain ⟨u, rfl, ru⟩ := repAs1 r
  obtain ⟨qq, xs, rfl, hq, hx, rr⟩ := st_lst hs rv hm
  obtain ⟨s2, n2⟩ := put_lst (ds := ds) (ys := xs ++ [u]) (es := ds ++ [d]) hs hq hx (rr.append ⟨u, [], rfl, ru, rfl⟩)
  refine ⟨_, mt_append, qq, xs, u, rfl, rfl, hx, ?_, q _ _ ad (.dat .non) _ n2 s2 rfl h⟩
  rw [rr.length]
  exact Nat.lt_trans hl (by decide)
theorem me_extend {j : Nat} {v : AV} {ds es : List D} (hm : M[j]? = some (.lst ds)) (hv : v = .ls es) (hl : ds.length + es.length ≤ 1000000) (h : Post (.dat .non) (M.set j (.lst (ds ++ es)))) : MetA c "list.extend" j [v] M Post := fun z H ad hs w vs rv r Q q => by
  subst hv
  obtain ⟨u, rfl, ru⟩ := repAs1 r
  obtain ⟨qq, xs, rfl, hq, hx, rr⟩ := st_lst hs rv hm
  obtain ⟨pp, ys, rfl, hy, ry⟩ := ru
  obtain ⟨s2, n2⟩ := put_lst (ds := ds) (ys := xs ++ ys) (es := ds ++ es) hs hq hx (rr.append ry)
  refine ⟨_, mt_extend, qq, pp, xs, ys, rfl, rfl, hx, hy.1, ?_, q _ _ ad (.dat .non) _ n2 s2 rfl h⟩
  rw [rr.length, ry.length]
  exact Nat.le_trans hl (by decide)
theorem me_pop {j : Nat} {ds : List D} {d : D} (hm : M[j]? = some (.lst ds)) (hd : ds[ds.length - 1]? = some d) (h : Post (.dat d) (M.set j (.lst ds.dropLast))) : MetA c "list.pop" j [] M Post := fun z H ad hs w vs rv r Q q => by
  have er : vs = [] := r
  subst er
  obtain ⟨qq, xs, rfl, hq, hx, rr⟩ := st_lst hs rv hm
  obtain ⟨v, hv, rv2⟩ := rr.get hd
  have rd : Reps c.K H ds.dropLast xs.dropLast := by
    rw [List.dropLast_eq_take, List.dropLast_eq_take, rr.length]
    exact rr.take _
  obtain ⟨s2, n2⟩ := put_lst (ds := ds) hs hq hx rd
  refine ⟨_, mt_pop, qq, xs, v, rfl, rfl, hx, by rw [rr.length]; exact hv, q _ _ ad (.dat d) _ n2 s2 (Rep.tx n2.tx rv2) h⟩
theorem me_popAt {j : Nat} {ds : List D} {d : D} {i : Nat} (hm : M[j]? = some (.lst ds)) (hd : ds[i]? = some d) (hl : ds.length ≤ 1000000) (h : Post (.dat d) (M.set j (.lst (ds.eraseIdx i)))) : MetA c "list.pop" j [.dat (.int (i : Nat))] M Post := fun z H ad hs w vs rv r Q q => by
  obtain ⟨u, rfl, ru⟩ := repAs1 r
  rw [show u = .int (i : Nat) from ru]
  obtain ⟨qq, xs, rfl, hq, hx, rr⟩ := st_lst hs rv hm
  obtain ⟨v, hv, rv2⟩ := rr.get hd
  obtain ⟨s2, n2⟩ := put_lst (ds := ds) hs hq hx (rr.erase i)
  have hi : i < ds.length := (List.getElem?_eq_some_iff.mp hd).1
  have hs1 : seqIndex? (i : Int) xs.length = some i := by
    have : ixN xs.length (i : Int) = some i := by
      unfold ixN
      rw [if_pos (by omega), if_pos (by rw [rr.length]; omega)]
      simp
    exact (ixN_seq this).1
  exact ⟨_, mt_popAt, qq, xs, i, i, v, rfl, rfl, hx, by omega, by omega, hs1, hv, q _ _ ad (.dat d) _ n2 s2 (Rep.tx n2.tx rv2) h⟩
/-- xs[i] = e -/
theorem s_put {D : AE} {o i : Expr} (h : EvX c δ M e fun v M1 => EvX c δ M1 o fun w M2 => EvX c δ M2 i fun u M3 => ∃ (d : Fx.D) (j : Nat) (ds : List Fx.D) (n : Nat), v = .dat d ∧ w = .mut j ∧ u = .dat (.int (n : Nat)) ∧ M3[j]? = some (.lst ds) ∧ n < ds.length ∧ D.nx δ (M3.set j (.lst (ds.set n d))))
    (hs1 : ∀ env, swapsWithSole [.Subscript o i p] e pos.line env = pure false) (hw : ∀ env, swappedStores [.Subscript o i p] e env = pure none) (h1 : ∀ env, (assignEach [.Subscript o i p] env).map (·.2) = [assign (.Subscript o i p) env])
    (ha : ∀ (env : Env) v, assign (.Subscript o i p) env v = (do
      let ov ← holding [v] (eval o env)
      let iv ← holding [v, ov] (eval i env)
      standAt p
      holding [v, ov, iv] (setItem ov iv v)
      release [v, ov, iv] [])) : Run1 c δ M (.Assign [.Subscript o i p] e pos) D := fun y σ H ad he hs E q =>
  ⟨_, ps_asg wE_ok (pg_sub wE_ok wE_ok set_list (ha y.env)) (hs1 y.env) (hw y.env) (h1 y.env), h y σ H ad he hs _ fun v H1 ad1 a1 M1 n1 s1 r1 p1 => p1 y σ H1 ad1 (he.nx n1) s1 _ fun w H2 ad2 a2 M2 n2 s2 r2 p2 => p2 y σ H2 ad2 (he.nx (n1.trans n2)) s2 _ fun u H3 ad3 a3 M3 n3 s3 r3 ⟨d, j, ds, n, e1, e2, e3, hm, hn, p3⟩ => by
    subst e1 e2 e3
    have n13 := (n1.trans n2).trans n3
    obtain ⟨qq, xs, rfl, hq, hx, rr⟩ := st_lst s3 (r2.nx n3) hm
    obtain ⟨s4, n4⟩ := put_lst (ds := ds) (ys := xs.set n v) s3 hq hx (rr.set (Rep.tx (n2.tx.trans n3.tx) r1) n)
    refine ⟨qq, xs, n, n, rfl, r3, hx, ?_, q.nx σ _ ad3 δ _ (n13.trans n4) (he.nx (n13.trans n4)) s4 p3⟩
    unfold ixN
    rw [if_pos (by omega), if_pos (by rw [rr.length]; omega)]
    simp⟩
end

/-! ### names by their places, found by themselves -/
class VarAt (N : List Str) (x : Str) (i : outParam Nat) : Prop where
  get : N[i]? = some x
instance varAt_here {x : Str} {r : List Str} : VarAt (x :: r) x 0 := ⟨rfl⟩
instance (priority := low) varAt_next {x y : Str} {r : List Str} {i : Nat} [h : VarAt r x i] : VarAt (y :: r) x (i + 1) := ⟨h.get⟩
def namesB (N : List Str) : Bool := decide N.Nodup && N.all fun x => !(x == ("__debug__" : Str)) && !(x == ("__classdict__" : Str))
class NamesOk (N : List Str) : Prop where
  ok : namesB N = true
theorem NamesOk.nd {N : List Str} (h : NamesOk N) : N.Nodup := by
  have := h.ok
  unfold namesB at this
  rw [Bool.and_eq_true] at this
  exact of_decide_eq_true this.1
theorem NamesOk.at_ {N : List Str} (h : NamesOk N) {i : Nat} {x : Str} (e : N[i]? = some x) : (x == ("__debug__" : Str)) = false ∧ (x == ("__classdict__" : Str)) = false := by
  have := h.ok
  unfold namesB at this
  rw [Bool.and_eq_true, List.all_eq_true] at this
  have q := this.2 x (List.mem_of_getElem? e)
  rw [Bool.and_eq_true] at q
  exact ⟨by simpa using q.1, by simpa using q.2⟩
section
variable {c : SC} {δ : Dl} {M : List MO} {Post : AQ} {e : Expr} {pos p : Pos} {x : Str} {i : Nat}
theorem x_v {a : AV} [hN : VarAt c.N x i] [hk : NamesOk c.N] (hd : δ[i]? = some (some a)) (hv : Vis c.sc x) (h : Post a M) : EvX c δ M (.Name x pos) Post := x_var i hd hN.get hv h (hk.at_ hN.get).1 (hk.at_ hN.get).2
theorem g_n {a : AV} {Pg : Dl → Prop} [hN : VarAt c.N x i] [hk : NamesOk c.N] (hx : Loc c.sc x) (hf : c.fn x = true ∨ c.sc.names.lookup x = some .local) (h : Pg (δ.set i (some a))) : EvG c δ (.Name x pos) [i] a Pg := g_name i hN.get hk.nd hx hf h
theorem gx_n {a : AV} {Pg : Dl → Prop} [hN : VarAt c.N x i] [hk : NamesOk c.N] (hx : Loc c.sc x) (hf : c.fn x = true ∨ c.sc.names.lookup x = some .local) (h : Pg (δ.set i (some a))) : EvGx c δ (.Name x pos) a Pg := ⟨[i], g_n hx hf h⟩
theorem gx_2 {y : Str} {j k : Nat} {q1 q2 : Pos} {a b : D} {Pg : Dl → Prop} [hN : VarAt c.N x i] [hN2 : VarAt c.N y j] [hk : NamesOk c.N] (hx : Loc c.sc x) (hf : c.fn x = true ∨ c.sc.names.lookup x = some .local) (hx2 : Loc c.sc y) (hf2 : c.fn y = true ∨ c.sc.names.lookup y = some .local)
    (h : Pg ((δ.set i (some (.dat a))).set j (some (.dat b)))) : EvGx c δ (.Tuple [.Name x q1, .Name y q2] k pos) (.dat (.tup [a, b])) Pg :=
  ⟨[i] ++ ([j] ++ []), g_tup (gs_cons (g_n hx hf (gs_cons (g_n hx2 hf2 (gs_nil h)) (fun _ => rfl))) (fun _ => rfl)) (fun _ => rfl) (fun _ => rfl)⟩
theorem lt_n {elt : Expr} {ifs : List Expr} {vs : List Nat} {d : D} {yes : D → List MO → Prop} {no : List MO → Prop} [hN : VarAt c.N x i] [hk : NamesOk c.N] (hi : i ∈ vs) (hx : Loc c.sc x) (hf : c.fn x = true ∨ c.sc.names.lookup x = some .local)
    (h : EvTs c (δ.set i (some (.dat d))) M ifs fun k M3 => (k = true → EvX c (δ.set i (some (.dat d))) M3 elt fun a M4 => ∃ d', a = .dat d' ∧ yes d' M4) ∧ (k = false → no M3)) : LcTurn c δ (.Name x pos) elt ifs vs d M yes no :=
  ⟨[i], fun k hk => by rw [List.mem_singleton.mp hk]; exact hi, g_n hx hf h⟩
theorem lt_2 {elt : Expr} {ifs : List Expr} {vs : List Nat} {y : Str} {j k : Nat} {q1 q2 : Pos} {a b : D} {yes : D → List MO → Prop} {no : List MO → Prop} [hN : VarAt c.N x i] [hN2 : VarAt c.N y j] [hk : NamesOk c.N] (hi : i ∈ vs) (hj : j ∈ vs) (hx : Loc c.sc x) (hf : c.fn x = true ∨ c.sc.names.lookup x = some .local)
    (hx2 : Loc c.sc y) (hf2 : c.fn y = true ∨ c.sc.names.lookup y = some .local)
    (h : EvTs c ((δ.set i (some (.dat a))).set j (some (.dat b))) M ifs fun k M3 => (k = true → EvX c ((δ.set i (some (.dat a))).set j (some (.dat b))) M3 elt fun a M4 => ∃ d', a = .dat d' ∧ yes d' M4) ∧ (k = false → no M3)) :
    LcTurn c δ (.Tuple [.Name x q1, .Name y q2] k pos) elt ifs vs (.tup [a, b]) M yes no :=
  ⟨[i] ++ ([j] ++ []), fun z hz => by
    rcases List.mem_cons.mp hz with rfl | hz
    · exact hi
    · rw [List.mem_singleton.mp hz]
      exact hj, g_tup (gs_cons (g_n hx hf (gs_cons (g_n hx2 hf2 (gs_nil h)) (fun _ => rfl))) (fun _ => rfl)) (fun _ => rfl) (fun _ => rfl)⟩
theorem s_st {D : AE} [hN : VarAt c.N x i] [hk : NamesOk c.N] (hx : Loc c.sc x) (hf : c.fn x = true ∨ c.sc.names.lookup x = some .local) (h : EvX c δ M e fun a M1 => D.nx (δ.set i (some a)) M1)
    (hs1 : ∀ env, swapsWith e (some (.Name x p)) pos.line env = pure false) : Run1 c δ M (.Assign [.Name x p] e pos) D := s_set i hN.get hk.nd hx hf h hs1
theorem s_nw {D : AE} [hN : VarAt c.N x i] [hk : NamesOk c.N] (hx : Loc c.sc x) (hf : c.fn x = true ∨ c.sc.names.lookup x = some .local) (h : EvF c δ M e fun ds M1 => D.nx (δ.set i (some (.mut M1.length))) (M1 ++ [.lst ds]))
    (hs1 : ∀ env, swapsWith e (some (.Name x p)) pos.line env = pure false) : Run1 c δ M (.Assign [.Name x p] e pos) D := s_new i hN.get hk.nd hx hf h hs1
theorem s_ag {D : AE} {op : Operator} {v : AV} [hN : VarAt c.N x i] [hk : NamesOk c.N] (hx : Loc c.sc x) (hf : c.fn x = true ∨ c.sc.names.lookup x = some .local) (hv : δ[i]? = some (some v))
    (h : EvX c δ M e fun a M1 => BinR c (inplaceOp op) v a M1 fun r M2 => D.nx (δ.set i (some r)) M2) : Run1 c δ M (.AugAssign (.Name x p) op e pos) D := s_aug i hN.get hk.nd hx hf hv h
theorem b_iadd {i j : Int} (h : Post (.dat (.int (i + j))) M) : BinR c (inplaceOp .Add) (.dat (.int i)) (.dat (.int j)) M Post := b_int0 (fun _ => iop_add) h
theorem b_isub {i j : Int} (h : Post (.dat (.int (i - j))) M) : BinR c (inplaceOp .Sub) (.dat (.int i)) (.dat (.int j)) M Post := b_int0 (fun _ => iop_sub) h
theorem b_imul {i j : Int} (hc : CMul i j) (h : Post (.dat (.int (i * j))) M) : BinR c (inplaceOp .Mult) (.dat (.int i)) (.dat (.int j)) M Post := b_int (fun _ => iop_mul) hc h
end

section
variable {M : List MO} {Q : D → Prop}
theorem ix_tup {ds : List D} {i : Int} {d : D} (h : atI ds i = some d) (k : Q d) : ∃ i', (AV.dat (.int i)) = .dat (.int i') ∧ IxA M (.dat (.tup ds)) i' Q := ⟨i, rfl, .inl ⟨ds, d, isS_tup, h, k⟩⟩
theorem ix_ls {ds : List D} {i : Int} {d : D} (h : atI ds i = some d) (k : Q d) : ∃ i', (AV.dat (.int i)) = .dat (.int i') ∧ IxA M (.ls ds) i' Q := ⟨i, rfl, .inl ⟨ds, d, isS_ls, h, k⟩⟩
theorem ix_mut {j : Nat} {ds : List D} {i : Int} {d : D} (hm : M[j]? = some (.lst ds)) (h : atI ds i = some d) (k : Q d) : ∃ i', (AV.dat (.int i)) = .dat (.int i') ∧ IxA M (.mut j) i' Q := ⟨i, rfl, .inl ⟨ds, d, isS_mut hm, h, k⟩⟩
theorem atI_at {ds : List D} {i : Int} {n : Nat} {d : D} (e : i = (n : Int)) (h : ds[n]? = some d) : atI ds i = some d := by
  rw [e]
  exact atI_nat h
end
section
variable {c : SC} {M : List MO} {Post : AQ}
theorem IsL.at_ {K : PySem.W.Frag} {ad : List Addr} {H : Hp} {a : AV} {ds : List D} {v : V} (h : IsL M a ds) (S : StOk K ad H M) (r : RepA K ad H a v) : ∃ p xs, v = .ref p ∧ H p = some (.lst xs) ∧ Reps K H ds xs := by
  rcases h with rfl | ⟨j, rfl, hm⟩
  · obtain ⟨p, xs, e, q, rr⟩ := r
    exact ⟨p, xs, e, q.1, rr⟩
  · obtain ⟨p, q, e⟩ := r
    obtain ⟨a2, h2, xs, h3, rr⟩ := S.obj j _ hm
    rw [q] at h2
    cases h2
    exact ⟨p, xs, e, h3, rr⟩
/-- xs + ys -/
theorem b_catL {x y : AV} {ds es : List D} (hx : IsL M x ds) (hy : IsL M y es) (hl : ds.length + es.length ≤ 1000000) (h : Post (.ls (ds ++ es)) M) : BinR c (binaryOp .Add) x y M Post := fun z H ad hs vx vy rx ry Q q => by
  obtain ⟨p, xs, rfl, h1, r1⟩ := hx.at_ hs rx
  obtain ⟨p2, ys, rfl, h2, r2⟩ := hy.at_ hs ry
  refine ⟨_, op_cat, p, p2, xs, ys, rfl, rfl, h1, h2, by rw [r1.length, r2.length]; exact Nat.le_trans hl (by decide), fun n hn => ?_⟩
  have sm := same_new (o := .lst (xs ++ ys)) hn
  exact q _ _ ad (.ls (ds ++ es)) M (Nx.same sm) (hs.same sm) ⟨n, _, rfl, ⟨upd_same, hs.free hn⟩, (r1.append r2).tx (Tx.same sm)⟩ h
/-- xs * n -/
theorem b_repL {x : AV} {ds : List D} {n : Int} (hx : IsL M x ds) (h0 : 0 ≤ n) (hn : n ≤ 1000) (hl : ds.length ≤ 1000) (h : Post (.ls (List.replicate n.toNat ds).flatten) M) : BinR c (binaryOp .Mult) x (.dat (.int n)) M Post := fun z H ad hs vx vy rx ry Q q => by
  obtain ⟨p, xs, rfl, h1, r1⟩ := hx.at_ hs rx
  have hm : xs.length * n.toNat ≤ 1000 * 1000 := Nat.mul_le_mul (by rw [r1.length]; exact hl) (by omega)
  refine ⟨_, op_rep, p, n, xs, rfl, ry, h1, by omega, by omega, Nat.le_trans hm (by decide), fun n2 hn2 => ?_⟩
  have sm := same_new (o := .lst (List.replicate n.toNat xs).flatten) hn2
  have rr : ∀ k : Nat, Reps c.K H (List.replicate k ds).flatten (List.replicate k xs).flatten := by
    intro k
    induction k with
    | zero => rfl
    | succ k ih =>
      rw [List.replicate_succ, List.replicate_succ, List.flatten_cons, List.flatten_cons]
      exact r1.append ih
  exact q _ _ ad (.ls _) M (Nx.same sm) (hs.same sm) ⟨n2, _, rfl, ⟨upd_same, hs.free hn2⟩, (rr _).tx (Tx.same sm)⟩ h
end
theorem get_push {α : Type} {M : List α} {x : α} : (M ++ [x])[M.length]? = some x := by
  rw [List.getElem?_append_right (Nat.le_refl _), Nat.sub_self]
  rfl
theorem set_push {α : Type} {M : List α} {x y : α} : (M ++ [x]).set M.length y = M ++ [y] := by
  rw [List.set_append_right _ _ (Nat.le_refl _), Nat.sub_self]
  rfl
end Fx

/-! Fx, part E: tickets and books as data; the law's own draws. -/
namespace Fx
open PySem L2
def tI (ns : List Int) : D := .tup (ns.map D.int)
def tII (b : List (List Int)) : D := .tup (b.map tI)
def rg (lo hi : Int) : List Int := (List.range (hi - lo).toNat).map fun i => lo + (i : Nat)
theorem rgD_eq (lo hi : Int) : rgD lo hi = (rg lo hi).map D.int := by
  unfold rgD rg
  rw [List.map_map]
  rfl
theorem rg0_map (n : Int) : rg0 n = (rg 0 n).map D.int := by rw [rg0_eq, rgD_eq]
theorem rg_len (lo hi : Int) : (rg lo hi).length = (hi - lo).toNat := by unfold rg; rw [List.length_map, List.length_range]
theorem rg_mem {lo hi x : Int} : x ∈ rg lo hi ↔ lo ≤ x ∧ x < hi := by
  unfold rg
  rw [List.mem_map]
  constructor
  · rintro ⟨i, hi, rfl⟩
    rw [List.mem_range] at hi
    omega
  · rintro ⟨h1, h2⟩
    exact ⟨(x - lo).toNat, by rw [List.mem_range]; omega, by omega⟩
/-- a def that changes nothing of the store -/
def pureA (R : List AV → AV → Prop) : ASp := fun as M Post => ∃ r, R as r ∧ Post r M
theorem isEmpty_map' {α β : Type} (f : α → β) (xs : List α) : (xs.map f).isEmpty = xs.isEmpty := by cases xs <;> rfl

/-! ### the law's town: {'count': .., 'rests': {..}} -/
theorem sCR : ¬ (("count" : Str) = "rests") := by decide +kernel
theorem sRC : ¬ (("rests" : Str) = "count") := by decide +kernel
section
variable {c : SC} {δ : Dl} {M : List MO} {Post : AQ} {a b e f o : Expr} {pos p p1 p2 : Pos} {jj jk : Nat}
theorem val_count {u v : V} : valV [((Sum.inr "count" : Key), u), (Sum.inr "rests", v)] (Sum.inr "count") = some u := by
  unfold valV
  rw [List.find?_cons_of_pos (by simp)]
  rfl
theorem val_rests {u v : V} : valV [((Sum.inr "count" : Key), u), (Sum.inr "rests", v)] (Sum.inr "rests") = some v := by
  unfold valV
  rw [List.find?_cons_of_neg (by simp [sCR]), List.find?_cons_of_pos (by simp)]
  rfl
theorem put_count {u v w : V} : putK [((Sum.inr "count" : Key), u), (Sum.inr "rests", v)] (Sum.inr "count") w = [((Sum.inr "count" : Key), w), (Sum.inr "rests", v)] := by
  unfold putK
  rw [if_pos (by simp)]
  simp [sRC]
theorem st_town {K : PySem.W.Frag} {ad : List Addr} {H : Hp} {j i : Nat} {v : V} (S : StOk K ad H M) (r : RepA K ad H (.mut j) v) (hm : M[j]? = some (.town i)) :
    ∃ q b n, v = .ref q ∧ ad[j]? = some q ∧ ad[i]? = some b ∧ H q = some (.dK [(Sum.inr "count", V.int n), (Sum.inr "rests", V.ref b)]) := by
  obtain ⟨q, hq, e⟩ := r
  obtain ⟨a2, h2, n, b, h3, h4⟩ := S.obj j _ hm
  rw [hq] at h2
  cases h2
  exact ⟨q, b, n, e, hq, h3, h4⟩
theorem st_rests {K : PySem.W.Frag} {ad : List Addr} {H : Hp} {j : Nat} {v : V} (S : StOk K ad H M) (r : RepA K ad H (.mut j) v) (hm : M[j]? = some .rests) : ∃ q kvs, v = .ref q ∧ ad[j]? = some q ∧ H q = some (.dK kvs) ∧ RestOk kvs := by
  obtain ⟨q, hq, e⟩ := r
  obtain ⟨a2, h2, kvs, h3, h4⟩ := S.obj j _ hm
  rw [hq] at h2
  cases h2
  exact ⟨q, kvs, e, hq, h3, h4⟩
/-- town['count'] -/
theorem x_count (h : EvX c δ M o fun v M1 => ∃ j i, v = .mut j ∧ M1[j]? = some (.town i) ∧ ∀ n : Int, Post (.dat (.int n)) M1) : EvX c δ M (.Subscript o (.Constant (.str "count") jj p) pos) Post := fun y σ H ad he hs Q q =>
  ⟨_, pe_dget (X := y.cx) (hu_of y.room) wE_ok pe_str (fun _ _ => rfl), h y σ H ad he hs _ fun v H1 ad1 a1 M1 n1 s1 r1 ⟨j, i, e1, hm, p1⟩ => by
    subst e1
    obtain ⟨qq, bb, n, rfl, hq, hb, hH⟩ := st_town s1 r1 hm
    exact ⟨qq, V.int n, rfl, by rw [← val_count (u := V.int n) (v := V.ref bb)]; exact DGet.k (k := Sum.inr "count") hH, q _ H1 ad1 (.dat (.int n)) M1 n1 s1 rfl (p1 n)⟩⟩
/-- town['rests'] -/
theorem x_rests (h : EvX c δ M o fun v M1 => ∃ j i, v = .mut j ∧ M1[j]? = some (.town i) ∧ Post (.mut i) M1) : EvX c δ M (.Subscript o (.Constant (.str "rests") jj p) pos) Post := fun y σ H ad he hs Q q =>
  ⟨_, pe_dget (X := y.cx) (hu_of y.room) wE_ok pe_str (fun _ _ => rfl), h y σ H ad he hs _ fun v H1 ad1 a1 M1 n1 s1 r1 ⟨j, i, e1, hm, p1⟩ => by
    subst e1
    obtain ⟨qq, bb, n, rfl, hq, hb, hH⟩ := st_town s1 r1 hm
    exact ⟨qq, V.ref bb, rfl, by rw [← val_rests (u := V.int n) (v := V.ref bb)]; exact DGet.k (k := Sum.inr "rests") hH, q _ H1 ad1 (.mut i) M1 n1 s1 ⟨bb, hb, rfl⟩ p1⟩⟩
theorem set_same {α : Type} {l : List α} {j : Nat} {x : α} (h : l[j]? = some x) : l.set j x = l := by
  apply List.ext_getElem?
  intro i
  by_cases e : j = i
  · subst e
    rw [List.getElem?_set_self (List.getElem?_eq_some_iff.mp h).1, h]
  · rw [List.getElem?_set_ne e]
/-- town['count'] = e -/
theorem s_count {D : AE} (h : EvX c δ M e fun w M1 => EvX c δ M1 o fun v M2 => ∃ (n : Int) (j i : Nat), w = .dat (.int n) ∧ v = .mut j ∧ M2[j]? = some (.town i) ∧ D.nx δ M2)
    (hs1 : ∀ env, swapsWith e (some (.Subscript o (.Constant (.str "count") jj p) p1)) pos.line env = pure false) : Run1 c δ M (.Assign [.Subscript o (.Constant (.str "count") jj p) p1] e pos) D := fun y σ H ad he hs E q =>
  ⟨_, ps_dput (X := y.cx) (hu_of y.room) wE_ok pe_str wE_ok (hs1 y.env), h y σ H ad he hs _ fun w H1 ad1 a1 M1 n1 s1 r1 p1 => p1 y σ H1 ad1 (he.nx n1) s1 _ fun v H2 ad2 a2 M2 n2 s2 r2 ⟨n, j, i, e1, e2, hm, p2⟩ => by
    subst e1 e2
    obtain ⟨qq, bb, n0, rfl, hq, hb, hH⟩ := st_town s2 r2 hm
    obtain rfl : w = V.int n := r1
    obtain ⟨s3, n3⟩ := s2.put (m := .town i) (o := .dK [(Sum.inr "count", V.int n), (Sum.inr "rests", V.ref bb)]) hq ⟨n, bb, hb, upd_same⟩
    rw [set_same hm] at s3
    refine ⟨qq, _, rfl, DPut.k (k := Sum.inr "count") hH (by show 2 < sizeLine; decide), ?_⟩
    rw [put_count]
    exact q.nx σ _ ad2 δ M2 ((n1.trans n2).trans n3) (he.nx ((n1.trans n2).trans n3)) s3 p2⟩
theorem rest_val {kvs : List (Key × V)} (h : RestOk kvs) {k : Key} {v : V} (e : valV kvs k = some v) : ∃ n : Int, v = V.int n := by
  unfold valV at e
  cases q : kvs.find? fun kv => decide (kv.1 = k) with
  | none => rw [q] at e; cases e
  | some kv =>
    rw [q] at e
    obtain ⟨i, n, ek, _⟩ := h.2 kv (List.mem_of_find?_eq_some q)
    subst ek
    exact ⟨n, (Option.some.inj e).symm⟩
theorem putK_keys (kvs : List (Key × V)) (k : Key) (v : V) : (putK kvs k v).map (·.1) = if (kvs.any fun kv => decide (kv.1 = k)) = true then kvs.map (·.1) else kvs.map (·.1) ++ [k] := by
  unfold putK
  by_cases hc : (kvs.any fun kv => decide (kv.1 = k)) = true
  · rw [if_pos hc, if_pos hc, List.map_map]
    apply List.map_congr_left
    intro p _
    show (if p.1 = k then (p.1, v) else p).1 = p.1
    split <;> rfl
  · rw [if_neg hc, if_neg hc, List.map_append]
    rfl
theorem rest_put {kvs : List (Key × V)} (h : RestOk kvs) {i n : Int} (h0 : 0 ≤ i) (h1 : i < 63) : RestOk (putK kvs (Sum.inl i) (V.int n)) := by
  refine ⟨?_, fun p hp => ?_⟩
  · rw [putK_keys]
    split
    · exact h.1
    · rename_i hc
      rw [List.nodup_append]
      refine ⟨h.1, List.nodup_cons.mpr ⟨List.not_mem_nil, List.nodup_nil⟩, fun x hx y hy e => hc ?_⟩
      rw [List.mem_singleton.mp hy] at e
      subst e
      obtain ⟨q, hq, e2⟩ := List.mem_map.mp hx
      rw [List.any_eq_true]
      exact ⟨q, hq, decide_eq_true e2⟩
  · unfold putK at hp
    split at hp
    · obtain ⟨q, hq, e⟩ := List.mem_map.mp hp
      obtain ⟨i2, n2, e2, b1, b2⟩ := h.2 q hq
      by_cases hk : q.1 = Sum.inl i
      · rw [if_pos hk] at e
        rw [e2] at e hk
        have : i2 = i := Sum.inl.inj hk
        subst this
        exact ⟨i2, n, e.symm, b1, b2⟩
      · rw [if_neg hk] at e
        exact ⟨i2, n2, by rw [← e]; exact e2, b1, b2⟩
    · rcases List.mem_append.mp hp with hp | hp
      · exact h.2 p hp
      · rw [List.mem_singleton.mp hp]
        exact ⟨i, n, rfl, h0, h1⟩
theorem nodup_len {α : Type} [DecidableEq α] : ∀ (l m : List α), l.Nodup → (∀ x ∈ l, x ∈ m) → l.length ≤ m.length
  | [], m, _, _ => Nat.zero_le _
  | a :: l, m, hn, hs => by
    have ha := hs a List.mem_cons_self
    obtain ⟨h1, h2⟩ := List.nodup_cons.mp hn
    have ih := nodup_len l (m.erase a) h2 fun x hx => (List.mem_erase_of_ne (fun e => h1 (by rw [← e]; exact hx))).mpr (hs x (List.mem_cons_of_mem _ hx))
    rw [List.length_erase_of_mem ha] at ih
    have : 0 < m.length := List.length_pos_of_mem ha
    rw [List.length_cons]
    omega
theorem rest_len {kvs : List (Key × V)} (h : RestOk kvs) : kvs.length < sizeLine := by
  have sub : ∀ x ∈ kvs.map (·.1), x ∈ (List.range 63).map fun (i : Nat) => (Sum.inl (i : Int) : Key) := by
    intro x hx
    obtain ⟨q, hq, e⟩ := List.mem_map.mp hx
    obtain ⟨i, n, e2, b1, b2⟩ := h.2 q hq
    rw [e2] at e
    rw [← e]
    exact List.mem_map.mpr ⟨i.toNat, List.mem_range.mpr (by omega), by show (Sum.inl ((i.toNat : Nat) : Int) : Key) = Sum.inl i; rw [Int.toNat_of_nonneg b1]⟩
  have hl := nodup_len _ _ h.1 sub
  rw [List.length_map, List.length_map, List.length_range] at hl
  have : sizeLine = 16777216 := sizeLine_eq
  omega
/-- town['rests'].get(at, e) -/
theorem x_rget (h : EvX c δ M o fun v M1 => ∃ j, v = .mut j ∧ M1[j]? = some .rests ∧ EvX c δ M1 e fun w M2 => EvX c δ M2 f fun u M3 => ∃ i n : Int, w = .dat (.int i) ∧ u = .dat (.int n) ∧ M3[j]? = some .rests ∧ ∀ m : Int, Post (.dat (.int m)) M3)
    (hM : ∀ X : Cx, M2 X o "get" p e f pos) : EvX c δ M (.Call (.Attribute o "get" p) [e, f] [] pos) Post := fun y σ H ad he hs Q q =>
  ⟨_, pe_dget2 (X := y.cx) (hu_of y.room) wE_ok wE_ok wE_ok (hM y.cx), h y σ H ad he hs _ fun v H1 ad1 a1 M1 n1 s1 r1 ⟨j, e1, hm, p1⟩ => by
    subst e1
    obtain ⟨qq, kvs, rfl, hq, hH, ok⟩ := st_rests s1 r1 hm
    refine ⟨qq, rfl, .inl ⟨kvs, .inl hH⟩, p1 y σ H1 ad1 (he.nx n1) s1 _ fun w H2 ad2 a2 M2 n2 s2 r2 p2 => p2 y σ H2 ad2 (he.nx (n1.trans n2)) s2 _ fun u H3 ad3 a3 M3 n3 s3 r3 ⟨i, n, e2, e3, hm3, p3⟩ => ?_⟩
    subst e2 e3
    obtain ⟨q2, kvs2, e4, hq2, hH2, ok2⟩ := st_rests s3 ((r1.nx n2).nx n3) hm3
    cases e4
    have n13 := (n1.trans n2).trans n3
    obtain rfl : w = V.int i := r2
    obtain rfl : u = V.int n := r3
    refine ⟨valV kvs2 (Sum.inl i), DGet.k (k := Sum.inl i) hH2, ?_⟩
    cases z : valV kvs2 (Sum.inl i) with
    | none => exact q _ H3 ad3 (.dat (.int n)) M3 n13 s3 rfl (p3 n)
    | some w =>
      obtain ⟨m, rfl⟩ := rest_val ok2 z
      exact q _ H3 ad3 (.dat (.int m)) M3 n13 s3 rfl (p3 m)⟩
/-- town['rests'][at] = e -/
theorem s_rput {D : AE} (h : EvX c δ M e fun w M1 => EvX c δ M1 o fun v M2 => EvX c δ M2 f fun u M3 => ∃ (n i : Int) (j : Nat), w = .dat (.int n) ∧ v = .mut j ∧ u = .dat (.int i) ∧ M3[j]? = some .rests ∧ 0 ≤ i ∧ i < 63 ∧ D.nx δ M3)
    (hs1 : ∀ env, swapsWith e (some (.Subscript o f p1)) pos.line env = pure false) : Run1 c δ M (.Assign [.Subscript o f p1] e pos) D := fun y σ H ad he hs E q =>
  ⟨_, ps_dput (X := y.cx) (hu_of y.room) wE_ok wE_ok wE_ok (hs1 y.env), h y σ H ad he hs _ fun w H1 ad1 a1 M1 n1 s1 r1 p1 => p1 y σ H1 ad1 (he.nx n1) s1 _ fun v H2 ad2 a2 M2 n2 s2 r2 p2 => p2 y σ H2 ad2 (he.nx (n1.trans n2)) s2 _ fun u H3 ad3 a3 M3 n3 s3 r3 ⟨n, i, j, e1, e2, e3, hm, b0, b1, p3⟩ => by
    subst e1 e2 e3
    obtain ⟨qq, kvs, rfl, hq, hH, ok⟩ := st_rests s3 (r2.nx n3) hm
    obtain rfl : w = V.int n := r1
    obtain rfl : u = V.int i := r3
    obtain ⟨s4, n4⟩ := s3.put (m := .rests) (o := .dK (putK kvs (Sum.inl i) (V.int n))) hq ⟨_, upd_same, rest_put ok b0 b1⟩
    rw [set_same hm] at s4
    have n14 := ((n1.trans n2).trans n3).trans n4
    exact ⟨qq, _, rfl, DPut.k (k := Sum.inl i) hH (rest_len ok), q.nx σ _ ad3 δ M3 n14 (he.nx n14) s4 p3⟩⟩
/-- {'count': 0, 'rests': {}} -/
theorem x_begun {j1 j2 j3 : Nat} {q1 q2 q3 q4 : Pos} (h : Post (.mut M.length) (M ++ [.town (M.length + 1), .rests])) :
    EvX c δ M (.Dict [some (.Constant (.str "count") j1 q1), some (.Constant (.str "rests") j2 q2)] [.Constant (.int 0) j3 q3, .Dict [] [] q4] pos) Post := fun y σ H ad he hs Q q =>
  ⟨_, pe_disp (X := y.cx) (pps_cons pe_str pe_int (pps_cons pe_str pe_dnewK pps_nil)) (by rfl) (by rfl) (fun z => by cases z) (Nat.le_of_ble_eq_true rfl), fun p1 h1 p2 h2 => by
    have ne : p2 ≠ p1 := fun e => by
      rw [e, upd_same] at h2
      cases h2
    have h20 : H p2 = none := by
      rw [upd_ne ne] at h2
      exact h2
    refine ⟨by rw [upd_ne ne.symm, upd_same], [(Sum.inr "count", V.int 0), (Sum.inr "rests", V.ref p2)], rfl, Nat.le_of_ble_eq_true rfl, ?_⟩
    have em : mergeK [] [((Sum.inr "count" : Key), V.int 0), (Sum.inr "rests", V.ref p2)] = [((Sum.inr "count" : Key), V.int 0), (Sum.inr "rests", V.ref p2)] := by
      show putK (putK [] (Sum.inr "count" : Key) (V.int 0)) (Sum.inr "rests" : Key) (V.ref p2) = _
      unfold putK
      simp [sCR]
    rw [em]
    have sm : Same H (upd (upd (upd H p1 (.dK [])) p2 (.dK [])) p1 (.dK [(Sum.inr "count", V.int 0), (Sum.inr "rests", V.ref p2)])) := fun b o e => by
      rw [upd_ne (ne_of_none e h1), upd_ne (ne_of_none e h20), upd_ne (ne_of_none e h1)]
      exact e
    have S1 := hs.same sm
    have f1 := hs.free h1
    have f2 := hs.free h20
    have l1 : ad.length = M.length := hs.len
    have S3 : StOk c.K (ad ++ [p1, p2]) (upd (upd (upd H p1 (.dK [])) p2 (.dK [])) p1 (.dK [(Sum.inr "count", V.int 0), (Sum.inr "rests", V.ref p2)])) (M ++ [.town (M.length + 1), .rests]) := by
      have g : ∀ (i : Nat) (b : Addr), ad[i]? = some b → (ad ++ [p1, p2])[i]? = some b := fun i b z => by
        rw [List.getElem?_append_left (List.getElem?_eq_some_iff.mp z).1]
        exact z
      refine ⟨?_, by rw [List.length_append, List.length_append, l1]; rfl, fun j m e => ?_⟩
      · rw [List.nodup_append]
        refine ⟨hs.nd, List.nodup_cons.mpr ⟨fun z => ne (List.mem_singleton.mp z).symm, List.nodup_cons.mpr ⟨List.not_mem_nil, List.nodup_nil⟩⟩, fun a ha b hb z => ?_⟩
        subst z
        rcases List.mem_cons.mp hb with z | z
        · exact f1 (by rw [← z]; exact ha)
        · exact f2 (by rw [← List.mem_singleton.mp z]; exact ha)
      · by_cases hj : j < M.length
        · rw [List.getElem?_append_left hj] at e
          obtain ⟨a, ha, o⟩ := S1.obj j m e
          exact ⟨a, g j a ha, o.nx' g (Tx.refl _) fun _ z => z⟩
        · rw [List.getElem?_append_right (by omega)] at e
          have hlt := (List.getElem?_eq_some_iff.mp e).1
          have h2l : ([MO.town (M.length + 1), MO.rests] : List MO).length = 2 := rfl
          rw [h2l] at hlt
          have gg : ∀ i, i < 2 → (ad ++ [p1, p2])[M.length + i]? = [p1, p2][i]? := fun i _ => by
            rw [List.getElem?_append_right (by omega)]
            congr 1
            omega
          have hjj : j = M.length ∨ j = M.length + 1 := by omega
          rcases hjj with rfl | rfl
          · rw [Nat.sub_self] at e
            cases e
            exact ⟨p1, by have := gg 0 (by omega); rw [Nat.add_zero] at this; exact this, 0, p2, gg 1 (by omega), upd_same⟩
          · rw [show M.length + 1 - M.length = 1 by omega] at e
            cases e
            exact ⟨p2, gg 1 (by omega), [], by rw [upd_ne ne, upd_same], List.nodup_nil, fun p hp => by cases hp⟩
    refine q _ _ (ad ++ [p1, p2]) (.mut M.length) _ ⟨⟨[p1, p2], rfl⟩, fun a ha hn => ?_, fun a o _ e => sm a o e, Tx.same sm⟩ S3 ⟨p1, ?_, rfl⟩ h
    · rcases List.mem_append.mp ha with z | z
      · exact absurd z hn
      · rcases List.mem_cons.mp z with z | z
        · rw [z]; exact h1
        · rw [List.mem_singleton.mp z]; exact h20
    · rw [List.getElem?_append_right (by omega), show M.length - ad.length = 0 by omega]
      rfl⟩
/-! ### the script -/
theorem ca_lenScr {ns : List Int} (h : Post (.dat (.int ns.length)) M) : CallA c (.builtin "len") [.scr ns] M Post := fun z H ad hs vs r Q q => by
  obtain ⟨u, rfl, a, rfl, ru⟩ := repAs1 r
  refine ⟨_, call_len_seq, a, _, rfl, .inl ru.sq, ?_⟩
  rw [List.length_map]
  exact q _ H ad (.dat (.int ns.length)) M Nx.refl hs rfl h
theorem x_ixScr (h : EvX c δ M a fun x M1 => EvX c δ M1 b fun y M2 => ∃ (ns : List Int) (i n : Int), x = .scr ns ∧ y = .dat (.int i) ∧ atI ns i = some n ∧ Post (.dat (.int n)) M2) (hp : PlainIx b) : EvX c δ M (.Subscript a b pos) Post := fun y σ H ad he hs Q q =>
  ⟨_, pe_ix (r := rIx c.K) ix_seq wE_ok wE_ok hp, h y σ H ad he hs _ fun v H1 ad1 x M1 n1 s1 r1 p1 => p1 y σ H1 ad1 (he.nx n1) s1 _ fun u H2 ad2 z M2 n2 s2 r2 ⟨ns, i, n, ex, ez, ha, p2⟩ => by
    subst ex ez
    obtain ⟨pp, rfl, ru⟩ := r1.nx n2
    refine .inl ⟨pp, _, i, .int n, rfl, r2, ru.sq, ?_, q _ H2 ad2 (.dat (.int n)) M2 (n1.trans n2) s2 rfl p2⟩
    unfold atI at ha ⊢
    rw [List.length_map]
    cases z : ixN ns.length i with
    | none => rw [z] at ha; cases ha
    | some j =>
      rw [z] at ha
      show (ns.map V.int)[j]? = _
      rw [List.getElem?_map, show ns[j]? = some n from ha]
      rfl⟩
end

/-! ### == of data that is plain -/
def okD : Nat → D → Bool
  | _, .non => true
  | _, .bl _ => true
  | _, .int _ => true
  | _, .str x => PyData.strOk x
  | 0, .tup _ => false
  | n + 1, .tup ds => ds.all (okD n)
  | 0, .lis _ => false
  | n + 1, .lis ds => ds.all (okD n)
theorem okD_py : ∀ (n : Nat) (d : D), okD n d = true → d.py.canLay0 = true ∧ d.py.depth ≤ n
  | n, .non, _ => ⟨rfl, Nat.zero_le _⟩
  | n, .bl _, _ => ⟨rfl, Nat.zero_le _⟩
  | n, .int _, _ => ⟨rfl, Nat.zero_le _⟩
  | n, .str x, h => ⟨by cases n <;> exact h, Nat.zero_le _⟩
  | 0, .tup _, h => by cases h
  | 0, .lis _, h => by cases h
  | n + 1, .tup ds, h => by
    have gen : ∀ ds : List D, ds.all (okD n) = true → PyData.canLayAll0 (pys ds) = true ∧ PyData.depthAll (pys ds) ≤ n := by
      intro ds
      induction ds with
      | nil => intro _; exact ⟨rfl, Nat.zero_le _⟩
      | cons d ds ih =>
        intro h
        rw [List.all_cons, Bool.and_eq_true] at h
        obtain ⟨a1, a2⟩ := okD_py n d h.1
        obtain ⟨b1, b2⟩ := ih h.2
        refine ⟨?_, ?_⟩
        · show (PyData.canLay0 d.py && PyData.canLayAll0 (pys ds)) = true
          rw [a1, b1]; rfl
        · show max (PyData.depth d.py) (PyData.depthAll (pys ds)) ≤ n
          omega
    obtain ⟨h1, h2⟩ := gen ds h
    exact ⟨h1, Nat.succ_le_succ h2⟩
  | n + 1, .lis ds, h => by
    have gen : ∀ ds : List D, ds.all (okD n) = true → PyData.canLayAll0 (pys ds) = true ∧ PyData.depthAll (pys ds) ≤ n := by
      intro ds
      induction ds with
      | nil => intro _; exact ⟨rfl, Nat.zero_le _⟩
      | cons d ds ih =>
        intro h
        rw [List.all_cons, Bool.and_eq_true] at h
        obtain ⟨a1, a2⟩ := okD_py n d h.1
        obtain ⟨b1, b2⟩ := ih h.2
        refine ⟨?_, ?_⟩
        · show (PyData.canLay0 d.py && PyData.canLayAll0 (pys ds)) = true
          rw [a1, b1]; rfl
        · show max (PyData.depth d.py) (PyData.depthAll (pys ds)) ≤ n
          omega
    obtain ⟨h1, h2⟩ := gen ds h
    exact ⟨h1, Nat.succ_le_succ h2⟩
theorem okD_shaped {n : Nat} {d : D} (h : okD n d = true) (hn : n ≤ 60) : SeqAt.shaped d.py = true := by
  obtain ⟨a, b⟩ := okD_py n d h
  unfold SeqAt.shaped
  rw [a, decide_eq_true (by omega)]
  rfl
theorem okDs_shaped {n : Nat} {ds : List D} (h : ds.all (okD n) = true) (hn : n ≤ 50) : SeqAt.shaped (.list (pys ds)) = true := by
  have : okD (n + 1) (.tup ds) = true := h
  obtain ⟨a, b⟩ := okD_py (n + 1) (.tup ds) this
  unfold SeqAt.shaped
  have a2 : PyData.canLayAll0 (pys ds) = true := a
  have b2 : PyData.depthAll (pys ds) + 1 ≤ n + 1 := b
  rw [show PyData.canLay0 (.list (pys ds)) = PyData.canLayAll0 (pys ds) from rfl, a2, show PyData.depth (.list (pys ds)) = PyData.depthAll (pys ds) + 1 from rfl, decide_eq_true (by omega)]
  rfl
theorem ok_tI (n : Nat) (ns : List Int) : okD (n + 1) (tI ns) = true := by
  show (ns.map D.int).all (okD n) = true
  rw [List.all_map]
  apply List.all_eq_true.mpr
  intro x _
  cases n <;> rfl
theorem ok_tII (n : Nat) (b : List (List Int)) : okD (n + 2) (tII b) = true := by
  show (b.map tI).all (okD (n + 1)) = true
  rw [List.all_map]
  apply List.all_eq_true.mpr
  intro x _
  exact ok_tI n x
section
variable {c : SC} {M : List MO} {B : Bool → List MO → Prop}
theorem c_ne_same (n : Nat) {d d2 : D} (e : d = d2) (hd : okD n d = true) (h : B false M) (hn : n ≤ 60 := by decide) : CmpR c .NotEq (.dat d) (.dat d2) M B := by
  subst e
  refine c_neD trivial trivial (okD_shaped hd hn) (okD_shaped hd hn) ?_
  show B (!PyData.eqv d.py d.py) M
  rw [SeqAt.eqv_refl _ (okD_py n d hd).1]
  exact h
theorem c_eq_same (n : Nat) {d d2 : D} (e : d = d2) (hd : okD n d = true) (h : B true M) (hn : n ≤ 60 := by decide) : CmpR c .Eq (.dat d) (.dat d2) M B := by
  subst e
  refine c_eqD trivial trivial (okD_shaped hd hn) (okD_shaped hd hn) ?_
  show B (PyData.eqv d.py d.py) M
  rw [SeqAt.eqv_refl _ (okD_py n d hd).1]
  exact h
/-- two lists of data, the same -/
theorem c_neL_same (n : Nat) {x y : AV} {ds es : List D} (hx : IsL M x ds) (hy : IsL M y es) (e : ds = es) (hd : ds.all (okD n) = true) (h : B false M) (hn : n ≤ 50 := by decide) : CmpR c .NotEq x y M B := by
  subst e
  have py : ∀ {z : AV}, IsL M z ds → IsDat M z ∧ avPy M z = .list (pys ds) := by
    intro z hz
    rcases hz with rfl | ⟨j, rfl, hm⟩
    · exact ⟨trivial, rfl⟩
    · refine ⟨⟨ds, hm⟩, ?_⟩
      unfold avPy
      rw [hm]
  obtain ⟨a1, b1⟩ := py hx
  obtain ⟨a2, b2⟩ := py hy
  refine c_neD a1 a2 (by rw [b1]; exact okDs_shaped hd hn) (by rw [b2]; exact okDs_shaped hd hn) ?_
  rw [b1, b2, SeqAt.eqv_refl _ (SeqAt.canLay_of_shaped (okDs_shaped hd hn))]
  exact h
end
end Fx

/-! Fx, part F: max with default, xs[i] op= e, enumerate over tuples, zip of tuples, calls by keywords alone. -/
namespace Fx
open PySem L2

/-! ### max(xs, default=d), ints -/
def rMaxDf (K : PySem.W.Frag) : List V → List V → Hp → VK → Prop := fun xs zs H Q => ∃ (p : Addr) (ns : List Int) (d : Int), xs = [.ref p] ∧ zs = [.int d] ∧ SqL K H p (ns.map V.int) ∧ (ns = [] → Q (.int d) H) ∧ ∀ m, m ∈ ns → (∀ y ∈ ns, y ≤ m) → Q (.int m) H
theorem maxOf_int (x : Int) (xs : List Int) : PySem.W.maxOf x xs ∈ x :: xs ∧ ∀ y ∈ x :: xs, y ≤ PySem.W.maxOf x xs := by
  unfold PySem.W.maxOf
  induction xs generalizing x with
  | nil => exact ⟨List.mem_cons_self, fun y hy => by rw [List.mem_singleton.mp hy]; exact Int.le_refl _⟩
  | cons z zs ih =>
    rw [List.foldl_cons]
    obtain ⟨h1, h2⟩ := ih (if PySem.W.DatumOrd.lt x z = true then z else x)
    have hd : PySem.W.DatumOrd.lt x z = decide (x < z) := rfl
    rw [hd] at h1 h2 ⊢
    by_cases hx : x < z
    · rw [if_pos (decide_eq_true hx)] at h1 h2 ⊢
      refine ⟨List.mem_cons_of_mem _ h1, fun y hy => ?_⟩
      rcases List.mem_cons.mp hy with rfl | hy
      · have := h2 z List.mem_cons_self
        omega
      · exact h2 y hy
    · rw [if_neg (by simp only [decide_eq_true_eq]; exact hx)] at h1 h2 ⊢
      refine ⟨?_, fun y hy => ?_⟩
      · rcases List.mem_cons.mp h1 with e | h
        · rw [e]; exact List.mem_cons_self
        · exact List.mem_cons_of_mem _ (List.mem_cons_of_mem _ h)
      · rcases List.mem_cons.mp hy with rfl | hy
        · exact h2 y List.mem_cons_self
        · rcases List.mem_cons.mp hy with rfl | hy
          · have := h2 x List.mem_cons_self
            omega
          · exact h2 y (List.mem_cons_of_mem _ hy)
theorem crk_maxDf {X : Cx} (hc : X.calm = true) (hu : X.A.units + 1 < cLine) : CallRK X (.builtin "max") ["default"] (rMaxDf X.K) := by
  intro pins s σ H xs zs us ws Q I r1 r2 h
  obtain ⟨p, ns, d, rfl, rfl, hq, h0, h1⟩ := h
  obtain ⟨its, rv, hl, hz⟩ := I.list hq
  rw [Vals.ref1 r1]
  cases r2 with
  | cons r rr =>
    cases rr
    obtain ⟨t, rfl⟩ := r
    have hi := rv.ints
    refine PySem.W.max_list_datum_default (α := Int) (xs := ns) (I.ok.hd hc) hl.isList (PySem.W.HoldAll.of_ints (by simpa using hi)) (by show X.A.units + 1 + 0 < cLine; exact hu) (fun e h' tk hk => ⟨.int d, H, I.kept hk, ⟨_, rfl⟩, h0 e⟩) fun y ys i v h' tk e hi2 hv hk => ?_
    obtain ⟨as, rr2⟩ := hv
    obtain ⟨q1, q2⟩ := maxOf_int y ys
    rw [← e] at q1 q2
    cases rr2 with
    | int n t2 => exact ⟨.int _, H, I.kept hk, ⟨_, rfl⟩, h1 _ q1 q2⟩
section
variable {c : SC} {δ : Dl} {M : List MO} {Post : AQ} {a b e t : Expr} {es : List Expr} {pos p p1 p2 : Pos} {x : Str} {id : String}
def wCK (X : Cx) (f : Value) (ks : List Str) (xs zs : List V) (H : Hp) (Q : VK) : Prop := ∃ r, CallRK X f ks r ∧ r xs zs H Q
theorem wCK_ok {X : Cx} {f : Value} {ks : List Str} : CallRK X f ks (wCK X f ks) := fun pins s σ H xs zs us ws Q I r1 r2 ⟨r, h, q⟩ => h pins s σ H xs zs us ws Q I r1 r2 q
def CallAK (c : SC) (f : Value) (ks : List Str) (as bs : List AV) (M : List MO) (Post : AQ) : Prop :=
  ∀ (z : Dyn c) (H : Hp) (ad : List Addr), StOk c.K ad H M → ∀ vs us, RepAs c.K ad H as vs → RepAs c.K ad H bs us → ∀ Q : VK,
    (∀ v H2 ad2 a M2, Nx ad H ad2 H2 → StOk c.K ad2 H2 M2 → RepA c.K ad2 H2 a v → Post a M2 → Q v H2) → wCK z.cx f ks vs us H Q
theorem repAs_nx {K : PySem.W.Frag} {ad ad2 : List Addr} {H H2 : Hp} {as : List AV} {vs : List V} (n : Nx ad H ad2 H2) (r : RepAs K ad H as vs) : RepAs K ad2 H2 as vs := r.nx n
theorem x_bltK {kws : List Keyword} (ks : List Str) (hg : c.gl x) (hm : c.mg x = none) (hv : bootBuiltins x = some (.builtin id)) (h : EvA c δ M (e :: es) fun as M1 => EvK c δ M1 kws fun bs M2 => CallAK c (.builtin id) ks as bs M2 Post)
    (he : ∀ env, backTo pos (starEach (e :: es) env) = (false, eval e env) :: backTo pos (starEach es env)) (hpl : ∀ env, (backTo pos (starEach (e :: es) env)).any (·.1) = false) (hall : ∀ env, (backToKw pos (keywordEach kws env)).all (·.1.isSome) = true)
    (hno : ∀ env, (backToKw pos (keywordEach kws env)).any (·.1.isNone) = false) (hks : ∀ env, (backToKw pos (keywordEach kws env)).filterMap (·.1) = ks) (hn : x ≠ "__name__" := by decide) (hdb : (x == ("__debug__" : Str)) = false := by decide) :
    EvX c δ M (.Call (.Name x p) (e :: es) kws pos) Post := fun y σ H ad he' hs Q q =>
  ⟨_, pe_callBK (X := y.cx) wCK_ok (glS y hg) hm hv wA_ok wK_ok hn hdb (he y.env) (hpl y.env) (hall y.env) (hno y.env) (hks y.env), h y σ H ad he' hs _ fun vs H1 ad1 as M1 n1 s1 r1 p1 => p1 y σ H1 ad1 (he'.nx n1) s1 _ fun us H2 ad2 bs M2 n2 s2 r2 p2 =>
    p2 y H2 ad2 s2 vs us (r1.nx n2) r2 Q fun v H3 ad3 a3 M3 n3 s3 r3 p3 => q v H3 ad3 a3 M3 ((n1.trans n2).trans n3) s3 r3 p3⟩
theorem ck_maxDf {v : AV} {ns : List Int} {d : Int} (hv : IsL M v (ns.map .int)) (h0 : ns = [] → Post (.dat (.int d)) M) (h : ∀ m, m ∈ ns → (∀ y, y ∈ ns → y ≤ m) → Post (.dat (.int m)) M) : CallAK c (.builtin "max") ["default"] [v] [.dat (.int d)] M Post := fun z H ad hs vs us r r2 Q q => by
  obtain ⟨u, rfl, ru⟩ := repAs1 r
  obtain ⟨u2, rfl, ru2⟩ := repAs1 r2
  obtain ⟨pp, xs, rfl, hq, rr⟩ := hv.sq hs ru
  rw [reps_ints.mp rr] at hq
  rw [show u2 = .int d from ru2]
  exact ⟨_, crk_maxDf rfl (hu_of z.room), pp, ns, d, rfl, rfl, hq, fun e => q _ H ad (.dat (.int d)) M Nx.refl hs rfl (h0 e), fun m h1 h2 => q _ H ad (.dat (.int m)) M Nx.refl hs rfl (h m h1 h2)⟩

/-! ### xs[i] op= e -/
def rGetL (K : PySem.W.Frag) : V → V → Hp → VK → Prop := fun o i H Q => ∃ p xs n v, o = .ref p ∧ i = .int (n : Nat) ∧ SqL K H p xs ∧ xs[n]? = some v ∧ Q v H
theorem get_listN {X : Cx} : PGet X (rGetL X.K) := by
  intro pins s σ H o i ov iv Q I ro ri h
  obtain ⟨p, xs, n, v, rfl, rfl, hq, hx, q⟩ := h
  cases ro
  obtain ⟨t, rfl⟩ := ri
  obtain ⟨its, rv, hl, hz⟩ := I.list hq
  obtain ⟨u, hu, ru⟩ := rv.get hx
  have hn := (List.getElem?_eq_some_iff.mp hx).1
  have h63 := line63
  exact wpAny_getItem_list hl.isList (by omega) (by omega) (by simpa using hu) ⟨v, H, I, ru, q⟩
theorem s_augS {D : AE} {o i : Expr} {op : Operator} (h : EvX c δ M o fun w M1 => EvX c δ M1 i fun u M2 => ∃ (j n : Nat) (ds : List Fx.D) (d : Fx.D), w = .mut j ∧ u = .dat (.int (n : Nat)) ∧ M2[j]? = some (.lst ds) ∧ ds[n]? = some d ∧
      EvX c δ M2 e fun v M3 => BinR c (inplaceOp op) (.dat d) v M3 fun r M4 => ∃ (d' : Fx.D) (ds4 : List Fx.D), r = .dat d' ∧ M4[j]? = some (.lst ds4) ∧ n < ds4.length ∧ D.nx δ (M4.set j (.lst (ds4.set n d'))))
    (ha : ∀ ov iv new, augStore i ov iv new = (do holding [new, ov, iv] (setItem ov iv new); release [new, ov, iv] []; pure .next)) : Run1 c δ M (.AugAssign (.Subscript o i p) op e pos) D := fun y σ H ad he hs E q =>
  ⟨_, ps_augS wE_ok wE_ok get_listN wE_ok (wO_ok (X := y.cx) (f := inplaceOp op)) set_list ha, h y σ H ad he hs _ fun w H1 ad1 a1 M1 n1 s1 r1 p1 => p1 y σ H1 ad1 (he.nx n1) s1 _ fun u H2 ad2 a2 M2 n2 s2 r2 ⟨j, n, ds, d, e1, e2, hm, hd, p2⟩ => by
    subst e1 e2
    obtain ⟨qq, xs, rfl, hq, hx, rr⟩ := st_lst s2 (r1.nx n2) hm
    obtain ⟨v0, hv0, rv0⟩ := rr.get hd
    have n12 := n1.trans n2
    refine ⟨qq, xs, n, v0, rfl, r2, .inl (.inl hx), hv0, p2 y σ H2 ad2 (he.nx n12) s2 _ fun v H3 ad3 a3 M3 n3 s3 r3 p3 => ?_⟩
    refine p3 y H3 ad3 s3 v0 v (show RepA c.K ad3 H3 (.dat d) v0 from Rep.tx n3.tx rv0) r3 _ fun v4 H4 ad4 a4 M4 n4 s4 r4 ⟨d', ds4, e4, hm4, hn4, p4⟩ => ?_
    subst e4
    obtain ⟨q4, xs4, e5, hq4, hx4, rr4⟩ := st_lst s4 ((((show RepA c.K ad2 H2 (.mut j) (.ref qq) from ⟨qq, hq, rfl⟩).nx n3).nx n4)) hm4
    cases e5
    obtain ⟨s5, n5⟩ := put_lst (ds := ds4) (ys := xs4.set n v4) s4 hq4 hx4 (rr4.set r4 n)
    have n15 := ((n12.trans n3).trans n4).trans n5
    refine ⟨qq, xs4, n, n, rfl, r2, hx4, ?_, q.nx σ _ ad4 δ _ n15 (he.nx n15) s5 p4⟩
    unfold ixN
    rw [if_pos (by omega), if_pos (by rw [rr4.length]; omega)]
    simp⟩
end

end Fx

/-! Fx, part G: enumerate over a tuple, zip of tuples, calls by keywords alone. -/
namespace PySem
open Sem (wp)
open AutoSeq1 (wpAny_loadPart')
theorem meets_enumerate_newT9 (l : Addr) (items : Array Value) (n : Nat) (dct : Option Addr) (sl : Array (Option Value)) :
    Meets (Builtin.«enumerate.__new__» ⟨[.type "enumerate", .ref l], []⟩) (fun _ R s => s.heap.get? l = some { cls := .type "tuple", dict := dct, data := .seq items n, slots := sl } ∧
      R (.ok (.ret (.ref (s.heap.push { cls := .type "tuple_iterator", data := .fields #[.ref l, .int 0 0] }).objs.size)))
        { s with heap := (s.heap.push { cls := .type "tuple_iterator", data := .fields #[.ref l, .int 0 0] }).push { cls := .type "enumerate", data := .fields #[.none, .bool false, .ref s.heap.objs.size, rawInt 0, .none, .none] } }) :=
  .of_wp fun prog w A R s h => by
    obtain ⟨hp, g, d, tk, os⟩ := s; obtain ⟨hl, h⟩ := h
    have hsub := sub_enumerate
    have hL : Heap.IsTuple (Shared.heap ⟨hp, g, d, tk, os⟩) l items := ⟨_, hl, rfl, n, rfl⟩
    wp_walk using wpAny_loadPart' hl
    refine wpAny_stack_any fun st => wpAny_pure ?_
    split
    · rename_i c _ _ _ _ _
      cases (c == Value.type "enumerate")
      · wp_walk using wpAny_loadPart' hl, wpAny_pyIter_tuple hL
        exact ⟨_, rfl, h⟩
      · wp_walk using wpAny_loadPart' hl, wpAny_pyIter_tuple hL
        exact ⟨_, rfl, h⟩
    · wp_walk using wpAny_loadPart' hl, wpAny_pyIter_tuple hL
      exact ⟨_, rfl, h⟩
section
variable {prog : Program} {w : World} {A : Around} {E : Value → Shared → Prop} {s : Shared}
theorem call_enumerate_tuple9 {l : Addr} {items : Array Value} {Q : Value → Shared → Prop} (hL : s.heap.IsTuple l items)
    (h : ∀ h', IsEnum h' (s.heap.objs.size + 1) s.heap.objs.size 0 .none → h'.IsTupleIter s.heap.objs.size l 0 → h'.objs.size = s.heap.objs.size + 2 →
      (∀ b o, s.heap.get? b = some o → h'.get? b = some o) → Q (.ref (s.heap.objs.size + 1)) { s with heap := h' }) :
    wpAny (model prog w) A (call (.type "enumerate") [.ref l]) Q E s := by
  obtain ⟨⟨c, dct, dt, sl⟩, hl, hc, n, hd⟩ := hL
  replace hc : c = .type "tuple" := hc
  replace hd : dt = .seq items n := hd
  subst hc hd
  refine callType_new F.called_enumerate (by decide) (F.typeCall_enumerate_1 _) (F.newCall_enumerate_1 _) (fun obj => F.args_object_init_2 obj _) F.entry_enumerate_new
    (meets_enumerate_newT9 l items n dct sl) ⟨hl, ?_⟩
  have hz : (s.heap.push { cls := .type "tuple_iterator", data := .fields #[.ref l, .int 0 0] }).objs.size = s.heap.objs.size + 1 := Heap.size_push ..
  show _ ∧ _
  rw [hz]
  have he : IsEnum ((s.heap.push { cls := .type "tuple_iterator", data := .fields #[.ref l, .int 0 0] }).push
      { cls := .type "enumerate", data := .fields #[.none, .bool false, .ref s.heap.objs.size, rawInt 0, .none, .none] }) (s.heap.objs.size + 1) s.heap.objs.size 0 .none := by
    have := Heap.get?_push_size (s.heap.push { cls := .type "tuple_iterator", data := .fields #[.ref l, .int 0 0] })
      (o := { cls := .type "enumerate", data := .fields #[.none, .bool false, .ref s.heap.objs.size, rawInt 0, .none, .none] }) rfl
    rw [hz] at this; exact this
  refine ⟨⟨_, he, rfl⟩, h _ he ⟨_, Heap.get?_push_of_some _ (Heap.get?_push_size _ rfl), rfl, rfl⟩ (by rw [Heap.size_push, hz]) fun b o x => Heap.get?_push_of_some _ (Heap.get?_push_of_some _ x)⟩
theorem pyNext_enumT_end9 {e it l : Addr} {i : Nat} {items : Array Value} {old : Value} {Q : Option Value → Shared → Prop} (hh : A.handled = none)
    (he : IsEnum s.heap e it i old) (hit : s.heap.IsTupleIter it l i) (hl : s.heap.IsTuple l items) (hx : items[i]? = none)
    (hQ : ∀ h', Heap.ExtBut it s.heap h' → Q none { s with heap := h' }) : wpAny (model prog w) A (pyNext (.ref e)) Q E s := by
  have hT : s.TypeIs (.ref e) "enumerate" := ⟨_, he, rfl⟩
  unfold pyNext
  refine wpAny_bind (wpAny_attempt (wpAny_callSpecial?_slot (name := Str.ofString "__next__") hT F.slot_enumerate_next
    (wpAny_call_entry F.slot_enumerate_next hT F.entry_enumerate_next ?_ (F.args_enumerate_next_1 _))))
  show wpAny _ _ (field (.ref e) 2 >>= _) _ _ _
  refine wpAny_bind (wpAny_field he rfl (x := .ref it) rfl ?_)
  refine wpAny_bind (wpAny_nextOf_tuple_end hh hit hl hx fun h' x he' hx' => ?_)
  obtain ⟨o, ho, hc⟩ := hx'
  refine wpAny_bind (wpAny_isInstance (T := "StopIteration") (b := true) ⟨o, ho, hc⟩ isSubtype_stop ?_)
  exact wpAny_pure (hQ _ he')
end
end PySem
namespace L2
open PySem PySem.Spec PyProof.Rows
/-- the tuple at a, each item in a new pair -/
def IteT (K : PySem.W.Frag) (a : Addr) : It :=
  ⟨fun i H => ∃ (xs : List V) (x : V), SqT K H a xs ∧ xs[i]? = some x, fun i H v H' => ∃ T x, v = .ref T ∧ H T = none ∧ H' = upd H T (.tup [.int (i : Nat), x]) ∧ ∀ xs, SqT K H a xs → xs[i]? = some x, fun i H => ∃ xs : List V, SqT K H a xs ∧ xs.length ≤ i⟩
theorem turn_enumT {P : Program} {w : World} {K : PySem.W.Frag} {elts : List Expr} {kk : Nat} {tpos : Pos} (a e it : Addr) (hea : e ≠ a) (hia : a ≠ it) (hei : e ≠ it) :
    Turn P w K (.Tuple elts kk tpos) (IteT K a) [e, it] e (fun i h => (∃ old, IsEnum h e it ((i : Nat) : Int) old) ∧ h.IsTupleIter it a i) where
  mem := by simp
  obj := fun i h st b hb => by
    obtain ⟨⟨old, he⟩, ⟨o, ho, hc, hd⟩⟩ := st
    have e' : b = e ∨ b = it := by simpa using hb
    rcases e' with z | z
    · rw [z]; exact ⟨_, he, fun v q => nomatch q⟩
    · rw [z]; exact ⟨o, ho, fun v q => by rw [hd] at q; cases q⟩
  keep := fun i h h' st k => let ⟨⟨old, he⟩, hi⟩ := st; ⟨⟨old, k e (by simp) _ he⟩, hi.at fun o q => k it (by simp) o q⟩
  item := by
    intro X hP hw hK hc i pins s σ H E I hf st hg
    subst hP hw hK
    obtain ⟨⟨old, he⟩, hit⟩ := st
    obtain ⟨xs, x, hq, hx⟩ := hg
    obtain ⟨its, rv, p, hz⟩ := I.tuple hq
    obtain ⟨u, hu, ru⟩ := rv.get hx
    have hel : e < s.heap.objs.size := Heap.lt_size he
    have hil : it < s.heap.objs.size := by obtain ⟨_, q, _⟩ := hit; exact Heap.lt_size q
    have hil2 : i < its.toArray.size := by
      have := (List.getElem?_eq_some_iff.mp hu).1
      simpa using this
    refine wpAny_pyNext_enum_itemD (Draws.tuple (A := X.A.in1) (I.ok.hd hc) it a hia its.toArray) he ⟨hit, (show s.heap.IsTuple a its.toArray from p)⟩ hil2 hei (by simp [hei, hea]) fun z h' tk hz' ho hst' hT hsz hk => ?_
    have ezu : z = u := by
      have h1 : its.toArray[i]? = some u := by simpa using hu
      rw [h1] at hz'
      exact (Option.some.inj hz').symm
    subst ezu
    obtain ⟨hit', _⟩ := hst'
    refine ⟨_, rfl, wpAny_letOwnedTupleGo_enum (s := { s with heap := h', toks := tk + 1 }) ho fun h'' he' sb => ?_⟩
    have hT2 : h''.get? s.heap.objs.size = some { cls := .type "tuple", data := .seq #[.int i tk, z] } := (sb.2 _ (Nat.ne_of_gt hel)).trans hT
    have new : ObjOk X.prog X.w (upd H s.heap.objs.size (.tup [.int (i : Nat), x])) h'' s.heap.objs.size (.tup [.int (i : Nat), x]) :=
      ⟨by show 2 ≤ sizeLine; decide, [.int i tk, z], .cons ⟨_, rfl⟩ (.cons ru .nil), ⟨_, hT2, rfl, _, rfl⟩⟩
    have I1 : Inv X pins σ (upd H s.heap.objs.size (.tup [.int (i : Nat), x])) { s with heap := h'', toks := tk + 1 } :=
      I.turnedNew (ch := [e, it]) (fun b ob hb q => (sb.2 b (fun z => hb (by simp [z]))).trans (hk b ob (fun z => hb (by simp [z])) (fun z => hb (by simp [z])) q)) hf (Nat.le_refl _) new
    refine ⟨.ref s.heap.objs.size, _, I1, rfl, ⟨_, x, rfl, I.hok.fresh (Nat.le_refl _), rfl, fun ys hy => by rw [I.tuple_inj hy hq]; exact hx⟩, ⟨⟨z, ?_⟩, hit'.at fun o q => (sb.2 it (Ne.symm hei)).trans q⟩, fun b hb => ?_⟩
    · have e1 : ((i + 1 : Nat) : Int) = (i : Int) + 1 := by omega
      rw [e1]; exact he'
    · have hb' : b < s.heap.objs.size := by
        have e' : b = e ∨ b = it := by simpa using hb
        rcases e' with z | z
        · rw [z]; exact hel
        · rw [z]; exact hil
      rw [upd_ne (Nat.ne_of_lt hb')]
      exact (hf b hb).1
  done := by
    intro X hP hw hK hc i pins s σ H E I hf st hg
    subst hP hw hK
    obtain ⟨⟨old, he⟩, hit⟩ := st
    obtain ⟨xs, hq, hx⟩ := hg
    obtain ⟨its, rv, p, hz⟩ := I.tuple hq
    obtain ⟨f0, f1, f2, f3, f4, f5⟩ := hf it (by simp)
    have hl := rv.length
    exact pyNext_enumT_end9 (I.ok.hd hc) he hit (show s.heap.IsTuple a its.toArray from p) (by simp; omega) fun h' eb => ⟨rfl, I.turned (t' := s.toks) (fun b o hb q => eb b o hb q) f0 f1 f3 f4 f5⟩
  self := fun A i s Q E st h => let ⟨⟨_, he⟩, _⟩ := st; wpAny_pyIter_enum he h
def iEnumT (K : PySem.W.Frag) (ta : TA) : TI := fun σ H R => ta σ H fun vs H1 => ∃ a xs, vs = [.ref a] ∧ SqT K H1 a xs ∧ R (IteT K a) H1
theorem pi_enumT {X : Cx} {e : Expr} {ta : TA} {p pos tpos : Pos} {elts : List Expr} {kk : Nat} (hg : Gl X "enumerate") (hm : X.mg "enumerate" = none) (ha : PA X [e] ta) (hs : starEach [e] X.env = [(false, eval e X.env)]) :
    PI X (.Tuple elts kk tpos) (.Call (.Name "enumerate" p) [e] [] pos) (iEnumT X.K ta) := by
  refine ⟨fun pins s σ H R I h => ?_⟩
  refine Call_ (ld_blt I hg hm boot_enumerate (PyProof.Rows.callWith_type1 (thn (ha.run pos pins s σ H _ I h) fun us s1 ⟨vs, H1, I1, r1, q1⟩ => ?_) hs rfl))
  obtain ⟨a, xs, ex, hq, q⟩ := q1
  subst ex
  cases r1 with
  | cons r rr =>
    cases rr
    cases r
    obtain ⟨its, rv, p', hz⟩ := I1.tuple hq
    have hal : a < s1.heap.objs.size := by
      obtain ⟨o, ho, _⟩ := id p'
      exact Heap.lt_size ho
    refine call_enumerate_tuple9 (show s1.heap.IsTuple a its.toArray from p') fun h' he hit hsz hk => wpAny_pyIter_enum he ?_
    have I2 : Inv X pins σ H1 { s1 with heap := h' } := I1.kept (t' := s1.toks) hk
    refine ⟨s1.heap.objs.size + 1, [s1.heap.objs.size + 1, s1.heap.objs.size], _, _, H1, rfl, I2, turn_enumT a (s1.heap.objs.size + 1) s1.heap.objs.size (Nat.ne_of_gt (Nat.lt_succ_of_lt hal)) (Nat.ne_of_lt hal) (Nat.succ_ne_self _), ⟨⟨.none, he⟩, hit⟩, fun b hb => ?_, q⟩
    have e' : b = s1.heap.objs.size + 1 ∨ b = s1.heap.objs.size := by simpa using hb
    have hle : s1.heap.objs.size ≤ b := by
      rcases e' with z | z
      · rw [z]; exact Nat.le_add_right _ _
      · rw [z]; exact Nat.le_refl _
    exact I1.fpOk hle (I1.hok.fresh hle)
/-- f(k = v, ..) -/
theorem pe_callK00 {X : Cx} {CX : CXT} {k : Nat} {f : Addr} {fd : FuncData} {ps ks : List Str} {sp : Sp} {x : Str} {p pos : Pos} {kws : List Keyword} {g : List Value → List Value → List Value} {gV : List V → List V → List V} {E : XK} {tk : TA}
    (F : FnOk X.prog X.w X.K X.mg X.base CX k f fd ps sp) (hr : Room k X.A) (hg : Gl X x) (hm : X.mg x = some (.ref f)) (hk : PySem.W.keepIn X.K (.ref f) = true) (hb : KBinds X.K fd ps ks g gV) (hx : Passes CX X E)
    (hkw : PK X kws tk) (hall : (backToKw pos (keywordEach kws X.env)).all (·.1.isSome) = true) (hks : (backToKw pos (keywordEach kws X.env)).filterMap (·.1) = ks)
    (hdb : (x == ("__debug__" : Str)) = false)
    (hpl : ((backTo pos (starEach [] X.env)).any (·.1) || (backToKw pos (keywordEach kws X.env)).any (·.1.isNone)) = false) :
    PE X (.Call (.Name x p) [] kws pos) (fun σ H Q => tk σ H fun zs H2 => sp (gV [] zs) H2 Q E) := by
  refine ⟨fun pins s σ H Q I h => ?_⟩
  refine wpAny_Call_Name_kw (ld_glob I hg hm ?_ hdb)
  refine PySem.W.callWith_KW0 (h₀ := X.base) I.ok.mod.kin hk hall ?_ hpl
  refine thn (hkw.run pos pins s σ H _ I h) fun ws s2 ⟨zs, H2, I2, rz, q2⟩ => ⟨I2.kIn, ?_⟩
  rw [hks]
  exact run_fnk (us := []) (vs := []) F hr hb hx I2 .nil rz q2
end L2
namespace Fx
open PySem L2
section
variable {c : SC} {δ : Dl} {M : List MO} {Post : AQ} {a b e t : Expr} {es : List Expr} {pos p p1 p2 tpos : Pos} {x : Str} {Pi : List D → Option Nat → List MO → Prop} {elts : List Expr} {kk : Nat}
def enumD (ds : List D) : List D := ds.zipIdx.map fun q => D.tup [.int (q.2 : Nat), q.1]
theorem enumD_len (ds : List D) : (enumD ds).length = ds.length := by unfold enumD; rw [List.length_map, List.length_zipIdx]
theorem enumD_get {ds : List D} {i : Nat} {d : D} (h : (enumD ds)[i]? = some d) : ∃ d', ds[i]? = some d' ∧ d = .tup [.int (i : Nat), d'] := by
  unfold enumD at h
  rw [List.getElem?_map, List.getElem?_zipIdx] at h
  cases q : ds[i]? with
  | none => rw [q] at h; cases h
  | some d' =>
    rw [q] at h
    have := Option.some.inj h
    exact ⟨d', rfl, by rw [← this]; simp⟩
theorem walks_enumT {K : PySem.W.Frag} {ad : List Addr} {H : Hp} {ds : List D} {q : Addr} {xs : List V} (hq : SqT K H q xs) (rr : Reps K H ds xs) : Walks K (IteT K q) ad H (enumD ds) none := fun ad2 H2 M2 n s _ i => by
  have hq2 := sqT_tx n.tx hq
  have rr2 := rr.tx n.tx
  refine ⟨fun d hd => ?_, fun e => ⟨xs, hq2, by rw [rr2.length, e, enumD_len]; exact Nat.le_refl _⟩⟩
  obtain ⟨d', hd', rfl⟩ := enumD_get hd
  obtain ⟨w, hw, rw'⟩ := rr2.get hd'
  refine ⟨⟨xs, w, hq2, hw⟩, fun x H3 ⟨T, y, e1, hT, e3, hy⟩ => ?_⟩
  subst e1 e3
  have := hy xs hq2
  rw [hw] at this
  cases this
  have sm := same_new (o := .tup [.int (i : Nat), w]) hT
  exact ⟨sm, T, _, rfl, .inl (.inl upd_same), _, _, rfl, rfl, _, _, rfl, Rep.tx (Tx.same sm) rw', rfl⟩
theorem i_enumT (hm : c.mg "enumerate" = none) (hg : c.gl "enumerate") (h : EvA c δ M [e] fun as M1 => ∃ ds, as = [.dat (.tup ds)] ∧ Pi (enumD ds) none M1)
    (hs1 : ∀ env, starEach [e] env = [(false, eval e env)]) : EvI c δ M (.Tuple elts kk tpos) (.Call (.Name "enumerate" p) [e] [] pos) Pi := fun y σ H ad he hs R q =>
  ⟨_, pi_enumT (glS y hg) hm wA_ok (hs1 y.env), h y σ H ad he hs _ fun vs H1 ad1 as M1 n1 s1 r1 ⟨ds, e1, p1⟩ => by
    subst e1
    obtain ⟨v, e2, qq, xs, e3, hq, rr⟩ := repAs1 r1
    subst e2 e3
    exact ⟨qq, xs, rfl, hq, q _ H1 ad1 _ _ M1 n1 s1 (walks_enumT hq rr) p1⟩⟩
/-- zip of two tuples -/
def zipD (ds es : List D) : List D := (ds.zip es).map fun q => D.tup [q.1, q.2]
theorem zipD_get {ds es : List D} {i : Nat} {d : D} (h : (zipD ds es)[i]? = some d) : ∃ d1 d2, ds[i]? = some d1 ∧ es[i]? = some d2 ∧ d = .tup [d1, d2] := by
  unfold zipD at h
  rw [List.getElem?_map] at h
  cases q : (ds.zip es)[i]? with
  | none => rw [q] at h; cases h
  | some d' =>
    rw [q] at h
    have := Option.some.inj h
    obtain ⟨h1, h2⟩ := List.getElem?_zip_eq_some.mp q
    exact ⟨d'.1, d'.2, h1, h2, this.symm⟩
theorem walks_zipT {K : PySem.W.Frag} {ad : List Addr} {H : Hp} {ds es : List D} {qa qb : Addr} {xs ys : List V} (hq : SqT K H qa xs) (rr : Reps K H ds xs) (hq' : SqT K H qb ys) (rr' : Reps K H es ys) : Walks K (RZ.ItzT K qa qb) ad H (zipD ds es) none := fun ad2 H2 M2 n s _ i => by
  have hq2 := sqT_tx n.tx hq
  have rr2 := rr.tx n.tx
  have hq2' := sqT_tx n.tx hq'
  have rr2' := rr'.tx n.tx
  refine ⟨fun d hd => ?_, fun e => ⟨xs, ys, hq2, hq2', ?_⟩⟩
  · obtain ⟨d1, d2, h1, h2, rfl⟩ := zipD_get hd
    obtain ⟨w, hw, rw'⟩ := rr2.get h1
    obtain ⟨w2, hw2, rw2⟩ := rr2'.get h2
    refine ⟨⟨xs, ys, w, w2, hq2, hq2', hw, hw2⟩, fun x H3 ⟨T, y, z, e1, hT, e3, hy, hz⟩ => ?_⟩
    subst e1 e3
    have := hy xs hq2
    rw [hw] at this
    cases this
    have := hz ys hq2'
    rw [hw2] at this
    cases this
    have sm := same_new (o := .tup [w, w2]) hT
    exact ⟨sm, T, _, rfl, .inl (.inl upd_same), _, _, rfl, Rep.tx (Tx.same sm) rw', _, _, rfl, Rep.tx (Tx.same sm) rw2, rfl⟩
  · have hl : (zipD ds es).length = min ds.length es.length := by unfold zipD; rw [List.length_map, List.length_zip]
    rw [rr2.length, rr2'.length]
    omega
theorem i_zipT (hm : c.mg "zip" = none) (hg : c.gl "zip") (h : EvA c δ M [a, b] fun as M1 => ∃ ds es, as = [.dat (.tup ds), .dat (.tup es)] ∧ Pi (zipD ds es) none M1)
    (hs1 : ∀ env, starEach [a, b] env = (false, eval a env) :: starEach [b] env) (hpl : ∀ env, (backTo pos (starEach [b] env)).any (·.1) = false) : EvI c δ M (.Tuple elts kk tpos) (.Call (.Name "zip" p) [a, b] [] pos) Pi := fun y σ H ad he hs R q =>
  ⟨_, RZ.pi_zipA (glS y hg) hm wA_ok (hs1 y.env) (hpl y.env), h y σ H ad he hs _ fun vs H1 ad1 as M1 n1 s1 r1 ⟨ds, es, e1, p1⟩ => by
    subst e1
    obtain ⟨v, v2, e2, ⟨qa, xs, e3, hq, rr⟩, ⟨qb, ys, e4, hq', rr'⟩⟩ := repAs2 r1
    subst e2 e3 e4
    exact ⟨qa, qb, xs, ys, rfl, .inr ⟨hq, hq', q _ H1 ad1 _ _ M1 n1 s1 (walks_zipT hq rr hq' rr') p1⟩⟩⟩
/-- f(k = v, ..), in the order of the parameters -/
theorem x_callK0 {A : ASp} {kws : List Keyword} {n k : Nat} {st : Stmt} {ps : List Str} (ks : List Str) (F : DefOk c.P c.w c.K c.mg c.base k x st ps (spOf c.K ps.length A)) (hk : k ≤ c.k) (hg : c.gl x)
    (hB : ∀ (kV doc pm : Value) (an : Option Addr) (cdv ct : Value) (ws : List Value), ws.length = n → bindArgs (PySem.W.fnOf x x (defArgs st) (defBody st) (defScope st) .none kV doc pm an cdv ct) ⟨[], ks.zip ws⟩ = pure (ps.zip ws))
    (hmn : ps.length = n) (hn0 : 0 < n)
    (h : EvK c δ M kws fun bs M2 => bs.length = n ∧ A bs M2 Post)
    (hall : ∀ env, (backToKw pos (keywordEach kws env)).all (·.1.isSome) = true) (hks : ∀ env, (backToKw pos (keywordEach kws env)).filterMap (·.1) = ks)
    (hpl : ∀ env, ((backTo pos (starEach [] env)).any (·.1) || (backToKw pos (keywordEach kws env)).any (·.1.isNone)) = false) (hdb : (x == ("__debug__" : Str)) = false := by decide) : EvX c δ M (.Call (.Name x p) [] kws pos) Post := fun y σ H ad he hs Q q => by
  obtain ⟨fa, fd, hm, F1, hb, ok⟩ := F.ex
  have kb : KBinds c.K fd ps ks (ordK 0 n) (ordK 0 n) := by
    obtain ⟨oc, od, kV, doc, pm, an, cdv, ct, osl, rfl, lk, hcd⟩ := F1.ex
    refine ⟨fun s us ws _ hl => ?_, fun {vs us zs ws} r1 r2 => ?_⟩
    · unfold ordK at hl ⊢
      by_cases hc : us.length = 0 ∧ ws.length = n
      · rw [if_pos hc]
        have eu : us = [] := List.eq_nil_of_length_eq_zero hc.1
        subst eu
        exact .of_eq (hB kV doc pm an cdv ct ws hc.2)
      · rw [if_neg hc] at hl
        have : ([] : List Value).length = 0 := rfl
        omega
    · unfold ordK
      rw [r1.length, r2.length]
      by_cases hc : us.length = 0 ∧ ws.length = n
      · rw [if_pos hc, if_pos hc]
        exact vals_append r1 r2
      · rw [if_neg hc, if_neg hc]
        exact .nil
  refine ⟨_, pe_callK00 (X := y.cx) (ks := ks) ok (y.room.mono hk) (glS y hg) hm F1.kp kb pass0 wK_ok (hall y.env) (hks y.env) hdb (hpl y.env), h y σ H ad he hs _ fun us H2 ad2 bs M2 n2 s2 r2 ⟨l2, hA⟩ => ?_⟩
  have e1 : ([] : List V).length = 0 ∧ us.length = n := ⟨rfl, by rw [repAs_length r2]; exact l2⟩
  unfold ordK
  rw [if_pos e1]
  exact ⟨by rw [List.nil_append, e1.2, hmn], ad2, bs, M2, Post, s2, r2, hA, fun v H3 ad3 a3 M3 n3 s3 r3 p3 => q v H3 ad3 a3 M3 (n2.trans n3) s3 r3 p3⟩
/-- a new list goes into the store at once -/
theorem x_N (h : EvF c δ M e fun ds M1 => Post (.mut M1.length) (M1 ++ [.lst ds])) : EvX c δ M e Post := fun y σ H ad he hs Q q =>
  h y σ H ad he hs Q fun pq xs H2 ad2 ds M2 n s f1 f2 f3 f4 z => q (.ref pq) H2 (ad2 ++ [pq]) (.mut M2.length) _ (push_nx n f1 f2) (s.push (m := .lst ds) f2 ⟨xs, f3, f4⟩) ⟨pq, by rw [← s.len, List.getElem?_append_right (Nat.le_refl _), Nat.sub_self]; rfl, rfl⟩ z
/-- x, y = a, b -/
theorem s_p2 {D : AE} {x2 : Str} {i j : Nat} {px py pt pt2 : Pos} {kt k2 : Nat} [hi : VarAt c.N x i] [hj : VarAt c.N x2 j] [hk : NamesOk c.N] (hij : i ≠ j) (hx : c.sc.names.lookup x = some .local) (hy : c.sc.names.lookup x2 = some .local)
    (h : EvA c δ M [a, b] fun as M1 => ∃ v w, as = [v, w] ∧ D.nx ((δ.set i (some v)).set j (some w)) M1)
    (hw : ∀ env : Env, env.scope = c.sc → swappedStores [.Tuple [.Name x px, .Name x2 py] kt pt] (.Tuple [a, b] k2 pt2) env = pure (some [x, x2]))
    (hs1 : ∀ env, swapsWithSole [.Tuple [.Name x px, .Name x2 py] kt pt] (.Tuple [a, b] k2 pt2) pos.line env = pure false) :
    Run1 c δ M (.Assign [.Tuple [.Name x px, .Name x2 py] kt pt] (.Tuple [a, b] k2 pt2) pos) D := s_par i j hi.get hj.get hk.nd hij hx hy h hw hs1
theorem swaps_of {S : Scope} {ts : List Expr} {v : Expr} {r : Sem (Option (List Str))} (h : ∀ (env : Env), swappedStores ts v { env with scope := S } = r) : ∀ env : Env, env.scope = S → swappedStores ts v env = r := fun env e => by
  have := h env
  rw [← e] at this
  exact this
/-- xs * n, a new list -/
theorem f_repL {Pf : List D → List MO → Prop} (h : EvX c δ M a fun x M1 => EvX c δ M1 b fun y M2 => ∃ (ds : List D) (n : Int), IsL M2 x ds ∧ y = .dat (.int n) ∧ 0 ≤ n ∧ n ≤ 1000 ∧ ds.length ≤ 1000 ∧ Pf (List.replicate n.toNat ds).flatten M2) : EvF c δ M (.BinOp a .Mult b pos) Pf := fun y σ H ad he hs Q q =>
  ⟨_, pe_op op_rep wE_ok wE_ok, h y σ H ad he hs _ fun v H1 ad1 x M1 n1 s1 r1 p1 => p1 y σ H1 ad1 (he.nx n1) s1 _ fun u H2 ad2 z M2 n2 s2 r2 ⟨ds, n, hx, e2, h0, hn, hl, p2⟩ => by
    subst e2
    obtain ⟨pp, xs, rfl, h1, rr⟩ := hx.at_ s2 (r1.nx n2)
    have hm : xs.length * n.toNat ≤ 1000 * 1000 := Nat.mul_le_mul (by rw [rr.length]; exact hl) (by omega)
    refine ⟨pp, n, xs, rfl, r2, h1, by omega, by omega, Nat.le_trans hm (by decide), fun q2 hq2 => ?_⟩
    have sm := same_new (o := .lst (List.replicate n.toNat xs).flatten) hq2
    have n12 := n1.trans n2
    have reps : ∀ k : Nat, Reps c.K H2 (List.replicate k ds).flatten (List.replicate k xs).flatten := by
      intro k
      induction k with
      | zero => rfl
      | succ k ih =>
        rw [List.replicate_succ, List.replicate_succ, List.flatten_cons, List.flatten_cons]
        exact rr.append ih
    exact q q2 _ _ ad2 _ M2 (n12.trans (Nx.same sm)) (s2.same sm) (free_back n12 s2 hq2) (s2.free hq2) upd_same ((reps _).tx (Tx.same sm)) p2⟩
/-- xs + ys, a new list -/
theorem f_catL {Pf : List D → List MO → Prop} (h : EvX c δ M a fun x M1 => EvX c δ M1 b fun y M2 => ∃ ds es : List D, IsL M2 x ds ∧ IsL M2 y es ∧ ds.length + es.length ≤ 1000000 ∧ Pf (ds ++ es) M2) : EvF c δ M (.BinOp a .Add b pos) Pf := fun y σ H ad he hs Q q =>
  ⟨_, pe_op op_cat wE_ok wE_ok, h y σ H ad he hs _ fun v H1 ad1 x M1 n1 s1 r1 p1 => p1 y σ H1 ad1 (he.nx n1) s1 _ fun u H2 ad2 z M2 n2 s2 r2 ⟨ds, es, hx, hy, hl, p2⟩ => by
    obtain ⟨pp, xs, rfl, h1, rr⟩ := hx.at_ s2 (r1.nx n2)
    obtain ⟨pp2, ys, rfl, h2, rr2⟩ := hy.at_ s2 r2
    refine ⟨pp, pp2, xs, ys, rfl, rfl, h1, h2, by rw [rr.length, rr2.length]; exact Nat.le_trans hl (by decide), fun q2 hq2 => ?_⟩
    have sm := same_new (o := .lst (xs ++ ys)) hq2
    have n12 := n1.trans n2
    exact q q2 _ _ ad2 _ M2 (n12.trans (Nx.same sm)) (s2.same sm) (free_back n12 s2 hq2) (s2.free hq2) upd_same ((rr.append rr2).tx (Tx.same sm)) p2⟩
end
end Fx

/-! Fx, part H: sum of a tuple, slices by their ends, == of lists. -/
namespace L2
open PySem PySem.Spec PyProof.Rows
section
variable {prog : Program} {w : World} {A : Around} {E : Value → Shared → Prop} {s : Shared} {l : Addr} {its : List Value} {ns : List Int} {Q : Value → Shared → Prop}
theorem sum_tupRaw (hh : A.handled = none) (hl : s.heap.IsTuple l its.toArray) (hi : IntsAre its ns)
    (h : ∀ h' tk t', (∀ b o, s.heap.get? b = some o → h'.get? b = some o) → Q (.int ns.sum t') { s with heap := h', toks := tk }) : wpAny (model prog w) A (call (.builtin "sum") [.ref l]) Q E s := by
  obtain ⟨xs, e⟩ := hi.allInts.items
  have hn : numsOf (intItems xs).toList = ns := by rw [← e]; exact hi.numsOf
  rw [nums_intItems] at hn
  rw [e] at hl
  have hlt : l < s.heap.objs.size := by obtain ⟨_, e, _⟩ := hl; exact Heap.lt_size e
  refine call_sum_walkG (wpAny_pyIter_tuple hl ?_)
  refine ⟨_, _, _, _, _, _, numAt xs, rfl, Walks.tuple (A := A.in1) hh _ l (Nat.ne_of_lt hlt) (intItems xs), ⟨⟨_, Heap.get?_push_size _ rfl, rfl, rfl⟩, hl.push _⟩, fun b hb => ?_, (fun _ _ => intItems_at), fun h' tk t' hk => ?_⟩
  · show b < (s.heap.push _).objs.size
    rw [Heap.size_push]
    rcases List.mem_cons.mp hb with rfl | hb
    · exact Nat.lt_succ_self _
    · rcases List.mem_cons.mp hb with rfl | hb
      · exact Nat.lt_succ_of_lt hlt
      · cases hb
  · have := h h' tk t' fun b o e => by
      refine hk b o (fun hm => ?_) (Heap.get?_push_of_some _ e)
      rcases List.mem_cons.mp hm with e1 | hm
      · exact absurd (e1 ▸ Heap.lt_size e) (Nat.lt_irrefl _)
      · cases hm
    rw [preSum_eq, List.take_of_length_le (by simp [intItems]), hn]; exact this
end
def rSumT (K : PySem.W.Frag) : List V → Hp → VK → Prop := fun vs H Q => ∃ (a : Addr) (ns : List Int), vs = [V.ref a] ∧ SqT K H a (ns.map V.int) ∧ Q (.int ns.sum) H
theorem cr_sumT {X : Cx} (hc : X.calm = true) : CallR X (.builtin "sum") (rSumT X.K) := by
  intro pins s σ H vs us Q I r h
  obtain ⟨a, ns, rfl, hs, q⟩ := h
  obtain ⟨its, rv, hl, _⟩ := I.tuple hs
  rw [Vals.ref1 r]
  exact sum_tupRaw (I.ok.hd hc) (show s.heap.IsTuple a its.toArray from hl) rv.ints fun h' tk t' hk => ⟨.int _, H, I.kept hk, ⟨_, rfl⟩, q⟩
end L2
namespace Fx
open PySem L2
section
variable {c : SC} {δ : Dl} {M : List MO} {Post : AQ} {B : Bool → List MO → Prop}
theorem ca_sumT {ns : List Int} (h : Post (.dat (.int ns.sum)) M) : CallA c (.builtin "sum") [.dat (tI ns)] M Post := fun z H ad hs vs r Q q => by
  obtain ⟨u, rfl, pp, xs, rfl, hq, rr⟩ := repAs1 r
  rw [reps_ints.mp rr] at hq
  exact ⟨_, cr_sumT rfl, pp, ns, rfl, hq, q _ H ad (.dat (.int ns.sum)) M Nx.refl hs rfl h⟩
theorem cut_hi (ds : List D) (k : Nat) : cutD ds none (some (k : Int)) = ds.take k := by
  unfold cutD
  rw [HT.sIx_none, HT.sIx_nat, List.drop_zero, Nat.sub_zero]
  by_cases h : k ≤ ds.length
  · rw [Nat.min_eq_left h]
  · rw [Nat.min_eq_right (by omega), List.take_of_length_le (Nat.le_refl _), List.take_of_length_le (by omega)]
theorem cut_lo (ds : List D) (k : Nat) : cutD ds (some (k : Int)) none = ds.drop k := by
  unfold cutD
  rw [HT.sIx_none, HT.sIx_nat]
  by_cases h : k ≤ ds.length
  · rw [Nat.min_eq_left h, List.take_of_length_le (by rw [List.length_drop]; exact Nat.le_refl _)]
  · rw [Nat.min_eq_right (by omega), List.drop_of_length_le (by omega), List.drop_of_length_le (by omega)]
    simp
theorem c_eqL_same (n : Nat) {x y : AV} {ds es : List D} (hx : IsL M x ds) (hy : IsL M y es) (e : ds = es) (hd : ds.all (okD n) = true) (h : B true M) (hn : n ≤ 50 := by decide) : CmpR c .Eq x y M B := by
  subst e
  have py : ∀ {z : AV}, IsL M z ds → IsDat M z ∧ avPy M z = .list (pys ds) := by
    intro z hz
    rcases hz with rfl | ⟨j, rfl, hm⟩
    · exact ⟨trivial, rfl⟩
    · refine ⟨⟨ds, hm⟩, ?_⟩
      unfold avPy
      rw [hm]
  obtain ⟨a1, b1⟩ := py hx
  obtain ⟨a2, b2⟩ := py hy
  refine c_eqD a1 a2 (by rw [b1]; exact okDs_shaped hd hn) (by rw [b2]; exact okDs_shaped hd hn) ?_
  rw [b1, b2, SeqAt.eqv_refl _ (SeqAt.canLay_of_shaped (okDs_shaped hd hn))]
  exact h
theorem o_none {Po : Option Int → List MO → Prop} (h : Po none M) : EvO c δ M none Po := h
theorem o_some {e : Expr} {Po : Option Int → List MO → Prop} (h : EvX c δ M e fun a M1 => ∃ i, a = .dat (.int i) ∧ Po (some i) M1) : EvO c δ M (some e) Po := h
end
end Fx

/-! Fx, part I: len(set(a) & set(b)), tuples of ints. -/
namespace L2
open PySem PySem.Spec PyProof.Rows
section
variable {P : Program} {w : World} {A : Around} {E : Value → Shared → Prop} {s : Shared} {a : Addr} {es : Array (Int × Value)} {ep : Nat} {t : SetTable}
theorem setWalk_at {Q : Array (Int × Value) → Shared → Prop} (ha : SetAt s.heap a es ep t) (hf : t.fits es.size = true) (hl : w.params.followText "set-order" = true ∨ t.led = true)
    (h : ∀ ys d, ys.toList.Perm es.toList → Q ys { s with drawn := d }) : wpAny (model P w) A (setWalk a) Q E s := by
  obtain ⟨o, ho, _, hd⟩ := ha
  unfold setWalk
  refine wpAny_bind (wpAny_setState_of ho hd hf ?_)
  dsimp only
  refine wpAny_bind (wpAny_byText ?_)
  cases hb : w.params.followText "set-order" with
  | true =>
    refine wp_if_pos rfl ?_
    exact wpAny_bind (wpAny_askSetting (wpAny_pure (h _ s.drawn (pick_perm _ es))))
  | false =>
    have hled : t.led = true := hl.resolve_left (by rw [hb]; exact Bool.false_ne_true)
    refine wp_if_neg Bool.false_ne_true ?_
    try refine wpAny_bind (wpAny_pure ?_)
    cases hdr : (!t.plain && decide (es.size > 1)) with
    | true =>
      refine wp_if_pos (by show (!t.plain && decide (es.size > 1)) = true; exact hdr) ?_
      refine wpAny_bind (drawOrder_at _ _ _ _ (by rw [Array.length_toList]; exact Nat.le_refl _) fun ys d hp => wpAny_pure (h _ d ?_))
      exact hp
    | false =>
      refine wp_if_neg (by show ¬ ((!t.plain && decide (es.size > 1)) = true); rw [hdr]; exact Bool.false_ne_true) ?_
      try refine wpAny_bind (wpAny_pure ?_)
      refine wpAny_bind (wpAny_of_eq (a := ()) ?_ ?_)
      · show (if (!t.led && decide (es.size > 1)) = true then unsupported "set:maker-not-led" else pure ()) = pure ()
        rw [hled] <;> rfl
      · exact wpAny_pure (h _ s.drawn (List.Perm.refl _))
theorem setsQuiet_ints {Q : Bool → Shared → Prop} {sets : List Addr} (hs : ∀ b ∈ sets, ∃ es ep t, SetAt s.heap b es ep t ∧ t.fits es.size = true ∧ ∀ e ∈ es.toList, GoodE e) (h : Q true s) : wpAny (model P w) A (setsQuiet sets) Q E s := by
  unfold setsQuiet
  refine wpAny_bind (wpAny_forIn_list _ (fun rest b s' => (∀ x ∈ rest, x ∈ sets) ∧ b = ⟨none, ()⟩ ∧ s' = s) _ ?_ ?_ sets _ ⟨fun _ h => h, rfl, rfl⟩)
  · rintro x rest b s' ⟨hx, rfl, rfl⟩
    obtain ⟨es, ep, t, ⟨o, ho, _, hd⟩, hf, g⟩ := hs x (hx x List.mem_cons_self)
    refine wpAny_bind (wpAny_setEntries_of ho hd hf ?_)
    refine wpAny_bind (PySem.MeetsSeq2.wpAny_forIn_array _ (fun rest b s'' => (∀ x ∈ rest, x ∈ es.toList) ∧ b = ⟨none, ()⟩ ∧ s'' = s') _ ?_ ?_ es _ ⟨fun _ h => h, rfl, rfl⟩)
    · rintro y rest2 b s'' ⟨hy, rfl, rfl⟩
      obtain ⟨k, tk, e1, e2⟩ := g y (hy y List.mem_cons_self)
      obtain ⟨y1, y2⟩ := y
      simp only at e1
      subst e1
      exact wpAny_pure ⟨fun z hz => hy z (List.mem_cons_of_mem _ hz), rfl, rfl⟩
    · rintro b s'' ⟨_, rfl, rfl⟩
      exact wpAny_pure ⟨fun z hz => hx z (List.mem_cons_of_mem _ hz), rfl, rfl⟩
  · rintro b s' ⟨_, rfl, rfl⟩
    exact wpAny_pure h
theorem walkUnseen_at {Q : Array (Int × Value) → Shared → Prop} {r b : Addr} {S : Int → Bool} {n : Nat} (ha : SetAt s.heap a es ep t) (hf : t.fits es.size = true) (g : ∀ e ∈ es.toList, GoodE e) (hl : w.params.followText "set-order" = true ∨ t.led = true)
    (hb : SetR w s.heap b S n) (hr : SetR w s.heap r (fun _ => false) 0) (hra : r ≠ a)
    (h : ∀ ys d h', ys.toList.Perm es.toList → Heap.SameBut r s.heap h' → SetR w h' r (fun _ => false) 0 → Q ys { s with heap := h', drawn := d }) : wpAny (model P w) A (setWalkUnseen a [b, r] (some r)) Q E s := by
  obtain ⟨o, ho, hcl, hd⟩ := id ha
  unfold setWalkUnseen
  refine wpAny_bind (wpAny_setState_of ho hd hf ?_)
  dsimp only
  refine wpAny_bind (wpAny_byText ?_)
  have walk : wpAny (model P w) A (setWalk a) Q E s := setWalk_at ha hf hl fun ys d hp => h ys d s.heap hp (Heap.SameBut.refl r s.heap) hr
  cases hc : (w.params.followText "set-order" || (t.led && t.plain) || decide (es.size ≤ 1)) with
  | true =>
    refine wp_if_pos (by first | rfl | exact hc) ?_
    first | exact walk | exact wpAny_bind (wpAny_mono walk (fun ys s' q => wpAny_pure q) fun _ _ e => e)
  | false =>
    refine wp_if_neg (by first | exact Bool.false_ne_true | (rw [hc]; exact Bool.false_ne_true)) ?_
    try refine wpAny_bind (wpAny_pure ?_)
    obtain ⟨or', er, epr, tr, hor, hexr, hdr, gr, ndr, hmr, hbr, hfr, hnr, hrr, hlr⟩ := id hr
    have q1 : ∀ x ∈ [a, b, r], ∃ es ep t, SetAt s.heap x es ep t ∧ t.fits es.size = true ∧ ∀ e ∈ es.toList, GoodE e := by
      intro x hx
      rcases List.mem_cons.mp hx with rfl | hx
      · exact ⟨es, ep, t, ha, hf, g⟩
      rcases List.mem_cons.mp hx with rfl | hx
      · obtain ⟨o2, e2, ep2, t2, ho2, hex2, hd2, g2, _, _, _, hf2, _⟩ := hb
        exact ⟨e2, ep2, t2, ⟨o2, ho2, hex2.1, hd2⟩, hf2, g2⟩
      · rw [List.mem_singleton.mp hx]
        exact ⟨er, epr, tr, ⟨or', hor, hexr.1, hdr⟩, hfr, gr⟩
    refine wpAny_bind (setsQuiet_ints q1 ?_)
    refine wp_if_neg (by simp) ?_
    try refine wpAny_bind (wpAny_pure ?_)
    refine wpAny_bind (wpAny_rule ?_)
    refine wpAny_bind (wpAny_setState_of hor hdr hfr ?_)
    dsimp only
    have er0 : er = #[] := by
      apply Array.eq_empty_of_size_eq_zero
      exact hnr
    cases hc2 : ((tr.led && !t.led) || (tr.plain && !t.plain)) with
    | false =>
      refine wp_if_neg (by first | exact Bool.false_ne_true | (rw [hc2]; exact Bool.false_ne_true)) ?_
      exact wpAny_pure (h es s.drawn s.heap (List.Perm.refl _) (Heap.SameBut.refl r s.heap) hr)
    | true =>
      refine wp_if_pos (by first | rfl | exact hc2) ?_
      refine wpAny_bind (wpAny_storeSet_of hor hdr ?_ (fits_of_scanBound hbr))
      refine wpAny_pure (h es s.drawn _ (List.Perm.refl _) (Heap.SameBut.update s.heap r _) ?_)
      have ho1 := store_at (es' := er) (t' := { tr with led := tr.led && t.led, plain := tr.plain && t.plain }) hor hdr
      refine ⟨_, er, _, _, ho1, hexr, rfl, gr, ndr, hmr, hbr, ?_, hnr, hrr, ?_⟩
      · exact hfr
      · rcases hl with z | z
        · exact .inl z
        · rcases hlr with y | y
          · exact .inl y
          · refine .inr ?_
            show (tr.led && t.led) = true
            rw [y, z]; rfl
/-- the walk over one set, asking another -/
theorem inter_loop {Q : PUnit → Shared → Prop} {wa ask r : Addr} {ew : Array (Int × Value)} {epw : Nat} {tw : SetTable} {U : Int → Bool} {n : Nat} {nm : String} (hw : SetAt s.heap wa ew epw tw) (hfw : tw.fits ew.size = true) (gw : ∀ e ∈ ew.toList, GoodE e) (ndw : (ew.toList.map keyOf).Nodup)
    (hlw : w.params.followText "set-order" = true ∨ tw.led = true) (Rq : SetR w s.heap ask U n) (Rr : SetR w s.heap r (fun _ => false) 0) (hrw : r ≠ wa) (hrq : r ≠ ask) (room : ew.size + 1 < scanBound)
    (h : ∀ (out : List Int) (d : Drawn) (h' : Heap), out.Nodup → (∀ k, k ∈ out ↔ k ∈ ew.toList.map keyOf ∧ U k = true) → SetR w h' r (fun j => decide (j ∈ out)) out.length → Heap.SameBut r s.heap h' → Q PUnit.unit { s with heap := h', drawn := d }) :
    wpAny (model P w) A (do
      let was ← setEpoch wa
      let l ← setWalkUnseen wa [ask, r] (some r)
      forIn l PUnit.unit fun x __s => do
        holding [x.snd] do
          let f ← setFind ask x.snd x.fst
          if f.isSome = true then do
            let _ ← setAddHashed r x.snd x.fst
            pure ()
          else pure ()
        Builtin.Frozenset.unchanged nm wa was
        pure (ForInStep.yield PUnit.unit)
      pure PUnit.unit) Q E s := by
  obtain ⟨ow, how, hcw, hdw⟩ := id hw
  refine wpAny_bind (wpAny_setEpoch_of how hdw hfw ?_)
  refine wpAny_bind (walkUnseen_at hw hfw gw hlw Rq Rr hrw fun ys d h1 hp sb1 Rr1 => ?_)
  have sz : ys.toList.length = ew.size := by rw [hp.length_eq, Array.length_toList]
  refine wpAny_bind (PySem.MeetsSeq2.wpAny_forIn_array _ (fun rest _ s' => ∃ (done : List (Int × Value)) (h' : Heap), done ++ rest = ys.toList ∧ s' = { s with heap := h', drawn := d } ∧ Heap.SameBut r s.heap h' ∧
    SetR w h' r (fun j => decide (j ∈ (done.map keyOf).filter U)) ((done.map keyOf).filter U).length) _ ?_ ?_ ys _ ⟨[], h1, rfl, rfl, sb1, Rr1⟩)
  · rintro x rest b s' ⟨done, h', hd, rfl, sb, R⟩
    have hx : x ∈ ys.toList := by rw [← hd]; exact List.mem_append_right _ List.mem_cons_self
    obtain ⟨k, tk, e1, e2⟩ := gw x (hp.mem_iff.mp hx)
    obtain ⟨x1, x2⟩ := x
    simp only at e1 e2
    subst e1 e2
    have Rq' : SetR w h' ask U n := Rq.at fun o e => (sb.2 ask hrq.symm).trans e
    have how' : h'.get? wa = some ow := (sb.2 wa hrw.symm).trans how
    have nd : ((done ++ (hashInt k, Value.int k tk) :: rest).map keyOf).Nodup := by
      rw [hd]
      exact (hp.map keyOf).nodup_iff.mpr ndw
    have hlen : done.length + 1 ≤ ew.size := by
      rw [← sz, ← hd, List.length_append, List.length_cons]
      omega
    have hfl : ((done.map keyOf).filter U).length ≤ done.length := Nat.le_trans (List.length_filter_le _ _) (by rw [List.length_map]; exact Nat.le_refl _)
    have hnk : k ∉ done.map keyOf := by
      rw [List.map_append, List.map_cons] at nd
      have z := (List.nodup_append.mp nd).2.2
      intro q
      exact z k q k List.mem_cons_self rfl
    have emap : (done ++ [(hashInt k, Value.int k tk)]).map keyOf = done.map keyOf ++ [k] := by rw [List.map_append]; rfl
    have tail : ∀ (R' : ForInStep PUnit → Shared → Prop) (h2 : Heap), Heap.SameBut r s.heap h2 → R' (.yield PUnit.unit) { s with heap := h2, drawn := d } →
        wpAny (model P w) A (do
          Builtin.Frozenset.unchanged nm wa epw
          pure (ForInStep.yield PUnit.unit)) R' E { s with heap := h2, drawn := d } := fun R' h2 sb2 q => by
      unfold Builtin.Frozenset.unchanged
      have how2 : h2.get? wa = some ow := (sb2.2 wa hrw.symm).trans how
      refine wpAny_bind (wpAny_bind (wpAny_setEpoch_of (s := { s with heap := h2, drawn := d }) how2 hdw hfw ?_))
      exact wp_if_neg (by simp) (wpAny_pure (wpAny_pure q))
    refine wpAny_bind (wpAny_holding ?_)
    refine wpAny_bind (wpAny_setFind_of (knd := intKind P w) (s := { s with heap := h', drawn := d }) (k := k) (intKind_is P w k tk) rfl Rq'.setOf fun f hf => ?_)
    cases hU : U k with
    | false =>
      refine wp_if_neg (by rw [hf, hU]; exact Bool.false_ne_true) (wpAny_pure ?_)
      refine tail _ h' sb ⟨done ++ [(hashInt k, Value.int k tk)], h', by rw [List.append_assoc]; exact hd, rfl, sb, ?_⟩
      rw [emap, List.filter_append, List.filter_cons, if_neg (by rw [hU]; exact Bool.false_ne_true), List.filter_nil, List.append_nil]
      exact R
    | true =>
      refine wp_if_pos (by rw [hf, hU]) ?_
      refine wpAny_bind (setR_add_hashed (s := { s with heap := h', drawn := d }) R (by omega) fun h2 sb2 R2 => wpAny_pure ?_)
      refine tail _ h2 (sb.trans sb2) ⟨done ++ [(hashInt k, Value.int k tk)], h2, by rw [List.append_assoc]; exact hd, rfl, sb.trans sb2, ?_⟩
      rw [emap, List.filter_append, List.filter_cons, if_pos hU, List.filter_nil]
      have hk2 : k ∉ (done.map keyOf).filter U := fun z => hnk (List.mem_filter.mp z).1
      rw [if_neg (by simp only [decide_eq_true_eq]; exact hk2)] at R2
      rw [List.length_append]
      have e : ∀ j, decide (j ∈ (done.map keyOf).filter U ++ [k]) = (decide (j ∈ (done.map keyOf).filter U) || decide (j = k)) := fun j => by
        by_cases h1 : j ∈ (done.map keyOf).filter U
        · rw [decide_eq_true h1, decide_eq_true (List.mem_append_left _ h1)]; rfl
        · by_cases h2 : j = k
          · rw [decide_eq_true h2, decide_eq_true (List.mem_append_right _ (by rw [h2]; exact List.mem_singleton.mpr rfl)), Bool.or_true]
          · rw [decide_eq_false h1, decide_eq_false h2, decide_eq_false (fun z => (List.mem_append.mp z).elim h1 fun y => h2 (List.mem_singleton.mp y))]; rfl
      exact R2.congr e
  · rintro b s' ⟨done, h', hd, rfl, sb, R⟩
    rw [List.append_nil] at hd
    subst hd
    refine wpAny_pure (h _ d h' ?_ (fun k => ?_) R sb)
    · exact List.Pairwise.filter _ ((hp.map keyOf).nodup_iff.mpr ndw)
    · rw [List.mem_filter, (hp.map keyOf).mem_iff]
/-- what both have -/
theorem inter_at {Q : Value → Shared → Prop} {b : Addr} {S T : Int → Bool} {n m : Nat} {nm : String} (Ra : SetR w s.heap a S n) (Rb : SetR w s.heap b T m) (hab : a ≠ b) (room : n + m + 1 < scanBound)
    (h : ∀ (out : List Int) (d : Drawn) (h' : Heap), out.Nodup → (∀ k, k ∈ out ↔ S k = true ∧ T k = true) → SetR w h' s.heap.objs.size (fun j => decide (j ∈ out)) out.length → (∀ c o, s.heap.get? c = some o → h'.get? c = some o) → Q (.ref s.heap.objs.size) { s with heap := h', drawn := d }) :
    wpAny (model P w) A (Builtin.Frozenset.intersection nm a (.ref b)) Q E s := by
  obtain ⟨oa, ea, epa, ta, hoa, hexa, hda, ga, nda, hma, hba, hfa, hna, hra, hla⟩ := id Ra
  obtain ⟨ob, eb, epb, tb, hob, hexb, hdb, gb, ndb, hmb, hbb, hfb, hnb, hrb, hlb⟩ := id Rb
  have hta : s.TypeIs (.ref a) "set" := ⟨oa, hoa, hexa.1⟩
  have hal : a < s.heap.objs.size := Heap.lt_size hoa
  have hbl : b < s.heap.objs.size := Heap.lt_size hob
  unfold Builtin.Frozenset.intersection
  refine wp_if_neg (by simp; exact fun e => hab e.symm) ?_
  try refine wpAny_bind (wpAny_pure ?_)
  refine wpAny_bind (m := Builtin.Frozenset.baseOf a) ?_
  unfold Builtin.Frozenset.baseOf
  refine wpAny_bind (wpAny_isInstance (T := "set") (b := true) hta sub_set_self (wpAny_pure ?_))
  simp only [if_true]
  refine wpAny_bind (m := newSet (.type "set")) ?_
  unfold newSet
  refine wpAny_bind (wpAny_byText ?_)
  dsimp only
  simp only [newObj]
  refine wpAny_bind (wpAny_alloc (wpAny_pure ?_))
  refine wpAny_bind (m := Builtin.Frozenset.addrOf _) (wpAny_pure ?_)
  refine wpAny_bind (wpAny_holding ?_)
  have keep0 : ∀ c o, s.heap.get? c = some o → (s.heap.push { cls := .type "set", dict := none, data := .set #[] 0 (.fresh 0 0 (!w.params.followText "set-order")) }).get? c = some o := fun c o e => Heap.get?_push_of_some _ e
  have Rr := setR_fresh (h := s.heap) w
  have Ra1 := Ra.at (keep0 a)
  have Rb1 := Rb.at (keep0 b)
  generalize hh0 : s.heap.push { cls := .type "set", dict := none, data := .set #[] 0 (.fresh 0 0 (!w.params.followText "set-order")) } = h0 at keep0 Rr Ra1 Rb1
  have htb : Shared.TypeIs { s with heap := h0 } (.ref b) "set" := ⟨ob, keep0 _ _ hob, hexb.1⟩
  refine wpAny_bind (m := Builtin.Frozenset.isAnySet _) ?_
  unfold Builtin.Frozenset.isAnySet
  refine wpAny_bind (wpAny_isInstance (T := "set") (b := true) htb sub_set_self ?_)
  refine wpAny_pure ?_
  refine wp_if_pos rfl ?_
  refine wpAny_bind (m := Builtin.Frozenset.addrOf _) (wpAny_pure ?_)
  unfold Builtin.Frozenset.sizeOf
  refine wpAny_bind (wpAny_bind (wpAny_setEntries_of (s := { s with heap := h0 }) (keep0 _ _ hob) hdb hfb (wpAny_pure ?_)))
  refine wpAny_bind (wpAny_bind (wpAny_setEntries_of (s := { s with heap := h0 }) (keep0 _ _ hoa) hda hfa (wpAny_pure ?_)))
  have fin : ∀ (out : List Int) (d : Drawn) (h' : Heap), out.Nodup → (∀ k, k ∈ out ↔ S k = true ∧ T k = true) → SetR w h' s.heap.objs.size (fun j => decide (j ∈ out)) out.length → Heap.SameBut s.heap.objs.size h0 h' →
      wpAny (model P w) A (pure (Value.ref s.heap.objs.size)) Q E { s with heap := h', drawn := d } := fun out d h' h1 h2 h3 sb =>
    wpAny_pure (h out d h' h1 h2 h3 fun c o e => (sb.2 c (Nat.ne_of_lt (Heap.lt_size e))).trans (keep0 c o e))
  by_cases hsz : eb.size > ea.size
  · simp only [if_pos hsz]
    exact inter_loop (s := { s with heap := h0 }) ⟨oa, keep0 _ _ hoa, hexa.1, hda⟩ hfa ga nda hla Rb1 Rr (Nat.ne_of_gt hal) (Nat.ne_of_gt hbl) (by omega) fun out d h' h1 h2 h3 sb => fin out d h' h1 (fun k => by rw [h2 k, hma k]) h3 sb
  · simp only [if_neg hsz]
    exact inter_loop (s := { s with heap := h0 }) ⟨ob, keep0 _ _ hob, hexb.1, hdb⟩ hfb gb ndb hlb Ra1 Rr (Nat.ne_of_gt hbl) (Nat.ne_of_gt hal) (by omega) fun out d h' h1 h2 h3 sb => fin out d h' h1 (fun k => by rw [h2 k, hmb k, And.comm]) h3 sb
theorem entry_set_and9 : entryFor table "set.__and__" = some Builtin.«frozenset.__and__» :=
  entryFor_alias (id' := "frozenset.__and__") (by kernel_rfl) rfl (by decide +kernel) (by kernel_rfl)
/-- set & set -/
theorem and_at {Q : Value → Shared → Prop} {b : Addr} {S T : Int → Bool} {n m : Nat} (Ra : SetR w s.heap a S n) (Rb : SetR w s.heap b T m) (hab : a ≠ b) (room : n + m + 1 < scanBound)
    (h : ∀ (out : List Int) (d : Drawn) (h' : Heap), out.Nodup → (∀ k, k ∈ out ↔ S k = true ∧ T k = true) → SetR w h' s.heap.objs.size (fun j => decide (j ∈ out)) out.length → (∀ c o, s.heap.get? c = some o → h'.get? c = some o) → Q (.ref s.heap.objs.size) { s with heap := h', drawn := d }) :
    wpAny (model P w) A (binaryOp .BitAnd (.ref a) (.ref b)) Q E s := by
  obtain ⟨oa, ea, epa, ta, hoa, hexa, hda, _⟩ := id Ra
  obtain ⟨ob, eb, epb, tb, hob, hexb, hdb, _⟩ := id Rb
  have hta : s.TypeIs (.ref a) "set" := ⟨oa, hoa, hexa.1⟩
  have htb : s.TypeIs (.ref b) "set" := ⟨ob, hob, hexb.1⟩
  refine wpAny_binaryOp_same (op := .BitAnd) hta htb F.fills_set_and F.slot_set_and ?_
  refine wpAny_call_entry F.slot_set_and hta entry_set_and9 ?_ (F.args_set_and_2 _ _)
  unfold Builtin.«frozenset.__and__»
  refine wpAny_bind (m := Builtin.Frozenset.slot1 "__and__" _) (wpAny_of_eq (a := (.ref a, .ref b)) (by rfl) ?_)
  dsimp only
  simp only [Bool.false_eq_true, if_false]
  refine wpAny_bind ?_
  refine wpAny_bind (m := Builtin.Frozenset.isAnySet _) ?_
  unfold Builtin.Frozenset.isAnySet
  refine wpAny_bind (wpAny_isInstance (T := "set") (b := true) hta sub_set_self (wpAny_pure ?_))
  refine wpAny_bind (wpAny_isInstance (T := "set") (b := true) htb sub_set_self (wpAny_pure ?_))
  refine wp_if_neg (by simp) ?_
  try refine wpAny_bind (wpAny_pure ?_)
  refine wpAny_bind (inter_at Ra Rb hab room fun out d h' h1 h2 h3 k => wpAny_pure ⟨_, rfl, (by intro z; cases z), h out d h' h1 h2 h3 k⟩)
end
end L2

namespace L2
open PySem PySem.Spec PyProof.Rows
/-- a set of ints at a, the ints of out -/
def SetO (w : World) (a : Addr) (S : Int → Bool) (n : Nat) : HO := .ext fun h => SetR w h a S n
theorem setO_new {P : Program} {w : World} {H : Hp} {h : Heap} {a : Addr} {S : Int → Bool} {n : Nat} (R : SetR w h a S n) : ObjOk P w H h a (SetO w a S n) := by
  obtain ⟨o, es, ep, t, ho, r⟩ := id R
  exact ⟨R, ⟨o, ho⟩, fun h1 h2 p k => SetR.at p k⟩
section
variable {X : Cx}
def rSetOfI (K : PySem.W.Frag) (w : World) : List V → Hp → VK → Prop := fun xs H Q => ∃ (l : Addr) (ns : List Int), xs = [V.ref l] ∧ SqT K H l (ns.map V.int) ∧ ns.length ≤ 1000 ∧
  ∀ a n, H a = none → n ≤ ns.length → Q (.ref a) (upd H a (SetO w a (fun j => decide (j ∈ ns)) n))
theorem cr_setOfI9 (hc : X.calm = true) : CallR X (.type "set") (rSetOfI X.K X.w) := by
  intro pins s σ H xs us Q I r h
  obtain ⟨l, ns, rfl, hl, hf, q⟩ := h
  rw [Vals.ref1 r]
  obtain ⟨its, rv, pt, hz⟩ := I.tuple hl
  have hn : H s.heap.objs.size = none := I.hok.fresh (Nat.le_refl _)
  have hi : IntsAre its.toArray.toList ns := ints_of_vals rv
  refine call_set_tupI ns (I.ok.hd hc) (show s.heap.IsTuple l its.toArray from pt) hi (by unfold scanBound; omega) fun h' tk c R1 hcn k => ?_
  exact ⟨.ref s.heap.objs.size, upd H s.heap.objs.size (SetO X.w s.heap.objs.size (fun j => decide (j ∈ ns)) c), I.laid (t' := tk) k (Nat.le_refl _) (setO_new R1), rfl, q _ c hn hcn⟩
def rAndI (w : World) : R2 := fun x y H Q => ∃ (a b : Addr) (S T : Int → Bool) (n m : Nat), x = .ref a ∧ y = .ref b ∧ a ≠ b ∧ H a = some (SetO w a S n) ∧ H b = some (SetO w b T m) ∧ n ≤ 1000 ∧ m ≤ 1000 ∧
  ∀ c (out : List Int), H c = none → out.Nodup → (∀ k, k ∈ out ↔ S k = true ∧ T k = true) → Q (.ref c) (upd H c (SetO w c (fun j => decide (j ∈ out)) out.length))
theorem op_andI : OpR X (binaryOp .BitAnd) (rAndI X.w) := by
  intro pins s σ H x y v u Q I rx ry h
  obtain ⟨a, b, S, T, n, m, rfl, rfl, hab, ha, hb, hn, hm, q⟩ := h
  cases rx
  cases ry
  have Ra : SetR X.w s.heap a S n := (I.hok a _ ha).1
  have Rb : SetR X.w s.heap b T m := (I.hok b _ hb).1
  have hnn : H s.heap.objs.size = none := I.hok.fresh (Nat.le_refl _)
  refine and_at Ra Rb hab (by unfold scanBound; omega) fun out d h' h1 h2 h3 k => ?_
  refine ⟨.ref s.heap.objs.size, upd H s.heap.objs.size (SetO X.w s.heap.objs.size (fun j => decide (j ∈ out)) out.length), ?_, rfl, q _ out hnn h1 h2⟩
  exact I.call (ch := []) (g' := s.gens) (t' := s.toks) (Un.laid k (Nat.le_refl _) hnn) (I.hok.laid k (Nat.le_refl _) (setO_new h3)) I.bare (fun _ z => nomatch z)
def rLenSet (w : World) : List V → Hp → VK → Prop := fun xs H Q => ∃ (a : Addr) (S : Int → Bool) (n : Nat), xs = [V.ref a] ∧ H a = some (SetO w a S n) ∧ Q (.int (n : Nat)) H
theorem cr_lenSet9 : CallR X (.builtin "len") (rLenSet X.w) := by
  intro pins s σ H xs us Q I r h
  obtain ⟨a, S, n, rfl, ha, q⟩ := h
  rw [Vals.ref1 r]
  have Ra : SetR X.w s.heap a S n := (I.hok a _ ha).1
  obtain ⟨o, es, ep, t, ho, hex, hd, g, nd, hm, hb, hf, hn, _⟩ := Ra
  have hsb : scanBound = 4096 := rfl
  refine call_len_set ho hex hd hf (by omega) ⟨.int (n : Nat), H, I.tok _, ⟨_, by rw [hn]⟩, q⟩
end
end L2
namespace Fx
open PySem L2
section
variable {c : SC} {δ : Dl} {M : List MO} {Post : AQ} {a b : Expr} {p1 p2 p3 p4 p5 p6 pos : Pos}
/-- len(set(a) & set(b)) -/
theorem x_same (hl : c.gl "len") (hlm : c.mg "len" = none) (hs : c.gl "set") (hsm : c.mg "set" = none)
    (h : EvX c δ M a fun x M1 => ∃ ns : List Int, x = .dat (tI ns) ∧ ns.length ≤ 1000 ∧ EvX c δ M1 b fun y M2 => ∃ ms : List Int, y = .dat (tI ms) ∧ ms.length ≤ 1000 ∧ ∀ out : List Int, out.Nodup → (∀ k, k ∈ out ↔ k ∈ ns ∧ k ∈ ms) → Post (.dat (.int (out.length : Nat))) M2)
    (sa : ∀ env, starEach [a] env = (false, eval a env) :: starEach [] env) (sb : ∀ env, starEach [b] env = (false, eval b env) :: starEach [] env) :
    EvX c δ M (.Call (.Name "len" p1) [.BinOp (.Call (.Name "set" p2) [a] [] p3) .BitAnd (.Call (.Name "set" p4) [b] [] p5) p6] [] pos) Post := fun y σ H ad he hst Q q => by
  refine ⟨_, pe_callB (X := y.cx) cr_lenSet9 (glS y hl) hlm PySem.boot_len (pa_cons (pe_op op_andI (pe_callTy (cr_setOfI9 rfl) (glS y hs) hsm PyProof.Rows.boot_set (pa_cons wE_ok pa_nil (sa y.env)) (by decide) (by decide) (sa y.env) (by rfl)) (pe_callTy (cr_setOfI9 rfl) (glS y hs) hsm PyProof.Rows.boot_set (pa_cons wE_ok pa_nil (sb y.env)) (by decide) (by decide) (sb y.env) (by rfl))) pa_nil (by rfl)) (by decide) (by decide) (by rfl) (by rfl), ?_⟩
  refine h y σ H ad he hst _ fun xv H1 ad1 ax M1 n1 s1 r1 p1 => ?_
  obtain ⟨ns, rfl, hl1, p1⟩ := p1
  obtain ⟨pa, xs, rfl, hq, rr⟩ := r1
  rw [reps_ints.mp rr] at hq
  refine ⟨pa, ns, rfl, hq, hl1, fun q1 c1 hq1 hc1 => ?_⟩
  have sm1 := same_new (o := SetO c.w q1 (fun j => decide (j ∈ ns)) c1) hq1
  have n2 := n1.trans (Nx.same (ad := ad1) sm1)
  have fq1 : q1 ∉ ad1 := s1.free hq1
  refine p1 y σ _ ad1 (he.nx n2) (s1.same sm1) _ fun yv H3 ad3 ay M3 n3 s3 r3 p3 => ?_
  obtain ⟨ms, rfl, hl2, p3⟩ := p3
  obtain ⟨pb, ys, rfl, hq', rr'⟩ := r3
  rw [reps_ints.mp rr'] at hq'
  refine ⟨pb, ms, rfl, hq', hl2, fun q2 c2 hq2 hc2 => ?_⟩
  have sm2 := same_new (o := SetO c.w q2 (fun j => decide (j ∈ ms)) c2) hq2
  have k1 : H3 q1 = some (SetO c.w q1 (fun j => decide (j ∈ ns)) c1) := n3.keep q1 _ fq1 upd_same
  have n4 := (n2.trans n3).trans (Nx.same (ad := ad3) sm2)
  have s4 := s3.same sm2
  have ne : q1 ≠ q2 := ne_of_none k1 hq2
  refine ⟨q1, q2, _, _, c1, c2, rfl, rfl, ne, sm2 _ _ k1, upd_same, by omega, by omega, fun q3 out hq3 hnd hmem => ?_⟩
  have sm3 := same_new (o := SetO c.w q3 (fun j => decide (j ∈ out)) out.length) hq3
  refine ⟨q3, _, out.length, rfl, upd_same, q _ _ ad3 (.dat (.int (out.length : Nat))) M3 (n4.trans (Nx.same sm3)) (s4.same sm3) rfl (p3 out hnd fun k => ?_)⟩
  rw [hmem k, decide_eq_true_eq, decide_eq_true_eq]
end
end Fx

/-! Fx, part J: list.count, isinstance, t[::-1] of a tuple. -/
namespace Fx
open PySem L2
section
variable {c : SC} {δ : Dl} {M : List MO} {Post : AQ} {a b e o : Expr} {p p1 p2 p3 apos pos : Pos} {x : Str}
/-- xs.count(e), ints -/
theorem x_lcount (h : EvX c δ M o fun v M1 => ∃ ns : List Int, v = .ls (ns.map .int) ∧ EvX c δ M1 e fun w M2 => ∃ k : Int, w = .dat (.int k) ∧ Post (.dat (.int (ns.count k : Nat))) M2)
    (hbase : ∀ env, attributeBase o "count" env (eval o env) = eval o env)
    (hfew : ∀ env, ((backTo pos (starEach [e] env)).all (fun x => !x.1) && (backToKw pos (keywordEach [] env)).all (fun x => x.1.isSome) && decide ([e].length + ([] : List Keyword).length + (if ([] : List Keyword).isEmpty then 0 else 1) < 30)) = true)
    (hline : (apos.endLine == pos.line) = true) (hst : ∀ env, starEach [e] env = (false, eval e env) :: starEach [] env) : EvX c δ M (.Call (.Attribute o "count" apos) [e] [] pos) Post := fun y σ H ad he hs Q q =>
  ⟨_, pe_bm (X := y.cx) PySem.F.plainAttrs_list PySem.F.slot_list_count PySem.F.type_list_count mt_lcount wE_ok (pa_cons wE_ok pa_nil (hst y.env)) (hbase y.env) (hfew y.env) hline (hst y.env) rfl, h y σ H ad he hs _ fun v H1 ad1 a1 M1 n1 s1 r1 ⟨ns, e1, p1⟩ => by
    subst e1
    obtain ⟨qq, xs, rfl, hq, rr⟩ := id r1
    refine ⟨.inl ⟨rfl, xs, hq.sq⟩, p1 y σ H1 ad1 (he.nx n1) s1 _ fun w H2 ad2 a2 M2 n2 s2 r2 ⟨k, e2, p2⟩ => ?_⟩
    subst e2
    obtain ⟨q3, xs3, e3, hq3, rr3⟩ := r1.nx n2
    cases e3
    have hq4 := hq3.sq (K := c.K)
    rw [reps_ints.mp rr3] at hq4
    refine ⟨qq, ns, k, rfl, ?_, hq4, q _ H2 ad2 (.dat (.int (ns.count k : Nat))) M2 (n1.trans n2) s2 rfl p2⟩
    rw [show w = .int k from r2]⟩
/-- isinstance(e, T), T a built-in type -/
def tyN : AV → String
  | .dat .non => "NoneType"
  | .dat (.bl _) => "bool"
  | .dat (.int _) => "int"
  | .dat (.str _) => "str"
  | .dat (.tup _) => "tuple"
  | .tx _ => "tuple"
  | .ta _ => "tuple"
  | _ => "list"
/-- what isinstance says of a built-in type -/
def kitA (a : AV) (T : String) : Option Bool := match a with
  | .exc _ _ => none
  | .fn _ => none
  | a => kitB (tyN a) T
theorem kitA_of {a : AV} {T : String} {k : Bool} (h : kitA a T = some k) : ((∀ C fs, a ≠ .exc C fs) ∧ ∀ f, a ≠ .fn f) ∧ kitB (tyN a) T = some k := by
  cases a with
  | exc C fs => cases h
  | fn f => cases h
  | dat d => exact ⟨⟨fun _ _ z => (by cases z), fun _ z => (by cases z)⟩, h⟩
  | ls d => exact ⟨⟨fun _ _ z => (by cases z), fun _ z => (by cases z)⟩, h⟩
  | «mut» d => exact ⟨⟨fun _ _ z => (by cases z), fun _ z => (by cases z)⟩, h⟩
  | ta d => exact ⟨⟨fun _ _ z => (by cases z), fun _ z => (by cases z)⟩, h⟩
  | la d => exact ⟨⟨fun _ _ z => (by cases z), fun _ z => (by cases z)⟩, h⟩
  | scr d => exact ⟨⟨fun _ _ z => (by cases z), fun _ z => (by cases z)⟩, h⟩
  | tx d => exact ⟨⟨fun _ _ z => (by cases z), fun _ z => (by cases z)⟩, h⟩
theorem ty_of {K : PySem.W.Frag} {ad : List Addr} {H : Hp} (S : StOk K ad H M) : ∀ {a : AV} {v : V}, RepA K ad H a v → (∀ j, a = .mut j → ∃ ds, M[j]? = some (.lst ds)) → (∀ ns, a ≠ .scr ns) → ((∀ C fs, a ≠ .exc C fs) ∧ ∀ f, a ≠ .fn f) → TyX K H v (.type (tyN a))
  | .dat .non, _, r, _, _, _ => by rw [show _ = V.non from r]; exact .base .non
  | .dat (.bl b), _, r, _, _, _ => by rw [show _ = V.bl b from r]; exact .base (.bl b)
  | .dat (.int i), _, r, _, _, _ => by rw [show _ = V.int i from r]; exact .base (.int i)
  | .dat (.str i), _, r, _, _, _ => by rw [show _ = V.str i from r]; exact .base (.str i)
  | .dat (.tup ds), _, ⟨a, xs, e, q, r⟩, _, _, _ => by
    subst e
    rcases q with (q | ⟨o, q⟩) | ⟨o, q⟩
    · exact .base (.tup q)
    · exact .fTuple q
    · obtain ⟨its, n, hk, hc, _⟩ := q
      exact .kTuple hk hc
  | .ls ds, _, ⟨a, xs, e, q, r⟩, _, _, _ => by subst e; exact .base (.lst q.1)
  | .mut j, _, ⟨a, q, e⟩, h, _, _ => by
    subst e
    obtain ⟨ds, hm⟩ := h j rfl
    obtain ⟨a2, h2, xs, h3, rr⟩ := S.obj j _ hm
    rw [q] at h2
    cases h2
    exact .base (.lst h3)
  | .la as, _, ⟨a, xs, e, q, r⟩, _, _, _ => by subst e; exact .base (.lst q.1)
  | .dat (.lis ds), _, ⟨a, xs, o, e, q, r⟩, _, _, _ => by subst e; exact .base (.frz q)
  | .ta ds, _, ⟨a, xs, e, q, r⟩, _, _, _ => by
    subst e
    rcases q with (q | ⟨o, q⟩) | ⟨o, q⟩
    · exact .base (.tup q)
    · exact .fTuple q
    · obtain ⟨its, n, hk, hc, _⟩ := q
      exact .kTuple hk hc
  | .exc C fs, _, _, _, _, h => absurd rfl (h.1 C fs)
  | .fn f, _, _, _, _, h => absurd rfl (h.2 f)
  | .scr ns, _, _, _, h, _ => absurd rfl (h ns)
  | .tx ds, _, ⟨a, xs, e, q, r⟩, _, _, _ => by
    subst e
    obtain ⟨o, q, _⟩ := q
    exact .fTuple q
theorem x_isi {T : String} (hg : c.gl "isinstance") (hm : c.mg "isinstance" = none) (hg2 : c.gl x) (hm2 : c.mg x = none) (hv : bootBuiltins x = some (.type T)) (h : EvX c δ M e fun a M1 => (∀ j, a = .mut j → ∃ ds, M1[j]? = some (.lst ds)) ∧ (∀ ns, a ≠ .scr ns) ∧ ∃ k, kitA a T = some k ∧ Post (.dat (.bl k)) M1)
    (hst : ∀ env, starEach [e, .Name x p1] env = (false, eval e env) :: starEach [.Name x p1] env) (hn : x ≠ "__name__" := by decide) (hd : (x == ("__debug__" : Str)) = false := by decide) : EvX c δ M (.Call (.Name "isinstance" p) [e, .Name x p1] [] pos) Post := fun y σ H ad he hs Q q =>
  ⟨_, pe_callB (X := y.cx) call_isi (glS y hg) hm PyProof.Rows.boot_isinstance (pa_cons wE_ok (pa_cons (pe_bltn (v := .ty T) (glS y hg2) hm2 hv rfl hn hd) pa_nil (by rfl)) (hst y.env)) (by decide) (by decide) (hst y.env) (by rfl), h y σ H ad he hs _ fun v H1 ad1 a1 M1 n1 s1 r1 ⟨h1, h2, k, hk, p1⟩ =>
    ⟨v, .ty T, .type (tyN a1), .type T, k, rfl, .ty T, ty_of s1 r1 h1 h2 (kitA_of hk).1, kit_ty (kitA_of hk).2, q _ H1 ad1 (.dat (.bl k)) M1 n1 s1 rfl p1⟩⟩
end
end Fx

/-! Fx, part K: x = [..] where x is a cell, and where it is a local. -/
namespace Fx
open PySem L2
section
variable {c : SC} {δ : Dl} {M : List MO} {Post : AQ} {a b e o tg iter elt : Expr} {ifs : List Expr} {scope : Scope} {own : List (Str × Nat)} {p p1 p2 p3 apos pos : Pos} {x : Str} {i : Nat}
theorem sw_of {S : Scope} {v : Expr} {t : Option Expr} {l : Nat} {r : Sem Bool} (h : ∀ (env : Env), swapsWith v t l { env with scope := S } = r) : ∀ env : Env, env.scope = S → swapsWith v t l env = r := fun env e => by
  have := h env
  rw [← e] at this
  exact this
/-- x = e, where the store's order hangs on the scope -/
theorem s_sc {D : AE} [hN : VarAt c.N x i] [hk : NamesOk c.N] (hx : Loc c.sc x) (hf : c.fn x = true ∨ c.sc.names.lookup x = some .local) (h : EvX c δ M e fun a M1 => D.nx (δ.set i (some a)) M1)
    (hs1 : ∀ env : Env, env.scope = c.sc → swapsWith e (some (.Name x p)) pos.line env = pure false) : Run1 c δ M (.Assign [.Name x p] e pos) D := fun y σ H ad he hs E q =>
  ⟨_, ps_set (X := y.cx) hk.nd hN.get (by show Loc y.env.scope x; rw [y.sc]; exact hx) wE_ok (hs1 y.env y.sc) (by show c.fn x = true ∨ y.env.scope.names.lookup x = some .local; rw [y.sc]; exact hf),
    h y σ H ad he hs _ fun v H2 ad2 a M2 n s r p => q.nx _ H2 ad2 _ M2 n ((he.nx n).set r) s p⟩
/-- what a plain comprehension asks, as the general one -/
theorem lc_plain {Pf : List D → List MO → Prop} {α : Type} (f : α → D) (pr : α → Bool)
    (h : EvI c δ M tg iter fun ds src M1 => ∃ (xs : List α) (g : α → D), ds = xs.map g ∧ xs.length ≤ 1000000 ∧ (∀ j, src = some j → M1[j]? = some (.lst ds)) ∧
      (∀ x, x ∈ xs → LcTurn (c.blk scope) (wipeD δ (own.map (·.2))) tg elt ifs (own.map (·.2)) (g x) M1 (fun d' M4 => pr x = true ∧ d' = f x ∧ M4 = M1) (fun M3 => pr x = false ∧ M3 = M1)) ∧ Pf ((xs.filter pr).map f) M1) :
    EvI c δ M tg iter fun ds src M1 => ds.length ≤ 1000000 ∧ ∃ I : Nat → List D → List MO → Prop, I 0 [] M1 ∧ (∀ i acc M2, I i acc M2 → ∀ j, src = some j → M2[j]? = some (.lst ds)) ∧
      (∀ i d acc M2, ds[i]? = some d → I i acc M2 → LcTurn (c.blk scope) (wipeD δ (own.map (·.2))) tg elt ifs (own.map (·.2)) d M2 (fun d' M4 => I (i + 1) (acc ++ [d']) M4) (fun M3 => I (i + 1) acc M3)) ∧ ∀ acc M2, I ds.length acc M2 → Pf acc M2 := by
  refine fun y σ H ad he hs R q => h y σ H ad he hs R fun J H1 ad1 ds src M1 n1 s1 w hP => q J H1 ad1 ds src M1 n1 s1 w ?_
  obtain ⟨xs, g, e, hl, hk, ht, hd⟩ := hP
  subst e
  refine ⟨by rw [List.length_map]; exact hl, fun i acc M2 => M2 = M1 ∧ acc = ((xs.take i).filter pr).map f, ⟨rfl, rfl⟩, fun i acc M2 hI => by rw [hI.1]; exact hk, fun i d acc M2 hi hI => ?_, fun acc M2 hI => ?_⟩
  · obtain ⟨rfl, rfl⟩ := hI
    have hl2 := (List.getElem?_eq_some_iff.mp hi).1
    rw [List.length_map] at hl2
    rw [List.getElem?_map, List.getElem?_eq_getElem hl2] at hi
    have ed : g xs[i] = d := Option.some.inj hi
    subst ed
    have et : xs.take (i + 1) = xs.take i ++ [xs[i]] := by rw [List.take_succ, List.getElem?_eq_getElem hl2]; rfl
    obtain ⟨is, his, ht'⟩ := ht xs[i] (List.getElem_mem hl2)
    refine ⟨is, his, fun y σ H ad v he r Q q => ?_⟩
    refine ht' y σ H ad v he r Q fun σ2 δ2 e2 w2 pT => q σ2 δ2 e2 w2 fun y2 σ3 H3 ad3 he3 hs3 Q3 q3 => pT y2 σ3 H3 ad3 he3 hs3 Q3 fun b H4 ad4 M4 n4 s4 pB => q3 b H4 ad4 M4 n4 s4 ⟨fun hb => (pB.1 hb).imp ?_, fun hb => ?_⟩
    · rintro a M5 ⟨d', ea, h1, h2, h3⟩
      refine ⟨d', ea, h3, ?_⟩
      rw [et, List.filter_append, List.map_append, List.filter_cons, if_pos h1, h2]
      rfl
    · obtain ⟨h1, h3⟩ := pB.2 hb
      refine ⟨h3, ?_⟩
      rw [et, List.filter_append, List.map_append, List.filter_cons, if_neg (by rw [h1]; decide)]
      show _ = _ ++ []
      rw [List.append_nil]
  · obtain ⟨rfl, rfl⟩ := hI
    rw [List.length_map, List.take_length]
    exact hd
/-- x = [..], x a local, nothing of the store changes -/
theorem s_lcP {D : AE} {α : Type} [hN : VarAt c.N x i] [hk : NamesOk c.N] (own : List (Str × Nat)) (f : α → Fx.D) (pr : α → Bool) (ok : BlkOk c.N c.sc scope own) (hxl : c.sc.names.lookup x = some .local) (hkd : c.sc.kind = .function) (hln : (p.line == pos.line) = true)
    (ha : (scope.names.any fun (n, k) => n == x && (k == .local || k == .cell)) = false)
    (h : EvI c δ M tg iter fun ds src M1 => ∃ (xs : List α) (g : α → Fx.D), ds = xs.map g ∧ xs.length ≤ 1000000 ∧ (∀ j, src = some j → M1[j]? = some (.lst ds)) ∧
      (∀ x, x ∈ xs → LcTurn (c.blk scope) (wipeD δ (own.map (·.2))) tg elt ifs (own.map (·.2)) (g x) M1 (fun d' M4 => pr x = true ∧ d' = f x ∧ M4 = M1) (fun M3 => pr x = false ∧ M3 = M1)) ∧ D.nx (δ.set i (some (.ls ((xs.filter pr).map f)))) M1)
    (hf : ∀ env x, foldedSetIterable iter env x = pure x) : Run1 c δ M (.Assign [.Name x p] (.ListComp elt [⟨tg, iter, ifs, 0⟩] scope pos) p1) D :=
  s_setLc own i hN.get hxl (fun env e => sw_true (by rw [e]; exact hkd) (by rw [e]; exact hxl) hln ha) ok hk.nd hf (lc_plain (Pf := fun ds M2 => D.nx (δ.set i (some (.ls ds))) M2) f pr h) (.inl fun ds M2 z => z)
end
end Fx

/-! Fx, part L: a, b = x, y where one is a cell; == [] of lists of data. -/
namespace Fx
open PySem L2
section
variable {c : SC} {δ : Dl} {M : List MO} {Post : AQ} {B : Bool → List MO → Prop} {e tg : Expr} {pos : Pos}
theorem s_asc {D : AE} (h : EvX c δ M e fun a M1 => EvGx c δ tg a fun δ2 => D.nx δ2 M1) (hs1 : ∀ env, swapsWithSole [tg] e pos.line env = pure false) (hw : ∀ env : Env, env.scope = c.sc → swappedStores [tg] e env = pure none)
    (h1 : ∀ env, (assignEach [tg] env).map (·.2) = [assign tg env]) : Run1 c δ M (.Assign [tg] e pos) D := fun y σ H ad he hs E q =>
  ⟨_, ps_asg wE_ok wG_ok (hs1 y.env) (hw y.env y.sc) (h1 y.env), h y σ H ad he hs _ fun v H2 ad2 a M2 n s r ⟨_, p⟩ => p y σ H2 ad2 v (he.nx n) r _ fun σ2 δ2 e2 _ p2 => q.nx σ2 H2 ad2 δ2 M2 n e2 s p2⟩
theorem eqv_nil (ds : List D) : PyData.eqv (.list (pys ds)) (.list []) = ds.isEmpty := by
  cases ds with
  | nil => simp [pys, PyData.eqv, PyData.eqvAll]
  | cons d ds => simp [pys, PyData.eqv, PyData.eqvAll]
theorem eqv_nilT (ds : List D) : PyData.eqv (.tuple (pys ds)) (.tuple []) = ds.isEmpty := by
  cases ds with
  | nil => simp [pys, PyData.eqv, PyData.eqvAll]
  | cons d ds => simp [pys, PyData.eqv, PyData.eqvAll]
theorem nil_ok : SeqAt.shaped (.list []) = true := okDs_shaped (n := 0) (ds := []) rfl (by decide)
theorem c_neNil (n : Nat) {ds : List D} (hd : ds.all (okD n) = true) (h : B (!ds.isEmpty) M) (hn : n ≤ 50 := by decide) : CmpR c .NotEq (.ls ds) (.ls []) M B := by
  refine c_neD trivial trivial (okDs_shaped hd hn) nil_ok ?_
  show B (!PyData.eqv (.list (pys ds)) (.list [])) M
  rw [eqv_nil]
  exact h
theorem c_eqNil (n : Nat) {ds : List D} (hd : ds.all (okD n) = true) (h : B ds.isEmpty M) (hn : n ≤ 50 := by decide) : CmpR c .Eq (.ls ds) (.ls []) M B := by
  refine c_eqD trivial trivial (okDs_shaped hd hn) nil_ok ?_
  show B (PyData.eqv (.list (pys ds)) (.list [])) M
  rw [eqv_nil]
  exact h
theorem c_neNilT (n : Nat) {ds : List D} (hd : ds.all (okD n) = true) (h : B (!ds.isEmpty) M) (hn : n ≤ 50 := by decide) : CmpR c .NotEq (.dat (.tup ds)) (.dat (.tup [])) M B := by
  refine c_neD trivial trivial (okD_shaped (n := n + 1) (d := .tup ds) hd (by omega)) (okD_shaped (n := 1) (d := .tup []) rfl (by decide)) ?_
  show B (!PyData.eqv (.tuple (pys ds)) (.tuple [])) M
  rw [eqv_nilT]
  exact h
theorem c_eqNilT (n : Nat) {ds : List D} (hd : ds.all (okD n) = true) (h : B ds.isEmpty M) (hn : n ≤ 50 := by decide) : CmpR c .Eq (.dat (.tup ds)) (.dat (.tup [])) M B := by
  refine c_eqD trivial trivial (okD_shaped (n := n + 1) (d := .tup ds) hd (by omega)) (okD_shaped (n := 1) (d := .tup []) rfl (by decide)) ?_
  show B (PyData.eqv (.tuple (pys ds)) (.tuple [])) M
  rw [eqv_nilT]
  exact h
theorem all_ok_tI (n : Nat) (b : List (List Int)) : (b.map tI).all (okD (n + 1)) = true := ok_tII n b
end
end Fx

/-! Fx, part M: t[::-1] of a tuple, xs[::-1] of a list. -/
namespace L2
open PySem PySem.Spec PyProof.Rows
theorem rev_pick9 (xs : Array Value) : ((List.range xs.size).filterMap fun (m : Nat) => xs[((xs.size : Int) - 1 + (m : Int) * (-1)).toNat]?).toArray = xs.toList.reverse.toArray := by
  congr 1
  have gen : ∀ k, k ≤ xs.size → ((List.range k).filterMap fun (m : Nat) => xs[((xs.size : Int) - 1 + (m : Int) * (-1)).toNat]?) = xs.toList.reverse.take k := by
    intro k
    induction k with
    | zero => intro _; rfl
    | succ k ih =>
      intro hk
      rw [List.range_succ, List.filterMap_append, ih (by omega), List.take_succ]
      congr 1
      have e : ((xs.size : Int) - 1 + (k : Int) * (-1)).toNat = xs.size - 1 - k := by omega
      have h2 : xs.size - 1 - k < xs.size := by omega
      have h3 : xs.toList.reverse[k]? = some xs[xs.size - 1 - k] := by
        rw [List.getElem?_reverse (by simpa using (show k < xs.size by omega)), Array.length_toList, Array.getElem?_toList, Array.getElem?_eq_getElem h2]
      rw [h3]
      simp only [List.filterMap_cons, List.filterMap_nil, e, Array.getElem?_eq_getElem h2, Option.toList_some]
  rw [gen xs.size (Nat.le_refl _), List.take_of_length_le (by simp)]
section
variable {prog : Program} {w : World} {A : Around} {E : Value → Shared → Prop} {s : Shared}
theorem sliceApplied_rev9 {sl : Addr} {vl vu vs : Value} {n : Nat} {Q : Int × Int × Nat → Shared → Prop} (hs : s.heap.IsSliceOf sl vl vu vs) (pl : IsPart vl none) (pu : IsPart vu none) (ps : IsPart vs (some (-1)))
    (h : Q ((n : Int) - 1, -1, n) s) : wpAny (model prog w) A (Builtin.Slice.sliceApplied (.ref sl) (pure (n : Int))) Q E s := by
  obtain ⟨os, hos, hcs, hds⟩ := id hs
  unfold Builtin.Slice.sliceApplied Builtin.Slice.sliceFields
  refine wpAny_bind (wpAny_bind (wpAny_field hos hds (x := vl) rfl (wpAny_bind (wpAny_field hos hds (x := vu) rfl (wpAny_bind (wpAny_field hos hds (x := vs) rfl (wpAny_pure ?_)))))))
  refine wpAny_bind (HT.slicePart_ ps ?_)
  show wpAny _ _ (if ((-1 : Int) == 0) = true then _ else _) _ _ s
  rw [if_neg (by decide)]
  refine wpAny_bind (HT.slicePart_ pl (wpAny_bind (HT.slicePart_ pu (wpAny_bind (wpAny_pure ?_)))))
  show wpAny _ _ (pure ((n : Int) - 1, (-1 : Int), Builtin.Slice.slicePlaces ((n : Int) - 1) (-1) (-1))) _ _ s
  have e : Builtin.Slice.slicePlaces ((n : Int) - 1) (-1) (-1) = n := by
    unfold Builtin.Slice.slicePlaces
    rw [if_neg (by decide)]
    split
    · rw [show (-(-1) : Int) = 1 by decide, Int.ediv_one]
      omega
    · omega
  rw [e]
  exact wpAny_pure h
theorem getItem_tuple_rev9 {t sl : Addr} {items : Array Value} {vl vu vs : Value} {Q : Value → Shared → Prop} (ht : IsTup s.heap t items) (hs : s.heap.IsSliceOf sl vl vu vs) (pl : IsPart vl none) (pu : IsPart vu none) (ps : IsPart vs (some (-1)))
    (h : Q (.ref s.heap.objs.size) { s with heap := s.heap.push { cls := .type "tuple", data := .seq items.toList.reverse.toArray } })
    (hsz : items.size ≤ sizeLine) : wpAny (model prog w) A (getItem (.ref t) (.ref sl)) Q E s := by
  have htake : sizeOk (.seq items.toList.reverse.toArray) := by
    show items.toList.reverse.toArray.size ≤ sizeLine
    rw [List.size_toArray, List.length_reverse, Array.length_toList]
    exact hsz
  obtain ⟨os, hos, hcs, hds⟩ := id hs
  have hTs : s.TypeIs (.ref sl) "slice" := ⟨os, hos, hcs⟩
  unfold getItem
  try with_reducible refine wpAny_holding ?_
  first | refine wpAny_bind (wpAny_pure ?_) | skip
  refine wpAny_bind (wpAny_sequenceKey ht.typeIs (by decide) ?_)
  refine wpAny_bind (wpAny_callSpecial?_slot (name := Str.ofString "__getitem__") ht.typeIs PyProof.Rows.slot_tuple_getitem
    (wpAny_call_entry PyProof.Rows.slot_tuple_getitem ht.typeIs entry_tuple_getitem ?_ (args_tuple_getitem _ _)))
  show wpAny _ _ (Builtin.Tuple.tupleItemsOf (.ref t) >>= _) _ _ s
  refine wpAny_bind (tupleItemsOf_ ht ?_)
  refine wpAny_bind (wpAny_typeOf hTs ?_)
  rw [if_pos (by decide)]
  refine wpAny_bind (sliceApplied_rev9 hs pl pu ps ?_)
  have hno : ¬ ((((items.size : Int) - 1) == 0 && (-1 : Int) == 1 && items.size == items.size) = true) := by
    intro q
    rw [Bool.and_eq_true, Bool.and_eq_true] at q
    exact absurd q.1.2 (by decide)
  show wpAny _ _ (if (((items.size : Int) - 1) == 0 && (-1 : Int) == 1 && items.size == items.size) = true then _ else _) _ _ s
  rw [if_neg hno, rev_pick9]
  first
    | exact wpAny_bind (m := Builtin.Tuple.tupleExact _) (wpAny_newObj_type (wpAny_pure ⟨_, rfl, wpAny_pure h⟩) htake)
    | exact wpAny_bind (m := Builtin.Tuple.tupleExact _) (wpAny_newObj_type (wpAny_bind (wpAny_pure (wpAny_pure ⟨_, rfl, wpAny_pure h⟩))) htake)
    | exact wpAny_bind (wpAny_bind (m := Builtin.Tuple.tupleExact _) (wpAny_newObj_type (wpAny_pure (wpAny_pure ⟨_, rfl, wpAny_pure h⟩)) htake))
    | exact wpAny_bind (wpAny_bind (m := Builtin.Tuple.tupleExact _) (wpAny_newObj_type (wpAny_pure ⟨_, rfl, wpAny_pure h⟩) htake))
end
section
variable {X : Cx}
def tRevT9 (K : PySem.W.Frag) (te : TE) : TE := fun σ H Q => te σ H fun x H1 => ∃ a xs, x = .ref a ∧ SqT K H1 a xs ∧ ∀ p, H1 p = none → Q (.ref p) (upd H1 p (.tup xs.reverse))
theorem pe_revT9 {e : Expr} {te : TE} {k : Nat} {p1 p2 p3 pos : Pos} (he : PE X e te) : PE X (.Subscript e (.Slice none none (some (.UnaryOp .USub (.Constant (.int 1) k p1) p2)) p3) pos) (tRevT9 X.K te) := by
  refine ⟨fun pins s σ H Q I h => ?_⟩
  refine Subscript_ (thn (he.run pins s σ H _ I h) fun v s1 ⟨x, H1, I1, r1, q1⟩ => ?_)
  obtain ⟨a, xs, ex, hx, q⟩ := q1
  subst ex
  cases r1
  have hst : PO X (some (.UnaryOp .USub (.Constant (.int 1) k p1) p2)) (tPart (tUn (rU fun i => .int (-i)) (tC (.int 1)))) := po_some (pe_un un_neg pe_int)
  refine wpAny_Slice (thn (po_none.run pins s1 σ H1 (fun o H2 => o = none ∧ H2 = H1) I1 ⟨rfl, rfl⟩) fun vl s2 ⟨l, H2, I2, pl, el, e2⟩ => ?_)
  subst el e2
  refine thn (po_none.run pins s2 σ H2 (fun o H3 => o = none ∧ H3 = H2) I2 ⟨rfl, rfl⟩) fun vu s3 ⟨u, H3, I3, pu, eu, e3⟩ => ?_
  subst eu e3
  refine thn (hst.run pins s3 σ H3 (fun o H4 => o = some (-1) ∧ H4 = H3) I3 ⟨1, rfl, -1, rfl, rfl, rfl⟩) fun vs s4 ⟨o, H4, I4, ps, eo, e4⟩ => ?_
  subst eo e4
  have I5 : Inv X pins σ H4 { s4 with heap := s4.heap.push { cls := .type "slice", data := .fields #[vl, vu, vs] } } := I4.kept (t' := s4.toks) fun b ob q => Heap.get?_push_of_some _ q
  obtain ⟨its, r, ht, hz⟩ := I5.tuple hx
  have hlen := r.length
  show wpAny (model X.prog X.w) X.A (subscriptTail e (.Slice none none (some (.UnaryOp .USub (.Constant (.int 1) k p1) p2)) p3) (.ref a) (.ref s4.heap.objs.size)) (EP X pins σ Q) X.xe { s4 with heap := s4.heap.push { cls := .type "slice", data := .fields #[vl, vu, vs] } }
  refine tail_any (ops := [.ref a, .ref s4.heap.objs.size]) ht.typeIs (PyProof.Rows.slot_tuple_getitem.lookup) ?_ (by with_unfolding_all rfl)
  refine getItem_tuple_rev9 ht (Heap.IsSliceOf.new _ vl vu vs) pl pu ps ?_ (by rw [List.size_toArray]; omega)
  refine ⟨.ref _, _, I5.laid (t' := s4.toks) (o := .tup xs.reverse) (fun b ob q => Heap.get?_push_of_some _ q) (Nat.le_refl _) ?_, rfl, q _ (I5.hok.fresh (Nat.le_refl _))⟩
  exact ⟨by rw [List.length_reverse]; exact hz, _, r.reverse, ⟨_, Heap.get?_push_size _ rfl, rfl, _, rfl⟩⟩
end
end L2
namespace Fx
open PySem L2
section
variable {c : SC} {δ : Dl} {M : List MO} {Post : AQ} {e : Expr} {k : Nat} {p1 p2 p3 pos : Pos}
theorem x_revT (h : EvX c δ M e fun a M1 => ∃ ds, a = .dat (.tup ds) ∧ Post (.dat (.tup ds.reverse)) M1) : EvX c δ M (.Subscript e (.Slice none none (some (.UnaryOp .USub (.Constant (.int 1) k p1) p2)) p3) pos) Post := fun y σ H ad he hs Q q =>
  ⟨_, pe_revT9 wE_ok, h y σ H ad he hs _ fun v H1 ad1 a M1 n1 s1 r1 ⟨ds, ea, p1⟩ => by
    subst ea
    obtain ⟨pp, xs, rfl, hq, rr⟩ := r1
    refine ⟨pp, xs, rfl, hq, fun p hp => ?_⟩
    have sm := same_new (o := .tup xs.reverse) hp
    exact q _ _ ad1 (.dat (.tup ds.reverse)) M1 (n1.trans (Nx.same sm)) (s1.same sm) ⟨p, _, rfl, .inl (.inl upd_same), rr.reverse.tx (Tx.same sm)⟩ p1⟩
theorem f_revL {Pf : List D → List MO → Prop} (h : EvX c δ M e fun a M1 => ∃ ds, IsL M1 a ds ∧ Pf ds.reverse M1) : EvF c δ M (.Subscript e (.Slice none none (some (.UnaryOp .USub (.Constant (.int 1) k p1) p2)) p3) pos) Pf := fun y σ H ad he hs Q q =>
  ⟨_, pe_revL wE_ok, h y σ H ad he hs _ fun v H1 ad1 a M1 n1 s1 r1 ⟨ds, hx, p1⟩ => by
    obtain ⟨pp, xs, rfl, hq, rr⟩ := hx.sq s1 r1
    refine ⟨pp, xs, rfl, hq, fun p hp => ?_⟩
    have sm := same_new (o := .lst xs.reverse) hp
    exact q p _ _ ad1 ds.reverse M1 (n1.trans (Nx.same sm)) (s1.same sm) (free_back n1 s1 hp) (s1.free hp) upd_same (rr.reverse.tx (Tx.same sm)) p1⟩
/-! ways that meet again -/
theorem s_ifF {D : AE} {t : Expr} {b1 b2 : List Stmt} (h : EvT c δ M t fun k M1 => k = false ∧ M1 = M) (k : Run c δ M b2 D) : Run1 c δ M (.If t b1 b2 pos) D :=
  s_if (h.imp fun b M1 ⟨hb, hM⟩ => by
    subst hb hM
    exact ⟨fun h => (by cases h), fun _ => k⟩)
theorem s_ifT {D : AE} {t : Expr} {b1 b2 : List Stmt} (h : EvT c δ M t fun k M1 => k = true ∧ M1 = M) (k : Run c δ M b1 D) : Run1 c δ M (.If t b1 b2 pos) D :=
  s_if (h.imp fun b M1 ⟨hb, hM⟩ => by
    subst hb hM
    exact ⟨fun _ => k, fun h => (by cases h)⟩)
theorem s_ifB {D : AE} {t : Expr} {b1 b2 : List Stmt} (v : Bool) (h : EvT c δ M t fun k M1 => k = v ∧ M1 = M) (k1 : v = true → Run c δ M b1 D) (k2 : v = false → Run c δ M b2 D) : Run1 c δ M (.If t b1 b2 pos) D :=
  s_if (h.imp fun b M1 ⟨hb, hM⟩ => by
    subst hb hM
    exact ⟨k1, k2⟩)
theorem x_eq (v : AV) (h : EvX c δ M e fun a M1 => a = v ∧ M1 = M) (k : Post v M) : EvX c δ M e Post := h.imp fun a M1 ⟨ha, hM⟩ => by
  subst ha hM
  exact k
theorem t_eq {B : Bool → List MO → Prop} {t : Expr} (v : Bool) (h : EvT c δ M t fun k M1 => k = v ∧ M1 = M) (k : B v M) : EvT c δ M t B := h.imp fun b M1 ⟨hb, hM⟩ => by
  subst hb hM
  exact k
end
end Fx

/-! Fx, part N: a dict of ints, each True. -/
namespace Fx
open PySem L2
section
variable {c : SC} {δ : Dl} {M : List MO} {Post : AQ} {a b e o f : Expr} {p p1 p2 p3 p4 p5 p6 pos : Pos}
/-! ### a dict of ints, each True -/
def addK (ks : List Int) (k : Int) : List Int := if k ∈ ks then ks else ks ++ [k]
theorem putK_add (ks : List Int) (k : Int) : putK (ks.map fun k => ((Sum.inl k : Key), V.bl true)) (Sum.inl k) (V.bl true) = (addK ks k).map fun k => ((Sum.inl k : Key), V.bl true) := by
  unfold putK addK
  by_cases h : k ∈ ks
  · rw [if_pos h, if_pos]
    · rw [List.map_map]
      apply List.map_congr_left
      intro x _
      show (if (Sum.inl x : Key) = Sum.inl k then ((Sum.inl x : Key), V.bl true) else (Sum.inl x, V.bl true)) = _
      split <;> rfl
    · rw [List.any_map, List.any_eq_true]
      exact ⟨k, h, decide_eq_true rfl⟩
  · rw [if_neg h, if_neg, List.map_append]
    · rfl
    · rw [List.any_map, List.any_eq_true]
      rintro ⟨x, hx, e⟩
      have : (Sum.inl x : Key) = Sum.inl k := of_decide_eq_true e
      exact h (Sum.inl.inj this ▸ hx)
/-- x = {} -/
theorem x_dnew (h : Post (.mut M.length) (M ++ [.kd []])) : EvX c δ M (.Dict [] [] pos) Post := fun y σ H ad he hs Q q =>
  ⟨_, pe_dnewK (X := y.cx), fun p1 h1 => by
    have sm := same_new (o := .dK []) h1
    have s1 := hs.same sm
    have f1 := hs.free h1
    exact q _ _ (ad ++ [p1]) (.mut M.length) _ (push_nx (Nx.same sm) h1 f1) (s1.push (m := .kd []) f1 upd_same) ⟨p1, by rw [← hs.len, List.getElem?_append_right (Nat.le_refl _), Nat.sub_self]; rfl, rfl⟩ h⟩
/-- d[e] = True -/
theorem s_kput {D : AE} {jt : Nat} {pt : Pos} (h : EvX c δ M o fun v M2 => EvX c δ M2 f fun u M3 => ∃ (i : Int) (j : Nat) (ks : List Int), v = .mut j ∧ u = .dat (.int i) ∧ M3[j]? = some (.kd ks) ∧ ks.length < 1000000 ∧ D.nx δ (M3.set j (.kd (addK ks i))))
    (hs1 : ∀ env, swapsWith (.Constant (.bool true) jt pt) (some (.Subscript o f p1)) pos.line env = pure false) : Run1 c δ M (.Assign [.Subscript o f p1] (.Constant (.bool true) jt pt) pos) D := fun y σ H ad he hs E q =>
  ⟨_, ps_dput (X := y.cx) (hu_of y.room) wE_ok wE_ok pe_bl (hs1 y.env), h y σ H ad he hs _ fun v H2 ad2 a2 M2 n2 s2 r2 p2 => p2 y σ H2 ad2 (he.nx n2) s2 _ fun u H3 ad3 a3 M3 n3 s3 r3 ⟨i, j, ks, e2, e3, hm, hl, p3⟩ => by
    subst e2 e3
    obtain ⟨qq, hq, rfl⟩ := r2.nx n3
    obtain ⟨a4, h4, hH⟩ := s3.obj j _ hm
    rw [hq] at h4
    cases h4
    obtain rfl : u = V.int i := r3
    have hH : H3 qq = some (.dK (ks.map fun k => (Sum.inl k, V.bl true))) := hH
    obtain ⟨s4, n4⟩ := s3.put (m := .kd (addK ks i)) (o := .dK ((addK ks i).map fun k => (Sum.inl k, V.bl true))) hq upd_same
    have n14 := (n2.trans n3).trans n4
    have hlt : (ks.map fun k => ((Sum.inl k : Key), V.bl true)).length < sizeLine := by
      rw [List.length_map]
      have h24 : sizeLine = 16777216 := sizeLine_eq
      omega
    refine ⟨qq, _, rfl, DPut.k (k := Sum.inl i) hH hlt, ?_⟩
    rw [putK_add]
    exact q.nx σ _ ad3 δ _ n14 (he.nx n14) s4 p3⟩
/-- sorted(d) -/
theorem cf_sortedK {Pf : List D → List MO → Prop} {j : Nat} {ks : List Int} (hm : M[j]? = some (.kd ks)) (hl : ks.length < 64) (h : ∀ ns : List Int, ns.Perm ks → ns.Pairwise (· ≤ ·) → Pf (ns.map .int) M) : CallF c (.builtin "sorted") [.mut j] M Pf := fun z H ad hs vs r Q q => by
  obtain ⟨u, rfl, ru⟩ := repAs1 r
  obtain ⟨qq, hq, rfl⟩ := ru
  obtain ⟨a4, h4, hH⟩ := hs.obj j _ hm
  rw [hq] at h4
  cases h4
  refine ⟨_, call_sortedDI rfl, qq, _, ks, rfl, .inl hH, ?_, hl, fun ns' q' h1 h2 hn => ?_⟩
  · rw [List.map_map]
    rfl
  have sm := same_new (o := .lst (ns'.map V.int)) hn
  exact q q' _ _ ad (ns'.map .int) M (Nx.same sm) (hs.same sm) hn (hs.free hn) upd_same (reps_ints.mpr rfl) (h ns' h1 h2)
end
end Fx

/-! Fx, part O: x = [..] into the store; enumerate over a list; list.index of ints. -/
namespace Fx
open PySem L2
section
variable {c : SC} {δ : Dl} {M : List MO} {Post : AQ} {a b e o tg iter elt : Expr} {ifs : List Expr} {scope : Scope} {own : List (Str × Nat)} {p p1 p2 p3 apos pos tpos : Pos} {x : Str} {i : Nat} {Pi : List D → Option Nat → List MO → Prop} {elts : List Expr} {kk : Nat}
/-- x = [..], x a local, the list goes into the store -/
theorem s_lcN {D : AE} {α : Type} [hN : VarAt c.N x i] [hk : NamesOk c.N] (own : List (Str × Nat)) (f : α → Fx.D) (pr : α → Bool) (ok : BlkOk c.N c.sc scope own) (hxl : c.sc.names.lookup x = some .local) (hkd : c.sc.kind = .function) (hln : (p.line == pos.line) = true)
    (ha : (scope.names.any fun (n, k) => n == x && (k == .local || k == .cell)) = false)
    (h : EvI c δ M tg iter fun ds src M1 => ∃ (xs : List α) (g : α → Fx.D), ds = xs.map g ∧ xs.length ≤ 1000000 ∧ (∀ j, src = some j → M1[j]? = some (.lst ds)) ∧
      (∀ x, x ∈ xs → LcTurn (c.blk scope) (wipeD δ (own.map (·.2))) tg elt ifs (own.map (·.2)) (g x) M1 (fun d' M4 => pr x = true ∧ d' = f x ∧ M4 = M1) (fun M3 => pr x = false ∧ M3 = M1)) ∧ D.nx (δ.set i (some (.mut M1.length))) (M1 ++ [.lst ((xs.filter pr).map f)]))
    (hf : ∀ env x, foldedSetIterable iter env x = pure x) : Run1 c δ M (.Assign [.Name x p] (.ListComp elt [⟨tg, iter, ifs, 0⟩] scope pos) p1) D :=
  s_setLc own i hN.get hxl (fun env e => sw_true (by rw [e]; exact hkd) (by rw [e]; exact hxl) hln ha) ok hk.nd hf (lc_plain (Pf := fun ds M2 => D.nx (δ.set i (some (.mut M2.length))) (M2 ++ [.lst ds])) f pr h) (.inr fun ds M2 z => z)
theorem walks_enumL {K : PySem.W.Frag} {ad : List Addr} {H : Hp} {ds : List D} {q : Addr} {xs : List V} (hq : LstAt ad H q xs) (rr : Reps K H ds xs) : Walks K (Ite K q) ad H (enumD ds) none := fun ad2 H2 M2 n s _ i => by
  have hq2 := (hq.nx n).sq (K := K)
  have rr2 := rr.tx n.tx
  refine ⟨fun d hd => ?_, fun e => ⟨xs, hq2, by rw [rr2.length, e, enumD_len]; exact Nat.le_refl _⟩⟩
  obtain ⟨d', hd', rfl⟩ := enumD_get hd
  obtain ⟨w, hw, rw'⟩ := rr2.get hd'
  refine ⟨⟨xs, w, hq2, hw⟩, fun x H3 ⟨T, y, e1, hT, e3, hy⟩ => ?_⟩
  subst e1 e3
  have := hy xs hq2
  rw [hw] at this
  cases this
  have sm := same_new (o := .tup [.int (i : Nat), w]) hT
  exact ⟨sm, T, _, rfl, .inl (.inl upd_same), _, _, rfl, rfl, _, _, rfl, Rep.tx (Tx.same sm) rw', rfl⟩
theorem i_enumL (hm : c.mg "enumerate" = none) (hg : c.gl "enumerate") (h : EvA c δ M [e] fun as M1 => ∃ ds, as = [.ls ds] ∧ Pi (enumD ds) none M1)
    (hs1 : ∀ env, starEach [e] env = [(false, eval e env)]) : EvI c δ M (.Tuple elts kk tpos) (.Call (.Name "enumerate" p) [e] [] pos) Pi := fun y σ H ad he hs R q =>
  ⟨_, pi_enum (glS y hg) hm wA_ok (hs1 y.env), h y σ H ad he hs _ fun vs H1 ad1 as M1 n1 s1 r1 ⟨ds, e1, p1⟩ => by
    subst e1
    obtain ⟨v, e2, qq, xs, e3, hq, rr⟩ := repAs1 r1
    subst e2 e3
    exact ⟨qq, xs, rfl, hq.sq, q _ H1 ad1 _ _ M1 n1 s1 (walks_enumL hq rr) p1⟩⟩
theorem enum_map {α : Type} (xs : List α) (f : α → D) : enumD (xs.map f) = xs.zipIdx.map fun q => D.tup [.int (q.2 : Nat), f q.1] := by
  unfold enumD
  rw [List.zipIdx_map, List.map_map]
  rfl
theorem eqV_int (a b : Int) : eqV (V.int a) (V.int b) = decide (a = b) := by simp [eqV, Bool.beq_eq_decide_eq]
/-- xs.index(e), ints, e among them -/
theorem x_lindex (h : EvX c δ M o fun v M1 => ∃ ns : List Int, v = .ls (ns.map .int) ∧ EvX c δ M1 e fun w M2 => ∃ k : Int, w = .dat (.int k) ∧ k ∈ ns ∧ Post (.dat (.int (ns.idxOf k : Nat))) M2)
    (hbase : ∀ env, attributeBase o "index" env (eval o env) = eval o env)
    (hfew : ∀ env, ((backTo pos (starEach [e] env)).all (fun x => !x.1) && (backToKw pos (keywordEach [] env)).all (fun x => x.1.isSome) && decide ([e].length + ([] : List Keyword).length + (if ([] : List Keyword).isEmpty then 0 else 1) < 30)) = true)
    (hline : (apos.endLine == pos.line) = true) (hst : ∀ env, starEach [e] env = (false, eval e env) :: starEach [] env) : EvX c δ M (.Call (.Attribute o "index" apos) [e] [] pos) Post := fun y σ H ad he hs Q q =>
  ⟨_, pe_bm (X := y.cx) PySem.F.plainAttrs_list PySem.F.slot_list_index PySem.F.type_list_index mt_index wE_ok (pa_cons wE_ok pa_nil (hst y.env)) (hbase y.env) (hfew y.env) hline (hst y.env) rfl, h y σ H ad he hs _ fun v H1 ad1 a1 M1 n1 s1 r1 ⟨ns, e1, p1⟩ => by
    subst e1
    obtain ⟨qq, xs, rfl, hq, rr⟩ := id r1
    refine ⟨.inl ⟨rfl, xs, hq.sq⟩, p1 y σ H1 ad1 (he.nx n1) s1 _ fun w H2 ad2 a2 M2 n2 s2 r2 ⟨k, e2, hk, p2⟩ => ?_⟩
    subst e2
    obtain ⟨q3, xs3, e3, hq3, rr3⟩ := r1.nx n2
    cases e3
    have hq4 := hq3.sq (K := c.K)
    rw [reps_ints.mp rr3] at hq4
    have hlt := List.idxOf_lt_length_iff.mpr hk
    refine ⟨qq, ns.map V.int, V.int k, ns.idxOf k, V.int k, rfl, ?_, hq4, rfl, ?_, ?_, ?_, fun m z hm hz => ?_, q _ H2 ad2 (.dat (.int (ns.idxOf k : Nat))) M2 (n1.trans n2) s2 rfl p2⟩
    · rw [show w = .int k from r2]
    · rw [List.all_map]
      exact List.all_eq_true.mpr fun _ _ => rfl
    · rw [List.getElem?_map, List.getElem?_eq_getElem hlt, List.getElem_idxOf hlt]
      rfl
    · rw [eqV_int, decide_eq_true rfl]
    · have hml : m < ns.length := Nat.lt_trans hm hlt
      rw [List.getElem?_map, List.getElem?_eq_getElem hml] at hz
      have ez : z = V.int ns[m] := (Option.some.inj hz).symm
      rw [ez, eqV_int]
      refine decide_eq_false fun e => ?_
      have := List.not_of_lt_findIdx (p := (· == k)) (xs := ns) (i := m) (by exact hm)
      simp [e] at this⟩
/-- two ways behind a statement meet again -/
theorem s_join {D : AE} {st : Stmt} (J : Dl → List MO → Prop) (h : Run1 c δ M st { D with nx := J }) (k : ∀ δ2 M2, J δ2 M2 → D.nx δ2 M2) : Run1 c δ M st D := fun y σ H ad he hs E q =>
  h y σ H ad he hs E ⟨fun σ2 H2 ad2 δ2 M2 n e s p => q.nx σ2 H2 ad2 δ2 M2 n e s (k δ2 M2 p), q.rt, q.bk, q.ct⟩
end
end Fx

/-! Fx, part P: a, b, .. = x, y, .. of any values; int(b). -/
namespace Fx
open PySem L2
section
variable {c : SC} {δ : Dl} {M : List MO} {Post : AQ} {a b e o : Expr} {es tgs : List Expr} {p p1 p2 p3 pos pt pt2 : Pos} {x : Str} {i : Nat} {is : List Nat}
/-- targets that are names, with their places -/
inductive NT (c : SC) : List Expr → List Nat → Prop
  | nil : NT c [] []
  | cons {x : Str} {pos : Pos} {i : Nat} {tgs : List Expr} {is : List Nat} (hN : c.N[i]? = some x) (hnd : c.N.Nodup) (hx : Loc c.sc x) (hf : c.fn x = true ∨ c.sc.names.lookup x = some .local)
      (hs : ∀ env, (assignEach (.Name x pos :: tgs) env).map (·.2) = assign (.Name x pos) env :: (assignEach tgs env).map (·.2)) (h : NT c tgs is) : NT c (.Name x pos :: tgs) (i :: is)
theorem nt_c [hN : VarAt c.N x i] [hk : NamesOk c.N] (hx : Loc c.sc x) (hf : c.fn x = true ∨ c.sc.names.lookup x = some .local)
    (hs : ∀ env, (assignEach (.Name x pos :: tgs) env).map (·.2) = assign (.Name x pos) env :: (assignEach tgs env).map (·.2)) (h : NT c tgs is) : NT c (.Name x pos :: tgs) (i :: is) := .cons hN.get hk.nd hx hf hs h
def gNames : List Nat → TGs
  | [] => gNil
  | i :: is => gCons (gName i) (gNames is)
def setAll (δ : Dl) : List Nat → List AV → Dl
  | i :: is, a :: as => setAll (δ.set i (some a)) is as
  | _, _ => δ
theorem NT.pgs (h : NT c tgs is) (y : Dyn c) : PGs y.cx tgs (gNames is) := by
  induction h with
  | nil => exact pgs_nil
  | cons hN hnd hx hf hs h ih => exact pgs_cons (pg_name (X := y.cx) hnd hN (by show Loc y.env.scope _; rw [y.sc]; exact hx) (by show c.fn _ = true ∨ y.env.scope.names.lookup _ = some .local; rw [y.sc]; exact hf)) ih (hs y.env)
theorem gNames_run {K : PySem.W.Frag} {ad : List Addr} {H : Hp} : ∀ {is : List Nat} {as : List AV} {vs : List V} {σ : L2.St} {δ : Dl} {Q : L2.St → Hp → Prop}, RepAs K ad H as vs → as.length = is.length → EnvOk K ad H σ δ →
    (∀ σ2, EnvOk K ad H σ2 (setAll δ is as) → Q σ2 H) → gNames is vs σ H Q
  | [], [], vs, σ, δ, Q, r, _, e, q => ⟨r, q σ e⟩
  | i :: is, a :: as, vs, σ, δ, Q, ⟨v, r, ev, h1, h2⟩, hl, e, q => by
    subst ev
    exact ⟨v, r, rfl, gNames_run h2 (by simpa using hl) (e.set h1) q⟩
  | [], _ :: _, _, _, _, _, _, hl, _, _ => by simp at hl
  | _ :: _, [], _, _, _, _, _, hl, _, _ => by simp at hl
/-- a, b, .. = x, y, ..: a tuple is made and taken apart -/
theorem s_tupN {D : AE} {k k2 : Nat} (nt : NT c tgs is) (h : EvA c δ M es fun as M1 => as.length = is.length ∧ D.nx (setAll δ is as) M1) (hi : is.length ≤ 1000)
    (hs1 : ∀ env, swapsWithSole [.Tuple tgs k pt] (.Tuple es k2 pt2) pos.line env = pure false) (hw : ∀ env : Env, env.scope = c.sc → swappedStores [.Tuple tgs k pt] (.Tuple es k2 pt2) env = pure none)
    (h1 : ∀ env, (assignEach [.Tuple tgs k pt] env).map (·.2) = [assign (.Tuple tgs k pt) env]) (hn : ∀ env, (assignEach tgs env).length = is.length) (hst : ∀ env, (assignEach tgs env).findIdx? (·.1) = none) :
    Run1 c δ M (.Assign [.Tuple tgs k pt] (.Tuple es k2 pt2) pos) D := fun y σ H ad he hs E q =>
  ⟨_, ps_asg (pe_tup wA_ok) (pg_tup (X := y.cx) rfl (nt.pgs y) (hn y.env) (hst y.env)) (hs1 y.env) (hw y.env y.sc) (h1 y.env), h y σ H ad he hs _ fun vs H1 ad1 as M1 n1 s1 r1 ⟨hl, p1⟩ => by
    have hvl := repAs_length r1
    refine ⟨by rw [hvl, hl]; exact Nat.le_trans hi (by decide), fun p hp => ?_⟩
    have sm := same_new (o := .tup vs) hp
    have n2 := n1.trans (Nx.same (ad := ad1) sm)
    exact ⟨p, vs, rfl, .inl (.inl upd_same), by rw [hvl, hl], gNames_run (r1.nx (Nx.same sm)) hl (he.nx n2) fun σ2 e2 => q.nx σ2 _ ad1 _ M1 n2 e2 (s1.same sm) p1⟩⟩
theorem repAs3 {K : PySem.W.Frag} {ad : List Addr} {H : Hp} {a b c : AV} {vs : List V} (r : RepAs K ad H [a, b, c] vs) : ∃ u v w, vs = [u, v, w] ∧ RepA K ad H a u ∧ RepA K ad H b v ∧ RepA K ad H c w := by
  obtain ⟨x, r, e, h, rr⟩ := r
  obtain ⟨v, w, e2, h2, h3⟩ := repAs2 rr
  subst e2
  exact ⟨x, v, w, e, h, h2, h3⟩
/-- a, b, c = x, y, z, all locals -/
theorem s_p3 {D : AE} {x2 x3 : Str} {j l : Nat} {e1 e2 e3 : Expr} {px py pz : Pos} {kt k2 : Nat} [hi : VarAt c.N x i] [hj : VarAt c.N x2 j] [hl : VarAt c.N x3 l] [hk : NamesOk c.N] (hij : i ≠ j) (hil : i ≠ l) (hjl : j ≠ l) (hx : c.sc.names.lookup x = some .local) (hy : c.sc.names.lookup x2 = some .local) (hz : c.sc.names.lookup x3 = some .local)
    (h : EvA c δ M [e1, e2, e3] fun as M1 => ∃ u v w, as = [u, v, w] ∧ D.nx (((δ.set i (some u)).set j (some v)).set l (some w)) M1)
    (hw : ∀ env : Env, env.scope = c.sc → swappedStores [.Tuple [.Name x px, .Name x2 py, .Name x3 pz] kt pt] (.Tuple [e1, e2, e3] k2 pt2) env = pure (some [x, x2, x3]))
    (hs1 : ∀ env, swapsWithSole [.Tuple [.Name x px, .Name x2 py, .Name x3 pz] kt pt] (.Tuple [e1, e2, e3] k2 pt2) pos.line env = pure false) :
    Run1 c δ M (.Assign [.Tuple [.Name x px, .Name x2 py, .Name x3 pz] kt pt] (.Tuple [e1, e2, e3] k2 pt2) pos) D := fun y σ H ad he hs E q =>
  ⟨_, ps_par3 (X := y.cx) rfl hk.nd hi.get hj.get hl.get hij hil hjl (by show y.env.scope.names.lookup x = some .local; rw [y.sc]; exact hx) (by show y.env.scope.names.lookup x2 = some .local; rw [y.sc]; exact hy) (by show y.env.scope.names.lookup x3 = some .local; rw [y.sc]; exact hz) wA_ok (hw y.env y.sc) (hs1 y.env),
    h y σ H ad he hs _ fun vs H2 ad2 as M2 n s r ⟨u, v, w, e, p⟩ => by
      subst e
      obtain ⟨u1, v1, w1, e1, r1, r2, r3⟩ := repAs3 r
      exact ⟨u1, v1, w1, e1, q.nx _ H2 ad2 _ M2 n ((((he.nx n).set r1).set r2).set r3) s p⟩⟩
theorem ca_int1 {k : Bool} (h : Post (.dat (.int (if k then 1 else 0))) M) : CallA c (.type "int") [.dat (.bl k)] M Post := fun z H ad hs vs r Q q => by
  obtain ⟨u, rfl, ru⟩ := repAs1 r
  rw [show u = .bl k from ru]
  exact ⟨_, call_int1, .inr ⟨k, rfl, q _ H ad (.dat (.int (if k then 1 else 0))) M Nx.refl hs rfl h⟩⟩
end
end Fx

/-! Fx, part Q: t += u of tuples; data in a list of data. -/
namespace L2
open PySem PySem.Spec PyProof.Rows HT
theorem no_iadd_tup9 : typeLookup (.type "tuple") (dunderI "add") = pure none := by rw [typeLookup_type, builtinLookup_eq_fast]; kernel_rfl
section
variable {X : Cx}
theorem iop_catA9 : OpR X (inplaceOp .Add) (rCatA X.K) := by
  intro pins s σ H x y v u Q I rx ry h
  obtain ⟨a, b, xs, ys, rfl, rfl, ha, hb, hz, q0, q1, q2⟩ := h
  cases rx
  cases ry
  obtain ⟨vs, r1, p1, _⟩ := I.tuple ha
  obtain ⟨ws, r2, p2, _⟩ := I.tuple hb
  have l1 := r1.length
  have l2 := r2.length
  obtain ⟨⟨c1, d1, dt1, sl1⟩, ho, hc, n, hd⟩ := id p1
  obtain ⟨⟨c2, d2, dt2, sl2⟩, ho2, hc2, n2, hd2⟩ := id p2
  simp only at hc hd hc2 hd2
  subst hc hd hc2 hd2
  by_cases hv : xs = []
  · have e1 : vs = [] := List.eq_nil_of_length_eq_zero (by rw [← l1, hv]; rfl)
    exact wpAny_inplaceOp_concat ⟨_, ho, rfl⟩ ⟨_, ho2, rfl⟩ no_iadd_tup9 noFill_tuple_add seq_tuple_add (call_meets PySem.F.slot_tuple_add ⟨_, ho, rfl⟩ PySem.F.entry_tuple_add (PySem.F.args_tuple_add_2 _ _)
      (tuple_addW0 a b vs.toArray ws.toArray n n2 d1 d2 sl1 sl2 (by simp [e1])) ⟨ho, ho2, ⟨.ref b, H, I, rfl, q0 hv⟩⟩)
  · have hv' : vs ≠ [] := fun e => hv (List.eq_nil_of_length_eq_zero (by rw [l1, e]; rfl))
    by_cases hw : ys = []
    · have e2 : ws = [] := List.eq_nil_of_length_eq_zero (by rw [← l2, hw]; rfl)
      exact wpAny_inplaceOp_concat ⟨_, ho, rfl⟩ ⟨_, ho2, rfl⟩ no_iadd_tup9 noFill_tuple_add seq_tuple_add (call_meets PySem.F.slot_tuple_add ⟨_, ho, rfl⟩ PySem.F.entry_tuple_add (PySem.F.args_tuple_add_2 _ _)
        (tuple_addW1 a b vs.toArray ws.toArray n n2 d1 d2 sl1 sl2 (by simpa using hv') (by simp [e2])) ⟨ho, ho2, ⟨.ref a, H, I, rfl, q1 hv hw⟩⟩)
    · have hw' : ws ≠ [] := fun e => hw (List.eq_nil_of_length_eq_zero (by rw [l2, e]; rfl))
      refine wpAny_inplaceOp_concat ⟨_, ho, rfl⟩ ⟨_, ho2, rfl⟩ no_iadd_tup9 noFill_tuple_add seq_tuple_add (call_meets PySem.F.slot_tuple_add ⟨_, ho, rfl⟩ PySem.F.entry_tuple_add (PySem.F.args_tuple_add_2 _ _)
        (tuple_addW2 a b vs.toArray ws.toArray n n2 d1 d2 sl1 sl2 (by simpa using hv') (by simpa using hw') (by rw [List.size_toArray, List.size_toArray]; omega)) ⟨ho, ho2, ?_⟩)
      rw [show vs.toArray ++ ws.toArray = (vs ++ ws).toArray by simp]
      refine ⟨.ref _, _, I.laid (t' := s.toks) (o := .tup (xs ++ ys)) (fun b ob q => Heap.get?_push_of_some _ q) (Nat.le_refl _) ?_, rfl, q2 hv hw _ (I.hok.fresh (Nat.le_refl _))⟩
      exact ⟨by rw [List.length_append]; exact hz, _, r1.append r2, ⟨_, Heap.get?_push_size _ rfl, rfl, _, rfl⟩⟩
end
end L2
namespace Fx
open PySem L2
section
variable {c : SC} {δ : Dl} {M : List MO} {Post : AQ} {B : Bool → List MO → Prop}
theorem b_icatT {ds es : List D} (hl : ds.length + es.length ≤ 1000000) (h : Post (.dat (.tup (ds ++ es))) M) : BinR c (inplaceOp .Add) (.dat (.tup ds)) (.dat (.tup es)) M Post :=
  fun z H ad hs vx vy ⟨a, xs, ea, qa, ra⟩ ⟨b, ys, eb, qb, rb⟩ Q q => by
    refine ⟨_, iop_catA9, a, b, xs, ys, ea, eb, qa, qb, by rw [ra.length, rb.length]; exact Nat.le_trans hl (by decide), fun e => ?_, fun _ e => ?_, fun _ _ p hp => ?_⟩
    · subst e
      have e2 : ds = [] := by cases ds with | nil => rfl | cons d r => exact absurd ra.length (by simp)
      subst e2
      exact q _ H ad _ M Nx.refl hs (show RepA _ _ _ (.dat (.tup es)) _ from ⟨b, ys, rfl, qb, rb⟩) h
    · subst e
      have e2 : es = [] := by cases es with | nil => rfl | cons d r => exact absurd rb.length (by simp)
      subst e2
      rw [List.append_nil] at h
      exact q _ H ad _ M Nx.refl hs (show RepA _ _ _ (.dat (.tup ds)) _ from ⟨a, xs, rfl, qa, ra⟩) h
    · have sm := same_new (o := .tup (xs ++ ys)) hp
      exact q _ _ ad _ M (Nx.same sm) (hs.same sm) (show RepA _ _ _ (.dat (.tup (ds ++ es))) _ from ⟨p, _, rfl, .inl (.inl upd_same), (ra.append rb).tx (Tx.same sm)⟩) h
/-! tuples of ints: == and in by their ints -/
theorem eqv_all_ints : ∀ a b : List Int, PyData.eqvAll (pys (a.map D.int)) (pys (b.map D.int)) = decide (a = b)
  | [], [] => by simp [pys, PyData.eqvAll]
  | [], _ :: _ => by simp [pys, PyData.eqvAll]
  | _ :: _, [] => by simp [pys, PyData.eqvAll]
  | x :: a, y :: b => by
    have ih := eqv_all_ints a b
    show PyData.eqvAll (D.py (.int x) :: pys (a.map D.int)) (D.py (.int y) :: pys (b.map D.int)) = _
    simp only [PyData.eqvAll, ih, D.py, PyData.eqv]
    by_cases h : x = y <;> by_cases h2 : a = b <;> simp [h, h2]
theorem eqv_tI (a b : List Int) : PyData.eqv (tI a).py (tI b).py = decide (a = b) := by
  show PyData.eqv (.tuple (pys (a.map D.int))) (.tuple (pys (b.map D.int))) = _
  simp only [PyData.eqv, eqv_all_ints]
theorem eqv_all_tI : ∀ a b : List (List Int), PyData.eqvAll (pys (a.map tI)) (pys (b.map tI)) = decide (a = b)
  | [], [] => by simp [pys, PyData.eqvAll]
  | [], _ :: _ => by simp [pys, PyData.eqvAll]
  | _ :: _, [] => by simp [pys, PyData.eqvAll]
  | x :: a, y :: b => by
    have ih := eqv_all_tI a b
    have e := eqv_tI x y
    show PyData.eqvAll ((tI x).py :: pys (a.map tI)) ((tI y).py :: pys (b.map tI)) = _
    simp only [PyData.eqvAll, ih, e]
    by_cases h : x = y <;> by_cases h2 : a = b <;> simp [h, h2]
theorem eqv_tII (a b : List (List Int)) : PyData.eqv (tII a).py (tII b).py = decide (a = b) := by
  show PyData.eqv (.tuple (pys (a.map tI))) (.tuple (pys (b.map tI))) = _
  simp only [PyData.eqv, eqv_all_tI]
theorem pys_map (ts : List (List Int)) : pys (ts.map tI) = ts.map fun t => (tI t).py := by
  induction ts with
  | nil => rfl
  | cons t ts ih => show (tI t).py :: pys (ts.map tI) = _; rw [ih]; rfl
theorem any_tI (t : List Int) (ts : List (List Int)) : (pys (ts.map tI)).any (fun z => PyData.eqv z (tI t).py) = decide (t ∈ ts) := by
  rw [pys_map, List.any_map]
  induction ts with
  | nil => simp
  | cons u ts ih =>
    rw [List.any_cons, ih]
    have e : ((fun z => PyData.eqv z (tI t).py) ∘ fun t => (tI t).py) u = decide (u = t) := eqv_tI u t
    rw [e]
    by_cases h : u = t
    · subst h; simp
    · have h2 : ¬ t = u := fun q => h q.symm
      simp [h, h2]
theorem isL_py {y : AV} {ds : List D} (hy : IsL M y ds) : IsDat M y ∧ avPy M y = .list (pys ds) := by
  rcases hy with rfl | ⟨j, rfl, hm⟩
  · exact ⟨trivial, rfl⟩
  · refine ⟨⟨ds, hm⟩, ?_⟩
    unfold avPy
    rw [hm]
theorem c_inT {t : List Int} {ts : List (List Int)} {y : AV} (hy : IsL M y (ts.map tI)) (h : B (decide (t ∈ ts)) M) : CmpR c .In (.dat (tI t)) y M B := fun z H ad st vx vy rx ry Q q => by
  obtain ⟨h1, h2⟩ := isL_py hy
  have dy := av_dp st ry h1
  rw [h2] at dy
  refine ⟨_, op_inD (by have := z.room.un; show z.A.units + 65 < cLine; omega), _, _, rep_dp rx, dy, okD_shaped (ok_tI 0 t) (by decide), okDs_shaped (all_ok_tI 0 ts) (by decide), ?_⟩
  rw [any_tI]
  exact q _ H ad M Nx.refl st h
theorem c_notinT {t : List Int} {ts : List (List Int)} {y : AV} (hy : IsL M y (ts.map tI)) (h : B (!decide (t ∈ ts)) M) : CmpR c .NotIn (.dat (tI t)) y M B := fun z H ad st vx vy rx ry Q q => by
  obtain ⟨h1, h2⟩ := isL_py hy
  have dy := av_dp st ry h1
  rw [h2] at dy
  refine ⟨_, op_notInD (by have := z.room.un; show z.A.units + 65 < cLine; omega), _, _, rep_dp rx, dy, okD_shaped (ok_tI 0 t) (by decide), okDs_shaped (all_ok_tI 0 ts) (by decide), ?_⟩
  rw [any_tI]
  exact q _ H ad M Nx.refl st h
theorem c_neTT {a b : List (List Int)} (h : B (!decide (a = b)) M) : CmpR c .NotEq (.dat (tII a)) (.dat (tII b)) M B := by
  refine c_neD trivial trivial (okD_shaped (ok_tII 0 a) (by decide)) (okD_shaped (ok_tII 0 b) (by decide)) ?_
  show B (!PyData.eqv (tII a).py (tII b).py) M
  rw [eqv_tII]
  exact h
theorem c_neT {a b : List Int} (h : B (!decide (a = b)) M) : CmpR c .NotEq (.dat (tI a)) (.dat (tI b)) M B := by
  refine c_neD trivial trivial (okD_shaped (ok_tI 0 a) (by decide)) (okD_shaped (ok_tI 0 b) (by decide)) ?_
  show B (!PyData.eqv (tI a).py (tI b).py) M
  rw [eqv_tI]
  exact h
theorem c_eqLL {x y : AV} {a b : List (List Int)} (hx : IsL M x (a.map tI)) (hy : IsL M y (b.map tI)) (h : B (decide (a = b)) M) : CmpR c .Eq x y M B := by
  obtain ⟨a1, b1⟩ := isL_py hx
  obtain ⟨a2, b2⟩ := isL_py hy
  refine c_eqD a1 a2 (by rw [b1]; exact okDs_shaped (all_ok_tI 0 a) (by decide)) (by rw [b2]; exact okDs_shaped (all_ok_tI 0 b) (by decide)) ?_
  rw [b1, b2]
  show B (PyData.eqv (.list (pys (a.map tI))) (.list (pys (b.map tI)))) M
  simp only [PyData.eqv, eqv_all_tI]
  exact h
end
end Fx

/-! Fx, part X: tuples whose object is known; t.index(x). -/
namespace L2
open PySem PySem.Spec PyProof.Rows HT
abbrev tupO9 (us : List Value) : Obj := { cls := .type "tuple", data := .seq us.toArray }
section
variable {X : Cx}
/-- a new tuple, its object known -/
theorem laidX9 {pins : List (Addr × Obj)} {σ : St} {H : Hp} {s : Shared} {us : List Value} {xs : List V} {Q : VK} (I : Inv X pins σ H s) (r : Vals xs us) (hz : xs.length ≤ sizeLine) (q : ∀ p, H p = none → Q (.ref p) (upd H p (.frz (tupO9 us) (.tup xs)))) :
    EP X pins σ Q (.ref s.heap.objs.size) { s with heap := s.heap.push (tupO9 us) } := by
  have g : (s.heap.push (tupO9 us)).get? s.heap.objs.size = some (tupO9 us) := Heap.get?_push_size _ rfl
  refine ⟨.ref s.heap.objs.size, _, I.laid (t' := s.toks) (o := .frz (tupO9 us) (.tup xs)) (fun b ob e => Heap.get?_push_of_some _ e) (Nat.le_refl _) ?_, rfl, q _ (I.hok.fresh (Nat.le_refl _))⟩
  exact ⟨g, hz, us, r, ⟨_, g, rfl, _, rfl⟩⟩
def tTupX9 (t : TA) : TE := fun σ H Q => t σ H fun xs H1 => xs.length ≤ sizeLine ∧ ∀ p o, H1 p = none → o.cls = .type "tuple" → o.dict = none → Q (.ref p) (upd H1 p (.frz o (.tup xs)))
theorem pe_tupX9 {es : List Expr} {t : TA} {pos : Pos} {x1 : Nat} (h : PA X es t) : PE X (.Tuple es x1 pos) (tTupX9 t) := by
  refine ⟨fun pins s σ H Q I hq => ?_⟩
  exact wpAny_Tuple_spliced (thn (h.run pos pins s σ H _ I hq) fun us s1 ⟨xs, H1, I1, r, z, q⟩ => ⟨by rw [← r.length]; exact z, laidX9 I1 r z fun p hp => q p _ hp rfl rfl⟩)
def rCatX9 (K : PySem.W.Frag) : R2 := fun x y H Q => ∃ a b xs ys, x = .ref a ∧ y = .ref b ∧ SqT K H a xs ∧ SqT K H b ys ∧ xs.length + ys.length ≤ sizeLine ∧
  (xs = [] → Q (.ref b) H) ∧ (xs ≠ [] → ys = [] → Q (.ref a) H) ∧ (xs ≠ [] → ys ≠ [] → ∀ p o, H p = none → o.cls = .type "tuple" → o.dict = none → Q (.ref p) (upd H p (.frz o (.tup (xs ++ ys)))))
theorem op_catX9 : OpR X (binaryOp .Add) (rCatX9 X.K) := by
  intro pins s σ H x y v u Q I rx ry h
  obtain ⟨a, b, xs, ys, rfl, rfl, ha, hb, hz, q0, q1, q2⟩ := h
  cases rx
  cases ry
  obtain ⟨vs, r1, p1, _⟩ := I.tuple ha
  obtain ⟨ws, r2, p2, _⟩ := I.tuple hb
  by_cases hx : xs = []
  · subst hx
    cases r1
    exact cat_tup0 p1 p2 ⟨.ref b, H, I, rfl, q0 rfl⟩
  · refine cat_tup p1 p2 (fun z => hx (r1.nil_iff.mp z)) (fun z => ⟨.ref a, H, I, rfl, q1 hx (r2.nil_iff.mp z)⟩) (fun z => ?_) (by rw [← r1.length, ← r2.length]; exact hz)
    exact laidX9 I (r1.append r2) (by rw [List.length_append]; exact hz) fun p hp => q2 hx (fun w => z (r2.nil_iff.mpr w)) p _ hp rfl rfl
theorem call_tupleX9 : CallR X (.type "tuple") (fun xs H Q => ∃ p ys, xs = [.ref p] ∧ SqL X.K H p ys ∧ ∀ l o, H l = none → o.cls = .type "tuple" → o.dict = none → Q (.ref l) (upd H l (.frz o (.tup ys)))) := by
  intro pins s σ H xs us Q I r h
  obtain ⟨p, ys, rfl, hq, q⟩ := h
  obtain ⟨u, rfl, rx⟩ := vals1 r
  cases rx
  obtain ⟨its, r', pl, hz⟩ := I.list hq
  have hlen := r'.length
  refine call_tuple_list pl.isList (fun h' kp => ?_) (by simp only [List.size_toArray] <;> omega)
  have I1 : Inv X pins σ H { s with heap := h' } := I.kept (t' := s.toks) kp
  exact laidX9 I1 r' hz fun p hp => q p _ hp rfl rfl
/-- t.index(e), ints -/
def tTIx9 (to : TE) (ta : TA) : TE := fun σ H Q => to σ H fun x H1 => ∃ (a : Addr) (ns : List Int) (o : Obj), x = .ref a ∧ H1 a = some (.frz o (.tup (ns.map V.int))) ∧ o.cls = .type "tuple" ∧ o.dict = none ∧
  ta σ H1 fun vs H2 => ∃ k : Int, vs = [.int k] ∧ k ∈ ns ∧ H2 a = some (.frz o (.tup (ns.map V.int))) ∧ Q (.int (ns.idxOf k : Nat)) H2
theorem pe_tindex9 {o e : Expr} {to : TE} {ta : TA} {apos cpos : Pos} (ho : PE X o to) (ha : PA X [e] ta) (hbase : attributeBase o "index" X.env (eval o X.env) = eval o X.env)
    (hfew : ((backTo cpos (starEach [e] X.env)).all (fun x => !x.1) && (backToKw cpos (keywordEach [] X.env)).all (fun x => x.1.isSome) && decide ([e].length + ([] : List Keyword).length + (if ([] : List Keyword).isEmpty then 0 else 1) < 30)) = true)
    (hline : (apos.endLine == cpos.line) = true) (hs : starEach [e] X.env = (false, eval e X.env) :: starEach [] X.env) : PE X (.Call (.Attribute o "index" apos) [e] [] cpos) (tTIx9 to ta) := by
  refine ⟨fun pins s σ H Q I h => ?_⟩
  refine wpAny_Call_method_late hbase hfew hline rfl (thn (ho.run pins s σ H _ I h) fun v s1 ⟨x, H1, I1, r1, q1⟩ => ?_)
  obtain ⟨a, ns, ob, rfl, hH, hcl, hdc, q1⟩ := q1
  cases r1
  obtain ⟨ho1, hz1, its1, rv1, pt1⟩ := I1.hok a _ hH
  refine ⟨"tuple", "tuple.index", PySem.F.plainAttrs_tuple, PySem.F.slot_tuple_index, PySem.F.type_tuple_index, ⟨ob, ho1, hcl⟩, fun b e2 => ?_, ?_⟩
  · cases e2
    exact ⟨ob, ho1, hdc⟩
  · have hA := ha.run cpos pins s1 σ H1 _ I1 q1
    rw [hs] at hA ⊢
    refine Calls.callWith_builtin (by rfl) (Calls.evalArgs_plain ?_)
    refine thn hA fun us s2 ⟨vs, H2, I2, r2, q2⟩ => ?_
    obtain ⟨k, rfl, hk, hH2, q⟩ := q2
    obtain ⟨u, rfl, t, rfl⟩ := vals1 r2
    obtain ⟨_, hz2, its2, rv2, pt2⟩ := I2.hok a _ hH2
    exact SeqAt.call_tuple_index (show s2.heap.IsTuple a its2.toArray from pt2) (SeqAt.ItemsEq.ints (ints_of_vals rv2)) hk ⟨.int _, H2, I2.tok _, ⟨_, rfl⟩, q⟩
end
end L2
namespace Fx
open PySem L2
section
variable {c : SC} {δ : Dl} {M : List MO} {Post : AQ} {e o : Expr} {es : List Expr} {apos pos : Pos} {k : Nat}
/-- a known tuple is a tuple -/
theorem x_tx (h : EvX c δ M e fun a M1 => ∃ ds, a = .tx ds ∧ Post (.dat (.tup ds)) M1) : EvX c δ M e Post := fun y σ H ad he hs Q q =>
  h y σ H ad he hs Q fun v H1 ad1 a M1 n1 s1 r1 ⟨ds, ea, p1⟩ => by
    subst ea
    obtain ⟨pp, xs, rfl, hx, rr⟩ := r1
    exact q _ H1 ad1 (.dat (.tup ds)) M1 n1 s1 ⟨pp, xs, rfl, hx.sq, rr⟩ p1
theorem x_tupX (h : EvA c δ M es fun as M1 => ∃ ds, DatsAre as ds ∧ ds.length ≤ 1000000 ∧ Post (.tx ds) M1) : EvX c δ M (.Tuple es k pos) Post := fun y σ H ad he hs Q q =>
  ⟨_, pe_tupX9 wA_ok, h y σ H ad he hs _ fun vs H1 ad1 as M1 n1 s1 r1 ⟨ds, hd, hl, p1⟩ => by
    have rr := hd.reps r1
    refine ⟨by rw [rr.length]; exact Nat.le_trans hl (by decide), fun p ob hp h1 h2 => ?_⟩
    have sm := same_new (o := .frz ob (.tup vs)) hp
    exact q _ _ ad1 (.tx ds) M1 (n1.trans (Nx.same sm)) (s1.same sm) ⟨p, vs, rfl, ⟨ob, upd_same, h1, h2⟩, rr.tx (Tx.same sm)⟩ p1⟩
theorem b_catX {ds es : List D} (hl : ds.length + es.length ≤ 1000000) (h : Post (.tx (ds ++ es)) M) : BinR c (binaryOp .Add) (.tx ds) (.tx es) M Post :=
  fun z H ad hs vx vy ⟨a, xs, ea, qa, ra⟩ ⟨b, ys, eb, qb, rb⟩ Q q => by
    refine ⟨_, op_catX9, a, b, xs, ys, ea, eb, qa.sq, qb.sq, by rw [ra.length, rb.length]; exact Nat.le_trans hl (by decide), fun e => ?_, fun _ e => ?_, fun _ _ p ob hp h1 h2 => ?_⟩
    · subst e
      have e2 : ds = [] := by cases ds with | nil => rfl | cons d r => exact absurd ra.length (by simp)
      subst e2
      exact q _ H ad (.tx es) M Nx.refl hs ⟨b, ys, rfl, qb, rb⟩ h
    · subst e
      have e2 : es = [] := by cases es with | nil => rfl | cons d r => exact absurd rb.length (by simp)
      subst e2
      rw [List.append_nil] at h
      exact q _ H ad (.tx ds) M Nx.refl hs ⟨a, xs, rfl, qa, ra⟩ h
    · have sm := same_new (o := .frz ob (.tup (xs ++ ys))) hp
      exact q _ _ ad (.tx (ds ++ es)) M (Nx.same sm) (hs.same sm) ⟨p, _, rfl, ⟨ob, upd_same, h1, h2⟩, (ra.append rb).tx (Tx.same sm)⟩ h
theorem ca_tupleX {v : AV} {ds : List D} (hv : IsL M v ds) (h : Post (.tx ds) M) : CallA c (.type "tuple") [v] M Post := fun z H ad hs vs r Q q => by
  obtain ⟨u, rfl, ru⟩ := repAs1 r
  obtain ⟨pp, xs, rfl, hq, rr⟩ := hv.sq hs ru
  refine ⟨_, call_tupleX9, pp, xs, rfl, hq, fun l ob hn h1 h2 => ?_⟩
  have sm := same_new (o := .frz ob (.tup xs)) hn
  exact q _ _ ad (.tx ds) M (Nx.same sm) (hs.same sm) ⟨l, xs, rfl, ⟨ob, upd_same, h1, h2⟩, rr.tx (Tx.same sm)⟩ h
/-- t.index(e) -/
theorem x_tindex (h : EvX c δ M o fun v M1 => ∃ ns : List Int, v = .tx (ns.map .int) ∧ EvA c δ M1 [e] fun ws M2 => ∃ k : Int, ws = [.dat (.int k)] ∧ k ∈ ns ∧ Post (.dat (.int (ns.idxOf k : Nat))) M2)
    (hbase : ∀ env, attributeBase o "index" env (eval o env) = eval o env)
    (hfew : ∀ env, ((backTo pos (starEach [e] env)).all (fun x => !x.1) && (backToKw pos (keywordEach [] env)).all (fun x => x.1.isSome) && decide ([e].length + ([] : List Keyword).length + (if ([] : List Keyword).isEmpty then 0 else 1) < 30)) = true)
    (hline : (apos.endLine == pos.line) = true) (hst : ∀ env, starEach [e] env = (false, eval e env) :: starEach [] env) : EvX c δ M (.Call (.Attribute o "index" apos) [e] [] pos) Post := fun y σ H ad he hs Q q =>
  ⟨_, pe_tindex9 wE_ok wA_ok (hbase y.env) (hfew y.env) hline (hst y.env), h y σ H ad he hs _ fun v H1 ad1 a1 M1 n1 s1 r1 ⟨ns, e1, p1⟩ => by
    subst e1
    obtain ⟨a, xs, rfl, ⟨ob, hH, hc, hd⟩, rr⟩ := r1
    rw [reps_ints.mp rr] at hH
    refine ⟨a, ns, ob, rfl, hH, hc, hd, p1 y σ H1 ad1 (he.nx n1) s1 _ fun ws H2 ad2 as M2 n2 s2 r2 ⟨k, e2, hk, p2⟩ => ?_⟩
    subst e2
    obtain ⟨w, rfl, rw'⟩ := repAs1 r2
    exact ⟨k, by rw [show w = .int k from rw'], hk, n2.tx.frz _ _ _ hH, q _ H2 ad2 (.dat (.int (ns.idxOf k : Nat))) M2 (n1.trans n2) s2 rfl p2⟩⟩
end
end Fx

/-! Fx, part T: sorted(x) of a list or a tuple of alike data; min(x) and max(x) of a list of such. -/
namespace Fx
open PySem L2
section
variable {K : PySem.W.Frag} {H : Hp} {β : Type} {enc : β → D}
/-- what an item stands for -/
def StdT (K : PySem.W.Frag) (H : Hp) (enc : β → D) (v : Value) (b : β) : Prop := ∃ x, RelV x v ∧ Rep K H (enc b) x
theorem each_of_reps : ∀ {bs : List β} {xs : List V} {its : List Value}, Vals xs its → Reps K H (bs.map enc) xs → PySem.W.EachIs (StdT K H enc) its bs
  | [], _, _, r, h => by
    cases (show _ = [] from h)
    cases r
    exact .nil
  | b :: bs, _, _, r, ⟨x, t, e, h1, h2⟩ => by
    subst e
    cases r with
    | cons r1 r2 => exact .cons ⟨x, r1, h1⟩ (each_of_reps r2 h2)
theorem reps_of_each : ∀ {bs : List β} {its : List Value}, PySem.W.EachIs (StdT K H enc) its bs → ∃ xs, Vals xs its ∧ Reps K H (bs.map enc) xs
  | _, _, .nil => ⟨[], .nil, rfl⟩
  | _, _, .cons ⟨x, r1, h1⟩ t => by
    obtain ⟨xs, r2, h2⟩ := reps_of_each t
    exact ⟨x :: xs, .cons r1 r2, x, xs, rfl, h1, h2⟩
end
section
variable {X : Cx} {β : Type}
def leD (enc : β → D) : β → β → Bool := PySem.W.dataLe false fun b => (enc b).py
def SortOk (enc : β → D) (bs : List β) : Prop := PySem.W.AllAlike (bs.map fun b => (enc b).py) ∧ PySem.W.Sortable (bs.map fun b => (enc b).py) ∧ ∀ b ∈ bs, (enc b).py.depth ≤ 60
open PySem.W PyProof.Rows in
theorem call_sortedD9 (enc : β → D) (hu : X.A.units + 65 < cLine) : CallR X (.builtin "sorted") (fun vs H Q => ∃ a xs bs, vs = [V.ref a] ∧ (SqL X.K H a xs ∨ SqT X.K H a xs) ∧ Reps X.K H (bs.map enc) xs ∧ SortOk enc bs ∧
    ∀ xs' p, Reps X.K H ((bs.mergeSort (leD enc)).map enc) xs' → H p = none → Q (.ref p) (upd H p (.lst xs'))) := by
  intro pins s σ H vs us Q I r h
  obtain ⟨a, xs, bs, rfl, hq, hr, ⟨hal, hsb, hdp⟩, q⟩ := h
  rw [Vals.ref1 r]
  have there : ∃ (its : List Value) (o : Obj) (T : String) (n : Nat), Vals xs its ∧ s.heap.get? a = some o ∧ o.cls = .type T ∧ (T = "list" ∨ T = "tuple") ∧ o.data = .seq its.toArray n ∧ xs.length ≤ sizeLine := by
    rcases hq with hq | hq
    · obtain ⟨its, r', pl, hz⟩ := I.list hq
      obtain ⟨o, ho, hc, n, hd⟩ := pl.isList
      exact ⟨its, o, _, n, r', ho, hc, .inl rfl, hd, hz⟩
    · obtain ⟨its, r', pl, hz⟩ := I.tuple hq
      obtain ⟨o, ho, hc, n, hd⟩ := pl
      exact ⟨its, o, _, n, r', ho, hc, .inr rfl, hd, hz⟩
  obtain ⟨its, o, T, n, rv, ho, hc, hT, hd, hz⟩ := there
  have hlen := rv.length
  have hL : its.length ≤ sizeLine := by omega
  have each := each_of_reps rv hr
  have elen : its.length = bs.length := by rw [← hlen, hr.length, List.length_map]
  refine Calls.call_function_entry kind_sorted plain_sorted entry_sorted (args_sorted1 _) ?_
  unfold Builtin.«sorted»
  refine wpAny_bind (m := checkCount "sorted" 1 1 _) (wpAny_pure ?_)
  refine wpAny_bind (wpAny_collect_seq a hT ho hc hd (fun h' kp => ?_) (by rw [List.size_toArray]; exact hL))
  refine wpAny_bind (wpAny_newList ?_ (by simpa using hL))
  rw [show its.toArray.toList = its by simp]
  have I1 : Inv X pins σ H { s with heap := h' } := I.kept (t' := s.toks) kp
  have hoL : (h'.push (seqObj "list" its.toArray 0)).get? h'.objs.size = some (seqObj "list" its.toArray 0) := Heap.get?_push_size _ rfl
  show wpAny _ _ _ _ _ { s with heap := h'.push (seqObj "list" its.toArray 0) }
  have er : EachIs (fun v b => ∃ as, Reads (sortingHeap (h'.push (seqObj "list" its.toArray 0)) h'.objs.size its) v (enc b).py as) its bs := each.mono fun v b ⟨x, rx, hx⟩ => by
    obtain ⟨as, hR⟩ := Dp.reads I1 _ _ _ (rep_dp hx) rx
    exact ⟨as, PyProof.Rows.Reads.keeps (fun b o e => sortingHeap_old (Nat.ne_of_lt (Heap.lt_size e)) (Heap.get?_push_of_some _ e)) hR⟩
  refine wpAny_bind (wpAny_holding (wpAny_call_entry slot_list_sort ⟨_, hoL, rfl⟩ entry_list_sort (list_sort_vals (s := { s with heap := h'.push (seqObj "list" its.toArray 0) }) (κ := dataKind (sortingHeap (h'.push (seqObj "list" its.toArray 0)) h'.objs.size its) (bs.map fun b => (enc b).py)) hoL
    (SortsAt.data (s := { s with heap := sortingHeap (h'.push (seqObj "list" its.toArray 0)) h'.objs.size its }) (each_map (R := fun v d => ∃ as, Reads (sortingHeap (h'.push (seqObj "list" its.toArray 0)) h'.objs.size its) v d as) (fun b => (enc b).py) er) hal hsb (bound_map fun b hb => ?dep)) hL ⟨_, rfl, ?ret⟩) (args_list_sort _)))
  case dep =>
    have := hdp b hb
    show X.A.units + 2 + _ < _
    omega
  case ret =>
    refine wpAny_pure ⟨_, rfl, ?_⟩
    have res := sortVals_data false each er hal
    obtain ⟨xs', r2, h2⟩ := reps_of_each res
    obtain ⟨ep, he'⟩ := sortedHeap_at (vs := its) (out := (sortVals (dataKind (sortingHeap (h'.push (seqObj "list" its.toArray 0)) h'.objs.size its) (bs.map fun b => (enc b).py)) false its its).toArray) hoL
    have l2 : xs'.length ≤ sizeLine := by
      rw [h2.length, List.length_map, List.length_mergeSort, ← elen]
      exact hL
    refine ⟨.ref _, upd H h'.objs.size (.lst xs'), I1.laid (t' := s.toks) (fun b o e => ?_) (Nat.le_refl _) ⟨l2, _, ep, r2, he'⟩, rfl, q xs' _ h2 (I1.hok.fresh (Nat.le_refl _))⟩
    have lt := Heap.lt_size e
    rw [sortedHeap_old (Nat.ne_of_lt lt) (by rw [size_push']; exact Nat.lt_succ_of_lt lt)]
    exact Heap.get?_push_of_some _ e
end
section
variable {c : SC} {M : List MO} {Pf : List D → List MO → Prop} {β : Type}
theorem cf_sortedD (enc : β → D) {v : AV} {bs : List β} (hv : IsL M v (bs.map enc) ∨ v = .dat (.tup (bs.map enc))) (hs : SortOk enc bs) (h : Pf ((bs.mergeSort (leD enc)).map enc) M) : CallF c (.builtin "sorted") [v] M Pf := fun z H ad st vs r Q q => by
  obtain ⟨u, rfl, ru⟩ := repAs1 r
  have un : z.A.units + 65 < cLine := by have := z.room.un; omega
  rcases hv with hv | rfl
  · obtain ⟨pp, xs, rfl, hq, rr⟩ := hv.sq st ru
    refine ⟨_, call_sortedD9 enc un, pp, xs, bs, rfl, .inl hq, rr, hs, fun xs' p h2 hn => ?_⟩
    have sm := same_new (o := .lst xs') hn
    exact q p _ _ ad _ M (Nx.same sm) (st.same sm) hn (st.free hn) upd_same (h2.tx (Tx.same sm)) h
  · obtain ⟨pp, xs, rfl, hq, rr⟩ := ru
    refine ⟨_, call_sortedD9 enc un, pp, xs, bs, rfl, .inr hq, rr, hs, fun xs' p h2 hn => ?_⟩
    have sm := same_new (o := .lst xs') hn
    exact q p _ _ ad _ M (Nx.same sm) (st.same sm) hn (st.free hn) upd_same (h2.tx (Tx.same sm)) h
end
section
variable {X : Cx}
theorem op_inDT9 (hu : X.A.units + 65 < cLine) : OpR X (compareOp .In) (fun x y H Q => ∃ d ds, Dp X.K H x d ∧ Dp X.K H y (.tuple ds) ∧ SeqAt.shaped d = true ∧ SeqAt.shaped (.tuple ds) = true ∧ Q (.bl (ds.any fun z => PyData.eqv z d)) H) := by
  intro pins s σ H x y v u Q I rx ry h
  obtain ⟨d, ds, hd, he, sd, se, q⟩ := h
  obtain ⟨as, r1⟩ := Dp.reads I d x v hd rx
  obtain ⟨bs, r2⟩ := Dp.reads I (.tuple ds) y u he ry
  exact SeqAt.in_tuple_reads r2 r1 (SeqAt.canLay_of_shaped se) (SeqAt.canLay_of_shaped sd) (PyProof.Rows.room_in_shaped sd hu) ⟨.bl _, H, I, rfl, q⟩
end
section
variable {c : SC} {M : List MO} {B : Bool → List MO → Prop}
theorem c_inTT {t : List Int} {ts : List (List Int)} (h : B (decide (t ∈ ts)) M) : CmpR c .In (.dat (tI t)) (.dat (tII ts)) M B := fun z H ad st vx vy rx ry Q q => by
  have dy : Dp c.K H vy (.tuple (pys (ts.map tI))) := rep_dp (d := tII ts) ry
  refine ⟨_, op_inDT9 (by have := z.room.un; show z.A.units + 65 < cLine; omega), _, _, rep_dp rx, dy, okD_shaped (ok_tI 0 t) (by decide), okD_shaped (d := tII ts) (ok_tII 0 ts) (by decide), ?_⟩
  rw [any_tI]
  exact q _ H ad M Nx.refl st h
end
/-! min(x) of a list of data -/
theorem minD_mem : ∀ (xs : List PyData) (x : PyData), PySem.W.minD x xs ∈ x :: xs
  | [], x => List.mem_cons_self
  | y :: ys, x => by
    have e : PySem.W.minD x (y :: ys) = PySem.W.minD (if PySem.W.dataLt y x then y else x) ys := rfl
    rw [e]
    rcases List.mem_cons.mp (minD_mem ys (if PySem.W.dataLt y x then y else x)) with h | h
    · rw [h]
      split
      · exact List.mem_cons_of_mem _ List.mem_cons_self
      · exact List.mem_cons_self
    · exact List.mem_cons_of_mem _ (List.mem_cons_of_mem _ h)
theorem minD_le : ∀ (xs : List PyData) (x : PyData), ∀ z ∈ x :: xs, PySem.W.dataLt z (PySem.W.minD x xs) = false := by
  let O : PyProof.Rows.KeyOrd := PyProof.Rows.listOrd PyProof.Rows.itemOrd
  have lt : ∀ a b, PySem.W.dataLt a b = O.blt (PySem.W.keyToks a) (PySem.W.keyToks b) := fun _ _ => rfl
  intro xs
  induction xs with
  | nil =>
    intro x z hz
    rw [List.mem_singleton.mp hz]
    exact O.irrefl _
  | cons y ys ih =>
    intro x z hz
    have e : PySem.W.minD x (y :: ys) = PySem.W.minD (if PySem.W.dataLt y x then y else x) ys := rfl
    rw [e]
    have h0 := ih (if PySem.W.dataLt y x then y else x)
    have ha := h0 _ List.mem_cons_self
    have hx : PySem.W.dataLt x (if PySem.W.dataLt y x then y else x) = false := by
      split
      · rename_i h
        exact PyProof.Rows.KeyOrd.klt_asymm (O := O) h
      · exact O.irrefl _
    have hy : PySem.W.dataLt y (if PySem.W.dataLt y x then y else x) = false := by
      split
      · exact O.irrefl _
      · rename_i h
        simpa using h
    rcases List.mem_cons.mp hz with rfl | hz
    · exact PyProof.Rows.KeyOrd.kle_trans (O := O) ha hx
    · rcases List.mem_cons.mp hz with rfl | hz
      · exact PyProof.Rows.KeyOrd.kle_trans (O := O) ha hy
      · exact h0 z (List.mem_cons_of_mem _ hz)
theorem depthAll_le {n : Nat} : ∀ {ds : List PyData}, (∀ d ∈ ds, d.depth ≤ n) → PyData.depthAll ds ≤ n
  | [], _ => by simp [PyData.depthAll]
  | d :: ds, h => by
    rw [PyData.depthAll]
    exact Nat.max_le.mpr ⟨h d List.mem_cons_self, depthAll_le fun d' h' => h d' (List.mem_cons_of_mem _ h')⟩
theorem pys_enc {β : Type} (enc : β → D) : ∀ bs : List β, pys (bs.map enc) = bs.map fun b => (enc b).py
  | [] => rfl
  | b :: bs => by
    show (enc b).py :: pys (bs.map enc) = _
    rw [pys_enc enc bs]
    rfl
section
variable {X : Cx} {β : Type}
theorem call_minD9 (enc : β → D) (hc : X.calm = true) (hu : X.A.units + 65 < cLine) : CallR X (.builtin "min") (fun vs H Q => ∃ a xs bs, vs = [V.ref a] ∧ SqL X.K H a xs ∧ Reps X.K H (bs.map enc) xs ∧ bs ≠ [] ∧ SortOk enc bs ∧ (∀ b ∈ bs, (enc b).py ≠ .none) ∧
    ∀ (i : Nat) (b : β) (x : V), bs[i]? = some b → xs[i]? = some x → (∀ b' ∈ bs, PySem.W.dataLt (enc b').py (enc b).py = false) → Q x H) := by
  intro pins s σ H vs us Q I r h
  obtain ⟨a, xs, bs, rfl, hq, hr, hne, ⟨hal, _, hdp⟩, hnn, q⟩ := h
  rw [Vals.ref1 r]
  obtain ⟨its, rv, pl, hz⟩ := I.list hq
  have hd := reps_dp hr
  rw [pys_enc] at hd
  obtain ⟨as, hR⟩ := Dp.readsAll I _ _ its hd rv
  cases bs with
  | nil => exact absurd rfl hne
  | cons b0 bs =>
    have ha : PySem.W.AlikeAll ((enc b0).py :: bs.map fun b => (enc b).py) := ⟨fun x hx y hy => hal x hx y hy, fun x hx => by
      obtain ⟨b, hb, rfl⟩ := List.mem_map.mp (show x ∈ (b0 :: bs).map fun b => (enc b).py from hx)
      exact hnn b hb⟩
    have dl : PyData.depthAll ((enc b0).py :: bs.map fun b => (enc b).py) ≤ 60 := depthAll_le fun d hd => by
      obtain ⟨b, hb, rfl⟩ := List.mem_map.mp (show d ∈ (b0 :: bs).map fun b => (enc b).py from hd)
      exact hdp b hb
    refine PySem.W.min_list_data (I.ok.hd hc) (vs := its.toArray) pl.isList (x := (enc b0).py) (xs := bs.map fun b => (enc b).py) (by rw [List.toList_toArray]; exact hR) ha (by omega) fun i v h' tk as' hv hrd hk => ?_
    have hv' : its[i]? = some v := by simpa using hv
    have lx := rv.length
    have hil : i < xs.length := by rw [lx]; exact (List.getElem?_eq_some_iff.mp hv').1
    have hx : xs[i]? = some xs[i] := List.getElem?_eq_getElem hil
    obtain ⟨u, hu', ru⟩ := rv.get hx
    rw [hv'] at hu'
    cases hu'
    obtain ⟨d, hd1, rd⟩ := hr.get' hx
    rw [List.getElem?_map] at hd1
    cases hbi : (b0 :: bs)[i]? with
    | none => rw [hbi] at hd1; cases hd1
    | some b =>
      rw [hbi] at hd1
      cases hd1
      obtain ⟨as2, r2⟩ := Dp.reads I _ _ _ (rep_dp rd) ru
      have hb := List.mem_of_getElem? hbi
      have e : PySem.W.minD (enc b0).py (bs.map fun b => (enc b).py) = (enc b).py :=
        PySem.W.alike_unique _ _ _ _ _ (hal _ (minD_mem _ _) _ (List.mem_map.mpr ⟨b, hb, rfl⟩)) hrd (PyProof.Rows.Reads.keeps hk r2)
      refine ⟨xs[i], H, I.kept hk, ru, q i b _ hbi hx fun b' hb' => ?_⟩
      rw [← e]
      exact minD_le _ _ _ (show (enc b').py ∈ (b0 :: bs).map fun b => (enc b).py from List.mem_map.mpr ⟨b', hb', rfl⟩)
end
section
variable {c : SC} {M : List MO} {Post : AQ} {β : Type}
theorem ca_minD (enc : β → D) {v : AV} {bs : List β} (hv : IsL M v (bs.map enc)) (hne : bs ≠ []) (hs : SortOk enc bs) (hnn : ∀ b ∈ bs, (enc b).py ≠ .none) (h : ∀ b ∈ bs, (∀ b' ∈ bs, PySem.W.dataLt (enc b').py (enc b).py = false) → Post (.dat (enc b)) M) : CallA c (.builtin "min") [v] M Post := fun z H ad st vs r Q q => by
  obtain ⟨u, rfl, ru⟩ := repAs1 r
  obtain ⟨pp, xs, rfl, hq, rr⟩ := hv.sq st ru
  refine ⟨_, call_minD9 enc rfl (by have := z.room.un; show z.A.units + 65 < cLine; omega), pp, xs, bs, rfl, hq, rr, hne, hs, hnn, fun i b x hb hx hle => ?_⟩
  obtain ⟨d, hd, rd⟩ := rr.get' hx
  rw [List.getElem?_map, hb] at hd
  cases hd
  exact q x H ad (.dat (enc b)) M Nx.refl st rd (h b (List.mem_of_getElem? hb) hle)
end
/-! rows of ints -/
theorem leD_tI : leD tI = fun a b => decide (a ≤ b) := by
  funext p q
  show (!PySem.W.dataLt (tI q).py (tI p).py) = _
  have e : ∀ t : List Int, (tI t).py = .tuple (t.map .int) := fun t => by
    show PyData.tuple (pys (t.map D.int)) = _
    have : ∀ t : List Int, pys (t.map D.int) = t.map .int := fun t => by
      induction t with
      | nil => rfl
      | cons x t ih => show D.py (.int x) :: pys (t.map D.int) = _; rw [ih]; rfl
    rw [this]
  rw [e, e, PySem.W.dataLt_tuple]
  show (!PySem.W.rowLt (q.map .int) (p.map .int)) = _
  rw [PySem.W.dataLt_ints]
  by_cases h : q < p
  · have h' : ¬ p ≤ q := fun r => List.not_lt.mpr r h
    simp [h, h']
  · have h' : p ≤ q := List.not_lt.mp h
    simp [h, h']
theorem tI_py (t : List Int) : (tI t).py = .tuple (t.map .int) := by
  show PyData.tuple (pys (t.map D.int)) = _
  have : ∀ t : List Int, pys (t.map D.int) = t.map .int := fun t => by
    induction t with
    | nil => rfl
    | cons x t ih => show D.py (.int x) :: pys (t.map D.int) = _; rw [ih]; rfl
  rw [this]
theorem sortOk_rows {ts : List (List Int)} (h : ∀ t ∈ ts, t ≠ []) : SortOk tI ts := by
  refine ⟨fun d hd d' hd' => ?_, .inl fun d hd => ?_, fun b hb => ?_⟩
  · obtain ⟨b, _, rfl⟩ := List.mem_map.mp hd
    obtain ⟨b', _, rfl⟩ := List.mem_map.mp hd'
    simp only [tI_py, PySem.W.alike]
    exact PySem.W.alike_ints _ _
  · obtain ⟨b, hb, rfl⟩ := List.mem_map.mp hd
    cases b with
    | nil => exact absurd rfl (h _ hb)
    | cons x r => exact ⟨_, _, tI_py _⟩
  · rw [tI_py]
    simp [PyData.depth, PySem.W.depth_ints]
def sortR (ts : List (List Int)) : List (List Int) := ts.mergeSort (fun a b => decide (a ≤ b))
theorem sortR_perm (ts : List (List Int)) : (sortR ts).Perm ts := List.mergeSort_perm _ _
theorem sortR_eq {a b : List (List Int)} : sortR a = sortR b ↔ a.Perm b := by
  constructor
  · intro h
    exact (sortR_perm a).symm.trans (h ▸ sortR_perm b)
  · intro h
    have tr : ∀ x y z : List Int, decide (x ≤ y) = true → decide (y ≤ z) = true → decide (x ≤ z) = true := fun x y z h1 h2 => by
      simp only [decide_eq_true_eq] at *
      exact List.le_trans h1 h2
    have tt : ∀ x y : List Int, (decide (x ≤ y) || decide (y ≤ x)) = true := fun x y => by
      rcases List.le_total x y with h | h <;> simp [h]
    have p1 := List.pairwise_mergeSort tr tt a
    have p2 := List.pairwise_mergeSort tr tt b
    refine List.Perm.eq_of_pairwise ?_ p1 p2 ((sortR_perm a).trans (h.trans (sortR_perm b).symm))
    intro x y _ _ h1 h2
    simp only [decide_eq_true_eq] at h1 h2
    exact List.le_antisymm h1 h2
section
variable {c : SC} {M : List MO} {Pf : List D → List MO → Prop}
theorem cf_sortedR {v : AV} {ts : List (List Int)} (hv : IsL M v (ts.map tI) ∨ v = .dat (tII ts)) (hn : ∀ t ∈ ts, t ≠ []) (h : Pf ((sortR ts).map tI) M) : CallF c (.builtin "sorted") [v] M Pf :=
  cf_sortedD tI hv (sortOk_rows hn) (by rw [leD_tI]; exact h)
end
end Fx

/-! Fx, part Y: lambdas; max(x, key=lambda ..). -/
namespace L2
open PySem PySem.Spec PyProof.Rows LamX
/-- a lambda's names: its parameters, what it captures, globals -/
structure LamS9 (sc scope : Scope) : Prop where
  kind : scope.kind = .function
  co : scope.isCoroutine = false
  gen : scope.isGenerator = false
  own : ∀ y ∈ scope.names, y.2 ≠ .cell
  free : ∀ y ∈ scope.names, y.2 = .free → sc.names.lookup y.1 = some .cell ∨ sc.names.lookup y.1 = some .free
def lamSB9 (sc scope : Scope) : Bool :=
  decide (scope.kind = .function) && !scope.isCoroutine && !scope.isGenerator && scope.names.all fun y => !decide (y.2 = .cell) && (!decide (y.2 = .free) || decide (sc.names.lookup y.1 = some .cell) || decide (sc.names.lookup y.1 = some .free))
theorem lamS_by9 {sc scope : Scope} (h : lamSB9 sc scope = true) : LamS9 sc scope := by
  unfold lamSB9 at h
  simp only [Bool.and_eq_true, Bool.or_eq_true, Bool.not_eq_true', decide_eq_true_eq, decide_eq_false_iff_not, List.all_eq_true] at h
  obtain ⟨⟨⟨h1, h2⟩, h3⟩, h4⟩ := h
  refine ⟨h1, h2, h3, fun y hy => (h4 y hy).1, fun y hy e => ?_⟩
  rcases (h4 y hy).2 with (z | z) | z
  · exact absurd e z
  · exact .inl z
  · exact .inr z
theorem LamS9.has {X : Cx} {scope : Scope} (L : LamS9 X.env.scope scope) (ok : X.Ok) : ∀ y ∈ scope.names, y.2 = .free → ∃ c, X.env.cells.lookup y.1 = some c := fun y hy e => by
  rcases L.free y hy e with k | k
  · exact ok.has _ (.inl k)
  · exact ok.has _ (.inr k)
section
variable {X : Cx} {pins : List (Addr × Obj)} {σ σ' : L2.St} {H : Hp} {s : Shared}
/-- the lambda is made; T is the one table that it needs -/
theorem lam_make9 {c P : Addr} {params : Arguments} {body : Expr} {scope : Scope} {pos : Pos} {E : Value → Shared → Prop} {Q : Value → Shared → Prop} (I : Inv X pins σ H s) (TB : TabB X.base X.mg c P) (hcode : X.env.code = .ref c)
    (hT : TabS H P (X.env.qual ++ "<lambda>")) (hdef : defaultsOf params X.env = ([], [])) (hfree : ∀ y ∈ scope.names, y.2 = .free → ∃ c, X.env.cells.lookup y.1 = some c)
    (h : ∀ (f c' : Addr) (pm ctv : Value) (H1 : Hp) (s' : Shared), Inv X pins σ H1 s' → (H1 = H ∨ ∃ ps, H c' = none ∧ (∃ qs, H P = some (.tbl qs)) ∧ H1 = upd (upd H P (.tbl ps)) c' (CodeO c' (X.env.qual ++ "<lambda>"))) → TabS H1 P (X.env.qual ++ "<lambda>") →
      s'.heap.get? f = some (PySem.W.kla_obj "<lambda>" (X.env.qual ++ "<lambda>") params body scope (cloFrom X.env.cells scope.names []) pm c' ctv) → H1 f = none → f ∉ frs X.stack → H1 c' = some (CodeO c' (X.env.qual ++ "<lambda>")) → Q (.ref f) s') :
    wpAny (model X.prog X.w) X.A (eval (.Lambda params body scope pos) X.env) Q E s := by
  obtain ⟨ps, hP, ht, ha⟩ := hT
  refine PySem.W.kla_eval hdef ?_
  have bP : s.heap.BuiltinsAt X.mg P := TB.bm.keeps I.bk
  have hP' : s.heap.get? P = some { cls := .none, data := .fields ps } := I.hok P _ hP
  have nofr : ∀ f, s.heap.objs.size ≤ f → f ∉ frs X.stack := fun f hf z => by
    rcases List.mem_cons.mp (I.stkSub _ z) with e | e
    · have h1 := I.lt
      rw [← e] at h1
      exact Nat.lt_irrefl _ (Nat.lt_of_lt_of_le h1 hf)
    · exact I.nofs hf e
  cases hc : codeAmong pos ps.toList with
  | none =>
    refine PySem.W.kla_makeFunction (mg := X.mg) (c := c) (P := P) (ps := ps) (closure_ok hfree) I.ok.glob (I.mod.glob.keeps I.bk) hcode (TB.code.keeps I.bk) hP' ht hc TB.gP bP fun c' ctv h' tk hx hge hlt hrec htb => ?_
    obtain ⟨c2, oc, vs, t, e2, hoc, hd, hv⟩ := hrec
    cases e2
    have hsz : s.heap.objs.size ≤ h'.objs.size := Nat.le_trans hge (Nat.le_of_lt hlt)
    have nC : H c' = none := I.hok.fresh hge
    have I1 := inv_table (t' := tk) (more := #[rawInt pos.line, rawInt pos.col, .ref c']) (h' := h'.push (PySem.W.kla_obj "<lambda>" (X.env.qual ++ "<lambda>") params body scope (cloFrom X.env.cells scope.names []) ((X.mg "__name__").getD .none) c' ctv)) I hP
      (fun b o hb e => Heap.get?_push_of_some _ (hx b o hb e)) (Heap.get?_push_of_some _ htb) hge ⟨oc, vs, t, Heap.get?_push_of_some _ hoc, hd, hv⟩
    have hE : ∀ b o, H b = some o → (∀ ps, o ≠ .tbl ps) → (upd (upd H P (.tbl (ps ++ #[rawInt pos.line, rawInt pos.col, .ref c']))) c' (CodeO c' (X.env.qual ++ "<lambda>"))) b = some o := fun b o e n => by
      rw [upd_ne (ne_of_none e nC), upd_ne (fun z => n ps (Option.some.inj (e.symm.trans (by rw [z]; exact hP))))]
      exact e
    have eL : (ps ++ #[rawInt pos.line, rawInt pos.col, .ref c']).toList = ps.toList ++ [rawInt pos.line, rawInt pos.col, .ref c'] := by simp
    refine h h'.objs.size c' ((X.mg "__name__").getD .none) ctv _ _ I1 (.inr ⟨_, nC, ⟨ps, hP⟩, rfl⟩) ?_ (Heap.get?_push_size _ rfl) ?_ (nofr _ hsz) upd_same
    · refine ⟨_, by rw [upd_ne (ne_of_none hP nC), upd_same], by rw [eL]; exact PySem.TriplesOk_snoc _ _ _ _ ht, fun p' cv hcv => ?_⟩
      rw [eL] at hcv
      rcases among_app _ ht hcv with z | z
      · obtain ⟨c0, e1, e2⟩ := ha p' cv z
        exact ⟨c0, e1, hE _ _ e2 codeO_ne⟩
      · exact ⟨c', z, upd_same⟩
    · have n1 : h'.objs.size ≠ c' := Nat.ne_of_gt hlt
      have n2 : h'.objs.size ≠ P := Nat.ne_of_gt (Nat.lt_of_lt_of_le (Heap.lt_size hP') hsz)
      rw [upd_ne n1, upd_ne n2]
      exact I.hok.fresh hsz
  | some cv =>
    obtain ⟨c', e, hco⟩ := ha pos cv hc
    subst e
    refine PySem.W.kla_makeFunctionHit (mg := X.mg) (c := c) (P := P) (ps := ps) (closure_ok hfree) I.ok.glob (I.mod.glob.keeps I.bk) hcode (TB.code.keeps I.bk) hP' ht hc bP fun ctv h' tk hx hsz => ?_
    have I1 : Inv X pins σ H { s with heap := h'.push (PySem.W.kla_obj "<lambda>" (X.env.qual ++ "<lambda>") params body scope (cloFrom X.env.cells scope.names []) ((X.mg "__name__").getD .none) c' ctv), toks := tk } := I.kept fun b o e => Heap.get?_push_of_some _ (hx b o e)
    exact h h'.objs.size c' ((X.mg "__name__").getD .none) ctv H _ I1 (.inl rfl) ⟨ps, hP, ht, ha⟩ (Heap.get?_push_size _ rfl) (I.hok.fresh hsz) (nofr _ hsz) hco
/-- its body begins -/
theorem lam_start9 {A : Around} {E : XK} {scope : Scope} {f c' : Addr} {h₁ : Heap} {tk : Nat} {bm : Str → Option Value} (I : Inv X pins σ H s) (L : LamS9 X.env.scope scope) (hA : A.frames = X.A.frames) (hd : A.handled = none)
    (hns : h₁.Ns s.heap.objs.size bm) (kp : ∀ b o, s.heap.get? b = some o → h₁.get? b = some o) (hl : σ'.length = σ.length)
    (hσ : ∀ (i : Nat) (y : Str) (v : V), X.N[i]? = some y → σ'[i]? = some (some v) → Vis scope y → (scope.names.lookup y = some .local ∧ ∃ u, RelV v u ∧ bm y = some u) ∨ (scope.names.lookup y = some .free ∧ σ[i]? = some (some v))) :
    Inv (lamCx X A X.stack s H E scope f c') [] σ' H { s with heap := h₁, toks := tk } := by
  have e0 : Env0 X.prog X.w X.K X.mg X.base A X.stack s H := by
    obtain ⟨a1, a2, a3, a4, a5, a6, a7, a8⟩ := I.env0
    exact ⟨hA.trans a1, a2, a3, a4, a5, a6, a7, a8⟩
  have hfree := L.has I.ok
  have cm : ∀ {y c}, (cloFrom X.env.cells scope.names []).lookup y = some c → X.env.cells.lookup y = some c := fun {y c} e => by
    rcases cloFrom_mem (PySem.mem_of_lookup e) with hm | ⟨h1, h2⟩
    · cases hm
    · obtain ⟨c1, hc⟩ := hfree _ h1 rfl
      have hc : X.env.cells.lookup y = some c1 := hc
      have e2 : c = c1 := by
        rw [h2, hc] <;> rfl
      rw [e2]
      exact hc
  have look : ∀ {y}, scope.names.lookup y = some .free → ∃ c, (cloFrom X.env.cells scope.names []).lookup y = some c := fun {y} hl => by
    have hy : (y, NameKind.free) ∈ scope.names := PySem.mem_of_lookup hl
    exact mem_lookup (cloFrom_has (cells := X.env.cells) (acc := []) hy)
  have cellK : ∀ {c : Addr} {v : Option Value}, s.heap.IsCell c v → h₁.IsCell c v := fun {c v} ⟨o, ho, hd⟩ => ⟨_, kp _ _ ho, hd⟩
  have noA : ∀ b : Addr, b ∉ (lamCx X A X.stack s H E scope f c').ex := fun b z => absurd (show b ∈ ([] : List Addr) from z) (by simp)
  refine ⟨⟨e0.mod, L.kind, rfl, rfl, Nat.le_refl _, fun y z c e1 e2 => I.ok.inj y z c (cm e1) (cm e2), fun y hy => ?_, fun y c z _ => ?_, fun _ => hd, Around.frames_deeper e0.frames, .inr ⟨rfl, rfl⟩, fun b z => absurd z (noA b), e0.bs, e0.bsz, fun b _ _ => noA b,
      fun b z => absurd z (noA b), e0.funs, e0.frf⟩,
    rfl, e0.bare, Un.kept kp, ⟨_, hns, fun i y v e1 e2 e3 => ?_⟩, fun y c e => ?_, e0.hok.fresh (Nat.le_refl _), fun y c e => ?_, fun q hq => absurd (show q ∈ ([] : List (Addr × Obj)) ++ [] from hq) (by simp), e0.hok.kept kp, hl.trans I.len⟩
  · have hy : scope.names.lookup y = some .cell ∨ scope.names.lookup y = some .free := hy
    rcases hy with hy | hy
    · exact absurd rfl (L.own _ (PySem.mem_of_lookup hy))
    · exact look hy
  · have z : false = true := z
    cases z
  · rcases hσ i y v e1 e2 e3 with ⟨k, u, ru, hb⟩ | ⟨k, e2'⟩
    · exact ⟨u, ru, .inl ⟨k, hb⟩⟩
    · obtain ⟨m, hn, hl⟩ := I.loc
      have hvis : Vis X.env.scope y := (L.free _ (PySem.mem_of_lookup k) rfl).elim (fun k => .inr (.inl k)) (fun k => .inr (.inr k))
      obtain ⟨w', r, q⟩ := hl i y v e1 e2' hvis
      obtain ⟨c2, h2⟩ := look k
      refine ⟨w', r, .inr ⟨.inr k, c2, h2, ?_⟩⟩
      have c1 := cm h2
      rcases q with ⟨k', _⟩ | ⟨_, c3, e', z⟩
      · have k' : X.env.scope.names.lookup y = some .local := k'
        rcases L.free _ (PySem.mem_of_lookup k) rfl with k2 | k2 <;> rw [show X.env.scope.names.lookup y = _ from k2] at k' <;> cases k'
      · rw [c1] at e'
        cases e'
        exact cellK z
  · obtain ⟨w', z⟩ := I.cell y c (cm e)
    exact ⟨w', cellK z⟩
  · obtain ⟨v, o, ho, hd⟩ := I.cell y c (cm e)
    exact I.freeC y c (cm e)
/-- the lambda called -/
theorem lam_call9 {A : Around} {E : XK} {params : Arguments} {body : Expr} {scope : Scope} {f c' : Addr} {pm ctv : Value} {args : List Value} {binds : List (Str × Value)} {k : Nat} {Q : VK} {tb : TE} (I : Inv X pins σ H s) (L : LamS9 X.env.scope scope) (hA : A.frames = X.A.frames)
    (hr : Room (k + 1) A) (hf : s.heap.get? f = some (PySem.W.kla_obj "<lambda>" (X.env.qual ++ "<lambda>") params body scope (cloFrom X.env.cells scope.names []) pm c' ctv)) (hc : H c' = some (CodeO c' (X.env.qual ++ "<lambda>")))
    (hbind : bindArgs (PySem.W.kla_fn "<lambda>" (X.env.qual ++ "<lambda>") params body scope (cloFrom X.env.cells scope.names []) pm (.ref c') ctv) ⟨args, []⟩ = pure binds) (hloc : ∀ y ∈ binds, scope.names.lookup y.1 = some .local) (hl : σ'.length = σ.length)
    (hσ : ∀ (i : Nat) (y : Str) (v : V), X.N[i]? = some y → σ'[i]? = some (some v) → Vis scope y → (scope.names.lookup y = some .local ∧ ∃ u, RelV v u ∧ binds.reverse.lookup y = some u) ∨ (scope.names.lookup y = some .free ∧ σ[i]? = some (some v)))
    (hbody : PE (lamCx X A X.stack s H E scope f c') body tb) (ht : tb σ' H Q) :
    codeAny (model X.prog X.w) A (.call (.ref f) ⟨args, []⟩) (CR (L2.CX X.prog X.w) X.stack X.prog X.w H s Q E) s := by
  obtain ⟨⟨oc, vs, t, hoc, hdc, hvc⟩, _, _⟩ := I.hok c' _ hc
  refine PySem.W.kla_callFunE hr.depth hf rfl L.co L.gen rfl ⟨c', oc, vs, t, rfl, hoc, hdc, hvc⟩ ?_
  rw [hbind]
  refine wpAny_pure (wpAny_newFunctionEnv (fun y hy => L.own y hy) hloc (fun h₁ hns hsb => ⟨I.nolimit.fresh _ hsb, ?_⟩) L.kind)
  show codeAny _ _ (.expr body (lamEnv X scope s.heap.objs.size f c')) _ _
  have kp : ∀ b o, s.heap.get? b = some o → h₁.get? b = some o := fun b o e => hsb.extBut b o (Nat.ne_of_lt (Heap.lt_size e)) (Heap.get?_push_of_some _ e)
  have J : Inv (lamCx X A X.stack s H E scope f c') [] σ' H { s with heap := h₁, toks := s.toks + binds.length } := lam_start9 I L hA hr.hd hns kp hl hσ
  refine PySem.W.kla_codeExpr (wpAny_mono (hbody.run [] _ _ H Q J ht) (fun v s' hq => ?_) fun e s' hq => hq)
  obtain ⟨w', H', J', rv, q⟩ := hq
  exact ⟨w', H', J'.os, J'.bare, J'.base, J'.hok, rv, q⟩
end
/-! ### max by a key -/
/-- from s0 on to s: the store's predicate J holds -/
structure At9 (P : Program) (w : World) (fr : List Env) (J : Hp → Prop) (s0 : Shared) (H0 : Hp) (s : Shared) (H : Hp) : Prop where
  os : s.os = s0.os
  bare : AllBare s.gens
  un : Un (frs fr) [] H0 H s0.heap s.heap
  hok : HOk P w H s.heap
  j : J H
section
variable {P : Program} {w : World} {fr : List Env} {J : Hp → Prop} {s0 s s1 : Shared} {H0 H H1 : Hp} {A : Around} {R : Result → Shared → Prop} {l f I S : Addr} {xs : List V}
/-- an object changes that nobody tracks and that was not there at s0 -/
theorem At9.but {b0 : Addr} {h' : Heap} {tk : Nat} (a : At9 P w fr J s0 H0 s H) (n0 : s0.heap.get? b0 = none) (nh : H b0 = none) (k : ∀ b o, b ≠ b0 → s.heap.get? b = some o → h'.get? b = some o) : At9 P w fr J s0 H0 { s with heap := h', toks := tk } H := by
  have ne : ∀ b o, s0.heap.get? b = some o → b ≠ b0 := fun b o e z => by rw [z, n0] at e; cases e
  refine ⟨a.os, a.bare, ⟨fun b o e n h1 h2 => k b o (ne b o e) (a.un.keep b o e n h1 h2), fun b o e n h1 h2 => ?_, a.un.free, fun b o e h2 => ?_, a.un.tups, a.un.frzs, a.un.tbls⟩, fun b o e => ?_, a.j⟩
  · obtain ⟨sl, q⟩ := a.un.slot b o e n h1 h2
    exact ⟨sl, k b _ (ne b o e) q⟩
  · obtain ⟨o', q⟩ := a.un.there b o e h2
    exact ⟨o', k b _ (ne b o e) q⟩
  · have hb : b ≠ b0 := fun z => by rw [z, nh] at e; cases e
    refine (a.hok b o e).stay (fun b' u hb' e' => k b' u ?_ e') (fun _ h => h) (fun _ _ h => h)
    rcases hb' with rfl | hb'
    · exact hb
    · intro z
      rw [z, nh] at hb'
      cases hb'
theorem At9.list (a : At9 P w fr J s0 H0 s H) (hJ : ∀ H, J H → H l = some (.lst xs)) : ∃ its : List Value, Vals xs its ∧ s.heap.IsList l its.toArray ∧ its.length ≤ sizeLine := by
  obtain ⟨z, its, n, rv, e⟩ := a.hok l _ (hJ H a.j)
  exact ⟨its, rv, ⟨_, e, rfl, n, rfl⟩, by rw [← rv.length]; exact z⟩
/-- behind a call -/
theorem At9.call {Q : VK} {u : Value} {s2 : Shared} (a : At9 P w fr J s0 H0 s H) (hs : ∀ b o, s0.heap.get? b = some o → ∃ o', s.heap.get? b = some o') (c : CE fr P w H s Q u s2) (hQ : ∀ v H2, Q v H2 → J H2) : ∃ v H2, At9 P w fr J s0 H0 s2 H2 ∧ Un (frs fr) [] H H2 s.heap s2.heap ∧ RelV v u ∧ Q v H2 := by
  obtain ⟨v, H2, os, bare, un, hok, rv, q⟩ := c
  exact ⟨v, H2, ⟨os.trans a.os, bare, a.un.trans un, hok, hQ v H2 q⟩, un, rv, q⟩
theorem max_loop9 (kf : Nat → Int) (hh : A.handled = none) (hJ : ∀ H, J H → H l = some (.lst xs)) (hlI : l ≠ I) (hSI : S ≠ I) (hIf : I ∉ frs fr) (hSf : S ∉ frs fr) (hI0 : s0.heap.get? I = none) (hS0 : s0.heap.get? S = none)
    (turn : ∀ (i : Nat) (x : V) (u : Value) (s1 : Shared) (H1 : Hp), xs[i]? = some x → RelV x u → At9 P w fr J s0 H0 s1 H1 → wpAny (model P w) A.in1 (call (.ref f) [u]) (CE fr P w H1 s1 fun v H2 => v = V.int (kf i) ∧ J H2) (fun _ _ => False) s1)
    (hR : ∀ (i : Nat) (x : V) (u : Value) (s1 : Shared) (H1 : Hp), xs[i]? = some x → RelV x u → (∀ j, j < xs.length → kf i ≥ kf j ∧ (j < i → kf i > kf j)) → At9 P w fr J s0 H0 s1 H1 → R (.ok (.ret u)) s1) :
    ∀ (r j i : Nat) (s1 : Shared) (H1 : Hp) (xb : V) (vb : Value) (tb : Tok) (c : Nat), xs.length - (j + 1) = r → j + 1 ≤ xs.length → At9 P w fr J s0 H0 s1 H1 → H1 I = none → H1 S = none → s1.heap.get? S = some (seqObj "list" #[vb, .int (kf i) tb] c) →
      s1.heap.IsListIter I l (j + 1) → xs[i]? = some xb → RelV xb vb → i ≤ j → (∀ j', j' ≤ j → kf i ≥ kf j' ∧ (j' < i → kf i > kf j')) →
      codeAny (model P w) A (.builtin "max.loop" ⟨[.ref I, .ref f, .ref S], []⟩) R s1 := by
  have hname : (toString "max" ++ toString ".loop" : String) = "max.loop" := by decide
  intro r
  induction r with
  | zero =>
    intro j i s1 H1 xb vb tb c hr hj a nI nS gS hit hvb rb hij hbest
    have hin : j + 1 = xs.length := by omega
    obtain ⟨its, rv, hl, hz⟩ := a.list hJ
    have W := Walks.list (prog := P) (w := w) (A := A.in1) hh I l hlI its.toArray
    have hsz : its.toArray.size = xs.length := by rw [List.size_toArray, rv.length]
    refine codeAny_builtin PySem.F.entry_max_loop ?_
    rw [Around.under_plainId PySem.F.plain_max_loop _]
    show wpAny _ A.in1 (seqItems? (.ref S) >>= _) _ _ _
    refine wpAny_bind (wpAny_seqItems gS rfl ?_)
    show wpAny _ A.in1 (tryCatch (pyNext (.ref I)) _ >>= _) _ _ _
    refine wpAny_bind (wpAny_tryCatch (W.done _ _ _ ⟨by rw [hsz, ← hin]; exact hit, hl⟩ fun h' tk' hk' => ?_))
    have a1 : At9 P w fr J s0 H0 { s1 with heap := h', toks := tk' } H1 := a.but hI0 nI fun b o hb e => hk' b o (by simpa using hb) e
    have gS' := hk' S _ (by simpa using hSI) gS
    show wpAny _ A.in1 (updateSeq S (fun _ => #[]) >>= _) _ _ _
    refine wpAny_bind ?_
    refine wpAny_updateSeq gS' rfl (wpAny_bind (wpAny_letGo (wpAny_pure ?_)))
    exact hR i xb vb _ H1 hvb rb (fun j' hj' => hbest j' (by omega)) (a1.but (b0 := S) hS0 nS fun b o hb e => by rw [Heap.get?_update_ne _ _ _ _ hb]; exact e)
  | succ r ih =>
    intro j i s1 H1 xb vb tb c hr hj a nI nS gS hit hvb rb hij hbest
    have hlt : j + 1 < xs.length := by omega
    obtain ⟨its, rv, hl, hz⟩ := a.list hJ
    have W := Walks.list (prog := P) (w := w) (A := A.in1) hh I l hlI its.toArray
    have hsz : its.toArray.size = xs.length := by rw [List.size_toArray, rv.length]
    refine codeAny_builtin PySem.F.entry_max_loop ?_
    rw [Around.under_plainId PySem.F.plain_max_loop _]
    show wpAny _ A.in1 (seqItems? (.ref S) >>= _) _ _ _
    refine wpAny_bind (wpAny_seqItems gS rfl ?_)
    show wpAny _ A.in1 (tryCatch (pyNext (.ref I)) _ >>= _) _ _ _
    refine wpAny_bind (wpAny_tryCatch (W.item (j + 1) _ _ _ (by rw [hsz]; exact hlt) ⟨hit, hl⟩ fun v h' tk' hP hst' hk' => ?_))
    have hv : its[j + 1]? = some v := by simpa using hP
    have hx : xs[j + 1]? = some xs[j + 1] := List.getElem?_eq_getElem hlt
    have rx : RelV xs[j + 1] v := by
      obtain ⟨u, hu, ru⟩ := rv.get hx
      rw [hv] at hu
      cases hu
      exact ru
    obtain ⟨oI', hoI', hoc, hod⟩ := id hst'.1
    have a1 : At9 P w fr J s0 H0 { s1 with heap := h', toks := tk' } H1 := a.but hI0 nI fun b o hb e => hk' b o (by simpa using hb) e
    have gS' := hk' S _ (by simpa using hSI) gS
    show wpAny _ A.in1 (tryCatch (holding [v] (call (.ref f) [v])) _ >>= _) _ _ _
    refine wpAny_bind (wpAny_tryCatch (wpAny_holding (wpAny_mono (turn (j + 1) _ v _ H1 hx rx a1) (fun x s2 he => ?_) fun _ _ hF => hF.elim)))
    obtain ⟨v2, H2, a2, un2, r2, rfl, hJ2⟩ := a1.call (fun b o e => a1.un.there b o e (by simp)) he fun _ _ q => q.2
    obtain ⟨t2, rfl⟩ := r2
    have gS2 := un2.keep S _ gS' nS hSf (by simp)
    have gI2 := un2.keep I _ hoI' nI hIf (by simp)
    have nS2 := un2.free S _ gS' nS (by simp)
    have nI2 := un2.free I _ hoI' nI (by simp)
    have hit2 : s2.heap.IsListIter I l (j + 1 + 1) := ⟨oI', gI2, hoc, hod⟩
    show wpAny _ A.in1 (tryCatch (holding [v, .int (kf (j + 1)) t2] (richCompare .Gt (.int (kf (j + 1)) t2) (.int (kf i) tb) >>= _)) _ >>= _) _ _ _
    refine wpAny_bind (wpAny_tryCatch (wpAny_holding (wpAny_bind (CmpOf.ints_gt (prog := P) (w := w) (A := A.in1) (P := fun i v => ∃ t, v = .int (kf i) t) kf (fun i v h => h) (j + 1) i _ _ _ _ _ ⟨t2, rfl⟩ ⟨tb, rfl⟩ ?_))))
    refine wpAny_bind (wpAny_holding (wpAny_truthy_bool ?_))
    refine wpAny_bind (wpAny_letGo (wpAny_pure ?_))
    by_cases hb' : kf (j + 1) > kf i
    · obtain ⟨c2, hc2⟩ : ∃ c2, (s2.heap.update S (Obj.mapSeq fun _ => #[v, .int (kf (j + 1)) t2])).get? S = some (seqObj "list" #[v, .int (kf (j + 1)) t2] c2) := ⟨_, get?_update_seq gS2 fun _ => #[v, .int (kf (j + 1)) t2]⟩
      simp only [hb', decide_true, if_true]
      refine wpAny_bind ?_
      refine wpAny_updateSeq gS2 rfl (wpAny_bind (wpAny_letGo ?_))
      rw [hname]
      refine wpAny_pure ⟨plainId_quiet PySem.F.plain_max_loop _, ih (j + 1) (j + 1) _ H2 _ v t2 c2 (by omega) hlt (a2.but (b0 := S) hS0 nS2 fun b o hb e => by rw [Heap.get?_update_ne _ _ _ _ hb]; exact e) nI2 nS2 hc2 ⟨oI', ?_, hoc, hod⟩ hx rx (Nat.le_refl _) fun j' hj' => ?_⟩
      · show (s2.heap.update S _).get? I = _
        rw [Heap.get?_update_ne _ _ _ _ hSI.symm]
        exact gI2
      · by_cases e : j' = j + 1
        · subst e
          exact ⟨by omega, fun _ => by omega⟩
        · have hb1 := hbest j' (by omega)
          have hb2 := hb1.1
          exact ⟨by omega, fun _ => by omega⟩
    · simp only [hb', decide_false, Bool.false_eq_true, if_false]
      refine wpAny_bind (wpAny_letGo ?_)
      rw [hname]
      refine wpAny_pure ⟨plainId_quiet PySem.F.plain_max_loop _, ih (j + 1) i _ H2 xb vb tb c (by omega) hlt a2 nI2 nS2 gS2 hit2 hvb rb (by omega) fun j' hj' => ?_⟩
      by_cases e : j' = j + 1
      · subst e
        exact ⟨by omega, fun _ => by omega⟩
      · exact hbest j' (by omega)
theorem max_key9 {Q : Value → Shared → Prop} {E : Value → Shared → Prop} (kf : Nat → Int) (hh : A.handled = none) (hJ : ∀ H, J H → H l = some (.lst xs)) (hne : 0 < xs.length) (fre : ∀ b, s0.heap.objs.size ≤ b → b ∉ frs fr) (a : At9 P w fr J s0 H0 s0 H0)
    (turn : ∀ (i : Nat) (x : V) (u : Value) (s1 : Shared) (H1 : Hp), xs[i]? = some x → RelV x u → At9 P w fr J s0 H0 s1 H1 → wpAny (model P w) A.in1 (call (.ref f) [u]) (CE fr P w H1 s1 fun v H2 => v = V.int (kf i) ∧ J H2) (fun _ _ => False) s1)
    (hR : ∀ (i : Nat) (x : V) (u : Value) (s1 : Shared) (H1 : Hp), xs[i]? = some x → RelV x u → (∀ j, j < xs.length → kf i ≥ kf j ∧ (j < i → kf i > kf j)) → At9 P w fr J s0 H0 s1 H1 → Q u s1) :
    wpAny (model P w) A (call (.builtin "max") [.ref l] [(Str.ofString "key", .ref f)]) Q E s0 := by
  have hname : (toString "max" ++ toString ".loop" : String) = "max.loop" := by decide
  obtain ⟨its, rv, hls, hz⟩ := a.list hJ
  obtain ⟨ol, hol, _⟩ := id hls
  have hll : l < s0.heap.objs.size := Heap.lt_size hol
  refine kmk_tree PySem.F.kind_max PySem.F.plain_max PySem.F.entry_max (kmk_max_key _ _) ?_
  show wpAny _ A.in1 (Builtin.Builtins.bindParams "max" ["key", "default"] 0 ⟨[], [(Str.ofString "key", .ref f)]⟩ >>= _) _ _ s0
  refine wpAny_bind (wpAny_of_eq (show Builtin.Builtins.bindParams "max" ["key", "default"] 0 ⟨[], [(Str.ofString "key", .ref f)]⟩ = pure [some (.ref f), none] from rfl) ?_)
  refine wpAny_bind (wpAny_pure ?_)
  refine wpAny_bind (wpAny_pyIter_list hls ?_)
  refine wpAny_bind (wpAny_newList ?_ (Nat.zero_le _))
  rw [hname]
  have hS : (s0.heap.push { cls := .type "list_iterator", data := .fields #[.ref l, .int 0 0] }).objs.size = s0.heap.objs.size + 1 := size_push' ..
  have hlI : l ≠ s0.heap.objs.size := Nat.ne_of_lt hll
  have hSI : (s0.heap.push { cls := .type "list_iterator", data := .fields #[.ref l, .int 0 0] }).objs.size ≠ s0.heap.objs.size := by rw [hS]; exact Nat.ne_of_gt (Nat.lt_succ_self _)
  have hI0 : s0.heap.get? s0.heap.objs.size = none := Heap.get?_none_of_le (Nat.le_refl _)
  have hS0 : s0.heap.get? (s0.heap.push { cls := .type "list_iterator", data := .fields #[.ref l, .int 0 0] }).objs.size = none := by rw [hS]; exact Heap.get?_none_of_le (Nat.le_succ _)
  have nI : H0 s0.heap.objs.size = none := a.hok.fresh (Nat.le_refl _)
  have nS : H0 (s0.heap.push { cls := .type "list_iterator", data := .fields #[.ref l, .int 0 0] }).objs.size = none := by rw [hS]; exact a.hok.fresh (Nat.le_succ _)
  have hIf : s0.heap.objs.size ∉ frs fr := fre _ (Nat.le_refl _)
  have hSf : (s0.heap.push { cls := .type "list_iterator", data := .fields #[.ref l, .int 0 0] }).objs.size ∉ frs fr := by rw [hS]; exact fre _ (Nat.le_succ _)
  refine wpAny_pure ⟨plainId_quiet PySem.F.plain_max_loop _, ?_⟩
  have gI : ((s0.heap.push { cls := .type "list_iterator", data := .fields #[.ref l, .int 0 0] }).push (seqObj "list" #[] 0)).get? s0.heap.objs.size = some { cls := .type "list_iterator", data := .fields #[.ref l, .int 0 0] } :=
    Heap.get?_push_of_some _ (Heap.get?_push_size _ rfl)
  have gS : ((s0.heap.push { cls := .type "list_iterator", data := .fields #[.ref l, .int 0 0] }).push (seqObj "list" #[] 0)).get? (s0.heap.push { cls := .type "list_iterator", data := .fields #[.ref l, .int 0 0] }).objs.size = some (seqObj "list" #[] 0) := Heap.get?_push_size _ rfl
  have aH : At9 P w fr J s0 H0 { s0 with heap := (s0.heap.push { cls := .type "list_iterator", data := .fields #[.ref l, .int 0 0] }).push (seqObj "list" #[] 0) } H0 :=
    a.but (tk := s0.toks) hI0 nI fun b o _ e => Heap.get?_push_of_some _ (Heap.get?_push_of_some _ e)
  have hsz : its.toArray.size = xs.length := by rw [List.size_toArray, rv.length]
  have hlsH : ((s0.heap.push { cls := .type "list_iterator", data := .fields #[.ref l, .int 0 0] }).push (seqObj "list" #[] 0)).IsList l its.toArray := by
    obtain ⟨o, e, r⟩ := id hls
    exact ⟨o, Heap.get?_push_of_some _ (Heap.get?_push_of_some _ e), r⟩
  have W := Walks.list (prog := P) (w := w) (A := A.in1) hh s0.heap.objs.size l hlI its.toArray
  refine codeAny_builtin PySem.F.entry_max_loop ?_
  rw [Around.under_plainId PySem.F.plain_max_loop _]
  show wpAny _ A.in1 (seqItems? (.ref _) >>= _) _ _ _
  refine wpAny_bind (wpAny_seqItems gS rfl ?_)
  show wpAny _ A.in1 (tryCatch (pyNext (.ref s0.heap.objs.size)) _ >>= _) _ _ _
  refine wpAny_bind (wpAny_tryCatch (W.item 0 _ _ _ (by rw [hsz]; exact hne) ⟨⟨_, gI, rfl, rfl⟩, hlsH⟩ fun v h' tk' hP hst' hk' => ?_))
  have hv : its[0]? = some v := by simpa using hP
  have hx : xs[0]? = some xs[0] := List.getElem?_eq_getElem hne
  have rx : RelV xs[0] v := by
    obtain ⟨u, hu, ru⟩ := rv.get hx
    rw [hv] at hu
    cases hu
    exact ru
  obtain ⟨oI', hoI', hoc, hod⟩ := id hst'.1
  have a1 : At9 P w fr J s0 H0 { s0 with heap := h', toks := tk' } H0 := aH.but hI0 nI fun b o hb e => hk' b o (by simpa using hb) e
  have gS' := hk' _ _ (by simpa using hSI) gS
  show wpAny _ A.in1 (tryCatch (holding [v] (call (.ref f) [v])) _ >>= _) _ _ _
  refine wpAny_bind (wpAny_tryCatch (wpAny_holding (wpAny_mono (turn 0 _ v _ H0 hx rx a1) (fun x s2 he => ?_) fun _ _ hF => hF.elim)))
  obtain ⟨v2, H2, a2, un2, r2, rfl, hJ2⟩ := a1.call (fun b o e => a1.un.there b o e (by simp)) he fun _ _ q => q.2
  obtain ⟨t2, rfl⟩ := r2
  have gS2 := un2.keep _ _ gS' nS hSf (by simp)
  have gI2 := un2.keep _ _ hoI' nI hIf (by simp)
  have nS2 := un2.free _ _ gS' nS (by simp)
  have nI2 := un2.free _ _ hoI' nI (by simp)
  obtain ⟨c2, hc2⟩ : ∃ c2, (s2.heap.update (s0.heap.push { cls := .type "list_iterator", data := .fields #[.ref l, .int 0 0] }).objs.size (Obj.mapSeq fun _ => #[v, .int (kf 0) t2])).get? (s0.heap.push { cls := .type "list_iterator", data := .fields #[.ref l, .int 0 0] }).objs.size = some (seqObj "list" #[v, .int (kf 0) t2] c2) := ⟨_, get?_update_seq gS2 fun _ => #[v, .int (kf 0) t2]⟩
  show wpAny _ A.in1 (updateSeq (s0.heap.push { cls := .type "list_iterator", data := .fields #[.ref l, .int 0 0] }).objs.size (fun _ => #[v, .int (kf 0) t2]) >>= _) _ _ _
  refine wpAny_bind ?_
  refine wpAny_updateSeq gS2 rfl ?_
  rw [hname]
  refine wpAny_pure ⟨plainId_quiet PySem.F.plain_max_loop _, max_loop9 (I := s0.heap.objs.size) kf hh hJ hlI hSI hIf hSf hI0 hS0 turn hR _ 0 0 _ H2 _ v t2 c2 rfl hne (a2.but hS0 nS2 fun b o hb e => by rw [Heap.get?_update_ne _ _ _ _ hb]; exact e) nI2 nS2 hc2 ⟨oI', ?_, hoc, hod⟩ hx rx (Nat.le_refl _) fun j' hj' => ?_⟩
  · show (s2.heap.update _ _).get? s0.heap.objs.size = _
    rw [Heap.get?_update_ne _ _ _ _ hSI.symm]
    exact gI2
  · have e : j' = 0 := by omega
    subst e
    exact ⟨by omega, fun h => absurd h (Nat.lt_irrefl _)⟩
end
end L2
namespace Fx
open PySem L2 LamX
@[reducible] def SC.lam (c : SC) (scope : Scope) (k : Nat) : SC := { c with sc := scope, fn := fun _ => false, k := k, okE := fun _ _ => True }
@[reducible] def Dyn.lam {c : SC} (y : Dyn c) {k : Nat} (A : Around) (s : Shared) (H : Hp) (scope : Scope) (f c' : Addr) (hr : Room k (A.deeper (lamEnv y.cx scope s.heap.objs.size f c'))) : Dyn (c.lam scope k) where
  A := A.deeper (lamEnv y.cx scope s.heap.objs.size f c')
  s0 := s
  H0 := H
  env := lamEnv y.cx scope s.heap.objs.size f c'
  outer := y.stack
  stack := lamEnv y.cx scope s.heap.objs.size f c' :: y.stack
  ex := []
  pn := []
  xe := fun _ _ => False
  sc := rfl
  room := hr
  pass := PassesOwn.never
  en := trivial
/-- an expression by what it does -/
def tAll (X : Cx) (e : Expr) : TE := fun σ H Q => ∀ pins s, Inv X pins σ H s → wpAny (model X.prog X.w) X.A (eval e X.env) (EP X pins σ Q) X.xe s
theorem tAll_ok {X : Cx} {e : Expr} : PE X e (tAll X e) := ⟨fun pins s σ H Q I h => h pins s I⟩
theorem set_same9 {α : Type} : ∀ {l : List α} {j : Nat} {x : α}, l[j]? = some x → l.set j x = l
  | [], _, _, h => by simp at h
  | y :: l, 0, x, h => by
    have : y = x := Option.some.inj h
    subst this
    rfl
  | y :: l, j + 1, x, h => congrArg (y :: ·) (set_same9 (l := l) (j := j) h)
/-- the table has grown -/
theorem tab_nx {K : PySem.W.Frag} {ad : List Addr} {H H2 : Hp} {M : List MO} {j : Nat} {P c' : Addr} {q : Str} (S : StOk K ad H M) (hj : M[j]? = some (.tab P q)) (hT : TabS H2 P q)
    (h : H2 = H ∨ ∃ ps, H c' = none ∧ (∃ qs, H P = some (.tbl qs)) ∧ H2 = upd (upd H P (.tbl ps)) c' (CodeO c' q)) : StOk K ad H2 M ∧ Nx ad H ad H2 := by
  rcases h with rfl | ⟨ps, hc, ⟨qs, hP⟩, rfl⟩
  · exact ⟨S, Nx.refl⟩
  · have ne : P ≠ c' := ne_of_none hP hc
    have e : upd (upd H P (.tbl ps)) c' (CodeO c' q) = upd (upd H c' (CodeO c' q)) P (.tbl ps) := by
      funext b
      by_cases h1 : b = P
      · subst h1
        rw [upd_ne ne, upd_same, upd_same]
      · by_cases h2 : b = c'
        · subst h2
          rw [upd_same, upd_ne h1, upd_same]
        · rw [upd_ne h2, upd_ne h1, upd_ne h1, upd_ne h2]
    rw [e] at hT ⊢
    have sm := same_new (o := CodeO c' q) hc
    obtain ⟨a, ha, haP, _⟩ := S.obj j _ hj
    subst haP
    obtain ⟨S2, n2⟩ := (S.same sm).put (m := .tab a q) (o := .tbl ps) ha ⟨rfl, hT⟩
    rw [set_same9 hj] at S2
    exact ⟨S2, (Nx.same sm).trans n2⟩
section
variable {c : SC} {δ : Dl} {M : List MO} {Post : AQ} {e : Expr} {p pos lpos kpos : Pos} {params : Arguments} {body : Expr} {scope : Scope}
/-- max(e, key=lambda pn: body), a new list -/
theorem x_maxKey {α : Type} {cd Pt : Addr} {ql pn : Str} {ip k : Nat} (jt : Nat) (hE : ∀ cv q, c.okE cv q → cv = .ref cd ∧ q = ql) (TB : TabB c.base c.mg cd Pt) (L : LamS9 c.sc scope) (hpar : scope.names.lookup pn = some .local)
    (hone : (scope.names.all fun y => !decide (y.2 = .local) || y.1 == pn) = true) (hN : c.N[ip]? = some pn) (hnd : c.N.Nodup) (hdef : ∀ env, defaultsOf params env = ([], []))
    (hbind : ∀ (q : Str) (cl : List (Str × Addr)) (pm cv ctv u : Value), bindArgs (PySem.W.kla_fn "<lambda>" q params body scope cl pm cv ctv) ⟨[u], []⟩ = pure [(pn, u)]) (hg : c.gl "max") (hm : c.mg "max" = none) (hk : c.k = k + 2)
    (h : EvF c δ M e fun ds M1 => ∃ (ts : List α) (enc : α → D) (kf : α → Int), ds = ts.map enc ∧ ts ≠ [] ∧ M1[jt]? = some (.tab Pt (ql ++ "<lambda>")) ∧
      (∀ t ∈ ts, EvX (c.lam scope k) (δ.set ip (some (.dat (enc t)))) M1 body fun b M2 => b = .dat (.int (kf t)) ∧ M2 = M1) ∧
      ∀ (i : Nat) (t : α), ts[i]? = some t → (∀ (j : Nat) (t' : α), ts[j]? = some t' → kf t' ≤ kf t ∧ (j < i → kf t' < kf t)) → Post (.dat (enc t)) M1)
    (hst : ∀ env, backTo pos (starEach [e] env) = (false, eval e env) :: backTo pos (starEach [] env)) (hpl : ∀ env, (backTo pos (starEach [e] env)).any (·.1) = false)
    (hse : ∀ env, starEach [e] env = (false, eval e env) :: starEach [] env) :
    EvX c δ M (.Call (.Name "max" p) [e] [⟨some "key", .Lambda params body scope lpos, kpos⟩] pos) Post := fun y σ H ad he hs Q q => by
  refine ⟨_, tAll_ok, fun pins s I => ?_⟩
  have hg' := glS y hg
  obtain ⟨ecode, equal⟩ := hE _ _ y.en
  have L' : LamS9 y.cx.env.scope scope := by rw [show y.cx.env.scope = c.sc from y.sc]; exact L
  refine wpAny_Call_Name_kw (ld_blt I hg' hm PyProof.Rows.boot_max ?_)
  have first := h y σ H ad he hs (fun v H1 => ∃ l xs ad1 M1, ∃ (ts : List α) (enc : α → D) (kf : α → Int), v = .ref l ∧ Nx ad H ad1 H1 ∧ StOk c.K ad1 H1 M1 ∧ l ∉ ad1 ∧ H1 l = some (.lst xs) ∧ Reps c.K H1 (ts.map enc) xs ∧ ts ≠ [] ∧ M1[jt]? = some (.tab Pt (ql ++ "<lambda>")) ∧
      (∀ t ∈ ts, EvX (c.lam scope k) (δ.set ip (some (.dat (enc t)))) M1 body fun b M2 => b = .dat (.int (kf t)) ∧ M2 = M1) ∧
      ∀ (i : Nat) (t : α), ts[i]? = some t → (∀ (j : Nat) (t' : α), ts[j]? = some t' → kf t' ≤ kf t ∧ (j < i → kf t' < kf t)) → Post (.dat (enc t)) M1) (fun p xs H2 ad2 ds M2 n s2 f1 f2 f3 f4 z => by
    obtain ⟨ts, enc, kf, rfl, z⟩ := z
    exact ⟨p, xs, ad2, M2, ts, enc, kf, rfl, n, s2, f2, f3, f4, z⟩)
  refine PyProof.Rows.callWith_kw (thn ((pa_cons (X := y.cx) wE_ok pa_nil (hse y.env)).run pos pins s σ H (fun vs H1 => ∃ v, vs = [v] ∧ ∃ l xs ad1 M1, ∃ (ts : List α) (enc : α → D) (kf : α → Int), v = .ref l ∧ Nx ad H ad1 H1 ∧ StOk c.K ad1 H1 M1 ∧ l ∉ ad1 ∧ H1 l = some (.lst xs) ∧ Reps c.K H1 (ts.map enc) xs ∧ ts ≠ [] ∧ M1[jt]? = some (.tab Pt (ql ++ "<lambda>")) ∧
      (∀ t ∈ ts, EvX (c.lam scope k) (δ.set ip (some (.dat (enc t)))) M1 body fun b M2 => b = .dat (.int (kf t)) ∧ M2 = M1) ∧
      ∀ (i : Nat) (t : α), ts[i]? = some t → (∀ (j : Nat) (t' : α), ts[j]? = some t' → kf t' ≤ kf t ∧ (j < i → kf t' < kf t)) → Post (.dat (enc t)) M1) I ?_) fun us s1 hA => ?_) (hst y.env) (hpl y.env) rfl rfl
  · show wE y.cx e σ H _
    obtain ⟨t0, pt0, ht0⟩ := first
    refine ⟨tAll y.cx e, tAll_ok, fun pins s I => thn (pt0.run pins s σ H _ I ht0) fun u s' ⟨v, H', I', r, z⟩ => ⟨v, H', I', r, ?_⟩⟩
    exact ⟨v, rfl, z⟩
  obtain ⟨vs, H1, I1, rv, v, rfl, l, xs, ad1, M1, ts, enc, kf, rfl, n1, S1, hl1, hl2, hrep, hne, hjt, hbody, hpost⟩ := hA
  have eu := Vals.ref1 rv
  subst eu
  show wpAny _ _ (evalAll [do let v ← eval (.Lambda params body scope lpos) y.cx.env; standAt pos; pure v]) _ _ s1
  have hT1 : TabS H1 Pt (y.cx.env.qual ++ "<lambda>") := by
    obtain ⟨a, ha, haP, hT⟩ := S1.obj jt _ hjt
    subst haP
    rw [show y.cx.env.qual = ql from equal]
    exact hT
  refine wpAny_evalAll_cons (wpAny_bind (lam_make9 I1 TB ecode hT1 (hdef _) (L'.has I1.ok) fun f c' pm ctv H2 s2 I2 hup hT2 hf hfn hfr hco => ?_))
  refine wpAny_bind (wpAny_standAt (wpAny_pure ?_))
  refine wpAny_evalAll_nil ?_
  rw [show y.cx.env.qual = ql from equal] at hup hT2
  obtain ⟨S2, n2⟩ := tab_nx S1 hjt hT2 hup
  show wpAny _ _ (call (.builtin "max") [.ref l] [(Str.ofString "key", .ref f)]) _ _ s2
  have hkf : ∀ (i : Nat) (t : α), ts[i]? = some t → ((ts[i]?).map kf).getD 0 = kf t := fun i t e => by rw [e]; rfl
  have lxs : xs.length = ts.length := by rw [hrep.length, List.length_map]
  have after : ∀ s3 H3, At9 c.P c.w y.stack (fun H => Nx ad1 H2 ad1 H ∧ StOk c.K ad1 H M1) s2 H2 s3 H3 → Inv y.cx pins σ H3 s3 := fun s3 H3 a => by
    obtain ⟨v, H', I', r, e⟩ := I2.after (Q := fun _ H => H = H3) (u := .none) (show CE y.cx.stack y.cx.prog y.cx.w H2 s2 _ _ s3 from ⟨.non, H3, a.os, a.bare, a.un, a.hok, rfl, rfl⟩)
    rw [← show H' = H3 from e]
    exact I'
  refine max_key9 (P := c.P) (w := c.w) (fr := y.stack) (J := fun H => Nx ad1 H2 ad1 H ∧ StOk c.K ad1 H M1) (H0 := H2) (xs := xs) (fun i => ((ts[i]?).map kf).getD 0) y.room.hd (fun H ⟨n, _⟩ => n.keep l _ hl1 (n2.keep l _ hl1 hl2)) ?_ ?_ ⟨rfl, I2.bare, Un.refl, I2.hok, Nx.refl, S2⟩ ?_ ?_
  · rw [lxs]
    exact List.length_pos_iff.mpr hne
  · intro b hb z
    rcases List.mem_cons.mp (I2.stkSub _ z) with e | e
    · have h1 := I2.lt
      rw [← e] at h1
      exact Nat.lt_irrefl _ (Nat.lt_of_lt_of_le h1 hb)
    · exact I2.nofs hb e
  · intro i x u s3 H3 hx rx a
    have I3 := after s3 H3 a
    obtain ⟨n3, S3⟩ := a.j
    obtain ⟨d, hd, rd⟩ := hrep.get' hx
    rw [List.getElem?_map] at hd
    cases hti : ts[i]? with
    | none => rw [hti] at hd; cases hd
    | some t =>
      rw [hti] at hd
      cases hd
      have hr1 : Room (k + 1) y.cx.A.in1 := by
        have := y.room
        rw [hk] at this
        exact this.in1
      have hf3 := a.un.keep f _ hf hfn hfr (by simp)
      have hfree3 : H3 c' = some (CodeO c' (y.cx.env.qual ++ "<lambda>")) := n3.tx.ext _ _ hco
      have n13 := n2.trans n3
      have env3 : EnvOk c.K ad1 H3 (σ.set ip (some x)) (δ.set ip (some (.dat (enc t)))) := ((he.nx n1).nx n13).set (Rep.tx n13.tx rd)
      have ev := hbody t (List.mem_of_getElem? hti) (Dyn.lam y y.cx.A.in1 s3 H3 scope f c' (hr1.deeper _)) (σ.set ip (some x)) H3 ad1 env3 S3 (fun v H4 => v = V.int (kf t) ∧ Nx ad1 H2 ad1 H4 ∧ StOk c.K ad1 H4 M1) (fun v H4 ad4 a4 M4 n4 S4 r4 ⟨e1, e2⟩ => by
        subst e1 e2
        obtain ⟨tt, rfl⟩ := n4.pre
        have : tt = [] := by
          have l1 := S4.len
          have l2 := S3.len
          rw [List.length_append] at l1
          exact List.eq_nil_of_length_eq_zero (by omega)
        subst this
        rw [List.append_nil] at n4 S4
        exact ⟨r4, n3.trans n4, S4⟩)
      refine wpAny_call (codeAny_mono (lam_call9 (X := y.cx) (E := fun _ _ _ => False) (binds := [(pn, u)]) (σ' := σ.set ip (some x)) (tb := wE (Dyn.lam y y.cx.A.in1 s3 H3 scope f c' (hr1.deeper _)).cx body) I3 L' rfl hr1 hf3 hfree3 (hbind _ _ _ _ _ _) ?_ (by rw [List.length_set]) ?_ (PE.nox wE_ok) ev) fun r s4 hq => ?_)
      · intro z hz
        rw [List.mem_singleton.mp hz]
        exact hpar
      · intro i' y' v' e1 e2 e3
        have nodup := hnd
        rcases e3 with k3 | k3 | k3
        · have hy : y' = pn := by
            have := List.all_eq_true.mp hone _ (PySem.mem_of_lookup k3)
            simpa using this
          subst hy
          have hi : i' = ip := nodup_ix hnd e1 hN
          subst hi
          have hlt : i' < σ.length := by
            have := (List.getElem?_eq_some_iff.mp e2).1
            rwa [List.length_set] at this
          rw [List.getElem?_set_self hlt] at e2
          have : x = v' := Option.some.inj (Option.some.inj e2)
          subst this
          exact .inl ⟨hpar, u, rx, by simp⟩
        · exact absurd rfl (L.own _ (PySem.mem_of_lookup k3))
        · refine .inr ⟨k3, ?_⟩
          have hi : ip ≠ i' := fun z => by
            subst z
            rw [hN] at e1
            cases e1
            rw [hpar] at k3
            cases k3
          rw [List.getElem?_set_ne hi] at e2
          exact e2
      · cases r with
        | error e =>
          obtain ⟨_, _, _, _, _, _, _, _, _, _, _, _, z⟩ := (show L2.CX _ _ _ _ _ _ _ _ from hq)
          exact z
        | ok fl =>
          cases fl with
          | ret u2 =>
            obtain ⟨v, H', os, bare, un, hok, r, q1, q2⟩ := (show CE _ _ _ _ _ _ _ _ from hq)
            exact ⟨v, _, os, bare, un, hok, r, q1, q2⟩
          | next => exact False.elim hq
          | brk => exact False.elim hq
          | cont => exact False.elim hq
  · intro i x u s3 H3 hx rx hbest a
    obtain ⟨n3, S3⟩ := a.j
    obtain ⟨d, hd, rd⟩ := hrep.get' hx
    rw [List.getElem?_map] at hd
    cases hti : ts[i]? with
    | none => rw [hti] at hd; cases hd
    | some t =>
      rw [hti] at hd
      cases hd
      have n13 := n2.trans n3
      refine ⟨x, H3, after s3 H3 a, rx, q x H3 ad1 (.dat (enc t)) M1 (n1.trans n13) S3 (Rep.tx n13.tx rd) (hpost i t hti fun j t' hj => ?_)⟩
      have hjl : j < xs.length := by rw [lxs]; exact (List.getElem?_eq_some_iff.mp hj).1
      obtain ⟨b1, b2⟩ := hbest j hjl
      simp only [hti, hj, Option.map_some, Option.getD_some] at b1 b2
      exact ⟨b1, b2⟩
end
end Fx
namespace Fx
open PySem L2 LamX
/-- the table of the def x is known -/
class TabOf (K : PySem.W.Frag) (mg : Str → Option Value) (base : Heap) (x : Str) (Pt : outParam Addr) : Prop where
  ex : ∃ cb, TabB base mg cb Pt ∧ ∀ (fa : Addr) (o : Obj) (fd : FuncData), mg x = some (.ref fa) → K.lookup fa = some o → o.data = .func fd → fd.code = .ref cb
theorem codeHd_mk9 {K : PySem.W.Frag} {h : Heap} {c P : Addr} {d : Option Addr} {vs : Array Value} {sl : Array (Option Value)} {f : Str} {tf tg tt : Tok} {fl n : Int} {b : Bool} (X : K.In h) (hk : K.lookup c = some ⟨.type "code", d, .fields vs, sl⟩) (h11 : vs[11]? = some (.ref P))
    (h18 : vs.getD 18 .none = .str f tf) (h7 : vs.getD 7 .none = .int fl tg) (h9 : vs.getD 9 .none = .bool b) (h10 : vs.getD 10 .none = .int n tt) (hne : c ≠ P) : PySem.W.CodeHd h c P :=
  ⟨_, vs, f, tf, fl, tg, b, n, tt, X _ _ hk, rfl, rfl, h11, by rw [Array.getD_eq_getD_getElem?, h11]; rfl, h18, h7, h9, h10, hne⟩
@[reducible] def scOfL (P : Program) (w : World) (K : PySem.W.Frag) (mg : Str → Option Value) (base : Heap) (N : List Str) (st : Stmt) (cd : Addr) (ql : Str) (k : Nat) : SC := { scOf P w K mg base N st k with okE := fun cv q => cv = .ref cd ∧ q = ql }
section
variable {P : Program} {w : World} {K : PySem.W.Frag} {mg : Str → Option Value} {base : Heap} {k : Nat} {x : Str} {st : Stmt} {ps N : List Str}
/-- a def that makes lambdas -/
theorem fn_mkL {fa : Addr} {fd : FuncData} {ql : Str} {A : ASp} {cd : Addr} (F : Fun K x ql st fa fd) (hcode : fd.code = .ref cd) (S : FnScope N ps (defScope st))
    (h : ∀ as M Post, as.length = ps.length → A as M Post → Run (scOfL P w K mg base N st cd (ql ++ ".<locals>.") k) (as.map some ++ List.replicate (N.length - as.length) none) M (defBody st) { nx := fun _ M2 => Fin M Post (.dat .non) M2, rt := Fin M Post }) :
    FnOk P w K mg base CX0 (k + 1) fa fd ps (spOf K ps.length A) := by
  obtain ⟨oc, od, kV, doc, pm, an, cdv, ct, osl, rfl, lk, hcd⟩ := F.ex
  have ecd : cdv = .ref cd := hcode
  subst ecd
  refine fn_of lk hcd S (fun vs H Q E h => h.1) fun A' outer s H vs Q E hr hsp => ?_
  obtain ⟨hl, ad, as, M, Post, hs, hr2, hA, q⟩ := hsp
  have fin : ∀ v H2 ad2 a M2, Nx ad H ad2 H2 → StOk K ad2 H2 M2 → RepA K ad2 H2 a v → Fin M Post a M2 → Q v H2 := by
    intro v H2 ad2 a M2 n s2 r p
    rcases p with p | ⟨rest, rfl, p⟩
    · exact q v H2 ad2 a M2 n s2 r p
    · obtain ⟨t, rfl⟩ := n.pre
      have sb := hs.back s2
      rcases p with ⟨d, rfl, p⟩ | ⟨ds, rfl, p⟩ | ⟨j, ds, rfl, hj, hm, p⟩ | ⟨ds, rfl, p⟩
      · exact q v H2 ad (.dat d) M n.back sb r p
      · obtain ⟨b, xs, e, ⟨h1, h2⟩, h3⟩ := r
        exact q v H2 ad (.ls ds) M n.back sb ⟨b, xs, e, ⟨h1, fun z => h2 (List.mem_append_left _ z)⟩, h3⟩ p
      · obtain ⟨b, hb, e⟩ := r
        obtain ⟨b2, hb2, xs, h1, h3⟩ := s2.obj j _ hm
        rw [hb] at hb2
        cases hb2
        refine q v H2 ad (.ls ds) M n.back sb ⟨b, xs, e, ⟨h1, fun z => ?_⟩, h3⟩ p
        obtain ⟨i, hi⟩ := List.getElem?_of_mem z
        have hi2 := hi
        rw [← List.getElem?_append_left (l₂ := t) (List.getElem?_eq_some_iff.mp hi).1] at hi
        have := nd_ix s2.nd hi hb
        have h4 := (List.getElem?_eq_some_iff.mp hi2).1
        rw [hs.len] at h4
        omega
      · exact q v H2 ad (.tx ds) M n.back sb r p
  let env := PyProof.Rows.envOfC ql (defScope st) s.heap.objs.size fa (.ref cd)
  let y : Dyn (scOfL P w K mg base N st cd (ql ++ ".<locals>.") k) := ⟨A'.deeper env, s, H, env, outer, env :: outer, [], [], fun _ _ => False, rfl, hr, PassesOwn.never, ⟨rfl, rfl⟩⟩
  exact ⟨wSs y.cx (defBody st), PSs.nox wSs_ok, h as M Post (by rw [← repAs_length hr2]; exact hl) hA y _ H ad (envOk_start hr2) hs _
    ⟨fun _ H2 ad2 _ M2 n _ s2 p => fin _ H2 ad2 (.dat .non) M2 n s2 rfl p, fun v H2 ad2 a M2 n s2 r p => fin v H2 ad2 a M2 n s2 r p, fun _ _ _ _ _ _ _ _ z => z.elim, fun _ _ _ _ _ _ _ _ z => z.elim⟩⟩
end
end Fx

/-! Fx, part V: exceptions: raised, heard, held. -/
namespace L2
open PySem PySem.Spec PyProof.Rows
/-- the object of a held exception -/
abbrev heldO (a : Addr) (oe : Obj) : HO := .ext fun h => h.get? a = some oe
section
variable {X : Cx}
theorem inst_held9 {H : Hp} {pins : List (Addr × Obj)} {σ : St} {s : Shared} {a D : Addr} {oe : Obj} (I : Inv X pins σ H s) (ha : H a = some (heldO a oe)) (hc : oe.cls = .ref D) (hd : ∃ vs, oe.data = .fields vs)
    (hx : oe.dict = none ∨ ∃ dx fs, oe.dict = some dx ∧ H dx = some (.xd fs)) : ∃ od, PySem.W.InstAt s.heap a oe D od := by
  obtain ⟨vs, hv⟩ := hd
  have hget : s.heap.get? a = some oe := (I.hok a _ ha).1
  have hno : PySem.W.notCls oe = true := by unfold PySem.W.notCls; rw [hv] <;> rfl
  rcases hx with hx | ⟨dx, fs, hx, hH⟩
  · exact ⟨none, hget, hc, hno, by rw [hx]; trivial⟩
  · obtain ⟨mA, ⟨o, es, ep, e, r⟩, _⟩ := (show ObjOk X.prog X.w H s.heap dx (.xd fs) from I.hok dx _ hH)
    exact ⟨some o, hget, hc, hno, by rw [hx]; exact e⟩
def rIsX9 (K : PySem.W.Frag) : List V → Hp → VK → Prop := fun xs H Q => ∃ (a D : Addr) (oe : Obj) (c : V) (cv : Value) (b : Bool), xs = [.ref a, c] ∧ H a = some (heldO a oe) ∧ oe.cls = .ref D ∧ (∃ vs, oe.data = .fields vs) ∧ (oe.dict = none ∨ ∃ dx fs, oe.dict = some dx ∧ H dx = some (.xd fs)) ∧
  ExcC K D ∧ (∀ u, RelV c u → u = cv) ∧ PySem.W.kitOne K (.ref D) cv = some b ∧ Q (.bl b) H
theorem call_isX9 : CallR X (.builtin "isinstance") (rIsX9 X.K) := by
  intro pins s σ H xs us Q I r h
  obtain ⟨a, D, oe, c, cv, b, rfl, ha, hc, hd, hx, C, hcv, e, q⟩ := h
  cases r with
  | cons rx rr =>
    cases rr with
    | cons rt rr =>
      cases rr
      cases rx
      have ec := hcv _ rt
      subst ec
      obtain ⟨od, J⟩ := inst_held9 I ha hc hd hx
      have hcl : (PySem.W.clsIn X.K D).isSome = true := by
        obtain ⟨cd, h, _⟩ := PySem.W.any_some C.hd
        rw [h]
        rfl
      exact PySem.W.kia_one (PySem.W.kitx_exc hcl C.hg C.hk C.hs C.ha C.hn C.ht C.hm) I.kIn J e (fun z => nomatch z) fun tk => ⟨.bl b, H, I.kept (t' := tk) fun _ _ z => z, rfl, q⟩
/-- e.n of a held exception -/
def tXf9 (K : PySem.W.Frag) (n : Str) (te : TE) : TE := fun σ H Q => te σ H fun x H1 => ∃ (a C dd : Addr) (oe : Obj) (fs : List (Str × V)) (v : V), x = .ref a ∧ H1 a = some (heldO a oe) ∧ oe.cls = .ref C ∧ (∃ vs, oe.data = .fields vs) ∧ oe.dict = some dd ∧ H1 dd = some (.xd fs) ∧
  XfC K C ∧ PySem.W.findIn K (.ref C) n = some none ∧ fs.lookup n = some v ∧ Q v H1
theorem pe_xf9 {e : Expr} {te : TE} {pos : Pos} {n : Str} (he : PE X e te) (hb : attributeBase e n X.env (eval e X.env) = eval e X.env) : PE X (.Attribute e n pos) (tXf9 X.K n te) := by
  refine ⟨fun pins s σ H Q I h => ?_⟩
  refine attr_of hb (thn (he.run pins s σ H _ I h) fun u s1 hh => ?_)
  obtain ⟨x, H1, I1, rx, a, C, dd, oe, fs, v, ex, hH, hc, ⟨vs, hv⟩, hdd, ea, T, hno, l, q⟩ := hh
  subst ex
  obtain rfl : u = Value.ref a := rx
  have ha : s1.heap.get? a = some oe := (I1.hok a _ hH).1
  have hx : ObjOk X.prog X.w H1 s1.heap dd (.xd fs) := I1.hok dd _ ea
  obtain ⟨mA, hns, hr⟩ := hx
  obtain ⟨od, ho, hl⟩ := lookIn_ns hns
  obtain ⟨u, hu, ru⟩ := RelO.some_of (v := v) (o := mA n) (by rw [← l]; exact hr n)
  have J : PySem.W.InstAt s1.heap a oe C (some od) := ⟨ha, hc, by unfold PySem.W.notCls; rw [hv] <;> rfl, by rw [hdd]; exact ho⟩
  exact HandSPX.exc_get I1.kIn J T.ga T.gg T.exC (PySem.W.findObj_own T.hdC hno rfl (by rw [hl, hu])) (handed_of ru) ⟨v, H1, I1.tok _, ru, q⟩
/-- from now on it is tracked -/
theorem Inv.track9 {H : Hp} {pins : List (Addr × Obj)} {σ : St} {s : Shared} {a : Addr} {oe : Obj} (I : Inv X ((a, oe) :: pins) σ H s) (h0 : X.s_0.heap.get? a = none) (hp : ∀ p ∈ X.pn ++ pins, p.1 ≠ a) : Inv X pins σ (upd H a (heldO a oe)) s := by
  obtain ⟨ha, hn, hL, hF, hcell⟩ := I.pin (a, oe) (List.mem_append_right _ List.mem_cons_self)
  have ne : ∀ {b : Addr} {o : HO}, H b = some o → b ≠ a := fun {b o} e z => by rw [z, hn] at e; cases e
  have ne0 : ∀ {b : Addr} {o : Obj}, X.s_0.heap.get? b = some o → b ≠ a := fun {b o} e z => by rw [z, h0] at e; cases e
  have hc : ∀ x c, X.env.cells.lookup x = some c → c ≠ a := fun x c e z => by
    obtain ⟨v, o, ho, hd⟩ := I.cell x c e
    rw [z, ha] at ho
    cases ho
    exact hcell _ hd
  refine ⟨I.ok, I.os, I.bare, ⟨I.base.keep, I.base.slot, fun b o e n hx => ?_, I.base.there, fun b xs e => ?_, fun b o u e => ?_, fun b ps e => ?_⟩, I.loc, I.cell, ?_, fun x c e => ?_, fun p hp' => ?_, fun b o e => ?_, I.len⟩
  · rw [upd_ne (ne0 e)]
    exact I.base.free b o e n hx
  · have z := I.base.tups b xs e
    rw [upd_ne (ne z)]
    exact z
  · have z := I.base.frzs b o u e
    rw [upd_ne (ne z)]
    exact z
  · obtain ⟨more, z⟩ := I.base.tbls b ps e
    exact ⟨more, by rw [upd_ne (ne z)]; exact z⟩
  · rw [upd_ne (fun z => hL z.symm)]
    exact I.free
  · rw [upd_ne (hc x c e)]
    exact I.freeC x c e
  · obtain ⟨e1, e2, e3⟩ := I.pin p (by
      rcases List.mem_append.mp hp' with z | z
      · exact List.mem_append_left _ z
      · exact List.mem_append_right _ (List.mem_cons_of_mem _ z))
    exact ⟨e1, by rw [upd_ne (hp p hp')]; exact e2, e3⟩
  · by_cases hb : b = a
    · subst hb
      rw [upd_same] at e
      cases e
      exact ⟨ha, ⟨oe, ha⟩, fun h1 h2 k1 k2 => k2 _ k1⟩
    · rw [upd_ne hb] at e
      refine (I.hok b o e).stay (fun b' u _ z => z) (fun b' z => ?_) (fun b' xs z => ?_)
      · rw [upd_ne (ne z)]
        exact z
      · rw [upd_ne (ne z)]
        exact z
end
/-- what the clause 'except x as n: ..' wishes, where n's exception stays held behind it -/
def wAsK9 (K : PySem.W.Frag) (c : Value) (i : Nat) (ts : Addr → Value → Option Addr → TS) (Wout : WX) (D : Ends) : WX := fun cls d σ H =>
  ∃ b, PySem.W.exmOne K cls c = some b ∧ (b = true → ∀ a oe, H a = none → Zc cls d oe → (∃ vs, oe.data = .fields vs) →
    ts a cls d { nx := fun σ' H' => H' a = none → D.nx (σ'.set i none) (upd H' a (heldO a oe)), rt := fun _ _ => False, bk := fun _ _ => False, ct := fun _ _ => False } (σ.set i (some (.ref a))) H) ∧
    (b = false → Wout cls d σ H)
section
variable {X : Cx} {x n : Str} {c : Value} {i : Nat} {body suite : List Stmt} {b₀ : Stmt} {np pos pos' : Pos} {tb : WX → TS} {ts : Addr → Value → Option Addr → TS} {Wout : WX}
theorem ps_tryK9 (hs : X.stack = X.env :: X.outer) (hf : X.env.frame = some X.env.locals) (hex : X.ex = []) (hN : X.N.Nodup) (hi : X.N[i]? = some n) (hln : X.env.kindOf n = some .local) (hc : Names X x c) (tk : Takes X Wout)
    (hb : ∀ (W : WX) (pn : List (Addr × Obj)) (xe : Value → Shared → Prop), Takes (X.tr pn xe) W → PassesOwn (model X.prog X.w) X.A X.env xe → PSs (X.tr pn xe) body (tb W))
    (hsu : ∀ (a : Addr) (oe : Obj) (cls : Value) (d : Option Addr) (pn : List (Addr × Obj)), Zc cls d oe → (∃ vs, oe.data = .fields vs) → PSs (X.suite a ((a, oe) :: pn)) (b₀ :: suite) (ts a cls d)) :
    PS X (.Try body [.ExceptHandler (some (.Name x np)) (some n) (b₀ :: suite) pos'] [] [] pos) (fun D σ H => tb (wAsK9 X.K c i ts Wout D) D σ H) := by
  refine ⟨fun pins s σ H D I h => ?_⟩
  have ok := I.ok
  have hfr : X.A.frames = some (X.env :: X.outer) := by rw [ok.frames, hs]
  have hloc : Loc X.env.scope n := .inl hln
  refine wpAny_Try_except ?_
  refine wpAny_mono ((hb (wAsK9 X.K c i ts Wout D) (X.pn ++ pins) (fun e s₁ => wpAny (model X.prog X.w) X.A (noteFrame e X.env) (fun _ s₂ => wpAny (model X.prog X.w) X.A (setFlight e none) (fun _ s₃ =>
    wpAny (model X.prog X.w) X.A (handleBy e X.env [.ExceptHandler (some (.Name x np)) (some n) (b₀ :: suite) pos']) (SP X pins D) X.xe s₃) X.xe s₂) X.xe s₁) (fun u s' xx => ?_) PassesOwn.looking).run [] s σ H D (I.toTry _) h) (fun f s1 hsp => ?_) (fun e s1 he => he)
  · -- the catch
    obtain ⟨a, B, sI, pins', σ', H', cls, d, rfl, J', nb, up, sky, na, os, ag, b, hb1, hyes, hno⟩ := xx
    have J : Inv X pins σ' H' sI := J'.ofTry ok
    have sky' : Sky B (X.env :: X.outer) a (Zc cls d) X.env.locals s'.heap := by rw [← hs]; exact sky
    show wpAny (model X.prog X.w) X.A (noteFrame (.ref a) X.env) _ _ _
    refine Sky.land Zc.steady hfr hf sky' fun h3 fl3 up3 => ?_
    have J3 : Inv X pins σ' H' { s' with heap := h3 } := J.landed nb fl3.1 (up.trans up3) os ag
    obtain ⟨oe3, vs3, he3, hz3, hd3⟩ := fl3.there
    have notFr : ∀ {h : Heap} {o : Obj} {vs : Array Value}, h.FunFrames B (X.env :: X.outer) → h.get? a = some o → o.data = .fields vs → a ∉ frs (X.env :: X.outer) := fun {h o vs} ff e dd hm => by
      obtain ⟨_, o', e', hnf⟩ := ff.mem hm
      rw [e] at e'; cases e'
      exact hnf _ dd
    have nfr := notFr fl3.2.2.1 he3 hd3
    have nL : a ≠ X.env.locals := fun z => nfr (List.mem_filterMap.mpr ⟨X.env, List.mem_cons_self, by rw [hf, z]⟩)
    have nF : a ∉ X.fs := fun hm => by
      obtain ⟨e, he, q⟩ := List.mem_filterMap.mp hm
      exact nfr (List.mem_filterMap.mpr ⟨e, List.mem_cons_of_mem _ he, q⟩)
    have nI : sI.heap.get? a = none := by
      cases e : sI.heap.get? a with
      | none => rfl
      | some o =>
        have z := nb a o e (by rw [hs]; exact nfr)
        rw [fl3.2.1] at z
        cases z
    have n0 : X.s_0.heap.get? a = none := by
      cases e : X.s_0.heap.get? a with
      | none => rfl
      | some o =>
        obtain ⟨o', z⟩ := J.base.there a o e (by rw [hex]; simp)
        rw [nI] at z
        cases z
    have nP : ∀ p ∈ X.pn ++ pins, p.1 ≠ a := fun p hp z => by
      have e := (J.pin p hp).1
      rw [z, nI] at e
      cases e
    have S3 := J3.suite he3 hd3 na nL nF
    refine wpAny_handleBy_cons (codeAny_handlers_test ?_) (by intro q; cases q)
    have LT : PySem.W.Looks (model X.prog X.w) h3 (typeOf (.ref a)) cls := fun A Q E s k q => wpAny_typeOf_ref (k _ _ he3) (by rw [hz3.1]; exact q)
    have LM := PySem.W.exm_one (M := model X.prog X.w) (J3.kIn) LT hb1
    have test : ∀ {Q : Value → Shared → Prop} {E : Value → Shared → Prop}, Q c { s' with heap := h3 } → wpAny (model X.prog X.w) (X.A.mark (some (.ref a))) (eval (.Name x np) X.env) Q E { s' with heap := h3 } := fun {Q E} q => by
      obtain ⟨hg, hdbg, hm | ⟨hm, hv, hnn⟩⟩ := hc
      · exact ld_glob (X := X.suite a ((a, oe3) :: (X.pn ++ pins))) S3 hg hm q hdbg
      · exact ld_blt (X := X.suite a ((a, oe3) :: (X.pn ++ pins))) S3 hg hm hv q hnn hdbg
    refine test (LM.here ?_)
    cases b with
    | true =>
      refine codeAny_handlers_suite_as ?_
      refine HandSPX.lands_againZ fl3 fun h4 fl4 up4 => ?_
      have J4 : Inv X pins σ' H' { s' with heap := h4 } := J.landed nb fl4.1 ((up.trans up3).trans up4) os ag
      obtain ⟨oe4, vs4, he4, hz4, hd4⟩ := fl4.there
      have S4 := J4.suite he4 hd4 na nL nF
      refine store_ok (X := X.suite a ((a, oe4) :: (X.pn ++ pins))) (v := .ref a) S4 hN hi hloc rfl (fun s5 S5 => ?_) (.inr hln)
      refine wpAny_mono ((hsu a oe4 cls d (X.pn ++ pins) hz4 ⟨_, hd4⟩).run [] s5 _ H' _ S5 (hyes rfl a oe4 na hz4 ⟨_, hd4⟩)) (fun f s6 hsp => ?_) (fun _ _ z => False.elim z)
      cases f with
      | next =>
        obtain ⟨σ6, H6, S6, q6⟩ := hsp
        have pa := S6.pin (a, oe4) (List.mem_append_left _ List.mem_cons_self)
        have I6 : Inv X ((a, oe4) :: pins) σ6 H6 s6 := (S6.unsuite ok).pins_of fun p hp => by
          rcases List.mem_cons.mp hp with rfl | hp
          · exact pa
          · exact (S6.unsuite ok).pin p (List.mem_append_right _ hp)
        exact gone_ok I6 hN hi hln fun s7 J7 => ⟨_, _, J7.track9 n0 nP, q6 pa.2.1⟩
      | brk =>
        obtain ⟨σ6, H6, S6, q6⟩ := hsp
        exact False.elim q6
      | cont =>
        obtain ⟨σ6, H6, S6, q6⟩ := hsp
        exact False.elim q6
      | ret u =>
        obtain ⟨v6, σ6, H6, S6, r6, q6⟩ := hsp
        exact False.elim q6
    | false =>
      show wpAny _ X.A (handleBy (.ref a) X.env []) _ _ _
      refine wpAny_handleBy_nil ?_
      obtain ⟨k1, k2, k3, oe, vs, T, oT, ts', he, hz, hd, h1, hr⟩ := id fl3
      unfold PySem.passOn
      refine wpAny_bind (wpAny_field he hd h1 ?_)
      rw [if_neg (show ¬ ((Value.ref T == Value.none) = true) from by simp)]
      have fin : wpAny (model X.prog X.w) X.A (setFlight (.ref a) X.env.frame) (fun _ s4 => wpAny (model X.prog X.w) X.A (throw (.ref a) : Sem Flow) (SP X pins D) X.xe s4) X.xe { s' with heap := h3 } := by
        rw [hf]
        refine HandSPX.setFlight_upZ fl3 fun h4 hh4 up4 => wpAny_throw (tk _ _ ?_)
        exact ⟨a, B, sI, pins, σ', H', cls, d, rfl, J, nb, (up.trans up3).trans up4, .inr (.inr (by rw [hs]; exact hh4)), na, os, ag, hno rfl⟩
      first
        | exact wpAny_bind (wpAny_pure (wpAny_bind fin))
        | exact wpAny_bind fin
  · cases f with
    | next =>
      obtain ⟨σ', H', J', q⟩ := hsp
      exact wpAny_execs_nil ⟨σ', H', J'.ofTry ok, q⟩
    | brk =>
      obtain ⟨σ', H', J', q⟩ := hsp
      exact ⟨σ', H', J'.ofTry ok, q⟩
    | cont =>
      obtain ⟨σ', H', J', q⟩ := hsp
      exact ⟨σ', H', J'.ofTry ok, q⟩
    | ret u =>
      obtain ⟨v, σ', H', J', r, q⟩ := hsp
      exact ⟨v, σ', H', J'.ofTry ok, r, q⟩
end
end L2
namespace L2
open PySem PySem.Spec PyProof.Rows LamX
section
variable {X : Cx} {pins : List (Addr × Obj)} {σ : L2.St} {H : Hp} {s : Shared}
/-- x(), in the def that got the lambda; what it lets out is W's at the slots that stand then -/
theorem pe_act9 {CXg : CXT} {Eg : XK} {Ng : List Str} {qg : Str} {sg : Scope} {g f c' : Addr} {cdg pm ctv : Value} {params : Arguments} {body : Expr} {scope : Scope} {k i : Nat} {a : Str} {pn : List (Addr × Obj)} {xe : Value → Shared → Prop} {W : WX} {tb : XK → TE} {p1 p2 : Pos}
    (I : Inv X pins σ H s) (L : LamS X.env.scope scope) (hf : s.heap.get? f = some (PySem.W.kla_obj "<lambda>" (X.env.qual ++ "<lambda>") params body scope (cloFrom X.env.cells scope.names []) pm c' ctv)) (hfn : H f = none) (hfr : f ∉ frs X.stack)
    (hbind : bindArgs (PySem.W.kla_fn "<lambda>" (X.env.qual ++ "<lambda>") params body scope (cloFrom X.env.cells scope.names []) pm (.ref c') ctv) ⟨[], []⟩ = pure [])
    (tk : Takes ((cxOf CXg X.prog X.w X.K X.mg X.base Ng qg sg g cdg X.A X.stack s H Eg).tr pn xe) W) (hr : Room (k + 1) (X.A.deeper (envOfC qg sg s.heap.objs.size g cdg)))
    (hbody : ∀ (A : Around) (outer : List Env) (s : Shared) (H : Hp) (E : XK), Room k (A.deeper (lamEnv X scope s.heap.objs.size f c')) → PE (lamCx X A outer s H E scope f c') body (tb E))
    (hN : Ng[i]? = some a) (hv : Vis sg a) (hd : (a == ("__debug__" : Str)) = false := by decide) (hcd : (a == ("__classdict__" : Str)) = false := by decide) :
    PE ((cxOf CXg X.prog X.w X.K X.mg X.base Ng qg sg g cdg X.A X.stack s H Eg).tr pn xe) (.Call (.Name a p1) [] [] p2)
      (fun σZ HZ Q => σZ[i]? = some (some (.ref f)) ∧ HZ c' = some (CodeO c' (X.env.qual ++ "<lambda>")) ∧ tb (fun cls d H' => W cls d σZ H') σ HZ Q) := by
  refine ⟨fun pinsZ sZ σZ HZ Q IZ h => ?_⟩
  obtain ⟨hs, hc, ht⟩ := h
  refine wpAny_Call_Name_kw (thn ((pe_var (pos := p1) (i := i) hN hv hd hcd).run pinsZ sZ σZ HZ (fun v H1 => v = .ref f ∧ H1 = HZ) IZ ⟨.ref f, hs, rfl, rfl⟩) fun u s1 ⟨v, H1, I1, r1, q1⟩ => ?_)
  obtain ⟨ev, eH⟩ := q1
  subst ev
  rw [eH] at I1
  obtain rfl : u = Value.ref f := r1
  have of1 : s1.heap.get? f = some (PySem.W.kla_obj "<lambda>" (X.env.qual ++ "<lambda>") params body scope (cloFrom X.env.cells scope.names []) pm c' ctv) := I1.base.keep f _ hf hfn hfr (fun z => nomatch (show f ∈ ([] : List Addr) from z))
  refine PySem.W.callWith_F0 ⟨_, _, _, _, of1⟩ ?_
  have un : Un (frs X.stack) [] H HZ s.heap s1.heap := I1.base
  obtain ⟨⟨oc, vs, t, hoc, hdc, hvc⟩, _, _⟩ := I1.hok c' _ hc
  have rc : codeAny (model X.prog X.w) (X.A.deeper (envOfC qg sg s.heap.objs.size g cdg)) (.call (.ref f) ⟨[], []⟩) (CR (L2.CX X.prog X.w) (envOfC qg sg s.heap.objs.size g cdg :: X.stack) X.prog X.w HZ s1 Q (fun cls d H' => W cls d σZ H')) s1 := by
    refine PySem.W.kla_callFunE hr.depth of1 rfl L.co L.gen rfl ⟨c', oc, vs, t, rfl, hoc, hdc, hvc⟩ ?_
    rw [hbind]
    refine wpAny_pure (wpAny_newFunctionEnv (fun y hy => (L.own y hy).2) (fun y hy => absurd hy (by simp)) (fun h₁ hns hsb => ⟨I1.nolimit.fresh _ hsb, ?_⟩) L.kind)
    show codeAny _ _ (.expr body (lamEnv X scope s1.heap.objs.size f c')) _ _
    have kp : ∀ b o, s1.heap.get? b = some o → h₁.get? b = some o := fun b o e => hsb.extBut b o (Nat.ne_of_lt (Heap.lt_size e)) (Heap.get?_push_of_some _ e)
    have J : Inv (lamCx X (X.A.deeper (envOfC qg sg s.heap.objs.size g cdg)) (envOfC qg sg s.heap.objs.size g cdg :: X.stack) s1 HZ (fun cls d H' => W cls d σZ H') scope f c') [] σ HZ { s1 with heap := h₁, toks := s1.toks + ([] : List (Str × Value)).length } :=
      lam_start2 I L I1.env0 hr.hd un hns kp
    refine PySem.W.kla_codeExpr (wpAny_mono ((hbody _ _ s1 HZ _ (hr.deeper _)).run [] _ _ HZ Q J ht) (fun v s' hq => ?_) fun e s' hq => hq)
    obtain ⟨w', H', J', rv, q⟩ := hq
    exact ⟨w', H', J'.os, J'.bare, J'.base, J'.hok, rv, q⟩
  refine wpAny_call (codeAny_mono rc fun r s' hq => ?_)
  cases r with
  | error e => exact tk e s' (XE.of_call I1 (fun _ _ _ h => h) hq)
  | ok fl =>
    cases fl with
    | ret u => exact I1.after hq
    | next => exact False.elim hq
    | brk => exact False.elim hq
    | cont => exact False.elim hq
end
end L2
namespace Fx
open PySem L2 LamX
/-- what is wanted of an exception: its class, its fields, the store -/
abbrev XP := Addr → List (Str × D) → List MO → Prop
def XOut (K : PySem.W.Frag) (ad : List Addr) (H : Hp) (X : XP) (W : XK) : Prop := ∀ C d fs H2 ad2 M2, Nx ad H ad2 H2 → StOk K ad2 H2 M2 → XdAt K ad2 H2 d fs → X C fs M2 → W (.ref C) d H2
theorem XOut.on {K : PySem.W.Frag} {ad ad1 : List Addr} {H H1 : Hp} {X : XP} {W : XK} (n : Nx ad H ad1 H1) (x : XOut K ad H X W) : XOut K ad1 H1 X W := fun C d fs H2 ad2 M2 m => x C d fs H2 ad2 M2 (n.trans m)
/-- an expression that may raise -/
def EvRx (c : SC) (δ : Dl) (M : List MO) (e : Expr) (Post : AQ) (X : XP) : Prop :=
  ∀ (y : Dyn c) (W : XK), Takes y.cx (fun cls d _ H => W cls d H) → ∀ (σ : L2.St) (H : Hp) (ad : List Addr), EnvOk c.K ad H σ δ → StOk c.K ad H M → ∀ Q : VK,
    (∀ v H2 ad2 a M2, Nx ad H ad2 H2 → StOk c.K ad2 H2 M2 → RepA c.K ad2 H2 a v → Post a M2 → Q v H2) → XOut c.K ad H X W → wE y.cx e σ H Q
/-- statements that may raise -/
def RunX (c : SC) (δ : Dl) (M : List MO) (sts : List Stmt) (D : AE) (X : XP) : Prop :=
  ∀ (y : Dyn c) (W : XK), Takes y.cx (fun cls d _ H => W cls d H) → ∀ (σ : L2.St) (H : Hp) (ad : List Addr), EnvOk c.K ad H σ δ → StOk c.K ad H M → ∀ E : Ends, EndsOk c.K ad H D E → XOut c.K ad H X W → wSs y.cx sts E σ H
abbrev ASpX := List AV → List MO → AQ → XP → Prop
def spOfX (K : PySem.W.Frag) (n : Nat) (A : ASpX) : Sp := fun vs H Q E => vs.length = n ∧ ∃ ad as M Post X, StOk K ad H M ∧ RepAs K ad H as vs ∧ A as M Post X ∧
  (∀ v H2 ad2 a M2, Nx ad H ad2 H2 → StOk K ad2 H2 M2 → RepA K ad2 H2 a v → Post a M2 → Q v H2) ∧ XOut K ad H X E
structure DefOkX (P : Program) (w : World) (K : PySem.W.Frag) (mg : Str → Option Value) (base : Heap) (k : Nat) (x : Str) (st : Stmt) (ps : List Str) (sp : Sp) : Prop where
  ex : ∃ fa fd, mg x = some (.ref fa) ∧ Fun K x x st fa fd ∧ Binds K fd ps [] ∧ FnOk P w K mg base (L2.CX P w) k fa fd ps sp
section
variable {P : Program} {w : World} {K : PySem.W.Frag} {mg : Str → Option Value} {base : Heap} {k : Nat} {x : Str} {st : Stmt} {ps N : List Str}
theorem fn_mkX {fa : Addr} {fd : FuncData} {ql : Str} {A : ASpX} (F : Fun K x ql st fa fd) (S : FnScope N ps (defScope st))
    (h : ∀ as M Post X, as.length = ps.length → A as M Post X → RunX (scOf P w K mg base N st k) (as.map some ++ List.replicate (N.length - as.length) none) M (defBody st) { nx := fun _ M2 => Fin M Post (.dat .non) M2, rt := Fin M Post } X) :
    FnOk P w K mg base (L2.CX P w) (k + 1) fa fd ps (spOfX K ps.length A) := by
  refine F.okX S (fun vs H Q E h => h.1) (fun cdv A' outer s H vs Q E hr hsp => ?_)
  obtain ⟨hl, ad, as, M, Post, X, hs, hr2, hA, q, qx⟩ := hsp
  have fin : ∀ v H2 ad2 a M2, Nx ad H ad2 H2 → StOk K ad2 H2 M2 → RepA K ad2 H2 a v → Fin M Post a M2 → Q v H2 := by
    intro v H2 ad2 a M2 n s2 r p
    rcases p with p | ⟨rest, rfl, p⟩
    · exact q v H2 ad2 a M2 n s2 r p
    · obtain ⟨t, rfl⟩ := n.pre
      have sb := hs.back s2
      rcases p with ⟨d, rfl, p⟩ | ⟨ds, rfl, p⟩ | ⟨j, ds, rfl, hj, hm, p⟩ | ⟨ds, rfl, p⟩
      · exact q v H2 ad (.dat d) M n.back sb r p
      · obtain ⟨b, xs, e, ⟨h1, h2⟩, h3⟩ := r
        exact q v H2 ad (.ls ds) M n.back sb ⟨b, xs, e, ⟨h1, fun z => h2 (List.mem_append_left _ z)⟩, h3⟩ p
      · obtain ⟨b, hb, e⟩ := r
        obtain ⟨b2, hb2, xs, h1, h3⟩ := s2.obj j _ hm
        rw [hb] at hb2
        cases hb2
        refine q v H2 ad (.ls ds) M n.back sb ⟨b, xs, e, ⟨h1, fun z => ?_⟩, h3⟩ p
        obtain ⟨i, hi⟩ := List.getElem?_of_mem z
        have hi2 := hi
        rw [← List.getElem?_append_left (l₂ := t) (List.getElem?_eq_some_iff.mp hi).1] at hi
        have := nd_ix s2.nd hi hb
        have h4 := (List.getElem?_eq_some_iff.mp hi2).1
        rw [hs.len] at h4
        omega
      · exact q v H2 ad (.tx ds) M n.back sb r p
  let env := PyProof.Rows.envOfC ql (defScope st) s.heap.objs.size fa cdv
  let y : Dyn (scOf P w K mg base N st k) := ⟨A'.deeper env, s, H, env, outer, env :: outer, [], [], (cxOf (L2.CX P w) P w K mg base N ql (defScope st) fa cdv A' outer s H E).xe, rfl, hr,
    passes_of (X := cxOf (L2.CX P w) P w K mg base N ql (defScope st) fa cdv A' outer s H E) rfl, trivial⟩
  have tk : Takes y.cx (fun cls d _ H => E cls d H) := takes_of (X := y.cx) rfl rfl rfl rfl
  exact ⟨wSs y.cx (defBody st), wSs_ok, h as M Post X (by rw [← repAs_length hr2]; exact hl) hA y E tk _ H ad (envOk_start hr2) hs _
    ⟨fun _ H2 ad2 _ M2 n _ s2 p => fin _ H2 ad2 (.dat .non) M2 n s2 rfl p, fun v H2 ad2 a M2 n s2 r p => fin v H2 ad2 a M2 n s2 r p, fun _ _ _ _ _ _ _ _ z => z.elim, fun _ _ _ _ _ _ _ _ z => z.elim⟩ qx⟩
end
section
variable {c : SC} {δ : Dl} {M : List MO} {Post : AQ} {X : XP} {D : AE} {a b e t : Expr} {es : List Expr} {pos p p1 p2 pos' : Pos} {x : Str} {k : Nat} {st : Stmt} {sts : List Stmt} {ps : List Str}
theorem rx_run (h : Run c δ M sts D) : RunX c δ M sts D X := fun y W _ σ H ad he hs E q _ => h y σ H ad he hs E q
theorem rx_cons (h : Run1 c δ M st { D with nx := fun δ1 M1 => RunX c δ1 M1 sts D X }) : RunX c δ M (st :: sts) D X := fun y W tk σ H ad he hs E q qx =>
  ⟨_, pss_cons wS_ok wSs_ok, h y σ H ad he hs _ ⟨fun σ2 H2 ad2 δ2 M2 n e s p => p y W tk σ2 H2 ad2 e s E (q.on n) (qx.on n), q.rt, q.bk, q.ct⟩⟩
theorem rx_if {b1 b2 : List Stmt} (h : EvT c δ M t fun k M1 => (k = true → RunX c δ M1 b1 { D with nx := fun δ1 M1 => RunX c δ1 M1 sts D X } X) ∧ (k = false → RunX c δ M1 b2 { D with nx := fun δ1 M1 => RunX c δ1 M1 sts D X } X)) : RunX c δ M (.If t b1 b2 pos :: sts) D X := fun y W tk σ H ad he hs E q qx => by
  refine ⟨_, pss_cons (ps_if wT_ok wSs_ok wSs_ok) wSs_ok, h y σ H ad he hs _ fun k H1 ad1 M1 n1 s1 p1 => ?_⟩
  have ends : EndsOk c.K ad1 H1 { D with nx := fun δ1 M1 => RunX c δ1 M1 sts D X } { E with nx := wSs y.cx sts E } :=
    ⟨fun σ2 H2 ad2 δ2 M2 n e s p => p y W tk σ2 H2 ad2 e s E (q.on (n1.trans n)) (qx.on (n1.trans n)), (q.on n1).rt, (q.on n1).bk, (q.on n1).ct⟩
  cases k with
  | true => exact iteT (p1.1 rfl y W tk σ H1 ad1 (he.nx n1) s1 _ ends (qx.on n1))
  | false => exact iteF (p1.2 rfl y W tk σ H1 ad1 (he.nx n1) s1 _ ends (qx.on n1))
/-- a class of the text, over ValueError, without own __init__ -/
class TxtExc (K : PySem.W.Frag) (mg : Str → Option Value) (x : Str) (C : outParam Addr) : Prop where
  gC : mg x = some (.ref C)
  q : PySem.W.excIn K C [.type "ValueError", .type "Exception", .type "BaseException", .type "object"] "ValueError.__new__" = true
  kC : PySem.W.keepIn K (.ref C) = true
  s1 : PySem.W.subIn K (.ref C) (.type "BaseException") = some true
  t1 : PySem.W.typeIn K (.ref C) = some (.type "type")
/-- raise X('text') -/
theorem rx_raiseT {C : Addr} {m : Str} {j : Nat} (T : TxtExc c.K c.mg x C) (hg : c.gl x) (h : X C [] M) (hdb : (x == ("__debug__" : Str)) = false := by decide) : RunX c δ M [.Raise (some (.Call (.Name x p) [.Constant (.str m) j p2] [] pos)) none pos'] D X := fun y W tk σ H ad he hs E q qx =>
  ⟨_, pss_one (ps_raise rfl tk (pmk_own (X := y.cx) PySem.F.excBase_ValueError T.q T.gC T.kC (raises_own T.s1 T.t1) (glS y hg) hdb)), qx C none [] H ad M Nx.refl hs rfl h⟩
/-- a def that may raise, called -/
theorem e_callX {A : ASpX} (F : DefOkX c.P c.w c.K c.mg c.base k x st ps (spOfX c.K ps.length A)) (hk : k ≤ c.k) (hg : c.gl x) (h : EvA c δ M (e :: es) fun as M1 => as.length = ps.length ∧ A as M1 Post X)
    (hst : ∀ env, starEach (e :: es) env = (false, eval e env) :: starEach es env) (hpl : ∀ env, (backTo pos (starEach es env)).any (·.1) = false) (hdb : (x == ("__debug__" : Str)) = false := by decide) : EvRx c δ M (.Call (.Name x p) (e :: es) [] pos) Post X := fun y W tk σ H ad he hs Q q qx => by
  obtain ⟨fa, fd, hm, F1, hb, ok⟩ := F.ex
  refine ⟨_, pe_call (X := y.cx) (E := W) ok (y.room.mono hk) (glS y hg) hm F1.kp hb .nil (passes_call tk fun _ _ _ _ h => h) wA_ok hdb (hst y.env) (hpl y.env), h y σ H ad he hs _ fun vs H1 ad1 as M1 n1 s1 r1 ⟨hl, hA⟩ => ?_⟩
  rw [List.append_nil]
  exact ⟨by rw [repAs_length r1]; exact hl, ad1, as, M1, Post, X, s1, r1, hA, fun v H2 ad2 a2 M2 n2 s2 r2 p2 => q v H2 ad2 a2 M2 (n1.trans n2) s2 r2 p2, qx.on n1⟩
/-- .. where it does not raise -/
theorem x_callX {A : ASpX} (F : DefOkX c.P c.w c.K c.mg c.base k x st ps (spOfX c.K ps.length A)) (hk : k ≤ c.k) (hg : c.gl x) (h : EvA c δ M (e :: es) fun as M1 => as.length = ps.length ∧ A as M1 Post fun _ _ _ => False)
    (hst : ∀ env, starEach (e :: es) env = (false, eval e env) :: starEach es env) (hpl : ∀ env, (backTo pos (starEach es env)).any (·.1) = false) (hdb : (x == ("__debug__" : Str)) = false := by decide) : EvX c δ M (.Call (.Name x p) (e :: es) [] pos) Post := fun y σ H ad he hs Q q =>
  e_callX F hk hg h hst hpl hdb y (fun _ _ _ => False) L2.takes0 σ H ad he hs Q q fun _ _ _ _ _ _ _ _ _ z => z
/-- isinstance(e, C), e a held exception -/
theorem x_isiX {CX : Addr} (hg : c.gl "isinstance") (hm : c.mg "isinstance" = none) (hg2 : c.gl x) (hm2 : c.mg x = some (.ref CX)) (h : EvX c δ M e fun a M1 => ∃ D fs k, a = .exc D fs ∧ ExcC c.K D ∧ PySem.W.kitOne c.K (.ref D) (.ref CX) = some k ∧ Post (.dat (.bl k)) M1)
    (hst : ∀ env, starEach [e, .Name x p1] env = (false, eval e env) :: starEach [.Name x p1] env) (hd : (x == ("__debug__" : Str)) = false := by decide) : EvX c δ M (.Call (.Name "isinstance" p) [e, .Name x p1] [] pos) Post := fun y σ H ad he hs Q q =>
  ⟨_, pe_callB (X := y.cx) call_isX9 (glS y hg) hm PyProof.Rows.boot_isinstance (pa_cons wE_ok (pa_cons (pe_glob (v := .ref CX) (glS y hg2) hm2 rfl hd) pa_nil (by rfl)) (hst y.env)) (by decide) (by decide) (hst y.env) (by rfl), h y σ H ad he hs _ fun v H1 ad1 a1 M1 n1 s1 r1 ⟨D, fs, k, e1, hC, hk, p1⟩ => by
    subst e1
    obtain ⟨aa, oe, rfl, h1, h2, h3, h4, h5⟩ := r1
    refine ⟨aa, D, oe, .ref CX, .ref CX, k, rfl, h2, h3, h4, ?_, hC, fun u r => r, hk, q _ H1 ad1 (.dat (.bl k)) M1 n1 s1 rfl p1⟩
    cases hdd : oe.dict with
    | none => exact .inl rfl
    | some dx =>
      rw [hdd] at h5
      obtain ⟨_, xs, hx, _⟩ := h5
      exact .inr ⟨dx, xs, rfl, hx⟩⟩
theorem x_isiXT {T : String} (hg : c.gl "isinstance") (hm : c.mg "isinstance" = none) (hg2 : c.gl x) (hm2 : c.mg x = none) (hv : bootBuiltins x = some (.type T)) (h : EvX c δ M e fun a M1 => ∃ D fs k, a = .exc D fs ∧ ExcC c.K D ∧ PySem.W.kitOne c.K (.ref D) (.type T) = some k ∧ Post (.dat (.bl k)) M1)
    (hst : ∀ env, starEach [e, .Name x p1] env = (false, eval e env) :: starEach [.Name x p1] env) (hn : x ≠ "__name__" := by decide) (hd : (x == ("__debug__" : Str)) = false := by decide) : EvX c δ M (.Call (.Name "isinstance" p) [e, .Name x p1] [] pos) Post := fun y σ H ad he hs Q q =>
  ⟨_, pe_callB (X := y.cx) call_isX9 (glS y hg) hm PyProof.Rows.boot_isinstance (pa_cons wE_ok (pa_cons (pe_bltn (v := .ty T) (glS y hg2) hm2 hv rfl hn hd) pa_nil (by rfl)) (hst y.env)) (by decide) (by decide) (hst y.env) (by rfl), h y σ H ad he hs _ fun v H1 ad1 a1 M1 n1 s1 r1 ⟨D, fs, k, e1, hC, hk, p1⟩ => by
    subst e1
    obtain ⟨aa, oe, rfl, h1, h2, h3, h4, h5⟩ := r1
    refine ⟨aa, D, oe, .ty T, .type T, k, rfl, h2, h3, h4, ?_, hC, fun u r => r, hk, q _ H1 ad1 (.dat (.bl k)) M1 n1 s1 rfl p1⟩
    cases hdd : oe.dict with
    | none => exact .inl rfl
    | some dx =>
      rw [hdd] at h5
      obtain ⟨_, xs, hx, _⟩ := h5
      exact .inr ⟨dx, xs, rfl, hx⟩⟩
/-- e.n, e a held exception -/
theorem x_excAt (h : EvX c δ M e fun a M1 => ∃ C fs d, a = .exc C fs ∧ XfC c.K C ∧ PySem.W.findIn c.K (.ref C) x = some none ∧ fs.lookup x = some d ∧ Post (.dat d) M1) (hb : ∀ env, attributeBase e x env (eval e env) = eval e env) : EvX c δ M (.Attribute e x pos) Post := fun y σ H ad he hs Q q =>
  ⟨_, pe_xf9 wE_ok (hb y.env), h y σ H ad he hs _ fun v H1 ad1 a1 M1 n1 s1 r1 ⟨C, fs, d, e1, hX, hf, hl, p1⟩ => by
    subst e1
    obtain ⟨aa, oe, rfl, h1, h2, h3, h4, h5⟩ := r1
    cases hdd : oe.dict with
    | none =>
      rw [hdd] at h5
      rw [show fs = [] from h5] at hl
      cases hl
    | some dx =>
      rw [hdd] at h5
      obtain ⟨_, xs, hx, hall⟩ := h5
      obtain ⟨v, e2, rv⟩ := hall x d hl
      exact ⟨aa, C, dx, oe, xs, v, rfl, h2, h3, h4, hdd, hx, hX, hf, e2, q v H1 ad1 (.dat d) M1 n1 s1 rv p1⟩⟩
end
end Fx
namespace Fx
open PySem L2 LamX
section
variable {c : SC} {δ : Dl} {M : List MO} {Post : AQ} {p pos lpos : Pos} {params : Arguments} {body : Expr} {scope : Scope}
/-- the reading of the lambda's body, wherever it is called -/
def tLam9 (X : Cx) (k : Nat) (scope : Scope) (f c' : Addr) (body : Expr) (E : XK) : TE := fun σ H Q => ∀ (A : Around) (outer : List Env) (s : Shared) (H0 : Hp), Room k (A.deeper (lamEnv X scope s.heap.objs.size f c')) → wE (lamCx X A outer s H0 E scope f c') body σ H Q
theorem lam_read9 {k : Nat} {PV : AQ} {PX : XP} (h : EvRx (c.lam scope k) δ M body PV PX) (y : Dyn c) {f c' : Addr} {σ : L2.St} {H : Hp} {ad : List Addr} (he : EnvOk c.K ad H σ δ) (hs : StOk c.K ad H M) {E : XK} {Q : VK}
    (q : ∀ v H2 ad2 a M2, Nx ad H ad2 H2 → StOk c.K ad2 H2 M2 → RepA c.K ad2 H2 a v → PV a M2 → Q v H2) (qx : XOut c.K ad H PX E) : tLam9 y.cx k scope f c' body E σ H Q := fun A outer s0 H0 hr => by
  let yl : Dyn (c.lam scope k) := ⟨A.deeper (lamEnv y.cx scope s0.heap.objs.size f c'), s0, H0, lamEnv y.cx scope s0.heap.objs.size f c', outer, lamEnv y.cx scope s0.heap.objs.size f c' :: outer, [], [],
    (lamCx y.cx A outer s0 H0 E scope f c').xe, rfl, hr, passes_of (X := lamCx y.cx A outer s0 H0 E scope f c') (K := fun e s'' => L2.CX y.cx.prog y.cx.w outer H0 s0 E e s'') (E₁ := fun e s'' => L2.CX y.cx.prog y.cx.w outer H0 s0 E e s'') rfl, trivial⟩
  have tkl : Takes yl.cx (fun cls d _ H => E cls d H) := takes_of (X := yl.cx) (E₁ := fun e s'' => L2.CX y.cx.prog y.cx.w outer H0 s0 E e s'') rfl rfl rfl rfl
  exact h yl E tkl σ H ad he hs Q q qx
/-- the names of the law's _law_heard -/
abbrev heardN : List Str := ["deed", "kept", "found", "e", "kind"]
/-- x(lambda: body), x the law's _law_heard: it tries what it got, and keeps the exception -/
theorem x_heard {cd Pt TE : Addr} {ql xh : Str} {sth st1 : Stmt} {rest : List Stmt} {q1 q2 q3 q4 q5 q6 q7 q8 q9 q10 : Pos} {k : Nat} {gh : Addr} {fdh : FuncData} (jt : Nat) (hE : ∀ cv q, c.okE cv q → cv = .ref cd ∧ q = ql) (TB : TabB c.base c.mg cd Pt) (L : LamS c.sc scope)
    (hdef : ∀ env, defaultsOf params env = ([], [])) (hbind : ∀ (q : Str) (cl : List (Str × Addr)) (pm cv ctv : Value), bindArgs (PySem.W.kla_fn "<lambda>" q params body scope cl pm cv ctv) ⟨[], []⟩ = pure [])
    (hg : c.gl xh) (hmh : c.mg xh = some (.ref gh)) (Fh : Fun c.K xh xh sth gh fdh) (hbh : Binds c.K fdh ["deed"] []) (Sh : FnScope heardN ["deed"] (defScope sth))
    (hbd : defBody sth = st1 :: .Try [.Assign [.Name "found" q1] (.Call (.Name "deed" q2) [] [] q3) q4] [.ExceptHandler (some (.Name "TicketError" q5)) (some "e") [.Assign [.Name "kept" q6] (.Name "e" q7) q8] q9] [] [] q10 :: rest)
    (hsc : (defScope sth).names.lookup ("deed" : Str) = some .local ∧ (defScope sth).names.lookup ("kept" : Str) = some .local ∧ (defScope sth).names.lookup ("found" : Str) = some .local ∧ (defScope sth).names.lookup ("e" : Str) = some .local ∧ (defScope sth).names.lookup ("TicketError" : Str) = some .globalImplicit)
    (hmT : c.mg "TicketError" = some (.ref TE)) (hk : c.k = k + 2)
    (hw1 : ∀ env, swapsWith (.Call (.Name "deed" q2) [] [] q3) (some (.Name "found" q1)) q4.line env = pure false) (hw2 : ∀ env, swapsWith (.Name "e" q7) (some (.Name "kept" q6)) q8.line env = pure false)
    (hst1 : ∀ (f : Addr) (M' : List MO) (D : AE), D.nx [some (.fn f), some (.dat .non), some (.dat .non), none, none] M' → Run1 (scOf c.P c.w c.K c.mg c.base heardN sth (k + 1)) [some (.fn f), none, none, none, none] M' st1 D)
    (hjt : M[jt]? = some (.tab Pt (ql ++ "<lambda>")))
    (h : EvRx (c.lam scope k) δ M body
      (fun a M2 => ∀ f, Run (scOf c.P c.w c.K c.mg c.base heardN sth (k + 1)) [some (.fn f), some (.dat .non), some a, none, none] M2 rest { nx := fun _ _ => False, rt := Post })
      (fun C fs M2 => PySem.W.exmOne c.K (.ref C) (.ref TE) = some true ∧ ∀ f, Run (scOf c.P c.w c.K c.mg c.base heardN sth (k + 1)) [some (.fn f), some (.exc C fs), some (.dat .non), none, none] M2 rest { nx := fun _ _ => False, rt := Post }))
    (hdb : (xh == ("__debug__" : Str)) = false := by decide) : EvX c δ M (.Call (.Name xh p) [.Lambda params body scope lpos] [] pos) Post := fun y σ H ad he hs Q q => by
  refine ⟨_, tAll_ok, fun pins s I => ?_⟩
  have hg' := glS y hg
  obtain ⟨ecode, equal⟩ := hE _ _ y.en
  have L' : LamS y.cx.env.scope scope := by rw [show y.cx.env.scope = c.sc from y.sc]; exact L
  have hT0 : TabS H Pt (y.cx.env.qual ++ "<lambda>") := by
    obtain ⟨a, ha, haP, hT⟩ := hs.obj jt _ hjt
    subst haP
    rw [show y.cx.env.qual = ql from equal]
    exact hT
  obtain ⟨oc, od, kV, doc, pmh, an, cdv, ct, osl, rfl, lk, hcdh⟩ := Fh.ex
  refine wpAny_Call_Name_kw (ld_glob I hg' hmh ?_ hdb)
  refine PySem.W.callWith_K (h₀ := y.cx.base) I.ok.mod.kin Fh.kp ?_ (by rfl) (by rfl)
  show wpAny _ _ (spliced ((false, eval (.Lambda params body scope lpos) y.cx.env) :: backTo pos (starEach [] y.cx.env))) _ _ s
  refine Calls.spliced_cons (lam_make9 I TB ecode hT0 (hdef _) (L'.has I.ok) fun f c' pm ctv H1 s1 I1 hup hT1 hf hfn hfr hco => ?_)
  refine Calls.spliced_nil ⟨I1.kIn, ?_⟩
  rw [show y.cx.env.qual = ql from equal] at hup hT1
  obtain ⟨S1, n1⟩ := tab_nx hs hjt hT1 hup
  have hr0 : Room (k + 1 + 1) y.cx.A := by
    have := y.room
    rw [hk] at this
    exact this
  have rc : codeAny (model y.cx.prog y.cx.w) y.cx.A (.call (.ref gh) ⟨[.ref f], []⟩) (CR CX0 y.cx.stack y.cx.prog y.cx.w H1 s1 Q (fun _ _ _ => False)) s1 := by
    refine run_ofS (N := heardN) (ps := ["deed"]) (us := [.ref f]) (vs := [.ref f]) lk hcdh Sh hr0 I1.env0 (hbh s1 [.ref f] I1.kIn rfl) (.cons rfl .nil) rfl fun hr' => ?_
    let env := PyProof.Rows.envOfC xh (defScope sth) s1.heap.objs.size gh cdv
    let yz : Dyn (scOf c.P c.w c.K c.mg c.base heardN sth (k + 1)) := ⟨y.cx.A.deeper env, s1, H1, env, y.cx.stack, env :: y.cx.stack, [], [], fun _ _ => False, rfl, hr', PassesOwn.never, trivial⟩
    have nd := Sh.nd
    have tryOk : PS yz.cx (.Try [.Assign [.Name "found" q1] (.Call (.Name "deed" q2) [] [] q3) q4] [.ExceptHandler (some (.Name "TicketError" q5)) (some "e") [.Assign [.Name "kept" q6] (.Name "e" q7) q8] q9] [] [] q10) _ :=
      ps_tryK9 (X := yz.cx) (i := 3) (Wout := fun _ _ _ _ => False) rfl rfl rfl nd rfl hsc.2.2.2.1 ⟨hsc.2.2.2.2, by decide, .inl hmT⟩ L2.takes0
        (fun W pn xe tk _ => pss_one (ps_set (X := yz.cx.tr pn xe) (i := 2) nd rfl (.inl hsc.2.2.1)
          (pe_act9 (X := y.cx) (CXg := CX0) (Eg := fun _ _ _ => False) (Ng := heardN) (qg := xh) (sg := defScope sth) (g := gh) (cdg := cdv) (k := k) (i := 0) (tb := tLam9 y.cx k scope f c' body) I1 L' hf hfn hfr (hbind _ _ _ _ _) tk hr' (fun A outer s H E hr2 => ⟨fun pins s' σ' H' Q' I' hq => wE_ok.run pins s' σ' H' Q' I' (hq A outer s H hr2)⟩) rfl (.inl hsc.1))
          (hw1 _) (.inl rfl)))
        (fun a oe cls d pn _ _ => pss_one (ps_set (X := yz.cx.suite a ((a, oe) :: pn)) (i := 1) nd rfl (.inl hsc.2.1) (pe_var (X := yz.cx.suite a ((a, oe) :: pn)) (i := 3) rfl (.inl hsc.2.2.2.1)) (hw2 _) (.inl rfl)))
    rw [hbd]
    refine ⟨_, PSs.nox (pss_cons (X := yz.cx) wS_ok (pss_cons tryOk wSs_ok)), ?_⟩
    have e0 : EnvOk c.K ad H1 (L2.start heardN [.ref f]) [some (.fn f), none, none, none, none] := envOk_start (as := [.fn f]) ⟨.ref f, [], rfl, rfl, rfl⟩
    refine hst1 f M { nx := fun δ2 M2 => δ2 = [some (.fn f), some (.dat .non), some (.dat .non), none, none] ∧ M2 = M, rt := fun _ _ => False } ⟨rfl, rfl⟩ yz (L2.start heardN [.ref f]) H1 ad e0 S1 _ ⟨fun σ2 H2 ad2 δ2 M2 n2 e2 s2 ⟨ed, eM⟩ => ?_, fun _ _ _ _ _ _ _ _ z => z.elim, fun _ _ _ _ _ _ _ _ z => z.elim, fun _ _ _ _ _ _ _ _ z => z.elim⟩
    subst ed eM
    obtain ⟨vf, hvf, rf⟩ := e2.at_ 0 _ rfl
    have hc2 : H2 c' = some (CodeO c' (y.cx.env.qual ++ "<lambda>")) := n2.tx.ext _ _ hco
    have n02 : Nx ad H ad2 H2 := n1.trans n2
    have ends : ∀ {ad3 : List Addr} {H3 : Hp}, Nx ad H ad3 H3 → EndsOk c.K ad3 H3 { nx := fun _ _ => False, rt := Post } { nx := fun _ H' => Q .non H', rt := Q } := fun n3 =>
      ⟨fun _ _ _ _ _ _ _ _ z => z.elim, fun v H4 ad4 a4 M4 n4 s4 r4 p4 => q v H4 ad4 a4 M4 (n3.trans n4) s4 r4 p4, fun _ _ _ _ _ _ _ _ z => z.elim, fun _ _ _ _ _ _ _ _ z => z.elim⟩
    refine ⟨by rw [hvf, show vf = .ref f from rf], hc2, lam_read9 h y (he.nx n02) s2 (fun v H3 ad3 a3 M3 n3 s3 r3 hp => ?_) (fun C d fs H3 ad3 M3 n3 s3 hx hp => ?_)⟩
    · exact hp f yz (σ2.set 2 (some v)) H3 ad3 ((e2.nx n3).set r3) s3 _ (ends (n02.trans n3))
    · obtain ⟨hex, hrun⟩ := hp
      refine ⟨true, hex, fun _ a oe hna hz hfl => ?_, fun z => (by cases z)⟩
      have lσ : 3 < σ2.length := by rw [e2.len]; show 3 < 5; decide
      refine ⟨.ref a, by rw [List.getElem?_set_self lσ], fun hna2 => ?_⟩
      have sm := same_new (o := heldO a oe) hna2
      have n4 : Nx ad3 H3 ad3 (upd H3 a (heldO a oe)) := Nx.same sm
      have hz1 : oe.cls = .ref C := hz.1
      have hz2 : oe.dict = d := hz.2
      have rex : RepA c.K ad3 (upd H3 a (heldO a oe)) (.exc C fs) (.ref a) := ⟨a, oe, rfl, s3.free hna2, upd_same, hz1, hfl, by rw [hz2]; exact hx.nx n4⟩
      have env4 : EnvOk c.K ad3 (upd H3 a (heldO a oe)) (((σ2.set 3 (some (.ref a))).set 1 (some (.ref a))).set 3 none) [some (.fn f), some (.exc C fs), some (.dat .non), none, none] :=
        EnvOk.unset (((((e2.nx n3).nx n4).set (i := 3) (a := .fn a) (v := .ref a) rfl).set (i := 1) rex)) (i := 3)
      exact hrun f yz _ _ ad3 env4 (s3.same sm) _ (ends ((n02.trans n3).trans n4))
  refine wpAny_call (codeAny_mono rc fun r s2 hq => ?_)
  cases r with
  | error e => exact (show False from hq).elim
  | ok fl =>
    cases fl with
    | ret u => exact I1.after hq
    | next => exact False.elim hq
    | brk => exact False.elim hq
    | cont => exact False.elim hq
end
end Fx
namespace Fx
open PySem L2 LamX
/-- the program's exceptions: cs their classes, in the law's order, TE their base, rs those that are raised -/
class Exs (K : PySem.W.Frag) (mg : Str → Option Value) (cs : outParam (Nat → Addr)) (TE : outParam Addr) (rs : outParam (List Nat)) : Prop where
  te : mg "TicketError" = some (.ref TE)
  n0 : mg "NoDraw" = some (.ref (cs 0))
  n1 : mg "NoNumber" = some (.ref (cs 1))
  n2 : mg "NoTicket" = some (.ref (cs 2))
  n3 : mg "Closed" = some (.ref (cs 3))
  n4 : mg "NoName" = some (.ref (cs 4))
  n5 : mg "NoBack" = some (.ref (cs 5))
  n6 : mg "NoText" = some (.ref (cs 6))
  own : ∀ i ∈ rs, i < 7 ∧ ExcC K (cs i) ∧ PySem.W.exmOne K (.ref (cs i)) (.ref TE) = some true ∧ PySem.W.kitOne K (.ref (cs i)) (.type "ValueError") = some true ∧ ∀ j, j < 7 → PySem.W.kitOne K (.ref (cs i)) (.ref (cs j)) = some (decide (i = j))
  fld : ∀ i ∈ rs, (i = 1 → XfC K (cs i) ∧ PySem.W.findIn K (.ref (cs i)) "number" = some none) ∧ (i = 4 → XfC K (cs i) ∧ PySem.W.findIn K (.ref (cs i)) "name" = some none) ∧ (i = 6 → XfC K (cs i) ∧ PySem.W.findIn K (.ref (cs i)) "at" = some none)
/-- what _law_heard tells of an exception -/
def heardD (i : Nat) (fs : List (Str × D)) : Option D := match i with
  | 1 => (fs.lookup ("number" : Str)).map fun d => .tup [.str "no number", d]
  | 4 => (fs.lookup ("name" : Str)).map fun d => .tup [.str "no name", d]
  | 6 => (fs.lookup ("at" : Str)).map fun d => .tup [.str "no text", d]
  | 0 => some (.tup [.str "no draw"])
  | 2 => some (.tup [.str "no ticket"])
  | 3 => some (.tup [.str "closed"])
  | 5 => some (.tup [.str "no back"])
  | _ => none
def kindS : List Str := ["no draw", "no number", "no ticket", "closed", "no name", "no back", "no text"]
section
variable {c : SC} {δ : Dl} {M : List MO} {Post : AQ} {X : XP} {a b e t : Expr} {es : List Expr} {pos p p1 p2 pos' : Pos} {x : Str} {k : Nat} {st : Stmt} {ps : List Str}
/-- a def that may raise, called with keywords -/
theorem e_callKX {A : ASpX} {kws : List Keyword} {m n : Nat} (ks : List Str) (F : DefOkX c.P c.w c.K c.mg c.base k x st ps (spOfX c.K ps.length A)) (hk : k ≤ c.k) (hg : c.gl x)
    (hB : ∀ (kV doc pm : Value) (an : Option Addr) (cdv ct : Value) (us ws : List Value), us.length = m → ws.length = n → bindArgs (PySem.W.fnOf x x (defArgs st) (defBody st) (defScope st) .none kV doc pm an cdv ct) ⟨us, ks.zip ws⟩ = pure (ps.zip (us ++ ws)))
    (hmn : ps.length = m + n) (hn0 : 0 < m + n)
    (h : EvA c δ M (e :: es) fun as M1 => EvK c δ M1 kws fun bs M2 => as.length = m ∧ bs.length = n ∧ A (as ++ bs) M2 Post X)
    (hst : ∀ env, starEach (e :: es) env = (false, eval e env) :: starEach es env) (hall : ∀ env, (backToKw pos (keywordEach kws env)).all (·.1.isSome) = true) (hks : ∀ env, (backToKw pos (keywordEach kws env)).filterMap (·.1) = ks)
    (hpl : ∀ env, ((backTo pos (starEach (e :: es) env)).any (·.1) || (backToKw pos (keywordEach kws env)).any (·.1.isNone)) = false) (hdb : (x == ("__debug__" : Str)) = false := by decide) : EvRx c δ M (.Call (.Name x p) (e :: es) kws pos) Post X := fun y W tk σ H ad he hs Q q qx => by
  obtain ⟨fa, fd, hm, F1, hb, ok⟩ := F.ex
  have kb : KBinds c.K fd ps ks (ordK m n) (ordK m n) := by
    obtain ⟨oc, od, kV, doc, pm, an, cdv, ct, osl, rfl, lk, hcd⟩ := F1.ex
    refine ⟨fun s us ws _ hl => ?_, fun {vs us zs ws} r1 r2 => ?_⟩
    · unfold ordK at hl ⊢
      by_cases hc : us.length = m ∧ ws.length = n
      · rw [if_pos hc]
        exact .of_eq (hB kV doc pm an cdv ct us ws hc.1 hc.2)
      · rw [if_neg hc] at hl
        rw [hmn] at hl
        exact absurd hl (by show ¬ (0 = m + n); omega)
    · unfold ordK
      rw [r1.length, r2.length]
      split
      · exact vals_append r1 r2
      · exact .nil
  refine ⟨_, pe_callK (X := y.cx) (E := W) ok (y.room.mono hk) (glS y hg) hm F1.kp kb (passes_call tk fun _ _ _ _ h => h) wA_ok wK_ok (hall y.env) (hks y.env) hdb (hst y.env) (hpl y.env), h y σ H ad he hs _ fun vs H1 ad1 as M1 n1 s1 r1 p1 => p1 y σ H1 ad1 (he.nx n1) s1 _ fun us H2 ad2 bs M2 n2 s2 r2 ⟨hl1, hl2, hA⟩ => ?_⟩
  have e1 : vs.length = m := by rw [repAs_length r1]; exact hl1
  have e2 : us.length = n := by rw [repAs_length r2]; exact hl2
  show spOfX c.K ps.length A (ordK m n vs us) H2 Q W
  unfold ordK
  rw [if_pos ⟨e1, e2⟩]
  exact ⟨by rw [List.length_append, e1, e2]; exact hmn.symm, ad2, as ++ bs, M2, Post, X, s2, repAs_append (r1.nx n2) r2, hA, fun v H3 ad3 a3 M3 n3 s3 r3 p3 => q v H3 ad3 a3 M3 ((n1.trans n2).trans n3) s3 r3 p3, qx.on (n1.trans n2)⟩
end
/-! < of tuples of ints -/
section
variable {X : Cx}
theorem op_ltD9 (hu : X.A.units + 65 < cLine) : OpR X (compareOp .Lt) (fun x y H Q => ∃ d d', Dp X.K H x d ∧ Dp X.K H y d' ∧ PySem.W.alike d d' = true ∧ d ≠ .none ∧ d.depth ≤ 60 ∧ Q (.bl (PySem.W.dataLt d d')) H) := by
  intro pins s σ H x y v u Q I rx ry h
  obtain ⟨d, d', hd, hd', hal, hnn, hdp, q⟩ := h
  obtain ⟨as, r1⟩ := Dp.reads I d x v hd rx
  obtain ⟨bs, r2⟩ := Dp.reads I d' y u hd' ry
  have hm : min d.depth d'.depth ≤ d.depth := Nat.min_le_left _ _
  exact PySem.W.rcLt_alike _ _ X.A s v u _ _ r1 r2 hal hnn (by omega) X.prog X.w X.xe _ ⟨.bl _, H, I, rfl, q⟩
end
section
variable {c : SC} {M : List MO} {B : Bool → List MO → Prop}
theorem c_ltT {a b : List Int} (h : B (decide (a < b)) M) : CmpR c .Lt (.dat (tI a)) (.dat (tI b)) M B := fun z H ad st vx vy rx ry Q q => by
  refine ⟨_, op_ltD9 (by have := z.room.un; show z.A.units + 65 < cLine; omega), _, _, rep_dp rx, rep_dp ry, ?_, ?_, ?_, ?_⟩
  · rw [tI_py, tI_py]
    simp only [PySem.W.alike]
    exact PySem.W.alike_ints _ _
  · rw [tI_py]
    intro z
    cases z
  · rw [tI_py]
    simp [PyData.depth, PySem.W.depth_ints]
  · rw [tI_py, tI_py, PySem.W.dataLt_tuple]
    show Q (.bl (PySem.W.rowLt (a.map .int) (b.map .int))) H
    rw [PySem.W.dataLt_ints]
    exact q _ H ad M Nx.refl st h
end
end Fx
namespace L2
open PySem PySem.Spec PyProof.Rows
section
variable {X : Cx}
theorem eqU_count9 {y : V} : ∀ {xs : List V} {us : List Value}, Vals xs us → xs.all flatV = true → us.countP (eqU y) = xs.countP fun z => eqV z y
  | _, _, .nil, _ => rfl
  | z :: xs, u :: us, .cons r t, f => by
    rw [List.all_cons, Bool.and_eq_true] at f
    rw [List.countP_cons, List.countP_cons, eqU_count9 t f.2, eqU_of r f.1]
def rCntF9 (K : PySem.W.Frag) : V → List V → Hp → VK → Prop := fun x xs H Q => ∃ (p : Addr) (ys : List V) (y : V), x = .ref p ∧ xs = [y] ∧ SqL K H p ys ∧ flatV y = true ∧ ys.all flatV = true ∧ Q (.int ((ys.countP fun z => eqV z y : Nat) : Int)) H
/-- xs.count(y), flat items -/
theorem mt_countF9 : MtR X "list.count" (rCntF9 X.K) := by
  intro pins s σ H x xs v us Q I rx rxs h
  obtain ⟨p, ys, y, rfl, rfl, hs, fy, fys, q⟩ := h
  cases rx
  obtain ⟨u, rfl, ru⟩ := rxs.one
  obtain ⟨its, rv, ⟨⟨cls, dd, data, sl⟩, n, ho, hc, hdn, hd⟩, hlen⟩ := I.list hs
  simp only at hc hd
  subst hc hd
  refine call_meets PySem.F.slot_list_count ⟨_, ho, rfl⟩ PySem.F.entry_list_count (PySem.F.args_list_count_2 _ _)
    (SeqAt.list_countAt p its.toArray n dd sl u (eqU y)) ⟨ho, fun u' hu' => mem_eqAt ru fy rv fys u' (by simpa using hu'), ?_⟩
  have ec : its.toArray.toList.countP (eqU y) = ys.countP fun z => eqV z y := eqU_count9 rv fys
  refine ⟨.int _, H, I.tok _, ⟨s.toks, ?_⟩, q⟩
  show Value.int ((its.toArray.toList.countP (eqU y) : Nat) : Int) s.toks = _
  rw [ec]
end
end L2
namespace Fx
open PySem L2
section
variable {c : SC} {δ : Dl} {M : List MO} {Post : AQ} {a b e o : Expr} {p p1 p2 p3 apos pos : Pos} {x : Str}
/-- xs.count(e), flat data -/
theorem x_lcountF (h : EvX c δ M o fun v M1 => ∃ ds : List D, v = .ls ds ∧ ds.all fl = true ∧ EvX c δ M1 e fun w M2 => ∃ d : D, w = .dat d ∧ fl d = true ∧ Post (.dat (.int (((ds.map flV).countP fun z => eqV z (flV d) : Nat) : Int))) M2)
    (hbase : ∀ env, attributeBase o "count" env (eval o env) = eval o env)
    (hfew : ∀ env, ((backTo pos (starEach [e] env)).all (fun x => !x.1) && (backToKw pos (keywordEach [] env)).all (fun x => x.1.isSome) && decide ([e].length + ([] : List Keyword).length + (if ([] : List Keyword).isEmpty then 0 else 1) < 30)) = true)
    (hline : (apos.endLine == pos.line) = true) (hst : ∀ env, starEach [e] env = (false, eval e env) :: starEach [] env) : EvX c δ M (.Call (.Attribute o "count" apos) [e] [] pos) Post := fun y σ H ad he hs Q q =>
  ⟨_, pe_bm (X := y.cx) PySem.F.plainAttrs_list PySem.F.slot_list_count PySem.F.type_list_count mt_countF9 wE_ok (pa_cons wE_ok pa_nil (hst y.env)) (hbase y.env) (hfew y.env) hline (hst y.env) rfl, h y σ H ad he hs _ fun v H1 ad1 a1 M1 n1 s1 r1 ⟨ds, e1, hf, p1⟩ => by
    subst e1
    obtain ⟨qq, xs, rfl, hq, rr⟩ := id r1
    refine ⟨.inl ⟨rfl, xs, hq.sq⟩, p1 y σ H1 ad1 (he.nx n1) s1 _ fun w H2 ad2 a2 M2 n2 s2 r2 ⟨d, e2, hfd, p2⟩ => ?_⟩
    subst e2
    obtain ⟨q3, xs3, e3, hq3, rr3⟩ := r1.nx n2
    cases e3
    obtain ⟨ew, fw⟩ := rep_fl r2 hfd
    obtain ⟨ex, fx⟩ := reps_fl rr3 hf
    refine ⟨qq, xs3, w, rfl, rfl, hq3.sq, fw, fx, ?_⟩
    rw [ew, ex]
    exact q _ H2 ad2 (.dat (.int _)) M2 (n1.trans n2) s2 rfl p2⟩
/-- xs.index(e), flat data -/
theorem x_lindexF (h : EvX c δ M o fun v M1 => ∃ ds : List D, v = .ls ds ∧ ds.all fl = true ∧ EvX c δ M1 e fun w M2 => ∃ (d : D) (j : Nat) (z : V), w = .dat d ∧ fl d = true ∧ (ds.map flV)[j]? = some z ∧ eqV z (flV d) = true ∧ (∀ (m : Nat) (z' : V), m < j → (ds.map flV)[m]? = some z' → eqV z' (flV d) = false) ∧ Post (.dat (.int (j : Nat))) M2)
    (hbase : ∀ env, attributeBase o "index" env (eval o env) = eval o env)
    (hfew : ∀ env, ((backTo pos (starEach [e] env)).all (fun x => !x.1) && (backToKw pos (keywordEach [] env)).all (fun x => x.1.isSome) && decide ([e].length + ([] : List Keyword).length + (if ([] : List Keyword).isEmpty then 0 else 1) < 30)) = true)
    (hline : (apos.endLine == pos.line) = true) (hst : ∀ env, starEach [e] env = (false, eval e env) :: starEach [] env) : EvX c δ M (.Call (.Attribute o "index" apos) [e] [] pos) Post := fun y σ H ad he hs Q q =>
  ⟨_, pe_bm (X := y.cx) PySem.F.plainAttrs_list PySem.F.slot_list_index PySem.F.type_list_index mt_index wE_ok (pa_cons wE_ok pa_nil (hst y.env)) (hbase y.env) (hfew y.env) hline (hst y.env) rfl, h y σ H ad he hs _ fun v H1 ad1 a1 M1 n1 s1 r1 ⟨ds, e1, hf, p1⟩ => by
    subst e1
    obtain ⟨qq, xs, rfl, hq, rr⟩ := id r1
    refine ⟨.inl ⟨rfl, xs, hq.sq⟩, p1 y σ H1 ad1 (he.nx n1) s1 _ fun w H2 ad2 a2 M2 n2 s2 r2 ⟨d, j, z, e2, hfd, hz, hze, hno, p2⟩ => ?_⟩
    subst e2
    obtain ⟨q3, xs3, e3, hq3, rr3⟩ := r1.nx n2
    cases e3
    obtain ⟨ew, fw⟩ := rep_fl r2 hfd
    obtain ⟨ex, fx⟩ := reps_fl rr3 hf
    subst ew ex
    exact ⟨qq, _, _, j, z, rfl, rfl, hq3.sq, fw, fx, hz, hze, hno, q _ H2 ad2 (.dat (.int (j : Nat))) M2 (n1.trans n2) s2 rfl p2⟩⟩
end
end Fx

/-! Fx, part U: exceptions with an own __init__, made with keywords. -/
namespace PySem
namespace HandSPX
open Builtin Builtin.ObjectAttr
section
variable {M : Model} {A : Around} {E : Value → Shared → Prop} {h : Heap} {g : Array GenState} {d : Drawn} {t : Nat} {os : OsState}
variable {nm q : Str} {C N : Addr} {bs bm bmB : List Value} {hdct : Bool} {sn : List Str} {sub : List Value} {ab : Bool} {col : Option Bool} {dd : Option Addr} {k0 k1 k2 k3 k5 : Option Value} {B newId initId : String} {kw : List (Str × Value)}
theorem check_new_ownK9 (F : ExcBaseFacts B newId initId bmB) (hT : ∀ X : String, bm.contains (.type X) = bmB.contains (.type X)) {rest : List Value} {Q : Unit → Shared → Prop}
    (hC : h.get? C = some (excClassObj nm q C N bs bm hdct sn sub ab col dd k0 k1 k2 k3 k5 newId)) (hq : Q () ⟨h, g, d, t, os⟩) : wpAny M A (checkBuiltinCall newId ⟨.ref C :: rest, kw⟩) Q E ⟨h, g, d, t, os⟩ := by
  have hcont : (Value.ref C :: bm).contains (.type B) = true := by rw [List.contains_cons, hT, F.hasB, Bool.or_true]
  have hstar := F.noStar
  simp only [checkBuiltinCall, F.newKind, F.newSplit, F.newRow]
  repeat (first | refine wpAny_loadPart_at hC ?_ | (refine wpAny_isSubtype_exc hC ?_; rw [hcont]) | refine wpAny_staticBase_exc hC ?_ | refine wpAny_madeBy_exc hC ?_ | simp only [bne_self_eq_false, Bool.false_eq_true, if_false] | wp_step)
  exact hq
theorem check_type_callK9 {rest : List Value} {Q : Unit → Shared → Prop} (hC : h.get? C = some (excClassObj nm q C N bs bm hdct sn sub ab col dd k0 k1 k2 k3 k5 newId))
    (hq : Q () ⟨h, g, d, t, os⟩) : wpAny M A (checkBuiltinCall "type.__call__" ⟨.ref C :: rest, kw⟩) Q E ⟨h, g, d, t, os⟩ := by
  have f3 := tc_sub
  have hT : (⟨h, g, d, t, os⟩ : Shared).TypeIs (.ref C) "type" := ⟨_, hC, rfl⟩
  simp only [checkBuiltinCall, tc_kind, tc_split]
  repeat (any_goals (first | assumption | with_reducible refine wpAny_loadPart_at hC ?_ | with_reducible refine wpAny_onRaise ?_ | with_reducible refine wpAny_map ?_ | wp_step))
end
section
variable {prog : Program} {w : World} {A : Around} {E : Value → Shared → Prop} {R : Result → Shared → Prop} {h : Heap} {g : Array GenState} {d : Drawn} {t : Nat} {os : OsState}
variable {nm q : Str} {C N : Addr} {bs bm bmB : List Value} {hdct : Bool} {sn : List Str} {sub : List Value} {ab : Bool} {col : Option Bool} {dd : Option Addr} {k0 k1 k2 k3 k5 : Option Value} {B newId initId : String} {kw : List (Str × Value)}
theorem new_ownK9 (F : ExcBaseFacts B newId initId bmB) (hT : ∀ X : String, bm.contains (.type X) = bmB.contains (.type X)) {rest : List Value}
    (hC : h.get? C = some (excClassObj nm q C N bs bm hdct sn sub ab col dd k0 k1 k2 k3 k5 newId))
    (hq : R (.ok (.ret (.ref (h.objs.size + 1)))) ⟨(h.push { cls := .type "tuple", data := .seq rest.toArray }).push
      { cls := .ref C, data := .fields #[.ref h.objs.size, .none, .none, .none, .bool false, .none] }, g, d, t, os⟩) (hrest : rest.length ≤ sizeLine) :
    codeAny (model prog w) A (.builtin newId ⟨.ref C :: rest, kw⟩) R ⟨h, g, d, t, os⟩ := by
  have hends := F.ends
  have hcB : (Value.ref C :: bm).contains (.type B) = true := by rw [List.contains_cons, hT, F.hasB, Bool.or_true]
  have hcA : (Value.ref C :: bm).contains (.type "AttributeError") = false := by rw [List.contains_cons, hT, F.noAttr]; rfl
  have hcN : (Value.ref C :: bm).contains (.type "NameError") = false := by rw [List.contains_cons, hT, F.noName]; rfl
  refine codeAny_builtinAt F.entry ?_
  unfold Builtin.«BaseException.__new__»
  refine wpAt_bind ?_
  show wpAt _ _ _ (stack >>= _) _ _ _
  refine wpAt_bind (wpAt_stack fun p below => wpAt_of_wpAny ?_)
  wp_walk
  refine wpAt_of_wpAny ?_
  rw [F.owner]
  repeat (first | with_reducible refine wpAny_madeHere_exc F.canon hC ?_ | with_reducible refine wpAny_loadPart_at hC ?_ | (with_reducible refine wpAny_isSubtype_exc hC ?_; first | rw [hcB] | rw [hcA] | rw [hcN]) | wp_step)
  show R _ _
  rw [Heap.size_push]
  exact hq
theorem type_call_ownK9 (F : ExcBaseFacts B newId initId bmB) (hT : ∀ X : String, bm.contains (.type X) = bmB.contains (.type X)) {rest : List Value} {fI : Addr} {Q : Fin → Shared → Prop}
    (hC : h.get? C = some (excClassObj nm q C N bs bm hdct sn sub ab col dd k0 k1 k2 k3 k5 newId))
    (hi : W.Looks (model prog w) h (typeLookup (.ref C) "__init__") (some (.ref fI))) (hb : ∀ self, W.Looks (model prog w) h (bindSpecial (.ref fI) self) (.ref fI, [self])) (hrest : rest.length ≤ sizeLine)
    (hq : codeAny (model prog w) A (.call (.ref fI) ⟨.ref (h.objs.size + 1) :: rest, kw⟩)
      (fun r s' => match r with | .ok (.ret v) => v = .none ∧ Q (.done (.ret (.ref (h.objs.size + 1)))) s' | .ok _ => False | .error e => E e s')
      ⟨(h.push (W.kdv_tup rest)).push (excO C h.objs.size), g, d, t, os⟩) :
    wpAny (model prog w) A (Builtin.«type.__call__» ⟨.ref C :: rest, kw⟩) Q E ⟨h, g, d, t, os⟩ := by
  repeat (first | with_reducible refine wpAny_loadPart_at hC ?_ | with_reducible refine wpAny_madeBy_exc hC ?_ | wp_step)
  refine codeAny_call_builtin_code (Code.quiet_builtin _ F.quiet) (check_new_ownK9 F hT hC ?_)
  refine new_ownK9 F hT hC ?_ hrest
  show wpAny _ _ _ _ _ _
  have k : ∀ b o, h.get? b = some o → ((h.push (W.kdv_tup rest)).push (excO C h.objs.size)).get? b = some o := fun b o e => Heap.get?_push_of_some _ (Heap.get?_push_of_some _ e)
  have hC₁ := k _ _ hC
  have hget : ((h.push (W.kdv_tup rest)).push (excO C h.objs.size)).get? (h.objs.size + 1) = some (excO C h.objs.size) := by heap_get
  have hcC : (Value.ref C :: bm).contains (.ref C) = true := by simp
  have i1 := hi.keeps k
  have b1 := (hb (.ref (h.objs.size + 1))).keeps k
  unfold isInstance
  repeat (first | with_reducible refine wpAny_loadPart_at hget ?_ | (with_reducible refine wpAny_isSubtype_exc hC₁ ?_; rw [hcC]) | wp_step)
  show wpAny _ _ (typeLookup (.ref C) _) _ _ _
  refine i1.at ?_
  refine wpAny_holding (wpAny_bind (b1.at ?_))
  refine wpAny_bind (wpAny_call (codeAny_mono hq fun r s' z => ?_))
  rcases r with e | (v | _ | _ | _) <;> first | exact z | exact z.elim | skip
  obtain ⟨rfl, z⟩ := z
  first
    | exact wpAny_pure (wpAny_pure z)
    | (wp_walk; exact z)
theorem call_ownK9 (F : ExcBaseFacts B newId initId bmB) (hT : ∀ X : String, bm.contains (.type X) = bmB.contains (.type X)) {rest : List Value} {fI : Addr}
    (hC : h.get? C = some (excClassObj nm q C N bs bm hdct sn sub ab col dd k0 k1 k2 k3 k5 newId))
    (hi : W.Looks (model prog w) h (typeLookup (.ref C) "__init__") (some (.ref fI))) (hb : ∀ self, W.Looks (model prog w) h (bindSpecial (.ref fI) self) (.ref fI, [self])) (hrest : rest.length ≤ sizeLine)
    (hq : codeAny (model prog w) (A.under (.builtin "type.__call__" ⟨.ref C :: rest, kw⟩)) (.call (.ref fI) ⟨.ref (h.objs.size + 1) :: rest, kw⟩) (W.InitBack (h.objs.size + 1) R)
      ⟨(h.push (W.kdv_tup rest)).push (excO C h.objs.size), g, d, t, os⟩) :
    codeAny (model prog w) A (.call (.ref C) ⟨rest, kw⟩) R ⟨h, g, d, t, os⟩ := by
  have f1 := tc_lookup
  have f2 := tc_bind (.ref C)
  have hTy : (⟨h, g, d, t, os⟩ : Shared).TypeIs (.ref C) "type" := ⟨_, hC, rfl⟩
  refine codeAny_of_tree ?_
  show wpAny _ _ (callAny (.ref C) _) _ _ _
  repeat (any_goals (first | assumption | with_reducible refine wpAny_loadPart_at hC ?_ | wp_step))
  refine ⟨rfl, ?_⟩
  refine codeAny_call_builtin_at (Code.quiet_builtin _ (by decide +kernel)) entry_typeCall (check_type_callK9 hC (type_call_ownK9 F hT hC hi hb hrest ?_))
  refine codeAny_mono hq fun r s' z => ?_
  rcases r with e | (v | _ | _ | _) <;> exact z
end
end HandSPX
end PySem
namespace L2
open PySem PySem.Spec PyProof.Rows
/-- __init__(self, f): self.f = f -/
def spIni9 (K : PySem.W.Frag) (f : Str) : Sp := fun vs H Q _ => ∃ (a C : Addr) (v : V), vs = [.ref a, v] ∧ OexC K C ∧ PySem.W.findIn K (.ref C) f = some none ∧ H a = some (exo a C none) ∧ ∀ dx, H dx = none → dx ≠ a → Q .non (upd (upd H dx (exd dx [(f, v)])) a (exo a C (some dx)))
theorem ini_ok9 {P : Program} {w : World} {K : PySem.W.Frag} {mg : Str → Option Value} {base : Heap} {qn f : Str} {fI : Addr} {fd : FuncData} {st : Stmt} {p1 p2 p3 p4 : Pos} {k : Nat}
    (S : FnScope ["self", f] ["self", f] (defScope st)) (hbd : defBody st = [.Assign [.Attribute (.Name "self" p1) f p2] (.Name f p3) p4]) (hl1 : (defScope st).names.lookup ("self" : Str) = some .local) (hl2 : (defScope st).names.lookup f = some .local)
    (hf1 : (f == ("__debug__" : Str)) = false) (hf2 : (f == ("__classdict__" : Str)) = false) (hw : ∀ env, swapsWith (.Name f p3) (some (.Attribute (.Name "self" p1) f p2)) p4.line env = pure false)
    (mk : (∀ (sp : Sp), (∀ vs H Q E, sp vs H Q E → vs.length = 2) → (∀ (cdv : Value) (A : Around) (outer : List Env) (s : Shared) (H : Hp) (vs : List V) (Q : VK) (E : XK), Room k (A.deeper (envOfC qn (defScope st) s.heap.objs.size fI cdv)) → sp vs H Q E →
      ∃ t, PSs (cxOf (L2.CX P w) P w K mg base ["self", f] qn (defScope st) fI cdv A outer s H E) (defBody st) t ∧ t { nx := fun _ H' => Q .non H', rt := Q } (start ["self", f] vs) H) → FnOk P w K mg base (L2.CX P w) (k + 1) fI fd ["self", f] sp)) :
    FnOk P w K mg base (L2.CX P w) (k + 1) fI fd ["self", f] (spIni9 K f) := by
  refine mk _ (fun vs H Q E h => ?_) fun cdv A outer s H vs Q E hr h => ?_
  · obtain ⟨a, C, v, rfl, _⟩ := h
    rfl
  obtain ⟨a, C, v, rfl, T, hno, ha, q⟩ := h
  rw [hbd]
  refine ⟨_, pss_one (ps_ost (pe_var (i := 0) rfl (.inl hl1)) (pe_var (i := 1) rfl (.inl hl2) hf1 hf2) (hw _)), ?_⟩
  exact ⟨v, rfl, .ref a, rfl, a, C, rfl, T, hno, .inl ⟨ha, q⟩⟩
section
variable {X : Cx}
theorem oex_make9 {CX : CXT} {pins : List (Addr × Obj)} {σ : St} {H : Hp} {s : Shared} {C fI : Addr} {k : Nat} {fd : FuncData} {f : Str} {us : List Value} {kw : List (Str × Value)} {v : V} {u : Value} {Q : XK} (T : OexC X.K C) (iC : PySem.W.findIn X.K (.ref C) "__init__" = some (some (.ref fI)))
    (tI : PySem.W.typeIn X.K (.ref fI) = some (.type "function")) (hno : PySem.W.findIn X.K (.ref C) f = some none) (F1 : FnOk X.prog X.w X.K X.mg X.base CX k fI fd ["self", f] (spIni9 X.K f)) (hr : Room (k + 1) X.A) (hx : Passes CX X (fun _ _ _ => False))
    (I : Inv X pins σ H s) (hus : us.length ≤ sizeLine) (hb : ∀ (s : Shared) (e : Addr), X.K.In s.heap → BindsTo s fd ⟨.ref e :: us, kw⟩ [("self", .ref e), (f, u)]) (rv : RelV v u) (q : ∀ d, H d = none → Q (.ref C) (some d) (upd H d (.xd [(f, v)]))) :
    wpAny (model X.prog X.w) X.A (call (.ref C) us kw) (MkP X pins σ Q) X.xe s := by
  obtain ⟨nm, qn, N, bs, bm, sn, sub, ab, col, dd, k0, k1, k2, k3, k5, hC, hbm⟩ := T.cls
  obtain ⟨hp, g, dr, tk, os⟩ := s
  have hsz : hp.objs.size ≤ hp.objs.size + 1 := Nat.le_succ _
  have hn : H (hp.objs.size + 1) = none := I.hok.fresh hsz
  have kk : ∀ b o, hp.get? b = some o → ((hp.push (PySem.W.kdv_tup us)).push (PySem.HandSPX.excO C hp.objs.size)).get? b = some o := fun b o e => Heap.get?_push_of_some _ (Heap.get?_push_of_some _ e)
  have hget : ((hp.push (PySem.W.kdv_tup us)).push (PySem.HandSPX.excO C hp.objs.size)).get? (hp.objs.size + 1) = some (PySem.HandSPX.excO C hp.objs.size) := by heap_get
  have I2 : Inv X pins σ (upd H (hp.objs.size + 1) (exo (hp.objs.size + 1) C none)) ⟨(hp.push (PySem.W.kdv_tup us)).push (PySem.HandSPX.excO C hp.objs.size), g, dr, tk, os⟩ :=
    I.laid (t' := tk) (a := hp.objs.size + 1) (o := exo (hp.objs.size + 1) C none) (h' := (hp.push (PySem.W.kdv_tup us)).push (PySem.HandSPX.excO C hp.objs.size)) kk hsz (exo_ok hget)
  have r2 : Vals [V.ref (hp.objs.size + 1), v] [Value.ref (hp.objs.size + 1), u] := .cons rfl (.cons rv .nil)
  refine wpAny_call (PySem.HandSPX.call_ownK9 F.excBase_ValueError (fun Y => PySem.HandSPX.refsVE_contains Y bm hbm) (I.kIn _ _ hC) (PySem.W.looks_findIn I.kIn iC) (fun self => PySem.W.bind_fn I.kIn self tI) hus
    (codeAny_mono (F1.run _ X.stack _ _ ⟨Value.ref (hp.objs.size + 1) :: us, kw⟩ [Value.ref (hp.objs.size + 1), u] _ (fun v H2 => v = .non ∧ ∃ (d : Addr) (fs : List (Str × V)), H2 (hp.objs.size + 1) = some (exo (hp.objs.size + 1) C (some d)) ∧ H2 d = some (exd d fs) ∧ H d = none ∧ Q (.ref C) (some d) (upd (del H2 (hp.objs.size + 1)) d (.xd fs))) (fun _ _ _ => False) (hr.make C us kw) (I2.env0.make C us kw) (hb _ _ I2.kIn) r2
      ⟨_, C, v, rfl, T, hno, upd_same, fun dx hdx hne => ⟨rfl, dx, [(f, v)], upd_same, by rw [upd_ne hne, upd_same], by rw [upd_ne hne] at hdx; exact hdx, ?_⟩⟩) fun r s' hq' => ?_))
  · have hdx' : H dx = none := by rw [upd_ne hne] at hdx; exact hdx
    have e : upd (del (upd (upd (upd H (hp.objs.size + 1) (exo (hp.objs.size + 1) C none)) dx (exd dx [(f, v)])) (hp.objs.size + 1) (exo (hp.objs.size + 1) C (some dx))) (hp.objs.size + 1)) dx (.xd [(f, v)]) = upd H dx (.xd [(f, v)]) := by
      funext b
      by_cases h1 : b = dx
      · rw [h1, upd_same, upd_same]
      · rw [upd_ne h1, upd_ne h1]
        by_cases h2 : b = hp.objs.size + 1
        · rw [h2, del_same, hn]
        · rw [del_ne h2, upd_ne h2, upd_ne h1, upd_ne h2]
    rw [e]
    exact q dx hdx'
  cases r with
  | error er => exact hx pins σ _ _ er s' I2 hq'
  | ok fl =>
    cases fl with
    | ret u =>
      obtain ⟨v, H2, os2, bare2, un2, hok2, rv, ev, d, fs, ea, ed, hd1, q2⟩ := hq'
      subst ev
      obtain ⟨h2, g2, d2, t2, os'⟩ := s'
      exact ⟨rv, mk_end (raises_own T.exC T.tyC) I hsz kk un2 hok2 os2 bare2 ea ed hd1 q2⟩
    | next => exact False.elim hq'
    | brk => exact False.elim hq'
    | cont => exact False.elim hq'
/-- C(f = e) -/
theorem pmk_oexK9 {CX : CXT} {C fI : Addr} {k : Nat} {fd : FuncData} {x f : Str} {e : Expr} {te : TE} {p pos kp : Pos} (T : OexC X.K C) (iC : PySem.W.findIn X.K (.ref C) "__init__" = some (some (.ref fI)))
    (tI : PySem.W.typeIn X.K (.ref fI) = some (.type "function")) (hno : PySem.W.findIn X.K (.ref C) f = some none) (F1 : FnOk X.prog X.w X.K X.mg X.base CX k fI fd ["self", f] (spIni9 X.K f)) (hr : Room (k + 1) X.A) (hx : Passes CX X (fun _ _ _ => False))
    (hb : ∀ (s : Shared) (e : Addr) (u : Value), X.K.In s.heap → BindsTo s fd ⟨[.ref e], [(f, u)]⟩ [("self", .ref e), (f, u)]) (hg : Gl X x) (hm : X.mg x = some (.ref C)) (he : PE X e te) (hdb : (x == ("__debug__" : Str)) = false := by decide) :
    PMk X (.Call (.Name x p) [] [⟨some f, e, kp⟩] pos) (fun σ H Q => te σ H fun v H1 => ∀ d, H1 d = none → Q (.ref C) (some d) (upd H1 d (.xd [(f, v)]))) := by
  intro pins s σ H Q I h
  refine wpAny_Call_Name_kw (ld_glob I hg hm ?_ hdb)
  refine PySem.W.callWith_KW0 (h₀ := X.base) I.ok.mod.kin T.kC (by rfl) (thn ((pk_cons (nm := some f) (kpos := kp) he pk_nil).run pos pins s σ H (fun vs H1 => match vs with | [v] => ∀ d, H1 d = none → Q (.ref C) (some d) (upd H1 d (.xd [(f, v)])) | _ => False) I h) fun us s1 ⟨vs, H1, I1, r1, q1⟩ => ⟨I1.kIn, ?_⟩) (by rfl)
  match vs, r1, q1 with
  | [v], r1, q1 =>
  obtain ⟨u, rfl, ru⟩ := r1.one
  exact oex_make9 T iC tI hno F1 hr hx I1 (by show 0 ≤ _; omega) (fun s e hk => hb s e u hk) ru q1
end
end L2
namespace Fx
open PySem L2 LamX
/-- a class of the text over ValueError, its __init__ stores its one parameter -/
class IniExc (K : PySem.W.Frag) (mg : Str → Option Value) (x : Str) (C : outParam Addr) (f : outParam Str) : Prop where
  gC : mg x = some (.ref C)
  T : OexC K C
  fld : PySem.W.findIn K (.ref C) f = some none
  ini : ∃ (fI : Addr) (fd : FuncData), PySem.W.findIn K (.ref C) "__init__" = some (some (.ref fI)) ∧ PySem.W.typeIn K (.ref fI) = some (.type "function") ∧
    (∀ (s : Shared) (e : Addr) (u : Value), K.In s.heap → BindsTo s fd ⟨[.ref e], [(f, u)]⟩ [("self", .ref e), (f, u)]) ∧
    (∀ (s : Shared) (e : Addr) (u : Value), K.In s.heap → BindsTo s fd ⟨[.ref e, u], []⟩ [("self", .ref e), (f, u)]) ∧
    ∀ (P : Program) (w : World) (base : Heap) (k : Nat), FnOk P w K mg base (L2.CX P w) (k + 1) fI fd ["self", f] (spIni9 K f)
section
variable {c : SC} {δ : Dl} {M : List MO} {Post : AQ} {X : XP} {D : AE} {a b e t : Expr} {es : List Expr} {pos p p1 p2 pos' kp : Pos} {x f : Str} {k : Nat} {st : Stmt} {ps : List Str}
theorem xd_out {K : PySem.W.Frag} {ad ad1 : List Addr} {H H1 : Hp} {M1 : List MO} {X : XP} {W : XK} {C dx : Addr} {f : Str} {v : V} {d : Fx.D} (qx : XOut K ad H X W) (n : Nx ad H ad1 H1) (s : StOk K ad1 H1 M1) (r : Rep K H1 d v) (hd : H1 dx = none) (h : X C [(f, d)] M1) : W (.ref C) (some dx) (upd H1 dx (.xd [(f, v)])) := by
  have sm := same_new (o := .xd [(f, v)]) hd
  refine qx C (some dx) [(f, d)] _ ad1 M1 (n.trans (Nx.same sm)) (s.same sm) ⟨s.free hd, [(f, v)], upd_same, fun f' d' hl => ?_⟩ h
  rw [List.lookup_cons] at hl ⊢
  by_cases hff : (f' == f) = true
  · rw [hff] at hl ⊢
    cases hl
    exact ⟨v, rfl, (show RepA K ad1 (upd H1 dx (.xd [(f, v)])) (.dat d) v from (show RepA K ad1 H1 (.dat d) v from r).nx (Nx.same sm))⟩
  · rw [Bool.eq_false_iff.mpr hff] at hl
    cases hl
/-- raise X(f = e) -/
theorem rx_raiseK {C : Addr} (T : IniExc c.K c.mg x C f) (hk : 2 ≤ c.k) (hg : c.gl x) (h : EvX c δ M e fun a M1 => ∃ d, a = .dat d ∧ X C [(f, d)] M1) (hdb : (x == ("__debug__" : Str)) = false := by decide) : RunX c δ M [.Raise (some (.Call (.Name x p) [] [⟨some f, e, kp⟩] pos)) none pos'] D X := fun y W tk σ H ad he hs E q qx => by
  obtain ⟨fI, fd, i1, i2, i3, i4, i5⟩ := T.ini
  refine ⟨_, pss_one (ps_raise rfl tk (pmk_oexK9 (X := y.cx) (k := 1) T.T i1 i2 T.fld (i5 _ _ _ 0) (y.room.mono hk) (passes_call tk fun _ _ _ _ h => h.elim) i3 (glS y hg) T.gC wE_ok hdb)), h y σ H ad he hs _ fun v H1 ad1 a1 M1 n1 s1 r1 ⟨d, e1, p1⟩ dx hdx => ?_⟩
  subst e1
  exact xd_out qx n1 s1 r1 hdx p1
/-- a def that may raise, called with keywords alone, in the order o of the parameters -/
theorem e_callKX0 {A : ASpX} {kws : List Keyword} {n : Nat} (ks : List Str) (o : {α : Type} → List α → List α) (F : DefOkX c.P c.w c.K c.mg c.base k x st ps (spOfX c.K ps.length A)) (hk : k ≤ c.k) (hg : c.gl x)
    (hB : ∀ (kV doc pm : Value) (an : Option Addr) (cdv ct : Value) (ws : List Value), ws.length = n → bindArgs (PySem.W.fnOf x x (defArgs st) (defBody st) (defScope st) .none kV doc pm an cdv ct) ⟨[], ks.zip ws⟩ = pure (ps.zip (o ws)))
    (hol : ∀ {α : Type} (l : List α), l.length = n → (o l).length = ps.length) (hor : ∀ {vs : List V} {us : List Value}, Vals vs us → us.length = n → Vals (o vs) (o us)) (hoA : ∀ {ad : List Addr} {H : Hp} {as : List AV} {vs : List V}, RepAs c.K ad H as vs → vs.length = n → RepAs c.K ad H (o as) (o vs))
    (hn0 : 0 < ps.length) (h : EvK c δ M kws fun bs M2 => bs.length = n ∧ A (o bs) M2 Post X)
    (hall : ∀ env, (backToKw pos (keywordEach kws env)).all (·.1.isSome) = true) (hks : ∀ env, (backToKw pos (keywordEach kws env)).filterMap (·.1) = ks)
    (hpl : ∀ env, ((backTo pos (starEach [] env)).any (·.1) || (backToKw pos (keywordEach kws env)).any (·.1.isNone)) = false) (hdb : (x == ("__debug__" : Str)) = false := by decide) : EvRx c δ M (.Call (.Name x p) [] kws pos) Post X := fun y W tk σ H ad he hs Q q qx => by
  obtain ⟨fa, fd, hm, F1, hb, ok⟩ := F.ex
  have kb : KBinds c.K fd ps ks (fun us ws => if us.length = 0 ∧ ws.length = n then o ws else []) (fun us ws => if us.length = 0 ∧ ws.length = n then o ws else []) := by
    obtain ⟨oc, od, kV, doc, pm, an, cdv, ct, osl, rfl, lk, hcd⟩ := F1.ex
    refine ⟨fun s us ws _ hl => ?_, fun {vs us zs ws} r1 r2 => ?_⟩
    · by_cases hc : us.length = 0 ∧ ws.length = n
      · rw [if_pos hc]
        have eu : us = [] := List.eq_nil_of_length_eq_zero hc.1
        subst eu
        exact .of_eq (hB kV doc pm an cdv ct ws hc.2)
      · rw [if_neg hc] at hl
        have : ([] : List Value).length = 0 := rfl
        omega
    · rw [r1.length, r2.length]
      by_cases hc : us.length = 0 ∧ ws.length = n
      · rw [if_pos hc, if_pos hc]
        exact hor r2 hc.2
      · rw [if_neg hc, if_neg hc]
        exact .nil
  refine ⟨_, pe_callK00 (X := y.cx) (E := W) (ks := ks) ok (y.room.mono hk) (glS y hg) hm F1.kp kb (passes_call tk fun _ _ _ _ h => h) wK_ok (hall y.env) (hks y.env) hdb (hpl y.env), h y σ H ad he hs _ fun us H2 ad2 bs M2 n2 s2 r2 ⟨l2, hA⟩ => ?_⟩
  have e1 : us.length = n := by rw [repAs_length r2]; exact l2
  show spOfX c.K ps.length A (if ([] : List V).length = 0 ∧ us.length = n then o us else []) H2 Q W
  rw [if_pos ⟨rfl, e1⟩]
  exact ⟨hol _ e1, ad2, o bs, M2, Post, X, s2, hoA r2 e1, hA, fun v H3 ad3 a3 M3 n3 s3 r3 p3 => q v H3 ad3 a3 M3 (n2.trans n3) s3 r3 p3, qx.on n2⟩
/-- two of them, the other way round -/
def swp {α : Type} : List α → List α
  | [a, b] => [b, a]
  | _ => []
theorem swp_len {α : Type} : ∀ l : List α, l.length = 2 → (swp l).length = 2
  | [_, _], _ => rfl
theorem swp_vals {vs : List V} {us : List Value} (r : Vals vs us) (h : us.length = 2) : Vals (swp vs) (swp us) := by
  match us, h, vs, r with
  | [_, _], _, [_, _], .cons r1 (.cons r2 .nil) => exact .cons r2 (.cons r1 .nil)
theorem swp_reps {K : PySem.W.Frag} {ad : List Addr} {H : Hp} {as : List AV} {vs : List V} (r : RepAs K ad H as vs) (h : vs.length = 2) : RepAs K ad H (swp as) (swp vs) := by
  have h2 := repAs_length r
  rw [h] at h2
  match vs, h, as, h2, r with
  | [_, _], _, [_, _], _, r =>
    obtain ⟨v1, r1, e1, h1, v2, r2, e2, h2, e3⟩ := r
    cases e1
    cases e2
    exact ⟨_, _, rfl, h2, _, _, rfl, h1, rfl⟩
end
end Fx

/-! Fx, part Ob: objects of the program's own classes. -/
namespace L2
open PySem
/-- o.m(e, .., k = v, ..) -/
theorem pe_methK9 {X : Cx} {CX : CXT} {k : Nat} {f C : Addr} {fd : FuncData} {ps ks : List Str} {sp : Sp} {m : Str} {pos apos : Pos} {e o : Expr} {es : List Expr} {kws : List Keyword} {g : List Value → List Value → List Value} {gV : List V → List V → List V} {E : XK} {ta : TE} {t tk : TA} {pl : Sem Bool}
    (he : PE X o ta) (c : Cls X.K C) (hm : Meth X.K C m f) (F : FnOk X.prog X.w X.K X.mg X.base CX k f fd ps sp) (hr : Room k X.A) (hb : KBinds X.K fd ps ks g gV) (hx : Passes CX X E) (ha : PA X (e :: es) t) (hkw : PK X kws tk)
    (hall : (backToKw pos (keywordEach kws X.env)).all (·.1.isSome) = true) (hks : (backToKw pos (keywordEach kws X.env)).filterMap (·.1) = ks)
    (hst : starEach (e :: es) X.env = (false, eval e X.env) :: starEach es X.env) (hpl : ((backTo pos (starEach (e :: es) X.env)).any (·.1) || (backToKw pos (keywordEach kws X.env)).any (·.1.isNone)) = false)
    (ht : eval (.Call (.Attribute o m apos) (e :: es) kws pos) X.env = (do
      let ov ← eval o X.env
      standAt apos.atName
      let (f, first) ← holding [ov] (getMethod ov m pl)
      callWith pos f first (backTo pos (starEach (e :: es) X.env)) (backToKw pos (keywordEach kws X.env)))) :
    PE X (.Call (.Attribute o m apos) (e :: es) kws pos) (fun σ H Q => ta σ H fun x H1 => ∃ a dx fs, x = .ref a ∧ H1 a = some (.ins C dx fs) ∧ fs.lookup m = none ∧ t σ H1 fun vs H2 => tk σ H2 fun zs H3 => sp (gV (x :: vs) zs) H3 Q E) := by
  refine ⟨fun pins s σ H Q I h => ?_⟩
  refine PySem.W.methodCall_KW (pl := pl) (thn (he.run pins s σ H _ I h) fun u s1 ⟨x, H1, I1, rx, a, dx, fs, ex, ea, l, q⟩ => ?_) ht
  subst ex
  obtain rfl : u = Value.ref a := rx
  refine getmeth_ok I1 ea c hm l ?_
  refine PySem.W.callWith_KW (first := [.ref a]) (h₀ := X.base) I.ok.mod.kin hm.kp hall (thn (ha.run pos pins s1 σ H1 _ I1 q) fun us s2 ⟨vs, H2, I2, r, q2⟩ => ?_) hpl hst
  refine thn (hkw.run pos pins s2 σ H2 _ I2 q2) fun ws s3 ⟨zs, H3, I3, rz, q3⟩ => ⟨I3.kIn, ?_⟩
  rw [hks]
  exact run_fnk (us := .ref a :: us) (vs := .ref a :: vs) F hr hb hx I3 (.cons rfl r) rz q3
/-- o.m(k = v, ..) -/
theorem pe_methK09 {X : Cx} {CX : CXT} {k : Nat} {f C : Addr} {fd : FuncData} {ps ks : List Str} {sp : Sp} {m : Str} {pos apos : Pos} {o : Expr} {kws : List Keyword} {g : List Value → List Value → List Value} {gV : List V → List V → List V} {E : XK} {ta : TE} {tk : TA} {pl : Sem Bool}
    (he : PE X o ta) (c : Cls X.K C) (hm : Meth X.K C m f) (F : FnOk X.prog X.w X.K X.mg X.base CX k f fd ps sp) (hr : Room k X.A) (hb : KBinds X.K fd ps ks g gV) (hx : Passes CX X E) (hkw : PK X kws tk)
    (hall : (backToKw pos (keywordEach kws X.env)).all (·.1.isSome) = true) (hks : (backToKw pos (keywordEach kws X.env)).filterMap (·.1) = ks)
    (hpl : ((backTo pos (starEach [] X.env)).any (·.1) || (backToKw pos (keywordEach kws X.env)).any (·.1.isNone)) = false)
    (ht : eval (.Call (.Attribute o m apos) [] kws pos) X.env = (do
      let ov ← eval o X.env
      standAt apos.atName
      let (f, first) ← holding [ov] (getMethod ov m pl)
      callWith pos f first (backTo pos (starEach [] X.env)) (backToKw pos (keywordEach kws X.env)))) :
    PE X (.Call (.Attribute o m apos) [] kws pos) (fun σ H Q => ta σ H fun x H1 => ∃ a dx fs, x = .ref a ∧ H1 a = some (.ins C dx fs) ∧ fs.lookup m = none ∧ tk σ H1 fun zs H3 => sp (gV [x] zs) H3 Q E) := by
  refine ⟨fun pins s σ H Q I h => ?_⟩
  refine PySem.W.methodCall_KW (pl := pl) (thn (he.run pins s σ H _ I h) fun u s1 ⟨x, H1, I1, rx, a, dx, fs, ex, ea, l, q⟩ => ?_) ht
  subst ex
  obtain rfl : u = Value.ref a := rx
  refine getmeth_ok I1 ea c hm l ?_
  refine PySem.W.callWith_KW0 (first := [.ref a]) (h₀ := X.base) I.ok.mod.kin hm.kp hall ?_ hpl
  refine thn (hkw.run pos pins s1 σ H1 _ I1 q) fun ws s3 ⟨zs, H3, I3, rz, q3⟩ => ⟨I3.kIn, ?_⟩
  rw [hks]
  exact run_fnk (us := [.ref a]) (vs := [.ref a]) F hr hb hx I3 (.cons rfl .nil) rz q3
end L2
namespace Fx
open PySem L2
/-- a method that keeps its promise; it may raise -/
structure MetOk (P : Program) (w : World) (K : PySem.W.Frag) (mg : Str → Option Value) (base : Heap) (CX : CXT) (k : Nat) (C : Addr) (m ql : Str) (st : Stmt) (ps : List Str) (sp : Sp) : Prop where
  ex : ∃ fa fd, Cls K C ∧ Meth K C m fa ∧ Fun K m ql st fa fd ∧ Binds K fd ps [] ∧ FnOk P w K mg base CX k fa fd ps sp
def putA (f : Str) (v : AV) : List (Str × AV) → List (Str × AV)
  | [] => [(f, v)]
  | (g, x) :: r => if g = f then (g, v) :: r else (g, x) :: putA f v r
section
variable {K : PySem.W.Frag} {ad : List Addr} {H : Hp}
theorem repF_A : ∀ {a : AV} {v : V}, RepF K ad H a v → RepA K ad H a v
  | .dat _, _, h => h
  | .mut _, _, h => h
  | .ls _, _, h => h.elim
  | .la _, _, h => h.elim
  | .ta _, _, h => h.elim
  | .scr _, _, h => h.elim
  | .tx _, _, h => h.elim
  | .exc _ _, _, h => h.elim
  | .fn _, _, h => h.elim
def isF : AV → Bool
  | .dat _ => true
  | .mut _ => true
  | _ => false
theorem repA_F : ∀ {a : AV} {v : V}, isF a = true → RepA K ad H a v → RepF K ad H a v
  | .dat _, _, _, h => h
  | .mut _, _, _, h => h
  | .ls _, _, z, _ => by cases z
  | .la _, _, z, _ => by cases z
  | .ta _, _, z, _ => by cases z
  | .scr _, _, z, _ => by cases z
  | .tx _, _, z, _ => by cases z
  | .exc _ _, _, z, _ => by cases z
  | .fn _, _, z, _ => by cases z
theorem repFs_lookup {f : Str} {a : AV} : ∀ {fs : List (Str × AV)} {xs : List (Str × V)}, RepFs K ad H fs xs → fs.lookup f = some a → ∃ v, xs.lookup f = some v ∧ RepA K ad H a v
  | [], _, _, h => by cases h
  | (g, b) :: fs, _, ⟨v, r, e, h1, h2⟩, h => by
    subst e
    rw [List.lookup_cons] at h ⊢
    cases hg : f == g with
    | true =>
      rw [hg] at h
      cases h
      exact ⟨v, rfl, repF_A h1⟩
    | false =>
      rw [hg] at h
      exact repFs_lookup h2 h
theorem repFs_none {f : Str} : ∀ {fs : List (Str × AV)} {xs : List (Str × V)}, RepFs K ad H fs xs → fs.lookup f = none → xs.lookup f = none
  | [], _, h, _ => by rw [show _ = [] from h]; rfl
  | (g, b) :: fs, _, ⟨v, r, e, h1, h2⟩, h => by
    subst e
    rw [List.lookup_cons] at h ⊢
    cases hg : f == g with
    | true => rw [hg] at h; cases h
    | false =>
      rw [hg] at h
      exact repFs_none h2 h
theorem repFs_len : ∀ {fs : List (Str × AV)} {xs : List (Str × V)}, RepFs K ad H fs xs → xs.length = fs.length
  | [], _, h => by rw [show _ = [] from h]; rfl
  | _ :: _, _, ⟨v, r, e, h1, h2⟩ => by rw [e, List.length_cons, List.length_cons, repFs_len h2]
theorem repFs_put {f : Str} {a : AV} {v : V} (q : RepF K ad H a v) : ∀ {fs : List (Str × AV)} {xs : List (Str × V)}, RepFs K ad H fs xs → RepFs K ad H (putA f a fs) (putF f v xs)
  | [], _, h => by rw [show _ = [] from h]; exact ⟨v, [], rfl, q, rfl⟩
  | (g, b) :: fs, _, ⟨u, r, e, h1, h2⟩ => by
    subst e
    unfold putA putF
    by_cases hg : g = f
    · rw [if_pos hg, if_pos hg]
      exact ⟨v, r, rfl, q, h2⟩
    · rw [if_neg hg, if_neg hg]
      exact ⟨u, _, rfl, h1, repFs_put q h2⟩
end
section
variable {c : SC} {δ : Dl} {M : List MO} {Post : AQ} {X : XP} {D : AE} {e o : Expr} {es : List Expr} {kws : List Keyword} {pos p apos pos' : Pos} {x m f ql : Str} {k : Nat} {st : Stmt} {sts : List Stmt} {ps : List Str} {C : Addr}
theorem st_ins {K : PySem.W.Frag} {ad : List Addr} {H : Hp} {j : Nat} {fs : List (Str × AV)} {v : V} (S : StOk K ad H M) (r : RepA K ad H (.mut j) v) (hm : M[j]? = some (.ins C fs)) : ∃ q dx xs, v = .ref q ∧ ad[j]? = some q ∧ H q = some (.ins C dx xs) ∧ RepFs K ad H fs xs := by
  obtain ⟨q, hq, e⟩ := r
  obtain ⟨q2, hq2, dx, xs, h1, h2⟩ := S.obj j _ hm
  rw [hq] at hq2
  cases hq2
  exact ⟨q, dx, xs, e, hq, h1, h2⟩
/-- o.f -/
theorem x_fld (h : EvX c δ M o fun v M1 => ∃ j C fs a, v = .mut j ∧ M1[j]? = some (.ins C fs) ∧ Cls c.K C ∧ NoAttr c.K C f ∧ fs.lookup f = some a ∧ Post a M1) (hb : ∀ env, attributeBase o f env (eval o env) = eval o env) : EvX c δ M (.Attribute o f pos) Post := fun y σ H ad he hs Q q =>
  ⟨_, pe_fld (X := y.cx) wE_ok (hb y.env), h y σ H ad he hs _ fun v H1 ad1 x M1 n1 s1 r1 ⟨j, C, fs, a, ex, hm, hc, hn, hl, p1⟩ => by
    subst ex
    obtain ⟨pp, dx, xs, rfl, hp, hH, hfs⟩ := st_ins s1 r1 hm
    obtain ⟨u, hv, rv⟩ := repFs_lookup hfs hl
    exact ⟨pp, C, dx, xs, u, rfl, hH, hc, hn, hv, q u H1 ad1 a M1 n1 s1 rv p1⟩⟩
/-- o.f = e -/
theorem s_fld (h : EvX c δ M e fun w M1 => EvX c δ M1 o fun v M2 => ∃ j C fs, v = .mut j ∧ M2[j]? = some (.ins C fs) ∧ Cls c.K C ∧ NoAttr c.K C f ∧ fs.length < 1000 ∧ isF w = true ∧ D.nx δ (M2.set j (.ins C (putA f w fs))))
    (hs1 : ∀ env, swapsWith e (some (.Attribute o f p)) pos.line env = pure false) : Run1 c δ M (.Assign [.Attribute o f p] e pos) D := fun y σ H ad he hs E q =>
  ⟨_, ps_fld (X := y.cx) wE_ok wE_ok (hs1 y.env), h y σ H ad he hs _ fun u H1 ad1 w M1 n1 s1 r1 p1 => p1 y σ H1 ad1 (he.nx n1) s1 _ fun v H2 ad2 z M2 n2 s2 r2 ⟨j, C, fs, ex, hm, hc, hn, hl, hw, p2⟩ => by
    subst ex
    obtain ⟨pp, dx, xs, rfl, hp, hH, hfs⟩ := st_ins s2 r2 hm
    refine ⟨pp, C, dx, xs, rfl, hH, hc, hn, by rw [repFs_len hfs]; exact hl, ?_⟩
    have rw1 := repA_F hw (r1.nx n2)
    have t : Tx H2 (upd H2 pp (.ins C dx (putF f u xs))) := ⟨fun b ys z => by
      rw [upd_ne (fun zz => by subst zz; rw [hH] at z; cases z)]; exact z, fun b a1 a2 z => by
      rw [upd_ne (fun zz => by subst zz; rw [hH] at z; cases z)]; exact z, fun b a1 z => by
      rw [upd_ne (fun zz => by subst zz; rw [hH] at z; cases z)]; exact z⟩
    obtain ⟨s3, n3⟩ := s2.put (m := .ins C (putA f w fs)) (o := .ins C dx (putF f u xs)) hp ⟨dx, _, upd_same, RepFs.nx' (fun _ _ z => z) t (repFs_put rw1 hfs)⟩
    have n := (n1.trans n2).trans n3
    exact q.nx σ _ ad2 δ _ n (he.nx n) s3 p2⟩
/-- o.m(e, ..): a method that does not raise -/
theorem x_met {A : ASp} {pl : Env → Sem Bool} (F : MetOk c.P c.w c.K c.mg c.base CX0 k C m ql st ps (spOf c.K ps.length A)) (hk : k ≤ c.k)
    (h : EvX c δ M o fun v M1 => ∃ j fs, v = .mut j ∧ M1[j]? = some (.ins C fs) ∧ fs.lookup m = none ∧ EvA c δ M1 (e :: es) fun as M2 => as.length + 1 = ps.length ∧ A (.mut j :: as) M2 Post)
    (hst : ∀ env, starEach (e :: es) env = (false, eval e env) :: starEach es env) (hpl : ∀ env, (backTo pos (starEach es env)).any (·.1) = false)
    (ht : ∀ env, eval (.Call (.Attribute o m apos) (e :: es) [] pos) env = (do
      let ov ← eval o env
      standAt apos.atName
      let (f, first) ← holding [ov] (getMethod ov m (pl env))
      callWith pos f first (backTo pos (starEach (e :: es) env)) (backToKw pos (keywordEach [] env)))) : EvX c δ M (.Call (.Attribute o m apos) (e :: es) [] pos) Post := fun y σ H ad he hs Q q => by
  obtain ⟨fa, fd, hc, hm, F1, hb, ok⟩ := F.ex
  refine ⟨_, pe_meth (X := y.cx) (pl := pl y.env) wE_ok hc hm ok (y.room.mono hk) hb .nil pass0 wA_ok (hst y.env) (hpl y.env) (ht y.env), h y σ H ad he hs _ fun v H1 ad1 x M1 n1 s1 r1 ⟨j, fs, ex, hj, hl, p1⟩ => ?_⟩
  subst ex
  obtain ⟨pp, dx, xs, rfl, hp, hH, hfs⟩ := st_ins s1 r1 hj
  refine ⟨pp, dx, xs, rfl, hH, repFs_none hfs hl, p1 y σ H1 ad1 (he.nx n1) s1 _ fun vs H2 ad2 as M2 n2 s2 r2 ⟨hl2, hA⟩ => ?_⟩
  rw [List.append_nil]
  exact ⟨by rw [List.length_cons, repAs_length r2]; exact hl2, ad2, .mut j :: as, M2, Post, s2, ⟨_, _, rfl, ⟨pp, n2.get hp, rfl⟩, r2⟩, hA, fun v H3 ad3 a3 M3 n3 s3 r3 p3 => q v H3 ad3 a3 M3 ((n1.trans n2).trans n3) s3 r3 p3⟩
theorem x_met0 {A : ASp} {pl : Env → Sem Bool} (F : MetOk c.P c.w c.K c.mg c.base CX0 k C m ql st ["self"] (spOf c.K 1 A)) (hk : k ≤ c.k)
    (h : EvX c δ M o fun v M1 => ∃ j fs, v = .mut j ∧ M1[j]? = some (.ins C fs) ∧ fs.lookup m = none ∧ A [.mut j] M1 Post)
    (ht : ∀ env, eval (.Call (.Attribute o m apos) [] [] pos) env = (do
      let ov ← eval o env
      standAt apos.atName
      let (f, first) ← holding [ov] (getMethod ov m (pl env))
      callWith pos f first (backTo pos (starEach [] env)) (backToKw pos (keywordEach [] env)))) : EvX c δ M (.Call (.Attribute o m apos) [] [] pos) Post := fun y σ H ad he hs Q q => by
  obtain ⟨fa, fd, hc, hm, F1, hb, ok⟩ := F.ex
  refine ⟨_, pe_meth0 (X := y.cx) (pl := pl y.env) wE_ok hc hm ok (y.room.mono hk) hb .nil pass0 (ht y.env), h y σ H ad he hs _ fun v H1 ad1 x M1 n1 s1 r1 ⟨j, fs, ex, hj, hl, hA⟩ => ?_⟩
  subst ex
  obtain ⟨pp, dx, xs, rfl, hp, hH, hfs⟩ := st_ins s1 r1 hj
  refine ⟨pp, dx, xs, rfl, hH, repFs_none hfs hl, ?_⟩
  exact ⟨rfl, ad1, [.mut j], M1, Post, s1, ⟨_, _, rfl, ⟨pp, hp, rfl⟩, rfl⟩, hA, fun v H3 ad3 a3 M3 n3 s3 r3 p3 => q v H3 ad3 a3 M3 (n1.trans n3) s3 r3 p3⟩
/-- o.m(k = v, ..): a method that does not raise -/
theorem x_metK0 {A : ASp} {n : Nat} {pl : Env → Sem Bool} (ks : List Str) (F : MetOk c.P c.w c.K c.mg c.base CX0 k C m ql st ps (spOf c.K ps.length A)) (hk : k ≤ c.k)
    (hB : ∀ (kV doc pm : Value) (an : Option Addr) (cdv ct : Value) (us ws : List Value), us.length = 1 → ws.length = n → bindArgs (PySem.W.fnOf m ql (defArgs st) (defBody st) (defScope st) .none kV doc pm an cdv ct) ⟨us, ks.zip ws⟩ = pure (ps.zip (us ++ ws)))
    (hmn : ps.length = 1 + n)
    (h : EvX c δ M o fun v M1 => ∃ j fs, v = .mut j ∧ M1[j]? = some (.ins C fs) ∧ fs.lookup m = none ∧ EvK c δ M1 kws fun bs M3 => bs.length = n ∧ A (.mut j :: bs) M3 Post)
    (hall : ∀ env, (backToKw pos (keywordEach kws env)).all (·.1.isSome) = true) (hks : ∀ env, (backToKw pos (keywordEach kws env)).filterMap (·.1) = ks)
    (hpl : ∀ env, ((backTo pos (starEach [] env)).any (·.1) || (backToKw pos (keywordEach kws env)).any (·.1.isNone)) = false)
    (ht : ∀ env, eval (.Call (.Attribute o m apos) [] kws pos) env = (do
      let ov ← eval o env
      standAt apos.atName
      let (f, first) ← holding [ov] (getMethod ov m (pl env))
      callWith pos f first (backTo pos (starEach [] env)) (backToKw pos (keywordEach kws env)))) : EvX c δ M (.Call (.Attribute o m apos) [] kws pos) Post := fun y σ H ad he hs Q q => by
  obtain ⟨fa, fd, hc, hm, F1, hb, ok⟩ := F.ex
  have kb : KBinds c.K fd ps ks (ordK 1 n) (ordK 1 n) := by
    obtain ⟨oc, od, kV, doc, pm, an, cdv, ct, osl, rfl, lk, hcd⟩ := F1.ex
    refine ⟨fun s us ws _ hl => ?_, fun {vs us zs ws} r1 r2 => ?_⟩
    · unfold ordK at hl ⊢
      by_cases hc : us.length = 1 ∧ ws.length = n
      · rw [if_pos hc]
        exact .of_eq (hB kV doc pm an cdv ct us ws hc.1 hc.2)
      · rw [if_neg hc] at hl
        rw [hmn] at hl
        exact absurd hl (by show ¬ (0 = 1 + n); omega)
    · unfold ordK
      rw [r1.length, r2.length]
      split
      · exact vals_append r1 r2
      · exact .nil
  refine ⟨_, pe_methK09 (X := y.cx) (pl := pl y.env) wE_ok hc hm ok (y.room.mono hk) kb pass0 wK_ok (hall y.env) (hks y.env) (hpl y.env) (ht y.env), h y σ H ad he hs _ fun v H1 ad1 x M1 n1 s1 r1 ⟨j, fs, ex, hj, hl, p1⟩ => ?_⟩
  subst ex
  obtain ⟨pp, dx, xs, rfl, hp, hH, hfs⟩ := st_ins s1 r1 hj
  refine ⟨pp, dx, xs, rfl, hH, repFs_none hfs hl, p1 y σ H1 ad1 (he.nx n1) s1 _ fun us H3 ad3 bs M3 n3 s3 r3 ⟨hl2, hA⟩ => ?_⟩
  have e2 : us.length = n := by rw [repAs_length r3]; exact hl2
  show spOf c.K ps.length A (ordK 1 n [V.ref pp] us) H3 Q _
  unfold ordK
  rw [if_pos ⟨rfl, e2⟩]
  exact ⟨by rw [List.length_append, e2]; exact hmn.symm, ad3, .mut j :: bs, M3, Post, s3, ⟨_, _, rfl, ⟨pp, n3.get hp, rfl⟩, r3⟩, hA, fun v H4 ad4 a4 M4 n4 s4 r4 p4 => q v H4 ad4 a4 M4 ((n1.trans n3).trans n4) s4 r4 p4⟩
/-- o.m(e, ..): a method that may raise -/
theorem e_met {A : ASpX} {pl : Env → Sem Bool} (F : MetOk c.P c.w c.K c.mg c.base (L2.CX c.P c.w) k C m ql st ps (spOfX c.K ps.length A)) (hk : k ≤ c.k)
    (h : EvX c δ M o fun v M1 => ∃ j fs, v = .mut j ∧ M1[j]? = some (.ins C fs) ∧ fs.lookup m = none ∧ EvA c δ M1 (e :: es) fun as M2 => as.length + 1 = ps.length ∧ A (.mut j :: as) M2 Post X)
    (hst : ∀ env, starEach (e :: es) env = (false, eval e env) :: starEach es env) (hpl : ∀ env, (backTo pos (starEach es env)).any (·.1) = false)
    (ht : ∀ env, eval (.Call (.Attribute o m apos) (e :: es) [] pos) env = (do
      let ov ← eval o env
      standAt apos.atName
      let (f, first) ← holding [ov] (getMethod ov m (pl env))
      callWith pos f first (backTo pos (starEach (e :: es) env)) (backToKw pos (keywordEach [] env)))) : EvRx c δ M (.Call (.Attribute o m apos) (e :: es) [] pos) Post X := fun y W tk σ H ad he hs Q q qx => by
  obtain ⟨fa, fd, hc, hm, F1, hb, ok⟩ := F.ex
  refine ⟨_, pe_meth (X := y.cx) (E := W) (pl := pl y.env) wE_ok hc hm ok (y.room.mono hk) hb .nil (passes_call tk fun _ _ _ _ h => h) wA_ok (hst y.env) (hpl y.env) (ht y.env), h y σ H ad he hs _ fun v H1 ad1 x M1 n1 s1 r1 ⟨j, fs, ex, hj, hl, p1⟩ => ?_⟩
  subst ex
  obtain ⟨pp, dx, xs, rfl, hp, hH, hfs⟩ := st_ins s1 r1 hj
  refine ⟨pp, dx, xs, rfl, hH, repFs_none hfs hl, p1 y σ H1 ad1 (he.nx n1) s1 _ fun vs H2 ad2 as M2 n2 s2 r2 ⟨hl2, hA⟩ => ?_⟩
  rw [List.append_nil]
  exact ⟨by rw [List.length_cons, repAs_length r2]; exact hl2, ad2, .mut j :: as, M2, Post, X, s2, ⟨_, _, rfl, ⟨pp, n2.get hp, rfl⟩, r2⟩, hA, fun v H3 ad3 a3 M3 n3 s3 r3 p3 => q v H3 ad3 a3 M3 ((n1.trans n2).trans n3) s3 r3 p3, qx.on (n1.trans n2)⟩
theorem e_met0 {A : ASpX} {pl : Env → Sem Bool} (F : MetOk c.P c.w c.K c.mg c.base (L2.CX c.P c.w) k C m ql st ["self"] (spOfX c.K 1 A)) (hk : k ≤ c.k)
    (h : EvX c δ M o fun v M1 => ∃ j fs, v = .mut j ∧ M1[j]? = some (.ins C fs) ∧ fs.lookup m = none ∧ A [.mut j] M1 Post X)
    (ht : ∀ env, eval (.Call (.Attribute o m apos) [] [] pos) env = (do
      let ov ← eval o env
      standAt apos.atName
      let (f, first) ← holding [ov] (getMethod ov m (pl env))
      callWith pos f first (backTo pos (starEach [] env)) (backToKw pos (keywordEach [] env)))) : EvRx c δ M (.Call (.Attribute o m apos) [] [] pos) Post X := fun y W tk σ H ad he hs Q q qx => by
  obtain ⟨fa, fd, hc, hm, F1, hb, ok⟩ := F.ex
  refine ⟨_, pe_meth0 (X := y.cx) (E := W) (pl := pl y.env) wE_ok hc hm ok (y.room.mono hk) hb .nil (passes_call tk fun _ _ _ _ h => h) (ht y.env), h y σ H ad he hs _ fun v H1 ad1 x M1 n1 s1 r1 ⟨j, fs, ex, hj, hl, hA⟩ => ?_⟩
  subst ex
  obtain ⟨pp, dx, xs, rfl, hp, hH, hfs⟩ := st_ins s1 r1 hj
  refine ⟨pp, dx, xs, rfl, hH, repFs_none hfs hl, ?_⟩
  exact ⟨rfl, ad1, [.mut j], M1, Post, X, s1, ⟨_, _, rfl, ⟨pp, hp, rfl⟩, rfl⟩, hA, fun v H3 ad3 a3 M3 n3 s3 r3 p3 => q v H3 ad3 a3 M3 (n1.trans n3) s3 r3 p3, qx.on n1⟩
/-- with keywords -/
theorem e_metK {A : ASpX} {m1 n : Nat} {pl : Env → Sem Bool} (ks : List Str) (F : MetOk c.P c.w c.K c.mg c.base (L2.CX c.P c.w) k C m ql st ps (spOfX c.K ps.length A)) (hk : k ≤ c.k)
    (hB : ∀ (kV doc pm : Value) (an : Option Addr) (cdv ct : Value) (us ws : List Value), us.length = m1 + 1 → ws.length = n → bindArgs (PySem.W.fnOf m ql (defArgs st) (defBody st) (defScope st) .none kV doc pm an cdv ct) ⟨us, ks.zip ws⟩ = pure (ps.zip (us ++ ws)))
    (hmn : ps.length = m1 + 1 + n)
    (h : EvX c δ M o fun v M1 => ∃ j fs, v = .mut j ∧ M1[j]? = some (.ins C fs) ∧ fs.lookup m = none ∧ EvA c δ M1 (e :: es) fun as M2 => EvK c δ M2 kws fun bs M3 => as.length = m1 ∧ bs.length = n ∧ A (.mut j :: (as ++ bs)) M3 Post X)
    (hst : ∀ env, starEach (e :: es) env = (false, eval e env) :: starEach es env) (hall : ∀ env, (backToKw pos (keywordEach kws env)).all (·.1.isSome) = true) (hks : ∀ env, (backToKw pos (keywordEach kws env)).filterMap (·.1) = ks)
    (hpl : ∀ env, ((backTo pos (starEach (e :: es) env)).any (·.1) || (backToKw pos (keywordEach kws env)).any (·.1.isNone)) = false)
    (ht : ∀ env, eval (.Call (.Attribute o m apos) (e :: es) kws pos) env = (do
      let ov ← eval o env
      standAt apos.atName
      let (f, first) ← holding [ov] (getMethod ov m (pl env))
      callWith pos f first (backTo pos (starEach (e :: es) env)) (backToKw pos (keywordEach kws env)))) : EvRx c δ M (.Call (.Attribute o m apos) (e :: es) kws pos) Post X := fun y W tk σ H ad he hs Q q qx => by
  obtain ⟨fa, fd, hc, hm, F1, hb, ok⟩ := F.ex
  have kb : KBinds c.K fd ps ks (ordK (m1 + 1) n) (ordK (m1 + 1) n) := by
    obtain ⟨oc, od, kV, doc, pm, an, cdv, ct, osl, rfl, lk, hcd⟩ := F1.ex
    refine ⟨fun s us ws _ hl => ?_, fun {vs us zs ws} r1 r2 => ?_⟩
    · unfold ordK at hl ⊢
      by_cases hc : us.length = m1 + 1 ∧ ws.length = n
      · rw [if_pos hc]
        exact .of_eq (hB kV doc pm an cdv ct us ws hc.1 hc.2)
      · rw [if_neg hc] at hl
        rw [hmn] at hl
        exact absurd hl (by show ¬ (0 = m1 + 1 + n); omega)
    · unfold ordK
      rw [r1.length, r2.length]
      split
      · exact vals_append r1 r2
      · exact .nil
  refine ⟨_, pe_methK9 (X := y.cx) (E := W) (pl := pl y.env) wE_ok hc hm ok (y.room.mono hk) kb (passes_call tk fun _ _ _ _ h => h) wA_ok wK_ok (hall y.env) (hks y.env) (hst y.env) (hpl y.env) (ht y.env), h y σ H ad he hs _ fun v H1 ad1 x M1 n1 s1 r1 ⟨j, fs, ex, hj, hl, p1⟩ => ?_⟩
  subst ex
  obtain ⟨pp, dx, xs, rfl, hp, hH, hfs⟩ := st_ins s1 r1 hj
  refine ⟨pp, dx, xs, rfl, hH, repFs_none hfs hl, p1 y σ H1 ad1 (he.nx n1) s1 _ fun vs H2 ad2 as M2 n2 s2 r2 p2 => p2 y σ H2 ad2 (he.nx (n1.trans n2)) s2 _ fun us H3 ad3 bs M3 n3 s3 r3 ⟨hl1, hl2, hA⟩ => ?_⟩
  have e1 : (V.ref pp :: vs).length = m1 + 1 := by rw [List.length_cons, repAs_length r2, hl1]
  have e2 : us.length = n := by rw [repAs_length r3]; exact hl2
  show spOfX c.K ps.length A (ordK (m1 + 1) n (V.ref pp :: vs) us) H3 Q W
  unfold ordK
  rw [if_pos ⟨e1, e2⟩]
  exact ⟨by rw [List.length_append, e1, e2]; exact hmn.symm, ad3, .mut j :: (as ++ bs), M3, Post, X, s3, ⟨_, _, rfl, ⟨pp, (n2.trans n3).get hp, rfl⟩, repAs_append (r2.nx n3) r3⟩, hA, fun v H4 ad4 a4 M4 n4 s4 r4 p4 => q v H4 ad4 a4 M4 (((n1.trans n2).trans n3).trans n4) s4 r4 p4, qx.on ((n1.trans n2).trans n3)⟩
theorem e_metK0 {A : ASpX} {n : Nat} {pl : Env → Sem Bool} (ks : List Str) (F : MetOk c.P c.w c.K c.mg c.base (L2.CX c.P c.w) k C m ql st ps (spOfX c.K ps.length A)) (hk : k ≤ c.k)
    (hB : ∀ (kV doc pm : Value) (an : Option Addr) (cdv ct : Value) (us ws : List Value), us.length = 1 → ws.length = n → bindArgs (PySem.W.fnOf m ql (defArgs st) (defBody st) (defScope st) .none kV doc pm an cdv ct) ⟨us, ks.zip ws⟩ = pure (ps.zip (us ++ ws)))
    (hmn : ps.length = 1 + n)
    (h : EvX c δ M o fun v M1 => ∃ j fs, v = .mut j ∧ M1[j]? = some (.ins C fs) ∧ fs.lookup m = none ∧ EvK c δ M1 kws fun bs M3 => bs.length = n ∧ A (.mut j :: bs) M3 Post X)
    (hall : ∀ env, (backToKw pos (keywordEach kws env)).all (·.1.isSome) = true) (hks : ∀ env, (backToKw pos (keywordEach kws env)).filterMap (·.1) = ks)
    (hpl : ∀ env, ((backTo pos (starEach [] env)).any (·.1) || (backToKw pos (keywordEach kws env)).any (·.1.isNone)) = false)
    (ht : ∀ env, eval (.Call (.Attribute o m apos) [] kws pos) env = (do
      let ov ← eval o env
      standAt apos.atName
      let (f, first) ← holding [ov] (getMethod ov m (pl env))
      callWith pos f first (backTo pos (starEach [] env)) (backToKw pos (keywordEach kws env)))) : EvRx c δ M (.Call (.Attribute o m apos) [] kws pos) Post X := fun y W tk σ H ad he hs Q q qx => by
  obtain ⟨fa, fd, hc, hm, F1, hb, ok⟩ := F.ex
  have kb : KBinds c.K fd ps ks (ordK 1 n) (ordK 1 n) := by
    obtain ⟨oc, od, kV, doc, pm, an, cdv, ct, osl, rfl, lk, hcd⟩ := F1.ex
    refine ⟨fun s us ws _ hl => ?_, fun {vs us zs ws} r1 r2 => ?_⟩
    · unfold ordK at hl ⊢
      by_cases hc : us.length = 1 ∧ ws.length = n
      · rw [if_pos hc]
        exact .of_eq (hB kV doc pm an cdv ct us ws hc.1 hc.2)
      · rw [if_neg hc] at hl
        rw [hmn] at hl
        exact absurd hl (by show ¬ (0 = 1 + n); omega)
    · unfold ordK
      rw [r1.length, r2.length]
      split
      · exact vals_append r1 r2
      · exact .nil
  refine ⟨_, pe_methK09 (X := y.cx) (E := W) (pl := pl y.env) wE_ok hc hm ok (y.room.mono hk) kb (passes_call tk fun _ _ _ _ h => h) wK_ok (hall y.env) (hks y.env) (hpl y.env) (ht y.env), h y σ H ad he hs _ fun v H1 ad1 x M1 n1 s1 r1 ⟨j, fs, ex, hj, hl, p1⟩ => ?_⟩
  subst ex
  obtain ⟨pp, dx, xs, rfl, hp, hH, hfs⟩ := st_ins s1 r1 hj
  refine ⟨pp, dx, xs, rfl, hH, repFs_none hfs hl, p1 y σ H1 ad1 (he.nx n1) s1 _ fun us H3 ad3 bs M3 n3 s3 r3 ⟨hl2, hA⟩ => ?_⟩
  have e2 : us.length = n := by rw [repAs_length r3]; exact hl2
  show spOfX c.K ps.length A (ordK 1 n [V.ref pp] us) H3 Q W
  unfold ordK
  rw [if_pos ⟨rfl, e2⟩]
  exact ⟨by rw [List.length_append, e2]; exact hmn.symm, ad3, .mut j :: bs, M3, Post, X, s3, ⟨_, _, rfl, ⟨pp, n3.get hp, rfl⟩, r3⟩, hA, fun v H4 ad4 a4 M4 n4 s4 r4 p4 => q v H4 ad4 a4 M4 ((n1.trans n3).trans n4) s4 r4 p4, qx.on (n1.trans n3)⟩
/-- an expression that may raise, where it does not -/
theorem x_rx (h : EvRx c δ M e Post fun _ _ _ => False) : EvX c δ M e Post := fun y σ H ad he hs Q q => h y (fun _ _ _ => False) L2.takes0 σ H ad he hs Q q fun _ _ _ _ _ _ _ _ _ z => z
/-- x = e, where e may raise -/
theorem rx_st {i : Nat} [hN : VarAt c.N x i] [hk : NamesOk c.N] (hx : Loc c.sc x) (hf : c.fn x = true ∨ c.sc.names.lookup x = some .local) (h : EvRx c δ M e (fun a M1 => RunX c (δ.set i (some a)) M1 sts D X) X)
    (hs1 : ∀ env, swapsWith e (some (.Name x p)) pos.line env = pure false) : RunX c δ M (.Assign [.Name x p] e pos :: sts) D X := fun y W tk σ H ad he hs E q qx =>
  ⟨_, pss_cons (ps_set (X := y.cx) hk.nd hN.get (by show Loc y.env.scope x; rw [y.sc]; exact hx) wE_ok (hs1 y.env) (by show c.fn x = true ∨ y.env.scope.names.lookup x = some .local; rw [y.sc]; exact hf)) wSs_ok,
    h y W tk σ H ad he hs _ (fun v H2 ad2 a M2 n s r pp => pp y W tk _ H2 ad2 ((he.nx n).set r) s E (q.on n) (qx.on n)) qx⟩
/-- e;, where e may raise -/
theorem rx_ret (h : EvX c δ M e D.rt) : RunX c δ M [.Return (some e) pos] D X := rx_run (r_one (s_ret h))
end
/-! ### making -/
section
variable {c : SC} {δ : Dl} {M : List MO} {Post : AQ} {e : Expr} {es : List Expr} {kws : List Keyword} {pos p : Pos} {x : Str} {k : Nat} {st : Stmt} {ps : List Str} {C : Addr}
theorem made_st {K : PySem.W.Frag} {ad : List Addr} {H : Hp} {x dx : Addr} (S : StOk K ad H M) (hx : H x = none) (hdx : H dx = none) (hne : dx ≠ x) :
    StOk K (ad ++ [x]) (upd (upd H dx (.own x)) x (.ins C dx [])) (M ++ [.ins C []]) ∧ Nx ad H (ad ++ [x]) (upd (upd H dx (.own x)) x (.ins C dx [])) := by
  have sm : Same H (upd (upd H dx (.own x)) x (.ins C dx [])) := fun b o e => by
    rw [upd_ne (ne_of_none e hx), upd_ne (ne_of_none e hdx)]
    exact e
  have S1 := S.same sm
  exact ⟨S1.push (m := .ins C []) (S.free hx) ⟨dx, [], upd_same, rfl⟩, push_nx (Nx.same sm) hx (S.free hx)⟩
/-- a def with defaults, by its body -/
theorem fn_mkD {P : Program} {w : World} {K : PySem.W.Frag} {mg : Str → Option Value} {base : Heap} {N : List Str} {fa : Addr} {fd : FuncData} {ql : Str} {dvs : List V} {A : ASp} (F : FunD K x ql (defArgs st) (defBody st) (defScope st) dvs [] fa fd) (S : FnScope N ps (defScope st))
    (h : ∀ as M Post, as.length = ps.length → A as M Post → Run (scOf P w K mg base N st k) (as.map some ++ List.replicate (N.length - as.length) none) M (defBody st) { nx := fun _ M2 => Post (.dat .non) M2, rt := fun _ _ => False }) :
    FnOk P w K mg base CX0 (k + 1) fa fd ps (spOf K ps.length A) := by
  refine F.ok S (fun vs H Q E h => h.1) (fun cdv A' outer s H vs Q E hr hsp => ?_)
  obtain ⟨hl, ad, as, M, Post, hs, hr2, hA, q⟩ := hsp
  let env := PyProof.Rows.envOfC ql (defScope st) s.heap.objs.size fa cdv
  let y : Dyn (scOf P w K mg base N st k) := ⟨A'.deeper env, s, H, env, outer, env :: outer, [], [], fun _ _ => False, rfl, hr, PassesOwn.never, trivial⟩
  exact ⟨wSs y.cx (defBody st), (wSs_ok (X := y.cx)).nox, h as M Post (by rw [← repAs_length hr2]; exact hl) hA y _ H ad (envOk_start hr2) hs _
    ⟨fun _ H2 ad2 _ M2 n _ s2 p => q _ H2 ad2 (.dat .non) M2 n s2 rfl p, fun v H2 ad2 a M2 n s2 r p => p.elim, fun _ _ _ _ _ _ _ _ z => z.elim, fun _ _ _ _ _ _ _ _ z => z.elim⟩⟩
/-- a class that can be made: sp is its __init__ -/
structure MakOk (P : Program) (w : World) (K : PySem.W.Frag) (mg : Str → Option Value) (base : Heap) (k : Nat) (x : Str) (C : Addr) (ps : List Str) (sp : Sp) : Prop where
  ex : ∃ f fd, Mk K C f ∧ FnOk P w K mg base CX0 k f fd ps sp ∧ mg x = some (.ref C) ∧ Binds K fd ps []
theorem x_make {A : ASp} (F : MakOk c.P c.w c.K c.mg c.base k x C ps (spOf c.K ps.length A)) (hk : k + 1 ≤ c.k) (hg : c.gl x)
    (h : EvA c δ M (e :: es) fun as M1 => as.length + 1 = ps.length ∧ A (.mut M1.length :: as) (M1 ++ [.ins C []]) fun r M2 => r = .dat .non ∧ Post (.mut M1.length) M2)
    (hst : ∀ env, starEach (e :: es) env = (false, eval e env) :: starEach es env) (hpl : ∀ env, (backTo pos (starEach es env)).any (·.1) = false) (hdb : (x == ("__debug__" : Str)) = false := by decide) : EvX c δ M (.Call (.Name x p) (e :: es) [] pos) Post := fun y σ H ad he hs Q q => by
  obtain ⟨fa, fd, MK, ok, hm, hb⟩ := F.ex
  refine ⟨_, pe_make (X := y.cx) MK ok (y.room.mono hk) (glS y hg) hm hb .nil pass0 wA_ok hdb (hst y.env) (hpl y.env), h y σ H ad he hs _ fun vs H1 ad1 as M1 n1 s1 r1 ⟨hl, hA⟩ xa dx hx hdx hne => ?_⟩
  rw [List.append_nil]
  obtain ⟨S2, n2⟩ := made_st (C := C) s1 hx hdx hne
  have hgx : (ad1 ++ [xa])[M1.length]? = some xa := by rw [← s1.len, List.getElem?_append_right (Nat.le_refl _), Nat.sub_self]; rfl
  refine ⟨by rw [List.length_cons, repAs_length r1]; exact hl, ad1 ++ [xa], .mut M1.length :: as, M1 ++ [.ins C []], _, S2, ⟨_, _, rfl, ⟨xa, hgx, rfl⟩, r1.nx n2⟩, hA, fun v H3 ad3 a3 M3 n3 s3 r3 ⟨e3, p3⟩ => ?_⟩
  subst e3
  exact ⟨r3, q _ H3 ad3 (.mut M1.length) M3 ((n1.trans n2).trans n3) s3 ⟨xa, n3.get hgx, rfl⟩ p3⟩
end
end Fx

/-! Fx, part Oc: len, str of own objects, f-texts, defaults and keywords of a making, raise X(e). -/
namespace L2
open PySem
section
variable {X : Cx} {pins : List (Addr × Obj)} {σ : St} {H : Hp} {s : Shared} {k : Nat} {f : Addr} {fd : FuncData} {ps : List Str} {sp : Sp}
/-- a def runs deeper in -/
theorem run_in9 {A : Around} {E : Value → Shared → Prop} {vs : List V} {us : List Value} {Q : VK} (F : FnOk X.prog X.w X.K X.mg X.base CX0 k f fd ps sp) (hr : Room k A) (hA : A.frames = X.A.frames) (hb : Binds X.K fd ps []) (I : Inv X pins σ H s) (r : Vals vs us) (h : sp vs H Q (fun _ _ _ => False)) :
    wpAny (model X.prog X.w) A (call (.ref f) us) (EP X pins σ Q) E s := by
  have e0 : Env0 X.prog X.w X.K X.mg X.base A X.stack s H := by
    have e := I.env0
    exact ⟨by rw [hA]; exact e.frames, e.mod, e.bs, e.bsz, e.funs, e.frf, e.hok, e.bare⟩
  have hl := F.len _ _ _ _ h
  refine wpAny_call (codeAny_mono (F.run A X.stack s H ⟨us, []⟩ us vs Q (fun _ _ _ => False) hr e0 (by
    have := hb s us I.kIn (by rw [List.append_nil, ← r.length]; exact hl)
    rw [List.append_nil] at this
    exact this) r h) fun r s' hq => ?_)
  cases r with
  | error e => exact (show False from hq).elim
  | ok fl =>
    cases fl with
    | ret w => exact I.after hq
    | next => exact False.elim hq
    | brk => exact False.elim hq
    | cont => exact False.elim hq
/-- len(x), x an own object -/
theorem call_lenO9 {C : Addr} (F : FnOk X.prog X.w X.K X.mg X.base CX0 k f fd ps sp) (hr : Room (k + 1) X.A) (hb : Binds X.K fd ps []) (hs : PySem.W.findIn X.K (.ref C) "__len__" = some (some (.ref f))) (hf : PySem.W.isFn X.K (.ref f) = true) :
    CallR X (.builtin "len") (fun xs H Q => ∃ a dx fs, xs = [.ref a] ∧ H a = some (.ins C dx fs) ∧ sp [.ref a] H (fun v H2 => ∃ n : Int, v = .int n ∧ 0 ≤ n ∧ n < 2 ^ 63 ∧ Q (.int n) H2) (fun _ _ _ => False)) := by
  intro pins s σ H xs us Q I rs h
  obtain ⟨a, dx, fs, rfl, ha, h⟩ := h
  obtain ⟨u, rfl, ru⟩ := vals1 rs
  obtain rfl : u = Value.ref a := ru
  obtain ⟨mA, J, _⟩ := ins_get I.hok ha
  obtain ⟨od, J, _⟩ := J.look
  obtain ⟨m, hF⟩ := I.fr
  refine PySem.W.len_K hF I.ok.mod.kin J hs hf ?_
  refine wpAny_mono (run_in9 (A := X.A.in1) (vs := [V.ref a]) F hr.in1 rfl hb I (.cons rfl .nil) h) (fun v s' hv => ?_) fun _ _ e => e
  obtain ⟨v0, H2, I2, rv, n, rfl, h0, h1, q⟩ := hv
  obtain ⟨t, rfl⟩ := rv
  exact ⟨⟨h0, h1⟩, .int n, H2, I2.tok _, ⟨_, rfl⟩, q⟩
/-- str(x), x an own object -/
theorem call_strO9 {C : Addr} (F : FnOk X.prog X.w X.K X.mg X.base CX0 k f fd ps sp) (hr : Room (k + 2) X.A) (hb : Binds X.K fd ps []) (hs : PySem.W.findIn X.K (.ref C) "__str__" = some (some (.ref f))) (hf : PySem.W.isFn X.K (.ref f) = true) :
    CallR X (.type "str") (fun xs H Q => ∃ a dx fs, xs = [.ref a] ∧ H a = some (.ins C dx fs) ∧ sp [.ref a] H (fun v H2 => ∃ n : Str, v = .str n ∧ Q (.str n) H2) (fun _ _ _ => False)) := by
  intro pins s σ H xs us Q I rs h
  obtain ⟨a, dx, fs, rfl, ha, h⟩ := h
  obtain ⟨u, rfl, ru⟩ := vals1 rs
  obtain rfl : u = Value.ref a := ru
  obtain ⟨mA, J, _⟩ := ins_get I.hok ha
  obtain ⟨od, J, _⟩ := J.look
  refine PySem.W.kso_call (by have := hr.un; show X.A.units + 1 + 1 < _; omega) I.kIn J hs hf ?_
  refine wpAny_mono (run_in9 (A := X.A.in1.in1) (vs := [V.ref a]) F (hr.in1).in1 rfl hb I (.cons rfl .nil) h) (fun v s' hv => ?_) fun _ _ e => e
  obtain ⟨v0, H2, I2, rv, n, rfl, q⟩ := hv
  obtain ⟨t, rfl⟩ := rv
  exact ⟨.str n, H2, I2, ⟨_, rfl⟩, q⟩
/-- C(e) of an exception whose __init__ stores its one parameter -/
theorem pmk_oexP9 {CX : CXT} {C fI : Addr} {k : Nat} {fd : FuncData} {x f : Str} {e : Expr} {te : TE} {p pos : Pos} (T : OexC X.K C) (iC : PySem.W.findIn X.K (.ref C) "__init__" = some (some (.ref fI)))
    (tI : PySem.W.typeIn X.K (.ref fI) = some (.type "function")) (hno : PySem.W.findIn X.K (.ref C) f = some none) (F1 : FnOk X.prog X.w X.K X.mg X.base CX k fI fd ["self", f] (spIni9 X.K f)) (hr : Room (k + 1) X.A) (hx : Passes CX X (fun _ _ _ => False))
    (hb : ∀ (s : Shared) (e : Addr) (u : Value), X.K.In s.heap → BindsTo s fd ⟨[.ref e, u], []⟩ [("self", .ref e), (f, u)]) (hg : Gl X x) (hm : X.mg x = some (.ref C)) (he : PE X e te) (hdb : (x == ("__debug__" : Str)) = false)
    (hst : starEach [e] X.env = (false, eval e X.env) :: starEach [] X.env) (hpl : (backTo pos (starEach [] X.env)).any (·.1) = false) :
    PMk X (.Call (.Name x p) [e] [] pos) (fun σ H Q => te σ H fun v H1 => ∀ d, H1 d = none → Q (.ref C) (some d) (upd H1 d (.xd [(f, v)]))) := by
  intro pins s σ H Q I h
  refine wpAny_Call_Name_kw (ld_glob I hg hm ?_ hdb)
  refine PySem.W.callWith_K (h₀ := X.base) I.ok.mod.kin T.kC (thn ((pa_cons he pa_nil hst).run pos pins s σ H (fun vs H1 => match vs with | [v] => ∀ d, H1 d = none → Q (.ref C) (some d) (upd H1 d (.xd [(f, v)])) | _ => False) I h) fun us s1 ⟨vs, H1, I1, r1, q1⟩ => ⟨I1.kIn, ?_⟩) hst hpl
  match vs, r1, q1 with
  | [v], r1, q1 =>
  obtain ⟨u, rfl, ru⟩ := r1.one
  exact oex_make9 T iC tI hno F1 hr hx I1 (by show 1 ≤ sizeLine; decide) (fun s e hk => hb s e u hk) ru q1
end
end L2
namespace Fx
open PySem L2 LamX
section
variable {c : SC} {δ : Dl} {M : List MO} {Post : AQ} {X : XP} {D : AE} {e o : Expr} {es : List Expr} {kws : List Keyword} {pos p apos pos' : Pos} {x m f ql : Str} {k : Nat} {st : Stmt} {sts : List Stmt} {ps : List Str} {C : Addr}
/-- raise X(e) -/
theorem rx_raiseP {C : Addr} (T : IniExc c.K c.mg x C f) (hk : 2 ≤ c.k) (hg : c.gl x) (h : EvX c δ M e fun a M1 => ∃ d, a = .dat d ∧ X C [(f, d)] M1)
    (hst : ∀ env, starEach [e] env = (false, eval e env) :: starEach [] env) (hpl : ∀ env, (backTo pos (starEach [] env)).any (·.1) = false) (hdb : (x == ("__debug__" : Str)) = false := by decide) : RunX c δ M [.Raise (some (.Call (.Name x p) [e] [] pos)) none pos'] D X := fun y W tk σ H ad he hs E q qx => by
  obtain ⟨fI, fd, i1, i2, i3, i4, i5⟩ := T.ini
  refine ⟨_, pss_one (ps_raise rfl tk (pmk_oexP9 (X := y.cx) (k := 1) T.T i1 i2 T.fld (i5 _ _ _ 0) (y.room.mono hk) (passes_call tk fun _ _ _ _ h => h.elim) i4 (glS y hg) T.gC wE_ok hdb (hst y.env) (hpl y.env))), h y σ H ad he hs _ fun v H1 ad1 a1 M1 n1 s1 r1 ⟨d, e1, p1⟩ dx hdx => ?_⟩
  subst e1
  exact xd_out qx n1 s1 r1 hdx p1
theorem ca_lenO {A : ASp} {j : Nat} {fs : List (Str × AV)} (F : MetOk c.P c.w c.K c.mg c.base CX0 k C "__len__" ql st ["self"] (spOf c.K 1 A)) (hk : k + 1 ≤ c.k) (hj : M[j]? = some (.ins C fs)) (h : A [.mut j] M fun r M2 => ∃ n : Int, r = .dat (.int n) ∧ 0 ≤ n ∧ n < 2 ^ 63 ∧ Post r M2) : CallA c (.builtin "len") [.mut j] M Post := fun z H ad hs vs r Q q => by
  obtain ⟨fa, fd, hc, hm, F1, hb, ok⟩ := F.ex
  obtain ⟨v, rfl, rv⟩ := repAs1 r
  obtain ⟨pp, dx, xs, rfl, hp, hH, hfs⟩ := st_ins hs rv hj
  refine ⟨_, call_lenO9 (X := z.cx) (C := C) ok (z.room.mono hk) hb hm.at_ hm.fn, pp, dx, xs, rfl, hH, rfl, ad, [.mut j], M, _, hs, ⟨_, _, rfl, ⟨pp, hp, rfl⟩, rfl⟩, h, fun v H2 ad2 a2 M2 n2 s2 r2 ⟨n, e, h0, h1, p2⟩ => ?_⟩
  subst e
  exact ⟨n, r2, h0, h1, q _ H2 ad2 (.dat (.int n)) M2 n2 s2 rfl p2⟩
theorem ca_strO {A : ASp} {j : Nat} {fs : List (Str × AV)} (F : MetOk c.P c.w c.K c.mg c.base CX0 k C "__str__" ql st ["self"] (spOf c.K 1 A)) (hk : k + 2 ≤ c.k) (hj : M[j]? = some (.ins C fs)) (h : A [.mut j] M fun r M2 => ∃ n : Str, r = .dat (.str n) ∧ Post r M2) : CallA c (.type "str") [.mut j] M Post := fun z H ad hs vs r Q q => by
  obtain ⟨fa, fd, hc, hm, F1, hb, ok⟩ := F.ex
  obtain ⟨v, rfl, rv⟩ := repAs1 r
  obtain ⟨pp, dx, xs, rfl, hp, hH, hfs⟩ := st_ins hs rv hj
  refine ⟨_, call_strO9 (X := z.cx) (C := C) ok (z.room.mono hk) hb hm.at_ hm.fn, pp, dx, xs, rfl, hH, rfl, ad, [.mut j], M, _, hs, ⟨_, _, rfl, ⟨pp, hp, rfl⟩, rfl⟩, h, fun v H2 ad2 a2 M2 n2 s2 r2 ⟨n, e, p2⟩ => ?_⟩
  subst e
  exact ⟨n, r2, q _ H2 ad2 (.dat (.str n)) M2 n2 s2 rfl p2⟩
/-- str(i) -/
theorem ca_strI {i : Int} (hi : i.natAbs.log2 < 1920) (h : Post (.dat (.str (toString i))) M) : CallA c (.type "str") [.dat (.int i)] M Post := fun z H ad hs vs r Q q => by
  obtain ⟨v, rfl, rv⟩ := repAs1 r
  exact ⟨_, call_str_int, i, by rw [show v = V.int i from rv], hi, q _ H ad (.dat (.str (toString i))) M Nx.refl hs rfl h⟩
/-- {x} in an f-text -/
theorem x_fmt (h : EvX c δ M e fun a M1 => (∃ y : Str, a = .dat (.str y) ∧ y.length ≤ 1000000 ∧ Post (.dat (.str y)) M1) ∨ ∃ i : Int, a = .dat (.int i) ∧ i.natAbs.log2 < 1920 ∧ Post (.dat (.str (toString i))) M1) : EvX c δ M (.FormattedValue e (-1) none pos) Post := fun y σ H ad he hs Q q =>
  ⟨_, pe_fmt wE_ok, h y σ H ad he hs _ fun v H1 ad1 a M1 n1 s1 r1 p1 => by
    rcases p1 with ⟨z, rfl, hz, p1⟩ | ⟨i, rfl, hi, p1⟩
    · exact .inl ⟨z, r1, Nat.le_trans hz (by decide), q _ H1 ad1 (.dat (.str z)) M1 n1 s1 rfl p1⟩
    · exact .inr ⟨i, r1, hi, q _ H1 ad1 (.dat (.str (toString i))) M1 n1 s1 rfl p1⟩⟩
/-- the parts of an f-text, one behind the other -/
def EvJ (c : SC) (δ : Dl) : List MO → List Expr → Str → (Str → List MO → Prop) → Prop
  | M, [], acc, P => P acc M
  | M, e :: es, acc, P => EvX c δ M e fun a M1 => ∃ y : Str, a = .dat (.str y) ∧ (acc ++ y).length ≤ 1000000 ∧ EvJ c δ M1 es (acc ++ y) P
theorem evj_run (y : Dyn c) {σ : L2.St} : ∀ {es : List Expr} {M : List MO} {acc : Str} {P : Str → List MO → Prop} {H : Hp} {ad : List Addr} {Q : Str → Hp → Prop}, EvJ c δ M es acc P → EnvOk c.K ad H σ δ → StOk c.K ad H M →
    (∀ out H2 ad2 M2, Nx ad H ad2 H2 → StOk c.K ad2 H2 M2 → P out M2 → Q out H2) → tJs (es.map fun e => wE y.cx e) acc σ H Q
  | [], M, acc, P, H, ad, Q, h, he, hs, q => q acc H ad M Nx.refl hs h
  | e :: es, M, acc, P, H, ad, Q, h, he, hs, q => h y σ H ad he hs _ fun v H1 ad1 a M1 n1 s1 r1 ⟨z, ea, hz, p1⟩ => by
    subst ea
    exact ⟨z, r1, Nat.le_trans hz (by decide), evj_run y p1 (he.nx n1) s1 fun out H2 ad2 M2 n2 s2 p2 => q out H2 ad2 M2 (n1.trans n2) s2 p2⟩
theorem pj_all (y : Dyn c) : ∀ es : List Expr, PJ y.cx es (es.map fun e => wE y.cx e)
  | [] => .nil
  | e :: es => .cons wE_ok (pj_all y es)
theorem x_fstr {v1 v2 : Expr} {rest : List Expr} (h : EvJ c δ M (v1 :: v2 :: rest) Str.empty fun s M1 => Post (.dat (.str s)) M1) : EvX c δ M (.JoinedStr (v1 :: v2 :: rest) pos) Post := fun y σ H ad he hs Q q =>
  ⟨_, pe_joined (X := y.cx) (pj_all y _), evj_run y h he hs fun out H2 ad2 M2 n2 s2 p2 => q _ H2 ad2 (.dat (.str out)) M2 n2 s2 rfl p2⟩
/-- a class made, its last parameters by their defaults -/
structure MakD (P : Program) (w : World) (K : PySem.W.Frag) (mg : Str → Option Value) (base : Heap) (k : Nat) (x : Str) (C : Addr) (ps : List Str) (das : List Fx.D) (sp : Sp) : Prop where
  ex : ∃ f fd ds dvs, Mk K C f ∧ FnOk P w K mg base CX0 k f fd ps sp ∧ mg x = some (.ref C) ∧ Binds K fd ps ds ∧ Vals dvs ds ∧ ∀ H, Reps K H das dvs
theorem repAs_dats {K : PySem.W.Frag} {ad : List Addr} {H : Hp} : ∀ {ds : List Fx.D} {vs : List V}, Reps K H ds vs → RepAs K ad H (ds.map AV.dat) vs
  | [], _, h => h
  | _ :: _, _, ⟨x, r, e, h1, h2⟩ => ⟨x, r, e, h1, repAs_dats h2⟩
theorem x_makeD {A : ASp} {das : List Fx.D} (F : MakD c.P c.w c.K c.mg c.base k x C ps das (spOf c.K ps.length A)) (hk : k + 1 ≤ c.k) (hg : c.gl x)
    (h : EvA c δ M (e :: es) fun as M1 => as.length + 1 + das.length = ps.length ∧ A (.mut M1.length :: (as ++ das.map AV.dat)) (M1 ++ [.ins C []]) fun r M2 => r = .dat .non ∧ Post (.mut M1.length) M2)
    (hst : ∀ env, starEach (e :: es) env = (false, eval e env) :: starEach es env) (hpl : ∀ env, (backTo pos (starEach es env)).any (·.1) = false) (hdb : (x == ("__debug__" : Str)) = false := by decide) : EvX c δ M (.Call (.Name x p) (e :: es) [] pos) Post := fun y σ H ad he hs Q q => by
  obtain ⟨fa, fd, ds, dvs, MK, ok, hm, hb, hd, hR⟩ := F.ex
  refine ⟨_, pe_make (X := y.cx) MK ok (y.room.mono hk) (glS y hg) hm hb hd pass0 wA_ok hdb (hst y.env) (hpl y.env), h y σ H ad he hs _ fun vs H1 ad1 as M1 n1 s1 r1 ⟨hl, hA⟩ xa dx hx hdx hne => ?_⟩
  obtain ⟨S2, n2⟩ := made_st (C := C) s1 hx hdx hne
  have hgx : (ad1 ++ [xa])[M1.length]? = some xa := by rw [← s1.len, List.getElem?_append_right (Nat.le_refl _), Nat.sub_self]; rfl
  have hdl : dvs.length = das.length := (hR H1).length
  refine ⟨by rw [List.length_cons, List.length_append, repAs_length r1, hdl]; omega, ad1 ++ [xa], .mut M1.length :: (as ++ das.map AV.dat), M1 ++ [.ins C []], _, S2, ⟨_, _, rfl, ⟨xa, hgx, rfl⟩, repAs_append (r1.nx n2) (repAs_dats (hR _))⟩, hA, fun v H3 ad3 a3 M3 n3 s3 r3 ⟨e3, p3⟩ => ?_⟩
  subst e3
  exact ⟨r3, q _ H3 ad3 (.mut M1.length) M3 ((n1.trans n2).trans n3) s3 ⟨xa, n3.get hgx, rfl⟩ p3⟩
/-- a class made with keywords: gA puts the values (the object first) in the parameters' order -/
structure MakK (P : Program) (w : World) (K : PySem.W.Frag) (mg : Str → Option Value) (base : Heap) (k : Nat) (x : Str) (C : Addr) (ps : List Str) (n : Nat) (ks : List Str) (gA : List AV → List AV → List AV) (sp : Sp) : Prop where
  ex : ∃ f fd g gV, Mk K C f ∧ FnOk P w K mg base CX0 k f fd ps sp ∧ mg x = some (.ref C) ∧ KBn K fd ps (n + 1) ks g gV ∧
    (∀ (ad : List Addr) (H : Hp) (as bs : List AV) (vs zs : List V), RepAs K ad H as vs → RepAs K ad H bs zs → vs.length = n + 1 → zs.length = ks.length → RepAs K ad H (gA as bs) (gV vs zs) ∧ (gV vs zs).length = ps.length)
theorem x_makeK0 {A : ASp} {gA : List AV → List AV → List AV} {ks : List Str} (F : MakK c.P c.w c.K c.mg c.base k x C ps 0 ks gA (spOf c.K ps.length A)) (hk : k + 1 ≤ c.k) (hg : c.gl x)
    (h : EvK c δ M kws fun bs M1 => bs.length = ks.length ∧ A (gA [.mut M1.length] bs) (M1 ++ [.ins C []]) fun r M2 => r = .dat .non ∧ Post (.mut M1.length) M2)
    (hall : ∀ env, (backToKw pos (keywordEach kws env)).all (·.1.isSome) = true) (hks : ∀ env, (backToKw pos (keywordEach kws env)).filterMap (·.1) = ks)
    (hpl : ∀ env, ((backTo pos (starEach [] env)).any (·.1) || (backToKw pos (keywordEach kws env)).any (·.1.isNone)) = false) (hdb : (x == ("__debug__" : Str)) = false := by decide) : EvX c δ M (.Call (.Name x p) [] kws pos) Post := fun y σ H ad he hs Q q => by
  obtain ⟨fa, fd, g, gV, MK, ok, hm, hb, hR⟩ := F.ex
  refine ⟨_, pe_makeK0 (X := y.cx) MK ok (y.room.mono hk) (glS y hg) hm hb pass0 wK_ok (hall y.env) (hks y.env) hdb (hpl y.env), h y σ H ad he hs _ fun zs H1 ad1 bs M1 n1 s1 r1 ⟨hl, hA⟩ => ⟨rfl, by rw [repAs_length r1]; exact hl, fun xa dx hx hdx hne => ?_⟩⟩
  obtain ⟨S2, n2⟩ := made_st (C := C) s1 hx hdx hne
  have hgx : (ad1 ++ [xa])[M1.length]? = some xa := by rw [← s1.len, List.getElem?_append_right (Nat.le_refl _), Nat.sub_self]; rfl
  obtain ⟨rr, rl⟩ := hR (ad1 ++ [xa]) _ [.mut M1.length] bs [.ref xa] zs ⟨_, _, rfl, ⟨xa, hgx, rfl⟩, rfl⟩ (r1.nx n2) rfl (by rw [repAs_length r1]; exact hl)
  refine ⟨rl, ad1 ++ [xa], gA [.mut M1.length] bs, M1 ++ [.ins C []], _, S2, rr, hA, fun v H3 ad3 a3 M3 n3 s3 r3 ⟨e3, p3⟩ => ?_⟩
  subst e3
  exact ⟨r3, q _ H3 ad3 (.mut M1.length) M3 ((n1.trans n2).trans n3) s3 ⟨xa, n3.get hgx, rfl⟩ p3⟩
theorem x_makeK {A : ASp} {gA : List AV → List AV → List AV} {ks : List Str} {n : Nat} (F : MakK c.P c.w c.K c.mg c.base k x C ps n ks gA (spOf c.K ps.length A)) (hk : k + 1 ≤ c.k) (hg : c.gl x)
    (h : EvA c δ M (e :: es) fun as M1 => EvK c δ M1 kws fun bs M2 => as.length = n ∧ bs.length = ks.length ∧ A (gA (.mut M2.length :: as) bs) (M2 ++ [.ins C []]) fun r M3 => r = .dat .non ∧ Post (.mut M2.length) M3)
    (hst : ∀ env, starEach (e :: es) env = (false, eval e env) :: starEach es env)
    (hall : ∀ env, (backToKw pos (keywordEach kws env)).all (·.1.isSome) = true) (hks : ∀ env, (backToKw pos (keywordEach kws env)).filterMap (·.1) = ks)
    (hpl : ∀ env, ((backTo pos (starEach (e :: es) env)).any (·.1) || (backToKw pos (keywordEach kws env)).any (·.1.isNone)) = false) (hdb : (x == ("__debug__" : Str)) = false := by decide) : EvX c δ M (.Call (.Name x p) (e :: es) kws pos) Post := fun y σ H ad he hs Q q => by
  obtain ⟨fa, fd, g, gV, MK, ok, hm, hb, hR⟩ := F.ex
  refine ⟨_, pe_makeK (X := y.cx) MK ok (y.room.mono hk) (glS y hg) hm hb pass0 wA_ok wK_ok (hall y.env) (hks y.env) hdb (hst y.env) (hpl y.env), h y σ H ad he hs _ fun vs H1 ad1 as M1 n1 s1 r1 p1 => p1 y σ H1 ad1 (he.nx n1) s1 _ fun zs H2 ad2 bs M2 n2 s2 r2 ⟨hl1, hl, hA⟩ => ⟨by rw [repAs_length r1]; exact hl1, by rw [repAs_length r2]; exact hl, fun xa dx hx hdx hne => ?_⟩⟩
  obtain ⟨S2, n3⟩ := made_st (C := C) s2 hx hdx hne
  have hgx : (ad2 ++ [xa])[M2.length]? = some xa := by rw [← s2.len, List.getElem?_append_right (Nat.le_refl _), Nat.sub_self]; rfl
  obtain ⟨rr, rl⟩ := hR (ad2 ++ [xa]) _ (.mut M2.length :: as) bs (.ref xa :: vs) zs ⟨_, _, rfl, ⟨xa, hgx, rfl⟩, (r1.nx n2).nx n3⟩ (r2.nx n3) (by rw [List.length_cons, repAs_length r1, hl1]) (by rw [repAs_length r2]; exact hl)
  refine ⟨rl, ad2 ++ [xa], gA (.mut M2.length :: as) bs, M2 ++ [.ins C []], _, S2, rr, hA, fun v H3 ad3 a3 M3 n4 s3 r3 ⟨e3, p3⟩ => ?_⟩
  subst e3
  exact ⟨r3, q _ H3 ad3 (.mut M2.length) M3 (((n1.trans n2).trans n3).trans n4) s3 ⟨xa, n4.get hgx, rfl⟩ p3⟩
end
end Fx

/-! Fx, part Oe: == and != of own objects, lists and tuples of any things. -/
namespace L2
open PySem
section
variable {X : Cx} {k : Nat} {f : Addr} {fd : FuncData} {ps : List Str} {sp : Sp}
/-- what stands at the right of == -/
def RightOf (K : PySem.W.Frag) (C : Addr) (H : Hp) (y : V) : Prop := (∃ b dy gs, y = .ref b ∧ H b = some (.ins C dy gs)) ∨ (∃ t ys, y = .ref t ∧ SqT K H t ys ∧ PySem.W.notFirst K C (.type "tuple") = true)
theorem looks_tup9 {M : Model} {h : Heap} {t : Addr} {its : Array Value} (p : h.IsTuple t its) : PySem.W.Looks M h (typeOf (.ref t)) (.type "tuple") := by
  obtain ⟨o, h1, h2, _⟩ := p
  have := PySem.W.Looks.ld (M := M) (part := none) h1
  refine (PySem.W.Looks.ld (part := none) h1).andThen ?_
  rw [h2]
  exact .now
theorem right_type9 {pins : List (Addr × Obj)} {σ : St} {H : Hp} {s : Shared} {C : Addr} {y : V} {v : Value} (I : Inv X pins σ H s) (ry : RelV y v) (h : RightOf X.K C H y) : ∃ tb, PySem.W.Looks (model X.prog X.w) s.heap (typeOf v) tb ∧ PySem.W.notFirst X.K C tb = true := by
  rcases h with ⟨b, dy, gs, rfl, hb⟩ | ⟨t, ys, rfl, hq, hn⟩
  · obtain rfl : v = Value.ref b := ry
    obtain ⟨mB, J', _⟩ := ins_get I.hok hb
    obtain ⟨od', J', _⟩ := J'.look
    exact ⟨.ref C, J'.type, by simp [PySem.W.notFirst]⟩
  · obtain rfl : v = Value.ref t := ry
    obtain ⟨its, rv, p, hz⟩ := I.tuple hq
    exact ⟨_, looks_tup9 (show s.heap.IsTuple t its.toArray from p), hn⟩
/-- x == y, x an own object -/
theorem op_eqO9 {C : Addr} (F : FnOk X.prog X.w X.K X.mg X.base CX0 k f fd ps sp) (hr : Room k X.A) (hb : Binds X.K fd ps []) (hs : PySem.W.findIn X.K (.ref C) "__eq__" = some (some (.ref f))) (hf : PySem.W.isFn X.K (.ref f) = true) :
    OpR X (compareOp .Eq) (fun x y H Q => ∃ a dx fs, x = .ref a ∧ H a = some (.ins C dx fs) ∧ RightOf X.K C H y ∧ sp [x, y] H (fun v H2 => ∃ b : Bool, v = .bl b ∧ Q (.bl b) H2) (fun _ _ _ => False)) := by
  intro pins s σ H x y u v Q I rx ry hq
  obtain ⟨a, dx, fs, rfl, ha, hy, h⟩ := hq
  obtain rfl : u = Value.ref a := rx
  obtain ⟨mA, J, _⟩ := ins_get I.hok ha
  obtain ⟨od, J, _⟩ := J.look
  obtain ⟨m, hF⟩ := I.fr
  obtain ⟨tb, L, hn⟩ := right_type9 I ry hy
  show wpAny (model X.prog X.w) X.A (richCompare .Eq _ _) (EP X pins σ Q) X.xe s
  refine PySem.W.cmp_K (op := .Eq) (tb := tb) hr.units0 hF I.ok.mod.kin J L hn hs hf ?_
  refine wpAny_mono (run_in9 (A := X.A) (vs := [V.ref a, y]) F hr rfl hb I (.cons rfl (.cons ry .nil)) h) (fun w s' hv => ?_) fun _ _ e => e
  obtain ⟨v0, H2, I2, rv, b, rfl, q⟩ := hv
  cases rv
  exact ⟨.bl b, H2, I2, rfl, q⟩
theorem slot_ne9 : Slot "object" "__ne__" "object.__ne__" :=
  Slot.of (T := "object") (name := "__ne__") (owner := "object") (n := "__ne__") (by rw [typeLookup_type, builtinLookup_eq_fast]; kernel_rfl) (by decide +kernel) (by decide +kernel) (by decide +kernel) (.inl (by decide +kernel)) (by rw [isSubtype_type]; kernel_rfl)
open Builtin in
theorem objNe9 {prog : Program} {w : World} {A : Around} {E : Value → Shared → Prop} {K : PySem.W.Frag} {s : Shared} {a b C f : Addr} {ox : Obj} {od : Option Obj} {Q : Fin → Shared → Prop} (hu : A.units < cLine) (X : K.In s.heap) (J : PySem.W.InstAt s.heap a ox C od)
    (hs : PySem.W.findIn K (.ref C) "__eq__" = some (some (.ref f))) (hf : PySem.W.isFn K (.ref f) = true)
    (hcall : wpAny (model prog w) A (call (.ref f) [.ref a, .ref b]) (fun v s' => ∃ r, v = .bool r ∧ Q (.done (.ret (.bool (!r)))) s') E s) : wpAny (model prog w) A (Builtin.«object.__ne__» ⟨[.ref a, .ref b], []⟩) Q E s := by
  obtain ⟨h, g, d, t, os⟩ := s
  unfold Builtin.«object.__ne__»
  repeat (first
    | with_reducible refine wpAny_cRoomFor hu ?_
    | (refine wpAny_bind (m := callSpecialIfBound? (.ref a) (Str.ofString "__eq__") [.ref b])
        (PySem.W.ifBound_K X J hs hf (wpAny_mono hcall (fun r s' hr => by
          obtain ⟨b, rfl, hq⟩ := hr
          repeat (first | exact hq | exact wpAny_pure hq | exact wpAny_truthy_bool hq | (refine wpAny_bind (m := truthy (.bool _)) (wpAny_truthy_bool ?_)) | wp_step)) fun _ _ e => e)))
    | wp_step)
/-- x != y, both own objects of one class -/
theorem op_neO9 {C : Addr} (F1 : FnOk X.prog X.w X.K X.mg X.base CX0 k f fd ps sp) (hr : Room (k + 1) X.A) (hb : Binds X.K fd ps []) (hs : PySem.W.findIn X.K (.ref C) "__eq__" = some (some (.ref f))) (hf : PySem.W.isFn X.K (.ref f) = true)
    (hne : PySem.W.findIn X.K (.ref C) "__ne__" = some (some (.builtin "object.__ne__"))) (hob : PySem.W.mroIn X.K C (.type "object") = some true) :
    OpR X (compareOp .NotEq) (fun x y H Q => ∃ a dx fs b dy gs, x = .ref a ∧ H a = some (.ins C dx fs) ∧ y = .ref b ∧ H b = some (.ins C dy gs) ∧ sp [x, y] H (fun v H2 => ∃ b : Bool, v = .bl b ∧ Q (.bl (!b)) H2) (fun _ _ _ => False)) := by
  intro pins s σ H x y u v Q I rx ry hq
  obtain ⟨a, dx, fs, bb, dy, gs, rfl, ha, rfl, hbb, h⟩ := hq
  obtain rfl : u = Value.ref a := rx
  obtain rfl : v = Value.ref bb := ry
  obtain ⟨mA, J, _⟩ := ins_get I.hok ha
  obtain ⟨od, J, _⟩ := J.look
  obtain ⟨mB, J', _⟩ := ins_get I.hok hbb
  obtain ⟨od', J', _⟩ := J'.look
  have hu : X.A.units + 1 < cLine := by have := hr.un; omega
  have hI : PySem.W.Looks (model X.prog X.w) s.heap (isInstance (.ref a) (.type "object")) true := J.type.andThen (PySem.W.looks_mroIn I.kIn hob)
  show wpAny (model X.prog X.w) X.A (richCompare .NotEq _ _) (EP X pins σ Q) X.xe s
  have call1 : wpAny (model X.prog X.w) X.A (call (.builtin "object.__ne__") [.ref a, .ref bb]) (fun w s' => ∃ r : Bool, w = .bool r ∧ EP X pins σ Q w s') X.xe s := by
    refine wpAny_call (codeAny_call_builtin slot_ne9.plain F.cmpEntry_ne (PySem.W.check_slot F.cmpKind_ne F.cmpSplit_ne hI (F.cmpArgs_ne _ _) (objNe9 (A := X.A.in1) hu I.kIn J hs hf ?_)))
    refine wpAny_mono (run_in9 (A := X.A.in1) (vs := [V.ref a, V.ref bb]) F1 hr.in1 rfl hb I (.cons rfl (.cons rfl .nil)) h) (fun w s' hv => ?_) fun _ _ e => e
    obtain ⟨v0, H2, I2, rv, b, rfl, q⟩ := hv
    cases rv
    exact ⟨b, rfl, !b, rfl, .bl (!b), H2, I2, rfl, q⟩
  have one : wpAny (model X.prog X.w) X.A (tryCompare (.ref a) "__ne__" (.ref bb)) (fun r s' => ∃ w, r = some w ∧ EP X pins σ Q w s') X.xe s := by
    unfold tryCompare
    refine wpAny_bind ?_
    simp only [callSpecialIfBound?, bindSpecialIfBound?]
    refine wpAny_holding (wpAny_bind (wpAny_bind (wpAny_bind (J.type.here ((PySem.W.looks_findIn I.kIn hne).here ?_)))))
    simp only [slot_ne9.bind]
    refine wpAny_bind (wpAny_askSetting (wpAny_ite ?_))
    have fin : wpAny (model X.prog X.w) X.A (call (.builtin "object.__ne__") ([.ref a] ++ [.ref bb]) >>= fun v => pure (some v)) (fun r s' => wpAny (model X.prog X.w) X.A (match r with | some .notImplemented | none => pure none | some v => pure (some v)) (fun r s' => ∃ w, r = some w ∧ EP X pins σ Q w s') X.xe s') X.xe s := by
      refine wpAny_bind (wpAny_mono call1 (fun v s' hv => wpAny_pure ?_) fun _ _ h' => h')
      obtain ⟨r, rfl, hq⟩ := hv
      exact wpAny_pure ⟨_, rfl, hq⟩
    split
    · exact wpAny_bind (wpAny_pure (wpAny_pure fin))
    · exact wpAny_tryCatch (wpAny_bind (wpAny_pure (wpAny_pure fin)))
  unfold richCompare
  simp only [oneThing_ref]
  refine wpAny_holding (wpAny_bind (wpAny_cRoomFor (Nat.lt_of_succ_lt hu) ?_))
  rw [cmpInfo_NotEq]
  dsimp only
  refine wpAny_bind (J.type.here (wpAny_bind (J'.type.here ?_)))
  rw [show (Value.ref C != Value.ref C) = false from by simp]
  simp only [Bool.false_eq_true, if_false]
  refine wpAny_bind (wpAny_pure ?_)
  simp only [Bool.false_eq_true, if_false]
  refine wpAny_bind (wpAny_mono one (fun r s' z => ?_) fun _ _ e => e)
  obtain ⟨w, rfl, hq⟩ := z
  exact wpAny_pure hq
end
end L2
namespace Fx
open PySem L2
/-- one turn, the thing of any kind -/
def LcTurnA (c : SC) (δ : Dl) (tg elt : Expr) (ifs : List Expr) (vs : List Nat) (d : AV) (M : List MO) (yes : D → List MO → Prop) (no : List MO → Prop) : Prop :=
  ∃ is, (∀ i ∈ is, i ∈ vs) ∧ EvG c δ tg is d fun δ2 => EvTs c δ2 M ifs fun k M3 => (k = true → EvX c δ2 M3 elt fun a M4 => ∃ d', a = .dat d' ∧ yes d' M4) ∧ (k = false → no M3)
section
def WalksA (K : PySem.W.Frag) (J : It) (ad : List Addr) (H : Hp) (ds : List AV) (C : List MO → Prop) : Prop :=
  ∀ ad2 H2 M2, Nx ad H ad2 H2 → StOk K ad2 H2 M2 → C M2 → ∀ i,
    (∀ d, ds[i]? = some d → J.go i H2 ∧ ∀ x H3, J.yld i H2 x H3 → Same H2 H3 ∧ RepA K ad2 H3 d x) ∧ (i = ds.length → J.stop i H2)
def EvIA (c : SC) (δ : Dl) (M : List MO) (tg iter : Expr) (Pi : List AV → (List MO → Prop) → List MO → Prop) : Prop :=
  ∀ (y : Dyn c) (σ : L2.St) (H : Hp) (ad : List Addr), EnvOk c.K ad H σ δ → StOk c.K ad H M → ∀ R : It → Hp → Prop,
    (∀ J H1 ad1 ds C M1, Nx ad H ad1 H1 → StOk c.K ad1 H1 M1 → WalksA c.K J ad1 H1 ds C → Pi ds C M1 → R J H1) → wI y.cx tg iter σ H R
end
section
variable {c : SC} {δ : Dl} {M : List MO} {Post : AQ} {a b e t iter tg elt : Expr} {es ifs : List Expr} {pos p p1 p2 : Pos} {x : Str} {own : List (Str × Nat)} {scope : Scope} {Pf : List D → List MO → Prop}
/-- the comprehension's reading -/
theorem lc_readA
    (h : EvIA c δ M tg iter fun ds src M1 => ds.length ≤ 1000000 ∧ ∃ I : Nat → List D → List MO → Prop, I 0 [] M1 ∧ (∀ i acc M2, I i acc M2 → src M2) ∧
      (∀ i d acc M2, ds[i]? = some d → I i acc M2 → LcTurnA (c.blk scope) (wipeD δ (own.map (·.2))) tg elt ifs (own.map (·.2)) d M2 (fun d' M4 => I (i + 1) (acc ++ [d']) M4) (fun M3 => I (i + 1) acc M3)) ∧ ∀ acc M2, I ds.length acc M2 → Pf acc M2)
    (y : Dyn c) (σ : L2.St) (H : Hp) (ad : List Addr) (he : EnvOk c.K ad H σ δ) (hs : StOk c.K ad H M) (Q : VK)
    (q : ∀ p xs H2 ad2 ds M2, Nx ad H ad2 H2 → StOk c.K ad2 H2 M2 → H p = none → p ∉ ad2 → H2 p = some (.lst xs) → Reps c.K H2 ds xs → Pf ds M2 → Q (.ref p) H2) :
    tLc (wI y.cx tg iter) (fun v σ H Q => ∀ s0 H0 C cl fp, wG (y.blk scope s0 H0 C cl fp).cx tg v σ H Q) (fun σ H Q => ∀ s0 H0 C cl fp, wTs (y.blk scope s0 H0 C cl fp).cx ifs σ H Q) (fun σ H Q => ∀ s0 H0 C cl fp, wE (y.blk scope s0 H0 C cl fp).cx elt σ H Q) (own.map (·.2)) σ H Q := by
  refine h y σ H ad he hs _ ?_
  intro J H1 ad1 ds src M1 n1 s1 w hP
  obtain ⟨hl, I, i0, ik, it, idn⟩ := hP
  intro Dq hD
  have sm0 : Same H1 (upd H1 Dq (.lst [])) := same_new hD
  let St' : Nat → Hp → Prop := fun i H' => i ≤ ds.length ∧ ∃ (ad' : List Addr) (M' : List MO) (acc : List D) (xs : List V), Nx ad1 H1 ad' H' ∧ StOk c.K ad' H' M' ∧ Dq ∉ ad' ∧ H' Dq = some (.lst xs) ∧ Reps c.K H' acc xs ∧ acc.length ≤ i ∧ I i acc M'
  refine ⟨fun i m H' => m = ds.length - i ∧ St' i H', ⟨ds.length, by omega, Nat.zero_le _, ad1, M1, [], [], Nx.same sm0, s1.same sm0, s1.free hD, upd_same, rfl, Nat.le_refl _, i0⟩, ?_⟩
  rintro i m H' ⟨rfl, hi, ad', M', acc, xs, n', s', nd, hx, rr, hacc, inv⟩
  obtain ⟨hgo, hstop⟩ := w ad' H' M' n' s' (ik i acc M' inv) i
  by_cases hlt : i < ds.length
  · obtain ⟨go, yl⟩ := hgo ds[i] (List.getElem?_eq_getElem hlt)
    refine .inr ⟨go, St' (i + 1), fun H'' hq => ⟨ds.length - (i + 1), by omega, rfl, hq⟩, fun x H3 hy => ?_⟩
    obtain ⟨sm, rx⟩ := yl x H3 hy
    intro s0 H0 C cl fp
    have n3 : Nx ad1 H1 ad' H3 := n'.trans (Nx.same sm)
    have env : EnvOk c.K ad' H3 (wipe σ (own.map (·.2))) (wipeD δ (own.map (·.2))) := (he.nx (n1.trans n3)).wipe _
    obtain ⟨is, his, it'⟩ := it i ds[i] acc M' (List.getElem?_eq_getElem hlt) inv
    refine it' (y.blk scope s0 H0 C cl fp) _ H3 ad' x env rx _ ?_
    intro σ2 δ2 e2 w2 pT
    refine ⟨by rw [w2 _ his, wipe_wipe], ?_⟩
    intro s01 H01 C1 cl1 fp1
    refine pT (y.blk scope s01 H01 C1 cl1 fp1) σ2 H3 ad' e2 (s'.same sm) _ ?_
    intro b H4 ad4 M4 n4 s4 pB
    have hx3 : H3 Dq = some (.lst xs) := sm _ _ hx
    have nd4 : Dq ∉ ad4 := fun z => by
      have := n4.fresh Dq z nd
      rw [hx3] at this
      cases this
    have hx4 : H4 Dq = some (.lst xs) := n4.keep _ _ nd hx3
    cases b with
    | false =>
      refine iteF ?_
      exact ⟨hlt, ad4, M4, acc, xs, n3.trans n4, s4, nd4, hx4, (rr.tx (Tx.same sm)).tx n4.tx, by omega, pB.2 rfl⟩
    | true =>
      refine iteT ?_
      intro s02 H02 C2 cl2 fp2
      refine (pB.1 rfl) (y.blk scope s02 H02 C2 cl2 fp2) σ2 H4 ad4 (e2.nx n4) s4 _ ?_
      intro v H5 ad5 a M5 n5 s5 r5 hp
      obtain ⟨d', ea, pI⟩ := hp
      subst ea
      have nd5 : Dq ∉ ad5 := fun z => by
        have := n5.fresh Dq z nd4
        rw [hx4] at this
        cases this
      have hx5 : H5 Dq = some (.lst xs) := n5.keep _ _ nd4 hx4
      have n15 : Nx ad1 H1 ad5 H5 := (n3.trans n4).trans n5
      obtain ⟨s6, t6⟩ := s5.other (ys := xs ++ [v]) nd5 hx5
      have rr5 : Reps c.K (upd H5 Dq (.lst (xs ++ [v]))) acc xs := (((rr.tx (Tx.same sm)).tx n4.tx).tx n5.tx).tx t6
      refine ⟨xs, hx5, ?_, hlt, ad5, M5, acc ++ [d'], xs ++ [v], ⟨n15.pre, n15.fresh, fun a o hn e => ?_, n15.tx.trans t6⟩, s6, nd5, upd_same, ?_, ?_, pI⟩
      · have := rr5.length
        have h24 : sizeLine = 16777216 := sizeLine_eq
        omega
      · rw [upd_ne (ne_of_none e hD)]
        exact n15.keep a o hn e
      · have rv : Rep c.K H5 d' v := r5
        exact rr5.append ⟨v, [], rfl, rv.tx t6, rfl⟩
      · rw [List.length_append]
        have : [d'].length = 1 := rfl
        omega
  · have ei : i = ds.length := by omega
    subst ei
    exact .inl ⟨hstop rfl, q Dq xs H' ad' acc M' (n1.trans n') s' (free_back n1 s1 hD) nd hx rr (idn acc M' inv)⟩
theorem f_lcA0 (own : List (Str × Nat)) (ok : BlkOk c.N c.sc scope own) (hN : c.N.Nodup)
    (h : EvIA c δ M tg iter fun ds src M1 => ds.length ≤ 1000000 ∧ ∃ I : Nat → List D → List MO → Prop, I 0 [] M1 ∧ (∀ i acc M2, I i acc M2 → src M2) ∧
      (∀ i d acc M2, ds[i]? = some d → I i acc M2 → LcTurnA (c.blk scope) (wipeD δ (own.map (·.2))) tg elt ifs (own.map (·.2)) d M2 (fun d' M4 => I (i + 1) (acc ++ [d']) M4) (fun M3 => I (i + 1) acc M3)) ∧ ∀ acc M2, I ds.length acc M2 → Pf acc M2)
    (hf : ∀ env x, foldedSetIterable iter env x = pure x) : EvF c δ M (.ListComp elt [⟨tg, iter, ifs, 0⟩] scope pos) Pf := fun y σ H ad he hs Q q =>
  ⟨_, pe_lc (X := y.cx) (own := own) (wi := wI y.cx tg iter) (g := fun v σ H Q => ∀ s0 H0 C cl fp, wG (y.blk scope s0 H0 C cl fp).cx tg v σ H Q) (tt := fun σ H Q => ∀ s0 H0 C cl fp, wTs (y.blk scope s0 H0 C cl fp).cx ifs σ H Q)
    (te := fun σ H Q => ∀ s0 H0 C cl fp, wE (y.blk scope s0 H0 C cl fp).cx elt σ H Q) rfl hN wI_ok (by show BlkOk c.N y.env.scope scope own; rw [y.sc]; exact ok)
    (fun s0 H0 C cl fp => ⟨fun pins s σ H v u Q I r hw => (wG_ok (X := (y.blk scope s0 H0 C cl fp).cx)).run pins s σ H v u Q I r (hw s0 H0 C cl fp)⟩)
    (fun s0 H0 C cl fp => ⟨fun pins s σ H Q I hw => (wTs_ok (X := (y.blk scope s0 H0 C cl fp).cx)).run pins s σ H Q I (hw s0 H0 C cl fp)⟩)
    (fun s0 H0 C cl fp => ⟨fun pins s σ H Q I hw => (wE_ok (X := (y.blk scope s0 H0 C cl fp).cx)).run pins s σ H Q I (hw s0 H0 C cl fp)⟩) (hf y.env),
    lc_readA h y σ H ad he hs Q q⟩
/-- a plain comprehension: nothing of the store changes -/
theorem f_lcA {α : Type} (own : List (Str × Nat)) (f : α → D) (pr : α → Bool) (ok : BlkOk c.N c.sc scope own) (hN : c.N.Nodup)
    (h : EvIA c δ M tg iter fun ds src M1 => ∃ (xs : List α) (g : α → AV), ds = xs.map g ∧ xs.length ≤ 1000000 ∧ src M1 ∧
      (∀ x, x ∈ xs → LcTurnA (c.blk scope) (wipeD δ (own.map (·.2))) tg elt ifs (own.map (·.2)) (g x) M1 (fun d' M4 => pr x = true ∧ d' = f x ∧ M4 = M1) (fun M3 => pr x = false ∧ M3 = M1)) ∧ Pf ((xs.filter pr).map f) M1)
    (hf : ∀ env x, foldedSetIterable iter env x = pure x) : EvF c δ M (.ListComp elt [⟨tg, iter, ifs, 0⟩] scope pos) Pf := by
  refine f_lcA0 own ok hN (fun y σ H ad he hs R q => h y σ H ad he hs R fun J H1 ad1 ds src M1 n1 s1 w hP => q J H1 ad1 ds src M1 n1 s1 w ?_) hf
  obtain ⟨xs, g, e, hl, hk, ht, hd⟩ := hP
  subst e
  refine ⟨by rw [List.length_map]; exact hl, fun i acc M2 => M2 = M1 ∧ acc = ((xs.take i).filter pr).map f, ⟨rfl, rfl⟩, fun i acc M2 hI => by rw [hI.1]; exact hk, fun i d acc M2 hi hI => ?_, fun acc M2 hI => ?_⟩
  · obtain ⟨rfl, rfl⟩ := hI
    have hl2 := (List.getElem?_eq_some_iff.mp hi).1
    rw [List.length_map] at hl2
    rw [List.getElem?_map, List.getElem?_eq_getElem hl2] at hi
    have ed : g xs[i] = d := Option.some.inj hi
    subst ed
    have et : xs.take (i + 1) = xs.take i ++ [xs[i]] := by rw [List.take_succ, List.getElem?_eq_getElem hl2]; rfl
    obtain ⟨is, his, ht'⟩ := ht xs[i] (List.getElem_mem hl2)
    refine ⟨is, his, fun y σ H ad v he r Q q => ?_⟩
    refine ht' y σ H ad v he r Q fun σ2 δ2 e2 w2 pT => q σ2 δ2 e2 w2 fun y2 σ3 H3 ad3 he3 hs3 Q3 q3 => pT y2 σ3 H3 ad3 he3 hs3 Q3 fun b H4 ad4 M4 n4 s4 pB => q3 b H4 ad4 M4 n4 s4 ⟨fun hb => (pB.1 hb).imp ?_, fun hb => ?_⟩
    · rintro a M5 ⟨d', ea, h1, h2, h3⟩
      refine ⟨d', ea, h3, ?_⟩
      rw [et, List.filter_append, List.map_append, List.filter_cons, if_pos h1, h2]
      rfl
    · obtain ⟨h1, h3⟩ := pB.2 hb
      refine ⟨h3, ?_⟩
      rw [et, List.filter_append, List.map_append, List.filter_cons, if_neg (by rw [h1]; decide)]
      show _ = _ ++ []
      rw [List.append_nil]
  · obtain ⟨rfl, rfl⟩ := hI
    rw [List.length_map, List.take_length]
    exact hd

end
section
variable {c : SC} {δ : Dl} {M : List MO} {Post : AQ} {B : Bool → List MO → Prop} {a b e : Expr} {es : List Expr} {pos p p1 p2 tpos : Pos} {x : Str} {i k : Nat} {tg : Expr} {Pi : List AV → (List MO → Prop) → List MO → Prop}
theorem repAs_get {K : PySem.W.Frag} {ad : List Addr} {H : Hp} : ∀ {as : List AV} {vs : List V} {i : Nat} {a : AV}, RepAs K ad H as vs → as[i]? = some a → ∃ v, vs[i]? = some v ∧ RepA K ad H a v
  | [], _, _, _, _, e => by simp at e
  | _ :: _, _, 0, _, ⟨x, r, e, h1, _⟩, e2 => by
    subst e
    have : _ = _ := Option.some.inj e2
    subst this
    exact ⟨x, rfl, h1⟩
  | _ :: as, _, i + 1, a, ⟨x, r, e, _, h2⟩, e2 => by
    subst e
    exact repAs_get (as := as) (i := i) h2 e2
theorem i_la (h : EvX c δ M e fun a M1 => ∃ as, a = .la as ∧ Pi as (fun _ => True) M1) : EvIA c δ M tg e Pi := fun y σ H ad he hs R q =>
  ⟨_, pi_seq wE_ok, h y σ H ad he hs _ fun v H1 ad1 a M1 n1 s1 r1 ⟨as, ea, p1⟩ => by
    subst ea
    obtain ⟨qq, xs, rfl, hq, rr⟩ := r1
    refine .inl ⟨qq, rfl, ⟨xs, hq.sq⟩, q _ H1 ad1 as _ M1 n1 s1 (fun ad2 H2 M2 n s _ i => ⟨fun d hd => ?_, fun ei => ⟨xs, (hq.nx n).sq, by rw [repAs_length rr, ei]; exact Nat.le_refl _⟩⟩) p1⟩
    obtain ⟨w, hw, rw'⟩ := repAs_get (rr.nx n) hd
    refine ⟨⟨xs, w, (hq.nx n).sq, hw⟩, fun x H3 ⟨e3, y⟩ => ?_⟩
    subst e3
    have := y xs (hq.nx n).sq
    rw [hw] at this
    cases this
    exact ⟨Same.refl _, rw'⟩⟩
theorem ltA_n {elt : Expr} {ifs : List Expr} {vs : List Nat} {d : AV} {yes : D → List MO → Prop} {no : List MO → Prop} [hN : VarAt c.N x i] [hk : NamesOk c.N] (hi : i ∈ vs) (hx : Loc c.sc x) (hf : c.fn x = true ∨ c.sc.names.lookup x = some .local)
    (h : EvTs c (δ.set i (some d)) M ifs fun k M3 => (k = true → EvX c (δ.set i (some d)) M3 elt fun a M4 => ∃ d', a = .dat d' ∧ yes d' M4) ∧ (k = false → no M3)) : LcTurnA c δ (.Name x pos) elt ifs vs d M yes no :=
  ⟨[i], fun j hj => (by rw [List.mem_singleton.mp hj]; exact hi), g_n hx hf h⟩
/-- (..), things of any kind -/
theorem x_tupA (h : EvA c δ M es fun as M1 => as.length ≤ 1000000 ∧ Post (.ta as) M1) : EvX c δ M (.Tuple es k pos) Post := fun y σ H ad he hs Q q =>
  ⟨_, pe_tup wA_ok, h y σ H ad he hs _ fun vs H1 ad1 as M1 n1 s1 r1 ⟨hl, p1⟩ => by
    refine ⟨by rw [repAs_length r1]; exact Nat.le_trans hl (by decide), fun p hp => ?_⟩
    have sm := same_new (o := .tup vs) hp
    exact q _ _ ad1 (.ta as) M1 (n1.trans (Nx.same sm)) (s1.same sm) ⟨p, vs, rfl, .inl (.inl upd_same), r1.nx (Nx.same sm)⟩ p1⟩
theorem b_catA {as bs : List AV} (hl : as.length + bs.length ≤ 1000000) (h : Post (.la (as ++ bs)) M) : BinR c (binaryOp .Add) (.la as) (.la bs) M Post := fun z H ad hs vx vy ⟨p, xs, ex, hx, rx⟩ ⟨p2, ys, ey, hy, ry⟩ Q q => by
  subst ex ey
  refine ⟨_, op_cat, p, p2, xs, ys, rfl, rfl, hx.1, hy.1, by rw [repAs_length rx, repAs_length ry]; exact Nat.le_trans hl (by decide), fun n hn => ?_⟩
  have sm := same_new (o := .lst (xs ++ ys)) hn
  exact q _ _ ad (.la (as ++ bs)) M (Nx.same sm) (hs.same sm) ⟨n, _, rfl, ⟨upd_same, hs.free hn⟩, repAs_append (rx.nx (Nx.same sm)) (ry.nx (Nx.same sm))⟩ h
/-- what more of a class is wanted for isinstance, ==, != -/
structure ClsE (K : PySem.W.Frag) (C : Addr) : Prop where
  cl : Cls K C
  ha : PySem.W.findIn K (.ref C) "__class__" = some (some (.builtin "object.__class__"))
  hn : PySem.W.specialIn K (.builtin "object.__class__") "__get__" = some (some (.builtin "getset_descriptor.__get__"))
  ht : PySem.W.takesIn K (.builtin "object.__class__") = some true
  hm : PySem.W.mroIn K C (.type "object") = some true
  k1 : PySem.W.kitOne K (.ref C) (.ref C) = some true
  k2 : PySem.W.kitOne K (.type "tuple") (.ref C) = some false
  nt : PySem.W.notFirst K C (.type "tuple") = true
  ne : PySem.W.findIn K (.ref C) "__ne__" = some (some (.builtin "object.__ne__"))
/-- isinstance(e, C), C an own class -/
theorem x_isiO {C : Addr} (T : ClsE c.K C) (hg : c.gl "isinstance") (hm : c.mg "isinstance" = none) (hg2 : c.gl x) (hm2 : c.mg x = some (.ref C)) (h : EvX c δ M e fun a M1 => (∃ j fs, a = .mut j ∧ M1[j]? = some (.ins C fs) ∧ Post (.dat (.bl true)) M1) ∨ ∃ ds, a = .dat (.tup ds) ∧ Post (.dat (.bl false)) M1)
    (hst : ∀ env, starEach [e, .Name x p1] env = (false, eval e env) :: starEach [.Name x p1] env) (hd : (x == ("__debug__" : Str)) = false := by decide) : EvX c δ M (.Call (.Name "isinstance" p) [e, .Name x p1] [] pos) Post := fun y σ H ad he hs Q q =>
  ⟨_, pe_callB (X := y.cx) call_isi (glS y hg) hm PyProof.Rows.boot_isinstance (pa_cons wE_ok (pa_cons (pe_glob (v := .ref C) (glS y hg2) hm2 rfl hd) pa_nil (by rfl)) (hst y.env)) (by decide) (by decide) (hst y.env) (by rfl), h y σ H ad he hs _ fun v H1 ad1 a1 M1 n1 s1 r1 p1 => by
    rcases p1 with ⟨j, fs, rfl, hj, p1⟩ | ⟨ds, rfl, p1⟩
    · obtain ⟨pp, dx, xs, rfl, hp, hH, hfs⟩ := st_ins s1 r1 hj
      exact ⟨_, .ref C, _, _, true, rfl, .own C, .base (.ins hH T.cl T.ha T.hn T.ht T.hm), T.k1, q _ H1 ad1 (.dat (.bl true)) M1 n1 s1 rfl p1⟩
    · obtain ⟨aa, xs, rfl, hq, rr⟩ := r1
      have ty : TyX y.cx.K H1 (.ref aa) (.type "tuple") := by
        rcases hq with (hq | ⟨o, hq⟩) | ⟨o, hq⟩
        · exact .base (.tup hq)
        · exact .fTuple hq
        · obtain ⟨its, n, hk, hc, _⟩ := hq
          exact .kTuple hk hc
      exact ⟨_, .ref C, _, _, false, rfl, .own C, ty, T.k2, q _ H1 ad1 (.dat (.bl false)) M1 n1 s1 rfl p1⟩⟩
section
variable {A : ASp} {C : Addr} {ql : Str} {st : Stmt} {ps : List Str} {j j' : Nat} {fs gs : List (Str × AV)}
theorem c_eqO (T : ClsE c.K C) (F : MetOk c.P c.w c.K c.mg c.base CX0 k C "__eq__" ql st ["self", "other"] (spOf c.K 2 A)) (hk : k ≤ c.k) (hj : M[j]? = some (.ins C fs)) {y : AV} (hy : (∃ j' gs, y = .mut j' ∧ M[j']? = some (.ins C gs)) ∨ ∃ ds, y = .dat (.tup ds))
    (h : A [.mut j, y] M fun r M2 => ∃ b : Bool, r = .dat (.bl b) ∧ B b M2) : CmpR c .Eq (.mut j) y M B := fun z H ad hs vx vy rx ry Q q => by
  obtain ⟨fa, fd, hc, hm, F1, hb, ok⟩ := F.ex
  obtain ⟨pp, dx, xs, rfl, hp, hH, hfs⟩ := st_ins hs rx hj
  refine ⟨_, op_eqO9 (X := z.cx) (C := C) ok (z.room.mono hk) hb hm.at_ hm.fn, pp, dx, xs, rfl, hH, ?_, rfl, ad, [.mut j, y], M, _, hs, ⟨_, _, rfl, rx, _, _, rfl, ry, rfl⟩, h, fun v H2 ad2 a2 M2 n2 s2 r2 ⟨b, e, p2⟩ => ?_⟩
  · rcases hy with ⟨j', gs, rfl, hj'⟩ | ⟨ds, rfl⟩
    · obtain ⟨p2, dy, ys, rfl, hp2, hH2, _⟩ := st_ins hs ry hj'
      exact .inl ⟨p2, dy, ys, rfl, hH2⟩
    · obtain ⟨t, ys, rfl, hq, _⟩ := ry
      exact .inr ⟨t, ys, rfl, hq, T.nt⟩
  · subst e
    exact ⟨b, r2, q b H2 ad2 M2 n2 s2 p2⟩
theorem c_neO (T : ClsE c.K C) (F : MetOk c.P c.w c.K c.mg c.base CX0 k C "__eq__" ql st ["self", "other"] (spOf c.K 2 A)) (hk : k + 1 ≤ c.k) (hj : M[j]? = some (.ins C fs)) (hj' : M[j']? = some (.ins C gs))
    (h : A [.mut j, .mut j'] M fun r M2 => ∃ b : Bool, r = .dat (.bl b) ∧ B (!b) M2) : CmpR c .NotEq (.mut j) (.mut j') M B := fun z H ad hs vx vy rx ry Q q => by
  obtain ⟨fa, fd, hc, hm, F1, hb, ok⟩ := F.ex
  obtain ⟨pp, dx, xs, rfl, hp, hH, hfs⟩ := st_ins hs rx hj
  obtain ⟨p2, dy, ys, rfl, hp2, hH2, _⟩ := st_ins hs ry hj'
  refine ⟨_, op_neO9 (X := z.cx) (C := C) ok (z.room.mono hk) hb hm.at_ hm.fn T.ne T.hm, pp, dx, xs, p2, dy, ys, rfl, hH, rfl, hH2, rfl, ad, [.mut j, .mut j'], M, _, hs, ⟨_, _, rfl, rx, _, _, rfl, ry, rfl⟩, h, fun v H2 ad2 a2 M2 n2 s2 r2 ⟨b, e, p2⟩ => ?_⟩
  subst e
  exact ⟨b, r2, q (!b) H2 ad2 M2 n2 s2 p2⟩
end
end
end Fx

/-! The mathematics: ways and rows. -/
namespace My
open Fx
/-- in how many ways k can be chosen of n -/
def ch : Nat → Nat → Nat
  | _, 0 => 1
  | 0, _ + 1 => 0
  | n + 1, k + 1 => ch n k + ch n (k + 1)
theorem ch_zero (n : Nat) : ch n 0 = 1 := by cases n <;> rfl
theorem ch_big : ∀ (n k : Nat), n < k → ch n k = 0
  | 0, 0, h => by omega
  | 0, _ + 1, _ => rfl
  | n + 1, 0, h => by omega
  | n + 1, k + 1, h => by
    show ch n k + ch n (k + 1) = 0
    rw [ch_big n k (by omega), ch_big n (k + 1) (by omega)]
theorem ch_succ (n k : Nat) : ch (n + 1) (k + 1) = ch n k + ch n (k + 1) := rfl
theorem ch_step : ∀ (n k : Nat), k ≤ n → (k + 1) * ch n (k + 1) = ch n k * (n - k)
  | 0, k, h => by
    have : k = 0 := by omega
    subst this
    rfl
  | n + 1, 0, _ => by
    rw [ch_succ, ch_zero, ch_zero, Nat.one_mul]
    have ih := ch_step n 0 (by omega)
    rw [ch_zero] at ih
    omega
  | n + 1, k + 1, h => by
    rw [ch_succ, ch_succ]
    have i1 := ch_step n k (by omega)
    by_cases hk : k + 1 ≤ n
    · have i2 := ch_step n (k + 1) hk
      obtain ⟨d, hd⟩ : ∃ d, n = k + 1 + d := ⟨n - (k + 1), by omega⟩
      subst hd
      have e1 : k + 1 + d - k = d + 1 := by omega
      have e2 : k + 1 + d - (k + 1) = d := by omega
      have e3 : k + 1 + d + 1 - (k + 1) = d + 1 := by omega
      rw [e1] at i1
      rw [e2] at i2
      rw [e3]
      generalize ch (k + 1 + d) k = A at *
      generalize ch (k + 1 + d) (k + 1) = B at *
      generalize ch (k + 1 + d) (k + 1 + 1) = C at *
      rw [Nat.mul_add, Nat.add_mul A B, ← i1]
      have : (k + 1 + 1) * C = B * d := i2
      rw [this]
      rw [Nat.add_mul (k + 1) 1 B, Nat.one_mul, Nat.mul_succ B d]
      omega
    · have : n = k := by omega
      subst this
      rw [ch_big n (n + 1) (by omega), ch_big n (n + 1 + 1) (by omega)]
      simp
def waysL (m : Int) : Nat → Int
  | 0 => 1
  | n + 1 => waysL m n * (m - n) / ((n : Int) + 1)
def waysN (m s : Int) : Int := if 0 ≤ s ∧ s ≤ m then waysL m s.toNat else 0
theorem waysL_ch (m : Nat) : ∀ n : Nat, n ≤ m → waysL (m : Int) n = (ch m n : Int)
  | 0, _ => by rw [ch_zero]; rfl
  | n + 1, h => by
    show waysL (m : Int) n * ((m : Int) - n) / ((n : Int) + 1) = _
    rw [waysL_ch m n (by omega)]
    have e := ch_step m n (by omega)
    have : (ch m n : Int) * ((m : Int) - n) = ((n : Int) + 1) * (ch m (n + 1) : Int) := by
      have h2 : ((m - n : Nat) : Int) = (m : Int) - n := by omega
      rw [← h2]
      exact_mod_cast e.symm
    rw [this, Int.mul_ediv_cancel_left _ (by omega)]
theorem waysN_ch (m s : Nat) : waysN (m : Int) (s : Int) = (ch m s : Int) := by
  unfold waysN
  by_cases h : s ≤ m
  · rw [if_pos ⟨by omega, by omega⟩, Int.toNat_natCast, waysL_ch m s h]
  · rw [if_neg (by omega), ch_big m s (by omega)]
    rfl
theorem waysN_out {m s : Int} (h : ¬ (0 ≤ s ∧ s ≤ m)) : waysN m s = 0 := if_neg h
theorem waysN_in {m s : Int} (h0 : 0 ≤ s) (h1 : s ≤ m) : waysN m s = waysL m s.toNat := if_pos ⟨h0, h1⟩
theorem ch_le : ∀ (n k : Nat), ch n k ≤ 2 ^ n
  | n, 0 => by rw [ch_zero]; exact Nat.one_le_two_pow
  | 0, _ + 1 => Nat.zero_le _
  | n + 1, k + 1 => by
    rw [ch_succ, Nat.pow_succ]
    have := ch_le n k
    have := ch_le n (k + 1)
    omega
theorem _root_.List.filter_true' {α : Type} (l : List α) : l.filter (fun _ => true) = l := by simp
/-! ### rows -/
/-- all rising rows of s numbers from first to many, in order: as the program's chosen makes them -/
def chosenL (many : Int) : Nat → Int → List (List Int)
  | 0, _ => [[]]
  | s + 1, first => (rg first (many - ((s : Int) + 1) + 2)).flatMap fun n => (chosenL many s (n + 1)).map (n :: ·)
theorem rg_cons {lo hi : Int} (h : lo < hi) : rg lo hi = lo :: rg (lo + 1) hi := by
  unfold rg
  obtain ⟨k, hk⟩ : ∃ k : Nat, (hi - lo).toNat = k + 1 := ⟨(hi - lo).toNat - 1, by omega⟩
  have h2 : (hi - (lo + 1)).toNat = k := by omega
  rw [hk, h2, List.range_succ_eq_map, List.map_cons, List.map_map]
  have e1 : lo + ((0 : Nat) : Int) = lo := by simp
  rw [e1]
  congr 1
  apply List.map_congr_left
  intro i _
  show lo + ((i + 1 : Nat) : Int) = lo + 1 + (i : Nat)
  omega
theorem rg_nil {lo hi : Int} (h : hi ≤ lo) : rg lo hi = [] := by
  unfold rg
  rw [show (hi - lo).toNat = 0 by omega]
  rfl
theorem chosen_nil {many : Int} {s : Nat} {first : Int} (h : many - s + 1 ≤ first) : chosenL many (s + 1) first = [] := by
  show (rg first (many - ((s : Int) + 1) + 2)).flatMap _ = []
  rw [rg_nil (lo := first) (hi := many - ((s : Int) + 1) + 2) (by omega)]
  rfl
theorem chosen_cons {many : Int} {s : Nat} {first : Int} (h : first ≤ many - s) : chosenL many (s + 1) first = (chosenL many s (first + 1)).map (first :: ·) ++ chosenL many (s + 1) (first + 1) := by
  show (rg first (many - ((s : Int) + 1) + 2)).flatMap _ = _
  rw [rg_cons (lo := first) (hi := many - ((s : Int) + 1) + 2) (by omega)]
  rfl
/-- how many: by counting -/
theorem chosen_count : ∀ (d : Nat) (s : Nat) (many first : Int), many + 1 - first = (d : Int) → (chosenL many s first).length = ch d s
  | d, 0, _, _, _ => by rw [ch_zero]; rfl
  | 0, s + 1, many, first, h => by
    rw [chosen_nil (many := many) (s := s) (first := first) (by omega)]
    rfl
  | d + 1, s + 1, many, first, h => by
    by_cases hh : first ≤ many - s
    · rw [chosen_cons hh, List.length_append, List.length_map, chosen_count d s many (first + 1) (by omega), chosen_count d (s + 1) many (first + 1) (by omega)]
      rfl
    · rw [chosen_nil (by omega), ch_big (d + 1) (s + 1) (by omega)]
      rfl
theorem chosen_none (s : Nat) (many first : Int) (h : many + 1 < first) : (chosenL many s first).length ≤ 1 := by
  cases s with
  | zero => exact Nat.le_refl 1
  | succ s =>
    rw [chosen_nil (by omega)]
    exact Nat.zero_le 1
theorem chosen_few (s : Nat) (many first : Int) (h1 : 1 ≤ first) (h2 : many ≤ 12) : (chosenL many s first).length ≤ 4096 := by
  by_cases h : many + 1 < first
  · exact Nat.le_trans (chosen_none s many first h) (by decide)
  · obtain ⟨d, hd⟩ : ∃ d : Nat, many + 1 - first = (d : Int) := ⟨(many + 1 - first).toNat, by omega⟩
    rw [chosen_count d s many first hd]
    have := ch_le d s
    have h3 : (2 : Nat) ^ d ≤ 2 ^ 12 := Nat.pow_le_pow_right (by decide) (by omega)
    have : (2 : Nat) ^ 12 = 4096 := by decide
    omega
theorem chosen_row_len {many : Int} : ∀ {s : Nat} {first : Int} {r : List Int}, r ∈ chosenL many s first → r.length = s
  | 0, _, r, h => by
    rw [List.mem_singleton.mp h]
    rfl
  | s + 1, first, r, h => by
    obtain ⟨n, _, h2⟩ := List.mem_flatMap.mp h
    obtain ⟨q, hq, e⟩ := List.mem_map.mp h2
    rw [← e, List.length_cons, chosen_row_len hq]
end My

/-! The mathematics: the law's own rows are the program's. -/
namespace My
open Fx
/-- all rising rows, made without looking ahead -/
def up (m : Int) : Nat → Int → List (List Int)
  | 0, _ => [[]]
  | s + 1, f => (rg f (m + 1)).flatMap fun n => (up m s (n + 1)).map (n :: ·)
theorem up_nil {m : Int} : ∀ {s : Nat} {f : Int}, m < f + s - 1 → up m s f = []  ∨ s = 0
  | 0, _, _ => .inr rfl
  | s + 1, f, h => by
    refine .inl ?_
    show (rg f (m + 1)).flatMap _ = []
    rw [List.flatMap_eq_nil_iff]
    intro n hn
    obtain ⟨h1, h2⟩ := rg_mem.mp hn
    rcases up_nil (m := m) (s := s) (f := n + 1) (by omega) with e | e
    · rw [e]; rfl
    · omega
theorem rg_split {a b c : Int} (h1 : a ≤ b) (h2 : b ≤ c) : rg a c = rg a b ++ rg b c := by
  obtain ⟨k, hk⟩ : ∃ k : Nat, b - a = k := ⟨(b - a).toNat, by omega⟩
  induction k generalizing a with
  | zero =>
    have : a = b := by omega
    subst this
    rw [rg_nil (Int.le_refl a)]
    rfl
  | succ k ih => rw [rg_cons (show a < c by omega), rg_cons (show a < b by omega), List.cons_append, ih (by omega) (by omega)]
theorem up_chosen {m : Int} : ∀ (s : Nat) (f : Int), up m s f = chosenL m s f
  | 0, _ => rfl
  | s + 1, f => by
    show (rg f (m + 1)).flatMap _ = (rg f (m - ((s : Int) + 1) + 2)).flatMap _
    have e : (fun n => (up m s (n + 1)).map (n :: ·)) = fun n => (chosenL m s (n + 1)).map (n :: ·) := by
      funext n
      rw [up_chosen s (n + 1)]
    rw [e]
    by_cases hc : m - ((s : Int) + 1) + 2 ≤ f
    · rw [rg_nil hc]
      show _ = []
      rw [List.flatMap_eq_nil_iff]
      intro n hn
      obtain ⟨h1, h2⟩ := rg_mem.mp hn
      rw [← up_chosen s (n + 1)]
      rcases up_nil (m := m) (s := s) (f := n + 1) (by omega) with e | e
      · rw [e]; rfl
      · omega
    · rw [rg_split (a := f) (b := m - ((s : Int) + 1) + 2) (c := m + 1) (by omega) (by omega), List.flatMap_append]
      have : ((rg (m - ((s : Int) + 1) + 2) (m + 1)).flatMap fun n => (chosenL m s (n + 1)).map (n :: ·)) = [] := by
        rw [List.flatMap_eq_nil_iff]
        intro n hn
        obtain ⟨h1, h2⟩ := rg_mem.mp hn
        rw [← up_chosen s (n + 1)]
        rcases up_nil (m := m) (s := s) (f := n + 1) (by omega) with e | e
        · rw [e]; rfl
        · omega
      rw [this, List.append_nil]
/-- by the last number instead of the first -/
theorem up_last {m : Int} : ∀ (s : Nat) (f : Int), up m (s + 1) f = (up m s f).flatMap fun r => (rg (1 + r.getLastD (f - 1)) (m + 1)).map fun x => r ++ [x]
  | 0, f => by
    show (rg f (m + 1)).flatMap (fun n => [[n]]) = [[]].flatMap _
    rw [List.flatMap_singleton]
    show _ = (rg (1 + (f - 1)) (m + 1)).map fun x => [x]
    rw [show 1 + (f - 1) = f by omega, List.flatMap_def]
    induction rg f (m + 1) with
    | nil => rfl
    | cons a l ih =>
      simp only [List.map_cons, List.flatten_cons, List.singleton_append] at ih ⊢
      rw [ih]
  | s + 1, f => by
    show (rg f (m + 1)).flatMap (fun n => (up m (s + 1) (n + 1)).map (n :: ·)) = ((rg f (m + 1)).flatMap fun n => (up m s (n + 1)).map (n :: ·)).flatMap _
    rw [List.flatMap_assoc]
    congr 1
    funext n
    rw [up_last s (n + 1), List.map_flatMap, List.flatMap_map]
    congr 1
    funext r
    rw [List.map_map, show n + 1 - 1 = n by omega, show (n :: r).getLastD (f - 1) = r.getLastD n by cases r <;> rfl]
    rfl
theorem up_mem {m : Int} : ∀ {s : Nat} {f : Int} {r : List Int}, r ∈ up m s f ↔ r.Pairwise (· < ·) ∧ (∀ x ∈ r, f ≤ x ∧ x ≤ m) ∧ r.length = s
  | 0, f, r => by
    show r ∈ [[]] ↔ _
    rw [List.mem_singleton]
    constructor
    · rintro rfl
      exact ⟨List.Pairwise.nil, fun x hx => (by cases hx), rfl⟩
    · rintro ⟨_, _, h⟩
      exact List.eq_nil_of_length_eq_zero h
  | s + 1, f, r => by
    show r ∈ (rg f (m + 1)).flatMap _ ↔ _
    rw [List.mem_flatMap]
    constructor
    · rintro ⟨n, hn, hr⟩
      obtain ⟨q, hq, rfl⟩ := List.mem_map.mp hr
      obtain ⟨h1, h2, h3⟩ := up_mem.mp hq
      obtain ⟨h4, h5⟩ := rg_mem.mp hn
      refine ⟨List.pairwise_cons.mpr ⟨fun x hx => by have := h2 x hx; omega, h1⟩, fun x hx => ?_, by rw [List.length_cons, h3]⟩
      rcases List.mem_cons.mp hx with rfl | hx
      · omega
      · have := h2 x hx
        omega
    · rintro ⟨h1, h2, h3⟩
      cases r with
      | nil => cases h3
      | cons n q =>
        obtain ⟨h4, h5⟩ := List.pairwise_cons.mp h1
        have hn := h2 n List.mem_cons_self
        refine ⟨n, rg_mem.mpr ⟨hn.1, by omega⟩, List.mem_map.mpr ⟨q, up_mem.mpr ⟨h5, fun x hx => ⟨?_, (h2 x (List.mem_cons_of_mem _ hx)).2⟩, by rw [List.length_cons] at h3; omega⟩, rfl⟩⟩
        have := h4 x hx
        omega
/-- the greatest, at least 0 -/
def rmax (r : List Int) : Int := r.foldl max 0
theorem foldl_max (r : List Int) : ∀ a : Int, a ≤ r.foldl max a ∧ (∀ x ∈ r, x ≤ r.foldl max a) ∧ (r.foldl max a = a ∨ r.foldl max a ∈ r) := by
  induction r with
  | nil => intro a; exact ⟨Int.le_refl _, fun x hx => (by cases hx), .inl rfl⟩
  | cons b r ih =>
    intro a
    obtain ⟨h1, h2, h3⟩ := ih (max a b)
    refine ⟨Int.le_trans (Int.le_max_left a b) h1, fun x hx => ?_, ?_⟩
    · rcases List.mem_cons.mp hx with rfl | hx
      · exact Int.le_trans (Int.le_max_right a x) h1
      · exact h2 x hx
    · rcases h3 with h3 | h3
      · show r.foldl max (max a b) = a ∨ r.foldl max (max a b) ∈ b :: r
        rw [h3]
        by_cases h : a ≤ b
        · rw [Int.max_eq_right h]
          exact .inr List.mem_cons_self
        · rw [Int.max_eq_left (by omega)]
          exact .inl rfl
      · exact .inr (List.mem_cons_of_mem _ h3)
theorem rmax_of {r : List Int} {m : Int} (h1 : m ∈ 0 :: r) (h2 : ∀ y, y ∈ 0 :: r → y ≤ m) : m = rmax r := by
  obtain ⟨a, b, c⟩ := foldl_max r 0
  have h3 : m ≤ rmax r := by
    rcases List.mem_cons.mp h1 with rfl | h
    · exact a
    · exact b m h
  have h4 : rmax r ≤ m := by
    rcases c with c | c
    · show r.foldl max 0 ≤ m
      rw [c]
      exact h2 0 List.mem_cons_self
    · exact h2 _ (List.mem_cons_of_mem _ c)
  omega
theorem rmax_last {r : List Int} (h : r.Pairwise (· < ·)) (h0 : ∀ x ∈ r, 1 ≤ x) : rmax r = r.getLastD 0 := by
  symm
  apply rmax_of
  · cases r with
    | nil => exact List.mem_cons_self
    | cons a r =>
      refine List.mem_cons_of_mem _ ?_
      have : (a :: r).getLastD 0 = (a :: r).getLast (by simp) := by
        simp [List.getLastD_eq_getLast?, List.getLast?_eq_getLast]
      rw [this]
      exact List.getLast_mem _
  · intro y hy
    rcases List.mem_cons.mp hy with rfl | hy
    · cases r with
      | nil => exact Int.le_refl _
      | cons a r =>
        have : (a :: r).getLastD 0 = (a :: r).getLast (by simp) := by
          simp [List.getLastD_eq_getLast?, List.getLast?_eq_getLast]
        rw [this]
        have := h0 _ (List.getLast_mem (l := a :: r) (by simp))
        omega
    · cases r with
      | nil => cases hy
      | cons a r =>
        have : (a :: r).getLastD 0 = (a :: r).getLast (by simp) := by
          simp [List.getLastD_eq_getLast?, List.getLast?_eq_getLast]
        rw [this]
        have e := List.dropLast_concat_getLast (l := a :: r) (by simp)
        rw [← e] at hy h
        rcases List.mem_append.mp hy with hy | hy
        · have := (List.pairwise_append.mp h).2.2 y hy _ (List.mem_singleton.mpr rfl)
          omega
        · rw [List.mem_singleton.mp hy]
          exact Int.le_refl _
def rowExt (m : Int) (r : List Int) : List (List Int) := (rg (1 + rmax r) (m + 1)).map fun x => r ++ [x]
/-- the law's rows -/
def rowsL (m : Int) : Nat → List (List Int)
  | 0 => [[]]
  | s + 1 => (rowsL m s).flatMap (rowExt m)
theorem flatMap_same {α β : Type} {l : List α} {f g : α → List β} (h : ∀ x ∈ l, f x = g x) : l.flatMap f = l.flatMap g := by
  induction l with
  | nil => rfl
  | cons a l ih => rw [List.flatMap_cons, List.flatMap_cons, h a List.mem_cons_self, ih fun x hx => h x (List.mem_cons_of_mem _ hx)]
theorem rows_up {m : Int} : ∀ s : Nat, rowsL m s = up m s 1
  | 0 => rfl
  | s + 1 => by
    show (rowsL m s).flatMap (rowExt m) = _
    rw [rows_up s, up_last s 1]
    apply flatMap_same
    intro r hr
    obtain ⟨h1, h2, _⟩ := up_mem.mp hr
    unfold rowExt
    rw [rmax_last h1 fun x hx => (h2 x hx).1]
    rfl
theorem rows_chosen {m : Int} (s : Nat) : rowsL m s = chosenL m s 1 := by rw [rows_up, up_chosen]
theorem chosen_mem {m : Int} {s : Nat} {f : Int} {r : List Int} : r ∈ chosenL m s f ↔ r.Pairwise (· < ·) ∧ (∀ x ∈ r, f ≤ x ∧ x ≤ m) ∧ r.length = s := by rw [← up_chosen, up_mem]
theorem getElem_map {α β : Type} {f : α → β} {l : List α} {i : Nat} {b : β} (h : (l.map f)[i]? = some b) : ∃ a, l[i]? = some a ∧ b = f a := by
  rw [List.getElem?_map] at h
  cases q : l[i]? with
  | none => rw [q] at h; cases h
  | some a =>
    rw [q] at h
    exact ⟨a, rfl, (Option.some.inj h).symm⟩
end My

/-! what is right, the spreads: definitions and plain facts -/
namespace My
open PySem L2 Fx
/-- a rising row of numbers up to m -/
def Row (m : Int) (t : List Int) : Prop := t.Pairwise (· < ·) ∧ ∀ x ∈ t, 1 ≤ x ∧ x ≤ m
def Book (m : Int) (b : List (List Int)) : Prop := ∀ t ∈ b, Row m t ∧ t ≠ []
def rightL (t d : List Int) : Nat := (d.filter fun x => decide (x ∈ t)).length
def bestL (b : List (List Int)) (d : List Int) : Nat := (b.map fun t => rightL t d).foldl max 0
def spreadL (m d : Int) (z : Nat) : List Int := (List.range (z + 1)).map fun (r : Nat) => waysN z r * waysN (m - z) (d - r)
def bspreadL (m : Int) (d : Nat) (b : List (List Int)) : List Int := (List.range (d + 1)).map fun r => (((chosenL m d 1).filter fun w => decide (bestL b w = r)).length : Int)
theorem inD_int (x : Int) (t : List Int) : inD (.int x) (t.map .int) = decide (x ∈ t) := by
  unfold inD inV
  rw [List.map_map, List.any_map]
  induction t with
  | nil => simp
  | cons y t ih =>
    rw [List.any_cons, ih]
    have e : eqV (V.int y) (V.int x) = decide (y = x) := by
      show _ = _
      simp [eqV, Bool.beq_eq_decide_eq]
    have e2 : (((fun z => eqV z (flV (D.int x))) ∘ flV ∘ D.int) y) = decide (y = x) := e
    rw [e2]
    by_cases h : y = x
    · subst h; simp
    · have h2 : ¬ x = y := fun q => h q.symm
      simp [h, h2]
theorem fl_ints (t : List Int) : (t.map D.int).all fl = true := by
  rw [List.all_map]
  apply List.all_eq_true.mpr
  intro x _
  rfl
theorem rg_nodup (a b : Int) : (rg a b).Nodup := by
  unfold rg List.Nodup
  rw [List.pairwise_map]
  exact List.nodup_range.imp fun h e => h (by omega)
/-- sorted pieces of 1 .. m are rows -/
theorem row_of {m : Int} {ns F L : List Int} (h1 : ns.Perm F) (h2 : ns.Pairwise (· ≤ ·)) (hp : (L ++ F).Perm (rg 1 (m + 1))) : Row m ns := by
  have nd : (L ++ F).Nodup := hp.nodup_iff.mpr (rg_nodup _ _)
  have ndF : ns.Nodup := h1.nodup_iff.mpr (List.nodup_append.mp nd).2.1
  refine ⟨?_, fun x hx => ?_⟩
  · exact (List.Pairwise.and h2 ndF).imp fun ⟨h, k⟩ => by omega
  · have : x ∈ rg 1 (m + 1) := hp.mem_iff.mp (List.mem_append_right _ (h1.mem_iff.mp hx))
    rw [rg_mem] at this
    omega
theorem Row.len {m : Int} {t : List Int} (h : Row m t) (h0 : 0 ≤ m) : (t.length : Int) ≤ m := by
  have nd : t.Nodup := h.1.imp fun h e => by omega
  have := nodup_len t (rg 1 (m + 1)) nd fun x hx => rg_mem.mpr (by have := h.2 x hx; omega)
  rw [rg_len] at this
  omega
theorem erase_perm {α : Type} : ∀ {l : List α} {i : Nat} {x : α}, l[i]? = some x → (x :: l.eraseIdx i).Perm l
  | [], i, x, h => by simp at h
  | y :: l, 0, x, h => by
    have : y = x := Option.some.inj h
    subst this
    exact List.Perm.refl _
  | y :: l, i + 1, x, h => (List.Perm.swap y x _).trans (List.Perm.cons y (erase_perm (l := l) (i := i) h))
theorem take_drop_perm {α : Type} {l : List α} {i : Nat} {x : α} (h : l[i]? = some x) (F : List α) : (l.eraseIdx i ++ (F ++ [x])).Perm (l ++ F) := by
  have h1 : (x :: l.eraseIdx i).Perm l := erase_perm h
  have h2 : (l.eraseIdx i ++ (F ++ [x])).Perm ((x :: l.eraseIdx i) ++ F) := by
    rw [← List.append_assoc]
    exact (List.perm_append_comm (l₁ := l.eraseIdx i ++ F) (l₂ := [x]))
  exact h2.trans (h1.append_right F)
theorem foldl_max_nat (l : List Nat) : ∀ a : Nat, a ≤ l.foldl max a ∧ (∀ x ∈ l, x ≤ l.foldl max a) ∧ (l.foldl max a = a ∨ l.foldl max a ∈ l) := by
  induction l with
  | nil => intro a; exact ⟨Nat.le_refl _, fun x h => (by cases h), .inl rfl⟩
  | cons y l ih =>
    intro a
    obtain ⟨h1, h2, h3⟩ := ih (max a y)
    rw [List.foldl_cons]
    refine ⟨by omega, fun x hx => ?_, ?_⟩
    · rcases List.mem_cons.mp hx with rfl | hx
      · omega
      · exact h2 x hx
    · rcases h3 with h3 | h3
      · rw [h3]
        by_cases h : a ≤ y
        · right; rw [Nat.max_eq_right h]; exact List.mem_cons_self
        · left; omega
      · exact .inr (List.mem_cons_of_mem _ h3)
/-- max of the list of what is right -/
theorem best_nil (d : List Int) : bestL [] d = 0 := rfl
theorem best_of_max {b : List (List Int)} {d : List Int} {m : Int} (h1 : m ∈ b.map fun t => (rightL t d : Int)) (h2 : ∀ y, y ∈ (b.map fun t => (rightL t d : Int)) → y ≤ m) : m = (bestL b d : Int) := by
  obtain ⟨t, ht, rfl⟩ := List.mem_map.mp h1
  obtain ⟨g1, g2, g3⟩ := foldl_max_nat (b.map fun t => rightL t d) 0
  have a1 : rightL t d ≤ bestL b d := g2 _ (List.mem_map.mpr ⟨t, ht, rfl⟩)
  rcases g3 with g3 | g3
  · have : bestL b d = 0 := g3
    omega
  · obtain ⟨u, hu, e⟩ := List.mem_map.mp g3
    have := h2 (rightL u d : Int) (List.mem_map.mpr ⟨u, hu, rfl⟩)
    have e2 : rightL u d = bestL b d := e
    omega
theorem right_le (t d : List Int) : rightL t d ≤ d.length := List.length_filter_le _ _
theorem best_le (b : List (List Int)) (d : List Int) : bestL b d ≤ d.length := by
  obtain ⟨g1, g2, g3⟩ := foldl_max_nat (b.map fun t => rightL t d) 0
  rcases g3 with g3 | g3
  · have : bestL b d = 0 := g3
    omega
  · obtain ⟨u, hu, e⟩ := List.mem_map.mp g3
    have e2 : rightL u d = bestL b d := e
    have := right_le u d
    omega
/-- counting up, draw by draw -/
def tally (n : Nat) (f : List Int → Nat) (ws : List (List Int)) : List Int := (List.range n).map fun r => ((ws.filter fun w => decide (f w = r)).length : Int)
theorem tally_len (n : Nat) (f : List Int → Nat) (ws : List (List Int)) : (tally n f ws).length = n := by unfold tally; rw [List.length_map, List.length_range]
theorem tally_nil (n : Nat) (f : List Int → Nat) : tally n f [] = List.replicate n 0 := by
  unfold tally
  apply List.ext_getElem
  · simp
  · intro i h1 h2; simp
theorem tally_get {n : Nat} {f : List Int → Nat} {ws : List (List Int)} {r : Nat} (h : r < n) : (tally n f ws)[r]? = some ((ws.filter fun w => decide (f w = r)).length : Int) := by
  unfold tally
  rw [List.getElem?_map, List.getElem?_range h]
  rfl
theorem tally_snoc {n : Nat} {f : List Int → Nat} {ws : List (List Int)} {w : List Int} (h : f w < n) : tally n f (ws ++ [w]) = (tally n f ws).set (f w) (((ws.filter fun u => decide (f u = f w)).length : Int) + 1) := by
  apply List.ext_getElem?
  intro i
  by_cases hi : i < n
  · rw [tally_get hi]
    by_cases e : f w = i
    · subst e
      rw [List.getElem?_set_self (by rw [tally_len]; exact h), List.filter_append, List.length_append]
      simp
    · rw [List.getElem?_set_ne e, tally_get hi, List.filter_append, List.length_append]
      simp [e]
  · rw [List.getElem?_eq_none (by rw [tally_len]; omega), List.getElem?_eq_none (by rw [List.length_set, tally_len]; omega)]
theorem waysN_bound (a s : Int) (h : a ≤ 60) : 0 ≤ waysN a s ∧ waysN a s ≤ 2 ^ 60 := by
  by_cases hs : 0 ≤ s ∧ s ≤ a
  · obtain ⟨an, rfl⟩ : ∃ n : Nat, a = (n : Int) := ⟨a.toNat, by omega⟩
    obtain ⟨sn, rfl⟩ : ∃ n : Nat, s = (n : Int) := ⟨s.toNat, by omega⟩
    rw [waysN_ch]
    refine ⟨by omega, ?_⟩
    have h1 := ch_le an sn
    have h2 : 2 ^ an ≤ 2 ^ 60 := Nat.pow_le_pow_right (by decide) (by omega)
    omega
  · rw [waysN_out hs]
    omega
theorem rep_ints (n : Nat) : (List.replicate n (0 : Int)).map D.int = (List.replicate n [D.int 0]).flatten := by
  rw [List.map_replicate]
  induction n with
  | zero => rfl
  | succ n ih => rw [List.replicate_succ, List.replicate_succ, List.flatten_cons, ← ih]; rfl
end My

/-! how many draws have so many right -/
namespace My
open PySem L2 Fx
theorem same_right {t r out : List Int} (hn : out.Nodup) (hm : ∀ k, k ∈ out ↔ k ∈ t ∧ k ∈ r) (hr : r.Nodup) : out.length = rightL t r := by
  unfold rightL
  have h2 : (r.filter fun x => decide (x ∈ t)).Nodup := List.Pairwise.filter _ hr
  refine Nat.le_antisymm (nodup_len _ _ hn fun x hx => ?_) (nodup_len _ _ h2 fun x hx => ?_)
  · have := (hm x).mp hx
    exact List.mem_filter.mpr ⟨this.2, decide_eq_true this.1⟩
  · obtain ⟨h3, h4⟩ := List.mem_filter.mp hx
    exact (hm x).mpr ⟨of_decide_eq_true h4, h3⟩
theorem Row.nodup {m : Int} {t : List Int} (h : Row m t) : t.Nodup := h.1.imp fun h e => by omega
theorem chosen_nodup {m : Int} {s : Nat} {f : Int} {r : List Int} (h : r ∈ chosenL m s f) : r.Nodup := (chosen_mem.mp h).1.imp fun h e => by omega
theorem chosen_row {m : Int} {s : Nat} {r : List Int} (h : r ∈ chosenL m s 1) : Row m r := ⟨(chosen_mem.mp h).1, (chosen_mem.mp h).2.1⟩
theorem top_best {b : List (List Int)} {d : List Int} {m : Int} (h1 : m ∈ 0 :: b.map fun t => (rightL t d : Int)) (h2 : ∀ y, y ∈ (0 :: b.map fun t => (rightL t d : Int)) → y ≤ m) : m = (bestL b d : Int) := by
  rcases List.mem_cons.mp h1 with e | h1
  · subst e
    obtain ⟨g1, g2, g3⟩ := foldl_max_nat (b.map fun t => rightL t d) 0
    rcases g3 with g3 | g3
    · have : bestL b d = 0 := g3
      omega
    · obtain ⟨u, hu, e⟩ := List.mem_map.mp g3
      have := h2 (rightL u d : Int) (List.mem_cons_of_mem _ (List.mem_map.mpr ⟨u, hu, rfl⟩))
      have e2 : rightL u d = bestL b d := e
      omega
  · exact best_of_max h1 fun y hy => h2 y (List.mem_cons_of_mem _ hy)
/-- of the numbers from f to m, how many are of t -/
def inFrom (t : List Int) (f m : Int) : Nat := ((rg f (m + 1)).filter fun x => decide (x ∈ t)).length
def cnt (t : List Int) (m : Int) (s : Nat) (f : Int) (r : Nat) : Nat := ((chosenL m s f).filter fun w => decide (rightL t w = r)).length
theorem cnt_eq (t : List Int) (m : Int) : ∀ (n : Nat) (f : Int) (s r : Nat), m + 1 - f = (n : Int) → inFrom t f m ≤ n ∧ cnt t m s f r = if r ≤ s then ch (inFrom t f m) r * ch (n - inFrom t f m) (s - r) else 0
  | 0, f, s, r, hn => by
    have e : rg f (m + 1) = [] := rg_nil (by omega)
    have e1 : inFrom t f m = 0 := by unfold inFrom; rw [e]; rfl
    refine ⟨by omega, ?_⟩
    rw [e1]
    cases s with
    | zero =>
      unfold cnt chosenL
      cases r with
      | zero => rfl
      | succ r => simp [rightL]
    | succ s =>
      unfold cnt
      rw [chosen_nil (by omega)]
      by_cases h : r ≤ s + 1
      · rw [if_pos h]
        cases r with
        | zero => rfl
        | succ r => rw [show ch 0 (r + 1) = 0 from rfl, Nat.zero_mul]; rfl
      · rw [if_neg h]; rfl
  | n + 1, f, s, r, hn => by
    obtain ⟨hle, _⟩ := cnt_eq t m n (f + 1) 0 0 (by omega)
    have ih := fun s r => (cnt_eq t m n (f + 1) s r (by omega)).2
    have e : rg f (m + 1) = f :: rg (f + 1) (m + 1) := rg_cons (by omega)
    have e1 : inFrom t f m = (if f ∈ t then 1 else 0) + inFrom t (f + 1) m := by
      unfold inFrom
      rw [e, List.filter_cons]
      by_cases h : f ∈ t
      · rw [if_pos (decide_eq_true h), if_pos h, List.length_cons]; omega
      · rw [if_neg (by simp [h]), if_neg h]; omega
    have hI : inFrom t f m ≤ n + 1 := by rw [e1]; split <;> omega
    refine ⟨hI, ?_⟩
    cases s with
    | zero =>
      unfold cnt chosenL
      cases r with
      | zero => simp [rightL, ch_zero]
      | succ r => simp [rightL]
    | succ s =>
      by_cases hs : f ≤ m - s
      · have ec : cnt t m (s + 1) f r = ((chosenL m s (f + 1)).filter fun w => decide (rightL t (f :: w) = r)).length + cnt t m (s + 1) (f + 1) r := by
          unfold cnt
          rw [chosen_cons hs, List.filter_append, List.length_append, List.filter_map, List.length_map]
          rfl
        have hr : ∀ w, rightL t (f :: w) = (if f ∈ t then 1 else 0) + rightL t w := by
          intro w
          unfold rightL
          rw [List.filter_cons]
          by_cases h : f ∈ t
          · rw [if_pos (decide_eq_true h), if_pos h, List.length_cons]; omega
          · rw [if_neg (by simp [h]), if_neg h]; omega
        rw [ec, e1, ih (s + 1) r]
        by_cases h : f ∈ t
        · simp only [if_pos h] at hr ⊢
          cases r with
          | zero =>
            have z : ((chosenL m s (f + 1)).filter fun w => decide (rightL t (f :: w) = 0)) = [] := List.filter_eq_nil_iff.mpr fun w _ q => by
              have := of_decide_eq_true q
              rw [hr w] at this
              omega
            rw [z, if_pos (Nat.zero_le _), if_pos (Nat.zero_le _), ch_zero, ch_zero, show n + 1 - (1 + inFrom t (f + 1) m) = n - inFrom t (f + 1) m by omega]
            simp
          | succ r =>
            have z : ((chosenL m s (f + 1)).filter fun w => decide (rightL t (f :: w) = r + 1)).length = cnt t m s (f + 1) r := by
              unfold cnt
              congr 2
              funext w
              rw [hr w]
              exact decide_eq_decide.mpr (by omega)
            rw [z, ih s r, show n + 1 - (1 + inFrom t (f + 1) m) = n - inFrom t (f + 1) m by omega, show 1 + inFrom t (f + 1) m = inFrom t (f + 1) m + 1 by omega, ch_succ]
            by_cases hrs : r ≤ s
            · rw [if_pos hrs, if_pos (by omega), if_pos (by omega), show s + 1 - (r + 1) = s - r by omega, Nat.add_mul]
            · rw [if_neg hrs, if_neg (by omega), if_neg (by omega)]
        · simp only [if_neg h] at hr ⊢
          have z : ((chosenL m s (f + 1)).filter fun w => decide (rightL t (f :: w) = r)).length = cnt t m s (f + 1) r := by
            unfold cnt
            congr 2
            funext w
            rw [hr w, Nat.zero_add]
          rw [z, ih s r, Nat.zero_add, show n + 1 - inFrom t (f + 1) m = (n - inFrom t (f + 1) m) + 1 by omega]
          by_cases hrs : r ≤ s
          · rw [if_pos hrs, if_pos (by omega), if_pos (by omega), show s + 1 - r = (s - r) + 1 by omega, ch_succ, Nat.mul_add]
          · rw [if_neg hrs]
            by_cases hr1 : r ≤ s + 1
            · rw [if_pos hr1, if_pos hr1, show s + 1 - r = 0 by omega, ch_zero, ch_zero]
              omega
            · rw [if_neg hr1, if_neg hr1]
      · have ez : cnt t m (s + 1) f r = 0 := by
          unfold cnt
          rw [chosen_nil (by omega)]
          rfl
        rw [ez, e1]
        by_cases hrs : r ≤ s + 1
        · rw [if_pos hrs]
          symm
          rw [← e1]
          rcases Nat.lt_or_ge (inFrom t f m) r with h1 | h1
          · rw [ch_big _ _ h1, Nat.zero_mul]
          · rw [ch_big (n + 1 - inFrom t f m) (s + 1 - r) (by omega), Nat.mul_zero]
        · rw [if_neg hrs]
theorem inFrom_row {m : Int} {t : List Int} (h : Row m t) : inFrom t 1 m = t.length := by
  unfold inFrom
  have h2 : ((rg 1 (m + 1)).filter fun x => decide (x ∈ t)).Nodup := List.Pairwise.filter _ (rg_nodup _ _)
  refine Nat.le_antisymm (nodup_len _ _ h2 fun x hx => of_decide_eq_true (List.mem_filter.mp hx).2) (nodup_len _ _ h.nodup fun x hx => ?_)
  refine List.mem_filter.mpr ⟨rg_mem.mpr ?_, decide_eq_true hx⟩
  have := h.2 x hx
  omega
/-- a ticket's spread counts the draws -/
theorem spread_cnt {n d : Nat} {t : List Int} (h : Row n t) (hd : d ≤ n) : spreadL n d t.length = (List.range (t.length + 1)).map fun r => (cnt t n d 1 r : Int) := by
  unfold spreadL
  apply List.map_congr_left
  intro r hr
  have hl := h.len (by omega)
  obtain ⟨_, e⟩ := cnt_eq t n n 1 d r (by omega)
  rw [e, inFrom_row h, waysN_ch, show ((n : Int) - t.length) = ((n - t.length : Nat) : Int) by omega]
  by_cases hrd : r ≤ d
  · rw [if_pos hrd, show ((d : Int) - r) = ((d - r : Nat) : Int) by omega, waysN_ch]
    simp
  · rw [if_neg hrd, waysN_out (by omega)]
    simp
theorem count_map_cast {α : Type} (l : List α) (f : α → Nat) (r : Nat) : (l.map fun x => (f x : Int)).count (r : Int) = (l.filter fun x => decide (f x = r)).length := by
  induction l with
  | nil => rfl
  | cons x l ih =>
    rw [List.map_cons, List.count_cons, List.filter_cons, ih]
    by_cases h : f x = r
    · have : ((f x : Int) == (r : Int)) = true := by simp [h]
      rw [if_pos this, if_pos (decide_eq_true h), List.length_cons]
    · have : ¬ ((f x : Int) == (r : Int)) = true := by simp; omega
      rw [if_neg this, if_neg (by simp [h])]
      rfl
end My

/-! what is missed -/
namespace My
open PySem L2 Fx
/-- the draws that are missed -/
def missL (m : Int) (s : Nat) (b : List (List Int)) (r : Int) : List (List Int) := (chosenL m s 1).filter fun w => decide ((bestL b w : Int) < r)
/-- the first, or None -/
def headD : List (List Int) → D
  | [] => .non
  | r :: _ => tI r
theorem miss_sub {m : Int} {s : Nat} {b : List (List Int)} {r : Int} {w : List Int} (h : w ∈ missL m s b r) : w ∈ chosenL m s 1 := (List.mem_filter.mp h).1
theorem miss_few {m : Int} {s : Nat} {b : List (List Int)} {r : Int} (h2 : m ≤ 12) : (missL m s b r).length ≤ 4096 := Nat.le_trans (List.length_filter_le _ _) (chosen_few s m 1 (by omega) h2)
theorem ok_headD (n : Nat) (l : List (List Int)) : okD (n + 1) (headD l) = true := by
  cases l with
  | nil => rfl
  | cons r l => exact ok_tI n r
end My

/-! xs[0] if xs != [] else None -/
namespace My
open PySem L2 Fx
section
variable {c : SC} {δ : Dl} {M : List MO} {Post : AQ} {x : Str} {p1 p2 p3 p4 p5 p6 p7 pos : Pos} {j1 j2 k : Nat}
theorem x_head {l : List (List Int)} {i : Nat} [hN : VarAt c.N x i] [hk : NamesOk c.N] (hd : δ[i]? = some (some (.ls (l.map tI)))) (hv : Vis c.sc x) (h : Post (.dat (headD l)) M) :
    EvX c δ M (.IfExp (.Compare (.Name x p1) [.NotEq] [.List [] p2] p3) (.Subscript (.Name x p4) (.Constant (.int 0) j1 p5) p6) (.Constant .none j2 p7) pos) Post := by
  refine x_if (t_cmp (x_v hd hv (x_F (f_lst (a_nil ?_)))) (by rfl))
  refine dats_ex (by decide) ?_
  refine c_neNil 1 (all_ok_tI 0 _) ?_
  rw [isEmpty_map']
  cases l with
  | nil => exact ⟨fun z => (by cases z), fun _ => x_non h⟩
  | cons t l => exact ⟨fun _ => x_ix (x_v hd hv (x_int (ix_ls (d := tI t) (atI_at (n := 0) rfl rfl) h))) (fun _ _ => rfl), fun z => (by cases z)⟩
end
end My

/-! what chance tells -/
namespace My
open PySem L2 Fx
/-- binomials by the product -/
def chF (n k : Nat) : Nat := if k ≤ n then (List.range k).foldl (fun f i => f * (n - i) / (i + 1)) 1 else 0
theorem chF_ch : ∀ n < 13, ∀ k < 13, ch n k = chF n k := by decide +kernel
def spN (n d z : Nat) : List Nat := (List.range (z + 1)).map fun r => if r ≤ d then chF z r * chF (n - z) (d - r) else 0
theorem vand0 : ∀ n < 13, ∀ d < 13, ∀ z < 13, z ≤ n → d ≤ n → (spN n d z).sum = chF n d := by decide +kernel
theorem mean0 : ∀ n < 13, ∀ d < 13, ∀ z < 13, z ≤ n → d ≤ n → n * ((spN n d z).zipIdx.map fun q => q.2 * q.1).sum = d * z * chF n d := by decide +kernel
theorem swap0 : ∀ n < 13, ∀ d < n + 1, ∀ z < n + 1, ∀ r < min d z + 1, (spN n d z)[r]?.getD 0 * chF n z = (spN n z d)[r]?.getD 0 * chF n d := by decide +kernel
theorem spread_nat {n d z : Nat} (hn : n < 13) (hd : d ≤ n) (hz : z ≤ n) : spreadL n d z = (spN n d z).map fun (x : Nat) => (x : Int) := by
  unfold spreadL spN
  rw [List.map_map]
  apply List.map_congr_left
  intro r hr
  have hr := List.mem_range.mp hr
  show waysN z r * waysN ((n : Int) - z) (d - r) = ((if r ≤ d then chF z r * chF (n - z) (d - r) else 0 : Nat) : Int)
  rw [waysN_ch, show ((n : Int) - z) = ((n - z : Nat) : Int) by omega]
  by_cases h : r ≤ d
  · rw [if_pos h, show ((d : Int) - r) = ((d - r : Nat) : Int) by omega, waysN_ch, chF_ch z (by omega) r (by omega), chF_ch (n - z) (by omega) (d - r) (by omega)]
    simp
  · rw [if_neg h, waysN_out (by omega)]
    simp
theorem sum_cast (l : List Nat) : (l.map fun (x : Nat) => (x : Int)).sum = ((l.sum : Nat) : Int) := by
  induction l with
  | nil => rfl
  | cons x l ih => rw [List.map_cons, List.sum_cons, List.sum_cons, ih]; simp
theorem vand {n d z : Nat} (hn : n < 13) (hd : d ≤ n) (hz : z ≤ n) : (spreadL n d z).sum = waysN n d := by
  rw [spread_nat hn hd hz, sum_cast, vand0 n hn d (by omega) z (by omega) hz hd, waysN_ch, chF_ch n hn d (by omega)]
theorem mean_all {n d z : Nat} (hn : n < 13) (hd : d ≤ n) (hz : z ≤ n) : (n : Int) * ((spreadL n d z).zipIdx.map fun q => (q.2 : Int) * q.1).sum = (d : Int) * z * waysN n d := by
  rw [spread_nat hn hd hz, waysN_ch, chF_ch n hn d (by omega)]
  have e : ((((spN n d z).map fun (x : Nat) => (x : Int)).zipIdx.map fun q => (q.2 : Int) * q.1)) = (((spN n d z).zipIdx.map fun q => q.2 * q.1).map fun (x : Nat) => (x : Int)) := by
    rw [List.zipIdx_map, List.map_map, List.map_map]
    apply List.map_congr_left
    intro q _
    simp
  rw [e, sum_cast]
  have := mean0 n hn d (by omega) z (by omega) hz hd
  have h2 : ((n * ((spN n d z).zipIdx.map fun q => q.2 * q.1).sum : Nat) : Int) = ((d * z * chF n d : Nat) : Int) := by rw [this]
  simpa using h2
theorem spread_len (m d : Int) (z : Nat) : (spreadL m d z).length = z + 1 := by unfold spreadL; rw [List.length_map, List.length_range]
theorem swap_all {n d z r : Nat} (hn : n < 13) (hd : d ≤ n) (hz : z ≤ n) (h1 : r ≤ d) (h2 : r ≤ z) {x y : Int} (hx : (spreadL n d z)[r]? = some x) (hy : (spreadL n z d)[r]? = some y) : x * waysN n z = y * waysN n d := by
  rw [spread_nat hn hd hz, List.getElem?_map] at hx
  rw [spread_nat hn hz hd, List.getElem?_map] at hy
  have := swap0 n hn d (by omega) z (by omega) r (by omega)
  cases qa : (spN n d z)[r]? with
  | none => rw [qa] at hx; cases hx
  | some a =>
    cases qb : (spN n z d)[r]? with
    | none => rw [qb] at hy; cases hy
    | some b =>
      rw [qa] at hx
      rw [qb] at hy
      rw [qa, qb] at this
      have ex : (a : Int) = x := Option.some.inj hx
      have ey : (b : Int) = y := Option.some.inj hy
      subst ex ey
      rw [waysN_ch, waysN_ch, chF_ch n hn d (by omega), chF_ch n hn z (by omega)]
      have h3 : ((a * chF n z : Nat) : Int) = ((b * chF n d : Nat) : Int) := by
        have : a * chF n z = b * chF n d := this
        rw [this]
      simpa using h3
/-- the sum of the first k of a tally -/
theorem tally_take (n : Nat) (f : List Int → Nat) (ws : List (List Int)) : ∀ k, k ≤ n → ((tally n f ws).take k).sum = ((ws.filter fun w => decide (f w < k)).length : Int)
  | 0, _ => by
    rw [List.take_zero, List.filter_eq_nil_iff.mpr (by intro w _; simp)]
    rfl
  | k + 1, h => by
    rw [List.take_succ, tally_get (by omega), Option.toList_some, List.sum_append, tally_take n f ws k (by omega)]
    have : ∀ ws : List (List Int), (ws.filter fun w => decide (f w < k + 1)).length = (ws.filter fun w => decide (f w < k)).length + (ws.filter fun w => decide (f w = k)).length := by
      intro ws
      induction ws with
      | nil => rfl
      | cons w ws ih =>
        simp only [List.filter_cons]
        by_cases h1 : f w < k
        · have h2 : f w < k + 1 := by omega
          have h3 : ¬ f w = k := by omega
          simp only [h1, h2, h3, decide_true, decide_false, if_true, List.length_cons, ih]
          simp <;> omega
        · by_cases h2 : f w = k
          · have h3 : f w < k + 1 := by omega
            simp only [h1, h2, h3, decide_true, decide_false, if_true, List.length_cons, ih]
            simp <;> omega
          · have h3 : ¬ f w < k + 1 := by omega
            simp only [h1, h2, h3, decide_false]
            simpa using ih
    rw [this ws]
    simp
theorem tally_sum {n : Nat} {f : List Int → Nat} {ws : List (List Int)} (h : ∀ w ∈ ws, f w < n) : (tally n f ws).sum = (ws.length : Int) := by
  have := tally_take n f ws n (Nat.le_refl _)
  rw [List.take_of_length_le (by rw [tally_len]; exact Nat.le_refl _)] at this
  rw [this]
  congr 2
  exact List.filter_eq_self.mpr fun w hw => decide_eq_true (h w hw)
theorem bspread_tally (m : Int) (d : Nat) (b : List (List Int)) : bspreadL m d b = tally (d + 1) (bestL b) (chosenL m d 1) := rfl
theorem bspread_sum (n d : Nat) (b : List (List Int)) : (bspreadL n d b).sum = waysN n d := by
  rw [bspread_tally, tally_sum, chosen_count n d n 1 (by omega), waysN_ch]
  intro w hw
  have h1 := chosen_row_len hw
  have h2 := best_le b w
  omega
theorem best_more (b : List (List Int)) (t w : List Int) : bestL b w ≤ bestL (b ++ [t]) w := by
  unfold bestL
  rw [List.map_append, List.foldl_append]
  exact (foldl_max_nat _ _).1
theorem len_filter_mono {α : Type} (l : List α) (p q : α → Bool) (h : ∀ x ∈ l, p x = true → q x = true) : (l.filter p).length ≤ (l.filter q).length := by
  induction l with
  | nil => exact Nat.le_refl _
  | cons x l ih =>
    have ih' := ih fun y hy => h y (List.mem_cons_of_mem _ hy)
    have hx := h x List.mem_cons_self
    rw [List.filter_cons, List.filter_cons]
    cases hp : p x with
    | true => rw [hx hp]; simp; exact ih'
    | false =>
      cases q x <;> simp <;> omega
theorem bspread_take_mono (m : Int) (d : Nat) (b : List (List Int)) (t : List Int) (k : Nat) (hk : k ≤ d + 1) : ((bspreadL m d (b ++ [t])).take k).sum ≤ ((bspreadL m d b).take k).sum := by
  rw [bspread_tally, bspread_tally, tally_take _ _ _ k hk, tally_take _ _ _ k hk]
  have := len_filter_mono (chosenL m d 1) (fun w => decide (bestL (b ++ [t]) w < k)) (fun w => decide (bestL b w < k)) fun w _ h => by
    have h1 := of_decide_eq_true h
    have := best_more b t w
    exact decide_eq_true (by omega)
  omega
end My

/-! whole numbers, tickets: as the program looks at any thing -/
namespace My
open PySem L2 Fx
def wholeD (lo hi : Int) : D → Bool
  | .int i => decide (lo ≤ i) && decide (i ≤ hi)
  | _ => false
def pairs : List Int → List (Int × Int)
  | a :: b :: l => (a, b) :: pairs (b :: l)
  | _ => []
def rises (ns : List Int) : Bool := (pairs ns).all fun p => decide (p.1 < p.2)
def intsOf : List D → List Int
  | .int i :: ds => i :: intsOf ds
  | _ :: ds => intsOf ds
  | [] => []
def ticketD (m : Int) : D → Bool
  | .tup ds => !ds.isEmpty && ds.all (wholeD 1 m) && rises (intsOf ds)
  | _ => false
theorem ints_whole {lo hi : Int} : ∀ {ds : List D}, ds.all (wholeD lo hi) = true → ds = (intsOf ds).map D.int ∧ ∀ x ∈ intsOf ds, lo ≤ x ∧ x ≤ hi
  | [], _ => ⟨rfl, fun x hx => (by cases hx)⟩
  | .int i :: ds, h => by
    rw [List.all_cons, Bool.and_eq_true] at h
    obtain ⟨h1, h2⟩ := ints_whole h.2
    have h3 : (decide (lo ≤ i) && decide (i ≤ hi)) = true := h.1
    rw [Bool.and_eq_true, decide_eq_true_eq, decide_eq_true_eq] at h3
    refine ⟨?_, fun x hx => ?_⟩
    · show _ = D.int i :: _
      rw [← h1]
    · rcases List.mem_cons.mp hx with rfl | hx
      · exact h3
      · exact h2 x hx
  | .non :: ds, h => by rw [List.all_cons, Bool.and_eq_true] at h; cases h.1
  | .bl _ :: ds, h => by rw [List.all_cons, Bool.and_eq_true] at h; cases h.1
  | .str _ :: ds, h => by rw [List.all_cons, Bool.and_eq_true] at h; cases h.1
  | .tup _ :: ds, h => by rw [List.all_cons, Bool.and_eq_true] at h; cases h.1
  | .lis _ :: ds, h => by rw [List.all_cons, Bool.and_eq_true] at h; cases h.1
theorem ints_map (ns : List Int) : intsOf (ns.map D.int) = ns := by
  induction ns with
  | nil => rfl
  | cons x ns ih => show x :: intsOf (ns.map D.int) = _; rw [ih]
theorem pairs_zip : ∀ ns : List Int, pairs ns = ns.zip (ns.drop 1)
  | [] => rfl
  | [_] => rfl
  | a :: b :: l => by
    show (a, b) :: pairs (b :: l) = (a, b) :: (b :: l).zip l
    rw [pairs_zip (b :: l)]
    rfl
theorem zip_pairs (ns : List Int) : zipD (ns.map D.int) ((ns.map D.int).drop 1) = (pairs ns).map fun p => D.tup [.int p.1, .int p.2] := by
  rw [pairs_zip]
  unfold zipD
  rw [← List.map_drop, List.zip_map, List.map_map]
  rfl
theorem rises_iff : ∀ ns : List Int, rises ns = true ↔ ns.Pairwise (· < ·)
  | [] => ⟨fun _ => List.Pairwise.nil, fun _ => rfl⟩
  | [a] => ⟨fun _ => List.pairwise_singleton _ _, fun _ => rfl⟩
  | a :: b :: l => by
    have ih := rises_iff (b :: l)
    have e : rises (a :: b :: l) = (decide (a < b) && rises (b :: l)) := rfl
    rw [e, Bool.and_eq_true, ih, decide_eq_true_eq]
    constructor
    · rintro ⟨h1, h2⟩
      refine List.pairwise_cons.mpr ⟨fun x hx => ?_, h2⟩
      rcases List.mem_cons.mp hx with rfl | hx
      · exact h1
      · have := (List.pairwise_cons.mp h2).1 x hx
        omega
    · intro h
      obtain ⟨h1, h2⟩ := List.pairwise_cons.mp h
      exact ⟨h1 b List.mem_cons_self, h2⟩
theorem ticket_iff {m : Int} {r : List Int} : ticketD m (tI r) = true ↔ Row m r ∧ r ≠ [] := by
  show (!(r.map D.int).isEmpty && (r.map D.int).all (wholeD 1 m) && rises (intsOf (r.map D.int))) = true ↔ _
  rw [ints_map, Bool.and_eq_true, Bool.and_eq_true, rises_iff, isEmpty_map', List.all_map]
  constructor
  · rintro ⟨⟨h1, h2⟩, h3⟩
    refine ⟨⟨h3, fun x hx => ?_⟩, fun e => ?_⟩
    · have := List.all_eq_true.mp h2 x hx
      have : (decide (1 ≤ x) && decide (x ≤ m)) = true := this
      simpa using this
    · rw [e] at h1; cases h1
  · rintro ⟨⟨h3, h2⟩, h1⟩
    refine ⟨⟨?_, List.all_eq_true.mpr fun x hx => ?_⟩, h3⟩
    · cases r with
      | nil => exact absurd rfl h1
      | cons _ _ => rfl
    · show (decide (1 ≤ x) && decide (x ≤ m)) = true
      have := h2 x hx
      simpa using this
theorem ticket_row {m : Int} {r : List Int} (h : Row m r) (h2 : r ≠ []) : ticketD m (tI r) = true := ticket_iff.mpr ⟨h, h2⟩
theorem kit_int (d : D) : kitB (tyN (.dat d)) "int" = some (match d with | .int _ => true | .bl _ => true | _ => false) := by
  cases d <;> kernel_rfl
theorem kit_tuple (d : D) : kitB (tyN (.dat d)) "tuple" = some (match d with | .tup _ => true | _ => false) := by
  cases d <;> kernel_rfl
end My

/-! more tickets: what is missed, by the spreads -/
namespace My
open PySem L2 Fx
theorem isNon_head (l : List (List Int)) : isNon (.dat (headD l)) = l.isEmpty := by cases l <;> rfl
theorem miss_mem {m : Int} {s : Nat} {b : List (List Int)} {r : Int} {w : List Int} : w ∈ missL m s b r ↔ w ∈ chosenL m s 1 ∧ (bestL b w : Int) < r := by
  unfold missL
  rw [List.mem_filter, decide_eq_true_eq]
theorem miss_more (m : Int) (s : Nat) (b : List (List Int)) (t : List Int) (r : Int) : (missL m s (b ++ [t]) r).length ≤ (missL m s b r).length :=
  len_filter_mono _ _ _ fun w _ h => by
    have h1 := of_decide_eq_true h
    have := best_more b t w
    exact decide_eq_true (by omega)
theorem miss_want (m : Int) (s : Nat) (b : List (List Int)) (r : Int) : (missL m s b r).length ≤ (missL m s b (r + 1)).length :=
  len_filter_mono _ _ _ fun w _ h => by
    have h1 := of_decide_eq_true h
    exact decide_eq_true (by omega)
theorem tally_takeAny {n : Nat} {f : List Int → Nat} {ws : List (List Int)} (h : ∀ w ∈ ws, f w < n) (k : Nat) : ((tally n f ws).take k).sum = ((ws.filter fun w => decide (f w < k)).length : Int) := by
  by_cases hk : k ≤ n
  · exact tally_take n f ws k hk
  · rw [List.take_of_length_le (by rw [tally_len]; omega), tally_sum h, List.filter_eq_self.mpr fun w hw => decide_eq_true (by have := h w hw; omega)]
theorem miss_spread {m : Int} {s : Nat} {b : List (List Int)} {k : Nat} : ((bspreadL m s b).take k).sum = ((missL m s b k).length : Int) := by
  rw [bspread_tally, tally_takeAny]
  · congr 2
    unfold missL
    congr 1
    funext w
    exact decide_eq_decide.mpr (by omega)
  · intro w hw
    have h1 := chosen_row_len hw
    have h2 := best_le b w
    omega
theorem right_le2 {t w : List Int} (h : w.Nodup) : rightL t w ≤ t.length := by
  unfold rightL
  exact nodup_len _ _ (List.Pairwise.filter _ h) fun x hx => of_decide_eq_true (List.mem_filter.mp hx).2
theorem take_drop_sum (l : List Int) (k : Nat) : (l.drop k).sum = l.sum - (l.take k).sum := by
  have := congrArg List.sum (List.take_append_drop k l)
  rw [List.sum_append] at this
  omega
theorem filter_not_len {α : Type} (l : List α) (p : α → Bool) : (l.filter p).length + (l.filter fun x => !p x).length = l.length := by
  induction l with
  | nil => rfl
  | cons x l ih =>
    rw [List.filter_cons, List.filter_cons]
    cases p x <;> simp <;> omega
/-- how many draws a ticket hits -/
def hitN (m : Int) (s : Nat) (t : List Int) (k : Nat) : Nat := ((chosenL m s 1).filter fun w => decide (k ≤ rightL t w)).length
theorem spread_drop {n d : Nat} {t : List Int} (h : Row n t) (hd : d ≤ n) (k : Nat) : ((spreadL n d t.length).drop k).sum = (hitN n d t k : Int) := by
  have e : spreadL n d t.length = tally (t.length + 1) (rightL t) (chosenL n d 1) := by rw [spread_cnt h hd]; rfl
  have lt : ∀ w ∈ chosenL (n : Int) d 1, rightL t w < t.length + 1 := fun w hw => by
    have := right_le2 (t := t) (chosen_nodup hw)
    omega
  rw [e, take_drop_sum, tally_takeAny lt, tally_sum lt]
  have := filter_not_len (chosenL (n : Int) d 1) fun w => decide (rightL t w < k)
  have e2 : hitN n d t k = ((chosenL (n : Int) d 1).filter fun w => !decide (rightL t w < k)).length := by
    unfold hitN
    congr 2
    funext w
    by_cases h : rightL t w < k
    · have h2 : ¬ k ≤ rightL t w := by omega
      simp [h]
    · have h2 : k ≤ rightL t w := by omega
      simp [h2]
  omega
/-- the draws that are hit by a book -/
def hitB (m : Int) (s : Nat) (b : List (List Int)) (k : Nat) : Nat := ((chosenL m s 1).filter fun w => decide (k ≤ bestL b w)).length
theorem hit_miss (m : Int) (s : Nat) (b : List (List Int)) (k : Nat) : hitB m s b k + (missL m s b k).length = (chosenL m s 1).length := by
  have := filter_not_len (chosenL m s 1) fun w => decide (k ≤ bestL b w)
  have e : (missL m s b k).length = ((chosenL m s 1).filter fun w => !decide (k ≤ bestL b w)).length := by
    unfold missL
    congr 2
    funext w
    by_cases h : k ≤ bestL b w
    · have h2 : ¬ (bestL b w : Int) < k := by omega
      simp [h]
    · have h2 : (bestL b w : Int) < k := by omega
      simp [h2]
      omega
  unfold hitB
  omega
theorem best_snoc (b : List (List Int)) (t w : List Int) : bestL (b ++ [t]) w = max (bestL b w) (rightL t w) := by
  unfold bestL
  rw [List.map_append, List.foldl_append]
  rfl
theorem len_filter_or {α : Type} (l : List α) (p q r : α → Bool) (h : ∀ x ∈ l, p x = true → q x = true ∨ r x = true) : (l.filter p).length ≤ (l.filter q).length + (l.filter r).length := by
  induction l with
  | nil => exact Nat.le_refl _
  | cons x l ih =>
    have ih' := ih fun y hy => h y (List.mem_cons_of_mem _ hy)
    have hx := h x List.mem_cons_self
    rw [List.filter_cons, List.filter_cons, List.filter_cons]
    cases hp : p x with
    | false => cases q x <;> cases r x <;> simp <;> omega
    | true =>
      rcases hx hp with h1 | h1
      · rw [h1]; cases r x <;> simp <;> omega
      · rw [h1]; cases q x <;> simp <;> omega
theorem hit_snoc (m : Int) (s : Nat) (b : List (List Int)) (t : List Int) (k : Nat) : hitB m s (b ++ [t]) k ≤ hitB m s b k + hitN m s t k :=
  len_filter_or _ _ _ _ fun w _ h => by
    have h1 := of_decide_eq_true h
    rw [best_snoc] at h1
    by_cases h2 : k ≤ bestL b w
    · exact .inl (decide_eq_true h2)
    · exact .inr (decide_eq_true (by omega))
theorem hit_sum (m : Int) (s : Nat) (k : Nat) (hk : 1 ≤ k) : ∀ b : List (List Int), hitB m s b k ≤ (b.map fun t => hitN m s t k).sum := by
  intro b
  have gen : ∀ (c a : List (List Int)), hitB m s a k ≤ (a.map fun t => hitN m s t k).sum → hitB m s (a ++ c) k ≤ ((a ++ c).map fun t => hitN m s t k).sum := by
    intro c
    induction c with
    | nil => intro a h; rw [List.append_nil]; exact h
    | cons t c ih =>
      intro a h
      have := ih (a ++ [t]) (by
        have h2 := hit_snoc m s a t k
        rw [List.map_append, List.sum_append]
        simp
        omega)
      rwa [List.append_assoc, List.singleton_append] at this
  have := gen b [] (by
    have : hitB m s [] k = 0 := by
      unfold hitB
      rw [List.filter_eq_nil_iff.mpr]
      · rfl
      · intro w _ h
        have := of_decide_eq_true h
        rw [best_nil] at this
        omega
    omega)
  simpa using this
theorem hit_one (m : Int) (s : Nat) (t : List Int) (k : Nat) : hitB m s [t] k = hitN m s t k := by
  unfold hitB hitN
  have e : bestL [t] = rightL t := by
    funext w
    have := best_snoc [] t w
    rw [List.nil_append, best_nil] at this
    omega
  rw [e]
theorem sum_castN {α : Type} (l : List α) (f : α → Nat) : (l.map fun x => (f x : Int)).sum = (((l.map f).sum : Nat) : Int) := by
  induction l with
  | nil => rfl
  | cons x l ih => rw [List.map_cons, List.sum_cons, List.map_cons, List.sum_cons, ih]; simp
end My

/-! the pool of a book -/
namespace My
open PySem L2 Fx
/-- the keys, as they come -/
def poolK (xs : List Int) : List Int := xs.foldl addK []
theorem poolK_snoc (xs : List Int) (x : Int) : poolK (xs ++ [x]) = addK (poolK xs) x := by unfold poolK; rw [List.foldl_append]; rfl
theorem addK_nodup {ks : List Int} {k : Int} (h : ks.Nodup) : (addK ks k).Nodup := by
  unfold addK
  split
  · exact h
  · rename_i hk
    rw [List.nodup_append]
    exact ⟨h, List.nodup_cons.mpr ⟨List.not_mem_nil, List.nodup_nil⟩, fun a ha b hb e => hk (by rw [List.mem_singleton.mp hb] at e; rw [← e]; exact ha)⟩
theorem addK_mem {ks : List Int} {k x : Int} : x ∈ addK ks k ↔ x ∈ ks ∨ x = k := by
  unfold addK
  split
  · rename_i hk
    constructor
    · exact .inl
    · rintro (h | rfl)
      · exact h
      · exact hk
  · rw [List.mem_append, List.mem_singleton]
theorem poolK_nodup (xs : List Int) : (poolK xs).Nodup := by
  unfold poolK
  have gen : ∀ (xs ks : List Int), ks.Nodup → (xs.foldl addK ks).Nodup := by
    intro xs
    induction xs with
    | nil => intro ks h; exact h
    | cons x xs ih => intro ks h; exact ih _ (addK_nodup h)
  exact gen xs [] List.nodup_nil
theorem poolK_mem {xs : List Int} {x : Int} : x ∈ poolK xs ↔ x ∈ xs := by
  unfold poolK
  have gen : ∀ (xs ks : List Int), x ∈ xs.foldl addK ks ↔ x ∈ ks ∨ x ∈ xs := by
    intro xs
    induction xs with
    | nil => intro ks; simp
    | cons y xs ih =>
      intro ks
      rw [List.foldl_cons, ih, addK_mem, List.mem_cons]
      constructor
      · rintro ((h | h) | h)
        · exact .inl h
        · exact .inr (.inl h)
        · exact .inr (.inr h)
      · rintro (h | h | h)
        · exact .inl (.inl h)
        · exact .inl (.inr h)
        · exact .inr h
  rw [gen]
  simp
/-- the pool: the numbers from 1 to m that stand in a ticket -/
def poolL (m : Int) (b : List (List Int)) : List Int := (rg 1 (m + 1)).filter fun x => b.any fun t => decide (x ∈ t)
theorem rg_sorted (a b : Int) : (rg a b).Pairwise (· < ·) := by
  unfold rg
  rw [List.pairwise_map]
  exact List.pairwise_lt_range.imp fun h => by omega
theorem pool_row (m : Int) (b : List (List Int)) : Row m (poolL m b) := ⟨List.Pairwise.filter _ (rg_sorted _ _), fun x hx => by
  have := rg_mem.mp (List.mem_filter.mp hx).1
  omega⟩
theorem pool_mem {m : Int} {b : List (List Int)} {x : Int} (hb : ∀ t ∈ b, Row m t) : x ∈ poolL m b ↔ ∃ t ∈ b, x ∈ t := by
  unfold poolL
  rw [List.mem_filter, List.any_eq_true, rg_mem]
  constructor
  · rintro ⟨_, t, ht, h⟩
    exact ⟨t, ht, of_decide_eq_true h⟩
  · rintro ⟨t, ht, h⟩
    have := (hb t ht).2 x h
    exact ⟨by omega, t, ht, decide_eq_true h⟩
/-- a rising row is told by its members -/
theorem rising_unique : ∀ {xs ys : List Int}, xs.Pairwise (· < ·) → ys.Pairwise (· < ·) → (∀ x, x ∈ xs ↔ x ∈ ys) → xs = ys
  | [], [], _, _, _ => rfl
  | [], y :: ys, _, _, h => by cases (h y).mpr List.mem_cons_self
  | x :: xs, [], _, _, h => by cases (h x).mp List.mem_cons_self
  | x :: xs, y :: ys, hx, hy, h => by
    obtain ⟨hx1, hx2⟩ := List.pairwise_cons.mp hx
    obtain ⟨hy1, hy2⟩ := List.pairwise_cons.mp hy
    have e : x = y := by
      rcases List.mem_cons.mp ((h x).mp List.mem_cons_self) with e | e
      · exact e
      · rcases List.mem_cons.mp ((h y).mpr List.mem_cons_self) with e2 | e2
        · exact e2.symm
        · have := hx1 y e2
          have := hy1 x e
          omega
    subst e
    congr 1
    refine rising_unique hx2 hy2 fun z => ?_
    constructor
    · intro hz
      rcases List.mem_cons.mp ((h z).mp (List.mem_cons_of_mem _ hz)) with e | e
      · have := hx1 z hz; omega
      · exact e
    · intro hz
      rcases List.mem_cons.mp ((h z).mpr (List.mem_cons_of_mem _ hz)) with e | e
      · have := hy1 z hz; omega
      · exact e
theorem rising_of {ns : List Int} (h : ns.Pairwise (· ≤ ·)) (hn : ns.Nodup) : ns.Pairwise (· < ·) := (List.Pairwise.and h hn).imp fun ⟨h, k⟩ => by omega
theorem pool_sorted {m : Int} {b : List (List Int)} {ns : List Int} (hb : ∀ t ∈ b, Row m t) (h1 : ns.Perm (poolK b.flatten)) (h2 : ns.Pairwise (· ≤ ·)) : ns = poolL m b := by
  refine rising_unique (rising_of h2 (h1.nodup_iff.mpr (poolK_nodup _))) (pool_row m b).1 fun x => ?_
  rw [h1.mem_iff, poolK_mem, pool_mem hb, List.mem_flatten]
theorem poolK_len {m : Int} {b : List (List Int)} (hb : ∀ t ∈ b, Row m t) (h0 : 0 ≤ m) {xs : List Int} (hx : ∀ x ∈ xs, x ∈ b.flatten) : ((poolK xs).length : Int) ≤ m := by
  have := nodup_len (poolK xs) (rg 1 (m + 1)) (poolK_nodup _) fun x h => by
    obtain ⟨t, ht, hxt⟩ := List.mem_flatten.mp (hx x (poolK_mem.mp h))
    have := (hb t ht).2 x hxt
    exact rg_mem.mpr (by omega)
  rw [rg_len] at this
  omega
end My
namespace My
open PySem L2 Fx
/-- the missed draws with so many numbers in the pool -/
def withinL (m : Int) (s : Nat) (b : List (List Int)) (wi r : Int) : List (List Int) := (missL m s b r).filter fun w => decide (wi ≤ (rightL (poolL m b) w : Int))
theorem within_zero (m : Int) (s : Nat) (b : List (List Int)) (r : Int) : withinL m s b 0 r = missL m s b r := List.filter_eq_self.mpr fun w _ => decide_eq_true (by omega)
end My

/-! what is needless -/
namespace My
open PySem L2 Fx
/-- the places of the tickets that hit -/
def hitAt (b : List (List Int)) (r : Int) (w : List Int) : List Nat := (b.zipIdx.filter fun q => decide (r ≤ (rightL q.1 w : Int))).map (·.2)
/-- the only one that hits -/
def sole (b : List (List Int)) (r : Int) (w : List Int) : Nat := match hitAt b r w with
  | [i] => i
  | _ => b.length
def aloneL (m : Int) (s : Nat) (b : List (List Int)) (r : Int) : List Int := tally b.length (sole b r) (chosenL m s 1)
def zeroAt (ns : List Int) : List Nat := (ns.zipIdx.filter fun q => decide (q.1 = 0)).map (·.2)
def needL (m : Int) (s : Nat) (b : List (List Int)) (r : Int) : List Nat := zeroAt (aloneL m s b r)
def thinN (m : Int) (s : Nat) (r : Int) : Nat → List (List Int) → List (List Int)
  | 0, b => b
  | n + 1, b => match (needL m s b r).getLast? with
    | none => b
    | some i => thinN m s r n (b.eraseIdx i)
def thinL (m : Int) (s : Nat) (b : List (List Int)) (r : Int) : List (List Int) := thinN m s r b.length b
theorem hitAt_mem {b : List (List Int)} {r : Int} {w : List Int} {i : Nat} : i ∈ hitAt b r w ↔ ∃ t, b[i]? = some t ∧ r ≤ (rightL t w : Int) := by
  unfold hitAt
  rw [List.mem_map]
  constructor
  · rintro ⟨q, hq, rfl⟩
    obtain ⟨h1, h2⟩ := List.mem_filter.mp hq
    exact ⟨q.1, (List.mem_zipIdx_iff_getElem?.mp h1), of_decide_eq_true h2⟩
  · rintro ⟨t, h1, h2⟩
    exact ⟨(t, i), List.mem_filter.mpr ⟨List.mem_zipIdx_iff_getElem?.mpr h1, decide_eq_true h2⟩, rfl⟩
theorem hitAt_nodup (b : List (List Int)) (r : Int) (w : List Int) : (hitAt b r w).Nodup := by
  unfold hitAt
  have h1 : List.Sublist ((b.zipIdx.filter fun q => decide (r ≤ (rightL q.1 w : Int))).map (·.2)) (b.zipIdx.map (·.2)) := List.Sublist.map _ List.filter_sublist
  refine List.Nodup.sublist h1 ?_
  rw [show b.zipIdx.map (·.2) = List.range' 0 b.length from List.zipIdx_map_snd 0 b]
  exact List.nodup_range'
theorem hitAt_lt {b : List (List Int)} {r : Int} {w : List Int} {i : Nat} (h : i ∈ hitAt b r w) : i < b.length := by
  obtain ⟨t, h, _⟩ := hitAt_mem.mp h
  exact (List.getElem?_eq_some_iff.mp h).1
theorem sole_is {b : List (List Int)} {r : Int} {w : List Int} {i : Nat} (h : sole b r w = i) (hi : i < b.length) : hitAt b r w = [i] := by
  unfold sole at h
  split at h
  · rename_i j e
    rw [e, h]
  · omega
theorem best_ge {b : List (List Int)} {r : Int} {w : List Int} (hr : 1 ≤ r) : r ≤ (bestL b w : Int) ↔ ∃ t ∈ b, r ≤ (rightL t w : Int) := by
  obtain ⟨g1, g2, g3⟩ := foldl_max_nat (b.map fun t => rightL t w) 0
  constructor
  · intro h
    rcases g3 with g3 | g3
    · have : bestL b w = 0 := g3
      omega
    · obtain ⟨u, hu, e⟩ := List.mem_map.mp g3
      have e2 : rightL u w = bestL b w := e
      exact ⟨u, hu, by omega⟩
  · rintro ⟨t, ht, h⟩
    have : rightL t w ≤ bestL b w := g2 _ (List.mem_map.mpr ⟨t, ht, rfl⟩)
    omega
theorem zeroAt_mem {ns : List Int} {i : Nat} : i ∈ zeroAt ns ↔ ns[i]? = some 0 := by
  unfold zeroAt
  rw [List.mem_map]
  constructor
  · rintro ⟨q, hq, rfl⟩
    obtain ⟨h1, h2⟩ := List.mem_filter.mp hq
    have h3 := List.mem_zipIdx_iff_getElem?.mp h1
    rw [h3, of_decide_eq_true h2]
  · intro h
    exact ⟨(0, i), List.mem_filter.mpr ⟨List.mem_zipIdx_iff_getElem?.mpr h, decide_eq_true rfl⟩, rfl⟩
theorem need_lt {m : Int} {s : Nat} {b : List (List Int)} {r : Int} {i : Nat} (h : i ∈ needL m s b r) : i < b.length := by
  have := (List.getElem?_eq_some_iff.mp (zeroAt_mem.mp h)).1
  unfold aloneL at this
  rwa [tally_len] at this
theorem need_not {m : Int} {s : Nat} {b : List (List Int)} {r : Int} {i : Nat} (h : i ∈ needL m s b r) {w : List Int} (hw : w ∈ chosenL m s 1) : sole b r w ≠ i := by
  intro e
  have h1 := zeroAt_mem.mp h
  unfold aloneL at h1
  rw [tally_get (need_lt h)] at h1
  have h2 : ((chosenL m s 1).filter fun w => decide (sole b r w = i)).length = 0 := by
    have := Option.some.inj h1
    omega
  have h3 := List.eq_nil_of_length_eq_zero h2
  have : w ∈ (chosenL m s 1).filter fun w => decide (sole b r w = i) := List.mem_filter.mpr ⟨hw, decide_eq_true e⟩
  rw [h3] at this
  cases this
theorem erase_mem {α : Type} {l : List α} {i j : Nat} {x : α} (h : l[j]? = some x) (hij : j ≠ i) : x ∈ l.eraseIdx i := by
  rw [List.mem_eraseIdx_iff_getElem?]
  exact ⟨j, hij, h⟩
theorem erase_best {m : Int} {s : Nat} {b : List (List Int)} {r : Int} {i : Nat} (hr : 1 ≤ r) (h : i ∈ needL m s b r) {w : List Int} (hw : w ∈ chosenL m s 1) : r ≤ (bestL (b.eraseIdx i) w : Int) ↔ r ≤ (bestL b w : Int) := by
  rw [best_ge hr, best_ge hr]
  constructor
  · rintro ⟨t, ht, h1⟩
    exact ⟨t, List.mem_of_mem_eraseIdx ht, h1⟩
  · rintro ⟨t, ht, h1⟩
    obtain ⟨j, hj⟩ := List.getElem?_of_mem ht
    by_cases e : j = i
    · subst e
      have hm : j ∈ hitAt b r w := hitAt_mem.mpr ⟨t, hj, h1⟩
      have hs := need_not h hw
      have hne : hitAt b r w ≠ [j] := fun e => hs (by unfold sole; rw [e])
      have nd := hitAt_nodup b r w
      obtain ⟨k, hk, hkj⟩ : ∃ k, k ∈ hitAt b r w ∧ k ≠ j := by
        cases e2 : hitAt b r w with
        | nil => rw [e2] at hm; cases hm
        | cons x l =>
          rw [e2] at hm hne nd
          by_cases hx : x = j
          · cases l with
            | nil => exact absurd (by rw [hx]) hne
            | cons y l =>
              refine ⟨y, List.mem_cons_of_mem _ List.mem_cons_self, fun e3 => ?_⟩
              have := (List.nodup_cons.mp nd).1
              rw [hx, ← e3] at this
              exact this List.mem_cons_self
          · exact ⟨x, List.mem_cons_self, hx⟩
      obtain ⟨u, hu, h2⟩ := hitAt_mem.mp hk
      exact ⟨u, erase_mem hu hkj, h2⟩
    · exact ⟨t, erase_mem hj e, h1⟩
theorem filter_same {α : Type} {l : List α} {p q : α → Bool} (h : ∀ x ∈ l, p x = q x) : l.filter p = l.filter q := by
  induction l with
  | nil => rfl
  | cons x l ih => rw [List.filter_cons, List.filter_cons, h x List.mem_cons_self, ih fun y hy => h y (List.mem_cons_of_mem _ hy)]
theorem erase_miss {m : Int} {s : Nat} {b : List (List Int)} {r : Int} {i : Nat} (hr : 1 ≤ r) (h : i ∈ needL m s b r) : missL m s (b.eraseIdx i) r = missL m s b r := by
  unfold missL
  refine filter_same fun w hw => decide_eq_decide.mpr ?_
  have := erase_best hr h hw
  omega
theorem last_mem {α : Type} {l : List α} {x : α} (h : l.getLast? = some x) : x ∈ l := List.mem_of_getLast? h
theorem thin_miss {m : Int} {s : Nat} {r : Int} (hr : 1 ≤ r) : ∀ (n : Nat) (b : List (List Int)), missL m s (thinN m s r n b) r = missL m s b r
  | 0, b => rfl
  | n + 1, b => by
    unfold thinN
    split
    · rfl
    · rename_i i e
      rw [thin_miss hr n, erase_miss hr (last_mem e)]
theorem erase_len {α : Type} {l : List α} {i : Nat} (h : i < l.length) : (l.eraseIdx i).length = l.length - 1 := by rw [List.length_eraseIdx, if_pos h]
theorem thin_done {m : Int} {s : Nat} {r : Int} : ∀ (n : Nat) (b : List (List Int)), b.length ≤ n → needL m s (thinN m s r n b) r = []
  | 0, b, h => by
    have e : b = [] := List.eq_nil_of_length_eq_zero (by omega)
    subst e
    rfl
  | n + 1, b, h => by
    unfold thinN
    split
    · rename_i e
      exact List.getLast?_eq_none_iff.mp e
    · rename_i i e
      have hi := need_lt (last_mem e)
      exact thin_done n _ (by rw [erase_len hi]; omega)
theorem thin_stop {m : Int} {s : Nat} {r : Int} {b : List (List Int)} (h : needL m s b r = []) : ∀ n, thinN m s r n b = b
  | 0 => rfl
  | n + 1 => by
    unfold thinN
    rw [h]
    rfl
theorem thin_step {m : Int} {s : Nat} {r : Int} {b : List (List Int)} {i : Nat} (h : (needL m s b r).getLast? = some i) : thinN m s r b.length b = thinN m s r (b.eraseIdx i).length (b.eraseIdx i) := by
  have hi := need_lt (last_mem h)
  obtain ⟨n, hn⟩ : ∃ n, b.length = n + 1 := ⟨b.length - 1, by omega⟩
  rw [erase_len hi, hn, Nat.add_sub_cancel]
  show (match (needL m s b r).getLast? with | none => b | some i => thinN m s r n (b.eraseIdx i)) = _
  rw [h]
theorem thin_sub {m : Int} {s : Nat} {r : Int} : ∀ (n : Nat) (b : List (List Int)), (thinN m s r n b).length ≤ b.length ∧ ∀ t ∈ thinN m s r n b, t ∈ b
  | 0, b => ⟨Nat.le_refl _, fun t h => h⟩
  | n + 1, b => by
    unfold thinN
    split
    · exact ⟨Nat.le_refl _, fun t h => h⟩
    · rename_i i e
      have hi := need_lt (last_mem e)
      obtain ⟨h1, h2⟩ := thin_sub (m := m) (s := s) (r := r) n (b.eraseIdx i)
      rw [erase_len hi] at h1
      exact ⟨by omega, fun t ht => List.mem_of_mem_eraseIdx (h2 t ht)⟩
/-- the last place of a 0 -/
theorem zeroAt_snoc (l : List Int) (x : Int) : zeroAt (l ++ [x]) = zeroAt l ++ if x = 0 then [l.length] else [] := by
  unfold zeroAt
  rw [List.zipIdx_append, List.filter_append, List.map_append]
  congr 1
  by_cases h : x = 0
  · rw [if_pos h]
    simp [h]
  · rw [if_neg h]
    simp [h]
theorem last_zero : ∀ (n : Nat) (ns : List Int), ns.length = n → 0 ∈ ns → (zeroAt ns).getLast? = some (ns.length - 1 - ns.reverse.idxOf 0)
  | 0, ns, h, h0 => by rw [List.eq_nil_of_length_eq_zero h] at h0; cases h0
  | n + 1, ns, h, h0 => by
    obtain ⟨l, x, rfl⟩ : ∃ l x, ns = l ++ [x] := ⟨ns.dropLast, ns.getLast (by intro e; rw [e] at h0; cases h0), (List.dropLast_concat_getLast _).symm⟩
    rw [List.length_append] at h
    have hl : l.length = n := by simpa using h
    rw [zeroAt_snoc, List.reverse_append, List.length_append]
    show _ = some (l.length + 1 - 1 - (x :: l.reverse).idxOf 0)
    rw [List.idxOf_cons]
    by_cases hx : x = 0
    · rw [if_pos hx, hx]
      simp
    · have h0l : 0 ∈ l := by
        rcases List.mem_append.mp h0 with h | h
        · exact h
        · exact absurd (List.mem_singleton.mp h).symm hx
      rw [if_neg hx, List.append_nil, last_zero n l hl h0l]
      have : (x == 0) = false := by simpa using hx
      rw [this]
      simp
      omega
theorem zeroAt_nil {ns : List Int} : zeroAt ns = [] ↔ 0 ∉ ns := by
  constructor
  · intro h h0
    obtain ⟨i, hi⟩ := List.getElem?_of_mem h0
    have := zeroAt_mem.mpr hi
    rw [h] at this
    cases this
  · intro h
    cases e : zeroAt ns with
    | nil => rfl
    | cons i l => exact absurd (List.mem_of_getElem? (zeroAt_mem.mp (show i ∈ zeroAt ns by rw [e]; exact List.mem_cons_self))) h
theorem alone_len (m : Int) (s : Nat) (b : List (List Int)) (r : Int) : (aloneL m s b r).length = b.length := tally_len _ _ _
theorem tally_skip {n : Nat} {f : List Int → Nat} {ws : List (List Int)} {w : List Int} (h : n ≤ f w) : tally n f (ws ++ [w]) = tally n f ws := by
  unfold tally
  apply List.map_congr_left
  intro i hi
  have := List.mem_range.mp hi
  rw [List.filter_append, List.length_append]
  have e : ¬ f w = i := by omega
  simp [e]
theorem take_drop_erase {α : Type} (l : List α) (i : Nat) : l.take i ++ l.drop (i + 1) = l.eraseIdx i := (List.eraseIdx_eq_take_drop_succ l i).symm
theorem hitAt_len (b : List (List Int)) (r : Int) (w : List Int) : (hitAt b r w).length ≤ b.length := by
  unfold hitAt
  rw [List.length_map]
  have := List.length_filter_le (fun q : List Int × Nat => decide (r ≤ (rightL q.1 w : Int))) b.zipIdx
  rwa [List.length_zipIdx] at this
theorem zeroAt_len (ns : List Int) : (zeroAt ns).length ≤ ns.length := by
  unfold zeroAt
  rw [List.length_map]
  have := List.length_filter_le (fun q : Int × Nat => decide (q.1 = 0)) ns.zipIdx
  rwa [List.length_zipIdx] at this
end My
namespace My
open PySem L2 Fx
theorem hit_map (b : List (List Int)) (r : Int) (w : List Int) : (b.zipIdx.filter fun q => decide (r ≤ (rightL q.1 w : Int))).map (fun q => D.int (q.2 : Nat)) = (hitAt b r w).map fun i => D.int (i : Nat) := by
  unfold hitAt
  rw [List.map_map]
  rfl
theorem sole_one {b : List (List Int)} {r : Int} {w : List Int} (h : (hitAt b r w).length = 1) : hitAt b r w = [sole b r w] ∧ sole b r w < b.length := by
  unfold sole
  cases e : hitAt b r w with
  | nil => rw [e] at h; cases h
  | cons i l =>
    cases l with
    | nil =>
      refine ⟨rfl, hitAt_lt (b := b) (r := r) (w := w) (i := i) ?_⟩
      rw [e]
      exact List.mem_cons_self
    | cons j l => rw [e] at h; simp at h
theorem sole_no {b : List (List Int)} {r : Int} {w : List Int} (h : (hitAt b r w).length ≠ 1) : sole b r w = b.length := by
  unfold sole
  split
  · rename_i i e
    rw [e] at h
    exact absurd rfl h
  · rfl
def needI (m : Int) (s : Nat) (b : List (List Int)) (r : Int) : List Int := (needL m s b r).map fun (i : Nat) => (i : Int)
theorem need_map (m : Int) (s : Nat) (b : List (List Int)) (r : Int) : ((aloneL m s b r).zipIdx.filter fun q => decide (q.1 = 0)).map (fun q => D.int (q.2 : Nat)) = (needI m s b r).map D.int := by
  unfold needI needL zeroAt
  rw [List.map_map, List.map_map]
  rfl
theorem atI_last {ds : List D} {d : D} (h : ds.getLast? = some d) : atI ds (-1) = some d := by
  have hl : 0 < ds.length := by
    cases ds with
    | nil => cases h
    | cons _ _ => exact Nat.succ_pos _
  unfold atI ixN
  rw [if_neg (by omega), if_pos (by omega)]
  show ds[(-1 + (ds.length : Int)).toNat]? = some d
  rw [show (-1 + (ds.length : Int)).toNat = ds.length - 1 by omega, ← List.getLast?_eq_getElem?]
  exact h
theorem zeros_tally (b : List (List Int)) (f : List Int → Nat) : (b.map fun _ : List Int => D.int 0) = (tally b.length f []).map D.int := by
  rw [tally_nil, List.map_replicate, List.map_const']
end My

/-! how few: the bound -/
namespace My
open PySem L2 Fx
def hitsL (m d : Int) (z : Nat) (r : Int) : Int := ((rg r (z + 1)).map fun s => waysN z s * waysN (m - z) (d - s)).sum
theorem rg_nat (r n : Nat) : rg (r : Int) (n : Int) = (List.range' r (n - r)).map fun (i : Nat) => (i : Int) := by
  unfold rg
  rw [show ((n : Int) - (r : Int)).toNat = n - r by omega, List.range'_eq_map_range, List.map_map]
  apply List.map_congr_left
  intro i _
  show (r : Int) + (i : Nat) = ((r + i : Nat) : Int)
  omega
theorem hits_drop (m d : Int) (z r : Nat) : hitsL m d z r = ((spreadL m d z).drop r).sum := by
  unfold hitsL spreadL
  rw [← List.map_drop, show ((z : Int) + 1) = ((z + 1 : Nat) : Int) by omega, rg_nat, List.map_map, List.range_eq_range', List.drop_range', Nat.mul_one, Nat.zero_add]
  rfl
theorem hits_hit {n d : Nat} {t : List Int} (h : Row n t) (hd : d ≤ n) (r : Nat) : hitsL n d t.length r = (hitN n d t r : Int) := by rw [hits_drop, spread_drop h hd]
theorem hit_few {n d : Nat} {t : List Int} {r : Nat} (hn : n ≤ 12) : hitN n d t r ≤ 4096 := Nat.le_trans (List.length_filter_le _ _) (chosen_few d n 1 (by omega) (by omega))
def boundD (m d : Int) (z : Nat) (r : Int) : D := if hitsL m d z r = 0 then .non else .int ((waysN m d + hitsL m d z r - 1) / hitsL m d z r)
theorem ceil_eq (c h : Int) (hh : 0 < h) : (c + h - 1) / h = c / h + if 0 < c % h then 1 else 0 := by
  have e := Int.emod_add_mul_ediv c h
  have h0 := Int.emod_nonneg c (show h ≠ 0 by omega)
  have h1 := Int.emod_lt_of_pos c hh
  by_cases hc : 0 < c % h
  · rw [if_pos hc]
    have : c + h - 1 = (c % h - 1) + h * (c / h + 1) := by rw [Int.mul_add]; omega
    rw [this, Int.add_mul_ediv_left _ _ (by omega), Int.ediv_eq_zero_of_lt (by omega) (by omega)]
    omega
  · rw [if_neg hc]
    have : c + h - 1 = (h - 1) + h * (c / h) := by omega
    rw [this, Int.add_mul_ediv_left _ _ (by omega), Int.ediv_eq_zero_of_lt (by omega) (by omega)]
    omega
theorem hit_pos {n d : Nat} {t : List Int} {r : Nat} (h : 0 < hitN n d t r) : ∃ w ∈ chosenL (n : Int) d 1, r ≤ rightL t w := by
  unfold hitN at h
  obtain ⟨w, hw⟩ := List.exists_mem_of_length_pos h
  obtain ⟨h1, h2⟩ := List.mem_filter.mp hw
  exact ⟨w, h1, of_decide_eq_true h2⟩
theorem sort_row {n : Nat} {S : List Int} (hs : S.Nodup) (hb : ∀ x ∈ S, 1 ≤ x ∧ x ≤ (n : Int)) : ((rg 1 ((n : Int) + 1)).filter fun x => decide (x ∈ S)) ∈ chosenL (n : Int) S.length 1 := by
  refine chosen_mem.mpr ⟨List.Pairwise.filter _ ?_, fun x hx => ?_, ?_⟩
  · unfold rg
    rw [List.pairwise_map]
    exact List.pairwise_lt_range.imp fun h => by omega
  · have := rg_mem.mp (List.mem_filter.mp hx).1
    omega
  · refine Nat.le_antisymm (nodup_len _ _ (List.Pairwise.filter _ (rg_nodup _ _)) fun x hx => of_decide_eq_true (List.mem_filter.mp hx).2) (nodup_len _ _ hs fun x hx => ?_)
    refine List.mem_filter.mpr ⟨rg_mem.mpr ?_, decide_eq_true hx⟩
    have := hb x hx
    omega
/-- for each draw a ticket that has its first r numbers -/
theorem cover {n d z r : Nat} (hr1 : r ≤ d) (hr2 : r ≤ z) (hz : z ≤ n) {w : List Int} (hw : w ∈ chosenL (n : Int) d 1) : ∃ t ∈ chosenL (n : Int) z 1, r ≤ rightL t w := by
  obtain ⟨w1, w2, w3⟩ := chosen_mem.mp hw
  have wn := chosen_nodup hw
  let S := w.take r
  let R := ((rg 1 ((n : Int) + 1)).filter fun x => decide (x ∉ S)).take (z - r)
  have hSl : S.length = r := by show (w.take r).length = r; rw [List.length_take]; omega
  have hSn : S.Nodup := wn.sublist (List.take_sublist _ _)
  have hSb : ∀ x ∈ S, 1 ≤ x ∧ x ≤ (n : Int) := fun x hx => w2 x (List.mem_of_mem_take hx)
  have hfl : ((rg 1 ((n : Int) + 1)).filter fun x => decide (x ∉ S)).length = n - r := by
    have h1 := filter_not_len (rg 1 ((n : Int) + 1)) fun x => decide (x ∈ S)
    have h2 := chosen_row_len (sort_row hSn hSb)
    have h3 : (rg 1 ((n : Int) + 1)).length = n := by rw [rg_len]; omega
    have e : ((rg 1 ((n : Int) + 1)).filter fun x => decide (x ∉ S)) = (rg 1 ((n : Int) + 1)).filter fun x => !decide (x ∈ S) := by
      congr 1
      funext x
      simp
    rw [e]
    omega
  have hRl : R.length = z - r := by show (List.take _ _).length = _; rw [List.length_take, hfl]; omega
  have hRm : ∀ x ∈ R, (1 ≤ x ∧ x ≤ (n : Int)) ∧ x ∉ S := fun x hx => by
    obtain ⟨h1, h2⟩ := List.mem_filter.mp (List.mem_of_mem_take hx)
    have := rg_mem.mp h1
    exact ⟨by omega, of_decide_eq_true h2⟩
  have hRn : R.Nodup := (List.Pairwise.filter _ (rg_nodup _ _)).sublist (List.take_sublist _ _)
  have hn : (S ++ R).Nodup := List.nodup_append.mpr ⟨hSn, hRn, fun a ha b hb e => (hRm b hb).2 (by rw [← e]; exact ha)⟩
  have hbb : ∀ x ∈ S ++ R, 1 ≤ x ∧ x ≤ (n : Int) := fun x hx => by
    rcases List.mem_append.mp hx with hx | hx
    · exact hSb x hx
    · exact (hRm x hx).1
  have hm := sort_row hn hbb
  rw [List.length_append, hSl, hRl, show r + (z - r) = z by omega] at hm
  refine ⟨_, hm, ?_⟩
  unfold rightL
  rw [← hSl]
  refine nodup_len _ _ hSn fun x hx => List.mem_filter.mpr ⟨List.mem_of_mem_take hx, decide_eq_true ?_⟩
  have := hSb x hx
  exact List.mem_filter.mpr ⟨rg_mem.mpr (by omega), decide_eq_true (List.mem_append_left _ hx)⟩
theorem chosen_some {n d : Nat} (h : d ≤ n) : ∃ w, w ∈ chosenL (n : Int) d 1 := by
  have e : (chosenL (n : Int) d 1).length = ch n d := chosen_count n d n 1 (by omega)
  have hp : ∀ n d : Nat, d ≤ n → 0 < ch n d := by
    intro n
    induction n with
    | zero => intro d h; rw [show d = 0 by omega]; decide
    | succ n ih =>
      intro d h
      cases d with
      | zero => rw [ch_zero]; decide
      | succ d =>
        rw [ch_succ]
        have := ih d (by omega)
        omega
  exact List.exists_mem_of_length_pos (by rw [e]; exact hp n d h)
/-- all tickets of a size hit alike -/
theorem hit_alike {n d z r : Nat} (hd : d ≤ n) {t u : List Int} (ht : t ∈ chosenL (n : Int) z 1) (hu : u ∈ chosenL (n : Int) z 1) : hitN n d t r = hitN n d u r := by
  have h1 := hits_hit (chosen_row ht) hd r
  have h2 := hits_hit (chosen_row hu) hd r
  rw [chosen_row_len ht] at h1
  rw [chosen_row_len hu] at h2
  omega
theorem all_sure {n d z r : Nat} (hd : d ≤ n) (hz : z ≤ n) (hr : 1 ≤ r) {t : List Int} (ht : t ∈ chosenL (n : Int) z 1) : (missL n d (chosenL (n : Int) z 1) r).isEmpty = decide (0 < hitN n d t r) := by
  by_cases h : 0 < hitN n d t r
  · rw [decide_eq_true h]
    obtain ⟨w0, hw0, hr0⟩ := hit_pos h
    have r1 := right_le t w0
    have r2 := right_le2 (t := t) (chosen_nodup hw0)
    rw [chosen_row_len hw0] at r1
    rw [chosen_row_len ht] at r2
    have e : missL n d (chosenL (n : Int) z 1) r = [] := List.filter_eq_nil_iff.mpr fun w hw hlt => by
      obtain ⟨u, hu, hru⟩ := cover (z := z) (r := r) (by omega) (by omega) hz hw
      have := (best_ge (b := chosenL (n : Int) z 1) (r := r) (w := w) (by omega)).mpr ⟨u, hu, by omega⟩
      have := of_decide_eq_true hlt
      omega
    rw [e]
    rfl
  · rw [decide_eq_false h]
    obtain ⟨w, hw⟩ := chosen_some hd
    have : w ∈ missL n d (chosenL (n : Int) z 1) r := miss_mem.mpr ⟨hw, by
      have nb : ¬ (r : Int) ≤ (bestL (chosenL (n : Int) z 1) w : Int) := fun hb => by
        obtain ⟨u, hu, hru⟩ := (best_ge (by omega)).mp hb
        have e := hit_alike hd ht hu (r := r)
        have : w ∈ (chosenL (n : Int) d 1).filter fun w => decide (r ≤ rightL u w) := List.mem_filter.mpr ⟨hw, decide_eq_true (by omega)⟩
        have := List.length_pos_of_mem this
        unfold hitN at e h
        omega
      omega⟩
    cases e : missL n d (chosenL (n : Int) z 1) r with
    | nil => rw [e] at this; cases this
    | cons _ _ => rfl
theorem sum_same {α : Type} (l : List α) (f : α → Nat) (k : Nat) (h : ∀ x ∈ l, f x = k) : (l.map f).sum = l.length * k := by
  induction l with
  | nil => simp
  | cons x l ih => rw [List.map_cons, List.sum_cons, h x List.mem_cons_self, ih fun y hy => h y (List.mem_cons_of_mem _ hy), List.length_cons, Nat.succ_mul, Nat.add_comm]
/-- a sure book of tickets that hit h draws each -/
theorem sure_bound {n d : Nat} {b : List (List Int)} {r h : Nat} (hr : 1 ≤ r) (hs : missL n d b r = []) (hh : ∀ t ∈ b, hitN n d t r = h) (hp : 0 < h) : (waysN n d + (h : Int) - 1) / (h : Int) ≤ (b.length : Int) := by
  have f1 := hit_sum n d r hr b
  have f2 := hit_miss n d b r
  rw [hs] at f2
  have f3 : (chosenL (n : Int) d 1).length = ch n d := chosen_count n d n 1 (by omega)
  rw [sum_same b _ h hh] at f1
  rw [waysN_ch]
  have f4 : ch n d ≤ b.length * h := by
    have : ([] : List (List Int)).length = 0 := rfl
    omega
  refine Int.le_of_lt_add_one (Int.ediv_lt_of_lt_mul (by omega) ?_)
  rw [Int.add_mul, Int.one_mul]
  have : ((b.length * h : Nat) : Int) = (b.length : Int) * (h : Int) := by simp
  omega
end My

/-! what is paid -/
namespace My
open PySem L2 Fx
def prizeN (r : Nat) (ps : List Int) : Int := ps.getD (min r (ps.length - 1)) 0
def payT (m d : Int) (ps : List Int) (z : Nat) : Int := ((spreadL m d z).zipIdx.map fun q => q.1 * prizeN q.2 ps).sum
def payAll (m d : Int) (ps : List Int) (b : List (List Int)) : Int := (b.map fun t => payT m d ps t.length).sum
/-- prizes -/
def Pz (ps : List Int) : Prop := 0 < ps.length ∧ ps.length ≤ 1000 ∧ ∀ p ∈ ps, 0 ≤ p ∧ p ≤ 1000
theorem prize_mem {r : Nat} {ps : List Int} (h : 0 < ps.length) : prizeN r ps ∈ ps ∧ ps[min r (ps.length - 1)]? = some (prizeN r ps) := by
  have hl : min r (ps.length - 1) < ps.length := by omega
  have e : ps[min r (ps.length - 1)]? = some (prizeN r ps) := by
    unfold prizeN
    rw [List.getD_eq_getElem?_getD, List.getElem?_eq_getElem hl]
    rfl
  exact ⟨List.mem_of_getElem? e, e⟩
theorem prize_ok {r : Nat} {ps : List Int} (h : Pz ps) : 0 ≤ prizeN r ps ∧ prizeN r ps ≤ 1000 := h.2.2 _ (prize_mem h.1).1
theorem spread_pos {m d : Int} {z : Nat} (hm : m ≤ 60) (hz : z ≤ 60) {x : Int} (h : x ∈ spreadL m d z) : 0 ≤ x := by
  unfold spreadL at h
  obtain ⟨r, _, rfl⟩ := List.mem_map.mp h
  have h1 := waysN_bound z r (by omega)
  have h2 := waysN_bound (m - z) (d - r) (by omega)
  exact Int.mul_nonneg h1.1 h2.1
theorem sum_mono {α : Type} (l : List α) (f g : α → Int) (h : ∀ x ∈ l, f x ≤ g x) : (l.map f).sum ≤ (l.map g).sum := by
  induction l with
  | nil => simp
  | cons x l ih =>
    rw [List.map_cons, List.map_cons, List.sum_cons, List.sum_cons]
    have := h x List.mem_cons_self
    have := ih fun y hy => h y (List.mem_cons_of_mem _ hy)
    omega
theorem sum_nonneg {α : Type} (l : List α) (f : α → Int) (h : ∀ x ∈ l, 0 ≤ f x) : 0 ≤ (l.map f).sum := by
  have := sum_mono l (fun _ => 0) f h
  have e : (l.map fun _ => (0 : Int)).sum = 0 := by
    clear this h
    induction l with
    | nil => rfl
    | cons _ _ ih => rw [List.map_cons, List.sum_cons, ih]; rfl
  omega
theorem zip_fst {α : Type} {l : List α} {q : α × Nat} (h : q ∈ l.zipIdx) : q.1 ∈ l := List.mem_of_getElem? (List.mem_zipIdx_iff_getElem?.mp h)
theorem payT_pos {m d : Int} {ps : List Int} {z : Nat} (hm : m ≤ 60) (hz : z ≤ 60) (h : Pz ps) : 0 ≤ payT m d ps z := sum_nonneg _ _ fun q hq => Int.mul_nonneg (spread_pos hm hz (zip_fst hq)) (prize_ok h).1
theorem payAll_pos {m d : Int} {ps : List Int} {b : List (List Int)} (hm : m ≤ 60) (hb : ∀ t ∈ b, t.length ≤ 60) (h : Pz ps) : 0 ≤ payAll m d ps b := sum_nonneg _ _ fun t ht => payT_pos hm (hb t ht) h
theorem payAll_append (m d : Int) (ps : List Int) (b c : List (List Int)) : payAll m d ps (b ++ c) = payAll m d ps b + payAll m d ps c := by
  unfold payAll
  rw [List.map_append, List.sum_append]
theorem payAll_mono {m d : Int} {ps qs : List Int} {b : List (List Int)} (hm : m ≤ 60) (hb : ∀ t ∈ b, t.length ≤ 60) (hl : ps.length = qs.length) (h0 : 0 < ps.length) (h : ∀ (i : Nat) (x y : Int), ps[i]? = some x → qs[i]? = some y → x ≤ y) : payAll m d ps b ≤ payAll m d qs b := by
  refine sum_mono _ _ _ fun t ht => sum_mono _ _ _ fun q hq => ?_
  refine Int.mul_le_mul_of_nonneg_left ?_ (spread_pos hm (hb t ht) (zip_fst hq))
  have e1 := (prize_mem (r := q.2) h0).2
  have e2 := (prize_mem (r := q.2) (show 0 < qs.length by omega)).2
  rw [← hl] at e2
  exact h _ _ _ e1 e2
/-- prizes that are what is right -/
theorem prize_plain {r : Nat} (h : r ≤ 12) : prizeN r (rg 0 13) = (r : Int) := by
  have tab : ∀ r < 13, prizeN r (rg 0 13) = (r : Int) := by decide +kernel
  exact tab r (by omega)
theorem payT_plain {n d z : Nat} (hn : n < 13) (hd : d ≤ n) (hz : z ≤ n) : (n : Int) * payT n d (rg 0 13) z = (d : Int) * z * waysN n d := by
  rw [← mean_all hn hd hz]
  congr 1
  unfold payT
  congr 1
  apply List.map_congr_left
  intro q hq
  have hl : q.2 < z + 1 := by
    have := (List.getElem?_eq_some_iff.mp (List.mem_zipIdx_iff_getElem?.mp hq)).1
    rwa [spread_len] at this
  rw [prize_plain (by omega), Int.mul_comm]
theorem payAll_plain {n d : Nat} (hn : n < 13) (hd : d ≤ n) : ∀ {b : List (List Int)}, (∀ t ∈ b, t.length ≤ n) → payAll n d (rg 0 13) b * (n : Int) = (b.map fun t => (t.length : Int)).sum * (d : Int) * waysN n d
  | [], _ => by simp [payAll]
  | t :: b, h => by
    have ih := payAll_plain hn hd (b := b) fun u hu => h u (List.mem_cons_of_mem _ hu)
    have e := payT_plain hn hd (h t List.mem_cons_self)
    have e1 : payAll n d (rg 0 13) (t :: b) = payT n d (rg 0 13) t.length + payAll n d (rg 0 13) b := by unfold payAll; rw [List.map_cons, List.sum_cons]
    rw [e1, List.map_cons, List.sum_cons, Int.add_mul, Int.add_mul, Int.add_mul, ih, Int.mul_comm (payT _ _ _ _), e, Int.mul_comm (d : Int)]
/-- the mean -/
def gcdN (a b : Int) : Int := (Nat.gcd a.toNat b.toNat : Int)
def meanL (m d : Int) (ps : List Int) (b : List (List Int)) : List Int := [payAll m d ps b / gcdN (waysN m d) (payAll m d ps b), waysN m d / gcdN (waysN m d) (payAll m d ps b)]
theorem ways_pos {n d : Nat} (h : d ≤ n) : 0 < waysN n d := by
  rw [waysN_ch]
  have hp : ∀ n d : Nat, d ≤ n → 0 < ch n d := by
    intro n
    induction n with
    | zero => intro d h; rw [show d = 0 by omega]; decide
    | succ n ih =>
      intro d h
      cases d with
      | zero => rw [ch_zero]; decide
      | succ d =>
        rw [ch_succ]
        have := ih d (by omega)
        omega
  have := hp n d h
  omega
theorem ways_few {n d : Nat} (h : n ≤ 12) : waysN n d ≤ 4096 := by
  rw [waysN_ch]
  have h1 := ch_le n d
  have h2 : 2 ^ n ≤ 2 ^ 12 := Nat.pow_le_pow_right (by decide) h
  have : (2 : Nat) ^ 12 = 4096 := by decide
  omega
theorem gcd_facts {a b : Int} (ha : 0 < a) (hb : 0 ≤ b) : 0 < gcdN a b ∧ gcdN a b ≤ a ∧ a = gcdN a b * (a / gcdN a b) ∧ b = gcdN a b * (b / gcdN a b) := by
  obtain ⟨x, rfl⟩ : ∃ x : Nat, a = (x : Int) := ⟨a.toNat, by omega⟩
  obtain ⟨y, rfl⟩ : ∃ y : Nat, b = (y : Int) := ⟨b.toNat, by omega⟩
  unfold gcdN
  rw [Int.toNat_natCast, Int.toNat_natCast]
  have hx : 0 < x := by omega
  have h1 := Nat.gcd_dvd_left x y
  have h2 := Nat.gcd_dvd_right x y
  have h0 : 0 < Nat.gcd x y := Nat.gcd_pos_of_pos_left _ hx
  have h3 := Nat.le_of_dvd hx h1
  refine ⟨by omega, by omega, ?_, ?_⟩
  · have := Nat.mul_div_cancel' h1
    rw [← Int.natCast_ediv]
    exact_mod_cast this.symm
  · have := Nat.mul_div_cancel' h2
    rw [← Int.natCast_ediv]
    exact_mod_cast this.symm
theorem mean_law {n d : Nat} (hn : n < 13) (hd : d ≤ n) {b : List (List Int)} (hb : ∀ t ∈ b, t.length ≤ n) (hp : Pz (rg 0 13)) :
    payAll n d (rg 0 13) b / gcdN (waysN n d) (payAll n d (rg 0 13) b) * (n : Int) = waysN n d / gcdN (waysN n d) (payAll n d (rg 0 13) b) * (b.map fun t => (t.length : Int)).sum * (d : Int) := by
  have hw := ways_pos hd
  have h0 := payAll_pos (d := d) (show (n : Int) ≤ 60 by omega) (fun t ht => by have := hb t ht; omega) hp
  obtain ⟨g0, _, g1, g2⟩ := gcd_facts hw h0
  have e := payAll_plain hn hd hb
  generalize payAll n d (rg 0 13) b = T at *
  generalize waysN n d = C at *
  generalize (b.map fun t => (t.length : Int)).sum = N at *
  generalize gcdN C T = g at *
  generalize T / g = x at *
  generalize C / g = y at *
  subst g2
  have : g * (x * n) = g * (y * N * d) := by
    rw [← Int.mul_assoc, e, g1]
    rw [Int.mul_comm (N * ↑d), Int.mul_assoc, Int.mul_assoc]
  exact Int.eq_of_mul_eq_mul_left (by omega) this
theorem pz_plain : Pz (rg 0 13) := ⟨by decide, by decide, by decide +kernel⟩
end My

/-! what is paid at a draw -/
namespace My
open PySem L2 Fx
def paidL (ps : List Int) (b : List (List Int)) (w : List Int) : Int := (b.map fun t => prizeN (rightL t w) ps).sum
theorem paid_cons (ps : List Int) (t : List Int) (b : List (List Int)) (w : List Int) : paidL ps (t :: b) w = prizeN (rightL t w) ps + paidL ps b w := by
  unfold paidL
  rw [List.map_cons, List.sum_cons]
theorem paid_append (ps : List Int) (b c : List (List Int)) (w : List Int) : paidL ps (b ++ c) w = paidL ps b w + paidL ps c w := by
  unfold paidL
  rw [List.map_append, List.sum_append]
theorem paid_pos {ps : List Int} (h : Pz ps) (b : List (List Int)) (w : List Int) : 0 ≤ paidL ps b w := sum_nonneg _ _ fun _ _ => (prize_ok h).1
/-- by how many are right, or draw by draw -/
theorem sum_by {α : Type} (l : List α) (f : α → Nat) (g : Nat → Int) (k : Nat) (h : ∀ x ∈ l, f x < k) : (l.map fun x => g (f x)).sum = ((List.range k).map fun r => ((l.filter fun x => decide (f x = r)).length : Int) * g r).sum := by
  induction l with
  | nil =>
    simp only [List.map_nil, List.sum_nil, List.filter_nil, List.length_nil]
    symm
    have : ∀ k : Nat, ((List.range k).map fun r => ((0 : Nat) : Int) * g r).sum = 0 := fun k => by
      induction k with
      | zero => rfl
      | succ k ih => rw [List.range_succ, List.map_append, List.sum_append, ih]; simp
    exact this k
  | cons x l ih =>
    rw [List.map_cons, List.sum_cons, ih fun y hy => h y (List.mem_cons_of_mem _ hy)]
    have hx := h x List.mem_cons_self
    have e : ∀ k : Nat, ((List.range k).map fun r => (((x :: l).filter fun y => decide (f y = r)).length : Int) * g r).sum = (if f x < k then g (f x) else 0) + ((List.range k).map fun r => ((l.filter fun y => decide (f y = r)).length : Int) * g r).sum := fun k => by
      induction k with
      | zero => simp
      | succ k ih2 =>
        rw [List.range_succ, List.map_append, List.sum_append, List.map_append, List.sum_append, ih2]
        simp only [List.map_cons, List.map_nil, List.sum_cons, List.sum_nil, Int.add_zero, List.filter_cons]
        by_cases h1 : f x = k
        · subst h1
          simp only [decide_true, if_true, List.length_cons, Nat.lt_irrefl, if_false, Nat.lt_succ_self]
          rw [show (((l.filter fun y => decide (f y = f x)).length + 1 : Nat) : Int) = ((l.filter fun y => decide (f y = f x)).length : Int) + 1 by omega, Int.add_mul]
          omega
        · simp only [h1, decide_false, Bool.false_eq_true, if_false]
          by_cases h2 : f x < k
          · have : f x < k + 1 := by omega
            simp only [h2, this, if_true]
            omega
          · have : ¬ f x < k + 1 := by omega
            simp only [h2, this, if_false]
            omega
    rw [e, if_pos hx]
theorem payT_draws {n d : Nat} {t : List Int} (h : Row n t) (hd : d ≤ n) (ps : List Int) : payT n d ps t.length = ((chosenL n d 1).map fun w => prizeN (rightL t w) ps).sum := by
  have hb : ∀ w ∈ chosenL (n : Int) d 1, rightL t w < t.length + 1 := fun w hw => by
    have := right_le2 (t := t) (chosen_nodup hw)
    omega
  rw [sum_by _ (fun w => rightL t w) (fun r => prizeN r ps) _ hb]
  unfold payT
  rw [spread_cnt h hd]
  have : ∀ k : Nat, ((((List.range k).map fun r => (cnt t n d 1 r : Int)).zipIdx).map fun q => q.1 * prizeN q.2 ps) = (List.range k).map fun r => (cnt t n d 1 r : Int) * prizeN r ps := fun k => by
    apply List.ext_getElem?
    intro i
    simp only [List.getElem?_map, List.getElem?_zipIdx]
    rcases Nat.lt_or_ge i k with hi | hi
    · rw [List.getElem?_range hi]
      simp
    · rw [List.getElem?_eq_none (by simpa using hi)]
      simp
  rw [this]
  rfl
theorem sum_swap {α β : Type} (l : List α) (k : List β) (f : α → β → Int) : (l.map fun x => (k.map fun y => f x y).sum).sum = (k.map fun y => (l.map fun x => f x y).sum).sum := by
  induction l with
  | nil =>
    simp only [List.map_nil, List.sum_nil]
    induction k with
    | nil => rfl
    | cons y k ih => rw [List.map_cons, List.sum_cons, ← ih]; rfl
  | cons x l ih =>
    rw [List.map_cons, List.sum_cons, ih]
    clear ih
    induction k with
    | nil => rfl
    | cons y k ih =>
      simp only [List.map_cons, List.sum_cons] at *
      omega
theorem payAll_draws {n d : Nat} {b : List (List Int)} (h : ∀ t ∈ b, Row n t) (hd : d ≤ n) (ps : List Int) : payAll n d ps b = ((chosenL n d 1).map fun w => paidL ps b w).sum := by
  unfold payAll paidL
  rw [← sum_swap b (chosenL n d 1) fun t w => prizeN (rightL t w) ps]
  congr 1
  apply List.map_congr_left
  intro t ht
  exact payT_draws (h t ht) hd ps
theorem idx_le {x : Int} : ∀ {l : List Int} {k : Nat}, l[k]? = some x → l.idxOf x ≤ k
  | [], _, h => by simp at h
  | y :: l, 0, h => by
    have : y = x := Option.some.inj h
    subst this
    rw [List.idxOf_cons_self]
    exact Nat.le_refl _
  | y :: l, k + 1, h => by
    have ih := idx_le (l := l) (k := k) h
    rw [List.idxOf_cons]
    cases y == x <;> simp <;> omega
/-! draws in their order -/
theorem lex_cons {a b : Int} {x y : List Int} (h : a < b ∨ (a = b ∧ x < y)) : a :: x < b :: y := List.cons_lt_cons_iff.mpr h
theorem chosen_sorted (m : Int) : ∀ (s : Nat) (f : Int), (chosenL m s f).Pairwise (· < ·)
  | 0, _ => List.pairwise_singleton _ _
  | s + 1, f => by
    rw [chosenL, List.pairwise_flatMap]
    refine ⟨fun n _ => ?_, ?_⟩
    · rw [List.pairwise_map]
      exact (chosen_sorted m s (n + 1)).imp fun h => lex_cons (.inr ⟨rfl, h⟩)
    · refine (rg_sorted _ _).imp fun {a b} hab x hx y hy => ?_
      obtain ⟨x', _, rfl⟩ := List.mem_map.mp hx
      obtain ⟨y', _, rfl⟩ := List.mem_map.mp hy
      exact lex_cons (.inl hab)
/-! pairs of a pay and a draw -/
def encP (q : Int × List Int) : D := .tup [.int q.1, tI q.2]
theorem encP_py (q : Int × List Int) : (encP q).py = .tuple [.int q.1, .tuple (q.2.map .int)] := by
  show PyData.tuple [.int q.1, (tI q.2).py] = _
  rw [tI_py]
theorem eqv_ints (x y : List Int) : PyData.eqv (.tuple (x.map .int)) (.tuple (y.map .int)) = decide (x = y) := by
  have := eqv_tI x y
  rwa [tI_py, tI_py] at this
theorem lt_rows (x y : List Int) : PySem.W.dataLt (.tuple (x.map .int)) (.tuple (y.map .int)) = decide (x < y) := by
  rw [PySem.W.dataLt_tuple]
  exact PySem.W.dataLt_ints x y
theorem alike_rows (x y : List Int) : PySem.W.alike (.tuple (x.map .int)) (.tuple (y.map .int)) = true := by
  simp only [PySem.W.alike]
  exact PySem.W.alike_ints _ _
theorem encP_lt (p q : Int × List Int) : PySem.W.dataLt (encP p).py (encP q).py = decide (p.1 < q.1 ∨ (p.1 = q.1 ∧ p.2 < q.2)) := by
  rw [encP_py, encP_py, PySem.W.dataLt_pair (by simp [PySem.W.alike]) (alike_rows _ _), eqv_ints, lt_rows, PySem.W.dataLt_int]
  simp only [PyData.eqv, beq_iff_eq]
  by_cases h1 : p.1 = q.1
  · rw [if_pos h1]
    by_cases h2 : p.2 = q.2
    · have h3 : ¬ p.2 < q.2 := by rw [h2]; exact List.lt_irrefl _
      simp [h1, h2]
    · simp [h1, h2]
  · rw [if_neg h1]
    simp [h1]
theorem encP_ok (qs : List (Int × List Int)) : SortOk encP qs := by
  refine ⟨fun d hd d' hd' => ?_, .inl fun d hd => ?_, fun q _ => ?_⟩
  · obtain ⟨b, _, rfl⟩ := List.mem_map.mp hd
    obtain ⟨b', _, rfl⟩ := List.mem_map.mp hd'
    rw [encP_py, encP_py]
    simp only [PySem.W.alike, PySem.W.alikeAll, PySem.W.alike_ints, Bool.and_true]
  · obtain ⟨b, hb, rfl⟩ := List.mem_map.mp hd
    exact ⟨_, _, encP_py b⟩
  · rw [encP_py]
    simp [PyData.depth, PyData.depthAll, PySem.W.depth_ints]
/-- the least pair is the first of the least pay, the draws being in order -/
theorem worst_is {f : List Int → Int} {l : List (List Int)} (hs : l.Pairwise (· < ·)) {w : List Int} (hw : w ∈ l) (h : ∀ v ∈ l, PySem.W.dataLt (encP (f v, v)).py (encP (f w, w)).py = false) : f w ∈ l.map f ∧ (∀ x ∈ l.map f, f w ≤ x) ∧ l[(l.map f).idxOf (f w)]? = some w := by
  have hp : ∀ v ∈ l, ¬ (f v < f w ∨ (f v = f w ∧ v < w)) := fun v hv => by
    have := h v hv
    rw [encP_lt] at this
    simpa using this
  have hm : f w ∈ l.map f := List.mem_map.mpr ⟨w, hw, rfl⟩
  refine ⟨hm, fun x hx => ?_, ?_⟩
  · obtain ⟨v, hv, rfl⟩ := List.mem_map.mp hx
    have := hp v hv
    omega
  · have hlt := List.idxOf_lt_length_iff.mpr hm
    have hlt2 := hlt
    rw [List.length_map] at hlt2
    obtain ⟨k, hk, e⟩ := List.mem_iff_getElem.mp hw
    have e1 : f l[(l.map f).idxOf (f w)] = f w := by
      have := List.getElem_idxOf hlt
      rw [List.getElem_map] at this
      exact this
    have hik : (l.map f).idxOf (f w) ≤ k := idx_le (by rw [List.getElem?_map, List.getElem?_eq_getElem hk, e]; rfl)
    by_cases hkk : (l.map f).idxOf (f w) = k
    · rw [hkk, List.getElem?_eq_getElem hk, e]
    · have h1 := List.pairwise_iff_getElem.mp hs _ k hlt2 hk (by omega)
      rw [e] at h1
      exact absurd (.inr ⟨e1, h1⟩) (hp _ (List.getElem_mem hlt2))
theorem first_max {f : List Int → Int} {l : List (List Int)} {i : Nat} {w : List Int} (hi : l[i]? = some w) (h : ∀ (j : Nat) (v : List Int), l[j]? = some v → f v ≤ f w ∧ (j < i → f v < f w)) : f w ∈ l.map f ∧ (∀ x ∈ l.map f, x ≤ f w) ∧ l[(l.map f).idxOf (f w)]? = some w := by
  have hw := List.mem_of_getElem? hi
  have hm : f w ∈ l.map f := List.mem_map.mpr ⟨w, hw, rfl⟩
  refine ⟨hm, fun x hx => ?_, ?_⟩
  · obtain ⟨v, hv, rfl⟩ := List.mem_map.mp hx
    obtain ⟨j, hj⟩ := List.getElem?_of_mem hv
    exact (h j v hj).1
  · have hlt := List.idxOf_lt_length_iff.mpr hm
    have hlt2 := hlt
    rw [List.length_map] at hlt2
    have e1 : f l[(l.map f).idxOf (f w)] = f w := by
      have := List.getElem_idxOf hlt
      rw [List.getElem_map] at this
      exact this
    have hik : (l.map f).idxOf (f w) ≤ i := idx_le (by rw [List.getElem?_map, hi]; rfl)
    have hii : (l.map f).idxOf (f w) = i := by
      refine Nat.le_antisymm hik (Nat.le_of_not_lt fun hlt3 => ?_)
      have := (h _ _ (List.getElem?_eq_getElem hlt2)).2 hlt3
      omega
    rw [hii]
    exact hi
/-- worst and best as lists tell them -/
def worstOk (m : Int) (d : Nat) (ps : List Int) (b : List (List Int)) (w : List Int) : Prop := w ∈ chosenL m d 1 ∧ ∀ v ∈ chosenL m d 1, PySem.W.dataLt (encP (paidL ps b v, v)).py (encP (paidL ps b w, w)).py = false
def bestOk (m : Int) (d : Nat) (ps : List Int) (b : List (List Int)) (w : List Int) : Prop := ∃ i : Nat, (chosenL m d 1)[i]? = some w ∧ ∀ (j : Nat) (v : List Int), (chosenL m d 1)[j]? = some v → paidL ps b v ≤ paidL ps b w ∧ (j < i → paidL ps b v < paidL ps b w)
/-! the mean -/
theorem mean_facts {n d : Nat} (hd : d ≤ n) {ps : List Int} {b : List (List Int)} (h0 : 0 ≤ payAll n d ps b) : ∃ x y g : Int, meanL n d ps b = [x, y] ∧ 0 < g ∧ payAll n d ps b = g * x ∧ waysN n d = g * y ∧ 1 ≤ y ∧ 0 ≤ x ∧ Nat.Coprime x.toNat y.toNat := by
  have hw := ways_pos hd
  obtain ⟨g0, _, g1, g2⟩ := gcd_facts hw h0
  have hy : 0 < waysN n d / gcdN (waysN n d) (payAll n d ps b) := by
    refine Int.lt_of_not_ge fun hle => ?_
    have := Int.mul_le_mul_of_nonneg_left hle (Int.le_of_lt g0)
    rw [← g1] at this
    omega
  have hx : 0 ≤ payAll n d ps b / gcdN (waysN n d) (payAll n d ps b) := Int.ediv_nonneg h0 (Int.le_of_lt g0)
  refine ⟨_, _, _, rfl, g0, g2, g1, hy, hx, ?_⟩
  obtain ⟨C, hC⟩ : ∃ C : Nat, waysN n d = (C : Int) := ⟨(waysN n d).toNat, by omega⟩
  obtain ⟨S, hS⟩ : ∃ S : Nat, payAll n d ps b = (S : Int) := ⟨(payAll n d ps b).toNat, by omega⟩
  rw [hC, hS]
  unfold gcdN
  rw [Int.toNat_natCast, Int.toNat_natCast, ← Int.natCast_ediv, ← Int.natCast_ediv, Int.toNat_natCast, Int.toNat_natCast]
  have : 0 < Nat.gcd C S := Nat.gcd_pos_of_pos_left _ (by omega)
  rw [Nat.gcd_comm]
  exact Nat.coprime_div_gcd_div_gcd (by rw [Nat.gcd_comm]; exact this)
theorem no_part {x y p : Int} (hx : 0 ≤ x) (hy : 1 ≤ y) (hc : Nat.Coprime x.toNat y.toNat) (hp : 2 ≤ p) (h1 : y % p = 0) (h2 : x % p = 0) : False := by
  obtain ⟨X, rfl⟩ : ∃ X : Nat, x = (X : Int) := ⟨x.toNat, by omega⟩
  obtain ⟨Y, rfl⟩ : ∃ Y : Nat, y = (Y : Int) := ⟨y.toNat, by omega⟩
  obtain ⟨p, rfl⟩ : ∃ q : Nat, p = (q : Int) := ⟨p.toNat, by omega⟩
  rw [Int.toNat_natCast, Int.toNat_natCast] at hc
  have d1 : p ∣ X := Nat.dvd_of_mod_eq_zero (by omega)
  have d2 : p ∣ Y := Nat.dvd_of_mod_eq_zero (by omega)
  have := Nat.dvd_gcd d1 d2
  rw [hc] at this
  have := Nat.le_of_dvd (by decide) this
  omega
theorem sum_ge {l : List Int} {c : Int} (h : ∀ x ∈ l, c ≤ x) : c * (l.length : Int) ≤ l.sum := by
  induction l with
  | nil => simp
  | cons x l ih =>
    have := ih fun y hy => h y (List.mem_cons_of_mem _ hy)
    have := h x List.mem_cons_self
    rw [List.sum_cons, List.length_cons, show ((l.length + 1 : Nat) : Int) = (l.length : Int) + 1 by omega, Int.mul_add]
    omega
theorem sum_le {l : List Int} {c : Int} (h : ∀ x ∈ l, x ≤ c) : l.sum ≤ c * (l.length : Int) := by
  induction l with
  | nil => simp
  | cons x l ih =>
    have := ih fun y hy => h y (List.mem_cons_of_mem _ hy)
    have := h x List.mem_cons_self
    rw [List.sum_cons, List.length_cons, show ((l.length + 1 : Nat) : Int) = (l.length : Int) + 1 by omega, Int.mul_add]
    omega
theorem pay_is {r : Nat} {ps : List Int} (h : 0 < ps.length) : (r < ps.length → ps[r]? = some (prizeN r ps)) ∧ (ps.length ≤ r → ps[ps.length - 1]? = some (prizeN r ps)) := by
  have e := (prize_mem (r := r) h).2
  refine ⟨fun hr => ?_, fun hr => ?_⟩
  · rwa [show min r (ps.length - 1) = r by omega] at e
  · rwa [show min r (ps.length - 1) = ps.length - 1 by omega] at e
end My
namespace My
open PySem L2 Fx
theorem ok_encP (q : Int × List Int) : okD 2 (encP q) = true := by
  have := ok_tI 0 q.2
  simp only [encP, okD, List.all_cons, List.all_nil, Bool.and_true, Bool.true_and]
  exact this
end My

/-! numbers of draws -/
namespace My
open PySem L2 Fx
def lessS (m : Int) (z : Nat) (lo hi : Int) : Int := ((rg lo hi).map fun x => waysN (m - x) z).sum
def idxN (m : Int) : List Int → Int → Int
  | [], _ => 0
  | x :: r, f => lessS m r.length f x + idxN m r (x + 1)
theorem ways_chosen {m : Int} {z : Nat} {x : Int} (h : x ≤ m) : waysN (m - x) z = ((chosenL m z (x + 1)).length : Int) := by
  obtain ⟨d, hd⟩ : ∃ d : Nat, m - x = (d : Int) := ⟨(m - x).toNat, by omega⟩
  rw [chosen_count d z m (x + 1) (by omega), hd, waysN_ch]
theorem lessS_nil {m : Int} {z : Nat} {lo hi : Int} (h : hi ≤ lo) : lessS m z lo hi = 0 := by
  unfold lessS
  rw [rg_nil h]
  rfl
theorem lessS_cons {m : Int} {z : Nat} {lo hi : Int} (h : lo < hi) : lessS m z lo hi = waysN (m - lo) z + lessS m z (lo + 1) hi := by
  unfold lessS
  rw [rg_cons h, List.map_cons, List.sum_cons]
/-- the draw x :: r stands behind all that begin with a smaller number -/
theorem idx_step {m : Int} {z : Nat} {r : List Int} {x : Int} (hx : x + z ≤ m) {i : Nat} (hr : (chosenL m z (x + 1))[i]? = some r) : ∀ (k : Nat) (f : Int), x - f = (k : Int) → ∃ j : Nat, (j : Int) = lessS m z f x + i ∧ (chosenL m (z + 1) f)[j]? = some (x :: r)
  | 0, f, hk => by
    have e : f = x := by omega
    subst e
    refine ⟨i, by rw [lessS_nil (by omega)]; omega, ?_⟩
    have hi := (List.getElem?_eq_some_iff.mp hr).1
    rw [chosen_cons (by omega), List.getElem?_append_left (by rw [List.length_map]; exact hi), List.getElem?_map, hr]
    rfl
  | k + 1, f, hk => by
    obtain ⟨j, hj, e⟩ := idx_step hx hr k (f + 1) (by omega)
    refine ⟨(chosenL m z (f + 1)).length + j, ?_, ?_⟩
    · rw [lessS_cons (by omega), ways_chosen (by omega)]
      omega
    · rw [chosen_cons (by omega), List.getElem?_append_right (by rw [List.length_map]; omega), List.length_map, show (chosenL m z (f + 1)).length + j - (chosenL m z (f + 1)).length = j by omega]
      exact e
theorem idx_at3 {m : Int} : ∀ {z : Nat} {w : List Int} {f : Int}, w ∈ chosenL m z f → ∃ j : Nat, (j : Int) = idxN m w f ∧ (chosenL m z f)[j]? = some w
  | 0, w, f, h => by
    have e : w = [] := List.eq_nil_of_length_eq_zero (chosen_row_len h)
    subst e
    exact ⟨0, rfl, rfl⟩
  | z + 1, w, f, h => by
    obtain ⟨hp, hb, hl⟩ := chosen_mem.mp h
    cases w with
    | nil => simp at hl
    | cons x r =>
      obtain ⟨h1, h2⟩ := List.pairwise_cons.mp hp
      have hrl : r.length = z := by simpa using hl
      have hx := hb x List.mem_cons_self
      have hr : r ∈ chosenL m z (x + 1) := chosen_mem.mpr ⟨h2, fun y hy => by
        have := h1 y hy
        have := hb y (List.mem_cons_of_mem _ hy)
        omega, hrl⟩
      have hxz : x + z ≤ m := by
        have hlt : (chosenL m (z + 1) f) ≠ [] := fun e => by rw [e] at h; cases h
        by_cases hc : x + z ≤ m
        · exact hc
        · exfalso
          have h0 : 0 < (chosenL m z (x + 1)).length := List.length_pos_of_mem hr
          have hz0 : z ≠ 0 := fun e => by subst e; omega
          obtain ⟨z', rfl⟩ : ∃ z', z = z' + 1 := ⟨z - 1, by omega⟩
          rw [chosen_nil (by omega)] at hr
          cases hr
      obtain ⟨i, hi, e⟩ := idx_at3 hr
      obtain ⟨j, hj, e2⟩ := idx_step hxz e (x - f).toNat f (by omega)
      refine ⟨j, ?_, e2⟩
      rw [hj, idxN, hrl, hi]
theorem idx_range {n d : Nat} {w : List Int} (h : w ∈ chosenL (n : Int) d 1) : 0 ≤ idxN n w 1 ∧ idxN n w 1 < waysN n d ∧ (chosenL (n : Int) d 1)[(idxN n w 1).toNat]? = some w := by
  obtain ⟨j, hj, e⟩ := idx_at3 h
  have hl := (List.getElem?_eq_some_iff.mp e).1
  rw [chosen_count n d n 1 (by omega)] at hl
  refine ⟨by omega, by rw [waysN_ch]; omega, ?_⟩
  rw [← hj]
  exact e
theorem nodup_at9 {α : Type} {l : List α} (hn : l.Nodup) {i j : Nat} {x : α} (h1 : l[i]? = some x) (h2 : l[j]? = some x) : i = j := by
  obtain ⟨l1, e1⟩ := List.getElem?_eq_some_iff.mp h1
  obtain ⟨l2, e2⟩ := List.getElem?_eq_some_iff.mp h2
  have hp := List.pairwise_iff_getElem.mp hn
  rcases Nat.lt_trichotomy i j with h | h | h
  · exact absurd (e1.trans e2.symm) (hp i j l1 l2 h)
  · exact h
  · exact absurd (e2.trans e1.symm) (hp j i l2 l1 h)
theorem draws_nodup9 (m : Int) (d : Nat) : (chosenL m d 1).Nodup := (chosen_sorted m d 1).imp fun h e => by
  rw [e] at h
  exact List.lt_irrefl _ h
theorem idx_inv {n d : Nat} {j : Nat} {w : List Int} (h : (chosenL (n : Int) d 1)[j]? = some w) : idxN n w 1 = (j : Int) := by
  obtain ⟨h1, _, e⟩ := idx_range (List.mem_of_getElem? h)
  have := nodup_at9 (draws_nodup9 (n : Int) d) e h
  omega
theorem idx_order {n d : Nat} {w v : List Int} (hw : w ∈ chosenL (n : Int) d 1) (hv : v ∈ chosenL (n : Int) d 1) : (idxN n w 1 < idxN n v 1) ↔ w < v := by
  obtain ⟨a1, a2, a3⟩ := idx_range hw
  obtain ⟨b1, b2, b3⟩ := idx_range hv
  obtain ⟨la, ea⟩ := List.getElem?_eq_some_iff.mp a3
  obtain ⟨lb, eb⟩ := List.getElem?_eq_some_iff.mp b3
  have srt := List.pairwise_iff_getElem.mp (chosen_sorted (n : Int) d 1)
  constructor
  · intro h
    have := srt _ _ la lb (by omega)
    rw [ea, eb] at this
    exact this
  · intro h
    refine Int.lt_of_not_ge fun hge => ?_
    rcases Int.lt_or_eq_of_le hge with h2 | h2
    · have := srt _ _ lb la (by omega)
      rw [ea, eb] at this
      exact List.lt_irrefl _ (List.lt_trans h this)
    · have : w = v := by rw [← ea, ← eb]; congr 1; omega
      rw [this] at h
      exact List.lt_irrefl _ h
/-- one turn of draw_at -/
theorem at_step {m : Int} {z : Nat} {here : Int} {i : Nat} {r : List Int} (h : (chosenL m (z + 1) here)[i]? = some r) :
    here + z ≤ m ∧ (((i : Int) < waysN (m - here) z ∧ ∃ r', r = here :: r' ∧ (chosenL m z (here + 1))[i]? = some r') ∨ (waysN (m - here) z ≤ (i : Int) ∧ (chosenL m (z + 1) (here + 1))[((i : Int) - waysN (m - here) z).toNat]? = some r)) := by
  have hz : here + z ≤ m := by
    refine Int.le_of_not_gt fun hc => ?_
    rw [chosen_nil (by omega)] at h
    cases h
  refine ⟨hz, ?_⟩
  rw [chosen_cons (by omega)] at h
  rw [ways_chosen (by omega)]
  rcases Nat.lt_or_ge i (chosenL m z (here + 1)).length with hi | hi
  · refine .inl ⟨by omega, ?_⟩
    rw [List.getElem?_append_left (by rw [List.length_map]; exact hi), List.getElem?_map, List.getElem?_eq_getElem hi] at h
    exact ⟨_, (Option.some.inj h).symm, List.getElem?_eq_getElem hi⟩
  · refine .inr ⟨by omega, ?_⟩
    rw [List.getElem?_append_right (by rw [List.length_map]; exact hi), List.length_map] at h
    rw [show ((i : Int) - ((chosenL m z (here + 1)).length : Int)).toNat = i - (chosenL m z (here + 1)).length by omega]
    exact h
end My

/-! desks: their deeds as plain lists -/
namespace My
open PySem L2 Fx
abbrev Deed := Option Str × List Int
def nmD : Option Str → D
  | none => .non
  | some s => .str s
def encD (q : Deed) : D := .tup [nmD q.1, tI q.2]
def soldL (done : List Deed) : List Deed := done.filter fun q => q.1.isSome
def drawnL (done : List Deed) : Option (List Int) := ((done.filter fun q => q.1.isNone).map (·.2)).head?
def drawnD (done : List Deed) : D := match drawnL done with
  | none => .non
  | some w => tI w
def bookL (done : List Deed) : List (List Int) := (soldL done).map (·.2)
def mineL (done : List Deed) (s : Str) : List (List Int) := ((soldL done).filter fun q => decide (q.1 = some s)).map (·.2)
/-- the names, each once, as they came -/
def addN (l : List Str) (s : Str) : List Str := if s ∈ l then l else l ++ [s]
def namesL (done : List Deed) : List Str := ((soldL done).filterMap (·.1)).foldl addN []
def tillL (cost : Int) (ps : List Int) (done : List Deed) : Int := cost * ((soldL done).length : Int) - match drawnL done with
  | none => 0
  | some w => paidL ps (bookL done) w
theorem nm_non (o : Option Str) : isNon (.dat (nmD o)) = o.isNone := by cases o <;> rfl
theorem fl_nm (o : Option Str) : fl (nmD o) = true := by cases o <;> rfl
/-- a desk in the store -/
structure DeskS (C : Addr) (M : List MO) (j j1 j2 : Nat) (lt ps : List Int) (cost : Int) (done undone : List Deed) : Prop where
  ob : M[j]? = some (.ins C [("lot", .dat (tI lt)), ("prizes", .dat (tI ps)), ("price", .dat (.int cost)), ("done", .mut j1), ("undone", .mut j2)])
  dn : M[j1]? = some (.lst (done.map encD))
  un : M[j2]? = some (.lst (undone.map encD))
  ne : j1 ≠ j2
structure Kp (M M2 : List MO) (j j1 j2 j2' : Nat) : Prop where
  keep : ∀ i, i ≠ j → i ≠ j1 → i ≠ j2 → i < M.length → M2[i]? = M[i]?
  len : M.length ≤ M2.length
  new : j2' = j2 ∨ M.length ≤ j2'
section
variable {C : Addr} {M M2 M3 : List MO} {j j1 j2 j3 j4 : Nat} {lt ps : List Int} {cost : Int} {done undone : List Deed} {q : Deed}
theorem Kp.refl : Kp M M j j1 j2 j2 := ⟨fun _ _ _ _ _ => rfl, Nat.le_refl _, .inl rfl⟩
theorem Kp.trans (a : Kp M M2 j j1 j2 j3) (b : Kp M2 M3 j j1 j3 j4) : Kp M M3 j j1 j2 j4 := by
  refine ⟨fun i h1 h2 h3 h4 => ?_, Nat.le_trans a.len b.len, ?_⟩
  · have h5 : i ≠ j3 := by
      rcases a.new with e | e
      · rw [e]; exact h3
      · omega
    rw [b.keep i h1 h2 h5 (Nat.lt_of_lt_of_le h4 a.len), a.keep i h1 h2 h3 h4]
  · have h1 := a.len
    rcases b.new with e | e
    · rw [e]; exact a.new
    · exact .inr (by omega)
theorem get_lt {α : Type} {l : List α} {i : Nat} {x : α} (h : l[i]? = some x) : i < l.length := (List.getElem?_eq_some_iff.mp h).1
theorem Kp.at_ (a : Kp M M2 j j1 j2 j3) {i : Nat} {m : MO} (h : M[i]? = some m) (h1 : i ≠ j) (h2 : i ≠ j1) (h3 : i ≠ j2) : M2[i]? = some m ∧ i ≠ j3 := by
  refine ⟨by rw [a.keep i h1 h2 h3 (get_lt h)]; exact h, ?_⟩
  have := get_lt h
  rcases a.new with e | e
  · rw [e]; exact h3
  · omega
theorem DeskS.ne1 (d : DeskS C M j j1 j2 lt ps cost done undone) : j ≠ j1 := fun e => by
  have h1 := d.ob
  rw [e, d.dn] at h1
  cases h1
theorem DeskS.ne2 (d : DeskS C M j j1 j2 lt ps cost done undone) : j ≠ j2 := fun e => by
  have h1 := d.ob
  rw [e, d.un] at h1
  cases h1
/-- a deed is done -/
theorem desk_keep (d : DeskS C M j j1 j2 lt ps cost done undone) (q : Deed) :
    DeskS C (((M.set j1 (.lst (done.map encD ++ [encD q]))) ++ [MO.lst []]).set j (.ins C [("lot", .dat (tI lt)), ("prizes", .dat (tI ps)), ("price", .dat (.int cost)), ("done", .mut j1), ("undone", .mut M.length)])) j j1 M.length lt ps cost (done ++ [q]) [] ∧
    Kp M (((M.set j1 (.lst (done.map encD ++ [encD q]))) ++ [MO.lst []]).set j (.ins C [("lot", .dat (tI lt)), ("prizes", .dat (tI ps)), ("price", .dat (.int cost)), ("done", .mut j1), ("undone", .mut M.length)])) j j1 j2 M.length := by
  have l0 := get_lt d.ob
  have l1 := get_lt d.dn
  have n1 := d.ne1
  have sz : (M.set j1 (.lst (done.map encD ++ [encD q]))).length = M.length := List.length_set
  refine ⟨⟨?_, ?_, ?_, by omega⟩, ⟨fun i h1 h2 h3 h4 => ?_, ?_, .inr (Nat.le_refl _)⟩⟩
  · rw [List.getElem?_set_self (by rw [List.length_append, sz]; omega)]
  · rw [List.getElem?_set_ne n1, List.getElem?_append_left (by rw [sz]; exact l1), List.getElem?_set_self l1, List.map_append]
    rfl
  · rw [List.getElem?_set_ne (by omega), List.getElem?_append_right (by rw [sz]; exact Nat.le_refl _), sz, Nat.sub_self]
    rfl
  · rw [List.getElem?_set_ne (fun e => h1 e.symm), List.getElem?_append_left (by rw [sz]; exact h4), List.getElem?_set_ne (fun e => h2 e.symm)]
  · rw [List.length_set, List.length_append, sz]
    omega
/-- the last one is taken back -/
theorem desk_back (d : DeskS C M j j1 j2 lt ps cost (done ++ [q]) undone) :
    DeskS C ((M.set j1 (.lst (done.map encD))).set j2 (.lst (undone.map encD ++ [encD q]))) j j1 j2 lt ps cost done (undone ++ [q]) ∧
    Kp M ((M.set j1 (.lst (done.map encD))).set j2 (.lst (undone.map encD ++ [encD q]))) j j1 j2 j2 := by
  have l1 := get_lt d.dn
  have l2 := get_lt d.un
  refine ⟨⟨?_, ?_, ?_, d.ne⟩, ⟨fun i h1 h2 h3 h4 => ?_, ?_, .inl rfl⟩⟩
  · rw [List.getElem?_set_ne (fun e => d.ne2 e.symm), List.getElem?_set_ne (fun e => d.ne1 e.symm)]
    exact d.ob
  · rw [List.getElem?_set_ne (fun e => d.ne e.symm), List.getElem?_set_self l1]
  · rw [List.getElem?_set_self (by rw [List.length_set]; exact l2), List.map_append]
    rfl
  · rw [List.getElem?_set_ne (fun e => h3 e.symm), List.getElem?_set_ne (fun e => h2 e.symm)]
  · rw [List.length_set, List.length_set]
    exact Nat.le_refl _
/-- and done again -/
theorem desk_again (d : DeskS C M j j1 j2 lt ps cost done (undone ++ [q])) :
    DeskS C ((M.set j2 (.lst (undone.map encD))).set j1 (.lst (done.map encD ++ [encD q]))) j j1 j2 lt ps cost (done ++ [q]) undone ∧
    Kp M ((M.set j2 (.lst (undone.map encD))).set j1 (.lst (done.map encD ++ [encD q]))) j j1 j2 j2 := by
  have l1 := get_lt d.dn
  have l2 := get_lt d.un
  refine ⟨⟨?_, ?_, ?_, d.ne⟩, ⟨fun i h1 h2 h3 h4 => ?_, ?_, .inl rfl⟩⟩
  · rw [List.getElem?_set_ne (fun e => d.ne1 e.symm), List.getElem?_set_ne (fun e => d.ne2 e.symm)]
    exact d.ob
  · rw [List.getElem?_set_self (by rw [List.length_set]; exact l1), List.map_append]
    rfl
  · rw [List.getElem?_set_ne d.ne, List.getElem?_set_self l2]
  · rw [List.getElem?_set_ne (fun e => h2 e.symm), List.getElem?_set_ne (fun e => h3 e.symm)]
  · rw [List.length_set, List.length_set]
    exact Nat.le_refl _
end
section
variable {a b c d e : AV} {f : Str} {v x : AV} {r : List (Str × AV)}
abbrev flds (a b c d e : AV) : List (Str × AV) := [("lot", a), ("prizes", b), ("price", c), ("done", d), ("undone", e)]
theorem f_lot : (flds a b c d e).lookup ("lot" : Str) = some a := rfl
theorem f_prizes : (flds a b c d e).lookup ("prizes" : Str) = some b := rfl
theorem f_price : (flds a b c d e).lookup ("price" : Str) = some c := rfl
theorem f_done : (flds a b c d e).lookup ("done" : Str) = some d := rfl
theorem f_undone : (flds a b c d e).lookup ("undone" : Str) = some e := rfl
theorem put_undone : putA "undone" v (flds a b c d e) = flds a b c d v := rfl
end
end My

/-! names and what they are paid; a book sold at a desk -/
namespace My
open PySem L2 Fx
/-! ### names -/
theorem addN_mem {l : List Str} {s t : Str} : t ∈ addN l s ↔ t ∈ l ∨ t = s := by
  unfold addN
  by_cases h : s ∈ l
  · rw [if_pos h]
    exact ⟨.inl, fun z => z.elim id fun e => by rw [e]; exact h⟩
  · rw [if_neg h, List.mem_append, List.mem_singleton]
theorem addN_nodup {l : List Str} {s : Str} (h : l.Nodup) : (addN l s).Nodup := by
  unfold addN
  by_cases hs : s ∈ l
  · rw [if_pos hs]; exact h
  · rw [if_neg hs, List.nodup_append]
    exact ⟨h, List.nodup_cons.mpr ⟨List.not_mem_nil, List.nodup_nil⟩, fun a ha b hb e => hs (by rw [← List.mem_singleton.mp hb, ← e]; exact ha)⟩
theorem foldN_mem (l : List Str) : ∀ (acc : List Str) (t : Str), t ∈ l.foldl addN acc ↔ t ∈ acc ∨ t ∈ l := by
  induction l with
  | nil => intro acc t; simp
  | cons a l ih =>
    intro acc t
    rw [List.foldl_cons, ih, addN_mem, List.mem_cons, or_assoc]
theorem foldN_nodup (l : List Str) : ∀ acc : List Str, acc.Nodup → (l.foldl addN acc).Nodup := by
  induction l with
  | nil => intro acc h; exact h
  | cons a l ih => intro acc h; exact ih _ (addN_nodup h)
theorem names_mem {done : List Deed} {s : Str} : s ∈ namesL done ↔ ∃ t, (some s, t) ∈ soldL done := by
  unfold namesL
  rw [foldN_mem, List.mem_filterMap]
  constructor
  · rintro (h | ⟨⟨o, t⟩, h1, h2⟩)
    · cases h
    · have : o = some s := h2
      subst this
      exact ⟨t, h1⟩
  · rintro ⟨t, h⟩
    exact .inr ⟨_, h, rfl⟩
theorem names_nodup (done : List Deed) : (namesL done).Nodup := foldN_nodup _ _ List.nodup_nil
theorem mine_ne {done : List Deed} {s : Str} (h : s ∈ namesL done) : mineL done s ≠ [] := fun e => by
  obtain ⟨t, ht⟩ := names_mem.mp h
  have : t ∈ mineL done s := List.mem_map.mpr ⟨(some s, t), List.mem_filter.mpr ⟨ht, by simp⟩, rfl⟩
  rw [e] at this
  cases this
theorem one_of {a : Str} {x : Int} : ∀ {N : List Str}, N.Nodup → (N.map fun s => if a = s then x else 0).sum = if a ∈ N then x else 0
  | [], _ => by simp
  | s :: N, h => by
    obtain ⟨h1, h2⟩ := List.nodup_cons.mp h
    rw [List.map_cons, List.sum_cons, one_of h2]
    by_cases e : a = s
    · subst e
      rw [if_pos rfl, if_neg h1, if_pos List.mem_cons_self]
      omega
    · rw [if_neg e]
      by_cases hm : a ∈ N
      · rw [if_pos hm, if_pos (List.mem_cons_of_mem _ hm)]
        omega
      · rw [if_neg hm, if_neg (fun z => (List.mem_cons.mp z).elim e hm)]
        omega
theorem sum_map_add9 {α : Type} (l : List α) (f g : α → Int) : (l.map fun x => f x + g x).sum = (l.map f).sum + (l.map g).sum := by
  induction l with
  | nil => rfl
  | cons a l ih => simp only [List.map_cons, List.sum_cons, ih]; omega
/-- the names have together what all are paid -/
theorem names_sum (f : List Int → Int) : ∀ (L : List Deed) (N : List Str), N.Nodup → (∀ z ∈ L, ∃ s, z.1 = some s ∧ s ∈ N) →
    (N.map fun s => (((L.filter fun z => decide (z.1 = some s)).map (·.2)).map f).sum).sum = ((L.map (·.2)).map f).sum
  | [], N, _, _ => by
    simp only [List.filter_nil, List.map_nil, List.sum_nil]
    induction N with
    | nil => rfl
    | cons a N ih => simp_all
  | z :: L, N, hN, h => by
    obtain ⟨a, ha, haN⟩ := h z List.mem_cons_self
    have ih := names_sum f L N hN fun y hy => h y (List.mem_cons_of_mem _ hy)
    have e : ∀ s : Str, ((((z :: L).filter fun y => decide (y.1 = some s)).map (·.2)).map f).sum = (if a = s then f z.2 else 0) + (((L.filter fun y => decide (y.1 = some s)).map (·.2)).map f).sum := fun s => by
      rw [List.filter_cons, ha]
      by_cases hs : a = s
      · subst hs
        simp
      · have : ¬ (some a = some s) := fun z => hs (Option.some.inj z)
        simp [hs]
    simp only [e]
    rw [sum_map_add9, one_of hN, if_pos haN, ih]
    simp
theorem paid_names (ps : List Int) (done : List Deed) (w : List Int) : ((namesL done).map fun s => paidL ps (mineL done s) w).sum = paidL ps (bookL done) w := by
  have := names_sum (fun t => prizeN (rightL t w) ps) (soldL done) (namesL done) (names_nodup done) fun z hz => by
    have hs := (List.mem_filter.mp hz).2
    obtain ⟨o, t⟩ := z
    cases o with
    | none => cases hs
    | some s => exact ⟨s, rfl, names_mem.mpr ⟨t, hz⟩⟩
  exact this
theorem names_few {done : List Deed} : (namesL done).length ≤ done.length := by
  have h1 : ∀ (l : List Str) (acc : List Str), (l.foldl addN acc).length ≤ acc.length + l.length := fun l => by
    induction l with
    | nil => intro acc; exact Nat.le_refl _
    | cons a l ih =>
      intro acc
      have h1 := ih (addN acc a)
      have h2 : (addN acc a).length ≤ acc.length + 1 := by
        unfold addN
        split
        · omega
        · rw [List.length_append]; exact Nat.le_refl _
      rw [List.foldl_cons, List.length_cons]
      omega
  unfold namesL
  have h2 := h1 ((soldL done).filterMap (·.1)) []
  have h3 : ((soldL done).filterMap (·.1)).length ≤ (soldL done).length := List.length_filterMap_le _ _
  have h4 : (soldL done).length ≤ done.length := List.length_filter_le _ _
  have h5 : ([] : List Str).length = 0 := rfl
  omega
/-! ### a book sold, by turns to al and bo -/
def nm2 (i : Nat) : Str := if i % 2 = 0 then "al" else "bo"
def dnL (b : List (List Int)) : List Deed := b.zipIdx.map fun q => (some (nm2 q.2), q.1)
theorem dnL_len (b : List (List Int)) : (dnL b).length = b.length := by unfold dnL; rw [List.length_map, List.length_zipIdx]
theorem dnL_snoc {b : List (List Int)} {i : Nat} {t : List Int} (h : b[i]? = some t) : dnL (b.take (i + 1)) = dnL (b.take i) ++ [(some (nm2 i), t)] := by
  have hi := (List.getElem?_eq_some_iff.mp h).1
  unfold dnL
  rw [List.take_add_one, h, List.zipIdx_append, List.map_append]
  show _ ++ [(some (nm2 (0 + (b.take i).length)), t)] = _
  rw [List.length_take, Nat.min_eq_left (by omega), Nat.zero_add]
theorem dnL_some {b : List (List Int)} {z : Deed} (h : z ∈ dnL b) : z.1.isSome = true := by
  obtain ⟨q, _, rfl⟩ := List.mem_map.mp h
  rfl
theorem dnL_sold (b : List (List Int)) : soldL (dnL b) = dnL b := List.filter_eq_self.mpr fun z hz => dnL_some hz
theorem dnL_book (b : List (List Int)) : bookL (dnL b) = b := by
  unfold bookL
  rw [dnL_sold]
  unfold dnL
  rw [List.map_map]
  exact List.zipIdx_map_fst 0 b
theorem drawn_none {L : List Deed} (h : ∀ z ∈ L, z.1.isSome = true) : drawnL L = none := by
  unfold drawnL
  rw [List.filter_eq_nil_iff.mpr fun z hz => by have := h z hz; cases hz2 : z.1 <;> simp_all]
  rfl
theorem dnL_drawn (b : List (List Int)) : drawnL (dnL b) = none := drawn_none fun z hz => dnL_some hz
theorem drawn_snoc {L : List Deed} (h : drawnL L = none) (w : List Int) : drawnL (L ++ [(none, w)]) = some w := by
  unfold drawnL at h ⊢
  rw [List.filter_append, List.map_append]
  have : ((L.filter fun q => q.1.isNone).map (·.2)) = [] := List.head?_eq_none_iff.mp h
  rw [this]
  rfl
theorem sold_none9 (done : List Deed) (t : List Int) : soldL (done ++ [(none, t)]) = soldL done := by
  unfold soldL
  rw [List.filter_append]
  show _ ++ [] = _
  rw [List.append_nil]
theorem book_none (done : List Deed) (t : List Int) : bookL (done ++ [(none, t)]) = bookL done := by
  unfold bookL
  rw [sold_none9]
theorem till_plain (cost : Int) (ps : List Int) (b : List (List Int)) : tillL cost ps (dnL b) = cost * (b.length : Int) := by
  unfold tillL
  rw [dnL_drawn, dnL_sold, dnL_len]
  show cost * (b.length : Int) - 0 = _
  omega
theorem till_drawn (cost : Int) (ps : List Int) (b : List (List Int)) (w : List Int) : tillL cost ps (dnL b ++ [(none, w)]) = cost * (b.length : Int) - paidL ps b w := by
  unfold tillL
  rw [drawn_snoc (dnL_drawn b), sold_none9, dnL_sold, dnL_len, book_none, dnL_book]
def tillsL (m : Int) (d : Nat) (bf : Int) (ps : List Int) (b : List (List Int)) : List Int := (chosenL m d 1).map fun w => bf - paidL ps b w
theorem tills_len (m : Int) (d : Nat) (bf : Int) (ps : List Int) (b : List (List Int)) : (tillsL m d bf ps b).length = (chosenL m d 1).length := List.length_map ..
theorem tills_sum {n d : Nat} {bf : Int} {ps : List Int} {b : List (List Int)} (h : ∀ t ∈ b, Row n t) (hd : d ≤ n) : (tillsL n d bf ps b).sum = bf * waysN n d - payAll n d ps b := by
  rw [payAll_draws h hd]
  have hw : waysN n d = ((chosenL (n : Int) d 1).length : Int) := by rw [chosen_count n d n 1 (by omega), waysN_ch]
  rw [hw]
  unfold tillsL
  generalize chosenL (n : Int) d 1 = L
  induction L with
  | nil => simp
  | cons a L ih =>
    simp only [List.map_cons, List.sum_cons, ih, List.length_cons]
    rw [show ((L.length + 1 : Nat) : Int) = (L.length : Int) + 1 by omega, Int.mul_add, Int.mul_one]
    omega
section
variable {C : Addr} {M M2 M3 : List MO} {j j1 j2 j3 j4 : Nat} {lt ps : List Int} {cost : Int} {done undone : List Deed}
theorem DeskS.push (d : DeskS C M j j1 j2 lt ps cost done undone) (x : MO) : DeskS C (M ++ [x]) j j1 j2 lt ps cost done undone :=
  ⟨by rw [List.getElem?_append_left (get_lt d.ob)]; exact d.ob, by rw [List.getElem?_append_left (get_lt d.dn)]; exact d.dn, by rw [List.getElem?_append_left (get_lt d.un)]; exact d.un, d.ne⟩
theorem DeskS.set (d : DeskS C M j j1 j2 lt ps cost done undone) {i : Nat} {x : MO} (h : i ≠ j) (h1 : i ≠ j1) (h2 : i ≠ j2) : DeskS C (M.set i x) j j1 j2 lt ps cost done undone :=
  ⟨by rw [List.getElem?_set_ne h]; exact d.ob, by rw [List.getElem?_set_ne h1]; exact d.dn, by rw [List.getElem?_set_ne h2]; exact d.un, d.ne⟩
end
end My

/-! desks led anew; == of desks -/
namespace My
open PySem L2 Fx
/-! ### == of deeds -/
theorem eqv_nm (a b : Option Str) : PyData.eqv (nmD a).py (nmD b).py = decide (a = b) := by
  cases a with
  | none =>
    cases b with
    | none => simp [nmD, D.py, PyData.eqv]
    | some t => simp [nmD, D.py, PyData.eqv]
  | some s =>
    cases b with
    | none => simp [nmD, D.py, PyData.eqv]
    | some t =>
      simp only [nmD, D.py, PyData.eqv, Option.some.injEq]
      by_cases h : s = t
      · subst h; simp
      · rw [decide_eq_false h]; exact beq_eq_false_iff_ne.mpr h
theorem eqv_deed (a b : Deed) : PyData.eqv (encD a).py (encD b).py = decide (a = b) := by
  obtain ⟨a1, a2⟩ := a
  obtain ⟨b1, b2⟩ := b
  have e : PyData.eqv (encD (a1, a2)).py (encD (b1, b2)).py = (PyData.eqv (nmD a1).py (nmD b1).py && (PyData.eqv (tI a2).py (tI b2).py && true)) := by
    show PyData.eqv (.tuple [(nmD a1).py, (tI a2).py]) (.tuple [(nmD b1).py, (tI b2).py]) = _
    simp only [PyData.eqv, PyData.eqvAll]
  rw [e, eqv_nm, eqv_tI]
  by_cases h : a1 = b1 <;> by_cases h2 : a2 = b2 <;> simp [h, h2]
theorem eqv_deeds : ∀ a b : List Deed, PyData.eqvAll (pys (a.map encD)) (pys (b.map encD)) = decide (a = b)
  | [], [] => by simp [pys, PyData.eqvAll]
  | [], _ :: _ => by simp [pys, PyData.eqvAll]
  | _ :: _, [] => by simp [pys, PyData.eqvAll]
  | x :: a, y :: b => by
    have ih := eqv_deeds a b
    have e := eqv_deed x y
    show PyData.eqvAll ((encD x).py :: pys (a.map encD)) ((encD y).py :: pys (b.map encD)) = _
    simp only [PyData.eqvAll, ih, e]
    by_cases h : x = y <;> by_cases h2 : a = b <;> simp [h, h2]
def deskD (lt ps : List Int) (cost : Int) (done undone : List Deed) : D := .tup [tI lt, tI ps, .int cost, .lis (done.map encD), .lis (undone.map encD)]
theorem eqv_desk (lt ps : List Int) (cost : Int) (done undone : List Deed) (lt' ps' : List Int) (cost' : Int) (done' undone' : List Deed) :
    PyData.eqv (deskD lt ps cost done undone).py (deskD lt' ps' cost' done' undone').py = decide (lt = lt' ∧ ps = ps' ∧ cost = cost' ∧ done = done' ∧ undone = undone') := by
  have e : PyData.eqv (deskD lt ps cost done undone).py (deskD lt' ps' cost' done' undone').py = (PyData.eqv (tI lt).py (tI lt').py && (PyData.eqv (tI ps).py (tI ps').py && (PyData.eqv (.int cost) (.int cost') && (PyData.eqv (.list (pys (done.map encD))) (.list (pys (done'.map encD))) && (PyData.eqv (.list (pys (undone.map encD))) (.list (pys (undone'.map encD))) && true))))) := by
    show PyData.eqv (.tuple [(tI lt).py, (tI ps).py, .int cost, .list (pys (done.map encD)), .list (pys (undone.map encD))]) (.tuple [(tI lt').py, (tI ps').py, .int cost', .list (pys (done'.map encD)), .list (pys (undone'.map encD))]) = _
    simp only [PyData.eqv, PyData.eqvAll]
  have e4 : ∀ a b : List Deed, PyData.eqv (.list (pys (a.map encD))) (.list (pys (b.map encD))) = decide (a = b) := fun a b => by simp only [PyData.eqv, eqv_deeds]
  have e3 : PyData.eqv (.int cost) (.int cost') = decide (cost = cost') := by
    simp only [PyData.eqv]
    by_cases h : cost = cost' <;> simp [h]
  rw [e, eqv_tI, eqv_tI, e3, e4, e4]
  by_cases h1 : lt = lt' <;> by_cases h2 : ps = ps' <;> by_cases h3 : cost = cost' <;> by_cases h4 : done = done' <;> by_cases h5 : undone = undone' <;> simp [h1, h2, h3, h4, h5]
def NmOk (l : List Deed) : Prop := ∀ z ∈ l, ∀ s, z.1 = some s → PyData.strOk s = true
theorem ok_deed {z : Deed} (h : ∀ s, z.1 = some s → PyData.strOk s = true) (n : Nat) : okD (n + 2) (encD z) = true := by
  show (okD (n + 1) (nmD z.1) && (okD (n + 1) (tI z.2) && true)) = true
  rw [ok_tI n z.2]
  cases hz : z.1 with
  | none => rfl
  | some s =>
    show (PyData.strOk s && _) = true
    rw [h s hz]
    rfl
theorem ok_deeds {l : List Deed} (h : NmOk l) (n : Nat) : (l.map encD).all (okD (n + 2)) = true := by
  rw [List.all_map]
  exact List.all_eq_true.mpr fun z hz => ok_deed (h z hz) n
theorem ok_desk {lt ps : List Int} {cost : Int} {done undone : List Deed} (h1 : NmOk done) (h2 : NmOk undone) : okD 4 (deskD lt ps cost done undone) = true := by
  show (okD 3 (tI lt) && (okD 3 (tI ps) && (true && (okD 3 (.lis (done.map encD)) && (okD 3 (.lis (undone.map encD)) && true))))) = true
  rw [ok_tI 2, ok_tI 2, show okD 3 (.lis (done.map encD)) = true from ok_deeds h1 0, show okD 3 (.lis (undone.map encD)) = true from ok_deeds h2 0]
  rfl
theorem NmOk.app {a b : List Deed} (h : NmOk (a ++ b)) : NmOk a ∧ NmOk b := ⟨fun z hz => h z (List.mem_append_left _ hz), fun z hz => h z (List.mem_append_right _ hz)⟩
section
variable {C : Addr} {M M2 : List MO} {j j1 j2 : Nat} {lt ps : List Int} {cost : Int} {done undone : List Deed}
theorem desk_py (d : DeskS C M j j1 j2 lt ps cost done undone) : IsDat M (.ta [.dat (tI lt), .dat (tI ps), .dat (.int cost), .mut j1, .mut j2]) ∧ avPy M (.ta [.dat (tI lt), .dat (tI ps), .dat (.int cost), .mut j1, .mut j2]) = (deskD lt ps cost done undone).py := by
  refine ⟨⟨trivial, trivial, trivial, ⟨_, d.dn⟩, ⟨_, d.un⟩, trivial⟩, ?_⟩
  have e1 : avPy M (.mut j1) = .list (pys (done.map encD)) := by
    unfold avPy
    rw [d.dn]
  have e2 : avPy M (.mut j2) = .list (pys (undone.map encD)) := by
    unfold avPy
    rw [d.un]
  show PyData.tuple [(tI lt).py, (tI ps).py, .int cost, avPy M (.mut j1), avPy M (.mut j2)] = _
  rw [e1, e2]
  rfl
/-- what stood stands -/
structure Ex9 (M M2 : List MO) : Prop where
  keep : ∀ i, i < M.length → M2[i]? = M[i]?
  len : M.length ≤ M2.length
theorem Ex9.refl : Ex9 M M := ⟨fun _ _ => rfl, Nat.le_refl _⟩
theorem Ex9.trans {M3 : List MO} (a : Ex9 M M2) (b : Ex9 M2 M3) : Ex9 M M3 := ⟨fun i h => by rw [b.keep i (Nat.lt_of_lt_of_le h a.len), a.keep i h], Nat.le_trans a.len b.len⟩
theorem Ex9.at_ (e : Ex9 M M2) {i : Nat} {m : MO} (h : M[i]? = some m) : M2[i]? = some m := by rw [e.keep i (get_lt h)]; exact h
theorem Ex9.desk (e : Ex9 M M2) (d : DeskS C M j j1 j2 lt ps cost done undone) : DeskS C M2 j j1 j2 lt ps cost done undone := ⟨e.at_ d.ob, e.at_ d.dn, e.at_ d.un, d.ne⟩
end
/-! ### deeds that can be led -/
structure Val (m d : Int) (S : List Deed) : Prop where
  row : ∀ z ∈ S, Row m z.2 ∧ z.2 ≠ [] ∧ (z.2.length : Int) = d ∧ z.2.length ≤ 1000
  last : ∀ z ∈ S.dropLast, z.1.isSome = true
  nm : NmOk S
theorem Val.wide {m m' d : Int} {S : List Deed} (h : Val m d S) (hm : m ≤ m') : Val m' d S :=
  ⟨fun z hz => ⟨⟨(h.row z hz).1.1, fun x hx => by have := (h.row z hz).1.2 x hx; omega⟩, (h.row z hz).2⟩, h.last, h.nm⟩
theorem take_in_dropLast {α : Type} {S : List α} {i : Nat} (hi : i < S.length) {z : α} (hz : z ∈ S.take i) : z ∈ S.dropLast := by
  rw [List.dropLast_eq_take]
  have : S.take i = (S.take (S.length - 1)).take i := by rw [List.take_take, Nat.min_eq_left (by omega)]
  rw [this] at hz
  exact List.mem_of_mem_take hz
theorem Val.undrawn {m d : Int} {S : List Deed} (h : Val m d S) {i : Nat} (hi : i < S.length) : drawnL (S.take i) = none := drawn_none fun z hz => h.last z (take_in_dropLast hi hz)
/-- the last one of what is done goes over -/
theorem back_step {S : List Deed} {i : Nat} (hi : i < S.length) : ∃ z, S.take (S.length - i) = S.take (S.length - (i + 1)) ++ [z] ∧ (S.drop (S.length - (i + 1))).reverse = (S.drop (S.length - i)).reverse ++ [z] := by
  have hk : S.length - i = S.length - (i + 1) + 1 := by omega
  obtain ⟨z, hz⟩ : ∃ z, S[S.length - (i + 1)]? = some z := ⟨_, List.getElem?_eq_getElem (by omega)⟩
  refine ⟨z, ?_, ?_⟩
  · rw [hk, List.take_add_one, hz]
    rfl
  · rw [hk]
    have hlt : S.length - (i + 1) < S.length := by omega
    rw [List.drop_eq_getElem_cons hlt, List.reverse_cons]
    have : S[S.length - (i + 1)] = z := by rw [List.getElem?_eq_getElem hlt] at hz; exact Option.some.inj hz
    rw [this]
theorem led_end (done undone : List Deed) : (done ++ undone.reverse).take ((done ++ undone.reverse).length - undone.length) = done ∧ ((done ++ undone.reverse).drop ((done ++ undone.reverse).length - undone.length)).reverse = undone := by
  have : (done ++ undone.reverse).length - undone.length = done.length := by rw [List.length_append, List.length_reverse]; omega
  rw [this, List.take_left, List.drop_left, List.reverse_reverse]
  exact ⟨rfl, rfl⟩
theorem cut_init (ds : List D) : cutD ds none (some (-1)) = ds.dropLast := by
  unfold cutD
  rw [show HT.sIx ds.length 0 none = 0 from rfl, List.drop_zero, List.dropLast_eq_take]
  congr 1
  show HT.sIx ds.length ds.length (some (-1)) - 0 = _
  unfold HT.sIx
  simp
  omega
theorem cut_tail (ds : List D) : cutD ds (some (-1)) none = ds.drop (ds.length - 1) := by
  unfold cutD
  rw [show HT.sIx ds.length 0 (some (-1)) = ds.length - 1 by unfold HT.sIx; simp; omega, show HT.sIx ds.length ds.length none = ds.length by rfl]
  exact List.take_of_length_le (by rw [List.length_drop]; omega)
theorem atI_lastD {ds : List D} {d : D} (h : 0 < ds.length) (e : ds[ds.length - 1]? = some d) : atI ds (-1) = some d := by
  unfold atI
  have : ixN ds.length (-1) = some (ds.length - 1) := by
    unfold ixN
    simp
    omega
  rw [this]
  exact e
def word (z : Deed) : Str := if z.1.isNone then "draw" else "buy"
theorem snoc_of {α : Type} {l : List α} (h : l ≠ []) : ∃ a z, l = a ++ [z] := ⟨l.dropLast, l.getLast h, (List.dropLast_concat_getLast h).symm⟩
end My

namespace My
open PySem L2 Fx
/-! ### the text -/
def topS (i : Nat) : Stmt := PySem.Challenge.pw_suretickets_k37_whole_desks_back_and_aga.main.body.getD i (.Pass ⟨0, 0, 0, 0⟩)
abbrev s_is_whole : Stmt := topS 11
abbrev N_is_whole : List Str := ["thing", "least", "most"]
abbrev ps_is_whole : List Str := ["thing", "least", "most"]
abbrev lv_is_whole : Nat := 1
theorem sc_is_whole : FnScope N_is_whole ps_is_whole (defScope s_is_whole) := ⟨rfl, rfl, rfl, by decide +kernel, rfl, by decide +kernel, by decide +kernel⟩
instance nk_is_whole : NamesOk N_is_whole := ⟨by decide +kernel⟩
abbrev c_is_whole (P : Program) (w : World) (K : PySem.W.Frag) (mg : Str → Option Value) (base : Heap) (k : Nat) : SC := scOf P w K mg base N_is_whole s_is_whole k
abbrev s_is_ticket : Stmt := topS 12
abbrev N_is_ticket : List Str := ["lot", "thing", "number", "one", "other"]
abbrev ps_is_ticket : List Str := ["lot", "thing"]
abbrev lv_is_ticket : Nat := 2
theorem sc_is_ticket : FnScope N_is_ticket ps_is_ticket (defScope s_is_ticket) := ⟨rfl, rfl, rfl, by decide +kernel, rfl, by decide +kernel, by decide +kernel⟩
instance nk_is_ticket : NamesOk N_is_ticket := ⟨by decide +kernel⟩
abbrev c_is_ticket (P : Program) (w : World) (K : PySem.W.Frag) (mg : Str → Option Value) (base : Heap) (k : Nat) : SC := scOf P w K mg base N_is_ticket s_is_ticket k
abbrev s_right_of : Stmt := topS 14
abbrev N_right_of : List Str := ["ticket", "draw", "number"]
abbrev ps_right_of : List Str := ["ticket", "draw"]
abbrev lv_right_of : Nat := 1
theorem sc_right_of : FnScope N_right_of ps_right_of (defScope s_right_of) := ⟨rfl, rfl, rfl, by decide +kernel, rfl, by decide +kernel, by decide +kernel⟩
instance nk_right_of : NamesOk N_right_of := ⟨by decide +kernel⟩
abbrev c_right_of (P : Program) (w : World) (K : PySem.W.Frag) (mg : Str → Option Value) (base : Heap) (k : Nat) : SC := scOf P w K mg base N_right_of s_right_of k
abbrev s_prize_of : Stmt := topS 16
abbrev N_prize_of : List Str := ["right", "prizes"]
abbrev ps_prize_of : List Str := ["right", "prizes"]
abbrev lv_prize_of : Nat := 1
theorem sc_prize_of : FnScope N_prize_of ps_prize_of (defScope s_prize_of) := ⟨rfl, rfl, rfl, by decide +kernel, rfl, by decide +kernel, by decide +kernel⟩
instance nk_prize_of : NamesOk N_prize_of := ⟨by decide +kernel⟩
abbrev c_prize_of (P : Program) (w : World) (K : PySem.W.Frag) (mg : Str → Option Value) (base : Heap) (k : Nat) : SC := scOf P w K mg base N_prize_of s_prize_of k
abbrev s_paid : Stmt := topS 17
abbrev N_paid : List Str := ["book", "draw", "prizes", "ticket"]
abbrev ps_paid : List Str := ["book", "draw", "prizes"]
abbrev lv_paid : Nat := 2
theorem sc_paid : FnScope N_paid ps_paid (defScope s_paid) := ⟨rfl, rfl, rfl, by decide +kernel, rfl, by decide +kernel, by decide +kernel⟩
instance nk_paid : NamesOk N_paid := ⟨by decide +kernel⟩
abbrev c_paid (P : Program) (w : World) (K : PySem.W.Frag) (mg : Str → Option Value) (base : Heap) (k : Nat) : SC := scOf P w K mg base N_paid s_paid k
abbrev s_Desk___init__ : Stmt := (C8.clsBody (topS 19)).getD 0 (.Pass ⟨0, 0, 0, 0⟩)
abbrev N_Desk___init__ : List Str := ["self", "lot", "prizes", "price"]
abbrev ps_Desk___init__ : List Str := ["self", "lot", "prizes", "price"]
abbrev lv_Desk___init__ : Nat := 1
theorem sc_Desk___init__ : FnScope N_Desk___init__ ps_Desk___init__ (defScope s_Desk___init__) := ⟨rfl, rfl, rfl, by decide +kernel, rfl, by decide +kernel, by decide +kernel⟩
instance nk_Desk___init__ : NamesOk N_Desk___init__ := ⟨by decide +kernel⟩
abbrev c_Desk___init__ (P : Program) (w : World) (K : PySem.W.Frag) (mg : Str → Option Value) (base : Heap) (k : Nat) : SC := scOf P w K mg base N_Desk___init__ s_Desk___init__ k
abbrev s_Desk_back : Stmt := (C8.clsBody (topS 19)).getD 13 (.Pass ⟨0, 0, 0, 0⟩)
abbrev N_Desk_back : List Str := ["self", "deed"]
abbrev ps_Desk_back : List Str := ["self"]
abbrev lv_Desk_back : Nat := 1
theorem sc_Desk_back : FnScope N_Desk_back ps_Desk_back (defScope s_Desk_back) := ⟨rfl, rfl, rfl, by decide +kernel, rfl, by decide +kernel, by decide +kernel⟩
instance nk_Desk_back : NamesOk N_Desk_back := ⟨by decide +kernel⟩
abbrev c_Desk_back (P : Program) (w : World) (K : PySem.W.Frag) (mg : Str → Option Value) (base : Heap) (k : Nat) : SC := scOf P w K mg base N_Desk_back s_Desk_back k
abbrev s_Desk_keep : Stmt := (C8.clsBody (topS 19)).getD 6 (.Pass ⟨0, 0, 0, 0⟩)
abbrev N_Desk_keep : List Str := ["self", "name", "numbers"]
abbrev ps_Desk_keep : List Str := ["self", "name", "numbers"]
abbrev lv_Desk_keep : Nat := 1
theorem sc_Desk_keep : FnScope N_Desk_keep ps_Desk_keep (defScope s_Desk_keep) := ⟨rfl, rfl, rfl, by decide +kernel, rfl, by decide +kernel, by decide +kernel⟩
instance nk_Desk_keep : NamesOk N_Desk_keep := ⟨by decide +kernel⟩
abbrev c_Desk_keep (P : Program) (w : World) (K : PySem.W.Frag) (mg : Str → Option Value) (base : Heap) (k : Nat) : SC := scOf P w K mg base N_Desk_keep s_Desk_keep k
abbrev s_Desk_drawn : Stmt := (C8.clsBody (topS 19)).getD 5 (.Pass ⟨0, 0, 0, 0⟩)
abbrev N_Desk_drawn : List Str := ["self", "some", "name", "numbers"]
abbrev ps_Desk_drawn : List Str := ["self"]
abbrev lv_Desk_drawn : Nat := 1
theorem sc_Desk_drawn : FnScope N_Desk_drawn ps_Desk_drawn (defScope s_Desk_drawn) := ⟨rfl, rfl, rfl, by decide +kernel, rfl, by decide +kernel, by decide +kernel⟩
instance nk_Desk_drawn : NamesOk N_Desk_drawn := ⟨by decide +kernel⟩
abbrev c_Desk_drawn (P : Program) (w : World) (K : PySem.W.Frag) (mg : Str → Option Value) (base : Heap) (k : Nat) : SC := scOf P w K mg base N_Desk_drawn s_Desk_drawn k
abbrev s_Desk_sold : Stmt := (C8.clsBody (topS 19)).getD 4 (.Pass ⟨0, 0, 0, 0⟩)
abbrev N_Desk_sold : List Str := ["self", "deed"]
abbrev ps_Desk_sold : List Str := ["self"]
abbrev lv_Desk_sold : Nat := 1
theorem sc_Desk_sold : FnScope N_Desk_sold ps_Desk_sold (defScope s_Desk_sold) := ⟨rfl, rfl, rfl, by decide +kernel, rfl, by decide +kernel, by decide +kernel⟩
instance nk_Desk_sold : NamesOk N_Desk_sold := ⟨by decide +kernel⟩
abbrev c_Desk_sold (P : Program) (w : World) (K : PySem.W.Frag) (mg : Str → Option Value) (base : Heap) (k : Nat) : SC := scOf P w K mg base N_Desk_sold s_Desk_sold k
abbrev s_Desk_draw : Stmt := (C8.clsBody (topS 19)).getD 8 (.Pass ⟨0, 0, 0, 0⟩)
abbrev N_Desk_draw : List Str := ["self", "numbers", "name", "ticket"]
abbrev ps_Desk_draw : List Str := ["self", "numbers"]
abbrev lv_Desk_draw : Nat := 3
theorem sc_Desk_draw : FnScope N_Desk_draw ps_Desk_draw (defScope s_Desk_draw) := ⟨rfl, rfl, rfl, by decide +kernel, rfl, by decide +kernel, by decide +kernel⟩
instance nk_Desk_draw : NamesOk N_Desk_draw := ⟨by decide +kernel⟩
abbrev c_Desk_draw (P : Program) (w : World) (K : PySem.W.Frag) (mg : Str → Option Value) (base : Heap) (k : Nat) : SC := scOf P w K mg base N_Desk_draw s_Desk_draw k
abbrev s_Desk_buy : Stmt := (C8.clsBody (topS 19)).getD 7 (.Pass ⟨0, 0, 0, 0⟩)
abbrev N_Desk_buy : List Str := ["self", "name", "ticket"]
abbrev ps_Desk_buy : List Str := ["self", "name", "ticket"]
abbrev lv_Desk_buy : Nat := 3
theorem sc_Desk_buy : FnScope N_Desk_buy ps_Desk_buy (defScope s_Desk_buy) := ⟨rfl, rfl, rfl, by decide +kernel, rfl, by decide +kernel, by decide +kernel⟩
instance nk_Desk_buy : NamesOk N_Desk_buy := ⟨by decide +kernel⟩
abbrev c_Desk_buy (P : Program) (w : World) (K : PySem.W.Frag) (mg : Str → Option Value) (base : Heap) (k : Nat) : SC := scOf P w K mg base N_Desk_buy s_Desk_buy k
abbrev s_Desk_till : Stmt := (C8.clsBody (topS 19)).getD 12 (.Pass ⟨0, 0, 0, 0⟩)
abbrev N_Desk_till : List Str := ["self", "book", "name", "ticket"]
abbrev ps_Desk_till : List Str := ["self"]
abbrev lv_Desk_till : Nat := 3
theorem sc_Desk_till : FnScope N_Desk_till ps_Desk_till (defScope s_Desk_till) := ⟨rfl, rfl, rfl, by decide +kernel, rfl, by decide +kernel, by decide +kernel⟩
instance nk_Desk_till : NamesOk N_Desk_till := ⟨by decide +kernel⟩
abbrev c_Desk_till (P : Program) (w : World) (K : PySem.W.Frag) (mg : Str → Option Value) (base : Heap) (k : Nat) : SC := scOf P w K mg base N_Desk_till s_Desk_till k
abbrev s_Desk_names : Stmt := (C8.clsBody (topS 19)).getD 11 (.Pass ⟨0, 0, 0, 0⟩)
abbrev N_Desk_names : List Str := ["self", "found", "name", "ticket"]
abbrev ps_Desk_names : List Str := ["self"]
abbrev lv_Desk_names : Nat := 2
theorem sc_Desk_names : FnScope N_Desk_names ps_Desk_names (defScope s_Desk_names) := ⟨rfl, rfl, rfl, by decide +kernel, rfl, by decide +kernel, by decide +kernel⟩
instance nk_Desk_names : NamesOk N_Desk_names := ⟨by decide +kernel⟩
abbrev c_Desk_names (P : Program) (w : World) (K : PySem.W.Frag) (mg : Str → Option Value) (base : Heap) (k : Nat) : SC := scOf P w K mg base N_Desk_names s_Desk_names k
abbrev s_Desk_again : Stmt := (C8.clsBody (topS 19)).getD 14 (.Pass ⟨0, 0, 0, 0⟩)
abbrev N_Desk_again : List Str := ["self", "deed"]
abbrev ps_Desk_again : List Str := ["self"]
abbrev lv_Desk_again : Nat := 1
theorem sc_Desk_again : FnScope N_Desk_again ps_Desk_again (defScope s_Desk_again) := ⟨rfl, rfl, rfl, by decide +kernel, rfl, by decide +kernel, by decide +kernel⟩
instance nk_Desk_again : NamesOk N_Desk_again := ⟨by decide +kernel⟩
abbrev c_Desk_again (P : Program) (w : World) (K : PySem.W.Frag) (mg : Str → Option Value) (base : Heap) (k : Nat) : SC := scOf P w K mg base N_Desk_again s_Desk_again k
abbrev s_Desk___len__ : Stmt := (C8.clsBody (topS 19)).getD 1 (.Pass ⟨0, 0, 0, 0⟩)
abbrev N_Desk___len__ : List Str := ["self", "name", "ticket"]
abbrev ps_Desk___len__ : List Str := ["self"]
abbrev lv_Desk___len__ : Nat := 1
theorem sc_Desk___len__ : FnScope N_Desk___len__ ps_Desk___len__ (defScope s_Desk___len__) := ⟨rfl, rfl, rfl, by decide +kernel, rfl, by decide +kernel, by decide +kernel⟩
instance nk_Desk___len__ : NamesOk N_Desk___len__ := ⟨by decide +kernel⟩
abbrev c_Desk___len__ (P : Program) (w : World) (K : PySem.W.Frag) (mg : Str → Option Value) (base : Heap) (k : Nat) : SC := scOf P w K mg base N_Desk___len__ s_Desk___len__ k
abbrev s_Desk___eq__ : Stmt := (C8.clsBody (topS 19)).getD 2 (.Pass ⟨0, 0, 0, 0⟩)
abbrev N_Desk___eq__ : List Str := ["self", "other", "mine"]
abbrev ps_Desk___eq__ : List Str := ["self", "other"]
abbrev lv_Desk___eq__ : Nat := 1
theorem sc_Desk___eq__ : FnScope N_Desk___eq__ ps_Desk___eq__ (defScope s_Desk___eq__) := ⟨rfl, rfl, rfl, by decide +kernel, rfl, by decide +kernel, by decide +kernel⟩
instance nk_Desk___eq__ : NamesOk N_Desk___eq__ := ⟨by decide +kernel⟩
abbrev c_Desk___eq__ (P : Program) (w : World) (K : PySem.W.Frag) (mg : Str → Option Value) (base : Heap) (k : Nat) : SC := scOf P w K mg base N_Desk___eq__ s_Desk___eq__ k
abbrev s_law_draw : Stmt := topS 21
abbrev N_law_draw : List Str := ["script", "town", "many", "at", "rest", "number"]
abbrev ps_law_draw : List Str := ["script", "town", "many"]
abbrev lv_law_draw : Nat := 1
theorem sc_law_draw : FnScope N_law_draw ps_law_draw (defScope s_law_draw) := ⟨rfl, rfl, rfl, by decide +kernel, rfl, by decide +kernel, by decide +kernel⟩
instance nk_law_draw : NamesOk N_law_draw := ⟨by decide +kernel⟩
abbrev c_law_draw (P : Program) (w : World) (K : PySem.W.Frag) (mg : Str → Option Value) (base : Heap) (k : Nat) : SC := scOf P w K mg base N_law_draw s_law_draw k
abbrev s_law_begun : Stmt := topS 22
abbrev N_law_begun : List Str := []
abbrev ps_law_begun : List Str := []
abbrev lv_law_begun : Nat := 1
theorem sc_law_begun : FnScope N_law_begun ps_law_begun (defScope s_law_begun) := ⟨rfl, rfl, rfl, by decide +kernel, rfl, by decide +kernel, by decide +kernel⟩
instance nk_law_begun : NamesOk N_law_begun := ⟨by decide +kernel⟩
abbrev c_law_begun (P : Program) (w : World) (K : PySem.W.Frag) (mg : Str → Option Value) (base : Heap) (k : Nat) : SC := scOf P w K mg base N_law_begun s_law_begun k
abbrev s_law_a_lot : Stmt := topS 23
abbrev N_law_a_lot : List Str := ["script", "town", "greatest", "many"]
abbrev ps_law_a_lot : List Str := ["script", "town", "greatest"]
abbrev lv_law_a_lot : Nat := 2
theorem sc_law_a_lot : FnScope N_law_a_lot ps_law_a_lot (defScope s_law_a_lot) := ⟨rfl, rfl, rfl, by decide +kernel, rfl, by decide +kernel, by decide +kernel⟩
instance nk_law_a_lot : NamesOk N_law_a_lot := ⟨by decide +kernel⟩
abbrev c_law_a_lot (P : Program) (w : World) (K : PySem.W.Frag) (mg : Str → Option Value) (base : Heap) (k : Nat) : SC := scOf P w K mg base N_law_a_lot s_law_a_lot k
abbrev s_law_a_row : Stmt := topS 24
abbrev N_law_a_row : List Str := ["script", "town", "many", "size", "left", "found", "turn"]
abbrev ps_law_a_row : List Str := ["script", "town", "many", "size"]
abbrev lv_law_a_row : Nat := 2
theorem sc_law_a_row : FnScope N_law_a_row ps_law_a_row (defScope s_law_a_row) := ⟨rfl, rfl, rfl, by decide +kernel, rfl, by decide +kernel, by decide +kernel⟩
instance nk_law_a_row : NamesOk N_law_a_row := ⟨by decide +kernel⟩
abbrev c_law_a_row (P : Program) (w : World) (K : PySem.W.Frag) (mg : Str → Option Value) (base : Heap) (k : Nat) : SC := scOf P w K mg base N_law_a_row s_law_a_row k
abbrev s_law_class : Stmt := topS 25
abbrev N_law_class : List Str := ["kept", "kinds"]
abbrev ps_law_class : List Str := ["kept"]
abbrev lv_law_class : Nat := 1
theorem sc_law_class : FnScope N_law_class ps_law_class (defScope s_law_class) := ⟨rfl, rfl, rfl, by decide +kernel, rfl, by decide +kernel, by decide +kernel⟩
instance nk_law_class : NamesOk N_law_class := ⟨by decide +kernel⟩
abbrev c_law_class (P : Program) (w : World) (K : PySem.W.Frag) (mg : Str → Option Value) (base : Heap) (k : Nat) : SC := scOf P w K mg base N_law_class s_law_class k
abbrev s_law_heard : Stmt := topS 26
abbrev N_law_heard : List Str := ["deed", "kept", "found", "e", "kind"]
abbrev ps_law_heard : List Str := ["deed"]
abbrev lv_law_heard : Nat := 2
theorem sc_law_heard : FnScope N_law_heard ps_law_heard (defScope s_law_heard) := ⟨rfl, rfl, rfl, by decide +kernel, rfl, by decide +kernel, by decide +kernel⟩
instance nk_law_heard : NamesOk N_law_heard := ⟨by decide +kernel⟩
abbrev c_law_heard (P : Program) (w : World) (K : PySem.W.Frag) (mg : Str → Option Value) (base : Heap) (k : Nat) : SC := scOf P w K mg base N_law_heard s_law_heard k
abbrev s_law_led : Stmt := topS 27
abbrev N_law_led : List Str := ["pair", "pays", "done", "undone", "cost", "desk", "who", "row", "k"]
abbrev ps_law_led : List Str := ["pair", "pays", "done", "undone", "cost"]
abbrev lv_law_led : Nat := 4
theorem sc_law_led : FnScope N_law_led ps_law_led (defScope s_law_led) := ⟨rfl, rfl, rfl, by decide +kernel, rfl, by decide +kernel, by decide +kernel⟩
instance nk_law_led : NamesOk N_law_led := ⟨by decide +kernel⟩
abbrev c_law_led (P : Program) (w : World) (K : PySem.W.Frag) (mg : Str → Option Value) (base : Heap) (k : Nat) : SC := scOf P w K mg base N_law_led s_law_led k
abbrev s_law_word : Stmt := topS 28
abbrev N_law_word : List Str := ["deed"]
abbrev ps_law_word : List Str := ["deed"]
abbrev lv_law_word : Nat := 1
theorem sc_law_word : FnScope N_law_word ps_law_word (defScope s_law_word) := ⟨rfl, rfl, rfl, by decide +kernel, rfl, by decide +kernel, by decide +kernel⟩
instance nk_law_word : NamesOk N_law_word := ⟨by decide +kernel⟩
abbrev c_law_word (P : Program) (w : World) (K : PySem.W.Frag) (mg : Str → Option Value) (base : Heap) (k : Nat) : SC := scOf P w K mg base N_law_word s_law_word k
abbrev s_law_unlike : Stmt := topS 29
abbrev N_law_unlike : List Str := ["desk", "pair", "pays", "done", "undone", "some", "other"]
abbrev ps_law_unlike : List Str := ["desk", "pair", "pays", "done", "undone"]
abbrev lv_law_unlike : Nat := 5
theorem sc_law_unlike : FnScope N_law_unlike ps_law_unlike (defScope s_law_unlike) := ⟨rfl, rfl, rfl, by decide +kernel, rfl, by decide +kernel, by decide +kernel⟩
instance nk_law_unlike : NamesOk N_law_unlike := ⟨by decide +kernel⟩
abbrev c_law_unlike (P : Program) (w : World) (K : PySem.W.Frag) (mg : Str → Option Value) (base : Heap) (k : Nat) : SC := scOf P w K mg base N_law_unlike s_law_unlike k
abbrev s_law : Stmt := topS 30
abbrev N_law : List Str := ["script", "town", "pair", "pays", "j", "done", "undone", "desk", "k", "way", "closed", "deed", "row", "who", "due", "other"]
abbrev ps_law : List Str := ["script"]
abbrev lv_law : Nat := 6
theorem sc_law : FnScope N_law ps_law (defScope s_law) := ⟨rfl, rfl, rfl, by decide +kernel, rfl, by decide +kernel, by decide +kernel⟩
instance nk_law : NamesOk N_law := ⟨by decide +kernel⟩
abbrev c_law (P : Program) (w : World) (K : PySem.W.Frag) (mg : Str → Option Value) (base : Heap) (k : Nat) : SC := scOf P w K mg base N_law s_law k
abbrev cL_law (P : Program) (w : World) (K : PySem.W.Frag) (mg : Str → Option Value) (base : Heap) (cd : Addr) (k : Nat) : SC := scOfL P w K mg base N_law s_law cd ("law" ++ ".<locals>.") k
abbrev q_law : Str := "law" ++ ".<locals>." ++ "<lambda>"
structure Txt (K : PySem.W.Frag) (mg : Str → Option Value) : Prop where
  b_isinstance : mg "isinstance" = none
  b_int : mg "int" = none
  b_bool : mg "bool" = none
  b_all : mg "all" = none
  b_tuple : mg "tuple" = none
  b_zip : mg "zip" = none
  b_len : mg "len" = none
  b_min : mg "min" = none
  b_sum : mg "sum" = none
  b_range : mg "range" = none
  b_list : mg "list" = none
  b_sorted : mg "sorted" = none
  b_ValueError : mg "ValueError" = none
  f_is_whole : ∃ fa fd, mg "is_whole" = some (.ref fa) ∧ Fun K "is_whole" "is_whole" s_is_whole fa fd ∧ Binds K fd ps_is_whole []
  f_is_ticket : ∃ fa fd, mg "is_ticket" = some (.ref fa) ∧ Fun K "is_ticket" "is_ticket" s_is_ticket fa fd ∧ Binds K fd ps_is_ticket []
  f_right_of : ∃ fa fd, mg "right_of" = some (.ref fa) ∧ Fun K "right_of" "right_of" s_right_of fa fd ∧ Binds K fd ps_right_of []
  f_prize_of : ∃ fa fd, mg "prize_of" = some (.ref fa) ∧ Fun K "prize_of" "prize_of" s_prize_of fa fd ∧ Binds K fd ps_prize_of []
  f_paid : ∃ fa fd, mg "paid" = some (.ref fa) ∧ Fun K "paid" "paid" s_paid fa fd ∧ Binds K fd ps_paid []
  f_law_draw : ∃ fa fd, mg "_law_draw" = some (.ref fa) ∧ Fun K "_law_draw" "_law_draw" s_law_draw fa fd ∧ Binds K fd ps_law_draw []
  f_law_begun : ∃ fa fd, mg "_law_begun" = some (.ref fa) ∧ Fun K "_law_begun" "_law_begun" s_law_begun fa fd ∧ Binds K fd ps_law_begun []
  f_law_a_lot : ∃ fa fd, mg "_law_a_lot" = some (.ref fa) ∧ Fun K "_law_a_lot" "_law_a_lot" s_law_a_lot fa fd ∧ Binds K fd ps_law_a_lot []
  f_law_a_row : ∃ fa fd, mg "_law_a_row" = some (.ref fa) ∧ Fun K "_law_a_row" "_law_a_row" s_law_a_row fa fd ∧ Binds K fd ps_law_a_row []
  f_law_class : ∃ fa fd, mg "_law_class" = some (.ref fa) ∧ Fun K "_law_class" "_law_class" s_law_class fa fd ∧ Binds K fd ps_law_class []
  f_law_heard : ∃ fa fd, mg "_law_heard" = some (.ref fa) ∧ Fun K "_law_heard" "_law_heard" s_law_heard fa fd ∧ Binds K fd ps_law_heard []
  f_law_led : ∃ fa fd, mg "_law_led" = some (.ref fa) ∧ Fun K "_law_led" "_law_led" s_law_led fa fd ∧ Binds K fd ps_law_led []
  f_law_word : ∃ fa fd, mg "_law_word" = some (.ref fa) ∧ Fun K "_law_word" "_law_word" s_law_word fa fd ∧ Binds K fd ps_law_word []
  f_law_unlike : ∃ fa fd, mg "_law_unlike" = some (.ref fa) ∧ Fun K "_law_unlike" "_law_unlike" s_law_unlike fa fd ∧ Binds K fd ps_law_unlike []
  f_law : ∃ fa fd, mg "law" = some (.ref fa) ∧ Fun K "law" "law" s_law fa fd ∧ Binds K fd ps_law []
class DeskT (K : PySem.W.Frag) (mg : Str → Option Value) (C : outParam Addr) : Prop where
  gC : mg "Desk" = some (.ref C)
  cl : Cls K C
  n_lot : NoAttr K C "lot"
  n_prizes : NoAttr K C "prizes"
  n_price : NoAttr K C "price"
  n_done : NoAttr K C "done"
  n_undone : NoAttr K C "undone"
  ce : ClsE K C
  m_Desk___init__ : ∃ f fd, Mk K C f ∧ FunD K "__init__" "Desk.__init__" (defArgs s_Desk___init__) (defBody s_Desk___init__) (defScope s_Desk___init__) [V.int 1] [] f fd
  m_Desk_back : ∃ fa fd, Meth K C "back" fa ∧ Fun K "back" "Desk.back" s_Desk_back fa fd ∧ Binds K fd ps_Desk_back []
  m_Desk_keep : ∃ fa fd, Meth K C "keep" fa ∧ Fun K "keep" "Desk.keep" s_Desk_keep fa fd ∧ Binds K fd ps_Desk_keep []
  m_Desk_drawn : ∃ fa fd, Meth K C "drawn" fa ∧ Fun K "drawn" "Desk.drawn" s_Desk_drawn fa fd ∧ Binds K fd ps_Desk_drawn []
  m_Desk_sold : ∃ fa fd, Meth K C "sold" fa ∧ Fun K "sold" "Desk.sold" s_Desk_sold fa fd ∧ Binds K fd ps_Desk_sold []
  m_Desk_draw : ∃ fa fd, Meth K C "draw" fa ∧ Fun K "draw" "Desk.draw" s_Desk_draw fa fd ∧ Binds K fd ps_Desk_draw []
  m_Desk_buy : ∃ fa fd, Meth K C "buy" fa ∧ Fun K "buy" "Desk.buy" s_Desk_buy fa fd ∧ Binds K fd ps_Desk_buy []
  m_Desk_till : ∃ fa fd, Meth K C "till" fa ∧ Fun K "till" "Desk.till" s_Desk_till fa fd ∧ Binds K fd ps_Desk_till []
  m_Desk_names : ∃ fa fd, Meth K C "names" fa ∧ Fun K "names" "Desk.names" s_Desk_names fa fd ∧ Binds K fd ps_Desk_names []
  m_Desk_again : ∃ fa fd, Meth K C "again" fa ∧ Fun K "again" "Desk.again" s_Desk_again fa fd ∧ Binds K fd ps_Desk_again []
  m_Desk___len__ : ∃ fa fd, Meth K C "__len__" fa ∧ Fun K "__len__" "Desk.__len__" s_Desk___len__ fa fd ∧ Binds K fd ps_Desk___len__ []
  m_Desk___eq__ : ∃ fa fd, Meth K C "__eq__" fa ∧ Fun K "__eq__" "Desk.__eq__" s_Desk___eq__ fa fd ∧ Binds K fd ps_Desk___eq__ []
end My

namespace My
open PySem L2 Fx
section
variable {P : Program} {w : World} {K : PySem.W.Frag} {mg : Str → Option Value} {base : Heap}
def A_is_whole : ASp := fun as M Post => ∃ (d : D) (lo hi : Int), as = [.dat d, .dat (.int lo), .dat (.int hi)] ∧ Post (.dat (.bl (wholeD lo hi d))) M
theorem d_is_whole (T : Txt K mg) : DefOk P w K mg base lv_is_whole "is_whole" s_is_whole ps_is_whole (spOf K ps_is_whole.length A_is_whole) := by
  obtain ⟨fa, fd, hm, F, hb⟩ := T.f_is_whole
  refine ⟨fa, fd, hm, F, hb, fn_mk F sc_is_whole fun as M Post hl hA => ?_⟩
  obtain ⟨d, lo, hi, rfl, q⟩ := hA
  show Run (c_is_whole P w K mg base _) [some (.dat d), some (.dat (.int lo)), some (.dat (.int hi))] M _ _
  refine r_one (s_ret (x_and (x_isi rfl T.b_isinstance rfl T.b_int PyProof.Rows.boot_int ?_ (fun _ => rfl))))
  refine x_v rfl (by first | exact Or.inl rfl | exact Or.inr (Or.inl rfl) | exact Or.inr (Or.inr rfl)) ?_
  refine ⟨fun j e => (by cases e), fun _ e => (by cases e), _, kit_int d, _, rfl, fun h => ?_, fun h => ?_⟩
  · refine x_and (x_not (x_isi rfl T.b_isinstance rfl T.b_bool PyProof.Rows.boot_bool ?_ (fun _ => rfl)))
    refine x_v rfl (by first | exact Or.inl rfl | exact Or.inr (Or.inl rfl) | exact Or.inr (Or.inr rfl)) ?_
    cases d with
    | int i =>
      refine ⟨fun j e => (by cases e), fun _ e => (by cases e), false, (by kernel_rfl), false, rfl, true, rfl, fun _ => ?_, fun h => by cases h⟩
      refine x_one (x_chain ?_ (by with_unfolding_all rfl))
      repeat (first | refine x_int ?_ | (refine x_v rfl (by first | exact Or.inl rfl | exact Or.inr (Or.inl rfl) | exact Or.inr (Or.inr rfl)) ?_) | (first | refine b_add ?_ | refine b_sub ?_ | refine b_mul (by first | omega | (constructor <;> omega) | exact Or.inl ⟨by omega, by omega⟩ | exact Or.inr ⟨by omega, by omega⟩) ?_ | refine b_div (by first | omega | (constructor <;> omega) | exact Or.inl ⟨by omega, by omega⟩ | exact Or.inr ⟨by omega, by omega⟩) ?_ | refine b_mod (by first | omega | (constructor <;> omega) | exact Or.inl ⟨by omega, by omega⟩ | exact Or.inr ⟨by omega, by omega⟩) ?_ | refine b_strs (by first | omega | (constructor <;> omega) | exact Or.inl ⟨by omega, by omega⟩ | exact Or.inr ⟨by omega, by omega⟩) ?_ | refine b_catT (by first | exact Nat.le_of_ble_eq_true rfl | decide | (simp; done) | (simp <;> omega)) ?_ | refine c_lt ?_ | refine c_le ?_ | refine c_gt ?_ | refine c_ge ?_ | refine c_eqI ?_ | refine c_neI ?_ | refine c_is ?_ | refine c_isnot ?_ | refine c_eqB ?_ | refine c_neB ?_ | refine c_eqS ?_ | refine c_neS ?_ | refine b_iadd ?_ | refine b_isub ?_ | refine b_imul (by first | omega | (constructor <;> omega) | exact Or.inl ⟨by omega, by omega⟩ | exact Or.inr ⟨by omega, by omega⟩) ?_) | refine x_non ?_ | refine x_str ?_ | refine x_bl ?_ | refine x_bin ?_ | refine x_cmp ?_ (by rfl) | refine t_cmp ?_ (by rfl) | refine t_chain ?_ (by with_unfolding_all rfl) | refine x_chain ?_ (by with_unfolding_all rfl) | refine t_not ?_ | refine x_neg ?_ | refine x_if ?_ | refine a_cons ?_ (fun _ => rfl) | refine a_nil ?_ | refine x_tup ?_ | refine x_ix ?_ (fun _ _ => rfl) | refine ix_tup rfl ?_ | refine dats_ex (by first | exact Nat.le_of_ble_eq_true rfl | decide | (simp; done) | (simp <;> omega)) ?_ | refine r_cons ?_ | refine r_nil ?_ | refine s_ret ?_ | refine s_if ?_ | (refine s_st (by first | exact Or.inl rfl | exact Or.inr rfl) (by first | exact Or.inl rfl | exact Or.inr rfl) ?_ (fun _ => rfl)) | (refine s_ag (by first | exact Or.inl rfl | exact Or.inr rfl) (by first | exact Or.inl rfl | exact Or.inr rfl) rfl ?_) | refine s_expr ?_ (fun _ => rfl))
      refine ⟨fun h => ?_, fun h => ?_⟩
      · repeat (first | refine x_int ?_ | (refine x_v rfl (by first | exact Or.inl rfl | exact Or.inr (Or.inl rfl) | exact Or.inr (Or.inr rfl)) ?_) | (first | refine b_add ?_ | refine b_sub ?_ | refine b_mul (by first | omega | (constructor <;> omega) | exact Or.inl ⟨by omega, by omega⟩ | exact Or.inr ⟨by omega, by omega⟩) ?_ | refine b_div (by first | omega | (constructor <;> omega) | exact Or.inl ⟨by omega, by omega⟩ | exact Or.inr ⟨by omega, by omega⟩) ?_ | refine b_mod (by first | omega | (constructor <;> omega) | exact Or.inl ⟨by omega, by omega⟩ | exact Or.inr ⟨by omega, by omega⟩) ?_ | refine b_strs (by first | omega | (constructor <;> omega) | exact Or.inl ⟨by omega, by omega⟩ | exact Or.inr ⟨by omega, by omega⟩) ?_ | refine b_catT (by first | exact Nat.le_of_ble_eq_true rfl | decide | (simp; done) | (simp <;> omega)) ?_ | refine c_lt ?_ | refine c_le ?_ | refine c_gt ?_ | refine c_ge ?_ | refine c_eqI ?_ | refine c_neI ?_ | refine c_is ?_ | refine c_isnot ?_ | refine c_eqB ?_ | refine c_neB ?_ | refine c_eqS ?_ | refine c_neS ?_ | refine b_iadd ?_ | refine b_isub ?_ | refine b_imul (by first | omega | (constructor <;> omega) | exact Or.inl ⟨by omega, by omega⟩ | exact Or.inr ⟨by omega, by omega⟩) ?_) | refine x_non ?_ | refine x_str ?_ | refine x_bl ?_ | refine x_bin ?_ | refine x_cmp ?_ (by rfl) | refine t_cmp ?_ (by rfl) | refine t_chain ?_ (by with_unfolding_all rfl) | refine x_chain ?_ (by with_unfolding_all rfl) | refine t_not ?_ | refine x_neg ?_ | refine x_if ?_ | refine a_cons ?_ (fun _ => rfl) | refine a_nil ?_ | refine x_tup ?_ | refine x_ix ?_ (fun _ _ => rfl) | refine ix_tup rfl ?_ | refine dats_ex (by first | exact Nat.le_of_ble_eq_true rfl | decide | (simp; done) | (simp <;> omega)) ?_ | refine r_cons ?_ | refine r_nil ?_ | refine s_ret ?_ | refine s_if ?_ | (refine s_st (by first | exact Or.inl rfl | exact Or.inr rfl) (by first | exact Or.inl rfl | exact Or.inr rfl) ?_ (fun _ => rfl)) | (refine s_ag (by first | exact Or.inl rfl | exact Or.inr rfl) (by first | exact Or.inl rfl | exact Or.inr rfl) rfl ?_) | refine s_expr ?_ (fun _ => rfl))
        have e : wholeD lo hi (.int i) = decide (i ≤ hi) := by
          show (decide (lo ≤ i) && decide (i ≤ hi)) = _
          rw [h, Bool.true_and]
        rw [e] at q
        exact fin_same q
      · have e : wholeD lo hi (.int i) = false := by
          show (decide (lo ≤ i) && decide (i ≤ hi)) = _
          rw [h, Bool.false_and]
        rw [e] at q
        exact fin_same q
    | bl b =>
      refine ⟨fun j e => (by cases e), fun _ e => (by cases e), true, (by kernel_rfl), true, rfl, false, rfl, fun h => (by cases h), fun _ => fin_same q⟩
    | non => cases h
    | str x => cases h
    | tup ds => cases h
    | lis ds => cases h
  · cases d with
    | int i => cases h
    | bl b => cases h
    | non => exact fin_same q
    | str x => exact fin_same q
    | tup ds => exact fin_same q
    | lis ds => exact fin_same q
end
end My

namespace My
open PySem L2 Fx
section
variable {P : Program} {w : World} {K : PySem.W.Frag} {mg : Str → Option Value} {base : Heap}
def A_is_ticket : ASp := fun as M Post => ∃ (m : Int) (l : List D) (a : AV), as = [.dat (.tup (.int m :: l)), a] ∧ ((∃ d, a = .dat d ∧ okD 5 d = true ∧ (∀ ds, d = .tup ds → ds.length ≤ 1000) ∧ Post (.dat (.bl (ticketD m d))) M) ∨ ∃ ds, a = .ls ds ∧ Post (.dat (.bl false)) M)
theorem d_is_ticket (T : Txt K mg) : DefOk P w K mg base lv_is_ticket "is_ticket" s_is_ticket ps_is_ticket (spOf K ps_is_ticket.length A_is_ticket) := by
  obtain ⟨fa, fd, hm, F, hb⟩ := T.f_is_ticket
  refine ⟨fa, fd, hm, F, hb, fn_mk F sc_is_ticket fun as M Post hl hA => ?_⟩
  obtain ⟨m, l, a, rfl, hA⟩ := hA
  rcases hA with ⟨d, rfl, hd, hdl, q⟩ | ⟨ds, rfl, q⟩
  · show Run (c_is_ticket P w K mg base _) [some (.dat (.tup (.int m :: l))), some (.dat d), none, none, none] M _ _
    refine r_cons (s_if (t_W (w_or (t_not (t_val (x_isi rfl T.b_isinstance rfl T.b_tuple PyProof.Rows.boot_tuple ?_ (fun _ => rfl)) (fun _ _ => rfl))))))
    refine x_v rfl (by first | exact Or.inl rfl | exact Or.inr (Or.inl rfl) | exact Or.inr (Or.inr rfl)) ?_
    refine ⟨fun j e => (by cases e), fun _ e => (by cases e), _, kit_tuple d, _, rfl, ?_, ?_⟩
    · intro h
      refine ⟨fun _ => ?_, fun h => by cases h⟩
      refine r_one (s_ret (x_bl ?_))
      cases d with
      | tup ds => cases h
      | non => exact fin_same q
      | bl b => exact fin_same q
      | int i => exact fin_same q
      | str x => exact fin_same q
      | lis x => exact fin_same q
    · intro h
      cases d with
      | non => cases h
      | bl b => cases h
      | int i => cases h
      | str x => cases h
      | lis x => cases h
      | tup ds =>
      have hdl2 : ds.length ≤ 1000 := hdl ds rfl
      refine w_or (t_cmp ?_ (by rfl))
      refine x_v rfl (by first | exact Or.inl rfl | exact Or.inr (Or.inl rfl) | exact Or.inr (Or.inr rfl)) ?_
      refine x_tup (a_nil (dats_ex (by decide) ?_))
      refine c_eqNilT 4 hd ?_
      refine ⟨fun h => ?_, fun h => ?_⟩
      · refine ⟨fun _ => ?_, fun h => by cases h⟩
        refine r_one (s_ret (x_bl ?_))
        have e : ticketD m (.tup ds) = false := by
          show (!ds.isEmpty && _ && _) = false
          rw [h]; rfl
        rw [e] at q
        exact fin_same q
      · refine w_or1 (t_not (t_val ?_ (fun _ _ => rfl)))
        refine x_blt rfl T.b_all PyProof.Rows.boot_all ?_ (fun _ => rfl) (fun _ => rfl)
        refine a_cons ?_ (fun _ => rfl)
        refine x_F (f_lcP [("number", 2)] (fun d : D => .bl (wholeD 1 m d)) (fun _ => true) (blkOk_by (by kernel_rfl)) nk_is_ticket.nd (i_seq ?_) (fun _ _ => rfl))
        refine x_v rfl (by first | exact Or.inl rfl | exact Or.inr (Or.inl rfl) | exact Or.inr (Or.inr rfl)) ?_
        refine ⟨_, isS_tup, ds, id, (List.map_id ds).symm, by omega, fun j e => (by cases e), fun t ht => ?_, ?_⟩
        · refine lt_n (by first | exact List.mem_cons_self | exact List.mem_cons_of_mem _ List.mem_cons_self | (simp; done)) (by first | exact Or.inl rfl | exact Or.inr rfl) (by first | exact Or.inl rfl | exact Or.inr rfl) ?_
          refine ts_nil ⟨fun _ => ?_, fun h => by cases h⟩
          refine x_call (d_is_whole T) (Nat.le_of_ble_eq_true rfl) rfl ?_ (fun _ => rfl) (fun _ => rfl)
          refine a_cons ?_ (fun _ => rfl)
          refine x_v rfl (by first | exact Or.inl rfl | exact Or.inr (Or.inl rfl) | exact Or.inr (Or.inr rfl)) ?_
          refine a_cons (x_int ?_) (fun _ => rfl)
          refine a_cons (x_ix ?_ (fun _ _ => rfl)) (fun _ => rfl)
          refine x_v rfl (by first | exact Or.inl rfl | exact Or.inr (Or.inl rfl) | exact Or.inr (Or.inr rfl)) ?_
          refine x_int ?_
          refine ix_tup (d := .int m) (atI_at (n := 0) rfl rfl) ?_
          exact a_nil ⟨rfl, t, 1, m, rfl, _, rfl, rfl, rfl, rfl⟩
        rw [List.filter_true', show (ds.map fun d : D => D.bl (wholeD 1 m d)) = (ds.map (wholeD 1 m)).map D.bl by rw [List.map_map]; rfl]
        refine a_nil (ca_all isL_ls ?_)
        have eall : (ds.map (wholeD 1 m)).all (fun b => b) = ds.all (wholeD 1 m) := by rw [List.all_map]; rfl
        rw [eall]
        refine ⟨_, rfl, fun h2 => ?_, fun h2 => ?_⟩
        · have h3 : ds.all (wholeD 1 m) = false := by simpa using h2
          refine r_one (s_ret (x_bl ?_))
          have e : ticketD m (.tup ds) = false := by
            show (!ds.isEmpty && ds.all (wholeD 1 m) && _) = false
            rw [h3]; simp
          rw [e] at q
          exact fin_same q
        · have h3 : ds.all (wholeD 1 m) = true := by simpa using h2
          obtain ⟨eds, _⟩ := ints_whole h3
          generalize hns : intsOf ds = ns at eds
          subst eds
          rw [List.length_map] at hdl2
          refine r_nil (r_one (s_ret ?_))
          refine x_blt rfl T.b_all PyProof.Rows.boot_all ?_ (fun _ => rfl) (fun _ => rfl)
          refine a_cons ?_ (fun _ => rfl)
          refine x_F (f_lcP [("one", 3), ("other", 4)] (fun p : Int × Int => .bl (decide (p.1 < p.2))) (fun _ => true) (blkOk_by (by kernel_rfl)) nk_is_ticket.nd (i_zipT T.b_zip rfl ?_ (fun _ => rfl) (fun _ => rfl)) (fun _ _ => rfl))
          refine a_cons ?_ (fun _ => rfl)
          refine x_v rfl (by first | exact Or.inl rfl | exact Or.inr (Or.inl rfl) | exact Or.inr (Or.inr rfl)) ?_
          refine a_cons ?_ (fun _ => rfl)
          refine x_slT ?_
          refine x_v rfl (by first | exact Or.inl rfl | exact Or.inr (Or.inl rfl) | exact Or.inr (Or.inr rfl)) ?_
          refine o_some (x_int ⟨1, rfl, o_none ⟨_, rfl, ?_⟩⟩)
          rw [show cutD (ns.map D.int) (some 1) none = (ns.map D.int).drop 1 from cut_lo _ 1]
          refine a_nil ⟨_, _, rfl, ?_⟩
          rw [zip_pairs]
          refine ⟨pairs ns, fun p => D.tup [.int p.1, .int p.2], rfl, ?_, fun j e => (by cases e), fun t ht => ?_, ?_⟩
          · rw [pairs_zip, List.length_zip]
            omega
          · refine lt_2 (by first | exact List.mem_cons_self | exact List.mem_cons_of_mem _ List.mem_cons_self | (simp; done)) (by first | exact List.mem_cons_self | exact List.mem_cons_of_mem _ List.mem_cons_self | (simp; done)) (by first | exact Or.inl rfl | exact Or.inr rfl) (by first | exact Or.inl rfl | exact Or.inr rfl) (by first | exact Or.inl rfl | exact Or.inr rfl) (by first | exact Or.inl rfl | exact Or.inr rfl) ?_
            refine ts_nil ⟨fun _ => ?_, fun h => by cases h⟩
            repeat (first | refine x_int ?_ | (refine x_v rfl (by first | exact Or.inl rfl | exact Or.inr (Or.inl rfl) | exact Or.inr (Or.inr rfl)) ?_) | (first | refine b_add ?_ | refine b_sub ?_ | refine b_mul (by first | omega | (constructor <;> omega) | exact Or.inl ⟨by omega, by omega⟩ | exact Or.inr ⟨by omega, by omega⟩) ?_ | refine b_div (by first | omega | (constructor <;> omega) | exact Or.inl ⟨by omega, by omega⟩ | exact Or.inr ⟨by omega, by omega⟩) ?_ | refine b_mod (by first | omega | (constructor <;> omega) | exact Or.inl ⟨by omega, by omega⟩ | exact Or.inr ⟨by omega, by omega⟩) ?_ | refine b_strs (by first | omega | (constructor <;> omega) | exact Or.inl ⟨by omega, by omega⟩ | exact Or.inr ⟨by omega, by omega⟩) ?_ | refine b_catT (by first | exact Nat.le_of_ble_eq_true rfl | decide | (simp; done) | (simp <;> omega)) ?_ | refine c_lt ?_ | refine c_le ?_ | refine c_gt ?_ | refine c_ge ?_ | refine c_eqI ?_ | refine c_neI ?_ | refine c_is ?_ | refine c_isnot ?_ | refine c_eqB ?_ | refine c_neB ?_ | refine c_eqS ?_ | refine c_neS ?_ | refine b_iadd ?_ | refine b_isub ?_ | refine b_imul (by first | omega | (constructor <;> omega) | exact Or.inl ⟨by omega, by omega⟩ | exact Or.inr ⟨by omega, by omega⟩) ?_) | refine x_non ?_ | refine x_str ?_ | refine x_bl ?_ | refine x_bin ?_ | refine x_cmp ?_ (by rfl) | refine t_cmp ?_ (by rfl) | refine t_chain ?_ (by with_unfolding_all rfl) | refine x_chain ?_ (by with_unfolding_all rfl) | refine t_not ?_ | refine x_neg ?_ | refine x_if ?_ | refine a_cons ?_ (fun _ => rfl) | refine a_nil ?_ | refine x_tup ?_ | refine x_ix ?_ (fun _ _ => rfl) | refine ix_tup rfl ?_ | refine dats_ex (by first | exact Nat.le_of_ble_eq_true rfl | decide | (simp; done) | (simp <;> omega)) ?_ | refine r_cons ?_ | refine r_nil ?_ | refine s_ret ?_ | refine s_if ?_ | (refine s_st (by first | exact Or.inl rfl | exact Or.inr rfl) (by first | exact Or.inl rfl | exact Or.inr rfl) ?_ (fun _ => rfl)) | (refine s_ag (by first | exact Or.inl rfl | exact Or.inr rfl) (by first | exact Or.inl rfl | exact Or.inr rfl) rfl ?_) | refine s_expr ?_ (fun _ => rfl))
            exact ⟨_, rfl, rfl, rfl, rfl⟩
          rw [List.filter_true', show ((pairs ns).map fun p : Int × Int => D.bl (decide (p.1 < p.2))) = ((pairs ns).map fun p => decide (p.1 < p.2)).map D.bl by rw [List.map_map]; rfl]
          refine a_nil (ca_all isL_ls ?_)
          have e : ticketD m (.tup (ns.map D.int)) = ((pairs ns).map fun p => decide (p.1 < p.2)).all (fun b => b) := by
            have e0 : (ns.map D.int).isEmpty = false := h
            show (!(ns.map D.int).isEmpty && (ns.map D.int).all (wholeD 1 m) && rises (intsOf (ns.map D.int))) = _
            rw [h3, ints_map, e0, List.all_map]
            rfl
          rw [e] at q
          exact fin_same q
  · show Run (c_is_ticket P w K mg base _) [some (.dat (.tup (.int m :: l))), some (.ls ds), none, none, none] M _ _
    refine r_cons (s_if (t_W (w_or (t_not (t_val (x_isi rfl T.b_isinstance rfl T.b_tuple PyProof.Rows.boot_tuple ?_ (fun _ => rfl)) (fun _ _ => rfl))))))
    refine x_v rfl (by first | exact Or.inl rfl | exact Or.inr (Or.inl rfl) | exact Or.inr (Or.inr rfl)) ?_
    refine ⟨fun j e => (by cases e), fun _ e => (by cases e), false, (by kernel_rfl), _, rfl, fun _ => ⟨fun _ => ?_, fun h => by cases h⟩, fun h => by cases h⟩
    exact r_one (s_ret (x_bl (fin_same q)))
end
end My

namespace My
open PySem L2 Fx
section
variable {P : Program} {w : World} {K : PySem.W.Frag} {mg : Str → Option Value} {base : Heap}
def A_right_of : ASp := fun as M Post => ∃ (t d : List Int), as = [.dat (tI t), .dat (tI d)] ∧ d.length ≤ 1000 ∧ Post (.dat (.int (rightL t d))) M
theorem d_right_of (T : Txt K mg) : DefOk P w K mg base lv_right_of "right_of" s_right_of ps_right_of (spOf K ps_right_of.length A_right_of) := by
  obtain ⟨fa, fd, hm, F, hb⟩ := T.f_right_of
  refine ⟨fa, fd, hm, F, hb, fn_mk F sc_right_of fun as M Post hl hA => ?_⟩
  obtain ⟨t, d, rfl, hd, q⟩ := hA
  show Run (c_right_of P w K mg base _) [some (.dat (tI t)), some (.dat (tI d)), none] M _ _
  refine r_one (s_ret ?_)
  refine x_blt rfl T.b_len PySem.boot_len ?_ (fun _ => rfl) (fun _ => rfl)
  refine a_cons ?_ (fun _ => rfl)
  refine x_F (f_lcP [("number", 2)] (fun x : Int => .int x) (fun x => decide (x ∈ t)) (blkOk_by (by kernel_rfl)) nk_right_of.nd (i_seq ?_) (fun _ _ => rfl))
  refine x_v rfl (by first | exact Or.inl rfl | exact Or.inr (Or.inl rfl) | exact Or.inr (Or.inr rfl)) ?_
  refine ⟨_, isS_tup, d, D.int, rfl, by omega, fun j e => (by cases e), fun x hx => ?_, ?_⟩
  · refine lt_n (by first | exact List.mem_cons_self | exact List.mem_cons_of_mem _ List.mem_cons_self | (simp; done)) (by first | exact Or.inl rfl | exact Or.inr rfl) (by first | exact Or.inl rfl | exact Or.inr rfl) ?_
    refine ts_one (t_cmp ?_ (by rfl))
    refine x_v rfl (by first | exact Or.inl rfl | exact Or.inr (Or.inl rfl) | exact Or.inr (Or.inr rfl)) ?_
    refine x_v rfl (by first | exact Or.inl rfl | exact Or.inr (Or.inl rfl) | exact Or.inr (Or.inr rfl)) ?_
    refine c_in isS_tup rfl (fl_ints t) ?_
    rw [inD_int]
    refine ⟨fun h => ?_, fun h => ⟨h, rfl⟩⟩
    refine x_v rfl (by first | exact Or.inl rfl | exact Or.inr (Or.inl rfl) | exact Or.inr (Or.inr rfl)) ?_
    exact ⟨_, rfl, h, rfl, rfl⟩
  · repeat (first | refine x_int ?_ | (refine x_v rfl (by first | exact Or.inl rfl | exact Or.inr (Or.inl rfl) | exact Or.inr (Or.inr rfl)) ?_) | (first | refine b_add ?_ | refine b_sub ?_ | refine b_mul (by first | omega | (constructor <;> omega) | exact Or.inl ⟨by omega, by omega⟩ | exact Or.inr ⟨by omega, by omega⟩) ?_ | refine b_div (by first | omega | (constructor <;> omega) | exact Or.inl ⟨by omega, by omega⟩ | exact Or.inr ⟨by omega, by omega⟩) ?_ | refine b_mod (by first | omega | (constructor <;> omega) | exact Or.inl ⟨by omega, by omega⟩ | exact Or.inr ⟨by omega, by omega⟩) ?_ | refine b_strs (by first | omega | (constructor <;> omega) | exact Or.inl ⟨by omega, by omega⟩ | exact Or.inr ⟨by omega, by omega⟩) ?_ | refine b_catT (by first | exact Nat.le_of_ble_eq_true rfl | decide | (simp; done) | (simp <;> omega)) ?_ | refine c_lt ?_ | refine c_le ?_ | refine c_gt ?_ | refine c_ge ?_ | refine c_eqI ?_ | refine c_neI ?_ | refine c_is ?_ | refine c_isnot ?_ | refine c_eqB ?_ | refine c_neB ?_ | refine c_eqS ?_ | refine c_neS ?_ | refine b_iadd ?_ | refine b_isub ?_ | refine b_imul (by first | omega | (constructor <;> omega) | exact Or.inl ⟨by omega, by omega⟩ | exact Or.inr ⟨by omega, by omega⟩) ?_) | refine x_non ?_ | refine x_str ?_ | refine x_bl ?_ | refine x_bin ?_ | refine x_cmp ?_ (by rfl) | refine t_cmp ?_ (by rfl) | refine t_chain ?_ (by with_unfolding_all rfl) | refine x_chain ?_ (by with_unfolding_all rfl) | refine t_not ?_ | refine x_neg ?_ | refine x_if ?_ | refine a_cons ?_ (fun _ => rfl) | refine a_nil ?_ | refine x_tup ?_ | refine x_ix ?_ (fun _ _ => rfl) | refine ix_tup rfl ?_ | refine dats_ex (by first | exact Nat.le_of_ble_eq_true rfl | decide | (simp; done) | (simp <;> omega)) ?_ | refine r_cons ?_ | refine r_nil ?_ | refine s_ret ?_ | refine s_if ?_ | (refine s_st (by first | exact Or.inl rfl | exact Or.inr rfl) (by first | exact Or.inl rfl | exact Or.inr rfl) ?_ (fun _ => rfl)) | (refine s_ag (by first | exact Or.inl rfl | exact Or.inr rfl) (by first | exact Or.inl rfl | exact Or.inr rfl) rfl ?_) | refine s_expr ?_ (fun _ => rfl))
    refine ca_len isS_ls ?_
    rw [List.length_map]
    exact fin_same q
end
end My

namespace My
open PySem L2 Fx
section
variable {P : Program} {w : World} {K : PySem.W.Frag} {mg : Str → Option Value} {base : Heap}
def A_prize_of : ASp := fun as M Post => ∃ (r : Nat) (ps : List Int), as = [.dat (.int r), .dat (tI ps)] ∧ 0 < ps.length ∧ Post (.dat (.int (prizeN r ps))) M
theorem d_prize_of (T : Txt K mg) : DefOk P w K mg base lv_prize_of "prize_of" s_prize_of ps_prize_of (spOf K ps_prize_of.length A_prize_of) := by
  obtain ⟨fa, fd, hm, F, hb⟩ := T.f_prize_of
  refine ⟨fa, fd, hm, F, hb, fn_mk F sc_prize_of fun as M Post hl hA => ?_⟩
  obtain ⟨r, ps, rfl, hp, q⟩ := hA
  show Run (c_prize_of P w K mg base _) [some (.dat (.int r)), some (.dat (tI ps))] M _ _
  refine r_one (s_ret (x_ix ?_ (fun _ _ => rfl)))
  refine x_v rfl (by first | exact Or.inl rfl | exact Or.inr (Or.inl rfl) | exact Or.inr (Or.inr rfl)) ?_
  refine x_blt rfl T.b_min PyProof.Rows.boot_min ?_ (fun _ => rfl) (fun _ => rfl)
  refine a_cons ?_ (fun _ => rfl)
  refine x_v rfl (by first | exact Or.inl rfl | exact Or.inr (Or.inl rfl) | exact Or.inr (Or.inr rfl)) ?_
  refine a_cons (x_bin ?_) (fun _ => rfl)
  refine x_blt rfl T.b_len PySem.boot_len ?_ (fun _ => rfl) (fun _ => rfl)
  refine a_cons ?_ (fun _ => rfl)
  refine x_v rfl (by first | exact Or.inl rfl | exact Or.inr (Or.inl rfl) | exact Or.inr (Or.inr rfl)) ?_
  refine a_nil (ca_len isS_tup ?_)
  rw [List.length_map]
  refine x_int (b_sub ?_)
  refine a_nil (ca_min2 ?_)
  refine ix_tup (d := .int (prizeN r ps)) (atI_at (n := min r (ps.length - 1)) ?_ ?_) (fin_same q)
  · split <;> omega
  · rw [List.getElem?_map, (prize_mem hp).2]
    rfl
end
end My

namespace My
open PySem L2 Fx
section
variable {P : Program} {w : World} {K : PySem.W.Frag} {mg : Str → Option Value} {base : Heap}
def A_paid : ASp := fun as M Post => ∃ (b : List (List Int)) (w ps : List Int), as = [.dat (tII b), .dat (tI w), .dat (tI ps)] ∧ b.length ≤ 100000 ∧ w.length ≤ 1000 ∧ 0 < ps.length ∧ Post (.dat (.int (paidL ps b w))) M
theorem d_paid (T : Txt K mg) : DefOk P w K mg base lv_paid "paid" s_paid ps_paid (spOf K ps_paid.length A_paid) := by
  obtain ⟨fa, fd, hm, F, hb⟩ := T.f_paid
  refine ⟨fa, fd, hm, F, hb, fn_mk F sc_paid fun as M Post hl hA => ?_⟩
  obtain ⟨b, w, ps, rfl, hbl, hwl, hpl, q⟩ := hA
  show Run (c_paid P _ K mg base _) [some (.dat (tII b)), some (.dat (tI w)), some (.dat (tI ps)), none] M _ _
  refine r_one (s_ret ?_)
  refine x_blt rfl T.b_sum PyProof.Rows.boot_sum ?_ (fun _ => rfl) (fun _ => rfl)
  refine a_cons ?_ (fun _ => rfl)
  refine x_F (f_lcP [("ticket", 3)] (fun t : List Int => D.int (prizeN (rightL t w) ps)) (fun _ => true) (blkOk_by (by kernel_rfl)) nk_paid.nd (i_seq ?_) (fun _ _ => rfl))
  refine x_v rfl (by first | exact Or.inl rfl | exact Or.inr (Or.inl rfl) | exact Or.inr (Or.inr rfl)) ?_
  refine ⟨_, isS_tup, b, tI, rfl, by omega, fun j e => (by cases e), fun t ht => ?_, ?_⟩
  · refine lt_n (by first | exact List.mem_cons_self | exact List.mem_cons_of_mem _ List.mem_cons_self | (simp; done)) (by first | exact Or.inl rfl | exact Or.inr rfl) (by first | exact Or.inl rfl | exact Or.inr rfl) ?_
    refine ts_nil ⟨fun _ => ?_, fun h => by cases h⟩
    refine x_call (d_prize_of T) (Nat.le_of_ble_eq_true rfl) rfl ?_ (fun _ => rfl) (fun _ => rfl)
    refine a_cons ?_ (fun _ => rfl)
    refine x_call (d_right_of T) (Nat.le_of_ble_eq_true rfl) rfl ?_ (fun _ => rfl) (fun _ => rfl)
    refine a_cons ?_ (fun _ => rfl)
    refine x_v rfl (by first | exact Or.inl rfl | exact Or.inr (Or.inl rfl) | exact Or.inr (Or.inr rfl)) ?_
    refine a_cons ?_ (fun _ => rfl)
    refine x_v rfl (by first | exact Or.inl rfl | exact Or.inr (Or.inl rfl) | exact Or.inr (Or.inr rfl)) ?_
    refine a_nil ⟨rfl, t, w, rfl, hwl, ?_⟩
    refine a_cons ?_ (fun _ => rfl)
    refine x_v rfl (by first | exact Or.inl rfl | exact Or.inr (Or.inl rfl) | exact Or.inr (Or.inr rfl)) ?_
    refine a_nil ⟨rfl, rightL t w, ps, rfl, hpl, ?_⟩
    exact ⟨_, rfl, rfl, rfl, rfl⟩
  rw [List.filter_true', show (b.map fun t : List Int => D.int (prizeN (rightL t w) ps)) = (b.map fun t : List Int => prizeN (rightL t w) ps).map D.int by rw [List.map_map]; rfl]
  refine a_nil (ca_sum isL_ls ?_)
  exact fin_same q
end
end My

namespace My
open PySem L2 Fx
section
variable {P : Program} {w : World} {K : PySem.W.Frag} {mg : Str → Option Value} {base : Heap}
def A_Desk___init__ (C : Addr) : ASp := fun as M Post => ∃ (j : Nat) (lt ps : List Int) (cost : Int), as = [.mut j, .dat (tI lt), .dat (tI ps), .dat (.int cost)] ∧ M[j]? = some (.ins C []) ∧
  ∀ M2, DeskS C M2 j M.length (M.length + 1) lt ps cost [] [] → (∀ i, i ≠ j → i < M.length → M2[i]? = M[i]?) → M2.length = M.length + 2 → Post (.dat .non) M2
theorem d_Desk___init__ (T : Txt K mg) {C : Addr} [DT : DeskT K mg C] {fa : Addr} {fd : FuncData} (F : FunD K "__init__" "Desk.__init__" (defArgs s_Desk___init__) (defBody s_Desk___init__) (defScope s_Desk___init__) [V.int 1] [] fa fd) : FnOk P w K mg base CX0 lv_Desk___init__ fa fd ps_Desk___init__ (spOf K ps_Desk___init__.length (A_Desk___init__ C)) := by
  refine fn_mkD F sc_Desk___init__ fun as M Post hl hA => ?_
  obtain ⟨j, lt, ps, cost, rfl, hj, q⟩ := hA
  have hlt := get_lt hj
  have gs : ∀ (x : MO), (M.set j x)[j]? = some x := fun x => List.getElem?_set_self hlt
  show Run (c_Desk___init__ P w K mg base _) [some (.mut j), some (.dat (tI lt)), some (.dat (tI ps)), some (.dat (.int cost))] M _ _
  refine r_cons (s_fld ?_ (fun _ => rfl))
  refine x_v rfl (by first | exact Or.inl rfl | exact Or.inr (Or.inl rfl) | exact Or.inr (Or.inr rfl)) ?_
  refine x_v rfl (by first | exact Or.inl rfl | exact Or.inr (Or.inl rfl) | exact Or.inr (Or.inr rfl)) ?_
  refine ⟨j, C, _, rfl, hj, DT.cl, DT.n_lot, by decide, rfl, ?_⟩
  refine r_cons (s_fld ?_ (fun _ => rfl))
  refine x_v rfl (by first | exact Or.inl rfl | exact Or.inr (Or.inl rfl) | exact Or.inr (Or.inr rfl)) ?_
  refine x_v rfl (by first | exact Or.inl rfl | exact Or.inr (Or.inl rfl) | exact Or.inr (Or.inr rfl)) ?_
  refine ⟨j, C, _, rfl, gs _, DT.cl, DT.n_prizes, Nat.le_of_ble_eq_true rfl, rfl, ?_⟩
  rw [List.set_set]
  refine r_cons (s_fld ?_ (fun _ => rfl))
  refine x_v rfl (by first | exact Or.inl rfl | exact Or.inr (Or.inl rfl) | exact Or.inr (Or.inr rfl)) ?_
  refine x_v rfl (by first | exact Or.inl rfl | exact Or.inr (Or.inl rfl) | exact Or.inr (Or.inr rfl)) ?_
  refine ⟨j, C, _, rfl, gs _, DT.cl, DT.n_price, Nat.le_of_ble_eq_true rfl, rfl, ?_⟩
  rw [List.set_set]
  refine r_cons (s_fld ?_ (fun _ => rfl))
  refine x_N (f_lst (a_nil (dats_ex (by decide) ?_)))
  refine x_v rfl (by first | exact Or.inl rfl | exact Or.inr (Or.inl rfl) | exact Or.inr (Or.inr rfl)) ?_
  refine ⟨j, C, _, rfl, by rw [List.getElem?_append_left (by rw [List.length_set]; exact hlt)]; exact gs _, DT.cl, DT.n_done, Nat.le_of_ble_eq_true rfl, rfl, ?_⟩
  rw [List.set_append_left _ _ (by rw [List.length_set]; exact hlt), List.set_set, List.length_set]
  refine r_one (s_fld ?_ (fun _ => rfl))
  refine x_N (f_lst (a_nil (dats_ex (by decide) ?_)))
  refine x_v rfl (by first | exact Or.inl rfl | exact Or.inr (Or.inl rfl) | exact Or.inr (Or.inr rfl)) ?_
  refine ⟨j, C, _, rfl, by rw [List.append_assoc, List.getElem?_append_left (by rw [List.length_set]; exact hlt)]; exact gs _, DT.cl, DT.n_undone, Nat.le_of_ble_eq_true rfl, rfl, ?_⟩
  rw [List.append_assoc, List.set_append_left _ _ (by rw [List.length_set]; exact hlt), List.set_set]
  rw [List.length_append, List.length_set]
  have sz : ∀ x : MO, (M.set j x).length = M.length := fun x => List.length_set
  refine q _ ⟨?_, ?_, ?_, by show M.length ≠ M.length + 1; omega⟩ (fun i h1 h2 => ?_) ?_
  · rw [List.getElem?_append_left (by rw [sz]; exact hlt)]
    exact gs _
  · rw [List.getElem?_append_right (by rw [sz]; exact Nat.le_refl _), sz, Nat.sub_self]
    rfl
  · rw [List.getElem?_append_right (by rw [sz]; omega), sz, show M.length + 1 - M.length = 1 by omega]
    rfl
  · rw [List.getElem?_append_left (by rw [sz]; exact h2), List.getElem?_set_ne (fun e => h1 e.symm)]
  · rw [List.length_append, sz]
    rfl
theorem dm_Desk (T : Txt K mg) {C : Addr} [DT : DeskT K mg C] : MakOk P w K mg base lv_Desk___init__ "Desk" C ps_Desk___init__ (spOf K ps_Desk___init__.length (A_Desk___init__ C)) := by
  obtain ⟨f, fd, MK, F⟩ := DT.m_Desk___init__
  obtain ⟨ds, hv, hb⟩ := F.binds1 (ps := ps_Desk___init__) 4 1 (by simp) rfl (fun T kV doc pm an cdv ct us its h1 h2 => match us, its, h1, h2 with | [_, _, _, _], [_], _, _ => ⟨_, rfl, rfl⟩)
  cases hv
  exact ⟨f, fd, MK, d_Desk___init__ T F, DT.gC, hb⟩
end
end My

namespace My
open PySem L2 Fx
section
variable {P : Program} {w : World} {K : PySem.W.Frag} {mg : Str → Option Value} {base : Heap}
def A_Desk_back (C C5 : Addr) : ASpX := fun as M Post X => ∃ (j j1 j2 : Nat) (lt ps : List Int) (cost : Int) (done undone : List Deed), as = [.mut j] ∧ DeskS C M j j1 j2 lt ps cost done undone ∧ done.length < 1000 ∧ undone.length < 1000 ∧
  (done = [] → X C5 [] M) ∧ ∀ d z, done = d ++ [z] → ∀ M2, DeskS C M2 j j1 j2 lt ps cost d (undone ++ [z]) → Kp M M2 j j1 j2 j2 → Post (.dat (.str (word z))) M2
theorem d_Desk_back (T : Txt K mg) {C : Addr} [DT : DeskT K mg C] {cs : Nat → Addr} {TE : Addr} {rs : List Nat} [EX : Exs K mg cs TE rs] [T5 : TxtExc K mg "NoBack" (cs 5)] : MetOk P w K mg base (L2.CX P w) lv_Desk_back C "back" "Desk.back" s_Desk_back ps_Desk_back (spOfX K ps_Desk_back.length (A_Desk_back C (cs 5))) := by
  obtain ⟨fa, fd, hm, F, hb⟩ := DT.m_Desk_back
  refine ⟨fa, fd, DT.cl, hm, F, hb, fn_mkX F sc_Desk_back fun as M Post X hl hA => ?_⟩
  obtain ⟨j, j1, j2, lt, ps, cost, done, undone, rfl, hD, hdl, hul, x5, q⟩ := hA
  show RunX (c_Desk_back P w K mg base _) [some (.mut j), none] M _ _ _
  refine rx_if (t_not (t_tru (x_fld ?_ (fun _ => rfl)) (fun _ _ => rfl)))
  refine x_v rfl (by first | exact Or.inl rfl | exact Or.inr (Or.inl rfl) | exact Or.inr (Or.inr rfl)) ?_
  refine ⟨j, C, _, _, rfl, hD.ob, DT.cl, DT.n_done, f_done, ?_⟩
  refine ⟨_, ⟨_, hD.dn, rfl⟩, fun h => ?_, fun h => ?_⟩
  · refine rx_raiseT T5 rfl (x5 ?_)
    rw [isEmpty_map'] at h
    cases e : done with
    | nil => rfl
    | cons _ _ => rw [e] at h; cases h
  have hne : done ≠ [] := fun e => by rw [e] at h; cases h
  obtain ⟨d, z, hdz⟩ := snoc_of hne
  have q2 := q d z hdz
  subst hdz
  obtain ⟨k1, k2⟩ := desk_back hD
  refine rx_run (r_nil (rx_run ?_))
  refine r_cons ?_
  refine s_st (by first | exact Or.inl rfl | exact Or.inr rfl) (by first | exact Or.inl rfl | exact Or.inr rfl) ?_ (fun _ => rfl)
  refine x_lm0 PySem.F.slot_list_pop PySem.F.type_list_pop ?_ (fun _ => rfl) rfl
  refine x_fld ?_ (fun _ => rfl)
  refine x_v rfl (by first | exact Or.inl rfl | exact Or.inr (Or.inl rfl) | exact Or.inr (Or.inr rfl)) ?_
  refine ⟨j, C, _, _, rfl, hD.ob, DT.cl, DT.n_done, f_done, ?_⟩
  refine ⟨j1, _, rfl, hD.dn, ?_⟩
  refine me_pop (d := encD z) hD.dn (by rw [List.map_append, List.length_append]; show _[_ + 1 - 1]? = _; rw [Nat.add_sub_cancel, List.getElem?_append_right (Nat.le_refl _), Nat.sub_self]; rfl) ?_
  rw [List.map_append, show (d.map encD ++ [z].map encD).dropLast = d.map encD from List.dropLast_concat]
  refine r_cons (s_expr ?_ (fun _ => rfl))
  refine x_lm PySem.F.slot_list_append PySem.F.type_list_append ?_ (fun _ => rfl) (fun _ => rfl) rfl (fun _ => rfl) (fun _ => rfl)
  refine x_fld ?_ (fun _ => rfl)
  refine x_v rfl (by first | exact Or.inl rfl | exact Or.inr (Or.inl rfl) | exact Or.inr (Or.inr rfl)) ?_
  refine ⟨j, C, _, _, rfl, by rw [List.getElem?_set_ne (fun e => hD.ne1 e.symm)]; exact hD.ob, DT.cl, DT.n_undone, f_undone, ?_⟩
  have hun : (M.set j1 (.lst (d.map encD)))[j2]? = some (.lst (undone.map encD)) := by rw [List.getElem?_set_ne hD.ne]; exact hD.un
  refine ⟨j2, _, rfl, hun, ?_⟩
  refine a_cons ?_ (fun _ => rfl)
  refine x_v rfl (by first | exact Or.inl rfl | exact Or.inr (Or.inl rfl) | exact Or.inr (Or.inr rfl)) ?_
  refine a_nil (me_append hun (by rw [List.length_map]; omega) ?_)
  have q3 := q2 _ k1 k2
  unfold word at q3
  refine r_one (s_ret (x_if (t_cmp (x_ix ?_ (fun _ _ => rfl)) (by rfl))))
  refine x_v rfl (by first | exact Or.inl rfl | exact Or.inr (Or.inl rfl) | exact Or.inr (Or.inr rfl)) ?_
  refine x_int (ix_tup (d := nmD z.1) (atI_at (n := 0) rfl rfl) ?_)
  refine x_non (c_is ?_)
  rw [nm_non]
  refine ⟨fun h => x_str ?_, fun h => x_str ?_⟩
  · rw [if_pos h] at q3
    exact fin_same q3
  · rw [if_neg (by rw [h]; decide)] at q3
    exact fin_same q3
end
end My

namespace My
open PySem L2 Fx
section
variable {P : Program} {w : World} {K : PySem.W.Frag} {mg : Str → Option Value} {base : Heap}
def A_Desk_keep (C : Addr) : ASp := fun as M Post => ∃ (j j1 j2 : Nat) (lt ps : List Int) (cost : Int) (done undone : List Deed) (nm : Option Str) (t : List Int), as = [.mut j, .dat (nmD nm), .dat (tI t)] ∧ DeskS C M j j1 j2 lt ps cost done undone ∧ done.length < 1000 ∧
  ∀ M2 j3, DeskS C M2 j j1 j3 lt ps cost (done ++ [(nm, t)]) [] → Kp M M2 j j1 j2 j3 → Post (.dat .non) M2
theorem d_Desk_keep (T : Txt K mg) {C : Addr} [DT : DeskT K mg C] : MetOk P w K mg base CX0 lv_Desk_keep C "keep" "Desk.keep" s_Desk_keep ps_Desk_keep (spOf K ps_Desk_keep.length (A_Desk_keep C)) := by
  obtain ⟨fa, fd, hm, F, hb⟩ := DT.m_Desk_keep
  refine ⟨fa, fd, DT.cl, hm, F, hb, fn_mk F sc_Desk_keep fun as M Post hl hA => ?_⟩
  obtain ⟨j, j1, j2, lt, ps, cost, done, undone, nm, t, rfl, hD, hdl, q⟩ := hA
  show Run (c_Desk_keep P w K mg base _) [some (.mut j), some (.dat (nmD nm)), some (.dat (tI t))] M _ _
  refine r_cons (s_expr ?_ (fun _ => rfl))
  refine x_lm PySem.F.slot_list_append PySem.F.type_list_append ?_ (fun _ => rfl) (fun _ => rfl) rfl (fun _ => rfl) (fun _ => rfl)
  refine x_fld ?_ (fun _ => rfl)
  refine x_v rfl (by first | exact Or.inl rfl | exact Or.inr (Or.inl rfl) | exact Or.inr (Or.inr rfl)) ?_
  refine ⟨j, C, _, _, rfl, hD.ob, DT.cl, DT.n_done, f_done, ?_⟩
  refine ⟨j1, _, rfl, hD.dn, ?_⟩
  refine a_cons (x_tup (a_cons ?_ (fun _ => rfl))) (fun _ => rfl)
  refine x_v rfl (by first | exact Or.inl rfl | exact Or.inr (Or.inl rfl) | exact Or.inr (Or.inr rfl)) ?_
  refine a_cons ?_ (fun _ => rfl)
  refine x_v rfl (by first | exact Or.inl rfl | exact Or.inr (Or.inl rfl) | exact Or.inr (Or.inr rfl)) ?_
  refine a_nil (dats_ex (by first | exact Nat.le_of_ble_eq_true rfl | decide | (simp; done) | (simp <;> omega)) ?_)
  refine a_nil (me_append hD.dn (by rw [List.length_map]; omega) ?_)
  refine r_one (s_fld ?_ (fun _ => rfl))
  refine x_N (f_lst (a_nil (dats_ex (by decide) ?_)))
  refine x_v rfl (by first | exact Or.inl rfl | exact Or.inr (Or.inl rfl) | exact Or.inr (Or.inr rfl)) ?_
  have l1 := get_lt hD.ob
  refine ⟨j, C, _, rfl, by rw [List.getElem?_append_left (by rw [List.length_set]; exact l1), List.getElem?_set_ne (fun e => hD.ne1 e.symm)]; exact hD.ob, DT.cl, DT.n_undone, Nat.le_of_ble_eq_true rfl, rfl, ?_⟩
  rw [List.length_set]
  obtain ⟨k1, k2⟩ := desk_keep hD (nm, t)
  exact fin_same (q _ _ k1 k2)
end
end My

namespace My
open PySem L2 Fx
section
variable {P : Program} {w : World} {K : PySem.W.Frag} {mg : Str → Option Value} {base : Heap}
theorem head_nil {done : List Deed} (h : (done.filter fun q => q.1.isNone) = []) : drawnD done = .non := by
  unfold drawnD drawnL
  rw [h]
  rfl
theorem head_cons {done l : List Deed} {z : Deed} (h : (done.filter fun q => q.1.isNone) = z :: l) : drawnD done = tI z.2 := by
  unfold drawnD drawnL
  rw [h]
  rfl
def A_Desk_drawn (C : Addr) : ASp := fun as M Post => ∃ (j j1 j2 : Nat) (lt ps : List Int) (cost : Int) (done undone : List Deed), as = [.mut j] ∧ DeskS C M j j1 j2 lt ps cost done undone ∧ done.length ≤ 1000 ∧ Post (.dat (drawnD done)) M
theorem d_Desk_drawn (T : Txt K mg) {C : Addr} [DT : DeskT K mg C] : MetOk P w K mg base CX0 lv_Desk_drawn C "drawn" "Desk.drawn" s_Desk_drawn ps_Desk_drawn (spOf K ps_Desk_drawn.length (A_Desk_drawn C)) := by
  obtain ⟨fa, fd, hm, F, hb⟩ := DT.m_Desk_drawn
  refine ⟨fa, fd, DT.cl, hm, F, hb, fn_mk F sc_Desk_drawn fun as M Post hl hA => ?_⟩
  obtain ⟨j, j1, j2, lt, ps, cost, done, undone, rfl, hD, hdl, q⟩ := hA
  show Run (c_Desk_drawn P w K mg base _) [some (.mut j), none, none, none] M _ _
  refine r_cons ?_
  refine s_lcP [("name", 2), ("numbers", 3)] (fun z : Deed => tI z.2) (fun z => z.1.isNone) (blkOk_by (by kernel_rfl)) rfl rfl rfl (by decide +kernel) (i_seq ?_) (fun _ _ => rfl)
  refine x_fld ?_ (fun _ => rfl)
  refine x_v rfl (by first | exact Or.inl rfl | exact Or.inr (Or.inl rfl) | exact Or.inr (Or.inr rfl)) ?_
  refine ⟨j, C, _, _, rfl, hD.ob, DT.cl, DT.n_done, f_done, ?_⟩
  refine ⟨_, isS_mut hD.dn, done, encD, rfl, by omega, fun i e => (by cases e; exact hD.dn), fun z hz => ?_, ?_⟩
  · refine lt_2 (by first | exact List.mem_cons_self | exact List.mem_cons_of_mem _ List.mem_cons_self | (simp; done)) (by first | exact List.mem_cons_self | exact List.mem_cons_of_mem _ List.mem_cons_self | (simp; done)) (by first | exact Or.inl rfl | exact Or.inr rfl) (by first | exact Or.inl rfl | exact Or.inr rfl) (by first | exact Or.inl rfl | exact Or.inr rfl) (by first | exact Or.inl rfl | exact Or.inr rfl) ?_
    refine ts_one (t_cmp ?_ (by rfl))
    refine x_v rfl (by first | exact Or.inl rfl | exact Or.inr (Or.inl rfl) | exact Or.inr (Or.inr rfl)) ?_
    refine x_non (c_is ?_)
    rw [nm_non]
    refine ⟨fun h => ?_, fun h => ⟨h, rfl⟩⟩
    refine x_v rfl (by first | exact Or.inl rfl | exact Or.inr (Or.inl rfl) | exact Or.inr (Or.inr rfl)) ?_
    exact ⟨_, rfl, h, rfl, rfl⟩
  refine r_one (s_ret (x_if (t_tru ?_ (fun _ _ => rfl))))
  refine x_v rfl (by first | exact Or.inl rfl | exact Or.inr (Or.inl rfl) | exact Or.inr (Or.inr rfl)) ?_
  refine ⟨_, rfl, fun h => ?_, fun h => ?_⟩
  · rw [isEmpty_map'] at h
    cases e : (done.filter fun z => z.1.isNone) with
    | nil => rw [e] at h; cases h
    | cons z l =>
      rw [head_cons e] at q
      refine x_ix ?_ (fun _ _ => rfl)
      refine x_v rfl (by first | exact Or.inl rfl | exact Or.inr (Or.inl rfl) | exact Or.inr (Or.inr rfl)) ?_
      refine x_int ?_
      exact ix_ls (d := tI z.2) (atI_at (n := 0) rfl rfl) (fin_same q)
  · rw [isEmpty_map'] at h
    cases e : (done.filter fun z => z.1.isNone) with
    | nil =>
      rw [head_nil e] at q
      exact x_non (fin_same q)
    | cons z l => rw [e] at h; cases h
end
end My

namespace My
open PySem L2 Fx
section
variable {P : Program} {w : World} {K : PySem.W.Frag} {mg : Str → Option Value} {base : Heap}
def A_Desk_sold (C : Addr) : ASp := fun as M Post => ∃ (j j1 j2 : Nat) (lt ps : List Int) (cost : Int) (done undone : List Deed), as = [.mut j] ∧ DeskS C M j j1 j2 lt ps cost done undone ∧ done.length ≤ 1000 ∧ Post (.ls ((soldL done).map encD)) M
theorem d_Desk_sold (T : Txt K mg) {C : Addr} [DT : DeskT K mg C] : MetOk P w K mg base CX0 lv_Desk_sold C "sold" "Desk.sold" s_Desk_sold ps_Desk_sold (spOf K ps_Desk_sold.length (A_Desk_sold C)) := by
  obtain ⟨fa, fd, hm, F, hb⟩ := DT.m_Desk_sold
  refine ⟨fa, fd, DT.cl, hm, F, hb, fn_mk F sc_Desk_sold fun as M Post hl hA => ?_⟩
  obtain ⟨j, j1, j2, lt, ps, cost, done, undone, rfl, hD, hdl, q⟩ := hA
  show Run (c_Desk_sold P w K mg base _) [some (.mut j), none] M _ _
  refine r_one (s_ret ?_)
  refine x_F (f_lcP [("deed", 1)] (fun z : Deed => encD z) (fun z => z.1.isSome) (blkOk_by (by kernel_rfl)) nk_Desk_sold.nd (i_seq ?_) (fun _ _ => rfl))
  refine x_fld ?_ (fun _ => rfl)
  refine x_v rfl (by first | exact Or.inl rfl | exact Or.inr (Or.inl rfl) | exact Or.inr (Or.inr rfl)) ?_
  refine ⟨j, C, _, _, rfl, hD.ob, DT.cl, DT.n_done, f_done, ?_⟩
  refine ⟨_, isS_mut hD.dn, done, encD, rfl, by omega, fun i e => (by cases e; exact hD.dn), fun z hz => ?_, fin_same q⟩
  refine lt_n (by first | exact List.mem_cons_self | exact List.mem_cons_of_mem _ List.mem_cons_self | (simp; done)) (by first | exact Or.inl rfl | exact Or.inr rfl) (by first | exact Or.inl rfl | exact Or.inr rfl) ?_
  refine ts_one (t_cmp (x_ix ?_ (fun _ _ => rfl)) (by rfl))
  refine x_v rfl (by first | exact Or.inl rfl | exact Or.inr (Or.inl rfl) | exact Or.inr (Or.inr rfl)) ?_
  refine x_int (ix_tup (d := nmD z.1) (atI_at (n := 0) rfl rfl) ?_)
  refine x_non (c_isnot ?_)
  rw [nm_non, Option.not_isNone]
  refine ⟨fun h => ?_, fun h => ⟨h, rfl⟩⟩
  refine x_v rfl (by first | exact Or.inl rfl | exact Or.inr (Or.inl rfl) | exact Or.inr (Or.inr rfl)) ?_
  exact ⟨_, rfl, h, rfl, rfl⟩
end
end My

namespace My
open PySem L2 Fx
section
variable {P : Program} {w : World} {K : PySem.W.Frag} {mg : Str → Option Value} {base : Heap}
theorem sold_none (done : List Deed) (t : List Int) : soldL (done ++ [(none, t)]) = soldL done := by
  unfold soldL
  rw [List.filter_append]
  show _ ++ [] = _
  rw [List.append_nil]
def wonL (ps : List Int) (done : List Deed) (w : List Int) : Nat := ((soldL done).filter fun z => decide (0 < paidL ps [z.2] w)).length
def A_Desk_draw (C : Addr) : ASp := fun as M Post => ∃ (j j1 j2 : Nat) (n d : Int) (ps : List Int) (cost : Int) (done undone : List Deed) (t : List Int), as = [.mut j, .dat (tI t)] ∧ DeskS C M j j1 j2 [n, d] ps cost done undone ∧ done.length < 1000 ∧ Row n t ∧ t ≠ [] ∧ (t.length : Int) = d ∧ t.length ≤ 1000 ∧ drawnL done = none ∧ 0 < ps.length ∧
  ∀ M2 j3, DeskS C M2 j j1 j3 [n, d] ps cost (done ++ [(none, t)]) [] → Kp M M2 j j1 j2 j3 → Post (.dat (.int (wonL ps done t : Nat))) M2
theorem d_Desk_draw (T : Txt K mg) {C : Addr} [DT : DeskT K mg C] : MetOk P w K mg base CX0 lv_Desk_draw C "draw" "Desk.draw" s_Desk_draw ps_Desk_draw (spOf K ps_Desk_draw.length (A_Desk_draw C)) := by
  obtain ⟨fa, fd, hm, F, hb⟩ := DT.m_Desk_draw
  refine ⟨fa, fd, DT.cl, hm, F, hb, fn_mk F sc_Desk_draw fun as M Post hl hA => ?_⟩
  obtain ⟨j, j1, j2, n, d, ps, cost, done, undone, t, rfl, hD, hdl, hr, hne, htd, htl, hdn, hps, q⟩ := hA
  show Run (c_Desk_draw P w K mg base _) [some (.mut j), some (.dat (tI t)), none, none] M _ _
  refine r_cons (s_ifF (t_W (w_or (t_not (t_val ?_ (fun _ _ => rfl))))) ?_)
  · refine x_call (d_is_ticket T) (Nat.le_of_ble_eq_true rfl) rfl ?_ (fun _ => rfl) (fun _ => rfl)
    refine a_cons (x_fld ?_ (fun _ => rfl)) (fun _ => rfl)
    refine x_v rfl (by first | exact Or.inl rfl | exact Or.inr (Or.inl rfl) | exact Or.inr (Or.inr rfl)) ?_
    refine ⟨j, C, _, _, rfl, hD.ob, DT.cl, DT.n_lot, f_lot, ?_⟩
    refine a_cons ?_ (fun _ => rfl)
    refine x_v rfl (by first | exact Or.inl rfl | exact Or.inr (Or.inl rfl) | exact Or.inr (Or.inr rfl)) ?_
    refine a_nil ⟨rfl, n, _, _, rfl, .inl ⟨_, rfl, ok_tI 4 t, fun ds e => by cases e; rw [List.length_map]; exact htl, ?_⟩⟩
    rw [ticket_row hr hne]
    refine ⟨true, rfl, fun h => (by cases h), fun _ => w_or1 (t_cmp ?_ (by rfl))⟩
    refine x_blt rfl T.b_len PySem.boot_len ?_ (fun _ => rfl) (fun _ => rfl)
    refine a_cons ?_ (fun _ => rfl)
    refine x_v rfl (by first | exact Or.inl rfl | exact Or.inr (Or.inl rfl) | exact Or.inr (Or.inr rfl)) ?_
    refine a_nil (ca_len isS_tup ?_)
    rw [List.length_map]
    refine x_ix (x_fld ?_ (fun _ => rfl)) (fun _ _ => rfl)
    refine x_v rfl (by first | exact Or.inl rfl | exact Or.inr (Or.inl rfl) | exact Or.inr (Or.inr rfl)) ?_
    refine ⟨j, C, _, _, rfl, hD.ob, DT.cl, DT.n_lot, f_lot, ?_⟩
    refine x_int (ix_tup (d := .int d) (atI_at (n := 1) rfl rfl) ?_)
    exact c_neI ⟨by rw [htd]; simp, rfl⟩
  refine r_nil (r_cons (s_ifF (t_cmp ?_ (by rfl)) ?_))
  · refine x_met0 (d_Desk_drawn T) (Nat.le_of_ble_eq_true rfl) ?_ (fun _ => rfl)
    refine x_v rfl (by first | exact Or.inl rfl | exact Or.inr (Or.inl rfl) | exact Or.inr (Or.inr rfl)) ?_
    refine ⟨j, _, rfl, hD.ob, rfl, j, j1, j2, _, ps, cost, done, undone, rfl, hD, by omega, ?_⟩
    refine x_non (c_isnot ⟨?_, rfl⟩)
    unfold drawnD
    rw [hdn]
    rfl
  refine r_nil (r_cons (s_expr ?_ (fun _ => rfl)))
  refine x_met (d_Desk_keep T) (Nat.le_of_ble_eq_true rfl) ?_ (fun _ => rfl) (fun _ => rfl) (fun _ => rfl)
  refine x_v rfl (by first | exact Or.inl rfl | exact Or.inr (Or.inl rfl) | exact Or.inr (Or.inr rfl)) ?_
  refine ⟨j, _, rfl, hD.ob, rfl, ?_⟩
  refine a_cons (x_non ?_) (fun _ => rfl)
  refine a_cons ?_ (fun _ => rfl)
  refine x_v rfl (by first | exact Or.inl rfl | exact Or.inr (Or.inl rfl) | exact Or.inr (Or.inr rfl)) ?_
  refine a_nil ⟨rfl, j, j1, j2, _, ps, cost, done, undone, none, t, rfl, hD, by omega, fun M2 j3 hD2 hK => ?_⟩
  refine r_one (s_ret ?_)
  refine x_blt rfl T.b_len PySem.boot_len ?_ (fun _ => rfl) (fun _ => rfl)
  refine a_cons ?_ (fun _ => rfl)
  refine x_F (f_lcP [("name", 2), ("ticket", 3)] (fun z : Deed => tI z.2) (fun z => decide (0 < paidL ps [z.2] t)) (blkOk_by (by kernel_rfl)) nk_Desk_draw.nd (i_seq ?_) (fun _ _ => rfl))
  refine x_met0 (d_Desk_sold T) (Nat.le_of_ble_eq_true rfl) ?_ (fun _ => rfl)
  refine x_v rfl (by first | exact Or.inl rfl | exact Or.inr (Or.inl rfl) | exact Or.inr (Or.inr rfl)) ?_
  refine ⟨j, _, rfl, hD2.ob, rfl, j, j1, j3, _, ps, cost, _, _, rfl, hD2, by rw [List.length_append]; show done.length + 1 ≤ 1000; omega, ?_⟩
  rw [sold_none]
  refine ⟨_, isS_ls, soldL done, encD, rfl, Nat.le_trans (List.length_filter_le _ _) (by omega), fun i e => (by cases e), fun z hz => ?_, ?_⟩
  · refine lt_2 (by first | exact List.mem_cons_self | exact List.mem_cons_of_mem _ List.mem_cons_self | (simp; done)) (by first | exact List.mem_cons_self | exact List.mem_cons_of_mem _ List.mem_cons_self | (simp; done)) (by first | exact Or.inl rfl | exact Or.inr rfl) (by first | exact Or.inl rfl | exact Or.inr rfl) (by first | exact Or.inl rfl | exact Or.inr rfl) (by first | exact Or.inl rfl | exact Or.inr rfl) ?_
    refine ts_one (t_cmp ?_ (by rfl))
    refine x_call (d_paid T) (Nat.le_of_ble_eq_true rfl) rfl ?_ (fun _ => rfl) (fun _ => rfl)
    refine a_cons (x_tup (a_cons ?_ (fun _ => rfl))) (fun _ => rfl)
    refine x_v rfl (by first | exact Or.inl rfl | exact Or.inr (Or.inl rfl) | exact Or.inr (Or.inr rfl)) ?_
    refine a_nil (dats_ex (by first | exact Nat.le_of_ble_eq_true rfl | decide | (simp; done) | (simp <;> omega)) ?_)
    refine a_cons ?_ (fun _ => rfl)
    refine x_v rfl (by first | exact Or.inl rfl | exact Or.inr (Or.inl rfl) | exact Or.inr (Or.inr rfl)) ?_
    refine a_cons (x_fld ?_ (fun _ => rfl)) (fun _ => rfl)
    refine x_v rfl (by first | exact Or.inl rfl | exact Or.inr (Or.inl rfl) | exact Or.inr (Or.inr rfl)) ?_
    refine ⟨j, C, _, _, rfl, hD2.ob, DT.cl, DT.n_prizes, f_prizes, ?_⟩
    refine a_nil ⟨rfl, [z.2], t, ps, rfl, Nat.le_of_ble_eq_true rfl, htl, hps, ?_⟩
    refine x_int (c_gt ⟨fun h => ?_, fun h => ⟨h, rfl⟩⟩)
    refine x_v rfl (by first | exact Or.inl rfl | exact Or.inr (Or.inl rfl) | exact Or.inr (Or.inr rfl)) ?_
    exact ⟨_, rfl, h, rfl, rfl⟩
  refine a_nil (ca_len isS_ls ?_)
  rw [List.length_map]
  exact fin_same (q M2 j3 hD2 hK)
end
end My

namespace My
open PySem L2 Fx
section
variable {P : Program} {w : World} {K : PySem.W.Frag} {mg : Str → Option Value} {base : Heap}
theorem sold_snoc (done : List Deed) (s : Str) (t : List Int) : soldL (done ++ [(some s, t)]) = soldL done ++ [(some s, t)] := by
  unfold soldL
  rw [List.filter_append]
  rfl
def A_Desk_buy (C : Addr) : ASp := fun as M Post => ∃ (j j1 j2 : Nat) (n d : Int) (ps : List Int) (cost : Int) (done undone : List Deed) (s : Str) (t : List Int), as = [.mut j, .dat (.str s), .dat (tI t)] ∧ DeskS C M j j1 j2 [n, d] ps cost done undone ∧ done.length < 1000 ∧ Row n t ∧ t ≠ [] ∧ t.length ≤ 1000 ∧ drawnL done = none ∧
  ∀ M2 j3, DeskS C M2 j j1 j3 [n, d] ps cost (done ++ [(some s, t)]) [] → Kp M M2 j j1 j2 j3 → Post (.dat (.int ((soldL done).length : Nat))) M2
theorem d_Desk_buy (T : Txt K mg) {C : Addr} [DT : DeskT K mg C] : MetOk P w K mg base CX0 lv_Desk_buy C "buy" "Desk.buy" s_Desk_buy ps_Desk_buy (spOf K ps_Desk_buy.length (A_Desk_buy C)) := by
  obtain ⟨fa, fd, hm, F, hb⟩ := DT.m_Desk_buy
  refine ⟨fa, fd, DT.cl, hm, F, hb, fn_mk F sc_Desk_buy fun as M Post hl hA => ?_⟩
  obtain ⟨j, j1, j2, n, d, ps, cost, done, undone, s, t, rfl, hD, hdl, hr, hne, htl, hdn, q⟩ := hA
  show Run (c_Desk_buy P w K mg base _) [some (.mut j), some (.dat (.str s)), some (.dat (tI t))] M _ _
  refine r_cons (s_ifF (t_not (t_val ?_ (fun _ _ => rfl))) ?_)
  · refine x_call (d_is_ticket T) (Nat.le_of_ble_eq_true rfl) rfl ?_ (fun _ => rfl) (fun _ => rfl)
    refine a_cons (x_fld ?_ (fun _ => rfl)) (fun _ => rfl)
    refine x_v rfl (by first | exact Or.inl rfl | exact Or.inr (Or.inl rfl) | exact Or.inr (Or.inr rfl)) ?_
    refine ⟨j, C, _, _, rfl, hD.ob, DT.cl, DT.n_lot, f_lot, ?_⟩
    refine a_cons ?_ (fun _ => rfl)
    refine x_v rfl (by first | exact Or.inl rfl | exact Or.inr (Or.inl rfl) | exact Or.inr (Or.inr rfl)) ?_
    refine a_nil ⟨rfl, n, _, _, rfl, .inl ⟨_, rfl, ok_tI 4 t, fun ds e => by cases e; rw [List.length_map]; exact htl, ?_⟩⟩
    rw [ticket_row hr hne]
    exact ⟨true, rfl, rfl, rfl⟩
  refine r_nil (r_cons (s_ifF (t_cmp ?_ (by rfl)) ?_))
  · refine x_met0 (d_Desk_drawn T) (Nat.le_of_ble_eq_true rfl) ?_ (fun _ => rfl)
    refine x_v rfl (by first | exact Or.inl rfl | exact Or.inr (Or.inl rfl) | exact Or.inr (Or.inr rfl)) ?_
    refine ⟨j, _, rfl, hD.ob, rfl, j, j1, j2, _, ps, cost, done, undone, rfl, hD, by omega, ?_⟩
    refine x_non (c_isnot ⟨?_, rfl⟩)
    unfold drawnD
    rw [hdn]
    rfl
  refine r_nil (r_cons (s_expr ?_ (fun _ => rfl)))
  refine x_met (d_Desk_keep T) (Nat.le_of_ble_eq_true rfl) ?_ (fun _ => rfl) (fun _ => rfl) (fun _ => rfl)
  refine x_v rfl (by first | exact Or.inl rfl | exact Or.inr (Or.inl rfl) | exact Or.inr (Or.inr rfl)) ?_
  refine ⟨j, _, rfl, hD.ob, rfl, ?_⟩
  refine a_cons ?_ (fun _ => rfl)
  refine x_v rfl (by first | exact Or.inl rfl | exact Or.inr (Or.inl rfl) | exact Or.inr (Or.inr rfl)) ?_
  refine a_cons ?_ (fun _ => rfl)
  refine x_v rfl (by first | exact Or.inl rfl | exact Or.inr (Or.inl rfl) | exact Or.inr (Or.inr rfl)) ?_
  refine a_nil ⟨rfl, j, j1, j2, _, ps, cost, done, undone, some s, t, rfl, hD, by omega, fun M2 j3 hD2 hK => ?_⟩
  refine r_one (s_ret (x_bin ?_))
  refine x_blt rfl T.b_len PySem.boot_len ?_ (fun _ => rfl) (fun _ => rfl)
  refine a_cons ?_ (fun _ => rfl)
  refine x_met0 (d_Desk_sold T) (Nat.le_of_ble_eq_true rfl) ?_ (fun _ => rfl)
  refine x_v rfl (by first | exact Or.inl rfl | exact Or.inr (Or.inl rfl) | exact Or.inr (Or.inr rfl)) ?_
  refine ⟨j, _, rfl, hD2.ob, rfl, j, j1, j3, _, ps, cost, _, _, rfl, hD2, by rw [List.length_append]; show done.length + 1 ≤ 1000; omega, ?_⟩
  refine a_nil (ca_len isS_ls ?_)
  rw [sold_snoc, List.length_map, List.length_append]
  refine x_int (b_sub ?_)
  rw [show (((soldL done).length + [(some s, t)].length : Nat) : Int) - 1 = ((soldL done).length : Nat) by show (((soldL done).length + 1 : Nat) : Int) - 1 = _; omega]
  exact fin_same (q M2 j3 hD2 hK)
end
end My

namespace My
open PySem L2 Fx
section
variable {P : Program} {w : World} {K : PySem.W.Frag} {mg : Str → Option Value} {base : Heap}
def A_Desk_till (C : Addr) : ASp := fun as M Post => ∃ (j j1 j2 : Nat) (lt ps : List Int) (cost : Int) (done undone : List Deed), as = [.mut j] ∧ DeskS C M j j1 j2 lt ps cost done undone ∧ done.length ≤ 1000 ∧ (∀ w, drawnL done = some w → w.length ≤ 1000) ∧ 0 < ps.length ∧ 0 ≤ cost ∧ cost ≤ 1000 ∧ Post (.dat (.int (tillL cost ps done))) M
theorem d_Desk_till (T : Txt K mg) {C : Addr} [DT : DeskT K mg C] : MetOk P w K mg base CX0 lv_Desk_till C "till" "Desk.till" s_Desk_till ps_Desk_till (spOf K ps_Desk_till.length (A_Desk_till C)) := by
  obtain ⟨fa, fd, hm, F, hb⟩ := DT.m_Desk_till
  refine ⟨fa, fd, DT.cl, hm, F, hb, fn_mk F sc_Desk_till fun as M Post hl hA => ?_⟩
  obtain ⟨j, j1, j2, lt, ps, cost, done, undone, rfl, hD, hdl, hwl, hps, hc0, hc1, q⟩ := hA
  show Run (c_Desk_till P w K mg base _) [some (.mut j), none, none, none] M _ _
  have sl : (soldL done).length ≤ 1000 := Nat.le_trans (List.length_filter_le _ _) hdl
  refine r_cons ?_
  refine s_st (by first | exact Or.inl rfl | exact Or.inr rfl) (by first | exact Or.inl rfl | exact Or.inr rfl) ?_ (fun _ => rfl)
  refine x_ty rfl T.b_tuple PyProof.Rows.boot_tuple ?_ (fun _ => rfl) (fun _ => rfl)
  refine a_cons ?_ (fun _ => rfl)
  refine x_F (f_lcP [("name", 2), ("ticket", 3)] (fun z : Deed => tI z.2) (fun _ => true) (blkOk_by (by kernel_rfl)) nk_Desk_till.nd (i_seq ?_) (fun _ _ => rfl))
  refine x_met0 (d_Desk_sold T) (Nat.le_of_ble_eq_true rfl) ?_ (fun _ => rfl)
  refine x_v rfl (by first | exact Or.inl rfl | exact Or.inr (Or.inl rfl) | exact Or.inr (Or.inr rfl)) ?_
  refine ⟨j, _, rfl, hD.ob, rfl, j, j1, j2, _, ps, cost, _, _, rfl, hD, hdl, ?_⟩
  refine ⟨_, isS_ls, soldL done, encD, rfl, by omega, fun i e => (by cases e), fun z hz => ?_, ?_⟩
  · refine lt_2 (by first | exact List.mem_cons_self | exact List.mem_cons_of_mem _ List.mem_cons_self | (simp; done)) (by first | exact List.mem_cons_self | exact List.mem_cons_of_mem _ List.mem_cons_self | (simp; done)) (by first | exact Or.inl rfl | exact Or.inr rfl) (by first | exact Or.inl rfl | exact Or.inr rfl) (by first | exact Or.inl rfl | exact Or.inr rfl) (by first | exact Or.inl rfl | exact Or.inr rfl) ?_
    refine ts_nil ⟨fun _ => ?_, fun h => by cases h⟩
    refine x_v rfl (by first | exact Or.inl rfl | exact Or.inr (Or.inl rfl) | exact Or.inr (Or.inr rfl)) ?_
    exact ⟨_, rfl, rfl, rfl, rfl⟩
  refine a_nil (ca_tuple isS_ls ?_)
  rw [List.filter_true', show ((soldL done).map fun z : Deed => tI z.2) = (bookL done).map tI by unfold bookL; rw [List.map_map]; rfl]
  have bl : (bookL done).length = (soldL done).length := List.length_map ..
  refine r_one (s_ret (x_bin (x_bin (x_fld ?_ (fun _ => rfl)))))
  refine x_v rfl (by first | exact Or.inl rfl | exact Or.inr (Or.inl rfl) | exact Or.inr (Or.inr rfl)) ?_
  refine ⟨j, C, _, _, rfl, hD.ob, DT.cl, DT.n_price, f_price, ?_⟩
  refine x_blt rfl T.b_len PySem.boot_len ?_ (fun _ => rfl) (fun _ => rfl)
  refine a_cons ?_ (fun _ => rfl)
  refine x_v rfl (by first | exact Or.inl rfl | exact Or.inr (Or.inl rfl) | exact Or.inr (Or.inr rfl)) ?_
  refine a_nil (ca_len isS_tup ?_)
  rw [List.length_map, bl]
  refine b_mul (.inl ⟨by omega, by omega⟩) ?_
  refine x_if (t_cmp ?_ (by rfl))
  refine x_met0 (d_Desk_drawn T) (Nat.le_of_ble_eq_true rfl) ?_ (fun _ => rfl)
  refine x_v rfl (by first | exact Or.inl rfl | exact Or.inr (Or.inl rfl) | exact Or.inr (Or.inr rfl)) ?_
  refine ⟨j, _, rfl, hD.ob, rfl, j, j1, j2, _, ps, cost, done, undone, rfl, hD, hdl, ?_⟩
  refine x_non (c_is ?_)
  unfold tillL at q
  unfold drawnD
  cases hw : drawnL done with
  | none =>
    rw [hw] at q
    exact ⟨fun _ => x_int (b_sub (fin_same q)), fun h => by cases h⟩
  | some w =>
    rw [hw] at q
    refine ⟨fun h => (by cases h), fun _ => ?_⟩
    refine x_call (d_paid T) (Nat.le_of_ble_eq_true rfl) rfl ?_ (fun _ => rfl) (fun _ => rfl)
    refine a_cons ?_ (fun _ => rfl)
    refine x_v rfl (by first | exact Or.inl rfl | exact Or.inr (Or.inl rfl) | exact Or.inr (Or.inr rfl)) ?_
    refine a_cons ?_ (fun _ => rfl)
    refine x_met0 (d_Desk_drawn T) (Nat.le_of_ble_eq_true rfl) ?_ (fun _ => rfl)
    refine x_v rfl (by first | exact Or.inl rfl | exact Or.inr (Or.inl rfl) | exact Or.inr (Or.inr rfl)) ?_
    refine ⟨j, _, rfl, hD.ob, rfl, j, j1, j2, _, ps, cost, done, undone, rfl, hD, hdl, ?_⟩
    unfold drawnD
    rw [hw]
    refine a_cons (x_fld ?_ (fun _ => rfl)) (fun _ => rfl)
    refine x_v rfl (by first | exact Or.inl rfl | exact Or.inr (Or.inl rfl) | exact Or.inr (Or.inr rfl)) ?_
    refine ⟨j, C, _, _, rfl, hD.ob, DT.cl, DT.n_prizes, f_prizes, ?_⟩
    exact a_nil ⟨rfl, bookL done, w, ps, rfl, by omega, hwl w hw, hps, b_sub (fin_same q)⟩
end
end My

namespace My
open PySem L2 Fx
section
variable {P : Program} {w : World} {K : PySem.W.Frag} {mg : Str → Option Value} {base : Heap}
def A_Desk_names (C : Addr) : ASp := fun as M Post => ∃ (j j1 j2 : Nat) (lt ps : List Int) (cost : Int) (done undone : List Deed), as = [.mut j] ∧ DeskS C M j j1 j2 lt ps cost done undone ∧ done.length ≤ 1000 ∧ Post (.dat (.tup ((namesL done).map D.str))) M
theorem names_len (l : List Str) : ∀ acc : List Str, (l.foldl addN acc).length ≤ acc.length + l.length := by
  induction l with
  | nil => intro acc; exact Nat.le_refl _
  | cons a l ih =>
    intro acc
    have h1 := ih (addN acc a)
    have h2 : (addN acc a).length ≤ acc.length + 1 := by
      unfold addN
      split
      · omega
      · rw [List.length_append]; exact Nat.le_refl _
    rw [List.foldl_cons, List.length_cons]
    omega
theorem inD_strs (s : Str) (l : List Str) : inD (.str s) (l.map D.str) = decide (s ∈ l) := by
  induction l with
  | nil => rfl
  | cons a l ih =>
    have e : inD (.str s) ((a :: l).map D.str) = (eqV (V.str a) (V.str s) || inD (.str s) (l.map D.str)) := rfl
    rw [e, ih]
    have e2 : eqV (V.str a) (V.str s) = decide (a = s) := by simp [eqV, Bool.beq_eq_decide_eq]
    rw [e2, ← Bool.decide_or]
    refine decide_eq_decide.mpr ⟨fun h => ?_, fun h => ?_⟩
    · rcases h with h | h
      · rw [h]; exact List.mem_cons_self
      · exact List.mem_cons_of_mem _ h
    · rcases List.mem_cons.mp h with h | h
      · exact .inl h.symm
      · exact .inr h
theorem names_step {l : List Deed} {i : Nat} {s : Str} {t : List Int} (h : l[i]? = some (some s, t)) : ((l.take (i + 1)).filterMap (·.1)).foldl addN [] = addN (((l.take i).filterMap (·.1)).foldl addN []) s := by
  rw [List.take_add_one, h, List.filterMap_append, List.foldl_append]
  rfl
theorem d_Desk_names (T : Txt K mg) {C : Addr} [DT : DeskT K mg C] : MetOk P w K mg base CX0 lv_Desk_names C "names" "Desk.names" s_Desk_names ps_Desk_names (spOf K ps_Desk_names.length (A_Desk_names C)) := by
  obtain ⟨fa, fd, hm, F, hb⟩ := DT.m_Desk_names
  refine ⟨fa, fd, DT.cl, hm, F, hb, fn_mk F sc_Desk_names fun as M Post hl hA => ?_⟩
  obtain ⟨j, j1, j2, lt, ps, cost, done, undone, rfl, hD, hdl, q⟩ := hA
  show Run (c_Desk_names P w K mg base _) [some (.mut j), none, none, none] M _ _
  have sl : (soldL done).length ≤ 1000 := Nat.le_trans (List.length_filter_le _ _) hdl
  refine r_cons ?_
  refine s_nw (by first | exact Or.inl rfl | exact Or.inr rfl) (by first | exact Or.inl rfl | exact Or.inr rfl) ?_ (fun _ => rfl)
  refine f_lst (a_nil (dats_ex (by decide) ?_))
  have hD' : DeskS C (M ++ [.lst []]) j j1 j2 lt ps cost done undone := ⟨by rw [List.getElem?_append_left (get_lt hD.ob)]; exact hD.ob, by rw [List.getElem?_append_left (get_lt hD.dn)]; exact hD.dn, by rw [List.getElem?_append_left (get_lt hD.un)]; exact hD.un, hD.ne⟩
  refine r_cons (s_for (i_seq ?_) (fun _ _ => rfl))
  refine x_met0 (d_Desk_sold T) (Nat.le_of_ble_eq_true rfl) ?_ (fun _ => rfl)
  refine x_v rfl (by first | exact Or.inl rfl | exact Or.inr (Or.inl rfl) | exact Or.inr (Or.inr rfl)) ?_
  refine ⟨j, _, rfl, hD'.ob, rfl, j, j1, j2, _, ps, cost, _, _, rfl, hD', hdl, ?_⟩
  refine ⟨_, isS_ls, fun i δ M2 => M2 = M ++ [.lst (((((soldL done).take i).filterMap (·.1)).foldl addN []).map D.str)] ∧ ∃ z2 z3, δ = [some (.mut j), some (.mut M.length), z2, z3], ⟨rfl, _, _, rfl⟩, fun i δ M2 _ k e => (by cases e), ?_, ?_⟩
  · rintro i dd δ M2 hi ⟨rfl, z2, z3, rfl⟩
    rw [List.getElem?_map] at hi
    cases hz : (soldL done)[i]? with
    | none => rw [hz] at hi; cases hi
    | some z =>
      rw [hz] at hi
      cases hi
      have hil := get_lt hz
      obtain ⟨zn, zt⟩ := z
      cases zn with
      | none => exact absurd (List.mem_filter.mp (List.mem_of_getElem? hz)).2 (fun h => by cases h)
      | some s =>
        have acl := names_len (((soldL done).take i).filterMap (·.1)) []
        have acl2 : (((soldL done).take i).filterMap (·.1)).length ≤ i := Nat.le_trans (List.length_filterMap_le _ _) (by rw [List.length_take]; omega)
        have st := names_step hz
        generalize hacc : (((soldL done).take i).filterMap (·.1)).foldl addN [] = acc at *
        refine gx_2 (by first | exact Or.inl rfl | exact Or.inr rfl) (by first | exact Or.inl rfl | exact Or.inr rfl) (by first | exact Or.inl rfl | exact Or.inr rfl) (by first | exact Or.inl rfl | exact Or.inr rfl) ?_
        refine r_one (s_if (t_cmp ?_ (by rfl)))
        refine x_v rfl (by first | exact Or.inl rfl | exact Or.inr (Or.inl rfl) | exact Or.inr (Or.inr rfl)) ?_
        refine x_v rfl (by first | exact Or.inl rfl | exact Or.inr (Or.inl rfl) | exact Or.inr (Or.inr rfl)) ?_
        refine c_notin (isS_mut get_push) rfl (by rw [List.all_map]; exact List.all_eq_true.mpr fun _ _ => rfl) ?_
        rw [show inD (nmD (some s, zt).1) (acc.map D.str) = decide (s ∈ acc) from inD_strs s acc]
        refine ⟨fun h => ?_, fun h => ?_⟩
        · have hn : s ∉ acc := by simpa using h
          refine r_one (s_expr ?_ (fun _ => rfl))
          refine x_lm PySem.F.slot_list_append PySem.F.type_list_append ?_ (fun _ => rfl) (fun _ => rfl) rfl (fun _ => rfl) (fun _ => rfl)
          refine x_v rfl (by first | exact Or.inl rfl | exact Or.inr (Or.inl rfl) | exact Or.inr (Or.inr rfl)) ?_
          refine ⟨M.length, _, rfl, get_push, ?_⟩
          refine a_cons ?_ (fun _ => rfl)
          refine x_v rfl (by first | exact Or.inl rfl | exact Or.inr (Or.inl rfl) | exact Or.inr (Or.inr rfl)) ?_
          refine a_nil (me_append get_push (by rw [List.length_map]; have : ([] : List Str).length = 0 := rfl; omega) ?_)
          rw [set_push]
          refine ⟨?_, _, _, rfl⟩
          rw [st]
          unfold addN
          rw [if_neg hn, List.map_append]
          rfl
        · have hn : s ∈ acc := by simpa using h
          refine r_nil ⟨?_, _, _, rfl⟩
          rw [st]
          unfold addN
          rw [if_pos hn]
  rintro δ M2 ⟨rfl, z2, z3, rfl⟩
  rw [List.length_map, List.take_length]
  refine r_one (s_ret ?_)
  refine x_ty rfl T.b_tuple PyProof.Rows.boot_tuple ?_ (fun _ => rfl) (fun _ => rfl)
  refine a_cons ?_ (fun _ => rfl)
  refine x_v rfl (by first | exact Or.inl rfl | exact Or.inr (Or.inl rfl) | exact Or.inr (Or.inr rfl)) ?_
  refine a_nil (ca_tuple (isS_mut get_push) ?_)
  exact fin_dat q
end
end My

namespace My
open PySem L2 Fx
section
variable {P : Program} {w : World} {K : PySem.W.Frag} {mg : Str → Option Value} {base : Heap}
def A_Desk_again (C C5 : Addr) : ASpX := fun as M Post X => ∃ (j j1 j2 : Nat) (lt ps : List Int) (cost : Int) (done undone : List Deed), as = [.mut j] ∧ DeskS C M j j1 j2 lt ps cost done undone ∧ done.length < 1000 ∧ undone.length < 1000 ∧
  (undone = [] → X C5 [] M) ∧ ∀ d z, undone = d ++ [z] → ∀ M2, DeskS C M2 j j1 j2 lt ps cost (done ++ [z]) d → Kp M M2 j j1 j2 j2 → Post (.dat (.str (word z))) M2
theorem d_Desk_again (T : Txt K mg) {C : Addr} [DT : DeskT K mg C] {cs : Nat → Addr} {TE : Addr} {rs : List Nat} [EX : Exs K mg cs TE rs] [T5 : TxtExc K mg "NoBack" (cs 5)] : MetOk P w K mg base (L2.CX P w) lv_Desk_again C "again" "Desk.again" s_Desk_again ps_Desk_again (spOfX K ps_Desk_again.length (A_Desk_again C (cs 5))) := by
  obtain ⟨fa, fd, hm, F, hb⟩ := DT.m_Desk_again
  refine ⟨fa, fd, DT.cl, hm, F, hb, fn_mkX F sc_Desk_again fun as M Post X hl hA => ?_⟩
  obtain ⟨j, j1, j2, lt, ps, cost, done, undone, rfl, hD, hdl, hul, x5, q⟩ := hA
  show RunX (c_Desk_again P w K mg base _) [some (.mut j), none] M _ _ _
  refine rx_if (t_not (t_tru (x_fld ?_ (fun _ => rfl)) (fun _ _ => rfl)))
  refine x_v rfl (by first | exact Or.inl rfl | exact Or.inr (Or.inl rfl) | exact Or.inr (Or.inr rfl)) ?_
  refine ⟨j, C, _, _, rfl, hD.ob, DT.cl, DT.n_undone, f_undone, ?_⟩
  refine ⟨_, ⟨_, hD.un, rfl⟩, fun h => ?_, fun h => ?_⟩
  · refine rx_raiseT T5 rfl (x5 ?_)
    rw [isEmpty_map'] at h
    cases e : undone with
    | nil => rfl
    | cons _ _ => rw [e] at h; cases h
  have hne : undone ≠ [] := fun e => by rw [e] at h; cases h
  obtain ⟨d, z, hdz⟩ := snoc_of hne
  have q2 := q d z hdz
  subst hdz
  obtain ⟨k1, k2⟩ := desk_again hD
  refine rx_run (r_nil (rx_run ?_))
  refine r_cons ?_
  refine s_st (by first | exact Or.inl rfl | exact Or.inr rfl) (by first | exact Or.inl rfl | exact Or.inr rfl) ?_ (fun _ => rfl)
  refine x_lm0 PySem.F.slot_list_pop PySem.F.type_list_pop ?_ (fun _ => rfl) rfl
  refine x_fld ?_ (fun _ => rfl)
  refine x_v rfl (by first | exact Or.inl rfl | exact Or.inr (Or.inl rfl) | exact Or.inr (Or.inr rfl)) ?_
  refine ⟨j, C, _, _, rfl, hD.ob, DT.cl, DT.n_undone, f_undone, ?_⟩
  refine ⟨j2, _, rfl, hD.un, ?_⟩
  refine me_pop (d := encD z) hD.un (by rw [List.map_append, List.length_append]; show _[_ + 1 - 1]? = _; rw [Nat.add_sub_cancel, List.getElem?_append_right (Nat.le_refl _), Nat.sub_self]; rfl) ?_
  rw [List.map_append, show (d.map encD ++ [z].map encD).dropLast = d.map encD from List.dropLast_concat]
  refine r_cons (s_expr ?_ (fun _ => rfl))
  refine x_lm PySem.F.slot_list_append PySem.F.type_list_append ?_ (fun _ => rfl) (fun _ => rfl) rfl (fun _ => rfl) (fun _ => rfl)
  refine x_fld ?_ (fun _ => rfl)
  refine x_v rfl (by first | exact Or.inl rfl | exact Or.inr (Or.inl rfl) | exact Or.inr (Or.inr rfl)) ?_
  refine ⟨j, C, _, _, rfl, by rw [List.getElem?_set_ne (fun e => hD.ne2 e.symm)]; exact hD.ob, DT.cl, DT.n_done, f_done, ?_⟩
  have hun : (M.set j2 (.lst (d.map encD)))[j1]? = some (.lst (done.map encD)) := by rw [List.getElem?_set_ne (fun e => hD.ne e.symm)]; exact hD.dn
  refine ⟨j1, _, rfl, hun, ?_⟩
  refine a_cons ?_ (fun _ => rfl)
  refine x_v rfl (by first | exact Or.inl rfl | exact Or.inr (Or.inl rfl) | exact Or.inr (Or.inr rfl)) ?_
  refine a_nil (me_append hun (by rw [List.length_map]; omega) ?_)
  have q3 := q2 _ k1 k2
  unfold word at q3
  refine r_one (s_ret (x_if (t_cmp (x_ix ?_ (fun _ _ => rfl)) (by rfl))))
  refine x_v rfl (by first | exact Or.inl rfl | exact Or.inr (Or.inl rfl) | exact Or.inr (Or.inr rfl)) ?_
  refine x_int (ix_tup (d := nmD z.1) (atI_at (n := 0) rfl rfl) ?_)
  refine x_non (c_is ?_)
  rw [nm_non]
  refine ⟨fun h => x_str ?_, fun h => x_str ?_⟩
  · rw [if_pos h] at q3
    exact fin_same q3
  · rw [if_neg (by rw [h]; decide)] at q3
    exact fin_same q3
end
end My

namespace My
open PySem L2 Fx
section
variable {P : Program} {w : World} {K : PySem.W.Frag} {mg : Str → Option Value} {base : Heap}
def A_Desk___len__ (C : Addr) : ASp := fun as M Post => ∃ (j j1 j2 : Nat) (lt ps : List Int) (cost : Int) (done undone : List Deed), as = [.mut j] ∧ DeskS C M j j1 j2 lt ps cost done undone ∧ done.length ≤ 1000 ∧ Post (.dat (.int ((soldL done).length : Nat))) M
theorem d_Desk___len__ (T : Txt K mg) {C : Addr} [DT : DeskT K mg C] : MetOk P w K mg base CX0 lv_Desk___len__ C "__len__" "Desk.__len__" s_Desk___len__ ps_Desk___len__ (spOf K ps_Desk___len__.length (A_Desk___len__ C)) := by
  obtain ⟨fa, fd, hm, F, hb⟩ := DT.m_Desk___len__
  refine ⟨fa, fd, DT.cl, hm, F, hb, fn_mk F sc_Desk___len__ fun as M Post hl hA => ?_⟩
  obtain ⟨j, j1, j2, lt, ps, cost, done, undone, rfl, hD, hdl, q⟩ := hA
  show Run (c_Desk___len__ P w K mg base _) [some (.mut j), none, none] M _ _
  refine r_one (s_ret ?_)
  refine x_blt rfl T.b_len PySem.boot_len ?_ (fun _ => rfl) (fun _ => rfl)
  refine a_cons ?_ (fun _ => rfl)
  refine x_F (f_lcP [("name", 1), ("ticket", 2)] (fun z : Deed => nmD z.1) (fun z => z.1.isSome) (blkOk_by (by kernel_rfl)) nk_Desk___len__.nd (i_seq ?_) (fun _ _ => rfl))
  refine x_fld ?_ (fun _ => rfl)
  refine x_v rfl (by first | exact Or.inl rfl | exact Or.inr (Or.inl rfl) | exact Or.inr (Or.inr rfl)) ?_
  refine ⟨j, C, _, _, rfl, hD.ob, DT.cl, DT.n_done, f_done, ?_⟩
  refine ⟨_, isS_mut hD.dn, done, encD, rfl, by omega, fun i e => (by cases e; exact hD.dn), fun z hz => ?_, ?_⟩
  · refine lt_2 (by first | exact List.mem_cons_self | exact List.mem_cons_of_mem _ List.mem_cons_self | (simp; done)) (by first | exact List.mem_cons_self | exact List.mem_cons_of_mem _ List.mem_cons_self | (simp; done)) (by first | exact Or.inl rfl | exact Or.inr rfl) (by first | exact Or.inl rfl | exact Or.inr rfl) (by first | exact Or.inl rfl | exact Or.inr rfl) (by first | exact Or.inl rfl | exact Or.inr rfl) ?_
    refine ts_one (t_cmp ?_ (by rfl))
    refine x_v rfl (by first | exact Or.inl rfl | exact Or.inr (Or.inl rfl) | exact Or.inr (Or.inr rfl)) ?_
    refine x_non (c_isnot ?_)
    rw [nm_non, Option.not_isNone]
    refine ⟨fun h => ?_, fun h => ⟨h, rfl⟩⟩
    refine x_v rfl (by first | exact Or.inl rfl | exact Or.inr (Or.inl rfl) | exact Or.inr (Or.inr rfl)) ?_
    exact ⟨_, rfl, h, rfl, rfl⟩
  refine a_nil (ca_len isS_ls ?_)
  rw [List.length_map]
  exact fin_same q
end
end My

namespace My
open PySem L2 Fx
section
variable {P : Program} {w : World} {K : PySem.W.Frag} {mg : Str → Option Value} {base : Heap}
def A_Desk___eq__ (C : Addr) : ASp := fun as M Post => ∃ (j j1 j2 : Nat) (lt ps : List Int) (cost : Int) (done undone : List Deed) (y : AV), as = [.mut j, y] ∧ DeskS C M j j1 j2 lt ps cost done undone ∧ NmOk done ∧ NmOk undone ∧
  ((∃ (j' j1' j2' : Nat) (lt' ps' : List Int) (cost' : Int) (done' undone' : List Deed), y = .mut j' ∧ DeskS C M j' j1' j2' lt' ps' cost' done' undone' ∧ NmOk done' ∧ NmOk undone' ∧ Post (.dat (.bl (decide (lt = lt' ∧ ps = ps' ∧ cost = cost' ∧ done = done' ∧ undone = undone')))) M) ∨
   ∃ ds, y = .dat (.tup ds) ∧ Post (.dat (.bl false)) M)
theorem d_Desk___eq__ (T : Txt K mg) {C : Addr} [DT : DeskT K mg C] : MetOk P w K mg base CX0 lv_Desk___eq__ C "__eq__" "Desk.__eq__" s_Desk___eq__ ps_Desk___eq__ (spOf K ps_Desk___eq__.length (A_Desk___eq__ C)) := by
  obtain ⟨fa, fd, hm, F, hb⟩ := DT.m_Desk___eq__
  refine ⟨fa, fd, DT.cl, hm, F, hb, fn_mk F sc_Desk___eq__ fun as M Post hl hA => ?_⟩
  obtain ⟨j, j1, j2, lt, ps, cost, done, undone, y, rfl, hD, ok1, ok2, hy⟩ := hA
  rcases hy with ⟨j', j1', j2', lt', ps', cost', done', undone', rfl, hD', ok3, ok4, q⟩ | ⟨ds, rfl, q⟩
  · show Run (c_Desk___eq__ P w K mg base _) [some (.mut j), some (.mut j'), none] M _ _
    refine r_cons (s_ifF (t_not (t_val (x_isiO DT.ce rfl T.b_isinstance rfl DT.gC ?_ (fun _ => rfl)) (fun _ _ => rfl))) ?_)
    · refine x_v rfl (by first | exact Or.inl rfl | exact Or.inr (Or.inl rfl) | exact Or.inr (Or.inr rfl)) ?_
      exact .inl ⟨j', _, rfl, hD'.ob, true, rfl, rfl, rfl⟩
    refine r_nil (r_cons ?_)
    refine s_st (by first | exact Or.inl rfl | exact Or.inr rfl) (by first | exact Or.inl rfl | exact Or.inr rfl) ?_ (fun _ => rfl)
    refine x_tupA (a_cons (x_fld ?_ (fun _ => rfl)) (fun _ => rfl))
    refine x_v rfl (by first | exact Or.inl rfl | exact Or.inr (Or.inl rfl) | exact Or.inr (Or.inr rfl)) ?_
    refine ⟨j, C, _, _, rfl, hD.ob, DT.cl, DT.n_lot, f_lot, ?_⟩
    refine a_cons (x_fld ?_ (fun _ => rfl)) (fun _ => rfl)
    refine x_v rfl (by first | exact Or.inl rfl | exact Or.inr (Or.inl rfl) | exact Or.inr (Or.inr rfl)) ?_
    refine ⟨j, C, _, _, rfl, hD.ob, DT.cl, DT.n_prizes, f_prizes, ?_⟩
    refine a_cons (x_fld ?_ (fun _ => rfl)) (fun _ => rfl)
    refine x_v rfl (by first | exact Or.inl rfl | exact Or.inr (Or.inl rfl) | exact Or.inr (Or.inr rfl)) ?_
    refine ⟨j, C, _, _, rfl, hD.ob, DT.cl, DT.n_price, f_price, ?_⟩
    refine a_cons (x_fld ?_ (fun _ => rfl)) (fun _ => rfl)
    refine x_v rfl (by first | exact Or.inl rfl | exact Or.inr (Or.inl rfl) | exact Or.inr (Or.inr rfl)) ?_
    refine ⟨j, C, _, _, rfl, hD.ob, DT.cl, DT.n_done, f_done, ?_⟩
    refine a_cons (x_fld ?_ (fun _ => rfl)) (fun _ => rfl)
    refine x_v rfl (by first | exact Or.inl rfl | exact Or.inr (Or.inl rfl) | exact Or.inr (Or.inr rfl)) ?_
    refine ⟨j, C, _, _, rfl, hD.ob, DT.cl, DT.n_undone, f_undone, ?_⟩
    refine a_nil ⟨Nat.le_of_ble_eq_true rfl, ?_⟩
    refine r_one (s_ret (x_cmp ?_ (by rfl)))
    refine x_v rfl (by first | exact Or.inl rfl | exact Or.inr (Or.inl rfl) | exact Or.inr (Or.inr rfl)) ?_
    refine x_tupA (a_cons (x_fld ?_ (fun _ => rfl)) (fun _ => rfl))
    refine x_v rfl (by first | exact Or.inl rfl | exact Or.inr (Or.inl rfl) | exact Or.inr (Or.inr rfl)) ?_
    refine ⟨j', C, _, _, rfl, hD'.ob, DT.cl, DT.n_lot, f_lot, ?_⟩
    refine a_cons (x_fld ?_ (fun _ => rfl)) (fun _ => rfl)
    refine x_v rfl (by first | exact Or.inl rfl | exact Or.inr (Or.inl rfl) | exact Or.inr (Or.inr rfl)) ?_
    refine ⟨j', C, _, _, rfl, hD'.ob, DT.cl, DT.n_prizes, f_prizes, ?_⟩
    refine a_cons (x_fld ?_ (fun _ => rfl)) (fun _ => rfl)
    refine x_v rfl (by first | exact Or.inl rfl | exact Or.inr (Or.inl rfl) | exact Or.inr (Or.inr rfl)) ?_
    refine ⟨j', C, _, _, rfl, hD'.ob, DT.cl, DT.n_price, f_price, ?_⟩
    refine a_cons (x_fld ?_ (fun _ => rfl)) (fun _ => rfl)
    refine x_v rfl (by first | exact Or.inl rfl | exact Or.inr (Or.inl rfl) | exact Or.inr (Or.inr rfl)) ?_
    refine ⟨j', C, _, _, rfl, hD'.ob, DT.cl, DT.n_done, f_done, ?_⟩
    refine a_cons (x_fld ?_ (fun _ => rfl)) (fun _ => rfl)
    refine x_v rfl (by first | exact Or.inl rfl | exact Or.inr (Or.inl rfl) | exact Or.inr (Or.inr rfl)) ?_
    refine ⟨j', C, _, _, rfl, hD'.ob, DT.cl, DT.n_undone, f_undone, ?_⟩
    refine a_nil ⟨Nat.le_of_ble_eq_true rfl, ?_⟩
    obtain ⟨d1, e1⟩ := desk_py hD
    obtain ⟨d2, e2⟩ := desk_py hD'
    refine c_eqD d1 d2 (by rw [e1]; exact okD_shaped (ok_desk ok1 ok2) (by decide)) (by rw [e2]; exact okD_shaped (ok_desk ok3 ok4) (by decide)) ?_
    rw [e1, e2, eqv_desk]
    exact fin_same q
  · show Run (c_Desk___eq__ P w K mg base _) [some (.mut j), some (.dat (.tup ds)), none] M _ _
    refine r_cons (s_ifT (t_not (t_val (x_isiO DT.ce rfl T.b_isinstance rfl DT.gC ?_ (fun _ => rfl)) (fun _ _ => rfl))) ?_)
    · refine x_v rfl (by first | exact Or.inl rfl | exact Or.inr (Or.inl rfl) | exact Or.inr (Or.inr rfl)) ?_
      exact .inr ⟨ds, rfl, false, rfl, rfl, rfl⟩
    exact r_one (s_ret (x_bl (fin_same q)))
end
end My

namespace My
open PySem L2 Fx
section
variable {P : Program} {w : World} {K : PySem.W.Frag} {mg : Str → Option Value} {base : Heap}
def A_law_draw : ASp := fun as M Post => ∃ (ns : List Int) (j i : Nat) (m : Int), as = [.scr ns, .mut j, .dat (.int m)] ∧ ns.length ≤ 63 ∧ M[j]? = some (.town i) ∧ M[i]? = some .rests ∧ 0 < m ∧ m ≤ 1000000 ∧ ∀ r : Int, 0 ≤ r → r < m → Post (.dat (.int r)) M
theorem d_law_draw (T : Txt K mg) : DefOk P w K mg base lv_law_draw "_law_draw" s_law_draw ps_law_draw (spOf K ps_law_draw.length A_law_draw) := by
  obtain ⟨fa, fd, hm, F, hb⟩ := T.f_law_draw
  refine ⟨fa, fd, hm, F, hb, fn_mk F sc_law_draw fun as M Post hl hA => ?_⟩
  obtain ⟨ns, j, i, m, rfl, hn, hj, hi, hm, hm2, q⟩ := hA
  have q2 : ∀ r : Int, Fin M Post (.dat (.int (r % m))) M := fun r => fin_same (q _ (Int.emod_nonneg _ (by omega)) (Int.emod_lt_of_pos _ hm))
  show Run (c_law_draw P w K mg base _) [some (.scr ns), some (.mut j), some (.dat (.int m)), none, none, none] M _ _
  have rest2 : ∀ at_ r : Int, 0 ≤ at_ → at_ < 63 → Run (c_law_draw P w K mg base 0) [some (.scr ns), some (.mut j), some (.dat (.int m)), some (.dat (.int at_)), some (.dat (.int r)), none] M ((defBody s_law_draw).drop 3) { nx := fun _ M2 => Fin M Post (.dat .non) M2, rt := Fin M Post } := by
    intro at_ r h0 h1
    repeat (first | refine x_int ?_ | (refine x_v rfl (by first | exact Or.inl rfl | exact Or.inr (Or.inl rfl) | exact Or.inr (Or.inr rfl)) ?_) | (first | refine b_add ?_ | refine b_sub ?_ | refine b_mul (by first | omega | (constructor <;> omega) | exact Or.inl ⟨by omega, by omega⟩ | exact Or.inr ⟨by omega, by omega⟩) ?_ | refine b_div (by first | omega | (constructor <;> omega) | exact Or.inl ⟨by omega, by omega⟩ | exact Or.inr ⟨by omega, by omega⟩) ?_ | refine b_mod (by first | omega | (constructor <;> omega) | exact Or.inl ⟨by omega, by omega⟩ | exact Or.inr ⟨by omega, by omega⟩) ?_ | refine b_strs (by first | omega | (constructor <;> omega) | exact Or.inl ⟨by omega, by omega⟩ | exact Or.inr ⟨by omega, by omega⟩) ?_ | refine b_catT (by first | exact Nat.le_of_ble_eq_true rfl | decide | (simp; done) | (simp <;> omega)) ?_ | refine c_lt ?_ | refine c_le ?_ | refine c_gt ?_ | refine c_ge ?_ | refine c_eqI ?_ | refine c_neI ?_ | refine c_is ?_ | refine c_isnot ?_ | refine c_eqB ?_ | refine c_neB ?_ | refine c_eqS ?_ | refine c_neS ?_ | refine b_iadd ?_ | refine b_isub ?_ | refine b_imul (by first | omega | (constructor <;> omega) | exact Or.inl ⟨by omega, by omega⟩ | exact Or.inr ⟨by omega, by omega⟩) ?_) | refine x_non ?_ | refine x_str ?_ | refine x_bl ?_ | refine x_bin ?_ | refine x_cmp ?_ (by rfl) | refine t_cmp ?_ (by rfl) | refine t_chain ?_ (by with_unfolding_all rfl) | refine x_chain ?_ (by with_unfolding_all rfl) | refine t_not ?_ | refine x_neg ?_ | refine x_if ?_ | refine a_cons ?_ (fun _ => rfl) | refine a_nil ?_ | refine x_tup ?_ | refine x_ix ?_ (fun _ _ => rfl) | refine ix_tup rfl ?_ | refine dats_ex (by first | exact Nat.le_of_ble_eq_true rfl | decide | (simp; done) | (simp <;> omega)) ?_ | refine r_cons ?_ | refine r_nil ?_ | refine s_ret ?_ | refine s_if ?_ | (refine s_st (by first | exact Or.inl rfl | exact Or.inr rfl) (by first | exact Or.inl rfl | exact Or.inr rfl) ?_ (fun _ => rfl)) | (refine s_ag (by first | exact Or.inl rfl | exact Or.inr rfl) (by first | exact Or.inl rfl | exact Or.inr rfl) rfl ?_) | refine s_expr ?_ (fun _ => rfl))
    refine b_pow ⟨by decide, by decide, by decide⟩ ?_
    repeat (first | refine x_int ?_ | (refine x_v rfl (by first | exact Or.inl rfl | exact Or.inr (Or.inl rfl) | exact Or.inr (Or.inr rfl)) ?_) | (first | refine b_add ?_ | refine b_sub ?_ | refine b_mul (by first | omega | (constructor <;> omega) | exact Or.inl ⟨by omega, by omega⟩ | exact Or.inr ⟨by omega, by omega⟩) ?_ | refine b_div (by first | omega | (constructor <;> omega) | exact Or.inl ⟨by omega, by omega⟩ | exact Or.inr ⟨by omega, by omega⟩) ?_ | refine b_mod (by first | omega | (constructor <;> omega) | exact Or.inl ⟨by omega, by omega⟩ | exact Or.inr ⟨by omega, by omega⟩) ?_ | refine b_strs (by first | omega | (constructor <;> omega) | exact Or.inl ⟨by omega, by omega⟩ | exact Or.inr ⟨by omega, by omega⟩) ?_ | refine b_catT (by first | exact Nat.le_of_ble_eq_true rfl | decide | (simp; done) | (simp <;> omega)) ?_ | refine c_lt ?_ | refine c_le ?_ | refine c_gt ?_ | refine c_ge ?_ | refine c_eqI ?_ | refine c_neI ?_ | refine c_is ?_ | refine c_isnot ?_ | refine c_eqB ?_ | refine c_neB ?_ | refine c_eqS ?_ | refine c_neS ?_ | refine b_iadd ?_ | refine b_isub ?_ | refine b_imul (by first | omega | (constructor <;> omega) | exact Or.inl ⟨by omega, by omega⟩ | exact Or.inr ⟨by omega, by omega⟩) ?_) | refine x_non ?_ | refine x_str ?_ | refine x_bl ?_ | refine x_bin ?_ | refine x_cmp ?_ (by rfl) | refine t_cmp ?_ (by rfl) | refine t_chain ?_ (by with_unfolding_all rfl) | refine x_chain ?_ (by with_unfolding_all rfl) | refine t_not ?_ | refine x_neg ?_ | refine x_if ?_ | refine a_cons ?_ (fun _ => rfl) | refine a_nil ?_ | refine x_tup ?_ | refine x_ix ?_ (fun _ _ => rfl) | refine ix_tup rfl ?_ | refine dats_ex (by first | exact Nat.le_of_ble_eq_true rfl | decide | (simp; done) | (simp <;> omega)) ?_ | refine r_cons ?_ | refine r_nil ?_ | refine s_ret ?_ | refine s_if ?_ | (refine s_st (by first | exact Or.inl rfl | exact Or.inr rfl) (by first | exact Or.inl rfl | exact Or.inr rfl) ?_ (fun _ => rfl)) | (refine s_ag (by first | exact Or.inl rfl | exact Or.inr rfl) (by first | exact Or.inl rfl | exact Or.inr rfl) rfl ?_) | refine s_expr ?_ (fun _ => rfl))
    refine ⟨fun h => ?_, fun h => ?_⟩
    · refine r_cons (s_rput ?_ (fun _ => rfl))
      repeat (first | refine x_int ?_ | (refine x_v rfl (by first | exact Or.inl rfl | exact Or.inr (Or.inl rfl) | exact Or.inr (Or.inr rfl)) ?_) | (first | refine b_add ?_ | refine b_sub ?_ | refine b_mul (by first | omega | (constructor <;> omega) | exact Or.inl ⟨by omega, by omega⟩ | exact Or.inr ⟨by omega, by omega⟩) ?_ | refine b_div (by first | omega | (constructor <;> omega) | exact Or.inl ⟨by omega, by omega⟩ | exact Or.inr ⟨by omega, by omega⟩) ?_ | refine b_mod (by first | omega | (constructor <;> omega) | exact Or.inl ⟨by omega, by omega⟩ | exact Or.inr ⟨by omega, by omega⟩) ?_ | refine b_strs (by first | omega | (constructor <;> omega) | exact Or.inl ⟨by omega, by omega⟩ | exact Or.inr ⟨by omega, by omega⟩) ?_ | refine b_catT (by first | exact Nat.le_of_ble_eq_true rfl | decide | (simp; done) | (simp <;> omega)) ?_ | refine c_lt ?_ | refine c_le ?_ | refine c_gt ?_ | refine c_ge ?_ | refine c_eqI ?_ | refine c_neI ?_ | refine c_is ?_ | refine c_isnot ?_ | refine c_eqB ?_ | refine c_neB ?_ | refine c_eqS ?_ | refine c_neS ?_ | refine b_iadd ?_ | refine b_isub ?_ | refine b_imul (by first | omega | (constructor <;> omega) | exact Or.inl ⟨by omega, by omega⟩ | exact Or.inr ⟨by omega, by omega⟩) ?_) | refine x_non ?_ | refine x_str ?_ | refine x_bl ?_ | refine x_bin ?_ | refine x_cmp ?_ (by rfl) | refine t_cmp ?_ (by rfl) | refine t_chain ?_ (by with_unfolding_all rfl) | refine x_chain ?_ (by with_unfolding_all rfl) | refine t_not ?_ | refine x_neg ?_ | refine x_if ?_ | refine a_cons ?_ (fun _ => rfl) | refine a_nil ?_ | refine x_tup ?_ | refine dats_ex (by first | exact Nat.le_of_ble_eq_true rfl | decide | (simp; done) | (simp <;> omega)) ?_ | refine r_cons ?_ | refine r_nil ?_ | refine s_ret ?_ | refine s_if ?_ | (refine s_st (by first | exact Or.inl rfl | exact Or.inr rfl) (by first | exact Or.inl rfl | exact Or.inr rfl) ?_ (fun _ => rfl)) | (refine s_ag (by first | exact Or.inl rfl | exact Or.inr rfl) (by first | exact Or.inl rfl | exact Or.inr rfl) rfl ?_) | refine s_expr ?_ (fun _ => rfl))
      refine x_rests ?_
      repeat (first | refine x_int ?_ | (refine x_v rfl (by first | exact Or.inl rfl | exact Or.inr (Or.inl rfl) | exact Or.inr (Or.inr rfl)) ?_) | (first | refine b_add ?_ | refine b_sub ?_ | refine b_mul (by first | omega | (constructor <;> omega) | exact Or.inl ⟨by omega, by omega⟩ | exact Or.inr ⟨by omega, by omega⟩) ?_ | refine b_div (by first | omega | (constructor <;> omega) | exact Or.inl ⟨by omega, by omega⟩ | exact Or.inr ⟨by omega, by omega⟩) ?_ | refine b_mod (by first | omega | (constructor <;> omega) | exact Or.inl ⟨by omega, by omega⟩ | exact Or.inr ⟨by omega, by omega⟩) ?_ | refine b_strs (by first | omega | (constructor <;> omega) | exact Or.inl ⟨by omega, by omega⟩ | exact Or.inr ⟨by omega, by omega⟩) ?_ | refine b_catT (by first | exact Nat.le_of_ble_eq_true rfl | decide | (simp; done) | (simp <;> omega)) ?_ | refine c_lt ?_ | refine c_le ?_ | refine c_gt ?_ | refine c_ge ?_ | refine c_eqI ?_ | refine c_neI ?_ | refine c_is ?_ | refine c_isnot ?_ | refine c_eqB ?_ | refine c_neB ?_ | refine c_eqS ?_ | refine c_neS ?_ | refine b_iadd ?_ | refine b_isub ?_ | refine b_imul (by first | omega | (constructor <;> omega) | exact Or.inl ⟨by omega, by omega⟩ | exact Or.inr ⟨by omega, by omega⟩) ?_) | refine x_non ?_ | refine x_str ?_ | refine x_bl ?_ | refine x_bin ?_ | refine x_cmp ?_ (by rfl) | refine t_cmp ?_ (by rfl) | refine t_chain ?_ (by with_unfolding_all rfl) | refine x_chain ?_ (by with_unfolding_all rfl) | refine t_not ?_ | refine x_neg ?_ | refine x_if ?_ | refine a_cons ?_ (fun _ => rfl) | refine a_nil ?_ | refine x_tup ?_ | refine x_ix ?_ (fun _ _ => rfl) | refine ix_tup rfl ?_ | refine dats_ex (by first | exact Nat.le_of_ble_eq_true rfl | decide | (simp; done) | (simp <;> omega)) ?_ | refine r_cons ?_ | refine r_nil ?_ | refine s_ret ?_ | refine s_if ?_ | (refine s_st (by first | exact Or.inl rfl | exact Or.inr rfl) (by first | exact Or.inl rfl | exact Or.inr rfl) ?_ (fun _ => rfl)) | (refine s_ag (by first | exact Or.inl rfl | exact Or.inr rfl) (by first | exact Or.inl rfl | exact Or.inr rfl) rfl ?_) | refine s_expr ?_ (fun _ => rfl))
      refine ⟨j, i, rfl, hj, ?_⟩
      repeat (first | refine x_int ?_ | (refine x_v rfl (by first | exact Or.inl rfl | exact Or.inr (Or.inl rfl) | exact Or.inr (Or.inr rfl)) ?_) | (first | refine b_add ?_ | refine b_sub ?_ | refine b_mul (by first | omega | (constructor <;> omega) | exact Or.inl ⟨by omega, by omega⟩ | exact Or.inr ⟨by omega, by omega⟩) ?_ | refine b_div (by first | omega | (constructor <;> omega) | exact Or.inl ⟨by omega, by omega⟩ | exact Or.inr ⟨by omega, by omega⟩) ?_ | refine b_mod (by first | omega | (constructor <;> omega) | exact Or.inl ⟨by omega, by omega⟩ | exact Or.inr ⟨by omega, by omega⟩) ?_ | refine b_strs (by first | omega | (constructor <;> omega) | exact Or.inl ⟨by omega, by omega⟩ | exact Or.inr ⟨by omega, by omega⟩) ?_ | refine b_catT (by first | exact Nat.le_of_ble_eq_true rfl | decide | (simp; done) | (simp <;> omega)) ?_ | refine c_lt ?_ | refine c_le ?_ | refine c_gt ?_ | refine c_ge ?_ | refine c_eqI ?_ | refine c_neI ?_ | refine c_is ?_ | refine c_isnot ?_ | refine c_eqB ?_ | refine c_neB ?_ | refine c_eqS ?_ | refine c_neS ?_ | refine b_iadd ?_ | refine b_isub ?_ | refine b_imul (by first | omega | (constructor <;> omega) | exact Or.inl ⟨by omega, by omega⟩ | exact Or.inr ⟨by omega, by omega⟩) ?_) | refine x_non ?_ | refine x_str ?_ | refine x_bl ?_ | refine x_bin ?_ | refine x_cmp ?_ (by rfl) | refine t_cmp ?_ (by rfl) | refine t_chain ?_ (by with_unfolding_all rfl) | refine x_chain ?_ (by with_unfolding_all rfl) | refine t_not ?_ | refine x_neg ?_ | refine x_if ?_ | refine a_cons ?_ (fun _ => rfl) | refine a_nil ?_ | refine x_tup ?_ | refine x_ix ?_ (fun _ _ => rfl) | refine ix_tup rfl ?_ | refine dats_ex (by first | exact Nat.le_of_ble_eq_true rfl | decide | (simp; done) | (simp <;> omega)) ?_ | refine r_cons ?_ | refine r_nil ?_ | refine s_ret ?_ | refine s_if ?_ | (refine s_st (by first | exact Or.inl rfl | exact Or.inr rfl) (by first | exact Or.inl rfl | exact Or.inr rfl) ?_ (fun _ => rfl)) | (refine s_ag (by first | exact Or.inl rfl | exact Or.inr rfl) (by first | exact Or.inl rfl | exact Or.inr rfl) rfl ?_) | refine s_expr ?_ (fun _ => rfl))
      refine ⟨_, at_, i, rfl, rfl, rfl, hi, h0, h1, ?_⟩
      repeat (first | refine x_int ?_ | (refine x_v rfl (by first | exact Or.inl rfl | exact Or.inr (Or.inl rfl) | exact Or.inr (Or.inr rfl)) ?_) | (first | refine b_add ?_ | refine b_sub ?_ | refine b_mul (by first | omega | (constructor <;> omega) | exact Or.inl ⟨by omega, by omega⟩ | exact Or.inr ⟨by omega, by omega⟩) ?_ | refine b_div (by first | omega | (constructor <;> omega) | exact Or.inl ⟨by omega, by omega⟩ | exact Or.inr ⟨by omega, by omega⟩) ?_ | refine b_mod (by first | omega | (constructor <;> omega) | exact Or.inl ⟨by omega, by omega⟩ | exact Or.inr ⟨by omega, by omega⟩) ?_ | refine b_strs (by first | omega | (constructor <;> omega) | exact Or.inl ⟨by omega, by omega⟩ | exact Or.inr ⟨by omega, by omega⟩) ?_ | refine b_catT (by first | exact Nat.le_of_ble_eq_true rfl | decide | (simp; done) | (simp <;> omega)) ?_ | refine c_lt ?_ | refine c_le ?_ | refine c_gt ?_ | refine c_ge ?_ | refine c_eqI ?_ | refine c_neI ?_ | refine c_is ?_ | refine c_isnot ?_ | refine c_eqB ?_ | refine c_neB ?_ | refine c_eqS ?_ | refine c_neS ?_ | refine b_iadd ?_ | refine b_isub ?_ | refine b_imul (by first | omega | (constructor <;> omega) | exact Or.inl ⟨by omega, by omega⟩ | exact Or.inr ⟨by omega, by omega⟩) ?_) | refine x_non ?_ | refine x_str ?_ | refine x_bl ?_ | refine x_bin ?_ | refine x_cmp ?_ (by rfl) | refine t_cmp ?_ (by rfl) | refine t_chain ?_ (by with_unfolding_all rfl) | refine x_chain ?_ (by with_unfolding_all rfl) | refine t_not ?_ | refine x_neg ?_ | refine x_if ?_ | refine a_cons ?_ (fun _ => rfl) | refine a_nil ?_ | refine x_tup ?_ | refine x_ix ?_ (fun _ _ => rfl) | refine ix_tup rfl ?_ | refine dats_ex (by first | exact Nat.le_of_ble_eq_true rfl | decide | (simp; done) | (simp <;> omega)) ?_ | refine r_cons ?_ | refine r_nil ?_ | refine s_ret ?_ | refine s_if ?_ | (refine s_st (by first | exact Or.inl rfl | exact Or.inr rfl) (by first | exact Or.inl rfl | exact Or.inr rfl) ?_ (fun _ => rfl)) | (refine s_ag (by first | exact Or.inl rfl | exact Or.inr rfl) (by first | exact Or.inl rfl | exact Or.inr rfl) rfl ?_) | refine s_expr ?_ (fun _ => rfl))
      exact q2 r
    · refine r_nil (r_cons ?_)
      refine s_st (by first | exact Or.inl rfl | exact Or.inr rfl) (by first | exact Or.inl rfl | exact Or.inr rfl) ?_ (fun _ => rfl)
      refine x_bin (x_bin ?_)
      refine x_v rfl (by first | exact Or.inl rfl | exact Or.inr (Or.inl rfl) | exact Or.inr (Or.inr rfl)) ?_
      refine x_bin ?_
      refine x_int ?_
      refine x_count ?_
      refine x_v rfl (by first | exact Or.inl rfl | exact Or.inr (Or.inl rfl) | exact Or.inr (Or.inr rfl)) ?_
      refine ⟨j, i, rfl, hj, fun n => ?_⟩
      repeat (first | refine x_int ?_ | (refine x_v rfl (by first | exact Or.inl rfl | exact Or.inr (Or.inl rfl) | exact Or.inr (Or.inr rfl)) ?_) | (first | refine b_add ?_ | refine b_sub ?_ | refine b_mul (by first | omega | (constructor <;> omega) | exact Or.inl ⟨by omega, by omega⟩ | exact Or.inr ⟨by omega, by omega⟩) ?_ | refine b_div (by first | omega | (constructor <;> omega) | exact Or.inl ⟨by omega, by omega⟩ | exact Or.inr ⟨by omega, by omega⟩) ?_ | refine b_mod (by first | omega | (constructor <;> omega) | exact Or.inl ⟨by omega, by omega⟩ | exact Or.inr ⟨by omega, by omega⟩) ?_ | refine b_strs (by first | omega | (constructor <;> omega) | exact Or.inl ⟨by omega, by omega⟩ | exact Or.inr ⟨by omega, by omega⟩) ?_ | refine b_catT (by first | exact Nat.le_of_ble_eq_true rfl | decide | (simp; done) | (simp <;> omega)) ?_ | refine c_lt ?_ | refine c_le ?_ | refine c_gt ?_ | refine c_ge ?_ | refine c_eqI ?_ | refine c_neI ?_ | refine c_is ?_ | refine c_isnot ?_ | refine c_eqB ?_ | refine c_neB ?_ | refine c_eqS ?_ | refine c_neS ?_ | refine b_iadd ?_ | refine b_isub ?_ | refine b_imul (by first | omega | (constructor <;> omega) | exact Or.inl ⟨by omega, by omega⟩ | exact Or.inr ⟨by omega, by omega⟩) ?_) | refine x_non ?_ | refine x_str ?_ | refine x_bl ?_ | refine x_bin ?_ | refine x_cmp ?_ (by rfl) | refine t_cmp ?_ (by rfl) | refine t_chain ?_ (by with_unfolding_all rfl) | refine x_chain ?_ (by with_unfolding_all rfl) | refine t_not ?_ | refine x_neg ?_ | refine x_if ?_ | refine a_cons ?_ (fun _ => rfl) | refine a_nil ?_ | refine x_tup ?_ | refine x_ix ?_ (fun _ _ => rfl) | refine ix_tup rfl ?_ | refine dats_ex (by first | exact Nat.le_of_ble_eq_true rfl | decide | (simp; done) | (simp <;> omega)) ?_ | refine r_cons ?_ | refine r_nil ?_ | refine s_ret ?_ | refine s_if ?_ | (refine s_st (by first | exact Or.inl rfl | exact Or.inr rfl) (by first | exact Or.inl rfl | exact Or.inr rfl) ?_ (fun _ => rfl)) | (refine s_ag (by first | exact Or.inl rfl | exact Or.inr rfl) (by first | exact Or.inl rfl | exact Or.inr rfl) rfl ?_) | refine s_expr ?_ (fun _ => rfl))
      have b0 : 0 ≤ (r + 104729 * n) % 4294967291 := Int.emod_nonneg _ (by decide)
      have b1 : (r + 104729 * n) % 4294967291 < 4294967291 := Int.emod_lt_of_pos _ (by decide)
      generalize (r + 104729 * n) % 4294967291 = num at b0 b1
      refine b_pow ⟨by decide, by decide, by omega⟩ ?_
      repeat (first | refine x_int ?_ | (refine x_v rfl (by first | exact Or.inl rfl | exact Or.inr (Or.inl rfl) | exact Or.inr (Or.inr rfl)) ?_) | (first | refine b_add ?_ | refine b_sub ?_ | refine b_mul (by first | omega | (constructor <;> omega) | exact Or.inl ⟨by omega, by omega⟩ | exact Or.inr ⟨by omega, by omega⟩) ?_ | refine b_div (by first | omega | (constructor <;> omega) | exact Or.inl ⟨by omega, by omega⟩ | exact Or.inr ⟨by omega, by omega⟩) ?_ | refine b_mod (by first | omega | (constructor <;> omega) | exact Or.inl ⟨by omega, by omega⟩ | exact Or.inr ⟨by omega, by omega⟩) ?_ | refine b_strs (by first | omega | (constructor <;> omega) | exact Or.inl ⟨by omega, by omega⟩ | exact Or.inr ⟨by omega, by omega⟩) ?_ | refine b_catT (by first | exact Nat.le_of_ble_eq_true rfl | decide | (simp; done) | (simp <;> omega)) ?_ | refine c_lt ?_ | refine c_le ?_ | refine c_gt ?_ | refine c_ge ?_ | refine c_eqI ?_ | refine c_neI ?_ | refine c_is ?_ | refine c_isnot ?_ | refine c_eqB ?_ | refine c_neB ?_ | refine c_eqS ?_ | refine c_neS ?_ | refine b_iadd ?_ | refine b_isub ?_ | refine b_imul (by first | omega | (constructor <;> omega) | exact Or.inl ⟨by omega, by omega⟩ | exact Or.inr ⟨by omega, by omega⟩) ?_) | refine x_non ?_ | refine x_str ?_ | refine x_bl ?_ | refine x_bin ?_ | refine x_cmp ?_ (by rfl) | refine t_cmp ?_ (by rfl) | refine t_chain ?_ (by with_unfolding_all rfl) | refine x_chain ?_ (by with_unfolding_all rfl) | refine t_not ?_ | refine x_neg ?_ | refine x_if ?_ | refine a_cons ?_ (fun _ => rfl) | refine a_nil ?_ | refine x_tup ?_ | refine x_ix ?_ (fun _ _ => rfl) | refine ix_tup rfl ?_ | refine dats_ex (by first | exact Nat.le_of_ble_eq_true rfl | decide | (simp; done) | (simp <;> omega)) ?_ | refine r_cons ?_ | refine r_nil ?_ | refine s_ret ?_ | refine s_if ?_ | (refine s_st (by first | exact Or.inl rfl | exact Or.inr rfl) (by first | exact Or.inl rfl | exact Or.inr rfl) ?_ (fun _ => rfl)) | (refine s_ag (by first | exact Or.inl rfl | exact Or.inr rfl) (by first | exact Or.inl rfl | exact Or.inr rfl) rfl ?_) | refine s_expr ?_ (fun _ => rfl))
      have b2 : 0 ≤ num ^ (5 : Int).toNat % 4294967279 := Int.emod_nonneg _ (by decide)
      have b3 : num ^ (5 : Int).toNat % 4294967279 < 4294967279 := Int.emod_lt_of_pos _ (by decide)
      generalize num ^ (5 : Int).toNat % 4294967279 = num2 at b2 b3
      repeat (first | refine x_int ?_ | (refine x_v rfl (by first | exact Or.inl rfl | exact Or.inr (Or.inl rfl) | exact Or.inr (Or.inr rfl)) ?_) | (first | refine b_add ?_ | refine b_sub ?_ | refine b_mul (by first | omega | (constructor <;> omega) | exact Or.inl ⟨by omega, by omega⟩ | exact Or.inr ⟨by omega, by omega⟩) ?_ | refine b_div (by first | omega | (constructor <;> omega) | exact Or.inl ⟨by omega, by omega⟩ | exact Or.inr ⟨by omega, by omega⟩) ?_ | refine b_mod (by first | omega | (constructor <;> omega) | exact Or.inl ⟨by omega, by omega⟩ | exact Or.inr ⟨by omega, by omega⟩) ?_ | refine b_strs (by first | omega | (constructor <;> omega) | exact Or.inl ⟨by omega, by omega⟩ | exact Or.inr ⟨by omega, by omega⟩) ?_ | refine b_catT (by first | exact Nat.le_of_ble_eq_true rfl | decide | (simp; done) | (simp <;> omega)) ?_ | refine c_lt ?_ | refine c_le ?_ | refine c_gt ?_ | refine c_ge ?_ | refine c_eqI ?_ | refine c_neI ?_ | refine c_is ?_ | refine c_isnot ?_ | refine c_eqB ?_ | refine c_neB ?_ | refine c_eqS ?_ | refine c_neS ?_ | refine b_iadd ?_ | refine b_isub ?_ | refine b_imul (by first | omega | (constructor <;> omega) | exact Or.inl ⟨by omega, by omega⟩ | exact Or.inr ⟨by omega, by omega⟩) ?_) | refine x_non ?_ | refine x_str ?_ | refine x_bl ?_ | refine x_bin ?_ | refine x_cmp ?_ (by rfl) | refine t_cmp ?_ (by rfl) | refine t_chain ?_ (by with_unfolding_all rfl) | refine x_chain ?_ (by with_unfolding_all rfl) | refine t_not ?_ | refine x_neg ?_ | refine x_if ?_ | refine a_cons ?_ (fun _ => rfl) | refine a_nil ?_ | refine x_tup ?_ | refine x_ix ?_ (fun _ _ => rfl) | refine ix_tup rfl ?_ | refine dats_ex (by first | exact Nat.le_of_ble_eq_true rfl | decide | (simp; done) | (simp <;> omega)) ?_ | refine r_cons ?_ | refine r_nil ?_ | refine s_ret ?_ | refine s_if ?_ | (refine s_st (by first | exact Or.inl rfl | exact Or.inr rfl) (by first | exact Or.inl rfl | exact Or.inr rfl) ?_ (fun _ => rfl)) | (refine s_ag (by first | exact Or.inl rfl | exact Or.inr rfl) (by first | exact Or.inl rfl | exact Or.inr rfl) rfl ?_) | refine s_expr ?_ (fun _ => rfl))
      exact q2 _
  have rest1 : ∀ at_ : Int, 0 ≤ at_ → at_ < 63 → (ns ≠ [] → at_ < ns.length) → Run (c_law_draw P w K mg base 0) [some (.scr ns), some (.mut j), some (.dat (.int m)), some (.dat (.int at_)), none, none] M ((defBody s_law_draw).drop 2) { nx := fun _ M2 => Fin M Post (.dat .non) M2, rt := Fin M Post } := by
    intro at_ h0 h1 h2
    refine r_cons ?_
    refine s_st (by first | exact Or.inl rfl | exact Or.inr rfl) (by first | exact Or.inl rfl | exact Or.inr rfl) ?_ (fun _ => rfl)
    refine x_rget (x_rests ?_) (fun X => ⟨rfl, rfl, rfl, rfl⟩)
    refine x_v rfl (by first | exact Or.inl rfl | exact Or.inr (Or.inl rfl) | exact Or.inr (Or.inr rfl)) ?_
    refine ⟨j, i, rfl, hj, i, rfl, hi, ?_⟩
    refine x_v rfl (by first | exact Or.inl rfl | exact Or.inr (Or.inl rfl) | exact Or.inr (Or.inr rfl)) ?_
    refine x_if (t_tru ?_ (fun _ _ => rfl))
    refine x_v rfl (by first | exact Or.inl rfl | exact Or.inr (Or.inl rfl) | exact Or.inr (Or.inr rfl)) ?_
    refine ⟨!ns.isEmpty, rfl, fun h => ?_, fun h => ?_⟩
    · have hne : ns ≠ [] := by
        intro e
        rw [e] at h
        cases h
      refine x_ixScr ?_ (fun _ _ => rfl)
      refine x_v rfl (by first | exact Or.inl rfl | exact Or.inr (Or.inl rfl) | exact Or.inr (Or.inr rfl)) ?_
      refine x_v rfl (by first | exact Or.inl rfl | exact Or.inr (Or.inl rfl) | exact Or.inr (Or.inr rfl)) ?_
      have hlt : at_.toNat < ns.length := by have := h2 hne; omega
      refine ⟨ns, at_, ns[at_.toNat], rfl, rfl, ?_, at_, _, rfl, rfl, hi, fun r => rest2 at_ r h0 h1⟩
      have e := atI_nat (List.getElem?_eq_getElem hlt)
      rw [Int.toNat_of_nonneg h0] at e
      exact e
    · refine x_int ?_
      exact ⟨at_, _, rfl, rfl, hi, fun r => rest2 at_ r h0 h1⟩
  refine r_cons (s_count ?_ (fun _ => rfl))
  refine x_bin (x_count ?_)
  refine x_v rfl (by first | exact Or.inl rfl | exact Or.inr (Or.inl rfl) | exact Or.inr (Or.inr rfl)) ?_
  refine ⟨j, i, rfl, hj, fun n => ?_⟩
  repeat (first | refine x_int ?_ | (refine x_v rfl (by first | exact Or.inl rfl | exact Or.inr (Or.inl rfl) | exact Or.inr (Or.inr rfl)) ?_) | (first | refine b_add ?_ | refine b_sub ?_ | refine b_mul (by first | omega | (constructor <;> omega) | exact Or.inl ⟨by omega, by omega⟩ | exact Or.inr ⟨by omega, by omega⟩) ?_ | refine b_div (by first | omega | (constructor <;> omega) | exact Or.inl ⟨by omega, by omega⟩ | exact Or.inr ⟨by omega, by omega⟩) ?_ | refine b_mod (by first | omega | (constructor <;> omega) | exact Or.inl ⟨by omega, by omega⟩ | exact Or.inr ⟨by omega, by omega⟩) ?_ | refine b_strs (by first | omega | (constructor <;> omega) | exact Or.inl ⟨by omega, by omega⟩ | exact Or.inr ⟨by omega, by omega⟩) ?_ | refine b_catT (by first | exact Nat.le_of_ble_eq_true rfl | decide | (simp; done) | (simp <;> omega)) ?_ | refine c_lt ?_ | refine c_le ?_ | refine c_gt ?_ | refine c_ge ?_ | refine c_eqI ?_ | refine c_neI ?_ | refine c_is ?_ | refine c_isnot ?_ | refine c_eqB ?_ | refine c_neB ?_ | refine c_eqS ?_ | refine c_neS ?_ | refine b_iadd ?_ | refine b_isub ?_ | refine b_imul (by first | omega | (constructor <;> omega) | exact Or.inl ⟨by omega, by omega⟩ | exact Or.inr ⟨by omega, by omega⟩) ?_) | refine x_non ?_ | refine x_str ?_ | refine x_bl ?_ | refine x_bin ?_ | refine x_cmp ?_ (by rfl) | refine t_cmp ?_ (by rfl) | refine t_chain ?_ (by with_unfolding_all rfl) | refine x_chain ?_ (by with_unfolding_all rfl) | refine t_not ?_ | refine x_neg ?_ | refine x_if ?_ | refine a_cons ?_ (fun _ => rfl) | refine a_nil ?_ | refine x_tup ?_ | refine x_ix ?_ (fun _ _ => rfl) | refine ix_tup rfl ?_ | refine dats_ex (by first | exact Nat.le_of_ble_eq_true rfl | decide | (simp; done) | (simp <;> omega)) ?_ | refine r_cons ?_ | refine r_nil ?_ | refine s_ret ?_ | refine s_if ?_ | (refine s_st (by first | exact Or.inl rfl | exact Or.inr rfl) (by first | exact Or.inl rfl | exact Or.inr rfl) ?_ (fun _ => rfl)) | (refine s_ag (by first | exact Or.inl rfl | exact Or.inr rfl) (by first | exact Or.inl rfl | exact Or.inr rfl) rfl ?_) | refine s_expr ?_ (fun _ => rfl))
  refine ⟨n + 1, j, i, rfl, rfl, hj, ?_⟩
  refine r_cons ?_
  refine s_st (by first | exact Or.inl rfl | exact Or.inr rfl) (by first | exact Or.inl rfl | exact Or.inr rfl) ?_ (fun _ => rfl)
  refine x_if (t_tru ?_ (fun _ _ => rfl))
  refine x_v rfl (by first | exact Or.inl rfl | exact Or.inr (Or.inl rfl) | exact Or.inr (Or.inr rfl)) ?_
  refine ⟨!ns.isEmpty, rfl, fun h => ?_, fun h => ?_⟩
  · have hlen : 0 < ns.length := by
      cases ns with
      | nil => cases h
      | cons a r => exact Nat.succ_pos _
    refine x_bin (x_count ?_)
    refine x_v rfl (by first | exact Or.inl rfl | exact Or.inr (Or.inl rfl) | exact Or.inr (Or.inr rfl)) ?_
    refine ⟨j, i, rfl, hj, fun n2 => ?_⟩
    refine x_blt rfl T.b_len PySem.boot_len ?_ (fun _ => rfl) (fun _ => rfl)
    repeat (first | refine x_int ?_ | (refine x_v rfl (by first | exact Or.inl rfl | exact Or.inr (Or.inl rfl) | exact Or.inr (Or.inr rfl)) ?_) | (first | refine b_add ?_ | refine b_sub ?_ | refine b_mul (by first | omega | (constructor <;> omega) | exact Or.inl ⟨by omega, by omega⟩ | exact Or.inr ⟨by omega, by omega⟩) ?_ | refine b_div (by first | omega | (constructor <;> omega) | exact Or.inl ⟨by omega, by omega⟩ | exact Or.inr ⟨by omega, by omega⟩) ?_ | refine b_mod (by first | omega | (constructor <;> omega) | exact Or.inl ⟨by omega, by omega⟩ | exact Or.inr ⟨by omega, by omega⟩) ?_ | refine b_strs (by first | omega | (constructor <;> omega) | exact Or.inl ⟨by omega, by omega⟩ | exact Or.inr ⟨by omega, by omega⟩) ?_ | refine b_catT (by first | exact Nat.le_of_ble_eq_true rfl | decide | (simp; done) | (simp <;> omega)) ?_ | refine c_lt ?_ | refine c_le ?_ | refine c_gt ?_ | refine c_ge ?_ | refine c_eqI ?_ | refine c_neI ?_ | refine c_is ?_ | refine c_isnot ?_ | refine c_eqB ?_ | refine c_neB ?_ | refine c_eqS ?_ | refine c_neS ?_ | refine b_iadd ?_ | refine b_isub ?_ | refine b_imul (by first | omega | (constructor <;> omega) | exact Or.inl ⟨by omega, by omega⟩ | exact Or.inr ⟨by omega, by omega⟩) ?_) | refine x_non ?_ | refine x_str ?_ | refine x_bl ?_ | refine x_bin ?_ | refine x_cmp ?_ (by rfl) | refine t_cmp ?_ (by rfl) | refine t_chain ?_ (by with_unfolding_all rfl) | refine x_chain ?_ (by with_unfolding_all rfl) | refine t_not ?_ | refine x_neg ?_ | refine x_if ?_ | refine a_cons ?_ (fun _ => rfl) | refine a_nil ?_ | refine x_tup ?_ | refine x_ix ?_ (fun _ _ => rfl) | refine ix_tup rfl ?_ | refine dats_ex (by first | exact Nat.le_of_ble_eq_true rfl | decide | (simp; done) | (simp <;> omega)) ?_ | refine r_cons ?_ | refine r_nil ?_ | refine s_ret ?_ | refine s_if ?_ | (refine s_st (by first | exact Or.inl rfl | exact Or.inr rfl) (by first | exact Or.inl rfl | exact Or.inr rfl) ?_ (fun _ => rfl)) | (refine s_ag (by first | exact Or.inl rfl | exact Or.inr rfl) (by first | exact Or.inl rfl | exact Or.inr rfl) rfl ?_) | refine s_expr ?_ (fun _ => rfl))
    refine ca_lenScr ?_
    have hp : (0 : Int) < (ns.length : Int) := by omega
    refine b_mod hp ?_
    have hle : (ns.length : Int) ≤ 63 := by omega
    exact rest1 _ (Int.emod_nonneg _ (Int.ne_of_gt hp)) (Int.lt_of_lt_of_le (Int.emod_lt_of_pos n2 hp) hle) (fun _ => Int.emod_lt_of_pos _ hp)
  · have hlen : ns = [] := by
      cases ns with
      | nil => rfl
      | cons a r => cases h
    refine x_int ?_
    exact rest1 0 (by omega) (by omega) (fun e => absurd hlen e)
end
end My

namespace My
open PySem L2 Fx
section
variable {P : Program} {w : World} {K : PySem.W.Frag} {mg : Str → Option Value} {base : Heap}
def A_law_begun : ASp := fun as M Post => as = [] ∧ Post (.mut M.length) (M ++ [.town (M.length + 1), .rests])
theorem d_law_begun (T : Txt K mg) : DefOk P w K mg base lv_law_begun "_law_begun" s_law_begun [] (spOf K 0 A_law_begun) := by
  obtain ⟨fa, fd, hm, F, hb⟩ := T.f_law_begun
  refine ⟨fa, fd, hm, F, hb, fn_mk F sc_law_begun fun as M Post hl hA => ?_⟩
  obtain ⟨rfl, q⟩ := hA
  show Run (c_law_begun P w K mg base _) [] M _ _
  refine r_one (s_ret (x_begun (fin_same q)))
end
end My

namespace My
open PySem L2 Fx
section
variable {P : Program} {w : World} {K : PySem.W.Frag} {mg : Str → Option Value} {base : Heap}
def A_law_a_lot : ASp := fun as M Post => ∃ (ns : List Int) (j i : Nat) (g : Int), as = [.scr ns, .mut j, .dat (.int g)] ∧ ns.length ≤ 63 ∧ M[j]? = some (.town i) ∧ M[i]? = some .rests ∧ 0 < g ∧ g ≤ 1000 ∧
  ∀ m d : Int, 1 ≤ d → d ≤ m → m ≤ g → Post (.dat (tI [m, d])) M
theorem d_law_a_lot (T : Txt K mg) : DefOk P w K mg base lv_law_a_lot "_law_a_lot" s_law_a_lot ps_law_a_lot (spOf K ps_law_a_lot.length A_law_a_lot) := by
  obtain ⟨fa, fd, hm, F, hb⟩ := T.f_law_a_lot
  refine ⟨fa, fd, hm, F, hb, fn_mk F sc_law_a_lot fun as M Post hl hA => ?_⟩
  obtain ⟨ns, j, i, g, rfl, hn, hj, hi, hg, hg2, q⟩ := hA
  show Run (c_law_a_lot P w K mg base _) [some (.scr ns), some (.mut j), some (.dat (.int g)), none] M _ _
  repeat (first | refine x_int ?_ | (refine x_v rfl (by first | exact Or.inl rfl | exact Or.inr (Or.inl rfl) | exact Or.inr (Or.inr rfl)) ?_) | (first | refine b_add ?_ | refine b_sub ?_ | refine b_mul (by first | omega | (constructor <;> omega) | exact Or.inl ⟨by omega, by omega⟩ | exact Or.inr ⟨by omega, by omega⟩) ?_ | refine b_div (by first | omega | (constructor <;> omega) | exact Or.inl ⟨by omega, by omega⟩ | exact Or.inr ⟨by omega, by omega⟩) ?_ | refine b_mod (by first | omega | (constructor <;> omega) | exact Or.inl ⟨by omega, by omega⟩ | exact Or.inr ⟨by omega, by omega⟩) ?_ | refine b_strs (by first | omega | (constructor <;> omega) | exact Or.inl ⟨by omega, by omega⟩ | exact Or.inr ⟨by omega, by omega⟩) ?_ | refine b_catT (by first | exact Nat.le_of_ble_eq_true rfl | decide | (simp; done) | (simp <;> omega)) ?_ | refine c_lt ?_ | refine c_le ?_ | refine c_gt ?_ | refine c_ge ?_ | refine c_eqI ?_ | refine c_neI ?_ | refine c_is ?_ | refine c_isnot ?_ | refine c_eqB ?_ | refine c_neB ?_ | refine c_eqS ?_ | refine c_neS ?_ | refine b_iadd ?_ | refine b_isub ?_ | refine b_imul (by first | omega | (constructor <;> omega) | exact Or.inl ⟨by omega, by omega⟩ | exact Or.inr ⟨by omega, by omega⟩) ?_) | refine x_non ?_ | refine x_str ?_ | refine x_bl ?_ | refine x_bin ?_ | refine x_cmp ?_ (by rfl) | refine t_cmp ?_ (by rfl) | refine t_chain ?_ (by with_unfolding_all rfl) | refine x_chain ?_ (by with_unfolding_all rfl) | refine t_not ?_ | refine x_neg ?_ | refine x_if ?_ | refine a_cons ?_ (fun _ => rfl) | refine a_nil ?_ | refine x_tup ?_ | refine x_ix ?_ (fun _ _ => rfl) | refine ix_tup rfl ?_ | refine dats_ex (by first | exact Nat.le_of_ble_eq_true rfl | decide | (simp; done) | (simp <;> omega)) ?_ | refine r_cons ?_ | refine r_nil ?_ | refine s_ret ?_ | refine s_if ?_ | (refine s_st (by first | exact Or.inl rfl | exact Or.inr rfl) (by first | exact Or.inl rfl | exact Or.inr rfl) ?_ (fun _ => rfl)) | (refine s_ag (by first | exact Or.inl rfl | exact Or.inr rfl) (by first | exact Or.inl rfl | exact Or.inr rfl) rfl ?_) | refine s_expr ?_ (fun _ => rfl))
  refine x_call (d_law_draw T) (Nat.le_of_ble_eq_true rfl) rfl ?_ (fun _ => rfl) (fun _ => rfl)
  repeat (first | refine x_int ?_ | (refine x_v rfl (by first | exact Or.inl rfl | exact Or.inr (Or.inl rfl) | exact Or.inr (Or.inr rfl)) ?_) | (first | refine b_add ?_ | refine b_sub ?_ | refine b_mul (by first | omega | (constructor <;> omega) | exact Or.inl ⟨by omega, by omega⟩ | exact Or.inr ⟨by omega, by omega⟩) ?_ | refine b_div (by first | omega | (constructor <;> omega) | exact Or.inl ⟨by omega, by omega⟩ | exact Or.inr ⟨by omega, by omega⟩) ?_ | refine b_mod (by first | omega | (constructor <;> omega) | exact Or.inl ⟨by omega, by omega⟩ | exact Or.inr ⟨by omega, by omega⟩) ?_ | refine b_strs (by first | omega | (constructor <;> omega) | exact Or.inl ⟨by omega, by omega⟩ | exact Or.inr ⟨by omega, by omega⟩) ?_ | refine b_catT (by first | exact Nat.le_of_ble_eq_true rfl | decide | (simp; done) | (simp <;> omega)) ?_ | refine c_lt ?_ | refine c_le ?_ | refine c_gt ?_ | refine c_ge ?_ | refine c_eqI ?_ | refine c_neI ?_ | refine c_is ?_ | refine c_isnot ?_ | refine c_eqB ?_ | refine c_neB ?_ | refine c_eqS ?_ | refine c_neS ?_ | refine b_iadd ?_ | refine b_isub ?_ | refine b_imul (by first | omega | (constructor <;> omega) | exact Or.inl ⟨by omega, by omega⟩ | exact Or.inr ⟨by omega, by omega⟩) ?_) | refine x_non ?_ | refine x_str ?_ | refine x_bl ?_ | refine x_bin ?_ | refine x_cmp ?_ (by rfl) | refine t_cmp ?_ (by rfl) | refine t_chain ?_ (by with_unfolding_all rfl) | refine x_chain ?_ (by with_unfolding_all rfl) | refine t_not ?_ | refine x_neg ?_ | refine x_if ?_ | refine a_cons ?_ (fun _ => rfl) | refine a_nil ?_ | refine x_tup ?_ | refine x_ix ?_ (fun _ _ => rfl) | refine ix_tup rfl ?_ | refine dats_ex (by first | exact Nat.le_of_ble_eq_true rfl | decide | (simp; done) | (simp <;> omega)) ?_ | refine r_cons ?_ | refine r_nil ?_ | refine s_ret ?_ | refine s_if ?_ | (refine s_st (by first | exact Or.inl rfl | exact Or.inr rfl) (by first | exact Or.inl rfl | exact Or.inr rfl) ?_ (fun _ => rfl)) | (refine s_ag (by first | exact Or.inl rfl | exact Or.inr rfl) (by first | exact Or.inl rfl | exact Or.inr rfl) rfl ?_) | refine s_expr ?_ (fun _ => rfl))
  refine ⟨rfl, ns, j, i, g, rfl, hn, hj, hi, hg, by omega, fun r h0 h1 => ?_⟩
  repeat (first | refine x_int ?_ | (refine x_v rfl (by first | exact Or.inl rfl | exact Or.inr (Or.inl rfl) | exact Or.inr (Or.inr rfl)) ?_) | (first | refine b_add ?_ | refine b_sub ?_ | refine b_mul (by first | omega | (constructor <;> omega) | exact Or.inl ⟨by omega, by omega⟩ | exact Or.inr ⟨by omega, by omega⟩) ?_ | refine b_div (by first | omega | (constructor <;> omega) | exact Or.inl ⟨by omega, by omega⟩ | exact Or.inr ⟨by omega, by omega⟩) ?_ | refine b_mod (by first | omega | (constructor <;> omega) | exact Or.inl ⟨by omega, by omega⟩ | exact Or.inr ⟨by omega, by omega⟩) ?_ | refine b_strs (by first | omega | (constructor <;> omega) | exact Or.inl ⟨by omega, by omega⟩ | exact Or.inr ⟨by omega, by omega⟩) ?_ | refine b_catT (by first | exact Nat.le_of_ble_eq_true rfl | decide | (simp; done) | (simp <;> omega)) ?_ | refine c_lt ?_ | refine c_le ?_ | refine c_gt ?_ | refine c_ge ?_ | refine c_eqI ?_ | refine c_neI ?_ | refine c_is ?_ | refine c_isnot ?_ | refine c_eqB ?_ | refine c_neB ?_ | refine c_eqS ?_ | refine c_neS ?_ | refine b_iadd ?_ | refine b_isub ?_ | refine b_imul (by first | omega | (constructor <;> omega) | exact Or.inl ⟨by omega, by omega⟩ | exact Or.inr ⟨by omega, by omega⟩) ?_) | refine x_non ?_ | refine x_str ?_ | refine x_bl ?_ | refine x_bin ?_ | refine x_cmp ?_ (by rfl) | refine t_cmp ?_ (by rfl) | refine t_chain ?_ (by with_unfolding_all rfl) | refine x_chain ?_ (by with_unfolding_all rfl) | refine t_not ?_ | refine x_neg ?_ | refine x_if ?_ | refine a_cons ?_ (fun _ => rfl) | refine a_nil ?_ | refine x_tup ?_ | refine x_ix ?_ (fun _ _ => rfl) | refine ix_tup rfl ?_ | refine dats_ex (by first | exact Nat.le_of_ble_eq_true rfl | decide | (simp; done) | (simp <;> omega)) ?_ | refine r_cons ?_ | refine r_nil ?_ | refine s_ret ?_ | refine s_if ?_ | (refine s_st (by first | exact Or.inl rfl | exact Or.inr rfl) (by first | exact Or.inl rfl | exact Or.inr rfl) ?_ (fun _ => rfl)) | (refine s_ag (by first | exact Or.inl rfl | exact Or.inr rfl) (by first | exact Or.inl rfl | exact Or.inr rfl) rfl ?_) | refine s_expr ?_ (fun _ => rfl))
  refine x_call (d_law_draw T) (Nat.le_of_ble_eq_true rfl) rfl ?_ (fun _ => rfl) (fun _ => rfl)
  repeat (first | refine x_int ?_ | (refine x_v rfl (by first | exact Or.inl rfl | exact Or.inr (Or.inl rfl) | exact Or.inr (Or.inr rfl)) ?_) | (first | refine b_add ?_ | refine b_sub ?_ | refine b_mul (by first | omega | (constructor <;> omega) | exact Or.inl ⟨by omega, by omega⟩ | exact Or.inr ⟨by omega, by omega⟩) ?_ | refine b_div (by first | omega | (constructor <;> omega) | exact Or.inl ⟨by omega, by omega⟩ | exact Or.inr ⟨by omega, by omega⟩) ?_ | refine b_mod (by first | omega | (constructor <;> omega) | exact Or.inl ⟨by omega, by omega⟩ | exact Or.inr ⟨by omega, by omega⟩) ?_ | refine b_strs (by first | omega | (constructor <;> omega) | exact Or.inl ⟨by omega, by omega⟩ | exact Or.inr ⟨by omega, by omega⟩) ?_ | refine b_catT (by first | exact Nat.le_of_ble_eq_true rfl | decide | (simp; done) | (simp <;> omega)) ?_ | refine c_lt ?_ | refine c_le ?_ | refine c_gt ?_ | refine c_ge ?_ | refine c_eqI ?_ | refine c_neI ?_ | refine c_is ?_ | refine c_isnot ?_ | refine c_eqB ?_ | refine c_neB ?_ | refine c_eqS ?_ | refine c_neS ?_ | refine b_iadd ?_ | refine b_isub ?_ | refine b_imul (by first | omega | (constructor <;> omega) | exact Or.inl ⟨by omega, by omega⟩ | exact Or.inr ⟨by omega, by omega⟩) ?_) | refine x_non ?_ | refine x_str ?_ | refine x_bl ?_ | refine x_bin ?_ | refine x_cmp ?_ (by rfl) | refine t_cmp ?_ (by rfl) | refine t_chain ?_ (by with_unfolding_all rfl) | refine x_chain ?_ (by with_unfolding_all rfl) | refine t_not ?_ | refine x_neg ?_ | refine x_if ?_ | refine a_cons ?_ (fun _ => rfl) | refine a_nil ?_ | refine x_tup ?_ | refine x_ix ?_ (fun _ _ => rfl) | refine ix_tup rfl ?_ | refine dats_ex (by first | exact Nat.le_of_ble_eq_true rfl | decide | (simp; done) | (simp <;> omega)) ?_ | refine r_cons ?_ | refine r_nil ?_ | refine s_ret ?_ | refine s_if ?_ | (refine s_st (by first | exact Or.inl rfl | exact Or.inr rfl) (by first | exact Or.inl rfl | exact Or.inr rfl) ?_ (fun _ => rfl)) | (refine s_ag (by first | exact Or.inl rfl | exact Or.inr rfl) (by first | exact Or.inl rfl | exact Or.inr rfl) rfl ?_) | refine s_expr ?_ (fun _ => rfl))
  refine ⟨rfl, ns, j, i, 1 + r, rfl, hn, hj, hi, by omega, by omega, fun r2 h2 h3 => ?_⟩
  repeat (first | refine x_int ?_ | (refine x_v rfl (by first | exact Or.inl rfl | exact Or.inr (Or.inl rfl) | exact Or.inr (Or.inr rfl)) ?_) | (first | refine b_add ?_ | refine b_sub ?_ | refine b_mul (by first | omega | (constructor <;> omega) | exact Or.inl ⟨by omega, by omega⟩ | exact Or.inr ⟨by omega, by omega⟩) ?_ | refine b_div (by first | omega | (constructor <;> omega) | exact Or.inl ⟨by omega, by omega⟩ | exact Or.inr ⟨by omega, by omega⟩) ?_ | refine b_mod (by first | omega | (constructor <;> omega) | exact Or.inl ⟨by omega, by omega⟩ | exact Or.inr ⟨by omega, by omega⟩) ?_ | refine b_strs (by first | omega | (constructor <;> omega) | exact Or.inl ⟨by omega, by omega⟩ | exact Or.inr ⟨by omega, by omega⟩) ?_ | refine b_catT (by first | exact Nat.le_of_ble_eq_true rfl | decide | (simp; done) | (simp <;> omega)) ?_ | refine c_lt ?_ | refine c_le ?_ | refine c_gt ?_ | refine c_ge ?_ | refine c_eqI ?_ | refine c_neI ?_ | refine c_is ?_ | refine c_isnot ?_ | refine c_eqB ?_ | refine c_neB ?_ | refine c_eqS ?_ | refine c_neS ?_ | refine b_iadd ?_ | refine b_isub ?_ | refine b_imul (by first | omega | (constructor <;> omega) | exact Or.inl ⟨by omega, by omega⟩ | exact Or.inr ⟨by omega, by omega⟩) ?_) | refine x_non ?_ | refine x_str ?_ | refine x_bl ?_ | refine x_bin ?_ | refine x_cmp ?_ (by rfl) | refine t_cmp ?_ (by rfl) | refine t_chain ?_ (by with_unfolding_all rfl) | refine x_chain ?_ (by with_unfolding_all rfl) | refine t_not ?_ | refine x_neg ?_ | refine x_if ?_ | refine a_cons ?_ (fun _ => rfl) | refine a_nil ?_ | refine x_tup ?_ | refine x_ix ?_ (fun _ _ => rfl) | refine ix_tup rfl ?_ | refine dats_ex (by first | exact Nat.le_of_ble_eq_true rfl | decide | (simp; done) | (simp <;> omega)) ?_ | refine r_cons ?_ | refine r_nil ?_ | refine s_ret ?_ | refine s_if ?_ | (refine s_st (by first | exact Or.inl rfl | exact Or.inr rfl) (by first | exact Or.inl rfl | exact Or.inr rfl) ?_ (fun _ => rfl)) | (refine s_ag (by first | exact Or.inl rfl | exact Or.inr rfl) (by first | exact Or.inl rfl | exact Or.inr rfl) rfl ?_) | refine s_expr ?_ (fun _ => rfl))
  exact fin_same (q (1 + r) (1 + r2) (by omega) (by omega) (by omega))
end
end My

namespace My
open PySem L2 Fx
section
variable {P : Program} {w : World} {K : PySem.W.Frag} {mg : Str → Option Value} {base : Heap}
def A_law_a_row : ASp := fun as M Post => ∃ (ns : List Int) (j i : Nat) (m : Int) (z : Nat), as = [.scr ns, .mut j, .dat (.int m), .dat (.int z)] ∧ ns.length ≤ 63 ∧ M[j]? = some (.town i) ∧ M[i]? = some .rests ∧ 0 ≤ m ∧ m ≤ 60 ∧ z ≤ m ∧
  ∀ r : List Int, Row m r → r.length = z → Post (.dat (tI r)) M
theorem erase_map {α β : Type} (f : α → β) : ∀ (l : List α) (i : Nat), (l.map f).eraseIdx i = (l.eraseIdx i).map f
  | [], _ => rfl
  | _ :: _, 0 => rfl
  | x :: l, i + 1 => congrArg (f x :: ·) (erase_map f l i)
theorem d_law_a_row (T : Txt K mg) : DefOk P w K mg base lv_law_a_row "_law_a_row" s_law_a_row ps_law_a_row (spOf K ps_law_a_row.length A_law_a_row) := by
  obtain ⟨fa, fd, hm, F, hb⟩ := T.f_law_a_row
  refine ⟨fa, fd, hm, F, hb, fn_mk F sc_law_a_row fun as M Post hl hA => ?_⟩
  obtain ⟨ns, j, i, m, z, rfl, hn, hj, hi, hm0, hm1, hz, q⟩ := hA
  show Run (c_law_a_row P w K mg base _) [some (.scr ns), some (.mut j), some (.dat (.int m)), some (.dat (.int z)), none, none, none] M _ _
  have jl : j < M.length := (List.getElem?_eq_some_iff.mp hj).1
  have il : i < M.length := (List.getElem?_eq_some_iff.mp hi).1
  refine r_cons ?_
  refine s_p2 (by decide) rfl rfl ?_ (swaps_of fun _ => rfl) (fun _ => rfl)
  refine a_cons ?_ (fun _ => rfl)
  refine x_N (f_lrg T.b_list rfl (rg_2 T.b_range rfl ?_ (fun _ => rfl) (fun _ => rfl) (fun _ => rfl)) (fun _ => rfl))
  repeat (first | refine x_int ?_ | (refine x_v rfl (by first | exact Or.inl rfl | exact Or.inr (Or.inl rfl) | exact Or.inr (Or.inr rfl)) ?_) | (first | refine b_add ?_ | refine b_sub ?_ | refine b_mul (by first | omega | (constructor <;> omega) | exact Or.inl ⟨by omega, by omega⟩ | exact Or.inr ⟨by omega, by omega⟩) ?_ | refine b_div (by first | omega | (constructor <;> omega) | exact Or.inl ⟨by omega, by omega⟩ | exact Or.inr ⟨by omega, by omega⟩) ?_ | refine b_mod (by first | omega | (constructor <;> omega) | exact Or.inl ⟨by omega, by omega⟩ | exact Or.inr ⟨by omega, by omega⟩) ?_ | refine b_strs (by first | omega | (constructor <;> omega) | exact Or.inl ⟨by omega, by omega⟩ | exact Or.inr ⟨by omega, by omega⟩) ?_ | refine b_catT (by first | exact Nat.le_of_ble_eq_true rfl | decide | (simp; done) | (simp <;> omega)) ?_ | refine c_lt ?_ | refine c_le ?_ | refine c_gt ?_ | refine c_ge ?_ | refine c_eqI ?_ | refine c_neI ?_ | refine c_is ?_ | refine c_isnot ?_ | refine c_eqB ?_ | refine c_neB ?_ | refine c_eqS ?_ | refine c_neS ?_ | refine b_iadd ?_ | refine b_isub ?_ | refine b_imul (by first | omega | (constructor <;> omega) | exact Or.inl ⟨by omega, by omega⟩ | exact Or.inr ⟨by omega, by omega⟩) ?_) | refine x_non ?_ | refine x_str ?_ | refine x_bl ?_ | refine x_bin ?_ | refine x_cmp ?_ (by rfl) | refine t_cmp ?_ (by rfl) | refine t_chain ?_ (by with_unfolding_all rfl) | refine x_chain ?_ (by with_unfolding_all rfl) | refine t_not ?_ | refine x_neg ?_ | refine x_if ?_ | refine a_cons ?_ (fun _ => rfl) | refine a_nil ?_ | refine x_tup ?_ | refine x_ix ?_ (fun _ _ => rfl) | refine ix_tup rfl ?_ | refine dats_ex (by first | exact Nat.le_of_ble_eq_true rfl | decide | (simp; done) | (simp <;> omega)) ?_ | refine r_cons ?_ | refine r_nil ?_ | refine s_ret ?_ | refine s_if ?_ | (refine s_st (by first | exact Or.inl rfl | exact Or.inr rfl) (by first | exact Or.inl rfl | exact Or.inr rfl) ?_ (fun _ => rfl)) | (refine s_ag (by first | exact Or.inl rfl | exact Or.inr rfl) (by first | exact Or.inl rfl | exact Or.inr rfl) rfl ?_) | refine s_expr ?_ (fun _ => rfl))
  refine ⟨1, m + 1, rfl, rfl, ⟨by omega, by omega, by omega, by omega⟩, ?_⟩
  refine a_cons ?_ (fun _ => rfl)
  refine x_N (f_lst ?_)
  repeat (first | refine x_int ?_ | (refine x_v rfl (by first | exact Or.inl rfl | exact Or.inr (Or.inl rfl) | exact Or.inr (Or.inr rfl)) ?_) | (first | refine b_add ?_ | refine b_sub ?_ | refine b_mul (by first | omega | (constructor <;> omega) | exact Or.inl ⟨by omega, by omega⟩ | exact Or.inr ⟨by omega, by omega⟩) ?_ | refine b_div (by first | omega | (constructor <;> omega) | exact Or.inl ⟨by omega, by omega⟩ | exact Or.inr ⟨by omega, by omega⟩) ?_ | refine b_mod (by first | omega | (constructor <;> omega) | exact Or.inl ⟨by omega, by omega⟩ | exact Or.inr ⟨by omega, by omega⟩) ?_ | refine b_strs (by first | omega | (constructor <;> omega) | exact Or.inl ⟨by omega, by omega⟩ | exact Or.inr ⟨by omega, by omega⟩) ?_ | refine b_catT (by first | exact Nat.le_of_ble_eq_true rfl | decide | (simp; done) | (simp <;> omega)) ?_ | refine c_lt ?_ | refine c_le ?_ | refine c_gt ?_ | refine c_ge ?_ | refine c_eqI ?_ | refine c_neI ?_ | refine c_is ?_ | refine c_isnot ?_ | refine c_eqB ?_ | refine c_neB ?_ | refine c_eqS ?_ | refine c_neS ?_ | refine b_iadd ?_ | refine b_isub ?_ | refine b_imul (by first | omega | (constructor <;> omega) | exact Or.inl ⟨by omega, by omega⟩ | exact Or.inr ⟨by omega, by omega⟩) ?_) | refine x_non ?_ | refine x_str ?_ | refine x_bl ?_ | refine x_bin ?_ | refine x_cmp ?_ (by rfl) | refine t_cmp ?_ (by rfl) | refine t_chain ?_ (by with_unfolding_all rfl) | refine x_chain ?_ (by with_unfolding_all rfl) | refine t_not ?_ | refine x_neg ?_ | refine x_if ?_ | refine a_cons ?_ (fun _ => rfl) | refine a_nil ?_ | refine x_tup ?_ | refine x_ix ?_ (fun _ _ => rfl) | refine ix_tup rfl ?_ | refine dats_ex (by first | exact Nat.le_of_ble_eq_true rfl | decide | (simp; done) | (simp <;> omega)) ?_ | refine r_cons ?_ | refine r_nil ?_ | refine s_ret ?_ | refine s_if ?_ | (refine s_st (by first | exact Or.inl rfl | exact Or.inr rfl) (by first | exact Or.inl rfl | exact Or.inr rfl) ?_ (fun _ => rfl)) | (refine s_ag (by first | exact Or.inl rfl | exact Or.inr rfl) (by first | exact Or.inl rfl | exact Or.inr rfl) rfl ?_) | refine s_expr ?_ (fun _ => rfl))
  refine ⟨_, _, rfl, ?_⟩
  refine r_cons ?_
  refine s_for (i_rng1 T.b_range rfl ?_ (fun _ => rfl)) (fun _ _ => rfl)
  repeat (first | refine x_int ?_ | (refine x_v rfl (by first | exact Or.inl rfl | exact Or.inr (Or.inl rfl) | exact Or.inr (Or.inr rfl)) ?_) | (first | refine b_add ?_ | refine b_sub ?_ | refine b_mul (by first | omega | (constructor <;> omega) | exact Or.inl ⟨by omega, by omega⟩ | exact Or.inr ⟨by omega, by omega⟩) ?_ | refine b_div (by first | omega | (constructor <;> omega) | exact Or.inl ⟨by omega, by omega⟩ | exact Or.inr ⟨by omega, by omega⟩) ?_ | refine b_mod (by first | omega | (constructor <;> omega) | exact Or.inl ⟨by omega, by omega⟩ | exact Or.inr ⟨by omega, by omega⟩) ?_ | refine b_strs (by first | omega | (constructor <;> omega) | exact Or.inl ⟨by omega, by omega⟩ | exact Or.inr ⟨by omega, by omega⟩) ?_ | refine b_catT (by first | exact Nat.le_of_ble_eq_true rfl | decide | (simp; done) | (simp <;> omega)) ?_ | refine c_lt ?_ | refine c_le ?_ | refine c_gt ?_ | refine c_ge ?_ | refine c_eqI ?_ | refine c_neI ?_ | refine c_is ?_ | refine c_isnot ?_ | refine c_eqB ?_ | refine c_neB ?_ | refine c_eqS ?_ | refine c_neS ?_ | refine b_iadd ?_ | refine b_isub ?_ | refine b_imul (by first | omega | (constructor <;> omega) | exact Or.inl ⟨by omega, by omega⟩ | exact Or.inr ⟨by omega, by omega⟩) ?_) | refine x_non ?_ | refine x_str ?_ | refine x_bl ?_ | refine x_bin ?_ | refine x_cmp ?_ (by rfl) | refine t_cmp ?_ (by rfl) | refine t_chain ?_ (by with_unfolding_all rfl) | refine x_chain ?_ (by with_unfolding_all rfl) | refine t_not ?_ | refine x_neg ?_ | refine x_if ?_ | refine a_cons ?_ (fun _ => rfl) | refine a_nil ?_ | refine x_tup ?_ | refine x_ix ?_ (fun _ _ => rfl) | refine ix_tup rfl ?_ | refine dats_ex (by first | exact Nat.le_of_ble_eq_true rfl | decide | (simp; done) | (simp <;> omega)) ?_ | refine r_cons ?_ | refine r_nil ?_ | refine s_ret ?_ | refine s_if ?_ | (refine s_st (by first | exact Or.inl rfl | exact Or.inr rfl) (by first | exact Or.inl rfl | exact Or.inr rfl) ?_ (fun _ => rfl)) | (refine s_ag (by first | exact Or.inl rfl | exact Or.inr rfl) (by first | exact Or.inl rfl | exact Or.inr rfl) rfl ?_) | refine s_expr ?_ (fun _ => rfl))
  refine ⟨z, rfl, by omega, by omega, fun a δ M2 => ∃ L F : List Int, (L ++ F).Perm (rg 1 (m + 1)) ∧ F.length = a ∧ (∃ z1, δ = [some (.scr ns), some (.mut j), some (.dat (.int m)), some (.dat (.int z)), some (.mut M.length), some (.mut (M.length + 1)), z1]) ∧
    M2 = M ++ [.lst (L.map D.int)] ++ [.lst (F.map D.int)], ⟨rg 1 (m + 1), [], by rw [List.append_nil], rfl, ⟨none, ?_⟩, ?_⟩, fun i δ M2 _ j e => (by cases e), ?_, ?_⟩
  · rw [List.length_append]
    rfl
  · rw [rgD_eq]
    rfl
  · rintro a d δ M2 ha ⟨L, F, hp, hF, ⟨z1, rfl⟩, rfl⟩
    obtain ⟨h2, rfl⟩ := rg0_get ha
    have hLl : L.length + F.length = m.toNat := by
      have := hp.length_eq
      rw [List.length_append, rg_len] at this
      omega
    have g1 : (M ++ [MO.lst (L.map D.int)] ++ [.lst (F.map D.int)])[M.length]? = some (.lst (L.map D.int)) := by
      rw [List.append_assoc, List.getElem?_append_right (Nat.le_refl _), Nat.sub_self]
      rfl
    refine gx_n (by first | exact Or.inl rfl | exact Or.inr rfl) (by first | exact Or.inl rfl | exact Or.inr rfl) ?_
    refine r_one (s_expr ?_ (fun _ => rfl))
    refine x_lm PySem.F.slot_list_append PySem.F.type_list_append ?_ (fun _ => rfl) (fun _ => rfl) rfl (fun _ => rfl) (fun _ => rfl)
    refine x_v rfl (by first | exact Or.inl rfl | exact Or.inr (Or.inl rfl) | exact Or.inr (Or.inr rfl)) ?_
    refine ⟨M.length + 1, F.map D.int, rfl, ?_, ?_⟩
    · rw [List.getElem?_append_right (by rw [List.length_append]; exact Nat.le_refl _), List.length_append]
      simp
    refine a_cons ?_ (fun _ => rfl)
    refine x_lm PySem.F.slot_list_pop PySem.F.type_list_pop ?_ (fun _ => rfl) (fun _ => rfl) rfl (fun _ => rfl) (fun _ => rfl)
    refine x_v rfl (by first | exact Or.inl rfl | exact Or.inr (Or.inl rfl) | exact Or.inr (Or.inr rfl)) ?_
    refine ⟨M.length, L.map D.int, rfl, g1, ?_⟩
    refine a_cons ?_ (fun _ => rfl)
    refine x_call (d_law_draw T) (Nat.le_of_ble_eq_true rfl) rfl ?_ (fun _ => rfl) (fun _ => rfl)
    refine a_cons ?_ (fun _ => rfl)
    refine x_v rfl (by first | exact Or.inl rfl | exact Or.inr (Or.inl rfl) | exact Or.inr (Or.inr rfl)) ?_
    refine a_cons ?_ (fun _ => rfl)
    refine x_v rfl (by first | exact Or.inl rfl | exact Or.inr (Or.inl rfl) | exact Or.inr (Or.inr rfl)) ?_
    refine a_cons ?_ (fun _ => rfl)
    refine x_blt rfl T.b_len PySem.boot_len ?_ (fun _ => rfl) (fun _ => rfl)
    refine a_cons ?_ (fun _ => rfl)
    refine x_v rfl (by first | exact Or.inl rfl | exact Or.inr (Or.inl rfl) | exact Or.inr (Or.inr rfl)) ?_
    refine a_nil (ca_len (isS_mut g1) (a_nil ?_))
    rw [List.length_map]
    refine ⟨rfl, ns, j, i, L.length, rfl, hn, ?_, ?_, by omega, by omega, fun r h3 h4 => ?_⟩
    · rw [List.append_assoc, List.getElem?_append_left jl]; exact hj
    · rw [List.append_assoc, List.getElem?_append_left il]; exact hi
    obtain ⟨rn, rfl⟩ : ∃ rn : Nat, r = (rn : Int) := ⟨r.toNat, by omega⟩
    have hr : rn < L.length := by omega
    refine a_nil (me_popAt (d := D.int L[rn]) g1 (by rw [List.getElem?_map, List.getElem?_eq_getElem hr]; rfl) (by rw [List.length_map]; omega) ?_)
    have e1 : (M ++ [MO.lst (L.map D.int)] ++ [MO.lst (F.map D.int)]).set M.length (MO.lst ((L.map D.int).eraseIdx rn)) = M ++ [MO.lst ((L.eraseIdx rn).map D.int)] ++ [MO.lst (F.map D.int)] := by
      rw [List.append_assoc, List.set_append_right _ _ (Nat.le_refl _), Nat.sub_self, erase_map, List.append_assoc]
      rfl
    rw [e1]
    have l1 : M.length + 1 = (M ++ [MO.lst ((L.eraseIdx rn).map D.int)]).length := by rw [List.length_append]; rfl
    refine a_nil (me_append (ds := F.map D.int) ?_ (by rw [List.length_map]; omega) ?_)
    · rw [l1]
      exact get_push
    rw [l1, set_push]
    refine ⟨L.eraseIdx rn, F ++ [L[rn]], ?_, by rw [List.length_append, hF]; rfl, ⟨some (.dat (.int (a : Nat))), ?_⟩, ?_⟩
    · exact (take_drop_perm (List.getElem?_eq_getElem hr) F).trans hp
    · rw [← l1]
      rfl
    · rw [List.map_append]
      rfl
  · rintro δ M2 ⟨L, F, hp, hF, ⟨z1, rfl⟩, rfl⟩
    rw [rg0_len] at hF
    refine r_one (s_ret ?_)
    refine x_ty rfl T.b_tuple PyProof.Rows.boot_tuple ?_ (fun _ => rfl) (fun _ => rfl)
    refine a_cons ?_ (fun _ => rfl)
    refine x_F ?_
    refine f_blt rfl T.b_sorted PyProof.Rows.boot_sorted ?_ (fun _ => rfl) (fun _ => rfl)
    refine a_cons ?_ (fun _ => rfl)
    refine x_v rfl (by first | exact Or.inl rfl | exact Or.inr (Or.inl rfl) | exact Or.inr (Or.inr rfl)) ?_
    have hFl : F.length ≤ m.toNat := by
      have := hp.length_eq
      rw [List.length_append, rg_len] at this
      omega
    refine a_nil (cf_sorted (ns := F) (isL_mut ?_) (by omega) fun ns' h1 h2 => ?_)
    · rw [show M.length + 1 = (M ++ [MO.lst (L.map D.int)]).length by rw [List.length_append]; rfl]
      exact get_push
    refine a_nil (ca_tuple isS_ls ?_)
    rw [List.append_assoc]
    exact fin_dat (q ns' (row_of h1 h2 hp) (by rw [h1.length_eq, hF]; omega))
end
end My

namespace My
open PySem L2 Fx
section
variable {P : Program} {w : World} {K : PySem.W.Frag} {mg : Str → Option Value} {base : Heap}
def A_law_class (cs : Nat → Addr) (rs : List Nat) : ASp := fun as M Post => ∃ (i : Nat) (fs : List (Str × D)), as = [.exc (cs i) fs] ∧ i ∈ rs ∧ Post (.dat (.str (kindS.getD i ""))) M
theorem d_law_class (T : Txt K mg) {cs : Nat → Addr} {TE : Addr} {rs : List Nat} [EX : Exs K mg cs TE rs] : DefOk P w K mg base lv_law_class "_law_class" s_law_class ps_law_class (spOf K ps_law_class.length (A_law_class cs rs)) := by
  obtain ⟨fa, fd, hm, F, hb⟩ := T.f_law_class
  refine ⟨fa, fd, hm, F, hb, fn_mk F sc_law_class fun as M Post hl hA => ?_⟩
  obtain ⟨i, fs, rfl, hi, q⟩ := hA
  obtain ⟨hi7, hC, hex, hval, hkit⟩ := EX.own i hi
  show Run (c_law_class P w K mg base _) [some (.exc (cs i) fs), none] M _ _
  refine r_cons ?_
  refine s_st (by first | exact Or.inl rfl | exact Or.inr rfl) (by first | exact Or.inl rfl | exact Or.inr rfl) ?_ (fun _ => rfl)
  refine x_F (f_lst ?_)
  refine a_cons (x_isiX rfl T.b_isinstance rfl EX.n0 ?_ (fun _ => rfl)) (fun _ => rfl)
  refine x_v rfl (by first | exact Or.inl rfl | exact Or.inr (Or.inl rfl) | exact Or.inr (Or.inr rfl)) ?_
  refine ⟨_, _, _, rfl, hC, hkit 0 (by omega), ?_⟩
  refine a_cons (x_isiX rfl T.b_isinstance rfl EX.n1 ?_ (fun _ => rfl)) (fun _ => rfl)
  refine x_v rfl (by first | exact Or.inl rfl | exact Or.inr (Or.inl rfl) | exact Or.inr (Or.inr rfl)) ?_
  refine ⟨_, _, _, rfl, hC, hkit 1 (by omega), ?_⟩
  refine a_cons (x_isiX rfl T.b_isinstance rfl EX.n2 ?_ (fun _ => rfl)) (fun _ => rfl)
  refine x_v rfl (by first | exact Or.inl rfl | exact Or.inr (Or.inl rfl) | exact Or.inr (Or.inr rfl)) ?_
  refine ⟨_, _, _, rfl, hC, hkit 2 (by omega), ?_⟩
  refine a_cons (x_isiX rfl T.b_isinstance rfl EX.n3 ?_ (fun _ => rfl)) (fun _ => rfl)
  refine x_v rfl (by first | exact Or.inl rfl | exact Or.inr (Or.inl rfl) | exact Or.inr (Or.inr rfl)) ?_
  refine ⟨_, _, _, rfl, hC, hkit 3 (by omega), ?_⟩
  refine a_nil (dats_ex (by first | exact Nat.le_of_ble_eq_true rfl | decide | (simp; done) | (simp <;> omega)) ?_)
  refine r_cons ?_
  refine s_st (by first | exact Or.inl rfl | exact Or.inr rfl) (by first | exact Or.inl rfl | exact Or.inr rfl) ?_ (fun _ => rfl)
  refine x_bin ?_
  refine x_v rfl (by first | exact Or.inl rfl | exact Or.inr (Or.inl rfl) | exact Or.inr (Or.inr rfl)) ?_
  refine x_F (f_lst ?_)
  refine a_cons (x_isiX rfl T.b_isinstance rfl EX.n4 ?_ (fun _ => rfl)) (fun _ => rfl)
  refine x_v rfl (by first | exact Or.inl rfl | exact Or.inr (Or.inl rfl) | exact Or.inr (Or.inr rfl)) ?_
  refine ⟨_, _, _, rfl, hC, hkit 4 (by omega), ?_⟩
  refine a_cons (x_isiX rfl T.b_isinstance rfl EX.n5 ?_ (fun _ => rfl)) (fun _ => rfl)
  refine x_v rfl (by first | exact Or.inl rfl | exact Or.inr (Or.inl rfl) | exact Or.inr (Or.inr rfl)) ?_
  refine ⟨_, _, _, rfl, hC, hkit 5 (by omega), ?_⟩
  refine a_cons (x_isiX rfl T.b_isinstance rfl EX.n6 ?_ (fun _ => rfl)) (fun _ => rfl)
  refine x_v rfl (by first | exact Or.inl rfl | exact Or.inr (Or.inl rfl) | exact Or.inr (Or.inr rfl)) ?_
  refine ⟨_, _, _, rfl, hC, hkit 6 (by omega), ?_⟩
  refine a_nil (dats_ex (by first | exact Nat.le_of_ble_eq_true rfl | decide | (simp; done) | (simp <;> omega)) (b_catL isL_ls isL_ls (by show 4 + 3 ≤ 1000000; decide) ?_))
  have hcount : (((([D.bl (decide (i = 0)), D.bl (decide (i = 1)), D.bl (decide (i = 2)), D.bl (decide (i = 3))] ++ [D.bl (decide (i = 4)), D.bl (decide (i = 5)), D.bl (decide (i = 6))]).map flV).countP fun z => eqV z (flV (.bl true)) : Nat) : Int) = 1 ∧
      (([D.bl (decide (i = 0)), D.bl (decide (i = 1)), D.bl (decide (i = 2)), D.bl (decide (i = 3))] ++ [D.bl (decide (i = 4)), D.bl (decide (i = 5)), D.bl (decide (i = 6))]).map flV)[i]? = some (V.bl true) ∧ eqV (V.bl true) (flV (.bl true)) = true ∧
      ∀ (m : Nat) (z' : V), m < i → (([D.bl (decide (i = 0)), D.bl (decide (i = 1)), D.bl (decide (i = 2)), D.bl (decide (i = 3))] ++ [D.bl (decide (i = 4)), D.bl (decide (i = 5)), D.bl (decide (i = 6))]).map flV)[m]? = some z' → eqV z' (flV (.bl true)) = false := by
    have hcase : i = 0 ∨ i = 1 ∨ i = 2 ∨ i = 3 ∨ i = 4 ∨ i = 5 ∨ i = 6 := by omega
    rcases hcase with rfl | rfl | rfl | rfl | rfl | rfl | rfl <;> refine ⟨rfl, rfl, rfl, fun m z' hm hz => ?_⟩
    all_goals
      match m, hm with
      | 0, _ => first | (cases hz; rfl) | omega
      | 1, _ => first | (cases hz; rfl) | omega
      | 2, _ => first | (cases hz; rfl) | omega
      | 3, _ => first | (cases hz; rfl) | omega
      | 4, _ => first | (cases hz; rfl) | omega
      | 5, _ => first | (cases hz; rfl) | omega
      | m + 6, h => omega
  obtain ⟨h1, h2, h3, h4⟩ := hcount
  refine r_cons (s_ifF (t_W (w_or (t_cmp (x_lcountF ?_ (fun _ => rfl) (fun _ => rfl) rfl (fun _ => rfl)) (by rfl)))) ?_)
  · refine x_v rfl (by first | exact Or.inl rfl | exact Or.inr (Or.inl rfl) | exact Or.inr (Or.inr rfl)) ?_
    refine ⟨_, rfl, rfl, x_bl ⟨_, rfl, rfl, ?_⟩⟩
    rw [h1]
    refine x_int (c_neI ⟨fun h => (by cases h), fun _ => w_or1 (t_not (t_val (x_isiXT rfl T.b_isinstance rfl T.b_ValueError PyProof.Rows.Boot.«ValueError» ?_ (fun _ => rfl)) (fun _ _ => rfl)))⟩)
    refine x_v rfl (by first | exact Or.inl rfl | exact Or.inr (Or.inl rfl) | exact Or.inr (Or.inr rfl)) ?_
    refine ⟨_, _, _, rfl, hC, hval, true, rfl, ?_⟩
    exact ⟨rfl, rfl⟩
  refine r_nil (r_one (s_ret (x_ix ?_ (fun _ _ => rfl))))
  refine x_F (f_lst ?_)
  repeat (first | refine x_int ?_ | (refine x_v rfl (by first | exact Or.inl rfl | exact Or.inr (Or.inl rfl) | exact Or.inr (Or.inr rfl)) ?_) | (first | refine b_add ?_ | refine b_sub ?_ | refine b_mul (by first | omega | (constructor <;> omega) | exact Or.inl ⟨by omega, by omega⟩ | exact Or.inr ⟨by omega, by omega⟩) ?_ | refine b_div (by first | omega | (constructor <;> omega) | exact Or.inl ⟨by omega, by omega⟩ | exact Or.inr ⟨by omega, by omega⟩) ?_ | refine b_mod (by first | omega | (constructor <;> omega) | exact Or.inl ⟨by omega, by omega⟩ | exact Or.inr ⟨by omega, by omega⟩) ?_ | refine b_strs (by first | omega | (constructor <;> omega) | exact Or.inl ⟨by omega, by omega⟩ | exact Or.inr ⟨by omega, by omega⟩) ?_ | refine b_catT (by first | exact Nat.le_of_ble_eq_true rfl | decide | (simp; done) | (simp <;> omega)) ?_ | refine c_lt ?_ | refine c_le ?_ | refine c_gt ?_ | refine c_ge ?_ | refine c_eqI ?_ | refine c_neI ?_ | refine c_is ?_ | refine c_isnot ?_ | refine c_eqB ?_ | refine c_neB ?_ | refine c_eqS ?_ | refine c_neS ?_ | refine b_iadd ?_ | refine b_isub ?_ | refine b_imul (by first | omega | (constructor <;> omega) | exact Or.inl ⟨by omega, by omega⟩ | exact Or.inr ⟨by omega, by omega⟩) ?_) | refine x_non ?_ | refine x_str ?_ | refine x_bl ?_ | refine x_bin ?_ | refine x_cmp ?_ (by rfl) | refine t_cmp ?_ (by rfl) | refine t_chain ?_ (by with_unfolding_all rfl) | refine x_chain ?_ (by with_unfolding_all rfl) | refine t_not ?_ | refine x_neg ?_ | refine x_if ?_ | refine a_cons ?_ (fun _ => rfl) | refine a_nil ?_ | refine x_tup ?_ | refine x_ix ?_ (fun _ _ => rfl) | refine ix_tup rfl ?_ | refine dats_ex (by first | exact Nat.le_of_ble_eq_true rfl | decide | (simp; done) | (simp <;> omega)) ?_ | refine r_cons ?_ | refine r_nil ?_ | refine s_ret ?_ | refine s_if ?_ | (refine s_st (by first | exact Or.inl rfl | exact Or.inr rfl) (by first | exact Or.inl rfl | exact Or.inr rfl) ?_ (fun _ => rfl)) | (refine s_ag (by first | exact Or.inl rfl | exact Or.inr rfl) (by first | exact Or.inl rfl | exact Or.inr rfl) rfl ?_) | refine s_expr ?_ (fun _ => rfl))
  refine x_lindexF ?_ (fun _ => rfl) (fun _ => rfl) rfl (fun _ => rfl)
  refine x_v rfl (by first | exact Or.inl rfl | exact Or.inr (Or.inl rfl) | exact Or.inr (Or.inr rfl)) ?_
  refine ⟨_, rfl, rfl, x_bl ⟨.bl true, i, .bl true, rfl, rfl, h2, h3, h4, ?_⟩⟩
  refine ix_ls (d := .str (kindS.getD i "")) (atI_at rfl ?_) (fin_same q)
  have hcase : i = 0 ∨ i = 1 ∨ i = 2 ∨ i = 3 ∨ i = 4 ∨ i = 5 ∨ i = 6 := by omega
  rcases hcase with rfl | rfl | rfl | rfl | rfl | rfl | rfl <;> rfl
end
end My

namespace My
open PySem L2 Fx
section
variable {P : Program} {w : World} {K : PySem.W.Frag} {mg : Str → Option Value} {base : Heap}
theorem heard_rest (T : Txt K mg) {cs : Nat → Addr} {TE : Addr} {rs : List Nat} [EX : Exs K mg cs TE rs] {k : Nat} (hk : 1 ≤ k) {M : List MO} {Post : AQ} (f : Addr) :
    (∀ d, Post (.dat (.tup [.str "told", d])) M → Run (c_law_heard P w K mg base k) [some (.fn f), some (.dat .non), some (.dat d), none, none] M ((defBody s_law_heard).drop 2) { nx := fun _ _ => False, rt := Post }) ∧
    (∀ i fs d, i ∈ rs → heardD i fs = some d → Post (.dat d) M → Run (c_law_heard P w K mg base k) [some (.fn f), some (.exc (cs i) fs), some (.dat .non), none, none] M ((defBody s_law_heard).drop 2) { nx := fun _ _ => False, rt := Post }) := by
  refine ⟨fun d q => ?_, fun i fs d hi hd q => ?_⟩
  · refine r_cons (s_if (t_cmp ?_ (by rfl)))
    refine x_v rfl (by first | exact Or.inl rfl | exact Or.inr (Or.inl rfl) | exact Or.inr (Or.inr rfl)) ?_
    refine x_non (c_is ⟨fun _ => r_one (s_ret (x_tup (a_cons (x_str ?_) (fun _ => rfl)))), fun h => by cases h⟩)
    refine a_cons ?_ (fun _ => rfl)
    refine x_v rfl (by first | exact Or.inl rfl | exact Or.inr (Or.inl rfl) | exact Or.inr (Or.inr rfl)) ?_
    exact a_nil (dats_ex (by first | exact Nat.le_of_ble_eq_true rfl | decide | (simp; done) | (simp <;> omega)) q)
  · obtain ⟨f1, f4, f6⟩ := EX.fld i hi
    obtain ⟨hi7, _⟩ := EX.own i hi
    refine r_cons (s_if (t_cmp ?_ (by rfl)))
    refine x_v rfl (by first | exact Or.inl rfl | exact Or.inr (Or.inl rfl) | exact Or.inr (Or.inr rfl)) ?_
    refine x_non (c_is ⟨fun h => (by cases h), fun _ => r_nil (r_cons ?_)⟩)
    refine s_st (by first | exact Or.inl rfl | exact Or.inr rfl) (by first | exact Or.inl rfl | exact Or.inr rfl) ?_ (fun _ => rfl)
    refine x_call (d_law_class T) hk rfl ?_ (fun _ => rfl) (fun _ => rfl)
    refine a_cons ?_ (fun _ => rfl)
    refine x_v rfl (by first | exact Or.inl rfl | exact Or.inr (Or.inl rfl) | exact Or.inr (Or.inr rfl)) ?_
    refine a_nil ⟨rfl, i, fs, rfl, hi, ?_⟩
    have hcase : i = 0 ∨ i = 1 ∨ i = 2 ∨ i = 3 ∨ i = 4 ∨ i = 5 ∨ i = 6 := by omega
    have plain : (i = 0 ∨ i = 2 ∨ i = 3 ∨ i = 5) → d = .tup [.str (kindS.getD i "")] ∧ (kindS.getD i "" == ("no number" : Str)) = false ∧ (kindS.getD i "" == ("no name" : Str)) = false ∧ (kindS.getD i "" == ("no text" : Str)) = false := fun hc => by
      rcases hc with rfl | rfl | rfl | rfl <;> (cases hd; exact ⟨rfl, by decide, by decide, by decide⟩)
    by_cases hp : i = 0 ∨ i = 2 ∨ i = 3 ∨ i = 5
    · obtain ⟨rfl, e1, e2, e3⟩ := plain hp
      refine r_cons (s_if (t_cmp ?_ (by rfl)))
      refine x_v rfl (by first | exact Or.inl rfl | exact Or.inr (Or.inl rfl) | exact Or.inr (Or.inr rfl)) ?_
      refine x_str (c_eqS ?_)
      rw [e1]
      refine ⟨fun h => (by cases h), fun _ => r_nil (r_cons (s_if (t_cmp ?_ (by rfl))))⟩
      refine x_v rfl (by first | exact Or.inl rfl | exact Or.inr (Or.inl rfl) | exact Or.inr (Or.inr rfl)) ?_
      refine x_str (c_eqS ?_)
      rw [e2]
      refine ⟨fun h => (by cases h), fun _ => r_nil (r_one (s_ret (x_if (t_cmp ?_ (by rfl)))))⟩
      refine x_v rfl (by first | exact Or.inl rfl | exact Or.inr (Or.inl rfl) | exact Or.inr (Or.inr rfl)) ?_
      refine x_str (c_eqS ?_)
      rw [e3]
      refine ⟨fun h => (by cases h), fun _ => x_tup (a_cons ?_ (fun _ => rfl))⟩
      refine x_v rfl (by first | exact Or.inl rfl | exact Or.inr (Or.inl rfl) | exact Or.inr (Or.inr rfl)) ?_
      exact a_nil (dats_ex (by first | exact Nat.le_of_ble_eq_true rfl | decide | (simp; done) | (simp <;> omega)) q)
    · have hc : i = 1 ∨ i = 4 ∨ i = 6 := by omega
      rcases hc with rfl | rfl | rfl
      · obtain ⟨X1, X2⟩ := f1 rfl
        cases hf : fs.lookup ("number" : Str) with
        | none =>
          have : heardD 1 fs = (fs.lookup ("number" : Str)).map fun d => .tup [.str "no number", d] := rfl
          rw [this, hf] at hd
          cases hd
        | some d0 =>
          have : heardD 1 fs = (fs.lookup ("number" : Str)).map fun d => .tup [.str "no number", d] := rfl
          rw [this, hf] at hd
          cases hd
          refine r_cons (s_if (t_cmp ?_ (by rfl)))
          refine x_v rfl (by first | exact Or.inl rfl | exact Or.inr (Or.inl rfl) | exact Or.inr (Or.inr rfl)) ?_
          refine x_str (c_eqS ⟨fun _ => r_one (s_ret (x_tup (a_cons ?_ (fun _ => rfl)))), fun h => (by cases h)⟩)
          refine x_v rfl (by first | exact Or.inl rfl | exact Or.inr (Or.inl rfl) | exact Or.inr (Or.inr rfl)) ?_
          refine a_cons (x_excAt ?_ (fun _ => rfl)) (fun _ => rfl)
          refine x_v rfl (by first | exact Or.inl rfl | exact Or.inr (Or.inl rfl) | exact Or.inr (Or.inr rfl)) ?_
          refine ⟨_, fs, d0, rfl, X1, X2, hf, ?_⟩
          exact a_nil (dats_ex (by first | exact Nat.le_of_ble_eq_true rfl | decide | (simp; done) | (simp <;> omega)) q)
      · obtain ⟨X1, X2⟩ := f4 rfl
        cases hf : fs.lookup ("name" : Str) with
        | none =>
          have : heardD 4 fs = (fs.lookup ("name" : Str)).map fun d => .tup [.str "no name", d] := rfl
          rw [this, hf] at hd
          cases hd
        | some d0 =>
          have : heardD 4 fs = (fs.lookup ("name" : Str)).map fun d => .tup [.str "no name", d] := rfl
          rw [this, hf] at hd
          cases hd
          refine r_cons (s_if (t_cmp ?_ (by rfl)))
          refine x_v rfl (by first | exact Or.inl rfl | exact Or.inr (Or.inl rfl) | exact Or.inr (Or.inr rfl)) ?_
          refine x_str (c_eqS ⟨fun h => (by cases h), fun _ => r_nil (r_cons (s_if (t_cmp ?_ (by rfl))))⟩)
          refine x_v rfl (by first | exact Or.inl rfl | exact Or.inr (Or.inl rfl) | exact Or.inr (Or.inr rfl)) ?_
          refine x_str (c_eqS ⟨fun _ => r_one (s_ret (x_tup (a_cons ?_ (fun _ => rfl)))), fun h => (by cases h)⟩)
          refine x_v rfl (by first | exact Or.inl rfl | exact Or.inr (Or.inl rfl) | exact Or.inr (Or.inr rfl)) ?_
          refine a_cons (x_excAt ?_ (fun _ => rfl)) (fun _ => rfl)
          refine x_v rfl (by first | exact Or.inl rfl | exact Or.inr (Or.inl rfl) | exact Or.inr (Or.inr rfl)) ?_
          refine ⟨_, fs, d0, rfl, X1, X2, hf, ?_⟩
          exact a_nil (dats_ex (by first | exact Nat.le_of_ble_eq_true rfl | decide | (simp; done) | (simp <;> omega)) q)
      · obtain ⟨X1, X2⟩ := f6 rfl
        cases hf : fs.lookup ("at" : Str) with
        | none =>
          have : heardD 6 fs = (fs.lookup ("at" : Str)).map fun d => .tup [.str "no text", d] := rfl
          rw [this, hf] at hd
          cases hd
        | some d0 =>
          have : heardD 6 fs = (fs.lookup ("at" : Str)).map fun d => .tup [.str "no text", d] := rfl
          rw [this, hf] at hd
          cases hd
          refine r_cons (s_if (t_cmp ?_ (by rfl)))
          refine x_v rfl (by first | exact Or.inl rfl | exact Or.inr (Or.inl rfl) | exact Or.inr (Or.inr rfl)) ?_
          refine x_str (c_eqS ⟨fun h => (by cases h), fun _ => r_nil (r_cons (s_if (t_cmp ?_ (by rfl))))⟩)
          refine x_v rfl (by first | exact Or.inl rfl | exact Or.inr (Or.inl rfl) | exact Or.inr (Or.inr rfl)) ?_
          refine x_str (c_eqS ⟨fun h => (by cases h), fun _ => r_nil (r_one (s_ret (x_if (t_cmp ?_ (by rfl)))))⟩)
          refine x_v rfl (by first | exact Or.inl rfl | exact Or.inr (Or.inl rfl) | exact Or.inr (Or.inr rfl)) ?_
          refine x_str (c_eqS ⟨fun _ => x_tup (a_cons ?_ (fun _ => rfl)), fun h => (by cases h)⟩)
          refine x_v rfl (by first | exact Or.inl rfl | exact Or.inr (Or.inl rfl) | exact Or.inr (Or.inr rfl)) ?_
          refine a_cons (x_excAt ?_ (fun _ => rfl)) (fun _ => rfl)
          refine x_v rfl (by first | exact Or.inl rfl | exact Or.inr (Or.inl rfl) | exact Or.inr (Or.inr rfl)) ?_
          refine ⟨_, fs, d0, rfl, X1, X2, hf, ?_⟩
          exact a_nil (dats_ex (by first | exact Nat.le_of_ble_eq_true rfl | decide | (simp; done) | (simp <;> omega)) q)
theorem heard_st1 {k : Nat} (f : Addr) (M : List MO) (D : AE) (h : D.nx [some (.fn f), some (.dat .non), some (.dat .non), none, none] M) : Run1 (c_law_heard P w K mg base k) [some (.fn f), none, none, none, none] M ((defBody s_law_heard).getD 0 (.Pass ⟨0, 0, 0, 0⟩)) D := by
  show Run1 (c_law_heard P w K mg base k) _ M (.Assign _ _ _) D
  refine s_tupN (nt_c (by first | exact Or.inl rfl | exact Or.inr rfl) (by first | exact Or.inl rfl | exact Or.inr rfl) (fun _ => rfl) (nt_c (by first | exact Or.inl rfl | exact Or.inr rfl) (by first | exact Or.inl rfl | exact Or.inr rfl) (fun _ => rfl) .nil)) ?_ (by decide) (fun _ => rfl) (swaps_of fun _ => rfl) (fun _ => rfl) (fun _ => rfl) (fun _ => rfl)
  repeat (first | refine x_int ?_ | (refine x_v rfl (by first | exact Or.inl rfl | exact Or.inr (Or.inl rfl) | exact Or.inr (Or.inr rfl)) ?_) | (first | refine b_add ?_ | refine b_sub ?_ | refine b_mul (by first | omega | (constructor <;> omega) | exact Or.inl ⟨by omega, by omega⟩ | exact Or.inr ⟨by omega, by omega⟩) ?_ | refine b_div (by first | omega | (constructor <;> omega) | exact Or.inl ⟨by omega, by omega⟩ | exact Or.inr ⟨by omega, by omega⟩) ?_ | refine b_mod (by first | omega | (constructor <;> omega) | exact Or.inl ⟨by omega, by omega⟩ | exact Or.inr ⟨by omega, by omega⟩) ?_ | refine b_strs (by first | omega | (constructor <;> omega) | exact Or.inl ⟨by omega, by omega⟩ | exact Or.inr ⟨by omega, by omega⟩) ?_ | refine b_catT (by first | exact Nat.le_of_ble_eq_true rfl | decide | (simp; done) | (simp <;> omega)) ?_ | refine c_lt ?_ | refine c_le ?_ | refine c_gt ?_ | refine c_ge ?_ | refine c_eqI ?_ | refine c_neI ?_ | refine c_is ?_ | refine c_isnot ?_ | refine c_eqB ?_ | refine c_neB ?_ | refine c_eqS ?_ | refine c_neS ?_ | refine b_iadd ?_ | refine b_isub ?_ | refine b_imul (by first | omega | (constructor <;> omega) | exact Or.inl ⟨by omega, by omega⟩ | exact Or.inr ⟨by omega, by omega⟩) ?_) | refine x_non ?_ | refine x_str ?_ | refine x_bl ?_ | refine x_bin ?_ | refine x_cmp ?_ (by rfl) | refine t_cmp ?_ (by rfl) | refine t_chain ?_ (by with_unfolding_all rfl) | refine x_chain ?_ (by with_unfolding_all rfl) | refine t_not ?_ | refine x_neg ?_ | refine x_if ?_ | refine a_cons ?_ (fun _ => rfl) | refine a_nil ?_ | refine x_tup ?_ | refine x_ix ?_ (fun _ _ => rfl) | refine ix_tup rfl ?_ | refine dats_ex (by first | exact Nat.le_of_ble_eq_true rfl | decide | (simp; done) | (simp <;> omega)) ?_ | refine r_cons ?_ | refine r_nil ?_ | refine s_ret ?_ | refine s_if ?_ | (refine s_st (by first | exact Or.inl rfl | exact Or.inr rfl) (by first | exact Or.inl rfl | exact Or.inr rfl) ?_ (fun _ => rfl)) | (refine s_ag (by first | exact Or.inl rfl | exact Or.inr rfl) (by first | exact Or.inl rfl | exact Or.inr rfl) rfl ?_) | refine s_expr ?_ (fun _ => rfl))
  exact ⟨rfl, h⟩
/-- _law_heard(lambda: body) in a def that makes lambdas -/
theorem x_hd (T : Txt K mg) {cs : Nat → Addr} {TE : Addr} {rs : List Nat} [EX : Exs K mg cs TE rs] {cd Pt : Addr} {N : List Str} {st : Stmt} {ql : Str} {k jt : Nat} {δ : Dl} {M : List MO} {Post : AQ} {p pos lpos : Pos} {params : Arguments} {body : Expr} {scope : Scope} (TB : LamX.TabB base mg cd Pt) (hjt : M[jt]? = some (.tab Pt (ql ++ "<lambda>")))
    (L : LamX.LamS (defScope st) scope) (hdef : ∀ env, defaultsOf params env = ([], [])) (hbind : ∀ (q : Str) (cl : List (Str × Addr)) (pm cv ctv : Value), bindArgs (PySem.W.kla_fn "<lambda>" q params body scope cl pm cv ctv) ⟨[], []⟩ = pure [])
    (hg : (defScope st).names.lookup ("_law_heard" : Str) = some .globalImplicit)
    (h : EvRx (SC.lam (scOfL P w K mg base N st cd ql (k + 2)) scope k) δ M body (fun a M2 => ∃ d, a = .dat d ∧ Post (.dat (.tup [.str "told", d])) M2) (fun C fs M2 => ∃ i d, i ∈ rs ∧ C = cs i ∧ heardD i fs = some d ∧ Post (.dat d) M2)) :
    EvX (scOfL P w K mg base N st cd ql (k + 2)) δ M (.Call (.Name "_law_heard" p) [.Lambda params body scope lpos] [] pos) Post := by
  obtain ⟨gh, fdh, hmh, Fh, hbh⟩ := T.f_law_heard
  refine x_heard (c := scOfL P w K mg base N st cd ql (k + 2)) (k := k) jt (fun cv q h => h) TB L hdef hbind hg hmh Fh hbh sc_law_heard (rest := (defBody s_law_heard).drop 2) (st1 := (defBody s_law_heard).getD 0 (.Pass ⟨0, 0, 0, 0⟩)) rfl ⟨rfl, rfl, rfl, rfl, rfl⟩ EX.te rfl (fun _ => rfl) (fun _ => rfl) (fun f M' D hD => heard_st1 f M' D hD) hjt ?_
  intro y W tk σ H ad he hs Q q qx
  refine h y W tk σ H ad he hs Q (fun v H2 ad2 a M2 n s r ⟨d, e, hp⟩ => q v H2 ad2 a M2 n s r ?_) (fun C d fs H2 ad2 M2 n s x ⟨i, d', hi, e, hd, hp⟩ => qx C d fs H2 ad2 M2 n s x ?_)
  · subst e
    intro f
    exact (heard_rest T (by omega) f).1 d hp
  · subst e
    exact ⟨(EX.own i hi).2.2.1, fun f => (heard_rest T (by omega) f).2 i fs d' hi hd hp⟩
end
end My

namespace My
open PySem L2 Fx
section
variable {P : Program} {w : World} {K : PySem.W.Frag} {mg : Str → Option Value} {base : Heap}
def A_law_led (C : Addr) : ASp := fun as M Post => ∃ (m d : Int) (ps : List Int) (cost : Int) (done undone : List Deed), as = [.dat (tI [m, d]), .dat (tI ps), .ls (done.map encD), .ls (undone.map encD), .dat (.int cost)] ∧ Val m d (done ++ undone.reverse) ∧ (done ++ undone.reverse).length ≤ 100 ∧ 0 < ps.length ∧
  ∀ M2 j j1 j2, DeskS C M2 j j1 j2 [m, d] ps cost done undone → Ex9 M M2 → Post (.mut j) M2
theorem d_law_led (T : Txt K mg) {C : Addr} [DT : DeskT K mg C] {cs : Nat → Addr} {TE : Addr} {rs : List Nat} [EX : Exs K mg cs TE rs] [T5 : TxtExc K mg "NoBack" (cs 5)] : DefOk P w K mg base lv_law_led "_law_led" s_law_led ps_law_led (spOf K ps_law_led.length (A_law_led C)) := by
  obtain ⟨fa, fd, hm, F, hb⟩ := T.f_law_led
  refine ⟨fa, fd, hm, F, hb, fn_mk F sc_law_led fun as M Post hl hA => ?_⟩
  obtain ⟨m, d, ps, cost, done, undone, rfl, hV, hlen, hps, q⟩ := hA
  have hlu : undone.length ≤ (done ++ undone.reverse).length := by rw [List.length_append, List.length_reverse]; omega
  have hld : done.length ≤ (done ++ undone.reverse).length := by rw [List.length_append]; omega
  show Run (c_law_led P w K mg base _) [some (.dat (tI [m, d])), some (.dat (tI ps)), some (.ls (done.map encD)), some (.ls (undone.map encD)), some (.dat (.int cost)), none, none, none, none] M _ _
  refine r_cons ?_
  refine s_st (by first | exact Or.inl rfl | exact Or.inr rfl) (by first | exact Or.inl rfl | exact Or.inr rfl) ?_ (fun _ => rfl)
  refine x_make (dm_Desk T) (Nat.le_of_ble_eq_true rfl) rfl ?_ (fun _ => rfl) (fun _ => rfl)
  refine a_cons ?_ (fun _ => rfl)
  refine x_v rfl (by first | exact Or.inl rfl | exact Or.inr (Or.inl rfl) | exact Or.inr (Or.inr rfl)) ?_
  refine a_cons ?_ (fun _ => rfl)
  refine x_v rfl (by first | exact Or.inl rfl | exact Or.inr (Or.inl rfl) | exact Or.inr (Or.inr rfl)) ?_
  refine a_cons ?_ (fun _ => rfl)
  refine x_v rfl (by first | exact Or.inl rfl | exact Or.inr (Or.inl rfl) | exact Or.inr (Or.inr rfl)) ?_
  refine a_nil ⟨rfl, M.length, [m, d], ps, cost, rfl, get_push, fun M2 hD hkp hl2 => ⟨rfl, ?_⟩⟩
  have l1 : (M ++ [MO.ins C []]).length = M.length + 1 := by rw [List.length_append]; rfl
  rw [l1] at hD hl2
  have hE : Ex9 M M2 := ⟨fun i hi => by rw [hkp i (by omega) (by omega), List.getElem?_append_left hi], by omega⟩
  refine r_cons (s_for (i_seq (x_bin ?_)) (fun _ _ => rfl))
  refine x_v rfl (by first | exact Or.inl rfl | exact Or.inr (Or.inl rfl) | exact Or.inr (Or.inr rfl)) ?_
  refine x_F (f_revL ?_)
  refine x_v rfl (by first | exact Or.inl rfl | exact Or.inr (Or.inl rfl) | exact Or.inr (Or.inr rfl)) ?_
  refine ⟨_, isL_ls, ?_⟩
  refine b_catL isL_ls isL_ls (by rw [List.length_reverse, List.length_map, List.length_map]; omega) ?_
  rw [← List.map_reverse, ← List.map_append]
  generalize hS : done ++ undone.reverse = S at *
  refine ⟨_, isS_ls, fun i δ M3 => ∃ j2 z6 z7, M.length ≤ j2 ∧ Ex9 M M3 ∧ DeskS C M3 M.length (M.length + 1) j2 [m, d] ps cost (S.take i) [] ∧ δ = [some (.dat (tI [m, d])), some (.dat (tI ps)), some (.ls (done.map encD)), some (.ls (undone.map encD)), some (.dat (.int cost)), some (.mut M.length), z6, z7, none], ⟨_, _, _, by omega, hE, hD, rfl⟩, fun i δ M2 _ k e => (by cases e), ?_, ?_⟩
  · rintro i dd δ M3 hi ⟨j2, z6, z7, hj2, hE3, hD3, rfl⟩
    rw [List.getElem?_map] at hi
    cases hz : S[i]? with
    | none => rw [hz] at hi; cases hi
    | some z =>
    rw [hz] at hi
    cases hi
    have hil := get_lt hz
    obtain ⟨hr1, hr2, hr3, hr4⟩ := hV.row z (List.mem_of_getElem? hz)
    have hun := hV.undrawn hil
    have htl : (S.take i).length < 1000 := by rw [List.length_take]; omega
    have hst : S.take (i + 1) = S.take i ++ [z] := by rw [List.take_add_one, hz]; rfl
    have ke : ∀ {M4 : List MO} {j3 : Nat}, Kp M3 M4 M.length (M.length + 1) j2 j3 → Ex9 M M4 ∧ M.length ≤ j3 := fun {M4 j3} k => by
      have h1 := hE3.len
      refine ⟨⟨fun n hn => by rw [k.keep n (by omega) (by omega) (by omega) (by omega), hE3.keep n hn], Nat.le_trans h1 k.len⟩, ?_⟩
      rcases k.new with e | e <;> omega
    obtain ⟨zn, zt⟩ := z
    refine gx_2 (by first | exact Or.inl rfl | exact Or.inr rfl) (by first | exact Or.inl rfl | exact Or.inr rfl) (by first | exact Or.inl rfl | exact Or.inr rfl) (by first | exact Or.inl rfl | exact Or.inr rfl) ?_
    refine r_one (s_if (t_cmp ?_ (by rfl)))
    refine x_v rfl (by first | exact Or.inl rfl | exact Or.inr (Or.inl rfl) | exact Or.inr (Or.inr rfl)) ?_
    refine x_non (c_is ?_)
    rw [nm_non]
    cases zn with
    | none =>
      refine ⟨fun _ => ?_, fun h => by cases h⟩
      refine r_one (s_expr ?_ (fun _ => rfl))
      refine x_met (d_Desk_draw T) (Nat.le_of_ble_eq_true rfl) ?_ (fun _ => rfl) (fun _ => rfl) (fun _ => rfl)
      refine x_v rfl (by first | exact Or.inl rfl | exact Or.inr (Or.inl rfl) | exact Or.inr (Or.inr rfl)) ?_
      refine ⟨M.length, _, rfl, hD3.ob, rfl, ?_⟩
      refine a_cons ?_ (fun _ => rfl)
      refine x_v rfl (by first | exact Or.inl rfl | exact Or.inr (Or.inl rfl) | exact Or.inr (Or.inr rfl)) ?_
      refine a_nil ⟨rfl, M.length, M.length + 1, j2, m, d, ps, cost, _, _, zt, rfl, hD3, htl, hr1, hr2, hr3, hr4, hun, hps, fun M4 j3 hD4 hK => ?_⟩
      obtain ⟨k1, k2⟩ := ke hK
      exact ⟨j3, _, _, k2, k1, by rw [hst]; exact hD4, rfl⟩
    | some s =>
      refine ⟨fun h => (by cases h), fun _ => ?_⟩
      refine r_one (s_expr ?_ (fun _ => rfl))
      refine x_met (d_Desk_buy T) (Nat.le_of_ble_eq_true rfl) ?_ (fun _ => rfl) (fun _ => rfl) (fun _ => rfl)
      refine x_v rfl (by first | exact Or.inl rfl | exact Or.inr (Or.inl rfl) | exact Or.inr (Or.inr rfl)) ?_
      refine ⟨M.length, _, rfl, hD3.ob, rfl, ?_⟩
      refine a_cons ?_ (fun _ => rfl)
      refine x_v rfl (by first | exact Or.inl rfl | exact Or.inr (Or.inl rfl) | exact Or.inr (Or.inr rfl)) ?_
      refine a_cons ?_ (fun _ => rfl)
      refine x_v rfl (by first | exact Or.inl rfl | exact Or.inr (Or.inl rfl) | exact Or.inr (Or.inr rfl)) ?_
      refine a_nil ⟨rfl, M.length, M.length + 1, j2, m, d, ps, cost, _, _, s, zt, rfl, hD3, htl, hr1, hr2, hr4, hun, fun M4 j3 hD4 hK => ?_⟩
      obtain ⟨k1, k2⟩ := ke hK
      exact ⟨j3, _, _, k2, k1, by rw [hst]; exact hD4, rfl⟩
  rintro δ M3 ⟨j2, z6, z7, hj2, hE3, hD3, rfl⟩
  rw [List.length_map, List.take_length] at hD3
  refine r_cons ?_
  refine s_for (i_rng1 T.b_range rfl ?_ (fun _ => rfl)) (fun _ _ => rfl)
  refine a_cons ?_ (fun _ => rfl)
  refine x_blt rfl T.b_len PySem.boot_len ?_ (fun _ => rfl) (fun _ => rfl)
  refine a_cons ?_ (fun _ => rfl)
  refine x_v rfl (by first | exact Or.inl rfl | exact Or.inr (Or.inl rfl) | exact Or.inr (Or.inr rfl)) ?_
  refine a_nil (ca_len isS_ls (a_nil ?_))
  rw [List.length_map]
  refine ⟨undone.length, rfl, by omega, by omega, fun i δ M4 => ∃ z8, i ≤ undone.length ∧ Ex9 M M4 ∧ DeskS C M4 M.length (M.length + 1) j2 [m, d] ps cost (S.take (S.length - i)) ((S.drop (S.length - i)).reverse) ∧ δ = [some (.dat (tI [m, d])), some (.dat (tI ps)), some (.ls (done.map encD)), some (.ls (undone.map encD)), some (.dat (.int cost)), some (.mut M.length), z6, z7, z8], ⟨_, by omega, hE3, by rw [Nat.sub_zero, List.take_length, List.drop_length]; exact hD3, rfl⟩, fun i δ M2 _ k e => (by cases e), ?_, ?_⟩
  · rintro i dd δ M4 hi ⟨z8, hiu, hE4, hD4, rfl⟩
    obtain ⟨hi2, rfl⟩ := rg0_get hi
    have hiS : i < S.length := by omega
    obtain ⟨z, e1, e2⟩ := back_step hiS
    refine gx_n (by first | exact Or.inl rfl | exact Or.inr rfl) (by first | exact Or.inl rfl | exact Or.inr rfl) ?_
    refine r_one (s_expr ?_ (fun _ => rfl))
    refine x_rx (e_met0 (d_Desk_back T) (Nat.le_of_ble_eq_true rfl) ?_ (fun _ => rfl))
    refine x_v rfl (by first | exact Or.inl rfl | exact Or.inr (Or.inl rfl) | exact Or.inr (Or.inr rfl)) ?_
    refine ⟨M.length, _, rfl, hD4.ob, rfl, M.length, M.length + 1, j2, _, ps, cost, _, _, rfl, hD4, by rw [List.length_take]; omega, by rw [List.length_reverse, List.length_drop]; omega, fun h => ?_, fun d' z' hdz M5 hD5 hK => ?_⟩
    · have : (S.take (S.length - i)).length = 0 := by rw [h]; rfl
      rw [List.length_take] at this
      omega
    · rw [e1] at hdz
      obtain ⟨a1, a2⟩ := List.append_inj' hdz rfl
      cases a2
      rw [← a1, ← e2] at hD5
      have h1 := hE4.len
      refine ⟨_, by omega, ⟨fun n hn => by rw [hK.keep n (by omega) (by omega) (by omega) (by omega), hE4.keep n hn], Nat.le_trans h1 hK.len⟩, hD5, rfl⟩
  rintro δ M4 ⟨z8, hiu, hE4, hD4, rfl⟩
  rw [rg0_len, Int.toNat_natCast, ← hS, (led_end done undone).1, (led_end done undone).2] at hD4
  refine r_one (s_ret ?_)
  refine x_v rfl (by first | exact Or.inl rfl | exact Or.inr (Or.inl rfl) | exact Or.inr (Or.inr rfl)) ?_
  exact fin_same (q M4 _ _ _ hD4 hE4)
end
end My

namespace My
open PySem L2 Fx
section
variable {P : Program} {w : World} {K : PySem.W.Frag} {mg : Str → Option Value} {base : Heap}
def A_law_word : ASp := fun as M Post => ∃ z : Deed, as = [.dat (encD z)] ∧ Post (.dat (.tup [.str "told", .str (word z)])) M
theorem d_law_word (T : Txt K mg) : DefOk P w K mg base lv_law_word "_law_word" s_law_word ps_law_word (spOf K ps_law_word.length A_law_word) := by
  obtain ⟨fa, fd, hm, F, hb⟩ := T.f_law_word
  refine ⟨fa, fd, hm, F, hb, fn_mk F sc_law_word fun as M Post hl hA => ?_⟩
  obtain ⟨z, rfl, q⟩ := hA
  show Run (c_law_word P w K mg base _) [some (.dat (encD z))] M _ _
  unfold word at q
  refine r_one (s_ret (x_tup (a_cons (x_str ?_) (fun _ => rfl))))
  refine a_cons (x_if (t_cmp (x_ix ?_ (fun _ _ => rfl)) (by rfl))) (fun _ => rfl)
  refine x_v rfl (by first | exact Or.inl rfl | exact Or.inr (Or.inl rfl) | exact Or.inr (Or.inr rfl)) ?_
  refine x_int (ix_tup (d := nmD z.1) (atI_at (n := 0) rfl rfl) ?_)
  refine x_non (c_is ?_)
  rw [nm_non]
  refine ⟨fun h => x_str ?_, fun h => x_str ?_⟩
  · rw [if_pos h] at q
    exact a_nil (dats_ex (by first | exact Nat.le_of_ble_eq_true rfl | decide | (simp; done) | (simp <;> omega)) (fin_same q))
  · rw [if_neg (by rw [h]; decide)] at q
    exact a_nil (dats_ex (by first | exact Nat.le_of_ble_eq_true rfl | decide | (simp; done) | (simp <;> omega)) (fin_same q))
end
end My

namespace My
open PySem L2 Fx
section
variable {P : Program} {w : World} {K : PySem.W.Frag} {mg : Str → Option Value} {base : Heap}
def A_law_unlike (C : Addr) : ASp := fun as M Post => ∃ (j j1 j2 : Nat) (m d : Int) (ps : List Int) (done undone : List Deed), as = [.mut j, .dat (tI [m, d]), .dat (tI ps), .ls (done.map encD), .ls (undone.map encD)] ∧ DeskS C M j j1 j2 [m, d] ps 2 done undone ∧ Val m d (done ++ undone.reverse) ∧ (done ++ undone.reverse).length ≤ 100 ∧ 0 < ps.length ∧ ps.length ≤ 1000 ∧
  ∀ M2, Ex9 M M2 → Post (.dat (.bl true)) M2
theorem d_law_unlike (T : Txt K mg) {C : Addr} [DT : DeskT K mg C] {cs : Nat → Addr} {TE : Addr} {rs : List Nat} [EX : Exs K mg cs TE rs] [T5 : TxtExc K mg "NoBack" (cs 5)] : DefOk P w K mg base lv_law_unlike "_law_unlike" s_law_unlike ps_law_unlike (spOf K ps_law_unlike.length (A_law_unlike C)) := by
  obtain ⟨fa, fd, hm, F, hb⟩ := T.f_law_unlike
  refine ⟨fa, fd, hm, F, hb, fn_mk F sc_law_unlike fun as M Post hl hA => ?_⟩
  obtain ⟨j, j1, j2, m, d, ps, done, undone, rfl, hD, hV, hlen, hps, hps2, q⟩ := hA
  have hlu : undone.length ≤ (done ++ undone.reverse).length := by rw [List.length_append, List.length_reverse]; omega
  have ok1 : NmOk done := hV.nm.app.1
  have ok2 : NmOk undone := fun z hz => hV.nm.app.2 z (List.mem_reverse.mpr hz)
  show Run (c_law_unlike P w K mg base _) [some (.mut j), some (.dat (tI [m, d])), some (.dat (tI ps)), some (.ls (done.map encD)), some (.ls (undone.map encD)), none, none] M _ _
  refine r_cons ?_
  refine s_st (by first | exact Or.inl rfl | exact Or.inr rfl) (by first | exact Or.inl rfl | exact Or.inr rfl) ?_ (fun _ => rfl)
  refine x_la (a_cons ?_ (fun _ => rfl))
  refine x_call (d_law_led T) (Nat.le_of_ble_eq_true rfl) rfl ?_ (fun _ => rfl) (fun _ => rfl)
  repeat (first | refine x_int ?_ | (refine x_v rfl (by first | exact Or.inl rfl | exact Or.inr (Or.inl rfl) | exact Or.inr (Or.inr rfl)) ?_) | (first | refine b_add ?_ | refine b_sub ?_ | refine b_mul (by first | omega | (constructor <;> omega) | exact Or.inl ⟨by omega, by omega⟩ | exact Or.inr ⟨by omega, by omega⟩) ?_ | refine b_div (by first | omega | (constructor <;> omega) | exact Or.inl ⟨by omega, by omega⟩ | exact Or.inr ⟨by omega, by omega⟩) ?_ | refine b_mod (by first | omega | (constructor <;> omega) | exact Or.inl ⟨by omega, by omega⟩ | exact Or.inr ⟨by omega, by omega⟩) ?_ | refine b_strs (by first | omega | (constructor <;> omega) | exact Or.inl ⟨by omega, by omega⟩ | exact Or.inr ⟨by omega, by omega⟩) ?_ | refine b_catT (by first | exact Nat.le_of_ble_eq_true rfl | decide | (simp; done) | (simp <;> omega)) ?_ | refine c_lt ?_ | refine c_le ?_ | refine c_gt ?_ | refine c_ge ?_ | refine c_eqI ?_ | refine c_neI ?_ | refine c_is ?_ | refine c_isnot ?_ | refine c_eqB ?_ | refine c_neB ?_ | refine c_eqS ?_ | refine c_neS ?_ | refine b_iadd ?_ | refine b_isub ?_ | refine b_imul (by first | omega | (constructor <;> omega) | exact Or.inl ⟨by omega, by omega⟩ | exact Or.inr ⟨by omega, by omega⟩) ?_) | refine x_non ?_ | refine x_str ?_ | refine x_bl ?_ | refine x_bin ?_ | refine x_cmp ?_ (by rfl) | refine t_cmp ?_ (by rfl) | refine t_chain ?_ (by with_unfolding_all rfl) | refine x_chain ?_ (by with_unfolding_all rfl) | refine t_not ?_ | refine x_neg ?_ | refine x_if ?_ | refine a_cons ?_ (fun _ => rfl) | refine a_nil ?_ | refine x_tup ?_ | refine x_ix ?_ (fun _ _ => rfl) | refine ix_tup rfl ?_ | refine dats_ex (by first | exact Nat.le_of_ble_eq_true rfl | decide | (simp; done) | (simp <;> omega)) ?_ | refine r_cons ?_ | refine r_nil ?_ | refine s_ret ?_ | refine s_if ?_ | (refine s_st (by first | exact Or.inl rfl | exact Or.inr rfl) (by first | exact Or.inl rfl | exact Or.inr rfl) ?_ (fun _ => rfl)) | (refine s_ag (by first | exact Or.inl rfl | exact Or.inr rfl) (by first | exact Or.inl rfl | exact Or.inr rfl) rfl ?_) | refine s_expr ?_ (fun _ => rfl))
  refine ⟨rfl, m, d, ps, 3, done, undone, rfl, hV, hlen, hps, fun M1 a a1 a2 hA1 hE1 => ?_⟩
  refine a_cons ?_ (fun _ => rfl)
  refine x_call (d_law_led T) (Nat.le_of_ble_eq_true rfl) rfl ?_ (fun _ => rfl) (fun _ => rfl)
  refine a_cons ?_ (fun _ => rfl)
  refine x_v rfl (by first | exact Or.inl rfl | exact Or.inr (Or.inl rfl) | exact Or.inr (Or.inr rfl)) ?_
  refine a_cons (x_bin ?_) (fun _ => rfl)
  refine x_v rfl (by first | exact Or.inl rfl | exact Or.inr (Or.inl rfl) | exact Or.inr (Or.inr rfl)) ?_
  refine x_tup (a_cons (x_int ?_) (fun _ => rfl))
  refine a_nil (dats_ex (by decide) ?_)
  refine b_catT (by rw [List.length_map]; show _ + 1 ≤ _; omega) ?_
  rw [show ps.map D.int ++ [D.int 9] = (ps ++ [9]).map D.int by rw [List.map_append]; rfl]
  repeat (first | refine x_int ?_ | (refine x_v rfl (by first | exact Or.inl rfl | exact Or.inr (Or.inl rfl) | exact Or.inr (Or.inr rfl)) ?_) | (first | refine b_add ?_ | refine b_sub ?_ | refine b_mul (by first | omega | (constructor <;> omega) | exact Or.inl ⟨by omega, by omega⟩ | exact Or.inr ⟨by omega, by omega⟩) ?_ | refine b_div (by first | omega | (constructor <;> omega) | exact Or.inl ⟨by omega, by omega⟩ | exact Or.inr ⟨by omega, by omega⟩) ?_ | refine b_mod (by first | omega | (constructor <;> omega) | exact Or.inl ⟨by omega, by omega⟩ | exact Or.inr ⟨by omega, by omega⟩) ?_ | refine b_strs (by first | omega | (constructor <;> omega) | exact Or.inl ⟨by omega, by omega⟩ | exact Or.inr ⟨by omega, by omega⟩) ?_ | refine b_catT (by first | exact Nat.le_of_ble_eq_true rfl | decide | (simp; done) | (simp <;> omega)) ?_ | refine c_lt ?_ | refine c_le ?_ | refine c_gt ?_ | refine c_ge ?_ | refine c_eqI ?_ | refine c_neI ?_ | refine c_is ?_ | refine c_isnot ?_ | refine c_eqB ?_ | refine c_neB ?_ | refine c_eqS ?_ | refine c_neS ?_ | refine b_iadd ?_ | refine b_isub ?_ | refine b_imul (by first | omega | (constructor <;> omega) | exact Or.inl ⟨by omega, by omega⟩ | exact Or.inr ⟨by omega, by omega⟩) ?_) | refine x_non ?_ | refine x_str ?_ | refine x_bl ?_ | refine x_bin ?_ | refine x_cmp ?_ (by rfl) | refine t_cmp ?_ (by rfl) | refine t_chain ?_ (by with_unfolding_all rfl) | refine x_chain ?_ (by with_unfolding_all rfl) | refine t_not ?_ | refine x_neg ?_ | refine x_if ?_ | refine a_cons ?_ (fun _ => rfl) | refine a_nil ?_ | refine x_tup ?_ | refine x_ix ?_ (fun _ _ => rfl) | refine ix_tup rfl ?_ | refine dats_ex (by first | exact Nat.le_of_ble_eq_true rfl | decide | (simp; done) | (simp <;> omega)) ?_ | refine r_cons ?_ | refine r_nil ?_ | refine s_ret ?_ | refine s_if ?_ | (refine s_st (by first | exact Or.inl rfl | exact Or.inr rfl) (by first | exact Or.inl rfl | exact Or.inr rfl) ?_ (fun _ => rfl)) | (refine s_ag (by first | exact Or.inl rfl | exact Or.inr rfl) (by first | exact Or.inl rfl | exact Or.inr rfl) rfl ?_) | refine s_expr ?_ (fun _ => rfl))
  refine ⟨rfl, m, d, ps ++ [9], 2, done, undone, rfl, hV, hlen, by rw [List.length_append]; omega, fun M2 b b1 b2 hB2 hE2 => ?_⟩
  refine a_nil ⟨Nat.le_of_ble_eq_true rfl, ?_⟩
  refine r_cons ?_
  refine s_st (by first | exact Or.inl rfl | exact Or.inr rfl) (by first | exact Or.inl rfl | exact Or.inr rfl) ?_ (fun _ => rfl)
  refine x_bin ?_
  refine x_v rfl (by first | exact Or.inl rfl | exact Or.inr (Or.inl rfl) | exact Or.inr (Or.inr rfl)) ?_
  refine x_la (a_cons ?_ (fun _ => rfl))
  refine x_call (d_law_led T) (Nat.le_of_ble_eq_true rfl) rfl ?_ (fun _ => rfl) (fun _ => rfl)
  refine a_cons (x_tup (a_cons (x_bin (x_ix ?_ (fun _ _ => rfl))) (fun _ => rfl))) (fun _ => rfl)
  refine x_v rfl (by first | exact Or.inl rfl | exact Or.inr (Or.inl rfl) | exact Or.inr (Or.inr rfl)) ?_
  refine x_int (ix_tup (d := .int m) (atI_at (n := 0) rfl rfl) ?_)
  refine x_int (b_add ?_)
  refine a_cons (x_ix ?_ (fun _ _ => rfl)) (fun _ => rfl)
  refine x_v rfl (by first | exact Or.inl rfl | exact Or.inr (Or.inl rfl) | exact Or.inr (Or.inr rfl)) ?_
  refine x_int (ix_tup (d := .int d) (atI_at (n := 1) rfl rfl) ?_)
  refine a_nil (dats_ex (by first | exact Nat.le_of_ble_eq_true rfl | decide | (simp; done) | (simp <;> omega)) ?_)
  repeat (first | refine x_int ?_ | (refine x_v rfl (by first | exact Or.inl rfl | exact Or.inr (Or.inl rfl) | exact Or.inr (Or.inr rfl)) ?_) | (first | refine b_add ?_ | refine b_sub ?_ | refine b_mul (by first | omega | (constructor <;> omega) | exact Or.inl ⟨by omega, by omega⟩ | exact Or.inr ⟨by omega, by omega⟩) ?_ | refine b_div (by first | omega | (constructor <;> omega) | exact Or.inl ⟨by omega, by omega⟩ | exact Or.inr ⟨by omega, by omega⟩) ?_ | refine b_mod (by first | omega | (constructor <;> omega) | exact Or.inl ⟨by omega, by omega⟩ | exact Or.inr ⟨by omega, by omega⟩) ?_ | refine b_strs (by first | omega | (constructor <;> omega) | exact Or.inl ⟨by omega, by omega⟩ | exact Or.inr ⟨by omega, by omega⟩) ?_ | refine b_catT (by first | exact Nat.le_of_ble_eq_true rfl | decide | (simp; done) | (simp <;> omega)) ?_ | refine c_lt ?_ | refine c_le ?_ | refine c_gt ?_ | refine c_ge ?_ | refine c_eqI ?_ | refine c_neI ?_ | refine c_is ?_ | refine c_isnot ?_ | refine c_eqB ?_ | refine c_neB ?_ | refine c_eqS ?_ | refine c_neS ?_ | refine b_iadd ?_ | refine b_isub ?_ | refine b_imul (by first | omega | (constructor <;> omega) | exact Or.inl ⟨by omega, by omega⟩ | exact Or.inr ⟨by omega, by omega⟩) ?_) | refine x_non ?_ | refine x_str ?_ | refine x_bl ?_ | refine x_bin ?_ | refine x_cmp ?_ (by rfl) | refine t_cmp ?_ (by rfl) | refine t_chain ?_ (by with_unfolding_all rfl) | refine x_chain ?_ (by with_unfolding_all rfl) | refine t_not ?_ | refine x_neg ?_ | refine x_if ?_ | refine a_cons ?_ (fun _ => rfl) | refine a_nil ?_ | refine x_tup ?_ | refine x_ix ?_ (fun _ _ => rfl) | refine ix_tup rfl ?_ | refine dats_ex (by first | exact Nat.le_of_ble_eq_true rfl | decide | (simp; done) | (simp <;> omega)) ?_ | refine r_cons ?_ | refine r_nil ?_ | refine s_ret ?_ | refine s_if ?_ | (refine s_st (by first | exact Or.inl rfl | exact Or.inr rfl) (by first | exact Or.inl rfl | exact Or.inr rfl) ?_ (fun _ => rfl)) | (refine s_ag (by first | exact Or.inl rfl | exact Or.inr rfl) (by first | exact Or.inl rfl | exact Or.inr rfl) rfl ?_) | refine s_expr ?_ (fun _ => rfl))
  refine ⟨rfl, m + 1, d, ps, 2, done, undone, rfl, hV.wide (by omega), hlen, hps, fun M3 e e1 e2 hE3' hE3 => ?_⟩
  refine a_cons (x_tup (a_cons ?_ (fun _ => rfl))) (fun _ => rfl)
  refine x_v rfl (by first | exact Or.inl rfl | exact Or.inr (Or.inl rfl) | exact Or.inr (Or.inr rfl)) ?_
  refine a_cons ?_ (fun _ => rfl)
  refine x_v rfl (by first | exact Or.inl rfl | exact Or.inr (Or.inl rfl) | exact Or.inr (Or.inr rfl)) ?_
  refine a_cons (x_int ?_) (fun _ => rfl)
  refine a_nil (dats_ex (by first | exact Nat.le_of_ble_eq_true rfl | decide | (simp; done) | (simp <;> omega)) ?_)
  refine a_nil ⟨Nat.le_of_ble_eq_true rfl, ?_⟩
  refine b_catA (Nat.le_of_ble_eq_true rfl) ?_
  have hE13 := hE2.trans hE3
  have hE03 := hE1.trans hE13
  have dk := hE03.desk hD
  have da := hE13.desk hA1
  have db := hE3.desk hB2
  refine r_cons (s_ifF (t_cmp ?_ (by rfl)) ?_)
  · refine x_F (f_lcA [("other", 6)] (fun _ : AV => .bl false) (fun _ => true) (blkOk_by (by kernel_rfl)) nk_law_unlike.nd (i_la ?_) (fun _ _ => rfl))
    refine x_v rfl (by first | exact Or.inl rfl | exact Or.inr (Or.inl rfl) | exact Or.inr (Or.inr rfl)) ?_
    refine ⟨_, rfl, _, id, (List.map_id _).symm, Nat.le_of_ble_eq_true rfl, trivial, fun x hx => ?_, ?_⟩
    · refine ltA_n (by first | exact List.mem_cons_self | exact List.mem_cons_of_mem _ List.mem_cons_self | (simp; done)) (by first | exact Or.inl rfl | exact Or.inr rfl) (by first | exact Or.inl rfl | exact Or.inr rfl) ?_
      refine ts_nil ⟨fun _ => ?_, fun h => by cases h⟩
      refine x_cmp ?_ (by rfl)
      refine x_v rfl (by first | exact Or.inl rfl | exact Or.inr (Or.inl rfl) | exact Or.inr (Or.inr rfl)) ?_
      refine x_v rfl (by first | exact Or.inl rfl | exact Or.inr (Or.inl rfl) | exact Or.inr (Or.inr rfl)) ?_
      simp only [List.cons_append, List.nil_append, List.mem_cons, List.not_mem_nil, or_false] at hx
      rcases hx with rfl | rfl | rfl | rfl
      · exact c_eqO DT.ce (d_Desk___eq__ T) (Nat.le_of_ble_eq_true rfl) dk.ob (.inl ⟨_, _, rfl, da.ob⟩) ⟨j, j1, j2, _, _, _, _, _, _, rfl, dk, ok1, ok2, .inl ⟨_, _, _, _, _, _, _, _, rfl, da, ok1, ok2, _, rfl, _, rfl, rfl, by simp, rfl⟩⟩
      · exact c_eqO DT.ce (d_Desk___eq__ T) (Nat.le_of_ble_eq_true rfl) dk.ob (.inl ⟨_, _, rfl, db.ob⟩) ⟨j, j1, j2, _, _, _, _, _, _, rfl, dk, ok1, ok2, .inl ⟨_, _, _, _, _, _, _, _, rfl, db, ok1, ok2, _, rfl, _, rfl, rfl, by simp, rfl⟩⟩
      · exact c_eqO DT.ce (d_Desk___eq__ T) (Nat.le_of_ble_eq_true rfl) dk.ob (.inl ⟨_, _, rfl, hE3'.ob⟩) ⟨j, j1, j2, _, _, _, _, _, _, rfl, dk, ok1, ok2, .inl ⟨_, _, _, _, _, _, _, _, rfl, hE3', ok1, ok2, _, rfl, _, rfl, rfl, by simp; omega, rfl⟩⟩
      · exact c_eqO DT.ce (d_Desk___eq__ T) (Nat.le_of_ble_eq_true rfl) dk.ob (.inr ⟨_, rfl⟩) ⟨j, j1, j2, _, _, _, _, _, _, rfl, dk, ok1, ok2, .inr ⟨_, rfl, _, rfl, _, rfl, rfl, rfl, rfl⟩⟩
    rw [List.filter_true']
    refine x_bin (x_F (f_lst (a_cons (x_bl ?_) (fun _ => rfl))))
    refine a_nil (dats_ex (by first | exact Nat.le_of_ble_eq_true rfl | decide | (simp; done) | (simp <;> omega)) ?_)
    refine x_int (b_repL isL_ls (by decide) (by decide) (Nat.le_of_ble_eq_true rfl) ?_)
    exact c_neL_same 0 isL_ls isL_ls rfl rfl ⟨rfl, rfl⟩
  have okS : NmOk (done ++ undone.reverse) := hV.nm
  refine r_nil (r_cons (s_if (t_W (w_and (t_cmp ?_ (by rfl))))))
  refine x_v rfl (by first | exact Or.inl rfl | exact Or.inr (Or.inl rfl) | exact Or.inr (Or.inr rfl)) ?_
  refine x_F (f_lst (a_nil (dats_ex (by decide) ?_)))
  refine c_neNil 2 (ok_deeds ok2 0) ?_
  rw [isEmpty_map']
  refine ⟨fun hu => ?_, fun _ => ⟨fun h => (by cases h), fun _ => r_nil (r_one (s_ret (x_bl (fin_same (q _ hE03)))))⟩⟩
  have hune : undone ≠ [] := fun z => by rw [z] at hu; cases hu
  refine w_and1 (t_cmp ?_ (by rfl))
  refine x_v rfl (by first | exact Or.inl rfl | exact Or.inr (Or.inl rfl) | exact Or.inr (Or.inr rfl)) ?_
  refine x_call (d_law_led T) (Nat.le_of_ble_eq_true rfl) rfl ?_ (fun _ => rfl) (fun _ => rfl)
  refine a_cons ?_ (fun _ => rfl)
  refine x_v rfl (by first | exact Or.inl rfl | exact Or.inr (Or.inl rfl) | exact Or.inr (Or.inr rfl)) ?_
  refine a_cons ?_ (fun _ => rfl)
  refine x_v rfl (by first | exact Or.inl rfl | exact Or.inr (Or.inl rfl) | exact Or.inr (Or.inr rfl)) ?_
  refine a_cons (x_bin ?_) (fun _ => rfl)
  refine x_v rfl (by first | exact Or.inl rfl | exact Or.inr (Or.inl rfl) | exact Or.inr (Or.inr rfl)) ?_
  refine x_F (f_revL ?_)
  refine x_v rfl (by first | exact Or.inl rfl | exact Or.inr (Or.inl rfl) | exact Or.inr (Or.inr rfl)) ?_
  refine ⟨_, isL_ls, ?_⟩
  refine b_catL isL_ls isL_ls (by rw [List.length_reverse, List.length_map, List.length_map]; rw [List.length_append, List.length_reverse] at hlen; omega) ?_
  rw [← List.map_reverse, ← List.map_append]
  refine a_cons (x_F (f_lst (a_nil (dats_ex (by decide) ?_)))) (fun _ => rfl)
  refine a_cons (x_int ?_) (fun _ => rfl)
  refine a_nil ⟨rfl, m, d, ps, 2, done ++ undone.reverse, [], rfl, by rw [List.reverse_nil, List.append_nil]; exact hV, by rw [List.reverse_nil, List.append_nil]; exact hlen, hps, fun M4 g g1 g2 hG hE4 => ?_⟩
  have dk4 := hE4.desk dk
  refine c_eqO DT.ce (d_Desk___eq__ T) (Nat.le_of_ble_eq_true rfl) dk4.ob (.inl ⟨_, _, rfl, hG.ob⟩) ⟨j, j1, j2, _, _, _, _, _, _, rfl, dk4, ok1, ok2, .inl ⟨_, _, _, _, _, _, _, _, rfl, hG, okS, fun z hz => (by cases hz), _, rfl, ?_⟩⟩
  rw [decide_eq_false (fun z => hune z.2.2.2.2)]
  exact ⟨fun h => (by cases h), fun _ => r_nil (r_one (s_ret (x_bl (fin_same (q _ (hE03.trans hE4))))))⟩
end
end My

namespace My
open PySem L2 Fx
section
variable {P : Program} {w : World} {K : PySem.W.Frag} {mg : Str → Option Value} {base : Heap}
theorem dmK_Desk (T : Txt K mg) {C : Addr} [DT : DeskT K mg C] : MakK P w K mg base lv_Desk___init__ "Desk" C ps_Desk___init__ 2 ["price"] (fun as bs => as ++ bs) (spOf K ps_Desk___init__.length (A_Desk___init__ C)) := by
  obtain ⟨f, fd, MK, F⟩ := DT.m_Desk___init__
  obtain ⟨its, hb⟩ := F.kbindsD (ps := ps_Desk___init__) 3 ["price"] (fun us its ws => us ++ ws) (by simp) (fun r1 r2 r3 => vals_append r1 r3) (fun T kV doc pm an cdv ct us its ws h1 h2 h3 => match us, its, ws, h1, h2, h3 with | [_, _, _], [_], [_], _, _, _ => ⟨_, rfl, rfl⟩)
  refine ⟨f, fd, _, _, MK, d_Desk___init__ T F, DT.gC, hb, fun ad H as bs vs zs r1 r2 l1 l2 => ⟨repAs_append r1 r2, ?_⟩⟩
  show (vs ++ zs).length = 4
  rw [List.length_append, l1, l2]
  rfl
structure S37 (C Pl : Addr) (M : List MO) (j2 : Nat) (mn dn : Int) (ps : List Int) (done undone : List Deed) : Prop where
  t0 : M[0]? = some (.tab Pl q_law)
  t1 : M[1]? = some (.town 2)
  t2 : M[2]? = some .rests
  dk : DeskS C M 3 4 j2 [mn, dn] ps 2 done undone
  n2 : 5 ≤ j2
  vl : Val mn dn (done ++ undone.reverse)
section
variable {C Pl : Addr} {M M2 : List MO} {j2 j3 : Nat} {mn dn : Int} {ps : List Int} {done done2 undone undone2 : List Deed}
theorem S37.kp (s : S37 C Pl M j2 mn dn ps done undone) (k : Kp M M2 3 4 j2 j3) (h : DeskS C M2 3 4 j3 [mn, dn] ps 2 done2 undone2) (v : Val mn dn (done2 ++ undone2.reverse)) : S37 C Pl M2 j3 mn dn ps done2 undone2 := by
  have n2 := s.n2
  have l2 := get_lt s.dk.dn
  refine ⟨(k.at_ s.t0 (by omega) (by omega) (by omega)).1, (k.at_ s.t1 (by omega) (by omega) (by omega)).1, (k.at_ s.t2 (by omega) (by omega) (by omega)).1, h, ?_, v⟩
  rcases k.new with z | z
  · omega
  · omega
theorem S37.ex (s : S37 C Pl M j2 mn dn ps done undone) (e : Ex9 M M2) : S37 C Pl M2 j2 mn dn ps done undone := ⟨e.at_ s.t0, e.at_ s.t1, e.at_ s.t2, e.desk s.dk, s.n2, s.vl⟩
theorem undrawn_some (h : ((done.filter fun z => z.1.isNone).map encD).isEmpty = true) : ∀ z ∈ done, z.1.isSome = true := fun z hz => by
  rw [isEmpty_map'] at h
  cases hs : z.1 with
  | some s => rfl
  | none =>
    have : z ∈ done.filter fun z => z.1.isNone := List.mem_filter.mpr ⟨hz, by rw [hs]; rfl⟩
    rw [List.isEmpty_iff.mp h] at this
    cases this
theorem Val.snoc (v : Val mn dn (done ++ undone.reverse)) (hs : ∀ z ∈ done, z.1.isSome = true) {z : Deed} (hr : Row mn z.2 ∧ z.2 ≠ [] ∧ (z.2.length : Int) = dn ∧ z.2.length ≤ 1000) (hn : ∀ s, z.1 = some s → PyData.strOk s = true) : Val mn dn (done ++ [z] ++ ([] : List Deed).reverse) := by
  rw [List.reverse_nil, List.append_nil]
  refine ⟨fun y hy => ?_, fun y hy => ?_, fun y hy => ?_⟩
  · rcases List.mem_append.mp hy with h | h
    · exact v.row y (List.mem_append_left _ h)
    · rw [List.mem_singleton.mp h]; exact hr
  · rw [List.dropLast_concat] at hy
    exact hs y hy
  · rcases List.mem_append.mp hy with h | h
    · exact v.nm y (List.mem_append_left _ h)
    · rw [List.mem_singleton.mp h]; exact hn
theorem Val.drawn9 (v : Val mn dn (done ++ undone.reverse)) {w : List Int} (hw : drawnL done = some w) : w.length ≤ 1000 := by
  unfold drawnL at hw
  obtain ⟨z, hz, rfl⟩ := List.mem_map.mp (List.mem_of_mem_head? hw)
  exact (v.row z (List.mem_append_left _ (List.mem_filter.mp hz).1)).2.2.2
theorem ok_names (h : NmOk done) : okD 1 (.tup ((namesL done).map D.str)) = true := by
  show ((namesL done).map D.str).all (okD 0) = true
  rw [List.all_map]
  refine List.all_eq_true.mpr fun s hs => ?_
  obtain ⟨t, ht⟩ := names_mem.mp hs
  exact h _ (List.mem_filter.mp ht).1 s rfl
theorem word_ok (z : Deed) : okD 1 (.tup [.str "told", .str (word z)]) = true := by
  unfold word
  cases z.1.isNone
  · show okD 1 (.tup [.str "told", .str "buy"]) = true
    decide +kernel
  · show okD 1 (.tup [.str "told", .str "draw"]) = true
    decide +kernel
end
def A_law (Pl : Addr) : ASp := fun as M Post => ∃ ns : List Int, as = [.scr ns] ∧ M = [.tab Pl q_law] ∧ ns.length ≤ 63 ∧ Post (.dat (.bl true)) M
theorem fn_law (T : Txt K mg) {Pl : Addr} [TF : TabOf K mg base "law" Pl] {cs : Nat → Addr} {TE : Addr} [EX : Exs K mg cs TE [5]] [T5 : TxtExc K mg "NoBack" (cs 5)] {C : Addr} [DT : DeskT K mg C] {fa : Addr} {fd : FuncData} (hm : mg "law" = some (.ref fa)) (F : Fun K "law" "law" s_law fa fd) : FnOk P w K mg base CX0 lv_law fa fd ps_law (spOf K ps_law.length (A_law Pl)) := by
  obtain ⟨cb, TB, hcd⟩ := TF.ex
  have hcode : fd.code = .ref cb := by
    obtain ⟨oc, od, kV, doc, pm, an, cdv, ct, osl, rfl, lk, _⟩ := F.ex
    exact hcd _ _ _ hm lk rfl
  refine fn_mkL F hcode sc_law fun as M Post hl hA => ?_
  obtain ⟨ns, rfl, rfl, hn, q⟩ := hA
  have q2 : ∀ M2 : List MO, M2[0]? = some (.tab Pl q_law) → Fin [.tab Pl q_law] Post (.dat (.bl true)) M2 := fun M2 h0 => by
    match M2, h0 with
    | m0 :: rest, h0 =>
      cases h0
      exact fin_dat (M := [.tab Pl q_law]) (rest := rest) q
  show Run (cL_law P w K mg base cb _) [some (.scr ns), none, none, none, none, none, none, none, none, none, none, none, none, none, none, none] [.tab Pl q_law] _ _
  refine r_cons ?_
  refine s_st (by first | exact Or.inl rfl | exact Or.inr rfl) (by first | exact Or.inl rfl | exact Or.inr rfl) ?_ (fun _ => rfl)
  refine x_call0 (d_law_begun T) (Nat.le_of_ble_eq_true rfl) rfl ?_
  refine ⟨rfl, ?_⟩
  refine r_cons ?_
  refine s_st (by first | exact Or.inl rfl | exact Or.inr rfl) (by first | exact Or.inl rfl | exact Or.inr rfl) ?_ (fun _ => rfl)
  refine x_call (d_law_a_lot T) (Nat.le_of_ble_eq_true rfl) rfl ?_ (fun _ => rfl) (fun _ => rfl)
  repeat (first | refine x_int ?_ | (refine x_v rfl (by first | exact Or.inl rfl | exact Or.inr (Or.inl rfl) | exact Or.inr (Or.inr rfl)) ?_) | (first | refine b_add ?_ | refine b_sub ?_ | refine b_mul (by first | omega | (constructor <;> omega) | exact Or.inl ⟨by omega, by omega⟩ | exact Or.inr ⟨by omega, by omega⟩) ?_ | refine b_div (by first | omega | (constructor <;> omega) | exact Or.inl ⟨by omega, by omega⟩ | exact Or.inr ⟨by omega, by omega⟩) ?_ | refine b_mod (by first | omega | (constructor <;> omega) | exact Or.inl ⟨by omega, by omega⟩ | exact Or.inr ⟨by omega, by omega⟩) ?_ | refine b_strs (by first | omega | (constructor <;> omega) | exact Or.inl ⟨by omega, by omega⟩ | exact Or.inr ⟨by omega, by omega⟩) ?_ | refine b_catT (by first | exact Nat.le_of_ble_eq_true rfl | decide | (simp; done) | (simp <;> omega)) ?_ | refine c_lt ?_ | refine c_le ?_ | refine c_gt ?_ | refine c_ge ?_ | refine c_eqI ?_ | refine c_neI ?_ | refine c_is ?_ | refine c_isnot ?_ | refine c_eqB ?_ | refine c_neB ?_ | refine c_eqS ?_ | refine c_neS ?_ | refine b_iadd ?_ | refine b_isub ?_ | refine b_imul (by first | omega | (constructor <;> omega) | exact Or.inl ⟨by omega, by omega⟩ | exact Or.inr ⟨by omega, by omega⟩) ?_) | refine x_non ?_ | refine x_str ?_ | refine x_bl ?_ | refine x_bin ?_ | refine x_cmp ?_ (by rfl) | refine t_cmp ?_ (by rfl) | refine t_chain ?_ (by with_unfolding_all rfl) | refine x_chain ?_ (by with_unfolding_all rfl) | refine t_not ?_ | refine x_neg ?_ | refine x_if ?_ | refine a_cons ?_ (fun _ => rfl) | refine a_nil ?_ | refine x_tup ?_ | refine x_ix ?_ (fun _ _ => rfl) | refine ix_tup rfl ?_ | refine dats_ex (by first | exact Nat.le_of_ble_eq_true rfl | decide | (simp; done) | (simp <;> omega)) ?_ | refine r_cons ?_ | refine r_nil ?_ | refine s_ret ?_ | refine s_if ?_ | (refine s_st (by first | exact Or.inl rfl | exact Or.inr rfl) (by first | exact Or.inl rfl | exact Or.inr rfl) ?_ (fun _ => rfl)) | (refine s_ag (by first | exact Or.inl rfl | exact Or.inr rfl) (by first | exact Or.inl rfl | exact Or.inr rfl) rfl ?_) | refine s_expr ?_ (fun _ => rfl))
  refine ⟨rfl, ns, 1, 2, 6, rfl, hn, rfl, rfl, by omega, by omega, fun m d h1 h2 h3 => ?_⟩
  obtain ⟨mn, rfl⟩ : ∃ mn : Nat, m = (mn : Int) := ⟨m.toNat, by omega⟩
  obtain ⟨dn, rfl⟩ : ∃ dn : Nat, d = (dn : Int) := ⟨d.toNat, by omega⟩
  have hdm : dn ≤ mn := by omega
  refine r_cons ?_
  refine s_st (by first | exact Or.inl rfl | exact Or.inr rfl) (by first | exact Or.inl rfl | exact Or.inr rfl) ?_ (fun _ => rfl)
  refine x_ty rfl T.b_tuple PyProof.Rows.boot_tuple ?_ (fun _ => rfl) (fun _ => rfl)
  refine a_cons ?_ (fun _ => rfl)
  refine x_F (f_lc [("j", 4)] (blkOk_by (by kernel_rfl)) nk_law.nd (i_rng1 T.b_range rfl ?_ (fun _ => rfl)) (fun _ _ => rfl))
  refine a_cons (x_bin (x_int ?_)) (fun _ => rfl)
  refine x_call (d_law_draw T) (Nat.le_of_ble_eq_true rfl) rfl ?_ (fun _ => rfl) (fun _ => rfl)
  repeat (first | refine x_int ?_ | (refine x_v rfl (by first | exact Or.inl rfl | exact Or.inr (Or.inl rfl) | exact Or.inr (Or.inr rfl)) ?_) | (first | refine b_add ?_ | refine b_sub ?_ | refine b_mul (by first | omega | (constructor <;> omega) | exact Or.inl ⟨by omega, by omega⟩ | exact Or.inr ⟨by omega, by omega⟩) ?_ | refine b_div (by first | omega | (constructor <;> omega) | exact Or.inl ⟨by omega, by omega⟩ | exact Or.inr ⟨by omega, by omega⟩) ?_ | refine b_mod (by first | omega | (constructor <;> omega) | exact Or.inl ⟨by omega, by omega⟩ | exact Or.inr ⟨by omega, by omega⟩) ?_ | refine b_strs (by first | omega | (constructor <;> omega) | exact Or.inl ⟨by omega, by omega⟩ | exact Or.inr ⟨by omega, by omega⟩) ?_ | refine b_catT (by first | exact Nat.le_of_ble_eq_true rfl | decide | (simp; done) | (simp <;> omega)) ?_ | refine c_lt ?_ | refine c_le ?_ | refine c_gt ?_ | refine c_ge ?_ | refine c_eqI ?_ | refine c_neI ?_ | refine c_is ?_ | refine c_isnot ?_ | refine c_eqB ?_ | refine c_neB ?_ | refine c_eqS ?_ | refine c_neS ?_ | refine b_iadd ?_ | refine b_isub ?_ | refine b_imul (by first | omega | (constructor <;> omega) | exact Or.inl ⟨by omega, by omega⟩ | exact Or.inr ⟨by omega, by omega⟩) ?_) | refine x_non ?_ | refine x_str ?_ | refine x_bl ?_ | refine x_bin ?_ | refine x_cmp ?_ (by rfl) | refine t_cmp ?_ (by rfl) | refine t_chain ?_ (by with_unfolding_all rfl) | refine x_chain ?_ (by with_unfolding_all rfl) | refine t_not ?_ | refine x_neg ?_ | refine x_if ?_ | refine a_cons ?_ (fun _ => rfl) | refine a_nil ?_ | refine x_tup ?_ | refine x_ix ?_ (fun _ _ => rfl) | refine ix_tup rfl ?_ | refine dats_ex (by first | exact Nat.le_of_ble_eq_true rfl | decide | (simp; done) | (simp <;> omega)) ?_ | refine r_cons ?_ | refine r_nil ?_ | refine s_ret ?_ | refine s_if ?_ | (refine s_st (by first | exact Or.inl rfl | exact Or.inr rfl) (by first | exact Or.inl rfl | exact Or.inr rfl) ?_ (fun _ => rfl)) | (refine s_ag (by first | exact Or.inl rfl | exact Or.inr rfl) (by first | exact Or.inl rfl | exact Or.inr rfl) rfl ?_) | refine s_expr ?_ (fun _ => rfl))
  refine ⟨rfl, ns, 1, 2, 3, rfl, hn, rfl, rfl, by omega, by omega, fun r h4 h5 => ?_⟩
  refine b_add (a_nil ⟨1 + r, rfl, by omega, by omega, by rw [rg0_len]; omega, fun a acc M2 => M2 = [.tab Pl q_law, .town 2, .rests] ∧ ∃ ps : List Int, acc = ps.map D.int ∧ ps.length = a, ⟨rfl, [], rfl, rfl⟩, fun i acc M2 hI j e => (by cases e), ?_, ?_⟩)
  · rintro a dd acc M2 ha ⟨rfl, ps, rfl, hpl⟩
    obtain ⟨h6, rfl⟩ := rg0_get ha
    refine lt_n (by first | exact List.mem_cons_self | exact List.mem_cons_of_mem _ List.mem_cons_self | (simp; done)) (by first | exact Or.inl rfl | exact Or.inr rfl) (by first | exact Or.inl rfl | exact Or.inr rfl) ?_
    refine ts_nil ⟨fun _ => ?_, fun h => by cases h⟩
    refine x_call (d_law_draw T) (Nat.le_of_ble_eq_true rfl) rfl ?_ (fun _ => rfl) (fun _ => rfl)
    repeat (first | refine x_int ?_ | (refine x_v rfl (by first | exact Or.inl rfl | exact Or.inr (Or.inl rfl) | exact Or.inr (Or.inr rfl)) ?_) | (first | refine b_add ?_ | refine b_sub ?_ | refine b_mul (by first | omega | (constructor <;> omega) | exact Or.inl ⟨by omega, by omega⟩ | exact Or.inr ⟨by omega, by omega⟩) ?_ | refine b_div (by first | omega | (constructor <;> omega) | exact Or.inl ⟨by omega, by omega⟩ | exact Or.inr ⟨by omega, by omega⟩) ?_ | refine b_mod (by first | omega | (constructor <;> omega) | exact Or.inl ⟨by omega, by omega⟩ | exact Or.inr ⟨by omega, by omega⟩) ?_ | refine b_strs (by first | omega | (constructor <;> omega) | exact Or.inl ⟨by omega, by omega⟩ | exact Or.inr ⟨by omega, by omega⟩) ?_ | refine b_catT (by first | exact Nat.le_of_ble_eq_true rfl | decide | (simp; done) | (simp <;> omega)) ?_ | refine c_lt ?_ | refine c_le ?_ | refine c_gt ?_ | refine c_ge ?_ | refine c_eqI ?_ | refine c_neI ?_ | refine c_is ?_ | refine c_isnot ?_ | refine c_eqB ?_ | refine c_neB ?_ | refine c_eqS ?_ | refine c_neS ?_ | refine b_iadd ?_ | refine b_isub ?_ | refine b_imul (by first | omega | (constructor <;> omega) | exact Or.inl ⟨by omega, by omega⟩ | exact Or.inr ⟨by omega, by omega⟩) ?_) | refine x_non ?_ | refine x_str ?_ | refine x_bl ?_ | refine x_bin ?_ | refine x_cmp ?_ (by rfl) | refine t_cmp ?_ (by rfl) | refine t_chain ?_ (by with_unfolding_all rfl) | refine x_chain ?_ (by with_unfolding_all rfl) | refine t_not ?_ | refine x_neg ?_ | refine x_if ?_ | refine a_cons ?_ (fun _ => rfl) | refine a_nil ?_ | refine x_tup ?_ | refine x_ix ?_ (fun _ _ => rfl) | refine ix_tup rfl ?_ | refine dats_ex (by first | exact Nat.le_of_ble_eq_true rfl | decide | (simp; done) | (simp <;> omega)) ?_ | refine r_cons ?_ | refine r_nil ?_ | refine s_ret ?_ | refine s_if ?_ | (refine s_st (by first | exact Or.inl rfl | exact Or.inr rfl) (by first | exact Or.inl rfl | exact Or.inr rfl) ?_ (fun _ => rfl)) | (refine s_ag (by first | exact Or.inl rfl | exact Or.inr rfl) (by first | exact Or.inl rfl | exact Or.inr rfl) rfl ?_) | refine s_expr ?_ (fun _ => rfl))
    refine ⟨rfl, ns, 1, 2, 6, rfl, hn, rfl, rfl, by omega, by omega, fun r7 h7 h8 => ?_⟩
    exact ⟨_, rfl, rfl, ps ++ [r7], by rw [List.map_append]; rfl, by rw [List.length_append, hpl]; rfl⟩
  rintro acc M2 ⟨rfl, ps, rfl, hpl⟩
  rw [rg0_len] at hpl
  have hps : 0 < ps.length := by omega
  have hps2 : ps.length ≤ 1000 := by omega
  refine a_nil (ca_tuple isS_ls ?_)
  refine r_cons ?_
  refine s_p2 (by decide) rfl rfl ?_ (swaps_of fun _ => rfl) (fun _ => rfl)
  refine a_cons (x_F (f_lst (a_nil (dats_ex (by decide) ?_)))) (fun _ => rfl)
  refine a_cons (x_F (f_lst (a_nil (dats_ex (by decide) ?_)))) (fun _ => rfl)
  refine a_nil ⟨_, _, rfl, ?_⟩
  refine r_cons ?_
  refine s_st (by first | exact Or.inl rfl | exact Or.inr rfl) (by first | exact Or.inl rfl | exact Or.inr rfl) ?_ (fun _ => rfl)
  refine x_makeK (dmK_Desk T) (Nat.le_of_ble_eq_true rfl) rfl ?_ (fun _ => rfl) (fun _ => rfl) (fun _ => rfl) (fun _ => rfl)
  refine a_cons ?_ (fun _ => rfl)
  refine x_v rfl (by first | exact Or.inl rfl | exact Or.inr (Or.inl rfl) | exact Or.inr (Or.inr rfl)) ?_
  refine a_cons ?_ (fun _ => rfl)
  refine x_v rfl (by first | exact Or.inl rfl | exact Or.inr (Or.inl rfl) | exact Or.inr (Or.inr rfl)) ?_
  refine a_nil (k_cons (x_int ?_))
  refine k_nil ⟨rfl, rfl, 3, [mn, dn], ps, 2, rfl, rfl, fun M2 hD hkp hlen => ⟨rfl, ?_⟩⟩
  have S : S37 C Pl M2 5 mn dn ps [] [] := ⟨hkp 0 (by decide) (Nat.le_of_ble_eq_true rfl), hkp 1 (by decide) (Nat.le_of_ble_eq_true rfl), hkp 2 (by decide) (Nat.le_of_ble_eq_true rfl), hD, Nat.le_refl _, ⟨fun z hz => (by cases hz), fun z hz => (by cases hz), fun z hz => (by cases hz)⟩⟩
  refine r_cons ?_
  refine s_for (i_rng1 T.b_range rfl ?_ (fun _ => rfl)) (fun _ _ => rfl)
  repeat (first | refine x_int ?_ | (refine x_v rfl (by first | exact Or.inl rfl | exact Or.inr (Or.inl rfl) | exact Or.inr (Or.inr rfl)) ?_) | (first | refine b_add ?_ | refine b_sub ?_ | refine b_mul (by first | omega | (constructor <;> omega) | exact Or.inl ⟨by omega, by omega⟩ | exact Or.inr ⟨by omega, by omega⟩) ?_ | refine b_div (by first | omega | (constructor <;> omega) | exact Or.inl ⟨by omega, by omega⟩ | exact Or.inr ⟨by omega, by omega⟩) ?_ | refine b_mod (by first | omega | (constructor <;> omega) | exact Or.inl ⟨by omega, by omega⟩ | exact Or.inr ⟨by omega, by omega⟩) ?_ | refine b_strs (by first | omega | (constructor <;> omega) | exact Or.inl ⟨by omega, by omega⟩ | exact Or.inr ⟨by omega, by omega⟩) ?_ | refine b_catT (by first | exact Nat.le_of_ble_eq_true rfl | decide | (simp; done) | (simp <;> omega)) ?_ | refine c_lt ?_ | refine c_le ?_ | refine c_gt ?_ | refine c_ge ?_ | refine c_eqI ?_ | refine c_neI ?_ | refine c_is ?_ | refine c_isnot ?_ | refine c_eqB ?_ | refine c_neB ?_ | refine c_eqS ?_ | refine c_neS ?_ | refine b_iadd ?_ | refine b_isub ?_ | refine b_imul (by first | omega | (constructor <;> omega) | exact Or.inl ⟨by omega, by omega⟩ | exact Or.inr ⟨by omega, by omega⟩) ?_) | refine x_non ?_ | refine x_str ?_ | refine x_bl ?_ | refine x_bin ?_ | refine x_cmp ?_ (by rfl) | refine t_cmp ?_ (by rfl) | refine t_chain ?_ (by with_unfolding_all rfl) | refine x_chain ?_ (by with_unfolding_all rfl) | refine t_not ?_ | refine x_neg ?_ | refine x_if ?_ | refine a_cons ?_ (fun _ => rfl) | refine a_nil ?_ | refine x_tup ?_ | refine x_ix ?_ (fun _ _ => rfl) | refine ix_tup rfl ?_ | refine dats_ex (by first | exact Nat.le_of_ble_eq_true rfl | decide | (simp; done) | (simp <;> omega)) ?_ | refine r_cons ?_ | refine r_nil ?_ | refine s_ret ?_ | refine s_if ?_ | (refine s_st (by first | exact Or.inl rfl | exact Or.inr rfl) (by first | exact Or.inl rfl | exact Or.inr rfl) ?_ (fun _ => rfl)) | (refine s_ag (by first | exact Or.inl rfl | exact Or.inr rfl) (by first | exact Or.inl rfl | exact Or.inr rfl) rfl ?_) | refine s_expr ?_ (fun _ => rfl))
  refine ⟨20, rfl, by omega, by omega, fun i δ M5 => ∃ (j2 : Nat) (done undone : List Deed), S37 C Pl M5 j2 mn dn ps done undone ∧ done.length + undone.length ≤ i ∧ ∃ z8 z9 z10 z11 z12 z13 z14 z15, δ = [some (.scr ns), some (.mut 1), some (.dat (tI [mn, dn])), some (.dat (tI ps)), none, some (.ls (done.map encD)), some (.ls (undone.map encD)), some (.mut 3), z8, z9, z10, z11, z12, z13, z14, z15], ⟨5, [], [], S, Nat.le_refl _, _, _, _, _, _, _, _, _, rfl⟩, fun i δ M2 _ k e => (by cases e), ?_, ?_⟩
  · rintro i dd δ M5 hi ⟨j2, done, undone, S5, hdi, z8, z9, z10, z11, z12, z13, z14, z15, rfl⟩
    obtain ⟨h20, rfl⟩ := rg0_get hi
    have hdl : done.length < 100 := by omega
    have hul : undone.length < 100 := by omega
    refine gx_n (by first | exact Or.inl rfl | exact Or.inr rfl) (by first | exact Or.inl rfl | exact Or.inr rfl) ?_
    refine r_cons ?_
    refine s_p2 (by decide) rfl rfl ?_ (swaps_of fun _ => rfl) (fun _ => rfl)
    refine a_cons ?_ (fun _ => rfl)
    refine x_call (d_law_draw T) (Nat.le_of_ble_eq_true rfl) rfl ?_ (fun _ => rfl) (fun _ => rfl)
    repeat (first | refine x_int ?_ | (refine x_v rfl (by first | exact Or.inl rfl | exact Or.inr (Or.inl rfl) | exact Or.inr (Or.inr rfl)) ?_) | (first | refine b_add ?_ | refine b_sub ?_ | refine b_mul (by first | omega | (constructor <;> omega) | exact Or.inl ⟨by omega, by omega⟩ | exact Or.inr ⟨by omega, by omega⟩) ?_ | refine b_div (by first | omega | (constructor <;> omega) | exact Or.inl ⟨by omega, by omega⟩ | exact Or.inr ⟨by omega, by omega⟩) ?_ | refine b_mod (by first | omega | (constructor <;> omega) | exact Or.inl ⟨by omega, by omega⟩ | exact Or.inr ⟨by omega, by omega⟩) ?_ | refine b_strs (by first | omega | (constructor <;> omega) | exact Or.inl ⟨by omega, by omega⟩ | exact Or.inr ⟨by omega, by omega⟩) ?_ | refine b_catT (by first | exact Nat.le_of_ble_eq_true rfl | decide | (simp; done) | (simp <;> omega)) ?_ | refine c_lt ?_ | refine c_le ?_ | refine c_gt ?_ | refine c_ge ?_ | refine c_eqI ?_ | refine c_neI ?_ | refine c_is ?_ | refine c_isnot ?_ | refine c_eqB ?_ | refine c_neB ?_ | refine c_eqS ?_ | refine c_neS ?_ | refine b_iadd ?_ | refine b_isub ?_ | refine b_imul (by first | omega | (constructor <;> omega) | exact Or.inl ⟨by omega, by omega⟩ | exact Or.inr ⟨by omega, by omega⟩) ?_) | refine x_non ?_ | refine x_str ?_ | refine x_bl ?_ | refine x_bin ?_ | refine x_cmp ?_ (by rfl) | refine t_cmp ?_ (by rfl) | refine t_chain ?_ (by with_unfolding_all rfl) | refine x_chain ?_ (by with_unfolding_all rfl) | refine t_not ?_ | refine x_neg ?_ | refine x_if ?_ | refine a_cons ?_ (fun _ => rfl) | refine a_nil ?_ | refine x_tup ?_ | refine x_ix ?_ (fun _ _ => rfl) | refine ix_tup rfl ?_ | refine dats_ex (by first | exact Nat.le_of_ble_eq_true rfl | decide | (simp; done) | (simp <;> omega)) ?_ | refine r_cons ?_ | refine r_nil ?_ | refine s_ret ?_ | refine s_if ?_ | (refine s_st (by first | exact Or.inl rfl | exact Or.inr rfl) (by first | exact Or.inl rfl | exact Or.inr rfl) ?_ (fun _ => rfl)) | (refine s_ag (by first | exact Or.inl rfl | exact Or.inr rfl) (by first | exact Or.inl rfl | exact Or.inr rfl) rfl ?_) | refine s_expr ?_ (fun _ => rfl))
    refine ⟨rfl, ns, 1, 2, 7, rfl, hn, S5.t1, S5.t2, by omega, by omega, fun ra hra0 hra1 => ?_⟩
    refine a_cons (x_cmp ?_ (by rfl)) (fun _ => rfl)
    refine x_F (f_lcP [("deed", 11)] (fun z : Deed => encD z) (fun z => z.1.isNone) (blkOk_by (by kernel_rfl)) nk_law.nd (i_seq ?_) (fun _ _ => rfl))
    refine x_v rfl (by first | exact Or.inl rfl | exact Or.inr (Or.inl rfl) | exact Or.inr (Or.inr rfl)) ?_
    refine ⟨_, isS_ls, done, encD, rfl, by omega, fun i e => (by cases e), fun z hz => ?_, ?_⟩
    · refine lt_n (by first | exact List.mem_cons_self | exact List.mem_cons_of_mem _ List.mem_cons_self | (simp; done)) (by first | exact Or.inl rfl | exact Or.inr rfl) (by first | exact Or.inl rfl | exact Or.inr rfl) ?_
      refine ts_one (t_cmp (x_ix ?_ (fun _ _ => rfl)) (by rfl))
      refine x_v rfl (by first | exact Or.inl rfl | exact Or.inr (Or.inl rfl) | exact Or.inr (Or.inr rfl)) ?_
      refine x_int (ix_tup (d := nmD z.1) (atI_at (n := 0) rfl rfl) ?_)
      refine x_non (c_is ?_)
      rw [nm_non]
      refine ⟨fun h => ?_, fun h => ⟨h, rfl⟩⟩
      refine x_v rfl (by first | exact Or.inl rfl | exact Or.inr (Or.inl rfl) | exact Or.inr (Or.inr rfl)) ?_
      exact ⟨_, rfl, h, rfl, rfl⟩
    refine x_F (f_lst (a_nil (dats_ex (by decide) ?_)))
    have okd : NmOk done := S5.vl.nm.app.1
    refine c_neNil 2 (ok_deeds (fun z hz => okd z (List.mem_filter.mp hz).1) 0) ?_
    refine a_nil ⟨_, _, rfl, ?_⟩
    refine r_cons (s_join (fun δ M6 => ∃ (j2 : Nat) (done undone : List Deed), S37 C Pl M6 j2 mn dn ps done undone ∧ done.length + undone.length ≤ i + 1 ∧ ∃ z8 z9 z10 z11 z12 z13 z14 z15, δ = [some (.scr ns), some (.mut 1), some (.dat (tI [mn, dn])), some (.dat (tI ps)), none, some (.ls (done.map encD)), some (.ls (undone.map encD)), some (.mut 3), z8, z9, z10, z11, z12, z13, z14, z15]) ?_ ?_)
    · generalize hcl : ((done.filter fun z => z.1.isNone).map encD).isEmpty = cl
      by_cases hb : ra < 4 ∧ cl = true
      · obtain ⟨hb1, hb2⟩ := hb
        subst hb2
        have hsome := undrawn_some hcl
        have hdn : drawnL done = none := drawn_none hsome
        refine s_ifT ?_ ?_
        · refine t_W (w_and (t_cmp ?_ (by rfl)))
          refine x_v rfl (by first | exact Or.inl rfl | exact Or.inr (Or.inl rfl) | exact Or.inr (Or.inr rfl)) ?_
          refine x_int (c_lt ⟨fun _ => w_and1 (t_not (t_val ?_ (fun _ _ => rfl))), fun h => absurd hb1 (of_decide_eq_false h)⟩)
          refine x_v rfl (by first | exact Or.inl rfl | exact Or.inr (Or.inl rfl) | exact Or.inr (Or.inr rfl)) ?_
          exact ⟨_, rfl, rfl, rfl⟩
        refine r_cons ?_
        refine s_st (by first | exact Or.inl rfl | exact Or.inr rfl) (by first | exact Or.inl rfl | exact Or.inr rfl) ?_ (fun _ => rfl)
        refine x_call (d_law_a_row T) (Nat.le_of_ble_eq_true rfl) rfl ?_ (fun _ => rfl) (fun _ => rfl)
        refine a_cons ?_ (fun _ => rfl)
        refine x_v rfl (by first | exact Or.inl rfl | exact Or.inr (Or.inl rfl) | exact Or.inr (Or.inr rfl)) ?_
        refine a_cons ?_ (fun _ => rfl)
        refine x_v rfl (by first | exact Or.inl rfl | exact Or.inr (Or.inl rfl) | exact Or.inr (Or.inr rfl)) ?_
        refine a_cons (x_ix ?_ (fun _ _ => rfl)) (fun _ => rfl)
        refine x_v rfl (by first | exact Or.inl rfl | exact Or.inr (Or.inl rfl) | exact Or.inr (Or.inr rfl)) ?_
        refine x_int (ix_tup (d := .int mn) (atI_at (n := 0) rfl rfl) ?_)
        refine a_cons (x_ix ?_ (fun _ _ => rfl)) (fun _ => rfl)
        refine x_v rfl (by first | exact Or.inl rfl | exact Or.inr (Or.inl rfl) | exact Or.inr (Or.inr rfl)) ?_
        refine x_int (ix_tup (d := .int dn) (atI_at (n := 1) rfl rfl) ?_)
        refine a_nil ⟨rfl, ns, 1, 2, mn, dn, rfl, hn, S5.t1, S5.t2, by omega, by omega, by omega, fun row hrow hrl => ?_⟩
        have hrne : row ≠ [] := fun e => by rw [e] at hrl; have : ([] : List Int).length = 0 := rfl; omega
        have hr4 : Row mn row ∧ row ≠ [] ∧ (row.length : Int) = dn ∧ row.length ≤ 1000 := ⟨hrow, hrne, by omega, by omega⟩
        refine r_cons ?_
        refine s_st (by first | exact Or.inl rfl | exact Or.inr rfl) (by first | exact Or.inl rfl | exact Or.inr rfl) ?_ (fun _ => rfl)
        refine x_ix ?_ (fun _ _ => rfl)
        refine x_F (f_lst (a_cons (x_str ?_) (fun _ => rfl)))
        refine a_cons (x_str ?_) (fun _ => rfl)
        refine a_cons (x_non ?_) (fun _ => rfl)
        refine a_cons (x_str ?_) (fun _ => rfl)
        refine a_nil (dats_ex (by decide +kernel) ?_)
        refine x_call (d_law_draw T) (Nat.le_of_ble_eq_true rfl) rfl ?_ (fun _ => rfl) (fun _ => rfl)
        repeat (first | refine x_int ?_ | (refine x_v rfl (by first | exact Or.inl rfl | exact Or.inr (Or.inl rfl) | exact Or.inr (Or.inr rfl)) ?_) | (first | refine b_add ?_ | refine b_sub ?_ | refine b_mul (by first | omega | (constructor <;> omega) | exact Or.inl ⟨by omega, by omega⟩ | exact Or.inr ⟨by omega, by omega⟩) ?_ | refine b_div (by first | omega | (constructor <;> omega) | exact Or.inl ⟨by omega, by omega⟩ | exact Or.inr ⟨by omega, by omega⟩) ?_ | refine b_mod (by first | omega | (constructor <;> omega) | exact Or.inl ⟨by omega, by omega⟩ | exact Or.inr ⟨by omega, by omega⟩) ?_ | refine b_strs (by first | omega | (constructor <;> omega) | exact Or.inl ⟨by omega, by omega⟩ | exact Or.inr ⟨by omega, by omega⟩) ?_ | refine b_catT (by first | exact Nat.le_of_ble_eq_true rfl | decide | (simp; done) | (simp <;> omega)) ?_ | refine c_lt ?_ | refine c_le ?_ | refine c_gt ?_ | refine c_ge ?_ | refine c_eqI ?_ | refine c_neI ?_ | refine c_is ?_ | refine c_isnot ?_ | refine c_eqB ?_ | refine c_neB ?_ | refine c_eqS ?_ | refine c_neS ?_ | refine b_iadd ?_ | refine b_isub ?_ | refine b_imul (by first | omega | (constructor <;> omega) | exact Or.inl ⟨by omega, by omega⟩ | exact Or.inr ⟨by omega, by omega⟩) ?_) | refine x_non ?_ | refine x_str ?_ | refine x_bl ?_ | refine x_bin ?_ | refine x_cmp ?_ (by rfl) | refine t_cmp ?_ (by rfl) | refine t_chain ?_ (by with_unfolding_all rfl) | refine x_chain ?_ (by with_unfolding_all rfl) | refine t_not ?_ | refine x_neg ?_ | refine x_if ?_ | refine a_cons ?_ (fun _ => rfl) | refine a_nil ?_ | refine x_tup ?_ | refine x_ix ?_ (fun _ _ => rfl) | refine ix_tup rfl ?_ | refine dats_ex (by first | exact Nat.le_of_ble_eq_true rfl | decide | (simp; done) | (simp <;> omega)) ?_ | refine r_cons ?_ | refine r_nil ?_ | refine s_ret ?_ | refine s_if ?_ | (refine s_st (by first | exact Or.inl rfl | exact Or.inr rfl) (by first | exact Or.inl rfl | exact Or.inr rfl) ?_ (fun _ => rfl)) | (refine s_ag (by first | exact Or.inl rfl | exact Or.inr rfl) (by first | exact Or.inl rfl | exact Or.inr rfl) rfl ?_) | refine s_expr ?_ (fun _ => rfl))
        refine ⟨rfl, ns, 1, 2, 4, rfl, hn, S5.t1, S5.t2, by omega, by omega, fun rb hb0 hb1 => ?_⟩
        obtain ⟨o, hs, hok⟩ : ∃ o : Option Str, ([D.str "al", D.str "bo", D.non, D.str "al"] : List D)[rb.toNat]? = some (nmD o) ∧ ∀ s, o = some s → PyData.strOk s = true := by
          have : rb = 0 ∨ rb = 1 ∨ rb = 2 ∨ rb = 3 := by omega
          rcases this with rfl | rfl | rfl | rfl
          · exact ⟨some "al", rfl, fun s e => by cases e; decide +kernel⟩
          · exact ⟨some "bo", rfl, fun s e => by cases e; decide +kernel⟩
          · exact ⟨none, rfl, fun s e => by cases e⟩
          · exact ⟨some "al", rfl, fun s e => by cases e; decide +kernel⟩
        refine ix_ls (d := nmD o) (atI_at (n := rb.toNat) (by omega) hs) ?_
        have V6 := S5.vl.snoc hsome (z := (o, row)) hr4 hok
        refine r_cons (s_join (fun δ M6 => ∃ j3, S37 C Pl M6 j3 mn dn ps (done ++ [(o, row)]) [] ∧ δ = [some (.scr ns), some (.mut 1), some (.dat (tI [mn, dn])), some (.dat (tI ps)), none, some (.ls (done.map encD)), some (.ls (undone.map encD)), some (.mut 3), some (.dat (.int i)), some (.dat (.int ra)), some (.dat (.bl (!true))), z11, some (.dat (tI row)), some (.dat (nmD o)), z14, z15]) (s_if (t_cmp ?_ (by rfl))) ?_)
        · refine x_v rfl (by first | exact Or.inl rfl | exact Or.inr (Or.inl rfl) | exact Or.inr (Or.inr rfl)) ?_
          refine x_non (c_is ?_)
          rw [nm_non]
          cases o with
          | none =>
            refine ⟨fun _ => ?_, fun h => by cases h⟩
            refine r_one (s_expr ?_ (fun _ => rfl))
            refine x_met (d_Desk_draw T) (Nat.le_of_ble_eq_true rfl) ?_ (fun _ => rfl) (fun _ => rfl) (fun _ => rfl)
            refine x_v rfl (by first | exact Or.inl rfl | exact Or.inr (Or.inl rfl) | exact Or.inr (Or.inr rfl)) ?_
            refine ⟨3, _, rfl, S5.dk.ob, rfl, ?_⟩
            refine a_cons ?_ (fun _ => rfl)
            refine x_v rfl (by first | exact Or.inl rfl | exact Or.inr (Or.inl rfl) | exact Or.inr (Or.inr rfl)) ?_
            refine a_nil ⟨rfl, 3, 4, j2, mn, dn, ps, 2, done, undone, row, rfl, S5.dk, by omega, hr4.1, hr4.2.1, hr4.2.2.1, hr4.2.2.2, hdn, hps, fun M6 j3 hD6 hK6 => ?_⟩
            exact ⟨j3, S5.kp hK6 hD6 V6, rfl⟩
          | some s =>
            refine ⟨fun h => (by cases h), fun _ => ?_⟩
            refine r_one (s_expr ?_ (fun _ => rfl))
            refine x_met (d_Desk_buy T) (Nat.le_of_ble_eq_true rfl) ?_ (fun _ => rfl) (fun _ => rfl) (fun _ => rfl)
            refine x_v rfl (by first | exact Or.inl rfl | exact Or.inr (Or.inl rfl) | exact Or.inr (Or.inr rfl)) ?_
            refine ⟨3, _, rfl, S5.dk.ob, rfl, ?_⟩
            refine a_cons ?_ (fun _ => rfl)
            refine x_v rfl (by first | exact Or.inl rfl | exact Or.inr (Or.inl rfl) | exact Or.inr (Or.inr rfl)) ?_
            refine a_cons ?_ (fun _ => rfl)
            refine x_v rfl (by first | exact Or.inl rfl | exact Or.inr (Or.inl rfl) | exact Or.inr (Or.inr rfl)) ?_
            refine a_nil ⟨rfl, 3, 4, j2, mn, dn, ps, 2, done, undone, s, row, rfl, S5.dk, by omega, hr4.1, hr4.2.1, hr4.2.2.2, hdn, fun M6 j3 hD6 hK6 => ?_⟩
            exact ⟨j3, S5.kp hK6 hD6 V6, rfl⟩
        rintro δ M6 ⟨j3, S6, rfl⟩
        refine r_one ?_
        refine s_p2 (by decide) rfl rfl ?_ (swaps_of fun _ => rfl) (fun _ => rfl)
        refine a_cons (x_bin ?_) (fun _ => rfl)
        refine x_v rfl (by first | exact Or.inl rfl | exact Or.inr (Or.inl rfl) | exact Or.inr (Or.inr rfl)) ?_
        refine x_F (f_lst (a_cons (x_tup (a_cons ?_ (fun _ => rfl))) (fun _ => rfl)))
        refine x_v rfl (by first | exact Or.inl rfl | exact Or.inr (Or.inl rfl) | exact Or.inr (Or.inr rfl)) ?_
        refine a_cons ?_ (fun _ => rfl)
        refine x_v rfl (by first | exact Or.inl rfl | exact Or.inr (Or.inl rfl) | exact Or.inr (Or.inr rfl)) ?_
        refine a_nil (dats_ex (by first | exact Nat.le_of_ble_eq_true rfl | decide | (simp; done) | (simp <;> omega)) ?_)
        refine a_nil (dats_ex (by first | exact Nat.le_of_ble_eq_true rfl | decide | (simp; done) | (simp <;> omega)) ?_)
        refine b_catL isL_ls isL_ls (by rw [List.length_map]; show done.length + 1 ≤ _; omega) ?_
        refine a_cons (x_F (f_lst (a_nil (dats_ex (by decide) ?_)))) (fun _ => rfl)
        refine a_nil ⟨_, _, rfl, ?_⟩
        exact ⟨j3, done ++ [(o, row)], [], S6, by (rw [List.length_append]; show done.length + 1 + 0 ≤ _; omega), _, _, _, _, _, _, _, _, by rw [List.map_append]; rfl⟩
      · refine s_ifF ?_ ?_
        · refine t_W (w_and (t_cmp ?_ (by rfl)))
          refine x_v rfl (by first | exact Or.inl rfl | exact Or.inr (Or.inl rfl) | exact Or.inr (Or.inr rfl)) ?_
          refine x_int (c_lt ⟨fun h => w_and1 (t_not (t_val ?_ (fun _ _ => rfl))), fun h => ⟨rfl, rfl⟩⟩)
          refine x_v rfl (by first | exact Or.inl rfl | exact Or.inr (Or.inl rfl) | exact Or.inr (Or.inr rfl)) ?_
          refine ⟨_, rfl, ?_, rfl⟩
          cases cl with
          | false => rfl
          | true => exact absurd ⟨of_decide_eq_true h, rfl⟩ hb
        refine r_one (s_if (t_cmp ?_ (by rfl)))
        refine x_v rfl (by first | exact Or.inl rfl | exact Or.inr (Or.inl rfl) | exact Or.inr (Or.inr rfl)) ?_
        refine x_int (c_lt ⟨fun _ => ?_, fun _ => ?_⟩)
        · cases hdz : done with
          | nil =>
            subst hdz
            refine r_cons ?_
            refine s_st (by first | exact Or.inl rfl | exact Or.inr rfl) (by first | exact Or.inl rfl | exact Or.inr rfl) ?_ (fun _ => rfl)
            refine x_if (t_tru ?_ (fun _ _ => rfl))
            refine x_v rfl (by first | exact Or.inl rfl | exact Or.inr (Or.inl rfl) | exact Or.inr (Or.inr rfl)) ?_
            refine ⟨_, rfl, fun h => (by cases h), fun _ => ?_⟩
            refine x_tup (a_cons (x_str ?_) (fun _ => rfl))
            refine a_nil (dats_ex (by decide +kernel) ?_)
            refine r_cons ?_
            refine s_p2 (by decide) rfl rfl ?_ (swaps_of fun _ => rfl) (fun _ => rfl)
            refine a_cons (x_F (f_slL ?_)) (fun _ => rfl)
            refine x_v rfl (by first | exact Or.inl rfl | exact Or.inr (Or.inl rfl) | exact Or.inr (Or.inr rfl)) ?_
            refine o_none (o_some (x_neg (x_int ⟨1, rfl, ⟨-1, rfl, _, isL_ls, ?_⟩⟩)))
            rw [cut_init]
            refine a_cons (x_bin ?_) (fun _ => rfl)
            refine x_v rfl (by first | exact Or.inl rfl | exact Or.inr (Or.inl rfl) | exact Or.inr (Or.inr rfl)) ?_
            refine x_F (f_slL ?_)
            refine x_v rfl (by first | exact Or.inl rfl | exact Or.inr (Or.inl rfl) | exact Or.inr (Or.inr rfl)) ?_
            refine o_some (x_neg (x_int ⟨1, rfl, ⟨-1, rfl, o_none ⟨_, isL_ls, ?_⟩⟩⟩))
            rw [cut_tail]
            refine b_catL isL_ls isL_ls (by rw [List.length_map]; show undone.length + 0 ≤ _; omega) ?_
            refine a_nil ⟨_, _, rfl, ?_⟩
            refine r_one (s_ifF (t_cmp ?_ (by rfl)) ?_)
            · refine x_hd T (k := 3) (jt := 0) TB S5.t0 (LamX.lamS_by (by kernel_rfl)) (fun _ => rfl) (fun _ _ _ _ _ => rfl) rfl ?_
              refine e_met0 (d_Desk_back T) (Nat.le_of_ble_eq_true rfl) ?_ (fun _ => rfl)
              refine x_v rfl (by first | exact Or.inl rfl | exact Or.inr (Or.inl rfl) | exact Or.inr (Or.inr rfl)) ?_
              refine ⟨3, _, rfl, S5.dk.ob, rfl, 3, 4, j2, _, ps, 2, _, _, rfl, S5.dk, by decide, by omega, fun _ => ⟨5, _, by simp, rfl, rfl, ?_⟩, fun d z e => absurd e (by simp)⟩
              refine x_v rfl (by first | exact Or.inl rfl | exact Or.inr (Or.inl rfl) | exact Or.inr (Or.inr rfl)) ?_
              exact c_ne_same 1 rfl (by decide +kernel) ⟨rfl, rfl⟩
            exact r_nil ⟨j2, [], undone, S5, by omega, _, _, _, _, _, _, _, _, by rw [show undone.map encD ++ List.drop ((([] : List Deed).map encD).length - 1) (([] : List Deed).map encD) = undone.map encD from List.append_nil _]; rfl⟩
          | cons y9 d9 =>
            obtain ⟨d, z, hdz2⟩ := snoc_of (show done ≠ [] from fun e => by rw [e] at hdz; cases hdz)
            rw [← hdz]
            clear hdz
            subst hdz2
            have hll : (d ++ [z]).length = d.length + 1 := by rw [List.length_append]; rfl
            rw [hll] at hdl hdi
            have hem : (d ++ [z]).map encD = d.map encD ++ [encD z] := by rw [List.map_append]; rfl
            refine r_cons ?_
            refine s_st (by first | exact Or.inl rfl | exact Or.inr rfl) (by first | exact Or.inl rfl | exact Or.inr rfl) ?_ (fun _ => rfl)
            refine x_if (t_tru ?_ (fun _ _ => rfl))
            refine x_v rfl (by first | exact Or.inl rfl | exact Or.inr (Or.inl rfl) | exact Or.inr (Or.inr rfl)) ?_
            refine ⟨true, by rw [hem]; show true = !(d.map encD ++ [encD z]).isEmpty; cases d.map encD <;> rfl, fun _ => ?_, fun h => by cases h⟩
            refine x_call (d_law_word T) (Nat.le_of_ble_eq_true rfl) rfl ?_ (fun _ => rfl) (fun _ => rfl)
            refine a_cons (x_ix ?_ (fun _ _ => rfl)) (fun _ => rfl)
            refine x_v rfl (by first | exact Or.inl rfl | exact Or.inr (Or.inl rfl) | exact Or.inr (Or.inr rfl)) ?_
            refine x_neg (x_int ⟨1, rfl, ?_⟩)
            refine ix_ls (d := encD z) (atI_lastD (by rw [hem, List.length_append]; show 0 < _ + 1; omega) (by rw [hem, List.length_append]; show (d.map encD ++ [encD z])[(d.map encD).length + 1 - 1]? = _; rw [Nat.add_sub_cancel, List.getElem?_append_right (Nat.le_refl _), Nat.sub_self]; rfl)) ?_
            refine a_nil ⟨rfl, z, rfl, ?_⟩
            refine r_cons ?_
            refine s_p2 (by decide) rfl rfl ?_ (swaps_of fun _ => rfl) (fun _ => rfl)
            refine a_cons (x_F (f_slL ?_)) (fun _ => rfl)
            refine x_v rfl (by first | exact Or.inl rfl | exact Or.inr (Or.inl rfl) | exact Or.inr (Or.inr rfl)) ?_
            refine o_none (o_some (x_neg (x_int ⟨1, rfl, ⟨-1, rfl, _, isL_ls, ?_⟩⟩)))
            rw [cut_init, hem, List.dropLast_concat]
            refine a_cons (x_bin ?_) (fun _ => rfl)
            refine x_v rfl (by first | exact Or.inl rfl | exact Or.inr (Or.inl rfl) | exact Or.inr (Or.inr rfl)) ?_
            refine x_F (f_slL ?_)
            refine x_v rfl (by first | exact Or.inl rfl | exact Or.inr (Or.inl rfl) | exact Or.inr (Or.inr rfl)) ?_
            refine o_some (x_neg (x_int ⟨1, rfl, ⟨-1, rfl, o_none ⟨_, isL_ls, ?_⟩⟩⟩))
            rw [cut_tail, List.length_append, show (d.map encD).length + [encD z].length - 1 = (d.map encD).length from Nat.add_sub_cancel _ _, List.drop_left]
            refine b_catL isL_ls isL_ls (by rw [List.length_map]; show undone.length + 1 ≤ _; omega) ?_
            refine a_nil ⟨_, _, rfl, ?_⟩
            refine r_one (s_if (t_cmp ?_ (by rfl)))
            refine x_hd T (k := 3) (jt := 0) TB S5.t0 (LamX.lamS_by (by kernel_rfl)) (fun _ => rfl) (fun _ _ _ _ _ => rfl) rfl ?_
            refine e_met0 (d_Desk_back T) (Nat.le_of_ble_eq_true rfl) ?_ (fun _ => rfl)
            refine x_v rfl (by first | exact Or.inl rfl | exact Or.inr (Or.inl rfl) | exact Or.inr (Or.inr rfl)) ?_
            refine ⟨3, _, rfl, S5.dk.ob, rfl, 3, 4, j2, _, ps, 2, _, _, rfl, S5.dk, by rw [hll]; omega, by omega, fun e => absurd e (by simp), fun d' z' e M6 hD6 hK6 => ?_⟩
            obtain ⟨e1, e2⟩ := List.append_inj' e rfl
            cases e2
            subst e1
            refine ⟨_, rfl, ?_⟩
            refine x_v rfl (by first | exact Or.inl rfl | exact Or.inr (Or.inl rfl) | exact Or.inr (Or.inr rfl)) ?_
            refine c_ne_same 1 rfl (word_ok z) ⟨fun h => (by cases h), fun _ => r_nil ?_⟩
            have V6 : Val mn dn (d ++ (undone ++ [z]).reverse) := by
              have := S5.vl
              rw [List.append_assoc] at this
              rw [List.reverse_append]
              exact this
            exact ⟨j2, d, undone ++ [z], S5.kp hK6 hD6 V6, by (rw [List.length_append]; show d.length + (undone.length + 1) ≤ _; omega), _, _, _, _, _, _, _, _, by rw [List.map_append]; rfl⟩
        · cases hdz : undone with
          | nil =>
            subst hdz
            refine r_cons ?_
            refine s_st (by first | exact Or.inl rfl | exact Or.inr rfl) (by first | exact Or.inl rfl | exact Or.inr rfl) ?_ (fun _ => rfl)
            refine x_if (t_tru ?_ (fun _ _ => rfl))
            refine x_v rfl (by first | exact Or.inl rfl | exact Or.inr (Or.inl rfl) | exact Or.inr (Or.inr rfl)) ?_
            refine ⟨_, rfl, fun h => (by cases h), fun _ => ?_⟩
            refine x_tup (a_cons (x_str ?_) (fun _ => rfl))
            refine a_nil (dats_ex (by decide +kernel) ?_)
            refine r_cons ?_
            refine s_p2 (by decide) rfl rfl ?_ (swaps_of fun _ => rfl) (fun _ => rfl)
            refine a_cons (x_bin ?_) (fun _ => rfl)
            refine x_v rfl (by first | exact Or.inl rfl | exact Or.inr (Or.inl rfl) | exact Or.inr (Or.inr rfl)) ?_
            refine x_F (f_slL ?_)
            refine x_v rfl (by first | exact Or.inl rfl | exact Or.inr (Or.inl rfl) | exact Or.inr (Or.inr rfl)) ?_
            refine o_some (x_neg (x_int ⟨1, rfl, ⟨-1, rfl, o_none ⟨_, isL_ls, ?_⟩⟩⟩))
            rw [cut_tail]
            refine b_catL isL_ls isL_ls (by rw [List.length_map]; show done.length + 0 ≤ _; omega) ?_
            refine a_cons (x_F (f_slL ?_)) (fun _ => rfl)
            refine x_v rfl (by first | exact Or.inl rfl | exact Or.inr (Or.inl rfl) | exact Or.inr (Or.inr rfl)) ?_
            refine o_none (o_some (x_neg (x_int ⟨1, rfl, ⟨-1, rfl, _, isL_ls, ?_⟩⟩)))
            rw [cut_init]
            refine a_nil ⟨_, _, rfl, ?_⟩
            refine r_one (s_ifF (t_cmp ?_ (by rfl)) ?_)
            · refine x_hd T (k := 3) (jt := 0) TB S5.t0 (LamX.lamS_by (by kernel_rfl)) (fun _ => rfl) (fun _ _ _ _ _ => rfl) rfl ?_
              refine e_met0 (d_Desk_again T) (Nat.le_of_ble_eq_true rfl) ?_ (fun _ => rfl)
              refine x_v rfl (by first | exact Or.inl rfl | exact Or.inr (Or.inl rfl) | exact Or.inr (Or.inr rfl)) ?_
              refine ⟨3, _, rfl, S5.dk.ob, rfl, 3, 4, j2, _, ps, 2, _, _, rfl, S5.dk, by omega, by decide, fun _ => ⟨5, _, by simp, rfl, rfl, ?_⟩, fun d z e => absurd e (by simp)⟩
              refine x_v rfl (by first | exact Or.inl rfl | exact Or.inr (Or.inl rfl) | exact Or.inr (Or.inr rfl)) ?_
              exact c_ne_same 1 rfl (by decide +kernel) ⟨rfl, rfl⟩
            exact r_nil ⟨j2, done, [], S5, by omega, _, _, _, _, _, _, _, _, by rw [show done.map encD ++ List.drop ((([] : List Deed).map encD).length - 1) (([] : List Deed).map encD) = done.map encD from List.append_nil _]; rfl⟩
          | cons y9 d9 =>
            obtain ⟨d, z, hdz2⟩ := snoc_of (show undone ≠ [] from fun e => by rw [e] at hdz; cases hdz)
            rw [← hdz]
            clear hdz
            subst hdz2
            have hll : (d ++ [z]).length = d.length + 1 := by rw [List.length_append]; rfl
            rw [hll] at hul hdi
            have hem : (d ++ [z]).map encD = d.map encD ++ [encD z] := by rw [List.map_append]; rfl
            refine r_cons ?_
            refine s_st (by first | exact Or.inl rfl | exact Or.inr rfl) (by first | exact Or.inl rfl | exact Or.inr rfl) ?_ (fun _ => rfl)
            refine x_if (t_tru ?_ (fun _ _ => rfl))
            refine x_v rfl (by first | exact Or.inl rfl | exact Or.inr (Or.inl rfl) | exact Or.inr (Or.inr rfl)) ?_
            refine ⟨true, by rw [hem]; show true = !(d.map encD ++ [encD z]).isEmpty; cases d.map encD <;> rfl, fun _ => ?_, fun h => by cases h⟩
            refine x_call (d_law_word T) (Nat.le_of_ble_eq_true rfl) rfl ?_ (fun _ => rfl) (fun _ => rfl)
            refine a_cons (x_ix ?_ (fun _ _ => rfl)) (fun _ => rfl)
            refine x_v rfl (by first | exact Or.inl rfl | exact Or.inr (Or.inl rfl) | exact Or.inr (Or.inr rfl)) ?_
            refine x_neg (x_int ⟨1, rfl, ?_⟩)
            refine ix_ls (d := encD z) (atI_lastD (by rw [hem, List.length_append]; show 0 < _ + 1; omega) (by rw [hem, List.length_append]; show (d.map encD ++ [encD z])[(d.map encD).length + 1 - 1]? = _; rw [Nat.add_sub_cancel, List.getElem?_append_right (Nat.le_refl _), Nat.sub_self]; rfl)) ?_
            refine a_nil ⟨rfl, z, rfl, ?_⟩
            refine r_cons ?_
            refine s_p2 (by decide) rfl rfl ?_ (swaps_of fun _ => rfl) (fun _ => rfl)
            refine a_cons (x_bin ?_) (fun _ => rfl)
            refine x_v rfl (by first | exact Or.inl rfl | exact Or.inr (Or.inl rfl) | exact Or.inr (Or.inr rfl)) ?_
            refine x_F (f_slL ?_)
            refine x_v rfl (by first | exact Or.inl rfl | exact Or.inr (Or.inl rfl) | exact Or.inr (Or.inr rfl)) ?_
            refine o_some (x_neg (x_int ⟨1, rfl, ⟨-1, rfl, o_none ⟨_, isL_ls, ?_⟩⟩⟩))
            rw [cut_tail, hem, List.length_append, show (d.map encD).length + [encD z].length - 1 = (d.map encD).length from Nat.add_sub_cancel _ _, List.drop_left]
            refine b_catL isL_ls isL_ls (by rw [List.length_map]; show done.length + 1 ≤ _; omega) ?_
            refine a_cons (x_F (f_slL ?_)) (fun _ => rfl)
            refine x_v rfl (by first | exact Or.inl rfl | exact Or.inr (Or.inl rfl) | exact Or.inr (Or.inr rfl)) ?_
            refine o_none (o_some (x_neg (x_int ⟨1, rfl, ⟨-1, rfl, _, isL_ls, ?_⟩⟩)))
            rw [cut_init, List.dropLast_concat]
            refine a_nil ⟨_, _, rfl, ?_⟩
            refine r_one (s_if (t_cmp ?_ (by rfl)))
            refine x_hd T (k := 3) (jt := 0) TB S5.t0 (LamX.lamS_by (by kernel_rfl)) (fun _ => rfl) (fun _ _ _ _ _ => rfl) rfl ?_
            refine e_met0 (d_Desk_again T) (Nat.le_of_ble_eq_true rfl) ?_ (fun _ => rfl)
            refine x_v rfl (by first | exact Or.inl rfl | exact Or.inr (Or.inl rfl) | exact Or.inr (Or.inr rfl)) ?_
            refine ⟨3, _, rfl, S5.dk.ob, rfl, 3, 4, j2, _, ps, 2, _, _, rfl, S5.dk, by omega, by rw [hll]; omega, fun e => absurd e (by simp), fun d' z' e M6 hD6 hK6 => ?_⟩
            obtain ⟨e1, e2⟩ := List.append_inj' e rfl
            cases e2
            subst e1
            refine ⟨_, rfl, ?_⟩
            refine x_v rfl (by first | exact Or.inl rfl | exact Or.inr (Or.inl rfl) | exact Or.inr (Or.inr rfl)) ?_
            refine c_ne_same 1 rfl (word_ok z) ⟨fun h => (by cases h), fun _ => r_nil ?_⟩
            have V6 : Val mn dn (done ++ [z] ++ d.reverse) := by
              have := S5.vl
              rw [List.reverse_append] at this
              rw [List.append_assoc]
              exact this
            exact ⟨j2, done ++ [z], d, S5.kp hK6 hD6 V6, by (rw [List.length_append]; show done.length + 1 + d.length ≤ _; omega), _, _, _, _, _, _, _, _, by rw [List.map_append]; rfl⟩
    clear S5 hdi hdl hul okd
    rintro δ M6 ⟨j2, done, undone, S6, hdi, z8, z9, z10, z11, z12, z13, z14, z15, rfl⟩
    have hdl : done.length ≤ 1000 := by omega
    have ok1 : NmOk done := S6.vl.nm.app.1
    have ok2 : NmOk undone := fun z hz => S6.vl.nm.app.2 z (List.mem_reverse.mpr hz)
    refine r_cons ?_
    refine s_st (by first | exact Or.inl rfl | exact Or.inr rfl) (by first | exact Or.inl rfl | exact Or.inr rfl) ?_ (fun _ => rfl)
    refine x_call (d_law_led T) (Nat.le_of_ble_eq_true rfl) rfl ?_ (fun _ => rfl) (fun _ => rfl)
    repeat (first | refine x_int ?_ | (refine x_v rfl (by first | exact Or.inl rfl | exact Or.inr (Or.inl rfl) | exact Or.inr (Or.inr rfl)) ?_) | (first | refine b_add ?_ | refine b_sub ?_ | refine b_mul (by first | omega | (constructor <;> omega) | exact Or.inl ⟨by omega, by omega⟩ | exact Or.inr ⟨by omega, by omega⟩) ?_ | refine b_div (by first | omega | (constructor <;> omega) | exact Or.inl ⟨by omega, by omega⟩ | exact Or.inr ⟨by omega, by omega⟩) ?_ | refine b_mod (by first | omega | (constructor <;> omega) | exact Or.inl ⟨by omega, by omega⟩ | exact Or.inr ⟨by omega, by omega⟩) ?_ | refine b_strs (by first | omega | (constructor <;> omega) | exact Or.inl ⟨by omega, by omega⟩ | exact Or.inr ⟨by omega, by omega⟩) ?_ | refine b_catT (by first | exact Nat.le_of_ble_eq_true rfl | decide | (simp; done) | (simp <;> omega)) ?_ | refine c_lt ?_ | refine c_le ?_ | refine c_gt ?_ | refine c_ge ?_ | refine c_eqI ?_ | refine c_neI ?_ | refine c_is ?_ | refine c_isnot ?_ | refine c_eqB ?_ | refine c_neB ?_ | refine c_eqS ?_ | refine c_neS ?_ | refine b_iadd ?_ | refine b_isub ?_ | refine b_imul (by first | omega | (constructor <;> omega) | exact Or.inl ⟨by omega, by omega⟩ | exact Or.inr ⟨by omega, by omega⟩) ?_) | refine x_non ?_ | refine x_str ?_ | refine x_bl ?_ | refine x_bin ?_ | refine x_cmp ?_ (by rfl) | refine t_cmp ?_ (by rfl) | refine t_chain ?_ (by with_unfolding_all rfl) | refine x_chain ?_ (by with_unfolding_all rfl) | refine t_not ?_ | refine x_neg ?_ | refine x_if ?_ | refine a_cons ?_ (fun _ => rfl) | refine a_nil ?_ | refine x_tup ?_ | refine x_ix ?_ (fun _ _ => rfl) | refine ix_tup rfl ?_ | refine dats_ex (by first | exact Nat.le_of_ble_eq_true rfl | decide | (simp; done) | (simp <;> omega)) ?_ | refine r_cons ?_ | refine r_nil ?_ | refine s_ret ?_ | refine s_if ?_ | (refine s_st (by first | exact Or.inl rfl | exact Or.inr rfl) (by first | exact Or.inl rfl | exact Or.inr rfl) ?_ (fun _ => rfl)) | (refine s_ag (by first | exact Or.inl rfl | exact Or.inr rfl) (by first | exact Or.inl rfl | exact Or.inr rfl) rfl ?_) | refine s_expr ?_ (fun _ => rfl))
    refine ⟨rfl, mn, dn, ps, 2, done, undone, rfl, S6.vl, by rw [List.length_append, List.length_reverse]; omega, hps, fun M7 a a1 a2 hA7 hE7 => ?_⟩
    have S7 := S6.ex hE7
    refine r_cons (s_ifF (t_W (w_or (t_cmp ?_ (by rfl)))) ?_)
    · refine x_v rfl (by first | exact Or.inl rfl | exact Or.inr (Or.inl rfl) | exact Or.inr (Or.inr rfl)) ?_
      refine x_v rfl (by first | exact Or.inl rfl | exact Or.inr (Or.inl rfl) | exact Or.inr (Or.inr rfl)) ?_
      refine c_neO DT.ce (d_Desk___eq__ T) (Nat.le_of_ble_eq_true rfl) S7.dk.ob hA7.ob ⟨3, 4, j2, _, _, _, _, _, _, rfl, S7.dk, ok1, ok2, .inl ⟨_, _, _, _, _, _, _, _, rfl, hA7, ok1, ok2, _, rfl, ?_⟩⟩
      rw [decide_eq_true ⟨rfl, rfl, rfl, rfl, rfl⟩]
      refine ⟨fun h => (by cases h), fun _ => w_or1 (t_cmp ?_ (by rfl))⟩
      refine x_met0 (d_Desk_till T) (Nat.le_of_ble_eq_true rfl) ?_ (fun _ => rfl)
      refine x_v rfl (by first | exact Or.inl rfl | exact Or.inr (Or.inl rfl) | exact Or.inr (Or.inr rfl)) ?_
      refine ⟨3, _, rfl, S7.dk.ob, rfl, 3, 4, j2, _, ps, 2, done, undone, rfl, S7.dk, hdl, fun w hw => S7.vl.drawn9 hw, hps, by decide, by decide, ?_⟩
      refine x_met0 (d_Desk_till T) (Nat.le_of_ble_eq_true rfl) ?_ (fun _ => rfl)
      refine x_v rfl (by first | exact Or.inl rfl | exact Or.inr (Or.inl rfl) | exact Or.inr (Or.inr rfl)) ?_
      refine ⟨a, _, rfl, hA7.ob, rfl, a, a1, a2, _, ps, 2, done, undone, rfl, hA7, hdl, fun w hw => S7.vl.drawn9 hw, hps, by decide, by decide, ?_⟩
      exact c_neI ⟨by simp, rfl⟩
    refine r_nil (r_one (s_ifF (t_W (w_or (t_cmp ?_ (by rfl)))) ?_))
    · refine x_met0 (d_Desk_names T) (Nat.le_of_ble_eq_true rfl) ?_ (fun _ => rfl)
      refine x_v rfl (by first | exact Or.inl rfl | exact Or.inr (Or.inl rfl) | exact Or.inr (Or.inr rfl)) ?_
      refine ⟨3, _, rfl, S7.dk.ob, rfl, 3, 4, j2, _, ps, 2, done, undone, rfl, S7.dk, hdl, ?_⟩
      refine x_met0 (d_Desk_names T) (Nat.le_of_ble_eq_true rfl) ?_ (fun _ => rfl)
      refine x_v rfl (by first | exact Or.inl rfl | exact Or.inr (Or.inl rfl) | exact Or.inr (Or.inr rfl)) ?_
      refine ⟨a, _, rfl, hA7.ob, rfl, a, a1, a2, _, ps, 2, done, undone, rfl, hA7, hdl, ?_⟩
      refine c_ne_same 1 rfl (ok_names ok1) ⟨fun h => (by cases h), fun _ => w_or1 (t_cmp ?_ (by rfl))⟩
      have slen : (soldL done).length ≤ done.length := List.length_filter_le _ _
      refine x_blt rfl T.b_len PySem.boot_len ?_ (fun _ => rfl) (fun _ => rfl)
      refine a_cons ?_ (fun _ => rfl)
      refine x_v rfl (by first | exact Or.inl rfl | exact Or.inr (Or.inl rfl) | exact Or.inr (Or.inr rfl)) ?_
      refine a_nil (ca_lenO (d_Desk___len__ T) (Nat.le_of_ble_eq_true rfl) S7.dk.ob ⟨3, 4, j2, _, ps, 2, done, undone, rfl, S7.dk, hdl, _, rfl, by omega, by omega, ?_⟩)
      refine x_blt rfl T.b_len PySem.boot_len ?_ (fun _ => rfl) (fun _ => rfl)
      refine a_cons ?_ (fun _ => rfl)
      refine x_v rfl (by first | exact Or.inl rfl | exact Or.inr (Or.inl rfl) | exact Or.inr (Or.inr rfl)) ?_
      refine a_nil (ca_lenO (d_Desk___len__ T) (Nat.le_of_ble_eq_true rfl) hA7.ob ⟨a, a1, a2, _, ps, 2, done, undone, rfl, hA7, hdl, _, rfl, by omega, by omega, ?_⟩)
      exact c_neI ⟨by simp, rfl⟩
    exact r_nil ⟨j2, done, undone, S7, hdi, _, _, _, _, _, _, _, _, rfl⟩
  rintro δ M5 ⟨j2, done, undone, S5, hdi, z8, z9, z10, z11, z12, z13, z14, z15, rfl⟩
  rw [rg0_len] at hdi
  have hd20 : done.length + undone.length ≤ 20 := hdi
  have ok1 : NmOk done := S5.vl.nm.app.1
  have ok2 : NmOk undone := fun z hz => S5.vl.nm.app.2 z (List.mem_reverse.mpr hz)
  refine r_cons (s_if (t_not (t_val ?_ (fun _ _ => rfl))))
  refine x_call (d_law_unlike T) (Nat.le_of_ble_eq_true rfl) rfl ?_ (fun _ => rfl) (fun _ => rfl)
  repeat (first | refine x_int ?_ | (refine x_v rfl (by first | exact Or.inl rfl | exact Or.inr (Or.inl rfl) | exact Or.inr (Or.inr rfl)) ?_) | (first | refine b_add ?_ | refine b_sub ?_ | refine b_mul (by first | omega | (constructor <;> omega) | exact Or.inl ⟨by omega, by omega⟩ | exact Or.inr ⟨by omega, by omega⟩) ?_ | refine b_div (by first | omega | (constructor <;> omega) | exact Or.inl ⟨by omega, by omega⟩ | exact Or.inr ⟨by omega, by omega⟩) ?_ | refine b_mod (by first | omega | (constructor <;> omega) | exact Or.inl ⟨by omega, by omega⟩ | exact Or.inr ⟨by omega, by omega⟩) ?_ | refine b_strs (by first | omega | (constructor <;> omega) | exact Or.inl ⟨by omega, by omega⟩ | exact Or.inr ⟨by omega, by omega⟩) ?_ | refine b_catT (by first | exact Nat.le_of_ble_eq_true rfl | decide | (simp; done) | (simp <;> omega)) ?_ | refine c_lt ?_ | refine c_le ?_ | refine c_gt ?_ | refine c_ge ?_ | refine c_eqI ?_ | refine c_neI ?_ | refine c_is ?_ | refine c_isnot ?_ | refine c_eqB ?_ | refine c_neB ?_ | refine c_eqS ?_ | refine c_neS ?_ | refine b_iadd ?_ | refine b_isub ?_ | refine b_imul (by first | omega | (constructor <;> omega) | exact Or.inl ⟨by omega, by omega⟩ | exact Or.inr ⟨by omega, by omega⟩) ?_) | refine x_non ?_ | refine x_str ?_ | refine x_bl ?_ | refine x_bin ?_ | refine x_cmp ?_ (by rfl) | refine t_cmp ?_ (by rfl) | refine t_chain ?_ (by with_unfolding_all rfl) | refine x_chain ?_ (by with_unfolding_all rfl) | refine t_not ?_ | refine x_neg ?_ | refine x_if ?_ | refine a_cons ?_ (fun _ => rfl) | refine a_nil ?_ | refine x_tup ?_ | refine x_ix ?_ (fun _ _ => rfl) | refine ix_tup rfl ?_ | refine dats_ex (by first | exact Nat.le_of_ble_eq_true rfl | decide | (simp; done) | (simp <;> omega)) ?_ | refine r_cons ?_ | refine r_nil ?_ | refine s_ret ?_ | refine s_if ?_ | (refine s_st (by first | exact Or.inl rfl | exact Or.inr rfl) (by first | exact Or.inl rfl | exact Or.inr rfl) ?_ (fun _ => rfl)) | (refine s_ag (by first | exact Or.inl rfl | exact Or.inr rfl) (by first | exact Or.inl rfl | exact Or.inr rfl) rfl ?_) | refine s_expr ?_ (fun _ => rfl))
  refine ⟨rfl, 3, 4, j2, mn, dn, ps, done, undone, rfl, S5.dk, S5.vl, by rw [List.length_append, List.length_reverse]; omega, hps, hps2, fun M6 hE6 => ⟨true, rfl, fun h => (by cases h), fun _ => r_nil ?_⟩⟩
  have S6 := S5.ex hE6
  refine r_one (s_ret (x_cmp (x_cmp ?_ (by rfl)) (by rfl)))
  refine x_v rfl (by first | exact Or.inl rfl | exact Or.inr (Or.inl rfl) | exact Or.inr (Or.inr rfl)) ?_
  refine x_make (dm_Desk T) (Nat.le_of_ble_eq_true rfl) rfl ?_ (fun _ => rfl) (fun _ => rfl)
  refine a_cons ?_ (fun _ => rfl)
  refine x_v rfl (by first | exact Or.inl rfl | exact Or.inr (Or.inl rfl) | exact Or.inr (Or.inr rfl)) ?_
  refine a_cons ?_ (fun _ => rfl)
  refine x_v rfl (by first | exact Or.inl rfl | exact Or.inr (Or.inl rfl) | exact Or.inr (Or.inr rfl)) ?_
  refine a_cons (x_int ?_) (fun _ => rfl)
  refine a_nil ⟨rfl, M6.length, [mn, dn], ps, 2, rfl, get_push, fun M7 hD7 hkp7 hl7 => ⟨rfl, ?_⟩⟩
  have l1 : (M6 ++ [MO.ins C []]).length = M6.length + 1 := by rw [List.length_append]; rfl
  rw [l1] at hD7 hl7
  have hE7 : Ex9 M6 M7 := ⟨fun i hi => by rw [hkp7 i (by omega) (by omega), List.getElem?_append_left hi], by omega⟩
  have S7 := S6.ex hE7
  refine c_eqO DT.ce (d_Desk___eq__ T) (Nat.le_of_ble_eq_true rfl) S7.dk.ob (.inl ⟨_, _, rfl, hD7.ob⟩) ⟨3, 4, j2, _, _, _, _, _, _, rfl, S7.dk, ok1, ok2, .inl ⟨_, _, _, _, _, _, _, _, rfl, hD7, fun z hz => (by cases hz), fun z hz => (by cases hz), _, rfl, ?_⟩⟩
  refine x_eq (.dat (.bl (done.isEmpty && undone.isEmpty))) (x_and (x_cmp ?_ (by rfl))) ?_
  · refine x_v rfl (by first | exact Or.inl rfl | exact Or.inr (Or.inl rfl) | exact Or.inr (Or.inr rfl)) ?_
    refine x_F (f_lst (a_nil (dats_ex (by decide) ?_)))
    refine c_eqNil 2 (ok_deeds ok1 0) ?_
    rw [isEmpty_map']
    refine ⟨_, rfl, fun h => x_one (x_cmp ?_ (by rfl)), fun h => ⟨by rw [h]; rfl, rfl⟩⟩
    refine x_v rfl (by first | exact Or.inl rfl | exact Or.inr (Or.inl rfl) | exact Or.inr (Or.inr rfl)) ?_
    refine x_F (f_lst (a_nil (dats_ex (by decide) ?_)))
    refine c_eqNil 2 (ok_deeds ok2 0) ?_
    rw [isEmpty_map', h]
    exact ⟨rfl, rfl⟩
  refine c_eqB ?_
  have hfin : (decide (([(mn : Int), (dn : Int)] : List Int) = [(mn : Int), (dn : Int)] ∧ ps = ps ∧ (2 : Int) = 2 ∧ done = [] ∧ undone = []) == (done.isEmpty && undone.isEmpty)) = true := by
    cases done <;> cases undone <;> simp
  rw [hfin]
  exact q2 _ S7.t0
end
end My

namespace My
open PySem L2 Fx
def spLawT (K : PySem.W.Frag) (Ps : List Addr) : Sp := fun vs H Q _ => ∃ (a : Addr) (ns : List Int), vs = [.ref a] ∧ SqL K H a (ns.map V.int) ∧ ns.length ≤ 63 ∧ (∀ P ∈ Ps, H P = some (.tbl #[])) ∧ ∀ H', Q (.bl true) H'
theorem law_endT {P : Program} {w : World} {K : PySem.W.Frag} {mg : Str → Option Value} {base : Heap} {Pb0 : Addr} (T : Txt K mg) [TabOf K mg base "law" Pb0] {cs : Nat → Addr} {TE : Addr} [Exs K mg cs TE [5]] [TxtExc K mg "NoBack" (cs 5)] {CD : Addr} [DeskT K mg CD] (nd : [Pb0].Nodup) {fa : Addr} {fd : FuncData} (hm : mg "law" = some (.ref fa)) (F : Fun K "law" "law" s_law fa fd) : FnOk P w K mg base CX0 lv_law fa fd ["script"] (spLawT K [Pb0]) := by
  refine FnOk.imp (sp := spOf K ps_law.length (A_law Pb0)) (fn_law T hm F) fun vs H Q E h => ?_
  obtain ⟨a, ns, rfl, hS, hl, hP, q⟩ := h
  have hPs : ∀ (j : Nat) (m : MO), ([MO.tab Pb0 q_law] : List MO)[j]? = some m → ∃ a, [Pb0][j]? = some a ∧ ObjA K [Pb0] H a m := fun j m e => by
    match j, e with
    | 0, e => cases e; exact ⟨_, rfl, rfl, LamX.TabS.nil (hP _ (by simp))⟩
    | j + 1, e => cases e
  refine ⟨rfl, [Pb0], [.scr ns], [MO.tab Pb0 q_law], fun a _ => a = .dat (.bl true), ⟨nd, rfl, hPs⟩, ⟨.ref a, [], rfl, ⟨a, rfl, ?_⟩, rfl⟩, ⟨ns, rfl, rfl, hl, rfl⟩, fun v H2 ad2 a2 M2 _ _ r e => ?_⟩
  · rcases hS with h | h
    · refine .inl ⟨h, fun z => ?_⟩
      have := hP a z
      rcases h with h | ⟨o, h⟩ <;> (rw [h] at this; cases this)
    · exact .inr (.inr h)
  · subst e
    rw [show v = .bl true from r]
    exact q H2
theorem txt_mkT {l : PySem.W.OpenLaw} {w : World} {K : PySem.W.Frag} {h : Heap} {mg : Str → Option Value} {fa : Addr} (X : K.In h) (G : h.Ns mainGlobals mg) (hfa : mg "law" = some (.ref fa))
    {fa0 : Addr} {od0 an0 : Option Addr} {sl0 : Array (Option Value)} {oc0 kV0 dc0 pm0 cd0 ct0 : Value}
    {fa1 : Addr} {od1 an1 : Option Addr} {sl1 : Array (Option Value)} {oc1 kV1 dc1 pm1 cd1 ct1 : Value}
    {fa2 : Addr} {od2 an2 : Option Addr} {sl2 : Array (Option Value)} {oc2 kV2 dc2 pm2 cd2 ct2 : Value}
    {fa3 : Addr} {od3 an3 : Option Addr} {sl3 : Array (Option Value)} {oc3 kV3 dc3 pm3 cd3 ct3 : Value}
    {fa4 : Addr} {od4 an4 : Option Addr} {sl4 : Array (Option Value)} {oc4 kV4 dc4 pm4 cd4 ct4 : Value}
    {fa17 : Addr} {od17 an17 : Option Addr} {sl17 : Array (Option Value)} {oc17 kV17 dc17 pm17 cd17 ct17 : Value}
    {fa18 : Addr} {od18 an18 : Option Addr} {sl18 : Array (Option Value)} {oc18 kV18 dc18 pm18 cd18 ct18 : Value}
    {fa19 : Addr} {od19 an19 : Option Addr} {sl19 : Array (Option Value)} {oc19 kV19 dc19 pm19 cd19 ct19 : Value}
    {fa20 : Addr} {od20 an20 : Option Addr} {sl20 : Array (Option Value)} {oc20 kV20 dc20 pm20 cd20 ct20 : Value}
    {fa21 : Addr} {od21 an21 : Option Addr} {sl21 : Array (Option Value)} {oc21 kV21 dc21 pm21 cd21 ct21 : Value}
    {fa22 : Addr} {od22 an22 : Option Addr} {sl22 : Array (Option Value)} {oc22 kV22 dc22 pm22 cd22 ct22 : Value}
    {fa23 : Addr} {od23 an23 : Option Addr} {sl23 : Array (Option Value)} {oc23 kV23 dc23 pm23 cd23 ct23 : Value}
    {fa24 : Addr} {od24 an24 : Option Addr} {sl24 : Array (Option Value)} {oc24 kV24 dc24 pm24 cd24 ct24 : Value}
    {fa25 : Addr} {od25 an25 : Option Addr} {sl25 : Array (Option Value)} {oc25 kV25 dc25 pm25 cd25 ct25 : Value}
    {fa26 : Addr} {od26 an26 : Option Addr} {sl26 : Array (Option Value)} {oc26 kV26 dc26 pm26 cd26 ct26 : Value}
    {cb0 Pb0 : Addr} {db0 : Option Addr} {vb0 : Array Value} {lb0 : Array (Option Value)} {sb0 : Str} {tb0 ub0 wb0 : Tok} {ib0 jb0 : Int} {bb0 : Bool}
    (z_isinstance : PySem.W.nsIn K mainGlobals "isinstance" = some none)
    (z_int : PySem.W.nsIn K mainGlobals "int" = some none)
    (z_bool : PySem.W.nsIn K mainGlobals "bool" = some none)
    (z_all : PySem.W.nsIn K mainGlobals "all" = some none)
    (z_tuple : PySem.W.nsIn K mainGlobals "tuple" = some none)
    (z_zip : PySem.W.nsIn K mainGlobals "zip" = some none)
    (z_len : PySem.W.nsIn K mainGlobals "len" = some none)
    (z_min : PySem.W.nsIn K mainGlobals "min" = some none)
    (z_sum : PySem.W.nsIn K mainGlobals "sum" = some none)
    (z_range : PySem.W.nsIn K mainGlobals "range" = some none)
    (z_list : PySem.W.nsIn K mainGlobals "list" = some none)
    (z_sorted : PySem.W.nsIn K mainGlobals "sorted" = some none)
    (z_ValueError : PySem.W.nsIn K mainGlobals "ValueError" = some none)
    (a0 : PySem.W.nsIn K mainGlobals "is_whole" = some (some (.ref fa0))) (l0 : K.lookup fa0 = some ⟨oc0, od0, .func (PySem.W.fnOf "is_whole" "is_whole" (defArgs s_is_whole) (defBody s_is_whole) (defScope s_is_whole) .none kV0 dc0 pm0 an0 cd0 ct0), sl0⟩) (c0 : PySem.W.codeIn K cd0 "is_whole" = true) (k0 : PySem.W.keepIn K (.ref fa0) = true)
    (a1 : PySem.W.nsIn K mainGlobals "is_ticket" = some (some (.ref fa1))) (l1 : K.lookup fa1 = some ⟨oc1, od1, .func (PySem.W.fnOf "is_ticket" "is_ticket" (defArgs s_is_ticket) (defBody s_is_ticket) (defScope s_is_ticket) .none kV1 dc1 pm1 an1 cd1 ct1), sl1⟩) (c1 : PySem.W.codeIn K cd1 "is_ticket" = true) (k1 : PySem.W.keepIn K (.ref fa1) = true)
    (a2 : PySem.W.nsIn K mainGlobals "right_of" = some (some (.ref fa2))) (l2 : K.lookup fa2 = some ⟨oc2, od2, .func (PySem.W.fnOf "right_of" "right_of" (defArgs s_right_of) (defBody s_right_of) (defScope s_right_of) .none kV2 dc2 pm2 an2 cd2 ct2), sl2⟩) (c2 : PySem.W.codeIn K cd2 "right_of" = true) (k2 : PySem.W.keepIn K (.ref fa2) = true)
    (a3 : PySem.W.nsIn K mainGlobals "prize_of" = some (some (.ref fa3))) (l3 : K.lookup fa3 = some ⟨oc3, od3, .func (PySem.W.fnOf "prize_of" "prize_of" (defArgs s_prize_of) (defBody s_prize_of) (defScope s_prize_of) .none kV3 dc3 pm3 an3 cd3 ct3), sl3⟩) (c3 : PySem.W.codeIn K cd3 "prize_of" = true) (k3 : PySem.W.keepIn K (.ref fa3) = true)
    (a4 : PySem.W.nsIn K mainGlobals "paid" = some (some (.ref fa4))) (l4 : K.lookup fa4 = some ⟨oc4, od4, .func (PySem.W.fnOf "paid" "paid" (defArgs s_paid) (defBody s_paid) (defScope s_paid) .none kV4 dc4 pm4 an4 cd4 ct4), sl4⟩) (c4 : PySem.W.codeIn K cd4 "paid" = true) (k4 : PySem.W.keepIn K (.ref fa4) = true)
    (a17 : PySem.W.nsIn K mainGlobals "_law_draw" = some (some (.ref fa17))) (l17 : K.lookup fa17 = some ⟨oc17, od17, .func (PySem.W.fnOf "_law_draw" "_law_draw" (defArgs s_law_draw) (defBody s_law_draw) (defScope s_law_draw) .none kV17 dc17 pm17 an17 cd17 ct17), sl17⟩) (c17 : PySem.W.codeIn K cd17 "_law_draw" = true) (k17 : PySem.W.keepIn K (.ref fa17) = true)
    (a18 : PySem.W.nsIn K mainGlobals "_law_begun" = some (some (.ref fa18))) (l18 : K.lookup fa18 = some ⟨oc18, od18, .func (PySem.W.fnOf "_law_begun" "_law_begun" (defArgs s_law_begun) (defBody s_law_begun) (defScope s_law_begun) .none kV18 dc18 pm18 an18 cd18 ct18), sl18⟩) (c18 : PySem.W.codeIn K cd18 "_law_begun" = true) (k18 : PySem.W.keepIn K (.ref fa18) = true)
    (a19 : PySem.W.nsIn K mainGlobals "_law_a_lot" = some (some (.ref fa19))) (l19 : K.lookup fa19 = some ⟨oc19, od19, .func (PySem.W.fnOf "_law_a_lot" "_law_a_lot" (defArgs s_law_a_lot) (defBody s_law_a_lot) (defScope s_law_a_lot) .none kV19 dc19 pm19 an19 cd19 ct19), sl19⟩) (c19 : PySem.W.codeIn K cd19 "_law_a_lot" = true) (k19 : PySem.W.keepIn K (.ref fa19) = true)
    (a20 : PySem.W.nsIn K mainGlobals "_law_a_row" = some (some (.ref fa20))) (l20 : K.lookup fa20 = some ⟨oc20, od20, .func (PySem.W.fnOf "_law_a_row" "_law_a_row" (defArgs s_law_a_row) (defBody s_law_a_row) (defScope s_law_a_row) .none kV20 dc20 pm20 an20 cd20 ct20), sl20⟩) (c20 : PySem.W.codeIn K cd20 "_law_a_row" = true) (k20 : PySem.W.keepIn K (.ref fa20) = true)
    (a21 : PySem.W.nsIn K mainGlobals "_law_class" = some (some (.ref fa21))) (l21 : K.lookup fa21 = some ⟨oc21, od21, .func (PySem.W.fnOf "_law_class" "_law_class" (defArgs s_law_class) (defBody s_law_class) (defScope s_law_class) .none kV21 dc21 pm21 an21 cd21 ct21), sl21⟩) (c21 : PySem.W.codeIn K cd21 "_law_class" = true) (k21 : PySem.W.keepIn K (.ref fa21) = true)
    (a22 : PySem.W.nsIn K mainGlobals "_law_heard" = some (some (.ref fa22))) (l22 : K.lookup fa22 = some ⟨oc22, od22, .func (PySem.W.fnOf "_law_heard" "_law_heard" (defArgs s_law_heard) (defBody s_law_heard) (defScope s_law_heard) .none kV22 dc22 pm22 an22 cd22 ct22), sl22⟩) (c22 : PySem.W.codeIn K cd22 "_law_heard" = true) (k22 : PySem.W.keepIn K (.ref fa22) = true)
    (a23 : PySem.W.nsIn K mainGlobals "_law_led" = some (some (.ref fa23))) (l23 : K.lookup fa23 = some ⟨oc23, od23, .func (PySem.W.fnOf "_law_led" "_law_led" (defArgs s_law_led) (defBody s_law_led) (defScope s_law_led) .none kV23 dc23 pm23 an23 cd23 ct23), sl23⟩) (c23 : PySem.W.codeIn K cd23 "_law_led" = true) (k23 : PySem.W.keepIn K (.ref fa23) = true)
    (a24 : PySem.W.nsIn K mainGlobals "_law_word" = some (some (.ref fa24))) (l24 : K.lookup fa24 = some ⟨oc24, od24, .func (PySem.W.fnOf "_law_word" "_law_word" (defArgs s_law_word) (defBody s_law_word) (defScope s_law_word) .none kV24 dc24 pm24 an24 cd24 ct24), sl24⟩) (c24 : PySem.W.codeIn K cd24 "_law_word" = true) (k24 : PySem.W.keepIn K (.ref fa24) = true)
    (a25 : PySem.W.nsIn K mainGlobals "_law_unlike" = some (some (.ref fa25))) (l25 : K.lookup fa25 = some ⟨oc25, od25, .func (PySem.W.fnOf "_law_unlike" "_law_unlike" (defArgs s_law_unlike) (defBody s_law_unlike) (defScope s_law_unlike) .none kV25 dc25 pm25 an25 cd25 ct25), sl25⟩) (c25 : PySem.W.codeIn K cd25 "_law_unlike" = true) (k25 : PySem.W.keepIn K (.ref fa25) = true)
    (a26 : PySem.W.nsIn K mainGlobals "law" = some (some (.ref fa26))) (l26 : K.lookup fa26 = some ⟨oc26, od26, .func (PySem.W.fnOf "law" "law" (defArgs s_law) (defBody s_law) (defScope s_law) .none kV26 dc26 pm26 an26 cd26 ct26), sl26⟩) (c26 : PySem.W.codeIn K cd26 "law" = true) (k26 : PySem.W.keepIn K (.ref fa26) = true)
    (tbq0 : K.lookup cb0 = some ⟨.type "code", db0, .fields vb0, lb0⟩) (tbq0a : vb0[11]? = some (.ref Pb0)) (tbq0b : vb0.getD 18 .none = .str sb0 tb0) (tbq0c : vb0.getD 7 .none = .int ib0 ub0) (tbq0d : vb0.getD 9 .none = .bool bb0) (tbq0e : vb0.getD 10 .none = .int jb0 wb0) (tbq0f : cb0 ≠ Pb0) (tbq0g : cd26 = .ref cb0) (tbq0h : K.lookup Pb0 = none) (tbq0i : h.get? Pb0 = some { cls := .none, data := .fields #[] }) (nd : [Pb0].Nodup)
    {CT C0 C1 C2 C3 C4 C5 C6 : Addr}
    {CD : Addr}
    {fD0 : Addr} {odD0 anD0 : Option Addr} {slD0 : Array (Option Value)} {ocD0 kVD0 dcD0 pmD0 cdD0 ctD0 : Value}
    {TD : Addr} {odT : Option Addr} {ocT : Value} {slT : Array (Option Value)} {tkT : Tok} {nT : Nat}
    {fD1 : Addr} {odD1 anD1 : Option Addr} {slD1 : Array (Option Value)} {ocD1 kVD1 dcD1 pmD1 cdD1 ctD1 : Value}
    {fD2 : Addr} {odD2 anD2 : Option Addr} {slD2 : Array (Option Value)} {ocD2 kVD2 dcD2 pmD2 cdD2 ctD2 : Value}
    {fD3 : Addr} {odD3 anD3 : Option Addr} {slD3 : Array (Option Value)} {ocD3 kVD3 dcD3 pmD3 cdD3 ctD3 : Value}
    {fD4 : Addr} {odD4 anD4 : Option Addr} {slD4 : Array (Option Value)} {ocD4 kVD4 dcD4 pmD4 cdD4 ctD4 : Value}
    {fD5 : Addr} {odD5 anD5 : Option Addr} {slD5 : Array (Option Value)} {ocD5 kVD5 dcD5 pmD5 cdD5 ctD5 : Value}
    {fD6 : Addr} {odD6 anD6 : Option Addr} {slD6 : Array (Option Value)} {ocD6 kVD6 dcD6 pmD6 cdD6 ctD6 : Value}
    {fD7 : Addr} {odD7 anD7 : Option Addr} {slD7 : Array (Option Value)} {ocD7 kVD7 dcD7 pmD7 cdD7 ctD7 : Value}
    {fD8 : Addr} {odD8 anD8 : Option Addr} {slD8 : Array (Option Value)} {ocD8 kVD8 dcD8 pmD8 cdD8 ctD8 : Value}
    {fD9 : Addr} {odD9 anD9 : Option Addr} {slD9 : Array (Option Value)} {ocD9 kVD9 dcD9 pmD9 cdD9 ctD9 : Value}
    {fD10 : Addr} {odD10 anD10 : Option Addr} {slD10 : Array (Option Value)} {ocD10 kVD10 dcD10 pmD10 cdD10 ctD10 : Value}
    {fD11 : Addr} {odD11 anD11 : Option Addr} {slD11 : Array (Option Value)} {ocD11 kVD11 dcD11 pmD11 cdD11 ctD11 : Value}
    (xeT : PySem.W.nsIn K mainGlobals "TicketError" = some (some (.ref CT)))
    (xe0 : PySem.W.nsIn K mainGlobals "NoDraw" = some (some (.ref C0)))
    (xe1 : PySem.W.nsIn K mainGlobals "NoNumber" = some (some (.ref C1)))
    (xe2 : PySem.W.nsIn K mainGlobals "NoTicket" = some (some (.ref C2)))
    (xe3 : PySem.W.nsIn K mainGlobals "Closed" = some (some (.ref C3)))
    (xe4 : PySem.W.nsIn K mainGlobals "NoName" = some (some (.ref C4)))
    (xe5 : PySem.W.nsIn K mainGlobals "NoBack" = some (some (.ref C5)))
    (xe6 : PySem.W.nsIn K mainGlobals "NoText" = some (some (.ref C6)))
    (x5g : PySem.W.findIn K (.ref C5) "__getattribute__" = some (some (.builtin "BaseException.__getattribute__")))
    (x5k : PySem.W.findIn K (.ref C5) "__getattr__" = some none)
    (x5s : PySem.W.subIn K (.ref C5) (.type "BaseException") = some true)
    (x5d : PySem.W.hasDictIn K C5 = true)
    (x5a : PySem.W.findIn K (.ref C5) "__class__" = some (some (.builtin "object.__class__")))
    (x5n : PySem.W.specialIn K (.builtin "object.__class__") "__get__" = some (some (.builtin "getset_descriptor.__get__")))
    (x5t : PySem.W.takesIn K (.builtin "object.__class__") = some true)
    (x5m : PySem.W.mroIn K C5 (.type "object") = some true)
    (x5e : PySem.W.exmOne K (.ref C5) (.ref CT) = some true)
    (x5v : PySem.W.kitOne K (.ref C5) (.type "ValueError") = some true)
    (x5j0 : PySem.W.kitOne K (.ref C5) (.ref C0) = some false)
    (x5j1 : PySem.W.kitOne K (.ref C5) (.ref C1) = some false)
    (x5j2 : PySem.W.kitOne K (.ref C5) (.ref C2) = some false)
    (x5j3 : PySem.W.kitOne K (.ref C5) (.ref C3) = some false)
    (x5j4 : PySem.W.kitOne K (.ref C5) (.ref C4) = some false)
    (x5j5 : PySem.W.kitOne K (.ref C5) (.ref C5) = some true)
    (x5j6 : PySem.W.kitOne K (.ref C5) (.ref C6) = some false)
    (x5y : PySem.W.typeIn K (.ref C5) = some (.type "type"))
    (x5p : PySem.W.keepIn K (.ref C5) = true)
    (x5q : PySem.W.excIn K C5 [.type "ValueError", .type "Exception", .type "BaseException", .type "object"] "ValueError.__new__" = true)
    (dkC : PySem.W.nsIn K mainGlobals "Desk" = some (some (.ref CD)))
    (dk1 : PySem.W.plainGet K CD Str.empty = true)
    (dk2 : PySem.W.hasDictIn K CD = true)
    (dk3 : PySem.W.plainOver K CD = true)
    (dk4 : PySem.W.findIn K (.ref CD) "__setattr__" = some (some (.builtin "object.__setattr__")))
    (dkn_lot : PySem.W.findIn K (.ref CD) "lot" = some none)
    (dkn_prizes : PySem.W.findIn K (.ref CD) "prizes" = some none)
    (dkn_price : PySem.W.findIn K (.ref CD) "price" = some none)
    (dkn_done : PySem.W.findIn K (.ref CD) "done" = some none)
    (dkn_undone : PySem.W.findIn K (.ref CD) "undone" = some none)
    (dke1 : PySem.W.findIn K (.ref CD) "__class__" = some (some (.builtin "object.__class__")))
    (dke2 : PySem.W.specialIn K (.builtin "object.__class__") "__get__" = some (some (.builtin "getset_descriptor.__get__")))
    (dke3 : PySem.W.takesIn K (.builtin "object.__class__") = some true)
    (dke4 : PySem.W.mroIn K CD (.type "object") = some true)
    (dke5 : PySem.W.kitOne K (.ref CD) (.ref CD) = some true)
    (dke6 : PySem.W.kitOne K (.type "tuple") (.ref CD) = some false)
    (dke7 : PySem.W.notFirst K CD (.type "tuple") = true)
    (dke8 : PySem.W.findIn K (.ref CD) "__ne__" = some (some (.builtin "object.__ne__")))
    (dm0a : PySem.W.findIn K (.ref CD) "__init__" = some (some (.ref fD0)))
    (dm0l : K.lookup fD0 = some ⟨ocD0, odD0, .func (PySem.W.fnOf "__init__" "Desk.__init__" (defArgs s_Desk___init__) (defBody s_Desk___init__) (defScope s_Desk___init__) (.ref TD) kVD0 dcD0 pmD0 anD0 cdD0 ctD0), slD0⟩)
    (dm0T : K.lookup TD = some ⟨ocT, odT, .seq #[.int 1 tkT] nT, slT⟩)
    (dm0c : PySem.W.codeIn K cdD0 "Desk.__init__" = true)
    (dm0f : PySem.W.isFn K (.ref fD0) = true)
    (dm0k : PySem.W.keepIn K (.ref fD0) = true)
    (dm0m : PySem.W.makesIn K CD = true)
    (dm0p : PySem.W.keepIn K (.ref CD) = true)
    (dm1a : PySem.W.findIn K (.ref CD) "back" = some (some (.ref fD1)))
    (dm1l : K.lookup fD1 = some ⟨ocD1, odD1, .func (PySem.W.fnOf "back" "Desk.back" (defArgs s_Desk_back) (defBody s_Desk_back) (defScope s_Desk_back) .none kVD1 dcD1 pmD1 anD1 cdD1 ctD1), slD1⟩)
    (dm1c : PySem.W.codeIn K cdD1 "Desk.back" = true)
    (dm1f : PySem.W.isFn K (.ref fD1) = true)
    (dm1k : PySem.W.keepIn K (.ref fD1) = true)
    (dm2a : PySem.W.findIn K (.ref CD) "keep" = some (some (.ref fD2)))
    (dm2l : K.lookup fD2 = some ⟨ocD2, odD2, .func (PySem.W.fnOf "keep" "Desk.keep" (defArgs s_Desk_keep) (defBody s_Desk_keep) (defScope s_Desk_keep) .none kVD2 dcD2 pmD2 anD2 cdD2 ctD2), slD2⟩)
    (dm2c : PySem.W.codeIn K cdD2 "Desk.keep" = true)
    (dm2f : PySem.W.isFn K (.ref fD2) = true)
    (dm2k : PySem.W.keepIn K (.ref fD2) = true)
    (dm3a : PySem.W.findIn K (.ref CD) "drawn" = some (some (.ref fD3)))
    (dm3l : K.lookup fD3 = some ⟨ocD3, odD3, .func (PySem.W.fnOf "drawn" "Desk.drawn" (defArgs s_Desk_drawn) (defBody s_Desk_drawn) (defScope s_Desk_drawn) .none kVD3 dcD3 pmD3 anD3 cdD3 ctD3), slD3⟩)
    (dm3c : PySem.W.codeIn K cdD3 "Desk.drawn" = true)
    (dm3f : PySem.W.isFn K (.ref fD3) = true)
    (dm3k : PySem.W.keepIn K (.ref fD3) = true)
    (dm4a : PySem.W.findIn K (.ref CD) "sold" = some (some (.ref fD4)))
    (dm4l : K.lookup fD4 = some ⟨ocD4, odD4, .func (PySem.W.fnOf "sold" "Desk.sold" (defArgs s_Desk_sold) (defBody s_Desk_sold) (defScope s_Desk_sold) .none kVD4 dcD4 pmD4 anD4 cdD4 ctD4), slD4⟩)
    (dm4c : PySem.W.codeIn K cdD4 "Desk.sold" = true)
    (dm4f : PySem.W.isFn K (.ref fD4) = true)
    (dm4k : PySem.W.keepIn K (.ref fD4) = true)
    (dm5a : PySem.W.findIn K (.ref CD) "draw" = some (some (.ref fD5)))
    (dm5l : K.lookup fD5 = some ⟨ocD5, odD5, .func (PySem.W.fnOf "draw" "Desk.draw" (defArgs s_Desk_draw) (defBody s_Desk_draw) (defScope s_Desk_draw) .none kVD5 dcD5 pmD5 anD5 cdD5 ctD5), slD5⟩)
    (dm5c : PySem.W.codeIn K cdD5 "Desk.draw" = true)
    (dm5f : PySem.W.isFn K (.ref fD5) = true)
    (dm5k : PySem.W.keepIn K (.ref fD5) = true)
    (dm6a : PySem.W.findIn K (.ref CD) "buy" = some (some (.ref fD6)))
    (dm6l : K.lookup fD6 = some ⟨ocD6, odD6, .func (PySem.W.fnOf "buy" "Desk.buy" (defArgs s_Desk_buy) (defBody s_Desk_buy) (defScope s_Desk_buy) .none kVD6 dcD6 pmD6 anD6 cdD6 ctD6), slD6⟩)
    (dm6c : PySem.W.codeIn K cdD6 "Desk.buy" = true)
    (dm6f : PySem.W.isFn K (.ref fD6) = true)
    (dm6k : PySem.W.keepIn K (.ref fD6) = true)
    (dm7a : PySem.W.findIn K (.ref CD) "till" = some (some (.ref fD7)))
    (dm7l : K.lookup fD7 = some ⟨ocD7, odD7, .func (PySem.W.fnOf "till" "Desk.till" (defArgs s_Desk_till) (defBody s_Desk_till) (defScope s_Desk_till) .none kVD7 dcD7 pmD7 anD7 cdD7 ctD7), slD7⟩)
    (dm7c : PySem.W.codeIn K cdD7 "Desk.till" = true)
    (dm7f : PySem.W.isFn K (.ref fD7) = true)
    (dm7k : PySem.W.keepIn K (.ref fD7) = true)
    (dm8a : PySem.W.findIn K (.ref CD) "names" = some (some (.ref fD8)))
    (dm8l : K.lookup fD8 = some ⟨ocD8, odD8, .func (PySem.W.fnOf "names" "Desk.names" (defArgs s_Desk_names) (defBody s_Desk_names) (defScope s_Desk_names) .none kVD8 dcD8 pmD8 anD8 cdD8 ctD8), slD8⟩)
    (dm8c : PySem.W.codeIn K cdD8 "Desk.names" = true)
    (dm8f : PySem.W.isFn K (.ref fD8) = true)
    (dm8k : PySem.W.keepIn K (.ref fD8) = true)
    (dm9a : PySem.W.findIn K (.ref CD) "again" = some (some (.ref fD9)))
    (dm9l : K.lookup fD9 = some ⟨ocD9, odD9, .func (PySem.W.fnOf "again" "Desk.again" (defArgs s_Desk_again) (defBody s_Desk_again) (defScope s_Desk_again) .none kVD9 dcD9 pmD9 anD9 cdD9 ctD9), slD9⟩)
    (dm9c : PySem.W.codeIn K cdD9 "Desk.again" = true)
    (dm9f : PySem.W.isFn K (.ref fD9) = true)
    (dm9k : PySem.W.keepIn K (.ref fD9) = true)
    (dm10a : PySem.W.findIn K (.ref CD) "__len__" = some (some (.ref fD10)))
    (dm10l : K.lookup fD10 = some ⟨ocD10, odD10, .func (PySem.W.fnOf "__len__" "Desk.__len__" (defArgs s_Desk___len__) (defBody s_Desk___len__) (defScope s_Desk___len__) .none kVD10 dcD10 pmD10 anD10 cdD10 ctD10), slD10⟩)
    (dm10c : PySem.W.codeIn K cdD10 "Desk.__len__" = true)
    (dm10f : PySem.W.isFn K (.ref fD10) = true)
    (dm10k : PySem.W.keepIn K (.ref fD10) = true)
    (dm11a : PySem.W.findIn K (.ref CD) "__eq__" = some (some (.ref fD11)))
    (dm11l : K.lookup fD11 = some ⟨ocD11, odD11, .func (PySem.W.fnOf "__eq__" "Desk.__eq__" (defArgs s_Desk___eq__) (defBody s_Desk___eq__) (defScope s_Desk___eq__) .none kVD11 dcD11 pmD11 anD11 cdD11 ctD11), slD11⟩)
    (dm11c : PySem.W.codeIn K cdD11 "Desk.__eq__" = true)
    (dm11f : PySem.W.isFn K (.ref fD11) = true)
    (dm11k : PySem.W.keepIn K (.ref fD11) = true) : LamX.LawAtS l w K CX0 lv_law 63 "script" mg fa h := by
  have T : Txt K mg := ⟨PySem.W.mg_none_of X G z_isinstance,
    PySem.W.mg_none_of X G z_int,
    PySem.W.mg_none_of X G z_bool,
    PySem.W.mg_none_of X G z_all,
    PySem.W.mg_none_of X G z_tuple,
    PySem.W.mg_none_of X G z_zip,
    PySem.W.mg_none_of X G z_len,
    PySem.W.mg_none_of X G z_min,
    PySem.W.mg_none_of X G z_sum,
    PySem.W.mg_none_of X G z_range,
    PySem.W.mg_none_of X G z_list,
    PySem.W.mg_none_of X G z_sorted,
    PySem.W.mg_none_of X G z_ValueError,
    ⟨fa0, _, PySem.W.mg_of X G a0, fun_mk (st := s_is_whole) l0 c0 k0, (fun_mk (st := s_is_whole) l0 c0 k0).binds fun _ _ _ _ _ _ us hl => match us, hl with | [_, _, _], _ => rfl⟩,
    ⟨fa1, _, PySem.W.mg_of X G a1, fun_mk (st := s_is_ticket) l1 c1 k1, (fun_mk (st := s_is_ticket) l1 c1 k1).binds fun _ _ _ _ _ _ us hl => match us, hl with | [_, _], _ => rfl⟩,
    ⟨fa2, _, PySem.W.mg_of X G a2, fun_mk (st := s_right_of) l2 c2 k2, (fun_mk (st := s_right_of) l2 c2 k2).binds fun _ _ _ _ _ _ us hl => match us, hl with | [_, _], _ => rfl⟩,
    ⟨fa3, _, PySem.W.mg_of X G a3, fun_mk (st := s_prize_of) l3 c3 k3, (fun_mk (st := s_prize_of) l3 c3 k3).binds fun _ _ _ _ _ _ us hl => match us, hl with | [_, _], _ => rfl⟩,
    ⟨fa4, _, PySem.W.mg_of X G a4, fun_mk (st := s_paid) l4 c4 k4, (fun_mk (st := s_paid) l4 c4 k4).binds fun _ _ _ _ _ _ us hl => match us, hl with | [_, _, _], _ => rfl⟩,
    ⟨fa17, _, PySem.W.mg_of X G a17, fun_mk (st := s_law_draw) l17 c17 k17, (fun_mk (st := s_law_draw) l17 c17 k17).binds fun _ _ _ _ _ _ us hl => match us, hl with | [_, _, _], _ => rfl⟩,
    ⟨fa18, _, PySem.W.mg_of X G a18, fun_mk (st := s_law_begun) l18 c18 k18, (fun_mk (st := s_law_begun) l18 c18 k18).binds fun _ _ _ _ _ _ us hl => match us, hl with | [], _ => rfl⟩,
    ⟨fa19, _, PySem.W.mg_of X G a19, fun_mk (st := s_law_a_lot) l19 c19 k19, (fun_mk (st := s_law_a_lot) l19 c19 k19).binds fun _ _ _ _ _ _ us hl => match us, hl with | [_, _, _], _ => rfl⟩,
    ⟨fa20, _, PySem.W.mg_of X G a20, fun_mk (st := s_law_a_row) l20 c20 k20, (fun_mk (st := s_law_a_row) l20 c20 k20).binds fun _ _ _ _ _ _ us hl => match us, hl with | [_, _, _, _], _ => rfl⟩,
    ⟨fa21, _, PySem.W.mg_of X G a21, fun_mk (st := s_law_class) l21 c21 k21, (fun_mk (st := s_law_class) l21 c21 k21).binds fun _ _ _ _ _ _ us hl => match us, hl with | [_], _ => rfl⟩,
    ⟨fa22, _, PySem.W.mg_of X G a22, fun_mk (st := s_law_heard) l22 c22 k22, (fun_mk (st := s_law_heard) l22 c22 k22).binds fun _ _ _ _ _ _ us hl => match us, hl with | [_], _ => rfl⟩,
    ⟨fa23, _, PySem.W.mg_of X G a23, fun_mk (st := s_law_led) l23 c23 k23, (fun_mk (st := s_law_led) l23 c23 k23).binds fun _ _ _ _ _ _ us hl => match us, hl with | [_, _, _, _, _], _ => rfl⟩,
    ⟨fa24, _, PySem.W.mg_of X G a24, fun_mk (st := s_law_word) l24 c24 k24, (fun_mk (st := s_law_word) l24 c24 k24).binds fun _ _ _ _ _ _ us hl => match us, hl with | [_], _ => rfl⟩,
    ⟨fa25, _, PySem.W.mg_of X G a25, fun_mk (st := s_law_unlike) l25 c25 k25, (fun_mk (st := s_law_unlike) l25 c25 k25).binds fun _ _ _ _ _ _ us hl => match us, hl with | [_, _, _, _, _], _ => rfl⟩,
    ⟨fa26, _, PySem.W.mg_of X G a26, fun_mk (st := s_law) l26 c26 k26, (fun_mk (st := s_law) l26 c26 k26).binds fun _ _ _ _ _ _ us hl => match us, hl with | [_], _ => rfl⟩⟩
  obtain ⟨fa2, fd, hm, F, hb⟩ := T.f_law
  have hm2 := hm
  rw [hfa] at hm
  cases hm
  have all : ∀ {p : Addr × Addr → Prop}, p (cb0, Pb0) → ∀ x ∈ ([(cb0, Pb0)] : List (Addr × Addr)), p x := fun {p} hp x hx => by
    simp only [List.mem_cons, List.not_mem_nil, or_false] at hx
    subst hx
    exact hp
  refine ⟨fd, [(cb0, Pb0)], spLawT K [Pb0], all (p := fun p => h.get? p.2 = _) ?_, all (p := fun p => K.lookup p.2 = none) ?_, all (p := fun p => PySem.W.CodeHd h p.1 p.2) ?_, fun s v => ?_, fun H a ns hl _ hT hS => ?_, fun base _ _ TB => ?_⟩
  · exact tbq0i
  · exact tbq0h
  · exact codeHd_mk9 X tbq0 tbq0a tbq0b tbq0c tbq0d tbq0e tbq0f
  · obtain ⟨oc, od, kV, doc, pm, an, cdv, ct, osl, rfl, lk, hcd⟩ := F.ex
    exact .of_eq rfl
  · refine ⟨a, ns, rfl, hS, hl, fun P hP => ?_, fun _ => rfl⟩
    simp only [List.mem_cons, List.not_mem_nil, or_false] at hP
    rw [hP]
    exact hT (cb0, Pb0) (by simp)
  · haveI t0 : TabOf K mg base "law" Pb0 := ⟨cb0, TB (cb0, Pb0) (by simp), fun fa o fd h1 h2 h3 => by
      rw [PySem.W.mg_of X G a26] at h1
      cases h1
      rw [l26] at h2
      cases h2
      cases h3
      exact tbq0g⟩
    haveI EX : Exs K mg (fun i => ([C0, C1, C2, C3, C4, C5, C6] : List Addr).getD i 0) CT [5] := ⟨PySem.W.mg_of X G xeT, PySem.W.mg_of X G xe0, PySem.W.mg_of X G xe1, PySem.W.mg_of X G xe2, PySem.W.mg_of X G xe3, PySem.W.mg_of X G xe4, PySem.W.mg_of X G xe5, PySem.W.mg_of X G xe6, fun i hi => by
      simp only [List.mem_cons, List.not_mem_nil, or_false] at hi
      subst hi
      exact ⟨by decide, ⟨x5g, x5k, x5s, x5d, x5a, x5n, x5t, x5m⟩, x5e, x5v, fun j hj => match j, hj with | 0, _ => x5j0 | 1, _ => x5j1 | 2, _ => x5j2 | 3, _ => x5j3 | 4, _ => x5j4 | 5, _ => x5j5 | 6, _ => x5j6⟩
      , fun i hi => by
      simp only [List.mem_cons, List.not_mem_nil, or_false] at hi
      subst hi
      exact ⟨fun h => absurd h (by decide), fun h => absurd h (by decide), fun h => absurd h (by decide)⟩
      ⟩
    haveI TD5 : TxtExc K mg "NoBack" ((fun i => ([C0, C1, C2, C3, C4, C5, C6] : List Addr).getD i 0) 5) := ⟨PySem.W.mg_of X G xe5, x5q, x5p, x5s, x5y⟩
    haveI DKT : DeskT K mg CD := ⟨PySem.W.mg_of X G dkC, ⟨dk1, dk2, dk3, dk4⟩, dkn_lot, dkn_prizes, dkn_price, dkn_done, dkn_undone, ⟨⟨dk1, dk2, dk3, dk4⟩, dke1, dke2, dke3, dke4, dke5, dke6, dke7, dke8⟩, ⟨fD0, _, ⟨dm0m, dm0a, dm0f, dm0p⟩, ⟨⟨_, _, _, _, _, _, _, _, _, _, rfl, dm0l, dm0c, .inr ⟨by simp, TD, _, [.int 1 tkT], nT, rfl, dm0T, rfl, .cons ⟨_, rfl⟩ .nil⟩, .inl rfl⟩, dm0k⟩⟩, ⟨fD1, _, ⟨dm1a, dm1f, dm1k⟩, fun_mk (st := s_Desk_back) dm1l dm1c dm1k, (fun_mk (st := s_Desk_back) dm1l dm1c dm1k).binds fun _ _ _ _ _ _ us hl => match us, hl with | [_], _ => rfl⟩, ⟨fD2, _, ⟨dm2a, dm2f, dm2k⟩, fun_mk (st := s_Desk_keep) dm2l dm2c dm2k, (fun_mk (st := s_Desk_keep) dm2l dm2c dm2k).binds fun _ _ _ _ _ _ us hl => match us, hl with | [_, _, _], _ => rfl⟩, ⟨fD3, _, ⟨dm3a, dm3f, dm3k⟩, fun_mk (st := s_Desk_drawn) dm3l dm3c dm3k, (fun_mk (st := s_Desk_drawn) dm3l dm3c dm3k).binds fun _ _ _ _ _ _ us hl => match us, hl with | [_], _ => rfl⟩, ⟨fD4, _, ⟨dm4a, dm4f, dm4k⟩, fun_mk (st := s_Desk_sold) dm4l dm4c dm4k, (fun_mk (st := s_Desk_sold) dm4l dm4c dm4k).binds fun _ _ _ _ _ _ us hl => match us, hl with | [_], _ => rfl⟩, ⟨fD5, _, ⟨dm5a, dm5f, dm5k⟩, fun_mk (st := s_Desk_draw) dm5l dm5c dm5k, (fun_mk (st := s_Desk_draw) dm5l dm5c dm5k).binds fun _ _ _ _ _ _ us hl => match us, hl with | [_, _], _ => rfl⟩, ⟨fD6, _, ⟨dm6a, dm6f, dm6k⟩, fun_mk (st := s_Desk_buy) dm6l dm6c dm6k, (fun_mk (st := s_Desk_buy) dm6l dm6c dm6k).binds fun _ _ _ _ _ _ us hl => match us, hl with | [_, _, _], _ => rfl⟩, ⟨fD7, _, ⟨dm7a, dm7f, dm7k⟩, fun_mk (st := s_Desk_till) dm7l dm7c dm7k, (fun_mk (st := s_Desk_till) dm7l dm7c dm7k).binds fun _ _ _ _ _ _ us hl => match us, hl with | [_], _ => rfl⟩, ⟨fD8, _, ⟨dm8a, dm8f, dm8k⟩, fun_mk (st := s_Desk_names) dm8l dm8c dm8k, (fun_mk (st := s_Desk_names) dm8l dm8c dm8k).binds fun _ _ _ _ _ _ us hl => match us, hl with | [_], _ => rfl⟩, ⟨fD9, _, ⟨dm9a, dm9f, dm9k⟩, fun_mk (st := s_Desk_again) dm9l dm9c dm9k, (fun_mk (st := s_Desk_again) dm9l dm9c dm9k).binds fun _ _ _ _ _ _ us hl => match us, hl with | [_], _ => rfl⟩, ⟨fD10, _, ⟨dm10a, dm10f, dm10k⟩, fun_mk (st := s_Desk___len__) dm10l dm10c dm10k, (fun_mk (st := s_Desk___len__) dm10l dm10c dm10k).binds fun _ _ _ _ _ _ us hl => match us, hl with | [_], _ => rfl⟩, ⟨fD11, _, ⟨dm11a, dm11f, dm11k⟩, fun_mk (st := s_Desk___eq__) dm11l dm11c dm11k, (fun_mk (st := s_Desk___eq__) dm11l dm11c dm11k).binds fun _ _ _ _ _ _ us hl => match us, hl with | [_, _], _ => rfl⟩⟩
    exact law_endT T nd hm2 F
end My
open PySem PySem.W PyProof.Rows
theorem PySem.Challenge.cw_suretickets_k37_whole_desks_back_and_aga_holds : PySem.Challenge.rw_suretickets_k37_whole_desks_back_and_aga.Holds := by
  w_on; o_law; k_head; (case hw => w_witness2)
  k_fill
  refine LamX.walk_ofTs (l := PySem.Challenge.rw_suretickets_k37_whole_desks_back_and_aga) (n := 63) (k := My.lv_law) (x := "script") (CX := fun _ => L2.CX0) rfl (by decide) rfl ⟨rfl, by decide, by decide⟩ (fun w h Y => PySem.W.km_in_of Y) ?F (fun _ _ _ _ _ h => h)
  case F =>
    intro w mg fa h Y KX G hmg
    have hT8 := PySem.W.km_tabs_of Y
    refine' My.txt_mkT KX G hmg ?z_isinstance ?z_int ?z_bool ?z_all ?z_tuple ?z_zip ?z_len ?z_min ?z_sum ?z_range ?z_list ?z_sorted ?z_ValueError ?a0 ?l0 ?c0 ?k0 ?a1 ?l1 ?c1 ?k1 ?a2 ?l2 ?c2 ?k2 ?a3 ?l3 ?c3 ?k3 ?a4 ?l4 ?c4 ?k4 ?a17 ?l17 ?c17 ?k17 ?a18 ?l18 ?c18 ?k18 ?a19 ?l19 ?c19 ?k19 ?a20 ?l20 ?c20 ?k20 ?a21 ?l21 ?c21 ?k21 ?a22 ?l22 ?c22 ?k22 ?a23 ?l23 ?c23 ?k23 ?a24 ?l24 ?c24 ?k24 ?a25 ?l25 ?c25 ?k25 ?a26 ?l26 ?c26 ?k26 ?tbq0 ?tbq0a ?tbq0b ?tbq0c ?tbq0d ?tbq0e ?tbq0f ?tbq0g ?tbq0h ?tbq0i ?nd ?xeT ?xe0 ?xe1 ?xe2 ?xe3 ?xe4 ?xe5 ?xe6 ?x5g ?x5k ?x5s ?x5d ?x5a ?x5n ?x5t ?x5m ?x5e ?x5v ?x5j0 ?x5j1 ?x5j2 ?x5j3 ?x5j4 ?x5j5 ?x5j6 ?x5y ?x5p ?x5q ?dkC ?dk1 ?dk2 ?dk3 ?dk4 ?dkn_lot ?dkn_prizes ?dkn_price ?dkn_done ?dkn_undone ?dke1 ?dke2 ?dke3 ?dke4 ?dke5 ?dke6 ?dke7 ?dke8 ?dm0a ?dm0l ?dm0T ?dm0c ?dm0f ?dm0k ?dm0m ?dm0p ?dm1a ?dm1l ?dm1c ?dm1f ?dm1k ?dm2a ?dm2l ?dm2c ?dm2f ?dm2k ?dm3a ?dm3l ?dm3c ?dm3f ?dm3k ?dm4a ?dm4l ?dm4c ?dm4f ?dm4k ?dm5a ?dm5l ?dm5c ?dm5f ?dm5k ?dm6a ?dm6l ?dm6c ?dm6f ?dm6k ?dm7a ?dm7l ?dm7c ?dm7f ?dm7k ?dm8a ?dm8l ?dm8c ?dm8f ?dm8k ?dm9a ?dm9l ?dm9c ?dm9f ?dm9k ?dm10a ?dm10l ?dm10c ?dm10f ?dm10k ?dm11a ?dm11l ?dm11c ?dm11f ?dm11k
    (case z_isinstance => k_is)
    (case z_int => k_is)
    (case z_bool => k_is)
    (case z_all => k_is)
    (case z_tuple => k_is)
    (case z_zip => k_is)
    (case z_len => k_is)
    (case z_min => k_is)
    (case z_sum => k_is)
    (case z_range => k_is)
    (case z_list => k_is)
    (case z_sorted => k_is)
    (case z_ValueError => k_is)
    (case a0 => k_is)
    (case l0 => k_is)
    (case c0 => k_is)
    (case k0 => k_is)
    (case a1 => k_is)
    (case l1 => k_is)
    (case c1 => k_is)
    (case k1 => k_is)
    (case a2 => k_is)
    (case l2 => k_is)
    (case c2 => k_is)
    (case k2 => k_is)
    (case a3 => k_is)
    (case l3 => k_is)
    (case c3 => k_is)
    (case k3 => k_is)
    (case a4 => k_is)
    (case l4 => k_is)
    (case c4 => k_is)
    (case k4 => k_is)
    (case a17 => k_is)
    (case l17 => k_is)
    (case c17 => k_is)
    (case k17 => k_is)
    (case a18 => k_is)
    (case l18 => k_is)
    (case c18 => k_is)
    (case k18 => k_is)
    (case a19 => k_is)
    (case l19 => k_is)
    (case c19 => k_is)
    (case k19 => k_is)
    (case a20 => k_is)
    (case l20 => k_is)
    (case c20 => k_is)
    (case k20 => k_is)
    (case a21 => k_is)
    (case l21 => k_is)
    (case c21 => k_is)
    (case k21 => k_is)
    (case a22 => k_is)
    (case l22 => k_is)
    (case c22 => k_is)
    (case k22 => k_is)
    (case a23 => k_is)
    (case l23 => k_is)
    (case c23 => k_is)
    (case k23 => k_is)
    (case a24 => k_is)
    (case l24 => k_is)
    (case c24 => k_is)
    (case k24 => k_is)
    (case a25 => k_is)
    (case l25 => k_is)
    (case c25 => k_is)
    (case k25 => k_is)
    (case a26 => k_is)
    (case l26 => k_is)
    (case c26 => k_is)
    (case k26 => k_is)
    (case tbq0g => rfl)
    (case tbq0 => k_is)
    (case tbq0a => rfl)
    (case tbq0b => rfl)
    (case tbq0c => rfl)
    (case tbq0d => rfl)
    (case tbq0e => rfl)
    (case tbq0f => decide)
    (case tbq0h => kernel_rfl)
    (case tbq0i => exact hT8 _ (by simp))
    (case nd => decide)
    (case xeT => k_is)
    (case xe0 => k_is)
    (case xe1 => k_is)
    (case xe2 => k_is)
    (case xe3 => k_is)
    (case xe4 => k_is)
    (case xe5 => k_is)
    (case xe6 => k_is)
    (case x5g => k_is)
    (case x5k => k_is)
    (case x5s => k_is)
    (case x5d => k_is)
    (case x5a => k_is)
    (case x5n => k_is)
    (case x5t => k_is)
    (case x5m => k_is)
    (case x5e => kernel_rfl)
    (case x5v => kernel_rfl)
    (case x5j0 => kernel_rfl)
    (case x5j1 => kernel_rfl)
    (case x5j2 => kernel_rfl)
    (case x5j3 => kernel_rfl)
    (case x5j4 => kernel_rfl)
    (case x5j5 => kernel_rfl)
    (case x5j6 => kernel_rfl)
    (case x5y => k_is)
    (case x5p => k_is)
    (case x5q => kernel_rfl)
    (case dkC => k_is)
    (case dk1 => kernel_rfl)
    (case dk2 => kernel_rfl)
    (case dk3 => kernel_rfl)
    (case dk4 => k_is)
    (case dkn_lot => k_is)
    (case dkn_prizes => k_is)
    (case dkn_price => k_is)
    (case dkn_done => k_is)
    (case dkn_undone => k_is)
    (case dke1 => k_is)
    (case dke2 => k_is)
    (case dke3 => k_is)
    (case dke4 => k_is)
    (case dke5 => kernel_rfl)
    (case dke6 => kernel_rfl)
    (case dke7 => kernel_rfl)
    (case dke8 => k_is)
    (case dm0a => k_is)
    (case dm0l => k_is)
    (case dm0T => k_is)
    (case dm0c => k_is)
    (case dm0f => kernel_rfl)
    (case dm0k => k_is)
    (case dm0m => kernel_rfl)
    (case dm0p => k_is)
    (case dm1a => k_is)
    (case dm1l => k_is)
    (case dm1c => k_is)
    (case dm1f => kernel_rfl)
    (case dm1k => k_is)
    (case dm2a => k_is)
    (case dm2l => k_is)
    (case dm2c => k_is)
    (case dm2f => kernel_rfl)
    (case dm2k => k_is)
    (case dm3a => k_is)
    (case dm3l => k_is)
    (case dm3c => k_is)
    (case dm3f => kernel_rfl)
    (case dm3k => k_is)
    (case dm4a => k_is)
    (case dm4l => k_is)
    (case dm4c => k_is)
    (case dm4f => kernel_rfl)
    (case dm4k => k_is)
    (case dm5a => k_is)
    (case dm5l => k_is)
    (case dm5c => k_is)
    (case dm5f => kernel_rfl)
    (case dm5k => k_is)
    (case dm6a => k_is)
    (case dm6l => k_is)
    (case dm6c => k_is)
    (case dm6f => kernel_rfl)
    (case dm6k => k_is)
    (case dm7a => k_is)
    (case dm7l => k_is)
    (case dm7c => k_is)
    (case dm7f => kernel_rfl)
    (case dm7k => k_is)
    (case dm8a => k_is)
    (case dm8l => k_is)
    (case dm8c => k_is)
    (case dm8f => kernel_rfl)
    (case dm8k => k_is)
    (case dm9a => k_is)
    (case dm9l => k_is)
    (case dm9c => k_is)
    (case dm9f => kernel_rfl)
    (case dm9k => k_is)
    (case dm10a => k_is)
    (case dm10l => k_is)
    (case dm10c => k_is)
    (case dm10f => kernel_rfl)
    (case dm10k => k_is)
    (case dm11a => k_is)
    (case dm11l => k_is)
    (case dm11c => k_is)
    (case dm11f => kernel_rfl)
    (case dm11k => k_is)
