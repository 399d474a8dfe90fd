import PyProof.Rows.All
import Wide.All
import OpenK.AllK
import Wide.FinOn
import HandS.ForMost
import HandS.TupAny
import HandS.Conv
import HandS.Flow
import HandS.Lambda
import HandS.Deep
import HandS.Zip
import HandS.SortKw
import HandS.Iter
import KE.DatumOrd
import KE.GoesMore
import PyProof.EnumMake
import PyProof.SumWalkG
import PyProof.WalksMore
import PyProof.SeqI3
import HandS.Set
import HandS.SetFor
import HandS.TupSets
import HandS.IsInst
import HandS.Style
import HandS.More
import PySem.Challenge.RW_suretickets_k01_things
set_option Elab.async false
set_option linter.all false
set_option maxRecDepth 100000
set_option maxHeartbeats 4000000
/-! Fx, part A: data without a heap, abstract stores, the judgements. -/
namespace Fx
open PySem L2

/-- data that never changes -/
inductive D where
  | non | bl (b : Bool) | int (i : Int) | str (x : Str) | tup (ds : List D) | lis (ds : List D)
mutual
def Rep (K : PySem.W.Frag) (H : Hp) : D → V → Prop
  | .non, v => v = .non
  | .bl b, v => v = .bl b
  | .int i, v => v = .int i
  | .str x, v => v = .str x
  | .tup ds, v => ∃ a xs, v = .ref a ∧ SqT K H a xs ∧ Reps K H ds xs
  | .lis ds, v => ∃ a xs o, v = .ref a ∧ H a = some (.frz o (.lst xs)) ∧ Reps K H ds xs
def Reps (K : PySem.W.Frag) (H : Hp) : List D → List V → Prop
  | [], xs => xs = []
  | d :: ds, xs => ∃ x r, xs = x :: r ∧ Rep K H d x ∧ Reps K H ds r
end
/-- tuples (and what is locked) stay -/
structure Tx (H H2 : Hp) : Prop where
  tup : ∀ a xs, H a = some (.tup xs) → H2 a = some (.tup xs)
  frz : ∀ a o u, H a = some (.frz o u) → H2 a = some (.frz o u)
  ext : ∀ a φ, H a = some (.ext φ) → H2 a = some (.ext φ)
theorem Tx.refl (H : Hp) : Tx H H := ⟨fun _ _ h => h, fun _ _ _ h => h, fun _ _ h => h⟩
theorem Tx.trans {H H1 H2 : Hp} (a : Tx H H1) (b : Tx H1 H2) : Tx H H2 := ⟨fun x y h => b.tup x y (a.tup x y h), fun x y z h => b.frz x y z (a.frz x y z h), fun x y h => b.ext x y (a.ext x y h)⟩
theorem Tx.same {H H2 : Hp} (s : Same H H2) : Tx H H2 := ⟨fun _ _ h => s _ _ h, fun _ _ _ h => s _ _ h, fun _ _ h => s _ _ h⟩
theorem sqT_tx {K : PySem.W.Frag} {H H2 : Hp} {a : Addr} {xs : List V} (t : Tx H H2) (h : SqT K H a xs) : SqT K H2 a xs := by
  rcases h with (h | ⟨o, h⟩) | h
  · exact .inl (.inl (t.tup _ _ h))
  · exact .inl (.inr ⟨o, t.frz _ _ _ h⟩)
  · exact .inr h
mutual
theorem Rep.tx {K : PySem.W.Frag} {H H2 : Hp} (t : Tx H H2) : ∀ {d : D} {v : V}, Rep K H d v → Rep K H2 d v
  | .non, _, h => h
  | .bl _, _, h => h
  | .int _, _, h => h
  | .str _, _, h => h
  | .tup _, _, ⟨a, xs, e, q, r⟩ => ⟨a, xs, e, sqT_tx t q, Reps.tx t r⟩
  | .lis _, _, ⟨a, xs, o, e, q, r⟩ => ⟨a, xs, o, e, t.frz _ _ _ q, Reps.tx t r⟩
theorem Reps.tx {K : PySem.W.Frag} {H H2 : Hp} (t : Tx H H2) : ∀ {ds : List D} {vs : List V}, Reps K H ds vs → Reps K H2 ds vs
  | [], _, h => h
  | _ :: _, _, ⟨x, r, e, h1, h2⟩ => ⟨x, r, e, Rep.tx t h1, Reps.tx t h2⟩
end
theorem Reps.length {K : PySem.W.Frag} {H : Hp} : ∀ {ds : List D} {vs : List V}, Reps K H ds vs → vs.length = ds.length
  | [], _, h => by rw [show _ = [] from h]; rfl
  | _ :: _, _, ⟨x, r, e, _, h2⟩ => by rw [e, List.length_cons, List.length_cons, Reps.length h2]
theorem Reps.get {K : PySem.W.Frag} {H : Hp} : ∀ {ds : List D} {vs : List V} {i : Nat} {d : D}, Reps K H ds vs → ds[i]? = some d → ∃ v, vs[i]? = some v ∧ Rep K H d v
  | [], _, _, _, _, e => by simp at e
  | _ :: _, _, 0, _, ⟨x, r, e, h1, _⟩, e2 => by
    subst e
    have : _ = _ := Option.some.inj e2
    subst this
    exact ⟨x, rfl, h1⟩
  | _ :: ds, _, i + 1, d, ⟨x, r, e, _, h2⟩, e2 => by
    subst e
    exact Reps.get (ds := ds) (i := i) h2 e2
theorem Reps.get' {K : PySem.W.Frag} {H : Hp} : ∀ {ds : List D} {vs : List V} {i : Nat} {v : V}, Reps K H ds vs → vs[i]? = some v → ∃ d, ds[i]? = some d ∧ Rep K H d v
  | [], _, _, _, h, e => by rw [show _ = [] from h] at e; simp at e
  | d :: _, _, 0, _, ⟨x, r, e, h1, _⟩, e2 => by
    subst e
    have : _ = _ := Option.some.inj e2
    subst this
    exact ⟨d, rfl, h1⟩
  | _ :: ds, _, i + 1, d, ⟨x, r, e, _, h2⟩, e2 => by
    subst e
    exact Reps.get' (ds := ds) (i := i) h2 e2
theorem Reps.append {K : PySem.W.Frag} {H : Hp} : ∀ {ds es : List D} {vs us : List V}, Reps K H ds vs → Reps K H es us → Reps K H (ds ++ es) (vs ++ us)
  | [], _, _, _, h, k => by rw [show _ = [] from h]; exact k
  | _ :: _, _, _, _, ⟨x, r, e, h1, h2⟩, k => by
    subst e
    exact ⟨x, _, rfl, h1, Reps.append h2 k⟩
theorem Reps.drop {K : PySem.W.Frag} {H : Hp} : ∀ {ds : List D} {vs : List V} (n : Nat), Reps K H ds vs → Reps K H (ds.drop n) (vs.drop n)
  | _, _, 0, h => h
  | [], _, n + 1, h => by rw [show _ = [] from h]; rfl
  | _ :: _, _, n + 1, ⟨x, r, e, _, h2⟩ => by
    subst e
    exact Reps.drop n h2
theorem Reps.take {K : PySem.W.Frag} {H : Hp} : ∀ {ds : List D} {vs : List V} (n : Nat), Reps K H ds vs → Reps K H (ds.take n) (vs.take n)
  | _, _, 0, _ => rfl
  | [], _, n + 1, h => by rw [show _ = [] from h]; rfl
  | _ :: _, _, n + 1, ⟨x, r, e, h1, h2⟩ => by
    subst e
    exact ⟨x, _, rfl, h1, Reps.take n h2⟩
theorem Reps.set {K : PySem.W.Frag} {H : Hp} {d : D} {v : V} (q : Rep K H d v) : ∀ {ds : List D} {vs : List V} (n : Nat), Reps K H ds vs → Reps K H (ds.set n d) (vs.set n v)
  | [], _, _, h => by rw [show _ = [] from h]; rfl
  | _ :: _, _, 0, ⟨x, r, e, _, h2⟩ => by
    subst e
    exact ⟨v, r, rfl, q, h2⟩
  | _ :: _, _, n + 1, ⟨x, r, e, h1, h2⟩ => by
    subst e
    exact ⟨x, _, rfl, h1, Reps.set q n h2⟩
theorem Reps.erase {K : PySem.W.Frag} {H : Hp} : ∀ {ds : List D} {vs : List V} (n : Nat), Reps K H ds vs → Reps K H (ds.eraseIdx n) (vs.eraseIdx n)
  | [], _, _, h => by rw [show _ = [] from h]; rfl
  | _ :: _, _, 0, ⟨x, r, e, _, h2⟩ => by
    subst e
    exact h2
  | _ :: _, _, n + 1, ⟨x, r, e, h1, h2⟩ => by
    subst e
    exact ⟨x, _, rfl, h1, Reps.erase n h2⟩
theorem Reps.reverse {K : PySem.W.Frag} {H : Hp} : ∀ {ds : List D} {vs : List V}, Reps K H ds vs → Reps K H ds.reverse vs.reverse
  | [], _, h => by rw [show _ = [] from h]; rfl
  | _ :: _, _, ⟨x, r, e, h1, h2⟩ => by
    subst e
    rw [List.reverse_cons, List.reverse_cons]
    exact (Reps.reverse h2).append ⟨x, [], rfl, h1, rfl⟩
/-- ints, bools, texts by their values -/
theorem reps_ints {K : PySem.W.Frag} {H : Hp} : ∀ {ns : List Int} {vs : List V}, Reps K H (ns.map D.int) vs ↔ vs = ns.map V.int
  | [], _ => Iff.rfl
  | n :: ns, vs => by
    constructor
    · rintro ⟨x, r, rfl, h1, h2⟩
      rw [show x = V.int n from h1, reps_ints.mp h2]
      rfl
    · rintro rfl
      exact ⟨_, _, rfl, rfl, reps_ints.mpr rfl⟩
theorem reps_bls {K : PySem.W.Frag} {H : Hp} : ∀ {ns : List Bool} {vs : List V}, Reps K H (ns.map D.bl) vs ↔ vs = ns.map V.bl
  | [], _ => Iff.rfl
  | n :: ns, vs => by
    constructor
    · rintro ⟨x, r, rfl, h1, h2⟩
      rw [show x = V.bl n from h1, reps_bls.mp h2]
      rfl
    · rintro rfl
      exact ⟨_, _, rfl, rfl, reps_bls.mpr rfl⟩
theorem reps_strs {K : PySem.W.Frag} {H : Hp} : ∀ {ns : List Str} {vs : List V}, Reps K H (ns.map D.str) vs ↔ vs = ns.map V.str
  | [], _ => Iff.rfl
  | n :: ns, vs => by
    constructor
    · rintro ⟨x, r, rfl, h1, h2⟩
      rw [show x = V.str n from h1, reps_strs.mp h2]
      rfl
    · rintro rfl
      exact ⟨_, _, rfl, rfl, reps_strs.mpr rfl⟩

/-- what a name may hold: data, a list of data that nobody changes, an object of the abstract store, a list of such things that nobody changes -/
inductive AV where
  | dat (d : D) | ls (ds : List D) | mut (j : Nat) | la (as : List AV) | scr (ns : List Int) | tx (ds : List D) | exc (C : Addr) (fs : List (Str × D)) | fn (f : Addr) | ta (as : List AV)
/-- an object of the abstract store -/
inductive MO where
  | lst (ds : List D) | town (j : Nat) | rests | ins (C : Addr) (fs : List (Str × AV)) | kd (ks : List Int) | tab (P : Addr) (q : Str)
def LstAt (ad : List Addr) (H : Hp) (a : Addr) (xs : List V) : Prop := H a = some (.lst xs) ∧ a ∉ ad
def ScrAt (K : PySem.W.Frag) (ad : List Addr) (H : Hp) (a : Addr) (xs : List V) : Prop := (Rd H a (.lst xs) ∧ a ∉ ad) ∨ SqL K (fun _ => none) a xs
/-- a tuple of the heap whose object is known: it has no dict -/
def ExT (H : Hp) (a : Addr) (xs : List V) : Prop := ∃ o : Obj, H a = some (.frz o (.tup xs)) ∧ o.cls = .type "tuple" ∧ o.dict = none
/-- the fields of an exception -/
def XdAt (K : PySem.W.Frag) (ad : List Addr) (H : Hp) (d : Option Addr) (fs : List (Str × D)) : Prop := match d with
  | none => fs = []
  | some dx => dx ∉ ad ∧ ∃ xs, H dx = some (.xd xs) ∧ ∀ f d, fs.lookup f = some d → ∃ v, xs.lookup f = some v ∧ Rep K H d v
/-- an exception that is held -/
def ExcAt (K : PySem.W.Frag) (ad : List Addr) (H : Hp) (C : Addr) (fs : List (Str × D)) (v : V) : Prop :=
  ∃ (a : Addr) (oe : Obj), v = .ref a ∧ a ∉ ad ∧ H a = some (.ext fun h => h.get? a = some oe) ∧ oe.cls = .ref C ∧ (∃ vs, oe.data = .fields vs) ∧ XdAt K ad H oe.dict fs
mutual
def RepA (K : PySem.W.Frag) (ad : List Addr) (H : Hp) : AV → V → Prop
  | .dat d, v => Rep K H d v
  | .ls ds, v => ∃ a xs, v = .ref a ∧ LstAt ad H a xs ∧ Reps K H ds xs
  | .mut j, v => ∃ a, ad[j]? = some a ∧ v = .ref a
  | .la as, v => ∃ a xs, v = .ref a ∧ LstAt ad H a xs ∧ RepAs K ad H as xs
  | .ta as, v => ∃ a xs, v = .ref a ∧ SqT K H a xs ∧ RepAs K ad H as xs
  | .scr ns, v => ∃ a, v = .ref a ∧ ScrAt K ad H a (ns.map V.int)
  | .tx ds, v => ∃ a xs, v = .ref a ∧ ExT H a xs ∧ Reps K H ds xs
  | .exc C fs, v => ExcAt K ad H C fs v
  | .fn f, v => v = .ref f
def RepAs (K : PySem.W.Frag) (ad : List Addr) (H : Hp) : List AV → List V → Prop
  | [], xs => xs = []
  | d :: ds, xs => ∃ x r, xs = x :: r ∧ RepA K ad H d x ∧ RepAs K ad H ds r
end
def RepF (K : PySem.W.Frag) (ad : List Addr) (H : Hp) : AV → V → Prop
  | .dat d, v => Rep K H d v
  | .mut j, v => ∃ a, ad[j]? = some a ∧ v = .ref a
  | _, _ => False
/-- the fields of an object -/
def RepFs (K : PySem.W.Frag) (ad : List Addr) (H : Hp) : List (Str × AV) → List (Str × V) → Prop
  | [], xs => xs = []
  | p :: ps, xs => ∃ v r, xs = (p.1, v) :: r ∧ RepF K ad H p.2 v ∧ RepFs K ad H ps r
/-- what the law's cells still hold: keys from 0 to 62, each once -/
def RestOk (kvs : List (Key × V)) : Prop := (kvs.map (·.1)).Nodup ∧ ∀ p ∈ kvs, ∃ i v : Int, p = (Sum.inl i, V.int v) ∧ 0 ≤ i ∧ i < 63
def ObjA (K : PySem.W.Frag) (ad : List Addr) (H : Hp) (a : Addr) : MO → Prop
  | .lst ds => ∃ xs, H a = some (.lst xs) ∧ Reps K H ds xs
  | .town j => ∃ (c : Int) (b : Addr), ad[j]? = some b ∧ H a = some (.dK [(Sum.inr "count", V.int c), (Sum.inr "rests", V.ref b)])
  | .rests => ∃ kvs, H a = some (.dK kvs) ∧ RestOk kvs
  | .ins C fs => ∃ dx xs, H a = some (.ins C dx xs) ∧ RepFs K ad H fs xs
  | .kd ks => H a = some (.dK (ks.map fun k => (Sum.inl k, V.bl true)))
  | .tab P q => a = P ∧ LamX.TabS H a q
/-- the store -/
structure StOk (K : PySem.W.Frag) (ad : List Addr) (H : Hp) (M : List MO) : Prop where
  nd : ad.Nodup
  len : ad.length = M.length
  obj : ∀ (j : Nat) (m : MO), M[j]? = some m → ∃ a, ad[j]? = some a ∧ ObjA K ad H a m
/-- from (ad, H) on to (ad2, H2): the store may change and grow by what is new; all else is kept -/
structure Nx (ad : List Addr) (H : Hp) (ad2 : List Addr) (H2 : Hp) : Prop where
  pre : ∃ t, ad2 = ad ++ t
  fresh : ∀ a ∈ ad2, a ∉ ad → H a = none
  keep : ∀ a o, a ∉ ad → H a = some o → H2 a = some o
  tx : Tx H H2
section
variable {K : PySem.W.Frag} {ad ad1 ad2 : List Addr} {H H1 H2 : Hp} {M : List MO}
theorem Nx.same (s : Same H H2) : Nx ad H ad H2 := ⟨⟨[], by simp⟩, fun a h n => absurd h n, fun a o _ h => s a o h, Tx.same s⟩
theorem Nx.refl : Nx ad H ad H := Nx.same (Same.refl H)
theorem Nx.sub (n : Nx ad H ad2 H2) {a : Addr} (h : a ∈ ad) : a ∈ ad2 := by
  obtain ⟨t, e⟩ := n.pre
  rw [e]
  exact List.mem_append_left _ h
theorem Nx.trans (n : Nx ad H ad1 H1) (m : Nx ad1 H1 ad2 H2) : Nx ad H ad2 H2 := by
  refine ⟨?_, fun a h2 h => ?_, fun a o h e => ?_, n.tx.trans m.tx⟩
  · obtain ⟨t, e⟩ := n.pre
    obtain ⟨u, e2⟩ := m.pre
    exact ⟨t ++ u, by rw [e2, e, List.append_assoc]⟩
  · by_cases h1 : a ∈ ad1
    · exact n.fresh a h1 h
    · have z := m.fresh a h2 h1
      cases q : H a with
      | none => rfl
      | some o =>
        rw [n.keep a o h q] at z
        cases z
  · refine m.keep a o (fun z => ?_) (n.keep a o h e)
    have z2 := n.fresh a z h
    rw [e] at z2
    cases z2
theorem Nx.get (n : Nx ad H ad2 H2) {j : Nat} {a : Addr} (h : ad[j]? = some a) : ad2[j]? = some a := by
  obtain ⟨t, e⟩ := n.pre
  rw [e, List.getElem?_append_left (List.getElem?_eq_some_iff.mp h).1]
  exact h
theorem LstAt.nx (n : Nx ad H ad2 H2) {a : Addr} {xs : List V} (h : LstAt ad H a xs) : LstAt ad2 H2 a xs := by
  refine ⟨n.keep _ _ h.2 h.1, fun z => ?_⟩
  have q := n.fresh a z h.2
  rw [h.1] at q
  cases q
theorem LstAt.sq {a : Addr} {xs : List V} (h : LstAt ad H a xs) : SqL K H a xs := .inl (.inl h.1)
theorem ScrAt.nx (n : Nx ad H ad2 H2) {a : Addr} {xs : List V} (h : ScrAt K ad H a xs) : ScrAt K ad2 H2 a xs := by
  rcases h with ⟨h, hn⟩ | h
  · refine .inl ⟨?_, fun z => ?_⟩
    · rcases h with h | ⟨o, h⟩
      · exact .inl (n.keep _ _ hn h)
      · exact .inr ⟨o, n.keep _ _ hn h⟩
    · have q := n.fresh a z hn
      rcases h with h | ⟨o, h⟩ <;> (rw [h] at q; cases q)
  · exact .inr h
theorem ScrAt.sq {a : Addr} {xs : List V} (h : ScrAt K ad H a xs) : SqL K H a xs := by
  rcases h with ⟨h, _⟩ | (h | ⟨o, h⟩) | h
  · exact .inl h
  · cases h
  · cases h
  · exact .inr h
theorem ExT.tx (t : Tx H H2) {a : Addr} {xs : List V} (h : ExT H a xs) : ExT H2 a xs := by
  obtain ⟨o, h1, h2, h3⟩ := h
  exact ⟨o, t.frz _ _ _ h1, h2, h3⟩
theorem ExT.sq {a : Addr} {xs : List V} (h : ExT H a xs) : SqT K H a xs := by
  obtain ⟨o, h1, _⟩ := h
  exact .inl (.inr ⟨o, h1⟩)
theorem Nx.out (n : Nx ad H ad2 H2) {a : Addr} {o : HO} (h : a ∉ ad) (e : H a = some o) : a ∉ ad2 := fun z => by
  have q := n.fresh a z h
  rw [e] at q
  cases q
theorem XdAt.nx (n : Nx ad H ad2 H2) {d : Option Addr} {fs : List (Str × D)} (h : XdAt K ad H d fs) : XdAt K ad2 H2 d fs := by
  cases d with
  | none => exact h
  | some dx =>
    obtain ⟨h1, xs, h2, h3⟩ := h
    refine ⟨n.out h1 h2, xs, n.keep _ _ h1 h2, fun f d e => ?_⟩
    obtain ⟨v, e1, r⟩ := h3 f d e
    exact ⟨v, e1, r.tx n.tx⟩
theorem ExcAt.nx (n : Nx ad H ad2 H2) {C : Addr} {fs : List (Str × D)} {v : V} (h : ExcAt K ad H C fs v) : ExcAt K ad2 H2 C fs v := by
  obtain ⟨a, oe, e, h1, h2, h3, h4, h5⟩ := h
  exact ⟨a, oe, e, n.out h1 h2, n.keep _ _ h1 h2, h3, h4, h5.nx n⟩
mutual
theorem RepA.nx (n : Nx ad H ad2 H2) : ∀ {a : AV} {v : V}, RepA K ad H a v → RepA K ad2 H2 a v
  | .dat _, _, h => Rep.tx n.tx h
  | .ls _, _, ⟨a, xs, e, q, r⟩ => ⟨a, xs, e, q.nx n, r.tx n.tx⟩
  | .mut _, _, ⟨a, q, e⟩ => ⟨a, n.get q, e⟩
  | .la _, _, ⟨a, xs, e, q, r⟩ => ⟨a, xs, e, q.nx n, RepAs.nx n r⟩
  | .ta _, _, ⟨a, xs, e, q, r⟩ => ⟨a, xs, e, sqT_tx n.tx q, RepAs.nx n r⟩
  | .scr _, _, ⟨a, e, q⟩ => ⟨a, e, q.nx n⟩
  | .tx _, _, ⟨a, xs, e, q, r⟩ => ⟨a, xs, e, q.tx n.tx, r.tx n.tx⟩
  | .exc _ _, _, h => ExcAt.nx n h
  | .fn _, _, h => h
theorem RepAs.nx (n : Nx ad H ad2 H2) : ∀ {as : List AV} {vs : List V}, RepAs K ad H as vs → RepAs K ad2 H2 as vs
  | [], _, h => h
  | _ :: _, _, ⟨x, r, e, h1, h2⟩ => ⟨x, r, e, RepA.nx n h1, RepAs.nx n h2⟩
end
theorem RepF.nx' (g : ∀ (j : Nat) (a : Addr), ad[j]? = some a → ad2[j]? = some a) (t : Tx H H2) : ∀ {a : AV} {v : V}, RepF K ad H a v → RepF K ad2 H2 a v
  | .dat _, _, h => Rep.tx t h
  | .mut _, _, ⟨a, q, e⟩ => ⟨a, g _ _ q, e⟩
  | .ls _, _, h => h.elim
  | .la _, _, h => h.elim
  | .ta _, _, h => h.elim
  | .scr _, _, h => h.elim
  | .tx _, _, h => h.elim
  | .exc _ _, _, h => h.elim
  | .fn _, _, h => h.elim
theorem RepFs.nx' (g : ∀ (j : Nat) (a : Addr), ad[j]? = some a → ad2[j]? = some a) (t : Tx H H2) : ∀ {a : List (Str × AV)} {v : List (Str × V)}, RepFs K ad H a v → RepFs K ad2 H2 a v
  | [], _, h => h
  | _ :: _, _, ⟨x, r, e, h1, h2⟩ => ⟨x, r, e, RepF.nx' g t h1, RepFs.nx' g t h2⟩
theorem ObjA.nx' (g : ∀ (j : Nat) (a : Addr), ad[j]? = some a → ad2[j]? = some a) (t : Tx H H2) {a : Addr} (e : ∀ o, H a = some o → H2 a = some o) : ∀ {m : MO}, ObjA K ad H a m → ObjA K ad2 H2 a m
  | .lst _, ⟨xs, h, r⟩ => ⟨xs, e _ h, r.tx t⟩
  | .town _, ⟨c, b, h, k⟩ => ⟨c, b, g _ _ h, e _ k⟩
  | .rests, ⟨kvs, h, k⟩ => ⟨kvs, e _ h, k⟩
  | .ins _ _, ⟨dx, xs, h, k⟩ => ⟨dx, xs, e _ h, RepFs.nx' g t k⟩
  | .kd _, h => e _ h
  | .tab _ _, ⟨z, ps, h1, h2, h3⟩ => ⟨z, ps, e _ h1, h2, fun pos cv hc => by
    obtain ⟨c, e1, e2⟩ := h3 pos cv hc
    exact ⟨c, e1, t.ext _ _ e2⟩⟩
theorem ObjA.there {a : Addr} : ∀ {m : MO}, ObjA K ad H a m → ∃ o, H a = some o ∧ (∀ xs, o ≠ .tup xs) ∧ (∀ u w, o ≠ .frz u w) ∧ ∀ φ, o ≠ .ext φ
  | .lst _, ⟨xs, h, r⟩ => ⟨_, h, (by intro _ z; cases z), (by intro _ _ z; cases z), (by intro _ z; cases z)⟩
  | .town _, ⟨c, b, h, k⟩ => ⟨_, k, (by intro _ z; cases z), (by intro _ _ z; cases z), (by intro _ z; cases z)⟩
  | .rests, ⟨kvs, h, k⟩ => ⟨_, h, (by intro _ z; cases z), (by intro _ _ z; cases z), (by intro _ z; cases z)⟩
  | .ins _ _, ⟨dx, xs, h, k⟩ => ⟨_, h, (by intro _ z; cases z), (by intro _ _ z; cases z), (by intro _ z; cases z)⟩
  | .tab _ _, ⟨_, ps, h, _⟩ => ⟨_, h, (by intro _ z; cases z), (by intro _ _ z; cases z), (by intro _ z; cases z)⟩
  | .kd _, h => ⟨_, h, (by intro _ z; cases z), (by intro _ _ z; cases z), (by intro _ z; cases z)⟩
theorem StOk.there (S : StOk K ad H M) {a : Addr} (h : a ∈ ad) : ∃ o, H a = some o ∧ (∀ xs, o ≠ .tup xs) ∧ (∀ u w, o ≠ .frz u w) ∧ ∀ φ, o ≠ .ext φ := by
  obtain ⟨j, hj, e⟩ := List.mem_iff_getElem.mp h
  have hM : j < M.length := S.len ▸ hj
  obtain ⟨b, hb, o⟩ := S.obj j M[j] (List.getElem?_eq_getElem hM)
  rw [List.getElem?_eq_getElem hj, e] at hb
  cases hb
  exact o.there
theorem StOk.free (S : StOk K ad H M) {p : Addr} (h : H p = none) : p ∉ ad := fun z => by
  obtain ⟨o, e, _⟩ := S.there z
  rw [h] at e
  cases e
theorem StOk.same (s : Same H H2) (S : StOk K ad H M) : StOk K ad H2 M := ⟨S.nd, S.len, fun j m e => by
  obtain ⟨a, h, o⟩ := S.obj j m e
  exact ⟨a, h, o.nx' (fun _ _ q => q) (Tx.same s) (s a)⟩⟩
/-- a new object stands -/
theorem StOk.push (S : StOk K ad H M) {p : Addr} {m : MO} (hp : p ∉ ad) (hm : ObjA K (ad ++ [p]) H p m) : StOk K (ad ++ [p]) H (M ++ [m]) := by
  refine ⟨?_, by rw [List.length_append, List.length_append, S.len]; rfl, fun j x e => ?_⟩
  · rw [List.nodup_append]
    exact ⟨S.nd, List.nodup_cons.mpr ⟨List.not_mem_nil, List.nodup_nil⟩, fun a ha b hb z => hp (by rw [List.mem_singleton.mp hb] at z; rw [← z]; exact ha)⟩
  · by_cases hj : j < M.length
    · rw [List.getElem?_append_left hj] at e
      obtain ⟨a, h, o⟩ := S.obj j x e
      have g : ∀ (i : Nat) (b : Addr), ad[i]? = some b → (ad ++ [p])[i]? = some b := fun i b q => by
        rw [List.getElem?_append_left (List.getElem?_eq_some_iff.mp q).1]
        exact q
      exact ⟨a, g j a h, o.nx' g (Tx.refl H) fun _ q => q⟩
    · have hj2 : j = M.length := by
        have := (List.getElem?_eq_some_iff.mp e).1
        rw [List.length_append] at this
        have h1 : [m].length = 1 := rfl
        omega
      subst hj2
      rw [List.getElem?_append_right (Nat.le_refl _), Nat.sub_self] at e
      cases e
      refine ⟨p, ?_, hm⟩
      rw [← S.len, List.getElem?_append_right (Nat.le_refl _), Nat.sub_self]
      rfl
/-- the j-th object has changed -/
theorem StOk.put (S : StOk K ad H M) {j : Nat} {a : Addr} {m : MO} {o : HO} (hj : ad[j]? = some a) (hm : ObjA K ad (upd H a o) a m) : StOk K ad (upd H a o) (M.set j m) ∧ Nx ad H ad (upd H a o) := by
  have ha : a ∈ ad := List.mem_of_getElem? hj
  obtain ⟨u, hu, nt, nf, ne⟩ := S.there ha
  have t : Tx H (upd H a o) := ⟨fun b xs q => by
    rw [upd_ne (fun z => by subst z; rw [hu] at q; exact nt xs (Option.some.inj q))]
    exact q, fun b x y q => by
    rw [upd_ne (fun z => by subst z; rw [hu] at q; exact nf _ _ (Option.some.inj q))]
    exact q, fun b x q => by
    rw [upd_ne (fun z => by subst z; rw [hu] at q; exact ne _ (Option.some.inj q))]
    exact q⟩
  refine ⟨⟨S.nd, by rw [List.length_set, S.len], fun i x e => ?_⟩, ⟨⟨[], by simp⟩, fun a h n => absurd h n, fun b u hb q => by
    rw [upd_ne (fun z => hb (by rw [z]; exact ha))]
    exact q, t⟩⟩
  by_cases hi : j = i
  · subst hi
    have hl : j < M.length := by
      have := (List.getElem?_eq_some_iff.mp hj).1
      rw [S.len] at this
      exact this
    rw [List.getElem?_set_self hl] at e
    cases e
    exact ⟨a, hj, hm⟩
  · rw [List.getElem?_set_ne hi] at e
    obtain ⟨b, hb, ob⟩ := S.obj i x e
    refine ⟨b, hb, ob.nx' (fun _ _ q => q) t fun w q => ?_⟩
    rw [upd_ne (fun z => hi (nd_ix S.nd hj (by rw [← z]; exact hb)))]
    exact q
end

/-! ### the frame's names -/
abbrev Dl := List (Option AV)
structure EnvOk (K : PySem.W.Frag) (ad : List Addr) (H : Hp) (σ : L2.St) (δ : Dl) : Prop where
  len : σ.length = δ.length
  at_ : ∀ (i : Nat) (a : AV), δ[i]? = some (some a) → ∃ v, σ[i]? = some (some v) ∧ RepA K ad H a v
section
variable {K : PySem.W.Frag} {ad ad1 ad2 : List Addr} {H H1 H2 : Hp} {σ : L2.St} {δ : Dl}
theorem EnvOk.nx (n : Nx ad H ad2 H2) (e : EnvOk K ad H σ δ) : EnvOk K ad2 H2 σ δ := ⟨e.len, fun i a h => by
  obtain ⟨v, h1, h2⟩ := e.at_ i a h
  exact ⟨v, h1, h2.nx n⟩⟩
theorem EnvOk.set (e : EnvOk K ad H σ δ) {i : Nat} {a : AV} {v : V} (r : RepA K ad H a v) : EnvOk K ad H (σ.set i (some v)) (δ.set i (some a)) := ⟨by rw [List.length_set, List.length_set, e.len], fun j b h => by
  by_cases hi : i = j
  · subst hi
    have hl : i < δ.length := by
      have := (List.getElem?_eq_some_iff.mp h).1
      rw [List.length_set] at this
      exact this
    rw [List.getElem?_set_self hl] at h
    have : a = b := Option.some.inj (Option.some.inj h)
    subst this
    exact ⟨v, by rw [List.getElem?_set_self (by rw [e.len]; exact hl)], r⟩
  · rw [List.getElem?_set_ne hi] at h
    rw [List.getElem?_set_ne hi]
    exact e.at_ j b h⟩
/-- a name forgotten -/
theorem EnvOk.unset (e : EnvOk K ad H σ δ) {i : Nat} : EnvOk K ad H (σ.set i none) (δ.set i none) := ⟨by rw [List.length_set, List.length_set, e.len], fun j b h => by
  by_cases hi : i = j
  · subst hi
    have hl : i < δ.length := by
      have := (List.getElem?_eq_some_iff.mp h).1
      rw [List.length_set] at this
      exact this
    rw [List.getElem?_set_self hl] at h
    cases h
  · rw [List.getElem?_set_ne hi] at h
    rw [List.getElem?_set_ne hi]
    exact e.at_ j b h⟩
def wipeD (δ : Dl) : List Nat → Dl
  | [] => δ
  | v :: vs => (wipeD δ vs).set v none
theorem EnvOk.wipe (e : EnvOk K ad H σ δ) : ∀ vs : List Nat, EnvOk K ad H (L2.wipe σ vs) (wipeD δ vs)
  | [] => e
  | _ :: vs => (EnvOk.wipe e vs).unset
theorem envOk_start {as : List AV} {vs : List V} {N : List Str} (r : RepAs K ad H as vs) : EnvOk K ad H (L2.start N vs) (as.map some ++ List.replicate (N.length - as.length) none) := by
  have hl : ∀ {as : List AV} {vs : List V}, RepAs K ad H as vs → vs.length = as.length := by
    intro as
    induction as with
    | nil => intro vs h; rw [show vs = [] from h]; rfl
    | cons a as ih =>
      rintro vs ⟨x, r, rfl, _, h⟩
      rw [List.length_cons, List.length_cons, ih h]
  have hg : ∀ {as : List AV} {vs : List V} (i : Nat) (a : AV), RepAs K ad H as vs → as[i]? = some a → ∃ v, vs[i]? = some v ∧ RepA K ad H a v := by
    intro as
    induction as with
    | nil => intro vs i a _ e; simp at e
    | cons b as ih =>
      rintro vs i a ⟨x, r, rfl, h1, h⟩ e
      cases i with
      | zero =>
        have : b = a := Option.some.inj e
        subst this
        exact ⟨x, rfl, h1⟩
      | succ i => exact ih i a h e
  refine ⟨by unfold L2.start; simp only [List.length_append, List.length_map, List.length_replicate, hl r], fun i a h => ?_⟩
  by_cases hi : i < as.length
  · rw [List.getElem?_append_left (by rw [List.length_map]; exact hi), List.getElem?_map] at h
    have h2 : as[i]? = some a := by
      rw [List.getElem?_eq_getElem hi] at h ⊢
      exact Option.some.inj h ▸ rfl
    obtain ⟨v, hv, rv⟩ := hg i a r h2
    refine ⟨v, ?_, rv⟩
    unfold L2.start
    rw [List.getElem?_append_left (by rw [List.length_map, hl r]; exact hi), List.getElem?_map, hv]
    rfl
  · rw [List.getElem?_append_right (by rw [List.length_map]; omega), List.getElem?_replicate] at h
    split at h <;> cases h
end

/-! ### what a piece of syntax does, whatever the rule -/
def wE (X : Cx) (e : Expr) : TE := fun σ H Q => ∃ t, PE X e t ∧ t σ H Q
theorem wE_ok {X : Cx} {e : Expr} : PE X e (wE X e) := ⟨fun pins s σ H Q I ⟨t, h, q⟩ => h.run pins s σ H Q I q⟩
def wT (X : Cx) (e : Expr) : TT := fun σ H Q => ∃ t, PT X e t ∧ t σ H Q
theorem wT_ok {X : Cx} {e : Expr} : PT X e (wT X e) := ⟨fun pins s σ H Q I ⟨t, h, q⟩ => h.run pins s σ H Q I q⟩
def wW (X : Cx) (e : Expr) : TT := fun σ H Q => ∃ t, PW X e t ∧ t σ H Q
theorem wW_ok {X : Cx} {e : Expr} : PW X e (wW X e) := ⟨fun wh pins s σ H Q I ⟨t, h, q⟩ => h.run wh pins s σ H Q I q⟩
def wA (X : Cx) (e : List Expr) : TA := fun σ H Q => ∃ t, PA X e t ∧ t σ H Q
theorem wA_ok {X : Cx} {e : List Expr} : PA X e (wA X e) := ⟨fun pos pins s σ H Q I ⟨t, h, q⟩ => h.run pos pins s σ H Q I q⟩
def wSs (X : Cx) (e : List Stmt) : TS := fun D σ H => ∃ t, PSs X e t ∧ t D σ H
theorem wSs_ok {X : Cx} {e : List Stmt} : PSs X e (wSs X e) := ⟨fun pins s σ H D I ⟨t, h, q⟩ => h.run pins s σ H D I q⟩
def wS (X : Cx) (e : Stmt) : TS := fun D σ H => ∃ t, PS X e t ∧ t D σ H
theorem wS_ok {X : Cx} {e : Stmt} : PS X e (wS X e) := ⟨fun pins s σ H D I ⟨t, h, q⟩ => h.run pins s σ H D I q⟩
def wG (X : Cx) (e : Expr) : TG := fun v σ H Q => ∃ t, PG X e t ∧ t v σ H Q
theorem wG_ok {X : Cx} {e : Expr} : PG X e (wG X e) := ⟨fun pins s σ H v u Q I r ⟨t, h, q⟩ => h.run pins s σ H v u Q I r q⟩
def wTs (X : Cx) (e : List Expr) : TT := fun σ H Q => ∃ t, PTs X e t ∧ t σ H Q
theorem wTs_ok {X : Cx} {e : List Expr} : PTs X e (wTs X e) := ⟨fun pins s σ H Q I ⟨t, h, q⟩ => h.run pins s σ H Q I q⟩
def wK (X : Cx) (e : List Keyword) : TA := fun σ H Q => ∃ t, PK X e t ∧ t σ H Q
theorem wK_ok {X : Cx} {e : List Keyword} : PK X e (wK X e) := ⟨fun pos pins s σ H Q I ⟨t, h, q⟩ => h.run pos pins s σ H Q I q⟩
def wO (X : Cx) (f : Value → Value → Sem Value) : R2 := fun x y H Q => ∃ r, OpR X f r ∧ r x y H Q
theorem wO_ok {X : Cx} {f : Value → Value → Sem Value} : OpR X f (wO X f) := fun pins s σ H x y v u Q I rx ry ⟨r, h, q⟩ => h pins s σ H x y v u Q I rx ry q

/-! ### where a piece of syntax stands -/
structure SC where
  P : Program
  w : World
  K : PySem.W.Frag
  mg : Str → Option Value
  base : Heap
  N : List Str
  sc : Scope
  fn : Str → Bool
  k : Nat
  okE : Value → Str → Prop := fun _ _ => True
structure Dyn (c : SC) where
  A : Around
  s0 : Shared
  H0 : Hp
  env : Env
  outer : List Env
  stack : List Env
  ex : List Addr
  pn : List (Addr × Obj)
  xe : Value → Shared → Prop
  sc : env.scope = c.sc
  room : Room c.k A
  pass : PassesOwn (model c.P c.w) A env xe
  en : c.okE env.code env.qual
@[reducible] def Dyn.cx {c : SC} (y : Dyn c) : Cx where
  prog := c.P
  w := c.w
  K := c.K
  mg := c.mg
  base := c.base
  A := y.A
  N := c.N
  s_0 := y.s0
  H_0 := y.H0
  env := y.env
  outer := y.outer
  stack := y.stack
  ex := y.ex
  fn := c.fn
  calm := true
  pn := y.pn
  xe := y.xe
abbrev AQ := AV → List MO → Prop
/-- an expression -/
def EvX (c : SC) (δ : Dl) (M : List MO) (e : Expr) (Post : AQ) : Prop :=
  ∀ (y : Dyn c) (σ : L2.St) (H : Hp) (ad : List Addr), EnvOk c.K ad H σ δ → StOk c.K ad H M → ∀ Q : VK,
    (∀ v H2 ad2 a M2, Nx ad H ad2 H2 → StOk c.K ad2 H2 M2 → RepA c.K ad2 H2 a v → Post a M2 → Q v H2) → wE y.cx e σ H Q
/-- an expression that makes a new list -/
def EvF (c : SC) (δ : Dl) (M : List MO) (e : Expr) (Post : List D → List MO → Prop) : Prop :=
  ∀ (y : Dyn c) (σ : L2.St) (H : Hp) (ad : List Addr), EnvOk c.K ad H σ δ → StOk c.K ad H M → ∀ Q : VK,
    (∀ p xs H2 ad2 ds M2, Nx ad H ad2 H2 → StOk c.K ad2 H2 M2 → H p = none → p ∉ ad2 → H2 p = some (.lst xs) → Reps c.K H2 ds xs → Post ds M2 → Q (.ref p) H2) → wE y.cx e σ H Q
/-- a test -/
def EvT (c : SC) (δ : Dl) (M : List MO) (e : Expr) (Post : Bool → List MO → Prop) : Prop :=
  ∀ (y : Dyn c) (σ : L2.St) (H : Hp) (ad : List Addr), EnvOk c.K ad H σ δ → StOk c.K ad H M → ∀ Q : Bool → Hp → Prop,
    (∀ b H2 ad2 M2, Nx ad H ad2 H2 → StOk c.K ad2 H2 M2 → Post b M2 → Q b H2) → wT y.cx e σ H Q
def EvW (c : SC) (δ : Dl) (M : List MO) (e : Expr) (Post : Bool → List MO → Prop) : Prop :=
  ∀ (y : Dyn c) (σ : L2.St) (H : Hp) (ad : List Addr), EnvOk c.K ad H σ δ → StOk c.K ad H M → ∀ Q : Bool → Hp → Prop,
    (∀ b H2 ad2 M2, Nx ad H ad2 H2 → StOk c.K ad2 H2 M2 → Post b M2 → Q b H2) → wW y.cx e σ H Q
/-- a clause's tests -/
def EvTs (c : SC) (δ : Dl) (M : List MO) (e : List Expr) (Post : Bool → List MO → Prop) : Prop :=
  ∀ (y : Dyn c) (σ : L2.St) (H : Hp) (ad : List Addr), EnvOk c.K ad H σ δ → StOk c.K ad H M → ∀ Q : Bool → Hp → Prop,
    (∀ b H2 ad2 M2, Nx ad H ad2 H2 → StOk c.K ad2 H2 M2 → Post b M2 → Q b H2) → wTs y.cx e σ H Q
/-- arguments -/
def EvA (c : SC) (δ : Dl) (M : List MO) (es : List Expr) (Post : List AV → List MO → Prop) : Prop :=
  ∀ (y : Dyn c) (σ : L2.St) (H : Hp) (ad : List Addr), EnvOk c.K ad H σ δ → StOk c.K ad H M → ∀ Q : List V → Hp → Prop,
    (∀ vs H2 ad2 as M2, Nx ad H ad2 H2 → StOk c.K ad2 H2 M2 → RepAs c.K ad2 H2 as vs → Post as M2 → Q vs H2) → wA y.cx es σ H Q
def EvK (c : SC) (δ : Dl) (M : List MO) (es : List Keyword) (Post : List AV → List MO → Prop) : Prop :=
  ∀ (y : Dyn c) (σ : L2.St) (H : Hp) (ad : List Addr), EnvOk c.K ad H σ δ → StOk c.K ad H M → ∀ Q : List V → Hp → Prop,
    (∀ vs H2 ad2 as M2, Nx ad H ad2 H2 → StOk c.K ad2 H2 M2 → RepAs c.K ad2 H2 as vs → Post as M2 → Q vs H2) → wK y.cx es σ H Q
/-- what is wanted behind statements -/
structure AE where
  nx : Dl → List MO → Prop
  rt : AQ
  bk : Dl → List MO → Prop := fun _ _ => False
  ct : Dl → List MO → Prop := fun _ _ => False
structure EndsOk (K : PySem.W.Frag) (ad : List Addr) (H : Hp) (D : AE) (E : Ends) : Prop where
  nx : ∀ σ2 H2 ad2 δ2 M2, Nx ad H ad2 H2 → EnvOk K ad2 H2 σ2 δ2 → StOk K ad2 H2 M2 → D.nx δ2 M2 → E.nx σ2 H2
  rt : ∀ v H2 ad2 a M2, Nx ad H ad2 H2 → StOk K ad2 H2 M2 → RepA K ad2 H2 a v → D.rt a M2 → E.rt v H2
  bk : ∀ σ2 H2 ad2 δ2 M2, Nx ad H ad2 H2 → EnvOk K ad2 H2 σ2 δ2 → StOk K ad2 H2 M2 → D.bk δ2 M2 → E.bk σ2 H2
  ct : ∀ σ2 H2 ad2 δ2 M2, Nx ad H ad2 H2 → EnvOk K ad2 H2 σ2 δ2 → StOk K ad2 H2 M2 → D.ct δ2 M2 → E.ct σ2 H2
theorem EndsOk.on {K : PySem.W.Frag} {ad ad1 : List Addr} {H H1 : Hp} {D : AE} {E : Ends} (n : Nx ad H ad1 H1) (e : EndsOk K ad H D E) : EndsOk K ad1 H1 D E :=
  ⟨fun _ _ _ _ _ m => e.nx _ _ _ _ _ (n.trans m), fun _ _ _ _ _ m => e.rt _ _ _ _ _ (n.trans m), fun _ _ _ _ _ m => e.bk _ _ _ _ _ (n.trans m), fun _ _ _ _ _ m => e.ct _ _ _ _ _ (n.trans m)⟩
def Run (c : SC) (δ : Dl) (M : List MO) (sts : List Stmt) (D : AE) : Prop :=
  ∀ (y : Dyn c) (σ : L2.St) (H : Hp) (ad : List Addr), EnvOk c.K ad H σ δ → StOk c.K ad H M → ∀ E : Ends, EndsOk c.K ad H D E → wSs y.cx sts E σ H
def Run1 (c : SC) (δ : Dl) (M : List MO) (st : Stmt) (D : AE) : Prop :=
  ∀ (y : Dyn c) (σ : L2.St) (H : Hp) (ad : List Addr), EnvOk c.K ad H σ δ → StOk c.K ad H M → ∀ E : Ends, EndsOk c.K ad H D E → wS y.cx st E σ H
/-- a def's promise in these words -/
abbrev ASp := List AV → List MO → AQ → Prop
def spOf (K : PySem.W.Frag) (n : Nat) (A : ASp) : Sp := fun vs H Q _ => vs.length = n ∧ ∃ ad as M Post, StOk K ad H M ∧ RepAs K ad H as vs ∧ A as M Post ∧
  ∀ v H2 ad2 a M2, Nx ad H ad2 H2 → StOk K ad2 H2 M2 → RepA K ad2 H2 a v → Post a M2 → Q v H2
end Fx

/-! Fx, part B: rules for expressions and tests. -/
namespace Fx
open PySem L2
section
variable {c : SC} {δ : Dl} {M : List MO} {Post Post2 : AQ} {a b e t : Expr} {es : List Expr} {pos p p1 p2 : Pos} {j : Nat} {x : Str}

theorem EvX.imp (h : EvX c δ M e Post) (k : ∀ a M2, Post a M2 → Post2 a M2) : EvX c δ M e Post2 := fun y σ H ad he hs Q q =>
  h y σ H ad he hs Q fun v H2 ad2 a M2 n s r p => q v H2 ad2 a M2 n s r (k a M2 p)
theorem EvT.imp {B B2 : Bool → List MO → Prop} (h : EvT c δ M e B) (k : ∀ b M2, B b M2 → B2 b M2) : EvT c δ M e B2 := fun y σ H ad he hs Q q =>
  h y σ H ad he hs Q fun b H2 ad2 M2 n s p => q b H2 ad2 M2 n s (k b M2 p)
theorem EvF.imp {B B2 : List D → List MO → Prop} (h : EvF c δ M e B) (k : ∀ b M2, B b M2 → B2 b M2) : EvF c δ M e B2 := fun y σ H ad he hs Q q =>
  h y σ H ad he hs Q fun p xs H2 ad2 ds M2 n s f1 f2 f3 f4 z => q p xs H2 ad2 ds M2 n s f1 f2 f3 f4 (k ds M2 z)
/-- a new list that nobody will change -/
theorem x_F (h : EvF c δ M e fun ds M2 => Post (.ls ds) M2) : EvX c δ M e Post := fun y σ H ad he hs Q q =>
  h y σ H ad he hs Q fun p xs H2 ad2 ds M2 n s f1 f2 f3 f4 z => q (.ref p) H2 ad2 (.ls ds) M2 n s ⟨p, xs, rfl, ⟨f3, f2⟩, f4⟩ z

/-! ### names, constants -/
theorem x_var (i : Nat) {a : AV} (hd : δ[i]? = some (some a)) (hN : c.N[i]? = some x) (hv : Vis c.sc x) (h : Post a M) (hd1 : (x == ("__debug__" : Str)) = false := by decide) (hd2 : (x == ("__classdict__" : Str)) = false := by decide) :
    EvX c δ M (.Name x pos) Post := fun y σ H ad he hs Q q => by
  obtain ⟨v, e1, r⟩ := he.at_ i a hd
  exact ⟨_, pe_var (X := y.cx) (i := i) hN (by rw [show y.cx.env.scope = c.sc from y.sc]; exact hv) hd1 hd2, v, e1, q v H ad a M Nx.refl hs r h⟩
theorem x_int {i : Int} (h : Post (.dat (.int i)) M) : EvX c δ M (.Constant (.int i) j pos) Post := fun y σ H ad he hs Q q => ⟨_, pe_int, q _ H ad _ M Nx.refl hs (show RepA _ _ _ (.dat (.int i)) _ from rfl) h⟩
theorem x_bl {i : Bool} (h : Post (.dat (.bl i)) M) : EvX c δ M (.Constant (.bool i) j pos) Post := fun y σ H ad he hs Q q => ⟨_, pe_bl, q _ H ad _ M Nx.refl hs (show RepA _ _ _ (.dat (.bl i)) _ from rfl) h⟩
theorem x_non (h : Post (.dat .non) M) : EvX c δ M (.Constant .none j pos) Post := fun y σ H ad he hs Q q => ⟨_, pe_non, q _ H ad _ M Nx.refl hs (show RepA _ _ _ (.dat .non) _ from rfl) h⟩
theorem x_str {i : Str} (h : Post (.dat (.str i)) M) : EvX c δ M (.Constant (.str i) j pos) Post := fun y σ H ad he hs Q q => ⟨_, pe_str, q _ H ad _ M Nx.refl hs (show RepA _ _ _ (.dat (.str i)) _ from rfl) h⟩
/-- a constant of the module -/
theorem x_glob {d : D} {u : Value} {v : V} (hg : c.sc.names.lookup x = some .globalImplicit) (hm : c.mg x = some u) (r : RelV v u) (hd : ∀ H, Rep c.K H d v) (h : Post (.dat d) M) (hd1 : (x == ("__debug__" : Str)) = false := by decide) :
    EvX c δ M (.Name x pos) Post := fun y σ H ad he hs Q q => by
  refine ⟨_, pe_glob (X := y.cx) (v := v) (u := u) ?_ hm r hd1, q v H ad (.dat d) M Nx.refl hs (hd H) h⟩
  show y.env.scope.names.lookup x = some .globalImplicit
  rw [y.sc]
  exact hg

/-! ### operators -/
def BinR (c : SC) (f : Value → Value → Sem Value) (x y : AV) (M : List MO) (Post : AQ) : Prop :=
  ∀ (z : Dyn c) (H : Hp) (ad : List Addr), StOk c.K ad H M → ∀ vx vy, RepA c.K ad H x vx → RepA c.K ad H y vy → ∀ Q : VK,
    (∀ v H2 ad2 a M2, Nx ad H ad2 H2 → StOk c.K ad2 H2 M2 → RepA c.K ad2 H2 a v → Post a M2 → Q v H2) → wO z.cx f vx vy H Q
def CmpR (c : SC) (op : CmpOp) (x y : AV) (M : List MO) (B : Bool → List MO → Prop) : Prop :=
  ∀ (z : Dyn c) (H : Hp) (ad : List Addr), StOk c.K ad H M → ∀ vx vy, RepA c.K ad H x vx → RepA c.K ad H y vy → ∀ Q : VK,
    (∀ b H2 ad2 M2, Nx ad H ad2 H2 → StOk c.K ad2 H2 M2 → B b M2 → Q (.bl b) H2) → wO z.cx (compareOp op) vx vy H Q
theorem x_bin {op : Operator} (h : EvX c δ M a fun x M1 => EvX c δ M1 b fun y M2 => BinR c (binaryOp op) x y M2 Post) : EvX c δ M (.BinOp a op b pos) Post := fun y σ H ad he hs Q q =>
  ⟨_, pe_op wO_ok wE_ok wE_ok, h y σ H ad he hs _ fun v H1 ad1 x M1 n1 s1 r1 p1 => p1 y σ H1 ad1 (he.nx n1) s1 _ fun u H2 ad2 z M2 n2 s2 r2 p2 =>
    p2 y H2 ad2 s2 v u (r1.nx n2) r2 Q fun w H3 ad3 a3 M3 n3 s3 r3 p3 => q w H3 ad3 a3 M3 ((n1.trans n2).trans n3) s3 r3 p3⟩
theorem x_cmp {op : CmpOp} (h : EvX c δ M a fun x M1 => EvX c δ M1 b fun y M2 => CmpR c op x y M2 fun k M3 => Post (.dat (.bl k)) M3) (hm : behindInMarks op b = false) : EvX c δ M (.Compare a [op] [b] pos) Post := fun y σ H ad he hs Q q =>
  ⟨_, pe_cmpR wO_ok wE_ok wE_ok hm, h y σ H ad he hs _ fun v H1 ad1 x M1 n1 s1 r1 p1 => p1 y σ H1 ad1 (he.nx n1) s1 _ fun u H2 ad2 z M2 n2 s2 r2 p2 =>
    p2 y H2 ad2 s2 v u (r1.nx n2) r2 Q fun k H3 ad3 M3 n3 s3 p3 => q _ H3 ad3 _ M3 ((n1.trans n2).trans n3) s3 (show RepA _ _ _ (.dat (.bl k)) _ from rfl) p3⟩
theorem t_cmp {op : CmpOp} {B : Bool → List MO → Prop} (h : EvX c δ M a fun x M1 => EvX c δ M1 b fun y M2 => CmpR c op x y M2 B) (hm : behindInMarks op b = false) : EvT c δ M (.Compare a [op] [b] pos) B := fun y σ H ad he hs Q q =>
  ⟨_, pt_cmpR wO_ok wE_ok wE_ok hm, h y σ H ad he hs _ fun v H1 ad1 x M1 n1 s1 r1 p1 => p1 y σ H1 ad1 (he.nx n1) s1 _ fun u H2 ad2 z M2 n2 s2 r2 p2 =>
    p2 y H2 ad2 s2 v u (r1.nx n2) r2 _ fun k H3 ad3 M3 n3 s3 p3 => ⟨k, rfl, q _ H3 ad3 M3 ((n1.trans n2).trans n3) s3 p3⟩⟩
theorem x_chain {op op2 : CmpOp} {e : Expr} (h : EvX c δ M a fun x M1 => EvX c δ M1 b fun y M2 => CmpR c op x y M2 fun k M3 => (k = true → EvX c δ M3 e fun z M4 => CmpR c op2 y z M4 fun k M5 => Post (.dat (.bl k)) M5) ∧ (k = false → Post (.dat (.bl false)) M3))
    (hm : lastMarks [op, op2] [b, e] = false) : EvX c δ M (.Compare a [op, op2] [b, e] pos) Post := fun y σ H ad he hs Q q =>
  ⟨_, pe_chain wO_ok wO_ok wE_ok wE_ok wE_ok hm, h y σ H ad he hs _ fun v H1 ad1 x M1 n1 s1 r1 p1 => p1 y σ H1 ad1 (he.nx n1) s1 _ fun u H2 ad2 z M2 n2 s2 r2 p2 =>
    p2 y H2 ad2 s2 v u (r1.nx n2) r2 _ fun k H3 ad3 M3 n3 s3 p3 => ⟨k, rfl, by
      have n13 := (n1.trans n2).trans n3
      cases k with
      | false => exact iteF (q _ H3 ad3 _ M3 n13 s3 (show RepA _ _ _ (.dat (.bl false)) _ from rfl) (p3.2 rfl))
      | true =>
        refine iteT (p3.1 rfl y σ H3 ad3 (he.nx n13) s3 _ fun w H4 ad4 a4 M4 n4 s4 r4 p4 => ?_)
        exact p4 y H4 ad4 s4 u w ((r2.nx n3).nx n4) r4 Q fun k5 H5 ad5 M5 n5 s5 p5 => q _ H5 ad5 _ M5 ((n13.trans n4).trans n5) s5 (show RepA _ _ _ (.dat (.bl k5)) _ from rfl) p5⟩⟩
theorem t_chain {op op2 : CmpOp} {e : Expr} {B : Bool → List MO → Prop} (h : EvX c δ M a fun x M1 => EvX c δ M1 b fun y M2 => CmpR c op x y M2 fun k M3 => (k = true → EvX c δ M3 e fun z M4 => CmpR c op2 y z M4 B) ∧ (k = false → B false M3))
    (hm : lastMarks [op, op2] [b, e] = false) : EvT c δ M (.Compare a [op, op2] [b, e] pos) B := fun y σ H ad he hs Q q =>
  ⟨_, pt_chain wO_ok wO_ok wE_ok wE_ok wE_ok hm, h y σ H ad he hs _ fun v H1 ad1 x M1 n1 s1 r1 p1 => p1 y σ H1 ad1 (he.nx n1) s1 _ fun u H2 ad2 z M2 n2 s2 r2 p2 =>
    p2 y H2 ad2 s2 v u (r1.nx n2) r2 _ fun k H3 ad3 M3 n3 s3 p3 => ⟨k, rfl, by
      have n13 := (n1.trans n2).trans n3
      cases k with
      | false => exact iteF ⟨false, rfl, q _ H3 ad3 M3 n13 s3 (p3.2 rfl)⟩
      | true =>
        refine iteT (p3.1 rfl y σ H3 ad3 (he.nx n13) s3 _ fun w H4 ad4 a4 M4 n4 s4 r4 p4 => ?_)
        exact p4 y H4 ad4 s4 u w ((r2.nx n3).nx n4) r4 _ fun k5 H5 ad5 M5 n5 s5 p5 => ⟨k5, rfl, q _ H5 ad5 M5 ((n13.trans n4).trans n5) s5 p5⟩⟩⟩

/-! ### tests -/
variable {B : Bool → List MO → Prop}
theorem t_val (h : EvX c δ M e fun a M1 => ∃ k, a = .dat (.bl k) ∧ B k M1) (he : ∀ env whole, isTrue e env whole = (do let v ← whole; standAt e.pos; holding [v] (truthy v))) : EvT c δ M e B := fun y σ H ad hn hs Q q =>
  ⟨_, pt_val wE_ok (he y.env), h y σ H ad hn hs _ fun v H1 ad1 x M1 n1 s1 r1 ⟨k, ex, p1⟩ => by
    subst ex
    exact ⟨k, r1, q k H1 ad1 M1 n1 s1 p1⟩⟩
/-- what is true of a value -/
def TruA (M : List MO) : AV → Bool → Prop
  | .dat .non, k => k = false
  | .dat (.bl b), k => k = b
  | .dat (.int i), k => k = (i != 0)
  | .dat (.str x), k => x.length ≤ 1000000 ∧ k = (x.length != 0)
  | .dat (.tup ds), k => k = !ds.isEmpty
  | .ls ds, k => k = !ds.isEmpty
  | .mut j, k => ∃ ds, M[j]? = some (.lst ds) ∧ k = !ds.isEmpty
  | .la as, k => k = !as.isEmpty
  | .ta as, k => k = !as.isEmpty
  | .dat (.lis ds), k => k = !ds.isEmpty
  | .scr ns, k => k = !ns.isEmpty
  | .tx ds, k => k = !ds.isEmpty
  | .exc _ _, _ => False
  | .fn _, _ => False
theorem reps_empty {K : PySem.W.Frag} {H : Hp} {ds : List D} {vs : List V} (r : Reps K H ds vs) : (!vs.isEmpty) = !ds.isEmpty := by
  have := r.length
  cases ds <;> cases vs <;> first | rfl | (simp at this)
theorem repAs_length {K : PySem.W.Frag} {ad : List Addr} {H : Hp} : ∀ {as : List AV} {vs : List V}, RepAs K ad H as vs → vs.length = as.length
  | [], _, h => by rw [show _ = [] from h]; rfl
  | _ :: _, _, ⟨x, r, e, _, h2⟩ => by rw [e, List.length_cons, List.length_cons, repAs_length h2]
theorem tru_of {K : PySem.W.Frag} {ad : List Addr} {H : Hp} (S : StOk K ad H M) : ∀ {a : AV} {v : V} {k : Bool}, RepA K ad H a v → TruA M a k → TruV K v H k
  | .dat .non, _, _, r, h => by rw [show _ = V.non from r]; exact h
  | .dat (.bl b), _, _, r, h => by rw [show _ = V.bl b from r]; exact h
  | .dat (.int i), _, _, r, h => by rw [show _ = V.int i from r]; exact h
  | .dat (.str x), _, _, r, h => by
    rw [show _ = V.str x from r]
    refine ⟨Nat.le_trans h.1 (by decide), h.2.trans ?_⟩
    cases q : x.length with
    | zero => rfl
    | succ n => simp <;> omega
  | .dat (.tup ds), _, _, ⟨a, xs, e, q, r⟩, h => by
    subst e
    exact .inr (.inl ⟨xs, q, h.trans (reps_empty r).symm⟩)
  | .ls ds, _, _, ⟨a, xs, e, q, r⟩, h => by
    subst e
    exact .inl ⟨xs, q.sq, h.trans (reps_empty r).symm⟩
  | .mut j, _, _, ⟨a, q, e⟩, ⟨ds, hm, h⟩ => by
    subst e
    obtain ⟨a2, h2, xs, h3, r⟩ := S.obj j _ hm
    rw [q] at h2
    cases h2
    exact .inl ⟨xs, .inl (.inl h3), h.trans (reps_empty r).symm⟩
  | .dat (.lis ds), _, _, ⟨a, xs, o, e, q, r⟩, h => by
    subst e
    exact .inl ⟨xs, .inl (.inr ⟨o, q⟩), h.trans (reps_empty r).symm⟩
  | .ta as, _, _, ⟨a, xs, e, q, r⟩, h => by
    subst e
    refine .inr (.inl ⟨xs, q, h.trans ?_⟩)
    have := repAs_length r
    cases as <;> cases xs <;> first | rfl | (simp at this)
  | .la as, _, _, ⟨a, xs, e, q, r⟩, h => by
    subst e
    refine .inl ⟨xs, q.sq, h.trans ?_⟩
    have := repAs_length r
    cases as <;> cases xs <;> first | rfl | (simp at this)
  | .scr ns, _, _, ⟨a, e, q⟩, h => by
    subst e
    refine .inl ⟨_, q.sq, h.trans ?_⟩
    cases ns <;> rfl
  | .tx ds, _, _, ⟨a, xs, e, q, r⟩, h => by
    subst e
    exact .inr (.inl ⟨xs, q.sq, h.trans (reps_empty r).symm⟩)
  | .exc _ _, _, _, _, h => h.elim
  | .fn _, _, _, _, h => h.elim
theorem t_tru (h : EvX c δ M e fun a M1 => ∃ k, TruA M1 a k ∧ B k M1) (he : ∀ env whole, isTrue e env whole = (do let v ← whole; standAt e.pos; holding [v] (truthy v))) : EvT c δ M e B := fun y σ H ad hn hs Q q =>
  ⟨_, pt_truth wE_ok (he y.env), h y σ H ad hn hs _ fun v H1 ad1 x M1 n1 s1 r1 ⟨k, hk, p1⟩ => ⟨k, tru_of s1 r1 hk, q k H1 ad1 M1 n1 s1 p1⟩⟩
theorem t_not (h : EvT c δ M e fun k M1 => B (!k) M1) : EvT c δ M (.UnaryOp .Not e pos) B := fun y σ H ad he hs Q q =>
  ⟨_, pt_not wT_ok, h y σ H ad he hs _ fun k H1 ad1 M1 n1 s1 p1 => q _ H1 ad1 M1 n1 s1 p1⟩
theorem t_W (h : EvW c δ M e B) : EvT c δ M e B := fun y σ H ad he hs Q q => ⟨_, wW_ok.pt, h y σ H ad he hs Q q⟩
theorem w_and1 (h : EvT c δ M a B) : EvW c δ M (.BoolOp .And [a] pos) B := fun y σ H ad he hs Q q => ⟨_, pw_and1 wT_ok, h y σ H ad he hs Q q⟩
theorem w_or1 (h : EvT c δ M a B) : EvW c δ M (.BoolOp .Or [a] pos) B := fun y σ H ad he hs Q q => ⟨_, pw_or1 wT_ok, h y σ H ad he hs Q q⟩
theorem w_and (h : EvT c δ M a fun k M1 => (k = true → EvW c δ M1 (.BoolOp .And (b :: es) pos) B) ∧ (k = false → B false M1)) : EvW c δ M (.BoolOp .And (a :: b :: es) pos) B := fun y σ H ad he hs Q q =>
  ⟨_, pw_and wT_ok wW_ok, h y σ H ad he hs _ fun k H1 ad1 M1 n1 s1 p1 => by
    cases k with
    | true => exact iteT (p1.1 rfl y σ H1 ad1 (he.nx n1) s1 Q fun k2 H2 ad2 M2 n2 s2 p2 => q k2 H2 ad2 M2 (n1.trans n2) s2 p2)
    | false => exact iteF (q false H1 ad1 M1 n1 s1 (p1.2 rfl))⟩
theorem w_or (h : EvT c δ M a fun k M1 => (k = true → B true M1) ∧ (k = false → EvW c δ M1 (.BoolOp .Or (b :: es) pos) B)) : EvW c δ M (.BoolOp .Or (a :: b :: es) pos) B := fun y σ H ad he hs Q q =>
  ⟨_, pw_or wT_ok wW_ok, h y σ H ad he hs _ fun k H1 ad1 M1 n1 s1 p1 => by
    cases k with
    | false => exact iteF (p1.2 rfl y σ H1 ad1 (he.nx n1) s1 Q fun k2 H2 ad2 M2 n2 s2 p2 => q k2 H2 ad2 M2 (n1.trans n2) s2 p2)
    | true => exact iteT (q true H1 ad1 M1 n1 s1 (p1.1 rfl))⟩
/-- as values -/
theorem x_one {op : BoolOp} (h : EvX c δ M a Post) : EvX c δ M (.BoolOp op [a] pos) Post := fun y σ H ad he hs Q q => ⟨_, pe_one wE_ok, h y σ H ad he hs Q q⟩
theorem x_and (h : EvX c δ M a fun x M1 => ∃ k, x = .dat (.bl k) ∧ (k = true → EvX c δ M1 (.BoolOp .And (b :: es) pos) Post) ∧ (k = false → Post (.dat (.bl false)) M1)) : EvX c δ M (.BoolOp .And (a :: b :: es) pos) Post := fun y σ H ad he hs Q q =>
  ⟨_, pe_and wE_ok wE_ok, h y σ H ad he hs _ fun v H1 ad1 x M1 n1 s1 r1 ⟨k, ex, p1⟩ => by
    subst ex
    refine ⟨k, r1, ?_⟩
    cases k with
    | true => exact iteT (p1.1 rfl y σ H1 ad1 (he.nx n1) s1 Q fun v2 H2 ad2 a2 M2 n2 s2 r2 p2 => q v2 H2 ad2 a2 M2 (n1.trans n2) s2 r2 p2)
    | false => exact iteF (q _ H1 ad1 _ M1 n1 s1 (show RepA _ _ _ (.dat (.bl false)) _ from rfl) (p1.2 rfl))⟩
theorem x_or (h : EvX c δ M a fun x M1 => ∃ k, x = .dat (.bl k) ∧ (k = true → Post (.dat (.bl true)) M1) ∧ (k = false → EvX c δ M1 (.BoolOp .Or (b :: es) pos) Post)) : EvX c δ M (.BoolOp .Or (a :: b :: es) pos) Post := fun y σ H ad he hs Q q =>
  ⟨_, pe_or wE_ok wE_ok, h y σ H ad he hs _ fun v H1 ad1 x M1 n1 s1 r1 ⟨k, ex, p1⟩ => by
    subst ex
    refine ⟨k, r1, ?_⟩
    cases k with
    | false => exact iteF (p1.2 rfl y σ H1 ad1 (he.nx n1) s1 Q fun v2 H2 ad2 a2 M2 n2 s2 r2 p2 => q v2 H2 ad2 a2 M2 (n1.trans n2) s2 r2 p2)
    | true => exact iteT (q _ H1 ad1 _ M1 n1 s1 (show RepA _ _ _ (.dat (.bl true)) _ from rfl) (p1.1 rfl))⟩
theorem x_not (h : EvX c δ M a fun x M1 => ∃ k, TruA M1 x k ∧ Post (.dat (.bl (!k))) M1) : EvX c δ M (.UnaryOp .Not a pos) Post := fun y σ H ad he hs Q q =>
  ⟨_, pe_notT wE_ok, h y σ H ad he hs _ fun v H1 ad1 x M1 n1 s1 r1 ⟨k, hk, p1⟩ => ⟨k, tru_of s1 r1 hk, q _ H1 ad1 _ M1 n1 s1 (show RepA _ _ _ (.dat (.bl (!k))) _ from rfl) p1⟩⟩
theorem x_neg (h : EvX c δ M a fun x M1 => ∃ i, x = .dat (.int i) ∧ Post (.dat (.int (-i))) M1) : EvX c δ M (.UnaryOp .USub a pos) Post := fun y σ H ad he hs Q q =>
  ⟨_, pe_un un_neg wE_ok, h y σ H ad he hs _ fun v H1 ad1 x M1 n1 s1 r1 ⟨i, ex, p1⟩ => by
    subst ex
    exact ⟨i, r1, q _ H1 ad1 _ M1 n1 s1 (show RepA _ _ _ (.dat (.int (-i))) _ from rfl) p1⟩⟩
theorem x_if (h : EvT c δ M t fun k M1 => (k = true → EvX c δ M1 a Post) ∧ (k = false → EvX c δ M1 b Post)) : EvX c δ M (.IfExp t a b pos) Post := fun y σ H ad he hs Q q =>
  ⟨_, pe_ifExp wT_ok wE_ok wE_ok, h y σ H ad he hs _ fun k H1 ad1 M1 n1 s1 p1 => by
    cases k with
    | true => exact iteT (p1.1 rfl y σ H1 ad1 (he.nx n1) s1 Q fun v2 H2 ad2 a2 M2 n2 s2 r2 p2 => q v2 H2 ad2 a2 M2 (n1.trans n2) s2 r2 p2)
    | false => exact iteF (p1.2 rfl y σ H1 ad1 (he.nx n1) s1 Q fun v2 H2 ad2 a2 M2 n2 s2 r2 p2 => q v2 H2 ad2 a2 M2 (n1.trans n2) s2 r2 p2)⟩

/-! ### arguments, displays -/
theorem a_nil {Pa : List AV → List MO → Prop} (h : Pa [] M) : EvA c δ M [] Pa := fun y σ H ad he hs Q q => ⟨_, pa_nil, q [] H ad [] M Nx.refl hs rfl h⟩
theorem a_cons {Pa : List AV → List MO → Prop} (h : EvX c δ M e fun x M1 => EvA c δ M1 es fun xs M2 => Pa (x :: xs) M2) (hs1 : ∀ env, starEach (e :: es) env = (false, eval e env) :: starEach es env) : EvA c δ M (e :: es) Pa := fun y σ H ad he hs Q q =>
  ⟨_, pa_cons wE_ok wA_ok (hs1 y.env), h y σ H ad he hs _ fun v H1 ad1 x M1 n1 s1 r1 p1 => p1 y σ H1 ad1 (he.nx n1) s1 _ fun vs H2 ad2 xs M2 n2 s2 r2 p2 => q _ H2 ad2 (x :: xs) M2 (n1.trans n2) s2 ⟨v, vs, rfl, r1.nx n2, r2⟩ p2⟩
theorem k_nil {Pa : List AV → List MO → Prop} (h : Pa [] M) : EvK c δ M [] Pa := fun y σ H ad he hs Q q => ⟨_, pk_nil, q [] H ad [] M Nx.refl hs rfl h⟩
theorem k_cons {Pa : List AV → List MO → Prop} {nm : Option Str} {kpos : Pos} {ks : List Keyword} (h : EvX c δ M e fun x M1 => EvK c δ M1 ks fun xs M2 => Pa (x :: xs) M2) : EvK c δ M (⟨nm, e, kpos⟩ :: ks) Pa := fun y σ H ad he hs Q q =>
  ⟨_, pk_cons wE_ok wK_ok, h y σ H ad he hs _ fun v H1 ad1 x M1 n1 s1 r1 p1 => p1 y σ H1 ad1 (he.nx n1) s1 _ fun vs H2 ad2 xs M2 n2 s2 r2 p2 => q _ H2 ad2 (x :: xs) M2 (n1.trans n2) s2 ⟨v, vs, rfl, r1.nx n2, r2⟩ p2⟩
theorem reps_of_dat {K : PySem.W.Frag} {ad : List Addr} {H : Hp} : ∀ {ds : List D} {vs : List V}, RepAs K ad H (ds.map .dat) vs → Reps K H ds vs
  | [], _, h => h
  | _ :: _, _, ⟨x, r, e, h1, h2⟩ => ⟨x, r, e, h1, reps_of_dat h2⟩
/-- the list of data that a list of values is -/
def DatsAre : List AV → List D → Prop
  | [], ds => ds = []
  | a :: as, ds => ∃ d r, a = .dat d ∧ ds = d :: r ∧ DatsAre as r
theorem DatsAre.reps {K : PySem.W.Frag} {ad : List Addr} {H : Hp} : ∀ {as : List AV} {ds : List D} {vs : List V}, DatsAre as ds → RepAs K ad H as vs → Reps K H ds vs
  | [], _, _, e, h => by rw [show _ = [] from e]; exact h
  | _ :: _, _, _, ⟨d, r, e1, e2, q⟩, ⟨x, rr, e, h1, h2⟩ => by
    subst e1 e2 e
    exact ⟨x, rr, rfl, h1, q.reps h2⟩
class DatsC (as : List AV) (ds : outParam (List D)) : Prop where
  are : DatsAre as ds
instance datsC_nil : DatsC [] [] := ⟨rfl⟩
instance datsC_cons {d : D} {as : List AV} {ds : List D} [h : DatsC as ds] : DatsC (.dat d :: as) (d :: ds) := ⟨⟨d, ds, rfl, rfl, h.are⟩⟩
theorem dats_ex {as : List AV} {ds : List D} {Q : List D → Prop} [h1 : DatsC as ds] (h2 : ds.length ≤ 1000000) (h3 : Q ds) : ∃ ds, DatsAre as ds ∧ ds.length ≤ 1000000 ∧ Q ds := ⟨ds, h1.are, h2, h3⟩
theorem same_new {H : Hp} {p : Addr} {o : HO} (h : H p = none) : Same H (upd H p o) := fun b u e => by
  rw [upd_ne (ne_of_none e h)]
  exact e
theorem x_tup {k : Nat} (h : EvA c δ M es fun as M1 => ∃ ds, DatsAre as ds ∧ ds.length ≤ 1000000 ∧ Post (.dat (.tup ds)) M1) : EvX c δ M (.Tuple es k pos) Post := fun y σ H ad he hs Q q =>
  ⟨_, pe_tup wA_ok, h y σ H ad he hs _ fun vs H1 ad1 as M1 n1 s1 r1 ⟨ds, hd, hl, p1⟩ => by
    have rr := hd.reps r1
    refine ⟨by rw [rr.length]; exact Nat.le_trans hl (by decide), fun p hp => ?_⟩
    have sm := same_new (o := .tup vs) hp
    exact q _ _ ad1 _ M1 (n1.trans (Nx.same sm)) (s1.same sm) (show RepA _ _ _ (.dat (.tup ds)) _ from ⟨p, vs, rfl, .inl (.inl upd_same), rr.tx (Tx.same sm)⟩) p1⟩
theorem f_lst {Pf : List D → List MO → Prop} (h : EvA c δ M es fun as M1 => ∃ ds, DatsAre as ds ∧ ds.length ≤ 1000000 ∧ Pf ds M1) : EvF c δ M (.List es pos) Pf := fun y σ H ad he hs Q q =>
  ⟨_, pe_lst wA_ok, h y σ H ad he hs _ fun vs H1 ad1 as M1 n1 s1 r1 ⟨ds, hd, hl, p1⟩ => by
    have rr := hd.reps r1
    refine ⟨by rw [rr.length]; exact Nat.le_trans hl (by decide), fun p hp => ?_⟩
    have sm := same_new (o := .lst vs) hp
    have hp0 : H p = none := by
      cases z : H p with
      | none => rfl
      | some o =>
        by_cases hm : p ∈ ad
        · exact absurd (n1.sub hm) (s1.free hp)
        · rw [n1.keep p o hm z] at hp; cases hp
    exact q p vs _ ad1 ds M1 (n1.trans (Nx.same sm)) (s1.same sm) hp0 (s1.free hp) upd_same (rr.tx (Tx.same sm)) p1⟩
/-- a list of other things than data -/
theorem x_la (h : EvA c δ M es fun as M1 => as.length ≤ 1000000 ∧ Post (.la as) M1) : EvX c δ M (.List es pos) Post := fun y σ H ad he hs Q q =>
  ⟨_, pe_lst wA_ok, h y σ H ad he hs _ fun vs H1 ad1 as M1 n1 s1 r1 ⟨hl, p1⟩ => by
    refine ⟨by rw [repAs_length r1]; exact Nat.le_trans hl (by decide), fun p hp => ?_⟩
    have sm := same_new (o := .lst vs) hp
    exact q _ _ ad1 (.la as) M1 (n1.trans (Nx.same sm)) (s1.same sm) ⟨p, vs, rfl, ⟨upd_same, s1.free hp⟩, r1.nx (Nx.same sm)⟩ p1⟩
end

/-! ### values: sequences -/
/-- a list of data -/
def IsL (M : List MO) (a : AV) (ds : List D) : Prop := a = .ls ds ∨ ∃ j, a = .mut j ∧ M[j]? = some (.lst ds)
def IsS (M : List MO) (a : AV) (ds : List D) : Prop := a = .dat (.tup ds) ∨ IsL M a ds
section
variable {c : SC} {M : List MO} {Post : AQ} {B : Bool → List MO → Prop} {K : PySem.W.Frag} {ad : List Addr} {H : Hp}
theorem IsL.sq {a : AV} {ds : List D} {v : V} (h : IsL M a ds) (S : StOk K ad H M) (r : RepA K ad H a v) : ∃ p xs, v = .ref p ∧ SqL K H p xs ∧ Reps K H ds xs := by
  rcases h with rfl | ⟨j, rfl, hm⟩
  · obtain ⟨p, xs, e, q, rr⟩ := r
    exact ⟨p, xs, e, q.sq, rr⟩
  · obtain ⟨p, q, e⟩ := r
    obtain ⟨a2, h2, xs, h3, rr⟩ := S.obj j _ hm
    rw [q] at h2
    cases h2
    exact ⟨p, xs, e, .inl (.inl h3), rr⟩
theorem IsS.sq {a : AV} {ds : List D} {v : V} (h : IsS M a ds) (S : StOk K ad H M) (r : RepA K ad H a v) : ∃ p xs, v = .ref p ∧ (SqL K H p xs ∨ SqT K H p xs) ∧ Reps K H ds xs := by
  rcases h with rfl | h
  · obtain ⟨p, xs, e, q, rr⟩ := r
    exact ⟨p, xs, e, .inr q, rr⟩
  · obtain ⟨p, xs, e, q, rr⟩ := h.sq S r
    exact ⟨p, xs, e, .inl q, rr⟩
theorem isS_tup {ds : List D} : IsS M (.dat (.tup ds)) ds := .inl rfl
theorem isS_ls {ds : List D} : IsS M (.ls ds) ds := .inr (.inl rfl)
theorem isS_mut {j : Nat} {ds : List D} (h : M[j]? = some (.lst ds)) : IsS M (.mut j) ds := .inr (.inr ⟨j, rfl, h⟩)
theorem isL_ls {ds : List D} : IsL M (.ls ds) ds := .inl rfl
theorem isL_mut {j : Nat} {ds : List D} (h : M[j]? = some (.lst ds)) : IsL M (.mut j) ds := .inr ⟨j, rfl, h⟩

/-! ### arithmetic -/
theorem b_int {f : Value → Value → Sem Value} {C : Int → Int → Prop} {g : Int → Int → Int} (ho : ∀ X : Cx, OpR X f (rI C fun i j => .int (g i j))) {i j : Int} (hc : C i j) (h : Post (.dat (.int (g i j))) M) : BinR c f (.dat (.int i)) (.dat (.int j)) M Post :=
  fun z H ad hs vx vy rx ry Q q => ⟨_, ho z.cx, i, j, rx, ry, hc, q _ H ad _ M Nx.refl hs (show RepA _ _ _ (.dat (.int (g i j))) _ from rfl) h⟩
theorem b_int0 {f : Value → Value → Sem Value} {g : Int → Int → Int} (ho : ∀ X : Cx, OpR X f (rI0 fun i j => .int (g i j))) {i j : Int} (h : Post (.dat (.int (g i j))) M) : BinR c f (.dat (.int i)) (.dat (.int j)) M Post :=
  fun z H ad hs vx vy rx ry Q q => ⟨_, ho z.cx, i, j, rx, ry, q _ H ad _ M Nx.refl hs (show RepA _ _ _ (.dat (.int (g i j))) _ from rfl) h⟩
theorem b_add {i j : Int} (h : Post (.dat (.int (i + j))) M) : BinR c (binaryOp .Add) (.dat (.int i)) (.dat (.int j)) M Post := b_int0 (fun _ => op_add) h
theorem b_sub {i j : Int} (h : Post (.dat (.int (i - j))) M) : BinR c (binaryOp .Sub) (.dat (.int i)) (.dat (.int j)) M Post := b_int0 (fun _ => op_sub) h
theorem b_mul {i j : Int} (hc : CMul i j) (h : Post (.dat (.int (i * j))) M) : BinR c (binaryOp .Mult) (.dat (.int i)) (.dat (.int j)) M Post := b_int (fun _ => op_mul) hc h
theorem b_div {i j : Int} (hc : 0 < j ∧ j < 1073741824) (h : Post (.dat (.int (i / j))) M) : BinR c (binaryOp .FloorDiv) (.dat (.int i)) (.dat (.int j)) M Post := b_int (fun _ => op_fdiv) hc h
theorem b_mod {i j : Int} (hc : 0 < j) (h : Post (.dat (.int (i % j))) M) : BinR c (binaryOp .Mod) (.dat (.int i)) (.dat (.int j)) M Post := b_int (fun _ => op_mod) hc h
theorem b_pow {i j : Int} (hc : CPow i j) (h : Post (.dat (.int (i ^ j.toNat))) M) : BinR c (binaryOp .Pow) (.dat (.int i)) (.dat (.int j)) M Post := b_int (fun _ => op_pow) hc h
theorem b_strs {i j : Str} (hl : i.length + j.length ≤ 1000000) (h : Post (.dat (.str (i ++ j))) M) : BinR c (binaryOp .Add) (.dat (.str i)) (.dat (.str j)) M Post :=
  fun z H ad hs vx vy rx ry Q q => ⟨_, op_add_str, i, j, rx, ry, Nat.le_trans hl (by decide), q _ H ad _ M Nx.refl hs (show RepA _ _ _ (.dat (.str (i ++ j))) _ from rfl) h⟩
/-- t + u -/
theorem b_catT {ds es : List D} (hl : ds.length + es.length ≤ 1000000) (h : Post (.dat (.tup (ds ++ es))) M) : BinR c (binaryOp .Add) (.dat (.tup ds)) (.dat (.tup es)) M Post :=
  fun z H ad hs vx vy ⟨a, xs, ea, qa, ra⟩ ⟨b, ys, eb, qb, rb⟩ Q q => by
    refine ⟨_, op_catA, a, b, xs, ys, ea, eb, qa, qb, by rw [ra.length, rb.length]; exact Nat.le_trans hl (by decide), fun e => ?_, fun _ e => ?_, fun _ _ p hp => ?_⟩
    · subst e
      have e2 : ds = [] := by cases ds with | nil => rfl | cons d r => exact absurd ra.length (by simp)
      subst e2
      exact q _ H ad _ M Nx.refl hs (show RepA _ _ _ (.dat (.tup es)) _ from ⟨b, ys, rfl, qb, rb⟩) h
    · subst e
      have e2 : es = [] := by cases es with | nil => rfl | cons d r => exact absurd rb.length (by simp)
      subst e2
      rw [List.append_nil] at h
      exact q _ H ad _ M Nx.refl hs (show RepA _ _ _ (.dat (.tup ds)) _ from ⟨a, xs, rfl, qa, ra⟩) h
    · have sm := same_new (o := .tup (xs ++ ys)) hp
      exact q _ _ ad _ M (Nx.same sm) (hs.same sm) (show RepA _ _ _ (.dat (.tup (ds ++ es))) _ from ⟨p, _, rfl, .inl (.inl upd_same), (ra.append rb).tx (Tx.same sm)⟩) h

/-! ### comparisons -/
theorem c_lt {i j : Int} (h : B (decide (i < j)) M) : CmpR c .Lt (.dat (.int i)) (.dat (.int j)) M B := fun z H ad hs vx vy rx ry Q q => ⟨_, op_lt, i, j, rx, ry, q _ H ad M Nx.refl hs h⟩
theorem c_le {i j : Int} (h : B (decide (i ≤ j)) M) : CmpR c .LtE (.dat (.int i)) (.dat (.int j)) M B := fun z H ad hs vx vy rx ry Q q => ⟨_, op_le, i, j, rx, ry, q _ H ad M Nx.refl hs h⟩
theorem c_gt {i j : Int} (h : B (decide (j < i)) M) : CmpR c .Gt (.dat (.int i)) (.dat (.int j)) M B := fun z H ad hs vx vy rx ry Q q => ⟨_, op_gt, i, j, rx, ry, q _ H ad M Nx.refl hs h⟩
theorem c_ge {i j : Int} (h : B (decide (j ≤ i)) M) : CmpR c .GtE (.dat (.int i)) (.dat (.int j)) M B := fun z H ad hs vx vy rx ry Q q => ⟨_, op_ge, i, j, rx, ry, q _ H ad M Nx.refl hs h⟩
theorem c_eqI {i j : Int} (h : B (decide (i = j)) M) : CmpR c .Eq (.dat (.int i)) (.dat (.int j)) M B := fun z H ad hs vx vy rx ry Q q => by
  rw [show vx = .int i from rx, show vy = .int j from ry]
  refine ⟨_, op_eq, rfl, ?_⟩
  rw [show decide (V.int i = V.int j) = decide (i = j) by rw [dec_int, Bool.beq_eq_decide_eq]]
  exact q _ H ad M Nx.refl hs h
theorem c_neI {i j : Int} (h : B (!decide (i = j)) M) : CmpR c .NotEq (.dat (.int i)) (.dat (.int j)) M B := fun z H ad hs vx vy rx ry Q q => by
  rw [show vx = .int i from rx, show vy = .int j from ry]
  refine ⟨_, op_ne, rfl, ?_⟩
  rw [show decide (V.int i = V.int j) = decide (i = j) by rw [dec_int, Bool.beq_eq_decide_eq]]
  exact q _ H ad M Nx.refl hs h
theorem c_eqB {i j : Bool} (h : B (i == j) M) : CmpR c .Eq (.dat (.bl i)) (.dat (.bl j)) M B := fun z H ad hs vx vy rx ry Q q => by
  rw [show vx = .bl i from rx, show vy = .bl j from ry]
  refine ⟨_, op_eq, rfl, ?_⟩
  rw [dec_bl]
  exact q _ H ad M Nx.refl hs h
theorem c_neB {i j : Bool} (h : B (!(i == j)) M) : CmpR c .NotEq (.dat (.bl i)) (.dat (.bl j)) M B := fun z H ad hs vx vy rx ry Q q => by
  rw [show vx = .bl i from rx, show vy = .bl j from ry]
  refine ⟨_, op_ne, rfl, ?_⟩
  rw [dec_bl]
  exact q _ H ad M Nx.refl hs h
theorem c_eqS {i j : Str} (h : B (i == j) M) : CmpR c .Eq (.dat (.str i)) (.dat (.str j)) M B := fun z H ad hs vx vy rx ry Q q => by
  rw [show vx = .str i from rx, show vy = .str j from ry]
  refine ⟨_, op_eq, rfl, ?_⟩
  rw [dec_str]
  exact q _ H ad M Nx.refl hs h
theorem c_neS {i j : Str} (h : B (!(i == j)) M) : CmpR c .NotEq (.dat (.str i)) (.dat (.str j)) M B := fun z H ad hs vx vy rx ry Q q => by
  rw [show vx = .str i from rx, show vy = .str j from ry]
  refine ⟨_, op_ne, rfl, ?_⟩
  rw [dec_str]
  exact q _ H ad M Nx.refl hs h
def isNon : AV → Bool
  | .dat .non => true
  | _ => false
theorem non_iff {a : AV} {v : V} (r : RepA K ad H a v) : decide (v = .non) = isNon a := by
  cases a with
  | dat d =>
    cases d with
    | non => rw [show v = .non from r]; rfl
    | bl b => rw [show v = .bl b from r]; rfl
    | int b => rw [show v = .int b from r]; rfl
    | str b => rw [show v = .str b from r]; rfl
    | tup ds => obtain ⟨p, xs, rfl, _⟩ := r; rfl
    | lis ds => obtain ⟨p, xs, o, rfl, _⟩ := r; rfl
  | ls ds => obtain ⟨p, xs, rfl, _⟩ := r; rfl
  | «mut» j => obtain ⟨p, _, rfl⟩ := r; rfl
  | la as => obtain ⟨p, xs, rfl, _⟩ := r; rfl
  | ta as => obtain ⟨p, xs, rfl, _⟩ := r; rfl
  | scr ns => obtain ⟨p, rfl, _⟩ := r; rfl
  | tx ds => obtain ⟨p, xs, rfl, _⟩ := r; rfl
  | exc C fs => obtain ⟨p, oe, rfl, _⟩ := r; rfl
  | fn f => rw [show v = .ref f from r]; rfl
theorem c_is {x : AV} (h : B (isNon x) M) : CmpR c .Is x (.dat .non) M B := fun z H ad hs vx vy rx ry Q q => by
  refine ⟨_, op_isN, ry, ?_⟩
  rw [non_iff rx]
  exact q _ H ad M Nx.refl hs h
theorem c_isnot {x : AV} (h : B (!isNon x) M) : CmpR c .IsNot x (.dat .non) M B := fun z H ad hs vx vy rx ry Q q => by
  refine ⟨_, op_notN, ry, ?_⟩
  rw [non_iff rx]
  exact q _ H ad M Nx.refl hs h

/-! ### == of data at any depth -/
mutual
def D.py : D → PyData
  | .non => .none
  | .bl b => .bool b
  | .int i => .int i
  | .str x => .str x
  | .tup ds => .tuple (pys ds)
  | .lis ds => .list (pys ds)
def pys : List D → List PyData
  | [] => []
  | d :: ds => d.py :: pys ds
end
mutual
theorem rep_dp : ∀ {d : D} {v : V}, Rep K H d v → Dp K H v d.py
  | .non, _, h => by rw [show _ = V.non from h]; exact .non
  | .bl b, _, h => by rw [show _ = V.bl b from h]; exact .bl b
  | .int b, _, h => by rw [show _ = V.int b from h]; exact .int b
  | .str b, _, h => by rw [show _ = V.str b from h]; exact .str b
  | .tup ds, _, ⟨a, xs, e, q, r⟩ => by subst e; exact .tup q (reps_dp r)
  | .lis ds, _, ⟨a, xs, o, e, q, r⟩ => by subst e; exact .lst (.inl (.inr ⟨o, q⟩)) (reps_dp r)
theorem reps_dp : ∀ {ds : List D} {vs : List V}, Reps K H ds vs → DpAll K H vs (pys ds)
  | [], _, h => by rw [show _ = [] from h]; exact .nil
  | _ :: _, _, ⟨x, r, e, h1, h2⟩ => by subst e; exact .cons (rep_dp h1) (reps_dp h2)
end
mutual
def avPy (M : List MO) : AV → PyData
  | .dat d => d.py
  | .ls ds => .list (pys ds)
  | .mut j => match M[j]? with
    | some (.lst ds) => .list (pys ds)
    | _ => .none
  | .la as => .list (avPys M as)
  | .ta as => .tuple (avPys M as)
  | .scr ns => .list (pys (ns.map D.int))
  | .tx ds => .tuple (pys ds)
  | .exc _ _ => .none
  | .fn _ => .none
def avPys (M : List MO) : List AV → List PyData
  | [] => []
  | d :: ds => avPy M d :: avPys M ds
end
mutual
/-- a value that is data: lists of the store among it -/
def IsDat (M : List MO) : AV → Prop
  | .dat _ => True
  | .ls _ => True
  | .mut j => ∃ ds, M[j]? = some (.lst ds)
  | .la as => IsDats M as
  | .ta as => IsDats M as
  | .scr _ => False
  | .tx _ => True
  | .exc _ _ => False
  | .fn _ => False
def IsDats (M : List MO) : List AV → Prop
  | [] => True
  | d :: ds => IsDat M d ∧ IsDats M ds
end
mutual
theorem av_dp (S : StOk K ad H M) : ∀ {a : AV} {v : V}, RepA K ad H a v → IsDat M a → Dp K H v (avPy M a)
  | .dat _, _, r, _ => rep_dp r
  | .ls _, _, ⟨a, xs, e, q, r⟩, _ => by subst e; exact .lst q.sq (reps_dp r)
  | .mut j, _, ⟨a, q, e⟩, ⟨ds, hm⟩ => by
    subst e
    obtain ⟨a2, h2, xs, h3, rr⟩ := S.obj j _ hm
    rw [q] at h2
    cases h2
    unfold avPy
    rw [hm]
    exact .lst (.inl (.inl h3)) (reps_dp rr)
  | .la _, _, ⟨a, xs, e, q, r⟩, h => by subst e; exact .lst q.sq (avs_dp S r h)
  | .ta _, _, ⟨a, xs, e, q, r⟩, h => by subst e; exact .tup q (avs_dp S r h)
  | .scr _, _, _, h => h.elim
  | .tx _, _, ⟨a, xs, e, q, r⟩, _ => by subst e; exact .tup q.sq (reps_dp r)
  | .exc _ _, _, _, h => h.elim
  | .fn _, _, _, h => h.elim
theorem avs_dp (S : StOk K ad H M) : ∀ {ds : List AV} {vs : List V}, RepAs K ad H ds vs → IsDats M ds → DpAll K H vs (avPys M ds)
  | [], _, h, _ => by rw [show _ = [] from h]; exact .nil
  | _ :: _, _, ⟨x, r, e, h1, h2⟩, hd => by subst e; exact .cons (av_dp S h1 hd.1) (avs_dp S h2 hd.2)
end
theorem c_eqD {x y : AV} (hx : IsDat M x) (hy : IsDat M y) (sx : SeqAt.shaped (avPy M x) = true) (sy : SeqAt.shaped (avPy M y) = true) (h : B (PyData.eqv (avPy M x) (avPy M y)) M) : CmpR c .Eq x y M B := fun z H ad hs vx vy rx ry Q q =>
  ⟨_, op_eqD z.room.units, _, _, av_dp hs rx hx, av_dp hs ry hy, sx, sy, q _ H ad M Nx.refl hs h⟩
theorem c_neD {x y : AV} (hx : IsDat M x) (hy : IsDat M y) (sx : SeqAt.shaped (avPy M x) = true) (sy : SeqAt.shaped (avPy M y) = true) (h : B (!PyData.eqv (avPy M x) (avPy M y)) M) : CmpR c .NotEq x y M B := fun z H ad hs vx vy rx ry Q q =>
  ⟨_, op_neD z.room.units, _, _, av_dp hs rx hx, av_dp hs ry hy, sx, sy, q _ H ad M Nx.refl hs h⟩
/-- x in xs, flat things -/
def fl : D → Bool
  | .tup _ => false
  | .lis _ => false
  | _ => true
def flV : D → V
  | .non => .non
  | .bl b => .bl b
  | .int i => .int i
  | .str x => .str x
  | .tup _ => .non
  | .lis _ => .non
theorem rep_fl : ∀ {d : D} {v : V}, Rep K H d v → fl d = true → v = flV d ∧ flatV v = true
  | .non, _, h, _ => by rw [show _ = V.non from h]; exact ⟨rfl, rfl⟩
  | .bl b, _, h, _ => by rw [show _ = V.bl b from h]; exact ⟨rfl, rfl⟩
  | .int b, _, h, _ => by rw [show _ = V.int b from h]; exact ⟨rfl, rfl⟩
  | .str b, _, h, _ => by rw [show _ = V.str b from h]; exact ⟨rfl, rfl⟩
  | .tup _, _, _, h => by cases h
  | .lis _, _, _, h => by cases h
theorem reps_fl : ∀ {ds : List D} {vs : List V}, Reps K H ds vs → ds.all fl = true → vs = ds.map flV ∧ vs.all flatV = true
  | [], _, h, _ => by rw [show _ = [] from h]; exact ⟨rfl, rfl⟩
  | d :: ds, _, ⟨x, r, e, h1, h2⟩, h => by
    subst e
    rw [List.all_cons, Bool.and_eq_true] at h
    obtain ⟨e1, f1⟩ := rep_fl h1 h.1
    obtain ⟨e2, f2⟩ := reps_fl h2 h.2
    exact ⟨by rw [e1, e2]; rfl, by rw [List.all_cons, f1, f2]; rfl⟩
def inD (d : D) (ds : List D) : Bool := inV (flV d) (ds.map flV)
theorem c_in {d : D} {y : AV} {ds : List D} (hy : IsS M y ds) (hd : fl d = true) (hs : ds.all fl = true) (h : B (inD d ds) M) : CmpR c .In (.dat d) y M B := fun z H ad st vx vy rx ry Q q => by
  obtain ⟨p, xs, rfl, hq, rr⟩ := hy.sq st ry
  obtain ⟨e1, f1⟩ := rep_fl rx hd
  obtain ⟨e2, f2⟩ := reps_fl rr hs
  refine ⟨_, op_in_seq, p, xs, rfl, hq, f1, f2, ?_⟩
  rw [e1, e2]
  exact q _ H ad M Nx.refl st h
theorem c_notin {d : D} {y : AV} {ds : List D} (hy : IsS M y ds) (hd : fl d = true) (hs : ds.all fl = true) (h : B (!inD d ds) M) : CmpR c .NotIn (.dat d) y M B := fun z H ad st vx vy rx ry Q q => by
  obtain ⟨p, xs, rfl, hq, rr⟩ := hy.sq st ry
  obtain ⟨e1, f1⟩ := rep_fl rx hd
  obtain ⟨e2, f2⟩ := reps_fl rr hs
  refine ⟨_, op_notIn_seq, p, xs, rfl, hq, f1, f2, ?_⟩
  rw [e1, e2]
  exact q _ H ad M Nx.refl st h
end

/-! ### subscripts -/
section
variable {c : SC} {δ : Dl} {M : List MO} {Post : AQ} {a b e t : Expr} {es : List Expr} {pos p p1 p2 : Pos} {x : Str}
/-- what stands at i of x -/
def IxA (M : List MO) (x : AV) (i : Int) (Post : D → Prop) : Prop :=
  (∃ ds d, IsS M x ds ∧ atI ds i = some d ∧ Post d) ∨ ∃ s ch, x = .dat (.str s) ∧ s.length ≤ 1000000 ∧ atI s.cps.toList i = some ch ∧ Post (.str ⟨#[ch]⟩)
theorem atI_reps {K : PySem.W.Frag} {H : Hp} {ds : List D} {xs : List V} {i : Int} {d : D} (r : Reps K H ds xs) (h : atI ds i = some d) : ∃ v, atI xs i = some v ∧ Rep K H d v := by
  unfold atI at h ⊢
  rw [r.length]
  cases q : ixN ds.length i with
  | none => rw [q] at h; cases h
  | some j =>
    rw [q] at h
    exact r.get h
theorem x_ix (h : EvX c δ M a fun x M1 => EvX c δ M1 b fun y M2 => ∃ i, y = .dat (.int i) ∧ IxA M2 x i fun d => Post (.dat d) M2) (hp : PlainIx b) : EvX c δ M (.Subscript a b pos) Post := fun y σ H ad he hs Q q =>
  ⟨_, pe_ix (r := rIx c.K) ix_seq wE_ok wE_ok hp, h y σ H ad he hs _ fun v H1 ad1 x M1 n1 s1 r1 p1 => p1 y σ H1 ad1 (he.nx n1) s1 _ fun u H2 ad2 z M2 n2 s2 r2 ⟨i, ez, p2⟩ => by
    subst ez
    have n := n1.trans n2
    rcases p2 with ⟨ds, d, hx, ha, p2⟩ | ⟨s, ch, rfl, hl, ha, p2⟩
    · obtain ⟨pp, xs, rfl, hq, rr⟩ := hx.sq s2 (r1.nx n2)
      obtain ⟨w, hw, rw'⟩ := atI_reps rr ha
      rcases hq with hq | hq
      · exact .inl ⟨pp, xs, i, w, rfl, r2, hq, hw, q w H2 ad2 (.dat d) M2 n s2 rw' p2⟩
      · exact .inr (.inl ⟨pp, xs, i, w, rfl, r2, hq, hw, q w H2 ad2 (.dat d) M2 n s2 rw' p2⟩)
    · exact .inr (.inr ⟨s, i, ch, r1, r2, Nat.le_trans hl (by decide), ha, q _ H2 ad2 (.dat (.str ⟨#[ch]⟩)) M2 n s2 rfl p2⟩)⟩
/-- an end of a slice -/
def EvO (c : SC) (δ : Dl) (M : List MO) (e : Option Expr) (Post : Option Int → List MO → Prop) : Prop := match e with
  | none => Post none M
  | some e => EvX c δ M e fun a M1 => ∃ i, a = .dat (.int i) ∧ Post (some i) M1
def wOp (X : Cx) (e : Option Expr) : TO := fun σ H Q => ∃ t, PO X e t ∧ t σ H Q
theorem wOp_ok {X : Cx} {e : Option Expr} : PO X e (wOp X e) := ⟨fun pins s σ H Q I ⟨t, h, q⟩ => h.run pins s σ H Q I q⟩
theorem EvO.run {o : Option Expr} {Po : Option Int → List MO → Prop} (h : EvO c δ M o Po) (y : Dyn c) (σ : L2.St) (H : Hp) (ad : List Addr) (he : EnvOk c.K ad H σ δ) (hs : StOk c.K ad H M) (Q : Option Int → Hp → Prop)
    (q : ∀ i H2 ad2 M2, Nx ad H ad2 H2 → StOk c.K ad2 H2 M2 → Po i M2 → Q i H2) : wOp y.cx o σ H Q := by
  cases o with
  | none => exact ⟨_, po_none, q none H ad M Nx.refl hs h⟩
  | some e =>
    refine ⟨_, po_some wE_ok, h y σ H ad he hs _ fun v H2 ad2 a M2 n s r ⟨i, ea, p⟩ => ?_⟩
    subst ea
    exact ⟨i, r, q _ H2 ad2 M2 n s p⟩
def cutD (xs : List D) (lo hi : Option Int) : List D := (xs.drop (HT.sIx xs.length 0 lo)).take (HT.sIx xs.length xs.length hi - HT.sIx xs.length 0 lo)
theorem cut_reps {K : PySem.W.Frag} {H : Hp} {ds : List D} {xs : List V} {lo hi : Option Int} (r : Reps K H ds xs) : Reps K H (cutD ds lo hi) (cutV xs lo hi) := by
  unfold cutD cutV
  rw [r.length]
  exact (r.drop _).take _
/-- t[lo:hi] of a tuple -/
theorem x_slT {lo hi : Option Expr} (h : EvX c δ M a fun x M1 => EvO c δ M1 lo fun l M2 => EvO c δ M2 hi fun u M3 => ∃ ds, x = .dat (.tup ds) ∧ Post (.dat (.tup (cutD ds l u))) M3) : EvX c δ M (.Subscript a (.Slice lo hi none p2) pos) Post := fun y σ H ad he hs Q q =>
  ⟨_, pe_slice sl_tupA wE_ok wOp_ok wOp_ok, h y σ H ad he hs _ fun v H1 ad1 x M1 n1 s1 r1 p1 => p1.run y σ H1 ad1 (he.nx n1) s1 _ fun l H2 ad2 M2 n2 s2 p2 => p2.run y σ H2 ad2 (he.nx (n1.trans n2)) s2 _ fun u H3 ad3 M3 n3 s3 ⟨ds, ex, p3⟩ => by
    subst ex
    have n := (n1.trans n2).trans n3
    obtain ⟨pp, xs, rfl, hq, rr⟩ := (r1.nx n2).nx n3
    refine ⟨pp, xs, rfl, hq, fun ⟨w1, w2⟩ => ?_, fun _ p hp => ?_⟩
    · have ec : cutD ds l u = ds := by
        unfold cutD
        rw [rr.length] at w1 w2
        rw [w1, w2]
        simp
      rw [ec] at p3
      exact q _ H3 ad3 _ M3 n s3 (show RepA _ _ _ (.dat (.tup ds)) _ from ⟨pp, xs, rfl, hq, rr⟩) p3
    · have sm := same_new (o := .tup (cutV xs l u)) hp
      exact q _ _ ad3 _ M3 (n.trans (Nx.same sm)) (s3.same sm) (show RepA _ _ _ (.dat (.tup (cutD ds l u))) _ from ⟨p, _, rfl, .inl (.inl upd_same), (cut_reps rr).tx (Tx.same sm)⟩) p3⟩
theorem free_back {ad ad2 : List Addr} {H H2 : Hp} {K : PySem.W.Frag} {M2 : List MO} (n : Nx ad H ad2 H2) (s : StOk K ad2 H2 M2) {p : Addr} (hp : H2 p = none) : H p = none := by
  cases z : H p with
  | none => rfl
  | some o =>
    by_cases hm : p ∈ ad
    · exact absurd (n.sub hm) (s.free hp)
    · rw [n.keep p o hm z] at hp; cases hp
/-- xs[lo:hi] of a list -/
theorem f_slL {Pf : List D → List MO → Prop} {lo hi : Option Expr} (h : EvX c δ M a fun x M1 => EvO c δ M1 lo fun l M2 => EvO c δ M2 hi fun u M3 => ∃ ds, IsL M3 x ds ∧ Pf (cutD ds l u) M3) : EvF c δ M (.Subscript a (.Slice lo hi none p2) pos) Pf := fun y σ H ad he hs Q q =>
  ⟨_, pe_slice sl_list wE_ok wOp_ok wOp_ok, h y σ H ad he hs _ fun v H1 ad1 x M1 n1 s1 r1 p1 => p1.run y σ H1 ad1 (he.nx n1) s1 _ fun l H2 ad2 M2 n2 s2 p2 => p2.run y σ H2 ad2 (he.nx (n1.trans n2)) s2 _ fun u H3 ad3 M3 n3 s3 ⟨ds, ex, p3⟩ => by
    have n := (n1.trans n2).trans n3
    obtain ⟨pp, xs, rfl, hq, rr⟩ := ex.sq s3 ((r1.nx n2).nx n3)
    refine ⟨pp, xs, rfl, hq, fun p hp => ?_⟩
    have sm := same_new (o := .lst (cutV xs l u)) hp
    exact q p _ _ ad3 _ M3 (n.trans (Nx.same sm)) (s3.same sm) (free_back n s3 hp) (s3.free hp) upd_same ((cut_reps rr).tx (Tx.same sm)) p3⟩
end
end Fx

/-! Fx, part C: targets, walks, comprehensions, statements, defs. -/
namespace Fx
open PySem L2

/-! ### targets -/
/-- a value goes to a target; is: the slots that are written -/
def EvG (c : SC) (δ : Dl) (tg : Expr) (is : List Nat) (a : AV) (Pg : Dl → Prop) : Prop :=
  ∀ (y : Dyn c) (σ : L2.St) (H : Hp) (ad : List Addr) (v : V), EnvOk c.K ad H σ δ → RepA c.K ad H a v → ∀ Q : L2.St → Hp → Prop,
    (∀ σ2 δ2, EnvOk c.K ad H σ2 δ2 → (∀ vs, (∀ i ∈ is, i ∈ vs) → wipe σ2 vs = wipe σ vs) → Pg δ2 → Q σ2 H) → wG y.cx tg v σ H Q
theorem wipe_at (σ : L2.St) (x : Option V) (i : Nat) : ∀ vs : List Nat, i ∈ vs → wipe (σ.set i x) vs = wipe σ vs
  | [], h => by cases h
  | v :: vs, h => by
    have nots : ∀ vs : List Nat, i ∉ vs → wipe (σ.set i x) vs = (wipe σ vs).set i x := by
      intro vs
      induction vs with
      | nil => intro _; rfl
      | cons w ws ih =>
        intro hn
        have h1 : w ≠ i := fun e => hn (by rw [e]; exact List.mem_cons_self)
        show (wipe (σ.set i x) ws).set w none = ((wipe σ ws).set w none).set i x
        rw [ih (fun z => hn (List.mem_cons_of_mem _ z)), List.set_comm _ _ (Ne.symm h1)]
    show (wipe (σ.set i x) vs).set v none = (wipe σ vs).set v none
    by_cases hv : i ∈ vs
    · rw [wipe_at σ x i vs hv]
    · have e : i = v := by
        rcases List.mem_cons.mp h with e | e
        · exact e
        · exact absurd e hv
      rw [nots vs hv, e, List.set_set]
theorem g_name {c : SC} {δ : Dl} {x : Str} {pos : Pos} {a : AV} {Pg : Dl → Prop} (i : Nat) (hi : c.N[i]? = some x) (hN : c.N.Nodup) (hx : Loc c.sc x) (hf : c.fn x = true ∨ c.sc.names.lookup x = some .local) (h : Pg (δ.set i (some a))) :
    EvG c δ (.Name x pos) [i] a Pg := fun y σ H ad v he r Q q =>
  ⟨_, pg_name (X := y.cx) hN hi (by show Loc y.env.scope x; rw [y.sc]; exact hx) (by show c.fn x = true ∨ y.env.scope.names.lookup x = some .local; rw [y.sc]; exact hf),
    q _ _ (he.set r) (fun vs hv => wipe_at _ _ i vs (hv i List.mem_cons_self)) h⟩
/-- several targets -/
def EvGs (c : SC) (δ : Dl) (tgs : List Expr) (is : List Nat) (as : List D) (Pg : Dl → Prop) : Prop :=
  ∀ (y : Dyn c) (σ : L2.St) (H : Hp) (ad : List Addr) (vs : List V), EnvOk c.K ad H σ δ → Reps c.K H as vs → ∀ Q : L2.St → Hp → Prop,
    (∀ σ2 δ2, EnvOk c.K ad H σ2 δ2 → (∀ ws, (∀ i ∈ is, i ∈ ws) → wipe σ2 ws = wipe σ ws) → Pg δ2 → Q σ2 H) → ∃ t, PGs y.cx tgs t ∧ t vs σ H Q
theorem gs_nil {c : SC} {δ : Dl} {Pg : Dl → Prop} (h : Pg δ) : EvGs c δ [] [] [] Pg := fun y σ H ad vs he r Q q => ⟨_, pgs_nil, r, q σ δ he (fun _ _ => rfl) h⟩
def wGs (X : Cx) (tgs : List Expr) : TGs := fun vs σ H Q => ∃ t, PGs X tgs t ∧ t vs σ H Q
theorem wGs_ok {X : Cx} {tgs : List Expr} : PGs X tgs (wGs X tgs) := ⟨fun pins s σ H vs us Q I r ⟨t, h, q⟩ => h.run pins s σ H vs us Q I r q⟩
theorem gs_cons {c : SC} {δ : Dl} {tg : Expr} {tgs : List Expr} {is js : List Nat} {a : D} {as : List D} {Pg : Dl → Prop} (h : EvG c δ tg is (.dat a) fun δ1 => EvGs c δ1 tgs js as Pg)
    (hs : ∀ env, (assignEach (tg :: tgs) env).map (·.2) = assign tg env :: (assignEach tgs env).map (·.2)) : EvGs c δ (tg :: tgs) (is ++ js) (a :: as) Pg := fun y σ H ad vs he ⟨x, r, e, h1, h2⟩ Q q => by
  subst e
  refine ⟨_, pgs_cons wG_ok wGs_ok (hs y.env), x, r, rfl, h y σ H ad x he h1 _ fun σ2 δ2 he2 w2 p2 => p2 y σ2 H ad r he2 h2 Q fun σ3 δ3 he3 w3 p3 => q σ3 δ3 he3 (fun ws hw => ?_) p3⟩
  rw [w3 ws (fun i hi => hw i (List.mem_append_right _ hi)), w2 ws (fun i hi => hw i (List.mem_append_left _ hi))]
theorem g_tup {c : SC} {δ : Dl} {tgs : List Expr} {k : Nat} {pos : Pos} {is : List Nat} {as : List D} {Pg : Dl → Prop} (h : EvGs c δ tgs is as Pg) (hn : ∀ env, (assignEach tgs env).length = as.length)
    (hst : ∀ env, (assignEach tgs env).findIdx? (·.1) = none) : EvG c δ (.Tuple tgs k pos) is (.dat (.tup as)) Pg := fun y σ H ad v he ⟨a, xs, e, q, r⟩ Q qq =>
  ⟨_, pg_tup (X := y.cx) rfl wGs_ok (hn y.env) (hst y.env), a, xs, e, q, r.length, h y σ H ad xs he r Q qq⟩

/-- the slots left open -/
def EvGx (c : SC) (δ : Dl) (tg : Expr) (a : AV) (Pg : Dl → Prop) : Prop := ∃ is, EvG c δ tg is a Pg
/-! ### what is walked -/
def wI (X : Cx) (tg iter : Expr) : TI := fun σ H R => ∃ wi, PI X tg iter wi ∧ wi σ H R
theorem wI_ok {X : Cx} {tg iter : Expr} : PI X tg iter (wI X tg iter) := ⟨fun pins s σ H R I ⟨t, h, q⟩ => h.run pins s σ H R I q⟩
/-- the iterator J gives ds, one by one, as long as the store keeps what is walked -/
def Walks (K : PySem.W.Frag) (J : It) (ad : List Addr) (H : Hp) (ds : List D) (src : Option Nat) : Prop :=
  ∀ ad2 H2 M2, Nx ad H ad2 H2 → StOk K ad2 H2 M2 → (∀ j, src = some j → M2[j]? = some (.lst ds)) → ∀ i,
    (∀ d, ds[i]? = some d → J.go i H2 ∧ ∀ x H3, J.yld i H2 x H3 → Same H2 H3 ∧ Rep K H3 d x) ∧ (i = ds.length → J.stop i H2)
def EvI (c : SC) (δ : Dl) (M : List MO) (tg iter : Expr) (Pi : List D → Option Nat → List MO → Prop) : Prop :=
  ∀ (y : Dyn c) (σ : L2.St) (H : Hp) (ad : List Addr), EnvOk c.K ad H σ δ → StOk c.K ad H M → ∀ R : It → Hp → Prop,
    (∀ J H1 ad1 ds src M1, Nx ad H ad1 H1 → StOk c.K ad1 H1 M1 → Walks c.K J ad1 H1 ds src → Pi ds src M1 → R J H1) → wI y.cx tg iter σ H R
section
variable {X : Cx} {tg : Expr}
def iSeq (K : PySem.W.Frag) (tl : TE) : TI := fun σ H R => tl σ H fun x H1 => (∃ a, x = .ref a ∧ (∃ xs, SqL K H1 a xs) ∧ R (Itl K a) H1) ∨ ∃ a, x = .ref a ∧ (∃ xs, SqT K H1 a xs) ∧ R (Itt K a) H1
theorem pi_seq {l : Expr} {tl : TE} (hl : PE X l tl) : PI X tg l (iSeq X.K tl) := by
  refine ⟨fun pins s σ H R I h => ?_⟩
  refine thn (hl.run pins s σ H _ I h) fun v s1 ⟨x, H1, I1, r1, q1⟩ => ?_
  rcases q1 with ⟨a, e, ⟨xs, hq⟩, q⟩ | ⟨a, e, ⟨xs, hq⟩, q⟩
  · subst e
    cases r1
    obtain ⟨its, rv, p, hz⟩ := I1.list hq
    refine wpAny_pyIter_list p.isList ?_
    refine ⟨s1.heap.objs.size, [s1.heap.objs.size], _, _, H1, rfl, I1.kept (t' := s1.toks) fun b o e => Heap.get?_push_of_some _ e, turn_list a _, ⟨_, Heap.get?_push_size _ rfl, rfl, rfl⟩, fun b hb => ?_, q⟩
    have e : b = s1.heap.objs.size := by simpa using hb
    subst e
    exact I1.fpOk (Nat.le_refl _) (I1.hok.fresh (Nat.le_refl _))
  · subst e
    cases r1
    obtain ⟨its, rv, p, hz⟩ := I1.tuple hq
    refine wpAny_pyIter_tuple (show s1.heap.IsTuple a its.toArray from p) ?_
    refine ⟨s1.heap.objs.size, [s1.heap.objs.size], _, _, H1, rfl, I1.kept (t' := s1.toks) fun b o e => Heap.get?_push_of_some _ e, turn_tuple a _, ⟨_, Heap.get?_push_size _ rfl, rfl, rfl⟩, fun b hb => ?_, q⟩
    have e : b = s1.heap.objs.size := by simpa using hb
    subst e
    exact I1.fpOk (Nat.le_refl _) (I1.hok.fresh (Nat.le_refl _))
end
section
variable {c : SC} {δ : Dl} {M : List MO} {Post : AQ} {a b e t iter tg : Expr} {es : List Expr} {pos p p1 p2 : Pos} {x : Str} {Pi : List D → Option Nat → List MO → Prop}
/-- where the store keeps a list: its place -/
def srcOf : AV → Option Nat
  | .mut j => some j
  | _ => none
theorem walks_list {K : PySem.W.Frag} {ad : List Addr} {H : Hp} {a : AV} {ds : List D} {v : V} (S : StOk K ad H M) (r : RepA K ad H a v) (h : IsL M a ds) : ∃ q xs, v = .ref q ∧ SqL K H q xs ∧ Walks K (Itl K q) ad H ds (srcOf a) := by
  have fin : ∀ {q : Addr} {H2 : Hp} {xs : List V} (i : Nat), SqL K H2 q xs → (∀ xs', SqL K H2 q xs' → xs' = xs ∨ True) → Reps K H2 ds xs →
      (∀ d, ds[i]? = some d → (Itl K q).go i H2 ∧ ∀ x H3, (Itl K q).yld i H2 x H3 → Same H2 H3 ∧ Rep K H3 d x) ∧ (i = ds.length → (Itl K q).stop i H2) := by
    intro q H2 xs i hq _ rr
    refine ⟨fun d hd => ?_, fun e => ⟨xs, hq, by rw [rr.length, e]; exact Nat.le_refl _⟩⟩
    obtain ⟨w, hw, rw'⟩ := rr.get hd
    refine ⟨⟨xs, w, hq, hw⟩, fun x H3 ⟨e3, y⟩ => ?_⟩
    subst e3
    have := y xs hq
    rw [hw] at this
    cases this
    exact ⟨Same.refl _, rw'⟩
  rcases h with rfl | ⟨j, rfl, hm⟩
  · obtain ⟨q, xs, e, hq, rr⟩ := r
    exact ⟨q, xs, e, hq.sq, fun ad2 H2 M2 n s _ i => fin i (hq.nx n).sq (fun _ _ => .inr trivial) (rr.tx n.tx)⟩
  · obtain ⟨q, hq, e⟩ := r
    obtain ⟨a2, h2, xs, h3, rr⟩ := S.obj j _ hm
    rw [hq] at h2
    cases h2
    refine ⟨q, xs, e, .inl (.inl h3), fun ad2 H2 M2 n s k i => ?_⟩
    obtain ⟨a4, h4, xs2, h5, rr2⟩ := s.obj j _ (k j rfl)
    rw [n.get hq] at h4
    cases h4
    exact fin i (.inl (.inl h5)) (fun _ _ => .inr trivial) rr2
theorem walks_tup {K : PySem.W.Frag} {ad : List Addr} {H : Hp} {ds : List D} {v : V} (r : RepA K ad H (.dat (.tup ds)) v) : ∃ q xs, v = .ref q ∧ SqT K H q xs ∧ Walks K (Itt K q) ad H ds none := by
  obtain ⟨q, xs, e, hq, rr⟩ := r
  refine ⟨q, xs, e, hq, fun ad2 H2 M2 n s _ i => ⟨fun d hd => ?_, fun e => ⟨xs, sqT_tx n.tx hq, by rw [rr.length, e]; exact Nat.le_refl _⟩⟩⟩
  obtain ⟨w, hw, rw'⟩ := (rr.tx n.tx).get hd
  refine ⟨⟨xs, w, sqT_tx n.tx hq, hw⟩, fun x H3 ⟨e3, y⟩ => ?_⟩
  subst e3
  have := y xs (sqT_tx n.tx hq)
  rw [hw] at this
  cases this
  exact ⟨Same.refl _, rw'⟩
theorem i_seq (h : EvX c δ M e fun a M1 => ∃ ds, IsS M1 a ds ∧ Pi ds (srcOf a) M1) : EvI c δ M tg e Pi := fun y σ H ad he hs R q =>
  ⟨_, pi_seq wE_ok, h y σ H ad he hs _ fun v H1 ad1 a M1 n1 s1 r1 ⟨ds, hx, p1⟩ => by
    rcases hx with rfl | hx
    · obtain ⟨qq, xs, e, hq, w⟩ := walks_tup r1
      exact .inr ⟨qq, e, ⟨xs, hq⟩, q _ H1 ad1 ds _ M1 n1 s1 w p1⟩
    · obtain ⟨qq, xs, e, hq, w⟩ := walks_list s1 r1 hx
      exact .inl ⟨qq, e, ⟨xs, hq⟩, q _ H1 ad1 ds _ M1 n1 s1 w p1⟩⟩
/-- lo, lo + 1, .. -/
def rgD (lo hi : Int) : List D := (List.range (hi - lo).toNat).map fun i => D.int (lo + (i : Nat))
theorem rgD_len (lo hi : Int) : (rgD lo hi).length = (hi - lo).toNat := by unfold rgD; rw [List.length_map, List.length_range]
theorem rgD_get {lo hi : Int} {i : Nat} {d : D} (h : (rgD lo hi)[i]? = some d) : i < (hi - lo).toNat ∧ d = .int (lo + (i : Nat)) := by
  have hl := (List.getElem?_eq_some_iff.mp h).1
  rw [rgD_len] at hl
  unfold rgD at h
  rw [List.getElem?_map, List.getElem?_range hl] at h
  exact ⟨hl, (Option.some.inj h).symm⟩
theorem walks_rng {K : PySem.W.Frag} {ad : List Addr} {H : Hp} (lo hi : Int) : Walks K (Itr lo (hi - lo).toNat) ad H (rgD lo hi) none := fun ad2 H2 M2 n s _ i => by
  refine ⟨fun d hd => ?_, fun e => ?_⟩
  · obtain ⟨h1, h2⟩ := rgD_get hd
    subst h2
    refine ⟨h1, fun x H3 ⟨e3, y⟩ => ?_⟩
    subst e3 y
    exact ⟨Same.refl _, rfl⟩
  · show (hi - lo).toNat ≤ i
    rw [e, rgD_len]
    exact Nat.le_refl _
def SC.gl (c : SC) (x : Str) : Prop := c.sc.names.lookup x = some .globalImplicit
theorem glS {c : SC} (y : Dyn c) {x : Str} (h : c.gl x) : Gl y.cx x := by
  show y.env.scope.names.lookup x = some .globalImplicit
  rw [y.sc]
  exact h
theorem repAs1 {K : PySem.W.Frag} {ad : List Addr} {H : Hp} {a : AV} {vs : List V} (r : RepAs K ad H [a] vs) : ∃ v, vs = [v] ∧ RepA K ad H a v := by
  obtain ⟨x, r, e, h, e2⟩ := r
  have e2 : r = [] := e2
  subst e2
  exact ⟨x, e, h⟩
theorem repAs2 {K : PySem.W.Frag} {ad : List Addr} {H : Hp} {a b : AV} {vs : List V} (r : RepAs K ad H [a, b] vs) : ∃ v w, vs = [v, w] ∧ RepA K ad H a v ∧ RepA K ad H b w := by
  obtain ⟨x, r, e, h, rr⟩ := r
  obtain ⟨w, e2, h2⟩ := repAs1 rr
  subst e2
  exact ⟨x, w, e, h, h2⟩
/-- 0, 1, .. -/
def rg0 (n : Int) : List D := (List.range n.toNat).map fun i => D.int (i : Nat)
theorem rg0_eq (n : Int) : rg0 n = rgD 0 n := by
  unfold rg0 rgD
  rw [Int.sub_zero]
  apply List.map_congr_left
  intro i _
  rw [Int.zero_add]
theorem rg0_len (n : Int) : (rg0 n).length = n.toNat := by rw [rg0_eq, rgD_len, Int.sub_zero]
theorem rg0_get {n : Int} {i : Nat} {d : D} (h : (rg0 n)[i]? = some d) : i < n.toNat ∧ d = .int (i : Nat) := by
  rw [rg0_eq] at h
  have := rgD_get h
  rw [Int.sub_zero, Int.zero_add] at this
  exact this
theorem i_rng1 (hm : c.mg "range" = none) (hg : c.gl "range") (h : EvA c δ M [a] fun as M1 => ∃ n : Int, as = [.dat (.int n)] ∧ -(2 ^ 62) ≤ n ∧ n < 2 ^ 62 ∧ Pi (rg0 n) none M1)
    (hs1 : ∀ env, starEach [a] env = [(false, eval a env)]) : EvI c δ M tg (.Call (.Name "range" p) [a] [] pos) Pi := fun y σ H ad he hs R q =>
  ⟨_, pi_range1 (glS y hg) hm wA_ok (hs1 y.env), h y σ H ad he hs _ fun vs H1 ad1 as M1 n1 s1 r1 ⟨n, e, b1, b2, p1⟩ => by
    subst e
    obtain ⟨v, e, rv⟩ := repAs1 r1
    refine ⟨n, by rw [e, show v = .int n from rv], b1, b2, q _ H1 ad1 _ _ M1 n1 s1 ?_ p1⟩
    have := walks_rng (K := c.K) (ad := ad1) (H := H1) 0 n
    rw [Int.sub_zero, ← rg0_eq] at this
    exact this⟩
theorem i_rng2 (hm : c.mg "range" = none) (hg : c.gl "range") (h : EvA c δ M [a, b] fun as M1 => ∃ lo hi : Int, as = [.dat (.int lo), .dat (.int hi)] ∧ (-(2 ^ 62) ≤ lo ∧ lo < 2 ^ 62 ∧ -(2 ^ 62) ≤ hi ∧ hi < 2 ^ 62) ∧ Pi (rgD lo hi) none M1)
    (hs1 : ∀ env, starEach [a, b] env = [(false, eval a env), (false, eval b env)]) (hs2 : ∀ env, starEach [b] env = [(false, eval b env)]) : EvI c δ M tg (.Call (.Name "range" p) [a, b] [] pos) Pi := fun y σ H ad he hs R q =>
  ⟨_, pi_range2 (glS y hg) hm wA_ok (hs1 y.env) (hs2 y.env), h y σ H ad he hs _ fun vs H1 ad1 as M1 n1 s1 r1 ⟨lo, hi, e, b1, p1⟩ => by
    subst e
    obtain ⟨v, w, e, rv, rw'⟩ := repAs2 r1
    exact ⟨lo, hi, by rw [e, show v = .int lo from rv, show w = .int hi from rw'], b1, q _ H1 ad1 _ _ M1 n1 s1 (walks_rng lo hi) p1⟩⟩
end

/-! ### comprehensions -/
@[reducible] def SC.blk (c : SC) (scope : Scope) : SC := { c with sc := relS scope c.sc, fn := fun x => scope.names.lookup x == some .cell }
@[reducible] def Dyn.blk {c : SC} (y : Dyn c) (scope : Scope) (s : Shared) (H : Hp) (C : Addr) (cl : List (Str × Addr)) (fp : List Addr) : Dyn (c.blk scope) where
  A := y.A
  s0 := s
  H0 := H
  env := compEnvC scope cl C y.env
  outer := y.stack
  stack := y.stack
  ex := fp
  pn := []
  xe := fun _ _ => False
  sc := by
    show relS scope y.env.scope = relS scope c.sc
    rw [y.sc]
  room := y.room
  pass := PassesOwn.never
  en := y.en
/-- how one turn of a comprehension goes -/
def LcTurn (c : SC) (δ : Dl) (tg elt : Expr) (ifs : List Expr) (vs : List Nat) (d : D) (M : List MO) (yes : D → List MO → Prop) (no : List MO → Prop) : Prop :=
  ∃ is, (∀ i ∈ is, i ∈ vs) ∧ EvG c δ tg is (.dat d) fun δ2 => EvTs c δ2 M ifs fun k M3 => (k = true → EvX c δ2 M3 elt fun a M4 => ∃ d', a = .dat d' ∧ yes d' M4) ∧ (k = false → no M3)
section
variable {c : SC} {δ : Dl} {M : List MO} {Post : AQ} {a b e t iter tg elt : Expr} {es ifs : List Expr} {pos p p1 p2 : Pos} {x : Str} {Pi : List D → Option Nat → List MO → Prop} {own : List (Str × Nat)} {scope : Scope} {Pf : List D → List MO → Prop}

theorem wipe_wipe (σ : L2.St) (vs : List Nat) : wipe (wipe σ vs) vs = wipe σ vs := by
  have gen : ∀ us : List Nat, (∀ u ∈ us, u ∈ vs) → wipe (wipe σ us) vs = wipe σ vs := by
    intro us
    induction us with
    | nil => intro _; rfl
    | cons u us ih =>
      intro hu
      show wipe ((wipe σ us).set u none) vs = wipe σ vs
      rw [wipe_at _ _ u vs (hu u List.mem_cons_self), ih fun w hw => hu w (List.mem_cons_of_mem _ hw)]
  exact gen vs fun _ h => h
/-- an object beside the store changes -/
theorem StOk.other {K : PySem.W.Frag} {ad : List Addr} {H : Hp} {q : Addr} {xs ys : List V} (S : StOk K ad H M) (hn : q ∉ ad) (hx : H q = some (.lst xs)) : StOk K ad (upd H q (.lst ys)) M ∧ Tx H (upd H q (.lst ys)) := by
  have t : Tx H (upd H q (.lst ys)) := ⟨fun b zs e => by
    rw [upd_ne (ne_of e hx (by intro z; cases z))]
    exact e, fun b o u e => by
    rw [upd_ne (ne_of e hx (by intro z; cases z))]
    exact e, fun b φ e => by
    rw [upd_ne (ne_of e hx (by intro z; cases z))]
    exact e⟩
  refine ⟨⟨S.nd, S.len, fun j m e => ?_⟩, t⟩
  obtain ⟨a, h, o⟩ := S.obj j m e
  refine ⟨a, h, o.nx' (fun _ _ z => z) t fun w z => ?_⟩
  rw [upd_ne (fun e => hn (by rw [← e]; exact List.mem_of_getElem? h))]
  exact z
/-- the comprehension's reading -/
theorem lc_read
    (h : EvI c δ M tg iter fun ds src M1 => ds.length ≤ 1000000 ∧ ∃ I : Nat → List D → List MO → Prop, I 0 [] M1 ∧ (∀ i acc M2, I i acc M2 → ∀ j, src = some j → M2[j]? = some (.lst ds)) ∧
      (∀ i d acc M2, ds[i]? = some d → I i acc M2 → LcTurn (c.blk scope) (wipeD δ (own.map (·.2))) tg elt ifs (own.map (·.2)) d M2 (fun d' M4 => I (i + 1) (acc ++ [d']) M4) (fun M3 => I (i + 1) acc M3)) ∧ ∀ acc M2, I ds.length acc M2 → Pf acc M2)
    (y : Dyn c) (σ : L2.St) (H : Hp) (ad : List Addr) (he : EnvOk c.K ad H σ δ) (hs : StOk c.K ad H M) (Q : VK)
    (q : ∀ p xs H2 ad2 ds M2, Nx ad H ad2 H2 → StOk c.K ad2 H2 M2 → H p = none → p ∉ ad2 → H2 p = some (.lst xs) → Reps c.K H2 ds xs → Pf ds M2 → Q (.ref p) H2) :
    tLc (wI y.cx tg iter) (fun v σ H Q => ∀ s0 H0 C cl fp, wG (y.blk scope s0 H0 C cl fp).cx tg v σ H Q) (fun σ H Q => ∀ s0 H0 C cl fp, wTs (y.blk scope s0 H0 C cl fp).cx ifs σ H Q) (fun σ H Q => ∀ s0 H0 C cl fp, wE (y.blk scope s0 H0 C cl fp).cx elt σ H Q) (own.map (·.2)) σ H Q := by
  refine h y σ H ad he hs _ ?_
  intro J H1 ad1 ds src M1 n1 s1 w hP
  obtain ⟨hl, I, i0, ik, it, idn⟩ := hP
  intro Dq hD
  have sm0 : Same H1 (upd H1 Dq (.lst [])) := same_new hD
  let St' : Nat → Hp → Prop := fun i H' => i ≤ ds.length ∧ ∃ (ad' : List Addr) (M' : List MO) (acc : List D) (xs : List V), Nx ad1 H1 ad' H' ∧ StOk c.K ad' H' M' ∧ Dq ∉ ad' ∧ H' Dq = some (.lst xs) ∧ Reps c.K H' acc xs ∧ acc.length ≤ i ∧ I i acc M'
  refine ⟨fun i m H' => m = ds.length - i ∧ St' i H', ⟨ds.length, by omega, Nat.zero_le _, ad1, M1, [], [], Nx.same sm0, s1.same sm0, s1.free hD, upd_same, rfl, Nat.le_refl _, i0⟩, ?_⟩
  rintro i m H' ⟨rfl, hi, ad', M', acc, xs, n', s', nd, hx, rr, hacc, inv⟩
  obtain ⟨hgo, hstop⟩ := w ad' H' M' n' s' (ik i acc M' inv) i
  by_cases hlt : i < ds.length
  · obtain ⟨go, yl⟩ := hgo ds[i] (List.getElem?_eq_getElem hlt)
    refine .inr ⟨go, St' (i + 1), fun H'' hq => ⟨ds.length - (i + 1), by omega, rfl, hq⟩, fun x H3 hy => ?_⟩
    obtain ⟨sm, rx⟩ := yl x H3 hy
    intro s0 H0 C cl fp
    have n3 : Nx ad1 H1 ad' H3 := n'.trans (Nx.same sm)
    have env : EnvOk c.K ad' H3 (wipe σ (own.map (·.2))) (wipeD δ (own.map (·.2))) := (he.nx (n1.trans n3)).wipe _
    obtain ⟨is, his, it'⟩ := it i ds[i] acc M' (List.getElem?_eq_getElem hlt) inv
    refine it' (y.blk scope s0 H0 C cl fp) _ H3 ad' x env rx _ ?_
    intro σ2 δ2 e2 w2 pT
    refine ⟨by rw [w2 _ his, wipe_wipe], ?_⟩
    intro s01 H01 C1 cl1 fp1
    refine pT (y.blk scope s01 H01 C1 cl1 fp1) σ2 H3 ad' e2 (s'.same sm) _ ?_
    intro b H4 ad4 M4 n4 s4 pB
    have hx3 : H3 Dq = some (.lst xs) := sm _ _ hx
    have nd4 : Dq ∉ ad4 := fun z => by
      have := n4.fresh Dq z nd
      rw [hx3] at this
      cases this
    have hx4 : H4 Dq = some (.lst xs) := n4.keep _ _ nd hx3
    cases b with
    | false =>
      refine iteF ?_
      exact ⟨hlt, ad4, M4, acc, xs, n3.trans n4, s4, nd4, hx4, (rr.tx (Tx.same sm)).tx n4.tx, by omega, pB.2 rfl⟩
    | true =>
      refine iteT ?_
      intro s02 H02 C2 cl2 fp2
      refine (pB.1 rfl) (y.blk scope s02 H02 C2 cl2 fp2) σ2 H4 ad4 (e2.nx n4) s4 _ ?_
      intro v H5 ad5 a M5 n5 s5 r5 hp
      obtain ⟨d', ea, pI⟩ := hp
      subst ea
      have nd5 : Dq ∉ ad5 := fun z => by
        have := n5.fresh Dq z nd4
        rw [hx4] at this
        cases this
      have hx5 : H5 Dq = some (.lst xs) := n5.keep _ _ nd4 hx4
      have n15 : Nx ad1 H1 ad5 H5 := (n3.trans n4).trans n5
      obtain ⟨s6, t6⟩ := s5.other (ys := xs ++ [v]) nd5 hx5
      have rr5 : Reps c.K (upd H5 Dq (.lst (xs ++ [v]))) acc xs := (((rr.tx (Tx.same sm)).tx n4.tx).tx n5.tx).tx t6
      refine ⟨xs, hx5, ?_, hlt, ad5, M5, acc ++ [d'], xs ++ [v], ⟨n15.pre, n15.fresh, fun a o hn e => ?_, n15.tx.trans t6⟩, s6, nd5, upd_same, ?_, ?_, pI⟩
      · have := rr5.length
        have h24 : sizeLine = 16777216 := sizeLine_eq
        omega
      · rw [upd_ne (ne_of_none e hD)]
        exact n15.keep a o hn e
      · have rv : Rep c.K H5 d' v := r5
        exact rr5.append ⟨v, [], rfl, rv.tx t6, rfl⟩
      · rw [List.length_append]
        have : [d'].length = 1 := rfl
        omega
  · have ei : i = ds.length := by omega
    subst ei
    exact .inl ⟨hstop rfl, q Dq xs H' ad' acc M' (n1.trans n') s' (free_back n1 s1 hD) nd hx rr (idn acc M' inv)⟩
theorem f_lc (own : List (Str × Nat)) (ok : BlkOk c.N c.sc scope own) (hN : c.N.Nodup)
    (h : EvI c δ M tg iter fun ds src M1 => ds.length ≤ 1000000 ∧ ∃ I : Nat → List D → List MO → Prop, I 0 [] M1 ∧ (∀ i acc M2, I i acc M2 → ∀ j, src = some j → M2[j]? = some (.lst ds)) ∧
      (∀ i d acc M2, ds[i]? = some d → I i acc M2 → LcTurn (c.blk scope) (wipeD δ (own.map (·.2))) tg elt ifs (own.map (·.2)) d M2 (fun d' M4 => I (i + 1) (acc ++ [d']) M4) (fun M3 => I (i + 1) acc M3)) ∧ ∀ acc M2, I ds.length acc M2 → Pf acc M2)
    (hf : ∀ env x, foldedSetIterable iter env x = pure x) : EvF c δ M (.ListComp elt [⟨tg, iter, ifs, 0⟩] scope pos) Pf := fun y σ H ad he hs Q q =>
  ⟨_, pe_lc (X := y.cx) (own := own) (wi := wI y.cx tg iter) (g := fun v σ H Q => ∀ s0 H0 C cl fp, wG (y.blk scope s0 H0 C cl fp).cx tg v σ H Q) (tt := fun σ H Q => ∀ s0 H0 C cl fp, wTs (y.blk scope s0 H0 C cl fp).cx ifs σ H Q)
    (te := fun σ H Q => ∀ s0 H0 C cl fp, wE (y.blk scope s0 H0 C cl fp).cx elt σ H Q) rfl hN wI_ok (by show BlkOk c.N y.env.scope scope own; rw [y.sc]; exact ok)
    (fun s0 H0 C cl fp => ⟨fun pins s σ H v u Q I r hw => (wG_ok (X := (y.blk scope s0 H0 C cl fp).cx)).run pins s σ H v u Q I r (hw s0 H0 C cl fp)⟩)
    (fun s0 H0 C cl fp => ⟨fun pins s σ H Q I hw => (wTs_ok (X := (y.blk scope s0 H0 C cl fp).cx)).run pins s σ H Q I (hw s0 H0 C cl fp)⟩)
    (fun s0 H0 C cl fp => ⟨fun pins s σ H Q I hw => (wE_ok (X := (y.blk scope s0 H0 C cl fp).cx)).run pins s σ H Q I (hw s0 H0 C cl fp)⟩) (hf y.env),
    lc_read h y σ H ad he hs Q q⟩
theorem ts_nil {B : Bool → List MO → Prop} (h : B true M) : EvTs c δ M [] B := fun y σ H ad he hs Q q => ⟨_, pts_nil, q true H ad M Nx.refl hs h⟩
theorem ts_one {B : Bool → List MO → Prop} (h : EvT c δ M t B) : EvTs c δ M [t] B := fun y σ H ad he hs Q q => ⟨_, pts_one wT_ok, h y σ H ad he hs Q q⟩
/-- a plain comprehension: nothing of the store changes -/
theorem f_lcP {α : Type} (own : List (Str × Nat)) (f : α → D) (pr : α → Bool) (ok : BlkOk c.N c.sc scope own) (hN : c.N.Nodup)
    (h : EvI c δ M tg iter fun ds src M1 => ∃ (xs : List α) (g : α → D), ds = xs.map g ∧ xs.length ≤ 1000000 ∧ (∀ j, src = some j → M1[j]? = some (.lst ds)) ∧
      (∀ x, x ∈ xs → LcTurn (c.blk scope) (wipeD δ (own.map (·.2))) tg elt ifs (own.map (·.2)) (g x) M1 (fun d' M4 => pr x = true ∧ d' = f x ∧ M4 = M1) (fun M3 => pr x = false ∧ M3 = M1)) ∧ Pf ((xs.filter pr).map f) M1)
    (hf : ∀ env x, foldedSetIterable iter env x = pure x) : EvF c δ M (.ListComp elt [⟨tg, iter, ifs, 0⟩] scope pos) Pf := by
  refine f_lc own ok hN (fun y σ H ad he hs R q => h y σ H ad he hs R fun J H1 ad1 ds src M1 n1 s1 w hP => q J H1 ad1 ds src M1 n1 s1 w ?_) hf
  obtain ⟨xs, g, e, hl, hk, ht, hd⟩ := hP
  subst e
  refine ⟨by rw [List.length_map]; exact hl, fun i acc M2 => M2 = M1 ∧ acc = ((xs.take i).filter pr).map f, ⟨rfl, rfl⟩, fun i acc M2 hI => by rw [hI.1]; exact hk, fun i d acc M2 hi hI => ?_, fun acc M2 hI => ?_⟩
  · obtain ⟨rfl, rfl⟩ := hI
    have hl2 := (List.getElem?_eq_some_iff.mp hi).1
    rw [List.length_map] at hl2
    rw [List.getElem?_map, List.getElem?_eq_getElem hl2] at hi
    have ed : g xs[i] = d := Option.some.inj hi
    subst ed
    have et : xs.take (i + 1) = xs.take i ++ [xs[i]] := by rw [List.take_succ, List.getElem?_eq_getElem hl2]; rfl
    obtain ⟨is, his, ht'⟩ := ht xs[i] (List.getElem_mem hl2)
    refine ⟨is, his, fun y σ H ad v he r Q q => ?_⟩
    refine ht' y σ H ad v he r Q fun σ2 δ2 e2 w2 pT => q σ2 δ2 e2 w2 fun y2 σ3 H3 ad3 he3 hs3 Q3 q3 => pT y2 σ3 H3 ad3 he3 hs3 Q3 fun b H4 ad4 M4 n4 s4 pB => q3 b H4 ad4 M4 n4 s4 ⟨fun hb => (pB.1 hb).imp ?_, fun hb => ?_⟩
    · rintro a M5 ⟨d', ea, h1, h2, h3⟩
      refine ⟨d', ea, h3, ?_⟩
      rw [et, List.filter_append, List.map_append, List.filter_cons, if_pos h1, h2]
      rfl
    · obtain ⟨h1, h3⟩ := pB.2 hb
      refine ⟨h3, ?_⟩
      rw [et, List.filter_append, List.map_append, List.filter_cons, if_neg (by rw [h1]; decide)]
      show _ = _ ++ []
      rw [List.append_nil]
  · obtain ⟨rfl, rfl⟩ := hI
    rw [List.length_map, List.take_length]
    exact hd

/-! ### statements -/
theorem r_nil {D : AE} (h : D.nx δ M) : Run c δ M [] D := fun y σ H ad he hs E q => ⟨_, pss_nil, q.nx σ H ad δ M Nx.refl he hs h⟩
theorem r_cons {D : AE} {st : Stmt} {sts : List Stmt} (h : Run1 c δ M st { D with nx := fun δ2 M2 => Run c δ2 M2 sts D }) : Run c δ M (st :: sts) D := fun y σ H ad he hs E q =>
  ⟨_, pss_cons wS_ok wSs_ok, h y σ H ad he hs _ ⟨fun σ2 H2 ad2 δ2 M2 n e s p => p y σ2 H2 ad2 e s E (q.on n), q.rt, q.bk, q.ct⟩⟩
theorem r_one {D : AE} {st : Stmt} (h : Run1 c δ M st D) : Run c δ M [st] D := fun y σ H ad he hs E q => ⟨_, pss_one wS_ok, h y σ H ad he hs E q⟩
theorem s_ret {D : AE} (h : EvX c δ M e D.rt) : Run1 c δ M (.Return (some e) pos) D := fun y σ H ad he hs E q =>
  ⟨_, ps_ret wE_ok, h y σ H ad he hs _ fun v H2 ad2 a M2 n s r p => q.rt v H2 ad2 a M2 n s r p⟩
theorem s_if {D : AE} {b1 b2 : List Stmt} (h : EvT c δ M t fun k M1 => (k = true → Run c δ M1 b1 D) ∧ (k = false → Run c δ M1 b2 D)) : Run1 c δ M (.If t b1 b2 pos) D := fun y σ H ad he hs E q =>
  ⟨_, ps_if wT_ok wSs_ok wSs_ok, h y σ H ad he hs _ fun k H1 ad1 M1 n1 s1 p1 => by
    cases k with
    | true => exact iteT (p1.1 rfl y σ H1 ad1 (he.nx n1) s1 E (q.on n1))
    | false => exact iteF (p1.2 rfl y σ H1 ad1 (he.nx n1) s1 E (q.on n1))⟩
theorem s_expr {D : AE} (h : EvX c δ M e fun _ M1 => D.nx δ M1) (hs1 : ∀ env, swapsWith e none pos.line env = pure false) : Run1 c δ M (.Expr e pos) D := fun y σ H ad he hs E q =>
  ⟨_, ps_expr wE_ok (hs1 y.env), h y σ H ad he hs _ fun v H2 ad2 a M2 n s r p => q.nx σ H2 ad2 δ M2 n (he.nx n) s p⟩
theorem s_set {D : AE} (i : Nat) (hi : c.N[i]? = some x) (hN : c.N.Nodup) (hx : Loc c.sc x) (hf : c.fn x = true ∨ c.sc.names.lookup x = some .local) (h : EvX c δ M e fun a M1 => D.nx (δ.set i (some a)) M1)
    (hs1 : ∀ env, swapsWith e (some (.Name x p)) pos.line env = pure false) : Run1 c δ M (.Assign [.Name x p] e pos) D := fun y σ H ad he hs E q =>
  ⟨_, ps_set (X := y.cx) hN hi (by show Loc y.env.scope x; rw [y.sc]; exact hx) wE_ok (hs1 y.env) (by show c.fn x = true ∨ y.env.scope.names.lookup x = some .local; rw [y.sc]; exact hf),
    h y σ H ad he hs _ fun v H2 ad2 a M2 n s r p => q.nx _ H2 ad2 _ M2 n ((he.nx n).set r) s p⟩
theorem push_nx {ad ad2 : List Addr} {H H2 : Hp} {q : Addr} (n : Nx ad H ad2 H2) (hq : H q = none) (hn : q ∉ ad2) : Nx ad H (ad2 ++ [q]) H2 := by
  refine ⟨?_, fun a ha hna => ?_, n.keep, n.tx⟩
  · obtain ⟨t, e⟩ := n.pre
    exact ⟨t ++ [q], by rw [e, List.append_assoc]⟩
  · rcases List.mem_append.mp ha with z | z
    · exact n.fresh a z hna
    · rw [List.mem_singleton.mp z]
      exact hq
/-- x = a new list that will be changed: it goes into the store -/
theorem s_new {D : AE} (i : Nat) (hi : c.N[i]? = some x) (hN : c.N.Nodup) (hx : Loc c.sc x) (hf : c.fn x = true ∨ c.sc.names.lookup x = some .local) (h : EvF c δ M e fun ds M1 => D.nx (δ.set i (some (.mut M1.length))) (M1 ++ [.lst ds]))
    (hs1 : ∀ env, swapsWith e (some (.Name x p)) pos.line env = pure false) : Run1 c δ M (.Assign [.Name x p] e pos) D := fun y σ H ad he hs E q =>
  ⟨_, ps_set (X := y.cx) hN hi (by show Loc y.env.scope x; rw [y.sc]; exact hx) wE_ok (hs1 y.env) (by show c.fn x = true ∨ y.env.scope.names.lookup x = some .local; rw [y.sc]; exact hf),
    h y σ H ad he hs _ fun pq xs H2 ad2 ds M2 n s f1 f2 f3 f4 z => by
      have n2 := push_nx n f1 f2
      exact q.nx _ H2 (ad2 ++ [pq]) _ _ n2 ((he.nx n2).set (show RepA _ _ _ (.mut M2.length) _ from ⟨pq, by rw [← s.len, List.getElem?_append_right (Nat.le_refl _), Nat.sub_self]; rfl, rfl⟩)) (s.push (m := .lst ds) f2 ⟨xs, f3, f4⟩) z⟩
/-- x = [..]: the comprehension writes x itself -/
theorem s_setLc {D : AE} (own : List (Str × Nat)) (i : Nat) (hi : c.N[i]? = some x) (hxl : c.sc.names.lookup x = some .local) (hsw : ∀ env : Env, env.scope = c.sc → swapsWith (.ListComp elt [⟨tg, iter, ifs, 0⟩] scope pos) (some (.Name x p)) p1.line env = pure true)
    (ok : BlkOk c.N c.sc scope own) (hN : c.N.Nodup) (hf : ∀ env x, foldedSetIterable iter env x = pure x)
    (h : EvI c δ M tg iter fun ds src M1 => ds.length ≤ 1000000 ∧ ∃ I : Nat → List Fx.D → List MO → Prop, I 0 [] M1 ∧ (∀ i acc M2, I i acc M2 → ∀ j, src = some j → M2[j]? = some (.lst ds)) ∧
      (∀ i d acc M2, ds[i]? = some d → I i acc M2 → LcTurn (c.blk scope) (wipeD δ (own.map (·.2))) tg elt ifs (own.map (·.2)) d M2 (fun d' M4 => I (i + 1) (acc ++ [d']) M4) (fun M3 => I (i + 1) acc M3)) ∧ ∀ acc M2, I ds.length acc M2 → Pf acc M2)
    (k : (∀ ds M2, Pf ds M2 → D.nx (δ.set i (some (.ls ds))) M2) ∨ ∀ ds M2, Pf ds M2 → D.nx (δ.set i (some (.mut M2.length))) (M2 ++ [.lst ds])) :
    Run1 c δ M (.Assign [.Name x p] (.ListComp elt [⟨tg, iter, ifs, 0⟩] scope pos) p1) D := fun y σ H ad he hs E q =>
  ⟨_, ps_setLc (X := y.cx) (own := own) (wi := wI y.cx tg iter) (g := fun v σ H Q => ∀ s0 H0 C cl fp, wG (y.blk scope s0 H0 C cl fp).cx tg v σ H Q) (tt := fun σ H Q => ∀ s0 H0 C cl fp, wTs (y.blk scope s0 H0 C cl fp).cx ifs σ H Q)
    (te := fun σ H Q => ∀ s0 H0 C cl fp, wE (y.blk scope s0 H0 C cl fp).cx elt σ H Q) rfl hN hi (by show y.env.scope.names.lookup x = some .local; rw [y.sc]; exact hxl) (hsw y.env y.sc) wI_ok (by show BlkOk c.N y.env.scope scope own; rw [y.sc]; exact ok)
    (fun s0 H0 C cl fp => ⟨fun pins s σ H v u Q I r hw => (wG_ok (X := (y.blk scope s0 H0 C cl fp).cx)).run pins s σ H v u Q I r (hw s0 H0 C cl fp)⟩)
    (fun s0 H0 C cl fp => ⟨fun pins s σ H Q I hw => (wTs_ok (X := (y.blk scope s0 H0 C cl fp).cx)).run pins s σ H Q I (hw s0 H0 C cl fp)⟩)
    (fun s0 H0 C cl fp => ⟨fun pins s σ H Q I hw => (wE_ok (X := (y.blk scope s0 H0 C cl fp).cx)).run pins s σ H Q I (hw s0 H0 C cl fp)⟩) (hf y.env),
    lc_read h y σ H ad he hs _ fun pq xs H2 ad2 ds M2 n s f1 f2 f3 f4 z => by
      rcases k with k | k
      · exact q.nx _ H2 ad2 _ M2 n ((he.nx n).set (show RepA _ _ _ (.ls ds) _ from ⟨pq, xs, rfl, ⟨f3, f2⟩, f4⟩)) s (k ds M2 z)
      · have n2 := push_nx n f1 f2
        exact q.nx _ H2 (ad2 ++ [pq]) _ _ n2 ((he.nx n2).set (show RepA _ _ _ (.mut M2.length) _ from ⟨pq, by rw [← s.len, List.getElem?_append_right (Nat.le_refl _), Nat.sub_self]; rfl, rfl⟩)) (s.push (m := .lst ds) f2 ⟨xs, f3, f4⟩) (k ds M2 z)⟩
theorem s_asg {D : AE} (h : EvX c δ M e fun a M1 => EvGx c δ tg a fun δ2 => D.nx δ2 M1) (hs1 : ∀ env, swapsWithSole [tg] e pos.line env = pure false) (hw : ∀ env, swappedStores [tg] e env = pure none)
    (h1 : ∀ env, (assignEach [tg] env).map (·.2) = [assign tg env]) : Run1 c δ M (.Assign [tg] e pos) D := fun y σ H ad he hs E q =>
  ⟨_, ps_asg wE_ok wG_ok (hs1 y.env) (hw y.env) (h1 y.env), h y σ H ad he hs _ fun v H2 ad2 a M2 n s r ⟨_, p⟩ => p y σ H2 ad2 v (he.nx n) r _ fun σ2 δ2 e2 _ p2 => q.nx σ2 H2 ad2 δ2 M2 n e2 s p2⟩
/-- a, b = x, y -/
theorem s_par {D : AE} {x2 : Str} {px py pt pt2 : Pos} {kt k2 : Nat} (i j : Nat) (hi : c.N[i]? = some x) (hj : c.N[j]? = some x2) (hN : c.N.Nodup) (hij : i ≠ j) (hx : c.sc.names.lookup x = some .local) (hy : c.sc.names.lookup x2 = some .local)
    (h : EvA c δ M [a, b] fun as M1 => ∃ v w, as = [v, w] ∧ D.nx ((δ.set i (some v)).set j (some w)) M1)
    (hw : ∀ env : Env, env.scope = c.sc → swappedStores [.Tuple [.Name x px, .Name x2 py] kt pt] (.Tuple [a, b] k2 pt2) env = pure (some [x, x2]))
    (hs1 : ∀ env, swapsWithSole [.Tuple [.Name x px, .Name x2 py] kt pt] (.Tuple [a, b] k2 pt2) pos.line env = pure false) :
    Run1 c δ M (.Assign [.Tuple [.Name x px, .Name x2 py] kt pt] (.Tuple [a, b] k2 pt2) pos) D := fun y σ H ad he hs E q =>
  ⟨_, ps_par (X := y.cx) rfl hN hi hj hij (by show y.env.scope.names.lookup x = some .local; rw [y.sc]; exact hx) (by show y.env.scope.names.lookup x2 = some .local; rw [y.sc]; exact hy) wA_ok (hw y.env y.sc) (hs1 y.env),
    h y σ H ad he hs _ fun vs H2 ad2 as M2 n s r ⟨v, w, e, p⟩ => by
      subst e
      obtain ⟨v1, w1, e1, r1, r2⟩ := repAs2 r
      exact ⟨v1, w1, e1, q.nx _ H2 ad2 _ M2 n (((he.nx n).set r1).set r2) s p⟩⟩
/-- a list of the store changes at its place -/
def ipR (X : Cx) (op : Operator) : TIp := fun x y H Q => ∃ t, PIp X op t ∧ t x y H Q
/-- x op= e -/
theorem s_aug {D : AE} {op : Operator} {v : AV} (i : Nat) (hi : c.N[i]? = some x) (hN : c.N.Nodup) (hx : Loc c.sc x) (hf : c.fn x = true ∨ c.sc.names.lookup x = some .local) (hv : δ[i]? = some (some v))
    (h : EvX c δ M e fun a M1 => BinR c (inplaceOp op) v a M1 fun r M2 => D.nx (δ.set i (some r)) M2) : Run1 c δ M (.AugAssign (.Name x p) op e pos) D := fun y σ H ad he hs E q => by
  obtain ⟨w, hw, rw'⟩ := he.at_ i v hv
  refine ⟨_, ps_aug (X := y.cx) (ti := wO y.cx (inplaceOp op)) hN hi (by show Loc y.env.scope x; rw [y.sc]; exact hx) wE_ok (fun pins s σ H x y v u Q I r1 r2 ⟨t, ht, hq⟩ => ht pins s σ H x y v u Q I r1 r2 hq) (by show c.fn x = true ∨ y.env.scope.names.lookup x = some .local; rw [y.sc]; exact hf), w, hw, ?_⟩
  exact h y σ H ad he hs _ fun u H1 ad1 a M1 n1 s1 r1 p1 => p1 y H1 ad1 s1 w u (rw'.nx n1) r1 _ fun z H2 ad2 a2 M2 n2 s2 r2 p2 => q.nx _ H2 ad2 _ M2 (n1.trans n2) ((he.nx (n1.trans n2)).set r2) s2 p2
/-- for -/
theorem s_for {D : AE} {body : List Stmt} (h : EvI c δ M tg iter fun ds src M1 => ∃ I : Nat → Dl → List MO → Prop, I 0 δ M1 ∧ (∀ i δ2 M2, I i δ2 M2 → ∀ j, src = some j → M2[j]? = some (.lst ds)) ∧
      (∀ i d δ2 M2, ds[i]? = some d → I i δ2 M2 → EvGx c δ2 tg (.dat d) fun δ3 => Run c δ3 M2 body { D with nx := I (i + 1), ct := I (i + 1), bk := D.nx }) ∧ ∀ δ2 M2, I ds.length δ2 M2 → D.nx δ2 M2)
    (hf : ∀ env x, foldedSetIterable iter env x = pure x) : Run1 c δ M (.For tg iter body [] pos) D := fun y σ H ad he hs E q =>
  ⟨_, ps_for (X := y.cx) y.pass rfl wI_ok wG_ok wSs_ok (hf y.env), h y σ H ad he hs _ fun J H1 ad1 ds src M1 n1 s1 w ⟨I, i0, ik, it, idn⟩ => by
    refine ⟨fun i m σ' H' => m = ds.length - i ∧ i ≤ ds.length ∧ ∃ ad' M' δ', Nx ad1 H1 ad' H' ∧ StOk c.K ad' H' M' ∧ EnvOk c.K ad' H' σ' δ' ∧ I i δ' M', ⟨ds.length, by omega, Nat.zero_le _, ad1, M1, δ, Nx.refl, s1, he.nx n1, i0⟩, ?_⟩
    rintro i m σ' H' ⟨rfl, hi, ad', M', δ', n', s', e', inv⟩
    obtain ⟨hgo, hstop⟩ := w ad' H' M' n' s' (ik i δ' M' inv) i
    by_cases hlt : i < ds.length
    · obtain ⟨go, yl⟩ := hgo ds[i] (List.getElem?_eq_getElem hlt)
      refine .inr ⟨go, fun σ2 H2 => i + 1 ≤ ds.length ∧ ∃ ad' M' δ', Nx ad1 H1 ad' H2 ∧ StOk c.K ad' H2 M' ∧ EnvOk c.K ad' H2 σ2 δ' ∧ I (i + 1) δ' M', fun σ2 H2 hq => ⟨ds.length - (i + 1), by omega, rfl, hq⟩, fun x H3 hy => ?_⟩
      obtain ⟨sm, rx⟩ := yl x H3 hy
      have n3 : Nx ad1 H1 ad' H3 := n'.trans (Nx.same sm)
      obtain ⟨is, it'⟩ := it i ds[i] δ' M' (List.getElem?_eq_getElem hlt) inv
      refine it' y σ' H3 ad' x (e'.nx (Nx.same sm)) rx _ fun σ2 δ2 e2 _ p2 => ?_
      refine p2 y σ2 H3 ad' e2 (s'.same sm) _ ⟨fun σ4 H4 ad4 δ4 M4 n4 e4 s4 p4 => ⟨hlt, ad4, M4, δ4, n3.trans n4, s4, e4, p4⟩, fun v H4 ad4 a M4 n4 s4 r4 p4 => q.rt v H4 ad4 a M4 (n1.trans (n3.trans n4)) s4 r4 p4,
        fun σ4 H4 ad4 δ4 M4 n4 e4 s4 p4 => q.nx σ4 H4 ad4 δ4 M4 (n1.trans (n3.trans n4)) e4 s4 p4, fun σ4 H4 ad4 δ4 M4 n4 e4 s4 p4 => ⟨hlt, ad4, M4, δ4, n3.trans n4, s4, e4, p4⟩⟩
    · have ei : i = ds.length := by omega
      subst ei
      exact .inl ⟨hstop rfl, q.nx σ' H' ad' δ' M' (n1.trans n') e' s' (idn δ' M' inv)⟩⟩
/-- while -/
theorem s_while {D : AE} {body : List Stmt} (I : Nat → Dl → List MO → Prop) (n0 : Nat) (h0 : I n0 δ M)
    (h : ∀ n δ2 M2, I n δ2 M2 → EvT c δ2 M2 t fun k M3 => (k = true → Run c δ2 M3 body { D with nx := fun δ4 M4 => ∃ m, m < n ∧ I m δ4 M4, ct := fun δ4 M4 => ∃ m, m < n ∧ I m δ4 M4, bk := D.nx }) ∧ (k = false → D.nx δ2 M3)) :
    Run1 c δ M (.While t body [] pos) D := fun y σ H ad he hs E q => by
  refine ⟨_, ps_while (X := y.cx) y.pass wT_ok wSs_ok, fun m σ' H' => ∃ ad' M' δ', Nx ad H ad' H' ∧ StOk c.K ad' H' M' ∧ EnvOk c.K ad' H' σ' δ' ∧ I m δ' M', ⟨n0, ad, M, δ, Nx.refl, hs, he, h0⟩, ?_⟩
  rintro m σ' H' ⟨ad', M', δ', n', s', e', inv⟩
  refine h m δ' M' inv y σ' H' ad' e' s' _ fun b H1 ad1 M1 n1 s1 p1 => ?_
  cases b with
  | true =>
    refine iteT ⟨fun σ2 H2 => ∃ k, k < m ∧ ∃ ad' M' δ', Nx ad H ad' H2 ∧ StOk c.K ad' H2 M' ∧ EnvOk c.K ad' H2 σ2 δ' ∧ I k δ' M', fun σ2 H2 hq => hq, ?_⟩
    refine p1.1 rfl y σ' H1 ad1 (e'.nx n1) s1 _ ⟨fun σ4 H4 ad4 δ4 M4 n4 e4 s4 ⟨k, hk, p4⟩ => ⟨k, hk, ad4, M4, δ4, (n'.trans n1).trans n4, s4, e4, p4⟩, fun v H4 ad4 a M4 n4 s4 r4 p4 => q.rt v H4 ad4 a M4 ((n'.trans n1).trans n4) s4 r4 p4,
      fun σ4 H4 ad4 δ4 M4 n4 e4 s4 p4 => q.nx σ4 H4 ad4 δ4 M4 ((n'.trans n1).trans n4) e4 s4 p4, fun σ4 H4 ad4 δ4 M4 n4 e4 s4 ⟨k, hk, p4⟩ => ⟨k, hk, ad4, M4, δ4, (n'.trans n1).trans n4, s4, e4, p4⟩⟩
  | false => exact iteF (q.nx σ' H1 ad1 δ' M1 (n'.trans n1) (e'.nx n1) s1 (p1.2 rfl))
theorem s_cont {D : AE} (h : D.ct δ M) : Run1 c δ M (.Continue pos) D := fun y σ H ad he hs E q => ⟨_, ps_continue, q.ct σ H ad δ M Nx.refl he hs h⟩
end
end Fx

/-! Fx, part D: defs and their calls, built-in calls, lists of the store. -/
namespace Fx
open PySem L2

/-! ### a def of the text keeps its promise -/
structure DefOk (P : Program) (w : World) (K : PySem.W.Frag) (mg : Str → Option Value) (base : Heap) (k : Nat) (x : Str) (st : Stmt) (ps : List Str) (sp : Sp) : Prop where
  ex : ∃ fa fd, mg x = some (.ref fa) ∧ Fun K x x st fa fd ∧ Binds K fd ps [] ∧ FnOk P w K mg base CX0 k fa fd ps sp
section
variable {P : Program} {w : World} {K : PySem.W.Frag} {mg : Str → Option Value} {base : Heap} {k : Nat} {x : Str} {st : Stmt} {ps N : List Str}
@[reducible] def scOf (P : Program) (w : World) (K : PySem.W.Frag) (mg : Str → Option Value) (base : Heap) (N : List Str) (st : Stmt) (k : Nat) : SC := { P := P, w := w, K := K, mg := mg, base := base, N := N, sc := defScope st, fn := fun _ => true, k := k }
/-- what is handed back, the def's own objects forgotten -/
def Fin (M : List MO) (Post : AQ) : AQ := fun a M2 => Post a M2 ∨ ∃ rest, M2 = M ++ rest ∧
  ((∃ d, a = .dat d ∧ Post a M) ∨ (∃ ds, a = .ls ds ∧ Post a M) ∨ (∃ j ds, a = .mut j ∧ M.length ≤ j ∧ M2[j]? = some (.lst ds) ∧ Post (.ls ds) M) ∨ ∃ ds, a = .tx ds ∧ Post a M)
theorem fin_same {M : List MO} {Post : AQ} {a : AV} {M2 : List MO} (h : Post a M2) : Fin M Post a M2 := .inl h
theorem fin_dat {M rest : List MO} {Post : AQ} {d : D} (h : Post (.dat d) M) : Fin M Post (.dat d) (M ++ rest) := .inr ⟨rest, rfl, .inl ⟨d, rfl, h⟩⟩
theorem fin_ls {M rest : List MO} {Post : AQ} {ds : List D} (h : Post (.ls ds) M) : Fin M Post (.ls ds) (M ++ rest) := .inr ⟨rest, rfl, .inr (.inl ⟨ds, rfl, h⟩)⟩
theorem fin_mut {M rest : List MO} {Post : AQ} {j : Nat} {ds : List D} (hj : M.length ≤ j) (hm : (M ++ rest)[j]? = some (.lst ds)) (h : Post (.ls ds) M) : Fin M Post (.mut j) (M ++ rest) := .inr ⟨rest, rfl, .inr (.inr (.inl ⟨j, ds, rfl, hj, hm, h⟩))⟩
theorem fin_tx {M rest : List MO} {Post : AQ} {ds : List D} (h : Post (.tx ds) M) : Fin M Post (.tx ds) (M ++ rest) := .inr ⟨rest, rfl, .inr (.inr (.inr ⟨ds, rfl, h⟩))⟩
theorem RepF.back {K : PySem.W.Frag} {ad t : List Addr} {H H2 : Hp} : ∀ {a : AV} {v u : V}, RepF K ad H a u → RepF K (ad ++ t) H2 a v → RepF K ad H2 a v
  | .dat _, _, _, _, h => h
  | .mut _, _, _, ⟨b, hb, _⟩, ⟨a, q, e⟩ => ⟨a, by
    rw [List.getElem?_append_left (List.getElem?_eq_some_iff.mp hb).1] at q
    exact q, e⟩
  | .ls _, _, _, _, h => h.elim
  | .la _, _, _, _, h => h.elim
  | .ta _, _, _, _, h => h.elim
  | .scr _, _, _, _, h => h.elim
  | .tx _, _, _, _, h => h.elim
  | .exc _ _, _, _, _, h => h.elim
  | .fn _, _, _, _, h => h.elim
theorem RepFs.back {K : PySem.W.Frag} {ad t : List Addr} {H H2 : Hp} : ∀ {a : List (Str × AV)} {v u : List (Str × V)}, RepFs K ad H a u → RepFs K (ad ++ t) H2 a v → RepFs K ad H2 a v
  | [], _, _, _, h => h
  | _ :: _, _, _, ⟨x, r, e, h1, h2⟩, ⟨x2, r2, e2, h3, h4⟩ => ⟨x2, r2, e2, RepF.back h1 h3, RepFs.back h2 h4⟩
theorem StOk.back {K : PySem.W.Frag} {ad t : List Addr} {H H2 : Hp} {M rest : List MO} (S : StOk K ad H M) (S2 : StOk K (ad ++ t) H2 (M ++ rest)) : StOk K ad H2 M := by
  refine ⟨S.nd, S.len, fun j m e => ?_⟩
  obtain ⟨a, ha, o⟩ := S.obj j m e
  obtain ⟨a2, ha2, o2⟩ := S2.obj j m (by rw [List.getElem?_append_left (List.getElem?_eq_some_iff.mp e).1]; exact e)
  have lt : ∀ {i : Nat} {b : Addr}, ad[i]? = some b → (ad ++ t)[i]? = some b := fun {i b} q => by
    rw [List.getElem?_append_left (List.getElem?_eq_some_iff.mp q).1]
    exact q
  rw [lt ha] at ha2
  cases ha2
  refine ⟨a, ha, ?_⟩
  cases m with
  | lst ds => exact o2
  | town i =>
    obtain ⟨c, b, hb, k⟩ := o2
    obtain ⟨c', b', hb', k'⟩ := o
    rw [lt hb'] at hb
    cases hb
    exact ⟨c, _, hb', k⟩
  | rests => exact o2
  | tab P q => exact o2
  | kd ks => exact o2
  | ins C fs =>
    obtain ⟨dx, xs, h1, h2⟩ := o2
    obtain ⟨dx', xs', h1', h2'⟩ := o
    exact ⟨dx, xs, h1, RepFs.back h2' h2⟩
theorem Nx.back {ad t : List Addr} {H H2 : Hp} (n : Nx ad H (ad ++ t) H2) : Nx ad H ad H2 := ⟨⟨[], by simp⟩, fun a h k => absurd h k, n.keep, n.tx⟩
theorem fn_mk {fa : Addr} {fd : FuncData} {ql : Str} {A : ASp} (F : Fun K x ql st fa fd) (S : FnScope N ps (defScope st))
    (h : ∀ as M Post, as.length = ps.length → A as M Post → Run (scOf P w K mg base N st k) (as.map some ++ List.replicate (N.length - as.length) none) M (defBody st) { nx := fun _ M2 => Fin M Post (.dat .non) M2, rt := Fin M Post }) :
    FnOk P w K mg base CX0 (k + 1) fa fd ps (spOf K ps.length A) := by
  refine F.ok S (fun vs H Q E h => h.1) (fun cdv A' outer s H vs Q E hr hsp => ?_)
  obtain ⟨hl, ad, as, M, Post, hs, hr2, hA, q⟩ := hsp
  have fin : ∀ v H2 ad2 a M2, Nx ad H ad2 H2 → StOk K ad2 H2 M2 → RepA K ad2 H2 a v → Fin M Post a M2 → Q v H2 := by
    intro v H2 ad2 a M2 n s2 r p
    rcases p with p | ⟨rest, rfl, p⟩
    · exact q v H2 ad2 a M2 n s2 r p
    · obtain ⟨t, rfl⟩ := n.pre
      have sb := hs.back s2
      rcases p with ⟨d, rfl, p⟩ | ⟨ds, rfl, p⟩ | ⟨j, ds, rfl, hj, hm, p⟩ | ⟨ds, rfl, p⟩
      · exact q v H2 ad (.dat d) M n.back sb r p
      · obtain ⟨b, xs, e, ⟨h1, h2⟩, h3⟩ := r
        exact q v H2 ad (.ls ds) M n.back sb ⟨b, xs, e, ⟨h1, fun z => h2 (List.mem_append_left _ z)⟩, h3⟩ p
      · obtain ⟨b, hb, e⟩ := r
        obtain ⟨b2, hb2, xs, h1, h3⟩ := s2.obj j _ hm
        rw [hb] at hb2
        cases hb2
        refine q v H2 ad (.ls ds) M n.back sb ⟨b, xs, e, ⟨h1, fun z => ?_⟩, h3⟩ p
        obtain ⟨i, hi⟩ := List.getElem?_of_mem z
        have hi2 := hi
        rw [← List.getElem?_append_left (l₂ := t) (List.getElem?_eq_some_iff.mp hi).1] at hi
        have := nd_ix s2.nd hi hb
        have h4 := (List.getElem?_eq_some_iff.mp hi2).1
        rw [hs.len] at h4
        omega
      · exact q v H2 ad (.tx ds) M n.back sb r p
  let env := PyProof.Rows.envOfC ql (defScope st) s.heap.objs.size fa cdv
  let y : Dyn (scOf P w K mg base N st k) := ⟨A'.deeper env, s, H, env, outer, env :: outer, [], [], fun _ _ => False, rfl, hr, PassesOwn.never, trivial⟩
  exact ⟨wSs y.cx (defBody st), wSs_ok, h as M Post (by rw [← repAs_length hr2]; exact hl) hA y _ H ad (envOk_start hr2) hs _
    ⟨fun _ H2 ad2 _ M2 n _ s2 p => fin _ H2 ad2 (.dat .non) M2 n s2 rfl p, fun v H2 ad2 a M2 n s2 r p => fin v H2 ad2 a M2 n s2 r p, fun _ _ _ _ _ _ _ _ z => z.elim, fun _ _ _ _ _ _ _ _ z => z.elim⟩⟩
end

/-! ### calls -/
section
variable {c : SC} {δ : Dl} {M : List MO} {Post : AQ} {a b e t : Expr} {es : List Expr} {pos p p1 p2 : Pos} {x : Str} {k : Nat} {st : Stmt} {ps : List Str} {Pf : List D → List MO → Prop}
theorem x_call {A : ASp} (F : DefOk c.P c.w c.K c.mg c.base k x st ps (spOf c.K ps.length A)) (hk : k ≤ c.k) (hg : c.gl x) (h : EvA c δ M (e :: es) fun as M1 => as.length = ps.length ∧ A as M1 Post)
    (hst : ∀ env, starEach (e :: es) env = (false, eval e env) :: starEach es env) (hpl : ∀ env, (backTo pos (starEach es env)).any (·.1) = false) (hdb : (x == ("__debug__" : Str)) = false := by decide) : EvX c δ M (.Call (.Name x p) (e :: es) [] pos) Post := fun y σ H ad he hs Q q => by
  obtain ⟨fa, fd, hm, F1, hb, ok⟩ := F.ex
  refine ⟨_, pe_call (X := y.cx) ok (y.room.mono hk) (glS y hg) hm F1.kp hb .nil pass0 wA_ok hdb (hst y.env) (hpl y.env), h y σ H ad he hs _ fun vs H1 ad1 as M1 n1 s1 r1 ⟨hl, hA⟩ => ?_⟩
  rw [List.append_nil]
  exact ⟨by rw [repAs_length r1]; exact hl, ad1, as, M1, Post, s1, r1, hA, fun v H2 ad2 a2 M2 n2 s2 r2 p2 => q v H2 ad2 a2 M2 (n1.trans n2) s2 r2 p2⟩
theorem x_call0 {A : ASp} (F : DefOk c.P c.w c.K c.mg c.base k x st [] (spOf c.K 0 A)) (hk : k ≤ c.k) (hg : c.gl x) (h : A [] M Post) (hdb : (x == ("__debug__" : Str)) = false := by decide) : EvX c δ M (.Call (.Name x p) [] [] pos) Post := fun y σ H ad he hs Q q => by
  obtain ⟨fa, fd, hm, F1, hb, ok⟩ := F.ex
  exact ⟨_, pe_call0 (X := y.cx) ok (y.room.mono hk) (glS y hg) hm F1.kp hb .nil pass0 hdb, rfl, ad, [], M, Post, hs, rfl, h, fun v H2 ad2 a2 M2 n2 s2 r2 p2 => q v H2 ad2 a2 M2 n2 s2 r2 p2⟩
/-- keywords: the positional ones, then the rest in the def's own order -/
def ordK (m n : Nat) {α : Type} (us ws : List α) : List α := if us.length = m ∧ ws.length = n then us ++ ws else []
theorem repAs_append {K : PySem.W.Frag} {ad : List Addr} {H : Hp} : ∀ {as bs : List AV} {vs us : List V}, RepAs K ad H as vs → RepAs K ad H bs us → RepAs K ad H (as ++ bs) (vs ++ us)
  | [], _, _, _, h, k => by rw [show _ = [] from h]; exact k
  | _ :: _, _, _, _, ⟨x, r, e, h1, h2⟩, k => by
    subst e
    exact ⟨x, _, rfl, h1, repAs_append h2 k⟩
theorem vals_append {xs ys : List V} {us ws : List Value} (a : Vals xs us) (b : Vals ys ws) : Vals (xs ++ ys) (us ++ ws) := a.append b
theorem x_callK {A : ASp} {kws : List Keyword} {m n : Nat} (ks : List Str) (F : DefOk c.P c.w c.K c.mg c.base k x st ps (spOf c.K ps.length A)) (hk : k ≤ c.k) (hg : c.gl x)
    (hB : ∀ (kV doc pm : Value) (an : Option Addr) (cdv ct : Value) (us ws : List Value), us.length = m → ws.length = n → bindArgs (PySem.W.fnOf x x (defArgs st) (defBody st) (defScope st) .none kV doc pm an cdv ct) ⟨us, ks.zip ws⟩ = pure (ps.zip (us ++ ws)))
    (hmn : ps.length = m + n) (hn0 : 0 < m + n)
    (h : EvA c δ M (e :: es) fun as M1 => EvK c δ M1 kws fun bs M2 => as.length = m ∧ bs.length = n ∧ A (as ++ bs) M2 Post)
    (hst : ∀ env, starEach (e :: es) env = (false, eval e env) :: starEach es env) (hall : ∀ env, (backToKw pos (keywordEach kws env)).all (·.1.isSome) = true) (hks : ∀ env, (backToKw pos (keywordEach kws env)).filterMap (·.1) = ks)
    (hpl : ∀ env, ((backTo pos (starEach (e :: es) env)).any (·.1) || (backToKw pos (keywordEach kws env)).any (·.1.isNone)) = false) (hdb : (x == ("__debug__" : Str)) = false := by decide) : EvX c δ M (.Call (.Name x p) (e :: es) kws pos) Post := fun y σ H ad he hs Q q => by
  obtain ⟨fa, fd, hm, F1, hb, ok⟩ := F.ex
  have kb : KBinds c.K fd ps ks (ordK m n) (ordK m n) := by
    obtain ⟨oc, od, kV, doc, pm, an, cdv, ct, osl, rfl, lk, hcd⟩ := F1.ex
    refine ⟨fun s us ws _ hl => ?_, fun {vs us zs ws} r1 r2 => ?_⟩
    · unfold ordK at hl ⊢
      by_cases hc : us.length = m ∧ ws.length = n
      · rw [if_pos hc]
        exact .of_eq (hB kV doc pm an cdv ct us ws hc.1 hc.2)
      · rw [if_neg hc] at hl
        have : ([] : List Value).length = 0 := rfl
        omega
    · unfold ordK
      rw [r1.length, r2.length]
      by_cases hc : us.length = m ∧ ws.length = n
      · rw [if_pos hc, if_pos hc]
        exact vals_append r1 r2
      · rw [if_neg hc, if_neg hc]
        exact .nil
  refine ⟨_, pe_callK (X := y.cx) (ks := ks) ok (y.room.mono hk) (glS y hg) hm F1.kp kb pass0 wA_ok wK_ok (hall y.env) (hks y.env) hdb (hst y.env) (hpl y.env), h y σ H ad he hs _ fun vs H1 ad1 as M1 n1 s1 r1 p1 => p1 y σ H1 ad1 (he.nx n1) s1 _ fun us H2 ad2 bs M2 n2 s2 r2 ⟨l1, l2, hA⟩ => ?_⟩
  have e1 : vs.length = m ∧ us.length = n := ⟨by rw [repAs_length r1]; exact l1, by rw [repAs_length r2]; exact l2⟩
  unfold ordK
  rw [if_pos e1]
  exact ⟨by rw [List.length_append, e1.1, e1.2, hmn], ad2, as ++ bs, M2, Post, s2, repAs_append (r1.nx n2) r2, hA, fun v H3 ad3 a3 M3 n3 s3 r3 p3 => q v H3 ad3 a3 M3 ((n1.trans n2).trans n3) s3 r3 p3⟩

/-! ### built-in calls -/
def wC (X : Cx) (fv : Value) : List V → Hp → VK → Prop := fun vs H Q => ∃ r, CallR X fv r ∧ r vs H Q
theorem wC_ok {X : Cx} {fv : Value} : CallR X fv (wC X fv) := fun pins s σ H xs us Q I r ⟨t, h, q⟩ => h pins s σ H xs us Q I r q
def CallA (c : SC) (fv : Value) (as : List AV) (M : List MO) (Post : AQ) : Prop :=
  ∀ (z : Dyn c) (H : Hp) (ad : List Addr), StOk c.K ad H M → ∀ vs, RepAs c.K ad H as vs → ∀ Q : VK,
    (∀ v H2 ad2 a M2, Nx ad H ad2 H2 → StOk c.K ad2 H2 M2 → RepA c.K ad2 H2 a v → Post a M2 → Q v H2) → wC z.cx fv vs H Q
def CallF (c : SC) (fv : Value) (as : List AV) (M : List MO) (Pf : List D → List MO → Prop) : Prop :=
  ∀ (z : Dyn c) (H : Hp) (ad : List Addr), StOk c.K ad H M → ∀ vs, RepAs c.K ad H as vs → ∀ Q : VK,
    (∀ p xs H2 ad2 ds M2, Nx ad H ad2 H2 → StOk c.K ad2 H2 M2 → H p = none → p ∉ ad2 → H2 p = some (.lst xs) → Reps c.K H2 ds xs → Pf ds M2 → Q (.ref p) H2) → wC z.cx fv vs H Q
variable {id T : String}
theorem x_blt (hg : c.gl x) (hm : c.mg x = none) (hv : bootBuiltins x = some (.builtin id)) (h : EvA c δ M (e :: es) fun as M1 => CallA c (.builtin id) as M1 Post)
    (hst : ∀ env, starEach (e :: es) env = (false, eval e env) :: starEach es env) (hpl : ∀ env, (backTo pos (starEach es env)).any (·.1) = false) (hn : x ≠ "__name__" := by decide) (hdb : (x == ("__debug__" : Str)) = false := by decide) : EvX c δ M (.Call (.Name x p) (e :: es) [] pos) Post := fun y σ H ad he hs Q q =>
  ⟨_, pe_callB (X := y.cx) wC_ok (glS y hg) hm hv wA_ok hn hdb (hst y.env) (hpl y.env), h y σ H ad he hs _ fun vs H1 ad1 as M1 n1 s1 r1 p1 => p1 y H1 ad1 s1 vs r1 Q fun v H2 ad2 a2 M2 n2 s2 r2 p2 => q v H2 ad2 a2 M2 (n1.trans n2) s2 r2 p2⟩
theorem f_blt (hg : c.gl x) (hm : c.mg x = none) (hv : bootBuiltins x = some (.builtin id)) (h : EvA c δ M (e :: es) fun as M1 => CallF c (.builtin id) as M1 Pf)
    (hst : ∀ env, starEach (e :: es) env = (false, eval e env) :: starEach es env) (hpl : ∀ env, (backTo pos (starEach es env)).any (·.1) = false) (hn : x ≠ "__name__" := by decide) (hdb : (x == ("__debug__" : Str)) = false := by decide) : EvF c δ M (.Call (.Name x p) (e :: es) [] pos) Pf := fun y σ H ad he hs Q q =>
  ⟨_, pe_callB (X := y.cx) wC_ok (glS y hg) hm hv wA_ok hn hdb (hst y.env) (hpl y.env), h y σ H ad he hs _ fun vs H1 ad1 as M1 n1 s1 r1 p1 => p1 y H1 ad1 s1 vs r1 Q fun pq xs H2 ad2 ds M2 n2 s2 f1 f2 f3 f4 z => q pq xs H2 ad2 ds M2 (n1.trans n2) s2 (free_back n1 s1 f1) f2 f3 f4 z⟩
theorem x_ty (hg : c.gl x) (hm : c.mg x = none) (hv : bootBuiltins x = some (.type T)) (h : EvA c δ M (e :: es) fun as M1 => CallA c (.type T) as M1 Post)
    (hst : ∀ env, starEach (e :: es) env = (false, eval e env) :: starEach es env) (hpl : ∀ env, (backTo pos (starEach es env)).any (·.1) = false) (hn : x ≠ "__name__" := by decide) (hdb : (x == ("__debug__" : Str)) = false := by decide) : EvX c δ M (.Call (.Name x p) (e :: es) [] pos) Post := fun y σ H ad he hs Q q =>
  ⟨_, pe_callTy (X := y.cx) wC_ok (glS y hg) hm hv wA_ok hn hdb (hst y.env) (hpl y.env), h y σ H ad he hs _ fun vs H1 ad1 as M1 n1 s1 r1 p1 => p1 y H1 ad1 s1 vs r1 Q fun v H2 ad2 a2 M2 n2 s2 r2 p2 => q v H2 ad2 a2 M2 (n1.trans n2) s2 r2 p2⟩
theorem f_ty (hg : c.gl x) (hm : c.mg x = none) (hv : bootBuiltins x = some (.type T)) (h : EvA c δ M (e :: es) fun as M1 => CallF c (.type T) as M1 Pf)
    (hst : ∀ env, starEach (e :: es) env = (false, eval e env) :: starEach es env) (hpl : ∀ env, (backTo pos (starEach es env)).any (·.1) = false) (hn : x ≠ "__name__" := by decide) (hdb : (x == ("__debug__" : Str)) = false := by decide) : EvF c δ M (.Call (.Name x p) (e :: es) [] pos) Pf := fun y σ H ad he hs Q q =>
  ⟨_, pe_callTy (X := y.cx) wC_ok (glS y hg) hm hv wA_ok hn hdb (hst y.env) (hpl y.env), h y σ H ad he hs _ fun vs H1 ad1 as M1 n1 s1 r1 p1 => p1 y H1 ad1 s1 vs r1 Q fun pq xs H2 ad2 ds M2 n2 s2 f1 f2 f3 f4 z => q pq xs H2 ad2 ds M2 (n1.trans n2) s2 (free_back n1 s1 f1) f2 f3 f4 z⟩

theorem ca_len {v : AV} {ds : List D} (hv : IsS M v ds) (h : Post (.dat (.int ds.length)) M) : CallA c (.builtin "len") [v] M Post := fun z H ad hs vs r Q q => by
  obtain ⟨u, rfl, ru⟩ := repAs1 r
  obtain ⟨pp, xs, rfl, hq, rr⟩ := hv.sq hs ru
  refine ⟨_, call_len_seq, pp, xs, rfl, hq, ?_⟩
  rw [rr.length]
  exact q _ H ad (.dat (.int ds.length)) M Nx.refl hs rfl h
theorem ca_lenS {s : Str} (hl : s.length ≤ 1000000) (h : Post (.dat (.int s.length)) M) : CallA c (.builtin "len") [.dat (.str s)] M Post := fun z H ad hs vs r Q q => by
  obtain ⟨u, rfl, ru⟩ := repAs1 r
  rw [show u = .str s from ru]
  exact ⟨_, call_len_str, s, rfl, Nat.le_trans hl (by decide), q _ H ad (.dat (.int s.length)) M Nx.refl hs rfl h⟩
theorem ca_sum {v : AV} {ns : List Int} (hv : IsL M v (ns.map .int)) (h : Post (.dat (.int ns.sum)) M) : CallA c (.builtin "sum") [v] M Post := fun z H ad hs vs r Q q => by
  obtain ⟨u, rfl, ru⟩ := repAs1 r
  obtain ⟨pp, xs, rfl, hq, rr⟩ := hv.sq hs ru
  rw [reps_ints.mp rr] at hq
  exact ⟨_, cr_sum rfl, pp, ns, rfl, hq, q _ H ad (.dat (.int ns.sum)) M Nx.refl hs rfl h⟩
theorem ca_max {v : AV} {ns : List Int} (hv : IsL M v (ns.map .int)) (hl : 0 < ns.length) (h : ∀ m, m ∈ ns → (∀ y, y ∈ ns → y ≤ m) → Post (.dat (.int m)) M) : CallA c (.builtin "max") [v] M Post := fun z H ad hs vs r Q q => by
  obtain ⟨u, rfl, ru⟩ := repAs1 r
  obtain ⟨pp, xs, rfl, hq, rr⟩ := hv.sq hs ru
  rw [reps_ints.mp rr] at hq
  exact ⟨_, cr_max rfl, pp, ns, rfl, hq, hl, fun m h1 h2 => q _ H ad (.dat (.int m)) M Nx.refl hs rfl (h m h1 h2)⟩
theorem ca_min {v : AV} {ns : List Int} (hv : IsL M v (ns.map .int)) (hl : 0 < ns.length) (h : ∀ m, m ∈ ns → (∀ y, y ∈ ns → m ≤ y) → Post (.dat (.int m)) M) : CallA c (.builtin "min") [v] M Post := fun z H ad hs vs r Q q => by
  obtain ⟨u, rfl, ru⟩ := repAs1 r
  obtain ⟨pp, xs, rfl, hq, rr⟩ := hv.sq hs ru
  rw [reps_ints.mp rr] at hq
  exact ⟨_, cr_min rfl, pp, ns, rfl, hq, hl, fun m h1 h2 => q _ H ad (.dat (.int m)) M Nx.refl hs rfl (h m h1 h2)⟩
theorem ca_max2 {i j : Int} (h : Post (.dat (.int (if j > i then j else i))) M) : CallA c (.builtin "max") [.dat (.int i), .dat (.int j)] M Post := fun z H ad hs vs r Q q => by
  obtain ⟨u, w, rfl, ru, rw'⟩ := repAs2 r
  rw [show u = .int i from ru, show w = .int j from rw']
  exact ⟨_, call_max2 rfl, i, j, rfl, q _ H ad (.dat (.int _)) M Nx.refl hs rfl h⟩
theorem ca_min2 {i j : Int} (h : Post (.dat (.int (if j < i then j else i))) M) : CallA c (.builtin "min") [.dat (.int i), .dat (.int j)] M Post := fun z H ad hs vs r Q q => by
  obtain ⟨u, w, rfl, ru, rw'⟩ := repAs2 r
  rw [show u = .int i from ru, show w = .int j from rw']
  exact ⟨_, call_min2 rfl, i, j, rfl, q _ H ad (.dat (.int _)) M Nx.refl hs rfl h⟩
theorem ca_all {v : AV} {bs : List Bool} (hv : IsL M v (bs.map .bl)) (h : Post (.dat (.bl (bs.all (fun b => b)))) M) : CallA c (.builtin "all") [v] M Post := fun z H ad hs vs r Q q => by
  obtain ⟨u, rfl, ru⟩ := repAs1 r
  obtain ⟨pp, xs, rfl, hq, rr⟩ := hv.sq hs ru
  rw [reps_bls.mp rr] at hq
  exact ⟨_, cr_all rfl, pp, bs, rfl, hq, q _ H ad (.dat (.bl (bs.all (fun b => b)))) M Nx.refl hs rfl h⟩
theorem cf_sorted {v : AV} {ns : List Int} (hv : IsL M v (ns.map .int)) (hl : ns.length < 64) (h : ∀ ns' : List Int, ns'.Perm ns → ns'.Pairwise (· ≤ ·) → Pf (ns'.map .int) M) : CallF c (.builtin "sorted") [v] M Pf := fun z H ad hs vs r Q q => by
  obtain ⟨u, rfl, ru⟩ := repAs1 r
  obtain ⟨pp, xs, rfl, hq, rr⟩ := hv.sq hs ru
  rw [reps_ints.mp rr] at hq
  refine ⟨_, cr_sorted, pp, ns, rfl, hq, hl, fun ns' q' h1 h2 hn => ?_⟩
  have sm := same_new (o := .lst (ns'.map V.int)) hn
  exact q q' _ _ ad (ns'.map .int) M (Nx.same sm) (hs.same sm) hn (hs.free hn) upd_same (reps_ints.mpr rfl) (h ns' h1 h2)
theorem ca_tuple {v : AV} {ds : List D} (hv : IsS M v ds) (h : Post (.dat (.tup ds)) M) : CallA c (.type "tuple") [v] M Post := fun z H ad hs vs r Q q => by
  obtain ⟨u, rfl, ru⟩ := repAs1 r
  obtain ⟨pp, xs, rfl, hq, rr⟩ := hv.sq hs ru
  refine ⟨_, call_tuple_of, pp, xs, rfl, ?_⟩
  rcases hq with hq | hq
  · refine .inl ⟨hq, fun l hn => ?_⟩
    have sm := same_new (o := .tup xs) hn
    exact q _ _ ad (.dat (.tup ds)) M (Nx.same sm) (hs.same sm) ⟨l, xs, rfl, .inl (.inl upd_same), rr.tx (Tx.same sm)⟩ h
  · exact .inr ⟨hq, q _ H ad (.dat (.tup ds)) M Nx.refl hs ⟨pp, xs, rfl, hq, rr⟩ h⟩
theorem cf_list {v : AV} {ds : List D} (hv : IsS M v ds) (h : Pf ds M) : CallF c (.type "list") [v] M Pf := fun z H ad hs vs r Q q => by
  obtain ⟨u, rfl, ru⟩ := repAs1 r
  obtain ⟨pp, xs, rfl, hq, rr⟩ := hv.sq hs ru
  refine ⟨_, call_list_of, pp, xs, rfl, hq, fun l hn => ?_⟩
  have sm := same_new (o := .lst xs) hn
  exact q l xs _ ad ds M (Nx.same sm) (hs.same sm) hn (hs.free hn) upd_same (rr.tx (Tx.same sm)) h
/-- list(range(..)), tuple(range(..)) -/
def EvR (c : SC) (δ : Dl) (M : List MO) (e : Expr) (Pr : Int → Int → List MO → Prop) : Prop :=
  ∀ (y : Dyn c) (σ : L2.St) (H : Hp) (ad : List Addr), EnvOk c.K ad H σ δ → StOk c.K ad H M → ∀ Q : Int → Int → Hp → Prop,
    (∀ lo hi H2 ad2 M2, Nx ad H ad2 H2 → StOk c.K ad2 H2 M2 → Pr lo hi M2 → Q lo hi H2) → ∃ t, PRg y.cx e t ∧ t σ H Q
theorem rg_1 {Pr : Int → Int → List MO → Prop} (hm : c.mg "range" = none) (hg : c.gl "range") (h : EvX c δ M a fun v M1 => ∃ n, v = .dat (.int n) ∧ Pr 0 n M1) (hst : ∀ env, starEach [a] env = (false, eval a env) :: starEach [] env) : EvR c δ M (.Call (.Name "range" p) [a] [] pos) Pr := fun y σ H ad he hs Q q =>
  ⟨_, prg_1 (X := y.cx) (glS y hg) hm wE_ok (hst y.env), h y σ H ad he hs _ fun v H1 ad1 a1 M1 n1 s1 r1 ⟨n, e, p1⟩ => by
    subst e
    exact ⟨n, r1, q 0 n H1 ad1 M1 n1 s1 p1⟩⟩
theorem rg_2 {Pr : Int → Int → List MO → Prop} (hm : c.mg "range" = none) (hg : c.gl "range") (h : EvX c δ M a fun v M1 => EvX c δ M1 b fun w M2 => ∃ m n, v = .dat (.int m) ∧ w = .dat (.int n) ∧ Pr m n M2) (hst : ∀ env, starEach [a, b] env = (false, eval a env) :: starEach [b] env)
    (hst2 : ∀ env, starEach [b] env = (false, eval b env) :: starEach [] env) (hpl : ∀ env, (backTo pos (starEach [b] env)).any (·.1) = false) : EvR c δ M (.Call (.Name "range" p) [a, b] [] pos) Pr := fun y σ H ad he hs Q q =>
  ⟨_, prg_2 (X := y.cx) (glS y hg) hm wE_ok wE_ok (hst y.env) (hst2 y.env) (hpl y.env), h y σ H ad he hs _ fun v H1 ad1 a1 M1 n1 s1 r1 p1 => p1 y σ H1 ad1 (he.nx n1) s1 _ fun w H2 ad2 a2 M2 n2 s2 r2 ⟨m, n, e1, e2, p2⟩ => by
    subst e1 e2
    exact ⟨m, n, r1, r2, q m n H2 ad2 M2 (n1.trans n2) s2 p2⟩⟩
theorem rgD_V (a b : Int) : rgV a b = (List.range (b - a).toNat).map (fun i => V.int (a + (i : Nat))) := rfl
theorem reps_rg {K : PySem.W.Frag} {H : Hp} (a b : Int) : Reps K H (rgD a b) (rgV a b) := by
  have gen : ∀ l : List Nat, Reps K H (l.map fun i => D.int (a + (i : Nat))) (l.map fun i => V.int (a + (i : Nat))) := by
    intro l
    induction l with
    | nil => rfl
    | cons i l ih => exact ⟨_, _, rfl, rfl, ih⟩
  exact gen _
def wR (X : Cx) (e : Expr) : L2.St → Hp → (Int → Int → Hp → Prop) → Prop := fun σ H Q => ∃ t, PRg X e t ∧ t σ H Q
theorem wR_ok {X : Cx} {e : Expr} : PRg X e (wR X e) := fun pins s σ H Q I ⟨t, h, q⟩ => h pins s σ H Q I q
theorem f_lrg (hm : c.mg "list" = none) (hg : c.gl "list") (h : EvR c δ M e fun lo hi M1 => (-(2 ^ 20) ≤ lo ∧ lo ≤ 2 ^ 20 ∧ -(2 ^ 20) ≤ hi ∧ hi ≤ 2 ^ 20) ∧ Pf (rgD lo hi) M1) (hst : ∀ env, starEach [e] env = (false, eval e env) :: starEach [] env) : EvF c δ M (.Call (.Name "list" p) [e] [] pos) Pf := fun y σ H ad he hs Q q =>
  ⟨_, pe_listRg (X := y.cx) rfl (glS y hg) hm wR_ok (hst y.env), h y σ H ad he hs _ fun lo hi H1 ad1 M1 n1 s1 ⟨b, p1⟩ => by
    refine ⟨⟨by omega, by omega, by omega, by omega, by omega⟩, fun qq hn => ?_⟩
    have sm := same_new (o := .lst (rgV lo hi)) hn
    exact q qq _ _ ad1 _ M1 (n1.trans (Nx.same sm)) (s1.same sm) (free_back n1 s1 hn) (s1.free hn) upd_same (reps_rg lo hi) p1⟩
theorem x_trg (hm : c.mg "tuple" = none) (hg : c.gl "tuple") (h : EvR c δ M e fun lo hi M1 => (-(2 ^ 20) ≤ lo ∧ lo ≤ 2 ^ 20 ∧ -(2 ^ 20) ≤ hi ∧ hi ≤ 2 ^ 20) ∧ Post (.dat (.tup (rgD lo hi))) M1) (hst : ∀ env, starEach [e] env = (false, eval e env) :: starEach [] env) : EvX c δ M (.Call (.Name "tuple" p) [e] [] pos) Post := fun y σ H ad he hs Q q =>
  ⟨_, pe_tupRg (X := y.cx) rfl (glS y hg) hm wR_ok (hst y.env), h y σ H ad he hs _ fun lo hi H1 ad1 M1 n1 s1 ⟨b, p1⟩ => by
    refine ⟨⟨by omega, by omega, by omega, by omega, by omega⟩, fun qq hn => ?_⟩
    have sm := same_new (o := .tup (rgV lo hi)) hn
    exact q _ _ ad1 (.dat (.tup (rgD lo hi))) M1 (n1.trans (Nx.same sm)) (s1.same sm) ⟨qq, _, rfl, .inl (.inl upd_same), reps_rg lo hi⟩ p1⟩

/-! ### lists of the store -/
def wM (X : Cx) (id : String) : V → List V → Hp → VK → Prop := fun x vs H Q => ∃ r, MtR X id r ∧ r x vs H Q
theorem wM_ok {X : Cx} {id : String} : MtR X id (wM X id) := fun pins s σ H x xs v us Q I rx r ⟨t, h, q⟩ => h pins s σ H x xs v us Q I rx r q
theorem st_lst {K : PySem.W.Frag} {ad : List Addr} {H : Hp} {j : Nat} {ds : List D} {v : V} (S : StOk K ad H M) (r : RepA K ad H (.mut j) v) (hm : M[j]? = some (.lst ds)) : ∃ q xs, v = .ref q ∧ ad[j]? = some q ∧ H q = some (.lst xs) ∧ Reps K H ds xs := by
  obtain ⟨q, hq, e⟩ := r
  obtain ⟨a2, h2, xs, h3, rr⟩ := S.obj j _ hm
  rw [hq] at h2
  cases h2
  exact ⟨q, xs, e, hq, h3, rr⟩
/-- what a method does to a list of the store -/
def MetA (c : SC) (id : String) (j : Nat) (as : List AV) (M : List MO) (Post : AQ) : Prop :=
  ∀ (z : Dyn c) (H : Hp) (ad : List Addr), StOk c.K ad H M → ∀ v vs, RepA c.K ad H (.mut j) v → RepAs c.K ad H as vs → ∀ Q : VK,
    (∀ v H2 ad2 a M2, Nx ad H ad2 H2 → StOk c.K ad2 H2 M2 → RepA c.K ad2 H2 a v → Post a M2 → Q v H2) → wM z.cx id v vs H Q
theorem x_lm {name : Str} {apos : Pos} {o : Expr} (slot : Slot "list" name id) (hty : typeOf (.builtin id) = pure (.type "method_descriptor"))
    (h : EvX c δ M o fun v M1 => ∃ j ds, v = .mut j ∧ M1[j]? = some (.lst ds) ∧ EvA c δ M1 (e :: es) fun as M2 => MetA c id j as M2 Post)
    (hbase : ∀ env, attributeBase o name env (eval o env) = eval o env)
    (hfew : ∀ env, ((backTo pos (starEach (e :: es) env)).all (fun x => !x.1) && (backToKw pos (keywordEach [] env)).all (fun x => x.1.isSome) && decide ((e :: es).length + ([] : List Keyword).length + (if ([] : List Keyword).isEmpty then 0 else 1) < 30)) = true)
    (hline : (apos.endLine == pos.line) = true) (hst : ∀ env, starEach (e :: es) env = (false, eval e env) :: starEach es env) (hpl : ∀ env, (backTo pos (starEach es env)).any (·.1) = false) : EvX c δ M (.Call (.Attribute o name apos) (e :: es) [] pos) Post := fun y σ H ad he hs Q q =>
  ⟨_, pe_bm (X := y.cx) PySem.F.plainAttrs_list slot hty wM_ok wE_ok wA_ok (hbase y.env) (hfew y.env) hline (hst y.env) (hpl y.env), h y σ H ad he hs _ fun v H1 ad1 a1 M1 n1 s1 r1 ⟨j, ds, e1, hm, p1⟩ => by
    subst e1
    obtain ⟨qq, xs, rfl, hq, hx, rr⟩ := st_lst s1 r1 hm
    refine ⟨.inl ⟨rfl, xs, .inl (.inl hx)⟩, p1 y σ H1 ad1 (he.nx n1) s1 _ fun vs H2 ad2 as M2 n2 s2 r2 p2 => ?_⟩
    exact p2 y H2 ad2 s2 _ vs (r1.nx n2) r2 Q fun v3 H3 ad3 a3 M3 n3 s3 r3 p3 => q v3 H3 ad3 a3 M3 ((n1.trans n2).trans n3) s3 r3 p3⟩
theorem x_lm0 {name : Str} {apos : Pos} {o : Expr} (slot : Slot "list" name id) (hty : typeOf (.builtin id) = pure (.type "method_descriptor"))
    (h : EvX c δ M o fun v M1 => ∃ j ds, v = .mut j ∧ M1[j]? = some (.lst ds) ∧ MetA c id j [] M1 Post) (hbase : ∀ env, attributeBase o name env (eval o env) = eval o env) (hline : (apos.endLine == pos.line) = true) : EvX c δ M (.Call (.Attribute o name apos) [] [] pos) Post := fun y σ H ad he hs Q q =>
  ⟨_, pe_bm0 (X := y.cx) PySem.F.plainAttrs_list slot hty wM_ok wE_ok (hbase y.env) hline, h y σ H ad he hs _ fun v H1 ad1 a1 M1 n1 s1 r1 ⟨j, ds, e1, hm, p1⟩ => by
    subst e1
    obtain ⟨qq, xs, rfl, hq, hx, rr⟩ := st_lst s1 r1 hm
    exact ⟨.inl ⟨rfl, xs, .inl (.inl hx)⟩, p1 y H1 ad1 s1 _ [] r1 rfl Q fun v3 H3 ad3 a3 M3 n3 s3 r3 p3 => q v3 H3 ad3 a3 M3 (n1.trans n3) s3 r3 p3⟩⟩
theorem put_lst {K : PySem.W.Frag} {ad : List Addr} {H : Hp} {j : Nat} {q : Addr} {ds es : List D} {xs ys : List V} (S : StOk K ad H M) (hq : ad[j]? = some q) (hx : H q = some (.lst xs)) (r : Reps K H es ys) :
    StOk K ad (upd H q (.lst ys)) (M.set j (.lst es)) ∧ Nx ad H ad (upd H q (.lst ys)) := by
  have t : Tx H (upd H q (.lst ys)) := ⟨fun b zs e => by
    rw [upd_ne (ne_of e hx (by intro z; cases z))]
    exact e, fun b o u e => by
    rw [upd_ne (ne_of e hx (by intro z; cases z))]
    exact e, fun b φ e => by
    rw [upd_ne (ne_of e hx (by intro z; cases z))]
    exact e⟩
  exact S.put (m := .lst es) hq ⟨ys, upd_same, r.tx t⟩
theorem me_append {j : Nat} {d : D} {ds : List D} (hm : M[j]? = some (.lst ds)) (hl : ds.length < 1000000) (h : Post (.dat .non) (M.set j (.lst (ds ++ [d])))) : MetA c "list.append" j [.dat d] M Post := fun z H ad hs v vs rv r Q q => by
  obtain ⟨u, rfl, ru⟩ := repAs1 r
  obtain ⟨qq, xs, rfl, hq, hx, rr⟩ := st_lst hs rv hm
  obtain ⟨s2, n2⟩ := put_lst (ds := ds) (ys := xs ++ [u]) (es := ds ++ [d]) hs hq hx (rr.append ⟨u, [], rfl, ru, rfl⟩)
  refine ⟨_, mt_append, qq, xs, u, rfl, rfl, hx, ?_, q _ _ ad (.dat .non) _ n2 s2 rfl h⟩
  rw [rr.length]
  exact Nat.lt_trans hl (by decide)
theorem me_extend {j : Nat} {v : AV} {ds es : List D} (hm : M[j]? = some (.lst ds)) (hv : v = .ls es) (hl : ds.length + es.length ≤ 1000000) (h : Post (.dat .non) (M.set j (.lst (ds ++ es)))) : MetA c "list.extend" j [v] M Post := fun z H ad hs w vs rv r Q q => by
  subst hv
  obtain ⟨u, rfl, ru⟩ := repAs1 r
  obtain ⟨qq, xs, rfl, hq, hx, rr⟩ := st_lst hs rv hm
  obtain ⟨pp, ys, rfl, hy, ry⟩ := ru
  obtain ⟨s2, n2⟩ := put_lst (ds := ds) (ys := xs ++ ys) (es := ds ++ es) hs hq hx (rr.append ry)
  refine ⟨_, mt_extend, qq, pp, xs, ys, rfl, rfl, hx, hy.1, ?_, q _ _ ad (.dat .non) _ n2 s2 rfl h⟩
  rw [rr.length, ry.length]
  exact Nat.le_trans hl (by decide)
theorem me_pop {j : Nat} {ds : List D} {d : D} (hm : M[j]? = some (.lst ds)) (hd : ds[ds.length - 1]? = some d) (h : Post (.dat d) (M.set j (.lst ds.dropLast))) : MetA c "list.pop" j [] M Post := fun z H ad hs w vs rv r Q q => by
  have er : vs = [] := r
  subst er
  obtain ⟨qq, xs, rfl, hq, hx, rr⟩ := st_lst hs rv hm
  obtain ⟨v, hv, rv2⟩ := rr.get hd
  have rd : Reps c.K H ds.dropLast xs.dropLast := by
    rw [List.dropLast_eq_take, List.dropLast_eq_take, rr.length]
    exact rr.take _
  obtain ⟨s2, n2⟩ := put_lst (ds := ds) hs hq hx rd
  refine ⟨_, mt_pop, qq, xs, v, rfl, rfl, hx, by rw [rr.length]; exact hv, q _ _ ad (.dat d) _ n2 s2 (Rep.tx n2.tx rv2) h⟩
theorem me_popAt {j : Nat} {ds : List D} {d : D} {i : Nat} (hm : M[j]? = some (.lst ds)) (hd : ds[i]? = some d) (hl : ds.length ≤ 1000000) (h : Post (.dat d) (M.set j (.lst (ds.eraseIdx i)))) : MetA c "list.pop" j [.dat (.int (i : Nat))] M Post := fun z H ad hs w vs rv r Q q => by
  obtain ⟨u, rfl, ru⟩ := repAs1 r
  rw [show u = .int (i : Nat) from ru]
  obtain ⟨qq, xs, rfl, hq, hx, rr⟩ := st_lst hs rv hm
  obtain ⟨v, hv, rv2⟩ := rr.get hd
  obtain ⟨s2, n2⟩ := put_lst (ds := ds) hs hq hx (rr.erase i)
  have hi : i < ds.length := (List.getElem?_eq_some_iff.mp hd).1
  have hs1 : seqIndex? (i : Int) xs.length = some i := by
    have : ixN xs.length (i : Int) = some i := by
      unfold ixN
      rw [if_pos (by omega), if_pos (by rw [rr.length]; omega)]
      simp
    exact (ixN_seq this).1
  exact ⟨_, mt_popAt, qq, xs, i, i, v, rfl, rfl, hx, by omega, by omega, hs1, hv, q _ _ ad (.dat d) _ n2 s2 (Rep.tx n2.tx rv2) h⟩
/-- xs[i] = e -/
theorem s_put {D : AE} {o i : Expr} (h : EvX c δ M e fun v M1 => EvX c δ M1 o fun w M2 => EvX c δ M2 i fun u M3 => ∃ (d : Fx.D) (j : Nat) (ds : List Fx.D) (n : Nat), v = .dat d ∧ w = .mut j ∧ u = .dat (.int (n : Nat)) ∧ M3[j]? = some (.lst ds) ∧ n < ds.length ∧ D.nx δ (M3.set j (.lst (ds.set n d))))
    (hs1 : ∀ env, swapsWithSole [.Subscript o i p] e pos.line env = pure false) (hw : ∀ env, swappedStores [.Subscript o i p] e env = pure none) (h1 : ∀ env, (assignEach [.Subscript o i p] env).map (·.2) = [assign (.Subscript o i p) env])
    (ha : ∀ (env : Env) v, assign (.Subscript o i p) env v = (do
      let ov ← holding [v] (eval o env)
      let iv ← holding [v, ov] (eval i env)
      standAt p
      holding [v, ov, iv] (setItem ov iv v)
      release [v, ov, iv] [])) : Run1 c δ M (.Assign [.Subscript o i p] e pos) D := fun y σ H ad he hs E q =>
  ⟨_, ps_asg wE_ok (pg_sub wE_ok wE_ok set_list (ha y.env)) (hs1 y.env) (hw y.env) (h1 y.env), h y σ H ad he hs _ fun v H1 ad1 a1 M1 n1 s1 r1 p1 => p1 y σ H1 ad1 (he.nx n1) s1 _ fun w H2 ad2 a2 M2 n2 s2 r2 p2 => p2 y σ H2 ad2 (he.nx (n1.trans n2)) s2 _ fun u H3 ad3 a3 M3 n3 s3 r3 ⟨d, j, ds, n, e1, e2, e3, hm, hn, p3⟩ => by
    subst e1 e2 e3
    have n13 := (n1.trans n2).trans n3
    obtain ⟨qq, xs, rfl, hq, hx, rr⟩ := st_lst s3 (r2.nx n3) hm
    obtain ⟨s4, n4⟩ := put_lst (ds := ds) (ys := xs.set n v) s3 hq hx (rr.set (Rep.tx (n2.tx.trans n3.tx) r1) n)
    refine ⟨qq, xs, n, n, rfl, r3, hx, ?_, q.nx σ _ ad3 δ _ (n13.trans n4) (he.nx (n13.trans n4)) s4 p3⟩
    unfold ixN
    rw [if_pos (by omega), if_pos (by rw [rr.length]; omega)]
    simp⟩
end

/-! ### names by their places, found by themselves -/
class VarAt (N : List Str) (x : Str) (i : outParam Nat) : Prop where
  get : N[i]? = some x
instance varAt_here {x : Str} {r : List Str} : VarAt (x :: r) x 0 := ⟨rfl⟩
instance (priority := low) varAt_next {x y : Str} {r : List Str} {i : Nat} [h : VarAt r x i] : VarAt (y :: r) x (i + 1) := ⟨h.get⟩
def namesB (N : List Str) : Bool := decide N.Nodup && N.all fun x => !(x == ("__debug__" : Str)) && !(x == ("__classdict__" : Str))
class NamesOk (N : List Str) : Prop where
  ok : namesB N = true
theorem NamesOk.nd {N : List Str} (h : NamesOk N) : N.Nodup := by
  have := h.ok
  unfold namesB at this
  rw [Bool.and_eq_true] at this
  exact of_decide_eq_true this.1
theorem NamesOk.at_ {N : List Str} (h : NamesOk N) {i : Nat} {x : Str} (e : N[i]? = some x) : (x == ("__debug__" : Str)) = false ∧ (x == ("__classdict__" : Str)) = false := by
  have := h.ok
  unfold namesB at this
  rw [Bool.and_eq_true, List.all_eq_true] at this
  have q := this.2 x (List.mem_of_getElem? e)
  rw [Bool.and_eq_true] at q
  exact ⟨by simpa using q.1, by simpa using q.2⟩
section
variable {c : SC} {δ : Dl} {M : List MO} {Post : AQ} {e : Expr} {pos p : Pos} {x : Str} {i : Nat}
theorem x_v {a : AV} [hN : VarAt c.N x i] [hk : NamesOk c.N] (hd : δ[i]? = some (some a)) (hv : Vis c.sc x) (h : Post a M) : EvX c δ M (.Name x pos) Post := x_var i hd hN.get hv h (hk.at_ hN.get).1 (hk.at_ hN.get).2
theorem g_n {a : AV} {Pg : Dl → Prop} [hN : VarAt c.N x i] [hk : NamesOk c.N] (hx : Loc c.sc x) (hf : c.fn x = true ∨ c.sc.names.lookup x = some .local) (h : Pg (δ.set i (some a))) : EvG c δ (.Name x pos) [i] a Pg := g_name i hN.get hk.nd hx hf h
theorem gx_n {a : AV} {Pg : Dl → Prop} [hN : VarAt c.N x i] [hk : NamesOk c.N] (hx : Loc c.sc x) (hf : c.fn x = true ∨ c.sc.names.lookup x = some .local) (h : Pg (δ.set i (some a))) : EvGx c δ (.Name x pos) a Pg := ⟨[i], g_n hx hf h⟩
theorem gx_2 {y : Str} {j k : Nat} {q1 q2 : Pos} {a b : D} {Pg : Dl → Prop} [hN : VarAt c.N x i] [hN2 : VarAt c.N y j] [hk : NamesOk c.N] (hx : Loc c.sc x) (hf : c.fn x = true ∨ c.sc.names.lookup x = some .local) (hx2 : Loc c.sc y) (hf2 : c.fn y = true ∨ c.sc.names.lookup y = some .local)
    (h : Pg ((δ.set i (some (.dat a))).set j (some (.dat b)))) : EvGx c δ (.Tuple [.Name x q1, .Name y q2] k pos) (.dat (.tup [a, b])) Pg :=
  ⟨[i] ++ ([j] ++ []), g_tup (gs_cons (g_n hx hf (gs_cons (g_n hx2 hf2 (gs_nil h)) (fun _ => rfl))) (fun _ => rfl)) (fun _ => rfl) (fun _ => rfl)⟩
theorem lt_n {elt : Expr} {ifs : List Expr} {vs : List Nat} {d : D} {yes : D → List MO → Prop} {no : List MO → Prop} [hN : VarAt c.N x i] [hk : NamesOk c.N] (hi : i ∈ vs) (hx : Loc c.sc x) (hf : c.fn x = true ∨ c.sc.names.lookup x = some .local)
    (h : EvTs c (δ.set i (some (.dat d))) M ifs fun k M3 => (k = true → EvX c (δ.set i (some (.dat d))) M3 elt fun a M4 => ∃ d', a = .dat d' ∧ yes d' M4) ∧ (k = false → no M3)) : LcTurn c δ (.Name x pos) elt ifs vs d M yes no :=
  ⟨[i], fun k hk => by rw [List.mem_singleton.mp hk]; exact hi, g_n hx hf h⟩
theorem lt_2 {elt : Expr} {ifs : List Expr} {vs : List Nat} {y : Str} {j k : Nat} {q1 q2 : Pos} {a b : D} {yes : D → List MO → Prop} {no : List MO → Prop} [hN : VarAt c.N x i] [hN2 : VarAt c.N y j] [hk : NamesOk c.N] (hi : i ∈ vs) (hj : j ∈ vs) (hx : Loc c.sc x) (hf : c.fn x = true ∨ c.sc.names.lookup x = some .local)
    (hx2 : Loc c.sc y) (hf2 : c.fn y = true ∨ c.sc.names.lookup y = some .local)
    (h : EvTs c ((δ.set i (some (.dat a))).set j (some (.dat b))) M ifs fun k M3 => (k = true → EvX c ((δ.set i (some (.dat a))).set j (some (.dat b))) M3 elt fun a M4 => ∃ d', a = .dat d' ∧ yes d' M4) ∧ (k = false → no M3)) :
    LcTurn c δ (.Tuple [.Name x q1, .Name y q2] k pos) elt ifs vs (.tup [a, b]) M yes no :=
  ⟨[i] ++ ([j] ++ []), fun z hz => by
    rcases List.mem_cons.mp hz with rfl | hz
    · exact hi
    · rw [List.mem_singleton.mp hz]
      exact hj, g_tup (gs_cons (g_n hx hf (gs_cons (g_n hx2 hf2 (gs_nil h)) (fun _ => rfl))) (fun _ => rfl)) (fun _ => rfl) (fun _ => rfl)⟩
theorem s_st {D : AE} [hN : VarAt c.N x i] [hk : NamesOk c.N] (hx : Loc c.sc x) (hf : c.fn x = true ∨ c.sc.names.lookup x = some .local) (h : EvX c δ M e fun a M1 => D.nx (δ.set i (some a)) M1)
    (hs1 : ∀ env, swapsWith e (some (.Name x p)) pos.line env = pure false) : Run1 c δ M (.Assign [.Name x p] e pos) D := s_set i hN.get hk.nd hx hf h hs1
theorem s_nw {D : AE} [hN : VarAt c.N x i] [hk : NamesOk c.N] (hx : Loc c.sc x) (hf : c.fn x = true ∨ c.sc.names.lookup x = some .local) (h : EvF c δ M e fun ds M1 => D.nx (δ.set i (some (.mut M1.length))) (M1 ++ [.lst ds]))
    (hs1 : ∀ env, swapsWith e (some (.Name x p)) pos.line env = pure false) : Run1 c δ M (.Assign [.Name x p] e pos) D := s_new i hN.get hk.nd hx hf h hs1
theorem s_ag {D : AE} {op : Operator} {v : AV} [hN : VarAt c.N x i] [hk : NamesOk c.N] (hx : Loc c.sc x) (hf : c.fn x = true ∨ c.sc.names.lookup x = some .local) (hv : δ[i]? = some (some v))
    (h : EvX c δ M e fun a M1 => BinR c (inplaceOp op) v a M1 fun r M2 => D.nx (δ.set i (some r)) M2) : Run1 c δ M (.AugAssign (.Name x p) op e pos) D := s_aug i hN.get hk.nd hx hf hv h
theorem b_iadd {i j : Int} (h : Post (.dat (.int (i + j))) M) : BinR c (inplaceOp .Add) (.dat (.int i)) (.dat (.int j)) M Post := b_int0 (fun _ => iop_add) h
theorem b_isub {i j : Int} (h : Post (.dat (.int (i - j))) M) : BinR c (inplaceOp .Sub) (.dat (.int i)) (.dat (.int j)) M Post := b_int0 (fun _ => iop_sub) h
theorem b_imul {i j : Int} (hc : CMul i j) (h : Post (.dat (.int (i * j))) M) : BinR c (inplaceOp .Mult) (.dat (.int i)) (.dat (.int j)) M Post := b_int (fun _ => iop_mul) hc h
end

section
variable {M : List MO} {Q : D → Prop}
theorem ix_tup {ds : List D} {i : Int} {d : D} (h : atI ds i = some d) (k : Q d) : ∃ i', (AV.dat (.int i)) = .dat (.int i') ∧ IxA M (.dat (.tup ds)) i' Q := ⟨i, rfl, .inl ⟨ds, d, isS_tup, h, k⟩⟩
theorem ix_ls {ds : List D} {i : Int} {d : D} (h : atI ds i = some d) (k : Q d) : ∃ i', (AV.dat (.int i)) = .dat (.int i') ∧ IxA M (.ls ds) i' Q := ⟨i, rfl, .inl ⟨ds, d, isS_ls, h, k⟩⟩
theorem ix_mut {j : Nat} {ds : List D} {i : Int} {d : D} (hm : M[j]? = some (.lst ds)) (h : atI ds i = some d) (k : Q d) : ∃ i', (AV.dat (.int i)) = .dat (.int i') ∧ IxA M (.mut j) i' Q := ⟨i, rfl, .inl ⟨ds, d, isS_mut hm, h, k⟩⟩
theorem atI_at {ds : List D} {i : Int} {n : Nat} {d : D} (e : i = (n : Int)) (h : ds[n]? = some d) : atI ds i = some d := by
  rw [e]
  exact atI_nat h
end
section
variable {c : SC} {M : List MO} {Post : AQ}
theorem IsL.at_ {K : PySem.W.Frag} {ad : List Addr} {H : Hp} {a : AV} {ds : List D} {v : V} (h : IsL M a ds) (S : StOk K ad H M) (r : RepA K ad H a v) : ∃ p xs, v = .ref p ∧ H p = some (.lst xs) ∧ Reps K H ds xs := by
  rcases h with rfl | ⟨j, rfl, hm⟩
  · obtain ⟨p, xs, e, q, rr⟩ := r
    exact ⟨p, xs, e, q.1, rr⟩
  · obtain ⟨p, q, e⟩ := r
    obtain ⟨a2, h2, xs, h3, rr⟩ := S.obj j _ hm
    rw [q] at h2
    cases h2
    exact ⟨p, xs, e, h3, rr⟩
/-- xs + ys -/
theorem b_catL {x y : AV} {ds es : List D} (hx : IsL M x ds) (hy : IsL M y es) (hl : ds.length + es.length ≤ 1000000) (h : Post (.ls (ds ++ es)) M) : BinR c (binaryOp .Add) x y M Post := fun z H ad hs vx vy rx ry Q q => by
  obtain ⟨p, xs, rfl, h1, r1⟩ := hx.at_ hs rx
  obtain ⟨p2, ys, rfl, h2, r2⟩ := hy.at_ hs ry
  refine ⟨_, op_cat, p, p2, xs, ys, rfl, rfl, h1, h2, by rw [r1.length, r2.length]; exact Nat.le_trans hl (by decide), fun n hn => ?_⟩
  have sm := same_new (o := .lst (xs ++ ys)) hn
  exact q _ _ ad (.ls (ds ++ es)) M (Nx.same sm) (hs.same sm) ⟨n, _, rfl, ⟨upd_same, hs.free hn⟩, (r1.append r2).tx (Tx.same sm)⟩ h
/-- xs * n -/
theorem b_repL {x : AV} {ds : List D} {n : Int} (hx : IsL M x ds) (h0 : 0 ≤ n) (hn : n ≤ 1000) (hl : ds.length ≤ 1000) (h : Post (.ls (List.replicate n.toNat ds).flatten) M) : BinR c (binaryOp .Mult) x (.dat (.int n)) M Post := fun z H ad hs vx vy rx ry Q q => by
  obtain ⟨p, xs, rfl, h1, r1⟩ := hx.at_ hs rx
  have hm : xs.length * n.toNat ≤ 1000 * 1000 := Nat.mul_le_mul (by rw [r1.length]; exact hl) (by omega)
  refine ⟨_, op_rep, p, n, xs, rfl, ry, h1, by omega, by omega, Nat.le_trans hm (by decide), fun n2 hn2 => ?_⟩
  have sm := same_new (o := .lst (List.replicate n.toNat xs).flatten) hn2
  have rr : ∀ k : Nat, Reps c.K H (List.replicate k ds).flatten (List.replicate k xs).flatten := by
    intro k
    induction k with
    | zero => rfl
    | succ k ih =>
      rw [List.replicate_succ, List.replicate_succ, List.flatten_cons, List.flatten_cons]
      exact r1.append ih
  exact q _ _ ad (.ls _) M (Nx.same sm) (hs.same sm) ⟨n2, _, rfl, ⟨upd_same, hs.free hn2⟩, (rr _).tx (Tx.same sm)⟩ h
end
theorem get_push {α : Type} {M : List α} {x : α} : (M ++ [x])[M.length]? = some x := by
  rw [List.getElem?_append_right (Nat.le_refl _), Nat.sub_self]
  rfl
theorem set_push {α : Type} {M : List α} {x y : α} : (M ++ [x]).set M.length y = M ++ [y] := by
  rw [List.set_append_right _ _ (Nat.le_refl _), Nat.sub_self]
  rfl
end Fx

/-! Fx, part E: tickets and books as data; the law's own draws. -/
namespace Fx
open PySem L2
def tI (ns : List Int) : D := .tup (ns.map D.int)
def tII (b : List (List Int)) : D := .tup (b.map tI)
def rg (lo hi : Int) : List Int := (List.range (hi - lo).toNat).map fun i => lo + (i : Nat)
theorem rgD_eq (lo hi : Int) : rgD lo hi = (rg lo hi).map D.int := by
  unfold rgD rg
  rw [List.map_map]
  rfl
theorem rg0_map (n : Int) : rg0 n = (rg 0 n).map D.int := by rw [rg0_eq, rgD_eq]
theorem rg_len (lo hi : Int) : (rg lo hi).length = (hi - lo).toNat := by unfold rg; rw [List.length_map, List.length_range]
theorem rg_mem {lo hi x : Int} : x ∈ rg lo hi ↔ lo ≤ x ∧ x < hi := by
  unfold rg
  rw [List.mem_map]
  constructor
  · rintro ⟨i, hi, rfl⟩
    rw [List.mem_range] at hi
    omega
  · rintro ⟨h1, h2⟩
    exact ⟨(x - lo).toNat, by rw [List.mem_range]; omega, by omega⟩
/-- a def that changes nothing of the store -/
def pureA (R : List AV → AV → Prop) : ASp := fun as M Post => ∃ r, R as r ∧ Post r M
theorem isEmpty_map' {α β : Type} (f : α → β) (xs : List α) : (xs.map f).isEmpty = xs.isEmpty := by cases xs <;> rfl

/-! ### the law's town: {'count': .., 'rests': {..}} -/
theorem sCR : ¬ (("count" : Str) = "rests") := by decide +kernel
theorem sRC : ¬ (("rests" : Str) = "count") := by decide +kernel
section
variable {c : SC} {δ : Dl} {M : List MO} {Post : AQ} {a b e f o : Expr} {pos p p1 p2 : Pos} {jj jk : Nat}
theorem val_count {u v : V} : valV [((Sum.inr "count" : Key), u), (Sum.inr "rests", v)] (Sum.inr "count") = some u := by
  unfold valV
  rw [List.find?_cons_of_pos (by simp)]
  rfl
theorem val_rests {u v : V} : valV [((Sum.inr "count" : Key), u), (Sum.inr "rests", v)] (Sum.inr "rests") = some v := by
  unfold valV
  rw [List.find?_cons_of_neg (by simp [sCR]), List.find?_cons_of_pos (by simp)]
  rfl
theorem put_count {u v w : V} : putK [((Sum.inr "count" : Key), u), (Sum.inr "rests", v)] (Sum.inr "count") w = [((Sum.inr "count" : Key), w), (Sum.inr "rests", v)] := by
  unfold putK
  rw [if_pos (by simp)]
  simp [sRC]
theorem st_town {K : PySem.W.Frag} {ad : List Addr} {H : Hp} {j i : Nat} {v : V} (S : StOk K ad H M) (r : RepA K ad H (.mut j) v) (hm : M[j]? = some (.town i)) :
    ∃ q b n, v = .ref q ∧ ad[j]? = some q ∧ ad[i]? = some b ∧ H q = some (.dK [(Sum.inr "count", V.int n), (Sum.inr "rests", V.ref b)]) := by
  obtain ⟨q, hq, e⟩ := r
  obtain ⟨a2, h2, n, b, h3, h4⟩ := S.obj j _ hm
  rw [hq] at h2
  cases h2
  exact ⟨q, b, n, e, hq, h3, h4⟩
theorem st_rests {K : PySem.W.Frag} {ad : List Addr} {H : Hp} {j : Nat} {v : V} (S : StOk K ad H M) (r : RepA K ad H (.mut j) v) (hm : M[j]? = some .rests) : ∃ q kvs, v = .ref q ∧ ad[j]? = some q ∧ H q = some (.dK kvs) ∧ RestOk kvs := by
  obtain ⟨q, hq, e⟩ := r
  obtain ⟨a2, h2, kvs, h3, h4⟩ := S.obj j _ hm
  rw [hq] at h2
  cases h2
  exact ⟨q, kvs, e, hq, h3, h4⟩
/-- town['count'] -/
theorem x_count (h : EvX c δ M o fun v M1 => ∃ j i, v = .mut j ∧ M1[j]? = some (.town i) ∧ ∀ n : Int, Post (.dat (.int n)) M1) : EvX c δ M (.Subscript o (.Constant (.str "count") jj p) pos) Post := fun y σ H ad he hs Q q =>
  ⟨_, pe_dget (X := y.cx) (hu_of y.room) wE_ok pe_str (fun _ _ => rfl), h y σ H ad he hs _ fun v H1 ad1 a1 M1 n1 s1 r1 ⟨j, i, e1, hm, p1⟩ => by
    subst e1
    obtain ⟨qq, bb, n, rfl, hq, hb, hH⟩ := st_town s1 r1 hm
    exact ⟨qq, V.int n, rfl, by rw [← val_count (u := V.int n) (v := V.ref bb)]; exact DGet.k (k := Sum.inr "count") hH, q _ H1 ad1 (.dat (.int n)) M1 n1 s1 rfl (p1 n)⟩⟩
/-- town['rests'] -/
theorem x_rests (h : EvX c δ M o fun v M1 => ∃ j i, v = .mut j ∧ M1[j]? = some (.town i) ∧ Post (.mut i) M1) : EvX c δ M (.Subscript o (.Constant (.str "rests") jj p) pos) Post := fun y σ H ad he hs Q q =>
  ⟨_, pe_dget (X := y.cx) (hu_of y.room) wE_ok pe_str (fun _ _ => rfl), h y σ H ad he hs _ fun v H1 ad1 a1 M1 n1 s1 r1 ⟨j, i, e1, hm, p1⟩ => by
    subst e1
    obtain ⟨qq, bb, n, rfl, hq, hb, hH⟩ := st_town s1 r1 hm
    exact ⟨qq, V.ref bb, rfl, by rw [← val_rests (u := V.int n) (v := V.ref bb)]; exact DGet.k (k := Sum.inr "rests") hH, q _ H1 ad1 (.mut i) M1 n1 s1 ⟨bb, hb, rfl⟩ p1⟩⟩
theorem set_same {α : Type} {l : List α} {j : Nat} {x : α} (h : l[j]? = some x) : l.set j x = l := by
  apply List.ext_getElem?
  intro i
  by_cases e : j = i
  · subst e
    rw [List.getElem?_set_self (List.getElem?_eq_some_iff.mp h).1, h]
  · rw [List.getElem?_set_ne e]
/-- town['count'] = e -/
theorem s_count {D : AE} (h : EvX c δ M e fun w M1 => EvX c δ M1 o fun v M2 => ∃ (n : Int) (j i : Nat), w = .dat (.int n) ∧ v = .mut j ∧ M2[j]? = some (.town i) ∧ D.nx δ M2)
    (hs1 : ∀ env, swapsWith e (some (.Subscript o (.Constant (.str "count") jj p) p1)) pos.line env = pure false) : Run1 c δ M (.Assign [.Subscript o (.Constant (.str "count") jj p) p1] e pos) D := fun y σ H ad he hs E q =>
  ⟨_, ps_dput (X := y.cx) (hu_of y.room) wE_ok pe_str wE_ok (hs1 y.env), h y σ H ad he hs _ fun w H1 ad1 a1 M1 n1 s1 r1 p1 => p1 y σ H1 ad1 (he.nx n1) s1 _ fun v H2 ad2 a2 M2 n2 s2 r2 ⟨n, j, i, e1, e2, hm, p2⟩ => by
    subst e1 e2
    obtain ⟨qq, bb, n0, rfl, hq, hb, hH⟩ := st_town s2 r2 hm
    obtain rfl : w = V.int n := r1
    obtain ⟨s3, n3⟩ := s2.put (m := .town i) (o := .dK [(Sum.inr "count", V.int n), (Sum.inr "rests", V.ref bb)]) hq ⟨n, bb, hb, upd_same⟩
    rw [set_same hm] at s3
    refine ⟨qq, _, rfl, DPut.k (k := Sum.inr "count") hH (by show 2 < sizeLine; decide), ?_⟩
    rw [put_count]
    exact q.nx σ _ ad2 δ M2 ((n1.trans n2).trans n3) (he.nx ((n1.trans n2).trans n3)) s3 p2⟩
theorem rest_val {kvs : List (Key × V)} (h : RestOk kvs) {k : Key} {v : V} (e : valV kvs k = some v) : ∃ n : Int, v = V.int n := by
  unfold valV at e
  cases q : kvs.find? fun kv => decide (kv.1 = k) with
  | none => rw [q] at e; cases e
  | some kv =>
    rw [q] at e
    obtain ⟨i, n, ek, _⟩ := h.2 kv (List.mem_of_find?_eq_some q)
    subst ek
    exact ⟨n, (Option.some.inj e).symm⟩
theorem putK_keys (kvs : List (Key × V)) (k : Key) (v : V) : (putK kvs k v).map (·.1) = if (kvs.any fun kv => decide (kv.1 = k)) = true then kvs.map (·.1) else kvs.map (·.1) ++ [k] := by
  unfold putK
  by_cases hc : (kvs.any fun kv => decide (kv.1 = k)) = true
  · rw [if_pos hc, if_pos hc, List.map_map]
    apply List.map_congr_left
    intro p _
    show (if p.1 = k then (p.1, v) else p).1 = p.1
    split <;> rfl
  · rw [if_neg hc, if_neg hc, List.map_append]
    rfl
theorem rest_put {kvs : List (Key × V)} (h : RestOk kvs) {i n : Int} (h0 : 0 ≤ i) (h1 : i < 63) : RestOk (putK kvs (Sum.inl i) (V.int n)) := by
  refine ⟨?_, fun p hp => ?_⟩
  · rw [putK_keys]
    split
    · exact h.1
    · rename_i hc
      rw [List.nodup_append]
      refine ⟨h.1, List.nodup_cons.mpr ⟨List.not_mem_nil, List.nodup_nil⟩, fun x hx y hy e => hc ?_⟩
      rw [List.mem_singleton.mp hy] at e
      subst e
      obtain ⟨q, hq, e2⟩ := List.mem_map.mp hx
      rw [List.any_eq_true]
      exact ⟨q, hq, decide_eq_true e2⟩
  · unfold putK at hp
    split at hp
    · obtain ⟨q, hq, e⟩ := List.mem_map.mp hp
      obtain ⟨i2, n2, e2, b1, b2⟩ := h.2 q hq
      by_cases hk : q.1 = Sum.inl i
      · rw [if_pos hk] at e
        rw [e2] at e hk
        have : i2 = i := Sum.inl.inj hk
        subst this
        exact ⟨i2, n, e.symm, b1, b2⟩
      · rw [if_neg hk] at e
        exact ⟨i2, n2, by rw [← e]; exact e2, b1, b2⟩
    · rcases List.mem_append.mp hp with hp | hp
      · exact h.2 p hp
      · rw [List.mem_singleton.mp hp]
        exact ⟨i, n, rfl, h0, h1⟩
theorem nodup_len {α : Type} [DecidableEq α] : ∀ (l m : List α), l.Nodup → (∀ x ∈ l, x ∈ m) → l.length ≤ m.length
  | [], m, _, _ => Nat.zero_le _
  | a :: l, m, hn, hs => by
    have ha := hs a List.mem_cons_self
    obtain ⟨h1, h2⟩ := List.nodup_cons.mp hn
    have ih := nodup_len l (m.erase a) h2 fun x hx => (List.mem_erase_of_ne (fun e => h1 (by rw [← e]; exact hx))).mpr (hs x (List.mem_cons_of_mem _ hx))
    rw [List.length_erase_of_mem ha] at ih
    have : 0 < m.length := List.length_pos_of_mem ha
    rw [List.length_cons]
    omega
theorem rest_len {kvs : List (Key × V)} (h : RestOk kvs) : kvs.length < sizeLine := by
  have sub : ∀ x ∈ kvs.map (·.1), x ∈ (List.range 63).map fun (i : Nat) => (Sum.inl (i : Int) : Key) := by
    intro x hx
    obtain ⟨q, hq, e⟩ := List.mem_map.mp hx
    obtain ⟨i, n, e2, b1, b2⟩ := h.2 q hq
    rw [e2] at e
    rw [← e]
    exact List.mem_map.mpr ⟨i.toNat, List.mem_range.mpr (by omega), by show (Sum.inl ((i.toNat : Nat) : Int) : Key) = Sum.inl i; rw [Int.toNat_of_nonneg b1]⟩
  have hl := nodup_len _ _ h.1 sub
  rw [List.length_map, List.length_map, List.length_range] at hl
  have : sizeLine = 16777216 := sizeLine_eq
  omega
/-- town['rests'].get(at, e) -/
theorem x_rget (h : EvX c δ M o fun v M1 => ∃ j, v = .mut j ∧ M1[j]? = some .rests ∧ EvX c δ M1 e fun w M2 => EvX c δ M2 f fun u M3 => ∃ i n : Int, w = .dat (.int i) ∧ u = .dat (.int n) ∧ M3[j]? = some .rests ∧ ∀ m : Int, Post (.dat (.int m)) M3)
    (hM : ∀ X : Cx, M2 X o "get" p e f pos) : EvX c δ M (.Call (.Attribute o "get" p) [e, f] [] pos) Post := fun y σ H ad he hs Q q =>
  ⟨_, pe_dget2 (X := y.cx) (hu_of y.room) wE_ok wE_ok wE_ok (hM y.cx), h y σ H ad he hs _ fun v H1 ad1 a1 M1 n1 s1 r1 ⟨j, e1, hm, p1⟩ => by
    subst e1
    obtain ⟨qq, kvs, rfl, hq, hH, ok⟩ := st_rests s1 r1 hm
    refine ⟨qq, rfl, .inl ⟨kvs, .inl hH⟩, p1 y σ H1 ad1 (he.nx n1) s1 _ fun w H2 ad2 a2 M2 n2 s2 r2 p2 => p2 y σ H2 ad2 (he.nx (n1.trans n2)) s2 _ fun u H3 ad3 a3 M3 n3 s3 r3 ⟨i, n, e2, e3, hm3, p3⟩ => ?_⟩
    subst e2 e3
    obtain ⟨q2, kvs2, e4, hq2, hH2, ok2⟩ := st_rests s3 ((r1.nx n2).nx n3) hm3
    cases e4
    have n13 := (n1.trans n2).trans n3
    obtain rfl : w = V.int i := r2
    obtain rfl : u = V.int n := r3
    refine ⟨valV kvs2 (Sum.inl i), DGet.k (k := Sum.inl i) hH2, ?_⟩
    cases z : valV kvs2 (Sum.inl i) with
    | none => exact q _ H3 ad3 (.dat (.int n)) M3 n13 s3 rfl (p3 n)
    | some w =>
      obtain ⟨m, rfl⟩ := rest_val ok2 z
      exact q _ H3 ad3 (.dat (.int m)) M3 n13 s3 rfl (p3 m)⟩
/-- town['rests'][at] = e -/
theorem s_rput {D : AE} (h : EvX c δ M e fun w M1 => EvX c δ M1 o fun v M2 => EvX c δ M2 f fun u M3 => ∃ (n i : Int) (j : Nat), w = .dat (.int n) ∧ v = .mut j ∧ u = .dat (.int i) ∧ M3[j]? = some .rests ∧ 0 ≤ i ∧ i < 63 ∧ D.nx δ M3)
    (hs1 : ∀ env, swapsWith e (some (.Subscript o f p1)) pos.line env = pure false) : Run1 c δ M (.Assign [.Subscript o f p1] e pos) D := fun y σ H ad he hs E q =>
  ⟨_, ps_dput (X := y.cx) (hu_of y.room) wE_ok wE_ok wE_ok (hs1 y.env), h y σ H ad he hs _ fun w H1 ad1 a1 M1 n1 s1 r1 p1 => p1 y σ H1 ad1 (he.nx n1) s1 _ fun v H2 ad2 a2 M2 n2 s2 r2 p2 => p2 y σ H2 ad2 (he.nx (n1.trans n2)) s2 _ fun u H3 ad3 a3 M3 n3 s3 r3 ⟨n, i, j, e1, e2, e3, hm, b0, b1, p3⟩ => by
    subst e1 e2 e3
    obtain ⟨qq, kvs, rfl, hq, hH, ok⟩ := st_rests s3 (r2.nx n3) hm
    obtain rfl : w = V.int n := r1
    obtain rfl : u = V.int i := r3
    obtain ⟨s4, n4⟩ := s3.put (m := .rests) (o := .dK (putK kvs (Sum.inl i) (V.int n))) hq ⟨_, upd_same, rest_put ok b0 b1⟩
    rw [set_same hm] at s4
    have n14 := ((n1.trans n2).trans n3).trans n4
    exact ⟨qq, _, rfl, DPut.k (k := Sum.inl i) hH (rest_len ok), q.nx σ _ ad3 δ M3 n14 (he.nx n14) s4 p3⟩⟩
/-- {'count': 0, 'rests': {}} -/
theorem x_begun {j1 j2 j3 : Nat} {q1 q2 q3 q4 : Pos} (h : Post (.mut M.length) (M ++ [.town (M.length + 1), .rests])) :
    EvX c δ M (.Dict [some (.Constant (.str "count") j1 q1), some (.Constant (.str "rests") j2 q2)] [.Constant (.int 0) j3 q3, .Dict [] [] q4] pos) Post := fun y σ H ad he hs Q q =>
  ⟨_, pe_disp (X := y.cx) (pps_cons pe_str pe_int (pps_cons pe_str pe_dnewK pps_nil)) (by rfl) (by rfl) (fun z => by cases z) (Nat.le_of_ble_eq_true rfl), fun p1 h1 p2 h2 => by
    have ne : p2 ≠ p1 := fun e => by
      rw [e, upd_same] at h2
      cases h2
    have h20 : H p2 = none := by
      rw [upd_ne ne] at h2
      exact h2
    refine ⟨by rw [upd_ne ne.symm, upd_same], [(Sum.inr "count", V.int 0), (Sum.inr "rests", V.ref p2)], rfl, Nat.le_of_ble_eq_true rfl, ?_⟩
    have em : mergeK [] [((Sum.inr "count" : Key), V.int 0), (Sum.inr "rests", V.ref p2)] = [((Sum.inr "count" : Key), V.int 0), (Sum.inr "rests", V.ref p2)] := by
      show putK (putK [] (Sum.inr "count" : Key) (V.int 0)) (Sum.inr "rests" : Key) (V.ref p2) = _
      unfold putK
      simp [sCR]
    rw [em]
    have sm : Same H (upd (upd (upd H p1 (.dK [])) p2 (.dK [])) p1 (.dK [(Sum.inr "count", V.int 0), (Sum.inr "rests", V.ref p2)])) := fun b o e => by
      rw [upd_ne (ne_of_none e h1), upd_ne (ne_of_none e h20), upd_ne (ne_of_none e h1)]
      exact e
    have S1 := hs.same sm
    have f1 := hs.free h1
    have f2 := hs.free h20
    have l1 : ad.length = M.length := hs.len
    have S3 : StOk c.K (ad ++ [p1, p2]) (upd (upd (upd H p1 (.dK [])) p2 (.dK [])) p1 (.dK [(Sum.inr "count", V.int 0), (Sum.inr "rests", V.ref p2)])) (M ++ [.town (M.length + 1), .rests]) := by
      have g : ∀ (i : Nat) (b : Addr), ad[i]? = some b → (ad ++ [p1, p2])[i]? = some b := fun i b z => by
        rw [List.getElem?_append_left (List.getElem?_eq_some_iff.mp z).1]
        exact z
      refine ⟨?_, by rw [List.length_append, List.length_append, l1]; rfl, fun j m e => ?_⟩
      · rw [List.nodup_append]
        refine ⟨hs.nd, List.nodup_cons.mpr ⟨fun z => ne (List.mem_singleton.mp z).symm, List.nodup_cons.mpr ⟨List.not_mem_nil, List.nodup_nil⟩⟩, fun a ha b hb z => ?_⟩
        subst z
        rcases List.mem_cons.mp hb with z | z
        · exact f1 (by rw [← z]; exact ha)
        · exact f2 (by rw [← List.mem_singleton.mp z]; exact ha)
      · by_cases hj : j < M.length
        · rw [List.getElem?_append_left hj] at e
          obtain ⟨a, ha, o⟩ := S1.obj j m e
          exact ⟨a, g j a ha, o.nx' g (Tx.refl _) fun _ z => z⟩
        · rw [List.getElem?_append_right (by omega)] at e
          have hlt := (List.getElem?_eq_some_iff.mp e).1
          have h2l : ([MO.town (M.length + 1), MO.rests] : List MO).length = 2 := rfl
          rw [h2l] at hlt
          have gg : ∀ i, i < 2 → (ad ++ [p1, p2])[M.length + i]? = [p1, p2][i]? := fun i _ => by
            rw [List.getElem?_append_right (by omega)]
            congr 1
            omega
          have hjj : j = M.length ∨ j = M.length + 1 := by omega
          rcases hjj with rfl | rfl
          · rw [Nat.sub_self] at e
            cases e
            exact ⟨p1, by have := gg 0 (by omega); rw [Nat.add_zero] at this; exact this, 0, p2, gg 1 (by omega), upd_same⟩
          · rw [show M.length + 1 - M.length = 1 by omega] at e
            cases e
            exact ⟨p2, gg 1 (by omega), [], by rw [upd_ne ne, upd_same], List.nodup_nil, fun p hp => by cases hp⟩
    refine q _ _ (ad ++ [p1, p2]) (.mut M.length) _ ⟨⟨[p1, p2], rfl⟩, fun a ha hn => ?_, fun a o _ e => sm a o e, Tx.same sm⟩ S3 ⟨p1, ?_, rfl⟩ h
    · rcases List.mem_append.mp ha with z | z
      · exact absurd z hn
      · rcases List.mem_cons.mp z with z | z
        · rw [z]; exact h1
        · rw [List.mem_singleton.mp z]; exact h20
    · rw [List.getElem?_append_right (by omega), show M.length - ad.length = 0 by omega]
      rfl⟩
/-! ### the script -/
theorem ca_lenScr {ns : List Int} (h : Post (.dat (.int ns.length)) M) : CallA c (.builtin "len") [.scr ns] M Post := fun z H ad hs vs r Q q => by
  obtain ⟨u, rfl, a, rfl, ru⟩ := repAs1 r
  refine ⟨_, call_len_seq, a, _, rfl, .inl ru.sq, ?_⟩
  rw [List.length_map]
  exact q _ H ad (.dat (.int ns.length)) M Nx.refl hs rfl h
theorem x_ixScr (h : EvX c δ M a fun x M1 => EvX c δ M1 b fun y M2 => ∃ (ns : List Int) (i n : Int), x = .scr ns ∧ y = .dat (.int i) ∧ atI ns i = some n ∧ Post (.dat (.int n)) M2) (hp : PlainIx b) : EvX c δ M (.Subscript a b pos) Post := fun y σ H ad he hs Q q =>
  ⟨_, pe_ix (r := rIx c.K) ix_seq wE_ok wE_ok hp, h y σ H ad he hs _ fun v H1 ad1 x M1 n1 s1 r1 p1 => p1 y σ H1 ad1 (he.nx n1) s1 _ fun u H2 ad2 z M2 n2 s2 r2 ⟨ns, i, n, ex, ez, ha, p2⟩ => by
    subst ex ez
    obtain ⟨pp, rfl, ru⟩ := r1.nx n2
    refine .inl ⟨pp, _, i, .int n, rfl, r2, ru.sq, ?_, q _ H2 ad2 (.dat (.int n)) M2 (n1.trans n2) s2 rfl p2⟩
    unfold atI at ha ⊢
    rw [List.length_map]
    cases z : ixN ns.length i with
    | none => rw [z] at ha; cases ha
    | some j =>
      rw [z] at ha
      show (ns.map V.int)[j]? = _
      rw [List.getElem?_map, show ns[j]? = some n from ha]
      rfl⟩
end

/-! ### == of data that is plain -/
def okD : Nat → D → Bool
  | _, .non => true
  | _, .bl _ => true
  | _, .int _ => true
  | _, .str x => PyData.strOk x
  | 0, .tup _ => false
  | n + 1, .tup ds => ds.all (okD n)
  | 0, .lis _ => false
  | n + 1, .lis ds => ds.all (okD n)
theorem okD_py : ∀ (n : Nat) (d : D), okD n d = true → d.py.canLay0 = true ∧ d.py.depth ≤ n
  | n, .non, _ => ⟨rfl, Nat.zero_le _⟩
  | n, .bl _, _ => ⟨rfl, Nat.zero_le _⟩
  | n, .int _, _ => ⟨rfl, Nat.zero_le _⟩
  | n, .str x, h => ⟨by cases n <;> exact h, Nat.zero_le _⟩
  | 0, .tup _, h => by cases h
  | 0, .lis _, h => by cases h
  | n + 1, .tup ds, h => by
    have gen : ∀ ds : List D, ds.all (okD n) = true → PyData.canLayAll0 (pys ds) = true ∧ PyData.depthAll (pys ds) ≤ n := by
      intro ds
      induction ds with
      | nil => intro _; exact ⟨rfl, Nat.zero_le _⟩
      | cons d ds ih =>
        intro h
        rw [List.all_cons, Bool.and_eq_true] at h
        obtain ⟨a1, a2⟩ := okD_py n d h.1
        obtain ⟨b1, b2⟩ := ih h.2
        refine ⟨?_, ?_⟩
        · show (PyData.canLay0 d.py && PyData.canLayAll0 (pys ds)) = true
          rw [a1, b1]; rfl
        · show max (PyData.depth d.py) (PyData.depthAll (pys ds)) ≤ n
          omega
    obtain ⟨h1, h2⟩ := gen ds h
    exact ⟨h1, Nat.succ_le_succ h2⟩
  | n + 1, .lis ds, h => by
    have gen : ∀ ds : List D, ds.all (okD n) = true → PyData.canLayAll0 (pys ds) = true ∧ PyData.depthAll (pys ds) ≤ n := by
      intro ds
      induction ds with
      | nil => intro _; exact ⟨rfl, Nat.zero_le _⟩
      | cons d ds ih =>
        intro h
        rw [List.all_cons, Bool.and_eq_true] at h
        obtain ⟨a1, a2⟩ := okD_py n d h.1
        obtain ⟨b1, b2⟩ := ih h.2
        refine ⟨?_, ?_⟩
        · show (PyData.canLay0 d.py && PyData.canLayAll0 (pys ds)) = true
          rw [a1, b1]; rfl
        · show max (PyData.depth d.py) (PyData.depthAll (pys ds)) ≤ n
          omega
    obtain ⟨h1, h2⟩ := gen ds h
    exact ⟨h1, Nat.succ_le_succ h2⟩
theorem okD_shaped {n : Nat} {d : D} (h : okD n d = true) (hn : n ≤ 60) : SeqAt.shaped d.py = true := by
  obtain ⟨a, b⟩ := okD_py n d h
  unfold SeqAt.shaped
  rw [a, decide_eq_true (by omega)]
  rfl
theorem okDs_shaped {n : Nat} {ds : List D} (h : ds.all (okD n) = true) (hn : n ≤ 50) : SeqAt.shaped (.list (pys ds)) = true := by
  have : okD (n + 1) (.tup ds) = true := h
  obtain ⟨a, b⟩ := okD_py (n + 1) (.tup ds) this
  unfold SeqAt.shaped
  have a2 : PyData.canLayAll0 (pys ds) = true := a
  have b2 : PyData.depthAll (pys ds) + 1 ≤ n + 1 := b
  rw [show PyData.canLay0 (.list (pys ds)) = PyData.canLayAll0 (pys ds) from rfl, a2, show PyData.depth (.list (pys ds)) = PyData.depthAll (pys ds) + 1 from rfl, decide_eq_true (by omega)]
  rfl
theorem ok_tI (n : Nat) (ns : List Int) : okD (n + 1) (tI ns) = true := by
  show (ns.map D.int).all (okD n) = true
  rw [List.all_map]
  apply List.all_eq_true.mpr
  intro x _
  cases n <;> rfl
theorem ok_tII (n : Nat) (b : List (List Int)) : okD (n + 2) (tII b) = true := by
  show (b.map tI).all (okD (n + 1)) = true
  rw [List.all_map]
  apply List.all_eq_true.mpr
  intro x _
  exact ok_tI n x
section
variable {c : SC} {M : List MO} {B : Bool → List MO → Prop}
theorem c_ne_same (n : Nat) {d d2 : D} (e : d = d2) (hd : okD n d = true) (h : B false M) (hn : n ≤ 60 := by decide) : CmpR c .NotEq (.dat d) (.dat d2) M B := by
  subst e
  refine c_neD trivial trivial (okD_shaped hd hn) (okD_shaped hd hn) ?_
  show B (!PyData.eqv d.py d.py) M
  rw [SeqAt.eqv_refl _ (okD_py n d hd).1]
  exact h
theorem c_eq_same (n : Nat) {d d2 : D} (e : d = d2) (hd : okD n d = true) (h : B true M) (hn : n ≤ 60 := by decide) : CmpR c .Eq (.dat d) (.dat d2) M B := by
  subst e
  refine c_eqD trivial trivial (okD_shaped hd hn) (okD_shaped hd hn) ?_
  show B (PyData.eqv d.py d.py) M
  rw [SeqAt.eqv_refl _ (okD_py n d hd).1]
  exact h
/-- two lists of data, the same -/
theorem c_neL_same (n : Nat) {x y : AV} {ds es : List D} (hx : IsL M x ds) (hy : IsL M y es) (e : ds = es) (hd : ds.all (okD n) = true) (h : B false M) (hn : n ≤ 50 := by decide) : CmpR c .NotEq x y M B := by
  subst e
  have py : ∀ {z : AV}, IsL M z ds → IsDat M z ∧ avPy M z = .list (pys ds) := by
    intro z hz
    rcases hz with rfl | ⟨j, rfl, hm⟩
    · exact ⟨trivial, rfl⟩
    · refine ⟨⟨ds, hm⟩, ?_⟩
      unfold avPy
      rw [hm]
  obtain ⟨a1, b1⟩ := py hx
  obtain ⟨a2, b2⟩ := py hy
  refine c_neD a1 a2 (by rw [b1]; exact okDs_shaped hd hn) (by rw [b2]; exact okDs_shaped hd hn) ?_
  rw [b1, b2, SeqAt.eqv_refl _ (SeqAt.canLay_of_shaped (okDs_shaped hd hn))]
  exact h
end
end Fx

/-! Fx, part F: max with default, xs[i] op= e, enumerate over tuples, zip of tuples, calls by keywords alone. -/
namespace Fx
open PySem L2

/-! ### max(xs, default=d), ints -/
def rMaxDf (K : PySem.W.Frag) : List V → List V → Hp → VK → Prop := fun xs zs H Q => ∃ (p : Addr) (ns : List Int) (d : Int), xs = [.ref p] ∧ zs = [.int d] ∧ SqL K H p (ns.map V.int) ∧ (ns = [] → Q (.int d) H) ∧ ∀ m, m ∈ ns → (∀ y ∈ ns, y ≤ m) → Q (.int m) H
theorem maxOf_int (x : Int) (xs : List Int) : PySem.W.maxOf x xs ∈ x :: xs ∧ ∀ y ∈ x :: xs, y ≤ PySem.W.maxOf x xs := by
  unfold PySem.W.maxOf
  induction xs generalizing x with
  | nil => exact ⟨List.mem_cons_self, fun y hy => by rw [List.mem_singleton.mp hy]; exact Int.le_refl _⟩
  | cons z zs ih =>
    rw [List.foldl_cons]
    obtain ⟨h1, h2⟩ := ih (if PySem.W.DatumOrd.lt x z = true then z else x)
    have hd : PySem.W.DatumOrd.lt x z = decide (x < z) := rfl
    rw [hd] at h1 h2 ⊢
    by_cases hx : x < z
    · rw [if_pos (decide_eq_true hx)] at h1 h2 ⊢
      refine ⟨List.mem_cons_of_mem _ h1, fun y hy => ?_⟩
      rcases List.mem_cons.mp hy with rfl | hy
      · have := h2 z List.mem_cons_self
        omega
      · exact h2 y hy
    · rw [if_neg (by simp only [decide_eq_true_eq]; exact hx)] at h1 h2 ⊢
      refine ⟨?_, fun y hy => ?_⟩
      · rcases List.mem_cons.mp h1 with e | h
        · rw [e]; exact List.mem_cons_self
        · exact List.mem_cons_of_mem _ (List.mem_cons_of_mem _ h)
      · rcases List.mem_cons.mp hy with rfl | hy
        · exact h2 y List.mem_cons_self
        · rcases List.mem_cons.mp hy with rfl | hy
          · have := h2 x List.mem_cons_self
            omega
          · exact h2 y (List.mem_cons_of_mem _ hy)
theorem crk_maxDf {X : Cx} (hc : X.calm = true) (hu : X.A.units + 1 < cLine) : CallRK X (.builtin "max") ["default"] (rMaxDf X.K) := by
  intro pins s σ H xs zs us ws Q I r1 r2 h
  obtain ⟨p, ns, d, rfl, rfl, hq, h0, h1⟩ := h
  obtain ⟨its, rv, hl, hz⟩ := I.list hq
  rw [Vals.ref1 r1]
  cases r2 with
  | cons r rr =>
    cases rr
    obtain ⟨t, rfl⟩ := r
    have hi := rv.ints
    refine PySem.W.max_list_datum_default (α := Int) (xs := ns) (I.ok.hd hc) hl.isList (PySem.W.HoldAll.of_ints (by simpa using hi)) (by show X.A.units + 1 + 0 < cLine; exact hu) (fun e h' tk hk => ⟨.int d, H, I.kept hk, ⟨_, rfl⟩, h0 e⟩) fun y ys i v h' tk e hi2 hv hk => ?_
    obtain ⟨as, rr2⟩ := hv
    obtain ⟨q1, q2⟩ := maxOf_int y ys
    rw [← e] at q1 q2
    cases rr2 with
    | int n t2 => exact ⟨.int _, H, I.kept hk, ⟨_, rfl⟩, h1 _ q1 q2⟩
section
variable {c : SC} {δ : Dl} {M : List MO} {Post : AQ} {a b e t : Expr} {es : List Expr} {pos p p1 p2 : Pos} {x : Str} {id : String}
def wCK (X : Cx) (f : Value) (ks : List Str) (xs zs : List V) (H : Hp) (Q : VK) : Prop := ∃ r, CallRK X f ks r ∧ r xs zs H Q
theorem wCK_ok {X : Cx} {f : Value} {ks : List Str} : CallRK X f ks (wCK X f ks) := fun pins s σ H xs zs us ws Q I r1 r2 ⟨r, h, q⟩ => h pins s σ H xs zs us ws Q I r1 r2 q
def CallAK (c : SC) (f : Value) (ks : List Str) (as bs : List AV) (M : List MO) (Post : AQ) : Prop :=
  ∀ (z : Dyn c) (H : Hp) (ad : List Addr), StOk c.K ad H M → ∀ vs us, RepAs c.K ad H as vs → RepAs c.K ad H bs us → ∀ Q : VK,
    (∀ v H2 ad2 a M2, Nx ad H ad2 H2 → StOk c.K ad2 H2 M2 → RepA c.K ad2 H2 a v → Post a M2 → Q v H2) → wCK z.cx f ks vs us H Q
theorem repAs_nx {K : PySem.W.Frag} {ad ad2 : List Addr} {H H2 : Hp} {as : List AV} {vs : List V} (n : Nx ad H ad2 H2) (r : RepAs K ad H as vs) : RepAs K ad2 H2 as vs := r.nx n
theorem x_bltK {kws : List Keyword} (ks : List Str) (hg : c.gl x) (hm : c.mg x = none) (hv : bootBuiltins x = some (.builtin id)) (h : EvA c δ M (e :: es) fun as M1 => EvK c δ M1 kws fun bs M2 => CallAK c (.builtin id) ks as bs M2 Post)
    (he : ∀ env, backTo pos (starEach (e :: es) env) = (false, eval e env) :: backTo pos (starEach es env)) (hpl : ∀ env, (backTo pos (starEach (e :: es) env)).any (·.1) = false) (hall : ∀ env, (backToKw pos (keywordEach kws env)).all (·.1.isSome) = true)
    (hno : ∀ env, (backToKw pos (keywordEach kws env)).any (·.1.isNone) = false) (hks : ∀ env, (backToKw pos (keywordEach kws env)).filterMap (·.1) = ks) (hn : x ≠ "__name__" := by decide) (hdb : (x == ("__debug__" : Str)) = false := by decide) :
    EvX c δ M (.Call (.Name x p) (e :: es) kws pos) Post := fun y σ H ad he' hs Q q =>
  ⟨_, pe_callBK (X := y.cx) wCK_ok (glS y hg) hm hv wA_ok wK_ok hn hdb (he y.env) (hpl y.env) (hall y.env) (hno y.env) (hks y.env), h y σ H ad he' hs _ fun vs H1 ad1 as M1 n1 s1 r1 p1 => p1 y σ H1 ad1 (he'.nx n1) s1 _ fun us H2 ad2 bs M2 n2 s2 r2 p2 =>
    p2 y H2 ad2 s2 vs us (r1.nx n2) r2 Q fun v H3 ad3 a3 M3 n3 s3 r3 p3 => q v H3 ad3 a3 M3 ((n1.trans n2).trans n3) s3 r3 p3⟩
theorem ck_maxDf {v : AV} {ns : List Int} {d : Int} (hv : IsL M v (ns.map .int)) (h0 : ns = [] → Post (.dat (.int d)) M) (h : ∀ m, m ∈ ns → (∀ y, y ∈ ns → y ≤ m) → Post (.dat (.int m)) M) : CallAK c (.builtin "max") ["default"] [v] [.dat (.int d)] M Post := fun z H ad hs vs us r r2 Q q => by
  obtain ⟨u, rfl, ru⟩ := repAs1 r
  obtain ⟨u2, rfl, ru2⟩ := repAs1 r2
  obtain ⟨pp, xs, rfl, hq, rr⟩ := hv.sq hs ru
  rw [reps_ints.mp rr] at hq
  rw [show u2 = .int d from ru2]
  exact ⟨_, crk_maxDf rfl (hu_of z.room), pp, ns, d, rfl, rfl, hq, fun e => q _ H ad (.dat (.int d)) M Nx.refl hs rfl (h0 e), fun m h1 h2 => q _ H ad (.dat (.int m)) M Nx.refl hs rfl (h m h1 h2)⟩

/-! ### xs[i] op= e -/
def rGetL (K : PySem.W.Frag) : V → V → Hp → VK → Prop := fun o i H Q => ∃ p xs n v, o = .ref p ∧ i = .int (n : Nat) ∧ SqL K H p xs ∧ xs[n]? = some v ∧ Q v H
theorem get_listN {X : Cx} : PGet X (rGetL X.K) := by
  intro pins s σ H o i ov iv Q I ro ri h
  obtain ⟨p, xs, n, v, rfl, rfl, hq, hx, q⟩ := h
  cases ro
  obtain ⟨t, rfl⟩ := ri
  obtain ⟨its, rv, hl, hz⟩ := I.list hq
  obtain ⟨u, hu, ru⟩ := rv.get hx
  have hn := (List.getElem?_eq_some_iff.mp hx).1
  have h63 := line63
  exact wpAny_getItem_list hl.isList (by omega) (by omega) (by simpa using hu) ⟨v, H, I, ru, q⟩
theorem s_augS {D : AE} {o i : Expr} {op : Operator} (h : EvX c δ M o fun w M1 => EvX c δ M1 i fun u M2 => ∃ (j n : Nat) (ds : List Fx.D) (d : Fx.D), w = .mut j ∧ u = .dat (.int (n : Nat)) ∧ M2[j]? = some (.lst ds) ∧ ds[n]? = some d ∧
      EvX c δ M2 e fun v M3 => BinR c (inplaceOp op) (.dat d) v M3 fun r M4 => ∃ (d' : Fx.D) (ds4 : List Fx.D), r = .dat d' ∧ M4[j]? = some (.lst ds4) ∧ n < ds4.length ∧ D.nx δ (M4.set j (.lst (ds4.set n d'))))
    (ha : ∀ ov iv new, augStore i ov iv new = (do holding [new, ov, iv] (setItem ov iv new); release [new, ov, iv] []; pure .next)) : Run1 c δ M (.AugAssign (.Subscript o i p) op e pos) D := fun y σ H ad he hs E q =>
  ⟨_, ps_augS wE_ok wE_ok get_listN wE_ok (wO_ok (X := y.cx) (f := inplaceOp op)) set_list ha, h y σ H ad he hs _ fun w H1 ad1 a1 M1 n1 s1 r1 p1 => p1 y σ H1 ad1 (he.nx n1) s1 _ fun u H2 ad2 a2 M2 n2 s2 r2 ⟨j, n, ds, d, e1, e2, hm, hd, p2⟩ => by
    subst e1 e2
    obtain ⟨qq, xs, rfl, hq, hx, rr⟩ := st_lst s2 (r1.nx n2) hm
    obtain ⟨v0, hv0, rv0⟩ := rr.get hd
    have n12 := n1.trans n2
    refine ⟨qq, xs, n, v0, rfl, r2, .inl (.inl hx), hv0, p2 y σ H2 ad2 (he.nx n12) s2 _ fun v H3 ad3 a3 M3 n3 s3 r3 p3 => ?_⟩
    refine p3 y H3 ad3 s3 v0 v (show RepA c.K ad3 H3 (.dat d) v0 from Rep.tx n3.tx rv0) r3 _ fun v4 H4 ad4 a4 M4 n4 s4 r4 ⟨d', ds4, e4, hm4, hn4, p4⟩ => ?_
    subst e4
    obtain ⟨q4, xs4, e5, hq4, hx4, rr4⟩ := st_lst s4 ((((show RepA c.K ad2 H2 (.mut j) (.ref qq) from ⟨qq, hq, rfl⟩).nx n3).nx n4)) hm4
    cases e5
    obtain ⟨s5, n5⟩ := put_lst (ds := ds4) (ys := xs4.set n v4) s4 hq4 hx4 (rr4.set r4 n)
    have n15 := ((n12.trans n3).trans n4).trans n5
    refine ⟨qq, xs4, n, n, rfl, r2, hx4, ?_, q.nx σ _ ad4 δ _ n15 (he.nx n15) s5 p4⟩
    unfold ixN
    rw [if_pos (by omega), if_pos (by rw [rr4.length]; omega)]
    simp⟩
end

end Fx

/-! Fx, part G: enumerate over a tuple, zip of tuples, calls by keywords alone. -/
namespace PySem
open Sem (wp)
open AutoSeq1 (wpAny_loadPart')
theorem meets_enumerate_newT9 (l : Addr) (items : Array Value) (n : Nat) (dct : Option Addr) (sl : Array (Option Value)) :
    Meets (Builtin.«enumerate.__new__» ⟨[.type "enumerate", .ref l], []⟩) (fun _ R s => s.heap.get? l = some { cls := .type "tuple", dict := dct, data := .seq items n, slots := sl } ∧
      R (.ok (.ret (.ref (s.heap.push { cls := .type "tuple_iterator", data := .fields #[.ref l, .int 0 0] }).objs.size)))
        { s with heap := (s.heap.push { cls := .type "tuple_iterator", data := .fields #[.ref l, .int 0 0] }).push { cls := .type "enumerate", data := .fields #[.none, .bool false, .ref s.heap.objs.size, rawInt 0, .none, .none] } }) :=
  .of_wp fun prog w A R s h => by
    obtain ⟨hp, g, d, tk, os⟩ := s; obtain ⟨hl, h⟩ := h
    have hsub := sub_enumerate
    have hL : Heap.IsTuple (Shared.heap ⟨hp, g, d, tk, os⟩) l items := ⟨_, hl, rfl, n, rfl⟩
    wp_walk using wpAny_loadPart' hl
    refine wpAny_stack_any fun st => wpAny_pure ?_
    split
    · rename_i c _ _ _ _ _
      cases (c == Value.type "enumerate")
      · wp_walk using wpAny_loadPart' hl, wpAny_pyIter_tuple hL
        exact ⟨_, rfl, h⟩
      · wp_walk using wpAny_loadPart' hl, wpAny_pyIter_tuple hL
        exact ⟨_, rfl, h⟩
    · wp_walk using wpAny_loadPart' hl, wpAny_pyIter_tuple hL
      exact ⟨_, rfl, h⟩
section
variable {prog : Program} {w : World} {A : Around} {E : Value → Shared → Prop} {s : Shared}
theorem call_enumerate_tuple9 {l : Addr} {items : Array Value} {Q : Value → Shared → Prop} (hL : s.heap.IsTuple l items)
    (h : ∀ h', IsEnum h' (s.heap.objs.size + 1) s.heap.objs.size 0 .none → h'.IsTupleIter s.heap.objs.size l 0 → h'.objs.size = s.heap.objs.size + 2 →
      (∀ b o, s.heap.get? b = some o → h'.get? b = some o) → Q (.ref (s.heap.objs.size + 1)) { s with heap := h' }) :
    wpAny (model prog w) A (call (.type "enumerate") [.ref l]) Q E s := by
  obtain ⟨⟨c, dct, dt, sl⟩, hl, hc, n, hd⟩ := hL
  replace hc : c = .type "tuple" := hc
  replace hd : dt = .seq items n := hd
  subst hc hd
  refine callType_new F.called_enumerate (by decide) (F.typeCall_enumerate_1 _) (F.newCall_enumerate_1 _) (fun obj => F.args_object_init_2 obj _) F.entry_enumerate_new
    (meets_enumerate_newT9 l items n dct sl) ⟨hl, ?_⟩
  have hz : (s.heap.push { cls := .type "tuple_iterator", data := .fields #[.ref l, .int 0 0] }).objs.size = s.heap.objs.size + 1 := Heap.size_push ..
  show _ ∧ _
  rw [hz]
  have he : IsEnum ((s.heap.push { cls := .type "tuple_iterator", data := .fields #[.ref l, .int 0 0] }).push
      { cls := .type "enumerate", data := .fields #[.none, .bool false, .ref s.heap.objs.size, rawInt 0, .none, .none] }) (s.heap.objs.size + 1) s.heap.objs.size 0 .none := by
    have := Heap.get?_push_size (s.heap.push { cls := .type "tuple_iterator", data := .fields #[.ref l, .int 0 0] })
      (o := { cls := .type "enumerate", data := .fields #[.none, .bool false, .ref s.heap.objs.size, rawInt 0, .none, .none] }) rfl
    rw [hz] at this; exact this
  refine ⟨⟨_, he, rfl⟩, h _ he ⟨_, Heap.get?_push_of_some _ (Heap.get?_push_size _ rfl), rfl, rfl⟩ (by rw [Heap.size_push, hz]) fun b o x => Heap.get?_push_of_some _ (Heap.get?_push_of_some _ x)⟩
theorem pyNext_enumT_end9 {e it l : Addr} {i : Nat} {items : Array Value} {old : Value} {Q : Option Value → Shared → Prop} (hh : A.handled = none)
    (he : IsEnum s.heap e it i old) (hit : s.heap.IsTupleIter it l i) (hl : s.heap.IsTuple l items) (hx : items[i]? = none)
    (hQ : ∀ h', Heap.ExtBut it s.heap h' → Q none { s with heap := h' }) : wpAny (model prog w) A (pyNext (.ref e)) Q E s := by
  have hT : s.TypeIs (.ref e) "enumerate" := ⟨_, he, rfl⟩
  unfold pyNext
  refine wpAny_bind (wpAny_attempt (wpAny_callSpecial?_slot (name := Str.ofString "__next__") hT F.slot_enumerate_next
    (wpAny_call_entry F.slot_enumerate_next hT F.entry_enumerate_next ?_ (F.args_enumerate_next_1 _))))
  show wpAny _ _ (field (.ref e) 2 >>= _) _ _ _
  refine wpAny_bind (wpAny_field he rfl (x := .ref it) rfl ?_)
  refine wpAny_bind (wpAny_nextOf_tuple_end hh hit hl hx fun h' x he' hx' => ?_)
  obtain ⟨o, ho, hc⟩ := hx'
  refine wpAny_bind (wpAny_isInstance (T := "StopIteration") (b := true) ⟨o, ho, hc⟩ isSubtype_stop ?_)
  exact wpAny_pure (hQ _ he')
end
end PySem
namespace L2
open PySem PySem.Spec PyProof.Rows
/-- the tuple at a, each item in a new pair -/
def IteT (K : PySem.W.Frag) (a : Addr) : It :=
  ⟨fun i H => ∃ (xs : List V) (x : V), SqT K H a xs ∧ xs[i]? = some x, fun i H v H' => ∃ T x, v = .ref T ∧ H T = none ∧ H' = upd H T (.tup [.int (i : Nat), x]) ∧ ∀ xs, SqT K H a xs → xs[i]? = some x, fun i H => ∃ xs : List V, SqT K H a xs ∧ xs.length ≤ i⟩
theorem turn_enumT {P : Program} {w : World} {K : PySem.W.Frag} {elts : List Expr} {kk : Nat} {tpos : Pos} (a e it : Addr) (hea : e ≠ a) (hia : a ≠ it) (hei : e ≠ it) :
    Turn P w K (.Tuple elts kk tpos) (IteT K a) [e, it] e (fun i h => (∃ old, IsEnum h e it ((i : Nat) : Int) old) ∧ h.IsTupleIter it a i) where
  mem := by simp
  obj := fun i h st b hb => by
    obtain ⟨⟨old, he⟩, ⟨o, ho, hc, hd⟩⟩ := st
    have e' : b = e ∨ b = it := by simpa using hb
    rcases e' with z | z
    · rw [z]; exact ⟨_, he, fun v q => nomatch q⟩
    · rw [z]; exact ⟨o, ho, fun v q => by rw [hd] at q; cases q⟩
  keep := fun i h h' st k => let ⟨⟨old, he⟩, hi⟩ := st; ⟨⟨old, k e (by simp) _ he⟩, hi.at fun o q => k it (by simp) o q⟩
  item := by
    intro X hP hw hK hc i pins s σ H E I hf st hg
    subst hP hw hK
    obtain ⟨⟨old, he⟩, hit⟩ := st
    obtain ⟨xs, x, hq, hx⟩ := hg
    obtain ⟨its, rv, p, hz⟩ := I.tuple hq
    obtain ⟨u, hu, ru⟩ := rv.get hx
    have hel : e < s.heap.objs.size := Heap.lt_size he
    have hil : it < s.heap.objs.size := by obtain ⟨_, q, _⟩ := hit; exact Heap.lt_size q
    have hil2 : i < its.toArray.size := by
      have := (List.getElem?_eq_some_iff.mp hu).1
      simpa using this
    refine wpAny_pyNext_enum_itemD (Draws.tuple (A := X.A.in1) (I.ok.hd hc) it a hia its.toArray) he ⟨hit, (show s.heap.IsTuple a its.toArray from p)⟩ hil2 hei (by simp [hei, hea]) fun z h' tk hz' ho hst' hT hsz hk => ?_
    have ezu : z = u := by
      have h1 : its.toArray[i]? = some u := by simpa using hu
      rw [h1] at hz'
      exact (Option.some.inj hz').symm
    subst ezu
    obtain ⟨hit', _⟩ := hst'
    refine ⟨_, rfl, wpAny_letOwnedTupleGo_enum (s := { s with heap := h', toks := tk + 1 }) ho fun h'' he' sb => ?_⟩
    have hT2 : h''.get? s.heap.objs.size = some { cls := .type "tuple", data := .seq #[.int i tk, z] } := (sb.2 _ (Nat.ne_of_gt hel)).trans hT
    have new : ObjOk X.prog X.w (upd H s.heap.objs.size (.tup [.int (i : Nat), x])) h'' s.heap.objs.size (.tup [.int (i : Nat), x]) :=
      ⟨by show 2 ≤ sizeLine; decide, [.int i tk, z], .cons ⟨_, rfl⟩ (.cons ru .nil), ⟨_, hT2, rfl, _, rfl⟩⟩
    have I1 : Inv X pins σ (upd H s.heap.objs.size (.tup [.int (i : Nat), x])) { s with heap := h'', toks := tk + 1 } :=
      I.turnedNew (ch := [e, it]) (fun b ob hb q => (sb.2 b (fun z => hb (by simp [z]))).trans (hk b ob (fun z => hb (by simp [z])) (fun z => hb (by simp [z])) q)) hf (Nat.le_refl _) new
    refine ⟨.ref s.heap.objs.size, _, I1, rfl, ⟨_, x, rfl, I.hok.fresh (Nat.le_refl _), rfl, fun ys hy => by rw [I.tuple_inj hy hq]; exact hx⟩, ⟨⟨z, ?_⟩, hit'.at fun o q => (sb.2 it (Ne.symm hei)).trans q⟩, fun b hb => ?_⟩
    · have e1 : ((i + 1 : Nat) : Int) = (i : Int) + 1 := by omega
      rw [e1]; exact he'
    · have hb' : b < s.heap.objs.size := by
        have e' : b = e ∨ b = it := by simpa using hb
        rcases e' with z | z
        · rw [z]; exact hel
        · rw [z]; exact hil
      rw [upd_ne (Nat.ne_of_lt hb')]
      exact (hf b hb).1
  done := by
    intro X hP hw hK hc i pins s σ H E I hf st hg
    subst hP hw hK
    obtain ⟨⟨old, he⟩, hit⟩ := st
    obtain ⟨xs, hq, hx⟩ := hg
    obtain ⟨its, rv, p, hz⟩ := I.tuple hq
    obtain ⟨f0, f1, f2, f3, f4, f5⟩ := hf it (by simp)
    have hl := rv.length
    exact pyNext_enumT_end9 (I.ok.hd hc) he hit (show s.heap.IsTuple a its.toArray from p) (by simp; omega) fun h' eb => ⟨rfl, I.turned (t' := s.toks) (fun b o hb q => eb b o hb q) f0 f1 f3 f4 f5⟩
  self := fun A i s Q E st h => let ⟨⟨_, he⟩, _⟩ := st; wpAny_pyIter_enum he h
def iEnumT (K : PySem.W.Frag) (ta : TA) : TI := fun σ H R => ta σ H fun vs H1 => ∃ a xs, vs = [.ref a] ∧ SqT K H1 a xs ∧ R (IteT K a) H1
theorem pi_enumT {X : Cx} {e : Expr} {ta : TA} {p pos tpos : Pos} {elts : List Expr} {kk : Nat} (hg : Gl X "enumerate") (hm : X.mg "enumerate" = none) (ha : PA X [e] ta) (hs : starEach [e] X.env = [(false, eval e X.env)]) :
    PI X (.Tuple elts kk tpos) (.Call (.Name "enumerate" p) [e] [] pos) (iEnumT X.K ta) := by
  refine ⟨fun pins s σ H R I h => ?_⟩
  refine Call_ (ld_blt I hg hm boot_enumerate (PyProof.Rows.callWith_type1 (thn (ha.run pos pins s σ H _ I h) fun us s1 ⟨vs, H1, I1, r1, q1⟩ => ?_) hs rfl))
  obtain ⟨a, xs, ex, hq, q⟩ := q1
  subst ex
  cases r1 with
  | cons r rr =>
    cases rr
    cases r
    obtain ⟨its, rv, p', hz⟩ := I1.tuple hq
    have hal : a < s1.heap.objs.size := by
      obtain ⟨o, ho, _⟩ := id p'
      exact Heap.lt_size ho
    refine call_enumerate_tuple9 (show s1.heap.IsTuple a its.toArray from p') fun h' he hit hsz hk => wpAny_pyIter_enum he ?_
    have I2 : Inv X pins σ H1 { s1 with heap := h' } := I1.kept (t' := s1.toks) hk
    refine ⟨s1.heap.objs.size + 1, [s1.heap.objs.size + 1, s1.heap.objs.size], _, _, H1, rfl, I2, turn_enumT a (s1.heap.objs.size + 1) s1.heap.objs.size (Nat.ne_of_gt (Nat.lt_succ_of_lt hal)) (Nat.ne_of_lt hal) (Nat.succ_ne_self _), ⟨⟨.none, he⟩, hit⟩, fun b hb => ?_, q⟩
    have e' : b = s1.heap.objs.size + 1 ∨ b = s1.heap.objs.size := by simpa using hb
    have hle : s1.heap.objs.size ≤ b := by
      rcases e' with z | z
      · rw [z]; exact Nat.le_add_right _ _
      · rw [z]; exact Nat.le_refl _
    exact I1.fpOk hle (I1.hok.fresh hle)
/-- f(k = v, ..) -/
theorem pe_callK00 {X : Cx} {CX : CXT} {k : Nat} {f : Addr} {fd : FuncData} {ps ks : List Str} {sp : Sp} {x : Str} {p pos : Pos} {kws : List Keyword} {g : List Value → List Value → List Value} {gV : List V → List V → List V} {E : XK} {tk : TA}
    (F : FnOk X.prog X.w X.K X.mg X.base CX k f fd ps sp) (hr : Room k X.A) (hg : Gl X x) (hm : X.mg x = some (.ref f)) (hk : PySem.W.keepIn X.K (.ref f) = true) (hb : KBinds X.K fd ps ks g gV) (hx : Passes CX X E)
    (hkw : PK X kws tk) (hall : (backToKw pos (keywordEach kws X.env)).all (·.1.isSome) = true) (hks : (backToKw pos (keywordEach kws X.env)).filterMap (·.1) = ks)
    (hdb : (x == ("__debug__" : Str)) = false)
    (hpl : ((backTo pos (starEach [] X.env)).any (·.1) || (backToKw pos (keywordEach kws X.env)).any (·.1.isNone)) = false) :
    PE X (.Call (.Name x p) [] kws pos) (fun σ H Q => tk σ H fun zs H2 => sp (gV [] zs) H2 Q E) := by
  refine ⟨fun pins s σ H Q I h => ?_⟩
  refine wpAny_Call_Name_kw (ld_glob I hg hm ?_ hdb)
  refine PySem.W.callWith_KW0 (h₀ := X.base) I.ok.mod.kin hk hall ?_ hpl
  refine thn (hkw.run pos pins s σ H _ I h) fun ws s2 ⟨zs, H2, I2, rz, q2⟩ => ⟨I2.kIn, ?_⟩
  rw [hks]
  exact run_fnk (us := []) (vs := []) F hr hb hx I2 .nil rz q2
end L2
namespace Fx
open PySem L2
section
variable {c : SC} {δ : Dl} {M : List MO} {Post : AQ} {a b e t : Expr} {es : List Expr} {pos p p1 p2 tpos : Pos} {x : Str} {Pi : List D → Option Nat → List MO → Prop} {elts : List Expr} {kk : Nat}
def enumD (ds : List D) : List D := ds.zipIdx.map fun q => D.tup [.int (q.2 : Nat), q.1]
theorem enumD_len (ds : List D) : (enumD ds).length = ds.length := by unfold enumD; rw [List.length_map, List.length_zipIdx]
theorem enumD_get {ds : List D} {i : Nat} {d : D} (h : (enumD ds)[i]? = some d) : ∃ d', ds[i]? = some d' ∧ d = .tup [.int (i : Nat), d'] := by
  unfold enumD at h
  rw [List.getElem?_map, List.getElem?_zipIdx] at h
  cases q : ds[i]? with
  | none => rw [q] at h; cases h
  | some d' =>
    rw [q] at h
    have := Option.some.inj h
    exact ⟨d', rfl, by rw [← this]; simp⟩
theorem walks_enumT {K : PySem.W.Frag} {ad : List Addr} {H : Hp} {ds : List D} {q : Addr} {xs : List V} (hq : SqT K H q xs) (rr : Reps K H ds xs) : Walks K (IteT K q) ad H (enumD ds) none := fun ad2 H2 M2 n s _ i => by
  have hq2 := sqT_tx n.tx hq
  have rr2 := rr.tx n.tx
  refine ⟨fun d hd => ?_, fun e => ⟨xs, hq2, by rw [rr2.length, e, enumD_len]; exact Nat.le_refl _⟩⟩
  obtain ⟨d', hd', rfl⟩ := enumD_get hd
  obtain ⟨w, hw, rw'⟩ := rr2.get hd'
  refine ⟨⟨xs, w, hq2, hw⟩, fun x H3 ⟨T, y, e1, hT, e3, hy⟩ => ?_⟩
  subst e1 e3
  have := hy xs hq2
  rw [hw] at this
  cases this
  have sm := same_new (o := .tup [.int (i : Nat), w]) hT
  exact ⟨sm, T, _, rfl, .inl (.inl upd_same), _, _, rfl, rfl, _, _, rfl, Rep.tx (Tx.same sm) rw', rfl⟩
theorem i_enumT (hm : c.mg "enumerate" = none) (hg : c.gl "enumerate") (h : EvA c δ M [e] fun as M1 => ∃ ds, as = [.dat (.tup ds)] ∧ Pi (enumD ds) none M1)
    (hs1 : ∀ env, starEach [e] env = [(false, eval e env)]) : EvI c δ M (.Tuple elts kk tpos) (.Call (.Name "enumerate" p) [e] [] pos) Pi := fun y σ H ad he hs R q =>
  ⟨_, pi_enumT (glS y hg) hm wA_ok (hs1 y.env), h y σ H ad he hs _ fun vs H1 ad1 as M1 n1 s1 r1 ⟨ds, e1, p1⟩ => by
    subst e1
    obtain ⟨v, e2, qq, xs, e3, hq, rr⟩ := repAs1 r1
    subst e2 e3
    exact ⟨qq, xs, rfl, hq, q _ H1 ad1 _ _ M1 n1 s1 (walks_enumT hq rr) p1⟩⟩
/-- zip of two tuples -/
def zipD (ds es : List D) : List D := (ds.zip es).map fun q => D.tup [q.1, q.2]
theorem zipD_get {ds es : List D} {i : Nat} {d : D} (h : (zipD ds es)[i]? = some d) : ∃ d1 d2, ds[i]? = some d1 ∧ es[i]? = some d2 ∧ d = .tup [d1, d2] := by
  unfold zipD at h
  rw [List.getElem?_map] at h
  cases q : (ds.zip es)[i]? with
  | none => rw [q] at h; cases h
  | some d' =>
    rw [q] at h
    have := Option.some.inj h
    obtain ⟨h1, h2⟩ := List.getElem?_zip_eq_some.mp q
    exact ⟨d'.1, d'.2, h1, h2, this.symm⟩
theorem walks_zipT {K : PySem.W.Frag} {ad : List Addr} {H : Hp} {ds es : List D} {qa qb : Addr} {xs ys : List V} (hq : SqT K H qa xs) (rr : Reps K H ds xs) (hq' : SqT K H qb ys) (rr' : Reps K H es ys) : Walks K (RZ.ItzT K qa qb) ad H (zipD ds es) none := fun ad2 H2 M2 n s _ i => by
  have hq2 := sqT_tx n.tx hq
  have rr2 := rr.tx n.tx
  have hq2' := sqT_tx n.tx hq'
  have rr2' := rr'.tx n.tx
  refine ⟨fun d hd => ?_, fun e => ⟨xs, ys, hq2, hq2', ?_⟩⟩
  · obtain ⟨d1, d2, h1, h2, rfl⟩ := zipD_get hd
    obtain ⟨w, hw, rw'⟩ := rr2.get h1
    obtain ⟨w2, hw2, rw2⟩ := rr2'.get h2
    refine ⟨⟨xs, ys, w, w2, hq2, hq2', hw, hw2⟩, fun x H3 ⟨T, y, z, e1, hT, e3, hy, hz⟩ => ?_⟩
    subst e1 e3
    have := hy xs hq2
    rw [hw] at this
    cases this
    have := hz ys hq2'
    rw [hw2] at this
    cases this
    have sm := same_new (o := .tup [w, w2]) hT
    exact ⟨sm, T, _, rfl, .inl (.inl upd_same), _, _, rfl, Rep.tx (Tx.same sm) rw', _, _, rfl, Rep.tx (Tx.same sm) rw2, rfl⟩
  · have hl : (zipD ds es).length = min ds.length es.length := by unfold zipD; rw [List.length_map, List.length_zip]
    rw [rr2.length, rr2'.length]
    omega
theorem i_zipT (hm : c.mg "zip" = none) (hg : c.gl "zip") (h : EvA c δ M [a, b] fun as M1 => ∃ ds es, as = [.dat (.tup ds), .dat (.tup es)] ∧ Pi (zipD ds es) none M1)
    (hs1 : ∀ env, starEach [a, b] env = (false, eval a env) :: starEach [b] env) (hpl : ∀ env, (backTo pos (starEach [b] env)).any (·.1) = false) : EvI c δ M (.Tuple elts kk tpos) (.Call (.Name "zip" p) [a, b] [] pos) Pi := fun y σ H ad he hs R q =>
  ⟨_, RZ.pi_zipA (glS y hg) hm wA_ok (hs1 y.env) (hpl y.env), h y σ H ad he hs _ fun vs H1 ad1 as M1 n1 s1 r1 ⟨ds, es, e1, p1⟩ => by
    subst e1
    obtain ⟨v, v2, e2, ⟨qa, xs, e3, hq, rr⟩, ⟨qb, ys, e4, hq', rr'⟩⟩ := repAs2 r1
    subst e2 e3 e4
    exact ⟨qa, qb, xs, ys, rfl, .inr ⟨hq, hq', q _ H1 ad1 _ _ M1 n1 s1 (walks_zipT hq rr hq' rr') p1⟩⟩⟩
/-- f(k = v, ..), in the order of the parameters -/
theorem x_callK0 {A : ASp} {kws : List Keyword} {n k : Nat} {st : Stmt} {ps : List Str} (ks : List Str) (F : DefOk c.P c.w c.K c.mg c.base k x st ps (spOf c.K ps.length A)) (hk : k ≤ c.k) (hg : c.gl x)
    (hB : ∀ (kV doc pm : Value) (an : Option Addr) (cdv ct : Value) (ws : List Value), ws.length = n → bindArgs (PySem.W.fnOf x x (defArgs st) (defBody st) (defScope st) .none kV doc pm an cdv ct) ⟨[], ks.zip ws⟩ = pure (ps.zip ws))
    (hmn : ps.length = n) (hn0 : 0 < n)
    (h : EvK c δ M kws fun bs M2 => bs.length = n ∧ A bs M2 Post)
    (hall : ∀ env, (backToKw pos (keywordEach kws env)).all (·.1.isSome) = true) (hks : ∀ env, (backToKw pos (keywordEach kws env)).filterMap (·.1) = ks)
    (hpl : ∀ env, ((backTo pos (starEach [] env)).any (·.1) || (backToKw pos (keywordEach kws env)).any (·.1.isNone)) = false) (hdb : (x == ("__debug__" : Str)) = false := by decide) : EvX c δ M (.Call (.Name x p) [] kws pos) Post := fun y σ H ad he hs Q q => by
  obtain ⟨fa, fd, hm, F1, hb, ok⟩ := F.ex
  have kb : KBinds c.K fd ps ks (ordK 0 n) (ordK 0 n) := by
    obtain ⟨oc, od, kV, doc, pm, an, cdv, ct, osl, rfl, lk, hcd⟩ := F1.ex
    refine ⟨fun s us ws _ hl => ?_, fun {vs us zs ws} r1 r2 => ?_⟩
    · unfold ordK at hl ⊢
      by_cases hc : us.length = 0 ∧ ws.length = n
      · rw [if_pos hc]
        have eu : us = [] := List.eq_nil_of_length_eq_zero hc.1
        subst eu
        exact .of_eq (hB kV doc pm an cdv ct ws hc.2)
      · rw [if_neg hc] at hl
        have : ([] : List Value).length = 0 := rfl
        omega
    · unfold ordK
      rw [r1.length, r2.length]
      by_cases hc : us.length = 0 ∧ ws.length = n
      · rw [if_pos hc, if_pos hc]
        exact vals_append r1 r2
      · rw [if_neg hc, if_neg hc]
        exact .nil
  refine ⟨_, pe_callK00 (X := y.cx) (ks := ks) ok (y.room.mono hk) (glS y hg) hm F1.kp kb pass0 wK_ok (hall y.env) (hks y.env) hdb (hpl y.env), h y σ H ad he hs _ fun us H2 ad2 bs M2 n2 s2 r2 ⟨l2, hA⟩ => ?_⟩
  have e1 : ([] : List V).length = 0 ∧ us.length = n := ⟨rfl, by rw [repAs_length r2]; exact l2⟩
  unfold ordK
  rw [if_pos e1]
  exact ⟨by rw [List.nil_append, e1.2, hmn], ad2, bs, M2, Post, s2, r2, hA, fun v H3 ad3 a3 M3 n3 s3 r3 p3 => q v H3 ad3 a3 M3 (n2.trans n3) s3 r3 p3⟩
/-- a new list goes into the store at once -/
theorem x_N (h : EvF c δ M e fun ds M1 => Post (.mut M1.length) (M1 ++ [.lst ds])) : EvX c δ M e Post := fun y σ H ad he hs Q q =>
  h y σ H ad he hs Q fun pq xs H2 ad2 ds M2 n s f1 f2 f3 f4 z => q (.ref pq) H2 (ad2 ++ [pq]) (.mut M2.length) _ (push_nx n f1 f2) (s.push (m := .lst ds) f2 ⟨xs, f3, f4⟩) ⟨pq, by rw [← s.len, List.getElem?_append_right (Nat.le_refl _), Nat.sub_self]; rfl, rfl⟩ z
/-- x, y = a, b -/
theorem s_p2 {D : AE} {x2 : Str} {i j : Nat} {px py pt pt2 : Pos} {kt k2 : Nat} [hi : VarAt c.N x i] [hj : VarAt c.N x2 j] [hk : NamesOk c.N] (hij : i ≠ j) (hx : c.sc.names.lookup x = some .local) (hy : c.sc.names.lookup x2 = some .local)
    (h : EvA c δ M [a, b] fun as M1 => ∃ v w, as = [v, w] ∧ D.nx ((δ.set i (some v)).set j (some w)) M1)
    (hw : ∀ env : Env, env.scope = c.sc → swappedStores [.Tuple [.Name x px, .Name x2 py] kt pt] (.Tuple [a, b] k2 pt2) env = pure (some [x, x2]))
    (hs1 : ∀ env, swapsWithSole [.Tuple [.Name x px, .Name x2 py] kt pt] (.Tuple [a, b] k2 pt2) pos.line env = pure false) :
    Run1 c δ M (.Assign [.Tuple [.Name x px, .Name x2 py] kt pt] (.Tuple [a, b] k2 pt2) pos) D := s_par i j hi.get hj.get hk.nd hij hx hy h hw hs1
theorem swaps_of {S : Scope} {ts : List Expr} {v : Expr} {r : Sem (Option (List Str))} (h : ∀ (env : Env), swappedStores ts v { env with scope := S } = r) : ∀ env : Env, env.scope = S → swappedStores ts v env = r := fun env e => by
  have := h env
  rw [← e] at this
  exact this
/-- xs * n, a new list -/
theorem f_repL {Pf : List D → List MO → Prop} (h : EvX c δ M a fun x M1 => EvX c δ M1 b fun y M2 => ∃ (ds : List D) (n : Int), IsL M2 x ds ∧ y = .dat (.int n) ∧ 0 ≤ n ∧ n ≤ 1000 ∧ ds.length ≤ 1000 ∧ Pf (List.replicate n.toNat ds).flatten M2) : EvF c δ M (.BinOp a .Mult b pos) Pf := fun y σ H ad he hs Q q =>
  ⟨_, pe_op op_rep wE_ok wE_ok, h y σ H ad he hs _ fun v H1 ad1 x M1 n1 s1 r1 p1 => p1 y σ H1 ad1 (he.nx n1) s1 _ fun u H2 ad2 z M2 n2 s2 r2 ⟨ds, n, hx, e2, h0, hn, hl, p2⟩ => by
    subst e2
    obtain ⟨pp, xs, rfl, h1, rr⟩ := hx.at_ s2 (r1.nx n2)
    have hm : xs.length * n.toNat ≤ 1000 * 1000 := Nat.mul_le_mul (by rw [rr.length]; exact hl) (by omega)
    refine ⟨pp, n, xs, rfl, r2, h1, by omega, by omega, Nat.le_trans hm (by decide), fun q2 hq2 => ?_⟩
    have sm := same_new (o := .lst (List.replicate n.toNat xs).flatten) hq2
    have n12 := n1.trans n2
    have reps : ∀ k : Nat, Reps c.K H2 (List.replicate k ds).flatten (List.replicate k xs).flatten := by
      intro k
      induction k with
      | zero => rfl
      | succ k ih =>
        rw [List.replicate_succ, List.replicate_succ, List.flatten_cons, List.flatten_cons]
        exact rr.append ih
    exact q q2 _ _ ad2 _ M2 (n12.trans (Nx.same sm)) (s2.same sm) (free_back n12 s2 hq2) (s2.free hq2) upd_same ((reps _).tx (Tx.same sm)) p2⟩
/-- xs + ys, a new list -/
theorem f_catL {Pf : List D → List MO → Prop} (h : EvX c δ M a fun x M1 => EvX c δ M1 b fun y M2 => ∃ ds es : List D, IsL M2 x ds ∧ IsL M2 y es ∧ ds.length + es.length ≤ 1000000 ∧ Pf (ds ++ es) M2) : EvF c δ M (.BinOp a .Add b pos) Pf := fun y σ H ad he hs Q q =>
  ⟨_, pe_op op_cat wE_ok wE_ok, h y σ H ad he hs _ fun v H1 ad1 x M1 n1 s1 r1 p1 => p1 y σ H1 ad1 (he.nx n1) s1 _ fun u H2 ad2 z M2 n2 s2 r2 ⟨ds, es, hx, hy, hl, p2⟩ => by
    obtain ⟨pp, xs, rfl, h1, rr⟩ := hx.at_ s2 (r1.nx n2)
    obtain ⟨pp2, ys, rfl, h2, rr2⟩ := hy.at_ s2 r2
    refine ⟨pp, pp2, xs, ys, rfl, rfl, h1, h2, by rw [rr.length, rr2.length]; exact Nat.le_trans hl (by decide), fun q2 hq2 => ?_⟩
    have sm := same_new (o := .lst (xs ++ ys)) hq2
    have n12 := n1.trans n2
    exact q q2 _ _ ad2 _ M2 (n12.trans (Nx.same sm)) (s2.same sm) (free_back n12 s2 hq2) (s2.free hq2) upd_same ((rr.append rr2).tx (Tx.same sm)) p2⟩
end
end Fx

/-! Fx, part H: sum of a tuple, slices by their ends, == of lists. -/
namespace L2
open PySem PySem.Spec PyProof.Rows
section
variable {prog : Program} {w : World} {A : Around} {E : Value → Shared → Prop} {s : Shared} {l : Addr} {its : List Value} {ns : List Int} {Q : Value → Shared → Prop}
theorem sum_tupRaw (hh : A.handled = none) (hl : s.heap.IsTuple l its.toArray) (hi : IntsAre its ns)
    (h : ∀ h' tk t', (∀ b o, s.heap.get? b = some o → h'.get? b = some o) → Q (.int ns.sum t') { s with heap := h', toks := tk }) : wpAny (model prog w) A (call (.builtin "sum") [.ref l]) Q E s := by
  obtain ⟨xs, e⟩ := hi.allInts.items
  have hn : numsOf (intItems xs).toList = ns := by rw [← e]; exact hi.numsOf
  rw [nums_intItems] at hn
  rw [e] at hl
  have hlt : l < s.heap.objs.size := by obtain ⟨_, e, _⟩ := hl; exact Heap.lt_size e
  refine call_sum_walkG (wpAny_pyIter_tuple hl ?_)
  refine ⟨_, _, _, _, _, _, numAt xs, rfl, Walks.tuple (A := A.in1) hh _ l (Nat.ne_of_lt hlt) (intItems xs), ⟨⟨_, Heap.get?_push_size _ rfl, rfl, rfl⟩, hl.push _⟩, fun b hb => ?_, (fun _ _ => intItems_at), fun h' tk t' hk => ?_⟩
  · show b < (s.heap.push _).objs.size
    rw [Heap.size_push]
    rcases List.mem_cons.mp hb with rfl | hb
    · exact Nat.lt_succ_self _
    · rcases List.mem_cons.mp hb with rfl | hb
      · exact Nat.lt_succ_of_lt hlt
      · cases hb
  · have := h h' tk t' fun b o e => by
      refine hk b o (fun hm => ?_) (Heap.get?_push_of_some _ e)
      rcases List.mem_cons.mp hm with e1 | hm
      · exact absurd (e1 ▸ Heap.lt_size e) (Nat.lt_irrefl _)
      · cases hm
    rw [preSum_eq, List.take_of_length_le (by simp [intItems]), hn]; exact this
end
def rSumT (K : PySem.W.Frag) : List V → Hp → VK → Prop := fun vs H Q => ∃ (a : Addr) (ns : List Int), vs = [V.ref a] ∧ SqT K H a (ns.map V.int) ∧ Q (.int ns.sum) H
theorem cr_sumT {X : Cx} (hc : X.calm = true) : CallR X (.builtin "sum") (rSumT X.K) := by
  intro pins s σ H vs us Q I r h
  obtain ⟨a, ns, rfl, hs, q⟩ := h
  obtain ⟨its, rv, hl, _⟩ := I.tuple hs
  rw [Vals.ref1 r]
  exact sum_tupRaw (I.ok.hd hc) (show s.heap.IsTuple a its.toArray from hl) rv.ints fun h' tk t' hk => ⟨.int _, H, I.kept hk, ⟨_, rfl⟩, q⟩
end L2
namespace Fx
open PySem L2
section
variable {c : SC} {δ : Dl} {M : List MO} {Post : AQ} {B : Bool → List MO → Prop}
theorem ca_sumT {ns : List Int} (h : Post (.dat (.int ns.sum)) M) : CallA c (.builtin "sum") [.dat (tI ns)] M Post := fun z H ad hs vs r Q q => by
  obtain ⟨u, rfl, pp, xs, rfl, hq, rr⟩ := repAs1 r
  rw [reps_ints.mp rr] at hq
  exact ⟨_, cr_sumT rfl, pp, ns, rfl, hq, q _ H ad (.dat (.int ns.sum)) M Nx.refl hs rfl h⟩
theorem cut_hi (ds : List D) (k : Nat) : cutD ds none (some (k : Int)) = ds.take k := by
  unfold cutD
  rw [HT.sIx_none, HT.sIx_nat, List.drop_zero, Nat.sub_zero]
  by_cases h : k ≤ ds.length
  · rw [Nat.min_eq_left h]
  · rw [Nat.min_eq_right (by omega), List.take_of_length_le (Nat.le_refl _), List.take_of_length_le (by omega)]
theorem cut_lo (ds : List D) (k : Nat) : cutD ds (some (k : Int)) none = ds.drop k := by
  unfold cutD
  rw [HT.sIx_none, HT.sIx_nat]
  by_cases h : k ≤ ds.length
  · rw [Nat.min_eq_left h, List.take_of_length_le (by rw [List.length_drop]; exact Nat.le_refl _)]
  · rw [Nat.min_eq_right (by omega), List.drop_of_length_le (by omega), List.drop_of_length_le (by omega)]
    simp
theorem c_eqL_same (n : Nat) {x y : AV} {ds es : List D} (hx : IsL M x ds) (hy : IsL M y es) (e : ds = es) (hd : ds.all (okD n) = true) (h : B true M) (hn : n ≤ 50 := by decide) : CmpR c .Eq x y M B := by
  subst e
  have py : ∀ {z : AV}, IsL M z ds → IsDat M z ∧ avPy M z = .list (pys ds) := by
    intro z hz
    rcases hz with rfl | ⟨j, rfl, hm⟩
    · exact ⟨trivial, rfl⟩
    · refine ⟨⟨ds, hm⟩, ?_⟩
      unfold avPy
      rw [hm]
  obtain ⟨a1, b1⟩ := py hx
  obtain ⟨a2, b2⟩ := py hy
  refine c_eqD a1 a2 (by rw [b1]; exact okDs_shaped hd hn) (by rw [b2]; exact okDs_shaped hd hn) ?_
  rw [b1, b2, SeqAt.eqv_refl _ (SeqAt.canLay_of_shaped (okDs_shaped hd hn))]
  exact h
theorem o_none {Po : Option Int → List MO → Prop} (h : Po none M) : EvO c δ M none Po := h
theorem o_some {e : Expr} {Po : Option Int → List MO → Prop} (h : EvX c δ M e fun a M1 => ∃ i, a = .dat (.int i) ∧ Po (some i) M1) : EvO c δ M (some e) Po := h
end
end Fx

/-! Fx, part I: len(set(a) & set(b)), tuples of ints. -/
namespace L2
open PySem PySem.Spec PyProof.Rows
section
variable {P : Program} {w : World} {A : Around} {E : Value → Shared → Prop} {s : Shared} {a : Addr} {es : Array (Int × Value)} {ep : Nat} {t : SetTable}
theorem setWalk_at {Q : Array (Int × Value) → Shared → Prop} (ha : SetAt s.heap a es ep t) (hf : t.fits es.size = true) (hl : w.params.followText "set-order" = true ∨ t.led = true)
    (h : ∀ ys d, ys.toList.Perm es.toList → Q ys { s with drawn := d }) : wpAny (model P w) A (setWalk a) Q E s := by
  obtain ⟨o, ho, _, hd⟩ := ha
  unfold setWalk
  refine wpAny_bind (wpAny_setState_of ho hd hf ?_)
  dsimp only
  refine wpAny_bind (wpAny_byText ?_)
  cases hb : w.params.followText "set-order" with
  | true =>
    refine wp_if_pos rfl ?_
    exact wpAny_bind (wpAny_askSetting (wpAny_pure (h _ s.drawn (pick_perm _ es))))
  | false =>
    have hled : t.led = true := hl.resolve_left (by rw [hb]; exact Bool.false_ne_true)
    refine wp_if_neg Bool.false_ne_true ?_
    try refine wpAny_bind (wpAny_pure ?_)
    cases hdr : (!t.plain && decide (es.size > 1)) with
    | true =>
      refine wp_if_pos (by show (!t.plain && decide (es.size > 1)) = true; exact hdr) ?_
      refine wpAny_bind (drawOrder_at _ _ _ _ (by rw [Array.length_toList]; exact Nat.le_refl _) fun ys d hp => wpAny_pure (h _ d ?_))
      exact hp
    | false =>
      refine wp_if_neg (by show ¬ ((!t.plain && decide (es.size > 1)) = true); rw [hdr]; exact Bool.false_ne_true) ?_
      try refine wpAny_bind (wpAny_pure ?_)
      refine wpAny_bind (wpAny_of_eq (a := ()) ?_ ?_)
      · show (if (!t.led && decide (es.size > 1)) = true then unsupported "set:maker-not-led" else pure ()) = pure ()
        rw [hled] <;> rfl
      · exact wpAny_pure (h _ s.drawn (List.Perm.refl _))
theorem setsQuiet_ints {Q : Bool → Shared → Prop} {sets : List Addr} (hs : ∀ b ∈ sets, ∃ es ep t, SetAt s.heap b es ep t ∧ t.fits es.size = true ∧ ∀ e ∈ es.toList, GoodE e) (h : Q true s) : wpAny (model P w) A (setsQuiet sets) Q E s := by
  unfold setsQuiet
  refine wpAny_bind (wpAny_forIn_list _ (fun rest b s' => (∀ x ∈ rest, x ∈ sets) ∧ b = ⟨none, ()⟩ ∧ s' = s) _ ?_ ?_ sets _ ⟨fun _ h => h, rfl, rfl⟩)
  · rintro x rest b s' ⟨hx, rfl, rfl⟩
    obtain ⟨es, ep, t, ⟨o, ho, _, hd⟩, hf, g⟩ := hs x (hx x List.mem_cons_self)
    refine wpAny_bind (wpAny_setEntries_of ho hd hf ?_)
    refine wpAny_bind (PySem.MeetsSeq2.wpAny_forIn_array _ (fun rest b s'' => (∀ x ∈ rest, x ∈ es.toList) ∧ b = ⟨none, ()⟩ ∧ s'' = s') _ ?_ ?_ es _ ⟨fun _ h => h, rfl, rfl⟩)
    · rintro y rest2 b s'' ⟨hy, rfl, rfl⟩
      obtain ⟨k, tk, e1, e2⟩ := g y (hy y List.mem_cons_self)
      obtain ⟨y1, y2⟩ := y
      simp only at e1
      subst e1
      exact wpAny_pure ⟨fun z hz => hy z (List.mem_cons_of_mem _ hz), rfl, rfl⟩
    · rintro b s'' ⟨_, rfl, rfl⟩
      exact wpAny_pure ⟨fun z hz => hx z (List.mem_cons_of_mem _ hz), rfl, rfl⟩
  · rintro b s' ⟨_, rfl, rfl⟩
    exact wpAny_pure h
theorem walkUnseen_at {Q : Array (Int × Value) → Shared → Prop} {r b : Addr} {S : Int → Bool} {n : Nat} (ha : SetAt s.heap a es ep t) (hf : t.fits es.size = true) (g : ∀ e ∈ es.toList, GoodE e) (hl : w.params.followText "set-order" = true ∨ t.led = true)
    (hb : SetR w s.heap b S n) (hr : SetR w s.heap r (fun _ => false) 0) (hra : r ≠ a)
    (h : ∀ ys d h', ys.toList.Perm es.toList → Heap.SameBut r s.heap h' → SetR w h' r (fun _ => false) 0 → Q ys { s with heap := h', drawn := d }) : wpAny (model P w) A (setWalkUnseen a [b, r] (some r)) Q E s := by
  obtain ⟨o, ho, hcl, hd⟩ := id ha
  unfold setWalkUnseen
  refine wpAny_bind (wpAny_setState_of ho hd hf ?_)
  dsimp only
  refine wpAny_bind (wpAny_byText ?_)
  have walk : wpAny (model P w) A (setWalk a) Q E s := setWalk_at ha hf hl fun ys d hp => h ys d s.heap hp (Heap.SameBut.refl r s.heap) hr
  cases hc : (w.params.followText "set-order" || (t.led && t.plain) || decide (es.size ≤ 1)) with
  | true =>
    refine wp_if_pos (by first | rfl | exact hc) ?_
    first | exact walk | exact wpAny_bind (wpAny_mono walk (fun ys s' q => wpAny_pure q) fun _ _ e => e)
  | false =>
    refine wp_if_neg (by first | exact Bool.false_ne_true | (rw [hc]; exact Bool.false_ne_true)) ?_
    try refine wpAny_bind (wpAny_pure ?_)
    obtain ⟨or', er, epr, tr, hor, hexr, hdr, gr, ndr, hmr, hbr, hfr, hnr, hrr, hlr⟩ := id hr
    have q1 : ∀ x ∈ [a, b, r], ∃ es ep t, SetAt s.heap x es ep t ∧ t.fits es.size = true ∧ ∀ e ∈ es.toList, GoodE e := by
      intro x hx
      rcases List.mem_cons.mp hx with rfl | hx
      · exact ⟨es, ep, t, ha, hf, g⟩
      rcases List.mem_cons.mp hx with rfl | hx
      · obtain ⟨o2, e2, ep2, t2, ho2, hex2, hd2, g2, _, _, _, hf2, _⟩ := hb
        exact ⟨e2, ep2, t2, ⟨o2, ho2, hex2.1, hd2⟩, hf2, g2⟩
      · rw [List.mem_singleton.mp hx]
        exact ⟨er, epr, tr, ⟨or', hor, hexr.1, hdr⟩, hfr, gr⟩
    refine wpAny_bind (setsQuiet_ints q1 ?_)
    refine wp_if_neg (by simp) ?_
    try refine wpAny_bind (wpAny_pure ?_)
    refine wpAny_bind (wpAny_rule ?_)
    refine wpAny_bind (wpAny_setState_of hor hdr hfr ?_)
    dsimp only
    have er0 : er = #[] := by
      apply Array.eq_empty_of_size_eq_zero
      exact hnr
    cases hc2 : ((tr.led && !t.led) || (tr.plain && !t.plain)) with
    | false =>
      refine wp_if_neg (by first | exact Bool.false_ne_true | (rw [hc2]; exact Bool.false_ne_true)) ?_
      exact wpAny_pure (h es s.drawn s.heap (List.Perm.refl _) (Heap.SameBut.refl r s.heap) hr)
    | true =>
      refine wp_if_pos (by first | rfl | exact hc2) ?_
      refine wpAny_bind (wpAny_storeSet_of hor hdr ?_ (fits_of_scanBound hbr))
      refine wpAny_pure (h es s.drawn _ (List.Perm.refl _) (Heap.SameBut.update s.heap r _) ?_)
      have ho1 := store_at (es' := er) (t' := { tr with led := tr.led && t.led, plain := tr.plain && t.plain }) hor hdr
      refine ⟨_, er, _, _, ho1, hexr, rfl, gr, ndr, hmr, hbr, ?_, hnr, hrr, ?_⟩
      · exact hfr
      · rcases hl with z | z
        · exact .inl z
        · rcases hlr with y | y
          · exact .inl y
          · refine .inr ?_
            show (tr.led && t.led) = true
            rw [y, z]; rfl
/-- the walk over one set, asking another -/
theorem inter_loop {Q : PUnit → Shared → Prop} {wa ask r : Addr} {ew : Array (Int × Value)} {epw : Nat} {tw : SetTable} {U : Int → Bool} {n : Nat} {nm : String} (hw : SetAt s.heap wa ew epw tw) (hfw : tw.fits ew.size = true) (gw : ∀ e ∈ ew.toList, GoodE e) (ndw : (ew.toList.map keyOf).Nodup)
    (hlw : w.params.followText "set-order" = true ∨ tw.led = true) (Rq : SetR w s.heap ask U n) (Rr : SetR w s.heap r (fun _ => false) 0) (hrw : r ≠ wa) (hrq : r ≠ ask) (room : ew.size + 1 < scanBound)
    (h : ∀ (out : List Int) (d : Drawn) (h' : Heap), out.Nodup → (∀ k, k ∈ out ↔ k ∈ ew.toList.map keyOf ∧ U k = true) → SetR w h' r (fun j => decide (j ∈ out)) out.length → Heap.SameBut r s.heap h' → Q PUnit.unit { s with heap := h', drawn := d }) :
    wpAny (model P w) A (do
      let was ← setEpoch wa
      let l ← setWalkUnseen wa [ask, r] (some r)
      forIn l PUnit.unit fun x __s => do
        holding [x.snd] do
          let f ← setFind ask x.snd x.fst
          if f.isSome = true then do
            let _ ← setAddHashed r x.snd x.fst
            pure ()
          else pure ()
        Builtin.Frozenset.unchanged nm wa was
        pure (ForInStep.yield PUnit.unit)
      pure PUnit.unit) Q E s := by
  obtain ⟨ow, how, hcw, hdw⟩ := id hw
  refine wpAny_bind (wpAny_setEpoch_of how hdw hfw ?_)
  refine wpAny_bind (walkUnseen_at hw hfw gw hlw Rq Rr hrw fun ys d h1 hp sb1 Rr1 => ?_)
  have sz : ys.toList.length = ew.size := by rw [hp.length_eq, Array.length_toList]
  refine wpAny_bind (PySem.MeetsSeq2.wpAny_forIn_array _ (fun rest _ s' => ∃ (done : List (Int × Value)) (h' : Heap), done ++ rest = ys.toList ∧ s' = { s with heap := h', drawn := d } ∧ Heap.SameBut r s.heap h' ∧
    SetR w h' r (fun j => decide (j ∈ (done.map keyOf).filter U)) ((done.map keyOf).filter U).length) _ ?_ ?_ ys _ ⟨[], h1, rfl, rfl, sb1, Rr1⟩)
  · rintro x rest b s' ⟨done, h', hd, rfl, sb, R⟩
    have hx : x ∈ ys.toList := by rw [← hd]; exact List.mem_append_right _ List.mem_cons_self
    obtain ⟨k, tk, e1, e2⟩ := gw x (hp.mem_iff.mp hx)
    obtain ⟨x1, x2⟩ := x
    simp only at e1 e2
    subst e1 e2
    have Rq' : SetR w h' ask U n := Rq.at fun o e => (sb.2 ask hrq.symm).trans e
    have how' : h'.get? wa = some ow := (sb.2 wa hrw.symm).trans how
    have nd : ((done ++ (hashInt k, Value.int k tk) :: rest).map keyOf).Nodup := by
      rw [hd]
      exact (hp.map keyOf).nodup_iff.mpr ndw
    have hlen : done.length + 1 ≤ ew.size := by
      rw [← sz, ← hd, List.length_append, List.length_cons]
      omega
    have hfl : ((done.map keyOf).filter U).length ≤ done.length := Nat.le_trans (List.length_filter_le _ _) (by rw [List.length_map]; exact Nat.le_refl _)
    have hnk : k ∉ done.map keyOf := by
      rw [List.map_append, List.map_cons] at nd
      have z := (List.nodup_append.mp nd).2.2
      intro q
      exact z k q k List.mem_cons_self rfl
    have emap : (done ++ [(hashInt k, Value.int k tk)]).map keyOf = done.map keyOf ++ [k] := by rw [List.map_append]; rfl
    have tail : ∀ (R' : ForInStep PUnit → Shared → Prop) (h2 : Heap), Heap.SameBut r s.heap h2 → R' (.yield PUnit.unit) { s with heap := h2, drawn := d } →
        wpAny (model P w) A (do
          Builtin.Frozenset.unchanged nm wa epw
          pure (ForInStep.yield PUnit.unit)) R' E { s with heap := h2, drawn := d } := fun R' h2 sb2 q => by
      unfold Builtin.Frozenset.unchanged
      have how2 : h2.get? wa = some ow := (sb2.2 wa hrw.symm).trans how
      refine wpAny_bind (wpAny_bind (wpAny_setEpoch_of (s := { s with heap := h2, drawn := d }) how2 hdw hfw ?_))
      exact wp_if_neg (by simp) (wpAny_pure (wpAny_pure q))
    refine wpAny_bind (wpAny_holding ?_)
    refine wpAny_bind (wpAny_setFind_of (knd := intKind P w) (s := { s with heap := h', drawn := d }) (k := k) (intKind_is P w k tk) rfl Rq'.setOf fun f hf => ?_)
    cases hU : U k with
    | false =>
      refine wp_if_neg (by rw [hf, hU]; exact Bool.false_ne_true) (wpAny_pure ?_)
      refine tail _ h' sb ⟨done ++ [(hashInt k, Value.int k tk)], h', by rw [List.append_assoc]; exact hd, rfl, sb, ?_⟩
      rw [emap, List.filter_append, List.filter_cons, if_neg (by rw [hU]; exact Bool.false_ne_true), List.filter_nil, List.append_nil]
      exact R
    | true =>
      refine wp_if_pos (by rw [hf, hU]) ?_
      refine wpAny_bind (setR_add_hashed (s := { s with heap := h', drawn := d }) R (by omega) fun h2 sb2 R2 => wpAny_pure ?_)
      refine tail _ h2 (sb.trans sb2) ⟨done ++ [(hashInt k, Value.int k tk)], h2, by rw [List.append_assoc]; exact hd, rfl, sb.trans sb2, ?_⟩
      rw [emap, List.filter_append, List.filter_cons, if_pos hU, List.filter_nil]
      have hk2 : k ∉ (done.map keyOf).filter U := fun z => hnk (List.mem_filter.mp z).1
      rw [if_neg (by simp only [decide_eq_true_eq]; exact hk2)] at R2
      rw [List.length_append]
      have e : ∀ j, decide (j ∈ (done.map keyOf).filter U ++ [k]) = (decide (j ∈ (done.map keyOf).filter U) || decide (j = k)) := fun j => by
        by_cases h1 : j ∈ (done.map keyOf).filter U
        · rw [decide_eq_true h1, decide_eq_true (List.mem_append_left _ h1)]; rfl
        · by_cases h2 : j = k
          · rw [decide_eq_true h2, decide_eq_true (List.mem_append_right _ (by rw [h2]; exact List.mem_singleton.mpr rfl)), Bool.or_true]
          · rw [decide_eq_false h1, decide_eq_false h2, decide_eq_false (fun z => (List.mem_append.mp z).elim h1 fun y => h2 (List.mem_singleton.mp y))]; rfl
      exact R2.congr e
  · rintro b s' ⟨done, h', hd, rfl, sb, R⟩
    rw [List.append_nil] at hd
    subst hd
    refine wpAny_pure (h _ d h' ?_ (fun k => ?_) R sb)
    · exact List.Pairwise.filter _ ((hp.map keyOf).nodup_iff.mpr ndw)
    · rw [List.mem_filter, (hp.map keyOf).mem_iff]
/-- what both have -/
theorem inter_at {Q : Value → Shared → Prop} {b : Addr} {S T : Int → Bool} {n m : Nat} {nm : String} (Ra : SetR w s.heap a S n) (Rb : SetR w s.heap b T m) (hab : a ≠ b) (room : n + m + 1 < scanBound)
    (h : ∀ (out : List Int) (d : Drawn) (h' : Heap), out.Nodup → (∀ k, k ∈ out ↔ S k = true ∧ T k = true) → SetR w h' s.heap.objs.size (fun j => decide (j ∈ out)) out.length → (∀ c o, s.heap.get? c = some o → h'.get? c = some o) → Q (.ref s.heap.objs.size) { s with heap := h', drawn := d }) :
    wpAny (model P w) A (Builtin.Frozenset.intersection nm a (.ref b)) Q E s := by
  obtain ⟨oa, ea, epa, ta, hoa, hexa, hda, ga, nda, hma, hba, hfa, hna, hra, hla⟩ := id Ra
  obtain ⟨ob, eb, epb, tb, hob, hexb, hdb, gb, ndb, hmb, hbb, hfb, hnb, hrb, hlb⟩ := id Rb
  have hta : s.TypeIs (.ref a) "set" := ⟨oa, hoa, hexa.1⟩
  have hal : a < s.heap.objs.size := Heap.lt_size hoa
  have hbl : b < s.heap.objs.size := Heap.lt_size hob
  unfold Builtin.Frozenset.intersection
  refine wp_if_neg (by simp; exact fun e => hab e.symm) ?_
  try refine wpAny_bind (wpAny_pure ?_)
  refine wpAny_bind (m := Builtin.Frozenset.baseOf a) ?_
  unfold Builtin.Frozenset.baseOf
  refine wpAny_bind (wpAny_isInstance (T := "set") (b := true) hta sub_set_self (wpAny_pure ?_))
  simp only [if_true]
  refine wpAny_bind (m := newSet (.type "set")) ?_
  unfold newSet
  refine wpAny_bind (wpAny_byText ?_)
  dsimp only
  simp only [newObj]
  refine wpAny_bind (wpAny_alloc (wpAny_pure ?_))
  refine wpAny_bind (m := Builtin.Frozenset.addrOf _) (wpAny_pure ?_)
  refine wpAny_bind (wpAny_holding ?_)
  have keep0 : ∀ c o, s.heap.get? c = some o → (s.heap.push { cls := .type "set", dict := none, data := .set #[] 0 (.fresh 0 0 (!w.params.followText "set-order")) }).get? c = some o := fun c o e => Heap.get?_push_of_some _ e
  have Rr := setR_fresh (h := s.heap) w
  have Ra1 := Ra.at (keep0 a)
  have Rb1 := Rb.at (keep0 b)
  generalize hh0 : s.heap.push { cls := .type "set", dict := none, data := .set #[] 0 (.fresh 0 0 (!w.params.followText "set-order")) } = h0 at keep0 Rr Ra1 Rb1
  have htb : Shared.TypeIs { s with heap := h0 } (.ref b) "set" := ⟨ob, keep0 _ _ hob, hexb.1⟩
  refine wpAny_bind (m := Builtin.Frozenset.isAnySet _) ?_
  unfold Builtin.Frozenset.isAnySet
  refine wpAny_bind (wpAny_isInstance (T := "set") (b := true) htb sub_set_self ?_)
  refine wpAny_pure ?_
  refine wp_if_pos rfl ?_
  refine wpAny_bind (m := Builtin.Frozenset.addrOf _) (wpAny_pure ?_)
  unfold Builtin.Frozenset.sizeOf
  refine wpAny_bind (wpAny_bind (wpAny_setEntries_of (s := { s with heap := h0 }) (keep0 _ _ hob) hdb hfb (wpAny_pure ?_)))
  refine wpAny_bind (wpAny_bind (wpAny_setEntries_of (s := { s with heap := h0 }) (keep0 _ _ hoa) hda hfa (wpAny_pure ?_)))
  have fin : ∀ (out : List Int) (d : Drawn) (h' : Heap), out.Nodup → (∀ k, k ∈ out ↔ S k = true ∧ T k = true) → SetR w h' s.heap.objs.size (fun j => decide (j ∈ out)) out.length → Heap.SameBut s.heap.objs.size h0 h' →
      wpAny (model P w) A (pure (Value.ref s.heap.objs.size)) Q E { s with heap := h', drawn := d } := fun out d h' h1 h2 h3 sb =>
    wpAny_pure (h out d h' h1 h2 h3 fun c o e => (sb.2 c (Nat.ne_of_lt (Heap.lt_size e))).trans (keep0 c o e))
  by_cases hsz : eb.size > ea.size
  · simp only [if_pos hsz]
    exact inter_loop (s := { s with heap := h0 }) ⟨oa, keep0 _ _ hoa, hexa.1, hda⟩ hfa ga nda hla Rb1 Rr (Nat.ne_of_gt hal) (Nat.ne_of_gt hbl) (by omega) fun out d h' h1 h2 h3 sb => fin out d h' h1 (fun k => by rw [h2 k, hma k]) h3 sb
  · simp only [if_neg hsz]
    exact inter_loop (s := { s with heap := h0 }) ⟨ob, keep0 _ _ hob, hexb.1, hdb⟩ hfb gb ndb hlb Ra1 Rr (Nat.ne_of_gt hbl) (Nat.ne_of_gt hal) (by omega) fun out d h' h1 h2 h3 sb => fin out d h' h1 (fun k => by rw [h2 k, hmb k, And.comm]) h3 sb
theorem entry_set_and9 : entryFor table "set.__and__" = some Builtin.«frozenset.__and__» :=
  entryFor_alias (id' := "frozenset.__and__") (by kernel_rfl) rfl (by decide +kernel) (by kernel_rfl)
/-- set & set -/
theorem and_at {Q : Value → Shared → Prop} {b : Addr} {S T : Int → Bool} {n m : Nat} (Ra : SetR w s.heap a S n) (Rb : SetR w s.heap b T m) (hab : a ≠ b) (room : n + m + 1 < scanBound)
    (h : ∀ (out : List Int) (d : Drawn) (h' : Heap), out.Nodup → (∀ k, k ∈ out ↔ S k = true ∧ T k = true) → SetR w h' s.heap.objs.size (fun j => decide (j ∈ out)) out.length → (∀ c o, s.heap.get? c = some o → h'.get? c = some o) → Q (.ref s.heap.objs.size) { s with heap := h', drawn := d }) :
    wpAny (model P w) A (binaryOp .BitAnd (.ref a) (.ref b)) Q E s := by
  obtain ⟨oa, ea, epa, ta, hoa, hexa, hda, _⟩ := id Ra
  obtain ⟨ob, eb, epb, tb, hob, hexb, hdb, _⟩ := id Rb
  have hta : s.TypeIs (.ref a) "set" := ⟨oa, hoa, hexa.1⟩
  have htb : s.TypeIs (.ref b) "set" := ⟨ob, hob, hexb.1⟩
  refine wpAny_binaryOp_same (op := .BitAnd) hta htb F.fills_set_and F.slot_set_and ?_
  refine wpAny_call_entry F.slot_set_and hta entry_set_and9 ?_ (F.args_set_and_2 _ _)
  unfold Builtin.«frozenset.__and__»
  refine wpAny_bind (m := Builtin.Frozenset.slot1 "__and__" _) (wpAny_of_eq (a := (.ref a, .ref b)) (by rfl) ?_)
  dsimp only
  simp only [Bool.false_eq_true, if_false]
  refine wpAny_bind ?_
  refine wpAny_bind (m := Builtin.Frozenset.isAnySet _) ?_
  unfold Builtin.Frozenset.isAnySet
  refine wpAny_bind (wpAny_isInstance (T := "set") (b := true) hta sub_set_self (wpAny_pure ?_))
  refine wpAny_bind (wpAny_isInstance (T := "set") (b := true) htb sub_set_self (wpAny_pure ?_))
  refine wp_if_neg (by simp) ?_
  try refine wpAny_bind (wpAny_pure ?_)
  refine wpAny_bind (inter_at Ra Rb hab room fun out d h' h1 h2 h3 k => wpAny_pure ⟨_, rfl, (by intro z; cases z), h out d h' h1 h2 h3 k⟩)
end
end L2

namespace L2
open PySem PySem.Spec PyProof.Rows
/-- a set of ints at a, the ints of out -/
def SetO (w : World) (a : Addr) (S : Int → Bool) (n : Nat) : HO := .ext fun h => SetR w h a S n
theorem setO_new {P : Program} {w : World} {H : Hp} {h : Heap} {a : Addr} {S : Int → Bool} {n : Nat} (R : SetR w h a S n) : ObjOk P w H h a (SetO w a S n) := by
  obtain ⟨o, es, ep, t, ho, r⟩ := id R
  exact ⟨R, ⟨o, ho⟩, fun h1 h2 p k => SetR.at p k⟩
section
variable {X : Cx}
def rSetOfI (K : PySem.W.Frag) (w : World) : List V → Hp → VK → Prop := fun xs H Q => ∃ (l : Addr) (ns : List Int), xs = [V.ref l] ∧ SqT K H l (ns.map V.int) ∧ ns.length ≤ 1000 ∧
  ∀ a n, H a = none → n ≤ ns.length → Q (.ref a) (upd H a (SetO w a (fun j => decide (j ∈ ns)) n))
theorem cr_setOfI9 (hc : X.calm = true) : CallR X (.type "set") (rSetOfI X.K X.w) := by
  intro pins s σ H xs us Q I r h
  obtain ⟨l, ns, rfl, hl, hf, q⟩ := h
  rw [Vals.ref1 r]
  obtain ⟨its, rv, pt, hz⟩ := I.tuple hl
  have hn : H s.heap.objs.size = none := I.hok.fresh (Nat.le_refl _)
  have hi : IntsAre its.toArray.toList ns := ints_of_vals rv
  refine call_set_tupI ns (I.ok.hd hc) (show s.heap.IsTuple l its.toArray from pt) hi (by unfold scanBound; omega) fun h' tk c R1 hcn k => ?_
  exact ⟨.ref s.heap.objs.size, upd H s.heap.objs.size (SetO X.w s.heap.objs.size (fun j => decide (j ∈ ns)) c), I.laid (t' := tk) k (Nat.le_refl _) (setO_new R1), rfl, q _ c hn hcn⟩
def rAndI (w : World) : R2 := fun x y H Q => ∃ (a b : Addr) (S T : Int → Bool) (n m : Nat), x = .ref a ∧ y = .ref b ∧ a ≠ b ∧ H a = some (SetO w a S n) ∧ H b = some (SetO w b T m) ∧ n ≤ 1000 ∧ m ≤ 1000 ∧
  ∀ c (out : List Int), H c = none → out.Nodup → (∀ k, k ∈ out ↔ S k = true ∧ T k = true) → Q (.ref c) (upd H c (SetO w c (fun j => decide (j ∈ out)) out.length))
theorem op_andI : OpR X (binaryOp .BitAnd) (rAndI X.w) := by
  intro pins s σ H x y v u Q I rx ry h
  obtain ⟨a, b, S, T, n, m, rfl, rfl, hab, ha, hb, hn, hm, q⟩ := h
  cases rx
  cases ry
  have Ra : SetR X.w s.heap a S n := (I.hok a _ ha).1
  have Rb : SetR X.w s.heap b T m := (I.hok b _ hb).1
  have hnn : H s.heap.objs.size = none := I.hok.fresh (Nat.le_refl _)
  refine and_at Ra Rb hab (by unfold scanBound; omega) fun out d h' h1 h2 h3 k => ?_
  refine ⟨.ref s.heap.objs.size, upd H s.heap.objs.size (SetO X.w s.heap.objs.size (fun j => decide (j ∈ out)) out.length), ?_, rfl, q _ out hnn h1 h2⟩
  exact I.call (ch := []) (g' := s.gens) (t' := s.toks) (Un.laid k (Nat.le_refl _) hnn) (I.hok.laid k (Nat.le_refl _) (setO_new h3)) I.bare (fun _ z => nomatch z)
def rLenSet (w : World) : List V → Hp → VK → Prop := fun xs H Q => ∃ (a : Addr) (S : Int → Bool) (n : Nat), xs = [V.ref a] ∧ H a = some (SetO w a S n) ∧ Q (.int (n : Nat)) H
theorem cr_lenSet9 : CallR X (.builtin "len") (rLenSet X.w) := by
  intro pins s σ H xs us Q I r h
  obtain ⟨a, S, n, rfl, ha, q⟩ := h
  rw [Vals.ref1 r]
  have Ra : SetR X.w s.heap a S n := (I.hok a _ ha).1
  obtain ⟨o, es, ep, t, ho, hex, hd, g, nd, hm, hb, hf, hn, _⟩ := Ra
  have hsb : scanBound = 4096 := rfl
  refine call_len_set ho hex hd hf (by omega) ⟨.int (n : Nat), H, I.tok _, ⟨_, by rw [hn]⟩, q⟩
end
end L2
namespace Fx
open PySem L2
section
variable {c : SC} {δ : Dl} {M : List MO} {Post : AQ} {a b : Expr} {p1 p2 p3 p4 p5 p6 pos : Pos}
/-- len(set(a) & set(b)) -/
theorem x_same (hl : c.gl "len") (hlm : c.mg "len" = none) (hs : c.gl "set") (hsm : c.mg "set" = none)
    (h : EvX c δ M a fun x M1 => ∃ ns : List Int, x = .dat (tI ns) ∧ ns.length ≤ 1000 ∧ EvX c δ M1 b fun y M2 => ∃ ms : List Int, y = .dat (tI ms) ∧ ms.length ≤ 1000 ∧ ∀ out : List Int, out.Nodup → (∀ k, k ∈ out ↔ k ∈ ns ∧ k ∈ ms) → Post (.dat (.int (out.length : Nat))) M2)
    (sa : ∀ env, starEach [a] env = (false, eval a env) :: starEach [] env) (sb : ∀ env, starEach [b] env = (false, eval b env) :: starEach [] env) :
    EvX c δ M (.Call (.Name "len" p1) [.BinOp (.Call (.Name "set" p2) [a] [] p3) .BitAnd (.Call (.Name "set" p4) [b] [] p5) p6] [] pos) Post := fun y σ H ad he hst Q q => by
  refine ⟨_, pe_callB (X := y.cx) cr_lenSet9 (glS y hl) hlm PySem.boot_len (pa_cons (pe_op op_andI (pe_callTy (cr_setOfI9 rfl) (glS y hs) hsm PyProof.Rows.boot_set (pa_cons wE_ok pa_nil (sa y.env)) (by decide) (by decide) (sa y.env) (by rfl)) (pe_callTy (cr_setOfI9 rfl) (glS y hs) hsm PyProof.Rows.boot_set (pa_cons wE_ok pa_nil (sb y.env)) (by decide) (by decide) (sb y.env) (by rfl))) pa_nil (by rfl)) (by decide) (by decide) (by rfl) (by rfl), ?_⟩
  refine h y σ H ad he hst _ fun xv H1 ad1 ax M1 n1 s1 r1 p1 => ?_
  obtain ⟨ns, rfl, hl1, p1⟩ := p1
  obtain ⟨pa, xs, rfl, hq, rr⟩ := r1
  rw [reps_ints.mp rr] at hq
  refine ⟨pa, ns, rfl, hq, hl1, fun q1 c1 hq1 hc1 => ?_⟩
  have sm1 := same_new (o := SetO c.w q1 (fun j => decide (j ∈ ns)) c1) hq1
  have n2 := n1.trans (Nx.same (ad := ad1) sm1)
  have fq1 : q1 ∉ ad1 := s1.free hq1
  refine p1 y σ _ ad1 (he.nx n2) (s1.same sm1) _ fun yv H3 ad3 ay M3 n3 s3 r3 p3 => ?_
  obtain ⟨ms, rfl, hl2, p3⟩ := p3
  obtain ⟨pb, ys, rfl, hq', rr'⟩ := r3
  rw [reps_ints.mp rr'] at hq'
  refine ⟨pb, ms, rfl, hq', hl2, fun q2 c2 hq2 hc2 => ?_⟩
  have sm2 := same_new (o := SetO c.w q2 (fun j => decide (j ∈ ms)) c2) hq2
  have k1 : H3 q1 = some (SetO c.w q1 (fun j => decide (j ∈ ns)) c1) := n3.keep q1 _ fq1 upd_same
  have n4 := (n2.trans n3).trans (Nx.same (ad := ad3) sm2)
  have s4 := s3.same sm2
  have ne : q1 ≠ q2 := ne_of_none k1 hq2
  refine ⟨q1, q2, _, _, c1, c2, rfl, rfl, ne, sm2 _ _ k1, upd_same, by omega, by omega, fun q3 out hq3 hnd hmem => ?_⟩
  have sm3 := same_new (o := SetO c.w q3 (fun j => decide (j ∈ out)) out.length) hq3
  refine ⟨q3, _, out.length, rfl, upd_same, q _ _ ad3 (.dat (.int (out.length : Nat))) M3 (n4.trans (Nx.same sm3)) (s4.same sm3) rfl (p3 out hnd fun k => ?_)⟩
  rw [hmem k, decide_eq_true_eq, decide_eq_true_eq]
end
end Fx

/-! Fx, part J: list.count, isinstance, t[::-1] of a tuple. -/
namespace Fx
open PySem L2
section
variable {c : SC} {δ : Dl} {M : List MO} {Post : AQ} {a b e o : Expr} {p p1 p2 p3 apos pos : Pos} {x : Str}
/-- xs.count(e), ints -/
theorem x_lcount (h : EvX c δ M o fun v M1 => ∃ ns : List Int, v = .ls (ns.map .int) ∧ EvX c δ M1 e fun w M2 => ∃ k : Int, w = .dat (.int k) ∧ Post (.dat (.int (ns.count k : Nat))) M2)
    (hbase : ∀ env, attributeBase o "count" env (eval o env) = eval o env)
    (hfew : ∀ env, ((backTo pos (starEach [e] env)).all (fun x => !x.1) && (backToKw pos (keywordEach [] env)).all (fun x => x.1.isSome) && decide ([e].length + ([] : List Keyword).length + (if ([] : List Keyword).isEmpty then 0 else 1) < 30)) = true)
    (hline : (apos.endLine == pos.line) = true) (hst : ∀ env, starEach [e] env = (false, eval e env) :: starEach [] env) : EvX c δ M (.Call (.Attribute o "count" apos) [e] [] pos) Post := fun y σ H ad he hs Q q =>
  ⟨_, pe_bm (X := y.cx) PySem.F.plainAttrs_list PySem.F.slot_list_count PySem.F.type_list_count mt_lcount wE_ok (pa_cons wE_ok pa_nil (hst y.env)) (hbase y.env) (hfew y.env) hline (hst y.env) rfl, h y σ H ad he hs _ fun v H1 ad1 a1 M1 n1 s1 r1 ⟨ns, e1, p1⟩ => by
    subst e1
    obtain ⟨qq, xs, rfl, hq, rr⟩ := id r1
    refine ⟨.inl ⟨rfl, xs, hq.sq⟩, p1 y σ H1 ad1 (he.nx n1) s1 _ fun w H2 ad2 a2 M2 n2 s2 r2 ⟨k, e2, p2⟩ => ?_⟩
    subst e2
    obtain ⟨q3, xs3, e3, hq3, rr3⟩ := r1.nx n2
    cases e3
    have hq4 := hq3.sq (K := c.K)
    rw [reps_ints.mp rr3] at hq4
    refine ⟨qq, ns, k, rfl, ?_, hq4, q _ H2 ad2 (.dat (.int (ns.count k : Nat))) M2 (n1.trans n2) s2 rfl p2⟩
    rw [show w = .int k from r2]⟩
/-- isinstance(e, T), T a built-in type -/
def tyN : AV → String
  | .dat .non => "NoneType"
  | .dat (.bl _) => "bool"
  | .dat (.int _) => "int"
  | .dat (.str _) => "str"
  | .dat (.tup _) => "tuple"
  | .tx _ => "tuple"
  | .ta _ => "tuple"
  | _ => "list"
/-- what isinstance says of a built-in type -/
def kitA (a : AV) (T : String) : Option Bool := match a with
  | .exc _ _ => none
  | .fn _ => none
  | a => kitB (tyN a) T
theorem kitA_of {a : AV} {T : String} {k : Bool} (h : kitA a T = some k) : ((∀ C fs, a ≠ .exc C fs) ∧ ∀ f, a ≠ .fn f) ∧ kitB (tyN a) T = some k := by
  cases a with
  | exc C fs => cases h
  | fn f => cases h
  | dat d => exact ⟨⟨fun _ _ z => (by cases z), fun _ z => (by cases z)⟩, h⟩
  | ls d => exact ⟨⟨fun _ _ z => (by cases z), fun _ z => (by cases z)⟩, h⟩
  | «mut» d => exact ⟨⟨fun _ _ z => (by cases z), fun _ z => (by cases z)⟩, h⟩
  | ta d => exact ⟨⟨fun _ _ z => (by cases z), fun _ z => (by cases z)⟩, h⟩
  | la d => exact ⟨⟨fun _ _ z => (by cases z), fun _ z => (by cases z)⟩, h⟩
  | scr d => exact ⟨⟨fun _ _ z => (by cases z), fun _ z => (by cases z)⟩, h⟩
  | tx d => exact ⟨⟨fun _ _ z => (by cases z), fun _ z => (by cases z)⟩, h⟩
theorem ty_of {K : PySem.W.Frag} {ad : List Addr} {H : Hp} (S : StOk K ad H M) : ∀ {a : AV} {v : V}, RepA K ad H a v → (∀ j, a = .mut j → ∃ ds, M[j]? = some (.lst ds)) → (∀ ns, a ≠ .scr ns) → ((∀ C fs, a ≠ .exc C fs) ∧ ∀ f, a ≠ .fn f) → TyX K H v (.type (tyN a))
  | .dat .non, _, r, _, _, _ => by rw [show _ = V.non from r]; exact .base .non
  | .dat (.bl b), _, r, _, _, _ => by rw [show _ = V.bl b from r]; exact .base (.bl b)
  | .dat (.int i), _, r, _, _, _ => by rw [show _ = V.int i from r]; exact .base (.int i)
  | .dat (.str i), _, r, _, _, _ => by rw [show _ = V.str i from r]; exact .base (.str i)
  | .dat (.tup ds), _, ⟨a, xs, e, q, r⟩, _, _, _ => by
    subst e
    rcases q with (q | ⟨o, q⟩) | ⟨o, q⟩
    · exact .base (.tup q)
    · exact .fTuple q
    · obtain ⟨its, n, hk, hc, _⟩ := q
      exact .kTuple hk hc
  | .ls ds, _, ⟨a, xs, e, q, r⟩, _, _, _ => by subst e; exact .base (.lst q.1)
  | .mut j, _, ⟨a, q, e⟩, h, _, _ => by
    subst e
    obtain ⟨ds, hm⟩ := h j rfl
    obtain ⟨a2, h2, xs, h3, rr⟩ := S.obj j _ hm
    rw [q] at h2
    cases h2
    exact .base (.lst h3)
  | .la as, _, ⟨a, xs, e, q, r⟩, _, _, _ => by subst e; exact .base (.lst q.1)
  | .dat (.lis ds), _, ⟨a, xs, o, e, q, r⟩, _, _, _ => by subst e; exact .base (.frz q)
  | .ta ds, _, ⟨a, xs, e, q, r⟩, _, _, _ => by
    subst e
    rcases q with (q | ⟨o, q⟩) | ⟨o, q⟩
    · exact .base (.tup q)
    · exact .fTuple q
    · obtain ⟨its, n, hk, hc, _⟩ := q
      exact .kTuple hk hc
  | .exc C fs, _, _, _, _, h => absurd rfl (h.1 C fs)
  | .fn f, _, _, _, _, h => absurd rfl (h.2 f)
  | .scr ns, _, _, _, h, _ => absurd rfl (h ns)
  | .tx ds, _, ⟨a, xs, e, q, r⟩, _, _, _ => by
    subst e
    obtain ⟨o, q, _⟩ := q
    exact .fTuple q
theorem x_isi {T : String} (hg : c.gl "isinstance") (hm : c.mg "isinstance" = none) (hg2 : c.gl x) (hm2 : c.mg x = none) (hv : bootBuiltins x = some (.type T)) (h : EvX c δ M e fun a M1 => (∀ j, a = .mut j → ∃ ds, M1[j]? = some (.lst ds)) ∧ (∀ ns, a ≠ .scr ns) ∧ ∃ k, kitA a T = some k ∧ Post (.dat (.bl k)) M1)
    (hst : ∀ env, starEach [e, .Name x p1] env = (false, eval e env) :: starEach [.Name x p1] env) (hn : x ≠ "__name__" := by decide) (hd : (x == ("__debug__" : Str)) = false := by decide) : EvX c δ M (.Call (.Name "isinstance" p) [e, .Name x p1] [] pos) Post := fun y σ H ad he hs Q q =>
  ⟨_, pe_callB (X := y.cx) call_isi (glS y hg) hm PyProof.Rows.boot_isinstance (pa_cons wE_ok (pa_cons (pe_bltn (v := .ty T) (glS y hg2) hm2 hv rfl hn hd) pa_nil (by rfl)) (hst y.env)) (by decide) (by decide) (hst y.env) (by rfl), h y σ H ad he hs _ fun v H1 ad1 a1 M1 n1 s1 r1 ⟨h1, h2, k, hk, p1⟩ =>
    ⟨v, .ty T, .type (tyN a1), .type T, k, rfl, .ty T, ty_of s1 r1 h1 h2 (kitA_of hk).1, kit_ty (kitA_of hk).2, q _ H1 ad1 (.dat (.bl k)) M1 n1 s1 rfl p1⟩⟩
end
end Fx

/-! Fx, part K: x = [..] where x is a cell, and where it is a local. -/
namespace Fx
open PySem L2
section
variable {c : SC} {δ : Dl} {M : List MO} {Post : AQ} {a b e o tg iter elt : Expr} {ifs : List Expr} {scope : Scope} {own : List (Str × Nat)} {p p1 p2 p3 apos pos : Pos} {x : Str} {i : Nat}
theorem sw_of {S : Scope} {v : Expr} {t : Option Expr} {l : Nat} {r : Sem Bool} (h : ∀ (env : Env), swapsWith v t l { env with scope := S } = r) : ∀ env : Env, env.scope = S → swapsWith v t l env = r := fun env e => by
  have := h env
  rw [← e] at this
  exact this
/-- x = e, where the store's order hangs on the scope -/
theorem s_sc {D : AE} [hN : VarAt c.N x i] [hk : NamesOk c.N] (hx : Loc c.sc x) (hf : c.fn x = true ∨ c.sc.names.lookup x = some .local) (h : EvX c δ M e fun a M1 => D.nx (δ.set i (some a)) M1)
    (hs1 : ∀ env : Env, env.scope = c.sc → swapsWith e (some (.Name x p)) pos.line env = pure false) : Run1 c δ M (.Assign [.Name x p] e pos) D := fun y σ H ad he hs E q =>
  ⟨_, ps_set (X := y.cx) hk.nd hN.get (by show Loc y.env.scope x; rw [y.sc]; exact hx) wE_ok (hs1 y.env y.sc) (by show c.fn x = true ∨ y.env.scope.names.lookup x = some .local; rw [y.sc]; exact hf),
    h y σ H ad he hs _ fun v H2 ad2 a M2 n s r p => q.nx _ H2 ad2 _ M2 n ((he.nx n).set r) s p⟩
/-- what a plain comprehension asks, as the general one -/
theorem lc_plain {Pf : List D → List MO → Prop} {α : Type} (f : α → D) (pr : α → Bool)
    (h : EvI c δ M tg iter fun ds src M1 => ∃ (xs : List α) (g : α → D), ds = xs.map g ∧ xs.length ≤ 1000000 ∧ (∀ j, src = some j → M1[j]? = some (.lst ds)) ∧
      (∀ x, x ∈ xs → LcTurn (c.blk scope) (wipeD δ (own.map (·.2))) tg elt ifs (own.map (·.2)) (g x) M1 (fun d' M4 => pr x = true ∧ d' = f x ∧ M4 = M1) (fun M3 => pr x = false ∧ M3 = M1)) ∧ Pf ((xs.filter pr).map f) M1) :
    EvI c δ M tg iter fun ds src M1 => ds.length ≤ 1000000 ∧ ∃ I : Nat → List D → List MO → Prop, I 0 [] M1 ∧ (∀ i acc M2, I i acc M2 → ∀ j, src = some j → M2[j]? = some (.lst ds)) ∧
      (∀ i d acc M2, ds[i]? = some d → I i acc M2 → LcTurn (c.blk scope) (wipeD δ (own.map (·.2))) tg elt ifs (own.map (·.2)) d M2 (fun d' M4 => I (i + 1) (acc ++ [d']) M4) (fun M3 => I (i + 1) acc M3)) ∧ ∀ acc M2, I ds.length acc M2 → Pf acc M2 := by
  refine fun y σ H ad he hs R q => h y σ H ad he hs R fun J H1 ad1 ds src M1 n1 s1 w hP => q J H1 ad1 ds src M1 n1 s1 w ?_
  obtain ⟨xs, g, e, hl, hk, ht, hd⟩ := hP
  subst e
  refine ⟨by rw [List.length_map]; exact hl, fun i acc M2 => M2 = M1 ∧ acc = ((xs.take i).filter pr).map f, ⟨rfl, rfl⟩, fun i acc M2 hI => by rw [hI.1]; exact hk, fun i d acc M2 hi hI => ?_, fun acc M2 hI => ?_⟩
  · obtain ⟨rfl, rfl⟩ := hI
    have hl2 := (List.getElem?_eq_some_iff.mp hi).1
    rw [List.length_map] at hl2
    rw [List.getElem?_map, List.getElem?_eq_getElem hl2] at hi
    have ed : g xs[i] = d := Option.some.inj hi
    subst ed
    have et : xs.take (i + 1) = xs.take i ++ [xs[i]] := by rw [List.take_succ, List.getElem?_eq_getElem hl2]; rfl
    obtain ⟨is, his, ht'⟩ := ht xs[i] (List.getElem_mem hl2)
    refine ⟨is, his, fun y σ H ad v he r Q q => ?_⟩
    refine ht' y σ H ad v he r Q fun σ2 δ2 e2 w2 pT => q σ2 δ2 e2 w2 fun y2 σ3 H3 ad3 he3 hs3 Q3 q3 => pT y2 σ3 H3 ad3 he3 hs3 Q3 fun b H4 ad4 M4 n4 s4 pB => q3 b H4 ad4 M4 n4 s4 ⟨fun hb => (pB.1 hb).imp ?_, fun hb => ?_⟩
    · rintro a M5 ⟨d', ea, h1, h2, h3⟩
      refine ⟨d', ea, h3, ?_⟩
      rw [et, List.filter_append, List.map_append, List.filter_cons, if_pos h1, h2]
      rfl
    · obtain ⟨h1, h3⟩ := pB.2 hb
      refine ⟨h3, ?_⟩
      rw [et, List.filter_append, List.map_append, List.filter_cons, if_neg (by rw [h1]; decide)]
      show _ = _ ++ []
      rw [List.append_nil]
  · obtain ⟨rfl, rfl⟩ := hI
    rw [List.length_map, List.take_length]
    exact hd
/-- x = [..], x a local, nothing of the store changes -/
theorem s_lcP {D : AE} {α : Type} [hN : VarAt c.N x i] [hk : NamesOk c.N] (own : List (Str × Nat)) (f : α → Fx.D) (pr : α → Bool) (ok : BlkOk c.N c.sc scope own) (hxl : c.sc.names.lookup x = some .local) (hkd : c.sc.kind = .function) (hln : (p.line == pos.line) = true)
    (ha : (scope.names.any fun (n, k) => n == x && (k == .local || k == .cell)) = false)
    (h : EvI c δ M tg iter fun ds src M1 => ∃ (xs : List α) (g : α → Fx.D), ds = xs.map g ∧ xs.length ≤ 1000000 ∧ (∀ j, src = some j → M1[j]? = some (.lst ds)) ∧
      (∀ x, x ∈ xs → LcTurn (c.blk scope) (wipeD δ (own.map (·.2))) tg elt ifs (own.map (·.2)) (g x) M1 (fun d' M4 => pr x = true ∧ d' = f x ∧ M4 = M1) (fun M3 => pr x = false ∧ M3 = M1)) ∧ D.nx (δ.set i (some (.ls ((xs.filter pr).map f)))) M1)
    (hf : ∀ env x, foldedSetIterable iter env x = pure x) : Run1 c δ M (.Assign [.Name x p] (.ListComp elt [⟨tg, iter, ifs, 0⟩] scope pos) p1) D :=
  s_setLc own i hN.get hxl (fun env e => sw_true (by rw [e]; exact hkd) (by rw [e]; exact hxl) hln ha) ok hk.nd hf (lc_plain (Pf := fun ds M2 => D.nx (δ.set i (some (.ls ds))) M2) f pr h) (.inl fun ds M2 z => z)
end
end Fx

/-! Fx, part L: a, b = x, y where one is a cell; == [] of lists of data. -/
namespace Fx
open PySem L2
section
variable {c : SC} {δ : Dl} {M : List MO} {Post : AQ} {B : Bool → List MO → Prop} {e tg : Expr} {pos : Pos}
theorem s_asc {D : AE} (h : EvX c δ M e fun a M1 => EvGx c δ tg a fun δ2 => D.nx δ2 M1) (hs1 : ∀ env, swapsWithSole [tg] e pos.line env = pure false) (hw : ∀ env : Env, env.scope = c.sc → swappedStores [tg] e env = pure none)
    (h1 : ∀ env, (assignEach [tg] env).map (·.2) = [assign tg env]) : Run1 c δ M (.Assign [tg] e pos) D := fun y σ H ad he hs E q =>
  ⟨_, ps_asg wE_ok wG_ok (hs1 y.env) (hw y.env y.sc) (h1 y.env), h y σ H ad he hs _ fun v H2 ad2 a M2 n s r ⟨_, p⟩ => p y σ H2 ad2 v (he.nx n) r _ fun σ2 δ2 e2 _ p2 => q.nx σ2 H2 ad2 δ2 M2 n e2 s p2⟩
theorem eqv_nil (ds : List D) : PyData.eqv (.list (pys ds)) (.list []) = ds.isEmpty := by
  cases ds with
  | nil => simp [pys, PyData.eqv, PyData.eqvAll]
  | cons d ds => simp [pys, PyData.eqv, PyData.eqvAll]
theorem eqv_nilT (ds : List D) : PyData.eqv (.tuple (pys ds)) (.tuple []) = ds.isEmpty := by
  cases ds with
  | nil => simp [pys, PyData.eqv, PyData.eqvAll]
  | cons d ds => simp [pys, PyData.eqv, PyData.eqvAll]
theorem nil_ok : SeqAt.shaped (.list []) = true := okDs_shaped (n := 0) (ds := []) rfl (by decide)
theorem c_neNil (n : Nat) {ds : List D} (hd : ds.all (okD n) = true) (h : B (!ds.isEmpty) M) (hn : n ≤ 50 := by decide) : CmpR c .NotEq (.ls ds) (.ls []) M B := by
  refine c_neD trivial trivial (okDs_shaped hd hn) nil_ok ?_
  show B (!PyData.eqv (.list (pys ds)) (.list [])) M
  rw [eqv_nil]
  exact h
theorem c_eqNil (n : Nat) {ds : List D} (hd : ds.all (okD n) = true) (h : B ds.isEmpty M) (hn : n ≤ 50 := by decide) : CmpR c .Eq (.ls ds) (.ls []) M B := by
  refine c_eqD trivial trivial (okDs_shaped hd hn) nil_ok ?_
  show B (PyData.eqv (.list (pys ds)) (.list [])) M
  rw [eqv_nil]
  exact h
theorem c_neNilT (n : Nat) {ds : List D} (hd : ds.all (okD n) = true) (h : B (!ds.isEmpty) M) (hn : n ≤ 50 := by decide) : CmpR c .NotEq (.dat (.tup ds)) (.dat (.tup [])) M B := by
  refine c_neD trivial trivial (okD_shaped (n := n + 1) (d := .tup ds) hd (by omega)) (okD_shaped (n := 1) (d := .tup []) rfl (by decide)) ?_
  show B (!PyData.eqv (.tuple (pys ds)) (.tuple [])) M
  rw [eqv_nilT]
  exact h
theorem c_eqNilT (n : Nat) {ds : List D} (hd : ds.all (okD n) = true) (h : B ds.isEmpty M) (hn : n ≤ 50 := by decide) : CmpR c .Eq (.dat (.tup ds)) (.dat (.tup [])) M B := by
  refine c_eqD trivial trivial (okD_shaped (n := n + 1) (d := .tup ds) hd (by omega)) (okD_shaped (n := 1) (d := .tup []) rfl (by decide)) ?_
  show B (PyData.eqv (.tuple (pys ds)) (.tuple [])) M
  rw [eqv_nilT]
  exact h
theorem all_ok_tI (n : Nat) (b : List (List Int)) : (b.map tI).all (okD (n + 1)) = true := ok_tII n b
end
end Fx

/-! Fx, part M: t[::-1] of a tuple, xs[::-1] of a list. -/
namespace L2
open PySem PySem.Spec PyProof.Rows
theorem rev_pick9 (xs : Array Value) : ((List.range xs.size).filterMap fun (m : Nat) => xs[((xs.size : Int) - 1 + (m : Int) * (-1)).toNat]?).toArray = xs.toList.reverse.toArray := by
  congr 1
  have gen : ∀ k, k ≤ xs.size → ((List.range k).filterMap fun (m : Nat) => xs[((xs.size : Int) - 1 + (m : Int) * (-1)).toNat]?) = xs.toList.reverse.take k := by
    intro k
    induction k with
    | zero => intro _; rfl
    | succ k ih =>
      intro hk
      rw [List.range_succ, List.filterMap_append, ih (by omega), List.take_succ]
      congr 1
      have e : ((xs.size : Int) - 1 + (k : Int) * (-1)).toNat = xs.size - 1 - k := by omega
      have h2 : xs.size - 1 - k < xs.size := by omega
      have h3 : xs.toList.reverse[k]? = some xs[xs.size - 1 - k] := by
        rw [List.getElem?_reverse (by simpa using (show k < xs.size by omega)), Array.length_toList, Array.getElem?_toList, Array.getElem?_eq_getElem h2]
      rw [h3]
      simp only [List.filterMap_cons, List.filterMap_nil, e, Array.getElem?_eq_getElem h2, Option.toList_some]
  rw [gen xs.size (Nat.le_refl _), List.take_of_length_le (by simp)]
section
variable {prog : Program} {w : World} {A : Around} {E : Value → Shared → Prop} {s : Shared}
theorem sliceApplied_rev9 {sl : Addr} {vl vu vs : Value} {n : Nat} {Q : Int × Int × Nat → Shared → Prop} (hs : s.heap.IsSliceOf sl vl vu vs) (pl : IsPart vl none) (pu : IsPart vu none) (ps : IsPart vs (some (-1)))
    (h : Q ((n : Int) - 1, -1, n) s) : wpAny (model prog w) A (Builtin.Slice.sliceApplied (.ref sl) (pure (n : Int))) Q E s := by
  obtain ⟨os, hos, hcs, hds⟩ := id hs
  unfold Builtin.Slice.sliceApplied Builtin.Slice.sliceFields
  refine wpAny_bind (wpAny_bind (wpAny_field hos hds (x := vl) rfl (wpAny_bind (wpAny_field hos hds (x := vu) rfl (wpAny_bind (wpAny_field hos hds (x := vs) rfl (wpAny_pure ?_)))))))
  refine wpAny_bind (HT.slicePart_ ps ?_)
  show wpAny _ _ (if ((-1 : Int) == 0) = true then _ else _) _ _ s
  rw [if_neg (by decide)]
  refine wpAny_bind (HT.slicePart_ pl (wpAny_bind (HT.slicePart_ pu (wpAny_bind (wpAny_pure ?_)))))
  show wpAny _ _ (pure ((n : Int) - 1, (-1 : Int), Builtin.Slice.slicePlaces ((n : Int) - 1) (-1) (-1))) _ _ s
  have e : Builtin.Slice.slicePlaces ((n : Int) - 1) (-1) (-1) = n := by
    unfold Builtin.Slice.slicePlaces
    rw [if_neg (by decide)]
    split
    · rw [show (-(-1) : Int) = 1 by decide, Int.ediv_one]
      omega
    · omega
  rw [e]
  exact wpAny_pure h
theorem getItem_tuple_rev9 {t sl : Addr} {items : Array Value} {vl vu vs : Value} {Q : Value → Shared → Prop} (ht : IsTup s.heap t items) (hs : s.heap.IsSliceOf sl vl vu vs) (pl : IsPart vl none) (pu : IsPart vu none) (ps : IsPart vs (some (-1)))
    (h : Q (.ref s.heap.objs.size) { s with heap := s.heap.push { cls := .type "tuple", data := .seq items.toList.reverse.toArray } })
    (hsz : items.size ≤ sizeLine) : wpAny (model prog w) A (getItem (.ref t) (.ref sl)) Q E s := by
  have htake : sizeOk (.seq items.toList.reverse.toArray) := by
    show items.toList.reverse.toArray.size ≤ sizeLine
    rw [List.size_toArray, List.length_reverse, Array.length_toList]
    exact hsz
  obtain ⟨os, hos, hcs, hds⟩ := id hs
  have hTs : s.TypeIs (.ref sl) "slice" := ⟨os, hos, hcs⟩
  unfold getItem
  try with_reducible refine wpAny_holding ?_
  first | refine wpAny_bind (wpAny_pure ?_) | skip
  refine wpAny_bind (wpAny_sequenceKey ht.typeIs (by decide) ?_)
  refine wpAny_bind (wpAny_callSpecial?_slot (name := Str.ofString "__getitem__") ht.typeIs PyProof.Rows.slot_tuple_getitem
    (wpAny_call_entry PyProof.Rows.slot_tuple_getitem ht.typeIs entry_tuple_getitem ?_ (args_tuple_getitem _ _)))
  show wpAny _ _ (Builtin.Tuple.tupleItemsOf (.ref t) >>= _) _ _ s
  refine wpAny_bind (tupleItemsOf_ ht ?_)
  refine wpAny_bind (wpAny_typeOf hTs ?_)
  rw [if_pos (by decide)]
  refine wpAny_bind (sliceApplied_rev9 hs pl pu ps ?_)
  have hno : ¬ ((((items.size : Int) - 1) == 0 && (-1 : Int) == 1 && items.size == items.size) = true) := by
    intro q
    rw [Bool.and_eq_true, Bool.and_eq_true] at q
    exact absurd q.1.2 (by decide)
  show wpAny _ _ (if (((items.size : Int) - 1) == 0 && (-1 : Int) == 1 && items.size == items.size) = true then _ else _) _ _ s
  rw [if_neg hno, rev_pick9]
  first
    | exact wpAny_bind (m := Builtin.Tuple.tupleExact _) (wpAny_newObj_type (wpAny_pure ⟨_, rfl, wpAny_pure h⟩) htake)
    | exact wpAny_bind (m := Builtin.Tuple.tupleExact _) (wpAny_newObj_type (wpAny_bind (wpAny_pure (wpAny_pure ⟨_, rfl, wpAny_pure h⟩))) htake)
    | exact wpAny_bind (wpAny_bind (m := Builtin.Tuple.tupleExact _) (wpAny_newObj_type (wpAny_pure (wpAny_pure ⟨_, rfl, wpAny_pure h⟩)) htake))
    | exact wpAny_bind (wpAny_bind (m := Builtin.Tuple.tupleExact _) (wpAny_newObj_type (wpAny_pure ⟨_, rfl, wpAny_pure h⟩) htake))
end
section
variable {X : Cx}
def tRevT9 (K : PySem.W.Frag) (te : TE) : TE := fun σ H Q => te σ H fun x H1 => ∃ a xs, x = .ref a ∧ SqT K H1 a xs ∧ ∀ p, H1 p = none → Q (.ref p) (upd H1 p (.tup xs.reverse))
theorem pe_revT9 {e : Expr} {te : TE} {k : Nat} {p1 p2 p3 pos : Pos} (he : PE X e te) : PE X (.Subscript e (.Slice none none (some (.UnaryOp .USub (.Constant (.int 1) k p1) p2)) p3) pos) (tRevT9 X.K te) := by
  refine ⟨fun pins s σ H Q I h => ?_⟩
  refine Subscript_ (thn (he.run pins s σ H _ I h) fun v s1 ⟨x, H1, I1, r1, q1⟩ => ?_)
  obtain ⟨a, xs, ex, hx, q⟩ := q1
  subst ex
  cases r1
  have hst : PO X (some (.UnaryOp .USub (.Constant (.int 1) k p1) p2)) (tPart (tUn (rU fun i => .int (-i)) (tC (.int 1)))) := po_some (pe_un un_neg pe_int)
  refine wpAny_Slice (thn (po_none.run pins s1 σ H1 (fun o H2 => o = none ∧ H2 = H1) I1 ⟨rfl, rfl⟩) fun vl s2 ⟨l, H2, I2, pl, el, e2⟩ => ?_)
  subst el e2
  refine thn (po_none.run pins s2 σ H2 (fun o H3 => o = none ∧ H3 = H2) I2 ⟨rfl, rfl⟩) fun vu s3 ⟨u, H3, I3, pu, eu, e3⟩ => ?_
  subst eu e3
  refine thn (hst.run pins s3 σ H3 (fun o H4 => o = some (-1) ∧ H4 = H3) I3 ⟨1, rfl, -1, rfl, rfl, rfl⟩) fun vs s4 ⟨o, H4, I4, ps, eo, e4⟩ => ?_
  subst eo e4
  have I5 : Inv X pins σ H4 { s4 with heap := s4.heap.push { cls := .type "slice", data := .fields #[vl, vu, vs] } } := I4.kept (t' := s4.toks) fun b ob q => Heap.get?_push_of_some _ q
  obtain ⟨its, r, ht, hz⟩ := I5.tuple hx
  have hlen := r.length
  show wpAny (model X.prog X.w) X.A (subscriptTail e (.Slice none none (some (.UnaryOp .USub (.Constant (.int 1) k p1) p2)) p3) (.ref a) (.ref s4.heap.objs.size)) (EP X pins σ Q) X.xe { s4 with heap := s4.heap.push { cls := .type "slice", data := .fields #[vl, vu, vs] } }
  refine tail_any (ops := [.ref a, .ref s4.heap.objs.size]) ht.typeIs (PyProof.Rows.slot_tuple_getitem.lookup) ?_ (by with_unfolding_all rfl)
  refine getItem_tuple_rev9 ht (Heap.IsSliceOf.new _ vl vu vs) pl pu ps ?_ (by rw [List.size_toArray]; omega)
  refine ⟨.ref _, _, I5.laid (t' := s4.toks) (o := .tup xs.reverse) (fun b ob q => Heap.get?_push_of_some _ q) (Nat.le_refl _) ?_, rfl, q _ (I5.hok.fresh (Nat.le_refl _))⟩
  exact ⟨by rw [List.length_reverse]; exact hz, _, r.reverse, ⟨_, Heap.get?_push_size _ rfl, rfl, _, rfl⟩⟩
end
end L2
namespace Fx
open PySem L2
section
variable {c : SC} {δ : Dl} {M : List MO} {Post : AQ} {e : Expr} {k : Nat} {p1 p2 p3 pos : Pos}
theorem x_revT (h : EvX c δ M e fun a M1 => ∃ ds, a = .dat (.tup ds) ∧ Post (.dat (.tup ds.reverse)) M1) : EvX c δ M (.Subscript e (.Slice none none (some (.UnaryOp .USub (.Constant (.int 1) k p1) p2)) p3) pos) Post := fun y σ H ad he hs Q q =>
  ⟨_, pe_revT9 wE_ok, h y σ H ad he hs _ fun v H1 ad1 a M1 n1 s1 r1 ⟨ds, ea, p1⟩ => by
    subst ea
    obtain ⟨pp, xs, rfl, hq, rr⟩ := r1
    refine ⟨pp, xs, rfl, hq, fun p hp => ?_⟩
    have sm := same_new (o := .tup xs.reverse) hp
    exact q _ _ ad1 (.dat (.tup ds.reverse)) M1 (n1.trans (Nx.same sm)) (s1.same sm) ⟨p, _, rfl, .inl (.inl upd_same), rr.reverse.tx (Tx.same sm)⟩ p1⟩
theorem f_revL {Pf : List D → List MO → Prop} (h : EvX c δ M e fun a M1 => ∃ ds, IsL M1 a ds ∧ Pf ds.reverse M1) : EvF c δ M (.Subscript e (.Slice none none (some (.UnaryOp .USub (.Constant (.int 1) k p1) p2)) p3) pos) Pf := fun y σ H ad he hs Q q =>
  ⟨_, pe_revL wE_ok, h y σ H ad he hs _ fun v H1 ad1 a M1 n1 s1 r1 ⟨ds, hx, p1⟩ => by
    obtain ⟨pp, xs, rfl, hq, rr⟩ := hx.sq s1 r1
    refine ⟨pp, xs, rfl, hq, fun p hp => ?_⟩
    have sm := same_new (o := .lst xs.reverse) hp
    exact q p _ _ ad1 ds.reverse M1 (n1.trans (Nx.same sm)) (s1.same sm) (free_back n1 s1 hp) (s1.free hp) upd_same (rr.reverse.tx (Tx.same sm)) p1⟩
/-! ways that meet again -/
theorem s_ifF {D : AE} {t : Expr} {b1 b2 : List Stmt} (h : EvT c δ M t fun k M1 => k = false ∧ M1 = M) (k : Run c δ M b2 D) : Run1 c δ M (.If t b1 b2 pos) D :=
  s_if (h.imp fun b M1 ⟨hb, hM⟩ => by
    subst hb hM
    exact ⟨fun h => (by cases h), fun _ => k⟩)
theorem s_ifT {D : AE} {t : Expr} {b1 b2 : List Stmt} (h : EvT c δ M t fun k M1 => k = true ∧ M1 = M) (k : Run c δ M b1 D) : Run1 c δ M (.If t b1 b2 pos) D :=
  s_if (h.imp fun b M1 ⟨hb, hM⟩ => by
    subst hb hM
    exact ⟨fun _ => k, fun h => (by cases h)⟩)
theorem s_ifB {D : AE} {t : Expr} {b1 b2 : List Stmt} (v : Bool) (h : EvT c δ M t fun k M1 => k = v ∧ M1 = M) (k1 : v = true → Run c δ M b1 D) (k2 : v = false → Run c δ M b2 D) : Run1 c δ M (.If t b1 b2 pos) D :=
  s_if (h.imp fun b M1 ⟨hb, hM⟩ => by
    subst hb hM
    exact ⟨k1, k2⟩)
theorem x_eq (v : AV) (h : EvX c δ M e fun a M1 => a = v ∧ M1 = M) (k : Post v M) : EvX c δ M e Post := h.imp fun a M1 ⟨ha, hM⟩ => by
  subst ha hM
  exact k
theorem t_eq {B : Bool → List MO → Prop} {t : Expr} (v : Bool) (h : EvT c δ M t fun k M1 => k = v ∧ M1 = M) (k : B v M) : EvT c δ M t B := h.imp fun b M1 ⟨hb, hM⟩ => by
  subst hb hM
  exact k
end
end Fx

/-! Fx, part N: a dict of ints, each True. -/
namespace Fx
open PySem L2
section
variable {c : SC} {δ : Dl} {M : List MO} {Post : AQ} {a b e o f : Expr} {p p1 p2 p3 p4 p5 p6 pos : Pos}
/-! ### a dict of ints, each True -/
def addK (ks : List Int) (k : Int) : List Int := if k ∈ ks then ks else ks ++ [k]
theorem putK_add (ks : List Int) (k : Int) : putK (ks.map fun k => ((Sum.inl k : Key), V.bl true)) (Sum.inl k) (V.bl true) = (addK ks k).map fun k => ((Sum.inl k : Key), V.bl true) := by
  unfold putK addK
  by_cases h : k ∈ ks
  · rw [if_pos h, if_pos]
    · rw [List.map_map]
      apply List.map_congr_left
      intro x _
      show (if (Sum.inl x : Key) = Sum.inl k then ((Sum.inl x : Key), V.bl true) else (Sum.inl x, V.bl true)) = _
      split <;> rfl
    · rw [List.any_map, List.any_eq_true]
      exact ⟨k, h, decide_eq_true rfl⟩
  · rw [if_neg h, if_neg, List.map_append]
    · rfl
    · rw [List.any_map, List.any_eq_true]
      rintro ⟨x, hx, e⟩
      have : (Sum.inl x : Key) = Sum.inl k := of_decide_eq_true e
      exact h (Sum.inl.inj this ▸ hx)
/-- x = {} -/
theorem x_dnew (h : Post (.mut M.length) (M ++ [.kd []])) : EvX c δ M (.Dict [] [] pos) Post := fun y σ H ad he hs Q q =>
  ⟨_, pe_dnewK (X := y.cx), fun p1 h1 => by
    have sm := same_new (o := .dK []) h1
    have s1 := hs.same sm
    have f1 := hs.free h1
    exact q _ _ (ad ++ [p1]) (.mut M.length) _ (push_nx (Nx.same sm) h1 f1) (s1.push (m := .kd []) f1 upd_same) ⟨p1, by rw [← hs.len, List.getElem?_append_right (Nat.le_refl _), Nat.sub_self]; rfl, rfl⟩ h⟩
/-- d[e] = True -/
theorem s_kput {D : AE} {jt : Nat} {pt : Pos} (h : EvX c δ M o fun v M2 => EvX c δ M2 f fun u M3 => ∃ (i : Int) (j : Nat) (ks : List Int), v = .mut j ∧ u = .dat (.int i) ∧ M3[j]? = some (.kd ks) ∧ ks.length < 1000000 ∧ D.nx δ (M3.set j (.kd (addK ks i))))
    (hs1 : ∀ env, swapsWith (.Constant (.bool true) jt pt) (some (.Subscript o f p1)) pos.line env = pure false) : Run1 c δ M (.Assign [.Subscript o f p1] (.Constant (.bool true) jt pt) pos) D := fun y σ H ad he hs E q =>
  ⟨_, ps_dput (X := y.cx) (hu_of y.room) wE_ok wE_ok pe_bl (hs1 y.env), h y σ H ad he hs _ fun v H2 ad2 a2 M2 n2 s2 r2 p2 => p2 y σ H2 ad2 (he.nx n2) s2 _ fun u H3 ad3 a3 M3 n3 s3 r3 ⟨i, j, ks, e2, e3, hm, hl, p3⟩ => by
    subst e2 e3
    obtain ⟨qq, hq, rfl⟩ := r2.nx n3
    obtain ⟨a4, h4, hH⟩ := s3.obj j _ hm
    rw [hq] at h4
    cases h4
    obtain rfl : u = V.int i := r3
    have hH : H3 qq = some (.dK (ks.map fun k => (Sum.inl k, V.bl true))) := hH
    obtain ⟨s4, n4⟩ := s3.put (m := .kd (addK ks i)) (o := .dK ((addK ks i).map fun k => (Sum.inl k, V.bl true))) hq upd_same
    have n14 := (n2.trans n3).trans n4
    have hlt : (ks.map fun k => ((Sum.inl k : Key), V.bl true)).length < sizeLine := by
      rw [List.length_map]
      have h24 : sizeLine = 16777216 := sizeLine_eq
      omega
    refine ⟨qq, _, rfl, DPut.k (k := Sum.inl i) hH hlt, ?_⟩
    rw [putK_add]
    exact q.nx σ _ ad3 δ _ n14 (he.nx n14) s4 p3⟩
/-- sorted(d) -/
theorem cf_sortedK {Pf : List D → List MO → Prop} {j : Nat} {ks : List Int} (hm : M[j]? = some (.kd ks)) (hl : ks.length < 64) (h : ∀ ns : List Int, ns.Perm ks → ns.Pairwise (· ≤ ·) → Pf (ns.map .int) M) : CallF c (.builtin "sorted") [.mut j] M Pf := fun z H ad hs vs r Q q => by
  obtain ⟨u, rfl, ru⟩ := repAs1 r
  obtain ⟨qq, hq, rfl⟩ := ru
  obtain ⟨a4, h4, hH⟩ := hs.obj j _ hm
  rw [hq] at h4
  cases h4
  refine ⟨_, call_sortedDI rfl, qq, _, ks, rfl, .inl hH, ?_, hl, fun ns' q' h1 h2 hn => ?_⟩
  · rw [List.map_map]
    rfl
  have sm := same_new (o := .lst (ns'.map V.int)) hn
  exact q q' _ _ ad (ns'.map .int) M (Nx.same sm) (hs.same sm) hn (hs.free hn) upd_same (reps_ints.mpr rfl) (h ns' h1 h2)
end
end Fx

/-! Fx, part O: x = [..] into the store; enumerate over a list; list.index of ints. -/
namespace Fx
open PySem L2
section
variable {c : SC} {δ : Dl} {M : List MO} {Post : AQ} {a b e o tg iter elt : Expr} {ifs : List Expr} {scope : Scope} {own : List (Str × Nat)} {p p1 p2 p3 apos pos tpos : Pos} {x : Str} {i : Nat} {Pi : List D → Option Nat → List MO → Prop} {elts : List Expr} {kk : Nat}
/-- x = [..], x a local, the list goes into the store -/
theorem s_lcN {D : AE} {α : Type} [hN : VarAt c.N x i] [hk : NamesOk c.N] (own : List (Str × Nat)) (f : α → Fx.D) (pr : α → Bool) (ok : BlkOk c.N c.sc scope own) (hxl : c.sc.names.lookup x = some .local) (hkd : c.sc.kind = .function) (hln : (p.line == pos.line) = true)
    (ha : (scope.names.any fun (n, k) => n == x && (k == .local || k == .cell)) = false)
    (h : EvI c δ M tg iter fun ds src M1 => ∃ (xs : List α) (g : α → Fx.D), ds = xs.map g ∧ xs.length ≤ 1000000 ∧ (∀ j, src = some j → M1[j]? = some (.lst ds)) ∧
      (∀ x, x ∈ xs → LcTurn (c.blk scope) (wipeD δ (own.map (·.2))) tg elt ifs (own.map (·.2)) (g x) M1 (fun d' M4 => pr x = true ∧ d' = f x ∧ M4 = M1) (fun M3 => pr x = false ∧ M3 = M1)) ∧ D.nx (δ.set i (some (.mut M1.length))) (M1 ++ [.lst ((xs.filter pr).map f)]))
    (hf : ∀ env x, foldedSetIterable iter env x = pure x) : Run1 c δ M (.Assign [.Name x p] (.ListComp elt [⟨tg, iter, ifs, 0⟩] scope pos) p1) D :=
  s_setLc own i hN.get hxl (fun env e => sw_true (by rw [e]; exact hkd) (by rw [e]; exact hxl) hln ha) ok hk.nd hf (lc_plain (Pf := fun ds M2 => D.nx (δ.set i (some (.mut M2.length))) (M2 ++ [.lst ds])) f pr h) (.inr fun ds M2 z => z)
theorem walks_enumL {K : PySem.W.Frag} {ad : List Addr} {H : Hp} {ds : List D} {q : Addr} {xs : List V} (hq : LstAt ad H q xs) (rr : Reps K H ds xs) : Walks K (Ite K q) ad H (enumD ds) none := fun ad2 H2 M2 n s _ i => by
  have hq2 := (hq.nx n).sq (K := K)
  have rr2 := rr.tx n.tx
  refine ⟨fun d hd => ?_, fun e => ⟨xs, hq2, by rw [rr2.length, e, enumD_len]; exact Nat.le_refl _⟩⟩
  obtain ⟨d', hd', rfl⟩ := enumD_get hd
  obtain ⟨w, hw, rw'⟩ := rr2.get hd'
  refine ⟨⟨xs, w, hq2, hw⟩, fun x H3 ⟨T, y, e1, hT, e3, hy⟩ => ?_⟩
  subst e1 e3
  have := hy xs hq2
  rw [hw] at this
  cases this
  have sm := same_new (o := .tup [.int (i : Nat), w]) hT
  exact ⟨sm, T, _, rfl, .inl (.inl upd_same), _, _, rfl, rfl, _, _, rfl, Rep.tx (Tx.same sm) rw', rfl⟩
theorem i_enumL (hm : c.mg "enumerate" = none) (hg : c.gl "enumerate") (h : EvA c δ M [e] fun as M1 => ∃ ds, as = [.ls ds] ∧ Pi (enumD ds) none M1)
    (hs1 : ∀ env, starEach [e] env = [(false, eval e env)]) : EvI c δ M (.Tuple elts kk tpos) (.Call (.Name "enumerate" p) [e] [] pos) Pi := fun y σ H ad he hs R q =>
  ⟨_, pi_enum (glS y hg) hm wA_ok (hs1 y.env), h y σ H ad he hs _ fun vs H1 ad1 as M1 n1 s1 r1 ⟨ds, e1, p1⟩ => by
    subst e1
    obtain ⟨v, e2, qq, xs, e3, hq, rr⟩ := repAs1 r1
    subst e2 e3
    exact ⟨qq, xs, rfl, hq.sq, q _ H1 ad1 _ _ M1 n1 s1 (walks_enumL hq rr) p1⟩⟩
theorem enum_map {α : Type} (xs : List α) (f : α → D) : enumD (xs.map f) = xs.zipIdx.map fun q => D.tup [.int (q.2 : Nat), f q.1] := by
  unfold enumD
  rw [List.zipIdx_map, List.map_map]
  rfl
theorem eqV_int (a b : Int) : eqV (V.int a) (V.int b) = decide (a = b) := by simp [eqV, Bool.beq_eq_decide_eq]
/-- xs.index(e), ints, e among them -/
theorem x_lindex (h : EvX c δ M o fun v M1 => ∃ ns : List Int, v = .ls (ns.map .int) ∧ EvX c δ M1 e fun w M2 => ∃ k : Int, w = .dat (.int k) ∧ k ∈ ns ∧ Post (.dat (.int (ns.idxOf k : Nat))) M2)
    (hbase : ∀ env, attributeBase o "index" env (eval o env) = eval o env)
    (hfew : ∀ env, ((backTo pos (starEach [e] env)).all (fun x => !x.1) && (backToKw pos (keywordEach [] env)).all (fun x => x.1.isSome) && decide ([e].length + ([] : List Keyword).length + (if ([] : List Keyword).isEmpty then 0 else 1) < 30)) = true)
    (hline : (apos.endLine == pos.line) = true) (hst : ∀ env, starEach [e] env = (false, eval e env) :: starEach [] env) : EvX c δ M (.Call (.Attribute o "index" apos) [e] [] pos) Post := fun y σ H ad he hs Q q =>
  ⟨_, pe_bm (X := y.cx) PySem.F.plainAttrs_list PySem.F.slot_list_index PySem.F.type_list_index mt_index wE_ok (pa_cons wE_ok pa_nil (hst y.env)) (hbase y.env) (hfew y.env) hline (hst y.env) rfl, h y σ H ad he hs _ fun v H1 ad1 a1 M1 n1 s1 r1 ⟨ns, e1, p1⟩ => by
    subst e1
    obtain ⟨qq, xs, rfl, hq, rr⟩ := id r1
    refine ⟨.inl ⟨rfl, xs, hq.sq⟩, p1 y σ H1 ad1 (he.nx n1) s1 _ fun w H2 ad2 a2 M2 n2 s2 r2 ⟨k, e2, hk, p2⟩ => ?_⟩
    subst e2
    obtain ⟨q3, xs3, e3, hq3, rr3⟩ := r1.nx n2
    cases e3
    have hq4 := hq3.sq (K := c.K)
    rw [reps_ints.mp rr3] at hq4
    have hlt := List.idxOf_lt_length_iff.mpr hk
    refine ⟨qq, ns.map V.int, V.int k, ns.idxOf k, V.int k, rfl, ?_, hq4, rfl, ?_, ?_, ?_, fun m z hm hz => ?_, q _ H2 ad2 (.dat (.int (ns.idxOf k : Nat))) M2 (n1.trans n2) s2 rfl p2⟩
    · rw [show w = .int k from r2]
    · rw [List.all_map]
      exact List.all_eq_true.mpr fun _ _ => rfl
    · rw [List.getElem?_map, List.getElem?_eq_getElem hlt, List.getElem_idxOf hlt]
      rfl
    · rw [eqV_int, decide_eq_true rfl]
    · have hml : m < ns.length := Nat.lt_trans hm hlt
      rw [List.getElem?_map, List.getElem?_eq_getElem hml] at hz
      have ez : z = V.int ns[m] := (Option.some.inj hz).symm
      rw [ez, eqV_int]
      refine decide_eq_false fun e => ?_
      have := List.not_of_lt_findIdx (p := (· == k)) (xs := ns) (i := m) (by exact hm)
      simp [e] at this⟩
/-- two ways behind a statement meet again -/
theorem s_join {D : AE} {st : Stmt} (J : Dl → List MO → Prop) (h : Run1 c δ M st { D with nx := J }) (k : ∀ δ2 M2, J δ2 M2 → D.nx δ2 M2) : Run1 c δ M st D := fun y σ H ad he hs E q =>
  h y σ H ad he hs E ⟨fun σ2 H2 ad2 δ2 M2 n e s p => q.nx σ2 H2 ad2 δ2 M2 n e s (k δ2 M2 p), q.rt, q.bk, q.ct⟩
end
end Fx

/-! Fx, part P: a, b, .. = x, y, .. of any values; int(b). -/
namespace Fx
open PySem L2
section
variable {c : SC} {δ : Dl} {M : List MO} {Post : AQ} {a b e o : Expr} {es tgs : List Expr} {p p1 p2 p3 pos pt pt2 : Pos} {x : Str} {i : Nat} {is : List Nat}
/-- targets that are names, with their places -/
inductive NT (c : SC) : List Expr → List Nat → Prop
  | nil : NT c [] []
  | cons {x : Str} {pos : Pos} {i : Nat} {tgs : List Expr} {is : List Nat} (hN : c.N[i]? = some x) (hnd : c.N.Nodup) (hx : Loc c.sc x) (hf : c.fn x = true ∨ c.sc.names.lookup x = some .local)
      (hs : ∀ env, (assignEach (.Name x pos :: tgs) env).map (·.2) = assign (.Name x pos) env :: (assignEach tgs env).map (·.2)) (h : NT c tgs is) : NT c (.Name x pos :: tgs) (i :: is)
theorem nt_c [hN : VarAt c.N x i] [hk : NamesOk c.N] (hx : Loc c.sc x) (hf : c.fn x = true ∨ c.sc.names.lookup x = some .local)
    (hs : ∀ env, (assignEach (.Name x pos :: tgs) env).map (·.2) = assign (.Name x pos) env :: (assignEach tgs env).map (·.2)) (h : NT c tgs is) : NT c (.Name x pos :: tgs) (i :: is) := .cons hN.get hk.nd hx hf hs h
def gNames : List Nat → TGs
  | [] => gNil
  | i :: is => gCons (gName i) (gNames is)
def setAll (δ : Dl) : List Nat → List AV → Dl
  | i :: is, a :: as => setAll (δ.set i (some a)) is as
  | _, _ => δ
theorem NT.pgs (h : NT c tgs is) (y : Dyn c) : PGs y.cx tgs (gNames is) := by
  induction h with
  | nil => exact pgs_nil
  | cons hN hnd hx hf hs h ih => exact pgs_cons (pg_name (X := y.cx) hnd hN (by show Loc y.env.scope _; rw [y.sc]; exact hx) (by show c.fn _ = true ∨ y.env.scope.names.lookup _ = some .local; rw [y.sc]; exact hf)) ih (hs y.env)
theorem gNames_run {K : PySem.W.Frag} {ad : List Addr} {H : Hp} : ∀ {is : List Nat} {as : List AV} {vs : List V} {σ : L2.St} {δ : Dl} {Q : L2.St → Hp → Prop}, RepAs K ad H as vs → as.length = is.length → EnvOk K ad H σ δ →
    (∀ σ2, EnvOk K ad H σ2 (setAll δ is as) → Q σ2 H) → gNames is vs σ H Q
  | [], [], vs, σ, δ, Q, r, _, e, q => ⟨r, q σ e⟩
  | i :: is, a :: as, vs, σ, δ, Q, ⟨v, r, ev, h1, h2⟩, hl, e, q => by
    subst ev
    exact ⟨v, r, rfl, gNames_run h2 (by simpa using hl) (e.set h1) q⟩
  | [], _ :: _, _, _, _, _, _, hl, _, _ => by simp at hl
  | _ :: _, [], _, _, _, _, _, hl, _, _ => by simp at hl
/-- a, b, .. = x, y, ..: a tuple is made and taken apart -/
theorem s_tupN {D : AE} {k k2 : Nat} (nt : NT c tgs is) (h : EvA c δ M es fun as M1 => as.length = is.length ∧ D.nx (setAll δ is as) M1) (hi : is.length ≤ 1000)
    (hs1 : ∀ env, swapsWithSole [.Tuple tgs k pt] (.Tuple es k2 pt2) pos.line env = pure false) (hw : ∀ env : Env, env.scope = c.sc → swappedStores [.Tuple tgs k pt] (.Tuple es k2 pt2) env = pure none)
    (h1 : ∀ env, (assignEach [.Tuple tgs k pt] env).map (·.2) = [assign (.Tuple tgs k pt) env]) (hn : ∀ env, (assignEach tgs env).length = is.length) (hst : ∀ env, (assignEach tgs env).findIdx? (·.1) = none) :
    Run1 c δ M (.Assign [.Tuple tgs k pt] (.Tuple es k2 pt2) pos) D := fun y σ H ad he hs E q =>
  ⟨_, ps_asg (pe_tup wA_ok) (pg_tup (X := y.cx) rfl (nt.pgs y) (hn y.env) (hst y.env)) (hs1 y.env) (hw y.env y.sc) (h1 y.env), h y σ H ad he hs _ fun vs H1 ad1 as M1 n1 s1 r1 ⟨hl, p1⟩ => by
    have hvl := repAs_length r1
    refine ⟨by rw [hvl, hl]; exact Nat.le_trans hi (by decide), fun p hp => ?_⟩
    have sm := same_new (o := .tup vs) hp
    have n2 := n1.trans (Nx.same (ad := ad1) sm)
    exact ⟨p, vs, rfl, .inl (.inl upd_same), by rw [hvl, hl], gNames_run (r1.nx (Nx.same sm)) hl (he.nx n2) fun σ2 e2 => q.nx σ2 _ ad1 _ M1 n2 e2 (s1.same sm) p1⟩⟩
theorem repAs3 {K : PySem.W.Frag} {ad : List Addr} {H : Hp} {a b c : AV} {vs : List V} (r : RepAs K ad H [a, b, c] vs) : ∃ u v w, vs = [u, v, w] ∧ RepA K ad H a u ∧ RepA K ad H b v ∧ RepA K ad H c w := by
  obtain ⟨x, r, e, h, rr⟩ := r
  obtain ⟨v, w, e2, h2, h3⟩ := repAs2 rr
  subst e2
  exact ⟨x, v, w, e, h, h2, h3⟩
/-- a, b, c = x, y, z, all locals -/
theorem s_p3 {D : AE} {x2 x3 : Str} {j l : Nat} {e1 e2 e3 : Expr} {px py pz : Pos} {kt k2 : Nat} [hi : VarAt c.N x i] [hj : VarAt c.N x2 j] [hl : VarAt c.N x3 l] [hk : NamesOk c.N] (hij : i ≠ j) (hil : i ≠ l) (hjl : j ≠ l) (hx : c.sc.names.lookup x = some .local) (hy : c.sc.names.lookup x2 = some .local) (hz : c.sc.names.lookup x3 = some .local)
    (h : EvA c δ M [e1, e2, e3] fun as M1 => ∃ u v w, as = [u, v, w] ∧ D.nx (((δ.set i (some u)).set j (some v)).set l (some w)) M1)
    (hw : ∀ env : Env, env.scope = c.sc → swappedStores [.Tuple [.Name x px, .Name x2 py, .Name x3 pz] kt pt] (.Tuple [e1, e2, e3] k2 pt2) env = pure (some [x, x2, x3]))
    (hs1 : ∀ env, swapsWithSole [.Tuple [.Name x px, .Name x2 py, .Name x3 pz] kt pt] (.Tuple [e1, e2, e3] k2 pt2) pos.line env = pure false) :
    Run1 c δ M (.Assign [.Tuple [.Name x px, .Name x2 py, .Name x3 pz] kt pt] (.Tuple [e1, e2, e3] k2 pt2) pos) D := fun y σ H ad he hs E q =>
  ⟨_, ps_par3 (X := y.cx) rfl hk.nd hi.get hj.get hl.get hij hil hjl (by show y.env.scope.names.lookup x = some .local; rw [y.sc]; exact hx) (by show y.env.scope.names.lookup x2 = some .local; rw [y.sc]; exact hy) (by show y.env.scope.names.lookup x3 = some .local; rw [y.sc]; exact hz) wA_ok (hw y.env y.sc) (hs1 y.env),
    h y σ H ad he hs _ fun vs H2 ad2 as M2 n s r ⟨u, v, w, e, p⟩ => by
      subst e
      obtain ⟨u1, v1, w1, e1, r1, r2, r3⟩ := repAs3 r
      exact ⟨u1, v1, w1, e1, q.nx _ H2 ad2 _ M2 n ((((he.nx n).set r1).set r2).set r3) s p⟩⟩
theorem ca_int1 {k : Bool} (h : Post (.dat (.int (if k then 1 else 0))) M) : CallA c (.type "int") [.dat (.bl k)] M Post := fun z H ad hs vs r Q q => by
  obtain ⟨u, rfl, ru⟩ := repAs1 r
  rw [show u = .bl k from ru]
  exact ⟨_, call_int1, .inr ⟨k, rfl, q _ H ad (.dat (.int (if k then 1 else 0))) M Nx.refl hs rfl h⟩⟩
end
end Fx

/-! Fx, part Li: lists that nobody changes, as data. -/
namespace L2
open PySem
section
variable {X : Cx}
def tLisX9 (t : TA) : TE := fun σ H Q => t σ H fun xs H1 => xs.length ≤ sizeLine ∧ ∀ p o, H1 p = none → Q (.ref p) (upd H1 p (.frz o (.lst xs)))
theorem pe_lstX9 {es : List Expr} {t : TA} {pos : Pos} (h : PA X es t) : PE X (.List es pos) (tLisX9 t) := by
  refine ⟨fun pins s σ H Q I hq => ?_⟩
  refine wpAny_List_spliced (thn (h.run pos pins s σ H _ I hq) fun us s1 ⟨xs, H1, I1, r, z, q⟩ => ⟨by rw [← r.length]; exact z, ?_⟩)
  have hf : H1 s1.heap.objs.size = none := I1.hok.fresh (Nat.le_refl _)
  let ob : Obj := { cls := .type "list", data := .seq us.toArray }
  have g : (s1.heap.push ob).get? s1.heap.objs.size = some ob := Heap.get?_push_size _ rfl
  refine ⟨.ref s1.heap.objs.size, upd H1 s1.heap.objs.size (.frz ob (.lst xs)), I1.laid (t' := s1.toks) (o := .frz ob (.lst xs)) (fun b u e => Heap.get?_push_of_some _ e) (Nat.le_refl _) ?_, rfl, q _ _ hf⟩
  exact ⟨g, z, us, 0, r, g⟩
theorem call_listX9 : CallR X (.type "list") (fun xs H Q => ∃ p ys, xs = [.ref p] ∧ (SqL X.K H p ys ∨ SqT X.K H p ys) ∧ ∀ l o, H l = none → Q (.ref l) (upd H l (.frz o (.lst ys)))) := by
  intro pins s σ H xs us Q I r h
  obtain ⟨p, ys, rfl, hq, q⟩ := h
  obtain ⟨u, rfl, rx⟩ := vals1 r
  cases rx
  have fin : ∀ (its : List Value), Vals ys its → ys.length ≤ sizeLine → ∀ (h' : Heap) (c' : Nat), (∀ b o', s.heap.get? b = some o' → h'.get? b = some o') →
      h'.get? s.heap.objs.size = some { cls := .type "list", dict := none, data := .seq its.toArray c', slots := #[] } → EP X pins σ Q (.ref s.heap.objs.size) { s with heap := h' } := fun its r' hz h' c' kp e =>
    ⟨.ref s.heap.objs.size, _, I.laid (t' := s.toks) (o := .frz { cls := .type "list", dict := none, data := .seq its.toArray c', slots := #[] } (.lst ys)) kp (Nat.le_refl _) (show ObjOk X.prog X.w _ h' _ (.frz _ (.lst ys)) from ⟨e, hz, its, c', r', e⟩), rfl, q _ _ (I.hok.fresh (Nat.le_refl _))⟩
  rcases hq with hq | hq
  · obtain ⟨its, r', pl, hz⟩ := I.list hq
    have hlen := r'.length
    obtain ⟨o, ho, hc, n, hd⟩ := pl.isList
    exact call_list_seq p (.inl rfl) ho hc hd (fun h' c' kp e => fin its r' hz h' c' kp e) (by simp only [List.size_toArray] <;> omega)
  · obtain ⟨its, r', pl, hz⟩ := I.tuple hq
    have hlen := r'.length
    obtain ⟨o, ho, hc, n, hd⟩ := pl
    exact call_list_seq p (.inr rfl) ho hc hd (fun h' c' kp e => fin its r' hz h' c' kp e) (by simp only [List.size_toArray] <;> omega)
end
end L2
namespace Fx
open PySem L2
section
variable {c : SC} {δ : Dl} {M : List MO} {Post : AQ} {e o : Expr} {es : List Expr} {apos pos : Pos} {k : Nat}
/-- [..] as data -/
theorem x_lis (h : EvA c δ M es fun as M1 => ∃ ds, DatsAre as ds ∧ ds.length ≤ 1000000 ∧ Post (.dat (.lis ds)) M1) : EvX c δ M (.List es pos) Post := fun y σ H ad he hs Q q =>
  ⟨_, pe_lstX9 wA_ok, h y σ H ad he hs _ fun vs H1 ad1 as M1 n1 s1 r1 ⟨ds, hd, hl, p1⟩ => by
    have rr := hd.reps r1
    refine ⟨by rw [rr.length]; exact Nat.le_trans hl (by decide), fun p ob hp => ?_⟩
    have sm := same_new (o := .frz ob (.lst vs)) hp
    exact q _ _ ad1 (.dat (.lis ds)) M1 (n1.trans (Nx.same sm)) (s1.same sm) ⟨p, vs, ob, rfl, upd_same, rr.tx (Tx.same sm)⟩ p1⟩
/-- list(x) as data -/
theorem ca_lis {v : AV} {ds : List D} (hv : IsS M v ds) (h : Post (.dat (.lis ds)) M) : CallA c (.type "list") [v] M Post := fun z H ad hs vs r Q q => by
  obtain ⟨u, rfl, ru⟩ := repAs1 r
  obtain ⟨pp, xs, rfl, hq, rr⟩ := hv.sq hs ru
  refine ⟨_, call_listX9, pp, xs, rfl, hq, fun l ob hn => ?_⟩
  have sm := same_new (o := .frz ob (.lst xs)) hn
  exact q _ _ ad (.dat (.lis ds)) M (Nx.same sm) (hs.same sm) ⟨l, xs, ob, rfl, upd_same, rr.tx (Tx.same sm)⟩ h
end
end Fx

/-! The mathematics: ways and rows. -/
namespace My
open Fx
/-- in how many ways k can be chosen of n -/
def ch : Nat → Nat → Nat
  | _, 0 => 1
  | 0, _ + 1 => 0
  | n + 1, k + 1 => ch n k + ch n (k + 1)
theorem ch_zero (n : Nat) : ch n 0 = 1 := by cases n <;> rfl
theorem ch_big : ∀ (n k : Nat), n < k → ch n k = 0
  | 0, 0, h => by omega
  | 0, _ + 1, _ => rfl
  | n + 1, 0, h => by omega
  | n + 1, k + 1, h => by
    show ch n k + ch n (k + 1) = 0
    rw [ch_big n k (by omega), ch_big n (k + 1) (by omega)]
theorem ch_succ (n k : Nat) : ch (n + 1) (k + 1) = ch n k + ch n (k + 1) := rfl
theorem ch_step : ∀ (n k : Nat), k ≤ n → (k + 1) * ch n (k + 1) = ch n k * (n - k)
  | 0, k, h => by
    have : k = 0 := by omega
    subst this
    rfl
  | n + 1, 0, _ => by
    rw [ch_succ, ch_zero, ch_zero, Nat.one_mul]
    have ih := ch_step n 0 (by omega)
    rw [ch_zero] at ih
    omega
  | n + 1, k + 1, h => by
    rw [ch_succ, ch_succ]
    have i1 := ch_step n k (by omega)
    by_cases hk : k + 1 ≤ n
    · have i2 := ch_step n (k + 1) hk
      obtain ⟨d, hd⟩ : ∃ d, n = k + 1 + d := ⟨n - (k + 1), by omega⟩
      subst hd
      have e1 : k + 1 + d - k = d + 1 := by omega
      have e2 : k + 1 + d - (k + 1) = d := by omega
      have e3 : k + 1 + d + 1 - (k + 1) = d + 1 := by omega
      rw [e1] at i1
      rw [e2] at i2
      rw [e3]
      generalize ch (k + 1 + d) k = A at *
      generalize ch (k + 1 + d) (k + 1) = B at *
      generalize ch (k + 1 + d) (k + 1 + 1) = C at *
      rw [Nat.mul_add, Nat.add_mul A B, ← i1]
      have : (k + 1 + 1) * C = B * d := i2
      rw [this]
      rw [Nat.add_mul (k + 1) 1 B, Nat.one_mul, Nat.mul_succ B d]
      omega
    · have : n = k := by omega
      subst this
      rw [ch_big n (n + 1) (by omega), ch_big n (n + 1 + 1) (by omega)]
      simp
def waysL (m : Int) : Nat → Int
  | 0 => 1
  | n + 1 => waysL m n * (m - n) / ((n : Int) + 1)
def waysN (m s : Int) : Int := if 0 ≤ s ∧ s ≤ m then waysL m s.toNat else 0
theorem waysL_ch (m : Nat) : ∀ n : Nat, n ≤ m → waysL (m : Int) n = (ch m n : Int)
  | 0, _ => by rw [ch_zero]; rfl
  | n + 1, h => by
    show waysL (m : Int) n * ((m : Int) - n) / ((n : Int) + 1) = _
    rw [waysL_ch m n (by omega)]
    have e := ch_step m n (by omega)
    have : (ch m n : Int) * ((m : Int) - n) = ((n : Int) + 1) * (ch m (n + 1) : Int) := by
      have h2 : ((m - n : Nat) : Int) = (m : Int) - n := by omega
      rw [← h2]
      exact_mod_cast e.symm
    rw [this, Int.mul_ediv_cancel_left _ (by omega)]
theorem waysN_ch (m s : Nat) : waysN (m : Int) (s : Int) = (ch m s : Int) := by
  unfold waysN
  by_cases h : s ≤ m
  · rw [if_pos ⟨by omega, by omega⟩, Int.toNat_natCast, waysL_ch m s h]
  · rw [if_neg (by omega), ch_big m s (by omega)]
    rfl
theorem waysN_out {m s : Int} (h : ¬ (0 ≤ s ∧ s ≤ m)) : waysN m s = 0 := if_neg h
theorem waysN_in {m s : Int} (h0 : 0 ≤ s) (h1 : s ≤ m) : waysN m s = waysL m s.toNat := if_pos ⟨h0, h1⟩
theorem ch_le : ∀ (n k : Nat), ch n k ≤ 2 ^ n
  | n, 0 => by rw [ch_zero]; exact Nat.one_le_two_pow
  | 0, _ + 1 => Nat.zero_le _
  | n + 1, k + 1 => by
    rw [ch_succ, Nat.pow_succ]
    have := ch_le n k
    have := ch_le n (k + 1)
    omega
theorem _root_.List.filter_true' {α : Type} (l : List α) : l.filter (fun _ => true) = l := by simp
/-! ### rows -/
/-- all rising rows of s numbers from first to many, in order: as the program's chosen makes them -/
def chosenL (many : Int) : Nat → Int → List (List Int)
  | 0, _ => [[]]
  | s + 1, first => (rg first (many - ((s : Int) + 1) + 2)).flatMap fun n => (chosenL many s (n + 1)).map (n :: ·)
theorem rg_cons {lo hi : Int} (h : lo < hi) : rg lo hi = lo :: rg (lo + 1) hi := by
  unfold rg
  obtain ⟨k, hk⟩ : ∃ k : Nat, (hi - lo).toNat = k + 1 := ⟨(hi - lo).toNat - 1, by omega⟩
  have h2 : (hi - (lo + 1)).toNat = k := by omega
  rw [hk, h2, List.range_succ_eq_map, List.map_cons, List.map_map]
  have e1 : lo + ((0 : Nat) : Int) = lo := by simp
  rw [e1]
  congr 1
  apply List.map_congr_left
  intro i _
  show lo + ((i + 1 : Nat) : Int) = lo + 1 + (i : Nat)
  omega
theorem rg_nil {lo hi : Int} (h : hi ≤ lo) : rg lo hi = [] := by
  unfold rg
  rw [show (hi - lo).toNat = 0 by omega]
  rfl
theorem chosen_nil {many : Int} {s : Nat} {first : Int} (h : many - s + 1 ≤ first) : chosenL many (s + 1) first = [] := by
  show (rg first (many - ((s : Int) + 1) + 2)).flatMap _ = []
  rw [rg_nil (lo := first) (hi := many - ((s : Int) + 1) + 2) (by omega)]
  rfl
theorem chosen_cons {many : Int} {s : Nat} {first : Int} (h : first ≤ many - s) : chosenL many (s + 1) first = (chosenL many s (first + 1)).map (first :: ·) ++ chosenL many (s + 1) (first + 1) := by
  show (rg first (many - ((s : Int) + 1) + 2)).flatMap _ = _
  rw [rg_cons (lo := first) (hi := many - ((s : Int) + 1) + 2) (by omega)]
  rfl
/-- how many: by counting -/
theorem chosen_count : ∀ (d : Nat) (s : Nat) (many first : Int), many + 1 - first = (d : Int) → (chosenL many s first).length = ch d s
  | d, 0, _, _, _ => by rw [ch_zero]; rfl
  | 0, s + 1, many, first, h => by
    rw [chosen_nil (many := many) (s := s) (first := first) (by omega)]
    rfl
  | d + 1, s + 1, many, first, h => by
    by_cases hh : first ≤ many - s
    · rw [chosen_cons hh, List.length_append, List.length_map, chosen_count d s many (first + 1) (by omega), chosen_count d (s + 1) many (first + 1) (by omega)]
      rfl
    · rw [chosen_nil (by omega), ch_big (d + 1) (s + 1) (by omega)]
      rfl
theorem chosen_none (s : Nat) (many first : Int) (h : many + 1 < first) : (chosenL many s first).length ≤ 1 := by
  cases s with
  | zero => exact Nat.le_refl 1
  | succ s =>
    rw [chosen_nil (by omega)]
    exact Nat.zero_le 1
theorem chosen_few (s : Nat) (many first : Int) (h1 : 1 ≤ first) (h2 : many ≤ 12) : (chosenL many s first).length ≤ 4096 := by
  by_cases h : many + 1 < first
  · exact Nat.le_trans (chosen_none s many first h) (by decide)
  · obtain ⟨d, hd⟩ : ∃ d : Nat, many + 1 - first = (d : Int) := ⟨(many + 1 - first).toNat, by omega⟩
    rw [chosen_count d s many first hd]
    have := ch_le d s
    have h3 : (2 : Nat) ^ d ≤ 2 ^ 12 := Nat.pow_le_pow_right (by decide) (by omega)
    have : (2 : Nat) ^ 12 = 4096 := by decide
    omega
theorem chosen_row_len {many : Int} : ∀ {s : Nat} {first : Int} {r : List Int}, r ∈ chosenL many s first → r.length = s
  | 0, _, r, h => by
    rw [List.mem_singleton.mp h]
    rfl
  | s + 1, first, r, h => by
    obtain ⟨n, _, h2⟩ := List.mem_flatMap.mp h
    obtain ⟨q, hq, e⟩ := List.mem_map.mp h2
    rw [← e, List.length_cons, chosen_row_len hq]
end My

/-! The mathematics: the law's own rows are the program's. -/
namespace My
open Fx
/-- all rising rows, made without looking ahead -/
def up (m : Int) : Nat → Int → List (List Int)
  | 0, _ => [[]]
  | s + 1, f => (rg f (m + 1)).flatMap fun n => (up m s (n + 1)).map (n :: ·)
theorem up_nil {m : Int} : ∀ {s : Nat} {f : Int}, m < f + s - 1 → up m s f = []  ∨ s = 0
  | 0, _, _ => .inr rfl
  | s + 1, f, h => by
    refine .inl ?_
    show (rg f (m + 1)).flatMap _ = []
    rw [List.flatMap_eq_nil_iff]
    intro n hn
    obtain ⟨h1, h2⟩ := rg_mem.mp hn
    rcases up_nil (m := m) (s := s) (f := n + 1) (by omega) with e | e
    · rw [e]; rfl
    · omega
theorem rg_split {a b c : Int} (h1 : a ≤ b) (h2 : b ≤ c) : rg a c = rg a b ++ rg b c := by
  obtain ⟨k, hk⟩ : ∃ k : Nat, b - a = k := ⟨(b - a).toNat, by omega⟩
  induction k generalizing a with
  | zero =>
    have : a = b := by omega
    subst this
    rw [rg_nil (Int.le_refl a)]
    rfl
  | succ k ih => rw [rg_cons (show a < c by omega), rg_cons (show a < b by omega), List.cons_append, ih (by omega) (by omega)]
theorem up_chosen {m : Int} : ∀ (s : Nat) (f : Int), up m s f = chosenL m s f
  | 0, _ => rfl
  | s + 1, f => by
    show (rg f (m + 1)).flatMap _ = (rg f (m - ((s : Int) + 1) + 2)).flatMap _
    have e : (fun n => (up m s (n + 1)).map (n :: ·)) = fun n => (chosenL m s (n + 1)).map (n :: ·) := by
      funext n
      rw [up_chosen s (n + 1)]
    rw [e]
    by_cases hc : m - ((s : Int) + 1) + 2 ≤ f
    · rw [rg_nil hc]
      show _ = []
      rw [List.flatMap_eq_nil_iff]
      intro n hn
      obtain ⟨h1, h2⟩ := rg_mem.mp hn
      rw [← up_chosen s (n + 1)]
      rcases up_nil (m := m) (s := s) (f := n + 1) (by omega) with e | e
      · rw [e]; rfl
      · omega
    · rw [rg_split (a := f) (b := m - ((s : Int) + 1) + 2) (c := m + 1) (by omega) (by omega), List.flatMap_append]
      have : ((rg (m - ((s : Int) + 1) + 2) (m + 1)).flatMap fun n => (chosenL m s (n + 1)).map (n :: ·)) = [] := by
        rw [List.flatMap_eq_nil_iff]
        intro n hn
        obtain ⟨h1, h2⟩ := rg_mem.mp hn
        rw [← up_chosen s (n + 1)]
        rcases up_nil (m := m) (s := s) (f := n + 1) (by omega) with e | e
        · rw [e]; rfl
        · omega
      rw [this, List.append_nil]
/-- by the last number instead of the first -/
theorem up_last {m : Int} : ∀ (s : Nat) (f : Int), up m (s + 1) f = (up m s f).flatMap fun r => (rg (1 + r.getLastD (f - 1)) (m + 1)).map fun x => r ++ [x]
  | 0, f => by
    show (rg f (m + 1)).flatMap (fun n => [[n]]) = [[]].flatMap _
    rw [List.flatMap_singleton]
    show _ = (rg (1 + (f - 1)) (m + 1)).map fun x => [x]
    rw [show 1 + (f - 1) = f by omega, List.flatMap_def]
    induction rg f (m + 1) with
    | nil => rfl
    | cons a l ih =>
      simp only [List.map_cons, List.flatten_cons, List.singleton_append] at ih ⊢
      rw [ih]
  | s + 1, f => by
    show (rg f (m + 1)).flatMap (fun n => (up m (s + 1) (n + 1)).map (n :: ·)) = ((rg f (m + 1)).flatMap fun n => (up m s (n + 1)).map (n :: ·)).flatMap _
    rw [List.flatMap_assoc]
    congr 1
    funext n
    rw [up_last s (n + 1), List.map_flatMap, List.flatMap_map]
    congr 1
    funext r
    rw [List.map_map, show n + 1 - 1 = n by omega, show (n :: r).getLastD (f - 1) = r.getLastD n by cases r <;> rfl]
    rfl
theorem up_mem {m : Int} : ∀ {s : Nat} {f : Int} {r : List Int}, r ∈ up m s f ↔ r.Pairwise (· < ·) ∧ (∀ x ∈ r, f ≤ x ∧ x ≤ m) ∧ r.length = s
  | 0, f, r => by
    show r ∈ [[]] ↔ _
    rw [List.mem_singleton]
    constructor
    · rintro rfl
      exact ⟨List.Pairwise.nil, fun x hx => (by cases hx), rfl⟩
    · rintro ⟨_, _, h⟩
      exact List.eq_nil_of_length_eq_zero h
  | s + 1, f, r => by
    show r ∈ (rg f (m + 1)).flatMap _ ↔ _
    rw [List.mem_flatMap]
    constructor
    · rintro ⟨n, hn, hr⟩
      obtain ⟨q, hq, rfl⟩ := List.mem_map.mp hr
      obtain ⟨h1, h2, h3⟩ := up_mem.mp hq
      obtain ⟨h4, h5⟩ := rg_mem.mp hn
      refine ⟨List.pairwise_cons.mpr ⟨fun x hx => by have := h2 x hx; omega, h1⟩, fun x hx => ?_, by rw [List.length_cons, h3]⟩
      rcases List.mem_cons.mp hx with rfl | hx
      · omega
      · have := h2 x hx
        omega
    · rintro ⟨h1, h2, h3⟩
      cases r with
      | nil => cases h3
      | cons n q =>
        obtain ⟨h4, h5⟩ := List.pairwise_cons.mp h1
        have hn := h2 n List.mem_cons_self
        refine ⟨n, rg_mem.mpr ⟨hn.1, by omega⟩, List.mem_map.mpr ⟨q, up_mem.mpr ⟨h5, fun x hx => ⟨?_, (h2 x (List.mem_cons_of_mem _ hx)).2⟩, by rw [List.length_cons] at h3; omega⟩, rfl⟩⟩
        have := h4 x hx
        omega
/-- the greatest, at least 0 -/
def rmax (r : List Int) : Int := r.foldl max 0
theorem foldl_max (r : List Int) : ∀ a : Int, a ≤ r.foldl max a ∧ (∀ x ∈ r, x ≤ r.foldl max a) ∧ (r.foldl max a = a ∨ r.foldl max a ∈ r) := by
  induction r with
  | nil => intro a; exact ⟨Int.le_refl _, fun x hx => (by cases hx), .inl rfl⟩
  | cons b r ih =>
    intro a
    obtain ⟨h1, h2, h3⟩ := ih (max a b)
    refine ⟨Int.le_trans (Int.le_max_left a b) h1, fun x hx => ?_, ?_⟩
    · rcases List.mem_cons.mp hx with rfl | hx
      · exact Int.le_trans (Int.le_max_right a x) h1
      · exact h2 x hx
    · rcases h3 with h3 | h3
      · show r.foldl max (max a b) = a ∨ r.foldl max (max a b) ∈ b :: r
        rw [h3]
        by_cases h : a ≤ b
        · rw [Int.max_eq_right h]
          exact .inr List.mem_cons_self
        · rw [Int.max_eq_left (by omega)]
          exact .inl rfl
      · exact .inr (List.mem_cons_of_mem _ h3)
theorem rmax_of {r : List Int} {m : Int} (h1 : m ∈ 0 :: r) (h2 : ∀ y, y ∈ 0 :: r → y ≤ m) : m = rmax r := by
  obtain ⟨a, b, c⟩ := foldl_max r 0
  have h3 : m ≤ rmax r := by
    rcases List.mem_cons.mp h1 with rfl | h
    · exact a
    · exact b m h
  have h4 : rmax r ≤ m := by
    rcases c with c | c
    · show r.foldl max 0 ≤ m
      rw [c]
      exact h2 0 List.mem_cons_self
    · exact h2 _ (List.mem_cons_of_mem _ c)
  omega
theorem rmax_last {r : List Int} (h : r.Pairwise (· < ·)) (h0 : ∀ x ∈ r, 1 ≤ x) : rmax r = r.getLastD 0 := by
  symm
  apply rmax_of
  · cases r with
    | nil => exact List.mem_cons_self
    | cons a r =>
      refine List.mem_cons_of_mem _ ?_
      have : (a :: r).getLastD 0 = (a :: r).getLast (by simp) := by
        simp [List.getLastD_eq_getLast?, List.getLast?_eq_getLast]
      rw [this]
      exact List.getLast_mem _
  · intro y hy
    rcases List.mem_cons.mp hy with rfl | hy
    · cases r with
      | nil => exact Int.le_refl _
      | cons a r =>
        have : (a :: r).getLastD 0 = (a :: r).getLast (by simp) := by
          simp [List.getLastD_eq_getLast?, List.getLast?_eq_getLast]
        rw [this]
        have := h0 _ (List.getLast_mem (l := a :: r) (by simp))
        omega
    · cases r with
      | nil => cases hy
      | cons a r =>
        have : (a :: r).getLastD 0 = (a :: r).getLast (by simp) := by
          simp [List.getLastD_eq_getLast?, List.getLast?_eq_getLast]
        rw [this]
        have e := List.dropLast_concat_getLast (l := a :: r) (by simp)
        rw [← e] at hy h
        rcases List.mem_append.mp hy with hy | hy
        · have := (List.pairwise_append.mp h).2.2 y hy _ (List.mem_singleton.mpr rfl)
          omega
        · rw [List.mem_singleton.mp hy]
          exact Int.le_refl _
def rowExt (m : Int) (r : List Int) : List (List Int) := (rg (1 + rmax r) (m + 1)).map fun x => r ++ [x]
/-- the law's rows -/
def rowsL (m : Int) : Nat → List (List Int)
  | 0 => [[]]
  | s + 1 => (rowsL m s).flatMap (rowExt m)
theorem flatMap_same {α β : Type} {l : List α} {f g : α → List β} (h : ∀ x ∈ l, f x = g x) : l.flatMap f = l.flatMap g := by
  induction l with
  | nil => rfl
  | cons a l ih => rw [List.flatMap_cons, List.flatMap_cons, h a List.mem_cons_self, ih fun x hx => h x (List.mem_cons_of_mem _ hx)]
theorem rows_up {m : Int} : ∀ s : Nat, rowsL m s = up m s 1
  | 0 => rfl
  | s + 1 => by
    show (rowsL m s).flatMap (rowExt m) = _
    rw [rows_up s, up_last s 1]
    apply flatMap_same
    intro r hr
    obtain ⟨h1, h2, _⟩ := up_mem.mp hr
    unfold rowExt
    rw [rmax_last h1 fun x hx => (h2 x hx).1]
    rfl
theorem rows_chosen {m : Int} (s : Nat) : rowsL m s = chosenL m s 1 := by rw [rows_up, up_chosen]
theorem chosen_mem {m : Int} {s : Nat} {f : Int} {r : List Int} : r ∈ chosenL m s f ↔ r.Pairwise (· < ·) ∧ (∀ x ∈ r, f ≤ x ∧ x ≤ m) ∧ r.length = s := by rw [← up_chosen, up_mem]
theorem getElem_map {α β : Type} {f : α → β} {l : List α} {i : Nat} {b : β} (h : (l.map f)[i]? = some b) : ∃ a, l[i]? = some a ∧ b = f a := by
  rw [List.getElem?_map] at h
  cases q : l[i]? with
  | none => rw [q] at h; cases h
  | some a =>
    rw [q] at h
    exact ⟨a, rfl, (Option.some.inj h).symm⟩
end My

/-! what is right, the spreads: definitions and plain facts -/
namespace My
open PySem L2 Fx
/-- a rising row of numbers up to m -/
def Row (m : Int) (t : List Int) : Prop := t.Pairwise (· < ·) ∧ ∀ x ∈ t, 1 ≤ x ∧ x ≤ m
def Book (m : Int) (b : List (List Int)) : Prop := ∀ t ∈ b, Row m t ∧ t ≠ []
def rightL (t d : List Int) : Nat := (d.filter fun x => decide (x ∈ t)).length
def bestL (b : List (List Int)) (d : List Int) : Nat := (b.map fun t => rightL t d).foldl max 0
def spreadL (m d : Int) (z : Nat) : List Int := (List.range (z + 1)).map fun (r : Nat) => waysN z r * waysN (m - z) (d - r)
def bspreadL (m : Int) (d : Nat) (b : List (List Int)) : List Int := (List.range (d + 1)).map fun r => (((chosenL m d 1).filter fun w => decide (bestL b w = r)).length : Int)
theorem inD_int (x : Int) (t : List Int) : inD (.int x) (t.map .int) = decide (x ∈ t) := by
  unfold inD inV
  rw [List.map_map, List.any_map]
  induction t with
  | nil => simp
  | cons y t ih =>
    rw [List.any_cons, ih]
    have e : eqV (V.int y) (V.int x) = decide (y = x) := by
      show _ = _
      simp [eqV, Bool.beq_eq_decide_eq]
    have e2 : (((fun z => eqV z (flV (D.int x))) ∘ flV ∘ D.int) y) = decide (y = x) := e
    rw [e2]
    by_cases h : y = x
    · subst h; simp
    · have h2 : ¬ x = y := fun q => h q.symm
      simp [h, h2]
theorem fl_ints (t : List Int) : (t.map D.int).all fl = true := by
  rw [List.all_map]
  apply List.all_eq_true.mpr
  intro x _
  rfl
theorem rg_nodup (a b : Int) : (rg a b).Nodup := by
  unfold rg List.Nodup
  rw [List.pairwise_map]
  exact List.nodup_range.imp fun h e => h (by omega)
/-- sorted pieces of 1 .. m are rows -/
theorem row_of {m : Int} {ns F L : List Int} (h1 : ns.Perm F) (h2 : ns.Pairwise (· ≤ ·)) (hp : (L ++ F).Perm (rg 1 (m + 1))) : Row m ns := by
  have nd : (L ++ F).Nodup := hp.nodup_iff.mpr (rg_nodup _ _)
  have ndF : ns.Nodup := h1.nodup_iff.mpr (List.nodup_append.mp nd).2.1
  refine ⟨?_, fun x hx => ?_⟩
  · exact (List.Pairwise.and h2 ndF).imp fun ⟨h, k⟩ => by omega
  · have : x ∈ rg 1 (m + 1) := hp.mem_iff.mp (List.mem_append_right _ (h1.mem_iff.mp hx))
    rw [rg_mem] at this
    omega
theorem Row.len {m : Int} {t : List Int} (h : Row m t) (h0 : 0 ≤ m) : (t.length : Int) ≤ m := by
  have nd : t.Nodup := h.1.imp fun h e => by omega
  have := nodup_len t (rg 1 (m + 1)) nd fun x hx => rg_mem.mpr (by have := h.2 x hx; omega)
  rw [rg_len] at this
  omega
theorem erase_perm {α : Type} : ∀ {l : List α} {i : Nat} {x : α}, l[i]? = some x → (x :: l.eraseIdx i).Perm l
  | [], i, x, h => by simp at h
  | y :: l, 0, x, h => by
    have : y = x := Option.some.inj h
    subst this
    exact List.Perm.refl _
  | y :: l, i + 1, x, h => (List.Perm.swap y x _).trans (List.Perm.cons y (erase_perm (l := l) (i := i) h))
theorem take_drop_perm {α : Type} {l : List α} {i : Nat} {x : α} (h : l[i]? = some x) (F : List α) : (l.eraseIdx i ++ (F ++ [x])).Perm (l ++ F) := by
  have h1 : (x :: l.eraseIdx i).Perm l := erase_perm h
  have h2 : (l.eraseIdx i ++ (F ++ [x])).Perm ((x :: l.eraseIdx i) ++ F) := by
    rw [← List.append_assoc]
    exact (List.perm_append_comm (l₁ := l.eraseIdx i ++ F) (l₂ := [x]))
  exact h2.trans (h1.append_right F)
theorem foldl_max_nat (l : List Nat) : ∀ a : Nat, a ≤ l.foldl max a ∧ (∀ x ∈ l, x ≤ l.foldl max a) ∧ (l.foldl max a = a ∨ l.foldl max a ∈ l) := by
  induction l with
  | nil => intro a; exact ⟨Nat.le_refl _, fun x h => (by cases h), .inl rfl⟩
  | cons y l ih =>
    intro a
    obtain ⟨h1, h2, h3⟩ := ih (max a y)
    rw [List.foldl_cons]
    refine ⟨by omega, fun x hx => ?_, ?_⟩
    · rcases List.mem_cons.mp hx with rfl | hx
      · omega
      · exact h2 x hx
    · rcases h3 with h3 | h3
      · rw [h3]
        by_cases h : a ≤ y
        · right; rw [Nat.max_eq_right h]; exact List.mem_cons_self
        · left; omega
      · exact .inr (List.mem_cons_of_mem _ h3)
/-- max of the list of what is right -/
theorem best_nil (d : List Int) : bestL [] d = 0 := rfl
theorem best_of_max {b : List (List Int)} {d : List Int} {m : Int} (h1 : m ∈ b.map fun t => (rightL t d : Int)) (h2 : ∀ y, y ∈ (b.map fun t => (rightL t d : Int)) → y ≤ m) : m = (bestL b d : Int) := by
  obtain ⟨t, ht, rfl⟩ := List.mem_map.mp h1
  obtain ⟨g1, g2, g3⟩ := foldl_max_nat (b.map fun t => rightL t d) 0
  have a1 : rightL t d ≤ bestL b d := g2 _ (List.mem_map.mpr ⟨t, ht, rfl⟩)
  rcases g3 with g3 | g3
  · have : bestL b d = 0 := g3
    omega
  · obtain ⟨u, hu, e⟩ := List.mem_map.mp g3
    have := h2 (rightL u d : Int) (List.mem_map.mpr ⟨u, hu, rfl⟩)
    have e2 : rightL u d = bestL b d := e
    omega
theorem right_le (t d : List Int) : rightL t d ≤ d.length := List.length_filter_le _ _
theorem best_le (b : List (List Int)) (d : List Int) : bestL b d ≤ d.length := by
  obtain ⟨g1, g2, g3⟩ := foldl_max_nat (b.map fun t => rightL t d) 0
  rcases g3 with g3 | g3
  · have : bestL b d = 0 := g3
    omega
  · obtain ⟨u, hu, e⟩ := List.mem_map.mp g3
    have e2 : rightL u d = bestL b d := e
    have := right_le u d
    omega
/-- counting up, draw by draw -/
def tally (n : Nat) (f : List Int → Nat) (ws : List (List Int)) : List Int := (List.range n).map fun r => ((ws.filter fun w => decide (f w = r)).length : Int)
theorem tally_len (n : Nat) (f : List Int → Nat) (ws : List (List Int)) : (tally n f ws).length = n := by unfold tally; rw [List.length_map, List.length_range]
theorem tally_nil (n : Nat) (f : List Int → Nat) : tally n f [] = List.replicate n 0 := by
  unfold tally
  apply List.ext_getElem
  · simp
  · intro i h1 h2; simp
theorem tally_get {n : Nat} {f : List Int → Nat} {ws : List (List Int)} {r : Nat} (h : r < n) : (tally n f ws)[r]? = some ((ws.filter fun w => decide (f w = r)).length : Int) := by
  unfold tally
  rw [List.getElem?_map, List.getElem?_range h]
  rfl
theorem tally_snoc {n : Nat} {f : List Int → Nat} {ws : List (List Int)} {w : List Int} (h : f w < n) : tally n f (ws ++ [w]) = (tally n f ws).set (f w) (((ws.filter fun u => decide (f u = f w)).length : Int) + 1) := by
  apply List.ext_getElem?
  intro i
  by_cases hi : i < n
  · rw [tally_get hi]
    by_cases e : f w = i
    · subst e
      rw [List.getElem?_set_self (by rw [tally_len]; exact h), List.filter_append, List.length_append]
      simp
    · rw [List.getElem?_set_ne e, tally_get hi, List.filter_append, List.length_append]
      simp [e]
  · rw [List.getElem?_eq_none (by rw [tally_len]; omega), List.getElem?_eq_none (by rw [List.length_set, tally_len]; omega)]
theorem waysN_bound (a s : Int) (h : a ≤ 60) : 0 ≤ waysN a s ∧ waysN a s ≤ 2 ^ 60 := by
  by_cases hs : 0 ≤ s ∧ s ≤ a
  · obtain ⟨an, rfl⟩ : ∃ n : Nat, a = (n : Int) := ⟨a.toNat, by omega⟩
    obtain ⟨sn, rfl⟩ : ∃ n : Nat, s = (n : Int) := ⟨s.toNat, by omega⟩
    rw [waysN_ch]
    refine ⟨by omega, ?_⟩
    have h1 := ch_le an sn
    have h2 : 2 ^ an ≤ 2 ^ 60 := Nat.pow_le_pow_right (by decide) (by omega)
    omega
  · rw [waysN_out hs]
    omega
theorem rep_ints (n : Nat) : (List.replicate n (0 : Int)).map D.int = (List.replicate n [D.int 0]).flatten := by
  rw [List.map_replicate]
  induction n with
  | zero => rfl
  | succ n ih => rw [List.replicate_succ, List.replicate_succ, List.flatten_cons, ← ih]; rfl
end My

/-! how many draws have so many right -/
namespace My
open PySem L2 Fx
theorem same_right {t r out : List Int} (hn : out.Nodup) (hm : ∀ k, k ∈ out ↔ k ∈ t ∧ k ∈ r) (hr : r.Nodup) : out.length = rightL t r := by
  unfold rightL
  have h2 : (r.filter fun x => decide (x ∈ t)).Nodup := List.Pairwise.filter _ hr
  refine Nat.le_antisymm (nodup_len _ _ hn fun x hx => ?_) (nodup_len _ _ h2 fun x hx => ?_)
  · have := (hm x).mp hx
    exact List.mem_filter.mpr ⟨this.2, decide_eq_true this.1⟩
  · obtain ⟨h3, h4⟩ := List.mem_filter.mp hx
    exact (hm x).mpr ⟨of_decide_eq_true h4, h3⟩
theorem Row.nodup {m : Int} {t : List Int} (h : Row m t) : t.Nodup := h.1.imp fun h e => by omega
theorem chosen_nodup {m : Int} {s : Nat} {f : Int} {r : List Int} (h : r ∈ chosenL m s f) : r.Nodup := (chosen_mem.mp h).1.imp fun h e => by omega
theorem chosen_row {m : Int} {s : Nat} {r : List Int} (h : r ∈ chosenL m s 1) : Row m r := ⟨(chosen_mem.mp h).1, (chosen_mem.mp h).2.1⟩
theorem top_best {b : List (List Int)} {d : List Int} {m : Int} (h1 : m ∈ 0 :: b.map fun t => (rightL t d : Int)) (h2 : ∀ y, y ∈ (0 :: b.map fun t => (rightL t d : Int)) → y ≤ m) : m = (bestL b d : Int) := by
  rcases List.mem_cons.mp h1 with e | h1
  · subst e
    obtain ⟨g1, g2, g3⟩ := foldl_max_nat (b.map fun t => rightL t d) 0
    rcases g3 with g3 | g3
    · have : bestL b d = 0 := g3
      omega
    · obtain ⟨u, hu, e⟩ := List.mem_map.mp g3
      have := h2 (rightL u d : Int) (List.mem_cons_of_mem _ (List.mem_map.mpr ⟨u, hu, rfl⟩))
      have e2 : rightL u d = bestL b d := e
      omega
  · exact best_of_max h1 fun y hy => h2 y (List.mem_cons_of_mem _ hy)
/-- of the numbers from f to m, how many are of t -/
def inFrom (t : List Int) (f m : Int) : Nat := ((rg f (m + 1)).filter fun x => decide (x ∈ t)).length
def cnt (t : List Int) (m : Int) (s : Nat) (f : Int) (r : Nat) : Nat := ((chosenL m s f).filter fun w => decide (rightL t w = r)).length
theorem cnt_eq (t : List Int) (m : Int) : ∀ (n : Nat) (f : Int) (s r : Nat), m + 1 - f = (n : Int) → inFrom t f m ≤ n ∧ cnt t m s f r = if r ≤ s then ch (inFrom t f m) r * ch (n - inFrom t f m) (s - r) else 0
  | 0, f, s, r, hn => by
    have e : rg f (m + 1) = [] := rg_nil (by omega)
    have e1 : inFrom t f m = 0 := by unfold inFrom; rw [e]; rfl
    refine ⟨by omega, ?_⟩
    rw [e1]
    cases s with
    | zero =>
      unfold cnt chosenL
      cases r with
      | zero => rfl
      | succ r => simp [rightL]
    | succ s =>
      unfold cnt
      rw [chosen_nil (by omega)]
      by_cases h : r ≤ s + 1
      · rw [if_pos h]
        cases r with
        | zero => rfl
        | succ r => rw [show ch 0 (r + 1) = 0 from rfl, Nat.zero_mul]; rfl
      · rw [if_neg h]; rfl
  | n + 1, f, s, r, hn => by
    obtain ⟨hle, _⟩ := cnt_eq t m n (f + 1) 0 0 (by omega)
    have ih := fun s r => (cnt_eq t m n (f + 1) s r (by omega)).2
    have e : rg f (m + 1) = f :: rg (f + 1) (m + 1) := rg_cons (by omega)
    have e1 : inFrom t f m = (if f ∈ t then 1 else 0) + inFrom t (f + 1) m := by
      unfold inFrom
      rw [e, List.filter_cons]
      by_cases h : f ∈ t
      · rw [if_pos (decide_eq_true h), if_pos h, List.length_cons]; omega
      · rw [if_neg (by simp [h]), if_neg h]; omega
    have hI : inFrom t f m ≤ n + 1 := by rw [e1]; split <;> omega
    refine ⟨hI, ?_⟩
    cases s with
    | zero =>
      unfold cnt chosenL
      cases r with
      | zero => simp [rightL, ch_zero]
      | succ r => simp [rightL]
    | succ s =>
      by_cases hs : f ≤ m - s
      · have ec : cnt t m (s + 1) f r = ((chosenL m s (f + 1)).filter fun w => decide (rightL t (f :: w) = r)).length + cnt t m (s + 1) (f + 1) r := by
          unfold cnt
          rw [chosen_cons hs, List.filter_append, List.length_append, List.filter_map, List.length_map]
          rfl
        have hr : ∀ w, rightL t (f :: w) = (if f ∈ t then 1 else 0) + rightL t w := by
          intro w
          unfold rightL
          rw [List.filter_cons]
          by_cases h : f ∈ t
          · rw [if_pos (decide_eq_true h), if_pos h, List.length_cons]; omega
          · rw [if_neg (by simp [h]), if_neg h]; omega
        rw [ec, e1, ih (s + 1) r]
        by_cases h : f ∈ t
        · simp only [if_pos h] at hr ⊢
          cases r with
          | zero =>
            have z : ((chosenL m s (f + 1)).filter fun w => decide (rightL t (f :: w) = 0)) = [] := List.filter_eq_nil_iff.mpr fun w _ q => by
              have := of_decide_eq_true q
              rw [hr w] at this
              omega
            rw [z, if_pos (Nat.zero_le _), if_pos (Nat.zero_le _), ch_zero, ch_zero, show n + 1 - (1 + inFrom t (f + 1) m) = n - inFrom t (f + 1) m by omega]
            simp
          | succ r =>
            have z : ((chosenL m s (f + 1)).filter fun w => decide (rightL t (f :: w) = r + 1)).length = cnt t m s (f + 1) r := by
              unfold cnt
              congr 2
              funext w
              rw [hr w]
              exact decide_eq_decide.mpr (by omega)
            rw [z, ih s r, show n + 1 - (1 + inFrom t (f + 1) m) = n - inFrom t (f + 1) m by omega, show 1 + inFrom t (f + 1) m = inFrom t (f + 1) m + 1 by omega, ch_succ]
            by_cases hrs : r ≤ s
            · rw [if_pos hrs, if_pos (by omega), if_pos (by omega), show s + 1 - (r + 1) = s - r by omega, Nat.add_mul]
            · rw [if_neg hrs, if_neg (by omega), if_neg (by omega)]
        · simp only [if_neg h] at hr ⊢
          have z : ((chosenL m s (f + 1)).filter fun w => decide (rightL t (f :: w) = r)).length = cnt t m s (f + 1) r := by
            unfold cnt
            congr 2
            funext w
            rw [hr w, Nat.zero_add]
          rw [z, ih s r, Nat.zero_add, show n + 1 - inFrom t (f + 1) m = (n - inFrom t (f + 1) m) + 1 by omega]
          by_cases hrs : r ≤ s
          · rw [if_pos hrs, if_pos (by omega), if_pos (by omega), show s + 1 - r = (s - r) + 1 by omega, ch_succ, Nat.mul_add]
          · rw [if_neg hrs]
            by_cases hr1 : r ≤ s + 1
            · rw [if_pos hr1, if_pos hr1, show s + 1 - r = 0 by omega, ch_zero, ch_zero]
              omega
            · rw [if_neg hr1, if_neg hr1]
      · have ez : cnt t m (s + 1) f r = 0 := by
          unfold cnt
          rw [chosen_nil (by omega)]
          rfl
        rw [ez, e1]
        by_cases hrs : r ≤ s + 1
        · rw [if_pos hrs]
          symm
          rw [← e1]
          rcases Nat.lt_or_ge (inFrom t f m) r with h1 | h1
          · rw [ch_big _ _ h1, Nat.zero_mul]
          · rw [ch_big (n + 1 - inFrom t f m) (s + 1 - r) (by omega), Nat.mul_zero]
        · rw [if_neg hrs]
theorem inFrom_row {m : Int} {t : List Int} (h : Row m t) : inFrom t 1 m = t.length := by
  unfold inFrom
  have h2 : ((rg 1 (m + 1)).filter fun x => decide (x ∈ t)).Nodup := List.Pairwise.filter _ (rg_nodup _ _)
  refine Nat.le_antisymm (nodup_len _ _ h2 fun x hx => of_decide_eq_true (List.mem_filter.mp hx).2) (nodup_len _ _ h.nodup fun x hx => ?_)
  refine List.mem_filter.mpr ⟨rg_mem.mpr ?_, decide_eq_true hx⟩
  have := h.2 x hx
  omega
/-- a ticket's spread counts the draws -/
theorem spread_cnt {n d : Nat} {t : List Int} (h : Row n t) (hd : d ≤ n) : spreadL n d t.length = (List.range (t.length + 1)).map fun r => (cnt t n d 1 r : Int) := by
  unfold spreadL
  apply List.map_congr_left
  intro r hr
  have hl := h.len (by omega)
  obtain ⟨_, e⟩ := cnt_eq t n n 1 d r (by omega)
  rw [e, inFrom_row h, waysN_ch, show ((n : Int) - t.length) = ((n - t.length : Nat) : Int) by omega]
  by_cases hrd : r ≤ d
  · rw [if_pos hrd, show ((d : Int) - r) = ((d - r : Nat) : Int) by omega, waysN_ch]
    simp
  · rw [if_neg hrd, waysN_out (by omega)]
    simp
theorem count_map_cast {α : Type} (l : List α) (f : α → Nat) (r : Nat) : (l.map fun x => (f x : Int)).count (r : Int) = (l.filter fun x => decide (f x = r)).length := by
  induction l with
  | nil => rfl
  | cons x l ih =>
    rw [List.map_cons, List.count_cons, List.filter_cons, ih]
    by_cases h : f x = r
    · have : ((f x : Int) == (r : Int)) = true := by simp [h]
      rw [if_pos this, if_pos (decide_eq_true h), List.length_cons]
    · have : ¬ ((f x : Int) == (r : Int)) = true := by simp; omega
      rw [if_neg this, if_neg (by simp [h])]
      rfl
end My

/-! whole numbers, tickets: as the program looks at any thing -/
namespace My
open PySem L2 Fx
def wholeD (lo hi : Int) : D → Bool
  | .int i => decide (lo ≤ i) && decide (i ≤ hi)
  | _ => false
def pairs : List Int → List (Int × Int)
  | a :: b :: l => (a, b) :: pairs (b :: l)
  | _ => []
def rises (ns : List Int) : Bool := (pairs ns).all fun p => decide (p.1 < p.2)
def intsOf : List D → List Int
  | .int i :: ds => i :: intsOf ds
  | _ :: ds => intsOf ds
  | [] => []
def ticketD (m : Int) : D → Bool
  | .tup ds => !ds.isEmpty && ds.all (wholeD 1 m) && rises (intsOf ds)
  | _ => false
theorem ints_whole {lo hi : Int} : ∀ {ds : List D}, ds.all (wholeD lo hi) = true → ds = (intsOf ds).map D.int ∧ ∀ x ∈ intsOf ds, lo ≤ x ∧ x ≤ hi
  | [], _ => ⟨rfl, fun x hx => (by cases hx)⟩
  | .int i :: ds, h => by
    rw [List.all_cons, Bool.and_eq_true] at h
    obtain ⟨h1, h2⟩ := ints_whole h.2
    have h3 : (decide (lo ≤ i) && decide (i ≤ hi)) = true := h.1
    rw [Bool.and_eq_true, decide_eq_true_eq, decide_eq_true_eq] at h3
    refine ⟨?_, fun x hx => ?_⟩
    · show _ = D.int i :: _
      rw [← h1]
    · rcases List.mem_cons.mp hx with rfl | hx
      · exact h3
      · exact h2 x hx
  | .non :: ds, h => by rw [List.all_cons, Bool.and_eq_true] at h; cases h.1
  | .bl _ :: ds, h => by rw [List.all_cons, Bool.and_eq_true] at h; cases h.1
  | .str _ :: ds, h => by rw [List.all_cons, Bool.and_eq_true] at h; cases h.1
  | .tup _ :: ds, h => by rw [List.all_cons, Bool.and_eq_true] at h; cases h.1
  | .lis _ :: ds, h => by rw [List.all_cons, Bool.and_eq_true] at h; cases h.1
theorem ints_map (ns : List Int) : intsOf (ns.map D.int) = ns := by
  induction ns with
  | nil => rfl
  | cons x ns ih => show x :: intsOf (ns.map D.int) = _; rw [ih]
theorem pairs_zip : ∀ ns : List Int, pairs ns = ns.zip (ns.drop 1)
  | [] => rfl
  | [_] => rfl
  | a :: b :: l => by
    show (a, b) :: pairs (b :: l) = (a, b) :: (b :: l).zip l
    rw [pairs_zip (b :: l)]
    rfl
theorem zip_pairs (ns : List Int) : zipD (ns.map D.int) ((ns.map D.int).drop 1) = (pairs ns).map fun p => D.tup [.int p.1, .int p.2] := by
  rw [pairs_zip]
  unfold zipD
  rw [← List.map_drop, List.zip_map, List.map_map]
  rfl
theorem rises_iff : ∀ ns : List Int, rises ns = true ↔ ns.Pairwise (· < ·)
  | [] => ⟨fun _ => List.Pairwise.nil, fun _ => rfl⟩
  | [a] => ⟨fun _ => List.pairwise_singleton _ _, fun _ => rfl⟩
  | a :: b :: l => by
    have ih := rises_iff (b :: l)
    have e : rises (a :: b :: l) = (decide (a < b) && rises (b :: l)) := rfl
    rw [e, Bool.and_eq_true, ih, decide_eq_true_eq]
    constructor
    · rintro ⟨h1, h2⟩
      refine List.pairwise_cons.mpr ⟨fun x hx => ?_, h2⟩
      rcases List.mem_cons.mp hx with rfl | hx
      · exact h1
      · have := (List.pairwise_cons.mp h2).1 x hx
        omega
    · intro h
      obtain ⟨h1, h2⟩ := List.pairwise_cons.mp h
      exact ⟨h1 b List.mem_cons_self, h2⟩
theorem ticket_iff {m : Int} {r : List Int} : ticketD m (tI r) = true ↔ Row m r ∧ r ≠ [] := by
  show (!(r.map D.int).isEmpty && (r.map D.int).all (wholeD 1 m) && rises (intsOf (r.map D.int))) = true ↔ _
  rw [ints_map, Bool.and_eq_true, Bool.and_eq_true, rises_iff, isEmpty_map', List.all_map]
  constructor
  · rintro ⟨⟨h1, h2⟩, h3⟩
    refine ⟨⟨h3, fun x hx => ?_⟩, fun e => ?_⟩
    · have := List.all_eq_true.mp h2 x hx
      have : (decide (1 ≤ x) && decide (x ≤ m)) = true := this
      simpa using this
    · rw [e] at h1; cases h1
  · rintro ⟨⟨h3, h2⟩, h1⟩
    refine ⟨⟨?_, List.all_eq_true.mpr fun x hx => ?_⟩, h3⟩
    · cases r with
      | nil => exact absurd rfl h1
      | cons _ _ => rfl
    · show (decide (1 ≤ x) && decide (x ≤ m)) = true
      have := h2 x hx
      simpa using this
theorem ticket_row {m : Int} {r : List Int} (h : Row m r) (h2 : r ≠ []) : ticketD m (tI r) = true := ticket_iff.mpr ⟨h, h2⟩
theorem kit_int (d : D) : kitB (tyN (.dat d)) "int" = some (match d with | .int _ => true | .bl _ => true | _ => false) := by
  cases d <;> kernel_rfl
theorem kit_tuple (d : D) : kitB (tyN (.dat d)) "tuple" = some (match d with | .tup _ => true | _ => false) := by
  cases d <;> kernel_rfl
end My

/-! lots, books: as the program looks at any thing -/
namespace My
open PySem L2 Fx
def lotD : D → Bool
  | .tup [a, b] => match a with
    | .int m => decide (1 ≤ m) && decide (m ≤ 12) && wholeD 1 m b
    | _ => false
  | _ => false
def bookD (m : Int) : D → Bool
  | .tup ds => ds.all (ticketD m)
  | _ => false
theorem lot_ok {m f : Int} (h1 : 1 ≤ m) (h2 : m ≤ 12) (h3 : 1 ≤ f) (h4 : f ≤ m) : lotD (.tup [.int m, .int f]) = true := by
  show (decide (1 ≤ m) && decide (m ≤ 12) && (decide (1 ≤ f) && decide (f ≤ m))) = true
  simp [h1, h2, h3, h4]
theorem lots_bad {m f : Int} : (([.tup [.int 13, .int f], .tup [.int m, .int 0], .tup [.int m, .int (m + 1)], .tup [.int 0, .int 0], .tup [.int m, .bl true], .lis [.int m, .int f], .tup [.int m], .tup [.int m, .int f, .int 1], .non] : List D) ++ ([.int m, .str "lot", .tup [.non, .int 1], .tup [.str "3", .int 1]] : List D)).map lotD = List.replicate 13 false := by
  have e1 : lotD (.tup [.int 13, .int f]) = false := rfl
  have e2 : lotD (.tup [.int m, .int 0]) = false := by
    show (decide (1 ≤ m) && decide (m ≤ 12) && (decide ((1 : Int) ≤ 0) && decide ((0 : Int) ≤ m))) = false
    simp
  have e3 : lotD (.tup [.int m, .int (m + 1)]) = false := by
    show (decide (1 ≤ m) && decide (m ≤ 12) && (decide ((1 : Int) ≤ m + 1) && decide (m + 1 ≤ m))) = false
    rw [decide_eq_false (show ¬ (m + 1 ≤ m) by omega)]
    simp
  have e4 : lotD (.tup [.int m, .bl true]) = false := by
    show (decide (1 ≤ m) && decide (m ≤ 12) && false) = false
    simp
  show [lotD (.tup [.int 13, .int f]), lotD (.tup [.int m, .int 0]), lotD (.tup [.int m, .int (m + 1)]), false, lotD (.tup [.int m, .bl true]), false, false, false, false, false, false, false, false] = _
  rw [e1, e2, e3, e4]
  rfl
/-! things that are no tickets -/
theorem no_whole {m : Int} {ds : List D} {d : D} (hd : d ∈ ds) (h : wholeD 1 m d = false) : ticketD m (.tup ds) = false := by
  refine Bool.eq_false_iff.mpr fun hh => ?_
  have h1 : (!ds.isEmpty && ds.all (wholeD 1 m) && rises (intsOf ds)) = true := hh
  rw [Bool.and_eq_true, Bool.and_eq_true] at h1
  have := List.all_eq_true.mp h1.1.2 d hd
  rw [h] at this
  cases this
theorem no_rise {m : Int} {ns : List Int} (h : ¬ ns.Pairwise (· < ·)) : ticketD m (tI ns) = false := by
  refine Bool.eq_false_iff.mpr fun hh => ?_
  exact h (ticket_iff.mp hh).1.1
/-- one place of the row holds something odd -/
def oddT (row : List Int) (a : Nat) (o : D) : D := .tup ((row.take a).map D.int ++ [o] ++ (row.drop (a + 1)).map D.int)
theorem odd_whole {m : Int} {row : List Int} {a : Nat} {o : D} (h : wholeD 1 m o = false) : ticketD m (oddT row a o) = false := no_whole (d := o) (by simp) h
theorem odd_int (row : List Int) (a : Nat) (x : Int) : oddT row a (.int x) = tI (row.take a ++ [x] ++ row.drop (a + 1)) := by
  unfold oddT tI
  rw [List.map_append, List.map_append]
  rfl
/-- the neighbour twice -/
theorem odd_near {m : Int} {row : List Int} {a : Nat} {x : Int} (ha : a < row.length) (h1 : 1 < row.length) (hx : (1 ≤ a ∧ row[a - 1]? = some x) ∨ (a = 0 ∧ row[row.length - 1]? = some x)) : ticketD m (oddT row a (.int x)) = false := by
  rw [odd_int]
  refine no_rise fun hp => ?_
  rcases hx with ⟨h0, hx⟩ | ⟨rfl, hx⟩
  · have hm : x ∈ row.take a := List.mem_iff_getElem?.mpr ⟨a - 1, by rw [List.getElem?_take, if_pos (by omega)]; exact hx⟩
    have := (List.pairwise_append.mp (List.pairwise_append.mp hp).1).2.2 x hm x (by simp)
    omega
  · have hm : x ∈ row.drop (0 + 1) := List.mem_iff_getElem?.mpr ⟨row.length - 2, by rw [List.getElem?_drop, show 0 + 1 + (row.length - 2) = row.length - 1 by omega]; exact hx⟩
    have := (List.pairwise_append.mp hp).2.2 x (by simp) x hm
    omega
theorem no_lis {m : Int} {ds : List D} : ticketD m (.lis ds) = false := rfl
theorem no_twice1 {m l : Int} {t : List Int} (h : l ∈ t) : ticketD m (tI (t ++ [l])) = false := by
  refine no_rise fun hp => ?_
  have := (List.pairwise_append.mp hp).2.2 l h l (by simp)
  omega
theorem no_big1 {m : Int} {t : List Int} : ticketD m (tI (t ++ [m + 1])) = false := by
  refine Bool.eq_false_iff.mpr fun h => ?_
  have := ((ticket_iff.mp h).1).2 (m + 1) (by simp)
  omega
theorem no_zero {m : Int} {t : List Int} : ticketD m (tI (0 :: t)) = false := by
  refine Bool.eq_false_iff.mpr fun h => ?_
  have := ((ticket_iff.mp h).1).2 0 (by simp)
  omega
theorem no_rev {m : Int} {t : List Int} (h : t.Pairwise (· < ·)) (hl : 1 < t.length) : ticketD m (tI t.reverse) = false := by
  refine no_rise fun hp => ?_
  have h2 := List.pairwise_reverse.mp hp
  match t, hl, h, h2 with
  | a :: b :: l, _, h, h2 =>
    have e1 := (List.pairwise_cons.mp h).1 b List.mem_cons_self
    have e2 := (List.pairwise_cons.mp h2).1 b List.mem_cons_self
    omega
theorem book_ok {m : Int} {b : List (List Int)} (h : Book m b) : bookD m (tII b) = true := by
  show (b.map tI).all (ticketD m) = true
  rw [List.all_map]
  exact List.all_eq_true.mpr fun t ht => ticket_row (h t ht).1 (h t ht).2
theorem book_bad {m : Int} {xs ys : List D} {w : D} (h : ticketD m w = false) : bookD m (.tup (xs ++ [w] ++ ys)) = false := by
  show (xs ++ [w] ++ ys).all (ticketD m) = false
  rw [List.all_append, List.all_append]
  simp [h]
end My

namespace My
open PySem L2 Fx
/-! ### the text -/
def topS (i : Nat) : Stmt := PySem.Challenge.pw_suretickets_k01_things.main.body.getD i (.Pass ⟨0, 0, 0, 0⟩)
abbrev s_is_whole : Stmt := topS 2
abbrev N_is_whole : List Str := ["thing", "least", "most"]
abbrev ps_is_whole : List Str := ["thing", "least", "most"]
abbrev lv_is_whole : Nat := 1
theorem sc_is_whole : FnScope N_is_whole ps_is_whole (defScope s_is_whole) := ⟨rfl, rfl, rfl, by decide +kernel, rfl, by decide +kernel, by decide +kernel⟩
instance nk_is_whole : NamesOk N_is_whole := ⟨by decide +kernel⟩
abbrev c_is_whole (P : Program) (w : World) (K : PySem.W.Frag) (mg : Str → Option Value) (base : Heap) (k : Nat) : SC := scOf P w K mg base N_is_whole s_is_whole k
abbrev s_is_lot : Stmt := topS 3
abbrev N_is_lot : List Str := ["thing"]
abbrev ps_is_lot : List Str := ["thing"]
abbrev lv_is_lot : Nat := 2
theorem sc_is_lot : FnScope N_is_lot ps_is_lot (defScope s_is_lot) := ⟨rfl, rfl, rfl, by decide +kernel, rfl, by decide +kernel, by decide +kernel⟩
instance nk_is_lot : NamesOk N_is_lot := ⟨by decide +kernel⟩
abbrev c_is_lot (P : Program) (w : World) (K : PySem.W.Frag) (mg : Str → Option Value) (base : Heap) (k : Nat) : SC := scOf P w K mg base N_is_lot s_is_lot k
abbrev s_is_ticket : Stmt := topS 4
abbrev N_is_ticket : List Str := ["lot", "thing", "number", "one", "other"]
abbrev ps_is_ticket : List Str := ["lot", "thing"]
abbrev lv_is_ticket : Nat := 2
theorem sc_is_ticket : FnScope N_is_ticket ps_is_ticket (defScope s_is_ticket) := ⟨rfl, rfl, rfl, by decide +kernel, rfl, by decide +kernel, by decide +kernel⟩
instance nk_is_ticket : NamesOk N_is_ticket := ⟨by decide +kernel⟩
abbrev c_is_ticket (P : Program) (w : World) (K : PySem.W.Frag) (mg : Str → Option Value) (base : Heap) (k : Nat) : SC := scOf P w K mg base N_is_ticket s_is_ticket k
abbrev s_is_book : Stmt := topS 5
abbrev N_is_book : List Str := ["lot", "thing", "ticket"]
abbrev ps_is_book : List Str := ["lot", "thing"]
abbrev lv_is_book : Nat := 3
theorem sc_is_book : FnScope N_is_book ps_is_book (defScope s_is_book) := ⟨rfl, rfl, rfl, by decide +kernel, rfl, by decide +kernel, by decide +kernel⟩
instance nk_is_book : NamesOk N_is_book := ⟨by decide +kernel⟩
abbrev c_is_book (P : Program) (w : World) (K : PySem.W.Frag) (mg : Str → Option Value) (base : Heap) (k : Nat) : SC := scOf P w K mg base N_is_book s_is_book k
abbrev s_law_draw : Stmt := topS 7
abbrev N_law_draw : List Str := ["script", "town", "many", "at", "rest", "number"]
abbrev ps_law_draw : List Str := ["script", "town", "many"]
abbrev lv_law_draw : Nat := 1
theorem sc_law_draw : FnScope N_law_draw ps_law_draw (defScope s_law_draw) := ⟨rfl, rfl, rfl, by decide +kernel, rfl, by decide +kernel, by decide +kernel⟩
instance nk_law_draw : NamesOk N_law_draw := ⟨by decide +kernel⟩
abbrev c_law_draw (P : Program) (w : World) (K : PySem.W.Frag) (mg : Str → Option Value) (base : Heap) (k : Nat) : SC := scOf P w K mg base N_law_draw s_law_draw k
abbrev s_law_begun : Stmt := topS 8
abbrev N_law_begun : List Str := []
abbrev ps_law_begun : List Str := []
abbrev lv_law_begun : Nat := 1
theorem sc_law_begun : FnScope N_law_begun ps_law_begun (defScope s_law_begun) := ⟨rfl, rfl, rfl, by decide +kernel, rfl, by decide +kernel, by decide +kernel⟩
instance nk_law_begun : NamesOk N_law_begun := ⟨by decide +kernel⟩
abbrev c_law_begun (P : Program) (w : World) (K : PySem.W.Frag) (mg : Str → Option Value) (base : Heap) (k : Nat) : SC := scOf P w K mg base N_law_begun s_law_begun k
abbrev s_law_a_lot : Stmt := topS 9
abbrev N_law_a_lot : List Str := ["script", "town", "greatest", "many"]
abbrev ps_law_a_lot : List Str := ["script", "town", "greatest"]
abbrev lv_law_a_lot : Nat := 2
theorem sc_law_a_lot : FnScope N_law_a_lot ps_law_a_lot (defScope s_law_a_lot) := ⟨rfl, rfl, rfl, by decide +kernel, rfl, by decide +kernel, by decide +kernel⟩
instance nk_law_a_lot : NamesOk N_law_a_lot := ⟨by decide +kernel⟩
abbrev c_law_a_lot (P : Program) (w : World) (K : PySem.W.Frag) (mg : Str → Option Value) (base : Heap) (k : Nat) : SC := scOf P w K mg base N_law_a_lot s_law_a_lot k
abbrev s_law_a_row : Stmt := topS 10
abbrev N_law_a_row : List Str := ["script", "town", "many", "size", "left", "found", "turn"]
abbrev ps_law_a_row : List Str := ["script", "town", "many", "size"]
abbrev lv_law_a_row : Nat := 2
theorem sc_law_a_row : FnScope N_law_a_row ps_law_a_row (defScope s_law_a_row) := ⟨rfl, rfl, rfl, by decide +kernel, rfl, by decide +kernel, by decide +kernel⟩
instance nk_law_a_row : NamesOk N_law_a_row := ⟨by decide +kernel⟩
abbrev c_law_a_row (P : Program) (w : World) (K : PySem.W.Frag) (mg : Str → Option Value) (base : Heap) (k : Nat) : SC := scOf P w K mg base N_law_a_row s_law_a_row k
abbrev s_law_a_book : Stmt := topS 11
abbrev N_law_a_book : List Str := ["script", "town", "many", "greatest", "found", "turn"]
abbrev ps_law_a_book : List Str := ["script", "town", "many", "greatest"]
abbrev lv_law_a_book : Nat := 3
theorem sc_law_a_book : FnScope N_law_a_book ps_law_a_book (defScope s_law_a_book) := ⟨rfl, rfl, rfl, by decide +kernel, rfl, by decide +kernel, by decide +kernel⟩
instance nk_law_a_book : NamesOk N_law_a_book := ⟨by decide +kernel⟩
abbrev c_law_a_book (P : Program) (w : World) (K : PySem.W.Frag) (mg : Str → Option Value) (base : Heap) (k : Nat) : SC := scOf P w K mg base N_law_a_book s_law_a_book k
abbrev s_law_is : Stmt := topS 12
abbrev N_law_is : List Str := ["told", "due"]
abbrev ps_law_is : List Str := ["told", "due"]
abbrev lv_law_is : Nat := 1
theorem sc_law_is : FnScope N_law_is ps_law_is (defScope s_law_is) := ⟨rfl, rfl, rfl, by decide +kernel, rfl, by decide +kernel, by decide +kernel⟩
instance nk_law_is : NamesOk N_law_is := ⟨by decide +kernel⟩
abbrev c_law_is (P : Program) (w : World) (K : PySem.W.Frag) (mg : Str → Option Value) (base : Heap) (k : Nat) : SC := scOf P w K mg base N_law_is s_law_is k
abbrev s_law : Stmt := topS 13
abbrev N_law : List Str := ["script", "town", "k", "pair", "many", "few", "row", "pages", "bad", "thing", "at", "odd", "where", "wrong"]
abbrev ps_law : List Str := ["script"]
abbrev lv_law : Nat := 4
theorem sc_law : FnScope N_law ps_law (defScope s_law) := ⟨rfl, rfl, rfl, by decide +kernel, rfl, by decide +kernel, by decide +kernel⟩
instance nk_law : NamesOk N_law := ⟨by decide +kernel⟩
abbrev c_law (P : Program) (w : World) (K : PySem.W.Frag) (mg : Str → Option Value) (base : Heap) (k : Nat) : SC := scOf P w K mg base N_law s_law k
structure Txt (K : PySem.W.Frag) (mg : Str → Option Value) : Prop where
  b_isinstance : mg "isinstance" = none
  b_int : mg "int" = none
  b_bool : mg "bool" = none
  b_tuple : mg "tuple" = none
  b_len : mg "len" = none
  b_all : mg "all" = none
  b_zip : mg "zip" = none
  b_range : mg "range" = none
  b_list : mg "list" = none
  b_sorted : mg "sorted" = none
  k_MOST : ∃ t, mg "MOST" = some (.int 12 t)
  f_is_whole : ∃ fa fd, mg "is_whole" = some (.ref fa) ∧ Fun K "is_whole" "is_whole" s_is_whole fa fd ∧ Binds K fd ps_is_whole []
  f_is_lot : ∃ fa fd, mg "is_lot" = some (.ref fa) ∧ Fun K "is_lot" "is_lot" s_is_lot fa fd ∧ Binds K fd ps_is_lot []
  f_is_ticket : ∃ fa fd, mg "is_ticket" = some (.ref fa) ∧ Fun K "is_ticket" "is_ticket" s_is_ticket fa fd ∧ Binds K fd ps_is_ticket []
  f_is_book : ∃ fa fd, mg "is_book" = some (.ref fa) ∧ Fun K "is_book" "is_book" s_is_book fa fd ∧ Binds K fd ps_is_book []
  f_law_draw : ∃ fa fd, mg "_law_draw" = some (.ref fa) ∧ Fun K "_law_draw" "_law_draw" s_law_draw fa fd ∧ Binds K fd ps_law_draw []
  f_law_begun : ∃ fa fd, mg "_law_begun" = some (.ref fa) ∧ Fun K "_law_begun" "_law_begun" s_law_begun fa fd ∧ Binds K fd ps_law_begun []
  f_law_a_lot : ∃ fa fd, mg "_law_a_lot" = some (.ref fa) ∧ Fun K "_law_a_lot" "_law_a_lot" s_law_a_lot fa fd ∧ Binds K fd ps_law_a_lot []
  f_law_a_row : ∃ fa fd, mg "_law_a_row" = some (.ref fa) ∧ Fun K "_law_a_row" "_law_a_row" s_law_a_row fa fd ∧ Binds K fd ps_law_a_row []
  f_law_a_book : ∃ fa fd, mg "_law_a_book" = some (.ref fa) ∧ Fun K "_law_a_book" "_law_a_book" s_law_a_book fa fd ∧ Binds K fd ps_law_a_book []
  f_law_is : ∃ fa fd, mg "_law_is" = some (.ref fa) ∧ Fun K "_law_is" "_law_is" s_law_is fa fd ∧ Binds K fd ps_law_is []
  f_law : ∃ fa fd, mg "law" = some (.ref fa) ∧ Fun K "law" "law" s_law fa fd ∧ Binds K fd ps_law []
end My

namespace My
open PySem L2 Fx
section
variable {P : Program} {w : World} {K : PySem.W.Frag} {mg : Str → Option Value} {base : Heap}
def A_is_whole : ASp := fun as M Post => ∃ (d : D) (lo hi : Int), as = [.dat d, .dat (.int lo), .dat (.int hi)] ∧ Post (.dat (.bl (wholeD lo hi d))) M
theorem d_is_whole (T : Txt K mg) : DefOk P w K mg base lv_is_whole "is_whole" s_is_whole ps_is_whole (spOf K ps_is_whole.length A_is_whole) := by
  obtain ⟨fa, fd, hm, F, hb⟩ := T.f_is_whole
  refine ⟨fa, fd, hm, F, hb, fn_mk F sc_is_whole fun as M Post hl hA => ?_⟩
  obtain ⟨d, lo, hi, rfl, q⟩ := hA
  show Run (c_is_whole P w K mg base _) [some (.dat d), some (.dat (.int lo)), some (.dat (.int hi))] M _ _
  refine r_one (s_ret (x_and (x_isi rfl T.b_isinstance rfl T.b_int PyProof.Rows.boot_int ?_ (fun _ => rfl))))
  refine x_v rfl (by first | exact Or.inl rfl | exact Or.inr (Or.inl rfl) | exact Or.inr (Or.inr rfl)) ?_
  refine ⟨fun j e => (by cases e), fun _ e => (by cases e), _, kit_int d, _, rfl, fun h => ?_, fun h => ?_⟩
  · refine x_and (x_not (x_isi rfl T.b_isinstance rfl T.b_bool PyProof.Rows.boot_bool ?_ (fun _ => rfl)))
    refine x_v rfl (by first | exact Or.inl rfl | exact Or.inr (Or.inl rfl) | exact Or.inr (Or.inr rfl)) ?_
    cases d with
    | int i =>
      refine ⟨fun j e => (by cases e), fun _ e => (by cases e), false, (by kernel_rfl), false, rfl, true, rfl, fun _ => ?_, fun h => by cases h⟩
      refine x_one (x_chain ?_ (by with_unfolding_all rfl))
      repeat (first | refine x_int ?_ | (refine x_v rfl (by first | exact Or.inl rfl | exact Or.inr (Or.inl rfl) | exact Or.inr (Or.inr rfl)) ?_) | (first | refine b_add ?_ | refine b_sub ?_ | refine b_mul (by first | omega | (constructor <;> omega) | exact Or.inl ⟨by omega, by omega⟩ | exact Or.inr ⟨by omega, by omega⟩) ?_ | refine b_div (by first | omega | (constructor <;> omega) | exact Or.inl ⟨by omega, by omega⟩ | exact Or.inr ⟨by omega, by omega⟩) ?_ | refine b_mod (by first | omega | (constructor <;> omega) | exact Or.inl ⟨by omega, by omega⟩ | exact Or.inr ⟨by omega, by omega⟩) ?_ | refine b_strs (by first | omega | (constructor <;> omega) | exact Or.inl ⟨by omega, by omega⟩ | exact Or.inr ⟨by omega, by omega⟩) ?_ | refine b_catT (by first | exact Nat.le_of_ble_eq_true rfl | decide | (simp; done) | (simp <;> omega)) ?_ | refine c_lt ?_ | refine c_le ?_ | refine c_gt ?_ | refine c_ge ?_ | refine c_eqI ?_ | refine c_neI ?_ | refine c_is ?_ | refine c_isnot ?_ | refine c_eqB ?_ | refine c_neB ?_ | refine c_eqS ?_ | refine c_neS ?_ | refine b_iadd ?_ | refine b_isub ?_ | refine b_imul (by first | omega | (constructor <;> omega) | exact Or.inl ⟨by omega, by omega⟩ | exact Or.inr ⟨by omega, by omega⟩) ?_) | refine x_non ?_ | refine x_str ?_ | refine x_bl ?_ | refine x_bin ?_ | refine x_cmp ?_ (by rfl) | refine t_cmp ?_ (by rfl) | refine t_chain ?_ (by with_unfolding_all rfl) | refine x_chain ?_ (by with_unfolding_all rfl) | refine t_not ?_ | refine x_neg ?_ | refine x_if ?_ | refine a_cons ?_ (fun _ => rfl) | refine a_nil ?_ | refine x_tup ?_ | refine x_ix ?_ (fun _ _ => rfl) | refine ix_tup rfl ?_ | refine dats_ex (by first | exact Nat.le_of_ble_eq_true rfl | decide | (simp; done) | (simp <;> omega)) ?_ | refine r_cons ?_ | refine r_nil ?_ | refine s_ret ?_ | refine s_if ?_ | (refine s_st (by first | exact Or.inl rfl | exact Or.inr rfl) (by first | exact Or.inl rfl | exact Or.inr rfl) ?_ (fun _ => rfl)) | (refine s_ag (by first | exact Or.inl rfl | exact Or.inr rfl) (by first | exact Or.inl rfl | exact Or.inr rfl) rfl ?_) | refine s_expr ?_ (fun _ => rfl))
      refine ⟨fun h => ?_, fun h => ?_⟩
      · repeat (first | refine x_int ?_ | (refine x_v rfl (by first | exact Or.inl rfl | exact Or.inr (Or.inl rfl) | exact Or.inr (Or.inr rfl)) ?_) | (first | refine b_add ?_ | refine b_sub ?_ | refine b_mul (by first | omega | (constructor <;> omega) | exact Or.inl ⟨by omega, by omega⟩ | exact Or.inr ⟨by omega, by omega⟩) ?_ | refine b_div (by first | omega | (constructor <;> omega) | exact Or.inl ⟨by omega, by omega⟩ | exact Or.inr ⟨by omega, by omega⟩) ?_ | refine b_mod (by first | omega | (constructor <;> omega) | exact Or.inl ⟨by omega, by omega⟩ | exact Or.inr ⟨by omega, by omega⟩) ?_ | refine b_strs (by first | omega | (constructor <;> omega) | exact Or.inl ⟨by omega, by omega⟩ | exact Or.inr ⟨by omega, by omega⟩) ?_ | refine b_catT (by first | exact Nat.le_of_ble_eq_true rfl | decide | (simp; done) | (simp <;> omega)) ?_ | refine c_lt ?_ | refine c_le ?_ | refine c_gt ?_ | refine c_ge ?_ | refine c_eqI ?_ | refine c_neI ?_ | refine c_is ?_ | refine c_isnot ?_ | refine c_eqB ?_ | refine c_neB ?_ | refine c_eqS ?_ | refine c_neS ?_ | refine b_iadd ?_ | refine b_isub ?_ | refine b_imul (by first | omega | (constructor <;> omega) | exact Or.inl ⟨by omega, by omega⟩ | exact Or.inr ⟨by omega, by omega⟩) ?_) | refine x_non ?_ | refine x_str ?_ | refine x_bl ?_ | refine x_bin ?_ | refine x_cmp ?_ (by rfl) | refine t_cmp ?_ (by rfl) | refine t_chain ?_ (by with_unfolding_all rfl) | refine x_chain ?_ (by with_unfolding_all rfl) | refine t_not ?_ | refine x_neg ?_ | refine x_if ?_ | refine a_cons ?_ (fun _ => rfl) | refine a_nil ?_ | refine x_tup ?_ | refine x_ix ?_ (fun _ _ => rfl) | refine ix_tup rfl ?_ | refine dats_ex (by first | exact Nat.le_of_ble_eq_true rfl | decide | (simp; done) | (simp <;> omega)) ?_ | refine r_cons ?_ | refine r_nil ?_ | refine s_ret ?_ | refine s_if ?_ | (refine s_st (by first | exact Or.inl rfl | exact Or.inr rfl) (by first | exact Or.inl rfl | exact Or.inr rfl) ?_ (fun _ => rfl)) | (refine s_ag (by first | exact Or.inl rfl | exact Or.inr rfl) (by first | exact Or.inl rfl | exact Or.inr rfl) rfl ?_) | refine s_expr ?_ (fun _ => rfl))
        have e : wholeD lo hi (.int i) = decide (i ≤ hi) := by
          show (decide (lo ≤ i) && decide (i ≤ hi)) = _
          rw [h, Bool.true_and]
        rw [e] at q
        exact fin_same q
      · have e : wholeD lo hi (.int i) = false := by
          show (decide (lo ≤ i) && decide (i ≤ hi)) = _
          rw [h, Bool.false_and]
        rw [e] at q
        exact fin_same q
    | bl b =>
      refine ⟨fun j e => (by cases e), fun _ e => (by cases e), true, (by kernel_rfl), true, rfl, false, rfl, fun h => (by cases h), fun _ => fin_same q⟩
    | non => cases h
    | str x => cases h
    | tup ds => cases h
    | lis ds => cases h
  · cases d with
    | int i => cases h
    | bl b => cases h
    | non => exact fin_same q
    | str x => exact fin_same q
    | tup ds => exact fin_same q
    | lis ds => exact fin_same q
end
end My

namespace My
open PySem L2 Fx
section
variable {P : Program} {w : World} {K : PySem.W.Frag} {mg : Str → Option Value} {base : Heap}
def A_is_lot : ASp := fun as M Post => ∃ d : D, as = [.dat d] ∧ Post (.dat (.bl (lotD d))) M
theorem d_is_lot (T : Txt K mg) : DefOk P w K mg base lv_is_lot "is_lot" s_is_lot ps_is_lot (spOf K ps_is_lot.length A_is_lot) := by
  obtain ⟨fa, fd, hm, F, hb⟩ := T.f_is_lot
  obtain ⟨tk, hk⟩ := T.k_MOST
  refine ⟨fa, fd, hm, F, hb, fn_mk F sc_is_lot fun as M Post hl hA => ?_⟩
  obtain ⟨d, rfl, q⟩ := hA
  show Run (c_is_lot P w K mg base _) [some (.dat d)] M _ _
  refine r_cons (s_if (t_W (w_or (t_not (t_val (x_isi rfl T.b_isinstance rfl T.b_tuple PyProof.Rows.boot_tuple ?_ (fun _ => rfl)) (fun _ _ => rfl))))))
  refine x_v rfl (by first | exact Or.inl rfl | exact Or.inr (Or.inl rfl) | exact Or.inr (Or.inr rfl)) ?_
  refine ⟨fun j e => (by cases e), fun _ e => (by cases e), _, kit_tuple d, _, rfl, ?_, ?_⟩
  · intro h
    refine ⟨fun _ => ?_, fun h => by cases h⟩
    refine r_one (s_ret (x_bl ?_))
    cases d with
    | tup ds => cases h
    | non => exact fin_same q
    | bl b => exact fin_same q
    | int i => exact fin_same q
    | str x => exact fin_same q
    | lis x => exact fin_same q
  · intro h
    cases d with
    | non => cases h
    | bl b => cases h
    | int i => cases h
    | str x => cases h
    | lis x => cases h
    | tup ds =>
    refine w_or (t_cmp ?_ (by rfl))
    refine x_blt rfl T.b_len PySem.boot_len ?_ (fun _ => rfl) (fun _ => rfl)
    refine a_cons ?_ (fun _ => rfl)
    refine x_v rfl (by first | exact Or.inl rfl | exact Or.inr (Or.inl rfl) | exact Or.inr (Or.inr rfl)) ?_
    refine a_nil (ca_len isS_tup ?_)
    refine x_int (c_neI ⟨fun h => ?_, fun h => ?_⟩)
    · refine ⟨fun _ => ?_, fun h => by cases h⟩
      refine r_one (s_ret (x_bl ?_))
      have e : lotD (.tup ds) = false := by
        match ds, h with
        | [], _ => rfl
        | [a], _ => rfl
        | [a, b], h => simp at h
        | a :: b :: c :: l, _ => rfl
      rw [e] at q
      exact fin_same q
    · match ds, h, q with
      | [a, b], _, q =>
        refine w_or1 (t_not (t_val ?_ (fun _ _ => rfl)))
        refine x_call (d_is_whole T) (Nat.le_of_ble_eq_true rfl) rfl ?_ (fun _ => rfl) (fun _ => rfl)
        refine a_cons (x_ix ?_ (fun _ _ => rfl)) (fun _ => rfl)
        refine x_v rfl (by first | exact Or.inl rfl | exact Or.inr (Or.inl rfl) | exact Or.inr (Or.inr rfl)) ?_
        refine x_int (ix_tup (d := a) (atI_at (n := 0) rfl rfl) ?_)
        refine a_cons (x_int ?_) (fun _ => rfl)
        refine a_cons (x_glob (d := .int 12) (v := .int 12) rfl hk ⟨_, rfl⟩ (fun _ => rfl) ?_) (fun _ => rfl)
        refine a_nil ⟨rfl, a, 1, 12, rfl, _, rfl, fun h => ?_, fun h => ?_⟩
        · refine r_one (s_ret (x_bl ?_))
          have e : lotD (.tup [a, b]) = false := by
            cases a with
            | int m =>
              have h2 : (decide (1 ≤ m) && decide (m ≤ 12)) = false := by
                have : wholeD 1 12 (.int m) = (decide (1 ≤ m) && decide (m ≤ 12)) := rfl
                rw [← this]
                simpa using h
              show (decide (1 ≤ m) && decide (m ≤ 12) && wholeD 1 m b) = false
              rw [h2]
              rfl
            | non => rfl
            | bl x => rfl
            | str x => rfl
            | tup x => rfl
            | lis x => rfl
          rw [e] at q
          exact fin_same q
        · have hw : wholeD 1 12 a = true := by simpa using h
          cases a with
          | non => cases hw
          | bl x => cases hw
          | str x => cases hw
          | tup x => cases hw
          | lis x => cases hw
          | int m =>
            refine r_nil (r_one (s_ret ?_))
            refine x_call (d_is_whole T) (Nat.le_of_ble_eq_true rfl) rfl ?_ (fun _ => rfl) (fun _ => rfl)
            refine a_cons (x_ix ?_ (fun _ _ => rfl)) (fun _ => rfl)
            refine x_v rfl (by first | exact Or.inl rfl | exact Or.inr (Or.inl rfl) | exact Or.inr (Or.inr rfl)) ?_
            refine x_int (ix_tup (d := b) (atI_at (n := 1) rfl rfl) ?_)
            refine a_cons (x_int ?_) (fun _ => rfl)
            refine a_cons (x_ix ?_ (fun _ _ => rfl)) (fun _ => rfl)
            refine x_v rfl (by first | exact Or.inl rfl | exact Or.inr (Or.inl rfl) | exact Or.inr (Or.inr rfl)) ?_
            refine x_int (ix_tup (d := .int m) (atI_at (n := 0) rfl rfl) ?_)
            refine a_nil ⟨rfl, b, 1, m, rfl, fin_same ?_⟩
            have e : lotD (.tup [.int m, b]) = wholeD 1 m b := by
              show (decide (1 ≤ m) && decide (m ≤ 12) && wholeD 1 m b) = _
              rw [show (decide (1 ≤ m) && decide (m ≤ 12)) = true from hw]
              rfl
            rw [← e]
            exact q
end
end My

namespace My
open PySem L2 Fx
section
variable {P : Program} {w : World} {K : PySem.W.Frag} {mg : Str → Option Value} {base : Heap}
def A_is_ticket : ASp := fun as M Post => ∃ (m : Int) (l : List D) (a : AV), as = [.dat (.tup (.int m :: l)), a] ∧ ((∃ d, a = .dat d ∧ okD 5 d = true ∧ (∀ ds, d = .tup ds → ds.length ≤ 1000) ∧ Post (.dat (.bl (ticketD m d))) M) ∨ ∃ ds, a = .ls ds ∧ Post (.dat (.bl false)) M)
theorem d_is_ticket (T : Txt K mg) : DefOk P w K mg base lv_is_ticket "is_ticket" s_is_ticket ps_is_ticket (spOf K ps_is_ticket.length A_is_ticket) := by
  obtain ⟨fa, fd, hm, F, hb⟩ := T.f_is_ticket
  refine ⟨fa, fd, hm, F, hb, fn_mk F sc_is_ticket fun as M Post hl hA => ?_⟩
  obtain ⟨m, l, a, rfl, hA⟩ := hA
  rcases hA with ⟨d, rfl, hd, hdl, q⟩ | ⟨ds, rfl, q⟩
  · show Run (c_is_ticket P w K mg base _) [some (.dat (.tup (.int m :: l))), some (.dat d), none, none, none] M _ _
    refine r_cons (s_if (t_W (w_or (t_not (t_val (x_isi rfl T.b_isinstance rfl T.b_tuple PyProof.Rows.boot_tuple ?_ (fun _ => rfl)) (fun _ _ => rfl))))))
    refine x_v rfl (by first | exact Or.inl rfl | exact Or.inr (Or.inl rfl) | exact Or.inr (Or.inr rfl)) ?_
    refine ⟨fun j e => (by cases e), fun _ e => (by cases e), _, kit_tuple d, _, rfl, ?_, ?_⟩
    · intro h
      refine ⟨fun _ => ?_, fun h => by cases h⟩
      refine r_one (s_ret (x_bl ?_))
      cases d with
      | tup ds => cases h
      | non => exact fin_same q
      | bl b => exact fin_same q
      | int i => exact fin_same q
      | str x => exact fin_same q
      | lis x => exact fin_same q
    · intro h
      cases d with
      | non => cases h
      | bl b => cases h
      | int i => cases h
      | str x => cases h
      | lis x => cases h
      | tup ds =>
      have hdl2 : ds.length ≤ 1000 := hdl ds rfl
      refine w_or (t_cmp ?_ (by rfl))
      refine x_v rfl (by first | exact Or.inl rfl | exact Or.inr (Or.inl rfl) | exact Or.inr (Or.inr rfl)) ?_
      refine x_tup (a_nil (dats_ex (by decide) ?_))
      refine c_eqNilT 4 hd ?_
      refine ⟨fun h => ?_, fun h => ?_⟩
      · refine ⟨fun _ => ?_, fun h => by cases h⟩
        refine r_one (s_ret (x_bl ?_))
        have e : ticketD m (.tup ds) = false := by
          show (!ds.isEmpty && _ && _) = false
          rw [h]; rfl
        rw [e] at q
        exact fin_same q
      · refine w_or1 (t_not (t_val ?_ (fun _ _ => rfl)))
        refine x_blt rfl T.b_all PyProof.Rows.boot_all ?_ (fun _ => rfl) (fun _ => rfl)
        refine a_cons ?_ (fun _ => rfl)
        refine x_F (f_lcP [("number", 2)] (fun d : D => .bl (wholeD 1 m d)) (fun _ => true) (blkOk_by (by kernel_rfl)) nk_is_ticket.nd (i_seq ?_) (fun _ _ => rfl))
        refine x_v rfl (by first | exact Or.inl rfl | exact Or.inr (Or.inl rfl) | exact Or.inr (Or.inr rfl)) ?_
        refine ⟨_, isS_tup, ds, id, (List.map_id ds).symm, by omega, fun j e => (by cases e), fun t ht => ?_, ?_⟩
        · refine lt_n (by first | exact List.mem_cons_self | exact List.mem_cons_of_mem _ List.mem_cons_self | (simp; done)) (by first | exact Or.inl rfl | exact Or.inr rfl) (by first | exact Or.inl rfl | exact Or.inr rfl) ?_
          refine ts_nil ⟨fun _ => ?_, fun h => by cases h⟩
          refine x_call (d_is_whole T) (Nat.le_of_ble_eq_true rfl) rfl ?_ (fun _ => rfl) (fun _ => rfl)
          refine a_cons ?_ (fun _ => rfl)
          refine x_v rfl (by first | exact Or.inl rfl | exact Or.inr (Or.inl rfl) | exact Or.inr (Or.inr rfl)) ?_
          refine a_cons (x_int ?_) (fun _ => rfl)
          refine a_cons (x_ix ?_ (fun _ _ => rfl)) (fun _ => rfl)
          refine x_v rfl (by first | exact Or.inl rfl | exact Or.inr (Or.inl rfl) | exact Or.inr (Or.inr rfl)) ?_
          refine x_int ?_
          refine ix_tup (d := .int m) (atI_at (n := 0) rfl rfl) ?_
          exact a_nil ⟨rfl, t, 1, m, rfl, _, rfl, rfl, rfl, rfl⟩
        rw [List.filter_true', show (ds.map fun d : D => D.bl (wholeD 1 m d)) = (ds.map (wholeD 1 m)).map D.bl by rw [List.map_map]; rfl]
        refine a_nil (ca_all isL_ls ?_)
        have eall : (ds.map (wholeD 1 m)).all (fun b => b) = ds.all (wholeD 1 m) := by rw [List.all_map]; rfl
        rw [eall]
        refine ⟨_, rfl, fun h2 => ?_, fun h2 => ?_⟩
        · have h3 : ds.all (wholeD 1 m) = false := by simpa using h2
          refine r_one (s_ret (x_bl ?_))
          have e : ticketD m (.tup ds) = false := by
            show (!ds.isEmpty && ds.all (wholeD 1 m) && _) = false
            rw [h3]; simp
          rw [e] at q
          exact fin_same q
        · have h3 : ds.all (wholeD 1 m) = true := by simpa using h2
          obtain ⟨eds, _⟩ := ints_whole h3
          generalize hns : intsOf ds = ns at eds
          subst eds
          rw [List.length_map] at hdl2
          refine r_nil (r_one (s_ret ?_))
          refine x_blt rfl T.b_all PyProof.Rows.boot_all ?_ (fun _ => rfl) (fun _ => rfl)
          refine a_cons ?_ (fun _ => rfl)
          refine x_F (f_lcP [("one", 3), ("other", 4)] (fun p : Int × Int => .bl (decide (p.1 < p.2))) (fun _ => true) (blkOk_by (by kernel_rfl)) nk_is_ticket.nd (i_zipT T.b_zip rfl ?_ (fun _ => rfl) (fun _ => rfl)) (fun _ _ => rfl))
          refine a_cons ?_ (fun _ => rfl)
          refine x_v rfl (by first | exact Or.inl rfl | exact Or.inr (Or.inl rfl) | exact Or.inr (Or.inr rfl)) ?_
          refine a_cons ?_ (fun _ => rfl)
          refine x_slT ?_
          refine x_v rfl (by first | exact Or.inl rfl | exact Or.inr (Or.inl rfl) | exact Or.inr (Or.inr rfl)) ?_
          refine o_some (x_int ⟨1, rfl, o_none ⟨_, rfl, ?_⟩⟩)
          rw [show cutD (ns.map D.int) (some 1) none = (ns.map D.int).drop 1 from cut_lo _ 1]
          refine a_nil ⟨_, _, rfl, ?_⟩
          rw [zip_pairs]
          refine ⟨pairs ns, fun p => D.tup [.int p.1, .int p.2], rfl, ?_, fun j e => (by cases e), fun t ht => ?_, ?_⟩
          · rw [pairs_zip, List.length_zip]
            omega
          · refine lt_2 (by first | exact List.mem_cons_self | exact List.mem_cons_of_mem _ List.mem_cons_self | (simp; done)) (by first | exact List.mem_cons_self | exact List.mem_cons_of_mem _ List.mem_cons_self | (simp; done)) (by first | exact Or.inl rfl | exact Or.inr rfl) (by first | exact Or.inl rfl | exact Or.inr rfl) (by first | exact Or.inl rfl | exact Or.inr rfl) (by first | exact Or.inl rfl | exact Or.inr rfl) ?_
            refine ts_nil ⟨fun _ => ?_, fun h => by cases h⟩
            repeat (first | refine x_int ?_ | (refine x_v rfl (by first | exact Or.inl rfl | exact Or.inr (Or.inl rfl) | exact Or.inr (Or.inr rfl)) ?_) | (first | refine b_add ?_ | refine b_sub ?_ | refine b_mul (by first | omega | (constructor <;> omega) | exact Or.inl ⟨by omega, by omega⟩ | exact Or.inr ⟨by omega, by omega⟩) ?_ | refine b_div (by first | omega | (constructor <;> omega) | exact Or.inl ⟨by omega, by omega⟩ | exact Or.inr ⟨by omega, by omega⟩) ?_ | refine b_mod (by first | omega | (constructor <;> omega) | exact Or.inl ⟨by omega, by omega⟩ | exact Or.inr ⟨by omega, by omega⟩) ?_ | refine b_strs (by first | omega | (constructor <;> omega) | exact Or.inl ⟨by omega, by omega⟩ | exact Or.inr ⟨by omega, by omega⟩) ?_ | refine b_catT (by first | exact Nat.le_of_ble_eq_true rfl | decide | (simp; done) | (simp <;> omega)) ?_ | refine c_lt ?_ | refine c_le ?_ | refine c_gt ?_ | refine c_ge ?_ | refine c_eqI ?_ | refine c_neI ?_ | refine c_is ?_ | refine c_isnot ?_ | refine c_eqB ?_ | refine c_neB ?_ | refine c_eqS ?_ | refine c_neS ?_ | refine b_iadd ?_ | refine b_isub ?_ | refine b_imul (by first | omega | (constructor <;> omega) | exact Or.inl ⟨by omega, by omega⟩ | exact Or.inr ⟨by omega, by omega⟩) ?_) | refine x_non ?_ | refine x_str ?_ | refine x_bl ?_ | refine x_bin ?_ | refine x_cmp ?_ (by rfl) | refine t_cmp ?_ (by rfl) | refine t_chain ?_ (by with_unfolding_all rfl) | refine x_chain ?_ (by with_unfolding_all rfl) | refine t_not ?_ | refine x_neg ?_ | refine x_if ?_ | refine a_cons ?_ (fun _ => rfl) | refine a_nil ?_ | refine x_tup ?_ | refine x_ix ?_ (fun _ _ => rfl) | refine ix_tup rfl ?_ | refine dats_ex (by first | exact Nat.le_of_ble_eq_true rfl | decide | (simp; done) | (simp <;> omega)) ?_ | refine r_cons ?_ | refine r_nil ?_ | refine s_ret ?_ | refine s_if ?_ | (refine s_st (by first | exact Or.inl rfl | exact Or.inr rfl) (by first | exact Or.inl rfl | exact Or.inr rfl) ?_ (fun _ => rfl)) | (refine s_ag (by first | exact Or.inl rfl | exact Or.inr rfl) (by first | exact Or.inl rfl | exact Or.inr rfl) rfl ?_) | refine s_expr ?_ (fun _ => rfl))
            exact ⟨_, rfl, rfl, rfl, rfl⟩
          rw [List.filter_true', show ((pairs ns).map fun p : Int × Int => D.bl (decide (p.1 < p.2))) = ((pairs ns).map fun p => decide (p.1 < p.2)).map D.bl by rw [List.map_map]; rfl]
          refine a_nil (ca_all isL_ls ?_)
          have e : ticketD m (.tup (ns.map D.int)) = ((pairs ns).map fun p => decide (p.1 < p.2)).all (fun b => b) := by
            have e0 : (ns.map D.int).isEmpty = false := h
            show (!(ns.map D.int).isEmpty && (ns.map D.int).all (wholeD 1 m) && rises (intsOf (ns.map D.int))) = _
            rw [h3, ints_map, e0, List.all_map]
            rfl
          rw [e] at q
          exact fin_same q
  · show Run (c_is_ticket P w K mg base _) [some (.dat (.tup (.int m :: l))), some (.ls ds), none, none, none] M _ _
    refine r_cons (s_if (t_W (w_or (t_not (t_val (x_isi rfl T.b_isinstance rfl T.b_tuple PyProof.Rows.boot_tuple ?_ (fun _ => rfl)) (fun _ _ => rfl))))))
    refine x_v rfl (by first | exact Or.inl rfl | exact Or.inr (Or.inl rfl) | exact Or.inr (Or.inr rfl)) ?_
    refine ⟨fun j e => (by cases e), fun _ e => (by cases e), false, (by kernel_rfl), _, rfl, fun _ => ⟨fun _ => ?_, fun h => by cases h⟩, fun h => by cases h⟩
    exact r_one (s_ret (x_bl (fin_same q)))
end
end My

namespace My
open PySem L2 Fx
section
variable {P : Program} {w : World} {K : PySem.W.Frag} {mg : Str → Option Value} {base : Heap}
def A_is_book : ASp := fun as M Post => ∃ (m : Int) (l : List D) (d : D), as = [.dat (.tup (.int m :: l)), .dat d] ∧ (∀ ds, d = .tup ds → ds.length ≤ 1000 ∧ ∀ x ∈ ds, okD 5 x = true ∧ ∀ es, x = .tup es → es.length ≤ 1000) ∧ Post (.dat (.bl (bookD m d))) M
theorem d_is_book (T : Txt K mg) : DefOk P w K mg base lv_is_book "is_book" s_is_book ps_is_book (spOf K ps_is_book.length A_is_book) := by
  obtain ⟨fa, fd, hm, F, hb⟩ := T.f_is_book
  refine ⟨fa, fd, hm, F, hb, fn_mk F sc_is_book fun as M Post hl hA => ?_⟩
  obtain ⟨m, l, d, rfl, hd, q⟩ := hA
  show Run (c_is_book P w K mg base _) [some (.dat (.tup (.int m :: l))), some (.dat d), none] M _ _
  refine r_one (s_ret (x_and (x_isi rfl T.b_isinstance rfl T.b_tuple PyProof.Rows.boot_tuple ?_ (fun _ => rfl))))
  refine x_v rfl (by first | exact Or.inl rfl | exact Or.inr (Or.inl rfl) | exact Or.inr (Or.inr rfl)) ?_
  refine ⟨fun j e => (by cases e), fun _ e => (by cases e), _, kit_tuple d, _, rfl, fun h => ?_, fun h => ?_⟩
  · cases d with
    | non => cases h
    | bl b => cases h
    | int i => cases h
    | str x => cases h
    | lis x => cases h
    | tup ds =>
      obtain ⟨hl1, hx⟩ := hd ds rfl
      refine x_one ?_
      refine x_blt rfl T.b_all PyProof.Rows.boot_all ?_ (fun _ => rfl) (fun _ => rfl)
      refine a_cons ?_ (fun _ => rfl)
      refine x_F (f_lcP [("ticket", 2)] (fun d : D => .bl (ticketD m d)) (fun _ => true) (blkOk_by (by kernel_rfl)) nk_is_book.nd (i_seq ?_) (fun _ _ => rfl))
      refine x_v rfl (by first | exact Or.inl rfl | exact Or.inr (Or.inl rfl) | exact Or.inr (Or.inr rfl)) ?_
      refine ⟨_, isS_tup, ds, id, (List.map_id ds).symm, by omega, fun j e => (by cases e), fun t ht => ?_, ?_⟩
      · refine lt_n (by first | exact List.mem_cons_self | exact List.mem_cons_of_mem _ List.mem_cons_self | (simp; done)) (by first | exact Or.inl rfl | exact Or.inr rfl) (by first | exact Or.inl rfl | exact Or.inr rfl) ?_
        refine ts_nil ⟨fun _ => ?_, fun h => by cases h⟩
        refine x_call (d_is_ticket T) (Nat.le_of_ble_eq_true rfl) rfl ?_ (fun _ => rfl) (fun _ => rfl)
        refine a_cons ?_ (fun _ => rfl)
        refine x_v rfl (by first | exact Or.inl rfl | exact Or.inr (Or.inl rfl) | exact Or.inr (Or.inr rfl)) ?_
        refine a_cons ?_ (fun _ => rfl)
        refine x_v rfl (by first | exact Or.inl rfl | exact Or.inr (Or.inl rfl) | exact Or.inr (Or.inr rfl)) ?_
        exact a_nil ⟨rfl, m, l, _, rfl, .inl ⟨t, rfl, (hx t ht).1, (hx t ht).2, _, rfl, rfl, rfl, rfl⟩⟩
      rw [List.filter_true', show (ds.map fun d : D => D.bl (ticketD m d)) = (ds.map (ticketD m)).map D.bl by rw [List.map_map]; rfl]
      refine a_nil (ca_all isL_ls ?_)
      rw [List.all_map]
      exact fin_same q
  · cases d with
    | tup ds => cases h
    | non => exact fin_same q
    | bl b => exact fin_same q
    | int i => exact fin_same q
    | str x => exact fin_same q
    | lis x => exact fin_same q
end
end My

namespace My
open PySem L2 Fx
section
variable {P : Program} {w : World} {K : PySem.W.Frag} {mg : Str → Option Value} {base : Heap}
def A_law_draw : ASp := fun as M Post => ∃ (ns : List Int) (j i : Nat) (m : Int), as = [.scr ns, .mut j, .dat (.int m)] ∧ ns.length ≤ 63 ∧ M[j]? = some (.town i) ∧ M[i]? = some .rests ∧ 0 < m ∧ m ≤ 1000000 ∧ ∀ r : Int, 0 ≤ r → r < m → Post (.dat (.int r)) M
theorem d_law_draw (T : Txt K mg) : DefOk P w K mg base lv_law_draw "_law_draw" s_law_draw ps_law_draw (spOf K ps_law_draw.length A_law_draw) := by
  obtain ⟨fa, fd, hm, F, hb⟩ := T.f_law_draw
  refine ⟨fa, fd, hm, F, hb, fn_mk F sc_law_draw fun as M Post hl hA => ?_⟩
  obtain ⟨ns, j, i, m, rfl, hn, hj, hi, hm, hm2, q⟩ := hA
  have q2 : ∀ r : Int, Fin M Post (.dat (.int (r % m))) M := fun r => fin_same (q _ (Int.emod_nonneg _ (by omega)) (Int.emod_lt_of_pos _ hm))
  show Run (c_law_draw P w K mg base _) [some (.scr ns), some (.mut j), some (.dat (.int m)), none, none, none] M _ _
  have rest2 : ∀ at_ r : Int, 0 ≤ at_ → at_ < 63 → Run (c_law_draw P w K mg base 0) [some (.scr ns), some (.mut j), some (.dat (.int m)), some (.dat (.int at_)), some (.dat (.int r)), none] M ((defBody s_law_draw).drop 3) { nx := fun _ M2 => Fin M Post (.dat .non) M2, rt := Fin M Post } := by
    intro at_ r h0 h1
    repeat (first | refine x_int ?_ | (refine x_v rfl (by first | exact Or.inl rfl | exact Or.inr (Or.inl rfl) | exact Or.inr (Or.inr rfl)) ?_) | (first | refine b_add ?_ | refine b_sub ?_ | refine b_mul (by first | omega | (constructor <;> omega) | exact Or.inl ⟨by omega, by omega⟩ | exact Or.inr ⟨by omega, by omega⟩) ?_ | refine b_div (by first | omega | (constructor <;> omega) | exact Or.inl ⟨by omega, by omega⟩ | exact Or.inr ⟨by omega, by omega⟩) ?_ | refine b_mod (by first | omega | (constructor <;> omega) | exact Or.inl ⟨by omega, by omega⟩ | exact Or.inr ⟨by omega, by omega⟩) ?_ | refine b_strs (by first | omega | (constructor <;> omega) | exact Or.inl ⟨by omega, by omega⟩ | exact Or.inr ⟨by omega, by omega⟩) ?_ | refine b_catT (by first | exact Nat.le_of_ble_eq_true rfl | decide | (simp; done) | (simp <;> omega)) ?_ | refine c_lt ?_ | refine c_le ?_ | refine c_gt ?_ | refine c_ge ?_ | refine c_eqI ?_ | refine c_neI ?_ | refine c_is ?_ | refine c_isnot ?_ | refine c_eqB ?_ | refine c_neB ?_ | refine c_eqS ?_ | refine c_neS ?_ | refine b_iadd ?_ | refine b_isub ?_ | refine b_imul (by first | omega | (constructor <;> omega) | exact Or.inl ⟨by omega, by omega⟩ | exact Or.inr ⟨by omega, by omega⟩) ?_) | refine x_non ?_ | refine x_str ?_ | refine x_bl ?_ | refine x_bin ?_ | refine x_cmp ?_ (by rfl) | refine t_cmp ?_ (by rfl) | refine t_chain ?_ (by with_unfolding_all rfl) | refine x_chain ?_ (by with_unfolding_all rfl) | refine t_not ?_ | refine x_neg ?_ | refine x_if ?_ | refine a_cons ?_ (fun _ => rfl) | refine a_nil ?_ | refine x_tup ?_ | refine x_ix ?_ (fun _ _ => rfl) | refine ix_tup rfl ?_ | refine dats_ex (by first | exact Nat.le_of_ble_eq_true rfl | decide | (simp; done) | (simp <;> omega)) ?_ | refine r_cons ?_ | refine r_nil ?_ | refine s_ret ?_ | refine s_if ?_ | (refine s_st (by first | exact Or.inl rfl | exact Or.inr rfl) (by first | exact Or.inl rfl | exact Or.inr rfl) ?_ (fun _ => rfl)) | (refine s_ag (by first | exact Or.inl rfl | exact Or.inr rfl) (by first | exact Or.inl rfl | exact Or.inr rfl) rfl ?_) | refine s_expr ?_ (fun _ => rfl))
    refine b_pow ⟨by decide, by decide, by decide⟩ ?_
    repeat (first | refine x_int ?_ | (refine x_v rfl (by first | exact Or.inl rfl | exact Or.inr (Or.inl rfl) | exact Or.inr (Or.inr rfl)) ?_) | (first | refine b_add ?_ | refine b_sub ?_ | refine b_mul (by first | omega | (constructor <;> omega) | exact Or.inl ⟨by omega, by omega⟩ | exact Or.inr ⟨by omega, by omega⟩) ?_ | refine b_div (by first | omega | (constructor <;> omega) | exact Or.inl ⟨by omega, by omega⟩ | exact Or.inr ⟨by omega, by omega⟩) ?_ | refine b_mod (by first | omega | (constructor <;> omega) | exact Or.inl ⟨by omega, by omega⟩ | exact Or.inr ⟨by omega, by omega⟩) ?_ | refine b_strs (by first | omega | (constructor <;> omega) | exact Or.inl ⟨by omega, by omega⟩ | exact Or.inr ⟨by omega, by omega⟩) ?_ | refine b_catT (by first | exact Nat.le_of_ble_eq_true rfl | decide | (simp; done) | (simp <;> omega)) ?_ | refine c_lt ?_ | refine c_le ?_ | refine c_gt ?_ | refine c_ge ?_ | refine c_eqI ?_ | refine c_neI ?_ | refine c_is ?_ | refine c_isnot ?_ | refine c_eqB ?_ | refine c_neB ?_ | refine c_eqS ?_ | refine c_neS ?_ | refine b_iadd ?_ | refine b_isub ?_ | refine b_imul (by first | omega | (constructor <;> omega) | exact Or.inl ⟨by omega, by omega⟩ | exact Or.inr ⟨by omega, by omega⟩) ?_) | refine x_non ?_ | refine x_str ?_ | refine x_bl ?_ | refine x_bin ?_ | refine x_cmp ?_ (by rfl) | refine t_cmp ?_ (by rfl) | refine t_chain ?_ (by with_unfolding_all rfl) | refine x_chain ?_ (by with_unfolding_all rfl) | refine t_not ?_ | refine x_neg ?_ | refine x_if ?_ | refine a_cons ?_ (fun _ => rfl) | refine a_nil ?_ | refine x_tup ?_ | refine x_ix ?_ (fun _ _ => rfl) | refine ix_tup rfl ?_ | refine dats_ex (by first | exact Nat.le_of_ble_eq_true rfl | decide | (simp; done) | (simp <;> omega)) ?_ | refine r_cons ?_ | refine r_nil ?_ | refine s_ret ?_ | refine s_if ?_ | (refine s_st (by first | exact Or.inl rfl | exact Or.inr rfl) (by first | exact Or.inl rfl | exact Or.inr rfl) ?_ (fun _ => rfl)) | (refine s_ag (by first | exact Or.inl rfl | exact Or.inr rfl) (by first | exact Or.inl rfl | exact Or.inr rfl) rfl ?_) | refine s_expr ?_ (fun _ => rfl))
    refine ⟨fun h => ?_, fun h => ?_⟩
    · refine r_cons (s_rput ?_ (fun _ => rfl))
      repeat (first | refine x_int ?_ | (refine x_v rfl (by first | exact Or.inl rfl | exact Or.inr (Or.inl rfl) | exact Or.inr (Or.inr rfl)) ?_) | (first | refine b_add ?_ | refine b_sub ?_ | refine b_mul (by first | omega | (constructor <;> omega) | exact Or.inl ⟨by omega, by omega⟩ | exact Or.inr ⟨by omega, by omega⟩) ?_ | refine b_div (by first | omega | (constructor <;> omega) | exact Or.inl ⟨by omega, by omega⟩ | exact Or.inr ⟨by omega, by omega⟩) ?_ | refine b_mod (by first | omega | (constructor <;> omega) | exact Or.inl ⟨by omega, by omega⟩ | exact Or.inr ⟨by omega, by omega⟩) ?_ | refine b_strs (by first | omega | (constructor <;> omega) | exact Or.inl ⟨by omega, by omega⟩ | exact Or.inr ⟨by omega, by omega⟩) ?_ | refine b_catT (by first | exact Nat.le_of_ble_eq_true rfl | decide | (simp; done) | (simp <;> omega)) ?_ | refine c_lt ?_ | refine c_le ?_ | refine c_gt ?_ | refine c_ge ?_ | refine c_eqI ?_ | refine c_neI ?_ | refine c_is ?_ | refine c_isnot ?_ | refine c_eqB ?_ | refine c_neB ?_ | refine c_eqS ?_ | refine c_neS ?_ | refine b_iadd ?_ | refine b_isub ?_ | refine b_imul (by first | omega | (constructor <;> omega) | exact Or.inl ⟨by omega, by omega⟩ | exact Or.inr ⟨by omega, by omega⟩) ?_) | refine x_non ?_ | refine x_str ?_ | refine x_bl ?_ | refine x_bin ?_ | refine x_cmp ?_ (by rfl) | refine t_cmp ?_ (by rfl) | refine t_chain ?_ (by with_unfolding_all rfl) | refine x_chain ?_ (by with_unfolding_all rfl) | refine t_not ?_ | refine x_neg ?_ | refine x_if ?_ | refine a_cons ?_ (fun _ => rfl) | refine a_nil ?_ | refine x_tup ?_ | refine dats_ex (by first | exact Nat.le_of_ble_eq_true rfl | decide | (simp; done) | (simp <;> omega)) ?_ | refine r_cons ?_ | refine r_nil ?_ | refine s_ret ?_ | refine s_if ?_ | (refine s_st (by first | exact Or.inl rfl | exact Or.inr rfl) (by first | exact Or.inl rfl | exact Or.inr rfl) ?_ (fun _ => rfl)) | (refine s_ag (by first | exact Or.inl rfl | exact Or.inr rfl) (by first | exact Or.inl rfl | exact Or.inr rfl) rfl ?_) | refine s_expr ?_ (fun _ => rfl))
      refine x_rests ?_
      repeat (first | refine x_int ?_ | (refine x_v rfl (by first | exact Or.inl rfl | exact Or.inr (Or.inl rfl) | exact Or.inr (Or.inr rfl)) ?_) | (first | refine b_add ?_ | refine b_sub ?_ | refine b_mul (by first | omega | (constructor <;> omega) | exact Or.inl ⟨by omega, by omega⟩ | exact Or.inr ⟨by omega, by omega⟩) ?_ | refine b_div (by first | omega | (constructor <;> omega) | exact Or.inl ⟨by omega, by omega⟩ | exact Or.inr ⟨by omega, by omega⟩) ?_ | refine b_mod (by first | omega | (constructor <;> omega) | exact Or.inl ⟨by omega, by omega⟩ | exact Or.inr ⟨by omega, by omega⟩) ?_ | refine b_strs (by first | omega | (constructor <;> omega) | exact Or.inl ⟨by omega, by omega⟩ | exact Or.inr ⟨by omega, by omega⟩) ?_ | refine b_catT (by first | exact Nat.le_of_ble_eq_true rfl | decide | (simp; done) | (simp <;> omega)) ?_ | refine c_lt ?_ | refine c_le ?_ | refine c_gt ?_ | refine c_ge ?_ | refine c_eqI ?_ | refine c_neI ?_ | refine c_is ?_ | refine c_isnot ?_ | refine c_eqB ?_ | refine c_neB ?_ | refine c_eqS ?_ | refine c_neS ?_ | refine b_iadd ?_ | refine b_isub ?_ | refine b_imul (by first | omega | (constructor <;> omega) | exact Or.inl ⟨by omega, by omega⟩ | exact Or.inr ⟨by omega, by omega⟩) ?_) | refine x_non ?_ | refine x_str ?_ | refine x_bl ?_ | refine x_bin ?_ | refine x_cmp ?_ (by rfl) | refine t_cmp ?_ (by rfl) | refine t_chain ?_ (by with_unfolding_all rfl) | refine x_chain ?_ (by with_unfolding_all rfl) | refine t_not ?_ | refine x_neg ?_ | refine x_if ?_ | refine a_cons ?_ (fun _ => rfl) | refine a_nil ?_ | refine x_tup ?_ | refine x_ix ?_ (fun _ _ => rfl) | refine ix_tup rfl ?_ | refine dats_ex (by first | exact Nat.le_of_ble_eq_true rfl | decide | (simp; done) | (simp <;> omega)) ?_ | refine r_cons ?_ | refine r_nil ?_ | refine s_ret ?_ | refine s_if ?_ | (refine s_st (by first | exact Or.inl rfl | exact Or.inr rfl) (by first | exact Or.inl rfl | exact Or.inr rfl) ?_ (fun _ => rfl)) | (refine s_ag (by first | exact Or.inl rfl | exact Or.inr rfl) (by first | exact Or.inl rfl | exact Or.inr rfl) rfl ?_) | refine s_expr ?_ (fun _ => rfl))
      refine ⟨j, i, rfl, hj, ?_⟩
      repeat (first | refine x_int ?_ | (refine x_v rfl (by first | exact Or.inl rfl | exact Or.inr (Or.inl rfl) | exact Or.inr (Or.inr rfl)) ?_) | (first | refine b_add ?_ | refine b_sub ?_ | refine b_mul (by first | omega | (constructor <;> omega) | exact Or.inl ⟨by omega, by omega⟩ | exact Or.inr ⟨by omega, by omega⟩) ?_ | refine b_div (by first | omega | (constructor <;> omega) | exact Or.inl ⟨by omega, by omega⟩ | exact Or.inr ⟨by omega, by omega⟩) ?_ | refine b_mod (by first | omega | (constructor <;> omega) | exact Or.inl ⟨by omega, by omega⟩ | exact Or.inr ⟨by omega, by omega⟩) ?_ | refine b_strs (by first | omega | (constructor <;> omega) | exact Or.inl ⟨by omega, by omega⟩ | exact Or.inr ⟨by omega, by omega⟩) ?_ | refine b_catT (by first | exact Nat.le_of_ble_eq_true rfl | decide | (simp; done) | (simp <;> omega)) ?_ | refine c_lt ?_ | refine c_le ?_ | refine c_gt ?_ | refine c_ge ?_ | refine c_eqI ?_ | refine c_neI ?_ | refine c_is ?_ | refine c_isnot ?_ | refine c_eqB ?_ | refine c_neB ?_ | refine c_eqS ?_ | refine c_neS ?_ | refine b_iadd ?_ | refine b_isub ?_ | refine b_imul (by first | omega | (constructor <;> omega) | exact Or.inl ⟨by omega, by omega⟩ | exact Or.inr ⟨by omega, by omega⟩) ?_) | refine x_non ?_ | refine x_str ?_ | refine x_bl ?_ | refine x_bin ?_ | refine x_cmp ?_ (by rfl) | refine t_cmp ?_ (by rfl) | refine t_chain ?_ (by with_unfolding_all rfl) | refine x_chain ?_ (by with_unfolding_all rfl) | refine t_not ?_ | refine x_neg ?_ | refine x_if ?_ | refine a_cons ?_ (fun _ => rfl) | refine a_nil ?_ | refine x_tup ?_ | refine x_ix ?_ (fun _ _ => rfl) | refine ix_tup rfl ?_ | refine dats_ex (by first | exact Nat.le_of_ble_eq_true rfl | decide | (simp; done) | (simp <;> omega)) ?_ | refine r_cons ?_ | refine r_nil ?_ | refine s_ret ?_ | refine s_if ?_ | (refine s_st (by first | exact Or.inl rfl | exact Or.inr rfl) (by first | exact Or.inl rfl | exact Or.inr rfl) ?_ (fun _ => rfl)) | (refine s_ag (by first | exact Or.inl rfl | exact Or.inr rfl) (by first | exact Or.inl rfl | exact Or.inr rfl) rfl ?_) | refine s_expr ?_ (fun _ => rfl))
      refine ⟨_, at_, i, rfl, rfl, rfl, hi, h0, h1, ?_⟩
      repeat (first | refine x_int ?_ | (refine x_v rfl (by first | exact Or.inl rfl | exact Or.inr (Or.inl rfl) | exact Or.inr (Or.inr rfl)) ?_) | (first | refine b_add ?_ | refine b_sub ?_ | refine b_mul (by first | omega | (constructor <;> omega) | exact Or.inl ⟨by omega, by omega⟩ | exact Or.inr ⟨by omega, by omega⟩) ?_ | refine b_div (by first | omega | (constructor <;> omega) | exact Or.inl ⟨by omega, by omega⟩ | exact Or.inr ⟨by omega, by omega⟩) ?_ | refine b_mod (by first | omega | (constructor <;> omega) | exact Or.inl ⟨by omega, by omega⟩ | exact Or.inr ⟨by omega, by omega⟩) ?_ | refine b_strs (by first | omega | (constructor <;> omega) | exact Or.inl ⟨by omega, by omega⟩ | exact Or.inr ⟨by omega, by omega⟩) ?_ | refine b_catT (by first | exact Nat.le_of_ble_eq_true rfl | decide | (simp; done) | (simp <;> omega)) ?_ | refine c_lt ?_ | refine c_le ?_ | refine c_gt ?_ | refine c_ge ?_ | refine c_eqI ?_ | refine c_neI ?_ | refine c_is ?_ | refine c_isnot ?_ | refine c_eqB ?_ | refine c_neB ?_ | refine c_eqS ?_ | refine c_neS ?_ | refine b_iadd ?_ | refine b_isub ?_ | refine b_imul (by first | omega | (constructor <;> omega) | exact Or.inl ⟨by omega, by omega⟩ | exact Or.inr ⟨by omega, by omega⟩) ?_) | refine x_non ?_ | refine x_str ?_ | refine x_bl ?_ | refine x_bin ?_ | refine x_cmp ?_ (by rfl) | refine t_cmp ?_ (by rfl) | refine t_chain ?_ (by with_unfolding_all rfl) | refine x_chain ?_ (by with_unfolding_all rfl) | refine t_not ?_ | refine x_neg ?_ | refine x_if ?_ | refine a_cons ?_ (fun _ => rfl) | refine a_nil ?_ | refine x_tup ?_ | refine x_ix ?_ (fun _ _ => rfl) | refine ix_tup rfl ?_ | refine dats_ex (by first | exact Nat.le_of_ble_eq_true rfl | decide | (simp; done) | (simp <;> omega)) ?_ | refine r_cons ?_ | refine r_nil ?_ | refine s_ret ?_ | refine s_if ?_ | (refine s_st (by first | exact Or.inl rfl | exact Or.inr rfl) (by first | exact Or.inl rfl | exact Or.inr rfl) ?_ (fun _ => rfl)) | (refine s_ag (by first | exact Or.inl rfl | exact Or.inr rfl) (by first | exact Or.inl rfl | exact Or.inr rfl) rfl ?_) | refine s_expr ?_ (fun _ => rfl))
      exact q2 r
    · refine r_nil (r_cons ?_)
      refine s_st (by first | exact Or.inl rfl | exact Or.inr rfl) (by first | exact Or.inl rfl | exact Or.inr rfl) ?_ (fun _ => rfl)
      refine x_bin (x_bin ?_)
      refine x_v rfl (by first | exact Or.inl rfl | exact Or.inr (Or.inl rfl) | exact Or.inr (Or.inr rfl)) ?_
      refine x_bin ?_
      refine x_int ?_
      refine x_count ?_
      refine x_v rfl (by first | exact Or.inl rfl | exact Or.inr (Or.inl rfl) | exact Or.inr (Or.inr rfl)) ?_
      refine ⟨j, i, rfl, hj, fun n => ?_⟩
      repeat (first | refine x_int ?_ | (refine x_v rfl (by first | exact Or.inl rfl | exact Or.inr (Or.inl rfl) | exact Or.inr (Or.inr rfl)) ?_) | (first | refine b_add ?_ | refine b_sub ?_ | refine b_mul (by first | omega | (constructor <;> omega) | exact Or.inl ⟨by omega, by omega⟩ | exact Or.inr ⟨by omega, by omega⟩) ?_ | refine b_div (by first | omega | (constructor <;> omega) | exact Or.inl ⟨by omega, by omega⟩ | exact Or.inr ⟨by omega, by omega⟩) ?_ | refine b_mod (by first | omega | (constructor <;> omega) | exact Or.inl ⟨by omega, by omega⟩ | exact Or.inr ⟨by omega, by omega⟩) ?_ | refine b_strs (by first | omega | (constructor <;> omega) | exact Or.inl ⟨by omega, by omega⟩ | exact Or.inr ⟨by omega, by omega⟩) ?_ | refine b_catT (by first | exact Nat.le_of_ble_eq_true rfl | decide | (simp; done) | (simp <;> omega)) ?_ | refine c_lt ?_ | refine c_le ?_ | refine c_gt ?_ | refine c_ge ?_ | refine c_eqI ?_ | refine c_neI ?_ | refine c_is ?_ | refine c_isnot ?_ | refine c_eqB ?_ | refine c_neB ?_ | refine c_eqS ?_ | refine c_neS ?_ | refine b_iadd ?_ | refine b_isub ?_ | refine b_imul (by first | omega | (constructor <;> omega) | exact Or.inl ⟨by omega, by omega⟩ | exact Or.inr ⟨by omega, by omega⟩) ?_) | refine x_non ?_ | refine x_str ?_ | refine x_bl ?_ | refine x_bin ?_ | refine x_cmp ?_ (by rfl) | refine t_cmp ?_ (by rfl) | refine t_chain ?_ (by with_unfolding_all rfl) | refine x_chain ?_ (by with_unfolding_all rfl) | refine t_not ?_ | refine x_neg ?_ | refine x_if ?_ | refine a_cons ?_ (fun _ => rfl) | refine a_nil ?_ | refine x_tup ?_ | refine x_ix ?_ (fun _ _ => rfl) | refine ix_tup rfl ?_ | refine dats_ex (by first | exact Nat.le_of_ble_eq_true rfl | decide | (simp; done) | (simp <;> omega)) ?_ | refine r_cons ?_ | refine r_nil ?_ | refine s_ret ?_ | refine s_if ?_ | (refine s_st (by first | exact Or.inl rfl | exact Or.inr rfl) (by first | exact Or.inl rfl | exact Or.inr rfl) ?_ (fun _ => rfl)) | (refine s_ag (by first | exact Or.inl rfl | exact Or.inr rfl) (by first | exact Or.inl rfl | exact Or.inr rfl) rfl ?_) | refine s_expr ?_ (fun _ => rfl))
      have b0 : 0 ≤ (r + 104729 * n) % 4294967291 := Int.emod_nonneg _ (by decide)
      have b1 : (r + 104729 * n) % 4294967291 < 4294967291 := Int.emod_lt_of_pos _ (by decide)
      generalize (r + 104729 * n) % 4294967291 = num at b0 b1
      refine b_pow ⟨by decide, by decide, by omega⟩ ?_
      repeat (first | refine x_int ?_ | (refine x_v rfl (by first | exact Or.inl rfl | exact Or.inr (Or.inl rfl) | exact Or.inr (Or.inr rfl)) ?_) | (first | refine b_add ?_ | refine b_sub ?_ | refine b_mul (by first | omega | (constructor <;> omega) | exact Or.inl ⟨by omega, by omega⟩ | exact Or.inr ⟨by omega, by omega⟩) ?_ | refine b_div (by first | omega | (constructor <;> omega) | exact Or.inl ⟨by omega, by omega⟩ | exact Or.inr ⟨by omega, by omega⟩) ?_ | refine b_mod (by first | omega | (constructor <;> omega) | exact Or.inl ⟨by omega, by omega⟩ | exact Or.inr ⟨by omega, by omega⟩) ?_ | refine b_strs (by first | omega | (constructor <;> omega) | exact Or.inl ⟨by omega, by omega⟩ | exact Or.inr ⟨by omega, by omega⟩) ?_ | refine b_catT (by first | exact Nat.le_of_ble_eq_true rfl | decide | (simp; done) | (simp <;> omega)) ?_ | refine c_lt ?_ | refine c_le ?_ | refine c_gt ?_ | refine c_ge ?_ | refine c_eqI ?_ | refine c_neI ?_ | refine c_is ?_ | refine c_isnot ?_ | refine c_eqB ?_ | refine c_neB ?_ | refine c_eqS ?_ | refine c_neS ?_ | refine b_iadd ?_ | refine b_isub ?_ | refine b_imul (by first | omega | (constructor <;> omega) | exact Or.inl ⟨by omega, by omega⟩ | exact Or.inr ⟨by omega, by omega⟩) ?_) | refine x_non ?_ | refine x_str ?_ | refine x_bl ?_ | refine x_bin ?_ | refine x_cmp ?_ (by rfl) | refine t_cmp ?_ (by rfl) | refine t_chain ?_ (by with_unfolding_all rfl) | refine x_chain ?_ (by with_unfolding_all rfl) | refine t_not ?_ | refine x_neg ?_ | refine x_if ?_ | refine a_cons ?_ (fun _ => rfl) | refine a_nil ?_ | refine x_tup ?_ | refine x_ix ?_ (fun _ _ => rfl) | refine ix_tup rfl ?_ | refine dats_ex (by first | exact Nat.le_of_ble_eq_true rfl | decide | (simp; done) | (simp <;> omega)) ?_ | refine r_cons ?_ | refine r_nil ?_ | refine s_ret ?_ | refine s_if ?_ | (refine s_st (by first | exact Or.inl rfl | exact Or.inr rfl) (by first | exact Or.inl rfl | exact Or.inr rfl) ?_ (fun _ => rfl)) | (refine s_ag (by first | exact Or.inl rfl | exact Or.inr rfl) (by first | exact Or.inl rfl | exact Or.inr rfl) rfl ?_) | refine s_expr ?_ (fun _ => rfl))
      have b2 : 0 ≤ num ^ (5 : Int).toNat % 4294967279 := Int.emod_nonneg _ (by decide)
      have b3 : num ^ (5 : Int).toNat % 4294967279 < 4294967279 := Int.emod_lt_of_pos _ (by decide)
      generalize num ^ (5 : Int).toNat % 4294967279 = num2 at b2 b3
      repeat (first | refine x_int ?_ | (refine x_v rfl (by first | exact Or.inl rfl | exact Or.inr (Or.inl rfl) | exact Or.inr (Or.inr rfl)) ?_) | (first | refine b_add ?_ | refine b_sub ?_ | refine b_mul (by first | omega | (constructor <;> omega) | exact Or.inl ⟨by omega, by omega⟩ | exact Or.inr ⟨by omega, by omega⟩) ?_ | refine b_div (by first | omega | (constructor <;> omega) | exact Or.inl ⟨by omega, by omega⟩ | exact Or.inr ⟨by omega, by omega⟩) ?_ | refine b_mod (by first | omega | (constructor <;> omega) | exact Or.inl ⟨by omega, by omega⟩ | exact Or.inr ⟨by omega, by omega⟩) ?_ | refine b_strs (by first | omega | (constructor <;> omega) | exact Or.inl ⟨by omega, by omega⟩ | exact Or.inr ⟨by omega, by omega⟩) ?_ | refine b_catT (by first | exact Nat.le_of_ble_eq_true rfl | decide | (simp; done) | (simp <;> omega)) ?_ | refine c_lt ?_ | refine c_le ?_ | refine c_gt ?_ | refine c_ge ?_ | refine c_eqI ?_ | refine c_neI ?_ | refine c_is ?_ | refine c_isnot ?_ | refine c_eqB ?_ | refine c_neB ?_ | refine c_eqS ?_ | refine c_neS ?_ | refine b_iadd ?_ | refine b_isub ?_ | refine b_imul (by first | omega | (constructor <;> omega) | exact Or.inl ⟨by omega, by omega⟩ | exact Or.inr ⟨by omega, by omega⟩) ?_) | refine x_non ?_ | refine x_str ?_ | refine x_bl ?_ | refine x_bin ?_ | refine x_cmp ?_ (by rfl) | refine t_cmp ?_ (by rfl) | refine t_chain ?_ (by with_unfolding_all rfl) | refine x_chain ?_ (by with_unfolding_all rfl) | refine t_not ?_ | refine x_neg ?_ | refine x_if ?_ | refine a_cons ?_ (fun _ => rfl) | refine a_nil ?_ | refine x_tup ?_ | refine x_ix ?_ (fun _ _ => rfl) | refine ix_tup rfl ?_ | refine dats_ex (by first | exact Nat.le_of_ble_eq_true rfl | decide | (simp; done) | (simp <;> omega)) ?_ | refine r_cons ?_ | refine r_nil ?_ | refine s_ret ?_ | refine s_if ?_ | (refine s_st (by first | exact Or.inl rfl | exact Or.inr rfl) (by first | exact Or.inl rfl | exact Or.inr rfl) ?_ (fun _ => rfl)) | (refine s_ag (by first | exact Or.inl rfl | exact Or.inr rfl) (by first | exact Or.inl rfl | exact Or.inr rfl) rfl ?_) | refine s_expr ?_ (fun _ => rfl))
      exact q2 _
  have rest1 : ∀ at_ : Int, 0 ≤ at_ → at_ < 63 → (ns ≠ [] → at_ < ns.length) → Run (c_law_draw P w K mg base 0) [some (.scr ns), some (.mut j), some (.dat (.int m)), some (.dat (.int at_)), none, none] M ((defBody s_law_draw).drop 2) { nx := fun _ M2 => Fin M Post (.dat .non) M2, rt := Fin M Post } := by
    intro at_ h0 h1 h2
    refine r_cons ?_
    refine s_st (by first | exact Or.inl rfl | exact Or.inr rfl) (by first | exact Or.inl rfl | exact Or.inr rfl) ?_ (fun _ => rfl)
    refine x_rget (x_rests ?_) (fun X => ⟨rfl, rfl, rfl, rfl⟩)
    refine x_v rfl (by first | exact Or.inl rfl | exact Or.inr (Or.inl rfl) | exact Or.inr (Or.inr rfl)) ?_
    refine ⟨j, i, rfl, hj, i, rfl, hi, ?_⟩
    refine x_v rfl (by first | exact Or.inl rfl | exact Or.inr (Or.inl rfl) | exact Or.inr (Or.inr rfl)) ?_
    refine x_if (t_tru ?_ (fun _ _ => rfl))
    refine x_v rfl (by first | exact Or.inl rfl | exact Or.inr (Or.inl rfl) | exact Or.inr (Or.inr rfl)) ?_
    refine ⟨!ns.isEmpty, rfl, fun h => ?_, fun h => ?_⟩
    · have hne : ns ≠ [] := by
        intro e
        rw [e] at h
        cases h
      refine x_ixScr ?_ (fun _ _ => rfl)
      refine x_v rfl (by first | exact Or.inl rfl | exact Or.inr (Or.inl rfl) | exact Or.inr (Or.inr rfl)) ?_
      refine x_v rfl (by first | exact Or.inl rfl | exact Or.inr (Or.inl rfl) | exact Or.inr (Or.inr rfl)) ?_
      have hlt : at_.toNat < ns.length := by have := h2 hne; omega
      refine ⟨ns, at_, ns[at_.toNat], rfl, rfl, ?_, at_, _, rfl, rfl, hi, fun r => rest2 at_ r h0 h1⟩
      have e := atI_nat (List.getElem?_eq_getElem hlt)
      rw [Int.toNat_of_nonneg h0] at e
      exact e
    · refine x_int ?_
      exact ⟨at_, _, rfl, rfl, hi, fun r => rest2 at_ r h0 h1⟩
  refine r_cons (s_count ?_ (fun _ => rfl))
  refine x_bin (x_count ?_)
  refine x_v rfl (by first | exact Or.inl rfl | exact Or.inr (Or.inl rfl) | exact Or.inr (Or.inr rfl)) ?_
  refine ⟨j, i, rfl, hj, fun n => ?_⟩
  repeat (first | refine x_int ?_ | (refine x_v rfl (by first | exact Or.inl rfl | exact Or.inr (Or.inl rfl) | exact Or.inr (Or.inr rfl)) ?_) | (first | refine b_add ?_ | refine b_sub ?_ | refine b_mul (by first | omega | (constructor <;> omega) | exact Or.inl ⟨by omega, by omega⟩ | exact Or.inr ⟨by omega, by omega⟩) ?_ | refine b_div (by first | omega | (constructor <;> omega) | exact Or.inl ⟨by omega, by omega⟩ | exact Or.inr ⟨by omega, by omega⟩) ?_ | refine b_mod (by first | omega | (constructor <;> omega) | exact Or.inl ⟨by omega, by omega⟩ | exact Or.inr ⟨by omega, by omega⟩) ?_ | refine b_strs (by first | omega | (constructor <;> omega) | exact Or.inl ⟨by omega, by omega⟩ | exact Or.inr ⟨by omega, by omega⟩) ?_ | refine b_catT (by first | exact Nat.le_of_ble_eq_true rfl | decide | (simp; done) | (simp <;> omega)) ?_ | refine c_lt ?_ | refine c_le ?_ | refine c_gt ?_ | refine c_ge ?_ | refine c_eqI ?_ | refine c_neI ?_ | refine c_is ?_ | refine c_isnot ?_ | refine c_eqB ?_ | refine c_neB ?_ | refine c_eqS ?_ | refine c_neS ?_ | refine b_iadd ?_ | refine b_isub ?_ | refine b_imul (by first | omega | (constructor <;> omega) | exact Or.inl ⟨by omega, by omega⟩ | exact Or.inr ⟨by omega, by omega⟩) ?_) | refine x_non ?_ | refine x_str ?_ | refine x_bl ?_ | refine x_bin ?_ | refine x_cmp ?_ (by rfl) | refine t_cmp ?_ (by rfl) | refine t_chain ?_ (by with_unfolding_all rfl) | refine x_chain ?_ (by with_unfolding_all rfl) | refine t_not ?_ | refine x_neg ?_ | refine x_if ?_ | refine a_cons ?_ (fun _ => rfl) | refine a_nil ?_ | refine x_tup ?_ | refine x_ix ?_ (fun _ _ => rfl) | refine ix_tup rfl ?_ | refine dats_ex (by first | exact Nat.le_of_ble_eq_true rfl | decide | (simp; done) | (simp <;> omega)) ?_ | refine r_cons ?_ | refine r_nil ?_ | refine s_ret ?_ | refine s_if ?_ | (refine s_st (by first | exact Or.inl rfl | exact Or.inr rfl) (by first | exact Or.inl rfl | exact Or.inr rfl) ?_ (fun _ => rfl)) | (refine s_ag (by first | exact Or.inl rfl | exact Or.inr rfl) (by first | exact Or.inl rfl | exact Or.inr rfl) rfl ?_) | refine s_expr ?_ (fun _ => rfl))
  refine ⟨n + 1, j, i, rfl, rfl, hj, ?_⟩
  refine r_cons ?_
  refine s_st (by first | exact Or.inl rfl | exact Or.inr rfl) (by first | exact Or.inl rfl | exact Or.inr rfl) ?_ (fun _ => rfl)
  refine x_if (t_tru ?_ (fun _ _ => rfl))
  refine x_v rfl (by first | exact Or.inl rfl | exact Or.inr (Or.inl rfl) | exact Or.inr (Or.inr rfl)) ?_
  refine ⟨!ns.isEmpty, rfl, fun h => ?_, fun h => ?_⟩
  · have hlen : 0 < ns.length := by
      cases ns with
      | nil => cases h
      | cons a r => exact Nat.succ_pos _
    refine x_bin (x_count ?_)
    refine x_v rfl (by first | exact Or.inl rfl | exact Or.inr (Or.inl rfl) | exact Or.inr (Or.inr rfl)) ?_
    refine ⟨j, i, rfl, hj, fun n2 => ?_⟩
    refine x_blt rfl T.b_len PySem.boot_len ?_ (fun _ => rfl) (fun _ => rfl)
    repeat (first | refine x_int ?_ | (refine x_v rfl (by first | exact Or.inl rfl | exact Or.inr (Or.inl rfl) | exact Or.inr (Or.inr rfl)) ?_) | (first | refine b_add ?_ | refine b_sub ?_ | refine b_mul (by first | omega | (constructor <;> omega) | exact Or.inl ⟨by omega, by omega⟩ | exact Or.inr ⟨by omega, by omega⟩) ?_ | refine b_div (by first | omega | (constructor <;> omega) | exact Or.inl ⟨by omega, by omega⟩ | exact Or.inr ⟨by omega, by omega⟩) ?_ | refine b_mod (by first | omega | (constructor <;> omega) | exact Or.inl ⟨by omega, by omega⟩ | exact Or.inr ⟨by omega, by omega⟩) ?_ | refine b_strs (by first | omega | (constructor <;> omega) | exact Or.inl ⟨by omega, by omega⟩ | exact Or.inr ⟨by omega, by omega⟩) ?_ | refine b_catT (by first | exact Nat.le_of_ble_eq_true rfl | decide | (simp; done) | (simp <;> omega)) ?_ | refine c_lt ?_ | refine c_le ?_ | refine c_gt ?_ | refine c_ge ?_ | refine c_eqI ?_ | refine c_neI ?_ | refine c_is ?_ | refine c_isnot ?_ | refine c_eqB ?_ | refine c_neB ?_ | refine c_eqS ?_ | refine c_neS ?_ | refine b_iadd ?_ | refine b_isub ?_ | refine b_imul (by first | omega | (constructor <;> omega) | exact Or.inl ⟨by omega, by omega⟩ | exact Or.inr ⟨by omega, by omega⟩) ?_) | refine x_non ?_ | refine x_str ?_ | refine x_bl ?_ | refine x_bin ?_ | refine x_cmp ?_ (by rfl) | refine t_cmp ?_ (by rfl) | refine t_chain ?_ (by with_unfolding_all rfl) | refine x_chain ?_ (by with_unfolding_all rfl) | refine t_not ?_ | refine x_neg ?_ | refine x_if ?_ | refine a_cons ?_ (fun _ => rfl) | refine a_nil ?_ | refine x_tup ?_ | refine x_ix ?_ (fun _ _ => rfl) | refine ix_tup rfl ?_ | refine dats_ex (by first | exact Nat.le_of_ble_eq_true rfl | decide | (simp; done) | (simp <;> omega)) ?_ | refine r_cons ?_ | refine r_nil ?_ | refine s_ret ?_ | refine s_if ?_ | (refine s_st (by first | exact Or.inl rfl | exact Or.inr rfl) (by first | exact Or.inl rfl | exact Or.inr rfl) ?_ (fun _ => rfl)) | (refine s_ag (by first | exact Or.inl rfl | exact Or.inr rfl) (by first | exact Or.inl rfl | exact Or.inr rfl) rfl ?_) | refine s_expr ?_ (fun _ => rfl))
    refine ca_lenScr ?_
    have hp : (0 : Int) < (ns.length : Int) := by omega
    refine b_mod hp ?_
    have hle : (ns.length : Int) ≤ 63 := by omega
    exact rest1 _ (Int.emod_nonneg _ (Int.ne_of_gt hp)) (Int.lt_of_lt_of_le (Int.emod_lt_of_pos n2 hp) hle) (fun _ => Int.emod_lt_of_pos _ hp)
  · have hlen : ns = [] := by
      cases ns with
      | nil => rfl
      | cons a r => cases h
    refine x_int ?_
    exact rest1 0 (by omega) (by omega) (fun e => absurd hlen e)
end
end My

namespace My
open PySem L2 Fx
section
variable {P : Program} {w : World} {K : PySem.W.Frag} {mg : Str → Option Value} {base : Heap}
def A_law_begun : ASp := fun as M Post => as = [] ∧ Post (.mut M.length) (M ++ [.town (M.length + 1), .rests])
theorem d_law_begun (T : Txt K mg) : DefOk P w K mg base lv_law_begun "_law_begun" s_law_begun [] (spOf K 0 A_law_begun) := by
  obtain ⟨fa, fd, hm, F, hb⟩ := T.f_law_begun
  refine ⟨fa, fd, hm, F, hb, fn_mk F sc_law_begun fun as M Post hl hA => ?_⟩
  obtain ⟨rfl, q⟩ := hA
  show Run (c_law_begun P w K mg base _) [] M _ _
  refine r_one (s_ret (x_begun (fin_same q)))
end
end My

namespace My
open PySem L2 Fx
section
variable {P : Program} {w : World} {K : PySem.W.Frag} {mg : Str → Option Value} {base : Heap}
def A_law_a_lot : ASp := fun as M Post => ∃ (ns : List Int) (j i : Nat) (g : Int), as = [.scr ns, .mut j, .dat (.int g)] ∧ ns.length ≤ 63 ∧ M[j]? = some (.town i) ∧ M[i]? = some .rests ∧ 0 < g ∧ g ≤ 1000 ∧
  ∀ m d : Int, 1 ≤ d → d ≤ m → m ≤ g → Post (.dat (tI [m, d])) M
theorem d_law_a_lot (T : Txt K mg) : DefOk P w K mg base lv_law_a_lot "_law_a_lot" s_law_a_lot ps_law_a_lot (spOf K ps_law_a_lot.length A_law_a_lot) := by
  obtain ⟨fa, fd, hm, F, hb⟩ := T.f_law_a_lot
  refine ⟨fa, fd, hm, F, hb, fn_mk F sc_law_a_lot fun as M Post hl hA => ?_⟩
  obtain ⟨ns, j, i, g, rfl, hn, hj, hi, hg, hg2, q⟩ := hA
  show Run (c_law_a_lot P w K mg base _) [some (.scr ns), some (.mut j), some (.dat (.int g)), none] M _ _
  repeat (first | refine x_int ?_ | (refine x_v rfl (by first | exact Or.inl rfl | exact Or.inr (Or.inl rfl) | exact Or.inr (Or.inr rfl)) ?_) | (first | refine b_add ?_ | refine b_sub ?_ | refine b_mul (by first | omega | (constructor <;> omega) | exact Or.inl ⟨by omega, by omega⟩ | exact Or.inr ⟨by omega, by omega⟩) ?_ | refine b_div (by first | omega | (constructor <;> omega) | exact Or.inl ⟨by omega, by omega⟩ | exact Or.inr ⟨by omega, by omega⟩) ?_ | refine b_mod (by first | omega | (constructor <;> omega) | exact Or.inl ⟨by omega, by omega⟩ | exact Or.inr ⟨by omega, by omega⟩) ?_ | refine b_strs (by first | omega | (constructor <;> omega) | exact Or.inl ⟨by omega, by omega⟩ | exact Or.inr ⟨by omega, by omega⟩) ?_ | refine b_catT (by first | exact Nat.le_of_ble_eq_true rfl | decide | (simp; done) | (simp <;> omega)) ?_ | refine c_lt ?_ | refine c_le ?_ | refine c_gt ?_ | refine c_ge ?_ | refine c_eqI ?_ | refine c_neI ?_ | refine c_is ?_ | refine c_isnot ?_ | refine c_eqB ?_ | refine c_neB ?_ | refine c_eqS ?_ | refine c_neS ?_ | refine b_iadd ?_ | refine b_isub ?_ | refine b_imul (by first | omega | (constructor <;> omega) | exact Or.inl ⟨by omega, by omega⟩ | exact Or.inr ⟨by omega, by omega⟩) ?_) | refine x_non ?_ | refine x_str ?_ | refine x_bl ?_ | refine x_bin ?_ | refine x_cmp ?_ (by rfl) | refine t_cmp ?_ (by rfl) | refine t_chain ?_ (by with_unfolding_all rfl) | refine x_chain ?_ (by with_unfolding_all rfl) | refine t_not ?_ | refine x_neg ?_ | refine x_if ?_ | refine a_cons ?_ (fun _ => rfl) | refine a_nil ?_ | refine x_tup ?_ | refine x_ix ?_ (fun _ _ => rfl) | refine ix_tup rfl ?_ | refine dats_ex (by first | exact Nat.le_of_ble_eq_true rfl | decide | (simp; done) | (simp <;> omega)) ?_ | refine r_cons ?_ | refine r_nil ?_ | refine s_ret ?_ | refine s_if ?_ | (refine s_st (by first | exact Or.inl rfl | exact Or.inr rfl) (by first | exact Or.inl rfl | exact Or.inr rfl) ?_ (fun _ => rfl)) | (refine s_ag (by first | exact Or.inl rfl | exact Or.inr rfl) (by first | exact Or.inl rfl | exact Or.inr rfl) rfl ?_) | refine s_expr ?_ (fun _ => rfl))
  refine x_call (d_law_draw T) (Nat.le_of_ble_eq_true rfl) rfl ?_ (fun _ => rfl) (fun _ => rfl)
  repeat (first | refine x_int ?_ | (refine x_v rfl (by first | exact Or.inl rfl | exact Or.inr (Or.inl rfl) | exact Or.inr (Or.inr rfl)) ?_) | (first | refine b_add ?_ | refine b_sub ?_ | refine b_mul (by first | omega | (constructor <;> omega) | exact Or.inl ⟨by omega, by omega⟩ | exact Or.inr ⟨by omega, by omega⟩) ?_ | refine b_div (by first | omega | (constructor <;> omega) | exact Or.inl ⟨by omega, by omega⟩ | exact Or.inr ⟨by omega, by omega⟩) ?_ | refine b_mod (by first | omega | (constructor <;> omega) | exact Or.inl ⟨by omega, by omega⟩ | exact Or.inr ⟨by omega, by omega⟩) ?_ | refine b_strs (by first | omega | (constructor <;> omega) | exact Or.inl ⟨by omega, by omega⟩ | exact Or.inr ⟨by omega, by omega⟩) ?_ | refine b_catT (by first | exact Nat.le_of_ble_eq_true rfl | decide | (simp; done) | (simp <;> omega)) ?_ | refine c_lt ?_ | refine c_le ?_ | refine c_gt ?_ | refine c_ge ?_ | refine c_eqI ?_ | refine c_neI ?_ | refine c_is ?_ | refine c_isnot ?_ | refine c_eqB ?_ | refine c_neB ?_ | refine c_eqS ?_ | refine c_neS ?_ | refine b_iadd ?_ | refine b_isub ?_ | refine b_imul (by first | omega | (constructor <;> omega) | exact Or.inl ⟨by omega, by omega⟩ | exact Or.inr ⟨by omega, by omega⟩) ?_) | refine x_non ?_ | refine x_str ?_ | refine x_bl ?_ | refine x_bin ?_ | refine x_cmp ?_ (by rfl) | refine t_cmp ?_ (by rfl) | refine t_chain ?_ (by with_unfolding_all rfl) | refine x_chain ?_ (by with_unfolding_all rfl) | refine t_not ?_ | refine x_neg ?_ | refine x_if ?_ | refine a_cons ?_ (fun _ => rfl) | refine a_nil ?_ | refine x_tup ?_ | refine x_ix ?_ (fun _ _ => rfl) | refine ix_tup rfl ?_ | refine dats_ex (by first | exact Nat.le_of_ble_eq_true rfl | decide | (simp; done) | (simp <;> omega)) ?_ | refine r_cons ?_ | refine r_nil ?_ | refine s_ret ?_ | refine s_if ?_ | (refine s_st (by first | exact Or.inl rfl | exact Or.inr rfl) (by first | exact Or.inl rfl | exact Or.inr rfl) ?_ (fun _ => rfl)) | (refine s_ag (by first | exact Or.inl rfl | exact Or.inr rfl) (by first | exact Or.inl rfl | exact Or.inr rfl) rfl ?_) | refine s_expr ?_ (fun _ => rfl))
  refine ⟨rfl, ns, j, i, g, rfl, hn, hj, hi, hg, by omega, fun r h0 h1 => ?_⟩
  repeat (first | refine x_int ?_ | (refine x_v rfl (by first | exact Or.inl rfl | exact Or.inr (Or.inl rfl) | exact Or.inr (Or.inr rfl)) ?_) | (first | refine b_add ?_ | refine b_sub ?_ | refine b_mul (by first | omega | (constructor <;> omega) | exact Or.inl ⟨by omega, by omega⟩ | exact Or.inr ⟨by omega, by omega⟩) ?_ | refine b_div (by first | omega | (constructor <;> omega) | exact Or.inl ⟨by omega, by omega⟩ | exact Or.inr ⟨by omega, by omega⟩) ?_ | refine b_mod (by first | omega | (constructor <;> omega) | exact Or.inl ⟨by omega, by omega⟩ | exact Or.inr ⟨by omega, by omega⟩) ?_ | refine b_strs (by first | omega | (constructor <;> omega) | exact Or.inl ⟨by omega, by omega⟩ | exact Or.inr ⟨by omega, by omega⟩) ?_ | refine b_catT (by first | exact Nat.le_of_ble_eq_true rfl | decide | (simp; done) | (simp <;> omega)) ?_ | refine c_lt ?_ | refine c_le ?_ | refine c_gt ?_ | refine c_ge ?_ | refine c_eqI ?_ | refine c_neI ?_ | refine c_is ?_ | refine c_isnot ?_ | refine c_eqB ?_ | refine c_neB ?_ | refine c_eqS ?_ | refine c_neS ?_ | refine b_iadd ?_ | refine b_isub ?_ | refine b_imul (by first | omega | (constructor <;> omega) | exact Or.inl ⟨by omega, by omega⟩ | exact Or.inr ⟨by omega, by omega⟩) ?_) | refine x_non ?_ | refine x_str ?_ | refine x_bl ?_ | refine x_bin ?_ | refine x_cmp ?_ (by rfl) | refine t_cmp ?_ (by rfl) | refine t_chain ?_ (by with_unfolding_all rfl) | refine x_chain ?_ (by with_unfolding_all rfl) | refine t_not ?_ | refine x_neg ?_ | refine x_if ?_ | refine a_cons ?_ (fun _ => rfl) | refine a_nil ?_ | refine x_tup ?_ | refine x_ix ?_ (fun _ _ => rfl) | refine ix_tup rfl ?_ | refine dats_ex (by first | exact Nat.le_of_ble_eq_true rfl | decide | (simp; done) | (simp <;> omega)) ?_ | refine r_cons ?_ | refine r_nil ?_ | refine s_ret ?_ | refine s_if ?_ | (refine s_st (by first | exact Or.inl rfl | exact Or.inr rfl) (by first | exact Or.inl rfl | exact Or.inr rfl) ?_ (fun _ => rfl)) | (refine s_ag (by first | exact Or.inl rfl | exact Or.inr rfl) (by first | exact Or.inl rfl | exact Or.inr rfl) rfl ?_) | refine s_expr ?_ (fun _ => rfl))
  refine x_call (d_law_draw T) (Nat.le_of_ble_eq_true rfl) rfl ?_ (fun _ => rfl) (fun _ => rfl)
  repeat (first | refine x_int ?_ | (refine x_v rfl (by first | exact Or.inl rfl | exact Or.inr (Or.inl rfl) | exact Or.inr (Or.inr rfl)) ?_) | (first | refine b_add ?_ | refine b_sub ?_ | refine b_mul (by first | omega | (constructor <;> omega) | exact Or.inl ⟨by omega, by omega⟩ | exact Or.inr ⟨by omega, by omega⟩) ?_ | refine b_div (by first | omega | (constructor <;> omega) | exact Or.inl ⟨by omega, by omega⟩ | exact Or.inr ⟨by omega, by omega⟩) ?_ | refine b_mod (by first | omega | (constructor <;> omega) | exact Or.inl ⟨by omega, by omega⟩ | exact Or.inr ⟨by omega, by omega⟩) ?_ | refine b_strs (by first | omega | (constructor <;> omega) | exact Or.inl ⟨by omega, by omega⟩ | exact Or.inr ⟨by omega, by omega⟩) ?_ | refine b_catT (by first | exact Nat.le_of_ble_eq_true rfl | decide | (simp; done) | (simp <;> omega)) ?_ | refine c_lt ?_ | refine c_le ?_ | refine c_gt ?_ | refine c_ge ?_ | refine c_eqI ?_ | refine c_neI ?_ | refine c_is ?_ | refine c_isnot ?_ | refine c_eqB ?_ | refine c_neB ?_ | refine c_eqS ?_ | refine c_neS ?_ | refine b_iadd ?_ | refine b_isub ?_ | refine b_imul (by first | omega | (constructor <;> omega) | exact Or.inl ⟨by omega, by omega⟩ | exact Or.inr ⟨by omega, by omega⟩) ?_) | refine x_non ?_ | refine x_str ?_ | refine x_bl ?_ | refine x_bin ?_ | refine x_cmp ?_ (by rfl) | refine t_cmp ?_ (by rfl) | refine t_chain ?_ (by with_unfolding_all rfl) | refine x_chain ?_ (by with_unfolding_all rfl) | refine t_not ?_ | refine x_neg ?_ | refine x_if ?_ | refine a_cons ?_ (fun _ => rfl) | refine a_nil ?_ | refine x_tup ?_ | refine x_ix ?_ (fun _ _ => rfl) | refine ix_tup rfl ?_ | refine dats_ex (by first | exact Nat.le_of_ble_eq_true rfl | decide | (simp; done) | (simp <;> omega)) ?_ | refine r_cons ?_ | refine r_nil ?_ | refine s_ret ?_ | refine s_if ?_ | (refine s_st (by first | exact Or.inl rfl | exact Or.inr rfl) (by first | exact Or.inl rfl | exact Or.inr rfl) ?_ (fun _ => rfl)) | (refine s_ag (by first | exact Or.inl rfl | exact Or.inr rfl) (by first | exact Or.inl rfl | exact Or.inr rfl) rfl ?_) | refine s_expr ?_ (fun _ => rfl))
  refine ⟨rfl, ns, j, i, 1 + r, rfl, hn, hj, hi, by omega, by omega, fun r2 h2 h3 => ?_⟩
  repeat (first | refine x_int ?_ | (refine x_v rfl (by first | exact Or.inl rfl | exact Or.inr (Or.inl rfl) | exact Or.inr (Or.inr rfl)) ?_) | (first | refine b_add ?_ | refine b_sub ?_ | refine b_mul (by first | omega | (constructor <;> omega) | exact Or.inl ⟨by omega, by omega⟩ | exact Or.inr ⟨by omega, by omega⟩) ?_ | refine b_div (by first | omega | (constructor <;> omega) | exact Or.inl ⟨by omega, by omega⟩ | exact Or.inr ⟨by omega, by omega⟩) ?_ | refine b_mod (by first | omega | (constructor <;> omega) | exact Or.inl ⟨by omega, by omega⟩ | exact Or.inr ⟨by omega, by omega⟩) ?_ | refine b_strs (by first | omega | (constructor <;> omega) | exact Or.inl ⟨by omega, by omega⟩ | exact Or.inr ⟨by omega, by omega⟩) ?_ | refine b_catT (by first | exact Nat.le_of_ble_eq_true rfl | decide | (simp; done) | (simp <;> omega)) ?_ | refine c_lt ?_ | refine c_le ?_ | refine c_gt ?_ | refine c_ge ?_ | refine c_eqI ?_ | refine c_neI ?_ | refine c_is ?_ | refine c_isnot ?_ | refine c_eqB ?_ | refine c_neB ?_ | refine c_eqS ?_ | refine c_neS ?_ | refine b_iadd ?_ | refine b_isub ?_ | refine b_imul (by first | omega | (constructor <;> omega) | exact Or.inl ⟨by omega, by omega⟩ | exact Or.inr ⟨by omega, by omega⟩) ?_) | refine x_non ?_ | refine x_str ?_ | refine x_bl ?_ | refine x_bin ?_ | refine x_cmp ?_ (by rfl) | refine t_cmp ?_ (by rfl) | refine t_chain ?_ (by with_unfolding_all rfl) | refine x_chain ?_ (by with_unfolding_all rfl) | refine t_not ?_ | refine x_neg ?_ | refine x_if ?_ | refine a_cons ?_ (fun _ => rfl) | refine a_nil ?_ | refine x_tup ?_ | refine x_ix ?_ (fun _ _ => rfl) | refine ix_tup rfl ?_ | refine dats_ex (by first | exact Nat.le_of_ble_eq_true rfl | decide | (simp; done) | (simp <;> omega)) ?_ | refine r_cons ?_ | refine r_nil ?_ | refine s_ret ?_ | refine s_if ?_ | (refine s_st (by first | exact Or.inl rfl | exact Or.inr rfl) (by first | exact Or.inl rfl | exact Or.inr rfl) ?_ (fun _ => rfl)) | (refine s_ag (by first | exact Or.inl rfl | exact Or.inr rfl) (by first | exact Or.inl rfl | exact Or.inr rfl) rfl ?_) | refine s_expr ?_ (fun _ => rfl))
  exact fin_same (q (1 + r) (1 + r2) (by omega) (by omega) (by omega))
end
end My

namespace My
open PySem L2 Fx
section
variable {P : Program} {w : World} {K : PySem.W.Frag} {mg : Str → Option Value} {base : Heap}
def A_law_a_row : ASp := fun as M Post => ∃ (ns : List Int) (j i : Nat) (m : Int) (z : Nat), as = [.scr ns, .mut j, .dat (.int m), .dat (.int z)] ∧ ns.length ≤ 63 ∧ M[j]? = some (.town i) ∧ M[i]? = some .rests ∧ 0 ≤ m ∧ m ≤ 60 ∧ z ≤ m ∧
  ∀ r : List Int, Row m r → r.length = z → Post (.dat (tI r)) M
theorem erase_map {α β : Type} (f : α → β) : ∀ (l : List α) (i : Nat), (l.map f).eraseIdx i = (l.eraseIdx i).map f
  | [], _ => rfl
  | _ :: _, 0 => rfl
  | x :: l, i + 1 => congrArg (f x :: ·) (erase_map f l i)
theorem d_law_a_row (T : Txt K mg) : DefOk P w K mg base lv_law_a_row "_law_a_row" s_law_a_row ps_law_a_row (spOf K ps_law_a_row.length A_law_a_row) := by
  obtain ⟨fa, fd, hm, F, hb⟩ := T.f_law_a_row
  refine ⟨fa, fd, hm, F, hb, fn_mk F sc_law_a_row fun as M Post hl hA => ?_⟩
  obtain ⟨ns, j, i, m, z, rfl, hn, hj, hi, hm0, hm1, hz, q⟩ := hA
  show Run (c_law_a_row P w K mg base _) [some (.scr ns), some (.mut j), some (.dat (.int m)), some (.dat (.int z)), none, none, none] M _ _
  have jl : j < M.length := (List.getElem?_eq_some_iff.mp hj).1
  have il : i < M.length := (List.getElem?_eq_some_iff.mp hi).1
  refine r_cons ?_
  refine s_p2 (by decide) rfl rfl ?_ (swaps_of fun _ => rfl) (fun _ => rfl)
  refine a_cons ?_ (fun _ => rfl)
  refine x_N (f_lrg T.b_list rfl (rg_2 T.b_range rfl ?_ (fun _ => rfl) (fun _ => rfl) (fun _ => rfl)) (fun _ => rfl))
  repeat (first | refine x_int ?_ | (refine x_v rfl (by first | exact Or.inl rfl | exact Or.inr (Or.inl rfl) | exact Or.inr (Or.inr rfl)) ?_) | (first | refine b_add ?_ | refine b_sub ?_ | refine b_mul (by first | omega | (constructor <;> omega) | exact Or.inl ⟨by omega, by omega⟩ | exact Or.inr ⟨by omega, by omega⟩) ?_ | refine b_div (by first | omega | (constructor <;> omega) | exact Or.inl ⟨by omega, by omega⟩ | exact Or.inr ⟨by omega, by omega⟩) ?_ | refine b_mod (by first | omega | (constructor <;> omega) | exact Or.inl ⟨by omega, by omega⟩ | exact Or.inr ⟨by omega, by omega⟩) ?_ | refine b_strs (by first | omega | (constructor <;> omega) | exact Or.inl ⟨by omega, by omega⟩ | exact Or.inr ⟨by omega, by omega⟩) ?_ | refine b_catT (by first | exact Nat.le_of_ble_eq_true rfl | decide | (simp; done) | (simp <;> omega)) ?_ | refine c_lt ?_ | refine c_le ?_ | refine c_gt ?_ | refine c_ge ?_ | refine c_eqI ?_ | refine c_neI ?_ | refine c_is ?_ | refine c_isnot ?_ | refine c_eqB ?_ | refine c_neB ?_ | refine c_eqS ?_ | refine c_neS ?_ | refine b_iadd ?_ | refine b_isub ?_ | refine b_imul (by first | omega | (constructor <;> omega) | exact Or.inl ⟨by omega, by omega⟩ | exact Or.inr ⟨by omega, by omega⟩) ?_) | refine x_non ?_ | refine x_str ?_ | refine x_bl ?_ | refine x_bin ?_ | refine x_cmp ?_ (by rfl) | refine t_cmp ?_ (by rfl) | refine t_chain ?_ (by with_unfolding_all rfl) | refine x_chain ?_ (by with_unfolding_all rfl) | refine t_not ?_ | refine x_neg ?_ | refine x_if ?_ | refine a_cons ?_ (fun _ => rfl) | refine a_nil ?_ | refine x_tup ?_ | refine x_ix ?_ (fun _ _ => rfl) | refine ix_tup rfl ?_ | refine dats_ex (by first | exact Nat.le_of_ble_eq_true rfl | decide | (simp; done) | (simp <;> omega)) ?_ | refine r_cons ?_ | refine r_nil ?_ | refine s_ret ?_ | refine s_if ?_ | (refine s_st (by first | exact Or.inl rfl | exact Or.inr rfl) (by first | exact Or.inl rfl | exact Or.inr rfl) ?_ (fun _ => rfl)) | (refine s_ag (by first | exact Or.inl rfl | exact Or.inr rfl) (by first | exact Or.inl rfl | exact Or.inr rfl) rfl ?_) | refine s_expr ?_ (fun _ => rfl))
  refine ⟨1, m + 1, rfl, rfl, ⟨by omega, by omega, by omega, by omega⟩, ?_⟩
  refine a_cons ?_ (fun _ => rfl)
  refine x_N (f_lst ?_)
  repeat (first | refine x_int ?_ | (refine x_v rfl (by first | exact Or.inl rfl | exact Or.inr (Or.inl rfl) | exact Or.inr (Or.inr rfl)) ?_) | (first | refine b_add ?_ | refine b_sub ?_ | refine b_mul (by first | omega | (constructor <;> omega) | exact Or.inl ⟨by omega, by omega⟩ | exact Or.inr ⟨by omega, by omega⟩) ?_ | refine b_div (by first | omega | (constructor <;> omega) | exact Or.inl ⟨by omega, by omega⟩ | exact Or.inr ⟨by omega, by omega⟩) ?_ | refine b_mod (by first | omega | (constructor <;> omega) | exact Or.inl ⟨by omega, by omega⟩ | exact Or.inr ⟨by omega, by omega⟩) ?_ | refine b_strs (by first | omega | (constructor <;> omega) | exact Or.inl ⟨by omega, by omega⟩ | exact Or.inr ⟨by omega, by omega⟩) ?_ | refine b_catT (by first | exact Nat.le_of_ble_eq_true rfl | decide | (simp; done) | (simp <;> omega)) ?_ | refine c_lt ?_ | refine c_le ?_ | refine c_gt ?_ | refine c_ge ?_ | refine c_eqI ?_ | refine c_neI ?_ | refine c_is ?_ | refine c_isnot ?_ | refine c_eqB ?_ | refine c_neB ?_ | refine c_eqS ?_ | refine c_neS ?_ | refine b_iadd ?_ | refine b_isub ?_ | refine b_imul (by first | omega | (constructor <;> omega) | exact Or.inl ⟨by omega, by omega⟩ | exact Or.inr ⟨by omega, by omega⟩) ?_) | refine x_non ?_ | refine x_str ?_ | refine x_bl ?_ | refine x_bin ?_ | refine x_cmp ?_ (by rfl) | refine t_cmp ?_ (by rfl) | refine t_chain ?_ (by with_unfolding_all rfl) | refine x_chain ?_ (by with_unfolding_all rfl) | refine t_not ?_ | refine x_neg ?_ | refine x_if ?_ | refine a_cons ?_ (fun _ => rfl) | refine a_nil ?_ | refine x_tup ?_ | refine x_ix ?_ (fun _ _ => rfl) | refine ix_tup rfl ?_ | refine dats_ex (by first | exact Nat.le_of_ble_eq_true rfl | decide | (simp; done) | (simp <;> omega)) ?_ | refine r_cons ?_ | refine r_nil ?_ | refine s_ret ?_ | refine s_if ?_ | (refine s_st (by first | exact Or.inl rfl | exact Or.inr rfl) (by first | exact Or.inl rfl | exact Or.inr rfl) ?_ (fun _ => rfl)) | (refine s_ag (by first | exact Or.inl rfl | exact Or.inr rfl) (by first | exact Or.inl rfl | exact Or.inr rfl) rfl ?_) | refine s_expr ?_ (fun _ => rfl))
  refine ⟨_, _, rfl, ?_⟩
  refine r_cons ?_
  refine s_for (i_rng1 T.b_range rfl ?_ (fun _ => rfl)) (fun _ _ => rfl)
  repeat (first | refine x_int ?_ | (refine x_v rfl (by first | exact Or.inl rfl | exact Or.inr (Or.inl rfl) | exact Or.inr (Or.inr rfl)) ?_) | (first | refine b_add ?_ | refine b_sub ?_ | refine b_mul (by first | omega | (constructor <;> omega) | exact Or.inl ⟨by omega, by omega⟩ | exact Or.inr ⟨by omega, by omega⟩) ?_ | refine b_div (by first | omega | (constructor <;> omega) | exact Or.inl ⟨by omega, by omega⟩ | exact Or.inr ⟨by omega, by omega⟩) ?_ | refine b_mod (by first | omega | (constructor <;> omega) | exact Or.inl ⟨by omega, by omega⟩ | exact Or.inr ⟨by omega, by omega⟩) ?_ | refine b_strs (by first | omega | (constructor <;> omega) | exact Or.inl ⟨by omega, by omega⟩ | exact Or.inr ⟨by omega, by omega⟩) ?_ | refine b_catT (by first | exact Nat.le_of_ble_eq_true rfl | decide | (simp; done) | (simp <;> omega)) ?_ | refine c_lt ?_ | refine c_le ?_ | refine c_gt ?_ | refine c_ge ?_ | refine c_eqI ?_ | refine c_neI ?_ | refine c_is ?_ | refine c_isnot ?_ | refine c_eqB ?_ | refine c_neB ?_ | refine c_eqS ?_ | refine c_neS ?_ | refine b_iadd ?_ | refine b_isub ?_ | refine b_imul (by first | omega | (constructor <;> omega) | exact Or.inl ⟨by omega, by omega⟩ | exact Or.inr ⟨by omega, by omega⟩) ?_) | refine x_non ?_ | refine x_str ?_ | refine x_bl ?_ | refine x_bin ?_ | refine x_cmp ?_ (by rfl) | refine t_cmp ?_ (by rfl) | refine t_chain ?_ (by with_unfolding_all rfl) | refine x_chain ?_ (by with_unfolding_all rfl) | refine t_not ?_ | refine x_neg ?_ | refine x_if ?_ | refine a_cons ?_ (fun _ => rfl) | refine a_nil ?_ | refine x_tup ?_ | refine x_ix ?_ (fun _ _ => rfl) | refine ix_tup rfl ?_ | refine dats_ex (by first | exact Nat.le_of_ble_eq_true rfl | decide | (simp; done) | (simp <;> omega)) ?_ | refine r_cons ?_ | refine r_nil ?_ | refine s_ret ?_ | refine s_if ?_ | (refine s_st (by first | exact Or.inl rfl | exact Or.inr rfl) (by first | exact Or.inl rfl | exact Or.inr rfl) ?_ (fun _ => rfl)) | (refine s_ag (by first | exact Or.inl rfl | exact Or.inr rfl) (by first | exact Or.inl rfl | exact Or.inr rfl) rfl ?_) | refine s_expr ?_ (fun _ => rfl))
  refine ⟨z, rfl, by omega, by omega, fun a δ M2 => ∃ L F : List Int, (L ++ F).Perm (rg 1 (m + 1)) ∧ F.length = a ∧ (∃ z1, δ = [some (.scr ns), some (.mut j), some (.dat (.int m)), some (.dat (.int z)), some (.mut M.length), some (.mut (M.length + 1)), z1]) ∧
    M2 = M ++ [.lst (L.map D.int)] ++ [.lst (F.map D.int)], ⟨rg 1 (m + 1), [], by rw [List.append_nil], rfl, ⟨none, ?_⟩, ?_⟩, fun i δ M2 _ j e => (by cases e), ?_, ?_⟩
  · rw [List.length_append]
    rfl
  · rw [rgD_eq]
    rfl
  · rintro a d δ M2 ha ⟨L, F, hp, hF, ⟨z1, rfl⟩, rfl⟩
    obtain ⟨h2, rfl⟩ := rg0_get ha
    have hLl : L.length + F.length = m.toNat := by
      have := hp.length_eq
      rw [List.length_append, rg_len] at this
      omega
    have g1 : (M ++ [MO.lst (L.map D.int)] ++ [.lst (F.map D.int)])[M.length]? = some (.lst (L.map D.int)) := by
      rw [List.append_assoc, List.getElem?_append_right (Nat.le_refl _), Nat.sub_self]
      rfl
    refine gx_n (by first | exact Or.inl rfl | exact Or.inr rfl) (by first | exact Or.inl rfl | exact Or.inr rfl) ?_
    refine r_one (s_expr ?_ (fun _ => rfl))
    refine x_lm PySem.F.slot_list_append PySem.F.type_list_append ?_ (fun _ => rfl) (fun _ => rfl) rfl (fun _ => rfl) (fun _ => rfl)
    refine x_v rfl (by first | exact Or.inl rfl | exact Or.inr (Or.inl rfl) | exact Or.inr (Or.inr rfl)) ?_
    refine ⟨M.length + 1, F.map D.int, rfl, ?_, ?_⟩
    · rw [List.getElem?_append_right (by rw [List.length_append]; exact Nat.le_refl _), List.length_append]
      simp
    refine a_cons ?_ (fun _ => rfl)
    refine x_lm PySem.F.slot_list_pop PySem.F.type_list_pop ?_ (fun _ => rfl) (fun _ => rfl) rfl (fun _ => rfl) (fun _ => rfl)
    refine x_v rfl (by first | exact Or.inl rfl | exact Or.inr (Or.inl rfl) | exact Or.inr (Or.inr rfl)) ?_
    refine ⟨M.length, L.map D.int, rfl, g1, ?_⟩
    refine a_cons ?_ (fun _ => rfl)
    refine x_call (d_law_draw T) (Nat.le_of_ble_eq_true rfl) rfl ?_ (fun _ => rfl) (fun _ => rfl)
    refine a_cons ?_ (fun _ => rfl)
    refine x_v rfl (by first | exact Or.inl rfl | exact Or.inr (Or.inl rfl) | exact Or.inr (Or.inr rfl)) ?_
    refine a_cons ?_ (fun _ => rfl)
    refine x_v rfl (by first | exact Or.inl rfl | exact Or.inr (Or.inl rfl) | exact Or.inr (Or.inr rfl)) ?_
    refine a_cons ?_ (fun _ => rfl)
    refine x_blt rfl T.b_len PySem.boot_len ?_ (fun _ => rfl) (fun _ => rfl)
    refine a_cons ?_ (fun _ => rfl)
    refine x_v rfl (by first | exact Or.inl rfl | exact Or.inr (Or.inl rfl) | exact Or.inr (Or.inr rfl)) ?_
    refine a_nil (ca_len (isS_mut g1) (a_nil ?_))
    rw [List.length_map]
    refine ⟨rfl, ns, j, i, L.length, rfl, hn, ?_, ?_, by omega, by omega, fun r h3 h4 => ?_⟩
    · rw [List.append_assoc, List.getElem?_append_left jl]; exact hj
    · rw [List.append_assoc, List.getElem?_append_left il]; exact hi
    obtain ⟨rn, rfl⟩ : ∃ rn : Nat, r = (rn : Int) := ⟨r.toNat, by omega⟩
    have hr : rn < L.length := by omega
    refine a_nil (me_popAt (d := D.int L[rn]) g1 (by rw [List.getElem?_map, List.getElem?_eq_getElem hr]; rfl) (by rw [List.length_map]; omega) ?_)
    have e1 : (M ++ [MO.lst (L.map D.int)] ++ [MO.lst (F.map D.int)]).set M.length (MO.lst ((L.map D.int).eraseIdx rn)) = M ++ [MO.lst ((L.eraseIdx rn).map D.int)] ++ [MO.lst (F.map D.int)] := by
      rw [List.append_assoc, List.set_append_right _ _ (Nat.le_refl _), Nat.sub_self, erase_map, List.append_assoc]
      rfl
    rw [e1]
    have l1 : M.length + 1 = (M ++ [MO.lst ((L.eraseIdx rn).map D.int)]).length := by rw [List.length_append]; rfl
    refine a_nil (me_append (ds := F.map D.int) ?_ (by rw [List.length_map]; omega) ?_)
    · rw [l1]
      exact get_push
    rw [l1, set_push]
    refine ⟨L.eraseIdx rn, F ++ [L[rn]], ?_, by rw [List.length_append, hF]; rfl, ⟨some (.dat (.int (a : Nat))), ?_⟩, ?_⟩
    · exact (take_drop_perm (List.getElem?_eq_getElem hr) F).trans hp
    · rw [← l1]
      rfl
    · rw [List.map_append]
      rfl
  · rintro δ M2 ⟨L, F, hp, hF, ⟨z1, rfl⟩, rfl⟩
    rw [rg0_len] at hF
    refine r_one (s_ret ?_)
    refine x_ty rfl T.b_tuple PyProof.Rows.boot_tuple ?_ (fun _ => rfl) (fun _ => rfl)
    refine a_cons ?_ (fun _ => rfl)
    refine x_F ?_
    refine f_blt rfl T.b_sorted PyProof.Rows.boot_sorted ?_ (fun _ => rfl) (fun _ => rfl)
    refine a_cons ?_ (fun _ => rfl)
    refine x_v rfl (by first | exact Or.inl rfl | exact Or.inr (Or.inl rfl) | exact Or.inr (Or.inr rfl)) ?_
    have hFl : F.length ≤ m.toNat := by
      have := hp.length_eq
      rw [List.length_append, rg_len] at this
      omega
    refine a_nil (cf_sorted (ns := F) (isL_mut ?_) (by omega) fun ns' h1 h2 => ?_)
    · rw [show M.length + 1 = (M ++ [MO.lst (L.map D.int)]).length by rw [List.length_append]; rfl]
      exact get_push
    refine a_nil (ca_tuple isS_ls ?_)
    rw [List.append_assoc]
    exact fin_dat (q ns' (row_of h1 h2 hp) (by rw [h1.length_eq, hF]; omega))
end
end My

namespace My
open PySem L2 Fx
section
variable {P : Program} {w : World} {K : PySem.W.Frag} {mg : Str → Option Value} {base : Heap}
def A_law_a_book : ASp := fun as M Post => ∃ (ns : List Int) (j i : Nat) (m g : Int), as = [.scr ns, .mut j, .dat (.int m), .dat (.int g)] ∧ ns.length ≤ 63 ∧ M[j]? = some (.town i) ∧ M[i]? = some .rests ∧ 1 ≤ m ∧ m ≤ 60 ∧ 0 ≤ g ∧ g ≤ 1000 ∧
  ∀ b : List (List Int), Book m b → (b.length : Int) ≤ g → Post (.dat (tII b)) M
theorem d_law_a_book (T : Txt K mg) : DefOk P w K mg base lv_law_a_book "_law_a_book" s_law_a_book ps_law_a_book (spOf K ps_law_a_book.length A_law_a_book) := by
  obtain ⟨fa, fd, hm, F, hb⟩ := T.f_law_a_book
  refine ⟨fa, fd, hm, F, hb, fn_mk F sc_law_a_book fun as M Post hl hA => ?_⟩
  obtain ⟨ns, j, i, m, g, rfl, hn, hj, hi, hm0, hm1, hg0, hg1, q⟩ := hA
  show Run (c_law_a_book P w K mg base _) [some (.scr ns), some (.mut j), some (.dat (.int m)), some (.dat (.int g)), none, none] M _ _
  refine r_cons ?_
  refine s_st (by first | exact Or.inl rfl | exact Or.inr rfl) (by first | exact Or.inl rfl | exact Or.inr rfl) ?_ (fun _ => rfl)
  repeat (first | refine x_int ?_ | (refine x_v rfl (by first | exact Or.inl rfl | exact Or.inr (Or.inl rfl) | exact Or.inr (Or.inr rfl)) ?_) | (first | refine b_add ?_ | refine b_sub ?_ | refine b_mul (by first | omega | (constructor <;> omega) | exact Or.inl ⟨by omega, by omega⟩ | exact Or.inr ⟨by omega, by omega⟩) ?_ | refine b_div (by first | omega | (constructor <;> omega) | exact Or.inl ⟨by omega, by omega⟩ | exact Or.inr ⟨by omega, by omega⟩) ?_ | refine b_mod (by first | omega | (constructor <;> omega) | exact Or.inl ⟨by omega, by omega⟩ | exact Or.inr ⟨by omega, by omega⟩) ?_ | refine b_strs (by first | omega | (constructor <;> omega) | exact Or.inl ⟨by omega, by omega⟩ | exact Or.inr ⟨by omega, by omega⟩) ?_ | refine b_catT (by first | exact Nat.le_of_ble_eq_true rfl | decide | (simp; done) | (simp <;> omega)) ?_ | refine c_lt ?_ | refine c_le ?_ | refine c_gt ?_ | refine c_ge ?_ | refine c_eqI ?_ | refine c_neI ?_ | refine c_is ?_ | refine c_isnot ?_ | refine c_eqB ?_ | refine c_neB ?_ | refine c_eqS ?_ | refine c_neS ?_ | refine b_iadd ?_ | refine b_isub ?_ | refine b_imul (by first | omega | (constructor <;> omega) | exact Or.inl ⟨by omega, by omega⟩ | exact Or.inr ⟨by omega, by omega⟩) ?_) | refine x_non ?_ | refine x_str ?_ | refine x_bl ?_ | refine x_bin ?_ | refine x_cmp ?_ (by rfl) | refine t_cmp ?_ (by rfl) | refine t_chain ?_ (by with_unfolding_all rfl) | refine x_chain ?_ (by with_unfolding_all rfl) | refine t_not ?_ | refine x_neg ?_ | refine x_if ?_ | refine a_cons ?_ (fun _ => rfl) | refine a_nil ?_ | refine x_tup ?_ | refine x_ix ?_ (fun _ _ => rfl) | refine ix_tup rfl ?_ | refine dats_ex (by first | exact Nat.le_of_ble_eq_true rfl | decide | (simp; done) | (simp <;> omega)) ?_ | refine r_cons ?_ | refine r_nil ?_ | refine s_ret ?_ | refine s_if ?_ | (refine s_st (by first | exact Or.inl rfl | exact Or.inr rfl) (by first | exact Or.inl rfl | exact Or.inr rfl) ?_ (fun _ => rfl)) | (refine s_ag (by first | exact Or.inl rfl | exact Or.inr rfl) (by first | exact Or.inl rfl | exact Or.inr rfl) rfl ?_) | refine s_expr ?_ (fun _ => rfl))
  refine s_for (i_rng1 T.b_range rfl ?_ (fun _ => rfl)) (fun _ _ => rfl)
  refine a_cons ?_ (fun _ => rfl)
  refine x_call (d_law_draw T) (Nat.le_of_ble_eq_true rfl) rfl ?_ (fun _ => rfl) (fun _ => rfl)
  repeat (first | refine x_int ?_ | (refine x_v rfl (by first | exact Or.inl rfl | exact Or.inr (Or.inl rfl) | exact Or.inr (Or.inr rfl)) ?_) | (first | refine b_add ?_ | refine b_sub ?_ | refine b_mul (by first | omega | (constructor <;> omega) | exact Or.inl ⟨by omega, by omega⟩ | exact Or.inr ⟨by omega, by omega⟩) ?_ | refine b_div (by first | omega | (constructor <;> omega) | exact Or.inl ⟨by omega, by omega⟩ | exact Or.inr ⟨by omega, by omega⟩) ?_ | refine b_mod (by first | omega | (constructor <;> omega) | exact Or.inl ⟨by omega, by omega⟩ | exact Or.inr ⟨by omega, by omega⟩) ?_ | refine b_strs (by first | omega | (constructor <;> omega) | exact Or.inl ⟨by omega, by omega⟩ | exact Or.inr ⟨by omega, by omega⟩) ?_ | refine b_catT (by first | exact Nat.le_of_ble_eq_true rfl | decide | (simp; done) | (simp <;> omega)) ?_ | refine c_lt ?_ | refine c_le ?_ | refine c_gt ?_ | refine c_ge ?_ | refine c_eqI ?_ | refine c_neI ?_ | refine c_is ?_ | refine c_isnot ?_ | refine c_eqB ?_ | refine c_neB ?_ | refine c_eqS ?_ | refine c_neS ?_ | refine b_iadd ?_ | refine b_isub ?_ | refine b_imul (by first | omega | (constructor <;> omega) | exact Or.inl ⟨by omega, by omega⟩ | exact Or.inr ⟨by omega, by omega⟩) ?_) | refine x_non ?_ | refine x_str ?_ | refine x_bl ?_ | refine x_bin ?_ | refine x_cmp ?_ (by rfl) | refine t_cmp ?_ (by rfl) | refine t_chain ?_ (by with_unfolding_all rfl) | refine x_chain ?_ (by with_unfolding_all rfl) | refine t_not ?_ | refine x_neg ?_ | refine x_if ?_ | refine a_cons ?_ (fun _ => rfl) | refine a_nil ?_ | refine x_tup ?_ | refine x_ix ?_ (fun _ _ => rfl) | refine ix_tup rfl ?_ | refine dats_ex (by first | exact Nat.le_of_ble_eq_true rfl | decide | (simp; done) | (simp <;> omega)) ?_ | refine r_cons ?_ | refine r_nil ?_ | refine s_ret ?_ | refine s_if ?_ | (refine s_st (by first | exact Or.inl rfl | exact Or.inr rfl) (by first | exact Or.inl rfl | exact Or.inr rfl) ?_ (fun _ => rfl)) | (refine s_ag (by first | exact Or.inl rfl | exact Or.inr rfl) (by first | exact Or.inl rfl | exact Or.inr rfl) rfl ?_) | refine s_expr ?_ (fun _ => rfl))
  refine ⟨rfl, ns, j, i, g + 1, rfl, hn, hj, hi, by omega, by omega, fun n h0 h1 => ?_⟩
  refine a_nil ⟨n, rfl, by omega, by omega, fun a δ M2 => M2 = M ∧ ∃ (b : List (List Int)) (z1 : Option AV), Book m b ∧ b.length = a ∧ δ = [some (.scr ns), some (.mut j), some (.dat (.int m)), some (.dat (.int g)), some (.dat (tII b)), z1], ⟨rfl, [], _, (by intro t h; cases h), rfl, rfl⟩, fun i δ M2 _ j e => (by cases e), ?_, ?_⟩
  · rintro a d δ M2 ha ⟨rfl, b, z1, hbk, hbl, rfl⟩
    obtain ⟨h2, rfl⟩ := rg0_get ha
    refine gx_n (by first | exact Or.inl rfl | exact Or.inr rfl) (by first | exact Or.inl rfl | exact Or.inr rfl) ?_
    refine r_one ?_
    refine s_st (by first | exact Or.inl rfl | exact Or.inr rfl) (by first | exact Or.inl rfl | exact Or.inr rfl) ?_ (fun _ => rfl)
    refine x_bin ?_
    refine x_v rfl (by first | exact Or.inl rfl | exact Or.inr (Or.inl rfl) | exact Or.inr (Or.inr rfl)) ?_
    refine x_tup ?_
    refine a_cons ?_ (fun _ => rfl)
    refine x_call (d_law_a_row T) (Nat.le_of_ble_eq_true rfl) rfl ?_ (fun _ => rfl) (fun _ => rfl)
    refine a_cons ?_ (fun _ => rfl)
    refine x_v rfl (by first | exact Or.inl rfl | exact Or.inr (Or.inl rfl) | exact Or.inr (Or.inr rfl)) ?_
    refine a_cons ?_ (fun _ => rfl)
    refine x_v rfl (by first | exact Or.inl rfl | exact Or.inr (Or.inl rfl) | exact Or.inr (Or.inr rfl)) ?_
    refine a_cons ?_ (fun _ => rfl)
    refine x_v rfl (by first | exact Or.inl rfl | exact Or.inr (Or.inl rfl) | exact Or.inr (Or.inr rfl)) ?_
    refine a_cons ?_ (fun _ => rfl)
    refine x_bin ?_
    refine x_int ?_
    refine x_call (d_law_draw T) (Nat.le_of_ble_eq_true rfl) rfl ?_ (fun _ => rfl) (fun _ => rfl)
    repeat (first | refine x_int ?_ | (refine x_v rfl (by first | exact Or.inl rfl | exact Or.inr (Or.inl rfl) | exact Or.inr (Or.inr rfl)) ?_) | (first | refine b_add ?_ | refine b_sub ?_ | refine b_mul (by first | omega | (constructor <;> omega) | exact Or.inl ⟨by omega, by omega⟩ | exact Or.inr ⟨by omega, by omega⟩) ?_ | refine b_div (by first | omega | (constructor <;> omega) | exact Or.inl ⟨by omega, by omega⟩ | exact Or.inr ⟨by omega, by omega⟩) ?_ | refine b_mod (by first | omega | (constructor <;> omega) | exact Or.inl ⟨by omega, by omega⟩ | exact Or.inr ⟨by omega, by omega⟩) ?_ | refine b_strs (by first | omega | (constructor <;> omega) | exact Or.inl ⟨by omega, by omega⟩ | exact Or.inr ⟨by omega, by omega⟩) ?_ | refine b_catT (by first | exact Nat.le_of_ble_eq_true rfl | decide | (simp; done) | (simp <;> omega)) ?_ | refine c_lt ?_ | refine c_le ?_ | refine c_gt ?_ | refine c_ge ?_ | refine c_eqI ?_ | refine c_neI ?_ | refine c_is ?_ | refine c_isnot ?_ | refine c_eqB ?_ | refine c_neB ?_ | refine c_eqS ?_ | refine c_neS ?_ | refine b_iadd ?_ | refine b_isub ?_ | refine b_imul (by first | omega | (constructor <;> omega) | exact Or.inl ⟨by omega, by omega⟩ | exact Or.inr ⟨by omega, by omega⟩) ?_) | refine x_non ?_ | refine x_str ?_ | refine x_bl ?_ | refine x_bin ?_ | refine x_cmp ?_ (by rfl) | refine t_cmp ?_ (by rfl) | refine t_chain ?_ (by with_unfolding_all rfl) | refine x_chain ?_ (by with_unfolding_all rfl) | refine t_not ?_ | refine x_neg ?_ | refine x_if ?_ | refine a_cons ?_ (fun _ => rfl) | refine a_nil ?_ | refine x_tup ?_ | refine x_ix ?_ (fun _ _ => rfl) | refine ix_tup rfl ?_ | refine dats_ex (by first | exact Nat.le_of_ble_eq_true rfl | decide | (simp; done) | (simp <;> omega)) ?_ | refine r_cons ?_ | refine r_nil ?_ | refine s_ret ?_ | refine s_if ?_ | (refine s_st (by first | exact Or.inl rfl | exact Or.inr rfl) (by first | exact Or.inl rfl | exact Or.inr rfl) ?_ (fun _ => rfl)) | (refine s_ag (by first | exact Or.inl rfl | exact Or.inr rfl) (by first | exact Or.inl rfl | exact Or.inr rfl) rfl ?_) | refine s_expr ?_ (fun _ => rfl))
    refine ⟨rfl, ns, j, i, m, rfl, hn, hj, hi, by omega, by omega, fun r h3 h4 => ?_⟩
    refine b_add (a_nil ?_)
    obtain ⟨rn, hrn⟩ : ∃ rn : Nat, 1 + r = (rn : Int) := ⟨(1 + r).toNat, by omega⟩
    rw [hrn]
    refine ⟨rfl, ns, j, i, m, rn, rfl, hn, hj, hi, by omega, hm1, by omega, fun row hrow hrl => ?_⟩
    refine a_nil ?_
    refine dats_ex (by first | exact Nat.le_of_ble_eq_true rfl | decide | (simp; done) | (simp <;> omega)) ?_
    refine b_catT (by simp <;> omega) ?_
    refine ⟨rfl, b ++ [row], some (.dat (.int (a : Nat))), ?_, by rw [List.length_append, hbl]; rfl, ?_⟩
    · intro t ht
      rcases List.mem_append.mp ht with ht | ht
      · exact hbk t ht
      · rw [List.mem_singleton.mp ht]
        refine ⟨hrow, fun e => ?_⟩
        rw [e] at hrl
        have : (0 : Nat) = rn := hrl
        omega
    · show _ = [some (AV.scr ns), some (.mut j), some (.dat (.int m)), some (.dat (.int g)), some (.dat (.tup ((b ++ [row]).map tI))), _]
      rw [List.map_append]
      rfl
  · rintro δ M2 ⟨rfl, b, z1, hbk, hbl, rfl⟩
    rw [rg0_len] at hbl
    repeat (first | refine x_int ?_ | (refine x_v rfl (by first | exact Or.inl rfl | exact Or.inr (Or.inl rfl) | exact Or.inr (Or.inr rfl)) ?_) | (first | refine b_add ?_ | refine b_sub ?_ | refine b_mul (by first | omega | (constructor <;> omega) | exact Or.inl ⟨by omega, by omega⟩ | exact Or.inr ⟨by omega, by omega⟩) ?_ | refine b_div (by first | omega | (constructor <;> omega) | exact Or.inl ⟨by omega, by omega⟩ | exact Or.inr ⟨by omega, by omega⟩) ?_ | refine b_mod (by first | omega | (constructor <;> omega) | exact Or.inl ⟨by omega, by omega⟩ | exact Or.inr ⟨by omega, by omega⟩) ?_ | refine b_strs (by first | omega | (constructor <;> omega) | exact Or.inl ⟨by omega, by omega⟩ | exact Or.inr ⟨by omega, by omega⟩) ?_ | refine b_catT (by first | exact Nat.le_of_ble_eq_true rfl | decide | (simp; done) | (simp <;> omega)) ?_ | refine c_lt ?_ | refine c_le ?_ | refine c_gt ?_ | refine c_ge ?_ | refine c_eqI ?_ | refine c_neI ?_ | refine c_is ?_ | refine c_isnot ?_ | refine c_eqB ?_ | refine c_neB ?_ | refine c_eqS ?_ | refine c_neS ?_ | refine b_iadd ?_ | refine b_isub ?_ | refine b_imul (by first | omega | (constructor <;> omega) | exact Or.inl ⟨by omega, by omega⟩ | exact Or.inr ⟨by omega, by omega⟩) ?_) | refine x_non ?_ | refine x_str ?_ | refine x_bl ?_ | refine x_bin ?_ | refine x_cmp ?_ (by rfl) | refine t_cmp ?_ (by rfl) | refine t_chain ?_ (by with_unfolding_all rfl) | refine x_chain ?_ (by with_unfolding_all rfl) | refine t_not ?_ | refine x_neg ?_ | refine x_if ?_ | refine a_cons ?_ (fun _ => rfl) | refine a_nil ?_ | refine x_tup ?_ | refine x_ix ?_ (fun _ _ => rfl) | refine ix_tup rfl ?_ | refine dats_ex (by first | exact Nat.le_of_ble_eq_true rfl | decide | (simp; done) | (simp <;> omega)) ?_ | refine r_cons ?_ | refine r_nil ?_ | refine s_ret ?_ | refine s_if ?_ | (refine s_st (by first | exact Or.inl rfl | exact Or.inr rfl) (by first | exact Or.inl rfl | exact Or.inr rfl) ?_ (fun _ => rfl)) | (refine s_ag (by first | exact Or.inl rfl | exact Or.inr rfl) (by first | exact Or.inl rfl | exact Or.inr rfl) rfl ?_) | refine s_expr ?_ (fun _ => rfl))
    exact fin_same (q b hbk (by omega))
end
end My

namespace My
open PySem L2 Fx
section
variable {P : Program} {w : World} {K : PySem.W.Frag} {mg : Str → Option Value} {base : Heap}
def A_law_is : ASp := fun as M Post => ∃ a b : Bool, as = [.dat (.bl a), .dat (.bl b)] ∧ Post (.dat (.bl (a == b))) M
theorem d_law_is (T : Txt K mg) : DefOk P w K mg base lv_law_is "_law_is" s_law_is ps_law_is (spOf K ps_law_is.length A_law_is) := by
  obtain ⟨fa, fd, hm, F, hb⟩ := T.f_law_is
  refine ⟨fa, fd, hm, F, hb, fn_mk F sc_law_is fun as M Post hl hA => ?_⟩
  obtain ⟨a, b, rfl, q⟩ := hA
  show Run (c_law_is P w K mg base _) [some (.dat (.bl a)), some (.dat (.bl b))] M _ _
  refine r_one (s_ret (x_and (x_isi rfl T.b_isinstance rfl T.b_bool PyProof.Rows.boot_bool ?_ (fun _ => rfl))))
  refine x_v rfl (by first | exact Or.inl rfl | exact Or.inr (Or.inl rfl) | exact Or.inr (Or.inr rfl)) ?_
  refine ⟨fun j e => (by cases e), fun _ e => (by cases e), true, (by kernel_rfl), true, rfl, fun _ => x_one (x_cmp ?_ (by rfl)), fun h => by cases h⟩
  refine x_v rfl (by first | exact Or.inl rfl | exact Or.inr (Or.inl rfl) | exact Or.inr (Or.inr rfl)) ?_
  refine x_v rfl (by first | exact Or.inl rfl | exact Or.inr (Or.inl rfl) | exact Or.inr (Or.inr rfl)) ?_
  exact c_eqB (fin_same q)
end
end My

namespace My
open PySem L2 Fx
section
variable {P : Program} {w : World} {K : PySem.W.Frag} {mg : Str → Option Value} {base : Heap}
theorem ok_ints_tup {n : Nat} {ds : List D} (h : ∀ d ∈ ds, okD n d = true) : okD (n + 1) (.tup ds) = true := List.all_eq_true.mpr fun d hd => h d hd
theorem rep_false (n : Nat) : (List.replicate n [D.bl false]).flatten = (List.replicate n false).map D.bl := by
  induction n with
  | zero => rfl
  | succ n ih => rw [List.replicate_succ, List.replicate_succ, List.flatten_cons, ih]; rfl
theorem all_bls (l : List Bool) : (l.map D.bl).all (okD 0) = true := by
  rw [List.all_map]
  exact List.all_eq_true.mpr fun _ _ => rfl
theorem lot_row {m : Int} {row : List Int} (h : Row m row) (h0 : 0 ≤ m) (hm : m ≤ 60) : row.length ≤ 60 := by
  have := h.len h0
  omega
theorem atI_lastD {ds : List D} {d : D} (h : 0 < ds.length) (e : ds[ds.length - 1]? = some d) : atI ds (-1) = some d := by
  unfold atI
  have : ixN ds.length (-1) = some (ds.length - 1) := by
    unfold ixN
    simp
    omega
  rw [this]
  exact e
def A_law : ASp := fun as M Post => ∃ ns : List Int, as = [.scr ns] ∧ M = [] ∧ ns.length ≤ 63 ∧ Post (.dat (.bl true)) M
theorem fn_law (T : Txt K mg) {fa : Addr} {fd : FuncData} (F : Fun K "law" "law" s_law fa fd) : FnOk P w K mg base CX0 lv_law fa fd ps_law (spOf K ps_law.length A_law) := by
  refine fn_mk F sc_law fun as M Post hl hA => ?_
  obtain ⟨ns, rfl, rfl, hn, q⟩ := hA
  have q2 : ∀ M2, Fin [] Post (.dat (.bl true)) M2 := fun M2 => fin_dat (M := []) (rest := M2) q
  show Run (c_law P w K mg base _) [some (.scr ns), none, none, none, none, none, none, none, none, none, none, none, none, none] [] _ _
  refine r_cons ?_
  refine s_st (by first | exact Or.inl rfl | exact Or.inr rfl) (by first | exact Or.inl rfl | exact Or.inr rfl) ?_ (fun _ => rfl)
  refine x_call0 (d_law_begun T) (Nat.le_of_ble_eq_true rfl) rfl ?_
  refine ⟨rfl, ?_⟩
  refine r_cons ?_
  refine s_for (i_rng1 T.b_range rfl ?_ (fun _ => rfl)) (fun _ _ => rfl)
  repeat (first | refine x_int ?_ | (refine x_v rfl (by first | exact Or.inl rfl | exact Or.inr (Or.inl rfl) | exact Or.inr (Or.inr rfl)) ?_) | (first | refine b_add ?_ | refine b_sub ?_ | refine b_mul (by first | omega | (constructor <;> omega) | exact Or.inl ⟨by omega, by omega⟩ | exact Or.inr ⟨by omega, by omega⟩) ?_ | refine b_div (by first | omega | (constructor <;> omega) | exact Or.inl ⟨by omega, by omega⟩ | exact Or.inr ⟨by omega, by omega⟩) ?_ | refine b_mod (by first | omega | (constructor <;> omega) | exact Or.inl ⟨by omega, by omega⟩ | exact Or.inr ⟨by omega, by omega⟩) ?_ | refine b_strs (by first | omega | (constructor <;> omega) | exact Or.inl ⟨by omega, by omega⟩ | exact Or.inr ⟨by omega, by omega⟩) ?_ | refine b_catT (by first | exact Nat.le_of_ble_eq_true rfl | decide | (simp; done) | (simp <;> omega)) ?_ | refine c_lt ?_ | refine c_le ?_ | refine c_gt ?_ | refine c_ge ?_ | refine c_eqI ?_ | refine c_neI ?_ | refine c_is ?_ | refine c_isnot ?_ | refine c_eqB ?_ | refine c_neB ?_ | refine c_eqS ?_ | refine c_neS ?_ | refine b_iadd ?_ | refine b_isub ?_ | refine b_imul (by first | omega | (constructor <;> omega) | exact Or.inl ⟨by omega, by omega⟩ | exact Or.inr ⟨by omega, by omega⟩) ?_) | refine x_non ?_ | refine x_str ?_ | refine x_bl ?_ | refine x_bin ?_ | refine x_cmp ?_ (by rfl) | refine t_cmp ?_ (by rfl) | refine t_chain ?_ (by with_unfolding_all rfl) | refine x_chain ?_ (by with_unfolding_all rfl) | refine t_not ?_ | refine x_neg ?_ | refine x_if ?_ | refine a_cons ?_ (fun _ => rfl) | refine a_nil ?_ | refine x_tup ?_ | refine x_ix ?_ (fun _ _ => rfl) | refine ix_tup rfl ?_ | refine dats_ex (by first | exact Nat.le_of_ble_eq_true rfl | decide | (simp; done) | (simp <;> omega)) ?_ | refine r_cons ?_ | refine r_nil ?_ | refine s_ret ?_ | refine s_if ?_ | (refine s_st (by first | exact Or.inl rfl | exact Or.inr rfl) (by first | exact Or.inl rfl | exact Or.inr rfl) ?_ (fun _ => rfl)) | (refine s_ag (by first | exact Or.inl rfl | exact Or.inr rfl) (by first | exact Or.inl rfl | exact Or.inr rfl) rfl ?_) | refine s_expr ?_ (fun _ => rfl))
  refine ⟨3, rfl, by omega, by omega, fun i δ M2 => M2[0]? = some (.town 1) ∧ M2[1]? = some .rests ∧ ∃ z2 z3 z4 z5 z6 z7 z8 z9 z10 z11 z12 z13, δ = [some (.scr ns), some (.mut 0), z2, z3, z4, z5, z6, z7, z8, z9, z10, z11, z12, z13], ⟨rfl, rfl, _, _, _, _, _, _, _, _, _, _, _, _, rfl⟩, fun i δ M2 _ j e => (by cases e), ?_, ?_⟩
  · rintro i d δ M2 hi ⟨t0, t1, z2, z3, z4, z5, z6, z7, z8, z9, z10, z11, z12, z13, rfl⟩
    obtain ⟨h2, rfl⟩ := rg0_get hi
    refine gx_n (by first | exact Or.inl rfl | exact Or.inr rfl) (by first | exact Or.inl rfl | exact Or.inr rfl) ?_
    refine r_cons ?_
    refine s_st (by first | exact Or.inl rfl | exact Or.inr rfl) (by first | exact Or.inl rfl | exact Or.inr rfl) ?_ (fun _ => rfl)
    refine x_call (d_law_a_lot T) (Nat.le_of_ble_eq_true rfl) rfl ?_ (fun _ => rfl) (fun _ => rfl)
    repeat (first | refine x_int ?_ | (refine x_v rfl (by first | exact Or.inl rfl | exact Or.inr (Or.inl rfl) | exact Or.inr (Or.inr rfl)) ?_) | (first | refine b_add ?_ | refine b_sub ?_ | refine b_mul (by first | omega | (constructor <;> omega) | exact Or.inl ⟨by omega, by omega⟩ | exact Or.inr ⟨by omega, by omega⟩) ?_ | refine b_div (by first | omega | (constructor <;> omega) | exact Or.inl ⟨by omega, by omega⟩ | exact Or.inr ⟨by omega, by omega⟩) ?_ | refine b_mod (by first | omega | (constructor <;> omega) | exact Or.inl ⟨by omega, by omega⟩ | exact Or.inr ⟨by omega, by omega⟩) ?_ | refine b_strs (by first | omega | (constructor <;> omega) | exact Or.inl ⟨by omega, by omega⟩ | exact Or.inr ⟨by omega, by omega⟩) ?_ | refine b_catT (by first | exact Nat.le_of_ble_eq_true rfl | decide | (simp; done) | (simp <;> omega)) ?_ | refine c_lt ?_ | refine c_le ?_ | refine c_gt ?_ | refine c_ge ?_ | refine c_eqI ?_ | refine c_neI ?_ | refine c_is ?_ | refine c_isnot ?_ | refine c_eqB ?_ | refine c_neB ?_ | refine c_eqS ?_ | refine c_neS ?_ | refine b_iadd ?_ | refine b_isub ?_ | refine b_imul (by first | omega | (constructor <;> omega) | exact Or.inl ⟨by omega, by omega⟩ | exact Or.inr ⟨by omega, by omega⟩) ?_) | refine x_non ?_ | refine x_str ?_ | refine x_bl ?_ | refine x_bin ?_ | refine x_cmp ?_ (by rfl) | refine t_cmp ?_ (by rfl) | refine t_chain ?_ (by with_unfolding_all rfl) | refine x_chain ?_ (by with_unfolding_all rfl) | refine t_not ?_ | refine x_neg ?_ | refine x_if ?_ | refine a_cons ?_ (fun _ => rfl) | refine a_nil ?_ | refine x_tup ?_ | refine x_ix ?_ (fun _ _ => rfl) | refine ix_tup rfl ?_ | refine dats_ex (by first | exact Nat.le_of_ble_eq_true rfl | decide | (simp; done) | (simp <;> omega)) ?_ | refine r_cons ?_ | refine r_nil ?_ | refine s_ret ?_ | refine s_if ?_ | (refine s_st (by first | exact Or.inl rfl | exact Or.inr rfl) (by first | exact Or.inl rfl | exact Or.inr rfl) ?_ (fun _ => rfl)) | (refine s_ag (by first | exact Or.inl rfl | exact Or.inr rfl) (by first | exact Or.inl rfl | exact Or.inr rfl) rfl ?_) | refine s_expr ?_ (fun _ => rfl))
    refine ⟨rfl, ns, 0, 1, 12, rfl, hn, t0, t1, by omega, by omega, fun m f h1 h2 h3 => ?_⟩
    refine r_cons ?_
    refine s_asg ?_ (fun _ => rfl) (fun _ => rfl) (fun _ => rfl)
    refine x_v rfl (by first | exact Or.inl rfl | exact Or.inr (Or.inl rfl) | exact Or.inr (Or.inr rfl)) ?_
    refine gx_2 (by first | exact Or.inl rfl | exact Or.inr rfl) (by first | exact Or.inl rfl | exact Or.inr rfl) (by first | exact Or.inl rfl | exact Or.inr rfl) (by first | exact Or.inl rfl | exact Or.inr rfl) ?_
    refine r_cons ?_
    refine s_st (by first | exact Or.inl rfl | exact Or.inr rfl) (by first | exact Or.inl rfl | exact Or.inr rfl) ?_ (fun _ => rfl)
    refine x_call (d_law_a_row T) (Nat.le_of_ble_eq_true rfl) rfl ?_ (fun _ => rfl) (fun _ => rfl)
    refine a_cons ?_ (fun _ => rfl)
    refine x_v rfl (by first | exact Or.inl rfl | exact Or.inr (Or.inl rfl) | exact Or.inr (Or.inr rfl)) ?_
    refine a_cons ?_ (fun _ => rfl)
    refine x_v rfl (by first | exact Or.inl rfl | exact Or.inr (Or.inl rfl) | exact Or.inr (Or.inr rfl)) ?_
    refine a_cons ?_ (fun _ => rfl)
    refine x_v rfl (by first | exact Or.inl rfl | exact Or.inr (Or.inl rfl) | exact Or.inr (Or.inr rfl)) ?_
    refine a_cons (x_bin (x_int ?_)) (fun _ => rfl)
    refine x_call (d_law_draw T) (Nat.le_of_ble_eq_true rfl) rfl ?_ (fun _ => rfl) (fun _ => rfl)
    repeat (first | refine x_int ?_ | (refine x_v rfl (by first | exact Or.inl rfl | exact Or.inr (Or.inl rfl) | exact Or.inr (Or.inr rfl)) ?_) | (first | refine b_add ?_ | refine b_sub ?_ | refine b_mul (by first | omega | (constructor <;> omega) | exact Or.inl ⟨by omega, by omega⟩ | exact Or.inr ⟨by omega, by omega⟩) ?_ | refine b_div (by first | omega | (constructor <;> omega) | exact Or.inl ⟨by omega, by omega⟩ | exact Or.inr ⟨by omega, by omega⟩) ?_ | refine b_mod (by first | omega | (constructor <;> omega) | exact Or.inl ⟨by omega, by omega⟩ | exact Or.inr ⟨by omega, by omega⟩) ?_ | refine b_strs (by first | omega | (constructor <;> omega) | exact Or.inl ⟨by omega, by omega⟩ | exact Or.inr ⟨by omega, by omega⟩) ?_ | refine b_catT (by first | exact Nat.le_of_ble_eq_true rfl | decide | (simp; done) | (simp <;> omega)) ?_ | refine c_lt ?_ | refine c_le ?_ | refine c_gt ?_ | refine c_ge ?_ | refine c_eqI ?_ | refine c_neI ?_ | refine c_is ?_ | refine c_isnot ?_ | refine c_eqB ?_ | refine c_neB ?_ | refine c_eqS ?_ | refine c_neS ?_ | refine b_iadd ?_ | refine b_isub ?_ | refine b_imul (by first | omega | (constructor <;> omega) | exact Or.inl ⟨by omega, by omega⟩ | exact Or.inr ⟨by omega, by omega⟩) ?_) | refine x_non ?_ | refine x_str ?_ | refine x_bl ?_ | refine x_bin ?_ | refine x_cmp ?_ (by rfl) | refine t_cmp ?_ (by rfl) | refine t_chain ?_ (by with_unfolding_all rfl) | refine x_chain ?_ (by with_unfolding_all rfl) | refine t_not ?_ | refine x_neg ?_ | refine x_if ?_ | refine a_cons ?_ (fun _ => rfl) | refine a_nil ?_ | refine x_tup ?_ | refine x_ix ?_ (fun _ _ => rfl) | refine ix_tup rfl ?_ | refine dats_ex (by first | exact Nat.le_of_ble_eq_true rfl | decide | (simp; done) | (simp <;> omega)) ?_ | refine r_cons ?_ | refine r_nil ?_ | refine s_ret ?_ | refine s_if ?_ | (refine s_st (by first | exact Or.inl rfl | exact Or.inr rfl) (by first | exact Or.inl rfl | exact Or.inr rfl) ?_ (fun _ => rfl)) | (refine s_ag (by first | exact Or.inl rfl | exact Or.inr rfl) (by first | exact Or.inl rfl | exact Or.inr rfl) rfl ?_) | refine s_expr ?_ (fun _ => rfl))
    refine ⟨rfl, ns, 0, 1, m, rfl, hn, t0, t1, by omega, by omega, fun rc hc2 hc3 => ?_⟩
    obtain ⟨sz, hsz⟩ : ∃ sz : Nat, 1 + rc = (sz : Int) := ⟨(1 + rc).toNat, by omega⟩
    refine b_add ?_
    rw [hsz]
    refine a_nil ⟨rfl, ns, 0, 1, m, sz, rfl, hn, t0, t1, by omega, by omega, by omega, fun row hrow hrl => ?_⟩
    have hrne : row ≠ [] := fun e => by rw [e] at hrl; have : ([] : List Int).length = 0 := rfl; omega
    have hrlen : row.length ≤ 60 := by omega
    have hrpos : 0 < row.length := by omega
    refine r_cons ?_
    refine s_st (by first | exact Or.inl rfl | exact Or.inr rfl) (by first | exact Or.inl rfl | exact Or.inr rfl) ?_ (fun _ => rfl)
    refine x_call (d_law_a_book T) (Nat.le_of_ble_eq_true rfl) rfl ?_ (fun _ => rfl) (fun _ => rfl)
    repeat (first | refine x_int ?_ | (refine x_v rfl (by first | exact Or.inl rfl | exact Or.inr (Or.inl rfl) | exact Or.inr (Or.inr rfl)) ?_) | (first | refine b_add ?_ | refine b_sub ?_ | refine b_mul (by first | omega | (constructor <;> omega) | exact Or.inl ⟨by omega, by omega⟩ | exact Or.inr ⟨by omega, by omega⟩) ?_ | refine b_div (by first | omega | (constructor <;> omega) | exact Or.inl ⟨by omega, by omega⟩ | exact Or.inr ⟨by omega, by omega⟩) ?_ | refine b_mod (by first | omega | (constructor <;> omega) | exact Or.inl ⟨by omega, by omega⟩ | exact Or.inr ⟨by omega, by omega⟩) ?_ | refine b_strs (by first | omega | (constructor <;> omega) | exact Or.inl ⟨by omega, by omega⟩ | exact Or.inr ⟨by omega, by omega⟩) ?_ | refine b_catT (by first | exact Nat.le_of_ble_eq_true rfl | decide | (simp; done) | (simp <;> omega)) ?_ | refine c_lt ?_ | refine c_le ?_ | refine c_gt ?_ | refine c_ge ?_ | refine c_eqI ?_ | refine c_neI ?_ | refine c_is ?_ | refine c_isnot ?_ | refine c_eqB ?_ | refine c_neB ?_ | refine c_eqS ?_ | refine c_neS ?_ | refine b_iadd ?_ | refine b_isub ?_ | refine b_imul (by first | omega | (constructor <;> omega) | exact Or.inl ⟨by omega, by omega⟩ | exact Or.inr ⟨by omega, by omega⟩) ?_) | refine x_non ?_ | refine x_str ?_ | refine x_bl ?_ | refine x_bin ?_ | refine x_cmp ?_ (by rfl) | refine t_cmp ?_ (by rfl) | refine t_chain ?_ (by with_unfolding_all rfl) | refine x_chain ?_ (by with_unfolding_all rfl) | refine t_not ?_ | refine x_neg ?_ | refine x_if ?_ | refine a_cons ?_ (fun _ => rfl) | refine a_nil ?_ | refine x_tup ?_ | refine x_ix ?_ (fun _ _ => rfl) | refine ix_tup rfl ?_ | refine dats_ex (by first | exact Nat.le_of_ble_eq_true rfl | decide | (simp; done) | (simp <;> omega)) ?_ | refine r_cons ?_ | refine r_nil ?_ | refine s_ret ?_ | refine s_if ?_ | (refine s_st (by first | exact Or.inl rfl | exact Or.inr rfl) (by first | exact Or.inl rfl | exact Or.inr rfl) ?_ (fun _ => rfl)) | (refine s_ag (by first | exact Or.inl rfl | exact Or.inr rfl) (by first | exact Or.inl rfl | exact Or.inr rfl) rfl ?_) | refine s_expr ?_ (fun _ => rfl))
    refine ⟨rfl, ns, 0, 1, m, 4, rfl, hn, t0, t1, by omega, by omega, by omega, by omega, fun b hb hbl => ?_⟩
    have hbt : ∀ t ∈ b, t.length ≤ 60 := fun t ht => lot_row (hb t ht).1 (by omega) (by omega)
    have hbook : ∀ ds, tII b = .tup ds → ds.length ≤ 1000 ∧ ∀ x ∈ ds, okD 5 x = true ∧ ∀ es, x = .tup es → es.length ≤ 1000 := fun ds e => by
      cases e
      refine ⟨by rw [List.length_map]; omega, fun x hx => ?_⟩
      obtain ⟨t, ht, rfl⟩ := List.mem_map.mp hx
      exact ⟨ok_tI 4 t, fun es e => by cases e; rw [List.length_map]; have := hbt t ht; omega⟩
    refine r_cons (s_ifF (t_not (t_val ?_ (fun _ _ => rfl))) ?_)
    · refine x_call (d_law_is T) (Nat.le_of_ble_eq_true rfl) rfl ?_ (fun _ => rfl) (fun _ => rfl)
      refine a_cons ?_ (fun _ => rfl)
      refine x_call (d_is_lot T) (Nat.le_of_ble_eq_true rfl) rfl ?_ (fun _ => rfl) (fun _ => rfl)
      refine a_cons ?_ (fun _ => rfl)
      refine x_v rfl (by first | exact Or.inl rfl | exact Or.inr (Or.inl rfl) | exact Or.inr (Or.inr rfl)) ?_
      refine a_nil ⟨rfl, _, rfl, ?_⟩
      rw [show lotD (tI [m, f]) = true from lot_ok (by omega) (by omega) (by omega) (by omega)]
      refine a_cons (x_bl ?_) (fun _ => rfl)
      exact a_nil ⟨rfl, true, true, rfl, true, rfl, rfl, rfl⟩
    refine r_nil (r_cons (s_ifF (t_not (t_val ?_ (fun _ _ => rfl))) ?_))
    · refine x_call (d_law_is T) (Nat.le_of_ble_eq_true rfl) rfl ?_ (fun _ => rfl) (fun _ => rfl)
      refine a_cons ?_ (fun _ => rfl)
      refine x_call (d_is_ticket T) (Nat.le_of_ble_eq_true rfl) rfl ?_ (fun _ => rfl) (fun _ => rfl)
      refine a_cons ?_ (fun _ => rfl)
      refine x_v rfl (by first | exact Or.inl rfl | exact Or.inr (Or.inl rfl) | exact Or.inr (Or.inr rfl)) ?_
      refine a_cons ?_ (fun _ => rfl)
      refine x_v rfl (by first | exact Or.inl rfl | exact Or.inr (Or.inl rfl) | exact Or.inr (Or.inr rfl)) ?_
      refine a_nil ⟨rfl, m, _, _, rfl, .inl ⟨_, rfl, ok_tI 4 row, fun ds e => by cases e; rw [List.length_map]; omega, ?_⟩⟩
      rw [ticket_row hrow hrne]
      refine a_cons (x_bl ?_) (fun _ => rfl)
      exact a_nil ⟨rfl, true, true, rfl, true, rfl, rfl, rfl⟩
    refine r_nil (r_cons (s_ifF (t_not (t_val ?_ (fun _ _ => rfl))) ?_))
    · refine x_call (d_is_book T) (Nat.le_of_ble_eq_true rfl) rfl ?_ (fun _ => rfl) (fun _ => rfl)
      refine a_cons ?_ (fun _ => rfl)
      refine x_v rfl (by first | exact Or.inl rfl | exact Or.inr (Or.inl rfl) | exact Or.inr (Or.inr rfl)) ?_
      refine a_cons ?_ (fun _ => rfl)
      refine x_v rfl (by first | exact Or.inl rfl | exact Or.inr (Or.inl rfl) | exact Or.inr (Or.inr rfl)) ?_
      refine a_nil ⟨rfl, m, _, _, rfl, hbook, ?_⟩
      rw [book_ok hb]
      exact ⟨true, rfl, rfl, rfl⟩
    refine r_nil (r_cons ?_)
    refine s_st (by first | exact Or.inl rfl | exact Or.inr rfl) (by first | exact Or.inl rfl | exact Or.inr rfl) ?_ (fun _ => rfl)
    refine x_F (f_lst ?_)
    refine a_cons (x_tup (a_cons (x_int ?_) (fun _ => rfl))) (fun _ => rfl)
    refine a_cons ?_ (fun _ => rfl)
    refine x_v rfl (by first | exact Or.inl rfl | exact Or.inr (Or.inl rfl) | exact Or.inr (Or.inr rfl)) ?_
    refine a_nil (dats_ex (by first | exact Nat.le_of_ble_eq_true rfl | decide | (simp; done) | (simp <;> omega)) ?_)
    refine a_cons (x_tup (a_cons ?_ (fun _ => rfl))) (fun _ => rfl)
    refine x_v rfl (by first | exact Or.inl rfl | exact Or.inr (Or.inl rfl) | exact Or.inr (Or.inr rfl)) ?_
    refine a_cons (x_int ?_) (fun _ => rfl)
    refine a_nil (dats_ex (by first | exact Nat.le_of_ble_eq_true rfl | decide | (simp; done) | (simp <;> omega)) ?_)
    refine a_cons (x_tup (a_cons ?_ (fun _ => rfl))) (fun _ => rfl)
    refine x_v rfl (by first | exact Or.inl rfl | exact Or.inr (Or.inl rfl) | exact Or.inr (Or.inr rfl)) ?_
    refine a_cons (x_bin ?_) (fun _ => rfl)
    refine x_v rfl (by first | exact Or.inl rfl | exact Or.inr (Or.inl rfl) | exact Or.inr (Or.inr rfl)) ?_
    refine x_int (b_add ?_)
    refine a_nil (dats_ex (by first | exact Nat.le_of_ble_eq_true rfl | decide | (simp; done) | (simp <;> omega)) ?_)
    refine a_cons (x_tup (a_cons (x_int ?_) (fun _ => rfl))) (fun _ => rfl)
    refine a_cons (x_int ?_) (fun _ => rfl)
    refine a_nil (dats_ex (by first | exact Nat.le_of_ble_eq_true rfl | decide | (simp; done) | (simp <;> omega)) ?_)
    refine a_cons (x_tup (a_cons ?_ (fun _ => rfl))) (fun _ => rfl)
    refine x_v rfl (by first | exact Or.inl rfl | exact Or.inr (Or.inl rfl) | exact Or.inr (Or.inr rfl)) ?_
    refine a_cons (x_bl ?_) (fun _ => rfl)
    refine a_nil (dats_ex (by first | exact Nat.le_of_ble_eq_true rfl | decide | (simp; done) | (simp <;> omega)) ?_)
    refine a_cons (x_lis (a_cons ?_ (fun _ => rfl))) (fun _ => rfl)
    refine x_v rfl (by first | exact Or.inl rfl | exact Or.inr (Or.inl rfl) | exact Or.inr (Or.inr rfl)) ?_
    refine a_cons ?_ (fun _ => rfl)
    refine x_v rfl (by first | exact Or.inl rfl | exact Or.inr (Or.inl rfl) | exact Or.inr (Or.inr rfl)) ?_
    refine a_nil (dats_ex (by first | exact Nat.le_of_ble_eq_true rfl | decide | (simp; done) | (simp <;> omega)) ?_)
    refine a_cons (x_tup (a_cons ?_ (fun _ => rfl))) (fun _ => rfl)
    refine x_v rfl (by first | exact Or.inl rfl | exact Or.inr (Or.inl rfl) | exact Or.inr (Or.inr rfl)) ?_
    refine a_nil (dats_ex (by first | exact Nat.le_of_ble_eq_true rfl | decide | (simp; done) | (simp <;> omega)) ?_)
    refine a_cons (x_tup (a_cons ?_ (fun _ => rfl))) (fun _ => rfl)
    refine x_v rfl (by first | exact Or.inl rfl | exact Or.inr (Or.inl rfl) | exact Or.inr (Or.inr rfl)) ?_
    refine a_cons ?_ (fun _ => rfl)
    refine x_v rfl (by first | exact Or.inl rfl | exact Or.inr (Or.inl rfl) | exact Or.inr (Or.inr rfl)) ?_
    refine a_cons (x_int ?_) (fun _ => rfl)
    refine a_nil (dats_ex (by first | exact Nat.le_of_ble_eq_true rfl | decide | (simp; done) | (simp <;> omega)) ?_)
    refine a_cons (x_non ?_) (fun _ => rfl)
    refine a_nil (dats_ex (by first | exact Nat.le_of_ble_eq_true rfl | decide | (simp; done) | (simp <;> omega)) ?_)
    refine r_cons (s_ifF (t_cmp ?_ (by rfl)) ?_)
    · refine x_F (f_lcP [("thing", 9)] (fun d : D => .bl (lotD d)) (fun _ => true) (blkOk_by (by kernel_rfl)) nk_law.nd (i_seq ?_) (fun _ _ => rfl))
      refine x_bin ?_
      refine x_v rfl (by first | exact Or.inl rfl | exact Or.inr (Or.inl rfl) | exact Or.inr (Or.inr rfl)) ?_
      refine x_F (f_lst ?_)
      refine a_cons ?_ (fun _ => rfl)
      refine x_v rfl (by first | exact Or.inl rfl | exact Or.inr (Or.inl rfl) | exact Or.inr (Or.inr rfl)) ?_
      refine a_cons (x_str ?_) (fun _ => rfl)
      refine a_cons (x_tup (a_cons (x_non ?_) (fun _ => rfl))) (fun _ => rfl)
      refine a_cons (x_int ?_) (fun _ => rfl)
      refine a_nil (dats_ex (by first | exact Nat.le_of_ble_eq_true rfl | decide | (simp; done) | (simp <;> omega)) ?_)
      refine a_cons (x_tup (a_cons (x_str ?_) (fun _ => rfl))) (fun _ => rfl)
      refine a_cons (x_int ?_) (fun _ => rfl)
      refine a_nil (dats_ex (by first | exact Nat.le_of_ble_eq_true rfl | decide | (simp; done) | (simp <;> omega)) ?_)
      refine a_nil (dats_ex (by first | exact Nat.le_of_ble_eq_true rfl | decide | (simp; done) | (simp <;> omega)) ?_)
      refine b_catL isL_ls isL_ls (Nat.le_of_ble_eq_true rfl) ?_
      refine ⟨_, isS_ls, _, id, (List.map_id _).symm, Nat.le_of_ble_eq_true rfl, fun j e => (by cases e), fun t ht => ?_, ?_⟩
      · refine lt_n (by first | exact List.mem_cons_self | exact List.mem_cons_of_mem _ List.mem_cons_self | (simp; done)) (by first | exact Or.inl rfl | exact Or.inr rfl) (by first | exact Or.inl rfl | exact Or.inr rfl) ?_
        refine ts_nil ⟨fun _ => ?_, fun h => by cases h⟩
        refine x_call (d_is_lot T) (Nat.le_of_ble_eq_true rfl) rfl ?_ (fun _ => rfl) (fun _ => rfl)
        refine a_cons ?_ (fun _ => rfl)
        refine x_v rfl (by first | exact Or.inl rfl | exact Or.inr (Or.inl rfl) | exact Or.inr (Or.inr rfl)) ?_
        exact a_nil ⟨rfl, t, rfl, _, rfl, rfl, rfl, rfl⟩
      rw [List.filter_true']
      refine x_bin (x_F (f_lst (a_cons (x_bl ?_) (fun _ => rfl))))
      refine a_nil (dats_ex (by first | exact Nat.le_of_ble_eq_true rfl | decide | (simp; done) | (simp <;> omega)) ?_)
      refine x_int (b_repL isL_ls (by decide) (by decide) (Nat.le_of_ble_eq_true rfl) ?_)
      refine c_neL_same 0 isL_ls isL_ls ?_ ?_ ⟨rfl, rfl⟩
      · rw [show (13 : Int).toNat = 13 from rfl, rep_false, ← lots_bad (m := m) (f := f), List.map_map]
        rfl
      · rw [show ∀ l : List D, (l.map fun d : D => D.bl (lotD d)) = (l.map lotD).map D.bl from fun l => by rw [List.map_map]; rfl]
        exact all_bls _
    refine r_nil (r_cons ?_)
    refine s_st (by first | exact Or.inl rfl | exact Or.inr rfl) (by first | exact Or.inl rfl | exact Or.inr rfl) ?_ (fun _ => rfl)
    refine x_call (d_law_draw T) (Nat.le_of_ble_eq_true rfl) rfl ?_ (fun _ => rfl) (fun _ => rfl)
    refine a_cons ?_ (fun _ => rfl)
    refine x_v rfl (by first | exact Or.inl rfl | exact Or.inr (Or.inl rfl) | exact Or.inr (Or.inr rfl)) ?_
    refine a_cons ?_ (fun _ => rfl)
    refine x_v rfl (by first | exact Or.inl rfl | exact Or.inr (Or.inl rfl) | exact Or.inr (Or.inr rfl)) ?_
    refine a_cons ?_ (fun _ => rfl)
    refine x_blt rfl T.b_len PySem.boot_len ?_ (fun _ => rfl) (fun _ => rfl)
    refine a_cons ?_ (fun _ => rfl)
    refine x_v rfl (by first | exact Or.inl rfl | exact Or.inr (Or.inl rfl) | exact Or.inr (Or.inr rfl)) ?_
    refine a_nil (ca_len isS_tup ?_)
    rw [List.length_map]
    refine a_nil ⟨rfl, ns, 0, 1, _, rfl, hn, t0, t1, by omega, by omega, fun ai ha0 ha1 => ?_⟩
    obtain ⟨a, rfl⟩ : ∃ a : Nat, ai = (a : Int) := ⟨ai.toNat, by omega⟩
    have haL : a < row.length := by omega
    obtain ⟨near, hnear⟩ : ∃ near : Int, (1 < row.length → (1 ≤ a ∧ row[a - 1]? = some near) ∨ (a = 0 ∧ row[row.length - 1]? = some near)) ∧ (¬ 1 < row.length → near = 0) := by
      by_cases hl1 : 1 < row.length
      · by_cases ha : 1 ≤ a
        · exact ⟨row[a - 1]'(by omega), fun _ => .inl ⟨ha, List.getElem?_eq_getElem (by omega)⟩, fun h => absurd hl1 h⟩
        · exact ⟨row[row.length - 1]'(by omega), fun _ => .inr ⟨by omega, List.getElem?_eq_getElem (by omega)⟩, fun h => absurd hl1 h⟩
      · exact ⟨0, fun h => absurd h hl1, fun _ => rfl⟩
    refine r_cons ?_
    refine s_st (by first | exact Or.inl rfl | exact Or.inr rfl) (by first | exact Or.inl rfl | exact Or.inr rfl) ?_ (fun _ => rfl)
    refine x_ix ?_ (fun _ _ => rfl)
    refine x_F (f_lst ?_)
    refine a_cons (x_int ?_) (fun _ => rfl)
    refine a_cons (x_bin ?_) (fun _ => rfl)
    refine x_v rfl (by first | exact Or.inl rfl | exact Or.inr (Or.inl rfl) | exact Or.inr (Or.inr rfl)) ?_
    refine x_int (b_add ?_)
    refine a_cons (x_neg (x_int ⟨1, rfl, ?_⟩)) (fun _ => rfl)
    refine a_cons (x_bl ?_) (fun _ => rfl)
    refine a_cons (x_str ?_) (fun _ => rfl)
    refine a_cons (x_non ?_) (fun _ => rfl)
    refine a_cons (x_tup (a_cons (x_int ?_) (fun _ => rfl))) (fun _ => rfl)
    refine a_nil (dats_ex (by first | exact Nat.le_of_ble_eq_true rfl | decide | (simp; done) | (simp <;> omega)) ?_)
    refine a_cons (x_eq (.dat (.int near)) (x_if (t_cmp ?_ (by rfl))) ?_) (fun _ => rfl)
    · refine x_blt rfl T.b_len PySem.boot_len ?_ (fun _ => rfl) (fun _ => rfl)
      refine a_cons ?_ (fun _ => rfl)
      refine x_v rfl (by first | exact Or.inl rfl | exact Or.inr (Or.inl rfl) | exact Or.inr (Or.inr rfl)) ?_
      refine a_nil (ca_len isS_tup ?_)
      rw [List.length_map]
      refine x_int (c_gt ⟨fun h => ?_, fun h => ?_⟩)
      · have hl1 : 1 < row.length := by have := of_decide_eq_true h; omega
        refine x_ix ?_ (fun _ _ => rfl)
        refine x_v rfl (by first | exact Or.inl rfl | exact Or.inr (Or.inl rfl) | exact Or.inr (Or.inr rfl)) ?_
        refine x_bin ?_
        refine x_v rfl (by first | exact Or.inl rfl | exact Or.inr (Or.inl rfl) | exact Or.inr (Or.inr rfl)) ?_
        refine x_int (b_sub ?_)
        rcases hnear.1 hl1 with ⟨hq0, hq1⟩ | ⟨rfl, hq1⟩
        · exact ix_tup (d := .int near) (atI_at (n := a - 1) (by omega) (by rw [List.getElem?_map, hq1]; rfl)) ⟨rfl, rfl⟩
        · refine ix_tup (d := .int near) (atI_lastD (by rw [List.length_map]; omega) ?_) ⟨rfl, rfl⟩
          rw [List.length_map, List.getElem?_map, hq1]
          rfl
      · have hl1 : ¬ 1 < row.length := by have := of_decide_eq_false h; omega
        rw [hnear.2 hl1]
        exact x_int ⟨rfl, rfl⟩
    refine a_nil (dats_ex (by first | exact Nat.le_of_ble_eq_true rfl | decide | (simp; done) | (simp <;> omega)) ?_)
    refine x_call (d_law_draw T) (Nat.le_of_ble_eq_true rfl) rfl ?_ (fun _ => rfl) (fun _ => rfl)
    repeat (first | refine x_int ?_ | (refine x_v rfl (by first | exact Or.inl rfl | exact Or.inr (Or.inl rfl) | exact Or.inr (Or.inr rfl)) ?_) | (first | refine b_add ?_ | refine b_sub ?_ | refine b_mul (by first | omega | (constructor <;> omega) | exact Or.inl ⟨by omega, by omega⟩ | exact Or.inr ⟨by omega, by omega⟩) ?_ | refine b_div (by first | omega | (constructor <;> omega) | exact Or.inl ⟨by omega, by omega⟩ | exact Or.inr ⟨by omega, by omega⟩) ?_ | refine b_mod (by first | omega | (constructor <;> omega) | exact Or.inl ⟨by omega, by omega⟩ | exact Or.inr ⟨by omega, by omega⟩) ?_ | refine b_strs (by first | omega | (constructor <;> omega) | exact Or.inl ⟨by omega, by omega⟩ | exact Or.inr ⟨by omega, by omega⟩) ?_ | refine b_catT (by first | exact Nat.le_of_ble_eq_true rfl | decide | (simp; done) | (simp <;> omega)) ?_ | refine c_lt ?_ | refine c_le ?_ | refine c_gt ?_ | refine c_ge ?_ | refine c_eqI ?_ | refine c_neI ?_ | refine c_is ?_ | refine c_isnot ?_ | refine c_eqB ?_ | refine c_neB ?_ | refine c_eqS ?_ | refine c_neS ?_ | refine b_iadd ?_ | refine b_isub ?_ | refine b_imul (by first | omega | (constructor <;> omega) | exact Or.inl ⟨by omega, by omega⟩ | exact Or.inr ⟨by omega, by omega⟩) ?_) | refine x_non ?_ | refine x_str ?_ | refine x_bl ?_ | refine x_bin ?_ | refine x_cmp ?_ (by rfl) | refine t_cmp ?_ (by rfl) | refine t_chain ?_ (by with_unfolding_all rfl) | refine x_chain ?_ (by with_unfolding_all rfl) | refine t_not ?_ | refine x_neg ?_ | refine x_if ?_ | refine a_cons ?_ (fun _ => rfl) | refine a_nil ?_ | refine x_tup ?_ | refine x_ix ?_ (fun _ _ => rfl) | refine ix_tup rfl ?_ | refine dats_ex (by first | exact Nat.le_of_ble_eq_true rfl | decide | (simp; done) | (simp <;> omega)) ?_ | refine r_cons ?_ | refine r_nil ?_ | refine s_ret ?_ | refine s_if ?_ | (refine s_st (by first | exact Or.inl rfl | exact Or.inr rfl) (by first | exact Or.inl rfl | exact Or.inr rfl) ?_ (fun _ => rfl)) | (refine s_ag (by first | exact Or.inl rfl | exact Or.inr rfl) (by first | exact Or.inl rfl | exact Or.inr rfl) rfl ?_) | refine s_expr ?_ (fun _ => rfl))
    refine ⟨rfl, ns, 0, 1, 8, rfl, hn, t0, t1, by omega, by omega, fun ro ho0 ho1 => ?_⟩
    obtain ⟨od, hod, hodd, hook⟩ : ∃ od : D, ([.int 0, .int (m + 1), .int (-1), .bl true, .str "1", .non, .tup [.int 1], .int near] : List D)[ro.toNat]? = some od ∧ ticketD m (oddT row a od) = false ∧ okD 4 od = true := by
      have : ro = 0 ∨ ro = 1 ∨ ro = 2 ∨ ro = 3 ∨ ro = 4 ∨ ro = 5 ∨ ro = 6 ∨ ro = 7 := by omega
      rcases this with rfl | rfl | rfl | rfl | rfl | rfl | rfl | rfl
      · exact ⟨_, rfl, odd_whole rfl, rfl⟩
      · refine ⟨_, rfl, odd_whole ?_, rfl⟩
        show (decide (1 ≤ m + 1) && decide (m + 1 ≤ m)) = false
        rw [decide_eq_false (show ¬ (m + 1 ≤ m) by omega), Bool.and_false]
      · exact ⟨_, rfl, odd_whole rfl, rfl⟩
      · exact ⟨_, rfl, odd_whole rfl, rfl⟩
      · exact ⟨_, rfl, odd_whole rfl, by decide +kernel⟩
      · exact ⟨_, rfl, odd_whole rfl, rfl⟩
      · exact ⟨_, rfl, odd_whole rfl, rfl⟩
      · refine ⟨_, rfl, ?_, rfl⟩
        by_cases hl1 : 1 < row.length
        · exact odd_near haL hl1 (hnear.1 hl1)
        · rw [hnear.2 hl1]
          exact odd_whole rfl
    refine ix_ls (d := od) (atI_at (n := ro.toNat) (by omega) hod) ?_
    obtain ⟨last, hlast, hlm⟩ : ∃ last, row[row.length - 1]? = some last ∧ last ∈ row := ⟨_, List.getElem?_eq_getElem (by omega), List.getElem_mem _⟩
    refine r_cons ?_
    refine s_st (by first | exact Or.inl rfl | exact Or.inr rfl) (by first | exact Or.inl rfl | exact Or.inr rfl) ?_ (fun _ => rfl)
    refine x_F (f_lst ?_)
    refine a_cons (x_bin (x_bin (x_slT ?_))) (fun _ => rfl)
    refine x_v rfl (by first | exact Or.inl rfl | exact Or.inr (Or.inl rfl) | exact Or.inr (Or.inr rfl)) ?_
    refine o_none (o_some ?_)
    refine x_v rfl (by first | exact Or.inl rfl | exact Or.inr (Or.inl rfl) | exact Or.inr (Or.inr rfl)) ?_
    refine ⟨_, rfl, _, rfl, ?_⟩
    rw [cut_hi]
    refine x_tup (a_cons ?_ (fun _ => rfl))
    refine x_v rfl (by first | exact Or.inl rfl | exact Or.inr (Or.inl rfl) | exact Or.inr (Or.inr rfl)) ?_
    refine a_nil (dats_ex (by first | exact Nat.le_of_ble_eq_true rfl | decide | (simp; done) | (simp <;> omega)) ?_)
    refine b_catT (by rw [List.length_take, List.length_map]; show _ + 1 ≤ _; omega) ?_
    refine x_slT ?_
    refine x_v rfl (by first | exact Or.inl rfl | exact Or.inr (Or.inl rfl) | exact Or.inr (Or.inr rfl)) ?_
    refine o_some (x_bin ?_)
    refine x_v rfl (by first | exact Or.inl rfl | exact Or.inr (Or.inl rfl) | exact Or.inr (Or.inr rfl)) ?_
    refine x_int (b_add ⟨_, rfl, ?_⟩)
    refine o_none ⟨_, rfl, ?_⟩
    rw [show ((a : Nat) : Int) + 1 = ((a + 1 : Nat) : Int) by omega, cut_lo]
    refine b_catT (by rw [List.length_append, List.length_take, List.length_drop, List.length_map]; show _ + 1 + _ ≤ _; omega) ?_
    refine a_cons ?_ (fun _ => rfl)
    refine x_ty rfl T.b_list PyProof.Rows.boot_list ?_ (fun _ => rfl) (fun _ => rfl)
    refine a_cons ?_ (fun _ => rfl)
    refine x_v rfl (by first | exact Or.inl rfl | exact Or.inr (Or.inl rfl) | exact Or.inr (Or.inr rfl)) ?_
    refine a_nil (ca_lis isS_tup ?_)
    refine a_cons (x_tup (a_nil (dats_ex (by decide) ?_))) (fun _ => rfl)
    refine a_cons (x_bin ?_) (fun _ => rfl)
    refine x_v rfl (by first | exact Or.inl rfl | exact Or.inr (Or.inl rfl) | exact Or.inr (Or.inr rfl)) ?_
    refine x_tup (a_cons (x_ix ?_ (fun _ _ => rfl)) (fun _ => rfl))
    refine x_v rfl (by first | exact Or.inl rfl | exact Or.inr (Or.inl rfl) | exact Or.inr (Or.inr rfl)) ?_
    refine x_neg (x_int ⟨1, rfl, ?_⟩)
    refine ix_tup (d := .int last) (atI_lastD (by rw [List.length_map]; omega) (by rw [List.length_map, List.getElem?_map, hlast]; rfl)) ?_
    refine a_nil (dats_ex (by first | exact Nat.le_of_ble_eq_true rfl | decide | (simp; done) | (simp <;> omega)) ?_)
    refine b_catT (by rw [List.length_map]; show _ + 1 ≤ _; omega) ?_
    refine a_cons (x_bin ?_) (fun _ => rfl)
    refine x_v rfl (by first | exact Or.inl rfl | exact Or.inr (Or.inl rfl) | exact Or.inr (Or.inr rfl)) ?_
    refine x_tup (a_cons (x_bin ?_) (fun _ => rfl))
    refine x_v rfl (by first | exact Or.inl rfl | exact Or.inr (Or.inl rfl) | exact Or.inr (Or.inr rfl)) ?_
    refine x_int (b_add ?_)
    refine a_nil (dats_ex (by first | exact Nat.le_of_ble_eq_true rfl | decide | (simp; done) | (simp <;> omega)) ?_)
    refine b_catT (by rw [List.length_map]; show _ + 1 ≤ _; omega) ?_
    refine a_nil (dats_ex (by first | exact Nat.le_of_ble_eq_true rfl | decide | (simp; done) | (simp <;> omega)) ?_)
    refine r_cons ?_
    refine s_nw (by first | exact Or.inl rfl | exact Or.inr rfl) (by first | exact Or.inl rfl | exact Or.inr rfl) ?_ (fun _ => rfl)
    refine f_catL ?_
    refine x_v rfl (by first | exact Or.inl rfl | exact Or.inr (Or.inl rfl) | exact Or.inr (Or.inr rfl)) ?_
    refine x_F (f_lst ?_)
    refine a_cons (x_bin (x_tup (a_cons (x_int ?_) (fun _ => rfl)))) (fun _ => rfl)
    refine a_nil (dats_ex (by decide) ?_)
    refine x_v rfl (by first | exact Or.inl rfl | exact Or.inr (Or.inl rfl) | exact Or.inr (Or.inr rfl)) ?_
    refine b_catT (by rw [List.length_map]; show 1 + _ ≤ _; omega) ?_
    refine a_cons (x_non ?_) (fun _ => rfl)
    refine a_cons ?_ (fun _ => rfl)
    refine x_v rfl (by first | exact Or.inl rfl | exact Or.inr (Or.inl rfl) | exact Or.inr (Or.inr rfl)) ?_
    refine a_nil (dats_ex (by first | exact Nat.le_of_ble_eq_true rfl | decide | (simp; done) | (simp <;> omega)) ?_)
    refine ⟨_, _, isL_ls, isL_ls, Nat.le_of_ble_eq_true rfl, ?_⟩
    have e1 : D.tup ((row.map D.int).take a ++ [od] ++ (row.map D.int).drop (a + 1)) = oddT row a od := by unfold oddT; rw [List.map_take, List.map_drop]
    have e2 : D.tup (row.map D.int ++ [.int last]) = tI (row ++ [last]) := by unfold tI; rw [List.map_append]; rfl
    have e3 : D.tup (row.map D.int ++ [.int (m + 1)]) = tI (row ++ [m + 1]) := by unfold tI; rw [List.map_append]; rfl
    have e4 : D.tup ([D.int 0] ++ row.map D.int) = tI (0 :: row) := rfl
    rw [e1, e2, e3, e4]
    obtain ⟨bad0, hbad0⟩ : ∃ bad0 : List D, ([oddT row a od, .lis (row.map D.int), .tup [], tI (row ++ [last]), tI (row ++ [m + 1])] : List D) ++ [tI (0 :: row), .non, .int m] = bad0 := ⟨_, rfl⟩
    have hb0 : (∀ d ∈ bad0, ticketD m d = false ∧ okD 5 d = true ∧ ∀ es, d = .tup es → es.length ≤ 1000) ∧ bad0.length = 8 := by
      rw [← hbad0]
      refine ⟨fun d hd => ?_, rfl⟩
      have len1 : ∀ {t : List Int}, t.length ≤ 100 → ∀ es, tI t = .tup es → es.length ≤ 1000 := fun {t} h es e => by
        cases e
        rw [List.length_map]
        omega
      simp only [List.cons_append, List.nil_append, List.mem_cons, List.not_mem_nil, or_false] at hd
      rcases hd with rfl | rfl | rfl | rfl | rfl | rfl | rfl | rfl
      · refine ⟨hodd, ok_ints_tup fun x hx => ?_, fun es e => ?_⟩
        · rcases List.mem_append.mp hx with hx | hx
          · rcases List.mem_append.mp hx with hx | hx
            · obtain ⟨y, _, rfl⟩ := List.mem_map.mp hx
              rfl
            · rw [List.mem_singleton.mp hx]
              exact hook
          · obtain ⟨y, _, rfl⟩ := List.mem_map.mp hx
            rfl
        · cases e
          rw [List.length_append, List.length_append, List.length_map, List.length_map, List.length_take, List.length_drop]
          show _ + 1 + _ ≤ _
          omega
      · refine ⟨rfl, ?_, fun es e => by cases e⟩
        show (row.map D.int).all (okD 4) = true
        rw [List.all_map]
        exact List.all_eq_true.mpr fun _ _ => rfl
      · exact ⟨rfl, rfl, fun es e => by cases e; exact Nat.zero_le _⟩
      · exact ⟨no_twice1 hlm, ok_tI 4 _, len1 (by rw [List.length_append]; show _ + 1 ≤ _; omega)⟩
      · exact ⟨no_big1, ok_tI 4 _, len1 (by rw [List.length_append]; show _ + 1 ≤ _; omega)⟩
      · exact ⟨no_zero, ok_tI 4 _, len1 (by rw [List.length_cons]; omega)⟩
      · exact ⟨rfl, rfl, fun es e => by cases e⟩
      · exact ⟨rfl, rfl, fun es e => by cases e⟩
    rw [hbad0]
    obtain ⟨jb, hjb⟩ : ∃ jb, M2.length = jb := ⟨_, rfl⟩
    have l1 := (List.getElem?_eq_some_iff.mp t1).1
    have t0' : (M2 ++ [MO.lst bad0])[0]? = some (.town 1) := by rw [List.getElem?_append_left (by omega)]; exact t0
    have t1' : (M2 ++ [MO.lst bad0])[1]? = some .rests := by rw [List.getElem?_append_left (by omega)]; exact t1
    have tb' : (M2 ++ [MO.lst bad0])[jb]? = some (.lst bad0) := by rw [← hjb]; exact get_push
    rw [hjb]
    generalize M2 ++ [MO.lst bad0] = M3 at *
    refine r_cons (s_join (fun δ M4 => M4[0]? = some (.town 1) ∧ M4[1]? = some .rests ∧ ∃ bad : List D, M4[jb]? = some (.lst bad) ∧ (∀ d ∈ bad, ticketD m d = false ∧ okD 5 d = true ∧ ∀ es, d = .tup es → es.length ≤ 1000) ∧ 8 ≤ bad.length ∧ bad.length ≤ 9 ∧ δ = [some (.scr ns), some (.mut 0), some (.dat (.int (i : Nat))), some (.dat (tI [m, f])), some (.dat (.int m)), some (.dat (.int f)), some (.dat (tI row)), some (.dat (tII b)), some (.mut jb), z9, some (.dat (.int (a : Nat))), some (.dat od), z12, z13]) (s_if (t_cmp ?_ (by rfl))) ?_)
    · refine x_blt rfl T.b_len PySem.boot_len ?_ (fun _ => rfl) (fun _ => rfl)
      refine a_cons ?_ (fun _ => rfl)
      refine x_v rfl (by first | exact Or.inl rfl | exact Or.inr (Or.inl rfl) | exact Or.inr (Or.inr rfl)) ?_
      refine a_nil (ca_len isS_tup ?_)
      rw [List.length_map]
      refine x_int (c_gt ⟨fun h => ?_, fun h => r_nil ⟨t0', t1', bad0, tb', hb0.1, by omega, by omega, rfl⟩⟩)
      have hl1 : 1 < row.length := by have := of_decide_eq_true h; omega
      refine r_one (s_expr ?_ (fun _ => rfl))
      refine x_lm PySem.F.slot_list_append PySem.F.type_list_append ?_ (fun _ => rfl) (fun _ => rfl) rfl (fun _ => rfl) (fun _ => rfl)
      refine x_v rfl (by first | exact Or.inl rfl | exact Or.inr (Or.inl rfl) | exact Or.inr (Or.inr rfl)) ?_
      refine ⟨jb, _, rfl, tb', ?_⟩
      refine a_cons (x_revT ?_) (fun _ => rfl)
      refine x_v rfl (by first | exact Or.inl rfl | exact Or.inr (Or.inl rfl) | exact Or.inr (Or.inr rfl)) ?_
      refine ⟨_, rfl, ?_⟩
      refine a_nil (me_append tb' (by omega) ?_)
      have lb := (List.getElem?_eq_some_iff.mp tb').1
      refine ⟨by rw [List.getElem?_set_ne (by omega)]; exact t0', by rw [List.getElem?_set_ne (by omega)]; exact t1', bad0 ++ [tI row.reverse], by rw [List.getElem?_set_self lb]; unfold tI; rw [List.map_reverse], fun d hd => ?_, by rw [List.length_append]; show 8 ≤ _ + 1; omega, by rw [List.length_append]; show _ + 1 ≤ 9; omega, rfl⟩
      rcases List.mem_append.mp hd with hd | hd
      · exact hb0.1 d hd
      · rw [List.mem_singleton.mp hd]
        exact ⟨no_rev hrow.1 hl1, ok_tI 4 _, fun es e => by cases e; rw [List.length_map, List.length_reverse]; omega⟩
    rintro δ M4 ⟨s0, s1, bad, sb, hbad, hbl8, hbl9, rfl⟩
    refine r_cons (s_ifF (t_cmp ?_ (by rfl)) ?_)
    · refine x_F (f_lcP [("thing", 9)] (fun d : D => .bl (ticketD m d)) (fun _ => true) (blkOk_by (by kernel_rfl)) nk_law.nd (i_seq ?_) (fun _ _ => rfl))
      refine x_v rfl (by first | exact Or.inl rfl | exact Or.inr (Or.inl rfl) | exact Or.inr (Or.inr rfl)) ?_
      refine ⟨_, isS_mut sb, bad, id, (List.map_id _).symm, by omega, fun j e => (by cases e; exact sb), fun t ht => ?_, ?_⟩
      · refine lt_n (by first | exact List.mem_cons_self | exact List.mem_cons_of_mem _ List.mem_cons_self | (simp; done)) (by first | exact Or.inl rfl | exact Or.inr rfl) (by first | exact Or.inl rfl | exact Or.inr rfl) ?_
        refine ts_nil ⟨fun _ => ?_, fun h => by cases h⟩
        refine x_call (d_is_ticket T) (Nat.le_of_ble_eq_true rfl) rfl ?_ (fun _ => rfl) (fun _ => rfl)
        refine a_cons ?_ (fun _ => rfl)
        refine x_v rfl (by first | exact Or.inl rfl | exact Or.inr (Or.inl rfl) | exact Or.inr (Or.inr rfl)) ?_
        refine a_cons ?_ (fun _ => rfl)
        refine x_v rfl (by first | exact Or.inl rfl | exact Or.inr (Or.inl rfl) | exact Or.inr (Or.inr rfl)) ?_
        exact a_nil ⟨rfl, m, _, _, rfl, .inl ⟨t, rfl, (hbad t ht).2.1, (hbad t ht).2.2, _, rfl, rfl, rfl, rfl⟩⟩
      rw [List.filter_true']
      refine x_F (f_lcP [("thing", 9)] (fun d : D => .bl false) (fun _ => true) (blkOk_by (by kernel_rfl)) nk_law.nd (i_seq ?_) (fun _ _ => rfl))
      refine x_v rfl (by first | exact Or.inl rfl | exact Or.inr (Or.inl rfl) | exact Or.inr (Or.inr rfl)) ?_
      refine ⟨_, isS_mut sb, bad, id, (List.map_id _).symm, by omega, fun j e => (by cases e; exact sb), fun t ht => ?_, ?_⟩
      · refine lt_n (by first | exact List.mem_cons_self | exact List.mem_cons_of_mem _ List.mem_cons_self | (simp; done)) (by first | exact Or.inl rfl | exact Or.inr rfl) (by first | exact Or.inl rfl | exact Or.inr rfl) ?_
        refine ts_nil ⟨fun _ => ?_, fun h => by cases h⟩
        exact x_bl ⟨_, rfl, rfl, rfl, rfl⟩
      rw [List.filter_true']
      refine c_neL_same 0 isL_ls isL_ls ?_ ?_ ⟨rfl, rfl⟩
      · exact List.map_congr_left fun d hd => by rw [(hbad d hd).1]
      · rw [List.all_map]
        exact List.all_eq_true.mpr fun _ _ => rfl
    refine r_nil (r_cons ?_)
    refine s_st (by first | exact Or.inl rfl | exact Or.inr rfl) (by first | exact Or.inl rfl | exact Or.inr rfl) ?_ (fun _ => rfl)
    refine x_call (d_law_draw T) (Nat.le_of_ble_eq_true rfl) rfl ?_ (fun _ => rfl) (fun _ => rfl)
    refine a_cons ?_ (fun _ => rfl)
    refine x_v rfl (by first | exact Or.inl rfl | exact Or.inr (Or.inl rfl) | exact Or.inr (Or.inr rfl)) ?_
    refine a_cons ?_ (fun _ => rfl)
    refine x_v rfl (by first | exact Or.inl rfl | exact Or.inr (Or.inl rfl) | exact Or.inr (Or.inr rfl)) ?_
    refine a_cons (x_bin ?_) (fun _ => rfl)
    refine x_blt rfl T.b_len PySem.boot_len ?_ (fun _ => rfl) (fun _ => rfl)
    refine a_cons ?_ (fun _ => rfl)
    refine x_v rfl (by first | exact Or.inl rfl | exact Or.inr (Or.inl rfl) | exact Or.inr (Or.inr rfl)) ?_
    refine a_nil (ca_len isS_tup ?_)
    rw [List.length_map]
    refine x_int (b_add ?_)
    refine a_nil ⟨rfl, ns, 0, 1, _, rfl, hn, s0, s1, by omega, by omega, fun wi hw0 hw1 => ?_⟩
    obtain ⟨wh, rfl⟩ : ∃ wh : Nat, wi = (wh : Int) := ⟨wi.toNat, by omega⟩
    refine r_cons ?_
    refine s_st (by first | exact Or.inl rfl | exact Or.inr rfl) (by first | exact Or.inl rfl | exact Or.inr rfl) ?_ (fun _ => rfl)
    refine x_ix ?_ (fun _ _ => rfl)
    refine x_v rfl (by first | exact Or.inl rfl | exact Or.inr (Or.inl rfl) | exact Or.inr (Or.inr rfl)) ?_
    refine x_call (d_law_draw T) (Nat.le_of_ble_eq_true rfl) rfl ?_ (fun _ => rfl) (fun _ => rfl)
    refine a_cons ?_ (fun _ => rfl)
    refine x_v rfl (by first | exact Or.inl rfl | exact Or.inr (Or.inl rfl) | exact Or.inr (Or.inr rfl)) ?_
    refine a_cons ?_ (fun _ => rfl)
    refine x_v rfl (by first | exact Or.inl rfl | exact Or.inr (Or.inl rfl) | exact Or.inr (Or.inr rfl)) ?_
    refine a_cons ?_ (fun _ => rfl)
    refine x_blt rfl T.b_len PySem.boot_len ?_ (fun _ => rfl) (fun _ => rfl)
    refine a_cons ?_ (fun _ => rfl)
    refine x_v rfl (by first | exact Or.inl rfl | exact Or.inr (Or.inl rfl) | exact Or.inr (Or.inr rfl)) ?_
    refine a_nil (ca_len (isS_mut sb) ?_)
    refine a_nil ⟨rfl, ns, 0, 1, _, rfl, hn, s0, s1, by omega, by omega, fun xi hx0 hx1 => ?_⟩
    obtain ⟨wr, hwr⟩ : ∃ wr, bad[xi.toNat]? = some wr := ⟨_, List.getElem?_eq_getElem (by omega)⟩
    obtain ⟨hw1, hw2, hw3⟩ := hbad wr (List.mem_of_getElem? hwr)
    refine ix_mut sb (d := wr) (atI_at (n := xi.toNat) (by omega) hwr) ?_
    refine r_one (s_ifF (t_W (w_or (t_val ?_ (fun _ _ => rfl)))) ?_)
    · refine x_call (d_is_book T) (Nat.le_of_ble_eq_true rfl) rfl ?_ (fun _ => rfl) (fun _ => rfl)
      refine a_cons ?_ (fun _ => rfl)
      refine x_v rfl (by first | exact Or.inl rfl | exact Or.inr (Or.inl rfl) | exact Or.inr (Or.inr rfl)) ?_
      refine a_cons ?_ (fun _ => rfl)
      refine x_ty rfl T.b_list PyProof.Rows.boot_list ?_ (fun _ => rfl) (fun _ => rfl)
      refine a_cons ?_ (fun _ => rfl)
      refine x_v rfl (by first | exact Or.inl rfl | exact Or.inr (Or.inl rfl) | exact Or.inr (Or.inr rfl)) ?_
      refine a_nil (ca_lis isS_tup ?_)
      refine a_nil ⟨rfl, m, _, _, rfl, fun ds e => (by cases e), false, rfl, fun h => (by cases h), fun _ => w_or1 (t_val ?_ (fun _ _ => rfl))⟩
      refine x_call (d_is_book T) (Nat.le_of_ble_eq_true rfl) rfl ?_ (fun _ => rfl) (fun _ => rfl)
      refine a_cons ?_ (fun _ => rfl)
      refine x_v rfl (by first | exact Or.inl rfl | exact Or.inr (Or.inl rfl) | exact Or.inr (Or.inr rfl)) ?_
      refine a_cons (x_bin (x_bin (x_slT ?_))) (fun _ => rfl)
      refine x_v rfl (by first | exact Or.inl rfl | exact Or.inr (Or.inl rfl) | exact Or.inr (Or.inr rfl)) ?_
      refine o_none (o_some ?_)
      refine x_v rfl (by first | exact Or.inl rfl | exact Or.inr (Or.inl rfl) | exact Or.inr (Or.inr rfl)) ?_
      refine ⟨_, rfl, _, rfl, ?_⟩
      rw [cut_hi]
      refine x_tup (a_cons ?_ (fun _ => rfl))
      refine x_v rfl (by first | exact Or.inl rfl | exact Or.inr (Or.inl rfl) | exact Or.inr (Or.inr rfl)) ?_
      refine a_nil (dats_ex (by first | exact Nat.le_of_ble_eq_true rfl | decide | (simp; done) | (simp <;> omega)) ?_)
      refine b_catT (by rw [List.length_take, List.length_map]; show _ + 1 ≤ _; omega) ?_
      refine x_slT ?_
      refine x_v rfl (by first | exact Or.inl rfl | exact Or.inr (Or.inl rfl) | exact Or.inr (Or.inr rfl)) ?_
      refine o_some ?_
      refine x_v rfl (by first | exact Or.inl rfl | exact Or.inr (Or.inl rfl) | exact Or.inr (Or.inr rfl)) ?_
      refine ⟨_, rfl, ?_⟩
      refine o_none ⟨_, rfl, ?_⟩
      rw [cut_lo]
      refine b_catT (by rw [List.length_append, List.length_take, List.length_drop, List.length_map]; show _ + 1 + _ ≤ _; omega) ?_
      refine a_nil ⟨rfl, m, _, _, rfl, fun ds e => ?_, ?_⟩
      · cases e
        refine ⟨by rw [List.length_append, List.length_append, List.length_take, List.length_drop, List.length_map]; show _ + 1 + _ ≤ _; omega, fun x hx => ?_⟩
        rcases List.mem_append.mp hx with hx | hx
        · rcases List.mem_append.mp hx with hx | hx
          · exact (hbook _ rfl).2 x (List.mem_of_mem_take hx)
          · rw [List.mem_singleton.mp hx]
            exact ⟨hw2, hw3⟩
        · exact (hbook _ rfl).2 x (List.mem_of_mem_drop hx)
      rw [book_bad hw1]
      exact ⟨false, rfl, rfl, rfl⟩
    exact r_nil ⟨s0, s1, _, _, _, _, _, _, _, _, _, _, _, _, rfl⟩
  · rintro δ M2 ⟨t0, t1, z2, z3, z4, z5, z6, z7, z8, z9, z10, z11, z12, z13, rfl⟩
    refine r_one (s_ret (x_and ?_))
    refine x_call (d_law_is T) (Nat.le_of_ble_eq_true rfl) rfl ?_ (fun _ => rfl) (fun _ => rfl)
    refine a_cons ?_ (fun _ => rfl)
    refine x_call (d_is_book T) (Nat.le_of_ble_eq_true rfl) rfl ?_ (fun _ => rfl) (fun _ => rfl)
    repeat (first | refine x_int ?_ | (refine x_v rfl (by first | exact Or.inl rfl | exact Or.inr (Or.inl rfl) | exact Or.inr (Or.inr rfl)) ?_) | (first | refine b_add ?_ | refine b_sub ?_ | refine b_mul (by first | omega | (constructor <;> omega) | exact Or.inl ⟨by omega, by omega⟩ | exact Or.inr ⟨by omega, by omega⟩) ?_ | refine b_div (by first | omega | (constructor <;> omega) | exact Or.inl ⟨by omega, by omega⟩ | exact Or.inr ⟨by omega, by omega⟩) ?_ | refine b_mod (by first | omega | (constructor <;> omega) | exact Or.inl ⟨by omega, by omega⟩ | exact Or.inr ⟨by omega, by omega⟩) ?_ | refine b_strs (by first | omega | (constructor <;> omega) | exact Or.inl ⟨by omega, by omega⟩ | exact Or.inr ⟨by omega, by omega⟩) ?_ | refine b_catT (by first | exact Nat.le_of_ble_eq_true rfl | decide | (simp; done) | (simp <;> omega)) ?_ | refine c_lt ?_ | refine c_le ?_ | refine c_gt ?_ | refine c_ge ?_ | refine c_eqI ?_ | refine c_neI ?_ | refine c_is ?_ | refine c_isnot ?_ | refine c_eqB ?_ | refine c_neB ?_ | refine c_eqS ?_ | refine c_neS ?_ | refine b_iadd ?_ | refine b_isub ?_ | refine b_imul (by first | omega | (constructor <;> omega) | exact Or.inl ⟨by omega, by omega⟩ | exact Or.inr ⟨by omega, by omega⟩) ?_) | refine x_non ?_ | refine x_str ?_ | refine x_bl ?_ | refine x_bin ?_ | refine x_cmp ?_ (by rfl) | refine t_cmp ?_ (by rfl) | refine t_chain ?_ (by with_unfolding_all rfl) | refine x_chain ?_ (by with_unfolding_all rfl) | refine t_not ?_ | refine x_neg ?_ | refine x_if ?_ | refine a_cons ?_ (fun _ => rfl) | refine a_nil ?_ | refine x_tup ?_ | refine x_ix ?_ (fun _ _ => rfl) | refine ix_tup rfl ?_ | refine dats_ex (by first | exact Nat.le_of_ble_eq_true rfl | decide | (simp; done) | (simp <;> omega)) ?_ | refine r_cons ?_ | refine r_nil ?_ | refine s_ret ?_ | refine s_if ?_ | (refine s_st (by first | exact Or.inl rfl | exact Or.inr rfl) (by first | exact Or.inl rfl | exact Or.inr rfl) ?_ (fun _ => rfl)) | (refine s_ag (by first | exact Or.inl rfl | exact Or.inr rfl) (by first | exact Or.inl rfl | exact Or.inr rfl) rfl ?_) | refine s_expr ?_ (fun _ => rfl))
    refine ⟨rfl, 1, [.int 1], .tup [], rfl, fun ds e => (by cases e; exact ⟨Nat.zero_le _, fun x hx => (by cases hx)⟩), ?_⟩
    refine a_cons (x_bl ?_) (fun _ => rfl)
    refine a_nil ⟨rfl, true, true, rfl, true, rfl, fun _ => x_and ?_, fun h => (by cases h)⟩
    refine x_call (d_is_lot T) (Nat.le_of_ble_eq_true rfl) rfl ?_ (fun _ => rfl) (fun _ => rfl)
    repeat (first | refine x_int ?_ | (refine x_v rfl (by first | exact Or.inl rfl | exact Or.inr (Or.inl rfl) | exact Or.inr (Or.inr rfl)) ?_) | (first | refine b_add ?_ | refine b_sub ?_ | refine b_mul (by first | omega | (constructor <;> omega) | exact Or.inl ⟨by omega, by omega⟩ | exact Or.inr ⟨by omega, by omega⟩) ?_ | refine b_div (by first | omega | (constructor <;> omega) | exact Or.inl ⟨by omega, by omega⟩ | exact Or.inr ⟨by omega, by omega⟩) ?_ | refine b_mod (by first | omega | (constructor <;> omega) | exact Or.inl ⟨by omega, by omega⟩ | exact Or.inr ⟨by omega, by omega⟩) ?_ | refine b_strs (by first | omega | (constructor <;> omega) | exact Or.inl ⟨by omega, by omega⟩ | exact Or.inr ⟨by omega, by omega⟩) ?_ | refine b_catT (by first | exact Nat.le_of_ble_eq_true rfl | decide | (simp; done) | (simp <;> omega)) ?_ | refine c_lt ?_ | refine c_le ?_ | refine c_gt ?_ | refine c_ge ?_ | refine c_eqI ?_ | refine c_neI ?_ | refine c_is ?_ | refine c_isnot ?_ | refine c_eqB ?_ | refine c_neB ?_ | refine c_eqS ?_ | refine c_neS ?_ | refine b_iadd ?_ | refine b_isub ?_ | refine b_imul (by first | omega | (constructor <;> omega) | exact Or.inl ⟨by omega, by omega⟩ | exact Or.inr ⟨by omega, by omega⟩) ?_) | refine x_non ?_ | refine x_str ?_ | refine x_bl ?_ | refine x_bin ?_ | refine x_cmp ?_ (by rfl) | refine t_cmp ?_ (by rfl) | refine t_chain ?_ (by with_unfolding_all rfl) | refine x_chain ?_ (by with_unfolding_all rfl) | refine t_not ?_ | refine x_neg ?_ | refine x_if ?_ | refine a_cons ?_ (fun _ => rfl) | refine a_nil ?_ | refine x_tup ?_ | refine x_ix ?_ (fun _ _ => rfl) | refine ix_tup rfl ?_ | refine dats_ex (by first | exact Nat.le_of_ble_eq_true rfl | decide | (simp; done) | (simp <;> omega)) ?_ | refine r_cons ?_ | refine r_nil ?_ | refine s_ret ?_ | refine s_if ?_ | (refine s_st (by first | exact Or.inl rfl | exact Or.inr rfl) (by first | exact Or.inl rfl | exact Or.inr rfl) ?_ (fun _ => rfl)) | (refine s_ag (by first | exact Or.inl rfl | exact Or.inr rfl) (by first | exact Or.inl rfl | exact Or.inr rfl) rfl ?_) | refine s_expr ?_ (fun _ => rfl))
    refine ⟨rfl, _, rfl, true, rfl, fun _ => x_one ?_, fun h => (by cases h)⟩
    refine x_call (d_is_ticket T) (Nat.le_of_ble_eq_true rfl) rfl ?_ (fun _ => rfl) (fun _ => rfl)
    repeat (first | refine x_int ?_ | (refine x_v rfl (by first | exact Or.inl rfl | exact Or.inr (Or.inl rfl) | exact Or.inr (Or.inr rfl)) ?_) | (first | refine b_add ?_ | refine b_sub ?_ | refine b_mul (by first | omega | (constructor <;> omega) | exact Or.inl ⟨by omega, by omega⟩ | exact Or.inr ⟨by omega, by omega⟩) ?_ | refine b_div (by first | omega | (constructor <;> omega) | exact Or.inl ⟨by omega, by omega⟩ | exact Or.inr ⟨by omega, by omega⟩) ?_ | refine b_mod (by first | omega | (constructor <;> omega) | exact Or.inl ⟨by omega, by omega⟩ | exact Or.inr ⟨by omega, by omega⟩) ?_ | refine b_strs (by first | omega | (constructor <;> omega) | exact Or.inl ⟨by omega, by omega⟩ | exact Or.inr ⟨by omega, by omega⟩) ?_ | refine b_catT (by first | exact Nat.le_of_ble_eq_true rfl | decide | (simp; done) | (simp <;> omega)) ?_ | refine c_lt ?_ | refine c_le ?_ | refine c_gt ?_ | refine c_ge ?_ | refine c_eqI ?_ | refine c_neI ?_ | refine c_is ?_ | refine c_isnot ?_ | refine c_eqB ?_ | refine c_neB ?_ | refine c_eqS ?_ | refine c_neS ?_ | refine b_iadd ?_ | refine b_isub ?_ | refine b_imul (by first | omega | (constructor <;> omega) | exact Or.inl ⟨by omega, by omega⟩ | exact Or.inr ⟨by omega, by omega⟩) ?_) | refine x_non ?_ | refine x_str ?_ | refine x_bl ?_ | refine x_bin ?_ | refine x_cmp ?_ (by rfl) | refine t_cmp ?_ (by rfl) | refine t_chain ?_ (by with_unfolding_all rfl) | refine x_chain ?_ (by with_unfolding_all rfl) | refine t_not ?_ | refine x_neg ?_ | refine x_if ?_ | refine a_cons ?_ (fun _ => rfl) | refine a_nil ?_ | refine x_tup ?_ | refine x_ix ?_ (fun _ _ => rfl) | refine ix_tup rfl ?_ | refine dats_ex (by first | exact Nat.le_of_ble_eq_true rfl | decide | (simp; done) | (simp <;> omega)) ?_ | refine r_cons ?_ | refine r_nil ?_ | refine s_ret ?_ | refine s_if ?_ | (refine s_st (by first | exact Or.inl rfl | exact Or.inr rfl) (by first | exact Or.inl rfl | exact Or.inr rfl) ?_ (fun _ => rfl)) | (refine s_ag (by first | exact Or.inl rfl | exact Or.inr rfl) (by first | exact Or.inl rfl | exact Or.inr rfl) rfl ?_) | refine s_expr ?_ (fun _ => rfl))
    refine x_trg T.b_tuple rfl (rg_2 T.b_range rfl (x_int (x_int ⟨1, 13, rfl, rfl, ⟨by decide, by decide, by decide, by decide⟩, ?_⟩)) (fun _ => rfl) (fun _ => rfl) (fun _ => rfl)) (fun _ => rfl)
    refine a_nil ⟨rfl, 12, _, _, rfl, .inl ⟨_, rfl, by rw [rgD_eq]; exact ok_tI 4 _, fun ds e => (by cases e; rw [rgD_len]; decide), ?_⟩⟩
    rw [show ticketD 12 (.tup (rgD 1 13)) = true by decide +kernel]
    exact q2 _
end
end My

namespace My
open PySem L2 Fx
theorem txt_mk {K : PySem.W.Frag} {h : Heap} {mg : Str → Option Value} (X : K.In h) (G : h.Ns mainGlobals mg)
    {tc_MOST : Tok}
    {fa0 : Addr} {od0 an0 : Option Addr} {sl0 : Array (Option Value)} {oc0 kV0 dc0 pm0 cd0 ct0 : Value}
    {fa1 : Addr} {od1 an1 : Option Addr} {sl1 : Array (Option Value)} {oc1 kV1 dc1 pm1 cd1 ct1 : Value}
    {fa2 : Addr} {od2 an2 : Option Addr} {sl2 : Array (Option Value)} {oc2 kV2 dc2 pm2 cd2 ct2 : Value}
    {fa3 : Addr} {od3 an3 : Option Addr} {sl3 : Array (Option Value)} {oc3 kV3 dc3 pm3 cd3 ct3 : Value}
    {fa4 : Addr} {od4 an4 : Option Addr} {sl4 : Array (Option Value)} {oc4 kV4 dc4 pm4 cd4 ct4 : Value}
    {fa5 : Addr} {od5 an5 : Option Addr} {sl5 : Array (Option Value)} {oc5 kV5 dc5 pm5 cd5 ct5 : Value}
    {fa6 : Addr} {od6 an6 : Option Addr} {sl6 : Array (Option Value)} {oc6 kV6 dc6 pm6 cd6 ct6 : Value}
    {fa7 : Addr} {od7 an7 : Option Addr} {sl7 : Array (Option Value)} {oc7 kV7 dc7 pm7 cd7 ct7 : Value}
    {fa8 : Addr} {od8 an8 : Option Addr} {sl8 : Array (Option Value)} {oc8 kV8 dc8 pm8 cd8 ct8 : Value}
    {fa9 : Addr} {od9 an9 : Option Addr} {sl9 : Array (Option Value)} {oc9 kV9 dc9 pm9 cd9 ct9 : Value}
    {fa10 : Addr} {od10 an10 : Option Addr} {sl10 : Array (Option Value)} {oc10 kV10 dc10 pm10 cd10 ct10 : Value}
    (z_isinstance : PySem.W.nsIn K mainGlobals "isinstance" = some none)
    (z_int : PySem.W.nsIn K mainGlobals "int" = some none)
    (z_bool : PySem.W.nsIn K mainGlobals "bool" = some none)
    (z_tuple : PySem.W.nsIn K mainGlobals "tuple" = some none)
    (z_len : PySem.W.nsIn K mainGlobals "len" = some none)
    (z_all : PySem.W.nsIn K mainGlobals "all" = some none)
    (z_zip : PySem.W.nsIn K mainGlobals "zip" = some none)
    (z_range : PySem.W.nsIn K mainGlobals "range" = some none)
    (z_list : PySem.W.nsIn K mainGlobals "list" = some none)
    (z_sorted : PySem.W.nsIn K mainGlobals "sorted" = some none)
    (y_MOST : PySem.W.nsIn K mainGlobals "MOST" = some (some (.int 12 tc_MOST)))
    (a0 : PySem.W.nsIn K mainGlobals "is_whole" = some (some (.ref fa0))) (l0 : K.lookup fa0 = some ⟨oc0, od0, .func (PySem.W.fnOf "is_whole" "is_whole" (defArgs s_is_whole) (defBody s_is_whole) (defScope s_is_whole) .none kV0 dc0 pm0 an0 cd0 ct0), sl0⟩) (c0 : PySem.W.codeIn K cd0 "is_whole" = true) (k0 : PySem.W.keepIn K (.ref fa0) = true)
    (a1 : PySem.W.nsIn K mainGlobals "is_lot" = some (some (.ref fa1))) (l1 : K.lookup fa1 = some ⟨oc1, od1, .func (PySem.W.fnOf "is_lot" "is_lot" (defArgs s_is_lot) (defBody s_is_lot) (defScope s_is_lot) .none kV1 dc1 pm1 an1 cd1 ct1), sl1⟩) (c1 : PySem.W.codeIn K cd1 "is_lot" = true) (k1 : PySem.W.keepIn K (.ref fa1) = true)
    (a2 : PySem.W.nsIn K mainGlobals "is_ticket" = some (some (.ref fa2))) (l2 : K.lookup fa2 = some ⟨oc2, od2, .func (PySem.W.fnOf "is_ticket" "is_ticket" (defArgs s_is_ticket) (defBody s_is_ticket) (defScope s_is_ticket) .none kV2 dc2 pm2 an2 cd2 ct2), sl2⟩) (c2 : PySem.W.codeIn K cd2 "is_ticket" = true) (k2 : PySem.W.keepIn K (.ref fa2) = true)
    (a3 : PySem.W.nsIn K mainGlobals "is_book" = some (some (.ref fa3))) (l3 : K.lookup fa3 = some ⟨oc3, od3, .func (PySem.W.fnOf "is_book" "is_book" (defArgs s_is_book) (defBody s_is_book) (defScope s_is_book) .none kV3 dc3 pm3 an3 cd3 ct3), sl3⟩) (c3 : PySem.W.codeIn K cd3 "is_book" = true) (k3 : PySem.W.keepIn K (.ref fa3) = true)
    (a4 : PySem.W.nsIn K mainGlobals "_law_draw" = some (some (.ref fa4))) (l4 : K.lookup fa4 = some ⟨oc4, od4, .func (PySem.W.fnOf "_law_draw" "_law_draw" (defArgs s_law_draw) (defBody s_law_draw) (defScope s_law_draw) .none kV4 dc4 pm4 an4 cd4 ct4), sl4⟩) (c4 : PySem.W.codeIn K cd4 "_law_draw" = true) (k4 : PySem.W.keepIn K (.ref fa4) = true)
    (a5 : PySem.W.nsIn K mainGlobals "_law_begun" = some (some (.ref fa5))) (l5 : K.lookup fa5 = some ⟨oc5, od5, .func (PySem.W.fnOf "_law_begun" "_law_begun" (defArgs s_law_begun) (defBody s_law_begun) (defScope s_law_begun) .none kV5 dc5 pm5 an5 cd5 ct5), sl5⟩) (c5 : PySem.W.codeIn K cd5 "_law_begun" = true) (k5 : PySem.W.keepIn K (.ref fa5) = true)
    (a6 : PySem.W.nsIn K mainGlobals "_law_a_lot" = some (some (.ref fa6))) (l6 : K.lookup fa6 = some ⟨oc6, od6, .func (PySem.W.fnOf "_law_a_lot" "_law_a_lot" (defArgs s_law_a_lot) (defBody s_law_a_lot) (defScope s_law_a_lot) .none kV6 dc6 pm6 an6 cd6 ct6), sl6⟩) (c6 : PySem.W.codeIn K cd6 "_law_a_lot" = true) (k6 : PySem.W.keepIn K (.ref fa6) = true)
    (a7 : PySem.W.nsIn K mainGlobals "_law_a_row" = some (some (.ref fa7))) (l7 : K.lookup fa7 = some ⟨oc7, od7, .func (PySem.W.fnOf "_law_a_row" "_law_a_row" (defArgs s_law_a_row) (defBody s_law_a_row) (defScope s_law_a_row) .none kV7 dc7 pm7 an7 cd7 ct7), sl7⟩) (c7 : PySem.W.codeIn K cd7 "_law_a_row" = true) (k7 : PySem.W.keepIn K (.ref fa7) = true)
    (a8 : PySem.W.nsIn K mainGlobals "_law_a_book" = some (some (.ref fa8))) (l8 : K.lookup fa8 = some ⟨oc8, od8, .func (PySem.W.fnOf "_law_a_book" "_law_a_book" (defArgs s_law_a_book) (defBody s_law_a_book) (defScope s_law_a_book) .none kV8 dc8 pm8 an8 cd8 ct8), sl8⟩) (c8 : PySem.W.codeIn K cd8 "_law_a_book" = true) (k8 : PySem.W.keepIn K (.ref fa8) = true)
    (a9 : PySem.W.nsIn K mainGlobals "_law_is" = some (some (.ref fa9))) (l9 : K.lookup fa9 = some ⟨oc9, od9, .func (PySem.W.fnOf "_law_is" "_law_is" (defArgs s_law_is) (defBody s_law_is) (defScope s_law_is) .none kV9 dc9 pm9 an9 cd9 ct9), sl9⟩) (c9 : PySem.W.codeIn K cd9 "_law_is" = true) (k9 : PySem.W.keepIn K (.ref fa9) = true)
    (a10 : PySem.W.nsIn K mainGlobals "law" = some (some (.ref fa10))) (l10 : K.lookup fa10 = some ⟨oc10, od10, .func (PySem.W.fnOf "law" "law" (defArgs s_law) (defBody s_law) (defScope s_law) .none kV10 dc10 pm10 an10 cd10 ct10), sl10⟩) (c10 : PySem.W.codeIn K cd10 "law" = true) (k10 : PySem.W.keepIn K (.ref fa10) = true) : Txt K mg :=
  ⟨PySem.W.mg_none_of X G z_isinstance,
    PySem.W.mg_none_of X G z_int,
    PySem.W.mg_none_of X G z_bool,
    PySem.W.mg_none_of X G z_tuple,
    PySem.W.mg_none_of X G z_len,
    PySem.W.mg_none_of X G z_all,
    PySem.W.mg_none_of X G z_zip,
    PySem.W.mg_none_of X G z_range,
    PySem.W.mg_none_of X G z_list,
    PySem.W.mg_none_of X G z_sorted,
    ⟨_, PySem.W.mg_of X G y_MOST⟩,
    ⟨fa0, _, PySem.W.mg_of X G a0, fun_mk (st := s_is_whole) l0 c0 k0, (fun_mk (st := s_is_whole) l0 c0 k0).binds fun _ _ _ _ _ _ us hl => match us, hl with | [_, _, _], _ => rfl⟩,
    ⟨fa1, _, PySem.W.mg_of X G a1, fun_mk (st := s_is_lot) l1 c1 k1, (fun_mk (st := s_is_lot) l1 c1 k1).binds fun _ _ _ _ _ _ us hl => match us, hl with | [_], _ => rfl⟩,
    ⟨fa2, _, PySem.W.mg_of X G a2, fun_mk (st := s_is_ticket) l2 c2 k2, (fun_mk (st := s_is_ticket) l2 c2 k2).binds fun _ _ _ _ _ _ us hl => match us, hl with | [_, _], _ => rfl⟩,
    ⟨fa3, _, PySem.W.mg_of X G a3, fun_mk (st := s_is_book) l3 c3 k3, (fun_mk (st := s_is_book) l3 c3 k3).binds fun _ _ _ _ _ _ us hl => match us, hl with | [_, _], _ => rfl⟩,
    ⟨fa4, _, PySem.W.mg_of X G a4, fun_mk (st := s_law_draw) l4 c4 k4, (fun_mk (st := s_law_draw) l4 c4 k4).binds fun _ _ _ _ _ _ us hl => match us, hl with | [_, _, _], _ => rfl⟩,
    ⟨fa5, _, PySem.W.mg_of X G a5, fun_mk (st := s_law_begun) l5 c5 k5, (fun_mk (st := s_law_begun) l5 c5 k5).binds fun _ _ _ _ _ _ us hl => match us, hl with | [], _ => rfl⟩,
    ⟨fa6, _, PySem.W.mg_of X G a6, fun_mk (st := s_law_a_lot) l6 c6 k6, (fun_mk (st := s_law_a_lot) l6 c6 k6).binds fun _ _ _ _ _ _ us hl => match us, hl with | [_, _, _], _ => rfl⟩,
    ⟨fa7, _, PySem.W.mg_of X G a7, fun_mk (st := s_law_a_row) l7 c7 k7, (fun_mk (st := s_law_a_row) l7 c7 k7).binds fun _ _ _ _ _ _ us hl => match us, hl with | [_, _, _, _], _ => rfl⟩,
    ⟨fa8, _, PySem.W.mg_of X G a8, fun_mk (st := s_law_a_book) l8 c8 k8, (fun_mk (st := s_law_a_book) l8 c8 k8).binds fun _ _ _ _ _ _ us hl => match us, hl with | [_, _, _, _], _ => rfl⟩,
    ⟨fa9, _, PySem.W.mg_of X G a9, fun_mk (st := s_law_is) l9 c9 k9, (fun_mk (st := s_law_is) l9 c9 k9).binds fun _ _ _ _ _ _ us hl => match us, hl with | [_, _], _ => rfl⟩,
    ⟨fa10, _, PySem.W.mg_of X G a10, fun_mk (st := s_law) l10 c10 k10, (fun_mk (st := s_law) l10 c10 k10).binds fun _ _ _ _ _ _ us hl => match us, hl with | [_], _ => rfl⟩⟩
def spLaw (K : PySem.W.Frag) : Sp := fun vs H Q _ => ∃ (a : Addr) (ns : List Int), vs = [.ref a] ∧ SqL K H a (ns.map V.int) ∧ ns.length ≤ 63 ∧ ∀ H', Q (.bl true) H'
theorem law_end {P : Program} {w : World} {K : PySem.W.Frag} {mg : Str → Option Value} {base : Heap} (T : Txt K mg) {fa : Addr} {fd : FuncData} (F : Fun K "law" "law" s_law fa fd) : FnOk P w K mg base CX0 lv_law fa fd ["script"] (spLaw K) := by
  refine FnOk.imp (sp := spOf K ps_law.length A_law) (fn_law T F) fun vs H Q E h => ?_
  obtain ⟨a, ns, rfl, hS, hl, q⟩ := h
  refine ⟨rfl, [], [.scr ns], [], fun a _ => a = .dat (.bl true), ⟨List.nodup_nil, rfl, fun j m e => by cases e⟩, ⟨.ref a, [], rfl, ⟨a, rfl, ?_⟩, rfl⟩, ⟨ns, rfl, rfl, hl, rfl⟩, fun v H2 ad2 a2 M2 _ _ r e => ?_⟩
  · rcases hS with h | h
    · exact .inl ⟨h, List.not_mem_nil⟩
    · exact .inr (.inr h)
  · subst e
    rw [show v = .bl true from r]
    exact q H2
theorem all_mk {l : PySem.W.OpenLaw} {w : World} {K : PySem.W.Frag} {mg : Str → Option Value} {fa : Addr} (T : Txt K mg) (hfa : mg "law" = some (.ref fa)) :
    ∃ fd : FuncData, (∀ (s : Shared) (v : Value), BindsTo s fd ⟨[v], []⟩ [("script", v)]) ∧ ∀ base : Heap, K.In base → base.Ns mainGlobals mg → FnOk l.prog w K mg base CX0 lv_law fa fd ["script"] (spLaw K) := by
  obtain ⟨fa2, fd, hm, F, hb⟩ := T.f_law
  rw [hfa] at hm
  cases hm
  refine ⟨fd, fun s v => ?_, fun base _ _ => law_end T F⟩
  obtain ⟨oc, od, kV, doc, pm, an, cdv, ct, osl, rfl, lk, hcd⟩ := F.ex
  exact .of_eq rfl
end My
open PySem PySem.W PyProof.Rows
theorem PySem.Challenge.cw_suretickets_k01_things_holds : PySem.Challenge.rw_suretickets_k01_things.Holds := by
  w_on; o_law; k_head; (case hw => w_witness2)
  k_fill
  refine L2.walk_of (l := PySem.Challenge.rw_suretickets_k01_things) (n := 63) (k := My.lv_law) (x := "script") (CX := fun _ => L2.CX0) (sp := fun w => My.spLaw _) rfl (by decide) rfl ⟨rfl, by decide, by decide⟩ (fun w h Y => PySem.W.kIn_of Y) ?F (fun _ _ a ns hl _ hS => ⟨a, ns, rfl, hS, hl, fun _ => rfl⟩) (fun _ _ _ _ _ h => h)
  case F =>
    intro w mg fa h KX G hmg
    refine' My.all_mk (My.txt_mk KX G ?z_isinstance ?z_int ?z_bool ?z_tuple ?z_len ?z_all ?z_zip ?z_range ?z_list ?z_sorted ?y_MOST ?a0 ?l0 ?c0 ?k0 ?a1 ?l1 ?c1 ?k1 ?a2 ?l2 ?c2 ?k2 ?a3 ?l3 ?c3 ?k3 ?a4 ?l4 ?c4 ?k4 ?a5 ?l5 ?c5 ?k5 ?a6 ?l6 ?c6 ?k6 ?a7 ?l7 ?c7 ?k7 ?a8 ?l8 ?c8 ?k8 ?a9 ?l9 ?c9 ?k9 ?a10 ?l10 ?c10 ?k10) hmg
    (case z_isinstance => k_is)
    (case z_int => k_is)
    (case z_bool => k_is)
    (case z_tuple => k_is)
    (case z_len => k_is)
    (case z_all => k_is)
    (case z_zip => k_is)
    (case z_range => k_is)
    (case z_list => k_is)
    (case z_sorted => k_is)
    (case y_MOST => k_is)
    (case a0 => k_is)
    (case l0 => k_is)
    (case c0 => k_is)
    (case k0 => k_is)
    (case a1 => k_is)
    (case l1 => k_is)
    (case c1 => k_is)
    (case k1 => k_is)
    (case a2 => k_is)
    (case l2 => k_is)
    (case c2 => k_is)
    (case k2 => k_is)
    (case a3 => k_is)
    (case l3 => k_is)
    (case c3 => k_is)
    (case k3 => k_is)
    (case a4 => k_is)
    (case l4 => k_is)
    (case c4 => k_is)
    (case k4 => k_is)
    (case a5 => k_is)
    (case l5 => k_is)
    (case c5 => k_is)
    (case k5 => k_is)
    (case a6 => k_is)
    (case l6 => k_is)
    (case c6 => k_is)
    (case k6 => k_is)
    (case a7 => k_is)
    (case l7 => k_is)
    (case c7 => k_is)
    (case k7 => k_is)
    (case a8 => k_is)
    (case l8 => k_is)
    (case c8 => k_is)
    (case k8 => k_is)
    (case a9 => k_is)
    (case l9 => k_is)
    (case c9 => k_is)
    (case k9 => k_is)
    (case a10 => k_is)
    (case l10 => k_is)
    (case c10 => k_is)
    (case k10 => k_is)
