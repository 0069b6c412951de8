import PyProof.Rows.All
import Wide.All
import OpenK.AllK
import Wide.FinOn
import PyProof.EqAt
import PyProof.EqKinds
import PyProof.TupleCall
import HandS.ForMost
import HandS.ForExc
import HandS.CallSlots
import HandS.TupAny
import HandS.Style
import HandS.IsInst
import HandS.Codes
import KE.SortData
import HandS.SetKeys
import HandS.SetFor
import HandS.Defaults
import HandS.SortInts
import HandS.Strs
import KE.KDictPairs
import PyProof.StrOps2
import HandS.Text
import HandS.TupMul
import HandS.IntHex
import HandS.HeadHook3
import HandS.RaiseMore
import HandS.Zip
import KE.KWords
import KE.KStrOpen
import KE.KIntText
import PyProof.Rows.StrCase
import KE.KExcInit
import KE.KExcIs
import HandS.ExcInit
import HandS.ExcField
import HandS.ExcOwn
import HandS.ExcIs
import KE.KDictList
import HandS.More
import HandS.Conv
import KE.IntTextLaws
import PyProof.StrLawsChain
import PyProof.StrLawsTight
import PyProof.Rows.StrItems
import HandS.MakeKw
import HandS.SortKw
import HandS.Deep
import KE.GoesEnum
import KE.GoesEnumKw
import KE.GoesMore
import HandS.HotCalls
import KE.GoesZip
import HandS.OwnEq
import PySem.Challenge.RW_whistleboard_k44_without_a_join
set_option Elab.async false
set_option linter.all false
set_option maxRecDepth 100000
set_option maxHeartbeats 0
/-! DLa: values as trees of data, the mutable objects apart; what stands in the heap for them. -/
namespace DL
open PySem L2

/-- (xtp: a tuple whose very object is known, without a dict of its own) data: None, truths, numbers, texts, tuples, lists that are changed no more, dicts that are changed no more, instances that are changed no more; exc: an exception in hand (its dict, its fields); ref: an object that may change, or one of the program's own -/
inductive D where
  | non | bl (b : Bool) | int (i : Int) | str (x : Str) | ty (n : String) | ref (a : Addr)
  | tup (xs : List D) | lst (xs : List D)
  | ktp (xs : List D)
  | xtp (xs : List D)
  | scr (ns : List Int)
  | dct (ks : List Key) (xs : List D)
  | ins (C : Addr) (ns : List Str) (xs : List D)
  | exc (a : Addr) (dx : Option Addr) (ns : List Str) (xs : List D)

/-- objects that may change -/
inductive MO where
  | lst (xs : List D)
  | dK (kvs : List (Key × D))
  | dT (kvs : List (List Key × D))
  | ins (C : Addr) (fs : List (Str × D))
  | lk (ho : HO) (kvs : List (Key × D))
  | lkT (ho : HO) (kvs : List (List Key × D))
  | bag
abbrev Mst := Addr → Option MO

/-- a key that is an int, or a text as they are -/
def kOk : Key → Prop
  | .inl _ => True
  | .inr x => x.length ≤ sizeLine ∧ PyData.strOk x = true
mutual
def Rep (K : PySem.W.Frag) (G : Hp) : D → V → Prop
  | .non, v => v = .non
  | .bl b, v => v = .bl b
  | .int i, v => v = .int i
  | .str x, v => v = .str x ∧ x.length ≤ sizeLine ∧ PyData.strOk x = true
  | .ty n, v => v = .ty n
  | .ref a, v => v = .ref a
  | .tup ds, v => ∃ a vs, v = .ref a ∧ G a = some (.tup vs) ∧ RepL K G ds vs ∧ vs.length ≤ sizeLine
  | .ktp ds, v => ∃ a vs, v = .ref a ∧ SqT K G a vs ∧ RepL K G ds vs ∧ vs.length ≤ sizeLine
  | .xtp ds, v => ∃ a o vs, v = .ref a ∧ G a = some (.frz o (.tup vs)) ∧ o.dict = none ∧ RepL K G ds vs ∧ vs.length ≤ sizeLine
  | .lst ds, v => ∃ a vs, v = .ref a ∧ G a = some (.lst vs) ∧ RepL K G ds vs ∧ vs.length ≤ sizeLine
  | .scr ns, v => ∃ a, v = .ref a ∧ SqL K G a (ns.map V.int) ∧ ns.length ≤ 63
  | .dct ks ds, v => ∃ a kvs, v = .ref a ∧ Rd G a (.dK kvs) ∧ kvs.map (·.1) = ks ∧ RepL K G ds (kvs.map (·.2)) ∧ kvs.length ≤ sizeLine ∧ ∀ k ∈ ks, kOk k
  | .ins C ns ds, v => ∃ a dx fs, v = .ref a ∧ G a = some (.ins C dx fs) ∧ fs.map (·.1) = ns ∧ RepL K G ds (fs.map (·.2))
  | .exc a dx ns ds, v => v = .ref a ∧ (ns = [] ∧ dx = none ∨ ∃ d fs, dx = some d ∧ G d = some (.xd fs) ∧ fs.map (·.1) = ns ∧ RepL K G ds (fs.map (·.2)))
def RepL (K : PySem.W.Frag) (G : Hp) : List D → List V → Prop
  | [], vs => vs = []
  | d :: ds, vs => ∃ v r, vs = v :: r ∧ Rep K G d v ∧ RepL K G ds r
end

theorem same_rd {H H' : Hp} {a : Addr} {u : HO} (e : Same H H') (h : Rd H a u) : Rd H' a u := by
  rcases h with h | ⟨o, h⟩
  · exact .inl (e _ _ h)
  · exact .inr ⟨o, e _ _ h⟩
theorem same_t {K : PySem.W.Frag} {H H' : Hp} {a : Addr} {xs : List V} (e : Same H H') (h : SqT K H a xs) : SqT K H' a xs := by
  rcases h with h | h
  · exact .inl (same_rd e h)
  · exact .inr h
theorem same_l {K : PySem.W.Frag} {H H' : Hp} {a : Addr} {xs : List V} (e : Same H H') (h : SqL K H a xs) : SqL K H' a xs := e.seq h
mutual
theorem Rep.mono {K : PySem.W.Frag} {G G' : Hp} (e : Same G G') : ∀ (d : D) (v : V), Rep K G d v → Rep K G' d v
  | .non, _, h => h
  | .bl _, _, h => h
  | .int _, _, h => h
  | .str _, _, h => h
  | .ty _, _, h => h
  | .ref _, _, h => h
  | .tup ds, _, ⟨a, vs, h1, h2, h3, h4⟩ => ⟨a, vs, h1, e _ _ h2, RepL.mono e ds vs h3, h4⟩
  | .ktp ds, _, ⟨a, vs, h1, h2, h3, h4⟩ => ⟨a, vs, h1, same_t e h2, RepL.mono e ds vs h3, h4⟩
  | .xtp ds, _, ⟨a, o, vs, h1, h2, h3, h4, h5⟩ => ⟨a, o, vs, h1, e _ _ h2, h3, RepL.mono e ds vs h4, h5⟩
  | .lst ds, _, ⟨a, vs, h1, h2, h3, h4⟩ => ⟨a, vs, h1, e _ _ h2, RepL.mono e ds vs h3, h4⟩
  | .scr _, _, ⟨a, h1, h2, h3⟩ => ⟨a, h1, same_l e h2, h3⟩
  | .dct _ ds, _, ⟨a, kvs, h1, h2, h3, h4, h5, h6⟩ => ⟨a, kvs, h1, same_rd e h2, h3, RepL.mono e ds _ h4, h5, h6⟩
  | .ins _ _ ds, _, ⟨a, dx, fs, h1, h2, h3, h4⟩ => ⟨a, dx, fs, h1, e _ _ h2, h3, RepL.mono e ds _ h4⟩
  | .exc _ _ _ ds, _, ⟨h0, h⟩ => ⟨h0, h.imp id fun ⟨d, fs, h1, h2, h3, h4⟩ => ⟨d, fs, h1, e _ _ h2, h3, RepL.mono e ds _ h4⟩⟩
theorem RepL.mono {K : PySem.W.Frag} {G G' : Hp} (e : Same G G') : ∀ (ds : List D) (vs : List V), RepL K G ds vs → RepL K G' ds vs
  | [], _, h => h
  | d :: ds, _, ⟨v, r, h1, h2, h3⟩ => ⟨v, r, h1, Rep.mono e d v h2, RepL.mono e ds r h3⟩
end
section
variable {K : PySem.W.Frag} {G G' H H' : Hp} {d : D} {ds : List D} {v : V} {vs : List V}
theorem RepL.nil : RepL K G [] [] := rfl
theorem RepL.cons (h : Rep K G d v) (r : RepL K G ds vs) : RepL K G (d :: ds) (v :: vs) := ⟨v, vs, rfl, h, r⟩
theorem RepL.length : ∀ {ds : List D} {vs : List V}, RepL K G ds vs → vs.length = ds.length
  | [], _, h => by cases h; rfl
  | d :: ds, _, ⟨v, r, h1, h2, h3⟩ => by cases h1; simp [RepL.length h3]
theorem RepL.get : ∀ {ds : List D} {vs : List V} {i : Nat} {d : D}, RepL K G ds vs → ds[i]? = some d → ∃ v, vs[i]? = some v ∧ Rep K G d v
  | [], _, _, _, h, e => by simp at e
  | d :: ds, _, 0, _, ⟨v, r, h1, h2, h3⟩, e => by cases h1; simp at e; subst e; exact ⟨v, rfl, h2⟩
  | d :: ds, _, i + 1, _, ⟨v, r, h1, h2, h3⟩, e => by
    cases h1
    obtain ⟨u, a, b⟩ := RepL.get (i := i) h3 (by simpa using e)
    exact ⟨u, by simpa using a, b⟩
theorem RepL.getV : ∀ {ds : List D} {vs : List V} {i : Nat} {v : V}, RepL K G ds vs → vs[i]? = some v → ∃ d, ds[i]? = some d ∧ Rep K G d v
  | [], _, _, _, h, e => by cases h; simp at e
  | d :: ds, _, 0, _, ⟨v, r, h1, h2, h3⟩, e => by cases h1; simp at e; subst e; exact ⟨d, rfl, h2⟩
  | d :: ds, _, i + 1, _, ⟨v, r, h1, h2, h3⟩, e => by
    cases h1
    obtain ⟨u, a, b⟩ := RepL.getV (i := i) h3 (by simpa using e)
    exact ⟨u, by simpa using a, b⟩
theorem RepL.append : ∀ {ds es : List D} {vs us : List V}, RepL K G ds vs → RepL K G es us → RepL K G (ds ++ es) (vs ++ us)
  | [], _, _, _, h, r => by cases h; simpa using r
  | d :: ds, _, _, _, ⟨v, q, h1, h2, h3⟩, r => by
    cases h1
    exact ⟨v, _, rfl, h2, RepL.append h3 r⟩
theorem RepL.take : ∀ {ds : List D} {vs : List V} (n : Nat), RepL K G ds vs → RepL K G (ds.take n) (vs.take n)
  | [], _, n, h => by cases h; simp; rfl
  | d :: ds, _, 0, h => by simp; rfl
  | d :: ds, _, n + 1, ⟨v, q, h1, h2, h3⟩ => by
    cases h1
    exact ⟨v, _, rfl, h2, RepL.take n h3⟩
theorem RepL.drop : ∀ {ds : List D} {vs : List V} (n : Nat), RepL K G ds vs → RepL K G (ds.drop n) (vs.drop n)
  | [], _, n, h => by cases h; simp; rfl
  | d :: ds, _, 0, h => by simpa using h
  | d :: ds, _, n + 1, ⟨v, q, h1, h2, h3⟩ => by
    cases h1
    simpa using RepL.drop n h3
theorem RepL.set : ∀ {ds : List D} {vs : List V} (n : Nat), RepL K G ds vs → Rep K G d v → RepL K G (ds.set n d) (vs.set n v)
  | [], _, n, h, _ => by cases h; simp; rfl
  | e :: ds, _, 0, ⟨w, q, h1, h2, h3⟩, r => by cases h1; exact ⟨v, _, rfl, r, h3⟩
  | e :: ds, _, n + 1, ⟨w, q, h1, h2, h3⟩, r => by
    cases h1
    exact ⟨w, _, rfl, h2, RepL.set n h3 r⟩
theorem RepL.reverse : ∀ {ds : List D} {vs : List V}, RepL K G ds vs → RepL K G ds.reverse vs.reverse
  | [], _, h => by cases h; simp; rfl
  | d :: ds, _, ⟨v, q, h1, h2, h3⟩ => by
    cases h1
    rw [List.reverse_cons, List.reverse_cons]
    exact RepL.append (RepL.reverse h3) (RepL.cons h2 rfl)
end

/-- what a mutable object is -/
def RepM (K : PySem.W.Frag) (G H : Hp) (a : Addr) : MO → Prop
  | .lst ds => ∃ vs, H a = some (.lst vs) ∧ RepL K G ds vs ∧ vs.length ≤ sizeLine
  | .dK kvs => ∃ kv : List (Key × V), H a = some (.dK kv) ∧ kv.map (·.1) = kvs.map (·.1) ∧ RepL K G (kvs.map (·.2)) (kv.map (·.2)) ∧ kv.length ≤ sizeLine ∧ ∀ q ∈ kvs, kOk q.1
  | .dT kvs => ∃ kv : List (List Key × V), H a = some (.dT kv) ∧ kv.map (·.1) = kvs.map (·.1) ∧ RepL K G (kvs.map (·.2)) (kv.map (·.2)) ∧ kv.length ≤ sizeLine ∧ ∀ q ∈ kvs, q.1.length ≤ sizeLine ∧ ∀ k ∈ q.1, kOk k
  | .ins C fs => ∃ dx fv, H a = some (.ins C dx fv) ∧ fv.map (·.1) = fs.map (·.1) ∧ RepL K G (fs.map (·.2)) (fv.map (·.2))
  | .lk ho kvs => ∃ (o : Obj) (kv : List (Key × V)), ho = .frz o (.dK kv) ∧ H a = some ho ∧ kv.map (·.1) = kvs.map (·.1) ∧ RepL K G (kvs.map (·.2)) (kv.map (·.2)) ∧ kv.length ≤ sizeLine ∧ ∀ q ∈ kvs, kOk q.1
  | .lkT ho kvs => ∃ (o : Obj) (kv : List (List Key × V)), ho = .frz o (.dT kv) ∧ H a = some ho ∧ kv.map (·.1) = kvs.map (·.1) ∧ RepL K G (kvs.map (·.2)) (kv.map (·.2)) ∧ kv.length ≤ sizeLine ∧ ∀ q ∈ kvs, q.1.length ≤ sizeLine ∧ ∀ k ∈ q.1, kOk k
  | .bag => ∃ g m : Int, H a = some (.lst [.int g, .int m]) ∧ 0 ≤ g ∧ 0 ≤ m ∧ m < 2147483648
/-- the mutable objects stand in H, apart from what is known for good (G) -/
def MemOk (K : PySem.W.Frag) (G H : Hp) (M : Mst) : Prop := ∀ a o, M a = some o → G a = none ∧ RepM K G H a o
abbrev Rho := List (Option D)
/-- the slots, the heap and what is known of them -/
structure Sim (K : PySem.W.Frag) (G H : Hp) (p : Rho) (M : Mst) (s : St) : Prop where
  same : Same G H
  env : ∀ (i : Nat) (d : D), p[i]? = some (some d) → ∃ v, s[i]? = some (some v) ∧ Rep K G d v
  len : s.length = p.length
  mem : MemOk K G H M

/-- an exception: its class, its fields -/
structure DX where
  cls : Value
  fs : List (Str × D)
def RepX (K : PySem.W.Frag) (G : Hp) (x : DX) (cls : Value) (dx : Option Addr) : Prop :=
  cls = x.cls ∧ (x.fs = [] ∧ (∀ C, x.cls = .ref C → dx = none) ∨ ∃ d vf, dx = some d ∧ G d = some (.xd vf) ∧ vf.map (·.1) = x.fs.map (·.1) ∧ RepL K G (x.fs.map (·.2)) (vf.map (·.2)))

abbrev DK := D → Mst → Prop
abbrev DWt := DX → Rho → Mst → Prop
abbrev DTE := DWt → Rho → Mst → DK → Prop
abbrev DTT := DWt → Rho → Mst → (Bool → Mst → Prop) → Prop
abbrev DTA := DWt → Rho → Mst → (List D → Mst → Prop) → Prop
structure DEnds where
  nx : Rho → Mst → Prop
  rt : DK
  bk : Rho → Mst → Prop := fun _ _ => False
  ct : Rho → Mst → Prop := fun _ _ => False
abbrev DTS := DWt → DEnds → Rho → Mst → Prop
abbrev DTG := D → DWt → Rho → Mst → (Rho → Mst → Prop) → Prop
abbrev DTGs := List D → DWt → Rho → Mst → (Rho → Mst → Prop) → Prop
abbrev DOp := D → D → Mst → DK → Prop
abbrev DUn := D → Mst → DK → Prop
abbrev DCa := List D → Mst → DK → Prop
/-- a promise by data -/
abbrev DSp := List D → Mst → DK → (DX → Mst → Prop) → Prop

/-- the wish about exceptions -/
def WLink (K : PySem.W.Frag) (G : Hp) (DW : DWt) (W : WX) : Prop := ∀ G' H' p' M' s' x cls dx, Same G G' → Sim K G' H' p' M' s' → RepX K G' x cls dx → DW x p' M' → W cls dx s' H'
theorem WLink.mono {K : PySem.W.Frag} {G G' : Hp} {DW : DWt} {W : WX} (e : Same G G') (h : WLink K G DW W) : WLink K G' DW W :=
  fun G2 H' p' M' s' x cls dx e2 => h G2 H' p' M' s' x cls dx (e.trans e2)

def RefE (K : PySem.W.Frag) (W : WX) (t : TE) (q : DTE) : Prop := ∀ DW G H p M s (Q : DK) (Q' : VK), WLink K G DW W → Sim K G H p M s → q DW p M Q →
  (∀ G' H' M' d v, Same G G' → Sim K G' H' p M' s → Rep K G' d v → Q d M' → Q' v H') → t s H Q'
def RefT (K : PySem.W.Frag) (W : WX) (t : TT) (q : DTT) : Prop := ∀ DW G H p M s (Q : Bool → Mst → Prop) (Q' : Bool → Hp → Prop), WLink K G DW W → Sim K G H p M s → q DW p M Q →
  (∀ G' H' M' b, Same G G' → Sim K G' H' p M' s → Q b M' → Q' b H') → t s H Q'
def RefA (K : PySem.W.Frag) (W : WX) (t : TA) (q : DTA) : Prop := ∀ DW G H p M s (Q : List D → Mst → Prop) (Q' : List V → Hp → Prop), WLink K G DW W → Sim K G H p M s → q DW p M Q →
  (∀ G' H' M' ds vs, Same G G' → Sim K G' H' p M' s → RepL K G' ds vs → Q ds M' → Q' vs H') → t s H Q'
structure EndsOk (K : PySem.W.Frag) (G : Hp) (DE : DEnds) (E : Ends) : Prop where
  nx : ∀ G' H' p' M' s', Same G G' → Sim K G' H' p' M' s' → DE.nx p' M' → E.nx s' H'
  rt : ∀ G' H' p' M' s' d v, Same G G' → Sim K G' H' p' M' s' → Rep K G' d v → DE.rt d M' → E.rt v H'
  bk : ∀ G' H' p' M' s', Same G G' → Sim K G' H' p' M' s' → DE.bk p' M' → E.bk s' H'
  ct : ∀ G' H' p' M' s', Same G G' → Sim K G' H' p' M' s' → DE.ct p' M' → E.ct s' H'
theorem EndsOk.mono {K : PySem.W.Frag} {G G' : Hp} {DE : DEnds} {E : Ends} (e : Same G G') (h : EndsOk K G DE E) : EndsOk K G' DE E :=
  ⟨fun G2 H' p' M' s' e2 => h.nx G2 H' p' M' s' (e.trans e2), fun G2 H' p' M' s' d v e2 => h.rt G2 H' p' M' s' d v (e.trans e2),
    fun G2 H' p' M' s' e2 => h.bk G2 H' p' M' s' (e.trans e2), fun G2 H' p' M' s' e2 => h.ct G2 H' p' M' s' (e.trans e2)⟩
def RefS (K : PySem.W.Frag) (W : WX) (t : TS) (q : DTS) : Prop := ∀ DW G H p M s (DE : DEnds) (E : Ends), WLink K G DW W → Sim K G H p M s → q DW DE p M → EndsOk K G DE E → t E s H
def RefG (K : PySem.W.Frag) (W : WX) (t : TG) (q : DTG) : Prop := ∀ DW G H p M s d v (Q : Rho → Mst → Prop) (Q' : St → Hp → Prop), WLink K G DW W → Sim K G H p M s → Rep K G d v → q d DW p M Q →
  (∀ G' H' p' M' s', Same G G' → Sim K G' H' p' M' s' → Q p' M' → Q' s' H') → t v s H Q'
def RefGs (K : PySem.W.Frag) (W : WX) (t : TGs) (q : DTGs) : Prop := ∀ DW G H p M s ds vs (Q : Rho → Mst → Prop) (Q' : St → Hp → Prop), WLink K G DW W → Sim K G H p M s → RepL K G ds vs → q ds DW p M Q →
  (∀ G' H' p' M' s', Same G G' → Sim K G' H' p' M' s' → Q p' M' → Q' s' H') → t vs s H Q'
/-- rules by values -/
def RefR2 (K : PySem.W.Frag) (r : R2) (q : DOp) : Prop := ∀ G H p M s x y v u (Q : DK) (Q' : VK), Sim K G H p M s → Rep K G x v → Rep K G y u → q x y M Q →
  (∀ G' H' M' d w, Same G G' → Sim K G' H' p M' s → Rep K G' d w → Q d M' → Q' w H') → r v u H Q'
def RefU (K : PySem.W.Frag) (r : V → Hp → VK → Prop) (q : DUn) : Prop := ∀ G H p M s x v (Q : DK) (Q' : VK), Sim K G H p M s → Rep K G x v → q x M Q →
  (∀ G' H' M' d w, Same G G' → Sim K G' H' p M' s → Rep K G' d w → Q d M' → Q' w H') → r v H Q'
def RefC (K : PySem.W.Frag) (r : List V → Hp → VK → Prop) (q : DCa) : Prop := ∀ G H p M s ds vs (Q : DK) (Q' : VK), Sim K G H p M s → RepL K G ds vs → q ds M Q →
  (∀ G' H' M' d w, Same G G' → Sim K G' H' p M' s → Rep K G' d w → Q d M' → Q' w H') → r vs H Q'

structure QE (X : Cx) (W : WX) (e : Expr) (t : TE) (q : DTE) : Prop where
  pe : PE X e t
  rf : RefE X.K W t q
structure QT (X : Cx) (W : WX) (e : Expr) (t : TT) (q : DTT) : Prop where
  pe : PT X e t
  rf : RefT X.K W t q
structure QW (X : Cx) (W : WX) (e : Expr) (t : TT) (q : DTT) : Prop where
  pe : PW X e t
  rf : RefT X.K W t q
structure QA (X : Cx) (W : WX) (es : List Expr) (t : TA) (q : DTA) : Prop where
  pe : PA X es t
  rf : RefA X.K W t q
structure QS (X : Cx) (W : WX) (st : Stmt) (t : TS) (q : DTS) : Prop where
  pe : PS X st t
  rf : RefS X.K W t q
structure QSs (X : Cx) (W : WX) (st : List Stmt) (t : TS) (q : DTS) : Prop where
  pe : PSs X st t
  rf : RefS X.K W t q
structure QG (X : Cx) (W : WX) (tg : Expr) (t : TG) (q : DTG) : Prop where
  pe : PG X tg t
  rf : RefG X.K W t q
structure QGs (X : Cx) (W : WX) (tg : List Expr) (t : TGs) (q : DTGs) : Prop where
  pe : PGs X tg t
  rf : RefGs X.K W t q
structure QOp (X : Cx) (f : Value → Value → Sem Value) (r : R2) (q : DOp) : Prop where
  op : OpR X f r
  rf : RefR2 X.K r q
structure QCa (X : Cx) (f : Value) (r : List V → Hp → VK → Prop) (q : DCa) : Prop where
  op : CallR X f r
  rf : RefC X.K r q
theorem QW.t {X : Cx} {W : WX} {e : Expr} {t : TT} {q : DTT} (h : QW X W e t q) : QT X W e t q := ⟨h.pe.pt, h.rf⟩

/-! ### the mutable store -/
def put (M : Mst) (a : Addr) (o : MO) : Mst := fun b => if b = a then some o else M b
def del (M : Mst) (a : Addr) : Mst := fun b => if b = a then none else M b
section
variable {M : Mst} {a b : Addr} {o u : MO}
@[simp] theorem put_same : put M a o a = some o := by simp [put]
theorem put_ne (h : b ≠ a) : put M a o b = M b := by simp [put, h]
@[simp] theorem put_put : put (put M a o) a u = put M a u := by
  funext c; unfold put; split <;> rfl
@[simp] theorem del_put (h : M a = none) : del (put M a o) a = M := by
  funext c
  unfold del put
  split
  · next e => rw [e, h]
  · rfl
theorem put_comm (h : a ≠ b) : put (put M a o) b u = put (put M b u) a o := by
  funext c; unfold put
  by_cases h1 : c = b
  · by_cases h2 : c = a
    · exact absurd (h2.symm.trans h1) h
    · simp [h1, h2, Ne.symm h]
  · simp [h1]
theorem put_id (h : M a = some o) : put M a o = M := by
  funext c; unfold put; split
  · next e => rw [e, h]
  · rfl
end

section
variable {K : PySem.W.Frag} {G G' H H' : Hp} {p : Rho} {M : Mst} {s : St} {a : Addr} {o : HO} {mo : MO}
theorem RepM.mono {a : Addr} {mo : MO} (e : Same G G') (h : RepM K G H a mo) (hh : H' a = H a) : RepM K G' H' a mo := by
  cases mo with
  | lst ds => obtain ⟨vs, h1, h2, h3⟩ := h; exact ⟨vs, hh.trans h1, RepL.mono e _ _ h2, h3⟩
  | dK kvs => obtain ⟨vs, h1, h2, h3, h4⟩ := h; exact ⟨vs, hh.trans h1, h2, RepL.mono e _ _ h3, h4⟩
  | dT kvs => obtain ⟨vs, h1, h2, h3, h4⟩ := h; exact ⟨vs, hh.trans h1, h2, RepL.mono e _ _ h3, h4⟩
  | ins C fs => obtain ⟨dx, vs, h1, h2, h3⟩ := h; exact ⟨dx, vs, hh.trans h1, h2, RepL.mono e _ _ h3⟩
  | lk ho kvs => obtain ⟨o, vs, h0, h1, h2, h3, h4⟩ := h; exact ⟨o, vs, h0, hh.trans h1, h2, RepL.mono e _ _ h3, h4⟩
  | lkT ho kvs => obtain ⟨o, vs, h0, h1, h2, h3, h4⟩ := h; exact ⟨o, vs, h0, hh.trans h1, h2, RepL.mono e _ _ h3, h4⟩
  | bag => obtain ⟨g, m, h1, h2⟩ := h; exact ⟨g, m, hh.trans h1, h2⟩
theorem RepM.there (h : RepM K G H a mo) : ∃ o, H a = some o := by
  cases mo with
  | lst ds => obtain ⟨vs, h1, _⟩ := h; exact ⟨_, h1⟩
  | dK ds => obtain ⟨vs, h1, _⟩ := h; exact ⟨_, h1⟩
  | dT ds => obtain ⟨vs, h1, _⟩ := h; exact ⟨_, h1⟩
  | ins C ds => obtain ⟨dx, vs, h1, _⟩ := h; exact ⟨_, h1⟩
  | lk ho ds => obtain ⟨o, vs, _, h1, _⟩ := h; exact ⟨_, h1⟩
  | lkT ho ds => obtain ⟨o, vs, _, h1, _⟩ := h; exact ⟨_, h1⟩
  | bag => obtain ⟨g, vs, h1, _⟩ := h; exact ⟨_, h1⟩
theorem MemOk.fresh (h : MemOk K G H M) (e : H a = none) : M a = none := by
  cases q : M a with
  | none => rfl
  | some u =>
    obtain ⟨o, r⟩ := (h a u q).2.there
    rw [e] at r; cases r
theorem Same.upd (e : Same G H) (hn : H a = none) : Same (upd G a o) (upd H a o) := fun b u q => by
  by_cases h : b = a
  · subst h; rw [upd_same] at q ⊢; exact q
  · rw [upd_ne h] at q ⊢; exact e _ _ q
theorem same_new (hn : H a = none) : Same H (upd H a o) := fun b u q => by rw [upd_ne (ne_of_none q hn)]; exact q
/-- what is frozen grows by what is not mutable -/
theorem MemOk.grow (h : MemOk K G H M) (e : Same G G') (hk : ∀ b u, M b = some u → H' b = H b) (hg : ∀ b u, M b = some u → G' b = none) : MemOk K G' H' M := fun b u q =>
  ⟨hg b u q, (h b u q).2.mono e (hk b u q)⟩
/-- a new object that will not change -/
theorem Sim.made (S : Sim K G H p M s) (hn : H a = none) : Same G (L2.upd G a o) ∧ Sim K (L2.upd G a o) (L2.upd H a o) p M s := by
  have gn : G a = none := S.same.free hn
  have mn : M a = none := S.mem.fresh hn
  have e : Same G (L2.upd G a o) := same_new gn
  have ne : ∀ b u, M b = some u → b ≠ a := fun b u q z => by rw [z, mn] at q; cases q
  refine ⟨e, Same.upd S.same hn, fun i d q => ?_, S.len, S.mem.grow e (fun b u q => upd_ne (ne b u q)) (fun b u q => by rw [upd_ne (ne b u q)]; exact (S.mem b u q).1)⟩
  obtain ⟨v, h1, h2⟩ := S.env i d q
  exact ⟨v, h1, Rep.mono e _ _ h2⟩
/-- a mutable object is new, or changes -/
theorem Sim.put (S : Sim K G H p M s) (hg : G a = none) (h : RepM K G (L2.upd H a o) a mo) : Sim K G (L2.upd H a o) p (put M a mo) s := by
  refine ⟨fun b u q => ?_, S.env, S.len, fun b u q => ?_⟩
  · rw [upd_ne (ne_of_none q hg)]; exact S.same b u q
  · by_cases e : b = a
    · subst e; rw [put_same] at q; cases q; exact ⟨hg, h⟩
    · rw [put_ne e] at q
      exact ⟨(S.mem b u q).1, (S.mem b u q).2.mono (Same.refl G) (upd_ne e)⟩
/-- a mutable list will change no more -/
theorem Sim.freeze {ds : List D} (S : Sim K G H p M s) (h : M a = some (.lst ds)) : ∃ G', Same G G' ∧ Sim K G' H p (del M a) s ∧ Rep K G' (.lst ds) (.ref a) := by
  obtain ⟨gn, vs, h1, h2, h3⟩ := S.mem _ _ h
  have e : Same G (L2.upd G a (.lst vs)) := same_new gn
  refine ⟨L2.upd G a (.lst vs), e, ⟨fun b u q => ?_, fun i d q => ?_, S.len, fun b u q => ?_⟩, a, vs, rfl, upd_same, RepL.mono e _ _ h2, h3⟩
  · by_cases z : b = a
    · subst z; rw [upd_same] at q; cases q; exact h1
    · rw [upd_ne z] at q; exact S.same _ _ q
  · obtain ⟨v, r1, r2⟩ := S.env i d q
    exact ⟨v, r1, Rep.mono e _ _ r2⟩
  · by_cases z : b = a
    · subst z; simp [del] at q
    · have q' : M b = some u := by simpa [del, z] using q
      exact ⟨by rw [upd_ne z]; exact (S.mem b u q').1, (S.mem b u q').2.mono e rfl⟩
theorem Sim.freezeD {kvs : List (Key × D)} (S : Sim K G H p M s) (h : M a = some (.dK kvs)) : ∃ G', Same G G' ∧ Sim K G' H p (del M a) s ∧ Rep K G' (.dct (kvs.map (·.1)) (kvs.map (·.2))) (.ref a) := by
  obtain ⟨gn, vs, h1, h2, h3, h4, h5⟩ := S.mem _ _ h
  have e : Same G (L2.upd G a (.dK vs)) := same_new gn
  refine ⟨L2.upd G a (.dK vs), e, ⟨fun b u q => ?_, fun i d q => ?_, S.len, fun b u q => ?_⟩, a, vs, rfl, .inl upd_same, h2, RepL.mono e _ _ h3, h4, fun k hk => by obtain ⟨q, q1, rfl⟩ := List.mem_map.mp hk; exact h5 q q1⟩
  · by_cases z : b = a
    · subst z; rw [upd_same] at q; cases q; exact h1
    · rw [upd_ne z] at q; exact S.same _ _ q
  · obtain ⟨v, r1, r2⟩ := S.env i d q
    exact ⟨v, r1, Rep.mono e _ _ r2⟩
  · by_cases z : b = a
    · subst z; simp [del] at q
    · have q' : M b = some u := by simpa [del, z] using q
      exact ⟨by rw [upd_ne z]; exact (S.mem b u q').1, (S.mem b u q').2.mono e rfl⟩
theorem Sim.freezeI {C : Addr} {fs : List (Str × D)} (S : Sim K G H p M s) (h : M a = some (.ins C fs)) : ∃ G', Same G G' ∧ Sim K G' H p (del M a) s ∧ Rep K G' (.ins C (fs.map (·.1)) (fs.map (·.2))) (.ref a) := by
  obtain ⟨gn, dx, vs, h1, h2, h3⟩ := S.mem _ _ h
  have e : Same G (L2.upd G a (.ins C dx vs)) := same_new gn
  refine ⟨L2.upd G a (.ins C dx vs), e, ⟨fun b u q => ?_, fun i d q => ?_, S.len, fun b u q => ?_⟩, a, dx, vs, rfl, upd_same, h2, RepL.mono e _ _ h3⟩
  · by_cases z : b = a
    · subst z; rw [upd_same] at q; cases q; exact h1
    · rw [upd_ne z] at q; exact S.same _ _ q
  · obtain ⟨v, r1, r2⟩ := S.env i d q
    exact ⟨v, r1, Rep.mono e _ _ r2⟩
  · by_cases z : b = a
    · subst z; simp [del] at q
    · have q' : M b = some u := by simpa [del, z] using q
      exact ⟨by rw [upd_ne z]; exact (S.mem b u q').1, (S.mem b u q').2.mono e rfl⟩
end
end DL

/-! DLb: expressions. -/
namespace DL
open PySem L2

/-- what a mutable object holds now -/
def res (M : Mst) : D → D
  | .ref a => match M a with
    | some (.lst ds) => .lst ds
    | some (.dK kvs) => .dct (kvs.map (·.1)) (kvs.map (·.2))
    | some (.lk _ kvs) => .dct (kvs.map (·.1)) (kvs.map (·.2))
    | some (.ins C fs) => .ins C (fs.map (·.1)) (fs.map (·.2))
    | _ => .ref a
  | .ktp ds => .tup ds
  | .xtp ds => .tup ds
  | d => d
section
variable {M : Mst}
@[simp] theorem res_non : res M .non = .non := rfl
@[simp] theorem res_bl {b} : res M (.bl b) = .bl b := rfl
@[simp] theorem res_int {b} : res M (.int b) = .int b := rfl
@[simp] theorem res_str {b} : res M (.str b) = .str b := rfl
@[simp] theorem res_ty {b} : res M (.ty b) = .ty b := rfl
@[simp] theorem res_tup {b} : res M (.tup b) = .tup b := rfl
@[simp] theorem res_ktp {b} : res M (.ktp b) = .tup b := rfl
@[simp] theorem res_xtp {b} : res M (.xtp b) = .tup b := rfl
@[simp] theorem res_lst {b} : res M (.lst b) = .lst b := rfl
@[simp] theorem res_scr {b} : res M (.scr b) = .scr b := rfl
@[simp] theorem res_dct {b c} : res M (.dct b c) = .dct b c := rfl
@[simp] theorem res_exc {b c d e} : res M (.exc b c d e) = .exc b c d e := rfl
@[simp] theorem res_ins {b c d} : res M (.ins b c d) = .ins b c d := rfl
end
section
variable {K : PySem.W.Frag} {G H : Hp} {p : Rho} {M : Mst} {s : L2.St} {d : D} {v : V}
theorem as_lst {ds : List D} (S : Sim K G H p M s) (r : Rep K G d v) (h : res M d = .lst ds) : ∃ a vs, v = .ref a ∧ H a = some (.lst vs) ∧ RepL K G ds vs ∧ vs.length ≤ sizeLine := by
  cases d with
  | lst es =>
    cases h
    obtain ⟨a, vs, h1, h2, h3, h4⟩ := r
    exact ⟨a, vs, h1, S.same _ _ h2, h3, h4⟩
  | ref a =>
    simp only [res] at h
    split at h
    · next es e =>
      cases h
      obtain ⟨gn, vs, h1, h2, h3⟩ := S.mem _ _ e
      exact ⟨a, vs, r, h1, h2, h3⟩
    · cases h
    · cases h
    · cases h
    · cases h
  | _ => cases h
theorem as_tup {ds : List D} (S : Sim K G H p M s) (r : Rep K G d v) (h : res M d = .tup ds) : ∃ a vs, v = .ref a ∧ SqT K H a vs ∧ RepL K G ds vs ∧ vs.length ≤ sizeLine := by
  cases d with
  | tup es =>
    cases h
    obtain ⟨a, vs, h1, h2, h3, h4⟩ := r
    exact ⟨a, vs, h1, .inl (.inl (S.same _ _ h2)), h3, h4⟩
  | ktp es =>
    cases h
    obtain ⟨a, vs, h1, h2, h3, h4⟩ := r
    exact ⟨a, vs, h1, same_t S.same h2, h3, h4⟩
  | xtp es =>
    cases h
    obtain ⟨a, o, vs, h1, h2, h3, h4, h5⟩ := r
    exact ⟨a, vs, h1, .inl (.inr ⟨o, S.same _ _ h2⟩), h4, h5⟩
  | ref a =>
    simp only [res] at h
    split at h <;> cases h
  | _ => cases h
theorem as_str {x : Str} (r : Rep K G d v) (h : res M d = .str x) : v = .str x ∧ x.length ≤ sizeLine ∧ PyData.strOk x = true := by
  cases d with
  | str es => cases h; exact r
  | ref a =>
    simp only [res] at h
    split at h <;> cases h
  | _ => cases h
theorem as_int {x : Int} (r : Rep K G d v) (h : res M d = .int x) : v = .int x := by
  cases d with
  | int es => cases h; exact r
  | ref a =>
    simp only [res] at h
    split at h <;> cases h
  | _ => cases h
theorem as_bl {x : Bool} (r : Rep K G d v) (h : res M d = .bl x) : v = .bl x := by
  cases d with
  | bl es => cases h; exact r
  | ref a =>
    simp only [res] at h
    split at h <;> cases h
  | _ => cases h
theorem as_dct {ks : List Key} {ds : List D} (S : Sim K G H p M s) (r : Rep K G d v) (h : res M d = .dct ks ds) :
    ∃ a kvs, v = .ref a ∧ Rd H a (.dK kvs) ∧ kvs.map (·.1) = ks ∧ RepL K G ds (kvs.map (·.2)) ∧ kvs.length ≤ sizeLine ∧ ∀ k ∈ ks, kOk k := by
  cases d with
  | dct es fs =>
    cases h
    obtain ⟨a, vs, h1, h2, h3, h4, h5⟩ := r
    exact ⟨a, vs, h1, same_rd S.same h2, h3, h4, h5⟩
  | ref a =>
    simp only [res] at h
    split at h
    · cases h
    · next es e =>
      cases h
      obtain ⟨gn, vs, h1, h2, h3, h4, h5⟩ := S.mem _ _ e
      exact ⟨a, vs, r, .inl h1, h2, h3, h4, fun k hk => by obtain ⟨q, q1, rfl⟩ := List.mem_map.mp hk; exact h5 q q1⟩
    · next es e =>
      cases h
      obtain ⟨gn, o, vs, h0, h1, h2, h3, h4, h5⟩ := S.mem _ _ e
      exact ⟨a, vs, r, .inr ⟨o, by rw [← h0]; exact h1⟩, h2, h3, h4, fun k hk => by obtain ⟨q, q1, rfl⟩ := List.mem_map.mp hk; exact h5 q q1⟩
    · cases h
    · cases h
  | _ => cases h
theorem as_ins {C : Addr} {ns : List Str} {ds : List D} (S : Sim K G H p M s) (r : Rep K G d v) (h : res M d = .ins C ns ds) :
    ∃ a dx fs, v = .ref a ∧ H a = some (.ins C dx fs) ∧ fs.map (·.1) = ns ∧ RepL K G ds (fs.map (·.2)) := by
  cases d with
  | ins es fs gs =>
    cases h
    obtain ⟨a, dx, vs, h1, h2, h3, h4⟩ := r
    exact ⟨a, dx, vs, h1, S.same _ _ h2, h3, h4⟩
  | ref a =>
    simp only [res] at h
    split at h
    · cases h
    · cases h
    · cases h
    · next es e =>
      cases h
      obtain ⟨gn, dx, vs, h1, h2, h3⟩ := S.mem _ _ e
      exact ⟨a, dx, vs, r, h1, h2, h3⟩
    · cases h
  | _ => cases h
end

/-- a list that is made: to be changed later (m), or not -/
def newL (m : Bool) (ds : List D) (M : Mst) (Q : DK) : Prop :=
  match m with
  | true => ∀ a, M a = none → Q (.ref a) (put M a (.lst ds))
  | false => Q (.lst ds) M
@[simp] theorem newL_t {ds M Q} : newL true ds M Q = ∀ a, M a = none → Q (.ref a) (put M a (.lst ds)) := rfl
@[simp] theorem newL_f {ds M Q} : newL false ds M Q = Q (.lst ds) M := rfl
section
variable {K : PySem.W.Frag} {G H : Hp} {p : Rho} {M : Mst} {s : L2.St} {d : D} {v : V} {a : Addr}
theorem newL_ok {m : Bool} {ds : List D} {vs : List V} {Q : DK} {Q' : VK} (S : Sim K G H p M s) (hn : H a = none) (r : RepL K G ds vs) (hl : vs.length ≤ sizeLine) (h : newL m ds M Q)
    (k : ∀ G' H' M' d w, Same G G' → Sim K G' H' p M' s → Rep K G' d w → Q d M' → Q' w H') : Q' (.ref a) (upd H a (.lst vs)) := by
  cases m with
  | true =>
    have h1 := h a (S.mem.fresh hn)
    exact k G _ _ (.ref a) _ (Same.refl _) (S.put (mo := .lst ds) (S.same.free hn) ⟨vs, upd_same, r, hl⟩) rfl h1
  | false =>
    obtain ⟨e, S'⟩ := S.made (o := .lst vs) hn
    exact k _ _ _ (.lst ds) _ e S' ⟨a, vs, rfl, upd_same, RepL.mono e _ _ r, hl⟩ h
theorem newT_ok {ds : List D} {vs : List V} {Q : DK} {Q' : VK} (S : Sim K G H p M s) (hn : H a = none) (r : RepL K G ds vs) (hl : vs.length ≤ sizeLine) (h : Q (.tup ds) M)
    (k : ∀ G' H' M' d w, Same G G' → Sim K G' H' p M' s → Rep K G' d w → Q d M' → Q' w H') : Q' (.ref a) (upd H a (.tup vs)) := by
  obtain ⟨e, S'⟩ := S.made (o := .tup vs) hn
  exact k _ _ _ (.tup ds) _ e S' ⟨a, vs, rfl, upd_same, RepL.mono e _ _ r, hl⟩ h
end
theorem sz1000 {n : Nat} (h : n ≤ 100000) : n ≤ sizeLine := Nat.le_trans h (by rw [sizeLine_eq]; decide)

/-! ### names, constants -/
@[simp] def qVar (i : Nat) : DTE := fun _ p M Q => match p[i]? with | some (some d) => Q d M | _ => False
/-- a name whose list (dict, instance) will change no more -/
def qVarF (i : Nat) : DTE := fun _ p M Q => match p[i]? with
  | some (some (.ref a)) => match M a with
    | some (.lst ds) => Q (.lst ds) (del M a)
    | some (.dK kvs) => Q (.dct (kvs.map (·.1)) (kvs.map (·.2))) (del M a)
    | some (.ins C fs) => Q (.ins C (fs.map (·.1)) (fs.map (·.2))) (del M a)
    | _ => False
  | some (some d) => Q d M
  | _ => False
@[simp] def qC (d : D) : DTE := fun _ _ M Q => Q d M
section
variable {X : Cx} {W : WX} {x : Str} {pos : Pos}
theorem qe_var {i : Nat} (h : PE X (.Name x pos) (tVar i)) : QE X W (.Name x pos) (tVar i) (qVar i) := by
  refine ⟨h, fun DW G H p M s Q Q' hw S q k => ?_⟩
  unfold qVar at q
  split at q
  · next d e =>
    obtain ⟨v, h1, h2⟩ := S.env i d e
    exact ⟨v, h1, k G H M d v (Same.refl _) S h2 q⟩
  · exact q.elim
theorem qe_varF {i : Nat} (h : PE X (.Name x pos) (tVar i)) : QE X W (.Name x pos) (tVar i) (qVarF i) := by
  refine ⟨h, fun DW G H p M s Q Q' hw S q k => ?_⟩
  unfold qVarF at q
  split at q
  · next a e =>
    obtain ⟨v, h1, h2⟩ := S.env i _ e
    cases h2
    split at q
    · next ds em =>
      obtain ⟨G', e1, S', r⟩ := S.freeze em
      exact ⟨_, h1, k G' H _ _ _ e1 S' r q⟩
    · next ds em =>
      obtain ⟨G', e1, S', r⟩ := S.freezeD em
      exact ⟨_, h1, k G' H _ _ _ e1 S' r q⟩
    · next C fs em =>
      obtain ⟨G', e1, S', r⟩ := S.freezeI em
      exact ⟨_, h1, k G' H _ _ _ e1 S' r q⟩
    · exact q.elim
  · next d _ e =>
    obtain ⟨v, h1, h2⟩ := S.env i _ e
    exact ⟨v, h1, k G H M d v (Same.refl _) S h2 q⟩
  · exact q.elim
theorem qv (i : Nat) (hN : X.N[i]? = some x := by rfl) (hv : Vis X.env.scope x := by first | exact Or.inl rfl | exact Or.inr (Or.inl rfl) | exact Or.inr (Or.inr rfl)) (hd : (x == ("__debug__" : Str)) = false := by decide)
    (hcd : (x == ("__classdict__" : Str)) = false := by decide) : QE X W (.Name x pos) (tVar i) (qVar i) := qe_var (pe_var hN hv hd hcd)
theorem qvF (i : Nat) (hN : X.N[i]? = some x := by rfl) (hv : Vis X.env.scope x := by first | exact Or.inl rfl | exact Or.inr (Or.inl rfl) | exact Or.inr (Or.inr rfl)) (hd : (x == ("__debug__" : Str)) = false := by decide)
    (hcd : (x == ("__classdict__" : Str)) = false := by decide) : QE X W (.Name x pos) (tVar i) (qVarF i) := qe_varF (pe_var hN hv hd hcd)
theorem qe_c {e : Expr} {v : V} {d : D} (h : PE X e (tC v)) (r : ∀ G, Rep X.K G d v) : QE X W e (tC v) (qC d) :=
  ⟨h, fun DW G H p M s Q Q' hw S q k => k G H M d v (Same.refl _) S (r G) q⟩
theorem q_int {i j pos} : QE X W (.Constant (.int i) j pos) (tC (.int i)) (qC (.int i)) := qe_c pe_int fun _ => rfl
theorem q_bl {i j pos} : QE X W (.Constant (.bool i) j pos) (tC (.bl i)) (qC (.bl i)) := qe_c pe_bl fun _ => rfl
theorem q_non {j pos} : QE X W (.Constant .none j pos) (tC .non) (qC .non) := qe_c pe_non fun _ => rfl
theorem q_str {i j pos} (h : (decide (i.length ≤ 100000) && PyData.strOk i) = true := by decide +kernel) : QE X W (.Constant (.str i) j pos) (tC (.str i)) (qC (.str i)) :=
  qe_c pe_str fun _ => by
    rw [Bool.and_eq_true] at h
    exact ⟨rfl, sz1000 (of_decide_eq_true h.1), h.2⟩
/-- a constant of the module, a def, a class -/
theorem q_glob {x : Str} {v : V} {d : D} {u : Value} {pos : Pos} (hg : Gl X x) (hm : X.mg x = some u) (r : RelV v u) (rd : ∀ G, Rep X.K G d v) (hd : (x == ("__debug__" : Str)) = false := by decide) : QE X W (.Name x pos) (tC v) (qC d) :=
  qe_c (pe_glob hg hm r hd) rd
end

/-! ### arguments, displays -/
@[simp] def qNil : DTA := fun _ _ M Q => Q [] M
@[simp] def qCons (qa : DTE) (qr : DTA) : DTA := fun DW p M Q => qa DW p M fun x M1 => qr DW p M1 fun xs M2 => Q (x :: xs) M2
@[simp] def qTup (qa : DTA) : DTE := fun DW p M Q => qa DW p M fun ds M1 => ds.length ≤ 100000 ∧ Q (.tup ds) M1
@[simp] def qLst (m : Bool) (qa : DTA) : DTE := fun DW p M Q => qa DW p M fun ds M1 => ds.length ≤ 100000 ∧ newL m ds M1 Q
section
variable {X : Cx} {W : WX} {e : Expr} {es : List Expr} {te : TE} {qe : DTE} {t : TA} {q : DTA} {pos : Pos}
theorem qa_nil : QA X W [] tNil qNil := ⟨pa_nil, fun DW G H p M s Q Q' hw S q k => k G H M [] [] (Same.refl _) S rfl q⟩
theorem qa_cons (ha : QE X W e te qe) (hr : QA X W es t q) (hs : starEach (e :: es) X.env = (false, eval e X.env) :: starEach es X.env := by rfl) : QA X W (e :: es) (tCons te t) (qCons qe q) :=
  ⟨pa_cons ha.pe hr.pe hs, fun DW G H p M s Q Q' hw S h k => ha.rf DW G H p M s _ _ hw S h fun G1 H1 M1 d v e1 S1 r1 h1 =>
    hr.rf DW G1 H1 p M1 s _ _ (hw.mono e1) S1 h1 fun G2 H2 M2 ds vs e2 S2 r2 h2 => k G2 H2 M2 _ _ (e1.trans e2) S2 (RepL.cons (Rep.mono e2 _ _ r1) r2) h2⟩
theorem q_tup {x1} (h : QA X W es t q) : QE X W (.Tuple es x1 pos) (tTup t) (qTup q) :=
  ⟨pe_tup h.pe, fun DW G H p M s Q Q' hw S hq k => h.rf DW G H p M s _ _ hw S hq fun G1 H1 M1 ds vs e1 S1 r1 ⟨hl, h1⟩ =>
    have z : vs.length ≤ sizeLine := by rw [r1.length]; exact sz1000 hl
    ⟨z, fun a ha => newT_ok S1 ha r1 z h1 fun G2 H2 M2 d w e2 => k G2 H2 M2 d w (e1.trans e2)⟩⟩
theorem q_lst (m : Bool) (h : QA X W es t q) : QE X W (.List es pos) (tLst t) (qLst m q) :=
  ⟨pe_lst h.pe, fun DW G H p M s Q Q' hw S hq k => h.rf DW G H p M s _ _ hw S hq fun G1 H1 M1 ds vs e1 S1 r1 ⟨hl, h1⟩ =>
    have z : vs.length ≤ sizeLine := by rw [r1.length]; exact sz1000 hl
    ⟨z, fun a ha => newL_ok S1 ha r1 z h1 fun G2 H2 M2 d w e2 => k G2 H2 M2 d w (e1.trans e2)⟩⟩
end

/-! ### operators, built-ins by values -/
@[simp] def qOp (o : DOp) (qa qb : DTE) : DTE := fun DW p M Q => qa DW p M fun x M1 => qb DW p M1 fun y M2 => o x y M2 Q
@[simp] def qUn (o : DUn) (qa : DTE) : DTE := fun DW p M Q => qa DW p M fun x M1 => o x M1 Q
@[simp] def qCB (r : DCa) (qa : DTA) : DTE := fun DW p M Q => qa DW p M fun xs M1 => r xs M1 Q
section
variable {K : PySem.W.Frag} {W : WX}
theorem ref_op {r : R2} {o : DOp} {ta tb : TE} {qa qb : DTE} (hr : RefR2 K r o) (ha : RefE K W ta qa) (hb : RefE K W tb qb) : RefE K W (tOp r ta tb) (qOp o qa qb) :=
  fun DW G H p M s Q Q' hw S h k => ha DW G H p M s _ _ hw S h fun G1 H1 M1 d v e1 S1 r1 h1 =>
    hb DW G1 H1 p M1 s _ _ (hw.mono e1) S1 h1 fun G2 H2 M2 d2 v2 e2 S2 r2 h2 => hr G2 H2 p M2 s d d2 v v2 Q Q' S2 (Rep.mono e2 _ _ r1) r2 h2 fun G3 H3 M3 d w e3 => k G3 H3 M3 d w ((e1.trans e2).trans e3)
theorem ref_un {r : V → Hp → VK → Prop} {o : DUn} {ta : TE} {qa : DTE} (hr : RefU K r o) (ha : RefE K W ta qa) : RefE K W (tUn r ta) (qUn o qa) :=
  fun DW G H p M s Q Q' hw S h k => ha DW G H p M s _ _ hw S h fun G1 H1 M1 d v e1 S1 r1 h1 => hr G1 H1 p M1 s d v Q Q' S1 r1 h1 fun G3 H3 M3 d w e3 => k G3 H3 M3 d w (e1.trans e3)
theorem ref_cb {r : List V → Hp → VK → Prop} {o : DCa} {ta : TA} {qa : DTA} (hr : RefC K r o) (ha : RefA K W ta qa) : RefE K W (tCB r ta) (qCB o qa) :=
  fun DW G H p M s Q Q' hw S h k => ha DW G H p M s _ _ hw S h fun G1 H1 M1 d v e1 S1 r1 h1 => hr G1 H1 p M1 s d v Q Q' S1 r1 h1 fun G3 H3 M3 d w e3 => k G3 H3 M3 d w (e1.trans e3)
end
section
variable {X : Cx} {W : WX} {a b : Expr} {ta tb : TE} {qa qb : DTE} {pos : Pos}
theorem q_op {op : Operator} {r : R2} {o : DOp} (ho : QOp X (binaryOp op) r o) (ha : QE X W a ta qa) (hb : QE X W b tb qb) : QE X W (.BinOp a op b pos) (tOp r ta tb) (qOp o qa qb) := ⟨pe_op ho.op ha.pe hb.pe, ref_op ho.rf ha.rf hb.rf⟩
theorem q_cmp {op : CmpOp} {r : R2} {o : DOp} (ho : QOp X (compareOp op) r o) (ha : QE X W a ta qa) (hb : QE X W b tb qb) (hm : behindInMarks op b = false := by first | exact nomark _ | rfl) : QE X W (.Compare a [op] [b] pos) (tOp r ta tb) (qOp o qa qb) := ⟨pe_cmpR ho.op ha.pe hb.pe hm, ref_op ho.rf ha.rf hb.rf⟩
/-- a truth as a test -/
@[simp] def qTB (q : DTE) : DTT := fun DW p M Q => q DW p M fun d M1 => match d with | .bl b => Q b M1 | _ => False
theorem ref_tb {K : PySem.W.Frag} {t : TE} {q : DTE} (h : RefE K W t q) : RefT K W (tTest t) (qTB q) := fun DW G H p M s Q Q' hw S hq k => h DW G H p M s _ _ hw S hq fun G1 H1 M1 d v e1 S1 r1 h1 => by
  cases d with
  | bl b => cases r1; exact ⟨b, rfl, k G1 H1 M1 b e1 S1 h1⟩
  | _ => exact h1.elim
theorem ref_tb' {K : PySem.W.Frag} {t : TE} {q : DTE} (h : RefE K W t q) : RefT K W (tB t) (qTB q) := ref_tb h
theorem qt_cmp {op : CmpOp} {r : R2} {o : DOp} (ho : QOp X (compareOp op) r o) (ha : QE X W a ta qa) (hb : QE X W b tb qb) (hm : behindInMarks op b = false := by first | exact nomark _ | rfl) : QT X W (.Compare a [op] [b] pos) (tTest (tOp r ta tb)) (qTB (qOp o qa qb)) := ⟨pt_cmpR ho.op ha.pe hb.pe hm, ref_tb (ref_op ho.rf ha.rf hb.rf)⟩
theorem qt_val (ha : QE X W a ta qa) (he : ∀ whole, isTrue a X.env whole = (do let v ← whole; standAt a.pos; holding [v] (truthy v)) := by intro _; rfl) : QT X W a (tB ta) (qTB qa) := ⟨pt_val ha.pe he, ref_tb' ha.rf⟩
def qChain (o o' : DOp) (qa qb qc : DTE) : DTE := fun DW p M Q => qa DW p M fun x M1 => qb DW p M1 fun y M2 => o x y M2 fun z M3 => match z with
  | .bl k => if k = true then qc DW p M3 fun w M4 => o' y w M4 Q else Q (.bl false) M3
  | _ => False
theorem ref_chain {K : PySem.W.Frag} {r r' : R2} {o o' : DOp} {tc : TE} {qc : DTE} (hr : RefR2 K r o) (hr' : RefR2 K r' o') (ha : RefE K W ta qa) (hb : RefE K W tb qb) (hc : RefE K W tc qc) : RefE K W (tChain r r' ta tb tc) (qChain o o' qa qb qc) :=
  fun DW G H p M s Q Q' hw S h k => ha DW G H p M s _ _ hw S h fun G1 H1 M1 d v e1 S1 r1 h1 =>
    hb DW G1 H1 p M1 s _ _ (hw.mono e1) S1 h1 fun G2 H2 M2 d2 v2 e2 S2 r2 h2 => hr G2 H2 p M2 s d d2 v v2 _ _ S2 (Rep.mono e2 _ _ r1) r2 h2 fun G3 H3 M3 d3 w e3 S3 r3 h3 => by
      cases d3 with
      | bl b =>
        cases r3
        refine ⟨b, rfl, ?_⟩
        cases b with
        | false =>
          rw [if_neg Bool.false_ne_true]
          exact k G3 H3 M3 (.bl false) _ ((e1.trans e2).trans e3) S3 rfl h3
        | true =>
          rw [if_pos rfl]
          exact hc DW G3 H3 p M3 s _ _ (hw.mono ((e1.trans e2).trans e3)) S3 h3 fun G4 H4 M4 d4 v4 e4 S4 r4 h4 =>
            hr' G4 H4 p M4 s d2 d4 v2 v4 Q Q' S4 (Rep.mono (e3.trans e4) _ _ r2) r4 h4 fun G5 H5 M5 d w e5 => k G5 H5 M5 d w ((((e1.trans e2).trans e3).trans e4).trans e5)
      | _ => exact h3.elim
theorem q_chain {op op' : CmpOp} {r r' : R2} {o o' : DOp} {c : Expr} {tc : TE} {qc : DTE} (ho : QOp X (compareOp op) r o) (ho' : QOp X (compareOp op') r' o') (ha : QE X W a ta qa) (hb : QE X W b tb qb) (hc : QE X W c tc qc)
    (hm : lastMarks [op, op'] [b, c] = false := by with_unfolding_all rfl) : QE X W (.Compare a [op, op'] [b, c] pos) (tChain r r' ta tb tc) (qChain o o' qa qb qc) :=
  ⟨pe_chain ho.op ho'.op ha.pe hb.pe hc.pe hm, ref_chain ho.rf ho'.rf ha.rf hb.rf hc.rf⟩
theorem qt_chain {op op' : CmpOp} {r r' : R2} {o o' : DOp} {c : Expr} {tc : TE} {qc : DTE} (ho : QOp X (compareOp op) r o) (ho' : QOp X (compareOp op') r' o') (ha : QE X W a ta qa) (hb : QE X W b tb qb) (hc : QE X W c tc qc)
    (hm : lastMarks [op, op'] [b, c] = false := by with_unfolding_all rfl) : QT X W (.Compare a [op, op'] [b, c] pos) (tTest (tChain r r' ta tb tc)) (qTB (qChain o o' qa qb qc)) :=
  ⟨pt_chain ho.op ho'.op ha.pe hb.pe hc.pe hm, ref_tb (ref_chain ho.rf ho'.rf ha.rf hb.rf hc.rf)⟩

/-! ### and, or, not, if .. else -/
@[simp] def qAnd (qt qu : DTT) : DTT := fun DW p M Q => qt DW p M fun c M1 => if c = true then qu DW p M1 Q else Q false M1
@[simp] def qOr (qt qu : DTT) : DTT := fun DW p M Q => qt DW p M fun c M1 => if c = true then Q true M1 else qu DW p M1 Q
@[simp] def qNot (qt : DTT) : DTT := fun DW p M Q => qt DW p M fun c M1 => Q (!c) M1
variable {t u : TT} {qt qu : DTT} {rest : List Expr}
theorem qw_and1 (h : QT X W a t qt) : QW X W (.BoolOp .And [a] pos) t qt := ⟨pw_and1 h.pe, h.rf⟩
theorem qw_or1 (h : QT X W a t qt) : QW X W (.BoolOp .Or [a] pos) t qt := ⟨pw_or1 h.pe, h.rf⟩
theorem qw_and (h : QT X W a t qt) (g : QW X W (.BoolOp .And (b :: rest) pos) u qu) : QW X W (.BoolOp .And (a :: b :: rest) pos) (tAnd t u) (qAnd qt qu) :=
  ⟨pw_and h.pe g.pe, fun DW G H p M s Q Q' hw S hq k => h.rf DW G H p M s _ _ hw S hq fun G1 H1 M1 c e1 S1 h1 => by
    cases c with
    | true =>
      rw [if_pos rfl] at h1 ⊢
      exact g.rf DW G1 H1 p M1 s _ _ (hw.mono e1) S1 h1 fun G2 H2 M2 c e2 => k G2 H2 M2 c (e1.trans e2)
    | false =>
      rw [if_neg Bool.false_ne_true] at h1 ⊢
      exact k G1 H1 M1 false e1 S1 h1⟩
theorem qw_or (h : QT X W a t qt) (g : QW X W (.BoolOp .Or (b :: rest) pos) u qu) : QW X W (.BoolOp .Or (a :: b :: rest) pos) (tOr t u) (qOr qt qu) :=
  ⟨pw_or h.pe g.pe, fun DW G H p M s Q Q' hw S hq k => h.rf DW G H p M s _ _ hw S hq fun G1 H1 M1 c e1 S1 h1 => by
    cases c with
    | true =>
      rw [if_pos rfl] at h1 ⊢
      exact k G1 H1 M1 true e1 S1 h1
    | false =>
      rw [if_neg Bool.false_ne_true] at h1 ⊢
      exact g.rf DW G1 H1 p M1 s _ _ (hw.mono e1) S1 h1 fun G2 H2 M2 c e2 => k G2 H2 M2 c (e1.trans e2)⟩
theorem qt_not (h : QT X W a t qt) : QT X W (.UnaryOp .Not a pos) (tNot t) (qNot qt) :=
  ⟨pt_not h.pe, fun DW G H p M s Q Q' hw S hq k => h.rf DW G H p M s _ _ hw S hq fun G1 H1 M1 c e1 S1 h1 => k G1 H1 M1 _ e1 S1 h1⟩
/-- as values, all truths -/
@[simp] def qAndV (qa qb : DTE) : DTE := fun DW p M Q => qa DW p M fun x M1 => match x with
  | .bl c => if c = true then qb DW p M1 Q else Q (.bl false) M1
  | _ => False
@[simp] def qOrV (qa qb : DTE) : DTE := fun DW p M Q => qa DW p M fun x M1 => match x with
  | .bl c => if c = true then Q (.bl true) M1 else qb DW p M1 Q
  | _ => False
@[simp] def qNotV (qa : DTE) : DTE := fun DW p M Q => qa DW p M fun x M1 => match x with
  | .bl c => Q (.bl (!c)) M1
  | _ => False
theorem q_one {op} (h : QE X W a ta qa) : QE X W (.BoolOp op [a] pos) ta qa := ⟨pe_one h.pe, h.rf⟩
theorem q_and (h : QE X W a ta qa) (g : QE X W (.BoolOp .And (b :: rest) pos) tb qb) : QE X W (.BoolOp .And (a :: b :: rest) pos) (tAndV ta tb) (qAndV qa qb) :=
  ⟨pe_and h.pe g.pe, fun DW G H p M s Q Q' hw S hq k => h.rf DW G H p M s _ _ hw S hq fun G1 H1 M1 d v e1 S1 r1 h1 => by
    cases d with
    | bl c =>
      cases r1
      refine ⟨c, rfl, ?_⟩
      cases c with
      | true =>
        rw [if_pos rfl]
        exact g.rf DW G1 H1 p M1 s _ _ (hw.mono e1) S1 h1 fun G2 H2 M2 d v e2 => k G2 H2 M2 d v (e1.trans e2)
      | false =>
        rw [if_neg Bool.false_ne_true]
        exact k G1 H1 M1 (.bl false) _ e1 S1 rfl h1
    | _ => exact h1.elim⟩
theorem q_or (h : QE X W a ta qa) (g : QE X W (.BoolOp .Or (b :: rest) pos) tb qb) : QE X W (.BoolOp .Or (a :: b :: rest) pos) (tOrV ta tb) (qOrV qa qb) :=
  ⟨pe_or h.pe g.pe, fun DW G H p M s Q Q' hw S hq k => h.rf DW G H p M s _ _ hw S hq fun G1 H1 M1 d v e1 S1 r1 h1 => by
    cases d with
    | bl c =>
      cases r1
      refine ⟨c, rfl, ?_⟩
      cases c with
      | true =>
        rw [if_pos rfl]
        exact k G1 H1 M1 (.bl true) _ e1 S1 rfl h1
      | false =>
        rw [if_neg Bool.false_ne_true]
        exact g.rf DW G1 H1 p M1 s _ _ (hw.mono e1) S1 h1 fun G2 H2 M2 d v e2 => k G2 H2 M2 d v (e1.trans e2)
    | _ => exact h1.elim⟩
theorem q_not (h : QE X W a ta qa) : QE X W (.UnaryOp .Not a pos) (tNotV ta) (qNotV qa) :=
  ⟨pe_not h.pe, fun DW G H p M s Q Q' hw S hq k => h.rf DW G H p M s _ _ hw S hq fun G1 H1 M1 d v e1 S1 r1 h1 => by
    cases d with
    | bl c => cases r1; exact ⟨c, rfl, k G1 H1 M1 (.bl (!c)) _ e1 S1 rfl h1⟩
    | _ => exact h1.elim⟩
@[simp] def qIf (qt : DTT) (qa qb : DTE) : DTE := fun DW p M Q => qt DW p M fun c M1 => if c = true then qa DW p M1 Q else qb DW p M1 Q
theorem q_if {c : Expr} (h : QT X W c t qt) (ha : QE X W a ta qa) (hb : QE X W b tb qb) : QE X W (.IfExp c a b pos) (tIf t ta tb) (qIf qt qa qb) :=
  ⟨pe_ifExp h.pe ha.pe hb.pe, fun DW G H p M s Q Q' hw S hq k => h.rf DW G H p M s _ _ hw S hq fun G1 H1 M1 c e1 S1 h1 => by
    cases c with
    | true =>
      rw [if_pos rfl] at h1 ⊢
      exact ha.rf DW G1 H1 p M1 s _ _ (hw.mono e1) S1 h1 fun G2 H2 M2 d v e2 => k G2 H2 M2 d v (e1.trans e2)
    | false =>
      rw [if_neg Bool.false_ne_true] at h1 ⊢
      exact hb.rf DW G1 H1 p M1 s _ _ (hw.mono e1) S1 h1 fun G2 H2 M2 d v e2 => k G2 H2 M2 d v (e1.trans e2)⟩
end

/-! ### calls of built-ins -/
section
variable {X : Cx} {W : WX} {x : Str} {p pos : Pos} {e : Expr} {es : List Expr} {t : TA} {q : DTA} {id T : String} {r : List V → Hp → VK → Prop} {o : DCa}
theorem q_callB (hc : QCa X (.builtin id) r o) (hg : Gl X x) (hm : X.mg x = none) (hv : bootBuiltins x = some (.builtin id)) (ha : QA X W (e :: es) t q) (hn : x ≠ "__name__" := by decide) (hdb : (x == ("__debug__" : Str)) = false := by decide)
    (he : starEach (e :: es) X.env = (false, eval e X.env) :: starEach es X.env := by rfl) (hpl : (backTo pos (starEach es X.env)).any (·.1) = false := by rfl) : QE X W (.Call (.Name x p) (e :: es) [] pos) (tCB r t) (qCB o q) :=
  ⟨pe_callB hc.op hg hm hv ha.pe hn hdb he hpl, ref_cb hc.rf ha.rf⟩
theorem q_callTy (hc : QCa X (.type T) r o) (hg : Gl X x) (hm : X.mg x = none) (hv : bootBuiltins x = some (.type T)) (ha : QA X W (e :: es) t q) (hn : x ≠ "__name__" := by decide) (hdb : (x == ("__debug__" : Str)) = false := by decide)
    (he : starEach (e :: es) X.env = (false, eval e X.env) :: starEach es X.env := by rfl) (hpl : (backTo pos (starEach es X.env)).any (·.1) = false := by rfl) : QE X W (.Call (.Name x p) (e :: es) [] pos) (tCB r t) (qCB o q) :=
  ⟨pe_callTy hc.op hg hm hv ha.pe hn hdb he hpl, ref_cb hc.rf ha.rf⟩
end
end DL

/-! DLc: operators and built-ins by data. -/
namespace DL
open PySem L2

theorem OpR.or {X : Cx} {f : Value → Value → Sem Value} {r r' : R2} (h : OpR X f r) (h' : OpR X f r') : OpR X f (fun x y H Q => r x y H Q ∨ r' x y H Q) := by
  intro pins s σ H x y v u Q I rx ry q
  rcases q with q | q
  · exact h pins s σ H x y v u Q I rx ry q
  · exact h' pins s σ H x y v u Q I rx ry q
theorem CallR.or {X : Cx} {f : Value} {r r' : List V → Hp → VK → Prop} (h : CallR X f r) (h' : CallR X f r') : CallR X f (fun xs H Q => r xs H Q ∨ r' xs H Q) := by
  intro pins s σ H xs us Q I rs q
  rcases q with q | q
  · exact h pins s σ H xs us Q I rs q
  · exact h' pins s σ H xs us Q I rs q

/-! ### data that may be compared -/
mutual
def pyd : D → PyData
  | .non => .none
  | .bl b => .bool b
  | .int i => .int i
  | .str x => .str x
  | .tup ds => .tuple (pydL ds)
  | .ktp ds => .tuple (pydL ds)
  | .xtp ds => .tuple (pydL ds)
  | .lst ds => .list (pydL ds)
  | _ => .none
def pydL : List D → List PyData
  | [] => []
  | d :: ds => pyd d :: pydL ds
end
mutual
def isData : D → Bool
  | .non => true
  | .bl _ => true
  | .int _ => true
  | .str _ => true
  | .tup ds => isDataL ds
  | .ktp ds => isDataL ds
  | .xtp ds => isDataL ds
  | .lst ds => isDataL ds
  | _ => false
def isDataL : List D → Bool
  | [] => true
  | d :: ds => isData d && isDataL ds
end
/-- how deep -/
def dep (d : D) : Nat := (pyd d).depth
mutual
theorem dp_of {K : PySem.W.Frag} {G H : Hp} (e : Same G H) : ∀ (d : D) (v : V), isData d = true → Rep K G d v → Dp K H v (pyd d)
  | .non, _, _, h => by cases h; exact .non
  | .bl b, _, _, h => by cases h; exact .bl b
  | .int i, _, _, h => by cases h; exact .int i
  | .str x, _, _, h => by obtain ⟨h, _⟩ := h; subst h; exact .str x
  | .tup ds, _, i, ⟨a, vs, h1, h2, h3, h4⟩ => by subst h1; exact .tup (.inl (.inl (e _ _ h2))) (dpl_of e ds vs i h3)
  | .ktp ds, _, i, ⟨a, vs, h1, h2, h3, h4⟩ => by subst h1; exact .tup (same_t e h2) (dpl_of e ds vs i h3)
  | .xtp ds, _, i, ⟨a, o, vs, h1, h2, h3, h4, h5⟩ => by subst h1; exact .tup (.inl (.inr ⟨o, e _ _ h2⟩)) (dpl_of e ds vs i h4)
  | .lst ds, _, i, ⟨a, vs, h1, h2, h3, h4⟩ => by subst h1; exact .lst (.inl (.inl (e _ _ h2))) (dpl_of e ds vs i h3)
  | .scr _, _, i, _ => by cases i
  | .ty _, _, i, _ => by cases i
  | .ref _, _, i, _ => by cases i
  | .dct _ _, _, i, _ => by cases i
  | .ins _ _ _, _, i, _ => by cases i
  | .exc _ _ _ _, _, i, _ => by cases i
theorem dpl_of {K : PySem.W.Frag} {G H : Hp} (e : Same G H) : ∀ (ds : List D) (vs : List V), isDataL ds = true → RepL K G ds vs → DpAll K H vs (pydL ds)
  | [], _, _, h => by cases h; exact .nil
  | d :: ds, _, i, ⟨v, r, h1, h2, h3⟩ => by
    subst h1
    have i' : isData d = true ∧ isDataL ds = true := by simpa [isDataL] using i
    exact .cons (dp_of e d v i'.1 h2) (dpl_of e ds r i'.2 h3)
end
mutual
theorem lay_of {K : PySem.W.Frag} {G : Hp} : ∀ (d : D) (v : V), isData d = true → Rep K G d v → (pyd d).canLay0 = true
  | .non, _, _, _ => rfl
  | .bl b, _, _, _ => rfl
  | .int i, _, _, _ => rfl
  | .str x, _, _, h => h.2.2
  | .tup ds, _, i, ⟨a, vs, h1, h2, h3, h4⟩ => layl_of ds vs i h3
  | .ktp ds, _, i, ⟨a, vs, h1, h2, h3, h4⟩ => layl_of ds vs i h3
  | .xtp ds, _, i, ⟨a, o, vs, h1, h2, h3, h4, h5⟩ => layl_of ds vs i h4
  | .lst ds, _, i, ⟨a, vs, h1, h2, h3, h4⟩ => layl_of ds vs i h3
  | .scr _, _, i, _ => by cases i
  | .ty _, _, i, _ => by cases i
  | .ref _, _, i, _ => by cases i
  | .dct _ _, _, i, _ => by cases i
  | .ins _ _ _, _, i, _ => by cases i
  | .exc _ _ _ _, _, i, _ => by cases i
theorem layl_of {K : PySem.W.Frag} {G : Hp} : ∀ (ds : List D) (vs : List V), isDataL ds = true → RepL K G ds vs → PyData.canLayAll0 (pydL ds) = true
  | [], _, _, _ => rfl
  | d :: ds, _, i, ⟨v, r, h1, h2, h3⟩ => by
    have i' : isData d = true ∧ isDataL ds = true := by simpa [isDataL] using i
    simp only [pydL, PyData.canLayAll0, Bool.and_eq_true]
    exact ⟨lay_of d v i'.1 h2, layl_of ds r i'.2 h3⟩
end
theorem data_of {K : PySem.W.Frag} {G H : Hp} {p : Rho} {M : Mst} {s : L2.St} {d e : D} {v : V} (S : Sim K G H p M s) (r : Rep K G d v) (h : res M d = e) (i : isData e = true) : Dp K H v (pyd e) ∧ (pyd e).canLay0 = true := by
  cases d with
  | ref a =>
    cases e with
    | lst es =>
      obtain ⟨a, vs, h1, h2, h3, h4⟩ := as_lst S r h
      subst h1
      exact ⟨.lst (.inl (.inl h2)) (dpl_of S.same _ _ i h3), layl_of _ _ i h3⟩
    | _ =>
      simp only [res] at h
      split at h <;> first | (cases h; done) | (cases h; cases i)
  | ktp es =>
    cases h
    exact ⟨dp_of S.same (.ktp es) v i r, lay_of (.ktp es) v i r⟩
  | xtp es =>
    cases h
    exact ⟨dp_of S.same (.xtp es) v i r, lay_of (.xtp es) v i r⟩
  | _ => cases h; exact ⟨dp_of S.same _ v i r, lay_of _ v i r⟩
def rEqX (K : PySem.W.Frag) (neg : Bool) : R2 := fun x y H Q => ∃ d e, Dp K H x d ∧ Dp K H y e ∧ d.canLay0 = true ∧ e.canLay0 = true ∧ min d.depth e.depth ≤ 64 ∧ Q (.bl (xor neg (PyData.eqv d e))) H
theorem op_eqX {X : Cx} (hu : X.A.units + 64 < cLine) : OpR X (compareOp .Eq) (rEqX X.K false) := by
  intro pins s σ H x y v u Q I rx ry h
  obtain ⟨d, e, hd, he, sd, se, hm, q⟩ := h
  obtain ⟨as, r1⟩ := Dp.reads I d x v hd rx
  obtain ⟨bs, r2⟩ := Dp.reads I e y u he ry
  refine SeqAt.compareEq_reads r1 r2 sd se (by omega) ⟨.bl _, H, I, rfl, ?_⟩
  simpa using q
theorem op_neX {X : Cx} (hu : X.A.units + 64 < cLine) : OpR X (compareOp .NotEq) (rEqX X.K true) := by
  intro pins s σ H x y v u Q I rx ry h
  obtain ⟨d, e, hd, he, sd, se, hm, q⟩ := h
  obtain ⟨as, r1⟩ := Dp.reads I d x v hd rx
  obtain ⟨bs, r2⟩ := Dp.reads I e y u he ry
  refine SeqAt.compareNe_reads r1 r2 sd se (by omega) ⟨.bl _, H, I, rfl, ?_⟩
  simpa using q
/-- == of data -/
def deq (x y : D) : Bool := PyData.eqv (pyd x) (pyd y)
def deqL (x y : List D) : Bool := PyData.eqvAll (pydL x) (pydL y)
def dEq (neg : Bool) : DOp := fun x y M Q => isData (res M x) = true ∧ isData (res M y) = true ∧ min (dep (res M x)) (dep (res M y)) ≤ 64 ∧ Q (.bl (xor neg (deq (res M x) (res M y)))) M
theorem ref_eq {K : PySem.W.Frag} {neg : Bool} : RefR2 K (rEqX K neg) (dEq neg) := fun G H p M s x y v u Q Q' S r1 r2 ⟨i1, i2, hm, q⟩ k => by
  obtain ⟨a1, a2⟩ := data_of S r1 rfl i1
  obtain ⟨b1, b2⟩ := data_of S r2 rfl i2
  exact ⟨_, _, a1, b1, a2, b2, hm, k G H M (.bl _) _ (Same.refl _) S rfl q⟩
theorem o_eq {X : Cx} (hu : X.A.units + 64 < cLine) : QOp X (compareOp .Eq) (rEqX X.K false) (dEq false) := ⟨op_eqX hu, ref_eq⟩
theorem o_ne {X : Cx} (hu : X.A.units + 64 < cLine) : QOp X (compareOp .NotEq) (rEqX X.K true) (dEq true) := ⟨op_neX hu, ref_eq⟩

/-! ### whole numbers -/
def dInt (C : Int → Int → Prop) (g : Int → Int → Int) : DOp := fun x y M Q => match x, y with
  | .int i, .int j => C i j ∧ Q (.int (g i j)) M
  | _, _ => False
theorem ref_int {K : PySem.W.Frag} {C : Int → Int → Prop} {g : Int → Int → Int} : RefR2 K (rI C fun i j => .int (g i j)) (dInt C g) := fun G H p M s x y v u Q Q' S r1 r2 h k => by
  cases x with
  | int i =>
    cases y with
    | int j => cases r1; cases r2; exact ⟨i, j, rfl, rfl, h.1, k G H M (.int (g i j)) _ (Same.refl _) S rfl h.2⟩
    | _ => exact h.elim
  | _ => exact h.elim
def dInt0 (g : Int → Int → Int) : DOp := fun x y M Q => match x, y with
  | .int i, .int j => Q (.int (g i j)) M
  | _, _ => False
theorem ref_int0 {K : PySem.W.Frag} {g : Int → Int → Int} : RefR2 K (rI0 fun i j => .int (g i j)) (dInt0 g) := fun G H p M s x y v u Q Q' S r1 r2 h k => by
  cases x with
  | int i =>
    cases y with
    | int j => cases r1; cases r2; exact ⟨i, j, rfl, rfl, k G H M (.int (g i j)) _ (Same.refl _) S rfl h⟩
    | _ => exact h.elim
  | _ => exact h.elim
theorem o_sub {X : Cx} : QOp X (binaryOp .Sub) (rI0 fun i j => .int (i - j)) (dInt0 fun i j => i - j) := ⟨op_sub, ref_int0⟩
theorem o_mulI {X : Cx} : QOp X (binaryOp .Mult) (rI CMul fun i j => .int (i * j)) (dInt CMul fun i j => i * j) := ⟨op_mul, ref_int⟩
theorem o_fdiv {X : Cx} : QOp X (binaryOp .FloorDiv) (rI CDiv fun i j => .int (i / j)) (dInt CDiv fun i j => i / j) := ⟨op_fdiv, ref_int⟩
theorem o_mod {X : Cx} : QOp X (binaryOp .Mod) (rI (fun _ j => 0 < j) fun i j => .int (i % j)) (dInt (fun _ j => 0 < j) fun i j => i % j) := ⟨op_mod, ref_int⟩
theorem o_pow {X : Cx} : QOp X (binaryOp .Pow) (rI CPow fun i j => .int (i ^ j.toNat)) (dInt CPow fun i j => i ^ j.toNat) := ⟨op_pow, ref_int⟩
/-- <, <=, >, >= of whole numbers; < of texts -/
def dCmpI (g : Int → Int → Bool) : DOp := fun x y M Q => match x, y with
  | .int i, .int j => Q (.bl (g i j)) M
  | _, _ => False
theorem ref_cmpI {K : PySem.W.Frag} {g : Int → Int → Bool} : RefR2 K (rI0 fun i j => .bl (g i j)) (dCmpI g) := fun G H p M s x y v u Q Q' S r1 r2 h k => by
  cases x with
  | int i =>
    cases y with
    | int j => cases r1; cases r2; exact ⟨i, j, rfl, rfl, k G H M (.bl (g i j)) _ (Same.refl _) S rfl h⟩
    | _ => exact h.elim
  | _ => exact h.elim
theorem o_lt {X : Cx} : QOp X (compareOp .Lt) (rI0 fun i j => .bl (decide (i < j))) (dCmpI fun i j => decide (i < j)) := ⟨op_lt, ref_cmpI⟩
theorem o_le {X : Cx} : QOp X (compareOp .LtE) (rI0 fun i j => .bl (decide (i ≤ j))) (dCmpI fun i j => decide (i ≤ j)) := ⟨op_le, ref_cmpI⟩
theorem o_gt {X : Cx} : QOp X (compareOp .Gt) (rI0 fun i j => .bl (decide (j < i))) (dCmpI fun i j => decide (j < i)) := ⟨op_gt, ref_cmpI⟩
theorem o_ge {X : Cx} : QOp X (compareOp .GtE) (rI0 fun i j => .bl (decide (j ≤ i))) (dCmpI fun i j => decide (j ≤ i)) := ⟨op_ge, ref_cmpI⟩
def dNeg : DUn := fun x M Q => match x with
  | .int i => Q (.int (-i)) M
  | _ => False
theorem ref_neg {K : PySem.W.Frag} : RefU K (rU fun i => .int (-i)) dNeg := fun G H p M s x v Q Q' S r1 h k => by
  cases x with
  | int i => cases r1; exact ⟨i, rfl, k G H M (.int (-i)) _ (Same.refl _) S rfl h⟩
  | _ => exact h.elim
theorem q_neg {X : Cx} {W : WX} {a : Expr} {ta : TE} {qa : DTE} {pos : Pos} (ha : QE X W a ta qa) : QE X W (.UnaryOp .USub a pos) (tUn (rU fun i => .int (-i)) ta) (qUn dNeg qa) := ⟨pe_un un_neg ha.pe, ref_un ref_neg ha.rf⟩

/-! ### is None -/
def isNon : D → Bool
  | .non => true
  | _ => false
theorem isNon_of {K : PySem.W.Frag} {G : Hp} {d : D} {v : V} (r : Rep K G d v) : decide (v = .non) = isNon d := by
  cases d with
  | non => cases r; rfl
  | bl b => cases r; rfl
  | int b => cases r; rfl
  | ty b => cases r; rfl
  | ref b => cases r; rfl
  | str x => obtain ⟨r, _⟩ := r; subst r; rfl
  | tup x => obtain ⟨a, vs, r, _⟩ := r; subst r; rfl
  | ktp x => obtain ⟨a, vs, r, _⟩ := r; subst r; rfl
  | xtp x => obtain ⟨a, o, vs, r, _⟩ := r; subst r; rfl
  | lst x => obtain ⟨a, vs, r, _⟩ := r; subst r; rfl
  | scr x => obtain ⟨a, r, _⟩ := r; subst r; rfl
  | dct x y => obtain ⟨a, vs, r, _⟩ := r; subst r; rfl
  | ins x y z => obtain ⟨a, vs, fs, r, _⟩ := r; subst r; rfl
  | exc x y z w => obtain ⟨r, _⟩ := r; subst r; rfl
def dIs (neg : Bool) : DOp := fun x y M Q => match y with
  | .non => Q (.bl (xor neg (isNon x))) M
  | _ => False
theorem o_is {X : Cx} : QOp X (compareOp .Is) (fun x y H Q => y = .non ∧ Q (.bl (decide (x = .non))) H) (dIs false) := ⟨op_isN, fun G H p M s x y v u Q Q' S r1 r2 h k => by
  cases y with
  | non =>
    cases r2
    exact ⟨rfl, k G H M (.bl (isNon x)) _ (Same.refl _) S (by rw [isNon_of r1]; rfl) (by simpa [dIs] using h)⟩
  | _ => exact h.elim⟩
theorem o_isnot {X : Cx} : QOp X (compareOp .IsNot) (fun x y H Q => y = .non ∧ Q (.bl (!decide (x = .non))) H) (dIs true) := ⟨op_notN, fun G H p M s x y v u Q Q' S r1 r2 h k => by
  cases y with
  | non =>
    cases r2
    exact ⟨rfl, k G H M (.bl (!isNon x)) _ (Same.refl _) S (by rw [isNon_of r1]; rfl) (by simpa [dIs] using h)⟩
  | _ => exact h.elim⟩

/-! ### + -/
theorem strOk_append {a b : Str} (h1 : PyData.strOk a = true) (h2 : PyData.strOk b = true) : PyData.strOk (a ++ b) = true := by
  have e : (a ++ b).cps = a.cps ++ b.cps := rfl
  unfold PyData.strOk at *
  rw [e, Array.all_append, h1, h2]; rfl
theorem len_append {a b : Str} : (a ++ b).length = a.length + b.length := by
  show (a.cps ++ b.cps).size = _
  rw [Array.size_append]; rfl
def rAddX (K : PySem.W.Frag) : R2 := fun x y H Q => rI0 (fun i j => .int (i + j)) x y H Q ∨ (∃ i j, x = .str i ∧ y = .str j ∧ i.length + j.length ≤ sizeLine ∧ Q (.str (i ++ j)) H) ∨ rCat x y H Q ∨ rCatA K x y H Q ∨ ∃ b j, x = .bl b ∧ y = .int j ∧ Q (.int ((if b = true then 1 else 0) + j)) H
theorem op_add_bi {X : Cx} : OpR X (binaryOp .Add) (fun x y H Q => ∃ b j, x = .bl b ∧ y = .int j ∧ Q (.int ((if b = true then 1 else 0) + j)) H) := by
  intro pins s σ H x y v u Q I rx ry h
  obtain ⟨k, i, rfl, rfl, q⟩ := h
  obtain ⟨t, rfl⟩ := ry
  cases rx
  exact IntBool.add_bool_int ⟨.int ((if k = true then 1 else 0) + i), H, I.tok _, ⟨_, rfl⟩, q⟩
def dAdd (m : Bool) : DOp := fun x y M Q => match x, y with
  | .tup a, .tup b => a.length + b.length ≤ 100000 ∧ Q (.tup (a ++ b)) M
  | _, _ => match res M x, res M y with
    | .int i, .int j => Q (.int (i + j)) M
    | .str a, .str b => a.length + b.length ≤ 100000 ∧ Q (.str (a ++ b)) M
    | .lst a, .lst b => a.length + b.length ≤ 100000 ∧ newL m (a ++ b) M Q
    | .bl k, .int j => Q (.int ((if k = true then 1 else 0) + j)) M
    | .tup a, .tup b => a.length + b.length ≤ 100000 ∧ (a = [] → Q y M) ∧ (a ≠ [] → b = [] → Q x M) ∧ (a ≠ [] → b ≠ [] → Q (.tup (a ++ b)) M)
    | _, _ => False
theorem ref_add {K : PySem.W.Frag} {m : Bool} : RefR2 K (rAddX K) (dAdd m) := fun G H p M s x y v u Q Q' S r1 r2 h k => by
  unfold dAdd at h
  split at h
  · next a b =>
    obtain ⟨a1, vs, rfl, h1, h2, h3⟩ := r1
    obtain ⟨b1, us, rfl, g1, g2, g3⟩ := r2
    have z : vs.length + us.length ≤ sizeLine := by rw [h2.length, g2.length]; exact sz1000 h.1
    refine .inr (.inr (.inr (.inl ⟨a1, b1, vs, us, rfl, rfl, .inl (.inl (S.same _ _ h1)), .inl (.inl (S.same _ _ g1)), z, fun e => ?_, fun _ e => ?_, fun _ _ q hq => newT_ok S hq (RepL.append h2 g2) (by rw [List.length_append]; exact z) h.2 k⟩)))
    · have ea : a = [] := List.eq_nil_of_length_eq_zero (by rw [← h2.length, e]; rfl)
      refine k G H M (.tup b) _ (Same.refl _) S ⟨b1, us, rfl, g1, g2, g3⟩ ?_
      have := h.2; rw [ea] at this; simpa using this
    · have ea : b = [] := List.eq_nil_of_length_eq_zero (by rw [← g2.length, e]; rfl)
      refine k G H M (.tup a) _ (Same.refl _) S ⟨a1, vs, rfl, h1, h2, h3⟩ ?_
      have := h.2; rw [ea] at this; simpa using this
  · split at h
    · next i j e1 e2 =>
      cases as_int r1 e1
      cases as_int r2 e2
      exact .inl ⟨i, j, rfl, rfl, k G H M (.int (i + j)) _ (Same.refl _) S rfl h⟩
    · next a b e1 e2 =>
      obtain ⟨rfl, l1, o1⟩ := as_str r1 e1
      obtain ⟨rfl, l2, o2⟩ := as_str r2 e2
      exact .inr (.inl ⟨a, b, rfl, rfl, sz1000 h.1, k G H M (.str (a ++ b)) _ (Same.refl _) S ⟨rfl, by rw [len_append]; exact sz1000 h.1, strOk_append o1 o2⟩ h.2⟩)
    · next a b e1 e2 =>
      obtain ⟨a1, vs, rfl, h1, h2, h3⟩ := as_lst S r1 e1
      obtain ⟨b1, us, rfl, g1, g2, g3⟩ := as_lst S r2 e2
      have z : vs.length + us.length ≤ sizeLine := by rw [h2.length, g2.length]; exact sz1000 h.1
      exact .inr (.inr (.inl ⟨a1, b1, vs, us, rfl, rfl, h1, g1, z, fun q hq => newL_ok S hq (RepL.append h2 g2) (by rw [List.length_append]; exact z) h.2 k⟩))
    · next b j e1 e2 =>
      cases as_bl r1 e1
      cases as_int r2 e2
      exact .inr (.inr (.inr (.inr ⟨b, j, rfl, rfl, k G H M (.int _) _ (Same.refl _) S rfl h⟩)))
    · next a b e1 e2 =>
      obtain ⟨a1, vs, rfl, h1, h2, h3⟩ := as_tup S r1 e1
      obtain ⟨b1, us, rfl, g1, g2, g3⟩ := as_tup S r2 e2
      obtain ⟨hl, k0, k1, k2⟩ := h
      have z : vs.length + us.length ≤ sizeLine := by rw [h2.length, g2.length]; exact sz1000 hl
      have ev : vs = [] ↔ a = [] := ⟨fun e => List.eq_nil_of_length_eq_zero (by rw [← h2.length, e]; rfl), fun e => List.eq_nil_of_length_eq_zero (by rw [h2.length, e]; rfl)⟩
      have eu : us = [] ↔ b = [] := ⟨fun e => List.eq_nil_of_length_eq_zero (by rw [← g2.length, e]; rfl), fun e => List.eq_nil_of_length_eq_zero (by rw [g2.length, e]; rfl)⟩
      exact .inr (.inr (.inr (.inl ⟨a1, b1, vs, us, rfl, rfl, h1, g1, z, fun e => k G H M y _ (Same.refl _) S r2 (k0 (ev.mp e)), fun e0 e => k G H M x _ (Same.refl _) S r1 (k1 (fun q => e0 (ev.mpr q)) (eu.mp e)),
        fun e0 e q hq => newT_ok S hq (RepL.append h2 g2) (by rw [List.length_append]; exact z) (k2 (fun q => e0 (ev.mpr q)) fun q => e (eu.mpr q)) k⟩)))
    · exact h.elim
theorem o_add {X : Cx} (m : Bool) : QOp X (binaryOp .Add) (rAddX X.K) (dAdd m) := ⟨OpR.or op_add (OpR.or op_add_str (OpR.or op_cat (OpR.or op_catA op_add_bi))), ref_add⟩

/-! ### subscripts -/
def keyD : D → Option Key
  | .int i => some (.inl i)
  | .str x => some (.inr x)
  | _ => none
def keysD : List D → Option (List Key)
  | [] => some []
  | d :: ds => match keyD d, keysD ds with
    | some k, some ks => some (k :: ks)
    | _, _ => none
def valD {κ : Type} [DecidableEq κ] (kvs : List (κ × D)) (k : κ) : Option D := (kvs.find? fun kv => decide (kv.1 = k)).map (·.2)
/-- what a dict holds at a key; none: no dict, or no key of its kind -/
def dgetD (M : Mst) (x y : D) : Option (Option D) := match x with
  | .ref a => match M a with
    | some (.dK kvs) => (keyD y).map (valD kvs)
    | some (.lk _ kvs) => (keyD y).map (valD kvs)
    | some (.dT kvs) => match y with
      | .tup ds => (keysD ds).map (valD kvs)
      | _ => none
    | some (.lkT _ kvs) => match y with
      | .tup ds => (keysD ds).map (valD kvs)
      | _ => none
    | _ => none
  | .dct ks ds => (keyD y).map (valD (ks.zip ds))
  | _ => none
theorem keyD_of {K : PySem.W.Frag} {G : Hp} {d : D} {v : V} {k : Key} (r : Rep K G d v) (h : keyD d = some k) : v = kV k := by
  cases d with
  | int i => cases h; exact r
  | str x => cases h; exact r.1
  | _ => cases h
theorem keysD_of {K : PySem.W.Frag} {G : Hp} : ∀ {ds : List D} {vs : List V} {ks : List Key}, RepL K G ds vs → keysD ds = some ks → vs = ks.map kV
  | [], _, _, h, e => by cases h; cases e; rfl
  | d :: ds, _, ks, ⟨v, r, h1, h2, h3⟩, e => by
    simp only [keysD] at e
    split at e
    · next k ks' e1 e2 =>
      cases e
      rw [h1, keyD_of h2 e1, keysD_of h3 e2]; rfl
    · cases e
theorem valD_rel {κ : Type} [DecidableEq κ] {K : PySem.W.Frag} {G : Hp} : ∀ {kvs : List (κ × D)} {kv : List (κ × V)} (k : κ), kv.map (·.1) = kvs.map (·.1) → RepL K G (kvs.map (·.2)) (kv.map (·.2)) →
    (valD kvs k = none ∧ valV kv k = none) ∨ ∃ d v, valD kvs k = some d ∧ valV kv k = some v ∧ Rep K G d v
  | [], kv, k, h, r => by
    cases kv with
    | nil => exact .inl ⟨rfl, rfl⟩
    | cons _ _ => cases h
  | (a, d) :: kvs, kv, k, h, r => by
    cases kv with
    | nil => cases h
    | cons q kv =>
      obtain ⟨b, v⟩ := q
      simp only [List.map_cons, List.cons.injEq] at h
      obtain ⟨rfl, h⟩ := h
      obtain ⟨v', r', e, h2, h3⟩ := r
      simp only [List.map_cons, List.cons.injEq] at e
      obtain ⟨rfl, rfl⟩ := e
      by_cases z : b = k
      · exact .inr ⟨d, v, by simp [valD, z], by simp [valV, z], h2⟩
      · have := valD_rel k h h3
        simpa [valD, valV, z] using this
theorem zip_fs {α β : Type} : ∀ l : List (α × β), (l.map (·.1)).zip (l.map (·.2)) = l
  | [] => rfl
  | (a, b) :: l => by simp [zip_fs l]
@[simp] theorem zip_fs' {α β : Type} (l : List (α × β)) : (l.map (·.1)).zip (l.map (·.2)) = l := zip_fs l
theorem map_zip1 {α β : Type} : ∀ (l : List α) (m : List β), l.length = m.length → (l.zip m).map (·.1) = l
  | [], [], _ => rfl
  | a :: l, b :: m, h => by simp [map_zip1 l m (by simpa using h)]
theorem map_zip2 {α β : Type} : ∀ (l : List α) (m : List β), l.length = m.length → (l.zip m).map (·.2) = m
  | [], [], _ => rfl
  | a :: l, b :: m, h => by simp [map_zip2 l m (by simpa using h)]
theorem dgetD_of {K : PySem.W.Frag} {G H : Hp} {p : Rho} {M : Mst} {s : L2.St} {x y : D} {v u : V} {r : Option D} (S : Sim K G H p M s) (r1 : Rep K G x v) (r2 : Rep K G y u) (h : dgetD M x y = some r) :
    ∃ a o, v = .ref a ∧ DGet H a u o ∧ ((r = none ∧ o = none) ∨ ∃ d w, r = some d ∧ o = some w ∧ Rep K G d w) := by
  unfold dgetD at h
  split at h
  · next a =>
    cases r1
    split at h
    · next kvs em =>
      obtain ⟨gn, kv, h1, h2, h3, h4⟩ := S.mem _ _ em
      cases ek : keyD y with
      | none => rw [ek] at h; cases h
      | some k =>
        rw [ek] at h
        cases h
        cases keyD_of r2 ek
        exact ⟨a, _, rfl, DGet.k h1, (valD_rel k h2 h3).imp id fun ⟨d, v, a, b, c⟩ => ⟨d, v, a, b, c⟩⟩
    · next ho kvs em =>
      obtain ⟨gn, o, kv, h0, h1, h2, h3, h4⟩ := S.mem _ _ em
      rw [h0] at h1
      cases ek : keyD y with
      | none => rw [ek] at h; cases h
      | some k =>
        rw [ek] at h
        cases h
        cases keyD_of r2 ek
        exact ⟨a, _, rfl, .inl ⟨kv, k, .inr ⟨o, h1⟩, rfl, rfl⟩, (valD_rel k h2 h3).imp id fun ⟨d, v, a, b, c⟩ => ⟨d, v, a, b, c⟩⟩
    · next kvs em =>
      obtain ⟨gn, kv, h1, h2, h3, h4⟩ := S.mem _ _ em
      split at h
      · next ds =>
        obtain ⟨b, vs, rfl, g1, g2, g3⟩ := r2
        cases ek : keysD ds with
        | none => rw [ek] at h; cases h
        | some k =>
          rw [ek] at h
          cases h
          have := keysD_of g2 ek
          exact ⟨a, _, rfl, DGet.t h1 (by rw [S.same _ _ g1, this]), (valD_rel k h2 h3).imp id fun ⟨d, v, a, b, c⟩ => ⟨d, v, a, b, c⟩⟩
      · cases h
    · next ho kvs em =>
      obtain ⟨gn, o, kv, h0, h1, h2, h3, h4⟩ := S.mem _ _ em
      rw [h0] at h1
      split at h
      · next ds =>
        obtain ⟨b, vs, rfl, g1, g2, g3⟩ := r2
        cases ek : keysD ds with
        | none => rw [ek] at h; cases h
        | some k =>
          rw [ek] at h
          cases h
          have := keysD_of g2 ek
          exact ⟨a, _, rfl, .inr ⟨kv, k, b, .inr ⟨o, h1⟩, rfl, by rw [S.same _ _ g1, this], rfl⟩, (valD_rel k h2 h3).imp id fun ⟨d, v, a, b, c⟩ => ⟨d, v, a, b, c⟩⟩
      · cases h
    · cases h
  · next ks ds =>
    obtain ⟨a, kvs, rfl, h1, h2, h3, h4, _⟩ := r1
    cases ek : keyD y with
    | none => rw [ek] at h; cases h
    | some k =>
      rw [ek] at h
      cases h
      cases keyD_of r2 ek
      have hl : ks.length = ds.length := by rw [← h2, ← h3.length]; simp
      refine ⟨a, _, rfl, .inl ⟨kvs, k, same_rd S.same h1, rfl, rfl⟩, (valD_rel k (by rw [map_zip1 _ _ hl]; exact h2) (by rw [map_zip2 _ _ hl]; exact h3)).imp id fun ⟨d, v, a, b, c⟩ => ⟨d, v, a, b, c⟩⟩
  · cases h
def rIxD : R2 := fun x y H Q => ∃ a v, x = .ref a ∧ DGet H a y (some v) ∧ Q v H
theorem ix_dict {X : Cx} (hu : X.A.units + 1 < cLine) : IxR X rIxD := by
  intro value slice pins s σ H x y v u Q I rx ry h hs
  obtain ⟨a, z, rfl, g, q⟩ := h
  cases rx
  exact PyProof.Rows.tail_any (dict_typeIs I g) PySem.F.slot_dict_getitem.lookup (d_getItem hu I g ry fun w' s3 I3 rw' => ⟨z, H, I3, rw', q⟩) hs
def rIxA (K : PySem.W.Frag) : R2 := fun x y H Q => rIx K x y H Q ∨ rIxD x y H Q
def dIx : DOp := fun x y M Q => match dgetD M x y with
  | some (some d) => Q d M
  | some none => False
  | none => match res M x, y with
    | .lst ds, .int i => match atI ds i with | some d => Q d M | none => False
    | .tup ds, .int i => match atI ds i with | some d => Q d M | none => False
    | .str z, .int i => match atI z.cps.toList i with | some c => Q (.str ⟨#[c]⟩) M | none => False
    | .scr ns, .int i => match atI ns i with | some c => Q (.int c) M | none => False
    | _, _ => False
theorem as_scr {K : PySem.W.Frag} {G H : Hp} {p : Rho} {M : Mst} {s : L2.St} {x : D} {v : V} {ns : List Int} (S : Sim K G H p M s) (r : Rep K G x v) (e : res M x = .scr ns) : ∃ a, v = .ref a ∧ SqL K G a (ns.map V.int) := by
  cases x with
  | scr ms => cases e; obtain ⟨a, h1, h2, _⟩ := r; exact ⟨a, h1, h2⟩
  | ref a =>
    simp only [res] at e
    split at e <;> cases e
  | _ => cases e
theorem atI_map {α β : Type} {f : α → β} {xs : List α} {i : Int} {c : α} (h : atI xs i = some c) : atI (xs.map f) i = some (f c) := by
  unfold atI at h ⊢
  rw [List.length_map]
  cases e : ixN xs.length i with
  | none => rw [e] at h; cases h
  | some j =>
    rw [e] at h
    have h' : xs[j]? = some c := h
    show (xs.map f)[j]? = some (f c)
    rw [List.getElem?_map, h']; rfl
theorem atI_rel {K : PySem.W.Frag} {G : Hp} {ds : List D} {vs : List V} {i : Int} {d : D} (r : RepL K G ds vs) (h : atI ds i = some d) : ∃ v, atI vs i = some v ∧ Rep K G d v := by
  unfold atI at h ⊢
  rw [r.length]
  cases e : ixN ds.length i with
  | none => rw [e] at h; cases h
  | some j =>
    rw [e] at h
    exact r.get h
theorem ref_ix {K : PySem.W.Frag} : RefR2 K (rIxA K) dIx := fun G H p M s x y v u Q Q' S r1 r2 h k => by
  unfold dIx at h
  split at h
  · next d e =>
    obtain ⟨a, o, rfl, g, q⟩ := dgetD_of S r1 r2 e
    rcases q with ⟨q, _⟩ | ⟨d', w, q, rfl, r⟩
    · cases q
    · cases q
      exact .inr ⟨a, w, rfl, g, k G H M d w (Same.refl _) S r h⟩
  · exact h.elim
  · split at h
    · next ds i e1 _ =>
      obtain ⟨a, vs, rfl, h1, h2, h3⟩ := as_lst S r1 e1
      cases r2
      split at h
      · next d ea =>
        obtain ⟨w, ew, rw'⟩ := atI_rel h2 ea
        exact .inl (.inl ⟨a, vs, i, w, rfl, rfl, .inl (.inl h1), ew, k G H M d w (Same.refl _) S rw' h⟩)
      · exact h.elim
    · next ds i e1 _ =>
      obtain ⟨a, vs, rfl, h1, h2, h3⟩ := as_tup S r1 e1
      cases r2
      split at h
      · next d ea =>
        obtain ⟨w, ew, rw'⟩ := atI_rel h2 ea
        exact .inl (.inr (.inl ⟨a, vs, i, w, rfl, rfl, h1, ew, k G H M d w (Same.refl _) S rw' h⟩))
      · exact h.elim
    · next z i e1 _ =>
      obtain ⟨rfl, l1, o1⟩ := as_str r1 e1
      cases r2
      split at h
      · next c ea =>
        refine .inl (.inr (.inr ⟨z, i, c, rfl, rfl, l1, ea, k G H M (.str ⟨#[c]⟩) _ (Same.refl _) S ⟨rfl, sz1000 (by show 1 ≤ 100000; decide), ?_⟩ h⟩))
        obtain ⟨j, _, h2, _⟩ := atI_get ea
        have hm : c ∈ z.cps.toList := List.mem_of_getElem? h2
        have ho : ∀ y ∈ z.cps.toList, decide (y < 0x110000) = true := by
          unfold PyData.strOk at o1
          rw [← Array.all_toList] at o1
          exact List.all_eq_true.mp o1
        have := ho c hm
        simpa [PyData.strOk] using this
      · exact h.elim
    · next ns i e1 _ =>
      obtain ⟨a, rfl, h1⟩ := as_scr S r1 e1
      cases r2
      split at h
      · next c ea => exact .inl (.inl ⟨a, _, i, .int c, rfl, rfl, same_l S.same h1, atI_map ea, k G H M (.int c) _ (Same.refl _) S rfl h⟩)
      · exact h.elim
    · exact h.elim
theorem q_ix {X : Cx} {W : WX} {a b : Expr} {ta tb : TE} {qa qb : DTE} {pos : Pos} (hu : X.A.units + 1 < cLine) (ha : QE X W a ta qa) (hb : QE X W b tb qb) (hs : PlainIx b := by exact fun _ _ => rfl) : QE X W (.Subscript a b pos) (tOp (rIxA X.K) ta tb) (qOp dIx qa qb) :=
  ⟨pe_ix (IxR.or ix_seq (ix_dict hu)) ha.pe hb.pe hs, ref_op ref_ix ha.rf hb.rf⟩
end DL

/-! DLd: in, slices, built-ins. -/
namespace DL
open PySem L2

/-! ### in -/
def flatD : D → Bool
  | .non => true
  | .bl _ => true
  | .int _ => true
  | .str _ => true
  | _ => false
theorem flatD_of {K : PySem.W.Frag} {G : Hp} {d : D} {v : V} (r : Rep K G d v) (h : flatD d = true) : flatV v = true ∧ ∀ e w, Rep K G e w → flatD e = true → eqV w v = deq e d := by
  cases d with
  | non => cases r; exact ⟨rfl, fun e w r h => by
      cases e with
      | non => cases r; rfl
      | bl b => cases r; rfl
      | int b => cases r; rfl
      | str b => obtain ⟨r, _⟩ := r; subst r; rfl
      | _ => cases h⟩
  | bl b => cases r; exact ⟨rfl, fun e w r h => by
      cases e with
      | non => cases r; rfl
      | bl b => cases r; rfl
      | int b => cases r; rfl
      | str b => obtain ⟨r, _⟩ := r; subst r; rfl
      | _ => cases h⟩
  | int b => cases r; exact ⟨rfl, fun e w r h => by
      cases e with
      | non => cases r; rfl
      | bl b => cases r; rfl
      | int b => cases r; rfl
      | str b => obtain ⟨r, _⟩ := r; subst r; rfl
      | _ => cases h⟩
  | str b => obtain ⟨r, _⟩ := r; subst r; exact ⟨rfl, fun e w r h => by
      cases e with
      | non => cases r; rfl
      | bl b => cases r; rfl
      | int b => cases r; rfl
      | str b => obtain ⟨r, _⟩ := r; subst r; rfl
      | _ => cases h⟩
  | _ => cases h
theorem inV_of {K : PySem.W.Frag} {G : Hp} {d : D} {v : V} (r : Rep K G d v) (h : flatD d = true) : ∀ {ds : List D} {vs : List V}, RepL K G ds vs → ds.all flatD = true → vs.all flatV = true ∧ inV v vs = ds.any fun e => deq e d
  | [], _, q, _ => by cases q; exact ⟨rfl, rfl⟩
  | e :: ds, _, ⟨w, vs, e1, h2, h3⟩, f => by
    subst e1
    have f' : flatD e = true ∧ ds.all flatD = true := by simpa using f
    obtain ⟨i1, i2⟩ := inV_of r h h3 f'.2
    obtain ⟨fv, _⟩ := flatD_of h2 f'.1
    have e2 := (flatD_of r h).2 e w h2 f'.1
    refine ⟨by simp [fv, i1], ?_⟩
    have e3 : inV v (w :: vs) = (eqV w v || inV v vs) := rfl
    rw [e3, i2, e2]; rfl
def rInDk (neg : Bool) : R2 := fun y x H Q => ∃ a o, x = .ref a ∧ DGet H a y o ∧ Q (.bl (xor neg o.isSome)) H
theorem op_inDk {X : Cx} (hu : X.A.units + 1 < cLine) : OpR X (compareOp .In) (rInDk false) := by
  intro pins s σ H y x u v Q I ry rx h
  obtain ⟨a, o, rfl, g, q⟩ := h
  cases rx
  exact d_in hu I g ry fun s3 I3 => ⟨.bl o.isSome, H, I3, rfl, by simpa using q⟩
theorem op_ninDk {X : Cx} (hu : X.A.units + 1 < cLine) : OpR X (compareOp .NotIn) (rInDk true) := by
  intro pins s σ H y x u v Q I ry rx h
  obtain ⟨a, o, rfl, g, q⟩ := h
  cases rx
  exact d_notIn hu I g ry fun s3 I3 => ⟨.bl (!o.isSome), H, I3, rfl, by simpa using q⟩
def inS (c z : Str) : Bool := !(Builtin.Str.occurrences z c 0 z.length 1).isEmpty
def rInStr (neg : Bool) : R2 := fun x y H Q => ∃ i j, x = .str i ∧ y = .str j ∧ Q (.bl (xor neg (inS i j))) H
theorem op_inStr {X : Cx} : OpR X (compareOp .In) (rInStr false) := by
  intro pins s σ H y x u v Q I ry rx h
  obtain ⟨i, j, e1, e2, q⟩ := h
  exact op_in_str pins s σ H y x u v Q I ry rx ⟨i, j, e1, e2, by simpa [inS] using q⟩
theorem op_ninStr {X : Cx} : OpR X (compareOp .NotIn) (rInStr true) := by
  intro pins s σ H y x u v Q I ry rx h
  obtain ⟨i, j, e1, e2, q⟩ := h
  exact op_notIn_str pins s σ H y x u v Q I ry rx ⟨i, j, e1, e2, by simpa [inS] using q⟩
def rInX (K : PySem.W.Frag) (neg : Bool) : R2 := fun x y H Q => rIn K neg x y H Q ∨ rInDk neg x y H Q ∨ rInStr neg x y H Q
def dIn (neg : Bool) : DOp := fun x y M Q => match dgetD M y x with
  | some r => Q (.bl (xor neg r.isSome)) M
  | none => match res M y with
    | .lst ds => flatD x = true ∧ ds.all flatD = true ∧ Q (.bl (xor neg (ds.any fun e => deq e x))) M
    | .tup ds => flatD x = true ∧ ds.all flatD = true ∧ Q (.bl (xor neg (ds.any fun e => deq e x))) M
    | .str z => match x with
      | .str c => Q (.bl (xor neg (inS c z))) M
      | _ => False
    | _ => False
theorem ref_in {K : PySem.W.Frag} {neg : Bool} : RefR2 K (rInX K neg) (dIn neg) := fun G H p M s x y v u Q Q' S r1 r2 h k => by
  have nb : ∀ b : Bool, (if neg = true then !b else b) = xor neg b := fun b => by cases neg <;> cases b <;> rfl
  unfold dIn at h
  split at h
  · next r e =>
    obtain ⟨a, o, rfl, g, q⟩ := dgetD_of S r2 r1 e
    refine .inr (.inl ⟨a, o, rfl, g, k G H M (.bl _) _ (Same.refl _) S rfl ?_⟩)
    rcases q with ⟨rfl, rfl⟩ | ⟨d, w, rfl, rfl, _⟩ <;> exact h
  · split at h
    · next ds e1 =>
      obtain ⟨f1, f2, h⟩ := h
      obtain ⟨a, vs, rfl, h1, h2, h3⟩ := as_lst S r2 e1
      obtain ⟨i1, i2⟩ := inV_of r1 f1 h2 f2
      refine .inl ⟨a, vs, rfl, .inl (.inl (.inl h1)), (flatD_of r1 f1).1, i1, k G H M (.bl _) _ (Same.refl _) S rfl ?_⟩
      rw [nb, i2]; exact h
    · next ds e1 =>
      obtain ⟨f1, f2, h⟩ := h
      obtain ⟨a, vs, rfl, h1, h2, h3⟩ := as_tup S r2 e1
      obtain ⟨i1, i2⟩ := inV_of r1 f1 h2 f2
      refine .inl ⟨a, vs, rfl, .inr h1, (flatD_of r1 f1).1, i1, k G H M (.bl _) _ (Same.refl _) S rfl ?_⟩
      rw [nb, i2]; exact h
    · next z e1 =>
      obtain ⟨rfl, l1, o1⟩ := as_str r2 e1
      split at h
      · next c _ =>
        obtain ⟨rfl, _⟩ := r1
        exact .inr (.inr ⟨c, z, rfl, rfl, k G H M (.bl _) _ (Same.refl _) S rfl h⟩)
      · exact h.elim
    · exact h.elim
theorem o_in {X : Cx} (hu : X.A.units + 1 < cLine) : QOp X (compareOp .In) (rInX X.K false) (dIn false) := ⟨OpR.or op_in_seq (OpR.or (op_inDk hu) op_inStr), ref_in⟩
theorem o_notin {X : Cx} (hu : X.A.units + 1 < cLine) : QOp X (compareOp .NotIn) (rInX X.K true) (dIn true) := ⟨OpR.or op_notIn_seq (OpR.or (op_ninDk hu) op_ninStr), ref_in⟩

/-! ### slices -/
abbrev DTO := DWt → Rho → Mst → (Option Int → Mst → Prop) → Prop
def RefO (K : PySem.W.Frag) (W : WX) (t : TO) (q : DTO) : Prop := ∀ DW G H p M s (Q : Option Int → Mst → Prop) (Q' : Option Int → Hp → Prop), WLink K G DW W → Sim K G H p M s → q DW p M Q →
  (∀ G' H' M' b, Same G G' → Sim K G' H' p M' s → Q b M' → Q' b H') → t s H Q'
structure QO (X : Cx) (W : WX) (e : Option Expr) (t : TO) (q : DTO) : Prop where
  pe : PO X e t
  rf : RefO X.K W t q
@[simp] def qNoPart : DTO := fun _ _ M Q => Q none M
@[simp] def qPart (q : DTE) : DTO := fun DW p M Q => q DW p M fun d M1 => match d with | .int i => Q (some i) M1 | _ => False
def cutX {α : Type} (xs : List α) (lo hi : Option Int) : List α := (xs.drop (HT.sIx xs.length 0 lo)).take (HT.sIx xs.length xs.length hi - HT.sIx xs.length 0 lo)
def dSl (m : Bool) (x : D) (lo hi : Option Int) (M : Mst) (Q : DK) : Prop := match x with
  | .tup ds => Q (.tup (cutX ds lo hi)) M
  | .xtp ds => Q (.tup (cutX ds lo hi)) M ∧ Q (.xtp (cutX ds lo hi)) M
  | .ktp ds => Q (.tup (cutX ds lo hi)) M ∧ Q (.ktp (cutX ds lo hi)) M
  | _ => match res M x with
    | .lst ds => newL m (cutX ds lo hi) M Q
    | .str z => Q (.str (cutS z lo hi)) M
    | _ => False
def qSl (m : Bool) (qe : DTE) (ql qh : DTO) : DTE := fun DW p M Q => qe DW p M fun x M1 => ql DW p M1 fun l M2 => qh DW p M2 fun u M3 => dSl m x l u M3 Q
theorem strOk_cut {z : Str} {lo hi : Option Int} (h : PyData.strOk z = true) : PyData.strOk (cutS z lo hi) = true := by
  have ho : ∀ y ∈ z.cps.toList, decide (y < 0x110000) = true := by
    unfold PyData.strOk at h
    rw [← Array.all_toList] at h
    exact List.all_eq_true.mp h
  unfold PyData.strOk cutS
  rw [← Array.all_toList]
  refine List.all_eq_true.mpr fun y hy => ho y ?_
  exact List.mem_of_mem_drop (List.mem_of_mem_take (by simpa using hy))
section
variable {X : Cx} {W : WX} {e : Expr} {te : TE} {qe : DTE} {lo hi : Option Expr} {tl th : TO} {ql qh : DTO} {pos p2 : Pos}
theorem qo_none : QO X W none tNoPart qNoPart := ⟨po_none, fun DW G H p M s Q Q' hw S q k => k G H M none (Same.refl _) S q⟩
theorem qo_some (h : QE X W e te qe) : QO X W (some e) (tPart te) (qPart qe) := ⟨po_some h.pe, fun DW G H p M s Q Q' hw S q k => h.rf DW G H p M s _ _ hw S q fun G1 H1 M1 d v e1 S1 r1 h1 => by
  cases d with
  | int i => cases r1; exact ⟨i, rfl, k G1 H1 M1 _ e1 S1 h1⟩
  | _ => exact h1.elim⟩
def rSlX (K : PySem.W.Frag) : V → Option Int → Option Int → Hp → VK → Prop := fun x lo hi H Q => rSlL K x lo hi H Q ∨ rSlA K x lo hi H Q ∨ rSlS x lo hi H Q
theorem q_slice (m : Bool) (he : QE X W e te qe) (hl : QO X W lo tl ql) (hu : QO X W hi th qh) : QE X W (.Subscript e (.Slice lo hi none p2) pos) (tSl (rSlX X.K) te tl th) (qSl m qe ql qh) :=
  ⟨pe_slice (SlR.or sl_list (SlR.or sl_tupA sl_str)) he.pe hl.pe hu.pe, fun DW G H p M s Q Q' hw S h k => he.rf DW G H p M s _ _ hw S h fun G1 H1 M1 d v e1 S1 r1 h1 =>
    hl.rf DW G1 H1 p M1 s _ _ (hw.mono e1) S1 h1 fun G2 H2 M2 l e2 S2 h2 => hu.rf DW G2 H2 p M2 s _ _ (hw.mono (e1.trans e2)) S2 h2 fun G3 H3 M3 u e3 S3 h3 => by
      have r3 := Rep.mono (e2.trans e3) _ _ r1
      have k3 : ∀ G' H' M' d w, Same G3 G' → Sim X.K G' H' p M' s → Rep X.K G' d w → Q d M' → Q' w H' := fun G' H' M' d w e4 => k G' H' M' d w (((e1.trans e2).trans e3).trans e4)
      unfold dSl at h3
      split at h3
      · next ds =>
        obtain ⟨a, vs, rfl, g1, g2, g3⟩ := r3
        have g1' := S3.same _ _ g1
        have c1 : RepL X.K G3 (cutX ds l u) (cutV vs l u) := by
          unfold cutX cutV
          rw [g2.length]
          exact RepL.take _ (RepL.drop _ g2)
        have c2 := Nat.le_trans (cutV_length vs l u) g3
        refine .inr (.inl ⟨a, vs, rfl, .inl (.inl g1'), fun hwh => ?_, fun hnw q hq => newT_ok S3 hq c1 c2 h3 k3⟩)
        refine k3 G3 H3 M3 (.tup (cutX ds l u)) _ (Same.refl _) S3 ⟨a, vs, rfl, g1, ?_, g3⟩ h3
        have e5 : cutV vs l u = vs := by
          unfold cutV
          rw [hwh.1, hwh.2]
          simp
        rw [e5] at c1; exact c1
      · next ds =>
        obtain ⟨a, o, vs, rfl, g1, g0, g2, g3⟩ := r3
        have g1' := S3.same _ _ g1
        have c1 : RepL X.K G3 (cutX ds l u) (cutV vs l u) := by
          unfold cutX cutV
          rw [g2.length]
          exact RepL.take _ (RepL.drop _ g2)
        have c2 := Nat.le_trans (cutV_length vs l u) g3
        refine .inr (.inl ⟨a, vs, rfl, .inl (.inr ⟨o, g1'⟩), fun hwh => ?_, fun hnw q hq => newT_ok S3 hq c1 c2 h3.1 k3⟩)
        refine k3 G3 H3 M3 (.xtp (cutX ds l u)) _ (Same.refl _) S3 ⟨a, o, vs, rfl, g1, g0, ?_, g3⟩ h3.2
        have e5 : cutV vs l u = vs := by
          unfold cutV
          rw [hwh.1, hwh.2]
          simp
        rw [e5] at c1; exact c1
      · next ds =>
        obtain ⟨a, vs, rfl, g1, g2, g3⟩ := r3
        have c1 : RepL X.K G3 (cutX ds l u) (cutV vs l u) := by
          unfold cutX cutV
          rw [g2.length]
          exact RepL.take _ (RepL.drop _ g2)
        have c2 := Nat.le_trans (cutV_length vs l u) g3
        refine .inr (.inl ⟨a, vs, rfl, same_t S3.same g1, fun hwh => ?_, fun hnw q hq => newT_ok S3 hq c1 c2 h3.1 k3⟩)
        refine k3 G3 H3 M3 (.ktp (cutX ds l u)) _ (Same.refl _) S3 ⟨a, vs, rfl, g1, ?_, g3⟩ h3.2
        have e5 : cutV vs l u = vs := by
          unfold cutV
          rw [hwh.1, hwh.2]
          simp
        rw [e5] at c1; exact c1
      · split at h3
        · next ds e4 =>
          obtain ⟨a, vs, rfl, g1, g2, g3⟩ := as_lst S3 r3 e4
          have c1 : RepL X.K G3 (cutX ds l u) (cutV vs l u) := by
            unfold cutX cutV
            rw [g2.length]
            exact RepL.take _ (RepL.drop _ g2)
          exact .inl ⟨a, vs, rfl, .inl (.inl g1), fun q hq => newL_ok S3 hq c1 (Nat.le_trans (cutV_length vs l u) g3) h3 k3⟩
        · next z e4 =>
          obtain ⟨rfl, l1, o1⟩ := as_str r3 e4
          exact .inr (.inr ⟨z, rfl, l1, k3 G3 H3 M3 (.str _) _ (Same.refl _) S3 ⟨rfl, Nat.le_trans (cutS_length z l u) l1, strOk_cut o1⟩ h3⟩)
        · exact h3.elim⟩
/-- xs[::-1] -/
def dRev (m : Bool) : DUn := fun x M Q => match res M x with
  | .lst ds => newL m ds.reverse M Q
  | _ => False
theorem q_rev (m : Bool) {k : Nat} {p1 p2 p3 pos : Pos} (he : QE X W e te qe) : QE X W (.Subscript e (.Slice none none (some (.UnaryOp .USub (.Constant (.int 1) k p1) p2)) p3) pos) (tRevL X.K te) (qUn (dRev m) qe) :=
  ⟨pe_revL he.pe, fun DW G H p M s Q Q' hw S h k => he.rf DW G H p M s _ _ hw S h fun G1 H1 M1 d v e1 S1 r1 h1 => by
    unfold dRev at h1
    split at h1
    · next ds e4 =>
      obtain ⟨a, vs, rfl, g1, g2, g3⟩ := as_lst S1 r1 e4
      exact ⟨a, vs, rfl, .inl (.inl g1), fun q hq => newL_ok S1 hq (RepL.reverse g2) (by rw [List.length_reverse]; exact g3) h1 fun G' H' M' d w e4 => k G' H' M' d w (e1.trans e4)⟩
    · exact h1.elim⟩
end

/-! ### len, abs, max, min, int, str, bool -/
def dLen : DCa := fun ds M Q => match ds with
  | [x] => match res M x with
    | .lst es => Q (.int es.length) M
    | .tup es => Q (.int es.length) M
    | .str z => Q (.int z.length) M
    | .scr ns => Q (.int ns.length) M
    | .dct ks es => Q (.int es.length) M
    | _ => False
  | _ => False
theorem call_lenDR {X : Cx} : CallR X (.builtin "len") (fun xs H Q => ∃ a kvs, xs = [V.ref a] ∧ Rd H a (.dK kvs) ∧ Q (.int kvs.length) H) := by
  intro pins s σ H xs us Q I r h
  obtain ⟨a, kvs, rfl, ha, q⟩ := h
  obtain ⟨u, rfl, ru⟩ := vals1 r
  cases ru
  exact d_len I ha fun t s' I' => ⟨.int kvs.length, H, I', ⟨_, rfl⟩, q⟩
def rLenX (K : PySem.W.Frag) : List V → Hp → VK → Prop := fun xs H Q => (∃ x n, xs = [x] ∧ LenV K x H n ∧ Q (.int n) H) ∨ ∃ a kvs, xs = [V.ref a] ∧ Rd H a (.dK kvs) ∧ Q (.int kvs.length) H
theorem repL1 {K : PySem.W.Frag} {G : Hp} {x : D} {vs : List V} (r : RepL K G [x] vs) : ∃ v, vs = [v] ∧ Rep K G x v := by
  obtain ⟨v, r', e, h1, h2⟩ := r
  cases h2
  exact ⟨v, e, h1⟩
theorem repL2 {K : PySem.W.Frag} {G : Hp} {x y : D} {vs : List V} (r : RepL K G [x, y] vs) : ∃ v u, vs = [v, u] ∧ Rep K G x v ∧ Rep K G y u := by
  obtain ⟨v, r', e, h1, h2⟩ := r
  obtain ⟨u, e2, h3⟩ := repL1 h2
  subst e2
  exact ⟨v, u, e, h1, h3⟩
theorem c_len {X : Cx} : QCa X (.builtin "len") (rLenX X.K) dLen := ⟨CallR.or call_len call_lenDR, fun G H p M s ds vs Q Q' S r h k => by
  unfold dLen at h
  split at h
  · next x =>
    obtain ⟨v, rfl, r1⟩ := repL1 r
    have fin : ∀ (n : Nat), Q (.int n) M → Q' (.int n) H := fun n q => k G H M (.int n) _ (Same.refl _) S rfl q
    split at h
    · next es e1 =>
      obtain ⟨a, us, rfl, g1, g2, g3⟩ := as_lst S r1 e1
      exact .inl ⟨_, es.length, rfl, .inl ⟨us, .inl (.inl g1), g2.length.symm⟩, fin _ h⟩
    · next es e1 =>
      obtain ⟨a, us, rfl, g1, g2, g3⟩ := as_tup S r1 e1
      exact .inl ⟨_, es.length, rfl, .inr ⟨us, g1, g2.length.symm⟩, fin _ h⟩
    · next z e1 =>
      obtain ⟨rfl, l1, o1⟩ := as_str r1 e1
      exact .inl ⟨_, z.length, rfl, ⟨l1, rfl⟩, fin _ h⟩
    · next ns e1 =>
      cases x with
      | scr ms =>
        cases e1
        obtain ⟨a, rfl, g1, g2⟩ := r1
        exact .inl ⟨_, ns.length, rfl, .inl ⟨_, same_l S.same g1, by simp⟩, fin _ h⟩
      | ref a =>
        simp only [res] at e1
        split at e1 <;> cases e1
      | _ => cases e1
    · next ks es e1 =>
      obtain ⟨a, us, rfl, g1, g2, g3, g4, _⟩ := as_dct S r1 e1
      refine .inr ⟨a, us, rfl, g1, ?_⟩
      have e2 : us.length = es.length := by have := g3.length; simpa using this
      rw [e2]
      exact fin _ h
    · exact h.elim
  · exact h.elim⟩
def dAbs : DCa := fun ds M Q => match ds with
  | [.int i] => Q (.int (if i < 0 then -i else i)) M
  | _ => False
theorem c_abs {X : Cx} : QCa X (.builtin "abs") (fun xs H Q => ∃ i, xs = [.int i] ∧ Q (.int (if i < 0 then -i else i)) H) dAbs := ⟨call_abs, fun G H p M s ds vs Q Q' S r h k => by
  unfold dAbs at h
  split at h
  · next i =>
    obtain ⟨v, rfl, r1⟩ := repL1 r
    cases r1
    exact ⟨i, rfl, k G H M (.int _) _ (Same.refl _) S rfl h⟩
  · exact h.elim⟩
def dMax2 : DCa := fun ds M Q => match ds with
  | [.int i, .int j] => Q (.int (if j > i then j else i)) M
  | _ => False
def dMin2 : DCa := fun ds M Q => match ds with
  | [.int i, .int j] => Q (.int (if j < i then j else i)) M
  | _ => False
theorem c_max2 {X : Cx} (hc : X.calm = true) : QCa X (.builtin "max") (fun xs H Q => ∃ i j, xs = [.int i, .int j] ∧ Q (.int (if j > i then j else i)) H) dMax2 := ⟨call_max2 hc, fun G H p M s ds vs Q Q' S r h k => by
  unfold dMax2 at h
  split at h
  · next i j =>
    obtain ⟨v, u, rfl, r1, r2⟩ := repL2 r
    cases r1
    cases r2
    exact ⟨i, j, rfl, k G H M (.int _) _ (Same.refl _) S rfl h⟩
  · exact h.elim⟩
theorem c_min2 {X : Cx} (hc : X.calm = true) : QCa X (.builtin "min") (fun xs H Q => ∃ i j, xs = [.int i, .int j] ∧ Q (.int (if j < i then j else i)) H) dMin2 := ⟨call_min2 hc, fun G H p M s ds vs Q Q' S r h k => by
  unfold dMin2 at h
  split at h
  · next i j =>
    obtain ⟨v, u, rfl, r1, r2⟩ := repL2 r
    cases r1
    cases r2
    exact ⟨i, j, rfl, k G H M (.int _) _ (Same.refl _) S rfl h⟩
  · exact h.elim⟩
/-- int(x) of a number, a truth -/
def dInt1 : DCa := fun ds M Q => match ds with
  | [.int i] => Q (.int i) M
  | [.bl b] => Q (.int (if b then 1 else 0)) M
  | _ => False
theorem c_int1 {X : Cx} : QCa X (.type "int") (fun xs H Q => (∃ i, xs = [.int i] ∧ Q (.int i) H) ∨ ∃ k, xs = [.bl k] ∧ Q (.int (if k then 1 else 0)) H) dInt1 := ⟨call_int1, fun G H p M s ds vs Q Q' S r h k => by
  unfold dInt1 at h
  split at h
  · next i =>
    obtain ⟨v, rfl, r1⟩ := repL1 r
    cases r1
    exact .inl ⟨i, rfl, k G H M (.int _) _ (Same.refl _) S rfl h⟩
  · next i =>
    obtain ⟨v, rfl, r1⟩ := repL1 r
    cases r1
    exact .inr ⟨i, rfl, k G H M (.int _) _ (Same.refl _) S rfl h⟩
  · exact h.elim⟩

/-! ### list(x), tuple(x) -/
def dList (m : Bool) : DCa := fun ds M Q => match ds with
  | [x] => match res M x with
    | .lst es => newL m es M Q
    | .tup es => newL m es M Q
    | _ => False
  | _ => False
theorem c_list {X : Cx} (m : Bool) : QCa X (.type "list") (fun xs H Q => ∃ p ys, xs = [.ref p] ∧ (SqL X.K H p ys ∨ SqT X.K H p ys) ∧ ∀ l, H l = none → Q (.ref l) (upd H l (.lst ys))) (dList m) := ⟨call_list_of, fun G H p M s ds vs Q Q' S r h k => by
  unfold dList at h
  split at h
  · next x =>
    obtain ⟨v, rfl, r1⟩ := repL1 r
    split at h
    · next es e1 =>
      obtain ⟨a, us, rfl, g1, g2, g3⟩ := as_lst S r1 e1
      exact ⟨a, us, rfl, .inl (.inl (.inl g1)), fun q hq => newL_ok S hq g2 g3 h k⟩
    · next es e1 =>
      obtain ⟨a, us, rfl, g1, g2, g3⟩ := as_tup S r1 e1
      exact ⟨a, us, rfl, .inr g1, fun q hq => newL_ok S hq g2 g3 h k⟩
    · exact h.elim
  · exact h.elim⟩
def dTuple : DCa := fun ds M Q => match ds with
  | [.tup es] => Q (.tup es) M
  | [x] => match res M x with
    | .lst es => Q (.tup es) M
    | _ => False
  | _ => False
theorem c_tuple {X : Cx} : QCa X (.type "tuple") (fun xs H Q => ∃ p ys, xs = [.ref p] ∧ ((SqL X.K H p ys ∧ ∀ l, H l = none → Q (.ref l) (upd H l (.tup ys))) ∨ (SqT X.K H p ys ∧ Q (.ref p) H))) dTuple := ⟨call_tuple_of, fun G H p M s ds vs Q Q' S r h k => by
  unfold dTuple at h
  split at h
  · next es =>
    obtain ⟨v, rfl, r1⟩ := repL1 r
    obtain ⟨a, us, rfl, g1, g2, g3⟩ := r1
    exact ⟨a, us, rfl, .inr ⟨.inl (.inl (S.same _ _ g1)), k G H M (.tup es) _ (Same.refl _) S ⟨a, us, rfl, g1, g2, g3⟩ h⟩⟩
  · next x _ =>
    obtain ⟨v, rfl, r1⟩ := repL1 r
    split at h
    · next es e1 =>
      obtain ⟨a, us, rfl, g1, g2, g3⟩ := as_lst S r1 e1
      exact ⟨a, us, rfl, .inl ⟨.inl (.inl g1), fun q hq => newT_ok S hq g2 g3 h k⟩⟩
    · exact h.elim
  · exact h.elim⟩

/-! ### all, any, sum -/
def blsD : List D → Option (List Bool)
  | [] => some []
  | .bl b :: ds => (blsD ds).map (b :: ·)
  | _ => none
def intsD : List D → Option (List Int)
  | [] => some []
  | .int b :: ds => (intsD ds).map (b :: ·)
  | _ => none
theorem blsD_of {K : PySem.W.Frag} {G : Hp} : ∀ {ds : List D} {vs : List V} {bs : List Bool}, RepL K G ds vs → blsD ds = some bs → vs = bs.map V.bl
  | [], _, _, h, e => by cases h; cases e; rfl
  | d :: ds, _, bs, ⟨v, r, h1, h2, h3⟩, e => by
    cases d with
    | bl b =>
      simp only [blsD] at e
      cases eb : blsD ds with
      | none => rw [eb] at e; cases e
      | some cs =>
        rw [eb] at e; cases e
        cases h2
        rw [h1, blsD_of h3 eb]; rfl
    | _ => simp [blsD] at e
theorem intsD_of {K : PySem.W.Frag} {G : Hp} : ∀ {ds : List D} {vs : List V} {bs : List Int}, RepL K G ds vs → intsD ds = some bs → vs = bs.map V.int
  | [], _, _, h, e => by cases h; cases e; rfl
  | d :: ds, _, bs, ⟨v, r, h1, h2, h3⟩, e => by
    cases d with
    | int b =>
      simp only [intsD] at e
      cases eb : intsD ds with
      | none => rw [eb] at e; cases e
      | some cs =>
        rw [eb] at e; cases e
        cases h2
        rw [h1, intsD_of h3 eb]; rfl
    | _ => simp [intsD] at e
@[simp] theorem blsD_map {α : Type} (f : α → Bool) : ∀ l : List α, blsD (l.map fun x => .bl (f x)) = some (l.map f)
  | [] => rfl
  | x :: l => by simp [blsD, blsD_map f l]
@[simp] theorem intsD_map {α : Type} (f : α → Int) : ∀ l : List α, intsD (l.map fun x => .int (f x)) = some (l.map f)
  | [] => rfl
  | x :: l => by simp [intsD, intsD_map f l]
def dAll : DCa := fun ds M Q => match ds with
  | [x] => match res M x with
    | .lst es => match blsD es with | some bs => Q (.bl (bs.all id)) M | none => False
    | _ => False
  | _ => False
def dAny : DCa := fun ds M Q => match ds with
  | [x] => match res M x with
    | .lst es => match blsD es with | some bs => Q (.bl (bs.any id)) M | none => False
    | _ => False
  | _ => False
theorem c_all {X : Cx} (hc : X.calm = true) : QCa X (.builtin "all") (rAll X.K) dAll := ⟨cr_all hc, fun G H p M s ds vs Q Q' S r h k => by
  unfold dAll at h
  split at h
  · next x =>
    obtain ⟨v, rfl, r1⟩ := repL1 r
    split at h
    · next es e1 =>
      obtain ⟨a, us, rfl, g1, g2, g3⟩ := as_lst S r1 e1
      split at h
      · next bs eb =>
        refine ⟨a, bs, rfl, .inl (.inl ?_), k G H M (.bl _) _ (Same.refl _) S rfl h⟩
        rw [← blsD_of g2 eb]; exact g1
      · exact h.elim
    · exact h.elim
  · exact h.elim⟩
theorem c_any {X : Cx} (hc : X.calm = true) : QCa X (.builtin "any") (rAny X.K) dAny := ⟨cr_any hc, fun G H p M s ds vs Q Q' S r h k => by
  unfold dAny at h
  split at h
  · next x =>
    obtain ⟨v, rfl, r1⟩ := repL1 r
    split at h
    · next es e1 =>
      obtain ⟨a, us, rfl, g1, g2, g3⟩ := as_lst S r1 e1
      split at h
      · next bs eb =>
        refine ⟨a, bs, rfl, .inl (.inl ?_), k G H M (.bl _) _ (Same.refl _) S rfl h⟩
        rw [← blsD_of g2 eb]; exact g1
      · exact h.elim
    · exact h.elim
  · exact h.elim⟩

/-! ### isinstance against built-in types -/
def tyD : D → String
  | .non => "NoneType"
  | .bl _ => "bool"
  | .int _ => "int"
  | .str _ => "str"
  | .tup _ => "tuple"
  | .ktp _ => "tuple"
  | .xtp _ => "tuple"
  | .lst _ => "list"
  | .dct _ _ => "dict"
  | .scr _ => "list"
  | _ => ""
def hasTy : D → Bool
  | .ins _ _ _ => false
  | .exc _ _ _ _ => false
  | .ref _ => false
  | .ty _ => false
  | .scr _ => false
  | _ => true
/-- is a thing of the type t one of T -/
def isiB (t T : String) : Option Bool := kitB t T
def isiL (t : String) : List D → Option Bool
  | [] => some false
  | .ty T :: ds => match isiB t T, isiL t ds with
    | some a, some b => some (a || b)
    | _, _ => none
  | _ => none
def dIsi : DCa := fun ds M Q => match ds with
  | [x, .ty T] => hasTy (res M x) = true ∧ match isiB (tyD (res M x)) T with | some b => Q (.bl b) M | none => False
  | [x, .tup Ts] => hasTy (res M x) = true ∧ match isiL (tyD (res M x)) Ts with | some b => Q (.bl b) M | none => False
  | _ => False
theorem tyX_of {K : PySem.W.Frag} {G H : Hp} {p : Rho} {M : Mst} {s : L2.St} {x : D} {v : V} (S : Sim K G H p M s) (r : Rep K G x v) (h : hasTy (res M x) = true) : TyX K H v (.type (tyD (res M x))) := by
  cases e : res M x with
  | non =>
    have : x = .non := by
      cases x with
      | ref a => simp only [res] at e; split at e <;> cases e
      | _ => cases e <;> rfl
    subst this; cases r; exact .base .non
  | bl b =>
    have : x = .bl b := by
      cases x with
      | ref a => simp only [res] at e; split at e <;> cases e
      | _ => cases e <;> rfl
    subst this; cases r; exact .base (.bl _)
  | int b => cases as_int r e; exact .base (.int _)
  | str b => obtain ⟨rfl, _⟩ := as_str r e; exact .base (.str _)
  | ty b => rw [e] at h; cases h
  | ref b => rw [e] at h; cases h
  | scr b => rw [e] at h; cases h
  | ins a b c => rw [e] at h; cases h
  | exc a b c z => rw [e] at h; cases h
  | ktp b =>
    cases x with
    | ref a => simp only [res] at e; split at e <;> cases e
    | _ => cases e
  | xtp b =>
    cases x with
    | ref a => simp only [res] at e; split at e <;> cases e
    | _ => cases e
  | tup ds =>
    cases x with
    | ref a => simp only [res] at e; split at e <;> cases e
    | tup es =>
      cases e
      obtain ⟨a, us, rfl, g1, g2, g3⟩ := r
      exact .base (.tup (S.same _ _ g1))
    | ktp es =>
      cases e
      obtain ⟨a, us, rfl, g1, g2, g3⟩ := r
      rcases g1 with (g1 | ⟨o, g1⟩) | ⟨o, its, n, hk, hc, _⟩
      · exact .base (.tup (S.same _ _ g1))
      · exact .fTuple (S.same _ _ g1)
      · exact .kTuple hk hc
    | xtp es =>
      cases e
      obtain ⟨a, o, us, rfl, g1, g2, g3⟩ := r
      exact .fTuple (S.same _ _ g1)
    | _ => cases e
  | lst ds =>
    obtain ⟨a, us, rfl, g1, g2, g3⟩ := as_lst S r e
    exact .base (.lst g1)
  | dct ks ds =>
    obtain ⟨a, us, rfl, g1, g2, g3, g4, _⟩ := as_dct S r e
    rcases g1 with g1 | ⟨o, g1⟩
    · exact .base (.dK g1)
    · exact .fDict g1
theorem isiL_of {K : PySem.W.Frag} {G : Hp} {t : String} : ∀ {ds : List D} {vs : List V} {b : Bool}, RepL K G ds vs → isiL t ds = some b → ∃ us, Paired ClsV vs us ∧ PySem.W.kitAny K (.type t) us = some b
  | [], _, b, h, e => by cases h; cases e; exact ⟨[], .nil, kitAny_nil⟩
  | d :: ds, _, b, ⟨v, r, h1, h2, h3⟩, e => by
    cases d with
    | ty T =>
      simp only [isiL] at e
      split at e
      · next a c e1 e2 =>
        cases e
        cases h2
        subst h1
        obtain ⟨us, q1, q2⟩ := isiL_of h3 e2
        refine ⟨.type T :: us, .cons (.ty T) q1, kitAny_cons (kit_ty e1) (fun ha => ?_) fun ha => ?_⟩
        · rw [q2, ha]; rfl
        · rw [ha]; rfl
      · cases e
    | _ => simp [isiL] at e
def rIsiX (K : PySem.W.Frag) : List V → Hp → VK → Prop := fun xs H Q => rIsi K xs H Q ∨ rIsiT K xs H Q
theorem c_isi {X : Cx} : QCa X (.builtin "isinstance") (rIsiX X.K) dIsi := ⟨CallR.or call_isi call_isiT, fun G H p M s ds vs Q Q' S r h k => by
  unfold dIsi at h
  split at h
  · next x T =>
    obtain ⟨v, u, rfl, r1, r2⟩ := repL2 r
    cases r2
    obtain ⟨ht, h⟩ := h
    split at h
    · next b e => exact .inl ⟨_, _, _, _, b, rfl, .ty T, tyX_of S r1 ht, kit_ty e, k G H M (.bl b) _ (Same.refl _) S rfl h⟩
    · exact h.elim
  · next x Ts =>
    obtain ⟨v, u, rfl, r1, r2⟩ := repL2 r
    obtain ⟨a, us, rfl, g1, g2, g3⟩ := r2
    obtain ⟨ht, h⟩ := h
    split at h
    · next b e =>
      obtain ⟨ws, q1, q2⟩ := isiL_of g2 e
      exact .inr ⟨_, a, us, _, ws, b, rfl, S.same _ _ g1, q1, tyX_of S r1 ht, q2, k G H M (.bl b) _ (Same.refl _) S rfl h⟩
    · exact h.elim
  · exact h.elim⟩
end DL

/-! DLe: statements, targets, loops, comprehensions. -/
namespace DL
open PySem L2

/-! ### blocks -/
@[simp] def qNext : DTS := fun _ DE p M => DE.nx p M
@[simp] def qSeq (q1 q2 : DTS) : DTS := fun DW DE p M => q1 DW { DE with nx := q2 DW DE } p M
@[simp] def qDrop (q : DTE) : DTS := fun DW DE p M => q DW p M fun _ M1 => DE.nx p M1
@[simp] def qRet (q : DTE) : DTS := fun DW DE p M => q DW p M fun d M1 => DE.rt d M1
@[simp] def qRetN : DTS := fun _ DE p M => DE.rt .non M
@[simp] def qIfS (c : DTT) (a b : DTS) : DTS := fun DW DE p M => c DW p M fun k M1 => if k = true then a DW DE p M1 else b DW DE p M1
def qNever : DTS := fun _ _ _ _ => False
@[simp] def qBreak : DTS := fun _ DE p M => DE.bk p M
@[simp] def qCont : DTS := fun _ DE p M => DE.ct p M
section
variable {X : Cx} {W : WX} {st : Stmt} {rest : List Stmt} {t u : TS} {q r : DTS} {e : Expr} {te : TE} {qe : DTE} {pos : Pos}
theorem qss_nil : QSs X W [] tNext qNext := ⟨pss_nil, fun DW G H p M s DE E hw S h k => k.nx G H p M s (Same.refl _) S h⟩
theorem qss_cons (h1 : QS X W st t q) (h2 : QSs X W rest u r) : QSs X W (st :: rest) (tSeq t u) (qSeq q r) :=
  ⟨pss_cons h1.pe h2.pe, fun DW G H p M s DE E hw S h k => h1.rf DW G H p M s _ _ hw S h
    ⟨fun G' H' p' M' s' e1 S' h' => h2.rf DW G' H' p' M' s' DE E (hw.mono e1) S' h' (k.mono e1), k.rt, k.bk, k.ct⟩⟩
theorem qss_one (h1 : QS X W st t q) : QSs X W [st] t q := ⟨pss_one h1.pe, h1.rf⟩
theorem qs_pass : QS X W (.Pass pos) tNext qNext := ⟨ps_pass, fun DW G H p M s DE E hw S h k => k.nx G H p M s (Same.refl _) S h⟩
theorem qs_break : QS X W (.Break pos) tBreak qBreak := ⟨ps_break, fun DW G H p M s DE E hw S h k => k.bk G H p M s (Same.refl _) S h⟩
theorem qs_continue : QS X W (.Continue pos) tCont qCont := ⟨ps_continue, fun DW G H p M s DE E hw S h k => k.ct G H p M s (Same.refl _) S h⟩
theorem qs_expr (he : QE X W e te qe) (hs : swapsWith e none pos.line X.env = pure false := by rfl) : QS X W (.Expr e pos) (tDrop te) (qDrop qe) :=
  ⟨ps_expr he.pe hs, fun DW G H p M s DE E hw S h k => he.rf DW G H p M s _ _ hw S h fun G1 H1 M1 d v e1 S1 r1 h1 => k.nx G1 H1 p M1 s e1 S1 h1⟩
theorem qs_ret (he : QE X W e te qe) : QS X W (.Return (some e) pos) (tRet te) (qRet qe) :=
  ⟨ps_ret he.pe, fun DW G H p M s DE E hw S h k => he.rf DW G H p M s _ _ hw S h fun G1 H1 M1 d v e1 S1 r1 h1 => k.rt G1 H1 p M1 s d v e1 S1 r1 h1⟩
theorem qs_retN : QS X W (.Return none pos) tRetN qRetN := ⟨ps_retN, fun DW G H p M s DE E hw S h k => k.rt G H p M s .non .non (Same.refl _) S rfl h⟩
theorem qs_if {c : Expr} {a b : List Stmt} {tc : TT} {qc : DTT} (hc : QT X W c tc qc) (ha : QSs X W a t q) (hb : QSs X W b u r) : QS X W (.If c a b pos) (tIfS tc t u) (qIfS qc q r) :=
  ⟨ps_if hc.pe ha.pe hb.pe, fun DW G H p M s DE E hw S h k => hc.rf DW G H p M s _ _ hw S h fun G1 H1 M1 c e1 S1 h1 => by
    cases c with
    | true =>
      rw [if_pos rfl] at h1 ⊢
      exact ha.rf DW G1 H1 p M1 s DE E (hw.mono e1) S1 h1 (k.mono e1)
    | false =>
      rw [if_neg Bool.false_ne_true] at h1 ⊢
      exact hb.rf DW G1 H1 p M1 s DE E (hw.mono e1) S1 h1 (k.mono e1)⟩
theorem qs_never : QS X W st tNever qNever := ⟨ps_never, fun DW G H p M s DE E hw S h k => h.elim⟩
theorem qss_never {sts : List Stmt} : QSs X W sts tNever qNever := ⟨pss_never, fun DW G H p M s DE E hw S h k => h.elim⟩
end

/-! ### targets: which slots they store -/
def Only (ix : List Nat) (s s' : L2.St) : Prop := s'.length = s.length ∧ ∀ j, j ∉ ix → s'[j]? = s[j]?
theorem Only.refl (ix : List Nat) (s : L2.St) : Only ix s s := ⟨rfl, fun _ _ => rfl⟩
theorem Only.trans {ix : List Nat} {s s1 s2 : L2.St} (a : Only ix s s1) (b : Only ix s1 s2) : Only ix s s2 := ⟨b.1.trans a.1, fun j h => (b.2 j h).trans (a.2 j h)⟩
theorem Only.mono {ix iy : List Nat} {s s1 : L2.St} (a : Only ix s s1) (h : ∀ j ∈ ix, j ∈ iy) : Only iy s s1 := ⟨a.1, fun j hj => a.2 j fun z => hj (h j z)⟩
theorem Only.set {ix : List Nat} {s : L2.St} {i : Nat} {v : Option V} (h : i ∈ ix) : Only ix s (s.set i v) := ⟨by simp, fun j hj => List.getElem?_set_ne (fun z => hj (by rw [← z]; exact h))⟩
theorem wipe_get {s : L2.St} {j : Nat} : ∀ {vs : List Nat}, j ∉ vs → (wipe s vs)[j]? = s[j]?
  | [], _ => rfl
  | v :: vs, h => by
    simp only [List.mem_cons, not_or] at h
    unfold wipe
    rw [List.getElem?_set_ne (Ne.symm h.1)]
    exact wipe_get h.2
theorem wipe_in {s : L2.St} {j : Nat} : ∀ {vs : List Nat}, j ∈ vs → j < s.length → (wipe s vs)[j]? = some none
  | [], h, _ => by cases h
  | v :: vs, h, hl => by
    unfold wipe
    by_cases e : v = j
    · subst e
      rw [List.getElem?_set_self (by rw [wipe_length]; exact hl)]
    · rw [List.getElem?_set_ne e]
      exact wipe_in (by rcases List.mem_cons.mp h with q | q; exact absurd q.symm e; exact q) hl
theorem Only.wipe {ix : List Nat} {s s' : L2.St} (h : Only ix s s') : L2.wipe s' ix = L2.wipe s ix := by
  apply List.ext_getElem?
  intro j
  by_cases hj : j ∈ ix
  · by_cases hl : j < s.length
    · rw [wipe_in hj hl, wipe_in hj (by rw [h.1]; exact hl)]
    · rw [List.getElem?_eq_none (by rw [wipe_length, h.1]; omega), List.getElem?_eq_none (by rw [wipe_length]; omega)]
  · rw [wipe_get hj, wipe_get hj]; exact h.2 j hj
def RefGi (K : PySem.W.Frag) (W : WX) (ix : List Nat) (t : TG) (q : DTG) : Prop := ∀ DW G H p M s d v (Q : Rho → Mst → Prop) (Q' : L2.St → Hp → Prop), WLink K G DW W → Sim K G H p M s → Rep K G d v → q d DW p M Q →
  (∀ G' H' p' M' s', Same G G' → Sim K G' H' p' M' s' → Only ix s s' → Q p' M' → Q' s' H') → t v s H Q'
def RefGis (K : PySem.W.Frag) (W : WX) (ix : List Nat) (t : TGs) (q : DTGs) : Prop := ∀ DW G H p M s ds vs (Q : Rho → Mst → Prop) (Q' : L2.St → Hp → Prop), WLink K G DW W → Sim K G H p M s → RepL K G ds vs → q ds DW p M Q →
  (∀ G' H' p' M' s', Same G G' → Sim K G' H' p' M' s' → Only ix s s' → Q p' M' → Q' s' H') → t vs s H Q'
structure QGi (X : Cx) (W : WX) (ix : List Nat) (tg : Expr) (t : TG) (q : DTG) : Prop where
  pe : PG X tg t
  rf : RefGi X.K W ix t q
structure QGis (X : Cx) (W : WX) (ix : List Nat) (tg : List Expr) (t : TGs) (q : DTGs) : Prop where
  pe : PGs X tg t
  rf : RefGis X.K W ix t q
section
variable {K : PySem.W.Frag} {G H : Hp} {p : Rho} {M : Mst} {s : L2.St} {d : D} {v : V}
theorem Sim.set (S : Sim K G H p M s) (i : Nat) (r : Rep K G d v) : Sim K G H (p.set i (some d)) M (s.set i (some v)) := by
  refine ⟨S.same, fun j e h => ?_, by simp [S.len], S.mem⟩
  by_cases hj : i = j
  · subst hj
    by_cases hl : i < p.length
    · rw [List.getElem?_set_self hl] at h
      cases h
      exact ⟨v, by rw [List.getElem?_set_self (by rw [S.len]; exact hl)], r⟩
    · rw [List.getElem?_eq_none (by simpa using hl)] at h
      cases h
  · rw [List.getElem?_set_ne hj] at h ⊢
    exact S.env j e h
/-- a name is forgotten -/
theorem Sim.forget (S : Sim K G H p M s) (i : Nat) (v : Option V) : Sim K G H (p.set i none) M (s.set i v) := by
  refine ⟨S.same, fun j e h => ?_, by simp [S.len], S.mem⟩
  by_cases hj : i = j
  · subst hj
    by_cases hl : i < p.length
    · rw [List.getElem?_set_self hl] at h
      cases h
    · rw [List.getElem?_eq_none (by simpa using hl)] at h
      cases h
  · rw [List.getElem?_set_ne hj] at h ⊢
    exact S.env j e h
end
def wipeD (p : Rho) : List Nat → Rho
  | [] => p
  | v :: vs => (wipeD p vs).set v none
theorem Sim.wipe {K : PySem.W.Frag} {G H : Hp} {p : Rho} {M : Mst} {s : L2.St} (S : Sim K G H p M s) : ∀ vs : List Nat, Sim K G H (wipeD p vs) M (L2.wipe s vs)
  | [] => S
  | v :: vs => (Sim.wipe S vs).forget v none
@[simp] def gNameD (i : Nat) : DTG := fun d _ p M Q => Q (p.set i (some d)) M
@[simp] def gNilD : DTGs := fun ds _ p M Q => ds = [] ∧ Q p M
@[simp] def gConsD (g : DTG) (gs : DTGs) : DTGs := fun ds DW p M Q => match ds with
  | d :: r => g d DW p M fun p1 M1 => gs r DW p1 M1 Q
  | [] => False
def gTupD (n : Nat) (gs : DTGs) : DTG := fun d DW p M Q => match res M d with
  | .tup ds => ds.length = n ∧ gs ds DW p M Q
  | _ => False
/-- o[i] = v by values -/
def putD {κ : Type} [DecidableEq κ] (kvs : List (κ × D)) (k : κ) (v : D) : List (κ × D) :=
  if kvs.any (fun kv => decide (kv.1 = k)) then kvs.map (fun kv => if kv.1 = k then (kv.1, v) else kv) else kvs ++ [(k, v)]
def dSet (o i v : D) (M : Mst) (Q : Mst → Prop) : Prop := match o with
  | .ref a => match M a with
    | some (.lst ds) => match i with
      | .int k => match ixN ds.length k with
        | some j => Q (put M a (.lst (ds.set j v)))
        | none => False
      | _ => False
    | some (.dK kvs) => match keyD i with
      | some k => kvs.length < 100000 ∧ Q (put M a (.dK (putD kvs k v)))
      | none => False
    | some (.dT kvs) => match i with
      | .tup ks => match keysD ks with
        | some k => kvs.length < 100000 ∧ Q (put M a (.dT (putD kvs k v)))
        | none => False
      | _ => False
    | _ => False
  | _ => False
def gSubD (qo qi : DTE) : DTG := fun d DW p M Q => qo DW p M fun o M1 => qi DW p M1 fun i M2 => dSet o i d M2 fun M3 => Q p M3
section
variable {X : Cx} {W : WX} {x : Str} {pos : Pos}
theorem qg_name {i : Nat} {ix : List Nat} (h : PG X (.Name x pos) (gName i)) (hm : i ∈ ix) : QGi X W ix (.Name x pos) (gName i) (gNameD i) :=
  ⟨h, fun DW G H p M s d v Q Q' hw S r q k => k G H _ M _ (Same.refl _) (S.set i r) (Only.set hm) q⟩
theorem qgs_nil {ix : List Nat} : QGis X W ix [] gNil gNilD := ⟨pgs_nil, fun DW G H p M s ds vs Q Q' hw S r ⟨e, q⟩ k => by
  subst e; cases r; exact ⟨rfl, k G H p M s (Same.refl _) S (Only.refl _ _) q⟩⟩
theorem qgs_cons {ix : List Nat} {e : Expr} {es : List Expr} {t : TG} {q : DTG} {u : TGs} {r : DTGs} (h1 : QGi X W ix e t q) (h2 : QGis X W ix es u r) (hs : (assignEach (e :: es) X.env).map (·.2) = assign e X.env :: (assignEach es X.env).map (·.2) := by rfl) :
    QGis X W ix (e :: es) (gCons t u) (gConsD q r) := ⟨pgs_cons h1.pe h2.pe hs, fun DW G H p M s ds vs Q Q' hw S rr h k => by
  cases ds with
  | nil => exact h.elim
  | cons d ds =>
    obtain ⟨v, vr, e1, r1, r2⟩ := rr
    exact ⟨v, vr, e1, h1.rf DW G H p M s d v _ _ hw S r1 h fun G1 H1 p1 M1 s1 e1 S1 o1 h1 => h2.rf DW G1 H1 p1 M1 s1 ds vr Q Q' (hw.mono e1) S1 (RepL.mono e1 _ _ r2) h1
      fun G2 H2 p2 M2 s2 e2 S2 o2 h2 => k G2 H2 p2 M2 s2 (e1.trans e2) S2 (o1.trans o2) h2⟩⟩
theorem qg_tup {ix : List Nat} {es : List Expr} {kk : Nat} {t : TGs} {q : DTGs} {n : Nat} (hc : X.calm = true) (h : QGis X W ix es t q) (hn : (assignEach es X.env).length = n := by rfl) (hst : (assignEach es X.env).findIdx? (·.1) = none := by rfl) :
    QGi X W ix (.Tuple es kk pos) (gTup X.K n t) (gTupD n q) := ⟨pg_tup hc h.pe hn hst, fun DW G H p M s d v Q Q' hw S r hq k => by
  unfold gTupD at hq
  split at hq
  · next ds e1 =>
    obtain ⟨hl, hq⟩ := hq
    obtain ⟨a, vs, rfl, g1, g2, g3⟩ := as_tup S r e1
    exact ⟨a, vs, rfl, g1, g2.length.trans hl, h.rf DW G H p M s ds vs Q Q' hw S g2 hq k⟩
  · exact hq.elim⟩
theorem set_dict (hu : X.A.units + 1 < cLine) : PSet X (fun o i v H Q => ∃ a H4, o = .ref a ∧ DPut H a i v H4 ∧ Q H4) := by
  intro pins s σ H o i v ov iv u Q I ro ri rv h
  obtain ⟨a, H4, rfl, g, q⟩ := h
  cases ro
  exact d_setItem hu I g ri rv fun s' I' => ⟨H4, I', q⟩
def rSetX : TSet := fun o i v H Q => rSetL o i v H Q ∨ ∃ a H4, o = .ref a ∧ DPut H a i v H4 ∧ Q H4
theorem set_any (hu : X.A.units + 1 < cLine) : PSet X rSetX := by
  intro pins s σ H o i v ov iv u Q I ro ri rv h
  rcases h with h | h
  · exact set_list pins s σ H o i v ov iv u Q I ro ri rv h
  · exact set_dict hu pins s σ H o i v ov iv u Q I ro ri rv h
theorem any_key {κ : Type} [DecidableEq κ] {kvs : List (κ × D)} {kv : List (κ × V)} {k : κ} (h : kv.map (·.1) = kvs.map (·.1)) : kv.any (fun q => decide (q.1 = k)) = kvs.any (fun q => decide (q.1 = k)) := by
  have e1 : kv.any (fun q => decide (q.1 = k)) = (kv.map (·.1)).any (fun q => decide (q = k)) := by rw [List.any_map]; rfl
  have e2 : kvs.any (fun q => decide (q.1 = k)) = (kvs.map (·.1)).any (fun q => decide (q = k)) := by rw [List.any_map]; rfl
  rw [e1, e2, h]
theorem putMap_rel {K : PySem.W.Frag} {G : Hp} {κ : Type} [DecidableEq κ] {k : κ} {d : D} {v : V} (rd : Rep K G d v) : ∀ {kvs : List (κ × D)} {kv : List (κ × V)}, kv.map (·.1) = kvs.map (·.1) → RepL K G (kvs.map (·.2)) (kv.map (·.2)) →
    (kv.map fun q => if q.1 = k then (q.1, v) else q).map (·.1) = (kvs.map fun q => if q.1 = k then (q.1, d) else q).map (·.1) ∧ RepL K G ((kvs.map fun q => if q.1 = k then (q.1, d) else q).map (·.2)) ((kv.map fun q => if q.1 = k then (q.1, v) else q).map (·.2))
  | [], [], _, _ => ⟨rfl, rfl⟩
  | [], _ :: _, h, _ => by cases h
  | _ :: _, [], h, _ => by cases h
  | (a, e) :: kvs, (b, w) :: kv, h, r => by
    simp only [List.map_cons, List.cons.injEq] at h
    obtain ⟨rfl, h⟩ := h
    obtain ⟨v', r', e1, h2, h3⟩ := r
    simp only [List.map_cons, List.cons.injEq] at e1
    obtain ⟨rfl, rfl⟩ := e1
    obtain ⟨i1, i2⟩ := putMap_rel rd h h3
    by_cases z : b = k
    · simp only [List.map_cons, z, if_true]
      exact ⟨by rw [i1], RepL.cons rd i2⟩
    · simp only [List.map_cons, z, if_false]
      exact ⟨by rw [i1], RepL.cons h2 i2⟩
theorem put_rel {K : PySem.W.Frag} {G : Hp} {κ : Type} [DecidableEq κ] {kvs : List (κ × D)} {kv : List (κ × V)} {k : κ} {d : D} {v : V} (h : kv.map (·.1) = kvs.map (·.1)) (r : RepL K G (kvs.map (·.2)) (kv.map (·.2))) (rd : Rep K G d v) :
    (putK kv k v).map (·.1) = (putD kvs k d).map (·.1) ∧ RepL K G ((putD kvs k d).map (·.2)) ((putK kv k v).map (·.2)) ∧ (putK kv k v).length ≤ kv.length + 1 := by
  unfold putK putD
  rw [any_key h]
  cases kvs.any (fun q => decide (q.1 = k)) with
  | true =>
    simp only [if_true]
    obtain ⟨i1, i2⟩ := putMap_rel (k := k) rd h r
    exact ⟨i1, i2, by simp⟩
  | false =>
    simp only [Bool.false_eq_true, if_false]
    refine ⟨by simp [h], ?_, by simp⟩
    rw [List.map_append, List.map_append]
    exact RepL.append r (RepL.cons rd rfl)
theorem kOk_of {K : PySem.W.Frag} {G : Hp} {d : D} {v : V} {k : Key} (r : Rep K G d v) (h : keyD d = some k) : kOk k := by
  cases d with
  | int i => cases h; trivial
  | str x => cases h; exact r.2
  | _ => cases h
theorem kOks_of {K : PySem.W.Frag} {G : Hp} : ∀ {ds : List D} {vs : List V} {ks : List Key}, RepL K G ds vs → keysD ds = some ks → ks.length = ds.length ∧ ∀ k ∈ ks, kOk k
  | [], _, _, h, e => by cases h; cases e; exact ⟨rfl, fun _ h => by cases h⟩
  | d :: ds, _, ks, ⟨v, r, h1, h2, h3⟩, e => by
    simp only [keysD] at e
    split at e
    · next k ks' e1 e2 =>
      cases e
      obtain ⟨i1, i2⟩ := kOks_of h3 e2
      refine ⟨by simp [i1], fun q hq => ?_⟩
      rcases List.mem_cons.mp hq with rfl | hq
      · exact kOk_of h2 e1
      · exact i2 q hq
    · cases e
theorem putD_keys {κ : Type} [DecidableEq κ] {P : κ → Prop} {kvs : List (κ × D)} {k : κ} {d : D} (h : ∀ q ∈ kvs, P q.1) (hk : P k) : ∀ q ∈ putD kvs k d, P q.1 := by
  intro q hq
  unfold putD at hq
  split at hq
  · obtain ⟨r, h1, h2⟩ := List.mem_map.mp hq
    subst h2
    split
    · exact h r h1
    · exact h r h1
  · rcases List.mem_append.mp hq with hq | hq
    · exact h q hq
    · have : q = (k, d) := by simpa using hq
      subst this; exact hk
theorem qg_sub {ix : List Nat} {o i : Expr} {to ti : TE} {qo qi : DTE} (hu : X.A.units + 1 < cLine) (ho : QE X W o to qo) (hi : QE X W i ti qi)
    (ha : ∀ v, assign (.Subscript o i pos) X.env v = (do
      let ov ← holding [v] (eval o X.env)
      let iv ← holding [v, ov] (eval i X.env)
      standAt pos
      holding [v, ov, iv] (setItem ov iv v)
      release [v, ov, iv] []) := by intro _; rfl) : QGi X W ix (.Subscript o i pos) (gSub to ti rSetX) (gSubD qo qi) :=
  ⟨pg_sub ho.pe hi.pe (set_any hu) ha, fun DW G H p M s d v Q Q' hw S r h k => ho.rf DW G H p M s _ _ hw S h fun G1 H1 M1 x xv e1 S1 r1 h1 =>
    hi.rf DW G1 H1 p M1 s _ _ (hw.mono e1) S1 h1 fun G2 H2 M2 y yv e2 S2 r2 h2 => by
      have r' := Rep.mono (e1.trans e2) _ _ r
      have r1' := Rep.mono e2 _ _ r1
      unfold dSet at h2
      split at h2
      · next a =>
        cases r1'
        split at h2
        · next ds em =>
          obtain ⟨gn, vs, g1, g2, g3⟩ := S2.mem _ _ em
          split at h2
          · next n =>
            cases r2
            split at h2
            · next j ej =>
              refine .inl ⟨a, vs, n, j, rfl, rfl, g1, by rw [g2.length]; exact ej, ?_⟩
              exact k G2 _ p _ s (e1.trans e2) (S2.put (mo := .lst (ds.set j d)) gn ⟨_, upd_same, RepL.set j g2 r', by simpa using g3⟩) (Only.refl _ _) h2
            · exact h2.elim
          · exact h2.elim
        · next kvs em =>
          obtain ⟨gn, kv, g1, g2, g3, g4, g5⟩ := S2.mem _ _ em
          split at h2
          · next kk ek =>
            have kk1 := kOk_of r2 ek
            obtain ⟨hl, h2⟩ := h2
            cases keyD_of r2 ek
            have hl' : kv.length < sizeLine := by
              have e5 : kv.length = kvs.length := by have := congrArg List.length g2; simpa using this
              rw [sizeLine_eq]; omega
            obtain ⟨p1, p2, p3⟩ := put_rel (k := kk) g2 g3 r'
            refine .inr ⟨a, _, rfl, DPut.k g1 hl', ?_⟩
            exact k G2 _ p _ s (e1.trans e2) (S2.put (mo := .dK (putD kvs kk d)) gn ⟨_, upd_same, p1, p2, by omega, putD_keys g5 kk1⟩) (Only.refl _ _) h2
          · exact h2.elim
        · next kvs em =>
          obtain ⟨gn, kv, g1, g2, g3, g4, g5⟩ := S2.mem _ _ em
          split at h2
          · next ks =>
            split at h2
            · next kk ek =>
              obtain ⟨hl, h2⟩ := h2
              obtain ⟨b, ws, rfl, c1, c2, c3⟩ := r2
              have e6 := keysD_of c2 ek
              obtain ⟨kl, kk1⟩ := kOks_of c2 ek
              have kl' : kk.length ≤ sizeLine := by rw [kl, ← c2.length]; exact c3
              have hl' : kv.length < sizeLine := by
                have e5 : kv.length = kvs.length := by have := congrArg List.length g2; simpa using this
                rw [sizeLine_eq]; omega
              obtain ⟨p1, p2, p3⟩ := put_rel (k := kk) g2 g3 r'
              refine .inr ⟨a, _, rfl, DPut.t g1 (by rw [S2.same _ _ c1, e6]) hl', ?_⟩
              exact k G2 _ p _ s (e1.trans e2) (S2.put (mo := .dT (putD kvs kk d)) gn ⟨_, upd_same, p1, p2, by omega, putD_keys (P := fun k => k.length ≤ sizeLine ∧ ∀ x ∈ k, kOk x) g5 ⟨kl', kk1⟩⟩) (Only.refl _ _) h2
            · exact h2.elim
          · exact h2.elim
        · exact h2.elim
      · exact h2.elim⟩

/-! ### assignment -/
@[simp] def qAsg (qe : DTE) (g : DTG) : DTS := fun DW DE p M => qe DW p M fun d M1 => g d DW p M1 DE.nx
theorem ref_asg {K : PySem.W.Frag} {te : TE} {qe : DTE} {t : TG} {g : DTG} {ix : List Nat} (h : RefE K W te qe) (hg : RefGi K W ix t g) : RefS K W (tAsg te t) (qAsg qe g) :=
  fun DW G H p M s DE E hw S q k => h DW G H p M s _ _ hw S q fun G1 H1 M1 d v e1 S1 r1 h1 => hg DW G1 H1 p M1 s d v _ _ (hw.mono e1) S1 r1 h1 fun G2 H2 p2 M2 s2 e2 S2 _ h2 => k.nx G2 H2 p2 M2 s2 (e1.trans e2) S2 h2
theorem qs_asg {tg e : Expr} {te : TE} {qe : DTE} {t : TG} {g : DTG} {ix : List Nat} (he : QE X W e te qe) (hg : QGi X W ix tg t g) (hs : swapsWithSole [tg] e pos.line X.env = pure false := by rfl) (hw : swappedStores [tg] e X.env = pure none := by rfl)
    (h1 : (assignEach [tg] X.env).map (·.2) = [assign tg X.env] := by rfl) : QS X W (.Assign [tg] e pos) (tAsg te t) (qAsg qe g) := ⟨ps_asg he.pe hg.pe hs hw h1, ref_asg he.rf hg.rf⟩
theorem qs_set {i : Nat} {x : Str} {e : Expr} {te : TE} {qe : DTE} {pos' : Pos} (h : PS X (.Assign [.Name x pos'] e pos) (tAsg te (gName i))) (he : RefE X.K W te qe) : QS X W (.Assign [.Name x pos'] e pos) (tAsg te (gName i)) (qAsg qe (gNameD i)) :=
  ⟨h, fun DW G H p M s DE E hw S q k => he DW G H p M s _ _ hw S q fun G1 H1 M1 d v e1 S1 r1 h1 => k.nx G1 H1 _ M1 _ e1 (S1.set i r1) h1⟩
@[simp] def qPar (i j : Nat) (qa : DTA) : DTS := fun DW DE p M => qa DW p M fun ds M1 => match ds with
  | [a, b] => DE.nx ((p.set i (some a)).set j (some b)) M1
  | _ => False
theorem qs_par {i j : Nat} {st : Stmt} {ta : TA} {qa : DTA} (h : PS X st (tPar i j ta)) (ha : RefA X.K W ta qa) : QS X W st (tPar i j ta) (qPar i j qa) :=
  ⟨h, fun DW G H p M s DE E hw S q k => ha DW G H p M s _ _ hw S q fun G1 H1 M1 ds vs e1 S1 r1 h1 => by
    split at h1
    · next a b =>
      obtain ⟨v, u, rfl, r2, r3⟩ := repL2 r1
      exact ⟨v, u, rfl, k.nx G1 H1 _ M1 _ e1 ((S1.set i r2).set j r3) h1⟩
    · exact h1.elim⟩
@[simp] def qPar3 (i j l : Nat) (qa : DTA) : DTS := fun DW DE p M => qa DW p M fun ds M1 => match ds with
  | [a, b, c] => DE.nx (((p.set i (some a)).set j (some b)).set l (some c)) M1
  | _ => False
theorem repL3 {K : PySem.W.Frag} {G : Hp} {x y z : D} {vs : List V} (r : RepL K G [x, y, z] vs) : ∃ v u w, vs = [v, u, w] ∧ Rep K G x v ∧ Rep K G y u ∧ Rep K G z w := by
  obtain ⟨v, r', e, h1, h2⟩ := r
  obtain ⟨u, w, e2, h3, h4⟩ := repL2 h2
  subst e2
  exact ⟨v, u, w, e, h1, h3, h4⟩
theorem qs_par3 {i j l : Nat} {st : Stmt} {ta : TA} {qa : DTA} (h : PS X st (tPar3 i j l ta)) (ha : RefA X.K W ta qa) : QS X W st (tPar3 i j l ta) (qPar3 i j l qa) :=
  ⟨h, fun DW G H p M s DE E hw S q k => ha DW G H p M s _ _ hw S q fun G1 H1 M1 ds vs e1 S1 r1 h1 => by
    split at h1
    · next a b c =>
      obtain ⟨v, u, w, rfl, r2, r3, r4⟩ := repL3 r1
      exact ⟨v, u, w, rfl, k.nx G1 H1 _ M1 _ e1 (((S1.set i r2).set j r3).set l r4) h1⟩
    · exact h1.elim⟩
/-- x op= e -/
def rAugX : TIp := fun x y H Q => ipI (fun i j => i + j) x y H Q ∨ rExt2 x y H Q
def dAug : DOp := fun x y M Q => match x, y with
  | .int i, .int j => Q (.int (i + j)) M
  | .ref a, y => match M a with
    | some (.lst ds) => match res M y with
      | .lst es => ds.length + es.length ≤ 100000 ∧ Q (.ref a) (put M a (.lst (ds ++ es)))
      | _ => False
    | _ => False
  | _, _ => False
theorem ip_any : PIp X .Add rAugX := by
  intro pins s σ H x y v u Q I r1 r2 h
  rcases h with h | h
  · exact ip_add pins s σ H x y v u Q I r1 r2 h
  · exact iop_ext pins s σ H x y v u Q I r1 r2 h
def qAug (i : Nat) (qe : DTE) (o : DOp) : DTS := fun DW DE p M => match p[i]? with
  | some (some x) => qe DW p M fun y M1 => o x y M1 fun z M2 => DE.nx (p.set i (some z)) M2
  | _ => False
theorem ref_aug {K : PySem.W.Frag} : RefR2 K rAugX dAug := fun G H p M s x y v u Q Q' S r1 r2 h k => by
  unfold dAug at h
  split at h
  · next i j => cases r1; cases r2; exact .inl ⟨i, j, rfl, rfl, k G H M (.int (i + j)) _ (Same.refl _) S rfl h⟩
  · next a =>
    cases r1
    split at h
    · next ds em =>
      obtain ⟨gn, vs, g1, g2, g3⟩ := S.mem _ _ em
      split at h
      · next es e1 =>
        obtain ⟨hl, h⟩ := h
        obtain ⟨b, us, rfl, c1, c2, c3⟩ := as_lst S r2 e1
        have z : vs.length + us.length ≤ sizeLine := by rw [g2.length, c2.length]; exact sz1000 hl
        refine .inr ⟨a, b, vs, us, rfl, rfl, g1, c1, z, ?_⟩
        exact k G _ _ (.ref a) _ (Same.refl _) (S.put (mo := .lst (ds ++ es)) gn ⟨_, upd_same, RepL.append g2 c2, by rw [List.length_append]; exact z⟩) rfl h
      · exact h.elim
    · exact h.elim
  · exact h.elim
theorem qs_augX {i : Nat} {x : Str} {e : Expr} {te : TE} {qe : DTE} {op : Operator} {ti : TIp} {o : DOp} {pos' : Pos} (h : PS X (.AugAssign (.Name x pos') op e pos) (tAug i te ti)) (he : RefE X.K W te qe) (ho : RefR2 X.K ti o) : QS X W (.AugAssign (.Name x pos') op e pos) (tAug i te ti) (qAug i qe o) :=
  ⟨h, fun DW G H p M s DE E hw S q k => by
    unfold qAug at q
    split at q
    · next d e =>
      obtain ⟨v, h1, h2⟩ := S.env i d e
      exact ⟨v, h1, he DW G H p M s _ _ hw S q fun G1 H1 M1 y u e1 S1 r1 q1 => ho G1 H1 p M1 s d y v u _ _ S1 (Rep.mono e1 _ _ h2) r1 q1 fun G2 H2 M2 z w e2 S2 r2 q2 => k.nx G2 H2 _ M2 _ (e1.trans e2) (S2.set i r2) q2⟩
    · exact q.elim⟩
end
end DL

/-! DLf: what is walked; for, while, comprehensions. -/
namespace DL
open PySem L2

/-- an iterator that gives these things, as long as Sty holds of the mutable objects -/
structure Feed (K : PySem.W.Frag) (G : Hp) (J : It) (ds : List D) (Sty : Mst → Prop) : Prop where
  go : ∀ G' H p M s i, Same G G' → Sim K G' H p M s → Sty M → i < ds.length → J.go i H
  yld : ∀ G' H p M s i x H', Same G G' → Sim K G' H p M s → Sty M → J.yld i H x H' → ∀ d, ds[i]? = some d → ∃ G2, Same G' G2 ∧ Sim K G2 H' p M s ∧ Rep K G2 d x
  stop : ∀ G' H p M s, Same G G' → Sim K G' H p M s → Sty M → J.stop ds.length H
abbrev DTI := DWt → Rho → Mst → (List D → (Mst → Prop) → Mst → Prop) → Prop
def RefI (K : PySem.W.Frag) (W : WX) (t : TI) (q : DTI) : Prop := ∀ DW G H p M s (R : List D → (Mst → Prop) → Mst → Prop) (R' : It → Hp → Prop), WLink K G DW W → Sim K G H p M s → q DW p M R →
  (∀ G' H' M' J ds Sty, Same G G' → Sim K G' H' p M' s → Feed K G' J ds Sty → ds.length ≤ sizeLine → R ds Sty M' → R' J H') → t s H R'
structure QI (X : Cx) (W : WX) (tg e : Expr) (t : TI) (q : DTI) : Prop where
  pe : PI X tg e t
  rf : RefI X.K W t q
def always : Mst → Prop := fun _ => True
@[simp] theorem always_eq {M : Mst} : always M = True := rfl

section
variable {K : PySem.W.Frag} {G : Hp}
theorem feed_list {a : Addr} {ds : List D} {vs : List V} {Sty : Mst → Prop} (r : RepL K G ds vs) (h : ∀ G' H p M s, Same G G' → Sim K G' H p M s → Sty M → SqL K H a vs) : Feed K G (Itl K a) ds Sty where
  go := fun G' H p M s i e S st hi => by
    have q := h G' H p M s e S st
    have hl := r.length
    exact ⟨vs, vs[i]'(by omega), q, by simp [hl, hi]⟩
  yld := fun G' H p M s i x H' e S st y d hd => by
    obtain ⟨rfl, y⟩ := y
    have q := y vs (h G' _ p M s e S st)
    obtain ⟨v, h1, h2⟩ := (RepL.mono e _ _ r).get hd
    rw [q] at h1; cases h1
    exact ⟨G', Same.refl _, S, h2⟩
  stop := fun G' H p M s e S st => ⟨vs, h G' H p M s e S st, by rw [r.length]; exact Nat.le_refl _⟩
theorem feed_tup {a : Addr} {ds : List D} {vs : List V} (r : RepL K G ds vs) (h : SqT K G a vs) : Feed K G (Itt K a) ds always where
  go := fun G' H p M s i e S st hi => by
    have hl := r.length
    exact ⟨vs, vs[i]'(by omega), same_t (e.trans S.same) h, by simp [hl, hi]⟩
  yld := fun G' H p M s i x H' e S st y d hd => by
    obtain ⟨rfl, y⟩ := y
    have q := y vs (same_t (e.trans S.same) h)
    obtain ⟨v, h1, h2⟩ := (RepL.mono e _ _ r).get hd
    rw [q] at h1; cases h1
    exact ⟨G', Same.refl _, S, h2⟩
  stop := fun G' H p M s e S st => ⟨vs, same_t (e.trans S.same) h, by rw [r.length]; exact Nat.le_refl _⟩
def signs (z : Str) : List D := z.cps.toList.map fun c => .str ⟨#[c]⟩
theorem feed_str {z : Str} (ho : PyData.strOk z = true) : Feed K G (Its z) (signs z) always where
  go := fun G' H p M s i e S st hi => by show i < z.cps.size; simpa [signs] using hi
  yld := fun G' H p M s i x H' e S st y d hd => by
    obtain ⟨rfl, c, h1, rfl⟩ := y
    refine ⟨G', Same.refl _, S, ?_⟩
    simp only [signs, List.getElem?_map, Array.getElem?_toList, h1, Option.map_some, Option.some.injEq] at hd
    subst hd
    refine ⟨rfl, sz1000 (by show 1 ≤ 100000; decide), ?_⟩
    have ho' : ∀ y ∈ z.cps.toList, decide (y < 0x110000) = true := by
      unfold PyData.strOk at ho
      rw [← Array.all_toList] at ho
      exact List.all_eq_true.mp ho
    have := ho' c (by rw [Array.mem_toList_iff]; exact Array.mem_of_getElem? h1)
    simpa [PyData.strOk] using this
  stop := fun G' H p M s e S st => by show z.cps.size ≤ _; simp [signs]
def rangeD (lo : Int) (n : Nat) : List D := (List.range n).map fun i => .int (lo + (i : Nat))
theorem feed_range {lo : Int} {n : Nat} : Feed K G (Itr lo n) (rangeD lo n) always where
  go := fun G' H p M s i e S st hi => by simpa [rangeD, Itr] using hi
  yld := fun G' H p M s i x H' e S st y d hd => by
    obtain ⟨rfl, rfl⟩ := y
    refine ⟨G', Same.refl _, S, ?_⟩
    simp only [rangeD, List.getElem?_map, Option.map_eq_some_iff] at hd
    obtain ⟨j, h1, rfl⟩ := hd
    obtain ⟨h2, h3⟩ := List.getElem?_eq_some_iff.mp h1
    simp at h3
    subst h3
    rfl
  stop := fun G' H p M s e S st => by show n ≤ _; simp [rangeD]
/-- lo + i * c -/
def rangeDC (lo c : Int) (n : Nat) : List D := (List.range n).map fun i => .int (lo + (i : Nat) * c)
theorem feed_rangeC {lo c : Int} {n : Nat} : Feed K G (Itc lo c n) (rangeDC lo c n) always where
  go := fun G' H p M s i e S st hi => by simpa [rangeDC, Itc] using hi
  yld := fun G' H p M s i x H' e S st y d hd => by
    obtain ⟨rfl, rfl⟩ := y
    refine ⟨G', Same.refl _, S, ?_⟩
    simp only [rangeDC, List.getElem?_map, Option.map_eq_some_iff] at hd
    obtain ⟨j, h1, rfl⟩ := hd
    obtain ⟨h2, h3⟩ := List.getElem?_eq_some_iff.mp h1
    simp at h3
    subst h3
    rfl
  stop := fun G' H p M s e S st => by show n ≤ _; simp [rangeDC]
end

/-! ### a list, a tuple, a text -/
def iAny (K : PySem.W.Frag) (tl : TE) : TI := fun σ H R => tl σ H fun x H1 => (∃ a, x = .ref a ∧ (∃ xs, SqL K H1 a xs) ∧ R (Itl K a) H1) ∨ (∃ a, x = .ref a ∧ (∃ xs, SqT K H1 a xs) ∧ R (Itt K a) H1) ∨ ∃ z, x = .str z ∧ R (Its z) H1
theorem pi_any {X : Cx} {tg l : Expr} {tl : TE} (hl : PE X l tl) : PI X tg l (iAny X.K tl) := by
  refine ⟨fun pins s σ H R I h => ?_⟩
  refine thn (hl.run pins s σ H _ I h) fun v s1 ⟨x, H1, I1, r1, q1⟩ => ?_
  rcases q1 with ⟨a, e, ⟨xs, hq⟩, q⟩ | ⟨a, e, ⟨xs, hq⟩, q⟩ | ⟨z, e, q⟩
  · subst e
    cases r1
    obtain ⟨its, rv, p, hz⟩ := I1.list hq
    refine wpAny_pyIter_list p.isList ?_
    refine ⟨s1.heap.objs.size, [s1.heap.objs.size], _, _, H1, rfl, I1.kept (t' := s1.toks) fun b o e => Heap.get?_push_of_some _ e, turn_list a _, ⟨_, Heap.get?_push_size _ rfl, rfl, rfl⟩, fun b hb => ?_, q⟩
    have e : b = s1.heap.objs.size := by simpa using hb
    subst e
    exact I1.fpOk (Nat.le_refl _) (I1.hok.fresh (Nat.le_refl _))
  · subst e
    cases r1
    obtain ⟨its, rv, p, hz⟩ := I1.tuple hq
    refine wpAny_pyIter_tuple (show s1.heap.IsTuple a its.toArray from p) ?_
    refine ⟨s1.heap.objs.size, [s1.heap.objs.size], _, _, H1, rfl, I1.kept (t' := s1.toks) fun b o e => Heap.get?_push_of_some _ e, turn_tuple a _, ⟨_, Heap.get?_push_size _ rfl, rfl, rfl⟩, fun b hb => ?_, q⟩
    have e : b = s1.heap.objs.size := by simpa using hb
    subst e
    exact I1.fpOk (Nat.le_refl _) (I1.hok.fresh (Nat.le_refl _))
  · subst e
    obtain ⟨t, rfl⟩ := r1
    cases ha : z.cps.all (· < 128)
    · exact wpAny_pyIter_wide ha (pi_one (tk := s1.toks) I1 _ (turn_str _ z t "str_iterator" (.inr rfl)) ⟨_, Heap.get?_push_size _ rfl, rfl, rfl⟩ q)
    · exact wpAny_pyIter_ascii ha (pi_one (tk := s1.toks) I1 _ (turn_str _ z t "str_ascii_iterator" (.inl rfl)) ⟨_, Heap.get?_push_size _ rfl, rfl, rfl⟩ q)
def holds (a : Addr) (o : MO) : Mst → Prop := fun M => M a = some o
@[simp] theorem holds_eq {a : Addr} {o : MO} {M : Mst} : holds a o M = (M a = some o) := rfl
def qiAny (qe : DTE) : DTI := fun DW p M R => qe DW p M fun d M1 => match d with
  | .lst ds => R ds always M1
  | .tup ds => R ds always M1
  | .ktp ds => R ds always M1
  | .xtp ds => R ds always M1
  | .str z => R (signs z) always M1
  | .ref a => match M1 a with
    | some (.lst ds) => R ds (holds a (.lst ds)) M1
    | _ => False
  | _ => False
section
variable {X : Cx} {W : WX} {tg e : Expr} {te : TE} {qe : DTE}
theorem qi_any (he : QE X W e te qe) : QI X W tg e (iAny X.K te) (qiAny qe) :=
  ⟨pi_any he.pe, fun DW G H p M s R R' hw S h k => he.rf DW G H p M s _ _ hw S h fun G1 H1 M1 d v e1 S1 r1 h1 => by
    split at h1
    · next ds =>
      obtain ⟨a, vs, rfl, g1, g2, g3⟩ := r1
      refine .inl ⟨a, rfl, ⟨vs, .inl (.inl (S1.same _ _ g1))⟩, k G1 H1 M1 _ ds always e1 S1 (feed_list g2 fun G' H p M s e S _ => .inl (.inl (S.same _ _ (e _ _ g1)))) (by rw [← g2.length]; exact g3) h1⟩
    · next ds =>
      obtain ⟨a, vs, rfl, g1, g2, g3⟩ := r1
      exact .inr (.inl ⟨a, rfl, ⟨vs, .inl (.inl (S1.same _ _ g1))⟩, k G1 H1 M1 _ ds always e1 S1 (feed_tup g2 (.inl (.inl g1))) (by rw [← g2.length]; exact g3) h1⟩)
    · next ds =>
      obtain ⟨a, vs, rfl, g1, g2, g3⟩ := r1
      exact .inr (.inl ⟨a, rfl, ⟨vs, same_t S1.same g1⟩, k G1 H1 M1 _ ds always e1 S1 (feed_tup g2 g1) (by rw [← g2.length]; exact g3) h1⟩)
    · next ds =>
      obtain ⟨a, o, vs, rfl, g1, g0, g2, g3⟩ := r1
      exact .inr (.inl ⟨a, rfl, ⟨vs, .inl (.inr ⟨o, S1.same _ _ g1⟩)⟩, k G1 H1 M1 _ ds always e1 S1 (feed_tup g2 (.inl (.inr ⟨o, g1⟩))) (by rw [← g2.length]; exact g3) h1⟩)
    · next z =>
      obtain ⟨rfl, g1, g2⟩ := r1
      exact .inr (.inr ⟨z, rfl, k G1 H1 M1 _ _ always e1 S1 (feed_str g2) (by simpa [signs, Str.length] using g1) h1⟩)
    · next a =>
      cases r1
      split at h1
      · next ds em =>
        obtain ⟨gn, vs, g1, g2, g3⟩ := S1.mem _ _ em
        have lk : ∀ G' H p M s, Same G1 G' → Sim X.K G' H p M s → holds a (.lst ds) M → ∃ us, H a = some (.lst us) ∧ RepL X.K G' ds us := fun G' H p M s e S st => by
          obtain ⟨_, us, c1, c2, _⟩ := S.mem _ _ st
          exact ⟨us, c1, c2⟩
        refine .inl ⟨a, rfl, ⟨vs, .inl (.inl g1)⟩, k G1 H1 M1 _ ds _ e1 S1 ⟨fun G' H p M s i e S st hi => ?_, fun G' H p M s i x H' e S st y d hd => ?_, fun G' H p M s e S st => ?_⟩ (by rw [← g2.length]; exact g3) h1⟩
        · obtain ⟨us, c1, c2⟩ := lk G' H p M s e S st
          have hl := c2.length
          exact ⟨us, us[i]'(by omega), .inl (.inl c1), by simp [hl, hi]⟩
        · obtain ⟨us, c1, c2⟩ := lk G' H p M s e S st
          obtain ⟨rfl, y⟩ := y
          have q := y us (.inl (.inl c1))
          obtain ⟨v, h1, h2⟩ := c2.get hd
          rw [q] at h1; cases h1
          exact ⟨G', Same.refl _, S, h2⟩
        · obtain ⟨us, c1, c2⟩ := lk G' H p M s e S st
          exact ⟨us, .inl (.inl c1), by rw [c2.length]; exact Nat.le_refl _⟩
      · exact h1.elim
    · exact h1.elim⟩
/-- range(n), range(a, b) -/
def qiRng1 (qa : DTA) : DTI := fun DW p M R => qa DW p M fun ds M1 => match ds with
  | [.int j] => -(2 ^ 62) ≤ j ∧ j ≤ 100000 ∧ R (rangeD 0 j.toNat) always M1
  | _ => False
def qiRng2 (qa : DTA) : DTI := fun DW p M R => qa DW p M fun ds M1 => match ds with
  | [.int i, .int j] => (-(2 ^ 61) ≤ i ∧ i < 2 ^ 61 ∧ -(2 ^ 61) ≤ j ∧ j < 2 ^ 61) ∧ j - i ≤ 100000 ∧ R (rangeD i (j - i).toNat) always M1
  | _ => False
variable {a b : Expr} {ta : TA} {qa : DTA} {p pos : Pos}
theorem qi_range1 (hg : Gl X "range") (hm : X.mg "range" = none) (ha : QA X W [a] ta qa) (hs : starEach [a] X.env = [(false, eval a X.env)] := by rfl) : QI X W tg (.Call (.Name "range" p) [a] [] pos) (iRng1 ta) (qiRng1 qa) :=
  ⟨pi_range1 hg hm ha.pe hs, fun DW G H p M s R R' hw S h k => ha.rf DW G H p M s _ _ hw S h fun G1 H1 M1 ds vs e1 S1 r1 h1 => by
    split at h1
    · next j =>
      obtain ⟨v, rfl, r2⟩ := repL1 r1
      cases r2
      obtain ⟨b1, b2, h1⟩ := h1
      exact ⟨j, rfl, b1, by omega, k G1 H1 M1 _ _ _ e1 S1 feed_range (by simp only [rangeD, List.length_map, List.length_range]; exact sz1000 (by omega)) h1⟩
    · exact h1.elim⟩
theorem qi_range2 (hg : Gl X "range") (hm : X.mg "range" = none) (ha : QA X W [a, b] ta qa) (hs : starEach [a, b] X.env = [(false, eval a X.env), (false, eval b X.env)] := by rfl) (hs2 : starEach [b] X.env = [(false, eval b X.env)] := by rfl) : QI X W tg (.Call (.Name "range" p) [a, b] [] pos) (iRng2 ta) (qiRng2 qa) :=
  ⟨pi_range2 hg hm ha.pe hs hs2, fun DW G H p M s R R' hw S h k => ha.rf DW G H p M s _ _ hw S h fun G1 H1 M1 ds vs e1 S1 r1 h1 => by
    split at h1
    · next i j =>
      obtain ⟨v, u, rfl, r2, r3⟩ := repL2 r1
      cases r2
      cases r3
      obtain ⟨⟨b1, b2, b3, b4⟩, b5, h1⟩ := h1
      exact ⟨i, j, rfl, ⟨by omega, by omega, by omega, by omega⟩, k G1 H1 M1 _ _ _ e1 S1 feed_range (by simp only [rangeD, List.length_map, List.length_range]; exact sz1000 (by omega)) h1⟩
    · exact h1.elim⟩
end

/-! ### for -/
def loopL (Sty : Mst → Prop) (g : DTG) (tb : DTS) (DW : DWt) (DE : DEnds) : List D → Rho → Mst → Prop
  | [], p, M => Sty M ∧ DE.nx p M
  | d :: ds, p, M => Sty M ∧ g d DW p M fun p' M' => tb DW { DE with nx := loopL Sty g tb DW DE ds, ct := loopL Sty g tb DW DE ds, bk := DE.nx } p' M'
def qFor (qi : DTI) (g : DTG) (tb : DTS) : DTS := fun DW DE p M => qi DW p M fun ds Sty M1 => loopL Sty g tb DW DE ds p M1
section
variable {X : Cx} {W : WX} {tg iter : Expr} {body : List Stmt} {wi : TI} {qi : DTI} {t : TG} {g : DTG} {ix : List Nat} {tb : TS} {qb : DTS} {pos : Pos}
theorem ref_for {K : PySem.W.Frag} (hi : RefI K W wi qi) (hg : RefGi K W ix t g) (hb : RefS K W tb qb) : RefS K W (tFor wi t tb) (qFor qi g qb) :=
  fun DW G H p M s DE E hw S h k => hi DW G H p M s _ _ hw S h fun G1 H1 M1 J ds Sty e1 S1 F hlen h1 => by
    refine ⟨fun i m σ H => m = ds.length - i ∧ i ≤ ds.length ∧ ∃ G' p' M', Same G1 G' ∧ Sim K G' H p' M' σ ∧ loopL Sty g qb DW DE (ds.drop i) p' M', ⟨ds.length, by simp, Nat.zero_le _, G1, p, M1, Same.refl _, S1, by simpa using h1⟩, ?_⟩
    rintro i m σ H2 ⟨rfl, hi2, G', p', M', e2, S2, h2⟩
    by_cases hlt : i < ds.length
    · have ed : ds.drop i = ds[i] :: ds.drop (i + 1) := List.drop_eq_getElem_cons hlt
      rw [ed] at h2
      obtain ⟨st, h2⟩ := h2
      refine .inr ⟨F.go G' H2 p' M' σ i e2 S2 st hlt, fun σ' H' => ∃ G3 p3 M3, Same G1 G3 ∧ Sim K G3 H' p3 M3 σ' ∧ loopL Sty g qb DW DE (ds.drop (i + 1)) p3 M3,
        fun σ' H' n => ⟨ds.length - (i + 1), by omega, rfl, hlt, n⟩, fun x H' y => ?_⟩
      obtain ⟨G3, e3, S3, r3⟩ := F.yld G' H2 p' M' σ i x H' e2 S2 st y ds[i] (List.getElem?_eq_getElem hlt)
      have e13 := e2.trans e3
      refine hg DW G3 H' p' M' σ _ x _ _ (hw.mono (e1.trans e13)) S3 r3 h2 fun G4 H4 p4 M4 σ4 e4 S4 _ h4 => ?_
      have e14 := e13.trans e4
      refine hb DW G4 H4 p4 M4 σ4 _ _ (hw.mono (e1.trans e14)) S4 h4 ⟨fun G5 H5 p5 M5 σ5 e5 S5 h5 => ⟨G5, p5, M5, e14.trans e5, S5, h5⟩, fun G5 H5 p5 M5 σ5 d v e5 S5 r5 h5 => k.rt G5 H5 p5 M5 σ5 d v ((e1.trans e14).trans e5) S5 r5 h5,
        fun G5 H5 p5 M5 σ5 e5 S5 h5 => k.nx G5 H5 p5 M5 σ5 ((e1.trans e14).trans e5) S5 h5, fun G5 H5 p5 M5 σ5 e5 S5 h5 => ⟨G5, p5, M5, e14.trans e5, S5, h5⟩⟩
    · have e : i = ds.length := by omega
      subst e
      rw [List.drop_length] at h2
      exact .inl ⟨F.stop G' H2 p' M' σ e2 S2 h2.1, k.nx G' H2 p' M' σ (e1.trans e2) S2 h2.2⟩
theorem qs_for (hp : PassesOwn (model X.prog X.w) X.A X.env X.xe) (hc : X.calm = true) (hi : QI X W tg iter wi qi) (hg : QGi X W ix tg t g) (hb : QSs X W body tb qb) (hs : ∀ x, foldedSetIterable iter X.env x = pure x := by intro _; rfl) :
    QS X W (.For tg iter body [] pos) (tFor wi t tb) (qFor qi g qb) := ⟨ps_for hp hc hi.pe hg.pe hb.pe hs, ref_for hi.rf hg.rf hb.rf⟩

/-! ### while -/
def whileL (qc : DTT) (tb : DTS) (DW : DWt) (DE : DEnds) : Nat → Rho → Mst → Prop
  | 0, _, _ => False
  | n + 1, p, M => qc DW p M fun b M1 => if b = true then tb DW { DE with nx := whileL qc tb DW DE n, ct := whileL qc tb DW DE n, bk := DE.nx } p M1 else DE.nx p M1
def qWhile (qc : DTT) (tb : DTS) : DTS := fun DW DE p M => ∃ n, whileL qc tb DW DE n p M
theorem ref_while {K : PySem.W.Frag} {c : TT} {qc : DTT} (hc : RefT K W c qc) (hb : RefS K W tb qb) : RefS K W (tWhile c tb) (qWhile qc qb) :=
  fun DW G H p M s DE E hw S ⟨n, h⟩ k => by
    refine ⟨fun m σ H => ∃ G' p' M', Same G G' ∧ Sim K G' H p' M' σ ∧ whileL qc qb DW DE m p' M', ⟨n, G, p, M, Same.refl _, S, h⟩, ?_⟩
    rintro m σ H2 ⟨G', p', M', e2, S2, h2⟩
    cases m with
    | zero => exact h2.elim
    | succ m =>
      refine hc DW G' H2 p' M' σ _ _ (hw.mono e2) S2 h2 fun G3 H3 M3 b e3 S3 h3 => ?_
      cases b with
      | true =>
        rw [if_pos rfl] at h3 ⊢
        refine ⟨fun σ' H' => ∃ G4 p4 M4, Same G G4 ∧ Sim K G4 H' p4 M4 σ' ∧ whileL qc qb DW DE m p4 M4, fun σ' H' q => ⟨m, Nat.lt_succ_self _, q⟩, ?_⟩
        have e13 := e2.trans e3
        exact hb DW G3 H3 p' M3 σ _ _ (hw.mono e13) S3 h3 ⟨fun G5 H5 p5 M5 σ5 e5 S5 h5 => ⟨G5, p5, M5, e13.trans e5, S5, h5⟩, fun G5 H5 p5 M5 σ5 d v e5 S5 r5 h5 => k.rt G5 H5 p5 M5 σ5 d v (e13.trans e5) S5 r5 h5,
          fun G5 H5 p5 M5 σ5 e5 S5 h5 => k.nx G5 H5 p5 M5 σ5 (e13.trans e5) S5 h5, fun G5 H5 p5 M5 σ5 e5 S5 h5 => ⟨G5, p5, M5, e13.trans e5, S5, h5⟩⟩
      | false =>
        rw [if_neg Bool.false_ne_true] at h3 ⊢
        exact k.nx G3 H3 p' M3 σ (e2.trans e3) S3 h3
theorem qs_while {c : Expr} {tc : TT} {qc : DTT} (hp : PassesOwn (model X.prog X.w) X.A X.env X.xe) (hc : QT X W c tc qc) (hb : QSs X W body tb qb) : QS X W (.While c body [] pos) (tWhile tc tb) (qWhile qc qb) := ⟨ps_while hp hc.pe hb.pe, ref_while hc.rf hb.rf⟩
end

/-! ### comprehensions -/
abbrev W0 : WX := fun _ _ _ _ => False
abbrev DW0 : DWt := fun _ _ _ => False
structure QTs (X : Cx) (W : WX) (ifs : List Expr) (t : TT) (q : DTT) : Prop where
  pe : PTs X ifs t
  rf : RefT X.K W t q
@[simp] def qYes : DTT := fun _ _ M Q => Q true M
theorem qts_nil {X : Cx} {W : WX} : QTs X W [] tYes qYes := ⟨pts_nil, fun DW G H p M s Q Q' hw S h k => k G H M true (Same.refl _) S h⟩
theorem qts_one {X : Cx} {W : WX} {c : Expr} {t : TT} {q : DTT} (h : QT X W c t q) : QTs X W [c] t q := ⟨pts_one h.pe, h.rf⟩
/-- what is made stands at a -/
def compL (m : Bool) (Sty : Mst → Prop) (g : DTG) (tt : DTT) (te : DTE) (ix : List Nat) (a : Addr) (p : Rho) (Q : DK) : List D → Mst → Prop
  | [], M => Sty M ∧ match M a with
    | some (.lst acc) => if m = true then Q (.ref a) M else Q (.lst acc) (del M a)
    | _ => False
  | d :: ds, M => Sty M ∧ g d DW0 (wipeD p ix) M fun p2 M2 => tt DW0 p2 M2 fun b M3 => if b = true then te DW0 p2 M3 fun y M4 => match M4 a with
      | some (.lst acc) => acc.length < 100000 ∧ compL m Sty g tt te ix a p Q ds (put M4 a (.lst (acc ++ [y])))
      | _ => False
    else compL m Sty g tt te ix a p Q ds M3
def qLc (m : Bool) (qi : DTI) (g : DTG) (tt : DTT) (te : DTE) (ix : List Nat) : DTE := fun DW p M Q => qi DW p M fun ds Sty M1 => ∀ a, M1 a = none → compL m Sty g tt te ix a p Q ds (put M1 a (.lst []))
theorem ref_lc {K : PySem.W.Frag} {W : WX} {wi : TI} {qi : DTI} {t : TG} {g : DTG} {ix : List Nat} {tt : TT} {qt : DTT} {te : TE} {qe : DTE} {m : Bool} (hi : RefI K W wi qi) (hg : RefGi K W0 ix t g) (ht : RefT K W0 tt qt) (he : RefE K W0 te qe) :
    RefE K W (tLc wi t tt te ix) (qLc m qi g qt qe ix) :=
  fun DW G H p M s Q Q' hw S h k => hi DW G H p M s _ _ hw S h fun G1 H1 M1 J ds Sty e1 S1 F hlen h1 a ha => by
    have w0 : ∀ G, WLink K G DW0 W0 := fun G G' H' p' M' s' x cls dx e S r z => z.elim
    have h1' := h1 a (S1.mem.fresh ha)
    have S1' : Sim K G1 (upd H1 a (.lst [])) p (put M1 a (.lst [])) s := S1.put (mo := .lst []) (S1.same.free ha) ⟨[], upd_same, rfl, Nat.zero_le _⟩
    refine ⟨fun i n H => n = ds.length - i ∧ i ≤ ds.length ∧ ∃ G' M', Same G1 G' ∧ Sim K G' H p M' s ∧ compL m Sty g qt qe ix a p Q (ds.drop i) M', ⟨ds.length, by simp, Nat.zero_le _, G1, _, Same.refl _, S1', by simpa using h1'⟩, ?_⟩
    rintro i n H2 ⟨rfl, hi2, G', M', e2, S2, h2⟩
    by_cases hlt : i < ds.length
    · have ed : ds.drop i = ds[i] :: ds.drop (i + 1) := List.drop_eq_getElem_cons hlt
      rw [ed] at h2
      obtain ⟨st, h2⟩ := h2
      refine .inr ⟨F.go G' H2 p M' s i e2 S2 st hlt, fun H' => ∃ G3 M3, Same G1 G3 ∧ Sim K G3 H' p M3 s ∧ compL m Sty g qt qe ix a p Q (ds.drop (i + 1)) M3, fun H' q => ⟨ds.length - (i + 1), by omega, rfl, hlt, q⟩, fun x H' y => ?_⟩
      obtain ⟨G3, e3, S3, r3⟩ := F.yld G' H2 p M' s i x H' e2 S2 st y ds[i] (List.getElem?_eq_getElem hlt)
      have e13 := e2.trans e3
      refine hg DW0 G3 H' (wipeD p ix) M' (L2.wipe s ix) _ x _ _ (w0 _) (S3.wipe ix) r3 h2 fun G4 H4 p4 M4 s4 e4 S4 o4 h4 => ?_
      have back : ∀ {G H M}, Sim K G H p4 M s4 → Sim K G H p M s → True := fun _ _ => trivial
      have ww : L2.wipe s4 ix = L2.wipe s ix := by
        rw [o4.wipe]
        apply List.ext_getElem?
        intro j
        by_cases hj : j ∈ ix
        · by_cases hl : j < s.length
          · rw [wipe_in hj (by rw [wipe_length]; exact hl), wipe_in hj hl]
          · rw [List.getElem?_eq_none (by rw [wipe_length, wipe_length]; omega), List.getElem?_eq_none (by rw [wipe_length]; omega)]
        · rw [wipe_get hj]
      have e14 := e13.trans e4
      -- the slots of the frame itself are as they were
      have home : ∀ {G H M}, Same G1 G → Sim K G H p4 M s4 → Sim K G H p M s := fun {G H M} eg Sx =>
        ⟨Sx.same, fun j d hd => by
          obtain ⟨v, q1, q2⟩ := S1.env j d hd
          exact ⟨v, q1, Rep.mono eg _ _ q2⟩, S1.len, Sx.mem⟩
      refine ⟨ww, ht DW0 G4 H4 p4 M4 s4 _ _ (w0 _) S4 h4 fun G5 H5 M5 b e5 S5 h5 => ?_⟩
      have e15 := e14.trans e5
      cases b with
      | false =>
        rw [if_neg Bool.false_ne_true] at h5 ⊢
        exact ⟨G5, M5, e15, home e15 S5, h5⟩
      | true =>
        rw [if_pos rfl] at h5 ⊢
        refine he DW0 G5 H5 p4 M5 s4 _ _ (w0 _) S5 h5 fun G6 H6 M6 d v e6 S6 r6 h6 => ?_
        have e16 := e15.trans e6
        split at h6
        · next acc em =>
          obtain ⟨hl, h6⟩ := h6
          obtain ⟨gn, vs, c1, c2, c3⟩ := S6.mem _ _ em
          refine ⟨vs, c1, by rw [c2.length, sizeLine_eq]; omega, G6, _, e16, (home e16 S6).put (mo := .lst (acc ++ [d])) gn ⟨_, upd_same, RepL.append c2 (RepL.cons r6 rfl), ?_⟩, h6⟩
          rw [List.length_append, c2.length, sizeLine_eq]
          simp
          omega
        · exact h6.elim
    · have e : i = ds.length := by omega
      subst e
      rw [List.drop_length] at h2
      obtain ⟨st, h2⟩ := h2
      refine .inl ⟨F.stop G' H2 p M' s e2 S2 st, ?_⟩
      split at h2
      · next acc em =>
        cases m with
        | true =>
          rw [if_pos rfl] at h2
          exact k G' H2 M' (.ref a) _ (e1.trans e2) S2 rfl h2
        | false =>
          rw [if_neg Bool.false_ne_true] at h2
          obtain ⟨G3, e3, S3, r3⟩ := S2.freeze em
          exact k G3 H2 _ _ _ ((e1.trans e2).trans e3) S3 r3 h2
      · exact h2.elim
section
variable {X : Cx} {W : WX} {elt tg iter : Expr} {ifs : List Expr} {scope : Scope} {own : List (Str × Nat)} {pos : Pos} {wi : TI} {qi : DTI} {g : TG} {qg : DTG} {tt : TT} {qt : DTT} {te : TE} {qe : DTE}
theorem q_lc (m : Bool) (hc : X.calm = true) (hN : X.N.Nodup) (hi : QI X W tg iter wi qi) (ok : BlkOk X.N X.env.scope scope own)
    (hg : ∀ (s : Shared) (H : Hp) (C : Addr) (cl : List (Str × Addr)) (fp : List Addr), QGi (X.blk s H scope (compEnvC scope cl C X.env) fp) W0 (own.map (·.2)) tg g qg)
    (ht : ∀ (s : Shared) (H : Hp) (C : Addr) (cl : List (Str × Addr)) (fp : List Addr), QTs (X.blk s H scope (compEnvC scope cl C X.env) fp) W0 ifs tt qt)
    (he : ∀ (s : Shared) (H : Hp) (C : Addr) (cl : List (Str × Addr)) (fp : List Addr), QE (X.blk s H scope (compEnvC scope cl C X.env) fp) W0 elt te qe) (hs : ∀ x, foldedSetIterable iter X.env x = pure x := by intro _; rfl) :
    QE X W (.ListComp elt [⟨tg, iter, ifs, 0⟩] scope pos) (tLc wi g tt te (own.map (·.2))) (qLc m qi qg qt qe (own.map (·.2))) :=
  ⟨pe_lc hc hN hi.pe ok (fun s H C cl fp => (hg s H C cl fp).pe) (fun s H C cl fp => (ht s H C cl fp).pe) (fun s H C cl fp => (he s H C cl fp).pe) hs,
    ref_lc hi.rf (hg X.s_0 X.H_0 0 [] []).rf (ht X.s_0 X.H_0 0 [] []).rf (he X.s_0 X.H_0 0 [] []).rf⟩
theorem qs_setLc (m : Bool) {i : Nat} {y : Str} {py spos : Pos} (hc : X.calm = true) (hN : X.N.Nodup) (hy : X.N[i]? = some y) (hyl : X.env.scope.names.lookup y = some .local)
    (hsw : swapsWith (.ListComp elt [⟨tg, iter, ifs, 0⟩] scope pos) (some (.Name y py)) spos.line X.env = pure true) (hi : QI X W tg iter wi qi) (ok : BlkOk X.N X.env.scope scope own)
    (hg : ∀ (s : Shared) (H : Hp) (C : Addr) (cl : List (Str × Addr)) (fp : List Addr), QGi (X.blk s H scope (compEnvC scope cl C X.env) fp) W0 (own.map (·.2)) tg g qg)
    (ht : ∀ (s : Shared) (H : Hp) (C : Addr) (cl : List (Str × Addr)) (fp : List Addr), QTs (X.blk s H scope (compEnvC scope cl C X.env) fp) W0 ifs tt qt)
    (he : ∀ (s : Shared) (H : Hp) (C : Addr) (cl : List (Str × Addr)) (fp : List Addr), QE (X.blk s H scope (compEnvC scope cl C X.env) fp) W0 elt te qe) (hs : ∀ x, foldedSetIterable iter X.env x = pure x := by intro _; rfl) :
    QS X W (.Assign [.Name y py] (.ListComp elt [⟨tg, iter, ifs, 0⟩] scope pos) spos) (tAsg (tLc wi g tt te (own.map (·.2))) (gName i)) (qAsg (qLc m qi qg qt qe (own.map (·.2))) (gNameD i)) :=
  qs_set (ps_setLc hc hN hy hyl hsw hi.pe ok (fun s H C cl fp => (hg s H C cl fp).pe) (fun s H C cl fp => (ht s H C cl fp).pe) (fun s H C cl fp => (he s H C cl fp).pe) hs)
    (ref_lc hi.rf (hg X.s_0 X.H_0 0 [] []).rf (ht X.s_0 X.H_0 0 [] []).rf (he X.s_0 X.H_0 0 [] []).rf)
end
end DL

/-! DLg: defs and their calls; methods of lists and dicts. -/
namespace DL
open PySem L2

/-! ### a def's promise by data -/
def toSp (K : PySem.W.Frag) (P : DSp) : Sp := fun vs H Q E => ∃ (G : Hp) (ds : List D) (M : Mst) (Qd : DK) (Ed : DX → Mst → Prop), Same G H ∧ RepL K G ds vs ∧ MemOk K G H M ∧ P ds M Qd Ed ∧
  (∀ G' H' v d M', Same G G' → Same G' H' → Rep K G' d v → MemOk K G' H' M' → Qd d M' → Q v H') ∧
  (∀ G' H' x cls dx M', Same G G' → Same G' H' → RepX K G' x cls dx → MemOk K G' H' M' → Ed x M' → E cls dx H')
def startD (N : List Str) (ds : List D) : Rho := ds.map some ++ List.replicate (N.length - ds.length) none
section
variable {P : Program} {w : World} {K : PySem.W.Frag} {mg : Str → Option Value} {base : Heap}
theorem start_sim {G H : Hp} {ds : List D} {vs : List V} {M : Mst} {N : List Str} (e : Same G H) (r : RepL K G ds vs) (hm : MemOk K G H M) : Sim K G H (startD N ds) M (L2.start N vs) := by
  have hl := r.length
  refine ⟨e, fun i d h => ?_, by simp [startD, L2.start, hl], hm⟩
  unfold startD at h
  unfold L2.start
  by_cases hi : i < ds.length
  · rw [List.getElem?_append_left (by simpa using hi)] at h
    rw [List.getElem?_append_left (by simp [hl, hi])]
    simp only [List.getElem?_map, Option.map_eq_some_iff, Option.some.injEq] at h
    obtain ⟨d', h1, rfl⟩ := h
    obtain ⟨v, h2, h3⟩ := r.get h1
    exact ⟨v, by simp [h2], h3⟩
  · rw [List.getElem?_append_right (by simpa using hi)] at h
    rw [List.getElem?_replicate] at h
    split at h <;> cases h
/-- THE RULE for a def: its body's reading by data -/
theorem fn_ok {x qual : Str} {st : Stmt} {f : Addr} {fd : FuncData} {N ps : List Str} {k : Nat} {p : DSp} (F : Fun K x qual st f fd) (S : FnScope N ps (defScope st)) (len : ∀ ds M Q E, p ds M Q E → ds.length = ps.length)
    (hbody : ∀ (cdv : Value) (A : Around) (outer : List Env) (s : Shared) (H : Hp) (E : XK), Room k (A.deeper (PyProof.Rows.envOfC qual (defScope st) s.heap.objs.size f cdv)) →
      Takes (cxOf (L2.CX P w) P w K mg base N qual (defScope st) f cdv A outer s H E) (fun cls d _ H => E cls d H) →
      PassesOwn (model P w) (cxOf (L2.CX P w) P w K mg base N qual (defScope st) f cdv A outer s H E).A (cxOf (L2.CX P w) P w K mg base N qual (defScope st) f cdv A outer s H E).env (cxOf (L2.CX P w) P w K mg base N qual (defScope st) f cdv A outer s H E).xe →
      ∃ t q, QSs (cxOf (L2.CX P w) P w K mg base N qual (defScope st) f cdv A outer s H E) (fun cls d _ H => E cls d H) (defBody st) t q ∧
        ∀ ds M Q Ed, p ds M Q Ed → q (fun x _ M => Ed x M) { nx := fun _ M => Q .non M, rt := Q } (startD N ds) M) : FnOk P w K mg base (L2.CX P w) (k + 1) f fd ps (toSp K p) := by
  refine F.okX S (fun vs H Q E h => ?_) (fun cdv A outer s H vs Q E hr h => ?_)
  · obtain ⟨G, ds, M, Qd, Ed, _, r, _, hp, _⟩ := h
    rw [r.length]; exact len _ _ _ _ hp
  · obtain ⟨G, ds, M, Qd, Ed, e, r, hm, hp, kq, ke⟩ := h
    obtain ⟨t, q, hq, hs⟩ := hbody cdv A outer s H E hr (takes_of rfl rfl rfl rfl) (passes_of rfl)
    refine ⟨t, hq.pe, hq.rf (fun x _ M => Ed x M) G H (startD N ds) M (L2.start N vs) _ _ (fun G' H' p' M' s' x cls dx e1 S1 r1 h1 => ke G' H' x cls dx M' e1 S1.same r1 S1.mem h1) (start_sim e r hm) (hs ds M Qd Ed hp)
      ⟨fun G' H' p' M' s' e1 S1 h1 => kq G' H' .non .non M' e1 S1.same rfl S1.mem h1, fun G' H' p' M' s' d v e1 S1 r1 h1 => kq G' H' v d M' e1 S1.same r1 S1.mem h1, fun _ _ _ _ _ _ _ h => h.elim, fun _ _ _ _ _ _ _ h => h.elim⟩⟩
end

/-! ### calls -/
@[simp] def qCall (P : DSp) (dds : List D) (qa : DTA) : DTE := fun DW p M Q => qa DW p M fun ds M1 => P (ds ++ dds) M1 Q fun x M2 => DW x p M2
section
variable {X : Cx} {W : WX} {k : Nat} {f : Addr} {fd : FuncData} {ps : List Str} {P : DSp} {dds : List D} {dvs : List V} {ds : List Value} {x : Str} {p pos : Pos} {e : Expr} {es : List Expr} {t : TA} {q : DTA}
/-- what a callee's promise gives at a call -/
theorem toSp_at {K : PySem.W.Frag} {DW : DWt} {G H : Hp} {p : Rho} {M : Mst} {s : L2.St} {ds : List D} {vs : List V} {Q : DK} {Q' : VK} (hw : WLink K G DW W) (S : Sim K G H p M s) (r : RepL K G ds vs) (h : P ds M Q fun x M2 => DW x p M2)
    (k : ∀ G' H' M' d v, Same G G' → Sim K G' H' p M' s → Rep K G' d v → Q d M' → Q' v H') : toSp K P vs H Q' (WE W s) := by
  have up : ∀ {G' H' M'}, Same G G' → Same G' H' → MemOk K G' H' M' → Sim K G' H' p M' s := fun {G' H' M'} e1 e2 hm => ⟨e2, fun i d hd => by
    obtain ⟨v, h1, h2⟩ := S.env i d hd
    exact ⟨v, h1, Rep.mono e1 _ _ h2⟩, S.len, hm⟩
  exact ⟨G, ds, M, Q, _, S.same, r, S.mem, h, fun G' H' v d M' e1 e2 r1 hm q => k G' H' M' d v e1 (up e1 e2 hm) r1 q, fun G' H' x cls dx M' e1 e2 r1 hm q => hw G' H' p M' s x cls dx e1 (up e1 e2 hm) r1 q⟩
theorem ref_call {K : PySem.W.Frag} (ha : RefA K W t q) (hd : ∀ G, RepL K G dds dvs) : RefE K W (tCallSD (toSp K P) dvs (fun s => WE W s) t) (qCall P dds q) :=
  fun DW G H p M s Q Q' hw S h k => ha DW G H p M s _ _ hw S h fun G1 H1 M1 as vs e1 S1 r1 h1 => toSp_at (hw.mono e1) S1 (RepL.append r1 (hd _)) h1 fun G' H' M' d v e2 => k G' H' M' d v (e1.trans e2)
/-- f(e, ..), a def of the module -/
theorem q_call (F : FnOk X.prog X.w X.K X.mg X.base (L2.CX X.prog X.w) k f fd ps (toSp X.K P)) (hr : Room k X.A) (tk : Takes X W) (hg : Gl X x) (hm : X.mg x = some (.ref f)) (hk : PySem.W.keepIn X.K (.ref f) = true) (hb : Binds X.K fd ps ds) (hd : Vals dvs ds) (hdd : ∀ G, RepL X.K G dds dvs)
    (ha : QA X W (e :: es) t q) (hdb : (x == ("__debug__" : Str)) = false := by decide) (he : starEach (e :: es) X.env = (false, eval e X.env) :: starEach es X.env := by rfl) (hpl : (backTo pos (starEach es X.env)).any (·.1) = false := by rfl) :
    QE X W (.Call (.Name x p) (e :: es) [] pos) (tCallSD (toSp X.K P) dvs (fun s => WE W s) t) (qCall P dds q) :=
  ⟨pe_callSD F hr hg hm hk hb hd (fun σ => passAt tk σ) ha.pe hdb he hpl, ref_call ha.rf hdd⟩
end

/-! ### methods of built-in types -/
def tyOk (T : String) : D → Bool
  | .lst _ => T == "list"
  | .str _ => T == "str"
  | _ => false
theorem tyV_of {K : PySem.W.Frag} {G H : Hp} {p : Rho} {M : Mst} {s : L2.St} {T : String} {x : D} {v : V} (S : Sim K G H p M s) (r : Rep K G x v) (h : tyOk T (res M x) = true) : tyV K T v H := by
  cases e : res M x with
  | lst ds =>
    rw [e] at h
    obtain ⟨a, vs, rfl, g1, g2, g3⟩ := as_lst S r e
    exact .inl ⟨by simpa [tyOk] using h, vs, .inl (.inl g1)⟩
  | str z =>
    rw [e] at h
    obtain ⟨rfl, _⟩ := as_str r e
    show T = "str"
    simpa [tyOk] using h
  | _ => rw [e] at h; cases h
abbrev DMt := D → List D → Mst → DK → Prop
def RefM (K : PySem.W.Frag) (r : V → List V → Hp → VK → Prop) (q : DMt) : Prop := ∀ G H p M s x v ds vs (Q : DK) (Q' : VK), Sim K G H p M s → Rep K G x v → RepL K G ds vs → q x ds M Q →
  (∀ G' H' M' d w, Same G G' → Sim K G' H' p M' s → Rep K G' d w → Q d M' → Q' w H') → r v vs H Q'
structure QMt (X : Cx) (id : String) (r : V → List V → Hp → VK → Prop) (q : DMt) : Prop where
  op : MtR X id r
  rf : RefM X.K r q
def qBM (T : String) (m : DMt) (qo : DTE) (qa : DTA) : DTE := fun DW p M Q => qo DW p M fun x M1 => tyOk T (res M1 x) = true ∧ qa DW p M1 fun ds M2 => m x ds M2 Q
def qBM0 (T : String) (m : DMt) (qo : DTE) : DTE := fun DW p M Q => qo DW p M fun x M1 => tyOk T (res M1 x) = true ∧ m x [] M1 Q
section
variable {X : Cx} {W : WX} {o e : Expr} {es : List Expr} {to : TE} {qo : DTE} {t : TA} {qa : DTA} {name : Str} {apos cpos : Pos} {T id : String} {r : V → List V → Hp → VK → Prop} {m : DMt}
theorem q_bm0 (pa : PlainAttrs T) (slot : Slot T name id) (hty : typeOf (.builtin id) = pure (.type "method_descriptor")) (hm : QMt X id r m) (ho : QE X W o to qo)
    (hbase : attributeBase o name X.env (eval o X.env) = eval o X.env := by rfl) (hline : (apos.endLine == cpos.line) = true := by rfl) : QE X W (.Call (.Attribute o name apos) [] [] cpos) (tBM0 X.K T r to) (qBM0 T m qo) :=
  ⟨pe_bm0 pa slot hty hm.op ho.pe hbase hline, fun DW G H p M s Q Q' hw S h k => ho.rf DW G H p M s _ _ hw S h fun G1 H1 M1 x v e1 S1 r1 ⟨ty, h1⟩ => ⟨tyV_of S1 r1 ty, hm.rf G1 H1 p M1 s x v [] [] Q Q' S1 r1 rfl h1 fun G' H' M' d w e2 => k G' H' M' d w (e1.trans e2)⟩⟩
theorem q_bm (pa : PlainAttrs T) (slot : Slot T name id) (hty : typeOf (.builtin id) = pure (.type "method_descriptor")) (hm : QMt X id r m) (ho : QE X W o to qo) (ha : QA X W (e :: es) t qa)
    (hbase : attributeBase o name X.env (eval o X.env) = eval o X.env := by rfl)
    (hfew : ((backTo cpos (starEach (e :: es) X.env)).all (fun x => !x.1) && (backToKw cpos (keywordEach [] X.env)).all (fun x => x.1.isSome)
      && decide ((e :: es).length + ([] : List Keyword).length + (if ([] : List Keyword).isEmpty then 0 else 1) < 30)) = true := by rfl)
    (hline : (apos.endLine == cpos.line) = true := by rfl) (hs : starEach (e :: es) X.env = (false, eval e X.env) :: starEach es X.env := by rfl) (hplain : (backTo cpos (starEach es X.env)).any (·.1) = false := by rfl) :
    QE X W (.Call (.Attribute o name apos) (e :: es) [] cpos) (tBM X.K T r to t) (qBM T m qo qa) :=
  ⟨pe_bm pa slot hty hm.op ho.pe ha.pe hbase hfew hline hs hplain, fun DW G H p M s Q Q' hw S h k => ho.rf DW G H p M s _ _ hw S h fun G1 H1 M1 x v e1 S1 r1 ⟨ty, h1⟩ => ⟨tyV_of S1 r1 ty,
    ha.rf DW G1 H1 p M1 s _ _ (hw.mono e1) S1 h1 fun G2 H2 M2 ds vs e2 S2 r2 h2 => hm.rf G2 H2 p M2 s x v ds vs Q Q' S2 (Rep.mono e2 _ _ r1) r2 h2 fun G' H' M' d w e3 => k G' H' M' d w ((e1.trans e2).trans e3)⟩⟩
end
def mApp : DMt := fun x ds M Q => match x, ds with
  | .ref a, [d] => match M a with
    | some (.lst es) => es.length < 100000 ∧ Q .non (put M a (.lst (es ++ [d])))
    | _ => False
  | _, _ => False
def mExt : DMt := fun x ds M Q => match x, ds with
  | .ref a, [d] => match M a, res M d with
    | some (.lst es), .lst fs => es.length + fs.length ≤ 100000 ∧ Q .non (put M a (.lst (es ++ fs)))
    | _, _ => False
  | _, _ => False
def mPop : DMt := fun x ds M Q => match x, ds with
  | .ref a, [] => match M a with
    | some (.lst es) => match es[es.length - 1]? with
      | some d => Q d (put M a (.lst es.dropLast))
      | none => False
    | _ => False
  | _, _ => False
def mRev : DMt := fun x ds M Q => match x, ds with
  | .ref a, [] => match M a with
    | some (.lst es) => Q .non (put M a (.lst es.reverse))
    | _ => False
  | _, _ => False
def mClear : DMt := fun x ds M Q => match x, ds with
  | .ref a, [] => match M a with
    | some (.lst es) => Q .non (put M a (.lst []))
    | _ => False
  | _, _ => False
theorem RepL.dropLast {K : PySem.W.Frag} {G : Hp} {ds : List D} {vs : List V} (h : RepL K G ds vs) : RepL K G ds.dropLast vs.dropLast := by
  rw [List.dropLast_eq_take, List.dropLast_eq_take, h.length]
  exact RepL.take _ h
section
variable {X : Cx}
theorem m_append : QMt X "list.append" rAppend mApp := ⟨mt_append, fun G H p M s x v ds vs Q Q' S r1 r2 h k => by
  unfold mApp at h
  split at h
  · next a d =>
    cases r1
    obtain ⟨u, rfl, r3⟩ := repL1 r2
    split at h
    · next es em =>
      obtain ⟨hl, h⟩ := h
      obtain ⟨gn, us, g1, g2, g3⟩ := S.mem _ _ em
      have e1 := g2.length
      have z := sizeLine_eq
      refine ⟨a, us, u, rfl, rfl, g1, by omega, k G _ _ .non _ (Same.refl _) (S.put (mo := .lst (es ++ [d])) gn ⟨_, upd_same, RepL.append g2 (RepL.cons r3 rfl), ?_⟩) rfl h⟩
      rw [List.length_append]; simp; omega
    · exact h.elim
  · exact h.elim⟩
theorem m_extend : QMt X "list.extend" rExtend mExt := ⟨mt_extend, fun G H p M s x v ds vs Q Q' S r1 r2 h k => by
  unfold mExt at h
  split at h
  · next a d =>
    cases r1
    obtain ⟨u, rfl, r3⟩ := repL1 r2
    split at h
    · next es fs em ef =>
      obtain ⟨hl, h⟩ := h
      obtain ⟨gn, us, g1, g2, g3⟩ := S.mem _ _ em
      obtain ⟨b, ws, rfl, c1, c2, c3⟩ := as_lst S r3 ef
      have e1 := g2.length
      have e2 := c2.length
      have z := sizeLine_eq
      refine ⟨a, b, us, ws, rfl, rfl, g1, c1, by omega, k G _ _ .non _ (Same.refl _) (S.put (mo := .lst (es ++ fs)) gn ⟨_, upd_same, RepL.append g2 c2, ?_⟩) rfl h⟩
      rw [List.length_append]; omega
    · exact h.elim
  · exact h.elim⟩
theorem m_pop : QMt X "list.pop" rPop mPop := ⟨mt_pop, fun G H p M s x v ds vs Q Q' S r1 r2 h k => by
  unfold mPop at h
  split at h
  · next a =>
    cases r1
    cases r2
    split at h
    · next es em =>
      obtain ⟨gn, us, g1, g2, g3⟩ := S.mem _ _ em
      split at h
      · next d ed =>
        obtain ⟨w, h1, h2⟩ := g2.get ed
        have e1 := g2.length
        refine ⟨a, us, w, rfl, rfl, g1, by rw [e1]; exact h1, k G _ _ d _ (Same.refl _) (S.put (mo := .lst es.dropLast) gn ⟨_, upd_same, g2.dropLast, ?_⟩) h2 h⟩
        rw [List.length_dropLast]; omega
      · exact h.elim
    · exact h.elim
  · exact h.elim⟩
theorem m_reverse : QMt X "list.reverse" rReverse mRev := ⟨mt_reverse, fun G H p M s x v ds vs Q Q' S r1 r2 h k => by
  unfold mRev at h
  split at h
  · next a =>
    cases r1
    cases r2
    split at h
    · next es em =>
      obtain ⟨gn, us, g1, g2, g3⟩ := S.mem _ _ em
      exact ⟨a, us, rfl, rfl, g1, k G _ _ .non _ (Same.refl _) (S.put (mo := .lst es.reverse) gn ⟨_, upd_same, g2.reverse, by rw [List.length_reverse]; exact g3⟩) rfl h⟩
    · exact h.elim
  · exact h.elim⟩
theorem m_clear : QMt X "list.clear" rClear mClear := ⟨mt_clear, fun G H p M s x v ds vs Q Q' S r1 r2 h k => by
  unfold mClear at h
  split at h
  · next a =>
    cases r1
    cases r2
    split at h
    · next es em =>
      obtain ⟨gn, us, g1, g2, g3⟩ := S.mem _ _ em
      exact ⟨a, us, rfl, rfl, g1, k G _ _ .non _ (Same.refl _) (S.put (mo := .lst []) gn ⟨_, upd_same, rfl, Nat.zero_le _⟩) rfl h⟩
    · exact h.elim
  · exact h.elim⟩
end
/-- xs.count(y) of flat things -/
def rCntV (K : PySem.W.Frag) : V → List V → Hp → VK → Prop := fun x vs H Q => ∃ p xs y, x = .ref p ∧ vs = [y] ∧ SqL K H p xs ∧ flatV y = true ∧ xs.all flatV = true ∧ Q (.int (xs.countP fun z => eqV z y)) H
theorem count_eqU {x : V} : ∀ {xs : List V} {us : List Value}, Vals xs us → xs.all flatV = true → us.countP (eqU x) = xs.countP fun y => eqV y x
  | _, _, .nil, _ => rfl
  | y :: xs, u :: us, .cons r t, f => by
    rw [List.all_cons, Bool.and_eq_true] at f
    rw [List.countP_cons, List.countP_cons, eqU_of r f.1, count_eqU t f.2]
theorem mt_countV {X : Cx} : MtR X "list.count" (rCntV X.K) := by
  intro pins s σ H x xs v us Q I rx rxs h
  obtain ⟨p, ys, y, rfl, rfl, hs, fy, fys, q⟩ := h
  cases rx
  obtain ⟨u, rfl, ru⟩ := rxs.one
  obtain ⟨its, rv, ⟨⟨cls, dd, data, sl⟩, n, ho, hc, hdn, hd⟩, hlen⟩ := I.list hs
  simp only at hc hd
  subst hc hd
  refine call_meets PySem.F.slot_list_count ⟨_, ho, rfl⟩ PySem.F.entry_list_count (PySem.F.args_list_count_2 _ _)
    (SeqAt.list_countAt p its.toArray n dd sl u (eqU y)) ⟨ho, fun z hz => mem_eqAt ru fy rv fys z (by simpa using hz), ?_⟩
  have ec : its.toArray.toList.countP (eqU y) = ys.countP fun z => eqV z y := by rw [← count_eqU rv fys]
  refine ⟨.int (ys.countP fun z => eqV z y : Nat), H, I.tok _, ⟨s.toks, ?_⟩, q⟩
  rw [ec]
def mCount : DMt := fun x ds M Q => match ds with
  | [d] => match res M x with
    | .lst es => flatD d = true ∧ es.all flatD = true ∧ Q (.int (es.countP fun e => deq e d)) M
    | _ => False
  | _ => False
theorem countV_of {K : PySem.W.Frag} {G : Hp} {d : D} {v : V} (r : Rep K G d v) (h : flatD d = true) : ∀ {ds : List D} {vs : List V}, RepL K G ds vs → ds.all flatD = true → vs.all flatV = true ∧ (vs.countP fun z => eqV z v) = ds.countP fun e => deq e d
  | [], _, q, _ => by cases q; exact ⟨rfl, rfl⟩
  | e :: ds, _, ⟨w, vs, e1, h2, h3⟩, f => by
    subst e1
    have f' : flatD e = true ∧ ds.all flatD = true := by simpa using f
    obtain ⟨i1, i2⟩ := countV_of r h h3 f'.2
    obtain ⟨fv, _⟩ := flatD_of h2 f'.1
    have e2 := (flatD_of r h).2 e w h2 f'.1
    refine ⟨by simp [fv, i1], ?_⟩
    rw [List.countP_cons, List.countP_cons, i2, e2]
theorem m_count {X : Cx} : QMt X "list.count" (rCntV X.K) mCount := ⟨mt_countV, fun G H p M s x v ds vs Q Q' S r1 r2 h k => by
  unfold mCount at h
  split at h
  · next d =>
    obtain ⟨u, rfl, r3⟩ := repL1 r2
    split at h
    · next es e1 =>
      obtain ⟨f1, f2, h⟩ := h
      obtain ⟨a, us, rfl, g1, g2, g3⟩ := as_lst S r1 e1
      obtain ⟨i1, i2⟩ := countV_of r3 f1 g2 f2
      refine ⟨a, us, u, rfl, rfl, .inl (.inl g1), (flatD_of r3 f1).1, i1, k G H M (.int _) _ (Same.refl _) S rfl ?_⟩
      rw [i2]; exact h
    · exact h.elim
  · exact h.elim⟩

/-! ### dicts -/
def qDNew : DTE := fun _ _ M Q => ∀ a, M a = none → Q (.ref a) (put M a (.dK []))
def qDNewT : DTE := fun _ _ M Q => ∀ a, M a = none → Q (.ref a) (put M a (.dT []))
section
variable {X : Cx} {W : WX} {pos : Pos}
theorem q_dnew : QE X W (.Dict [] [] pos) tDNewK qDNew := ⟨pe_dnewK, fun DW G H p M s Q Q' hw S h k a ha =>
  k G _ _ (.ref a) _ (Same.refl _) (S.put (mo := .dK []) (S.same.free ha) ⟨[], upd_same, rfl, rfl, Nat.zero_le _, fun q hq => by cases hq⟩) rfl (h a (S.mem.fresh ha))⟩
theorem q_dnewT : QE X W (.Dict [] [] pos) tDNewT qDNewT := ⟨pe_dnewT, fun DW G H p M s Q Q' hw S h k a ha =>
  k G _ _ (.ref a) _ (Same.refl _) (S.put (mo := .dT []) (S.same.free ha) ⟨[], upd_same, rfl, rfl, Nat.zero_le _, fun q hq => by cases hq⟩) rfl (h a (S.mem.fresh ha))⟩
end
/-- d.get(k, x) -/
def isDict (M : Mst) : D → Bool
  | .dct _ _ => true
  | .ref a => match M a with
    | some (.dK _) => true
    | some (.dT _) => true
    | some (.lk _ _) => true
    | some (.lkT _ _) => true
    | _ => false
  | _ => false
def qDGet2 (qd qk qx : DTE) : DTE := fun DW p M Q => qd DW p M fun x M1 => isDict M1 x = true ∧ qk DW p M1 fun y M2 => qx DW p M2 fun z M3 => match dgetD M3 x y with
  | some o => Q (o.getD z) M3
  | none => False
def qDGet1 (qd qk : DTE) : DTE := fun DW p M Q => qd DW p M fun x M1 => isDict M1 x = true ∧ qk DW p M1 fun y M2 => match dgetD M2 x y with
  | some o => Q (o.getD .non) M2
  | none => False
theorem isD_of {K : PySem.W.Frag} {G H : Hp} {p : Rho} {M : Mst} {s : L2.St} {x : D} {v : V} (S : Sim K G H p M s) (r : Rep K G x v) (h : isDict M x = true) : ∃ a, v = .ref a ∧ IsD H a := by
  unfold isDict at h
  split at h
  · obtain ⟨a, kvs, rfl, h1, _⟩ := r
    exact ⟨a, rfl, .inl ⟨kvs, same_rd S.same h1⟩⟩
  · next a =>
    cases r
    refine ⟨a, rfl, ?_⟩
    split at h
    · next kvs em => obtain ⟨_, kv, h1, _⟩ := S.mem _ _ em; exact .inl ⟨kv, .inl h1⟩
    · next kvs em => obtain ⟨_, kv, h1, _⟩ := S.mem _ _ em; exact .inr ⟨kv, .inl h1⟩
    · next ho kvs em => obtain ⟨_, o, kv, h0, h1, _⟩ := S.mem _ _ em; exact .inl ⟨kv, .inr ⟨o, by rw [← h0]; exact h1⟩⟩
    · next ho kvs em => obtain ⟨_, o, kv, h0, h1, _⟩ := S.mem _ _ em; exact .inr ⟨kv, .inr ⟨o, by rw [← h0]; exact h1⟩⟩
    · cases h
  · cases h
section
variable {X : Cx} {W : WX} {o e f : Expr} {apos cpos : Pos} {td ty tx : TE} {qd qk qx : DTE}
theorem q_dget2 (hu : X.A.units + 1 < cLine) (ho : QE X W o td qd) (he : QE X W e ty qk) (hf : QE X W f tx qx) (m : M2 X o "get" apos e f cpos) : QE X W (.Call (.Attribute o "get" apos) [e, f] [] cpos) (tDGet2 td ty tx) (qDGet2 qd qk qx) :=
  ⟨pe_dget2 hu ho.pe he.pe hf.pe m, fun DW G H p M s Q Q' hw S h k => ho.rf DW G H p M s _ _ hw S h fun G1 H1 M1 x v e1 S1 r1 ⟨hd, h1⟩ => by
    obtain ⟨a, rfl, hD⟩ := isD_of S1 r1 hd
    refine ⟨a, rfl, hD, he.rf DW G1 H1 p M1 s _ _ (hw.mono e1) S1 h1 fun G2 H2 M2 y u e2 S2 r2 h2 => hf.rf DW G2 H2 p M2 s _ _ (hw.mono (e1.trans e2)) S2 h2 fun G3 H3 M3 z w e3 S3 r3 h3 => ?_⟩
    split at h3
    · next oo eo =>
      obtain ⟨a', ov, ea, g, q⟩ := dgetD_of S3 (Rep.mono (e2.trans e3) _ _ r1) (Rep.mono e3 _ _ r2) eo
      cases ea
      refine ⟨ov, g, ?_⟩
      rcases q with ⟨rfl, rfl⟩ | ⟨d', w', rfl, rfl, r'⟩
      · exact k G3 H3 M3 z _ ((e1.trans e2).trans e3) S3 r3 h3
      · exact k G3 H3 M3 d' _ ((e1.trans e2).trans e3) S3 r' h3
    · exact h3.elim⟩
theorem q_dget1 (hu : X.A.units + 1 < cLine) (ho : QE X W o td qd) (he : QE X W e ty qk) (m : M1 X o "get" apos e cpos) : QE X W (.Call (.Attribute o "get" apos) [e] [] cpos) (tDGet1 td ty) (qDGet1 qd qk) :=
  ⟨pe_dget1 hu ho.pe he.pe m, fun DW G H p M s Q Q' hw S h k => ho.rf DW G H p M s _ _ hw S h fun G1 H1 M1 x v e1 S1 r1 ⟨hd, h1⟩ => by
    obtain ⟨a, rfl, hD⟩ := isD_of S1 r1 hd
    refine ⟨a, rfl, hD, he.rf DW G1 H1 p M1 s _ _ (hw.mono e1) S1 h1 fun G2 H2 M2 y u e2 S2 r2 h2 => ?_⟩
    split at h2
    · next oo eo =>
      obtain ⟨a', ov, ea, g, q⟩ := dgetD_of S2 (Rep.mono e2 _ _ r1) r2 eo
      cases ea
      refine ⟨ov, g, ?_⟩
      rcases q with ⟨rfl, rfl⟩ | ⟨d', w', rfl, rfl, r'⟩
      · exact k G2 H2 M2 .non _ (e1.trans e2) S2 rfl h2
      · exact k G2 H2 M2 d' _ (e1.trans e2) S2 r' h2
    · exact h2.elim⟩
end

/-! ### a dict walked: it is locked meanwhile -/
/-- the mutable dict at a is read only, then as before -/
def qLock (sel : Rho → Mst → Option Addr) (q : DTS) : DTS := fun DW DE p M => match sel p M with
  | some a => match M a with
    | some (.dK kvs) => ∀ ho, q DW ⟨fun p' M' => M' a = some (.lk ho kvs) ∧ DE.nx p' (put M' a (.dK kvs)), fun d M' => M' a = some (.lk ho kvs) ∧ DE.rt d (put M' a (.dK kvs)), fun p' M' => M' a = some (.lk ho kvs) ∧ DE.bk p' (put M' a (.dK kvs)), fun p' M' => M' a = some (.lk ho kvs) ∧ DE.ct p' (put M' a (.dK kvs))⟩ p (put M a (.lk ho kvs))
    | some (.dT kvs) => ∀ ho, q DW ⟨fun p' M' => M' a = some (.lkT ho kvs) ∧ DE.nx p' (put M' a (.dT kvs)), fun d M' => M' a = some (.lkT ho kvs) ∧ DE.rt d (put M' a (.dT kvs)), fun p' M' => M' a = some (.lkT ho kvs) ∧ DE.bk p' (put M' a (.dT kvs)), fun p' M' => M' a = some (.lkT ho kvs) ∧ DE.ct p' (put M' a (.dT kvs))⟩ p (put M a (.lkT ho kvs))
    | _ => False
  | none => False
def qLockE (sel : Rho → Mst → Option Addr) (q : DTE) : DTE := fun DW p M Q => match sel p M with
  | some a => match M a with
    | some (.dK kvs) => ∀ ho, q DW p (put M a (.lk ho kvs)) fun d M' => M' a = some (.lk ho kvs) ∧ Q d (put M' a (.dK kvs))
    | some (.dT kvs) => ∀ ho, q DW p (put M a (.lkT ho kvs)) fun d M' => M' a = some (.lkT ho kvs) ∧ Q d (put M' a (.dT kvs))
    | _ => False
  | none => False
section
variable {X : Cx} {W : WX} {sel : Rho → Mst → Option Addr}
theorem qs_lock {st : Stmt} {t : TS} {q : DTS} (h : QS X W st t q) : QS X W st (tLock t) (qLock sel q) := ⟨ps_lock h.pe, fun DW G H p M s DE E hw S hq k => by
  unfold qLock at hq
  split at hq
  · next a _ =>
    split at hq
    · next kvs em =>
      obtain ⟨gn, kv, g1, g2, g3, g4, g5⟩ := S.mem _ _ em
      refine ⟨a, _, g1, trivial, fun od => ?_⟩
      have S1 : Sim X.K G (upd H a (.frz od (.dK kv))) p (put M a (.lk (.frz od (.dK kv)) kvs)) s := S.put (mo := .lk (.frz od (.dK kv)) kvs) gn ⟨od, kv, rfl, upd_same, g2, g3, g4, g5⟩
      have back : ∀ {G' H' p' M' s'}, Same G G' → Sim X.K G' H' p' M' s' → M' a = some (.lk (.frz od (.dK kv)) kvs) → H' a = some (.frz od (.dK kv)) ∧ Sim X.K G' (upd H' a (.dK kv)) p' (put M' a (.dK kvs)) s' := fun {G' H' p' M' s'} e S' em' => by
        obtain ⟨gn', o', kv', h0, h1, _⟩ := S'.mem _ _ em'
        exact ⟨h1, S'.put (mo := .dK kvs) gn' ⟨kv, upd_same, g2, RepL.mono e _ _ g3, g4, g5⟩⟩
      refine h.rf DW G _ p _ s _ _ hw S1 (hq (.frz od (.dK kv))) ⟨fun G' H' p' M' s' e S' ⟨h1, h2⟩ => ?_, fun G' H' p' M' s' d v e S' r ⟨h1, h2⟩ => ?_, fun G' H' p' M' s' e S' ⟨h1, h2⟩ => ?_, fun G' H' p' M' s' e S' ⟨h1, h2⟩ => ?_⟩
      · obtain ⟨b1, b2⟩ := back e S' h1; exact ⟨b1, k.nx _ _ _ _ _ e b2 h2⟩
      · obtain ⟨b1, b2⟩ := back e S' h1; exact ⟨b1, k.rt _ _ _ _ _ _ _ e b2 r h2⟩
      · obtain ⟨b1, b2⟩ := back e S' h1; exact ⟨b1, k.bk _ _ _ _ _ e b2 h2⟩
      · obtain ⟨b1, b2⟩ := back e S' h1; exact ⟨b1, k.ct _ _ _ _ _ e b2 h2⟩
    · next kvs em =>
      obtain ⟨gn, kv, g1, g2, g3, g4, g5⟩ := S.mem _ _ em
      refine ⟨a, _, g1, trivial, fun od => ?_⟩
      have S1 : Sim X.K G (upd H a (.frz od (.dT kv))) p (put M a (.lkT (.frz od (.dT kv)) kvs)) s := S.put (mo := .lkT (.frz od (.dT kv)) kvs) gn ⟨od, kv, rfl, upd_same, g2, g3, g4, g5⟩
      have back : ∀ {G' H' p' M' s'}, Same G G' → Sim X.K G' H' p' M' s' → M' a = some (.lkT (.frz od (.dT kv)) kvs) → H' a = some (.frz od (.dT kv)) ∧ Sim X.K G' (upd H' a (.dT kv)) p' (put M' a (.dT kvs)) s' := fun {G' H' p' M' s'} e S' em' => by
        obtain ⟨gn', o', kv', h0, h1, _⟩ := S'.mem _ _ em'
        exact ⟨h1, S'.put (mo := .dT kvs) gn' ⟨kv, upd_same, g2, RepL.mono e _ _ g3, g4, g5⟩⟩
      refine h.rf DW G _ p _ s _ _ hw S1 (hq (.frz od (.dT kv))) ⟨fun G' H' p' M' s' e S' ⟨h1, h2⟩ => ?_, fun G' H' p' M' s' d v e S' r ⟨h1, h2⟩ => ?_, fun G' H' p' M' s' e S' ⟨h1, h2⟩ => ?_, fun G' H' p' M' s' e S' ⟨h1, h2⟩ => ?_⟩
      · obtain ⟨b1, b2⟩ := back e S' h1; exact ⟨b1, k.nx _ _ _ _ _ e b2 h2⟩
      · obtain ⟨b1, b2⟩ := back e S' h1; exact ⟨b1, k.rt _ _ _ _ _ _ _ e b2 r h2⟩
      · obtain ⟨b1, b2⟩ := back e S' h1; exact ⟨b1, k.bk _ _ _ _ _ e b2 h2⟩
      · obtain ⟨b1, b2⟩ := back e S' h1; exact ⟨b1, k.ct _ _ _ _ _ e b2 h2⟩
    · exact hq.elim
  · exact hq.elim⟩
theorem q_lock {e : Expr} {t : TE} {q : DTE} (h : QE X W e t q) : QE X W e (tLockE t) (qLockE sel q) := ⟨pe_lock h.pe, fun DW G H p M s Q Q' hw S hq k => by
  unfold qLockE at hq
  split at hq
  · next a _ =>
    split at hq
    · next kvs em =>
      obtain ⟨gn, kv, g1, g2, g3, g4, g5⟩ := S.mem _ _ em
      refine ⟨a, _, g1, trivial, fun od => ?_⟩
      have S1 : Sim X.K G (upd H a (.frz od (.dK kv))) p (put M a (.lk (.frz od (.dK kv)) kvs)) s := S.put (mo := .lk (.frz od (.dK kv)) kvs) gn ⟨od, kv, rfl, upd_same, g2, g3, g4, g5⟩
      refine h.rf DW G _ p _ s _ _ hw S1 (hq (.frz od (.dK kv))) fun G' H' M' d v e S' r ⟨h1, h2⟩ => ?_
      obtain ⟨gn', o', kv', c0, c1, _⟩ := S'.mem _ _ h1
      exact ⟨c1, k G' _ _ d v e (S'.put (mo := .dK kvs) gn' ⟨kv, upd_same, g2, RepL.mono e _ _ g3, g4, g5⟩) r h2⟩
    · next kvs em =>
      obtain ⟨gn, kv, g1, g2, g3, g4, g5⟩ := S.mem _ _ em
      refine ⟨a, _, g1, trivial, fun od => ?_⟩
      have S1 : Sim X.K G (upd H a (.frz od (.dT kv))) p (put M a (.lkT (.frz od (.dT kv)) kvs)) s := S.put (mo := .lkT (.frz od (.dT kv)) kvs) gn ⟨od, kv, rfl, upd_same, g2, g3, g4, g5⟩
      refine h.rf DW G _ p _ s _ _ hw S1 (hq (.frz od (.dT kv))) fun G' H' M' d v e S' r ⟨h1, h2⟩ => ?_
      obtain ⟨gn', o', kv', c0, c1, _⟩ := S'.mem _ _ h1
      exact ⟨c1, k G' _ _ d v e (S'.put (mo := .dT kvs) gn' ⟨kv, upd_same, g2, RepL.mono e _ _ g3, g4, g5⟩) r h2⟩
    · exact hq.elim
  · exact hq.elim⟩
end
def kD : Key → D
  | .inl i => .int i
  | .inr x => .str x
theorem rep_key {K : PySem.W.Frag} {G : Hp} {k : Key} (h : kOk k) : Rep K G (kD k) (kV k) := by
  cases k with
  | inl i => rfl
  | inr x => exact ⟨rfl, h⟩
theorem rep_keys {K : PySem.W.Frag} {G : Hp} : ∀ {ks : List Key}, (∀ k ∈ ks, kOk k) → RepL K G (ks.map kD) (ks.map kV)
  | [], _ => rfl
  | k :: ks, h => ⟨kV k, _, rfl, rep_key (h k (List.mem_cons_self ..)), rep_keys fun q hq => h q (List.mem_cons_of_mem _ hq)⟩
/-- a tuple that stands in the heap is known for good -/
theorem Sim.adopt {K : PySem.W.Frag} {G H : Hp} {p : Rho} {M : Mst} {s : L2.St} {a : Addr} {ds : List D} {vs : List V} (S : Sim K G H p M s) (h : H a = some (.tup vs)) (r : RepL K G ds vs) (hl : vs.length ≤ sizeLine) : ∃ G', Same G G' ∧ Sim K G' H p M s ∧ Rep K G' (.tup ds) (.ref a) := by
  cases eg : G a with
  | some o =>
    have := S.same _ _ eg
    rw [h] at this; cases this
    exact ⟨G, Same.refl _, S, a, vs, rfl, eg, r, hl⟩
  | none =>
    have e : Same G (upd G a (.tup vs)) := same_new eg
    have mn : ∀ b u, M b = some u → b ≠ a := fun b u q z => by
      subst z
      have := (S.mem _ _ q).2
      cases u with
      | lst _ => obtain ⟨_, h1, _⟩ := this; rw [h] at h1; cases h1
      | dK _ => obtain ⟨_, h1, _⟩ := this; rw [h] at h1; cases h1
      | dT _ => obtain ⟨_, h1, _⟩ := this; rw [h] at h1; cases h1
      | ins _ _ => obtain ⟨_, _, h1, _⟩ := this; rw [h] at h1; cases h1
      | lk _ _ => obtain ⟨_, _, h0, h1, _⟩ := this; rw [h0, h] at h1; cases h1
      | lkT _ _ => obtain ⟨_, _, h0, h1, _⟩ := this; rw [h0, h] at h1; cases h1
      | bag => obtain ⟨_, _, h1, _⟩ := this; rw [h] at h1; cases h1
    refine ⟨_, e, ⟨fun b u q => ?_, fun i d q => ?_, S.len, fun b u q => ⟨by rw [upd_ne (mn b u q)]; exact (S.mem b u q).1, (S.mem b u q).2.mono e rfl⟩⟩, a, vs, rfl, upd_same, RepL.mono e _ _ r, hl⟩
    · by_cases z : b = a
      · subst z; rw [upd_same] at q; cases q; exact h
      · rw [upd_ne z] at q; exact S.same _ _ q
    · obtain ⟨v, r1, r2⟩ := S.env i d q
      exact ⟨v, r1, Rep.mono e _ _ r2⟩
def qiKeys (qe : DTE) : DTI := fun DW p M R => qe DW p M fun d M1 => match d with
  | .ref a => match M1 a with
    | some (.lk ho kvs) => R (kvs.map fun q => kD q.1) (holds a (.lk ho kvs)) M1
    | some (.lkT ho kvs) => R (kvs.map fun q => .tup (q.1.map kD)) (holds a (.lkT ho kvs)) M1
    | _ => False
  | _ => False
def qiVals (qe : DTE) : DTI := fun DW p M R => qe DW p M fun d M1 => match d with
  | .ref a => match M1 a with
    | some (.lk ho kvs) => R (kvs.map fun q => q.2) (holds a (.lk ho kvs)) M1
    | _ => False
  | _ => False
def qiItems (qe : DTE) : DTI := fun DW p M R => qe DW p M fun d M1 => match d with
  | .ref a => match M1 a with
    | some (.lk ho kvs) => R (kvs.map fun q => .tup [kD q.1, q.2]) (holds a (.lk ho kvs)) M1
    | _ => False
  | _ => False
theorem pair_at {κ : Type} {kvs : List (κ × D)} {kv : List (κ × V)} (h : kv.map (·.1) = kvs.map (·.1)) {i : Nat} {q : κ × D} {k : κ} {v : V} (h1 : kvs[i]? = some q) (h2 : kv[i]? = some (k, v)) : k = q.1 := by
  have e1 : (kv.map (·.1))[i]? = some k := by simp [h2]
  rw [h] at e1
  simp [h1] at e1
  exact e1.symm
section
variable {X : Cx} {W : WX} {tg e : Expr} {td : TE} {qd : DTE} {apos cpos : Pos}
theorem qi_keys (he : QE X W e td qd) : QI X W tg e (iKeys td) (qiKeys qd) := ⟨pi_keys he.pe, fun DW G H p M s R R' hw S h k => he.rf DW G H p M s _ _ hw S h fun G1 H1 M1 d v e1 S1 r1 h1 => by
  split at h1
  · next a =>
    cases r1
    split at h1
    · next ho kvs em =>
      obtain ⟨gn, o, kv, c0, c1, c2, c3, c4, c5⟩ := S1.mem _ _ em
      subst c0
      have hl : kv.length = kvs.length := by have := congrArg List.length c2; simpa using this
      refine ⟨a, o, rfl, .inl ⟨kv, c1, k G1 H1 M1 _ _ _ e1 S1 ⟨fun G' H p M s i e S st hi => ?_, fun G' H p M s i x H' e S st y d hd => ?_, fun G' H p M s e S st => ?_⟩ (by rw [List.length_map, ← hl]; exact c4) h1⟩⟩
      · obtain ⟨_, o', kv', b0, b1, _⟩ := S.mem _ _ st
        exact ⟨b1, by simpa [hl] using hi⟩
      · obtain ⟨rfl, kk, vv, y1, rfl⟩ := y
        simp only [List.getElem?_map, Option.map_eq_some_iff] at hd
        obtain ⟨q, q1, rfl⟩ := hd
        have := pair_at c2 q1 y1
        subst this
        exact ⟨G', Same.refl _, S, rep_key (c5 q (List.mem_of_getElem? q1))⟩
      · obtain ⟨_, o', kv', b0, b1, _⟩ := S.mem _ _ st
        exact ⟨b1, by simp [hl]⟩
    · next ho kvs em =>
      obtain ⟨gn, o, kv, c0, c1, c2, c3, c4, c5⟩ := S1.mem _ _ em
      subst c0
      have hl : kv.length = kvs.length := by have := congrArg List.length c2; simpa using this
      refine ⟨a, o, rfl, .inr ⟨kv, c1, k G1 H1 M1 _ _ _ e1 S1 ⟨fun G' H p M s i e S st hi => ?_, fun G' H p M s i x H' e S st y d hd => ?_, fun G' H p M s e S st => ?_⟩ (by rw [List.length_map, ← hl]; exact c4) h1⟩⟩
      · obtain ⟨_, o', kv', b0, b1, _⟩ := S.mem _ _ st
        exact ⟨b1, by simpa [hl] using hi⟩
      · obtain ⟨rfl, kk, vv, q', y1, rfl, y2⟩ := y
        simp only [List.getElem?_map, Option.map_eq_some_iff] at hd
        obtain ⟨q, q1, rfl⟩ := hd
        have := pair_at c2 q1 y1
        subst this
        obtain ⟨l1, l2⟩ := c5 q (List.mem_of_getElem? q1)
        exact S.adopt y2 (rep_keys l2) (by simpa using l1)
      · obtain ⟨_, o', kv', b0, b1, _⟩ := S.mem _ _ st
        exact ⟨b1, by simp [hl]⟩
    · exact h1.elim
  · exact h1.elim⟩
theorem qi_values (he : QE X W e td qd) (hbase : attributeBase e "values" X.env (eval e X.env) = eval e X.env := by rfl) (hline : (apos.endLine == cpos.line) = true := by rfl) : QI X W tg (.Call (.Attribute e "values" apos) [] [] cpos) (iVals td) (qiVals qd) :=
  ⟨pi_values he.pe hbase hline, fun DW G H p M s R R' hw S h k => he.rf DW G H p M s _ _ hw S h fun G1 H1 M1 d v e1 S1 r1 h1 => by
  split at h1
  · next a =>
    cases r1
    split at h1
    · next ho kvs em =>
      obtain ⟨gn, o, kv, c0, c1, c2, c3, c4, c5⟩ := S1.mem _ _ em
      subst c0
      have hl : kv.length = kvs.length := by have := congrArg List.length c2; simpa using this
      refine ⟨a, o, kv, rfl, c1, k G1 H1 M1 _ _ _ e1 S1 ⟨fun G' H p M s i e S st hi => ?_, fun G' H p M s i x H' e S st y d hd => ?_, fun G' H p M s e S st => ?_⟩ (by rw [List.length_map, ← hl]; exact c4) h1⟩
      · obtain ⟨_, o', kv', b0, b1, _⟩ := S.mem _ _ st
        exact ⟨b1, by simpa [hl] using hi⟩
      · obtain ⟨rfl, kk, y1⟩ := y
        obtain ⟨v, h1, h2⟩ := (RepL.mono e _ _ c3).get hd
        simp only [List.getElem?_map, y1, Option.map_some, Option.some.injEq] at h1
        subst h1
        exact ⟨G', Same.refl _, S, h2⟩
      · obtain ⟨_, o', kv', b0, b1, _⟩ := S.mem _ _ st
        exact ⟨b1, by simp [hl]⟩
    · exact h1.elim
  · exact h1.elim⟩
theorem qi_items {elts : List Expr} {kk : Nat} {tpos : Pos} (he : QE X W e td qd) (hbase : attributeBase e "items" X.env (eval e X.env) = eval e X.env := by rfl) (hline : (apos.endLine == cpos.line) = true := by rfl) :
    QI X W (.Tuple elts kk tpos) (.Call (.Attribute e "items" apos) [] [] cpos) (iItems td) (qiItems qd) :=
  ⟨pi_items he.pe hbase hline, fun DW G H p M s R R' hw S h k => he.rf DW G H p M s _ _ hw S h fun G1 H1 M1 d v e1 S1 r1 h1 => by
  split at h1
  · next a =>
    cases r1
    split at h1
    · next ho kvs em =>
      obtain ⟨gn, o, kv, c0, c1, c2, c3, c4, c5⟩ := S1.mem _ _ em
      subst c0
      have hl : kv.length = kvs.length := by have := congrArg List.length c2; simpa using this
      refine ⟨a, o, kv, rfl, c1, k G1 H1 M1 _ _ _ e1 S1 ⟨fun G' H p M s i e S st hi => ?_, fun G' H p M s i x H' e S st y d hd => ?_, fun G' H p M s e S st => ?_⟩ (by rw [List.length_map, ← hl]; exact c4) h1⟩
      · obtain ⟨_, o', kv', b0, b1, _⟩ := S.mem _ _ st
        exact ⟨b1, by simpa [hl] using hi⟩
      · obtain ⟨T, k', v', y1, rfl, y2, rfl⟩ := y
        simp only [List.getElem?_map, Option.map_eq_some_iff] at hd
        obtain ⟨q, q1, rfl⟩ := hd
        have := pair_at c2 q1 y1
        subst this
        obtain ⟨e2, S2⟩ := S.made (o := .tup [kV q.1, v']) y2
        obtain ⟨w, w1, w2⟩ := (RepL.mono e _ _ c3).get (i := i) (d := q.2) (by simp [q1])
        simp only [List.getElem?_map, y1, Option.map_some, Option.some.injEq] at w1
        subst w1
        exact ⟨_, e2, S2, T, _, rfl, upd_same, RepL.mono e2 _ _ (RepL.cons (rep_key (c5 q (List.mem_of_getElem? q1))) (RepL.cons w2 rfl)), sz1000 (by simp)⟩
      · obtain ⟨_, o', kv', b0, b1, _⟩ := S.mem _ _ st
        exact ⟨b1, by simp [hl]⟩
    · exact h1.elim
  · exact h1.elim⟩
end
end DL

/-! DLh: what will change no more; enumerate, zip; sorted; sets. -/
namespace DL
open PySem L2

/-! ### ghost: what a slot holds will change no more -/
def frz (i : Nat) (p : Rho) (M : Mst) (R : Rho → Mst → Prop) : Prop := match p[i]? with
  | some (some (.ref a)) => match M a with
    | some (.lst ds) => R (p.set i (some (.lst ds))) (del M a)
    | some (.dK kvs) => R (p.set i (some (.dct (kvs.map (·.1)) (kvs.map (·.2))))) (del M a)
    | some (.ins C fs) => R (p.set i (some (.ins C (fs.map (·.1)) (fs.map (·.2))))) (del M a)
    | _ => False
  | _ => False
def qFrz (i : Nat) (q : DTS) : DTS := fun DW DE p M => frz i p M (q DW DE)
theorem Sim.slot {K : PySem.W.Frag} {G H : Hp} {p : Rho} {M : Mst} {s : L2.St} {i : Nat} {a : Addr} {d : D} (S : Sim K G H p M s) (h : ∃ v, s[i]? = some (some v) ∧ v = .ref a) (r : Rep K G d (.ref a)) : Sim K G H (p.set i (some d)) M s := by
  obtain ⟨v, h1, rfl⟩ := h
  refine ⟨S.same, fun j e h => ?_, by rw [List.length_set]; exact S.len, S.mem⟩
  rw [List.getElem?_set] at h
  split at h
  · next z =>
    subst z
    split at h
    · cases h; exact ⟨_, h1, r⟩
    · cases h
  · exact S.env j e h
theorem qs_frz {X : Cx} {W : WX} {st : Stmt} {t : TS} {q : DTS} (i : Nat) (h : QS X W st t q) : QS X W st t (qFrz i q) := ⟨h.pe, fun DW G H p M s DE E hw S hq k => by
  unfold qFrz frz at hq
  split at hq
  · next a ei =>
    obtain ⟨v, s1, r1⟩ := S.env i _ ei
    have hv : ∃ v, s[i]? = some (some v) ∧ v = .ref a := ⟨v, s1, r1⟩
    split at hq
    · next ds em =>
      obtain ⟨G', e, S', r⟩ := S.freeze em
      exact h.rf DW G' H _ _ s DE E (hw.mono e) (S'.slot hv r) hq (k.mono e)
    · next kvs em =>
      obtain ⟨G', e, S', r⟩ := S.freezeD em
      exact h.rf DW G' H _ _ s DE E (hw.mono e) (S'.slot hv r) hq (k.mono e)
    · next C fs em =>
      obtain ⟨G', e, S', r⟩ := S.freezeI em
      exact h.rf DW G' H _ _ s DE E (hw.mono e) (S'.slot hv r) hq (k.mono e)
    · exact hq.elim
  · exact hq.elim⟩
/-- what is locked: the dict in slot i; the field f of what slot i holds -/
def selN (i : Nat) : Rho → Mst → Option Addr := fun p _ => match p[i]? with
  | some (some (.ref a)) => some a
  | _ => none
def selA (i : Nat) (f : Str) : Rho → Mst → Option Addr := fun p M => match p[i]? with
  | some (some (.ref a)) => match M a with
    | some (.ins _ fs) => match fs.find? (fun q => q.1 == f) with
      | some (_, .ref b) => some b
      | _ => none
    | _ => none
  | _ => none

/-! ### enumerate, zip -/
def enumD : Nat → List D → List D
  | _, [] => []
  | n, d :: ds => .tup [.int n, d] :: enumD (n + 1) ds
@[simp] theorem enumD_length : ∀ (n : Nat) (ds : List D), (enumD n ds).length = ds.length
  | _, [] => rfl
  | n, d :: ds => by simp [enumD, enumD_length]
theorem enumD_get : ∀ (n : Nat) (ds : List D) (i : Nat), (enumD n ds)[i]? = (ds[i]?).map fun d => .tup [.int ((n + i : Nat) : Int), d]
  | _, [], i => by simp [enumD]
  | n, d :: ds, 0 => by simp [enumD]
  | n, d :: ds, i + 1 => by
    have e : n + 1 + i = n + (i + 1) := by omega
    simp only [enumD, List.getElem?_cons_succ, enumD_get (n + 1) ds i, e]
def zipD : List D → List D → List D
  | a :: as, b :: bs => .tup [a, b] :: zipD as bs
  | _, _ => []
theorem zipD_get : ∀ (as bs : List D) (i : Nat), (zipD as bs)[i]? = match as[i]?, bs[i]? with | some a, some b => some (.tup [a, b]) | _, _ => none
  | a :: as, b :: bs, 0 => by simp [zipD]
  | a :: as, b :: bs, i + 1 => by simp [zipD, zipD_get as bs i]
  | [], bs, i => by simp [zipD]
  | a :: as, [], i => by simp [zipD]
@[simp] theorem zipD_length : ∀ (as bs : List D), (zipD as bs).length = min as.length bs.length
  | a :: as, b :: bs => by simp [zipD, zipD_length as bs]
  | [], bs => by simp [zipD]
  | a :: as, [] => by simp [zipD]
/-- the things of a list, frozen or not, and what keeps them -/
def lstAt (M : Mst) : D → Option (List D × (Mst → Prop))
  | .lst ds => some (ds, always)
  | .ref a => match M a with
    | some (.lst ds) => some (ds, holds a (.lst ds))
    | _ => none
  | _ => none
theorem lstAt_of {K : PySem.W.Frag} {G H : Hp} {p : Rho} {M : Mst} {s : L2.St} {d : D} {v : V} {ds : List D} {Sty : Mst → Prop} (S : Sim K G H p M s) (r : Rep K G d v) (h : lstAt M d = some (ds, Sty)) : Sty M ∧ ∃ a, v = .ref a ∧ ds.length ≤ sizeLine ∧
    ∀ G' H' p' M' s', Same G G' → Sim K G' H' p' M' s' → Sty M' → ∃ us, SqL K H' a us ∧ RepL K G' ds us := by
  unfold lstAt at h
  split at h
  · cases h
    obtain ⟨a, vs, rfl, g1, g2, g3⟩ := r
    exact ⟨trivial, a, rfl, by rw [← g2.length]; exact g3, fun G' H' p' M' s' e S' _ => ⟨vs, .inl (.inl (S'.same _ _ (e _ _ g1))), RepL.mono e _ _ g2⟩⟩
  · next a =>
    split at h
    · next ds' em =>
      cases h
      cases r
      obtain ⟨gn, vs, g1, g2, g3⟩ := S.mem _ _ em
      refine ⟨em, a, rfl, by rw [← g2.length]; exact g3, fun G' H' p' M' s' e S' st => ?_⟩
      obtain ⟨_, us, c1, c2, _⟩ := S'.mem _ _ st
      exact ⟨us, .inl (.inl c1), c2⟩
    · cases h
  · cases h
theorem get_lt {α : Type} {xs : List α} {i : Nat} (h : i < xs.length) : ∃ x, xs[i]? = some x := ⟨_, List.getElem?_eq_getElem h⟩
def qiEnum (qa : DTA) : DTI := fun DW p M R => qa DW p M fun ds M1 => match ds with
  | [x] => match lstAt M1 x with
    | some (es, Sty) => R (enumD 0 es) Sty M1
    | none => False
  | _ => False
def qiZip (qa : DTA) : DTI := fun DW p M R => qa DW p M fun ds M1 => match ds with
  | [x, y] => match lstAt M1 x, lstAt M1 y with
    | some (es, St1), some (fs, St2) => R (zipD es fs) (fun M => St1 M ∧ St2 M) M1
    | _, _ => False
  | _ => False
section
variable {X : Cx} {W : WX} {e e2 : Expr} {ta : TA} {qa : DTA} {p pos tpos : Pos} {elts : List Expr} {kk : Nat}
theorem qi_enum (hg : Gl X "enumerate") (hm : X.mg "enumerate" = none) (ha : QA X W [e] ta qa) (hs : starEach [e] X.env = [(false, eval e X.env)] := by rfl) :
    QI X W (.Tuple elts kk tpos) (.Call (.Name "enumerate" p) [e] [] pos) (iEnum X.K ta) (qiEnum qa) :=
  ⟨pi_enum hg hm ha.pe hs, fun DW G H p M s R R' hw S h k => ha.rf DW G H p M s _ _ hw S h fun G1 H1 M1 ds vs e1 S1 r1 h1 => by
    split at h1
    · next x =>
      obtain ⟨v, rfl, r2⟩ := repL1 r1
      split at h1
      · next es Sty el =>
        obtain ⟨hst, a, rfl, hlen, lk⟩ := lstAt_of S1 r2 el
        obtain ⟨us, u1, _⟩ := lk G1 H1 p M1 s (Same.refl _) S1 hst
        refine ⟨a, us, rfl, u1, k G1 H1 M1 _ _ _ e1 S1 ⟨fun G' H p M s i e S st hi => ?_, fun G' H p M s i x H' e S st y d hd => ?_, fun G' H p M s e S st => ?_⟩ (by rw [enumD_length]; exact hlen) h1⟩
        · obtain ⟨us, c1, c2⟩ := lk G' H p M s e S st
          rw [enumD_length, ← c2.length] at hi
          obtain ⟨x, hx⟩ := get_lt hi
          exact ⟨us, x, c1, hx⟩
        · obtain ⟨us, c1, c2⟩ := lk G' H p M s e S st
          obtain ⟨T, x', rfl, hT, rfl, y⟩ := y
          rw [enumD_get] at hd
          cases ed : es[i]? with
          | none => rw [ed] at hd; cases hd
          | some d' =>
            rw [ed] at hd
            simp only [Option.map_some, Option.some.injEq, Nat.zero_add] at hd
            subst hd
            obtain ⟨w, w1, w2⟩ := c2.get ed
            rw [y us c1] at w1; cases w1
            obtain ⟨e2, S2⟩ := S.made (o := .tup [.int (i : Nat), x']) hT
            exact ⟨_, e2, S2, T, _, rfl, upd_same, RepL.mono e2 _ _ (RepL.cons (d := .int (i : Nat)) rfl (RepL.cons w2 rfl)), sz1000 (by simp)⟩
        · obtain ⟨us, c1, c2⟩ := lk G' H p M s e S st
          exact ⟨us, c1, by rw [enumD_length, c2.length]; exact Nat.le_refl _⟩
      · exact h1.elim
    · exact h1.elim⟩
theorem qi_zip (hg : Gl X "zip") (hm : X.mg "zip" = none) (ha : QA X W [e, e2] ta qa)
    (hs : starEach [e, e2] X.env = (false, eval e X.env) :: starEach [e2] X.env := by rfl) (hpl : (backTo pos (starEach [e2] X.env)).any (·.1) = false := by rfl) :
    QI X W (.Tuple elts kk tpos) (.Call (.Name "zip" p) [e, e2] [] pos) (iZip X.K ta) (qiZip qa) :=
  ⟨pi_zip hg hm ha.pe hs hpl, fun DW G H p M s R R' hw S h k => ha.rf DW G H p M s _ _ hw S h fun G1 H1 M1 ds vs e1 S1 r1 h1 => by
    split at h1
    · next x y =>
      obtain ⟨v, u, rfl, r2, r3⟩ := repL2 r1
      split at h1
      · next es St1 fs St2 el1 el2 =>
        obtain ⟨hst1, a, rfl, hlen1, lk1⟩ := lstAt_of S1 r2 el1
        obtain ⟨hst2, b, rfl, hlen2, lk2⟩ := lstAt_of S1 r3 el2
        obtain ⟨us, u1, _⟩ := lk1 G1 H1 p M1 s (Same.refl _) S1 hst1
        obtain ⟨ws, w1, _⟩ := lk2 G1 H1 p M1 s (Same.refl _) S1 hst2
        refine ⟨a, b, us, ws, rfl, u1, w1, k G1 H1 M1 _ _ _ e1 S1 ⟨fun G' H p M s i e S st hi => ?_, fun G' H p M s i x H' e S st y d hd => ?_, fun G' H p M s e S st => ?_⟩ (by rw [zipD_length]; omega) h1⟩
        · obtain ⟨us, c1, c2⟩ := lk1 G' H p M s e S st.1
          obtain ⟨ws, d1, d2⟩ := lk2 G' H p M s e S st.2
          rw [zipD_length] at hi
          obtain ⟨x, hx⟩ := get_lt (xs := us) (i := i) (by rw [c2.length]; omega)
          obtain ⟨y, hy⟩ := get_lt (xs := ws) (i := i) (by rw [d2.length]; omega)
          exact ⟨us, ws, x, y, c1, d1, hx, hy⟩
        · obtain ⟨us, c1, c2⟩ := lk1 G' H p M s e S st.1
          obtain ⟨ws, d1, d2⟩ := lk2 G' H p M s e S st.2
          obtain ⟨T, x', y', rfl, hT, rfl, y1, y2⟩ := y
          rw [zipD_get] at hd
          split at hd
          · next d' d'' ed1 ed2 =>
            cases hd
            obtain ⟨w, w1, w2⟩ := c2.get ed1
            rw [y1 us c1] at w1; cases w1
            obtain ⟨w, w1, w3⟩ := d2.get ed2
            rw [y2 ws d1] at w1; cases w1
            obtain ⟨e2, S2⟩ := S.made (o := .tup [x', y']) hT
            exact ⟨_, e2, S2, T, _, rfl, upd_same, RepL.mono e2 _ _ (RepL.cons w2 (RepL.cons w3 rfl)), sz1000 (by simp)⟩
          · cases hd
        · obtain ⟨us, c1, c2⟩ := lk1 G' H p M s e S st.1
          obtain ⟨ws, d1, d2⟩ := lk2 G' H p M s e S st.2
          refine ⟨us, ws, c1, d1, ?_⟩
          rw [zipD_length, c2.length, d2.length]; omega
      · exact h1.elim
    · exact h1.elim⟩
end

/-! ### sorted: a list of whole numbers, a dict's keys -/
def intsL : List D → Option (List Int)
  | [] => some []
  | .int i :: ds => match intsL ds with
    | some is => some (i :: is)
    | none => none
  | _ :: _ => none
theorem intsL_eq : ∀ {ds : List D} {ns : List Int}, intsL ds = some ns → ds = ns.map .int
  | [], ns, h => by cases h; rfl
  | d :: ds, ns, h => by
    unfold intsL at h
    split at h
    · next e => cases e
    · next i ds' e =>
      cases e
      split at h
      · next is e => cases h; rw [intsL_eq e]; rfl
      · cases h
    · cases h
@[simp] theorem intsL_map : ∀ ns : List Int, intsL (ns.map D.int) = some ns
  | [] => rfl
  | n :: ns => by simp [intsL, intsL_map ns]
theorem repL_ints {K : PySem.W.Frag} {G : Hp} : ∀ {ns : List Int} {vs : List V}, RepL K G (ns.map D.int) vs → vs = ns.map V.int
  | [], _, h => by cases h; rfl
  | n :: ns, _, ⟨v, q, h1, h2, h3⟩ => by cases h1; cases h2; rw [repL_ints h3]; rfl
theorem repL_intsR {K : PySem.W.Frag} {G : Hp} : ∀ {ns : List Int}, RepL K G (ns.map D.int) (ns.map V.int)
  | [] => rfl
  | n :: ns => ⟨_, _, rfl, rfl, repL_intsR⟩
def intKeys : List Key → Option (List Int)
  | [] => some []
  | .inl i :: ks => match intKeys ks with
    | some is => some (i :: is)
    | none => none
  | _ :: _ => none
theorem intKeys_eq : ∀ {ks : List Key} {ns : List Int}, intKeys ks = some ns → ks = ns.map Sum.inl
  | [], ns, h => by cases h; rfl
  | d :: ds, ns, h => by
    unfold intKeys at h
    split at h
    · next e => cases e
    · next i ds' e =>
      cases e
      split at h
      · next is e => cases h; rw [intKeys_eq e]; rfl
      · cases h
    · cases h
@[simp] theorem intKeys_map : ∀ ns : List Int, intKeys (ns.map Sum.inl) = some ns
  | [] => rfl
  | n :: ns => by simp [intKeys, intKeys_map ns]
def dSorted (m : Bool) : DCa := fun ds M Q => match ds with
  | [x] => match res M x with
    | .lst es => match intsL es with
      | some ns => ∀ ns' : List Int, ns'.Perm ns → ns'.Pairwise (· ≤ ·) → newL m (ns'.map .int) M Q
      | none => False
    | .dct ks _ => match intKeys ks with
      | some ns => ns.length < 64 ∧ ∀ ns' : List Int, ns'.Perm ns → ns'.Pairwise (· ≤ ·) → newL m (ns'.map .int) M Q
      | none => False
    | _ => False
  | _ => False
def rSortD : List V → Hp → VK → Prop := fun xs H Q => ∃ (a : Addr) (kvs : List (Key × V)) (ks : List Int), xs = [.ref a] ∧ Rd H a (.dK kvs) ∧ kvs.map (·.1) = ks.map Sum.inl ∧ ks.length < 64 ∧
    ∀ (ys : List Int) (p : Addr), ys.Perm ks → ys.Pairwise (· ≤ ·) → H p = none → Q (.ref p) (upd H p (.lst (ys.map V.int)))
theorem c_sorted {X : Cx} (m : Bool) (hc : X.calm = true) : QCa X (.builtin "sorted") (fun xs H Q => rSortedI X.K xs H Q ∨ rSortD xs H Q) (dSorted m) := ⟨cr_sortedI.or (call_sortedDI hc), fun G H p M s ds vs Q Q' S r h k => by
  unfold dSorted at h
  split at h
  · next x =>
    obtain ⟨v, rfl, r1⟩ := repL1 r
    split at h
    · next es e1 =>
      obtain ⟨a, us, rfl, g1, g2, g3⟩ := as_lst S r1 e1
      split at h
      · next ns en =>
        have ee := intsL_eq en
        subst ee
        have eu := repL_ints g2
        subst eu
        refine .inl ⟨a, ns, rfl, .inl (.inl g1), fun ns' q hp hw hn => newL_ok S hn repL_intsR (by rw [List.length_map] at g3 ⊢; rw [hp.length_eq]; exact g3) (h ns' hp hw) k⟩
      · exact h.elim
    · next ks fs e1 =>
      obtain ⟨a, kvs, rfl, g1, g2, g3, g4, g5⟩ := as_dct S r1 e1
      split at h
      · next ns en =>
        have ee := intKeys_eq en
        subst ee
        refine .inr ⟨a, kvs, ns, rfl, g1, g2, h.1, fun ns' q hp hw hn => newL_ok S hn repL_intsR (sz1000 (by rw [List.length_map, hp.length_eq]; omega)) (h.2 ns' hp hw) k⟩
      · exact h.elim
    · exact h.elim
  · exact h.elim⟩
/-! ### set(xs) of a list of whole numbers, walked in order -/
section
variable {P : Program} {w : World} {A : Around} {E : Value → Shared → Prop} {s : Shared}
open PyProof.Rows in
set_option maxHeartbeats 3200000 in
theorem set_from_list {l : Addr} {items : Array Value} (ns : List Int) {Q : Value → Shared → Prop} (hh : A.handled = none) (hl : s.heap.IsList l items) (hit : IntsAre items.toList ns) (hb : ns.length + 1 < scanBound)
    (h : ∀ (h' : Heap) (tk c : Nat), SetR w h' s.heap.objs.size (fun j => decide (j ∈ ns)) c → c ≤ ns.length → (∀ b o, s.heap.get? b = some o → h'.get? b = some o) → Q (.ref s.heap.objs.size) { s with heap := h', toks := tk }) :
    wpAny (model P w) A (call (.type "set") [.ref l]) Q E s := by
  have hsz : items.size = ns.length := by have q := IntsAre.length hit; rw [Array.length_toList] at q; exact q
  obtain ⟨c, tl, hmro⟩ := F.called_set.mro
  have hmade := F.called_set.made
  have hsub := F.called_set.sub
  refine wpAny_call (codeAny_of_tree ?_)
  show wpAny _ _ (callAny (.type "set") _) _ _ _
  refine wpAny_pure ⟨Code.quiet_builtin _ (by decide +kernel), codeAny_builtin F.entry_type_call ?_⟩
  rw [Around.under_plain (weight_type_call_type "set" [.ref l] []) rfl]
  have h1 := F.called_set.notType
  have h2 := F.called_set.canCreate
  have hct := F.typeCall_set_1 (.ref l)
  repeat (any_goals (first | assumption | wp_step))
  refine codeAny_mono (code_set_led1 (.ref l) (E := E) (Q₁ := fun obj s₁ => obj = .ref s.heap.objs.size ∧ s₁ = { s with heap := s.heap.push ({ cls := .type "set", dict := none, data := .set #[] 0 (.fresh 0 0 (!w.params.followText "set-order")) } : Obj) }) ⟨rfl, rfl⟩) fun r s₁ hr => ?_
  rcases r with e | fl
  · exact hr
  cases fl with
  | ret obj =>
    obtain ⟨rfl, rfl⟩ := hr
    have hS : (s.heap.push ({ cls := .type "set", dict := none, data := .set #[] 0 (.fresh 0 0 (!w.params.followText "set-order")) } : Obj)).get? s.heap.objs.size = some ({ cls := .type "set", dict := none, data := .set #[] 0 (.fresh 0 0 (!w.params.followText "set-order")) } : Obj) := Heap.get?_push_size _ rfl
    have hT : Shared.TypeIs { s with heap := s.heap.push ({ cls := .type "set", dict := none, data := .set #[] 0 (.fresh 0 0 (!w.params.followText "set-order")) } : Obj) } (.ref s.heap.objs.size) "set" := ⟨_, hS, rfl⟩
    have hli := F.called_set.init.lookup
    have hbi := F.called_set.init.bind (.ref s.heap.objs.size)
    repeat (any_goals (first | assumption | wp_step))
    refine codeAny_mono (codeAny_call_builtin (R := wants (fun r s₂ => r = .none ∧ ∃ h' tk c, s₂ = { s with heap := h', toks := tk } ∧ SetR w h' s.heap.objs.size (fun j => decide (j ∈ ns)) c ∧ c ≤ ns.length ∧
        (∀ b o, s.heap.get? b = some o → h'.get? b = some o)) E) F.called_set.init.plain F.entry_set_init (check_set_init_1 hT ?_)) fun r₂ s₂ hr₂ => ?_
    · obtain ⟨⟨ocls, odict, odata, oslots⟩, hol, hcl, nl, hdl⟩ := hl
      simp only at hcl hdl
      subst hcl
      subst hdl
      have hol' : (s.heap.push ({ cls := .type "set", dict := none, data := .set #[] 0 (.fresh 0 0 (!w.params.followText "set-order")) } : Obj)).get? l = some { cls := .type "list", dict := odict, data := .seq items nl, slots := oslots } := Heap.get?_push_of_some _ hol
      have hsls := F.sub_list_set
      have hslf := F.sub_list_frozenset
      have hne : (Value.type "list" == Value.type "dict") = false := by decide
      have hl1 : (s.heap.push ({ cls := .type "set", dict := none, data := .set #[] 0 (.fresh 0 0 (!w.params.followText "set-order")) } : Obj)).IsList l items := ⟨_, hol', rfl, nl, rfl⟩
      unfold Builtin.«set.__init__» noKeywords Builtin.Frozenset.updateFrom
      generalize hPI : pyIter = PI
      wp_walk
      subst hPI
      refine wpAny_pyIter_list hl1 ?_
      refine wpAny_bind (wpAny_runValue ?_)
      have hlS : l < s.heap.objs.size := Heap.lt_size hol
      have hh3 : A.in1.in1.in1.handled = none := by simp [hh]
      have sz : (s.heap.push ({ cls := .type "set", dict := none, data := .set #[] 0 (.fresh 0 0 (!w.params.followText "set-order")) } : Obj)).objs.size = s.heap.objs.size + 1 := Heap.size_push ..
      have hneI : l ≠ (s.heap.push ({ cls := .type "set", dict := none, data := .set #[] 0 (.fresh 0 0 (!w.params.followText "set-order")) } : Obj)).objs.size := by rw [sz]; exact Nat.ne_of_lt (Nat.lt_succ_of_lt hlS)
      have hSf : s.heap.objs.size ∉ [(s.heap.push ({ cls := .type "set", dict := none, data := .set #[] 0 (.fresh 0 0 (!w.params.followText "set-order")) } : Obj)).objs.size, l] := by
        rw [sz]; simp only [List.mem_cons, List.not_mem_nil, or_false, not_or]
        exact ⟨Nat.ne_of_lt (Nat.lt_succ_self _), Nat.ne_of_gt hlS⟩
      refine set_update_ints ((Walks.list hh3 _ l hneI items).toS) s.heap.objs.size hSf ns hsz hb (fun i v hv => ?_) (items.size - 0) 0 _ (by omega) (Nat.zero_le _) ⟨⟨_, Heap.get?_push_size _ rfl, rfl, rfl⟩, hl1.push _⟩ ⟨0, Nat.le_refl 0, ?_⟩ fun s' c' hm hc' hS' => ?_
      · have hi : i < ns.length := by rw [← hsz]; exact (Array.getElem?_eq_some_iff.mp hv).1
        obtain ⟨t, e⟩ := IntsAre.int_at hit i v (by rw [Array.getElem?_toList]; exact hv)
        refine ⟨ns[i], t, List.getElem?_eq_getElem hi, ?_⟩
        rw [e, List.getD_eq_getElem?_getD, List.getElem?_eq_getElem hi] <;> rfl
      · exact setR_new_at (Heap.get?_push_of_some _ hS)
      · obtain ⟨h', g2, d', tk', os'⟩ := s'
        have eg : g2 = s.gens := hm.gens
        have ed : d' = s.drawn := hm.drawn
        have eo : os' = s.os := hm.os
        subst eg
        subst ed
        subst eo
        show wpAny _ _ _ _ _ _
        refine wpAny_pure ?_
        show wpAny _ _ (ret Value.none) _ _ _
        rw [hsz] at hc'
        refine wpAny_pure ⟨rfl, h', tk', c', rfl, hS', hc', fun b o e => ?_⟩
        have hb0 : b < s.heap.objs.size := Heap.lt_size e
        refine hm.heap b o ?_ (Heap.get?_push_of_some _ (Heap.get?_push_of_some _ e))
        rw [sz]
        simp only [List.mem_cons, List.not_mem_nil, or_false, not_or]
        exact ⟨Nat.ne_of_lt hb0, Nat.ne_of_lt (Nat.lt_succ_of_lt hb0)⟩
    · rcases r₂ with e | fl₂
      · exact hr₂
      cases fl₂ with
      | ret r =>
        obtain ⟨rfl, h', tk, c', rfl, hS', hc', hk'⟩ := hr₂
        repeat (any_goals (first | assumption | wp_step))
        exact h _ _ _ hS' hc' hk'
      | _ => exact hr₂.elim
  | _ => exact hr.elim
end
/-- set(xs), fewer than 64 whole numbers -/
def rSetL (K : PySem.W.Frag) (w : World) : List V → Hp → VK → Prop := fun vs H Q => ∃ (a : Addr) (ns : List Int), vs = [.ref a] ∧ SqL K H a (ns.map V.int) ∧ ns.length < 64 ∧ ∀ p c, H p = none → c ≤ ns.length → Q (.ref p) (upd H p (SetO w p (fun j => decide (j ∈ ns)) c))
theorem call_setL {X : Cx} (hc : X.calm = true) : CallR X (.type "set") (rSetL X.K X.w) := by
  intro pins s σ H vs us Q I r h
  obtain ⟨a, ns, rfl, hs, h64, q⟩ := h
  rw [Vals.ref1 r]
  obtain ⟨its, rv, p, hz⟩ := I.list hs
  refine set_from_list (P := X.prog) (w := X.w) ns (I.ok.hd hc) p.isList (by simpa using rv.ints) (by unfold scanBound; omega) fun h' tk c R hcn hk => ?_
  exact ⟨.ref s.heap.objs.size, upd H s.heap.objs.size (SetO X.w s.heap.objs.size (fun j => decide (j ∈ ns)) c), I.laid (t' := tk) hk (Nat.le_refl _) (setO_new R), rfl, q _ _ (I.hok.fresh (Nat.le_refl _)) hcn⟩
/-- sorted(set(xs)) -/
def qSortSet (m : Bool) (qa : DTA) : DTE := fun DW p M Q => qa DW p M fun ds M1 => match ds with
  | [x] => match res M1 x with
    | .lst es => match intsL es with
      | some ns => ns.length < 64 ∧ ∀ ns' : List Int, ns'.Pairwise (· < ·) → (∀ k, k ∈ ns' ↔ k ∈ ns) → newL m (ns'.map .int) M1 Q
      | none => False
    | _ => False
  | _ => False
theorem sim_laid {K : PySem.W.Frag} {G H : Hp} {p : Rho} {M : Mst} {s : L2.St} {a : Addr} {o : HO} (S : Sim K G H p M s) (hn : H a = none) : Sim K G (upd H a o) p M s := by
  refine ⟨fun b u q => ?_, S.env, S.len, fun b u q => ⟨(S.mem b u q).1, (S.mem b u q).2.mono (Same.refl G) ?_⟩⟩
  · rw [upd_ne (ne_of_none q (S.same.free hn))]; exact S.same b u q
  · obtain ⟨o', ho⟩ := (S.mem b u q).2.there
    exact upd_ne (ne_of_none ho hn)
theorem q_sortSet {X : Cx} {W : WX} {e : Expr} {t : TA} {qa : DTA} {p p2 pos2 pos : Pos} (m : Bool) (hc : X.calm = true) (hg : Gl X "sorted") (hm : X.mg "sorted" = none) (hg2 : Gl X "set") (hm2 : X.mg "set" = none) (ha : QA X W [e] t qa)
    (he : starEach [.Call (.Name "set" p2) [e] [] pos2] X.env = (false, eval (.Call (.Name "set" p2) [e] [] pos2) X.env) :: starEach [] X.env := by rfl) (he2 : starEach [e] X.env = (false, eval e X.env) :: starEach [] X.env := by rfl) :
    QE X W (.Call (.Name "sorted" p) [.Call (.Name "set" p2) [e] [] pos2] [] pos) (tCB (rSortedSet X.w) (tCons (tCB (rSetL X.K X.w) t) tNil)) (qSortSet m qa) :=
  ⟨pe_callB (cr_sortedSet hc) hg hm (by decide +kernel) (pa_cons (pe_callTy (call_setL hc) hg2 hm2 (by decide +kernel) ha.pe (he := he2)) pa_nil) (he := he),
    fun DW G H p M s Q Q' hw S h k => ha.rf DW G H p M s _ _ hw S h fun G1 H1 M1 ds vs e1 S1 r1 h1 => by
      split at h1
      · next x =>
        obtain ⟨v, rfl, r2⟩ := repL1 r1
        split at h1
        · next es ee =>
          obtain ⟨a, us, rfl, g1, g2, g3⟩ := as_lst S1 r2 ee
          split at h1
          · next ns en =>
            have e3 := intsL_eq en
            subst e3
            have eu := repL_ints g2
            subst eu
            refine ⟨a, ns, rfl, .inl (.inl g1), h1.1, fun q c hn hcn => ⟨q, _, c, rfl, upd_same, by omega, fun ns' q2 hw' hm' hl' hn2 => ?_⟩⟩
            refine newL_ok (sim_laid S1 hn) hn2 repL_intsR (sz1000 (by rw [List.length_map]; have := h1.1; omega)) (h1.2 ns' hw' fun k => by rw [hm' k]; simp) fun G' H' M' d w e2 => k G' H' M' d w (e1.trans e2)
          · exact h1.elim
        · exact h1.elim
      · exact h1.elim⟩
end DL

/-! DLi: a law's top, its end; the numbers that every law takes. -/
namespace DL
open PySem L2

/-- a def of the module: where it stands, what it is -/
structure FnAt (K : PySem.W.Frag) (mg : Str → Option Value) (x : Str) (st : Stmt) (ps : List Str) where
  f : Addr
  fd : FuncData
  g : mg x = some (.ref f)
  F : Fun K x x st f fd
  b : Binds K fd ps []
def spLaw : DSp := fun ds M Q _ => ∃ ns : List Int, ds = [.scr ns] ∧ ns.length ≤ 63 ∧ (∀ a, M a = none) ∧ ∀ M', Q (.bl true) M'
theorem walk {l : PySem.W.OpenLaw} {q : Program} {loose : List Str} {XP : (Str → Option Value) → Heap → Prop} {YP : World → Heap → Prop} {d : DefRec} {K : Params → PySem.W.Frag} {k : Nat} (hk : k ≤ 200) (hn : l.most = some 63) (hdf : d.params.defaults = [])
    (hY : ∀ (w : World) (h : Heap), YP w h → (K w.params).In h)
    (F : ∀ (w : World) (mg : Str → Option Value) (fa : Addr) (h : Heap), (K w.params).In h → h.Ns mainGlobals mg → mg d.name = some (.ref fa) →
      ∃ fd : FuncData, (∀ (s : Shared) (u : Value), BindsTo s fd ⟨[u], []⟩ [("_law_script", u)]) ∧ ∀ base : Heap, (K w.params).In base → base.Ns mainGlobals mg →
        FnOk l.prog w (K w.params) mg base (L2.CX l.prog w) k fa fd ["_law_script"] (toSp (K w.params) spLaw)) :
    PySem.W.WalkO q loose XP YP l.row.toRowW d [] (fun f vs => PySem.call f vs) :=
  L2.walk_of (n := 63) (k := k) (x := "_law_script") (CX := fun w => L2.CX l.prog w) (sp := fun w => toSp (K w.params) spLaw) hn (by decide) hdf
    ⟨rfl, by show 1 + 300 + 3 * k + 5 < 1000; omega, by show 4 + 16 * k + 200 < 9900; omega⟩ hY F
    (fun w H a ns hl _ hS => ⟨H, [.scr ns], fun _ => none, fun d _ => d = .bl true, fun _ _ => False, Same.refl _, RepL.cons ⟨a, rfl, hS, hl⟩ rfl, fun _ _ h => (by cases h), ⟨ns, rfl, hl, fun _ => rfl, fun _ => rfl⟩,
      fun G' H' v d M' _ _ r _ e => (by subst e; exact r), fun _ _ _ _ _ _ _ _ _ _ h => h.elim⟩) fun w H s e s' z => by
    obtain ⟨a, B, H', cls, d, _, _, _, _, _, _, _, h⟩ := z
    exact h
end DL

/-! DLj: readings opened by simp; the numbers that every law takes out of its script. -/
namespace DL
open PySem L2
abbrev retE (Q : DK) : DEnds := { nx := fun _ M => Q .non M, rt := Q }
section
variable {M : Mst} {Q : DK} {a : Addr} {ds : List D} {i : Int} {d : D}
theorem atI_0 {α : Type} {x : α} {xs : List α} : atI (x :: xs) 0 = some x := by
  unfold atI ixN; simp
theorem atI_1 {α : Type} {x y : α} {xs : List α} : atI (x :: y :: xs) 1 = some y := by
  unfold atI ixN
  have : (1 : Int) < ((x :: y :: xs).length : Int) := by simp; omega
  simp only [this]; rfl
theorem atI_n {α : Type} {xs : List α} {n : Nat} : atI xs (n : Int) = xs[n]? := by
  unfold atI ixN
  by_cases h : n < xs.length
  · simp [h]
  · have : ¬ ((n : Int) < (xs.length : Int)) := by omega
    simp [this, h]
theorem atI_some {α : Type} {xs : List α} {i : Int} (h0 : 0 ≤ i) (h1 : i < xs.length) : ∃ x, atI xs i = some x ∧ x ∈ xs := by
  obtain ⟨n, rfl⟩ : ∃ n : Nat, i = n := ⟨i.toNat, by omega⟩
  rw [atI_n]
  have : n < xs.length := by omega
  exact ⟨_, List.getElem?_eq_getElem this, List.getElem_mem this⟩
theorem ix_l (h : atI ds i = some d) : dIx (.lst ds) (.int i) M Q = Q d M := by simp [dIx, dgetD, h]
theorem ix_t (h : atI ds i = some d) : dIx (.tup ds) (.int i) M Q = Q d M := by simp [dIx, dgetD, h]
theorem ix_x (h : atI ds i = some d) : dIx (.xtp ds) (.int i) M Q = Q d M := by simp [dIx, dgetD, h]
theorem ix_k (h : atI ds i = some d) : dIx (.ktp ds) (.int i) M Q = Q d M := by simp [dIx, dgetD, h]
theorem ix_s {ns : List Int} {n : Int} (h : atI ns i = some n) : dIx (.scr ns) (.int i) M Q = Q (.int n) M := by simp [dIx, dgetD, h]
theorem ix_r (hm : M a = some (.lst ds)) (h : atI ds i = some d) : dIx (.ref a) (.int i) M Q = Q d M := by simp [dIx, dgetD, res, hm, h]
theorem ix_d {kvs : List (Key × D)} {y : D} {k : Key} (hm : M a = some (.dK kvs)) (hk : keyD y = some k) (h : valD kvs k = some d) : dIx (.ref a) y M Q = Q d M := by simp [dIx, dgetD, hm, hk, h]
theorem in_d {kvs : List (Key × D)} {y : D} {k : Key} {neg : Bool} (hm : M a = some (.dK kvs)) (hk : keyD y = some k) : dIn neg y (.ref a) M Q = Q (.bl (xor neg (valD kvs k).isSome)) M := by simp [dIn, dgetD, hm, hk]
theorem set_l {R : Mst → Prop} {j : Nat} (hm : M a = some (.lst ds)) (h : ixN ds.length i = some j) : dSet (.ref a) (.int i) d M R = R (put M a (.lst (ds.set j d))) := by simp [dSet, hm, h]
theorem set_d {R : Mst → Prop} {kvs : List (Key × D)} {y : D} {k : Key} (hm : M a = some (.dK kvs)) (hk : keyD y = some k) : dSet (.ref a) y d M R = (kvs.length < 100000 ∧ R (put M a (.dK (putD kvs k d)))) := by simp [dSet, hm, hk]
theorem len_l : dLen [.lst ds] M Q = Q (.int ds.length) M := by simp [dLen]
theorem len_s {ns : List Int} : dLen [.scr ns] M Q = Q (.int ns.length) M := by simp [dLen]
theorem len_r (hm : M a = some (.lst ds)) : dLen [.ref a] M Q = Q (.int ds.length) M := by simp [dLen, res, hm]
@[simp] theorem dInt_i {C : Int → Int → Prop} {g : Int → Int → Int} {i j : Int} : dInt C g (.int i) (.int j) M Q = (C i j ∧ Q (.int (g i j)) M) := rfl
@[simp] theorem dInt0_i {g : Int → Int → Int} {i j : Int} : dInt0 g (.int i) (.int j) M Q = Q (.int (g i j)) M := rfl
@[simp] theorem dCmpI_i {g : Int → Int → Bool} {i j : Int} : dCmpI g (.int i) (.int j) M Q = Q (.bl (g i j)) M := rfl
@[simp] theorem dAdd_i {m : Bool} {i j : Int} : dAdd m (.int i) (.int j) M Q = Q (.int (i + j)) M := rfl
@[simp] theorem dAdd_l {m : Bool} {es fs : List D} : dAdd m (.lst es) (.lst fs) M Q = (es.length + fs.length ≤ 100000 ∧ newL m (es ++ fs) M Q) := rfl
@[simp] theorem dAbs_i {i : Int} : dAbs [.int i] M Q = Q (.int (if i < 0 then -i else i)) M := rfl
@[simp] theorem dMax2_i {i j : Int} : dMax2 [.int i, .int j] M Q = Q (.int (if j > i then j else i)) M := rfl
@[simp] theorem dMin2_i {i j : Int} : dMin2 [.int i, .int j] M Q = Q (.int (if j < i then j else i)) M := rfl
@[simp] theorem len_l' : dLen [.lst ds] M Q = Q (.int ds.length) M := by simp [dLen]
@[simp] theorem len_s' {ns : List Int} : dLen [.scr ns] M Q = Q (.int ns.length) M := by simp [dLen]
@[simp] theorem gSub_eq {qo qi : DTE} {d : D} {DW : DWt} {p : Rho} {R : Rho → Mst → Prop} : gSubD qo qi d DW p M R = qo DW p M fun o M1 => qi DW p M1 fun i M2 => dSet o i d M2 fun M3 => R p M3 := rfl
end

section
variable {X : Cx} {W : WX} {pos : Pos}
theorem qs_setN (i : Nat) {x : Str} {e : Expr} {te : TE} {qe : DTE} {pos' : Pos} (hN : X.N.Nodup) (he : QE X W e te qe) (hi : X.N[i]? = some x := by rfl) (hx : Loc X.env.scope x := by first | exact .inl rfl | exact .inr rfl)
    (hs : swapsWith e (some (.Name x pos')) pos.line X.env = pure false := by rfl) (hf : X.fn x = true ∨ X.env.scope.names.lookup x = some .local := by first | exact .inl rfl | exact .inr rfl) :
    QS X W (.Assign [.Name x pos'] e pos) (tAsg te (gName i)) (qAsg qe (gNameD i)) := qs_set (ps_set hN hi hx he.pe hs hf) he.rf
theorem qs_augN (i : Nat) {x : Str} {e : Expr} {te : TE} {qe : DTE} {pos' : Pos} (hN : X.N.Nodup) (he : QE X W e te qe) (hi : X.N[i]? = some x := by rfl) (hx : Loc X.env.scope x := by first | exact .inl rfl | exact .inr rfl)
    (hf : X.fn x = true ∨ X.env.scope.names.lookup x = some .local := by first | exact .inl rfl | exact .inr rfl) : QS X W (.AugAssign (.Name x pos') .Add e pos) (tAug i te rAugX) (qAug i qe dAug) :=
  qs_augX (ps_aug hN hi hx he.pe ip_any hf) he.rf ref_aug
theorem qs_parN (i j : Nat) {x y : Str} {a b : Expr} {ta : TA} {qa : DTA} {px py pt : Pos} {kt k2 pt2} (hc : X.calm = true) (hN : X.N.Nodup) (ha : QA X W [a, b] ta qa) (hi : X.N[i]? = some x := by rfl) (hj : X.N[j]? = some y := by rfl) (hij : i ≠ j := by decide)
    (hx : X.env.scope.names.lookup x = some .local := by rfl) (hy : X.env.scope.names.lookup y = some .local := by rfl)
    (hw : swappedStores [.Tuple [.Name x px, .Name y py] kt pt] (.Tuple [a, b] k2 pt2) X.env = pure (some [x, y]) := by rfl)
    (hs : swapsWithSole [.Tuple [.Name x px, .Name y py] kt pt] (.Tuple [a, b] k2 pt2) pos.line X.env = pure false := by rfl) :
    QS X W (.Assign [.Tuple [.Name x px, .Name y py] kt pt] (.Tuple [a, b] k2 pt2) pos) (tPar i j ta) (qPar i j qa) := qs_par (ps_par hc hN hi hj hij hx hy ha.pe hw hs) ha.rf
theorem qs_par3N (i j l : Nat) {x y z : Str} {a b c : Expr} {ta : TA} {qa : DTA} {px py pz pt : Pos} {kt k2 pt2} (hc : X.calm = true) (hN : X.N.Nodup) (ha : QA X W [a, b, c] ta qa) (hi : X.N[i]? = some x := by rfl) (hj : X.N[j]? = some y := by rfl) (hl : X.N[l]? = some z := by rfl)
    (hij : i ≠ j := by decide) (hil : i ≠ l := by decide) (hjl : j ≠ l := by decide)
    (hx : X.env.scope.names.lookup x = some .local := by rfl) (hy : X.env.scope.names.lookup y = some .local := by rfl) (hz : X.env.scope.names.lookup z = some .local := by rfl)
    (hw : swappedStores [.Tuple [.Name x px, .Name y py, .Name z pz] kt pt] (.Tuple [a, b, c] k2 pt2) X.env = pure (some [x, y, z]) := by rfl)
    (hs : swapsWithSole [.Tuple [.Name x px, .Name y py, .Name z pz] kt pt] (.Tuple [a, b, c] k2 pt2) pos.line X.env = pure false := by rfl) :
    QS X W (.Assign [.Tuple [.Name x px, .Name y py, .Name z pz] kt pt] (.Tuple [a, b, c] k2 pt2) pos) (tPar3 i j l ta) (qPar3 i j l qa) := qs_par3 (ps_par3 hc hN hi hj hl hij hil hjl hx hy hz ha.pe hw hs) ha.rf
theorem qg_nm (i : Nat) {x : Str} {ix : List Nat} (hN : X.N.Nodup) (hi : X.N[i]? = some x := by rfl) (hx : Loc X.env.scope x := by first | exact .inl rfl | exact .inr rfl)
    (hf : X.fn x = true ∨ X.env.scope.names.lookup x = some .local := by first | exact .inl rfl | exact .inr rfl) (hm : i ∈ ix := by decide) : QGi X W ix (.Name x pos) (gName i) (gNameD i) := qg_name (pg_name hN hi hx hf) hm
end
/-! ### what is no longer asked of the store -/
def Sub (M M' : Mst) : Prop := ∀ a o, M a = some o → M' a = some o
theorem Sub.refl (M : Mst) : Sub M M := fun _ _ h => h
theorem Sub.trans {M M1 M2 : Mst} (h : Sub M M1) (g : Sub M1 M2) : Sub M M2 := fun a o e => g a o (h a o e)
theorem Sub.put {M M' : Mst} {a : Addr} {o : MO} (h : Sub M M') (hn : M a = none) : Sub M (put M' a o) := fun b u e => by
  rw [put_ne (fun z => by rw [z, hn] at e; cases e)]; exact h b u e
def upSp (p : DSp) : DSp := fun ds M Q E => ∃ Q0 E0, p ds M Q0 E0 ∧ (∀ d M' M'', Sub M'' M' → Q0 d M'' → Q d M') ∧ ∀ x M' M'', Sub M'' M' → E0 x M'' → E x M'
theorem imp_up {K : PySem.W.Frag} {p : DSp} {vs : List V} {H : Hp} {Q : VK} {E : XK} (h : toSp K p vs H Q E) : toSp K (upSp p) vs H Q E := by
  obtain ⟨G, ds, M, Qd, Ed, e, r, hm, hp, kq, ke⟩ := h
  have ok : ∀ {G' H' M' M''}, Sub M'' M' → MemOk K G' H' M' → MemOk K G' H' M'' := fun hs hm a o e => hm a o (hs a o e)
  exact ⟨G, ds, M, fun d M' => ∃ M'', Sub M'' M' ∧ Qd d M'', fun x M' => ∃ M'', Sub M'' M' ∧ Ed x M'', e, r, hm, ⟨Qd, Ed, hp, fun d M' M'' hs q => ⟨M'', hs, q⟩, fun x M' M'' hs q => ⟨M'', hs, q⟩⟩,
    fun G' H' v d M' e1 e2 r1 hm1 ⟨M'', hs, q⟩ => kq G' H' v d M'' e1 e2 r1 (ok hs hm1) q, fun G' H' x cls dx M' e1 e2 r1 hm1 ⟨M'', hs, q⟩ => ke G' H' x cls dx M'' e1 e2 r1 (ok hs hm1) q⟩
/-! ### comprehensions whose inner parts hang on the block -/
def canE (K : PySem.W.Frag) (W : WX) (q : DTE) : TE := fun s H Q' => ∃ DW G p M Q, WLink K G DW W ∧ Sim K G H p M s ∧ q DW p M Q ∧ ∀ G' H' M' d v, Same G G' → Sim K G' H' p M' s → Rep K G' d v → Q d M' → Q' v H'
def canT (K : PySem.W.Frag) (W : WX) (q : DTT) : TT := fun s H Q' => ∃ DW G p M Q, WLink K G DW W ∧ Sim K G H p M s ∧ q DW p M Q ∧ ∀ G' H' M' b, Same G G' → Sim K G' H' p M' s → Q b M' → Q' b H'
def canG (K : PySem.W.Frag) (W : WX) (ix : List Nat) (q : DTG) : TG := fun v s H Q' => ∃ DW G p M d Q, WLink K G DW W ∧ Sim K G H p M s ∧ Rep K G d v ∧ q d DW p M Q ∧ ∀ G' H' p' M' s', Same G G' → Sim K G' H' p' M' s' → Only ix s s' → Q p' M' → Q' s' H'
section
variable {X : Cx} {W : WX} {elt tg iter : Expr} {ifs : List Expr} {scope : Scope} {own : List (Str × Nat)} {pos : Pos} {wi : TI} {qi : DTI} {qg : DTG} {qt : DTT} {qe : DTE}
theorem QE.can {e : Expr} (h : ∃ t, QE X W e t qe) : QE X W e (canE X.K W qe) qe := by
  obtain ⟨t, h⟩ := h
  exact ⟨⟨fun pins s σ H Q I ⟨DW, G, p, M, Qd, hw, S, hq, k⟩ => h.pe.run pins s σ H Q I (h.rf DW G H p M σ Qd Q hw S hq k)⟩, fun DW G H p M s Q Q' hw S hq k => ⟨DW, G, p, M, Q, hw, S, hq, k⟩⟩
theorem QTs.can {es : List Expr} (h : ∃ t, QTs X W es t qt) : QTs X W es (canT X.K W qt) qt := by
  obtain ⟨t, h⟩ := h
  exact ⟨⟨fun pins s σ H Q I ⟨DW, G, p, M, Qd, hw, S, hq, k⟩ => h.pe.run pins s σ H Q I (h.rf DW G H p M σ Qd Q hw S hq k)⟩, fun DW G H p M s Q Q' hw S hq k => ⟨DW, G, p, M, Q, hw, S, hq, k⟩⟩
theorem QGi.can {ix : List Nat} {e : Expr} (h : ∃ t, QGi X W ix e t qg) : QGi X W ix e (canG X.K W ix qg) qg := by
  obtain ⟨t, h⟩ := h
  exact ⟨⟨fun pins s σ H v u Q I r ⟨DW, G, p, M, d, Qd, hw, S, rd, hq, k⟩ => h.pe.run pins s σ H v u Q I r (h.rf DW G H p M σ d v Qd Q hw S rd hq k)⟩, fun DW G H p M s d v Q Q' hw S rd hq k => ⟨DW, G, p, M, d, Q, hw, S, rd, hq, k⟩⟩
theorem q_lcX (m : Bool) (hc : X.calm = true) (hN : X.N.Nodup) (hi : QI X W tg iter wi qi) (ok : BlkOk X.N X.env.scope scope own)
    (hg : ∀ (s : Shared) (H : Hp) (C : Addr) (cl : List (Str × Addr)) (fp : List Addr), ∃ t, QGi (X.blk s H scope (compEnvC scope cl C X.env) fp) W0 (own.map (·.2)) tg t qg)
    (ht : ∀ (s : Shared) (H : Hp) (C : Addr) (cl : List (Str × Addr)) (fp : List Addr), ∃ t, QTs (X.blk s H scope (compEnvC scope cl C X.env) fp) W0 ifs t qt)
    (he : ∀ (s : Shared) (H : Hp) (C : Addr) (cl : List (Str × Addr)) (fp : List Addr), ∃ t, QE (X.blk s H scope (compEnvC scope cl C X.env) fp) W0 elt t qe) (hs : ∀ x, foldedSetIterable iter X.env x = pure x := by intro _; rfl) :
    QE X W (.ListComp elt [⟨tg, iter, ifs, 0⟩] scope pos) (tLc wi (canG X.K W0 (own.map (·.2)) qg) (canT X.K W0 qt) (canE X.K W0 qe) (own.map (·.2))) (qLc m qi qg qt qe (own.map (·.2))) :=
  q_lc m hc hN hi ok (fun s H C cl fp => QGi.can (hg s H C cl fp)) (fun s H C cl fp => QTs.can (ht s H C cl fp)) (fun s H C cl fp => QE.can (he s H C cl fp)) hs
theorem qs_setLcX (m : Bool) (i : Nat) {y : Str} {py spos : Pos} (hc : X.calm = true) (hN : X.N.Nodup) (hi : QI X W tg iter wi qi) (ok : BlkOk X.N X.env.scope scope own)
    (hg : ∀ (s : Shared) (H : Hp) (C : Addr) (cl : List (Str × Addr)) (fp : List Addr), ∃ t, QGi (X.blk s H scope (compEnvC scope cl C X.env) fp) W0 (own.map (·.2)) tg t qg)
    (ht : ∀ (s : Shared) (H : Hp) (C : Addr) (cl : List (Str × Addr)) (fp : List Addr), ∃ t, QTs (X.blk s H scope (compEnvC scope cl C X.env) fp) W0 ifs t qt)
    (he : ∀ (s : Shared) (H : Hp) (C : Addr) (cl : List (Str × Addr)) (fp : List Addr), ∃ t, QE (X.blk s H scope (compEnvC scope cl C X.env) fp) W0 elt t qe)
    (hy : X.N[i]? = some y := by rfl) (hyl : X.env.scope.names.lookup y = some .local := by rfl)
    (hsw : swapsWith (.ListComp elt [⟨tg, iter, ifs, 0⟩] scope pos) (some (.Name y py)) spos.line X.env = pure true := by exact sw_true rfl rfl rfl (by decide +kernel)) (hs : ∀ x, foldedSetIterable iter X.env x = pure x := by intro _; rfl) :
    QS X W (.Assign [.Name y py] (.ListComp elt [⟨tg, iter, ifs, 0⟩] scope pos) spos) (tAsg (tLc wi (canG X.K W0 (own.map (·.2)) qg) (canT X.K W0 qt) (canE X.K W0 qe) (own.map (·.2))) (gName i)) (qAsg (qLc m qi qg qt qe (own.map (·.2))) (gNameD i)) :=
  qs_setLc m hc hN hy hyl hsw hi ok (fun s H C cl fp => QGi.can (hg s H C cl fp)) (fun s H C cl fp => QTs.can (ht s H C cl fp)) (fun s H C cl fp => QE.can (he s H C cl fp)) hs
end
/-! ### the bag -/
def spTakeL : DSp := fun ds M Q _ => ∃ (b : Addr) (g m n : Int), ds = [.ref b, .int n] ∧ M b = some (.lst [.int g, .int m]) ∧ 0 ≤ g ∧ 0 ≤ m ∧ m < 2147483648 ∧ 0 < n ∧ n < 1073741824 ∧
  ∀ g' m' r : Int, 0 ≤ g' → 0 ≤ m' → m' < 2147483648 → 0 ≤ r → r < n → Q (.int r) (put M b (.lst [.int g', .int m']))
def spTake : DSp := fun ds M Q _ => ∃ (b : Addr) (n : Int), ds = [.ref b, .int n] ∧ M b = some .bag ∧ 0 < n ∧ n < 1073741824 ∧ ∀ r : Int, 0 ≤ r → r < n → Q (.int r) M
def spBagL : DSp := fun ds M Q _ => ∃ (ns : List Int) (i : Int), ds = [.scr ns, .int i] ∧ 0 ≤ i ∧ i < 10000 ∧ ∀ (p : Addr) (g m : Int), M p = none → 0 ≤ g → 0 ≤ m → m < 2147483648 → Q (.ref p) (put M p (.lst [.int g, .int m]))
def spBag : DSp := fun ds M Q _ => ∃ (ns : List Int) (i : Int), ds = [.scr ns, .int i] ∧ 0 ≤ i ∧ i < 10000 ∧ ∀ p : Addr, M p = none → Q (.ref p) (put M p .bag)
theorem cpow_small {i : Int} {j : Nat} (h0 : 0 ≤ i) (h1 : i < 18446744073709551616) (hj : j ≤ 1000000) : CPow i (j : Int) := by
  refine ⟨by omega, by omega, ?_⟩
  have e : (2 : Nat) ^ 64 = 18446744073709551616 := by decide
  omega
theorem mem_bag {K : PySem.W.Frag} {G H : Hp} {M : Mst} {b : Addr} {g m : Int} (hm : MemOk K G H M) (h : M b = some (.lst [.int g, .int m])) (h0 : 0 ≤ g) (h1 : 0 ≤ m) (h2 : m < 2147483648) : MemOk K G H (put M b .bag) := fun a o e => by
  by_cases z : a = b
  · subst z
    rw [put_same] at e; cases e
    obtain ⟨gn, vs, q1, ⟨v, r, rfl, q2, ⟨u, r2, rfl, q3, q4⟩⟩, _⟩ := hm _ _ h
    cases q2; cases q3; cases q4
    exact ⟨gn, g, m, q1, h0, h1, h2⟩
  · rw [put_ne z] at e; exact hm a o e
theorem bag_mem {K : PySem.W.Frag} {G H : Hp} {M : Mst} {b : Addr} (hm : MemOk K G H M) (h : M b = some .bag) : ∃ g m : Int, 0 ≤ g ∧ 0 ≤ m ∧ m < 2147483648 ∧ MemOk K G H (put M b (.lst [.int g, .int m])) := by
  obtain ⟨gn, g, m, q1, q2, q3, q4⟩ := hm _ _ h
  refine ⟨g, m, q2, q3, q4, fun a o e => ?_⟩
  by_cases z : a = b
  · subst z
    rw [put_same] at e; cases e
    exact ⟨gn, _, q1, ⟨_, _, rfl, rfl, _, _, rfl, rfl, rfl⟩, sz1000 (by simp)⟩
  · rw [put_ne z] at e; exact hm a o e
theorem imp_take {K : PySem.W.Frag} {vs : List V} {H : Hp} {Q : VK} {E : XK} (h : toSp K spTake vs H Q E) : toSp K spTakeL vs H Q E := by
  obtain ⟨G, ds, M, Qd, Ed, e, r, hm, ⟨b, n, rfl, hb, h0, h1, k⟩, kq, ke⟩ := h
  obtain ⟨g, m, g1, g2, g3, hm'⟩ := bag_mem hm hb
  refine ⟨G, _, _, fun d M' => ∃ g' m' : Int, M' b = some (.lst [.int g', .int m']) ∧ 0 ≤ g' ∧ 0 ≤ m' ∧ m' < 2147483648 ∧ Qd d (put M' b .bag), Ed, e, r, hm', ⟨b, g, m, n, rfl, put_same, g1, g2, g3, h0, h1, fun g' m' r a1 a2 a3 a4 a5 => ?_⟩, fun G' H' v d M' e1 e2 r1 hm1 q => ?_, fun G' H' x cls dx M' e1 e2 r1 hm1 q => ke G' H' x cls dx M' e1 e2 r1 hm1 q⟩
  · refine ⟨g', m', put_same, a1, a2, a3, ?_⟩
    rw [put_put, put_put, put_id hb]
    exact k r a4 a5
  · obtain ⟨g', m', q0, q1, q2, q3, q4⟩ := q
    exact kq G' H' v d _ e1 e2 r1 (mem_bag hm1 q0 q1 q2 q3) q4
theorem imp_bag {K : PySem.W.Frag} {vs : List V} {H : Hp} {Q : VK} {E : XK} (h : toSp K spBag vs H Q E) : toSp K spBagL vs H Q E := by
  obtain ⟨G, ds, M, Qd, Ed, e, r, hm, ⟨ns, i, rfl, h0, h1, k⟩, kq, ke⟩ := h
  refine ⟨G, _, _, fun d M' => ∃ (b : Addr) (g' m' : Int), d = .ref b ∧ M' b = some (.lst [.int g', .int m']) ∧ 0 ≤ g' ∧ 0 ≤ m' ∧ m' < 2147483648 ∧ Qd d (put M' b .bag), Ed, e, r, hm, ⟨ns, i, rfl, h0, h1, fun p g m hp a1 a2 a3 => ⟨p, g, m, rfl, put_same, a1, a2, a3, ?_⟩⟩, fun G' H' v d M' e1 e2 r1 hm1 q => ?_, fun G' H' x cls dx M' e1 e2 r1 hm1 q => ke G' H' x cls dx M' e1 e2 r1 hm1 q⟩
  · rw [put_put]
    exact k p hp
  · obtain ⟨b, g', m', rfl, q0, q1, q2, q3, q4⟩ := q
    exact kq G' H' v _ _ e1 e2 r1 (mem_bag hm1 q0 q1 q2 q3) q4
end DL

/-! DLk: the numbers that every law takes out of its script. -/
namespace DL
open PySem L2
def qTakeR : DTS :=
  (qSeq (qIfS (qTB (qOp (dCmpI fun i j => decide (j < i)) (qOp dIx (qVar 0) (qC (.int 0))) (qC (.int 0))))
  (qSeq (qAsg (qOp (dInt (fun _ j => 0 < j) fun i j => i % j) (qOp dIx (qVar 0) (qC (.int 0))) (qVar 1)) (gNameD 2))
  (qSeq (qAsg (qOp (dInt CDiv fun i j => i / j) (qOp dIx (qVar 0) (qC (.int 0))) (qVar 1)) (gSubD (qVar 0) (qC (.int 0))))
  (qRet (qVar 2))))
  qNext)
  (qSeq (qAsg (qOp (dInt (fun _ j => 0 < j) fun i j => i % j) (qOp (dAdd false) (qOp (dInt CMul fun i j => i * j) (qOp dIx (qVar 0) (qC (.int 1))) (qC (.int 48271))) (qC (.int 11))) (qC (.int 2147483647))) (gSubD (qVar 0) (qC (.int 1))))
  (qRet (qOp (dInt (fun _ j => 0 < j) fun i j => i % j) (qOp (dInt (fun _ j => 0 < j) fun i j => i % j) (qOp (dInt CPow fun i j => i ^ j.toNat) (qOp (dInt CDiv fun i j => i / j) (qOp dIx (qVar 0) (qC (.int 1))) (qC (.int 8))) (qC (.int 3))) (qC (.int 2147483629))) (qVar 1)))))
def qBagR : DTS :=
  (qSeq (qAsg (qC (.int 0)) (gNameD 2))
  (qSeq (qIfS (qTB (qOp (dCmpI fun i j => decide (j < i)) (qCB dLen (qCons (qVar 0) qNil)) (qC (.int 0))))
  (qAsg (qOp dIx (qVar 0) (qOp (dInt (fun _ j => 0 < j) fun i j => i % j) (qVar 1) (qCB dLen (qCons (qVar 0) qNil)))) (gNameD 2))
  qNext)
  (qSeq (qAsg (qC (.int 0)) (gNameD 3))
  (qSeq (qIfS (qAnd (qTB (qOp (dCmpI fun i j => decide (j ≤ i)) (qCB dAbs (qCons (qVar 2) qNil)) (qOp (dInt CPow fun i j => i ^ j.toNat) (qC (.int 10)) (qC (.int 18))))) (qTB (qOp (dCmpI fun i j => decide (i < j)) (qVar 1) (qCB dLen (qCons (qVar 0) qNil)))))
  (qAsg (qCB dAbs (qCons (qVar 2) qNil)) (gNameD 3))
  qNext)
  (qSeq (qAsg (qTup (qCons (qC (.int 2147483629)) (qCons (qC (.int 2147483587)) (qCons (qC (.int 2147483579)) (qCons (qC (.int 2147483563)) (qCons (qC (.int 2147483549)) (qCons (qC (.int 2147483543)) (qCons (qC (.int 2147483497)) (qCons (qC (.int 2147483489)) qNil))))))))) (gNameD 4))
  (qRet (qLst true (qCons (qVar 3) (qCons (qOp (dInt (fun _ j => 0 < j) fun i j => i % j) (qOp (dInt CPow fun i j => i ^ j.toNat) (qOp (dAdd false) (qOp (dAdd false) (qOp (dInt (fun _ j => 0 < j) fun i j => i % j) (qVar 2) (qC (.int 2147483647))) (qOp (dInt CMul fun i j => i * j) (qC (.int 104729)) (qVar 1))) (qC (.int 7))) (qC (.int 5))) (qOp dIx (qVar 4) (qOp (dInt (fun _ j => 0 < j) fun i j => i % j) (qVar 1) (qC (.int 8))))) qNil)))))))))
theorem take_ok (ds : List D) (M : Mst) (Q : DK) (Ed : DX → Mst → Prop) (h : upSp spTakeL ds M Q Ed) : qTakeR (fun x _ M => Ed x M) (retE Q) (startD ["_law_bag_here", "_law_many", "_law_digit"] ds) M := by
  obtain ⟨Q0, E0, ⟨b, g, m, n, rfl, hb, g0, m0, m1, n0, n1, k0⟩, kq, _⟩ := h
  have k : ∀ g' m' r : Int, 0 ≤ g' → 0 ≤ m' → m' < 2147483648 → 0 ≤ r → r < n → Q (.int r) (put M b (.lst [.int g', .int m'])) := fun g' m' r a1 a2 a3 a4 a5 => kq _ _ _ (Sub.refl _) (k0 g' m' r a1 a2 a3 a4 a5)
  have ix0 : ∀ (g m : Int) (M : Mst) (Q : DK), M b = some (.lst [.int g, .int m]) → dIx (.ref b) (.int 0) M Q = Q (.int g) M := fun g m M Q h => ix_r h atI_0
  have ix1 : ∀ (g m : Int) (M : Mst) (Q : DK), M b = some (.lst [.int g, .int m]) → dIx (.ref b) (.int 1) M Q = Q (.int m) M := fun g m M Q h => ix_r h atI_1
  have st0 : ∀ (g m : Int) (M : Mst) (v : D) (R : Mst → Prop), M b = some (.lst [.int g, .int m]) → dSet (.ref b) (.int 0) v M R = R (put M b (.lst [v, .int m])) := fun g m M v R h => set_l h (j := 0) rfl
  have st1 : ∀ (g m : Int) (M : Mst) (v : D) (R : Mst → Prop), M b = some (.lst [.int g, .int m]) → dSet (.ref b) (.int 1) v M R = R (put M b (.lst [.int g, v])) := fun g m M v R h => set_l h (j := 1) rfl
  simp only [qTakeR, startD, qSeq, qIfS, qTB, qOp, qVar, qC, qAsg, gNameD, gSub_eq, qRet, qNext, retE]
  simp
  rw [ix0 g m M _ hb]
  simp [dCmpI]
  split
  · rw [ix0 g m M _ hb]
    simp [dInt, n0]
    rw [ix0 g m M _ hb]
    simp [CDiv, n0, n1]
    rw [st0 g m M _ _ hb]
    exact k _ _ _ (Int.ediv_nonneg g0 (by omega)) m0 m1 (Int.emod_nonneg _ (by omega)) (Int.emod_lt_of_pos _ n0)
  · have c1 : CMul m 48271 := .inr ⟨by decide, by decide⟩
    rw [ix1 g m M _ hb]
    simp [dInt, dAdd, c1]
    rw [st1 g m M _ _ hb]
    have z0 := Int.emod_nonneg (m * 48271 + 11) (show (2147483647 : Int) ≠ 0 by decide)
    have z1 := Int.emod_lt_of_pos (m * 48271 + 11) (show (0 : Int) < 2147483647 by decide)
    generalize (m * 48271 + 11) % 2147483647 = m2 at z0 z1 ⊢
    rw [ix1 g m2 _ _ put_same]
    have c2 : CDiv m2 8 := ⟨by decide, by decide⟩
    have c3 : CPow (m2 / 8) 3 := cpow_small (j := 3) (by omega) (by omega) (by decide)
    simp [c2, c3, n0]
    exact k _ _ _ g0 z0 (by omega) (Int.emod_nonneg _ (by omega)) (Int.emod_lt_of_pos _ n0)
theorem natMod {i : Int} {n : Nat} (h0 : 0 ≤ i) (hn : 0 < n) : 0 ≤ i % (n : Int) ∧ i % (n : Int) < n := ⟨Int.emod_nonneg _ (by omega), Int.emod_lt_of_pos _ (by omega)⟩
def bagTail : DTS :=
  (qSeq (qAsg (qTup (qCons (qC (.int 2147483629)) (qCons (qC (.int 2147483587)) (qCons (qC (.int 2147483579)) (qCons (qC (.int 2147483563)) (qCons (qC (.int 2147483549)) (qCons (qC (.int 2147483543)) (qCons (qC (.int 2147483497)) (qCons (qC (.int 2147483489)) qNil))))))))) (gNameD 4))
  (qRet (qLst true (qCons (qVar 3) (qCons (qOp (dInt (fun _ j => 0 < j) fun i j => i % j) (qOp (dInt CPow fun i j => i ^ j.toNat) (qOp (dAdd false) (qOp (dAdd false) (qOp (dInt (fun _ j => 0 < j) fun i j => i % j) (qVar 2) (qC (.int 2147483647))) (qOp (dInt CMul fun i j => i * j) (qC (.int 104729)) (qVar 1))) (qC (.int 7))) (qC (.int 5))) (qOp dIx (qVar 4) (qOp (dInt (fun _ j => 0 < j) fun i j => i % j) (qVar 1) (qC (.int 8))))) qNil)))))
theorem bag_end (c gr i : Int) (ns : List Int) (M : Mst) (Q : DK) (Ed : DX → Mst → Prop) (i0 : 0 ≤ i) (i1 : i < 10000) (g0 : 0 ≤ gr) (k : ∀ (p : Addr) (g m : Int), M p = none → 0 ≤ g → 0 ≤ m → m < 2147483648 → Q (.ref p) (put M p (.lst [.int g, .int m]))) (x5 : Option D) :
    bagTail (fun x _ M => Ed x M) (retE Q) [some (.scr ns), some (.int i), some (.int c), some (.int gr), x5] M := by
  simp only [bagTail, qSeq, qIfS, qTB, qOp, qVar, qC, qAsg, gNameD, qRet, qTup, qLst, qCons, qNil, retE, List.set_cons_zero, List.set_cons_succ, List.getElem?_cons_zero, List.getElem?_cons_succ, dInt_i, dAdd_i, newL_t]
  have z0 := Int.emod_nonneg c (show (2147483647 : Int) ≠ 0 by decide)
  have z1 := Int.emod_lt_of_pos c (show (0 : Int) < 2147483647 by decide)
  generalize c % 2147483647 = c2 at z0 z1 ⊢
  refine ⟨by simp, by decide, .inl ⟨by decide, by decide⟩, cpow_small (j := 5) (by omega) (by omega) (by decide), by decide, ?_⟩
  generalize (c2 + 104729 * i + 7) ^ Int.toNat 5 = big
  obtain ⟨x, hx, hm⟩ := atI_some (xs := [D.int 2147483629, .int 2147483587, .int 2147483579, .int 2147483563, .int 2147483549, .int 2147483543, .int 2147483497, .int 2147483489]) (i := i % 8) (Int.emod_nonneg _ (by decide)) (Int.emod_lt_of_pos _ (by decide))
  rw [ix_t hx]
  have : ∃ q : Int, x = .int q ∧ 0 < q ∧ q < 2147483648 := by
    simp only [List.mem_cons, List.not_mem_nil, or_false] at hm
    rcases hm with h | h | h | h | h | h | h | h <;> exact ⟨_, h, by decide, by decide⟩
  obtain ⟨q, rfl, q0, q1⟩ := this
  refine ⟨q0, by simp, fun p hp => k p _ _ hp g0 (Int.emod_nonneg _ (by omega)) ?_⟩
  have := Int.emod_lt_of_pos big q0
  show big % q < _
  omega
def bagMid (a b : Int) : DTS := (qSeq (qAsg (qC (.int 0)) (gNameD 3))
  (qSeq (qIfS (qAnd (qTB (qOp (dCmpI fun i j => decide (j ≤ i)) (qCB dAbs (qCons (qVar 2) qNil)) (qOp (dInt CPow fun i j => i ^ j.toNat) (qC (.int a)) (qC (.int b))))) (qTB (qOp (dCmpI fun i j => decide (i < j)) (qVar 1) (qCB dLen (qCons (qVar 0) qNil)))))
  (qAsg (qCB dAbs (qCons (qVar 2) qNil)) (gNameD 3))
  qNext) bagTail))
theorem set3_ (a b c d : D) (x : Int) : [some a, some b, some (.int x), some c, none].set 3 (some d) = [some a, some b, some (.int x), some d, none] := rfl
theorem abs_set (DW : DWt) (DE : DEnds) (a b c d : D) (x : Int) (M : Mst) : qAsg (qCB dAbs (qCons (qVar 2) qNil)) (gNameD 3) DW DE [some a, some b, some (.int x), some c, none] M = DE.nx [some a, some b, some (.int x), some (.int (if x < 0 then -x else x)), none] M := by
  unfold qAsg qCB qCons qNil gNameD qVar
  simp only [List.getElem?_cons_zero, List.getElem?_cons_succ]
  rw [dAbs_i, set3_]
theorem bag_mid (ns : List Int) (i : Int) (M : Mst) (Q : DK) (Ed : DX → Mst → Prop) (i0 : 0 ≤ i) (i1 : i < 10000) (k : ∀ (p : Addr) (g m : Int), M p = none → 0 ≤ g → 0 ≤ m → m < 2147483648 → Q (.ref p) (put M p (.lst [.int g, .int m])))
    (a b : Int) (hab : CPow a b) (c : Int) : bagMid a b (fun x _ M => Ed x M) (retE Q) [some (.scr ns), some (.int i), some (.int c), none, none] M := by
  simp only [bagMid, qSeq, qAsg, qC, gNameD, List.set_cons_zero, List.set_cons_succ]
  simp only [qIfS, qAnd, qTB, qOp]
  simp only [qCB, qCons, qVar, List.getElem?_cons_zero, List.getElem?_cons_succ]
  simp only [qNil, qC, dAbs_i, dInt_i, dCmpI_i, len_s', qNext]
  have ab : 0 ≤ if c < 0 then -c else c := by split <;> omega
  refine ⟨hab, ?_⟩
  have no : bagTail (fun x _ M => Ed x M) (retE Q) [some (.scr ns), some (.int i), some (.int c), some (.int 0), none] M := bag_end c 0 i ns M Q Ed i0 i1 (by omega) k none
  have yes : ∀ g : Int, 0 ≤ g → bagTail (fun x _ M => Ed x M) (retE Q) [some (.scr ns), some (.int i), some (.int c), some (.int g), none] M := fun g hg => bag_end c g i ns M Q Ed i0 i1 hg k none
  generalize bagTail = tail at no yes ⊢
  have y2 := yes _ ab
  by_cases h1 : decide (a ^ b.toNat ≤ if c < 0 then -c else c) = true
  · rw [if_pos h1]
    by_cases h2 : decide (i < (ns.length : Int)) = true
    · rw [if_pos h2]
      rw [abs_set _ _ _ _ _ .non]; exact y2
    · rw [if_neg h2]; exact no
  · rw [if_neg h1, if_neg Bool.false_ne_true]; exact no
theorem bag_ok (ds : List D) (M : Mst) (Q : DK) (Ed : DX → Mst → Prop) (h : upSp spBagL ds M Q Ed) : qBagR (fun x _ M => Ed x M) (retE Q) (startD ["_law_script", "_law_at", "_law_cell", "_law_great", "_law_primes"] ds) M := by
  obtain ⟨Q0, E0, ⟨ns, i, rfl, i0, i1, k0⟩, kq, _⟩ := h
  have k : ∀ (p : Addr) (g m : Int), M p = none → 0 ≤ g → 0 ≤ m → m < 2147483648 → Q (.ref p) (put M p (.lst [.int g, .int m])) := fun p g m a1 a2 a3 a4 => kq _ _ _ (Sub.refl _) (k0 p g m a1 a2 a3 a4)
  have part := bag_mid ns i M Q Ed i0 i1 k 10 18 (cpow_small (j := 18) (by omega) (by omega) (by omega))
  show qSeq (qAsg (qC (.int 0)) (gNameD 2)) (qSeq (qIfS (qTB (qOp (dCmpI fun i j => decide (j < i)) (qCB dLen (qCons (qVar 0) qNil)) (qC (.int 0))))
  (qAsg (qOp dIx (qVar 0) (qOp (dInt (fun _ j => 0 < j) fun i j => i % j) (qVar 1) (qCB dLen (qCons (qVar 0) qNil)))) (gNameD 2))
  qNext) (bagMid 10 18)) _ _ [some (.scr ns), some (.int i), none, none, none] M
  generalize bagMid 10 18 = mid at part ⊢
  by_cases h : ns.length = 0
  · simp only [qSeq, qIfS, qTB, qOp, qVar, qC, qAsg, gNameD, qCB, qCons, qNil, qNext, List.set_cons_zero, List.set_cons_succ, List.getElem?_cons_zero, List.getElem?_cons_succ, dCmpI_i, len_s']
    rw [if_neg (by simp [h])]
    exact part 0
  · have hp : 0 < ns.length := Nat.pos_of_ne_zero h
    simp only [qSeq, qIfS, qTB, qOp, qVar, qC, qAsg, gNameD, qCB, qCons, qNil, qNext, List.set_cons_zero, List.set_cons_succ, List.getElem?_cons_zero, List.getElem?_cons_succ, dCmpI_i, dInt_i, len_s']
    rw [if_pos (by simpa using hp)]
    obtain ⟨x, hx, _⟩ := atI_some (xs := ns) (i := i % (ns.length : Int)) (Int.emod_nonneg _ (by omega)) (Int.emod_lt_of_pos _ (by omega))
    rw [ix_s hx]
    exact ⟨by omega, part x⟩
end DL

/-! DLm: loops and comprehensions by an invariant. -/
namespace DL
open PySem L2
inductive All2 {α β : Type} (P : α → β → Prop) : List α → List β → Prop
  | nil : All2 P [] []
  | cons {a b as bs} : P a b → All2 P as bs → All2 P (a :: as) (b :: bs)
theorem All2.length {α β : Type} {P : α → β → Prop} {as : List α} {bs : List β} (h : All2 P as bs) : bs.length = as.length := by
  induction h with
  | nil => rfl
  | cons _ _ ih => simp [ih]
theorem All2.eq_map {α β : Type} {f : α → β} {as : List α} {bs : List β} (h : All2 (fun a b => b = f a) as bs) : bs = as.map f := by
  induction h with
  | nil => rfl
  | cons h _ ih => rw [h, ih]; rfl
theorem All2.get {α β : Type} {P : α → β → Prop} {as : List α} {bs : List β} (h : All2 P as bs) : ∀ (i : Nat) (a : α), as[i]? = some a → ∃ b, bs[i]? = some b ∧ P a b := by
  induction h with
  | nil => intro i a e; simp at e
  | cons h _ ih =>
    intro i a e
    cases i with
    | zero => simp at e; subst e; exact ⟨_, rfl, h⟩
    | succ i => simp at e; obtain ⟨b, h1, h2⟩ := ih i a e; exact ⟨b, by simpa using h1, h2⟩
theorem compL_rel {m : Bool} {Sty : Mst → Prop} {g : DTG} {tt : DTT} {te : DTE} {ix : List Nat} {a : Addr} {p : Rho} {Q : DK} {M : Mst} (hm : M a = none) (P : D → Option D → Prop) (hS : ∀ acc, Sty (put M a (.lst acc))) :
    ∀ (ds acc : List D), acc.length + ds.length ≤ 100000 →
      (∀ d ∈ ds, ∀ (acc : List D) (R : Option D → Mst → Prop), (∀ o, P d o → R o (put M a (.lst acc))) → g d DW0 (wipeD p ix) (put M a (.lst acc)) fun p2 M2 => tt DW0 p2 M2 fun b M3 => if b = true then te DW0 p2 M3 fun y M4 => R (some y) M4 else R none M3) →
      (∀ os : List (Option D), All2 P ds os → if m = true then Q (.ref a) (put M a (.lst (acc ++ os.filterMap id))) else Q (.lst (acc ++ os.filterMap id)) M) → compL m Sty g tt te ix a p Q ds (put M a (.lst acc))
  | [], acc, _, _, fin => by
    have := fin [] .nil
    refine ⟨hS acc, ?_⟩
    rw [put_same]
    simp only [List.filterMap_nil, List.append_nil] at this
    cases m with
    | true => exact this
    | false =>
      rw [if_neg Bool.false_ne_true] at this
      show (if false = true then Q (.ref a) (put M a (.lst acc)) else Q (.lst acc) (del (put M a (.lst acc)) a))
      rw [if_neg Bool.false_ne_true, del_put hm]; exact this
  | d :: ds, acc, hl, step, fin => by
    refine ⟨hS acc, ?_⟩
    simp only [List.length_cons] at hl
    have ih := compL_rel (m := m) (Sty := Sty) (g := g) (tt := tt) (te := te) (ix := ix) (p := p) (Q := Q) hm P hS ds
    refine step d (List.mem_cons_self ..) acc (fun o M' => match o with
      | some y => (match M' a with
        | some (.lst acc) => acc.length < 100000 ∧ compL m Sty g tt te ix a p Q ds (put M' a (.lst (acc ++ [y])))
        | _ => False)
      | none => compL m Sty g tt te ix a p Q ds M') fun o ho => ?_
    cases o with
    | some y =>
      simp only [put_same, put_put]
      refine ⟨by omega, ih (acc ++ [y]) (by simp; omega) (fun d hd => step d (List.mem_cons_of_mem _ hd)) fun os hos => ?_⟩
      have := fin (some y :: os) (.cons ho hos)
      simpa [List.filterMap_cons] using this
    | none =>
      refine ih acc (by omega) (fun d hd => step d (List.mem_cons_of_mem _ hd)) fun os hos => ?_
      have := fin (none :: os) (.cons ho hos)
      simpa [List.filterMap_cons] using this
/-- a comprehension of every item's own value -/
theorem compL_map {m : Bool} {Sty : Mst → Prop} {g : DTG} {tt : DTT} {te : DTE} {ix : List Nat} {a : Addr} {p : Rho} {Q : DK} {M : Mst} (hm : M a = none) (f : D → Option D) (hS : ∀ acc, Sty (put M a (.lst acc)))
    {ds : List D} (hl : ds.length ≤ 100000)
    (step : ∀ d ∈ ds, ∀ (acc : List D) (R : Option D → Mst → Prop), R (f d) (put M a (.lst acc)) → g d DW0 (wipeD p ix) (put M a (.lst acc)) fun p2 M2 => tt DW0 p2 M2 fun b M3 => if b = true then te DW0 p2 M3 fun y M4 => R (some y) M4 else R none M3)
    (fin : if m = true then Q (.ref a) (put M a (.lst (ds.filterMap f))) else Q (.lst (ds.filterMap f)) M) : compL m Sty g tt te ix a p Q ds (put M a (.lst [])) := by
  refine compL_rel hm (fun d o => o = f d) hS ds [] (by simpa using hl) (fun d hd acc R h => step d hd acc R (h _ rfl)) fun os hos => ?_
  rw [hos.eq_map]
  have e : (ds.map f).filterMap id = ds.filterMap f := by rw [List.filterMap_map]; rfl
  simpa [e] using fin
theorem loopL_inv {Sty : Mst → Prop} {g : DTG} {tb : DTS} {DW : DWt} {DE : DEnds} (I : Nat → Rho → Mst → Prop) {ds : List D} {n : Nat} (hn : n = ds.length)
    (step : ∀ i d p M (R : Rho → Mst → Prop), ds[i]? = some d → I i p M → (∀ p' M', I (i + 1) p' M' → R p' M') → Sty M ∧ g d DW p M fun p' M' => tb DW { DE with nx := R, ct := R, bk := DE.nx } p' M')
    (fin : ∀ p M, I n p M → Sty M ∧ DE.nx p M) {p : Rho} {M : Mst} (h : I 0 p M) : loopL Sty g tb DW DE ds p M := by
  have main : ∀ k i p M, i + k = ds.length → I i p M → loopL Sty g tb DW DE (ds.drop i) p M := by
    intro k
    induction k with
    | zero =>
      intro i p M e h
      have e' : i = ds.length := by omega
      subst e'
      rw [List.drop_length]
      exact fin p M (by rw [hn]; exact h)
    | succ k ih =>
      intro i p M e h
      have hi : i < ds.length := by omega
      rw [List.drop_eq_getElem_cons hi]
      exact step i ds[i] p M _ (List.getElem?_eq_getElem hi) h fun p' M' h' => ih (i + 1) p' M' (by omega) h'
  simpa using main ds.length 0 p M (by omega) h
theorem while_inv {qc : DTT} {tb : DTS} {DW : DWt} {DE : DEnds} (I : Nat → Rho → Mst → Prop)
    (step : ∀ n p M (R : Rho → Mst → Prop), I n p M → (∀ n' p' M', n' < n → I n' p' M' → R p' M') → qc DW p M fun b M1 => if b = true then tb DW { DE with nx := R, ct := R, bk := DE.nx } p M1 else DE.nx p M1)
    {n : Nat} {p : Rho} {M : Mst} (h : I n p M) : qWhile qc tb DW DE p M := by
  have main : ∀ N n p M, n < N → I n p M → whileL qc tb DW DE N p M := by
    intro N
    induction N with
    | zero => intro n p M h; omega
    | succ N ih =>
      intro n p M h hI
      exact step n p M _ hI fun n' p' M' hn h' => ih n' p' M' (by omega) h'
  exact ⟨n + 1, main (n + 1) n p M (by omega) h⟩

/-! ### helpers -/
theorem isDataL_all : ∀ ds : List D, isDataL ds = ds.all isData
  | [] => rfl
  | d :: ds => by simp [isDataL, isDataL_all ds]
theorem dep_nil : dep (.lst []) ≤ 64 := by decide
theorem deq_nil (xs : List D) : deq (.lst xs) (.lst []) = xs.isEmpty := by
  unfold deq
  cases xs <;> simp [pyd, pydL, PyData.eqv, PyData.eqvAll]
theorem eq_nil {neg : Bool} {x : D} {ds : List D} {M : Mst} {Q : DK} (hx : res M x = .lst ds) (h : ds.all isData = true) : dEq neg x (.lst []) M Q = Q (.bl (xor neg ds.isEmpty)) M := by
  unfold dEq
  rw [hx, res_lst, deq_nil]
  have h1 : isData (.lst ds) = true := by rw [isData, isDataL_all]; exact h
  have h2 : isData (.lst []) = true := rfl
  have h3 : min (dep (.lst ds)) (dep (.lst [])) ≤ 64 := Nat.le_trans (Nat.min_le_right _ _) dep_nil
  simp [h1, h2, h3]
theorem deq_int (i j : Int) : deq (.int i) (.int j) = decide (i = j) := by
  unfold deq; simp only [pyd, PyData.eqv]
  exact Bool.beq_eq_decide_eq _ _
theorem eq_int {neg : Bool} {i j : Int} {M : Mst} {Q : DK} : dEq neg (.int i) (.int j) M Q = Q (.bl (xor neg (decide (i = j)))) M := by
  unfold dEq
  rw [res_int, res_int, deq_int]
  have h1 : isData (.int i) = true := rfl
  have h2 : isData (.int j) = true := rfl
  have h3 : min (dep (.int i)) (dep (.int j)) ≤ 64 := by simp [dep, pyd, PyData.depth]
  simp [h1, h2, h3]
theorem res_r {M : Mst} {a : Addr} {ds : List D} (h : M a = some (.lst ds)) : res M (.ref a) = .lst ds := by simp [res, h]
theorem res_d {M : Mst} {a : Addr} {kvs : List (Key × D)} (h : M a = some (.dK kvs)) : res M (.ref a) = .dct (kvs.map (·.1)) (kvs.map (·.2)) := by simp [res, h]
/-- the places of what a test lets by -/
def placesF (f : D → Bool) : Nat → List D → List Nat
  | _, [] => []
  | s, d :: ds => if f d = true then s :: placesF f (s + 1) ds else placesF f (s + 1) ds
theorem mem_places {f : D → Bool} : ∀ {s : Nat} {ds : List D} {v : Nat}, v ∈ placesF f s ds ↔ s ≤ v ∧ ∃ d, ds[v - s]? = some d ∧ f d = true
  | s, [], v => by simp [placesF]
  | s, d :: ds, v => by
    unfold placesF
    have ih := mem_places (f := f) (s := s + 1) (ds := ds) (v := v)
    have sh : s + 1 ≤ v → v - s = (v - (s + 1)) + 1 := by omega
    split
    · next h =>
      rw [List.mem_cons, ih]
      constructor
      · rintro (rfl | ⟨h1, x, h2, h3⟩)
        · exact ⟨Nat.le_refl _, d, by simp, h⟩
        · exact ⟨by omega, x, by rw [sh h1]; simpa using h2, h3⟩
      · rintro ⟨h1, x, h2, h3⟩
        by_cases e : v = s
        · exact .inl e
        · have : s + 1 ≤ v := by omega
          exact .inr ⟨this, x, by rw [sh this] at h2; simpa using h2, h3⟩
    · next h =>
      rw [ih]
      constructor
      · rintro ⟨h1, x, h2, h3⟩
        exact ⟨by omega, x, by rw [sh h1]; simpa using h2, h3⟩
      · rintro ⟨h1, x, h2, h3⟩
        by_cases e : v = s
        · subst e; simp at h2; subst h2; exact absurd h3 h
        · have : s + 1 ≤ v := by omega
          exact ⟨this, x, by rw [sh this] at h2; simpa using h2, h3⟩
theorem places_len {f : D → Bool} : ∀ {s : Nat} {ds : List D}, (placesF f s ds).length ≤ ds.length
  | s, [] => Nat.le_refl _
  | s, d :: ds => by
    have := places_len (f := f) (s := s + 1) (ds := ds)
    unfold placesF
    split <;> simp <;> omega
theorem enum_places {f : D → Bool} {g : D → Option D} (hg : ∀ i d, g (.tup [.int i, d]) = if f d = true then some (.int i) else none) : ∀ (s : Nat) (ds : List D), (enumD s ds).filterMap g = (placesF f s ds).map fun v : Nat => D.int (v : Int)
  | s, [] => rfl
  | s, d :: ds => by
    unfold enumD placesF
    rw [List.filterMap_cons, hg]
    have ih := enum_places hg (s + 1) ds
    split
    · next h => simp [ih]; split at h <;> simp_all
    · next b h => split at h <;> simp_all

theorem cut_from {α : Type} (xs : List α) (k : Nat) : cutX xs (some (k : Int)) none = xs.drop k := by
  unfold cutX
  rw [HT.sIx_nat, HT.sIx_none]
  rcases Nat.le_total k xs.length with h | h
  · rw [Nat.min_eq_left h, List.take_of_length_le (by simp)]
  · rw [Nat.min_eq_right h, List.drop_length, List.drop_eq_nil_of_le h]; simp
theorem cut_to {α : Type} (xs : List α) (k : Nat) : cutX xs none (some (k : Int)) = xs.take k := by
  unfold cutX
  rw [HT.sIx_nat, HT.sIx_none, Nat.sub_zero, List.drop_zero]
  rcases Nat.le_total k xs.length with h | h
  · rw [Nat.min_eq_left h]
  · rw [Nat.min_eq_right h, List.take_length, List.take_of_length_le h]
theorem sl_from {m : Bool} {ds : List D} {k : Nat} {M : Mst} {Q : DK} : dSl m (.lst ds) (some (k : Int)) none M Q = newL m (ds.drop k) M Q := by
  simp only [dSl, res_lst, cut_from]
theorem sl_to {m : Bool} {ds : List D} {k : Nat} {M : Mst} {Q : DK} : dSl m (.lst ds) none (some (k : Int)) M Q = newL m (ds.take k) M Q := by
  simp only [dSl, res_lst, cut_to]
theorem any_ints (i : Int) (ns : List Int) : ((ns.map D.int).any fun e => deq e (.int i)) = decide (i ∈ ns) := by
  induction ns with
  | nil => rfl
  | cons n ns ih =>
    rw [List.map_cons, List.any_cons, ih, deq_int, ← Bool.decide_or]
    apply decide_eq_decide.mpr
    simp [eq_comm]
theorem flat_ints (ns : List Int) : (ns.map D.int).all flatD = true := List.all_eq_true.mpr fun x hx => by
  obtain ⟨n, _, rfl⟩ := List.mem_map.mp hx; rfl
theorem in_ints {neg : Bool} {i : Int} {ns : List Int} {M : Mst} {Q : DK} : dIn neg (.int i) (.lst (ns.map D.int)) M Q = Q (.bl (xor neg (decide (i ∈ ns)))) M := by
  unfold dIn
  simp only [dgetD, res_lst, any_ints, flat_ints]
  simp [flatD]
theorem data_ints (ns : List Int) : (ns.map D.int).all isData = true := List.all_eq_true.mpr fun x hx => by
  obtain ⟨n, _, rfl⟩ := List.mem_map.mp hx; rfl
end DL

/-! DLn: dict.update of a list of pairs; calls with keywords. -/
namespace DL
open PySem L2

/-! ### update -/
section
variable {X : Cx}
theorem pairs_vals {pins : List (Addr × Obj)} {σ : L2.St} {H : Hp} {s : Shared} (I : Inv X pins σ H s) : ∀ {ps : List Addr} {kvs : List (Key × V)}, Paired (fun p kv => SqT X.K H p [kV kv.1, kv.2]) ps kvs →
    ∃ (prs : List (Key × Value)) (vps : List (Value × Value)), KV kvs prs ∧ prs.length = ps.length ∧ vps.length = ps.length ∧
      (∀ (j : Nat) (k v : Value), vps[j]? = some (k, v) → ∃ (b : Addr) (q : Key), ps[j]? = some b ∧ s.heap.IsTuple b #[k, v] ∧ prs[j]? = some (q, v) ∧ keyIs q k = true)
  | _, _, .nil => ⟨[], [], .nil, rfl, rfl, fun j k v e => by simp at e⟩
  | _, _, .cons (a := p) (b := kv) h t => by
    obtain ⟨prs, vps, r, hl, hl2, hp⟩ := pairs_vals I t
    obtain ⟨its, rv, ht, _⟩ := I.tuple h
    obtain ⟨u, y, ei, ru, ry⟩ := vals2 rv
    subst ei
    refine ⟨(kv.1, y) :: prs, (u, y) :: vps, .cons ⟨rfl, ry⟩ r, by simp [hl], by simp [hl2], fun j k v e => ?_⟩
    cases j with
    | zero =>
      have e' : (u, y) = (k, v) := Option.some.inj e
      cases e'
      exact ⟨p, kv.1, rfl, ht, rfl, kV_is (P := X.prog) (w := X.w) ru⟩
    | succ j =>
      obtain ⟨b, q, e1, e2, e3, e4⟩ := hp j k v (by simpa using e)
      exact ⟨b, q, by simpa using e1, e2, by simpa using e3, e4⟩
def rUpdL (K : PySem.W.Frag) : V → List V → Hp → VK → Prop := fun x vs H Q => ∃ (a b : Addr) (kvs : List (Key × V)) (ps : List Addr) (more : List (Key × V)), x = .ref a ∧ vs = [.ref b] ∧ H a = some (.dK kvs) ∧ SqL K H b (ps.map V.ref) ∧
  Paired (fun p kv => SqT K H p [kV kv.1, kv.2]) ps more ∧ kvs.length + more.length ≤ sizeLine ∧ Q .non (upd H a (.dK (mergeK kvs more)))
theorem mt_update (hcalm : X.calm = true) : MtR X "dict.update" (rUpdL X.K) := by
  intro pins s σ H x vs v us Q I rx rv h
  obtain ⟨a, b, kvs, ps, more, rfl, rfl, hH, hq, hp, hl, q⟩ := h
  cases rx
  obtain ⟨u, rfl, ru⟩ := rv.one
  cases ru
  obtain ⟨its, rv2, pl, hz⟩ := I.list hq
  have ei := refs_at rv2
  subst ei
  obtain ⟨prs, vps, rel, l1, l2, hv⟩ := pairs_vals I hp
  obtain ⟨z, hd, acc, racc, dd⟩ := dk_of I.hok hH
  obtain ⟨o, n, ho, hc, hdi, hdat⟩ := pl
  have hm : prs.length = more.length := rel.length.symm
  have nab : ∀ b o, s.heap.get? b = some o → (o.cls = .type "tuple" ∨ o.cls = .type "list") → a ≠ b := fun b o h1 h2 e => by
    subst e
    obtain ⟨o2, h3, h4⟩ := dd.typeIs
    rw [h1] at h3; cases h3
    rw [h4] at h2
    rcases h2 with h2 | h2 <;> (injection h2 with z; exact absurd z (by decide))
  have PI : PairItems s.heap (ps.map Value.ref).toArray (fun j => ps.getD j 0) vps := ⟨by simp [l2], fun j k v e => by
    obtain ⟨t, q2, e1, e2, _, _⟩ := hv j k v e
    have e3 : ps.getD j 0 = t := by simp [List.getD, e1]
    exact ⟨by simp [e1, e3], by show PairAt s.heap (ps.getD j 0) k v; rw [e3]; exact .inl e2⟩⟩
  refine call_update_pairs (knd := mixKind X.prog X.w) (acc := acc) (kvs := prs) (PairArg.list (prog := X.prog) (w := X.w) b (ps.map Value.ref).toArray (fun j => ps.getD j 0) vps) (I.ok.hd hcalm)
    ⟨⟨o, n, ho, hc, hdi, hdat⟩, PI⟩ ?_ ?_ dd ?_ fun h' tk dd' hk => ?_
  · intro e
    rcases List.mem_cons.mp e with e | e
    · exact nab b o ho (.inr hc) e
    · obtain ⟨j, hj, e⟩ := List.mem_map.mp e
      rw [List.mem_range] at hj
      obtain ⟨ob, h1, h2⟩ := ((PI.2 j vps[j].1 vps[j].2 (by rw [List.getElem?_eq_getElem hj])).2).there
      exact nab _ ob h1 h2 e.symm
  · refine ⟨by omega, fun i k v e => ?_⟩
    obtain ⟨t, q2, _, _, e3, e4⟩ := hv i k v e
    exact ⟨q2, e3, e4⟩
  · have := racc.length; omega
  · have hlen : (mergeK kvs more).length ≤ sizeLine := Nat.le_trans (length_mergeK more kvs) hl
    have he : ∃ q, h'.get? a = some q := let ⟨q, _, _, hq, _⟩ := dd'; ⟨q, hq⟩
    refine ⟨.non, _, I.write (t' := tk) (x := a) (e := a) (by rw [hH]; exact True.intro) (.inl rfl) (fun b q hb z => hk b q hb (by simp) z) he (dk_new hlen hd (KV.merge rel racc) dd'), rfl, q⟩
end

def pairsD : List D → Option (List (Key × D))
  | [] => some []
  | .tup [k, v] :: ds => match keyD k, pairsD ds with
    | some k, some r => some ((k, v) :: r)
    | _, _ => none
  | _ :: _ => none
def putAllD (kvs : List (Key × D)) (more : List (Key × D)) : List (Key × D) := more.foldl (fun acc q => putD acc q.1 q.2) kvs
theorem pairsD_of {K : PySem.W.Frag} {G H : Hp} (e : Same G H) : ∀ {ds : List D} {vs : List V} {more : List (Key × D)}, RepL K G ds vs → pairsD ds = some more →
    ∃ (ps : List Addr) (mv : List (Key × V)), vs = ps.map V.ref ∧ Paired (fun p kv => SqT K H p [kV kv.1, kv.2]) ps mv ∧ mv.map (·.1) = more.map (·.1) ∧ RepL K G (more.map (·.2)) (mv.map (·.2)) ∧ ∀ q ∈ more, kOk q.1
  | [], _, more, r, h => by
    cases r; cases h
    exact ⟨[], [], rfl, .nil, rfl, rfl, fun _ h => (by cases h)⟩
  | d :: ds, _, more, ⟨v, vs, e1, r1, r2⟩, h => by
    cases d with
    | tup xs =>
      match xs with
      | [k, x] =>
        simp only [pairsD] at h
        split at h
        · next k' r' hk hr =>
          cases h
          obtain ⟨ps, mv, q1, q2, q3, q4, q5⟩ := pairsD_of e r2 hr
          obtain ⟨a, us, rfl, g1, g2, g3⟩ := r1
          obtain ⟨u, y, rfl, ru, ry⟩ := repL2 g2
          have eu := keyD_of ru hk
          subst eu
          exact ⟨a :: ps, (k', y) :: mv, by rw [e1, q1]; rfl, .cons (.inl (.inl (e _ _ g1))) q2, by simp [q3], RepL.cons ry q4, fun q hq => by
            rcases List.mem_cons.mp hq with rfl | hq
            · exact kOk_of ru hk
            · exact q5 q hq⟩
        · cases h
      | [] => cases h
      | [_] => cases h
      | _ :: _ :: _ :: _ => cases h
    | _ => cases h
theorem putAll_rel {K : PySem.W.Frag} {G : Hp} : ∀ {more : List (Key × D)} {mv : List (Key × V)} {kvs : List (Key × D)} {kv : List (Key × V)}, mv.map (·.1) = more.map (·.1) → RepL K G (more.map (·.2)) (mv.map (·.2)) →
    kv.map (·.1) = kvs.map (·.1) → RepL K G (kvs.map (·.2)) (kv.map (·.2)) → (mergeK kv mv).map (·.1) = (putAllD kvs more).map (·.1) ∧ RepL K G ((putAllD kvs more).map (·.2)) ((mergeK kv mv).map (·.2))
  | [], mv, kvs, kv, h1, r1, h2, r2 => by
    cases mv with
    | nil => exact ⟨h2, r2⟩
    | cons _ _ => cases h1
  | q :: more, mv, kvs, kv, h1, r1, h2, r2 => by
    cases mv with
    | nil => cases h1
    | cons p mv =>
      simp only [List.map_cons, List.cons.injEq] at h1
      obtain ⟨v, r', e, h3, h4⟩ := r1
      simp only [List.map_cons, List.cons.injEq] at e
      obtain ⟨rfl, rfl⟩ := e
      obtain ⟨z1, z2, _⟩ := put_rel (k := q.1) h2 r2 h3
      have e0 : mergeK kv (p :: mv) = mergeK (putK kv q.1 p.2) mv := by rw [← h1.1]; rfl
      rw [e0]
      exact putAll_rel (more := more) (kvs := putD kvs q.1 q.2) h1.2 h4 z1 z2
theorem putAll_keys {P : Key → Prop} : ∀ {more kvs : List (Key × D)}, (∀ q ∈ kvs, P q.1) → (∀ q ∈ more, P q.1) → ∀ q ∈ putAllD kvs more, P q.1
  | [], kvs, h, _ => h
  | q :: more, kvs, h, g => putAll_keys (more := more) (kvs := putD kvs q.1 q.2) (putD_keys h (g q (List.mem_cons_self ..))) fun x hx => g x (List.mem_cons_of_mem _ hx)
def mUpd : DMt := fun x ds M Q => match x, ds with
  | .ref a, [d] => match M a, res M d with
    | some (.dK kvs), .lst es => match pairsD es with
      | some more => kvs.length + more.length ≤ 100000 ∧ Q .non (put M a (.dK (putAllD kvs more)))
      | none => False
    | _, _ => False
  | _, _ => False
theorem m_update {X : Cx} (hc : X.calm = true) : QMt X "dict.update" (rUpdL X.K) mUpd := ⟨mt_update hc, fun G H p M s x v ds vs Q Q' S r1 r2 h k => by
  unfold mUpd at h
  split at h
  · next a d =>
    cases r1
    obtain ⟨u, rfl, r3⟩ := repL1 r2
    split at h
    · next kvs es em ed =>
      split at h
      · next more hm =>
        obtain ⟨hl, h⟩ := h
        obtain ⟨gn, kv, g1, g2, g3, g4, g5⟩ := S.mem _ _ em
        obtain ⟨b, vs, rfl, b1, b2, b3⟩ := as_lst S r3 ed
        obtain ⟨ps, mv, rfl, q2, q3, q4, q5⟩ := pairsD_of S.same b2 hm
        have l1 : kv.length = kvs.length := by have := congrArg List.length g2; simpa using this
        have l2 : mv.length = more.length := by have := congrArg List.length q3; simpa using this
        have hz := sizeLine_eq
        obtain ⟨z1, z2⟩ := putAll_rel q3 q4 g2 g3
        refine ⟨a, b, kv, ps, mv, rfl, rfl, g1, .inl (.inl b1), q2, by omega, ?_⟩
        refine k G _ _ .non _ (Same.refl _) (S.put (mo := .dK (putAllD kvs more)) gn ⟨_, upd_same, z1, z2, ?_, putAll_keys g5 q5⟩) rfl h
        have := length_mergeK mv kv
        omega
      · exact h.elim
    · exact h.elim
  · exact h.elim⟩
/-- d.m(e, ..), d a dict that may change -/
def qBMD (m : DMt) (qo : DTE) (qa : DTA) : DTE := fun DW p M Q => qo DW p M fun x M1 => (∃ a kvs, x = .ref a ∧ M1 a = some (.dK kvs)) ∧ qa DW p M1 fun ds M2 => m x ds M2 Q
section
variable {X : Cx} {W : WX} {o e : Expr} {es : List Expr} {to : TE} {qo : DTE} {t : TA} {qa : DTA} {name : Str} {apos cpos : Pos} {id : String} {r : V → List V → Hp → VK → Prop} {m : DMt}
theorem q_bmD (pa : PlainAttrs "dict") (slot : Slot "dict" name id) (hty : typeOf (.builtin id) = pure (.type "method_descriptor")) (hm : QMt X id r m) (ho : QE X W o to qo) (ha : QA X W (e :: es) t qa)
    (hbase : attributeBase o name X.env (eval o X.env) = eval o X.env := by rfl)
    (hfew : ((backTo cpos (starEach (e :: es) X.env)).all (fun x => !x.1) && (backToKw cpos (keywordEach [] X.env)).all (fun x => x.1.isSome)
      && decide ((e :: es).length + ([] : List Keyword).length + (if ([] : List Keyword).isEmpty then 0 else 1) < 30)) = true := by rfl)
    (hline : (apos.endLine == cpos.line) = true := by rfl) (hs : starEach (e :: es) X.env = (false, eval e X.env) :: starEach es X.env := by rfl) (hplain : (backTo cpos (starEach es X.env)).any (·.1) = false := by rfl) :
    QE X W (.Call (.Attribute o name apos) (e :: es) [] cpos) (tBM X.K "dict" r to t) (qBMD m qo qa) :=
  ⟨pe_bm pa slot hty hm.op ho.pe ha.pe hbase hfew hline hs hplain, fun DW G H p M s Q Q' hw S h k => ho.rf DW G H p M s _ _ hw S h fun G1 H1 M1 x v e1 S1 r1 ⟨⟨a, kvs, ex, em⟩, h1⟩ => ⟨by
    subst ex
    cases r1
    obtain ⟨_, kv, g1, _⟩ := S1.mem _ _ em
    exact .inr (.inr (.inl ⟨rfl, .inl ⟨kv, g1⟩⟩)),
    ha.rf DW G1 H1 p M1 s _ _ (hw.mono e1) S1 h1 fun G2 H2 M2 ds vs e2 S2 r2 h2 => hm.rf G2 H2 p M2 s x v ds vs Q Q' S2 (Rep.mono e2 _ _ r1) r2 h2 fun G' H' M' d w e3 => k G' H' M' d w ((e1.trans e2).trans e3)⟩⟩
end

/-! ### calls with keywords -/
structure QK (X : Cx) (W : WX) (kws : List Keyword) (t : TA) (q : DTA) : Prop where
  pe : PK X kws t
  rf : RefA X.K W t q
def pickL {α : Type} (idx : List Nat) (l : List α) : List α := idx.filterMap (l[·]?)
theorem pick_vals {vs : List V} {us : List Value} (r : Vals vs us) : ∀ idx : List Nat, Vals (pickL idx vs) (pickL idx us)
  | [] => .nil
  | i :: idx => by
    have ih := pick_vals r idx
    unfold pickL at ih ⊢
    rw [List.filterMap_cons, List.filterMap_cons]
    have : (vs[i]? = none ∧ us[i]? = none) ∨ ∃ v u, vs[i]? = some v ∧ us[i]? = some u ∧ RelV v u := by
      clear ih
      induction r generalizing i with
      | nil => exact .inl ⟨rfl, rfl⟩
      | cons h _ ih =>
        cases i with
        | zero => exact .inr ⟨_, _, rfl, rfl, h⟩
        | succ i => simpa using ih i
    rcases this with ⟨e1, e2⟩ | ⟨v, u, e1, e2, e3⟩
    · rw [e1, e2]; exact ih
    · rw [e1, e2]; exact .cons e3 ih
theorem pick_rep {K : PySem.W.Frag} {G : Hp} {ds : List D} {vs : List V} (r : RepL K G ds vs) : ∀ idx : List Nat, RepL K G (pickL idx ds) (pickL idx vs)
  | [] => rfl
  | i :: idx => by
    have ih := pick_rep r idx
    unfold pickL at ih ⊢
    rw [List.filterMap_cons, List.filterMap_cons]
    cases e : ds[i]? with
    | some d =>
      obtain ⟨v, e1, e2⟩ := r.get e
      rw [e1]; exact RepL.cons e2 ih
    | none =>
      cases e1 : vs[i]? with
      | none => exact ih
      | some v => obtain ⟨d, e2, _⟩ := r.getV e1; rw [e] at e2; cases e2
section
variable {X : Cx} {W : WX} {k : Nat} {f : Addr} {fd : FuncData} {ps ks : List Str} {P : DSp} {x : Str} {p pos kpos : Pos} {e : Expr} {es : List Expr} {kws : List Keyword} {te : TE} {qe : DTE} {t tk : TA} {q qk : DTA} {nm : Option Str} {n : Nat} {idx : List Nat}
theorem qk_nil : QK X W [] tNil qNil := ⟨pk_nil, fun DW G H p M s Q Q' hw S q k => k G H M [] [] (Same.refl _) S rfl q⟩
theorem qk_cons (ha : QE X W e te qe) (hr : QK X W kws t q) : QK X W (⟨nm, e, kpos⟩ :: kws) (tCons te t) (qCons qe q) :=
  ⟨pk_cons ha.pe hr.pe, fun DW G H p M s Q Q' hw S h k => ha.rf DW G H p M s _ _ hw S h fun G1 H1 M1 d v e1 S1 r1 h1 =>
    hr.rf DW G1 H1 p M1 s _ _ (hw.mono e1) S1 h1 fun G2 H2 M2 ds vs e2 S2 r2 h2 => k G2 H2 M2 _ _ (e1.trans e2) S2 (RepL.cons (Rep.mono e2 _ _ r1) r2) h2⟩
/-- how a call with n values and the keywords ks binds: the parameters' values by their places -/
def KwB (K : PySem.W.Frag) (fd : FuncData) (ps : List Str) (n : Nat) (ks : List Str) (idx : List Nat) : Prop :=
  ∀ (s : Shared) (us ws : List Value), K.In s.heap → us.length = n → ws.length = ks.length → BindsTo s fd ⟨us, ks.zip ws⟩ (ps.zip (pickL idx (us ++ ws)))
theorem kwb {K : PySem.W.Frag} {x qual : Str} {st : Stmt} {f : Addr} {fd : FuncData} {ps ks : List Str} {n : Nat} {idx : List Nat} (F : Fun K x qual st f fd)
    (h : ∀ (kV doc pm : Value) (an : Option Addr) (cdv ct : Value) (us ws : List Value), us.length = n → ws.length = ks.length → bindArgs (PySem.W.fnOf x qual (defArgs st) (defBody st) (defScope st) .none kV doc pm an cdv ct) ⟨us, ks.zip ws⟩ = pure (ps.zip (pickL idx (us ++ ws)))) : KwB K fd ps n ks idx := by
  obtain ⟨oc, od, kV, doc, pm, an, cdv, ct, osl, rfl, lk, hcd⟩ := F.ex
  exact fun s us ws _ h1 h2 => .of_eq (h kV doc pm an cdv ct us ws h1 h2)
def tCallKw (n m : Nat) (sp : Sp) (idx : List Nat) (E : L2.St → XK) (t tk : TA) : TE := fun σ H Q => t σ H fun vs H1 => tk σ H1 fun zs H2 => vs.length = n ∧ zs.length = m ∧ sp (pickL idx (vs ++ zs)) H2 Q (E σ)
def qCallKw (n m : Nat) (P : DSp) (idx : List Nat) (qa qk : DTA) : DTE := fun DW p M Q => qa DW p M fun ds M1 => qk DW p M1 fun zs M2 => ds.length = n ∧ zs.length = m ∧ P (pickL idx (ds ++ zs)) M2 Q fun x M3 => DW x p M3
theorem run_kw {sp : Sp} {E : L2.St → XK} {CX : CXT} {pins : List (Addr × Obj)} {σ : L2.St} {H : Hp} {s : Shared} {Q : VK} {us ws : List Value} {vs zs : List V} (F : FnOk X.prog X.w X.K X.mg X.base CX k f fd ps sp) (hr : Room k X.A) (hb : KwB X.K fd ps n ks idx) (hx : PassesAt CX X σ (E σ))
    (I : Inv X pins σ H s) (r : Vals vs us) (rz : Vals zs ws) (l1 : vs.length = n) (l2 : zs.length = ks.length) (h : sp (pickL idx (vs ++ zs)) H Q (E σ)) : wpAny (model X.prog X.w) X.A (call (.ref f) us (ks.zip ws)) (EP X pins σ Q) X.xe s := by
  have r2 := pick_vals (r.append rz) idx
  refine wpAny_call (codeAny_mono (F.run X.A X.stack s H ⟨us, ks.zip ws⟩ _ _ Q (E σ) hr I.env0 (hb s us ws I.kIn (r.length.symm.trans l1) (rz.length.symm.trans l2)) r2 h) fun r s' hq => ?_)
  cases r with
  | error e => exact hx pins H s e s' I hq
  | ok fl =>
    cases fl with
    | ret u => exact I.after hq
    | next => exact False.elim hq
    | brk => exact False.elim hq
    | cont => exact False.elim hq
theorem ref_callKw {K : PySem.W.Frag} {m : Nat} (ha : RefA K W t q) (hkw : RefA K W tk qk) : RefE K W (tCallKw n m (toSp K P) idx (fun s => WE W s) t tk) (qCallKw n m P idx q qk) :=
  fun DW G H p M s Q Q' hw S h k => ha DW G H p M s _ _ hw S h fun G1 H1 M1 as vs e1 S1 r1 h1 => hkw DW G1 H1 p M1 s _ _ (hw.mono e1) S1 h1 fun G2 H2 M2 zs ws e2 S2 r2 ⟨l1, l2, h2⟩ =>
    ⟨by rw [r1.length]; exact l1, by rw [r2.length]; exact l2, toSp_at (hw.mono (e1.trans e2)) S2 (pick_rep (RepL.append (RepL.mono e2 _ _ r1) r2) idx) h2 fun G' H' M' d v e3 => k G' H' M' d v ((e1.trans e2).trans e3)⟩
/-- f(k = v, ..) -/
theorem q_callK0 (F : FnOk X.prog X.w X.K X.mg X.base (L2.CX X.prog X.w) k f fd ps (toSp X.K P)) (hr : Room k X.A) (tkk : Takes X W) (hg : Gl X x) (hm : X.mg x = some (.ref f)) (hk : PySem.W.keepIn X.K (.ref f) = true) (hb : KwB X.K fd ps 0 ks idx)
    (hkw : QK X W kws tk qk) (hall : (backToKw pos (keywordEach kws X.env)).all (·.1.isSome) = true := by rfl) (hks : (backToKw pos (keywordEach kws X.env)).filterMap (·.1) = ks := by rfl)
    (hdb : (x == ("__debug__" : Str)) = false := by decide) (hpl : ((backTo pos (starEach [] X.env)).any (·.1) || (backToKw pos (keywordEach kws X.env)).any (·.1.isNone)) = false := by rfl) :
    QE X W (.Call (.Name x p) [] kws pos) (tCallKw 0 ks.length (toSp X.K P) idx (fun s => WE W s) tNil tk) (qCallKw 0 ks.length P idx qNil qk) := by
  refine ⟨⟨fun pins s σ H Q I h => ?_⟩, ref_callKw (fun DW G H p M s Q Q' hw S q k => k G H M [] [] (Same.refl _) S rfl q) hkw.rf⟩
  refine wpAny_Call_Name_kw (ld_glob I hg hm ?_ hdb)
  refine PySem.W.callWith_KW0 (h₀ := X.base) I.ok.mod.kin hk hall (thn (hkw.pe.run pos pins s σ H _ I h) fun ws s2 ⟨zs, H2, I2, rz, l1, l2, q2⟩ => ⟨I2.kIn, ?_⟩) hpl
  rw [hks]
  exact run_kw (E := fun s => WE W s) F hr hb (passAt tkk σ) I2 .nil rz l1 l2 q2
/-- f(e, .., k = v, ..) -/
theorem q_callK (F : FnOk X.prog X.w X.K X.mg X.base (L2.CX X.prog X.w) k f fd ps (toSp X.K P)) (hr : Room k X.A) (tkk : Takes X W) (hg : Gl X x) (hm : X.mg x = some (.ref f)) (hk : PySem.W.keepIn X.K (.ref f) = true) (hb : KwB X.K fd ps n ks idx)
    (ha : QA X W (e :: es) t q) (hkw : QK X W kws tk qk) (hall : (backToKw pos (keywordEach kws X.env)).all (·.1.isSome) = true := by rfl) (hks : (backToKw pos (keywordEach kws X.env)).filterMap (·.1) = ks := by rfl)
    (hdb : (x == ("__debug__" : Str)) = false := by decide) (he : starEach (e :: es) X.env = (false, eval e X.env) :: starEach es X.env := by rfl)
    (hpl : ((backTo pos (starEach (e :: es) X.env)).any (·.1) || (backToKw pos (keywordEach kws X.env)).any (·.1.isNone)) = false := by rfl) :
    QE X W (.Call (.Name x p) (e :: es) kws pos) (tCallKw n ks.length (toSp X.K P) idx (fun s => WE W s) t tk) (qCallKw n ks.length P idx q qk) := by
  refine ⟨⟨fun pins s σ H Q I h => ?_⟩, ref_callKw ha.rf hkw.rf⟩
  refine wpAny_Call_Name_kw (ld_glob I hg hm ?_ hdb)
  refine PySem.W.callWith_KW (h₀ := X.base) I.ok.mod.kin hk hall (thn (ha.pe.run pos pins s σ H _ I h) fun us s1 ⟨vs, H1, I1, r, q⟩ => ?_) hpl he
  refine thn (hkw.pe.run pos pins s1 σ H1 _ I1 q) fun ws s2 ⟨zs, H2, I2, rz, l1, l2, q2⟩ => ⟨I2.kIn, ?_⟩
  rw [hks]
  exact run_kw (E := fun s => WE W s) F hr hb (passAt tkk σ) I2 r rz l1 l2 q2
end
end DL

/-! DLo: data that are alike; what things are. -/
namespace DL
open PySem L2
mutual
theorem deq_refl : ∀ d : D, isData d = true → deq d d = true
  | .non, _ => by simp [deq, pyd, PyData.eqv]
  | .bl b, _ => by simp [deq, pyd, PyData.eqv]
  | .int i, _ => by simp [deq, pyd, PyData.eqv]
  | .str x, _ => by simp [deq, pyd, PyData.eqv]
  | .tup ds, h => by have := deqL_refl ds h; simpa [deq, deqL, pyd, PyData.eqv] using this
  | .ktp ds, h => by have := deqL_refl ds h; simpa [deq, deqL, pyd, PyData.eqv] using this
  | .xtp ds, h => by have := deqL_refl ds h; simpa [deq, deqL, pyd, PyData.eqv] using this
  | .lst ds, h => by have := deqL_refl ds h; simpa [deq, deqL, pyd, PyData.eqv] using this
  | .scr _, h => by cases h
  | .ty _, h => by cases h
  | .ref _, h => by cases h
  | .dct _ _, h => by cases h
  | .ins _ _ _, h => by cases h
  | .exc _ _ _ _, h => by cases h
theorem deqL_refl : ∀ ds : List D, isDataL ds = true → deqL ds ds = true
  | [], _ => by simp [deqL, pydL, PyData.eqvAll]
  | d :: ds, h => by
    have h' : isData d = true ∧ isDataL ds = true := by simpa [isDataL] using h
    have h1 := deq_refl d h'.1
    have h2 := deqL_refl ds h'.2
    simp only [deq, deqL, pydL, PyData.eqvAll] at h1 h2 ⊢
    rw [h1, h2]; rfl
end
theorem deq_str (x y : Str) : deq (.str x) (.str y) = decide (x = y) := by
  unfold deq; simp only [pyd, PyData.eqv]; exact Bool.beq_eq_decide_eq _ _
theorem deq_bl (x y : Bool) : deq (.bl x) (.bl y) = decide (x = y) := by
  unfold deq; simp only [pyd, PyData.eqv]; exact Bool.beq_eq_decide_eq _ _
theorem depA_le {n : Nat} : ∀ ds : List D, (∀ d ∈ ds, dep d ≤ n) → PyData.depthAll (pydL ds) ≤ n
  | [], _ => by simp [pydL, PyData.depthAll]
  | d :: ds, h => by
    have h1 := h d (List.mem_cons_self ..)
    have h2 := depA_le ds fun x hx => h x (List.mem_cons_of_mem _ hx)
    unfold dep at h1
    simp only [pydL, PyData.depthAll]
    omega
theorem dep_lst {n : Nat} {ds : List D} (h : ∀ d ∈ ds, dep d ≤ n) : dep (.lst ds) ≤ n + 1 := by
  have := depA_le ds h
  simp only [dep, pyd, PyData.depth]; omega
theorem dep_tup {n : Nat} {ds : List D} (h : ∀ d ∈ ds, dep d ≤ n) : dep (.tup ds) ≤ n + 1 := by
  have := depA_le ds h
  simp only [dep, pyd, PyData.depth]; omega
theorem dep_flat {d : D} (h : flatD d = true) : dep d = 0 := by
  cases d with
  | non => simp [dep, pyd, PyData.depth]
  | bl _ => simp [dep, pyd, PyData.depth]
  | int _ => simp [dep, pyd, PyData.depth]
  | str _ => simp [dep, pyd, PyData.depth]
  | _ => cases h
/-- == of what is the same -/
theorem eq_same {neg : Bool} {x y d : D} {M : Mst} {Q : DK} (hx : res M x = d) (hy : res M y = d) (h : isData d = true) (hd : dep d ≤ 64) : dEq neg x y M Q = Q (.bl (!neg)) M := by
  unfold dEq
  rw [hx, hy, deq_refl d h]
  have h3 : min (dep d) (dep d) ≤ 64 := Nat.le_trans (Nat.min_le_left _ _) hd
  simp only [h, h3, Bool.xor_true, true_and]
theorem eq_str {neg : Bool} {x y : Str} {M : Mst} {Q : DK} : dEq neg (.str x) (.str y) M Q = Q (.bl (xor neg (decide (x = y)))) M := by
  unfold dEq
  rw [res_str, res_str, deq_str]
  have h1 : isData (.str x) = true := rfl
  have h2 : isData (.str y) = true := rfl
  have h3 : min (dep (.str x)) (dep (.str y)) ≤ 64 := by simp [dep, pyd, PyData.depth]
  simp [h1, h2, h3]
/-- isinstance(x, T) -/
theorem isi_one {x : D} {T : String} {b : Bool} {M : Mst} {Q : DK} (h : hasTy (res M x) = true) (hb : isiB (tyD (res M x)) T = some b) : dIsi [x, .ty T] M Q = Q (.bl b) M := by
  unfold dIsi; simp only [h, hb, true_and]
theorem isi_tup {x : D} {Ts : List D} {b : Bool} {M : Mst} {Q : DK} (h : hasTy (res M x) = true) (hb : isiL (tyD (res M x)) Ts = some b) : dIsi [x, .tup Ts] M Q = Q (.bl b) M := by
  unfold dIsi; simp only [h, hb, true_and]
theorem ll : isiB "list" "list" = some true := by decide +kernel
theorem tt_ : isiB "tuple" "tuple" = some true := by decide +kernel
theorem ii : isiB "int" "int" = some true := by decide +kernel
theorem ib : isiB "int" "bool" = some false := by decide +kernel
theorem tl : isiB "tuple" "list" = some false := by decide +kernel
theorem lt2_l : isiL "list" [.ty "list", .ty "tuple"] = some true := by decide +kernel
theorem lt2_t : isiL "tuple" [.ty "list", .ty "tuple"] = some true := by decide +kernel
theorem lt2_i : isiL "int" [.ty "list", .ty "tuple"] = some false := by decide +kernel
theorem lt2_s : isiL "str" [.ty "list", .ty "tuple"] = some false := by decide +kernel
theorem lt2_n : isiL "NoneType" [.ty "list", .ty "tuple"] = some false := by decide +kernel
theorem lt2_b : isiL "bool" [.ty "list", .ty "tuple"] = some false := by decide +kernel
/-- all(list of truths) -/
theorem all_bls {bs : List Bool} {M : Mst} {Q : DK} : dAll [.lst (bs.map D.bl)] M Q = Q (.bl (bs.all id)) M := by
  have h : blsD (bs.map D.bl) = some bs := by
    have := blsD_map (id : Bool → Bool) bs
    simpa using this
  unfold dAll
  simp only [res_lst, h]
section
variable {P : Program} {w : World} {K : PySem.W.Frag} {mg : Str → Option Value} {base : Heap}
theorem fn_void {k : Nat} {f : Addr} {fd : FuncData} {ps : List Str} {p : DSp} (h : ∀ ds M Q E, ¬ p ds M Q E) : FnOk P w K mg base (L2.CX P w) k f fd ps (toSp K p) :=
  ⟨fun _ _ _ _ q => by
    obtain ⟨_, ds, M, Qd, Ed, _, _, _, hp, _⟩ := q
    exact (h _ _ _ _ hp).elim, fun _ _ _ _ _ _ _ _ _ _ _ _ _ hs => by
    obtain ⟨_, ds, M, Qd, Ed, _, _, _, hp, _⟩ := hs
    exact (h _ _ _ _ hp).elim⟩
end
end DL

/-! DLp: texts. -/
namespace DL
open PySem L2
def okS (z : Str) : Prop := z.length ≤ 100000 ∧ PyData.strOk z = true
theorem okS_rep {K : PySem.W.Frag} {G : Hp} {z : Str} (h : okS z) : Rep K G (.str z) (.str z) := ⟨rfl, sz1000 h.1, h.2⟩
theorem hz24 : sizeLine = 16777216 := by rw [sizeLine_eq]
/-! ### lower, upper, split, join -/
def mTxt0 (g : Str → Str) : DMt := fun x ds M Q => match res M x, ds with
  | .str z, [] => z.length ≤ 100000 ∧ okS (g z) ∧ Q (.str (g z)) M
  | _, _ => False
def rTxt0 (g : Str → Str) : V → List V → Hp → VK → Prop := fun x xs H Q => ∃ a, x = .str a ∧ xs = [] ∧ a.length ≤ 100000 ∧ Q (.str (g a)) H
theorem ref_txt0 {K : PySem.W.Frag} {g : Str → Str} : RefM K (rTxt0 g) (mTxt0 g) := fun G H p M s x v ds vs Q Q' S r1 r2 h k => by
  unfold mTxt0 at h
  split at h
  · next z e =>
    obtain ⟨rfl, _, _⟩ := as_str r1 e
    cases r2
    obtain ⟨h1, h2, h3⟩ := h
    exact ⟨z, rfl, rfl, h1, k G H M (.str (g z)) _ (Same.refl _) S (okS_rep h2) h3⟩
  · exact h.elim
theorem MtR.imp {X : Cx} {id : String} {r r' : V → List V → Hp → VK → Prop} (h : MtR X id r) (i : ∀ x xs H Q, r' x xs H Q → r x xs H Q) : MtR X id r' := fun pins s σ H x xs v us Q I rx rs q => h pins s σ H x xs v us Q I rx rs (i _ _ _ _ q)
theorem m_lower {X : Cx} : QMt X "str.lower" (rTxt0 Txt.lower) (mTxt0 Txt.lower) := ⟨MtR.imp mt_lower fun x xs H Q ⟨a, e1, e2, e3, q⟩ => ⟨a, e1, e2, by omega, q⟩, ref_txt0⟩
theorem m_upper {X : Cx} : QMt X "str.upper" (rTxt0 Txt.upper) (mTxt0 Txt.upper) := ⟨MtR.imp mt_upper fun x xs H Q ⟨a, e1, e2, e3, q⟩ => ⟨a, e1, e2, by omega, q⟩, ref_txt0⟩
theorem repL_strs {K : PySem.W.Frag} {G : Hp} : ∀ {ys : List Str}, (∀ y ∈ ys, okS y) → RepL K G (ys.map D.str) (ys.map V.str)
  | [], _ => rfl
  | y :: ys, h => ⟨_, _, rfl, okS_rep (h y (List.mem_cons_self ..)), repL_strs fun x hx => h x (List.mem_cons_of_mem _ hx)⟩
def rWords (f : Str → List Str) : V → List V → Hp → VK → Prop := fun x xs H Q => ∃ a, x = .str a ∧ xs = [] ∧ a.length ≤ 100000 ∧ rNewStrs (f a) H Q
/-- x.split() -/
def mWords (m : Bool) : DMt := fun x ds M Q => match res M x, ds with
  | .str z, [] => z.length ≤ 100000 ∧ (∀ y ∈ Txt.words z, okS y) ∧ newL m ((Txt.words z).map .str) M Q
  | _, _ => False
theorem m_words {X : Cx} (m : Bool) : QMt X "str.split" (rWords Txt.words) (mWords m) := ⟨MtR.imp mt_words fun x xs H Q ⟨a, e1, e2, e3, q⟩ => ⟨a, e1, e2, by have := hz24; omega, q⟩, fun G H p M s x v ds vs Q Q' S r1 r2 h k => by
  unfold mWords at h
  split at h
  · next z e =>
    obtain ⟨rfl, _, _⟩ := as_str r1 e
    cases r2
    obtain ⟨h1, h2, h3⟩ := h
    refine ⟨z, rfl, rfl, h1, fun q hq => newL_ok S hq (repL_strs h2) ?_ h3 k⟩
    have := words_le z
    rw [List.length_map, hz24]; omega
  · exact h.elim⟩
/-- x.split(sep) -/
def rSplit : V → List V → Hp → VK → Prop := fun x xs H Q => ∃ a b, x = .str a ∧ xs = [.str b] ∧ (b.length == 0) = false ∧ a.length ≤ 100000 ∧ rNewStrs (Txt.split a b) H Q
def mSplit (m : Bool) : DMt := fun x ds M Q => match res M x, ds with
  | .str z, [d] => match res M d with
    | .str b => z.length ≤ 100000 ∧ (b.length == 0) = false ∧ (∀ y ∈ Txt.split z b, okS y) ∧ newL m ((Txt.split z b).map .str) M Q
    | _ => False
  | _, _ => False
theorem m_split {X : Cx} (m : Bool) : QMt X "str.split" rSplit (mSplit m) := ⟨MtR.imp mt_split fun x xs H Q ⟨a, b, e1, e2, e3, e4, q⟩ => ⟨a, b, e1, e2, e3, by have := hz24; omega, q⟩, fun G H p M s x v ds vs Q Q' S r1 r2 h k => by
  unfold mSplit at h
  split at h
  · next z d e =>
    obtain ⟨rfl, _, _⟩ := as_str r1 e
    obtain ⟨u, rfl, r3⟩ := repL1 r2
    split at h
    · next b eb =>
      obtain ⟨rfl, _, _⟩ := as_str r3 eb
      obtain ⟨h1, h2, h3, h4⟩ := h
      refine ⟨z, b, rfl, rfl, h2, h1, fun q hq => newL_ok S hq (repL_strs h3) ?_ h4 k⟩
      rw [List.length_map]
      exact Nat.le_trans (PyProof.Rows.split_le z b) (by have := hz24; omega)
    · exact h.elim
  · exact h.elim⟩
def strsD : List D → Option (List Str)
  | [] => some []
  | .str x :: ds => (strsD ds).map (x :: ·)
  | _ :: _ => none
@[simp] theorem strsD_map : ∀ ys : List Str, strsD (ys.map D.str) = some ys
  | [] => rfl
  | y :: ys => by simp [strsD, strsD_map ys]
theorem strsD_of {K : PySem.W.Frag} {G : Hp} : ∀ {ds : List D} {vs : List V} {ys : List Str}, RepL K G ds vs → strsD ds = some ys → vs = ys.map V.str
  | [], _, _, r, h => by cases r; cases h; rfl
  | d :: ds, _, ys, ⟨v, r, e1, r1, r2⟩, h => by
    cases d with
    | str x =>
      simp only [strsD, Option.map_eq_some_iff] at h
      obtain ⟨zs, h1, rfl⟩ := h
      obtain ⟨rfl, _⟩ := r1
      rw [e1, strsD_of r2 h1]; rfl
    | _ => cases h
def rJoin (K : PySem.W.Frag) : V → List V → Hp → VK → Prop := fun x xs H Q => ∃ a p, ∃ ys : List Str, x = .str a ∧ xs = [.ref p] ∧ SqL K H p (ys.map V.str) ∧ (ys.map (·.length)).sum + ys.length * a.length ≤ 100000 ∧ Q (.str (Txt.join a ys)) H
/-- sep.join(a list of texts) -/
def mJoin : DMt := fun x ds M Q => match res M x, ds with
  | .str z, [d] => match res M d with
    | .lst es => match strsD es with
      | some ys => (ys.map (·.length)).sum + ys.length * z.length ≤ 100000 ∧ okS (Txt.join z ys) ∧ Q (.str (Txt.join z ys)) M
      | none => False
    | _ => False
  | _, _ => False
theorem m_join {X : Cx} : QMt X "str.join" (rJoin X.K) mJoin := ⟨MtR.imp mt_join fun x xs H Q ⟨a, p, ys, e1, e2, e3, e4, q⟩ => ⟨a, p, ys, e1, e2, .inl e3, by omega, q⟩, fun G H p M s x v ds vs Q Q' S r1 r2 h k => by
  unfold mJoin at h
  split at h
  · next z d e =>
    obtain ⟨rfl, _, _⟩ := as_str r1 e
    obtain ⟨u, rfl, r3⟩ := repL1 r2
    split at h
    · next es ed =>
      obtain ⟨a, vs, rfl, h1, h2, _⟩ := as_lst S r3 ed
      split at h
      · next ys ey =>
        have ev := strsD_of h2 ey
        subst ev
        obtain ⟨g1, g2, g3⟩ := h
        exact ⟨z, a, ys, rfl, rfl, .inl (.inl h1), g1, k G H M (.str (Txt.join z ys)) _ (Same.refl _) S (okS_rep g2) g3⟩
      · exact h.elim
    · exact h.elim
  · exact h.elim⟩
/-! ### * -/
def repS (z : Str) (n : Int) : Str := ⟨(List.replicate n.toNat z.cps).foldl (· ++ ·) #[]⟩
def rMulS : R2 := fun x y H Q => ∃ (z : Str) (n : Int), x = .str z ∧ y = .int n ∧ -(2 ^ 62) ≤ n ∧ n ≤ 100000 ∧ z.length * n.toNat ≤ 100000 ∧ Q (.str (repS z n)) H
theorem fold_size (a : Array Nat) : ∀ (k : Nat) (acc : Array Nat), ((List.replicate k a).foldl (· ++ ·) acc).size = acc.size + k * a.size
  | 0, acc => by simp
  | k + 1, acc => by
    rw [List.replicate_succ, List.foldl_cons, fold_size a k, Array.size_append, Nat.succ_mul]; omega
theorem op_mulS {X : Cx} : OpR X (binaryOp .Mult) rMulS := by
  intro pins s σ H x y v u Q I rx ry h
  obtain ⟨z, n, rfl, rfl, h1, h2, h3, q⟩ := h
  obtain ⟨t, rfl⟩ := rx
  obtain ⟨t2, rfl⟩ := ry
  have hz := hz24
  refine P.mul_str ?_ (fun a1 a2 => ?_) (fun a1 a2 => ?_) ?_
  · have e1 : ¬ n < -(2 ^ 63 : Int) := by omega
    have e2 : ¬ n ≥ 2 ^ 63 := by omega
    rw [decide_eq_false e1, decide_eq_false e2]; rfl
  · intro z1
    have e : (2 ^ 63 - 1 : Int) / n ≥ (z.length : Int) := by
      refine Int.le_ediv_of_mul_le (by omega) ?_
      have e3 : ((z.length * n.toNat : Nat) : Int) ≤ 100000 := Int.ofNat_le.mpr h3
      have e4 : ((n.toNat : Nat) : Int) = n := by omega
      rw [Int.natCast_mul, e4] at e3
      omega
    omega
  · unfold Builtin.Str.tooLong
    exact decide_eq_false (by rw [hz]; omega)
  · split
    · next hn =>
      have e : n.toNat = 0 := by omega
      have e2 : repS z n = Str.empty := by unfold repS; rw [e]; rfl
      exact ⟨by decide, .str (repS z n), H, I.tok _, ⟨s.toks, by rw [e2]⟩, q⟩
    · split
      · next hn hz =>
        refine ⟨.str (repS z n), H, I, ⟨t, ?_⟩, q⟩
        have e : repS z n = z := by
          rw [Bool.or_eq_true] at hz
          rcases hz with hz | hz
          · have e1 : n = 1 := by simpa using hz
            subst e1
            show (⟨#[] ++ z.cps⟩ : Str) = z
            simp
          · have e1 : z.cps.size = 0 := by
              have e0 : z.length = 0 := by simpa using hz
              exact e0
            have e2 : z.cps = #[] := Array.eq_empty_of_size_eq_zero e1
            have e3 : z = ⟨#[]⟩ := by cases z; simp at e2; rw [e2]
            rw [e3]; unfold repS
            generalize n.toNat = k
            have : ∀ k : Nat, (List.replicate k (#[] : Array Nat)).foldl (· ++ ·) #[] = #[] := fun k => by
              induction k with
              | zero => rfl
              | succ k ih => rw [List.replicate_succ, List.foldl_cons]; simpa using ih
            rw [this]
        rw [e]
      · exact ⟨by
          show (repS z n).length ≤ sizeLine
          have e : (repS z n).length = 0 + n.toNat * z.cps.size := fold_size z.cps n.toNat #[]
          have e2 : z.length = z.cps.size := rfl
          rw [e, hz, Nat.mul_comm, ← e2]; omega, .str (repS z n), H, I.tok _, ⟨_, rfl⟩, q⟩
def dMul (m : Bool) : DOp := fun x y M Q => match res M x, y with
  | .int i, .int j => CMul i j ∧ Q (.int (i * j)) M
  | .str z, .int n => -(2 ^ 62) ≤ n ∧ n ≤ 100000 ∧ z.length * n.toNat ≤ 100000 ∧ PyData.strOk (repS z n) = true ∧ Q (.str (repS z n)) M
  | .lst ds, .int n => -(2 ^ 62) ≤ n ∧ n ≤ 100000 ∧ ds.length * n.toNat ≤ 100000 ∧ newL m (List.replicate n.toNat ds).flatten M Q
  | _, _ => False
theorem repL_rep {K : PySem.W.Frag} {G : Hp} {ds : List D} {vs : List V} (r : RepL K G ds vs) : ∀ n : Nat, RepL K G (List.replicate n ds).flatten (List.replicate n vs).flatten
  | 0 => rfl
  | n + 1 => by rw [List.replicate_succ, List.replicate_succ, List.flatten_cons, List.flatten_cons]; exact RepL.append r (repL_rep r n)
theorem rep_flat_len {α : Type} (l : List α) : ∀ n : Nat, (List.replicate n l).flatten.length = l.length * n
  | 0 => rfl
  | n + 1 => by rw [List.replicate_succ, List.flatten_cons, List.length_append, rep_flat_len l n, Nat.mul_succ]; omega
def rMulX : R2 := fun x y H Q => rI CMul (fun i j => .int (i * j)) x y H Q ∨ rMulS x y H Q ∨ rRep x y H Q
theorem o_mul {X : Cx} (m : Bool) : QOp X (binaryOp .Mult) rMulX (dMul m) := ⟨OpR.or op_mul (OpR.or op_mulS op_rep), fun G H p M s x y v u Q Q' S r1 r2 h k => by
  unfold dMul at h
  split at h
  · next i j e =>
    cases as_int r1 e
    cases r2
    exact .inl ⟨i, j, rfl, rfl, h.1, k G H M (.int (i * j)) _ (Same.refl _) S rfl h.2⟩
  · next z n e =>
    obtain ⟨rfl, _, _⟩ := as_str r1 e
    cases r2
    obtain ⟨h1, h2, h3, h4, h5⟩ := h
    refine .inr (.inl ⟨z, n, rfl, rfl, h1, h2, h3, k G H M (.str (repS z n)) _ (Same.refl _) S (okS_rep ⟨?_, h4⟩) h5⟩)
    have e : (repS z n).length = 0 + n.toNat * z.cps.size := fold_size z.cps n.toNat #[]
    have e2 : z.length = z.cps.size := rfl
    rw [e, Nat.mul_comm, ← e2]; omega
  · next ds n e =>
    obtain ⟨a, vs, rfl, g1, g2, g3⟩ := as_lst S r1 e
    cases r2
    obtain ⟨h1, h2, h3, h4⟩ := h
    have hz := hz24
    have l1 := g2.length
    refine .inr (.inr ⟨a, n, vs, rfl, rfl, g1, by omega, by omega, by rw [l1]; omega, fun q hq => newL_ok S hq (repL_rep g2 _) ?_ h4 k⟩)
    rw [rep_flat_len, l1]; omega
  · exact h.elim⟩
/-! ### numbers and their texts -/
def rTexts : List V → Hp → VK → Prop := fun xs H Q => (∃ i, xs = [.int i] ∧ i.natAbs.log2 < 1920 ∧ Q (.str (toString i)) H) ∨ ∃ a, xs = [.str a] ∧ Q (.str a) H
/-- str(x) of a number, of a text -/
def dStr : DCa := fun ds M Q => match ds with
  | [x] => match res M x with
    | .int i => i.natAbs.log2 < 1920 ∧ okS (Str.ofString (toString i)) ∧ Q (.str (Str.ofString (toString i))) M
    | .str z => Q (.str z) M
    | _ => False
  | _ => False
theorem c_str {X : Cx} : QCa X (.type "str") rTexts dStr := ⟨CallR.or call_str_int SkE.call_str_str, fun G H p M s ds vs Q Q' S r h k => by
  unfold dStr at h
  split at h
  · next x =>
    obtain ⟨v, rfl, r1⟩ := repL1 r
    split at h
    · next i e =>
      cases as_int r1 e
      obtain ⟨h1, h2, h3⟩ := h
      exact .inl ⟨i, rfl, h1, k G H M (.str (Str.ofString (toString i))) _ (Same.refl _) S (okS_rep h2) h3⟩
    · next z e =>
      obtain ⟨rfl, l1, o1⟩ := as_str r1 e
      exact .inr ⟨z, rfl, k G H M (.str z) _ (Same.refl _) S ⟨rfl, l1, o1⟩ h⟩
    · exact h.elim
  · exact h.elim⟩
/-- int(x) of a number, a truth, a text -/
def dIntX : DCa := fun ds M Q => match ds with
  | [x] => match res M x with
    | .int i => Q (.int i) M
    | .bl b => Q (.int (if b then 1 else 0)) M
    | .str z => match intText? z with
      | some n => z.length ≤ 640 ∧ Q (.int n) M
      | none => False
    | _ => False
  | _ => False
theorem c_intX {X : Cx} : QCa X (.type "int") (fun xs H Q => ((∃ i, xs = [.int i] ∧ Q (.int i) H) ∨ ∃ k, xs = [.bl k] ∧ Q (.int (if k then 1 else 0)) H) ∨ ∃ a n, xs = [.str a] ∧ PySem.intText? a = some n ∧ a.length ≤ 640 ∧ Q (.int n) H) dIntX :=
  ⟨CallR.or call_int1 call_int_str, fun G H p M s ds vs Q Q' S r h k => by
  unfold dIntX at h
  split at h
  · next x =>
    obtain ⟨v, rfl, r1⟩ := repL1 r
    split at h
    · next i e =>
      cases as_int r1 e
      exact .inl (.inl ⟨i, rfl, k G H M (.int i) _ (Same.refl _) S rfl h⟩)
    · next b e =>
      cases as_bl r1 e
      exact .inl (.inr ⟨b, rfl, k G H M (.int (if b then 1 else 0)) _ (Same.refl _) S rfl h⟩)
    · next z e =>
      obtain ⟨rfl, _, _⟩ := as_str r1 e
      split at h
      · next n en => exact .inr ⟨z, n, rfl, en, h.1, k G H M (.int n) _ (Same.refl _) S rfl h.2⟩
      · exact h.elim
    · exact h.elim
  · exact h.elim⟩
end DL

/-! DLq: int(t, 10); a written dict with text keys. -/
namespace DL
open PySem L2 PySem.NumText PySem.Calls
structure Veil (p : Prop) : Prop where
  at_ : p
set_option maxHeartbeats 4000000 in
theorem ten_gives {x : PySem.Str} {u t : Tok} {n : Int} (hl : x.length ≤ 640) (hn : PySem.intText? x = some n) :
    Gives (Builtin.«int.__new__» ⟨[.type "int", .str x u, .int 10 t], []⟩) (.int n) :=
  .of_wp fun M A E s Q hQ => by
    obtain ⟨hp, g, d, tk, os⟩ := s
    have q1 := F.conv_sub_int
    have q2 := F.madeHere_int
    have q6 : typeOf (.str x u) = pure (.type "str") := rfl
    have len : (numSeenOf x).length ≤ 640 := Nat.le_trans (seen_length x) hl
    have both : (int_private% "readNumeral") 0 10 (numSeenOf x) = (int_private% "Numeral.value") n
        ∧ ((numSeenOf x).length == (numTextOf x).length) = true := by
      rcases read0 x len with ⟨m, a1, a2, a3⟩ | ⟨a1, _⟩
      · rw [hn] at a1; injection a1 with a1; subst a1; exact ⟨a3, a2⟩
      · rw [hn] at a1; cases a1
    have all := Veil.mk (And.intro len both)
    clear len both hl hn
    repeat (any_goals (first
      | assumption
      | ((with_reducible show wpAny _ _ ((int_private% "intFromText") _ _ _) _ _ _); refine Hx.wp_textB all.at_.1 all.at_.2.1 all.at_.2.2 ?_)
      | wp_step))
    all_goals first | exact ⟨_, rfl, hQ⟩ | skip
theorem ten_call {prog : Program} {w : World} {A : Around} {E : Value → Shared → Prop} {s : Shared} {Q : Value → Shared → Prop} {x : PySem.Str} {u t : Tok} {n : Int} (hl : x.length ≤ 640) (hn : PySem.intText? x = some n)
    (hQ : Q (.int n s.toks) { s with toks := s.toks + 1 }) : wpAny (model prog w) A (call (.type "int") [.str x u, .int 10 t]) Q E s :=
  callType_new F.called_int F.newNe_int (Hx.typeCall_int_2 _ _) (Hx.newCall_int_2 _ _) (fun obj => F.initArgs_range_2 obj _ _) F.entry_int_new (ten_gives hl hn).meets
    (show (Made.int n).post _ s from ⟨rfl, hQ⟩)
def rTen : List V → Hp → VK → Prop := fun xs H Q => ∃ a n, xs = [.str a, .int 10] ∧ PySem.intText? a = some n ∧ a.length ≤ 640 ∧ Q (.int n) H
theorem call_ten {X : Cx} : CallR X (.type "int") rTen := by
  intro pins s σ H xs us Q I r h
  obtain ⟨a, n, rfl, h1, h2, q⟩ := h
  obtain ⟨u, w', rfl, r1, r2⟩ := vals2 r
  obtain ⟨t1, rfl⟩ := r1
  obtain ⟨t2, rfl⟩ := r2
  exact ten_call h2 h1 ⟨.int n, H, I.tok _, ⟨_, rfl⟩, q⟩
def dTen : DCa := fun ds M Q => match ds with
  | [x, .int 10] => match res M x with
    | .str z => match intText? z with
      | some n => z.length ≤ 640 ∧ Q (.int n) M
      | none => False
    | _ => False
  | _ => False
theorem c_ten {X : Cx} : QCa X (.type "int") rTen dTen := ⟨call_ten, fun G H p M s ds vs Q Q' S r h k => by
  unfold dTen at h
  split at h
  · next x =>
    obtain ⟨v, u, rfl, r1, r2⟩ := repL2 r
    cases r2
    split at h
    · next z e =>
      obtain ⟨rfl, _, _⟩ := as_str r1 e
      split at h
      · next n en => exact ⟨z, n, rfl, en, h.1, k G H M (.int n) _ (Same.refl _) S rfl h.2⟩
      · exact h.elim
    · exact h.elim
  · exact h.elim⟩

/-! ### constants of the module -/
structure GlS (mg : Str → Option Value) (x z : Str) : Prop where
  ex : ∃ t, mg x = some (.str z t)
structure GlI (mg : Str → Option Value) (x : Str) (i : Int) : Prop where
  ex : ∃ t, mg x = some (.int i t)
section
variable {X : Cx} {W : WX} {pos : Pos}
theorem q_globS {x z : Str} (hg : Gl X x) (h : GlS X.mg x z) (hz : (decide (z.length ≤ 100000) && PyData.strOk z) = true := by decide +kernel) (hd : (x == ("__debug__" : Str)) = false := by decide) : QE X W (.Name x pos) (tC (.str z)) (qC (.str z)) := by
  obtain ⟨t, h⟩ := h.ex
  rw [Bool.and_eq_true] at hz
  exact q_glob hg h ⟨t, rfl⟩ (fun _ => ⟨rfl, sz1000 (of_decide_eq_true hz.1), hz.2⟩) hd
theorem q_globI {x : Str} {i : Int} (hg : Gl X x) (h : GlI X.mg x i) (hd : (x == ("__debug__" : Str)) = false := by decide) : QE X W (.Name x pos) (tC (.int i)) (qC (.int i)) := by
  obtain ⟨t, h⟩ := h.ex
  exact q_glob hg h ⟨t, rfl⟩ (fun _ => rfl) hd
end
/-! ### a written dict with text keys -/
theorem find_keys {P : Params} {z : Str} : ∀ {l : List DictEntry} {ks : List Str}, l.map He.keyOf = He.keysIn P ks → (l.find? (·.key.isStr z)).isSome = decide (z ∈ ks) ∧ l.any (·.refKey) = false
  | [], [], _ => ⟨rfl, rfl⟩
  | [], k :: ks, h => by cases h
  | e :: l, [], h => by cases h
  | e :: l, k :: ks, h => by
    have h0 : He.keyOf e :: l.map He.keyOf = some (k, PyData.keyHash P k) :: He.keysIn P ks := h
    injection h0 with h1 h2
    obtain ⟨i1, i2⟩ := find_keys (z := z) h2
    unfold He.keyOf at h1
    split at h1
    · next x t q =>
      have h3 := Option.some.inj h1
      obtain ⟨rfl, _⟩ := Prod.mk.inj h3
      have e2 : e.refKey = false := by unfold DictEntry.refKey; rw [q]
      have e3 : e.key.isStr z = (x == z) := by rw [q]; rfl
      refine ⟨?_, by rw [List.any_cons, e2, i2]; rfl⟩
      rw [List.find?_cons, e3]
      by_cases hz : x = z
      · subst hz; simp
      · have e4 : (x == z) = false := beq_eq_false_iff_ne.mpr hz
        have e5 : ¬ z = x := fun a => hz a.symm
        rw [e4]
        simp only [i1]
        apply decide_eq_decide.mpr
        simp [e5]
    · cases h1
theorem nsIn_keys {K : PySem.W.Frag} {P : Params} {d : Addr} {ks : List Str} (h : He.dicW K d = some (He.keysIn P ks)) (z : Str) : ∃ r, PySem.W.nsIn K d z = some r ∧ r.isSome = decide (z ∈ ks) := by
  unfold He.dicW at h
  split at h
  · next c es n sl hl =>
    split at h
    · next e =>
      obtain ⟨a, b⟩ := find_keys (z := z) (Option.some.inj h)
      unfold PySem.W.nsIn
      rw [hl]
      simp only
      split
      · next e0 he => rw [he] at a; exact ⟨_, rfl, a⟩
      · next he => rw [he] at a; rw [b]; exact ⟨none, rfl, a⟩
    · cases h
  · cases h
structure KDic (K : PySem.W.Frag) (w : World) (mg : Str → Option Value) (x : Str) (ks : List Str) : Prop where
  ex : ∃ d, mg x = some (.ref d) ∧ He.dicW K d = some (He.keysIn w.params ks)
def dInK (neg : Bool) (ks : List Str) : DUn := fun x M Q => match res M x with
  | .str z => Q (.bl (xor neg (decide (z ∈ ks)))) M
  | _ => False
section
variable {X : Cx} {W : WX} {a : Expr} {ta : TE} {qa : DTE} {pos p : Pos} {x : Str} {ks : List Str}
/-- e in D, D a written dict of the module with text keys -/
theorem q_inK (h : KDic X.K X.w X.mg x ks) (hg : Gl X x) (ha : QE X W a ta qa) (hd : (x == ("__debug__" : Str)) = false := by decide) (hm : behindInMarks .In (.Name x p) = false := by first | exact nomark _ | rfl) :
    ∃ t, QE X W (.Compare a [.In] [.Name x p] pos) t (qUn (dInK false ks) qa) := by
  obtain ⟨d, h1, h2⟩ := h.ex
  obtain ⟨es, n, KD⟩ := He.dicW_ok h2
  refine ⟨_, pe_cmpR (op_in_kd KD) ha.pe (pe_glob hg h1 (v := .ref d) rfl hd) hm, fun DW G H p M s Q Q' hw S hq k => ha.rf DW G H p M s _ _ hw S hq fun G1 H1 M1 dv v e1 S1 r1 h1 => ?_⟩
  unfold dInK at h1
  split at h1
  · next z e =>
    obtain ⟨rfl, _, _⟩ := as_str r1 e
    obtain ⟨r, n1, n2⟩ := nsIn_keys h2 z
    exact ⟨z, r, rfl, rfl, n1, k G1 H1 M1 (.bl r.isSome) _ e1 S1 rfl (by rw [n2]; simpa using h1)⟩
  · exact h1.elim
end
end DL

/-! DLr: zip of two tuples (or two lists). -/
namespace DL
open PySem L2
def tupAt : D → Option (List D)
  | .tup ds => some ds
  | .ktp ds => some ds
  | .xtp ds => some ds
  | _ => none
theorem tupAt_of {K : PySem.W.Frag} {G : Hp} {d : D} {v : V} {ds : List D} (r : Rep K G d v) (h : tupAt d = some ds) : ∃ a vs, v = .ref a ∧ SqT K G a vs ∧ RepL K G ds vs ∧ ds.length ≤ sizeLine := by
  cases d with
  | tup es =>
    cases h
    obtain ⟨a, vs, rfl, g1, g2, g3⟩ := r
    exact ⟨a, vs, rfl, .inl (.inl g1), g2, by rw [← g2.length]; exact g3⟩
  | ktp es =>
    cases h
    obtain ⟨a, vs, rfl, g1, g2, g3⟩ := r
    exact ⟨a, vs, rfl, g1, g2, by rw [← g2.length]; exact g3⟩
  | xtp es =>
    cases h
    obtain ⟨a, o, vs, rfl, g1, g0, g2, g3⟩ := r
    exact ⟨a, vs, rfl, .inl (.inr ⟨o, g1⟩), g2, by rw [← g2.length]; exact g3⟩
  | _ => cases h
def qiZipT (qa : DTA) : DTI := fun DW p M R => qa DW p M fun ds M1 => match ds with
  | [x, y] => match tupAt x, tupAt y with
    | some es, some fs => R (zipD es fs) always M1
    | _, _ => False
  | _ => False
section
variable {X : Cx} {W : WX} {e e2 : Expr} {ta : TA} {qa : DTA} {p pos tpos : Pos} {elts : List Expr} {kk : Nat}
theorem qi_zipT (hg : Gl X "zip") (hm : X.mg "zip" = none) (ha : QA X W [e, e2] ta qa)
    (hs : starEach [e, e2] X.env = (false, eval e X.env) :: starEach [e2] X.env := by rfl) (hpl : (backTo pos (starEach [e2] X.env)).any (·.1) = false := by rfl) :
    QI X W (.Tuple elts kk tpos) (.Call (.Name "zip" p) [e, e2] [] pos) (RZ.iZipA X.K ta) (qiZipT qa) :=
  ⟨RZ.pi_zipA hg hm ha.pe hs hpl, fun DW G H p M s R R' hw S h k => ha.rf DW G H p M s _ _ hw S h fun G1 H1 M1 ds vs e1 S1 r1 h1 => by
    split at h1
    · next x y =>
      obtain ⟨v, u, rfl, r2, r3⟩ := repL2 r1
      split at h1
      · next es fs el1 el2 =>
        obtain ⟨a, us, rfl, c1, c2, len1⟩ := tupAt_of r2 el1
        obtain ⟨b, ws, rfl, d1, d2, len2⟩ := tupAt_of r3 el2
        refine ⟨a, b, us, ws, rfl, .inr ⟨same_t S1.same c1, same_t S1.same d1, k G1 H1 M1 _ _ _ e1 S1 ⟨fun G' H p M s i e S st hi => ?_, fun G' H p M s i x H' e S st y d hd => ?_, fun G' H p M s e S st => ?_⟩ (by rw [zipD_length]; omega) h1⟩⟩
        · rw [zipD_length] at hi
          obtain ⟨x, hx⟩ := get_lt (xs := us) (i := i) (by rw [c2.length]; omega)
          obtain ⟨y, hy⟩ := get_lt (xs := ws) (i := i) (by rw [d2.length]; omega)
          exact ⟨us, ws, x, y, same_t (e.trans S.same) c1, same_t (e.trans S.same) d1, hx, hy⟩
        · obtain ⟨T, x', y', rfl, hT, rfl, y1, y2⟩ := y
          rw [zipD_get] at hd
          split at hd
          · next d' d'' ed1 ed2 =>
            cases hd
            obtain ⟨w, w1, w2⟩ := c2.get ed1
            rw [y1 us (same_t (e.trans S.same) c1)] at w1; cases w1
            obtain ⟨w, w1, w3⟩ := d2.get ed2
            rw [y2 ws (same_t (e.trans S.same) d1)] at w1; cases w1
            obtain ⟨e2, S2⟩ := S.made (o := .tup [x', y']) hT
            exact ⟨_, e2, S2, T, _, rfl, upd_same, RepL.mono e2 _ _ (RepL.cons (Rep.mono e _ _ w2) (RepL.cons (Rep.mono e _ _ w3) rfl)), sz1000 (by simp)⟩
          · cases hd
        · refine ⟨us, ws, same_t (e.trans S.same) c1, same_t (e.trans S.same) d1, ?_⟩
          rw [zipD_length, c2.length, d2.length]; omega
      · exact h1.elim
    · exact h1.elim⟩
end
end DL

/-! DLs: the bag by the script's own places. -/
namespace DL
open PySem L2
def qBag2R : DTS :=
  (qSeq (qAsg (qC (.int 0)) (gNameD 2))
  (qSeq (qIfS (qTB (qOp (dCmpI fun i j => decide (i < j)) (qVar 1) (qCB dLen (qCons (qVar 0) qNil))))
  (qAsg (qOp dIx (qVar 0) (qVar 1)) (gNameD 2))
  qNext)
  (qSeq (qAsg (qC (.int 0)) (gNameD 3))
  (qSeq (qIfS (qTB (qOp (dCmpI fun i j => decide (j ≤ i)) (qCB dAbs (qCons (qVar 2) qNil)) (qOp (dInt CPow fun i j => i ^ j.toNat) (qC (.int 10)) (qC (.int 18)))))
  (qAsg (qCB dAbs (qCons (qVar 2) qNil)) (gNameD 3))
  qNext)
  (qSeq (qAsg (qLst false (qCons (qC (.int 2147483629)) (qCons (qC (.int 2147483587)) (qCons (qC (.int 2147483579)) (qCons (qC (.int 2147483563)) (qCons (qC (.int 2147483549)) (qCons (qC (.int 2147483543)) (qCons (qC (.int 2147483497)) (qCons (qC (.int 2147483489)) qNil))))))))) (gNameD 4))
  (qRet (qLst true (qCons (qVar 3) (qCons (qOp (dInt (fun _ j => 0 < j) fun i j => i % j) (qOp (dInt CPow fun i j => i ^ j.toNat) (qOp (dAdd false) (qOp (dAdd false) (qOp (dInt (fun _ j => 0 < j) fun i j => i % j) (qVar 2) (qC (.int 2147483647))) (qOp (dInt CMul fun i j => i * j) (qC (.int 104729)) (qVar 1))) (qC (.int 7))) (qC (.int 5))) (qOp dIx (qVar 4) (qOp (dInt (fun _ j => 0 < j) fun i j => i % j) (qVar 1) (qC (.int 8))))) qNil)))))))))
def bag2Tail : DTS :=
  (qSeq (qAsg (qLst false (qCons (qC (.int 2147483629)) (qCons (qC (.int 2147483587)) (qCons (qC (.int 2147483579)) (qCons (qC (.int 2147483563)) (qCons (qC (.int 2147483549)) (qCons (qC (.int 2147483543)) (qCons (qC (.int 2147483497)) (qCons (qC (.int 2147483489)) qNil))))))))) (gNameD 4))
  (qRet (qLst true (qCons (qVar 3) (qCons (qOp (dInt (fun _ j => 0 < j) fun i j => i % j) (qOp (dInt CPow fun i j => i ^ j.toNat) (qOp (dAdd false) (qOp (dAdd false) (qOp (dInt (fun _ j => 0 < j) fun i j => i % j) (qVar 2) (qC (.int 2147483647))) (qOp (dInt CMul fun i j => i * j) (qC (.int 104729)) (qVar 1))) (qC (.int 7))) (qC (.int 5))) (qOp dIx (qVar 4) (qOp (dInt (fun _ j => 0 < j) fun i j => i % j) (qVar 1) (qC (.int 8))))) qNil)))))
theorem bag2_end (c gr i : Int) (ns : List Int) (M : Mst) (Q : DK) (Ed : DX → Mst → Prop) (i0 : 0 ≤ i) (i1 : i < 10000) (g0 : 0 ≤ gr) (k : ∀ (p : Addr) (g m : Int), M p = none → 0 ≤ g → 0 ≤ m → m < 2147483648 → Q (.ref p) (put M p (.lst [.int g, .int m]))) (x5 : Option D) :
    bag2Tail (fun x _ M => Ed x M) (retE Q) [some (.scr ns), some (.int i), some (.int c), some (.int gr), x5] M := by
  simp only [bag2Tail, qSeq, qIfS, qTB, qOp, qVar, qC, qAsg, gNameD, qRet, qTup, qLst, qCons, qNil, retE, List.set_cons_zero, List.set_cons_succ, List.getElem?_cons_zero, List.getElem?_cons_succ, dInt_i, dAdd_i, newL_t]
  have z0 := Int.emod_nonneg c (show (2147483647 : Int) ≠ 0 by decide)
  have z1 := Int.emod_lt_of_pos c (show (0 : Int) < 2147483647 by decide)
  generalize c % 2147483647 = c2 at z0 z1 ⊢
  refine ⟨by simp, by decide, .inl ⟨by decide, by decide⟩, cpow_small (j := 5) (by omega) (by omega) (by decide), by decide, ?_⟩
  generalize (c2 + 104729 * i + 7) ^ Int.toNat 5 = big
  obtain ⟨x, hx, hm⟩ := atI_some (xs := [D.int 2147483629, .int 2147483587, .int 2147483579, .int 2147483563, .int 2147483549, .int 2147483543, .int 2147483497, .int 2147483489]) (i := i % 8) (Int.emod_nonneg _ (by decide)) (Int.emod_lt_of_pos _ (by decide))
  rw [ix_l hx]
  have : ∃ q : Int, x = .int q ∧ 0 < q ∧ q < 2147483648 := by
    simp only [List.mem_cons, List.not_mem_nil, or_false] at hm
    rcases hm with h | h | h | h | h | h | h | h <;> exact ⟨_, h, by decide, by decide⟩
  obtain ⟨q, rfl, q0, q1⟩ := this
  refine ⟨q0, by simp, fun p hp => k p _ _ hp g0 (Int.emod_nonneg _ (by omega)) ?_⟩
  have := Int.emod_lt_of_pos big q0
  show big % q < _
  omega

def bag2Mid (a b : Int) : DTS := (qSeq (qAsg (qC (.int 0)) (gNameD 3))
  (qSeq (qIfS (qTB (qOp (dCmpI fun i j => decide (j ≤ i)) (qCB dAbs (qCons (qVar 2) qNil)) (qOp (dInt CPow fun i j => i ^ j.toNat) (qC (.int a)) (qC (.int b)))))
  (qAsg (qCB dAbs (qCons (qVar 2) qNil)) (gNameD 3))
  qNext) bag2Tail))
theorem bag2_mid (ns : List Int) (i : Int) (M : Mst) (Q : DK) (Ed : DX → Mst → Prop) (i0 : 0 ≤ i) (i1 : i < 10000) (k : ∀ (p : Addr) (g m : Int), M p = none → 0 ≤ g → 0 ≤ m → m < 2147483648 → Q (.ref p) (put M p (.lst [.int g, .int m])))
    (a b : Int) (hab : CPow a b) (c : Int) : bag2Mid a b (fun x _ M => Ed x M) (retE Q) [some (.scr ns), some (.int i), some (.int c), none, none] M := by
  simp only [bag2Mid, qSeq, qAsg, qC, gNameD, List.set_cons_zero, List.set_cons_succ]
  simp only [qIfS, qTB, qOp]
  simp only [qCB, qCons, qVar, List.getElem?_cons_zero, List.getElem?_cons_succ]
  simp only [qNil, qC, dAbs_i, dInt_i, dCmpI_i, qNext]
  have ab : 0 ≤ if c < 0 then -c else c := by split <;> omega
  refine ⟨hab, ?_⟩
  have no : bag2Tail (fun x _ M => Ed x M) (retE Q) [some (.scr ns), some (.int i), some (.int c), some (.int 0), none] M := bag2_end c 0 i ns M Q Ed i0 i1 (by omega) k none
  have y2 : bag2Tail (fun x _ M => Ed x M) (retE Q) [some (.scr ns), some (.int i), some (.int c), some (.int (if c < 0 then -c else c)), none] M := bag2_end c _ i ns M Q Ed i0 i1 ab k none
  generalize bag2Tail = tail at no y2 ⊢
  by_cases h1 : decide (a ^ b.toNat ≤ if c < 0 then -c else c) = true
  · rw [if_pos h1]
    rw [abs_set _ _ _ _ _ .non]; exact y2
  · rw [if_neg h1]; exact no
theorem bag2_ok (ds : List D) (M : Mst) (Q : DK) (Ed : DX → Mst → Prop) (h : upSp spBagL ds M Q Ed) : qBag2R (fun x _ M => Ed x M) (retE Q) (startD ["_law_script", "_law_at", "_law_cell", "_law_great", "_law_primes"] ds) M := by
  obtain ⟨Q0, E0, ⟨ns, i, rfl, i0, i1, k0⟩, kq, _⟩ := h
  have k : ∀ (p : Addr) (g m : Int), M p = none → 0 ≤ g → 0 ≤ m → m < 2147483648 → Q (.ref p) (put M p (.lst [.int g, .int m])) := fun p g m a1 a2 a3 a4 => kq _ _ _ (Sub.refl _) (k0 p g m a1 a2 a3 a4)
  have part := bag2_mid ns i M Q Ed i0 i1 k 10 18 (cpow_small (j := 18) (by omega) (by omega) (by omega))
  show qSeq (qAsg (qC (.int 0)) (gNameD 2)) (qSeq (qIfS (qTB (qOp (dCmpI fun i j => decide (i < j)) (qVar 1) (qCB dLen (qCons (qVar 0) qNil))))
  (qAsg (qOp dIx (qVar 0) (qVar 1)) (gNameD 2))
  qNext) (bag2Mid 10 18)) _ _ [some (.scr ns), some (.int i), none, none, none] M
  generalize bag2Mid 10 18 = mid at part ⊢
  simp only [qSeq, qIfS, qTB, qOp, qVar, qC, qAsg, gNameD, qCB, qCons, qNil, qNext, List.set_cons_zero, List.set_cons_succ, List.getElem?_cons_zero, List.getElem?_cons_succ, dCmpI_i, len_s']
  by_cases h : i < (ns.length : Int)
  · rw [if_pos (by simpa using h)]
    obtain ⟨x, hx, _⟩ := atI_some (xs := ns) (i := i) i0 h
    rw [ix_s hx]
    exact part x
  · rw [if_neg (by simpa using h)]
    exact part 0
end DL

/-! TextA: texts of words with blanks and great letters. -/
namespace Tx20
open PySem L2 DL PyProof.Rows
def Asc (x : Str) : Prop := ∀ c ∈ x.cps.toList, c < 128
theorem asc_app {a b : Str} (ha : Asc a) (hb : Asc b) : Asc (a ++ b) := fun c hc => by
  rw [PySem.Str.cps_append, Array.toList_append, List.mem_append] at hc
  exact hc.elim (ha c) (hb c)
theorem asc_one {c : Nat} (h : c < 128) : Asc ⟨#[c]⟩ := fun d hd => by simp at hd; subst hd; exact h
theorem asc_empty : Asc Str.empty := fun d hd => by simp [Str.empty] at hd
theorem low_app {a b : Str} (ha : Asc a) (hb : Asc b) : Txt.lower (a ++ b) = Txt.lower a ++ Txt.lower b := by
  rw [lower_ascii ha, lower_ascii hb, lower_ascii (asc_app ha hb)]
  apply PySem.Str.ext'
  rw [PySem.Str.cps_append, PySem.Str.cps_append, Array.map_append]
theorem low_one {c : Nat} (h : c < 128) : Txt.lower ⟨#[c]⟩ = ⟨#[lo1 c]⟩ := by
  rw [lower_ascii (asc_one h)]; simp
theorem low_len {x : Str} (h : Asc x) : (Txt.lower x).length = x.length := by
  rw [lower_ascii h]; show (x.cps.map lo1).size = x.cps.size; simp
theorem low_asc {x : Str} (h : Asc x) : Asc (Txt.lower x) := fun c hc => by
  rw [lower_ascii h] at hc
  simp only [Array.toList_map, List.mem_map] at hc
  obtain ⟨d, hd, rfl⟩ := hc
  have := h d hd
  unfold lo1; split <;> omega
theorem ok_asc {x : Str} (h : Asc x) (hl : x.length ≤ 100000) : okS x := ⟨hl, by
  unfold PyData.strOk
  rw [← Array.all_toList, List.all_eq_true]
  intro c hc
  have := h c hc
  exact decide_eq_true (by omega)⟩
/-- x read up to here: the words done, the word begun -/
structure St (x : Str) (done : List Str) (cur : Str) : Prop where
  asc : Asc x
  at_ : KWd.scan (Txt.lower x) = (done, cur)
theorem st_empty : St Str.empty [] Str.empty := ⟨asc_empty, by
  have e : Txt.lower Str.empty = Str.empty := by rw [lower_ascii asc_empty]; simp [Str.empty]
  rw [e]; rfl⟩
theorem space32 : Unicode.isSpace (lo1 32) = true := by decide +kernel
theorem blank_one {x : Str} {done : List Str} {cur : Str} (h : St x done cur) : St (x ++ ⟨#[32]⟩) (if cur.length = 0 then done else done ++ [cur]) (if cur.length = 0 then cur else Str.empty) := by
  refine ⟨asc_app h.asc (asc_one (by decide)), ?_⟩
  rw [low_app h.asc (asc_one (by decide)), low_one (by decide), KWd.scan_snoc, h.at_]
  unfold KWd.step
  rw [if_pos space32]
  by_cases e : cur.length = 0
  · simp only [e, if_true]
  · simp only [e, if_false]
theorem len0 {x : Str} (h : x.length = 0) : x = Str.empty := by
  cases x with
  | mk cps =>
    have : cps.size = 0 := h
    have e : cps = #[] := Array.eq_empty_of_size_eq_zero this
    rw [e]; rfl
theorem app_empty (x : Str) : x ++ Str.empty = x := by
  apply PySem.Str.ext'; rw [PySem.Str.cps_append]; simp [Str.empty]
theorem app_assoc (x y z : Str) : x ++ y ++ z = x ++ (y ++ z) := by
  apply PySem.Str.ext'; simp only [PySem.Str.cps_append]; rw [Array.append_assoc]
def blanks : Nat → Str
  | 0 => Str.empty
  | n + 1 => ⟨#[32]⟩ ++ blanks n
theorem blanks_asc : ∀ n, Asc (blanks n)
  | 0 => asc_empty
  | n + 1 => asc_app (asc_one (by decide)) (blanks_asc n)
theorem blanks_len : ∀ n, (blanks n).length = n
  | 0 => rfl
  | n + 1 => by
    show ((⟨#[32]⟩ : Str) ++ blanks n).length = n + 1
    rw [len_append, blanks_len n]; show 1 + n = _; omega
theorem rep_blank (n : Int) : repS (PySem.Str.ofString " ") n = blanks n.toNat := by
  have e : (PySem.Str.ofString " ").cps = #[32] := by decide +kernel
  unfold repS
  rw [e]
  generalize n.toNat = k
  have : ∀ (k : Nat) (acc : Array Nat), (⟨(List.replicate k #[32]).foldl (· ++ ·) acc⟩ : Str) = (⟨acc⟩ : Str) ++ blanks k := fun k => by
    induction k with
    | zero => intro acc; exact (app_empty _).symm
    | succ k ih =>
      intro acc
      rw [List.replicate_succ, List.foldl_cons, ih]
      show (⟨acc ++ #[32]⟩ : Str) ++ blanks k = ⟨acc⟩ ++ (⟨#[32]⟩ ++ blanks k)
      rw [← app_assoc]; rfl
  rw [this k #[]]
  apply PySem.Str.ext'; rw [PySem.Str.cps_append]; simp
/-- blanks behind: no word is begun -/
theorem st_blanks0 {x : Str} {done : List Str} : ∀ n : Nat, St x done Str.empty → St (x ++ blanks n) done Str.empty
  | 0, h => by rw [blanks, app_empty]; exact h
  | n + 1, h => by
    have := st_blanks0 n (blank_one h)
    rw [blanks, ← app_assoc]
    simpa [Str.empty, Str.length] using this
theorem st_blanks {x : Str} {done : List Str} {cur : Str} {n : Nat} (h : St x done cur) (hn : 0 < n) (hc : cur.length ≠ 0) : St (x ++ blanks n) (done ++ [cur]) Str.empty := by
  obtain ⟨m, rfl⟩ : ∃ m, n = m + 1 := ⟨n - 1, by omega⟩
  have h1 := blank_one h
  rw [if_neg hc, if_neg hc] at h1
  rw [blanks, ← app_assoc]
  exact st_blanks0 m h1
/-- letters and figures -/
def Lf (c : Nat) : Prop := (97 ≤ c ∧ c ≤ 122) ∨ (48 ≤ c ∧ c ≤ 57)
theorem lf_space : ∀ c, c < 128 → (97 ≤ c ∧ c ≤ 122) ∨ (48 ≤ c ∧ c ≤ 57) → Unicode.isSpace c = false := by decide +kernel
theorem st_sign {x : Str} {done : List Str} {cur : Str} {c d : Nat} (h : St x done cur) (hc : Lf c) (hd : d = c ∨ d = if 97 ≤ c ∧ c ≤ 122 then c - 32 else c) : St (x ++ ⟨#[d]⟩) done (cur ++ ⟨#[c]⟩) := by
  have hd2 : d < 128 ∧ lo1 d = c := by
    unfold Lf at hc
    unfold lo1
    rcases hd with rfl | rfl
    · refine ⟨by omega, ?_⟩; split <;> omega
    · split
      · refine ⟨by omega, ?_⟩; rw [if_pos (by omega)]; omega
      · refine ⟨by omega, ?_⟩; split <;> omega
  refine ⟨asc_app h.asc (asc_one hd2.1), ?_⟩
  rw [low_app h.asc (asc_one hd2.1), low_one hd2.1, KWd.scan_snoc, h.at_, hd2.2]
  unfold KWd.step
  have hs := lf_space c (by unfold Lf at hc; omega) hc
  rw [if_neg (by rw [hs]; exact Bool.false_ne_true)]
theorem st_words {x : Str} {done : List Str} {cur : Str} (h : St x done cur) : Txt.words (Txt.lower x) = if cur.length = 0 then done else done ++ [cur] := KWd.words_of h.at_
theorem up_one {c : Nat} (h : c < 128) : Txt.upper ⟨#[c]⟩ = ⟨#[if 97 ≤ c ∧ c ≤ 122 then c - 32 else c]⟩ := PySem.W.KOpn.upper_one h
/-- a text that is read as these words -/
structure Mixed (x : Str) (ws : List Str) : Prop where
  ok : okS x
  low : okS (Txt.lower x)
  words : Txt.words (Txt.lower x) = ws
theorem st_mixed {x : Str} {done : List Str} {cur : Str} (h : St x done cur) (hl : x.length ≤ 100000) : Mixed x (if cur.length = 0 then done else done ++ [cur]) :=
  ⟨ok_asc h.asc hl, ok_asc (low_asc h.asc) (by rw [low_len h.asc]; exact hl), st_words h⟩
end Tx20

set_option maxHeartbeats 4000000
/-! DLt: own exception classes over any built-in one, with an __init__ that stores: by values. -/
namespace DL
open PySem PySem.Spec PyProof.Rows L2

/-- a built-in exception class B over which own ones stand -/
structure BaseX (B n i : String) (tl : List Value) : Prop where
  fb : ExcBaseFacts B n i tl
  sf : StoreFacts B tl "object.__setattr__" "object"
  ty : typeOf (.type B) = pure (.type "type")
  nd : (Value.type B == Value.type "type") = false
/-- what the written part says of the own class at C, straight over it -/
structure XB (K : PySem.W.Frag) (C : Addr) (n : String) (tl : List Value) : Prop where
  cls : ∃ nm q N bs bm sn sub ab col dd k0 k1 k2 k3 k5, K.lookup C = some (excClassObj nm q C N bs bm true sn sub ab col dd k0 k1 k2 k3 k5 n) ∧ PySem.W.excTail tl bm = true
  sa : PySem.W.findIn K (.ref C) "__setattr__" = some (some (.builtin "object.__setattr__"))
  exC : PySem.W.subIn K (.ref C) (.type "BaseException") = some true
  tyC : PySem.W.typeIn K (.ref C) = some (.type "type")
  kC : PySem.W.keepIn K (.ref C) = true
theorem XB.over {K : PySem.W.Frag} {C : Addr} {n : String} {tl : List Value} (T : XB K C n tl) : PySem.W.excOver K C tl = true ∧ ∃ cd, PySem.W.clsIn K C = some cd ∧ cd.hasDict = true := by
  obtain ⟨nm, q, N, bs, bm, sn, sub, ab, col, dd, k0, k1, k2, k3, k5, hC, hbm⟩ := T.cls
  have hcl : PySem.W.clsIn K C = some { name := nm, bases := bs, mro := .ref C :: bm, ns := N, qualname := q, hasDict := true, slotNames := sn, subclasses := sub, abstract := ab, collection := col, hasDel := false } := by
    unfold PySem.W.clsIn; rw [hC] <;> rfl
  refine ⟨?_, _, hcl, rfl⟩
  unfold PySem.W.excOver
  rw [hcl]
  simp [Option.any, hbm]
theorem taker_none {K : PySem.W.Frag} {C : Addr} {f : Str} (h : PySem.W.findIn K (.ref C) f = some none) : PySem.W.takerIn K C f = some none := by
  unfold PySem.W.takerIn; rw [h]; rfl
abbrev exF (t1 : Addr) : Array Value := #[.ref t1, .none, .none, .none, .bool false, .none]
section
variable {prog : Program} {w : World} {A : Around} {R : Result → Shared → Prop} {hp : Heap} {g : Array GenState} {d : Drawn} {t : Nat} {os : OsState} {B n i : String} {tl : List Value} {K : PySem.W.Frag}
theorem first_store {f : Str} {tk : Tok} {v : Value} {x C : Addr} {fv : Array Value} (F : BaseX B n i tl) (T : XB K C n tl) (X : K.In hp) (hx : hp.get? x = some { cls := .ref C, data := .fields fv }) (hf : PySem.W.findIn K (.ref C) f = some none)
    (hq : ∀ h' tk' dx, (∀ b o, b ≠ x → hp.get? b = some o → h'.get? b = some o) → hp.objs.size ≤ dx → dx ≠ x → h'.get? x = some { cls := .ref C, dict := some dx, data := .fields fv } →
      h'.Ns1 dx (fun y => if y = f then some v else none) → R (.ok (.ret .none)) ⟨h', g, d, tk', os⟩) :
    codeAny (model prog w) A (.call (.builtin "object.__setattr__") ⟨[.ref x, .str f tk, v], []⟩) R ⟨hp, g, d, t, os⟩ := by
  obtain ⟨ov, cd, hcd, hdt⟩ := T.over
  have hxs : x ≠ hp.objs.size := Nat.ne_of_lt (Heap.lt_size hx)
  have L : PySem.W.Looks (model prog w) hp (classData C) cd := PySem.W.looks_clsIn X hcd
  refine PySem.W.osa_openX (s := ⟨hp, g, d, t, os⟩) (od := none) F.sf X ⟨hx, rfl, rfl, trivial⟩ ov (taker_none hf) fun b => ?_
  show wpAny _ _ (Builtin.ObjectAttr.storeInOwnDict (.ref x) (.ref C) (.str f tk) f v b) _ _ _
  obtain ⟨nm, bs, mro, ns, qn, hd, sn, sb, ab, col, dl⟩ := cd
  dsimp only at hdt
  subst hdt
  unfold Builtin.ObjectAttr.storeInOwnDict Builtin.ObjectAttr.ownDictForStores
  repeat (first | with_reducible refine HandSPX.store_in_new ?_ ?_ | with_reducible refine wpAny_loadPart_at hx ?_ | with_reducible refine L.at ?_ | wp_step)
  · exact ⟨_, #[], _, (Heap.get?_update_ne _ _ _ _ hxs.symm).trans (Heap.get?_push_at rfl rfl), rfl, fun e he => absurd he (by simp), fun _ => rfl⟩
  · intro h' tk' hn' hs
    have hx1 : (hp.push { cls := .type "dict", data := .dict #[] }).get? x = some { cls := .ref C, data := .fields fv } := Heap.get?_push_of_some _ hx
    refine hq h' tk' hp.objs.size (fun b o hb ho => ?_) (Nat.le_refl _) hxs.symm ((hs.2 x hxs).trans (Heap.get?_update_self _ hx1 rfl)) hn'
    exact (hs.2 b (Nat.ne_of_lt (Heap.lt_size ho))).trans ((Heap.get?_update_ne _ _ _ _ hb).trans (Heap.get?_push_of_some _ ho))
theorem next_store {f : Str} {tk : Tok} {v : Value} {x C dx : Addr} {fv : Array Value} {m0 : Str → Option Value} {nl : List Str} (F : BaseX B n i tl) (T : XB K C n tl) (X : K.In hp) (hx : hp.get? x = some { cls := .ref C, dict := some dx, data := .fields fv })
    (hns : hp.Ns1 dx m0) (hw : Within m0 nl) (hz : nl.length ≤ 1000) (hf : PySem.W.findIn K (.ref C) f = some none)
    (hq : ∀ h' tk', (∀ b o, b ≠ dx → hp.get? b = some o → h'.get? b = some o) → h'.Ns1 dx (fun y => if y = f then some v else m0 y) → R (.ok (.ret .none)) ⟨h', g, d, tk', os⟩) :
    codeAny (model prog w) A (.call (.builtin "object.__setattr__") ⟨[.ref x, .str f tk, v], []⟩) R ⟨hp, g, d, t, os⟩ := by
  obtain ⟨ov, cd, hcd, hdt⟩ := T.over
  have L : PySem.W.Looks (model prog w) hp (classData C) cd := PySem.W.looks_clsIn X hcd
  obtain ⟨oD, esD, epD, hoD, hdD, _⟩ := hns.count hw
  refine PySem.W.osa_openX (s := ⟨hp, g, d, t, os⟩) (od := some oD) F.sf X ⟨hx, rfl, rfl, hoD⟩ ov (taker_none hf) fun b => ?_
  show wpAny _ _ (Builtin.ObjectAttr.storeInOwnDict (.ref x) (.ref C) (.str f tk) f v b) _ _ _
  obtain ⟨nm, bs, mro, ns, qn, hd, sn, sb, ab, col, dl⟩ := cd
  dsimp only at hdt
  subst hdt
  unfold Builtin.ObjectAttr.storeInOwnDict Builtin.ObjectAttr.ownDictForStores
  repeat (first | with_reducible refine OEX.store_in_old hns hw hz ?_ | with_reducible refine wpAny_loadPart_at hx ?_ | with_reducible refine L.at ?_ | wp_step)
  exact fun h' tk' hn' hs => hq h' tk' (fun b o hb ho => (hs.2 b hb).trans ho) hn'
end
section
variable {X : Cx} {pins : List (Addr × Obj)} {σ : L2.St} {H : Hp} {s : Shared} {a C dx : Addr} {f : Str} {y : V} {u : Value} {fs : List (Str × V)} {Q : Unit → Shared → Prop} {E : Value → Shared → Prop} {A : Around} {B n i : String} {tl : List Value}
/-- self.f = y, the first one -/
theorem set_first (F : BaseX B n i tl) (T : XB X.K C n tl) (I : Inv X pins σ H s) (e : H a = some (exo a C none)) (hno : PySem.W.findIn X.K (.ref C) f = some none) (ry : RelV y u)
    (h : ∀ dx s', H dx = none → dx ≠ a → Inv X pins σ (upd (upd H dx (exd dx [(f, y)])) a (exo a C (some dx))) s' → Q () s') : wpAny (model X.prog X.w) A (setAttr (.ref a) f u) Q E s := by
  obtain ⟨t1, ho⟩ := exo_at I.hok e
  obtain ⟨hp, g, d, t, os⟩ := s
  refine PySem.W.set_plain I.kIn (ox := { cls := .ref C, dict := none, data := .fields (exF t1) }) (od := none) ⟨ho, rfl, rfl, trivial⟩ T.sa ?_
  refine first_store F T I.kIn ho hno fun h' tk' dx k dn dne hx hn => ?_
  have hnd : H dx = none := I.hok.fresh dn
  have na : ∀ {b : Addr}, H b = none → b ≠ a := fun {b} z q => by rw [q, e] at z; cases z
  have U : Un X.fs [] H (upd (upd H dx (exd dx [(f, y)])) a (exo a C (some dx))) hp h' :=
    ⟨fun b o q z _ _ => k b o (na z) q, fun b o q z _ _ => ⟨o.slots, k b o (na z) q⟩,
      fun b o q z _ => (upd_ne (na z)).trans ((upd_ne (Nat.ne_of_lt (Nat.lt_of_lt_of_le (Heap.lt_size q) dn))).trans z),
      fun b o q _ => (Classical.em (b = a)).elim (fun z => ⟨_, z ▸ hx⟩) fun z => ⟨o, k b o z q⟩,
      fun b xs q => (upd_ne (at_ne e q exo_tup)).trans ((upd_ne (ne_of_none q hnd)).trans q),
      fun b o v q => (upd_ne (at_ne e q exo_frz)).trans ((upd_ne (ne_of_none q hnd)).trans q),
      fun b ps q => ⟨#[], by rw [upd_ne (at_ne e q exo_tbl), upd_ne (ne_of_none q hnd), q]; simp⟩⟩
  refine h dx _ hnd dne (I.un (t' := tk') U fun b o q => ?_)
  rcases Classical.em (b = a) with z | hb
  · subst z; rw [upd_same] at q; cases q; exact exo_ok hx
  rw [upd_ne hb] at q
  rcases Classical.em (b = dx) with z | hd
  · subst z; rw [upd_same] at q; cases q; exact exd_ok hn (relO_put (fs := []) ry fun _ => trivial)
  rw [upd_ne hd] at q
  refine (I.hok b o q).stay (fun c v hc z => k c v ?_ z) (fun c hc => (upd_ne (at_ne e hc exo_own)).trans ((upd_ne (ne_of_none hc hnd)).trans hc)) fun c xs hc => (upd_ne (at_ne e hc exo_tup)).trans ((upd_ne (ne_of_none hc hnd)).trans hc)
  exact hc.elim (fun z => z ▸ hb) fun z => at_ne e z exo_own
/-- .. a further one -/
theorem set_next (F : BaseX B n i tl) (T : XB X.K C n tl) (I : Inv X pins σ H s) (e : H a = some (exo a C (some dx))) (ed : H dx = some (exd dx fs)) (hl : fs.length ≤ 900) (hno : PySem.W.findIn X.K (.ref C) f = some none) (ry : RelV y u)
    (h : ∀ s', Inv X pins σ (upd H dx (exd dx ((f, y) :: fs))) s' → Q () s') : wpAny (model X.prog X.w) A (setAttr (.ref a) f u) Q E s := by
  obtain ⟨t1, ho⟩ := exo_at I.hok e
  obtain ⟨mA, hns, rel⟩ := exd_at I.hok ed
  obtain ⟨hp, g, d, t, os⟩ := s
  obtain ⟨oD, _, _, hoD, _, _⟩ := hns.count (within_of rel)
  refine PySem.W.set_plain I.kIn (ox := { cls := .ref C, dict := some dx, data := .fields (exF t1) }) (od := some oD) ⟨ho, rfl, rfl, hoD⟩ T.sa ?_
  refine next_store F T I.kIn ho hns (within_of rel) (by rw [List.length_map]; omega) hno fun h' tk' k hn => ?_
  exact h _ (I.write (t' := tk') (x := dx) (e := dx) (o := exd dx ((f, y) :: fs)) (by rw [ed]; trivial) (.inl rfl) k (by obtain ⟨o, _, _, z, _⟩ := hn; exact ⟨o, z⟩) (exd_ok hn (relO_put ry rel)))
/-- B.__init__(self, ..): nothing of it is told -/
theorem base_init {us : List Value} {Q : Value → Shared → Prop} (F : BaseX B n i tl) (T : XB X.K C n tl) (I : Inv X pins σ H s) (e : H a = some (exo a C none)) (hl : us.length ≤ sizeLine) (h : ∀ s', Inv X pins σ H s' → Q .none s') :
    wpAny (model X.prog X.w) A (call (.builtin i) (.ref a :: us)) Q E s := by
  obtain ⟨nm, q, N, bs, bm, sn, sub, ab, col, dd, k0, k1, k2, k3, k5, hC, hbm⟩ := T.cls
  obtain ⟨t1, ho⟩ := exo_at I.hok e
  obtain ⟨hp, g, d, t, os⟩ := s
  refine wpAny_call (HandSPX.init_base F.fb (fun Y => PySem.W.excTail_contains Y bm hbm) (I.kIn _ _ hC) ho hl fun h' t2 k hx => ?_)
  have I2 : Inv X pins σ (upd H a (exo a C none)) ⟨h', g, d, t, os⟩ := I.write (t' := t) (x := a) (e := a) (o := exo a C none) (by rw [e]; trivial) (.inl rfl) k ⟨_, hx⟩ (exo_ok hx)
  have eH : upd H a (exo a C none) = H := by funext b; by_cases z : b = a <;> simp [upd, z, e]
  rw [eH] at I2
  exact h _ I2
end

/-! ### rules: B.__init__(self, 'text'), self.f = e, C(e, ..) -/
def tBInit (K : PySem.W.Frag) (n : String) (tl : List Value) (ta : TA) : TE := fun σ H Q => ta σ H fun vs H1 => ∃ (a C : Addr) (ws : List V), vs = .ref a :: ws ∧ ws.length ≤ 1000 ∧ XB K C n tl ∧ H1 a = some (exo a C none) ∧ Q .non H1
def tXSet (K : PySem.W.Frag) (n : String) (tl : List Value) (f : Str) (to te : TE) : TS := fun D σ H => te σ H fun y H1 => to σ H1 fun x H2 => ∃ a C : Addr, x = .ref a ∧ XB K C n tl ∧ PySem.W.findIn K (.ref C) f = some none ∧
  ((H2 a = some (exo a C none) ∧ ∀ dx, H2 dx = none → dx ≠ a → D.nx σ (upd (upd H2 dx (exd dx [(f, y)])) a (exo a C (some dx)))) ∨
    ∃ (dx : Addr) (fs : List (Str × V)), H2 a = some (exo a C (some dx)) ∧ H2 dx = some (exd dx fs) ∧ fs.length ≤ 900 ∧ D.nx σ (upd H2 dx (exd dx ((f, y) :: fs))))
section
variable {X : Cx} {o e : Expr} {es : List Expr} {to te : TE} {ta : TA} {f : Str} {p p' p1 p2 pos : Pos} {B n i : String} {tl : List Value}
theorem pe_binit {pl : Sem Bool} (F : BaseX B n i tl) (hg : Gl X (PySem.Str.ofString B)) (hm : X.mg (PySem.Str.ofString B) = none) (bt : bootBuiltins (PySem.Str.ofString B) = some (.type B))
    (vV : PySem.W.findCls X.K (.type B) (.type "type") "__init__" = some (.val (.builtin i))) (ha : PA X (e :: es) ta) (hst : Manifest.isStub B = false := by decide +kernel) (hhi : PySem.W.handedIn (.builtin i) = true := by decide +kernel)
    (hnn : (PySem.Str.ofString B) ≠ "__name__" := by decide) (hdb : ((PySem.Str.ofString B) == ("__debug__" : Str)) = false := by decide)
    (hc : eval (.Call (.Attribute (.Name (PySem.Str.ofString B) p1) "__init__" p2) (e :: es) [] pos) X.env = (do
      let ov ← eval (.Name (PySem.Str.ofString B) p1) X.env; standAt p2.atName
      let (f, first) ← holding [ov] (getMethod ov "__init__" pl); callWith pos f first (backTo pos (starEach (e :: es) X.env)) (backToKw pos (keywordEach [] X.env))) := by rfl)
    (he : starEach (e :: es) X.env = (false, eval e X.env) :: starEach es X.env := by rfl) (hpl : (backTo pos (starEach es X.env)).any (·.1) = false := by rfl) :
    PE X (.Call (.Attribute (.Name (PySem.Str.ofString B) p1) "__init__" p2) (e :: es) [] pos) (tBInit X.K n tl ta) := by
  refine ⟨fun pins s σ H Q I h => ?_⟩
  refine PySem.W.methodCall_KW (ld_blt I hg hm bt ?_ hnn hdb) hc
  obtain ⟨m, fr⟩ := I.fr
  refine PySem.W.method_type fr I.ok.mod.kin F.ty hst vV hhi ?_
  show wpAny _ _ (callWith pos (Value.builtin i) [] (backTo pos (starEach (e :: es) X.env)) []) _ _ _
  refine PyProof.Rows.callWith_method1 (thn (ha.run pos pins _ σ H _ (I.tok _) h) fun us s1 ⟨vs, H1, I1, r1, a, C, ws, ev, hl, T, ea, q⟩ => ?_) he hpl
  subst ev
  cases r1 with
  | @cons _ u0 _ ur ra rw' =>
    obtain rfl : u0 = Value.ref a := ra
    exact base_init F T I1 ea (by rw [← Paired.length rw', sizeLine_eq]; omega) fun s' J => ⟨.non, H1, J, rfl, q⟩
theorem ps_xset (F : BaseX B n i tl) (ho : PE X o to) (he : PE X e te) (hs : swapsWith e (some (.Attribute o f p')) pos.line X.env = pure false := by rfl) : PS X (.Assign [.Attribute o f p'] e pos) (tXSet X.K n tl f to te) := by
  refine ⟨fun pins s σ H D I h => ?_⟩
  refine plainObj_wpAny_Assign_Attribute (thn (he.run pins s σ H _ I h) fun v s1 ⟨y, H1, I1, r1, q1⟩ => thn (ho.run pins s1 σ H1 _ I1 q1) fun u s2 hh => ?_) hs
  obtain ⟨x, H2, I2, r2, a, C, ex, T, hno, q⟩ := hh
  subst ex
  obtain rfl : u = Value.ref a := r2
  rcases q with ⟨ea, q⟩ | ⟨dx, fs, ea, ed, hl, q⟩
  · exact set_first F T I2 ea hno r1 fun dx s' n ne J => ⟨σ, _, J, q dx n ne⟩
  · exact set_next F T I2 ea ed hl hno r1 fun s' J => ⟨σ, _, J, q⟩
theorem pmk_xb {CX : CXT} {x : Str} {C fI : Addr} {k : Nat} {fd : FuncData} {ps : List Str} {sp : Sp} (F : BaseX B n i tl) (T : XB X.K C n tl) (iC : PySem.W.findIn X.K (.ref C) "__init__" = some (some (.ref fI))) (tI : PySem.W.typeIn X.K (.ref fI) = some (.type "function"))
    (F1 : FnOk X.prog X.w X.K X.mg X.base CX k fI fd ps sp) (hr : Room (k + 1) X.A) (hb : Binds X.K fd ps []) (hx : Passes CX X (fun _ _ _ => False)) (hg : Gl X x) (hm : X.mg x = some (.ref C)) (ha : PA X (e :: es) ta)
    (hdb : (x == ("__debug__" : Str)) = false := by decide) (he : starEach (e :: es) X.env = (false, eval e X.env) :: starEach es X.env := by rfl) (hpl : (backTo pos (starEach es X.env)).any (·.1) = false := by rfl) :
    PMk X (.Call (.Name x p) (e :: es) [] pos) (tMkO C sp [] ta) := by
  intro pins s σ H Q I h
  obtain ⟨nm, q, N, bs, bm, sn, sub, ab, col, dd, k0, k1, k2, k3, k5, hC, hbm⟩ := T.cls
  refine wpAny_Call_Name_kw (ld_glob I hg hm ?_ hdb)
  refine PySem.W.callWith_K (h₀ := X.base) I.ok.mod.kin T.kC (thn (ha.run pos pins s σ H _ I h) fun us s1 hh => ?_) he hpl
  obtain ⟨vs, H1, I1, r1, hz, q1⟩ := hh
  refine ⟨I1.kIn, ?_⟩
  show wpAny _ _ (call (.ref C) us) _ _ _
  obtain ⟨hp, g, dr, tk, os⟩ := s1
  have hsz : hp.objs.size ≤ hp.objs.size + 1 := Nat.le_succ _
  have hq := q1 _ (I1.hok.fresh hsz)
  rw [List.append_nil] at hq
  generalize eh : (hp.push (PySem.W.kdv_tup us)).push (HandSPX.excO C hp.objs.size) = h9
  have kk : ∀ b o, hp.get? b = some o → h9.get? b = some o := fun b o e => by rw [← eh]; exact Heap.get?_push_of_some _ (Heap.get?_push_of_some _ e)
  have hget : h9.get? (hp.objs.size + 1) = some (HandSPX.excO C hp.objs.size) := by rw [← eh]; heap_get
  have I2 : Inv X pins σ (upd H1 (hp.objs.size + 1) (exo (hp.objs.size + 1) C none)) ⟨h9, g, dr, tk, os⟩ := I1.laid (t' := tk) (a := hp.objs.size + 1) (o := exo (hp.objs.size + 1) C none) (h' := h9) kk hsz (exo_ok hget)
  have r2 : Vals (V.ref (hp.objs.size + 1) :: vs) (Value.ref (hp.objs.size + 1) :: us) := .cons rfl r1
  have hl : (Value.ref (hp.objs.size + 1) :: us).length = ps.length := r2.length.symm.trans (F1.len _ _ _ _ hq)
  have hb' : BindsTo ⟨h9, g, dr, tk, os⟩ fd ⟨Value.ref (hp.objs.size + 1) :: us, []⟩ (ps.zip (Value.ref (hp.objs.size + 1) :: us)) := by
    have z := hb ⟨h9, g, dr, tk, os⟩ (Value.ref (hp.objs.size + 1) :: us) I2.kIn (by rw [List.append_nil]; exact hl)
    rw [List.append_nil] at z
    exact z
  refine wpAny_call (HandSPX.call_own F.fb (fun Y => PySem.W.excTail_contains Y bm hbm) (I1.kIn _ _ hC) (PySem.W.looks_findIn I1.kIn iC) (fun self => PySem.W.bind_fn I1.kIn self tI) (by rw [← Paired.length r1, sizeLine_eq]; omega) ?_)
  rw [eh]
  refine codeAny_mono (F1.run _ X.stack _ _ ⟨Value.ref (hp.objs.size + 1) :: us, []⟩ (Value.ref (hp.objs.size + 1) :: us) _ _ (fun _ _ _ => False) (hr.make C us []) (I2.env0.make C us []) hb' r2 hq) fun r s' hq' => ?_
  match r, hq' with
  | .error er, z => exact hx pins σ _ _ er s' I2 z
  | .ok .next, z => exact z.elim
  | .ok .brk, z => exact z.elim
  | .ok .cont, z => exact z.elim
  | .ok (.ret u), ⟨v, H2, os2, bare2, un2, hok2, rv, ev, d, fs, ea, ed, hd1, q2⟩ =>
    subst ev
    obtain ⟨h2, g2, d2, t2, os'⟩ := s'
    exact ⟨rv, mk_end (raises_own T.exC T.tyC) I1 hsz kk un2 hok2 os2 bare2 ea ed hd1 q2⟩
end

/-! ### what an __init__ that stores one field, or two, promises -/
def spX1 (C : Addr) (f : Str) : Sp := fun vs H Q _ => ∃ (a : Addr) (v : V), vs = [.ref a, v] ∧ H a = some (exo a C none) ∧ ∀ dx, H dx = none → dx ≠ a → Q .non (upd (upd H dx (exd dx [(f, v)])) a (exo a C (some dx)))
def spX2 (C : Addr) (f1 f2 : Str) : Sp := fun vs H Q _ => ∃ (a : Addr) (v1 v2 : V), vs = [.ref a, v1, v2] ∧ H a = some (exo a C none) ∧
  ∀ dx, H dx = none → dx ≠ a → Q .non (upd (upd (upd H dx (exd dx [(f1, v1)])) a (exo a C (some dx))) dx (exd dx [(f2, v2), (f1, v1)]))
section
variable {K : PySem.W.Frag} {C : Addr} {n : String} {tl : List Value} {f g txt x y z : Str} {vs : List V} {H : Hp} {Q : VK} {E : XK}
theorem rdX1 (T : XB K C n tl) (no : PySem.W.findIn K (.ref C) f = some none) (h : spX1 C f vs H Q E) :
    tSeq (tDrop (tBInit K n tl (tCons (tVar 0) (tCons (tC (.str txt)) tNil)))) (tXSet K n tl f (tVar 0) (tVar 1)) { nx := fun _ H' => Q .non H', rt := Q } (L2.start [x, y] vs) H := by
  obtain ⟨a, v, rfl, e, h⟩ := h
  exact ⟨.ref a, rfl, a, C, [.str txt], rfl, by simp, T, e, v, rfl, .ref a, rfl, a, C, rfl, T, no, .inl ⟨e, h⟩⟩
theorem rdX2 (T : XB K C n tl) (no1 : PySem.W.findIn K (.ref C) f = some none) (no2 : PySem.W.findIn K (.ref C) g = some none) (h : spX2 C f g vs H Q E) :
    tSeq (tDrop (tBInit K n tl (tCons (tVar 0) (tCons (tC (.str txt)) tNil)))) (tSeq (tXSet K n tl f (tVar 0) (tVar 1)) (tXSet K n tl g (tVar 0) (tVar 2))) { nx := fun _ H' => Q .non H', rt := Q } (L2.start [x, y, z] vs) H := by
  obtain ⟨a, v, w, rfl, e, h⟩ := h
  refine ⟨.ref a, rfl, a, C, [.str txt], rfl, by simp, T, e, v, rfl, .ref a, rfl, a, C, rfl, T, no1, .inl ⟨e, fun dx h1 h2 => ?_⟩⟩
  exact ⟨w, rfl, .ref a, rfl, a, C, rfl, T, no2, .inr ⟨dx, [(f, v)], upd_same, by rw [upd_ne h2, upd_same], by simp, h dx h1 h2⟩⟩
end
theorem upd_del {H : Hp} {a d : Addr} {u w z o : HO} (h : H a = none) : upd (L2.del (upd (upd (upd H a z) d w) a u) a) d o = upd H d o := by
  funext b
  by_cases h1 : b = d
  · subst h1; rw [upd_same, upd_same]
  · rw [upd_ne h1, upd_ne h1]
    by_cases h2 : b = a
    · subst h2; rw [del_same, h]
    · rw [del_ne h2, upd_ne h2, upd_ne h1, upd_ne h2]
theorem upd_del2 {H : Hp} {a d : Addr} {u w z y o : HO} (h : H a = none) : upd (L2.del (upd (upd (upd (upd H a z) d w) a u) d y) a) d o = upd H d o := by
  funext b
  by_cases h1 : b = d
  · subst h1; rw [upd_same, upd_same]
  · rw [upd_ne h1, upd_ne h1]
    by_cases h2 : b = a
    · subst h2; rw [del_same, h]
    · rw [del_ne h2, upd_ne h1, upd_ne h2, upd_ne h1, upd_ne h2]
/-- what isinstance asks of an exception's class -/
structure KxC (K : PySem.W.Frag) (C : Addr) : Prop where
  hcl : (PySem.W.clsIn K C).isSome = true
  hga : PySem.W.findIn K (.ref C) "__getattribute__" = some (some (.builtin "BaseException.__getattribute__"))
  hgt : PySem.W.findIn K (.ref C) "__getattr__" = some none
  hsub : PySem.W.subIn K (.ref C) (.type "BaseException") = some true
  ha : PySem.W.findIn K (.ref C) "__class__" = some (some (.builtin "object.__class__"))
  hn : PySem.W.specialIn K (.builtin "object.__class__") "__get__" = some (some (.builtin "getset_descriptor.__get__"))
  htk : PySem.W.takesIn K (.builtin "object.__class__") = some true
  hm : PySem.W.mroIn K C (.type "object") = some true
/-- an own exception class with an __init__ that stores: where it stands -/
structure XAt (K : PySem.W.Frag) (mg : Str → Option Value) (x : Str) (B n i : String) (tl : List Value) (st : Stmt) (q : Str) (ps : List Str) (fs : List Str) where
  C : Addr
  fI : Addr
  fd : FuncData
  g : mg x = some (.ref C)
  T : XB K C n tl
  iC : PySem.W.findIn K (.ref C) "__init__" = some (some (.ref fI))
  tI : PySem.W.typeIn K (.ref fI) = some (.type "function")
  F : Fun K "__init__" q st fI fd
  b : Binds K fd ps []
  no : ∀ f ∈ fs, PySem.W.findIn K (.ref C) f = some none
  hdC : PySem.W.hasDictIn K C = true
  te : PySem.W.exmOne K (.ref C) (.ref C) = some true
  vV : PySem.W.findCls K (.type B) (.type "type") "__init__" = some (.val (.builtin i))
  kx : KxC K C
/-- .. as a fact of the addresses -/
structure XAtP (K : PySem.W.Frag) (mg : Str → Option Value) (x : Str) (B n i : String) (tl : List Value) (ps : List Str) (C fI : Addr) (fd : FuncData) : Prop where
  g : mg x = some (.ref C)
  T : XB K C n tl
  iC : PySem.W.findIn K (.ref C) "__init__" = some (some (.ref fI))
  tI : PySem.W.typeIn K (.ref fI) = some (.type "function")
  b : Binds K fd ps []
theorem XAt.p {K : PySem.W.Frag} {mg : Str → Option Value} {x : Str} {B n i : String} {tl : List Value} {st : Stmt} {q : Str} {ps fs : List Str} (T : XAt K mg x B n i tl st q ps fs) : XAtP K mg x B n i tl ps T.C T.fI T.fd := ⟨T.g, T.T, T.iC, T.tI, T.b⟩
theorem XAt.xf {K : PySem.W.Frag} {mg : Str → Option Value} {x : Str} {B n i : String} {tl : List Value} {st : Stmt} {q : Str} {ps fs : List Str} (T : XAt K mg x B n i tl st q ps fs) : XfC K T.C := ⟨T.kx.hga, T.kx.hgt, T.kx.hsub, T.hdC⟩
/-- an own exception class without an __init__ -/
structure XNt (K : PySem.W.Frag) (mg : Str → Option Value) (x : Str) (n : String) (tl : List Value) where
  C : Addr
  g : mg x = some (.ref C)
  q : PySem.W.excIn K C tl n = true
  exC : PySem.W.subIn K (.ref C) (.type "BaseException") = some true
  tyC : PySem.W.typeIn K (.ref C) = some (.type "type")
  kC : PySem.W.keepIn K (.ref C) = true
  te : PySem.W.exmOne K (.ref C) (.ref C) = some true
  kx : KxC K C

/-! ### raise, by data -/
@[simp] def qRaise (C : Addr) (fs : List Str) (qa : DTA) : DTS := fun DW DE p M => qa DW p M fun ds M1 => ds.length = fs.length ∧ DW ⟨.ref C, (fs.zip ds).reverse⟩ p M1
section
variable {X : Cx} {W : WX} {e : Expr} {es : List Expr} {ta : TA} {qa : DTA} {p pos pos2 : Pos} {B n i : String} {tl : List Value} {x f f2 : Str} {st : Stmt} {q : Str} {ps fs : List Str} {k : Nat}
theorem qs_raise1 (F : BaseX B n i tl) {C fI : Addr} {fd : FuncData} (T : XAtP X.K X.mg x B n i tl ps C fI fd) (F1 : FnOk X.prog X.w X.K X.mg X.base (L2.CX X.prog X.w) k fI fd ps (spX1 C f)) (hr : Room (k + 1) X.A) (tk : Takes X W) (hc : X.calm = true) (ha : QA X W (e :: es) ta qa) (hg : Gl X x := by rfl)
    (hdb : (x == ("__debug__" : Str)) = false := by decide) (he : starEach (e :: es) X.env = (false, eval e X.env) :: starEach es X.env := by rfl) (hpl : (backTo pos (starEach es X.env)).any (·.1) = false := by rfl) :
    QS X W (.Raise (some (.Call (.Name x p) (e :: es) [] pos)) none pos2) (fun _ σ H => tMkO C (spX1 C f) [] ta σ H fun cls d H' => W cls d σ H') (qRaise C [f] qa) :=
  ⟨ps_raise hc tk (pmk_xb F T.T T.iC T.tI F1 hr T.b (passes_call tk fun _ _ _ _ z => z.elim) hg T.g ha.pe hdb he hpl), fun DW G H p M s DE E hw S h _ => by
    refine ha.rf DW G H p M s _ _ hw S h fun G1 H1 M1 ds vs e1 S1 r1 ⟨hl, h1⟩ => ?_
    match ds, vs, r1, hl with
    | [d], _, ⟨v, _, rfl, r2, rfl⟩, _ =>
      refine ⟨by simp, fun a ea => ⟨a, v, rfl, upd_same, fun dx h2 h3 => ⟨rfl, dx, [(f, v)], upd_same, by rw [upd_ne h3, upd_same], by rw [upd_ne h3] at h2; exact h2, ?_⟩⟩⟩
      rw [upd_del ea]
      rw [upd_ne h3] at h2
      obtain ⟨e2, S2⟩ := S1.made (o := .xd [(f, v)]) h2
      exact hw _ _ p M1 s ⟨.ref C, [(f, d)]⟩ _ _ (e1.trans e2) S2 ⟨rfl, .inr ⟨dx, [(f, v)], rfl, upd_same, rfl, RepL.mono e2 _ _ (RepL.cons r2 RepL.nil)⟩⟩ h1⟩
theorem qs_raise2 (F : BaseX B n i tl) {C fI : Addr} {fd : FuncData} (T : XAtP X.K X.mg x B n i tl ps C fI fd) (F1 : FnOk X.prog X.w X.K X.mg X.base (L2.CX X.prog X.w) k fI fd ps (spX2 C f f2)) (hr : Room (k + 1) X.A) (tk : Takes X W) (hc : X.calm = true) (ha : QA X W (e :: es) ta qa) (hg : Gl X x := by rfl)
    (hdb : (x == ("__debug__" : Str)) = false := by decide) (he : starEach (e :: es) X.env = (false, eval e X.env) :: starEach es X.env := by rfl) (hpl : (backTo pos (starEach es X.env)).any (·.1) = false := by rfl) :
    QS X W (.Raise (some (.Call (.Name x p) (e :: es) [] pos)) none pos2) (fun _ σ H => tMkO C (spX2 C f f2) [] ta σ H fun cls d H' => W cls d σ H') (qRaise C [f, f2] qa) :=
  ⟨ps_raise hc tk (pmk_xb F T.T T.iC T.tI F1 hr T.b (passes_call tk fun _ _ _ _ z => z.elim) hg T.g ha.pe hdb he hpl), fun DW G H p M s DE E hw S h _ => by
    refine ha.rf DW G H p M s _ _ hw S h fun G1 H1 M1 ds vs e1 S1 r1 ⟨hl, h1⟩ => ?_
    obtain ⟨d, d2, rfl⟩ : ∃ d d2, ds = [d, d2] := by
      match ds, hl with
      | [d, d2], _ => exact ⟨d, d2, rfl⟩
    obtain ⟨v, _, rfl, r2, v2, _, rfl, r3, r4⟩ := r1
    cases r4
    refine ⟨by simp, fun a ea => ?_⟩
    refine ⟨a, v, v2, List.append_nil _ ▸ rfl, upd_same, fun dx h2 h3 => ?_⟩
    rw [upd_ne h3] at h2
    have q1 : upd (upd (upd (upd H1 a (exo a C none)) dx (exd dx [(f, v)])) a (exo a C (some dx))) dx (exd dx [(f2, v2), (f, v)]) a = some (exo a C (some dx)) := by rw [upd_ne (Ne.symm h3), upd_same]
    refine ⟨rfl, dx, [(f2, v2), (f, v)], q1, upd_same, h2, ?_⟩
    rw [upd_del2 ea]
    obtain ⟨e2, S2⟩ := S1.made (o := .xd [(f2, v2), (f, v)]) h2
    exact hw _ _ p M1 s ⟨.ref C, [(f2, d2), (f, d)]⟩ _ _ (e1.trans e2) S2 ⟨rfl, .inr ⟨dx, [(f2, v2), (f, v)], rfl, upd_same, rfl, RepL.mono e2 _ _ (RepL.cons r3 (RepL.cons r2 RepL.nil))⟩⟩ h1⟩
/-- raise X() -/
theorem qs_raise0 {m : Str} {j : Nat} {p3 : Pos} (F : ExcBaseFacts B n i tl) (T : XNt X.K X.mg x n tl) (tk : Takes X W) (hc : X.calm = true) (hg : Gl X x := by rfl) (hdb : (x == ("__debug__" : Str)) = false := by decide) :
    QS X W (.Raise (some (.Call (.Name x p) [.Constant (.str m) j p3] [] pos)) none pos2) (fun _ σ H => W (.ref T.C) none σ H) (fun DW _ p M => DW ⟨.ref T.C, []⟩ p M) :=
  ⟨ps_raise hc tk (pmk_own F T.q T.g T.kC (raises_own T.exC T.tyC) hg hdb), fun DW G H p M s DE E hw S h _ => hw G H p M s _ _ _ (Same.refl _) S ⟨rfl, .inl ⟨rfl, fun _ _ => rfl⟩⟩ h⟩
end

/-! ### try, by data -/
def canS (K : PySem.W.Frag) (W : WX) (q : DTS) : TS := fun E s H => ∃ DW G p M DE, WLink K G DW W ∧ Sim K G H p M s ∧ q DW DE p M ∧ EndsOk K G DE E
theorem QSs.can {X : Cx} {W : WX} {sts : List Stmt} {q : DTS} (h : ∃ t, QSs X W sts t q) : QSs X W sts (canS X.K W q) q := by
  obtain ⟨t, h⟩ := h
  exact ⟨⟨fun pins s σ H D I ⟨DW, G, p, M, DE, hw, S, hq, k⟩ => h.pe.run pins s σ H D I (h.rf DW G H p M σ DE D hw S hq k)⟩, fun DW G H p M s DE E hw S hq k => ⟨DW, G, p, M, DE, hw, S, hq, k⟩⟩
/-- try: body; except C as (slot i): handler -/
def qTryAs (C : Addr) (i : Nat) (qb : DTS) (qh : Addr → Option Addr → DTS) : DTS := fun DW DE p M =>
  qb (fun x p' M' => x.cls = .ref C ∧ ∀ a dx, qh a dx DW0 ⟨fun p M => DE.nx (p.set i none) M, DE.rt, fun p M => DE.bk (p.set i none) M, fun p M => DE.ct (p.set i none) M⟩ (p'.set i (some (.exc a dx (x.fs.map (·.1)) (x.fs.map (·.2))))) M') DE p M
section
variable {X : Cx} {Wout : WX} {x n : Str} {C : Addr} {body suite : List Stmt} {b₀ : Stmt} {np pos pos' : Pos} {qb : DTS} {qh : Addr → Option Addr → DTS}
theorem rep_caught {K : PySem.W.Frag} {G : Hp} {z : DX} {cls : Value} {dx : Option Addr} {a : Addr} (h : RepX K G z cls dx) (hc : z.cls = .ref C) : Rep K G (.exc a dx (z.fs.map (·.1)) (z.fs.map (·.2))) (.ref a) := by
  refine ⟨rfl, ?_⟩
  rcases h.2 with h | ⟨d, vf, h1, h2, h3, h4⟩
  · exact .inl ⟨by rw [h.1]; rfl, h.2 _ hc⟩
  · exact .inr ⟨d, vf, h1, h2, h3, h4⟩
theorem qs_tryAs (i : Nat) (tk : Takes X Wout) (hN : X.N.Nodup) (te : PySem.W.exmOne X.K (.ref C) (.ref C) = some true) (hm : X.mg x = some (.ref C))
    (hb : ∀ (W : WX) (pn : List (Addr × Obj)) (xe : Value → Shared → Prop), Takes (X.tr pn xe) W → PassesOwn (model X.prog X.w) X.A X.env xe → ∃ t, QSs (X.tr pn xe) W body t qb)
    (hsu : ∀ (a : Addr) (oe : Obj) (d : Option Addr) (pn : List (Addr × Obj)), Zc (.ref C) d oe → (∃ vs, oe.data = .fields vs) → ∃ t, QSs (X.suite a ((a, oe) :: pn)) W0 (b₀ :: suite) t (qh a d))
    (hs : X.stack = X.env :: X.outer := by rfl) (hf : X.env.frame = some X.env.locals := by rfl) (hi : X.N[i]? = some n := by rfl) (hln : X.env.kindOf n = some .local := by rfl) (hg : Gl X x := by rfl) (hdb : (x == ("__debug__" : Str)) = false := by decide) :
    QS X Wout (.Try body [.ExceptHandler (some (.Name x np)) (some n) (b₀ :: suite) pos'] [] [] pos)
      (fun D σ H => canS X.K (wAs X.K (.ref C) i (fun a cls d D σ H => cls = .ref C ∧ canS X.K W0 (qh a d) D σ H) Wout D) qb D σ H) (qTryAs C i qb qh) := by
  refine ⟨ps_try_as (tb := fun W => canS X.K W qb) (ts := fun a cls d D σ H => cls = .ref C ∧ canS X.K W0 (qh a d) D σ H) hs hf hN hi hln ⟨hg, hdb, .inl hm⟩ tk (fun W pn xe tk' hp => (QSs.can (hb W pn xe tk' hp)).pe) (fun a oe cls d pn hz hd => ⟨fun pins s σ H D I h => ?_⟩), fun DW G H p M s DE E hw S hq k => ?_⟩
  · obtain ⟨rfl, h⟩ := h
    exact (QSs.can (hsu a oe d pn hz hd)).pe.run pins s σ H D I h
  · refine ⟨_, G, p, M, DE, fun G1 H1 p1 M1 s1 z cls dx e1 S1 rx hx => ?_, S, hq, k⟩
    obtain ⟨hc, hx⟩ := hx
    have ec : cls = .ref C := rx.1.trans hc
    subst ec
    refine ⟨true, te, fun _ a na => ⟨rfl, DW0, G1, _, M1, _, fun _ _ _ _ _ _ _ _ _ _ _ w => w.elim, S1.set i (rep_caught rx hc), hx a dx, ?_⟩, fun w => by cases w⟩
    exact ⟨fun G2 H2 p2 M2 s2 e2 S2 q => k.nx G2 H2 _ M2 _ (e1.trans e2) (S2.forget i none) q, fun G2 H2 p2 M2 s2 d v e2 S2 r q => k.rt G2 H2 p2 M2 s2 d v (e1.trans e2) S2 r q,
      fun G2 H2 p2 M2 s2 e2 S2 q => k.bk G2 H2 _ M2 _ (e1.trans e2) (S2.forget i none) q, fun G2 H2 p2 M2 s2 e2 S2 q => k.ct G2 H2 _ M2 _ (e1.trans e2) (S2.forget i none) q⟩
end
/-! ### in the except suite: e.f, isinstance(e, ..) -/
def qXf (a : Addr) (d : Option Addr) (f : Str) (qe : DTE) : DTE := fun DW p M Q => qe DW p M fun x M1 => ∃ ns ys y, x = .exc a d ns ys ∧ (ns.zip ys).lookup f = some y ∧ Q y M1
theorem zip_lookup {K : PySem.W.Frag} {G : Hp} {f : Str} {y : D} : ∀ {vf : List (Str × V)} {ys : List D}, RepL K G ys (vf.map (·.2)) → ((vf.map (·.1)).zip ys).lookup f = some y → ∃ v, vf.lookup f = some v ∧ Rep K G y v
  | [], ys, r, h => by cases ys <;> cases h
  | (g, v) :: vf, [], r, h => by cases h
  | (g, v) :: vf, z :: ys, ⟨v1, r1, e, h2, h3⟩, h => by
    simp only [List.map_cons, List.cons.injEq] at e
    obtain ⟨rfl, rfl⟩ := e
    simp only [List.map_cons, List.zip_cons_cons] at h
    rw [List.lookup_cons] at h ⊢
    cases c : f == g with
    | true => rw [c] at h; cases h; exact ⟨_, rfl, h2⟩
    | false => rw [c] at h; exact zip_lookup h3 h
section
variable {X : Cx} {W : WX} {C a : Addr} {oe : Obj} {d : Option Addr} {pn : List (Addr × Obj)} {e : Expr} {te : TE} {qe : DTE} {f : Str} {pos : Pos}
theorem q_xf (T : XfC X.K C) (no : PySem.W.findIn X.K (.ref C) f = some none) (hz : Zc (.ref C) d oe) (hf : ∃ vs, oe.data = .fields vs) (he : QE (X.suite a ((a, oe) :: pn)) W e te qe) (hb : attributeBase e f X.env (eval e X.env) = eval e X.env := by rfl) :
    QE (X.suite a ((a, oe) :: pn)) W (.Attribute e f pos) (tXf a (.ref C) d C f te) (qXf a d f qe) := ⟨pe_xf T no hz hf he.pe hb, fun DW G H p M s Q Q' hw S hq k => by
  refine he.rf DW G H p M s _ _ hw S hq fun G1 H1 M1 x v e1 S1 r1 ⟨ns, ys, y, ex, hl, h1⟩ => ?_
  subst ex
  obtain ⟨rv, r⟩ := r1
  rcases r with ⟨r, _⟩ | ⟨dd, vf, rfl, h2, h3, h4⟩
  · subst r; cases hl
  · subst h3
    obtain ⟨w, w1, w2⟩ := zip_lookup h4 hl
    exact ⟨rv, rfl, dd, vf, w, rfl, S1.same _ _ h2, w1, k G1 H1 M1 y w e1 S1 w2 h1⟩⟩
/-- what isinstance asks for -/
def clsD : D → Option Value
  | .ty n => some (.type n)
  | .ref C => some (.ref C)
  | _ => none
def clssD : List D → Option (List Value)
  | [] => some []
  | d :: ds => match clsD d, clssD ds with
    | some c, some cs => some (c :: cs)
    | _, _ => none
theorem clsD_rep {K : PySem.W.Frag} {G : Hp} {c : D} {v : V} {u w : Value} (h : clsD c = some u) (r : Rep K G c v) (rv : RelV v w) : w = u := by
  cases c with
  | ty n => cases h; cases r; exact rv
  | ref C => cases h; cases r; exact rv
  | _ => cases h
theorem clssD_rep {K : PySem.W.Frag} {G : Hp} : ∀ {cs : List D} {vs : List V} {us ws : List Value}, clssD cs = some us → RepL K G cs vs → Vals vs ws → ws = us
  | [], _, us, ws, h, r, rv => by cases h; cases r; cases rv; rfl
  | c :: cs, _, us, ws, h, ⟨v, r, rfl, r1, r2⟩, rv => by
    unfold clssD at h
    split at h
    · next a b e1 e2 =>
      cases h
      cases rv with
      | cons w1 w2 => rw [clsD_rep e1 r1 w1, clssD_rep e2 r2 w2]
    · cases h
def rIsX (a : Addr) (b : Bool) (P : V → Hp → Prop) : List V → Hp → VK → Prop := fun xs H Q => ∃ c, xs = [.ref a, c] ∧ P c H ∧ Q (.bl b) H
def dIsX (a : Addr) (d : Option Addr) (b : Bool) (c : D) : DCa := fun ds M Q => ∃ ns ys, ds = [.exc a d ns ys, c] ∧ Q (.bl b) M
theorem inst_exc {σ : L2.St} {H : Hp} {s : Shared} {pins : List (Addr × Obj)} (I : Inv (X.suite a ((a, oe) :: pn)) pins σ H s) (hz : Zc (.ref C) d oe) (hf : ∃ vs, oe.data = .fields vs) (hd : d = none ∨ ∃ dd fs, d = some dd ∧ H dd = some (.xd fs)) : ∃ od, PySem.W.InstAt s.heap a oe C od := by
  obtain ⟨ha, _⟩ := I.pin (a, oe) (List.mem_append_left _ List.mem_cons_self)
  obtain ⟨vs, hv⟩ := hf
  obtain ⟨oc, od0, oda, osl⟩ := oe
  obtain ⟨h1, h2⟩ := hz
  dsimp only at h1 h2 hv
  subst h1 h2 hv
  rcases hd with rfl | ⟨dd, fs, rfl, hx⟩
  · exact ⟨none, ha, rfl, rfl, trivial⟩
  · obtain ⟨mA, hns, _⟩ := (show ObjOk X.prog X.w H s.heap dd (.xd fs) from I.hok dd _ hx)
    obtain ⟨od, ho, _⟩ := lookIn_ns hns
    exact ⟨some od, ha, rfl, rfl, ho⟩
theorem c_isX {b : Bool} {c : D} {P : V → Hp → Prop} (hop : CallR (X.suite a ((a, oe) :: pn)) (.builtin "isinstance") (rIsX a b fun v H => P v H ∧ (d = none ∨ ∃ dd fs, d = some dd ∧ H dd = some (.xd fs))))
    (hP : ∀ {G H p M s v}, Sim X.K G H p M s → Rep X.K G c v → P v H) : QCa (X.suite a ((a, oe) :: pn)) (.builtin "isinstance") (rIsX a b fun v H => P v H ∧ (d = none ∨ ∃ dd fs, d = some dd ∧ H dd = some (.xd fs))) (dIsX a d b c) :=
  ⟨hop, fun G H p M s ds vs Q Q' S r hq k => by
    obtain ⟨ns, ys, rfl, hq⟩ := hq
    obtain ⟨v, _, rfl, r1, v2, _, rfl, r2, r3⟩ := r
    cases r3
    obtain ⟨rfl, r1⟩ := r1
    refine ⟨v2, rfl, ⟨hP S r2, ?_⟩, k G H M (.bl b) _ (Same.refl _) S rfl hq⟩
    rcases r1 with ⟨_, h⟩ | ⟨dd, fs, h1, h2, _⟩
    · exact .inl h
    · exact .inr ⟨dd, fs, h1, S.same _ _ h2⟩⟩
/-- isinstance(e, c) -/
theorem c_isX1 {b : Bool} {c : D} {u : Value} (T : KxC X.K C) (hz : Zc (.ref C) d oe) (hf : ∃ vs, oe.data = .fields vs) (hc : clsD c = some u) (e : PySem.W.kitOne X.K (.ref C) u = some b) :
    QCa (X.suite a ((a, oe) :: pn)) (.builtin "isinstance") (rIsX a b fun v H => (∀ w, RelV v w → w = u) ∧ (d = none ∨ ∃ dd fs, d = some dd ∧ H dd = some (.xd fs))) (dIsX a d b c) :=
  c_isX (fun pins s σ H xs us Q I r h => by
    obtain ⟨v, rfl, ⟨h1, h2⟩, q⟩ := h
    obtain ⟨u1, u2, rfl, r1, r2⟩ := vals2 r
    obtain rfl : u1 = Value.ref a := r1
    have e2 := h1 _ r2
    subst e2
    obtain ⟨od, J⟩ := inst_exc I hz hf h2
    exact PySem.W.kia_one (PySem.W.kitx_exc T.hcl T.hga T.hgt T.hsub T.ha T.hn T.htk T.hm) I.kIn J e (fun z => nomatch z) fun tk => ⟨.bl b, H, I.tok tk, rfl, q⟩)
    fun S r w rv => clsD_rep hc r rv
/-- isinstance(e, (c1, c2, ..)) -/
theorem c_isXT {b : Bool} {cs : List D} {us : List Value} (T : KxC X.K C) (hz : Zc (.ref C) d oe) (hf : ∃ vs, oe.data = .fields vs) (hc : clssD cs = some us) (e : PySem.W.kitAny X.K (.ref C) us = some b) :
    QCa (X.suite a ((a, oe) :: pn)) (.builtin "isinstance") (rIsX a b fun v H => (∃ t vs, v = .ref t ∧ H t = some (.tup vs) ∧ ∀ ws, Vals vs ws → ws = us) ∧ (d = none ∨ ∃ dd fs, d = some dd ∧ H dd = some (.xd fs))) (dIsX a d b (.tup cs)) :=
  c_isX (P := fun v H => ∃ t vs, v = .ref t ∧ H t = some (.tup vs) ∧ ∀ ws, Vals vs ws → ws = us) (fun pins s σ H xs ws Q I r h => by
    obtain ⟨v, rfl, ⟨⟨t, vs, rfl, ht, h1⟩, h2⟩, q⟩ := h
    obtain ⟨u1, u2, rfl, r1, r2⟩ := vals2 r
    obtain rfl : u1 = Value.ref a := r1
    obtain rfl : u2 = Value.ref t := r2
    obtain ⟨od, J⟩ := inst_exc I hz hf h2
    obtain ⟨_, its, rv, o, g1, g2, n, g3⟩ := (show ObjOk X.prog X.w H s.heap t (.tup vs) from I.hok t _ ht)
    have e3 := h1 _ rv
    subst e3
    obtain ⟨oc, od', dt, sl⟩ := o
    simp only at g2 g3
    subst g2 g3
    exact PySem.W.kia_tup (PySem.W.kitx_exc T.hcl T.hga T.hgt T.hsub T.ha T.hn T.htk T.hm) I.kIn J g1 e (fun z => nomatch z) fun tk => ⟨.bl b, H, I.tok tk, rfl, q⟩)
    fun {G H p M s v} S r => by
      obtain ⟨t, vs, rfl, h1, h2, _⟩ := r
      exact ⟨t, vs, rfl, S.same _ _ h1, fun ws rv => clssD_rep hc h2 rv⟩
end
end DL

/-! DLu: defs with defaults. -/
namespace DL
open PySem PySem.Spec PyProof.Rows L2
section
variable {P : Program} {w : World} {K : PySem.W.Frag} {mg : Str → Option Value} {base : Heap}
/-- the rule for a def that has defaults -/
theorem fn_okD {x qual : Str} {st : Stmt} {f : Addr} {fd : FuncData} {N ps : List Str} {k : Nat} {p : DSp} {dvs : List V} (F : FunD K x qual (defArgs st) (defBody st) (defScope st) dvs [] f fd) (S : FnScope N ps (defScope st)) (len : ∀ ds M Q E, p ds M Q E → ds.length = ps.length)
    (hbody : ∀ (cdv : Value) (A : Around) (outer : List Env) (s : Shared) (H : Hp) (E : XK), Room k (A.deeper (PyProof.Rows.envOfC qual (defScope st) s.heap.objs.size f cdv)) →
      Takes (cxOf (L2.CX P w) P w K mg base N qual (defScope st) f cdv A outer s H E) (fun cls d _ H => E cls d H) →
      PassesOwn (model P w) (cxOf (L2.CX P w) P w K mg base N qual (defScope st) f cdv A outer s H E).A (cxOf (L2.CX P w) P w K mg base N qual (defScope st) f cdv A outer s H E).env (cxOf (L2.CX P w) P w K mg base N qual (defScope st) f cdv A outer s H E).xe →
      ∃ t q, QSs (cxOf (L2.CX P w) P w K mg base N qual (defScope st) f cdv A outer s H E) (fun cls d _ H => E cls d H) (defBody st) t q ∧
        ∀ ds M Q Ed, p ds M Q Ed → q (fun x _ M => Ed x M) { nx := fun _ M => Q .non M, rt := Q } (startD N ds) M) : FnOk P w K mg base (L2.CX P w) (k + 1) f fd ps (toSp K p) := by
  refine F.ok S (fun vs H Q E h => ?_) (fun cdv A outer s H vs Q E hr h => ?_)
  · obtain ⟨G, ds, M, Qd, Ed, _, r, _, hp, _⟩ := h
    exact r.length.trans (len _ _ _ _ hp)
  · obtain ⟨G, ds, M, Qd, Ed, e, r, hm, hp, kq, ke⟩ := h
    obtain ⟨t, q, hq, hs⟩ := hbody cdv A outer s H E hr (takes_of rfl rfl rfl rfl) (passes_of rfl)
    exact ⟨t, hq.pe, hq.rf (fun x _ M => Ed x M) G H (startD N ds) M (L2.start N vs) _ _ (fun G' H' p' M' s' x cls dx e1 S1 r1 h1 => ke G' H' x cls dx M' e1 S1.same r1 S1.mem h1) (start_sim e r hm) (hs ds M Qd Ed hp)
      ⟨fun G' H' p' M' s' e1 S1 h1 => kq G' H' .non .non M' e1 S1.same rfl S1.mem h1, fun G' H' p' M' s' d v e1 S1 r1 h1 => kq G' H' v d M' e1 S1.same r1 S1.mem h1, fun _ _ _ _ _ _ _ h => h.elim, fun _ _ _ _ _ _ _ h => h.elim⟩⟩
end
/-- how a call binds that leaves out the last parameters: their defaults -/
def BindsD (K : PySem.W.Frag) (fd : FuncData) (ps : List Str) (dvs : List V) : Prop := ∃ ds, Vals dvs ds ∧ Binds K fd ps ds
/-- a def of the module that has defaults -/
structure FnAtD (K : PySem.W.Frag) (mg : Str → Option Value) (x : Str) (st : Stmt) (ps : List Str) (dvs : List V) where
  f : Addr
  fd : FuncData
  g : mg x = some (.ref f)
  F : FunD K x x (defArgs st) (defBody st) (defScope st) dvs [] f fd
section
variable {K : PySem.W.Frag} {x qual : Str} {st : Stmt} {dvs : List V} {f : Addr} {fd : FuncData} {ps : List Str}
/-- n values are written, the defaults behind the first j fill up -/
theorem FunD.bd (F : FunD K x qual (defArgs st) (defBody st) (defScope st) dvs [] f fd) (n j : Nat) (hd : dvs ≠ []) (hn : n + (dvs.length - j) = ps.length)
    (h : ∀ (T : Addr) (kV doc pm : Value) (an : Option Addr) (cdv ct : Value) (us its : List Value), us.length = n → its.length = dvs.length →
      ∃ k, bindArgs (PySem.W.fnOf x qual (defArgs st) (defBody st) (defScope st) (.ref T) kV doc pm an cdv ct) ⟨us, []⟩ = seqItems? (.ref T) >>= k ∧ k (some its.toArray) = pure (ps.zip (us ++ its.drop j))) : BindsD K fd ps (dvs.drop j) :=
  FunD.binds1 F n j hd hn h
theorem kwbD {ks : List Str} {n : Nat} {idx : List Nat} (F : FunD K x qual (defArgs st) (defBody st) (defScope st) dvs [] f fd) (hd : dvs ≠ [])
    (h : ∀ (T : Addr) (kV doc pm : Value) (an : Option Addr) (cdv ct : Value) (us ws its : List Value), us.length = n → ws.length = ks.length → its.length = dvs.length →
      ∃ k, bindArgs (PySem.W.fnOf x qual (defArgs st) (defBody st) (defScope st) (.ref T) kV doc pm an cdv ct) ⟨us, ks.zip ws⟩ = seqItems? (.ref T) >>= k ∧ k (some its.toArray) = pure (ps.zip (pickL idx (us ++ ws)))) : KwB K fd ps n ks idx := by
  obtain ⟨oc, od, dV, kV, doc, pm, an, cdv, ct, osl, rfl, lk, hcd, hD, hK⟩ := F.ex
  rcases hD with ⟨e, _⟩ | ⟨_, T, o, its, m, rfl, lT, oT, rT⟩
  · exact absurd e hd
  · intro s us ws X h1 h2
    obtain ⟨k, e1, e2⟩ := h T kV doc pm an cdv ct us ws its h1 h2 rT.length.symm
    refine BindsTo.of_looks fun M => ?_
    rw [e1]
    exact looks_items X lT oT (.of_pure e2)
theorem fund_mk {oc : Value} {od an : Option Addr} {osl : Array (Option Value)} {kV doc pm cdv ct : Value} {T : Addr} {o : Obj} {its : List Value} {n : Nat} (l : K.lookup f = some ⟨oc, od, .func (PySem.W.fnOf x qual (defArgs st) (defBody st) (defScope st) (.ref T) kV doc pm an cdv ct), osl⟩)
    (c : PySem.W.codeIn K cdv qual = true) (k : PySem.W.keepIn K (.ref f) = true) (lT : K.lookup T = some o) (oT : o.data = .seq its.toArray n) (hd : dvs ≠ []) (r : Vals dvs its) :
    FunD K x qual (defArgs st) (defBody st) (defScope st) dvs [] f (PySem.W.fnOf x qual (defArgs st) (defBody st) (defScope st) (.ref T) kV doc pm an cdv ct) :=
  ⟨⟨oc, od, .ref T, kV, doc, pm, an, cdv, ct, osl, rfl, l, c, .inr ⟨hd, T, o, its, n, rfl, lT, oT, r⟩, .inl rfl⟩, k⟩
section
variable {X : Cx} {W : WX} {k : Nat} {f : Addr} {fd : FuncData} {ps : List Str} {P : DSp} {dds : List D} {dvs : List V} {x : Str} {p pos : Pos} {e : Expr} {es : List Expr} {t : TA} {q : DTA}
/-- f(e, ..), the last parameters left out -/
theorem q_callD (F : FnOk X.prog X.w X.K X.mg X.base (L2.CX X.prog X.w) k f fd ps (toSp X.K P)) (hr : Room k X.A) (tk : Takes X W) (hg : Gl X x) (hm : X.mg x = some (.ref f)) (hk : PySem.W.keepIn X.K (.ref f) = true) (hb : BindsD X.K fd ps dvs) (hdd : ∀ G, RepL X.K G dds dvs)
    (ha : QA X W (e :: es) t q) (hdb : (x == ("__debug__" : Str)) = false := by decide) (he : starEach (e :: es) X.env = (false, eval e X.env) :: starEach es X.env := by rfl) (hpl : (backTo pos (starEach es X.env)).any (·.1) = false := by rfl) :
    QE X W (.Call (.Name x p) (e :: es) [] pos) (tCallSD (toSp X.K P) dvs (fun s => WE W s) t) (qCall P dds q) := by
  obtain ⟨ds, hd, hb⟩ := hb
  exact q_call F hr tk hg hm hk hb hd hdd ha hdb he hpl
end
end
end DL

/-! DLv: the built-in exception classes over which the program's own stand. -/
namespace DL
open PySem PySem.Spec PyProof.Rows L2
abbrev tl_ValueError : List Value := [.type "ValueError", .type "Exception", .type "BaseException", .type "object"]
abbrev tl_LookupError : List Value := [.type "LookupError", .type "Exception", .type "BaseException", .type "object"]
abbrev tl_IndexError : List Value := [.type "IndexError", .type "LookupError", .type "Exception", .type "BaseException", .type "object"]
abbrev tl_RuntimeError : List Value := [.type "RuntimeError", .type "Exception", .type "BaseException", .type "object"]
abbrev tl_ArithmeticError : List Value := [.type "ArithmeticError", .type "Exception", .type "BaseException", .type "object"]
abbrev tl_OverflowError : List Value := [.type "OverflowError", .type "ArithmeticError", .type "Exception", .type "BaseException", .type "object"]
abbrev tl_Exception : List Value := [.type "Exception", .type "BaseException", .type "object"]
theorem baseX_ValueError : BaseX "ValueError" "ValueError.__new__" "ValueError.__init__" tl_ValueError := ⟨F.excBase_ValueError, F.store_ValueError, by kernel_rfl, by decide +kernel⟩
theorem baseX_LookupError : BaseX "LookupError" "LookupError.__new__" "LookupError.__init__" tl_LookupError := ⟨F.excBase_LookupError, F.store_LookupError, by kernel_rfl, by decide +kernel⟩
theorem baseX_IndexError : BaseX "IndexError" "IndexError.__new__" "IndexError.__init__" tl_IndexError := ⟨F.excBase_IndexError, F.store_IndexError, by kernel_rfl, by decide +kernel⟩
theorem baseX_RuntimeError : BaseX "RuntimeError" "RuntimeError.__new__" "RuntimeError.__init__" tl_RuntimeError := ⟨F.excBase_RuntimeError, F.store_RuntimeError, by kernel_rfl, by decide +kernel⟩
theorem baseX_ArithmeticError : BaseX "ArithmeticError" "ArithmeticError.__new__" "ArithmeticError.__init__" tl_ArithmeticError := ⟨F.excBase_ArithmeticError, F.store_ArithmeticError, by kernel_rfl, by decide +kernel⟩
theorem baseX_OverflowError : BaseX "OverflowError" "OverflowError.__new__" "OverflowError.__init__" tl_OverflowError := ⟨F.excBase_OverflowError, F.store_OverflowError, by kernel_rfl, by decide +kernel⟩
theorem baseX_Exception : BaseX "Exception" "Exception.__new__" "Exception.__init__" tl_Exception := ⟨F.excBase_Exception, F.store_Exception, by kernel_rfl, by decide +kernel⟩
theorem clsIn_some {K : PySem.W.Frag} {C : Addr} (h : PySem.W.hasDictIn K C = true) : (PySem.W.clsIn K C).isSome = true := by
  obtain ⟨cd, hc, _⟩ := PySem.W.any_some h
  rw [hc]; rfl
/-- a class of the module, by its name -/
structure ClsAt (mg : Str → Option Value) (x : Str) where
  C : Addr
  g : mg x = some (.ref C)
theorem q_cls {X : Cx} {W : WX} {x : Str} {C : Addr} {pos : Pos} (g : X.mg x = some (.ref C)) (hg : Gl X x := by rfl) (hd : (x == ("__debug__" : Str)) = false := by decide) : QE X W (.Name x pos) (tC (.ref C)) (qC (.ref C)) := q_glob hg g rfl (fun _ => rfl) hd
end DL

set_option maxHeartbeats 2000000
/-! DLw: a written dict with text keys: list(D), D[key]. -/
namespace DL
open PySem PySem.Spec PyProof.Rows L2
theorem pairs_keys {prog : Program} {w : World} : ∀ {l : List DictEntry} {ks : List Str}, l.map He.keyOf = He.keysIn w.params ks →
    ∃ kvs : List (Str × Value), kvs.map (·.1) = ks ∧ Pairs (PySem.strKind prog w) l kvs ∧ ∀ e ∈ l, ∃ k, (PySem.strKind prog w).is k e.key = true ∧ e.hash = (PySem.strKind prog w).hash k
  | [], [], _ => ⟨[], rfl, .nil, fun _ h => by cases h⟩
  | [], k :: ks, h => by cases h
  | e :: l, [], h => by cases h
  | e :: l, k :: ks, h => by
    have h0 : He.keyOf e :: l.map He.keyOf = some (k, PyData.keyHash w.params k) :: He.keysIn w.params ks := h
    injection h0 with h1 h2
    obtain ⟨kvs, i1, i2, i3⟩ := pairs_keys (prog := prog) h2
    unfold He.keyOf at h1
    split at h1
    · next x t q =>
      obtain ⟨rfl, e2⟩ := Prod.mk.inj (Option.some.inj h1)
      have e3 : (PySem.strKind prog w).is x e.key = true := by rw [q]; exact PySem.strKind_is prog w x t
      refine ⟨(x, e.val) :: kvs, by simp [i1], .cons e3 rfl i2, fun e' he => ?_⟩
      rcases List.mem_cons.mp he with rfl | he
      · exact ⟨x, e3, e2⟩
      · exact i3 e' he
    · cases h1
theorem strs_at {prog : Program} {w : World} : ∀ {kvs : List (Str × Value)} {us : List Value}, us.length = kvs.length → (∀ (j : Nat) (v : Value), us[j]? = some v → ∃ k x, kvs[j]? = some (k, x) ∧ (PySem.strKind prog w).is k v = true) → Vals (kvs.map fun q => V.str q.1) us
  | [], [], _, _ => .nil
  | [], _ :: _, h, _ => by cases h
  | _ :: _, [], h, _ => by cases h
  | (k, y) :: kvs, u :: us, hl, h => by
    obtain ⟨k', x, e1, e2⟩ := h 0 u rfl
    cases e1
    refine .cons ?_ (strs_at (prog := prog) (w := w) (by simpa using hl) fun j v e => by simpa using h (j + 1) v (by simpa using e))
    have e3 : Value.isStrOf k u = true := e2
    cases u with
    | str z t => exact ⟨t, by have : z = k := by simpa [Value.isStrOf] using e3
                              rw [this]⟩
    | _ => cases e3
theorem dictAt_K {K : PySem.W.Frag} {prog : Program} {w : World} {h : Heap} {d : Addr} {ks : List Str} (X : K.In h) (hd : He.dicW K d = some (He.keysIn w.params ks)) (nd : ks.Nodup) :
    ∃ kvs ep, kvs.map (·.1) = ks ∧ h.DictAt (PySem.strKind prog w) d kvs ep ∧ (d == sysModules) = false := by
  unfold He.dicW at hd
  split at hd
  · next c es n sl hl =>
    split at hd
    · next e =>
      obtain ⟨kvs, a1, a2, a3⟩ := pairs_keys (prog := prog) (Option.some.inj hd)
      simp only [Bool.and_eq_true, decide_eq_true_eq, Bool.not_eq_true'] at e
      obtain ⟨rfl, e1, e2⟩ := e
      obtain rfl : sl = #[] := Array.isEmpty_iff.mp e1
      exact ⟨kvs, n, a1, ⟨_, es, X _ _ hl, ⟨rfl, rfl, rfl⟩, rfl, fun z hz => a3 z (Array.mem_toList_iff.mpr hz), a2, by rw [a1]; exact nd⟩, e2⟩
    · cases hd
  · cases hd
theorem call_listK {X : Cx} {d : Addr} {ks : List Str} (hcalm : X.calm = true) (hd : He.dicW X.K d = some (He.keysIn X.w.params ks)) (nd : ks.Nodup) (hz : ks.length ≤ 1000) :
    CallR X (.type "list") (fun xs H Q => xs = [.ref d] ∧ ∀ p, H p = none → Q (.ref p) (upd H p (.lst (ks.map V.str)))) := by
  intro pins s σ H xs us Q I r q
  obtain ⟨rfl, q⟩ := q
  obtain ⟨u, rfl, rx⟩ := vals1 r
  cases rx
  obtain ⟨kvs, ep, a1, a2, lo⟩ := dictAt_K (prog := X.prog) I.kIn hd nd
  have hl : kvs.length = ks.length := by rw [← a1]; simp
  have hz2 : ks.length ≤ sizeLine := Nat.le_trans hz (by rw [sizeLine_eq]; decide)
  refine PySem.W.kdl_call (PySem.W.kdl_dict (knd := PySem.strKind X.prog X.w) (kvs := kvs) (ep := ep) lo) (I.ok.hd hcalm) a2 (by rw [hl]; exact hz2) fun h' tk acc c' hk hD hacc => ?_
  have hv : Vals (kvs.map fun q => V.str q.1) acc.toList := strs_at (prog := X.prog) (w := X.w) (by rw [Array.length_toList]; exact hacc.1) fun j v e => hacc.2 j v (by rw [← Array.getElem?_toList]; exact e)
  have ev : (kvs.map fun q => V.str q.1) = ks.map V.str := by rw [← a1, List.map_map]; rfl
  rw [ev] at hv
  exact ⟨.ref s.heap.objs.size, _, I.laid (t' := tk) hk (Nat.le_refl _) (show ObjOk X.prog X.w _ _ _ (.lst (ks.map V.str)) from ⟨by rw [List.length_map]; exact hz2, acc.toList, c', hv, by rw [Array.toArray_toList]; exact hD⟩), rfl, q _ (I.hok.fresh (Nat.le_refl _))⟩
/-- a value of a written dict -/
def KVal (K : PySem.W.Frag) (d : Addr) (z : Str) (y : D) : Prop := ∃ u v, PySem.W.nsIn K d z = some (some u) ∧ RelV v u ∧ ∀ G, Rep K G y v
structure KTab (K : PySem.W.Frag) (w : World) (mg : Str → Option Value) (x : Str) (tbl : List (Str × D)) : Prop where
  ex : ∃ d, mg x = some (.ref d) ∧ He.dicW K d = some (He.keysIn w.params (tbl.map (·.1))) ∧ ∀ q ∈ tbl, KVal K d q.1 q.2
theorem KTab.dic {K : PySem.W.Frag} {w : World} {mg : Str → Option Value} {x : Str} {tbl : List (Str × D)} (h : KTab K w mg x tbl) : KDic K w mg x (tbl.map (·.1)) := by
  obtain ⟨d, h1, h2, _⟩ := h.ex
  exact ⟨d, h1, h2⟩
/-- a written tuple of numbers -/
theorem kval_ints {K : PySem.W.Frag} {d t : Addr} {z : Str} {od : Option Addr} {its : Array Value} {n : Nat} {sl : Array (Option Value)} {is : List Int} (h1 : PySem.W.nsIn K d z = some (some (.ref t))) (h2 : K.lookup t = some ⟨.type "tuple", od, .seq its n, sl⟩)
    (h3 : Vals (is.map V.int) its.toList) (hl : is.length ≤ 1000) : KVal K d z (.ktp (is.map D.int)) := by
  have hr : ∀ G, RepL K G (is.map D.int) (is.map V.int) := fun G => by
    clear h3 hl
    induction is with
    | nil => rfl
    | cons i is ih => exact ⟨.int i, _, rfl, rfl, ih⟩
  have h4 : (is.map V.int).length ≤ sizeLine := by rw [List.length_map, sizeLine_eq]; omega
  refine ⟨_, .ref t, h1, rfl, fun G => ⟨t, is.map V.int, rfl, .inr ⟨_, its, n, h2, rfl, rfl, ?_, h3⟩, hr G, h4⟩⟩
  rw [← Array.length_toList, ← h3.length]
  exact h4
def dIxK (tbl : List (Str × D)) : DUn := fun x M Q => match res M x with
  | .str z => match tbl.lookup z with
    | some y => Q y M
    | none => False
  | _ => False
theorem lookup_mem {α β : Type} [BEq α] [LawfulBEq α] {z : α} {y : β} : ∀ {l : List (α × β)}, l.lookup z = some y → (z, y) ∈ l
  | [], h => by cases h
  | (k, v) :: l, h => by
    rw [List.lookup_cons] at h
    cases c : z == k with
    | true => rw [c] at h; cases h; rw [eq_of_beq c]; exact List.mem_cons_self ..
    | false => rw [c] at h; exact List.mem_cons_of_mem _ (lookup_mem h)
section
variable {X : Cx} {W : WX} {a : Expr} {ta : TE} {qa : DTE} {pos p p2 : Pos} {x : Str} {tbl : List (Str × D)}
theorem q_ixK (h : KTab X.K X.w X.mg x tbl) (hg : Gl X x) (ha : QE X W a ta qa) (hd : (x == ("__debug__" : Str)) = false := by decide) (hs : PlainIx a := by exact fun _ _ => rfl) :
    ∃ t, QE X W (.Subscript (.Name x p) a pos) t (qUn (dIxK tbl) qa) := by
  obtain ⟨d, h1, h2, h3⟩ := h.ex
  obtain ⟨es, n, KD⟩ := He.dicW_ok h2
  have ix : IxR X (fun x y H Q => ∃ (z : Str) (u0 : Value) (v0 : V), x = .ref d ∧ y = .str z ∧ PySem.W.nsIn X.K d z = some (some u0) ∧ RelV v0 u0 ∧ Q v0 H) := by
    intro value slice pins s σ H x y v u Q I rx ry hh hs
    have e : v = .ref d := by obtain ⟨z, u0, v0, rfl, _⟩ := hh; exact rx
    subst e
    exact tail_any (kd_type KD I) slot_dict_getitem.lookup (op_item_kd KD pins s σ H x y _ u Q I rx ry hh) hs
  refine ⟨_, pe_ix ix (pe_glob hg h1 (v := .ref d) rfl hd) ha.pe hs, fun DW G H p M s Q Q' hw S hq k => ha.rf DW G H p M s _ _ hw S hq fun G1 H1 M1 dv v e1 S1 r1 h4 => ?_⟩
  unfold dIxK at h4
  split at h4
  · next z e =>
    obtain ⟨rfl, _, _⟩ := as_str r1 e
    split at h4
    · next y ey =>
      obtain ⟨u, v, n1, n2, n3⟩ := h3 _ (lookup_mem ey)
      exact ⟨z, u, v, rfl, rfl, n1, n2, k G1 H1 M1 y v e1 S1 (n3 G1) h4⟩
    · exact h4.elim
  · exact h4.elim
/-- list(D) -/
theorem q_listK (m : Bool) (h : KDic X.K X.w X.mg x ks) (hg : Gl X x) (hgl : Gl X "list") (hm : X.mg "list" = none) (hcalm : X.calm = true) (nd : ks.Nodup) (hz : (decide (ks.length ≤ 1000) && ks.all fun k => decide (k.length ≤ 100000) && PyData.strOk k) = true) (hd : (x == ("__debug__" : Str)) = false := by decide)
    (he : starEach [.Name x p] X.env = [(false, eval (.Name x p) X.env)] := by rfl) (hpl : (backTo pos (starEach [] X.env)).any (·.1) = false := by rfl) :
    ∃ t, QE X W (.Call (.Name "list" p2) [.Name x p] [] pos) t (fun _ _ M Q => newL m (ks.map D.str) M Q) := by
  obtain ⟨d, h1, h2⟩ := h.ex
  rw [Bool.and_eq_true, decide_eq_true_eq, List.all_eq_true] at hz
  refine ⟨_, pe_callTy (call_listK hcalm h2 nd hz.1) hgl hm (by kernel_rfl) (pa_cons (pe_glob hg h1 (v := .ref d) rfl hd) pa_nil) (by decide) (by decide) he hpl, fun DW G H p M s Q Q' hw S hq k => ⟨rfl, fun q hq2 => ?_⟩⟩
  have hr : RepL X.K G (ks.map D.str) (ks.map V.str) := by
    have h3 := hz.2
    clear hq h2 nd hz h
    induction ks with
    | nil => rfl
    | cons k ks ih =>
      have h4 := h3 k (List.mem_cons_self ..)
      rw [Bool.and_eq_true, decide_eq_true_eq] at h4
      exact ⟨.str k, _, rfl, ⟨rfl, sz1000 h4.1, h4.2⟩, ih fun z hz => h3 z (List.mem_cons_of_mem _ hz)⟩
  exact newL_ok S hq2 hr (by rw [List.length_map, sizeLine_eq]; omega) hq k
end
/-- zip of two lists, or of two tuples -/
def qiZipB (qa : DTA) : DTI := fun DW p M R => qiZip qa DW p M R ∨ qiZipT qa DW p M R
theorem qi_orI {X : Cx} {W : WX} {tg e : Expr} {t1 t2 : TI} {q1 q2 : DTI} (h1 : QI X W tg e t1 q1) (h2 : QI X W tg e t2 q2) : QI X W tg e (fun σ H R => t1 σ H R ∨ t2 σ H R) (fun DW p M R => q1 DW p M R ∨ q2 DW p M R) :=
  ⟨⟨fun pins s σ H R I h => h.elim (h1.pe.run pins s σ H R I) (h2.pe.run pins s σ H R I)⟩, fun DW G H p M s R R' hw S h k => h.imp (fun h => h1.rf DW G H p M s R R' hw S h k) fun h => h2.rf DW G H p M s R R' hw S h k⟩
section
variable {X : Cx} {W : WX} {e e2 : Expr} {ta : TA} {qa : DTA} {p pos tpos : Pos} {elts : List Expr} {kk : Nat}
theorem qi_zipB (hg : Gl X "zip") (hm : X.mg "zip" = none) (ha : QA X W [e, e2] ta qa)
    (hs : starEach [e, e2] X.env = (false, eval e X.env) :: starEach [e2] X.env := by rfl) (hpl : (backTo pos (starEach [e2] X.env)).any (·.1) = false := by rfl) :
    QI X W (.Tuple elts kk tpos) (.Call (.Name "zip" p) [e, e2] [] pos) (fun σ H R => iZip X.K ta σ H R ∨ RZ.iZipA X.K ta σ H R) (qiZipB qa) := qi_orI (qi_zip hg hm ha hs hpl) (qi_zipT hg hm ha hs hpl)
end
end DL

/-! DLx: plain data; likeness through and through, as the laws ask it. -/
namespace DL
open PySem L2
mutual
def plnD : D → Bool
  | .non => true
  | .bl _ => true
  | .int _ => true
  | .str _ => true
  | .tup ds => decide (ds.length ≤ 100000) && plnL ds
  | .lst ds => decide (ds.length ≤ 100000) && plnL ds
  | _ => false
def plnL : List D → Bool
  | [] => true
  | d :: ds => plnD d && plnL ds
end
theorem plnL_all : ∀ {ds : List D}, plnL ds = true → ∀ d ∈ ds, plnD d = true
  | [], _, _, h => by cases h
  | d :: ds, h, x, hx => by
    have h' : plnD d = true ∧ plnL ds = true := by simpa [plnL] using h
    rcases List.mem_cons.mp hx with rfl | hx
    · exact h'.1
    · exact plnL_all h'.2 x hx
theorem plnL_of : ∀ {ds : List D}, (∀ d ∈ ds, plnD d = true) → plnL ds = true
  | [], _ => by simp [plnL]
  | d :: ds, h => by
    simp only [plnL, Bool.and_eq_true]
    exact ⟨h d (List.mem_cons_self ..), plnL_of fun x hx => h x (List.mem_cons_of_mem _ hx)⟩
mutual
theorem pln_data : ∀ d : D, plnD d = true → isData d = true
  | .non, _ => rfl
  | .bl _, _ => rfl
  | .int _, _ => rfl
  | .str _, _ => rfl
  | .tup ds, h => by
    have h' : ds.length ≤ 100000 ∧ plnL ds = true := by simpa [plnD] using h
    have := plnL_data ds h'.2
    simpa [isData] using this
  | .lst ds, h => by
    have h' : ds.length ≤ 100000 ∧ plnL ds = true := by simpa [plnD] using h
    have := plnL_data ds h'.2
    simpa [isData] using this
  | .ktp _, h => by cases h
  | .xtp _, h => by cases h
  | .scr _, h => by cases h
  | .ty _, h => by cases h
  | .ref _, h => by cases h
  | .dct _ _, h => by cases h
  | .ins _ _ _, h => by cases h
  | .exc _ _ _ _, h => by cases h
theorem plnL_data : ∀ ds : List D, plnL ds = true → isDataL ds = true
  | [], _ => rfl
  | d :: ds, h => by
    have h' : plnD d = true ∧ plnL ds = true := by simpa [plnL] using h
    have h1 := pln_data d h'.1
    have h2 := plnL_data ds h'.2
    simp [isDataL, h1, h2]
end
theorem pln_res {M : Mst} {d : D} (h : plnD d = true) : res M d = d := by
  cases d with
  | ref a => cases h
  | ktp ds => cases h
  | xtp ds => cases h
  | _ => rfl
theorem dep_mem : ∀ {ds : List D} {d : D}, d ∈ ds → dep d ≤ PyData.depthAll (pydL ds)
  | [], _, h => by cases h
  | e :: ds, d, h => by
    simp only [pydL, PyData.depthAll]
    rcases List.mem_cons.mp h with rfl | h
    · exact Nat.le_max_left _ _
    · exact Nat.le_trans (dep_mem h) (Nat.le_max_right _ _)
theorem dep_in_tup {ds : List D} {d : D} (h : d ∈ ds) : dep d + 1 ≤ dep (.tup ds) := by
  have := dep_mem h
  simp only [dep, pyd, PyData.depth] at this ⊢; omega
theorem dep_in_lst {ds : List D} {d : D} (h : d ∈ ds) : dep d + 1 ≤ dep (.lst ds) := by
  have := dep_mem h
  simp only [dep, pyd, PyData.depth] at this ⊢; omega
theorem eq_bb {neg : Bool} {x y : Bool} {M : Mst} {Q : DK} : dEq neg (.bl x) (.bl y) M Q = Q (.bl (xor neg (decide (x = y)))) M := by
  unfold dEq
  rw [res_bl, res_bl, deq_bl]
  have h1 : isData (.bl x) = true := rfl
  have h2 : isData (.bl y) = true := rfl
  have h3 : min (dep (.bl x)) (dep (.bl y)) ≤ 64 := by simp [dep, pyd, PyData.depth]
  simp [h1, h2, h3]
theorem zip_self {d : D} : ∀ {ds : List D}, d ∈ zipD ds ds → ∃ e ∈ ds, d = .tup [e, e]
  | [], h => by simp [zipD] at h
  | e :: ds, h => by
    simp only [zipD, List.mem_cons] at h
    rcases h with rfl | h
    · exact ⟨e, List.mem_cons_self .., rfl⟩
    · obtain ⟨e', h1, h2⟩ := zip_self h
      exact ⟨e', List.mem_cons_of_mem _ h1, h2⟩
theorem zip_len : ∀ ds : List D, (zipD ds ds).length = ds.length
  | [] => rfl
  | d :: ds => by simp [zipD, zip_len ds]
theorem trues_ {α : Type} (l : List α) : (l.filterMap fun _ => some (D.bl true)) = (l.map fun _ => true).map D.bl := by
  induction l with
  | nil => rfl
  | cons a l ih => rw [List.filterMap_cons]; simp only [ih]; rfl
theorem all_true_ {α : Type} {l : List α} {M : Mst} {Q : DK} : dAll [.lst (l.filterMap fun _ => some (.bl true))] M Q = Q (.bl true) M := by
  have e : (l.map fun _ => true).all id = true := by
    rw [List.all_eq_true]; intro x hx; obtain ⟨_, _, rfl⟩ := List.mem_map.mp hx; rfl
  rw [trues_ l, all_bls, e]
/-- the laws' likeness -/
def qLikeR (sp : DSp) : DTS :=
  (qSeq (qIfS (qOr (qTB (qOp (dEq true) (qCB dIsi (qCons (qVar 0) (qCons (qC (.ty "bool")) qNil))) (qCB dIsi (qCons (qVar 1) (qCons (qC (.ty "bool")) qNil))))) (qTB (qOp (dEq true) (qVar 0) (qVar 1))))
  (qRet (qC (.bl false)))
  qNext)
  (qSeq (qIfS (qTB (qCB dIsi (qCons (qVar 0) (qCons (qTup (qCons (qC (.ty "list")) (qCons (qC (.ty "tuple")) qNil))) qNil))))
  (qRet (qCB dAll (qCons (qLc false (qiZipB (qCons (qVar 0) (qCons (qVar 1) qNil))) (gTupD 2 (gConsD (gNameD 2) (gConsD (gNameD 3) gNilD))) qYes (qCall sp [] (qCons (qVar 2) (qCons (qVar 3) qNil))) [2, 3]) qNil)))
  qNext)
  (qRet (qC (.bl true)))))
def spLikeD (m : Nat) : DSp := fun ds M Q _ => ∃ d, ds = [d, d] ∧ plnD d = true ∧ dep d < m ∧ m ≤ 64 ∧ Q (.bl true) M
theorem bb_ : isiB "bool" "bool" = some true := by decide +kernel
theorem nb_ : isiB "NoneType" "bool" = some false := by decide +kernel
theorem sb2_ : isiB "str" "bool" = some false := by decide +kernel
theorem tb2_ : isiB "tuple" "bool" = some false := by decide +kernel
theorem lb2_ : isiB "list" "bool" = some false := by decide +kernel
theorem isi_bools {d : D} (h : plnD d = true) : ∃ b, isiB (tyD d) "bool" = some b := by
  cases d with
  | non => exact ⟨_, nb_⟩
  | bl _ => exact ⟨_, bb_⟩
  | int _ => exact ⟨_, ib⟩
  | str _ => exact ⟨_, sb2_⟩
  | tup _ => exact ⟨_, tb2_⟩
  | lst _ => exact ⟨_, lb2_⟩
  | _ => cases h
theorem pln_hasTy {d : D} (h : plnD d = true) : hasTy d = true := by
  cases d <;> first | rfl | cases h
abbrev LS : List D := [.ty "list", .ty "tuple"]
theorem like_okD (m : Nat) (N : List Str) (hN : N.length = 4) (ds : List D) (M : Mst) (Q : DK) (Ed : DX → Mst → Prop) (h : upSp (spLikeD (m + 1)) ds M Q Ed) : qLikeR (spLikeD m) (fun x _ M => Ed x M) (retE Q) (startD N ds) M := by
  obtain ⟨Q0, E0, ⟨d, rfl, hp, hd, hm, k0⟩, kq, _⟩ := h
  have k : Q (.bl true) M := kq _ _ _ (Sub.refl _) k0
  have eS : startD N [d, d] = [some d, some d, none, none] := by unfold startD; rw [hN]; rfl
  rw [eS]
  clear eS
  obtain ⟨b, hb⟩ := isi_bools hp
  have hr : ∀ M, res M d = d := fun M => pln_res hp
  have isb : ∀ (M : Mst) (R : DK), dIsi [d, .ty "bool"] M R = R (.bl b) M := fun M R => isi_one (by rw [hr]; exact pln_hasTy hp) (by rw [hr]; exact hb)
  simp only [qLikeR, qOr, qSeq, qAsg, qTup, qCons, qNil, qOp, qUn, qC, qCall, qVar, qLst, newL_f, qIfS, qTB, qNext, qRet, qCB, gNameD, List.getElem?_cons_zero, List.getElem?_cons_succ, isb]
  rw [eq_bb]
  simp only [decide_true, Bool.xor_true, Bool.not_true, Bool.false_eq_true, if_false]
  rw [eq_same (d := d) (hr M) (hr M) (pln_data d hp) (by omega)]
  simp only [Bool.not_true, Bool.false_eq_true, if_false]
  refine ⟨by simp, ?_⟩
  have flat : ∀ (T : String) (R : DK), tyD d = T → isiL T LS = some false → R (.bl false) M → dIsi [d, .tup LS] M R := fun T R h1 h2 h3 => by
    rw [isi_tup (x := d) (b := false) (by rw [hr]; exact pln_hasTy hp) (by rw [hr, h1]; exact h2)]
    exact h3
  have deep : ∀ es, (d = .tup es ∨ d = .lst es) → qLc false (qiZipB (qCons (qVar 0) (qCons (qVar 1) qNil))) (gTupD 2 (gConsD (gNameD 2) (gConsD (gNameD 3) gNilD))) qYes (qCall (spLikeD m) [] (qCons (qVar 2) (qCons (qVar 3) qNil))) [2, 3] (fun x _ M => Ed x M) [some d, some d, none, none] M (fun x M1 => dAll [x] M1 Q) := fun es he => by
    have hes : es.length ≤ 100000 ∧ (∀ e ∈ es, plnD e = true) ∧ ∀ e ∈ es, dep e < m := by
      rcases he with rfl | rfl
      · have h' : es.length ≤ 100000 ∧ plnL es = true := by simpa [plnD] using hp
        exact ⟨h'.1, plnL_all h'.2, fun e h => by have := dep_in_tup h; omega⟩
      · have h' : es.length ≤ 100000 ∧ plnL es = true := by simpa [plnD] using hp
        exact ⟨h'.1, plnL_all h'.2, fun e h => by have := dep_in_lst h; omega⟩
    have main : ∀ (Sty : Mst → Prop) (a : Addr), M a = none → (∀ acc, Sty (put M a (.lst acc))) → compL false Sty (gTupD 2 (gConsD (gNameD 2) (gConsD (gNameD 3) gNilD))) qYes (qCall (spLikeD m) [] (qCons (qVar 2) (qCons (qVar 3) qNil))) [2, 3] a [some d, some d, none, none] (fun x M1 => dAll [x] M1 Q) (zipD es es) (put M a (.lst [])) := fun Sty c hc hS => by
      refine compL_map hc (fun _ => some (.bl true)) hS (by rw [zip_len]; exact hes.1) (fun d' hd' acc R hR => ?_) ?_
      · obtain ⟨e, h1, rfl⟩ := zip_self hd'
        simp only [gTupD, res_tup, gConsD, gNilD, wipeD, gNameD, List.length_cons, List.length_nil]
        refine ⟨trivial, trivial, ?_⟩
        simp only [qYes, qCall, qCons, qNil, qVar, List.set_cons_zero, List.set_cons_succ, List.getElem?_cons_zero, List.getElem?_cons_succ, List.append_nil, if_true]
        exact ⟨e, rfl, hes.2.1 e h1, hes.2.2 e h1, by omega, hR⟩
      · simp only [Bool.false_eq_true, if_false]
        rw [all_true_]
        exact k
    simp only [qLc, qiZipB, qiZip, qiZipT, qCons, qNil, qVar, List.getElem?_cons_zero, List.getElem?_cons_succ]
    rcases he with rfl | rfl
    · exact .inr fun c hc => main _ c hc fun _ => trivial
    · exact .inl fun c hc => main _ c hc fun _ => ⟨trivial, trivial⟩
  cases d with
  | non => exact flat _ _ rfl lt2_n k
  | bl c => exact flat _ _ rfl lt2_b k
  | int i => exact flat _ _ rfl lt2_i k
  | str z => exact flat _ _ rfl lt2_s k
  | tup es =>
    rw [isi_tup (x := .tup es) (b := true) rfl lt2_t]
    simp only [if_true]
    exact deep es (.inl rfl)
  | lst es =>
    rw [isi_tup (x := .lst es) (b := true) rfl lt2_l]
    simp only [if_true]
    exact deep es (.inr rfl)
  | _ => cases hp
end DL

/-! DLy: insert. -/
namespace DL
open PySem L2
def mIns : DMt := fun x ds M Q => match x, ds with
  | .ref a, [.int i, d] => match M a with
    | some (.lst es) => es.length < 100000 ∧ 0 ≤ i ∧ i < 100000 ∧ Q .non (put M a (.lst (es.take i.toNat ++ [d] ++ es.drop i.toNat)))
    | _ => False
  | _, _ => False
theorem m_insert {X : Cx} : QMt X "list.insert" (fun x vs H Q => ∃ (l : Addr) (xs : List V) (i : Int) (y : V), x = .ref l ∧ vs = [.int i, y] ∧ H l = some (.lst xs) ∧ xs.length < sizeLine ∧ 0 ≤ i ∧ i < 2 ^ 63 ∧
    Q .non (upd H l (.lst (xs.take i.toNat ++ [y] ++ xs.drop i.toNat)))) mIns := ⟨mt_insert, fun G H p M s x v ds vs Q Q' S r1 r2 h k => by
  unfold mIns at h
  split at h
  · next a i d =>
    cases r1
    obtain ⟨u1, u, rfl, r0, r3⟩ := repL2 r2
    cases r0
    split at h
    · next es em =>
      obtain ⟨hl, i0, i1, h⟩ := h
      obtain ⟨gn, us, g1, g2, g3⟩ := S.mem _ _ em
      have e1 := g2.length
      have z := sizeLine_eq
      refine ⟨a, us, i, u, rfl, rfl, g1, by omega, i0, by omega, k G _ _ .non _ (Same.refl _) (S.put (mo := .lst (es.take i.toNat ++ [d] ++ es.drop i.toNat)) gn ⟨_, upd_same, RepL.append (RepL.append (g2.take _) (RepL.cons r3 rfl)) (g2.drop _), ?_⟩) rfl h⟩
      simp only [List.length_append, List.length_take, List.length_drop, List.length_cons, List.length_nil]
      omega
    · exact h.elim
  · exact h.elim⟩
end DL

/-! TextB: printable texts: split at blanks, words; figures. -/
namespace Tx21
open PySem L2 DL PyProof.Rows Tx20
def Pr (x : Str) : Prop := ∀ c ∈ x.cps.toList, 32 ≤ c ∧ c ≤ 126
theorem Pr.asc {x : Str} (h : Pr x) : Asc x := fun c hc => by have := h c hc; omega
theorem pr_app {a b : Str} (ha : Pr a) (hb : Pr b) : Pr (a ++ b) := fun c hc => by
  rw [PySem.Str.cps_append, Array.toList_append, List.mem_append] at hc
  exact hc.elim (ha c) (hb c)
theorem pr_one {c : Nat} (h : 32 ≤ c ∧ c ≤ 126) : Pr ⟨#[c]⟩ := fun d hd => by simp at hd; subst hd; exact h
theorem pr_empty : Pr Str.empty := fun d hd => by simp [Str.empty] at hd
theorem pr_low {x : Str} (h : Pr x) : Pr (Txt.lower x) := fun c hc => by
  rw [lower_ascii h.asc] at hc
  simp only [Array.toList_map, List.mem_map] at hc
  obtain ⟨d, hd, rfl⟩ := hc
  have := h d hd
  unfold lo1; split <;> omega
theorem pr_ok {x : Str} (h : Pr x) (hl : x.length ≤ 100000) : okS x := ok_asc h.asc hl
theorem mem_join {sep : Str} {c : Nat} : ∀ {ps : List Str} {p : Str}, p ∈ ps → c ∈ p.cps.toList → c ∈ (Str.join sep ps).cps.toList
  | [], _, h, _ => by cases h
  | [x], p, h, hc => by rw [List.mem_singleton.mp h] at hc; exact hc
  | x :: y :: r, p, h, hc => by
    show c ∈ (x ++ sep ++ Str.join sep (y :: r)).cps.toList
    rw [PySem.Str.cps_append, PySem.Str.cps_append]
    simp only [Array.toList_append, List.mem_append]
    rcases List.mem_cons.mp h with rfl | h
    · exact .inl (.inl hc)
    · exact .inr (mem_join h hc)
theorem len_join {sep : Str} : ∀ {ps : List Str} {p : Str}, p ∈ ps → p.length ≤ (Str.join sep ps).length
  | [], _, h => by cases h
  | [x], p, h => by rw [List.mem_singleton.mp h]; exact Nat.le_refl _
  | x :: y :: r, p, h => by
    show p.length ≤ (x ++ sep ++ Str.join sep (y :: r)).length
    rw [len_append, len_append]
    rcases List.mem_cons.mp h with rfl | h
    · omega
    · have := len_join (sep := sep) h; omega
abbrev sp1 : Str := ⟨#[32]⟩
theorem split_facts {x p : Str} (h : Pr x) (hp : p ∈ Txt.split x sp1) : Pr p ∧ p.length ≤ x.length ∧ 32 ∉ p.cps.toList := by
  have hj := StrLaws.join_split x sp1
  refine ⟨fun c hc => h c ?_, ?_, StrLaws.split_free x 32 p hp⟩
  · rw [← hj]; exact mem_join hp hc
  · have := len_join (sep := sp1) hp
    rw [hj] at this; exact this
theorem space_is : ∀ c, c < 127 → 32 ≤ c → (Unicode.isSpace c = true ↔ c = 32) := by decide +kernel
theorem fold_signs : ∀ (cs : List Nat) (ws : List Str) (run : Str), (∀ c ∈ cs, (32 ≤ c ∧ c ≤ 126) ∧ c ≠ 32) → cs.foldl KWd.step (ws, run) = (ws, run ++ ⟨cs.toArray⟩)
  | [], ws, run, _ => by
    have e : (⟨([] : List Nat).toArray⟩ : Str) = Str.empty := rfl
    rw [e, app_empty]; rfl
  | c :: cs, ws, run, h => by
    have hc := h c (List.mem_cons_self ..)
    have hs : ¬ Unicode.isSpace c = true := fun z => hc.2 ((space_is c (by omega) hc.1.1).mp z)
    rw [List.foldl_cons]
    have e1 : KWd.step (ws, run) c = (ws, run ++ ⟨#[c]⟩) := by unfold KWd.step; rw [if_neg hs]
    rw [e1, fold_signs cs ws _ fun d hd => h d (List.mem_cons_of_mem _ hd), app_assoc]
    congr 2
    apply PySem.Str.ext'; rw [PySem.Str.cps_append]; apply Array.toList_inj.mp; simp
def some_ (p : Str) : Bool := !(p.length == 0)
theorem fin_join : ∀ (ps : List Str) (ws : List Str), (∀ p ∈ ps, ∀ c ∈ p.cps.toList, (32 ≤ c ∧ c ≤ 126) ∧ c ≠ 32) →
    KWd.fin ((Str.join sp1 ps).cps.toList.foldl KWd.step (ws, Str.empty)) = ws ++ ps.filter some_
  | [], ws, _ => by
    show KWd.fin ((Str.empty).cps.toList.foldl KWd.step (ws, Str.empty)) = _
    simp [Str.empty, KWd.fin, Str.length]
  | [p], ws, h => by
    show KWd.fin (p.cps.toList.foldl KWd.step (ws, Str.empty)) = _
    rw [fold_signs _ ws _ (h p (List.mem_singleton.mpr rfl))]
    have e : Str.empty ++ ⟨p.cps.toList.toArray⟩ = p := by
      apply PySem.Str.ext'; rw [PySem.Str.cps_append]; simp [Str.empty]
    rw [e]
    unfold KWd.fin some_
    by_cases hl : p.length = 0
    · simp [hl]
    · simp [hl]
  | p :: q :: r, ws, h => by
    have hp := h p (List.mem_cons_self ..)
    show KWd.fin ((p ++ sp1 ++ Str.join sp1 (q :: r)).cps.toList.foldl KWd.step (ws, Str.empty)) = _
    rw [PySem.Str.cps_append, PySem.Str.cps_append]
    simp only [Array.toList_append, List.foldl_append]
    rw [fold_signs _ ws _ hp]
    have e : Str.empty ++ ⟨p.cps.toList.toArray⟩ = p := by
      apply PySem.Str.ext'; rw [PySem.Str.cps_append]; simp [Str.empty]
    rw [e]
    show KWd.fin ((Str.join sp1 (q :: r)).cps.toList.foldl KWd.step (KWd.step (ws, p) 32)) = _
    have s32 : Unicode.isSpace 32 = true := by decide +kernel
    have ih := fun ws => fin_join (q :: r) ws fun p hp => h p (List.mem_cons_of_mem _ hp)
    have e32 : KWd.step (ws, p) 32 = if p.length = 0 then (ws, p) else (ws ++ [p], Str.empty) := by unfold KWd.step; rw [if_pos s32]
    rw [e32]
    by_cases hl : p.length = 0
    · simp only [hl, if_true]
      rw [len0 hl, ih ws]
      simp [List.filter_cons, some_, Str.empty, Str.length]
    · simp only [hl, if_false]
      rw [ih (ws ++ [p])]
      have : some_ p = true := by unfold some_; simp [hl]
      simp [List.filter_cons, this]
/-- the words of a printable text are its parts between blanks that are not empty -/
theorem words_split {x : Str} (h : Pr x) : Txt.words x = (Txt.split x sp1).filter some_ := by
  rw [KWd.words_scan]
  have hj := StrLaws.join_split x sp1
  have := fin_join (Txt.split x sp1) [] fun p hp c hc => ⟨(split_facts h hp).1 c hc, fun e => (split_facts h hp).2.2 (by rw [← e]; exact hc)⟩
  rw [hj, List.nil_append] at this
  exact this
structure Wd (n : Nat) (w : Str) : Prop where
  pr : Pr w
  pos : 1 ≤ w.length
  len : w.length ≤ n
theorem words_wd {x : Str} (h : Pr x) : ∀ w ∈ Txt.words x, Wd x.length w := fun w hw => by
  rw [words_split h, List.mem_filter] at hw
  obtain ⟨h1, h2⟩ := hw
  obtain ⟨a, b, _⟩ := split_facts h h1
  refine ⟨a, ?_, b⟩
  unfold some_ at h2
  simp at h2; omega
theorem words_few {x : Str} (h : Pr x) : (Txt.words x).length ≤ x.length + 2 := by
  rw [words_split h]
  exact Nat.le_trans (List.length_filter_le _ _) (split_le x sp1)
/-! ### figures -/
theorem figs_num {z : Str} (h : ∀ c ∈ z.cps.toList, 48 ≤ c ∧ c ≤ 57) (h1 : 1 ≤ z.length) (h2 : z.length ≤ 640) : ∃ n : Int, intText? z = some n := by
  refine ⟨_, intText_digits (fun c hc => h c hc) (fun e => ?_) (by omega)⟩
  have h3 : z.cps.toList.length = 0 := by rw [e]; rfl
  rw [Array.length_toList] at h3
  have h4 : z.length = z.cps.size := rfl
  omega
end Tx21

/-! DLz: what simp opens; draws. -/
namespace DL
open PySem L2 Tx20 Tx21
abbrev lit (s : String) : Str := PySem.Str.ofString s
abbrev one (c : Nat) : Str := ⟨#[c]⟩
abbrev stL (ws : List Str) : D := .lst (ws.map .str)
section
variable {M : Mst} {Q : DK}
/-! ### isinstance -/
@[simp] theorem z_isi_int_int {i} : dIsi [.int i, .ty "int"] M Q = Q (.bl true) M := isi_one rfl (show isiB "int" "int" = some true by decide +kernel)
@[simp] theorem z_isi_int_bool {i} : dIsi [.int i, .ty "bool"] M Q = Q (.bl false) M := isi_one rfl (show isiB "int" "bool" = some false by decide +kernel)
@[simp] theorem z_isi_int_str {i} : dIsi [.int i, .ty "str"] M Q = Q (.bl false) M := isi_one rfl (show isiB "int" "str" = some false by decide +kernel)
@[simp] theorem z_isi_int_tup {i} : dIsi [.int i, .ty "tuple"] M Q = Q (.bl false) M := isi_one rfl (show isiB "int" "tuple" = some false by decide +kernel)
@[simp] theorem z_isi_int_lst {i} : dIsi [.int i, .ty "list"] M Q = Q (.bl false) M := isi_one rfl (show isiB "int" "list" = some false by decide +kernel)
@[simp] theorem z_isi_bl_int {i} : dIsi [.bl i, .ty "int"] M Q = Q (.bl true) M := isi_one rfl (show isiB "bool" "int" = some true by decide +kernel)
@[simp] theorem z_isi_bl_bool {i} : dIsi [.bl i, .ty "bool"] M Q = Q (.bl true) M := isi_one rfl (show isiB "bool" "bool" = some true by decide +kernel)
@[simp] theorem z_isi_bl_str {i} : dIsi [.bl i, .ty "str"] M Q = Q (.bl false) M := isi_one rfl (show isiB "bool" "str" = some false by decide +kernel)
@[simp] theorem z_isi_bl_tup {i} : dIsi [.bl i, .ty "tuple"] M Q = Q (.bl false) M := isi_one rfl (show isiB "bool" "tuple" = some false by decide +kernel)
@[simp] theorem z_isi_bl_lst {i} : dIsi [.bl i, .ty "list"] M Q = Q (.bl false) M := isi_one rfl (show isiB "bool" "list" = some false by decide +kernel)
@[simp] theorem z_isi_str_int {i} : dIsi [.str i, .ty "int"] M Q = Q (.bl false) M := isi_one rfl (show isiB "str" "int" = some false by decide +kernel)
@[simp] theorem z_isi_str_bool {i} : dIsi [.str i, .ty "bool"] M Q = Q (.bl false) M := isi_one rfl (show isiB "str" "bool" = some false by decide +kernel)
@[simp] theorem z_isi_str_str {i} : dIsi [.str i, .ty "str"] M Q = Q (.bl true) M := isi_one rfl (show isiB "str" "str" = some true by decide +kernel)
@[simp] theorem z_isi_str_tup {i} : dIsi [.str i, .ty "tuple"] M Q = Q (.bl false) M := isi_one rfl (show isiB "str" "tuple" = some false by decide +kernel)
@[simp] theorem z_isi_str_lst {i} : dIsi [.str i, .ty "list"] M Q = Q (.bl false) M := isi_one rfl (show isiB "str" "list" = some false by decide +kernel)
@[simp] theorem z_isi_non_int : dIsi [.non, .ty "int"] M Q = Q (.bl false) M := isi_one rfl (show isiB "NoneType" "int" = some false by decide +kernel)
@[simp] theorem z_isi_non_bool : dIsi [.non, .ty "bool"] M Q = Q (.bl false) M := isi_one rfl (show isiB "NoneType" "bool" = some false by decide +kernel)
@[simp] theorem z_isi_non_str : dIsi [.non, .ty "str"] M Q = Q (.bl false) M := isi_one rfl (show isiB "NoneType" "str" = some false by decide +kernel)
@[simp] theorem z_isi_non_tup : dIsi [.non, .ty "tuple"] M Q = Q (.bl false) M := isi_one rfl (show isiB "NoneType" "tuple" = some false by decide +kernel)
@[simp] theorem z_isi_non_lst : dIsi [.non, .ty "list"] M Q = Q (.bl false) M := isi_one rfl (show isiB "NoneType" "list" = some false by decide +kernel)
@[simp] theorem z_isi_tup_int {i} : dIsi [.tup i, .ty "int"] M Q = Q (.bl false) M := isi_one rfl (show isiB "tuple" "int" = some false by decide +kernel)
@[simp] theorem z_isi_tup_bool {i} : dIsi [.tup i, .ty "bool"] M Q = Q (.bl false) M := isi_one rfl (show isiB "tuple" "bool" = some false by decide +kernel)
@[simp] theorem z_isi_tup_str {i} : dIsi [.tup i, .ty "str"] M Q = Q (.bl false) M := isi_one rfl (show isiB "tuple" "str" = some false by decide +kernel)
@[simp] theorem z_isi_tup_tup {i} : dIsi [.tup i, .ty "tuple"] M Q = Q (.bl true) M := isi_one rfl (show isiB "tuple" "tuple" = some true by decide +kernel)
@[simp] theorem z_isi_tup_lst {i} : dIsi [.tup i, .ty "list"] M Q = Q (.bl false) M := isi_one rfl (show isiB "tuple" "list" = some false by decide +kernel)
@[simp] theorem z_isi_lst_int {i} : dIsi [.lst i, .ty "int"] M Q = Q (.bl false) M := isi_one rfl (show isiB "list" "int" = some false by decide +kernel)
@[simp] theorem z_isi_lst_bool {i} : dIsi [.lst i, .ty "bool"] M Q = Q (.bl false) M := isi_one rfl (show isiB "list" "bool" = some false by decide +kernel)
@[simp] theorem z_isi_lst_str {i} : dIsi [.lst i, .ty "str"] M Q = Q (.bl false) M := isi_one rfl (show isiB "list" "str" = some false by decide +kernel)
@[simp] theorem z_isi_lst_tup {i} : dIsi [.lst i, .ty "tuple"] M Q = Q (.bl false) M := isi_one rfl (show isiB "list" "tuple" = some false by decide +kernel)
@[simp] theorem z_isi_lst_lst {i} : dIsi [.lst i, .ty "list"] M Q = Q (.bl true) M := isi_one rfl (show isiB "list" "list" = some true by decide +kernel)
/-! ### lengths, comparisons -/
@[simp] theorem z_len_str {z : Str} : dLen [.str z] M Q = Q (.int z.length) M := by simp [dLen]
@[simp] theorem z_len_tup {ds : List D} : dLen [.tup ds] M Q = Q (.int ds.length) M := by simp [dLen]
@[simp] theorem z_len_xtp {ds : List D} : dLen [.xtp ds] M Q = Q (.int ds.length) M := by simp [dLen]
@[simp] theorem z_len_ktp {ds : List D} : dLen [.ktp ds] M Q = Q (.int ds.length) M := by simp [dLen]
@[simp] theorem z_add_str {m : Bool} {x y : Str} : dAdd m (.str x) (.str y) M Q = (x.length + y.length ≤ 100000 ∧ Q (.str (x ++ y)) M) := rfl
@[simp] theorem z_add_tup {m : Bool} {x y : List D} : dAdd m (.tup x) (.tup y) M Q = (x.length + y.length ≤ 100000 ∧ Q (.tup (x ++ y)) M) := rfl
@[simp] theorem z_eq_int {i j : Int} : dEq false (.int i) (.int j) M Q = Q (.bl (decide (i = j))) M := by rw [eq_int, Bool.false_xor]
@[simp] theorem z_ne_int {i j : Int} : dEq true (.int i) (.int j) M Q = Q (.bl (!decide (i = j))) M := by rw [eq_int, Bool.true_xor]
@[simp] theorem z_eq_str {i j : Str} : dEq false (.str i) (.str j) M Q = Q (.bl (decide (i = j))) M := by rw [eq_str, Bool.false_xor]
@[simp] theorem z_ne_str {i j : Str} : dEq true (.str i) (.str j) M Q = Q (.bl (!decide (i = j))) M := by rw [eq_str, Bool.true_xor]
@[simp] theorem z_eq_bl {i j : Bool} : dEq false (.bl i) (.bl j) M Q = Q (.bl (decide (i = j))) M := by rw [eq_bb, Bool.false_xor]
@[simp] theorem z_ne_bl {i j : Bool} : dEq true (.bl i) (.bl j) M Q = Q (.bl (!decide (i = j))) M := by rw [eq_bb, Bool.true_xor]
@[simp] theorem z_is {x : D} : dIs false x .non M Q = Q (.bl (isNon x)) M := by cases h : isNon x <;> simp [dIs, h]
@[simp] theorem z_isnot {x : D} : dIs true x .non M Q = Q (.bl (!isNon x)) M := by cases h : isNon x <;> simp [dIs, h]
@[simp] theorem z_neg {i : Int} : dNeg (.int i) M Q = Q (.int (-i)) M := rfl
@[simp] theorem z_inS {neg : Bool} {c z : Str} : dIn neg (.str c) (.str z) M Q = Q (.bl (xor neg (inS c z))) M := rfl
@[simp] theorem z_intX_i {i : Int} : dIntX [.int i] M Q = Q (.int i) M := rfl
@[simp] theorem z_intX_b {b : Bool} : dIntX [.bl b] M Q = Q (.int (if b = true then 1 else 0)) M := by cases b <;> rfl
theorem in_strs {neg : Bool} {z : Str} {zs : List Str} : dIn neg (.str z) (.lst (zs.map .str)) M Q = Q (.bl (xor neg (decide (z ∈ zs)))) M := by
  unfold dIn
  have a : (zs.map D.str).any (fun e => deq e (.str z)) = decide (z ∈ zs) := by
    rw [List.any_map]
    induction zs with
    | nil => simp
    | cons y ys ih => simp only [List.any_cons, ih, Function.comp, deq_str, List.mem_cons]; simp [eq_comm]
  have f : (zs.map D.str).all flatD = true := by rw [List.all_map, List.all_eq_true]; intro x _; rfl
  simp only [dgetD, res_lst, a, f, show flatD (.str z) = true from rfl, true_and]
theorem in_strsT {neg : Bool} {z : Str} {zs : List Str} : dIn neg (.str z) (.tup (zs.map .str)) M Q = Q (.bl (xor neg (decide (z ∈ zs)))) M := by
  unfold dIn
  have a : (zs.map D.str).any (fun e => deq e (.str z)) = decide (z ∈ zs) := by
    rw [List.any_map]
    induction zs with
    | nil => simp
    | cons y ys ih => simp only [List.any_cons, ih, Function.comp, deq_str, List.mem_cons]; simp [eq_comm]
  have f : (zs.map D.str).all flatD = true := by rw [List.all_map, List.all_eq_true]; intro x _; rfl
  simp only [dgetD, res_tup, a, f, show flatD (.str z) = true from rfl, true_and]
/-! ### items -/
@[simp] theorem z_ix_l0 {d : D} {ds : List D} : dIx (.lst (d :: ds)) (.int 0) M Q = Q d M := ix_l atI_0
@[simp] theorem z_ix_t0 {d : D} {ds : List D} : dIx (.tup (d :: ds)) (.int 0) M Q = Q d M := ix_t atI_0
@[simp] theorem z_ix_t1 {d e : D} {ds : List D} : dIx (.tup (d :: e :: ds)) (.int 1) M Q = Q e M := ix_t atI_1
@[simp] theorem z_ix_l1 {d e : D} {ds : List D} : dIx (.lst (d :: e :: ds)) (.int 1) M Q = Q e M := ix_l atI_1
theorem pick_l {ds : List D} {r : Int} (h0 : 0 ≤ r) (h1 : r < ds.length) (h : ∀ d ∈ ds, Q d M) : dIx (.lst ds) (.int r) M Q := by
  obtain ⟨x, hx, hm⟩ := atI_some h0 h1
  rw [ix_l hx]; exact h x hm
theorem pick_t {ds : List D} {r : Int} (h0 : 0 ≤ r) (h1 : r < ds.length) (h : ∀ d ∈ ds, Q d M) : dIx (.tup ds) (.int r) M Q := by
  obtain ⟨x, hx, hm⟩ := atI_some h0 h1
  rw [ix_t hx]; exact h x hm
theorem pick_s {z : Str} {r : Int} (h0 : 0 ≤ r) (h1 : r < z.length) (h : ∀ c ∈ z.cps.toList, Q (.str (one c)) M) : dIx (.str z) (.int r) M Q := by
  obtain ⟨x, hx, hm⟩ := atI_some (xs := z.cps.toList) h0 (by rw [Array.length_toList]; exact h1)
  unfold dIx
  simp only [dgetD, res_str, hx]
  exact h x hm
theorem pick_r {a : Addr} {ds : List D} {r : Int} (hm : M a = some (.lst ds)) (h0 : 0 ≤ r) (h1 : r < ds.length) (h : ∀ d ∈ ds, Q d M) : dIx (.ref a) (.int r) M Q := by
  obtain ⟨x, hx, hm'⟩ := atI_some h0 h1
  rw [ix_r hm hx]; exact h x hm'
theorem ix_strs {ws : List Str} {i : Nat} {w : Str} (h : ws[i]? = some w) : dIx (stL ws) (.int (i : Int)) M Q = Q (.str w) M :=
  ix_l (by rw [atI_n, List.getElem?_map, h]; rfl)
theorem eq_i {neg : Bool} {i j : Nat} : dEq neg (.int (i : Int)) (.int (j : Int)) M Q = Q (.bl (xor neg (decide (i = j)))) M := by
  rw [eq_int]
  have : decide ((i : Int) = (j : Int)) = decide (i = j) := decide_eq_decide.mpr (by omega)
  rw [this]
/-! ### draws -/
theorem take_call {b : Addr} {n : Int} {E : DX → Mst → Prop} (hb : M b = some .bag) (h0 : 0 < n) (h1 : n < 1073741824) (h : ∀ r : Int, 0 ≤ r → r < n → Q (.int r) M) : spTake [.ref b, .int n] M Q E := ⟨b, n, rfl, hb, h0, h1, h⟩
end
theorem ne_of_some {M : Mst} {a b : Addr} {o : MO} (h : M a = some o) (g : M b = none) : a ≠ b := fun e => by rw [e, g] at h; cases h
theorem put_keep {M : Mst} {a b : Addr} {o u : MO} (h : M a = some o) (g : M b = none) : put M b u a = some o := by rw [put_ne (ne_of_some h g)]; exact h
theorem range_at {n : Nat} {i : Nat} {d : D} (h : (rangeD 0 n)[i]? = some d) : i < n ∧ d = .int (i : Int) := by
  have h1 := (List.getElem?_eq_some_iff.mp h).1
  have hi : i < n := by simpa [rangeD] using h1
  refine ⟨hi, ?_⟩
  simp [rangeD, hi] at h; exact h.symm
@[simp] theorem rangeD_len {lo : Int} {n : Nat} : (rangeD lo n).length = n := by simp [rangeD]
/-! ### texts drawn sign by sign -/
theorem glue_ones : ∀ (r : List Nat) (acc : Array Nat), (r.map one).foldl (fun acc (p : Str) => acc ++ (lit "").cps ++ p.cps) acc = acc ++ r.toArray
  | [], acc => by simp
  | c :: r, acc => by
    rw [List.map_cons, List.foldl_cons, glue_ones r, show (lit "").cps = #[] by decide +kernel]
    apply Array.toList_inj.mp; simp
theorem join_ones (cs : List Nat) : Txt.join (lit "") (cs.map one) = ⟨cs.toArray⟩ := by
  unfold Txt.join Builtin.Str.glued
  cases cs with
  | nil => rfl
  | cons c r =>
    simp only [List.map_cons, List.drop_succ_cons, List.drop_zero, List.headD_cons]
    rw [glue_ones]
    congr 1
    apply Array.toList_inj.mp; simp
theorem ones_sum (cs : List Nat) : ((cs.map one).map (·.length)).sum = cs.length := by
  induction cs with
  | nil => rfl
  | cons c r ih => simp only [List.map_cons, List.sum_cons, ih, List.length_cons]; show 1 + _ = _; omega
theorem signs_of {P : Nat → Prop} {ds : List D} {os : List (Option D)} (h : All2 (fun _ o => ∃ c : Nat, o = some (.str (one c)) ∧ P c) ds os) : ∃ cs : List Nat, os.filterMap id = (cs.map one).map D.str ∧ cs.length = ds.length ∧ ∀ c ∈ cs, P c := by
  induction h with
  | nil => exact ⟨[], rfl, rfl, fun _ h => (by cases h)⟩
  | cons h _ ih =>
    obtain ⟨z, rfl, hz⟩ := h
    obtain ⟨w, e, l, a⟩ := ih
    exact ⟨z :: w, by simp [e], by simp [l], fun x hx => by
      rcases List.mem_cons.mp hx with rfl | hx
      · exact hz
      · exact a x hx⟩
/-- ''.join(signs drawn) -/
theorem join_signs {cs : List Nat} {M : Mst} {Q : DK} (hp : ∀ c ∈ cs, c < 55296) (hl : cs.length ≤ 100000) (h : Q (.str ⟨cs.toArray⟩) M) : mJoin (.str (lit "")) [.lst ((cs.map one).map .str)] M Q := by
  have e0 : (lit "").length = 0 := by decide +kernel
  simp only [mJoin, res_str, res_lst, strsD_map, join_ones, ones_sum, e0]
  refine ⟨by simp; exact hl, ⟨by show cs.toArray.size ≤ 100000; simpa using hl, ?_⟩, h⟩
  unfold PyData.strOk
  rw [← Array.all_toList, List.all_eq_true]
  intro c hc
  have := hp c (by simpa using hc)
  exact decide_eq_true (by omega)
/-! ### numbers as texts, texts in length -/
structure Tx_ (n : Nat) (x : Str) : Prop where
  pr : Pr x
  len : x.length ≤ n
theorem Tx_.ok {n : Nat} {x : Str} (h : Tx_ n x) (hn : n ≤ 100000) : okS x := pr_ok h.pr (Nat.le_trans h.len hn)
theorem Tx_.mono {n m : Nat} {x : Str} (h : Tx_ n x) (hn : n ≤ m) : Tx_ m x := ⟨h.pr, Nat.le_trans h.len hn⟩
theorem Tx_.app {n m : Nat} {x y : Str} (h : Tx_ n x) (g : Tx_ m y) : Tx_ (n + m) (x ++ y) := ⟨pr_app h.pr g.pr, by rw [len_append]; have := h.len; have := g.len; omega⟩
theorem tx_one {c : Nat} (h : 32 ≤ c ∧ c ≤ 126) : Tx_ 1 (one c) := ⟨pr_one h, Nat.le_refl 1⟩
theorem tx_empty {n : Nat} : Tx_ n Str.empty := ⟨pr_empty, Nat.zero_le _⟩
def txB (n : Nat) (x : Str) : Bool := decide (x.length ≤ n) && x.cps.toList.all fun c => decide (32 ≤ c) && decide (c ≤ 126)
theorem tx_of {n : Nat} {x : Str} (h : txB n x = true) : Tx_ n x := by
  unfold txB at h
  rw [Bool.and_eq_true, decide_eq_true_eq, List.all_eq_true] at h
  exact ⟨fun c hc => by simpa using h.2 c hc, h.1⟩
theorem tx_signs {cs : List Nat} {n : Nat} (h : ∀ c ∈ cs, 32 ≤ c ∧ c ≤ 126) (hl : cs.length ≤ n) : Tx_ n ⟨cs.toArray⟩ := ⟨fun c hc => h c (by simpa using hc), by show cs.toArray.size ≤ n; simpa using hl⟩
theorem cutS_tx {n : Nat} {x : Str} {lo hi : Option Int} (h : Tx_ n x) : Tx_ n (cutS x lo hi) := by
  refine ⟨fun c hc => ?_, ?_⟩
  · unfold cutS at hc
    exact h.pr c (List.mem_of_mem_drop (List.mem_of_mem_take (by simpa using hc)))
  · exact Nat.le_trans (cutS_length ..) h.len
theorem sum_le {m : Nat} : ∀ ys : List Str, (∀ y ∈ ys, y.length ≤ m) → (ys.map (·.length)).sum ≤ ys.length * m
  | [], _ => by simp
  | y :: r, h => by
    have h1 := sum_le r fun z hz => h z (List.mem_cons_of_mem _ hz)
    have h2 := h y (List.mem_cons_self ..)
    simp only [List.map_cons, List.sum_cons, List.length_cons, Nat.add_mul, Nat.one_mul]; omega
theorem pr_join {sep : Str} (hs : Pr sep) : ∀ ys : List Str, (∀ y ∈ ys, Pr y) → Pr (Str.join sep ys)
  | [], _ => pr_empty
  | [x], h => h x (List.mem_singleton.mpr rfl)
  | x :: y :: r, h => by
    have h1 := pr_join hs (y :: r) fun z hz => h z (List.mem_cons_of_mem _ hz)
    exact pr_app (pr_app (h x (List.mem_cons_self ..)) hs) h1
theorem join_len (sep : Str) : ∀ ys : List Str, (Str.join sep ys).length ≤ (ys.map (·.length)).sum + ys.length * sep.length
  | [] => by simp [Str.join, Str.empty, Str.length]
  | [x] => by simp [Str.join]
  | x :: y :: r => by
    have := join_len sep (y :: r)
    show (x ++ sep ++ Str.join sep (y :: r)).length ≤ _
    rw [len_append, len_append]
    simp only [List.map_cons, List.sum_cons, List.length_cons] at this ⊢
    have e : (r.length + 1 + 1) * sep.length = (r.length + 1) * sep.length + sep.length := by rw [Nat.add_mul, Nat.one_mul]
    omega
theorem tx_join {sep : Str} {ys : List Str} {n : Nat} (hs : Pr sep) (h : ∀ y ∈ ys, Pr y) (hl : (ys.map (·.length)).sum + ys.length * sep.length ≤ n) : Tx_ n (Txt.join sep ys) := by
  rw [TL.join_eq]
  exact ⟨pr_join hs ys h, Nat.le_trans (join_len sep ys) hl⟩
/-! ### weights: letters and gaps -/
def wt (ys : List Str) : Nat := (ys.map (·.length)).sum + ys.length
theorem wt_app (xs ys : List Str) : wt (xs ++ ys) = wt xs + wt ys := by simp [wt]; omega
theorem wt_one (x : Str) : wt [x] = x.length + 1 := by simp [wt]
theorem wt_cut (ws : List Str) (n : Nat) : wt (ws.take n) + wt (ws.drop n) = wt ws := by rw [← wt_app, List.take_append_drop]
theorem wt_drop (ws : List Str) (n : Nat) : wt (ws.drop (n + 1)) ≤ wt (ws.drop n) := by
  have := wt_cut (ws.drop n) 1
  rw [List.drop_drop] at this
  omega
theorem wt_mem {ws : List Str} {w : Str} (h : w ∈ ws) : w.length + 1 ≤ wt ws := by
  induction ws with
  | nil => cases h
  | cons y r ih =>
    have e : wt (y :: r) = wt [y] + wt r := wt_app [y] r
    rw [wt_one] at e
    rcases List.mem_cons.mp h with rfl | h
    · omega
    · have := ih h; omega
theorem join_wt : ∀ ys : List Str, ys ≠ [] → (Str.join sp1 ys).length + 1 = wt ys
  | [], h => absurd rfl h
  | [x], _ => by rw [wt_one]; rfl
  | x :: y :: r, _ => by
    have h1 := join_wt (y :: r) (by simp)
    have e : wt (x :: y :: r) = wt [x] + wt (y :: r) := wt_app [x] _
    rw [wt_one] at e
    show (x ++ sp1 ++ Str.join sp1 (y :: r)).length + 1 = _
    rw [len_append, len_append]
    have e1 : sp1.length = 1 := rfl
    omega
theorem wt_split (x : Str) : wt (Txt.split x sp1) = x.length + 1 := by
  have h1 := join_wt (Txt.split x sp1) (List.length_pos_iff.mp (PyProof.Rows.split_pos x sp1))
  rw [StrLaws.join_split] at h1
  omega
theorem spl_sp : PySem.Str.ofString " " = sp1 := by decide +kernel
/-- ' '.join(texts) -/
theorem join_sp1 {ys : List Str} {n : Nat} {x : D} {M : Mst} {Q : DK} (hx : res M x = .lst (ys.map .str)) (h : ∀ y ∈ ys, Pr y) (hl : wt ys ≤ n) (hn : n ≤ 100000) (k : Tx_ n (Txt.join sp1 ys) → Q (.str (Txt.join sp1 ys)) M) : mJoin (.str (PySem.Str.ofString " ")) [x] M Q := by
  rw [spl_sp]
  have hs : Pr sp1 := pr_one (by decide)
  have hl' : (ys.map (·.length)).sum + ys.length * sp1.length ≤ n := by
    have e1 : sp1.length = 1 := rfl
    rw [e1, Nat.mul_one]; exact hl
  simp only [mJoin, res_str, hx, strsD_map]
  have T := tx_join hs h hl'
  exact ⟨Nat.le_trans hl' hn, T.ok hn, k T⟩
/-! ### blanks, a sign times a truth -/
theorem tx_blanks (n : Nat) : Tx_ n (blanks n) := ⟨by
  induction n with
  | zero => exact pr_empty
  | succ n ih => exact pr_app (pr_one (by decide)) ih, by rw [blanks_len]; exact Nat.le_refl _⟩
theorem blank_mul {n : Int} {M : Mst} {Q : DK} (h0 : 0 ≤ n) (h1 : n ≤ 100) : dMul false (.str (PySem.Str.ofString " ")) (.int n) M Q = Q (.str (blanks n.toNat)) M := by
  have e1 : (PySem.Str.ofString " ").length = 1 := by decide +kernel
  have ok := ok_asc (blanks_asc n.toNat) (by rw [blanks_len]; omega)
  unfold dMul
  simp only [res_str, rep_blank, ok.2]
  apply propext
  constructor
  · rintro ⟨_, _, _, _, h⟩; exact h
  · intro h; exact ⟨by omega, by omega, by rw [e1]; omega, trivial, h⟩
theorem mul_truth {b : Bool} {n : Nat} {z : Str} {M : Mst} {Q : DK} (h : Tx_ n z) (hn : n ≤ 100000) (k : ∀ y, Tx_ n y → Q (.str y) M) : dMul false (.str z) (.int (if b = true then 1 else 0)) M Q := by
  have hl := h.len
  unfold dMul
  cases b with
  | true =>
    have e : repS z 1 = z := by
      unfold repS
      apply PySem.Str.ext'
      show (List.replicate 1 z.cps).foldl (· ++ ·) #[] = z.cps
      simp
    simp only [if_true, res_str, e]
    exact ⟨by omega, by omega, by show z.length * 1 ≤ _; omega, (h.ok hn).2, k z h⟩
  | false =>
    have e : repS z 0 = Str.empty := by
      unfold repS
      apply PySem.Str.ext'
      show (List.replicate 0 z.cps).foldl (· ++ ·) #[] = _
      simp [Str.empty]
    simp only [Bool.false_eq_true, if_false, res_str, e]
    exact ⟨by omega, by omega, by show z.length * 0 ≤ _; omega, (tx_empty (n := 0)).ok (by omega) |>.2, k _ tx_empty⟩
/-- sep.join(texts) -/
theorem join_txs {sep : Str} {ys : List Str} {n : Nat} {x : D} {M : Mst} {Q : DK} (hx : res M x = .lst (ys.map .str)) (hs : Pr sep) (h : ∀ y ∈ ys, Pr y) (hl : (ys.map (·.length)).sum + ys.length * sep.length ≤ n) (hn : n ≤ 100000) (k : Tx_ n (Txt.join sep ys) → Q (.str (Txt.join sep ys)) M) : mJoin (.str sep) [x] M Q := by
  simp only [mJoin, res_str, hx, strsD_map]
  have T := tx_join hs h hl
  exact ⟨Nat.le_trans hl hn, T.ok hn, k T⟩
end DL

/-! DLA: instances of the program's own classes: fields, methods, making, isinstance. -/
namespace DL
open PySem L2
/-! ### fields by their places -/
theorem lookup_zip {α : Type} {f : Str} : ∀ {fs : List Str} {i : Nat}, fs.findIdx? (fun z => z == f) = some i → ∀ {ns : List Str} {ds : List α} {y : α}, ns = fs.take ns.length → ds.length = ns.length → ds[i]? = some y → (ns.zip ds).lookup f = some y
  | [], i, h, _, _, _, _, _, _ => by simp at h
  | g :: fs, i, h, ns, ds, y, e, l, hy => by
    cases ns with
    | nil =>
      have : ds = [] := List.eq_nil_of_length_eq_zero (by simpa using l)
      subst this; simp at hy
    | cons n ns =>
      cases ds with
      | nil => simp at l
      | cons d ds =>
        simp only [List.length_cons, List.take_succ_cons, List.cons.injEq] at e
        obtain ⟨rfl, e⟩ := e
        rw [List.findIdx?_cons] at h
        show List.lookup f ((n, d) :: ns.zip ds) = some y
        by_cases hn : (n == f) = true
        · rw [if_pos hn] at h
          cases h
          have hf : (f == n) = true := by rw [beq_iff_eq] at hn ⊢; exact hn.symm
          rw [List.lookup_cons, hf]
          simpa using hy
        · rw [if_neg hn] at h
          obtain ⟨j, hj, rfl⟩ := Option.map_eq_some_iff.mp h
          have hf : (f == n) = false := by
            rw [Bool.eq_false_iff]; intro z; rw [beq_iff_eq] at z; exact hn (by rw [beq_iff_eq]; exact z.symm)
          rw [List.lookup_cons, hf]
          exact lookup_zip hj e (by simpa using l) (by simpa using hy)
theorem lookup_none {α : Type} {f : Str} {fs ns : List Str} {ds : List α} (h : f ∉ fs) (e : ns = fs.take ns.length) : (ns.zip ds).lookup f = none := by
  rw [List.lookup_eq_none_iff]
  intro p hp
  have hm : p.1 ∈ ns := (List.of_mem_zip (show (p.1, p.2) ∈ ns.zip ds from hp)).1
  rw [e] at hm
  have := List.mem_of_mem_take hm
  rw [bne_iff_ne]
  intro z
  exact h (z ▸ this)
/-- what an instance's fields are now -/
def insD (M : Mst) (x : D) : Option (Addr × List Str × List D) := match res M x with
  | .ins C ns ds => some (C, ns, ds)
  | _ => none
theorem as_insD {K : PySem.W.Frag} {G H : Hp} {p : Rho} {M : Mst} {s : L2.St} {x : D} {v : V} {C : Addr} {ns : List Str} {ds : List D} (S : Sim K G H p M s) (r : Rep K G x v) (h : insD M x = some (C, ns, ds)) :
    ∃ a dx fv, v = .ref a ∧ H a = some (.ins C dx fv) ∧ fv.map (·.1) = ns ∧ RepL K G ds (fv.map (·.2)) := by
  unfold insD at h
  split at h
  · next e => cases h; exact as_ins S r e
  · cases h
/-- e.f, the field at place i of fs -/
def qFld (C : Addr) (fs : List Str) (i : Nat) (qe : DTE) : DTE := fun DW p M Q => qe DW p M fun x M1 => match insD M1 x with
  | some (C', ns, ds) => C' = C ∧ ns = fs.take ns.length ∧ match ds[i]? with
    | some y => Q y M1
    | none => False
  | none => False
section
variable {X : Cx} {W : WX} {e o : Expr} {te to : TE} {qe qo : DTE} {f : Str} {pos pos' : Pos} {C : Addr} {fs : List Str} {i : Nat}
theorem q_fld (cl : Cls X.K C) (n : NoAttr X.K C f) (he : QE X W e te qe) (hi : fs.findIdx? (fun z => z == f) = some i) (hb : attributeBase e f X.env (eval e X.env) = eval e X.env := by rfl) :
    QE X W (.Attribute e f pos) (tFld X.K te f) (qFld C fs i qe) :=
  ⟨pe_fld he.pe hb, fun DW G H p M s Q Q' hw S h k => he.rf DW G H p M s _ _ hw S h fun G1 H1 M1 x v e1 S1 r1 h1 => by
    split at h1
    · next C' ns ds eo =>
      obtain ⟨rfl, hn, h1⟩ := h1
      obtain ⟨a, dx, fv, rfl, g1, g2, g3⟩ := as_insD S1 r1 eo
      split at h1
      · next y ey =>
        obtain ⟨w, ew, rw_⟩ := g3.get ey
        refine ⟨a, C', dx, fv, w, rfl, g1, cl, n, ?_, k G1 H1 M1 y w e1 S1 rw_ h1⟩
        have hl := g3.length
        have hln : (fv.map (·.2)).length = ns.length := by rw [← g2]; simp
        have := lookup_zip (ds := fv.map (·.2)) hi hn hln ew
        rw [← g2, zip_fs] at this
        exact this
      · exact h1.elim
    · exact h1.elim⟩
end
/-- o.f = e: the field at place i of fs -/
def setAt (i : Nat) (f : Str) (y : D) (cur : List (Str × D)) : List (Str × D) := if i < cur.length then cur.set i (f, y) else cur ++ [(f, y)]
def qSetF (C : Addr) (fs : List Str) (i : Nat) (f : Str) (qo qe : DTE) : DTS := fun DW DE p M => qe DW p M fun y M1 => qo DW p M1 fun x M2 => match x with
  | .ref a => match M2 a with
    | some (.ins C' cur) => C' = C ∧ cur.map (·.1) = fs.take cur.length ∧ i ≤ cur.length ∧ fs.length < 900 ∧ DE.nx p (put M2 a (.ins C (setAt i f y cur)))
    | _ => False
  | _ => False
theorem putF_names {f : Str} {y : V} : ∀ {cur : List (Str × V)} {fs : List Str} {i : Nat}, fs.findIdx? (fun z => z == f) = some i → cur.map (·.1) = fs.take cur.length → i ≤ cur.length →
    putF f y cur = if i < cur.length then cur.set i (f, y) else cur ++ [(f, y)]
  | [], fs, i, h, e, hi => by
    have : i = 0 := by simpa using hi
    subst this; rfl
  | (g, x) :: r, [], i, h, e, hi => by simp at h
  | (g, x) :: r, n :: fs, i, h, e, hi => by
    simp only [List.map_cons, List.length_cons, List.take_succ_cons, List.cons.injEq] at e
    obtain ⟨e0, e⟩ := e
    subst e0
    rw [List.findIdx?_cons] at h
    show (if g = f then (g, y) :: r else (g, x) :: putF f y r) = _
    by_cases hn : g = f
    · rw [if_pos (by rw [beq_iff_eq]; exact hn)] at h
      cases h
      subst hn
      rw [if_pos rfl, if_pos (by simp)]
      rfl
    · rw [if_neg (by rw [beq_iff_eq]; exact hn)] at h
      obtain ⟨j, hj, rfl⟩ := Option.map_eq_some_iff.mp h
      rw [if_neg hn, putF_names hj e (by simpa using hi)]
      simp only [List.length_cons, Nat.add_lt_add_iff_right, List.set_cons_succ]
      split <;> rfl
theorem take_le_len {α β : Type} {cur : List α} {g : α → β} {fs : List β} (e : cur.map g = fs.take cur.length) : cur.length ≤ fs.length := by
  have := congrArg List.length e
  simp at this; omega
section
variable {X : Cx} {W : WX} {e o : Expr} {te to : TE} {qe qo : DTE} {f : Str} {pos pos' : Pos} {C : Addr} {fs : List Str} {i : Nat}
theorem map_set_fst {α β : Type} {l : List (α × β)} {i : Nat} {q : α × β} : (l.set i q).map (·.1) = (l.map (·.1)).set i q.1 := by rw [List.map_set]
theorem qs_setF (cl : Cls X.K C) (n : NoAttr X.K C f) (ho : QE X W o to qo) (he : QE X W e te qe) (hi : fs.findIdx? (fun z => z == f) = some i) (hs : swapsWith e (some (.Attribute o f pos')) pos.line X.env = pure false := by rfl) :
    QS X W (.Assign [.Attribute o f pos'] e pos) (sFld X.K to te f) (qSetF C fs i f qo qe) :=
  ⟨ps_fld ho.pe he.pe hs, fun DW G H p M s DE E hw S h k => he.rf DW G H p M s _ _ hw S h fun G1 H1 M1 y v e1 S1 r1 h1 => ho.rf DW G1 H1 p M1 s _ _ (hw.mono e1) S1 h1 fun G2 H2 M2 x u e2 S2 r2 h2 => by
    split at h2
    · next a =>
      cases r2
      split at h2
      · next C' cur em =>
        obtain ⟨rfl, hn, hl, hf, h2⟩ := h2
        obtain ⟨gn, dx, fv, g1, g2, g3⟩ := S2.mem _ _ em
        have len : fv.length = cur.length := by have := congrArg List.length g2; simpa using this
        have hle := take_le_len hn
        have hn' : fv.map (·.1) = fs.take fv.length := by rw [g2, hn, len]
        refine ⟨a, C', dx, fv, rfl, g1, cl, n, by omega, ?_⟩
        have pf : putF f v fv = if i < fv.length then fv.set i (f, v) else fv ++ [(f, v)] := putF_names hi hn' (by omega)
        have rm : RepM X.K G2 (upd H2 a (.ins C' dx (putF f v fv))) a (.ins C' (setAt i f y cur)) := by
          refine ⟨dx, _, upd_same, ?_, ?_⟩
          · rw [pf]; unfold setAt
            rw [len]
            by_cases hc : i < cur.length
            · rw [if_pos hc, if_pos hc, map_set_fst, map_set_fst, g2]
            · rw [if_neg hc, if_neg hc, List.map_append, List.map_append, g2]; rfl
          · rw [pf]; unfold setAt
            rw [len]
            have r1' := Rep.mono e2 _ _ r1
            by_cases hc : i < cur.length
            · rw [if_pos hc, if_pos hc, List.map_set, List.map_set]
              exact g3.set i r1'
            · rw [if_neg hc, if_neg hc, List.map_append, List.map_append]
              exact g3.append (RepL.cons r1' rfl)
        exact k.nx G2 _ p _ s (e1.trans e2) (S2.put gn rm) h2
      · exact h2.elim
    · exact h2.elim⟩
end
/-! ### methods -/
def tMethSD (C : Addr) (m : Str) (sp : Sp) (dvs : List V) (E : L2.St → XK) (ta : TE) (t : TA) : TE := fun σ H Q => ta σ H fun x H1 => ∃ a dx fs, x = .ref a ∧ H1 a = some (.ins C dx fs) ∧ fs.lookup m = none ∧
  t σ H1 fun vs H2 => sp (x :: (vs ++ dvs)) H2 Q (E σ)
def isObj (M : Mst) (x : D) (C : Addr) (fs : List Str) : Prop := match insD M x with
  | some (C', ns, _) => C' = C ∧ ns = fs.take ns.length
  | none => False
def qMeth (C : Addr) (fs : List Str) (P : DSp) (dds : List D) (qo : DTE) (qa : DTA) : DTE := fun DW p M Q => qo DW p M fun x M1 => isObj M1 x C fs ∧ qa DW p M1 fun ds M2 => P (x :: (ds ++ dds)) M2 Q fun z M3 => DW z p M3
section
variable {X : Cx} {W : WX} {k n : Nat} {C f : Addr} {fd : FuncData} {fs ps ks : List Str} {P : DSp} {dds : List D} {dvs : List V} {ds : List Value} {x m : Str} {p pos apos : Pos} {e o : Expr} {es : List Expr} {kws : List Keyword} {to : TE} {qo : DTE} {t tk : TA} {q qk : DTA} {idx : List Nat}
theorem obj_at {K : PySem.W.Frag} {G H : Hp} {p : Rho} {M : Mst} {s : L2.St} {x : D} {v : V} (S : Sim K G H p M s) (r : Rep K G x v) (h : isObj M x C fs) (hm : m ∉ fs) : ∃ a dx fv, v = .ref a ∧ H a = some (.ins C dx fv) ∧ fv.lookup m = none := by
  unfold isObj at h
  split at h
  · next C' ns ds eo =>
    obtain ⟨rfl, hn⟩ := h
    obtain ⟨a, dx, fv, rfl, g1, g2, g3⟩ := as_insD S r eo
    refine ⟨a, dx, fv, rfl, g1, ?_⟩
    have := lookup_none (ds := fv.map (·.2)) hm hn
    rw [← g2, zip_fs] at this
    exact this
  · exact h.elim
theorem ref_meth {K : PySem.W.Frag} (ho : RefE K W to qo) (ha : RefA K W t q) (hm : m ∉ fs) (hd : ∀ G, RepL K G dds dvs) : RefE K W (tMethSD C m (toSp K P) dvs (fun s => WE W s) to t) (qMeth C fs P dds qo q) :=
  fun DW G H p M s Q Q' hw S h k => ho DW G H p M s _ _ hw S h fun G1 H1 M1 x v e1 S1 r1 ⟨ob, h1⟩ => by
    obtain ⟨a, dx, fv, rfl, g1, g2⟩ := obj_at S1 r1 ob hm
    refine ⟨a, dx, fv, rfl, g1, g2, ha DW G1 H1 p M1 s _ _ (hw.mono e1) S1 h1 fun G2 H2 M2 as vs e2 S2 r2 h2 => ?_⟩
    exact toSp_at (hw.mono (e1.trans e2)) S2 (RepL.cons (Rep.mono e2 _ _ r1) (RepL.append r2 (hd _))) h2 fun G' H' M' d v e3 => k G' H' M' d v ((e1.trans e2).trans e3)
/-- o.m(e, ..) -/
theorem q_meth {pl : Sem Bool} (cl : Cls X.K C) (hm : Meth X.K C m f) (F : FnOk X.prog X.w X.K X.mg X.base (L2.CX X.prog X.w) k f fd ps (toSp X.K P)) (hr : Room k X.A) (tk : Takes X W) (hb : Binds X.K fd ps ds) (hd : Vals dvs ds) (hdd : ∀ G, RepL X.K G dds dvs)
    (ho : QE X W o to qo) (ha : QA X W (e :: es) t q) (hmf : m ∉ fs)
    (hst : starEach (e :: es) X.env = (false, eval e X.env) :: starEach es X.env := by rfl) (hpl : (backTo pos (starEach es X.env)).any (·.1) = false := by rfl)
    (ht : eval (.Call (.Attribute o m apos) (e :: es) [] pos) X.env = (do
      let ov ← eval o X.env
      standAt apos.atName
      let (f, first) ← holding [ov] (getMethod ov m pl)
      callWith pos f first (backTo pos (starEach (e :: es) X.env)) (backToKw pos (keywordEach [] X.env))) := by rfl) :
    QE X W (.Call (.Attribute o m apos) (e :: es) [] pos) (tMethSD C m (toSp X.K P) dvs (fun s => WE W s) to t) (qMeth C fs P dds qo q) := by
  refine ⟨⟨fun pins s σ H Q I h => ?_⟩, ref_meth ho.rf ha.rf hmf hdd⟩
  refine PySem.W.methodCall_KW (pl := pl) (thn (ho.pe.run pins s σ H _ I h) fun u s1 ⟨x, H1, I1, rx, a, dx, fv, ex, ea, l, q⟩ => ?_) ht
  subst ex
  obtain rfl : u = Value.ref a := rx
  refine getmeth_ok I1 ea cl hm l ?_
  refine PySem.W.callWith_K (first := [.ref a]) (h₀ := X.base) I.ok.mod.kin hm.kp (thn (ha.pe.run pos pins s1 σ H1 _ I1 q) fun us s2 ⟨vs, H2, I2, r, q2⟩ => ⟨I2.kIn, ?_⟩) hst hpl
  exact run_fnSD (us := .ref a :: us) (vs := .ref a :: vs) (E := fun s => WE W s) F hr hb hd (passAt tk σ) I2 (.cons rfl r) q2
/-- o.m() -/
theorem q_meth0 {pl : Sem Bool} (cl : Cls X.K C) (hm : Meth X.K C m f) (F : FnOk X.prog X.w X.K X.mg X.base (L2.CX X.prog X.w) k f fd ps (toSp X.K P)) (hr : Room k X.A) (tk : Takes X W) (hb : Binds X.K fd ps ds) (hd : Vals dvs ds) (hdd : ∀ G, RepL X.K G dds dvs)
    (ho : QE X W o to qo) (hmf : m ∉ fs)
    (ht : eval (.Call (.Attribute o m apos) [] [] pos) X.env = (do
      let ov ← eval o X.env
      standAt apos.atName
      let (f, first) ← holding [ov] (getMethod ov m pl)
      callWith pos f first (backTo pos (starEach [] X.env)) (backToKw pos (keywordEach [] X.env))) := by rfl) :
    QE X W (.Call (.Attribute o m apos) [] [] pos) (tMethSD C m (toSp X.K P) dvs (fun s => WE W s) to tNil) (qMeth C fs P dds qo qNil) := by
  refine ⟨⟨fun pins s σ H Q I h => ?_⟩, ref_meth ho.rf (qa_nil (X := X) (W := W)).rf hmf hdd⟩
  refine PySem.W.methodCall_KW (pl := pl) (thn (ho.pe.run pins s σ H _ I h) fun u s1 ⟨x, H1, I1, rx, a, dx, fv, ex, ea, l, q⟩ => ?_) ht
  subst ex
  obtain rfl : u = Value.ref a := rx
  refine getmeth_ok I1 ea cl hm l ?_
  exact PySem.W.callWith_K0 (first := [.ref a]) I1.kIn hm.kp (run_fnSD (us := [.ref a]) (vs := [.ref a]) (E := fun s => WE W s) F hr hb hd (passAt tk σ) I1 (.cons rfl .nil) q)
/-- o.m(e, .., k = v, ..): self and n values, the keywords ks -/
def tMethKw (C : Addr) (mm : Str) (n m : Nat) (sp : Sp) (idx : List Nat) (E : L2.St → XK) (ta : TE) (t tk : TA) : TE := fun σ H Q => ta σ H fun x H1 => ∃ a dx fs, x = .ref a ∧ H1 a = some (.ins C dx fs) ∧ fs.lookup mm = none ∧
  t σ H1 fun vs H2 => tk σ H2 fun zs H3 => (x :: vs).length = n ∧ zs.length = m ∧ sp (pickL idx (x :: vs ++ zs)) H3 Q (E σ)
def qMethKw (C : Addr) (fs : List Str) (n m : Nat) (P : DSp) (idx : List Nat) (qo : DTE) (qa qk : DTA) : DTE := fun DW p M Q => qo DW p M fun x M1 => isObj M1 x C fs ∧ qa DW p M1 fun ds M2 => qk DW p M2 fun zs M3 => (x :: ds).length = n ∧ zs.length = m ∧ P (pickL idx (x :: ds ++ zs)) M3 Q fun z M4 => DW z p M4
theorem ref_methKw {K : PySem.W.Frag} {mm : Str} {j l : Nat} (ho : RefE K W to qo) (ha : RefA K W t q) (hk : RefA K W tk qk) (hm : mm ∉ fs) : RefE K W (tMethKw C mm j l (toSp K P) idx (fun s => WE W s) to t tk) (qMethKw C fs j l P idx qo q qk) :=
  fun DW G H p M s Q Q' hw S h k => ho DW G H p M s _ _ hw S h fun G1 H1 M1 x v e1 S1 r1 ⟨ob, h1⟩ => by
    obtain ⟨a, dx, fv, rfl, g1, g2⟩ := obj_at S1 r1 ob hm
    refine ⟨a, dx, fv, rfl, g1, g2, ha DW G1 H1 p M1 s _ _ (hw.mono e1) S1 h1 fun G2 H2 M2 as vs e2 S2 r2 h2 => hk DW G2 H2 p M2 s _ _ (hw.mono (e1.trans e2)) S2 h2 fun G3 H3 M3 bs zs e3 S3 r3 h3 => ?_⟩
    obtain ⟨l1, l2, h3⟩ := h3
    refine ⟨by rw [← l1]; simp [r2.length], by rw [← l2, r3.length], ?_⟩
    have rr : RepL K G3 (x :: as ++ bs) (.ref a :: vs ++ zs) := RepL.append (RepL.cons (Rep.mono (e2.trans e3) _ _ r1) (RepL.mono e3 _ _ r2)) r3
    exact toSp_at (hw.mono ((e1.trans e2).trans e3)) S3 (pick_rep rr idx) h3 fun G' H' M' d v e4 => k G' H' M' d v (((e1.trans e2).trans e3).trans e4)
theorem q_methK {pl : Sem Bool} (cl : Cls X.K C) (hm : Meth X.K C m f) (F : FnOk X.prog X.w X.K X.mg X.base (L2.CX X.prog X.w) k f fd ps (toSp X.K P)) (hr : Room k X.A) (tkk : Takes X W) (hb : KwB X.K fd ps n ks idx)
    (ho : QE X W o to qo) (ha : QA X W (e :: es) t q) (hkw : QK X W kws tk qk) (hmf : m ∉ fs) (hall : (backToKw pos (keywordEach kws X.env)).all (·.1.isSome) = true := by rfl) (hks : (backToKw pos (keywordEach kws X.env)).filterMap (·.1) = ks := by rfl)
    (he : starEach (e :: es) X.env = (false, eval e X.env) :: starEach es X.env := by rfl)
    (hpl : ((backTo pos (starEach (e :: es) X.env)).any (·.1) || (backToKw pos (keywordEach kws X.env)).any (·.1.isNone)) = false := by rfl)
    (ht : eval (.Call (.Attribute o m apos) (e :: es) kws pos) X.env = (do
      let ov ← eval o X.env
      standAt apos.atName
      let (f, first) ← holding [ov] (getMethod ov m pl)
      callWith pos f first (backTo pos (starEach (e :: es) X.env)) (backToKw pos (keywordEach kws X.env))) := by rfl) :
    QE X W (.Call (.Attribute o m apos) (e :: es) kws pos) (tMethKw C m n ks.length (toSp X.K P) idx (fun s => WE W s) to t tk) (qMethKw C fs n ks.length P idx qo q qk) := by
  refine ⟨⟨fun pins s σ H Q I h => ?_⟩, ref_methKw ho.rf ha.rf hkw.rf hmf⟩
  refine PySem.W.methodCall_KW (pl := pl) (thn (ho.pe.run pins s σ H _ I h) fun u s1 ⟨x, H1, I1, rx, a, dx, fv, ex, ea, l, q⟩ => ?_) ht
  subst ex
  obtain rfl : u = Value.ref a := rx
  refine getmeth_ok I1 ea cl hm l ?_
  refine PySem.W.callWith_KW (first := [.ref a]) (h₀ := X.base) I.ok.mod.kin hm.kp hall (thn (ha.pe.run pos pins s1 σ H1 _ I1 q) fun us s2 ⟨vs, H2, I2, r, q⟩ => ?_) hpl he
  refine thn (hkw.pe.run pos pins s2 σ H2 _ I2 q) fun ws s3 ⟨zs, H3, I3, rz, l1, l2, q2⟩ => ⟨I3.kIn, ?_⟩
  rw [hks]
  exact run_kw (us := .ref a :: us) (vs := .ref a :: vs) (E := fun s => WE W s) F hr hb (passAt tkk σ) I3 (.cons rfl r) rz l1 l2 q2
theorem q_methK0 {pl : Sem Bool} (cl : Cls X.K C) (hm : Meth X.K C m f) (F : FnOk X.prog X.w X.K X.mg X.base (L2.CX X.prog X.w) k f fd ps (toSp X.K P)) (hr : Room k X.A) (tkk : Takes X W) (hb : KwB X.K fd ps 1 ks idx)
    (ho : QE X W o to qo) (hkw : QK X W kws tk qk) (hmf : m ∉ fs) (hall : (backToKw pos (keywordEach kws X.env)).all (·.1.isSome) = true := by rfl) (hks : (backToKw pos (keywordEach kws X.env)).filterMap (·.1) = ks := by rfl)
    (hpl : ((backTo pos (starEach [] X.env)).any (·.1) || (backToKw pos (keywordEach kws X.env)).any (·.1.isNone)) = false := by rfl)
    (ht : eval (.Call (.Attribute o m apos) [] kws pos) X.env = (do
      let ov ← eval o X.env
      standAt apos.atName
      let (f, first) ← holding [ov] (getMethod ov m pl)
      callWith pos f first (backTo pos (starEach [] X.env)) (backToKw pos (keywordEach kws X.env))) := by rfl) :
    QE X W (.Call (.Attribute o m apos) [] kws pos) (tMethKw C m 1 ks.length (toSp X.K P) idx (fun s => WE W s) to tNil tk) (qMethKw C fs 1 ks.length P idx qo qNil qk) := by
  refine ⟨⟨fun pins s σ H Q I h => ?_⟩, ref_methKw ho.rf (qa_nil (X := X) (W := W)).rf hkw.rf hmf⟩
  refine PySem.W.methodCall_KW (pl := pl) (thn (ho.pe.run pins s σ H _ I h) fun u s1 ⟨x, H1, I1, rx, a, dx, fv, ex, ea, l, q⟩ => ?_) ht
  subst ex
  obtain rfl : u = Value.ref a := rx
  refine getmeth_ok I1 ea cl hm l ?_
  refine PySem.W.callWith_KW0 (first := [.ref a]) (h₀ := X.base) I.ok.mod.kin hm.kp hall (thn (hkw.pe.run pos pins s1 σ H1 _ I1 q) fun ws s3 ⟨zs, H3, I3, rz, l1, l2, q2⟩ => ⟨I3.kIn, ?_⟩) hpl
  rw [hks]
  exact run_kw (us := [.ref a]) (vs := [.ref a]) (E := fun s => WE W s) F hr hb (passAt tkk σ) I3 (.cons rfl .nil) rz l1 l2 q2
end
/-! ### a new instance -/
def tMakeSD (C : Addr) (sp : Sp) (dvs : List V) (E : L2.St → XK) (t : TA) : TE := fun σ H Q => t σ H fun vs H1 => ∀ x dx, H1 x = none → H1 dx = none → dx ≠ x →
  sp (.ref x :: (vs ++ dvs)) (upd (upd H1 dx (.own x)) x (.ins C dx [])) (fun v H2 => v = .non ∧ Q (.ref x) H2) (E σ)
def qMake (C : Addr) (P : DSp) (dds : List D) (qa : DTA) : DTE := fun DW p M Q => qa DW p M fun ds M1 => ∀ a, M1 a = none → P (.ref a :: (ds ++ dds)) (put M1 a (.ins C [])) (fun d M2 => d = .non ∧ Q (.ref a) M2) fun z M3 => DW z p M3
def qMakeKw (C : Addr) (n m : Nat) (P : DSp) (idx : List Nat) (qa qk : DTA) : DTE := fun DW p M Q => qa DW p M fun ds M1 => qk DW p M1 fun zs M2 => ds.length + 1 = n ∧ zs.length = m ∧ ∀ a, M2 a = none → P (pickL idx (.ref a :: ds ++ zs)) (put M2 a (.ins C [])) (fun d M3 => d = .non ∧ Q (.ref a) M3) fun z M3 => DW z p M3
def tMakeKw (C : Addr) (n m : Nat) (sp : Sp) (idx : List Nat) (E : L2.St → XK) (t tk : TA) : TE := fun σ H Q => t σ H fun vs H1 => tk σ H1 fun zs H2 => vs.length + 1 = n ∧ zs.length = m ∧ ∀ x dx, H2 x = none → H2 dx = none → dx ≠ x →
  sp (pickL idx (.ref x :: vs ++ zs)) (upd (upd H2 dx (.own x)) x (.ins C dx [])) (fun v H3 => v = .non ∧ Q (.ref x) H3) (E σ)
section
variable {X : Cx} {W : WX} {k n : Nat} {C f : Addr} {fd : FuncData} {ps ks : List Str} {P : DSp} {dds : List D} {dvs : List V} {ds : List Value} {x : Str} {p pos : Pos} {e : Expr} {es : List Expr} {kws : List Keyword} {t tk : TA} {q qk : DTA} {idx : List Nat}
theorem isNon_v {K : PySem.W.Frag} {G : Hp} {d : D} {v : V} (r : Rep K G d v) (h : d = .non) : v = .non := by subst h; exact r
/-- the new instance stands: from its promise by data -/
theorem made_sim {K : PySem.W.Frag} {G H : Hp} {p : Rho} {M : Mst} {s : L2.St} (S : Sim K G H p M s) {a dx : Addr} (ha : H a = none) (hdx : H dx = none) (hn : dx ≠ a) : M a = none ∧ Sim K G (upd (upd H dx (.own a)) a (.ins C dx [])) p (put M a (.ins C [])) s := by
  refine ⟨S.mem.fresh ha, ?_⟩
  have S1 : Sim K G (upd H dx (.own a)) p M s := sim_laid S hdx
  exact S1.put (S1.same.free (by rw [upd_ne hn.symm]; exact ha)) ⟨dx, [], upd_same, rfl, rfl⟩
theorem run_fnE {sp : Sp} {E : L2.St → XK} {CX : CXT} {pins : List (Addr × Obj)} {σ : L2.St} {H : Hp} {s : Shared} {Q : VK} {us ws args : List Value} {vs : List V} (hargs : Vals vs args) (M : Mk X.K C f) (F : FnOk X.prog X.w X.K X.mg X.base CX k f fd ps sp) (hr : Room (k + 1) X.A)
    (hb : ∀ s : Shared, X.K.In s.heap → BindsTo s fd ⟨Value.ref (σ0 + 1) :: us, ks.zip ws⟩ (ps.zip args)) (hx : PassesAt CX X σ (E σ)) (I : Inv X pins σ H s) (e0 : s.heap.objs.size = σ0)
    (h : ∀ dx, H (σ0 + 1) = none → H dx = none → dx ≠ σ0 + 1 → sp vs (upd (upd H dx (.own (σ0 + 1))) (σ0 + 1) (.ins C dx [])) (fun v H2 => v = .non ∧ Q (.ref (σ0 + 1)) H2) (E σ)) :
    wpAny (model X.prog X.w) X.A (call (.ref C) us (ks.zip ws)) (EP X pins σ Q) X.xe s := by
  subst e0
  have hq := h s.heap.objs.size (I.hok.fresh (Nat.le_succ _)) (I.hok.fresh (Nat.le_refl _)) (Nat.ne_of_lt (Nat.lt_succ_self _))
  have I2 := Inv.made (C := C) I
  refine wpAny_call (make_map (f := f) I.kIn M.makes M.init (beq_iff_eq.mp M.fn) (codeAny_mono (F.run _ X.stack _ _ ⟨Value.ref (s.heap.objs.size + 1) :: us, ks.zip ws⟩ args vs _ (E σ) (hr.make C us (ks.zip ws))
    (I2.env0.make C us (ks.zip ws)) (hb _ I2.kIn) hargs hq) fun r s' hq' => ?_))
  cases r with
  | error e => exact hx pins _ _ e s' I2 hq'
  | ok fl =>
    cases fl with
    | ret u =>
      obtain ⟨v, H', I3, rv, ev, q3⟩ := I2.after hq'
      subst ev
      exact ⟨rv, ⟨V.ref (s.heap.objs.size + 1), H', I3, rfl, q3⟩⟩
    | next => exact False.elim hq'
    | brk => exact False.elim hq'
    | cont => exact False.elim hq'
theorem run_mk {sp : Sp} {E : L2.St → XK} {CX : CXT} {pins : List (Addr × Obj)} {σ : L2.St} {H : Hp} {s : Shared} {Q : VK} {us : List Value} {vs : List V} (M : Mk X.K C f) (F : FnOk X.prog X.w X.K X.mg X.base CX k f fd ps sp) (hr : Room (k + 1) X.A) (hb : Binds X.K fd ps ds) (hd : Vals dvs ds)
    (hx : PassesAt CX X σ (E σ)) (I : Inv X pins σ H s) (r : Vals vs us)
    (h : ∀ x dx, H x = none → H dx = none → dx ≠ x → sp (.ref x :: (vs ++ dvs)) (upd (upd H dx (.own x)) x (.ins C dx [])) (fun v H2 => v = .non ∧ Q (.ref x) H2) (E σ)) :
    wpAny (model X.prog X.w) X.A (call (.ref C) us) (EP X pins σ Q) X.xe s := by
  have r2 : Vals (V.ref (s.heap.objs.size + 1) :: (vs ++ dvs)) (Value.ref (s.heap.objs.size + 1) :: (us ++ ds)) := .cons rfl (r.append hd)
  refine run_fnE (ks := []) (ws := []) r2 M F hr (fun s' hi => ?_) hx I rfl fun dx h1 h2 h3 => h _ dx h1 h2 h3
  have hq := h (s.heap.objs.size + 1) s.heap.objs.size (I.hok.fresh (Nat.le_succ _)) (I.hok.fresh (Nat.le_refl _)) (Nat.ne_of_lt (Nat.lt_succ_self _))
  have hl : (Value.ref (s.heap.objs.size + 1) :: us ++ ds).length = ps.length := by
    have e := r2.length
    rw [F.len _ _ _ _ hq] at e
    exact e.symm
  exact hb s' (Value.ref (s.heap.objs.size + 1) :: us) hi hl
theorem ref_make {K : PySem.W.Frag} (ha : RefA K W t q) (hd : ∀ G, RepL K G dds dvs) : RefE K W (tMakeSD C (toSp K P) dvs (fun s => WE W s) t) (qMake C P dds q) :=
  fun DW G H p M s Q Q' hw S h k => ha DW G H p M s _ _ hw S h fun G1 H1 M1 as vs e1 S1 r1 h1 a dx ha' hdx hn => by
    obtain ⟨mn, S2⟩ := made_sim (C := C) S1 ha' hdx hn
    exact toSp_at (hw.mono e1) S2 (RepL.cons (d := .ref a) rfl (RepL.append r1 (hd _))) (h1 a mn) fun G' H' M' d v e3 S3 r3 ⟨hd', q3⟩ => ⟨isNon_v r3 hd', k G' H' M' (.ref a) (.ref a) (e1.trans e3) S3 rfl q3⟩
/-- C(e, ..) -/
theorem q_make (Mk_ : Mk X.K C f) (F : FnOk X.prog X.w X.K X.mg X.base (L2.CX X.prog X.w) k f fd ps (toSp X.K P)) (hr : Room (k + 1) X.A) (tk : Takes X W) (hg : Gl X x) (hm : X.mg x = some (.ref C)) (hb : Binds X.K fd ps ds) (hd : Vals dvs ds) (hdd : ∀ G, RepL X.K G dds dvs)
    (ha : QA X W (e :: es) t q) (hdb : (x == ("__debug__" : Str)) = false := by decide) (he : starEach (e :: es) X.env = (false, eval e X.env) :: starEach es X.env := by rfl) (hpl : (backTo pos (starEach es X.env)).any (·.1) = false := by rfl) :
    QE X W (.Call (.Name x p) (e :: es) [] pos) (tMakeSD C (toSp X.K P) dvs (fun s => WE W s) t) (qMake C P dds q) := by
  refine ⟨⟨fun pins s σ H Q I h => ?_⟩, ref_make ha.rf hdd⟩
  refine wpAny_Call_Name_kw (ld_glob I hg hm ?_ hdb)
  refine PySem.W.callWith_K (h₀ := X.base) I.ok.mod.kin Mk_.kp (thn (ha.pe.run pos pins s σ H _ I h) fun us s1 ⟨vs, H1, I1, r, q⟩ => ⟨I1.kIn, ?_⟩) he hpl
  exact run_mk (E := fun s => WE W s) Mk_ F hr hb hd (passAt tk σ) I1 r q
theorem q_make0 (Mk_ : Mk X.K C f) (F : FnOk X.prog X.w X.K X.mg X.base (L2.CX X.prog X.w) k f fd ps (toSp X.K P)) (hr : Room (k + 1) X.A) (tk : Takes X W) (hg : Gl X x) (hm : X.mg x = some (.ref C)) (hb : Binds X.K fd ps ds) (hd : Vals dvs ds) (hdd : ∀ G, RepL X.K G dds dvs)
    (hdb : (x == ("__debug__" : Str)) = false := by decide) : QE X W (.Call (.Name x p) [] [] pos) (tMakeSD C (toSp X.K P) dvs (fun s => WE W s) tNil) (qMake C P dds qNil) := by
  refine ⟨⟨fun pins s σ H Q I h => ?_⟩, ref_make (qa_nil (X := X) (W := W)).rf hdd⟩
  refine wpAny_Call_Name_kw (ld_glob I hg hm ?_ hdb)
  exact PySem.W.callWith_K0 I.kIn Mk_.kp (run_mk (us := []) (E := fun s => WE W s) Mk_ F hr hb hd (passAt tk σ) I .nil h)
theorem ref_makeKw {K : PySem.W.Frag} {j l : Nat} (ha : RefA K W t q) (hk : RefA K W tk qk) : RefE K W (tMakeKw C j l (toSp K P) idx (fun s => WE W s) t tk) (qMakeKw C j l P idx q qk) :=
  fun DW G H p M s Q Q' hw S h k => ha DW G H p M s _ _ hw S h fun G1 H1 M1 as vs e1 S1 r1 h1 => hk DW G1 H1 p M1 s _ _ (hw.mono e1) S1 h1 fun G2 H2 M2 bs zs e2 S2 r2 ⟨l1, l2, h2⟩ => by
    refine ⟨by rw [r1.length]; exact l1, by rw [r2.length]; exact l2, fun a dx ha' hdx hn => ?_⟩
    obtain ⟨mn, S3⟩ := made_sim (C := C) S2 ha' hdx hn
    have rr : RepL K G2 (.ref a :: as ++ bs) (.ref a :: vs ++ zs) := RepL.append (RepL.cons (d := .ref a) rfl (RepL.mono e2 _ _ r1)) r2
    exact toSp_at (hw.mono (e1.trans e2)) S3 (pick_rep rr idx) (h2 a mn) fun G' H' M' d v e3 S3 r3 ⟨hd', q3⟩ => ⟨isNon_v r3 hd', k G' H' M' (.ref a) (.ref a) ((e1.trans e2).trans e3) S3 rfl q3⟩
/-- C(e, .., k = v, ..) -/
theorem q_makeK (Mk_ : Mk X.K C f) (F : FnOk X.prog X.w X.K X.mg X.base (L2.CX X.prog X.w) k f fd ps (toSp X.K P)) (hr : Room (k + 1) X.A) (tkk : Takes X W) (hg : Gl X x) (hm : X.mg x = some (.ref C)) (hb : KwB X.K fd ps n ks idx)
    (ha : QA X W (e :: es) t q) (hkw : QK X W kws tk qk) (hall : (backToKw pos (keywordEach kws X.env)).all (·.1.isSome) = true := by rfl) (hks : (backToKw pos (keywordEach kws X.env)).filterMap (·.1) = ks := by rfl)
    (hdb : (x == ("__debug__" : Str)) = false := by decide) (he : starEach (e :: es) X.env = (false, eval e X.env) :: starEach es X.env := by rfl)
    (hpl : ((backTo pos (starEach (e :: es) X.env)).any (·.1) || (backToKw pos (keywordEach kws X.env)).any (·.1.isNone)) = false := by rfl) :
    QE X W (.Call (.Name x p) (e :: es) kws pos) (tMakeKw C n ks.length (toSp X.K P) idx (fun s => WE W s) t tk) (qMakeKw C n ks.length P idx q qk) := by
  refine ⟨⟨fun pins s σ H Q I h => ?_⟩, ref_makeKw ha.rf hkw.rf⟩
  refine wpAny_Call_Name_kw (ld_glob I hg hm ?_ hdb)
  refine PySem.W.callWith_KW (h₀ := X.base) I.ok.mod.kin Mk_.kp hall (thn (ha.pe.run pos pins s σ H _ I h) fun us s1 ⟨vs, H1, I1, r, q⟩ => ?_) hpl he
  refine thn (hkw.pe.run pos pins s1 σ H1 _ I1 q) fun ws s2 ⟨zs, H2, I2, rz, l1, l2, q2⟩ => ⟨I2.kIn, ?_⟩
  rw [hks]
  have r2 : Vals (V.ref (s2.heap.objs.size + 1) :: vs ++ zs) (Value.ref (s2.heap.objs.size + 1) :: us ++ ws) := Vals.append (.cons rfl r) rz
  refine run_fnE (E := fun s => WE W s) (pick_vals r2 idx) Mk_ F hr (fun s' hi => ?_) (passAt tkk σ) I2 rfl fun dx h1 h2 h3 => q2 _ dx h1 h2 h3
  exact hb s' (Value.ref (s2.heap.objs.size + 1) :: us) ws hi (by rw [List.length_cons, ← r.length]; exact l1) (rz.length.symm.trans l2)
theorem q_makeK0 (Mk_ : Mk X.K C f) (F : FnOk X.prog X.w X.K X.mg X.base (L2.CX X.prog X.w) k f fd ps (toSp X.K P)) (hr : Room (k + 1) X.A) (tkk : Takes X W) (hg : Gl X x) (hm : X.mg x = some (.ref C)) (hb : KwB X.K fd ps 1 ks idx)
    (hkw : QK X W kws tk qk) (hall : (backToKw pos (keywordEach kws X.env)).all (·.1.isSome) = true := by rfl) (hks : (backToKw pos (keywordEach kws X.env)).filterMap (·.1) = ks := by rfl)
    (hdb : (x == ("__debug__" : Str)) = false := by decide) (hpl : ((backTo pos (starEach [] X.env)).any (·.1) || (backToKw pos (keywordEach kws X.env)).any (·.1.isNone)) = false := by rfl) :
    QE X W (.Call (.Name x p) [] kws pos) (tMakeKw C 1 ks.length (toSp X.K P) idx (fun s => WE W s) tNil tk) (qMakeKw C 1 ks.length P idx qNil qk) := by
  refine ⟨⟨fun pins s σ H Q I h => ?_⟩, ref_makeKw (qa_nil (X := X) (W := W)).rf hkw.rf⟩
  refine wpAny_Call_Name_kw (ld_glob I hg hm ?_ hdb)
  refine PySem.W.callWith_KW0 (h₀ := X.base) I.ok.mod.kin Mk_.kp hall (thn (hkw.pe.run pos pins s σ H _ I h) fun ws s2 ⟨zs, H2, I2, rz, l1, l2, q2⟩ => ⟨I2.kIn, ?_⟩) hpl
  rw [hks]
  have r2 : Vals (V.ref (s2.heap.objs.size + 1) :: [] ++ zs) (Value.ref (s2.heap.objs.size + 1) :: [] ++ ws) := Vals.append (.cons rfl .nil) rz
  refine run_fnE (E := fun s => WE W s) (pick_vals r2 idx) Mk_ F hr (fun s' hi => ?_) (passAt tkk σ) I2 rfl fun dx h1 h2 h3 => q2 _ dx h1 h2 h3
  exact hb s' [Value.ref (s2.heap.objs.size + 1)] ws hi rfl (rz.length.symm.trans l2)
end
/-! ### what was just made will change no more -/
def qFrzE (q : DTE) : DTE := fun DW p M Q => q DW p M fun d M1 => match d with
  | .ref a => match M1 a with
    | some (.lst ds) => Q (.lst ds) (del M1 a)
    | some (.dK kvs) => Q (.dct (kvs.map (·.1)) (kvs.map (·.2))) (del M1 a)
    | some (.ins C fs) => Q (.ins C (fs.map (·.1)) (fs.map (·.2))) (del M1 a)
    | _ => False
  | d => Q d M1
theorem q_frzE {X : Cx} {W : WX} {e : Expr} {t : TE} {q : DTE} (h : QE X W e t q) : QE X W e t (qFrzE q) :=
  ⟨h.pe, fun DW G H p M s Q Q' hw S hq k => h.rf DW G H p M s _ _ hw S hq fun G1 H1 M1 d v e1 S1 r1 h1 => by
    split at h1
    · next a =>
      cases r1
      split at h1
      · next ds em =>
        obtain ⟨G', e2, S', r⟩ := S1.freeze em
        exact k G' H1 _ _ _ (e1.trans e2) S' r h1
      · next ds em =>
        obtain ⟨G', e2, S', r⟩ := S1.freezeD em
        exact k G' H1 _ _ _ (e1.trans e2) S' r h1
      · next C fs em =>
        obtain ⟨G', e2, S', r⟩ := S1.freezeI em
        exact k G' H1 _ _ _ (e1.trans e2) S' r h1
      · exact h1.elim
    · exact k G1 H1 M1 _ v e1 S1 r1 h1⟩
/-! ### isinstance(x, C) -/
structure IsC (K : PySem.W.Frag) (C : Addr) : Prop where
  c : C8.InsC K C
  nb : ∀ t ∈ (["NoneType", "bool", "int", "str", "tuple", "list", "dict"] : List String), PySem.W.kitOne K (.type t) (.ref C) = some false
def dIsO (C : Addr) : DCa := fun ds M Q => match ds with
  | [x, .ref c] => c = C ∧ match res M x with
    | .ins C' _ _ => C' = C ∧ Q (.bl true) M
    | y => hasTy y = true ∧ Q (.bl false) M
  | _ => False
theorem tyD_mem {y : D} (h : hasTy y = true) : tyD y ∈ (["NoneType", "bool", "int", "str", "tuple", "list", "dict"] : List String) := by
  cases y <;> first | (cases h; done) | simp [tyD]
theorem c_isO {X : Cx} {C : Addr} (T : IsC X.K C) : QCa X (.builtin "isinstance") (rIsi X.K) (dIsO C) :=
  ⟨call_isi, fun G H p M s ds vs Q Q' S r h k => by
    unfold dIsO at h
    split at h
    · next x c =>
      obtain ⟨rfl, h⟩ := h
      obtain ⟨v, u, rfl, r1, r2⟩ := repL2 r
      cases r2
      split at h
      · next C' ns es e =>
        obtain ⟨rfl, h⟩ := h
        obtain ⟨a, dx, fv, rfl, g1, g2, g3⟩ := as_ins S r1 e
        exact ⟨.ref a, .ref C', .ref C', .ref C', true, rfl, .own _, .base (.ins g1 T.c.cl T.c.ha T.c.hn T.c.htk T.c.hm), T.c.me, k G H M (.bl true) _ (Same.refl _) S rfl h⟩
      · next y hy =>
        obtain ⟨ht, h⟩ := h
        exact ⟨v, .ref c, _, .ref c, false, rfl, .own _, tyX_of S r1 ht, T.nb _ (tyD_mem ht), k G H M (.bl false) _ (Same.refl _) S rfl h⟩
    · exact h.elim⟩
/-! ### what the top has written -/
/-- an own class of the module -/
structure ClsO (K : PySem.W.Frag) (mg : Str → Option Value) (x : Str) (fs : List Str) where
  C : Addr
  g : mg x = some (.ref C)
  cl : Cls K C
  no : ∀ f ∈ fs, NoAttr K C f
/-- a method of it -/
structure MthAt (K : PySem.W.Frag) (C : Addr) (x qual : Str) (st : Stmt) (ps : List Str) where
  f : Addr
  fd : FuncData
  m : Meth K C x f
  F : Fun K x qual st f fd
  b : Binds K fd ps []
structure MthAtD (K : PySem.W.Frag) (C : Addr) (x qual : Str) (st : Stmt) (ps : List Str) (dvs : List V) where
  f : Addr
  fd : FuncData
  m : Meth K C x f
  F : FunD K x qual (defArgs st) (defBody st) (defScope st) dvs [] f fd
end DL

/-! DLB: enumerate of tuples, from a start; built-ins with keywords; index. -/
namespace DL
open PySem L2
/-! ### enumerate, counted from k -/
section
variable {prog : Program} {w : World} {A : Around} {E : Value → Shared → Prop} {s : Shared}
theorem enum_endL {e it l : Addr} {i : Nat} {c : Int} {items : Array Value} {old : Value} {Q : Option Value → Shared → Prop} (hh : A.handled = none)
    (he : IsEnum s.heap e it c old) (hit : s.heap.IsListIter it l i) (hl : s.heap.IsList l items) (hx : items[i]? = none)
    (hQ : ∀ h', Heap.ExtBut it s.heap h' → Q none { s with heap := h' }) : wpAny (model prog w) A (pyNext (.ref e)) Q E s := by
  have hT : s.TypeIs (.ref e) "enumerate" := ⟨_, he, rfl⟩
  unfold pyNext
  refine wpAny_bind (wpAny_attempt (wpAny_callSpecial?_slot (name := Str.ofString "__next__") hT F.slot_enumerate_next
    (wpAny_call_entry F.slot_enumerate_next hT F.entry_enumerate_next ?_ (F.args_enumerate_next_1 _))))
  show wpAny _ _ (field (.ref e) 2 >>= _) _ _ _
  refine wpAny_bind (wpAny_field he rfl (x := .ref it) rfl ?_)
  refine wpAny_bind (wpAny_nextOf_list_end hh hit hl hx fun h' x he' hx' => ?_)
  obtain ⟨o, ho, hc⟩ := hx'
  refine wpAny_bind (wpAny_isInstance (T := "StopIteration") (b := true) ⟨o, ho, hc⟩ isSubtype_stop ?_)
  exact wpAny_pure (hQ _ he')
theorem enum_endT {e it l : Addr} {i : Nat} {c : Int} {items : Array Value} {old : Value} {Q : Option Value → Shared → Prop} (hh : A.handled = none)
    (he : IsEnum s.heap e it c old) (hit : s.heap.IsTupleIter it l i) (hl : s.heap.IsTuple l items) (hx : items[i]? = none)
    (hQ : ∀ h', Heap.ExtBut it s.heap h' → Q none { s with heap := h' }) : wpAny (model prog w) A (pyNext (.ref e)) Q E s := by
  have hT : s.TypeIs (.ref e) "enumerate" := ⟨_, he, rfl⟩
  unfold pyNext
  refine wpAny_bind (wpAny_attempt (wpAny_callSpecial?_slot (name := Str.ofString "__next__") hT F.slot_enumerate_next
    (wpAny_call_entry F.slot_enumerate_next hT F.entry_enumerate_next ?_ (F.args_enumerate_next_1 _))))
  show wpAny _ _ (field (.ref e) 2 >>= _) _ _ _
  refine wpAny_bind (wpAny_field he rfl (x := .ref it) rfl ?_)
  refine wpAny_bind (wpAny_nextOf_tuple_end hh hit hl hx fun h' x he' hx' => ?_)
  obtain ⟨o, ho, hc⟩ := hx'
  refine wpAny_bind (wpAny_isInstance (T := "StopIteration") (b := true) ⟨o, ho, hc⟩ isSubtype_stop ?_)
  exact wpAny_pure (hQ _ he')
end
/-- the list at a as it stands at each turn, each item in a new pair with its count -/
def IeL (K : PySem.W.Frag) (k : Int) (a : Addr) : It :=
  ⟨fun i H => ∃ (xs : List V) (x : V), SqL K H a xs ∧ xs[i]? = some x, fun i H v H' => ∃ T x, v = .ref T ∧ H T = none ∧ H' = upd H T (.tup [.int (k + (i : Nat)), x]) ∧ ∀ xs, SqL K H a xs → xs[i]? = some x, fun i H => ∃ xs : List V, SqL K H a xs ∧ xs.length ≤ i⟩
theorem turn_enumL {P : Program} {w : World} {K : PySem.W.Frag} {elts : List Expr} {kk : Nat} {tpos : Pos} (k : Int) (a e it : Addr) (hai : a ≠ it) (hae : a ≠ e) :
    Turn P w K (.Tuple elts kk tpos) (IeL K k a) [e, it] e (fun i h => (∃ old, IsEnum h e it (k + (i : Nat)) old) ∧ h.IsListIter it a i ∧ e ≠ it) where
  mem := by simp
  obj := fun i h st b hb => by
    obtain ⟨⟨old, he⟩, ⟨o, ho, hc, hd⟩, _⟩ := st
    have e' : b = e ∨ b = it := by simpa using hb
    rcases e' with z | z
    · rw [z]; exact ⟨_, he, fun v q => nomatch q⟩
    · rw [z]; exact ⟨o, ho, fun v q => by rw [hd] at q; cases q⟩
  keep := fun i h h' st k => let ⟨⟨old, he⟩, hi, hne⟩ := st; ⟨⟨old, k e (by simp) _ he⟩, hi.at fun o q => k it (by simp) o q, hne⟩
  item := by
    intro X hP hw hK hc i pins s σ H E I hf st hg
    subst hP hw hK
    obtain ⟨⟨old, he⟩, hit, hne⟩ := st
    obtain ⟨xs, x, hq, hx⟩ := hg
    obtain ⟨its, rv, p, hz⟩ := I.list hq
    obtain ⟨u, hu, ru⟩ := rv.get hx
    have hel : e < s.heap.objs.size := Heap.lt_size he
    have hil : it < s.heap.objs.size := by obtain ⟨_, q, _⟩ := hit; exact Heap.lt_size q
    have hlt : i < its.toArray.size := by
      have := (List.getElem?_eq_some_iff.mp hu).1
      simpa using this
    have D := Draws.list (prog := X.prog) (w := X.w) (A := X.A.in1) (by exact I.ok.hd hc) it a hai its.toArray
    refine wpAny_pyNext_enum_itemC D he ⟨hit, p.isList⟩ hlt hne (by simp [hne, Ne.symm hae]) fun y h' tk hy ho hit' hT hsz hk => ?_
    have ey : y = u := by
      have h2 : its.toArray[i]? = some u := by simpa using hu
      rw [h2] at hy; exact (Option.some.inj hy).symm
    subst ey
    obtain ⟨hit', hls'⟩ := hit'
    refine ⟨_, rfl, wpAny_letOwnedTupleGo_enum (s := { s with heap := h', toks := tk + 1 }) ho fun h'' he' sb => ?_⟩
    have hT2 : h''.get? s.heap.objs.size = some { cls := .type "tuple", data := .seq #[.int (k + (i : Nat)) tk, y] } := (sb.2 _ (Nat.ne_of_gt hel)).trans hT
    have new : ObjOk X.prog X.w (upd H s.heap.objs.size (.tup [.int (k + (i : Nat)), x])) h'' s.heap.objs.size (.tup [.int (k + (i : Nat)), x]) :=
      ⟨by show 2 ≤ sizeLine; decide, [.int (k + (i : Nat)) tk, y], .cons ⟨_, rfl⟩ (.cons ru .nil), ⟨_, hT2, rfl, _, rfl⟩⟩
    have I1 : Inv X pins σ (upd H s.heap.objs.size (.tup [.int (k + (i : Nat)), x])) { s with heap := h'', toks := tk + 1 } :=
      I.turnedNew (ch := [e, it]) (fun b ob hb q => (sb.2 b (fun z => hb (by simp [z]))).trans (hk b ob (fun z => hb (by simp [z])) (fun z => hb (by simp [z])) q)) hf (Nat.le_refl _) new
    refine ⟨.ref s.heap.objs.size, _, I1, rfl, ⟨_, x, rfl, I.hok.fresh (Nat.le_refl _), rfl, fun ys hy => by rw [I.list_inj hy hq]; exact hx⟩, ⟨⟨y, ?_⟩, hit'.at fun o q => (sb.2 it (Ne.symm hne)).trans q, hne⟩, fun b hb => ?_⟩
    · have e1 : k + ((i + 1 : Nat) : Int) = k + (i : Nat) + 1 := by omega
      rw [e1]; exact he'
    · have hb' : b < s.heap.objs.size := by
        have e' : b = e ∨ b = it := by simpa using hb
        rcases e' with z | z
        · rw [z]; exact hel
        · rw [z]; exact hil
      rw [upd_ne (Nat.ne_of_lt hb')]
      exact (hf b hb).1
  done := by
    intro X hP hw hK hc i pins s σ H E I hf st hg
    subst hP hw hK
    obtain ⟨⟨old, he⟩, hit, hne⟩ := st
    obtain ⟨xs, hq, hx⟩ := hg
    obtain ⟨its, rv, p, hz⟩ := I.list hq
    obtain ⟨f0, f1, f2, f3, f4, f5⟩ := hf it (by simp)
    have hl := rv.length
    have D := Draws.list (prog := X.prog) (w := X.w) (A := X.A.in1) (by exact I.ok.hd hc) it a hai its.toArray
    exact enum_endL (I.ok.hd hc) he hit (p.isList) (by simp; omega) fun h' eb => ⟨rfl, I.turned (t' := s.toks) (fun b o hb q => eb b o hb q) f0 f1 f3 f4 f5⟩
  self := fun A i s Q E st h => let ⟨⟨_, he⟩, _⟩ := st; wpAny_pyIter_enum he h
/-- the tuple at a as it stands at each turn, each item in a new pair with its count -/
def IeT (K : PySem.W.Frag) (k : Int) (a : Addr) : It :=
  ⟨fun i H => ∃ (xs : List V) (x : V), SqT K H a xs ∧ xs[i]? = some x, fun i H v H' => ∃ T x, v = .ref T ∧ H T = none ∧ H' = upd H T (.tup [.int (k + (i : Nat)), x]) ∧ ∀ xs, SqT K H a xs → xs[i]? = some x, fun i H => ∃ xs : List V, SqT K H a xs ∧ xs.length ≤ i⟩
theorem turn_enumT {P : Program} {w : World} {K : PySem.W.Frag} {elts : List Expr} {kk : Nat} {tpos : Pos} (k : Int) (a e it : Addr) (hai : a ≠ it) (hae : a ≠ e) :
    Turn P w K (.Tuple elts kk tpos) (IeT K k a) [e, it] e (fun i h => (∃ old, IsEnum h e it (k + (i : Nat)) old) ∧ h.IsTupleIter it a i ∧ e ≠ it) where
  mem := by simp
  obj := fun i h st b hb => by
    obtain ⟨⟨old, he⟩, ⟨o, ho, hc, hd⟩, _⟩ := st
    have e' : b = e ∨ b = it := by simpa using hb
    rcases e' with z | z
    · rw [z]; exact ⟨_, he, fun v q => nomatch q⟩
    · rw [z]; exact ⟨o, ho, fun v q => by rw [hd] at q; cases q⟩
  keep := fun i h h' st k => let ⟨⟨old, he⟩, hi, hne⟩ := st; ⟨⟨old, k e (by simp) _ he⟩, hi.at fun o q => k it (by simp) o q, hne⟩
  item := by
    intro X hP hw hK hc i pins s σ H E I hf st hg
    subst hP hw hK
    obtain ⟨⟨old, he⟩, hit, hne⟩ := st
    obtain ⟨xs, x, hq, hx⟩ := hg
    obtain ⟨its, rv, p, hz⟩ := I.tuple hq
    obtain ⟨u, hu, ru⟩ := rv.get hx
    have hel : e < s.heap.objs.size := Heap.lt_size he
    have hil : it < s.heap.objs.size := by obtain ⟨_, q, _⟩ := hit; exact Heap.lt_size q
    have hlt : i < its.toArray.size := by
      have := (List.getElem?_eq_some_iff.mp hu).1
      simpa using this
    have D := Draws.tuple (prog := X.prog) (w := X.w) (A := X.A.in1) (by exact I.ok.hd hc) it a hai its.toArray
    refine wpAny_pyNext_enum_itemC D he ⟨hit, p⟩ hlt hne (by simp [hne, Ne.symm hae]) fun y h' tk hy ho hit' hT hsz hk => ?_
    have ey : y = u := by
      have h2 : its.toArray[i]? = some u := by simpa using hu
      rw [h2] at hy; exact (Option.some.inj hy).symm
    subst ey
    obtain ⟨hit', hls'⟩ := hit'
    refine ⟨_, rfl, wpAny_letOwnedTupleGo_enum (s := { s with heap := h', toks := tk + 1 }) ho fun h'' he' sb => ?_⟩
    have hT2 : h''.get? s.heap.objs.size = some { cls := .type "tuple", data := .seq #[.int (k + (i : Nat)) tk, y] } := (sb.2 _ (Nat.ne_of_gt hel)).trans hT
    have new : ObjOk X.prog X.w (upd H s.heap.objs.size (.tup [.int (k + (i : Nat)), x])) h'' s.heap.objs.size (.tup [.int (k + (i : Nat)), x]) :=
      ⟨by show 2 ≤ sizeLine; decide, [.int (k + (i : Nat)) tk, y], .cons ⟨_, rfl⟩ (.cons ru .nil), ⟨_, hT2, rfl, _, rfl⟩⟩
    have I1 : Inv X pins σ (upd H s.heap.objs.size (.tup [.int (k + (i : Nat)), x])) { s with heap := h'', toks := tk + 1 } :=
      I.turnedNew (ch := [e, it]) (fun b ob hb q => (sb.2 b (fun z => hb (by simp [z]))).trans (hk b ob (fun z => hb (by simp [z])) (fun z => hb (by simp [z])) q)) hf (Nat.le_refl _) new
    refine ⟨.ref s.heap.objs.size, _, I1, rfl, ⟨_, x, rfl, I.hok.fresh (Nat.le_refl _), rfl, fun ys hy => by rw [I.tuple_inj hy hq]; exact hx⟩, ⟨⟨y, ?_⟩, hit'.at fun o q => (sb.2 it (Ne.symm hne)).trans q, hne⟩, fun b hb => ?_⟩
    · have e1 : k + ((i + 1 : Nat) : Int) = k + (i : Nat) + 1 := by omega
      rw [e1]; exact he'
    · have hb' : b < s.heap.objs.size := by
        have e' : b = e ∨ b = it := by simpa using hb
        rcases e' with z | z
        · rw [z]; exact hel
        · rw [z]; exact hil
      rw [upd_ne (Nat.ne_of_lt hb')]
      exact (hf b hb).1
  done := by
    intro X hP hw hK hc i pins s σ H E I hf st hg
    subst hP hw hK
    obtain ⟨⟨old, he⟩, hit, hne⟩ := st
    obtain ⟨xs, hq, hx⟩ := hg
    obtain ⟨its, rv, p, hz⟩ := I.tuple hq
    obtain ⟨f0, f1, f2, f3, f4, f5⟩ := hf it (by simp)
    have hl := rv.length
    have D := Draws.tuple (prog := X.prog) (w := X.w) (A := X.A.in1) (by exact I.ok.hd hc) it a hai its.toArray
    exact enum_endT (I.ok.hd hc) he hit (p) (by simp; omega) fun h' eb => ⟨rfl, I.turned (t' := s.toks) (fun b o hb q => eb b o hb q) f0 f1 f3 f4 f5⟩
  self := fun A i s Q E st h => let ⟨⟨_, he⟩, _⟩ := st; wpAny_pyIter_enum he h
end DL
namespace PySem
set_option maxHeartbeats 1000000 in
theorem meets_enumerate_new0 {v : Value} {o : Obj} {H : Heap → Prop} (B : Begins v o H) :
    Meets (Builtin.«enumerate.__new__» ⟨[.type "enumerate", v], []⟩) (fun _ R s => H s.heap ∧
      R (.ok (.ret (.ref (s.heap.push o).objs.size))) { s with heap := (s.heap.push o).push { cls := .type "enumerate", data := .fields #[.none, .bool false, .ref s.heap.objs.size, rawInt 0, .none, .none] } }) :=
  .of_wp fun prog w A R s h => by
    obtain ⟨hp, g, d, tk, os⟩ := s; obtain ⟨h1, h⟩ := h
    have hsub := sub_enumerate
    have q1 : ∀ {A' : Around} {E : Value → Shared → Prop} {Q : Value → Shared → Prop}, Q (.ref hp.objs.size) ⟨hp.push o, g, d, tk, os⟩ → wpAny (model prog w) A' (pyIter v) Q E ⟨hp, g, d, tk, os⟩ :=
      fun q => B.iter prog w _ _ ⟨hp, g, d, tk, os⟩ _ h1 q
    wp_walk using q1
    refine wpAny_stack_any fun st => wpAny_pure ?_
    split
    · rename_i c _ _ _ _ _
      cases (c == Value.type "enumerate")
      · wp_walk using q1
        exact ⟨_, rfl, h⟩
      · wp_walk using q1
        exact ⟨_, rfl, h⟩
    · wp_walk using q1
      exact ⟨_, rfl, h⟩
theorem enum_begins0 {prog : Program} {w : World} {A : Around} {E : Value → Shared → Prop} {s : Shared} {v : Value} {o : Obj} {H : Heap → Prop} {Q : Value → Shared → Prop} (B : Begins v o H) (h1 : H s.heap)
    (h : ∀ h', IsEnum h' (s.heap.objs.size + 1) s.heap.objs.size 0 .none → h'.get? s.heap.objs.size = some o → h'.objs.size = s.heap.objs.size + 2 →
      (∀ b o, s.heap.get? b = some o → h'.get? b = some o) → Q (.ref (s.heap.objs.size + 1)) { s with heap := h' }) :
    wpAny (model prog w) A (call (.type "enumerate") [v]) Q E s := by
  refine callType_new F.called_enumerate (by decide) (F.typeCall_enumerate_1 _) (F.newCall_enumerate_1 _) (fun obj => F.args_object_init_2 obj _) F.entry_enumerate_new
    (meets_enumerate_new0 B) ⟨h1, ?_⟩
  have hz : (s.heap.push o).objs.size = s.heap.objs.size + 1 := Heap.size_push ..
  show _ ∧ _
  rw [hz]
  have he : IsEnum ((s.heap.push o).push { cls := .type "enumerate", data := .fields #[.none, .bool false, .ref s.heap.objs.size, rawInt 0, .none, .none] }) (s.heap.objs.size + 1) s.heap.objs.size 0 .none := by
    have := Heap.get?_push_size (s.heap.push o) (o := { cls := .type "enumerate", data := .fields #[.none, .bool false, .ref s.heap.objs.size, rawInt 0, .none, .none] }) rfl
    rw [hz] at this; exact this
  refine ⟨⟨_, he, rfl⟩, h _ he (Heap.get?_push_of_some _ (Heap.get?_push_size _ B.free)) (by rw [Heap.size_push, hz]) fun b o x => Heap.get?_push_of_some _ (Heap.get?_push_of_some _ x)⟩
end PySem
namespace DL
open PySem L2
/-- enumerate(x), enumerate(x, start=k): what stands at the start is given as a value -/
theorem enum_begin {X : Cx} {pins : List (Addr × Obj)} {σ : L2.St} {H : Hp} {s : Shared} {elts : List Expr} {kk : Nat} {tpos : Pos} {R : It → Hp → Prop} {a : Addr} {xs : List V} {k : Int} (I : Inv X pins σ H s) (hk0 : -(2 ^ 63) ≤ k) (hk1 : k < 2 ^ 63)
    (h : (SqL X.K H a xs ∧ R (IeL X.K k a) H) ∨ (SqT X.K H a xs ∧ R (IeT X.K k a) H)) :
    ∃ (o : Obj) (HH : Heap → Prop), Begins (.ref a) o HH ∧ HH s.heap ∧ ∀ h', IsEnum h' (s.heap.objs.size + 1) s.heap.objs.size k .none → h'.get? s.heap.objs.size = some o → h'.objs.size = s.heap.objs.size + 2 →
      (∀ b o, s.heap.get? b = some o → h'.get? b = some o) → PIE X pins σ (.Tuple elts kk tpos) R (.ref (s.heap.objs.size + 1)) { s with heap := h' } := by
  have fp : ∀ b ∈ [s.heap.objs.size + 1, s.heap.objs.size], FpOk X pins H b := fun b hb => by
    have e' : b = s.heap.objs.size + 1 ∨ b = s.heap.objs.size := by simpa using hb
    have hle : s.heap.objs.size ≤ b := by
      rcases e' with z | z
      · rw [z]; exact Nat.le_add_right _ _
      · rw [z]; exact Nat.le_refl _
    exact I.fpOk hle (I.hok.fresh hle)
  rcases h with ⟨hq, q⟩ | ⟨hq, q⟩
  · obtain ⟨its, rv, p, hz⟩ := I.list hq
    refine ⟨_, _, begins_list a its.toArray, p.isList, fun h' he ho hsz hk => ?_⟩
    have hal : a < s.heap.objs.size := p.lt
    have I2 : Inv X pins σ H { s with heap := h' } := I.kept (t' := s.toks) hk
    exact ⟨s.heap.objs.size + 1, [s.heap.objs.size + 1, s.heap.objs.size], _, _, H, rfl, I2, turn_enumL k a (s.heap.objs.size + 1) s.heap.objs.size (Nat.ne_of_lt hal) (Nat.ne_of_lt (Nat.lt_succ_of_lt hal)),
      ⟨⟨.none, by simpa using he⟩, ⟨_, ho, rfl, rfl⟩, Nat.succ_ne_self _⟩, fp, q⟩
  · obtain ⟨its, rv, p, hz⟩ := I.tuple hq
    refine ⟨_, _, begins_tuple a its.toArray, p, fun h' he ho hsz hk => ?_⟩
    have hal : a < s.heap.objs.size := by obtain ⟨o1, ho1, _⟩ := id p; exact Heap.lt_size ho1
    have I2 : Inv X pins σ H { s with heap := h' } := I.kept (t' := s.toks) hk
    exact ⟨s.heap.objs.size + 1, [s.heap.objs.size + 1, s.heap.objs.size], _, _, H, rfl, I2, turn_enumT k a (s.heap.objs.size + 1) s.heap.objs.size (Nat.ne_of_lt hal) (Nat.ne_of_lt (Nat.lt_succ_of_lt hal)),
      ⟨⟨.none, by simpa using he⟩, ⟨_, ho, rfl, rfl⟩, Nat.succ_ne_self _⟩, fp, q⟩
section
variable {M : Model} {A : Around} {E : Value → Shared → Prop} {s : Shared} {env : Env}
theorem callWith_type_kwB {pos : Pos} {id : String} {first : List Value} {args : List (Bool × Sem Value)} {keywords : List (Option Str × Sem Value)} {Q : Value → Shared → Prop}
    (hplain : args.any (·.1) = false) (hkw : keywords.any (·.1.isNone) = false)
    (h : wpAny M A (evalArgs (.type id) true args keywords) (fun a s₁ => wpAny M A (call (.type id) (first ++ a.pos) a.kw) Q E s₁) E s) :
    wpAny M A (callWith pos (.type id) first args keywords) Q E s := by
  unfold callWith
  refine wpAny_bind (wpAny_holding (wpAny_mono h (fun a s₁ h₁ => wpAny_bind (wpAny_standAt ?_)) fun _ _ x => x))
  simp only [hplain, hkw, Bool.or_false]
  refine wpAny_bind (wpAny_pure ?_)
  exact wpAny_bind (wpAny_mono h₁ (fun r s₂ hr => wpAny_bind (wpAny_holding (wpAny_point (wpAny_pure hr)))) fun _ _ x => x)
theorem callWith_type_kw {pos : Pos} {id : String} {e : Expr} {rest : List Expr} {kws : List Keyword} {Q : Value → Shared → Prop}
    (h : wpAny M A (spliced (backTo pos (starEach (e :: rest) env))) (fun vs s₁ => wpAny M A (evalAll ((backToKw pos (keywordEach kws env)).map (·.2)))
      (fun kvs s₂ => wpAny M A (call (.type id) vs (((backToKw pos (keywordEach kws env)).filterMap (·.1)).zip kvs)) Q E s₂) E s₁) E s)
    (he : starEach (e :: rest) env = (false, eval e env) :: starEach rest env := by rfl)
    (hplain : (backTo pos (starEach (e :: rest) env)).any (·.1) = false := by rfl)
    (hall : (backToKw pos (keywordEach kws env)).all (·.1.isSome) = true := by rfl)
    (hkw : (backToKw pos (keywordEach kws env)).any (·.1.isNone) = false := by rfl) :
    wpAny M A (callWith pos (.type id) [] (backTo pos (starEach (e :: rest) env)) (backToKw pos (keywordEach kws env))) Q E s := by
  refine callWith_type_kwB hplain hkw ?_
  exact PyProof.Rows.evalArgs_kw2 hall h he
end
/-- the things of a list or a tuple, frozen or not, and what keeps them -/
def seqAt (M : Mst) : D → Option (Bool × List D × (Mst → Prop))
  | .lst ds => some (false, ds, always)
  | .tup ds => some (true, ds, always)
  | .ktp ds => some (true, ds, always)
  | .xtp ds => some (true, ds, always)
  | .ref a => match M a with
    | some (.lst ds) => some (false, ds, holds a (.lst ds))
    | _ => none
  | _ => none
def iEnumC (K : PySem.W.Frag) (ta tk : TA) : TI := fun σ H R => ta σ H fun vs H1 => tk σ H1 fun zs H2 => ∃ a xs k, vs = [.ref a] ∧ zs = [.int k] ∧ -(2 ^ 63) ≤ k ∧ k < 2 ^ 63 ∧ ((SqL K H2 a xs ∧ R (IeL K k a) H2) ∨ (SqT K H2 a xs ∧ R (IeT K k a) H2))
def iEnum0 (K : PySem.W.Frag) (ta : TA) : TI := fun σ H R => ta σ H fun vs H1 => ∃ a xs, vs = [.ref a] ∧ ((SqL K H1 a xs ∧ R (IeL K 0 a) H1) ∨ (SqT K H1 a xs ∧ R (IeT K 0 a) H1))
def enumDI : Int → List D → List D
  | _, [] => []
  | n, d :: ds => .tup [.int n, d] :: enumDI (n + 1) ds
@[simp] theorem enumDI_length : ∀ (n : Int) (ds : List D), (enumDI n ds).length = ds.length
  | _, [] => rfl
  | n, d :: ds => by simp [enumDI, enumDI_length (n + 1) ds]
theorem enumDI_get : ∀ (n : Int) (ds : List D) (i : Nat), (enumDI n ds)[i]? = (ds[i]?).map fun d => .tup [.int (n + (i : Nat)), d]
  | _, [], i => by simp [enumDI]
  | n, d :: ds, 0 => by simp [enumDI]
  | n, d :: ds, i + 1 => by
    simp only [enumDI, List.getElem?_cons_succ]
    rw [enumDI_get (n + 1) ds i]
    have e : n + 1 + ((i : Nat) : Int) = n + ((i + 1 : Nat) : Int) := by omega
    rw [e]
theorem enumDI_nat : ∀ (n : Nat) (ds : List D), enumDI (n : Int) ds = enumD n ds
  | _, [] => rfl
  | n, d :: ds => by
    have e : ((n : Nat) : Int) + 1 = ((n + 1 : Nat) : Int) := by omega
    simp only [enumDI, enumD, e, enumDI_nat (n + 1) ds]
theorem feed_enumL {K : PySem.W.Frag} {G : Hp} {a : Addr} {k : Int} {ds : List D} {Sty : Mst → Prop} (h : ∀ G' H p M s, Same G G' → Sim K G' H p M s → Sty M → ∃ us, SqL K H a us ∧ RepL K G' ds us) : Feed K G (IeL K k a) (enumDI k ds) Sty where
  go := fun G' H p M s i e S y hi => by
    obtain ⟨us, h1, h2⟩ := h G' H p M s e S y
    obtain ⟨v, hv⟩ := get_lt (xs := us) (i := i) (by rw [h2.length]; simpa using hi)
    exact ⟨us, v, h1, hv⟩
  yld := fun G' H p M s i x H' e S y hy d hd => by
    obtain ⟨T, v, rfl, hT, rfl, hall⟩ := hy
    obtain ⟨us, h1, h2⟩ := h G' H p M s e S y
    rw [enumDI_get] at hd
    obtain ⟨d', hd', rfl⟩ := Option.map_eq_some_iff.mp hd
    obtain ⟨v', hv', rv⟩ := h2.get hd'
    have := (hall us h1).symm.trans hv'
    cases this
    obtain ⟨e2, S2⟩ := S.made (o := .tup [.int (k + (i : Nat)), v]) hT
    exact ⟨_, e2, S2, T, _, rfl, upd_same, RepL.cons (d := .int _) rfl (RepL.cons (Rep.mono e2 _ _ rv) rfl), sz1000 (by simp)⟩
  stop := fun G' H p M s e S y => by
    obtain ⟨us, h1, h2⟩ := h G' H p M s e S y
    exact ⟨us, h1, by rw [h2.length]; simp⟩
theorem feed_enumT {K : PySem.W.Frag} {G : Hp} {a : Addr} {k : Int} {ds : List D} {Sty : Mst → Prop} (h : ∀ G' H p M s, Same G G' → Sim K G' H p M s → Sty M → ∃ us, SqT K H a us ∧ RepL K G' ds us) : Feed K G (IeT K k a) (enumDI k ds) Sty where
  go := fun G' H p M s i e S y hi => by
    obtain ⟨us, h1, h2⟩ := h G' H p M s e S y
    obtain ⟨v, hv⟩ := get_lt (xs := us) (i := i) (by rw [h2.length]; simpa using hi)
    exact ⟨us, v, h1, hv⟩
  yld := fun G' H p M s i x H' e S y hy d hd => by
    obtain ⟨T, v, rfl, hT, rfl, hall⟩ := hy
    obtain ⟨us, h1, h2⟩ := h G' H p M s e S y
    rw [enumDI_get] at hd
    obtain ⟨d', hd', rfl⟩ := Option.map_eq_some_iff.mp hd
    obtain ⟨v', hv', rv⟩ := h2.get hd'
    have := (hall us h1).symm.trans hv'
    cases this
    obtain ⟨e2, S2⟩ := S.made (o := .tup [.int (k + (i : Nat)), v]) hT
    exact ⟨_, e2, S2, T, _, rfl, upd_same, RepL.cons (d := .int _) rfl (RepL.cons (Rep.mono e2 _ _ rv) rfl), sz1000 (by simp)⟩
  stop := fun G' H p M s e S y => by
    obtain ⟨us, h1, h2⟩ := h G' H p M s e S y
    exact ⟨us, h1, by rw [h2.length]; simp⟩
theorem seqAt_feed {K : PySem.W.Frag} {G H : Hp} {p : Rho} {M : Mst} {s : L2.St} {d : D} {v : V} {k : Int} {t : Bool} {ds : List D} {Sty : Mst → Prop} (S : Sim K G H p M s) (r : Rep K G d v) (h : seqAt M d = some (t, ds, Sty)) :
    Sty M ∧ ∃ a xs, v = .ref a ∧ ds.length ≤ sizeLine ∧ ((SqL K H a xs ∧ Feed K G (IeL K k a) (enumDI k ds) Sty) ∨ (SqT K H a xs ∧ Feed K G (IeT K k a) (enumDI k ds) Sty)) := by
  cases d with
  | lst es =>
    cases h
    obtain ⟨a, vs, rfl, h2, h3, h4⟩ := r
    refine ⟨trivial, a, vs, rfl, by rw [← h3.length]; exact h4, .inl ⟨.inl (.inl (S.same _ _ h2)), feed_enumL fun G' H' p' M' s' e S' _ => ⟨vs, .inl (.inl (S'.same _ _ (e _ _ h2))), RepL.mono e _ _ h3⟩⟩⟩
  | tup es =>
    cases h
    obtain ⟨a, vs, rfl, h2, h3, h4⟩ := r
    refine ⟨trivial, a, vs, rfl, by rw [← h3.length]; exact h4, .inr ⟨.inl (.inl (S.same _ _ h2)), feed_enumT fun G' H' p' M' s' e S' _ => ⟨vs, .inl (.inl (S'.same _ _ (e _ _ h2))), RepL.mono e _ _ h3⟩⟩⟩
  | ktp es =>
    cases h
    obtain ⟨a, vs, rfl, h2, h3, h4⟩ := r
    refine ⟨trivial, a, vs, rfl, by rw [← h3.length]; exact h4, .inr ⟨same_t S.same h2, feed_enumT fun G' H' p' M' s' e S' _ => ⟨vs, same_t S'.same (same_t e h2), RepL.mono e _ _ h3⟩⟩⟩
  | xtp es =>
    cases h
    obtain ⟨a, o, vs, rfl, h2, h0, h3, h4⟩ := r
    refine ⟨trivial, a, vs, rfl, by rw [← h3.length]; exact h4, .inr ⟨.inl (.inr ⟨o, S.same _ _ h2⟩), feed_enumT fun G' H' p' M' s' e S' _ => ⟨vs, .inl (.inr ⟨o, S'.same _ _ (e _ _ h2)⟩), RepL.mono e _ _ h3⟩⟩⟩
  | ref a =>
    simp only [seqAt] at h
    split at h
    · next es em =>
      cases h
      cases r
      obtain ⟨gn, vs, h1, h2, h3⟩ := S.mem _ _ em
      refine ⟨em, a, vs, rfl, by rw [← h2.length]; exact h3, .inl ⟨.inl (.inl h1), feed_enumL fun G' H' p' M' s' e S' hm => ?_⟩⟩
      obtain ⟨gn', us, g1, g2, g3⟩ := S'.mem _ _ hm
      exact ⟨us, .inl (.inl g1), g2⟩
    · cases h
  | _ => cases h
def qiEnum0 (qa : DTA) : DTI := fun DW p M R => qa DW p M fun ds M1 => match ds with
  | [x] => match seqAt M1 x with
    | some (_, es, Sty) => R (enumDI 0 es) Sty M1
    | none => False
  | _ => False
def qiEnumC (qa qk : DTA) : DTI := fun DW p M R => qa DW p M fun ds M1 => qk DW p M1 fun zs M2 => match ds, zs with
  | [x], [.int k] => -(2 ^ 62) ≤ k ∧ k < 2 ^ 62 ∧ match seqAt M2 x with
    | some (_, es, Sty) => R (enumDI k es) Sty M2
    | none => False
  | _, _ => False
section
variable {X : Cx} {W : WX} {e : Expr} {ta tk : TA} {qa qk : DTA} {p pos tpos : Pos} {elts : List Expr} {kws : List Keyword} {kk : Nat}
theorem qi_enum0 (hg : Gl X "enumerate") (hm : X.mg "enumerate" = none) (ha : QA X W [e] ta qa) (hs : starEach [e] X.env = [(false, eval e X.env)] := by rfl) :
    QI X W (.Tuple elts kk tpos) (.Call (.Name "enumerate" p) [e] [] pos) (iEnum0 X.K ta) (qiEnum0 qa) := by
  refine ⟨⟨fun pins s σ H R I h => ?_⟩, fun DW G H p M s R R' hw S h k => ha.rf DW G H p M s _ _ hw S h fun G1 H1 M1 ds vs e1 S1 r1 h1 => ?_⟩
  · refine PyProof.Rows.Call_ (ld_blt I hg hm PyProof.Rows.boot_enumerate (PyProof.Rows.callWith_type1 (thn (ha.pe.run pos pins s σ H _ I h) fun us s1 ⟨vs, H1, I1, r1, q1⟩ => ?_) hs rfl))
    obtain ⟨a, xs, ex, q⟩ := q1
    subst ex
    cases r1 with
    | cons r rr =>
      cases rr
      cases r
      obtain ⟨o, HH, B, b1, fin⟩ := enum_begin (elts := elts) (kk := kk) (tpos := tpos) I1 (by decide) (by decide) q
      exact enum_begins0 B b1 fun h' he ho hsz hk => wpAny_pyIter_enum he (fin h' he ho hsz hk)
  · split at h1
    · next x =>
      obtain ⟨v, rfl, r2⟩ := repL1 r1
      split at h1
      · next t es Sty eo =>
        obtain ⟨sm, a, xs, rfl, hl, hc⟩ := seqAt_feed (k := 0) S1 r2 eo
        refine ⟨a, xs, rfl, ?_⟩
        rcases hc with ⟨c1, c2⟩ | ⟨c1, c2⟩
        · exact .inl ⟨c1, k G1 H1 M1 _ _ _ e1 S1 c2 (by simpa using hl) h1⟩
        · exact .inr ⟨c1, k G1 H1 M1 _ _ _ e1 S1 c2 (by simpa using hl) h1⟩
      · exact h1.elim
    · exact h1.elim
theorem qi_enumC (hg : Gl X "enumerate") (hm : X.mg "enumerate" = none) (ha : QA X W [e] ta qa) (hk : QK X W kws tk qk) (hs : starEach [e] X.env = (false, eval e X.env) :: starEach [] X.env := by rfl)
    (hpl : (backTo pos (starEach [e] X.env)).any (·.1) = false := by rfl) (hall : (backToKw pos (keywordEach kws X.env)).all (·.1.isSome) = true := by rfl) (hnone : (backToKw pos (keywordEach kws X.env)).any (·.1.isNone) = false := by rfl)
    (hks : (backToKw pos (keywordEach kws X.env)).filterMap (·.1) = [Str.ofString "start"] := by rfl) :
    QI X W (.Tuple elts kk tpos) (.Call (.Name "enumerate" p) [e] kws pos) (iEnumC X.K ta tk) (qiEnumC qa qk) := by
  refine ⟨⟨fun pins s σ H R I h => ?_⟩, fun DW G H p M s R R' hw S h k => ha.rf DW G H p M s _ _ hw S h fun G1 H1 M1 ds vs e1 S1 r1 h1 => hk.rf DW G1 H1 p M1 s _ _ (hw.mono e1) S1 h1 fun G2 H2 M2 zs us e2 S2 r2 h2 => ?_⟩
  · refine wpAny_Call_Name_kw (ld_blt I hg hm PyProof.Rows.boot_enumerate ?_)
    refine callWith_type_kw (thn (ha.pe.run pos pins s σ H _ I h) fun us s1 ⟨vs, H1, I1, r1, q1⟩ => thn (hk.pe.run pos pins s1 σ H1 _ I1 q1) fun ws s2 ⟨zs, H2, I2, r2, q2⟩ => ?_) hs hpl hall hnone
    rw [hks]
    obtain ⟨a, xs, k, ex, ez, k0, k1, q⟩ := q2
    subst ex ez
    cases r1 with
    | cons r rr =>
      cases rr
      cases r
      obtain ⟨w, rfl, rw_⟩ := r2.one
      obtain ⟨t, rfl⟩ := (show ∃ t, w = Value.int k t from rw_)
      obtain ⟨o, HH, B, b1, fin⟩ := enum_begin (elts := elts) (kk := kk) (tpos := tpos) I2 k0 k1 q
      exact enum_begins_start B b1 k0 k1 fun h' he ho hsz hk => wpAny_pyIter_enum he (fin h' he ho hsz hk)
  · split at h2
    · next x kz =>
      obtain ⟨k0, k1, h2⟩ := h2
      obtain ⟨v, rfl, r3⟩ := repL1 (RepL.mono e2 _ _ r1)
      obtain ⟨z, rfl, r4⟩ := repL1 r2
      cases r4
      split at h2
      · next t es Sty eo =>
        obtain ⟨sm, a, xs, rfl, hl, hc⟩ := seqAt_feed (k := kz) S2 r3 eo
        refine ⟨a, xs, kz, rfl, rfl, by omega, by omega, ?_⟩
        rcases hc with ⟨c1, c2⟩ | ⟨c1, c2⟩
        · exact .inl ⟨c1, k G2 H2 M2 _ _ _ (e1.trans e2) S2 c2 (by simpa using hl) h2⟩
        · exact .inr ⟨c1, k G2 H2 M2 _ _ _ (e1.trans e2) S2 c2 (by simpa using hl) h2⟩
      · exact h2.elim
    · exact h2.elim
end
end DL

/-! DLC: slices with a step; index; pairs into dicts; sorted texts; zip of a tuple and a list. -/
namespace DL
open PySem L2
/-! ### slices with a step -/
def stepD {α : Type} (xs : List α) (lo hi : Option Int) (st : Int) : Option (List α) :=
  match lo, hi with
  | none, none => if st = 1 then some xs else if st = -1 then some xs.reverse else none
  | some l, none => if l = 1 ∧ st = -1 then some (xs.take 2).reverse else none
  | _, _ => none
theorem srange_up (n : Nat) : sliceRange 0 (n : Int) 1 = List.range n := by
  unfold sliceRange
  have h1 : (1 : Int) > 0 := by decide
  by_cases h : (0 : Int) < (n : Int)
  · have e : ((n : Int) - 0 + 1 - 1) / 1 = (n : Int) := by rw [Int.ediv_one]; omega
    simp only [h1, if_true, h, e, Int.toNat_natCast]
    refine (List.map_congr_left fun k hk => ?_).trans (List.map_id _)
    show ((0 : Int) + 1 * (k : Int)).toNat = k
    omega
  · have e : n = 0 := by omega
    subst e; simp
theorem pick_up (items : Array Value) : slicePick items none none (some 1) = items := by
  unfold slicePick
  have e : sliceBounds none none (some 1) items.size = (0, (items.size : Int), 1) := by first | rfl | simp [sliceBounds]
  rw [e]
  show ((sliceRange 0 (items.size : Int) 1).filterMap (items[·]?)).toArray = _
  rw [srange_up, PySem.W.krv_all]
theorem pick_two (items : Array Value) : slicePick items (some 1) none (some (-1)) = (items.toList.take 2).reverse.toArray := by
  unfold slicePick
  have e : sliceBounds (some 1) none (some (-1)) items.size = (max (-1) (min 1 ((items.size : Int) - 1)), -1, -1) := by
    simp [sliceBounds]
  rw [e]
  show ((sliceRange (max (-1) (min 1 ((items.size : Int) - 1))) (-1) (-1)).filterMap (items[·]?)).toArray = _
  by_cases h0 : items.size = 0
  · have e0 : items = #[] := Array.eq_empty_of_size_eq_zero h0
    subst e0; rfl
  · by_cases h1 : items.size = 1
    · have e1 : max (-1) (min (1 : Int) ((items.size : Int) - 1)) = 0 := by omega
      rw [e1]
      have e2 : sliceRange 0 (-1) (-1) = [0] := by decide
      rw [e2]
      obtain ⟨a, ha⟩ : ∃ a, items = #[a] := by
        match items, h1 with
        | ⟨[a]⟩, _ => exact ⟨a, rfl⟩
      subst ha; rfl
    · have e1 : max (-1) (min (1 : Int) ((items.size : Int) - 1)) = 1 := by omega
      rw [e1]
      have e2 : sliceRange 1 (-1) (-1) = [1, 0] := by decide
      rw [e2]
      obtain ⟨a, b, r, ha⟩ : ∃ a b r, items = ⟨a :: b :: r⟩ := by
        match items, h0, h1 with
        | ⟨a :: b :: r⟩, _, _ => exact ⟨a, b, r, rfl⟩
      subst ha; rfl
theorem pick_step {items : Array Value} {lo hi : Option Int} {st : Int} {ys : List Value} (h : stepD items.toList lo hi st = some ys) : slicePick items lo hi (some st) = ys.toArray ∧ st ≠ 0 := by
  unfold stepD at h
  split at h
  · split at h
    · next e => cases h; subst e; exact ⟨by rw [pick_up], by decide⟩
    · split at h
      · next e => cases h; subst e; exact ⟨by rw [PySem.W.krv_pick], by decide⟩
      · cases h
  · split at h
    · next e => cases h; obtain ⟨rfl, rfl⟩ := e; exact ⟨by rw [pick_two], by decide⟩
    · cases h
  · cases h
theorem step_rel {α β : Type} {P : List α → List β → Prop} {xs : List α} {ys : List β} {lo hi : Option Int} {st : Int} {us : List α} (h : stepD xs lo hi st = some us) (h0 : P xs ys) (h1 : P xs.reverse ys.reverse) (h2 : P (xs.take 2).reverse (ys.take 2).reverse) : ∃ vs, stepD ys lo hi st = some vs ∧ P us vs := by
  unfold stepD at h ⊢
  split at h
  · split at h
    · next e => cases h; exact ⟨ys, by rw [if_pos e], h0⟩
    · next e0 =>
      split at h
      · next e => cases h; exact ⟨ys.reverse, by rw [if_neg e0, if_pos e], h1⟩
      · cases h
  · split at h
    · next e => cases h; exact ⟨_, by rw [if_pos e], h2⟩
    · cases h
  · cases h
theorem step_len {α : Type} {xs us : List α} {lo hi : Option Int} {st : Int} (h : stepD xs lo hi st = some us) : us.length ≤ xs.length := by
  unfold stepD at h
  split at h
  · split at h
    · cases h; exact Nat.le_refl _
    · split at h
      · cases h; rw [List.length_reverse]; exact Nat.le_refl _
      · cases h
  · split at h
    · cases h; rw [List.length_reverse, List.length_take]; omega
    · cases h
  · cases h
section
variable {prog : Program} {w : World} {A : Around} {E : Value → Shared → Prop} {s : Shared}
theorem sliceApplied_st {sl : Addr} {vl vu vs : Value} {lo hi : Option Int} {st : Int} {n : Nat} {Q : Int × Int × Nat → Shared → Prop} (hs : s.heap.IsSliceOf sl vl vu vs) (pl : IsPart vl lo) (pu : IsPart vu hi) (ps : IsPart vs (some st)) (h0 : st ≠ 0)
    (h : Q ((Builtin.Slice.sliceAdjust lo hi st (n : Int)).1, st, Builtin.Slice.slicePlaces (Builtin.Slice.sliceAdjust lo hi st (n : Int)).1 (Builtin.Slice.sliceAdjust lo hi st (n : Int)).2 st) s) : wpAny (model prog w) A (Builtin.Slice.sliceApplied (.ref sl) (pure (n : Int))) Q E s := by
  obtain ⟨os, hos, hcs, hds⟩ := id hs
  unfold Builtin.Slice.sliceApplied Builtin.Slice.sliceFields
  refine wpAny_bind (wpAny_bind (wpAny_field hos hds (x := vl) rfl (wpAny_bind (wpAny_field hos hds (x := vu) rfl (wpAny_bind (wpAny_field hos hds (x := vs) rfl (wpAny_pure ?_)))))))
  refine wpAny_bind (HT.slicePart_ ps ?_)
  show wpAny _ _ (if (st == 0) = true then _ else _) _ _ s
  rw [if_neg (by simpa using h0)]
  refine wpAny_bind (HT.slicePart_ pl (wpAny_bind (HT.slicePart_ pu (wpAny_bind (wpAny_pure ?_)))))
  exact wpAny_pure h
end
theorem tpick {xs : Array Value} {lo hi : Option Int} {st : Int} {ys : List Value} (h : stepD xs.toList lo hi st = some ys) :
    ((List.range (Builtin.Slice.slicePlaces (Builtin.Slice.sliceAdjust lo hi st (xs.size : Int)).1 (Builtin.Slice.sliceAdjust lo hi st (xs.size : Int)).2 st)).filterMap fun (k : Nat) => xs[((Builtin.Slice.sliceAdjust lo hi st (xs.size : Int)).1 + (k : Int) * st).toNat]?).toArray = ys.toArray := by
  unfold stepD at h
  split at h
  · split at h
    · next e =>
      cases h; subst e
      rw [HT.adjust_gen, HT.places_gen]
      show ((List.range (xs.size - 0)).filterMap fun (k : Nat) => xs[(((0 : Nat) : Int) + (k : Int) * 1).toNat]?).toArray = _
      rw [HT.pick_gen]
      simp only [List.drop_zero, Nat.sub_zero]
      rw [List.take_of_length_le (by rw [Array.length_toList]; exact Nat.le_refl _)]
    · split at h
      · next e =>
        cases h; subst e
        have e1 : Builtin.Slice.sliceAdjust none none (-1) (xs.size : Int) = ((xs.size : Int) - 1, -1) := by first | rfl | simp [Builtin.Slice.sliceAdjust]
        have e2 : Builtin.Slice.slicePlaces ((xs.size : Int) - 1) (-1) (-1) = xs.size := by
          unfold Builtin.Slice.slicePlaces
          have h1 : ¬ ((-1 : Int) > 0) := by decide
          simp only [h1, if_false]
          split
          · rw [show (- -1 : Int) = 1 by decide, Int.ediv_one]; omega
          · show (0 : Int).toNat = _
            have : (0 : Int).toNat = 0 := rfl
            omega
        rw [e1, e2]
        have e3 : (fun (k : Nat) => xs[((xs.size : Int) - 1 + (k : Int) * -1).toNat]?) = (xs[·]?) ∘ fun k : Nat => (((xs.size : Int) - 1) - (k : Int)).toNat := by
          funext k
          show xs[((xs.size : Int) - 1 + (k : Int) * -1).toNat]? = xs[(((xs.size : Int) - 1) - (k : Int)).toNat]?
          congr 1; congr 1; omega
        show ((List.range xs.size).filterMap fun (k : Nat) => xs[((xs.size : Int) - 1 + (k : Int) * -1).toNat]?).toArray = _
        rw [e3, ← List.filterMap_map]
        have e4 : (List.range xs.size).map (fun k : Nat => (((xs.size : Int) - 1) - (k : Int)).toNat) = (List.range xs.size).map fun k => xs.size - 1 - k := List.map_congr_left fun k hk => by
          have := List.mem_range.mp hk; omega
        rw [e4, PySem.W.krv_range, List.filterMap_reverse, PySem.W.krv_all]
      · cases h
  · split at h
    · next e =>
      cases h; obtain ⟨rfl, rfl⟩ := e
      by_cases h0 : xs.size = 0
      · have e0 : xs = #[] := Array.eq_empty_of_size_eq_zero h0
        subst e0; rfl
      · by_cases h1 : xs.size = 1
        · obtain ⟨a, ha⟩ : ∃ a, xs = #[a] := by
            match xs, h1 with
            | ⟨[a]⟩, _ => exact ⟨a, rfl⟩
          subst ha
          have e1 : Builtin.Slice.sliceAdjust (some 1) none (-1) ((#[a] : Array Value).size : Int) = (0, -1) := by
            show Builtin.Slice.sliceAdjust (some 1) none (-1) (1 : Int) = _
            decide
          rw [e1]
          have e2 : Builtin.Slice.slicePlaces 0 (-1) (-1) = 1 := by decide
          rw [e2]; rfl
        · have e1 : Builtin.Slice.sliceAdjust (some 1) none (-1) (xs.size : Int) = (1, -1) := by
            unfold Builtin.Slice.sliceAdjust
            simp
            first | omega | (split <;> omega) | skip
          rw [e1]
          have e2 : Builtin.Slice.slicePlaces 1 (-1) (-1) = 2 := by decide
          rw [e2]
          obtain ⟨a, b, r, ha⟩ : ∃ a b r, xs = ⟨a :: b :: r⟩ := by
            match xs, h0, h1 with
            | ⟨a :: b :: r⟩, _, _ => exact ⟨a, b, r, rfl⟩
          subst ha; rfl
    · cases h
  · cases h
section
variable {prog : Program} {w : World} {A : Around} {E : Value → Shared → Prop} {s : Shared}
theorem getItem_tuple_step {t sl : Addr} {items : Array Value} {vl vu vs : Value} {lo hi : Option Int} {st : Int} {ys : List Value} {Q : Value → Shared → Prop} (ht : PyProof.Rows.IsTup s.heap t items) (hs : s.heap.IsSliceOf sl vl vu vs) (pl : IsPart vl lo) (pu : IsPart vu hi) (ps : IsPart vs (some st))
    (hy : stepD items.toList lo hi st = some ys) (h0 : st ≠ 0)
    (key : Q (.ref s.heap.objs.size) { s with heap := s.heap.push { cls := .type "tuple", data := .seq ys.toArray } }) (hw : st = 1 → Q (.ref t) s)
    (hsz : items.toList.length ≤ sizeLine) : wpAny (model prog w) A (getItem (.ref t) (.ref sl)) Q E s := by
  have hpick := tpick hy
  have hlen := step_len hy
  have hsy : sizeOk (.seq ys.toArray) := by
    show ys.toArray.size ≤ sizeLine
    rw [List.size_toArray]
    exact Nat.le_trans hlen hsz
  obtain ⟨os, hos, hcs, hds⟩ := id hs
  have hTs : s.TypeIs (.ref sl) "slice" := ⟨os, hos, hcs⟩
  unfold getItem
  try with_reducible refine wpAny_holding ?_
  first | refine wpAny_bind (wpAny_pure ?_) | skip
  refine wpAny_bind (wpAny_sequenceKey ht.typeIs (by decide) ?_)
  refine wpAny_bind (wpAny_callSpecial?_slot (name := Str.ofString "__getitem__") ht.typeIs PyProof.Rows.slot_tuple_getitem
    (wpAny_call_entry PyProof.Rows.slot_tuple_getitem ht.typeIs PyProof.Rows.entry_tuple_getitem ?_ (PyProof.Rows.args_tuple_getitem _ _)))
  show wpAny _ _ (Builtin.Tuple.tupleItemsOf (.ref t) >>= _) _ _ s
  refine wpAny_bind (PyProof.Rows.tupleItemsOf_ ht ?_)
  refine wpAny_bind (wpAny_typeOf hTs ?_)
  rw [if_pos (by decide)]
  refine wpAny_bind (sliceApplied_st hs pl pu ps h0 ?_)
  show wpAny _ _ (if ((Builtin.Slice.sliceAdjust lo hi st (items.size : Int)).1 == 0 && st == 1 && Builtin.Slice.slicePlaces (Builtin.Slice.sliceAdjust lo hi st (items.size : Int)).1 (Builtin.Slice.sliceAdjust lo hi st (items.size : Int)).2 st == items.size) = true then _ else _) _ _ s
  by_cases hc : ((Builtin.Slice.sliceAdjust lo hi st (items.size : Int)).1 == 0 && st == 1 && Builtin.Slice.slicePlaces (Builtin.Slice.sliceAdjust lo hi st (items.size : Int)).1 (Builtin.Slice.sliceAdjust lo hi st (items.size : Int)).2 st == items.size) = true
  · rw [if_pos hc]
    rw [Bool.and_eq_true, Bool.and_eq_true] at hc
    have c2 : st = 1 := eq_of_beq hc.1.2
    refine wpAny_bind (m := Builtin.Tuple.tupleIsExact _) ?_
    unfold Builtin.Tuple.tupleIsExact
    refine wpAny_bind (wpAny_typeOf ht.typeIs (wpAny_pure ?_))
    rw [if_pos (by decide)]
    exact wpAny_bind (wpAny_rule (wpAny_bind (wpAny_pure (wpAny_pure ⟨_, rfl, wpAny_pure (hw c2)⟩))))
  · rw [if_neg hc, hpick]
    first
      | exact wpAny_bind (m := Builtin.Tuple.tupleExact _) (wpAny_newObj_type (wpAny_pure ⟨_, rfl, wpAny_pure key⟩) hsy)
      | exact wpAny_bind (m := Builtin.Tuple.tupleExact _) (wpAny_newObj_type (wpAny_bind (wpAny_pure (wpAny_pure ⟨_, rfl, wpAny_pure key⟩))) hsy)
      | exact wpAny_bind (wpAny_bind (m := Builtin.Tuple.tupleExact _) (wpAny_newObj_type (wpAny_pure (wpAny_pure ⟨_, rfl, wpAny_pure key⟩)) hsy))
      | exact wpAny_bind (wpAny_bind (m := Builtin.Tuple.tupleExact _) (wpAny_newObj_type (wpAny_pure ⟨_, rfl, wpAny_pure key⟩) hsy))
end
/-- e[lo:hi:st] -/
def dStep (m : Bool) (x : D) (lo hi : Option Int) (st : Int) (M : Mst) (Q : DK) : Prop := match x with
  | .tup ds => match stepD ds lo hi st with
    | some ys => Q (.tup ys) M
    | none => False
  | _ => match res M x with
    | .lst ds => match stepD ds lo hi st with
      | some ys => newL m ys M Q
      | none => False
    | _ => False
def qStep (m : Bool) (qe : DTE) (ql qh qs : DTO) : DTE := fun DW p M Q => qe DW p M fun x M1 => ql DW p M1 fun l M2 => qh DW p M2 fun u M3 => qs DW p M3 fun st M4 => match st with
  | some c => dStep m x l u c M4 Q
  | none => False
def rStepX (K : PySem.W.Frag) : V → Option Int → Option Int → Int → Hp → VK → Prop := fun x lo hi st H Q => ∃ a, x = .ref a ∧ ((∃ xs ys, SqL K H a xs ∧ stepD xs lo hi st = some ys ∧ ∀ p, H p = none → Q (.ref p) (upd H p (.lst ys))) ∨
  (∃ xs ys, SqT K H a xs ∧ stepD xs lo hi st = some ys ∧ (ys = xs → Q (.ref a) H) ∧ ∀ p, H p = none → Q (.ref p) (upd H p (.tup ys))))
def tStep (r : V → Option Int → Option Int → Int → Hp → VK → Prop) (te : TE) (tl th ts : TO) : TE := fun σ H Q => te σ H fun x H1 => tl σ H1 fun l H2 => th σ H2 fun u H3 => ts σ H3 fun st H4 => ∃ c, st = some c ∧ r x l u c H4 Q
theorem vals_step {xs : List V} {its : List Value} (r : Vals xs its) {lo hi : Option Int} {st : Int} {ys : List V} (h : stepD xs lo hi st = some ys) : ∃ zs, stepD its lo hi st = some zs ∧ Vals ys zs :=
  step_rel (P := Vals) h r r.reverse (r.take 2).reverse
section
variable {X : Cx} {W : WX} {e : Expr} {te : TE} {qe : DTE} {lo hi : Option Expr} {ste : Expr} {tl th ts : TO} {ql qh qs : DTO} {pos p2 : Pos}
theorem pe_step (he : PE X e te) (hl : PO X lo tl) (hh : PO X hi th) (hs : PO X (some ste) ts) : PE X (.Subscript e (.Slice lo hi (some ste) p2) pos) (tStep (rStepX X.K) te tl th ts) := by
  refine ⟨fun pins s σ H Q I h => ?_⟩
  refine PyProof.Rows.Subscript_ (thn (he.run pins s σ H _ I h) fun v s1 ⟨x, H1, I1, r1, q1⟩ => ?_)
  refine wpAny_Slice (thn (hl.run pins s1 σ H1 _ I1 q1) fun vl s2 ⟨l, H2, I2, pl, q2⟩ => ?_)
  refine thn (hh.run pins s2 σ H2 _ I2 q2) fun vu s3 ⟨u, H3, I3, pu, q3⟩ => ?_
  refine thn (hs.run pins s3 σ H3 _ I3 q3) fun vs s4 ⟨o, H4, I4, ps, q4⟩ => ?_
  obtain ⟨c, rfl, a, rfl, q4⟩ := q4
  cases r1
  have I5 : Inv X pins σ H4 { s4 with heap := s4.heap.push { cls := .type "slice", data := .fields #[vl, vu, vs] } } := I4.kept (t' := s4.toks) fun b ob q => Heap.get?_push_of_some _ q
  show wpAny (model X.prog X.w) X.A (PyProof.Rows.subscriptTail e (.Slice lo hi (some ste) p2) (.ref a) (.ref s4.heap.objs.size)) (EP X pins σ Q) X.xe { s4 with heap := s4.heap.push { cls := .type "slice", data := .fields #[vl, vu, vs] } }
  rcases q4 with ⟨xs, ys, hx, hy, q⟩ | ⟨xs, ys, hx, hy, qw, q⟩
  · obtain ⟨its, r, ht, hz⟩ := I5.list hx
    obtain ⟨zs, hzs, rz⟩ := vals_step r hy
    have hps := pick_step (items := its.toArray) (lo := l) (hi := u) (st := c) (ys := zs) (by simpa using hzs)
    have hle := step_len hy
    refine PyProof.Rows.tail_any (ops := [.ref a, .ref s4.heap.objs.size]) ht.isList.typeIs (PySem.slot_list_getitem.lookup) ?_ (by with_unfolding_all rfl)
    refine wpAny_getItem_list_slice ht.isList (Heap.IsSliceOf.new _ vl vu vs) pl pu ps (by simpa using hps.2) ?_ (by rw [List.size_toArray, ← r.length]; exact hz)
    rw [hps.1]
    refine ⟨.ref _, _, I5.laid (t' := s4.toks) (o := .lst ys) (fun b ob q => Heap.get?_push_of_some _ q) (Nat.le_refl _) ?_, rfl, q _ (I5.hok.fresh (Nat.le_refl _))⟩
    exact ⟨Nat.le_trans hle hz, _, 0, rz, Heap.get?_push_size _ rfl⟩
  · obtain ⟨its, r, ht, hz⟩ := I5.tuple hx
    obtain ⟨zs, hzs, rz⟩ := vals_step r hy
    have hps := pick_step (items := its.toArray) (lo := l) (hi := u) (st := c) (ys := zs) (by simpa using hzs)
    have hle := step_len hy
    refine PyProof.Rows.tail_any (ops := [.ref a, .ref s4.heap.objs.size]) ht.typeIs (PyProof.Rows.slot_tuple_getitem.lookup) ?_ (by with_unfolding_all rfl)
    have new : EP X pins σ Q (.ref (s4.heap.push { cls := .type "slice", data := .fields #[vl, vu, vs] }).objs.size) { s4 with heap := (s4.heap.push { cls := .type "slice", data := .fields #[vl, vu, vs] }).push { cls := .type "tuple", data := .seq zs.toArray } } := by
      refine ⟨.ref _, _, I5.laid (t' := s4.toks) (o := .tup ys) (fun b ob q => Heap.get?_push_of_some _ q) (Nat.le_refl _) ?_, rfl, q _ (I5.hok.fresh (Nat.le_refl _))⟩
      exact ⟨Nat.le_trans hle hz, _, rz, PyProof.Rows.IsTup.new _ _⟩
    refine getItem_tuple_step ht (Heap.IsSliceOf.new _ vl vu vs) pl pu ps (by simpa using hzs) hps.2 new (fun e1 => ?_) (by simpa [← r.length] using hz)
    have eyx : ys = xs := by
      subst e1
      unfold stepD at hy
      split at hy
      · exact (Option.some.inj (by simpa using hy)).symm
      · simp at hy
      · cases hy
    exact ⟨.ref a, H4, I5, rfl, qw eyx⟩
theorem q_step (m : Bool) (he : QE X W e te qe) (hl : QO X W lo tl ql) (hh : QO X W hi th qh) (hs : QO X W (some ste) ts qs) : QE X W (.Subscript e (.Slice lo hi (some ste) p2) pos) (tStep (rStepX X.K) te tl th ts) (qStep m qe ql qh qs) :=
  ⟨pe_step he.pe hl.pe hh.pe hs.pe, fun DW G H p M s Q Q' hw S h k => he.rf DW G H p M s _ _ hw S h fun G1 H1 M1 x v e1 S1 r1 h1 =>
    hl.rf DW G1 H1 p M1 s _ _ (hw.mono e1) S1 h1 fun G2 H2 M2 l e2 S2 h2 => hh.rf DW G2 H2 p M2 s _ _ (hw.mono (e1.trans e2)) S2 h2 fun G3 H3 M3 u e3 S3 h3 =>
      hs.rf DW G3 H3 p M3 s _ _ (hw.mono ((e1.trans e2).trans e3)) S3 h3 fun G4 H4 M4 st e4 S4 h4 => by
        cases st with
        | none => exact h4.elim
        | some c =>
          refine ⟨c, rfl, ?_⟩
          have r4 := Rep.mono ((e2.trans e3).trans e4) _ _ r1
          have kk : ∀ G' H' M' d w, Same G4 G' → Sim X.K G' H' p M' s → Rep X.K G' d w → Q d M' → Q' w H' := fun G' H' M' d w e5 => k G' H' M' d w ((((e1.trans e2).trans e3).trans e4).trans e5)
          have lst : ∀ ds ys, res M4 x = .lst ds → stepD ds l u c = some ys → newL m ys M4 Q → rStepX X.K v l u c H4 Q' := fun ds ys hr hy hq => by
            obtain ⟨a, vs, rfl, g1, g2, g3⟩ := as_lst S4 r4 hr
            obtain ⟨zs, hz, rz⟩ := step_rel (P := RepL X.K G4) hy g2 (RepL.reverse g2) (RepL.reverse (RepL.take 2 g2))
            exact ⟨a, rfl, .inl ⟨vs, zs, .inl (.inl g1), hz, fun q hq' => newL_ok S4 hq' rz (Nat.le_trans (step_len hz) g3) hq kk⟩⟩
          have gen : (match res M4 x with
              | .lst ds => match stepD ds l u c with
                | some ys => newL m ys M4 Q
                | none => False
              | _ => False) → rStepX X.K v l u c H4 Q' := fun h5 => by
            cases hr : res M4 x with
            | lst ds =>
              rw [hr] at h5
              cases hy : stepD ds l u c with
              | none => simp only [hy] at h5
              | some ys => simp only [hy] at h5; exact lst ds ys hr hy h5
            | _ => rw [hr] at h5; exact h5.elim
          cases x with
          | tup ds =>
            simp only [dStep] at h4
            cases hy : stepD ds l u c with
            | none => simp only [hy] at h4
            | some ys =>
              simp only [hy] at h4
              obtain ⟨a, vs, rfl, g1, g2, g3⟩ := r4
              obtain ⟨zs, hz, rz⟩ := step_rel (P := RepL X.K G4) hy g2 (RepL.reverse g2) (RepL.reverse (RepL.take 2 g2))
              refine ⟨a, rfl, .inr ⟨vs, zs, .inl (.inl (S4.same _ _ g1)), hz, fun ez => ?_, fun q hq' => newT_ok S4 hq' rz (Nat.le_trans (step_len hz) g3) h4 kk⟩⟩
              subst ez
              exact kk G4 H4 M4 (.tup ys) _ (Same.refl _) S4 ⟨a, zs, rfl, g1, rz, g3⟩ h4
          | _ => exact gen h4⟩
end
end DL

/-! DLD: xs.index(y) of flat things that stands in it. -/
namespace DL
open PySem L2 Tx20 Tx21
def rIdxV (K : PySem.W.Frag) : V → List V → Hp → VK → Prop := fun x vs H Q => ∃ p xs y, x = .ref p ∧ vs = [y] ∧ SqL K H p xs ∧ flatV y = true ∧ xs.all flatV = true ∧ xs.length ≤ 100000 ∧ xs.findIdx (fun z => eqV z y) < xs.length ∧ Q (.int (xs.findIdx fun z => eqV z y)) H
theorem index_eqU {x : V} : ∀ {xs : List V} {us : List Value}, Vals xs us → xs.all flatV = true → us.findIdx (eqU x) = xs.findIdx fun y => eqV y x
  | _, _, .nil, _ => rfl
  | y :: xs, u :: us, .cons r t, f => by
    rw [List.all_cons, Bool.and_eq_true] at f
    rw [List.findIdx_cons, List.findIdx_cons, eqU_of r f.1, index_eqU t f.2]
theorem vals_len : ∀ {xs : List V} {us : List Value}, Vals xs us → us.length = xs.length
  | _, _, .nil => rfl
  | _, _, .cons _ t => by rw [List.length_cons, List.length_cons, vals_len t]
theorem mt_indexV {X : Cx} : MtR X "list.index" (rIdxV X.K) := by
  intro pins s σ H x xs v us Q I rx rxs h
  obtain ⟨p, ys, y, rfl, rfl, hs, fy, fys, hl, hj, q⟩ := h
  cases rx
  obtain ⟨u, rfl, ru⟩ := rxs.one
  obtain ⟨its, rv, ⟨⟨cls, dd, data, sl⟩, n, ho, hc, hdn, hd⟩, hlen⟩ := I.list hs
  simp only at hc hd
  subst hc hd
  have ec : its.findIdx (eqU y) = ys.findIdx fun z => eqV z y := index_eqU rv fys
  have el : its.length = ys.length := vals_len rv
  have hj' : its.findIdx (eqU y) < its.length := by rw [ec, el]; exact hj
  refine call_meets PySem.F.slot_list_index ⟨_, ho, rfl⟩ PySem.F.entry_list_index (PySem.F.args_list_index_2 _ _)
    (SeqAt.list_indexAt p its.toArray n dd sl u (eqU y) (its.findIdx (eqU y)) (by simpa using hj') (by omega) (by simpa using List.findIdx_getElem (w := hj')) (fun m hm h => by simpa using List.not_of_lt_findIdx h)) ⟨ho, fun z hz => mem_eqAt ru fy rv fys z (by simpa using hz), ?_⟩
  refine ⟨.int (ys.findIdx fun z => eqV z y : Nat), H, I.tok _, ⟨s.toks, ?_⟩, q⟩
  rw [ec]
def mIndex : DMt := fun x ds M Q => match ds with
  | [d] => match res M x with
    | .lst es => flatD d = true ∧ es.all flatD = true ∧ es.length ≤ 100000 ∧ es.findIdx (fun e => deq e d) < es.length ∧ Q (.int (es.findIdx fun e => deq e d)) M
    | _ => False
  | _ => False
theorem indexV_of {K : PySem.W.Frag} {G : Hp} {d : D} {v : V} (r : Rep K G d v) (h : flatD d = true) : ∀ {ds : List D} {vs : List V}, RepL K G ds vs → ds.all flatD = true → vs.all flatV = true ∧ vs.length = ds.length ∧ (vs.findIdx fun z => eqV z v) = ds.findIdx fun e => deq e d
  | [], _, q, _ => by cases q; exact ⟨rfl, rfl, rfl⟩
  | e :: ds, _, ⟨w, vs, e1, h2, h3⟩, f => by
    subst e1
    have f' : flatD e = true ∧ ds.all flatD = true := by simpa using f
    obtain ⟨i1, i3, i2⟩ := indexV_of r h h3 f'.2
    obtain ⟨fv, _⟩ := flatD_of h2 f'.1
    have e2 := (flatD_of r h).2 e w h2 f'.1
    refine ⟨by simp [fv, i1], by simp [i3], ?_⟩
    rw [List.findIdx_cons, List.findIdx_cons, i2, e2]
theorem m_index {X : Cx} : QMt X "list.index" (rIdxV X.K) mIndex := ⟨mt_indexV, fun G H p M s x v ds vs Q Q' S r1 r2 h k => by
  unfold mIndex at h
  split at h
  · next d =>
    obtain ⟨u, rfl, r3⟩ := repL1 r2
    split at h
    · next es e1 =>
      obtain ⟨f1, f2, f3, f4, h⟩ := h
      obtain ⟨a, us, rfl, g1, g2, g3⟩ := as_lst S r1 e1
      obtain ⟨i1, i3, i2⟩ := indexV_of r3 f1 g2 f2
      refine ⟨a, us, u, rfl, rfl, .inl (.inl g1), (flatD_of r3 f1).1, i1, by rw [i3]; exact f3, by rw [i2, i3]; exact f4, k G H M (.int _) _ (Same.refl _) S rfl ?_⟩
      rw [i2]; exact h
    · exact h.elim
  · exact h.elim⟩
end DL

/-! DLE: defs that are called in an except suite and are handed the caught exception. -/
namespace DL
open PySem PySem.Spec PyProof.Rows L2
/-- what a def promises where p's object, a caught exception, stands by -/
structure FnW (P : Program) (w : World) (K : PySem.W.Frag) (mg : Str → Option Value) (base : Heap) (CX : CXT) (k : Nat) (f : Addr) (fd : FuncData) (ps : List Str) (sp : Sp) (p : Addr × Obj) : Prop where
  len : ∀ vs H Q E, sp vs H Q E → vs.length = ps.length
  run : ∀ (A : Around) (outer : List Env) (s : Shared) (H : Hp) (args : Args) (us : List Value) (vs : List V) (Q : VK) (E : XK), L2H.RoomH k A → L2H.PinOk outer H s p → Env0 P w K mg base A outer s H → BindsTo s fd args (ps.zip us) → Vals vs us → sp vs H Q E →
    codeAny (model P w) A (.call (.ref f) args) (CR CX outer P w H s Q E) s
section
variable {P : Program} {w : World} {K : PySem.W.Frag} {mg : Str → Option Value} {base : Heap}
theorem FnW.mono {CX : CXT} {j k : Nat} {f : Addr} {fd : FuncData} {ps : List Str} {sp : Sp} {p : Addr × Obj} (F : FnW P w K mg base CX j f fd ps sp p) (h : j ≤ k) : FnW P w K mg base CX k f fd ps sp p :=
  ⟨F.len, fun A outer s H args us vs Q E hr => F.run A outer s H args us vs Q E (hr.mono h)⟩
theorem FnW.imp {CX : CXT} {k : Nat} {f : Addr} {fd : FuncData} {ps : List Str} {sp sp' : Sp} {p : Addr × Obj} (F : FnW P w K mg base CX k f fd ps sp p) (h : ∀ vs H Q E, sp' vs H Q E → sp vs H Q E) : FnW P w K mg base CX k f fd ps sp' p :=
  ⟨fun vs H Q E q => F.len vs H Q E (h _ _ _ _ q), fun A outer s H args us vs Q E hr hp he hb hv hs => F.run A outer s H args us vs Q E hr hp he hb hv (h _ _ _ _ hs)⟩
theorem Fun.okW {x qual : Str} {st : Stmt} {f : Addr} {fd : FuncData} {N ps : List Str} {k : Nat} {sp : Sp} {p : Addr × Obj} (F : Fun K x qual st f fd) (S : FnScope N ps (defScope st)) (len : ∀ vs H Q E, sp vs H Q E → vs.length = ps.length)
    (hbody : ∀ (cdv : Value) (A : Around) (outer : List Env) (s : Shared) (H : Hp) (vs : List V) (Q : VK) (E : XK), L2H.RoomH k (A.deeper (envOfC qual (defScope st) s.heap.objs.size f cdv)) → sp vs H Q E →
      ∃ t, PSs (L2H.cxH (L2.CX P w) P w K mg base N qual (defScope st) f cdv A outer s H E p) (defBody st) t ∧ t { nx := fun _ H' => Q .non H', rt := Q } (start N vs) H) : FnW P w K mg base (L2.CX P w) (k + 1) f fd ps sp p := by
  obtain ⟨oc, od, kV, doc, pm, an, cdv, ct, osl, rfl, lk, hcd⟩ := F.ex
  refine ⟨len, fun A outer s H args us vs Q E hr hpin e0 hb r hsp => ?_⟩
  have hl := len _ _ _ _ hsp
  have KX : K.In s.heap := e0.mod.kin.keeps fun b o e => (e0.bs b o e).1
  have lim : s.heap.NoLimit := e0.mod.nolimit.keeps fun b o e => (e0.bs b o e).1
  refine codeAny_call_function hr.depth (KX _ _ lk) rfl S.co S.gen rfl (PySem.W.codeRec_of KX hcd) (hb _ _ _ _ ?_)
  refine wpAny_newFunctionEnv_cells S.kind (fun ⟨n, v⟩ hy => ?_) fun env he s1 x => ?_
  · rcases S.par n (List.of_mem_zip hy).1 with q | q
    · exact .inl q
    · exact .inr ⟨q, PySem.W.cellsFrom_some _ _ _ (.inl q)⟩
  subst he
  refine ⟨lim.keeps x.toInCall.keep, codeAny_func ?_⟩
  obtain ⟨t, ht, hq⟩ := hbody cdv A outer s H vs Q E (hr.deeper _) hsp
  refine wpAny_mono (ht.run [] s1 (L2.start N vs) H _ (L2H.inv_startH S hpin e0 hl r x) hq) (fun fl s' hs => ?_) fun e s' hs => hs
  cases fl with
  | ret u =>
    obtain ⟨v, σ', H', J, rv, q⟩ := hs
    exact ⟨v, H', J.os, J.bare, J.base, J.hok, rv, q⟩
  | next =>
    obtain ⟨σ', H', J, q⟩ := hs
    exact ⟨V.non, H', J.os, J.bare, J.base, J.hok, rfl, q⟩
  | brk =>
    obtain ⟨_, _, _, q⟩ := hs
    exact q.elim
  | cont =>
    obtain ⟨_, _, _, q⟩ := hs
    exact q.elim
/-- .. by data -/
theorem fn_okW {x qual : Str} {st : Stmt} {f : Addr} {fd : FuncData} {N ps : List Str} {k : Nat} {p : DSp} {pn : Addr × Obj} (F : Fun K x qual st f fd) (S : FnScope N ps (defScope st)) (len : ∀ ds M Q E, p ds M Q E → ds.length = ps.length)
    (hbody : ∀ (cdv : Value) (A : Around) (outer : List Env) (s : Shared) (H : Hp) (E : XK), L2H.RoomH k (A.deeper (PyProof.Rows.envOfC qual (defScope st) s.heap.objs.size f cdv)) →
      ∃ t q, QSs (L2H.cxH (L2.CX P w) P w K mg base N qual (defScope st) f cdv A outer s H E pn) W0 (defBody st) t q ∧
        ∀ ds M Q Ed, p ds M Q Ed → q DW0 { nx := fun _ M => Q .non M, rt := Q } (startD N ds) M) : FnW P w K mg base (L2.CX P w) (k + 1) f fd ps (toSp K p) pn := by
  refine Fun.okW F S (fun vs H Q E h => ?_) (fun cdv A outer s H vs Q E hr h => ?_)
  · obtain ⟨G, ds, M, Qd, Ed, _, r, _, hp, _⟩ := h
    rw [r.length]; exact len _ _ _ _ hp
  · obtain ⟨G, ds, M, Qd, Ed, e, r, hm, hp, kq, ke⟩ := h
    obtain ⟨t, q, hq, hs⟩ := hbody cdv A outer s H E hr
    refine ⟨t, hq.pe, hq.rf DW0 G H (startD N ds) M (L2.start N vs) _ _ (fun _ _ _ _ _ _ _ _ _ _ _ z => z.elim) (start_sim e r hm) (hs ds M Qd Ed hp)
      ⟨fun G' H' p' M' s' e1 S1 h1 => kq G' H' .non .non M' e1 S1.same rfl S1.mem h1, fun G' H' p' M' s' d v e1 S1 r1 h1 => kq G' H' v d M' e1 S1.same r1 S1.mem h1, fun _ _ _ _ _ _ _ h => h.elim, fun _ _ _ _ _ _ _ h => h.elim⟩⟩
end
section
variable {X : Cx} {W : WX} {k : Nat} {f : Addr} {fd : FuncData} {ps : List Str} {P : DSp} {pn : Addr × Obj} {x : Str} {p pos : Pos} {e : Expr} {es : List Expr} {t : TA} {q : DTA} {sp : Sp} {E : L2.St → XK}
theorem run_fnW {pins : List (Addr × Obj)} {σ : L2.St} {H : Hp} {s : Shared} {Q : VK} {us : List Value} {vs : List V} (F : FnW X.prog X.w X.K X.mg X.base (L2.CX X.prog X.w) k f fd ps sp pn) (hr : L2H.RoomH k X.A) (hp : pn ∈ X.pn) (hb : Binds X.K fd ps []) (hx : PassesAt (L2.CX X.prog X.w) X σ (E σ))
    (I : Inv X pins σ H s) (r : Vals vs us) (h : sp vs H Q (E σ)) : wpAny (model X.prog X.w) X.A (call (.ref f) us) (EP X pins σ Q) X.xe s := by
  have hl : us.length = ps.length := by rw [← r.length]; exact F.len _ _ _ _ h
  have b := hb s us I.kIn (by rw [List.append_nil]; exact hl)
  rw [List.append_nil] at b
  have P1 := I.pin pn (List.mem_append_left _ hp)
  have hpin : L2H.PinOk X.stack H s pn := ⟨P1.1, P1.2.1, fun hm => (List.mem_cons.mp (I.stkSub pn.1 hm)).elim P1.2.2.1 P1.2.2.2.1, P1.2.2.2.2⟩
  refine wpAny_call (codeAny_mono (F.run X.A X.stack s H ⟨us, []⟩ us vs Q (E σ) hr hpin I.env0 b r h) fun r s' hq => ?_)
  cases r with
  | error e => exact hx pins H s e s' I hq
  | ok fl =>
    cases fl with
    | ret u => exact I.after hq
    | next => exact hq.elim
    | brk => exact hq.elim
    | cont => exact hq.elim
theorem pe_callW (F : FnW X.prog X.w X.K X.mg X.base (L2.CX X.prog X.w) k f fd ps sp pn) (hr : L2H.RoomH k X.A) (hp : pn ∈ X.pn) (hg : Gl X x) (hm : X.mg x = some (.ref f)) (hk : PySem.W.keepIn X.K (.ref f) = true) (hb : Binds X.K fd ps []) (hx : ∀ σ, PassesAt (L2.CX X.prog X.w) X σ (E σ))
    (ha : PA X (e :: es) t) (hdb : (x == ("__debug__" : Str)) = false := by decide) (he : starEach (e :: es) X.env = (false, eval e X.env) :: starEach es X.env := by rfl) (hpl : (backTo pos (starEach es X.env)).any (·.1) = false := by rfl) :
    PE X (.Call (.Name x p) (e :: es) [] pos) (tCallSD sp [] E t) := by
  refine ⟨fun pins s σ H Q I h => ?_⟩
  refine wpAny_Call_Name_kw (ld_glob I hg hm ?_ hdb)
  refine PySem.W.callWith_K (h₀ := X.base) I.ok.mod.kin hk (thn (ha.run pos pins s σ H _ I h) fun us s1 ⟨vs, H1, I1, r, q⟩ => ⟨I1.kIn, ?_⟩) he hpl
  exact run_fnW F hr hp hb (hx σ) I1 r (by simpa using q)
/-- f(e, ..), a def of the module, in an except suite -/
theorem q_callW (F : FnW X.prog X.w X.K X.mg X.base (L2.CX X.prog X.w) k f fd ps (toSp X.K P) pn) (hr : L2H.RoomH k X.A) (hp : pn ∈ X.pn) (tk : Takes X W) (hg : Gl X x) (hm : X.mg x = some (.ref f)) (hk : PySem.W.keepIn X.K (.ref f) = true) (hb : Binds X.K fd ps [])
    (ha : QA X W (e :: es) t q) (hdb : (x == ("__debug__" : Str)) = false := by decide) (he : starEach (e :: es) X.env = (false, eval e X.env) :: starEach es X.env := by rfl) (hpl : (backTo pos (starEach es X.env)).any (·.1) = false := by rfl) :
    QE X W (.Call (.Name x p) (e :: es) [] pos) (tCallSD (toSp X.K P) [] (fun s => WE W s) t) (qCall P [] q) :=
  ⟨pe_callW F hr hp hg hm hk hb (fun σ => passAt tk σ) ha.pe hdb he hpl, ref_call ha.rf fun _ => rfl⟩
end
/-! ### isinstance(e, c) in the callee -/
section
variable {X : Cx} {C a : Addr} {oe : Obj} {d : Option Addr}
theorem inst_excW {σ : L2.St} {H : Hp} {s : Shared} {pins : List (Addr × Obj)} (hp : (a, oe) ∈ X.pn) (I : Inv X pins σ H s) (hz : Zc (.ref C) d oe) (hf : ∃ vs, oe.data = .fields vs) (hd : d = none ∨ ∃ dd fs, d = some dd ∧ H dd = some (.xd fs)) : ∃ od, PySem.W.InstAt s.heap a oe C od := by
  obtain ⟨ha, _⟩ := I.pin (a, oe) (List.mem_append_left _ hp)
  obtain ⟨vs, hv⟩ := hf
  obtain ⟨oc, od0, oda, osl⟩ := oe
  obtain ⟨h1, h2⟩ := hz
  dsimp only at h1 h2 hv
  subst h1 h2 hv
  rcases hd with rfl | ⟨dd, fs, rfl, hx⟩
  · exact ⟨none, ha, rfl, rfl, trivial⟩
  · obtain ⟨mA, hns, _⟩ := (show ObjOk X.prog X.w H s.heap dd (.xd fs) from I.hok dd _ hx)
    obtain ⟨od, ho, _⟩ := lookIn_ns hns
    exact ⟨some od, ha, rfl, rfl, ho⟩
theorem c_isW {b : Bool} {c : D} {P : V → Hp → Prop} (hop : CallR X (.builtin "isinstance") (rIsX a b fun v H => P v H ∧ (d = none ∨ ∃ dd fs, d = some dd ∧ H dd = some (.xd fs))))
    (hP : ∀ {G H p M s v}, Sim X.K G H p M s → Rep X.K G c v → P v H) : QCa X (.builtin "isinstance") (rIsX a b fun v H => P v H ∧ (d = none ∨ ∃ dd fs, d = some dd ∧ H dd = some (.xd fs))) (dIsX a d b c) :=
  ⟨hop, fun G H p M s ds vs Q Q' S r hq k => by
    obtain ⟨ns, ys, rfl, hq⟩ := hq
    obtain ⟨v, _, rfl, r1, v2, _, rfl, r2, r3⟩ := r
    cases r3
    obtain ⟨rfl, r1⟩ := r1
    refine ⟨v2, rfl, ⟨hP S r2, ?_⟩, k G H M (.bl b) _ (Same.refl _) S rfl hq⟩
    rcases r1 with ⟨_, h⟩ | ⟨dd, fs, h1, h2, _⟩
    · exact .inl h
    · exact .inr ⟨dd, fs, h1, S.same _ _ h2⟩⟩
theorem c_isW1 {b : Bool} {c : D} {u : Value} (hp : (a, oe) ∈ X.pn) (T : KxC X.K C) (hz : Zc (.ref C) d oe) (hf : ∃ vs, oe.data = .fields vs) (hc : clsD c = some u) (e : PySem.W.kitOne X.K (.ref C) u = some b) :
    QCa X (.builtin "isinstance") (rIsX a b fun v H => (∀ w, RelV v w → w = u) ∧ (d = none ∨ ∃ dd fs, d = some dd ∧ H dd = some (.xd fs))) (dIsX a d b c) :=
  c_isW (fun pins s σ H xs us Q I r h => by
    obtain ⟨v, rfl, ⟨h1, h2⟩, q⟩ := h
    obtain ⟨u1, u2, rfl, r1, r2⟩ := vals2 r
    obtain rfl : u1 = Value.ref a := r1
    have e2 := h1 _ r2
    subst e2
    obtain ⟨od, J⟩ := inst_excW hp I hz hf h2
    exact PySem.W.kia_one (PySem.W.kitx_exc T.hcl T.hga T.hgt T.hsub T.ha T.hn T.htk T.hm) I.kIn J e (fun z => nomatch z) fun tk => ⟨.bl b, H, I.tok tk, rfl, q⟩)
    fun S r w rv => clsD_rep hc r rv
end
end DL

/-! DLF: zip of a tuple and a list. -/
namespace DL
open PySem PySem.Spec PyProof.Rows L2
section
variable {prog : Program} {w : World} {A : Around} {E : Value → Shared → Prop} {s : Shared}
theorem draws_tuple (hh : A.handled = none) (it l : Addr) (hne : l ≠ it) (items : Array Value) : Draws prog w A it [it, l] items.size (fun i v => items[i]? = some v) (fun i h => h.IsTupleIter it l i ∧ h.IsTuple l items) where
  live := fun _ _ st => by obtain ⟨⟨o, ho, _⟩, _⟩ := st; exact ⟨o, ho⟩
  frame := fun _ _ _ st hk => by
    obtain ⟨h1, o, ho, r⟩ := st
    exact ⟨h1.at fun o e => hk it (by simp) o e, o, hk l (by simp) o ho, r⟩
  item := fun i s Q E hi st hQ => by
    refine RZ.nextOf_tuple_item st.1 st.2 (x := items[i]) (by simp [hi]) fun h' hit' hs' => ?_
    obtain ⟨_, o, ho, r⟩ := st
    exact hQ _ h' s.toks (by simp [hi]) ⟨hit', o, hs'.extBut _ _ hne ho, r⟩ hs'
  done := fun s Q E st hE => RZ.nextOf_tuple_end hh st.1 st.2 (by simp) hE
abbrev zmH1 (h : Heap) (l1 : Addr) : Heap := h.push { cls := .type "tuple_iterator", data := .fields #[.ref l1, .int 0 0] }
abbrev zmH2 (h : Heap) (l1 l2 : Addr) : Heap := (zmH1 h l1).push { cls := .type "list_iterator", data := .fields #[.ref l2, .int 0 0] }
abbrev zmH3 (h : Heap) (l1 l2 : Addr) : Heap := (zmH2 h l1 l2).push { cls := .type "tuple", data := .seq #[.ref h.objs.size, .ref (zmH1 h l1).objs.size] }
abbrev zmH4 (h : Heap) (l1 l2 : Addr) : Heap := (zmH3 h l1 l2).push { cls := .type "tuple", data := .seq #[.none, .none] }
abbrev zmH5 (h : Heap) (l1 l2 : Addr) : Heap := (zmH4 h l1 l2).push { cls := .type "zip", data := .fields #[.none, .bool false, .bool false, .ref (zmH2 h l1 l2).objs.size, .ref (zmH3 h l1 l2).objs.size] }
theorem meets_zm (l1 l2 : Addr) (xs ys : Array Value) : Meets (Builtin.«zip.__new__» ⟨[.type "zip", .ref l1, .ref l2], []⟩) (fun _ R s => s.heap.IsTuple l1 xs ∧ s.heap.IsList l2 ys ∧
    R (.ok (.ret (.ref (zmH4 s.heap l1 l2).objs.size))) { s with heap := zmH5 s.heap l1 l2 }) :=
  .of_wp fun prog w A R s h => by
    obtain ⟨hp, g, d, tk, os⟩ := s; obtain ⟨hl1, hl2, h⟩ := h
    have hsub := sub_zip
    have hL1 : Heap.IsTuple (Shared.heap ⟨hp, g, d, tk, os⟩) l1 xs := hl1
    have hL2 : Heap.IsList (Shared.heap ⟨hp.push { cls := .type "tuple_iterator", data := .fields #[.ref l1, .int 0 0] }, g, d, tk, os⟩) l2 ys := Heap.IsList.push hl2 _
    wp_walk using wpAny_pyIter_tuple hL1, wpAny_pyIter_list hL2
    exact ⟨_, rfl, h⟩
theorem call_zm {l1 l2 : Addr} {xs ys : Array Value} {Q : Value → Shared → Prop} (hl1 : s.heap.IsTuple l1 xs) (hl2 : s.heap.IsList l2 ys)
    (h : ∀ h', IsZip h' (s.heap.objs.size + 4) (s.heap.objs.size + 2) (s.heap.objs.size + 3) .none → IsPair h' (s.heap.objs.size + 2) (.ref s.heap.objs.size) (.ref (s.heap.objs.size + 1)) →
      IsPair h' (s.heap.objs.size + 3) .none .none → h'.IsTupleIter s.heap.objs.size l1 0 → h'.IsListIter (s.heap.objs.size + 1) l2 0 →
      (∀ c o, s.heap.get? c = some o → h'.get? c = some o) → Q (.ref (s.heap.objs.size + 4)) { s with heap := h' }) :
    wpAny (model prog w) A (call (.type "zip") [.ref l1, .ref l2]) Q E s := by
  refine callType_new F.called_zip (by decide) (F.typeCall_zip_2 _ _) (F.newCall_zip_2 _ _) (fun obj => F.args_object_init_3 obj _ _) F.entry_zip_new
    (meets_zm l1 l2 xs ys) ⟨hl1, hl2, ?_⟩
  have z1 : (zmH1 s.heap l1).objs.size = s.heap.objs.size + 1 := Heap.size_push ..
  have z2 : (zmH2 s.heap l1 l2).objs.size = s.heap.objs.size + 2 := by rw [Heap.size_push, z1]
  have z3 : (zmH3 s.heap l1 l2).objs.size = s.heap.objs.size + 3 := by rw [Heap.size_push, z2]
  have z4 : (zmH4 s.heap l1 l2).objs.size = s.heap.objs.size + 4 := by rw [Heap.size_push, z3]
  have up : ∀ {h : Heap} {o : Obj} {c : Addr} {u : Obj}, h.get? c = some u → (h.push o).get? c = some u := fun e => Heap.get?_push_of_some _ e
  have g5 : (zmH5 s.heap l1 l2).get? (zmH4 s.heap l1 l2).objs.size = some _ := Heap.get?_push_size _ rfl
  have g4 : (zmH5 s.heap l1 l2).get? (zmH3 s.heap l1 l2).objs.size = some _ := up (Heap.get?_push_size _ rfl)
  have g3 : (zmH5 s.heap l1 l2).get? (zmH2 s.heap l1 l2).objs.size = some _ := up (up (Heap.get?_push_size _ rfl))
  have g2 : (zmH5 s.heap l1 l2).get? (zmH1 s.heap l1).objs.size = some _ := up (up (up (Heap.get?_push_size _ rfl)))
  have g1 : (zmH5 s.heap l1 l2).get? s.heap.objs.size = some _ := up (up (up (up (Heap.get?_push_size _ rfl))))
  show _ ∧ _
  rw [z2, z3, z4] at g5
  rw [z1, z2] at g3
  rw [z3] at g4
  rw [z1] at g2
  rw [z4]
  exact ⟨⟨_, g5, rfl⟩, h _ g5 g3 g4 ⟨_, g1, rfl, rfl⟩ ⟨_, g2, rfl, rfl⟩ fun c o x => up (up (up (up (up x))))⟩
end
/-- the tuple at a and the list at b as they stand at each turn, the items in new pairs -/
def ItzM (K : PySem.W.Frag) (a b : Addr) : It :=
  ⟨fun i H => ∃ (xs ys : List V) (x y : V), SqT K H a xs ∧ SqL K H b ys ∧ xs[i]? = some x ∧ ys[i]? = some y,
    fun i H v H' => ∃ T x y, v = .ref T ∧ H T = none ∧ H' = upd H T (.tup [x, y]) ∧ (∀ xs, SqT K H a xs → xs[i]? = some x) ∧ ∀ ys, SqL K H b ys → ys[i]? = some y,
    fun i H => ∃ xs ys : List V, SqT K H a xs ∧ SqL K H b ys ∧ i ≤ xs.length ∧ i ≤ ys.length ∧ (xs.length = i ∨ ys.length = i)⟩
theorem nm2 {x p q : Nat} (h1 : x ≠ p) (h2 : x ≠ q) : x ∉ [p, q] := by simp [h1, h2]
theorem zsep {I a b : Nat} (h1 : a < I) (h2 : b < I) : ZipSep2 (I + 4) (I + 2) (I + 3) I (I + 1) [I, a] [I + 1, b] where
  TIz := Nat.ne_of_lt (by omega)
  TOz := Nat.ne_of_lt (by omega)
  TITO := Nat.ne_of_lt (by omega)
  TIi1 := Nat.ne_of_gt (by omega)
  mem1 := List.mem_cons_self ..
  zf1 := nm2 (by omega) (by omega)
  Tf1 := nm2 (by omega) (by omega)
  TIi2 := Nat.ne_of_gt (by omega)
  mem2 := List.mem_cons_self ..
  zf2 := nm2 (by omega) (by omega)
  Tf2 := nm2 (by omega) (by omega)
  sep1_2 := nm2 (by omega) (by omega)
  sep2_1 := nm2 (by omega) (by omega)
theorem turn_zipM {P : Program} {w : World} {K : PySem.W.Frag} {elts : List Expr} {kk : Nat} {tpos : Pos} {a b z TI TO i1 i2 : Addr} (D : ZipSep2 z TI TO i1 i2 [i1, a] [i2, b]) :
    Turn P w K (.Tuple elts kk tpos) (ItzM K a b) [z, TI, TO, i1, i2] z (fun i h => IsZip h z TI TO .none ∧ IsPair h TI (.ref i1) (.ref i2) ∧ (∃ x y, IsPair h TO x y) ∧ h.IsTupleIter i1 a i ∧ h.IsListIter i2 b i) where
  mem := by simp
  obj := fun i h st c hc => by
    obtain ⟨hz, hTI, ⟨x, y, hTO⟩, ⟨o1, e1, _, d1⟩, ⟨o2, e2, _, d2⟩⟩ := st
    have e' : c = z ∨ c = TI ∨ c = TO ∨ c = i1 ∨ c = i2 := by simpa using hc
    rcases e' with q | q | q | q | q
    · rw [q]; exact ⟨_, hz, fun v q => nomatch q⟩
    · rw [q]; exact ⟨_, hTI, fun v q => nomatch q⟩
    · rw [q]; exact ⟨_, hTO, fun v q => nomatch q⟩
    · rw [q]; exact ⟨o1, e1, fun v q => by rw [d1] at q; cases q⟩
    · rw [q]; exact ⟨o2, e2, fun v q => by rw [d2] at q; cases q⟩
  keep := fun i h h' st k => by
    obtain ⟨hz, hTI, ⟨x, y, hTO⟩, h1, h2⟩ := st
    exact ⟨k z (by simp) _ hz, k TI (by simp) _ hTI, ⟨x, y, k TO (by simp) _ hTO⟩, h1.at fun o q => k i1 (by simp) o q, h2.at fun o q => k i2 (by simp) o q⟩
  item := by
    intro X hP hw hK hc i pins s σ H E I hf st hg
    subst hP hw hK
    obtain ⟨hz, hTI, ⟨x0, y0, hTO⟩, h1, h2⟩ := st
    obtain ⟨xs, ys, x, y, hqx, hqy, hx, hy⟩ := hg
    obtain ⟨its, rv, p, _⟩ := I.tuple hqx
    obtain ⟨its2, rv2, p2, _⟩ := I.list hqy
    obtain ⟨u, hu, ru⟩ := rv.get hx
    obtain ⟨u2, hu2, ru2⟩ := rv2.get hy
    have hzl : z < s.heap.objs.size := Heap.lt_size hz
    have hh : X.A.in1.handled = none := I.ok.hd hc
    have ne1 : a ≠ i1 := fun e => by have := D.sep1_2; obtain ⟨o, ho, c1, _⟩ := h1; obtain ⟨o', ho', c2, _⟩ := (show s.heap.IsTuple a its.toArray from p); rw [e, ho] at ho'; cases ho'; rw [c1] at c2; exact absurd (Value.type.inj c2) (by decide)
    have ne2 : b ≠ i2 := fun e => by obtain ⟨o, ho, c1, _⟩ := h2; obtain ⟨o', ho', c2, _⟩ := p2.isList; rw [e, ho] at ho'; cases ho'; rw [c1] at c2; exact absurd (Value.type.inj c2) (by decide)
    have D1 := draws_tuple (prog := X.prog) (w := X.w) hh i1 a ne1 its.toArray
    have D2 := Draws.list (prog := X.prog) (w := X.w) hh i2 b ne2 its2.toArray
    have li : i < its.toArray.size := by have := (List.getElem?_eq_some_iff.mp hu).1; simpa using this
    have li2 : i < its2.toArray.size := by have := (List.getElem?_eq_some_iff.mp hu2).1; simpa using this
    refine wpAny_pyNext_zipD2_item D D1 D2 hz hTI hTO ⟨h1, p⟩ ⟨h2, p2.isList⟩ li li2 fun x1 x2 h' tk q1 q2 z' TO' st1 st2 hT hsz hk => ?_
    have eu : x1 = u := by rw [List.getElem?_toArray, hu] at q1; exact (Option.some.inj q1).symm
    have eu2 : x2 = u2 := by rw [List.getElem?_toArray, hu2] at q2; exact (Option.some.inj q2).symm
    subst eu eu2
    refine ⟨_, rfl, wpAny_letOwnedTupleGo_zip (s := { s with heap := h', toks := tk }) z' fun h'' z'' sb => ?_⟩
    have hT2 : h''.get? s.heap.objs.size = some { cls := .type "tuple", data := .seq #[x1, x2] } := (sb.2 _ (Nat.ne_of_gt hzl)).trans hT
    have new : ObjOk X.prog X.w (upd H s.heap.objs.size (.tup [x, y])) h'' s.heap.objs.size (.tup [x, y]) :=
      ⟨by show 2 ≤ sizeLine; decide, [x1, x2], .cons ru (.cons ru2 .nil), ⟨_, hT2, rfl, _, rfl⟩⟩
    have I1 : Inv X pins σ (upd H s.heap.objs.size (.tup [x, y])) { s with heap := h'', toks := tk } :=
      I.turnedNew (t' := tk) (ch := [z, TI, TO, i1, i2]) (fun c o hb q => (sb.2 c (fun q' => hb (by simp [q']))).trans (hk c o (fun q' => hb (by simp [q'])) (fun q' => hb (by simp [q'])) (fun q' => hb (by simp [q'])) (fun q' => hb (by simp [q'])) q)) hf (Nat.le_refl _) new
    refine ⟨.ref s.heap.objs.size, _, I1, rfl, ⟨_, x, y, rfl, I.hok.fresh (Nat.le_refl _), rfl, fun l hl => by rw [I.tuple_inj hl hqx]; exact hx, fun l hl => by rw [I.list_inj hl hqy]; exact hy⟩, ⟨z'', ?_, ⟨x1, x2, ?_⟩, ?_, ?_⟩, fun c hcm => ?_⟩
    · exact (sb.2 _ D.TIz).trans (hk _ _ D.TIz D.TITO D.TIi1 D.TIi2 hTI)
    · exact (sb.2 _ D.TOz).trans TO'
    · exact st1.1.at fun o q => (sb.2 _ (fun e => D.zi1 e.symm)).trans q
    · exact st2.1.at fun o q => (sb.2 _ (fun e => D.zi2 e.symm)).trans q
    · have hlt : c < s.heap.objs.size := by
        have e' : c = z ∨ c = TI ∨ c = TO ∨ c = i1 ∨ c = i2 := by simpa using hcm
        rcases e' with q | q | q | q | q
        · rw [q]; exact hzl
        · rw [q]; exact Heap.lt_size hTI
        · rw [q]; exact Heap.lt_size hTO
        · rw [q]; obtain ⟨_, e1, _⟩ := h1; exact Heap.lt_size e1
        · rw [q]; obtain ⟨_, e2, _⟩ := h2; exact Heap.lt_size e2
      rw [upd_ne (Nat.ne_of_lt hlt)]
      exact (hf c hcm).1
  done := by
    intro X hP hw hK hc i pins s σ H E I hf st hg
    subst hP hw hK
    obtain ⟨hz, hTI, ⟨x0, y0, hTO⟩, h1, h2⟩ := st
    obtain ⟨xs, ys, hqx, hqy, le1, le2, hend⟩ := hg
    obtain ⟨its, rv, p, _⟩ := I.tuple hqx
    obtain ⟨its2, rv2, p2, _⟩ := I.list hqy
    have l1 := rv.length
    have l2 := rv2.length
    have hh : X.A.in1.handled = none := I.ok.hd hc
    have ne1 : a ≠ i1 := fun e => by obtain ⟨o, ho, c1, _⟩ := h1; obtain ⟨o', ho', c2, _⟩ := (show s.heap.IsTuple a its.toArray from p); rw [e, ho] at ho'; cases ho'; rw [c1] at c2; exact absurd (Value.type.inj c2) (by decide)
    have ne2 : b ≠ i2 := fun e => by obtain ⟨o, ho, c1, _⟩ := h2; obtain ⟨o', ho', c2, _⟩ := p2.isList; rw [e, ho] at ho'; cases ho'; rw [c1] at c2; exact absurd (Value.type.inj c2) (by decide)
    exact wpAny_pyNext_zipD2_end D (draws_tuple hh i1 a ne1 its.toArray) (Draws.list hh i2 b ne2 its2.toArray) hz hTI hTO ⟨h1, p⟩ ⟨h2, p2.isList⟩ (by simp; omega) (by simp; omega) (by simp; omega)
      fun h' tk hk => ⟨rfl, I.turnedL (t' := tk) (ch := [z, TI, TO, i1, i2]) (fun c o hb q =>
        hk c o (fun q' => hb (by simp [q'])) (fun q' => hb (by simp [q'])) (fun q' => hb (by simp [q'])) (fun q' => hb (by simp [q'])) q) hf⟩
  self := fun A i s Q E st h => wpAny_pyIter_zip st.1 h
def iZipM (K : PySem.W.Frag) (ta : TA) : TI := fun σ H R => ta σ H fun vs H1 => ∃ a b xs ys, vs = [.ref a, .ref b] ∧ SqT K H1 a xs ∧ SqL K H1 b ys ∧ R (ItzM K a b) H1
theorem pi_zipM {X : Cx} {e e2 : Expr} {ta : TA} {p pos tpos : Pos} {elts : List Expr} {kk : Nat} (hg : Gl X "zip") (hm : X.mg "zip" = none) (ha : PA X [e, e2] ta)
    (hs : starEach [e, e2] X.env = (false, eval e X.env) :: starEach [e2] X.env := by rfl) (hpl : (backTo pos (starEach [e2] X.env)).any (·.1) = false := by rfl) :
    PI X (.Tuple elts kk tpos) (.Call (.Name "zip" p) [e, e2] [] pos) (iZipM X.K ta) := by
  refine ⟨fun pins s σ H R I h => ?_⟩
  refine Call_ (ld_blt I hg hm PyProof.Rows.boot_zip (PyProof.Rows.callWith_type1 (thn (ha.run pos pins s σ H _ I h) fun us s1 ⟨vs, H1, I1, r1, q1⟩ => ?_) hs hpl))
  obtain ⟨a, b, xs, ys, ex, hqx, hqy, q⟩ := q1
  subst ex
  cases r1 with
  | cons r rr =>
    cases rr with
    | cons r' rr =>
      cases rr
      cases r
      cases r'
      have fresh5 : ∀ c, c ∈ [s1.heap.objs.size + 4, s1.heap.objs.size + 2, s1.heap.objs.size + 3, s1.heap.objs.size, s1.heap.objs.size + 1] → FpOk X pins H1 c := fun c hcm => by
        have hle : s1.heap.objs.size ≤ c := by
          have e' : c = s1.heap.objs.size + 4 ∨ c = s1.heap.objs.size + 2 ∨ c = s1.heap.objs.size + 3 ∨ c = s1.heap.objs.size ∨ c = s1.heap.objs.size + 1 := by simpa using hcm
          rcases e' with z | z | z | z | z <;> rw [z] <;> first | exact Nat.le_add_right _ _ | exact Nat.le_refl _
        exact I1.fpOk hle (I1.hok.fresh hle)
      obtain ⟨its, rv, p1, _⟩ := I1.tuple hqx
      obtain ⟨its2, rv2, p2, _⟩ := I1.list hqy
      obtain ⟨o1, ho1, _⟩ := id p1
      refine call_zm (show s1.heap.IsTuple a its.toArray from p1) p2.isList fun h' hz hTI hTO h1 h2 hk => wpAny_pyIter_zip hz ?_
      have I2 : Inv X pins σ H1 { s1 with heap := h' } := I1.kept (t' := s1.toks) hk
      exact ⟨s1.heap.objs.size + 4, [s1.heap.objs.size + 4, s1.heap.objs.size + 2, s1.heap.objs.size + 3, s1.heap.objs.size, s1.heap.objs.size + 1], _, _, H1, rfl, I2, turn_zipM (zsep (Heap.lt_size ho1) p2.lt), ⟨hz, hTI, ⟨_, _, hTO⟩, h1, h2⟩, fresh5, q⟩
/-- .. by data -/
def qiZipM (qa : DTA) : DTI := fun DW p M R => qa DW p M fun ds M1 => match ds with
  | [x, y] => match tupAt x, lstAt M1 y with
    | some es, some (fs, Sty) => R (zipD es fs) Sty M1
    | _, _ => False
  | _ => False
section
variable {X : Cx} {W : WX} {e e2 : Expr} {ta : TA} {qa : DTA} {p pos tpos : Pos} {elts : List Expr} {kk : Nat}
theorem qi_zipM (hg : Gl X "zip") (hm : X.mg "zip" = none) (ha : QA X W [e, e2] ta qa)
    (hs : starEach [e, e2] X.env = (false, eval e X.env) :: starEach [e2] X.env := by rfl) (hpl : (backTo pos (starEach [e2] X.env)).any (·.1) = false := by rfl) :
    QI X W (.Tuple elts kk tpos) (.Call (.Name "zip" p) [e, e2] [] pos) (iZipM X.K ta) (qiZipM qa) :=
  ⟨pi_zipM hg hm ha.pe hs hpl, fun DW G H p M s R R' hw S h k => ha.rf DW G H p M s _ _ hw S h fun G1 H1 M1 ds vs e1 S1 r1 h1 => by
    unfold qiZipM at h
    split at h1
    · next x y =>
      obtain ⟨v, u, rfl, r2, r3⟩ := repL2 r1
      split at h1
      · next es fs Sty el1 el2 =>
        obtain ⟨a, us, rfl, c1, c2, len1⟩ := tupAt_of r2 el1
        obtain ⟨hst, b, rfl, len2, lk⟩ := lstAt_of S1 r3 el2
        obtain ⟨ws, w1, _⟩ := lk G1 H1 p M1 s (Same.refl _) S1 hst
        refine ⟨a, b, us, ws, rfl, same_t S1.same c1, w1, k G1 H1 M1 _ _ _ e1 S1 ⟨fun G' H p M s i e S st hi => ?_, fun G' H p M s i x H' e S st y d hd => ?_, fun G' H p M s e S st => ?_⟩ (by rw [zipD_length]; omega) h1⟩
        · obtain ⟨ws, d1, d2⟩ := lk G' H p M s e S st
          rw [zipD_length] at hi
          obtain ⟨x, hx⟩ := get_lt (xs := us) (i := i) (by rw [c2.length]; omega)
          obtain ⟨y, hy⟩ := get_lt (xs := ws) (i := i) (by rw [d2.length]; omega)
          exact ⟨us, ws, x, y, same_t (e.trans S.same) c1, d1, hx, hy⟩
        · obtain ⟨ws, d1, d2⟩ := lk G' H p M s e S st
          obtain ⟨T, x', y', rfl, hT, rfl, y1, y2⟩ := y
          rw [zipD_get] at hd
          split at hd
          · next d' d'' ed1 ed2 =>
            cases hd
            obtain ⟨w, w1, w2⟩ := c2.get ed1
            rw [y1 us (same_t (e.trans S.same) c1)] at w1; cases w1
            obtain ⟨w, w1, w3⟩ := d2.get ed2
            rw [y2 ws d1] at w1; cases w1
            obtain ⟨e2, S2⟩ := S.made (o := .tup [x', y']) hT
            exact ⟨_, e2, S2, T, _, rfl, upd_same, RepL.mono e2 _ _ (RepL.cons (Rep.mono e _ _ w2) (RepL.cons w3 rfl)), sz1000 (by simp)⟩
          · cases hd
        · obtain ⟨ws, d1, d2⟩ := lk G' H p M s e S st
          refine ⟨us, ws, same_t (e.trans S.same) c1, d1, ?_⟩
          rw [zipD_length, c2.length, d2.length]; omega
      · exact h1.elim
    · exact h1.elim⟩
end
end DL

set_option maxHeartbeats 4000000
/-! DLG: a tuple times a whole number. -/
namespace DL
open PySem PySem.Spec PyProof.Rows L2
theorem tuple_mul1 (l : Addr) (items : Array Value) (n : Nat) (dd : Option Addr) (sl : Array (Option Value)) (u : Tok) :
    Meets (Builtin.«tuple.__mul__» ⟨[.ref l, .int 1 u], []⟩) (fun _ R s => s.heap.get? l = some { cls := .type "tuple", dict := dd, data := .seq items n, slots := sl } ∧ R (.ok (.ret (Value.ref l))) s) :=
  .of_wp fun prog w A R s h => by
    obtain ⟨hp, g, d, tk, os⟩ := s
    obtain ⟨hl, h⟩ := h
    have f1 := AutoSeq1.idx_int
    wp_walk using wpAny_loadPart' hl
    repeat (first
      | (refine wpAny_ite_false (decide_eq_false (by decide)) ?_; wp_walk using wpAny_loadPart' hl)
      | (refine wpAny_ite_true (decide_eq_true (by simp)) ?_; wp_walk using wpAny_loadPart' hl))
    exact ⟨_, rfl, h⟩
theorem tuple_mul0 (l : Addr) (items : Array Value) (n : Nat) (dd : Option Addr) (sl : Array (Option Value)) (u : Tok) (hi : items.isEmpty = false) :
    Meets (Builtin.«tuple.__mul__» ⟨[.ref l, .int 0 u], []⟩) (fun _ R s => s.heap.get? l = some { cls := .type "tuple", dict := dd, data := .seq items n, slots := sl } ∧
      R (.ok (.ret (Value.ref s.heap.objs.size))) { s with heap := s.heap.push { cls := Value.type "tuple", data := Data.seq #[] }, toks := s.toks }) :=
  .of_wp fun prog w A R s h => by
    obtain ⟨hp, g, d, tk, os⟩ := s
    obtain ⟨hl, h⟩ := h
    have f1 := AutoSeq1.idx_int
    wp_walk using wpAny_loadPart' hl
    repeat (first
      | (refine wpAny_ite_false (decide_eq_false (by decide)) ?_; wp_walk using wpAny_loadPart' hl)
      | (refine wpAny_ite_false (decide_eq_false (by rw [hi]; decide)) ?_; wp_walk using wpAny_loadPart' hl)
      | (refine wpAny_ite_true (decide_eq_true (by rw [hi]; decide)) ?_; wp_walk using wpAny_loadPart' hl)
      | (refine wpAny_ite_true (decide_eq_true (by simp)) ?_; wp_walk using wpAny_loadPart' hl)
      | (refine wpAny_ite_false (decide_eq_false (by simp)) ?_; wp_walk using wpAny_loadPart' hl))
    exact ⟨_, rfl, h⟩
def rRep01 (K : PySem.W.Frag) : R2 := fun x y H Q => ∃ l k xs, x = .ref l ∧ y = .int k ∧ SqT K H l xs ∧ xs ≠ [] ∧ (k = 1 ∧ Q (.ref l) H ∨ k = 0 ∧ ∀ p, H p = none → Q (.ref p) (upd H p (.tup [])))
theorem op_rep01 {X : Cx} : OpR X (binaryOp .Mult) (rRep01 X.K) := by
  intro pins s σ H x y v u Q I rx ry h
  obtain ⟨l, k, xs, rfl, rfl, hT, hne, q⟩ := h
  cases rx
  obtain ⟨t, rfl⟩ := ry
  obtain ⟨its, r, ⟨⟨cls, dd, data, sl⟩, ho, hc, n, hd⟩, hs⟩ := I.tuple hT
  simp only at hc hd
  subst hc hd
  have hn : its ≠ [] := fun e => hne (by
    have hle : its.length = xs.length := r.length.symm
    rw [e] at hle
    exact List.eq_nil_of_length_eq_zero hle.symm)
  have hi : its.toArray.isEmpty = false := by
    cases its with
    | nil => exact absurd rfl hn
    | cons a b => rfl
  refine wpAny_binaryOp_repeat_ref (T := "tuple") (U := "int") (by decide) ⟨_, ho, rfl⟩ (fun s' => typeIs_int s' k t) noFill_tuple_mul F.fills_int_mul F.slot_int_rmul repeat_tuple F.slot_int_index.lookup
    (call_meets F.slot_int_rmul (typeIs_int s k t) F.entry_int_rmul (F.args_int_rmul_2 _ _) (int_rmul_tuple k t l its.toArray n dd sl) ⟨ho, rfl, ⟨_, ho, rfl⟩, ?_⟩)
  rcases q with ⟨rfl, q⟩ | ⟨rfl, q⟩
  · exact call_meets F.slot_tuple_mul ⟨_, ho, rfl⟩ F.entry_tuple_mul (F.args_tuple_mul_2 _ _) (tuple_mul1 l its.toArray n dd sl t) ⟨ho, ⟨.ref l, H, I, rfl, q⟩⟩
  · refine call_meets F.slot_tuple_mul ⟨_, ho, rfl⟩ F.entry_tuple_mul (F.args_tuple_mul_2 _ _) (tuple_mul0 l its.toArray n dd sl t hi) ⟨ho, ?_⟩
    refine ⟨.ref s.heap.objs.size, _, I.laid (t' := s.toks) (o := .tup []) (fun b ob q => Heap.get?_push_of_some _ q) (Nat.le_refl _) ?_, rfl, q _ (I.hok.fresh (Nat.le_refl _))⟩
    exact ⟨Nat.zero_le _, [], .nil, IsTup.new _ _⟩
/-- a tuple times a whole number, by data -/
def dMulT : DOp := fun x y M Q => match x, y with
  | .tup ds, .int n => ds ≠ [] ∧ 0 ≤ n ∧ n ≤ 1000 ∧ ds.length ≤ 1000 ∧ Q (.tup (List.replicate n.toNat ds).flatten) M
  | _, _ => False
theorem o_mulT {X : Cx} : QOp X (binaryOp .Mult) (fun x y H Q => rRepT X.K x y H Q ∨ rRep01 X.K x y H Q) dMulT := ⟨OpR.or op_repT op_rep01, fun G H p M s x y v u Q Q' S r1 r2 h k => by
  unfold dMulT at h
  split at h
  · next ds n =>
    cases r2
    obtain ⟨a, vs, rfl, g1, g2, g3⟩ := r1
    obtain ⟨h0, h1, h2, h3, h4⟩ := h
    have l1 := g2.length
    have hv : vs ≠ [] := fun e => h0 (by rw [e] at l1; exact List.eq_nil_of_length_eq_zero l1.symm)
    have hT : SqT X.K H a vs := .inl (.inl (S.same _ _ g1))
    by_cases n1 : n = 1
    · subst n1
      refine .inr ⟨a, 1, vs, rfl, rfl, hT, hv, .inl ⟨rfl, ?_⟩⟩
      refine k G H M (.tup (List.replicate (1 : Int).toNat ds).flatten) _ (Same.refl _) S ?_ h4
      refine ⟨a, vs, rfl, g1, ?_, g3⟩
      show RepL X.K G (ds ++ []) vs
      rw [List.append_nil]; exact g2
    · by_cases n0 : n = 0
      · subst n0
        refine .inr ⟨a, 0, vs, rfl, rfl, hT, hv, .inr ⟨rfl, fun q hq => ?_⟩⟩
        obtain ⟨e2, S2⟩ := S.made (o := .tup []) hq
        exact k _ _ M (.tup []) _ e2 S2 ⟨q, [], rfl, upd_same, rfl, Nat.zero_le _⟩ h4
      · refine .inl ⟨a, n, vs, rfl, rfl, hT, hv, by omega, h2, by rw [l1]; exact h3, fun q hq => ?_⟩
        obtain ⟨e2, S2⟩ := S.made (o := .tup (List.replicate n.toNat vs).flatten) hq
        refine k _ _ M (.tup (List.replicate n.toNat ds).flatten) _ e2 S2 ⟨q, _, rfl, upd_same, RepL.mono e2 _ _ (repL_rep g2 _), ?_⟩ h4
        rw [rep_flat_len, l1, hz24]
        have : ds.length * n.toNat ≤ 1000 * 1000 := Nat.mul_le_mul h3 (by omega)
        omega
  · exact h.elim⟩
end DL

set_option maxHeartbeats 2000000
/-! DLH: == and != of instances by an own __eq__. -/
namespace DL
open PySem PySem.Spec PyProof.Rows L2
section
variable {prog : Program} {w : World} {A : Around} {E : Value → Shared → Prop} {s : Shared} {K : PySem.W.Frag} {x C f : Addr} {ox : Obj} {od : Option Obj} {b : Value}
theorem ifBound_objNe {M : Model} {args : List Value} {Q : Option Value → Shared → Prop} (X : K.In s.heap) (I : PySem.W.InstAt s.heap x ox C od) (hs : PySem.W.findIn K (.ref C) "__ne__" = some (some (.builtin "object.__ne__")))
    (h : wpAny M A (call (.builtin "object.__ne__") (.ref x :: args)) (fun v => Q (some v)) E s) : wpAny M A (callSpecialIfBound? (.ref x) "__ne__" args) Q E s := by
  simp only [callSpecialIfBound?, bindSpecialIfBound?]
  refine wpAny_holding (wpAny_bind (wpAny_bind (wpAny_bind (I.type.here ((PySem.W.looks_findIn X hs).here ?_)))))
  refine wpAny_bind (wpAny_askSetting (wpAny_ite ?_))
  have fin : wpAny M A (call (.builtin "object.__ne__") ([.ref x] ++ args) >>= fun v => pure (some v)) Q E s := wpAny_bind (wpAny_mono h (fun v s' h' => wpAny_pure h') fun _ _ h' => h')
  split
  · exact wpAny_bind (wpAny_of_eq (F.cmp_object.ne.bind _) (wpAny_pure (by exact fin)))
  · exact wpAny_tryCatch (wpAny_bind (wpAny_of_eq (F.cmp_object.ne.bind _) (wpAny_pure (by exact fin))))
theorem entry_ne {Q : Fin → Shared → Prop} (X : K.In s.heap) (I : PySem.W.InstAt s.heap x ox C od) (hs : PySem.W.findIn K (.ref C) "__eq__" = some (some (.ref f))) (hf : PySem.W.isFn K (.ref f) = true) (hu : A.units < cLine)
    (h : wpAny (model prog w) A (call (.ref f) [.ref x, b]) (fun v s' => ∃ r, v = .bool r ∧ Q (.done (.ret (.bool (!r)))) s') E s) : wpAny (model prog w) A (Builtin.«object.__ne__» ⟨[.ref x, b], []⟩) Q E s := by
  unfold Builtin.«object.__ne__»
  repeat (first
    | with_reducible refine wpAny_cRoomFor hu ?_
    | with_reducible refine PySem.W.ifBound_K X I hs hf (wpAny_mono h (fun v s' hv => ?_) fun _ _ e => e)
    | wp_step)
  obtain ⟨r, rfl, q⟩ := hv
  exact wpAny_bind (wpAny_truthy_bool (wpAny_pure q))
theorem call_ne {Q : Value → Shared → Prop} (X : K.In s.heap) (I : PySem.W.InstAt s.heap x ox C od) (hm : PySem.W.mroIn K C (.type "object") = some true) (hs : PySem.W.findIn K (.ref C) "__eq__" = some (some (.ref f))) (hf : PySem.W.isFn K (.ref f) = true) (hu : A.in1.units < cLine)
    (h : wpAny (model prog w) A.in1 (call (.ref f) [.ref x, b]) (fun v s' => ∃ r, v = .bool r ∧ Q (.bool (!r)) s') E s) : wpAny (model prog w) A (call (.builtin "object.__ne__") [.ref x, b]) Q E s :=
  wpAny_call (codeAny_call_builtin F.cmp_object.ne.plain F.cmpEntry_ne (PySem.W.check_slot F.cmpKind_ne F.cmpSplit_ne (I.type.andThen (PySem.W.looks_mroIn X hm)) (F.cmpArgs_ne _ _) (entry_ne X I hs hf hu h)))
theorem ne_K {h₀ : Heap} {L : Addr} {m : Str → Option Value} {tb : Value} {Q : Value → Shared → Prop} (hu : A.units + 1 < cLine) (F : Fr h₀ L s.heap m) (X₀ : K.In h₀) (I : PySem.W.InstAt s.heap x ox C od) (hb : PySem.W.Looks (model prog w) s.heap (typeOf b) tb) (hn : PySem.W.notFirst K C tb = true)
    (hm : PySem.W.mroIn K C (.type "object") = some true) (hne : PySem.W.findIn K (.ref C) "__ne__" = some (some (.builtin "object.__ne__"))) (hs : PySem.W.findIn K (.ref C) "__eq__" = some (some (.ref f))) (hf : PySem.W.isFn K (.ref f) = true)
    (h : wpAny (model prog w) A.in1 (call (.ref f) [.ref x, b]) (fun v s' => ∃ r, v = .bool r ∧ Q (.bool (!r)) s') E s) : wpAny (model prog w) A (richCompare .NotEq (.ref x) b) Q E s := by
  have X := X₀.keeps F.keep
  have hu0 : A.units < cLine := Nat.lt_of_succ_lt hu
  have one : wpAny (model prog w) A (tryCompare (.ref x) "__ne__" b) (fun r s' => ∃ v, r = some v ∧ Q v s') E s := by
    unfold tryCompare
    refine wpAny_bind (ifBound_objNe X I hne (call_ne X I hm hs hf hu (wpAny_mono h (fun v s' hv => ?_) fun _ _ e => e)))
    obtain ⟨r, rfl, q⟩ := hv
    exact ⟨r, rfl, wpAny_pure ⟨_, rfl, q⟩⟩
  unfold richCompare
  simp only [oneThing_ref]
  refine wpAny_holding (wpAny_bind (wpAny_cRoomFor hu0 ?_))
  refine wpAny_bind (I.type.here (wpAny_bind (hb.here ?_)))
  split
  · rename_i q
    have e : PySem.W.subIn K tb (.ref C) = some false := by
      rcases Bool.or_eq_true_iff.mp hn with e | e
      · rw [beq_iff_eq.mp e] at q; simp at q
      · exact beq_iff_eq.mp e
    refine wpAny_bind ((PySem.W.looks_subIn X e).here ?_)
    simp only [Bool.false_eq_true, if_false]
    refine wpAny_bind (wpAny_mono one (fun r s' z => ?_) fun _ _ e => e)
    obtain ⟨v, rfl, hq⟩ := z
    exact wpAny_pure hq
  · refine wpAny_bind (wpAny_pure ?_)
    simp only [Bool.false_eq_true, if_false]
    refine wpAny_bind (wpAny_mono one (fun r s' z => ?_) fun _ _ e => e)
    obtain ⟨v, rfl, hq⟩ := z
    exact wpAny_pure hq
end
/-! ### as operators -/
def rOwn (neg : Bool) (C : Addr) (sp : Sp) : R2 := fun x y H Q => ∃ a b dx dy fs gs, x = .ref a ∧ y = .ref b ∧ H a = some (.ins C dx fs) ∧ H b = some (.ins C dy gs) ∧ sp [.ref a, .ref b] H (fun v H' => ∃ r, v = .bl r ∧ Q (.bl (xor neg r)) H') fun _ _ _ => False
section
variable {X : Cx} {C f : Addr} {fd : FuncData} {ps : List Str} {k : Nat} {sp : Sp}
/-- the own __eq__ runs -/
theorem run_eq {A : Around} {pins : List (Addr × Obj)} {σ : L2.St} {H : Hp} {s : Shared} {a b : Addr} {Q : VK} (F : FnOk X.prog X.w X.K X.mg X.base (L2.CX X.prog X.w) k f fd ps sp) (hb : L2.Binds X.K fd ps []) (hr : Room k A) (fr : A.frames = X.A.frames) (I : Inv X pins σ H s)
    (h : sp [.ref a, .ref b] H (fun v H' => ∃ r, v = .bl r ∧ Q (.bl r) H') fun _ _ _ => False) :
    wpAny (model X.prog X.w) A (call (.ref f) [.ref a, .ref b]) (fun v s' => ∃ r H', v = .bool r ∧ Inv X pins σ H' s' ∧ Q (.bl r) H') X.xe s := by
  have hl := F.len _ _ _ _ h
  have e0 : Env0 X.prog X.w X.K X.mg X.base A X.stack s H := by
    have e := I.env0
    exact ⟨by rw [fr]; exact e.frames, e.mod, e.bs, e.bsz, e.funs, e.frf, e.hok, e.bare⟩
  have r2 : Vals [V.ref a, V.ref b] [Value.ref a, Value.ref b] := .cons rfl (.cons rfl .nil)
  refine wpAny_call (codeAny_mono (F.run A X.stack s H ⟨[.ref a, .ref b], []⟩ [.ref a, .ref b] [.ref a, .ref b] _ _ hr e0 (by
    have := hb s [.ref a, .ref b] I.kIn (by simpa using hl)
    simpa using this) r2 h) fun r s' hq => ?_)
  cases r with
  | error e => exact passL pins σ H s e s' I hq
  | ok fl =>
    cases fl with
    | ret w =>
      obtain ⟨z, H', I', rz, r, ez, ex⟩ := I.after hq
      subst ez
      cases rz
      exact ⟨r, H', rfl, I', ex⟩
    | next => exact False.elim hq
    | brk => exact False.elim hq
    | cont => exact False.elim hq
theorem op_own_eq (F : FnOk X.prog X.w X.K X.mg X.base (L2.CX X.prog X.w) k f fd ps sp) (hm : Meth X.K C "__eq__" f) (hb : L2.Binds X.K fd ps []) (hr : Room k X.A) : OpR X (compareOp .Eq) (rOwn false C sp) := by
  intro pins s σ H x y v u Q I rx ry h
  obtain ⟨a, b, dx, dy, fs, gs, rfl, rfl, ha, hb', hq⟩ := h
  cases rx
  cases ry
  obtain ⟨mA, J, _⟩ := ins_get I.hok ha
  obtain ⟨mB, J', _⟩ := ins_get I.hok hb'
  obtain ⟨od, J, _⟩ := J.look
  obtain ⟨od', J', _⟩ := J'.look
  obtain ⟨m, hF⟩ := I.fr
  show wpAny (model X.prog X.w) X.A (richCompare .Eq (.ref a) (.ref b)) (EP X pins σ Q) X.xe s
  refine PySem.W.cmp_K (op := .Eq) (tb := .ref C) hr.units0 hF I.ok.mod.kin J J'.type (by simp [PySem.W.notFirst]) hm.at_ hm.fn ?_
  refine wpAny_mono (run_eq F hb hr rfl I (Q := fun v H' => ∃ r, v = .bl r ∧ Q (.bl (xor false r)) H') (by
    have e : (fun (v : V) (H' : Hp) => ∃ r, v = .bl r ∧ ∃ r', V.bl r = .bl r' ∧ Q (.bl (xor false r')) H') = fun v H' => ∃ r, v = .bl r ∧ Q (.bl (xor false r)) H' := by
      funext v H'
      apply propext
      constructor
      · rintro ⟨r, rfl, r', e, q⟩; cases e; exact ⟨r, rfl, q⟩
      · rintro ⟨r, rfl, q⟩; exact ⟨r, rfl, r, rfl, q⟩
    rw [e]; exact hq)) (fun v s' z => ?_) fun _ _ e => e
  obtain ⟨r, H', rfl, I', r', e, q⟩ := z
  cases e
  rw [Bool.false_xor] at q
  exact ⟨.bl r, H', I', rfl, q⟩
theorem op_own_ne (F : FnOk X.prog X.w X.K X.mg X.base (L2.CX X.prog X.w) k f fd ps sp) (hm : Meth X.K C "__eq__" f) (hne : PySem.W.findIn X.K (.ref C) "__ne__" = some (some (.builtin "object.__ne__"))) (ho : PySem.W.mroIn X.K C (.type "object") = some true)
    (hb : L2.Binds X.K fd ps []) (hr : Room (k + 1) X.A) : OpR X (compareOp .NotEq) (rOwn true C sp) := by
  intro pins s σ H x y v u Q I rx ry h
  obtain ⟨a, b, dx, dy, fs, gs, rfl, rfl, ha, hb', hq⟩ := h
  cases rx
  cases ry
  obtain ⟨mA, J, _⟩ := ins_get I.hok ha
  obtain ⟨mB, J', _⟩ := ins_get I.hok hb'
  obtain ⟨od, J, _⟩ := J.look
  obtain ⟨od', J', _⟩ := J'.look
  obtain ⟨m, hF⟩ := I.fr
  have hu : X.A.units + 1 < cLine := by have := hr.un; omega
  show wpAny (model X.prog X.w) X.A (richCompare .NotEq (.ref a) (.ref b)) (EP X pins σ Q) X.xe s
  refine ne_K (tb := .ref C) hu hF I.ok.mod.kin J J'.type (by simp [PySem.W.notFirst]) ho hne hm.at_ hm.fn ?_
  have hr1 : Room k X.A.in1 := hr.in1
  refine wpAny_mono (run_eq (A := X.A.in1) F hb hr1 rfl I (Q := fun v H' => ∃ r, v = .bl r ∧ Q (.bl (xor true r)) H') (by
    have e : (fun (v : V) (H' : Hp) => ∃ r, v = .bl r ∧ ∃ r', V.bl r = .bl r' ∧ Q (.bl (xor true r')) H') = fun v H' => ∃ r, v = .bl r ∧ Q (.bl (xor true r)) H' := by
      funext v H'
      apply propext
      constructor
      · rintro ⟨r, rfl, r', e, q⟩; cases e; exact ⟨r, rfl, q⟩
      · rintro ⟨r, rfl, q⟩; exact ⟨r, rfl, r, rfl, q⟩
    rw [e]; exact hq)) (fun v s' z => ?_) fun _ _ e => e
  obtain ⟨r, H', rfl, I', r', e, q⟩ := z
  cases e
  rw [Bool.true_xor] at q
  exact ⟨r, rfl, .bl (!r), H', I', rfl, q⟩
/-- .. by data -/
def dOwn (neg : Bool) (C : Addr) (P : DSp) : DOp := fun x y M Q => (∃ ns ds ns' ds', x = .ins C ns ds ∧ y = .ins C ns' ds') ∧ P [x, y] M (fun d M' => ∃ r, d = .bl r ∧ Q (.bl (xor neg r)) M') fun _ _ => False
theorem ref_own {K : PySem.W.Frag} {neg : Bool} {P : DSp} : RefR2 K (rOwn neg C (toSp K P)) (dOwn neg C P) := fun G H p M s x y v u Q Q' S r1 r2 ⟨⟨ns, ds, ns', ds', e1, e2⟩, h⟩ k => by
  subst e1 e2
  have rl : RepL K G [.ins C ns ds, .ins C ns' ds'] [v, u] := RepL.cons r1 (RepL.cons r2 rfl)
  obtain ⟨a, dx, fs, rfl, g1, _, _⟩ := r1
  obtain ⟨b, dy, gs, rfl, g2, _, _⟩ := r2
  refine ⟨a, b, dx, dy, fs, gs, rfl, rfl, S.same _ _ g1, S.same _ _ g2, ?_⟩
  refine ⟨G, _, M, _, _, S.same, rl, S.mem, h, fun G' H' v d M' e1 e2 r hm ⟨t, ed, q⟩ => ?_, fun _ _ _ _ _ _ _ _ _ _ z => z⟩
  subst ed
  cases r
  refine ⟨t, rfl, ?_⟩
  have S' : Sim K G' H' p M' s := ⟨e2, fun i d hd => by
    obtain ⟨v, h1, h2⟩ := S.env i d hd
    exact ⟨v, h1, Rep.mono e1 _ _ h2⟩, S.len, hm⟩
  exact k G' H' M' (.bl (xor neg t)) _ e1 S' rfl q
theorem o_ownEq {P : DSp} (F : FnOk X.prog X.w X.K X.mg X.base (L2.CX X.prog X.w) k f fd ps (toSp X.K P)) (hm : Meth X.K C "__eq__" f) (hb : L2.Binds X.K fd ps []) (hr : Room k X.A) : QOp X (compareOp .Eq) (rOwn false C (toSp X.K P)) (dOwn false C P) := ⟨op_own_eq F hm hb hr, ref_own⟩
theorem o_ownNe {P : DSp} (F : FnOk X.prog X.w X.K X.mg X.base (L2.CX X.prog X.w) k f fd ps (toSp X.K P)) (hm : Meth X.K C "__eq__" f) (hne : PySem.W.findIn X.K (.ref C) "__ne__" = some (some (.builtin "object.__ne__"))) (ho : PySem.W.mroIn X.K C (.type "object") = some true)
    (hb : L2.Binds X.K fd ps []) (hr : Room (k + 1) X.A) : QOp X (compareOp .NotEq) (rOwn true C (toSp X.K P)) (dOwn true C P) := ⟨op_own_ne F hm hne ho hb hr, ref_own⟩
end
end DL

/-! DLI: x -= n. -/
namespace DL
open PySem L2
/-- x -= n -/
def dAugS : DOp := fun x y M Q => match x, y with
  | .int i, .int j => Q (.int (i - j)) M
  | _, _ => False
theorem ref_augS {K : PySem.W.Frag} : RefR2 K (ipI fun i j => i - j) dAugS := fun G H p M s x y v u Q Q' S r1 r2 h k => by
  unfold dAugS at h
  split at h
  · next i j => cases r1; cases r2; exact ⟨i, j, rfl, rfl, k G H M (.int (i - j)) _ (Same.refl _) S rfl h⟩
  · exact h.elim
section
variable {X : Cx} {W : WX} {pos : Pos}
theorem qs_augSN (i : Nat) {x : Str} {e : Expr} {te : TE} {qe : DTE} {pos' : Pos} (hN : X.N.Nodup) (he : QE X W e te qe) (hi : X.N[i]? = some x := by rfl) (hx : Loc X.env.scope x := by first | exact .inl rfl | exact .inr rfl)
    (hf : X.fn x = true ∨ X.env.scope.names.lookup x = some .local := by first | exact .inl rfl | exact .inr rfl) : QS X W (.AugAssign (.Name x pos') .Sub e pos) (tAug i te (ipI fun i j => i - j)) (qAug i qe dAugS) :=
  qs_augX (ps_aug hN hi hx he.pe ip_sub hf) he.rf ref_augS
end
end DL

/-! DMa: tuple(list) whose object is known; dict(pairs). -/
namespace DL
open PySem L2

/-! ### tuple(x): the tuple's very object is known -/
section
variable {X : Cx}
def rTupX (K : PySem.W.Frag) : List V → Hp → VK → Prop := fun xs H Q => ∃ p ys, xs = [.ref p] ∧ ((SqL K H p ys ∧ ∀ l o, o.dict = none → H l = none → Q (.ref l) (upd H l (.frz o (.tup ys)))) ∨ (SqT K H p ys ∧ Q (.ref p) H))
theorem call_tupleX : CallR X (.type "tuple") (rTupX X.K) := by
  intro pins s σ H xs us Q I r h
  obtain ⟨p, ys, rfl, h⟩ := h
  obtain ⟨u, rfl, rx⟩ := vals1 r
  cases rx
  rcases h with ⟨hq, q⟩ | ⟨hq, q⟩
  · obtain ⟨its, r', pl, hz⟩ := I.list hq
    have hlen := r'.length
    refine call_tuple_list pl.isList (fun h' kp => ?_) (by simp only [List.size_toArray] <;> omega)
    have I1 : Inv X pins σ H { s with heap := h' } := I.kept (t' := s.toks) kp
    have I2 : Inv X pins σ (upd H h'.objs.size (.frz { cls := .type "tuple", data := .seq its.toArray } (.tup ys))) { s with heap := h'.push { cls := .type "tuple", data := .seq its.toArray } } :=
      I1.laid (t' := s.toks) (fun b o e => Heap.get?_push_of_some _ e) (Nat.le_refl _) (show ObjOk X.prog X.w _ _ _ (.frz _ (.tup ys)) from ⟨Heap.get?_push_size _ rfl, hz, its, r', _, Heap.get?_push_size _ rfl, rfl, _, rfl⟩)
    exact ⟨.ref h'.objs.size, _, I2, rfl, q _ _ rfl (I1.hok.fresh (Nat.le_refl _))⟩
  · obtain ⟨its, r', pl, hz⟩ := I.tuple hq
    exact call_tuple_same pl ⟨.ref p, H, I, rfl, q⟩
end
def dTupX : DCa := fun ds M Q => match ds with
  | [.tup es] => Q (.tup es) M
  | [.xtp es] => Q (.xtp es) M
  | [x] => match res M x with
    | .lst es => Q (.xtp es) M
    | _ => False
  | _ => False
theorem c_tupleX {X : Cx} : QCa X (.type "tuple") (rTupX X.K) dTupX := ⟨call_tupleX, fun G H p M s ds vs Q Q' S r h k => by
  unfold dTupX at h
  split at h
  · next es =>
    obtain ⟨v, rfl, r1⟩ := repL1 r
    obtain ⟨a, us, rfl, g1, g2, g3⟩ := r1
    exact ⟨a, us, rfl, .inr ⟨.inl (.inl (S.same _ _ g1)), k G H M (.tup es) _ (Same.refl _) S ⟨a, us, rfl, g1, g2, g3⟩ h⟩⟩
  · next es =>
    obtain ⟨v, rfl, r1⟩ := repL1 r
    obtain ⟨a, o, us, rfl, g1, g0, g2, g3⟩ := r1
    exact ⟨a, us, rfl, .inr ⟨.inl (.inr ⟨o, S.same _ _ g1⟩), k G H M (.xtp es) _ (Same.refl _) S ⟨a, o, us, rfl, g1, g0, g2, g3⟩ h⟩⟩
  · next x _ _ =>
    obtain ⟨v, rfl, r1⟩ := repL1 r
    split at h
    · next es e1 =>
      obtain ⟨a, us, rfl, g1, g2, g3⟩ := as_lst S r1 e1
      refine ⟨a, us, rfl, .inl ⟨.inl (.inl g1), fun q o ho hq => ?_⟩⟩
      obtain ⟨e, S'⟩ := S.made (o := .frz o (.tup us)) hq
      exact k _ _ _ (.xtp es) _ e S' ⟨q, o, us, rfl, upd_same, ho, RepL.mono e _ _ g2, g3⟩ h
    · exact h.elim
  · exact h.elim⟩

/-! ### dict(x) of pairs -/
section
variable {X : Cx}
/-- what may stand as the argument: a list of pairs, or a tuple of them whose object is known -/
def rDictP (K : PySem.W.Frag) : List V → Hp → VK → Prop := fun xs H Q => ∃ (a : Addr) (ps : List Addr) (kvs : List (Key × V)), xs = [.ref a] ∧ (SqL K H a (ps.map V.ref) ∨ ∃ o, H a = some (.frz o (.tup (ps.map V.ref))) ∧ o.dict = none) ∧
  Paired (fun p kv => SqT K H p [kV kv.1, kv.2]) ps kvs ∧ kvs.length ≤ sizeLine ∧ ∀ p, H p = none → Q (.ref p) (upd H p (.dK (mergeK [] kvs)))
theorem call_dictPX (hcalm : X.calm = true) : CallR X (.type "dict") (rDictP X.K) := by
  intro pins s σ H xs us Q I r h
  obtain ⟨a, ps, kvs, rfl, hq, hp, hl, q⟩ := h
  obtain ⟨u, rfl, rx⟩ := vals1 r
  cases rx
  obtain ⟨prs, vps, rel, l1, l2, hv⟩ := pairs_vals I hp
  have hm : prs.length = kvs.length := rel.length.symm
  have PI : PairItems s.heap (ps.map Value.ref).toArray (fun j => ps.getD j 0) vps := ⟨by simp [l2], fun j k v e => by
    obtain ⟨t, q2, e1, e2, _, _⟩ := hv j k v e
    have e3 : ps.getD j 0 = t := by simp [List.getD, e1]
    exact ⟨by simp [e1, e3], by show PairAt s.heap (ps.getD j 0) k v; rw [e3]; exact .inl e2⟩⟩
  have hc : PairsHave (mixKind X.prog X.w) vps.length (PairRel vps) prs := ⟨by omega, fun i k v e => by
    obtain ⟨t, q2, _, _, e3, e4⟩ := hv i k v e
    exact ⟨q2, e3, e4⟩⟩
  have fin : ∀ h' tk, h'.DictOf (mixKind X.prog X.w) s.heap.objs.size (merged [] prs) → (∀ b o, b ∉ ([] : List Addr) → s.heap.get? b = some o → h'.get? b = some o) →
      EP X pins σ Q (.ref s.heap.objs.size) { s with heap := h', toks := tk } := fun h' tk dd' hk => by
    have hm' : (s.heap.objs.size == sysModules) = false := beq_eq_false_iff_ne.mpr (Nat.ne_of_gt I.big)
    have hlen : (mergeK [] kvs).length ≤ sizeLine := Nat.le_trans (length_mergeK kvs []) (by simpa using hl)
    exact ⟨.ref s.heap.objs.size, upd H s.heap.objs.size (.dK (mergeK [] kvs)), I.laid (t' := tk) (fun b o e => hk b o (by simp) e) (Nat.le_refl _)
      (show ObjOk X.prog X.w _ _ _ (.dK (mergeK [] kvs)) from ⟨hlen, hm', merged [] prs, KV.merge rel .nil, dd'⟩), rfl, q _ (I.hok.fresh (Nat.le_refl _))⟩
  rcases hq with hq | ⟨o, ho, hd⟩
  · obtain ⟨its, rv2, pl, hz⟩ := I.list hq
    have ei := refs_at rv2
    subst ei
    obtain ⟨o, n, ho, hc', hdi, hdat⟩ := pl
    exact call_dict_pairs (knd := mixKind X.prog X.w) (kvs := prs) (PairArg.list (prog := X.prog) (w := X.w) a (ps.map Value.ref).toArray (fun j => ps.getD j 0) vps) (I.ok.hd hcalm) ⟨⟨o, n, ho, hc', hdi, hdat⟩, PI⟩ hc (by omega) fin
  · obtain ⟨e0, hz, its, rv2, ob, e1, c1, n, d1⟩ := (show ObjOk X.prog X.w H s.heap a (.frz o (.tup (ps.map V.ref))) from I.hok a _ ho)
    rw [e0] at e1
    cases e1
    have ei := refs_at rv2
    subst ei
    exact call_dict_pairs (knd := mixKind X.prog X.w) (kvs := prs) (PairArg.tuple (prog := X.prog) (w := X.w) a (ps.map Value.ref).toArray (fun j => ps.getD j 0) vps) (I.ok.hd hcalm) ⟨⟨o, n, e0, c1, hd, d1⟩, PI⟩ hc (by omega) fin
end
def dDict : DCa := fun ds M Q => match ds with
  | [.xtp es] => match pairsD es with
    | some more => more.length ≤ 100000 ∧ ∀ p, M p = none → Q (.ref p) (put M p (.dK (putAllD [] more)))
    | none => False
  | [x] => match res M x with
    | .lst es => match pairsD es with
      | some more => more.length ≤ 100000 ∧ ∀ p, M p = none → Q (.ref p) (put M p (.dK (putAllD [] more)))
      | none => False
    | _ => False
  | _ => False
theorem newD_ok {K : PySem.W.Frag} {G H : Hp} {p : Rho} {M : Mst} {s : L2.St} {a : Addr} {more : List (Key × D)} {mv : List (Key × V)} {Q : DK} {Q' : VK} (S : Sim K G H p M s) (hn : H a = none)
    (h1 : mv.map (·.1) = more.map (·.1)) (h2 : RepL K G (more.map (·.2)) (mv.map (·.2))) (h3 : ∀ q ∈ more, kOk q.1) (hl : more.length ≤ 100000) (h : ∀ p, M p = none → Q (.ref p) (put M p (.dK (putAllD [] more))))
    (k : ∀ G' H' M' d w, Same G G' → Sim K G' H' p M' s → Rep K G' d w → Q d M' → Q' w H') : Q' (.ref a) (upd H a (.dK (mergeK [] mv))) := by
  obtain ⟨z1, z2⟩ := putAll_rel (kvs := []) (kv := []) h1 h2 rfl rfl
  have l2 : mv.length = more.length := by have := congrArg List.length h1; simpa using this
  have hz := sizeLine_eq
  have := length_mergeK mv []
  refine k G _ _ (.ref a) _ (Same.refl _) (S.put (mo := .dK (putAllD [] more)) (S.same.free hn) ⟨_, upd_same, z1, z2, ?_, putAll_keys (fun _ h => by cases h) h3⟩) rfl (h a (S.mem.fresh hn))
  simp at this
  omega
theorem c_dict {X : Cx} (hc : X.calm = true) : QCa X (.type "dict") (rDictP X.K) dDict := ⟨call_dictPX hc, fun G H p M s ds vs Q Q' S r h k => by
  have hz := sizeLine_eq
  unfold dDict at h
  split at h
  · next es =>
    obtain ⟨v, rfl, r1⟩ := repL1 r
    obtain ⟨a, o, us, rfl, g1, g0, g2, g3⟩ := r1
    split at h
    · next more hm =>
      obtain ⟨hl, h⟩ := h
      obtain ⟨ps, mv, rfl, q2, q3, q4, q5⟩ := pairsD_of S.same g2 hm
      have l2 : mv.length = more.length := by have := congrArg List.length q3; simpa using this
      exact ⟨a, ps, mv, rfl, .inr ⟨o, S.same _ _ g1, g0⟩, q2, by omega, fun q hq => newD_ok S hq q3 q4 q5 hl h k⟩
    · exact h.elim
  · next x _ =>
    obtain ⟨v, rfl, r1⟩ := repL1 r
    split at h
    · next es e1 =>
      obtain ⟨a, us, rfl, g1, g2, g3⟩ := as_lst S r1 e1
      split at h
      · next more hm =>
        obtain ⟨hl, h⟩ := h
        obtain ⟨ps, mv, rfl, q2, q3, q4, q5⟩ := pairsD_of S.same g2 hm
        have l2 : mv.length = more.length := by have := congrArg List.length q3; simpa using this
        exact ⟨a, ps, mv, rfl, .inl (.inl (.inl g1)), q2, by omega, fun q hq => newD_ok S hq q3 q4 q5 hl h k⟩
      · exact h.elim
    · exact h.elim
  · exact h.elim⟩
end DL

/-! DMb: len(set(texts)). -/
namespace DL
open PySem PySem.Spec PyProof.Rows SS
/-- how many are met for the first time among the first i -/
def metS (xs : List Str) : Nat → Nat
  | 0 => 0
  | i + 1 => if (xs.take i).any (· == xs.getD i Str.empty) then metS xs i else metS xs i + 1
theorem metS_succ (xs : List Str) (i : Nat) : metS xs (i + 1) = if (xs.take i).any (· == xs.getD i Str.empty) then metS xs i else metS xs i + 1 := rfl
theorem metS_le (xs : List Str) : ∀ i, metS xs i ≤ i
  | 0 => Nat.le_refl _
  | i + 1 => by
    rw [metS_succ]
    have := metS_le xs i
    split <;> omega
theorem metS_all (xs : List Str) : ∀ i, i ≤ xs.length → (metS xs i = i ↔ (xs.take i).Nodup)
  | 0, _ => by simp [metS]
  | i + 1, hi => by
    have ih := metS_all xs i (by omega)
    have hl := metS_le xs i
    have hx : i < xs.length := by omega
    rw [metS_succ, List.take_add_one, List.getElem?_eq_getElem hx, List.getD_eq_getElem?_getD, List.getElem?_eq_getElem hx]
    simp only [Option.getD_some, Option.toList_some]
    by_cases h : (xs.take i).any (· == xs[i]) = true
    · rw [if_pos h]
      constructor
      · intro e; omega
      · intro n
        obtain ⟨y, hy, e⟩ := List.any_eq_true.mp h
        rw [beq_iff_eq] at e
        subst e
        exact absurd rfl ((List.nodup_append.mp n).2.2 _ hy _ (List.mem_singleton.mpr rfl))
    · rw [if_neg h]
      constructor
      · intro e
        refine List.nodup_append.mpr ⟨ih.mp (by omega), by simp, fun a ha b hb e => ?_⟩
        rw [List.mem_singleton] at hb
        subst hb; subst e
        exact h (List.any_eq_true.mpr ⟨_, ha, by simp⟩)
      · intro n
        have := ih.mpr (List.nodup_append.mp n).1
        omega
theorem metS_nodup (xs : List Str) : metS xs xs.length = xs.length ↔ xs.Nodup := by
  have := metS_all xs xs.length (Nat.le_refl _)
  rwa [List.take_length] at this
section
variable {prog : Program} {w : World} {A : Around} {R : Result → Shared → Prop} {I : Addr} {fp wr : List Addr} {G : Array GenState → Array GenState → Prop} {n : Nat} {P : Nat → Value → Prop} {St : Nat → Shared → Prop}
theorem loopStrN (W : WalksS prog w A.in1 I fp wr G n P St) (S : Addr) (hSf : S ∉ fp) (xs : List Str) (hsz : xs.length = n) (hn1 : n + 1 < scanBound)
    (hval : ∀ i v, P i v → ∃ t, v = .str (xs.getD i Str.empty) t) :
    ∀ (k i : Nat) (s : Shared), n - i = k → i ≤ n → St i s →
      s.heap.SetOf (PySem.strKind prog w) S (fun k' => (xs.take i).any (· == k')) (metS xs i) →
      (∀ s', Moved (S :: wr) G s s' → s'.heap.SetOf (PySem.strKind prog w) S (fun k' => (xs.take n).any (· == k')) (metS xs n) → R (.ok (.ret .none)) s') →
      codeAny (model prog w) A (.builtin "set.update.loop" ⟨[.ref S, .ref I], []⟩) R s := by
  have hSw : S ∉ wr := fun h => hSf (W.sub _ h)
  have hsub : ∀ b ∈ wr, b ∈ S :: wr := fun b hb => List.mem_cons_of_mem _ hb
  intro k
  induction k with
  | zero =>
    intro i s hk hi hst hS hR
    have hin : i = n := by omega
    subst hin
    refine codeAny_builtin PyProof.Rows.F.entry_set_update_loop ?_
    rw [Around.under_plainId PyProof.Rows.F.plain_set_update_loop _]
    show wpAny _ A.in1 (pyNext (.ref I) >>= _) _ _ s
    refine wpAny_bind (W.done s _ _ hst fun s' hm => ?_)
    show wpAny _ A.in1 (ret Value.none) _ _ s'
    exact wpAny_pure (hR s' (hm.mono hsub) (by
      obtain ⟨o, es, ep, t, ho, rest⟩ := hS
      exact ⟨o, es, ep, t, hm.heap S _ hSw ho, rest⟩))
  | succ k ih =>
    intro i s hk hi hst hS hR
    have hlt : i < n := by omega
    refine codeAny_builtin PyProof.Rows.F.entry_set_update_loop ?_
    rw [Around.under_plainId PyProof.Rows.F.plain_set_update_loop _]
    show wpAny _ A.in1 (pyNext (.ref I) >>= _) _ _ s
    refine wpAny_bind (W.item i s _ _ hlt hst fun v s' hP hst' hm => ?_)
    obtain ⟨t, rfl⟩ := hval i v hP
    have hS' : s'.heap.SetOf (PySem.strKind prog w) S (fun k' => (xs.take i).any (· == k')) (metS xs i) := by
      obtain ⟨o, es, ep, tb, ho, rest⟩ := hS
      exact ⟨o, es, ep, tb, hm.heap S _ hSw ho, rest⟩
    show wpAny _ A.in1 (holding [Value.str (xs.getD i Str.empty) t] (setAdd S (.str (xs.getD i Str.empty) t)) >>= _) _ _ s'
    refine wpAny_bind (wpAny_holding ?_)
    unfold setAdd
    refine wpAny_holding ?_
    refine wpAny_bind ((PySem.strKind prog w).pyHash (k := xs.getD i Str.empty) (strKind_is _ _ _ _) ?_)
    refine wpAny_setAddHashed_of (knd := PySem.strKind prog w) (s := { s' with toks := s'.toks + 1 }) (strKind_is _ _ _ _) rfl hS' (by have := metS_le xs i; unfold scanBound at *; omega) fun h' hsb hS2 => ?_
    have hSi : h'.SetOf (PySem.strKind prog w) S (fun k' => (xs.take (i + 1)).any (· == k')) (metS xs (i + 1)) := by
      have hx : i < xs.length := by omega
      refine SetOf_congr hS2 (fun k' => ?_) (by rw [metS_succ])
      rw [List.take_add_one, List.getElem?_eq_getElem hx, List.any_append, List.getD_eq_getElem?_getD, List.getElem?_eq_getElem hx]
      show ((xs.take i).any (· == k') || decide (k' = xs[i])) = ((xs.take i).any (· == k') || [xs[i]].any (· == k'))
      congr 1
      simp only [List.any_cons, List.any_nil, Bool.or_false]
      by_cases e : k' = xs[i]
      · simp [e]
      · have hb : (xs[i] == k') = false := by simpa [beq_iff_eq] using (fun h' : xs[i] = k' => e h'.symm)
        simp [hb, e]
    refine wpAny_pure ⟨plainId_quiet PyProof.Rows.F.plain_set_update_loop _, ih (i + 1) _ (by omega) hlt (W.frame _ s' _ _ hst' (Nat.le_succ _) fun b hb o e => ?_) hSi fun s'' hm'' hS'' => ?_⟩
    · rw [hsb.2 b (fun h : b = S => hSf (by rw [← h]; exact hb))]; exact e
    · refine hR s'' (Moved.trans W.gtrans ((hm.mono hsub).then_heap (Nat.le_succ _) fun b o hb e => ?_) hm'') hS''
      rw [hsb.2 b (fun h : b = S => hb (by rw [h]; exact List.mem_cons_self))]; exact e
end

section
variable {prog : Program} {w : World} {A : Around} {E : Value → Shared → Prop} {s : Shared}
set_option maxHeartbeats 3200000 in
theorem call_set_listN {l : Addr} {items : Array Value} {xs : List Str} {Q : Value → Shared → Prop}
    (hh : A.handled = none) (hl : s.heap.IsList l items) (hi : PyProof.Rows.StrsAre items.toList xs) (hn1 : xs.length + 1 < scanBound)
    (h : ∀ (h' : Heap) (tk : Nat), h'.SetOf (PySem.strKind prog w) s.heap.objs.size (fun k' => (xs.take items.size).any (· == k')) (metS xs items.size) →
      (∀ b o, b < s.heap.objs.size → s.heap.get? b = some o → h'.get? b = some o) → Q (.ref s.heap.objs.size) { s with heap := h', toks := tk }) :
    wpAny (model prog w) A (call (.type "set") [.ref l]) Q E s := by
  obtain ⟨c, tl, hmro⟩ := PySem.F.called_set.mro
  have hmade := PySem.F.called_set.made
  have hsub := PySem.F.called_set.sub
  refine wpAny_call (codeAny_of_tree ?_)
  show wpAny _ _ (callAny (.type "set") _) _ _ _
  refine wpAny_pure ⟨Code.quiet_builtin _ (by decide +kernel), codeAny_builtin PySem.F.entry_type_call ?_⟩
  rw [Around.under_plain (weight_type_call_type "set" [.ref l] []) rfl]
  have h1 := PySem.F.called_set.notType
  have h2 := PySem.F.called_set.canCreate
  have hct := PySem.F.typeCall_set_1 (.ref l)
  repeat (any_goals (first | assumption | wp_step))

  refine codeAny_mono (code_set_new_1 (.ref l) (E := E) (Q₁ := fun obj s₁ => ∃ led : Bool, obj = .ref s.heap.objs.size ∧ s₁ = { s with heap := s.heap.push { cls := .type "set", dict := none, data := .set #[] 0 (.fresh 0 0 led) } }) fun led => ⟨led, rfl, rfl⟩) fun r s₁ hr => ?_
  cases r with
  | error e => exact hr
  | ok fl =>
    cases fl with
    | ret obj =>
      obtain ⟨led, rfl, rfl⟩ := hr
      have hS : (s.heap.push { cls := .type "set", dict := none, data := .set #[] 0 (.fresh 0 0 led) }).get? s.heap.objs.size = some { cls := .type "set", dict := none, data := .set #[] 0 (.fresh 0 0 led) } := Heap.get?_push_size _ rfl
      have hT : Shared.TypeIs { s with heap := s.heap.push { cls := .type "set", dict := none, data := .set #[] 0 (.fresh 0 0 led) } } (.ref s.heap.objs.size) "set" := ⟨_, hS, rfl⟩
      have hli := PySem.F.called_set.init.lookup
      have hbi := PySem.F.called_set.init.bind (.ref s.heap.objs.size)
      repeat (any_goals (first | assumption | wp_step))

      refine codeAny_mono (codeAny_call_builtin (R := wants (fun r s₂ => r = .none ∧ ∃ h' tk, s₂ = { s with heap := h', toks := tk } ∧
          h'.SetOf (PySem.strKind prog w) s.heap.objs.size (fun k' => (xs.take items.size).any (· == k')) (metS xs items.size) ∧
          (∀ b o, b < s.heap.objs.size → s.heap.get? b = some o → h'.get? b = some o)) E) PySem.F.called_set.init.plain PySem.F.entry_set_init (check_set_init_1 hT ?_)) fun r₂ s₂ hr₂ => ?_
      · obtain ⟨ol, hol, hcl, nl, hdl⟩ := hl
        obtain ⟨ocls, odict, odata, oslots⟩ := ol
        simp only at hcl hdl
        subst hcl; subst hdl
        have hol' : (s.heap.push { cls := .type "set", dict := none, data := .set #[] 0 (.fresh 0 0 led) }).get? l = some { cls := .type "list", dict := odict, data := .seq items nl, slots := oslots } := Heap.get?_push_of_some _ hol
        have hsls := PySem.F.sub_list_set
        have hslf := PySem.F.sub_list_frozenset
        have hne : (Value.type "list" == Value.type "dict") = false := by decide
        have hl1 : (s.heap.push { cls := .type "set", dict := none, data := .set #[] 0 (.fresh 0 0 led) }).IsList l items := ⟨_, hol', rfl, nl, rfl⟩
        unfold Builtin.«set.__init__» noKeywords Builtin.Frozenset.updateFrom
        generalize hPI : pyIter = PI
        wp_walk
        subst hPI

        refine wpAny_pyIter_list hl1 ?_
        refine wpAny_bind (wpAny_runValue ?_)
        have hlS : l < s.heap.objs.size := Heap.lt_size hol
        have hh3 : A.in1.in1.in1.handled = none := by simp [hh]
        have hneI : l ≠ (s.heap.push { cls := .type "set", dict := none, data := .set #[] 0 (.fresh 0 0 led) }).objs.size := by
          rw [Heap.size_push]; exact Nat.ne_of_lt (Nat.lt_succ_of_lt hlS)
        have hSf : s.heap.objs.size ∉ [(s.heap.push { cls := .type "set", dict := none, data := .set #[] 0 (.fresh 0 0 led) }).objs.size, l] := by
          rw [Heap.size_push]; simp only [List.mem_cons, List.mem_singleton, List.not_mem_nil, or_false, not_or]
          exact ⟨Nat.ne_of_lt (Nat.lt_succ_self _), Nat.ne_of_gt hlS⟩
        have hsz : xs.length = items.size := by rw [← StrsAre.len_eq hi, Array.length_toList]
        have hval : ∀ (i : Nat) (v : Value), items[i]? = some v → ∃ t, v = .str (xs.getD i Str.empty) t := fun i v hv => SS.strs_at hi i v (by rw [Array.getElem?_toList]; exact hv)
        refine loopStrN ((Walks.list hh3 _ l hneI items).toS) s.heap.objs.size
          hSf xs hsz (by rw [← hsz]; exact hn1) hval (items.size - 0) 0 _ (by omega) (Nat.zero_le _)
          ⟨⟨_, Heap.get?_push_size _ rfl, rfl, rfl⟩, (hl1.push _)⟩ ?hS0 ?hR
        case hS0 =>
          have hget : ((s.heap.push { cls := .type "set", dict := none, data := .set #[] 0 (.fresh 0 0 led) }).push { cls := .type "list_iterator", data := .fields #[.ref l, .int 0 0] }).get? s.heap.objs.size
              = some { cls := .type "set", dict := none, data := .set #[] 0 (.fresh 0 0 led) } := Heap.get?_push_of_some _ hS
          exact PyProof.Rows.SetOf_congr ((PyProof.Rows.setObjOf_fresh (knd := PySem.strKind prog w) led).setOf hget (by unfold scanBound; omega)) (fun _ => rfl) rfl
        case hR =>
          intro s' hm hS'
          obtain ⟨h', g', d', tk', os'⟩ := s'
          have eg : g' = s.gens := hm.gens
          have ed : d' = s.drawn := hm.drawn
          have eo : os' = s.os := hm.os
          subst eg; subst ed; subst eo
          show wpAny _ _ _ _ _ _
          refine wpAny_pure ?_
          show wpAny _ _ (ret Value.none) _ _ _
          refine wpAny_pure ⟨rfl, h', tk', rfl, hS', fun b o hb e => ?_⟩
          have hb1 : b ≠ s.heap.objs.size := Nat.ne_of_lt hb
          have hb2 : b ≠ (s.heap.push { cls := .type "set", dict := none, data := .set #[] 0 (.fresh 0 0 led) }).objs.size := by
            rw [Heap.size_push]; exact Nat.ne_of_lt (Nat.lt_succ_of_lt hb)
          exact hm.heap b o (by simp only [List.mem_cons, List.mem_singleton, List.not_mem_nil, or_false, not_or]; exact ⟨hb1, hb2⟩) (Heap.get?_push_of_some _ (Heap.get?_push_of_some _ e))

      · cases r₂ with
        | error e => exact hr₂
        | ok fl₂ =>
          cases fl₂ with
          | ret r =>
            obtain ⟨rfl, h', tk, rfl, hS', hk'⟩ := hr₂
            repeat (any_goals (first | assumption | wp_step))
            exact h _ _ hS' hk'
          | _ => exact hr₂.elim
    | _ => exact hr.elim

end
end DL

namespace DL
open PySem L2 PySem.Spec PyProof.Rows
def tLenSetN (K : PySem.W.Frag) (ta : TE) : TE := fun σ H Q => ta σ H fun x H1 => ∃ l, ∃ xs : List Str, x = .ref l ∧ SqL K H1 l (xs.map V.str) ∧ xs.length ≤ 4000 ∧ Q (.int (metS xs xs.length : Nat)) H1
theorem pe_lenSetN {X : Cx} {a : Expr} {ta : TE} {p p2 q pos : Pos} (hc : X.calm = true) (hg : Gl X "len") (hm : X.mg "len" = none) (hg2 : Gl X "set") (hm2 : X.mg "set" = none) (ha : PE X a ta)
    (na : starEach [a] X.env = (false, eval a X.env) :: starEach [] X.env := by rfl) : PE X (.Call (.Name "len" p) [.Call (.Name "set" p2) [a] [] q] [] pos) (tLenSetN X.K ta) := by
  refine ⟨fun pins s σ H Q I h => ?_⟩
  refine PyProof.Rows.Call_ (ld_blt I hg hm boot_len ?_)
  refine PyProof.Rows.callWith_builtin1 (PyProof.Rows.args_cons ?_ rfl) rfl rfl
  refine PyProof.Rows.Call_ (ld_blt I hg2 hm2 boot_set ?_)
  refine PyProof.Rows.callWith_type1 (PyProof.Rows.args_cons (thn (ha.run pins s σ H _ I h) fun v s1 ⟨x, H1, I1, r1, q1⟩ => PyProof.Rows.args_nil ?_) na) na rfl
  obtain ⟨l, xs, rfl, hq, h1, q1⟩ := q1
  cases r1
  obtain ⟨its, r, pl, hz⟩ := I1.list hq
  have hl : its.toArray.size = xs.length := by rw [List.size_toArray, ← r.length, List.length_map]
  refine call_set_listN (I1.ok.hd hc) pl.isList (by simpa using strsAre_of r) (by unfold PySem.scanBound; omega) fun h' tk hS hk => ?_
  refine PyProof.Rows.args_nil ?_
  rw [hl] at hS
  obtain ⟨o, es, ep, t, ho, hex, hd, _, _, _, hf, hn⟩ := hS
  have I2 : Inv X pins σ H1 { s1 with heap := h', toks := tk } := I1.kept fun b o e => hk b o (Heap.lt_size e) e
  have hle := metS_le xs xs.length
  exact call_len_set ho hex hd hf (by rw [hn]; omega) ⟨.int (metS xs xs.length : Nat), H1, I2.tok _, ⟨_, by rw [hn]⟩, q1⟩
def qLenSet (qe : DTE) : DTE := fun DW p M Q => qe DW p M fun x M1 => match res M1 x with
  | .lst es => match strsD es with
    | some xs => xs.length ≤ 4000 ∧ Q (.int (metS xs xs.length : Nat)) M1
    | none => False
  | _ => False
theorem q_lenSet {X : Cx} {W : WX} {a : Expr} {ta : TE} {qe : DTE} {p p2 q pos : Pos} (hc : X.calm = true) (hg : Gl X "len") (hm : X.mg "len" = none) (hg2 : Gl X "set") (hm2 : X.mg "set" = none) (ha : QE X W a ta qe)
    (na : starEach [a] X.env = (false, eval a X.env) :: starEach [] X.env := by rfl) : QE X W (.Call (.Name "len" p) [.Call (.Name "set" p2) [a] [] q] [] pos) (tLenSetN X.K ta) (qLenSet qe) :=
  ⟨pe_lenSetN hc hg hm hg2 hm2 ha.pe na, fun DW G H p M s Q Q' hw S h k => ha.rf DW G H p M s _ _ hw S h fun G1 H1 M1 d v e1 S1 r1 h1 => by
    split at h1
    · next es e2 =>
      obtain ⟨a, us, rfl, g1, g2, g3⟩ := as_lst S1 r1 e2
      split at h1
      · next xs ex =>
        obtain ⟨hl, h1⟩ := h1
        have ev := strsD_of g2 ex
        subst ev
        exact ⟨a, xs, rfl, .inl (.inl g1), hl, k G1 H1 M1 (.int _) _ e1 S1 rfl h1⟩
      · exact h1.elim
    · exact h1.elim⟩
end DL
/-! ### a written tuple of the module -/
namespace DL
open PySem L2
def cvD : D → V
  | .int i => .int i
  | .str x => .str x
  | .bl b => .bl b
  | _ => .non
def constD : D → Bool
  | .int _ => true
  | .str x => decide (x.length ≤ 100000) && PyData.strOk x
  | .bl _ => true
  | .non => true
  | _ => false
theorem repL_const {K : PySem.W.Frag} {G : Hp} : ∀ {ds : List D}, ds.all constD = true → RepL K G ds (ds.map cvD)
  | [], _ => rfl
  | d :: ds, h => by
    rw [List.all_cons, Bool.and_eq_true] at h
    refine ⟨cvD d, _, rfl, ?_, repL_const h.2⟩
    cases d <;> first | exact rfl | (cases h.1; done) | skip
    have h1 := h.1
    simp only [constD, Bool.and_eq_true, decide_eq_true_eq] at h1
    exact ⟨rfl, sz1000 h1.1, h1.2⟩
structure GlT (K : PySem.W.Frag) (mg : Str → Option Value) (x : Str) (ds : List D) : Prop where
  ex : ∃ t, mg x = some (.ref t) ∧ ∀ G, Rep K G (.ktp ds) (.ref t)
theorem glT_mk {K : PySem.W.Frag} {mg : Str → Option Value} {x : Str} {t : Addr} {od : Option Addr} {its : Array Value} {n : Nat} {sl : Array (Option Value)} {ds : List D} (h1 : mg x = some (.ref t)) (h2 : K.lookup t = some ⟨.type "tuple", od, .seq its n, sl⟩)
    (h3 : Vals (ds.map cvD) its.toList) (hc : (decide (ds.length ≤ 1000) && ds.all constD) = true) : GlT K mg x ds := by
  rw [Bool.and_eq_true, decide_eq_true_eq] at hc
  have h4 : (ds.map cvD).length ≤ sizeLine := by rw [List.length_map, sizeLine_eq]; omega
  refine ⟨t, h1, fun G => ⟨t, ds.map cvD, rfl, .inr ⟨_, its, n, h2, rfl, rfl, ?_, h3⟩, repL_const hc.2, h4⟩⟩
  rw [← Array.length_toList, ← h3.length]
  exact h4
theorem q_globT {X : Cx} {W : WX} {pos : Pos} {x : Str} {ds : List D} (hg : Gl X x) (h : GlT X.K X.mg x ds) (hd : (x == ("__debug__" : Str)) = false := by decide) : ∃ t, QE X W (.Name x pos) t (qC (.ktp ds)) := by
  obtain ⟨t, h1, h2⟩ := h.ex
  exact ⟨_, q_glob (v := .ref t) hg h1 rfl h2 hd⟩
end DL

/-! PlA: plain data of any shape; comprehensions of own values; names, whole numbers, texts of a row. -/
namespace DL
open PySem L2 Tx20 Tx21
/-- plain data: texts and lengths of at most n -/
inductive Pl (n : Nat) : D → Prop
  | non : Pl n .non
  | bl (b : Bool) : Pl n (.bl b)
  | int (i : Int) : Pl n (.int i)
  | str {x : Str} (h : Tx_ n x) : Pl n (.str x)
  | tup {ds : List D} (hl : ds.length ≤ n) (h : ∀ d ∈ ds, Pl n d) : Pl n (.tup ds)
  | lst {ds : List D} (hl : ds.length ≤ n) (h : ∀ d ∈ ds, Pl n d) : Pl n (.lst ds)
theorem Pl.mono {n m : Nat} (hn : n ≤ m) {d : D} (h : Pl n d) : Pl m d := by
  induction h with
  | non => exact .non
  | bl b => exact .bl b
  | int i => exact .int i
  | str h => exact .str (h.mono hn)
  | tup hl _ ih => exact .tup (Nat.le_trans hl hn) ih
  | lst hl _ ih => exact .lst (Nat.le_trans hl hn) ih
theorem Pl.data {n : Nat} {d : D} (h : Pl n d) : isData d = true := by
  induction h with
  | non => rfl
  | bl b => rfl
  | int i => rfl
  | str h => rfl
  | tup _ _ ih => rw [isData, isDataL_all, List.all_eq_true]; exact ih
  | lst _ _ ih => rw [isData, isDataL_all, List.all_eq_true]; exact ih
theorem Pl.res {n : Nat} {d : D} {M : Mst} (h : Pl n d) : res M d = d := by cases h <;> rfl
theorem Pl.tupI {n : Nat} {ds : List D} (h : Pl n (.tup ds)) : ds.length ≤ n ∧ ∀ d ∈ ds, Pl n d := by cases h with | tup a b => exact ⟨a, b⟩
theorem Pl.lstI {n : Nat} {ds : List D} (h : Pl n (.lst ds)) : ds.length ≤ n ∧ ∀ d ∈ ds, Pl n d := by cases h with | lst a b => exact ⟨a, b⟩
theorem Pl.strI {n : Nat} {x : Str} (h : Pl n (.str x)) : Tx_ n x := by cases h with | str a => exact a
/-! ### what it is -/
def intB : D → Bool
  | .int _ => true
  | .bl _ => true
  | _ => false
def blB : D → Bool
  | .bl _ => true
  | _ => false
def strB : D → Bool
  | .str _ => true
  | _ => false
def tupB : D → Bool
  | .tup _ => true
  | _ => false
def lstB : D → Bool
  | .lst _ => true
  | _ => false
section
variable {n : Nat} {x : D} {M : Mst} {Q : DK}
theorem isi_int (h : Pl n x) : dIsi [x, .ty "int"] M Q = Q (.bl (intB x)) M := by cases h <;> simp [intB]
theorem isi_bool (h : Pl n x) : dIsi [x, .ty "bool"] M Q = Q (.bl (blB x)) M := by cases h <;> simp [blB]
theorem isi_str (h : Pl n x) : dIsi [x, .ty "str"] M Q = Q (.bl (strB x)) M := by cases h <;> simp [strB]
theorem isi_tuple (h : Pl n x) : dIsi [x, .ty "tuple"] M Q = Q (.bl (tupB x)) M := by cases h <;> simp [tupB]
theorem isi_list (h : Pl n x) : dIsi [x, .ty "list"] M Q = Q (.bl (lstB x)) M := by cases h <;> simp [lstB]
theorem tupB_iff : tupB x = true ↔ ∃ ds, x = .tup ds := by cases x <;> simp [tupB]
theorem strB_iff : strB x = true ↔ ∃ z, x = .str z := by cases x <;> simp [strB]
/-- x == () -/
def noTup : D → Bool
  | .tup [] => true
  | _ => false
theorem deq_unit : deq x (.tup []) = (match res (fun _ => none) x with | .tup [] => true | _ => false) := by
  cases x <;> first | (simp [deq, pyd, PyData.eqv, res, pydL]; done) | (rename_i ds; cases ds <;> simp [deq, pyd, pydL, PyData.eqv, PyData.eqvAll, res])
theorem eq_unit {neg : Bool} (h : Pl n x) : dEq neg x (.tup []) M Q = Q (.bl (xor neg (noTup x))) M := by
  unfold dEq
  rw [h.res, res_tup, deq_unit, h.res]
  have h1 := h.data
  have h2 : isData (.tup []) = true := rfl
  have h3 : min (dep x) (dep (.tup [])) ≤ 64 := Nat.le_trans (Nat.min_le_right _ _) (by decide)
  simp only [h1, h2, h3, true_and, noTup]
end
/-! ### written rows are short -/
section
variable {d0 d1 d2 d3 d4 d5 d6 d7 d8 d9 d10 d11 d12 d13 d14 d15 d16 d17 d18 d19 d20 d21 d22 d23 d24 : D}
theorem z_l0 : (([] : List D).length ≤ 100000) = True := by simp
theorem z_l1 : (([d0] : List D).length ≤ 100000) = True := by simp
theorem z_l2 : (([d0, d1] : List D).length ≤ 100000) = True := by simp
theorem z_l3 : (([d0, d1, d2] : List D).length ≤ 100000) = True := by simp
theorem z_l4 : (([d0, d1, d2, d3] : List D).length ≤ 100000) = True := by simp
theorem z_l5 : (([d0, d1, d2, d3, d4] : List D).length ≤ 100000) = True := by simp
theorem z_l6 : (([d0, d1, d2, d3, d4, d5] : List D).length ≤ 100000) = True := by simp
theorem z_l7 : (([d0, d1, d2, d3, d4, d5, d6] : List D).length ≤ 100000) = True := by simp
theorem z_l8 : (([d0, d1, d2, d3, d4, d5, d6, d7] : List D).length ≤ 100000) = True := by simp
theorem z_l9 : (([d0, d1, d2, d3, d4, d5, d6, d7, d8] : List D).length ≤ 100000) = True := by simp
theorem z_l19 : (([d0, d1, d2, d3, d4, d5, d6, d7, d8, d9, d10, d11, d12, d13, d14, d15, d16, d17, d18] : List D).length ≤ 100000) = True := by simp
theorem z_l24 : (([d0, d1, d2, d3, d4, d5, d6, d7, d8, d9, d10, d11, d12, d13, d14, d15, d16, d17, d18, d19, d20, d21, d22, d23] : List D).length ≤ 100000) = True := by simp
theorem z_l25 : (([d0, d1, d2, d3, d4, d5, d6, d7, d8, d9, d10, d11, d12, d13, d14, d15, d16, d17, d18, d19, d20, d21, d22, d23, d24] : List D).length ≤ 100000) = True := by simp
end
/-! ### comprehensions -/
theorem lcN {b : Nat} {te : DTE} {p : Rho} {M : Mst} {c : Addr} {ds : List D} {Q : DK} {Sty : Mst → Prop} (hc : M c = none) (hS : ∀ acc, Sty (put M c (.lst acc))) (hl : ds.length ≤ 100000) (f : D → D)
    (step : ∀ d ∈ ds, ∀ (M' : Mst) (R : DK), Sub M M' → R (f d) M' → te DW0 ((wipeD p [b]).set b (some d)) M' R) (fin : Q (.lst (ds.map f)) M) : compL false Sty (gNameD b) qYes te [b] c p Q ds (put M c (.lst [])) := by
  refine compL_map hc (fun d => some (f d)) hS hl (fun d hd acc R hR => ?_) ?_
  · simp only [gNameD, qYes, if_true]
    exact step d hd _ _ ((Sub.refl M).put hc) hR
  · simp only [Bool.false_eq_true, if_false]
    rw [List.filterMap_eq_map']; exact fin
/-- by a relation: draws -/
theorem lcR {b : Nat} {te : DTE} {p : Rho} {M : Mst} {c : Addr} {ds : List D} {Q : DK} {Sty : Mst → Prop} (hc : M c = none) (hS : ∀ acc, Sty (put M c (.lst acc))) (hl : ds.length ≤ 100000) (P : D → D → Prop)
    (step : ∀ d ∈ ds, ∀ (M' : Mst) (R : DK), Sub M M' → (∀ y, P d y → R y M') → te DW0 ((wipeD p [b]).set b (some d)) M' R) (fin : ∀ ys, All2 P ds ys → Q (.lst ys) M) : compL false Sty (gNameD b) qYes te [b] c p Q ds (put M c (.lst [])) := by
  refine compL_rel hc (fun d o => ∃ y, o = some y ∧ P d y) hS ds [] (by simpa using hl) (fun d hd acc R hR => ?_) fun os hos => ?_
  · simp only [gNameD, qYes, if_true]
    exact step d hd _ _ ((Sub.refl M).put hc) fun y hy => hR _ ⟨y, rfl, hy⟩
  · simp only [Bool.false_eq_true, if_false, List.nil_append]
    have : ∃ ys, os.filterMap id = ys ∧ All2 P ds ys := by
      clear fin step hl hS
      induction hos with
      | nil => exact ⟨[], rfl, .nil⟩
      | cons h _ ih =>
        obtain ⟨y, rfl, hy⟩ := h
        obtain ⟨ys, e, a⟩ := ih
        exact ⟨y :: ys, by simp [e], .cons hy a⟩
    obtain ⟨ys, e, a⟩ := this
    rw [e]; exact fin ys a
theorem All2.mem {α β : Type} {P : α → β → Prop} {as : List α} {bs : List β} (h : All2 P as bs) : ∀ b ∈ bs, ∃ a ∈ as, P a b := by
  induction h with
  | nil => intro b hb; cases hb
  | cons h _ ih =>
    intro b hb
    rcases List.mem_cons.mp hb with rfl | hb
    · exact ⟨_, List.mem_cons_self .., h⟩
    · obtain ⟨a, ha, hp⟩ := ih b hb; exact ⟨a, List.mem_cons_of_mem _ ha, hp⟩
/-! ### names -/
abbrev LETT : Str := lit "abcdefghijklmnopqrstuvwxyz"
def lettB (z : Str) : Bool := z.cps.toList.all fun c => decide (97 ≤ c) && decide (c ≤ 122)
theorem in_lett : ∀ c, c < 127 → inS (one c) LETT = (decide (97 ≤ c) && decide (c ≤ 122)) := by decide +kernel
theorem lett_all {z : Str} (h : Pr z) : ((z.cps.toList.map fun c => inS (one c) LETT).all id) = lettB z := by
  unfold lettB
  rw [List.all_map]
  have : ∀ l : List Nat, (∀ c ∈ l, 32 ≤ c ∧ c ≤ 126) → l.all (id ∘ fun c => inS (one c) LETT) = l.all fun c => decide (97 ≤ c) && decide (c ≤ 122) := fun l => by
    induction l with
    | nil => intro _; rfl
    | cons c r ih =>
      intro h
      rw [List.all_cons, List.all_cons, ih fun d hd => h d (List.mem_cons_of_mem _ hd)]
      simp only [Function.comp, id]
      rw [in_lett c (by have := h c (List.mem_cons_self ..); omega)]
  exact this _ h
def inLett : D → D
  | .str y => .bl (inS y LETT)
  | d => d
def nameS (z : Str) : Bool := (decide (1 ≤ z.length) && decide (z.length ≤ 8)) && lettB z
def nameD : D → Bool
  | .str z => nameS z
  | _ => false
theorem chain_len {lo hi : Nat} {z : Nat} {M : Mst} {Q : DK} : dCmpI (fun i j => decide (i ≤ j)) (.int (lo : Int)) (.int (z : Int)) M (fun z_1 M3 => match z_1 with
    | .bl k => if k = true then dCmpI (fun i j => decide (i ≤ j)) (.int (z : Int)) (.int (hi : Int)) M3 Q else Q (.bl false) M3
    | _ => False) = Q (.bl (decide (lo ≤ z) && decide (z ≤ hi))) M := by
  have e1 : decide ((lo : Int) ≤ (z : Int)) = decide (lo ≤ z) := decide_eq_decide.mpr (by omega)
  have e2 : decide ((z : Int) ≤ (hi : Int)) = decide (z ≤ hi) := decide_eq_decide.mpr (by omega)
  simp only [dCmpI_i, e1, e2]
  cases decide (lo ≤ z) <;> simp
theorem chain_int {lo hi z : Int} {M : Mst} {Q : DK} : dCmpI (fun i j => decide (i ≤ j)) (.int lo) (.int z) M (fun z_1 M3 => match z_1 with
    | .bl k => if k = true then dCmpI (fun i j => decide (i ≤ j)) (.int z) (.int hi) M3 Q else Q (.bl false) M3
    | _ => False) = Q (.bl (decide (lo ≤ z) && decide (z ≤ hi))) M := by
  simp only [dCmpI_i]
  cases decide (lo ≤ z) <;> simp
def wholeD (lo hi : Int) : D → Bool
  | .int i => decide (lo ≤ i) && decide (i ≤ hi)
  | _ => false
def oneD (zs : List Str) : D → Bool
  | .str z => decide (z ∈ zs)
  | _ => false
def longD (k : Nat) : D → Bool
  | .tup ds => decide (ds.length = k)
  | _ => false
/-! ### the four tests of the program -/
def qIsWhole : DTS := (qRet (qAndV (qCB dIsi (qCons (qVar 0) (qCons (qC (.ty "int")) qNil))) (qAndV (qNotV (qCB dIsi (qCons (qVar 0) (qCons (qC (.ty "bool")) qNil)))) (qChain (dCmpI fun i j => decide (i ≤ j)) (dCmpI fun i j => decide (i ≤ j)) (qVar 1) (qVar 0) (qVar 2)))))
def spIsWhole : DSp := fun ds M Q _ => ∃ (n : Nat) (x : D) (lo hi : Int), ds = [x, .int lo, .int hi] ∧ Pl n x ∧ Q (.bl (wholeD lo hi x)) M
theorem whole_ok (ds : List D) (M : Mst) (Q : DK) (Ed : DX → Mst → Prop) (h : upSp spIsWhole ds M Q Ed) : qIsWhole (fun x _ M => Ed x M) (retE Q) (startD ["thing", "low", "high"] ds) M := by
  obtain ⟨Q0, E0, ⟨n, x, lo, hi, rfl, hx, k0⟩, kq, _⟩ := h
  have k : Q (.bl (wholeD lo hi x)) M := kq _ _ _ (Sub.refl _) k0
  show qIsWhole _ _ [some x, some (.int lo), some (.int hi)] M
  simp only [qIsWhole, qAndV, qNotV, qChain, qSeq, qAsg, qTup, qCons, qNil, qOp, qUn, qC, qCall, qVar, qLst, newL_f, qIfS, qTB, qNext, qRet, qDrop, qFor, qCB, qAug, qSl, qPart, qNoPart, gNameD, gSub_eq, dInt_i, dInt0_i, dAdd_i, dCmpI_i, List.set_cons_zero, List.set_cons_succ, List.getElem?_cons_zero, List.getElem?_cons_succ, List.append_nil]
  rw [isi_int hx]
  cases x with
  | int i =>
    simp only [intB, if_true, z_isi_int_bool, Bool.not_false]
    exact chain_int.mpr k
  | bl b => simp only [intB, if_true, z_isi_bl_bool, Bool.not_true, Bool.false_eq_true, if_false]; exact k
  | _ => simp only [intB, Bool.false_eq_true, if_false]; exact k
def qIsName : DTS := (qSeq (qIfS (qOr (qNot (qTB (qCB dIsi (qCons (qVar 0) (qCons (qC (.ty "str")) qNil))))) (qNot (qTB (qChain (dCmpI fun i j => decide (i ≤ j)) (dCmpI fun i j => decide (i ≤ j)) (qC (.int 1)) (qCB dLen (qCons (qVar 0) qNil)) (qC (.int 8))))))
  (qRet (qC (.bl false)))
  qNext)
  (qRet (qCB dAll (qCons (qLc false (qiAny (qVar 0)) (gNameD 1) qYes (qOp (dIn false) (qVar 1) (qC (.str (PySem.Str.ofString "abcdefghijklmnopqrstuvwxyz")))) [1]) qNil))))
def spIsName : DSp := fun ds M Q _ => ∃ (n : Nat) (x : D), ds = [x] ∧ n ≤ 100000 ∧ Pl n x ∧ Q (.bl (nameD x)) M
theorem name_ok (ds : List D) (M : Mst) (Q : DK) (Ed : DX → Mst → Prop) (h : upSp spIsName ds M Q Ed) : qIsName (fun x _ M => Ed x M) (retE Q) (startD ["thing", "sign"] ds) M := by
  obtain ⟨Q0, E0, ⟨n, x, rfl, hn, hx, k0⟩, kq, _⟩ := h
  have k : Q (.bl (nameD x)) M := kq _ _ _ (Sub.refl _) k0
  show qIsName _ _ [some x, none] M
  simp only [qIsName, qOr, qNot, qChain, qSeq, qAsg, qTup, qCons, qNil, qOp, qUn, qC, qCall, qVar, qLst, newL_f, qIfS, qTB, qNext, qRet, qDrop, qFor, qCB, qAug, qSl, qPart, qNoPart, gNameD, gSub_eq, dInt_i, dInt0_i, dAdd_i, dCmpI_i, List.set_cons_zero, List.set_cons_succ, List.getElem?_cons_zero, List.getElem?_cons_succ, List.append_nil]
  rw [isi_str hx]
  cases x with
  | str z =>
    have T := hx.strI
    simp only [strB, Bool.not_true, Bool.false_eq_true, if_false, z_len_str]
    refine (chain_len (lo := 1) (hi := 8)).mpr ?_
    have k : Q (.bl ((decide (1 ≤ z.length) && decide (z.length ≤ 8)) && lettB z)) M := k
    cases hc : decide (1 ≤ z.length) && decide (z.length ≤ 8) with
    | false => rw [hc] at k; simp only [Bool.not_false, if_true]; exact k
    | true =>
      rw [hc] at k
      simp only [Bool.not_true, Bool.false_eq_true, if_false]
      simp only [qLc, qiAny, qVar, List.getElem?_cons_zero]
      intro c hc
      refine lcN hc (fun _ => trivial) (by unfold signs; rw [List.length_map, Array.length_toList]; exact Nat.le_trans T.len hn) inLett (fun d hd M' R S hR => ?_) ?_
      · unfold signs at hd
        obtain ⟨c, _, rfl⟩ := List.mem_map.mp hd
        show dIn false (.str (one c)) (.str LETT) M' R
        rw [z_inS, Bool.false_xor]
        exact hR
      · have e : (signs z).map inLett = (z.cps.toList.map fun c => inS (one c) LETT).map D.bl := by
          unfold signs; rw [List.map_map, List.map_map]; rfl
        rw [e, all_bls, lett_all T.pr]; exact k
  | _ => simp only [strB, Bool.not_false, if_true]; exact k
def qIsOne : DTS := (qRet (qAndV (qCB dIsi (qCons (qVar 0) (qCons (qC (.ty "str")) qNil))) (qOp (dIn false) (qVar 0) (qVar 1))))
/-- what texts are: a list, a tuple, the keys of a dict -/
def TextsD (M : Mst) (zs : List Str) (t : D) : Prop := ∀ (z : Str) (Q : DK), dIn false (.str z) t M Q = Q (.bl (decide (z ∈ zs))) M
theorem textsD_l {M : Mst} {zs : List Str} : TextsD M zs (.lst (zs.map .str)) := fun z Q => by rw [in_strs, Bool.false_xor]
theorem textsD_t {M : Mst} {zs : List Str} : TextsD M zs (.tup (zs.map .str)) := fun z Q => by rw [in_strsT, Bool.false_xor]
theorem textsD_x {M : Mst} {zs : List Str} : TextsD M zs (.xtp (zs.map .str)) := fun z Q => (in_strsT (neg := false) (M := M) (Q := Q) (z := z) (zs := zs)).trans (by rw [Bool.false_xor])
theorem textsD_k {M : Mst} {zs : List Str} : TextsD M zs (.ktp (zs.map .str)) := fun z Q => (in_strsT (neg := false) (M := M) (Q := Q) (z := z) (zs := zs)).trans (by rw [Bool.false_xor])
def spIsOne : DSp := fun ds M Q _ => ∃ (n : Nat) (x t : D) (zs : List Str), ds = [x, t] ∧ Pl n x ∧ TextsD M zs t ∧ Q (.bl (oneD zs x)) M
theorem one_ok (ds : List D) (M : Mst) (Q : DK) (Ed : DX → Mst → Prop) (h : upSp spIsOne ds M Q Ed) : qIsOne (fun x _ M => Ed x M) (retE Q) (startD ["thing", "texts"] ds) M := by
  obtain ⟨Q0, E0, ⟨n, x, t, zs, rfl, hx, ht, k0⟩, kq, _⟩ := h
  have k : Q (.bl (oneD zs x)) M := kq _ _ _ (Sub.refl _) k0
  show qIsOne _ _ [some x, some t] M
  simp only [qIsOne, qAndV, qSeq, qAsg, qTup, qCons, qNil, qOp, qUn, qC, qCall, qVar, qLst, newL_f, qIfS, qTB, qNext, qRet, qDrop, qFor, qCB, qAug, qSl, qPart, qNoPart, gNameD, gSub_eq, dInt_i, dInt0_i, dAdd_i, dCmpI_i, List.set_cons_zero, List.set_cons_succ, List.getElem?_cons_zero, List.getElem?_cons_succ, List.append_nil]
  rw [isi_str hx]
  cases x with
  | str z =>
    simp only [strB, if_true]
    rw [ht]; exact k
  | _ => simp only [strB, Bool.false_eq_true, if_false]; exact k
def qIsTuple : DTS := (qRet (qAndV (qCB dIsi (qCons (qVar 0) (qCons (qC (.ty "tuple")) qNil))) (qOp (dEq false) (qCB dLen (qCons (qVar 0) qNil)) (qVar 1))))
def spIsTuple : DSp := fun ds M Q _ => ∃ (n : Nat) (x : D) (k : Nat), ds = [x, .int (k : Int)] ∧ Pl n x ∧ Q (.bl (longD k x)) M
theorem tuple_ok (ds : List D) (M : Mst) (Q : DK) (Ed : DX → Mst → Prop) (h : upSp spIsTuple ds M Q Ed) : qIsTuple (fun x _ M => Ed x M) (retE Q) (startD ["thing", "many"] ds) M := by
  obtain ⟨Q0, E0, ⟨n, x, m, rfl, hx, k0⟩, kq, _⟩ := h
  have k : Q (.bl (longD m x)) M := kq _ _ _ (Sub.refl _) k0
  show qIsTuple _ _ [some x, some (.int m)] M
  simp only [qIsTuple, qAndV, qSeq, qAsg, qTup, qCons, qNil, qOp, qUn, qC, qCall, qVar, qLst, newL_f, qIfS, qTB, qNext, qRet, qDrop, qFor, qCB, qAug, qSl, qPart, qNoPart, gNameD, gSub_eq, dInt_i, dInt0_i, dAdd_i, dCmpI_i, List.set_cons_zero, List.set_cons_succ, List.getElem?_cons_zero, List.getElem?_cons_succ, List.append_nil]
  rw [isi_tuple hx]
  cases x with
  | tup ds =>
    simp only [tupB, if_true, z_len_tup]
    rw [eq_i, Bool.false_xor]; exact k
  | _ => simp only [tupB, Bool.false_eq_true, if_false]; exact k
/-- a tuple's item at a known place -/
theorem ix_tn {ds : List D} {i : Nat} {d : D} {M : Mst} {Q : DK} (h : ds[i]? = some d) : dIx (.tup ds) (.int (i : Int)) M Q = Q d M := ix_t (by rw [atI_n]; exact h)
theorem ix_ln {ds : List D} {i : Nat} {d : D} {M : Mst} {Q : DK} (h : ds[i]? = some d) : dIx (.lst ds) (.int (i : Int)) M Q = Q d M := ix_l (by rw [atI_n]; exact h)
@[simp] theorem z_ix_t2 {a b c : D} {ds : List D} {M : Mst} {Q : DK} : dIx (.tup (a :: b :: c :: ds)) (.int 2) M Q = Q c M := ix_tn (i := 2) rfl
@[simp] theorem z_ix_t3 {a b c e : D} {ds : List D} {M : Mst} {Q : DK} : dIx (.tup (a :: b :: c :: e :: ds)) (.int 3) M Q = Q e M := ix_tn (i := 3) rfl
@[simp] theorem z_ix_l2 {a b c : D} {ds : List D} {M : Mst} {Q : DK} : dIx (.lst (a :: b :: c :: ds)) (.int 2) M Q = Q c M := ix_ln (i := 2) rfl
@[simp] theorem z_ix_l3 {a b c e : D} {ds : List D} {M : Mst} {Q : DK} : dIx (.lst (a :: b :: c :: e :: ds)) (.int 3) M Q = Q e M := ix_ln (i := 3) rfl
theorem longD_iff {k : Nat} {x : D} : longD k x = true ↔ ∃ ds, x = .tup ds ∧ ds.length = k := by cases x <;> simp [longD]
end DL

/-! PlB: a ground's places and stations; making a ground. -/
namespace DL
open PySem L2 Tx20 Tx21
/-- a tuple, its object known or not -/
def seqD : D → Option (List D)
  | .tup ds => some ds
  | .xtp ds => some ds
  | _ => none
/-- what is handed in: plain data, or a tuple of them whose object is known -/
inductive Th (n : Nat) : D → Prop
  | pl {x : D} (h : Pl n x) : Th n x
  | xt {ds : List D} (hl : ds.length ≤ n) (h : ∀ d ∈ ds, Pl n d) : Th n (.xtp ds)
section
variable {n : Nat} {x : D} {M : Mst} {Q : DK}
theorem Th.seq (h : Th n x) {ds : List D} (e : seqD x = some ds) : ds.length ≤ n ∧ ∀ d ∈ ds, Pl n d := by
  cases h with
  | pl h =>
    cases h with
    | tup a b => cases e; exact ⟨a, b⟩
    | _ => cases e
  | xt a b => cases e; exact ⟨a, b⟩
theorem th_isi (h : Th n x) : dIsi [x, .ty "tuple"] M Q = Q (.bl (seqD x).isSome) M := by
  cases h with
  | pl h => rw [isi_tuple h]; cases h <;> rfl
  | xt a b => exact (show dIsi [.xtp _, .ty "tuple"] M Q = dIsi [.tup _, .ty "tuple"] M Q from rfl).trans z_isi_tup_tup
theorem seq_len {ds : List D} (e : seqD x = some ds) : dLen [x] M Q = Q (.int (ds.length : Int)) M := by
  cases x <;> first | (cases e; done) | (cases e; simp)
theorem seq_at {ds : List D} (e : seqD x = some ds) : seqAt M x = some (true, ds, always) := by
  cases x <;> first | (cases e; done) | (cases e; rfl)
theorem seq_any {ds : List D} (e : seqD x = some ds) {R : List D → (Mst → Prop) → Mst → Prop} {DW : DWt} {p : Rho} {i : Nat} (hp : p[i]? = some (some x)) : qiAny (qVar i) DW p M R = R ds always M := by
  cases x <;> first | (cases e; done) | (cases e; simp [qiAny, hp])
theorem seq_cut {ds : List D} (e : seqD x = some ds) {k : Nat} (h1 : Q (.tup (ds.take k)) M) (h2 : Q (.xtp (ds.take k)) M) : dSl false x none (some (k : Int)) M Q := by
  cases x <;> first | (cases e; done) | (cases e; simp only [dSl, cut_to]; first | exact h1 | exact ⟨h1, h2⟩)
end
def optI : Option Int → D
  | none => .non
  | some i => .int i
/-! ### places -/
def placeD : D → Bool
  | .tup [a, b] => nameD a && wholeD 1 4 b
  | _ => false
def nameOf : D → Str
  | .tup (.str z :: _) => z
  | _ => Str.empty
def qIsPlace (sp_is_name : DSp) (sp_is_tuple_of : DSp) (sp_is_whole : DSp) : DTS := (qRet (qAndV (qCall sp_is_tuple_of [] (qCons (qVar 0) (qCons (qC (.int 2)) qNil))) (qAndV (qCall sp_is_name [] (qCons (qOp dIx (qVar 0) (qC (.int 0))) qNil)) (qCall sp_is_whole [] (qCons (qOp dIx (qVar 0) (qC (.int 1))) (qCons (qC (.int 1)) (qCons (qC (.int 4)) qNil)))))))
def spIsPlace : DSp := fun ds M Q _ => ∃ (n : Nat) (x : D), ds = [x] ∧ n ≤ 100000 ∧ Pl n x ∧ Q (.bl (placeD x)) M
theorem place_ok (ds : List D) (M : Mst) (Q : DK) (Ed : DX → Mst → Prop) (h : upSp spIsPlace ds M Q Ed) : qIsPlace spIsName spIsTuple spIsWhole (fun x _ M => Ed x M) (retE Q) (startD ["thing"] ds) M := by
  obtain ⟨Q0, E0, ⟨n, x, rfl, hn, hx, k0⟩, kq, _⟩ := h
  have k : Q (.bl (placeD x)) M := kq _ _ _ (Sub.refl _) k0
  show qIsPlace _ _ _ _ _ [some x] M
  simp only [qIsPlace, qAndV, qSeq, qAsg, qTup, qCons, qNil, qOp, qUn, qC, qCall, qVar, qLst, newL_f, qIfS, qTB, qNext, qRet, qDrop, qFor, qCB, qAug, qSl, qPart, qNoPart, gNameD, gSub_eq, dInt_i, dInt0_i, dAdd_i, dCmpI_i, List.set_cons_zero, List.set_cons_succ, List.getElem?_cons_zero, List.getElem?_cons_succ, List.append_nil]
  refine ⟨n, x, 2, rfl, hx, ?_⟩
  cases hl : longD 2 x with
  | false =>
    have : placeD x = false := by
      unfold placeD
      split
      · cases hl
      · rfl
    rw [this] at k
    simp only [Bool.false_eq_true, if_false]; exact k
  | true =>
    obtain ⟨ds, rfl, hl⟩ := longD_iff.mp hl
    obtain ⟨a, b, rfl⟩ : ∃ a b, ds = [a, b] := by
      match ds, hl with
      | [a, b], _ => exact ⟨a, b, rfl⟩
    have hp := hx.tupI.2
    simp only [if_true, z_ix_t0, z_ix_t1]
    refine ⟨n, a, rfl, hn, hp _ (by simp), ?_⟩
    have k : Q (.bl (nameD a && wholeD 1 4 b)) M := k
    cases ha : nameD a with
    | false => rw [ha] at k; simp only [Bool.false_eq_true, if_false]; exact k
    | true => rw [ha] at k; simp only [if_true]; exact ⟨n, b, 1, 4, rfl, hp _ (by simp), k⟩
/-- the first place that is none, or whose name stood before -/
def badP : List Str → Nat → List D → Option Nat
  | _, _, [] => none
  | seen, i, d :: ds => if placeD d && !decide (nameOf d ∈ seen) then badP (seen ++ [nameOf d]) (i + 1) ds else some i
def faultP (x : D) : Option Int := match seqD x with
  | some ds => if (decide (1 ≤ ds.length) && decide (ds.length ≤ 40)) = true then (badP [] 0 ds).map fun i : Nat => (i : Int) else some (-1)
  | none => some (-1)
def seenD (zs : List Str) : List (Key × D) := zs.map fun z => (.inr z, .bl true)
theorem seen_val (zs : List Str) (z : Str) : (valD (seenD zs) (.inr z)).isSome = decide (z ∈ zs) := by
  unfold valD seenD
  rw [Option.isSome_map]
  induction zs with
  | nil => simp
  | cons y r ih =>
    rw [List.map_cons, List.find?_cons]
    by_cases e : y = z
    · subst e; simp
    · have e1 : decide ((Sum.inr y : Key) = Sum.inr z) = false := decide_eq_false fun q => e (by injection q)
      rw [e1, ih]
      apply decide_eq_decide.mpr
      simp [Ne.symm e]
theorem seen_put {zs : List Str} {z : Str} (h : z ∉ zs) : putD (seenD zs) (.inr z) (.bl true) = seenD (zs ++ [z]) := by
  unfold putD
  rw [if_neg]
  · simp [seenD]
  · rw [List.any_eq_true]
    rintro ⟨kv, hk, e⟩
    obtain ⟨y, hy, rfl⟩ := List.mem_map.mp hk
    have e2 := of_decide_eq_true e
    injection e2 with e2
    subst e2; exact h hy
theorem in_seen {M : Mst} {Q : DK} {a : Addr} {zs : List Str} {z : Str} (hm : M a = some (.dK (seenD zs))) : dIn false (.str z) (.ref a) M Q = Q (.bl (decide (z ∈ zs))) M := by
  unfold dIn
  simp only [dgetD, hm, keyD, Option.map_some, seen_val, Bool.false_xor]
theorem placeD_iff {x : D} : placeD x = true ↔ ∃ z i, x = .tup [.str z, .int i] ∧ nameS z = true ∧ 1 ≤ i ∧ i ≤ 4 := by
  constructor
  · intro h
    unfold placeD at h
    split at h
    · next a b =>
      rw [Bool.and_eq_true] at h
      cases a <;> first | (cases h.1; done) | skip
      cases b <;> first | (cases h.2; done) | skip
      have h2 := h.2
      simp only [wholeD, Bool.and_eq_true, decide_eq_true_eq] at h2
      exact ⟨_, _, rfl, h.1, h2.1, h2.2⟩
    · cases h
  · rintro ⟨z, i, rfl, h1, h2, h3⟩
    simp [placeD, nameD, h1, wholeD, h2, h3]
def qPlacesFault (sp_is_place : DSp) : DTS :=
  (qSeq (qIfS (qOr (qNot (qTB (qCB dIsi (qCons (qVar 0) (qCons (qC (.ty "tuple")) qNil))))) (qNot (qTB (qChain (dCmpI fun i j => decide (i ≤ j)) (dCmpI fun i j => decide (i ≤ j)) (qC (.int 1)) (qCB dLen (qCons (qVar 0) qNil)) (qC (.int 40))))))
  (qRet (qUn dNeg (qC (.int 1))))
  qNext)
  (qSeq (qAsg qDNew (gNameD 1))
  (qSeq (qFor (qiEnum0 (qCons (qVar 0) qNil)) (gTupD 2 (gConsD (gNameD 2) (gConsD (gNameD 3) gNilD)))
  (qSeq (qIfS (qOr (qNot (qTB (qCall sp_is_place [] (qCons (qVar 3) qNil)))) (qTB (qOp (dIn false) (qOp dIx (qVar 3) (qC (.int 0))) (qVar 1))))
  (qRet (qVar 2))
  qNext)
  (qAsg (qC (.bl true)) (gSubD (qVar 1) (qOp dIx (qVar 3) (qC (.int 0)))))))
  (qRet (qC .non)))))
def spPlaces : DSp := fun ds M Q _ => ∃ (n : Nat) (x : D), ds = [x] ∧ n ≤ 50000 ∧ Th n x ∧ Q (optI (faultP x)) M
theorem enum_tup {i : Nat} {ds : List D} {d : D} (h : (enumDI 0 ds)[i]? = some d) : ∃ e, ds[i]? = some e ∧ d = .tup [.int (i : Int), e] := by
  rw [enumDI_get] at h
  obtain ⟨e, h1, h2⟩ := Option.map_eq_some_iff.mp h
  exact ⟨e, h1, by rw [← h2, Int.zero_add]⟩
theorem drop_at {α : Type} {ds : List α} {i : Nat} {e : α} (h : ds[i]? = some e) : ds.drop i = e :: ds.drop (i + 1) := by
  obtain ⟨h1, rfl⟩ := List.getElem?_eq_some_iff.mp h
  exact List.drop_eq_getElem_cons h1
theorem places_ok (ds : List D) (M : Mst) (Q : DK) (Ed : DX → Mst → Prop) (h : upSp spPlaces ds M Q Ed) : qPlacesFault spIsPlace (fun x _ M => Ed x M) (retE Q) (startD ["thing", "seen", "at", "one"] ds) M := by
  obtain ⟨Q0, E0, ⟨n, x, rfl, hn, hx, k0⟩, kq, _⟩ := h
  have k : ∀ M', Sub M M' → Q (optI (faultP x)) M' := fun M' S => kq _ _ _ S k0
  show qPlacesFault _ _ _ [some x, none, none, none] M
  simp only [qPlacesFault, qOr, qNot, qChain, qSeq, qAsg, qTup, qCons, qNil, qOp, qUn, qC, qCall, qVar, qLst, newL_f, qIfS, qTB, qNext, qRet, qDrop, qFor, qCB, qAug, qSl, qPart, qNoPart, gNameD, gSub_eq, dInt_i, dInt0_i, dAdd_i, dCmpI_i, List.set_cons_zero, List.set_cons_succ, List.getElem?_cons_zero, List.getElem?_cons_succ, List.append_nil]
  rw [th_isi hx]
  cases hs : seqD x with
  | none =>
    have e : faultP x = some (-1) := by simp [faultP, hs]
    rw [e] at k
    simp only [Option.isSome_none, Bool.not_false, if_true, z_neg]
    exact k M (Sub.refl _)
  | some es =>
    obtain ⟨hl, hp⟩ := hx.seq hs
    simp only [Option.isSome_some, Bool.not_true, Bool.false_eq_true, if_false, seq_len hs]
    refine (chain_len (lo := 1) (hi := 40)).mpr ?_
    have e : faultP x = if (decide (1 ≤ es.length) && decide (es.length ≤ 40)) = true then (badP [] 0 es).map fun i : Nat => (i : Int) else some (-1) := by simp [faultP, hs]
    rw [e] at k
    cases hc : decide (1 ≤ es.length) && decide (es.length ≤ 40) with
    | false =>
      rw [hc] at k
      simp only [Bool.not_false, if_true, z_neg]
      exact k M (Sub.refl _)
    | true =>
      rw [hc] at k
      simp only [Bool.not_true, Bool.false_eq_true, if_false, if_true] at k ⊢
      intro a ha
      simp only [qiEnum0, qSeq, qAsg, qTup, qCons, qNil, qOp, qUn, qC, qCall, qVar, qLst, newL_f, qIfS, qTB, qNext, qRet, qDrop, qFor, qCB, qAug, qSl, qPart, qNoPart, gNameD, gSub_eq, dInt_i, dInt0_i, dAdd_i, dCmpI_i, List.set_cons_zero, List.set_cons_succ, List.getElem?_cons_zero, List.getElem?_cons_succ, List.append_nil, seq_at hs]
      refine loopL_inv (fun i p M' => ∃ seen p2 p3, p = [some x, some (.ref a), p2, p3] ∧ seen.length ≤ i ∧ M' a = some (.dK (seenD seen)) ∧ Sub M M' ∧ badP [] 0 es = badP seen i (es.drop i)) (n := es.length) (by simp) (fun i d p M' R hd hI hR => ?_) (fun p M' hI => ?_)
        ⟨[], none, none, rfl, Nat.zero_le _, put_same, (Sub.refl M).put ha, by rw [List.drop_zero]⟩
      · obtain ⟨seen, p2, p3, rfl, hsl, hm, hS, hb⟩ := hI
        obtain ⟨e, he, rfl⟩ := enum_tup hd
        rw [drop_at he] at hb
        have hi : i < es.length := (List.getElem?_eq_some_iff.mp he).1
        have hpe := hp e (List.mem_of_getElem? he)
        refine ⟨trivial, ?_⟩
        simp only [gTupD, gConsD, gNilD, qSeq, qAsg, qTup, qCons, qNil, qOp, qUn, qC, qCall, qVar, qLst, newL_f, qIfS, qTB, qNext, qRet, qDrop, qFor, qCB, qAug, qSl, qPart, qNoPart, gNameD, gSub_eq, dInt_i, dInt0_i, dAdd_i, dCmpI_i, List.set_cons_zero, List.set_cons_succ, List.getElem?_cons_zero, List.getElem?_cons_succ, List.append_nil]
        refine ⟨rfl, rfl, ?_⟩
        refine ⟨n, e, rfl, by omega, hpe, ?_⟩
        rw [badP] at hb
        cases hpl : placeD e with
        | false =>
          rw [hpl, Bool.false_and, if_neg Bool.false_ne_true] at hb
          rw [hb] at k
          simp only [Bool.not_false, if_true]
          exact k M' hS
        | true =>
          obtain ⟨z, r, rfl, hz, _, _⟩ := placeD_iff.mp hpl
          simp only [Bool.not_true, Bool.false_eq_true, if_false, qSeq, qAsg, qTup, qCons, qNil, qOp, qUn, qC, qCall, qVar, qLst, newL_f, qIfS, qTB, qNext, qRet, qDrop, qFor, qCB, qAug, qSl, qPart, qNoPart, gNameD, gSub_eq, dInt_i, dInt0_i, dAdd_i, dCmpI_i, List.set_cons_zero, List.set_cons_succ, List.getElem?_cons_zero, List.getElem?_cons_succ, List.append_nil, z_ix_t0]
          rw [in_seen hm]
          rw [hpl, Bool.true_and] at hb
          have en : nameOf (.tup [.str z, .int r]) = z := rfl
          rw [en] at hb
          by_cases hin : z ∈ seen
          · rw [if_neg (by simp [hin])] at hb
            rw [hb] at k
            simp only [hin, decide_true, if_true]
            exact k M' hS
          · rw [if_pos (by simp [hin])] at hb
            simp only [hin, decide_false, Bool.false_eq_true, if_false]
            unfold dSet
            simp only [hm, keyD, seen_put hin]
            refine ⟨by simp [seenD]; omega, hR _ _ ⟨seen ++ [z], _, _, rfl, by simp; omega, put_same, hS.put ha, hb⟩⟩
      · obtain ⟨seen, p2, p3, rfl, hsl, hm, hS, hb⟩ := hI
        refine ⟨trivial, ?_⟩
        rw [List.drop_length, badP] at hb
        rw [hb] at k
        exact k M' hS
end DL

/-! PlC: stations; making a ground without roads; drawn names. -/
namespace DL
open PySem L2 Tx20 Tx21
/-! ### stations -/
def badS (zs : List Str) : Nat → List Str → List D → Option Nat
  | _, _, [] => none
  | i, seen, .str z :: ds => if (decide (z ∈ zs) && !decide (z ∈ seen)) = true then badS zs (i + 1) (seen ++ [z]) ds else some i
  | i, _, _ :: _ => some i
def faultS (zs : List Str) (x : D) : Option Int := match seqD x with
  | some ds => if decide (12 < ds.length) = true then some (-1) else (badS zs 0 [] ds).map fun i : Nat => (i : Int)
  | none => some (-1)
def qStations (sp_is_one_of : DSp) : DTS :=
  (qSeq (qIfS (qOr (qNot (qTB (qCB dIsi (qCons (qVar 1) (qCons (qC (.ty "tuple")) qNil))))) (qTB (qOp (dCmpI fun i j => decide (j < i)) (qCB dLen (qCons (qVar 1) qNil)) (qC (.int 12)))))
  (qRet (qUn dNeg (qC (.int 1))))
  qNext)
  (qSeq (qFor (qiEnum0 (qCons (qVar 1) qNil)) (gTupD 2 (gConsD (gNameD 2) (gConsD (gNameD 3) gNilD)))
  (qIfS (qOr (qNot (qTB (qCall sp_is_one_of [] (qCons (qVar 3) (qCons (qVar 0) qNil))))) (qTB (qOp (dIn false) (qVar 3) (qSl false (qVar 1) qNoPart (qPart (qVar 2))))))
  (qRet (qVar 2))
  qNext))
  (qRet (qC .non))))
def spStations : DSp := fun ds M Q _ => ∃ (n : Nat) (t x : D) (zs : List Str), ds = [t, x] ∧ n ≤ 50000 ∧ TextsD M zs t ∧ Th n x ∧ Q (optI (faultS zs x)) M
theorem oneD_iff {zs : List Str} {x : D} : oneD zs x = true ↔ ∃ z, x = .str z ∧ z ∈ zs := by cases x <;> simp [oneD]
theorem badS_not {zs seen : List Str} {i : Nat} {x : D} {ds : List D} (h : oneD zs x = false) : badS zs i seen (x :: ds) = some i := by
  cases x <;> first | rfl | skip
  simp only [oneD] at h
  rw [badS, if_neg (by rw [h]; simp)]
theorem chain_gt {hi : Nat} {z : Nat} {M : Mst} {Q : DK} : dCmpI (fun i j => decide (j < i)) (.int (z : Int)) (.int (hi : Int)) M Q = Q (.bl (decide (hi < z))) M := by
  have e1 : decide ((hi : Int) < (z : Int)) = decide (hi < z) := decide_eq_decide.mpr (by omega)
  rw [dCmpI_i, e1]
theorem stations_ok (ds : List D) (M : Mst) (Q : DK) (Ed : DX → Mst → Prop) (h : upSp spStations ds M Q Ed) : qStations spIsOne (fun x _ M => Ed x M) (retE Q) (startD ["names", "thing", "at", "one"] ds) M := by
  obtain ⟨Q0, E0, ⟨n, t, x, zs, rfl, hn, ht, hx, k0⟩, kq, _⟩ := h
  have k : Q (optI (faultS zs x)) M := kq _ _ _ (Sub.refl _) k0
  show qStations _ _ _ [some t, some x, none, none] M
  simp only [qStations, qOr, qNot, qSeq, qAsg, qTup, qCons, qNil, qOp, qUn, qC, qCall, qVar, qLst, newL_f, qIfS, qTB, qNext, qRet, qDrop, qFor, qCB, qAug, qSl, qPart, qNoPart, gNameD, gSub_eq, dInt_i, dInt0_i, dAdd_i, dCmpI_i, List.set_cons_zero, List.set_cons_succ, List.getElem?_cons_zero, List.getElem?_cons_succ, List.append_nil]
  rw [th_isi hx]
  cases hs : seqD x with
  | none =>
    have e : faultS zs x = some (-1) := by simp [faultS, hs]
    rw [e] at k
    simp only [Option.isSome_none, Bool.not_false, if_true, z_neg]
    exact k
  | some es =>
    obtain ⟨hl, hp⟩ := hx.seq hs
    have e : faultS zs x = if decide (12 < es.length) = true then some (-1) else (badS zs 0 [] es).map fun i : Nat => (i : Int) := by simp [faultS, hs]
    rw [e] at k
    simp only [Option.isSome_some, Bool.not_true, Bool.false_eq_true, if_false, seq_len hs]
    refine (chain_gt (hi := 12)).mpr ?_
    cases hc : decide (12 < es.length) with
    | true =>
      rw [hc] at k
      simp only [if_true, z_neg] at k ⊢
      exact k
    | false =>
      rw [hc] at k
      simp only [Bool.false_eq_true, if_false] at k ⊢
      simp only [qiEnum0, qSeq, qAsg, qTup, qCons, qNil, qOp, qUn, qC, qCall, qVar, qLst, newL_f, qIfS, qTB, qNext, qRet, qDrop, qFor, qCB, qAug, qSl, qPart, qNoPart, gNameD, gSub_eq, dInt_i, dInt0_i, dAdd_i, dCmpI_i, List.set_cons_zero, List.set_cons_succ, List.getElem?_cons_zero, List.getElem?_cons_succ, List.append_nil, seq_at hs]
      refine loopL_inv (fun i p M' => ∃ (seen : List Str) (p2 p3 : Option D), p = [some t, some x, p2, p3] ∧ es.take i = seen.map .str ∧ M' = M ∧ badS zs 0 [] es = badS zs i seen (es.drop i)) (n := es.length) (by simp) (fun i d p M' R hd hI hR => ?_) (fun p M' hI => ?_)
        ⟨[], none, none, rfl, rfl, rfl, by rw [List.drop_zero]⟩
      · obtain ⟨seen, p2, p3, rfl, hsn, rfl, hb⟩ := hI
        obtain ⟨e, he, rfl⟩ := enum_tup hd
        rw [drop_at he] at hb
        have hpe := hp e (List.mem_of_getElem? he)
        refine ⟨trivial, ?_⟩
        simp only [gTupD, gConsD, gNilD, qSeq, qAsg, qTup, qCons, qNil, qOp, qUn, qC, qCall, qVar, qLst, newL_f, qIfS, qTB, qNext, qRet, qDrop, qFor, qCB, qAug, qSl, qPart, qNoPart, gNameD, gSub_eq, dInt_i, dInt0_i, dAdd_i, dCmpI_i, List.set_cons_zero, List.set_cons_succ, List.getElem?_cons_zero, List.getElem?_cons_succ, List.append_nil]
        refine ⟨rfl, rfl, ?_⟩
        refine ⟨n, e, t, zs, rfl, hpe, ht, ?_⟩
        cases ho : oneD zs e with
        | false =>
          rw [badS_not ho] at hb
          rw [hb] at k
          simp only [Bool.not_false, if_true]
          exact k
        | true =>
          obtain ⟨z, rfl, hz⟩ := oneD_iff.mp ho
          simp only [Bool.not_true, Bool.false_eq_true, if_false, qSeq, qAsg, qTup, qCons, qNil, qOp, qUn, qC, qCall, qVar, qLst, newL_f, qIfS, qTB, qNext, qRet, qDrop, qFor, qCB, qAug, qSl, qPart, qNoPart, gNameD, gSub_eq, dInt_i, dInt0_i, dAdd_i, dCmpI_i, List.set_cons_zero, List.set_cons_succ, List.getElem?_cons_zero, List.getElem?_cons_succ, List.append_nil]
          have hnx : (es.take (i + 1)) = (seen ++ [z]).map D.str := by rw [List.take_add_one, he, hsn]; simp
          refine seq_cut hs ?_ ?_ <;> rw [hsn] <;> first | rw [textsD_t z] | rw [textsD_x z]
          all_goals
            by_cases hin : z ∈ seen
            · rw [badS, if_neg (by simp [hin])] at hb
              rw [hb] at k
              simp only [hin, decide_true, if_true]
              exact k
            · rw [badS, if_pos (by simp [hz, hin])] at hb
              simp only [hin, decide_false, Bool.false_eq_true, if_false]
              exact hR _ _ ⟨seen ++ [z], _, _, rfl, hnx, rfl, hb⟩
      · obtain ⟨seen, p2, p3, rfl, hsn, rfl, hb⟩ := hI
        refine ⟨trivial, ?_⟩
        rw [List.drop_length, badS] at hb
        rw [hb] at k
        exact k
/-! ### no fault -/
abbrev Row_ := Str × Int
def plD (r : Row_) : D := .tup [.str r.1, .int r.2]
def RowOk (r : Row_) : Prop := nameS r.1 = true ∧ 1 ≤ r.2 ∧ r.2 ≤ 4
theorem badP_ok : ∀ (rows : List Row_) (seen : List Str) (i : Nat), (∀ r ∈ rows, RowOk r) → (seen ++ rows.map (·.1)).Nodup → badP seen i (rows.map plD) = none
  | [], _, _, _, _ => rfl
  | r :: rows, seen, i, h, hd => by
    have h1 := h r (List.mem_cons_self ..)
    have hp : placeD (plD r) = true := placeD_iff.mpr ⟨_, _, rfl, h1⟩
    have hn : nameOf (plD r) = r.1 := rfl
    rw [List.map_cons] at hd ⊢
    have hni : r.1 ∉ seen := fun z => (List.nodup_append.mp hd).2.2 _ z _ (List.mem_cons_self ..) rfl
    rw [badP, hp, hn, if_pos (by simp [hni])]
    exact badP_ok rows _ _ (fun x hx => h x (List.mem_cons_of_mem _ hx)) (by rw [List.append_assoc]; exact hd)
theorem badS_ok (zs : List Str) : ∀ (ss seen : List Str) (i : Nat), (∀ z ∈ ss, z ∈ zs) → (seen ++ ss).Nodup → badS zs i seen (ss.map .str) = none
  | [], _, _, _, _ => rfl
  | z :: ss, seen, i, h, hd => by
    have hni : z ∉ seen := fun q => (List.nodup_append.mp hd).2.2 _ q _ (List.mem_cons_self ..) rfl
    rw [List.map_cons, badS, if_pos (by simp [hni, h z (List.mem_cons_self ..)])]
    exact badS_ok zs ss _ _ (fun x hx => h x (List.mem_cons_of_mem _ hx)) (by rw [List.append_assoc]; exact hd)
def riskD (rows : List Row_) : List (Key × D) := rows.map fun r => (.inr r.1, .int r.2)
theorem risk_pairs : ∀ rows : List Row_, pairsD (rows.map plD) = some (riskD rows)
  | [] => rfl
  | r :: rows => by
    have := risk_pairs rows
    rw [List.map_cons, plD]
    show (match keyD (.str r.1), pairsD (rows.map plD) with | some k, some ks => some ((k, D.int r.2) :: ks) | _, _ => none) = _
    rw [this]; rfl
theorem risk_val (rows : List Row_) (z : Str) : (valD (riskD rows) (.inr z)).isSome = decide (z ∈ rows.map (·.1)) := by
  unfold valD riskD
  rw [Option.isSome_map]
  induction rows with
  | nil => simp
  | cons y r ih =>
    rw [List.map_cons, List.find?_cons]
    by_cases e : y.1 = z
    · subst e; simp
    · have e1 : decide ((Sum.inr y.1 : Key) = Sum.inr z) = false := decide_eq_false fun q => e (by injection q)
      rw [e1, ih]
      apply decide_eq_decide.mpr
      simp [Ne.symm e]
theorem risk_putAll : ∀ (rows pre : List Row_), ((pre ++ rows).map (·.1)).Nodup → putAllD (riskD pre) (riskD rows) = riskD (pre ++ rows)
  | [], pre, _ => by simp [putAllD, riskD]
  | r :: rows, pre, hd => by
    have hni : r.1 ∉ pre.map (·.1) := fun q => by
      rw [List.map_append] at hd
      exact (List.nodup_append.mp hd).2.2 _ q _ (by simp) rfl
    have e : putD (riskD pre) (.inr r.1) (.int r.2) = riskD (pre ++ [r]) := by
      unfold putD
      rw [if_neg]
      · simp [riskD]
      · rw [List.any_eq_true]
        rintro ⟨kv, hk, e⟩
        obtain ⟨y, hy, rfl⟩ := List.mem_map.mp hk
        have e2 := of_decide_eq_true e
        injection e2 with e2
        exact hni (List.mem_map.mpr ⟨y, hy, e2⟩)
    have ih := risk_putAll rows (pre ++ [r]) (by rw [List.append_assoc]; exact hd)
    rw [List.append_assoc] at ih
    show putAllD (putD (riskD pre) (.inr r.1) (.int r.2)) (riskD rows) = _
    rw [e, ih]; rfl
theorem zip_split {α β : Type} : ∀ l : List (α × β), (l.map (·.1)).zip (l.map (·.2)) = l
  | [] => rfl
  | p :: r => by simp [zip_split r]
def risksD (rows : List Row_) : D := .dct ((riskD rows).map (·.1)) ((riskD rows).map (·.2))
theorem textsD_risk {M : Mst} {rows : List Row_} : TextsD M (rows.map (·.1)) (risksD rows) := fun z Q => by
  unfold dIn risksD
  simp only [dgetD, keyD, Option.map_some, zip_split, risk_val, Bool.false_xor]
def qNeed (c_NoGround : Addr) : DTS :=
  (qIfS (qTB (qOp (dIs true) (qVar 1) (qC .non)))
  (qRaise c_NoGround [(PySem.Str.ofString "part"), (PySem.Str.ofString "at")] (qCons (qVar 0) (qCons (qVar 1) qNil)))
  qNext)
def spNeed0 : DSp := fun ds M Q _ => ∃ x : D, ds = [x, .non] ∧ Q .non M
theorem need0_ok (c : Addr) (ds : List D) (M : Mst) (Q : DK) (Ed : DX → Mst → Prop) (h : upSp spNeed0 ds M Q Ed) : qNeed c (fun x _ M => Ed x M) (retE Q) (startD ["part", "at"] ds) M := by
  obtain ⟨Q0, E0, ⟨x, rfl, k0⟩, kq, _⟩ := h
  have k : Q .non M := kq _ _ _ (Sub.refl _) k0
  show qNeed _ _ _ [some x, some .non] M
  simp only [qNeed, qSeq, qAsg, qTup, qCons, qNil, qOp, qUn, qC, qCall, qVar, qLst, newL_f, qIfS, qTB, qNext, qRet, qDrop, qFor, qCB, qAug, qSl, qPart, qNoPart, gNameD, gSub_eq, dInt_i, dInt0_i, dAdd_i, dCmpI_i, List.set_cons_zero, List.set_cons_succ, List.getElem?_cons_zero, List.getElem?_cons_succ, List.append_nil, z_isnot, isNon, Bool.not_true, Bool.false_eq_true, if_false]
  exact k
def qRoads (sp_is_road : DSp) : DTS :=
  (qSeq (qIfS (qOr (qNot (qTB (qCB dIsi (qCons (qVar 1) (qCons (qC (.ty "tuple")) qNil))))) (qTB (qOp (dCmpI fun i j => decide (j < i)) (qCB dLen (qCons (qVar 1) qNil)) (qC (.int 80)))))
  (qRet (qUn dNeg (qC (.int 1))))
  qNext)
  (qSeq (qAsg qDNew (gNameD 2))
  (qSeq (qFor (qiEnum0 (qCons (qVar 1) qNil)) (gTupD 2 (gConsD (gNameD 3) (gConsD (gNameD 4) gNilD)))
  (qSeq (qIfS (qOr (qNot (qTB (qCall sp_is_road [] (qCons (qVar 0) (qCons (qVar 4) qNil))))) (qTB (qOp (dIn false) (qCB dTuple (qCons (qCB (dSorted false) (qCons (qSl false (qVar 4) qNoPart (qPart (qC (.int 2)))) qNil)) qNil)) (qVar 2))))
  (qRet (qVar 3))
  qNext)
  (qAsg (qC (.bl true)) (gSubD (qVar 2) (qCB dTuple (qCons (qCB (dSorted false) (qCons (qSl false (qVar 4) qNoPart (qPart (qC (.int 2)))) qNil)) qNil))))))
  (qRet (qC .non)))))
def spRoads0 : DSp := fun ds M Q _ => ∃ x : D, ds = [x, .tup []] ∧ Q .non M
theorem roads0_ok (p : DSp) (ds : List D) (M : Mst) (Q : DK) (Ed : DX → Mst → Prop) (h : upSp spRoads0 ds M Q Ed) : qRoads p (fun x _ M => Ed x M) (retE Q) (startD ["names", "thing", "seen", "at", "one"] ds) M := by
  obtain ⟨Q0, E0, ⟨x, rfl, k0⟩, kq, _⟩ := h
  have k : ∀ M', Sub M M' → Q .non M' := fun M' S => kq _ _ _ S k0
  show qRoads _ _ _ [some x, some (.tup []), none, none, none] M
  simp only [qRoads, qOr, qNot, qSeq, qAsg, qTup, qCons, qNil, qOp, qUn, qC, qCall, qVar, qLst, newL_f, qIfS, qTB, qNext, qRet, qDrop, qFor, qCB, qAug, qSl, qPart, qNoPart, gNameD, gSub_eq, dInt_i, dInt0_i, dAdd_i, dCmpI_i, List.set_cons_zero, List.set_cons_succ, List.getElem?_cons_zero, List.getElem?_cons_succ, List.append_nil, z_isi_tup_tup, Bool.not_true, Bool.false_eq_true, if_false, z_len_tup, List.length_nil]
  intro a ha
  exact ⟨trivial, k _ ((Sub.refl M).put ha)⟩
abbrev FG : List Str := [(PySem.Str.ofString "risks"), (PySem.Str.ofString "places"), (PySem.Str.ofString "roads"), (PySem.Str.ofString "stations")]
structure GrOk (rows : List Row_) (ss : List Str) : Prop where
  ok : ∀ r ∈ rows, RowOk r
  nd : (rows.map (·.1)).Nodup
  l0 : 1 ≤ rows.length
  l1 : rows.length ≤ 40
  si : ∀ z ∈ ss, z ∈ rows.map (·.1)
  sd : ss.Nodup
  sl : ss.length ≤ 12
theorem nameS_tx {z : Str} (h : nameS z = true) : Tx_ 8 z := by
  unfold nameS lettB at h
  simp only [Bool.and_eq_true, decide_eq_true_eq, List.all_eq_true] at h
  exact ⟨fun c hc => by have := h.2 c hc; omega, h.1.2⟩
theorem GrOk.places {rows : List Row_} {ss : List Str} (h : GrOk rows ss) : Th 40 (.xtp (rows.map plD)) := .xt (by rw [List.length_map]; exact h.l1) fun d hd => by
  obtain ⟨r, hr, rfl⟩ := List.mem_map.mp hd
  refine .tup (by simp) fun e he => ?_
  simp only [List.mem_cons, List.not_mem_nil, or_false] at he
  rcases he with rfl | rfl
  · exact .str ((nameS_tx (h.ok r hr).1).mono (by decide))
  · exact .int _
theorem GrOk.stations {rows : List Row_} {ss : List Str} (h : GrOk rows ss) : Th 40 (.xtp (ss.map .str)) := .xt (by rw [List.length_map]; exact Nat.le_trans h.sl (by decide)) fun d hd => by
  obtain ⟨z, hz, rfl⟩ := List.mem_map.mp hd
  obtain ⟨r, hr, rfl⟩ := List.mem_map.mp (h.si z hz)
  exact .str ((nameS_tx (h.ok r hr).1).mono (by decide))
def qGround (c_Ground : Addr) (sp_need : DSp) (sp_places_fault : DSp) (sp_roads_fault : DSp) (sp_stations_fault : DSp) : DTS :=
  (qSeq (qDrop (qCall sp_need [] (qCons (qC (.str (PySem.Str.ofString "places"))) (qCons (qCall sp_places_fault [] (qCons (qVar 1) qNil)) qNil))))
  (qSeq (qSetF c_Ground FG 0 (PySem.Str.ofString "risks") (qVar 0) (qFrzE (qCB dDict (qCons (qVar 1) qNil))))
  (qSeq (qDrop (qCall sp_need [] (qCons (qC (.str (PySem.Str.ofString "roads"))) (qCons (qCall sp_roads_fault [] (qCons (qFld c_Ground FG 0 (qVar 0)) (qCons (qVar 2) qNil))) qNil))))
  (qSeq (qDrop (qCall sp_need [] (qCons (qC (.str (PySem.Str.ofString "stations"))) (qCons (qCall sp_stations_fault [] (qCons (qFld c_Ground FG 0 (qVar 0)) (qCons (qVar 3) qNil))) qNil))))
  (qSeq (qSetF c_Ground FG 1 (PySem.Str.ofString "places") (qVar 0) (qVar 1))
  (qSeq (qSetF c_Ground FG 2 (PySem.Str.ofString "roads") (qVar 0) (qVar 2))
  (qSetF c_Ground FG 3 (PySem.Str.ofString "stations") (qVar 0) (qVar 3))))))))
def grD (rows : List Row_) (ss : List Str) : List D := [risksD rows, .xtp (rows.map plD), .tup [], .xtp (ss.map .str)]
def spGround0 (c : Addr) : DSp := fun ds M Q _ => ∃ (a : Addr) (rows : List Row_) (ss : List Str), ds = [.ref a, .xtp (rows.map plD), .tup [], .xtp (ss.map .str)] ∧ M a = some (.ins c []) ∧ GrOk rows ss ∧ Q .non (put M a (.ins c (FG.zip (grD rows ss))))
theorem ground0_ok (c : Addr) (ds : List D) (M : Mst) (Q : DK) (Ed : DX → Mst → Prop) (h : upSp (spGround0 c) ds M Q Ed) : qGround c spNeed0 spPlaces spRoads0 spStations (fun x _ M => Ed x M) (retE Q) (startD ["self", "places", "roads", "stations"] ds) M := by
  obtain ⟨Q0, E0, ⟨a, rows, ss, rfl, ha, g, k0⟩, kq, _⟩ := h
  have k : Q .non (put M a (.ins c (FG.zip (grD rows ss)))) := kq _ _ _ (Sub.refl _) k0
  show qGround _ _ _ _ _ _ _ [some (.ref a), some (.xtp (rows.map plD)), some (.tup []), some (.xtp (ss.map .str))] M
  simp only [qGround, qSetF, qFld, qFrzE, qSeq, qAsg, qTup, qCons, qNil, qOp, qUn, qC, qCall, qVar, qLst, newL_f, qIfS, qTB, qNext, qRet, qDrop, qFor, qCB, qAug, qSl, qPart, qNoPart, gNameD, gSub_eq, dInt_i, dInt0_i, dAdd_i, dCmpI_i, List.set_cons_zero, List.set_cons_succ, List.getElem?_cons_zero, List.getElem?_cons_succ, List.append_nil]
  have f1 : faultP (.xtp (rows.map plD)) = none := by
    have l0 := g.l0
    have l1 := g.l1
    show (if (decide (1 ≤ (rows.map plD).length) && decide ((rows.map plD).length ≤ 40)) = true then (badP [] 0 (rows.map plD)).map fun i : Nat => (i : Int) else some (-1)) = none
    rw [if_pos (by simp [l0, l1]), badP_ok rows [] 0 g.ok (by simpa using g.nd)]; rfl
  have f2 : faultS (rows.map (·.1)) (.xtp (ss.map .str)) = none := by
    have l0 := g.sl
    show (if decide (12 < (ss.map D.str).length) = true then some (-1) else (badS (rows.map (·.1)) 0 [] (ss.map D.str)).map fun i : Nat => (i : Int)) = none
    rw [if_neg (by simp; omega), badS_ok _ ss [] 0 g.si (by simpa using g.sd)]; rfl
  refine ⟨40, _, rfl, by decide, g.places, ?_⟩
  rw [f1]
  refine ⟨_, rfl, ?_⟩
  simp only [dDict, risk_pairs]
  refine ⟨by simp [riskD]; have := g.l1; omega, fun p hp => ?_⟩
  have e := risk_putAll rows [] (by simpa using g.nd)
  rw [show riskD [] = [] from rfl, List.nil_append] at e
  simp only [put_same, e, del_put hp, ha, List.map_nil, List.length_nil, List.take_zero, Nat.zero_le, true_and]
  refine ⟨by decide, ?_⟩
  have i0 : ∀ (M : Mst) fs, M a = some (.ins c fs) → insD M (.ref a) = some (c, fs.map (·.1), fs.map (·.2)) := fun M fs h => by simp [insD, res, h]
  simp only [i0 _ _ put_same, setAt, List.length_nil, Nat.lt_irrefl, if_false, List.nil_append, List.map_cons, List.map_nil, List.getElem?_cons_zero]
  refine ⟨trivial, rfl, _, rfl, _, rfl, ?_⟩
  simp only [i0 _ _ put_same]
  refine ⟨trivial, rfl, 40, _, _, _, rfl, by decide, textsD_risk, g.stations, ?_⟩
  rw [f2]
  refine ⟨_, rfl, ?_⟩
  simp only [put_same, put_put]
  exact ⟨trivial, rfl, Nat.le_refl 1, by decide, rfl, Nat.le_refl 2, by decide, rfl, Nat.le_refl 3, by decide, k⟩
end DL

/-! PlD: what the laws of engines and hands draw. -/
namespace DL
open PySem L2 Tx20 Tx21
section
variable {n : Nat} {x : D} {M : Mst} {Q : DK}
theorem pl_t0 : Pl n (.tup []) := .tup (Nat.zero_le _) fun _ h => by cases h
theorem pl_l0 : Pl n (.lst []) := .lst (Nat.zero_le _) fun _ h => by cases h
theorem pl_t1 (hn : 1 ≤ n) (h : Pl n x) : Pl n (.tup [x]) := .tup hn fun _ hd => by rw [List.mem_singleton] at hd; subst hd; exact h
theorem pl_l1 (hn : 1 ≤ n) (h : Pl n x) : Pl n (.lst [x]) := .lst hn fun _ hd => by rw [List.mem_singleton] at hd; subst hd; exact h
theorem atI_ok {α : Type} {xs : List α} {i : Int} (h0 : -(xs.length : Int) ≤ i) (h1 : i < xs.length) : ∃ x, atI xs i = some x ∧ x ∈ xs := by
  by_cases h : 0 ≤ i
  · exact atI_some h h1
  · unfold atI ixN
    rw [if_neg h, if_pos h0]
    have hj : (i + xs.length).toNat < xs.length := by omega
    exact ⟨_, List.getElem?_eq_getElem hj, List.getElem_mem hj⟩
theorem pick_x {ds : List D} {r : Int} (h0 : 0 ≤ r) (h1 : r < ds.length) (h : ∀ d ∈ ds, Q d M) : dIx (.xtp ds) (.int r) M Q := by
  obtain ⟨x, hx, hm⟩ := atI_some h0 h1
  rw [ix_x hx]; exact h x hm
theorem cut_from1 {α : Type} (xs : List α) (k : Nat) : cutX xs (some ((k : Int) + 1)) none = xs.drop (k + 1) := cut_from xs (k + 1)
theorem cut_to0 {α : Type} (xs : List α) : cutX xs none (some (1 : Int)) = xs.take 1 := cut_to xs 1
theorem cut_from0 {α : Type} (xs : List α) : cutX xs (some (1 : Int)) none = xs.drop 1 := cut_from xs 1
theorem cut_to3 {α : Type} (xs : List α) : cutX xs none (some (3 : Int)) = xs.take 3 := cut_to xs 3
end
/-! ### any thing -/
/-- i ** j of written numbers, its value kept shut -/
def qPowN (i j : Int) : DTE := qOp (dInt CPow fun i j => i ^ j.toNat) (qC (.int i)) (qC (.int j))
theorem powN_ok {i : Int} {j : Nat} (h0 : 0 ≤ i) (h1 : i < 18446744073709551616) (hj : j ≤ 1000000) : ∃ big : Int, ∀ DW p M Q, Q (.int big) M → qPowN i (j : Int) DW p M Q := ⟨i ^ (j : Int).toNat, fun DW p M Q h => ⟨cpow_small h0 h1 hj, h⟩⟩
def qAnyL : DTE := (qLst false (qCons (qC .non) (qCons (qC (.bl true)) (qCons (qC (.bl false)) (qCons (qC (.int 0)) (qCons (qC (.int 1)) (qCons (qUn dNeg (qC (.int 1))) (qCons (qC (.int 2)) (qCons (qC (.int 59)) (qCons (qC (.int 60)) (qCons (qPowN 10 59) (qCons (qC (.str (PySem.Str.ofString ""))) (qCons (qC (.str (PySem.Str.ofString "a"))) (qCons (qC (.str (PySem.Str.ofString "A"))) (qCons (qC (.str (PySem.Str.ofString "abcdefghi"))) (qCons (qLst false qNil) (qCons (qTup qNil) (qCons (qLst false (qCons (qC (.int 0)) qNil)) (qCons (qTup (qCons (qC (.int 0)) qNil)) (qCons (qTup (qCons (qLst false qNil) qNil)) qNil))))))))))))))))))))
theorem cc {d : D} {rest : DTA} {DW p} {QA : List D → Mst → Prop} (h : rest DW p M (fun ds M => QA (d :: ds) M)) : qCons (qC d) rest DW p M QA := h
theorem cc_neg {i : Int} {rest : DTA} {DW p} {QA : List D → Mst → Prop} (h : rest DW p M (fun ds M => QA (.int (-i) :: ds) M)) : qCons (qUn dNeg (qC (.int i))) rest DW p M QA := h
theorem cc_pow {rest : DTA} {DW p} {QA : List D → Mst → Prop} (h : ∀ big, rest DW p M (fun ds M => QA (.int big :: ds) M)) : qCons (qPowN 10 59) rest DW p M QA := ⟨cpow_small (j := 59) (by decide) (by decide) (by decide), h _⟩
theorem cc_l0 {rest : DTA} {DW p} {QA : List D → Mst → Prop} (h : rest DW p M (fun ds M => QA (.lst [] :: ds) M)) : qCons (qLst false qNil) rest DW p M QA := ⟨Nat.zero_le _, h⟩
theorem cc_t0 {rest : DTA} {DW p} {QA : List D → Mst → Prop} (h : rest DW p M (fun ds M => QA (.tup [] :: ds) M)) : qCons (qTup qNil) rest DW p M QA := ⟨Nat.zero_le _, h⟩
theorem cc_l1 {d : D} {rest : DTA} {DW p} {QA : List D → Mst → Prop} (h : rest DW p M (fun ds M => QA (.lst [d] :: ds) M)) : qCons (qLst false (qCons (qC d) qNil)) rest DW p M QA := ⟨by simp, h⟩
theorem cc_t1 {d : D} {rest : DTA} {DW p} {QA : List D → Mst → Prop} (h : rest DW p M (fun ds M => QA (.tup [d] :: ds) M)) : qCons (qTup (qCons (qC d) qNil)) rest DW p M QA := ⟨by simp, h⟩
theorem cc_tl {rest : DTA} {DW p} {QA : List D → Mst → Prop} (h : rest DW p M (fun ds M => QA (.tup [.lst []] :: ds) M)) : qCons (qTup (qCons (qLst false qNil) qNil)) rest DW p M QA := ⟨Nat.zero_le _, by decide, h⟩
theorem cc_lst {qa : DTA} {DW p} (h : qa DW p M (fun ds M1 => ds.length ≤ 100000 ∧ Q (.lst ds) M1)) : qLst false qa DW p M Q := h
def anyL (big : Int) : List D := [.non, .bl true, .bl false, .int 0, .int 1, .int (-1), .int 2, .int 59, .int 60, .int big, .str (PySem.Str.ofString ""), .str (PySem.Str.ofString "a"), .str (PySem.Str.ofString "A"), .str (PySem.Str.ofString "abcdefghi"), .lst [], .tup [], .lst [.int 0], .tup [.int 0], .tup [.lst []]]
theorem anyL_pl {big : Int} : ∀ d ∈ anyL big, Pl 9 d := by
  intro d hd
  simp only [anyL, List.mem_cons, List.not_mem_nil, or_false] at hd
  rcases hd with rfl | rfl | rfl | rfl | rfl | rfl | rfl | rfl | rfl | rfl | rfl | rfl | rfl | rfl | rfl | rfl | rfl | rfl | rfl
  · exact .non
  · exact .bl _
  · exact .bl _
  · exact .int _
  · exact .int _
  · exact .int _
  · exact .int _
  · exact .int _
  · exact .int _
  · exact .int _
  · exact .str (tx_of (by decide +kernel))
  · exact .str (tx_of (by decide +kernel))
  · exact .str (tx_of (by decide +kernel))
  · exact .str (tx_of (by decide +kernel))
  · exact pl_l0
  · exact pl_t0
  · exact pl_l1 (by decide) (.int _)
  · exact pl_t1 (by decide) (.int _)
  · exact pl_t1 (by decide) pl_l0
theorem anyL_lst {DW p} (h : ∀ big, Q (.lst (anyL big)) M) : qAnyL DW p M Q := cc_lst <| cc <| cc <| cc <| cc <| cc <| cc_neg <| cc <| cc <| cc <| cc_pow fun big => cc <| cc <| cc <| cc <| cc_l0 <| cc_t0 <| cc_l1 <| cc_t1 <| cc_tl <| ⟨by simp only [List.length_cons, List.length_nil]; omega, h big⟩
def qLAny (sp__law_take : DSp) : DTS :=
  (qSeq (qAsg qAnyL (gNameD 1))
  (qRet (qOp dIx (qVar 1) (qCall sp__law_take [] (qCons (qVar 0) (qCons (qC (.int 19)) qNil))))))
def spAny : DSp := fun ds M Q _ => ∃ b : Addr, ds = [.ref b] ∧ M b = some .bag ∧ ∀ d, Pl 9 d → Q d M
theorem seq_asg {qe : DTE} {g : DTG} {q2 : DTS} {DW : DWt} {DE : DEnds} {p : Rho} (h : qe DW p M fun d M1 => g d DW p M1 fun p M2 => q2 DW DE p M2) : qSeq (qAsg qe g) q2 DW DE p M := h
theorem any_rest {b : Addr} {ls : List D} {Ed : DX → Mst → Prop} (hb : M b = some .bag) (h : ∀ d ∈ ls, Q d M) (hl : ls.length = 19 := by rfl) : gNameD 1 (.lst ls) (fun x _ M => Ed x M) [some (.ref b), none] M fun p M2 => qRet (qOp dIx (qVar 1) (qCall spTake [] (qCons (qVar 0) (qCons (qC (.int 19)) qNil)))) (fun x _ M => Ed x M) (retE Q) p M2 :=
  take_call (n := 19) (E := Ed) (Q := fun x M => dIx (.lst ls) x M Q) hb (by decide) (by decide) fun r r0 r1 => pick_l (ds := ls) r0 (by rw [hl]; exact r1) h
theorem any_ok (ds : List D) (M : Mst) (Q : DK) (Ed : DX → Mst → Prop) (h : upSp spAny ds M Q Ed) : qLAny spTake (fun x _ M => Ed x M) (retE Q) (startD ["_law_bag_here", "_law_some"] ds) M := by
  obtain ⟨Q0, E0, ⟨b, rfl, hb, k0⟩, kq, _⟩ := h
  have k : ∀ d, Pl 9 d → Q d M := fun d hd => kq _ _ _ (Sub.refl _) (k0 d hd)
  show qSeq (qAsg qAnyL (gNameD 1)) (qRet (qOp dIx (qVar 1) (qCall spTake [] (qCons (qVar 0) (qCons (qC (.int 19)) qNil))))) (fun x _ M => Ed x M) (retE Q) [some (.ref b), none] M
  refine seq_asg (anyL_lst fun big => ?_)
  exact any_rest hb fun d hd => k d (anyL_pl d hd)
end DL

/-! PlN: names drawn. -/
namespace DL
open PySem L2 Tx20 Tx21
/-! ### names -/
def qLNames (sp__law_take : DSp) : DTS :=
  (qSeq (qAsg (qC (.str (PySem.Str.ofString "abcdefghijklmnopqrstuvwxyz"))) (gNameD 2))
  (qSeq (qPar 3 4 (qCons (qCall sp__law_take [] (qCons (qVar 0) (qCons (qC (.int 2)) qNil))) (qCons (qCall sp__law_take [] (qCons (qVar 0) (qCons (qC (.int 26)) qNil))) qNil)))
  (qSeq (qAsg (qLst true qNil) (gNameD 5))
  (qSeq (qFor (qiRng1 (qCons (qVar 1) qNil)) (gNameD 6)
  (qSeq (qAsg (qBM "str" mJoin (qC (.str (PySem.Str.ofString ""))) (qCons (qLc false (qiRng1 (qCons (qOp dIx (qTup (qCons (qC (.int 0)) (qCons (qC (.int 1)) (qCons (qC (.int 2)) (qCons (qC (.int 7)) qNil))))) (qCall sp__law_take [] (qCons (qVar 0) (qCons (qC (.int 4)) qNil)))) qNil)) (gNameD 9) qYes (qOp dIx (qVar 2) (qCall sp__law_take [] (qCons (qVar 0) (qCons (qC (.int 26)) qNil)))) [9]) qNil)) (gNameD 7))
  (qSeq (qAsg (qOp dIx (qVar 2) (qOp (dInt (fun _ j => 0 < j) fun i j => i % j) (qOp (dAdd false) (qVar 4) (qOp (dInt CMul fun i j => i * j) (qC (.int 7)) (qVar 6))) (qC (.int 26)))) (gNameD 8))
  (qDrop (qBM "list" mApp (qVar 5) (qCons (qIf (qTB (qOp (dEq false) (qVar 3) (qC (.int 0)))) (qOp (dAdd false) (qVar 8) (qVar 7)) (qOp (dAdd false) (qVar 7) (qVar 8))) qNil))))))
  (qFrz 5 (qRet (qVar 5)))))))
/-- signs drawn, told by a relation -/
theorem ones_of {P : Nat → Prop} {ds ys : List D} (h : All2 (fun _ y => ∃ c : Nat, y = .str (one c) ∧ P c) ds ys) : ∃ cs : List Nat, ys = (cs.map one).map D.str ∧ cs.length = ds.length ∧ ∀ c ∈ cs, P c := by
  induction h with
  | nil => exact ⟨[], rfl, rfl, fun _ h => (by cases h)⟩
  | cons h _ ih =>
    obtain ⟨c, rfl, hz⟩ := h
    obtain ⟨w, e, l, a⟩ := ih
    exact ⟨c :: w, by simp [e], by simp [l], fun x hx => by
      rcases List.mem_cons.mp hx with rfl | hx
      · exact hz
      · exact a x hx⟩
def Low (c : Nat) : Prop := 97 ≤ c ∧ c ≤ 122
theorem lett_low : ∀ c ∈ (PySem.Str.ofString "abcdefghijklmnopqrstuvwxyz").cps.toList, 97 ≤ c ∧ c ≤ 122 := by decide +kernel
theorem lett_at : ∀ i, i < 26 → (PySem.Str.ofString "abcdefghijklmnopqrstuvwxyz").cps.toList[i]? = some (97 + i) := by decide +kernel
/-- letters[i] -/
theorem ix_lett {i : Nat} {M : Mst} {Q : DK} (hi : i < 26) (h : Q (.str (one (97 + i))) M) : dIx (.str (PySem.Str.ofString "abcdefghijklmnopqrstuvwxyz")) (.int (i : Int)) M Q := by
  unfold dIx
  simp only [dgetD, res_str, atI_n, lett_at i hi]
  exact h
def ownN (s j : Nat) : Nat := 97 + (s + 7 * j) % 26
def endC (f : Int) (z : Str) : Nat := if f = 0 then z.cps.toList.headD 0 else z.cps.toList.getLastD 0
theorem own_nd : ∀ s, s < 26 → ((List.range 26).map (ownN s)).Nodup := by decide +kernel
theorem own_ndm {s m : Nat} (hs : s < 26) (hm : m ≤ 26) : ((List.range m).map (ownN s)).Nodup := by
  have h := own_nd s hs
  have e : (List.range m).map (ownN s) = ((List.range 26).map (ownN s)).take m := by rw [← List.map_take, List.take_range, Nat.min_eq_left hm]
  rw [e]
  exact h.sublist (List.take_sublist ..)
theorem nameS_of {z : Str} (h0 : 1 ≤ z.length) (h1 : z.length ≤ 8) (h : ∀ c ∈ z.cps.toList, Low c) : nameS z = true := by
  unfold nameS lettB
  simp only [Bool.and_eq_true, decide_eq_true_eq, List.all_eq_true]
  exact ⟨⟨h0, h1⟩, fun c hc => h c hc⟩
theorem app_list {x y : Str} : (x ++ y).cps.toList = x.cps.toList ++ y.cps.toList := by
  show (x.cps ++ y.cps).toList = _
  rw [Array.toList_append]
theorem nd_of_map {α β : Type} {f : α → β} : ∀ {l : List α}, (l.map f).Nodup → l.Nodup
  | [], _ => List.nodup_nil
  | x :: l, h => by
    rw [List.map_cons, List.nodup_cons] at h
    rw [List.nodup_cons]
    exact ⟨fun hx => h.1 (List.mem_map_of_mem hx), nd_of_map h.2⟩
def spLNames : DSp := fun ds M Q _ => ∃ (b : Addr) (m : Nat), ds = [.ref b, .int (m : Int)] ∧ M b = some .bag ∧ m ≤ 26 ∧ ∀ zs : List Str, zs.length = m → zs.Nodup → (∀ z ∈ zs, nameS z = true) → Q (stL zs) M
theorem names_ok (ds : List D) (M : Mst) (Q : DK) (Ed : DX → Mst → Prop) (h : upSp spLNames ds M Q Ed) : qLNames spTake (fun x _ M => Ed x M) (retE Q) (startD ["_law_bag_here", "_law_many_here", "_law_letters", "_law_first", "_law_shift", "_law_found", "_law_k", "_law_stem", "_law_own", "_law_step"] ds) M := by
  obtain ⟨Q0, E0, ⟨b, m, rfl, hb, hm, k0⟩, kq, _⟩ := h
  have k : ∀ zs : List Str, zs.length = m → zs.Nodup → (∀ z ∈ zs, nameS z = true) → Q (stL zs) M := fun zs a c d => kq _ _ _ (Sub.refl _) (k0 zs a c d)
  show qLNames _ _ _ [some (.ref b), some (.int (m : Int)), none, none, none, none, none, none, none, none] M
  simp only [qLNames, qPar, qFrz, qBM, qSeq, qAsg, qTup, qCons, qNil, qOp, qUn, qC, qCall, qVar, qLst, newL_f, qIfS, qTB, qNext, qRet, qDrop, qFor, qCB, qAug, qSl, qPart, qNoPart, gNameD, gSub_eq, dInt_i, dInt0_i, dAdd_i, dCmpI_i, List.set_cons_zero, List.set_cons_succ, List.getElem?_cons_zero, List.getElem?_cons_succ, List.append_nil, z_l0, z_l1, z_l2, z_l3, z_l4, z_l5, z_l6, z_l7, z_l8, z_l9, z_l19, z_l24, z_l25, true_and, newL_t]
  refine take_call hb (by decide) (by decide) fun f f0 f1 => take_call hb (by decide) (by decide) fun sh s0 s1 => ?_
  obtain ⟨s, rfl⟩ : ∃ s : Nat, sh = (s : Int) := ⟨sh.toNat, by omega⟩
  have s26 : s < 26 := by omega
  intro l hl
  have nbl := ne_of_some hb hl
  simp only [qiRng1, qSeq, qAsg, qTup, qCons, qNil, qOp, qUn, qC, qCall, qVar, qLst, newL_f, qIfS, qTB, qNext, qRet, qDrop, qFor, qCB, qAug, qSl, qPart, qNoPart, gNameD, gSub_eq, dInt_i, dInt0_i, dAdd_i, dCmpI_i, List.set_cons_zero, List.set_cons_succ, List.getElem?_cons_zero, List.getElem?_cons_succ, List.append_nil, z_l0, z_l1, z_l2, z_l3, z_l4, z_l5, z_l6, z_l7, z_l8, z_l9, z_l19, z_l24, z_l25, true_and]
  refine ⟨by omega, by omega, ?_⟩
  refine loopL_inv (fun i p M' => ∃ (zs : List Str) (x6 x7 x8 x9 : Option D), p = [some (.ref b), some (.int (m : Int)), some (.str (PySem.Str.ofString "abcdefghijklmnopqrstuvwxyz")), some (.int f), some (.int (s : Int)), some (.ref l), x6, x7, x8, x9] ∧ M' = put M l (.lst (zs.map .str)) ∧ zs.map (endC f) = (List.range i).map (ownN s) ∧ ∀ z ∈ zs, nameS z = true) (n := m) (by simp) (fun i d p M' R hd hI hR => ?_) (fun p M' hI => ?_)
    ⟨[], none, none, none, none, rfl, rfl, rfl, fun _ h => by cases h⟩
  · obtain ⟨zs, x6, x7, x8, x9, rfl, rfl, hz, hn⟩ := hI
    obtain ⟨hi, rfl⟩ := range_at hd
    have hi : i < m := by simpa using hi
    have hb' : put M l (.lst (zs.map D.str)) b = some .bag := put_keep hb hl
    refine ⟨trivial, ?_⟩
    simp only [qiRng1, qBM, qLc, qSeq, qAsg, qTup, qCons, qNil, qOp, qUn, qC, qCall, qVar, qLst, newL_f, qIfS, qTB, qNext, qRet, qDrop, qFor, qCB, qAug, qSl, qPart, qNoPart, gNameD, gSub_eq, dInt_i, dInt0_i, dAdd_i, dCmpI_i, List.set_cons_zero, List.set_cons_succ, List.getElem?_cons_zero, List.getElem?_cons_succ, List.append_nil, z_l0, z_l1, z_l2, z_l3, z_l4, z_l5, z_l6, z_l7, z_l8, z_l9, z_l19, z_l24, z_l25, true_and]
    refine ⟨rfl, take_call hb' (by decide) (by decide) fun r r0 r1 => pick_t r0 (by simpa using r1) fun d hd => ?_⟩
    obtain ⟨q, rfl, q7⟩ : ∃ q : Nat, d = .int (q : Int) ∧ q ≤ 7 := by
      simp only [List.mem_cons, List.not_mem_nil, or_false] at hd
      rcases hd with rfl | rfl | rfl | rfl
      · exact ⟨0, rfl, by decide⟩
      · exact ⟨1, rfl, by decide⟩
      · exact ⟨2, rfl, by decide⟩
      · exact ⟨7, rfl, by decide⟩
    refine ⟨by omega, by omega, ?_⟩
    intro c hc
    refine lcR hc (fun _ => trivial) (by simp; omega) (fun _ y => ∃ c : Nat, y = .str (one c) ∧ Low c) (fun d hd M2 R2 S hR2 => ?_) fun ys hys => ?_
    · simp only [wipeD, qSeq, qAsg, qTup, qCons, qNil, qOp, qUn, qC, qCall, qVar, qLst, newL_f, qIfS, qTB, qNext, qRet, qDrop, qFor, qCB, qAug, qSl, qPart, qNoPart, gNameD, gSub_eq, dInt_i, dInt0_i, dAdd_i, dCmpI_i, List.set_cons_zero, List.set_cons_succ, List.getElem?_cons_zero, List.getElem?_cons_succ, List.append_nil, z_l0, z_l1, z_l2, z_l3, z_l4, z_l5, z_l6, z_l7, z_l8, z_l9, z_l19, z_l24, z_l25, true_and]
      refine take_call (S _ _ hb') (by decide) (by decide) fun y y0 y1 => ?_
      refine pick_s y0 (by rw [show (PySem.Str.ofString "abcdefghijklmnopqrstuvwxyz").length = 26 by decide +kernel]; exact y1) fun c hc => hR2 _ ⟨c, rfl, lett_low c hc⟩
    obtain ⟨cs, rfl, lc, hcs⟩ := ones_of hys
    have lc2 : cs.length = q := by rw [lc]; simp
    refine join_signs (fun c hc => by have := (hcs c hc).2; omega) (by omega) ?_
    refine ⟨.inr ⟨by omega, by omega⟩, by decide, ?_⟩
    have hr : ((s : Int) + 7 * (i : Int)) % 26 = (((s + 7 * i) % 26 : Nat) : Int) := by omega
    rw [hr]
    refine ix_lett (Nat.mod_lt _ (by decide)) ?_
    have ho : Low (ownN s i) := ⟨by unfold ownN; omega, by unfold ownN; have := Nat.mod_lt (s + 7 * i) (show 0 < 26 by decide); omega⟩
    rw [show 97 + (s + 7 * i) % 26 = ownN s i from rfl]
    have T : ∀ c ∈ (⟨cs.toArray⟩ : Str).cps.toList, Low c := fun c hc => hcs c (by simpa using hc)
    have L : (⟨cs.toArray⟩ : Str).length = q := by show cs.toArray.size = q; simpa using lc2
    generalize (⟨cs.toArray⟩ : Str) = st at T L
    have fin : ∀ w : Str, w.length = q + 1 → (∀ c ∈ w.cps.toList, Low c) → endC f w = ownN s i → mApp (.ref l) [.str w] (put M l (.lst (zs.map D.str))) fun _ M2 => R [some (.ref b), some (.int (m : Int)), some (.str (PySem.Str.ofString "abcdefghijklmnopqrstuvwxyz")), some (.int f), some (.int (s : Int)), some (.ref l), some (.int (i : Int)), some (.str st), some (.str (one (ownN s i))), x9] M2 := fun w h1 h2 h3 => by
      have hlen : zs.length = i := by have := congrArg List.length hz; simpa using this
      simp only [mApp, put_same, put_put]
      refine ⟨by simp; omega, hR _ _ ⟨zs ++ [w], _, _, _, _, rfl, by simp, by rw [List.map_append, hz, List.range_succ, List.map_append, List.map_singleton, List.map_singleton, h3], fun z hz => ?_⟩⟩
      rcases List.mem_append.mp hz with h | h
      · exact hn z h
      · rw [List.mem_singleton] at h; subst h; exact nameS_of (by omega) (by omega) h2
    simp only [qIf, z_eq_int, qSeq, qAsg, qTup, qCons, qNil, qOp, qUn, qC, qCall, qVar, qLst, newL_f, qIfS, qTB, qNext, qRet, qDrop, qFor, qCB, qAug, qSl, qPart, qNoPart, gNameD, gSub_eq, dInt_i, dInt0_i, dAdd_i, dCmpI_i, List.set_cons_zero, List.set_cons_succ, List.getElem?_cons_zero, List.getElem?_cons_succ, List.append_nil, z_l0, z_l1, z_l2, z_l3, z_l4, z_l5, z_l6, z_l7, z_l8, z_l9, z_l19, z_l24, z_l25, true_and, z_add_str]
    refine ⟨by simp [res, put_same, tyOk], ?_⟩
    have lone : (one (ownN s i)).length = 1 := rfl
    by_cases hf : f = 0
    · simp only [decide_eq_true hf, if_true]
      refine ⟨by omega, fin _ (by rw [len_append]; omega) (fun c hc => ?_) ?_⟩
      · rw [app_list, List.mem_append] at hc
        rcases hc with hc | hc
        · have : c = ownN s i := by simpa using hc
          rw [this]; exact ho
        · exact T c hc
      · unfold endC
        rw [if_pos hf, app_list]; rfl
    · simp only [decide_eq_false hf, Bool.false_eq_true, if_false]
      refine ⟨by omega, fin _ (by rw [len_append]; omega) (fun c hc => ?_) ?_⟩
      · rw [app_list, List.mem_append] at hc
        rcases hc with hc | hc
        · exact T c hc
        · have : c = ownN s i := by simpa using hc
          rw [this]; exact ho
      · unfold endC
        rw [if_neg hf, app_list]
        show (st.cps.toList ++ [ownN s i]).getLastD 0 = _
        simp
  · obtain ⟨zs, x6, x7, x8, x9, rfl, rfl, hz, hn⟩ := hI
    refine ⟨trivial, ?_⟩
    have hlen : zs.length = m := by have := congrArg List.length hz; simpa using this
    have nd : zs.Nodup := nd_of_map (f := endC f) (by rw [hz]; exact own_ndm s26 hm)
    simp only [qFrz, frz, qSeq, qAsg, qTup, qCons, qNil, qOp, qUn, qC, qCall, qVar, qLst, newL_f, qIfS, qTB, qNext, qRet, qDrop, qFor, qCB, qAug, qSl, qPart, qNoPart, gNameD, gSub_eq, dInt_i, dInt0_i, dAdd_i, dCmpI_i, List.set_cons_zero, List.set_cons_succ, List.getElem?_cons_zero, List.getElem?_cons_succ, List.append_nil, z_l0, z_l1, z_l2, z_l3, z_l4, z_l5, z_l6, z_l7, z_l8, z_l9, z_l19, z_l24, z_l25, true_and, put_same, del_put hl]
    exact k zs hlen nd hn
end DL

/-! PlE: the drawn ground of engines and hands; rows bent; names unlike. -/
namespace DL
open PySem L2 Tx20 Tx21
def qLGround (c_Ground : Addr) (sp_Ground___init__ : DSp) (sp__law_names : DSp) (sp__law_take : DSp) : DTS :=
  (qSeq (qAsg (qCall sp__law_names [] (qCons (qVar 0) (qCons (qC (.int 12)) qNil))) (gNameD 2))
  (qSeq (qAsg (qOp (dAdd false) (qC (.int 1)) (qCall sp__law_take [] (qCons (qVar 0) (qCons (qVar 1) qNil)))) (gNameD 3))
  (qSeq (qAsg (qCB dTupX (qCons (qLc false (qiAny (qVar 2)) (gNameD 5) qYes (qTup (qCons (qVar 5) (qCons (qOp (dAdd false) (qC (.int 1)) (qCall sp__law_take [] (qCons (qVar 0) (qCons (qC (.int 4)) qNil)))) qNil))) [5]) qNil)) (gNameD 4))
  (qRet (qFrzE (qMake c_Ground sp_Ground___init__ [] (qCons (qVar 4) (qCons (qTup qNil) (qCons (qCB dTupX (qCons (qStep false (qSl false (qVar 2) qNoPart (qPart (qVar 3))) qNoPart qNoPart (qPart (qOp (dInt0 fun i j => i - j) (qC (.int 1)) (qOp (dInt CMul fun i j => i * j) (qC (.int 2)) (qCall sp__law_take [] (qCons (qVar 0) (qCons (qC (.int 2)) qNil))))))) qNil)) qNil)))))))))
def spLGround (c : Addr) : DSp := fun ds M Q _ => ∃ (b : Addr) (m : Nat), ds = [.ref b, .int (m : Int)] ∧ M b = some .bag ∧ 1 ≤ m ∧ m ≤ 12 ∧ ∀ rows ss, GrOk rows ss → ss ≠ [] → Q (.ins c FG (grD rows ss)) M
theorem rows_of {zs : List Str} {ys : List D} (h : All2 (fun d y => ∃ (z : Str) (r : Int), d = .str z ∧ y = plD (z, r) ∧ 1 ≤ r ∧ r ≤ 4) (zs.map D.str) ys) : ∃ rows : List Row_, ys = rows.map plD ∧ rows.map (·.1) = zs ∧ ∀ r ∈ rows, 1 ≤ r.2 ∧ r.2 ≤ 4 := by
  induction zs generalizing ys with
  | nil => cases h; exact ⟨[], rfl, rfl, fun _ h => by cases h⟩
  | cons z zs ih =>
    rw [List.map_cons] at h
    cases h with
    | cons h t =>
      obtain ⟨w, r, e, rfl, r1, r2⟩ := h
      injection e with e
      subst e
      obtain ⟨rows, rfl, e2, a⟩ := ih t
      exact ⟨(z, r) :: rows, rfl, by simp [e2], fun x hx => by
        rcases List.mem_cons.mp hx with rfl | hx
        · exact ⟨r1, r2⟩
        · exact a x hx⟩
theorem lground_ok (c : Addr) (ds : List D) (M : Mst) (Q : DK) (Ed : DX → Mst → Prop) (h : upSp (spLGround c) ds M Q Ed) : qLGround c (spGround0 c) spLNames spTake (fun x _ M => Ed x M) (retE Q) (startD ["_law_bag_here", "_law_most", "_law_names_here", "_law_many_here", "_law_places", "_law_name"] ds) M := by
  obtain ⟨Q0, E0, ⟨b, m, rfl, hb, m1, m2, k0⟩, kq, _⟩ := h
  have k : ∀ rows ss, GrOk rows ss → ss ≠ [] → Q (.ins c FG (grD rows ss)) M := fun rows ss g e => kq _ _ _ (Sub.refl _) (k0 rows ss g e)
  show qLGround _ _ _ _ _ _ [some (.ref b), some (.int (m : Int)), none, none, none, none] M
  simp only [qLGround, qMake, qFrzE, qSeq, qAsg, qTup, qCons, qNil, qOp, qUn, qC, qCall, qVar, qLst, newL_f, qIfS, qTB, qNext, qRet, qDrop, qFor, qCB, qAug, qSl, qPart, qNoPart, gNameD, gSub_eq, dInt_i, dInt0_i, dAdd_i, dCmpI_i, List.set_cons_zero, List.set_cons_succ, List.getElem?_cons_zero, List.getElem?_cons_succ, List.append_nil, z_l0, z_l1, z_l2, z_l3, z_l4, z_l5, z_l6, z_l7, z_l8, z_l9, z_l19, z_l24, z_l25, true_and]
  refine ⟨b, 12, rfl, hb, by decide, fun zs zl nd nm => ?_⟩
  refine take_call hb (by omega) (by omega) fun t t0 t1 => ?_
  obtain ⟨k1, hk1⟩ : ∃ k1 : Nat, 1 + t = (k1 : Int) := ⟨(1 + t).toNat, by omega⟩
  simp only [qLc, qiAny, qSeq, qAsg, qTup, qCons, qNil, qOp, qUn, qC, qCall, qVar, qLst, newL_f, qIfS, qTB, qNext, qRet, qDrop, qFor, qCB, qAug, qSl, qPart, qNoPart, gNameD, gSub_eq, dInt_i, dInt0_i, dAdd_i, dCmpI_i, List.set_cons_zero, List.set_cons_succ, List.getElem?_cons_zero, List.getElem?_cons_succ, List.append_nil, z_l0, z_l1, z_l2, z_l3, z_l4, z_l5, z_l6, z_l7, z_l8, z_l9, z_l19, z_l24, z_l25, true_and, hk1]
  intro a ha
  refine lcR ha (fun _ => trivial) (by simp; omega) (fun d y => ∃ (z : Str) (r : Int), d = .str z ∧ y = plD (z, r) ∧ 1 ≤ r ∧ r ≤ 4) (fun d hd M2 R2 S hR2 => ?_) fun ys hys => ?_
  · obtain ⟨z, hz, rfl⟩ := List.mem_map.mp hd
    simp only [wipeD, qSeq, qAsg, qTup, qCons, qNil, qOp, qUn, qC, qCall, qVar, qLst, newL_f, qIfS, qTB, qNext, qRet, qDrop, qFor, qCB, qAug, qSl, qPart, qNoPart, gNameD, gSub_eq, dInt_i, dInt0_i, dAdd_i, dCmpI_i, List.set_cons_zero, List.set_cons_succ, List.getElem?_cons_zero, List.getElem?_cons_succ, List.append_nil, z_l0, z_l1, z_l2, z_l3, z_l4, z_l5, z_l6, z_l7, z_l8, z_l9, z_l19, z_l24, z_l25, true_and]
    refine take_call (S _ _ hb) (by decide) (by decide) fun y y0 y1 => hR2 _ ⟨z, 1 + y, rfl, rfl, by omega, by omega⟩
  obtain ⟨rows, rfl, e1, hr⟩ := rows_of hys
  simp only [dTupX, res_lst, qSeq, qAsg, qTup, qCons, qNil, qOp, qUn, qC, qCall, qVar, qLst, newL_f, qIfS, qTB, qNext, qRet, qDrop, qFor, qCB, qAug, qSl, qPart, qNoPart, gNameD, gSub_eq, dInt_i, dInt0_i, dAdd_i, dCmpI_i, List.set_cons_zero, List.set_cons_succ, List.getElem?_cons_zero, List.getElem?_cons_succ, List.append_nil, z_l0, z_l1, z_l2, z_l3, z_l4, z_l5, z_l6, z_l7, z_l8, z_l9, z_l19, z_l24, z_l25, true_and, qStep]
  have fin : ∀ ss : List Str, ss.length = k1 → ss.Nodup → (∀ z ∈ ss, z ∈ zs) → ∀ a, M a = none → spGround0 c [.ref a, .xtp (rows.map plD), .tup [], .xtp (ss.map .str)] (put M a (.ins c [])) (fun d M2 => d = .non ∧ (match M2 a with
      | some (.lst ds) => Q (.lst ds) (del M2 a)
      | some (.dK kvs) => Q (.dct (kvs.map (·.1)) (kvs.map (·.2))) (del M2 a)
      | some (.ins C fs) => Q (.ins C (fs.map (·.1)) (fs.map (·.2))) (del M2 a)
      | _ => False)) fun z M3 => Ed z M3 := fun ss sl sn si a ha => by
    have rl : rows.length = 12 := by rw [← zl, ← e1, List.length_map]
    have g : GrOk rows ss := ⟨fun r hr' => ⟨nm _ (by rw [← e1]; exact List.mem_map_of_mem hr'), hr r hr'⟩, by rw [e1]; exact nd, by omega, by omega, fun z hz => by rw [e1]; exact si z hz, sn, by omega⟩
    refine ⟨a, rows, ss, rfl, put_same, g, rfl, ?_⟩
    rw [put_put]
    simp only [put_same, del_put ha]
    exact k rows ss g (fun e => by rw [e] at sl; simp at sl; omega)
  rw [sl_to]
  simp only [newL_f]
  refine take_call hb (by decide) (by decide) fun u u0 u1 => ⟨.inr ⟨by omega, by omega⟩, ?_⟩
  have eT : (zs.map D.str).take k1 = (zs.take k1).map D.str := by rw [List.map_take]
  have hu : u = 0 ∨ u = 1 := by omega
  rcases hu with rfl | rfl
  · simp only [dStep, res_lst, stepD, dInt0_i]
    rw [if_pos (by decide)]; simp only [newL_f, res_lst]; rw [eT]
    exact fin _ (by rw [List.length_take, zl]; omega) (nd.sublist (List.take_sublist ..)) fun z hz => List.mem_of_mem_take hz
  · simp only [dStep, res_lst, stepD, dInt0_i]
    rw [if_neg (by decide), if_pos (by decide)]; simp only [newL_f, res_lst]; rw [eT, ← List.map_reverse]
    exact fin _ (by rw [List.length_reverse, List.length_take, zl]; omega) (((List.reverse_perm _).nodup_iff.mpr (nd.sublist (List.take_sublist ..)))) fun z hz => List.mem_of_mem_take (List.mem_reverse.mp hz)
/-! ### a row bent -/
theorem pl_mid {n m : Nat} {ds mid : List D} {i j : Nat} (h : ∀ d ∈ ds, Pl n d) (hl : ds.length ≤ n) (g : ∀ d ∈ mid, Pl m d) (hm : n + mid.length ≤ m) (hij : i ≤ j) : Pl m (.tup (ds.take i ++ mid ++ ds.drop j)) :=
  .tup (by simp; omega) fun d hd => by
    rcases List.mem_append.mp hd with hd | hd
    · rcases List.mem_append.mp hd with hd | hd
      · exact (h d (List.mem_of_mem_take hd)).mono (by omega)
      · exact g d hd
    · exact (h d (List.mem_of_mem_drop hd)).mono (by omega)
theorem pl_cut {n : Nat} {ds : List D} {i j : Nat} (h : ∀ d ∈ ds, Pl n d) (hl : ds.length ≤ n) (hij : i ≤ j) : Pl n (.tup (ds.take i ++ ds.drop j)) :=
  .tup (by simp; omega) fun d hd => by
    rcases List.mem_append.mp hd with hd | hd
    · exact h d (List.mem_of_mem_take hd)
    · exact h d (List.mem_of_mem_drop hd)
theorem one_mem {x d : D} {m : Nat} (h : Pl m x) : d ∈ [x] → Pl m d := fun e => by rw [List.mem_singleton] at e; subst e; exact h
def qLBentRow (sp__law_any : DSp) (sp__law_take : DSp) : DTS :=
  (qSeq (qIfS (qOr (qNot (qTB (qCB dIsi (qCons (qVar 1) (qCons (qC (.ty "tuple")) qNil))))) (qTB (qOp (dEq false) (qVar 1) (qTup qNil))))
  (qRet (qCall sp__law_any [] (qCons (qVar 0) qNil)))
  qNext)
  (qSeq (qPar 2 3 (qCons (qCall sp__law_take [] (qCons (qVar 0) (qCons (qC (.int 6)) qNil))) (qCons (qCall sp__law_take [] (qCons (qVar 0) (qCons (qCB dLen (qCons (qVar 1) qNil)) qNil))) qNil)))
  (qSeq (qIfS (qTB (qOp (dEq false) (qVar 2) (qC (.int 0))))
  (qRet (qOp dIx (qLst false (qCons (qCB (dList false) (qCons (qVar 1) qNil)) (qCons (qCall sp__law_any [] (qCons (qVar 0) qNil)) (qCons (qOp (dAdd false) (qVar 1) (qTup (qCons (qC (.int 0)) qNil))) qNil)))) (qCall sp__law_take [] (qCons (qVar 0) (qCons (qC (.int 3)) qNil)))))
  qNext)
  (qSeq (qIfS (qTB (qOp (dEq false) (qVar 2) (qC (.int 1))))
  (qRet (qOp (dAdd false) (qSl false (qVar 1) qNoPart (qPart (qVar 3))) (qSl false (qVar 1) (qPart (qOp (dAdd false) (qVar 3) (qC (.int 1)))) qNoPart)))
  qNext)
  (qSeq (qIfS (qAnd (qTB (qOp (dEq false) (qVar 2) (qC (.int 2)))) (qTB (qCB dIsi (qCons (qOp dIx (qVar 1) (qVar 3)) (qCons (qC (.ty "int")) qNil)))))
  (qRet (qOp (dAdd false) (qOp (dAdd false) (qSl false (qVar 1) qNoPart (qPart (qVar 3))) (qTup (qCons (qOp (dAdd false) (qOp dIx (qVar 1) (qVar 3)) (qOp dIx (qTup (qCons (qC (.int 1)) (qCons (qUn dNeg (qC (.int 1))) (qCons (qC (.int 9)) (qCons (qUn dNeg (qC (.int 9))) qNil))))) (qCall sp__law_take [] (qCons (qVar 0) (qCons (qC (.int 4)) qNil))))) qNil))) (qSl false (qVar 1) (qPart (qOp (dAdd false) (qVar 3) (qC (.int 1)))) qNoPart)))
  qNext)
  (qSeq (qIfS (qTB (qOp (dEq false) (qVar 2) (qC (.int 3))))
  (qRet (qOp (dAdd false) (qOp (dAdd false) (qSl false (qVar 1) qNoPart (qPart (qVar 3))) (qTup (qCons (qOp dIx (qVar 1) (qOp (dInt0 fun i j => i - j) (qVar 3) (qC (.int 1)))) qNil))) (qSl false (qVar 1) (qPart (qOp (dAdd false) (qVar 3) (qC (.int 1)))) qNoPart)))
  qNext)
  (qRet (qOp (dAdd false) (qOp (dAdd false) (qSl false (qVar 1) qNoPart (qPart (qVar 3))) (qTup (qCons (qCall sp__law_any [] (qCons (qVar 0) qNil)) qNil))) (qSl false (qVar 1) (qPart (qOp (dAdd false) (qVar 3) (qC (.int 1)))) qNoPart)))))))))
def spBentRow : DSp := fun ds M Q _ => ∃ (b : Addr) (n : Nat) (x : D), ds = [.ref b, x] ∧ M b = some .bag ∧ 9 ≤ n ∧ n ≤ 1000 ∧ Pl n x ∧ ∀ d, Pl (n + 1) d → Q d M
theorem bentrow_ok (ds : List D) (M : Mst) (Q : DK) (Ed : DX → Mst → Prop) (h : upSp spBentRow ds M Q Ed) : qLBentRow spAny spTake (fun x _ M => Ed x M) (retE Q) (startD ["_law_bag_here", "_law_row", "_law_way", "_law_at"] ds) M := by
  obtain ⟨Q0, E0, ⟨b, n, x, rfl, hb, n9, hn, hx, k0⟩, kq, _⟩ := h
  have k : ∀ d, Pl (n + 1) d → Q d M := fun d hd => kq _ _ _ (Sub.refl _) (k0 d hd)
  clear kq k0
  show qLBentRow _ _ _ _ [some (.ref b), some x, none, none] M
  simp only [qLBentRow, qOr, qNot, qSeq, qAsg, qTup, qCons, qNil, qOp, qUn, qC, qCall, qVar, qLst, newL_f, qIfS, qTB, qNext, qRet, qDrop, qFor, qCB, qAug, qSl, qPart, qNoPart, gNameD, gSub_eq, dInt_i, dInt0_i, dAdd_i, dCmpI_i, List.set_cons_zero, List.set_cons_succ, List.getElem?_cons_zero, List.getElem?_cons_succ, List.append_nil, z_l0, z_l1, z_l2, z_l3, z_l4, z_l5, z_l6, z_l7, z_l8, z_l9, z_l19, z_l24, z_l25, true_and]
  rw [isi_tuple hx]
  cases htb : tupB x with
  | false =>
    simp only [Bool.not_false, if_true]
    exact ⟨b, rfl, hb, fun d hd => k d (hd.mono (by omega))⟩
  | true =>
  obtain ⟨es, rfl⟩ := tupB_iff.mp htb
  simp only [Bool.not_true, Bool.false_eq_true, if_false]
  rw [eq_unit hx, Bool.false_xor]
  cases es with
  | nil =>
    simp only [noTup, if_true]
    exact ⟨b, rfl, hb, fun d hd => k d (hd.mono (by omega))⟩
  | cons e0 er =>
  obtain ⟨hl, hp⟩ := hx.tupI
  have hlen : 0 < (e0 :: er).length := by simp
  generalize e0 :: er = es at hl hp hlen hx htb ⊢
  have nt : noTup (.tup es) = false := by cases es; cases hlen; rfl
  rw [nt]
  simp only [Bool.false_eq_true, if_false, qPar, z_len_tup, qSeq, qAsg, qTup, qCons, qNil, qOp, qUn, qC, qCall, qVar, qLst, newL_f, qIfS, qTB, qNext, qRet, qDrop, qFor, qCB, qAug, qSl, qPart, qNoPart, gNameD, gSub_eq, dInt_i, dInt0_i, dAdd_i, dCmpI_i, List.set_cons_zero, List.set_cons_succ, List.getElem?_cons_zero, List.getElem?_cons_succ, List.append_nil, z_l0, z_l1, z_l2, z_l3, z_l4, z_l5, z_l6, z_l7, z_l8, z_l9, z_l19, z_l24, z_l25, true_and]
  refine take_call hb (by decide) (by decide) fun way w0 w1 => take_call hb (by omega) (by omega) fun at_ a0 a1 => ?_
  obtain ⟨at_, rfl⟩ : ∃ j : Nat, at_ = (j : Int) := ⟨at_.toNat, by omega⟩
  have hat : at_ < es.length := by omega
  simp only [z_eq_int, qSeq, qAsg, qTup, qCons, qNil, qOp, qUn, qC, qCall, qVar, qLst, newL_f, qIfS, qTB, qNext, qRet, qDrop, qFor, qCB, qAug, qSl, qPart, qNoPart, gNameD, gSub_eq, dInt_i, dInt0_i, dAdd_i, dCmpI_i, List.set_cons_zero, List.set_cons_succ, List.getElem?_cons_zero, List.getElem?_cons_succ, List.append_nil, z_l0, z_l1, z_l2, z_l3, z_l4, z_l5, z_l6, z_l7, z_l8, z_l9, z_l19, z_l24, z_l25, true_and]
  by_cases h0 : way = 0
  · simp only [decide_eq_true h0, if_true, qSeq, qAsg, qTup, qCons, qNil, qOp, qUn, qC, qCall, qVar, qLst, newL_f, qIfS, qTB, qNext, qRet, qDrop, qFor, qCB, qAug, qSl, qPart, qNoPart, gNameD, gSub_eq, dInt_i, dInt0_i, dAdd_i, dCmpI_i, List.set_cons_zero, List.set_cons_succ, List.getElem?_cons_zero, List.getElem?_cons_succ, List.append_nil, z_l0, z_l1, z_l2, z_l3, z_l4, z_l5, z_l6, z_l7, z_l8, z_l9, z_l19, z_l24, z_l25, true_and, dList, res_tup, newL_f, z_add_tup]
    refine ⟨b, rfl, hb, fun y hy => ⟨by simp; omega, take_call hb (by decide) (by decide) fun r r0 r1 => pick_l r0 (by simpa using r1) fun d hd => k d ?_⟩⟩
    simp only [List.mem_cons, List.not_mem_nil, or_false] at hd
    rcases hd with rfl | rfl | rfl
    · exact .lst (by omega) fun d hd => (hp d hd).mono (by omega)
    · exact hy.mono (by omega)
    · exact .tup (by simp; omega) fun d hd => by
        rcases List.mem_append.mp hd with hd | hd
        · exact (hp d hd).mono (by omega)
        · exact one_mem (.int _) hd
  simp only [decide_eq_false h0, Bool.false_eq_true, if_false, qSeq, qAsg, qTup, qCons, qNil, qOp, qUn, qC, qCall, qVar, qLst, newL_f, qIfS, qTB, qNext, qRet, qDrop, qFor, qCB, qAug, qSl, qPart, qNoPart, gNameD, gSub_eq, dInt_i, dInt0_i, dAdd_i, dCmpI_i, List.set_cons_zero, List.set_cons_succ, List.getElem?_cons_zero, List.getElem?_cons_succ, List.append_nil, z_l0, z_l1, z_l2, z_l3, z_l4, z_l5, z_l6, z_l7, z_l8, z_l9, z_l19, z_l24, z_l25, true_and]
  by_cases h1 : way = 1
  · simp only [decide_eq_true h1, if_true, qSeq, qAsg, qTup, qCons, qNil, qOp, qUn, qC, qCall, qVar, qLst, newL_f, qIfS, qTB, qNext, qRet, qDrop, qFor, qCB, qAug, qSl, qPart, qNoPart, gNameD, gSub_eq, dInt_i, dInt0_i, dAdd_i, dCmpI_i, List.set_cons_zero, List.set_cons_succ, List.getElem?_cons_zero, List.getElem?_cons_succ, List.append_nil, z_l0, z_l1, z_l2, z_l3, z_l4, z_l5, z_l6, z_l7, z_l8, z_l9, z_l19, z_l24, z_l25, true_and, dSl, cut_to, cut_from1, z_add_tup]
    exact ⟨by simp; omega, k _ ((pl_cut hp hl (Nat.le_succ _)).mono (by omega))⟩
  simp only [decide_eq_false h1, Bool.false_eq_true, if_false, qSeq, qAsg, qTup, qCons, qNil, qOp, qUn, qC, qCall, qVar, qLst, newL_f, qIfS, qTB, qNext, qRet, qDrop, qFor, qCB, qAug, qSl, qPart, qNoPart, gNameD, gSub_eq, dInt_i, dInt0_i, dAdd_i, dCmpI_i, List.set_cons_zero, List.set_cons_succ, List.getElem?_cons_zero, List.getElem?_cons_succ, List.append_nil, z_l0, z_l1, z_l2, z_l3, z_l4, z_l5, z_l6, z_l7, z_l8, z_l9, z_l19, z_l24, z_l25, true_and, qAnd, z_eq_int]
  have hit : es[at_]? = some es[at_] := List.getElem?_eq_getElem hat
  have pat : Pl n es[at_] := hp _ (List.getElem_mem hat)
  have rest : way ≠ 2 ∨ intB es[at_] = false → (qSeq (qIfS (qTB (qOp (dEq false) (qVar 2) (qC (.int 3))))
  (qRet (qOp (dAdd false) (qOp (dAdd false) (qSl false (qVar 1) qNoPart (qPart (qVar 3))) (qTup (qCons (qOp dIx (qVar 1) (qOp (dInt0 fun i j => i - j) (qVar 3) (qC (.int 1)))) qNil))) (qSl false (qVar 1) (qPart (qOp (dAdd false) (qVar 3) (qC (.int 1)))) qNoPart)))
  qNext)
  (qRet (qOp (dAdd false) (qOp (dAdd false) (qSl false (qVar 1) qNoPart (qPart (qVar 3))) (qTup (qCons (qCall spAny [] (qCons (qVar 0) qNil)) qNil))) (qSl false (qVar 1) (qPart (qOp (dAdd false) (qVar 3) (qC (.int 1)))) qNoPart)))) (fun x _ M => Ed x M) (retE Q) [some (.ref b), some (.tup es), some (.int way), some (.int (at_ : Int))] M := fun _ => by
    simp only [z_eq_int, qSeq, qAsg, qTup, qCons, qNil, qOp, qUn, qC, qCall, qVar, qLst, newL_f, qIfS, qTB, qNext, qRet, qDrop, qFor, qCB, qAug, qSl, qPart, qNoPart, gNameD, gSub_eq, dInt_i, dInt0_i, dAdd_i, dCmpI_i, List.set_cons_zero, List.set_cons_succ, List.getElem?_cons_zero, List.getElem?_cons_succ, List.append_nil, z_l0, z_l1, z_l2, z_l3, z_l4, z_l5, z_l6, z_l7, z_l8, z_l9, z_l19, z_l24, z_l25, true_and]
    by_cases h3 : way = 3
    · simp only [decide_eq_true h3, if_true, qSeq, qAsg, qTup, qCons, qNil, qOp, qUn, qC, qCall, qVar, qLst, newL_f, qIfS, qTB, qNext, qRet, qDrop, qFor, qCB, qAug, qSl, qPart, qNoPart, gNameD, gSub_eq, dInt_i, dInt0_i, dAdd_i, dCmpI_i, List.set_cons_zero, List.set_cons_succ, List.getElem?_cons_zero, List.getElem?_cons_succ, List.append_nil, z_l0, z_l1, z_l2, z_l3, z_l4, z_l5, z_l6, z_l7, z_l8, z_l9, z_l19, z_l24, z_l25, true_and, dSl, cut_to, cut_from1]
      obtain ⟨y, ey, my⟩ := atI_ok (xs := es) (i := (at_ : Int) - 1) (by omega) (by omega)
      rw [ix_t ey]
      simp only [z_add_tup]
      exact ⟨by simp; omega, by simp; omega, k _ (pl_mid hp hl (fun d hd => one_mem ((hp _ my).mono (by omega)) hd) (by simp) (Nat.le_succ _))⟩
    · simp only [decide_eq_false h3, Bool.false_eq_true, if_false, qSeq, qAsg, qTup, qCons, qNil, qOp, qUn, qC, qCall, qVar, qLst, newL_f, qIfS, qTB, qNext, qRet, qDrop, qFor, qCB, qAug, qSl, qPart, qNoPart, gNameD, gSub_eq, dInt_i, dInt0_i, dAdd_i, dCmpI_i, List.set_cons_zero, List.set_cons_succ, List.getElem?_cons_zero, List.getElem?_cons_succ, List.append_nil, z_l0, z_l1, z_l2, z_l3, z_l4, z_l5, z_l6, z_l7, z_l8, z_l9, z_l19, z_l24, z_l25, true_and, dSl, cut_to, cut_from1]
      refine ⟨b, rfl, hb, fun y hy => ?_⟩
      simp only [z_add_tup]
      exact ⟨by simp; omega, by simp; omega, k _ (pl_mid hp hl (fun d hd => one_mem (hy.mono (by omega)) hd) (by simp) (Nat.le_succ _))⟩
  simp only [z_eq_int, qSeq, qAsg, qTup, qCons, qNil, qOp, qUn, qC, qCall, qVar, qLst, newL_f, qIfS, qTB, qNext, qRet, qDrop, qFor, qCB, qAug, qSl, qPart, qNoPart, gNameD, gSub_eq, dInt_i, dInt0_i, dAdd_i, dCmpI_i, List.set_cons_zero, List.set_cons_succ, List.getElem?_cons_zero, List.getElem?_cons_succ, List.append_nil, z_l0, z_l1, z_l2, z_l3, z_l4, z_l5, z_l6, z_l7, z_l8, z_l9, z_l19, z_l24, z_l25, true_and] at rest
  by_cases h2 : way = 2
  · simp only [decide_eq_true h2, if_true, qSeq, qAsg, qTup, qCons, qNil, qOp, qUn, qC, qCall, qVar, qLst, newL_f, qIfS, qTB, qNext, qRet, qDrop, qFor, qCB, qAug, qSl, qPart, qNoPart, gNameD, gSub_eq, dInt_i, dInt0_i, dAdd_i, dCmpI_i, List.set_cons_zero, List.set_cons_succ, List.getElem?_cons_zero, List.getElem?_cons_succ, List.append_nil, z_l0, z_l1, z_l2, z_l3, z_l4, z_l5, z_l6, z_l7, z_l8, z_l9, z_l19, z_l24, z_l25, true_and]
    rw [ix_tn hit, isi_int pat]
    cases hi : intB es[at_] with
    | false => simp only [Bool.false_eq_true, if_false]; exact rest (.inr hi)
    | true =>
      simp only [if_true, qSeq, qAsg, qTup, qCons, qNil, qOp, qUn, qC, qCall, qVar, qLst, newL_f, qIfS, qTB, qNext, qRet, qDrop, qFor, qCB, qAug, qSl, qPart, qNoPart, gNameD, gSub_eq, dInt_i, dInt0_i, dAdd_i, dCmpI_i, List.set_cons_zero, List.set_cons_succ, List.getElem?_cons_zero, List.getElem?_cons_succ, List.append_nil, z_l0, z_l1, z_l2, z_l3, z_l4, z_l5, z_l6, z_l7, z_l8, z_l9, z_l19, z_l24, z_l25, true_and, dSl, cut_to, cut_from1, z_neg]
      rw [ix_tn hit]
      refine take_call hb (by decide) (by decide) fun r r0 r1 => pick_t r0 (by simpa using r1) fun d hd => ?_
      obtain ⟨i, rfl⟩ : ∃ i : Int, d = .int i := by
        simp only [List.mem_cons, List.not_mem_nil, or_false] at hd
        rcases hd with rfl | rfl | rfl | rfl <;> exact ⟨_, rfl⟩
      have go : ∀ j : Int, Q (.tup (es.take at_ ++ [.int j] ++ es.drop (at_ + 1))) M := fun j => k _ (pl_mid hp hl (fun d hd => one_mem (.int j) hd) (by simp) (Nat.le_succ _))
      generalize es[at_] = y at hi
      cases y <;> first | (cases hi; done) | skip
      · simp only [dAdd, res_bl, res_int]
        exact ⟨by simp; omega, by simp; omega, go _⟩
      · simp only [dAdd_i, z_add_tup]
        exact ⟨by simp; omega, by simp; omega, go _⟩
  simp only [decide_eq_false h2, Bool.false_eq_true, if_false]
  exact rest (.inl h2)
end DL

/-! PlF: rows bent; names unlike. -/
namespace DL
open PySem L2 Tx20 Tx21
/-- a row of four plain things -/
def Four (n : Nat) (e : D) : Prop := Pl n e ∧ ∃ x0 x1 x2 x3, e = .tup [x0, x1, x2, x3]
def qLBent (sp__law_any : DSp) (sp__law_bent_row : DSp) (sp__law_take : DSp) : DTS :=
  (qSeq (qPar 2 3 (qCons (qCall sp__law_take [] (qCons (qVar 0) (qCons (qC (.int 8)) qNil))) (qCons (qCall sp__law_take [] (qCons (qVar 0) (qCons (qCB dMax2 (qCons (qC (.int 1)) (qCons (qCB dLen (qCons (qVar 1) qNil)) qNil))) qNil))) qNil)))
  (qSeq (qIfS (qOr (qTB (qOp (dEq false) (qVar 2) (qC (.int 0)))) (qTB (qOp (dEq false) (qVar 1) (qTup qNil))))
  (qRet (qOp dIx (qLst false (qCons (qCB (dList false) (qCons (qVar 1) qNil)) (qCons (qCall sp__law_any [] (qCons (qVar 0) qNil)) (qCons (qOp (dAdd false) (qVar 1) (qTup (qCons (qCall sp__law_any [] (qCons (qVar 0) qNil)) qNil))) qNil)))) (qCall sp__law_take [] (qCons (qVar 0) (qCons (qC (.int 3)) qNil)))))
  qNext)
  (qSeq (qIfS (qTB (qOp (dEq false) (qVar 2) (qC (.int 1))))
  (qRet (qOp (dAdd false) (qOp (dAdd false) (qSl false (qVar 1) qNoPart (qPart (qVar 3))) (qTup (qCons (qOp dIx (qVar 1) (qVar 3)) qNil))) (qSl false (qVar 1) (qPart (qVar 3)) qNoPart)))
  qNext)
  (qSeq (qIfS (qTB (qOp (dEq false) (qVar 2) (qC (.int 2))))
  (qRet (qOp (dAdd false) (qOp (dAdd false) (qSl false (qVar 1) qNoPart (qPart (qVar 3))) (qTup (qCons (qOp (dAdd false) (qSl false (qOp dIx (qVar 1) (qOp (dInt0 fun i j => i - j) (qVar 3) (qC (.int 1)))) qNoPart (qPart (qC (.int 1)))) (qSl false (qOp dIx (qVar 1) (qVar 3)) (qPart (qC (.int 1))) qNoPart)) qNil))) (qSl false (qVar 1) (qPart (qOp (dAdd false) (qVar 3) (qC (.int 1)))) qNoPart)))
  qNext)
  (qSeq (qIfS (qTB (qOp (dEq false) (qVar 2) (qC (.int 3))))
  (qRet (qOp (dAdd false) (qSl false (qVar 1) qNoPart (qPart (qVar 3))) (qSl false (qVar 1) (qPart (qOp (dAdd false) (qVar 3) (qC (.int 1)))) qNoPart)))
  qNext)
  (qSeq (qIfS (qAnd (qTB (qOp (dEq false) (qVar 2) (qC (.int 4)))) (qAnd (qTB (qCB dIsi (qCons (qOp dIx (qOp dIx (qVar 1) (qVar 3)) (qC (.int 3))) (qCons (qC (.ty "tuple")) qNil)))) (qTB (qOp (dEq true) (qOp dIx (qOp dIx (qVar 1) (qVar 3)) (qC (.int 3))) (qTup qNil)))))
  (qSeq (qPar 4 5 (qCons (qOp dIx (qOp dIx (qVar 1) (qVar 3)) (qC (.int 3))) (qCons (qCall sp__law_take [] (qCons (qVar 0) (qCons (qCB dLen (qCons (qOp dIx (qOp dIx (qVar 1) (qVar 3)) (qC (.int 3))) qNil)) qNil))) qNil)))
  (qSeq (qAsg (qOp (dAdd false) (qOp (dAdd false) (qSl false (qVar 4) qNoPart (qPart (qVar 5))) (qTup (qCons (qCall sp__law_bent_row [] (qCons (qVar 0) (qCons (qOp dIx (qVar 4) (qVar 5)) qNil))) qNil))) (qSl false (qVar 4) (qPart (qOp (dAdd false) (qVar 5) (qC (.int 1)))) qNoPart)) (gNameD 6))
  (qSeq (qAsg (qOp dIx (qLst false (qCons (qVar 6) (qCons (qVar 6) (qCons (qCB (dList false) (qCons (qVar 4) qNil)) (qCons (qOp (dAdd false) (qVar 4) (qVar 4)) qNil))))) (qCall sp__law_take [] (qCons (qVar 0) (qCons (qC (.int 4)) qNil)))) (gNameD 6))
  (qRet (qOp (dAdd false) (qOp (dAdd false) (qSl false (qVar 1) qNoPart (qPart (qVar 3))) (qTup (qCons (qOp (dAdd false) (qSl false (qOp dIx (qVar 1) (qVar 3)) qNoPart (qPart (qC (.int 3)))) (qTup (qCons (qVar 6) qNil))) qNil))) (qSl false (qVar 1) (qPart (qOp (dAdd false) (qVar 3) (qC (.int 1)))) qNoPart))))))
  qNext)
  (qRet (qOp (dAdd false) (qOp (dAdd false) (qSl false (qVar 1) qNoPart (qPart (qVar 3))) (qTup (qCons (qCall sp__law_bent_row [] (qCons (qVar 0) (qCons (qOp dIx (qVar 1) (qVar 3)) qNil))) qNil))) (qSl false (qVar 1) (qPart (qOp (dAdd false) (qVar 3) (qC (.int 1)))) qNoPart)))))))))
def spBent : DSp := fun ds M Q _ => ∃ (b : Addr) (n : Nat) (es : List D), ds = [.ref b, .tup es] ∧ M b = some .bag ∧ 9 ≤ n ∧ n ≤ 1000 ∧ es.length ≤ n ∧ (∀ e ∈ es, Four n e) ∧ ∀ d, Pl (2 * n + 1) d → Q d M
theorem four_len {n : Nat} {e : D} (h : Four n e) : 4 ≤ n := by
  obtain ⟨hp, _, _, _, _, rfl⟩ := h
  exact hp.tupI.1
theorem four_at {n : Nat} {e : D} (h : Four n e) : ∃ x0 x1 x2 x3, e = .tup [x0, x1, x2, x3] ∧ Pl n x0 ∧ Pl n x1 ∧ Pl n x2 ∧ Pl n x3 := by
  obtain ⟨hp, x0, x1, x2, x3, rfl⟩ := h
  have := hp.tupI.2
  exact ⟨_, _, _, _, rfl, this _ (by simp), this _ (by simp), this _ (by simp), this _ (by simp)⟩
theorem bent_ok (ds : List D) (M : Mst) (Q : DK) (Ed : DX → Mst → Prop) (h : upSp spBent ds M Q Ed) : qLBent spAny spBentRow spTake (fun x _ M => Ed x M) (retE Q) (startD ["_law_bag_here", "_law_rows", "_law_way", "_law_at", "_law_skills", "_law_k", "_law_bent_here"] ds) M := by
  obtain ⟨Q0, E0, ⟨b, n, es, rfl, hb, n9, hn, hl, hf, k0⟩, kq, _⟩ := h
  have k : ∀ d, Pl (2 * n + 1) d → Q d M := fun d hd => kq _ _ _ (Sub.refl _) (k0 d hd)
  clear kq k0
  have hp : ∀ e ∈ es, Pl n e := fun e he => (hf e he).1
  have hx : Pl n (.tup es) := .tup hl hp
  show qLBent _ _ _ _ _ [some (.ref b), some (.tup es), none, none, none, none, none] M
  simp only [qLBent, qPar, qOr, z_len_tup, dMax2_i, qSeq, qAsg, qTup, qCons, qNil, qOp, qUn, qC, qCall, qVar, qLst, newL_f, qIfS, qTB, qNext, qRet, qDrop, qFor, qCB, qAug, qSl, qPart, qNoPart, gNameD, gSub_eq, dInt_i, dInt0_i, dAdd_i, dCmpI_i, List.set_cons_zero, List.set_cons_succ, List.getElem?_cons_zero, List.getElem?_cons_succ, List.append_nil, z_l0, z_l1, z_l2, z_l3, z_l4, z_l5, z_l6, z_l7, z_l8, z_l9, z_l19, z_l24, z_l25, true_and]
  obtain ⟨mx, emx, m1, m2, m3⟩ : ∃ mx : Int, (if (es.length : Int) > 1 then (es.length : Int) else 1) = mx ∧ 0 < mx ∧ mx < 1073741824 ∧ (es ≠ [] → mx = es.length) := ⟨_, rfl, by split <;> omega, by split <;> omega, fun h => by
    have : 0 < es.length := List.length_pos_iff.mpr h
    split <;> omega⟩
  rw [emx]
  refine take_call hb (by decide) (by decide) fun way w0 w1 => take_call hb m1 m2 fun at_ a0 a1 => ?_
  simp only [z_eq_int, qSeq, qAsg, qTup, qCons, qNil, qOp, qUn, qC, qCall, qVar, qLst, newL_f, qIfS, qTB, qNext, qRet, qDrop, qFor, qCB, qAug, qSl, qPart, qNoPart, gNameD, gSub_eq, dInt_i, dInt0_i, dAdd_i, dCmpI_i, List.set_cons_zero, List.set_cons_succ, List.getElem?_cons_zero, List.getElem?_cons_succ, List.append_nil, z_l0, z_l1, z_l2, z_l3, z_l4, z_l5, z_l6, z_l7, z_l8, z_l9, z_l19, z_l24, z_l25, true_and]
  have way0 : (way = 0 ∨ es = []) → (qRet (qOp dIx (qLst false (qCons (qCB (dList false) (qCons (qVar 1) qNil)) (qCons (qCall spAny [] (qCons (qVar 0) qNil)) (qCons (qOp (dAdd false) (qVar 1) (qTup (qCons (qCall spAny [] (qCons (qVar 0) qNil)) qNil))) qNil)))) (qCall spTake [] (qCons (qVar 0) (qCons (qC (.int 3)) qNil))))) (fun x _ M => Ed x M) (retE Q) [some (.ref b), some (.tup es), some (.int way), some (.int at_), none, none, none] M := fun _ => by
    simp only [qSeq, qAsg, qTup, qCons, qNil, qOp, qUn, qC, qCall, qVar, qLst, newL_f, qIfS, qTB, qNext, qRet, qDrop, qFor, qCB, qAug, qSl, qPart, qNoPart, gNameD, gSub_eq, dInt_i, dInt0_i, dAdd_i, dCmpI_i, List.set_cons_zero, List.set_cons_succ, List.getElem?_cons_zero, List.getElem?_cons_succ, List.append_nil, z_l0, z_l1, z_l2, z_l3, z_l4, z_l5, z_l6, z_l7, z_l8, z_l9, z_l19, z_l24, z_l25, true_and, dList, res_tup, newL_f, z_add_tup]
    refine ⟨b, rfl, hb, fun y hy => ⟨b, rfl, hb, fun u hu => ⟨by simp; omega, take_call hb (by decide) (by decide) fun r r0 r1 => pick_l r0 (by simpa using r1) fun d hd => k d ?_⟩⟩⟩
    simp only [List.mem_cons, List.not_mem_nil, or_false] at hd
    rcases hd with rfl | rfl | rfl
    · exact .lst (by omega) fun d hd => (hp d hd).mono (by omega)
    · exact hy.mono (by omega)
    · exact .tup (by simp; omega) fun d hd => by
        rcases List.mem_append.mp hd with hd | hd
        · exact (hp d hd).mono (by omega)
        · exact one_mem (hu.mono (by omega)) hd
  simp only [qSeq, qAsg, qTup, qCons, qNil, qOp, qUn, qC, qCall, qVar, qLst, newL_f, qIfS, qTB, qNext, qRet, qDrop, qFor, qCB, qAug, qSl, qPart, qNoPart, gNameD, gSub_eq, dInt_i, dInt0_i, dAdd_i, dCmpI_i, List.set_cons_zero, List.set_cons_succ, List.getElem?_cons_zero, List.getElem?_cons_succ, List.append_nil, z_l0, z_l1, z_l2, z_l3, z_l4, z_l5, z_l6, z_l7, z_l8, z_l9, z_l19, z_l24, z_l25, true_and] at way0
  by_cases h0 : way = 0
  · simp only [decide_eq_true h0, if_true]; exact way0 (.inl h0)
  simp only [decide_eq_false h0, Bool.false_eq_true, if_false]
  rw [eq_unit hx, Bool.false_xor]
  by_cases hne : es = []
  · have nt : noTup (.tup es) = true := by rw [hne]; rfl
    simp only [nt, if_true]; exact way0 (.inr hne)
  have nt : noTup (.tup es) = false := by cases es; exact absurd rfl hne; rfl
  simp only [nt, Bool.false_eq_true, if_false, qSeq, qAsg, qTup, qCons, qNil, qOp, qUn, qC, qCall, qVar, qLst, newL_f, qIfS, qTB, qNext, qRet, qDrop, qFor, qCB, qAug, qSl, qPart, qNoPart, gNameD, gSub_eq, dInt_i, dInt0_i, dAdd_i, dCmpI_i, List.set_cons_zero, List.set_cons_succ, List.getElem?_cons_zero, List.getElem?_cons_succ, List.append_nil, z_l0, z_l1, z_l2, z_l3, z_l4, z_l5, z_l6, z_l7, z_l8, z_l9, z_l19, z_l24, z_l25, true_and]
  clear way0
  have hmx := m3 hne
  obtain ⟨at_, rfl⟩ : ∃ j : Nat, at_ = (j : Int) := ⟨at_.toNat, by omega⟩
  have hat : at_ < es.length := by omega
  have hit : es[at_]? = some es[at_] := List.getElem?_eq_getElem hat
  have fat : Four n es[at_] := hf _ (List.getElem_mem hat)
  clear emx m1 m2 m3 hmx a0 a1
  have kmid : ∀ (mid : List D) (i j : Nat), i ≤ j → mid.length ≤ 1 → (∀ d ∈ mid, Pl (2 * n + 1) d) → Q (.tup (es.take i ++ mid ++ es.drop j)) M := fun mid i j hij hm g => k _ (pl_mid hp hl g (by omega) hij)
  by_cases h1 : way = 1
  · simp only [decide_eq_true h1, if_true, qSeq, qAsg, qTup, qCons, qNil, qOp, qUn, qC, qCall, qVar, qLst, newL_f, qIfS, qTB, qNext, qRet, qDrop, qFor, qCB, qAug, qSl, qPart, qNoPart, gNameD, gSub_eq, dInt_i, dInt0_i, dAdd_i, dCmpI_i, List.set_cons_zero, List.set_cons_succ, List.getElem?_cons_zero, List.getElem?_cons_succ, List.append_nil, z_l0, z_l1, z_l2, z_l3, z_l4, z_l5, z_l6, z_l7, z_l8, z_l9, z_l19, z_l24, z_l25, true_and, dSl, cut_to, cut_from]
    rw [ix_tn hit]
    simp only [z_add_tup]
    exact ⟨by simp; omega, by simp; omega, kmid _ _ _ (Nat.le_refl _) (by simp) fun d hd => one_mem (fat.1.mono (by omega)) hd⟩
  simp only [decide_eq_false h1, Bool.false_eq_true, if_false, qSeq, qAsg, qTup, qCons, qNil, qOp, qUn, qC, qCall, qVar, qLst, newL_f, qIfS, qTB, qNext, qRet, qDrop, qFor, qCB, qAug, qSl, qPart, qNoPart, gNameD, gSub_eq, dInt_i, dInt0_i, dAdd_i, dCmpI_i, List.set_cons_zero, List.set_cons_succ, List.getElem?_cons_zero, List.getElem?_cons_succ, List.append_nil, z_l0, z_l1, z_l2, z_l3, z_l4, z_l5, z_l6, z_l7, z_l8, z_l9, z_l19, z_l24, z_l25, true_and]
  by_cases h2 : way = 2
  · simp only [decide_eq_true h2, if_true, qSeq, qAsg, qTup, qCons, qNil, qOp, qUn, qC, qCall, qVar, qLst, newL_f, qIfS, qTB, qNext, qRet, qDrop, qFor, qCB, qAug, qSl, qPart, qNoPart, gNameD, gSub_eq, dInt_i, dInt0_i, dAdd_i, dCmpI_i, List.set_cons_zero, List.set_cons_succ, List.getElem?_cons_zero, List.getElem?_cons_succ, List.append_nil, z_l0, z_l1, z_l2, z_l3, z_l4, z_l5, z_l6, z_l7, z_l8, z_l9, z_l19, z_l24, z_l25, true_and, dSl, cut_to, cut_from1]
    obtain ⟨y, ey, my⟩ := atI_ok (xs := es) (i := (at_ : Int) - 1) (by omega) (by omega)
    rw [ix_t ey]
    obtain ⟨a0, a1, a2, a3, rfl, p0, p1, p2, p3⟩ := four_at (hf y my)
    simp only [dSl, cut_to0]
    rw [ix_tn hit]
    obtain ⟨b0, b1, b2, b3, eb, q0, q1, q2, q3⟩ := four_at fat
    rw [eb]
    simp only [dSl, cut_from0, List.take_succ_cons, List.take_zero, List.drop_succ_cons, List.drop_zero, z_add_tup]
    refine ⟨by simp, by simp; omega, by simp; omega, kmid _ _ _ (Nat.le_succ _) (by simp) fun d hd => one_mem ?_ hd⟩
    refine .tup (by simp; omega) fun d hd => ?_
    simp only [List.cons_append, List.nil_append, List.mem_cons, List.not_mem_nil, or_false] at hd
    rcases hd with rfl | rfl | rfl | rfl
    · exact p0.mono (by omega)
    · exact q1.mono (by omega)
    · exact q2.mono (by omega)
    · exact q3.mono (by omega)
  simp only [decide_eq_false h2, Bool.false_eq_true, if_false, qSeq, qAsg, qTup, qCons, qNil, qOp, qUn, qC, qCall, qVar, qLst, newL_f, qIfS, qTB, qNext, qRet, qDrop, qFor, qCB, qAug, qSl, qPart, qNoPart, gNameD, gSub_eq, dInt_i, dInt0_i, dAdd_i, dCmpI_i, List.set_cons_zero, List.set_cons_succ, List.getElem?_cons_zero, List.getElem?_cons_succ, List.append_nil, z_l0, z_l1, z_l2, z_l3, z_l4, z_l5, z_l6, z_l7, z_l8, z_l9, z_l19, z_l24, z_l25, true_and]
  by_cases h3 : way = 3
  · simp only [decide_eq_true h3, if_true, qSeq, qAsg, qTup, qCons, qNil, qOp, qUn, qC, qCall, qVar, qLst, newL_f, qIfS, qTB, qNext, qRet, qDrop, qFor, qCB, qAug, qSl, qPart, qNoPart, gNameD, gSub_eq, dInt_i, dInt0_i, dAdd_i, dCmpI_i, List.set_cons_zero, List.set_cons_succ, List.getElem?_cons_zero, List.getElem?_cons_succ, List.append_nil, z_l0, z_l1, z_l2, z_l3, z_l4, z_l5, z_l6, z_l7, z_l8, z_l9, z_l19, z_l24, z_l25, true_and, dSl, cut_to, cut_from1, z_add_tup]
    exact ⟨by simp; omega, k _ ((pl_cut hp hl (Nat.le_succ _)).mono (by omega))⟩
  simp only [decide_eq_false h3, Bool.false_eq_true, if_false, qSeq, qAsg, qTup, qCons, qNil, qOp, qUn, qC, qCall, qVar, qLst, newL_f, qIfS, qTB, qNext, qRet, qDrop, qFor, qCB, qAug, qSl, qPart, qNoPart, gNameD, gSub_eq, dInt_i, dInt0_i, dAdd_i, dCmpI_i, List.set_cons_zero, List.set_cons_succ, List.getElem?_cons_zero, List.getElem?_cons_succ, List.append_nil, z_l0, z_l1, z_l2, z_l3, z_l4, z_l5, z_l6, z_l7, z_l8, z_l9, z_l19, z_l24, z_l25, true_and, qAnd, z_eq_int]
  have rest : way ≠ 4 ∨ True → (qRet (qOp (dAdd false) (qOp (dAdd false) (qSl false (qVar 1) qNoPart (qPart (qVar 3))) (qTup (qCons (qCall spBentRow [] (qCons (qVar 0) (qCons (qOp dIx (qVar 1) (qVar 3)) qNil))) qNil))) (qSl false (qVar 1) (qPart (qOp (dAdd false) (qVar 3) (qC (.int 1)))) qNoPart))) (fun x _ M => Ed x M) (retE Q) [some (.ref b), some (.tup es), some (.int way), some (.int (at_ : Int)), none, none, none] M := fun _ => by
    simp only [qSeq, qAsg, qTup, qCons, qNil, qOp, qUn, qC, qCall, qVar, qLst, newL_f, qIfS, qTB, qNext, qRet, qDrop, qFor, qCB, qAug, qSl, qPart, qNoPart, gNameD, gSub_eq, dInt_i, dInt0_i, dAdd_i, dCmpI_i, List.set_cons_zero, List.set_cons_succ, List.getElem?_cons_zero, List.getElem?_cons_succ, List.append_nil, z_l0, z_l1, z_l2, z_l3, z_l4, z_l5, z_l6, z_l7, z_l8, z_l9, z_l19, z_l24, z_l25, true_and, dSl, cut_to, cut_from1]
    rw [ix_tn hit]
    refine ⟨b, n, _, rfl, hb, n9, hn, fat.1, fun y hy => ?_⟩
    simp only [z_add_tup]
    exact ⟨by simp; omega, by simp; omega, kmid _ _ _ (Nat.le_succ _) (by simp) fun d hd => one_mem (hy.mono (by omega)) hd⟩
  simp only [qSeq, qAsg, qTup, qCons, qNil, qOp, qUn, qC, qCall, qVar, qLst, newL_f, qIfS, qTB, qNext, qRet, qDrop, qFor, qCB, qAug, qSl, qPart, qNoPart, gNameD, gSub_eq, dInt_i, dInt0_i, dAdd_i, dCmpI_i, List.set_cons_zero, List.set_cons_succ, List.getElem?_cons_zero, List.getElem?_cons_succ, List.append_nil, z_l0, z_l1, z_l2, z_l3, z_l4, z_l5, z_l6, z_l7, z_l8, z_l9, z_l19, z_l24, z_l25, true_and] at rest
  by_cases h4 : way = 4
  · simp only [decide_eq_true h4, if_true, qSeq, qAsg, qTup, qCons, qNil, qOp, qUn, qC, qCall, qVar, qLst, newL_f, qIfS, qTB, qNext, qRet, qDrop, qFor, qCB, qAug, qSl, qPart, qNoPart, gNameD, gSub_eq, dInt_i, dInt0_i, dAdd_i, dCmpI_i, List.set_cons_zero, List.set_cons_succ, List.getElem?_cons_zero, List.getElem?_cons_succ, List.append_nil, z_l0, z_l1, z_l2, z_l3, z_l4, z_l5, z_l6, z_l7, z_l8, z_l9, z_l19, z_l24, z_l25, true_and]
    rw [ix_tn hit]
    obtain ⟨b0, b1, b2, b3, eb, q0, q1, q2, q3⟩ := four_at fat
    have et : dIx (.tup es) (.int (at_ : Int)) = fun M Q => dIx (.tup es) (.int (at_ : Int)) M Q := rfl
    rw [eb, z_ix_t3, isi_tuple q3]
    cases ht : tupB b3 with
    | false => simp only [Bool.false_eq_true, if_false]; exact rest (.inr trivial)
    | true =>
      obtain ⟨sk, rfl⟩ := tupB_iff.mp ht
      simp only [if_true]
      rw [ix_tn hit, eb, z_ix_t3, eq_unit q3, Bool.true_xor]
      cases hs : noTup (.tup sk) with
      | true => simp only [Bool.not_true, Bool.false_eq_true, if_false]; exact rest (.inr trivial)
      | false =>
        have sne : sk ≠ [] := fun e => by rw [e] at hs; cases hs
        have slen : 0 < sk.length := List.length_pos_iff.mpr sne
        obtain ⟨sl, sp⟩ := q3.tupI
        simp only [Bool.not_false, if_true]
        rw [ix_tn hit, eb, z_ix_t3, ix_tn hit, eb, z_ix_t3, z_len_tup]
        refine take_call hb (by omega) (by omega) fun j j0 j1 => ?_
        obtain ⟨j, rfl⟩ : ∃ i : Nat, j = (i : Int) := ⟨j.toNat, by omega⟩
        have hj : j < sk.length := by omega
        have hjt : sk[j]? = some sk[j] := List.getElem?_eq_getElem hj
        simp only [qSeq, qAsg, qTup, qCons, qNil, qOp, qUn, qC, qCall, qVar, qLst, newL_f, qIfS, qTB, qNext, qRet, qDrop, qFor, qCB, qAug, qSl, qPart, qNoPart, gNameD, gSub_eq, dInt_i, dInt0_i, dAdd_i, dCmpI_i, List.set_cons_zero, List.set_cons_succ, List.getElem?_cons_zero, List.getElem?_cons_succ, List.append_nil, z_l0, z_l1, z_l2, z_l3, z_l4, z_l5, z_l6, z_l7, z_l8, z_l9, z_l19, z_l24, z_l25, true_and, dSl, cut_to, cut_from1]
        rw [ix_tn hjt]
        refine ⟨b, n, _, rfl, hb, n9, hn, sp _ (List.getElem_mem hj), fun y hy => ?_⟩
        simp only [z_add_tup, qSeq, qAsg, qTup, qCons, qNil, qOp, qUn, qC, qCall, qVar, qLst, newL_f, qIfS, qTB, qNext, qRet, qDrop, qFor, qCB, qAug, qSl, qPart, qNoPart, gNameD, gSub_eq, dInt_i, dInt0_i, dAdd_i, dCmpI_i, List.set_cons_zero, List.set_cons_succ, List.getElem?_cons_zero, List.getElem?_cons_succ, List.append_nil, z_l0, z_l1, z_l2, z_l3, z_l4, z_l5, z_l6, z_l7, z_l8, z_l9, z_l19, z_l24, z_l25, true_and, dList, res_tup, newL_f]
        refine ⟨by (try simp); omega, by (try simp); omega, by (try simp); omega, take_call hb (by decide) (by decide) fun r r0 r1 => pick_l r0 (by simpa using r1) fun d hd => ?_⟩
        have pb : Pl (2 * n + 1) (.tup (sk.take j ++ [y] ++ sk.drop (j + 1))) := pl_mid sp sl (fun d hd => one_mem (hy.mono (by omega)) hd) (by simp; omega) (Nat.le_succ _)
        have pd : Pl (2 * n + 1) d := by
          simp only [List.mem_cons, List.not_mem_nil, or_false] at hd
          rcases hd with rfl | rfl | rfl | rfl
          · exact pb
          · exact pb
          · exact .lst (by omega) fun d hd => (sp d hd).mono (by omega)
          · exact .tup (by simp; omega) fun d hd => by
              rcases List.mem_append.mp hd with hd | hd <;> exact (sp d hd).mono (by omega)
        rw [ix_tn hit, eb]
        simp only [dSl, cut_to3, List.take_succ_cons, List.take_zero, z_add_tup]
        refine ⟨by simp, by simp; omega, by simp; omega, kmid _ _ _ (Nat.le_succ _) (by simp) fun d' hd' => one_mem ?_ hd'⟩
        refine .tup (by simp; omega) fun d' hd' => ?_
        simp only [List.cons_append, List.nil_append, List.mem_cons, List.not_mem_nil, or_false] at hd'
        rcases hd' with rfl | rfl | rfl | rfl
        · exact q0.mono (by omega)
        · exact q1.mono (by omega)
        · exact q2.mono (by omega)
        · exact pd
  simp only [decide_eq_false h4, Bool.false_eq_true, if_false]
  exact rest (.inl h4)
/-! ### one of some texts, as the law asks -/
def qLIsIn : DTS :=
  (qRet (qAndV (qCB dIsi (qCons (qVar 0) (qCons (qC (.ty "str")) qNil))) (qOp (dIn false) (qVar 0) (qCB (dList false) (qCons (qVar 1) qNil)))))
/-- texts in a list, a tuple -/
def TextsL (M : Mst) (zs : List Str) (t : D) : Prop := res M t = .lst (zs.map .str) ∨ res M t = .tup (zs.map .str)
def spLIsIn : DSp := fun ds M Q _ => ∃ (n : Nat) (x t : D) (zs : List Str), ds = [x, t] ∧ Pl n x ∧ TextsL M zs t ∧ Q (.bl (oneD zs x)) M
theorem isin_ok (ds : List D) (M : Mst) (Q : DK) (Ed : DX → Mst → Prop) (h : upSp spLIsIn ds M Q Ed) : qLIsIn (fun x _ M => Ed x M) (retE Q) (startD ["_law_given", "_law_texts"] ds) M := by
  obtain ⟨Q0, E0, ⟨n, x, t, zs, rfl, hx, ht, k0⟩, kq, _⟩ := h
  have k : Q (.bl (oneD zs x)) M := kq _ _ _ (Sub.refl _) k0
  show qLIsIn _ _ [some x, some t] M
  simp only [qLIsIn, qAndV, qSeq, qAsg, qTup, qCons, qNil, qOp, qUn, qC, qCall, qVar, qLst, newL_f, qIfS, qTB, qNext, qRet, qDrop, qFor, qCB, qAug, qSl, qPart, qNoPart, gNameD, gSub_eq, dInt_i, dInt0_i, dAdd_i, dCmpI_i, List.set_cons_zero, List.set_cons_succ, List.getElem?_cons_zero, List.getElem?_cons_succ, List.append_nil, z_l0, z_l1, z_l2, z_l3, z_l4, z_l5, z_l6, z_l7, z_l8, z_l9, z_l19, z_l24, z_l25, true_and]
  rw [isi_str hx]
  cases x with
  | str z =>
    simp only [strB, if_true, dList]
    rcases ht with ht | ht <;> rw [ht] <;> simp only [newL_f] <;> rw [in_strs, Bool.false_xor] <;> exact k
  | _ => simp only [strB, Bool.false_eq_true, if_false]; exact k
/-! ### names unlike -/
/-- rows whose first things are texts -/
def NRow (e : D) : Prop := ∃ (z : Str) (r : List D), e = .tup (.str z :: r)
theorem ix_n0 {e : D} (h : NRow e) {M : Mst} {Q : DK} : dIx e (.int 0) M Q = Q (.str (nameOf e)) M := by
  obtain ⟨z, r, rfl⟩ := h
  rw [z_ix_t0]; rfl
theorem names_map {es : List D} : (es.map fun e => D.str (nameOf e)) = (es.map nameOf).map D.str := by rw [List.map_map]; rfl
def qUnlike : DTS :=
  (qRet (qOp (dEq false) (qLenSet (qLc false (qiAny (qVar 0)) (gNameD 1) qYes (qOp dIx (qVar 1) (qC (.int 0))) [1])) (qCB dLen (qCons (qVar 0) qNil))))
def spUnlike : DSp := fun ds M Q _ => ∃ (es : List D), ds = [.tup es] ∧ es.length ≤ 4000 ∧ (∀ e ∈ es, NRow e) ∧ Q (.bl (decide (es.map nameOf).Nodup)) M
theorem unlike_ok (ds : List D) (M : Mst) (Q : DK) (Ed : DX → Mst → Prop) (h : upSp spUnlike ds M Q Ed) : qUnlike (fun x _ M => Ed x M) (retE Q) (startD ["rows", "row"] ds) M := by
  obtain ⟨Q0, E0, ⟨es, rfl, hl, hr, k0⟩, kq, _⟩ := h
  have k : Q (.bl (decide (es.map nameOf).Nodup)) M := kq _ _ _ (Sub.refl _) k0
  show qUnlike _ _ [some (.tup es), none] M
  simp only [qUnlike, qLenSet, qLc, qiAny, qSeq, qAsg, qTup, qCons, qNil, qOp, qUn, qC, qCall, qVar, qLst, newL_f, qIfS, qTB, qNext, qRet, qDrop, qFor, qCB, qAug, qSl, qPart, qNoPart, gNameD, gSub_eq, dInt_i, dInt0_i, dAdd_i, dCmpI_i, List.set_cons_zero, List.set_cons_succ, List.getElem?_cons_zero, List.getElem?_cons_succ, List.append_nil, z_l0, z_l1, z_l2, z_l3, z_l4, z_l5, z_l6, z_l7, z_l8, z_l9, z_l19, z_l24, z_l25, true_and, z_len_tup]
  intro a ha
  refine lcN ha (fun _ => trivial) (by omega) (fun e => .str (nameOf e)) (fun d hd M2 R2 S hR2 => ?_) ?_
  · simp only [wipeD, qSeq, qAsg, qTup, qCons, qNil, qOp, qUn, qC, qCall, qVar, qLst, newL_f, qIfS, qTB, qNext, qRet, qDrop, qFor, qCB, qAug, qSl, qPart, qNoPart, gNameD, gSub_eq, dInt_i, dInt0_i, dAdd_i, dCmpI_i, List.set_cons_zero, List.set_cons_succ, List.getElem?_cons_zero, List.getElem?_cons_succ, List.append_nil, z_l0, z_l1, z_l2, z_l3, z_l4, z_l5, z_l6, z_l7, z_l8, z_l9, z_l19, z_l24, z_l25, true_and]
    rw [ix_n0 (hr d hd)]; exact hR2
  · simp only [names_map, res_lst, strsD_map]
    refine ⟨by simpa using hl, ?_⟩
    rw [eq_i, Bool.false_xor]
    have e : decide (metS (es.map nameOf) (es.map nameOf).length = es.length) = decide (es.map nameOf).Nodup := by
      apply decide_eq_decide.mpr
      have := metS_nodup (es.map nameOf)
      rw [List.length_map] at this ⊢
      exact this
    rw [e]; exact k
def qLUnlike : DTS :=
  (qRet (qCB dAll (qCons (qLc false (qiRng1 (qCons (qCB dLen (qCons (qVar 0) qNil)) qNil)) (gNameD 1) qYes (qOp (dIn true) (qOp dIx (qOp dIx (qVar 0) (qVar 1)) (qC (.int 0))) (qLc false (qiAny (qSl false (qVar 0) qNoPart (qPart (qVar 1)))) (gNameD 2) qYes (qOp dIx (qVar 2) (qC (.int 0))) [2])) [1]) qNil)))
theorem nodup_takes (zs : List Str) : ((List.range zs.length).map fun i => !decide (zs.getD i Str.empty ∈ zs.take i)).all id = decide zs.Nodup := by
  have main : ∀ k, k ≤ zs.length → (((List.range k).map fun i => !decide (zs.getD i Str.empty ∈ zs.take i)).all id = decide (zs.take k).Nodup) := by
    intro k
    induction k with
    | zero => intro _; simp
    | succ k ih =>
      intro hk
      have hk' : k < zs.length := by omega
      rw [List.range_succ, List.map_append, List.all_append, ih (by omega), List.take_add_one, List.getElem?_eq_getElem hk']
      simp only [List.map_cons, List.map_nil, List.all_cons, List.all_nil, Bool.and_true, id, List.getD_eq_getElem?_getD, List.getElem?_eq_getElem hk', Option.getD_some, Option.toList_some]
      rw [← decide_not, ← Bool.decide_and]
      apply decide_eq_decide.mpr
      rw [List.nodup_append]
      constructor
      · rintro ⟨h1, h2⟩
        exact ⟨h1, by simp, fun a ha b hb e => h2 (by rw [List.mem_singleton] at hb; rw [← hb, ← e]; exact ha)⟩
      · rintro ⟨h1, _, h3⟩
        exact ⟨h1, fun hm => h3 _ hm _ (List.mem_singleton.mpr rfl) rfl⟩
  have := main zs.length (Nat.le_refl _)
  rwa [List.take_length] at this
theorem lunlike_ok (ds : List D) (M : Mst) (Q : DK) (Ed : DX → Mst → Prop) (h : upSp spUnlike ds M Q Ed) : qLUnlike (fun x _ M => Ed x M) (retE Q) (startD ["_law_rows", "_law_k", "_law_row"] ds) M := by
  obtain ⟨Q0, E0, ⟨es, rfl, hl, hr, k0⟩, kq, _⟩ := h
  have k : Q (.bl (decide (es.map nameOf).Nodup)) M := kq _ _ _ (Sub.refl _) k0
  show qLUnlike _ _ [some (.tup es), none, none] M
  simp only [qLUnlike, qLc, qiRng1, qSeq, qAsg, qTup, qCons, qNil, qOp, qUn, qC, qCall, qVar, qLst, newL_f, qIfS, qTB, qNext, qRet, qDrop, qFor, qCB, qAug, qSl, qPart, qNoPart, gNameD, gSub_eq, dInt_i, dInt0_i, dAdd_i, dCmpI_i, List.set_cons_zero, List.set_cons_succ, List.getElem?_cons_zero, List.getElem?_cons_succ, List.append_nil, z_l0, z_l1, z_l2, z_l3, z_l4, z_l5, z_l6, z_l7, z_l8, z_l9, z_l19, z_l24, z_l25, true_and, z_len_tup]
  refine ⟨by omega, by omega, ?_⟩
  intro a ha
  refine compL_map ha (fun d => match d with
    | .int i => some (.bl (!decide ((es.map nameOf).getD i.toNat Str.empty ∈ (es.map nameOf).take i.toNat)))
    | _ => none) (fun _ => trivial) (by simp; omega) (fun d hd acc R2 hR2 => ?_) ?_
  · obtain ⟨i, hi⟩ := List.mem_iff_getElem?.mp hd
    obtain ⟨h1, rfl⟩ := range_at hi
    have h1 : i < es.length := by simpa using h1
    have hit : es[i]? = some es[i] := List.getElem?_eq_getElem h1
    simp only [wipeD, qYes, if_true, qSeq, qAsg, qTup, qCons, qNil, qOp, qUn, qC, qCall, qVar, qLst, newL_f, qIfS, qTB, qNext, qRet, qDrop, qFor, qCB, qAug, qSl, qPart, qNoPart, gNameD, gSub_eq, dInt_i, dInt0_i, dAdd_i, dCmpI_i, List.set_cons_zero, List.set_cons_succ, List.getElem?_cons_zero, List.getElem?_cons_succ, List.append_nil, z_l0, z_l1, z_l2, z_l3, z_l4, z_l5, z_l6, z_l7, z_l8, z_l9, z_l19, z_l24, z_l25, true_and]
    rw [ix_tn hit, ix_n0 (hr _ (List.getElem_mem h1))]
    simp only [qLc, qiAny, qSeq, qAsg, qTup, qCons, qNil, qOp, qUn, qC, qCall, qVar, qLst, newL_f, qIfS, qTB, qNext, qRet, qDrop, qFor, qCB, qAug, qSl, qPart, qNoPart, gNameD, gSub_eq, dInt_i, dInt0_i, dAdd_i, dCmpI_i, List.set_cons_zero, List.set_cons_succ, List.getElem?_cons_zero, List.getElem?_cons_succ, List.append_nil, z_l0, z_l1, z_l2, z_l3, z_l4, z_l5, z_l6, z_l7, z_l8, z_l9, z_l19, z_l24, z_l25, true_and, dSl, cut_to]
    intro c hc
    refine lcN hc (fun _ => trivial) (by simp; omega) (fun e => .str (nameOf e)) (fun d hd M2 R3 S hR3 => ?_) ?_
    · simp only [wipeD, qSeq, qAsg, qTup, qCons, qNil, qOp, qUn, qC, qCall, qVar, qLst, newL_f, qIfS, qTB, qNext, qRet, qDrop, qFor, qCB, qAug, qSl, qPart, qNoPart, gNameD, gSub_eq, dInt_i, dInt0_i, dAdd_i, dCmpI_i, List.set_cons_zero, List.set_cons_succ, List.getElem?_cons_zero, List.getElem?_cons_succ, List.append_nil, z_l0, z_l1, z_l2, z_l3, z_l4, z_l5, z_l6, z_l7, z_l8, z_l9, z_l19, z_l24, z_l25, true_and]
      rw [ix_n0 (hr d (List.mem_of_mem_take hd))]; exact hR3
    · rw [names_map, in_strs]
      have eg : (es.map nameOf).getD i Str.empty = nameOf es[i] := by
        rw [List.getD_eq_getElem?_getD, List.getElem?_map, hit]; rfl
      simp only [Int.toNat_natCast, eg, ← List.map_take] at hR2
      rw [Bool.true_xor]; exact hR2
  · simp only [Bool.false_eq_true, if_false]
    have e : (rangeD 0 ((es.length : Int)).toNat).filterMap (fun d => match d with
        | .int i => some (.bl (!decide ((es.map nameOf).getD i.toNat Str.empty ∈ (es.map nameOf).take i.toNat)))
        | _ => none) = (((List.range (es.map nameOf).length).map fun i => !decide ((es.map nameOf).getD i Str.empty ∈ (es.map nameOf).take i))).map D.bl := by
      unfold rangeD
      rw [List.filterMap_map, List.length_map, Int.toNat_natCast, List.map_map]
      have e2 : ((fun d => match d with
        | .int i => some (D.bl (!decide ((es.map nameOf).getD i.toNat Str.empty ∈ (es.map nameOf).take i.toNat)))
        | _ => none) ∘ fun i : Nat => D.int (0 + (i : Int))) = fun i : Nat => some (D.bl (!decide ((es.map nameOf).getD i Str.empty ∈ (es.map nameOf).take i))) := by
        funext i
        simp
      rw [e2, List.filterMap_eq_map']
      rfl
    rw [e, all_bls, nodup_takes]; exact k
theorem gr1 {rows : List Row_} {ss : List Str} : (grD rows ss)[1]? = some (.xtp (rows.map plD)) := rfl
theorem gr3 {rows : List Row_} {ss : List Str} : (grD rows ss)[3]? = some (.xtp (ss.map .str)) := rfl
theorem fg_take : FG = List.take FG.length FG := rfl
end DL

/-! LnA: lines: sources, parts, the first wrong part. -/
namespace DL
open PySem L2 Tx20 Tx21
/-! ### by data -/
def strEq : D → Str → Bool
  | .str y, z => decide (y = z)
  | _, _ => false
section
variable {n : Nat} {x : D} {M : Mst} {Q : DK}
theorem deq_strP {z : Str} (h : Pl n x) : deq x (.str z) = strEq x z := by
  cases h with
  | str h => exact deq_str _ _
  | _ => simp [deq, pyd, PyData.eqv, strEq]
theorem eq_strP {neg : Bool} {z : Str} (h : Pl n x) : dEq neg x (.str z) M Q = Q (.bl (xor neg (strEq x z))) M := by
  unfold dEq
  rw [h.res, res_str, deq_strP h]
  have h1 := h.data
  have h2 : isData (.str z) = true := rfl
  have h3 : min (dep x) (dep (.str z)) ≤ 64 := Nat.le_trans (Nat.min_le_right _ _) (by simp [dep, pyd, PyData.depth])
  simp only [h1, h2, h3, true_and]
end
/-- (word, whole numbers within bounds) -/
def isB (w : Str) (bs : List (Int × Int)) : D → Bool
  | .tup (a :: r) => decide (r.length = bs.length) && (strEq a w && (r.zip bs).all fun p => wholeD p.2.1 p.2.2 p.1)
  | _ => false
def srcB (x : D) : Bool := isB (lit "hydrant") [(0, 150), (1, 5000)] x || isB (lit "pond") [(0, 8)] x
def midB (x : D) : Bool := (isB (lit "hose") [(1, 20), (-60, 60)] x || isB (lit "pump") [(0, 120), (1, 5000)] x) || isB (lit "leak") [(0, 1000)] x
def nozB (x : D) : Bool := isB (lit "nozzle") [(0, 2000), (0, 100)] x
def forkD : D → Option (D × D)
  | .tup [a, b, c] => if strEq a (lit "fork") = true then some (b, c) else none
  | _ => none
def endW (W : Option (D → Nat)) (x : D) : Bool := match forkD x, W with
  | some (b, c), some W => decide (W b = 0) && decide (W c = 0)
  | some _, none => false
  | none, _ => nozB x
def goods (W : Option (D → Nat)) (ds : List D) : List Bool := ds.dropLast.map midB ++ [endW W (ds.getLastD .non)]
def wrongW (W : Option (D → Nat)) : D → Nat
  | .tup ds => if ds.length = 0 ∨ 8 < ds.length then 1 else if (goods W ds).all id = true then 0 else 2 + (goods W ds).findIdx fun b => !b
  | _ => 1
/-- the first wrong part, with at most so many forks in one another -/
def wrongN : Nat → D → Nat
  | 0 => wrongW none
  | f + 1 => wrongW (some (wrongN f))
def forksW : Nat → Option (D → Nat)
  | 0 => none
  | f + 1 => some (wrongN f)
theorem wrongN_eq (f : Nat) : wrongN f = wrongW (forksW f) := by cases f <;> rfl
theorem strEq_ne {x : D} {a b : Str} (h : strEq x a = true) (n : a ≠ b) : strEq x b = false := by
  cases x with
  | str y => simp only [strEq, decide_eq_true_eq] at h ⊢; subst h; simpa using n
  | _ => cases h
theorem isB_len {w : Str} {bs : List (Int × Int)} {ds : List D} (h : ds.length ≠ bs.length + 1) : isB w bs (.tup ds) = false := by
  cases ds with
  | nil => rfl
  | cons a r =>
    have : decide (r.length = bs.length) = false := decide_eq_false fun e => h (by rw [List.length_cons, e])
    simp only [isB, this, Bool.false_and]
theorem isB_word {w : Str} {bs : List (Int × Int)} {a : D} {r : List D} (h : strEq a w = false) : isB w bs (.tup (a :: r)) = false := by
  simp only [isB, h, Bool.false_and, Bool.and_false]
theorem isB_no {w : Str} {bs : List (Int × Int)} {x : D} (h : tupB x = false) : isB w bs x = false := by cases x <;> first | rfl | cases h
theorem isB_2 {w : Str} {b1 b2 : Int × Int} {a b c : D} (h : strEq a w = true) : isB w [b1, b2] (.tup [a, b, c]) = (wholeD b1.1 b1.2 b && wholeD b2.1 b2.2 c) := by
  simp [isB, h]
theorem isB_1 {w : Str} {b1 : Int × Int} {a b : D} (h : strEq a w = true) : isB w [b1] (.tup [a, b]) = wholeD b1.1 b1.2 b := by
  simp [isB, h]
theorem isB_1' {w : Str} {b1 : Int × Int} {a b : D} : isB w [b1] (.tup [a, b]) = (strEq a w && wholeD b1.1 b1.2 b) := by
  simp [isB]
theorem three_of {x : D} (h : longD 3 x = true) : ∃ a b c, x = .tup [a, b, c] := by
  obtain ⟨ds, rfl, hl⟩ := longD_iff.mp h
  match ds, hl with
  | [a, b, c], _ => exact ⟨a, b, c, rfl⟩
theorem two_of {x : D} (h : longD 2 x = true) : ∃ a b, x = .tup [a, b] := by
  obtain ⟨ds, rfl, hl⟩ := longD_iff.mp h
  match ds, hl with
  | [a, b], _ => exact ⟨a, b, rfl⟩
theorem isB_long {w : Str} {bs : List (Int × Int)} {x : D} (h : longD (bs.length + 1) x = false) : isB w bs x = false := by
  cases x with
  | tup ds => exact isB_len (by simpa [longD] using h)
  | _ => rfl
/-! ### the program's looks -/
theorem tail2 {n : Nat} {x : D} {M : Mst} {Q : DK} {E : DX → Mst → Prop} {w : Str} {lo hi : Int} (hx : Pl n x) (k : Q (.bl (isB w [(lo, hi)] x)) M) : spIsTuple [x, .int 2] M (fun d M1 => match d with
      | .bl k => if k = true then dIx x (.int 0) M1 fun d M1 => dEq false d (.str w) M1 fun d M1 => match d with
        | .bl k => if k = true then dIx x (.int 1) M1 fun y M1 => spIsWhole [y, .int lo, .int hi] M1 Q E
          else Q (.bl false) M1
        | _ => False
        else Q (.bl false) M1
      | _ => False) E := by
  refine ⟨n, x, 2, rfl, hx, ?_⟩
  cases h2 : longD 2 x with
  | false => rw [isB_long (bs := [(lo, hi)]) h2] at k; simp only [Bool.false_eq_true, if_false]; exact k
  | true =>
    obtain ⟨a, b, rfl⟩ := two_of h2
    have hp := hx.tupI.2
    simp only [if_true, z_ix_t0, z_ix_t1]
    rw [eq_strP (hp a (by simp)), Bool.false_xor]
    rw [isB_1'] at k
    cases ha : strEq a w with
    | false => rw [ha] at k; simp only [Bool.false_eq_true, if_false]; exact k
    | true => rw [ha] at k; simp only [if_true]; exact ⟨n, b, lo, hi, rfl, hp b (by simp), k⟩
theorem head2 {n : Nat} {b c : D} {M : Mst} {Q : DK} {E : DX → Mst → Prop} {l1 h1 l2 h2 : Int} (pb : Pl n b) (pc : Pl n c) (k : Q (.bl (wholeD l1 h1 b && wholeD l2 h2 c)) M) : spIsWhole [b, .int l1, .int h1] M (fun d M1 => match d with
      | .bl k => if k = true then spIsWhole [c, .int l2, .int h2] M1 Q E else Q (.bl false) M1
      | _ => False) E := by
  refine ⟨n, b, l1, h1, rfl, pb, ?_⟩
  cases hb : wholeD l1 h1 b with
  | false => rw [hb] at k; simp only [Bool.false_eq_true, if_false]; exact k
  | true => rw [hb] at k; simp only [if_true]; exact ⟨n, c, l2, h2, rfl, pc, k⟩
def qIsSource (sp_is_tuple_of : DSp) (sp_is_whole : DSp) : DTS :=
  (qSeq (qIfS (qAnd (qTB (qCall sp_is_tuple_of [] (qCons (qVar 0) (qCons (qC (.int 3)) qNil)))) (qTB (qOp (dEq false) (qOp dIx (qVar 0) (qC (.int 0))) (qC (.str (PySem.Str.ofString "hydrant"))))))
  (qRet (qAndV (qCall sp_is_whole [] (qCons (qOp dIx (qVar 0) (qC (.int 1))) (qCons (qC (.int 0)) (qCons (qC (.int 150)) qNil)))) (qCall sp_is_whole [] (qCons (qOp dIx (qVar 0) (qC (.int 2))) (qCons (qC (.int 1)) (qCons (qC (.int 5000)) qNil))))))
  qNext)
  (qRet (qAndV (qCall sp_is_tuple_of [] (qCons (qVar 0) (qCons (qC (.int 2)) qNil))) (qAndV (qOp (dEq false) (qOp dIx (qVar 0) (qC (.int 0))) (qC (.str (PySem.Str.ofString "pond")))) (qCall sp_is_whole [] (qCons (qOp dIx (qVar 0) (qC (.int 1))) (qCons (qC (.int 0)) (qCons (qC (.int 8)) qNil))))))))
def spIsSource : DSp := fun ds M Q _ => ∃ (n : Nat) (x : D), ds = [x] ∧ Pl n x ∧ Q (.bl (srcB x)) M
theorem source_ok (ds : List D) (M : Mst) (Q : DK) (Ed : DX → Mst → Prop) (h : upSp spIsSource ds M Q Ed) : qIsSource spIsTuple spIsWhole (fun x _ M => Ed x M) (retE Q) (startD ["thing"] ds) M := by
  obtain ⟨Q0, E0, ⟨n, x, rfl, hx, k0⟩, kq, _⟩ := h
  have k : Q (.bl (srcB x)) M := kq _ _ _ (Sub.refl _) k0
  show qIsSource _ _ _ _ [some x] M
  simp only [qIsSource, qAnd, qAndV, qSeq, qAsg, qTup, qCons, qNil, qOp, qUn, qC, qCall, qVar, qLst, newL_f, qIfS, qTB, qNext, qRet, qDrop, qFor, qCB, qAug, qSl, qPart, qNoPart, gNameD, gSub_eq, dInt_i, dInt0_i, dAdd_i, dCmpI_i, List.set_cons_zero, List.set_cons_succ, List.getElem?_cons_zero, List.getElem?_cons_succ, List.append_nil, z_l0, z_l1, z_l2, z_l3, z_l4, z_l5, z_l6, z_l7, z_l8, z_l9, z_l19, z_l24, z_l25, true_and]
  refine ⟨n, x, 3, rfl, hx, ?_⟩
  cases h3 : longD 3 x with
  | false =>
    simp only [Bool.false_eq_true, if_false]
    exact tail2 hx (by unfold srcB at k; rw [isB_long (bs := [(0, 150), (1, 5000)]) h3, Bool.false_or] at k; exact k)
  | true =>
    obtain ⟨a, b, c, rfl⟩ := three_of h3
    have hp := hx.tupI.2
    simp only [if_true, z_ix_t0, z_ix_t1, z_ix_t2]
    rw [eq_strP (hp a (by simp)), Bool.false_xor]
    cases ha : strEq a (PySem.Str.ofString "hydrant") with
    | false => simp only [Bool.false_eq_true, if_false]; exact tail2 hx (by unfold srcB at k; rw [isB_word ha, Bool.false_or] at k; exact k)
    | true =>
      simp only [if_true]
      exact head2 (hp b (by simp)) (hp c (by simp)) (by unfold srcB at k; rw [isB_2 ha, isB_len (by simp), Bool.or_false] at k; exact k)
def qIsMiddle (sp_is_tuple_of : DSp) (sp_is_whole : DSp) : DTS :=
  (qSeq (qIfS (qAnd (qTB (qCall sp_is_tuple_of [] (qCons (qVar 0) (qCons (qC (.int 3)) qNil)))) (qTB (qOp (dEq false) (qOp dIx (qVar 0) (qC (.int 0))) (qC (.str (PySem.Str.ofString "hose"))))))
  (qRet (qAndV (qCall sp_is_whole [] (qCons (qOp dIx (qVar 0) (qC (.int 1))) (qCons (qC (.int 1)) (qCons (qC (.int 20)) qNil)))) (qCall sp_is_whole [] (qCons (qOp dIx (qVar 0) (qC (.int 2))) (qCons (qUn dNeg (qC (.int 60))) (qCons (qC (.int 60)) qNil))))))
  qNext)
  (qSeq (qIfS (qAnd (qTB (qCall sp_is_tuple_of [] (qCons (qVar 0) (qCons (qC (.int 3)) qNil)))) (qTB (qOp (dEq false) (qOp dIx (qVar 0) (qC (.int 0))) (qC (.str (PySem.Str.ofString "pump"))))))
  (qRet (qAndV (qCall sp_is_whole [] (qCons (qOp dIx (qVar 0) (qC (.int 1))) (qCons (qC (.int 0)) (qCons (qC (.int 120)) qNil)))) (qCall sp_is_whole [] (qCons (qOp dIx (qVar 0) (qC (.int 2))) (qCons (qC (.int 1)) (qCons (qC (.int 5000)) qNil))))))
  qNext)
  (qRet (qAndV (qCall sp_is_tuple_of [] (qCons (qVar 0) (qCons (qC (.int 2)) qNil))) (qAndV (qOp (dEq false) (qOp dIx (qVar 0) (qC (.int 0))) (qC (.str (PySem.Str.ofString "leak")))) (qCall sp_is_whole [] (qCons (qOp dIx (qVar 0) (qC (.int 1))) (qCons (qC (.int 0)) (qCons (qC (.int 1000)) qNil)))))))))
def spIsMiddle : DSp := fun ds M Q _ => ∃ (n : Nat) (x : D), ds = [x] ∧ Pl n x ∧ Q (.bl (midB x)) M
theorem middle_ok (ds : List D) (M : Mst) (Q : DK) (Ed : DX → Mst → Prop) (h : upSp spIsMiddle ds M Q Ed) : qIsMiddle spIsTuple spIsWhole (fun x _ M => Ed x M) (retE Q) (startD ["thing"] ds) M := by
  obtain ⟨Q0, E0, ⟨n, x, rfl, hx, k0⟩, kq, _⟩ := h
  have k : Q (.bl ((isB (lit "hose") [(1, 20), (-60, 60)] x || isB (lit "pump") [(0, 120), (1, 5000)] x) || isB (lit "leak") [(0, 1000)] x)) M := kq _ _ _ (Sub.refl _) k0
  show qIsMiddle _ _ _ _ [some x] M
  simp only [qIsMiddle, qAnd, qAndV, z_neg, qSeq, qAsg, qTup, qCons, qNil, qOp, qUn, qC, qCall, qVar, qLst, newL_f, qIfS, qTB, qNext, qRet, qDrop, qFor, qCB, qAug, qSl, qPart, qNoPart, gNameD, gSub_eq, dInt_i, dInt0_i, dAdd_i, dCmpI_i, List.set_cons_zero, List.set_cons_succ, List.getElem?_cons_zero, List.getElem?_cons_succ, List.append_nil, z_l0, z_l1, z_l2, z_l3, z_l4, z_l5, z_l6, z_l7, z_l8, z_l9, z_l19, z_l24, z_l25, true_and]
  refine ⟨n, x, 3, rfl, hx, ?_⟩
  cases h3 : longD 3 x with
  | false =>
    simp only [Bool.false_eq_true, if_false]
    refine ⟨n, x, 3, rfl, hx, ?_⟩
    rw [h3]
    simp only [Bool.false_eq_true, if_false]
    exact tail2 hx (by rw [isB_long (bs := [(1, 20), (-60, 60)]) h3, isB_long (bs := [(0, 120), (1, 5000)]) h3, Bool.false_or, Bool.false_or] at k; exact k)
  | true =>
    obtain ⟨a, b, c, rfl⟩ := three_of h3
    have hp := hx.tupI.2
    simp only [if_true, z_ix_t0, z_ix_t1, z_ix_t2]
    rw [eq_strP (hp a (by simp)), Bool.false_xor]
    cases ha : strEq a (PySem.Str.ofString "hose") with
    | true =>
      simp only [if_true]
      exact head2 (hp b (by simp)) (hp c (by simp)) (by rw [isB_2 ha, isB_word (w := lit "pump") (strEq_ne ha (by decide)), isB_len (bs := [(0, 1000)]) (by simp), Bool.or_false, Bool.or_false] at k; exact k)
    | false =>
      rw [isB_word (w := lit "hose") ha, Bool.false_or] at k
      simp only [Bool.false_eq_true, if_false]
      refine ⟨n, _, 3, rfl, hx, ?_⟩
      rw [h3]
      simp only [if_true, z_ix_t0, z_ix_t1, z_ix_t2]
      rw [eq_strP (hp a (by simp)), Bool.false_xor]
      cases ha : strEq a (PySem.Str.ofString "pump") with
      | true =>
        simp only [if_true]
        exact head2 (hp b (by simp)) (hp c (by simp)) (by rw [isB_2 ha, isB_len (bs := [(0, 1000)]) (by simp), Bool.or_false] at k; exact k)
      | false =>
        rw [isB_word (w := lit "pump") ha, Bool.false_or] at k
        simp only [Bool.false_eq_true, if_false]
        exact tail2 hx k
/-! ### the last part, the first wrong part -/
theorem cut_init {α : Type} (xs : List α) : cutX xs none (some (-1)) = xs.dropLast := by
  unfold cutX
  rw [HT.sIx_none, List.drop_zero, Nat.sub_zero, List.dropLast_eq_take]
  congr 1
  show (if (-1 : Int) < 0 then ((-1 : Int) + (xs.length : Int)).toNat else min (-1 : Int).toNat xs.length) = xs.length - 1
  rw [if_pos (by decide)]; omega
theorem atI_last {ds : List D} (h : ds ≠ []) : atI ds (-1) = some (ds.getLastD .non) := by
  have hl : 0 < ds.length := List.length_pos_iff.mpr h
  unfold atI ixN
  rw [if_neg (by decide), if_pos (by omega)]
  show ds[((-1 : Int) + (ds.length : Int)).toNat]? = _
  rw [show ((-1 : Int) + (ds.length : Int)).toNat = ds.length - 1 by omega, List.getLastD_eq_getLast?, List.getLast?_eq_getElem?]
  rw [List.getElem?_eq_getElem (by omega)]; rfl
theorem last_mem {ds : List D} (h : ds ≠ []) : ds.getLastD .non ∈ ds := by
  rw [List.getLastD_eq_getLast?, List.getLast?_eq_some_getLast h]
  exact List.getLast_mem h
theorem enum_at {k : Int} {i : Nat} {ds : List D} {d : D} (h : (enumDI k ds)[i]? = some d) : ∃ e, ds[i]? = some e ∧ d = .tup [.int (k + (i : Int)), e] := by
  rw [enumDI_get] at h
  cases e : ds[i]? with
  | none => rw [e] at h; cases h
  | some x => rw [e] at h; cases h; exact ⟨x, rfl, rfl⟩
theorem wrongW_tup {W : Option (D → Nat)} {ds : List D} : wrongW W (.tup ds) = if ds.length = 0 ∨ 8 < ds.length then 1 else if (goods W ds).all id = true then 0 else 2 + (goods W ds).findIdx fun b => !b := rfl
theorem wrong_mid {W : Option (D → Nat)} {ds : List D} {i : Nat} {d : D} (h0 : ¬ (ds.length = 0 ∨ 8 < ds.length)) (hp : ∀ j, j < i → ∀ e, ds.dropLast[j]? = some e → midB e = true) (hd : ds.dropLast[i]? = some d) (hb : midB d = false) : wrongW W (.tup ds) = i + 2 := by
  have hi : i < ds.dropLast.length := (List.getElem?_eq_some_iff.mp hd).1
  have gl : (goods W ds).length = ds.dropLast.length + 1 := by simp [goods]
  have ga : ∀ j e, ds.dropLast[j]? = some e → (goods W ds)[j]? = some (midB e) := fun j e he => by
    have hj : j < ds.dropLast.length := (List.getElem?_eq_some_iff.mp he).1
    unfold goods
    rw [List.getElem?_append_left (by simpa using hj), List.getElem?_map, he]; rfl
  have g1 : (goods W ds)[i]? = some false := by rw [ga i d hd, hb]
  have nall : (goods W ds).all id = false := by
    cases h : (goods W ds).all id with
    | false => rfl
    | true => have := List.all_eq_true.mp h false (List.mem_of_getElem? g1); cases this
  have fi : (goods W ds).findIdx (fun b => !b) = i := by
    rw [List.findIdx_eq (by omega)]
    refine ⟨?_, fun j hj => ?_⟩
    · have := (List.getElem?_eq_some_iff.mp g1).2; rw [this]; rfl
    · have hj' : j < ds.dropLast.length := by omega
      have e1 := ga j _ (List.getElem?_eq_getElem hj')
      rw [hp j hj _ (List.getElem?_eq_getElem hj')] at e1
      have := (List.getElem?_eq_some_iff.mp e1).2; rw [this]; rfl
  rw [wrongW_tup, if_neg h0, nall, fi, if_neg Bool.false_ne_true, Nat.add_comm]
theorem wrong_end {W : Option (D → Nat)} {ds : List D} (h0 : ¬ (ds.length = 0 ∨ 8 < ds.length)) (hp : ∀ e ∈ ds.dropLast, midB e = true) : wrongW W (.tup ds) = if endW W (ds.getLastD .non) = true then 0 else ds.length + 1 := by
  have e1 : ds.dropLast.map midB = List.replicate ds.dropLast.length true := List.eq_replicate_iff.mpr ⟨by simp, fun b hb => by
    obtain ⟨e, he, rfl⟩ := List.mem_map.mp hb
    exact hp e he⟩
  have all : (goods W ds).all id = endW W (ds.getLastD .non) := by
    unfold goods
    rw [e1, List.all_append]
    simp
  rw [wrongW_tup, if_neg h0, all]
  cases he : endW W (ds.getLastD .non) with
  | true => rfl
  | false =>
    rw [if_neg Bool.false_ne_true, if_neg Bool.false_ne_true]
    have : (goods W ds).findIdx (fun b => !b) = ds.dropLast.length := by
      unfold goods
      rw [e1, he, List.findIdx_append]
      simp [List.findIdx_cons]
      intro h
      exact absurd (List.findIdx_getElem (p := fun b => !b) (xs := List.replicate (ds.length - 1) true) (w := by simpa using h)) (by simp)
    rw [this, List.length_dropLast]
    omega
def qIsEnd (sp_is_tuple_of : DSp) (sp_is_whole : DSp) (sp_wrong_part : DSp) : DTS :=
  (qSeq (qIfS (qNot (qTB (qCall sp_is_tuple_of [] (qCons (qVar 0) (qCons (qC (.int 3)) qNil)))))
  (qRet (qC (.bl false)))
  qNext)
  (qSeq (qIfS (qTB (qOp (dEq false) (qOp dIx (qVar 0) (qC (.int 0))) (qC (.str (PySem.Str.ofString "fork")))))
  (qRet (qAndV (qOp (dCmpI fun i j => decide (j < i)) (qVar 1) (qC (.int 0))) (qAndV (qOp (dEq false) (qCall sp_wrong_part [] (qCons (qOp dIx (qVar 0) (qC (.int 1))) (qCons (qOp (dInt0 fun i j => i - j) (qVar 1) (qC (.int 1))) qNil))) (qC (.int 0))) (qOp (dEq false) (qCall sp_wrong_part [] (qCons (qOp dIx (qVar 0) (qC (.int 2))) (qCons (qOp (dInt0 fun i j => i - j) (qVar 1) (qC (.int 1))) qNil))) (qC (.int 0))))))
  qNext)
  (qRet (qAndV (qOp (dEq false) (qOp dIx (qVar 0) (qC (.int 0))) (qC (.str (PySem.Str.ofString "nozzle")))) (qAndV (qCall sp_is_whole [] (qCons (qOp dIx (qVar 0) (qC (.int 1))) (qCons (qC (.int 0)) (qCons (qC (.int 2000)) qNil)))) (qCall sp_is_whole [] (qCons (qOp dIx (qVar 0) (qC (.int 2))) (qCons (qC (.int 0)) (qCons (qC (.int 100)) qNil)))))))))
def qWrong (sp_is_end : DSp) (sp_is_middle : DSp) : DTS :=
  (qSeq (qIfS (qOr (qNot (qTB (qCB dIsi (qCons (qVar 0) (qCons (qC (.ty "tuple")) qNil))))) (qNot (qTB (qChain (dCmpI fun i j => decide (i ≤ j)) (dCmpI fun i j => decide (i ≤ j)) (qC (.int 1)) (qCB dLen (qCons (qVar 0) qNil)) (qC (.int 8))))))
  (qRet (qC (.int 1)))
  qNext)
  (qSeq (qFor (qiEnumC (qCons (qSl false (qVar 0) qNoPart (qPart (qUn dNeg (qC (.int 1))))) qNil) (qCons (qC (.int 2)) qNil)) (gTupD 2 (gConsD (gNameD 2) (gConsD (gNameD 3) gNilD)))
  (qIfS (qNot (qTB (qCall sp_is_middle [] (qCons (qVar 3) qNil))))
  (qRet (qVar 2))
  qNext))
  (qRet (qIf (qTB (qCall sp_is_end [] (qCons (qOp dIx (qVar 0) (qUn dNeg (qC (.int 1)))) (qCons (qVar 1) qNil)))) (qC (.int 0)) (qOp (dAdd false) (qCB dLen (qCons (qVar 0) qNil)) (qC (.int 1)))))))
def spWrong (k : Nat) : DSp := fun ds M Q _ => ∃ (n : Nat) (x : D) (f : Nat), ds = [x, .int (f : Int)] ∧ f < k ∧ Pl n x ∧ Q (.int (wrongN f x : Nat)) M
def spEnd (k : Nat) : DSp := fun ds M Q _ => ∃ (n : Nat) (x : D) (f : Nat), ds = [x, .int (f : Int)] ∧ f < k ∧ Pl n x ∧ Q (.bl (endW (forksW f) x)) M
theorem end_ok (m : Nat) (ds : List D) (M : Mst) (Q : DK) (Ed : DX → Mst → Prop) (h : upSp (spEnd (m + 1)) ds M Q Ed) : qIsEnd spIsTuple spIsWhole (spWrong m) (fun x _ M => Ed x M) (retE Q) (startD ["thing", "forks"] ds) M := by
  obtain ⟨Q0, E0, ⟨n, x, f, rfl, hf, hx, k0⟩, kq, _⟩ := h
  have k : Q (.bl (endW (forksW f) x)) M := kq _ _ _ (Sub.refl _) k0
  show qIsEnd _ _ _ _ _ [some x, some (.int (f : Int))] M
  simp only [qIsEnd, qNot, qAndV, qSeq, qAsg, qTup, qCons, qNil, qOp, qUn, qC, qCall, qVar, qLst, newL_f, qIfS, qTB, qNext, qRet, qDrop, qFor, qCB, qAug, qSl, qPart, qNoPart, gNameD, gSub_eq, dInt_i, dInt0_i, dAdd_i, dCmpI_i, List.set_cons_zero, List.set_cons_succ, List.getElem?_cons_zero, List.getElem?_cons_succ, List.append_nil, z_l0, z_l1, z_l2, z_l3, z_l4, z_l5, z_l6, z_l7, z_l8, z_l9, z_l19, z_l24, z_l25, true_and]
  refine ⟨n, x, 3, rfl, hx, ?_⟩
  cases h3 : longD 3 x with
  | false =>
    simp only [Bool.not_false, if_true]
    have e1 : forkD x = none := by
      unfold forkD
      split
      · cases h3
      · rfl
    have e : endW (forksW f) x = false := by
      unfold endW
      rw [e1]
      exact isB_long (bs := [(0, 2000), (0, 100)]) h3
    rw [e] at k; exact k
  | true =>
    obtain ⟨a, b, c, rfl⟩ := three_of h3
    have hp := hx.tupI.2
    simp only [Bool.not_true, Bool.false_eq_true, if_false, z_ix_t0, z_ix_t1, z_ix_t2]
    rw [eq_strP (hp a (by simp)), Bool.false_xor]
    cases ha : strEq a (PySem.Str.ofString "fork") with
    | true =>
      have e1 : forkD (.tup [a, b, c]) = some (b, c) := by
        show (if strEq a (lit "fork") = true then _ else _) = _
        rw [if_pos ha]
      simp only [if_true]
      unfold endW at k
      rw [e1] at k
      cases f with
      | zero => simp only [decide_eq_false (show ¬ ((0 : Int) < ((0 : Nat) : Int)) by decide), Bool.false_eq_true, if_false]; exact k
      | succ f =>
        have k : Q (.bl (decide (wrongN f b = 0) && decide (wrongN f c = 0))) M := k
        have hs : ((f + 1 : Nat) : Int) - 1 = (f : Int) := by omega
        have dz : ∀ w : Nat, decide ((w : Int) = 0) = decide (w = 0) := fun w => decide_eq_decide.mpr (by omega)
        simp only [decide_eq_true (show (0 : Int) < ((f + 1 : Nat) : Int) by omega), if_true, hs]
        refine ⟨n, b, f, rfl, by omega, hp b (by simp), ?_⟩
        simp only [z_eq_int, dz]
        cases hb : decide (wrongN f b = 0) with
        | false => rw [hb] at k; simp only [Bool.false_eq_true, if_false]; exact k
        | true =>
          rw [hb] at k
          simp only [if_true]
          refine ⟨n, c, f, rfl, by omega, hp c (by simp), ?_⟩
          simp only [z_eq_int, dz]
          exact k
    | false =>
      have e1 : forkD (.tup [a, b, c]) = none := by
        show (if strEq a (lit "fork") = true then _ else _) = _
        rw [if_neg (by rw [show strEq a (lit "fork") = false from ha]; exact Bool.false_ne_true)]
      unfold endW at k
      rw [e1] at k
      have k : Q (.bl (isB (lit "nozzle") [(0, 2000), (0, 100)] (.tup [a, b, c]))) M := k
      simp only [Bool.false_eq_true, if_false]
      rw [eq_strP (hp a (by simp)), Bool.false_xor]
      cases hn : strEq a (PySem.Str.ofString "nozzle") with
      | false => rw [isB_word (w := lit "nozzle") hn] at k; simp only [Bool.false_eq_true, if_false]; exact k
      | true => rw [isB_2 (w := lit "nozzle") hn] at k; simp only [if_true]; exact head2 (hp b (by simp)) (hp c (by simp)) k
theorem wrong_ok (m : Nat) (ds : List D) (M : Mst) (Q : DK) (Ed : DX → Mst → Prop) (h : upSp (spWrong m) ds M Q Ed) : qWrong (spEnd m) spIsMiddle (fun x _ M => Ed x M) (retE Q) (startD ["thing", "forks", "at", "part"] ds) M := by
  obtain ⟨Q0, E0, ⟨n, x, f, rfl, hf, hx, k0⟩, kq, _⟩ := h
  have k : Q (.int (wrongN f x : Nat)) M := kq _ _ _ (Sub.refl _) k0
  rw [wrongN_eq] at k
  show qWrong _ _ _ _ [some x, some (.int (f : Int)), none, none] M
  simp only [qWrong, qOr, qNot, qChain, qiEnumC, z_neg, qSeq, qAsg, qTup, qCons, qNil, qOp, qUn, qC, qCall, qVar, qLst, newL_f, qIfS, qTB, qNext, qRet, qDrop, qFor, qCB, qAug, qSl, qPart, qNoPart, gNameD, gSub_eq, dInt_i, dInt0_i, dAdd_i, dCmpI_i, List.set_cons_zero, List.set_cons_succ, List.getElem?_cons_zero, List.getElem?_cons_succ, List.append_nil, z_l0, z_l1, z_l2, z_l3, z_l4, z_l5, z_l6, z_l7, z_l8, z_l9, z_l19, z_l24, z_l25, true_and]
  rw [isi_tuple hx]
  cases ht : tupB x with
  | false =>
    simp only [Bool.not_false, if_true]
    have e : wrongW (forksW f) x = 1 := by cases x <;> first | rfl | cases ht
    rw [e] at k; exact k
  | true =>
  obtain ⟨es, rfl⟩ := tupB_iff.mp ht
  obtain ⟨hl, hp⟩ := hx.tupI
  simp only [Bool.not_true, Bool.false_eq_true, if_false, z_len_tup]
  refine (chain_len (lo := 1) (hi := 8)).mpr ?_
  cases hc : decide (1 ≤ es.length) && decide (es.length ≤ 8) with
  | false =>
    simp only [Bool.not_false, if_true]
    have e : wrongW (forksW f) (.tup es) = 1 := by
      rw [wrongW_tup, if_pos]
      simp only [Bool.and_eq_false_iff, decide_eq_false_iff_not] at hc
      omega
    rw [e] at k; exact k
  | true =>
    simp only [Bool.and_eq_true, decide_eq_true_eq] at hc
    have hn : ¬ (es.length = 0 ∨ 8 < es.length) := by omega
    have hne : es ≠ [] := fun e => by rw [e] at hc; simp at hc
    simp only [Bool.not_true, Bool.false_eq_true, if_false, dSl, cut_init, seqAt]
    refine ⟨by decide, by decide, ?_⟩
    refine loopL_inv (fun i p M' => ∃ p2 p3, p = [some (.tup es), some (.int (f : Int)), p2, p3] ∧ M' = M ∧ ∀ j, j < i → ∀ e, es.dropLast[j]? = some e → midB e = true) (n := es.dropLast.length) (by simp) (fun i d p M' R hd hI hR => ?_) (fun p M' hI => ?_)
      ⟨none, none, rfl, rfl, fun _ h => by omega⟩
    · obtain ⟨p2, p3, rfl, rfl, hpre⟩ := hI
      obtain ⟨e, he, rfl⟩ := enum_at hd
      refine ⟨trivial, ?_⟩
      simp only [gTupD, gConsD, gNilD, qSeq, qAsg, qTup, qCons, qNil, qOp, qUn, qC, qCall, qVar, qLst, newL_f, qIfS, qTB, qNext, qRet, qDrop, qFor, qCB, qAug, qSl, qPart, qNoPart, gNameD, gSub_eq, dInt_i, dInt0_i, dAdd_i, dCmpI_i, List.set_cons_zero, List.set_cons_succ, List.getElem?_cons_zero, List.getElem?_cons_succ, List.append_nil, z_l0, z_l1, z_l2, z_l3, z_l4, z_l5, z_l6, z_l7, z_l8, z_l9, z_l19, z_l24, z_l25, true_and]
      refine ⟨rfl, rfl, n, e, rfl, hp e (List.dropLast_subset _ (List.mem_of_getElem? he)), ?_⟩
      cases hm : midB e with
      | true =>
        simp only [Bool.not_true, Bool.false_eq_true, if_false]
        refine hR _ _ ⟨_, _, rfl, rfl, fun j hj e' he' => ?_⟩
        rcases Nat.lt_succ_iff_lt_or_eq.mp hj with hj | rfl
        · exact hpre j hj e' he'
        · rw [he] at he'; cases he'; exact hm
      | false =>
        simp only [Bool.not_false, if_true]
        rw [wrong_mid hn hpre he hm] at k
        have e2 : (2 : Int) + (i : Int) = ((i + 2 : Nat) : Int) := by omega
        rw [e2]; exact k
    · obtain ⟨p2, p3, rfl, rfl, hpre⟩ := hI
      refine ⟨trivial, ?_⟩
      rw [wrong_end hn (fun e he => by
        obtain ⟨j, hj, e1⟩ := List.getElem_of_mem he
        exact hpre j hj e (by rw [List.getElem?_eq_getElem hj, e1]))] at k
      simp only [qIf, z_neg, qSeq, qAsg, qTup, qCons, qNil, qOp, qUn, qC, qCall, qVar, qLst, newL_f, qIfS, qTB, qNext, qRet, qDrop, qFor, qCB, qAug, qSl, qPart, qNoPart, gNameD, gSub_eq, dInt_i, dInt0_i, dAdd_i, dCmpI_i, List.set_cons_zero, List.set_cons_succ, List.getElem?_cons_zero, List.getElem?_cons_succ, List.append_nil, z_l0, z_l1, z_l2, z_l3, z_l4, z_l5, z_l6, z_l7, z_l8, z_l9, z_l19, z_l24, z_l25, true_and]
      rw [ix_t (atI_last hne)]
      refine ⟨n, _, f, rfl, hf, hp _ (last_mem hne), ?_⟩
      cases he : endW (forksW f) (es.getLastD .non) with
      | true => rw [he] at k; simp only [if_true]; exact k
      | false =>
        rw [he] at k
        simp only [Bool.false_eq_true, if_false, z_len_tup, dAdd_i]
        exact k
end DL

/-! LnB: a line made; sources and parts drawn. -/
namespace DL
open PySem L2 Tx20 Tx21
abbrev FLn : List Str := [lit "source", lit "parts"]
def qLine (c_Line : Addr) (c_NoLine : Addr) (sp_is_source : DSp) (sp_wrong_part : DSp) : DTS :=
  (qSeq (qIfS (qNot (qTB (qCall sp_is_source [] (qCons (qVar 1) qNil))))
  (qRaise c_NoLine [(PySem.Str.ofString "at")] (qCons (qC (.int 0)) qNil))
  qNext)
  (qSeq (qAsg (qCall sp_wrong_part [] (qCons (qVar 2) (qCons (qC (.int 3)) qNil))) (gNameD 3))
  (qSeq (qIfS (qTB (qOp (dCmpI fun i j => decide (j < i)) (qVar 3) (qC (.int 0))))
  (qRaise c_NoLine [(PySem.Str.ofString "at")] (qCons (qVar 3) qNil))
  qNext)
  (qSeq (qSetF c_Line FLn 0 (PySem.Str.ofString "source") (qVar 0) (qVar 1))
  (qSetF c_Line FLn 1 (PySem.Str.ofString "parts") (qVar 0) (qVar 2))))))
def spLine (c cn : Addr) : DSp := fun ds M Q E => ∃ (a : Addr) (n : Nat) (s p : D), ds = [.ref a, s, p] ∧ M a = some (.ins c []) ∧ Pl n s ∧ Pl n p ∧
  (if srcB s = true then (if wrongN 3 p = 0 then Q .non (put M a (.ins c (FLn.zip [s, p]))) else E ⟨.ref cn, [(lit "at", .int (wrongN 3 p : Nat))]⟩ M) else E ⟨.ref cn, [(lit "at", .int 0)]⟩ M)
theorem line_ok (c cn : Addr) (ds : List D) (M : Mst) (Q : DK) (Ed : DX → Mst → Prop) (h : upSp (spLine c cn) ds M Q Ed) : qLine c cn spIsSource (spWrong 4) (fun x _ M => Ed x M) (retE Q) (startD ["self", "source", "parts", "at"] ds) M := by
  obtain ⟨Q0, E0, ⟨a, n, s, p, rfl, ha, hs, hp, k0⟩, kq, ke⟩ := h
  have k : (if srcB s = true then (if wrongN 3 p = 0 then Q .non (put M a (.ins c (FLn.zip [s, p]))) else Ed ⟨.ref cn, [(lit "at", .int (wrongN 3 p : Nat))]⟩ M) else Ed ⟨.ref cn, [(lit "at", .int 0)]⟩ M) := by
    split
    · next h1 =>
      rw [if_pos h1] at k0
      split
      · next h2 => rw [if_pos h2] at k0; exact kq _ _ _ (Sub.refl _) k0
      · next h2 => rw [if_neg h2] at k0; exact ke _ _ _ (Sub.refl _) k0
    · next h1 => rw [if_neg h1] at k0; exact ke _ _ _ (Sub.refl _) k0
  clear k0 kq ke
  show qLine _ _ _ _ _ _ [some (.ref a), some s, some p, none] M
  simp only [qLine, qNot, qRaise, qSetF, qSeq, qAsg, qTup, qCons, qNil, qOp, qUn, qC, qCall, qVar, qLst, newL_f, qIfS, qTB, qNext, qRet, qDrop, qFor, qCB, qAug, qSl, qPart, qNoPart, gNameD, gSub_eq, dInt_i, dInt0_i, dAdd_i, dCmpI_i, List.set_cons_zero, List.set_cons_succ, List.getElem?_cons_zero, List.getElem?_cons_succ, List.append_nil, z_l0, z_l1, z_l2, z_l3, z_l4, z_l5, z_l6, z_l7, z_l8, z_l9, z_l19, z_l24, z_l25, true_and]
  refine ⟨n, s, rfl, hs, ?_⟩
  cases h1 : srcB s with
  | false =>
    rw [h1, if_neg Bool.false_ne_true] at k
    simp only [Bool.not_false, if_true]
    exact ⟨rfl, k⟩
  | true =>
    rw [h1, if_pos rfl] at k
    simp only [Bool.not_true, Bool.false_eq_true, if_false]
    refine ⟨n, p, 3, rfl, by decide, hp, ?_⟩
    by_cases h2 : wrongN 3 p = 0
    · rw [if_pos h2] at k
      rw [h2]
      simp only [dCmpI_i, decide_eq_false (show ¬ ((0 : Int) < ((0 : Nat) : Int)) by decide), Bool.false_eq_true, if_false, put_same, put_put, setAt]
      rw [ha]
      exact ⟨rfl, rfl, Nat.zero_le _, by decide, trivial, rfl, Nat.le_refl 1, by decide, k⟩
    · rw [if_neg h2] at k
      simp only [dCmpI_i, decide_eq_true (show (0 : Int) < ((wrongN 3 p : Nat) : Int) by omega), if_true]
      exact ⟨rfl, k⟩
/-! ### draws -/
def qLSource (sp__law_take : DSp) : DTS :=
  (qSeq (qIfS (qTB (qOp (dEq false) (qCall sp__law_take [] (qCons (qVar 0) (qCons (qC (.int 4)) qNil))) (qC (.int 0))))
  (qRet (qTup (qCons (qC (.str (PySem.Str.ofString "pond"))) (qCons (qCall sp__law_take [] (qCons (qVar 0) (qCons (qC (.int 9)) qNil))) qNil))))
  qNext)
  (qRet (qTup (qCons (qC (.str (PySem.Str.ofString "hydrant"))) (qCons (qCall sp__law_take [] (qCons (qVar 0) (qCons (qC (.int 151)) qNil))) (qCons (qOp (dAdd false) (qC (.int 1)) (qCall sp__law_take [] (qCons (qVar 0) (qCons (qOp dIx (qTup (qCons (qC (.int 5000)) (qCons (qC (.int 1500)) qNil))) (qCall sp__law_take [] (qCons (qVar 0) (qCons (qC (.int 2)) qNil)))) qNil)))) qNil))))))
def qLParts (sp__law_parts : DSp) (sp__law_take : DSp) : DTS :=
  (qSeq (qAsg (qLst true qNil) (gNameD 2))
  (qSeq (qFor (qiRng1 (qCons (qCall sp__law_take [] (qCons (qVar 0) (qCons (qOp dIx (qTup (qCons (qC (.int 3)) (qCons (qC (.int 8)) qNil))) (qCall sp__law_take [] (qCons (qVar 0) (qCons (qC (.int 2)) qNil)))) qNil))) qNil)) (gNameD 3)
  (qSeq (qAsg (qCall sp__law_take [] (qCons (qVar 0) (qCons (qC (.int 4)) qNil))) (gNameD 4))
  (qIfS (qTB (qOp (dCmpI fun i j => decide (i < j)) (qVar 4) (qC (.int 2))))
  (qSeq (qAsg (qTup (qCons (qC (.int 0)) (qCons (qOp (dInt0 fun i j => i - j) (qC (.int 60)) (qCall sp__law_take [] (qCons (qVar 0) (qCons (qC (.int 121)) qNil)))) (qCons (qOp (dInt0 fun i j => i - j) (qC (.int 5)) (qCall sp__law_take [] (qCons (qVar 0) (qCons (qC (.int 11)) qNil)))) qNil)))) (gNameD 5))
  (qSeq (qAsg (qOp dIx (qVar 5) (qCall sp__law_take [] (qCons (qVar 0) (qCons (qC (.int 3)) qNil)))) (gNameD 6))
  (qDrop (qBM "list" mApp (qVar 2) (qCons (qTup (qCons (qC (.str (PySem.Str.ofString "hose"))) (qCons (qOp (dAdd false) (qC (.int 1)) (qCall sp__law_take [] (qCons (qVar 0) (qCons (qOp dIx (qTup (qCons (qC (.int 20)) (qCons (qC (.int 4)) qNil))) (qCall sp__law_take [] (qCons (qVar 0) (qCons (qC (.int 2)) qNil)))) qNil)))) (qCons (qVar 6) qNil)))) qNil)))))
  (qIfS (qTB (qOp (dEq false) (qVar 4) (qC (.int 2))))
  (qDrop (qBM "list" mApp (qVar 2) (qCons (qTup (qCons (qC (.str (PySem.Str.ofString "pump"))) (qCons (qCall sp__law_take [] (qCons (qVar 0) (qCons (qC (.int 121)) qNil))) (qCons (qOp (dAdd false) (qC (.int 1)) (qCall sp__law_take [] (qCons (qVar 0) (qCons (qOp dIx (qTup (qCons (qC (.int 5000)) (qCons (qC (.int 900)) qNil))) (qCall sp__law_take [] (qCons (qVar 0) (qCons (qC (.int 2)) qNil)))) qNil)))) qNil)))) qNil)))
  (qDrop (qBM "list" mApp (qVar 2) (qCons (qTup (qCons (qC (.str (PySem.Str.ofString "leak"))) (qCons (qCall sp__law_take [] (qCons (qVar 0) (qCons (qOp dIx (qTup (qCons (qC (.int 1001)) (qCons (qC (.int 90)) qNil))) (qCall sp__law_take [] (qCons (qVar 0) (qCons (qC (.int 2)) qNil)))) qNil))) qNil))) qNil)))))))
  (qSeq (qIfS (qAnd (qTB (qOp (dCmpI fun i j => decide (j < i)) (qVar 1) (qC (.int 0)))) (qTB (qOp (dEq false) (qCall sp__law_take [] (qCons (qVar 0) (qCons (qC (.int 2)) qNil))) (qC (.int 0)))))
  (qRet (qOp (dAdd false) (qCB dTuple (qCons (qVar 2) qNil)) (qTup (qCons (qTup (qCons (qC (.str (PySem.Str.ofString "fork"))) (qCons (qCall sp__law_parts [] (qCons (qVar 0) (qCons (qOp (dInt0 fun i j => i - j) (qVar 1) (qC (.int 1))) qNil))) (qCons (qCall sp__law_parts [] (qCons (qVar 0) (qCons (qOp (dInt0 fun i j => i - j) (qVar 1) (qC (.int 1))) qNil))) qNil)))) qNil))))
  qNext)
  (qSeq (qAsg (qCall sp__law_take [] (qCons (qVar 0) (qCons (qOp dIx (qTup (qCons (qC (.int 2001)) (qCons (qC (.int 600)) (qCons (qC (.int 60)) qNil)))) (qCall sp__law_take [] (qCons (qVar 0) (qCons (qC (.int 3)) qNil)))) qNil))) (gNameD 7))
  (qSeq (qDrop (qBM "list" mApp (qVar 2) (qCons (qTup (qCons (qC (.str (PySem.Str.ofString "nozzle"))) (qCons (qVar 7) (qCons (qCall sp__law_take [] (qCons (qVar 0) (qCons (qOp dIx (qTup (qCons (qC (.int 101)) (qCons (qC (.int 40)) (qCons (qC (.int 1)) qNil)))) (qCall sp__law_take [] (qCons (qVar 0) (qCons (qC (.int 3)) qNil)))) qNil))) qNil)))) qNil)))
  (qRet (qCB dTuple (qCons (qVar 2) qNil))))))))
def spLSource : DSp := fun ds M Q _ => ∃ (b : Addr), ds = [.ref b] ∧ M b = some .bag ∧ ∀ d, srcB d = true → Pl 8 d → dep d ≤ 1 → Q d M
theorem dep0 {d : D} (h : flatD d = true) : dep d ≤ 0 := Nat.le_of_eq (dep_flat h)
theorem lsource_ok (ds : List D) (M : Mst) (Q : DK) (Ed : DX → Mst → Prop) (h : upSp spLSource ds M Q Ed) : qLSource spTake (fun x _ M => Ed x M) (retE Q) (startD ["_law_bag_here"] ds) M := by
  obtain ⟨Q0, E0, ⟨b, rfl, hb, k0⟩, kq, _⟩ := h
  have k : ∀ d, srcB d = true → Pl 8 d → dep d ≤ 1 → Q d M := fun d a c e => kq _ _ _ (Sub.refl _) (k0 d a c e)
  show qLSource _ _ _ [some (.ref b)] M
  simp only [qLSource, z_eq_int, qSeq, qAsg, qTup, qCons, qNil, qOp, qUn, qC, qCall, qVar, qLst, newL_f, qIfS, qTB, qNext, qRet, qDrop, qFor, qCB, qAug, qSl, qPart, qNoPart, gNameD, gSub_eq, dInt_i, dInt0_i, dAdd_i, dCmpI_i, List.set_cons_zero, List.set_cons_succ, List.getElem?_cons_zero, List.getElem?_cons_succ, List.append_nil, z_l0, z_l1, z_l2, z_l3, z_l4, z_l5, z_l6, z_l7, z_l8, z_l9, z_l19, z_l24, z_l25, true_and]
  refine take_call hb (by decide) (by decide) fun r r0 r1 => ?_
  simp only [z_eq_int]
  by_cases h0 : r = 0
  · simp only [decide_eq_true h0, if_true]
    refine take_call hb (by decide) (by decide) fun v v0 v1 => k _ ?_ (.tup (by simp) fun d hd => ?_) (dep_tup fun d hd => ?_)
    · have e1 : decide (0 ≤ v) = true := decide_eq_true v0
      have e2 : decide (v ≤ 8) = true := decide_eq_true (by omega)
      have : isB (lit "pond") [(0, 8)] (.tup [.str (PySem.Str.ofString "pond"), .int v]) = true := by
        rw [isB_1']; simp [strEq, wholeD, e1, e2]
      unfold srcB; rw [this, Bool.or_true]
    · simp only [List.mem_cons, List.not_mem_nil, or_false] at hd
      rcases hd with rfl | rfl
      · exact .str (tx_of (by decide +kernel))
      · exact .int _
    · simp only [List.mem_cons, List.not_mem_nil, or_false] at hd
      rcases hd with rfl | rfl <;> exact dep0 rfl
  · simp only [decide_eq_false h0, Bool.false_eq_true, if_false]
    refine take_call hb (by decide) (by decide) fun v v0 v1 => take_call hb (by decide) (by decide) fun r r0 r1 => pick_t r0 (by simpa using r1) fun d hd => ?_
    obtain ⟨q, rfl, q1, q2⟩ : ∃ q : Int, d = .int q ∧ 0 < q ∧ q ≤ 5000 := by
      simp only [List.mem_cons, List.not_mem_nil, or_false] at hd
      rcases hd with rfl | rfl <;> exact ⟨_, rfl, by decide, by decide⟩
    refine take_call hb q1 (by omega) fun u u0 u1 => k _ ?_ (.tup (by simp) fun d hd => ?_) (dep_tup fun d hd => ?_)
    · have e1 : decide (0 ≤ v) = true := decide_eq_true v0
      have e2 : decide (v ≤ 150) = true := decide_eq_true (by omega)
      have e3 : decide (1 ≤ 1 + u) = true := decide_eq_true (by omega)
      have e4 : decide (1 + u ≤ 5000) = true := decide_eq_true (by omega)
      have : isB (lit "hydrant") [(0, 150), (1, 5000)] (.tup [.str (PySem.Str.ofString "hydrant"), .int v, .int (1 + u)]) = true := by
        rw [isB_2 (by simp [strEq])]; simp only [wholeD, e1, e2, e3, e4, Bool.and_self]
      unfold srcB; rw [this, Bool.true_or]
    · simp only [List.mem_cons, List.not_mem_nil, or_false] at hd
      rcases hd with rfl | rfl | rfl
      · exact .str (tx_of (by decide +kernel))
      · exact .int _
      · exact .int _
    · simp only [List.mem_cons, List.not_mem_nil, or_false] at hd
      rcases hd with rfl | rfl | rfl <;> exact dep0 rfl
def PartsOk (f : Nat) (d : D) : Prop := wrongN f d = 0 ∧ Pl 8 d ∧ dep d ≤ 2 * f + 2
theorem parts_mk {f : Nat} {ks : List D} {e : D} (hk : ∀ k ∈ ks, midB k = true ∧ Pl 8 k ∧ dep k ≤ 1) (hl : ks.length ≤ 7) (h1 : endW (forksW f) e = true) (h2 : Pl 8 e) (h3 : dep e ≤ 2 * f + 1) : PartsOk f (.tup (ks ++ [e])) := by
  refine ⟨?_, .tup (by simp; omega) fun d hd => ?_, ?_⟩
  · rw [wrongN_eq, wrong_end (by simp; omega) (fun d hd => by rw [List.dropLast_concat] at hd; exact (hk d hd).1), List.getLastD_concat, h1, if_pos rfl]
  · rcases List.mem_append.mp hd with hd | hd
    · exact (hk d hd).2.1
    · rw [List.mem_singleton] at hd; subst hd; exact h2
  · refine dep_tup (n := 2 * f + 1) fun d hd => ?_
    rcases List.mem_append.mp hd with hd | hd
    · have := (hk d hd).2.2; omega
    · rw [List.mem_singleton] at hd; subst hd; exact h3
def MidOk (k : D) : Prop := midB k = true ∧ Pl 8 k ∧ dep k ≤ 1
theorem row2_pl {w : Str} {i : Int} (h : Tx_ 8 w) : Pl 8 (.tup [.str w, .int i]) ∧ dep (.tup [.str w, .int i]) ≤ 1 := ⟨.tup (by simp) fun d hd => by
    simp only [List.mem_cons, List.not_mem_nil, or_false] at hd
    rcases hd with rfl | rfl
    · exact .str h
    · exact .int _, dep_tup fun d hd => by
    simp only [List.mem_cons, List.not_mem_nil, or_false] at hd
    rcases hd with rfl | rfl <;> exact dep0 rfl⟩
theorem row3_pl {w : Str} {i j : Int} (h : Tx_ 8 w) : Pl 8 (.tup [.str w, .int i, .int j]) ∧ dep (.tup [.str w, .int i, .int j]) ≤ 1 := ⟨.tup (by simp) fun d hd => by
    simp only [List.mem_cons, List.not_mem_nil, or_false] at hd
    rcases hd with rfl | rfl | rfl
    · exact .str h
    · exact .int _
    · exact .int _, dep_tup fun d hd => by
    simp only [List.mem_cons, List.not_mem_nil, or_false] at hd
    rcases hd with rfl | rfl | rfl <;> exact dep0 rfl⟩
theorem isB_mk2 {w : Str} {l1 h1 l2 h2 i j : Int} (a1 : l1 ≤ i) (a2 : i ≤ h1) (b1 : l2 ≤ j) (b2 : j ≤ h2) : isB w [(l1, h1), (l2, h2)] (.tup [.str w, .int i, .int j]) = true := by
  rw [isB_2 (by simp [strEq])]
  simp only [wholeD, decide_eq_true a1, decide_eq_true a2, decide_eq_true b1, decide_eq_true b2, Bool.and_self]
theorem isB_mk1 {w : Str} {l1 h1 i : Int} (a1 : l1 ≤ i) (a2 : i ≤ h1) : isB w [(l1, h1)] (.tup [.str w, .int i]) = true := by
  rw [isB_1']
  simp only [strEq, wholeD, decide_eq_true a1, decide_eq_true a2, Bool.and_self, decide_true]
theorem hose_ok {i j : Int} (a1 : 1 ≤ i) (a2 : i ≤ 20) (b1 : -60 ≤ j) (b2 : j ≤ 60) : MidOk (.tup [.str (lit "hose"), .int i, .int j]) :=
  ⟨by unfold midB; rw [isB_mk2 a1 a2 b1 b2]; rfl, row3_pl (tx_of (by decide +kernel))⟩
theorem pump_ok {i j : Int} (a1 : 0 ≤ i) (a2 : i ≤ 120) (b1 : 1 ≤ j) (b2 : j ≤ 5000) : MidOk (.tup [.str (lit "pump"), .int i, .int j]) :=
  ⟨by unfold midB; rw [isB_mk2 a1 a2 b1 b2, Bool.or_true]; rfl, row3_pl (tx_of (by decide +kernel))⟩
theorem leak_ok {i : Int} (a1 : 0 ≤ i) (a2 : i ≤ 1000) : MidOk (.tup [.str (lit "leak"), .int i]) :=
  ⟨by unfold midB; rw [isB_mk1 a1 a2, Bool.or_true], row2_pl (tx_of (by decide +kernel))⟩
theorem nozz_ok {i j : Int} {W : Option (D → Nat)} (a1 : 0 ≤ i) (a2 : i ≤ 2000) (b1 : 0 ≤ j) (b2 : j ≤ 100) : endW W (.tup [.str (lit "nozzle"), .int i, .int j]) = true := by
  unfold endW
  rw [show forkD (.tup [.str (lit "nozzle"), .int i, .int j]) = none from rfl]
  exact isB_mk2 a1 a2 b1 b2
theorem fork_end {f : Nat} {x y : D} (hx : wrongN f x = 0) (hy : wrongN f y = 0) : endW (forksW (f + 1)) (.tup [.str (lit "fork"), x, y]) = true := by
  unfold endW
  rw [show forkD (.tup [.str (lit "fork"), x, y]) = some (x, y) from rfl]
  show (decide (wrongN f x = 0) && decide (wrongN f y = 0)) = true
  rw [hx, hy]; rfl
def spLParts (m : Nat) : DSp := fun ds M Q _ => ∃ (b : Addr) (f : Nat), ds = [.ref b, .int (f : Int)] ∧ M b = some .bag ∧ f < m ∧ ∀ d, PartsOk f d → Q d M
theorem lparts_ok (m : Nat) (ds : List D) (M : Mst) (Q : DK) (Ed : DX → Mst → Prop) (h : upSp (spLParts (m + 1)) ds M Q Ed) : qLParts (spLParts m) spTake (fun x _ M => Ed x M) (retE Q) (startD ["_law_bag_here", "_law_forks", "_law_found", "_law_k", "_law_sort", "_law_heights", "_law_height", "_law_flow"] ds) M := by
  obtain ⟨Q0, E0, ⟨b, f, rfl, hb, hf, k0⟩, kq, _⟩ := h
  have k : ∀ d M', Sub M M' → PartsOk f d → Q d M' := fun d M' S a => kq _ _ _ S (k0 d a)
  clear kq k0
  show qLParts _ _ _ _ [some (.ref b), some (.int (f : Int)), none, none, none, none, none, none] M
  simp only [qLParts, qiRng1, qAnd, newL_t, qSeq, qAsg, qTup, qCons, qNil, qOp, qUn, qC, qCall, qVar, qLst, newL_f, qIfS, qTB, qNext, qRet, qDrop, qFor, qCB, qAug, qSl, qPart, qNoPart, gNameD, gSub_eq, dInt_i, dInt0_i, dAdd_i, dCmpI_i, List.set_cons_zero, List.set_cons_succ, List.getElem?_cons_zero, List.getElem?_cons_succ, List.append_nil, z_l0, z_l1, z_l2, z_l3, z_l4, z_l5, z_l6, z_l7, z_l8, z_l9, z_l19, z_l24, z_l25, true_and]
  intro l hl
  have hb0 : put M l (.lst []) b = some .bag := put_keep hb hl
  refine take_call hb0 (by decide) (by decide) fun r r0 r1 => pick_t r0 (by simpa using r1) fun d hd => ?_
  obtain ⟨q, rfl, q1, q2⟩ : ∃ q : Int, d = .int q ∧ 0 < q ∧ q ≤ 8 := by
    simp only [List.mem_cons, List.not_mem_nil, or_false] at hd
    rcases hd with rfl | rfl <;> exact ⟨_, rfl, by decide, by decide⟩
  refine take_call hb0 q1 (by omega) fun t t0 t1 => ⟨by omega, by omega, ?_⟩
  refine loopL_inv (fun i p M' => ∃ (ks : List D) (x3 x4 x5 x6 : Option D), p = [some (.ref b), some (.int (f : Int)), some (.ref l), x3, x4, x5, x6, none] ∧ M' = put M l (.lst ks) ∧ ks.length = i ∧ ∀ k ∈ ks, MidOk k) (n := t.toNat) (by simp) (fun i d p M' R hd hI hR => ?_) (fun p M' hI => ?_)
    ⟨[], none, none, none, none, rfl, rfl, rfl, fun _ h => by cases h⟩
  · obtain ⟨ks, x3, x4, x5, x6, rfl, rfl, kl, hk⟩ := hI
    obtain ⟨hi, rfl⟩ := range_at hd
    have hi : i < 7 := by omega
    have hb' : put M l (.lst ks) b = some .bag := put_keep hb hl
    refine ⟨trivial, ?_⟩
    have fin : ∀ (e : D) (p' : Rho), MidOk e → (∃ x3 x4 x5 x6, p' = [some (.ref b), some (.int (f : Int)), some (.ref l), x3, x4, x5, x6, none]) → mApp (.ref l) [e] (put M l (.lst ks)) fun _ M2 => R p' M2 := fun e p' he ⟨x3, x4, x5, x6, ep⟩ => by
      subst ep
      simp only [mApp, put_same, put_put]
      refine ⟨by omega, hR _ _ ⟨ks ++ [e], _, _, _, _, rfl, rfl, by simp [kl], fun k' hk' => ?_⟩⟩
      rcases List.mem_append.mp hk' with h | h
      · exact hk k' h
      · rw [List.mem_singleton] at h; subst h; exact he
    have ty : tyOk "list" (res (put M l (.lst ks)) (.ref l)) = true := by simp [res, put_same, tyOk]
    simp only [qBM, qSeq, qAsg, qTup, qCons, qNil, qOp, qUn, qC, qCall, qVar, qLst, newL_f, qIfS, qTB, qNext, qRet, qDrop, qFor, qCB, qAug, qSl, qPart, qNoPart, gNameD, gSub_eq, dInt_i, dInt0_i, dAdd_i, dCmpI_i, List.set_cons_zero, List.set_cons_succ, List.getElem?_cons_zero, List.getElem?_cons_succ, List.append_nil, z_l0, z_l1, z_l2, z_l3, z_l4, z_l5, z_l6, z_l7, z_l8, z_l9, z_l19, z_l24, z_l25, true_and]
    refine take_call hb' (by decide) (by decide) fun so so0 so1 => ?_
    simp only [dCmpI_i, z_eq_int]
    by_cases h2 : so < 2
    · simp only [decide_eq_true h2, if_true]
      refine take_call hb' (by decide) (by decide) fun u u0 u1 => ?_
      simp only [dInt0_i]
      refine take_call hb' (by decide) (by decide) fun v v0 v1 => ?_
      simp only [dInt0_i]
      refine take_call hb' (by decide) (by decide) fun r r0 r1 => pick_t r0 (by simpa using r1) fun d hd => ?_
      obtain ⟨hh, rfl, g1, g2⟩ : ∃ hh : Int, d = .int hh ∧ -60 ≤ hh ∧ hh ≤ 60 := by
        simp only [List.mem_cons, List.not_mem_nil, or_false] at hd
        rcases hd with rfl | rfl | rfl <;> exact ⟨_, rfl, by omega, by omega⟩
      refine ⟨ty, take_call hb' (by decide) (by decide) fun r r0 r1 => pick_t r0 (by simpa using r1) fun d hd => ?_⟩
      obtain ⟨q, rfl, q1, q2⟩ : ∃ q : Int, d = .int q ∧ 0 < q ∧ q ≤ 20 := by
        simp only [List.mem_cons, List.not_mem_nil, or_false] at hd
        rcases hd with rfl | rfl <;> exact ⟨_, rfl, by decide, by decide⟩
      exact take_call hb' q1 (by omega) fun z z0 z1 => fin _ _ (hose_ok (by omega) (by omega) g1 g2) ⟨_, _, _, _, rfl⟩
    · simp only [decide_eq_false h2, Bool.false_eq_true, if_false]
      by_cases h3 : so = 2
      · simp only [decide_eq_true h3, if_true]
        refine ⟨ty, take_call hb' (by decide) (by decide) fun u u0 u1 => take_call hb' (by decide) (by decide) fun r r0 r1 => pick_t r0 (by simpa using r1) fun d hd => ?_⟩
        obtain ⟨q, rfl, q1, q2⟩ : ∃ q : Int, d = .int q ∧ 0 < q ∧ q ≤ 5000 := by
          simp only [List.mem_cons, List.not_mem_nil, or_false] at hd
          rcases hd with rfl | rfl <;> exact ⟨_, rfl, by decide, by decide⟩
        exact take_call hb' q1 (by omega) fun z z0 z1 => fin _ _ (pump_ok u0 (by omega) (by omega) (by omega)) ⟨_, _, _, _, rfl⟩
      · simp only [decide_eq_false h3, Bool.false_eq_true, if_false]
        refine ⟨ty, take_call hb' (by decide) (by decide) fun r r0 r1 => pick_t r0 (by simpa using r1) fun d hd => ?_⟩
        obtain ⟨q, rfl, q1, q2⟩ : ∃ q : Int, d = .int q ∧ 0 < q ∧ q ≤ 1001 := by
          simp only [List.mem_cons, List.not_mem_nil, or_false] at hd
          rcases hd with rfl | rfl <;> exact ⟨_, rfl, by decide, by decide⟩
        exact take_call hb' q1 (by omega) fun z z0 z1 => fin _ _ (leak_ok z0 (by omega)) ⟨_, _, _, _, rfl⟩
  · obtain ⟨ks, x3, x4, x5, x6, rfl, rfl, kl, hk⟩ := hI
    refine ⟨trivial, ?_⟩
    have hb' : put M l (.lst ks) b = some .bag := put_keep hb hl
    have S : Sub M (put M l (.lst ks)) := (Sub.refl M).put hl
    have kl7 : ks.length ≤ 7 := by omega
    have noz : (qSeq (qAsg (qCall spTake [] (qCons (qVar 0) (qCons (qOp dIx (qTup (qCons (qC (.int 2001)) (qCons (qC (.int 600)) (qCons (qC (.int 60)) qNil)))) (qCall spTake [] (qCons (qVar 0) (qCons (qC (.int 3)) qNil)))) qNil))) (gNameD 7))
  (qSeq (qDrop (qBM "list" mApp (qVar 2) (qCons (qTup (qCons (qC (.str (PySem.Str.ofString "nozzle"))) (qCons (qVar 7) (qCons (qCall spTake [] (qCons (qVar 0) (qCons (qOp dIx (qTup (qCons (qC (.int 101)) (qCons (qC (.int 40)) (qCons (qC (.int 1)) qNil)))) (qCall spTake [] (qCons (qVar 0) (qCons (qC (.int 3)) qNil)))) qNil))) qNil)))) qNil)))
  (qRet (qCB dTuple (qCons (qVar 2) qNil))))) (fun x _ M => Ed x M) (retE Q) [some (.ref b), some (.int (f : Int)), some (.ref l), x3, x4, x5, x6, none] (put M l (.lst ks)) := by
      simp only [qBM, qSeq, qAsg, qTup, qCons, qNil, qOp, qUn, qC, qCall, qVar, qLst, newL_f, qIfS, qTB, qNext, qRet, qDrop, qFor, qCB, qAug, qSl, qPart, qNoPart, gNameD, gSub_eq, dInt_i, dInt0_i, dAdd_i, dCmpI_i, List.set_cons_zero, List.set_cons_succ, List.getElem?_cons_zero, List.getElem?_cons_succ, List.append_nil, z_l0, z_l1, z_l2, z_l3, z_l4, z_l5, z_l6, z_l7, z_l8, z_l9, z_l19, z_l24, z_l25, true_and]
      refine take_call hb' (by decide) (by decide) fun r r0 r1 => pick_t r0 (by simpa using r1) fun d hd => ?_
      obtain ⟨q, rfl, q1, q2⟩ : ∃ q : Int, d = .int q ∧ 0 < q ∧ q ≤ 2001 := by
        simp only [List.mem_cons, List.not_mem_nil, or_false] at hd
        rcases hd with rfl | rfl | rfl <;> exact ⟨_, rfl, by decide, by decide⟩
      refine take_call hb' q1 (by omega) fun z z0 z1 => ⟨by simp [res, put_same, tyOk], take_call hb' (by decide) (by decide) fun r r0 r1 => pick_t r0 (by simpa using r1) fun d hd => ?_⟩
      obtain ⟨q', rfl, q1', q2'⟩ : ∃ q : Int, d = .int q ∧ 0 < q ∧ q ≤ 101 := by
        simp only [List.mem_cons, List.not_mem_nil, or_false] at hd
        rcases hd with rfl | rfl | rfl <;> exact ⟨_, rfl, by decide, by decide⟩
      refine take_call hb' q1' (by omega) fun y y0 y1 => ?_
      simp only [mApp, put_same, put_put, dTuple, res_r put_same]
      have P := row3_pl (w := lit "nozzle") (i := z) (j := y) (tx_of (by decide +kernel))
      exact ⟨by omega, k _ _ ((Sub.refl M).put hl) (parts_mk hk kl7 (nozz_ok z0 (by omega) y0 (by omega)) P.1 (Nat.le_trans P.2 (by omega)))⟩
    simp only [qSeq, qAsg, qTup, qCons, qNil, qOp, qUn, qC, qCall, qVar, qLst, newL_f, qIfS, qTB, qNext, qRet, qDrop, qFor, qCB, qAug, qSl, qPart, qNoPart, gNameD, gSub_eq, dInt_i, dInt0_i, dAdd_i, dCmpI_i, List.set_cons_zero, List.set_cons_succ, List.getElem?_cons_zero, List.getElem?_cons_succ, List.append_nil, z_l0, z_l1, z_l2, z_l3, z_l4, z_l5, z_l6, z_l7, z_l8, z_l9, z_l19, z_l24, z_l25, true_and] at noz
    simp only [qSeq, qIfS, qAnd, qTB, qRet]
    simp only [qSeq, qAsg, qTup, qCons, qNil, qOp, qUn, qC, qCall, qVar, qLst, newL_f, qIfS, qTB, qNext, qRet, qDrop, qFor, qCB, qAug, qSl, qPart, qNoPart, gNameD, gSub_eq, dInt_i, dInt0_i, dAdd_i, dCmpI_i, List.set_cons_zero, List.set_cons_succ, List.getElem?_cons_zero, List.getElem?_cons_succ, List.append_nil, z_l0, z_l1, z_l2, z_l3, z_l4, z_l5, z_l6, z_l7, z_l8, z_l9, z_l19, z_l24, z_l25, true_and]
    by_cases h0 : (0 : Int) < (f : Int)
    · simp only [decide_eq_true h0, if_true]
      refine take_call hb' (by decide) (by decide) fun r r0 r1 => ?_
      simp only [z_eq_int]
      by_cases h1 : r = 0
      · simp only [decide_eq_true h1, if_true, dTuple, res_r put_same]
        obtain ⟨g, rfl⟩ : ∃ g, f = g + 1 := ⟨f - 1, by omega⟩
        have hs : ((g + 1 : Nat) : Int) - 1 = (g : Int) := by omega
        simp only [hs]
        refine ⟨b, g, rfl, hb', by omega, fun x ⟨x1, x2, x3⟩ => ⟨b, g, rfl, hb', by omega, fun y ⟨y1, y2, y3⟩ => ?_⟩⟩
        simp only [z_add_tup]
        refine ⟨by simp; omega, k _ _ S (parts_mk hk kl7 (fork_end x1 y1) (.tup (by simp) fun d hd => ?_) (dep_tup (n := 2 * g + 2) fun d hd => ?_))⟩
        · simp only [List.mem_cons, List.not_mem_nil, or_false] at hd
          rcases hd with rfl | rfl | rfl
          · exact .str (tx_of (by decide +kernel))
          · exact x2
          · exact y2
        · simp only [List.mem_cons, List.not_mem_nil, or_false] at hd
          rcases hd with rfl | rfl | rfl
          · exact Nat.le_trans (dep0 rfl) (Nat.zero_le _)
          · exact x3
          · exact y3
      · simp only [decide_eq_false h1, Bool.false_eq_true, if_false]
        exact noz
    · simp only [decide_eq_false h0, Bool.false_eq_true, if_false]
      exact noz
end DL

/-! LnC: rows of parts as trees; their joins, one taken out. -/
namespace DL
open PySem L2 Tx20 Tx21
inductive LT where
  | noz (ms : List D) (z : D)
  | frk (ms : List D) (a b : LT)
def LT.d : LT → D
  | .noz ms z => .tup (ms ++ [z])
  | .frk ms a b => .tup (ms ++ [.tup [.str (lit "fork"), a.d, b.d]])
def LT.js : LT → List D
  | .noz ms z => ms ++ [z]
  | .frk ms a b => ms ++ a.js ++ b.js
def LT.n (t : LT) : Nat := t.js.length
def MidsOk (ms : List D) : Prop := (∀ m ∈ ms, midB m = true) ∧ ms.length ≤ 7
def LT.ok : Nat → LT → Prop
  | _, .noz ms z => MidsOk ms ∧ nozB z = true
  | 0, .frk _ _ _ => False
  | f + 1, .frk ms a b => MidsOk ms ∧ a.ok f ∧ b.ok f
theorem last_split {ds : List D} (h : ds ≠ []) : ds = ds.dropLast ++ [ds.getLastD .non] := by
  rw [List.getLastD_eq_getLast?, List.getLast?_eq_some_getLast h]
  exact (List.dropLast_concat_getLast h).symm
theorem forkD_some {x b c : D} (h : forkD x = some (b, c)) : x = .tup [.str (lit "fork"), b, c] := by
  unfold forkD at h
  split at h
  · next a b' c' =>
    split at h
    · next ha =>
      cases h
      cases a with
      | str y => simp only [strEq, decide_eq_true_eq] at ha; rw [ha]
      | _ => cases ha
    · cases h
  · cases h
theorem wrong_zero {W : Option (D → Nat)} {x : D} (h : wrongW W x = 0) : ∃ ms e, x = .tup (ms ++ [e]) ∧ MidsOk ms ∧ endW W e = true := by
  cases x with
  | tup ds =>
    rw [wrongW_tup] at h
    by_cases h0 : ds.length = 0 ∨ 8 < ds.length
    · rw [if_pos h0] at h; cases h
    · rw [if_neg h0] at h
      by_cases h1 : (goods W ds).all id = true
      · have hne : ds ≠ [] := fun e => h0 (.inl (by rw [e]; rfl))
        refine ⟨ds.dropLast, ds.getLastD .non, by rw [← last_split hne], ⟨fun m hm => ?_, by rw [List.length_dropLast]; omega⟩, ?_⟩
        · exact List.all_eq_true.mp h1 _ (List.mem_append_left _ (List.mem_map_of_mem hm))
        · exact List.all_eq_true.mp h1 _ (List.mem_append_right _ (List.mem_singleton.mpr rfl))
      · rw [if_neg h1] at h; omega
  | _ => cases h
theorem lt_of : ∀ (f : Nat) (x : D), wrongN f x = 0 → ∃ t : LT, t.d = x ∧ t.ok f := by
  intro f
  induction f with
  | zero =>
    intro x h
    obtain ⟨ms, e, rfl, hm, he⟩ := wrong_zero h
    unfold endW at he
    split at he
    · next h1 h2 => cases h2
    · cases he
    · exact ⟨.noz ms e, rfl, hm, he⟩
  | succ f ih =>
    intro x h
    obtain ⟨ms, e, rfl, hm, he⟩ := wrong_zero h
    unfold endW at he
    split at he
    · next b c W h1 h2 =>
      cases h2
      simp only [Bool.and_eq_true, decide_eq_true_eq] at he
      obtain ⟨a, ea, oa⟩ := ih b he.1
      obtain ⟨a2, ea2, oa2⟩ := ih c he.2
      exact ⟨.frk ms a a2, by rw [LT.d, ea, ea2, ← forkD_some h1], hm, oa, oa2⟩
    · cases he
    · exact ⟨.noz ms e, rfl, hm, he⟩
theorem wrong_mk {W : Option (D → Nat)} {ms : List D} {e : D} (hm : MidsOk ms) (he : endW W e = true) : wrongW W (.tup (ms ++ [e])) = 0 := by
  rw [wrong_end (by have := hm.2; simp; omega) (fun d hd => by rw [List.dropLast_concat] at hd; exact hm.1 d hd), List.getLastD_concat, he, if_pos rfl]
theorem noz_endW {W : Option (D → Nat)} {x : D} (h : nozB x = true) : endW W x = true := by
  unfold endW
  cases e : forkD x with
  | none => exact h
  | some p =>
    obtain ⟨b, c⟩ := p
    rw [forkD_some e] at h
    have := isB_word (w := lit "nozzle") (bs := [(0, 2000), (0, 100)]) (a := .str (lit "fork")) (r := [b, c]) rfl
    rw [nozB, this] at h; cases h
theorem ok_wrong0 : ∀ (f : Nat) (t : LT), t.ok f → wrongN f t.d = 0
  | 0, .noz ms z, h => wrong_mk h.1 (noz_endW h.2)
  | f + 1, .noz ms z, h => wrong_mk h.1 (noz_endW h.2)
  | 0, .frk _ _ _, h => h.elim
  | f + 1, .frk ms a b, h => wrong_mk h.1 (by
    unfold endW
    rw [show forkD (.tup [.str (lit "fork"), a.d, b.d]) = some (a.d, b.d) from rfl]
    show (decide (wrongN f a.d = 0) && decide (wrongN f b.d = 0)) = true
    rw [ok_wrong0 f a h.2.1, ok_wrong0 f b h.2.2]; rfl)
theorem n_le : ∀ (f : Nat) (t : LT), t.ok f → t.n + 7 ≤ 15 * 2 ^ f
  | f, .noz ms z, h => by
    have h1 : ms.length ≤ 7 := by cases f <;> exact h.1.2
    have h2 : 0 < 2 ^ f := Nat.two_pow_pos f
    show (ms ++ [z]).length + 7 ≤ _
    rw [List.length_append]
    simp only [List.length_cons, List.length_nil]
    omega
  | 0, .frk _ _ _, h => h.elim
  | f + 1, .frk ms a b, h => by
    have h1 := n_le f a h.2.1
    have h2 := n_le f b h.2.2
    have h3 := h.1.2
    show (ms ++ a.js ++ b.js).length + 7 ≤ _
    rw [List.length_append, List.length_append, Nat.pow_succ]
    unfold LT.n at h1 h2
    omega
theorem n_113 {f : Nat} {t : LT} (h : t.ok f) (hf : f ≤ 3) : t.n ≤ 113 := by
  have := n_le f t h
  have : 2 ^ f ≤ 2 ^ 3 := Nat.pow_le_pow_right (by decide) hf
  omega
theorem n_pos : ∀ t : LT, 1 ≤ t.n
  | .noz ms z => by show 1 ≤ (ms ++ [z]).length; simp
  | .frk ms a b => by
    have := n_pos a
    show 1 ≤ (ms ++ a.js ++ b.js).length
    unfold LT.n at this
    simp; omega
/-! ### one taken out -/
def rmI (ms : List D) (j : Int) : List D := if 1 ≤ j then ms.eraseIdx (j - 1).toNat else ms
def LT.rem : LT → Int → LT
  | .noz ms z, j => .noz (rmI ms j) z
  | .frk ms a b, j => .frk (rmI ms j) (a.rem (j - ms.length)) (b.rem (j - ms.length - a.n))
def LT.nz : LT → Int → Bool
  | .noz ms _, j => decide (j = ms.length + 1)
  | .frk ms a b, j => a.nz (j - ms.length) || b.nz (j - ms.length - a.n)
def LT.without : LT → Int → Option LT
  | .noz ms z, j => if j < ms.length + 1 then some (.noz (rmI ms j) z) else none
  | .frk ms a b, j => if j < ms.length + 1 then some (.frk (rmI ms j) a b) else if j - ms.length ≤ a.n then (a.without (j - ms.length)).map fun a' => .frk ms a' b else (b.without (j - ms.length - a.n)).map fun b' => .frk ms a b'
theorem rmI_id {ms : List D} {j : Int} (h : j ≤ 0 ∨ (ms.length : Int) < j) : rmI ms j = ms := by
  unfold rmI
  split
  · rw [List.eraseIdx_of_length_le (by omega)]
  · rfl
theorem n_frk {ms : List D} {a b : LT} : (LT.frk ms a b).n = ms.length + a.n + b.n := by
  show (ms ++ a.js ++ b.js).length = _
  rw [List.length_append, List.length_append]; rfl
theorem n_noz {ms : List D} {z : D} : (LT.noz ms z).n = ms.length + 1 := by show (ms ++ [z]).length = _; simp
theorem rem_id : ∀ (t : LT) (j : Int), j ≤ 0 ∨ (t.n : Int) < j → t.rem j = t
  | .noz ms z, j, h => by rw [n_noz] at h; rw [LT.rem, rmI_id (by omega)]
  | .frk ms a b, j, h => by
    rw [n_frk] at h
    rw [LT.rem, rmI_id (by omega), rem_id a _ (by omega), rem_id b _ (by omega)]
theorem nz_no : ∀ (t : LT) (j : Int), j ≤ 0 ∨ (t.n : Int) < j → t.nz j = false
  | .noz ms z, j, h => by rw [n_noz] at h; exact decide_eq_false (by omega)
  | .frk ms a b, j, h => by
    rw [n_frk] at h
    rw [LT.nz, nz_no a _ (by omega), nz_no b _ (by omega)]; rfl
theorem without_eq : ∀ (t : LT) (j : Int), 1 ≤ j → j ≤ t.n → t.without j = if t.nz j = true then none else some (t.rem j)
  | .noz ms z, j, h1, h2 => by
    rw [n_noz] at h2
    rw [LT.without, LT.nz, LT.rem]
    by_cases h : j < ms.length + 1
    · rw [if_pos h, decide_eq_false (by omega), if_neg Bool.false_ne_true]
    · rw [if_neg h, decide_eq_true (by omega), if_pos rfl]
  | .frk ms a b, j, h1, h2 => by
    rw [n_frk] at h2
    rw [LT.without, LT.nz, LT.rem]
    by_cases h : j < ms.length + 1
    · rw [if_pos h, nz_no a _ (by omega), nz_no b _ (by omega), rem_id a _ (by omega), rem_id b _ (by omega)]; rfl
    · rw [if_neg h, rmI_id (by omega)]
      by_cases h' : j - ms.length ≤ a.n
      · rw [if_pos h', without_eq a _ (by omega) h', nz_no b _ (by omega), rem_id b _ (by omega), Bool.or_false]
        cases a.nz (j - ms.length) <;> rfl
      · rw [if_neg h', without_eq b _ (by omega) (by omega), nz_no a _ (by omega), rem_id a _ (by omega), Bool.false_or]
        cases b.nz (j - ms.length - a.n) <;> rfl
theorem rmI_ok {ms : List D} {j : Int} (h : MidsOk ms) : MidsOk (rmI ms j) := by
  unfold rmI
  split
  · exact ⟨fun m hm => h.1 m (List.mem_of_mem_eraseIdx hm), Nat.le_trans (List.length_eraseIdx_le ..) h.2⟩
  · exact h
theorem rem_ok : ∀ (f : Nat) (t : LT) (j : Int), t.ok f → (t.rem j).ok f
  | 0, .noz ms z, j, h => ⟨rmI_ok h.1, h.2⟩
  | f + 1, .noz ms z, j, h => ⟨rmI_ok h.1, h.2⟩
  | 0, .frk _ _ _, j, h => h.elim
  | f + 1, .frk ms a b, j, h => ⟨rmI_ok h.1, rem_ok f a _ h.2.1, rem_ok f b _ h.2.2⟩
/-! ### forms -/
theorem noz_form {z : D} (h : nozB z = true) : ∃ i j, z = .tup [.str (lit "nozzle"), .int i, .int j] := by
  unfold nozB isB at h
  split at h
  · next a r =>
    simp only [Bool.and_eq_true, decide_eq_true_eq] at h
    obtain ⟨hl, hw, ha⟩ := h
    have hl : r.length = 2 := hl
    obtain ⟨x, y, rfl⟩ : ∃ x y, r = [x, y] := by
      match r, hl with
      | [x, y], _ => exact ⟨x, y, rfl⟩
    cases a with
    | str s =>
      simp only [strEq, decide_eq_true_eq] at hw
      subst hw
      simp only [List.zip_cons_cons, List.zip_nil_left, List.all_cons, List.all_nil, Bool.and_true, Bool.and_eq_true] at ha
      cases x with
      | int i => cases y with
        | int j => exact ⟨i, j, rfl⟩
        | _ => cases ha.2
      | _ => cases ha.1
    | _ => cases hw
  · cases h
theorem isB_form {w : Str} {bs : List (Int × Int)} {x : D} (h : isB w bs x = true) : ∃ r, x = .tup (.str w :: r) := by
  unfold isB at h
  split at h
  · next a r =>
    simp only [Bool.and_eq_true, decide_eq_true_eq] at h
    cases a with
    | str s => have := h.2.1; simp only [strEq, decide_eq_true_eq] at this; subst this; exact ⟨r, rfl⟩
    | _ => cases h.2.1
  · cases h
theorem mid_form {x : D} (h : midB x = true) : ∃ w r, x = .tup (.str w :: r) ∧ w ≠ lit "nozzle" := by
  unfold midB at h
  simp only [Bool.or_eq_true] at h
  rcases h with (h | h) | h
  · obtain ⟨r, rfl⟩ := isB_form h; exact ⟨_, r, rfl, by decide⟩
  · obtain ⟨r, rfl⟩ := isB_form h; exact ⟨_, r, rfl, by decide⟩
  · obtain ⟨r, rfl⟩ := isB_form h; exact ⟨_, r, rfl, by decide⟩
/-- the join of a number, and whether it is a nozzle -/
theorem js_at : ∀ (f : Nat) (t : LT) (i : Nat), t.ok f → i < t.n → ∃ w r, t.js[i]? = some (.tup (.str w :: r)) ∧ decide (w = lit "nozzle") = t.nz ((i : Int) + 1)
  | f, .noz ms z, i, h, hi => by
    rw [n_noz] at hi
    have hm : MidsOk ms := by cases f <;> exact h.1
    have hz : nozB z = true := by cases f <;> exact h.2
    show ∃ w r, (ms ++ [z])[i]? = _ ∧ _ = decide _
    by_cases hl : i < ms.length
    · rw [List.getElem?_append_left hl, List.getElem?_eq_getElem hl]
      obtain ⟨w, r, e, hw⟩ := mid_form (hm.1 _ (List.getElem_mem hl))
      exact ⟨w, r, by rw [e], by rw [decide_eq_false hw, decide_eq_false (by omega)]⟩
    · have : i = ms.length := by omega
      subst this
      rw [List.getElem?_append_right (Nat.le_refl _), Nat.sub_self]
      obtain ⟨a, b, rfl⟩ := noz_form hz
      exact ⟨_, _, rfl, by rw [decide_eq_true rfl, decide_eq_true rfl]⟩
  | 0, .frk _ _ _, i, h, hi => h.elim
  | f + 1, .frk ms a b, i, h, hi => by
    rw [n_frk] at hi
    show ∃ w r, (ms ++ a.js ++ b.js)[i]? = _ ∧ _ = (a.nz _ || b.nz _)
    by_cases hl : i < ms.length
    · rw [List.append_assoc, List.getElem?_append_left hl, List.getElem?_eq_getElem hl]
      obtain ⟨w, r, e, hw⟩ := mid_form (h.1.1 _ (List.getElem_mem hl))
      exact ⟨w, r, by rw [e], by rw [decide_eq_false hw, nz_no a _ (by omega), nz_no b _ (by omega)]; rfl⟩
    · by_cases hl2 : i < ms.length + a.n
      · have e1 : (ms ++ a.js ++ b.js)[i]? = a.js[i - ms.length]? := by
          rw [List.getElem?_append_left (by rw [List.length_append]; exact hl2), List.getElem?_append_right (by omega)]
        obtain ⟨w, r, e, hw⟩ := js_at f a (i - ms.length) h.2.1 (by omega)
        refine ⟨w, r, by rw [e1, e], ?_⟩
        rw [hw, nz_no b _ (by omega), Bool.or_false]
        congr 1; omega
      · have e1 : (ms ++ a.js ++ b.js)[i]? = b.js[i - ms.length - a.n]? := by
          rw [List.getElem?_append_right (by rw [List.length_append]; exact Nat.le_of_not_lt hl2), List.length_append]
          congr 1
          show i - (ms.length + a.n) = _
          omega
        obtain ⟨w, r, e, hw⟩ := js_at f b (i - ms.length - a.n) h.2.2 (by omega)
        refine ⟨w, r, by rw [e1, e], ?_⟩
        rw [hw, nz_no a _ (by omega), Bool.false_or]
        congr 1; omega
end DL

/-! WhA: which class of refusals an exception is of. -/
namespace DL
open PySem L2 Tx20 Tx21
def qWhich (w_ : Nat) (c_BadText : Addr) (c_BadTime : Addr) (c_Dead : Addr) (c_Inside : Addr) (c_Late : Addr) (c_NoBoard : Addr) (c_NoBook : Addr) (c_NoCall : Addr) (c_NoDeed : Addr) (c_NoEngine : Addr) (c_NoEngines : Addr) (c_NoFlow : Addr) (c_NoGround : Addr) (c_NoJoin : Addr) (c_NoKind : Addr) (c_NoLine : Addr) (c_NoPlace : Addr) (c_NoProof : Addr) (c_NoRow : Addr) (c_NoSaying : Addr) (c_NoTeam : Addr) (c_NoText : Addr) (c_NoWearer : Addr) (c_NotDone : Addr) (c_Nothing : Addr) (c_TooMany : Addr) (a_ : Addr) (d_ : Option Addr) : DTS :=
  (qSeq (qAsg (qLst false (qCons (qCB (dIsX a_ d_ (Nat.beq w_ 0) (.ref c_BadTime)) (qCons (qVar 0) (qCons (qC (.ref c_BadTime)) qNil))) (qCons (qCB (dIsX a_ d_ (Nat.beq w_ 1) (.ref c_NoGround)) (qCons (qVar 0) (qCons (qC (.ref c_NoGround)) qNil))) (qCons (qCB (dIsX a_ d_ (Nat.beq w_ 2) (.ref c_NoPlace)) (qCons (qVar 0) (qCons (qC (.ref c_NoPlace)) qNil))) (qCons (qCB (dIsX a_ d_ (Nat.beq w_ 3) (.ref c_NoProof)) (qCons (qVar 0) (qCons (qC (.ref c_NoProof)) qNil))) qNil))))) (gNameD 1))
  (qSeq (qAsg (qOp (dAdd false) (qVar 1) (qLst false (qCons (qCB (dIsX a_ d_ (Nat.beq w_ 4) (.ref c_NoKind)) (qCons (qVar 0) (qCons (qC (.ref c_NoKind)) qNil))) (qCons (qCB (dIsX a_ d_ (Nat.beq w_ 5) (.ref c_BadText)) (qCons (qVar 0) (qCons (qC (.ref c_BadText)) qNil))) (qCons (qCB (dIsX a_ d_ (Nat.beq w_ 6) (.ref c_NoDeed)) (qCons (qVar 0) (qCons (qC (.ref c_NoDeed)) qNil))) (qCons (qCB (dIsX a_ d_ (Nat.beq w_ 7) (.ref c_NoRow)) (qCons (qVar 0) (qCons (qC (.ref c_NoRow)) qNil))) qNil)))))) (gNameD 1))
  (qSeq (qAsg (qOp (dAdd false) (qVar 1) (qLst false (qCons (qCB (dIsX a_ d_ (Nat.beq w_ 8) (.ref c_TooMany)) (qCons (qVar 0) (qCons (qC (.ref c_TooMany)) qNil))) (qCons (qCB (dIsX a_ d_ (Nat.beq w_ 9) (.ref c_NotDone)) (qCons (qVar 0) (qCons (qC (.ref c_NotDone)) qNil))) (qCons (qCB (dIsX a_ d_ (Nat.beq w_ 10) (.ref c_NoBook)) (qCons (qVar 0) (qCons (qC (.ref c_NoBook)) qNil))) (qCons (qCB (dIsX a_ d_ (Nat.beq w_ 11) (.ref c_NoCall)) (qCons (qVar 0) (qCons (qC (.ref c_NoCall)) qNil))) qNil)))))) (gNameD 1))
  (qSeq (qAsg (qOp (dAdd false) (qVar 1) (qLst false (qCons (qCB (dIsX a_ d_ (Nat.beq w_ 12) (.ref c_NoEngine)) (qCons (qVar 0) (qCons (qC (.ref c_NoEngine)) qNil))) (qCons (qCB (dIsX a_ d_ (Nat.beq w_ 13) (.ref c_NoEngines)) (qCons (qVar 0) (qCons (qC (.ref c_NoEngines)) qNil))) (qCons (qCB (dIsX a_ d_ (Nat.beq w_ 14) (.ref c_NoLine)) (qCons (qVar 0) (qCons (qC (.ref c_NoLine)) qNil))) (qCons (qCB (dIsX a_ d_ (Nat.beq w_ 15) (.ref c_NoJoin)) (qCons (qVar 0) (qCons (qC (.ref c_NoJoin)) qNil))) qNil)))))) (gNameD 1))
  (qSeq (qAsg (qOp (dAdd false) (qVar 1) (qLst false (qCons (qCB (dIsX a_ d_ (Nat.beq w_ 16) (.ref c_NoFlow)) (qCons (qVar 0) (qCons (qC (.ref c_NoFlow)) qNil))) (qCons (qCB (dIsX a_ d_ (Nat.beq w_ 17) (.ref c_Late)) (qCons (qVar 0) (qCons (qC (.ref c_Late)) qNil))) (qCons (qCB (dIsX a_ d_ (Nat.beq w_ 18) (.ref c_Inside)) (qCons (qVar 0) (qCons (qC (.ref c_Inside)) qNil))) (qCons (qCB (dIsX a_ d_ (Nat.beq w_ 19) (.ref c_Dead)) (qCons (qVar 0) (qCons (qC (.ref c_Dead)) qNil))) qNil)))))) (gNameD 1))
  (qSeq (qAsg (qOp (dAdd false) (qVar 1) (qLst false (qCons (qCB (dIsX a_ d_ (Nat.beq w_ 20) (.ref c_NoTeam)) (qCons (qVar 0) (qCons (qC (.ref c_NoTeam)) qNil))) (qCons (qCB (dIsX a_ d_ (Nat.beq w_ 21) (.ref c_NoWearer)) (qCons (qVar 0) (qCons (qC (.ref c_NoWearer)) qNil))) (qCons (qCB (dIsX a_ d_ (Nat.beq w_ 22) (.ref c_NoBoard)) (qCons (qVar 0) (qCons (qC (.ref c_NoBoard)) qNil))) (qCons (qCB (dIsX a_ d_ (Nat.beq w_ 23) (.ref c_NoText)) (qCons (qVar 0) (qCons (qC (.ref c_NoText)) qNil))) qNil)))))) (gNameD 1))
  (qSeq (qAsg (qOp (dAdd false) (qVar 1) (qLst false (qCons (qCB (dIsX a_ d_ (Nat.beq w_ 24) (.ref c_Nothing)) (qCons (qVar 0) (qCons (qC (.ref c_Nothing)) qNil))) (qCons (qCB (dIsX a_ d_ (Nat.beq w_ 25) (.ref c_NoSaying)) (qCons (qVar 0) (qCons (qC (.ref c_NoSaying)) qNil))) qNil)))) (gNameD 1))
  (qSeq (qAsg (qC (.str (PySem.Str.ofString "BadTime NoGround NoPlace NoProof NoKind BadText NoDeed NoRow TooMany NotDone"))) (gNameD 2))
  (qSeq (qAsg (qOp (dAdd false) (qVar 2) (qC (.str (PySem.Str.ofString " NoBook NoCall NoEngine NoEngines NoLine NoJoin NoFlow Late Inside")))) (gNameD 2))
  (qSeq (qAsg (qOp (dAdd false) (qVar 2) (qC (.str (PySem.Str.ofString " Dead NoTeam NoWearer NoBoard NoText Nothing NoSaying")))) (gNameD 2))
  (qSeq (qIfS (qTB (qOp (dEq true) (qBM "list" mCount (qVar 1) (qCons (qC (.bl true)) qNil)) (qC (.int 1))))
  (qRet (qC (.str (PySem.Str.ofString "other"))))
  qNext)
  (qRet (qOp dIx (qBM "str" (mSplit false) (qVar 2) (qCons (qC (.str (PySem.Str.ofString " "))) qNil)) (qBM "list" mIndex (qVar 1) (qCons (qC (.bl true)) qNil)))))))))))))))
def whNames : List Str := [lit "BadTime", lit "NoGround", lit "NoPlace", lit "NoProof", lit "NoKind", lit "BadText", lit "NoDeed", lit "NoRow", lit "TooMany", lit "NotDone", lit "NoBook", lit "NoCall", lit "NoEngine", lit "NoEngines", lit "NoLine", lit "NoJoin", lit "NoFlow", lit "Late", lit "Inside", lit "Dead", lit "NoTeam", lit "NoWearer", lit "NoBoard", lit "NoText", lit "Nothing", lit "NoSaying"]
def whL (w : Nat) : List D := (List.range 26).map fun i => .bl (Nat.beq w i)
theorem wh_facts : ∀ w, w < 26 → (whL w).countP (fun e => deq e (.bl true)) = 1 ∧ (whL w).findIdx (fun e => deq e (.bl true)) = w ∧ (whL w).all flatD = true := by decide +kernel
theorem wh_split : Txt.split (PySem.Str.ofString "BadTime NoGround NoPlace NoProof NoKind BadText NoDeed NoRow TooMany NotDone" ++ PySem.Str.ofString " NoBook NoCall NoEngine NoEngines NoLine NoJoin NoFlow Late Inside" ++ PySem.Str.ofString " Dead NoTeam NoWearer NoBoard NoText Nothing NoSaying") (PySem.Str.ofString " ") = whNames := by decide +kernel
theorem wh_ok : ∀ y ∈ whNames, okS y := by
  have h : ∀ y ∈ whNames, y.length ≤ 100000 ∧ PyData.strOk y = true := by decide +kernel
  exact h
@[simp] theorem z_isX {a : Addr} {d : Option Addr} {b : Bool} {c : D} {ns : List Str} {ys : List D} {M : Mst} {Q : DK} : dIsX a d b c [.exc a d ns ys, c] M Q = Q (.bl b) M :=
  propext ⟨fun ⟨_, _, e, h⟩ => h, fun h => ⟨_, _, rfl, h⟩⟩
theorem z_add_lst {x y : List D} {M : Mst} {Q : DK} : dAdd false (.lst x) (.lst y) M Q = (x.length + y.length ≤ 100000 ∧ Q (.lst (x ++ y)) M) := rfl
/-- told: the name of the class -/
def spWhich (w : Nat) (a : Addr) (d : Option Addr) : DSp := fun ds M Q _ => ∃ (ns : List Str) (ys : List D), ds = [.exc a d ns ys] ∧ w < 26 ∧ Q (.str (whNames.getD w Str.empty)) M
theorem which_end {w : Nat} {T : Str} {x0 : D} {M : Mst} {Q : DK} (hw : w < 26) (k : Q (.str (whNames.getD w Str.empty)) M) (hT : Txt.split T (PySem.Str.ofString " ") = whNames) (hl : T.length ≤ 100000) :
    qBM "list" mCount (qVar 1) (qCons (qC (.bl true)) qNil) DW0 [some x0, some (.lst (whL w)), some (.str T)] M fun x M1 => dEq true x (.int 1) M1 fun d M1 => match d with
      | .bl b => if b = true then Q (.str (PySem.Str.ofString "other")) M1 else
        qBM "str" (mSplit false) (qVar 2) (qCons (qC (.str (PySem.Str.ofString " "))) qNil) DW0 [some x0, some (.lst (whL w)), some (.str T)] M1 fun x M1 =>
          qBM "list" mIndex (qVar 1) (qCons (qC (.bl true)) qNil) DW0 [some x0, some (.lst (whL w)), some (.str T)] M1 fun y M2 => dIx x y M2 fun d M1 => Q d M1
      | _ => False := by
  obtain ⟨f1, f2, f3⟩ := wh_facts w hw
  simp only [qBM, qSeq, qAsg, qTup, qCons, qNil, qOp, qUn, qC, qCall, qVar, qLst, newL_f, qIfS, qTB, qNext, qRet, qDrop, qFor, qCB, qAug, qSl, qPart, qNoPart, gNameD, gSub_eq, dInt_i, dInt0_i, dAdd_i, dCmpI_i, List.set_cons_zero, List.set_cons_succ, List.getElem?_cons_zero, List.getElem?_cons_succ, List.append_nil, z_l0, z_l1, z_l2, z_l3, z_l4, z_l5, z_l6, z_l7, z_l8, z_l9, z_l19, z_l24, z_l25, true_and]
  refine ⟨rfl, rfl, f3, ?_⟩
  rw [f1]
  simp only [z_ne_int]
  rw [show (!decide (((1 : Nat) : Int) = 1)) = false from rfl, if_neg Bool.false_ne_true]
  refine ⟨rfl, hl, rfl, by rw [hT]; exact wh_ok, ?_⟩
  rw [hT]
  refine ⟨rfl, rfl, f3, by simp [whL], by rw [f2]; simpa [whL] using hw, ?_⟩
  rw [f2]
  refine (ix_ln (i := w) ?_).mpr k
  rw [List.getElem?_map, List.getElem?_eq_getElem (show w < whNames.length from hw), List.getD_eq_getElem?_getD, List.getElem?_eq_getElem (show w < whNames.length from hw)]
  rfl
theorem which_ok (w : Nat) (c0 c1 c2 c3 c4 c5 c6 c7 c8 c9 c10 c11 c12 c13 c14 c15 c16 c17 c18 c19 c20 c21 c22 c23 c24 c25 : Addr) (a : Addr) (d : Option Addr) (ds : List D) (M : Mst) (Q : DK) (Ed : DX → Mst → Prop) (h : upSp (spWhich w a d) ds M Q Ed) : qWhich w c0 c1 c2 c3 c4 c5 c6 c7 c8 c9 c10 c11 c12 c13 c14 c15 c16 c17 c18 c19 c20 c21 c22 c23 c24 c25 a d DW0 (retE Q) (startD ["_law_e", "_law_told_here", "_law_text"] ds) M := by
  obtain ⟨Q0, E0, ⟨ns, ys, rfl, hw, k0⟩, kq, _⟩ := h
  have k : Q (.str (whNames.getD w Str.empty)) M := kq _ _ _ (Sub.refl _) k0
  clear kq k0
  show qWhich _ _ _ _ _ _ _ _ _ _ _ _ _ _ _ _ _ _ _ _ _ _ _ _ _ _ _ _ _ _ _ [some (.exc a d ns ys), none, none] M
  simp only [qWhich, z_isX, z_add_lst, z_add_str, qSeq, qAsg, qTup, qCons, qNil, qOp, qUn, qC, qCall, qVar, qLst, newL_f, qIfS, qTB, qNext, qRet, qDrop, qFor, qCB, qAug, qSl, qPart, qNoPart, gNameD, gSub_eq, dInt_i, dInt0_i, dAdd_i, dCmpI_i, List.set_cons_zero, List.set_cons_succ, List.getElem?_cons_zero, List.getElem?_cons_succ, List.append_nil, z_l0, z_l1, z_l2, z_l3, z_l4, z_l5, z_l6, z_l7, z_l8, z_l9, z_l19, z_l24, z_l25, true_and, z_l2, z_l4]
  refine ⟨by simp, ⟨by simp, ⟨by simp, ⟨by simp, ⟨by simp, ⟨by simp, by decide +kernel, by decide +kernel, ?_⟩⟩⟩⟩⟩⟩
  exact which_end hw k wh_split (by decide +kernel)
end DL

/-! LnD: joins, a line without a join, == of lines: what the program does. -/
namespace DL
open PySem L2 Tx20 Tx21
section
variable {M : Mst} {Q : DK} {ms : List D} {e : D}
theorem z_ix_end : dIx (.tup (ms ++ [e])) (.int (-1)) M Q = Q e M := ix_t (by rw [atI_last (by simp), List.getLastD_concat])
theorem z_sl_init : dSl false (.tup (ms ++ [e])) none (some (-1)) M Q = Q (.tup ms) M := by
  show Q (.tup (cutX (ms ++ [e]) none (some (-1)))) M = _
  rw [cut_init, List.dropLast_concat]
theorem cut_ini : cutX (ms ++ [e]) none (some (-1)) = ms := by rw [cut_init, List.dropLast_concat]
theorem z_list_t : dList false [.tup ms] M Q = Q (.lst ms) M := rfl
theorem z_sl_1 {w a b : D} : dSl false (.tup [w, a, b]) (some 1) none M Q = Q (.tup [a, b]) M := by
  show Q (.tup (cutX [w, a, b] (some 1) none)) M = _
  rw [cut_from0]; rfl
theorem z_len_l {ds : List D} : dLen [.lst ds] M Q = Q (.int ds.length) M := rfl
end
theorem cut_out {ms : List D} {e : D} {j : Int} (h1 : 1 ≤ j) (h2 : j < ms.length + 1) : cutX (ms ++ [e]) none (some (j - 1)) ++ cutX (ms ++ [e]) (some j) none = rmI ms j ++ [e] := by
  obtain ⟨i, rfl⟩ : ∃ i : Nat, j = (i : Int) + 1 := ⟨(j - 1).toNat, by omega⟩
  rw [show (i : Int) + 1 - 1 = (i : Int) by omega, cut_to, cut_from1, ← List.eraseIdx_eq_take_drop_succ, List.eraseIdx_append_of_lt_length (by omega)]
  unfold rmI
  rw [if_pos h1, show ((i : Int) + 1 - 1).toNat = i by omega]
theorem wholeD_iff {lo hi : Int} {x : D} (h : wholeD lo hi x = true) : ∃ i : Int, x = .int i ∧ lo ≤ i ∧ i ≤ hi := by
  cases x with
  | int i => simp only [wholeD, Bool.and_eq_true, decide_eq_true_eq] at h; exact ⟨i, rfl, h.1, h.2⟩
  | _ => cases h
/-! ### plain, not deep -/
theorem isB_pl {w : Str} {bs : List (Int × Int)} {x : D} (hw : Tx_ 8 w) (hb : bs.length ≤ 7) (h : isB w bs x = true) : Pl 8 x ∧ dep x ≤ 1 := by
  obtain ⟨r, rfl⟩ := isB_form h
  simp only [isB, Bool.and_eq_true, decide_eq_true_eq] at h
  obtain ⟨hl, _, ha⟩ := h
  have hi : ∀ d ∈ r, ∃ i : Int, d = .int i := fun d hd => by
    obtain ⟨k, hk, rfl⟩ := List.getElem_of_mem hd
    have : (r[k], bs[k]'(by omega)) ∈ r.zip bs := by
      rw [List.mem_iff_getElem]
      exact ⟨k, by rw [List.length_zip]; omega, by rw [List.getElem_zip]⟩
    have := List.all_eq_true.mp ha _ this
    obtain ⟨i, e, _⟩ := wholeD_iff this
    exact ⟨i, e⟩
  refine ⟨.tup (by simp; omega) fun d hd => ?_, dep_tup (n := 0) fun d hd => ?_⟩
  · rcases List.mem_cons.mp hd with rfl | hd
    · exact .str hw
    · obtain ⟨i, rfl⟩ := hi d hd; exact .int _
  · rcases List.mem_cons.mp hd with rfl | hd
    · exact dep0 rfl
    · obtain ⟨i, rfl⟩ := hi d hd; exact dep0 rfl
theorem mid_pl {x : D} (h : midB x = true) : Pl 8 x ∧ dep x ≤ 1 := by
  unfold midB at h
  simp only [Bool.or_eq_true] at h
  rcases h with (h | h) | h
  · exact isB_pl (tx_of (by decide +kernel)) (by decide) h
  · exact isB_pl (tx_of (by decide +kernel)) (by decide) h
  · exact isB_pl (tx_of (by decide +kernel)) (by decide) h
theorem noz_pl {x : D} (h : nozB x = true) : Pl 8 x ∧ dep x ≤ 1 := isB_pl (tx_of (by decide +kernel)) (by decide) h
theorem src_pl {x : D} (h : srcB x = true) : Pl 8 x ∧ dep x ≤ 1 := by
  unfold srcB at h
  simp only [Bool.or_eq_true] at h
  rcases h with h | h
  · exact isB_pl (tx_of (by decide +kernel)) (by decide) h
  · exact isB_pl (tx_of (by decide +kernel)) (by decide) h
theorem lt_pl : ∀ (f : Nat) (t : LT), t.ok f → Pl 8 t.d ∧ dep t.d ≤ 2 * f + 2
  | f, .noz ms z, h => by
    have hm : MidsOk ms := by cases f <;> exact h.1
    have hz : nozB z = true := by cases f <;> exact h.2
    have hl := hm.2
    refine ⟨.tup (by simp; omega) fun d hd => ?_, Nat.le_trans (dep_tup (n := 1) fun d hd => ?_) (by omega)⟩
    · rcases List.mem_append.mp hd with hd | hd
      · exact (mid_pl (hm.1 d hd)).1
      · rw [List.mem_singleton] at hd; subst hd; exact (noz_pl hz).1
    · rcases List.mem_append.mp hd with hd | hd
      · exact (mid_pl (hm.1 d hd)).2
      · rw [List.mem_singleton] at hd; subst hd; exact (noz_pl hz).2
  | 0, .frk _ _ _, h => h.elim
  | f + 1, .frk ms a b, h => by
    obtain ⟨hm, ha, hb⟩ := h
    have hl := hm.2
    have pa := lt_pl f a ha
    have pb := lt_pl f b hb
    have pf : Pl 8 (.tup [.str (lit "fork"), a.d, b.d]) := .tup (by simp) fun d hd => by
      simp only [List.mem_cons, List.not_mem_nil, or_false] at hd
      rcases hd with rfl | rfl | rfl
      · exact .str (tx_of (by decide +kernel))
      · exact pa.1
      · exact pb.1
    have df : dep (.tup [.str (lit "fork"), a.d, b.d]) ≤ 2 * f + 3 := dep_tup (n := 2 * f + 2) fun d hd => by
      simp only [List.mem_cons, List.not_mem_nil, or_false] at hd
      rcases hd with rfl | rfl | rfl
      · exact Nat.le_trans (dep0 rfl) (Nat.zero_le _)
      · exact pa.2
      · exact pb.2
    refine ⟨.tup (by simp; omega) fun d hd => ?_, Nat.le_trans (dep_tup (n := 2 * f + 3) fun d hd => ?_) (by omega)⟩
    · rcases List.mem_append.mp hd with hd | hd
      · exact (mid_pl (hm.1 d hd)).1
      · rw [List.mem_singleton] at hd; subst hd; exact pf
    · rcases List.mem_append.mp hd with hd | hd
      · exact Nat.le_trans (mid_pl (hm.1 d hd)).2 (by omega)
      · rw [List.mem_singleton] at hd; subst hd; exact df
theorem LT.ok.up : ∀ {f g : Nat} {t : LT}, t.ok f → f ≤ g → t.ok g
  | 0, 0, .noz ms z, h, _ => h
  | 0, _ + 1, .noz ms z, h, _ => h
  | _ + 1, _ + 1, .noz ms z, h, _ => h
  | 0, _, .frk _ _ _, h, _ => h.elim
  | f + 1, g + 1, .frk ms a b, h, l => ⟨h.1, h.2.1.up (by omega), h.2.2.up (by omega)⟩
/-! ### joins -/
def qJoins (sp_joins_of : DSp) : DTS :=
  (qSeq (qAsg (qCB (dList false) (qCons (qSl false (qVar 0) qNoPart (qPart (qUn dNeg (qC (.int 1))))) qNil)) (gNameD 1))
  (qSeq (qAsg (qOp dIx (qVar 0) (qUn dNeg (qC (.int 1)))) (gNameD 2))
  (qSeq (qIfS (qTB (qOp (dEq false) (qOp dIx (qVar 2) (qC (.int 0))) (qC (.str (PySem.Str.ofString "fork")))))
  (qRet (qOp (dAdd false) (qOp (dAdd false) (qVar 1) (qCall sp_joins_of [] (qCons (qOp dIx (qVar 2) (qC (.int 1))) qNil))) (qCall sp_joins_of [] (qCons (qOp dIx (qVar 2) (qC (.int 2))) qNil))))
  qNext)
  (qRet (qOp (dAdd false) (qVar 1) (qLst false (qCons (qVar 2) qNil)))))))
def qLJoins (sp__law_joins : DSp) : DTS :=
  (qSeq (qAsg (qCB (dList false) (qCons (qSl false (qVar 0) qNoPart (qPart (qUn dNeg (qC (.int 1))))) qNil)) (gNameD 1))
  (qSeq (qIfS (qTB (qOp (dEq false) (qOp dIx (qOp dIx (qVar 0) (qUn dNeg (qC (.int 1)))) (qC (.int 0))) (qC (.str (PySem.Str.ofString "nozzle")))))
  (qRet (qOp (dAdd false) (qVar 1) (qLst false (qCons (qOp dIx (qVar 0) (qUn dNeg (qC (.int 1)))) qNil))))
  qNext)
  (qSeq (qFor (qiAny (qSl false (qOp dIx (qVar 0) (qUn dNeg (qC (.int 1)))) (qPart (qC (.int 1))) qNoPart)) (gNameD 2)
  (qAsg (qOp (dAdd false) (qVar 1) (qCall sp__law_joins [] (qCons (qVar 2) qNil))) (gNameD 1)))
  (qRet (qVar 1)))))
def qWithout (sp_joins_of : DSp) (sp_parts_without : DSp) : DTS :=
  (qSeq (qIfS (qTB (qOp (dCmpI fun i j => decide (i < j)) (qVar 1) (qCB dLen (qCons (qVar 0) qNil))))
  (qRet (qOp (dAdd false) (qSl false (qVar 0) qNoPart (qPart (qOp (dInt0 fun i j => i - j) (qVar 1) (qC (.int 1))))) (qSl false (qVar 0) (qPart (qVar 1)) qNoPart)))
  qNext)
  (qSeq (qAsg (qOp dIx (qVar 0) (qUn dNeg (qC (.int 1)))) (gNameD 2))
  (qSeq (qIfS (qTB (qOp (dEq true) (qOp dIx (qVar 2) (qC (.int 0))) (qC (.str (PySem.Str.ofString "fork")))))
  (qRet (qC .non))
  qNext)
  (qSeq (qAug 1 (qOp (dInt0 fun i j => i - j) (qCB dLen (qCons (qVar 0) qNil)) (qC (.int 1))) dAugS)
  (qSeq (qAsg (qCB dLen (qCons (qCall sp_joins_of [] (qCons (qOp dIx (qVar 2) (qC (.int 1))) qNil)) qNil)) (gNameD 3))
  (qSeq (qAsg (qSl false (qVar 2) (qPart (qC (.int 1))) qNoPart) (gTupD 2 (gConsD (gNameD 4) (gConsD (gNameD 5) gNilD))))
  (qSeq (qIfS (qTB (qOp (dCmpI fun i j => decide (i ≤ j)) (qVar 1) (qVar 3)))
  (qAsg (qCall sp_parts_without [] (qCons (qVar 4) (qCons (qVar 1) qNil))) (gNameD 4))
  (qAsg (qCall sp_parts_without [] (qCons (qVar 5) (qCons (qOp (dInt0 fun i j => i - j) (qVar 1) (qVar 3)) qNil))) (gNameD 5)))
  (qSeq (qIfS (qOr (qTB (qOp (dIs false) (qVar 4) (qC .non))) (qTB (qOp (dIs false) (qVar 5) (qC .non))))
  (qRet (qC .non))
  qNext)
  (qRet (qOp (dAdd false) (qSl false (qVar 0) qNoPart (qPart (qUn dNeg (qC (.int 1))))) (qTup (qCons (qTup (qCons (qC (.str (PySem.Str.ofString "fork"))) (qCons (qVar 4) (qCons (qVar 5) qNil)))) qNil))))))))))))
def qLineEq (c_Line : Addr) : DTS :=
  (qRet (qAndV (qCB (dIsO c_Line) (qCons (qVar 1) (qCons (qC (.ref c_Line)) qNil))) (qOp (dEq false) (qTup (qCons (qFld c_Line FLn 0 (qVar 0)) (qCons (qFld c_Line FLn 1 (qVar 0)) qNil))) (qTup (qCons (qFld c_Line FLn 0 (qVar 1)) (qCons (qFld c_Line FLn 1 (qVar 1)) qNil))))))
def qLWithout (c_Line : Addr) (c_NoJoin : Addr) (sp_Line___init__ : DSp) (sp_is_whole : DSp) (sp_joins_of : DSp) (sp_parts_without : DSp) : DTS :=
  (qSeq (qIfS (qNot (qTB (qCall sp_is_whole [] (qCons (qVar 1) (qCons (qC (.int 1)) (qCons (qCB dLen (qCons (qCall sp_joins_of [] (qCons (qFld c_Line FLn 1 (qVar 0)) qNil)) qNil)) qNil))))))
  (qRaise c_NoJoin [(PySem.Str.ofString "join")] (qCons (qVar 1) qNil))
  qNext)
  (qSeq (qAsg (qCall sp_parts_without [] (qCons (qFld c_Line FLn 1 (qVar 0)) (qCons (qVar 1) qNil))) (gNameD 2))
  (qSeq (qIfS (qTB (qOp (dIs false) (qVar 2) (qC .non)))
  (qRaise c_NoJoin [(PySem.Str.ofString "join")] (qCons (qVar 1) qNil))
  qNext)
  (qRet (qFrzE (qMake c_Line sp_Line___init__ [] (qCons (qFld c_Line FLn 0 (qVar 0)) (qCons (qVar 2) qNil))))))))
def spJoins (m : Nat) : DSp := fun ds M Q _ => ∃ (t : LT) (f : Nat), ds = [t.d] ∧ t.ok f ∧ f < m ∧ f ≤ 3 ∧ Q (.lst t.js) M
theorem joins_ok (m : Nat) (ds : List D) (M : Mst) (Q : DK) (Ed : DX → Mst → Prop) (h : upSp (spJoins (m + 1)) ds M Q Ed) : qJoins (spJoins m) (fun x _ M => Ed x M) (retE Q) (startD ["parts", "found", "last"] ds) M := by
  obtain ⟨Q0, E0, ⟨t, f, rfl, ht, hf, f3, k0⟩, kq, _⟩ := h
  have k : Q (.lst t.js) M := kq _ _ _ (Sub.refl _) k0
  clear k0 kq
  have hn := n_113 ht f3
  show qJoins _ _ _ [some t.d, none, none] M
  cases t with
  | noz ms z =>
    have hz : nozB z = true := by cases f <;> exact ht.2
    obtain ⟨i, j, rfl⟩ := noz_form hz
    rw [n_noz] at hn
    simp only [qJoins, LT.d, z_sl_init, z_ix_end, z_list_t, z_add_lst, cut_ini, z_ix_t0, z_ix_t1, z_ix_t2, z_ix_t3, z_ix_l0, z_ix_l1, z_ix_l2, z_eq_int, z_ne_int, z_eq_str, z_ne_str, z_neg, z_add_tup, z_len_tup, Bool.not_true, Bool.not_false, Bool.false_eq_true, if_false, if_true, decide_true, qSeq, qAsg, qTup, qCons, qNil, qOp, qUn, qC, qCall, qVar, qLst, newL_f, qIfS, qTB, qNext, qRet, qDrop, qFor, qCB, qAug, qSl, qPart, qNoPart, gNameD, gSub_eq, dInt_i, dInt0_i, dAdd_i, dCmpI_i, List.set_cons_zero, List.set_cons_succ, List.getElem?_cons_zero, List.getElem?_cons_succ, List.append_nil, z_l0, z_l1, z_l2, z_l3, z_l4, z_l5, z_l6, z_l7, z_l8, z_l9, z_l19, z_l24, z_l25, true_and]
    simp only [show decide (lit "nozzle" = PySem.Str.ofString "fork") = false from by decide, z_ix_t0, z_ix_t1, z_ix_t2, z_ix_t3, z_ix_l0, z_ix_l1, z_ix_l2, z_eq_int, z_ne_int, z_eq_str, z_ne_str, z_neg, z_add_tup, z_len_tup, Bool.not_true, Bool.not_false, Bool.false_eq_true, if_false, if_true]
    exact ⟨by simp; omega, k⟩
  | frk ms a b =>
    obtain ⟨g, rfl⟩ : ∃ g, f = g + 1 := by
      cases f with
      | zero => exact ht.elim
      | succ g => exact ⟨g, rfl⟩
    rw [n_frk] at hn
    simp only [qJoins, LT.d, z_sl_init, z_ix_end, z_list_t, z_add_lst, cut_ini, z_ix_t0, z_ix_t1, z_ix_t2, z_ix_t3, z_ix_l0, z_ix_l1, z_ix_l2, z_eq_int, z_ne_int, z_eq_str, z_ne_str, z_neg, z_add_tup, z_len_tup, Bool.not_true, Bool.not_false, Bool.false_eq_true, if_false, if_true, decide_true, qSeq, qAsg, qTup, qCons, qNil, qOp, qUn, qC, qCall, qVar, qLst, newL_f, qIfS, qTB, qNext, qRet, qDrop, qFor, qCB, qAug, qSl, qPart, qNoPart, gNameD, gSub_eq, dInt_i, dInt0_i, dAdd_i, dCmpI_i, List.set_cons_zero, List.set_cons_succ, List.getElem?_cons_zero, List.getElem?_cons_succ, List.append_nil, z_l0, z_l1, z_l2, z_l3, z_l4, z_l5, z_l6, z_l7, z_l8, z_l9, z_l19, z_l24, z_l25, true_and]
    refine ⟨a, g, rfl, ht.2.1, by omega, by omega, ?_⟩
    unfold LT.n at hn
    simp only [z_add_lst]
    exact ⟨by omega, b, g, rfl, ht.2.2, by omega, by omega, by simp only [z_add_lst]; exact ⟨by simp; omega, k⟩⟩
theorem ljoins_ok (m : Nat) (ds : List D) (M : Mst) (Q : DK) (Ed : DX → Mst → Prop) (h : upSp (spJoins (m + 1)) ds M Q Ed) : qLJoins (spJoins m) (fun x _ M => Ed x M) (retE Q) (startD ["_law_tail", "_law_found", "_law_some"] ds) M := by
  obtain ⟨Q0, E0, ⟨t, f, rfl, ht, hf, f3, k0⟩, kq, _⟩ := h
  have k : Q (.lst t.js) M := kq _ _ _ (Sub.refl _) k0
  clear k0 kq
  have hn := n_113 ht f3
  show qLJoins _ _ _ [some t.d, none, none] M
  cases t with
  | noz ms z =>
    have hz : nozB z = true := by cases f <;> exact ht.2
    obtain ⟨i, j, rfl⟩ := noz_form hz
    rw [n_noz] at hn
    simp only [qLJoins, LT.d, z_sl_init, z_sl_1, z_ix_end, z_list_t, z_add_lst, cut_ini, z_ix_t0, z_ix_t1, z_ix_t2, z_ix_t3, z_ix_l0, z_ix_l1, z_ix_l2, z_eq_int, z_ne_int, z_eq_str, z_ne_str, z_neg, z_add_tup, z_len_tup, Bool.not_true, Bool.not_false, Bool.false_eq_true, if_false, if_true, z_ix_t0, qSeq, qAsg, qTup, qCons, qNil, qOp, qUn, qC, qCall, qVar, qLst, newL_f, qIfS, qTB, qNext, qRet, qDrop, qFor, qCB, qAug, qSl, qPart, qNoPart, gNameD, gSub_eq, dInt_i, dInt0_i, dAdd_i, dCmpI_i, List.set_cons_zero, List.set_cons_succ, List.getElem?_cons_zero, List.getElem?_cons_succ, List.append_nil, z_l0, z_l1, z_l2, z_l3, z_l4, z_l5, z_l6, z_l7, z_l8, z_l9, z_l19, z_l24, z_l25, true_and]
    exact ⟨by simp; omega, k⟩
  | frk ms a b =>
    obtain ⟨g, rfl⟩ : ∃ g, f = g + 1 := by
      cases f with
      | zero => exact ht.elim
      | succ g => exact ⟨g, rfl⟩
    rw [n_frk] at hn
    simp only [qLJoins, LT.d, z_sl_init, z_sl_1, z_ix_end, z_list_t, z_add_lst, cut_ini, z_ix_t0, z_ix_t1, z_ix_t2, z_ix_t3, z_ix_l0, z_ix_l1, z_ix_l2, z_eq_int, z_ne_int, z_eq_str, z_ne_str, z_neg, z_add_tup, z_len_tup, Bool.not_true, Bool.not_false, Bool.false_eq_true, if_false, if_true, z_ix_t0, qSeq, qAsg, qTup, qCons, qNil, qOp, qUn, qC, qCall, qVar, qLst, newL_f, qIfS, qTB, qNext, qRet, qDrop, qFor, qCB, qAug, qSl, qPart, qNoPart, gNameD, gSub_eq, dInt_i, dInt0_i, dAdd_i, dCmpI_i, List.set_cons_zero, List.set_cons_succ, List.getElem?_cons_zero, List.getElem?_cons_succ, List.append_nil, z_l0, z_l1, z_l2, z_l3, z_l4, z_l5, z_l6, z_l7, z_l8, z_l9, z_l19, z_l24, z_l25, true_and]
    simp only [show decide (lit "fork" = PySem.Str.ofString "nozzle") = false from by decide, z_ix_end, z_sl_1, z_ix_t0, z_ix_t1, z_ix_t2, z_ix_t3, z_ix_l0, z_ix_l1, z_ix_l2, z_eq_int, z_ne_int, z_eq_str, z_ne_str, z_neg, z_add_tup, z_len_tup, Bool.not_true, Bool.not_false, Bool.false_eq_true, if_false, if_true, decide_true, decide_false, Bool.false_eq_true, if_false, qiAny, z_sl_1, loopL, qSeq, qAsg, qTup, qCons, qNil, qOp, qUn, qC, qCall, qVar, qLst, newL_f, qIfS, qTB, qNext, qRet, qDrop, qFor, qCB, qAug, qSl, qPart, qNoPart, gNameD, gSub_eq, dInt_i, dInt0_i, dAdd_i, dCmpI_i, List.set_cons_zero, List.set_cons_succ, List.getElem?_cons_zero, List.getElem?_cons_succ, List.append_nil, z_l0, z_l1, z_l2, z_l3, z_l4, z_l5, z_l6, z_l7, z_l8, z_l9, z_l19, z_l24, z_l25, true_and]
    unfold LT.n at hn
    refine ⟨trivial, a, g, rfl, ht.2.1, by omega, by omega, ?_⟩
    simp only [z_add_lst]
    refine ⟨by omega, trivial, b, g, rfl, ht.2.2, by omega, by omega, ?_⟩
    simp only [z_add_lst]
    exact ⟨by simp; omega, trivial, k⟩
/-! ### one join less -/
def wD : Option LT → D
  | none => .non
  | some t => t.d
def spWithout (m : Nat) : DSp := fun ds M Q _ => ∃ (t : LT) (j : Int) (f : Nat), ds = [t.d, .int j] ∧ t.ok f ∧ f < m ∧ f ≤ 3 ∧ 1 ≤ j ∧ j ≤ t.n ∧ Q (wD (t.without j)) M
theorem isNon_d (t : LT) : isNon t.d = false := by cases t <;> rfl
theorem without_ok (m : Nat) (ds : List D) (M : Mst) (Q : DK) (Ed : DX → Mst → Prop) (h : upSp (spWithout (m + 1)) ds M Q Ed) : qWithout (spJoins 4) (spWithout m) (fun x _ M => Ed x M) (retE Q) (startD ["parts", "join", "last", "first", "one", "other"] ds) M := by
  obtain ⟨Q0, E0, ⟨t, j, f, rfl, ht, hf, f3, j1, j2, k0⟩, kq, _⟩ := h
  have k : Q (wD (t.without j)) M := kq _ _ _ (Sub.refl _) k0
  clear k0 kq
  show qWithout _ _ _ _ [some t.d, some (.int j), none, none, none, none] M
  cases t with
  | noz ms z =>
    have hm : MidsOk ms := by cases f <;> exact ht.1
    have hz : nozB z = true := by cases f <;> exact ht.2
    have hl := hm.2
    obtain ⟨i, i', rfl⟩ := noz_form hz
    rw [n_noz] at j2
    rw [LT.without] at k
    simp only [qWithout, LT.d, z_len_tup, List.length_append, List.length_cons, List.length_nil, qSeq, qAsg, qTup, qCons, qNil, qOp, qUn, qC, qCall, qVar, qLst, newL_f, qIfS, qTB, qNext, qRet, qDrop, qFor, qCB, qAug, qSl, qPart, qNoPart, gNameD, gSub_eq, dInt_i, dInt0_i, dAdd_i, dCmpI_i, List.set_cons_zero, List.set_cons_succ, List.getElem?_cons_zero, List.getElem?_cons_succ, List.append_nil, z_l0, z_l1, z_l2, z_l3, z_l4, z_l5, z_l6, z_l7, z_l8, z_l9, z_l19, z_l24, z_l25, true_and]
    by_cases hj : j < ms.length + 1
    · rw [if_pos hj] at k
      simp only [decide_eq_true (show j < ((ms.length + (0 + 1) : Nat) : Int) by omega), if_true]
      show dAdd false (.tup (cutX _ none (some (j - 1)))) (.tup (cutX _ (some j) none)) M _
      rw [z_add_tup, cut_out j1 hj]
      exact ⟨by rw [← List.length_append, cut_out j1 hj]; have := (rmI_ok (j := j) hm).2; simp; omega, k⟩
    · rw [if_neg hj] at k
      simp only [decide_eq_false (show ¬ j < ((ms.length + (0 + 1) : Nat) : Int) by omega), Bool.false_eq_true, if_false, z_neg, z_ix_end, z_ix_t0, z_ne_str]
      simp only [show (!decide (lit "nozzle" = PySem.Str.ofString "fork")) = true from by decide, if_true]
      exact k
  | frk ms a b =>
    obtain ⟨g, rfl⟩ : ∃ g, f = g + 1 := by
      cases f with
      | zero => exact ht.elim
      | succ g => exact ⟨g, rfl⟩
    obtain ⟨hm, ha, hb⟩ := ht
    have hl := hm.2
    rw [n_frk] at j2
    rw [LT.without] at k
    simp only [qWithout, LT.d, z_len_tup, List.length_append, List.length_cons, List.length_nil, qSeq, qAsg, qTup, qCons, qNil, qOp, qUn, qC, qCall, qVar, qLst, newL_f, qIfS, qTB, qNext, qRet, qDrop, qFor, qCB, qAug, qSl, qPart, qNoPart, gNameD, gSub_eq, dInt_i, dInt0_i, dAdd_i, dCmpI_i, List.set_cons_zero, List.set_cons_succ, List.getElem?_cons_zero, List.getElem?_cons_succ, List.append_nil, z_l0, z_l1, z_l2, z_l3, z_l4, z_l5, z_l6, z_l7, z_l8, z_l9, z_l19, z_l24, z_l25, true_and]
    by_cases hj : j < ms.length + 1
    · rw [if_pos hj] at k
      simp only [decide_eq_true (show j < ((ms.length + (0 + 1) : Nat) : Int) by omega), if_true]
      show dAdd false (.tup (cutX _ none (some (j - 1)))) (.tup (cutX _ (some j) none)) M _
      rw [z_add_tup, cut_out j1 hj]
      exact ⟨by rw [← List.length_append, cut_out j1 hj]; have := (rmI_ok (j := j) hm).2; simp; omega, k⟩
    · rw [if_neg hj] at k
      simp only [decide_eq_false (show ¬ j < ((ms.length + (0 + 1) : Nat) : Int) by omega), Bool.false_eq_true, if_false, z_neg, z_ix_end, z_ix_t0, z_ne_str]
      simp only [show (!decide (lit "fork" = PySem.Str.ofString "fork")) = false from by decide, Bool.false_eq_true, if_false, dAugS, z_ix_t1, z_ix_t2, z_sl_1, z_sl_init, qSeq, qAsg, qTup, qCons, qNil, qOp, qUn, qC, qCall, qVar, qLst, newL_f, qIfS, qTB, qNext, qRet, qDrop, qFor, qCB, qAug, qSl, qPart, qNoPart, gNameD, gSub_eq, dInt_i, dInt0_i, dAdd_i, dCmpI_i, List.set_cons_zero, List.set_cons_succ, List.getElem?_cons_zero, List.getElem?_cons_succ, List.append_nil, z_l0, z_l1, z_l2, z_l3, z_l4, z_l5, z_l6, z_l7, z_l8, z_l9, z_l19, z_l24, z_l25, true_and]
      refine ⟨a, g, rfl, ha, by omega, by omega, ?_⟩
      have e1 : j - (((ms.length + (0 + 1) : Nat) : Int) - 1) = j - ms.length := by omega
      simp only [z_len_l, gTupD, gConsD, gNilD, res, e1, qSeq, qAsg, qTup, qCons, qNil, qOp, qUn, qC, qCall, qVar, qLst, newL_f, qIfS, qTB, qNext, qRet, qDrop, qFor, qCB, qAug, qSl, qPart, qNoPart, gNameD, gSub_eq, dInt_i, dInt0_i, dAdd_i, dCmpI_i, List.set_cons_zero, List.set_cons_succ, List.getElem?_cons_zero, List.getElem?_cons_succ, List.append_nil, z_l0, z_l1, z_l2, z_l3, z_l4, z_l5, z_l6, z_l7, z_l8, z_l9, z_l19, z_l24, z_l25, true_and]
      refine ⟨rfl, ?_⟩
      by_cases h' : j - ms.length ≤ a.n
      · rw [if_pos h'] at k
        simp only [decide_eq_true (show j - (ms.length : Int) ≤ (a.js.length : Int) from h'), if_true]
        refine ⟨a, _, g, rfl, ha, by omega, by omega, by omega, h', ?_⟩
        simp only [qOr, z_is, isNon_d, qSeq, qAsg, qTup, qCons, qNil, qOp, qUn, qC, qCall, qVar, qLst, newL_f, qIfS, qTB, qNext, qRet, qDrop, qFor, qCB, qAug, qSl, qPart, qNoPart, gNameD, gSub_eq, dInt_i, dInt0_i, dAdd_i, dCmpI_i, List.set_cons_zero, List.set_cons_succ, List.getElem?_cons_zero, List.getElem?_cons_succ, List.append_nil, z_l0, z_l1, z_l2, z_l3, z_l4, z_l5, z_l6, z_l7, z_l8, z_l9, z_l19, z_l24, z_l25, true_and]
        cases ew : a.without (j - ms.length) with
        | none => rw [ew] at k; simp only [wD, isNon, if_true]; exact k
        | some a' =>
          rw [ew] at k
          simp only [wD, isNon_d, z_sl_init, z_ix_t0, z_ix_t1, z_ix_t2, z_ix_t3, z_ix_l0, z_ix_l1, z_ix_l2, z_eq_int, z_ne_int, z_eq_str, z_ne_str, z_neg, z_add_tup, z_len_tup, Bool.not_true, Bool.not_false, Bool.false_eq_true, if_false, if_true, decide_true, decide_false]
          exact ⟨by simp; omega, k⟩
      · rw [if_neg h'] at k
        simp only [decide_eq_false (show ¬ j - (ms.length : Int) ≤ (a.js.length : Int) from h'), Bool.false_eq_true, if_false]
        refine ⟨b, _, g, rfl, hb, by omega, by omega, by unfold LT.n at h'; omega, by unfold LT.n at *; omega, ?_⟩
        simp only [qOr, z_is, isNon_d, Bool.false_eq_true, if_false, qSeq, qAsg, qTup, qCons, qNil, qOp, qUn, qC, qCall, qVar, qLst, newL_f, qIfS, qTB, qNext, qRet, qDrop, qFor, qCB, qAug, qSl, qPart, qNoPart, gNameD, gSub_eq, dInt_i, dInt0_i, dAdd_i, dCmpI_i, List.set_cons_zero, List.set_cons_succ, List.getElem?_cons_zero, List.getElem?_cons_succ, List.append_nil, z_l0, z_l1, z_l2, z_l3, z_l4, z_l5, z_l6, z_l7, z_l8, z_l9, z_l19, z_l24, z_l25, true_and]
        have e2 : j - (ms.length : Int) - (a.js.length : Int) = j - ms.length - a.n := rfl
        rw [e2]
        cases ew : b.without (j - ms.length - a.n) with
        | none => rw [ew] at k; simp only [wD, isNon, if_true]; exact k
        | some b' =>
          rw [ew] at k
          simp only [wD, isNon_d, z_sl_init, z_ix_t0, z_ix_t1, z_ix_t2, z_ix_t3, z_ix_l0, z_ix_l1, z_ix_l2, z_eq_int, z_ne_int, z_eq_str, z_ne_str, z_neg, z_add_tup, z_len_tup, Bool.not_true, Bool.not_false, Bool.false_eq_true, if_false, if_true, decide_true, decide_false]
          exact ⟨by simp; omega, k⟩
end DL

/-! PlG: any thing, not deep; whole numbers by and. -/
namespace DL
open PySem L2 Tx20 Tx21
theorem anyL_dep {big : Int} : ∀ d ∈ anyL big, dep d ≤ 2 := by
  intro d hd
  simp only [anyL, List.mem_cons, List.not_mem_nil, or_false] at hd
  have z : ∀ e : D, flatD e = true → dep e ≤ 2 := fun e h => Nat.le_trans (dep0 h) (by decide)
  have n0 : dep (.lst []) ≤ 1 := dep_lst (n := 0) fun _ h => by cases h
  rcases hd with rfl | rfl | rfl | rfl | rfl | rfl | rfl | rfl | rfl | rfl | rfl | rfl | rfl | rfl | rfl | rfl | rfl | rfl | rfl
  all_goals first
    | exact z _ rfl
    | exact Nat.le_trans n0 (by decide)
    | (refine Nat.le_trans (dep_tup (n := 0) fun _ h => ?_) (by decide); cases h; done)
    | (refine Nat.le_trans (dep_lst (n := 0) fun _ h => ?_) (by decide); rw [List.mem_singleton] at h; subst h; exact dep0 rfl)
    | (refine Nat.le_trans (dep_tup (n := 0) fun _ h => ?_) (by decide); rw [List.mem_singleton] at h; subst h; exact dep0 rfl)
    | exact dep_tup (n := 1) fun _ h => by rw [List.mem_singleton] at h; subst h; exact n0
def spAnyD : DSp := fun ds M Q _ => ∃ b : Addr, ds = [.ref b] ∧ M b = some .bag ∧ ∀ d, Pl 9 d → dep d ≤ 2 → Q d M
theorem anyD_ok (ds : List D) (M : Mst) (Q : DK) (Ed : DX → Mst → Prop) (h : upSp spAnyD ds M Q Ed) : qSeq (qAsg qAnyL (gNameD 1)) (qRet (qOp dIx (qVar 1) (qCall spTake [] (qCons (qVar 0) (qCons (qC (.int 19)) qNil))))) (fun x _ M => Ed x M) (retE Q) (startD ["_law_bag_here", "_law_some"] ds) M := by
  obtain ⟨Q0, E0, ⟨b, rfl, hb, k0⟩, kq, _⟩ := h
  have k : ∀ d, Pl 9 d → dep d ≤ 2 → Q d M := fun d hd h2 => kq _ _ _ (Sub.refl _) (k0 d hd h2)
  show qSeq (qAsg qAnyL (gNameD 1)) (qRet (qOp dIx (qVar 1) (qCall spTake [] (qCons (qVar 0) (qCons (qC (.int 19)) qNil))))) (fun x _ M => Ed x M) (retE Q) [some (.ref b), none] M
  refine seq_asg (anyL_lst fun big => ?_)
  exact any_rest hb fun d hd => k d (anyL_pl d hd) (anyL_dep d hd)
/-- isinstance(x, int) and not isinstance(x, bool) and lo <= x <= hi -/
theorem and_whole {n : Nat} {x : D} {lo hi : Int} {DW : DWt} {p : Rho} {M : Mst} {Q : DK} {qx ql qh : DTE} (hx : Pl n x) (e0 : ∀ M Q, qx DW p M Q = Q x M) (e1 : ∀ M Q, ql DW p M Q = Q (.int lo) M) (e2 : ∀ M Q, qh DW p M Q = Q (.int hi) M) (k : Q (.bl (wholeD lo hi x)) M) :
    qAndV (qCB dIsi (qCons qx (qCons (qC (.ty "int")) qNil))) (qAndV (qNotV (qCB dIsi (qCons qx (qCons (qC (.ty "bool")) qNil)))) (qChain (dCmpI fun i j => decide (i ≤ j)) (dCmpI fun i j => decide (i ≤ j)) ql qx qh)) DW p M Q := by
  simp only [qAndV, qNotV, qChain, e0, e1, e2, qSeq, qAsg, qTup, qCons, qNil, qOp, qUn, qC, qCall, qVar, qLst, newL_f, qIfS, qTB, qNext, qRet, qDrop, qFor, qCB, qAug, qSl, qPart, qNoPart, gNameD, gSub_eq, dInt_i, dInt0_i, dAdd_i, dCmpI_i, List.set_cons_zero, List.set_cons_succ, List.getElem?_cons_zero, List.getElem?_cons_succ, List.append_nil, z_l0, z_l1, z_l2, z_l3, z_l4, z_l5, z_l6, z_l7, z_l8, z_l9, z_l19, z_l24, z_l25, true_and]
  rw [isi_int hx]
  cases x with
  | int i =>
    simp only [intB, if_true, z_isi_int_bool, Bool.not_false]
    exact chain_int.mpr k
  | bl b => simp only [intB, if_true, z_isi_bl_bool, Bool.not_true, Bool.false_eq_true, if_false]; exact k
  | _ => simp only [intB, Bool.false_eq_true, if_false]; exact k
theorem rangeL_at {lo : Int} {n : Nat} {i : Nat} {d : D} (h : (rangeD lo n)[i]? = some d) : i < n ∧ d = .int (lo + (i : Int)) := by
  obtain ⟨h1, e⟩ := List.getElem?_eq_some_iff.mp h
  have h2 : i < n := by simpa using h1
  refine ⟨h2, ?_⟩
  rw [← e]
  simp [rangeD]
end DL

namespace K44
open PySem L2 DL
def top (i : Nat) : Stmt := PySem.Challenge.pw_whistleboard_k44_without_a_join.main.body.getD i (.Pass ⟨0, 0, 0, 0⟩)
abbrev F_Line : List Str := [(PySem.Str.ofString "source"), (PySem.Str.ofString "parts")]
abbrev s_is_whole : Stmt := top 29
abbrev N_is_whole : List Str := ["thing", "low", "high"]
theorem sc_is_whole : FnScope N_is_whole ["thing", "low", "high"] (defScope s_is_whole) := ⟨rfl, rfl, rfl, by decide +kernel, rfl, by decide +kernel, by decide +kernel⟩
abbrev s_is_tuple_of : Stmt := top 30
abbrev N_is_tuple_of : List Str := ["thing", "many"]
theorem sc_is_tuple_of : FnScope N_is_tuple_of ["thing", "many"] (defScope s_is_tuple_of) := ⟨rfl, rfl, rfl, by decide +kernel, rfl, by decide +kernel, by decide +kernel⟩
abbrev s_is_source : Stmt := top 34
abbrev N_is_source : List Str := ["thing"]
theorem sc_is_source : FnScope N_is_source ["thing"] (defScope s_is_source) := ⟨rfl, rfl, rfl, by decide +kernel, rfl, by decide +kernel, by decide +kernel⟩
abbrev s_is_middle : Stmt := top 35
abbrev N_is_middle : List Str := ["thing"]
theorem sc_is_middle : FnScope N_is_middle ["thing"] (defScope s_is_middle) := ⟨rfl, rfl, rfl, by decide +kernel, rfl, by decide +kernel, by decide +kernel⟩
abbrev s_is_end : Stmt := top 36
abbrev N_is_end : List Str := ["thing", "forks"]
theorem sc_is_end : FnScope N_is_end ["thing", "forks"] (defScope s_is_end) := ⟨rfl, rfl, rfl, by decide +kernel, rfl, by decide +kernel, by decide +kernel⟩
abbrev s_wrong_part : Stmt := top 37
abbrev N_wrong_part : List Str := ["thing", "forks", "at", "part"]
theorem sc_wrong_part : FnScope N_wrong_part ["thing", "forks"] (defScope s_wrong_part) := ⟨rfl, rfl, rfl, by decide +kernel, rfl, by decide +kernel, by decide +kernel⟩
abbrev s_joins_of : Stmt := top 38
abbrev N_joins_of : List Str := ["parts", "found", "last"]
theorem sc_joins_of : FnScope N_joins_of ["parts"] (defScope s_joins_of) := ⟨rfl, rfl, rfl, by decide +kernel, rfl, by decide +kernel, by decide +kernel⟩
abbrev s_parts_without : Stmt := top 39
abbrev N_parts_without : List Str := ["parts", "join", "last", "first", "one", "other"]
theorem sc_parts_without : FnScope N_parts_without ["parts", "join"] (defScope s_parts_without) := ⟨rfl, rfl, rfl, by decide +kernel, rfl, by decide +kernel, by decide +kernel⟩
abbrev s_Line___init__ : Stmt := inClass (top 40) 0
abbrev N_Line___init__ : List Str := ["self", "source", "parts", "at"]
theorem sc_Line___init__ : FnScope N_Line___init__ ["self", "source", "parts"] (defScope s_Line___init__) := ⟨rfl, rfl, rfl, by decide +kernel, rfl, by decide +kernel, by decide +kernel⟩
abbrev s_Line___eq__ : Stmt := inClass (top 40) 1
abbrev N_Line___eq__ : List Str := ["self", "other"]
theorem sc_Line___eq__ : FnScope N_Line___eq__ ["self", "other"] (defScope s_Line___eq__) := ⟨rfl, rfl, rfl, by decide +kernel, rfl, by decide +kernel, by decide +kernel⟩
abbrev s_Line_without : Stmt := inClass (top 40) 7
abbrev N_Line_without : List Str := ["self", "join", "parts"]
theorem sc_Line_without : FnScope N_Line_without ["self", "join"] (defScope s_Line_without) := ⟨rfl, rfl, rfl, by decide +kernel, rfl, by decide +kernel, by decide +kernel⟩
abbrev s__law_bag : Stmt := top 42
abbrev N__law_bag : List Str := ["_law_script", "_law_at", "_law_cell", "_law_great", "_law_primes"]
theorem sc__law_bag : FnScope N__law_bag ["_law_script", "_law_at"] (defScope s__law_bag) := ⟨rfl, rfl, rfl, by decide +kernel, rfl, by decide +kernel, by decide +kernel⟩
abbrev s__law_take : Stmt := top 43
abbrev N__law_take : List Str := ["_law_bag_here", "_law_many", "_law_digit"]
theorem sc__law_take : FnScope N__law_take ["_law_bag_here", "_law_many"] (defScope s__law_take) := ⟨rfl, rfl, rfl, by decide +kernel, rfl, by decide +kernel, by decide +kernel⟩
abbrev s__law_any : Stmt := top 44
abbrev N__law_any : List Str := ["_law_bag_here", "_law_some"]
theorem sc__law_any : FnScope N__law_any ["_law_bag_here"] (defScope s__law_any) := ⟨rfl, rfl, rfl, by decide +kernel, rfl, by decide +kernel, by decide +kernel⟩
abbrev s__law_parts : Stmt := top 45
abbrev N__law_parts : List Str := ["_law_bag_here", "_law_forks", "_law_found", "_law_k", "_law_sort", "_law_heights", "_law_height", "_law_flow"]
theorem sc__law_parts : FnScope N__law_parts ["_law_bag_here", "_law_forks"] (defScope s__law_parts) := ⟨rfl, rfl, rfl, by decide +kernel, rfl, by decide +kernel, by decide +kernel⟩
abbrev s__law_source : Stmt := top 46
abbrev N__law_source : List Str := ["_law_bag_here"]
theorem sc__law_source : FnScope N__law_source ["_law_bag_here"] (defScope s__law_source) := ⟨rfl, rfl, rfl, by decide +kernel, rfl, by decide +kernel, by decide +kernel⟩
abbrev s__law_which : Stmt := top 47
abbrev N__law_which : List Str := ["_law_e", "_law_told_here", "_law_text"]
theorem sc__law_which : FnScope N__law_which ["_law_e"] (defScope s__law_which) := ⟨rfl, rfl, rfl, by decide +kernel, rfl, by decide +kernel, by decide +kernel⟩
abbrev s__law_joins : Stmt := top 48
abbrev N__law_joins : List Str := ["_law_tail", "_law_found", "_law_some"]
theorem sc__law_joins : FnScope N__law_joins ["_law_tail"] (defScope s__law_joins) := ⟨rfl, rfl, rfl, by decide +kernel, rfl, by decide +kernel, by decide +kernel⟩
abbrev s__law_less : Stmt := top 49
abbrev N__law_less : List Str := ["_law_tail", "_law_number", "_law_found", "_law_at", "_law_part", "_law_last", "_law_sides", "_law_some", "_law_side", "_law_many"]
theorem sc__law_less : FnScope N__law_less ["_law_tail", "_law_number"] (defScope s__law_less) := ⟨rfl, rfl, rfl, by decide +kernel, rfl, by decide +kernel, by decide +kernel⟩
abbrev s__law_told : Stmt := top 50
abbrev N__law_told : List Str := ["_law_line", "_law_knot", "_law_way", "_law_e"]
theorem sc__law_told : FnScope N__law_told ["_law_line", "_law_knot", "_law_way"] (defScope s__law_told) := ⟨rfl, rfl, rfl, by decide +kernel, rfl, by decide +kernel, by decide +kernel⟩
abbrev s__law_same : Stmt := top 51
abbrev N__law_same : List Str := ["_law_one", "_law_other"]
theorem sc__law_same : FnScope N__law_same ["_law_one", "_law_other"] (defScope s__law_same) := ⟨rfl, rfl, rfl, by decide +kernel, rfl, by decide +kernel, by decide +kernel⟩
abbrev s_law : Stmt := top 52
abbrev N_law : List Str := ["_law_script", "_law_k", "_law_bag_here", "_law_head", "_law_tail", "_law_line", "_law_joins_here", "_law_number", "_law_told_here", "_law_given", "_law_good"]
theorem sc_law : FnScope N_law ["_law_script"] (defScope s_law) := ⟨rfl, rfl, rfl, by decide +kernel, rfl, by decide +kernel, by decide +kernel⟩
abbrev s_NoJoin_init : Stmt := inClass (top 17) 0
theorem sc_NoJoin_init : FnScope ["self", "join"] ["self", "join"] (defScope s_NoJoin_init) := ⟨rfl, rfl, rfl, by decide +kernel, rfl, by decide +kernel, by decide +kernel⟩
abbrev s_NoLine_init : Stmt := inClass (top 16) 0
theorem sc_NoLine_init : FnScope ["self", "at"] ["self", "at"] (defScope s_NoLine_init) := ⟨rfl, rfl, rfl, by decide +kernel, rfl, by decide +kernel, by decide +kernel⟩
structure Tx (w : World) (K : PySem.W.Frag) (mg : Str → Option Value) where
  c_Line : ClsO K mg "Line" F_Line
  s_Line : IsC K c_Line.C
  ne_Line : PySem.W.findIn K (.ref c_Line.C) "__ne__" = some (some (.builtin "object.__ne__"))
  ob_Line : PySem.W.mroIn K c_Line.C (.type "object") = some true
  f_is_whole : FnAt K mg "is_whole" s_is_whole ["thing", "low", "high"]
  f_is_tuple_of : FnAt K mg "is_tuple_of" s_is_tuple_of ["thing", "many"]
  f_is_source : FnAt K mg "is_source" s_is_source ["thing"]
  f_is_middle : FnAt K mg "is_middle" s_is_middle ["thing"]
  f_is_end : FnAt K mg "is_end" s_is_end ["thing", "forks"]
  f_wrong_part : FnAt K mg "wrong_part" s_wrong_part ["thing", "forks"]
  f_joins_of : FnAt K mg "joins_of" s_joins_of ["parts"]
  f_parts_without : FnAt K mg "parts_without" s_parts_without ["parts", "join"]
  f_Line___init__ : MthAt K c_Line.C "__init__" "Line.__init__" s_Line___init__ ["self", "source", "parts"]
  mk_Line : Mk K c_Line.C f_Line___init__.f
  f_Line___eq__ : MthAt K c_Line.C "__eq__" "Line.__eq__" s_Line___eq__ ["self", "other"]
  f_Line_without : MthAt K c_Line.C "without" "Line.without" s_Line_without ["self", "join"]
  f__law_bag : FnAt K mg "_law_bag" s__law_bag ["_law_script", "_law_at"]
  f__law_take : FnAt K mg "_law_take" s__law_take ["_law_bag_here", "_law_many"]
  f__law_any : FnAt K mg "_law_any" s__law_any ["_law_bag_here"]
  f__law_parts : FnAt K mg "_law_parts" s__law_parts ["_law_bag_here", "_law_forks"]
  f__law_source : FnAt K mg "_law_source" s__law_source ["_law_bag_here"]
  f__law_which : FnAt K mg "_law_which" s__law_which ["_law_e"]
  f__law_joins : FnAt K mg "_law_joins" s__law_joins ["_law_tail"]
  f__law_less : FnAt K mg "_law_less" s__law_less ["_law_tail", "_law_number"]
  f__law_told : FnAt K mg "_law_told" s__law_told ["_law_line", "_law_knot", "_law_way"]
  f__law_same : FnAt K mg "_law_same" s__law_same ["_law_one", "_law_other"]
  f_law : FnAt K mg "law" s_law ["_law_script"]
  n_IndexError : mg "IndexError" = none
  n_ValueError : mg "ValueError" = none
  n_abs : mg "abs" = none
  n_bool : mg "bool" = none
  n_enumerate : mg "enumerate" = none
  n_int : mg "int" = none
  n_isinstance : mg "isinstance" = none
  n_len : mg "len" = none
  n_list : mg "list" = none
  n_max : mg "max" = none
  n_min : mg "min" = none
  n_range : mg "range" = none
  n_tuple : mg "tuple" = none
  g_MOST_FORKS : GlI mg "MOST_FORKS" (3)
  g_MOST_PARTS : GlI mg "MOST_PARTS" (8)
  c_NoJoin : XAt K mg "NoJoin" "IndexError" "IndexError.__new__" "IndexError.__init__" tl_IndexError s_NoJoin_init "NoJoin.__init__" ["self", "join"] [(PySem.Str.ofString "join")]
  c_NoLine : XAt K mg "NoLine" "ValueError" "ValueError.__new__" "ValueError.__init__" tl_ValueError s_NoLine_init "NoLine.__init__" ["self", "at"] [(PySem.Str.ofString "at")]
  c_BadText : ClsAt mg "BadText"
  c_BadTime : ClsAt mg "BadTime"
  c_Dead : ClsAt mg "Dead"
  c_Inside : ClsAt mg "Inside"
  c_Late : ClsAt mg "Late"
  c_NoBoard : ClsAt mg "NoBoard"
  c_NoBook : ClsAt mg "NoBook"
  c_NoCall : ClsAt mg "NoCall"
  c_NoDeed : ClsAt mg "NoDeed"
  c_NoEngine : ClsAt mg "NoEngine"
  c_NoEngines : ClsAt mg "NoEngines"
  c_NoFlow : ClsAt mg "NoFlow"
  c_NoGround : ClsAt mg "NoGround"
  c_NoKind : ClsAt mg "NoKind"
  c_NoPlace : ClsAt mg "NoPlace"
  c_NoProof : ClsAt mg "NoProof"
  c_NoRow : ClsAt mg "NoRow"
  c_NoSaying : ClsAt mg "NoSaying"
  c_NoTeam : ClsAt mg "NoTeam"
  c_NoText : ClsAt mg "NoText"
  c_NoWearer : ClsAt mg "NoWearer"
  c_NotDone : ClsAt mg "NotDone"
  c_Nothing : ClsAt mg "Nothing"
  c_TooMany : ClsAt mg "TooMany"
  i_0 : PySem.W.kitOne K (.ref c_NoJoin.C) (.type "IndexError") = some true
  i_1 : PySem.W.kitOne K (.ref c_NoJoin.C) (.ref c_NoProof.C) = some false
  i_2 : PySem.W.kitOne K (.ref c_NoJoin.C) (.ref c_NoPlace.C) = some false
  i_3 : PySem.W.kitOne K (.ref c_NoJoin.C) (.ref c_NoGround.C) = some false
  i_4 : PySem.W.kitOne K (.ref c_NoJoin.C) (.ref c_BadTime.C) = some false
  i_5 : PySem.W.kitOne K (.ref c_NoJoin.C) (.ref c_NoRow.C) = some false
  i_6 : PySem.W.kitOne K (.ref c_NoJoin.C) (.ref c_NoDeed.C) = some false
  i_7 : PySem.W.kitOne K (.ref c_NoJoin.C) (.ref c_BadText.C) = some false
  i_8 : PySem.W.kitOne K (.ref c_NoJoin.C) (.ref c_NoKind.C) = some false
  i_9 : PySem.W.kitOne K (.ref c_NoJoin.C) (.ref c_NoCall.C) = some false
  i_10 : PySem.W.kitOne K (.ref c_NoJoin.C) (.ref c_NoBook.C) = some false
  i_11 : PySem.W.kitOne K (.ref c_NoJoin.C) (.ref c_NotDone.C) = some false
  i_12 : PySem.W.kitOne K (.ref c_NoJoin.C) (.ref c_TooMany.C) = some false
  i_13 : PySem.W.kitOne K (.ref c_NoJoin.C) (.ref c_NoJoin.C) = some true
  i_14 : PySem.W.kitOne K (.ref c_NoJoin.C) (.ref c_NoLine.C) = some false
  i_15 : PySem.W.kitOne K (.ref c_NoJoin.C) (.ref c_NoEngines.C) = some false
  i_16 : PySem.W.kitOne K (.ref c_NoJoin.C) (.ref c_NoEngine.C) = some false
  i_17 : PySem.W.kitOne K (.ref c_NoJoin.C) (.ref c_Dead.C) = some false
  i_18 : PySem.W.kitOne K (.ref c_NoJoin.C) (.ref c_Inside.C) = some false
  i_19 : PySem.W.kitOne K (.ref c_NoJoin.C) (.ref c_Late.C) = some false
  i_20 : PySem.W.kitOne K (.ref c_NoJoin.C) (.ref c_NoFlow.C) = some false
  i_21 : PySem.W.kitOne K (.ref c_NoJoin.C) (.ref c_NoText.C) = some false
  i_22 : PySem.W.kitOne K (.ref c_NoJoin.C) (.ref c_NoBoard.C) = some false
  i_23 : PySem.W.kitOne K (.ref c_NoJoin.C) (.ref c_NoWearer.C) = some false
  i_24 : PySem.W.kitOne K (.ref c_NoJoin.C) (.ref c_NoTeam.C) = some false
  i_25 : PySem.W.kitOne K (.ref c_NoJoin.C) (.ref c_NoSaying.C) = some false
  i_26 : PySem.W.kitOne K (.ref c_NoJoin.C) (.ref c_Nothing.C) = some false
  kw_Line_without_1_join : KwB K f_Line_without.fd ["self", "join"] 1 ["join"] [0, 1]
section
variable {P : Program} {w : World} {K : PySem.W.Frag} {mg : Str → Option Value} {base : Heap}
theorem in_NoJoin (T : Tx w K mg) : FnOk P w K mg base (L2.CX P w) 1 T.c_NoJoin.fI T.c_NoJoin.fd ["self", "join"] (spX1 T.c_NoJoin.C (PySem.Str.ofString "join")) :=
  T.c_NoJoin.F.okX sc_NoJoin_init (fun vs H Q E h => by obtain ⟨a, v, rfl, _⟩ := h; rfl) fun cdv A outer s H vs Q E hr h => ⟨_, pss_cons (ps_expr (pe_binit (B := "IndexError") baseX_IndexError rfl T.n_IndexError PyProof.Rows.Boot.«IndexError» T.c_NoJoin.vV (pa_cons (pv 0) (pa_cons pe_str pa_nil)))) (pss_one (ps_xset baseX_IndexError (pv 0) (pv 1))), rdX1 T.c_NoJoin.T (T.c_NoJoin.no _ (by simp)) h⟩
theorem in_NoLine (T : Tx w K mg) : FnOk P w K mg base (L2.CX P w) 1 T.c_NoLine.fI T.c_NoLine.fd ["self", "at"] (spX1 T.c_NoLine.C (PySem.Str.ofString "at")) :=
  T.c_NoLine.F.okX sc_NoLine_init (fun vs H Q E h => by obtain ⟨a, v, rfl, _⟩ := h; rfl) fun cdv A outer s H vs Q E hr h => ⟨_, pss_cons (ps_expr (pe_binit (B := "ValueError") baseX_ValueError rfl T.n_ValueError PyProof.Rows.Boot.«ValueError» T.c_NoLine.vV (pa_cons (pv 0) (pa_cons pe_str pa_nil)))) (pss_one (ps_xset baseX_ValueError (pv 0) (pv 1))), rdX1 T.c_NoLine.T (T.c_NoLine.no _ (by simp)) h⟩
def q__law_which_NoJoin (c_BadText : Addr) (c_BadTime : Addr) (c_Dead : Addr) (c_Inside : Addr) (c_Late : Addr) (c_NoBoard : Addr) (c_NoBook : Addr) (c_NoCall : Addr) (c_NoDeed : Addr) (c_NoEngine : Addr) (c_NoEngines : Addr) (c_NoFlow : Addr) (c_NoGround : Addr) (c_NoJoin : Addr) (c_NoKind : Addr) (c_NoLine : Addr) (c_NoPlace : Addr) (c_NoProof : Addr) (c_NoRow : Addr) (c_NoSaying : Addr) (c_NoTeam : Addr) (c_NoText : Addr) (c_NoWearer : Addr) (c_NotDone : Addr) (c_Nothing : Addr) (c_TooMany : Addr) (a_ : Addr) (d_ : Option Addr) : DTS :=
  (qSeq (qAsg (qLst false (qCons (qCB (dIsX a_ d_ false (.ref c_BadTime)) (qCons (qVar 0) (qCons (qC (.ref c_BadTime)) qNil))) (qCons (qCB (dIsX a_ d_ false (.ref c_NoGround)) (qCons (qVar 0) (qCons (qC (.ref c_NoGround)) qNil))) (qCons (qCB (dIsX a_ d_ false (.ref c_NoPlace)) (qCons (qVar 0) (qCons (qC (.ref c_NoPlace)) qNil))) (qCons (qCB (dIsX a_ d_ false (.ref c_NoProof)) (qCons (qVar 0) (qCons (qC (.ref c_NoProof)) qNil))) qNil))))) (gNameD 1))
  (qSeq (qAsg (qOp (dAdd false) (qVar 1) (qLst false (qCons (qCB (dIsX a_ d_ false (.ref c_NoKind)) (qCons (qVar 0) (qCons (qC (.ref c_NoKind)) qNil))) (qCons (qCB (dIsX a_ d_ false (.ref c_BadText)) (qCons (qVar 0) (qCons (qC (.ref c_BadText)) qNil))) (qCons (qCB (dIsX a_ d_ false (.ref c_NoDeed)) (qCons (qVar 0) (qCons (qC (.ref c_NoDeed)) qNil))) (qCons (qCB (dIsX a_ d_ false (.ref c_NoRow)) (qCons (qVar 0) (qCons (qC (.ref c_NoRow)) qNil))) qNil)))))) (gNameD 1))
  (qSeq (qAsg (qOp (dAdd false) (qVar 1) (qLst false (qCons (qCB (dIsX a_ d_ false (.ref c_TooMany)) (qCons (qVar 0) (qCons (qC (.ref c_TooMany)) qNil))) (qCons (qCB (dIsX a_ d_ false (.ref c_NotDone)) (qCons (qVar 0) (qCons (qC (.ref c_NotDone)) qNil))) (qCons (qCB (dIsX a_ d_ false (.ref c_NoBook)) (qCons (qVar 0) (qCons (qC (.ref c_NoBook)) qNil))) (qCons (qCB (dIsX a_ d_ false (.ref c_NoCall)) (qCons (qVar 0) (qCons (qC (.ref c_NoCall)) qNil))) qNil)))))) (gNameD 1))
  (qSeq (qAsg (qOp (dAdd false) (qVar 1) (qLst false (qCons (qCB (dIsX a_ d_ false (.ref c_NoEngine)) (qCons (qVar 0) (qCons (qC (.ref c_NoEngine)) qNil))) (qCons (qCB (dIsX a_ d_ false (.ref c_NoEngines)) (qCons (qVar 0) (qCons (qC (.ref c_NoEngines)) qNil))) (qCons (qCB (dIsX a_ d_ false (.ref c_NoLine)) (qCons (qVar 0) (qCons (qC (.ref c_NoLine)) qNil))) (qCons (qCB (dIsX a_ d_ true (.ref c_NoJoin)) (qCons (qVar 0) (qCons (qC (.ref c_NoJoin)) qNil))) qNil)))))) (gNameD 1))
  (qSeq (qAsg (qOp (dAdd false) (qVar 1) (qLst false (qCons (qCB (dIsX a_ d_ false (.ref c_NoFlow)) (qCons (qVar 0) (qCons (qC (.ref c_NoFlow)) qNil))) (qCons (qCB (dIsX a_ d_ false (.ref c_Late)) (qCons (qVar 0) (qCons (qC (.ref c_Late)) qNil))) (qCons (qCB (dIsX a_ d_ false (.ref c_Inside)) (qCons (qVar 0) (qCons (qC (.ref c_Inside)) qNil))) (qCons (qCB (dIsX a_ d_ false (.ref c_Dead)) (qCons (qVar 0) (qCons (qC (.ref c_Dead)) qNil))) qNil)))))) (gNameD 1))
  (qSeq (qAsg (qOp (dAdd false) (qVar 1) (qLst false (qCons (qCB (dIsX a_ d_ false (.ref c_NoTeam)) (qCons (qVar 0) (qCons (qC (.ref c_NoTeam)) qNil))) (qCons (qCB (dIsX a_ d_ false (.ref c_NoWearer)) (qCons (qVar 0) (qCons (qC (.ref c_NoWearer)) qNil))) (qCons (qCB (dIsX a_ d_ false (.ref c_NoBoard)) (qCons (qVar 0) (qCons (qC (.ref c_NoBoard)) qNil))) (qCons (qCB (dIsX a_ d_ false (.ref c_NoText)) (qCons (qVar 0) (qCons (qC (.ref c_NoText)) qNil))) qNil)))))) (gNameD 1))
  (qSeq (qAsg (qOp (dAdd false) (qVar 1) (qLst false (qCons (qCB (dIsX a_ d_ false (.ref c_Nothing)) (qCons (qVar 0) (qCons (qC (.ref c_Nothing)) qNil))) (qCons (qCB (dIsX a_ d_ false (.ref c_NoSaying)) (qCons (qVar 0) (qCons (qC (.ref c_NoSaying)) qNil))) qNil)))) (gNameD 1))
  (qSeq (qAsg (qC (.str (PySem.Str.ofString "BadTime NoGround NoPlace NoProof NoKind BadText NoDeed NoRow TooMany NotDone"))) (gNameD 2))
  (qSeq (qAsg (qOp (dAdd false) (qVar 2) (qC (.str (PySem.Str.ofString " NoBook NoCall NoEngine NoEngines NoLine NoJoin NoFlow Late Inside")))) (gNameD 2))
  (qSeq (qAsg (qOp (dAdd false) (qVar 2) (qC (.str (PySem.Str.ofString " Dead NoTeam NoWearer NoBoard NoText Nothing NoSaying")))) (gNameD 2))
  (qSeq (qIfS (qTB (qOp (dEq true) (qBM "list" mCount (qVar 1) (qCons (qC (.bl true)) qNil)) (qC (.int 1))))
  (qRet (qC (.str (PySem.Str.ofString "other"))))
  qNext)
  (qRet (qOp dIx (qBM "str" (mSplit false) (qVar 2) (qCons (qC (.str (PySem.Str.ofString " "))) qNil)) (qBM "list" mIndex (qVar 1) (qCons (qC (.bl true)) qNil)))))))))))))))
theorem dvW__law_which_NoJoin {k : Nat} (T : Tx w K mg) {a : Addr} {oe : Obj} {d : Option Addr} (hz : Zc (.ref T.c_NoJoin.C) d oe) (hf : ∃ vs, oe.data = .fields vs) {p : DSp} (hlen : ∀ ds M Q E, p ds M Q E → ds.length = 1)
    (hs : ∀ ds M Q Ed, upSp p ds M Q Ed → q__law_which_NoJoin T.c_BadText.C T.c_BadTime.C T.c_Dead.C T.c_Inside.C T.c_Late.C T.c_NoBoard.C T.c_NoBook.C T.c_NoCall.C T.c_NoDeed.C T.c_NoEngine.C T.c_NoEngines.C T.c_NoFlow.C T.c_NoGround.C T.c_NoJoin.C T.c_NoKind.C T.c_NoLine.C T.c_NoPlace.C T.c_NoProof.C T.c_NoRow.C T.c_NoSaying.C T.c_NoTeam.C T.c_NoText.C T.c_NoWearer.C T.c_NotDone.C T.c_Nothing.C T.c_TooMany.C a d DW0 (retE Q) (startD N__law_which ds) M) : FnW P w K mg base (L2.CX P w) (k + 1) T.f__law_which.f T.f__law_which.fd ["_law_e"] (toSp K p) (a, oe) := by
  refine (fn_okW (p := upSp p) T.f__law_which.F sc__law_which (fun ds M Q E ⟨Q0, E0, h, _⟩ => hlen ds M Q0 E0 h) fun cdv A outer s H E hr => ?_).imp fun _ _ _ _ h => imp_up h
  have nd := sc__law_which.nd
  have hu64 := Nat.lt_of_le_of_lt (Nat.le_trans (Nat.add_le_add_left (show 64 ≤ 200 by decide) _) (Nat.add_le_add_right (Nat.le_add_right _ _) _)) hr.un
  have hu := Nat.lt_of_le_of_lt (Nat.add_le_add_left (show 1 ≤ 64 by decide) _) hu64
  exact ⟨_, q__law_which_NoJoin T.c_BadText.C T.c_BadTime.C T.c_Dead.C T.c_Inside.C T.c_Late.C T.c_NoBoard.C T.c_NoBook.C T.c_NoCall.C T.c_NoDeed.C T.c_NoEngine.C T.c_NoEngines.C T.c_NoFlow.C T.c_NoGround.C T.c_NoJoin.C T.c_NoKind.C T.c_NoLine.C T.c_NoPlace.C T.c_NoProof.C T.c_NoRow.C T.c_NoSaying.C T.c_NoTeam.C T.c_NoText.C T.c_NoWearer.C T.c_NotDone.C T.c_Nothing.C T.c_TooMany.C a d, (qss_cons (qs_setN 1 nd (q_lst false (qa_cons (q_callB (c_isW1 List.mem_cons_self (b := false) T.c_NoJoin.kx hz hf rfl T.i_4) rfl T.n_isinstance (by decide +kernel) (qa_cons (qv 0) (qa_cons (q_cls T.c_BadTime.g) qa_nil))) (qa_cons (q_callB (c_isW1 List.mem_cons_self (b := false) T.c_NoJoin.kx hz hf rfl T.i_3) rfl T.n_isinstance (by decide +kernel) (qa_cons (qv 0) (qa_cons (q_cls T.c_NoGround.g) qa_nil))) (qa_cons (q_callB (c_isW1 List.mem_cons_self (b := false) T.c_NoJoin.kx hz hf rfl T.i_2) rfl T.n_isinstance (by decide +kernel) (qa_cons (qv 0) (qa_cons (q_cls T.c_NoPlace.g) qa_nil))) (qa_cons (q_callB (c_isW1 List.mem_cons_self (b := false) T.c_NoJoin.kx hz hf rfl T.i_1) rfl T.n_isinstance (by decide +kernel) (qa_cons (qv 0) (qa_cons (q_cls T.c_NoProof.g) qa_nil))) qa_nil))))))
  (qss_cons (qs_setN 1 nd (q_op (o_add false) (qv 1) (q_lst false (qa_cons (q_callB (c_isW1 List.mem_cons_self (b := false) T.c_NoJoin.kx hz hf rfl T.i_8) rfl T.n_isinstance (by decide +kernel) (qa_cons (qv 0) (qa_cons (q_cls T.c_NoKind.g) qa_nil))) (qa_cons (q_callB (c_isW1 List.mem_cons_self (b := false) T.c_NoJoin.kx hz hf rfl T.i_7) rfl T.n_isinstance (by decide +kernel) (qa_cons (qv 0) (qa_cons (q_cls T.c_BadText.g) qa_nil))) (qa_cons (q_callB (c_isW1 List.mem_cons_self (b := false) T.c_NoJoin.kx hz hf rfl T.i_6) rfl T.n_isinstance (by decide +kernel) (qa_cons (qv 0) (qa_cons (q_cls T.c_NoDeed.g) qa_nil))) (qa_cons (q_callB (c_isW1 List.mem_cons_self (b := false) T.c_NoJoin.kx hz hf rfl T.i_5) rfl T.n_isinstance (by decide +kernel) (qa_cons (qv 0) (qa_cons (q_cls T.c_NoRow.g) qa_nil))) qa_nil)))))))
  (qss_cons (qs_setN 1 nd (q_op (o_add false) (qv 1) (q_lst false (qa_cons (q_callB (c_isW1 List.mem_cons_self (b := false) T.c_NoJoin.kx hz hf rfl T.i_12) rfl T.n_isinstance (by decide +kernel) (qa_cons (qv 0) (qa_cons (q_cls T.c_TooMany.g) qa_nil))) (qa_cons (q_callB (c_isW1 List.mem_cons_self (b := false) T.c_NoJoin.kx hz hf rfl T.i_11) rfl T.n_isinstance (by decide +kernel) (qa_cons (qv 0) (qa_cons (q_cls T.c_NotDone.g) qa_nil))) (qa_cons (q_callB (c_isW1 List.mem_cons_self (b := false) T.c_NoJoin.kx hz hf rfl T.i_10) rfl T.n_isinstance (by decide +kernel) (qa_cons (qv 0) (qa_cons (q_cls T.c_NoBook.g) qa_nil))) (qa_cons (q_callB (c_isW1 List.mem_cons_self (b := false) T.c_NoJoin.kx hz hf rfl T.i_9) rfl T.n_isinstance (by decide +kernel) (qa_cons (qv 0) (qa_cons (q_cls T.c_NoCall.g) qa_nil))) qa_nil)))))))
  (qss_cons (qs_setN 1 nd (q_op (o_add false) (qv 1) (q_lst false (qa_cons (q_callB (c_isW1 List.mem_cons_self (b := false) T.c_NoJoin.kx hz hf rfl T.i_16) rfl T.n_isinstance (by decide +kernel) (qa_cons (qv 0) (qa_cons (q_cls T.c_NoEngine.g) qa_nil))) (qa_cons (q_callB (c_isW1 List.mem_cons_self (b := false) T.c_NoJoin.kx hz hf rfl T.i_15) rfl T.n_isinstance (by decide +kernel) (qa_cons (qv 0) (qa_cons (q_cls T.c_NoEngines.g) qa_nil))) (qa_cons (q_callB (c_isW1 List.mem_cons_self (b := false) T.c_NoJoin.kx hz hf rfl T.i_14) rfl T.n_isinstance (by decide +kernel) (qa_cons (qv 0) (qa_cons (q_cls T.c_NoLine.g) qa_nil))) (qa_cons (q_callB (c_isW1 List.mem_cons_self (b := true) T.c_NoJoin.kx hz hf rfl T.i_13) rfl T.n_isinstance (by decide +kernel) (qa_cons (qv 0) (qa_cons (q_cls T.c_NoJoin.g) qa_nil))) qa_nil)))))))
  (qss_cons (qs_setN 1 nd (q_op (o_add false) (qv 1) (q_lst false (qa_cons (q_callB (c_isW1 List.mem_cons_self (b := false) T.c_NoJoin.kx hz hf rfl T.i_20) rfl T.n_isinstance (by decide +kernel) (qa_cons (qv 0) (qa_cons (q_cls T.c_NoFlow.g) qa_nil))) (qa_cons (q_callB (c_isW1 List.mem_cons_self (b := false) T.c_NoJoin.kx hz hf rfl T.i_19) rfl T.n_isinstance (by decide +kernel) (qa_cons (qv 0) (qa_cons (q_cls T.c_Late.g) qa_nil))) (qa_cons (q_callB (c_isW1 List.mem_cons_self (b := false) T.c_NoJoin.kx hz hf rfl T.i_18) rfl T.n_isinstance (by decide +kernel) (qa_cons (qv 0) (qa_cons (q_cls T.c_Inside.g) qa_nil))) (qa_cons (q_callB (c_isW1 List.mem_cons_self (b := false) T.c_NoJoin.kx hz hf rfl T.i_17) rfl T.n_isinstance (by decide +kernel) (qa_cons (qv 0) (qa_cons (q_cls T.c_Dead.g) qa_nil))) qa_nil)))))))
  (qss_cons (qs_setN 1 nd (q_op (o_add false) (qv 1) (q_lst false (qa_cons (q_callB (c_isW1 List.mem_cons_self (b := false) T.c_NoJoin.kx hz hf rfl T.i_24) rfl T.n_isinstance (by decide +kernel) (qa_cons (qv 0) (qa_cons (q_cls T.c_NoTeam.g) qa_nil))) (qa_cons (q_callB (c_isW1 List.mem_cons_self (b := false) T.c_NoJoin.kx hz hf rfl T.i_23) rfl T.n_isinstance (by decide +kernel) (qa_cons (qv 0) (qa_cons (q_cls T.c_NoWearer.g) qa_nil))) (qa_cons (q_callB (c_isW1 List.mem_cons_self (b := false) T.c_NoJoin.kx hz hf rfl T.i_22) rfl T.n_isinstance (by decide +kernel) (qa_cons (qv 0) (qa_cons (q_cls T.c_NoBoard.g) qa_nil))) (qa_cons (q_callB (c_isW1 List.mem_cons_self (b := false) T.c_NoJoin.kx hz hf rfl T.i_21) rfl T.n_isinstance (by decide +kernel) (qa_cons (qv 0) (qa_cons (q_cls T.c_NoText.g) qa_nil))) qa_nil)))))))
  (qss_cons (qs_setN 1 nd (q_op (o_add false) (qv 1) (q_lst false (qa_cons (q_callB (c_isW1 List.mem_cons_self (b := false) T.c_NoJoin.kx hz hf rfl T.i_26) rfl T.n_isinstance (by decide +kernel) (qa_cons (qv 0) (qa_cons (q_cls T.c_Nothing.g) qa_nil))) (qa_cons (q_callB (c_isW1 List.mem_cons_self (b := false) T.c_NoJoin.kx hz hf rfl T.i_25) rfl T.n_isinstance (by decide +kernel) (qa_cons (qv 0) (qa_cons (q_cls T.c_NoSaying.g) qa_nil))) qa_nil)))))
  (qss_cons (qs_setN 2 nd q_str)
  (qss_cons (qs_setN 2 nd (q_op (o_add false) (qv 2) q_str))
  (qss_cons (qs_setN 2 nd (q_op (o_add false) (qv 2) q_str))
  (qss_cons (qs_if (qt_cmp (o_ne hu64) (q_bm PySem.F.plainAttrs_list PySem.F.slot_list_count PySem.F.type_list_count m_count (qv 1) (qa_cons q_bl qa_nil)) q_int)
  (qss_one (qs_ret q_str))
  qss_nil)
  (qss_one (qs_ret (q_ix hu (q_bm PySem.F.plainAttrs_str PySem.F.slot_str_split PySem.F.type_str_split (m_split false) (qv 2) (qa_cons q_str qa_nil)) (q_bm PySem.F.plainAttrs_list PySem.F.slot_list_index PySem.F.type_list_index m_index (qv 1) (qa_cons q_bl qa_nil)))))))))))))))), hs⟩
def q_is_whole : DTS :=
  (qRet (qAndV (qCB dIsi (qCons (qVar 0) (qCons (qC (.ty "int")) qNil))) (qAndV (qNotV (qCB dIsi (qCons (qVar 0) (qCons (qC (.ty "bool")) qNil)))) (qChain (dCmpI fun i j => decide (i ≤ j)) (dCmpI fun i j => decide (i ≤ j)) (qVar 1) (qVar 0) (qVar 2)))))
theorem dv_is_whole {k : Nat} (T : Tx w K mg) {p : DSp} (hlen : ∀ ds M Q E, p ds M Q E → ds.length = 3)
    (hs : ∀ ds M Q Ed, upSp p ds M Q Ed → q_is_whole (fun x _ M => Ed x M) (retE Q) (startD N_is_whole ds) M) : FnOk P w K mg base (L2.CX P w) (k + 1) T.f_is_whole.f T.f_is_whole.fd ["thing", "low", "high"] (toSp K p) := by
  refine (fn_ok (p := upSp p) T.f_is_whole.F sc_is_whole (fun ds M Q E ⟨Q0, E0, h, _⟩ => hlen ds M Q0 E0 h) fun cdv A outer s H E hr tk hp => ?_).imp fun _ _ _ _ h => imp_up h
  have nd := sc_is_whole.nd
  have hu64 := hr.units
  have hu := Nat.lt_of_le_of_lt (Nat.add_le_add_left (show 1 ≤ 64 by decide) _) hu64
  exact ⟨_, q_is_whole, (qss_one (qs_ret (q_and (q_callB c_isi rfl T.n_isinstance (by decide +kernel) (qa_cons (qv 0) (qa_cons (qe_c (pe_bltn (v := .ty "int") rfl T.n_int (by decide +kernel) rfl) fun _ => rfl) qa_nil))) (q_and (q_not (q_callB c_isi rfl T.n_isinstance (by decide +kernel) (qa_cons (qv 0) (qa_cons (qe_c (pe_bltn (v := .ty "bool") rfl T.n_bool (by decide +kernel) rfl) fun _ => rfl) qa_nil)))) (q_one (q_chain o_le o_le (qv 1) (qv 0) (qv 2))))))), hs⟩
def q_is_tuple_of : DTS :=
  (qRet (qAndV (qCB dIsi (qCons (qVar 0) (qCons (qC (.ty "tuple")) qNil))) (qOp (dEq false) (qCB dLen (qCons (qVar 0) qNil)) (qVar 1))))
theorem dv_is_tuple_of {k : Nat} (T : Tx w K mg) {p : DSp} (hlen : ∀ ds M Q E, p ds M Q E → ds.length = 2)
    (hs : ∀ ds M Q Ed, upSp p ds M Q Ed → q_is_tuple_of (fun x _ M => Ed x M) (retE Q) (startD N_is_tuple_of ds) M) : FnOk P w K mg base (L2.CX P w) (k + 1) T.f_is_tuple_of.f T.f_is_tuple_of.fd ["thing", "many"] (toSp K p) := by
  refine (fn_ok (p := upSp p) T.f_is_tuple_of.F sc_is_tuple_of (fun ds M Q E ⟨Q0, E0, h, _⟩ => hlen ds M Q0 E0 h) fun cdv A outer s H E hr tk hp => ?_).imp fun _ _ _ _ h => imp_up h
  have nd := sc_is_tuple_of.nd
  have hu64 := hr.units
  have hu := Nat.lt_of_le_of_lt (Nat.add_le_add_left (show 1 ≤ 64 by decide) _) hu64
  exact ⟨_, q_is_tuple_of, (qss_one (qs_ret (q_and (q_callB c_isi rfl T.n_isinstance (by decide +kernel) (qa_cons (qv 0) (qa_cons (qe_c (pe_bltn (v := .ty "tuple") rfl T.n_tuple (by decide +kernel) rfl) fun _ => rfl) qa_nil))) (q_one (q_cmp (o_eq hu64) (q_callB c_len rfl T.n_len (by decide +kernel) (qa_cons (qv 0) qa_nil)) (qv 1)))))), hs⟩
def q_is_source (sp_is_tuple_of : DSp) (sp_is_whole : DSp) : DTS :=
  (qSeq (qIfS (qAnd (qTB (qCall sp_is_tuple_of [] (qCons (qVar 0) (qCons (qC (.int 3)) qNil)))) (qTB (qOp (dEq false) (qOp dIx (qVar 0) (qC (.int 0))) (qC (.str (PySem.Str.ofString "hydrant"))))))
  (qRet (qAndV (qCall sp_is_whole [] (qCons (qOp dIx (qVar 0) (qC (.int 1))) (qCons (qC (.int 0)) (qCons (qC (.int 150)) qNil)))) (qCall sp_is_whole [] (qCons (qOp dIx (qVar 0) (qC (.int 2))) (qCons (qC (.int 1)) (qCons (qC (.int 5000)) qNil))))))
  qNext)
  (qRet (qAndV (qCall sp_is_tuple_of [] (qCons (qVar 0) (qCons (qC (.int 2)) qNil))) (qAndV (qOp (dEq false) (qOp dIx (qVar 0) (qC (.int 0))) (qC (.str (PySem.Str.ofString "pond")))) (qCall sp_is_whole [] (qCons (qOp dIx (qVar 0) (qC (.int 1))) (qCons (qC (.int 0)) (qCons (qC (.int 8)) qNil))))))))
theorem dv_is_source {k : Nat} (T : Tx w K mg) {sp_is_tuple_of : DSp} (G_is_tuple_of : FnOk P w K mg base (L2.CX P w) k T.f_is_tuple_of.f T.f_is_tuple_of.fd ["thing", "many"] (toSp K sp_is_tuple_of)) {sp_is_whole : DSp} (G_is_whole : FnOk P w K mg base (L2.CX P w) k T.f_is_whole.f T.f_is_whole.fd ["thing", "low", "high"] (toSp K sp_is_whole)) {p : DSp} (hlen : ∀ ds M Q E, p ds M Q E → ds.length = 1)
    (hs : ∀ ds M Q Ed, upSp p ds M Q Ed → q_is_source sp_is_tuple_of sp_is_whole (fun x _ M => Ed x M) (retE Q) (startD N_is_source ds) M) : FnOk P w K mg base (L2.CX P w) (k + 1) T.f_is_source.f T.f_is_source.fd ["thing"] (toSp K p) := by
  refine (fn_ok (p := upSp p) T.f_is_source.F sc_is_source (fun ds M Q E ⟨Q0, E0, h, _⟩ => hlen ds M Q0 E0 h) fun cdv A outer s H E hr tk hp => ?_).imp fun _ _ _ _ h => imp_up h
  have nd := sc_is_source.nd
  have hu64 := hr.units
  have hu := Nat.lt_of_le_of_lt (Nat.add_le_add_left (show 1 ≤ 64 by decide) _) hu64
  exact ⟨_, q_is_source sp_is_tuple_of sp_is_whole, (qss_cons (qs_if (QW.t (qw_and (qt_val (q_call G_is_tuple_of hr tk rfl T.f_is_tuple_of.g T.f_is_tuple_of.F.kp T.f_is_tuple_of.b .nil (fun _ => rfl) (qa_cons (qv 0) (qa_cons q_int qa_nil)))) (qw_and1 (qt_cmp (o_eq hu64) (q_ix hu (qv 0) q_int) q_str))))
  (qss_one (qs_ret (q_and (q_call G_is_whole hr tk rfl T.f_is_whole.g T.f_is_whole.F.kp T.f_is_whole.b .nil (fun _ => rfl) (qa_cons (q_ix hu (qv 0) q_int) (qa_cons q_int (qa_cons q_int qa_nil)))) (q_one (q_call G_is_whole hr tk rfl T.f_is_whole.g T.f_is_whole.F.kp T.f_is_whole.b .nil (fun _ => rfl) (qa_cons (q_ix hu (qv 0) q_int) (qa_cons q_int (qa_cons q_int qa_nil))))))))
  qss_nil)
  (qss_one (qs_ret (q_and (q_call G_is_tuple_of hr tk rfl T.f_is_tuple_of.g T.f_is_tuple_of.F.kp T.f_is_tuple_of.b .nil (fun _ => rfl) (qa_cons (qv 0) (qa_cons q_int qa_nil))) (q_and (q_cmp (o_eq hu64) (q_ix hu (qv 0) q_int) q_str) (q_one (q_call G_is_whole hr tk rfl T.f_is_whole.g T.f_is_whole.F.kp T.f_is_whole.b .nil (fun _ => rfl) (qa_cons (q_ix hu (qv 0) q_int) (qa_cons q_int (qa_cons q_int qa_nil)))))))))), hs⟩
def q_is_middle (sp_is_tuple_of : DSp) (sp_is_whole : DSp) : DTS :=
  (qSeq (qIfS (qAnd (qTB (qCall sp_is_tuple_of [] (qCons (qVar 0) (qCons (qC (.int 3)) qNil)))) (qTB (qOp (dEq false) (qOp dIx (qVar 0) (qC (.int 0))) (qC (.str (PySem.Str.ofString "hose"))))))
  (qRet (qAndV (qCall sp_is_whole [] (qCons (qOp dIx (qVar 0) (qC (.int 1))) (qCons (qC (.int 1)) (qCons (qC (.int 20)) qNil)))) (qCall sp_is_whole [] (qCons (qOp dIx (qVar 0) (qC (.int 2))) (qCons (qUn dNeg (qC (.int 60))) (qCons (qC (.int 60)) qNil))))))
  qNext)
  (qSeq (qIfS (qAnd (qTB (qCall sp_is_tuple_of [] (qCons (qVar 0) (qCons (qC (.int 3)) qNil)))) (qTB (qOp (dEq false) (qOp dIx (qVar 0) (qC (.int 0))) (qC (.str (PySem.Str.ofString "pump"))))))
  (qRet (qAndV (qCall sp_is_whole [] (qCons (qOp dIx (qVar 0) (qC (.int 1))) (qCons (qC (.int 0)) (qCons (qC (.int 120)) qNil)))) (qCall sp_is_whole [] (qCons (qOp dIx (qVar 0) (qC (.int 2))) (qCons (qC (.int 1)) (qCons (qC (.int 5000)) qNil))))))
  qNext)
  (qRet (qAndV (qCall sp_is_tuple_of [] (qCons (qVar 0) (qCons (qC (.int 2)) qNil))) (qAndV (qOp (dEq false) (qOp dIx (qVar 0) (qC (.int 0))) (qC (.str (PySem.Str.ofString "leak")))) (qCall sp_is_whole [] (qCons (qOp dIx (qVar 0) (qC (.int 1))) (qCons (qC (.int 0)) (qCons (qC (.int 1000)) qNil)))))))))
theorem dv_is_middle {k : Nat} (T : Tx w K mg) {sp_is_tuple_of : DSp} (G_is_tuple_of : FnOk P w K mg base (L2.CX P w) k T.f_is_tuple_of.f T.f_is_tuple_of.fd ["thing", "many"] (toSp K sp_is_tuple_of)) {sp_is_whole : DSp} (G_is_whole : FnOk P w K mg base (L2.CX P w) k T.f_is_whole.f T.f_is_whole.fd ["thing", "low", "high"] (toSp K sp_is_whole)) {p : DSp} (hlen : ∀ ds M Q E, p ds M Q E → ds.length = 1)
    (hs : ∀ ds M Q Ed, upSp p ds M Q Ed → q_is_middle sp_is_tuple_of sp_is_whole (fun x _ M => Ed x M) (retE Q) (startD N_is_middle ds) M) : FnOk P w K mg base (L2.CX P w) (k + 1) T.f_is_middle.f T.f_is_middle.fd ["thing"] (toSp K p) := by
  refine (fn_ok (p := upSp p) T.f_is_middle.F sc_is_middle (fun ds M Q E ⟨Q0, E0, h, _⟩ => hlen ds M Q0 E0 h) fun cdv A outer s H E hr tk hp => ?_).imp fun _ _ _ _ h => imp_up h
  have nd := sc_is_middle.nd
  have hu64 := hr.units
  have hu := Nat.lt_of_le_of_lt (Nat.add_le_add_left (show 1 ≤ 64 by decide) _) hu64
  exact ⟨_, q_is_middle sp_is_tuple_of sp_is_whole, (qss_cons (qs_if (QW.t (qw_and (qt_val (q_call G_is_tuple_of hr tk rfl T.f_is_tuple_of.g T.f_is_tuple_of.F.kp T.f_is_tuple_of.b .nil (fun _ => rfl) (qa_cons (qv 0) (qa_cons q_int qa_nil)))) (qw_and1 (qt_cmp (o_eq hu64) (q_ix hu (qv 0) q_int) q_str))))
  (qss_one (qs_ret (q_and (q_call G_is_whole hr tk rfl T.f_is_whole.g T.f_is_whole.F.kp T.f_is_whole.b .nil (fun _ => rfl) (qa_cons (q_ix hu (qv 0) q_int) (qa_cons q_int (qa_cons q_int qa_nil)))) (q_one (q_call G_is_whole hr tk rfl T.f_is_whole.g T.f_is_whole.F.kp T.f_is_whole.b .nil (fun _ => rfl) (qa_cons (q_ix hu (qv 0) q_int) (qa_cons (q_neg q_int) (qa_cons q_int qa_nil))))))))
  qss_nil)
  (qss_cons (qs_if (QW.t (qw_and (qt_val (q_call G_is_tuple_of hr tk rfl T.f_is_tuple_of.g T.f_is_tuple_of.F.kp T.f_is_tuple_of.b .nil (fun _ => rfl) (qa_cons (qv 0) (qa_cons q_int qa_nil)))) (qw_and1 (qt_cmp (o_eq hu64) (q_ix hu (qv 0) q_int) q_str))))
  (qss_one (qs_ret (q_and (q_call G_is_whole hr tk rfl T.f_is_whole.g T.f_is_whole.F.kp T.f_is_whole.b .nil (fun _ => rfl) (qa_cons (q_ix hu (qv 0) q_int) (qa_cons q_int (qa_cons q_int qa_nil)))) (q_one (q_call G_is_whole hr tk rfl T.f_is_whole.g T.f_is_whole.F.kp T.f_is_whole.b .nil (fun _ => rfl) (qa_cons (q_ix hu (qv 0) q_int) (qa_cons q_int (qa_cons q_int qa_nil))))))))
  qss_nil)
  (qss_one (qs_ret (q_and (q_call G_is_tuple_of hr tk rfl T.f_is_tuple_of.g T.f_is_tuple_of.F.kp T.f_is_tuple_of.b .nil (fun _ => rfl) (qa_cons (qv 0) (qa_cons q_int qa_nil))) (q_and (q_cmp (o_eq hu64) (q_ix hu (qv 0) q_int) q_str) (q_one (q_call G_is_whole hr tk rfl T.f_is_whole.g T.f_is_whole.F.kp T.f_is_whole.b .nil (fun _ => rfl) (qa_cons (q_ix hu (qv 0) q_int) (qa_cons q_int (qa_cons q_int qa_nil))))))))))), hs⟩
def q_is_end (sp_is_tuple_of : DSp) (sp_is_whole : DSp) (sp_wrong_part : DSp) : DTS :=
  (qSeq (qIfS (qNot (qTB (qCall sp_is_tuple_of [] (qCons (qVar 0) (qCons (qC (.int 3)) qNil)))))
  (qRet (qC (.bl false)))
  qNext)
  (qSeq (qIfS (qTB (qOp (dEq false) (qOp dIx (qVar 0) (qC (.int 0))) (qC (.str (PySem.Str.ofString "fork")))))
  (qRet (qAndV (qOp (dCmpI fun i j => decide (j < i)) (qVar 1) (qC (.int 0))) (qAndV (qOp (dEq false) (qCall sp_wrong_part [] (qCons (qOp dIx (qVar 0) (qC (.int 1))) (qCons (qOp (dInt0 fun i j => i - j) (qVar 1) (qC (.int 1))) qNil))) (qC (.int 0))) (qOp (dEq false) (qCall sp_wrong_part [] (qCons (qOp dIx (qVar 0) (qC (.int 2))) (qCons (qOp (dInt0 fun i j => i - j) (qVar 1) (qC (.int 1))) qNil))) (qC (.int 0))))))
  qNext)
  (qRet (qAndV (qOp (dEq false) (qOp dIx (qVar 0) (qC (.int 0))) (qC (.str (PySem.Str.ofString "nozzle")))) (qAndV (qCall sp_is_whole [] (qCons (qOp dIx (qVar 0) (qC (.int 1))) (qCons (qC (.int 0)) (qCons (qC (.int 2000)) qNil)))) (qCall sp_is_whole [] (qCons (qOp dIx (qVar 0) (qC (.int 2))) (qCons (qC (.int 0)) (qCons (qC (.int 100)) qNil)))))))))
theorem dv_is_end {k : Nat} (T : Tx w K mg) {sp_is_tuple_of : DSp} (G_is_tuple_of : FnOk P w K mg base (L2.CX P w) k T.f_is_tuple_of.f T.f_is_tuple_of.fd ["thing", "many"] (toSp K sp_is_tuple_of)) {sp_is_whole : DSp} (G_is_whole : FnOk P w K mg base (L2.CX P w) k T.f_is_whole.f T.f_is_whole.fd ["thing", "low", "high"] (toSp K sp_is_whole)) {sp_wrong_part : DSp} (G_wrong_part : FnOk P w K mg base (L2.CX P w) k T.f_wrong_part.f T.f_wrong_part.fd ["thing", "forks"] (toSp K sp_wrong_part)) {p : DSp} (hlen : ∀ ds M Q E, p ds M Q E → ds.length = 2)
    (hs : ∀ ds M Q Ed, upSp p ds M Q Ed → q_is_end sp_is_tuple_of sp_is_whole sp_wrong_part (fun x _ M => Ed x M) (retE Q) (startD N_is_end ds) M) : FnOk P w K mg base (L2.CX P w) (k + 1) T.f_is_end.f T.f_is_end.fd ["thing", "forks"] (toSp K p) := by
  refine (fn_ok (p := upSp p) T.f_is_end.F sc_is_end (fun ds M Q E ⟨Q0, E0, h, _⟩ => hlen ds M Q0 E0 h) fun cdv A outer s H E hr tk hp => ?_).imp fun _ _ _ _ h => imp_up h
  have nd := sc_is_end.nd
  have hu64 := hr.units
  have hu := Nat.lt_of_le_of_lt (Nat.add_le_add_left (show 1 ≤ 64 by decide) _) hu64
  exact ⟨_, q_is_end sp_is_tuple_of sp_is_whole sp_wrong_part, (qss_cons (qs_if (qt_not (qt_val (q_call G_is_tuple_of hr tk rfl T.f_is_tuple_of.g T.f_is_tuple_of.F.kp T.f_is_tuple_of.b .nil (fun _ => rfl) (qa_cons (qv 0) (qa_cons q_int qa_nil)))))
  (qss_one (qs_ret q_bl))
  qss_nil)
  (qss_cons (qs_if (qt_cmp (o_eq hu64) (q_ix hu (qv 0) q_int) q_str)
  (qss_one (qs_ret (q_and (q_cmp o_gt (qv 1) q_int) (q_and (q_cmp (o_eq hu64) (q_call G_wrong_part hr tk rfl T.f_wrong_part.g T.f_wrong_part.F.kp T.f_wrong_part.b .nil (fun _ => rfl) (qa_cons (q_ix hu (qv 0) q_int) (qa_cons (q_op o_sub (qv 1) q_int) qa_nil))) q_int) (q_one (q_cmp (o_eq hu64) (q_call G_wrong_part hr tk rfl T.f_wrong_part.g T.f_wrong_part.F.kp T.f_wrong_part.b .nil (fun _ => rfl) (qa_cons (q_ix hu (qv 0) q_int) (qa_cons (q_op o_sub (qv 1) q_int) qa_nil))) q_int))))))
  qss_nil)
  (qss_one (qs_ret (q_and (q_cmp (o_eq hu64) (q_ix hu (qv 0) q_int) q_str) (q_and (q_call G_is_whole hr tk rfl T.f_is_whole.g T.f_is_whole.F.kp T.f_is_whole.b .nil (fun _ => rfl) (qa_cons (q_ix hu (qv 0) q_int) (qa_cons q_int (qa_cons q_int qa_nil)))) (q_one (q_call G_is_whole hr tk rfl T.f_is_whole.g T.f_is_whole.F.kp T.f_is_whole.b .nil (fun _ => rfl) (qa_cons (q_ix hu (qv 0) q_int) (qa_cons q_int (qa_cons q_int qa_nil))))))))))), hs⟩
def q_wrong_part (sp_is_end : DSp) (sp_is_middle : DSp) : DTS :=
  (qSeq (qIfS (qOr (qNot (qTB (qCB dIsi (qCons (qVar 0) (qCons (qC (.ty "tuple")) qNil))))) (qNot (qTB (qChain (dCmpI fun i j => decide (i ≤ j)) (dCmpI fun i j => decide (i ≤ j)) (qC (.int 1)) (qCB dLen (qCons (qVar 0) qNil)) (qC (.int 8))))))
  (qRet (qC (.int 1)))
  qNext)
  (qSeq (qFor (qiEnumC (qCons (qSl false (qVar 0) qNoPart (qPart (qUn dNeg (qC (.int 1))))) qNil) (qCons (qC (.int 2)) qNil)) (gTupD 2 (gConsD (gNameD 2) (gConsD (gNameD 3) gNilD)))
  (qIfS (qNot (qTB (qCall sp_is_middle [] (qCons (qVar 3) qNil))))
  (qRet (qVar 2))
  qNext))
  (qRet (qIf (qTB (qCall sp_is_end [] (qCons (qOp dIx (qVar 0) (qUn dNeg (qC (.int 1)))) (qCons (qVar 1) qNil)))) (qC (.int 0)) (qOp (dAdd false) (qCB dLen (qCons (qVar 0) qNil)) (qC (.int 1)))))))
theorem dv_wrong_part {k : Nat} (T : Tx w K mg) {sp_is_end : DSp} (G_is_end : FnOk P w K mg base (L2.CX P w) k T.f_is_end.f T.f_is_end.fd ["thing", "forks"] (toSp K sp_is_end)) {sp_is_middle : DSp} (G_is_middle : FnOk P w K mg base (L2.CX P w) k T.f_is_middle.f T.f_is_middle.fd ["thing"] (toSp K sp_is_middle)) {p : DSp} (hlen : ∀ ds M Q E, p ds M Q E → ds.length = 2)
    (hs : ∀ ds M Q Ed, upSp p ds M Q Ed → q_wrong_part sp_is_end sp_is_middle (fun x _ M => Ed x M) (retE Q) (startD N_wrong_part ds) M) : FnOk P w K mg base (L2.CX P w) (k + 1) T.f_wrong_part.f T.f_wrong_part.fd ["thing", "forks"] (toSp K p) := by
  refine (fn_ok (p := upSp p) T.f_wrong_part.F sc_wrong_part (fun ds M Q E ⟨Q0, E0, h, _⟩ => hlen ds M Q0 E0 h) fun cdv A outer s H E hr tk hp => ?_).imp fun _ _ _ _ h => imp_up h
  have nd := sc_wrong_part.nd
  have hu64 := hr.units
  have hu := Nat.lt_of_le_of_lt (Nat.add_le_add_left (show 1 ≤ 64 by decide) _) hu64
  exact ⟨_, q_wrong_part sp_is_end sp_is_middle, (qss_cons (qs_if (QW.t (qw_or (qt_not (qt_val (q_callB c_isi rfl T.n_isinstance (by decide +kernel) (qa_cons (qv 0) (qa_cons (qe_c (pe_bltn (v := .ty "tuple") rfl T.n_tuple (by decide +kernel) rfl) fun _ => rfl) qa_nil))))) (qw_or1 (qt_not (qt_chain o_le o_le q_int (q_callB c_len rfl T.n_len (by decide +kernel) (qa_cons (qv 0) qa_nil)) (q_globI rfl T.g_MOST_PARTS))))))
  (qss_one (qs_ret q_int))
  qss_nil)
  (qss_cons (qs_for (ix := [2, 3]) hp rfl (qi_enumC rfl T.n_enumerate (qa_cons (q_slice false (qv 0) qo_none (qo_some (q_neg q_int))) qa_nil) (qk_cons q_int qk_nil)) (qg_tup rfl (qgs_cons (qg_nm 2 nd) (qgs_cons (qg_nm 3 nd) qgs_nil)))
  (qss_one (qs_if (qt_not (qt_val (q_call G_is_middle hr tk rfl T.f_is_middle.g T.f_is_middle.F.kp T.f_is_middle.b .nil (fun _ => rfl) (qa_cons (qv 3) qa_nil))))
  (qss_one (qs_ret (qv 2)))
  qss_nil)))
  (qss_one (qs_ret (q_if (qt_val (q_call G_is_end hr tk rfl T.f_is_end.g T.f_is_end.F.kp T.f_is_end.b .nil (fun _ => rfl) (qa_cons (q_ix hu (qv 0) (q_neg q_int)) (qa_cons (qv 1) qa_nil)))) q_int (q_op (o_add false) (q_callB c_len rfl T.n_len (by decide +kernel) (qa_cons (qv 0) qa_nil)) q_int)))))), hs⟩
def q_joins_of (sp_joins_of : DSp) : DTS :=
  (qSeq (qAsg (qCB (dList false) (qCons (qSl false (qVar 0) qNoPart (qPart (qUn dNeg (qC (.int 1))))) qNil)) (gNameD 1))
  (qSeq (qAsg (qOp dIx (qVar 0) (qUn dNeg (qC (.int 1)))) (gNameD 2))
  (qSeq (qIfS (qTB (qOp (dEq false) (qOp dIx (qVar 2) (qC (.int 0))) (qC (.str (PySem.Str.ofString "fork")))))
  (qRet (qOp (dAdd false) (qOp (dAdd false) (qVar 1) (qCall sp_joins_of [] (qCons (qOp dIx (qVar 2) (qC (.int 1))) qNil))) (qCall sp_joins_of [] (qCons (qOp dIx (qVar 2) (qC (.int 2))) qNil))))
  qNext)
  (qRet (qOp (dAdd false) (qVar 1) (qLst false (qCons (qVar 2) qNil)))))))
theorem dv_joins_of {k : Nat} (T : Tx w K mg) {sp_joins_of : DSp} (G_joins_of : FnOk P w K mg base (L2.CX P w) k T.f_joins_of.f T.f_joins_of.fd ["parts"] (toSp K sp_joins_of)) {p : DSp} (hlen : ∀ ds M Q E, p ds M Q E → ds.length = 1)
    (hs : ∀ ds M Q Ed, upSp p ds M Q Ed → q_joins_of sp_joins_of (fun x _ M => Ed x M) (retE Q) (startD N_joins_of ds) M) : FnOk P w K mg base (L2.CX P w) (k + 1) T.f_joins_of.f T.f_joins_of.fd ["parts"] (toSp K p) := by
  refine (fn_ok (p := upSp p) T.f_joins_of.F sc_joins_of (fun ds M Q E ⟨Q0, E0, h, _⟩ => hlen ds M Q0 E0 h) fun cdv A outer s H E hr tk hp => ?_).imp fun _ _ _ _ h => imp_up h
  have nd := sc_joins_of.nd
  have hu64 := hr.units
  have hu := Nat.lt_of_le_of_lt (Nat.add_le_add_left (show 1 ≤ 64 by decide) _) hu64
  exact ⟨_, q_joins_of sp_joins_of, (qss_cons (qs_setN 1 nd (q_callTy (c_list false) rfl T.n_list (by decide +kernel) (qa_cons (q_slice false (qv 0) qo_none (qo_some (q_neg q_int))) qa_nil)))
  (qss_cons (qs_setN 2 nd (q_ix hu (qv 0) (q_neg q_int)))
  (qss_cons (qs_if (qt_cmp (o_eq hu64) (q_ix hu (qv 2) q_int) q_str)
  (qss_one (qs_ret (q_op (o_add false) (q_op (o_add false) (qv 1) (q_call G_joins_of hr tk rfl T.f_joins_of.g T.f_joins_of.F.kp T.f_joins_of.b .nil (fun _ => rfl) (qa_cons (q_ix hu (qv 2) q_int) qa_nil))) (q_call G_joins_of hr tk rfl T.f_joins_of.g T.f_joins_of.F.kp T.f_joins_of.b .nil (fun _ => rfl) (qa_cons (q_ix hu (qv 2) q_int) qa_nil)))))
  qss_nil)
  (qss_one (qs_ret (q_op (o_add false) (qv 1) (q_lst false (qa_cons (qv 2) qa_nil)))))))), hs⟩
def q_parts_without (sp_joins_of : DSp) (sp_parts_without : DSp) : DTS :=
  (qSeq (qIfS (qTB (qOp (dCmpI fun i j => decide (i < j)) (qVar 1) (qCB dLen (qCons (qVar 0) qNil))))
  (qRet (qOp (dAdd false) (qSl false (qVar 0) qNoPart (qPart (qOp (dInt0 fun i j => i - j) (qVar 1) (qC (.int 1))))) (qSl false (qVar 0) (qPart (qVar 1)) qNoPart)))
  qNext)
  (qSeq (qAsg (qOp dIx (qVar 0) (qUn dNeg (qC (.int 1)))) (gNameD 2))
  (qSeq (qIfS (qTB (qOp (dEq true) (qOp dIx (qVar 2) (qC (.int 0))) (qC (.str (PySem.Str.ofString "fork")))))
  (qRet (qC .non))
  qNext)
  (qSeq (qAug 1 (qOp (dInt0 fun i j => i - j) (qCB dLen (qCons (qVar 0) qNil)) (qC (.int 1))) dAugS)
  (qSeq (qAsg (qCB dLen (qCons (qCall sp_joins_of [] (qCons (qOp dIx (qVar 2) (qC (.int 1))) qNil)) qNil)) (gNameD 3))
  (qSeq (qAsg (qSl false (qVar 2) (qPart (qC (.int 1))) qNoPart) (gTupD 2 (gConsD (gNameD 4) (gConsD (gNameD 5) gNilD))))
  (qSeq (qIfS (qTB (qOp (dCmpI fun i j => decide (i ≤ j)) (qVar 1) (qVar 3)))
  (qAsg (qCall sp_parts_without [] (qCons (qVar 4) (qCons (qVar 1) qNil))) (gNameD 4))
  (qAsg (qCall sp_parts_without [] (qCons (qVar 5) (qCons (qOp (dInt0 fun i j => i - j) (qVar 1) (qVar 3)) qNil))) (gNameD 5)))
  (qSeq (qIfS (qOr (qTB (qOp (dIs false) (qVar 4) (qC .non))) (qTB (qOp (dIs false) (qVar 5) (qC .non))))
  (qRet (qC .non))
  qNext)
  (qRet (qOp (dAdd false) (qSl false (qVar 0) qNoPart (qPart (qUn dNeg (qC (.int 1))))) (qTup (qCons (qTup (qCons (qC (.str (PySem.Str.ofString "fork"))) (qCons (qVar 4) (qCons (qVar 5) qNil)))) qNil))))))))))))
theorem dv_parts_without {k : Nat} (T : Tx w K mg) {sp_joins_of : DSp} (G_joins_of : FnOk P w K mg base (L2.CX P w) k T.f_joins_of.f T.f_joins_of.fd ["parts"] (toSp K sp_joins_of)) {sp_parts_without : DSp} (G_parts_without : FnOk P w K mg base (L2.CX P w) k T.f_parts_without.f T.f_parts_without.fd ["parts", "join"] (toSp K sp_parts_without)) {p : DSp} (hlen : ∀ ds M Q E, p ds M Q E → ds.length = 2)
    (hs : ∀ ds M Q Ed, upSp p ds M Q Ed → q_parts_without sp_joins_of sp_parts_without (fun x _ M => Ed x M) (retE Q) (startD N_parts_without ds) M) : FnOk P w K mg base (L2.CX P w) (k + 1) T.f_parts_without.f T.f_parts_without.fd ["parts", "join"] (toSp K p) := by
  refine (fn_ok (p := upSp p) T.f_parts_without.F sc_parts_without (fun ds M Q E ⟨Q0, E0, h, _⟩ => hlen ds M Q0 E0 h) fun cdv A outer s H E hr tk hp => ?_).imp fun _ _ _ _ h => imp_up h
  have nd := sc_parts_without.nd
  have hu64 := hr.units
  have hu := Nat.lt_of_le_of_lt (Nat.add_le_add_left (show 1 ≤ 64 by decide) _) hu64
  exact ⟨_, q_parts_without sp_joins_of sp_parts_without, (qss_cons (qs_if (qt_cmp o_lt (qv 1) (q_callB c_len rfl T.n_len (by decide +kernel) (qa_cons (qv 0) qa_nil)))
  (qss_one (qs_ret (q_op (o_add false) (q_slice false (qv 0) qo_none (qo_some (q_op o_sub (qv 1) q_int))) (q_slice false (qv 0) (qo_some (qv 1)) qo_none))))
  qss_nil)
  (qss_cons (qs_setN 2 nd (q_ix hu (qv 0) (q_neg q_int)))
  (qss_cons (qs_if (qt_cmp (o_ne hu64) (q_ix hu (qv 2) q_int) q_str)
  (qss_one (qs_ret q_non))
  qss_nil)
  (qss_cons (qs_augSN 1 nd (q_op o_sub (q_callB c_len rfl T.n_len (by decide +kernel) (qa_cons (qv 0) qa_nil)) q_int))
  (qss_cons (qs_setN 3 nd (q_callB c_len rfl T.n_len (by decide +kernel) (qa_cons (q_call G_joins_of hr tk rfl T.f_joins_of.g T.f_joins_of.F.kp T.f_joins_of.b .nil (fun _ => rfl) (qa_cons (q_ix hu (qv 2) q_int) qa_nil)) qa_nil)))
  (qss_cons (qs_asg (ix := [4, 5]) (q_slice false (qv 2) (qo_some q_int) qo_none) (qg_tup rfl (qgs_cons (qg_nm 4 nd) (qgs_cons (qg_nm 5 nd) qgs_nil))))
  (qss_cons (qs_if (qt_cmp o_le (qv 1) (qv 3))
  (qss_one (qs_setN 4 nd (q_call G_parts_without hr tk rfl T.f_parts_without.g T.f_parts_without.F.kp T.f_parts_without.b .nil (fun _ => rfl) (qa_cons (qv 4) (qa_cons (qv 1) qa_nil)))))
  (qss_one (qs_setN 5 nd (q_call G_parts_without hr tk rfl T.f_parts_without.g T.f_parts_without.F.kp T.f_parts_without.b .nil (fun _ => rfl) (qa_cons (qv 5) (qa_cons (q_op o_sub (qv 1) (qv 3)) qa_nil))))))
  (qss_cons (qs_if (QW.t (qw_or (qt_cmp o_is (qv 4) q_non) (qw_or1 (qt_cmp o_is (qv 5) q_non))))
  (qss_one (qs_ret q_non))
  qss_nil)
  (qss_one (qs_ret (q_op (o_add false) (q_slice false (qv 0) qo_none (qo_some (q_neg q_int))) (q_tup (qa_cons (q_tup (qa_cons q_str (qa_cons (qv 4) (qa_cons (qv 5) qa_nil)))) qa_nil))))))))))))), hs⟩
def q_Line___init__ (c_Line : Addr) (c_NoLine : Addr) (sp_is_source : DSp) (sp_wrong_part : DSp) : DTS :=
  (qSeq (qIfS (qNot (qTB (qCall sp_is_source [] (qCons (qVar 1) qNil))))
  (qRaise c_NoLine [(PySem.Str.ofString "at")] (qCons (qC (.int 0)) qNil))
  qNext)
  (qSeq (qAsg (qCall sp_wrong_part [] (qCons (qVar 2) (qCons (qC (.int 3)) qNil))) (gNameD 3))
  (qSeq (qIfS (qTB (qOp (dCmpI fun i j => decide (j < i)) (qVar 3) (qC (.int 0))))
  (qRaise c_NoLine [(PySem.Str.ofString "at")] (qCons (qVar 3) qNil))
  qNext)
  (qSeq (qSetF c_Line F_Line 0 (PySem.Str.ofString "source") (qVar 0) (qVar 1))
  (qSetF c_Line F_Line 1 (PySem.Str.ofString "parts") (qVar 0) (qVar 2))))))
theorem dv_Line___init__ {k : Nat} (hk : 2 ≤ k) (T : Tx w K mg) {sp_is_source : DSp} (G_is_source : FnOk P w K mg base (L2.CX P w) k T.f_is_source.f T.f_is_source.fd ["thing"] (toSp K sp_is_source)) {sp_wrong_part : DSp} (G_wrong_part : FnOk P w K mg base (L2.CX P w) k T.f_wrong_part.f T.f_wrong_part.fd ["thing", "forks"] (toSp K sp_wrong_part)) {p : DSp} (hlen : ∀ ds M Q E, p ds M Q E → ds.length = 3)
    (hs : ∀ ds M Q Ed, upSp p ds M Q Ed → q_Line___init__ T.c_Line.C T.c_NoLine.C sp_is_source sp_wrong_part (fun x _ M => Ed x M) (retE Q) (startD N_Line___init__ ds) M) : FnOk P w K mg base (L2.CX P w) (k + 1) T.f_Line___init__.f T.f_Line___init__.fd ["self", "source", "parts"] (toSp K p) := by
  refine (fn_ok (p := upSp p) T.f_Line___init__.F sc_Line___init__ (fun ds M Q E ⟨Q0, E0, h, _⟩ => hlen ds M Q0 E0 h) fun cdv A outer s H E hr tk hp => ?_).imp fun _ _ _ _ h => imp_up h
  have nd := sc_Line___init__.nd
  have hu64 := hr.units
  have hu := Nat.lt_of_le_of_lt (Nat.add_le_add_left (show 1 ≤ 64 by decide) _) hu64
  exact ⟨_, q_Line___init__ T.c_Line.C T.c_NoLine.C sp_is_source sp_wrong_part, (qss_cons (qs_if (qt_not (qt_val (q_call G_is_source hr tk rfl T.f_is_source.g T.f_is_source.F.kp T.f_is_source.b .nil (fun _ => rfl) (qa_cons (qv 1) qa_nil))))
  (qss_one (qs_raise1 baseX_ValueError T.c_NoLine.p (in_NoLine T) (hr.mono hk) tk rfl (qa_cons q_int qa_nil)))
  qss_nil)
  (qss_cons (qs_setN 3 nd (q_call G_wrong_part hr tk rfl T.f_wrong_part.g T.f_wrong_part.F.kp T.f_wrong_part.b .nil (fun _ => rfl) (qa_cons (qv 2) (qa_cons (q_globI rfl T.g_MOST_FORKS) qa_nil))))
  (qss_cons (qs_if (qt_cmp o_gt (qv 3) q_int)
  (qss_one (qs_raise1 baseX_ValueError T.c_NoLine.p (in_NoLine T) (hr.mono hk) tk rfl (qa_cons (qv 3) qa_nil)))
  qss_nil)
  (qss_cons (qs_setF (fs := F_Line) (i := 0) T.c_Line.cl (T.c_Line.no _ (by simp)) (qv 0) (qv 1) (by decide +kernel))
  (qss_one (qs_setF (fs := F_Line) (i := 1) T.c_Line.cl (T.c_Line.no _ (by simp)) (qv 0) (qv 2) (by decide +kernel))))))), hs⟩
def q_Line___eq__ (c_Line : Addr) : DTS :=
  (qRet (qAndV (qCB (dIsO c_Line) (qCons (qVar 1) (qCons (qC (.ref c_Line)) qNil))) (qOp (dEq false) (qTup (qCons (qFld c_Line F_Line 0 (qVar 0)) (qCons (qFld c_Line F_Line 1 (qVar 0)) qNil))) (qTup (qCons (qFld c_Line F_Line 0 (qVar 1)) (qCons (qFld c_Line F_Line 1 (qVar 1)) qNil))))))
theorem dv_Line___eq__ {k : Nat} (T : Tx w K mg) {p : DSp} (hlen : ∀ ds M Q E, p ds M Q E → ds.length = 2)
    (hs : ∀ ds M Q Ed, upSp p ds M Q Ed → q_Line___eq__ T.c_Line.C (fun x _ M => Ed x M) (retE Q) (startD N_Line___eq__ ds) M) : FnOk P w K mg base (L2.CX P w) (k + 1) T.f_Line___eq__.f T.f_Line___eq__.fd ["self", "other"] (toSp K p) := by
  refine (fn_ok (p := upSp p) T.f_Line___eq__.F sc_Line___eq__ (fun ds M Q E ⟨Q0, E0, h, _⟩ => hlen ds M Q0 E0 h) fun cdv A outer s H E hr tk hp => ?_).imp fun _ _ _ _ h => imp_up h
  have nd := sc_Line___eq__.nd
  have hu64 := hr.units
  have hu := Nat.lt_of_le_of_lt (Nat.add_le_add_left (show 1 ≤ 64 by decide) _) hu64
  exact ⟨_, q_Line___eq__ T.c_Line.C, (qss_one (qs_ret (q_and (q_callB (c_isO T.s_Line) rfl T.n_isinstance (by decide +kernel) (qa_cons (qv 1) (qa_cons (q_cls T.c_Line.g) qa_nil))) (q_one (q_cmp (o_eq hu64) (q_tup (qa_cons (q_fld T.c_Line.cl (T.c_Line.no _ (by simp)) (qv 0) (fs := F_Line) (i := 0) (by decide +kernel)) (qa_cons (q_fld T.c_Line.cl (T.c_Line.no _ (by simp)) (qv 0) (fs := F_Line) (i := 1) (by decide +kernel)) qa_nil))) (q_tup (qa_cons (q_fld T.c_Line.cl (T.c_Line.no _ (by simp)) (qv 1) (fs := F_Line) (i := 0) (by decide +kernel)) (qa_cons (q_fld T.c_Line.cl (T.c_Line.no _ (by simp)) (qv 1) (fs := F_Line) (i := 1) (by decide +kernel)) qa_nil)))))))), hs⟩
def q_Line_without (c_Line : Addr) (c_NoJoin : Addr) (sp_Line___init__ : DSp) (sp_is_whole : DSp) (sp_joins_of : DSp) (sp_parts_without : DSp) : DTS :=
  (qSeq (qIfS (qNot (qTB (qCall sp_is_whole [] (qCons (qVar 1) (qCons (qC (.int 1)) (qCons (qCB dLen (qCons (qCall sp_joins_of [] (qCons (qFld c_Line F_Line 1 (qVar 0)) qNil)) qNil)) qNil))))))
  (qRaise c_NoJoin [(PySem.Str.ofString "join")] (qCons (qVar 1) qNil))
  qNext)
  (qSeq (qAsg (qCall sp_parts_without [] (qCons (qFld c_Line F_Line 1 (qVar 0)) (qCons (qVar 1) qNil))) (gNameD 2))
  (qSeq (qIfS (qTB (qOp (dIs false) (qVar 2) (qC .non)))
  (qRaise c_NoJoin [(PySem.Str.ofString "join")] (qCons (qVar 1) qNil))
  qNext)
  (qRet (qFrzE (qMake c_Line sp_Line___init__ [] (qCons (qFld c_Line F_Line 0 (qVar 0)) (qCons (qVar 2) qNil))))))))
theorem dv_Line_without {k : Nat} (hk : 2 ≤ k) (T : Tx w K mg) {ki_Line : Nat} (hi_Line : ki_Line + 1 ≤ k) {sp_Line___init__ : DSp} (G_Line___init__ : FnOk P w K mg base (L2.CX P w) ki_Line T.f_Line___init__.f T.f_Line___init__.fd ["self", "source", "parts"] (toSp K sp_Line___init__)) {sp_is_whole : DSp} (G_is_whole : FnOk P w K mg base (L2.CX P w) k T.f_is_whole.f T.f_is_whole.fd ["thing", "low", "high"] (toSp K sp_is_whole)) {sp_joins_of : DSp} (G_joins_of : FnOk P w K mg base (L2.CX P w) k T.f_joins_of.f T.f_joins_of.fd ["parts"] (toSp K sp_joins_of)) {sp_parts_without : DSp} (G_parts_without : FnOk P w K mg base (L2.CX P w) k T.f_parts_without.f T.f_parts_without.fd ["parts", "join"] (toSp K sp_parts_without)) {p : DSp} (hlen : ∀ ds M Q E, p ds M Q E → ds.length = 2)
    (hs : ∀ ds M Q Ed, upSp p ds M Q Ed → q_Line_without T.c_Line.C T.c_NoJoin.C sp_Line___init__ sp_is_whole sp_joins_of sp_parts_without (fun x _ M => Ed x M) (retE Q) (startD N_Line_without ds) M) : FnOk P w K mg base (L2.CX P w) (k + 1) T.f_Line_without.f T.f_Line_without.fd ["self", "join"] (toSp K p) := by
  refine (fn_ok (p := upSp p) T.f_Line_without.F sc_Line_without (fun ds M Q E ⟨Q0, E0, h, _⟩ => hlen ds M Q0 E0 h) fun cdv A outer s H E hr tk hp => ?_).imp fun _ _ _ _ h => imp_up h
  have nd := sc_Line_without.nd
  have hu64 := hr.units
  have hu := Nat.lt_of_le_of_lt (Nat.add_le_add_left (show 1 ≤ 64 by decide) _) hu64
  exact ⟨_, q_Line_without T.c_Line.C T.c_NoJoin.C sp_Line___init__ sp_is_whole sp_joins_of sp_parts_without, (qss_cons (qs_if (qt_not (qt_val (q_call G_is_whole hr tk rfl T.f_is_whole.g T.f_is_whole.F.kp T.f_is_whole.b .nil (fun _ => rfl) (qa_cons (qv 1) (qa_cons q_int (qa_cons (q_callB c_len rfl T.n_len (by decide +kernel) (qa_cons (q_call G_joins_of hr tk rfl T.f_joins_of.g T.f_joins_of.F.kp T.f_joins_of.b .nil (fun _ => rfl) (qa_cons (q_fld T.c_Line.cl (T.c_Line.no _ (by simp)) (qv 0) (fs := F_Line) (i := 1) (by decide +kernel)) qa_nil)) qa_nil)) qa_nil))))))
  (qss_one (qs_raise1 baseX_IndexError T.c_NoJoin.p (in_NoJoin T) (hr.mono hk) tk rfl (qa_cons (qv 1) qa_nil)))
  qss_nil)
  (qss_cons (qs_setN 2 nd (q_call G_parts_without hr tk rfl T.f_parts_without.g T.f_parts_without.F.kp T.f_parts_without.b .nil (fun _ => rfl) (qa_cons (q_fld T.c_Line.cl (T.c_Line.no _ (by simp)) (qv 0) (fs := F_Line) (i := 1) (by decide +kernel)) (qa_cons (qv 1) qa_nil))))
  (qss_cons (qs_if (qt_cmp o_is (qv 2) q_non)
  (qss_one (qs_raise1 baseX_IndexError T.c_NoJoin.p (in_NoJoin T) (hr.mono hk) tk rfl (qa_cons (qv 1) qa_nil)))
  qss_nil)
  (qss_one (qs_ret (q_frzE (q_make (dds := []) (T.mk_Line) G_Line___init__ (hr.mono hi_Line) tk rfl T.c_Line.g T.f_Line___init__.b .nil (fun _ => rfl) (qa_cons (q_fld T.c_Line.cl (T.c_Line.no _ (by simp)) (qv 0) (fs := F_Line) (i := 0) (by decide +kernel)) (qa_cons (qv 2) qa_nil))))))))), hs⟩
def q__law_bag : DTS :=
  (qSeq (qAsg (qC (.int 0)) (gNameD 2))
  (qSeq (qIfS (qTB (qOp (dCmpI fun i j => decide (j < i)) (qCB dLen (qCons (qVar 0) qNil)) (qC (.int 0))))
  (qAsg (qOp dIx (qVar 0) (qOp (dInt (fun _ j => 0 < j) fun i j => i % j) (qVar 1) (qCB dLen (qCons (qVar 0) qNil)))) (gNameD 2))
  qNext)
  (qSeq (qAsg (qC (.int 0)) (gNameD 3))
  (qSeq (qIfS (qAnd (qTB (qOp (dCmpI fun i j => decide (j ≤ i)) (qCB dAbs (qCons (qVar 2) qNil)) (qOp (dInt CPow fun i j => i ^ j.toNat) (qC (.int 10)) (qC (.int 18))))) (qTB (qOp (dCmpI fun i j => decide (i < j)) (qVar 1) (qCB dLen (qCons (qVar 0) qNil)))))
  (qAsg (qCB dAbs (qCons (qVar 2) qNil)) (gNameD 3))
  qNext)
  (qSeq (qAsg (qTup (qCons (qC (.int 2147483629)) (qCons (qC (.int 2147483587)) (qCons (qC (.int 2147483579)) (qCons (qC (.int 2147483563)) (qCons (qC (.int 2147483549)) (qCons (qC (.int 2147483543)) (qCons (qC (.int 2147483497)) (qCons (qC (.int 2147483489)) qNil))))))))) (gNameD 4))
  (qRet (qLst true (qCons (qVar 3) (qCons (qOp (dInt (fun _ j => 0 < j) fun i j => i % j) (qOp (dInt CPow fun i j => i ^ j.toNat) (qOp (dAdd false) (qOp (dAdd false) (qOp (dInt (fun _ j => 0 < j) fun i j => i % j) (qVar 2) (qC (.int 2147483647))) (qOp (dInt CMul fun i j => i * j) (qC (.int 104729)) (qVar 1))) (qC (.int 7))) (qC (.int 5))) (qOp dIx (qVar 4) (qOp (dInt (fun _ j => 0 < j) fun i j => i % j) (qVar 1) (qC (.int 8))))) qNil)))))))))
theorem dv__law_bag {k : Nat} (T : Tx w K mg) {p : DSp} (hlen : ∀ ds M Q E, p ds M Q E → ds.length = 2)
    (hs : ∀ ds M Q Ed, upSp p ds M Q Ed → q__law_bag (fun x _ M => Ed x M) (retE Q) (startD N__law_bag ds) M) : FnOk P w K mg base (L2.CX P w) (k + 1) T.f__law_bag.f T.f__law_bag.fd ["_law_script", "_law_at"] (toSp K p) := by
  refine (fn_ok (p := upSp p) T.f__law_bag.F sc__law_bag (fun ds M Q E ⟨Q0, E0, h, _⟩ => hlen ds M Q0 E0 h) fun cdv A outer s H E hr tk hp => ?_).imp fun _ _ _ _ h => imp_up h
  have nd := sc__law_bag.nd
  have hu64 := hr.units
  have hu := Nat.lt_of_le_of_lt (Nat.add_le_add_left (show 1 ≤ 64 by decide) _) hu64
  exact ⟨_, q__law_bag, (qss_cons (qs_setN 2 nd q_int)
  (qss_cons (qs_if (qt_cmp o_gt (q_callB c_len rfl T.n_len (by decide +kernel) (qa_cons (qv 0) qa_nil)) q_int)
  (qss_one (qs_setN 2 nd (q_ix hu (qv 0) (q_op o_mod (qv 1) (q_callB c_len rfl T.n_len (by decide +kernel) (qa_cons (qv 0) qa_nil))))))
  qss_nil)
  (qss_cons (qs_setN 3 nd q_int)
  (qss_cons (qs_if (QW.t (qw_and (qt_cmp o_ge (q_callB c_abs rfl T.n_abs (by decide +kernel) (qa_cons (qv 2) qa_nil)) (q_op o_pow q_int q_int)) (qw_and1 (qt_cmp o_lt (qv 1) (q_callB c_len rfl T.n_len (by decide +kernel) (qa_cons (qv 0) qa_nil))))))
  (qss_one (qs_setN 3 nd (q_callB c_abs rfl T.n_abs (by decide +kernel) (qa_cons (qv 2) qa_nil))))
  qss_nil)
  (qss_cons (qs_setN 4 nd (q_tup (qa_cons q_int (qa_cons q_int (qa_cons q_int (qa_cons q_int (qa_cons q_int (qa_cons q_int (qa_cons q_int (qa_cons q_int qa_nil))))))))))
  (qss_one (qs_ret (q_lst true (qa_cons (qv 3) (qa_cons (q_op o_mod (q_op o_pow (q_op (o_add false) (q_op (o_add false) (q_op o_mod (qv 2) q_int) (q_op o_mulI q_int (qv 1))) q_int) q_int) (q_ix hu (qv 4) (q_op o_mod (qv 1) q_int))) qa_nil)))))))))), hs⟩
def q__law_take : DTS :=
  (qSeq (qIfS (qTB (qOp (dCmpI fun i j => decide (j < i)) (qOp dIx (qVar 0) (qC (.int 0))) (qC (.int 0))))
  (qSeq (qAsg (qOp (dInt (fun _ j => 0 < j) fun i j => i % j) (qOp dIx (qVar 0) (qC (.int 0))) (qVar 1)) (gNameD 2))
  (qSeq (qAsg (qOp (dInt CDiv fun i j => i / j) (qOp dIx (qVar 0) (qC (.int 0))) (qVar 1)) (gSubD (qVar 0) (qC (.int 0))))
  (qRet (qVar 2))))
  qNext)
  (qSeq (qAsg (qOp (dInt (fun _ j => 0 < j) fun i j => i % j) (qOp (dAdd false) (qOp (dInt CMul fun i j => i * j) (qOp dIx (qVar 0) (qC (.int 1))) (qC (.int 48271))) (qC (.int 11))) (qC (.int 2147483647))) (gSubD (qVar 0) (qC (.int 1))))
  (qRet (qOp (dInt (fun _ j => 0 < j) fun i j => i % j) (qOp (dInt (fun _ j => 0 < j) fun i j => i % j) (qOp (dInt CPow fun i j => i ^ j.toNat) (qOp (dInt CDiv fun i j => i / j) (qOp dIx (qVar 0) (qC (.int 1))) (qC (.int 8))) (qC (.int 3))) (qC (.int 2147483629))) (qVar 1)))))
theorem dv__law_take {k : Nat} (T : Tx w K mg) {p : DSp} (hlen : ∀ ds M Q E, p ds M Q E → ds.length = 2)
    (hs : ∀ ds M Q Ed, upSp p ds M Q Ed → q__law_take (fun x _ M => Ed x M) (retE Q) (startD N__law_take ds) M) : FnOk P w K mg base (L2.CX P w) (k + 1) T.f__law_take.f T.f__law_take.fd ["_law_bag_here", "_law_many"] (toSp K p) := by
  refine (fn_ok (p := upSp p) T.f__law_take.F sc__law_take (fun ds M Q E ⟨Q0, E0, h, _⟩ => hlen ds M Q0 E0 h) fun cdv A outer s H E hr tk hp => ?_).imp fun _ _ _ _ h => imp_up h
  have nd := sc__law_take.nd
  have hu64 := hr.units
  have hu := Nat.lt_of_le_of_lt (Nat.add_le_add_left (show 1 ≤ 64 by decide) _) hu64
  exact ⟨_, q__law_take, (qss_cons (qs_if (qt_cmp o_gt (q_ix hu (qv 0) q_int) q_int)
  (qss_cons (qs_setN 2 nd (q_op o_mod (q_ix hu (qv 0) q_int) (qv 1)))
  (qss_cons (qs_asg (ix := []) (q_op o_fdiv (q_ix hu (qv 0) q_int) (qv 1)) (qg_sub hu (qv 0) q_int))
  (qss_one (qs_ret (qv 2)))))
  qss_nil)
  (qss_cons (qs_asg (ix := []) (q_op o_mod (q_op (o_add false) (q_op o_mulI (q_ix hu (qv 0) q_int) q_int) q_int) q_int) (qg_sub hu (qv 0) q_int))
  (qss_one (qs_ret (q_op o_mod (q_op o_mod (q_op o_pow (q_op o_fdiv (q_ix hu (qv 0) q_int) q_int) q_int) q_int) (qv 1)))))), hs⟩
def q__law_any (sp__law_take : DSp) : DTS :=
  (qSeq (qAsg (qLst false (qCons (qC .non) (qCons (qC (.bl true)) (qCons (qC (.bl false)) (qCons (qC (.int 0)) (qCons (qC (.int 1)) (qCons (qUn dNeg (qC (.int 1))) (qCons (qC (.int 2)) (qCons (qC (.int 59)) (qCons (qC (.int 60)) (qCons (qOp (dInt CPow fun i j => i ^ j.toNat) (qC (.int 10)) (qC (.int 59))) (qCons (qC (.str (PySem.Str.ofString ""))) (qCons (qC (.str (PySem.Str.ofString "a"))) (qCons (qC (.str (PySem.Str.ofString "A"))) (qCons (qC (.str (PySem.Str.ofString "abcdefghi"))) (qCons (qLst false qNil) (qCons (qTup qNil) (qCons (qLst false (qCons (qC (.int 0)) qNil)) (qCons (qTup (qCons (qC (.int 0)) qNil)) (qCons (qTup (qCons (qLst false qNil) qNil)) qNil)))))))))))))))))))) (gNameD 1))
  (qRet (qOp dIx (qVar 1) (qCall sp__law_take [] (qCons (qVar 0) (qCons (qC (.int 19)) qNil))))))
theorem dv__law_any {k : Nat} (T : Tx w K mg) {sp__law_take : DSp} (G__law_take : FnOk P w K mg base (L2.CX P w) k T.f__law_take.f T.f__law_take.fd ["_law_bag_here", "_law_many"] (toSp K sp__law_take)) {p : DSp} (hlen : ∀ ds M Q E, p ds M Q E → ds.length = 1)
    (hs : ∀ ds M Q Ed, upSp p ds M Q Ed → q__law_any sp__law_take (fun x _ M => Ed x M) (retE Q) (startD N__law_any ds) M) : FnOk P w K mg base (L2.CX P w) (k + 1) T.f__law_any.f T.f__law_any.fd ["_law_bag_here"] (toSp K p) := by
  refine (fn_ok (p := upSp p) T.f__law_any.F sc__law_any (fun ds M Q E ⟨Q0, E0, h, _⟩ => hlen ds M Q0 E0 h) fun cdv A outer s H E hr tk hp => ?_).imp fun _ _ _ _ h => imp_up h
  have nd := sc__law_any.nd
  have hu64 := hr.units
  have hu := Nat.lt_of_le_of_lt (Nat.add_le_add_left (show 1 ≤ 64 by decide) _) hu64
  exact ⟨_, q__law_any sp__law_take, (qss_cons (qs_setN 1 nd (q_lst false (qa_cons q_non (qa_cons q_bl (qa_cons q_bl (qa_cons q_int (qa_cons q_int (qa_cons (q_neg q_int) (qa_cons q_int (qa_cons q_int (qa_cons q_int (qa_cons (q_op o_pow q_int q_int) (qa_cons q_str (qa_cons q_str (qa_cons q_str (qa_cons q_str (qa_cons (q_lst false qa_nil) (qa_cons (q_tup qa_nil) (qa_cons (q_lst false (qa_cons q_int qa_nil)) (qa_cons (q_tup (qa_cons q_int qa_nil)) (qa_cons (q_tup (qa_cons (q_lst false qa_nil) qa_nil)) qa_nil)))))))))))))))))))))
  (qss_one (qs_ret (q_ix hu (qv 1) (q_call G__law_take hr tk rfl T.f__law_take.g T.f__law_take.F.kp T.f__law_take.b .nil (fun _ => rfl) (qa_cons (qv 0) (qa_cons q_int qa_nil))))))), hs⟩
def q__law_parts (sp__law_parts : DSp) (sp__law_take : DSp) : DTS :=
  (qSeq (qAsg (qLst true qNil) (gNameD 2))
  (qSeq (qFor (qiRng1 (qCons (qCall sp__law_take [] (qCons (qVar 0) (qCons (qOp dIx (qTup (qCons (qC (.int 3)) (qCons (qC (.int 8)) qNil))) (qCall sp__law_take [] (qCons (qVar 0) (qCons (qC (.int 2)) qNil)))) qNil))) qNil)) (gNameD 3)
  (qSeq (qAsg (qCall sp__law_take [] (qCons (qVar 0) (qCons (qC (.int 4)) qNil))) (gNameD 4))
  (qIfS (qTB (qOp (dCmpI fun i j => decide (i < j)) (qVar 4) (qC (.int 2))))
  (qSeq (qAsg (qTup (qCons (qC (.int 0)) (qCons (qOp (dInt0 fun i j => i - j) (qC (.int 60)) (qCall sp__law_take [] (qCons (qVar 0) (qCons (qC (.int 121)) qNil)))) (qCons (qOp (dInt0 fun i j => i - j) (qC (.int 5)) (qCall sp__law_take [] (qCons (qVar 0) (qCons (qC (.int 11)) qNil)))) qNil)))) (gNameD 5))
  (qSeq (qAsg (qOp dIx (qVar 5) (qCall sp__law_take [] (qCons (qVar 0) (qCons (qC (.int 3)) qNil)))) (gNameD 6))
  (qDrop (qBM "list" mApp (qVar 2) (qCons (qTup (qCons (qC (.str (PySem.Str.ofString "hose"))) (qCons (qOp (dAdd false) (qC (.int 1)) (qCall sp__law_take [] (qCons (qVar 0) (qCons (qOp dIx (qTup (qCons (qC (.int 20)) (qCons (qC (.int 4)) qNil))) (qCall sp__law_take [] (qCons (qVar 0) (qCons (qC (.int 2)) qNil)))) qNil)))) (qCons (qVar 6) qNil)))) qNil)))))
  (qIfS (qTB (qOp (dEq false) (qVar 4) (qC (.int 2))))
  (qDrop (qBM "list" mApp (qVar 2) (qCons (qTup (qCons (qC (.str (PySem.Str.ofString "pump"))) (qCons (qCall sp__law_take [] (qCons (qVar 0) (qCons (qC (.int 121)) qNil))) (qCons (qOp (dAdd false) (qC (.int 1)) (qCall sp__law_take [] (qCons (qVar 0) (qCons (qOp dIx (qTup (qCons (qC (.int 5000)) (qCons (qC (.int 900)) qNil))) (qCall sp__law_take [] (qCons (qVar 0) (qCons (qC (.int 2)) qNil)))) qNil)))) qNil)))) qNil)))
  (qDrop (qBM "list" mApp (qVar 2) (qCons (qTup (qCons (qC (.str (PySem.Str.ofString "leak"))) (qCons (qCall sp__law_take [] (qCons (qVar 0) (qCons (qOp dIx (qTup (qCons (qC (.int 1001)) (qCons (qC (.int 90)) qNil))) (qCall sp__law_take [] (qCons (qVar 0) (qCons (qC (.int 2)) qNil)))) qNil))) qNil))) qNil)))))))
  (qSeq (qIfS (qAnd (qTB (qOp (dCmpI fun i j => decide (j < i)) (qVar 1) (qC (.int 0)))) (qTB (qOp (dEq false) (qCall sp__law_take [] (qCons (qVar 0) (qCons (qC (.int 2)) qNil))) (qC (.int 0)))))
  (qRet (qOp (dAdd false) (qCB dTuple (qCons (qVar 2) qNil)) (qTup (qCons (qTup (qCons (qC (.str (PySem.Str.ofString "fork"))) (qCons (qCall sp__law_parts [] (qCons (qVar 0) (qCons (qOp (dInt0 fun i j => i - j) (qVar 1) (qC (.int 1))) qNil))) (qCons (qCall sp__law_parts [] (qCons (qVar 0) (qCons (qOp (dInt0 fun i j => i - j) (qVar 1) (qC (.int 1))) qNil))) qNil)))) qNil))))
  qNext)
  (qSeq (qAsg (qCall sp__law_take [] (qCons (qVar 0) (qCons (qOp dIx (qTup (qCons (qC (.int 2001)) (qCons (qC (.int 600)) (qCons (qC (.int 60)) qNil)))) (qCall sp__law_take [] (qCons (qVar 0) (qCons (qC (.int 3)) qNil)))) qNil))) (gNameD 7))
  (qSeq (qDrop (qBM "list" mApp (qVar 2) (qCons (qTup (qCons (qC (.str (PySem.Str.ofString "nozzle"))) (qCons (qVar 7) (qCons (qCall sp__law_take [] (qCons (qVar 0) (qCons (qOp dIx (qTup (qCons (qC (.int 101)) (qCons (qC (.int 40)) (qCons (qC (.int 1)) qNil)))) (qCall sp__law_take [] (qCons (qVar 0) (qCons (qC (.int 3)) qNil)))) qNil))) qNil)))) qNil)))
  (qRet (qCB dTuple (qCons (qVar 2) qNil))))))))
theorem dv__law_parts {k : Nat} (T : Tx w K mg) {sp__law_parts : DSp} (G__law_parts : FnOk P w K mg base (L2.CX P w) k T.f__law_parts.f T.f__law_parts.fd ["_law_bag_here", "_law_forks"] (toSp K sp__law_parts)) {sp__law_take : DSp} (G__law_take : FnOk P w K mg base (L2.CX P w) k T.f__law_take.f T.f__law_take.fd ["_law_bag_here", "_law_many"] (toSp K sp__law_take)) {p : DSp} (hlen : ∀ ds M Q E, p ds M Q E → ds.length = 2)
    (hs : ∀ ds M Q Ed, upSp p ds M Q Ed → q__law_parts sp__law_parts sp__law_take (fun x _ M => Ed x M) (retE Q) (startD N__law_parts ds) M) : FnOk P w K mg base (L2.CX P w) (k + 1) T.f__law_parts.f T.f__law_parts.fd ["_law_bag_here", "_law_forks"] (toSp K p) := by
  refine (fn_ok (p := upSp p) T.f__law_parts.F sc__law_parts (fun ds M Q E ⟨Q0, E0, h, _⟩ => hlen ds M Q0 E0 h) fun cdv A outer s H E hr tk hp => ?_).imp fun _ _ _ _ h => imp_up h
  have nd := sc__law_parts.nd
  have hu64 := hr.units
  have hu := Nat.lt_of_le_of_lt (Nat.add_le_add_left (show 1 ≤ 64 by decide) _) hu64
  exact ⟨_, q__law_parts sp__law_parts sp__law_take, (qss_cons (qs_setN 2 nd (q_lst true qa_nil))
  (qss_cons (qs_for (ix := [3]) hp rfl (qi_range1 rfl T.n_range (qa_cons (q_call G__law_take hr tk rfl T.f__law_take.g T.f__law_take.F.kp T.f__law_take.b .nil (fun _ => rfl) (qa_cons (qv 0) (qa_cons (q_ix hu (q_tup (qa_cons q_int (qa_cons q_int qa_nil))) (q_call G__law_take hr tk rfl T.f__law_take.g T.f__law_take.F.kp T.f__law_take.b .nil (fun _ => rfl) (qa_cons (qv 0) (qa_cons q_int qa_nil)))) qa_nil))) qa_nil)) (qg_nm 3 nd)
  (qss_cons (qs_setN 4 nd (q_call G__law_take hr tk rfl T.f__law_take.g T.f__law_take.F.kp T.f__law_take.b .nil (fun _ => rfl) (qa_cons (qv 0) (qa_cons q_int qa_nil))))
  (qss_one (qs_if (qt_cmp o_lt (qv 4) q_int)
  (qss_cons (qs_setN 5 nd (q_tup (qa_cons q_int (qa_cons (q_op o_sub q_int (q_call G__law_take hr tk rfl T.f__law_take.g T.f__law_take.F.kp T.f__law_take.b .nil (fun _ => rfl) (qa_cons (qv 0) (qa_cons q_int qa_nil)))) (qa_cons (q_op o_sub q_int (q_call G__law_take hr tk rfl T.f__law_take.g T.f__law_take.F.kp T.f__law_take.b .nil (fun _ => rfl) (qa_cons (qv 0) (qa_cons q_int qa_nil)))) qa_nil)))))
  (qss_cons (qs_setN 6 nd (q_ix hu (qv 5) (q_call G__law_take hr tk rfl T.f__law_take.g T.f__law_take.F.kp T.f__law_take.b .nil (fun _ => rfl) (qa_cons (qv 0) (qa_cons q_int qa_nil)))))
  (qss_one (qs_expr (q_bm PySem.F.plainAttrs_list PySem.F.slot_list_append PySem.F.type_list_append m_append (qv 2) (qa_cons (q_tup (qa_cons q_str (qa_cons (q_op (o_add false) q_int (q_call G__law_take hr tk rfl T.f__law_take.g T.f__law_take.F.kp T.f__law_take.b .nil (fun _ => rfl) (qa_cons (qv 0) (qa_cons (q_ix hu (q_tup (qa_cons q_int (qa_cons q_int qa_nil))) (q_call G__law_take hr tk rfl T.f__law_take.g T.f__law_take.F.kp T.f__law_take.b .nil (fun _ => rfl) (qa_cons (qv 0) (qa_cons q_int qa_nil)))) qa_nil)))) (qa_cons (qv 6) qa_nil)))) qa_nil))))))
  (qss_one (qs_if (qt_cmp (o_eq hu64) (qv 4) q_int)
  (qss_one (qs_expr (q_bm PySem.F.plainAttrs_list PySem.F.slot_list_append PySem.F.type_list_append m_append (qv 2) (qa_cons (q_tup (qa_cons q_str (qa_cons (q_call G__law_take hr tk rfl T.f__law_take.g T.f__law_take.F.kp T.f__law_take.b .nil (fun _ => rfl) (qa_cons (qv 0) (qa_cons q_int qa_nil))) (qa_cons (q_op (o_add false) q_int (q_call G__law_take hr tk rfl T.f__law_take.g T.f__law_take.F.kp T.f__law_take.b .nil (fun _ => rfl) (qa_cons (qv 0) (qa_cons (q_ix hu (q_tup (qa_cons q_int (qa_cons q_int qa_nil))) (q_call G__law_take hr tk rfl T.f__law_take.g T.f__law_take.F.kp T.f__law_take.b .nil (fun _ => rfl) (qa_cons (qv 0) (qa_cons q_int qa_nil)))) qa_nil)))) qa_nil)))) qa_nil))))
  (qss_one (qs_expr (q_bm PySem.F.plainAttrs_list PySem.F.slot_list_append PySem.F.type_list_append m_append (qv 2) (qa_cons (q_tup (qa_cons q_str (qa_cons (q_call G__law_take hr tk rfl T.f__law_take.g T.f__law_take.F.kp T.f__law_take.b .nil (fun _ => rfl) (qa_cons (qv 0) (qa_cons (q_ix hu (q_tup (qa_cons q_int (qa_cons q_int qa_nil))) (q_call G__law_take hr tk rfl T.f__law_take.g T.f__law_take.F.kp T.f__law_take.b .nil (fun _ => rfl) (qa_cons (qv 0) (qa_cons q_int qa_nil)))) qa_nil))) qa_nil))) qa_nil))))))))))
  (qss_cons (qs_if (QW.t (qw_and (qt_cmp o_gt (qv 1) q_int) (qw_and1 (qt_cmp (o_eq hu64) (q_call G__law_take hr tk rfl T.f__law_take.g T.f__law_take.F.kp T.f__law_take.b .nil (fun _ => rfl) (qa_cons (qv 0) (qa_cons q_int qa_nil))) q_int))))
  (qss_one (qs_ret (q_op (o_add false) (q_callTy c_tuple rfl T.n_tuple (by decide +kernel) (qa_cons (qv 2) qa_nil)) (q_tup (qa_cons (q_tup (qa_cons q_str (qa_cons (q_call G__law_parts hr tk rfl T.f__law_parts.g T.f__law_parts.F.kp T.f__law_parts.b .nil (fun _ => rfl) (qa_cons (qv 0) (qa_cons (q_op o_sub (qv 1) q_int) qa_nil))) (qa_cons (q_call G__law_parts hr tk rfl T.f__law_parts.g T.f__law_parts.F.kp T.f__law_parts.b .nil (fun _ => rfl) (qa_cons (qv 0) (qa_cons (q_op o_sub (qv 1) q_int) qa_nil))) qa_nil)))) qa_nil)))))
  qss_nil)
  (qss_cons (qs_setN 7 nd (q_call G__law_take hr tk rfl T.f__law_take.g T.f__law_take.F.kp T.f__law_take.b .nil (fun _ => rfl) (qa_cons (qv 0) (qa_cons (q_ix hu (q_tup (qa_cons q_int (qa_cons q_int (qa_cons q_int qa_nil)))) (q_call G__law_take hr tk rfl T.f__law_take.g T.f__law_take.F.kp T.f__law_take.b .nil (fun _ => rfl) (qa_cons (qv 0) (qa_cons q_int qa_nil)))) qa_nil))))
  (qss_cons (qs_expr (q_bm PySem.F.plainAttrs_list PySem.F.slot_list_append PySem.F.type_list_append m_append (qv 2) (qa_cons (q_tup (qa_cons q_str (qa_cons (qv 7) (qa_cons (q_call G__law_take hr tk rfl T.f__law_take.g T.f__law_take.F.kp T.f__law_take.b .nil (fun _ => rfl) (qa_cons (qv 0) (qa_cons (q_ix hu (q_tup (qa_cons q_int (qa_cons q_int (qa_cons q_int qa_nil)))) (q_call G__law_take hr tk rfl T.f__law_take.g T.f__law_take.F.kp T.f__law_take.b .nil (fun _ => rfl) (qa_cons (qv 0) (qa_cons q_int qa_nil)))) qa_nil))) qa_nil)))) qa_nil)))
  (qss_one (qs_ret (q_callTy c_tuple rfl T.n_tuple (by decide +kernel) (qa_cons (qv 2) qa_nil))))))))), hs⟩
def q__law_source (sp__law_take : DSp) : DTS :=
  (qSeq (qIfS (qTB (qOp (dEq false) (qCall sp__law_take [] (qCons (qVar 0) (qCons (qC (.int 4)) qNil))) (qC (.int 0))))
  (qRet (qTup (qCons (qC (.str (PySem.Str.ofString "pond"))) (qCons (qCall sp__law_take [] (qCons (qVar 0) (qCons (qC (.int 9)) qNil))) qNil))))
  qNext)
  (qRet (qTup (qCons (qC (.str (PySem.Str.ofString "hydrant"))) (qCons (qCall sp__law_take [] (qCons (qVar 0) (qCons (qC (.int 151)) qNil))) (qCons (qOp (dAdd false) (qC (.int 1)) (qCall sp__law_take [] (qCons (qVar 0) (qCons (qOp dIx (qTup (qCons (qC (.int 5000)) (qCons (qC (.int 1500)) qNil))) (qCall sp__law_take [] (qCons (qVar 0) (qCons (qC (.int 2)) qNil)))) qNil)))) qNil))))))
theorem dv__law_source {k : Nat} (T : Tx w K mg) {sp__law_take : DSp} (G__law_take : FnOk P w K mg base (L2.CX P w) k T.f__law_take.f T.f__law_take.fd ["_law_bag_here", "_law_many"] (toSp K sp__law_take)) {p : DSp} (hlen : ∀ ds M Q E, p ds M Q E → ds.length = 1)
    (hs : ∀ ds M Q Ed, upSp p ds M Q Ed → q__law_source sp__law_take (fun x _ M => Ed x M) (retE Q) (startD N__law_source ds) M) : FnOk P w K mg base (L2.CX P w) (k + 1) T.f__law_source.f T.f__law_source.fd ["_law_bag_here"] (toSp K p) := by
  refine (fn_ok (p := upSp p) T.f__law_source.F sc__law_source (fun ds M Q E ⟨Q0, E0, h, _⟩ => hlen ds M Q0 E0 h) fun cdv A outer s H E hr tk hp => ?_).imp fun _ _ _ _ h => imp_up h
  have nd := sc__law_source.nd
  have hu64 := hr.units
  have hu := Nat.lt_of_le_of_lt (Nat.add_le_add_left (show 1 ≤ 64 by decide) _) hu64
  exact ⟨_, q__law_source sp__law_take, (qss_cons (qs_if (qt_cmp (o_eq hu64) (q_call G__law_take hr tk rfl T.f__law_take.g T.f__law_take.F.kp T.f__law_take.b .nil (fun _ => rfl) (qa_cons (qv 0) (qa_cons q_int qa_nil))) q_int)
  (qss_one (qs_ret (q_tup (qa_cons q_str (qa_cons (q_call G__law_take hr tk rfl T.f__law_take.g T.f__law_take.F.kp T.f__law_take.b .nil (fun _ => rfl) (qa_cons (qv 0) (qa_cons q_int qa_nil))) qa_nil)))))
  qss_nil)
  (qss_one (qs_ret (q_tup (qa_cons q_str (qa_cons (q_call G__law_take hr tk rfl T.f__law_take.g T.f__law_take.F.kp T.f__law_take.b .nil (fun _ => rfl) (qa_cons (qv 0) (qa_cons q_int qa_nil))) (qa_cons (q_op (o_add false) q_int (q_call G__law_take hr tk rfl T.f__law_take.g T.f__law_take.F.kp T.f__law_take.b .nil (fun _ => rfl) (qa_cons (qv 0) (qa_cons (q_ix hu (q_tup (qa_cons q_int (qa_cons q_int qa_nil))) (q_call G__law_take hr tk rfl T.f__law_take.g T.f__law_take.F.kp T.f__law_take.b .nil (fun _ => rfl) (qa_cons (qv 0) (qa_cons q_int qa_nil)))) qa_nil)))) qa_nil))))))), hs⟩
def q__law_joins (sp__law_joins : DSp) : DTS :=
  (qSeq (qAsg (qCB (dList false) (qCons (qSl false (qVar 0) qNoPart (qPart (qUn dNeg (qC (.int 1))))) qNil)) (gNameD 1))
  (qSeq (qIfS (qTB (qOp (dEq false) (qOp dIx (qOp dIx (qVar 0) (qUn dNeg (qC (.int 1)))) (qC (.int 0))) (qC (.str (PySem.Str.ofString "nozzle")))))
  (qRet (qOp (dAdd false) (qVar 1) (qLst false (qCons (qOp dIx (qVar 0) (qUn dNeg (qC (.int 1)))) qNil))))
  qNext)
  (qSeq (qFor (qiAny (qSl false (qOp dIx (qVar 0) (qUn dNeg (qC (.int 1)))) (qPart (qC (.int 1))) qNoPart)) (gNameD 2)
  (qAsg (qOp (dAdd false) (qVar 1) (qCall sp__law_joins [] (qCons (qVar 2) qNil))) (gNameD 1)))
  (qRet (qVar 1)))))
theorem dv__law_joins {k : Nat} (T : Tx w K mg) {sp__law_joins : DSp} (G__law_joins : FnOk P w K mg base (L2.CX P w) k T.f__law_joins.f T.f__law_joins.fd ["_law_tail"] (toSp K sp__law_joins)) {p : DSp} (hlen : ∀ ds M Q E, p ds M Q E → ds.length = 1)
    (hs : ∀ ds M Q Ed, upSp p ds M Q Ed → q__law_joins sp__law_joins (fun x _ M => Ed x M) (retE Q) (startD N__law_joins ds) M) : FnOk P w K mg base (L2.CX P w) (k + 1) T.f__law_joins.f T.f__law_joins.fd ["_law_tail"] (toSp K p) := by
  refine (fn_ok (p := upSp p) T.f__law_joins.F sc__law_joins (fun ds M Q E ⟨Q0, E0, h, _⟩ => hlen ds M Q0 E0 h) fun cdv A outer s H E hr tk hp => ?_).imp fun _ _ _ _ h => imp_up h
  have nd := sc__law_joins.nd
  have hu64 := hr.units
  have hu := Nat.lt_of_le_of_lt (Nat.add_le_add_left (show 1 ≤ 64 by decide) _) hu64
  exact ⟨_, q__law_joins sp__law_joins, (qss_cons (qs_setN 1 nd (q_callTy (c_list false) rfl T.n_list (by decide +kernel) (qa_cons (q_slice false (qv 0) qo_none (qo_some (q_neg q_int))) qa_nil)))
  (qss_cons (qs_if (qt_cmp (o_eq hu64) (q_ix hu (q_ix hu (qv 0) (q_neg q_int)) q_int) q_str)
  (qss_one (qs_ret (q_op (o_add false) (qv 1) (q_lst false (qa_cons (q_ix hu (qv 0) (q_neg q_int)) qa_nil)))))
  qss_nil)
  (qss_cons (qs_for (ix := [2]) hp rfl (qi_any (q_slice false (q_ix hu (qv 0) (q_neg q_int)) (qo_some q_int) qo_none)) (qg_nm 2 nd)
  (qss_one (qs_setN 1 nd (q_op (o_add false) (qv 1) (q_call G__law_joins hr tk rfl T.f__law_joins.g T.f__law_joins.F.kp T.f__law_joins.b .nil (fun _ => rfl) (qa_cons (qv 2) qa_nil))))))
  (qss_one (qs_ret (qv 1)))))), hs⟩
def q__law_less (sp__law_less : DSp) : DTS :=
  (qSeq (qPar 2 3 (qCons (qLst true qNil) (qCons (qC (.int 0)) qNil)))
  (qSeq (qFor (qiAny (qSl false (qVar 0) qNoPart (qPart (qUn dNeg (qC (.int 1)))))) (gNameD 4)
  (qSeq (qAug 3 (qC (.int 1)) dAug)
  (qIfS (qTB (qOp (dEq true) (qVar 3) (qVar 1)))
  (qDrop (qBM "list" mApp (qVar 2) (qCons (qVar 4) qNil)))
  qNext)))
  (qSeq (qAsg (qOp dIx (qVar 0) (qUn dNeg (qC (.int 1)))) (gNameD 5))
  (qSeq (qIfS (qTB (qOp (dEq false) (qOp dIx (qVar 5) (qC (.int 0))) (qC (.str (PySem.Str.ofString "nozzle")))))
  (qRet (qTup (qCons (qOp (dAdd false) (qCB dTuple (qCons (qVar 2) qNil)) (qTup (qCons (qVar 5) qNil))) (qCons (qOp (dAdd false) (qVar 3) (qC (.int 1))) qNil))))
  qNext)
  (qSeq (qAsg (qLst true qNil) (gNameD 6))
  (qSeq (qFor (qiAny (qSl false (qVar 5) (qPart (qC (.int 1))) qNoPart)) (gNameD 7)
  (qSeq (qAsg (qCall sp__law_less [] (qCons (qVar 7) (qCons (qOp (dInt0 fun i j => i - j) (qVar 1) (qVar 3)) qNil))) (gTupD 2 (gConsD (gNameD 8) (gConsD (gNameD 9) gNilD))))
  (qSeq (qDrop (qBM "list" mApp (qVar 6) (qCons (qVar 8) qNil)))
  (qAug 3 (qVar 9) dAug))))
  (qRet (qTup (qCons (qOp (dAdd false) (qCB dTuple (qCons (qVar 2) qNil)) (qTup (qCons (qTup (qCons (qC (.str (PySem.Str.ofString "fork"))) (qCons (qOp dIx (qVar 6) (qC (.int 0))) (qCons (qOp dIx (qVar 6) (qC (.int 1))) qNil)))) qNil))) (qCons (qVar 3) qNil))))))))))
theorem dv__law_less {k : Nat} (T : Tx w K mg) {sp__law_less : DSp} (G__law_less : FnOk P w K mg base (L2.CX P w) k T.f__law_less.f T.f__law_less.fd ["_law_tail", "_law_number"] (toSp K sp__law_less)) {p : DSp} (hlen : ∀ ds M Q E, p ds M Q E → ds.length = 2)
    (hs : ∀ ds M Q Ed, upSp p ds M Q Ed → q__law_less sp__law_less (fun x _ M => Ed x M) (retE Q) (startD N__law_less ds) M) : FnOk P w K mg base (L2.CX P w) (k + 1) T.f__law_less.f T.f__law_less.fd ["_law_tail", "_law_number"] (toSp K p) := by
  refine (fn_ok (p := upSp p) T.f__law_less.F sc__law_less (fun ds M Q E ⟨Q0, E0, h, _⟩ => hlen ds M Q0 E0 h) fun cdv A outer s H E hr tk hp => ?_).imp fun _ _ _ _ h => imp_up h
  have nd := sc__law_less.nd
  have hu64 := hr.units
  have hu := Nat.lt_of_le_of_lt (Nat.add_le_add_left (show 1 ≤ 64 by decide) _) hu64
  exact ⟨_, q__law_less sp__law_less, (qss_cons (qs_parN 2 3 rfl nd (qa_cons (q_lst true qa_nil) (qa_cons q_int qa_nil)))
  (qss_cons (qs_for (ix := [4]) hp rfl (qi_any (q_slice false (qv 0) qo_none (qo_some (q_neg q_int)))) (qg_nm 4 nd)
  (qss_cons (qs_augN 3 nd q_int)
  (qss_one (qs_if (qt_cmp (o_ne hu64) (qv 3) (qv 1))
  (qss_one (qs_expr (q_bm PySem.F.plainAttrs_list PySem.F.slot_list_append PySem.F.type_list_append m_append (qv 2) (qa_cons (qv 4) qa_nil))))
  qss_nil))))
  (qss_cons (qs_setN 5 nd (q_ix hu (qv 0) (q_neg q_int)))
  (qss_cons (qs_if (qt_cmp (o_eq hu64) (q_ix hu (qv 5) q_int) q_str)
  (qss_one (qs_ret (q_tup (qa_cons (q_op (o_add false) (q_callTy c_tuple rfl T.n_tuple (by decide +kernel) (qa_cons (qv 2) qa_nil)) (q_tup (qa_cons (qv 5) qa_nil))) (qa_cons (q_op (o_add false) (qv 3) q_int) qa_nil)))))
  qss_nil)
  (qss_cons (qs_setN 6 nd (q_lst true qa_nil))
  (qss_cons (qs_for (ix := [7]) hp rfl (qi_any (q_slice false (qv 5) (qo_some q_int) qo_none)) (qg_nm 7 nd)
  (qss_cons (qs_asg (ix := [8, 9]) (q_call G__law_less hr tk rfl T.f__law_less.g T.f__law_less.F.kp T.f__law_less.b .nil (fun _ => rfl) (qa_cons (qv 7) (qa_cons (q_op o_sub (qv 1) (qv 3)) qa_nil))) (qg_tup rfl (qgs_cons (qg_nm 8 nd) (qgs_cons (qg_nm 9 nd) qgs_nil))))
  (qss_cons (qs_expr (q_bm PySem.F.plainAttrs_list PySem.F.slot_list_append PySem.F.type_list_append m_append (qv 6) (qa_cons (qv 8) qa_nil)))
  (qss_one (qs_augN 3 nd (qv 9))))))
  (qss_one (qs_ret (q_tup (qa_cons (q_op (o_add false) (q_callTy c_tuple rfl T.n_tuple (by decide +kernel) (qa_cons (qv 2) qa_nil)) (q_tup (qa_cons (q_tup (qa_cons q_str (qa_cons (q_ix hu (qv 6) q_int) (qa_cons (q_ix hu (qv 6) q_int) qa_nil)))) qa_nil))) (qa_cons (qv 3) qa_nil))))))))))), hs⟩
def q__law_told (c_Line : Addr) (c_NoJoin : Addr) (sp_Line_without : DSp) (sp__law_which_NoJoin : Addr → Option Addr → DSp) : DTS :=
  (qTryAs c_NoJoin 3
  (qRet (qIf (qTB (qOp (dEq false) (qVar 2) (qC (.int 0)))) (qMeth c_Line F_Line sp_Line_without [] (qVar 0) (qCons (qVar 1) qNil)) (qMethKw c_Line F_Line 1 1 sp_Line_without [0, 1] (qVar 0) qNil (qCons (qVar 1) qNil))))
  fun a_ d_ => (qRet (qIf (qAnd (qTB (qOp (dEq false) (qCall (sp__law_which_NoJoin a_ d_) [] (qCons (qVar 3) qNil)) (qC (.str (PySem.Str.ofString "NoJoin"))))) (qTB (qCB (dIsX a_ d_ true (.ty "IndexError")) (qCons (qVar 3) (qCons (qC (.ty "IndexError")) qNil))))) (qTup (qCons (qXf a_ d_ (PySem.Str.ofString "join") (qVar 3)) qNil)) (qC .non))))
theorem dv__law_told {k : Nat} (T : Tx w K mg) {sp_Line_without : DSp} (G_Line_without : FnOk P w K mg base (L2.CX P w) k T.f_Line_without.f T.f_Line_without.fd ["self", "join"] (toSp K sp_Line_without)) {sp__law_which_NoJoin : Addr → Option Addr → DSp} (G__law_which_NoJoin : ∀ (a : Addr) (oe : Obj) (d : Option Addr), Zc (.ref T.c_NoJoin.C) d oe → (∃ vs, oe.data = .fields vs) → FnW P w K mg base (L2.CX P w) k T.f__law_which.f T.f__law_which.fd ["_law_e"] (toSp K (sp__law_which_NoJoin a d)) (a, oe)) {p : DSp} (hlen : ∀ ds M Q E, p ds M Q E → ds.length = 3)
    (hs : ∀ ds M Q Ed, upSp p ds M Q Ed → q__law_told T.c_Line.C T.c_NoJoin.C sp_Line_without sp__law_which_NoJoin (fun x _ M => Ed x M) (retE Q) (startD N__law_told ds) M) : FnOk P w K mg base (L2.CX P w) (k + 1) T.f__law_told.f T.f__law_told.fd ["_law_line", "_law_knot", "_law_way"] (toSp K p) := by
  refine (fn_ok (p := upSp p) T.f__law_told.F sc__law_told (fun ds M Q E ⟨Q0, E0, h, _⟩ => hlen ds M Q0 E0 h) fun cdv A outer s H E hr tk hp => ?_).imp fun _ _ _ _ h => imp_up h
  have nd := sc__law_told.nd
  have hu64 := hr.units
  have hu := Nat.lt_of_le_of_lt (Nat.add_le_add_left (show 1 ≤ 64 by decide) _) hu64
  exact ⟨_, q__law_told T.c_Line.C T.c_NoJoin.C sp_Line_without sp__law_which_NoJoin, (qss_one (qs_tryAs 3 tk nd T.c_NoJoin.te T.c_NoJoin.g (fun W pn xe tk hp => ⟨_, (qss_one (qs_ret (q_if (qt_cmp (o_eq hu64) (qv 2) q_int) (q_meth (dds := []) (fs := F_Line) T.c_Line.cl T.f_Line_without.m G_Line_without hr tk T.f_Line_without.b .nil (fun _ => rfl) (qv 0) (qa_cons (qv 1) qa_nil) (by decide +kernel)) (q_methK0 (ks := ["join"]) (idx := [0, 1]) (fs := F_Line) T.c_Line.cl T.f_Line_without.m G_Line_without hr tk T.kw_Line_without_1_join (qv 0) (qk_cons (qv 1) qk_nil) (by decide +kernel)))))⟩) (fun a oe d pn hz hf => ⟨_, (qss_one (qs_ret (q_if (QW.t (qw_and (qt_cmp (o_eq hu64) (q_callW (G__law_which_NoJoin a oe d hz hf) ⟨hr.dp, hr.un⟩ List.mem_cons_self takes0 rfl T.f__law_which.g T.f__law_which.F.kp T.f__law_which.b (qa_cons (qv 3) qa_nil)) q_str) (qw_and1 (qt_val (q_callB (c_isX1 (b := true) T.c_NoJoin.kx hz hf rfl T.i_0) rfl T.n_isinstance (by decide +kernel) (qa_cons (qv 3) (qa_cons (qe_c (pe_bltn (v := .ty "IndexError") rfl T.n_IndexError (by decide +kernel) rfl) fun _ => rfl) qa_nil))))))) (q_tup (qa_cons (q_xf T.c_NoJoin.xf (T.c_NoJoin.no _ (by simp)) hz hf (qv 3)) qa_nil)) q_non)))⟩))), hs⟩
def q__law_same : DTS :=
  (qRet (qAndV (qOp (dEq false) (qCB dIsi (qCons (qVar 0) (qCons (qC (.ty "bool")) qNil))) (qCB dIsi (qCons (qVar 1) (qCons (qC (.ty "bool")) qNil)))) (qOp (dEq false) (qVar 0) (qVar 1))))
theorem dv__law_same {k : Nat} (T : Tx w K mg) {p : DSp} (hlen : ∀ ds M Q E, p ds M Q E → ds.length = 2)
    (hs : ∀ ds M Q Ed, upSp p ds M Q Ed → q__law_same (fun x _ M => Ed x M) (retE Q) (startD N__law_same ds) M) : FnOk P w K mg base (L2.CX P w) (k + 1) T.f__law_same.f T.f__law_same.fd ["_law_one", "_law_other"] (toSp K p) := by
  refine (fn_ok (p := upSp p) T.f__law_same.F sc__law_same (fun ds M Q E ⟨Q0, E0, h, _⟩ => hlen ds M Q0 E0 h) fun cdv A outer s H E hr tk hp => ?_).imp fun _ _ _ _ h => imp_up h
  have nd := sc__law_same.nd
  have hu64 := hr.units
  have hu := Nat.lt_of_le_of_lt (Nat.add_le_add_left (show 1 ≤ 64 by decide) _) hu64
  exact ⟨_, q__law_same, (qss_one (qs_ret (q_and (q_cmp (o_eq hu64) (q_callB c_isi rfl T.n_isinstance (by decide +kernel) (qa_cons (qv 0) (qa_cons (qe_c (pe_bltn (v := .ty "bool") rfl T.n_bool (by decide +kernel) rfl) fun _ => rfl) qa_nil))) (q_callB c_isi rfl T.n_isinstance (by decide +kernel) (qa_cons (qv 1) (qa_cons (qe_c (pe_bltn (v := .ty "bool") rfl T.n_bool (by decide +kernel) rfl) fun _ => rfl) qa_nil)))) (q_one (q_cmp (o_eq hu64) (qv 0) (qv 1)))))), hs⟩
def q_law (c_Line : Addr) (sp_Line___eq__ : DSp) (sp_Line___init__ : DSp) (sp__law_any : DSp) (sp__law_bag : DSp) (sp__law_joins : DSp) (sp__law_less : DSp) (sp__law_parts : DSp) (sp__law_same : DSp) (sp__law_source : DSp) (sp__law_told : DSp) : DTS :=
  (qSeq (qFor (qiRng1 (qCons (qCB dMax2 (qCons (qC (.int 3)) (qCons (qCB dMin2 (qCons (qC (.int 8)) (qCons (qCB dLen (qCons (qVar 0) qNil)) qNil))) qNil))) qNil)) (gNameD 1)
  (qSeq (qAsg (qCall sp__law_bag [] (qCons (qVar 0) (qCons (qVar 1) qNil))) (gNameD 2))
  (qSeq (qPar 3 4 (qCons (qCall sp__law_source [] (qCons (qVar 2) qNil)) (qCons (qCall sp__law_parts [] (qCons (qVar 2) (qCons (qC (.int 3)) qNil))) qNil)))
  (qSeq (qPar 5 6 (qCons (qFrzE (qMake c_Line sp_Line___init__ [] (qCons (qVar 3) (qCons (qVar 4) qNil)))) (qCons (qCall sp__law_joins [] (qCons (qVar 4) qNil)) qNil)))
  (qSeq (qFor (qiRng2 (qCons (qC (.int 1)) (qCons (qOp (dAdd false) (qCB dLen (qCons (qVar 6) qNil)) (qC (.int 1))) qNil))) (gNameD 7)
  (qSeq (qAsg (qCall sp__law_told [] (qCons (qVar 5) (qCons (qVar 7) (qCons (qOp (dInt (fun _ j => 0 < j) fun i j => i % j) (qVar 7) (qC (.int 2))) qNil)))) (gNameD 8))
  (qSeq (qIfS (qTB (qOp (dEq false) (qOp dIx (qOp dIx (qVar 6) (qOp (dInt0 fun i j => i - j) (qVar 7) (qC (.int 1)))) (qC (.int 0))) (qC (.str (PySem.Str.ofString "nozzle")))))
  (qIfS (qOr (qNot (qTB (qCB dIsi (qCons (qVar 8) (qCons (qC (.ty "tuple")) qNil))))) (qTB (qOp (dEq true) (qVar 8) (qTup (qCons (qVar 7) qNil)))))
  (qRet (qC (.bl false)))
  qNext)
  (qIfS (qOr (qNot (qTB (qCB (dIsO c_Line) (qCons (qVar 8) (qCons (qC (.ref c_Line)) qNil))))) (qTB (qOp (dOwn true c_Line sp_Line___eq__) (qVar 8) (qFrzE (qMake c_Line sp_Line___init__ [] (qCons (qVar 3) (qCons (qOp dIx (qCall sp__law_less [] (qCons (qVar 4) (qCons (qVar 7) qNil))) (qC (.int 0))) qNil)))))))
  (qRet (qC (.bl false)))
  qNext))
  (qIfS (qTB (qOp (dOwn true c_Line sp_Line___eq__) (qVar 5) (qFrzE (qMake c_Line sp_Line___init__ [] (qCons (qVar 3) (qCons (qVar 4) qNil))))))
  (qRet (qC (.bl false)))
  qNext))))
  (qFor (qiAny (qLst false (qCons (qC (.int 0)) (qCons (qUn dNeg (qC (.int 1))) (qCons (qOp (dAdd false) (qCB dLen (qCons (qVar 6) qNil)) (qC (.int 1))) (qCons (qC (.bl true)) (qCons (qC .non) (qCons (qC (.str (PySem.Str.ofString "1"))) (qCons (qLst false (qCons (qC (.int 1)) qNil)) (qCons (qCall sp__law_any [] (qCons (qVar 2) qNil)) (qCons (qTup (qCons (qLst false qNil) qNil)) qNil))))))))))) (gNameD 9)
  (qSeq (qAsg (qCall sp__law_told [] (qCons (qVar 5) (qCons (qVar 9) (qCons (qC (.int 0)) qNil)))) (gNameD 8))
  (qSeq (qAsg (qAndV (qCB dIsi (qCons (qVar 9) (qCons (qC (.ty "int")) qNil))) (qAndV (qNotV (qCB dIsi (qCons (qVar 9) (qCons (qC (.ty "bool")) qNil)))) (qChain (dCmpI fun i j => decide (i ≤ j)) (dCmpI fun i j => decide (i ≤ j)) (qC (.int 1)) (qVar 9) (qCB dLen (qCons (qVar 6) qNil))))) (gNameD 10))
  (qIfS (qAnd (qNot (qTB (qVar 10))) (qOr (qNot (qTB (qCB dIsi (qCons (qVar 8) (qCons (qC (.ty "tuple")) qNil))))) (qNot (qTB (qCall sp__law_same [] (qCons (qOp dIx (qVar 8) (qC (.int 0))) (qCons (qVar 9) qNil)))))))
  (qRet (qC (.bl false)))
  qNext)))))))))
  (qRet (qC (.bl true))))
theorem dv_law {k : Nat} (T : Tx w K mg) {ki_Line : Nat} (hi_Line : ki_Line + 1 ≤ k) {ke_Line : Nat} (he_Line : ke_Line + 1 ≤ k) {sp_Line___eq__ : DSp} (G_Line___eq__ : FnOk P w K mg base (L2.CX P w) ke_Line T.f_Line___eq__.f T.f_Line___eq__.fd ["self", "other"] (toSp K sp_Line___eq__)) {sp_Line___init__ : DSp} (G_Line___init__ : FnOk P w K mg base (L2.CX P w) ki_Line T.f_Line___init__.f T.f_Line___init__.fd ["self", "source", "parts"] (toSp K sp_Line___init__)) {sp__law_any : DSp} (G__law_any : FnOk P w K mg base (L2.CX P w) k T.f__law_any.f T.f__law_any.fd ["_law_bag_here"] (toSp K sp__law_any)) {sp__law_bag : DSp} (G__law_bag : FnOk P w K mg base (L2.CX P w) k T.f__law_bag.f T.f__law_bag.fd ["_law_script", "_law_at"] (toSp K sp__law_bag)) {sp__law_joins : DSp} (G__law_joins : FnOk P w K mg base (L2.CX P w) k T.f__law_joins.f T.f__law_joins.fd ["_law_tail"] (toSp K sp__law_joins)) {sp__law_less : DSp} (G__law_less : FnOk P w K mg base (L2.CX P w) k T.f__law_less.f T.f__law_less.fd ["_law_tail", "_law_number"] (toSp K sp__law_less)) {sp__law_parts : DSp} (G__law_parts : FnOk P w K mg base (L2.CX P w) k T.f__law_parts.f T.f__law_parts.fd ["_law_bag_here", "_law_forks"] (toSp K sp__law_parts)) {sp__law_same : DSp} (G__law_same : FnOk P w K mg base (L2.CX P w) k T.f__law_same.f T.f__law_same.fd ["_law_one", "_law_other"] (toSp K sp__law_same)) {sp__law_source : DSp} (G__law_source : FnOk P w K mg base (L2.CX P w) k T.f__law_source.f T.f__law_source.fd ["_law_bag_here"] (toSp K sp__law_source)) {sp__law_told : DSp} (G__law_told : FnOk P w K mg base (L2.CX P w) k T.f__law_told.f T.f__law_told.fd ["_law_line", "_law_knot", "_law_way"] (toSp K sp__law_told)) {p : DSp} (hlen : ∀ ds M Q E, p ds M Q E → ds.length = 1)
    (hs : ∀ ds M Q Ed, upSp p ds M Q Ed → q_law T.c_Line.C sp_Line___eq__ sp_Line___init__ sp__law_any sp__law_bag sp__law_joins sp__law_less sp__law_parts sp__law_same sp__law_source sp__law_told (fun x _ M => Ed x M) (retE Q) (startD N_law ds) M) : FnOk P w K mg base (L2.CX P w) (k + 1) T.f_law.f T.f_law.fd ["_law_script"] (toSp K p) := by
  refine (fn_ok (p := upSp p) T.f_law.F sc_law (fun ds M Q E ⟨Q0, E0, h, _⟩ => hlen ds M Q0 E0 h) fun cdv A outer s H E hr tk hp => ?_).imp fun _ _ _ _ h => imp_up h
  have nd := sc_law.nd
  have hu64 := hr.units
  have hu := Nat.lt_of_le_of_lt (Nat.add_le_add_left (show 1 ≤ 64 by decide) _) hu64
  exact ⟨_, q_law T.c_Line.C sp_Line___eq__ sp_Line___init__ sp__law_any sp__law_bag sp__law_joins sp__law_less sp__law_parts sp__law_same sp__law_source sp__law_told, (qss_cons (qs_for (ix := [1]) hp rfl (qi_range1 rfl T.n_range (qa_cons (q_callB (c_max2 rfl) rfl T.n_max (by decide +kernel) (qa_cons q_int (qa_cons (q_callB (c_min2 rfl) rfl T.n_min (by decide +kernel) (qa_cons q_int (qa_cons (q_callB c_len rfl T.n_len (by decide +kernel) (qa_cons (qv 0) qa_nil)) qa_nil))) qa_nil))) qa_nil)) (qg_nm 1 nd)
  (qss_cons (qs_setN 2 nd (q_call G__law_bag hr tk rfl T.f__law_bag.g T.f__law_bag.F.kp T.f__law_bag.b .nil (fun _ => rfl) (qa_cons (qv 0) (qa_cons (qv 1) qa_nil))))
  (qss_cons (qs_parN 3 4 rfl nd (qa_cons (q_call G__law_source hr tk rfl T.f__law_source.g T.f__law_source.F.kp T.f__law_source.b .nil (fun _ => rfl) (qa_cons (qv 2) qa_nil)) (qa_cons (q_call G__law_parts hr tk rfl T.f__law_parts.g T.f__law_parts.F.kp T.f__law_parts.b .nil (fun _ => rfl) (qa_cons (qv 2) (qa_cons q_int qa_nil))) qa_nil)))
  (qss_cons (qs_parN 5 6 rfl nd (qa_cons (q_frzE (q_make (dds := []) (T.mk_Line) G_Line___init__ (hr.mono hi_Line) tk rfl T.c_Line.g T.f_Line___init__.b .nil (fun _ => rfl) (qa_cons (qv 3) (qa_cons (qv 4) qa_nil)))) (qa_cons (q_call G__law_joins hr tk rfl T.f__law_joins.g T.f__law_joins.F.kp T.f__law_joins.b .nil (fun _ => rfl) (qa_cons (qv 4) qa_nil)) qa_nil)))
  (qss_cons (qs_for (ix := [7]) hp rfl (qi_range2 rfl T.n_range (qa_cons q_int (qa_cons (q_op (o_add false) (q_callB c_len rfl T.n_len (by decide +kernel) (qa_cons (qv 6) qa_nil)) q_int) qa_nil))) (qg_nm 7 nd)
  (qss_cons (qs_setN 8 nd (q_call G__law_told hr tk rfl T.f__law_told.g T.f__law_told.F.kp T.f__law_told.b .nil (fun _ => rfl) (qa_cons (qv 5) (qa_cons (qv 7) (qa_cons (q_op o_mod (qv 7) q_int) qa_nil)))))
  (qss_cons (qs_if (qt_cmp (o_eq hu64) (q_ix hu (q_ix hu (qv 6) (q_op o_sub (qv 7) q_int)) q_int) q_str)
  (qss_one (qs_if (QW.t (qw_or (qt_not (qt_val (q_callB c_isi rfl T.n_isinstance (by decide +kernel) (qa_cons (qv 8) (qa_cons (qe_c (pe_bltn (v := .ty "tuple") rfl T.n_tuple (by decide +kernel) rfl) fun _ => rfl) qa_nil))))) (qw_or1 (qt_cmp (o_ne hu64) (qv 8) (q_tup (qa_cons (qv 7) qa_nil))))))
  (qss_one (qs_ret q_bl))
  qss_nil))
  (qss_one (qs_if (QW.t (qw_or (qt_not (qt_val (q_callB (c_isO T.s_Line) rfl T.n_isinstance (by decide +kernel) (qa_cons (qv 8) (qa_cons (q_cls T.c_Line.g) qa_nil))))) (qw_or1 (qt_cmp (o_ownNe G_Line___eq__ T.f_Line___eq__.m T.ne_Line T.ob_Line T.f_Line___eq__.b (hr.mono he_Line)) (qv 8) (q_frzE (q_make (dds := []) (T.mk_Line) G_Line___init__ (hr.mono hi_Line) tk rfl T.c_Line.g T.f_Line___init__.b .nil (fun _ => rfl) (qa_cons (qv 3) (qa_cons (q_ix hu (q_call G__law_less hr tk rfl T.f__law_less.g T.f__law_less.F.kp T.f__law_less.b .nil (fun _ => rfl) (qa_cons (qv 4) (qa_cons (qv 7) qa_nil))) q_int) qa_nil))))))))
  (qss_one (qs_ret q_bl))
  qss_nil)))
  (qss_one (qs_if (qt_cmp (o_ownNe G_Line___eq__ T.f_Line___eq__.m T.ne_Line T.ob_Line T.f_Line___eq__.b (hr.mono he_Line)) (qv 5) (q_frzE (q_make (dds := []) (T.mk_Line) G_Line___init__ (hr.mono hi_Line) tk rfl T.c_Line.g T.f_Line___init__.b .nil (fun _ => rfl) (qa_cons (qv 3) (qa_cons (qv 4) qa_nil)))))
  (qss_one (qs_ret q_bl))
  qss_nil)))))
  (qss_one (qs_for (ix := [9]) hp rfl (qi_any (q_lst false (qa_cons q_int (qa_cons (q_neg q_int) (qa_cons (q_op (o_add false) (q_callB c_len rfl T.n_len (by decide +kernel) (qa_cons (qv 6) qa_nil)) q_int) (qa_cons q_bl (qa_cons q_non (qa_cons q_str (qa_cons (q_lst false (qa_cons q_int qa_nil)) (qa_cons (q_call G__law_any hr tk rfl T.f__law_any.g T.f__law_any.F.kp T.f__law_any.b .nil (fun _ => rfl) (qa_cons (qv 2) qa_nil)) (qa_cons (q_tup (qa_cons (q_lst false qa_nil) qa_nil)) qa_nil))))))))))) (qg_nm 9 nd)
  (qss_cons (qs_setN 8 nd (q_call G__law_told hr tk rfl T.f__law_told.g T.f__law_told.F.kp T.f__law_told.b .nil (fun _ => rfl) (qa_cons (qv 5) (qa_cons (qv 9) (qa_cons q_int qa_nil)))))
  (qss_cons (qs_setN 10 nd (q_and (q_callB c_isi rfl T.n_isinstance (by decide +kernel) (qa_cons (qv 9) (qa_cons (qe_c (pe_bltn (v := .ty "int") rfl T.n_int (by decide +kernel) rfl) fun _ => rfl) qa_nil))) (q_and (q_not (q_callB c_isi rfl T.n_isinstance (by decide +kernel) (qa_cons (qv 9) (qa_cons (qe_c (pe_bltn (v := .ty "bool") rfl T.n_bool (by decide +kernel) rfl) fun _ => rfl) qa_nil)))) (q_one (q_chain o_le o_le q_int (qv 9) (q_callB c_len rfl T.n_len (by decide +kernel) (qa_cons (qv 6) qa_nil)))))))
  (qss_one (qs_if (QW.t (qw_and (qt_not (qt_val (qv 10))) (qw_and1 (QW.t (qw_or (qt_not (qt_val (q_callB c_isi rfl T.n_isinstance (by decide +kernel) (qa_cons (qv 8) (qa_cons (qe_c (pe_bltn (v := .ty "tuple") rfl T.n_tuple (by decide +kernel) rfl) fun _ => rfl) qa_nil))))) (qw_or1 (qt_not (qt_val (q_call G__law_same hr tk rfl T.f__law_same.g T.f__law_same.F.kp T.f__law_same.b .nil (fun _ => rfl) (qa_cons (q_ix hu (qv 8) q_int) (qa_cons (qv 9) qa_nil)))))))))))
  (qss_one (qs_ret q_bl))
  qss_nil)))))))))))
  (qss_one (qs_ret q_bl))), hs⟩
end
theorem all_mk {l : PySem.W.OpenLaw} {w : World} {K : PySem.W.Frag} {h : Heap} {mg : Str → Option Value} {fa f0 f1 f2 f3 f4 f5 f6 f7 f8 f9 f10 f11 f12 f13 f14 f15 f16 f17 f18 f19 f20 f21 : Addr} (X : K.In h) (G : h.Ns mainGlobals mg) (hfa : mg "law" = some (.ref fa))
    {od0 an0 od1 an1 od2 an2 od3 an3 od4 an4 od5 an5 od6 an6 od7 an7 od8 an8 od9 an9 od10 an10 od11 an11 od12 an12 od13 an13 od14 an14 od15 an15 od16 an16 od17 an17 od18 an18 od19 an19 od20 an20 od21 an21 : Option Addr} {sl0 sl1 sl2 sl3 sl4 sl5 sl6 sl7 sl8 sl9 sl10 sl11 sl12 sl13 sl14 sl15 sl16 sl17 sl18 sl19 sl20 sl21 : Array (Option Value)} {oc0 kV0 dc0 pm0 cd0 ct0 oc1 kV1 dc1 pm1 cd1 ct1 oc2 kV2 dc2 pm2 cd2 ct2 oc3 kV3 dc3 pm3 cd3 ct3 oc4 kV4 dc4 pm4 cd4 ct4 oc5 kV5 dc5 pm5 cd5 ct5 oc6 kV6 dc6 pm6 cd6 ct6 oc7 kV7 dc7 pm7 cd7 ct7 oc8 kV8 dc8 pm8 cd8 ct8 oc9 kV9 dc9 pm9 cd9 ct9 oc10 kV10 dc10 pm10 cd10 ct10 oc11 kV11 dc11 pm11 cd11 ct11 oc12 kV12 dc12 pm12 cd12 ct12 oc13 kV13 dc13 pm13 cd13 ct13 oc14 kV14 dc14 pm14 cd14 ct14 oc15 kV15 dc15 pm15 cd15 ct15 oc16 kV16 dc16 pm16 cd16 ct16 oc17 kV17 dc17 pm17 cd17 ct17 oc18 kV18 dc18 pm18 cd18 ct18 oc19 kV19 dc19 pm19 cd19 ct19 oc20 kV20 dc20 pm20 cd20 ct20 oc21 kV21 dc21 pm21 cd21 ct21 : Value}
    {oC0 : Addr} (oa0 : PySem.W.nsIn K mainGlobals "Line" = some (some (.ref oC0)))
    (qne0 : PySem.W.findIn K (.ref oC0) "__ne__" = some (some (.builtin "object.__ne__")))
    (qob0 : PySem.W.mroIn K oC0 (.type "object") = some true)
    (opg0 : PySem.W.plainGet K oC0 Str.empty = true)
    (ohd0 : PySem.W.hasDictIn K oC0 = true)
    (opo0 : PySem.W.plainOver K oC0 = true)
    (osa0 : PySem.W.findIn K (.ref oC0) "__setattr__" = some (some (.builtin "object.__setattr__")))
    (on0_0 : PySem.W.findIn K (.ref oC0) "source" = some none)
    (on1_0 : PySem.W.findIn K (.ref oC0) "parts" = some none)
    (omk0 : PySem.W.makesIn K oC0 = true)
    (okc0 : PySem.W.keepIn K (.ref oC0) = true)
    (oha0 : PySem.W.findIn K (.ref oC0) "__class__" = some (some (.builtin "object.__class__")))
    (ohn0 : PySem.W.specialIn K (.builtin "object.__class__") "__get__" = some (some (.builtin "getset_descriptor.__get__")))
    (oht0 : PySem.W.takesIn K (.builtin "object.__class__") = some true)
    (ohm0 : PySem.W.mroIn K oC0 (.type "object") = some true)
    (kio0 : PySem.W.kitOne K (.ref oC0) (.ref oC0) = some true)
    (ki0o0 : PySem.W.kitOne K (.type "NoneType") (.ref oC0) = some false)
    (ki1o0 : PySem.W.kitOne K (.type "bool") (.ref oC0) = some false)
    (ki2o0 : PySem.W.kitOne K (.type "int") (.ref oC0) = some false)
    (ki3o0 : PySem.W.kitOne K (.type "str") (.ref oC0) = some false)
    (ki4o0 : PySem.W.kitOne K (.type "tuple") (.ref oC0) = some false)
    (ki5o0 : PySem.W.kitOne K (.type "list") (.ref oC0) = some false)
    (ki6o0 : PySem.W.kitOne K (.type "dict") (.ref oC0) = some false)
    (a0 : PySem.W.nsIn K mainGlobals "is_whole" = some (some (.ref f0)))
    (l0 : K.lookup f0 = some ⟨oc0, od0, .func (PySem.W.fnOf "is_whole" "is_whole" (defArgs s_is_whole) (defBody s_is_whole) (defScope s_is_whole) .none kV0 dc0 pm0 an0 cd0 ct0), sl0⟩) (c0 : PySem.W.codeIn K cd0 "is_whole" = true) (k0 : PySem.W.keepIn K (.ref f0) = true)
    (a1 : PySem.W.nsIn K mainGlobals "is_tuple_of" = some (some (.ref f1)))
    (l1 : K.lookup f1 = some ⟨oc1, od1, .func (PySem.W.fnOf "is_tuple_of" "is_tuple_of" (defArgs s_is_tuple_of) (defBody s_is_tuple_of) (defScope s_is_tuple_of) .none kV1 dc1 pm1 an1 cd1 ct1), sl1⟩) (c1 : PySem.W.codeIn K cd1 "is_tuple_of" = true) (k1 : PySem.W.keepIn K (.ref f1) = true)
    (a2 : PySem.W.nsIn K mainGlobals "is_source" = some (some (.ref f2)))
    (l2 : K.lookup f2 = some ⟨oc2, od2, .func (PySem.W.fnOf "is_source" "is_source" (defArgs s_is_source) (defBody s_is_source) (defScope s_is_source) .none kV2 dc2 pm2 an2 cd2 ct2), sl2⟩) (c2 : PySem.W.codeIn K cd2 "is_source" = true) (k2 : PySem.W.keepIn K (.ref f2) = true)
    (a3 : PySem.W.nsIn K mainGlobals "is_middle" = some (some (.ref f3)))
    (l3 : K.lookup f3 = some ⟨oc3, od3, .func (PySem.W.fnOf "is_middle" "is_middle" (defArgs s_is_middle) (defBody s_is_middle) (defScope s_is_middle) .none kV3 dc3 pm3 an3 cd3 ct3), sl3⟩) (c3 : PySem.W.codeIn K cd3 "is_middle" = true) (k3 : PySem.W.keepIn K (.ref f3) = true)
    (a4 : PySem.W.nsIn K mainGlobals "is_end" = some (some (.ref f4)))
    (l4 : K.lookup f4 = some ⟨oc4, od4, .func (PySem.W.fnOf "is_end" "is_end" (defArgs s_is_end) (defBody s_is_end) (defScope s_is_end) .none kV4 dc4 pm4 an4 cd4 ct4), sl4⟩) (c4 : PySem.W.codeIn K cd4 "is_end" = true) (k4 : PySem.W.keepIn K (.ref f4) = true)
    (a5 : PySem.W.nsIn K mainGlobals "wrong_part" = some (some (.ref f5)))
    (l5 : K.lookup f5 = some ⟨oc5, od5, .func (PySem.W.fnOf "wrong_part" "wrong_part" (defArgs s_wrong_part) (defBody s_wrong_part) (defScope s_wrong_part) .none kV5 dc5 pm5 an5 cd5 ct5), sl5⟩) (c5 : PySem.W.codeIn K cd5 "wrong_part" = true) (k5 : PySem.W.keepIn K (.ref f5) = true)
    (a6 : PySem.W.nsIn K mainGlobals "joins_of" = some (some (.ref f6)))
    (l6 : K.lookup f6 = some ⟨oc6, od6, .func (PySem.W.fnOf "joins_of" "joins_of" (defArgs s_joins_of) (defBody s_joins_of) (defScope s_joins_of) .none kV6 dc6 pm6 an6 cd6 ct6), sl6⟩) (c6 : PySem.W.codeIn K cd6 "joins_of" = true) (k6 : PySem.W.keepIn K (.ref f6) = true)
    (a7 : PySem.W.nsIn K mainGlobals "parts_without" = some (some (.ref f7)))
    (l7 : K.lookup f7 = some ⟨oc7, od7, .func (PySem.W.fnOf "parts_without" "parts_without" (defArgs s_parts_without) (defBody s_parts_without) (defScope s_parts_without) .none kV7 dc7 pm7 an7 cd7 ct7), sl7⟩) (c7 : PySem.W.codeIn K cd7 "parts_without" = true) (k7 : PySem.W.keepIn K (.ref f7) = true)
    (a8 : PySem.W.findIn K (.ref oC0) "__init__" = some (some (.ref f8))) (b8 : PySem.W.isFn K (.ref f8) = true)
    (l8 : K.lookup f8 = some ⟨oc8, od8, .func (PySem.W.fnOf "__init__" "Line.__init__" (defArgs s_Line___init__) (defBody s_Line___init__) (defScope s_Line___init__) .none kV8 dc8 pm8 an8 cd8 ct8), sl8⟩) (c8 : PySem.W.codeIn K cd8 "Line.__init__" = true) (k8 : PySem.W.keepIn K (.ref f8) = true)
    (a9 : PySem.W.findIn K (.ref oC0) "__eq__" = some (some (.ref f9))) (b9 : PySem.W.isFn K (.ref f9) = true)
    (l9 : K.lookup f9 = some ⟨oc9, od9, .func (PySem.W.fnOf "__eq__" "Line.__eq__" (defArgs s_Line___eq__) (defBody s_Line___eq__) (defScope s_Line___eq__) .none kV9 dc9 pm9 an9 cd9 ct9), sl9⟩) (c9 : PySem.W.codeIn K cd9 "Line.__eq__" = true) (k9 : PySem.W.keepIn K (.ref f9) = true)
    (a10 : PySem.W.findIn K (.ref oC0) "without" = some (some (.ref f10))) (b10 : PySem.W.isFn K (.ref f10) = true)
    (l10 : K.lookup f10 = some ⟨oc10, od10, .func (PySem.W.fnOf "without" "Line.without" (defArgs s_Line_without) (defBody s_Line_without) (defScope s_Line_without) .none kV10 dc10 pm10 an10 cd10 ct10), sl10⟩) (c10 : PySem.W.codeIn K cd10 "Line.without" = true) (k10 : PySem.W.keepIn K (.ref f10) = true)
    (a11 : PySem.W.nsIn K mainGlobals "_law_bag" = some (some (.ref f11)))
    (l11 : K.lookup f11 = some ⟨oc11, od11, .func (PySem.W.fnOf "_law_bag" "_law_bag" (defArgs s__law_bag) (defBody s__law_bag) (defScope s__law_bag) .none kV11 dc11 pm11 an11 cd11 ct11), sl11⟩) (c11 : PySem.W.codeIn K cd11 "_law_bag" = true) (k11 : PySem.W.keepIn K (.ref f11) = true)
    (a12 : PySem.W.nsIn K mainGlobals "_law_take" = some (some (.ref f12)))
    (l12 : K.lookup f12 = some ⟨oc12, od12, .func (PySem.W.fnOf "_law_take" "_law_take" (defArgs s__law_take) (defBody s__law_take) (defScope s__law_take) .none kV12 dc12 pm12 an12 cd12 ct12), sl12⟩) (c12 : PySem.W.codeIn K cd12 "_law_take" = true) (k12 : PySem.W.keepIn K (.ref f12) = true)
    (a13 : PySem.W.nsIn K mainGlobals "_law_any" = some (some (.ref f13)))
    (l13 : K.lookup f13 = some ⟨oc13, od13, .func (PySem.W.fnOf "_law_any" "_law_any" (defArgs s__law_any) (defBody s__law_any) (defScope s__law_any) .none kV13 dc13 pm13 an13 cd13 ct13), sl13⟩) (c13 : PySem.W.codeIn K cd13 "_law_any" = true) (k13 : PySem.W.keepIn K (.ref f13) = true)
    (a14 : PySem.W.nsIn K mainGlobals "_law_parts" = some (some (.ref f14)))
    (l14 : K.lookup f14 = some ⟨oc14, od14, .func (PySem.W.fnOf "_law_parts" "_law_parts" (defArgs s__law_parts) (defBody s__law_parts) (defScope s__law_parts) .none kV14 dc14 pm14 an14 cd14 ct14), sl14⟩) (c14 : PySem.W.codeIn K cd14 "_law_parts" = true) (k14 : PySem.W.keepIn K (.ref f14) = true)
    (a15 : PySem.W.nsIn K mainGlobals "_law_source" = some (some (.ref f15)))
    (l15 : K.lookup f15 = some ⟨oc15, od15, .func (PySem.W.fnOf "_law_source" "_law_source" (defArgs s__law_source) (defBody s__law_source) (defScope s__law_source) .none kV15 dc15 pm15 an15 cd15 ct15), sl15⟩) (c15 : PySem.W.codeIn K cd15 "_law_source" = true) (k15 : PySem.W.keepIn K (.ref f15) = true)
    (a16 : PySem.W.nsIn K mainGlobals "_law_which" = some (some (.ref f16)))
    (l16 : K.lookup f16 = some ⟨oc16, od16, .func (PySem.W.fnOf "_law_which" "_law_which" (defArgs s__law_which) (defBody s__law_which) (defScope s__law_which) .none kV16 dc16 pm16 an16 cd16 ct16), sl16⟩) (c16 : PySem.W.codeIn K cd16 "_law_which" = true) (k16 : PySem.W.keepIn K (.ref f16) = true)
    (a17 : PySem.W.nsIn K mainGlobals "_law_joins" = some (some (.ref f17)))
    (l17 : K.lookup f17 = some ⟨oc17, od17, .func (PySem.W.fnOf "_law_joins" "_law_joins" (defArgs s__law_joins) (defBody s__law_joins) (defScope s__law_joins) .none kV17 dc17 pm17 an17 cd17 ct17), sl17⟩) (c17 : PySem.W.codeIn K cd17 "_law_joins" = true) (k17 : PySem.W.keepIn K (.ref f17) = true)
    (a18 : PySem.W.nsIn K mainGlobals "_law_less" = some (some (.ref f18)))
    (l18 : K.lookup f18 = some ⟨oc18, od18, .func (PySem.W.fnOf "_law_less" "_law_less" (defArgs s__law_less) (defBody s__law_less) (defScope s__law_less) .none kV18 dc18 pm18 an18 cd18 ct18), sl18⟩) (c18 : PySem.W.codeIn K cd18 "_law_less" = true) (k18 : PySem.W.keepIn K (.ref f18) = true)
    (a19 : PySem.W.nsIn K mainGlobals "_law_told" = some (some (.ref f19)))
    (l19 : K.lookup f19 = some ⟨oc19, od19, .func (PySem.W.fnOf "_law_told" "_law_told" (defArgs s__law_told) (defBody s__law_told) (defScope s__law_told) .none kV19 dc19 pm19 an19 cd19 ct19), sl19⟩) (c19 : PySem.W.codeIn K cd19 "_law_told" = true) (k19 : PySem.W.keepIn K (.ref f19) = true)
    (a20 : PySem.W.nsIn K mainGlobals "_law_same" = some (some (.ref f20)))
    (l20 : K.lookup f20 = some ⟨oc20, od20, .func (PySem.W.fnOf "_law_same" "_law_same" (defArgs s__law_same) (defBody s__law_same) (defScope s__law_same) .none kV20 dc20 pm20 an20 cd20 ct20), sl20⟩) (c20 : PySem.W.codeIn K cd20 "_law_same" = true) (k20 : PySem.W.keepIn K (.ref f20) = true)
    (a21 : PySem.W.nsIn K mainGlobals "law" = some (some (.ref f21)))
    (l21 : K.lookup f21 = some ⟨oc21, od21, .func (PySem.W.fnOf "law" "law" (defArgs s_law) (defBody s_law) (defScope s_law) .none kV21 dc21 pm21 an21 cd21 ct21), sl21⟩) (c21 : PySem.W.codeIn K cd21 "law" = true) (k21 : PySem.W.keepIn K (.ref f21) = true)
    (z0 : PySem.W.nsIn K mainGlobals "IndexError" = some none)
    (z1 : PySem.W.nsIn K mainGlobals "ValueError" = some none)
    (z2 : PySem.W.nsIn K mainGlobals "abs" = some none)
    (z3 : PySem.W.nsIn K mainGlobals "bool" = some none)
    (z4 : PySem.W.nsIn K mainGlobals "enumerate" = some none)
    (z5 : PySem.W.nsIn K mainGlobals "int" = some none)
    (z6 : PySem.W.nsIn K mainGlobals "isinstance" = some none)
    (z7 : PySem.W.nsIn K mainGlobals "len" = some none)
    (z8 : PySem.W.nsIn K mainGlobals "list" = some none)
    (z9 : PySem.W.nsIn K mainGlobals "max" = some none)
    (z10 : PySem.W.nsIn K mainGlobals "min" = some none)
    (z11 : PySem.W.nsIn K mainGlobals "range" = some none)
    (z12 : PySem.W.nsIn K mainGlobals "tuple" = some none)
    {gt0 : Tok} (lit0 : PySem.W.nsIn K mainGlobals "MOST_FORKS" = some (some (.int (3) gt0)))
    {gt1 : Tok} (lit1 : PySem.W.nsIn K mainGlobals "MOST_PARTS" = some (some (.int (8) gt1)))
    {xC0 : Addr} (xa0 : PySem.W.nsIn K mainGlobals "NoJoin" = some (some (.ref xC0)))
    {xnm0 xq0 : Str} {xN0 : Addr} {xbs0 : List Value} {xsn0 : List Str} {xsub0 : List Value} {xab0 : Bool} {xco0 : Option Bool} {xdd0 : Option Addr} {xm00 xm10 xm20 xm30 xm50 : Option Value} {xf0 : Addr} {xan0 xod0 : Option Addr} {xsl0 : Array (Option Value)} {xoc0 xkV0 xdc0 xpm0 xcd0 xct0 : Value}
    (xL0 : K.lookup xC0 = some (excClassObj xnm0 xq0 xC0 xN0 xbs0 tl_IndexError true xsn0 xsub0 xab0 xco0 xdd0 xm00 xm10 xm20 xm30 xm50 "IndexError.__new__"))
    (xsa0 : PySem.W.findIn K (.ref xC0) "__setattr__" = some (some (.builtin "object.__setattr__")))
    (xi0 : PySem.W.findIn K (.ref xC0) "__init__" = some (some (.ref xf0)))
    (xt0 : PySem.W.typeIn K (.ref xf0) = some (.type "function"))
    (xl0 : K.lookup xf0 = some ⟨xoc0, xod0, .func (PySem.W.fnOf "__init__" "NoJoin.__init__" (defArgs s_NoJoin_init) (defBody s_NoJoin_init) (defScope s_NoJoin_init) .none xkV0 xdc0 xpm0 xan0 xcd0 xct0), xsl0⟩)
    (xc0 : PySem.W.codeIn K xcd0 "NoJoin.__init__" = true)
    (xkf0 : PySem.W.keepIn K (.ref xf0) = true)
    (xn0_0 : PySem.W.findIn K (.ref xC0) "join" = some none)
    (xv0 : PySem.W.findCls K (.type "IndexError") (.type "type") "__init__" = some (.val (.builtin "IndexError.__init__")))
    (xk0 : PySem.W.keepIn K (.ref xC0) = true)
    (xex0 : PySem.W.subIn K (.ref xC0) (.type "BaseException") = some true)
    (xty0 : PySem.W.typeIn K (.ref xC0) = some (.type "type"))
    (xhd0 : PySem.W.hasDictIn K xC0 = true)
    (xss0 : PySem.W.subIn K (.ref xC0) (.ref xC0) = some true)
    (xga0 : PySem.W.findIn K (.ref xC0) "__getattribute__" = some (some (.builtin "BaseException.__getattribute__")))
    (xgg0 : PySem.W.findIn K (.ref xC0) "__getattr__" = some none)
    (xcl0 : PySem.W.findIn K (.ref xC0) "__class__" = some (some (.builtin "object.__class__")))
    (xge0 : PySem.W.specialIn K (.builtin "object.__class__") "__get__" = some (some (.builtin "getset_descriptor.__get__")))
    (xtk0 : PySem.W.takesIn K (.builtin "object.__class__") = some true)
    (xmo0 : PySem.W.mroIn K xC0 (.type "object") = some true)
    {xC1 : Addr} (xa1 : PySem.W.nsIn K mainGlobals "NoLine" = some (some (.ref xC1)))
    {xnm1 xq1 : Str} {xN1 : Addr} {xbs1 : List Value} {xsn1 : List Str} {xsub1 : List Value} {xab1 : Bool} {xco1 : Option Bool} {xdd1 : Option Addr} {xm01 xm11 xm21 xm31 xm51 : Option Value} {xf1 : Addr} {xan1 xod1 : Option Addr} {xsl1 : Array (Option Value)} {xoc1 xkV1 xdc1 xpm1 xcd1 xct1 : Value}
    (xL1 : K.lookup xC1 = some (excClassObj xnm1 xq1 xC1 xN1 xbs1 tl_ValueError true xsn1 xsub1 xab1 xco1 xdd1 xm01 xm11 xm21 xm31 xm51 "ValueError.__new__"))
    (xsa1 : PySem.W.findIn K (.ref xC1) "__setattr__" = some (some (.builtin "object.__setattr__")))
    (xi1 : PySem.W.findIn K (.ref xC1) "__init__" = some (some (.ref xf1)))
    (xt1 : PySem.W.typeIn K (.ref xf1) = some (.type "function"))
    (xl1 : K.lookup xf1 = some ⟨xoc1, xod1, .func (PySem.W.fnOf "__init__" "NoLine.__init__" (defArgs s_NoLine_init) (defBody s_NoLine_init) (defScope s_NoLine_init) .none xkV1 xdc1 xpm1 xan1 xcd1 xct1), xsl1⟩)
    (xc1 : PySem.W.codeIn K xcd1 "NoLine.__init__" = true)
    (xkf1 : PySem.W.keepIn K (.ref xf1) = true)
    (xn0_1 : PySem.W.findIn K (.ref xC1) "at" = some none)
    (xv1 : PySem.W.findCls K (.type "ValueError") (.type "type") "__init__" = some (.val (.builtin "ValueError.__init__")))
    (xk1 : PySem.W.keepIn K (.ref xC1) = true)
    (xex1 : PySem.W.subIn K (.ref xC1) (.type "BaseException") = some true)
    (xty1 : PySem.W.typeIn K (.ref xC1) = some (.type "type"))
    (xhd1 : PySem.W.hasDictIn K xC1 = true)
    (xss1 : PySem.W.subIn K (.ref xC1) (.ref xC1) = some true)
    (xga1 : PySem.W.findIn K (.ref xC1) "__getattribute__" = some (some (.builtin "BaseException.__getattribute__")))
    (xgg1 : PySem.W.findIn K (.ref xC1) "__getattr__" = some none)
    (xcl1 : PySem.W.findIn K (.ref xC1) "__class__" = some (some (.builtin "object.__class__")))
    (xge1 : PySem.W.specialIn K (.builtin "object.__class__") "__get__" = some (some (.builtin "getset_descriptor.__get__")))
    (xtk1 : PySem.W.takesIn K (.builtin "object.__class__") = some true)
    (xmo1 : PySem.W.mroIn K xC1 (.type "object") = some true)
    {yC0 : Addr} (ya0 : PySem.W.nsIn K mainGlobals "BadText" = some (some (.ref yC0)))
    {yC1 : Addr} (ya1 : PySem.W.nsIn K mainGlobals "BadTime" = some (some (.ref yC1)))
    {yC2 : Addr} (ya2 : PySem.W.nsIn K mainGlobals "Dead" = some (some (.ref yC2)))
    {yC3 : Addr} (ya3 : PySem.W.nsIn K mainGlobals "Inside" = some (some (.ref yC3)))
    {yC4 : Addr} (ya4 : PySem.W.nsIn K mainGlobals "Late" = some (some (.ref yC4)))
    {yC5 : Addr} (ya5 : PySem.W.nsIn K mainGlobals "NoBoard" = some (some (.ref yC5)))
    {yC6 : Addr} (ya6 : PySem.W.nsIn K mainGlobals "NoBook" = some (some (.ref yC6)))
    {yC7 : Addr} (ya7 : PySem.W.nsIn K mainGlobals "NoCall" = some (some (.ref yC7)))
    {yC8 : Addr} (ya8 : PySem.W.nsIn K mainGlobals "NoDeed" = some (some (.ref yC8)))
    {yC9 : Addr} (ya9 : PySem.W.nsIn K mainGlobals "NoEngine" = some (some (.ref yC9)))
    {yC10 : Addr} (ya10 : PySem.W.nsIn K mainGlobals "NoEngines" = some (some (.ref yC10)))
    {yC11 : Addr} (ya11 : PySem.W.nsIn K mainGlobals "NoFlow" = some (some (.ref yC11)))
    {yC12 : Addr} (ya12 : PySem.W.nsIn K mainGlobals "NoGround" = some (some (.ref yC12)))
    {yC13 : Addr} (ya13 : PySem.W.nsIn K mainGlobals "NoKind" = some (some (.ref yC13)))
    {yC14 : Addr} (ya14 : PySem.W.nsIn K mainGlobals "NoPlace" = some (some (.ref yC14)))
    {yC15 : Addr} (ya15 : PySem.W.nsIn K mainGlobals "NoProof" = some (some (.ref yC15)))
    {yC16 : Addr} (ya16 : PySem.W.nsIn K mainGlobals "NoRow" = some (some (.ref yC16)))
    {yC17 : Addr} (ya17 : PySem.W.nsIn K mainGlobals "NoSaying" = some (some (.ref yC17)))
    {yC18 : Addr} (ya18 : PySem.W.nsIn K mainGlobals "NoTeam" = some (some (.ref yC18)))
    {yC19 : Addr} (ya19 : PySem.W.nsIn K mainGlobals "NoText" = some (some (.ref yC19)))
    {yC20 : Addr} (ya20 : PySem.W.nsIn K mainGlobals "NoWearer" = some (some (.ref yC20)))
    {yC21 : Addr} (ya21 : PySem.W.nsIn K mainGlobals "NotDone" = some (some (.ref yC21)))
    {yC22 : Addr} (ya22 : PySem.W.nsIn K mainGlobals "Nothing" = some (some (.ref yC22)))
    {yC23 : Addr} (ya23 : PySem.W.nsIn K mainGlobals "TooMany" = some (some (.ref yC23)))
    (ki0 : PySem.W.kitOne K (.ref xC0) (.type "IndexError") = some true)
    (ki1 : PySem.W.kitOne K (.ref xC0) (.ref yC15) = some false)
    (ki2 : PySem.W.kitOne K (.ref xC0) (.ref yC14) = some false)
    (ki3 : PySem.W.kitOne K (.ref xC0) (.ref yC12) = some false)
    (ki4 : PySem.W.kitOne K (.ref xC0) (.ref yC1) = some false)
    (ki5 : PySem.W.kitOne K (.ref xC0) (.ref yC16) = some false)
    (ki6 : PySem.W.kitOne K (.ref xC0) (.ref yC8) = some false)
    (ki7 : PySem.W.kitOne K (.ref xC0) (.ref yC0) = some false)
    (ki8 : PySem.W.kitOne K (.ref xC0) (.ref yC13) = some false)
    (ki9 : PySem.W.kitOne K (.ref xC0) (.ref yC7) = some false)
    (ki10 : PySem.W.kitOne K (.ref xC0) (.ref yC6) = some false)
    (ki11 : PySem.W.kitOne K (.ref xC0) (.ref yC21) = some false)
    (ki12 : PySem.W.kitOne K (.ref xC0) (.ref yC23) = some false)
    (ki13 : PySem.W.kitOne K (.ref xC0) (.ref xC0) = some true)
    (ki14 : PySem.W.kitOne K (.ref xC0) (.ref xC1) = some false)
    (ki15 : PySem.W.kitOne K (.ref xC0) (.ref yC10) = some false)
    (ki16 : PySem.W.kitOne K (.ref xC0) (.ref yC9) = some false)
    (ki17 : PySem.W.kitOne K (.ref xC0) (.ref yC2) = some false)
    (ki18 : PySem.W.kitOne K (.ref xC0) (.ref yC3) = some false)
    (ki19 : PySem.W.kitOne K (.ref xC0) (.ref yC4) = some false)
    (ki20 : PySem.W.kitOne K (.ref xC0) (.ref yC11) = some false)
    (ki21 : PySem.W.kitOne K (.ref xC0) (.ref yC19) = some false)
    (ki22 : PySem.W.kitOne K (.ref xC0) (.ref yC5) = some false)
    (ki23 : PySem.W.kitOne K (.ref xC0) (.ref yC20) = some false)
    (ki24 : PySem.W.kitOne K (.ref xC0) (.ref yC18) = some false)
    (ki25 : PySem.W.kitOne K (.ref xC0) (.ref yC17) = some false)
    (ki26 : PySem.W.kitOne K (.ref xC0) (.ref yC22) = some false)
    {k : Nat} (ok : ∀ (T : Tx w K mg) (base : Heap), FnOk l.prog w K mg base (L2.CX l.prog w) k T.f_law.f T.f_law.fd ["_law_script"] (toSp K spLaw)) :
    ∃ fd : FuncData, (∀ (s : Shared) (v : Value), BindsTo s fd ⟨[v], []⟩ [("_law_script", v)]) ∧ ∀ base : Heap, K.In base → base.Ns mainGlobals mg → FnOk l.prog w K mg base (L2.CX l.prog w) k fa fd ["_law_script"] (toSp K spLaw) := by
  have e : fa = f21 := by
    have e := hfa.symm.trans (PySem.W.mg_of X G a21)
    cases e; rfl
  rw [e]
  refine ⟨_, fun s v => ?_, fun base _ _ => ok {
    ne_Line := qne0,
    ob_Line := qob0,
    c_Line := ⟨oC0, PySem.W.mg_of X G oa0, ⟨opg0, ohd0, opo0, osa0⟩, List.forall_mem_cons.mpr ⟨on0_0, List.forall_mem_cons.mpr ⟨on1_0, List.forall_mem_nil _⟩⟩⟩,
    s_Line := ⟨⟨⟨opg0, ohd0, opo0, osa0⟩, oha0, ohn0, oht0, ohm0, kio0⟩, List.forall_mem_cons.mpr ⟨ki0o0, List.forall_mem_cons.mpr ⟨ki1o0, List.forall_mem_cons.mpr ⟨ki2o0, List.forall_mem_cons.mpr ⟨ki3o0, List.forall_mem_cons.mpr ⟨ki4o0, List.forall_mem_cons.mpr ⟨ki5o0, List.forall_mem_cons.mpr ⟨ki6o0, List.forall_mem_nil _⟩⟩⟩⟩⟩⟩⟩⟩,
    f_is_whole := ⟨f0, _, PySem.W.mg_of X G a0, fun_mk (st := s_is_whole) l0 c0 k0, (fun_mk (st := s_is_whole) l0 c0 k0).binds (ps := ["thing", "low", "high"]) fun _ _ _ _ _ _ us hl => match us, hl with | [_, _, _], _ => rfl⟩,
    f_is_tuple_of := ⟨f1, _, PySem.W.mg_of X G a1, fun_mk (st := s_is_tuple_of) l1 c1 k1, (fun_mk (st := s_is_tuple_of) l1 c1 k1).binds (ps := ["thing", "many"]) fun _ _ _ _ _ _ us hl => match us, hl with | [_, _], _ => rfl⟩,
    f_is_source := ⟨f2, _, PySem.W.mg_of X G a2, fun_mk (st := s_is_source) l2 c2 k2, (fun_mk (st := s_is_source) l2 c2 k2).binds (ps := ["thing"]) fun _ _ _ _ _ _ us hl => match us, hl with | [_], _ => rfl⟩,
    f_is_middle := ⟨f3, _, PySem.W.mg_of X G a3, fun_mk (st := s_is_middle) l3 c3 k3, (fun_mk (st := s_is_middle) l3 c3 k3).binds (ps := ["thing"]) fun _ _ _ _ _ _ us hl => match us, hl with | [_], _ => rfl⟩,
    f_is_end := ⟨f4, _, PySem.W.mg_of X G a4, fun_mk (st := s_is_end) l4 c4 k4, (fun_mk (st := s_is_end) l4 c4 k4).binds (ps := ["thing", "forks"]) fun _ _ _ _ _ _ us hl => match us, hl with | [_, _], _ => rfl⟩,
    f_wrong_part := ⟨f5, _, PySem.W.mg_of X G a5, fun_mk (st := s_wrong_part) l5 c5 k5, (fun_mk (st := s_wrong_part) l5 c5 k5).binds (ps := ["thing", "forks"]) fun _ _ _ _ _ _ us hl => match us, hl with | [_, _], _ => rfl⟩,
    f_joins_of := ⟨f6, _, PySem.W.mg_of X G a6, fun_mk (st := s_joins_of) l6 c6 k6, (fun_mk (st := s_joins_of) l6 c6 k6).binds (ps := ["parts"]) fun _ _ _ _ _ _ us hl => match us, hl with | [_], _ => rfl⟩,
    f_parts_without := ⟨f7, _, PySem.W.mg_of X G a7, fun_mk (st := s_parts_without) l7 c7 k7, (fun_mk (st := s_parts_without) l7 c7 k7).binds (ps := ["parts", "join"]) fun _ _ _ _ _ _ us hl => match us, hl with | [_, _], _ => rfl⟩,
    mk_Line := ⟨omk0, a8, b8, okc0⟩,
    f_Line___init__ := ⟨f8, _, ⟨a8, b8, k8⟩, fun_mk (st := s_Line___init__) l8 c8 k8, (fun_mk (st := s_Line___init__) l8 c8 k8).binds (ps := ["self", "source", "parts"]) fun _ _ _ _ _ _ us hl => match us, hl with | [_, _, _], _ => rfl⟩,
    f_Line___eq__ := ⟨f9, _, ⟨a9, b9, k9⟩, fun_mk (st := s_Line___eq__) l9 c9 k9, (fun_mk (st := s_Line___eq__) l9 c9 k9).binds (ps := ["self", "other"]) fun _ _ _ _ _ _ us hl => match us, hl with | [_, _], _ => rfl⟩,
    f_Line_without := ⟨f10, _, ⟨a10, b10, k10⟩, fun_mk (st := s_Line_without) l10 c10 k10, (fun_mk (st := s_Line_without) l10 c10 k10).binds (ps := ["self", "join"]) fun _ _ _ _ _ _ us hl => match us, hl with | [_, _], _ => rfl⟩,
    f__law_bag := ⟨f11, _, PySem.W.mg_of X G a11, fun_mk (st := s__law_bag) l11 c11 k11, (fun_mk (st := s__law_bag) l11 c11 k11).binds (ps := ["_law_script", "_law_at"]) fun _ _ _ _ _ _ us hl => match us, hl with | [_, _], _ => rfl⟩,
    f__law_take := ⟨f12, _, PySem.W.mg_of X G a12, fun_mk (st := s__law_take) l12 c12 k12, (fun_mk (st := s__law_take) l12 c12 k12).binds (ps := ["_law_bag_here", "_law_many"]) fun _ _ _ _ _ _ us hl => match us, hl with | [_, _], _ => rfl⟩,
    f__law_any := ⟨f13, _, PySem.W.mg_of X G a13, fun_mk (st := s__law_any) l13 c13 k13, (fun_mk (st := s__law_any) l13 c13 k13).binds (ps := ["_law_bag_here"]) fun _ _ _ _ _ _ us hl => match us, hl with | [_], _ => rfl⟩,
    f__law_parts := ⟨f14, _, PySem.W.mg_of X G a14, fun_mk (st := s__law_parts) l14 c14 k14, (fun_mk (st := s__law_parts) l14 c14 k14).binds (ps := ["_law_bag_here", "_law_forks"]) fun _ _ _ _ _ _ us hl => match us, hl with | [_, _], _ => rfl⟩,
    f__law_source := ⟨f15, _, PySem.W.mg_of X G a15, fun_mk (st := s__law_source) l15 c15 k15, (fun_mk (st := s__law_source) l15 c15 k15).binds (ps := ["_law_bag_here"]) fun _ _ _ _ _ _ us hl => match us, hl with | [_], _ => rfl⟩,
    f__law_which := ⟨f16, _, PySem.W.mg_of X G a16, fun_mk (st := s__law_which) l16 c16 k16, (fun_mk (st := s__law_which) l16 c16 k16).binds (ps := ["_law_e"]) fun _ _ _ _ _ _ us hl => match us, hl with | [_], _ => rfl⟩,
    f__law_joins := ⟨f17, _, PySem.W.mg_of X G a17, fun_mk (st := s__law_joins) l17 c17 k17, (fun_mk (st := s__law_joins) l17 c17 k17).binds (ps := ["_law_tail"]) fun _ _ _ _ _ _ us hl => match us, hl with | [_], _ => rfl⟩,
    f__law_less := ⟨f18, _, PySem.W.mg_of X G a18, fun_mk (st := s__law_less) l18 c18 k18, (fun_mk (st := s__law_less) l18 c18 k18).binds (ps := ["_law_tail", "_law_number"]) fun _ _ _ _ _ _ us hl => match us, hl with | [_, _], _ => rfl⟩,
    f__law_told := ⟨f19, _, PySem.W.mg_of X G a19, fun_mk (st := s__law_told) l19 c19 k19, (fun_mk (st := s__law_told) l19 c19 k19).binds (ps := ["_law_line", "_law_knot", "_law_way"]) fun _ _ _ _ _ _ us hl => match us, hl with | [_, _, _], _ => rfl⟩,
    f__law_same := ⟨f20, _, PySem.W.mg_of X G a20, fun_mk (st := s__law_same) l20 c20 k20, (fun_mk (st := s__law_same) l20 c20 k20).binds (ps := ["_law_one", "_law_other"]) fun _ _ _ _ _ _ us hl => match us, hl with | [_, _], _ => rfl⟩,
    f_law := ⟨f21, _, PySem.W.mg_of X G a21, fun_mk (st := s_law) l21 c21 k21, (fun_mk (st := s_law) l21 c21 k21).binds (ps := ["_law_script"]) fun _ _ _ _ _ _ us hl => match us, hl with | [_], _ => rfl⟩,
    n_IndexError := PySem.W.mg_none_of X G z0,
    n_ValueError := PySem.W.mg_none_of X G z1,
    n_abs := PySem.W.mg_none_of X G z2,
    n_bool := PySem.W.mg_none_of X G z3,
    n_enumerate := PySem.W.mg_none_of X G z4,
    n_int := PySem.W.mg_none_of X G z5,
    n_isinstance := PySem.W.mg_none_of X G z6,
    n_len := PySem.W.mg_none_of X G z7,
    n_list := PySem.W.mg_none_of X G z8,
    n_max := PySem.W.mg_none_of X G z9,
    n_min := PySem.W.mg_none_of X G z10,
    n_range := PySem.W.mg_none_of X G z11,
    n_tuple := PySem.W.mg_none_of X G z12,
    g_MOST_FORKS := ⟨gt0, PySem.W.mg_of X G lit0⟩,
    g_MOST_PARTS := ⟨gt1, PySem.W.mg_of X G lit1⟩,
    c_NoJoin := ⟨xC0, xf0, _, PySem.W.mg_of X G xa0, ⟨⟨xnm0, xq0, xN0, xbs0, _, xsn0, xsub0, xab0, xco0, xdd0, xm00, xm10, xm20, xm30, xm50, xL0, by decide +kernel⟩, xsa0, xex0, xty0, xk0⟩, xi0, xt0, (fun_mk (st := s_NoJoin_init) xl0 xc0 xkf0), (fun_mk (st := s_NoJoin_init) xl0 xc0 xkf0).binds (ps := ["self", "join"]) fun _ _ _ _ _ _ us hl => match us, hl with | [_, _], _ => rfl, List.forall_mem_cons.mpr ⟨xn0_0, List.forall_mem_nil _⟩, xhd0, (PySem.W.exm_ref xex0 xhd0 xty0 xss0), xv0, ⟨clsIn_some xhd0, xga0, xgg0, xex0, xcl0, xge0, xtk0, xmo0⟩⟩,
    c_NoLine := ⟨xC1, xf1, _, PySem.W.mg_of X G xa1, ⟨⟨xnm1, xq1, xN1, xbs1, _, xsn1, xsub1, xab1, xco1, xdd1, xm01, xm11, xm21, xm31, xm51, xL1, by decide +kernel⟩, xsa1, xex1, xty1, xk1⟩, xi1, xt1, (fun_mk (st := s_NoLine_init) xl1 xc1 xkf1), (fun_mk (st := s_NoLine_init) xl1 xc1 xkf1).binds (ps := ["self", "at"]) fun _ _ _ _ _ _ us hl => match us, hl with | [_, _], _ => rfl, List.forall_mem_cons.mpr ⟨xn0_1, List.forall_mem_nil _⟩, xhd1, (PySem.W.exm_ref xex1 xhd1 xty1 xss1), xv1, ⟨clsIn_some xhd1, xga1, xgg1, xex1, xcl1, xge1, xtk1, xmo1⟩⟩,
    c_BadText := ⟨yC0, PySem.W.mg_of X G ya0⟩,
    c_BadTime := ⟨yC1, PySem.W.mg_of X G ya1⟩,
    c_Dead := ⟨yC2, PySem.W.mg_of X G ya2⟩,
    c_Inside := ⟨yC3, PySem.W.mg_of X G ya3⟩,
    c_Late := ⟨yC4, PySem.W.mg_of X G ya4⟩,
    c_NoBoard := ⟨yC5, PySem.W.mg_of X G ya5⟩,
    c_NoBook := ⟨yC6, PySem.W.mg_of X G ya6⟩,
    c_NoCall := ⟨yC7, PySem.W.mg_of X G ya7⟩,
    c_NoDeed := ⟨yC8, PySem.W.mg_of X G ya8⟩,
    c_NoEngine := ⟨yC9, PySem.W.mg_of X G ya9⟩,
    c_NoEngines := ⟨yC10, PySem.W.mg_of X G ya10⟩,
    c_NoFlow := ⟨yC11, PySem.W.mg_of X G ya11⟩,
    c_NoGround := ⟨yC12, PySem.W.mg_of X G ya12⟩,
    c_NoKind := ⟨yC13, PySem.W.mg_of X G ya13⟩,
    c_NoPlace := ⟨yC14, PySem.W.mg_of X G ya14⟩,
    c_NoProof := ⟨yC15, PySem.W.mg_of X G ya15⟩,
    c_NoRow := ⟨yC16, PySem.W.mg_of X G ya16⟩,
    c_NoSaying := ⟨yC17, PySem.W.mg_of X G ya17⟩,
    c_NoTeam := ⟨yC18, PySem.W.mg_of X G ya18⟩,
    c_NoText := ⟨yC19, PySem.W.mg_of X G ya19⟩,
    c_NoWearer := ⟨yC20, PySem.W.mg_of X G ya20⟩,
    c_NotDone := ⟨yC21, PySem.W.mg_of X G ya21⟩,
    c_Nothing := ⟨yC22, PySem.W.mg_of X G ya22⟩,
    c_TooMany := ⟨yC23, PySem.W.mg_of X G ya23⟩,
    i_0 := ki0,
    i_1 := ki1,
    i_2 := ki2,
    i_3 := ki3,
    i_4 := ki4,
    i_5 := ki5,
    i_6 := ki6,
    i_7 := ki7,
    i_8 := ki8,
    i_9 := ki9,
    i_10 := ki10,
    i_11 := ki11,
    i_12 := ki12,
    i_13 := ki13,
    i_14 := ki14,
    i_15 := ki15,
    i_16 := ki16,
    i_17 := ki17,
    i_18 := ki18,
    i_19 := ki19,
    i_20 := ki20,
    i_21 := ki21,
    i_22 := ki22,
    i_23 := ki23,
    i_24 := ki24,
    i_25 := ki25,
    i_26 := ki26,
    kw_Line_without_1_join := kwb (fun_mk (st := s_Line_without) l10 c10 k10) fun _ _ _ _ _ _ us ws h1 h2 => match us, ws, h1, h2 with | [_], [_], _, _ => rfl } base⟩
  exact .of_eq rfl
end K44

/-! K44p: lines alike; one without a join; the law. -/
namespace K44
open PySem L2 DL Tx20 Tx21
abbrev lnD (c : Addr) (h t : D) : D := .ins c FLn [h, t]
def PD (n : Nat) (d : D) : Prop := Pl n d ∧ dep d ≤ 50
theorem pd_pair {n : Nat} {h t : D} (hh : PD n h) (ht : PD n t) : isData (.tup [h, t]) = true ∧ dep (.tup [h, t]) ≤ 64 := by
  refine ⟨(Pl.tup (n := n + 2) (by simp) fun d hd => ?_).data, Nat.le_trans (dep_tup (n := 50) fun d hd => ?_) (by decide)⟩
  · simp only [List.mem_cons, List.not_mem_nil, or_false] at hd
    rcases hd with rfl | rfl
    · exact hh.1.mono (by omega)
    · exact ht.1.mono (by omega)
  · simp only [List.mem_cons, List.not_mem_nil, or_false] at hd
    rcases hd with rfl | rfl
    · exact hh.2
    · exact ht.2
def spLEq (c : Addr) : DSp := fun ds M Q _ => ∃ (n : Nat) (h t h' t' : D), ds = [lnD c h t, lnD c h' t'] ∧ PD n h ∧ PD n t ∧ PD n h' ∧ PD n t' ∧ Q (.bl (deq (.tup [h, t]) (.tup [h', t']))) M
theorem leq_ok (c : Addr) (ds : List D) (M : Mst) (Q : DK) (Ed : DX → Mst → Prop) (h : upSp (spLEq c) ds M Q Ed) : q_Line___eq__ c (fun x _ M => Ed x M) (retE Q) (startD N_Line___eq__ ds) M := by
  obtain ⟨Q0, E0, ⟨n, h, t, h', t', rfl, p1, p2, p3, p4, k0⟩, kq, _⟩ := h
  have k : Q (.bl (deq (.tup [h, t]) (.tup [h', t']))) M := kq _ _ _ (Sub.refl _) k0
  clear kq k0
  show q_Line___eq__ _ _ _ [some (lnD c h t), some (lnD c h' t')] M
  have a1 := pd_pair p1 p2
  have a2 := pd_pair p3 p4
  simp only [q_Line___eq__, qAndV, dIsO, qFld, insD, res_ins, qSeq, qAsg, qTup, qCons, qNil, qOp, qUn, qC, qCall, qVar, qLst, newL_f, qIfS, qTB, qNext, qRet, qDrop, qFor, qCB, qAug, qSl, qPart, qNoPart, gNameD, gSub_eq, dInt_i, dInt0_i, dAdd_i, dCmpI_i, List.set_cons_zero, List.set_cons_succ, List.getElem?_cons_zero, List.getElem?_cons_succ, List.append_nil, z_l0, z_l1, z_l2, z_l3, z_l4, z_l5, z_l6, z_l7, z_l8, z_l9, z_l19, z_l24, z_l25, true_and]
  refine ⟨rfl, rfl, rfl, rfl, ?_⟩
  exact ⟨a1.1, a2.1, Nat.le_trans (Nat.min_le_left _ _) a1.2, by rw [Bool.false_xor]; exact k⟩
/-! ### without -/
theorem lt_PD {f : Nat} {t : LT} (h : t.ok f) (hf : f ≤ 3) : PD 8 t.d := by
  have := lt_pl f t h
  exact ⟨this.1, by omega⟩
theorem src_PD {x : D} (h : srcB x = true) : PD 8 x := by
  have := src_pl h
  exact ⟨this.1, by omega⟩
theorem make_lt {c cn a : Addr} {hd : D} {t : LT} {f : Nat} {M : Mst} {QQ : DK} {EE : DX → Mst → Prop} (hh : srcB hd = true) (ht : t.ok f) (hf : f ≤ 3) (h : QQ .non (put M a (.ins c (FLn.zip [hd, t.d])))) : spLine c cn [.ref a, hd, t.d] (put M a (.ins c [])) QQ EE := by
  refine ⟨a, 8, hd, t.d, rfl, put_same, (src_PD hh).1, (lt_PD ht hf).1, ?_⟩
  rw [if_pos hh, if_pos (ok_wrong0 3 t (ht.up hf)), put_put]; exact h
def outJ (t : LT) (x : D) : Option Int := if wholeD 1 t.n x = true then (match x with | .int j => if t.nz j = true then none else some j | _ => none) else none
def spLWithout (c cn : Addr) : DSp := fun ds M Q E => ∃ (n : Nat) (h : D) (t : LT) (x : D), ds = [lnD c h t.d, x] ∧ srcB h = true ∧ t.ok 3 ∧ Pl n x ∧
  (match outJ t x with | some j => Q (lnD c h (t.rem j).d) M | none => E ⟨.ref cn, [(lit "join", x)]⟩ M)
theorem lwithout_ok (c cn cl : Addr) (ds : List D) (M : Mst) (Q : DK) (Ed : DX → Mst → Prop) (h : upSp (spLWithout c cn) ds M Q Ed) : q_Line_without c cn (spLine c cl) spIsWhole (spJoins 4) (spWithout 4) (fun x _ M => Ed x M) (retE Q) (startD N_Line_without ds) M := by
  obtain ⟨Q0, E0, ⟨n, h, t, x, rfl, hh, ht, hx, k0⟩, kq, ke⟩ := h
  have k : (match outJ t x with | some j => Q (lnD c h (t.rem j).d) M | none => Ed ⟨.ref cn, [(lit "join", x)]⟩ M) := by
    cases e : outJ t x with
    | some j => rw [e] at k0; exact kq _ _ _ (Sub.refl _) k0
    | none => rw [e] at k0; exact ke _ _ _ (Sub.refl _) k0
  clear kq k0 ke
  show q_Line_without _ _ _ _ _ _ _ _ [some (lnD c h t.d), some x, none] M
  simp only [q_Line_without, qNot, qRaise, qFld, insD, res_ins, qSeq, qAsg, qTup, qCons, qNil, qOp, qUn, qC, qCall, qVar, qLst, newL_f, qIfS, qTB, qNext, qRet, qDrop, qFor, qCB, qAug, qSl, qPart, qNoPart, gNameD, gSub_eq, dInt_i, dInt0_i, dAdd_i, dCmpI_i, List.set_cons_zero, List.set_cons_succ, List.getElem?_cons_zero, List.getElem?_cons_succ, List.append_nil, z_l0, z_l1, z_l2, z_l3, z_l4, z_l5, z_l6, z_l7, z_l8, z_l9, z_l19, z_l24, z_l25, true_and]
  refine ⟨rfl, t, 3, rfl, ht, by decide, by decide, ?_⟩
  simp only [z_len_l]
  refine ⟨n, x, 1, (t.n : Int), rfl, hx, ?_⟩
  cases hw : wholeD 1 (t.n : Int) x with
  | false =>
    have e : outJ t x = none := by unfold outJ; rw [hw]; rfl
    rw [e] at k
    simp only [Bool.not_false, if_true]
    exact ⟨rfl, k⟩
  | true =>
    obtain ⟨j, rfl, j1, j2⟩ := wholeD_iff hw
    have e : outJ t (.int j) = if t.nz j = true then none else some j := by unfold outJ; rw [hw]; rfl
    rw [e] at k
    simp only [Bool.not_true, Bool.false_eq_true, if_false]
    refine ⟨rfl, t, j, 3, rfl, ht, by decide, by decide, j1, j2, ?_⟩
    rw [without_eq t j j1 j2]
    cases hz : t.nz j with
    | true =>
      rw [hz] at k
      simp only [if_true, wD, z_is, DL.isNon]
      exact ⟨rfl, k⟩
    | false =>
      rw [hz] at k
      simp only [Bool.false_eq_true, if_false, wD, z_is, isNon_d, qFrzE, qMake, qSeq, qAsg, qTup, qCons, qNil, qOp, qUn, qC, qCall, qVar, qLst, newL_f, qIfS, qTB, qNext, qRet, qDrop, qFor, qCB, qAug, qSl, qPart, qNoPart, gNameD, gSub_eq, dInt_i, dInt0_i, dAdd_i, dCmpI_i, List.set_cons_zero, List.set_cons_succ, List.getElem?_cons_zero, List.getElem?_cons_succ, List.append_nil, z_l0, z_l1, z_l2, z_l3, z_l4, z_l5, z_l6, z_l7, z_l8, z_l9, z_l19, z_l24, z_l25, true_and] at k ⊢
      refine ⟨rfl, rfl, fun a ha => make_lt hh (rem_ok 3 t j ht) (by decide) ⟨rfl, ?_⟩⟩
      simp only [put_same, del_put ha]
      exact k
/-! ### the law's own -/
theorem rmI_snoc {ms : List D} {m : D} {i : Nat} {j : Int} (hi : ms.length = i) : rmI (ms ++ [m]) j = if (i : Int) + 1 = j then rmI ms j else rmI ms j ++ [m] := by
  unfold rmI
  by_cases h1 : 1 ≤ j
  · rw [if_pos h1, if_pos h1]
    by_cases h2 : (i : Int) + 1 = j
    · rw [if_pos h2, show (j - 1).toNat = i by omega]
      rw [List.eraseIdx_append_of_length_le (by omega), show i - ms.length = 0 by omega, List.eraseIdx_of_length_le (show ms.length ≤ i by omega)]
      simp
    · rw [if_neg h2]
      by_cases h3 : (j - 1).toNat < ms.length
      · rw [List.eraseIdx_append_of_lt_length h3]
      · rw [List.eraseIdx_of_length_le (by simp; omega), List.eraseIdx_of_length_le (by omega)]
  · rw [if_neg h1, if_neg h1, if_neg (by omega)]
def spLess (m : Nat) : DSp := fun ds M Q _ => ∃ (t : LT) (j : Int) (f : Nat), ds = [t.d, .int j] ∧ t.ok f ∧ f < m ∧ f ≤ 3 ∧ Q (.tup [(t.rem j).d, .int t.n]) M
theorem less_ok (m : Nat) (ds : List D) (M : Mst) (Q : DK) (Ed : DX → Mst → Prop) (h : upSp (spLess (m + 1)) ds M Q Ed) : q__law_less (spLess m) (fun x _ M => Ed x M) (retE Q) (startD N__law_less ds) M := by
  obtain ⟨Q0, E0, ⟨t, j, f, rfl, ht, hf, f3, k0⟩, kq, _⟩ := h
  have k : ∀ M', DL.Sub M M' → Q (.tup [(t.rem j).d, .int t.n]) M' := fun M' S => kq _ _ _ S k0
  clear kq k0
  show q__law_less _ _ _ [some t.d, some (.int j), none, none, none, none, none, none, none, none] M
  obtain ⟨ms, e, hd, hm⟩ : ∃ ms e, t.d = .tup (ms ++ [e]) ∧ MidsOk ms := by
    cases t with
    | noz ms z => exact ⟨ms, z, rfl, by cases f <;> exact ht.1⟩
    | frk ms a b => exact ⟨ms, _, rfl, by
        cases f with
        | zero => exact ht.elim
        | succ f => exact ht.1⟩
  have hl := hm.2
  simp only [q__law_less, hd, qPar, newL_t, z_neg, z_sl_init, qiAny, qSeq, qAsg, qTup, qCons, qNil, qOp, qUn, qC, qCall, qVar, qLst, newL_f, qIfS, qTB, qNext, qRet, qDrop, qFor, qCB, qAug, qSl, qPart, qNoPart, gNameD, gSub_eq, dInt_i, dInt0_i, dAdd_i, dCmpI_i, List.set_cons_zero, List.set_cons_succ, List.getElem?_cons_zero, List.getElem?_cons_succ, List.append_nil, z_l0, z_l1, z_l2, z_l3, z_l4, z_l5, z_l6, z_l7, z_l8, z_l9, z_l19, z_l24, z_l25, true_and]
  intro l hlN
  refine loopL_inv (fun i p M' => ∃ x4 : Option D, p = [some (.tup (ms ++ [e])), some (.int j), some (.ref l), some (.int (i : Int)), x4, none, none, none, none, none] ∧ M' = put M l (.lst (rmI (ms.take i) j))) (n := ms.length) rfl (fun i d p M' R hd' hI hR => ?_) (fun p M' hI => ?_)
    ⟨none, rfl, by show put M l (.lst []) = _; rw [show rmI (ms.take 0) j = [] from by unfold rmI; split <;> rfl]⟩
  · obtain ⟨x4, rfl, rfl⟩ := hI
    have hi : i < ms.length := (List.getElem?_eq_some_iff.mp hd').1
    refine ⟨trivial, ?_⟩
    have ty : tyOk "list" (res (put M l (.lst (rmI (ms.take i) j))) (.ref l)) = true := by simp [res, put_same, tyOk]
    have tk : ms.take (i + 1) = ms.take i ++ [d] := by rw [List.take_add_one, hd']; rfl
    have tl : (ms.take i).length = i := by simp; omega
    have rs := rmI_snoc (ms := ms.take i) (m := d) (j := j) tl
    have rl : (rmI (ms.take i) j).length ≤ 7 := by
      unfold rmI
      split
      · have := List.length_eraseIdx_le (ms.take i) (j - 1).toNat; omega
      · omega
    simp only [dAug, z_ne_int, qBM, mApp, put_same, put_put, qSeq, qAsg, qTup, qCons, qNil, qOp, qUn, qC, qCall, qVar, qLst, newL_f, qIfS, qTB, qNext, qRet, qDrop, qFor, qCB, qAug, qSl, qPart, qNoPart, gNameD, gSub_eq, dInt_i, dInt0_i, dAdd_i, dCmpI_i, List.set_cons_zero, List.set_cons_succ, List.getElem?_cons_zero, List.getElem?_cons_succ, List.append_nil, z_l0, z_l1, z_l2, z_l3, z_l4, z_l5, z_l6, z_l7, z_l8, z_l9, z_l19, z_l24, z_l25, true_and]
    rw [show (i : Int) + 1 = ((i + 1 : Nat) : Int) by omega]
    by_cases h1 : (i : Int) + 1 = j
    · rw [show (!decide (((i + 1 : Nat) : Int) = j)) = false from by rw [decide_eq_true (by omega)]; rfl]
      simp only [Bool.false_eq_true, if_false]
      refine hR _ _ ⟨_, rfl, ?_⟩
      rw [tk, rs, if_pos h1]
    · rw [show (!decide (((i + 1 : Nat) : Int) = j)) = true from by rw [decide_eq_false (by omega)]; rfl]
      simp only [if_true]
      refine ⟨ty, by omega, hR _ _ ⟨_, rfl, ?_⟩⟩
      rw [tk, rs, if_neg h1]
  · obtain ⟨x4, rfl, rfl⟩ := hI
    rw [List.take_length]
    refine ⟨trivial, ?_⟩
    have SM : DL.Sub M (put M l (.lst (rmI ms j))) := (DL.Sub.refl M).put hlN
    have rl : (rmI ms j).length ≤ 7 := (rmI_ok (j := j) hm).2
    simp only [z_ix_end, z_ix_t0, z_ix_t1, z_ix_t2, z_ix_t3, z_ix_l0, z_ix_l1, z_ix_l2, z_eq_int, z_ne_int, z_eq_str, z_ne_str, z_neg, z_add_tup, z_len_tup, Bool.not_true, Bool.not_false, Bool.false_eq_true, if_false, if_true, decide_true, decide_false, qSeq, qAsg, qTup, qCons, qNil, qOp, qUn, qC, qCall, qVar, qLst, newL_f, qIfS, qTB, qNext, qRet, qDrop, qFor, qCB, qAug, qSl, qPart, qNoPart, gNameD, gSub_eq, dInt_i, dInt0_i, dAdd_i, dCmpI_i, List.set_cons_zero, List.set_cons_succ, List.getElem?_cons_zero, List.getElem?_cons_succ, List.append_nil, z_l0, z_l1, z_l2, z_l3, z_l4, z_l5, z_l6, z_l7, z_l8, z_l9, z_l19, z_l24, z_l25, true_and]
    cases t with
    | noz ms' z =>
      have hz : nozB z = true := by cases f <;> exact ht.2
      obtain ⟨rfl, rfl⟩ : ms' = ms ∧ z = e := by
        have := D.tup.inj hd
        exact ⟨(List.append_inj' this rfl).1, by simpa using (List.append_inj' this rfl).2⟩
      obtain ⟨i, i', rfl⟩ := noz_form hz
      simp only [z_ix_t0, z_ix_t1, z_ix_t2, z_ix_t3, z_ix_l0, z_ix_l1, z_ix_l2, z_eq_int, z_ne_int, z_eq_str, z_ne_str, z_neg, z_add_tup, z_len_tup, Bool.not_true, Bool.not_false, Bool.false_eq_true, if_false, if_true, decide_true, decide_false, dTuple, res, put_same, z_add_tup]
      refine ⟨by simp; omega, ?_⟩
      have := k _ SM
      rw [n_noz] at this
      exact this
    | frk ms' a b =>
      obtain ⟨g, rfl⟩ : ∃ g, f = g + 1 := by
        cases f with
        | zero => exact ht.elim
        | succ g => exact ⟨g, rfl⟩
      obtain ⟨rfl, rfl⟩ : ms' = ms ∧ D.tup [.str (lit "fork"), a.d, b.d] = e := by
        have := D.tup.inj hd
        exact ⟨(List.append_inj' this rfl).1, by simpa using (List.append_inj' this rfl).2⟩
      simp only [z_ix_t0, z_eq_str, show decide (lit "fork" = PySem.Str.ofString "nozzle") = false from by decide, z_ix_t0, z_ix_t1, z_ix_t2, z_ix_t3, z_ix_l0, z_ix_l1, z_ix_l2, z_eq_int, z_ne_int, z_eq_str, z_ne_str, z_neg, z_add_tup, z_len_tup, Bool.not_true, Bool.not_false, Bool.false_eq_true, if_false, if_true, decide_true, decide_false, Bool.false_eq_true, if_false, newL_t, qiAny, z_sl_1, loopL, qSeq, qAsg, qTup, qCons, qNil, qOp, qUn, qC, qCall, qVar, qLst, newL_f, qIfS, qTB, qNext, qRet, qDrop, qFor, qCB, qAug, qSl, qPart, qNoPart, gNameD, gSub_eq, dInt_i, dInt0_i, dAdd_i, dCmpI_i, List.set_cons_zero, List.set_cons_succ, List.getElem?_cons_zero, List.getElem?_cons_succ, List.append_nil, z_l0, z_l1, z_l2, z_l3, z_l4, z_l5, z_l6, z_l7, z_l8, z_l9, z_l19, z_l24, z_l25, true_and]
      intro s hs
      have hls : l ≠ s := fun e => by rw [e, put_same] at hs; cases hs
      have ls : ∀ o, put (put M l (.lst (rmI ms' j))) s o l = some (.lst (rmI ms' j)) := fun o => by rw [put_ne hls, put_same]
      refine ⟨trivial, a, j - ms'.length, g, rfl, ht.2.1, by omega, by omega, ?_⟩
      simp only [gTupD, gConsD, gNilD, res, qBM, mApp, put_same, put_put, dAug, qSeq, qAsg, qTup, qCons, qNil, qOp, qUn, qC, qCall, qVar, qLst, newL_f, qIfS, qTB, qNext, qRet, qDrop, qFor, qCB, qAug, qSl, qPart, qNoPart, gNameD, gSub_eq, dInt_i, dInt0_i, dAdd_i, dCmpI_i, List.set_cons_zero, List.set_cons_succ, List.getElem?_cons_zero, List.getElem?_cons_succ, List.append_nil, z_l0, z_l1, z_l2, z_l3, z_l4, z_l5, z_l6, z_l7, z_l8, z_l9, z_l19, z_l24, z_l25, true_and]
      refine ⟨rfl, rfl, by simp, ?_⟩
      refine ⟨trivial, b, j - (ms'.length + a.n), g, rfl, ht.2.2, by omega, by omega, ?_⟩
      simp only [gTupD, gConsD, gNilD, res, qBM, mApp, put_same, put_put, dAug, qSeq, qAsg, qTup, qCons, qNil, qOp, qUn, qC, qCall, qVar, qLst, newL_f, qIfS, qTB, qNext, qRet, qDrop, qFor, qCB, qAug, qSl, qPart, qNoPart, gNameD, gSub_eq, dInt_i, dInt0_i, dAdd_i, dCmpI_i, List.set_cons_zero, List.set_cons_succ, List.getElem?_cons_zero, List.getElem?_cons_succ, List.append_nil, z_l0, z_l1, z_l2, z_l3, z_l4, z_l5, z_l6, z_l7, z_l8, z_l9, z_l19, z_l24, z_l25, true_and]
      refine ⟨rfl, rfl, by simp, trivial, ?_⟩
      simp only [dTuple, res, ls, z_add_tup, List.nil_append, List.cons_append]
      have i0 : ∀ (Q : DK) x y, dIx (.ref s) (.int 0) (put (put M l (.lst (rmI ms' j))) s (.lst [x, y])) Q = Q x (put (put M l (.lst (rmI ms' j))) s (.lst [x, y])) := fun Q x y => ix_r put_same atI_0
      have i1 : ∀ (Q : DK) x y, dIx (.ref s) (.int 1) (put (put M l (.lst (rmI ms' j))) s (.lst [x, y])) Q = Q y (put (put M l (.lst (rmI ms' j))) s (.lst [x, y])) := fun Q x y => ix_r put_same atI_1
      simp only [i0, i1, qSeq, qAsg, qTup, qCons, qNil, qOp, qUn, qC, qCall, qVar, qLst, newL_f, qIfS, qTB, qNext, qRet, qDrop, qFor, qCB, qAug, qSl, qPart, qNoPart, gNameD, gSub_eq, dInt_i, dInt0_i, dAdd_i, dCmpI_i, List.set_cons_zero, List.set_cons_succ, List.getElem?_cons_zero, List.getElem?_cons_succ, List.append_nil, z_l0, z_l1, z_l2, z_l3, z_l4, z_l5, z_l6, z_l7, z_l8, z_l9, z_l19, z_l24, z_l25, true_and]
      refine ⟨by simp; omega, ?_⟩
      have := k _ (SM.put (a := s) (o := .lst [(a.rem (j - ms'.length)).d, (b.rem (j - (ms'.length + a.n))).d]) (by rw [put_ne (Ne.symm hls)] at hs; exact hs))
      rw [n_frk, LT.rem, LT.d, show j - (ms'.length : Int) - a.n = j - (ms'.length + a.n) by omega] at this
      rw [show ((ms'.length + a.n + b.n : Nat) : Int) = ms'.length + a.n + b.n by omega] at this
      exact this
end K44

/-! K44q: what is told; the law. -/
namespace K44
open PySem L2 DL Tx20 Tx21
def toldD (c : Addr) (h : D) (t : LT) (x : D) : D := match outJ t x with
  | some j => lnD c h (t.rem j).d
  | none => .tup [x]
def spTold (c : Addr) : DSp := fun ds M Q _ => ∃ (n : Nat) (h : D) (t : LT) (x : D) (way : Int), ds = [lnD c h t.d, x, .int way] ∧ srcB h = true ∧ t.ok 3 ∧ Pl n x ∧ Q (toldD c h t x) M
theorem told_ok (c cn : Addr) (ds : List D) (M : Mst) (Q : DK) (Ed : DX → Mst → Prop) (h : upSp (spTold c) ds M Q Ed) : q__law_told c cn (spLWithout c cn) (spWhich 15) (fun x _ M => Ed x M) (retE Q) (startD N__law_told ds) M := by
  obtain ⟨Q0, E0, ⟨n, h, t, x, way, rfl, hh, ht, hx, k0⟩, kq, _⟩ := h
  have k : Q (toldD c h t x) M := kq _ _ _ (DL.Sub.refl _) k0
  clear kq k0
  show q__law_told _ _ _ _ _ _ [some (lnD c h t.d), some x, some (.int way), none] M
  simp only [q__law_told, qTryAs, qIf, qMeth, qMethKw, DL.isObj, insD, res_ins, z_eq_int, qSeq, qAsg, qTup, qCons, qNil, qOp, qUn, qC, qCall, qVar, qLst, newL_f, qIfS, qTB, qNext, qRet, qDrop, qFor, qCB, qAug, qSl, qPart, qNoPart, gNameD, gSub_eq, dInt_i, dInt0_i, dAdd_i, dCmpI_i, List.set_cons_zero, List.set_cons_succ, List.getElem?_cons_zero, List.getElem?_cons_succ, List.append_nil, z_l0, z_l1, z_l2, z_l3, z_l4, z_l5, z_l6, z_l7, z_l8, z_l9, z_l19, z_l24, z_l25, true_and]
  have hand : ∀ (a' : Addr) (dx : Option Addr), Q (.tup [x]) M → qAnd (qTB (qOp (dEq false) (qCall (spWhich 15 a' dx) [] (qCons (qVar 3) qNil)) (qC (.str (PySem.Str.ofString "NoJoin"))))) (qTB (qCB (dIsX a' dx true (.ty "IndexError")) (qCons (qVar 3) (qCons (qC (.ty "IndexError")) qNil))))
      DW0 [some (lnD c h t.d), some x, some (.int way), some (.exc a' dx (([(lit "join", x)] : List (Str × D)).map (·.1)) (([(lit "join", x)] : List (Str × D)).map (·.2)))] M fun b M1 => if b = true then qXf a' dx (PySem.Str.ofString "join") (qVar 3) DW0 [some (lnD c h t.d), some x, some (.int way), some (.exc a' dx (([(lit "join", x)] : List (Str × D)).map (·.1)) (([(lit "join", x)] : List (Str × D)).map (·.2)))] M1 fun d M1 => Q (.tup [d]) M1 else Q .non M1 := fun a' dx q => by
    simp only [qAnd, qXf, qSeq, qAsg, qTup, qCons, qNil, qOp, qUn, qC, qCall, qVar, qLst, newL_f, qIfS, qTB, qNext, qRet, qDrop, qFor, qCB, qAug, qSl, qPart, qNoPart, gNameD, gSub_eq, dInt_i, dInt0_i, dAdd_i, dCmpI_i, List.set_cons_zero, List.set_cons_succ, List.getElem?_cons_zero, List.getElem?_cons_succ, List.append_nil, z_l0, z_l1, z_l2, z_l3, z_l4, z_l5, z_l6, z_l7, z_l8, z_l9, z_l19, z_l24, z_l25, true_and]
    refine ⟨_, _, rfl, by decide, ?_⟩
    simp only [z_eq_str, show decide (whNames.getD 15 Str.empty = PySem.Str.ofString "NoJoin") = true from by decide +kernel, if_true, z_isX]
    refine ⟨_, _, x, rfl, ?_, q⟩
    show List.lookup (lit "join") [(lit "join", x)] = some x
    rw [List.lookup_cons, beq_self_eq_true]
  have go : spLWithout c cn [lnD c h t.d, x] M Q (fun z M' => z.cls = .ref cn ∧ ∀ a' dx, qAnd (qTB (qOp (dEq false) (qCall (spWhich 15 a' dx) [] (qCons (qVar 3) qNil)) (qC (.str (PySem.Str.ofString "NoJoin"))))) (qTB (qCB (dIsX a' dx true (.ty "IndexError")) (qCons (qVar 3) (qCons (qC (.ty "IndexError")) qNil))))
      DW0 [some (lnD c h t.d), some x, some (.int way), some (.exc a' dx (z.fs.map (·.1)) (z.fs.map (·.2)))] M' fun b M1 => if b = true then qXf a' dx (PySem.Str.ofString "join") (qVar 3) DW0 [some (lnD c h t.d), some x, some (.int way), some (.exc a' dx (z.fs.map (·.1)) (z.fs.map (·.2)))] M1 fun d M1 => Q (.tup [d]) M1 else Q .non M1) := by
    refine ⟨n, h, t, x, rfl, hh, ht, hx, ?_⟩
    unfold toldD at k
    cases e : outJ t x with
    | some j => rw [e] at k; exact k
    | none => rw [e] at k; exact ⟨rfl, fun a' dx => hand a' dx k⟩
  by_cases hw : way = 0
  · simp only [decide_eq_true hw, if_true]
    exact ⟨rfl, go⟩
  · simp only [decide_eq_false hw, Bool.false_eq_true, if_false]
    exact ⟨rfl, rfl, rfl, go⟩
def spSame : DSp := fun ds M Q _ => ∃ (n : Nat) (x : D), ds = [x, x] ∧ Pl n x ∧ dep x ≤ 50 ∧ Q (.bl true) M
theorem same_ok (ds : List D) (M : Mst) (Q : DK) (Ed : DX → Mst → Prop) (h : upSp spSame ds M Q Ed) : q__law_same (fun x _ M => Ed x M) (retE Q) (startD N__law_same ds) M := by
  obtain ⟨Q0, E0, ⟨n, x, rfl, hx, hd, k0⟩, kq, _⟩ := h
  have k : Q (.bl true) M := kq _ _ _ (DL.Sub.refl _) k0
  clear kq k0
  show q__law_same _ _ [some x, some x] M
  simp only [q__law_same, qAndV, qSeq, qAsg, qTup, qCons, qNil, qOp, qUn, qC, qCall, qVar, qLst, newL_f, qIfS, qTB, qNext, qRet, qDrop, qFor, qCB, qAug, qSl, qPart, qNoPart, gNameD, gSub_eq, dInt_i, dInt0_i, dAdd_i, dCmpI_i, List.set_cons_zero, List.set_cons_succ, List.getElem?_cons_zero, List.getElem?_cons_succ, List.append_nil, z_l0, z_l1, z_l2, z_l3, z_l4, z_l5, z_l6, z_l7, z_l8, z_l9, z_l19, z_l24, z_l25, true_and]
  rw [isi_bool hx, isi_bool hx]
  simp only [z_eq_bl, decide_true, if_true]
  rw [eq_same (d := x) hx.res hx.res hx.data (by omega)]
  exact k
theorem cc_len {k : Nat} {js : List D} {rest : DTA} {DW : DWt} {p : Rho} {M : Mst} {QA : List D → Mst → Prop} (hp : p[k]? = some (some (.lst js))) (h : rest DW p M (fun ds M => QA (.int ((js.length : Int) + 1) :: ds) M)) :
    qCons (qOp (dAdd false) (qCB dLen (qCons (qVar k) qNil)) (qC (.int 1))) rest DW p M QA := by
  simp only [qVar, qCons, qOp, qCB, qNil, hp, z_len_l, dAdd_i, qC]
  exact h
/-! ### the law -/
theorem law_ok (c cl : Addr) (ds : List D) (M : Mst) (Q : DK) (Ed : DX → Mst → Prop) (h : upSp spLaw ds M Q Ed) : q_law c (spLEq c) (spLine c cl) spAnyD spBag (spJoins 4) (spLess 4) (spLParts 4) spSame spLSource (spTold c) (fun x _ M => Ed x M) (retE Q) (startD N_law ds) M := by
  obtain ⟨Q0, E0, ⟨ns, rfl, hns, hM, k0⟩, kq, _⟩ := h
  have k : ∀ M', Q (.bl true) M' := fun M' => kq _ _ _ (DL.Sub.refl _) (k0 M')
  show q_law _ _ _ _ _ _ _ _ _ _ _ _ _ [some (.scr ns), none, none, none, none, none, none, none, none, none, none] M
  simp only [q_law, qiRng1, qSeq, qAsg, qTup, qCons, qNil, qOp, qUn, qC, qCall, qVar, qLst, newL_f, qIfS, qTB, qNext, qRet, qDrop, qFor, qCB, qAug, qSl, qPart, qNoPart, gNameD, gSub_eq, dInt_i, dInt0_i, dAdd_i, dCmpI_i, List.set_cons_zero, List.set_cons_succ, List.getElem?_cons_zero, List.getElem?_cons_succ, List.append_nil, z_l0, z_l1, z_l2, z_l3, z_l4, z_l5, z_l6, z_l7, z_l8, z_l9, z_l19, z_l24, z_l25, true_and, len_s', dMin2_i, dMax2_i]
  refine ⟨by split <;> split <;> omega, by split <;> split <;> omega, ?_⟩
  generalize hv : (if (if (ns.length : Int) < 8 then (ns.length : Int) else 8) > 3 then (if (ns.length : Int) < 8 then (ns.length : Int) else 8) else 3) = v
  have v14 : v ≤ 8 := by rw [← hv]; split <;> split <;> omega
  clear hv
  refine loopL_inv (fun i p M' => ∃ x1 x2 x3 x4 x5 x6 x7 x8 x9 x10, p = [some (.scr ns), x1, x2, x3, x4, x5, x6, x7, x8, x9, x10]) (n := v.toNat) (by simp) ?_ ?_ ⟨_, _, _, _, _, _, _, _, _, _, rfl⟩
  · rintro i d p M' R hd ⟨x1, x2, x3, x4, x5, x6, x7, x8, x9, x10, rfl⟩ hR
    obtain ⟨hi, rfl⟩ := range_at hd
    refine ⟨trivial, ?_⟩
    simp only [qPar, qSeq, qAsg, qTup, qCons, qNil, qOp, qUn, qC, qCall, qVar, qLst, newL_f, qIfS, qTB, qNext, qRet, qDrop, qFor, qCB, qAug, qSl, qPart, qNoPart, gNameD, gSub_eq, dInt_i, dInt0_i, dAdd_i, dCmpI_i, List.set_cons_zero, List.set_cons_succ, List.getElem?_cons_zero, List.getElem?_cons_succ, List.append_nil, z_l0, z_l1, z_l2, z_l3, z_l4, z_l5, z_l6, z_l7, z_l8, z_l9, z_l19, z_l24, z_l25, true_and]
    refine ⟨ns, i, rfl, by omega, by omega, fun b hb => ?_⟩
    have mb : put M' b .bag b = some .bag := put_same
    generalize put M' b .bag = M1 at mb
    refine ⟨b, rfl, mb, fun hd hsrc phd dhd => ⟨b, 3, rfl, mb, by decide, fun tl ⟨w0, ptl, dtl⟩ => ?_⟩⟩
    obtain ⟨t, rfl, ht⟩ := lt_of 3 tl w0
    have hn := n_113 ht (by decide)
    have h1 := n_pos t
    have Pt := lt_PD ht (by decide)
    have Ph := src_PD hsrc
    simp only [qFrzE, qMake, qSeq, qAsg, qTup, qCons, qNil, qOp, qUn, qC, qCall, qVar, qLst, newL_f, qIfS, qTB, qNext, qRet, qDrop, qFor, qCB, qAug, qSl, qPart, qNoPart, gNameD, gSub_eq, dInt_i, dInt0_i, dAdd_i, dCmpI_i, List.set_cons_zero, List.set_cons_succ, List.getElem?_cons_zero, List.getElem?_cons_succ, List.append_nil, z_l0, z_l1, z_l2, z_l3, z_l4, z_l5, z_l6, z_l7, z_l8, z_l9, z_l19, z_l24, z_l25, true_and]
    intro a ha
    refine make_lt hsrc ht (by decide) ⟨rfl, ?_⟩
    simp only [put_same, del_put ha]
    refine ⟨t, 3, rfl, ht, by decide, by decide, ?_⟩
    simp only [qiRng2, z_len_l, qSeq, qAsg, qTup, qCons, qNil, qOp, qUn, qC, qCall, qVar, qLst, newL_f, qIfS, qTB, qNext, qRet, qDrop, qFor, qCB, qAug, qSl, qPart, qNoPart, gNameD, gSub_eq, dInt_i, dInt0_i, dAdd_i, dCmpI_i, List.set_cons_zero, List.set_cons_succ, List.getElem?_cons_zero, List.getElem?_cons_succ, List.append_nil, z_l0, z_l1, z_l2, z_l3, z_l4, z_l5, z_l6, z_l7, z_l8, z_l9, z_l19, z_l24, z_l25, true_and]
    refine ⟨⟨by decide, by decide, by unfold LT.n at hn h1; omega, by unfold LT.n at hn; omega⟩, by unfold LT.n at hn; omega, ?_⟩
    rw [show ((t.js.length : Int) + 1 - 1).toNat = t.n from by unfold LT.n; omega]
    show loopL _ _ _ _ _ _ [some (.scr ns), some (.int (i : Int)), some (.ref b), some hd, some t.d, some (lnD c hd t.d), some (.lst t.js), x7, x8, x9, x10] M1
    refine loopL_inv (fun j p M2 => M2 = M1 ∧ ∃ x7 x8 x9 x10, p = [some (.scr ns), some (.int (i : Int)), some (.ref b), some hd, some t.d, some (lnD c hd t.d), some (.lst t.js), x7, x8, x9, x10]) (n := t.n) (by simp) ?_ ?_ ⟨rfl, _, _, _, _, rfl⟩
    · rintro j d p M2 R2 hd2 ⟨rfl, x7, x8, x9, x10, rfl⟩ hR2
      obtain ⟨hj, rfl⟩ := rangeL_at hd2
      have ej : (1 : Int) + (j : Int) = (j : Int) + 1 := by omega
      rw [ej]
      refine ⟨trivial, ?_⟩
      obtain ⟨w, r, hw, hz⟩ := js_at 3 t j ht hj
      simp only [qSeq, qAsg, qTup, qCons, qNil, qOp, qUn, qC, qCall, qVar, qLst, newL_f, qIfS, qTB, qNext, qRet, qDrop, qFor, qCB, qAug, qSl, qPart, qNoPart, gNameD, gSub_eq, dInt_i, dInt0_i, dAdd_i, dCmpI_i, List.set_cons_zero, List.set_cons_succ, List.getElem?_cons_zero, List.getElem?_cons_succ, List.append_nil, z_l0, z_l1, z_l2, z_l3, z_l4, z_l5, z_l6, z_l7, z_l8, z_l9, z_l19, z_l24, z_l25, true_and]
      refine ⟨by decide, 8, hd, t, _, _, rfl, hsrc, ht, .int _, ?_⟩
      simp only [show (j : Int) + 1 - 1 = (j : Int) by omega, ix_ln hw, z_ix_t0, z_eq_str, qSeq, qAsg, qTup, qCons, qNil, qOp, qUn, qC, qCall, qVar, qLst, newL_f, qIfS, qTB, qNext, qRet, qDrop, qFor, qCB, qAug, qSl, qPart, qNoPart, gNameD, gSub_eq, dInt_i, dInt0_i, dAdd_i, dCmpI_i, List.set_cons_zero, List.set_cons_succ, List.getElem?_cons_zero, List.getElem?_cons_succ, List.append_nil, z_l0, z_l1, z_l2, z_l3, z_l4, z_l5, z_l6, z_l7, z_l8, z_l9, z_l19, z_l24, z_l25, true_and]
      rw [show decide (w = PySem.Str.ofString "nozzle") = t.nz ((j : Int) + 1) from hz]
      have oj : outJ t (.int ((j : Int) + 1)) = if t.nz ((j : Int) + 1) = true then none else some ((j : Int) + 1) := by
        unfold outJ
        rw [show wholeD 1 (t.n : Int) (.int ((j : Int) + 1)) = true from by simp only [wholeD, Bool.and_eq_true, decide_eq_true_eq]; omega]; rfl
      have last : qIfS (qTB (qOp (dOwn true c (spLEq c)) (qVar 5) (qFrzE (qMake c (spLine c cl) [] (qCons (qVar 3) (qCons (qVar 4) qNil)))))) (qRet (qC (.bl false))) qNext (fun x _ M => Ed x M) { nx := R2, rt := Q, bk := R, ct := R2 } [some (.scr ns), some (.int (i : Int)), some (.ref b), some hd, some t.d, some (lnD c hd t.d), some (.lst t.js), some (.int ((j : Int) + 1)), some (toldD c hd t (.int ((j : Int) + 1))), x9, x10] M2 := by
        simp only [qFrzE, qMake, qSeq, qAsg, qTup, qCons, qNil, qOp, qUn, qC, qCall, qVar, qLst, newL_f, qIfS, qTB, qNext, qRet, qDrop, qFor, qCB, qAug, qSl, qPart, qNoPart, gNameD, gSub_eq, dInt_i, dInt0_i, dAdd_i, dCmpI_i, List.set_cons_zero, List.set_cons_succ, List.getElem?_cons_zero, List.getElem?_cons_succ, List.append_nil, z_l0, z_l1, z_l2, z_l3, z_l4, z_l5, z_l6, z_l7, z_l8, z_l9, z_l19, z_l24, z_l25, true_and]
        intro a ha
        refine make_lt hsrc ht (by decide) ⟨rfl, ?_⟩
        simp only [put_same, del_put ha]
        refine ⟨⟨_, _, _, _, rfl, rfl⟩, 8, hd, t.d, hd, t.d, rfl, Ph, Pt, Ph, Pt, true, by rw [deq_refl _ (pd_pair Ph Pt).1], ?_⟩
        simp only [Bool.xor_self, Bool.false_eq_true, if_false]
        exact hR2 _ _ ⟨rfl, _, _, _, _, rfl⟩
      cases hb2 : t.nz ((j : Int) + 1) with
      | true =>
        have et : toldD c hd t (.int ((j : Int) + 1)) = .tup [.int ((j : Int) + 1)] := by unfold toldD; rw [oj, hb2]; rfl
        rw [et] at last ⊢
        simp only [if_true, qOr, qNot, z_isi_tup_tup, Bool.not_true, Bool.false_eq_true, if_false, qSeq, qAsg, qTup, qCons, qNil, qOp, qUn, qC, qCall, qVar, qLst, newL_f, qIfS, qTB, qNext, qRet, qDrop, qFor, qCB, qAug, qSl, qPart, qNoPart, gNameD, gSub_eq, dInt_i, dInt0_i, dAdd_i, dCmpI_i, List.set_cons_zero, List.set_cons_succ, List.getElem?_cons_zero, List.getElem?_cons_succ, List.append_nil, z_l0, z_l1, z_l2, z_l3, z_l4, z_l5, z_l6, z_l7, z_l8, z_l9, z_l19, z_l24, z_l25, true_and]
        rw [eq_same (d := .tup [.int ((j : Int) + 1)]) rfl rfl rfl (by simp [dep, pyd, pydL, PyData.depth, PyData.depthAll])]
        simp only [Bool.not_true, Bool.false_eq_true, if_false]
        exact last
      | false =>
        have et : toldD c hd t (.int ((j : Int) + 1)) = lnD c hd (t.rem ((j : Int) + 1)).d := by unfold toldD; rw [oj, hb2]; rfl
        have hro := rem_ok 3 t ((j : Int) + 1) ht
        have Pr := lt_PD hro (by decide)
        rw [et] at last ⊢
        simp only [Bool.false_eq_true, if_false, qOr, qNot, dIsO, res_ins, Bool.not_true, qSeq, qAsg, qTup, qCons, qNil, qOp, qUn, qC, qCall, qVar, qLst, newL_f, qIfS, qTB, qNext, qRet, qDrop, qFor, qCB, qAug, qSl, qPart, qNoPart, gNameD, gSub_eq, dInt_i, dInt0_i, dAdd_i, dCmpI_i, List.set_cons_zero, List.set_cons_succ, List.getElem?_cons_zero, List.getElem?_cons_succ, List.append_nil, z_l0, z_l1, z_l2, z_l3, z_l4, z_l5, z_l6, z_l7, z_l8, z_l9, z_l19, z_l24, z_l25, true_and]
        simp only [Bool.not_true, Bool.false_eq_true, if_false, qFrzE, qMake, qSeq, qAsg, qTup, qCons, qNil, qOp, qUn, qC, qCall, qVar, qLst, newL_f, qIfS, qTB, qNext, qRet, qDrop, qFor, qCB, qAug, qSl, qPart, qNoPart, gNameD, gSub_eq, dInt_i, dInt0_i, dAdd_i, dCmpI_i, List.set_cons_zero, List.set_cons_succ, List.getElem?_cons_zero, List.getElem?_cons_succ, List.append_nil, z_l0, z_l1, z_l2, z_l3, z_l4, z_l5, z_l6, z_l7, z_l8, z_l9, z_l19, z_l24, z_l25, true_and]
        refine ⟨t, _, 3, rfl, ht, by decide, by decide, ?_⟩
        simp only [z_ix_t0]
        intro a ha
        refine make_lt hsrc hro (by decide) ⟨rfl, ?_⟩
        simp only [put_same, del_put ha]
        refine ⟨⟨_, _, _, _, rfl, rfl⟩, 8, hd, _, hd, _, rfl, Ph, Pr, Ph, Pr, true, by rw [deq_refl _ (pd_pair Ph Pr).1], ?_⟩
        simp only [Bool.xor_self, Bool.false_eq_true, if_false]
        exact last
    · rintro p M2 ⟨rfl, x7, x8, x9, x10, rfl⟩
      refine ⟨trivial, ?_⟩
      simp only [qSeq, qFor, qiAny]
      refine cc_lst <| cc <| cc_neg <| cc_len (js := t.js) rfl <| cc <| cc <| cc <| cc_l1 <| ⟨b, rfl, mb, fun an pan dan => cc_tl ⟨by simp, ?_⟩⟩
      dsimp only
      have goods : ∀ d ∈ ([.int 0, .int (-1), .int ((t.js.length : Int) + 1), .bl true, .non, .str (PySem.Str.ofString "1"), .lst [.int 1], an, .tup [.lst []]] : List D), Pl 9 d ∧ dep d ≤ 50 := by
        intro d hd
        simp only [List.mem_cons, List.not_mem_nil, or_false] at hd
        rcases hd with rfl | rfl | rfl | rfl | rfl | rfl | rfl | rfl | rfl
        · exact ⟨.int _, Nat.le_trans (dep0 rfl) (by decide)⟩
        · exact ⟨.int _, Nat.le_trans (dep0 rfl) (by decide)⟩
        · exact ⟨.int _, Nat.le_trans (dep0 rfl) (by decide)⟩
        · exact ⟨.bl _, Nat.le_trans (dep0 rfl) (by decide)⟩
        · exact ⟨.non, Nat.le_trans (dep0 rfl) (by decide)⟩
        · exact ⟨.str (tx_of (by decide +kernel)), Nat.le_trans (dep0 rfl) (by decide)⟩
        · exact ⟨.lst (by decide) fun e he => by rw [List.mem_singleton] at he; subst he; exact .int _, by simp [dep, pyd, pydL, PyData.depth, PyData.depthAll]⟩
        · exact ⟨pan, by omega⟩
        · exact ⟨.tup (by decide) fun e he => by rw [List.mem_singleton] at he; subst he; exact .lst (by decide) (fun _ h => by cases h), by simp [dep, pyd, pydL, PyData.depth, PyData.depthAll]⟩
      generalize ([.int 0, .int (-1), .int ((t.js.length : Int) + 1), .bl true, .non, .str (PySem.Str.ofString "1"), .lst [.int 1], an, .tup [.lst []]] : List D) = gs at goods ⊢
      show loopL _ _ _ _ _ gs _ _
      refine loopL_inv (fun j p M3 => M3 = M2 ∧ ∃ x7 x8 x9 x10, p = [some (.scr ns), some (.int (i : Int)), some (.ref b), some hd, some t.d, some (lnD c hd t.d), some (.lst t.js), x7, x8, x9, x10]) (n := gs.length) rfl ?_ ?_ ⟨rfl, _, _, _, _, rfl⟩
      · rintro j d p M3 R3 hd3 ⟨rfl, x7, x8, x9, x10, rfl⟩ hR3
        obtain ⟨pd, dd⟩ := goods d (List.mem_of_getElem? hd3)
        refine ⟨trivial, ?_⟩
        simp only [qSeq, qAsg, qTup, qCons, qNil, qOp, qUn, qC, qCall, qVar, qLst, newL_f, qIfS, qTB, qNext, qRet, qDrop, qFor, qCB, qAug, qSl, qPart, qNoPart, gNameD, gSub_eq, dInt_i, dInt0_i, dAdd_i, dCmpI_i, List.set_cons_zero, List.set_cons_succ, List.getElem?_cons_zero, List.getElem?_cons_succ, List.append_nil, z_l0, z_l1, z_l2, z_l3, z_l4, z_l5, z_l6, z_l7, z_l8, z_l9, z_l19, z_l24, z_l25, true_and]
        refine ⟨9, hd, t, d, 0, rfl, hsrc, ht, pd, ?_⟩
        refine and_whole (lo := 1) (hi := (t.n : Int)) pd (fun _ _ => rfl) (fun _ _ => rfl) (fun _ _ => by simp only [z_len_l, qSeq, qAsg, qTup, qCons, qNil, qOp, qUn, qC, qCall, qVar, qLst, newL_f, qIfS, qTB, qNext, qRet, qDrop, qFor, qCB, qAug, qSl, qPart, qNoPart, gNameD, gSub_eq, dInt_i, dInt0_i, dAdd_i, dCmpI_i, List.set_cons_zero, List.set_cons_succ, List.getElem?_cons_zero, List.getElem?_cons_succ, List.append_nil, z_l0, z_l1, z_l2, z_l3, z_l4, z_l5, z_l6, z_l7, z_l8, z_l9, z_l19, z_l24, z_l25, true_and]; rfl) ?_
        simp only [qAnd, qNot, qSeq, qAsg, qTup, qCons, qNil, qOp, qUn, qC, qCall, qVar, qLst, newL_f, qIfS, qTB, qNext, qRet, qDrop, qFor, qCB, qAug, qSl, qPart, qNoPart, gNameD, gSub_eq, dInt_i, dInt0_i, dAdd_i, dCmpI_i, List.set_cons_zero, List.set_cons_succ, List.getElem?_cons_zero, List.getElem?_cons_succ, List.append_nil, z_l0, z_l1, z_l2, z_l3, z_l4, z_l5, z_l6, z_l7, z_l8, z_l9, z_l19, z_l24, z_l25, true_and]
        cases hw : wholeD 1 (t.n : Int) d with
        | true =>
          simp only [Bool.not_true, Bool.false_eq_true, if_false]
          exact hR3 _ _ ⟨rfl, _, _, _, _, rfl⟩
        | false =>
          have et : toldD c hd t d = .tup [d] := by unfold toldD outJ; rw [hw]; rfl
          rw [et]
          simp only [Bool.not_false, if_true, qOr, qNot, z_isi_tup_tup, Bool.not_true, Bool.false_eq_true, if_false, z_ix_t0, qSeq, qAsg, qTup, qCons, qNil, qOp, qUn, qC, qCall, qVar, qLst, newL_f, qIfS, qTB, qNext, qRet, qDrop, qFor, qCB, qAug, qSl, qPart, qNoPart, gNameD, gSub_eq, dInt_i, dInt0_i, dAdd_i, dCmpI_i, List.set_cons_zero, List.set_cons_succ, List.getElem?_cons_zero, List.getElem?_cons_succ, List.append_nil, z_l0, z_l1, z_l2, z_l3, z_l4, z_l5, z_l6, z_l7, z_l8, z_l9, z_l19, z_l24, z_l25, true_and]
          refine ⟨9, d, rfl, pd, dd, ?_⟩
          simp only [Bool.not_true, Bool.false_eq_true, if_false]
          exact hR3 _ _ ⟨rfl, _, _, _, _, rfl⟩
      · rintro p M3 ⟨rfl, x7, x8, x9, x10, rfl⟩
        exact ⟨trivial, hR _ _ ⟨_, _, _, _, _, _, _, _, _, _, rfl⟩⟩
  · rintro p M' ⟨x1, x2, x3, x4, x5, x6, x7, x8, x9, x10, rfl⟩
    refine ⟨trivial, ?_⟩
    simp only [qSeq, qAsg, qTup, qCons, qNil, qOp, qUn, qC, qCall, qVar, qLst, newL_f, qIfS, qTB, qNext, qRet, qDrop, qFor, qCB, qAug, qSl, qPart, qNoPart, gNameD, gSub_eq, dInt_i, dInt0_i, dAdd_i, dCmpI_i, List.set_cons_zero, List.set_cons_succ, List.getElem?_cons_zero, List.getElem?_cons_succ, List.append_nil, z_l0, z_l1, z_l2, z_l3, z_l4, z_l5, z_l6, z_l7, z_l8, z_l9, z_l19, z_l24, z_l25, true_and]
    exact k _
end K44

namespace K44
open PySem L2 DL Tx20 Tx21
abbrev LEVEL : Nat := 16
def spVoid : DSp := fun _ _ _ _ => False
section
variable {P : Program} {w : World} {K : PySem.W.Frag} {mg : Str → Option Value}
theorem ok_take (T : Tx w K mg) (base : Heap) : FnOk P w K mg base (L2.CX P w) 1 T.f__law_take.f T.f__law_take.fd ["_law_bag_here", "_law_many"] (toSp K spTake) :=
  (dv__law_take (k := 0) T (p := spTakeL) (fun _ _ _ _ ⟨_, _, _, _, e, _⟩ => by rw [e]; rfl) take_ok).imp fun _ _ _ _ h => imp_take h
theorem ok_wrong (T : Tx w K mg) (base : Heap) : ∀ m, FnOk P w K mg base (L2.CX P w) (3 + 2 * m) T.f_wrong_part.f T.f_wrong_part.fd ["thing", "forks"] (toSp K (spWrong m))
  | 0 => fn_void fun _ _ _ _ ⟨_, _, _, _, h, _⟩ => by omega
  | m + 1 => by
    have Gt := dv_is_tuple_of (P := P) (base := base) (k := 0) T (p := spIsTuple) (fun _ _ _ _ ⟨_, _, _, e, _⟩ => by rw [e]; rfl) tuple_ok
    have Gw := dv_is_whole (P := P) (base := base) (k := 0) T (p := spIsWhole) (fun _ _ _ _ ⟨_, _, _, _, e, _⟩ => by rw [e]; rfl) whole_ok
    have Gm := dv_is_middle T Gt Gw (p := spIsMiddle) (fun _ _ _ _ ⟨_, _, e, _⟩ => by rw [e]; rfl) middle_ok
    have Ge := dv_is_end (k := 3 + 2 * m) T (Gt.mono (by omega)) (Gw.mono (by omega)) (ok_wrong T base m) (p := spEnd (m + 1)) (fun _ _ _ _ ⟨_, _, _, e, _⟩ => by rw [e]; rfl) (end_ok m)
    exact (dv_wrong_part (k := 3 + 2 * m + 1) T Ge (Gm.mono (by omega)) (p := spWrong (m + 1)) (fun _ _ _ _ ⟨_, _, _, e, _⟩ => by rw [e]; rfl) (wrong_ok (m + 1))).mono (by omega)
theorem ok_lparts (T : Tx w K mg) (base : Heap) : ∀ m, FnOk P w K mg base (L2.CX P w) (1 + m) T.f__law_parts.f T.f__law_parts.fd ["_law_bag_here", "_law_forks"] (toSp K (spLParts m))
  | 0 => fn_void fun _ _ _ _ ⟨_, _, _, _, h, _⟩ => by omega
  | m + 1 => (dv__law_parts (k := 1 + m) T (ok_lparts T base m) ((ok_take T base).mono (by omega)) (p := spLParts (m + 1)) (fun _ _ _ _ ⟨_, _, e, _⟩ => by rw [e]; rfl) (lparts_ok m)).mono (by omega)
theorem ok_joins (T : Tx w K mg) (base : Heap) : ∀ m, FnOk P w K mg base (L2.CX P w) (1 + m) T.f_joins_of.f T.f_joins_of.fd ["parts"] (toSp K (spJoins m))
  | 0 => fn_void fun _ _ _ _ ⟨_, _, _, _, h, _⟩ => by omega
  | m + 1 => (dv_joins_of (k := 1 + m) T (ok_joins T base m) (p := spJoins (m + 1)) (fun _ _ _ _ ⟨_, _, e, _⟩ => by rw [e]; rfl) (joins_ok m)).mono (by omega)
theorem ok_ljoins (T : Tx w K mg) (base : Heap) : ∀ m, FnOk P w K mg base (L2.CX P w) (1 + m) T.f__law_joins.f T.f__law_joins.fd ["_law_tail"] (toSp K (spJoins m))
  | 0 => fn_void fun _ _ _ _ ⟨_, _, _, _, h, _⟩ => by omega
  | m + 1 => (dv__law_joins (k := 1 + m) T (ok_ljoins T base m) (p := spJoins (m + 1)) (fun _ _ _ _ ⟨_, _, e, _⟩ => by rw [e]; rfl) (ljoins_ok m)).mono (by omega)
theorem ok_less (T : Tx w K mg) (base : Heap) : ∀ m, FnOk P w K mg base (L2.CX P w) (1 + m) T.f__law_less.f T.f__law_less.fd ["_law_tail", "_law_number"] (toSp K (spLess m))
  | 0 => fn_void fun _ _ _ _ ⟨_, _, _, _, _, h, _⟩ => by omega
  | m + 1 => (dv__law_less (k := 1 + m) T (ok_less T base m) (p := spLess (m + 1)) (fun _ _ _ _ ⟨_, _, _, e, _⟩ => by rw [e]; rfl) (less_ok m)).mono (by omega)
theorem ok_without (T : Tx w K mg) (base : Heap) : ∀ m, FnOk P w K mg base (L2.CX P w) (5 + m) T.f_parts_without.f T.f_parts_without.fd ["parts", "join"] (toSp K (spWithout m))
  | 0 => fn_void fun _ _ _ _ ⟨_, _, _, _, _, h, _⟩ => by omega
  | m + 1 => (dv_parts_without (k := 5 + m) T ((ok_joins T base 4).mono (by omega)) (ok_without T base m) (p := spWithout (m + 1)) (fun _ _ _ _ ⟨_, _, _, e, _⟩ => by rw [e]; rfl) (without_ok m)).mono (by omega)
theorem ok_law (T : Tx w K mg) (base : Heap) : FnOk P w K mg base (L2.CX P w) LEVEL T.f_law.f T.f_law.fd ["_law_script"] (toSp K spLaw) := by
  have G_is_whole := dv_is_whole (P := P) (base := base) (k := 0) T (p := spIsWhole) (fun _ _ _ _ ⟨_, _, _, _, e, _⟩ => by rw [e]; rfl) whole_ok
  have G_is_tuple_of := dv_is_tuple_of (P := P) (base := base) (k := 0) T (p := spIsTuple) (fun _ _ _ _ ⟨_, _, _, e, _⟩ => by rw [e]; rfl) tuple_ok
  have G_is_source := dv_is_source (P := P) (base := base) (k := 1) T (G_is_tuple_of.mono (by decide)) (G_is_whole.mono (by decide)) (p := spIsSource) (fun _ _ _ _ ⟨_, _, e, _⟩ => by rw [e]; rfl) source_ok
  have G_wrong_part := ok_wrong (P := P) T base 4
  have G_joins_of := ok_joins (P := P) T base 4
  have G_parts_without := ok_without (P := P) T base 4
  have G_Line___init__ := dv_Line___init__ (P := P) (base := base) (k := 11) (by decide) T (G_is_source.mono (by decide)) (G_wrong_part.mono (by decide)) (p := spLine T.c_Line.C T.c_NoLine.C) (fun _ _ _ _ ⟨_, _, _, _, e, _⟩ => by rw [e]; rfl) (line_ok _ _)
  have G_Line___eq__ := dv_Line___eq__ (P := P) (base := base) (k := 0) T (p := spLEq T.c_Line.C) (fun _ _ _ _ ⟨_, _, _, _, _, e, _⟩ => by rw [e]; rfl) (leq_ok _)
  have G_Line_without := dv_Line_without (P := P) (base := base) (k := 13) (ki_Line := 12) (by decide) T (by decide) G_Line___init__ (G_is_whole.mono (by decide)) (G_joins_of.mono (by decide)) (G_parts_without.mono (by decide)) (p := spLWithout T.c_Line.C T.c_NoJoin.C) (fun _ _ _ _ ⟨_, _, _, _, e, _⟩ => by rw [e]; rfl) (lwithout_ok _ _ _)
  have G__law_bag := (dv__law_bag (P := P) (base := base) (k := 0) T (p := spBagL) (fun _ _ _ _ ⟨_, _, e, _⟩ => by rw [e]; rfl) bag_ok).imp fun _ _ _ _ h => imp_bag h
  have G__law_take := (dv__law_take (P := P) (base := base) (k := 0) T (p := spTakeL) (fun _ _ _ _ ⟨_, _, _, _, e, _⟩ => by rw [e]; rfl) take_ok).imp fun _ _ _ _ h => imp_take h
  have G__law_any := dv__law_any (P := P) (base := base) (k := 1) T (G__law_take.mono (by decide)) (p := spAnyD) (fun _ _ _ _ ⟨_, e, _⟩ => by rw [e]; rfl) anyD_ok
  have G__law_parts := ok_lparts (P := P) T base 4
  have G__law_source := dv__law_source (P := P) (base := base) (k := 1) T (G__law_take.mono (by decide)) (p := spLSource) (fun _ _ _ _ ⟨_, e, _⟩ => by rw [e]; rfl) lsource_ok
  have G__law_which_NoJoin := fun (a : Addr) (oe : Obj) (d : Option Addr) (hz : Zc (.ref T.c_NoJoin.C) d oe) (hf : ∃ vs, oe.data = .fields vs) => dvW__law_which_NoJoin (P := P) (base := base) (k := 0) T hz hf (p := spWhich 15 a d) (fun _ _ _ _ ⟨_, _, e, _⟩ => by rw [e]; rfl) (which_ok 15 _ _ _ _ _ _ _ _ _ _ _ _ _ _ _ _ _ _ _ _ _ _ _ _ _ _ _ _)
  have G__law_joins := ok_ljoins (P := P) T base 4
  have G__law_less := ok_less (P := P) T base 4
  have G__law_told := dv__law_told (P := P) (base := base) (k := 14) T (G_Line_without.mono (by decide)) (fun a oe d hz hf => (G__law_which_NoJoin a oe d hz hf).mono (by decide)) (p := spTold T.c_Line.C) (fun _ _ _ _ ⟨_, _, _, _, _, e, _⟩ => by rw [e]; rfl) (told_ok _ _)
  have G__law_same := dv__law_same (P := P) (base := base) (k := 0) T (p := spSame) (fun _ _ _ _ ⟨_, _, e, _⟩ => by rw [e]; rfl) same_ok
  exact dv_law (P := P) (base := base) (k := 15) (ki_Line := 12) (ke_Line := 1) T (by decide) (by decide) G_Line___eq__ G_Line___init__ (G__law_any.mono (by decide)) (G__law_bag.mono (by decide)) (G__law_joins.mono (by decide)) (G__law_less.mono (by decide)) (G__law_parts.mono (by decide)) (G__law_same.mono (by decide)) (G__law_source.mono (by decide)) (G__law_told.mono (by decide)) (p := spLaw) (fun _ _ _ _ ⟨_, e, _⟩ => by rw [e]; rfl) (law_ok _ _)
end
end K44

open PySem PySem.W PyProof.Rows in
set_option maxRecDepth 100000 in
set_option maxHeartbeats 0 in
theorem PySem.Challenge.cw_whistleboard_k44_without_a_join_holds : PySem.Challenge.rw_whistleboard_k44_without_a_join.Holds := by
  w_on; o_law; k_head; (case hw => w_witness2)
  k_fill
  refine DL.walk (l := PySem.Challenge.rw_whistleboard_k44_without_a_join) (k := K44.LEVEL) (by decide) rfl rfl (fun w h Y => by first | exact PySem.W.kIn_of Y | exact PySem.W.km_in_of Y) ?F
  case F =>
    intro w mg fa h KX G hmg
    refine' K44.all_mk KX G hmg ?oa0 ?qne0 ?qob0 ?opg0 ?ohd0 ?opo0 ?osa0 ?on0_0 ?on1_0 ?omk0 ?okc0 ?oha0 ?ohn0 ?oht0 ?ohm0 ?kio0 ?ki0o0 ?ki1o0 ?ki2o0 ?ki3o0 ?ki4o0 ?ki5o0 ?ki6o0 ?a0 ?l0 ?c0 ?k0 ?a1 ?l1 ?c1 ?k1 ?a2 ?l2 ?c2 ?k2 ?a3 ?l3 ?c3 ?k3 ?a4 ?l4 ?c4 ?k4 ?a5 ?l5 ?c5 ?k5 ?a6 ?l6 ?c6 ?k6 ?a7 ?l7 ?c7 ?k7 ?a8 ?b8 ?l8 ?c8 ?k8 ?a9 ?b9 ?l9 ?c9 ?k9 ?a10 ?b10 ?l10 ?c10 ?k10 ?a11 ?l11 ?c11 ?k11 ?a12 ?l12 ?c12 ?k12 ?a13 ?l13 ?c13 ?k13 ?a14 ?l14 ?c14 ?k14 ?a15 ?l15 ?c15 ?k15 ?a16 ?l16 ?c16 ?k16 ?a17 ?l17 ?c17 ?k17 ?a18 ?l18 ?c18 ?k18 ?a19 ?l19 ?c19 ?k19 ?a20 ?l20 ?c20 ?k20 ?a21 ?l21 ?c21 ?k21 ?z0 ?z1 ?z2 ?z3 ?z4 ?z5 ?z6 ?z7 ?z8 ?z9 ?z10 ?z11 ?z12 ?lit0 ?lit1 ?xa0 ?xL0 ?xsa0 ?xi0 ?xt0 ?xl0 ?xc0 ?xkf0 ?xn0_0 ?xv0 ?xk0 ?xex0 ?xty0 ?xhd0 ?xss0 ?xga0 ?xgg0 ?xcl0 ?xge0 ?xtk0 ?xmo0 ?xa1 ?xL1 ?xsa1 ?xi1 ?xt1 ?xl1 ?xc1 ?xkf1 ?xn0_1 ?xv1 ?xk1 ?xex1 ?xty1 ?xhd1 ?xss1 ?xga1 ?xgg1 ?xcl1 ?xge1 ?xtk1 ?xmo1 ?ya0 ?ya1 ?ya2 ?ya3 ?ya4 ?ya5 ?ya6 ?ya7 ?ya8 ?ya9 ?ya10 ?ya11 ?ya12 ?ya13 ?ya14 ?ya15 ?ya16 ?ya17 ?ya18 ?ya19 ?ya20 ?ya21 ?ya22 ?ya23 ?ki0 ?ki1 ?ki2 ?ki3 ?ki4 ?ki5 ?ki6 ?ki7 ?ki8 ?ki9 ?ki10 ?ki11 ?ki12 ?ki13 ?ki14 ?ki15 ?ki16 ?ki17 ?ki18 ?ki19 ?ki20 ?ki21 ?ki22 ?ki23 ?ki24 ?ki25 ?ki26 (fun T base => K44.ok_law T base)
    (case oa0 => k_is)
    (case qne0 => k_is)
    (case qob0 => k_is)
    (case opg0 => k_is)
    (case ohd0 => k_is)
    (case opo0 => k_is)
    (case osa0 => k_is)
    (case on0_0 => k_is)
    (case on1_0 => k_is)
    (case omk0 => k_is)
    (case okc0 => k_is)
    (case oha0 => k_is)
    (case ohn0 => k_is)
    (case oht0 => k_is)
    (case ohm0 => k_is)
    (case kio0 => kit_is)
    (case ki0o0 => kit_is)
    (case ki1o0 => kit_is)
    (case ki2o0 => kit_is)
    (case ki3o0 => kit_is)
    (case ki4o0 => kit_is)
    (case ki5o0 => kit_is)
    (case ki6o0 => kit_is)
    (case a0 => k_is)
    (case l0 => k_is)
    (case c0 => k_is)
    (case k0 => k_is)
    (case a1 => k_is)
    (case l1 => k_is)
    (case c1 => k_is)
    (case k1 => k_is)
    (case a2 => k_is)
    (case l2 => k_is)
    (case c2 => k_is)
    (case k2 => k_is)
    (case a3 => k_is)
    (case l3 => k_is)
    (case c3 => k_is)
    (case k3 => k_is)
    (case a4 => k_is)
    (case l4 => k_is)
    (case c4 => k_is)
    (case k4 => k_is)
    (case a5 => k_is)
    (case l5 => k_is)
    (case c5 => k_is)
    (case k5 => k_is)
    (case a6 => k_is)
    (case l6 => k_is)
    (case c6 => k_is)
    (case k6 => k_is)
    (case a7 => k_is)
    (case l7 => k_is)
    (case c7 => k_is)
    (case k7 => k_is)
    (case a8 => k_is)
    (case b8 => k_is)
    (case l8 => k_is)
    (case c8 => k_is)
    (case k8 => k_is)
    (case a9 => k_is)
    (case b9 => k_is)
    (case l9 => k_is)
    (case c9 => k_is)
    (case k9 => k_is)
    (case a10 => k_is)
    (case b10 => k_is)
    (case l10 => k_is)
    (case c10 => k_is)
    (case k10 => k_is)
    (case a11 => k_is)
    (case l11 => k_is)
    (case c11 => k_is)
    (case k11 => k_is)
    (case a12 => k_is)
    (case l12 => k_is)
    (case c12 => k_is)
    (case k12 => k_is)
    (case a13 => k_is)
    (case l13 => k_is)
    (case c13 => k_is)
    (case k13 => k_is)
    (case a14 => k_is)
    (case l14 => k_is)
    (case c14 => k_is)
    (case k14 => k_is)
    (case a15 => k_is)
    (case l15 => k_is)
    (case c15 => k_is)
    (case k15 => k_is)
    (case a16 => k_is)
    (case l16 => k_is)
    (case c16 => k_is)
    (case k16 => k_is)
    (case a17 => k_is)
    (case l17 => k_is)
    (case c17 => k_is)
    (case k17 => k_is)
    (case a18 => k_is)
    (case l18 => k_is)
    (case c18 => k_is)
    (case k18 => k_is)
    (case a19 => k_is)
    (case l19 => k_is)
    (case c19 => k_is)
    (case k19 => k_is)
    (case a20 => k_is)
    (case l20 => k_is)
    (case c20 => k_is)
    (case k20 => k_is)
    (case a21 => k_is)
    (case l21 => k_is)
    (case c21 => k_is)
    (case k21 => k_is)
    (case z0 => k_is)
    (case z1 => k_is)
    (case z2 => k_is)
    (case z3 => k_is)
    (case z4 => k_is)
    (case z5 => k_is)
    (case z6 => k_is)
    (case z7 => k_is)
    (case z8 => k_is)
    (case z9 => k_is)
    (case z10 => k_is)
    (case z11 => k_is)
    (case z12 => k_is)
    (case lit0 => k_is)
    (case lit1 => k_is)
    (case xa0 => k_is)
    (case xL0 => k_is)
    (case xsa0 => k_is)
    (case xi0 => k_is)
    (case xt0 => k_is)
    (case xl0 => k_is)
    (case xc0 => k_is)
    (case xkf0 => k_is)
    (case xn0_0 => k_is)
    (case xv0 => k_is)
    (case xk0 => k_is)
    (case xex0 => k_is)
    (case xty0 => k_is)
    (case xhd0 => k_is)
    (case xss0 => first | rfl | k_is)
    (case xga0 => k_is)
    (case xgg0 => k_is)
    (case xcl0 => k_is)
    (case xge0 => k_is)
    (case xtk0 => k_is)
    (case xmo0 => k_is)
    (case xa1 => k_is)
    (case xL1 => k_is)
    (case xsa1 => k_is)
    (case xi1 => k_is)
    (case xt1 => k_is)
    (case xl1 => k_is)
    (case xc1 => k_is)
    (case xkf1 => k_is)
    (case xn0_1 => k_is)
    (case xv1 => k_is)
    (case xk1 => k_is)
    (case xex1 => k_is)
    (case xty1 => k_is)
    (case xhd1 => k_is)
    (case xss1 => first | rfl | k_is)
    (case xga1 => k_is)
    (case xgg1 => k_is)
    (case xcl1 => k_is)
    (case xge1 => k_is)
    (case xtk1 => k_is)
    (case xmo1 => k_is)
    (case ya0 => k_is)
    (case ya1 => k_is)
    (case ya2 => k_is)
    (case ya3 => k_is)
    (case ya4 => k_is)
    (case ya5 => k_is)
    (case ya6 => k_is)
    (case ya7 => k_is)
    (case ya8 => k_is)
    (case ya9 => k_is)
    (case ya10 => k_is)
    (case ya11 => k_is)
    (case ya12 => k_is)
    (case ya13 => k_is)
    (case ya14 => k_is)
    (case ya15 => k_is)
    (case ya16 => k_is)
    (case ya17 => k_is)
    (case ya18 => k_is)
    (case ya19 => k_is)
    (case ya20 => k_is)
    (case ya21 => k_is)
    (case ya22 => k_is)
    (case ya23 => k_is)
    (case ki0 => kit_is)
    (case ki1 => kit_is)
    (case ki2 => kit_is)
    (case ki3 => kit_is)
    (case ki4 => kit_is)
    (case ki5 => kit_is)
    (case ki6 => kit_is)
    (case ki7 => kit_is)
    (case ki8 => kit_is)
    (case ki9 => kit_is)
    (case ki10 => kit_is)
    (case ki11 => kit_is)
    (case ki12 => kit_is)
    (case ki13 => kit_is)
    (case ki14 => kit_is)
    (case ki15 => kit_is)
    (case ki16 => kit_is)
    (case ki17 => kit_is)
    (case ki18 => kit_is)
    (case ki19 => kit_is)
    (case ki20 => kit_is)
    (case ki21 => kit_is)
    (case ki22 => kit_is)
    (case ki23 => kit_is)
    (case ki24 => kit_is)
    (case ki25 => kit_is)
    (case ki26 => kit_is)
#print axioms PySem.Challenge.cw_whistleboard_k44_without_a_join_holds
