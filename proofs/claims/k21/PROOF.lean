import PyProof.Rows.All
import Wide.All
import OpenK.AllK
import Wide.FinOn
import PyProof.EqAt
import PyProof.EqKinds
import PyProof.TupleCall
import HandS.ForMost
import HandS.ForExc
import HandS.CallSlots
import HandS.TupAny
import HandS.Style
import HandS.IsInst
import HandS.Codes
import KE.SortData
import HandS.SetKeys
import HandS.SetFor
import HandS.Defaults
import HandS.SortInts
import HandS.Strs
import KE.KDictPairs
import PyProof.StrOps2
import HandS.Text
import HandS.TupMul
import HandS.IntHex
import HandS.HeadHook3
import HandS.RaiseMore
import HandS.Zip
import KE.KWords
import KE.KStrOpen
import KE.KIntText
import PyProof.Rows.StrCase
import KE.KExcInit
import KE.KExcIs
import HandS.ExcInit
import HandS.ExcField
import HandS.ExcOwn
import HandS.ExcIs
import KE.KDictList
import HandS.More
import HandS.Conv
import KE.IntTextLaws
import PyProof.StrLawsChain
import PyProof.StrLawsTight
import PyProof.Rows.StrItems
import PySem.Challenge.RW_whistleboard_k21_calls_nearly_read
set_option Elab.async false
set_option linter.all false
set_option maxRecDepth 100000
set_option maxHeartbeats 0
/-! DLa: values as trees of data, the mutable objects apart; what stands in the heap for them. -/
namespace DL
open PySem L2

/-- data: None, truths, numbers, texts, tuples, lists that are changed no more, dicts that are changed no more, instances that are changed no more; exc: an exception in hand (its dict, its fields); ref: an object that may change, or one of the program's own -/
inductive D where
  | non | bl (b : Bool) | int (i : Int) | str (x : Str) | ty (n : String) | ref (a : Addr)
  | tup (xs : List D) | lst (xs : List D)
  | ktp (xs : List D)
  | scr (ns : List Int)
  | dct (ks : List Key) (xs : List D)
  | ins (C : Addr) (ns : List Str) (xs : List D)
  | exc (a : Addr) (dx : Option Addr) (ns : List Str) (xs : List D)

/-- objects that may change -/
inductive MO where
  | lst (xs : List D)
  | dK (kvs : List (Key × D))
  | dT (kvs : List (List Key × D))
  | ins (C : Addr) (fs : List (Str × D))
  | lk (ho : HO) (kvs : List (Key × D))
  | lkT (ho : HO) (kvs : List (List Key × D))
  | bag
abbrev Mst := Addr → Option MO

/-- a key that is an int, or a text as they are -/
def kOk : Key → Prop
  | .inl _ => True
  | .inr x => x.length ≤ sizeLine ∧ PyData.strOk x = true
mutual
def Rep (K : PySem.W.Frag) (G : Hp) : D → V → Prop
  | .non, v => v = .non
  | .bl b, v => v = .bl b
  | .int i, v => v = .int i
  | .str x, v => v = .str x ∧ x.length ≤ sizeLine ∧ PyData.strOk x = true
  | .ty n, v => v = .ty n
  | .ref a, v => v = .ref a
  | .tup ds, v => ∃ a vs, v = .ref a ∧ G a = some (.tup vs) ∧ RepL K G ds vs ∧ vs.length ≤ sizeLine
  | .ktp ds, v => ∃ a vs, v = .ref a ∧ SqT K G a vs ∧ RepL K G ds vs ∧ vs.length ≤ sizeLine
  | .lst ds, v => ∃ a vs, v = .ref a ∧ G a = some (.lst vs) ∧ RepL K G ds vs ∧ vs.length ≤ sizeLine
  | .scr ns, v => ∃ a, v = .ref a ∧ SqL K G a (ns.map V.int) ∧ ns.length ≤ 63
  | .dct ks ds, v => ∃ a kvs, v = .ref a ∧ Rd G a (.dK kvs) ∧ kvs.map (·.1) = ks ∧ RepL K G ds (kvs.map (·.2)) ∧ kvs.length ≤ sizeLine ∧ ∀ k ∈ ks, kOk k
  | .ins C ns ds, v => ∃ a dx fs, v = .ref a ∧ G a = some (.ins C dx fs) ∧ fs.map (·.1) = ns ∧ RepL K G ds (fs.map (·.2))
  | .exc a dx ns ds, v => v = .ref a ∧ (ns = [] ∧ dx = none ∨ ∃ d fs, dx = some d ∧ G d = some (.xd fs) ∧ fs.map (·.1) = ns ∧ RepL K G ds (fs.map (·.2)))
def RepL (K : PySem.W.Frag) (G : Hp) : List D → List V → Prop
  | [], vs => vs = []
  | d :: ds, vs => ∃ v r, vs = v :: r ∧ Rep K G d v ∧ RepL K G ds r
end

theorem same_rd {H H' : Hp} {a : Addr} {u : HO} (e : Same H H') (h : Rd H a u) : Rd H' a u := by
  rcases h with h | ⟨o, h⟩
  · exact .inl (e _ _ h)
  · exact .inr ⟨o, e _ _ h⟩
theorem same_t {K : PySem.W.Frag} {H H' : Hp} {a : Addr} {xs : List V} (e : Same H H') (h : SqT K H a xs) : SqT K H' a xs := by
  rcases h with h | h
  · exact .inl (same_rd e h)
  · exact .inr h
theorem same_l {K : PySem.W.Frag} {H H' : Hp} {a : Addr} {xs : List V} (e : Same H H') (h : SqL K H a xs) : SqL K H' a xs := e.seq h
mutual
theorem Rep.mono {K : PySem.W.Frag} {G G' : Hp} (e : Same G G') : ∀ (d : D) (v : V), Rep K G d v → Rep K G' d v
  | .non, _, h => h
  | .bl _, _, h => h
  | .int _, _, h => h
  | .str _, _, h => h
  | .ty _, _, h => h
  | .ref _, _, h => h
  | .tup ds, _, ⟨a, vs, h1, h2, h3, h4⟩ => ⟨a, vs, h1, e _ _ h2, RepL.mono e ds vs h3, h4⟩
  | .ktp ds, _, ⟨a, vs, h1, h2, h3, h4⟩ => ⟨a, vs, h1, same_t e h2, RepL.mono e ds vs h3, h4⟩
  | .lst ds, _, ⟨a, vs, h1, h2, h3, h4⟩ => ⟨a, vs, h1, e _ _ h2, RepL.mono e ds vs h3, h4⟩
  | .scr _, _, ⟨a, h1, h2, h3⟩ => ⟨a, h1, same_l e h2, h3⟩
  | .dct _ ds, _, ⟨a, kvs, h1, h2, h3, h4, h5, h6⟩ => ⟨a, kvs, h1, same_rd e h2, h3, RepL.mono e ds _ h4, h5, h6⟩
  | .ins _ _ ds, _, ⟨a, dx, fs, h1, h2, h3, h4⟩ => ⟨a, dx, fs, h1, e _ _ h2, h3, RepL.mono e ds _ h4⟩
  | .exc _ _ _ ds, _, ⟨h0, h⟩ => ⟨h0, h.imp id fun ⟨d, fs, h1, h2, h3, h4⟩ => ⟨d, fs, h1, e _ _ h2, h3, RepL.mono e ds _ h4⟩⟩
theorem RepL.mono {K : PySem.W.Frag} {G G' : Hp} (e : Same G G') : ∀ (ds : List D) (vs : List V), RepL K G ds vs → RepL K G' ds vs
  | [], _, h => h
  | d :: ds, _, ⟨v, r, h1, h2, h3⟩ => ⟨v, r, h1, Rep.mono e d v h2, RepL.mono e ds r h3⟩
end
section
variable {K : PySem.W.Frag} {G G' H H' : Hp} {d : D} {ds : List D} {v : V} {vs : List V}
theorem RepL.nil : RepL K G [] [] := rfl
theorem RepL.cons (h : Rep K G d v) (r : RepL K G ds vs) : RepL K G (d :: ds) (v :: vs) := ⟨v, vs, rfl, h, r⟩
theorem RepL.length : ∀ {ds : List D} {vs : List V}, RepL K G ds vs → vs.length = ds.length
  | [], _, h => by cases h; rfl
  | d :: ds, _, ⟨v, r, h1, h2, h3⟩ => by cases h1; simp [RepL.length h3]
theorem RepL.get : ∀ {ds : List D} {vs : List V} {i : Nat} {d : D}, RepL K G ds vs → ds[i]? = some d → ∃ v, vs[i]? = some v ∧ Rep K G d v
  | [], _, _, _, h, e => by simp at e
  | d :: ds, _, 0, _, ⟨v, r, h1, h2, h3⟩, e => by cases h1; simp at e; subst e; exact ⟨v, rfl, h2⟩
  | d :: ds, _, i + 1, _, ⟨v, r, h1, h2, h3⟩, e => by
    cases h1
    obtain ⟨u, a, b⟩ := RepL.get (i := i) h3 (by simpa using e)
    exact ⟨u, by simpa using a, b⟩
theorem RepL.getV : ∀ {ds : List D} {vs : List V} {i : Nat} {v : V}, RepL K G ds vs → vs[i]? = some v → ∃ d, ds[i]? = some d ∧ Rep K G d v
  | [], _, _, _, h, e => by cases h; simp at e
  | d :: ds, _, 0, _, ⟨v, r, h1, h2, h3⟩, e => by cases h1; simp at e; subst e; exact ⟨d, rfl, h2⟩
  | d :: ds, _, i + 1, _, ⟨v, r, h1, h2, h3⟩, e => by
    cases h1
    obtain ⟨u, a, b⟩ := RepL.getV (i := i) h3 (by simpa using e)
    exact ⟨u, by simpa using a, b⟩
theorem RepL.append : ∀ {ds es : List D} {vs us : List V}, RepL K G ds vs → RepL K G es us → RepL K G (ds ++ es) (vs ++ us)
  | [], _, _, _, h, r => by cases h; simpa using r
  | d :: ds, _, _, _, ⟨v, q, h1, h2, h3⟩, r => by
    cases h1
    exact ⟨v, _, rfl, h2, RepL.append h3 r⟩
theorem RepL.take : ∀ {ds : List D} {vs : List V} (n : Nat), RepL K G ds vs → RepL K G (ds.take n) (vs.take n)
  | [], _, n, h => by cases h; simp; rfl
  | d :: ds, _, 0, h => by simp; rfl
  | d :: ds, _, n + 1, ⟨v, q, h1, h2, h3⟩ => by
    cases h1
    exact ⟨v, _, rfl, h2, RepL.take n h3⟩
theorem RepL.drop : ∀ {ds : List D} {vs : List V} (n : Nat), RepL K G ds vs → RepL K G (ds.drop n) (vs.drop n)
  | [], _, n, h => by cases h; simp; rfl
  | d :: ds, _, 0, h => by simpa using h
  | d :: ds, _, n + 1, ⟨v, q, h1, h2, h3⟩ => by
    cases h1
    simpa using RepL.drop n h3
theorem RepL.set : ∀ {ds : List D} {vs : List V} (n : Nat), RepL K G ds vs → Rep K G d v → RepL K G (ds.set n d) (vs.set n v)
  | [], _, n, h, _ => by cases h; simp; rfl
  | e :: ds, _, 0, ⟨w, q, h1, h2, h3⟩, r => by cases h1; exact ⟨v, _, rfl, r, h3⟩
  | e :: ds, _, n + 1, ⟨w, q, h1, h2, h3⟩, r => by
    cases h1
    exact ⟨w, _, rfl, h2, RepL.set n h3 r⟩
theorem RepL.reverse : ∀ {ds : List D} {vs : List V}, RepL K G ds vs → RepL K G ds.reverse vs.reverse
  | [], _, h => by cases h; simp; rfl
  | d :: ds, _, ⟨v, q, h1, h2, h3⟩ => by
    cases h1
    rw [List.reverse_cons, List.reverse_cons]
    exact RepL.append (RepL.reverse h3) (RepL.cons h2 rfl)
end

/-- what a mutable object is -/
def RepM (K : PySem.W.Frag) (G H : Hp) (a : Addr) : MO → Prop
  | .lst ds => ∃ vs, H a = some (.lst vs) ∧ RepL K G ds vs ∧ vs.length ≤ sizeLine
  | .dK kvs => ∃ kv : List (Key × V), H a = some (.dK kv) ∧ kv.map (·.1) = kvs.map (·.1) ∧ RepL K G (kvs.map (·.2)) (kv.map (·.2)) ∧ kv.length ≤ sizeLine ∧ ∀ q ∈ kvs, kOk q.1
  | .dT kvs => ∃ kv : List (List Key × V), H a = some (.dT kv) ∧ kv.map (·.1) = kvs.map (·.1) ∧ RepL K G (kvs.map (·.2)) (kv.map (·.2)) ∧ kv.length ≤ sizeLine ∧ ∀ q ∈ kvs, q.1.length ≤ sizeLine ∧ ∀ k ∈ q.1, kOk k
  | .ins C fs => ∃ dx fv, H a = some (.ins C dx fv) ∧ fv.map (·.1) = fs.map (·.1) ∧ RepL K G (fs.map (·.2)) (fv.map (·.2))
  | .lk ho kvs => ∃ (o : Obj) (kv : List (Key × V)), ho = .frz o (.dK kv) ∧ H a = some ho ∧ kv.map (·.1) = kvs.map (·.1) ∧ RepL K G (kvs.map (·.2)) (kv.map (·.2)) ∧ kv.length ≤ sizeLine ∧ ∀ q ∈ kvs, kOk q.1
  | .lkT ho kvs => ∃ (o : Obj) (kv : List (List Key × V)), ho = .frz o (.dT kv) ∧ H a = some ho ∧ kv.map (·.1) = kvs.map (·.1) ∧ RepL K G (kvs.map (·.2)) (kv.map (·.2)) ∧ kv.length ≤ sizeLine ∧ ∀ q ∈ kvs, q.1.length ≤ sizeLine ∧ ∀ k ∈ q.1, kOk k
  | .bag => ∃ g m : Int, H a = some (.lst [.int g, .int m]) ∧ 0 ≤ g ∧ 0 ≤ m ∧ m < 2147483648
/-- the mutable objects stand in H, apart from what is known for good (G) -/
def MemOk (K : PySem.W.Frag) (G H : Hp) (M : Mst) : Prop := ∀ a o, M a = some o → G a = none ∧ RepM K G H a o
abbrev Rho := List (Option D)
/-- the slots, the heap and what is known of them -/
structure Sim (K : PySem.W.Frag) (G H : Hp) (p : Rho) (M : Mst) (s : St) : Prop where
  same : Same G H
  env : ∀ (i : Nat) (d : D), p[i]? = some (some d) → ∃ v, s[i]? = some (some v) ∧ Rep K G d v
  len : s.length = p.length
  mem : MemOk K G H M

/-- an exception: its class, its fields -/
structure DX where
  cls : Value
  fs : List (Str × D)
def RepX (K : PySem.W.Frag) (G : Hp) (x : DX) (cls : Value) (dx : Option Addr) : Prop :=
  cls = x.cls ∧ (x.fs = [] ∧ (∀ C, x.cls = .ref C → dx = none) ∨ ∃ d vf, dx = some d ∧ G d = some (.xd vf) ∧ vf.map (·.1) = x.fs.map (·.1) ∧ RepL K G (x.fs.map (·.2)) (vf.map (·.2)))

abbrev DK := D → Mst → Prop
abbrev DWt := DX → Rho → Mst → Prop
abbrev DTE := DWt → Rho → Mst → DK → Prop
abbrev DTT := DWt → Rho → Mst → (Bool → Mst → Prop) → Prop
abbrev DTA := DWt → Rho → Mst → (List D → Mst → Prop) → Prop
structure DEnds where
  nx : Rho → Mst → Prop
  rt : DK
  bk : Rho → Mst → Prop := fun _ _ => False
  ct : Rho → Mst → Prop := fun _ _ => False
abbrev DTS := DWt → DEnds → Rho → Mst → Prop
abbrev DTG := D → DWt → Rho → Mst → (Rho → Mst → Prop) → Prop
abbrev DTGs := List D → DWt → Rho → Mst → (Rho → Mst → Prop) → Prop
abbrev DOp := D → D → Mst → DK → Prop
abbrev DUn := D → Mst → DK → Prop
abbrev DCa := List D → Mst → DK → Prop
/-- a promise by data -/
abbrev DSp := List D → Mst → DK → (DX → Mst → Prop) → Prop

/-- the wish about exceptions -/
def WLink (K : PySem.W.Frag) (G : Hp) (DW : DWt) (W : WX) : Prop := ∀ G' H' p' M' s' x cls dx, Same G G' → Sim K G' H' p' M' s' → RepX K G' x cls dx → DW x p' M' → W cls dx s' H'
theorem WLink.mono {K : PySem.W.Frag} {G G' : Hp} {DW : DWt} {W : WX} (e : Same G G') (h : WLink K G DW W) : WLink K G' DW W :=
  fun G2 H' p' M' s' x cls dx e2 => h G2 H' p' M' s' x cls dx (e.trans e2)

def RefE (K : PySem.W.Frag) (W : WX) (t : TE) (q : DTE) : Prop := ∀ DW G H p M s (Q : DK) (Q' : VK), WLink K G DW W → Sim K G H p M s → q DW p M Q →
  (∀ G' H' M' d v, Same G G' → Sim K G' H' p M' s → Rep K G' d v → Q d M' → Q' v H') → t s H Q'
def RefT (K : PySem.W.Frag) (W : WX) (t : TT) (q : DTT) : Prop := ∀ DW G H p M s (Q : Bool → Mst → Prop) (Q' : Bool → Hp → Prop), WLink K G DW W → Sim K G H p M s → q DW p M Q →
  (∀ G' H' M' b, Same G G' → Sim K G' H' p M' s → Q b M' → Q' b H') → t s H Q'
def RefA (K : PySem.W.Frag) (W : WX) (t : TA) (q : DTA) : Prop := ∀ DW G H p M s (Q : List D → Mst → Prop) (Q' : List V → Hp → Prop), WLink K G DW W → Sim K G H p M s → q DW p M Q →
  (∀ G' H' M' ds vs, Same G G' → Sim K G' H' p M' s → RepL K G' ds vs → Q ds M' → Q' vs H') → t s H Q'
structure EndsOk (K : PySem.W.Frag) (G : Hp) (DE : DEnds) (E : Ends) : Prop where
  nx : ∀ G' H' p' M' s', Same G G' → Sim K G' H' p' M' s' → DE.nx p' M' → E.nx s' H'
  rt : ∀ G' H' p' M' s' d v, Same G G' → Sim K G' H' p' M' s' → Rep K G' d v → DE.rt d M' → E.rt v H'
  bk : ∀ G' H' p' M' s', Same G G' → Sim K G' H' p' M' s' → DE.bk p' M' → E.bk s' H'
  ct : ∀ G' H' p' M' s', Same G G' → Sim K G' H' p' M' s' → DE.ct p' M' → E.ct s' H'
theorem EndsOk.mono {K : PySem.W.Frag} {G G' : Hp} {DE : DEnds} {E : Ends} (e : Same G G') (h : EndsOk K G DE E) : EndsOk K G' DE E :=
  ⟨fun G2 H' p' M' s' e2 => h.nx G2 H' p' M' s' (e.trans e2), fun G2 H' p' M' s' d v e2 => h.rt G2 H' p' M' s' d v (e.trans e2),
    fun G2 H' p' M' s' e2 => h.bk G2 H' p' M' s' (e.trans e2), fun G2 H' p' M' s' e2 => h.ct G2 H' p' M' s' (e.trans e2)⟩
def RefS (K : PySem.W.Frag) (W : WX) (t : TS) (q : DTS) : Prop := ∀ DW G H p M s (DE : DEnds) (E : Ends), WLink K G DW W → Sim K G H p M s → q DW DE p M → EndsOk K G DE E → t E s H
def RefG (K : PySem.W.Frag) (W : WX) (t : TG) (q : DTG) : Prop := ∀ DW G H p M s d v (Q : Rho → Mst → Prop) (Q' : St → Hp → Prop), WLink K G DW W → Sim K G H p M s → Rep K G d v → q d DW p M Q →
  (∀ G' H' p' M' s', Same G G' → Sim K G' H' p' M' s' → Q p' M' → Q' s' H') → t v s H Q'
def RefGs (K : PySem.W.Frag) (W : WX) (t : TGs) (q : DTGs) : Prop := ∀ DW G H p M s ds vs (Q : Rho → Mst → Prop) (Q' : St → Hp → Prop), WLink K G DW W → Sim K G H p M s → RepL K G ds vs → q ds DW p M Q →
  (∀ G' H' p' M' s', Same G G' → Sim K G' H' p' M' s' → Q p' M' → Q' s' H') → t vs s H Q'
/-- rules by values -/
def RefR2 (K : PySem.W.Frag) (r : R2) (q : DOp) : Prop := ∀ G H p M s x y v u (Q : DK) (Q' : VK), Sim K G H p M s → Rep K G x v → Rep K G y u → q x y M Q →
  (∀ G' H' M' d w, Same G G' → Sim K G' H' p M' s → Rep K G' d w → Q d M' → Q' w H') → r v u H Q'
def RefU (K : PySem.W.Frag) (r : V → Hp → VK → Prop) (q : DUn) : Prop := ∀ G H p M s x v (Q : DK) (Q' : VK), Sim K G H p M s → Rep K G x v → q x M Q →
  (∀ G' H' M' d w, Same G G' → Sim K G' H' p M' s → Rep K G' d w → Q d M' → Q' w H') → r v H Q'
def RefC (K : PySem.W.Frag) (r : List V → Hp → VK → Prop) (q : DCa) : Prop := ∀ G H p M s ds vs (Q : DK) (Q' : VK), Sim K G H p M s → RepL K G ds vs → q ds M Q →
  (∀ G' H' M' d w, Same G G' → Sim K G' H' p M' s → Rep K G' d w → Q d M' → Q' w H') → r vs H Q'

structure QE (X : Cx) (W : WX) (e : Expr) (t : TE) (q : DTE) : Prop where
  pe : PE X e t
  rf : RefE X.K W t q
structure QT (X : Cx) (W : WX) (e : Expr) (t : TT) (q : DTT) : Prop where
  pe : PT X e t
  rf : RefT X.K W t q
structure QW (X : Cx) (W : WX) (e : Expr) (t : TT) (q : DTT) : Prop where
  pe : PW X e t
  rf : RefT X.K W t q
structure QA (X : Cx) (W : WX) (es : List Expr) (t : TA) (q : DTA) : Prop where
  pe : PA X es t
  rf : RefA X.K W t q
structure QS (X : Cx) (W : WX) (st : Stmt) (t : TS) (q : DTS) : Prop where
  pe : PS X st t
  rf : RefS X.K W t q
structure QSs (X : Cx) (W : WX) (st : List Stmt) (t : TS) (q : DTS) : Prop where
  pe : PSs X st t
  rf : RefS X.K W t q
structure QG (X : Cx) (W : WX) (tg : Expr) (t : TG) (q : DTG) : Prop where
  pe : PG X tg t
  rf : RefG X.K W t q
structure QGs (X : Cx) (W : WX) (tg : List Expr) (t : TGs) (q : DTGs) : Prop where
  pe : PGs X tg t
  rf : RefGs X.K W t q
structure QOp (X : Cx) (f : Value → Value → Sem Value) (r : R2) (q : DOp) : Prop where
  op : OpR X f r
  rf : RefR2 X.K r q
structure QCa (X : Cx) (f : Value) (r : List V → Hp → VK → Prop) (q : DCa) : Prop where
  op : CallR X f r
  rf : RefC X.K r q
theorem QW.t {X : Cx} {W : WX} {e : Expr} {t : TT} {q : DTT} (h : QW X W e t q) : QT X W e t q := ⟨h.pe.pt, h.rf⟩

/-! ### the mutable store -/
def put (M : Mst) (a : Addr) (o : MO) : Mst := fun b => if b = a then some o else M b
def del (M : Mst) (a : Addr) : Mst := fun b => if b = a then none else M b
section
variable {M : Mst} {a b : Addr} {o u : MO}
@[simp] theorem put_same : put M a o a = some o := by simp [put]
theorem put_ne (h : b ≠ a) : put M a o b = M b := by simp [put, h]
@[simp] theorem put_put : put (put M a o) a u = put M a u := by
  funext c; unfold put; split <;> rfl
@[simp] theorem del_put (h : M a = none) : del (put M a o) a = M := by
  funext c
  unfold del put
  split
  · next e => rw [e, h]
  · rfl
theorem put_comm (h : a ≠ b) : put (put M a o) b u = put (put M b u) a o := by
  funext c; unfold put
  by_cases h1 : c = b
  · by_cases h2 : c = a
    · exact absurd (h2.symm.trans h1) h
    · simp [h1, h2, Ne.symm h]
  · simp [h1]
theorem put_id (h : M a = some o) : put M a o = M := by
  funext c; unfold put; split
  · next e => rw [e, h]
  · rfl
end

section
variable {K : PySem.W.Frag} {G G' H H' : Hp} {p : Rho} {M : Mst} {s : St} {a : Addr} {o : HO} {mo : MO}
theorem RepM.mono {a : Addr} {mo : MO} (e : Same G G') (h : RepM K G H a mo) (hh : H' a = H a) : RepM K G' H' a mo := by
  cases mo with
  | lst ds => obtain ⟨vs, h1, h2, h3⟩ := h; exact ⟨vs, hh.trans h1, RepL.mono e _ _ h2, h3⟩
  | dK kvs => obtain ⟨vs, h1, h2, h3, h4⟩ := h; exact ⟨vs, hh.trans h1, h2, RepL.mono e _ _ h3, h4⟩
  | dT kvs => obtain ⟨vs, h1, h2, h3, h4⟩ := h; exact ⟨vs, hh.trans h1, h2, RepL.mono e _ _ h3, h4⟩
  | ins C fs => obtain ⟨dx, vs, h1, h2, h3⟩ := h; exact ⟨dx, vs, hh.trans h1, h2, RepL.mono e _ _ h3⟩
  | lk ho kvs => obtain ⟨o, vs, h0, h1, h2, h3, h4⟩ := h; exact ⟨o, vs, h0, hh.trans h1, h2, RepL.mono e _ _ h3, h4⟩
  | lkT ho kvs => obtain ⟨o, vs, h0, h1, h2, h3, h4⟩ := h; exact ⟨o, vs, h0, hh.trans h1, h2, RepL.mono e _ _ h3, h4⟩
  | bag => obtain ⟨g, m, h1, h2⟩ := h; exact ⟨g, m, hh.trans h1, h2⟩
theorem RepM.there (h : RepM K G H a mo) : ∃ o, H a = some o := by
  cases mo with
  | lst ds => obtain ⟨vs, h1, _⟩ := h; exact ⟨_, h1⟩
  | dK ds => obtain ⟨vs, h1, _⟩ := h; exact ⟨_, h1⟩
  | dT ds => obtain ⟨vs, h1, _⟩ := h; exact ⟨_, h1⟩
  | ins C ds => obtain ⟨dx, vs, h1, _⟩ := h; exact ⟨_, h1⟩
  | lk ho ds => obtain ⟨o, vs, _, h1, _⟩ := h; exact ⟨_, h1⟩
  | lkT ho ds => obtain ⟨o, vs, _, h1, _⟩ := h; exact ⟨_, h1⟩
  | bag => obtain ⟨g, vs, h1, _⟩ := h; exact ⟨_, h1⟩
theorem MemOk.fresh (h : MemOk K G H M) (e : H a = none) : M a = none := by
  cases q : M a with
  | none => rfl
  | some u =>
    obtain ⟨o, r⟩ := (h a u q).2.there
    rw [e] at r; cases r
theorem Same.upd (e : Same G H) (hn : H a = none) : Same (upd G a o) (upd H a o) := fun b u q => by
  by_cases h : b = a
  · subst h; rw [upd_same] at q ⊢; exact q
  · rw [upd_ne h] at q ⊢; exact e _ _ q
theorem same_new (hn : H a = none) : Same H (upd H a o) := fun b u q => by rw [upd_ne (ne_of_none q hn)]; exact q
/-- what is frozen grows by what is not mutable -/
theorem MemOk.grow (h : MemOk K G H M) (e : Same G G') (hk : ∀ b u, M b = some u → H' b = H b) (hg : ∀ b u, M b = some u → G' b = none) : MemOk K G' H' M := fun b u q =>
  ⟨hg b u q, (h b u q).2.mono e (hk b u q)⟩
/-- a new object that will not change -/
theorem Sim.made (S : Sim K G H p M s) (hn : H a = none) : Same G (L2.upd G a o) ∧ Sim K (L2.upd G a o) (L2.upd H a o) p M s := by
  have gn : G a = none := S.same.free hn
  have mn : M a = none := S.mem.fresh hn
  have e : Same G (L2.upd G a o) := same_new gn
  have ne : ∀ b u, M b = some u → b ≠ a := fun b u q z => by rw [z, mn] at q; cases q
  refine ⟨e, Same.upd S.same hn, fun i d q => ?_, S.len, S.mem.grow e (fun b u q => upd_ne (ne b u q)) (fun b u q => by rw [upd_ne (ne b u q)]; exact (S.mem b u q).1)⟩
  obtain ⟨v, h1, h2⟩ := S.env i d q
  exact ⟨v, h1, Rep.mono e _ _ h2⟩
/-- a mutable object is new, or changes -/
theorem Sim.put (S : Sim K G H p M s) (hg : G a = none) (h : RepM K G (L2.upd H a o) a mo) : Sim K G (L2.upd H a o) p (put M a mo) s := by
  refine ⟨fun b u q => ?_, S.env, S.len, fun b u q => ?_⟩
  · rw [upd_ne (ne_of_none q hg)]; exact S.same b u q
  · by_cases e : b = a
    · subst e; rw [put_same] at q; cases q; exact ⟨hg, h⟩
    · rw [put_ne e] at q
      exact ⟨(S.mem b u q).1, (S.mem b u q).2.mono (Same.refl G) (upd_ne e)⟩
/-- a mutable list will change no more -/
theorem Sim.freeze {ds : List D} (S : Sim K G H p M s) (h : M a = some (.lst ds)) : ∃ G', Same G G' ∧ Sim K G' H p (del M a) s ∧ Rep K G' (.lst ds) (.ref a) := by
  obtain ⟨gn, vs, h1, h2, h3⟩ := S.mem _ _ h
  have e : Same G (L2.upd G a (.lst vs)) := same_new gn
  refine ⟨L2.upd G a (.lst vs), e, ⟨fun b u q => ?_, fun i d q => ?_, S.len, fun b u q => ?_⟩, a, vs, rfl, upd_same, RepL.mono e _ _ h2, h3⟩
  · by_cases z : b = a
    · subst z; rw [upd_same] at q; cases q; exact h1
    · rw [upd_ne z] at q; exact S.same _ _ q
  · obtain ⟨v, r1, r2⟩ := S.env i d q
    exact ⟨v, r1, Rep.mono e _ _ r2⟩
  · by_cases z : b = a
    · subst z; simp [del] at q
    · have q' : M b = some u := by simpa [del, z] using q
      exact ⟨by rw [upd_ne z]; exact (S.mem b u q').1, (S.mem b u q').2.mono e rfl⟩
theorem Sim.freezeD {kvs : List (Key × D)} (S : Sim K G H p M s) (h : M a = some (.dK kvs)) : ∃ G', Same G G' ∧ Sim K G' H p (del M a) s ∧ Rep K G' (.dct (kvs.map (·.1)) (kvs.map (·.2))) (.ref a) := by
  obtain ⟨gn, vs, h1, h2, h3, h4, h5⟩ := S.mem _ _ h
  have e : Same G (L2.upd G a (.dK vs)) := same_new gn
  refine ⟨L2.upd G a (.dK vs), e, ⟨fun b u q => ?_, fun i d q => ?_, S.len, fun b u q => ?_⟩, a, vs, rfl, .inl upd_same, h2, RepL.mono e _ _ h3, h4, fun k hk => by obtain ⟨q, q1, rfl⟩ := List.mem_map.mp hk; exact h5 q q1⟩
  · by_cases z : b = a
    · subst z; rw [upd_same] at q; cases q; exact h1
    · rw [upd_ne z] at q; exact S.same _ _ q
  · obtain ⟨v, r1, r2⟩ := S.env i d q
    exact ⟨v, r1, Rep.mono e _ _ r2⟩
  · by_cases z : b = a
    · subst z; simp [del] at q
    · have q' : M b = some u := by simpa [del, z] using q
      exact ⟨by rw [upd_ne z]; exact (S.mem b u q').1, (S.mem b u q').2.mono e rfl⟩
theorem Sim.freezeI {C : Addr} {fs : List (Str × D)} (S : Sim K G H p M s) (h : M a = some (.ins C fs)) : ∃ G', Same G G' ∧ Sim K G' H p (del M a) s ∧ Rep K G' (.ins C (fs.map (·.1)) (fs.map (·.2))) (.ref a) := by
  obtain ⟨gn, dx, vs, h1, h2, h3⟩ := S.mem _ _ h
  have e : Same G (L2.upd G a (.ins C dx vs)) := same_new gn
  refine ⟨L2.upd G a (.ins C dx vs), e, ⟨fun b u q => ?_, fun i d q => ?_, S.len, fun b u q => ?_⟩, a, dx, vs, rfl, upd_same, h2, RepL.mono e _ _ h3⟩
  · by_cases z : b = a
    · subst z; rw [upd_same] at q; cases q; exact h1
    · rw [upd_ne z] at q; exact S.same _ _ q
  · obtain ⟨v, r1, r2⟩ := S.env i d q
    exact ⟨v, r1, Rep.mono e _ _ r2⟩
  · by_cases z : b = a
    · subst z; simp [del] at q
    · have q' : M b = some u := by simpa [del, z] using q
      exact ⟨by rw [upd_ne z]; exact (S.mem b u q').1, (S.mem b u q').2.mono e rfl⟩
end
end DL

/-! DLb: expressions. -/
namespace DL
open PySem L2

/-- what a mutable object holds now -/
def res (M : Mst) : D → D
  | .ref a => match M a with
    | some (.lst ds) => .lst ds
    | some (.dK kvs) => .dct (kvs.map (·.1)) (kvs.map (·.2))
    | some (.lk _ kvs) => .dct (kvs.map (·.1)) (kvs.map (·.2))
    | some (.ins C fs) => .ins C (fs.map (·.1)) (fs.map (·.2))
    | _ => .ref a
  | .ktp ds => .tup ds
  | d => d
section
variable {M : Mst}
@[simp] theorem res_non : res M .non = .non := rfl
@[simp] theorem res_bl {b} : res M (.bl b) = .bl b := rfl
@[simp] theorem res_int {b} : res M (.int b) = .int b := rfl
@[simp] theorem res_str {b} : res M (.str b) = .str b := rfl
@[simp] theorem res_ty {b} : res M (.ty b) = .ty b := rfl
@[simp] theorem res_tup {b} : res M (.tup b) = .tup b := rfl
@[simp] theorem res_ktp {b} : res M (.ktp b) = .tup b := rfl
@[simp] theorem res_lst {b} : res M (.lst b) = .lst b := rfl
@[simp] theorem res_scr {b} : res M (.scr b) = .scr b := rfl
@[simp] theorem res_dct {b c} : res M (.dct b c) = .dct b c := rfl
@[simp] theorem res_exc {b c d e} : res M (.exc b c d e) = .exc b c d e := rfl
@[simp] theorem res_ins {b c d} : res M (.ins b c d) = .ins b c d := rfl
end
section
variable {K : PySem.W.Frag} {G H : Hp} {p : Rho} {M : Mst} {s : L2.St} {d : D} {v : V}
theorem as_lst {ds : List D} (S : Sim K G H p M s) (r : Rep K G d v) (h : res M d = .lst ds) : ∃ a vs, v = .ref a ∧ H a = some (.lst vs) ∧ RepL K G ds vs ∧ vs.length ≤ sizeLine := by
  cases d with
  | lst es =>
    cases h
    obtain ⟨a, vs, h1, h2, h3, h4⟩ := r
    exact ⟨a, vs, h1, S.same _ _ h2, h3, h4⟩
  | ref a =>
    simp only [res] at h
    split at h
    · next es e =>
      cases h
      obtain ⟨gn, vs, h1, h2, h3⟩ := S.mem _ _ e
      exact ⟨a, vs, r, h1, h2, h3⟩
    · cases h
    · cases h
    · cases h
    · cases h
  | _ => cases h
theorem as_tup {ds : List D} (S : Sim K G H p M s) (r : Rep K G d v) (h : res M d = .tup ds) : ∃ a vs, v = .ref a ∧ SqT K H a vs ∧ RepL K G ds vs ∧ vs.length ≤ sizeLine := by
  cases d with
  | tup es =>
    cases h
    obtain ⟨a, vs, h1, h2, h3, h4⟩ := r
    exact ⟨a, vs, h1, .inl (.inl (S.same _ _ h2)), h3, h4⟩
  | ktp es =>
    cases h
    obtain ⟨a, vs, h1, h2, h3, h4⟩ := r
    exact ⟨a, vs, h1, same_t S.same h2, h3, h4⟩
  | ref a =>
    simp only [res] at h
    split at h <;> cases h
  | _ => cases h
theorem as_str {x : Str} (r : Rep K G d v) (h : res M d = .str x) : v = .str x ∧ x.length ≤ sizeLine ∧ PyData.strOk x = true := by
  cases d with
  | str es => cases h; exact r
  | ref a =>
    simp only [res] at h
    split at h <;> cases h
  | _ => cases h
theorem as_int {x : Int} (r : Rep K G d v) (h : res M d = .int x) : v = .int x := by
  cases d with
  | int es => cases h; exact r
  | ref a =>
    simp only [res] at h
    split at h <;> cases h
  | _ => cases h
theorem as_bl {x : Bool} (r : Rep K G d v) (h : res M d = .bl x) : v = .bl x := by
  cases d with
  | bl es => cases h; exact r
  | ref a =>
    simp only [res] at h
    split at h <;> cases h
  | _ => cases h
theorem as_dct {ks : List Key} {ds : List D} (S : Sim K G H p M s) (r : Rep K G d v) (h : res M d = .dct ks ds) :
    ∃ a kvs, v = .ref a ∧ Rd H a (.dK kvs) ∧ kvs.map (·.1) = ks ∧ RepL K G ds (kvs.map (·.2)) ∧ kvs.length ≤ sizeLine ∧ ∀ k ∈ ks, kOk k := by
  cases d with
  | dct es fs =>
    cases h
    obtain ⟨a, vs, h1, h2, h3, h4, h5⟩ := r
    exact ⟨a, vs, h1, same_rd S.same h2, h3, h4, h5⟩
  | ref a =>
    simp only [res] at h
    split at h
    · cases h
    · next es e =>
      cases h
      obtain ⟨gn, vs, h1, h2, h3, h4, h5⟩ := S.mem _ _ e
      exact ⟨a, vs, r, .inl h1, h2, h3, h4, fun k hk => by obtain ⟨q, q1, rfl⟩ := List.mem_map.mp hk; exact h5 q q1⟩
    · next es e =>
      cases h
      obtain ⟨gn, o, vs, h0, h1, h2, h3, h4, h5⟩ := S.mem _ _ e
      exact ⟨a, vs, r, .inr ⟨o, by rw [← h0]; exact h1⟩, h2, h3, h4, fun k hk => by obtain ⟨q, q1, rfl⟩ := List.mem_map.mp hk; exact h5 q q1⟩
    · cases h
    · cases h
  | _ => cases h
theorem as_ins {C : Addr} {ns : List Str} {ds : List D} (S : Sim K G H p M s) (r : Rep K G d v) (h : res M d = .ins C ns ds) :
    ∃ a dx fs, v = .ref a ∧ H a = some (.ins C dx fs) ∧ fs.map (·.1) = ns ∧ RepL K G ds (fs.map (·.2)) := by
  cases d with
  | ins es fs gs =>
    cases h
    obtain ⟨a, dx, vs, h1, h2, h3, h4⟩ := r
    exact ⟨a, dx, vs, h1, S.same _ _ h2, h3, h4⟩
  | ref a =>
    simp only [res] at h
    split at h
    · cases h
    · cases h
    · cases h
    · next es e =>
      cases h
      obtain ⟨gn, dx, vs, h1, h2, h3⟩ := S.mem _ _ e
      exact ⟨a, dx, vs, r, h1, h2, h3⟩
    · cases h
  | _ => cases h
end

/-- a list that is made: to be changed later (m), or not -/
def newL (m : Bool) (ds : List D) (M : Mst) (Q : DK) : Prop :=
  match m with
  | true => ∀ a, M a = none → Q (.ref a) (put M a (.lst ds))
  | false => Q (.lst ds) M
@[simp] theorem newL_t {ds M Q} : newL true ds M Q = ∀ a, M a = none → Q (.ref a) (put M a (.lst ds)) := rfl
@[simp] theorem newL_f {ds M Q} : newL false ds M Q = Q (.lst ds) M := rfl
section
variable {K : PySem.W.Frag} {G H : Hp} {p : Rho} {M : Mst} {s : L2.St} {d : D} {v : V} {a : Addr}
theorem newL_ok {m : Bool} {ds : List D} {vs : List V} {Q : DK} {Q' : VK} (S : Sim K G H p M s) (hn : H a = none) (r : RepL K G ds vs) (hl : vs.length ≤ sizeLine) (h : newL m ds M Q)
    (k : ∀ G' H' M' d w, Same G G' → Sim K G' H' p M' s → Rep K G' d w → Q d M' → Q' w H') : Q' (.ref a) (upd H a (.lst vs)) := by
  cases m with
  | true =>
    have h1 := h a (S.mem.fresh hn)
    exact k G _ _ (.ref a) _ (Same.refl _) (S.put (mo := .lst ds) (S.same.free hn) ⟨vs, upd_same, r, hl⟩) rfl h1
  | false =>
    obtain ⟨e, S'⟩ := S.made (o := .lst vs) hn
    exact k _ _ _ (.lst ds) _ e S' ⟨a, vs, rfl, upd_same, RepL.mono e _ _ r, hl⟩ h
theorem newT_ok {ds : List D} {vs : List V} {Q : DK} {Q' : VK} (S : Sim K G H p M s) (hn : H a = none) (r : RepL K G ds vs) (hl : vs.length ≤ sizeLine) (h : Q (.tup ds) M)
    (k : ∀ G' H' M' d w, Same G G' → Sim K G' H' p M' s → Rep K G' d w → Q d M' → Q' w H') : Q' (.ref a) (upd H a (.tup vs)) := by
  obtain ⟨e, S'⟩ := S.made (o := .tup vs) hn
  exact k _ _ _ (.tup ds) _ e S' ⟨a, vs, rfl, upd_same, RepL.mono e _ _ r, hl⟩ h
end
theorem sz1000 {n : Nat} (h : n ≤ 100000) : n ≤ sizeLine := Nat.le_trans h (by rw [sizeLine_eq]; decide)

/-! ### names, constants -/
@[simp] def qVar (i : Nat) : DTE := fun _ p M Q => match p[i]? with | some (some d) => Q d M | _ => False
/-- a name whose list (dict, instance) will change no more -/
def qVarF (i : Nat) : DTE := fun _ p M Q => match p[i]? with
  | some (some (.ref a)) => match M a with
    | some (.lst ds) => Q (.lst ds) (del M a)
    | some (.dK kvs) => Q (.dct (kvs.map (·.1)) (kvs.map (·.2))) (del M a)
    | some (.ins C fs) => Q (.ins C (fs.map (·.1)) (fs.map (·.2))) (del M a)
    | _ => False
  | some (some d) => Q d M
  | _ => False
@[simp] def qC (d : D) : DTE := fun _ _ M Q => Q d M
section
variable {X : Cx} {W : WX} {x : Str} {pos : Pos}
theorem qe_var {i : Nat} (h : PE X (.Name x pos) (tVar i)) : QE X W (.Name x pos) (tVar i) (qVar i) := by
  refine ⟨h, fun DW G H p M s Q Q' hw S q k => ?_⟩
  unfold qVar at q
  split at q
  · next d e =>
    obtain ⟨v, h1, h2⟩ := S.env i d e
    exact ⟨v, h1, k G H M d v (Same.refl _) S h2 q⟩
  · exact q.elim
theorem qe_varF {i : Nat} (h : PE X (.Name x pos) (tVar i)) : QE X W (.Name x pos) (tVar i) (qVarF i) := by
  refine ⟨h, fun DW G H p M s Q Q' hw S q k => ?_⟩
  unfold qVarF at q
  split at q
  · next a e =>
    obtain ⟨v, h1, h2⟩ := S.env i _ e
    cases h2
    split at q
    · next ds em =>
      obtain ⟨G', e1, S', r⟩ := S.freeze em
      exact ⟨_, h1, k G' H _ _ _ e1 S' r q⟩
    · next ds em =>
      obtain ⟨G', e1, S', r⟩ := S.freezeD em
      exact ⟨_, h1, k G' H _ _ _ e1 S' r q⟩
    · next C fs em =>
      obtain ⟨G', e1, S', r⟩ := S.freezeI em
      exact ⟨_, h1, k G' H _ _ _ e1 S' r q⟩
    · exact q.elim
  · next d _ e =>
    obtain ⟨v, h1, h2⟩ := S.env i _ e
    exact ⟨v, h1, k G H M d v (Same.refl _) S h2 q⟩
  · exact q.elim
theorem qv (i : Nat) (hN : X.N[i]? = some x := by rfl) (hv : Vis X.env.scope x := by first | exact Or.inl rfl | exact Or.inr (Or.inl rfl) | exact Or.inr (Or.inr rfl)) (hd : (x == ("__debug__" : Str)) = false := by decide)
    (hcd : (x == ("__classdict__" : Str)) = false := by decide) : QE X W (.Name x pos) (tVar i) (qVar i) := qe_var (pe_var hN hv hd hcd)
theorem qvF (i : Nat) (hN : X.N[i]? = some x := by rfl) (hv : Vis X.env.scope x := by first | exact Or.inl rfl | exact Or.inr (Or.inl rfl) | exact Or.inr (Or.inr rfl)) (hd : (x == ("__debug__" : Str)) = false := by decide)
    (hcd : (x == ("__classdict__" : Str)) = false := by decide) : QE X W (.Name x pos) (tVar i) (qVarF i) := qe_varF (pe_var hN hv hd hcd)
theorem qe_c {e : Expr} {v : V} {d : D} (h : PE X e (tC v)) (r : ∀ G, Rep X.K G d v) : QE X W e (tC v) (qC d) :=
  ⟨h, fun DW G H p M s Q Q' hw S q k => k G H M d v (Same.refl _) S (r G) q⟩
theorem q_int {i j pos} : QE X W (.Constant (.int i) j pos) (tC (.int i)) (qC (.int i)) := qe_c pe_int fun _ => rfl
theorem q_bl {i j pos} : QE X W (.Constant (.bool i) j pos) (tC (.bl i)) (qC (.bl i)) := qe_c pe_bl fun _ => rfl
theorem q_non {j pos} : QE X W (.Constant .none j pos) (tC .non) (qC .non) := qe_c pe_non fun _ => rfl
theorem q_str {i j pos} (h : (decide (i.length ≤ 100000) && PyData.strOk i) = true := by decide +kernel) : QE X W (.Constant (.str i) j pos) (tC (.str i)) (qC (.str i)) :=
  qe_c pe_str fun _ => by
    rw [Bool.and_eq_true] at h
    exact ⟨rfl, sz1000 (of_decide_eq_true h.1), h.2⟩
/-- a constant of the module, a def, a class -/
theorem q_glob {x : Str} {v : V} {d : D} {u : Value} {pos : Pos} (hg : Gl X x) (hm : X.mg x = some u) (r : RelV v u) (rd : ∀ G, Rep X.K G d v) (hd : (x == ("__debug__" : Str)) = false := by decide) : QE X W (.Name x pos) (tC v) (qC d) :=
  qe_c (pe_glob hg hm r hd) rd
end

/-! ### arguments, displays -/
@[simp] def qNil : DTA := fun _ _ M Q => Q [] M
@[simp] def qCons (qa : DTE) (qr : DTA) : DTA := fun DW p M Q => qa DW p M fun x M1 => qr DW p M1 fun xs M2 => Q (x :: xs) M2
@[simp] def qTup (qa : DTA) : DTE := fun DW p M Q => qa DW p M fun ds M1 => ds.length ≤ 100000 ∧ Q (.tup ds) M1
@[simp] def qLst (m : Bool) (qa : DTA) : DTE := fun DW p M Q => qa DW p M fun ds M1 => ds.length ≤ 100000 ∧ newL m ds M1 Q
section
variable {X : Cx} {W : WX} {e : Expr} {es : List Expr} {te : TE} {qe : DTE} {t : TA} {q : DTA} {pos : Pos}
theorem qa_nil : QA X W [] tNil qNil := ⟨pa_nil, fun DW G H p M s Q Q' hw S q k => k G H M [] [] (Same.refl _) S rfl q⟩
theorem qa_cons (ha : QE X W e te qe) (hr : QA X W es t q) (hs : starEach (e :: es) X.env = (false, eval e X.env) :: starEach es X.env := by rfl) : QA X W (e :: es) (tCons te t) (qCons qe q) :=
  ⟨pa_cons ha.pe hr.pe hs, fun DW G H p M s Q Q' hw S h k => ha.rf DW G H p M s _ _ hw S h fun G1 H1 M1 d v e1 S1 r1 h1 =>
    hr.rf DW G1 H1 p M1 s _ _ (hw.mono e1) S1 h1 fun G2 H2 M2 ds vs e2 S2 r2 h2 => k G2 H2 M2 _ _ (e1.trans e2) S2 (RepL.cons (Rep.mono e2 _ _ r1) r2) h2⟩
theorem q_tup {x1} (h : QA X W es t q) : QE X W (.Tuple es x1 pos) (tTup t) (qTup q) :=
  ⟨pe_tup h.pe, fun DW G H p M s Q Q' hw S hq k => h.rf DW G H p M s _ _ hw S hq fun G1 H1 M1 ds vs e1 S1 r1 ⟨hl, h1⟩ =>
    have z : vs.length ≤ sizeLine := by rw [r1.length]; exact sz1000 hl
    ⟨z, fun a ha => newT_ok S1 ha r1 z h1 fun G2 H2 M2 d w e2 => k G2 H2 M2 d w (e1.trans e2)⟩⟩
theorem q_lst (m : Bool) (h : QA X W es t q) : QE X W (.List es pos) (tLst t) (qLst m q) :=
  ⟨pe_lst h.pe, fun DW G H p M s Q Q' hw S hq k => h.rf DW G H p M s _ _ hw S hq fun G1 H1 M1 ds vs e1 S1 r1 ⟨hl, h1⟩ =>
    have z : vs.length ≤ sizeLine := by rw [r1.length]; exact sz1000 hl
    ⟨z, fun a ha => newL_ok S1 ha r1 z h1 fun G2 H2 M2 d w e2 => k G2 H2 M2 d w (e1.trans e2)⟩⟩
end

/-! ### operators, built-ins by values -/
@[simp] def qOp (o : DOp) (qa qb : DTE) : DTE := fun DW p M Q => qa DW p M fun x M1 => qb DW p M1 fun y M2 => o x y M2 Q
@[simp] def qUn (o : DUn) (qa : DTE) : DTE := fun DW p M Q => qa DW p M fun x M1 => o x M1 Q
@[simp] def qCB (r : DCa) (qa : DTA) : DTE := fun DW p M Q => qa DW p M fun xs M1 => r xs M1 Q
section
variable {K : PySem.W.Frag} {W : WX}
theorem ref_op {r : R2} {o : DOp} {ta tb : TE} {qa qb : DTE} (hr : RefR2 K r o) (ha : RefE K W ta qa) (hb : RefE K W tb qb) : RefE K W (tOp r ta tb) (qOp o qa qb) :=
  fun DW G H p M s Q Q' hw S h k => ha DW G H p M s _ _ hw S h fun G1 H1 M1 d v e1 S1 r1 h1 =>
    hb DW G1 H1 p M1 s _ _ (hw.mono e1) S1 h1 fun G2 H2 M2 d2 v2 e2 S2 r2 h2 => hr G2 H2 p M2 s d d2 v v2 Q Q' S2 (Rep.mono e2 _ _ r1) r2 h2 fun G3 H3 M3 d w e3 => k G3 H3 M3 d w ((e1.trans e2).trans e3)
theorem ref_un {r : V → Hp → VK → Prop} {o : DUn} {ta : TE} {qa : DTE} (hr : RefU K r o) (ha : RefE K W ta qa) : RefE K W (tUn r ta) (qUn o qa) :=
  fun DW G H p M s Q Q' hw S h k => ha DW G H p M s _ _ hw S h fun G1 H1 M1 d v e1 S1 r1 h1 => hr G1 H1 p M1 s d v Q Q' S1 r1 h1 fun G3 H3 M3 d w e3 => k G3 H3 M3 d w (e1.trans e3)
theorem ref_cb {r : List V → Hp → VK → Prop} {o : DCa} {ta : TA} {qa : DTA} (hr : RefC K r o) (ha : RefA K W ta qa) : RefE K W (tCB r ta) (qCB o qa) :=
  fun DW G H p M s Q Q' hw S h k => ha DW G H p M s _ _ hw S h fun G1 H1 M1 d v e1 S1 r1 h1 => hr G1 H1 p M1 s d v Q Q' S1 r1 h1 fun G3 H3 M3 d w e3 => k G3 H3 M3 d w (e1.trans e3)
end
section
variable {X : Cx} {W : WX} {a b : Expr} {ta tb : TE} {qa qb : DTE} {pos : Pos}
theorem q_op {op : Operator} {r : R2} {o : DOp} (ho : QOp X (binaryOp op) r o) (ha : QE X W a ta qa) (hb : QE X W b tb qb) : QE X W (.BinOp a op b pos) (tOp r ta tb) (qOp o qa qb) := ⟨pe_op ho.op ha.pe hb.pe, ref_op ho.rf ha.rf hb.rf⟩
theorem q_cmp {op : CmpOp} {r : R2} {o : DOp} (ho : QOp X (compareOp op) r o) (ha : QE X W a ta qa) (hb : QE X W b tb qb) (hm : behindInMarks op b = false := by first | exact nomark _ | rfl) : QE X W (.Compare a [op] [b] pos) (tOp r ta tb) (qOp o qa qb) := ⟨pe_cmpR ho.op ha.pe hb.pe hm, ref_op ho.rf ha.rf hb.rf⟩
/-- a truth as a test -/
@[simp] def qTB (q : DTE) : DTT := fun DW p M Q => q DW p M fun d M1 => match d with | .bl b => Q b M1 | _ => False
theorem ref_tb {K : PySem.W.Frag} {t : TE} {q : DTE} (h : RefE K W t q) : RefT K W (tTest t) (qTB q) := fun DW G H p M s Q Q' hw S hq k => h DW G H p M s _ _ hw S hq fun G1 H1 M1 d v e1 S1 r1 h1 => by
  cases d with
  | bl b => cases r1; exact ⟨b, rfl, k G1 H1 M1 b e1 S1 h1⟩
  | _ => exact h1.elim
theorem ref_tb' {K : PySem.W.Frag} {t : TE} {q : DTE} (h : RefE K W t q) : RefT K W (tB t) (qTB q) := ref_tb h
theorem qt_cmp {op : CmpOp} {r : R2} {o : DOp} (ho : QOp X (compareOp op) r o) (ha : QE X W a ta qa) (hb : QE X W b tb qb) (hm : behindInMarks op b = false := by first | exact nomark _ | rfl) : QT X W (.Compare a [op] [b] pos) (tTest (tOp r ta tb)) (qTB (qOp o qa qb)) := ⟨pt_cmpR ho.op ha.pe hb.pe hm, ref_tb (ref_op ho.rf ha.rf hb.rf)⟩
theorem qt_val (ha : QE X W a ta qa) (he : ∀ whole, isTrue a X.env whole = (do let v ← whole; standAt a.pos; holding [v] (truthy v)) := by intro _; rfl) : QT X W a (tB ta) (qTB qa) := ⟨pt_val ha.pe he, ref_tb' ha.rf⟩
def qChain (o o' : DOp) (qa qb qc : DTE) : DTE := fun DW p M Q => qa DW p M fun x M1 => qb DW p M1 fun y M2 => o x y M2 fun z M3 => match z with
  | .bl k => if k = true then qc DW p M3 fun w M4 => o' y w M4 Q else Q (.bl false) M3
  | _ => False
theorem ref_chain {K : PySem.W.Frag} {r r' : R2} {o o' : DOp} {tc : TE} {qc : DTE} (hr : RefR2 K r o) (hr' : RefR2 K r' o') (ha : RefE K W ta qa) (hb : RefE K W tb qb) (hc : RefE K W tc qc) : RefE K W (tChain r r' ta tb tc) (qChain o o' qa qb qc) :=
  fun DW G H p M s Q Q' hw S h k => ha DW G H p M s _ _ hw S h fun G1 H1 M1 d v e1 S1 r1 h1 =>
    hb DW G1 H1 p M1 s _ _ (hw.mono e1) S1 h1 fun G2 H2 M2 d2 v2 e2 S2 r2 h2 => hr G2 H2 p M2 s d d2 v v2 _ _ S2 (Rep.mono e2 _ _ r1) r2 h2 fun G3 H3 M3 d3 w e3 S3 r3 h3 => by
      cases d3 with
      | bl b =>
        cases r3
        refine ⟨b, rfl, ?_⟩
        cases b with
        | false =>
          rw [if_neg Bool.false_ne_true]
          exact k G3 H3 M3 (.bl false) _ ((e1.trans e2).trans e3) S3 rfl h3
        | true =>
          rw [if_pos rfl]
          exact hc DW G3 H3 p M3 s _ _ (hw.mono ((e1.trans e2).trans e3)) S3 h3 fun G4 H4 M4 d4 v4 e4 S4 r4 h4 =>
            hr' G4 H4 p M4 s d2 d4 v2 v4 Q Q' S4 (Rep.mono (e3.trans e4) _ _ r2) r4 h4 fun G5 H5 M5 d w e5 => k G5 H5 M5 d w ((((e1.trans e2).trans e3).trans e4).trans e5)
      | _ => exact h3.elim
theorem q_chain {op op' : CmpOp} {r r' : R2} {o o' : DOp} {c : Expr} {tc : TE} {qc : DTE} (ho : QOp X (compareOp op) r o) (ho' : QOp X (compareOp op') r' o') (ha : QE X W a ta qa) (hb : QE X W b tb qb) (hc : QE X W c tc qc)
    (hm : lastMarks [op, op'] [b, c] = false := by with_unfolding_all rfl) : QE X W (.Compare a [op, op'] [b, c] pos) (tChain r r' ta tb tc) (qChain o o' qa qb qc) :=
  ⟨pe_chain ho.op ho'.op ha.pe hb.pe hc.pe hm, ref_chain ho.rf ho'.rf ha.rf hb.rf hc.rf⟩
theorem qt_chain {op op' : CmpOp} {r r' : R2} {o o' : DOp} {c : Expr} {tc : TE} {qc : DTE} (ho : QOp X (compareOp op) r o) (ho' : QOp X (compareOp op') r' o') (ha : QE X W a ta qa) (hb : QE X W b tb qb) (hc : QE X W c tc qc)
    (hm : lastMarks [op, op'] [b, c] = false := by with_unfolding_all rfl) : QT X W (.Compare a [op, op'] [b, c] pos) (tTest (tChain r r' ta tb tc)) (qTB (qChain o o' qa qb qc)) :=
  ⟨pt_chain ho.op ho'.op ha.pe hb.pe hc.pe hm, ref_tb (ref_chain ho.rf ho'.rf ha.rf hb.rf hc.rf)⟩

/-! ### and, or, not, if .. else -/
@[simp] def qAnd (qt qu : DTT) : DTT := fun DW p M Q => qt DW p M fun c M1 => if c = true then qu DW p M1 Q else Q false M1
@[simp] def qOr (qt qu : DTT) : DTT := fun DW p M Q => qt DW p M fun c M1 => if c = true then Q true M1 else qu DW p M1 Q
@[simp] def qNot (qt : DTT) : DTT := fun DW p M Q => qt DW p M fun c M1 => Q (!c) M1
variable {t u : TT} {qt qu : DTT} {rest : List Expr}
theorem qw_and1 (h : QT X W a t qt) : QW X W (.BoolOp .And [a] pos) t qt := ⟨pw_and1 h.pe, h.rf⟩
theorem qw_or1 (h : QT X W a t qt) : QW X W (.BoolOp .Or [a] pos) t qt := ⟨pw_or1 h.pe, h.rf⟩
theorem qw_and (h : QT X W a t qt) (g : QW X W (.BoolOp .And (b :: rest) pos) u qu) : QW X W (.BoolOp .And (a :: b :: rest) pos) (tAnd t u) (qAnd qt qu) :=
  ⟨pw_and h.pe g.pe, fun DW G H p M s Q Q' hw S hq k => h.rf DW G H p M s _ _ hw S hq fun G1 H1 M1 c e1 S1 h1 => by
    cases c with
    | true =>
      rw [if_pos rfl] at h1 ⊢
      exact g.rf DW G1 H1 p M1 s _ _ (hw.mono e1) S1 h1 fun G2 H2 M2 c e2 => k G2 H2 M2 c (e1.trans e2)
    | false =>
      rw [if_neg Bool.false_ne_true] at h1 ⊢
      exact k G1 H1 M1 false e1 S1 h1⟩
theorem qw_or (h : QT X W a t qt) (g : QW X W (.BoolOp .Or (b :: rest) pos) u qu) : QW X W (.BoolOp .Or (a :: b :: rest) pos) (tOr t u) (qOr qt qu) :=
  ⟨pw_or h.pe g.pe, fun DW G H p M s Q Q' hw S hq k => h.rf DW G H p M s _ _ hw S hq fun G1 H1 M1 c e1 S1 h1 => by
    cases c with
    | true =>
      rw [if_pos rfl] at h1 ⊢
      exact k G1 H1 M1 true e1 S1 h1
    | false =>
      rw [if_neg Bool.false_ne_true] at h1 ⊢
      exact g.rf DW G1 H1 p M1 s _ _ (hw.mono e1) S1 h1 fun G2 H2 M2 c e2 => k G2 H2 M2 c (e1.trans e2)⟩
theorem qt_not (h : QT X W a t qt) : QT X W (.UnaryOp .Not a pos) (tNot t) (qNot qt) :=
  ⟨pt_not h.pe, fun DW G H p M s Q Q' hw S hq k => h.rf DW G H p M s _ _ hw S hq fun G1 H1 M1 c e1 S1 h1 => k G1 H1 M1 _ e1 S1 h1⟩
/-- as values, all truths -/
@[simp] def qAndV (qa qb : DTE) : DTE := fun DW p M Q => qa DW p M fun x M1 => match x with
  | .bl c => if c = true then qb DW p M1 Q else Q (.bl false) M1
  | _ => False
@[simp] def qOrV (qa qb : DTE) : DTE := fun DW p M Q => qa DW p M fun x M1 => match x with
  | .bl c => if c = true then Q (.bl true) M1 else qb DW p M1 Q
  | _ => False
@[simp] def qNotV (qa : DTE) : DTE := fun DW p M Q => qa DW p M fun x M1 => match x with
  | .bl c => Q (.bl (!c)) M1
  | _ => False
theorem q_one {op} (h : QE X W a ta qa) : QE X W (.BoolOp op [a] pos) ta qa := ⟨pe_one h.pe, h.rf⟩
theorem q_and (h : QE X W a ta qa) (g : QE X W (.BoolOp .And (b :: rest) pos) tb qb) : QE X W (.BoolOp .And (a :: b :: rest) pos) (tAndV ta tb) (qAndV qa qb) :=
  ⟨pe_and h.pe g.pe, fun DW G H p M s Q Q' hw S hq k => h.rf DW G H p M s _ _ hw S hq fun G1 H1 M1 d v e1 S1 r1 h1 => by
    cases d with
    | bl c =>
      cases r1
      refine ⟨c, rfl, ?_⟩
      cases c with
      | true =>
        rw [if_pos rfl]
        exact g.rf DW G1 H1 p M1 s _ _ (hw.mono e1) S1 h1 fun G2 H2 M2 d v e2 => k G2 H2 M2 d v (e1.trans e2)
      | false =>
        rw [if_neg Bool.false_ne_true]
        exact k G1 H1 M1 (.bl false) _ e1 S1 rfl h1
    | _ => exact h1.elim⟩
theorem q_or (h : QE X W a ta qa) (g : QE X W (.BoolOp .Or (b :: rest) pos) tb qb) : QE X W (.BoolOp .Or (a :: b :: rest) pos) (tOrV ta tb) (qOrV qa qb) :=
  ⟨pe_or h.pe g.pe, fun DW G H p M s Q Q' hw S hq k => h.rf DW G H p M s _ _ hw S hq fun G1 H1 M1 d v e1 S1 r1 h1 => by
    cases d with
    | bl c =>
      cases r1
      refine ⟨c, rfl, ?_⟩
      cases c with
      | true =>
        rw [if_pos rfl]
        exact k G1 H1 M1 (.bl true) _ e1 S1 rfl h1
      | false =>
        rw [if_neg Bool.false_ne_true]
        exact g.rf DW G1 H1 p M1 s _ _ (hw.mono e1) S1 h1 fun G2 H2 M2 d v e2 => k G2 H2 M2 d v (e1.trans e2)
    | _ => exact h1.elim⟩
theorem q_not (h : QE X W a ta qa) : QE X W (.UnaryOp .Not a pos) (tNotV ta) (qNotV qa) :=
  ⟨pe_not h.pe, fun DW G H p M s Q Q' hw S hq k => h.rf DW G H p M s _ _ hw S hq fun G1 H1 M1 d v e1 S1 r1 h1 => by
    cases d with
    | bl c => cases r1; exact ⟨c, rfl, k G1 H1 M1 (.bl (!c)) _ e1 S1 rfl h1⟩
    | _ => exact h1.elim⟩
@[simp] def qIf (qt : DTT) (qa qb : DTE) : DTE := fun DW p M Q => qt DW p M fun c M1 => if c = true then qa DW p M1 Q else qb DW p M1 Q
theorem q_if {c : Expr} (h : QT X W c t qt) (ha : QE X W a ta qa) (hb : QE X W b tb qb) : QE X W (.IfExp c a b pos) (tIf t ta tb) (qIf qt qa qb) :=
  ⟨pe_ifExp h.pe ha.pe hb.pe, fun DW G H p M s Q Q' hw S hq k => h.rf DW G H p M s _ _ hw S hq fun G1 H1 M1 c e1 S1 h1 => by
    cases c with
    | true =>
      rw [if_pos rfl] at h1 ⊢
      exact ha.rf DW G1 H1 p M1 s _ _ (hw.mono e1) S1 h1 fun G2 H2 M2 d v e2 => k G2 H2 M2 d v (e1.trans e2)
    | false =>
      rw [if_neg Bool.false_ne_true] at h1 ⊢
      exact hb.rf DW G1 H1 p M1 s _ _ (hw.mono e1) S1 h1 fun G2 H2 M2 d v e2 => k G2 H2 M2 d v (e1.trans e2)⟩
end

/-! ### calls of built-ins -/
section
variable {X : Cx} {W : WX} {x : Str} {p pos : Pos} {e : Expr} {es : List Expr} {t : TA} {q : DTA} {id T : String} {r : List V → Hp → VK → Prop} {o : DCa}
theorem q_callB (hc : QCa X (.builtin id) r o) (hg : Gl X x) (hm : X.mg x = none) (hv : bootBuiltins x = some (.builtin id)) (ha : QA X W (e :: es) t q) (hn : x ≠ "__name__" := by decide) (hdb : (x == ("__debug__" : Str)) = false := by decide)
    (he : starEach (e :: es) X.env = (false, eval e X.env) :: starEach es X.env := by rfl) (hpl : (backTo pos (starEach es X.env)).any (·.1) = false := by rfl) : QE X W (.Call (.Name x p) (e :: es) [] pos) (tCB r t) (qCB o q) :=
  ⟨pe_callB hc.op hg hm hv ha.pe hn hdb he hpl, ref_cb hc.rf ha.rf⟩
theorem q_callTy (hc : QCa X (.type T) r o) (hg : Gl X x) (hm : X.mg x = none) (hv : bootBuiltins x = some (.type T)) (ha : QA X W (e :: es) t q) (hn : x ≠ "__name__" := by decide) (hdb : (x == ("__debug__" : Str)) = false := by decide)
    (he : starEach (e :: es) X.env = (false, eval e X.env) :: starEach es X.env := by rfl) (hpl : (backTo pos (starEach es X.env)).any (·.1) = false := by rfl) : QE X W (.Call (.Name x p) (e :: es) [] pos) (tCB r t) (qCB o q) :=
  ⟨pe_callTy hc.op hg hm hv ha.pe hn hdb he hpl, ref_cb hc.rf ha.rf⟩
end
end DL

/-! DLc: operators and built-ins by data. -/
namespace DL
open PySem L2

theorem OpR.or {X : Cx} {f : Value → Value → Sem Value} {r r' : R2} (h : OpR X f r) (h' : OpR X f r') : OpR X f (fun x y H Q => r x y H Q ∨ r' x y H Q) := by
  intro pins s σ H x y v u Q I rx ry q
  rcases q with q | q
  · exact h pins s σ H x y v u Q I rx ry q
  · exact h' pins s σ H x y v u Q I rx ry q
theorem CallR.or {X : Cx} {f : Value} {r r' : List V → Hp → VK → Prop} (h : CallR X f r) (h' : CallR X f r') : CallR X f (fun xs H Q => r xs H Q ∨ r' xs H Q) := by
  intro pins s σ H xs us Q I rs q
  rcases q with q | q
  · exact h pins s σ H xs us Q I rs q
  · exact h' pins s σ H xs us Q I rs q

/-! ### data that may be compared -/
mutual
def pyd : D → PyData
  | .non => .none
  | .bl b => .bool b
  | .int i => .int i
  | .str x => .str x
  | .tup ds => .tuple (pydL ds)
  | .ktp ds => .tuple (pydL ds)
  | .lst ds => .list (pydL ds)
  | _ => .none
def pydL : List D → List PyData
  | [] => []
  | d :: ds => pyd d :: pydL ds
end
mutual
def isData : D → Bool
  | .non => true
  | .bl _ => true
  | .int _ => true
  | .str _ => true
  | .tup ds => isDataL ds
  | .ktp ds => isDataL ds
  | .lst ds => isDataL ds
  | _ => false
def isDataL : List D → Bool
  | [] => true
  | d :: ds => isData d && isDataL ds
end
/-- how deep -/
def dep (d : D) : Nat := (pyd d).depth
mutual
theorem dp_of {K : PySem.W.Frag} {G H : Hp} (e : Same G H) : ∀ (d : D) (v : V), isData d = true → Rep K G d v → Dp K H v (pyd d)
  | .non, _, _, h => by cases h; exact .non
  | .bl b, _, _, h => by cases h; exact .bl b
  | .int i, _, _, h => by cases h; exact .int i
  | .str x, _, _, h => by obtain ⟨h, _⟩ := h; subst h; exact .str x
  | .tup ds, _, i, ⟨a, vs, h1, h2, h3, h4⟩ => by subst h1; exact .tup (.inl (.inl (e _ _ h2))) (dpl_of e ds vs i h3)
  | .ktp ds, _, i, ⟨a, vs, h1, h2, h3, h4⟩ => by subst h1; exact .tup (same_t e h2) (dpl_of e ds vs i h3)
  | .lst ds, _, i, ⟨a, vs, h1, h2, h3, h4⟩ => by subst h1; exact .lst (.inl (.inl (e _ _ h2))) (dpl_of e ds vs i h3)
  | .scr _, _, i, _ => by cases i
  | .ty _, _, i, _ => by cases i
  | .ref _, _, i, _ => by cases i
  | .dct _ _, _, i, _ => by cases i
  | .ins _ _ _, _, i, _ => by cases i
  | .exc _ _ _ _, _, i, _ => by cases i
theorem dpl_of {K : PySem.W.Frag} {G H : Hp} (e : Same G H) : ∀ (ds : List D) (vs : List V), isDataL ds = true → RepL K G ds vs → DpAll K H vs (pydL ds)
  | [], _, _, h => by cases h; exact .nil
  | d :: ds, _, i, ⟨v, r, h1, h2, h3⟩ => by
    subst h1
    have i' : isData d = true ∧ isDataL ds = true := by simpa [isDataL] using i
    exact .cons (dp_of e d v i'.1 h2) (dpl_of e ds r i'.2 h3)
end
mutual
theorem lay_of {K : PySem.W.Frag} {G : Hp} : ∀ (d : D) (v : V), isData d = true → Rep K G d v → (pyd d).canLay0 = true
  | .non, _, _, _ => rfl
  | .bl b, _, _, _ => rfl
  | .int i, _, _, _ => rfl
  | .str x, _, _, h => h.2.2
  | .tup ds, _, i, ⟨a, vs, h1, h2, h3, h4⟩ => layl_of ds vs i h3
  | .ktp ds, _, i, ⟨a, vs, h1, h2, h3, h4⟩ => layl_of ds vs i h3
  | .lst ds, _, i, ⟨a, vs, h1, h2, h3, h4⟩ => layl_of ds vs i h3
  | .scr _, _, i, _ => by cases i
  | .ty _, _, i, _ => by cases i
  | .ref _, _, i, _ => by cases i
  | .dct _ _, _, i, _ => by cases i
  | .ins _ _ _, _, i, _ => by cases i
  | .exc _ _ _ _, _, i, _ => by cases i
theorem layl_of {K : PySem.W.Frag} {G : Hp} : ∀ (ds : List D) (vs : List V), isDataL ds = true → RepL K G ds vs → PyData.canLayAll0 (pydL ds) = true
  | [], _, _, _ => rfl
  | d :: ds, _, i, ⟨v, r, h1, h2, h3⟩ => by
    have i' : isData d = true ∧ isDataL ds = true := by simpa [isDataL] using i
    simp only [pydL, PyData.canLayAll0, Bool.and_eq_true]
    exact ⟨lay_of d v i'.1 h2, layl_of ds r i'.2 h3⟩
end
theorem data_of {K : PySem.W.Frag} {G H : Hp} {p : Rho} {M : Mst} {s : L2.St} {d e : D} {v : V} (S : Sim K G H p M s) (r : Rep K G d v) (h : res M d = e) (i : isData e = true) : Dp K H v (pyd e) ∧ (pyd e).canLay0 = true := by
  cases d with
  | ref a =>
    cases e with
    | lst es =>
      obtain ⟨a, vs, h1, h2, h3, h4⟩ := as_lst S r h
      subst h1
      exact ⟨.lst (.inl (.inl h2)) (dpl_of S.same _ _ i h3), layl_of _ _ i h3⟩
    | _ =>
      simp only [res] at h
      split at h <;> first | (cases h; done) | (cases h; cases i)
  | ktp es =>
    cases h
    exact ⟨dp_of S.same (.ktp es) v i r, lay_of (.ktp es) v i r⟩
  | _ => cases h; exact ⟨dp_of S.same _ v i r, lay_of _ v i r⟩
def rEqX (K : PySem.W.Frag) (neg : Bool) : R2 := fun x y H Q => ∃ d e, Dp K H x d ∧ Dp K H y e ∧ d.canLay0 = true ∧ e.canLay0 = true ∧ min d.depth e.depth ≤ 64 ∧ Q (.bl (xor neg (PyData.eqv d e))) H
theorem op_eqX {X : Cx} (hu : X.A.units + 64 < cLine) : OpR X (compareOp .Eq) (rEqX X.K false) := by
  intro pins s σ H x y v u Q I rx ry h
  obtain ⟨d, e, hd, he, sd, se, hm, q⟩ := h
  obtain ⟨as, r1⟩ := Dp.reads I d x v hd rx
  obtain ⟨bs, r2⟩ := Dp.reads I e y u he ry
  refine SeqAt.compareEq_reads r1 r2 sd se (by omega) ⟨.bl _, H, I, rfl, ?_⟩
  simpa using q
theorem op_neX {X : Cx} (hu : X.A.units + 64 < cLine) : OpR X (compareOp .NotEq) (rEqX X.K true) := by
  intro pins s σ H x y v u Q I rx ry h
  obtain ⟨d, e, hd, he, sd, se, hm, q⟩ := h
  obtain ⟨as, r1⟩ := Dp.reads I d x v hd rx
  obtain ⟨bs, r2⟩ := Dp.reads I e y u he ry
  refine SeqAt.compareNe_reads r1 r2 sd se (by omega) ⟨.bl _, H, I, rfl, ?_⟩
  simpa using q
/-- == of data -/
def deq (x y : D) : Bool := PyData.eqv (pyd x) (pyd y)
def deqL (x y : List D) : Bool := PyData.eqvAll (pydL x) (pydL y)
def dEq (neg : Bool) : DOp := fun x y M Q => isData (res M x) = true ∧ isData (res M y) = true ∧ min (dep (res M x)) (dep (res M y)) ≤ 64 ∧ Q (.bl (xor neg (deq (res M x) (res M y)))) M
theorem ref_eq {K : PySem.W.Frag} {neg : Bool} : RefR2 K (rEqX K neg) (dEq neg) := fun G H p M s x y v u Q Q' S r1 r2 ⟨i1, i2, hm, q⟩ k => by
  obtain ⟨a1, a2⟩ := data_of S r1 rfl i1
  obtain ⟨b1, b2⟩ := data_of S r2 rfl i2
  exact ⟨_, _, a1, b1, a2, b2, hm, k G H M (.bl _) _ (Same.refl _) S rfl q⟩
theorem o_eq {X : Cx} (hu : X.A.units + 64 < cLine) : QOp X (compareOp .Eq) (rEqX X.K false) (dEq false) := ⟨op_eqX hu, ref_eq⟩
theorem o_ne {X : Cx} (hu : X.A.units + 64 < cLine) : QOp X (compareOp .NotEq) (rEqX X.K true) (dEq true) := ⟨op_neX hu, ref_eq⟩

/-! ### whole numbers -/
def dInt (C : Int → Int → Prop) (g : Int → Int → Int) : DOp := fun x y M Q => match x, y with
  | .int i, .int j => C i j ∧ Q (.int (g i j)) M
  | _, _ => False
theorem ref_int {K : PySem.W.Frag} {C : Int → Int → Prop} {g : Int → Int → Int} : RefR2 K (rI C fun i j => .int (g i j)) (dInt C g) := fun G H p M s x y v u Q Q' S r1 r2 h k => by
  cases x with
  | int i =>
    cases y with
    | int j => cases r1; cases r2; exact ⟨i, j, rfl, rfl, h.1, k G H M (.int (g i j)) _ (Same.refl _) S rfl h.2⟩
    | _ => exact h.elim
  | _ => exact h.elim
def dInt0 (g : Int → Int → Int) : DOp := fun x y M Q => match x, y with
  | .int i, .int j => Q (.int (g i j)) M
  | _, _ => False
theorem ref_int0 {K : PySem.W.Frag} {g : Int → Int → Int} : RefR2 K (rI0 fun i j => .int (g i j)) (dInt0 g) := fun G H p M s x y v u Q Q' S r1 r2 h k => by
  cases x with
  | int i =>
    cases y with
    | int j => cases r1; cases r2; exact ⟨i, j, rfl, rfl, k G H M (.int (g i j)) _ (Same.refl _) S rfl h⟩
    | _ => exact h.elim
  | _ => exact h.elim
theorem o_sub {X : Cx} : QOp X (binaryOp .Sub) (rI0 fun i j => .int (i - j)) (dInt0 fun i j => i - j) := ⟨op_sub, ref_int0⟩
theorem o_mulI {X : Cx} : QOp X (binaryOp .Mult) (rI CMul fun i j => .int (i * j)) (dInt CMul fun i j => i * j) := ⟨op_mul, ref_int⟩
theorem o_fdiv {X : Cx} : QOp X (binaryOp .FloorDiv) (rI CDiv fun i j => .int (i / j)) (dInt CDiv fun i j => i / j) := ⟨op_fdiv, ref_int⟩
theorem o_mod {X : Cx} : QOp X (binaryOp .Mod) (rI (fun _ j => 0 < j) fun i j => .int (i % j)) (dInt (fun _ j => 0 < j) fun i j => i % j) := ⟨op_mod, ref_int⟩
theorem o_pow {X : Cx} : QOp X (binaryOp .Pow) (rI CPow fun i j => .int (i ^ j.toNat)) (dInt CPow fun i j => i ^ j.toNat) := ⟨op_pow, ref_int⟩
/-- <, <=, >, >= of whole numbers; < of texts -/
def dCmpI (g : Int → Int → Bool) : DOp := fun x y M Q => match x, y with
  | .int i, .int j => Q (.bl (g i j)) M
  | _, _ => False
theorem ref_cmpI {K : PySem.W.Frag} {g : Int → Int → Bool} : RefR2 K (rI0 fun i j => .bl (g i j)) (dCmpI g) := fun G H p M s x y v u Q Q' S r1 r2 h k => by
  cases x with
  | int i =>
    cases y with
    | int j => cases r1; cases r2; exact ⟨i, j, rfl, rfl, k G H M (.bl (g i j)) _ (Same.refl _) S rfl h⟩
    | _ => exact h.elim
  | _ => exact h.elim
theorem o_lt {X : Cx} : QOp X (compareOp .Lt) (rI0 fun i j => .bl (decide (i < j))) (dCmpI fun i j => decide (i < j)) := ⟨op_lt, ref_cmpI⟩
theorem o_le {X : Cx} : QOp X (compareOp .LtE) (rI0 fun i j => .bl (decide (i ≤ j))) (dCmpI fun i j => decide (i ≤ j)) := ⟨op_le, ref_cmpI⟩
theorem o_gt {X : Cx} : QOp X (compareOp .Gt) (rI0 fun i j => .bl (decide (j < i))) (dCmpI fun i j => decide (j < i)) := ⟨op_gt, ref_cmpI⟩
theorem o_ge {X : Cx} : QOp X (compareOp .GtE) (rI0 fun i j => .bl (decide (j ≤ i))) (dCmpI fun i j => decide (j ≤ i)) := ⟨op_ge, ref_cmpI⟩
def dNeg : DUn := fun x M Q => match x with
  | .int i => Q (.int (-i)) M
  | _ => False
theorem ref_neg {K : PySem.W.Frag} : RefU K (rU fun i => .int (-i)) dNeg := fun G H p M s x v Q Q' S r1 h k => by
  cases x with
  | int i => cases r1; exact ⟨i, rfl, k G H M (.int (-i)) _ (Same.refl _) S rfl h⟩
  | _ => exact h.elim
theorem q_neg {X : Cx} {W : WX} {a : Expr} {ta : TE} {qa : DTE} {pos : Pos} (ha : QE X W a ta qa) : QE X W (.UnaryOp .USub a pos) (tUn (rU fun i => .int (-i)) ta) (qUn dNeg qa) := ⟨pe_un un_neg ha.pe, ref_un ref_neg ha.rf⟩

/-! ### is None -/
def isNon : D → Bool
  | .non => true
  | _ => false
theorem isNon_of {K : PySem.W.Frag} {G : Hp} {d : D} {v : V} (r : Rep K G d v) : decide (v = .non) = isNon d := by
  cases d with
  | non => cases r; rfl
  | bl b => cases r; rfl
  | int b => cases r; rfl
  | ty b => cases r; rfl
  | ref b => cases r; rfl
  | str x => obtain ⟨r, _⟩ := r; subst r; rfl
  | tup x => obtain ⟨a, vs, r, _⟩ := r; subst r; rfl
  | ktp x => obtain ⟨a, vs, r, _⟩ := r; subst r; rfl
  | lst x => obtain ⟨a, vs, r, _⟩ := r; subst r; rfl
  | scr x => obtain ⟨a, r, _⟩ := r; subst r; rfl
  | dct x y => obtain ⟨a, vs, r, _⟩ := r; subst r; rfl
  | ins x y z => obtain ⟨a, vs, fs, r, _⟩ := r; subst r; rfl
  | exc x y z w => obtain ⟨r, _⟩ := r; subst r; rfl
def dIs (neg : Bool) : DOp := fun x y M Q => match y with
  | .non => Q (.bl (xor neg (isNon x))) M
  | _ => False
theorem o_is {X : Cx} : QOp X (compareOp .Is) (fun x y H Q => y = .non ∧ Q (.bl (decide (x = .non))) H) (dIs false) := ⟨op_isN, fun G H p M s x y v u Q Q' S r1 r2 h k => by
  cases y with
  | non =>
    cases r2
    exact ⟨rfl, k G H M (.bl (isNon x)) _ (Same.refl _) S (by rw [isNon_of r1]; rfl) (by simpa [dIs] using h)⟩
  | _ => exact h.elim⟩
theorem o_isnot {X : Cx} : QOp X (compareOp .IsNot) (fun x y H Q => y = .non ∧ Q (.bl (!decide (x = .non))) H) (dIs true) := ⟨op_notN, fun G H p M s x y v u Q Q' S r1 r2 h k => by
  cases y with
  | non =>
    cases r2
    exact ⟨rfl, k G H M (.bl (!isNon x)) _ (Same.refl _) S (by rw [isNon_of r1]; rfl) (by simpa [dIs] using h)⟩
  | _ => exact h.elim⟩

/-! ### + -/
theorem strOk_append {a b : Str} (h1 : PyData.strOk a = true) (h2 : PyData.strOk b = true) : PyData.strOk (a ++ b) = true := by
  have e : (a ++ b).cps = a.cps ++ b.cps := rfl
  unfold PyData.strOk at *
  rw [e, Array.all_append, h1, h2]; rfl
theorem len_append {a b : Str} : (a ++ b).length = a.length + b.length := by
  show (a.cps ++ b.cps).size = _
  rw [Array.size_append]; rfl
def rAddX (K : PySem.W.Frag) : R2 := fun x y H Q => rI0 (fun i j => .int (i + j)) x y H Q ∨ (∃ i j, x = .str i ∧ y = .str j ∧ i.length + j.length ≤ sizeLine ∧ Q (.str (i ++ j)) H) ∨ rCat x y H Q ∨ rCatA K x y H Q
def dAdd (m : Bool) : DOp := fun x y M Q => match x, y with
  | .tup a, .tup b => a.length + b.length ≤ 100000 ∧ Q (.tup (a ++ b)) M
  | _, _ => match res M x, res M y with
    | .int i, .int j => Q (.int (i + j)) M
    | .str a, .str b => a.length + b.length ≤ 100000 ∧ Q (.str (a ++ b)) M
    | .lst a, .lst b => a.length + b.length ≤ 100000 ∧ newL m (a ++ b) M Q
    | _, _ => False
theorem ref_add {K : PySem.W.Frag} {m : Bool} : RefR2 K (rAddX K) (dAdd m) := fun G H p M s x y v u Q Q' S r1 r2 h k => by
  unfold dAdd at h
  split at h
  · next a b =>
    obtain ⟨a1, vs, rfl, h1, h2, h3⟩ := r1
    obtain ⟨b1, us, rfl, g1, g2, g3⟩ := r2
    have z : vs.length + us.length ≤ sizeLine := by rw [h2.length, g2.length]; exact sz1000 h.1
    refine .inr (.inr (.inr ⟨a1, b1, vs, us, rfl, rfl, .inl (.inl (S.same _ _ h1)), .inl (.inl (S.same _ _ g1)), z, fun e => ?_, fun _ e => ?_, fun _ _ q hq => newT_ok S hq (RepL.append h2 g2) (by rw [List.length_append]; exact z) h.2 k⟩))
    · have ea : a = [] := List.eq_nil_of_length_eq_zero (by rw [← h2.length, e]; rfl)
      refine k G H M (.tup b) _ (Same.refl _) S ⟨b1, us, rfl, g1, g2, g3⟩ ?_
      have := h.2; rw [ea] at this; simpa using this
    · have ea : b = [] := List.eq_nil_of_length_eq_zero (by rw [← g2.length, e]; rfl)
      refine k G H M (.tup a) _ (Same.refl _) S ⟨a1, vs, rfl, h1, h2, h3⟩ ?_
      have := h.2; rw [ea] at this; simpa using this
  · split at h
    · next i j e1 e2 =>
      cases as_int r1 e1
      cases as_int r2 e2
      exact .inl ⟨i, j, rfl, rfl, k G H M (.int (i + j)) _ (Same.refl _) S rfl h⟩
    · next a b e1 e2 =>
      obtain ⟨rfl, l1, o1⟩ := as_str r1 e1
      obtain ⟨rfl, l2, o2⟩ := as_str r2 e2
      exact .inr (.inl ⟨a, b, rfl, rfl, sz1000 h.1, k G H M (.str (a ++ b)) _ (Same.refl _) S ⟨rfl, by rw [len_append]; exact sz1000 h.1, strOk_append o1 o2⟩ h.2⟩)
    · next a b e1 e2 =>
      obtain ⟨a1, vs, rfl, h1, h2, h3⟩ := as_lst S r1 e1
      obtain ⟨b1, us, rfl, g1, g2, g3⟩ := as_lst S r2 e2
      have z : vs.length + us.length ≤ sizeLine := by rw [h2.length, g2.length]; exact sz1000 h.1
      exact .inr (.inr (.inl ⟨a1, b1, vs, us, rfl, rfl, h1, g1, z, fun q hq => newL_ok S hq (RepL.append h2 g2) (by rw [List.length_append]; exact z) h.2 k⟩))
    · exact h.elim
theorem o_add {X : Cx} (m : Bool) : QOp X (binaryOp .Add) (rAddX X.K) (dAdd m) := ⟨OpR.or op_add (OpR.or op_add_str (OpR.or op_cat op_catA)), ref_add⟩

/-! ### subscripts -/
def keyD : D → Option Key
  | .int i => some (.inl i)
  | .str x => some (.inr x)
  | _ => none
def keysD : List D → Option (List Key)
  | [] => some []
  | d :: ds => match keyD d, keysD ds with
    | some k, some ks => some (k :: ks)
    | _, _ => none
def valD {κ : Type} [DecidableEq κ] (kvs : List (κ × D)) (k : κ) : Option D := (kvs.find? fun kv => decide (kv.1 = k)).map (·.2)
/-- what a dict holds at a key; none: no dict, or no key of its kind -/
def dgetD (M : Mst) (x y : D) : Option (Option D) := match x with
  | .ref a => match M a with
    | some (.dK kvs) => (keyD y).map (valD kvs)
    | some (.lk _ kvs) => (keyD y).map (valD kvs)
    | some (.dT kvs) => match y with
      | .tup ds => (keysD ds).map (valD kvs)
      | _ => none
    | some (.lkT _ kvs) => match y with
      | .tup ds => (keysD ds).map (valD kvs)
      | _ => none
    | _ => none
  | .dct ks ds => (keyD y).map (valD (ks.zip ds))
  | _ => none
theorem keyD_of {K : PySem.W.Frag} {G : Hp} {d : D} {v : V} {k : Key} (r : Rep K G d v) (h : keyD d = some k) : v = kV k := by
  cases d with
  | int i => cases h; exact r
  | str x => cases h; exact r.1
  | _ => cases h
theorem keysD_of {K : PySem.W.Frag} {G : Hp} : ∀ {ds : List D} {vs : List V} {ks : List Key}, RepL K G ds vs → keysD ds = some ks → vs = ks.map kV
  | [], _, _, h, e => by cases h; cases e; rfl
  | d :: ds, _, ks, ⟨v, r, h1, h2, h3⟩, e => by
    simp only [keysD] at e
    split at e
    · next k ks' e1 e2 =>
      cases e
      rw [h1, keyD_of h2 e1, keysD_of h3 e2]; rfl
    · cases e
theorem valD_rel {κ : Type} [DecidableEq κ] {K : PySem.W.Frag} {G : Hp} : ∀ {kvs : List (κ × D)} {kv : List (κ × V)} (k : κ), kv.map (·.1) = kvs.map (·.1) → RepL K G (kvs.map (·.2)) (kv.map (·.2)) →
    (valD kvs k = none ∧ valV kv k = none) ∨ ∃ d v, valD kvs k = some d ∧ valV kv k = some v ∧ Rep K G d v
  | [], kv, k, h, r => by
    cases kv with
    | nil => exact .inl ⟨rfl, rfl⟩
    | cons _ _ => cases h
  | (a, d) :: kvs, kv, k, h, r => by
    cases kv with
    | nil => cases h
    | cons q kv =>
      obtain ⟨b, v⟩ := q
      simp only [List.map_cons, List.cons.injEq] at h
      obtain ⟨rfl, h⟩ := h
      obtain ⟨v', r', e, h2, h3⟩ := r
      simp only [List.map_cons, List.cons.injEq] at e
      obtain ⟨rfl, rfl⟩ := e
      by_cases z : b = k
      · exact .inr ⟨d, v, by simp [valD, z], by simp [valV, z], h2⟩
      · have := valD_rel k h h3
        simpa [valD, valV, z] using this
theorem zip_fs {α β : Type} : ∀ l : List (α × β), (l.map (·.1)).zip (l.map (·.2)) = l
  | [] => rfl
  | (a, b) :: l => by simp [zip_fs l]
@[simp] theorem zip_fs' {α β : Type} (l : List (α × β)) : (l.map (·.1)).zip (l.map (·.2)) = l := zip_fs l
theorem map_zip1 {α β : Type} : ∀ (l : List α) (m : List β), l.length = m.length → (l.zip m).map (·.1) = l
  | [], [], _ => rfl
  | a :: l, b :: m, h => by simp [map_zip1 l m (by simpa using h)]
theorem map_zip2 {α β : Type} : ∀ (l : List α) (m : List β), l.length = m.length → (l.zip m).map (·.2) = m
  | [], [], _ => rfl
  | a :: l, b :: m, h => by simp [map_zip2 l m (by simpa using h)]
theorem dgetD_of {K : PySem.W.Frag} {G H : Hp} {p : Rho} {M : Mst} {s : L2.St} {x y : D} {v u : V} {r : Option D} (S : Sim K G H p M s) (r1 : Rep K G x v) (r2 : Rep K G y u) (h : dgetD M x y = some r) :
    ∃ a o, v = .ref a ∧ DGet H a u o ∧ ((r = none ∧ o = none) ∨ ∃ d w, r = some d ∧ o = some w ∧ Rep K G d w) := by
  unfold dgetD at h
  split at h
  · next a =>
    cases r1
    split at h
    · next kvs em =>
      obtain ⟨gn, kv, h1, h2, h3, h4⟩ := S.mem _ _ em
      cases ek : keyD y with
      | none => rw [ek] at h; cases h
      | some k =>
        rw [ek] at h
        cases h
        cases keyD_of r2 ek
        exact ⟨a, _, rfl, DGet.k h1, (valD_rel k h2 h3).imp id fun ⟨d, v, a, b, c⟩ => ⟨d, v, a, b, c⟩⟩
    · next ho kvs em =>
      obtain ⟨gn, o, kv, h0, h1, h2, h3, h4⟩ := S.mem _ _ em
      rw [h0] at h1
      cases ek : keyD y with
      | none => rw [ek] at h; cases h
      | some k =>
        rw [ek] at h
        cases h
        cases keyD_of r2 ek
        exact ⟨a, _, rfl, .inl ⟨kv, k, .inr ⟨o, h1⟩, rfl, rfl⟩, (valD_rel k h2 h3).imp id fun ⟨d, v, a, b, c⟩ => ⟨d, v, a, b, c⟩⟩
    · next kvs em =>
      obtain ⟨gn, kv, h1, h2, h3, h4⟩ := S.mem _ _ em
      split at h
      · next ds =>
        obtain ⟨b, vs, rfl, g1, g2, g3⟩ := r2
        cases ek : keysD ds with
        | none => rw [ek] at h; cases h
        | some k =>
          rw [ek] at h
          cases h
          have := keysD_of g2 ek
          exact ⟨a, _, rfl, DGet.t h1 (by rw [S.same _ _ g1, this]), (valD_rel k h2 h3).imp id fun ⟨d, v, a, b, c⟩ => ⟨d, v, a, b, c⟩⟩
      · cases h
    · next ho kvs em =>
      obtain ⟨gn, o, kv, h0, h1, h2, h3, h4⟩ := S.mem _ _ em
      rw [h0] at h1
      split at h
      · next ds =>
        obtain ⟨b, vs, rfl, g1, g2, g3⟩ := r2
        cases ek : keysD ds with
        | none => rw [ek] at h; cases h
        | some k =>
          rw [ek] at h
          cases h
          have := keysD_of g2 ek
          exact ⟨a, _, rfl, .inr ⟨kv, k, b, .inr ⟨o, h1⟩, rfl, by rw [S.same _ _ g1, this], rfl⟩, (valD_rel k h2 h3).imp id fun ⟨d, v, a, b, c⟩ => ⟨d, v, a, b, c⟩⟩
      · cases h
    · cases h
  · next ks ds =>
    obtain ⟨a, kvs, rfl, h1, h2, h3, h4, _⟩ := r1
    cases ek : keyD y with
    | none => rw [ek] at h; cases h
    | some k =>
      rw [ek] at h
      cases h
      cases keyD_of r2 ek
      have hl : ks.length = ds.length := by rw [← h2, ← h3.length]; simp
      refine ⟨a, _, rfl, .inl ⟨kvs, k, same_rd S.same h1, rfl, rfl⟩, (valD_rel k (by rw [map_zip1 _ _ hl]; exact h2) (by rw [map_zip2 _ _ hl]; exact h3)).imp id fun ⟨d, v, a, b, c⟩ => ⟨d, v, a, b, c⟩⟩
  · cases h
def rIxD : R2 := fun x y H Q => ∃ a v, x = .ref a ∧ DGet H a y (some v) ∧ Q v H
theorem ix_dict {X : Cx} (hu : X.A.units + 1 < cLine) : IxR X rIxD := by
  intro value slice pins s σ H x y v u Q I rx ry h hs
  obtain ⟨a, z, rfl, g, q⟩ := h
  cases rx
  exact PyProof.Rows.tail_any (dict_typeIs I g) PySem.F.slot_dict_getitem.lookup (d_getItem hu I g ry fun w' s3 I3 rw' => ⟨z, H, I3, rw', q⟩) hs
def rIxA (K : PySem.W.Frag) : R2 := fun x y H Q => rIx K x y H Q ∨ rIxD x y H Q
def dIx : DOp := fun x y M Q => match dgetD M x y with
  | some (some d) => Q d M
  | some none => False
  | none => match res M x, y with
    | .lst ds, .int i => match atI ds i with | some d => Q d M | none => False
    | .tup ds, .int i => match atI ds i with | some d => Q d M | none => False
    | .str z, .int i => match atI z.cps.toList i with | some c => Q (.str ⟨#[c]⟩) M | none => False
    | .scr ns, .int i => match atI ns i with | some c => Q (.int c) M | none => False
    | _, _ => False
theorem as_scr {K : PySem.W.Frag} {G H : Hp} {p : Rho} {M : Mst} {s : L2.St} {x : D} {v : V} {ns : List Int} (S : Sim K G H p M s) (r : Rep K G x v) (e : res M x = .scr ns) : ∃ a, v = .ref a ∧ SqL K G a (ns.map V.int) := by
  cases x with
  | scr ms => cases e; obtain ⟨a, h1, h2, _⟩ := r; exact ⟨a, h1, h2⟩
  | ref a =>
    simp only [res] at e
    split at e <;> cases e
  | _ => cases e
theorem atI_map {α β : Type} {f : α → β} {xs : List α} {i : Int} {c : α} (h : atI xs i = some c) : atI (xs.map f) i = some (f c) := by
  unfold atI at h ⊢
  rw [List.length_map]
  cases e : ixN xs.length i with
  | none => rw [e] at h; cases h
  | some j =>
    rw [e] at h
    have h' : xs[j]? = some c := h
    show (xs.map f)[j]? = some (f c)
    rw [List.getElem?_map, h']; rfl
theorem atI_rel {K : PySem.W.Frag} {G : Hp} {ds : List D} {vs : List V} {i : Int} {d : D} (r : RepL K G ds vs) (h : atI ds i = some d) : ∃ v, atI vs i = some v ∧ Rep K G d v := by
  unfold atI at h ⊢
  rw [r.length]
  cases e : ixN ds.length i with
  | none => rw [e] at h; cases h
  | some j =>
    rw [e] at h
    exact r.get h
theorem ref_ix {K : PySem.W.Frag} : RefR2 K (rIxA K) dIx := fun G H p M s x y v u Q Q' S r1 r2 h k => by
  unfold dIx at h
  split at h
  · next d e =>
    obtain ⟨a, o, rfl, g, q⟩ := dgetD_of S r1 r2 e
    rcases q with ⟨q, _⟩ | ⟨d', w, q, rfl, r⟩
    · cases q
    · cases q
      exact .inr ⟨a, w, rfl, g, k G H M d w (Same.refl _) S r h⟩
  · exact h.elim
  · split at h
    · next ds i e1 _ =>
      obtain ⟨a, vs, rfl, h1, h2, h3⟩ := as_lst S r1 e1
      cases r2
      split at h
      · next d ea =>
        obtain ⟨w, ew, rw'⟩ := atI_rel h2 ea
        exact .inl (.inl ⟨a, vs, i, w, rfl, rfl, .inl (.inl h1), ew, k G H M d w (Same.refl _) S rw' h⟩)
      · exact h.elim
    · next ds i e1 _ =>
      obtain ⟨a, vs, rfl, h1, h2, h3⟩ := as_tup S r1 e1
      cases r2
      split at h
      · next d ea =>
        obtain ⟨w, ew, rw'⟩ := atI_rel h2 ea
        exact .inl (.inr (.inl ⟨a, vs, i, w, rfl, rfl, h1, ew, k G H M d w (Same.refl _) S rw' h⟩))
      · exact h.elim
    · next z i e1 _ =>
      obtain ⟨rfl, l1, o1⟩ := as_str r1 e1
      cases r2
      split at h
      · next c ea =>
        refine .inl (.inr (.inr ⟨z, i, c, rfl, rfl, l1, ea, k G H M (.str ⟨#[c]⟩) _ (Same.refl _) S ⟨rfl, sz1000 (by show 1 ≤ 100000; decide), ?_⟩ h⟩))
        obtain ⟨j, _, h2, _⟩ := atI_get ea
        have hm : c ∈ z.cps.toList := List.mem_of_getElem? h2
        have ho : ∀ y ∈ z.cps.toList, decide (y < 0x110000) = true := by
          unfold PyData.strOk at o1
          rw [← Array.all_toList] at o1
          exact List.all_eq_true.mp o1
        have := ho c hm
        simpa [PyData.strOk] using this
      · exact h.elim
    · next ns i e1 _ =>
      obtain ⟨a, rfl, h1⟩ := as_scr S r1 e1
      cases r2
      split at h
      · next c ea => exact .inl (.inl ⟨a, _, i, .int c, rfl, rfl, same_l S.same h1, atI_map ea, k G H M (.int c) _ (Same.refl _) S rfl h⟩)
      · exact h.elim
    · exact h.elim
theorem q_ix {X : Cx} {W : WX} {a b : Expr} {ta tb : TE} {qa qb : DTE} {pos : Pos} (hu : X.A.units + 1 < cLine) (ha : QE X W a ta qa) (hb : QE X W b tb qb) (hs : PlainIx b := by exact fun _ _ => rfl) : QE X W (.Subscript a b pos) (tOp (rIxA X.K) ta tb) (qOp dIx qa qb) :=
  ⟨pe_ix (IxR.or ix_seq (ix_dict hu)) ha.pe hb.pe hs, ref_op ref_ix ha.rf hb.rf⟩
end DL

/-! DLd: in, slices, built-ins. -/
namespace DL
open PySem L2

/-! ### in -/
def flatD : D → Bool
  | .non => true
  | .bl _ => true
  | .int _ => true
  | .str _ => true
  | _ => false
theorem flatD_of {K : PySem.W.Frag} {G : Hp} {d : D} {v : V} (r : Rep K G d v) (h : flatD d = true) : flatV v = true ∧ ∀ e w, Rep K G e w → flatD e = true → eqV w v = deq e d := by
  cases d with
  | non => cases r; exact ⟨rfl, fun e w r h => by
      cases e with
      | non => cases r; rfl
      | bl b => cases r; rfl
      | int b => cases r; rfl
      | str b => obtain ⟨r, _⟩ := r; subst r; rfl
      | _ => cases h⟩
  | bl b => cases r; exact ⟨rfl, fun e w r h => by
      cases e with
      | non => cases r; rfl
      | bl b => cases r; rfl
      | int b => cases r; rfl
      | str b => obtain ⟨r, _⟩ := r; subst r; rfl
      | _ => cases h⟩
  | int b => cases r; exact ⟨rfl, fun e w r h => by
      cases e with
      | non => cases r; rfl
      | bl b => cases r; rfl
      | int b => cases r; rfl
      | str b => obtain ⟨r, _⟩ := r; subst r; rfl
      | _ => cases h⟩
  | str b => obtain ⟨r, _⟩ := r; subst r; exact ⟨rfl, fun e w r h => by
      cases e with
      | non => cases r; rfl
      | bl b => cases r; rfl
      | int b => cases r; rfl
      | str b => obtain ⟨r, _⟩ := r; subst r; rfl
      | _ => cases h⟩
  | _ => cases h
theorem inV_of {K : PySem.W.Frag} {G : Hp} {d : D} {v : V} (r : Rep K G d v) (h : flatD d = true) : ∀ {ds : List D} {vs : List V}, RepL K G ds vs → ds.all flatD = true → vs.all flatV = true ∧ inV v vs = ds.any fun e => deq e d
  | [], _, q, _ => by cases q; exact ⟨rfl, rfl⟩
  | e :: ds, _, ⟨w, vs, e1, h2, h3⟩, f => by
    subst e1
    have f' : flatD e = true ∧ ds.all flatD = true := by simpa using f
    obtain ⟨i1, i2⟩ := inV_of r h h3 f'.2
    obtain ⟨fv, _⟩ := flatD_of h2 f'.1
    have e2 := (flatD_of r h).2 e w h2 f'.1
    refine ⟨by simp [fv, i1], ?_⟩
    have e3 : inV v (w :: vs) = (eqV w v || inV v vs) := rfl
    rw [e3, i2, e2]; rfl
def rInDk (neg : Bool) : R2 := fun y x H Q => ∃ a o, x = .ref a ∧ DGet H a y o ∧ Q (.bl (xor neg o.isSome)) H
theorem op_inDk {X : Cx} (hu : X.A.units + 1 < cLine) : OpR X (compareOp .In) (rInDk false) := by
  intro pins s σ H y x u v Q I ry rx h
  obtain ⟨a, o, rfl, g, q⟩ := h
  cases rx
  exact d_in hu I g ry fun s3 I3 => ⟨.bl o.isSome, H, I3, rfl, by simpa using q⟩
theorem op_ninDk {X : Cx} (hu : X.A.units + 1 < cLine) : OpR X (compareOp .NotIn) (rInDk true) := by
  intro pins s σ H y x u v Q I ry rx h
  obtain ⟨a, o, rfl, g, q⟩ := h
  cases rx
  exact d_notIn hu I g ry fun s3 I3 => ⟨.bl (!o.isSome), H, I3, rfl, by simpa using q⟩
def inS (c z : Str) : Bool := !(Builtin.Str.occurrences z c 0 z.length 1).isEmpty
def rInStr (neg : Bool) : R2 := fun x y H Q => ∃ i j, x = .str i ∧ y = .str j ∧ Q (.bl (xor neg (inS i j))) H
theorem op_inStr {X : Cx} : OpR X (compareOp .In) (rInStr false) := by
  intro pins s σ H y x u v Q I ry rx h
  obtain ⟨i, j, e1, e2, q⟩ := h
  exact op_in_str pins s σ H y x u v Q I ry rx ⟨i, j, e1, e2, by simpa [inS] using q⟩
theorem op_ninStr {X : Cx} : OpR X (compareOp .NotIn) (rInStr true) := by
  intro pins s σ H y x u v Q I ry rx h
  obtain ⟨i, j, e1, e2, q⟩ := h
  exact op_notIn_str pins s σ H y x u v Q I ry rx ⟨i, j, e1, e2, by simpa [inS] using q⟩
def rInX (K : PySem.W.Frag) (neg : Bool) : R2 := fun x y H Q => rIn K neg x y H Q ∨ rInDk neg x y H Q ∨ rInStr neg x y H Q
def dIn (neg : Bool) : DOp := fun x y M Q => match dgetD M y x with
  | some r => Q (.bl (xor neg r.isSome)) M
  | none => match res M y with
    | .lst ds => flatD x = true ∧ ds.all flatD = true ∧ Q (.bl (xor neg (ds.any fun e => deq e x))) M
    | .tup ds => flatD x = true ∧ ds.all flatD = true ∧ Q (.bl (xor neg (ds.any fun e => deq e x))) M
    | .str z => match x with
      | .str c => Q (.bl (xor neg (inS c z))) M
      | _ => False
    | _ => False
theorem ref_in {K : PySem.W.Frag} {neg : Bool} : RefR2 K (rInX K neg) (dIn neg) := fun G H p M s x y v u Q Q' S r1 r2 h k => by
  have nb : ∀ b : Bool, (if neg = true then !b else b) = xor neg b := fun b => by cases neg <;> cases b <;> rfl
  unfold dIn at h
  split at h
  · next r e =>
    obtain ⟨a, o, rfl, g, q⟩ := dgetD_of S r2 r1 e
    refine .inr (.inl ⟨a, o, rfl, g, k G H M (.bl _) _ (Same.refl _) S rfl ?_⟩)
    rcases q with ⟨rfl, rfl⟩ | ⟨d, w, rfl, rfl, _⟩ <;> exact h
  · split at h
    · next ds e1 =>
      obtain ⟨f1, f2, h⟩ := h
      obtain ⟨a, vs, rfl, h1, h2, h3⟩ := as_lst S r2 e1
      obtain ⟨i1, i2⟩ := inV_of r1 f1 h2 f2
      refine .inl ⟨a, vs, rfl, .inl (.inl (.inl h1)), (flatD_of r1 f1).1, i1, k G H M (.bl _) _ (Same.refl _) S rfl ?_⟩
      rw [nb, i2]; exact h
    · next ds e1 =>
      obtain ⟨f1, f2, h⟩ := h
      obtain ⟨a, vs, rfl, h1, h2, h3⟩ := as_tup S r2 e1
      obtain ⟨i1, i2⟩ := inV_of r1 f1 h2 f2
      refine .inl ⟨a, vs, rfl, .inr h1, (flatD_of r1 f1).1, i1, k G H M (.bl _) _ (Same.refl _) S rfl ?_⟩
      rw [nb, i2]; exact h
    · next z e1 =>
      obtain ⟨rfl, l1, o1⟩ := as_str r2 e1
      split at h
      · next c _ =>
        obtain ⟨rfl, _⟩ := r1
        exact .inr (.inr ⟨c, z, rfl, rfl, k G H M (.bl _) _ (Same.refl _) S rfl h⟩)
      · exact h.elim
    · exact h.elim
theorem o_in {X : Cx} (hu : X.A.units + 1 < cLine) : QOp X (compareOp .In) (rInX X.K false) (dIn false) := ⟨OpR.or op_in_seq (OpR.or (op_inDk hu) op_inStr), ref_in⟩
theorem o_notin {X : Cx} (hu : X.A.units + 1 < cLine) : QOp X (compareOp .NotIn) (rInX X.K true) (dIn true) := ⟨OpR.or op_notIn_seq (OpR.or (op_ninDk hu) op_ninStr), ref_in⟩

/-! ### slices -/
abbrev DTO := DWt → Rho → Mst → (Option Int → Mst → Prop) → Prop
def RefO (K : PySem.W.Frag) (W : WX) (t : TO) (q : DTO) : Prop := ∀ DW G H p M s (Q : Option Int → Mst → Prop) (Q' : Option Int → Hp → Prop), WLink K G DW W → Sim K G H p M s → q DW p M Q →
  (∀ G' H' M' b, Same G G' → Sim K G' H' p M' s → Q b M' → Q' b H') → t s H Q'
structure QO (X : Cx) (W : WX) (e : Option Expr) (t : TO) (q : DTO) : Prop where
  pe : PO X e t
  rf : RefO X.K W t q
@[simp] def qNoPart : DTO := fun _ _ M Q => Q none M
@[simp] def qPart (q : DTE) : DTO := fun DW p M Q => q DW p M fun d M1 => match d with | .int i => Q (some i) M1 | _ => False
def cutX {α : Type} (xs : List α) (lo hi : Option Int) : List α := (xs.drop (HT.sIx xs.length 0 lo)).take (HT.sIx xs.length xs.length hi - HT.sIx xs.length 0 lo)
def dSl (m : Bool) (x : D) (lo hi : Option Int) (M : Mst) (Q : DK) : Prop := match x with
  | .tup ds => Q (.tup (cutX ds lo hi)) M
  | _ => match res M x with
    | .lst ds => newL m (cutX ds lo hi) M Q
    | .str z => Q (.str (cutS z lo hi)) M
    | _ => False
def qSl (m : Bool) (qe : DTE) (ql qh : DTO) : DTE := fun DW p M Q => qe DW p M fun x M1 => ql DW p M1 fun l M2 => qh DW p M2 fun u M3 => dSl m x l u M3 Q
theorem strOk_cut {z : Str} {lo hi : Option Int} (h : PyData.strOk z = true) : PyData.strOk (cutS z lo hi) = true := by
  have ho : ∀ y ∈ z.cps.toList, decide (y < 0x110000) = true := by
    unfold PyData.strOk at h
    rw [← Array.all_toList] at h
    exact List.all_eq_true.mp h
  unfold PyData.strOk cutS
  rw [← Array.all_toList]
  refine List.all_eq_true.mpr fun y hy => ho y ?_
  exact List.mem_of_mem_drop (List.mem_of_mem_take (by simpa using hy))
section
variable {X : Cx} {W : WX} {e : Expr} {te : TE} {qe : DTE} {lo hi : Option Expr} {tl th : TO} {ql qh : DTO} {pos p2 : Pos}
theorem qo_none : QO X W none tNoPart qNoPart := ⟨po_none, fun DW G H p M s Q Q' hw S q k => k G H M none (Same.refl _) S q⟩
theorem qo_some (h : QE X W e te qe) : QO X W (some e) (tPart te) (qPart qe) := ⟨po_some h.pe, fun DW G H p M s Q Q' hw S q k => h.rf DW G H p M s _ _ hw S q fun G1 H1 M1 d v e1 S1 r1 h1 => by
  cases d with
  | int i => cases r1; exact ⟨i, rfl, k G1 H1 M1 _ e1 S1 h1⟩
  | _ => exact h1.elim⟩
def rSlX (K : PySem.W.Frag) : V → Option Int → Option Int → Hp → VK → Prop := fun x lo hi H Q => rSlL K x lo hi H Q ∨ rSlA K x lo hi H Q ∨ rSlS x lo hi H Q
theorem q_slice (m : Bool) (he : QE X W e te qe) (hl : QO X W lo tl ql) (hu : QO X W hi th qh) : QE X W (.Subscript e (.Slice lo hi none p2) pos) (tSl (rSlX X.K) te tl th) (qSl m qe ql qh) :=
  ⟨pe_slice (SlR.or sl_list (SlR.or sl_tupA sl_str)) he.pe hl.pe hu.pe, fun DW G H p M s Q Q' hw S h k => he.rf DW G H p M s _ _ hw S h fun G1 H1 M1 d v e1 S1 r1 h1 =>
    hl.rf DW G1 H1 p M1 s _ _ (hw.mono e1) S1 h1 fun G2 H2 M2 l e2 S2 h2 => hu.rf DW G2 H2 p M2 s _ _ (hw.mono (e1.trans e2)) S2 h2 fun G3 H3 M3 u e3 S3 h3 => by
      have r3 := Rep.mono (e2.trans e3) _ _ r1
      have k3 : ∀ G' H' M' d w, Same G3 G' → Sim X.K G' H' p M' s → Rep X.K G' d w → Q d M' → Q' w H' := fun G' H' M' d w e4 => k G' H' M' d w (((e1.trans e2).trans e3).trans e4)
      unfold dSl at h3
      split at h3
      · next ds =>
        obtain ⟨a, vs, rfl, g1, g2, g3⟩ := r3
        have g1' := S3.same _ _ g1
        have c1 : RepL X.K G3 (cutX ds l u) (cutV vs l u) := by
          unfold cutX cutV
          rw [g2.length]
          exact RepL.take _ (RepL.drop _ g2)
        have c2 := Nat.le_trans (cutV_length vs l u) g3
        refine .inr (.inl ⟨a, vs, rfl, .inl (.inl g1'), fun hwh => ?_, fun hnw q hq => newT_ok S3 hq c1 c2 h3 k3⟩)
        refine k3 G3 H3 M3 (.tup (cutX ds l u)) _ (Same.refl _) S3 ⟨a, vs, rfl, g1, ?_, g3⟩ h3
        have e5 : cutV vs l u = vs := by
          unfold cutV
          rw [hwh.1, hwh.2]
          simp
        rw [e5] at c1; exact c1
      · split at h3
        · next ds e4 =>
          obtain ⟨a, vs, rfl, g1, g2, g3⟩ := as_lst S3 r3 e4
          have c1 : RepL X.K G3 (cutX ds l u) (cutV vs l u) := by
            unfold cutX cutV
            rw [g2.length]
            exact RepL.take _ (RepL.drop _ g2)
          exact .inl ⟨a, vs, rfl, .inl (.inl g1), fun q hq => newL_ok S3 hq c1 (Nat.le_trans (cutV_length vs l u) g3) h3 k3⟩
        · next z e4 =>
          obtain ⟨rfl, l1, o1⟩ := as_str r3 e4
          exact .inr (.inr ⟨z, rfl, l1, k3 G3 H3 M3 (.str _) _ (Same.refl _) S3 ⟨rfl, Nat.le_trans (cutS_length z l u) l1, strOk_cut o1⟩ h3⟩)
        · exact h3.elim⟩
/-- xs[::-1] -/
def dRev (m : Bool) : DUn := fun x M Q => match res M x with
  | .lst ds => newL m ds.reverse M Q
  | _ => False
theorem q_rev (m : Bool) {k : Nat} {p1 p2 p3 pos : Pos} (he : QE X W e te qe) : QE X W (.Subscript e (.Slice none none (some (.UnaryOp .USub (.Constant (.int 1) k p1) p2)) p3) pos) (tRevL X.K te) (qUn (dRev m) qe) :=
  ⟨pe_revL he.pe, fun DW G H p M s Q Q' hw S h k => he.rf DW G H p M s _ _ hw S h fun G1 H1 M1 d v e1 S1 r1 h1 => by
    unfold dRev at h1
    split at h1
    · next ds e4 =>
      obtain ⟨a, vs, rfl, g1, g2, g3⟩ := as_lst S1 r1 e4
      exact ⟨a, vs, rfl, .inl (.inl g1), fun q hq => newL_ok S1 hq (RepL.reverse g2) (by rw [List.length_reverse]; exact g3) h1 fun G' H' M' d w e4 => k G' H' M' d w (e1.trans e4)⟩
    · exact h1.elim⟩
end

/-! ### len, abs, max, min, int, str, bool -/
def dLen : DCa := fun ds M Q => match ds with
  | [x] => match res M x with
    | .lst es => Q (.int es.length) M
    | .tup es => Q (.int es.length) M
    | .str z => Q (.int z.length) M
    | .scr ns => Q (.int ns.length) M
    | .dct ks es => Q (.int es.length) M
    | _ => False
  | _ => False
theorem call_lenDR {X : Cx} : CallR X (.builtin "len") (fun xs H Q => ∃ a kvs, xs = [V.ref a] ∧ Rd H a (.dK kvs) ∧ Q (.int kvs.length) H) := by
  intro pins s σ H xs us Q I r h
  obtain ⟨a, kvs, rfl, ha, q⟩ := h
  obtain ⟨u, rfl, ru⟩ := vals1 r
  cases ru
  exact d_len I ha fun t s' I' => ⟨.int kvs.length, H, I', ⟨_, rfl⟩, q⟩
def rLenX (K : PySem.W.Frag) : List V → Hp → VK → Prop := fun xs H Q => (∃ x n, xs = [x] ∧ LenV K x H n ∧ Q (.int n) H) ∨ ∃ a kvs, xs = [V.ref a] ∧ Rd H a (.dK kvs) ∧ Q (.int kvs.length) H
theorem repL1 {K : PySem.W.Frag} {G : Hp} {x : D} {vs : List V} (r : RepL K G [x] vs) : ∃ v, vs = [v] ∧ Rep K G x v := by
  obtain ⟨v, r', e, h1, h2⟩ := r
  cases h2
  exact ⟨v, e, h1⟩
theorem repL2 {K : PySem.W.Frag} {G : Hp} {x y : D} {vs : List V} (r : RepL K G [x, y] vs) : ∃ v u, vs = [v, u] ∧ Rep K G x v ∧ Rep K G y u := by
  obtain ⟨v, r', e, h1, h2⟩ := r
  obtain ⟨u, e2, h3⟩ := repL1 h2
  subst e2
  exact ⟨v, u, e, h1, h3⟩
theorem c_len {X : Cx} : QCa X (.builtin "len") (rLenX X.K) dLen := ⟨CallR.or call_len call_lenDR, fun G H p M s ds vs Q Q' S r h k => by
  unfold dLen at h
  split at h
  · next x =>
    obtain ⟨v, rfl, r1⟩ := repL1 r
    have fin : ∀ (n : Nat), Q (.int n) M → Q' (.int n) H := fun n q => k G H M (.int n) _ (Same.refl _) S rfl q
    split at h
    · next es e1 =>
      obtain ⟨a, us, rfl, g1, g2, g3⟩ := as_lst S r1 e1
      exact .inl ⟨_, es.length, rfl, .inl ⟨us, .inl (.inl g1), g2.length.symm⟩, fin _ h⟩
    · next es e1 =>
      obtain ⟨a, us, rfl, g1, g2, g3⟩ := as_tup S r1 e1
      exact .inl ⟨_, es.length, rfl, .inr ⟨us, g1, g2.length.symm⟩, fin _ h⟩
    · next z e1 =>
      obtain ⟨rfl, l1, o1⟩ := as_str r1 e1
      exact .inl ⟨_, z.length, rfl, ⟨l1, rfl⟩, fin _ h⟩
    · next ns e1 =>
      cases x with
      | scr ms =>
        cases e1
        obtain ⟨a, rfl, g1, g2⟩ := r1
        exact .inl ⟨_, ns.length, rfl, .inl ⟨_, same_l S.same g1, by simp⟩, fin _ h⟩
      | ref a =>
        simp only [res] at e1
        split at e1 <;> cases e1
      | _ => cases e1
    · next ks es e1 =>
      obtain ⟨a, us, rfl, g1, g2, g3, g4, _⟩ := as_dct S r1 e1
      refine .inr ⟨a, us, rfl, g1, ?_⟩
      have e2 : us.length = es.length := by have := g3.length; simpa using this
      rw [e2]
      exact fin _ h
    · exact h.elim
  · exact h.elim⟩
def dAbs : DCa := fun ds M Q => match ds with
  | [.int i] => Q (.int (if i < 0 then -i else i)) M
  | _ => False
theorem c_abs {X : Cx} : QCa X (.builtin "abs") (fun xs H Q => ∃ i, xs = [.int i] ∧ Q (.int (if i < 0 then -i else i)) H) dAbs := ⟨call_abs, fun G H p M s ds vs Q Q' S r h k => by
  unfold dAbs at h
  split at h
  · next i =>
    obtain ⟨v, rfl, r1⟩ := repL1 r
    cases r1
    exact ⟨i, rfl, k G H M (.int _) _ (Same.refl _) S rfl h⟩
  · exact h.elim⟩
def dMax2 : DCa := fun ds M Q => match ds with
  | [.int i, .int j] => Q (.int (if j > i then j else i)) M
  | _ => False
def dMin2 : DCa := fun ds M Q => match ds with
  | [.int i, .int j] => Q (.int (if j < i then j else i)) M
  | _ => False
theorem c_max2 {X : Cx} (hc : X.calm = true) : QCa X (.builtin "max") (fun xs H Q => ∃ i j, xs = [.int i, .int j] ∧ Q (.int (if j > i then j else i)) H) dMax2 := ⟨call_max2 hc, fun G H p M s ds vs Q Q' S r h k => by
  unfold dMax2 at h
  split at h
  · next i j =>
    obtain ⟨v, u, rfl, r1, r2⟩ := repL2 r
    cases r1
    cases r2
    exact ⟨i, j, rfl, k G H M (.int _) _ (Same.refl _) S rfl h⟩
  · exact h.elim⟩
theorem c_min2 {X : Cx} (hc : X.calm = true) : QCa X (.builtin "min") (fun xs H Q => ∃ i j, xs = [.int i, .int j] ∧ Q (.int (if j < i then j else i)) H) dMin2 := ⟨call_min2 hc, fun G H p M s ds vs Q Q' S r h k => by
  unfold dMin2 at h
  split at h
  · next i j =>
    obtain ⟨v, u, rfl, r1, r2⟩ := repL2 r
    cases r1
    cases r2
    exact ⟨i, j, rfl, k G H M (.int _) _ (Same.refl _) S rfl h⟩
  · exact h.elim⟩
/-- int(x) of a number, a truth -/
def dInt1 : DCa := fun ds M Q => match ds with
  | [.int i] => Q (.int i) M
  | [.bl b] => Q (.int (if b then 1 else 0)) M
  | _ => False
theorem c_int1 {X : Cx} : QCa X (.type "int") (fun xs H Q => (∃ i, xs = [.int i] ∧ Q (.int i) H) ∨ ∃ k, xs = [.bl k] ∧ Q (.int (if k then 1 else 0)) H) dInt1 := ⟨call_int1, fun G H p M s ds vs Q Q' S r h k => by
  unfold dInt1 at h
  split at h
  · next i =>
    obtain ⟨v, rfl, r1⟩ := repL1 r
    cases r1
    exact .inl ⟨i, rfl, k G H M (.int _) _ (Same.refl _) S rfl h⟩
  · next i =>
    obtain ⟨v, rfl, r1⟩ := repL1 r
    cases r1
    exact .inr ⟨i, rfl, k G H M (.int _) _ (Same.refl _) S rfl h⟩
  · exact h.elim⟩

/-! ### list(x), tuple(x) -/
def dList (m : Bool) : DCa := fun ds M Q => match ds with
  | [x] => match res M x with
    | .lst es => newL m es M Q
    | .tup es => newL m es M Q
    | _ => False
  | _ => False
theorem c_list {X : Cx} (m : Bool) : QCa X (.type "list") (fun xs H Q => ∃ p ys, xs = [.ref p] ∧ (SqL X.K H p ys ∨ SqT X.K H p ys) ∧ ∀ l, H l = none → Q (.ref l) (upd H l (.lst ys))) (dList m) := ⟨call_list_of, fun G H p M s ds vs Q Q' S r h k => by
  unfold dList at h
  split at h
  · next x =>
    obtain ⟨v, rfl, r1⟩ := repL1 r
    split at h
    · next es e1 =>
      obtain ⟨a, us, rfl, g1, g2, g3⟩ := as_lst S r1 e1
      exact ⟨a, us, rfl, .inl (.inl (.inl g1)), fun q hq => newL_ok S hq g2 g3 h k⟩
    · next es e1 =>
      obtain ⟨a, us, rfl, g1, g2, g3⟩ := as_tup S r1 e1
      exact ⟨a, us, rfl, .inr g1, fun q hq => newL_ok S hq g2 g3 h k⟩
    · exact h.elim
  · exact h.elim⟩
def dTuple : DCa := fun ds M Q => match ds with
  | [.tup es] => Q (.tup es) M
  | [x] => match res M x with
    | .lst es => Q (.tup es) M
    | _ => False
  | _ => False
theorem c_tuple {X : Cx} : QCa X (.type "tuple") (fun xs H Q => ∃ p ys, xs = [.ref p] ∧ ((SqL X.K H p ys ∧ ∀ l, H l = none → Q (.ref l) (upd H l (.tup ys))) ∨ (SqT X.K H p ys ∧ Q (.ref p) H))) dTuple := ⟨call_tuple_of, fun G H p M s ds vs Q Q' S r h k => by
  unfold dTuple at h
  split at h
  · next es =>
    obtain ⟨v, rfl, r1⟩ := repL1 r
    obtain ⟨a, us, rfl, g1, g2, g3⟩ := r1
    exact ⟨a, us, rfl, .inr ⟨.inl (.inl (S.same _ _ g1)), k G H M (.tup es) _ (Same.refl _) S ⟨a, us, rfl, g1, g2, g3⟩ h⟩⟩
  · next x _ =>
    obtain ⟨v, rfl, r1⟩ := repL1 r
    split at h
    · next es e1 =>
      obtain ⟨a, us, rfl, g1, g2, g3⟩ := as_lst S r1 e1
      exact ⟨a, us, rfl, .inl ⟨.inl (.inl g1), fun q hq => newT_ok S hq g2 g3 h k⟩⟩
    · exact h.elim
  · exact h.elim⟩

/-! ### all, any, sum -/
def blsD : List D → Option (List Bool)
  | [] => some []
  | .bl b :: ds => (blsD ds).map (b :: ·)
  | _ => none
def intsD : List D → Option (List Int)
  | [] => some []
  | .int b :: ds => (intsD ds).map (b :: ·)
  | _ => none
theorem blsD_of {K : PySem.W.Frag} {G : Hp} : ∀ {ds : List D} {vs : List V} {bs : List Bool}, RepL K G ds vs → blsD ds = some bs → vs = bs.map V.bl
  | [], _, _, h, e => by cases h; cases e; rfl
  | d :: ds, _, bs, ⟨v, r, h1, h2, h3⟩, e => by
    cases d with
    | bl b =>
      simp only [blsD] at e
      cases eb : blsD ds with
      | none => rw [eb] at e; cases e
      | some cs =>
        rw [eb] at e; cases e
        cases h2
        rw [h1, blsD_of h3 eb]; rfl
    | _ => simp [blsD] at e
theorem intsD_of {K : PySem.W.Frag} {G : Hp} : ∀ {ds : List D} {vs : List V} {bs : List Int}, RepL K G ds vs → intsD ds = some bs → vs = bs.map V.int
  | [], _, _, h, e => by cases h; cases e; rfl
  | d :: ds, _, bs, ⟨v, r, h1, h2, h3⟩, e => by
    cases d with
    | int b =>
      simp only [intsD] at e
      cases eb : intsD ds with
      | none => rw [eb] at e; cases e
      | some cs =>
        rw [eb] at e; cases e
        cases h2
        rw [h1, intsD_of h3 eb]; rfl
    | _ => simp [intsD] at e
@[simp] theorem blsD_map {α : Type} (f : α → Bool) : ∀ l : List α, blsD (l.map fun x => .bl (f x)) = some (l.map f)
  | [] => rfl
  | x :: l => by simp [blsD, blsD_map f l]
@[simp] theorem intsD_map {α : Type} (f : α → Int) : ∀ l : List α, intsD (l.map fun x => .int (f x)) = some (l.map f)
  | [] => rfl
  | x :: l => by simp [intsD, intsD_map f l]
def dAll : DCa := fun ds M Q => match ds with
  | [x] => match res M x with
    | .lst es => match blsD es with | some bs => Q (.bl (bs.all id)) M | none => False
    | _ => False
  | _ => False
def dAny : DCa := fun ds M Q => match ds with
  | [x] => match res M x with
    | .lst es => match blsD es with | some bs => Q (.bl (bs.any id)) M | none => False
    | _ => False
  | _ => False
theorem c_all {X : Cx} (hc : X.calm = true) : QCa X (.builtin "all") (rAll X.K) dAll := ⟨cr_all hc, fun G H p M s ds vs Q Q' S r h k => by
  unfold dAll at h
  split at h
  · next x =>
    obtain ⟨v, rfl, r1⟩ := repL1 r
    split at h
    · next es e1 =>
      obtain ⟨a, us, rfl, g1, g2, g3⟩ := as_lst S r1 e1
      split at h
      · next bs eb =>
        refine ⟨a, bs, rfl, .inl (.inl ?_), k G H M (.bl _) _ (Same.refl _) S rfl h⟩
        rw [← blsD_of g2 eb]; exact g1
      · exact h.elim
    · exact h.elim
  · exact h.elim⟩
theorem c_any {X : Cx} (hc : X.calm = true) : QCa X (.builtin "any") (rAny X.K) dAny := ⟨cr_any hc, fun G H p M s ds vs Q Q' S r h k => by
  unfold dAny at h
  split at h
  · next x =>
    obtain ⟨v, rfl, r1⟩ := repL1 r
    split at h
    · next es e1 =>
      obtain ⟨a, us, rfl, g1, g2, g3⟩ := as_lst S r1 e1
      split at h
      · next bs eb =>
        refine ⟨a, bs, rfl, .inl (.inl ?_), k G H M (.bl _) _ (Same.refl _) S rfl h⟩
        rw [← blsD_of g2 eb]; exact g1
      · exact h.elim
    · exact h.elim
  · exact h.elim⟩

/-! ### isinstance against built-in types -/
def tyD : D → String
  | .non => "NoneType"
  | .bl _ => "bool"
  | .int _ => "int"
  | .str _ => "str"
  | .tup _ => "tuple"
  | .ktp _ => "tuple"
  | .lst _ => "list"
  | .dct _ _ => "dict"
  | .scr _ => "list"
  | _ => ""
def hasTy : D → Bool
  | .ins _ _ _ => false
  | .exc _ _ _ _ => false
  | .ref _ => false
  | .ty _ => false
  | .scr _ => false
  | _ => true
/-- is a thing of the type t one of T -/
def isiB (t T : String) : Option Bool := kitB t T
def isiL (t : String) : List D → Option Bool
  | [] => some false
  | .ty T :: ds => match isiB t T, isiL t ds with
    | some a, some b => some (a || b)
    | _, _ => none
  | _ => none
def dIsi : DCa := fun ds M Q => match ds with
  | [x, .ty T] => hasTy (res M x) = true ∧ match isiB (tyD (res M x)) T with | some b => Q (.bl b) M | none => False
  | [x, .tup Ts] => hasTy (res M x) = true ∧ match isiL (tyD (res M x)) Ts with | some b => Q (.bl b) M | none => False
  | _ => False
theorem tyX_of {K : PySem.W.Frag} {G H : Hp} {p : Rho} {M : Mst} {s : L2.St} {x : D} {v : V} (S : Sim K G H p M s) (r : Rep K G x v) (h : hasTy (res M x) = true) : TyX K H v (.type (tyD (res M x))) := by
  cases e : res M x with
  | non =>
    have : x = .non := by
      cases x with
      | ref a => simp only [res] at e; split at e <;> cases e
      | _ => cases e <;> rfl
    subst this; cases r; exact .base .non
  | bl b =>
    have : x = .bl b := by
      cases x with
      | ref a => simp only [res] at e; split at e <;> cases e
      | _ => cases e <;> rfl
    subst this; cases r; exact .base (.bl _)
  | int b => cases as_int r e; exact .base (.int _)
  | str b => obtain ⟨rfl, _⟩ := as_str r e; exact .base (.str _)
  | ty b => rw [e] at h; cases h
  | ref b => rw [e] at h; cases h
  | scr b => rw [e] at h; cases h
  | ins a b c => rw [e] at h; cases h
  | exc a b c z => rw [e] at h; cases h
  | ktp b =>
    cases x with
    | ref a => simp only [res] at e; split at e <;> cases e
    | _ => cases e
  | tup ds =>
    cases x with
    | ref a => simp only [res] at e; split at e <;> cases e
    | tup es =>
      cases e
      obtain ⟨a, us, rfl, g1, g2, g3⟩ := r
      exact .base (.tup (S.same _ _ g1))
    | ktp es =>
      cases e
      obtain ⟨a, us, rfl, g1, g2, g3⟩ := r
      rcases g1 with (g1 | ⟨o, g1⟩) | ⟨o, its, n, hk, hc, _⟩
      · exact .base (.tup (S.same _ _ g1))
      · exact .fTuple (S.same _ _ g1)
      · exact .kTuple hk hc
    | _ => cases e
  | lst ds =>
    obtain ⟨a, us, rfl, g1, g2, g3⟩ := as_lst S r e
    exact .base (.lst g1)
  | dct ks ds =>
    obtain ⟨a, us, rfl, g1, g2, g3, g4, _⟩ := as_dct S r e
    rcases g1 with g1 | ⟨o, g1⟩
    · exact .base (.dK g1)
    · exact .fDict g1
theorem isiL_of {K : PySem.W.Frag} {G : Hp} {t : String} : ∀ {ds : List D} {vs : List V} {b : Bool}, RepL K G ds vs → isiL t ds = some b → ∃ us, Paired ClsV vs us ∧ PySem.W.kitAny K (.type t) us = some b
  | [], _, b, h, e => by cases h; cases e; exact ⟨[], .nil, kitAny_nil⟩
  | d :: ds, _, b, ⟨v, r, h1, h2, h3⟩, e => by
    cases d with
    | ty T =>
      simp only [isiL] at e
      split at e
      · next a c e1 e2 =>
        cases e
        cases h2
        subst h1
        obtain ⟨us, q1, q2⟩ := isiL_of h3 e2
        refine ⟨.type T :: us, .cons (.ty T) q1, kitAny_cons (kit_ty e1) (fun ha => ?_) fun ha => ?_⟩
        · rw [q2, ha]; rfl
        · rw [ha]; rfl
      · cases e
    | _ => simp [isiL] at e
def rIsiX (K : PySem.W.Frag) : List V → Hp → VK → Prop := fun xs H Q => rIsi K xs H Q ∨ rIsiT K xs H Q
theorem c_isi {X : Cx} : QCa X (.builtin "isinstance") (rIsiX X.K) dIsi := ⟨CallR.or call_isi call_isiT, fun G H p M s ds vs Q Q' S r h k => by
  unfold dIsi at h
  split at h
  · next x T =>
    obtain ⟨v, u, rfl, r1, r2⟩ := repL2 r
    cases r2
    obtain ⟨ht, h⟩ := h
    split at h
    · next b e => exact .inl ⟨_, _, _, _, b, rfl, .ty T, tyX_of S r1 ht, kit_ty e, k G H M (.bl b) _ (Same.refl _) S rfl h⟩
    · exact h.elim
  · next x Ts =>
    obtain ⟨v, u, rfl, r1, r2⟩ := repL2 r
    obtain ⟨a, us, rfl, g1, g2, g3⟩ := r2
    obtain ⟨ht, h⟩ := h
    split at h
    · next b e =>
      obtain ⟨ws, q1, q2⟩ := isiL_of g2 e
      exact .inr ⟨_, a, us, _, ws, b, rfl, S.same _ _ g1, q1, tyX_of S r1 ht, q2, k G H M (.bl b) _ (Same.refl _) S rfl h⟩
    · exact h.elim
  · exact h.elim⟩
end DL

/-! DLe: statements, targets, loops, comprehensions. -/
namespace DL
open PySem L2

/-! ### blocks -/
@[simp] def qNext : DTS := fun _ DE p M => DE.nx p M
@[simp] def qSeq (q1 q2 : DTS) : DTS := fun DW DE p M => q1 DW { DE with nx := q2 DW DE } p M
@[simp] def qDrop (q : DTE) : DTS := fun DW DE p M => q DW p M fun _ M1 => DE.nx p M1
@[simp] def qRet (q : DTE) : DTS := fun DW DE p M => q DW p M fun d M1 => DE.rt d M1
@[simp] def qRetN : DTS := fun _ DE p M => DE.rt .non M
@[simp] def qIfS (c : DTT) (a b : DTS) : DTS := fun DW DE p M => c DW p M fun k M1 => if k = true then a DW DE p M1 else b DW DE p M1
def qNever : DTS := fun _ _ _ _ => False
@[simp] def qBreak : DTS := fun _ DE p M => DE.bk p M
@[simp] def qCont : DTS := fun _ DE p M => DE.ct p M
section
variable {X : Cx} {W : WX} {st : Stmt} {rest : List Stmt} {t u : TS} {q r : DTS} {e : Expr} {te : TE} {qe : DTE} {pos : Pos}
theorem qss_nil : QSs X W [] tNext qNext := ⟨pss_nil, fun DW G H p M s DE E hw S h k => k.nx G H p M s (Same.refl _) S h⟩
theorem qss_cons (h1 : QS X W st t q) (h2 : QSs X W rest u r) : QSs X W (st :: rest) (tSeq t u) (qSeq q r) :=
  ⟨pss_cons h1.pe h2.pe, fun DW G H p M s DE E hw S h k => h1.rf DW G H p M s _ _ hw S h
    ⟨fun G' H' p' M' s' e1 S' h' => h2.rf DW G' H' p' M' s' DE E (hw.mono e1) S' h' (k.mono e1), k.rt, k.bk, k.ct⟩⟩
theorem qss_one (h1 : QS X W st t q) : QSs X W [st] t q := ⟨pss_one h1.pe, h1.rf⟩
theorem qs_pass : QS X W (.Pass pos) tNext qNext := ⟨ps_pass, fun DW G H p M s DE E hw S h k => k.nx G H p M s (Same.refl _) S h⟩
theorem qs_break : QS X W (.Break pos) tBreak qBreak := ⟨ps_break, fun DW G H p M s DE E hw S h k => k.bk G H p M s (Same.refl _) S h⟩
theorem qs_continue : QS X W (.Continue pos) tCont qCont := ⟨ps_continue, fun DW G H p M s DE E hw S h k => k.ct G H p M s (Same.refl _) S h⟩
theorem qs_expr (he : QE X W e te qe) (hs : swapsWith e none pos.line X.env = pure false := by rfl) : QS X W (.Expr e pos) (tDrop te) (qDrop qe) :=
  ⟨ps_expr he.pe hs, fun DW G H p M s DE E hw S h k => he.rf DW G H p M s _ _ hw S h fun G1 H1 M1 d v e1 S1 r1 h1 => k.nx G1 H1 p M1 s e1 S1 h1⟩
theorem qs_ret (he : QE X W e te qe) : QS X W (.Return (some e) pos) (tRet te) (qRet qe) :=
  ⟨ps_ret he.pe, fun DW G H p M s DE E hw S h k => he.rf DW G H p M s _ _ hw S h fun G1 H1 M1 d v e1 S1 r1 h1 => k.rt G1 H1 p M1 s d v e1 S1 r1 h1⟩
theorem qs_retN : QS X W (.Return none pos) tRetN qRetN := ⟨ps_retN, fun DW G H p M s DE E hw S h k => k.rt G H p M s .non .non (Same.refl _) S rfl h⟩
theorem qs_if {c : Expr} {a b : List Stmt} {tc : TT} {qc : DTT} (hc : QT X W c tc qc) (ha : QSs X W a t q) (hb : QSs X W b u r) : QS X W (.If c a b pos) (tIfS tc t u) (qIfS qc q r) :=
  ⟨ps_if hc.pe ha.pe hb.pe, fun DW G H p M s DE E hw S h k => hc.rf DW G H p M s _ _ hw S h fun G1 H1 M1 c e1 S1 h1 => by
    cases c with
    | true =>
      rw [if_pos rfl] at h1 ⊢
      exact ha.rf DW G1 H1 p M1 s DE E (hw.mono e1) S1 h1 (k.mono e1)
    | false =>
      rw [if_neg Bool.false_ne_true] at h1 ⊢
      exact hb.rf DW G1 H1 p M1 s DE E (hw.mono e1) S1 h1 (k.mono e1)⟩
theorem qs_never : QS X W st tNever qNever := ⟨ps_never, fun DW G H p M s DE E hw S h k => h.elim⟩
theorem qss_never {sts : List Stmt} : QSs X W sts tNever qNever := ⟨pss_never, fun DW G H p M s DE E hw S h k => h.elim⟩
end

/-! ### targets: which slots they store -/
def Only (ix : List Nat) (s s' : L2.St) : Prop := s'.length = s.length ∧ ∀ j, j ∉ ix → s'[j]? = s[j]?
theorem Only.refl (ix : List Nat) (s : L2.St) : Only ix s s := ⟨rfl, fun _ _ => rfl⟩
theorem Only.trans {ix : List Nat} {s s1 s2 : L2.St} (a : Only ix s s1) (b : Only ix s1 s2) : Only ix s s2 := ⟨b.1.trans a.1, fun j h => (b.2 j h).trans (a.2 j h)⟩
theorem Only.mono {ix iy : List Nat} {s s1 : L2.St} (a : Only ix s s1) (h : ∀ j ∈ ix, j ∈ iy) : Only iy s s1 := ⟨a.1, fun j hj => a.2 j fun z => hj (h j z)⟩
theorem Only.set {ix : List Nat} {s : L2.St} {i : Nat} {v : Option V} (h : i ∈ ix) : Only ix s (s.set i v) := ⟨by simp, fun j hj => List.getElem?_set_ne (fun z => hj (by rw [← z]; exact h))⟩
theorem wipe_get {s : L2.St} {j : Nat} : ∀ {vs : List Nat}, j ∉ vs → (wipe s vs)[j]? = s[j]?
  | [], _ => rfl
  | v :: vs, h => by
    simp only [List.mem_cons, not_or] at h
    unfold wipe
    rw [List.getElem?_set_ne (Ne.symm h.1)]
    exact wipe_get h.2
theorem wipe_in {s : L2.St} {j : Nat} : ∀ {vs : List Nat}, j ∈ vs → j < s.length → (wipe s vs)[j]? = some none
  | [], h, _ => by cases h
  | v :: vs, h, hl => by
    unfold wipe
    by_cases e : v = j
    · subst e
      rw [List.getElem?_set_self (by rw [wipe_length]; exact hl)]
    · rw [List.getElem?_set_ne e]
      exact wipe_in (by rcases List.mem_cons.mp h with q | q; exact absurd q.symm e; exact q) hl
theorem Only.wipe {ix : List Nat} {s s' : L2.St} (h : Only ix s s') : L2.wipe s' ix = L2.wipe s ix := by
  apply List.ext_getElem?
  intro j
  by_cases hj : j ∈ ix
  · by_cases hl : j < s.length
    · rw [wipe_in hj hl, wipe_in hj (by rw [h.1]; exact hl)]
    · rw [List.getElem?_eq_none (by rw [wipe_length, h.1]; omega), List.getElem?_eq_none (by rw [wipe_length]; omega)]
  · rw [wipe_get hj, wipe_get hj]; exact h.2 j hj
def RefGi (K : PySem.W.Frag) (W : WX) (ix : List Nat) (t : TG) (q : DTG) : Prop := ∀ DW G H p M s d v (Q : Rho → Mst → Prop) (Q' : L2.St → Hp → Prop), WLink K G DW W → Sim K G H p M s → Rep K G d v → q d DW p M Q →
  (∀ G' H' p' M' s', Same G G' → Sim K G' H' p' M' s' → Only ix s s' → Q p' M' → Q' s' H') → t v s H Q'
def RefGis (K : PySem.W.Frag) (W : WX) (ix : List Nat) (t : TGs) (q : DTGs) : Prop := ∀ DW G H p M s ds vs (Q : Rho → Mst → Prop) (Q' : L2.St → Hp → Prop), WLink K G DW W → Sim K G H p M s → RepL K G ds vs → q ds DW p M Q →
  (∀ G' H' p' M' s', Same G G' → Sim K G' H' p' M' s' → Only ix s s' → Q p' M' → Q' s' H') → t vs s H Q'
structure QGi (X : Cx) (W : WX) (ix : List Nat) (tg : Expr) (t : TG) (q : DTG) : Prop where
  pe : PG X tg t
  rf : RefGi X.K W ix t q
structure QGis (X : Cx) (W : WX) (ix : List Nat) (tg : List Expr) (t : TGs) (q : DTGs) : Prop where
  pe : PGs X tg t
  rf : RefGis X.K W ix t q
section
variable {K : PySem.W.Frag} {G H : Hp} {p : Rho} {M : Mst} {s : L2.St} {d : D} {v : V}
theorem Sim.set (S : Sim K G H p M s) (i : Nat) (r : Rep K G d v) : Sim K G H (p.set i (some d)) M (s.set i (some v)) := by
  refine ⟨S.same, fun j e h => ?_, by simp [S.len], S.mem⟩
  by_cases hj : i = j
  · subst hj
    by_cases hl : i < p.length
    · rw [List.getElem?_set_self hl] at h
      cases h
      exact ⟨v, by rw [List.getElem?_set_self (by rw [S.len]; exact hl)], r⟩
    · rw [List.getElem?_eq_none (by simpa using hl)] at h
      cases h
  · rw [List.getElem?_set_ne hj] at h ⊢
    exact S.env j e h
/-- a name is forgotten -/
theorem Sim.forget (S : Sim K G H p M s) (i : Nat) (v : Option V) : Sim K G H (p.set i none) M (s.set i v) := by
  refine ⟨S.same, fun j e h => ?_, by simp [S.len], S.mem⟩
  by_cases hj : i = j
  · subst hj
    by_cases hl : i < p.length
    · rw [List.getElem?_set_self hl] at h
      cases h
    · rw [List.getElem?_eq_none (by simpa using hl)] at h
      cases h
  · rw [List.getElem?_set_ne hj] at h ⊢
    exact S.env j e h
end
def wipeD (p : Rho) : List Nat → Rho
  | [] => p
  | v :: vs => (wipeD p vs).set v none
theorem Sim.wipe {K : PySem.W.Frag} {G H : Hp} {p : Rho} {M : Mst} {s : L2.St} (S : Sim K G H p M s) : ∀ vs : List Nat, Sim K G H (wipeD p vs) M (L2.wipe s vs)
  | [] => S
  | v :: vs => (Sim.wipe S vs).forget v none
@[simp] def gNameD (i : Nat) : DTG := fun d _ p M Q => Q (p.set i (some d)) M
@[simp] def gNilD : DTGs := fun ds _ p M Q => ds = [] ∧ Q p M
@[simp] def gConsD (g : DTG) (gs : DTGs) : DTGs := fun ds DW p M Q => match ds with
  | d :: r => g d DW p M fun p1 M1 => gs r DW p1 M1 Q
  | [] => False
def gTupD (n : Nat) (gs : DTGs) : DTG := fun d DW p M Q => match res M d with
  | .tup ds => ds.length = n ∧ gs ds DW p M Q
  | _ => False
/-- o[i] = v by values -/
def putD {κ : Type} [DecidableEq κ] (kvs : List (κ × D)) (k : κ) (v : D) : List (κ × D) :=
  if kvs.any (fun kv => decide (kv.1 = k)) then kvs.map (fun kv => if kv.1 = k then (kv.1, v) else kv) else kvs ++ [(k, v)]
def dSet (o i v : D) (M : Mst) (Q : Mst → Prop) : Prop := match o with
  | .ref a => match M a with
    | some (.lst ds) => match i with
      | .int k => match ixN ds.length k with
        | some j => Q (put M a (.lst (ds.set j v)))
        | none => False
      | _ => False
    | some (.dK kvs) => match keyD i with
      | some k => kvs.length < 100000 ∧ Q (put M a (.dK (putD kvs k v)))
      | none => False
    | some (.dT kvs) => match i with
      | .tup ks => match keysD ks with
        | some k => kvs.length < 100000 ∧ Q (put M a (.dT (putD kvs k v)))
        | none => False
      | _ => False
    | _ => False
  | _ => False
def gSubD (qo qi : DTE) : DTG := fun d DW p M Q => qo DW p M fun o M1 => qi DW p M1 fun i M2 => dSet o i d M2 fun M3 => Q p M3
section
variable {X : Cx} {W : WX} {x : Str} {pos : Pos}
theorem qg_name {i : Nat} {ix : List Nat} (h : PG X (.Name x pos) (gName i)) (hm : i ∈ ix) : QGi X W ix (.Name x pos) (gName i) (gNameD i) :=
  ⟨h, fun DW G H p M s d v Q Q' hw S r q k => k G H _ M _ (Same.refl _) (S.set i r) (Only.set hm) q⟩
theorem qgs_nil {ix : List Nat} : QGis X W ix [] gNil gNilD := ⟨pgs_nil, fun DW G H p M s ds vs Q Q' hw S r ⟨e, q⟩ k => by
  subst e; cases r; exact ⟨rfl, k G H p M s (Same.refl _) S (Only.refl _ _) q⟩⟩
theorem qgs_cons {ix : List Nat} {e : Expr} {es : List Expr} {t : TG} {q : DTG} {u : TGs} {r : DTGs} (h1 : QGi X W ix e t q) (h2 : QGis X W ix es u r) (hs : (assignEach (e :: es) X.env).map (·.2) = assign e X.env :: (assignEach es X.env).map (·.2) := by rfl) :
    QGis X W ix (e :: es) (gCons t u) (gConsD q r) := ⟨pgs_cons h1.pe h2.pe hs, fun DW G H p M s ds vs Q Q' hw S rr h k => by
  cases ds with
  | nil => exact h.elim
  | cons d ds =>
    obtain ⟨v, vr, e1, r1, r2⟩ := rr
    exact ⟨v, vr, e1, h1.rf DW G H p M s d v _ _ hw S r1 h fun G1 H1 p1 M1 s1 e1 S1 o1 h1 => h2.rf DW G1 H1 p1 M1 s1 ds vr Q Q' (hw.mono e1) S1 (RepL.mono e1 _ _ r2) h1
      fun G2 H2 p2 M2 s2 e2 S2 o2 h2 => k G2 H2 p2 M2 s2 (e1.trans e2) S2 (o1.trans o2) h2⟩⟩
theorem qg_tup {ix : List Nat} {es : List Expr} {kk : Nat} {t : TGs} {q : DTGs} {n : Nat} (hc : X.calm = true) (h : QGis X W ix es t q) (hn : (assignEach es X.env).length = n := by rfl) (hst : (assignEach es X.env).findIdx? (·.1) = none := by rfl) :
    QGi X W ix (.Tuple es kk pos) (gTup X.K n t) (gTupD n q) := ⟨pg_tup hc h.pe hn hst, fun DW G H p M s d v Q Q' hw S r hq k => by
  unfold gTupD at hq
  split at hq
  · next ds e1 =>
    obtain ⟨hl, hq⟩ := hq
    obtain ⟨a, vs, rfl, g1, g2, g3⟩ := as_tup S r e1
    exact ⟨a, vs, rfl, g1, g2.length.trans hl, h.rf DW G H p M s ds vs Q Q' hw S g2 hq k⟩
  · exact hq.elim⟩
theorem set_dict (hu : X.A.units + 1 < cLine) : PSet X (fun o i v H Q => ∃ a H4, o = .ref a ∧ DPut H a i v H4 ∧ Q H4) := by
  intro pins s σ H o i v ov iv u Q I ro ri rv h
  obtain ⟨a, H4, rfl, g, q⟩ := h
  cases ro
  exact d_setItem hu I g ri rv fun s' I' => ⟨H4, I', q⟩
def rSetX : TSet := fun o i v H Q => rSetL o i v H Q ∨ ∃ a H4, o = .ref a ∧ DPut H a i v H4 ∧ Q H4
theorem set_any (hu : X.A.units + 1 < cLine) : PSet X rSetX := by
  intro pins s σ H o i v ov iv u Q I ro ri rv h
  rcases h with h | h
  · exact set_list pins s σ H o i v ov iv u Q I ro ri rv h
  · exact set_dict hu pins s σ H o i v ov iv u Q I ro ri rv h
theorem any_key {κ : Type} [DecidableEq κ] {kvs : List (κ × D)} {kv : List (κ × V)} {k : κ} (h : kv.map (·.1) = kvs.map (·.1)) : kv.any (fun q => decide (q.1 = k)) = kvs.any (fun q => decide (q.1 = k)) := by
  have e1 : kv.any (fun q => decide (q.1 = k)) = (kv.map (·.1)).any (fun q => decide (q = k)) := by rw [List.any_map]; rfl
  have e2 : kvs.any (fun q => decide (q.1 = k)) = (kvs.map (·.1)).any (fun q => decide (q = k)) := by rw [List.any_map]; rfl
  rw [e1, e2, h]
theorem putMap_rel {K : PySem.W.Frag} {G : Hp} {κ : Type} [DecidableEq κ] {k : κ} {d : D} {v : V} (rd : Rep K G d v) : ∀ {kvs : List (κ × D)} {kv : List (κ × V)}, kv.map (·.1) = kvs.map (·.1) → RepL K G (kvs.map (·.2)) (kv.map (·.2)) →
    (kv.map fun q => if q.1 = k then (q.1, v) else q).map (·.1) = (kvs.map fun q => if q.1 = k then (q.1, d) else q).map (·.1) ∧ RepL K G ((kvs.map fun q => if q.1 = k then (q.1, d) else q).map (·.2)) ((kv.map fun q => if q.1 = k then (q.1, v) else q).map (·.2))
  | [], [], _, _ => ⟨rfl, rfl⟩
  | [], _ :: _, h, _ => by cases h
  | _ :: _, [], h, _ => by cases h
  | (a, e) :: kvs, (b, w) :: kv, h, r => by
    simp only [List.map_cons, List.cons.injEq] at h
    obtain ⟨rfl, h⟩ := h
    obtain ⟨v', r', e1, h2, h3⟩ := r
    simp only [List.map_cons, List.cons.injEq] at e1
    obtain ⟨rfl, rfl⟩ := e1
    obtain ⟨i1, i2⟩ := putMap_rel rd h h3
    by_cases z : b = k
    · simp only [List.map_cons, z, if_true]
      exact ⟨by rw [i1], RepL.cons rd i2⟩
    · simp only [List.map_cons, z, if_false]
      exact ⟨by rw [i1], RepL.cons h2 i2⟩
theorem put_rel {K : PySem.W.Frag} {G : Hp} {κ : Type} [DecidableEq κ] {kvs : List (κ × D)} {kv : List (κ × V)} {k : κ} {d : D} {v : V} (h : kv.map (·.1) = kvs.map (·.1)) (r : RepL K G (kvs.map (·.2)) (kv.map (·.2))) (rd : Rep K G d v) :
    (putK kv k v).map (·.1) = (putD kvs k d).map (·.1) ∧ RepL K G ((putD kvs k d).map (·.2)) ((putK kv k v).map (·.2)) ∧ (putK kv k v).length ≤ kv.length + 1 := by
  unfold putK putD
  rw [any_key h]
  cases kvs.any (fun q => decide (q.1 = k)) with
  | true =>
    simp only [if_true]
    obtain ⟨i1, i2⟩ := putMap_rel (k := k) rd h r
    exact ⟨i1, i2, by simp⟩
  | false =>
    simp only [Bool.false_eq_true, if_false]
    refine ⟨by simp [h], ?_, by simp⟩
    rw [List.map_append, List.map_append]
    exact RepL.append r (RepL.cons rd rfl)
theorem kOk_of {K : PySem.W.Frag} {G : Hp} {d : D} {v : V} {k : Key} (r : Rep K G d v) (h : keyD d = some k) : kOk k := by
  cases d with
  | int i => cases h; trivial
  | str x => cases h; exact r.2
  | _ => cases h
theorem kOks_of {K : PySem.W.Frag} {G : Hp} : ∀ {ds : List D} {vs : List V} {ks : List Key}, RepL K G ds vs → keysD ds = some ks → ks.length = ds.length ∧ ∀ k ∈ ks, kOk k
  | [], _, _, h, e => by cases h; cases e; exact ⟨rfl, fun _ h => by cases h⟩
  | d :: ds, _, ks, ⟨v, r, h1, h2, h3⟩, e => by
    simp only [keysD] at e
    split at e
    · next k ks' e1 e2 =>
      cases e
      obtain ⟨i1, i2⟩ := kOks_of h3 e2
      refine ⟨by simp [i1], fun q hq => ?_⟩
      rcases List.mem_cons.mp hq with rfl | hq
      · exact kOk_of h2 e1
      · exact i2 q hq
    · cases e
theorem putD_keys {κ : Type} [DecidableEq κ] {P : κ → Prop} {kvs : List (κ × D)} {k : κ} {d : D} (h : ∀ q ∈ kvs, P q.1) (hk : P k) : ∀ q ∈ putD kvs k d, P q.1 := by
  intro q hq
  unfold putD at hq
  split at hq
  · obtain ⟨r, h1, h2⟩ := List.mem_map.mp hq
    subst h2
    split
    · exact h r h1
    · exact h r h1
  · rcases List.mem_append.mp hq with hq | hq
    · exact h q hq
    · have : q = (k, d) := by simpa using hq
      subst this; exact hk
theorem qg_sub {ix : List Nat} {o i : Expr} {to ti : TE} {qo qi : DTE} (hu : X.A.units + 1 < cLine) (ho : QE X W o to qo) (hi : QE X W i ti qi)
    (ha : ∀ v, assign (.Subscript o i pos) X.env v = (do
      let ov ← holding [v] (eval o X.env)
      let iv ← holding [v, ov] (eval i X.env)
      standAt pos
      holding [v, ov, iv] (setItem ov iv v)
      release [v, ov, iv] []) := by intro _; rfl) : QGi X W ix (.Subscript o i pos) (gSub to ti rSetX) (gSubD qo qi) :=
  ⟨pg_sub ho.pe hi.pe (set_any hu) ha, fun DW G H p M s d v Q Q' hw S r h k => ho.rf DW G H p M s _ _ hw S h fun G1 H1 M1 x xv e1 S1 r1 h1 =>
    hi.rf DW G1 H1 p M1 s _ _ (hw.mono e1) S1 h1 fun G2 H2 M2 y yv e2 S2 r2 h2 => by
      have r' := Rep.mono (e1.trans e2) _ _ r
      have r1' := Rep.mono e2 _ _ r1
      unfold dSet at h2
      split at h2
      · next a =>
        cases r1'
        split at h2
        · next ds em =>
          obtain ⟨gn, vs, g1, g2, g3⟩ := S2.mem _ _ em
          split at h2
          · next n =>
            cases r2
            split at h2
            · next j ej =>
              refine .inl ⟨a, vs, n, j, rfl, rfl, g1, by rw [g2.length]; exact ej, ?_⟩
              exact k G2 _ p _ s (e1.trans e2) (S2.put (mo := .lst (ds.set j d)) gn ⟨_, upd_same, RepL.set j g2 r', by simpa using g3⟩) (Only.refl _ _) h2
            · exact h2.elim
          · exact h2.elim
        · next kvs em =>
          obtain ⟨gn, kv, g1, g2, g3, g4, g5⟩ := S2.mem _ _ em
          split at h2
          · next kk ek =>
            have kk1 := kOk_of r2 ek
            obtain ⟨hl, h2⟩ := h2
            cases keyD_of r2 ek
            have hl' : kv.length < sizeLine := by
              have e5 : kv.length = kvs.length := by have := congrArg List.length g2; simpa using this
              rw [sizeLine_eq]; omega
            obtain ⟨p1, p2, p3⟩ := put_rel (k := kk) g2 g3 r'
            refine .inr ⟨a, _, rfl, DPut.k g1 hl', ?_⟩
            exact k G2 _ p _ s (e1.trans e2) (S2.put (mo := .dK (putD kvs kk d)) gn ⟨_, upd_same, p1, p2, by omega, putD_keys g5 kk1⟩) (Only.refl _ _) h2
          · exact h2.elim
        · next kvs em =>
          obtain ⟨gn, kv, g1, g2, g3, g4, g5⟩ := S2.mem _ _ em
          split at h2
          · next ks =>
            split at h2
            · next kk ek =>
              obtain ⟨hl, h2⟩ := h2
              obtain ⟨b, ws, rfl, c1, c2, c3⟩ := r2
              have e6 := keysD_of c2 ek
              obtain ⟨kl, kk1⟩ := kOks_of c2 ek
              have kl' : kk.length ≤ sizeLine := by rw [kl, ← c2.length]; exact c3
              have hl' : kv.length < sizeLine := by
                have e5 : kv.length = kvs.length := by have := congrArg List.length g2; simpa using this
                rw [sizeLine_eq]; omega
              obtain ⟨p1, p2, p3⟩ := put_rel (k := kk) g2 g3 r'
              refine .inr ⟨a, _, rfl, DPut.t g1 (by rw [S2.same _ _ c1, e6]) hl', ?_⟩
              exact k G2 _ p _ s (e1.trans e2) (S2.put (mo := .dT (putD kvs kk d)) gn ⟨_, upd_same, p1, p2, by omega, putD_keys (P := fun k => k.length ≤ sizeLine ∧ ∀ x ∈ k, kOk x) g5 ⟨kl', kk1⟩⟩) (Only.refl _ _) h2
            · exact h2.elim
          · exact h2.elim
        · exact h2.elim
      · exact h2.elim⟩

/-! ### assignment -/
@[simp] def qAsg (qe : DTE) (g : DTG) : DTS := fun DW DE p M => qe DW p M fun d M1 => g d DW p M1 DE.nx
theorem ref_asg {K : PySem.W.Frag} {te : TE} {qe : DTE} {t : TG} {g : DTG} {ix : List Nat} (h : RefE K W te qe) (hg : RefGi K W ix t g) : RefS K W (tAsg te t) (qAsg qe g) :=
  fun DW G H p M s DE E hw S q k => h DW G H p M s _ _ hw S q fun G1 H1 M1 d v e1 S1 r1 h1 => hg DW G1 H1 p M1 s d v _ _ (hw.mono e1) S1 r1 h1 fun G2 H2 p2 M2 s2 e2 S2 _ h2 => k.nx G2 H2 p2 M2 s2 (e1.trans e2) S2 h2
theorem qs_asg {tg e : Expr} {te : TE} {qe : DTE} {t : TG} {g : DTG} {ix : List Nat} (he : QE X W e te qe) (hg : QGi X W ix tg t g) (hs : swapsWithSole [tg] e pos.line X.env = pure false := by rfl) (hw : swappedStores [tg] e X.env = pure none := by rfl)
    (h1 : (assignEach [tg] X.env).map (·.2) = [assign tg X.env] := by rfl) : QS X W (.Assign [tg] e pos) (tAsg te t) (qAsg qe g) := ⟨ps_asg he.pe hg.pe hs hw h1, ref_asg he.rf hg.rf⟩
theorem qs_set {i : Nat} {x : Str} {e : Expr} {te : TE} {qe : DTE} {pos' : Pos} (h : PS X (.Assign [.Name x pos'] e pos) (tAsg te (gName i))) (he : RefE X.K W te qe) : QS X W (.Assign [.Name x pos'] e pos) (tAsg te (gName i)) (qAsg qe (gNameD i)) :=
  ⟨h, fun DW G H p M s DE E hw S q k => he DW G H p M s _ _ hw S q fun G1 H1 M1 d v e1 S1 r1 h1 => k.nx G1 H1 _ M1 _ e1 (S1.set i r1) h1⟩
@[simp] def qPar (i j : Nat) (qa : DTA) : DTS := fun DW DE p M => qa DW p M fun ds M1 => match ds with
  | [a, b] => DE.nx ((p.set i (some a)).set j (some b)) M1
  | _ => False
theorem qs_par {i j : Nat} {st : Stmt} {ta : TA} {qa : DTA} (h : PS X st (tPar i j ta)) (ha : RefA X.K W ta qa) : QS X W st (tPar i j ta) (qPar i j qa) :=
  ⟨h, fun DW G H p M s DE E hw S q k => ha DW G H p M s _ _ hw S q fun G1 H1 M1 ds vs e1 S1 r1 h1 => by
    split at h1
    · next a b =>
      obtain ⟨v, u, rfl, r2, r3⟩ := repL2 r1
      exact ⟨v, u, rfl, k.nx G1 H1 _ M1 _ e1 ((S1.set i r2).set j r3) h1⟩
    · exact h1.elim⟩
@[simp] def qPar3 (i j l : Nat) (qa : DTA) : DTS := fun DW DE p M => qa DW p M fun ds M1 => match ds with
  | [a, b, c] => DE.nx (((p.set i (some a)).set j (some b)).set l (some c)) M1
  | _ => False
theorem repL3 {K : PySem.W.Frag} {G : Hp} {x y z : D} {vs : List V} (r : RepL K G [x, y, z] vs) : ∃ v u w, vs = [v, u, w] ∧ Rep K G x v ∧ Rep K G y u ∧ Rep K G z w := by
  obtain ⟨v, r', e, h1, h2⟩ := r
  obtain ⟨u, w, e2, h3, h4⟩ := repL2 h2
  subst e2
  exact ⟨v, u, w, e, h1, h3, h4⟩
theorem qs_par3 {i j l : Nat} {st : Stmt} {ta : TA} {qa : DTA} (h : PS X st (tPar3 i j l ta)) (ha : RefA X.K W ta qa) : QS X W st (tPar3 i j l ta) (qPar3 i j l qa) :=
  ⟨h, fun DW G H p M s DE E hw S q k => ha DW G H p M s _ _ hw S q fun G1 H1 M1 ds vs e1 S1 r1 h1 => by
    split at h1
    · next a b c =>
      obtain ⟨v, u, w, rfl, r2, r3, r4⟩ := repL3 r1
      exact ⟨v, u, w, rfl, k.nx G1 H1 _ M1 _ e1 (((S1.set i r2).set j r3).set l r4) h1⟩
    · exact h1.elim⟩
/-- x op= e -/
def rAugX : TIp := fun x y H Q => ipI (fun i j => i + j) x y H Q ∨ rExt2 x y H Q
def dAug : DOp := fun x y M Q => match x, y with
  | .int i, .int j => Q (.int (i + j)) M
  | .ref a, y => match M a with
    | some (.lst ds) => match res M y with
      | .lst es => ds.length + es.length ≤ 100000 ∧ Q (.ref a) (put M a (.lst (ds ++ es)))
      | _ => False
    | _ => False
  | _, _ => False
theorem ip_any : PIp X .Add rAugX := by
  intro pins s σ H x y v u Q I r1 r2 h
  rcases h with h | h
  · exact ip_add pins s σ H x y v u Q I r1 r2 h
  · exact iop_ext pins s σ H x y v u Q I r1 r2 h
def qAug (i : Nat) (qe : DTE) (o : DOp) : DTS := fun DW DE p M => match p[i]? with
  | some (some x) => qe DW p M fun y M1 => o x y M1 fun z M2 => DE.nx (p.set i (some z)) M2
  | _ => False
theorem ref_aug {K : PySem.W.Frag} : RefR2 K rAugX dAug := fun G H p M s x y v u Q Q' S r1 r2 h k => by
  unfold dAug at h
  split at h
  · next i j => cases r1; cases r2; exact .inl ⟨i, j, rfl, rfl, k G H M (.int (i + j)) _ (Same.refl _) S rfl h⟩
  · next a =>
    cases r1
    split at h
    · next ds em =>
      obtain ⟨gn, vs, g1, g2, g3⟩ := S.mem _ _ em
      split at h
      · next es e1 =>
        obtain ⟨hl, h⟩ := h
        obtain ⟨b, us, rfl, c1, c2, c3⟩ := as_lst S r2 e1
        have z : vs.length + us.length ≤ sizeLine := by rw [g2.length, c2.length]; exact sz1000 hl
        refine .inr ⟨a, b, vs, us, rfl, rfl, g1, c1, z, ?_⟩
        exact k G _ _ (.ref a) _ (Same.refl _) (S.put (mo := .lst (ds ++ es)) gn ⟨_, upd_same, RepL.append g2 c2, by rw [List.length_append]; exact z⟩) rfl h
      · exact h.elim
    · exact h.elim
  · exact h.elim
theorem qs_augX {i : Nat} {x : Str} {e : Expr} {te : TE} {qe : DTE} {op : Operator} {ti : TIp} {o : DOp} {pos' : Pos} (h : PS X (.AugAssign (.Name x pos') op e pos) (tAug i te ti)) (he : RefE X.K W te qe) (ho : RefR2 X.K ti o) : QS X W (.AugAssign (.Name x pos') op e pos) (tAug i te ti) (qAug i qe o) :=
  ⟨h, fun DW G H p M s DE E hw S q k => by
    unfold qAug at q
    split at q
    · next d e =>
      obtain ⟨v, h1, h2⟩ := S.env i d e
      exact ⟨v, h1, he DW G H p M s _ _ hw S q fun G1 H1 M1 y u e1 S1 r1 q1 => ho G1 H1 p M1 s d y v u _ _ S1 (Rep.mono e1 _ _ h2) r1 q1 fun G2 H2 M2 z w e2 S2 r2 q2 => k.nx G2 H2 _ M2 _ (e1.trans e2) (S2.set i r2) q2⟩
    · exact q.elim⟩
end
end DL

/-! DLf: what is walked; for, while, comprehensions. -/
namespace DL
open PySem L2

/-- an iterator that gives these things, as long as Sty holds of the mutable objects -/
structure Feed (K : PySem.W.Frag) (G : Hp) (J : It) (ds : List D) (Sty : Mst → Prop) : Prop where
  go : ∀ G' H p M s i, Same G G' → Sim K G' H p M s → Sty M → i < ds.length → J.go i H
  yld : ∀ G' H p M s i x H', Same G G' → Sim K G' H p M s → Sty M → J.yld i H x H' → ∀ d, ds[i]? = some d → ∃ G2, Same G' G2 ∧ Sim K G2 H' p M s ∧ Rep K G2 d x
  stop : ∀ G' H p M s, Same G G' → Sim K G' H p M s → Sty M → J.stop ds.length H
abbrev DTI := DWt → Rho → Mst → (List D → (Mst → Prop) → Mst → Prop) → Prop
def RefI (K : PySem.W.Frag) (W : WX) (t : TI) (q : DTI) : Prop := ∀ DW G H p M s (R : List D → (Mst → Prop) → Mst → Prop) (R' : It → Hp → Prop), WLink K G DW W → Sim K G H p M s → q DW p M R →
  (∀ G' H' M' J ds Sty, Same G G' → Sim K G' H' p M' s → Feed K G' J ds Sty → ds.length ≤ sizeLine → R ds Sty M' → R' J H') → t s H R'
structure QI (X : Cx) (W : WX) (tg e : Expr) (t : TI) (q : DTI) : Prop where
  pe : PI X tg e t
  rf : RefI X.K W t q
def always : Mst → Prop := fun _ => True
@[simp] theorem always_eq {M : Mst} : always M = True := rfl

section
variable {K : PySem.W.Frag} {G : Hp}
theorem feed_list {a : Addr} {ds : List D} {vs : List V} {Sty : Mst → Prop} (r : RepL K G ds vs) (h : ∀ G' H p M s, Same G G' → Sim K G' H p M s → Sty M → SqL K H a vs) : Feed K G (Itl K a) ds Sty where
  go := fun G' H p M s i e S st hi => by
    have q := h G' H p M s e S st
    have hl := r.length
    exact ⟨vs, vs[i]'(by omega), q, by simp [hl, hi]⟩
  yld := fun G' H p M s i x H' e S st y d hd => by
    obtain ⟨rfl, y⟩ := y
    have q := y vs (h G' _ p M s e S st)
    obtain ⟨v, h1, h2⟩ := (RepL.mono e _ _ r).get hd
    rw [q] at h1; cases h1
    exact ⟨G', Same.refl _, S, h2⟩
  stop := fun G' H p M s e S st => ⟨vs, h G' H p M s e S st, by rw [r.length]; exact Nat.le_refl _⟩
theorem feed_tup {a : Addr} {ds : List D} {vs : List V} (r : RepL K G ds vs) (h : SqT K G a vs) : Feed K G (Itt K a) ds always where
  go := fun G' H p M s i e S st hi => by
    have hl := r.length
    exact ⟨vs, vs[i]'(by omega), same_t (e.trans S.same) h, by simp [hl, hi]⟩
  yld := fun G' H p M s i x H' e S st y d hd => by
    obtain ⟨rfl, y⟩ := y
    have q := y vs (same_t (e.trans S.same) h)
    obtain ⟨v, h1, h2⟩ := (RepL.mono e _ _ r).get hd
    rw [q] at h1; cases h1
    exact ⟨G', Same.refl _, S, h2⟩
  stop := fun G' H p M s e S st => ⟨vs, same_t (e.trans S.same) h, by rw [r.length]; exact Nat.le_refl _⟩
def signs (z : Str) : List D := z.cps.toList.map fun c => .str ⟨#[c]⟩
theorem feed_str {z : Str} (ho : PyData.strOk z = true) : Feed K G (Its z) (signs z) always where
  go := fun G' H p M s i e S st hi => by show i < z.cps.size; simpa [signs] using hi
  yld := fun G' H p M s i x H' e S st y d hd => by
    obtain ⟨rfl, c, h1, rfl⟩ := y
    refine ⟨G', Same.refl _, S, ?_⟩
    simp only [signs, List.getElem?_map, Array.getElem?_toList, h1, Option.map_some, Option.some.injEq] at hd
    subst hd
    refine ⟨rfl, sz1000 (by show 1 ≤ 100000; decide), ?_⟩
    have ho' : ∀ y ∈ z.cps.toList, decide (y < 0x110000) = true := by
      unfold PyData.strOk at ho
      rw [← Array.all_toList] at ho
      exact List.all_eq_true.mp ho
    have := ho' c (by rw [Array.mem_toList_iff]; exact Array.mem_of_getElem? h1)
    simpa [PyData.strOk] using this
  stop := fun G' H p M s e S st => by show z.cps.size ≤ _; simp [signs]
def rangeD (lo : Int) (n : Nat) : List D := (List.range n).map fun i => .int (lo + (i : Nat))
theorem feed_range {lo : Int} {n : Nat} : Feed K G (Itr lo n) (rangeD lo n) always where
  go := fun G' H p M s i e S st hi => by simpa [rangeD, Itr] using hi
  yld := fun G' H p M s i x H' e S st y d hd => by
    obtain ⟨rfl, rfl⟩ := y
    refine ⟨G', Same.refl _, S, ?_⟩
    simp only [rangeD, List.getElem?_map, Option.map_eq_some_iff] at hd
    obtain ⟨j, h1, rfl⟩ := hd
    obtain ⟨h2, h3⟩ := List.getElem?_eq_some_iff.mp h1
    simp at h3
    subst h3
    rfl
  stop := fun G' H p M s e S st => by show n ≤ _; simp [rangeD]
/-- lo + i * c -/
def rangeDC (lo c : Int) (n : Nat) : List D := (List.range n).map fun i => .int (lo + (i : Nat) * c)
theorem feed_rangeC {lo c : Int} {n : Nat} : Feed K G (Itc lo c n) (rangeDC lo c n) always where
  go := fun G' H p M s i e S st hi => by simpa [rangeDC, Itc] using hi
  yld := fun G' H p M s i x H' e S st y d hd => by
    obtain ⟨rfl, rfl⟩ := y
    refine ⟨G', Same.refl _, S, ?_⟩
    simp only [rangeDC, List.getElem?_map, Option.map_eq_some_iff] at hd
    obtain ⟨j, h1, rfl⟩ := hd
    obtain ⟨h2, h3⟩ := List.getElem?_eq_some_iff.mp h1
    simp at h3
    subst h3
    rfl
  stop := fun G' H p M s e S st => by show n ≤ _; simp [rangeDC]
end

/-! ### a list, a tuple, a text -/
def iAny (K : PySem.W.Frag) (tl : TE) : TI := fun σ H R => tl σ H fun x H1 => (∃ a, x = .ref a ∧ (∃ xs, SqL K H1 a xs) ∧ R (Itl K a) H1) ∨ (∃ a, x = .ref a ∧ (∃ xs, SqT K H1 a xs) ∧ R (Itt K a) H1) ∨ ∃ z, x = .str z ∧ R (Its z) H1
theorem pi_any {X : Cx} {tg l : Expr} {tl : TE} (hl : PE X l tl) : PI X tg l (iAny X.K tl) := by
  refine ⟨fun pins s σ H R I h => ?_⟩
  refine thn (hl.run pins s σ H _ I h) fun v s1 ⟨x, H1, I1, r1, q1⟩ => ?_
  rcases q1 with ⟨a, e, ⟨xs, hq⟩, q⟩ | ⟨a, e, ⟨xs, hq⟩, q⟩ | ⟨z, e, q⟩
  · subst e
    cases r1
    obtain ⟨its, rv, p, hz⟩ := I1.list hq
    refine wpAny_pyIter_list p.isList ?_
    refine ⟨s1.heap.objs.size, [s1.heap.objs.size], _, _, H1, rfl, I1.kept (t' := s1.toks) fun b o e => Heap.get?_push_of_some _ e, turn_list a _, ⟨_, Heap.get?_push_size _ rfl, rfl, rfl⟩, fun b hb => ?_, q⟩
    have e : b = s1.heap.objs.size := by simpa using hb
    subst e
    exact I1.fpOk (Nat.le_refl _) (I1.hok.fresh (Nat.le_refl _))
  · subst e
    cases r1
    obtain ⟨its, rv, p, hz⟩ := I1.tuple hq
    refine wpAny_pyIter_tuple (show s1.heap.IsTuple a its.toArray from p) ?_
    refine ⟨s1.heap.objs.size, [s1.heap.objs.size], _, _, H1, rfl, I1.kept (t' := s1.toks) fun b o e => Heap.get?_push_of_some _ e, turn_tuple a _, ⟨_, Heap.get?_push_size _ rfl, rfl, rfl⟩, fun b hb => ?_, q⟩
    have e : b = s1.heap.objs.size := by simpa using hb
    subst e
    exact I1.fpOk (Nat.le_refl _) (I1.hok.fresh (Nat.le_refl _))
  · subst e
    obtain ⟨t, rfl⟩ := r1
    cases ha : z.cps.all (· < 128)
    · exact wpAny_pyIter_wide ha (pi_one (tk := s1.toks) I1 _ (turn_str _ z t "str_iterator" (.inr rfl)) ⟨_, Heap.get?_push_size _ rfl, rfl, rfl⟩ q)
    · exact wpAny_pyIter_ascii ha (pi_one (tk := s1.toks) I1 _ (turn_str _ z t "str_ascii_iterator" (.inl rfl)) ⟨_, Heap.get?_push_size _ rfl, rfl, rfl⟩ q)
def holds (a : Addr) (o : MO) : Mst → Prop := fun M => M a = some o
@[simp] theorem holds_eq {a : Addr} {o : MO} {M : Mst} : holds a o M = (M a = some o) := rfl
def qiAny (qe : DTE) : DTI := fun DW p M R => qe DW p M fun d M1 => match d with
  | .lst ds => R ds always M1
  | .tup ds => R ds always M1
  | .ktp ds => R ds always M1
  | .str z => R (signs z) always M1
  | .ref a => match M1 a with
    | some (.lst ds) => R ds (holds a (.lst ds)) M1
    | _ => False
  | _ => False
section
variable {X : Cx} {W : WX} {tg e : Expr} {te : TE} {qe : DTE}
theorem qi_any (he : QE X W e te qe) : QI X W tg e (iAny X.K te) (qiAny qe) :=
  ⟨pi_any he.pe, fun DW G H p M s R R' hw S h k => he.rf DW G H p M s _ _ hw S h fun G1 H1 M1 d v e1 S1 r1 h1 => by
    split at h1
    · next ds =>
      obtain ⟨a, vs, rfl, g1, g2, g3⟩ := r1
      refine .inl ⟨a, rfl, ⟨vs, .inl (.inl (S1.same _ _ g1))⟩, k G1 H1 M1 _ ds always e1 S1 (feed_list g2 fun G' H p M s e S _ => .inl (.inl (S.same _ _ (e _ _ g1)))) (by rw [← g2.length]; exact g3) h1⟩
    · next ds =>
      obtain ⟨a, vs, rfl, g1, g2, g3⟩ := r1
      exact .inr (.inl ⟨a, rfl, ⟨vs, .inl (.inl (S1.same _ _ g1))⟩, k G1 H1 M1 _ ds always e1 S1 (feed_tup g2 (.inl (.inl g1))) (by rw [← g2.length]; exact g3) h1⟩)
    · next ds =>
      obtain ⟨a, vs, rfl, g1, g2, g3⟩ := r1
      exact .inr (.inl ⟨a, rfl, ⟨vs, same_t S1.same g1⟩, k G1 H1 M1 _ ds always e1 S1 (feed_tup g2 g1) (by rw [← g2.length]; exact g3) h1⟩)
    · next z =>
      obtain ⟨rfl, g1, g2⟩ := r1
      exact .inr (.inr ⟨z, rfl, k G1 H1 M1 _ _ always e1 S1 (feed_str g2) (by simpa [signs, Str.length] using g1) h1⟩)
    · next a =>
      cases r1
      split at h1
      · next ds em =>
        obtain ⟨gn, vs, g1, g2, g3⟩ := S1.mem _ _ em
        have lk : ∀ G' H p M s, Same G1 G' → Sim X.K G' H p M s → holds a (.lst ds) M → ∃ us, H a = some (.lst us) ∧ RepL X.K G' ds us := fun G' H p M s e S st => by
          obtain ⟨_, us, c1, c2, _⟩ := S.mem _ _ st
          exact ⟨us, c1, c2⟩
        refine .inl ⟨a, rfl, ⟨vs, .inl (.inl g1)⟩, k G1 H1 M1 _ ds _ e1 S1 ⟨fun G' H p M s i e S st hi => ?_, fun G' H p M s i x H' e S st y d hd => ?_, fun G' H p M s e S st => ?_⟩ (by rw [← g2.length]; exact g3) h1⟩
        · obtain ⟨us, c1, c2⟩ := lk G' H p M s e S st
          have hl := c2.length
          exact ⟨us, us[i]'(by omega), .inl (.inl c1), by simp [hl, hi]⟩
        · obtain ⟨us, c1, c2⟩ := lk G' H p M s e S st
          obtain ⟨rfl, y⟩ := y
          have q := y us (.inl (.inl c1))
          obtain ⟨v, h1, h2⟩ := c2.get hd
          rw [q] at h1; cases h1
          exact ⟨G', Same.refl _, S, h2⟩
        · obtain ⟨us, c1, c2⟩ := lk G' H p M s e S st
          exact ⟨us, .inl (.inl c1), by rw [c2.length]; exact Nat.le_refl _⟩
      · exact h1.elim
    · exact h1.elim⟩
/-- range(n), range(a, b) -/
def qiRng1 (qa : DTA) : DTI := fun DW p M R => qa DW p M fun ds M1 => match ds with
  | [.int j] => -(2 ^ 62) ≤ j ∧ j ≤ 100000 ∧ R (rangeD 0 j.toNat) always M1
  | _ => False
def qiRng2 (qa : DTA) : DTI := fun DW p M R => qa DW p M fun ds M1 => match ds with
  | [.int i, .int j] => (-(2 ^ 61) ≤ i ∧ i < 2 ^ 61 ∧ -(2 ^ 61) ≤ j ∧ j < 2 ^ 61) ∧ j - i ≤ 100000 ∧ R (rangeD i (j - i).toNat) always M1
  | _ => False
variable {a b : Expr} {ta : TA} {qa : DTA} {p pos : Pos}
theorem qi_range1 (hg : Gl X "range") (hm : X.mg "range" = none) (ha : QA X W [a] ta qa) (hs : starEach [a] X.env = [(false, eval a X.env)] := by rfl) : QI X W tg (.Call (.Name "range" p) [a] [] pos) (iRng1 ta) (qiRng1 qa) :=
  ⟨pi_range1 hg hm ha.pe hs, fun DW G H p M s R R' hw S h k => ha.rf DW G H p M s _ _ hw S h fun G1 H1 M1 ds vs e1 S1 r1 h1 => by
    split at h1
    · next j =>
      obtain ⟨v, rfl, r2⟩ := repL1 r1
      cases r2
      obtain ⟨b1, b2, h1⟩ := h1
      exact ⟨j, rfl, b1, by omega, k G1 H1 M1 _ _ _ e1 S1 feed_range (by simp only [rangeD, List.length_map, List.length_range]; exact sz1000 (by omega)) h1⟩
    · exact h1.elim⟩
theorem qi_range2 (hg : Gl X "range") (hm : X.mg "range" = none) (ha : QA X W [a, b] ta qa) (hs : starEach [a, b] X.env = [(false, eval a X.env), (false, eval b X.env)] := by rfl) (hs2 : starEach [b] X.env = [(false, eval b X.env)] := by rfl) : QI X W tg (.Call (.Name "range" p) [a, b] [] pos) (iRng2 ta) (qiRng2 qa) :=
  ⟨pi_range2 hg hm ha.pe hs hs2, fun DW G H p M s R R' hw S h k => ha.rf DW G H p M s _ _ hw S h fun G1 H1 M1 ds vs e1 S1 r1 h1 => by
    split at h1
    · next i j =>
      obtain ⟨v, u, rfl, r2, r3⟩ := repL2 r1
      cases r2
      cases r3
      obtain ⟨⟨b1, b2, b3, b4⟩, b5, h1⟩ := h1
      exact ⟨i, j, rfl, ⟨by omega, by omega, by omega, by omega⟩, k G1 H1 M1 _ _ _ e1 S1 feed_range (by simp only [rangeD, List.length_map, List.length_range]; exact sz1000 (by omega)) h1⟩
    · exact h1.elim⟩
end

/-! ### for -/
def loopL (Sty : Mst → Prop) (g : DTG) (tb : DTS) (DW : DWt) (DE : DEnds) : List D → Rho → Mst → Prop
  | [], p, M => Sty M ∧ DE.nx p M
  | d :: ds, p, M => Sty M ∧ g d DW p M fun p' M' => tb DW { DE with nx := loopL Sty g tb DW DE ds, ct := loopL Sty g tb DW DE ds, bk := DE.nx } p' M'
def qFor (qi : DTI) (g : DTG) (tb : DTS) : DTS := fun DW DE p M => qi DW p M fun ds Sty M1 => loopL Sty g tb DW DE ds p M1
section
variable {X : Cx} {W : WX} {tg iter : Expr} {body : List Stmt} {wi : TI} {qi : DTI} {t : TG} {g : DTG} {ix : List Nat} {tb : TS} {qb : DTS} {pos : Pos}
theorem ref_for {K : PySem.W.Frag} (hi : RefI K W wi qi) (hg : RefGi K W ix t g) (hb : RefS K W tb qb) : RefS K W (tFor wi t tb) (qFor qi g qb) :=
  fun DW G H p M s DE E hw S h k => hi DW G H p M s _ _ hw S h fun G1 H1 M1 J ds Sty e1 S1 F hlen h1 => by
    refine ⟨fun i m σ H => m = ds.length - i ∧ i ≤ ds.length ∧ ∃ G' p' M', Same G1 G' ∧ Sim K G' H p' M' σ ∧ loopL Sty g qb DW DE (ds.drop i) p' M', ⟨ds.length, by simp, Nat.zero_le _, G1, p, M1, Same.refl _, S1, by simpa using h1⟩, ?_⟩
    rintro i m σ H2 ⟨rfl, hi2, G', p', M', e2, S2, h2⟩
    by_cases hlt : i < ds.length
    · have ed : ds.drop i = ds[i] :: ds.drop (i + 1) := List.drop_eq_getElem_cons hlt
      rw [ed] at h2
      obtain ⟨st, h2⟩ := h2
      refine .inr ⟨F.go G' H2 p' M' σ i e2 S2 st hlt, fun σ' H' => ∃ G3 p3 M3, Same G1 G3 ∧ Sim K G3 H' p3 M3 σ' ∧ loopL Sty g qb DW DE (ds.drop (i + 1)) p3 M3,
        fun σ' H' n => ⟨ds.length - (i + 1), by omega, rfl, hlt, n⟩, fun x H' y => ?_⟩
      obtain ⟨G3, e3, S3, r3⟩ := F.yld G' H2 p' M' σ i x H' e2 S2 st y ds[i] (List.getElem?_eq_getElem hlt)
      have e13 := e2.trans e3
      refine hg DW G3 H' p' M' σ _ x _ _ (hw.mono (e1.trans e13)) S3 r3 h2 fun G4 H4 p4 M4 σ4 e4 S4 _ h4 => ?_
      have e14 := e13.trans e4
      refine hb DW G4 H4 p4 M4 σ4 _ _ (hw.mono (e1.trans e14)) S4 h4 ⟨fun G5 H5 p5 M5 σ5 e5 S5 h5 => ⟨G5, p5, M5, e14.trans e5, S5, h5⟩, fun G5 H5 p5 M5 σ5 d v e5 S5 r5 h5 => k.rt G5 H5 p5 M5 σ5 d v ((e1.trans e14).trans e5) S5 r5 h5,
        fun G5 H5 p5 M5 σ5 e5 S5 h5 => k.nx G5 H5 p5 M5 σ5 ((e1.trans e14).trans e5) S5 h5, fun G5 H5 p5 M5 σ5 e5 S5 h5 => ⟨G5, p5, M5, e14.trans e5, S5, h5⟩⟩
    · have e : i = ds.length := by omega
      subst e
      rw [List.drop_length] at h2
      exact .inl ⟨F.stop G' H2 p' M' σ e2 S2 h2.1, k.nx G' H2 p' M' σ (e1.trans e2) S2 h2.2⟩
theorem qs_for (hp : PassesOwn (model X.prog X.w) X.A X.env X.xe) (hc : X.calm = true) (hi : QI X W tg iter wi qi) (hg : QGi X W ix tg t g) (hb : QSs X W body tb qb) (hs : ∀ x, foldedSetIterable iter X.env x = pure x := by intro _; rfl) :
    QS X W (.For tg iter body [] pos) (tFor wi t tb) (qFor qi g qb) := ⟨ps_for hp hc hi.pe hg.pe hb.pe hs, ref_for hi.rf hg.rf hb.rf⟩

/-! ### while -/
def whileL (qc : DTT) (tb : DTS) (DW : DWt) (DE : DEnds) : Nat → Rho → Mst → Prop
  | 0, _, _ => False
  | n + 1, p, M => qc DW p M fun b M1 => if b = true then tb DW { DE with nx := whileL qc tb DW DE n, ct := whileL qc tb DW DE n, bk := DE.nx } p M1 else DE.nx p M1
def qWhile (qc : DTT) (tb : DTS) : DTS := fun DW DE p M => ∃ n, whileL qc tb DW DE n p M
theorem ref_while {K : PySem.W.Frag} {c : TT} {qc : DTT} (hc : RefT K W c qc) (hb : RefS K W tb qb) : RefS K W (tWhile c tb) (qWhile qc qb) :=
  fun DW G H p M s DE E hw S ⟨n, h⟩ k => by
    refine ⟨fun m σ H => ∃ G' p' M', Same G G' ∧ Sim K G' H p' M' σ ∧ whileL qc qb DW DE m p' M', ⟨n, G, p, M, Same.refl _, S, h⟩, ?_⟩
    rintro m σ H2 ⟨G', p', M', e2, S2, h2⟩
    cases m with
    | zero => exact h2.elim
    | succ m =>
      refine hc DW G' H2 p' M' σ _ _ (hw.mono e2) S2 h2 fun G3 H3 M3 b e3 S3 h3 => ?_
      cases b with
      | true =>
        rw [if_pos rfl] at h3 ⊢
        refine ⟨fun σ' H' => ∃ G4 p4 M4, Same G G4 ∧ Sim K G4 H' p4 M4 σ' ∧ whileL qc qb DW DE m p4 M4, fun σ' H' q => ⟨m, Nat.lt_succ_self _, q⟩, ?_⟩
        have e13 := e2.trans e3
        exact hb DW G3 H3 p' M3 σ _ _ (hw.mono e13) S3 h3 ⟨fun G5 H5 p5 M5 σ5 e5 S5 h5 => ⟨G5, p5, M5, e13.trans e5, S5, h5⟩, fun G5 H5 p5 M5 σ5 d v e5 S5 r5 h5 => k.rt G5 H5 p5 M5 σ5 d v (e13.trans e5) S5 r5 h5,
          fun G5 H5 p5 M5 σ5 e5 S5 h5 => k.nx G5 H5 p5 M5 σ5 (e13.trans e5) S5 h5, fun G5 H5 p5 M5 σ5 e5 S5 h5 => ⟨G5, p5, M5, e13.trans e5, S5, h5⟩⟩
      | false =>
        rw [if_neg Bool.false_ne_true] at h3 ⊢
        exact k.nx G3 H3 p' M3 σ (e2.trans e3) S3 h3
theorem qs_while {c : Expr} {tc : TT} {qc : DTT} (hp : PassesOwn (model X.prog X.w) X.A X.env X.xe) (hc : QT X W c tc qc) (hb : QSs X W body tb qb) : QS X W (.While c body [] pos) (tWhile tc tb) (qWhile qc qb) := ⟨ps_while hp hc.pe hb.pe, ref_while hc.rf hb.rf⟩
end

/-! ### comprehensions -/
abbrev W0 : WX := fun _ _ _ _ => False
abbrev DW0 : DWt := fun _ _ _ => False
structure QTs (X : Cx) (W : WX) (ifs : List Expr) (t : TT) (q : DTT) : Prop where
  pe : PTs X ifs t
  rf : RefT X.K W t q
@[simp] def qYes : DTT := fun _ _ M Q => Q true M
theorem qts_nil {X : Cx} {W : WX} : QTs X W [] tYes qYes := ⟨pts_nil, fun DW G H p M s Q Q' hw S h k => k G H M true (Same.refl _) S h⟩
theorem qts_one {X : Cx} {W : WX} {c : Expr} {t : TT} {q : DTT} (h : QT X W c t q) : QTs X W [c] t q := ⟨pts_one h.pe, h.rf⟩
/-- what is made stands at a -/
def compL (m : Bool) (Sty : Mst → Prop) (g : DTG) (tt : DTT) (te : DTE) (ix : List Nat) (a : Addr) (p : Rho) (Q : DK) : List D → Mst → Prop
  | [], M => Sty M ∧ match M a with
    | some (.lst acc) => if m = true then Q (.ref a) M else Q (.lst acc) (del M a)
    | _ => False
  | d :: ds, M => Sty M ∧ g d DW0 (wipeD p ix) M fun p2 M2 => tt DW0 p2 M2 fun b M3 => if b = true then te DW0 p2 M3 fun y M4 => match M4 a with
      | some (.lst acc) => acc.length < 100000 ∧ compL m Sty g tt te ix a p Q ds (put M4 a (.lst (acc ++ [y])))
      | _ => False
    else compL m Sty g tt te ix a p Q ds M3
def qLc (m : Bool) (qi : DTI) (g : DTG) (tt : DTT) (te : DTE) (ix : List Nat) : DTE := fun DW p M Q => qi DW p M fun ds Sty M1 => ∀ a, M1 a = none → compL m Sty g tt te ix a p Q ds (put M1 a (.lst []))
theorem ref_lc {K : PySem.W.Frag} {W : WX} {wi : TI} {qi : DTI} {t : TG} {g : DTG} {ix : List Nat} {tt : TT} {qt : DTT} {te : TE} {qe : DTE} {m : Bool} (hi : RefI K W wi qi) (hg : RefGi K W0 ix t g) (ht : RefT K W0 tt qt) (he : RefE K W0 te qe) :
    RefE K W (tLc wi t tt te ix) (qLc m qi g qt qe ix) :=
  fun DW G H p M s Q Q' hw S h k => hi DW G H p M s _ _ hw S h fun G1 H1 M1 J ds Sty e1 S1 F hlen h1 a ha => by
    have w0 : ∀ G, WLink K G DW0 W0 := fun G G' H' p' M' s' x cls dx e S r z => z.elim
    have h1' := h1 a (S1.mem.fresh ha)
    have S1' : Sim K G1 (upd H1 a (.lst [])) p (put M1 a (.lst [])) s := S1.put (mo := .lst []) (S1.same.free ha) ⟨[], upd_same, rfl, Nat.zero_le _⟩
    refine ⟨fun i n H => n = ds.length - i ∧ i ≤ ds.length ∧ ∃ G' M', Same G1 G' ∧ Sim K G' H p M' s ∧ compL m Sty g qt qe ix a p Q (ds.drop i) M', ⟨ds.length, by simp, Nat.zero_le _, G1, _, Same.refl _, S1', by simpa using h1'⟩, ?_⟩
    rintro i n H2 ⟨rfl, hi2, G', M', e2, S2, h2⟩
    by_cases hlt : i < ds.length
    · have ed : ds.drop i = ds[i] :: ds.drop (i + 1) := List.drop_eq_getElem_cons hlt
      rw [ed] at h2
      obtain ⟨st, h2⟩ := h2
      refine .inr ⟨F.go G' H2 p M' s i e2 S2 st hlt, fun H' => ∃ G3 M3, Same G1 G3 ∧ Sim K G3 H' p M3 s ∧ compL m Sty g qt qe ix a p Q (ds.drop (i + 1)) M3, fun H' q => ⟨ds.length - (i + 1), by omega, rfl, hlt, q⟩, fun x H' y => ?_⟩
      obtain ⟨G3, e3, S3, r3⟩ := F.yld G' H2 p M' s i x H' e2 S2 st y ds[i] (List.getElem?_eq_getElem hlt)
      have e13 := e2.trans e3
      refine hg DW0 G3 H' (wipeD p ix) M' (L2.wipe s ix) _ x _ _ (w0 _) (S3.wipe ix) r3 h2 fun G4 H4 p4 M4 s4 e4 S4 o4 h4 => ?_
      have back : ∀ {G H M}, Sim K G H p4 M s4 → Sim K G H p M s → True := fun _ _ => trivial
      have ww : L2.wipe s4 ix = L2.wipe s ix := by
        rw [o4.wipe]
        apply List.ext_getElem?
        intro j
        by_cases hj : j ∈ ix
        · by_cases hl : j < s.length
          · rw [wipe_in hj (by rw [wipe_length]; exact hl), wipe_in hj hl]
          · rw [List.getElem?_eq_none (by rw [wipe_length, wipe_length]; omega), List.getElem?_eq_none (by rw [wipe_length]; omega)]
        · rw [wipe_get hj]
      have e14 := e13.trans e4
      -- the slots of the frame itself are as they were
      have home : ∀ {G H M}, Same G1 G → Sim K G H p4 M s4 → Sim K G H p M s := fun {G H M} eg Sx =>
        ⟨Sx.same, fun j d hd => by
          obtain ⟨v, q1, q2⟩ := S1.env j d hd
          exact ⟨v, q1, Rep.mono eg _ _ q2⟩, S1.len, Sx.mem⟩
      refine ⟨ww, ht DW0 G4 H4 p4 M4 s4 _ _ (w0 _) S4 h4 fun G5 H5 M5 b e5 S5 h5 => ?_⟩
      have e15 := e14.trans e5
      cases b with
      | false =>
        rw [if_neg Bool.false_ne_true] at h5 ⊢
        exact ⟨G5, M5, e15, home e15 S5, h5⟩
      | true =>
        rw [if_pos rfl] at h5 ⊢
        refine he DW0 G5 H5 p4 M5 s4 _ _ (w0 _) S5 h5 fun G6 H6 M6 d v e6 S6 r6 h6 => ?_
        have e16 := e15.trans e6
        split at h6
        · next acc em =>
          obtain ⟨hl, h6⟩ := h6
          obtain ⟨gn, vs, c1, c2, c3⟩ := S6.mem _ _ em
          refine ⟨vs, c1, by rw [c2.length, sizeLine_eq]; omega, G6, _, e16, (home e16 S6).put (mo := .lst (acc ++ [d])) gn ⟨_, upd_same, RepL.append c2 (RepL.cons r6 rfl), ?_⟩, h6⟩
          rw [List.length_append, c2.length, sizeLine_eq]
          simp
          omega
        · exact h6.elim
    · have e : i = ds.length := by omega
      subst e
      rw [List.drop_length] at h2
      obtain ⟨st, h2⟩ := h2
      refine .inl ⟨F.stop G' H2 p M' s e2 S2 st, ?_⟩
      split at h2
      · next acc em =>
        cases m with
        | true =>
          rw [if_pos rfl] at h2
          exact k G' H2 M' (.ref a) _ (e1.trans e2) S2 rfl h2
        | false =>
          rw [if_neg Bool.false_ne_true] at h2
          obtain ⟨G3, e3, S3, r3⟩ := S2.freeze em
          exact k G3 H2 _ _ _ ((e1.trans e2).trans e3) S3 r3 h2
      · exact h2.elim
section
variable {X : Cx} {W : WX} {elt tg iter : Expr} {ifs : List Expr} {scope : Scope} {own : List (Str × Nat)} {pos : Pos} {wi : TI} {qi : DTI} {g : TG} {qg : DTG} {tt : TT} {qt : DTT} {te : TE} {qe : DTE}
theorem q_lc (m : Bool) (hc : X.calm = true) (hN : X.N.Nodup) (hi : QI X W tg iter wi qi) (ok : BlkOk X.N X.env.scope scope own)
    (hg : ∀ (s : Shared) (H : Hp) (C : Addr) (cl : List (Str × Addr)) (fp : List Addr), QGi (X.blk s H scope (compEnvC scope cl C X.env) fp) W0 (own.map (·.2)) tg g qg)
    (ht : ∀ (s : Shared) (H : Hp) (C : Addr) (cl : List (Str × Addr)) (fp : List Addr), QTs (X.blk s H scope (compEnvC scope cl C X.env) fp) W0 ifs tt qt)
    (he : ∀ (s : Shared) (H : Hp) (C : Addr) (cl : List (Str × Addr)) (fp : List Addr), QE (X.blk s H scope (compEnvC scope cl C X.env) fp) W0 elt te qe) (hs : ∀ x, foldedSetIterable iter X.env x = pure x := by intro _; rfl) :
    QE X W (.ListComp elt [⟨tg, iter, ifs, 0⟩] scope pos) (tLc wi g tt te (own.map (·.2))) (qLc m qi qg qt qe (own.map (·.2))) :=
  ⟨pe_lc hc hN hi.pe ok (fun s H C cl fp => (hg s H C cl fp).pe) (fun s H C cl fp => (ht s H C cl fp).pe) (fun s H C cl fp => (he s H C cl fp).pe) hs,
    ref_lc hi.rf (hg X.s_0 X.H_0 0 [] []).rf (ht X.s_0 X.H_0 0 [] []).rf (he X.s_0 X.H_0 0 [] []).rf⟩
theorem qs_setLc (m : Bool) {i : Nat} {y : Str} {py spos : Pos} (hc : X.calm = true) (hN : X.N.Nodup) (hy : X.N[i]? = some y) (hyl : X.env.scope.names.lookup y = some .local)
    (hsw : swapsWith (.ListComp elt [⟨tg, iter, ifs, 0⟩] scope pos) (some (.Name y py)) spos.line X.env = pure true) (hi : QI X W tg iter wi qi) (ok : BlkOk X.N X.env.scope scope own)
    (hg : ∀ (s : Shared) (H : Hp) (C : Addr) (cl : List (Str × Addr)) (fp : List Addr), QGi (X.blk s H scope (compEnvC scope cl C X.env) fp) W0 (own.map (·.2)) tg g qg)
    (ht : ∀ (s : Shared) (H : Hp) (C : Addr) (cl : List (Str × Addr)) (fp : List Addr), QTs (X.blk s H scope (compEnvC scope cl C X.env) fp) W0 ifs tt qt)
    (he : ∀ (s : Shared) (H : Hp) (C : Addr) (cl : List (Str × Addr)) (fp : List Addr), QE (X.blk s H scope (compEnvC scope cl C X.env) fp) W0 elt te qe) (hs : ∀ x, foldedSetIterable iter X.env x = pure x := by intro _; rfl) :
    QS X W (.Assign [.Name y py] (.ListComp elt [⟨tg, iter, ifs, 0⟩] scope pos) spos) (tAsg (tLc wi g tt te (own.map (·.2))) (gName i)) (qAsg (qLc m qi qg qt qe (own.map (·.2))) (gNameD i)) :=
  qs_set (ps_setLc hc hN hy hyl hsw hi.pe ok (fun s H C cl fp => (hg s H C cl fp).pe) (fun s H C cl fp => (ht s H C cl fp).pe) (fun s H C cl fp => (he s H C cl fp).pe) hs)
    (ref_lc hi.rf (hg X.s_0 X.H_0 0 [] []).rf (ht X.s_0 X.H_0 0 [] []).rf (he X.s_0 X.H_0 0 [] []).rf)
end
end DL

/-! DLg: defs and their calls; methods of lists and dicts. -/
namespace DL
open PySem L2

/-! ### a def's promise by data -/
def toSp (K : PySem.W.Frag) (P : DSp) : Sp := fun vs H Q E => ∃ (G : Hp) (ds : List D) (M : Mst) (Qd : DK) (Ed : DX → Mst → Prop), Same G H ∧ RepL K G ds vs ∧ MemOk K G H M ∧ P ds M Qd Ed ∧
  (∀ G' H' v d M', Same G G' → Same G' H' → Rep K G' d v → MemOk K G' H' M' → Qd d M' → Q v H') ∧
  (∀ G' H' x cls dx M', Same G G' → Same G' H' → RepX K G' x cls dx → MemOk K G' H' M' → Ed x M' → E cls dx H')
def startD (N : List Str) (ds : List D) : Rho := ds.map some ++ List.replicate (N.length - ds.length) none
section
variable {P : Program} {w : World} {K : PySem.W.Frag} {mg : Str → Option Value} {base : Heap}
theorem start_sim {G H : Hp} {ds : List D} {vs : List V} {M : Mst} {N : List Str} (e : Same G H) (r : RepL K G ds vs) (hm : MemOk K G H M) : Sim K G H (startD N ds) M (L2.start N vs) := by
  have hl := r.length
  refine ⟨e, fun i d h => ?_, by simp [startD, L2.start, hl], hm⟩
  unfold startD at h
  unfold L2.start
  by_cases hi : i < ds.length
  · rw [List.getElem?_append_left (by simpa using hi)] at h
    rw [List.getElem?_append_left (by simp [hl, hi])]
    simp only [List.getElem?_map, Option.map_eq_some_iff, Option.some.injEq] at h
    obtain ⟨d', h1, rfl⟩ := h
    obtain ⟨v, h2, h3⟩ := r.get h1
    exact ⟨v, by simp [h2], h3⟩
  · rw [List.getElem?_append_right (by simpa using hi)] at h
    rw [List.getElem?_replicate] at h
    split at h <;> cases h
/-- THE RULE for a def: its body's reading by data -/
theorem fn_ok {x qual : Str} {st : Stmt} {f : Addr} {fd : FuncData} {N ps : List Str} {k : Nat} {p : DSp} (F : Fun K x qual st f fd) (S : FnScope N ps (defScope st)) (len : ∀ ds M Q E, p ds M Q E → ds.length = ps.length)
    (hbody : ∀ (cdv : Value) (A : Around) (outer : List Env) (s : Shared) (H : Hp) (E : XK), Room k (A.deeper (PyProof.Rows.envOfC qual (defScope st) s.heap.objs.size f cdv)) →
      Takes (cxOf (L2.CX P w) P w K mg base N qual (defScope st) f cdv A outer s H E) (fun cls d _ H => E cls d H) →
      PassesOwn (model P w) (cxOf (L2.CX P w) P w K mg base N qual (defScope st) f cdv A outer s H E).A (cxOf (L2.CX P w) P w K mg base N qual (defScope st) f cdv A outer s H E).env (cxOf (L2.CX P w) P w K mg base N qual (defScope st) f cdv A outer s H E).xe →
      ∃ t q, QSs (cxOf (L2.CX P w) P w K mg base N qual (defScope st) f cdv A outer s H E) (fun cls d _ H => E cls d H) (defBody st) t q ∧
        ∀ ds M Q Ed, p ds M Q Ed → q (fun x _ M => Ed x M) { nx := fun _ M => Q .non M, rt := Q } (startD N ds) M) : FnOk P w K mg base (L2.CX P w) (k + 1) f fd ps (toSp K p) := by
  refine F.okX S (fun vs H Q E h => ?_) (fun cdv A outer s H vs Q E hr h => ?_)
  · obtain ⟨G, ds, M, Qd, Ed, _, r, _, hp, _⟩ := h
    rw [r.length]; exact len _ _ _ _ hp
  · obtain ⟨G, ds, M, Qd, Ed, e, r, hm, hp, kq, ke⟩ := h
    obtain ⟨t, q, hq, hs⟩ := hbody cdv A outer s H E hr (takes_of rfl rfl rfl rfl) (passes_of rfl)
    refine ⟨t, hq.pe, hq.rf (fun x _ M => Ed x M) G H (startD N ds) M (L2.start N vs) _ _ (fun G' H' p' M' s' x cls dx e1 S1 r1 h1 => ke G' H' x cls dx M' e1 S1.same r1 S1.mem h1) (start_sim e r hm) (hs ds M Qd Ed hp)
      ⟨fun G' H' p' M' s' e1 S1 h1 => kq G' H' .non .non M' e1 S1.same rfl S1.mem h1, fun G' H' p' M' s' d v e1 S1 r1 h1 => kq G' H' v d M' e1 S1.same r1 S1.mem h1, fun _ _ _ _ _ _ _ h => h.elim, fun _ _ _ _ _ _ _ h => h.elim⟩⟩
end

/-! ### calls -/
@[simp] def qCall (P : DSp) (dds : List D) (qa : DTA) : DTE := fun DW p M Q => qa DW p M fun ds M1 => P (ds ++ dds) M1 Q fun x M2 => DW x p M2
section
variable {X : Cx} {W : WX} {k : Nat} {f : Addr} {fd : FuncData} {ps : List Str} {P : DSp} {dds : List D} {dvs : List V} {ds : List Value} {x : Str} {p pos : Pos} {e : Expr} {es : List Expr} {t : TA} {q : DTA}
/-- what a callee's promise gives at a call -/
theorem toSp_at {K : PySem.W.Frag} {DW : DWt} {G H : Hp} {p : Rho} {M : Mst} {s : L2.St} {ds : List D} {vs : List V} {Q : DK} {Q' : VK} (hw : WLink K G DW W) (S : Sim K G H p M s) (r : RepL K G ds vs) (h : P ds M Q fun x M2 => DW x p M2)
    (k : ∀ G' H' M' d v, Same G G' → Sim K G' H' p M' s → Rep K G' d v → Q d M' → Q' v H') : toSp K P vs H Q' (WE W s) := by
  have up : ∀ {G' H' M'}, Same G G' → Same G' H' → MemOk K G' H' M' → Sim K G' H' p M' s := fun {G' H' M'} e1 e2 hm => ⟨e2, fun i d hd => by
    obtain ⟨v, h1, h2⟩ := S.env i d hd
    exact ⟨v, h1, Rep.mono e1 _ _ h2⟩, S.len, hm⟩
  exact ⟨G, ds, M, Q, _, S.same, r, S.mem, h, fun G' H' v d M' e1 e2 r1 hm q => k G' H' M' d v e1 (up e1 e2 hm) r1 q, fun G' H' x cls dx M' e1 e2 r1 hm q => hw G' H' p M' s x cls dx e1 (up e1 e2 hm) r1 q⟩
theorem ref_call {K : PySem.W.Frag} (ha : RefA K W t q) (hd : ∀ G, RepL K G dds dvs) : RefE K W (tCallSD (toSp K P) dvs (fun s => WE W s) t) (qCall P dds q) :=
  fun DW G H p M s Q Q' hw S h k => ha DW G H p M s _ _ hw S h fun G1 H1 M1 as vs e1 S1 r1 h1 => toSp_at (hw.mono e1) S1 (RepL.append r1 (hd _)) h1 fun G' H' M' d v e2 => k G' H' M' d v (e1.trans e2)
/-- f(e, ..), a def of the module -/
theorem q_call (F : FnOk X.prog X.w X.K X.mg X.base (L2.CX X.prog X.w) k f fd ps (toSp X.K P)) (hr : Room k X.A) (tk : Takes X W) (hg : Gl X x) (hm : X.mg x = some (.ref f)) (hk : PySem.W.keepIn X.K (.ref f) = true) (hb : Binds X.K fd ps ds) (hd : Vals dvs ds) (hdd : ∀ G, RepL X.K G dds dvs)
    (ha : QA X W (e :: es) t q) (hdb : (x == ("__debug__" : Str)) = false := by decide) (he : starEach (e :: es) X.env = (false, eval e X.env) :: starEach es X.env := by rfl) (hpl : (backTo pos (starEach es X.env)).any (·.1) = false := by rfl) :
    QE X W (.Call (.Name x p) (e :: es) [] pos) (tCallSD (toSp X.K P) dvs (fun s => WE W s) t) (qCall P dds q) :=
  ⟨pe_callSD F hr hg hm hk hb hd (fun σ => passAt tk σ) ha.pe hdb he hpl, ref_call ha.rf hdd⟩
end

/-! ### methods of built-in types -/
def tyOk (T : String) : D → Bool
  | .lst _ => T == "list"
  | .str _ => T == "str"
  | _ => false
theorem tyV_of {K : PySem.W.Frag} {G H : Hp} {p : Rho} {M : Mst} {s : L2.St} {T : String} {x : D} {v : V} (S : Sim K G H p M s) (r : Rep K G x v) (h : tyOk T (res M x) = true) : tyV K T v H := by
  cases e : res M x with
  | lst ds =>
    rw [e] at h
    obtain ⟨a, vs, rfl, g1, g2, g3⟩ := as_lst S r e
    exact .inl ⟨by simpa [tyOk] using h, vs, .inl (.inl g1)⟩
  | str z =>
    rw [e] at h
    obtain ⟨rfl, _⟩ := as_str r e
    show T = "str"
    simpa [tyOk] using h
  | _ => rw [e] at h; cases h
abbrev DMt := D → List D → Mst → DK → Prop
def RefM (K : PySem.W.Frag) (r : V → List V → Hp → VK → Prop) (q : DMt) : Prop := ∀ G H p M s x v ds vs (Q : DK) (Q' : VK), Sim K G H p M s → Rep K G x v → RepL K G ds vs → q x ds M Q →
  (∀ G' H' M' d w, Same G G' → Sim K G' H' p M' s → Rep K G' d w → Q d M' → Q' w H') → r v vs H Q'
structure QMt (X : Cx) (id : String) (r : V → List V → Hp → VK → Prop) (q : DMt) : Prop where
  op : MtR X id r
  rf : RefM X.K r q
def qBM (T : String) (m : DMt) (qo : DTE) (qa : DTA) : DTE := fun DW p M Q => qo DW p M fun x M1 => tyOk T (res M1 x) = true ∧ qa DW p M1 fun ds M2 => m x ds M2 Q
def qBM0 (T : String) (m : DMt) (qo : DTE) : DTE := fun DW p M Q => qo DW p M fun x M1 => tyOk T (res M1 x) = true ∧ m x [] M1 Q
section
variable {X : Cx} {W : WX} {o e : Expr} {es : List Expr} {to : TE} {qo : DTE} {t : TA} {qa : DTA} {name : Str} {apos cpos : Pos} {T id : String} {r : V → List V → Hp → VK → Prop} {m : DMt}
theorem q_bm0 (pa : PlainAttrs T) (slot : Slot T name id) (hty : typeOf (.builtin id) = pure (.type "method_descriptor")) (hm : QMt X id r m) (ho : QE X W o to qo)
    (hbase : attributeBase o name X.env (eval o X.env) = eval o X.env := by rfl) (hline : (apos.endLine == cpos.line) = true := by rfl) : QE X W (.Call (.Attribute o name apos) [] [] cpos) (tBM0 X.K T r to) (qBM0 T m qo) :=
  ⟨pe_bm0 pa slot hty hm.op ho.pe hbase hline, fun DW G H p M s Q Q' hw S h k => ho.rf DW G H p M s _ _ hw S h fun G1 H1 M1 x v e1 S1 r1 ⟨ty, h1⟩ => ⟨tyV_of S1 r1 ty, hm.rf G1 H1 p M1 s x v [] [] Q Q' S1 r1 rfl h1 fun G' H' M' d w e2 => k G' H' M' d w (e1.trans e2)⟩⟩
theorem q_bm (pa : PlainAttrs T) (slot : Slot T name id) (hty : typeOf (.builtin id) = pure (.type "method_descriptor")) (hm : QMt X id r m) (ho : QE X W o to qo) (ha : QA X W (e :: es) t qa)
    (hbase : attributeBase o name X.env (eval o X.env) = eval o X.env := by rfl)
    (hfew : ((backTo cpos (starEach (e :: es) X.env)).all (fun x => !x.1) && (backToKw cpos (keywordEach [] X.env)).all (fun x => x.1.isSome)
      && decide ((e :: es).length + ([] : List Keyword).length + (if ([] : List Keyword).isEmpty then 0 else 1) < 30)) = true := by rfl)
    (hline : (apos.endLine == cpos.line) = true := by rfl) (hs : starEach (e :: es) X.env = (false, eval e X.env) :: starEach es X.env := by rfl) (hplain : (backTo cpos (starEach es X.env)).any (·.1) = false := by rfl) :
    QE X W (.Call (.Attribute o name apos) (e :: es) [] cpos) (tBM X.K T r to t) (qBM T m qo qa) :=
  ⟨pe_bm pa slot hty hm.op ho.pe ha.pe hbase hfew hline hs hplain, fun DW G H p M s Q Q' hw S h k => ho.rf DW G H p M s _ _ hw S h fun G1 H1 M1 x v e1 S1 r1 ⟨ty, h1⟩ => ⟨tyV_of S1 r1 ty,
    ha.rf DW G1 H1 p M1 s _ _ (hw.mono e1) S1 h1 fun G2 H2 M2 ds vs e2 S2 r2 h2 => hm.rf G2 H2 p M2 s x v ds vs Q Q' S2 (Rep.mono e2 _ _ r1) r2 h2 fun G' H' M' d w e3 => k G' H' M' d w ((e1.trans e2).trans e3)⟩⟩
end
def mApp : DMt := fun x ds M Q => match x, ds with
  | .ref a, [d] => match M a with
    | some (.lst es) => es.length < 100000 ∧ Q .non (put M a (.lst (es ++ [d])))
    | _ => False
  | _, _ => False
def mExt : DMt := fun x ds M Q => match x, ds with
  | .ref a, [d] => match M a, res M d with
    | some (.lst es), .lst fs => es.length + fs.length ≤ 100000 ∧ Q .non (put M a (.lst (es ++ fs)))
    | _, _ => False
  | _, _ => False
def mPop : DMt := fun x ds M Q => match x, ds with
  | .ref a, [] => match M a with
    | some (.lst es) => match es[es.length - 1]? with
      | some d => Q d (put M a (.lst es.dropLast))
      | none => False
    | _ => False
  | _, _ => False
def mRev : DMt := fun x ds M Q => match x, ds with
  | .ref a, [] => match M a with
    | some (.lst es) => Q .non (put M a (.lst es.reverse))
    | _ => False
  | _, _ => False
def mClear : DMt := fun x ds M Q => match x, ds with
  | .ref a, [] => match M a with
    | some (.lst es) => Q .non (put M a (.lst []))
    | _ => False
  | _, _ => False
theorem RepL.dropLast {K : PySem.W.Frag} {G : Hp} {ds : List D} {vs : List V} (h : RepL K G ds vs) : RepL K G ds.dropLast vs.dropLast := by
  rw [List.dropLast_eq_take, List.dropLast_eq_take, h.length]
  exact RepL.take _ h
section
variable {X : Cx}
theorem m_append : QMt X "list.append" rAppend mApp := ⟨mt_append, fun G H p M s x v ds vs Q Q' S r1 r2 h k => by
  unfold mApp at h
  split at h
  · next a d =>
    cases r1
    obtain ⟨u, rfl, r3⟩ := repL1 r2
    split at h
    · next es em =>
      obtain ⟨hl, h⟩ := h
      obtain ⟨gn, us, g1, g2, g3⟩ := S.mem _ _ em
      have e1 := g2.length
      have z := sizeLine_eq
      refine ⟨a, us, u, rfl, rfl, g1, by omega, k G _ _ .non _ (Same.refl _) (S.put (mo := .lst (es ++ [d])) gn ⟨_, upd_same, RepL.append g2 (RepL.cons r3 rfl), ?_⟩) rfl h⟩
      rw [List.length_append]; simp; omega
    · exact h.elim
  · exact h.elim⟩
theorem m_extend : QMt X "list.extend" rExtend mExt := ⟨mt_extend, fun G H p M s x v ds vs Q Q' S r1 r2 h k => by
  unfold mExt at h
  split at h
  · next a d =>
    cases r1
    obtain ⟨u, rfl, r3⟩ := repL1 r2
    split at h
    · next es fs em ef =>
      obtain ⟨hl, h⟩ := h
      obtain ⟨gn, us, g1, g2, g3⟩ := S.mem _ _ em
      obtain ⟨b, ws, rfl, c1, c2, c3⟩ := as_lst S r3 ef
      have e1 := g2.length
      have e2 := c2.length
      have z := sizeLine_eq
      refine ⟨a, b, us, ws, rfl, rfl, g1, c1, by omega, k G _ _ .non _ (Same.refl _) (S.put (mo := .lst (es ++ fs)) gn ⟨_, upd_same, RepL.append g2 c2, ?_⟩) rfl h⟩
      rw [List.length_append]; omega
    · exact h.elim
  · exact h.elim⟩
theorem m_pop : QMt X "list.pop" rPop mPop := ⟨mt_pop, fun G H p M s x v ds vs Q Q' S r1 r2 h k => by
  unfold mPop at h
  split at h
  · next a =>
    cases r1
    cases r2
    split at h
    · next es em =>
      obtain ⟨gn, us, g1, g2, g3⟩ := S.mem _ _ em
      split at h
      · next d ed =>
        obtain ⟨w, h1, h2⟩ := g2.get ed
        have e1 := g2.length
        refine ⟨a, us, w, rfl, rfl, g1, by rw [e1]; exact h1, k G _ _ d _ (Same.refl _) (S.put (mo := .lst es.dropLast) gn ⟨_, upd_same, g2.dropLast, ?_⟩) h2 h⟩
        rw [List.length_dropLast]; omega
      · exact h.elim
    · exact h.elim
  · exact h.elim⟩
theorem m_reverse : QMt X "list.reverse" rReverse mRev := ⟨mt_reverse, fun G H p M s x v ds vs Q Q' S r1 r2 h k => by
  unfold mRev at h
  split at h
  · next a =>
    cases r1
    cases r2
    split at h
    · next es em =>
      obtain ⟨gn, us, g1, g2, g3⟩ := S.mem _ _ em
      exact ⟨a, us, rfl, rfl, g1, k G _ _ .non _ (Same.refl _) (S.put (mo := .lst es.reverse) gn ⟨_, upd_same, g2.reverse, by rw [List.length_reverse]; exact g3⟩) rfl h⟩
    · exact h.elim
  · exact h.elim⟩
theorem m_clear : QMt X "list.clear" rClear mClear := ⟨mt_clear, fun G H p M s x v ds vs Q Q' S r1 r2 h k => by
  unfold mClear at h
  split at h
  · next a =>
    cases r1
    cases r2
    split at h
    · next es em =>
      obtain ⟨gn, us, g1, g2, g3⟩ := S.mem _ _ em
      exact ⟨a, us, rfl, rfl, g1, k G _ _ .non _ (Same.refl _) (S.put (mo := .lst []) gn ⟨_, upd_same, rfl, Nat.zero_le _⟩) rfl h⟩
    · exact h.elim
  · exact h.elim⟩
end
/-- xs.count(y) of flat things -/
def rCntV (K : PySem.W.Frag) : V → List V → Hp → VK → Prop := fun x vs H Q => ∃ p xs y, x = .ref p ∧ vs = [y] ∧ SqL K H p xs ∧ flatV y = true ∧ xs.all flatV = true ∧ Q (.int (xs.countP fun z => eqV z y)) H
theorem count_eqU {x : V} : ∀ {xs : List V} {us : List Value}, Vals xs us → xs.all flatV = true → us.countP (eqU x) = xs.countP fun y => eqV y x
  | _, _, .nil, _ => rfl
  | y :: xs, u :: us, .cons r t, f => by
    rw [List.all_cons, Bool.and_eq_true] at f
    rw [List.countP_cons, List.countP_cons, eqU_of r f.1, count_eqU t f.2]
theorem mt_countV {X : Cx} : MtR X "list.count" (rCntV X.K) := by
  intro pins s σ H x xs v us Q I rx rxs h
  obtain ⟨p, ys, y, rfl, rfl, hs, fy, fys, q⟩ := h
  cases rx
  obtain ⟨u, rfl, ru⟩ := rxs.one
  obtain ⟨its, rv, ⟨⟨cls, dd, data, sl⟩, n, ho, hc, hdn, hd⟩, hlen⟩ := I.list hs
  simp only at hc hd
  subst hc hd
  refine call_meets PySem.F.slot_list_count ⟨_, ho, rfl⟩ PySem.F.entry_list_count (PySem.F.args_list_count_2 _ _)
    (SeqAt.list_countAt p its.toArray n dd sl u (eqU y)) ⟨ho, fun z hz => mem_eqAt ru fy rv fys z (by simpa using hz), ?_⟩
  have ec : its.toArray.toList.countP (eqU y) = ys.countP fun z => eqV z y := by rw [← count_eqU rv fys]
  refine ⟨.int (ys.countP fun z => eqV z y : Nat), H, I.tok _, ⟨s.toks, ?_⟩, q⟩
  rw [ec]
def mCount : DMt := fun x ds M Q => match ds with
  | [d] => match res M x with
    | .lst es => flatD d = true ∧ es.all flatD = true ∧ Q (.int (es.countP fun e => deq e d)) M
    | _ => False
  | _ => False
theorem countV_of {K : PySem.W.Frag} {G : Hp} {d : D} {v : V} (r : Rep K G d v) (h : flatD d = true) : ∀ {ds : List D} {vs : List V}, RepL K G ds vs → ds.all flatD = true → vs.all flatV = true ∧ (vs.countP fun z => eqV z v) = ds.countP fun e => deq e d
  | [], _, q, _ => by cases q; exact ⟨rfl, rfl⟩
  | e :: ds, _, ⟨w, vs, e1, h2, h3⟩, f => by
    subst e1
    have f' : flatD e = true ∧ ds.all flatD = true := by simpa using f
    obtain ⟨i1, i2⟩ := countV_of r h h3 f'.2
    obtain ⟨fv, _⟩ := flatD_of h2 f'.1
    have e2 := (flatD_of r h).2 e w h2 f'.1
    refine ⟨by simp [fv, i1], ?_⟩
    rw [List.countP_cons, List.countP_cons, i2, e2]
theorem m_count {X : Cx} : QMt X "list.count" (rCntV X.K) mCount := ⟨mt_countV, fun G H p M s x v ds vs Q Q' S r1 r2 h k => by
  unfold mCount at h
  split at h
  · next d =>
    obtain ⟨u, rfl, r3⟩ := repL1 r2
    split at h
    · next es e1 =>
      obtain ⟨f1, f2, h⟩ := h
      obtain ⟨a, us, rfl, g1, g2, g3⟩ := as_lst S r1 e1
      obtain ⟨i1, i2⟩ := countV_of r3 f1 g2 f2
      refine ⟨a, us, u, rfl, rfl, .inl (.inl g1), (flatD_of r3 f1).1, i1, k G H M (.int _) _ (Same.refl _) S rfl ?_⟩
      rw [i2]; exact h
    · exact h.elim
  · exact h.elim⟩

/-! ### dicts -/
def qDNew : DTE := fun _ _ M Q => ∀ a, M a = none → Q (.ref a) (put M a (.dK []))
def qDNewT : DTE := fun _ _ M Q => ∀ a, M a = none → Q (.ref a) (put M a (.dT []))
section
variable {X : Cx} {W : WX} {pos : Pos}
theorem q_dnew : QE X W (.Dict [] [] pos) tDNewK qDNew := ⟨pe_dnewK, fun DW G H p M s Q Q' hw S h k a ha =>
  k G _ _ (.ref a) _ (Same.refl _) (S.put (mo := .dK []) (S.same.free ha) ⟨[], upd_same, rfl, rfl, Nat.zero_le _, fun q hq => by cases hq⟩) rfl (h a (S.mem.fresh ha))⟩
theorem q_dnewT : QE X W (.Dict [] [] pos) tDNewT qDNewT := ⟨pe_dnewT, fun DW G H p M s Q Q' hw S h k a ha =>
  k G _ _ (.ref a) _ (Same.refl _) (S.put (mo := .dT []) (S.same.free ha) ⟨[], upd_same, rfl, rfl, Nat.zero_le _, fun q hq => by cases hq⟩) rfl (h a (S.mem.fresh ha))⟩
end
/-- d.get(k, x) -/
def isDict (M : Mst) : D → Bool
  | .dct _ _ => true
  | .ref a => match M a with
    | some (.dK _) => true
    | some (.dT _) => true
    | some (.lk _ _) => true
    | some (.lkT _ _) => true
    | _ => false
  | _ => false
def qDGet2 (qd qk qx : DTE) : DTE := fun DW p M Q => qd DW p M fun x M1 => isDict M1 x = true ∧ qk DW p M1 fun y M2 => qx DW p M2 fun z M3 => match dgetD M3 x y with
  | some o => Q (o.getD z) M3
  | none => False
def qDGet1 (qd qk : DTE) : DTE := fun DW p M Q => qd DW p M fun x M1 => isDict M1 x = true ∧ qk DW p M1 fun y M2 => match dgetD M2 x y with
  | some o => Q (o.getD .non) M2
  | none => False
theorem isD_of {K : PySem.W.Frag} {G H : Hp} {p : Rho} {M : Mst} {s : L2.St} {x : D} {v : V} (S : Sim K G H p M s) (r : Rep K G x v) (h : isDict M x = true) : ∃ a, v = .ref a ∧ IsD H a := by
  unfold isDict at h
  split at h
  · obtain ⟨a, kvs, rfl, h1, _⟩ := r
    exact ⟨a, rfl, .inl ⟨kvs, same_rd S.same h1⟩⟩
  · next a =>
    cases r
    refine ⟨a, rfl, ?_⟩
    split at h
    · next kvs em => obtain ⟨_, kv, h1, _⟩ := S.mem _ _ em; exact .inl ⟨kv, .inl h1⟩
    · next kvs em => obtain ⟨_, kv, h1, _⟩ := S.mem _ _ em; exact .inr ⟨kv, .inl h1⟩
    · next ho kvs em => obtain ⟨_, o, kv, h0, h1, _⟩ := S.mem _ _ em; exact .inl ⟨kv, .inr ⟨o, by rw [← h0]; exact h1⟩⟩
    · next ho kvs em => obtain ⟨_, o, kv, h0, h1, _⟩ := S.mem _ _ em; exact .inr ⟨kv, .inr ⟨o, by rw [← h0]; exact h1⟩⟩
    · cases h
  · cases h
section
variable {X : Cx} {W : WX} {o e f : Expr} {apos cpos : Pos} {td ty tx : TE} {qd qk qx : DTE}
theorem q_dget2 (hu : X.A.units + 1 < cLine) (ho : QE X W o td qd) (he : QE X W e ty qk) (hf : QE X W f tx qx) (m : M2 X o "get" apos e f cpos) : QE X W (.Call (.Attribute o "get" apos) [e, f] [] cpos) (tDGet2 td ty tx) (qDGet2 qd qk qx) :=
  ⟨pe_dget2 hu ho.pe he.pe hf.pe m, fun DW G H p M s Q Q' hw S h k => ho.rf DW G H p M s _ _ hw S h fun G1 H1 M1 x v e1 S1 r1 ⟨hd, h1⟩ => by
    obtain ⟨a, rfl, hD⟩ := isD_of S1 r1 hd
    refine ⟨a, rfl, hD, he.rf DW G1 H1 p M1 s _ _ (hw.mono e1) S1 h1 fun G2 H2 M2 y u e2 S2 r2 h2 => hf.rf DW G2 H2 p M2 s _ _ (hw.mono (e1.trans e2)) S2 h2 fun G3 H3 M3 z w e3 S3 r3 h3 => ?_⟩
    split at h3
    · next oo eo =>
      obtain ⟨a', ov, ea, g, q⟩ := dgetD_of S3 (Rep.mono (e2.trans e3) _ _ r1) (Rep.mono e3 _ _ r2) eo
      cases ea
      refine ⟨ov, g, ?_⟩
      rcases q with ⟨rfl, rfl⟩ | ⟨d', w', rfl, rfl, r'⟩
      · exact k G3 H3 M3 z _ ((e1.trans e2).trans e3) S3 r3 h3
      · exact k G3 H3 M3 d' _ ((e1.trans e2).trans e3) S3 r' h3
    · exact h3.elim⟩
theorem q_dget1 (hu : X.A.units + 1 < cLine) (ho : QE X W o td qd) (he : QE X W e ty qk) (m : M1 X o "get" apos e cpos) : QE X W (.Call (.Attribute o "get" apos) [e] [] cpos) (tDGet1 td ty) (qDGet1 qd qk) :=
  ⟨pe_dget1 hu ho.pe he.pe m, fun DW G H p M s Q Q' hw S h k => ho.rf DW G H p M s _ _ hw S h fun G1 H1 M1 x v e1 S1 r1 ⟨hd, h1⟩ => by
    obtain ⟨a, rfl, hD⟩ := isD_of S1 r1 hd
    refine ⟨a, rfl, hD, he.rf DW G1 H1 p M1 s _ _ (hw.mono e1) S1 h1 fun G2 H2 M2 y u e2 S2 r2 h2 => ?_⟩
    split at h2
    · next oo eo =>
      obtain ⟨a', ov, ea, g, q⟩ := dgetD_of S2 (Rep.mono e2 _ _ r1) r2 eo
      cases ea
      refine ⟨ov, g, ?_⟩
      rcases q with ⟨rfl, rfl⟩ | ⟨d', w', rfl, rfl, r'⟩
      · exact k G2 H2 M2 .non _ (e1.trans e2) S2 rfl h2
      · exact k G2 H2 M2 d' _ (e1.trans e2) S2 r' h2
    · exact h2.elim⟩
end

/-! ### a dict walked: it is locked meanwhile -/
/-- the mutable dict at a is read only, then as before -/
def qLock (sel : Rho → Mst → Option Addr) (q : DTS) : DTS := fun DW DE p M => match sel p M with
  | some a => match M a with
    | some (.dK kvs) => ∀ ho, q DW ⟨fun p' M' => M' a = some (.lk ho kvs) ∧ DE.nx p' (put M' a (.dK kvs)), fun d M' => M' a = some (.lk ho kvs) ∧ DE.rt d (put M' a (.dK kvs)), fun p' M' => M' a = some (.lk ho kvs) ∧ DE.bk p' (put M' a (.dK kvs)), fun p' M' => M' a = some (.lk ho kvs) ∧ DE.ct p' (put M' a (.dK kvs))⟩ p (put M a (.lk ho kvs))
    | some (.dT kvs) => ∀ ho, q DW ⟨fun p' M' => M' a = some (.lkT ho kvs) ∧ DE.nx p' (put M' a (.dT kvs)), fun d M' => M' a = some (.lkT ho kvs) ∧ DE.rt d (put M' a (.dT kvs)), fun p' M' => M' a = some (.lkT ho kvs) ∧ DE.bk p' (put M' a (.dT kvs)), fun p' M' => M' a = some (.lkT ho kvs) ∧ DE.ct p' (put M' a (.dT kvs))⟩ p (put M a (.lkT ho kvs))
    | _ => False
  | none => False
def qLockE (sel : Rho → Mst → Option Addr) (q : DTE) : DTE := fun DW p M Q => match sel p M with
  | some a => match M a with
    | some (.dK kvs) => ∀ ho, q DW p (put M a (.lk ho kvs)) fun d M' => M' a = some (.lk ho kvs) ∧ Q d (put M' a (.dK kvs))
    | some (.dT kvs) => ∀ ho, q DW p (put M a (.lkT ho kvs)) fun d M' => M' a = some (.lkT ho kvs) ∧ Q d (put M' a (.dT kvs))
    | _ => False
  | none => False
section
variable {X : Cx} {W : WX} {sel : Rho → Mst → Option Addr}
theorem qs_lock {st : Stmt} {t : TS} {q : DTS} (h : QS X W st t q) : QS X W st (tLock t) (qLock sel q) := ⟨ps_lock h.pe, fun DW G H p M s DE E hw S hq k => by
  unfold qLock at hq
  split at hq
  · next a _ =>
    split at hq
    · next kvs em =>
      obtain ⟨gn, kv, g1, g2, g3, g4, g5⟩ := S.mem _ _ em
      refine ⟨a, _, g1, trivial, fun od => ?_⟩
      have S1 : Sim X.K G (upd H a (.frz od (.dK kv))) p (put M a (.lk (.frz od (.dK kv)) kvs)) s := S.put (mo := .lk (.frz od (.dK kv)) kvs) gn ⟨od, kv, rfl, upd_same, g2, g3, g4, g5⟩
      have back : ∀ {G' H' p' M' s'}, Same G G' → Sim X.K G' H' p' M' s' → M' a = some (.lk (.frz od (.dK kv)) kvs) → H' a = some (.frz od (.dK kv)) ∧ Sim X.K G' (upd H' a (.dK kv)) p' (put M' a (.dK kvs)) s' := fun {G' H' p' M' s'} e S' em' => by
        obtain ⟨gn', o', kv', h0, h1, _⟩ := S'.mem _ _ em'
        exact ⟨h1, S'.put (mo := .dK kvs) gn' ⟨kv, upd_same, g2, RepL.mono e _ _ g3, g4, g5⟩⟩
      refine h.rf DW G _ p _ s _ _ hw S1 (hq (.frz od (.dK kv))) ⟨fun G' H' p' M' s' e S' ⟨h1, h2⟩ => ?_, fun G' H' p' M' s' d v e S' r ⟨h1, h2⟩ => ?_, fun G' H' p' M' s' e S' ⟨h1, h2⟩ => ?_, fun G' H' p' M' s' e S' ⟨h1, h2⟩ => ?_⟩
      · obtain ⟨b1, b2⟩ := back e S' h1; exact ⟨b1, k.nx _ _ _ _ _ e b2 h2⟩
      · obtain ⟨b1, b2⟩ := back e S' h1; exact ⟨b1, k.rt _ _ _ _ _ _ _ e b2 r h2⟩
      · obtain ⟨b1, b2⟩ := back e S' h1; exact ⟨b1, k.bk _ _ _ _ _ e b2 h2⟩
      · obtain ⟨b1, b2⟩ := back e S' h1; exact ⟨b1, k.ct _ _ _ _ _ e b2 h2⟩
    · next kvs em =>
      obtain ⟨gn, kv, g1, g2, g3, g4, g5⟩ := S.mem _ _ em
      refine ⟨a, _, g1, trivial, fun od => ?_⟩
      have S1 : Sim X.K G (upd H a (.frz od (.dT kv))) p (put M a (.lkT (.frz od (.dT kv)) kvs)) s := S.put (mo := .lkT (.frz od (.dT kv)) kvs) gn ⟨od, kv, rfl, upd_same, g2, g3, g4, g5⟩
      have back : ∀ {G' H' p' M' s'}, Same G G' → Sim X.K G' H' p' M' s' → M' a = some (.lkT (.frz od (.dT kv)) kvs) → H' a = some (.frz od (.dT kv)) ∧ Sim X.K G' (upd H' a (.dT kv)) p' (put M' a (.dT kvs)) s' := fun {G' H' p' M' s'} e S' em' => by
        obtain ⟨gn', o', kv', h0, h1, _⟩ := S'.mem _ _ em'
        exact ⟨h1, S'.put (mo := .dT kvs) gn' ⟨kv, upd_same, g2, RepL.mono e _ _ g3, g4, g5⟩⟩
      refine h.rf DW G _ p _ s _ _ hw S1 (hq (.frz od (.dT kv))) ⟨fun G' H' p' M' s' e S' ⟨h1, h2⟩ => ?_, fun G' H' p' M' s' d v e S' r ⟨h1, h2⟩ => ?_, fun G' H' p' M' s' e S' ⟨h1, h2⟩ => ?_, fun G' H' p' M' s' e S' ⟨h1, h2⟩ => ?_⟩
      · obtain ⟨b1, b2⟩ := back e S' h1; exact ⟨b1, k.nx _ _ _ _ _ e b2 h2⟩
      · obtain ⟨b1, b2⟩ := back e S' h1; exact ⟨b1, k.rt _ _ _ _ _ _ _ e b2 r h2⟩
      · obtain ⟨b1, b2⟩ := back e S' h1; exact ⟨b1, k.bk _ _ _ _ _ e b2 h2⟩
      · obtain ⟨b1, b2⟩ := back e S' h1; exact ⟨b1, k.ct _ _ _ _ _ e b2 h2⟩
    · exact hq.elim
  · exact hq.elim⟩
theorem q_lock {e : Expr} {t : TE} {q : DTE} (h : QE X W e t q) : QE X W e (tLockE t) (qLockE sel q) := ⟨pe_lock h.pe, fun DW G H p M s Q Q' hw S hq k => by
  unfold qLockE at hq
  split at hq
  · next a _ =>
    split at hq
    · next kvs em =>
      obtain ⟨gn, kv, g1, g2, g3, g4, g5⟩ := S.mem _ _ em
      refine ⟨a, _, g1, trivial, fun od => ?_⟩
      have S1 : Sim X.K G (upd H a (.frz od (.dK kv))) p (put M a (.lk (.frz od (.dK kv)) kvs)) s := S.put (mo := .lk (.frz od (.dK kv)) kvs) gn ⟨od, kv, rfl, upd_same, g2, g3, g4, g5⟩
      refine h.rf DW G _ p _ s _ _ hw S1 (hq (.frz od (.dK kv))) fun G' H' M' d v e S' r ⟨h1, h2⟩ => ?_
      obtain ⟨gn', o', kv', c0, c1, _⟩ := S'.mem _ _ h1
      exact ⟨c1, k G' _ _ d v e (S'.put (mo := .dK kvs) gn' ⟨kv, upd_same, g2, RepL.mono e _ _ g3, g4, g5⟩) r h2⟩
    · next kvs em =>
      obtain ⟨gn, kv, g1, g2, g3, g4, g5⟩ := S.mem _ _ em
      refine ⟨a, _, g1, trivial, fun od => ?_⟩
      have S1 : Sim X.K G (upd H a (.frz od (.dT kv))) p (put M a (.lkT (.frz od (.dT kv)) kvs)) s := S.put (mo := .lkT (.frz od (.dT kv)) kvs) gn ⟨od, kv, rfl, upd_same, g2, g3, g4, g5⟩
      refine h.rf DW G _ p _ s _ _ hw S1 (hq (.frz od (.dT kv))) fun G' H' M' d v e S' r ⟨h1, h2⟩ => ?_
      obtain ⟨gn', o', kv', c0, c1, _⟩ := S'.mem _ _ h1
      exact ⟨c1, k G' _ _ d v e (S'.put (mo := .dT kvs) gn' ⟨kv, upd_same, g2, RepL.mono e _ _ g3, g4, g5⟩) r h2⟩
    · exact hq.elim
  · exact hq.elim⟩
end
def kD : Key → D
  | .inl i => .int i
  | .inr x => .str x
theorem rep_key {K : PySem.W.Frag} {G : Hp} {k : Key} (h : kOk k) : Rep K G (kD k) (kV k) := by
  cases k with
  | inl i => rfl
  | inr x => exact ⟨rfl, h⟩
theorem rep_keys {K : PySem.W.Frag} {G : Hp} : ∀ {ks : List Key}, (∀ k ∈ ks, kOk k) → RepL K G (ks.map kD) (ks.map kV)
  | [], _ => rfl
  | k :: ks, h => ⟨kV k, _, rfl, rep_key (h k (List.mem_cons_self ..)), rep_keys fun q hq => h q (List.mem_cons_of_mem _ hq)⟩
/-- a tuple that stands in the heap is known for good -/
theorem Sim.adopt {K : PySem.W.Frag} {G H : Hp} {p : Rho} {M : Mst} {s : L2.St} {a : Addr} {ds : List D} {vs : List V} (S : Sim K G H p M s) (h : H a = some (.tup vs)) (r : RepL K G ds vs) (hl : vs.length ≤ sizeLine) : ∃ G', Same G G' ∧ Sim K G' H p M s ∧ Rep K G' (.tup ds) (.ref a) := by
  cases eg : G a with
  | some o =>
    have := S.same _ _ eg
    rw [h] at this; cases this
    exact ⟨G, Same.refl _, S, a, vs, rfl, eg, r, hl⟩
  | none =>
    have e : Same G (upd G a (.tup vs)) := same_new eg
    have mn : ∀ b u, M b = some u → b ≠ a := fun b u q z => by
      subst z
      have := (S.mem _ _ q).2
      cases u with
      | lst _ => obtain ⟨_, h1, _⟩ := this; rw [h] at h1; cases h1
      | dK _ => obtain ⟨_, h1, _⟩ := this; rw [h] at h1; cases h1
      | dT _ => obtain ⟨_, h1, _⟩ := this; rw [h] at h1; cases h1
      | ins _ _ => obtain ⟨_, _, h1, _⟩ := this; rw [h] at h1; cases h1
      | lk _ _ => obtain ⟨_, _, h0, h1, _⟩ := this; rw [h0, h] at h1; cases h1
      | lkT _ _ => obtain ⟨_, _, h0, h1, _⟩ := this; rw [h0, h] at h1; cases h1
      | bag => obtain ⟨_, _, h1, _⟩ := this; rw [h] at h1; cases h1
    refine ⟨_, e, ⟨fun b u q => ?_, fun i d q => ?_, S.len, fun b u q => ⟨by rw [upd_ne (mn b u q)]; exact (S.mem b u q).1, (S.mem b u q).2.mono e rfl⟩⟩, a, vs, rfl, upd_same, RepL.mono e _ _ r, hl⟩
    · by_cases z : b = a
      · subst z; rw [upd_same] at q; cases q; exact h
      · rw [upd_ne z] at q; exact S.same _ _ q
    · obtain ⟨v, r1, r2⟩ := S.env i d q
      exact ⟨v, r1, Rep.mono e _ _ r2⟩
def qiKeys (qe : DTE) : DTI := fun DW p M R => qe DW p M fun d M1 => match d with
  | .ref a => match M1 a with
    | some (.lk ho kvs) => R (kvs.map fun q => kD q.1) (holds a (.lk ho kvs)) M1
    | some (.lkT ho kvs) => R (kvs.map fun q => .tup (q.1.map kD)) (holds a (.lkT ho kvs)) M1
    | _ => False
  | _ => False
def qiVals (qe : DTE) : DTI := fun DW p M R => qe DW p M fun d M1 => match d with
  | .ref a => match M1 a with
    | some (.lk ho kvs) => R (kvs.map fun q => q.2) (holds a (.lk ho kvs)) M1
    | _ => False
  | _ => False
def qiItems (qe : DTE) : DTI := fun DW p M R => qe DW p M fun d M1 => match d with
  | .ref a => match M1 a with
    | some (.lk ho kvs) => R (kvs.map fun q => .tup [kD q.1, q.2]) (holds a (.lk ho kvs)) M1
    | _ => False
  | _ => False
theorem pair_at {κ : Type} {kvs : List (κ × D)} {kv : List (κ × V)} (h : kv.map (·.1) = kvs.map (·.1)) {i : Nat} {q : κ × D} {k : κ} {v : V} (h1 : kvs[i]? = some q) (h2 : kv[i]? = some (k, v)) : k = q.1 := by
  have e1 : (kv.map (·.1))[i]? = some k := by simp [h2]
  rw [h] at e1
  simp [h1] at e1
  exact e1.symm
section
variable {X : Cx} {W : WX} {tg e : Expr} {td : TE} {qd : DTE} {apos cpos : Pos}
theorem qi_keys (he : QE X W e td qd) : QI X W tg e (iKeys td) (qiKeys qd) := ⟨pi_keys he.pe, fun DW G H p M s R R' hw S h k => he.rf DW G H p M s _ _ hw S h fun G1 H1 M1 d v e1 S1 r1 h1 => by
  split at h1
  · next a =>
    cases r1
    split at h1
    · next ho kvs em =>
      obtain ⟨gn, o, kv, c0, c1, c2, c3, c4, c5⟩ := S1.mem _ _ em
      subst c0
      have hl : kv.length = kvs.length := by have := congrArg List.length c2; simpa using this
      refine ⟨a, o, rfl, .inl ⟨kv, c1, k G1 H1 M1 _ _ _ e1 S1 ⟨fun G' H p M s i e S st hi => ?_, fun G' H p M s i x H' e S st y d hd => ?_, fun G' H p M s e S st => ?_⟩ (by rw [List.length_map, ← hl]; exact c4) h1⟩⟩
      · obtain ⟨_, o', kv', b0, b1, _⟩ := S.mem _ _ st
        exact ⟨b1, by simpa [hl] using hi⟩
      · obtain ⟨rfl, kk, vv, y1, rfl⟩ := y
        simp only [List.getElem?_map, Option.map_eq_some_iff] at hd
        obtain ⟨q, q1, rfl⟩ := hd
        have := pair_at c2 q1 y1
        subst this
        exact ⟨G', Same.refl _, S, rep_key (c5 q (List.mem_of_getElem? q1))⟩
      · obtain ⟨_, o', kv', b0, b1, _⟩ := S.mem _ _ st
        exact ⟨b1, by simp [hl]⟩
    · next ho kvs em =>
      obtain ⟨gn, o, kv, c0, c1, c2, c3, c4, c5⟩ := S1.mem _ _ em
      subst c0
      have hl : kv.length = kvs.length := by have := congrArg List.length c2; simpa using this
      refine ⟨a, o, rfl, .inr ⟨kv, c1, k G1 H1 M1 _ _ _ e1 S1 ⟨fun G' H p M s i e S st hi => ?_, fun G' H p M s i x H' e S st y d hd => ?_, fun G' H p M s e S st => ?_⟩ (by rw [List.length_map, ← hl]; exact c4) h1⟩⟩
      · obtain ⟨_, o', kv', b0, b1, _⟩ := S.mem _ _ st
        exact ⟨b1, by simpa [hl] using hi⟩
      · obtain ⟨rfl, kk, vv, q', y1, rfl, y2⟩ := y
        simp only [List.getElem?_map, Option.map_eq_some_iff] at hd
        obtain ⟨q, q1, rfl⟩ := hd
        have := pair_at c2 q1 y1
        subst this
        obtain ⟨l1, l2⟩ := c5 q (List.mem_of_getElem? q1)
        exact S.adopt y2 (rep_keys l2) (by simpa using l1)
      · obtain ⟨_, o', kv', b0, b1, _⟩ := S.mem _ _ st
        exact ⟨b1, by simp [hl]⟩
    · exact h1.elim
  · exact h1.elim⟩
theorem qi_values (he : QE X W e td qd) (hbase : attributeBase e "values" X.env (eval e X.env) = eval e X.env := by rfl) (hline : (apos.endLine == cpos.line) = true := by rfl) : QI X W tg (.Call (.Attribute e "values" apos) [] [] cpos) (iVals td) (qiVals qd) :=
  ⟨pi_values he.pe hbase hline, fun DW G H p M s R R' hw S h k => he.rf DW G H p M s _ _ hw S h fun G1 H1 M1 d v e1 S1 r1 h1 => by
  split at h1
  · next a =>
    cases r1
    split at h1
    · next ho kvs em =>
      obtain ⟨gn, o, kv, c0, c1, c2, c3, c4, c5⟩ := S1.mem _ _ em
      subst c0
      have hl : kv.length = kvs.length := by have := congrArg List.length c2; simpa using this
      refine ⟨a, o, kv, rfl, c1, k G1 H1 M1 _ _ _ e1 S1 ⟨fun G' H p M s i e S st hi => ?_, fun G' H p M s i x H' e S st y d hd => ?_, fun G' H p M s e S st => ?_⟩ (by rw [List.length_map, ← hl]; exact c4) h1⟩
      · obtain ⟨_, o', kv', b0, b1, _⟩ := S.mem _ _ st
        exact ⟨b1, by simpa [hl] using hi⟩
      · obtain ⟨rfl, kk, y1⟩ := y
        obtain ⟨v, h1, h2⟩ := (RepL.mono e _ _ c3).get hd
        simp only [List.getElem?_map, y1, Option.map_some, Option.some.injEq] at h1
        subst h1
        exact ⟨G', Same.refl _, S, h2⟩
      · obtain ⟨_, o', kv', b0, b1, _⟩ := S.mem _ _ st
        exact ⟨b1, by simp [hl]⟩
    · exact h1.elim
  · exact h1.elim⟩
theorem qi_items {elts : List Expr} {kk : Nat} {tpos : Pos} (he : QE X W e td qd) (hbase : attributeBase e "items" X.env (eval e X.env) = eval e X.env := by rfl) (hline : (apos.endLine == cpos.line) = true := by rfl) :
    QI X W (.Tuple elts kk tpos) (.Call (.Attribute e "items" apos) [] [] cpos) (iItems td) (qiItems qd) :=
  ⟨pi_items he.pe hbase hline, fun DW G H p M s R R' hw S h k => he.rf DW G H p M s _ _ hw S h fun G1 H1 M1 d v e1 S1 r1 h1 => by
  split at h1
  · next a =>
    cases r1
    split at h1
    · next ho kvs em =>
      obtain ⟨gn, o, kv, c0, c1, c2, c3, c4, c5⟩ := S1.mem _ _ em
      subst c0
      have hl : kv.length = kvs.length := by have := congrArg List.length c2; simpa using this
      refine ⟨a, o, kv, rfl, c1, k G1 H1 M1 _ _ _ e1 S1 ⟨fun G' H p M s i e S st hi => ?_, fun G' H p M s i x H' e S st y d hd => ?_, fun G' H p M s e S st => ?_⟩ (by rw [List.length_map, ← hl]; exact c4) h1⟩
      · obtain ⟨_, o', kv', b0, b1, _⟩ := S.mem _ _ st
        exact ⟨b1, by simpa [hl] using hi⟩
      · obtain ⟨T, k', v', y1, rfl, y2, rfl⟩ := y
        simp only [List.getElem?_map, Option.map_eq_some_iff] at hd
        obtain ⟨q, q1, rfl⟩ := hd
        have := pair_at c2 q1 y1
        subst this
        obtain ⟨e2, S2⟩ := S.made (o := .tup [kV q.1, v']) y2
        obtain ⟨w, w1, w2⟩ := (RepL.mono e _ _ c3).get (i := i) (d := q.2) (by simp [q1])
        simp only [List.getElem?_map, y1, Option.map_some, Option.some.injEq] at w1
        subst w1
        exact ⟨_, e2, S2, T, _, rfl, upd_same, RepL.mono e2 _ _ (RepL.cons (rep_key (c5 q (List.mem_of_getElem? q1))) (RepL.cons w2 rfl)), sz1000 (by simp)⟩
      · obtain ⟨_, o', kv', b0, b1, _⟩ := S.mem _ _ st
        exact ⟨b1, by simp [hl]⟩
    · exact h1.elim
  · exact h1.elim⟩
end
end DL

/-! DLh: what will change no more; enumerate, zip; sorted; sets. -/
namespace DL
open PySem L2

/-! ### ghost: what a slot holds will change no more -/
def frz (i : Nat) (p : Rho) (M : Mst) (R : Rho → Mst → Prop) : Prop := match p[i]? with
  | some (some (.ref a)) => match M a with
    | some (.lst ds) => R (p.set i (some (.lst ds))) (del M a)
    | some (.dK kvs) => R (p.set i (some (.dct (kvs.map (·.1)) (kvs.map (·.2))))) (del M a)
    | some (.ins C fs) => R (p.set i (some (.ins C (fs.map (·.1)) (fs.map (·.2))))) (del M a)
    | _ => False
  | _ => False
def qFrz (i : Nat) (q : DTS) : DTS := fun DW DE p M => frz i p M (q DW DE)
theorem Sim.slot {K : PySem.W.Frag} {G H : Hp} {p : Rho} {M : Mst} {s : L2.St} {i : Nat} {a : Addr} {d : D} (S : Sim K G H p M s) (h : ∃ v, s[i]? = some (some v) ∧ v = .ref a) (r : Rep K G d (.ref a)) : Sim K G H (p.set i (some d)) M s := by
  obtain ⟨v, h1, rfl⟩ := h
  refine ⟨S.same, fun j e h => ?_, by rw [List.length_set]; exact S.len, S.mem⟩
  rw [List.getElem?_set] at h
  split at h
  · next z =>
    subst z
    split at h
    · cases h; exact ⟨_, h1, r⟩
    · cases h
  · exact S.env j e h
theorem qs_frz {X : Cx} {W : WX} {st : Stmt} {t : TS} {q : DTS} (i : Nat) (h : QS X W st t q) : QS X W st t (qFrz i q) := ⟨h.pe, fun DW G H p M s DE E hw S hq k => by
  unfold qFrz frz at hq
  split at hq
  · next a ei =>
    obtain ⟨v, s1, r1⟩ := S.env i _ ei
    have hv : ∃ v, s[i]? = some (some v) ∧ v = .ref a := ⟨v, s1, r1⟩
    split at hq
    · next ds em =>
      obtain ⟨G', e, S', r⟩ := S.freeze em
      exact h.rf DW G' H _ _ s DE E (hw.mono e) (S'.slot hv r) hq (k.mono e)
    · next kvs em =>
      obtain ⟨G', e, S', r⟩ := S.freezeD em
      exact h.rf DW G' H _ _ s DE E (hw.mono e) (S'.slot hv r) hq (k.mono e)
    · next C fs em =>
      obtain ⟨G', e, S', r⟩ := S.freezeI em
      exact h.rf DW G' H _ _ s DE E (hw.mono e) (S'.slot hv r) hq (k.mono e)
    · exact hq.elim
  · exact hq.elim⟩
/-- what is locked: the dict in slot i; the field f of what slot i holds -/
def selN (i : Nat) : Rho → Mst → Option Addr := fun p _ => match p[i]? with
  | some (some (.ref a)) => some a
  | _ => none
def selA (i : Nat) (f : Str) : Rho → Mst → Option Addr := fun p M => match p[i]? with
  | some (some (.ref a)) => match M a with
    | some (.ins _ fs) => match fs.find? (fun q => q.1 == f) with
      | some (_, .ref b) => some b
      | _ => none
    | _ => none
  | _ => none

/-! ### enumerate, zip -/
def enumD : Nat → List D → List D
  | _, [] => []
  | n, d :: ds => .tup [.int n, d] :: enumD (n + 1) ds
@[simp] theorem enumD_length : ∀ (n : Nat) (ds : List D), (enumD n ds).length = ds.length
  | _, [] => rfl
  | n, d :: ds => by simp [enumD, enumD_length]
theorem enumD_get : ∀ (n : Nat) (ds : List D) (i : Nat), (enumD n ds)[i]? = (ds[i]?).map fun d => .tup [.int ((n + i : Nat) : Int), d]
  | _, [], i => by simp [enumD]
  | n, d :: ds, 0 => by simp [enumD]
  | n, d :: ds, i + 1 => by
    have e : n + 1 + i = n + (i + 1) := by omega
    simp only [enumD, List.getElem?_cons_succ, enumD_get (n + 1) ds i, e]
def zipD : List D → List D → List D
  | a :: as, b :: bs => .tup [a, b] :: zipD as bs
  | _, _ => []
theorem zipD_get : ∀ (as bs : List D) (i : Nat), (zipD as bs)[i]? = match as[i]?, bs[i]? with | some a, some b => some (.tup [a, b]) | _, _ => none
  | a :: as, b :: bs, 0 => by simp [zipD]
  | a :: as, b :: bs, i + 1 => by simp [zipD, zipD_get as bs i]
  | [], bs, i => by simp [zipD]
  | a :: as, [], i => by simp [zipD]
@[simp] theorem zipD_length : ∀ (as bs : List D), (zipD as bs).length = min as.length bs.length
  | a :: as, b :: bs => by simp [zipD, zipD_length as bs]
  | [], bs => by simp [zipD]
  | a :: as, [] => by simp [zipD]
/-- the things of a list, frozen or not, and what keeps them -/
def lstAt (M : Mst) : D → Option (List D × (Mst → Prop))
  | .lst ds => some (ds, always)
  | .ref a => match M a with
    | some (.lst ds) => some (ds, holds a (.lst ds))
    | _ => none
  | _ => none
theorem lstAt_of {K : PySem.W.Frag} {G H : Hp} {p : Rho} {M : Mst} {s : L2.St} {d : D} {v : V} {ds : List D} {Sty : Mst → Prop} (S : Sim K G H p M s) (r : Rep K G d v) (h : lstAt M d = some (ds, Sty)) : Sty M ∧ ∃ a, v = .ref a ∧ ds.length ≤ sizeLine ∧
    ∀ G' H' p' M' s', Same G G' → Sim K G' H' p' M' s' → Sty M' → ∃ us, SqL K H' a us ∧ RepL K G' ds us := by
  unfold lstAt at h
  split at h
  · cases h
    obtain ⟨a, vs, rfl, g1, g2, g3⟩ := r
    exact ⟨trivial, a, rfl, by rw [← g2.length]; exact g3, fun G' H' p' M' s' e S' _ => ⟨vs, .inl (.inl (S'.same _ _ (e _ _ g1))), RepL.mono e _ _ g2⟩⟩
  · next a =>
    split at h
    · next ds' em =>
      cases h
      cases r
      obtain ⟨gn, vs, g1, g2, g3⟩ := S.mem _ _ em
      refine ⟨em, a, rfl, by rw [← g2.length]; exact g3, fun G' H' p' M' s' e S' st => ?_⟩
      obtain ⟨_, us, c1, c2, _⟩ := S'.mem _ _ st
      exact ⟨us, .inl (.inl c1), c2⟩
    · cases h
  · cases h
theorem get_lt {α : Type} {xs : List α} {i : Nat} (h : i < xs.length) : ∃ x, xs[i]? = some x := ⟨_, List.getElem?_eq_getElem h⟩
def qiEnum (qa : DTA) : DTI := fun DW p M R => qa DW p M fun ds M1 => match ds with
  | [x] => match lstAt M1 x with
    | some (es, Sty) => R (enumD 0 es) Sty M1
    | none => False
  | _ => False
def qiZip (qa : DTA) : DTI := fun DW p M R => qa DW p M fun ds M1 => match ds with
  | [x, y] => match lstAt M1 x, lstAt M1 y with
    | some (es, St1), some (fs, St2) => R (zipD es fs) (fun M => St1 M ∧ St2 M) M1
    | _, _ => False
  | _ => False
section
variable {X : Cx} {W : WX} {e e2 : Expr} {ta : TA} {qa : DTA} {p pos tpos : Pos} {elts : List Expr} {kk : Nat}
theorem qi_enum (hg : Gl X "enumerate") (hm : X.mg "enumerate" = none) (ha : QA X W [e] ta qa) (hs : starEach [e] X.env = [(false, eval e X.env)] := by rfl) :
    QI X W (.Tuple elts kk tpos) (.Call (.Name "enumerate" p) [e] [] pos) (iEnum X.K ta) (qiEnum qa) :=
  ⟨pi_enum hg hm ha.pe hs, fun DW G H p M s R R' hw S h k => ha.rf DW G H p M s _ _ hw S h fun G1 H1 M1 ds vs e1 S1 r1 h1 => by
    split at h1
    · next x =>
      obtain ⟨v, rfl, r2⟩ := repL1 r1
      split at h1
      · next es Sty el =>
        obtain ⟨hst, a, rfl, hlen, lk⟩ := lstAt_of S1 r2 el
        obtain ⟨us, u1, _⟩ := lk G1 H1 p M1 s (Same.refl _) S1 hst
        refine ⟨a, us, rfl, u1, k G1 H1 M1 _ _ _ e1 S1 ⟨fun G' H p M s i e S st hi => ?_, fun G' H p M s i x H' e S st y d hd => ?_, fun G' H p M s e S st => ?_⟩ (by rw [enumD_length]; exact hlen) h1⟩
        · obtain ⟨us, c1, c2⟩ := lk G' H p M s e S st
          rw [enumD_length, ← c2.length] at hi
          obtain ⟨x, hx⟩ := get_lt hi
          exact ⟨us, x, c1, hx⟩
        · obtain ⟨us, c1, c2⟩ := lk G' H p M s e S st
          obtain ⟨T, x', rfl, hT, rfl, y⟩ := y
          rw [enumD_get] at hd
          cases ed : es[i]? with
          | none => rw [ed] at hd; cases hd
          | some d' =>
            rw [ed] at hd
            simp only [Option.map_some, Option.some.injEq, Nat.zero_add] at hd
            subst hd
            obtain ⟨w, w1, w2⟩ := c2.get ed
            rw [y us c1] at w1; cases w1
            obtain ⟨e2, S2⟩ := S.made (o := .tup [.int (i : Nat), x']) hT
            exact ⟨_, e2, S2, T, _, rfl, upd_same, RepL.mono e2 _ _ (RepL.cons (d := .int (i : Nat)) rfl (RepL.cons w2 rfl)), sz1000 (by simp)⟩
        · obtain ⟨us, c1, c2⟩ := lk G' H p M s e S st
          exact ⟨us, c1, by rw [enumD_length, c2.length]; exact Nat.le_refl _⟩
      · exact h1.elim
    · exact h1.elim⟩
theorem qi_zip (hg : Gl X "zip") (hm : X.mg "zip" = none) (ha : QA X W [e, e2] ta qa)
    (hs : starEach [e, e2] X.env = (false, eval e X.env) :: starEach [e2] X.env := by rfl) (hpl : (backTo pos (starEach [e2] X.env)).any (·.1) = false := by rfl) :
    QI X W (.Tuple elts kk tpos) (.Call (.Name "zip" p) [e, e2] [] pos) (iZip X.K ta) (qiZip qa) :=
  ⟨pi_zip hg hm ha.pe hs hpl, fun DW G H p M s R R' hw S h k => ha.rf DW G H p M s _ _ hw S h fun G1 H1 M1 ds vs e1 S1 r1 h1 => by
    split at h1
    · next x y =>
      obtain ⟨v, u, rfl, r2, r3⟩ := repL2 r1
      split at h1
      · next es St1 fs St2 el1 el2 =>
        obtain ⟨hst1, a, rfl, hlen1, lk1⟩ := lstAt_of S1 r2 el1
        obtain ⟨hst2, b, rfl, hlen2, lk2⟩ := lstAt_of S1 r3 el2
        obtain ⟨us, u1, _⟩ := lk1 G1 H1 p M1 s (Same.refl _) S1 hst1
        obtain ⟨ws, w1, _⟩ := lk2 G1 H1 p M1 s (Same.refl _) S1 hst2
        refine ⟨a, b, us, ws, rfl, u1, w1, k G1 H1 M1 _ _ _ e1 S1 ⟨fun G' H p M s i e S st hi => ?_, fun G' H p M s i x H' e S st y d hd => ?_, fun G' H p M s e S st => ?_⟩ (by rw [zipD_length]; omega) h1⟩
        · obtain ⟨us, c1, c2⟩ := lk1 G' H p M s e S st.1
          obtain ⟨ws, d1, d2⟩ := lk2 G' H p M s e S st.2
          rw [zipD_length] at hi
          obtain ⟨x, hx⟩ := get_lt (xs := us) (i := i) (by rw [c2.length]; omega)
          obtain ⟨y, hy⟩ := get_lt (xs := ws) (i := i) (by rw [d2.length]; omega)
          exact ⟨us, ws, x, y, c1, d1, hx, hy⟩
        · obtain ⟨us, c1, c2⟩ := lk1 G' H p M s e S st.1
          obtain ⟨ws, d1, d2⟩ := lk2 G' H p M s e S st.2
          obtain ⟨T, x', y', rfl, hT, rfl, y1, y2⟩ := y
          rw [zipD_get] at hd
          split at hd
          · next d' d'' ed1 ed2 =>
            cases hd
            obtain ⟨w, w1, w2⟩ := c2.get ed1
            rw [y1 us c1] at w1; cases w1
            obtain ⟨w, w1, w3⟩ := d2.get ed2
            rw [y2 ws d1] at w1; cases w1
            obtain ⟨e2, S2⟩ := S.made (o := .tup [x', y']) hT
            exact ⟨_, e2, S2, T, _, rfl, upd_same, RepL.mono e2 _ _ (RepL.cons w2 (RepL.cons w3 rfl)), sz1000 (by simp)⟩
          · cases hd
        · obtain ⟨us, c1, c2⟩ := lk1 G' H p M s e S st.1
          obtain ⟨ws, d1, d2⟩ := lk2 G' H p M s e S st.2
          refine ⟨us, ws, c1, d1, ?_⟩
          rw [zipD_length, c2.length, d2.length]; omega
      · exact h1.elim
    · exact h1.elim⟩
end

/-! ### sorted: a list of whole numbers, a dict's keys -/
def intsL : List D → Option (List Int)
  | [] => some []
  | .int i :: ds => match intsL ds with
    | some is => some (i :: is)
    | none => none
  | _ :: _ => none
theorem intsL_eq : ∀ {ds : List D} {ns : List Int}, intsL ds = some ns → ds = ns.map .int
  | [], ns, h => by cases h; rfl
  | d :: ds, ns, h => by
    unfold intsL at h
    split at h
    · next e => cases e
    · next i ds' e =>
      cases e
      split at h
      · next is e => cases h; rw [intsL_eq e]; rfl
      · cases h
    · cases h
@[simp] theorem intsL_map : ∀ ns : List Int, intsL (ns.map D.int) = some ns
  | [] => rfl
  | n :: ns => by simp [intsL, intsL_map ns]
theorem repL_ints {K : PySem.W.Frag} {G : Hp} : ∀ {ns : List Int} {vs : List V}, RepL K G (ns.map D.int) vs → vs = ns.map V.int
  | [], _, h => by cases h; rfl
  | n :: ns, _, ⟨v, q, h1, h2, h3⟩ => by cases h1; cases h2; rw [repL_ints h3]; rfl
theorem repL_intsR {K : PySem.W.Frag} {G : Hp} : ∀ {ns : List Int}, RepL K G (ns.map D.int) (ns.map V.int)
  | [] => rfl
  | n :: ns => ⟨_, _, rfl, rfl, repL_intsR⟩
def intKeys : List Key → Option (List Int)
  | [] => some []
  | .inl i :: ks => match intKeys ks with
    | some is => some (i :: is)
    | none => none
  | _ :: _ => none
theorem intKeys_eq : ∀ {ks : List Key} {ns : List Int}, intKeys ks = some ns → ks = ns.map Sum.inl
  | [], ns, h => by cases h; rfl
  | d :: ds, ns, h => by
    unfold intKeys at h
    split at h
    · next e => cases e
    · next i ds' e =>
      cases e
      split at h
      · next is e => cases h; rw [intKeys_eq e]; rfl
      · cases h
    · cases h
@[simp] theorem intKeys_map : ∀ ns : List Int, intKeys (ns.map Sum.inl) = some ns
  | [] => rfl
  | n :: ns => by simp [intKeys, intKeys_map ns]
def dSorted (m : Bool) : DCa := fun ds M Q => match ds with
  | [x] => match res M x with
    | .lst es => match intsL es with
      | some ns => ∀ ns' : List Int, ns'.Perm ns → ns'.Pairwise (· ≤ ·) → newL m (ns'.map .int) M Q
      | none => False
    | .dct ks _ => match intKeys ks with
      | some ns => ns.length < 64 ∧ ∀ ns' : List Int, ns'.Perm ns → ns'.Pairwise (· ≤ ·) → newL m (ns'.map .int) M Q
      | none => False
    | _ => False
  | _ => False
def rSortD : List V → Hp → VK → Prop := fun xs H Q => ∃ (a : Addr) (kvs : List (Key × V)) (ks : List Int), xs = [.ref a] ∧ Rd H a (.dK kvs) ∧ kvs.map (·.1) = ks.map Sum.inl ∧ ks.length < 64 ∧
    ∀ (ys : List Int) (p : Addr), ys.Perm ks → ys.Pairwise (· ≤ ·) → H p = none → Q (.ref p) (upd H p (.lst (ys.map V.int)))
theorem c_sorted {X : Cx} (m : Bool) (hc : X.calm = true) : QCa X (.builtin "sorted") (fun xs H Q => rSortedI X.K xs H Q ∨ rSortD xs H Q) (dSorted m) := ⟨cr_sortedI.or (call_sortedDI hc), fun G H p M s ds vs Q Q' S r h k => by
  unfold dSorted at h
  split at h
  · next x =>
    obtain ⟨v, rfl, r1⟩ := repL1 r
    split at h
    · next es e1 =>
      obtain ⟨a, us, rfl, g1, g2, g3⟩ := as_lst S r1 e1
      split at h
      · next ns en =>
        have ee := intsL_eq en
        subst ee
        have eu := repL_ints g2
        subst eu
        refine .inl ⟨a, ns, rfl, .inl (.inl g1), fun ns' q hp hw hn => newL_ok S hn repL_intsR (by rw [List.length_map] at g3 ⊢; rw [hp.length_eq]; exact g3) (h ns' hp hw) k⟩
      · exact h.elim
    · next ks fs e1 =>
      obtain ⟨a, kvs, rfl, g1, g2, g3, g4, g5⟩ := as_dct S r1 e1
      split at h
      · next ns en =>
        have ee := intKeys_eq en
        subst ee
        refine .inr ⟨a, kvs, ns, rfl, g1, g2, h.1, fun ns' q hp hw hn => newL_ok S hn repL_intsR (sz1000 (by rw [List.length_map, hp.length_eq]; omega)) (h.2 ns' hp hw) k⟩
      · exact h.elim
    · exact h.elim
  · exact h.elim⟩
/-! ### set(xs) of a list of whole numbers, walked in order -/
section
variable {P : Program} {w : World} {A : Around} {E : Value → Shared → Prop} {s : Shared}
open PyProof.Rows in
set_option maxHeartbeats 3200000 in
theorem set_from_list {l : Addr} {items : Array Value} (ns : List Int) {Q : Value → Shared → Prop} (hh : A.handled = none) (hl : s.heap.IsList l items) (hit : IntsAre items.toList ns) (hb : ns.length + 1 < scanBound)
    (h : ∀ (h' : Heap) (tk c : Nat), SetR w h' s.heap.objs.size (fun j => decide (j ∈ ns)) c → c ≤ ns.length → (∀ b o, s.heap.get? b = some o → h'.get? b = some o) → Q (.ref s.heap.objs.size) { s with heap := h', toks := tk }) :
    wpAny (model P w) A (call (.type "set") [.ref l]) Q E s := by
  have hsz : items.size = ns.length := by have q := IntsAre.length hit; rw [Array.length_toList] at q; exact q
  obtain ⟨c, tl, hmro⟩ := F.called_set.mro
  have hmade := F.called_set.made
  have hsub := F.called_set.sub
  refine wpAny_call (codeAny_of_tree ?_)
  show wpAny _ _ (callAny (.type "set") _) _ _ _
  refine wpAny_pure ⟨Code.quiet_builtin _ (by decide +kernel), codeAny_builtin F.entry_type_call ?_⟩
  rw [Around.under_plain (weight_type_call_type "set" [.ref l] []) rfl]
  have h1 := F.called_set.notType
  have h2 := F.called_set.canCreate
  have hct := F.typeCall_set_1 (.ref l)
  repeat (any_goals (first | assumption | wp_step))
  refine codeAny_mono (code_set_led1 (.ref l) (E := E) (Q₁ := fun obj s₁ => obj = .ref s.heap.objs.size ∧ s₁ = { s with heap := s.heap.push ({ cls := .type "set", dict := none, data := .set #[] 0 (.fresh 0 0 (!w.params.followText "set-order")) } : Obj) }) ⟨rfl, rfl⟩) fun r s₁ hr => ?_
  rcases r with e | fl
  · exact hr
  cases fl with
  | ret obj =>
    obtain ⟨rfl, rfl⟩ := hr
    have hS : (s.heap.push ({ cls := .type "set", dict := none, data := .set #[] 0 (.fresh 0 0 (!w.params.followText "set-order")) } : Obj)).get? s.heap.objs.size = some ({ cls := .type "set", dict := none, data := .set #[] 0 (.fresh 0 0 (!w.params.followText "set-order")) } : Obj) := Heap.get?_push_size _ rfl
    have hT : Shared.TypeIs { s with heap := s.heap.push ({ cls := .type "set", dict := none, data := .set #[] 0 (.fresh 0 0 (!w.params.followText "set-order")) } : Obj) } (.ref s.heap.objs.size) "set" := ⟨_, hS, rfl⟩
    have hli := F.called_set.init.lookup
    have hbi := F.called_set.init.bind (.ref s.heap.objs.size)
    repeat (any_goals (first | assumption | wp_step))
    refine codeAny_mono (codeAny_call_builtin (R := wants (fun r s₂ => r = .none ∧ ∃ h' tk c, s₂ = { s with heap := h', toks := tk } ∧ SetR w h' s.heap.objs.size (fun j => decide (j ∈ ns)) c ∧ c ≤ ns.length ∧
        (∀ b o, s.heap.get? b = some o → h'.get? b = some o)) E) F.called_set.init.plain F.entry_set_init (check_set_init_1 hT ?_)) fun r₂ s₂ hr₂ => ?_
    · obtain ⟨⟨ocls, odict, odata, oslots⟩, hol, hcl, nl, hdl⟩ := hl
      simp only at hcl hdl
      subst hcl
      subst hdl
      have hol' : (s.heap.push ({ cls := .type "set", dict := none, data := .set #[] 0 (.fresh 0 0 (!w.params.followText "set-order")) } : Obj)).get? l = some { cls := .type "list", dict := odict, data := .seq items nl, slots := oslots } := Heap.get?_push_of_some _ hol
      have hsls := F.sub_list_set
      have hslf := F.sub_list_frozenset
      have hne : (Value.type "list" == Value.type "dict") = false := by decide
      have hl1 : (s.heap.push ({ cls := .type "set", dict := none, data := .set #[] 0 (.fresh 0 0 (!w.params.followText "set-order")) } : Obj)).IsList l items := ⟨_, hol', rfl, nl, rfl⟩
      unfold Builtin.«set.__init__» noKeywords Builtin.Frozenset.updateFrom
      generalize hPI : pyIter = PI
      wp_walk
      subst hPI
      refine wpAny_pyIter_list hl1 ?_
      refine wpAny_bind (wpAny_runValue ?_)
      have hlS : l < s.heap.objs.size := Heap.lt_size hol
      have hh3 : A.in1.in1.in1.handled = none := by simp [hh]
      have sz : (s.heap.push ({ cls := .type "set", dict := none, data := .set #[] 0 (.fresh 0 0 (!w.params.followText "set-order")) } : Obj)).objs.size = s.heap.objs.size + 1 := Heap.size_push ..
      have hneI : l ≠ (s.heap.push ({ cls := .type "set", dict := none, data := .set #[] 0 (.fresh 0 0 (!w.params.followText "set-order")) } : Obj)).objs.size := by rw [sz]; exact Nat.ne_of_lt (Nat.lt_succ_of_lt hlS)
      have hSf : s.heap.objs.size ∉ [(s.heap.push ({ cls := .type "set", dict := none, data := .set #[] 0 (.fresh 0 0 (!w.params.followText "set-order")) } : Obj)).objs.size, l] := by
        rw [sz]; simp only [List.mem_cons, List.not_mem_nil, or_false, not_or]
        exact ⟨Nat.ne_of_lt (Nat.lt_succ_self _), Nat.ne_of_gt hlS⟩
      refine set_update_ints ((Walks.list hh3 _ l hneI items).toS) s.heap.objs.size hSf ns hsz hb (fun i v hv => ?_) (items.size - 0) 0 _ (by omega) (Nat.zero_le _) ⟨⟨_, Heap.get?_push_size _ rfl, rfl, rfl⟩, hl1.push _⟩ ⟨0, Nat.le_refl 0, ?_⟩ fun s' c' hm hc' hS' => ?_
      · have hi : i < ns.length := by rw [← hsz]; exact (Array.getElem?_eq_some_iff.mp hv).1
        obtain ⟨t, e⟩ := IntsAre.int_at hit i v (by rw [Array.getElem?_toList]; exact hv)
        refine ⟨ns[i], t, List.getElem?_eq_getElem hi, ?_⟩
        rw [e, List.getD_eq_getElem?_getD, List.getElem?_eq_getElem hi] <;> rfl
      · exact setR_new_at (Heap.get?_push_of_some _ hS)
      · obtain ⟨h', g2, d', tk', os'⟩ := s'
        have eg : g2 = s.gens := hm.gens
        have ed : d' = s.drawn := hm.drawn
        have eo : os' = s.os := hm.os
        subst eg
        subst ed
        subst eo
        show wpAny _ _ _ _ _ _
        refine wpAny_pure ?_
        show wpAny _ _ (ret Value.none) _ _ _
        rw [hsz] at hc'
        refine wpAny_pure ⟨rfl, h', tk', c', rfl, hS', hc', fun b o e => ?_⟩
        have hb0 : b < s.heap.objs.size := Heap.lt_size e
        refine hm.heap b o ?_ (Heap.get?_push_of_some _ (Heap.get?_push_of_some _ e))
        rw [sz]
        simp only [List.mem_cons, List.not_mem_nil, or_false, not_or]
        exact ⟨Nat.ne_of_lt hb0, Nat.ne_of_lt (Nat.lt_succ_of_lt hb0)⟩
    · rcases r₂ with e | fl₂
      · exact hr₂
      cases fl₂ with
      | ret r =>
        obtain ⟨rfl, h', tk, c', rfl, hS', hc', hk'⟩ := hr₂
        repeat (any_goals (first | assumption | wp_step))
        exact h _ _ _ hS' hc' hk'
      | _ => exact hr₂.elim
  | _ => exact hr.elim
end
/-- set(xs), fewer than 64 whole numbers -/
def rSetL (K : PySem.W.Frag) (w : World) : List V → Hp → VK → Prop := fun vs H Q => ∃ (a : Addr) (ns : List Int), vs = [.ref a] ∧ SqL K H a (ns.map V.int) ∧ ns.length < 64 ∧ ∀ p c, H p = none → c ≤ ns.length → Q (.ref p) (upd H p (SetO w p (fun j => decide (j ∈ ns)) c))
theorem call_setL {X : Cx} (hc : X.calm = true) : CallR X (.type "set") (rSetL X.K X.w) := by
  intro pins s σ H vs us Q I r h
  obtain ⟨a, ns, rfl, hs, h64, q⟩ := h
  rw [Vals.ref1 r]
  obtain ⟨its, rv, p, hz⟩ := I.list hs
  refine set_from_list (P := X.prog) (w := X.w) ns (I.ok.hd hc) p.isList (by simpa using rv.ints) (by unfold scanBound; omega) fun h' tk c R hcn hk => ?_
  exact ⟨.ref s.heap.objs.size, upd H s.heap.objs.size (SetO X.w s.heap.objs.size (fun j => decide (j ∈ ns)) c), I.laid (t' := tk) hk (Nat.le_refl _) (setO_new R), rfl, q _ _ (I.hok.fresh (Nat.le_refl _)) hcn⟩
/-- sorted(set(xs)) -/
def qSortSet (m : Bool) (qa : DTA) : DTE := fun DW p M Q => qa DW p M fun ds M1 => match ds with
  | [x] => match res M1 x with
    | .lst es => match intsL es with
      | some ns => ns.length < 64 ∧ ∀ ns' : List Int, ns'.Pairwise (· < ·) → (∀ k, k ∈ ns' ↔ k ∈ ns) → newL m (ns'.map .int) M1 Q
      | none => False
    | _ => False
  | _ => False
theorem sim_laid {K : PySem.W.Frag} {G H : Hp} {p : Rho} {M : Mst} {s : L2.St} {a : Addr} {o : HO} (S : Sim K G H p M s) (hn : H a = none) : Sim K G (upd H a o) p M s := by
  refine ⟨fun b u q => ?_, S.env, S.len, fun b u q => ⟨(S.mem b u q).1, (S.mem b u q).2.mono (Same.refl G) ?_⟩⟩
  · rw [upd_ne (ne_of_none q (S.same.free hn))]; exact S.same b u q
  · obtain ⟨o', ho⟩ := (S.mem b u q).2.there
    exact upd_ne (ne_of_none ho hn)
theorem q_sortSet {X : Cx} {W : WX} {e : Expr} {t : TA} {qa : DTA} {p p2 pos2 pos : Pos} (m : Bool) (hc : X.calm = true) (hg : Gl X "sorted") (hm : X.mg "sorted" = none) (hg2 : Gl X "set") (hm2 : X.mg "set" = none) (ha : QA X W [e] t qa)
    (he : starEach [.Call (.Name "set" p2) [e] [] pos2] X.env = (false, eval (.Call (.Name "set" p2) [e] [] pos2) X.env) :: starEach [] X.env := by rfl) (he2 : starEach [e] X.env = (false, eval e X.env) :: starEach [] X.env := by rfl) :
    QE X W (.Call (.Name "sorted" p) [.Call (.Name "set" p2) [e] [] pos2] [] pos) (tCB (rSortedSet X.w) (tCons (tCB (rSetL X.K X.w) t) tNil)) (qSortSet m qa) :=
  ⟨pe_callB (cr_sortedSet hc) hg hm (by decide +kernel) (pa_cons (pe_callTy (call_setL hc) hg2 hm2 (by decide +kernel) ha.pe (he := he2)) pa_nil) (he := he),
    fun DW G H p M s Q Q' hw S h k => ha.rf DW G H p M s _ _ hw S h fun G1 H1 M1 ds vs e1 S1 r1 h1 => by
      split at h1
      · next x =>
        obtain ⟨v, rfl, r2⟩ := repL1 r1
        split at h1
        · next es ee =>
          obtain ⟨a, us, rfl, g1, g2, g3⟩ := as_lst S1 r2 ee
          split at h1
          · next ns en =>
            have e3 := intsL_eq en
            subst e3
            have eu := repL_ints g2
            subst eu
            refine ⟨a, ns, rfl, .inl (.inl g1), h1.1, fun q c hn hcn => ⟨q, _, c, rfl, upd_same, by omega, fun ns' q2 hw' hm' hl' hn2 => ?_⟩⟩
            refine newL_ok (sim_laid S1 hn) hn2 repL_intsR (sz1000 (by rw [List.length_map]; have := h1.1; omega)) (h1.2 ns' hw' fun k => by rw [hm' k]; simp) fun G' H' M' d w e2 => k G' H' M' d w (e1.trans e2)
          · exact h1.elim
        · exact h1.elim
      · exact h1.elim⟩
end DL

/-! DLi: a law's top, its end; the numbers that every law takes. -/
namespace DL
open PySem L2

/-- a def of the module: where it stands, what it is -/
structure FnAt (K : PySem.W.Frag) (mg : Str → Option Value) (x : Str) (st : Stmt) (ps : List Str) where
  f : Addr
  fd : FuncData
  g : mg x = some (.ref f)
  F : Fun K x x st f fd
  b : Binds K fd ps []
def spLaw : DSp := fun ds M Q _ => ∃ ns : List Int, ds = [.scr ns] ∧ ns.length ≤ 63 ∧ (∀ a, M a = none) ∧ ∀ M', Q (.bl true) M'
theorem walk {l : PySem.W.OpenLaw} {q : Program} {loose : List Str} {XP : (Str → Option Value) → Heap → Prop} {YP : World → Heap → Prop} {d : DefRec} {K : Params → PySem.W.Frag} {k : Nat} (hk : k ≤ 200) (hn : l.most = some 63) (hdf : d.params.defaults = [])
    (hY : ∀ (w : World) (h : Heap), YP w h → (K w.params).In h)
    (F : ∀ (w : World) (mg : Str → Option Value) (fa : Addr) (h : Heap), (K w.params).In h → h.Ns mainGlobals mg → mg d.name = some (.ref fa) →
      ∃ fd : FuncData, (∀ (s : Shared) (u : Value), BindsTo s fd ⟨[u], []⟩ [("_law_script", u)]) ∧ ∀ base : Heap, (K w.params).In base → base.Ns mainGlobals mg →
        FnOk l.prog w (K w.params) mg base (L2.CX l.prog w) k fa fd ["_law_script"] (toSp (K w.params) spLaw)) :
    PySem.W.WalkO q loose XP YP l.row.toRowW d [] (fun f vs => PySem.call f vs) :=
  L2.walk_of (n := 63) (k := k) (x := "_law_script") (CX := fun w => L2.CX l.prog w) (sp := fun w => toSp (K w.params) spLaw) hn (by decide) hdf
    ⟨rfl, by show 1 + 300 + 3 * k + 5 < 1000; omega, by show 4 + 16 * k + 200 < 9900; omega⟩ hY F
    (fun w H a ns hl _ hS => ⟨H, [.scr ns], fun _ => none, fun d _ => d = .bl true, fun _ _ => False, Same.refl _, RepL.cons ⟨a, rfl, hS, hl⟩ rfl, fun _ _ h => (by cases h), ⟨ns, rfl, hl, fun _ => rfl, fun _ => rfl⟩,
      fun G' H' v d M' _ _ r _ e => (by subst e; exact r), fun _ _ _ _ _ _ _ _ _ _ h => h.elim⟩) fun w H s e s' z => by
    obtain ⟨a, B, H', cls, d, _, _, _, _, _, _, _, h⟩ := z
    exact h
end DL

/-! DLj: readings opened by simp; the numbers that every law takes out of its script. -/
namespace DL
open PySem L2
abbrev retE (Q : DK) : DEnds := { nx := fun _ M => Q .non M, rt := Q }
section
variable {M : Mst} {Q : DK} {a : Addr} {ds : List D} {i : Int} {d : D}
theorem atI_0 {α : Type} {x : α} {xs : List α} : atI (x :: xs) 0 = some x := by
  unfold atI ixN; simp
theorem atI_1 {α : Type} {x y : α} {xs : List α} : atI (x :: y :: xs) 1 = some y := by
  unfold atI ixN
  have : (1 : Int) < ((x :: y :: xs).length : Int) := by simp; omega
  simp only [this]; rfl
theorem atI_n {α : Type} {xs : List α} {n : Nat} : atI xs (n : Int) = xs[n]? := by
  unfold atI ixN
  by_cases h : n < xs.length
  · simp [h]
  · have : ¬ ((n : Int) < (xs.length : Int)) := by omega
    simp [this, h]
theorem atI_some {α : Type} {xs : List α} {i : Int} (h0 : 0 ≤ i) (h1 : i < xs.length) : ∃ x, atI xs i = some x ∧ x ∈ xs := by
  obtain ⟨n, rfl⟩ : ∃ n : Nat, i = n := ⟨i.toNat, by omega⟩
  rw [atI_n]
  have : n < xs.length := by omega
  exact ⟨_, List.getElem?_eq_getElem this, List.getElem_mem this⟩
theorem ix_l (h : atI ds i = some d) : dIx (.lst ds) (.int i) M Q = Q d M := by simp [dIx, dgetD, h]
theorem ix_t (h : atI ds i = some d) : dIx (.tup ds) (.int i) M Q = Q d M := by simp [dIx, dgetD, h]
theorem ix_k (h : atI ds i = some d) : dIx (.ktp ds) (.int i) M Q = Q d M := by simp [dIx, dgetD, h]
theorem ix_s {ns : List Int} {n : Int} (h : atI ns i = some n) : dIx (.scr ns) (.int i) M Q = Q (.int n) M := by simp [dIx, dgetD, h]
theorem ix_r (hm : M a = some (.lst ds)) (h : atI ds i = some d) : dIx (.ref a) (.int i) M Q = Q d M := by simp [dIx, dgetD, res, hm, h]
theorem ix_d {kvs : List (Key × D)} {y : D} {k : Key} (hm : M a = some (.dK kvs)) (hk : keyD y = some k) (h : valD kvs k = some d) : dIx (.ref a) y M Q = Q d M := by simp [dIx, dgetD, hm, hk, h]
theorem in_d {kvs : List (Key × D)} {y : D} {k : Key} {neg : Bool} (hm : M a = some (.dK kvs)) (hk : keyD y = some k) : dIn neg y (.ref a) M Q = Q (.bl (xor neg (valD kvs k).isSome)) M := by simp [dIn, dgetD, hm, hk]
theorem set_l {R : Mst → Prop} {j : Nat} (hm : M a = some (.lst ds)) (h : ixN ds.length i = some j) : dSet (.ref a) (.int i) d M R = R (put M a (.lst (ds.set j d))) := by simp [dSet, hm, h]
theorem set_d {R : Mst → Prop} {kvs : List (Key × D)} {y : D} {k : Key} (hm : M a = some (.dK kvs)) (hk : keyD y = some k) : dSet (.ref a) y d M R = (kvs.length < 100000 ∧ R (put M a (.dK (putD kvs k d)))) := by simp [dSet, hm, hk]
theorem len_l : dLen [.lst ds] M Q = Q (.int ds.length) M := by simp [dLen]
theorem len_s {ns : List Int} : dLen [.scr ns] M Q = Q (.int ns.length) M := by simp [dLen]
theorem len_r (hm : M a = some (.lst ds)) : dLen [.ref a] M Q = Q (.int ds.length) M := by simp [dLen, res, hm]
@[simp] theorem dInt_i {C : Int → Int → Prop} {g : Int → Int → Int} {i j : Int} : dInt C g (.int i) (.int j) M Q = (C i j ∧ Q (.int (g i j)) M) := rfl
@[simp] theorem dInt0_i {g : Int → Int → Int} {i j : Int} : dInt0 g (.int i) (.int j) M Q = Q (.int (g i j)) M := rfl
@[simp] theorem dCmpI_i {g : Int → Int → Bool} {i j : Int} : dCmpI g (.int i) (.int j) M Q = Q (.bl (g i j)) M := rfl
@[simp] theorem dAdd_i {m : Bool} {i j : Int} : dAdd m (.int i) (.int j) M Q = Q (.int (i + j)) M := rfl
@[simp] theorem dAdd_l {m : Bool} {es fs : List D} : dAdd m (.lst es) (.lst fs) M Q = (es.length + fs.length ≤ 100000 ∧ newL m (es ++ fs) M Q) := rfl
@[simp] theorem dAbs_i {i : Int} : dAbs [.int i] M Q = Q (.int (if i < 0 then -i else i)) M := rfl
@[simp] theorem dMax2_i {i j : Int} : dMax2 [.int i, .int j] M Q = Q (.int (if j > i then j else i)) M := rfl
@[simp] theorem dMin2_i {i j : Int} : dMin2 [.int i, .int j] M Q = Q (.int (if j < i then j else i)) M := rfl
@[simp] theorem len_l' : dLen [.lst ds] M Q = Q (.int ds.length) M := by simp [dLen]
@[simp] theorem len_s' {ns : List Int} : dLen [.scr ns] M Q = Q (.int ns.length) M := by simp [dLen]
@[simp] theorem gSub_eq {qo qi : DTE} {d : D} {DW : DWt} {p : Rho} {R : Rho → Mst → Prop} : gSubD qo qi d DW p M R = qo DW p M fun o M1 => qi DW p M1 fun i M2 => dSet o i d M2 fun M3 => R p M3 := rfl
end

section
variable {X : Cx} {W : WX} {pos : Pos}
theorem qs_setN (i : Nat) {x : Str} {e : Expr} {te : TE} {qe : DTE} {pos' : Pos} (hN : X.N.Nodup) (he : QE X W e te qe) (hi : X.N[i]? = some x := by rfl) (hx : Loc X.env.scope x := by first | exact .inl rfl | exact .inr rfl)
    (hs : swapsWith e (some (.Name x pos')) pos.line X.env = pure false := by rfl) (hf : X.fn x = true ∨ X.env.scope.names.lookup x = some .local := by first | exact .inl rfl | exact .inr rfl) :
    QS X W (.Assign [.Name x pos'] e pos) (tAsg te (gName i)) (qAsg qe (gNameD i)) := qs_set (ps_set hN hi hx he.pe hs hf) he.rf
theorem qs_augN (i : Nat) {x : Str} {e : Expr} {te : TE} {qe : DTE} {pos' : Pos} (hN : X.N.Nodup) (he : QE X W e te qe) (hi : X.N[i]? = some x := by rfl) (hx : Loc X.env.scope x := by first | exact .inl rfl | exact .inr rfl)
    (hf : X.fn x = true ∨ X.env.scope.names.lookup x = some .local := by first | exact .inl rfl | exact .inr rfl) : QS X W (.AugAssign (.Name x pos') .Add e pos) (tAug i te rAugX) (qAug i qe dAug) :=
  qs_augX (ps_aug hN hi hx he.pe ip_any hf) he.rf ref_aug
theorem qs_parN (i j : Nat) {x y : Str} {a b : Expr} {ta : TA} {qa : DTA} {px py pt : Pos} {kt k2 pt2} (hc : X.calm = true) (hN : X.N.Nodup) (ha : QA X W [a, b] ta qa) (hi : X.N[i]? = some x := by rfl) (hj : X.N[j]? = some y := by rfl) (hij : i ≠ j := by decide)
    (hx : X.env.scope.names.lookup x = some .local := by rfl) (hy : X.env.scope.names.lookup y = some .local := by rfl)
    (hw : swappedStores [.Tuple [.Name x px, .Name y py] kt pt] (.Tuple [a, b] k2 pt2) X.env = pure (some [x, y]) := by rfl)
    (hs : swapsWithSole [.Tuple [.Name x px, .Name y py] kt pt] (.Tuple [a, b] k2 pt2) pos.line X.env = pure false := by rfl) :
    QS X W (.Assign [.Tuple [.Name x px, .Name y py] kt pt] (.Tuple [a, b] k2 pt2) pos) (tPar i j ta) (qPar i j qa) := qs_par (ps_par hc hN hi hj hij hx hy ha.pe hw hs) ha.rf
theorem qs_par3N (i j l : Nat) {x y z : Str} {a b c : Expr} {ta : TA} {qa : DTA} {px py pz pt : Pos} {kt k2 pt2} (hc : X.calm = true) (hN : X.N.Nodup) (ha : QA X W [a, b, c] ta qa) (hi : X.N[i]? = some x := by rfl) (hj : X.N[j]? = some y := by rfl) (hl : X.N[l]? = some z := by rfl)
    (hij : i ≠ j := by decide) (hil : i ≠ l := by decide) (hjl : j ≠ l := by decide)
    (hx : X.env.scope.names.lookup x = some .local := by rfl) (hy : X.env.scope.names.lookup y = some .local := by rfl) (hz : X.env.scope.names.lookup z = some .local := by rfl)
    (hw : swappedStores [.Tuple [.Name x px, .Name y py, .Name z pz] kt pt] (.Tuple [a, b, c] k2 pt2) X.env = pure (some [x, y, z]) := by rfl)
    (hs : swapsWithSole [.Tuple [.Name x px, .Name y py, .Name z pz] kt pt] (.Tuple [a, b, c] k2 pt2) pos.line X.env = pure false := by rfl) :
    QS X W (.Assign [.Tuple [.Name x px, .Name y py, .Name z pz] kt pt] (.Tuple [a, b, c] k2 pt2) pos) (tPar3 i j l ta) (qPar3 i j l qa) := qs_par3 (ps_par3 hc hN hi hj hl hij hil hjl hx hy hz ha.pe hw hs) ha.rf
theorem qg_nm (i : Nat) {x : Str} {ix : List Nat} (hN : X.N.Nodup) (hi : X.N[i]? = some x := by rfl) (hx : Loc X.env.scope x := by first | exact .inl rfl | exact .inr rfl)
    (hf : X.fn x = true ∨ X.env.scope.names.lookup x = some .local := by first | exact .inl rfl | exact .inr rfl) (hm : i ∈ ix := by decide) : QGi X W ix (.Name x pos) (gName i) (gNameD i) := qg_name (pg_name hN hi hx hf) hm
end
/-! ### what is no longer asked of the store -/
def Sub (M M' : Mst) : Prop := ∀ a o, M a = some o → M' a = some o
theorem Sub.refl (M : Mst) : Sub M M := fun _ _ h => h
theorem Sub.trans {M M1 M2 : Mst} (h : Sub M M1) (g : Sub M1 M2) : Sub M M2 := fun a o e => g a o (h a o e)
theorem Sub.put {M M' : Mst} {a : Addr} {o : MO} (h : Sub M M') (hn : M a = none) : Sub M (put M' a o) := fun b u e => by
  rw [put_ne (fun z => by rw [z, hn] at e; cases e)]; exact h b u e
def upSp (p : DSp) : DSp := fun ds M Q E => ∃ Q0 E0, p ds M Q0 E0 ∧ (∀ d M' M'', Sub M'' M' → Q0 d M'' → Q d M') ∧ ∀ x M' M'', Sub M'' M' → E0 x M'' → E x M'
theorem imp_up {K : PySem.W.Frag} {p : DSp} {vs : List V} {H : Hp} {Q : VK} {E : XK} (h : toSp K p vs H Q E) : toSp K (upSp p) vs H Q E := by
  obtain ⟨G, ds, M, Qd, Ed, e, r, hm, hp, kq, ke⟩ := h
  have ok : ∀ {G' H' M' M''}, Sub M'' M' → MemOk K G' H' M' → MemOk K G' H' M'' := fun hs hm a o e => hm a o (hs a o e)
  exact ⟨G, ds, M, fun d M' => ∃ M'', Sub M'' M' ∧ Qd d M'', fun x M' => ∃ M'', Sub M'' M' ∧ Ed x M'', e, r, hm, ⟨Qd, Ed, hp, fun d M' M'' hs q => ⟨M'', hs, q⟩, fun x M' M'' hs q => ⟨M'', hs, q⟩⟩,
    fun G' H' v d M' e1 e2 r1 hm1 ⟨M'', hs, q⟩ => kq G' H' v d M'' e1 e2 r1 (ok hs hm1) q, fun G' H' x cls dx M' e1 e2 r1 hm1 ⟨M'', hs, q⟩ => ke G' H' x cls dx M'' e1 e2 r1 (ok hs hm1) q⟩
/-! ### comprehensions whose inner parts hang on the block -/
def canE (K : PySem.W.Frag) (W : WX) (q : DTE) : TE := fun s H Q' => ∃ DW G p M Q, WLink K G DW W ∧ Sim K G H p M s ∧ q DW p M Q ∧ ∀ G' H' M' d v, Same G G' → Sim K G' H' p M' s → Rep K G' d v → Q d M' → Q' v H'
def canT (K : PySem.W.Frag) (W : WX) (q : DTT) : TT := fun s H Q' => ∃ DW G p M Q, WLink K G DW W ∧ Sim K G H p M s ∧ q DW p M Q ∧ ∀ G' H' M' b, Same G G' → Sim K G' H' p M' s → Q b M' → Q' b H'
def canG (K : PySem.W.Frag) (W : WX) (ix : List Nat) (q : DTG) : TG := fun v s H Q' => ∃ DW G p M d Q, WLink K G DW W ∧ Sim K G H p M s ∧ Rep K G d v ∧ q d DW p M Q ∧ ∀ G' H' p' M' s', Same G G' → Sim K G' H' p' M' s' → Only ix s s' → Q p' M' → Q' s' H'
section
variable {X : Cx} {W : WX} {elt tg iter : Expr} {ifs : List Expr} {scope : Scope} {own : List (Str × Nat)} {pos : Pos} {wi : TI} {qi : DTI} {qg : DTG} {qt : DTT} {qe : DTE}
theorem QE.can {e : Expr} (h : ∃ t, QE X W e t qe) : QE X W e (canE X.K W qe) qe := by
  obtain ⟨t, h⟩ := h
  exact ⟨⟨fun pins s σ H Q I ⟨DW, G, p, M, Qd, hw, S, hq, k⟩ => h.pe.run pins s σ H Q I (h.rf DW G H p M σ Qd Q hw S hq k)⟩, fun DW G H p M s Q Q' hw S hq k => ⟨DW, G, p, M, Q, hw, S, hq, k⟩⟩
theorem QTs.can {es : List Expr} (h : ∃ t, QTs X W es t qt) : QTs X W es (canT X.K W qt) qt := by
  obtain ⟨t, h⟩ := h
  exact ⟨⟨fun pins s σ H Q I ⟨DW, G, p, M, Qd, hw, S, hq, k⟩ => h.pe.run pins s σ H Q I (h.rf DW G H p M σ Qd Q hw S hq k)⟩, fun DW G H p M s Q Q' hw S hq k => ⟨DW, G, p, M, Q, hw, S, hq, k⟩⟩
theorem QGi.can {ix : List Nat} {e : Expr} (h : ∃ t, QGi X W ix e t qg) : QGi X W ix e (canG X.K W ix qg) qg := by
  obtain ⟨t, h⟩ := h
  exact ⟨⟨fun pins s σ H v u Q I r ⟨DW, G, p, M, d, Qd, hw, S, rd, hq, k⟩ => h.pe.run pins s σ H v u Q I r (h.rf DW G H p M σ d v Qd Q hw S rd hq k)⟩, fun DW G H p M s d v Q Q' hw S rd hq k => ⟨DW, G, p, M, d, Q, hw, S, rd, hq, k⟩⟩
theorem q_lcX (m : Bool) (hc : X.calm = true) (hN : X.N.Nodup) (hi : QI X W tg iter wi qi) (ok : BlkOk X.N X.env.scope scope own)
    (hg : ∀ (s : Shared) (H : Hp) (C : Addr) (cl : List (Str × Addr)) (fp : List Addr), ∃ t, QGi (X.blk s H scope (compEnvC scope cl C X.env) fp) W0 (own.map (·.2)) tg t qg)
    (ht : ∀ (s : Shared) (H : Hp) (C : Addr) (cl : List (Str × Addr)) (fp : List Addr), ∃ t, QTs (X.blk s H scope (compEnvC scope cl C X.env) fp) W0 ifs t qt)
    (he : ∀ (s : Shared) (H : Hp) (C : Addr) (cl : List (Str × Addr)) (fp : List Addr), ∃ t, QE (X.blk s H scope (compEnvC scope cl C X.env) fp) W0 elt t qe) (hs : ∀ x, foldedSetIterable iter X.env x = pure x := by intro _; rfl) :
    QE X W (.ListComp elt [⟨tg, iter, ifs, 0⟩] scope pos) (tLc wi (canG X.K W0 (own.map (·.2)) qg) (canT X.K W0 qt) (canE X.K W0 qe) (own.map (·.2))) (qLc m qi qg qt qe (own.map (·.2))) :=
  q_lc m hc hN hi ok (fun s H C cl fp => QGi.can (hg s H C cl fp)) (fun s H C cl fp => QTs.can (ht s H C cl fp)) (fun s H C cl fp => QE.can (he s H C cl fp)) hs
theorem qs_setLcX (m : Bool) (i : Nat) {y : Str} {py spos : Pos} (hc : X.calm = true) (hN : X.N.Nodup) (hi : QI X W tg iter wi qi) (ok : BlkOk X.N X.env.scope scope own)
    (hg : ∀ (s : Shared) (H : Hp) (C : Addr) (cl : List (Str × Addr)) (fp : List Addr), ∃ t, QGi (X.blk s H scope (compEnvC scope cl C X.env) fp) W0 (own.map (·.2)) tg t qg)
    (ht : ∀ (s : Shared) (H : Hp) (C : Addr) (cl : List (Str × Addr)) (fp : List Addr), ∃ t, QTs (X.blk s H scope (compEnvC scope cl C X.env) fp) W0 ifs t qt)
    (he : ∀ (s : Shared) (H : Hp) (C : Addr) (cl : List (Str × Addr)) (fp : List Addr), ∃ t, QE (X.blk s H scope (compEnvC scope cl C X.env) fp) W0 elt t qe)
    (hy : X.N[i]? = some y := by rfl) (hyl : X.env.scope.names.lookup y = some .local := by rfl)
    (hsw : swapsWith (.ListComp elt [⟨tg, iter, ifs, 0⟩] scope pos) (some (.Name y py)) spos.line X.env = pure true := by exact sw_true rfl rfl rfl (by decide +kernel)) (hs : ∀ x, foldedSetIterable iter X.env x = pure x := by intro _; rfl) :
    QS X W (.Assign [.Name y py] (.ListComp elt [⟨tg, iter, ifs, 0⟩] scope pos) spos) (tAsg (tLc wi (canG X.K W0 (own.map (·.2)) qg) (canT X.K W0 qt) (canE X.K W0 qe) (own.map (·.2))) (gName i)) (qAsg (qLc m qi qg qt qe (own.map (·.2))) (gNameD i)) :=
  qs_setLc m hc hN hy hyl hsw hi ok (fun s H C cl fp => QGi.can (hg s H C cl fp)) (fun s H C cl fp => QTs.can (ht s H C cl fp)) (fun s H C cl fp => QE.can (he s H C cl fp)) hs
end
/-! ### the bag -/
def spTakeL : DSp := fun ds M Q _ => ∃ (b : Addr) (g m n : Int), ds = [.ref b, .int n] ∧ M b = some (.lst [.int g, .int m]) ∧ 0 ≤ g ∧ 0 ≤ m ∧ m < 2147483648 ∧ 0 < n ∧ n < 1073741824 ∧
  ∀ g' m' r : Int, 0 ≤ g' → 0 ≤ m' → m' < 2147483648 → 0 ≤ r → r < n → Q (.int r) (put M b (.lst [.int g', .int m']))
def spTake : DSp := fun ds M Q _ => ∃ (b : Addr) (n : Int), ds = [.ref b, .int n] ∧ M b = some .bag ∧ 0 < n ∧ n < 1073741824 ∧ ∀ r : Int, 0 ≤ r → r < n → Q (.int r) M
def spBagL : DSp := fun ds M Q _ => ∃ (ns : List Int) (i : Int), ds = [.scr ns, .int i] ∧ 0 ≤ i ∧ i < 10000 ∧ ∀ (p : Addr) (g m : Int), M p = none → 0 ≤ g → 0 ≤ m → m < 2147483648 → Q (.ref p) (put M p (.lst [.int g, .int m]))
def spBag : DSp := fun ds M Q _ => ∃ (ns : List Int) (i : Int), ds = [.scr ns, .int i] ∧ 0 ≤ i ∧ i < 10000 ∧ ∀ p : Addr, M p = none → Q (.ref p) (put M p .bag)
theorem cpow_small {i : Int} {j : Nat} (h0 : 0 ≤ i) (h1 : i < 18446744073709551616) (hj : j ≤ 1000000) : CPow i (j : Int) := by
  refine ⟨by omega, by omega, ?_⟩
  have e : (2 : Nat) ^ 64 = 18446744073709551616 := by decide
  omega
theorem mem_bag {K : PySem.W.Frag} {G H : Hp} {M : Mst} {b : Addr} {g m : Int} (hm : MemOk K G H M) (h : M b = some (.lst [.int g, .int m])) (h0 : 0 ≤ g) (h1 : 0 ≤ m) (h2 : m < 2147483648) : MemOk K G H (put M b .bag) := fun a o e => by
  by_cases z : a = b
  · subst z
    rw [put_same] at e; cases e
    obtain ⟨gn, vs, q1, ⟨v, r, rfl, q2, ⟨u, r2, rfl, q3, q4⟩⟩, _⟩ := hm _ _ h
    cases q2; cases q3; cases q4
    exact ⟨gn, g, m, q1, h0, h1, h2⟩
  · rw [put_ne z] at e; exact hm a o e
theorem bag_mem {K : PySem.W.Frag} {G H : Hp} {M : Mst} {b : Addr} (hm : MemOk K G H M) (h : M b = some .bag) : ∃ g m : Int, 0 ≤ g ∧ 0 ≤ m ∧ m < 2147483648 ∧ MemOk K G H (put M b (.lst [.int g, .int m])) := by
  obtain ⟨gn, g, m, q1, q2, q3, q4⟩ := hm _ _ h
  refine ⟨g, m, q2, q3, q4, fun a o e => ?_⟩
  by_cases z : a = b
  · subst z
    rw [put_same] at e; cases e
    exact ⟨gn, _, q1, ⟨_, _, rfl, rfl, _, _, rfl, rfl, rfl⟩, sz1000 (by simp)⟩
  · rw [put_ne z] at e; exact hm a o e
theorem imp_take {K : PySem.W.Frag} {vs : List V} {H : Hp} {Q : VK} {E : XK} (h : toSp K spTake vs H Q E) : toSp K spTakeL vs H Q E := by
  obtain ⟨G, ds, M, Qd, Ed, e, r, hm, ⟨b, n, rfl, hb, h0, h1, k⟩, kq, ke⟩ := h
  obtain ⟨g, m, g1, g2, g3, hm'⟩ := bag_mem hm hb
  refine ⟨G, _, _, fun d M' => ∃ g' m' : Int, M' b = some (.lst [.int g', .int m']) ∧ 0 ≤ g' ∧ 0 ≤ m' ∧ m' < 2147483648 ∧ Qd d (put M' b .bag), Ed, e, r, hm', ⟨b, g, m, n, rfl, put_same, g1, g2, g3, h0, h1, fun g' m' r a1 a2 a3 a4 a5 => ?_⟩, fun G' H' v d M' e1 e2 r1 hm1 q => ?_, fun G' H' x cls dx M' e1 e2 r1 hm1 q => ke G' H' x cls dx M' e1 e2 r1 hm1 q⟩
  · refine ⟨g', m', put_same, a1, a2, a3, ?_⟩
    rw [put_put, put_put, put_id hb]
    exact k r a4 a5
  · obtain ⟨g', m', q0, q1, q2, q3, q4⟩ := q
    exact kq G' H' v d _ e1 e2 r1 (mem_bag hm1 q0 q1 q2 q3) q4
theorem imp_bag {K : PySem.W.Frag} {vs : List V} {H : Hp} {Q : VK} {E : XK} (h : toSp K spBag vs H Q E) : toSp K spBagL vs H Q E := by
  obtain ⟨G, ds, M, Qd, Ed, e, r, hm, ⟨ns, i, rfl, h0, h1, k⟩, kq, ke⟩ := h
  refine ⟨G, _, _, fun d M' => ∃ (b : Addr) (g' m' : Int), d = .ref b ∧ M' b = some (.lst [.int g', .int m']) ∧ 0 ≤ g' ∧ 0 ≤ m' ∧ m' < 2147483648 ∧ Qd d (put M' b .bag), Ed, e, r, hm, ⟨ns, i, rfl, h0, h1, fun p g m hp a1 a2 a3 => ⟨p, g, m, rfl, put_same, a1, a2, a3, ?_⟩⟩, fun G' H' v d M' e1 e2 r1 hm1 q => ?_, fun G' H' x cls dx M' e1 e2 r1 hm1 q => ke G' H' x cls dx M' e1 e2 r1 hm1 q⟩
  · rw [put_put]
    exact k p hp
  · obtain ⟨b, g', m', rfl, q0, q1, q2, q3, q4⟩ := q
    exact kq G' H' v _ _ e1 e2 r1 (mem_bag hm1 q0 q1 q2 q3) q4
end DL

/-! DLk: the numbers that every law takes out of its script. -/
namespace DL
open PySem L2
def qTakeR : DTS :=
  (qSeq (qIfS (qTB (qOp (dCmpI fun i j => decide (j < i)) (qOp dIx (qVar 0) (qC (.int 0))) (qC (.int 0))))
  (qSeq (qAsg (qOp (dInt (fun _ j => 0 < j) fun i j => i % j) (qOp dIx (qVar 0) (qC (.int 0))) (qVar 1)) (gNameD 2))
  (qSeq (qAsg (qOp (dInt CDiv fun i j => i / j) (qOp dIx (qVar 0) (qC (.int 0))) (qVar 1)) (gSubD (qVar 0) (qC (.int 0))))
  (qRet (qVar 2))))
  qNext)
  (qSeq (qAsg (qOp (dInt (fun _ j => 0 < j) fun i j => i % j) (qOp (dAdd false) (qOp (dInt CMul fun i j => i * j) (qOp dIx (qVar 0) (qC (.int 1))) (qC (.int 48271))) (qC (.int 11))) (qC (.int 2147483647))) (gSubD (qVar 0) (qC (.int 1))))
  (qRet (qOp (dInt (fun _ j => 0 < j) fun i j => i % j) (qOp (dInt (fun _ j => 0 < j) fun i j => i % j) (qOp (dInt CPow fun i j => i ^ j.toNat) (qOp (dInt CDiv fun i j => i / j) (qOp dIx (qVar 0) (qC (.int 1))) (qC (.int 8))) (qC (.int 3))) (qC (.int 2147483629))) (qVar 1)))))
def qBagR : DTS :=
  (qSeq (qAsg (qC (.int 0)) (gNameD 2))
  (qSeq (qIfS (qTB (qOp (dCmpI fun i j => decide (j < i)) (qCB dLen (qCons (qVar 0) qNil)) (qC (.int 0))))
  (qAsg (qOp dIx (qVar 0) (qOp (dInt (fun _ j => 0 < j) fun i j => i % j) (qVar 1) (qCB dLen (qCons (qVar 0) qNil)))) (gNameD 2))
  qNext)
  (qSeq (qAsg (qC (.int 0)) (gNameD 3))
  (qSeq (qIfS (qAnd (qTB (qOp (dCmpI fun i j => decide (j ≤ i)) (qCB dAbs (qCons (qVar 2) qNil)) (qOp (dInt CPow fun i j => i ^ j.toNat) (qC (.int 10)) (qC (.int 18))))) (qTB (qOp (dCmpI fun i j => decide (i < j)) (qVar 1) (qCB dLen (qCons (qVar 0) qNil)))))
  (qAsg (qCB dAbs (qCons (qVar 2) qNil)) (gNameD 3))
  qNext)
  (qSeq (qAsg (qTup (qCons (qC (.int 2147483629)) (qCons (qC (.int 2147483587)) (qCons (qC (.int 2147483579)) (qCons (qC (.int 2147483563)) (qCons (qC (.int 2147483549)) (qCons (qC (.int 2147483543)) (qCons (qC (.int 2147483497)) (qCons (qC (.int 2147483489)) qNil))))))))) (gNameD 4))
  (qRet (qLst true (qCons (qVar 3) (qCons (qOp (dInt (fun _ j => 0 < j) fun i j => i % j) (qOp (dInt CPow fun i j => i ^ j.toNat) (qOp (dAdd false) (qOp (dAdd false) (qOp (dInt (fun _ j => 0 < j) fun i j => i % j) (qVar 2) (qC (.int 2147483647))) (qOp (dInt CMul fun i j => i * j) (qC (.int 104729)) (qVar 1))) (qC (.int 7))) (qC (.int 5))) (qOp dIx (qVar 4) (qOp (dInt (fun _ j => 0 < j) fun i j => i % j) (qVar 1) (qC (.int 8))))) qNil)))))))))
theorem take_ok (ds : List D) (M : Mst) (Q : DK) (Ed : DX → Mst → Prop) (h : upSp spTakeL ds M Q Ed) : qTakeR (fun x _ M => Ed x M) (retE Q) (startD ["_law_bag_here", "_law_many", "_law_digit"] ds) M := by
  obtain ⟨Q0, E0, ⟨b, g, m, n, rfl, hb, g0, m0, m1, n0, n1, k0⟩, kq, _⟩ := h
  have k : ∀ g' m' r : Int, 0 ≤ g' → 0 ≤ m' → m' < 2147483648 → 0 ≤ r → r < n → Q (.int r) (put M b (.lst [.int g', .int m'])) := fun g' m' r a1 a2 a3 a4 a5 => kq _ _ _ (Sub.refl _) (k0 g' m' r a1 a2 a3 a4 a5)
  have ix0 : ∀ (g m : Int) (M : Mst) (Q : DK), M b = some (.lst [.int g, .int m]) → dIx (.ref b) (.int 0) M Q = Q (.int g) M := fun g m M Q h => ix_r h atI_0
  have ix1 : ∀ (g m : Int) (M : Mst) (Q : DK), M b = some (.lst [.int g, .int m]) → dIx (.ref b) (.int 1) M Q = Q (.int m) M := fun g m M Q h => ix_r h atI_1
  have st0 : ∀ (g m : Int) (M : Mst) (v : D) (R : Mst → Prop), M b = some (.lst [.int g, .int m]) → dSet (.ref b) (.int 0) v M R = R (put M b (.lst [v, .int m])) := fun g m M v R h => set_l h (j := 0) rfl
  have st1 : ∀ (g m : Int) (M : Mst) (v : D) (R : Mst → Prop), M b = some (.lst [.int g, .int m]) → dSet (.ref b) (.int 1) v M R = R (put M b (.lst [.int g, v])) := fun g m M v R h => set_l h (j := 1) rfl
  simp only [qTakeR, startD, qSeq, qIfS, qTB, qOp, qVar, qC, qAsg, gNameD, gSub_eq, qRet, qNext, retE]
  simp
  rw [ix0 g m M _ hb]
  simp [dCmpI]
  split
  · rw [ix0 g m M _ hb]
    simp [dInt, n0]
    rw [ix0 g m M _ hb]
    simp [CDiv, n0, n1]
    rw [st0 g m M _ _ hb]
    exact k _ _ _ (Int.ediv_nonneg g0 (by omega)) m0 m1 (Int.emod_nonneg _ (by omega)) (Int.emod_lt_of_pos _ n0)
  · have c1 : CMul m 48271 := .inr ⟨by decide, by decide⟩
    rw [ix1 g m M _ hb]
    simp [dInt, dAdd, c1]
    rw [st1 g m M _ _ hb]
    have z0 := Int.emod_nonneg (m * 48271 + 11) (show (2147483647 : Int) ≠ 0 by decide)
    have z1 := Int.emod_lt_of_pos (m * 48271 + 11) (show (0 : Int) < 2147483647 by decide)
    generalize (m * 48271 + 11) % 2147483647 = m2 at z0 z1 ⊢
    rw [ix1 g m2 _ _ put_same]
    have c2 : CDiv m2 8 := ⟨by decide, by decide⟩
    have c3 : CPow (m2 / 8) 3 := cpow_small (j := 3) (by omega) (by omega) (by decide)
    simp [c2, c3, n0]
    exact k _ _ _ g0 z0 (by omega) (Int.emod_nonneg _ (by omega)) (Int.emod_lt_of_pos _ n0)
theorem natMod {i : Int} {n : Nat} (h0 : 0 ≤ i) (hn : 0 < n) : 0 ≤ i % (n : Int) ∧ i % (n : Int) < n := ⟨Int.emod_nonneg _ (by omega), Int.emod_lt_of_pos _ (by omega)⟩
def bagTail : DTS :=
  (qSeq (qAsg (qTup (qCons (qC (.int 2147483629)) (qCons (qC (.int 2147483587)) (qCons (qC (.int 2147483579)) (qCons (qC (.int 2147483563)) (qCons (qC (.int 2147483549)) (qCons (qC (.int 2147483543)) (qCons (qC (.int 2147483497)) (qCons (qC (.int 2147483489)) qNil))))))))) (gNameD 4))
  (qRet (qLst true (qCons (qVar 3) (qCons (qOp (dInt (fun _ j => 0 < j) fun i j => i % j) (qOp (dInt CPow fun i j => i ^ j.toNat) (qOp (dAdd false) (qOp (dAdd false) (qOp (dInt (fun _ j => 0 < j) fun i j => i % j) (qVar 2) (qC (.int 2147483647))) (qOp (dInt CMul fun i j => i * j) (qC (.int 104729)) (qVar 1))) (qC (.int 7))) (qC (.int 5))) (qOp dIx (qVar 4) (qOp (dInt (fun _ j => 0 < j) fun i j => i % j) (qVar 1) (qC (.int 8))))) qNil)))))
theorem bag_end (c gr i : Int) (ns : List Int) (M : Mst) (Q : DK) (Ed : DX → Mst → Prop) (i0 : 0 ≤ i) (i1 : i < 10000) (g0 : 0 ≤ gr) (k : ∀ (p : Addr) (g m : Int), M p = none → 0 ≤ g → 0 ≤ m → m < 2147483648 → Q (.ref p) (put M p (.lst [.int g, .int m]))) (x5 : Option D) :
    bagTail (fun x _ M => Ed x M) (retE Q) [some (.scr ns), some (.int i), some (.int c), some (.int gr), x5] M := by
  simp only [bagTail, qSeq, qIfS, qTB, qOp, qVar, qC, qAsg, gNameD, qRet, qTup, qLst, qCons, qNil, retE, List.set_cons_zero, List.set_cons_succ, List.getElem?_cons_zero, List.getElem?_cons_succ, dInt_i, dAdd_i, newL_t]
  have z0 := Int.emod_nonneg c (show (2147483647 : Int) ≠ 0 by decide)
  have z1 := Int.emod_lt_of_pos c (show (0 : Int) < 2147483647 by decide)
  generalize c % 2147483647 = c2 at z0 z1 ⊢
  refine ⟨by simp, by decide, .inl ⟨by decide, by decide⟩, cpow_small (j := 5) (by omega) (by omega) (by decide), by decide, ?_⟩
  generalize (c2 + 104729 * i + 7) ^ Int.toNat 5 = big
  obtain ⟨x, hx, hm⟩ := atI_some (xs := [D.int 2147483629, .int 2147483587, .int 2147483579, .int 2147483563, .int 2147483549, .int 2147483543, .int 2147483497, .int 2147483489]) (i := i % 8) (Int.emod_nonneg _ (by decide)) (Int.emod_lt_of_pos _ (by decide))
  rw [ix_t hx]
  have : ∃ q : Int, x = .int q ∧ 0 < q ∧ q < 2147483648 := by
    simp only [List.mem_cons, List.not_mem_nil, or_false] at hm
    rcases hm with h | h | h | h | h | h | h | h <;> exact ⟨_, h, by decide, by decide⟩
  obtain ⟨q, rfl, q0, q1⟩ := this
  refine ⟨q0, by simp, fun p hp => k p _ _ hp g0 (Int.emod_nonneg _ (by omega)) ?_⟩
  have := Int.emod_lt_of_pos big q0
  show big % q < _
  omega
def bagMid (a b : Int) : DTS := (qSeq (qAsg (qC (.int 0)) (gNameD 3))
  (qSeq (qIfS (qAnd (qTB (qOp (dCmpI fun i j => decide (j ≤ i)) (qCB dAbs (qCons (qVar 2) qNil)) (qOp (dInt CPow fun i j => i ^ j.toNat) (qC (.int a)) (qC (.int b))))) (qTB (qOp (dCmpI fun i j => decide (i < j)) (qVar 1) (qCB dLen (qCons (qVar 0) qNil)))))
  (qAsg (qCB dAbs (qCons (qVar 2) qNil)) (gNameD 3))
  qNext) bagTail))
theorem set3_ (a b c d : D) (x : Int) : [some a, some b, some (.int x), some c, none].set 3 (some d) = [some a, some b, some (.int x), some d, none] := rfl
theorem abs_set (DW : DWt) (DE : DEnds) (a b c d : D) (x : Int) (M : Mst) : qAsg (qCB dAbs (qCons (qVar 2) qNil)) (gNameD 3) DW DE [some a, some b, some (.int x), some c, none] M = DE.nx [some a, some b, some (.int x), some (.int (if x < 0 then -x else x)), none] M := by
  unfold qAsg qCB qCons qNil gNameD qVar
  simp only [List.getElem?_cons_zero, List.getElem?_cons_succ]
  rw [dAbs_i, set3_]
theorem bag_mid (ns : List Int) (i : Int) (M : Mst) (Q : DK) (Ed : DX → Mst → Prop) (i0 : 0 ≤ i) (i1 : i < 10000) (k : ∀ (p : Addr) (g m : Int), M p = none → 0 ≤ g → 0 ≤ m → m < 2147483648 → Q (.ref p) (put M p (.lst [.int g, .int m])))
    (a b : Int) (hab : CPow a b) (c : Int) : bagMid a b (fun x _ M => Ed x M) (retE Q) [some (.scr ns), some (.int i), some (.int c), none, none] M := by
  simp only [bagMid, qSeq, qAsg, qC, gNameD, List.set_cons_zero, List.set_cons_succ]
  simp only [qIfS, qAnd, qTB, qOp]
  simp only [qCB, qCons, qVar, List.getElem?_cons_zero, List.getElem?_cons_succ]
  simp only [qNil, qC, dAbs_i, dInt_i, dCmpI_i, len_s', qNext]
  have ab : 0 ≤ if c < 0 then -c else c := by split <;> omega
  refine ⟨hab, ?_⟩
  have no : bagTail (fun x _ M => Ed x M) (retE Q) [some (.scr ns), some (.int i), some (.int c), some (.int 0), none] M := bag_end c 0 i ns M Q Ed i0 i1 (by omega) k none
  have yes : ∀ g : Int, 0 ≤ g → bagTail (fun x _ M => Ed x M) (retE Q) [some (.scr ns), some (.int i), some (.int c), some (.int g), none] M := fun g hg => bag_end c g i ns M Q Ed i0 i1 hg k none
  generalize bagTail = tail at no yes ⊢
  have y2 := yes _ ab
  by_cases h1 : decide (a ^ b.toNat ≤ if c < 0 then -c else c) = true
  · rw [if_pos h1]
    by_cases h2 : decide (i < (ns.length : Int)) = true
    · rw [if_pos h2]
      rw [abs_set _ _ _ _ _ .non]; exact y2
    · rw [if_neg h2]; exact no
  · rw [if_neg h1, if_neg Bool.false_ne_true]; exact no
theorem bag_ok (ds : List D) (M : Mst) (Q : DK) (Ed : DX → Mst → Prop) (h : upSp spBagL ds M Q Ed) : qBagR (fun x _ M => Ed x M) (retE Q) (startD ["_law_script", "_law_at", "_law_cell", "_law_great", "_law_primes"] ds) M := by
  obtain ⟨Q0, E0, ⟨ns, i, rfl, i0, i1, k0⟩, kq, _⟩ := h
  have k : ∀ (p : Addr) (g m : Int), M p = none → 0 ≤ g → 0 ≤ m → m < 2147483648 → Q (.ref p) (put M p (.lst [.int g, .int m])) := fun p g m a1 a2 a3 a4 => kq _ _ _ (Sub.refl _) (k0 p g m a1 a2 a3 a4)
  have part := bag_mid ns i M Q Ed i0 i1 k 10 18 (cpow_small (j := 18) (by omega) (by omega) (by omega))
  show qSeq (qAsg (qC (.int 0)) (gNameD 2)) (qSeq (qIfS (qTB (qOp (dCmpI fun i j => decide (j < i)) (qCB dLen (qCons (qVar 0) qNil)) (qC (.int 0))))
  (qAsg (qOp dIx (qVar 0) (qOp (dInt (fun _ j => 0 < j) fun i j => i % j) (qVar 1) (qCB dLen (qCons (qVar 0) qNil)))) (gNameD 2))
  qNext) (bagMid 10 18)) _ _ [some (.scr ns), some (.int i), none, none, none] M
  generalize bagMid 10 18 = mid at part ⊢
  by_cases h : ns.length = 0
  · simp only [qSeq, qIfS, qTB, qOp, qVar, qC, qAsg, gNameD, qCB, qCons, qNil, qNext, List.set_cons_zero, List.set_cons_succ, List.getElem?_cons_zero, List.getElem?_cons_succ, dCmpI_i, len_s']
    rw [if_neg (by simp [h])]
    exact part 0
  · have hp : 0 < ns.length := Nat.pos_of_ne_zero h
    simp only [qSeq, qIfS, qTB, qOp, qVar, qC, qAsg, gNameD, qCB, qCons, qNil, qNext, List.set_cons_zero, List.set_cons_succ, List.getElem?_cons_zero, List.getElem?_cons_succ, dCmpI_i, dInt_i, len_s']
    rw [if_pos (by simpa using hp)]
    obtain ⟨x, hx, _⟩ := atI_some (xs := ns) (i := i % (ns.length : Int)) (Int.emod_nonneg _ (by omega)) (Int.emod_lt_of_pos _ (by omega))
    rw [ix_s hx]
    exact ⟨by omega, part x⟩
end DL

/-! DLm: loops and comprehensions by an invariant. -/
namespace DL
open PySem L2
inductive All2 {α β : Type} (P : α → β → Prop) : List α → List β → Prop
  | nil : All2 P [] []
  | cons {a b as bs} : P a b → All2 P as bs → All2 P (a :: as) (b :: bs)
theorem All2.length {α β : Type} {P : α → β → Prop} {as : List α} {bs : List β} (h : All2 P as bs) : bs.length = as.length := by
  induction h with
  | nil => rfl
  | cons _ _ ih => simp [ih]
theorem All2.eq_map {α β : Type} {f : α → β} {as : List α} {bs : List β} (h : All2 (fun a b => b = f a) as bs) : bs = as.map f := by
  induction h with
  | nil => rfl
  | cons h _ ih => rw [h, ih]; rfl
theorem All2.get {α β : Type} {P : α → β → Prop} {as : List α} {bs : List β} (h : All2 P as bs) : ∀ (i : Nat) (a : α), as[i]? = some a → ∃ b, bs[i]? = some b ∧ P a b := by
  induction h with
  | nil => intro i a e; simp at e
  | cons h _ ih =>
    intro i a e
    cases i with
    | zero => simp at e; subst e; exact ⟨_, rfl, h⟩
    | succ i => simp at e; obtain ⟨b, h1, h2⟩ := ih i a e; exact ⟨b, by simpa using h1, h2⟩
theorem compL_rel {m : Bool} {Sty : Mst → Prop} {g : DTG} {tt : DTT} {te : DTE} {ix : List Nat} {a : Addr} {p : Rho} {Q : DK} {M : Mst} (hm : M a = none) (P : D → Option D → Prop) (hS : ∀ acc, Sty (put M a (.lst acc))) :
    ∀ (ds acc : List D), acc.length + ds.length ≤ 100000 →
      (∀ d ∈ ds, ∀ (acc : List D) (R : Option D → Mst → Prop), (∀ o, P d o → R o (put M a (.lst acc))) → g d DW0 (wipeD p ix) (put M a (.lst acc)) fun p2 M2 => tt DW0 p2 M2 fun b M3 => if b = true then te DW0 p2 M3 fun y M4 => R (some y) M4 else R none M3) →
      (∀ os : List (Option D), All2 P ds os → if m = true then Q (.ref a) (put M a (.lst (acc ++ os.filterMap id))) else Q (.lst (acc ++ os.filterMap id)) M) → compL m Sty g tt te ix a p Q ds (put M a (.lst acc))
  | [], acc, _, _, fin => by
    have := fin [] .nil
    refine ⟨hS acc, ?_⟩
    rw [put_same]
    simp only [List.filterMap_nil, List.append_nil] at this
    cases m with
    | true => exact this
    | false =>
      rw [if_neg Bool.false_ne_true] at this
      show (if false = true then Q (.ref a) (put M a (.lst acc)) else Q (.lst acc) (del (put M a (.lst acc)) a))
      rw [if_neg Bool.false_ne_true, del_put hm]; exact this
  | d :: ds, acc, hl, step, fin => by
    refine ⟨hS acc, ?_⟩
    simp only [List.length_cons] at hl
    have ih := compL_rel (m := m) (Sty := Sty) (g := g) (tt := tt) (te := te) (ix := ix) (p := p) (Q := Q) hm P hS ds
    refine step d (List.mem_cons_self ..) acc (fun o M' => match o with
      | some y => (match M' a with
        | some (.lst acc) => acc.length < 100000 ∧ compL m Sty g tt te ix a p Q ds (put M' a (.lst (acc ++ [y])))
        | _ => False)
      | none => compL m Sty g tt te ix a p Q ds M') fun o ho => ?_
    cases o with
    | some y =>
      simp only [put_same, put_put]
      refine ⟨by omega, ih (acc ++ [y]) (by simp; omega) (fun d hd => step d (List.mem_cons_of_mem _ hd)) fun os hos => ?_⟩
      have := fin (some y :: os) (.cons ho hos)
      simpa [List.filterMap_cons] using this
    | none =>
      refine ih acc (by omega) (fun d hd => step d (List.mem_cons_of_mem _ hd)) fun os hos => ?_
      have := fin (none :: os) (.cons ho hos)
      simpa [List.filterMap_cons] using this
/-- a comprehension of every item's own value -/
theorem compL_map {m : Bool} {Sty : Mst → Prop} {g : DTG} {tt : DTT} {te : DTE} {ix : List Nat} {a : Addr} {p : Rho} {Q : DK} {M : Mst} (hm : M a = none) (f : D → Option D) (hS : ∀ acc, Sty (put M a (.lst acc)))
    {ds : List D} (hl : ds.length ≤ 100000)
    (step : ∀ d ∈ ds, ∀ (acc : List D) (R : Option D → Mst → Prop), R (f d) (put M a (.lst acc)) → g d DW0 (wipeD p ix) (put M a (.lst acc)) fun p2 M2 => tt DW0 p2 M2 fun b M3 => if b = true then te DW0 p2 M3 fun y M4 => R (some y) M4 else R none M3)
    (fin : if m = true then Q (.ref a) (put M a (.lst (ds.filterMap f))) else Q (.lst (ds.filterMap f)) M) : compL m Sty g tt te ix a p Q ds (put M a (.lst [])) := by
  refine compL_rel hm (fun d o => o = f d) hS ds [] (by simpa using hl) (fun d hd acc R h => step d hd acc R (h _ rfl)) fun os hos => ?_
  rw [hos.eq_map]
  have e : (ds.map f).filterMap id = ds.filterMap f := by rw [List.filterMap_map]; rfl
  simpa [e] using fin
theorem loopL_inv {Sty : Mst → Prop} {g : DTG} {tb : DTS} {DW : DWt} {DE : DEnds} (I : Nat → Rho → Mst → Prop) {ds : List D} {n : Nat} (hn : n = ds.length)
    (step : ∀ i d p M (R : Rho → Mst → Prop), ds[i]? = some d → I i p M → (∀ p' M', I (i + 1) p' M' → R p' M') → Sty M ∧ g d DW p M fun p' M' => tb DW { DE with nx := R, ct := R, bk := DE.nx } p' M')
    (fin : ∀ p M, I n p M → Sty M ∧ DE.nx p M) {p : Rho} {M : Mst} (h : I 0 p M) : loopL Sty g tb DW DE ds p M := by
  have main : ∀ k i p M, i + k = ds.length → I i p M → loopL Sty g tb DW DE (ds.drop i) p M := by
    intro k
    induction k with
    | zero =>
      intro i p M e h
      have e' : i = ds.length := by omega
      subst e'
      rw [List.drop_length]
      exact fin p M (by rw [hn]; exact h)
    | succ k ih =>
      intro i p M e h
      have hi : i < ds.length := by omega
      rw [List.drop_eq_getElem_cons hi]
      exact step i ds[i] p M _ (List.getElem?_eq_getElem hi) h fun p' M' h' => ih (i + 1) p' M' (by omega) h'
  simpa using main ds.length 0 p M (by omega) h
theorem while_inv {qc : DTT} {tb : DTS} {DW : DWt} {DE : DEnds} (I : Nat → Rho → Mst → Prop)
    (step : ∀ n p M (R : Rho → Mst → Prop), I n p M → (∀ n' p' M', n' < n → I n' p' M' → R p' M') → qc DW p M fun b M1 => if b = true then tb DW { DE with nx := R, ct := R, bk := DE.nx } p M1 else DE.nx p M1)
    {n : Nat} {p : Rho} {M : Mst} (h : I n p M) : qWhile qc tb DW DE p M := by
  have main : ∀ N n p M, n < N → I n p M → whileL qc tb DW DE N p M := by
    intro N
    induction N with
    | zero => intro n p M h; omega
    | succ N ih =>
      intro n p M h hI
      exact step n p M _ hI fun n' p' M' hn h' => ih n' p' M' (by omega) h'
  exact ⟨n + 1, main (n + 1) n p M (by omega) h⟩

/-! ### helpers -/
theorem isDataL_all : ∀ ds : List D, isDataL ds = ds.all isData
  | [] => rfl
  | d :: ds => by simp [isDataL, isDataL_all ds]
theorem dep_nil : dep (.lst []) ≤ 64 := by decide
theorem deq_nil (xs : List D) : deq (.lst xs) (.lst []) = xs.isEmpty := by
  unfold deq
  cases xs <;> simp [pyd, pydL, PyData.eqv, PyData.eqvAll]
theorem eq_nil {neg : Bool} {x : D} {ds : List D} {M : Mst} {Q : DK} (hx : res M x = .lst ds) (h : ds.all isData = true) : dEq neg x (.lst []) M Q = Q (.bl (xor neg ds.isEmpty)) M := by
  unfold dEq
  rw [hx, res_lst, deq_nil]
  have h1 : isData (.lst ds) = true := by rw [isData, isDataL_all]; exact h
  have h2 : isData (.lst []) = true := rfl
  have h3 : min (dep (.lst ds)) (dep (.lst [])) ≤ 64 := Nat.le_trans (Nat.min_le_right _ _) dep_nil
  simp [h1, h2, h3]
theorem deq_int (i j : Int) : deq (.int i) (.int j) = decide (i = j) := by
  unfold deq; simp only [pyd, PyData.eqv]
  exact Bool.beq_eq_decide_eq _ _
theorem eq_int {neg : Bool} {i j : Int} {M : Mst} {Q : DK} : dEq neg (.int i) (.int j) M Q = Q (.bl (xor neg (decide (i = j)))) M := by
  unfold dEq
  rw [res_int, res_int, deq_int]
  have h1 : isData (.int i) = true := rfl
  have h2 : isData (.int j) = true := rfl
  have h3 : min (dep (.int i)) (dep (.int j)) ≤ 64 := by simp [dep, pyd, PyData.depth]
  simp [h1, h2, h3]
theorem res_r {M : Mst} {a : Addr} {ds : List D} (h : M a = some (.lst ds)) : res M (.ref a) = .lst ds := by simp [res, h]
theorem res_d {M : Mst} {a : Addr} {kvs : List (Key × D)} (h : M a = some (.dK kvs)) : res M (.ref a) = .dct (kvs.map (·.1)) (kvs.map (·.2)) := by simp [res, h]
/-- the places of what a test lets by -/
def placesF (f : D → Bool) : Nat → List D → List Nat
  | _, [] => []
  | s, d :: ds => if f d = true then s :: placesF f (s + 1) ds else placesF f (s + 1) ds
theorem mem_places {f : D → Bool} : ∀ {s : Nat} {ds : List D} {v : Nat}, v ∈ placesF f s ds ↔ s ≤ v ∧ ∃ d, ds[v - s]? = some d ∧ f d = true
  | s, [], v => by simp [placesF]
  | s, d :: ds, v => by
    unfold placesF
    have ih := mem_places (f := f) (s := s + 1) (ds := ds) (v := v)
    have sh : s + 1 ≤ v → v - s = (v - (s + 1)) + 1 := by omega
    split
    · next h =>
      rw [List.mem_cons, ih]
      constructor
      · rintro (rfl | ⟨h1, x, h2, h3⟩)
        · exact ⟨Nat.le_refl _, d, by simp, h⟩
        · exact ⟨by omega, x, by rw [sh h1]; simpa using h2, h3⟩
      · rintro ⟨h1, x, h2, h3⟩
        by_cases e : v = s
        · exact .inl e
        · have : s + 1 ≤ v := by omega
          exact .inr ⟨this, x, by rw [sh this] at h2; simpa using h2, h3⟩
    · next h =>
      rw [ih]
      constructor
      · rintro ⟨h1, x, h2, h3⟩
        exact ⟨by omega, x, by rw [sh h1]; simpa using h2, h3⟩
      · rintro ⟨h1, x, h2, h3⟩
        by_cases e : v = s
        · subst e; simp at h2; subst h2; exact absurd h3 h
        · have : s + 1 ≤ v := by omega
          exact ⟨this, x, by rw [sh this] at h2; simpa using h2, h3⟩
theorem places_len {f : D → Bool} : ∀ {s : Nat} {ds : List D}, (placesF f s ds).length ≤ ds.length
  | s, [] => Nat.le_refl _
  | s, d :: ds => by
    have := places_len (f := f) (s := s + 1) (ds := ds)
    unfold placesF
    split <;> simp <;> omega
theorem enum_places {f : D → Bool} {g : D → Option D} (hg : ∀ i d, g (.tup [.int i, d]) = if f d = true then some (.int i) else none) : ∀ (s : Nat) (ds : List D), (enumD s ds).filterMap g = (placesF f s ds).map fun v : Nat => D.int (v : Int)
  | s, [] => rfl
  | s, d :: ds => by
    unfold enumD placesF
    rw [List.filterMap_cons, hg]
    have ih := enum_places hg (s + 1) ds
    split
    · next h => simp [ih]; split at h <;> simp_all
    · next b h => split at h <;> simp_all

theorem cut_from {α : Type} (xs : List α) (k : Nat) : cutX xs (some (k : Int)) none = xs.drop k := by
  unfold cutX
  rw [HT.sIx_nat, HT.sIx_none]
  rcases Nat.le_total k xs.length with h | h
  · rw [Nat.min_eq_left h, List.take_of_length_le (by simp)]
  · rw [Nat.min_eq_right h, List.drop_length, List.drop_eq_nil_of_le h]; simp
theorem cut_to {α : Type} (xs : List α) (k : Nat) : cutX xs none (some (k : Int)) = xs.take k := by
  unfold cutX
  rw [HT.sIx_nat, HT.sIx_none, Nat.sub_zero, List.drop_zero]
  rcases Nat.le_total k xs.length with h | h
  · rw [Nat.min_eq_left h]
  · rw [Nat.min_eq_right h, List.take_length, List.take_of_length_le h]
theorem sl_from {m : Bool} {ds : List D} {k : Nat} {M : Mst} {Q : DK} : dSl m (.lst ds) (some (k : Int)) none M Q = newL m (ds.drop k) M Q := by
  simp only [dSl, res_lst, cut_from]
theorem sl_to {m : Bool} {ds : List D} {k : Nat} {M : Mst} {Q : DK} : dSl m (.lst ds) none (some (k : Int)) M Q = newL m (ds.take k) M Q := by
  simp only [dSl, res_lst, cut_to]
theorem any_ints (i : Int) (ns : List Int) : ((ns.map D.int).any fun e => deq e (.int i)) = decide (i ∈ ns) := by
  induction ns with
  | nil => rfl
  | cons n ns ih =>
    rw [List.map_cons, List.any_cons, ih, deq_int, ← Bool.decide_or]
    apply decide_eq_decide.mpr
    simp [eq_comm]
theorem flat_ints (ns : List Int) : (ns.map D.int).all flatD = true := List.all_eq_true.mpr fun x hx => by
  obtain ⟨n, _, rfl⟩ := List.mem_map.mp hx; rfl
theorem in_ints {neg : Bool} {i : Int} {ns : List Int} {M : Mst} {Q : DK} : dIn neg (.int i) (.lst (ns.map D.int)) M Q = Q (.bl (xor neg (decide (i ∈ ns)))) M := by
  unfold dIn
  simp only [dgetD, res_lst, any_ints, flat_ints]
  simp [flatD]
theorem data_ints (ns : List Int) : (ns.map D.int).all isData = true := List.all_eq_true.mpr fun x hx => by
  obtain ⟨n, _, rfl⟩ := List.mem_map.mp hx; rfl
end DL

/-! DLn: dict.update of a list of pairs; calls with keywords. -/
namespace DL
open PySem L2

/-! ### update -/
section
variable {X : Cx}
theorem pairs_vals {pins : List (Addr × Obj)} {σ : L2.St} {H : Hp} {s : Shared} (I : Inv X pins σ H s) : ∀ {ps : List Addr} {kvs : List (Key × V)}, Paired (fun p kv => SqT X.K H p [kV kv.1, kv.2]) ps kvs →
    ∃ (prs : List (Key × Value)) (vps : List (Value × Value)), KV kvs prs ∧ prs.length = ps.length ∧ vps.length = ps.length ∧
      (∀ (j : Nat) (k v : Value), vps[j]? = some (k, v) → ∃ (b : Addr) (q : Key), ps[j]? = some b ∧ s.heap.IsTuple b #[k, v] ∧ prs[j]? = some (q, v) ∧ keyIs q k = true)
  | _, _, .nil => ⟨[], [], .nil, rfl, rfl, fun j k v e => by simp at e⟩
  | _, _, .cons (a := p) (b := kv) h t => by
    obtain ⟨prs, vps, r, hl, hl2, hp⟩ := pairs_vals I t
    obtain ⟨its, rv, ht, _⟩ := I.tuple h
    obtain ⟨u, y, ei, ru, ry⟩ := vals2 rv
    subst ei
    refine ⟨(kv.1, y) :: prs, (u, y) :: vps, .cons ⟨rfl, ry⟩ r, by simp [hl], by simp [hl2], fun j k v e => ?_⟩
    cases j with
    | zero =>
      have e' : (u, y) = (k, v) := Option.some.inj e
      cases e'
      exact ⟨p, kv.1, rfl, ht, rfl, kV_is (P := X.prog) (w := X.w) ru⟩
    | succ j =>
      obtain ⟨b, q, e1, e2, e3, e4⟩ := hp j k v (by simpa using e)
      exact ⟨b, q, by simpa using e1, e2, by simpa using e3, e4⟩
def rUpdL (K : PySem.W.Frag) : V → List V → Hp → VK → Prop := fun x vs H Q => ∃ (a b : Addr) (kvs : List (Key × V)) (ps : List Addr) (more : List (Key × V)), x = .ref a ∧ vs = [.ref b] ∧ H a = some (.dK kvs) ∧ SqL K H b (ps.map V.ref) ∧
  Paired (fun p kv => SqT K H p [kV kv.1, kv.2]) ps more ∧ kvs.length + more.length ≤ sizeLine ∧ Q .non (upd H a (.dK (mergeK kvs more)))
theorem mt_update (hcalm : X.calm = true) : MtR X "dict.update" (rUpdL X.K) := by
  intro pins s σ H x vs v us Q I rx rv h
  obtain ⟨a, b, kvs, ps, more, rfl, rfl, hH, hq, hp, hl, q⟩ := h
  cases rx
  obtain ⟨u, rfl, ru⟩ := rv.one
  cases ru
  obtain ⟨its, rv2, pl, hz⟩ := I.list hq
  have ei := refs_at rv2
  subst ei
  obtain ⟨prs, vps, rel, l1, l2, hv⟩ := pairs_vals I hp
  obtain ⟨z, hd, acc, racc, dd⟩ := dk_of I.hok hH
  obtain ⟨o, n, ho, hc, hdi, hdat⟩ := pl
  have hm : prs.length = more.length := rel.length.symm
  have nab : ∀ b o, s.heap.get? b = some o → (o.cls = .type "tuple" ∨ o.cls = .type "list") → a ≠ b := fun b o h1 h2 e => by
    subst e
    obtain ⟨o2, h3, h4⟩ := dd.typeIs
    rw [h1] at h3; cases h3
    rw [h4] at h2
    rcases h2 with h2 | h2 <;> (injection h2 with z; exact absurd z (by decide))
  have PI : PairItems s.heap (ps.map Value.ref).toArray (fun j => ps.getD j 0) vps := ⟨by simp [l2], fun j k v e => by
    obtain ⟨t, q2, e1, e2, _, _⟩ := hv j k v e
    have e3 : ps.getD j 0 = t := by simp [List.getD, e1]
    exact ⟨by simp [e1, e3], by show PairAt s.heap (ps.getD j 0) k v; rw [e3]; exact .inl e2⟩⟩
  refine call_update_pairs (knd := mixKind X.prog X.w) (acc := acc) (kvs := prs) (PairArg.list (prog := X.prog) (w := X.w) b (ps.map Value.ref).toArray (fun j => ps.getD j 0) vps) (I.ok.hd hcalm)
    ⟨⟨o, n, ho, hc, hdi, hdat⟩, PI⟩ ?_ ?_ dd ?_ fun h' tk dd' hk => ?_
  · intro e
    rcases List.mem_cons.mp e with e | e
    · exact nab b o ho (.inr hc) e
    · obtain ⟨j, hj, e⟩ := List.mem_map.mp e
      rw [List.mem_range] at hj
      obtain ⟨ob, h1, h2⟩ := ((PI.2 j vps[j].1 vps[j].2 (by rw [List.getElem?_eq_getElem hj])).2).there
      exact nab _ ob h1 h2 e.symm
  · refine ⟨by omega, fun i k v e => ?_⟩
    obtain ⟨t, q2, _, _, e3, e4⟩ := hv i k v e
    exact ⟨q2, e3, e4⟩
  · have := racc.length; omega
  · have hlen : (mergeK kvs more).length ≤ sizeLine := Nat.le_trans (length_mergeK more kvs) hl
    have he : ∃ q, h'.get? a = some q := let ⟨q, _, _, hq, _⟩ := dd'; ⟨q, hq⟩
    refine ⟨.non, _, I.write (t' := tk) (x := a) (e := a) (by rw [hH]; exact True.intro) (.inl rfl) (fun b q hb z => hk b q hb (by simp) z) he (dk_new hlen hd (KV.merge rel racc) dd'), rfl, q⟩
end

def pairsD : List D → Option (List (Key × D))
  | [] => some []
  | .tup [k, v] :: ds => match keyD k, pairsD ds with
    | some k, some r => some ((k, v) :: r)
    | _, _ => none
  | _ :: _ => none
def putAllD (kvs : List (Key × D)) (more : List (Key × D)) : List (Key × D) := more.foldl (fun acc q => putD acc q.1 q.2) kvs
theorem pairsD_of {K : PySem.W.Frag} {G H : Hp} (e : Same G H) : ∀ {ds : List D} {vs : List V} {more : List (Key × D)}, RepL K G ds vs → pairsD ds = some more →
    ∃ (ps : List Addr) (mv : List (Key × V)), vs = ps.map V.ref ∧ Paired (fun p kv => SqT K H p [kV kv.1, kv.2]) ps mv ∧ mv.map (·.1) = more.map (·.1) ∧ RepL K G (more.map (·.2)) (mv.map (·.2)) ∧ ∀ q ∈ more, kOk q.1
  | [], _, more, r, h => by
    cases r; cases h
    exact ⟨[], [], rfl, .nil, rfl, rfl, fun _ h => (by cases h)⟩
  | d :: ds, _, more, ⟨v, vs, e1, r1, r2⟩, h => by
    cases d with
    | tup xs =>
      match xs with
      | [k, x] =>
        simp only [pairsD] at h
        split at h
        · next k' r' hk hr =>
          cases h
          obtain ⟨ps, mv, q1, q2, q3, q4, q5⟩ := pairsD_of e r2 hr
          obtain ⟨a, us, rfl, g1, g2, g3⟩ := r1
          obtain ⟨u, y, rfl, ru, ry⟩ := repL2 g2
          have eu := keyD_of ru hk
          subst eu
          exact ⟨a :: ps, (k', y) :: mv, by rw [e1, q1]; rfl, .cons (.inl (.inl (e _ _ g1))) q2, by simp [q3], RepL.cons ry q4, fun q hq => by
            rcases List.mem_cons.mp hq with rfl | hq
            · exact kOk_of ru hk
            · exact q5 q hq⟩
        · cases h
      | [] => cases h
      | [_] => cases h
      | _ :: _ :: _ :: _ => cases h
    | _ => cases h
theorem putAll_rel {K : PySem.W.Frag} {G : Hp} : ∀ {more : List (Key × D)} {mv : List (Key × V)} {kvs : List (Key × D)} {kv : List (Key × V)}, mv.map (·.1) = more.map (·.1) → RepL K G (more.map (·.2)) (mv.map (·.2)) →
    kv.map (·.1) = kvs.map (·.1) → RepL K G (kvs.map (·.2)) (kv.map (·.2)) → (mergeK kv mv).map (·.1) = (putAllD kvs more).map (·.1) ∧ RepL K G ((putAllD kvs more).map (·.2)) ((mergeK kv mv).map (·.2))
  | [], mv, kvs, kv, h1, r1, h2, r2 => by
    cases mv with
    | nil => exact ⟨h2, r2⟩
    | cons _ _ => cases h1
  | q :: more, mv, kvs, kv, h1, r1, h2, r2 => by
    cases mv with
    | nil => cases h1
    | cons p mv =>
      simp only [List.map_cons, List.cons.injEq] at h1
      obtain ⟨v, r', e, h3, h4⟩ := r1
      simp only [List.map_cons, List.cons.injEq] at e
      obtain ⟨rfl, rfl⟩ := e
      obtain ⟨z1, z2, _⟩ := put_rel (k := q.1) h2 r2 h3
      have e0 : mergeK kv (p :: mv) = mergeK (putK kv q.1 p.2) mv := by rw [← h1.1]; rfl
      rw [e0]
      exact putAll_rel (more := more) (kvs := putD kvs q.1 q.2) h1.2 h4 z1 z2
theorem putAll_keys {P : Key → Prop} : ∀ {more kvs : List (Key × D)}, (∀ q ∈ kvs, P q.1) → (∀ q ∈ more, P q.1) → ∀ q ∈ putAllD kvs more, P q.1
  | [], kvs, h, _ => h
  | q :: more, kvs, h, g => putAll_keys (more := more) (kvs := putD kvs q.1 q.2) (putD_keys h (g q (List.mem_cons_self ..))) fun x hx => g x (List.mem_cons_of_mem _ hx)
def mUpd : DMt := fun x ds M Q => match x, ds with
  | .ref a, [d] => match M a, res M d with
    | some (.dK kvs), .lst es => match pairsD es with
      | some more => kvs.length + more.length ≤ 100000 ∧ Q .non (put M a (.dK (putAllD kvs more)))
      | none => False
    | _, _ => False
  | _, _ => False
theorem m_update {X : Cx} (hc : X.calm = true) : QMt X "dict.update" (rUpdL X.K) mUpd := ⟨mt_update hc, fun G H p M s x v ds vs Q Q' S r1 r2 h k => by
  unfold mUpd at h
  split at h
  · next a d =>
    cases r1
    obtain ⟨u, rfl, r3⟩ := repL1 r2
    split at h
    · next kvs es em ed =>
      split at h
      · next more hm =>
        obtain ⟨hl, h⟩ := h
        obtain ⟨gn, kv, g1, g2, g3, g4, g5⟩ := S.mem _ _ em
        obtain ⟨b, vs, rfl, b1, b2, b3⟩ := as_lst S r3 ed
        obtain ⟨ps, mv, rfl, q2, q3, q4, q5⟩ := pairsD_of S.same b2 hm
        have l1 : kv.length = kvs.length := by have := congrArg List.length g2; simpa using this
        have l2 : mv.length = more.length := by have := congrArg List.length q3; simpa using this
        have hz := sizeLine_eq
        obtain ⟨z1, z2⟩ := putAll_rel q3 q4 g2 g3
        refine ⟨a, b, kv, ps, mv, rfl, rfl, g1, .inl (.inl b1), q2, by omega, ?_⟩
        refine k G _ _ .non _ (Same.refl _) (S.put (mo := .dK (putAllD kvs more)) gn ⟨_, upd_same, z1, z2, ?_, putAll_keys g5 q5⟩) rfl h
        have := length_mergeK mv kv
        omega
      · exact h.elim
    · exact h.elim
  · exact h.elim⟩
/-- d.m(e, ..), d a dict that may change -/
def qBMD (m : DMt) (qo : DTE) (qa : DTA) : DTE := fun DW p M Q => qo DW p M fun x M1 => (∃ a kvs, x = .ref a ∧ M1 a = some (.dK kvs)) ∧ qa DW p M1 fun ds M2 => m x ds M2 Q
section
variable {X : Cx} {W : WX} {o e : Expr} {es : List Expr} {to : TE} {qo : DTE} {t : TA} {qa : DTA} {name : Str} {apos cpos : Pos} {id : String} {r : V → List V → Hp → VK → Prop} {m : DMt}
theorem q_bmD (pa : PlainAttrs "dict") (slot : Slot "dict" name id) (hty : typeOf (.builtin id) = pure (.type "method_descriptor")) (hm : QMt X id r m) (ho : QE X W o to qo) (ha : QA X W (e :: es) t qa)
    (hbase : attributeBase o name X.env (eval o X.env) = eval o X.env := by rfl)
    (hfew : ((backTo cpos (starEach (e :: es) X.env)).all (fun x => !x.1) && (backToKw cpos (keywordEach [] X.env)).all (fun x => x.1.isSome)
      && decide ((e :: es).length + ([] : List Keyword).length + (if ([] : List Keyword).isEmpty then 0 else 1) < 30)) = true := by rfl)
    (hline : (apos.endLine == cpos.line) = true := by rfl) (hs : starEach (e :: es) X.env = (false, eval e X.env) :: starEach es X.env := by rfl) (hplain : (backTo cpos (starEach es X.env)).any (·.1) = false := by rfl) :
    QE X W (.Call (.Attribute o name apos) (e :: es) [] cpos) (tBM X.K "dict" r to t) (qBMD m qo qa) :=
  ⟨pe_bm pa slot hty hm.op ho.pe ha.pe hbase hfew hline hs hplain, fun DW G H p M s Q Q' hw S h k => ho.rf DW G H p M s _ _ hw S h fun G1 H1 M1 x v e1 S1 r1 ⟨⟨a, kvs, ex, em⟩, h1⟩ => ⟨by
    subst ex
    cases r1
    obtain ⟨_, kv, g1, _⟩ := S1.mem _ _ em
    exact .inr (.inr (.inl ⟨rfl, .inl ⟨kv, g1⟩⟩)),
    ha.rf DW G1 H1 p M1 s _ _ (hw.mono e1) S1 h1 fun G2 H2 M2 ds vs e2 S2 r2 h2 => hm.rf G2 H2 p M2 s x v ds vs Q Q' S2 (Rep.mono e2 _ _ r1) r2 h2 fun G' H' M' d w e3 => k G' H' M' d w ((e1.trans e2).trans e3)⟩⟩
end

/-! ### calls with keywords -/
structure QK (X : Cx) (W : WX) (kws : List Keyword) (t : TA) (q : DTA) : Prop where
  pe : PK X kws t
  rf : RefA X.K W t q
def pickL {α : Type} (idx : List Nat) (l : List α) : List α := idx.filterMap (l[·]?)
theorem pick_vals {vs : List V} {us : List Value} (r : Vals vs us) : ∀ idx : List Nat, Vals (pickL idx vs) (pickL idx us)
  | [] => .nil
  | i :: idx => by
    have ih := pick_vals r idx
    unfold pickL at ih ⊢
    rw [List.filterMap_cons, List.filterMap_cons]
    have : (vs[i]? = none ∧ us[i]? = none) ∨ ∃ v u, vs[i]? = some v ∧ us[i]? = some u ∧ RelV v u := by
      clear ih
      induction r generalizing i with
      | nil => exact .inl ⟨rfl, rfl⟩
      | cons h _ ih =>
        cases i with
        | zero => exact .inr ⟨_, _, rfl, rfl, h⟩
        | succ i => simpa using ih i
    rcases this with ⟨e1, e2⟩ | ⟨v, u, e1, e2, e3⟩
    · rw [e1, e2]; exact ih
    · rw [e1, e2]; exact .cons e3 ih
theorem pick_rep {K : PySem.W.Frag} {G : Hp} {ds : List D} {vs : List V} (r : RepL K G ds vs) : ∀ idx : List Nat, RepL K G (pickL idx ds) (pickL idx vs)
  | [] => rfl
  | i :: idx => by
    have ih := pick_rep r idx
    unfold pickL at ih ⊢
    rw [List.filterMap_cons, List.filterMap_cons]
    cases e : ds[i]? with
    | some d =>
      obtain ⟨v, e1, e2⟩ := r.get e
      rw [e1]; exact RepL.cons e2 ih
    | none =>
      cases e1 : vs[i]? with
      | none => exact ih
      | some v => obtain ⟨d, e2, _⟩ := r.getV e1; rw [e] at e2; cases e2
section
variable {X : Cx} {W : WX} {k : Nat} {f : Addr} {fd : FuncData} {ps ks : List Str} {P : DSp} {x : Str} {p pos kpos : Pos} {e : Expr} {es : List Expr} {kws : List Keyword} {te : TE} {qe : DTE} {t tk : TA} {q qk : DTA} {nm : Option Str} {n : Nat} {idx : List Nat}
theorem qk_nil : QK X W [] tNil qNil := ⟨pk_nil, fun DW G H p M s Q Q' hw S q k => k G H M [] [] (Same.refl _) S rfl q⟩
theorem qk_cons (ha : QE X W e te qe) (hr : QK X W kws t q) : QK X W (⟨nm, e, kpos⟩ :: kws) (tCons te t) (qCons qe q) :=
  ⟨pk_cons ha.pe hr.pe, fun DW G H p M s Q Q' hw S h k => ha.rf DW G H p M s _ _ hw S h fun G1 H1 M1 d v e1 S1 r1 h1 =>
    hr.rf DW G1 H1 p M1 s _ _ (hw.mono e1) S1 h1 fun G2 H2 M2 ds vs e2 S2 r2 h2 => k G2 H2 M2 _ _ (e1.trans e2) S2 (RepL.cons (Rep.mono e2 _ _ r1) r2) h2⟩
/-- how a call with n values and the keywords ks binds: the parameters' values by their places -/
def KwB (K : PySem.W.Frag) (fd : FuncData) (ps : List Str) (n : Nat) (ks : List Str) (idx : List Nat) : Prop :=
  ∀ (s : Shared) (us ws : List Value), K.In s.heap → us.length = n → ws.length = ks.length → BindsTo s fd ⟨us, ks.zip ws⟩ (ps.zip (pickL idx (us ++ ws)))
theorem kwb {K : PySem.W.Frag} {x qual : Str} {st : Stmt} {f : Addr} {fd : FuncData} {ps ks : List Str} {n : Nat} {idx : List Nat} (F : Fun K x qual st f fd)
    (h : ∀ (kV doc pm : Value) (an : Option Addr) (cdv ct : Value) (us ws : List Value), us.length = n → ws.length = ks.length → bindArgs (PySem.W.fnOf x qual (defArgs st) (defBody st) (defScope st) .none kV doc pm an cdv ct) ⟨us, ks.zip ws⟩ = pure (ps.zip (pickL idx (us ++ ws)))) : KwB K fd ps n ks idx := by
  obtain ⟨oc, od, kV, doc, pm, an, cdv, ct, osl, rfl, lk, hcd⟩ := F.ex
  exact fun s us ws _ h1 h2 => .of_eq (h kV doc pm an cdv ct us ws h1 h2)
def tCallKw (n m : Nat) (sp : Sp) (idx : List Nat) (E : L2.St → XK) (t tk : TA) : TE := fun σ H Q => t σ H fun vs H1 => tk σ H1 fun zs H2 => vs.length = n ∧ zs.length = m ∧ sp (pickL idx (vs ++ zs)) H2 Q (E σ)
def qCallKw (n m : Nat) (P : DSp) (idx : List Nat) (qa qk : DTA) : DTE := fun DW p M Q => qa DW p M fun ds M1 => qk DW p M1 fun zs M2 => ds.length = n ∧ zs.length = m ∧ P (pickL idx (ds ++ zs)) M2 Q fun x M3 => DW x p M3
theorem run_kw {sp : Sp} {E : L2.St → XK} {CX : CXT} {pins : List (Addr × Obj)} {σ : L2.St} {H : Hp} {s : Shared} {Q : VK} {us ws : List Value} {vs zs : List V} (F : FnOk X.prog X.w X.K X.mg X.base CX k f fd ps sp) (hr : Room k X.A) (hb : KwB X.K fd ps n ks idx) (hx : PassesAt CX X σ (E σ))
    (I : Inv X pins σ H s) (r : Vals vs us) (rz : Vals zs ws) (l1 : vs.length = n) (l2 : zs.length = ks.length) (h : sp (pickL idx (vs ++ zs)) H Q (E σ)) : wpAny (model X.prog X.w) X.A (call (.ref f) us (ks.zip ws)) (EP X pins σ Q) X.xe s := by
  have r2 := pick_vals (r.append rz) idx
  refine wpAny_call (codeAny_mono (F.run X.A X.stack s H ⟨us, ks.zip ws⟩ _ _ Q (E σ) hr I.env0 (hb s us ws I.kIn (r.length.symm.trans l1) (rz.length.symm.trans l2)) r2 h) fun r s' hq => ?_)
  cases r with
  | error e => exact hx pins H s e s' I hq
  | ok fl =>
    cases fl with
    | ret u => exact I.after hq
    | next => exact False.elim hq
    | brk => exact False.elim hq
    | cont => exact False.elim hq
theorem ref_callKw {K : PySem.W.Frag} {m : Nat} (ha : RefA K W t q) (hkw : RefA K W tk qk) : RefE K W (tCallKw n m (toSp K P) idx (fun s => WE W s) t tk) (qCallKw n m P idx q qk) :=
  fun DW G H p M s Q Q' hw S h k => ha DW G H p M s _ _ hw S h fun G1 H1 M1 as vs e1 S1 r1 h1 => hkw DW G1 H1 p M1 s _ _ (hw.mono e1) S1 h1 fun G2 H2 M2 zs ws e2 S2 r2 ⟨l1, l2, h2⟩ =>
    ⟨by rw [r1.length]; exact l1, by rw [r2.length]; exact l2, toSp_at (hw.mono (e1.trans e2)) S2 (pick_rep (RepL.append (RepL.mono e2 _ _ r1) r2) idx) h2 fun G' H' M' d v e3 => k G' H' M' d v ((e1.trans e2).trans e3)⟩
/-- f(k = v, ..) -/
theorem q_callK0 (F : FnOk X.prog X.w X.K X.mg X.base (L2.CX X.prog X.w) k f fd ps (toSp X.K P)) (hr : Room k X.A) (tkk : Takes X W) (hg : Gl X x) (hm : X.mg x = some (.ref f)) (hk : PySem.W.keepIn X.K (.ref f) = true) (hb : KwB X.K fd ps 0 ks idx)
    (hkw : QK X W kws tk qk) (hall : (backToKw pos (keywordEach kws X.env)).all (·.1.isSome) = true := by rfl) (hks : (backToKw pos (keywordEach kws X.env)).filterMap (·.1) = ks := by rfl)
    (hdb : (x == ("__debug__" : Str)) = false := by decide) (hpl : ((backTo pos (starEach [] X.env)).any (·.1) || (backToKw pos (keywordEach kws X.env)).any (·.1.isNone)) = false := by rfl) :
    QE X W (.Call (.Name x p) [] kws pos) (tCallKw 0 ks.length (toSp X.K P) idx (fun s => WE W s) tNil tk) (qCallKw 0 ks.length P idx qNil qk) := by
  refine ⟨⟨fun pins s σ H Q I h => ?_⟩, ref_callKw (fun DW G H p M s Q Q' hw S q k => k G H M [] [] (Same.refl _) S rfl q) hkw.rf⟩
  refine wpAny_Call_Name_kw (ld_glob I hg hm ?_ hdb)
  refine PySem.W.callWith_KW0 (h₀ := X.base) I.ok.mod.kin hk hall (thn (hkw.pe.run pos pins s σ H _ I h) fun ws s2 ⟨zs, H2, I2, rz, l1, l2, q2⟩ => ⟨I2.kIn, ?_⟩) hpl
  rw [hks]
  exact run_kw (E := fun s => WE W s) F hr hb (passAt tkk σ) I2 .nil rz l1 l2 q2
/-- f(e, .., k = v, ..) -/
theorem q_callK (F : FnOk X.prog X.w X.K X.mg X.base (L2.CX X.prog X.w) k f fd ps (toSp X.K P)) (hr : Room k X.A) (tkk : Takes X W) (hg : Gl X x) (hm : X.mg x = some (.ref f)) (hk : PySem.W.keepIn X.K (.ref f) = true) (hb : KwB X.K fd ps n ks idx)
    (ha : QA X W (e :: es) t q) (hkw : QK X W kws tk qk) (hall : (backToKw pos (keywordEach kws X.env)).all (·.1.isSome) = true := by rfl) (hks : (backToKw pos (keywordEach kws X.env)).filterMap (·.1) = ks := by rfl)
    (hdb : (x == ("__debug__" : Str)) = false := by decide) (he : starEach (e :: es) X.env = (false, eval e X.env) :: starEach es X.env := by rfl)
    (hpl : ((backTo pos (starEach (e :: es) X.env)).any (·.1) || (backToKw pos (keywordEach kws X.env)).any (·.1.isNone)) = false := by rfl) :
    QE X W (.Call (.Name x p) (e :: es) kws pos) (tCallKw n ks.length (toSp X.K P) idx (fun s => WE W s) t tk) (qCallKw n ks.length P idx q qk) := by
  refine ⟨⟨fun pins s σ H Q I h => ?_⟩, ref_callKw ha.rf hkw.rf⟩
  refine wpAny_Call_Name_kw (ld_glob I hg hm ?_ hdb)
  refine PySem.W.callWith_KW (h₀ := X.base) I.ok.mod.kin hk hall (thn (ha.pe.run pos pins s σ H _ I h) fun us s1 ⟨vs, H1, I1, r, q⟩ => ?_) hpl he
  refine thn (hkw.pe.run pos pins s1 σ H1 _ I1 q) fun ws s2 ⟨zs, H2, I2, rz, l1, l2, q2⟩ => ⟨I2.kIn, ?_⟩
  rw [hks]
  exact run_kw (E := fun s => WE W s) F hr hb (passAt tkk σ) I2 r rz l1 l2 q2
end
end DL

/-! DLo: data that are alike; what things are. -/
namespace DL
open PySem L2
mutual
theorem deq_refl : ∀ d : D, isData d = true → deq d d = true
  | .non, _ => by simp [deq, pyd, PyData.eqv]
  | .bl b, _ => by simp [deq, pyd, PyData.eqv]
  | .int i, _ => by simp [deq, pyd, PyData.eqv]
  | .str x, _ => by simp [deq, pyd, PyData.eqv]
  | .tup ds, h => by have := deqL_refl ds h; simpa [deq, deqL, pyd, PyData.eqv] using this
  | .ktp ds, h => by have := deqL_refl ds h; simpa [deq, deqL, pyd, PyData.eqv] using this
  | .lst ds, h => by have := deqL_refl ds h; simpa [deq, deqL, pyd, PyData.eqv] using this
  | .scr _, h => by cases h
  | .ty _, h => by cases h
  | .ref _, h => by cases h
  | .dct _ _, h => by cases h
  | .ins _ _ _, h => by cases h
  | .exc _ _ _ _, h => by cases h
theorem deqL_refl : ∀ ds : List D, isDataL ds = true → deqL ds ds = true
  | [], _ => by simp [deqL, pydL, PyData.eqvAll]
  | d :: ds, h => by
    have h' : isData d = true ∧ isDataL ds = true := by simpa [isDataL] using h
    have h1 := deq_refl d h'.1
    have h2 := deqL_refl ds h'.2
    simp only [deq, deqL, pydL, PyData.eqvAll] at h1 h2 ⊢
    rw [h1, h2]; rfl
end
theorem deq_str (x y : Str) : deq (.str x) (.str y) = decide (x = y) := by
  unfold deq; simp only [pyd, PyData.eqv]; exact Bool.beq_eq_decide_eq _ _
theorem deq_bl (x y : Bool) : deq (.bl x) (.bl y) = decide (x = y) := by
  unfold deq; simp only [pyd, PyData.eqv]; exact Bool.beq_eq_decide_eq _ _
theorem depA_le {n : Nat} : ∀ ds : List D, (∀ d ∈ ds, dep d ≤ n) → PyData.depthAll (pydL ds) ≤ n
  | [], _ => by simp [pydL, PyData.depthAll]
  | d :: ds, h => by
    have h1 := h d (List.mem_cons_self ..)
    have h2 := depA_le ds fun x hx => h x (List.mem_cons_of_mem _ hx)
    unfold dep at h1
    simp only [pydL, PyData.depthAll]
    omega
theorem dep_lst {n : Nat} {ds : List D} (h : ∀ d ∈ ds, dep d ≤ n) : dep (.lst ds) ≤ n + 1 := by
  have := depA_le ds h
  simp only [dep, pyd, PyData.depth]; omega
theorem dep_tup {n : Nat} {ds : List D} (h : ∀ d ∈ ds, dep d ≤ n) : dep (.tup ds) ≤ n + 1 := by
  have := depA_le ds h
  simp only [dep, pyd, PyData.depth]; omega
theorem dep_flat {d : D} (h : flatD d = true) : dep d = 0 := by
  cases d with
  | non => simp [dep, pyd, PyData.depth]
  | bl _ => simp [dep, pyd, PyData.depth]
  | int _ => simp [dep, pyd, PyData.depth]
  | str _ => simp [dep, pyd, PyData.depth]
  | _ => cases h
/-- == of what is the same -/
theorem eq_same {neg : Bool} {x y d : D} {M : Mst} {Q : DK} (hx : res M x = d) (hy : res M y = d) (h : isData d = true) (hd : dep d ≤ 64) : dEq neg x y M Q = Q (.bl (!neg)) M := by
  unfold dEq
  rw [hx, hy, deq_refl d h]
  have h3 : min (dep d) (dep d) ≤ 64 := Nat.le_trans (Nat.min_le_left _ _) hd
  simp only [h, h3, Bool.xor_true, true_and]
theorem eq_str {neg : Bool} {x y : Str} {M : Mst} {Q : DK} : dEq neg (.str x) (.str y) M Q = Q (.bl (xor neg (decide (x = y)))) M := by
  unfold dEq
  rw [res_str, res_str, deq_str]
  have h1 : isData (.str x) = true := rfl
  have h2 : isData (.str y) = true := rfl
  have h3 : min (dep (.str x)) (dep (.str y)) ≤ 64 := by simp [dep, pyd, PyData.depth]
  simp [h1, h2, h3]
/-- isinstance(x, T) -/
theorem isi_one {x : D} {T : String} {b : Bool} {M : Mst} {Q : DK} (h : hasTy (res M x) = true) (hb : isiB (tyD (res M x)) T = some b) : dIsi [x, .ty T] M Q = Q (.bl b) M := by
  unfold dIsi; simp only [h, hb, true_and]
theorem isi_tup {x : D} {Ts : List D} {b : Bool} {M : Mst} {Q : DK} (h : hasTy (res M x) = true) (hb : isiL (tyD (res M x)) Ts = some b) : dIsi [x, .tup Ts] M Q = Q (.bl b) M := by
  unfold dIsi; simp only [h, hb, true_and]
theorem ll : isiB "list" "list" = some true := by decide +kernel
theorem tt_ : isiB "tuple" "tuple" = some true := by decide +kernel
theorem ii : isiB "int" "int" = some true := by decide +kernel
theorem ib : isiB "int" "bool" = some false := by decide +kernel
theorem tl : isiB "tuple" "list" = some false := by decide +kernel
theorem lt2_l : isiL "list" [.ty "list", .ty "tuple"] = some true := by decide +kernel
theorem lt2_t : isiL "tuple" [.ty "list", .ty "tuple"] = some true := by decide +kernel
theorem lt2_i : isiL "int" [.ty "list", .ty "tuple"] = some false := by decide +kernel
theorem lt2_s : isiL "str" [.ty "list", .ty "tuple"] = some false := by decide +kernel
theorem lt2_n : isiL "NoneType" [.ty "list", .ty "tuple"] = some false := by decide +kernel
theorem lt2_b : isiL "bool" [.ty "list", .ty "tuple"] = some false := by decide +kernel
/-- all(list of truths) -/
theorem all_bls {bs : List Bool} {M : Mst} {Q : DK} : dAll [.lst (bs.map D.bl)] M Q = Q (.bl (bs.all id)) M := by
  have h : blsD (bs.map D.bl) = some bs := by
    have := blsD_map (id : Bool → Bool) bs
    simpa using this
  unfold dAll
  simp only [res_lst, h]
section
variable {P : Program} {w : World} {K : PySem.W.Frag} {mg : Str → Option Value} {base : Heap}
theorem fn_void {k : Nat} {f : Addr} {fd : FuncData} {ps : List Str} {p : DSp} (h : ∀ ds M Q E, ¬ p ds M Q E) : FnOk P w K mg base (L2.CX P w) k f fd ps (toSp K p) :=
  ⟨fun _ _ _ _ q => by
    obtain ⟨_, ds, M, Qd, Ed, _, _, _, hp, _⟩ := q
    exact (h _ _ _ _ hp).elim, fun _ _ _ _ _ _ _ _ _ _ _ _ _ hs => by
    obtain ⟨_, ds, M, Qd, Ed, _, _, _, hp, _⟩ := hs
    exact (h _ _ _ _ hp).elim⟩
end
end DL

/-! DLp: texts. -/
namespace DL
open PySem L2
def okS (z : Str) : Prop := z.length ≤ 100000 ∧ PyData.strOk z = true
theorem okS_rep {K : PySem.W.Frag} {G : Hp} {z : Str} (h : okS z) : Rep K G (.str z) (.str z) := ⟨rfl, sz1000 h.1, h.2⟩
theorem hz24 : sizeLine = 16777216 := by rw [sizeLine_eq]
/-! ### lower, upper, split, join -/
def mTxt0 (g : Str → Str) : DMt := fun x ds M Q => match res M x, ds with
  | .str z, [] => z.length ≤ 100000 ∧ okS (g z) ∧ Q (.str (g z)) M
  | _, _ => False
def rTxt0 (g : Str → Str) : V → List V → Hp → VK → Prop := fun x xs H Q => ∃ a, x = .str a ∧ xs = [] ∧ a.length ≤ 100000 ∧ Q (.str (g a)) H
theorem ref_txt0 {K : PySem.W.Frag} {g : Str → Str} : RefM K (rTxt0 g) (mTxt0 g) := fun G H p M s x v ds vs Q Q' S r1 r2 h k => by
  unfold mTxt0 at h
  split at h
  · next z e =>
    obtain ⟨rfl, _, _⟩ := as_str r1 e
    cases r2
    obtain ⟨h1, h2, h3⟩ := h
    exact ⟨z, rfl, rfl, h1, k G H M (.str (g z)) _ (Same.refl _) S (okS_rep h2) h3⟩
  · exact h.elim
theorem MtR.imp {X : Cx} {id : String} {r r' : V → List V → Hp → VK → Prop} (h : MtR X id r) (i : ∀ x xs H Q, r' x xs H Q → r x xs H Q) : MtR X id r' := fun pins s σ H x xs v us Q I rx rs q => h pins s σ H x xs v us Q I rx rs (i _ _ _ _ q)
theorem m_lower {X : Cx} : QMt X "str.lower" (rTxt0 Txt.lower) (mTxt0 Txt.lower) := ⟨MtR.imp mt_lower fun x xs H Q ⟨a, e1, e2, e3, q⟩ => ⟨a, e1, e2, by omega, q⟩, ref_txt0⟩
theorem m_upper {X : Cx} : QMt X "str.upper" (rTxt0 Txt.upper) (mTxt0 Txt.upper) := ⟨MtR.imp mt_upper fun x xs H Q ⟨a, e1, e2, e3, q⟩ => ⟨a, e1, e2, by omega, q⟩, ref_txt0⟩
theorem repL_strs {K : PySem.W.Frag} {G : Hp} : ∀ {ys : List Str}, (∀ y ∈ ys, okS y) → RepL K G (ys.map D.str) (ys.map V.str)
  | [], _ => rfl
  | y :: ys, h => ⟨_, _, rfl, okS_rep (h y (List.mem_cons_self ..)), repL_strs fun x hx => h x (List.mem_cons_of_mem _ hx)⟩
def rWords (f : Str → List Str) : V → List V → Hp → VK → Prop := fun x xs H Q => ∃ a, x = .str a ∧ xs = [] ∧ a.length ≤ 100000 ∧ rNewStrs (f a) H Q
/-- x.split() -/
def mWords (m : Bool) : DMt := fun x ds M Q => match res M x, ds with
  | .str z, [] => z.length ≤ 100000 ∧ (∀ y ∈ Txt.words z, okS y) ∧ newL m ((Txt.words z).map .str) M Q
  | _, _ => False
theorem m_words {X : Cx} (m : Bool) : QMt X "str.split" (rWords Txt.words) (mWords m) := ⟨MtR.imp mt_words fun x xs H Q ⟨a, e1, e2, e3, q⟩ => ⟨a, e1, e2, by have := hz24; omega, q⟩, fun G H p M s x v ds vs Q Q' S r1 r2 h k => by
  unfold mWords at h
  split at h
  · next z e =>
    obtain ⟨rfl, _, _⟩ := as_str r1 e
    cases r2
    obtain ⟨h1, h2, h3⟩ := h
    refine ⟨z, rfl, rfl, h1, fun q hq => newL_ok S hq (repL_strs h2) ?_ h3 k⟩
    have := words_le z
    rw [List.length_map, hz24]; omega
  · exact h.elim⟩
/-- x.split(sep) -/
def rSplit : V → List V → Hp → VK → Prop := fun x xs H Q => ∃ a b, x = .str a ∧ xs = [.str b] ∧ (b.length == 0) = false ∧ a.length ≤ 100000 ∧ rNewStrs (Txt.split a b) H Q
def mSplit (m : Bool) : DMt := fun x ds M Q => match res M x, ds with
  | .str z, [d] => match res M d with
    | .str b => z.length ≤ 100000 ∧ (b.length == 0) = false ∧ (∀ y ∈ Txt.split z b, okS y) ∧ newL m ((Txt.split z b).map .str) M Q
    | _ => False
  | _, _ => False
theorem m_split {X : Cx} (m : Bool) : QMt X "str.split" rSplit (mSplit m) := ⟨MtR.imp mt_split fun x xs H Q ⟨a, b, e1, e2, e3, e4, q⟩ => ⟨a, b, e1, e2, e3, by have := hz24; omega, q⟩, fun G H p M s x v ds vs Q Q' S r1 r2 h k => by
  unfold mSplit at h
  split at h
  · next z d e =>
    obtain ⟨rfl, _, _⟩ := as_str r1 e
    obtain ⟨u, rfl, r3⟩ := repL1 r2
    split at h
    · next b eb =>
      obtain ⟨rfl, _, _⟩ := as_str r3 eb
      obtain ⟨h1, h2, h3, h4⟩ := h
      refine ⟨z, b, rfl, rfl, h2, h1, fun q hq => newL_ok S hq (repL_strs h3) ?_ h4 k⟩
      rw [List.length_map]
      exact Nat.le_trans (PyProof.Rows.split_le z b) (by have := hz24; omega)
    · exact h.elim
  · exact h.elim⟩
def strsD : List D → Option (List Str)
  | [] => some []
  | .str x :: ds => (strsD ds).map (x :: ·)
  | _ :: _ => none
@[simp] theorem strsD_map : ∀ ys : List Str, strsD (ys.map D.str) = some ys
  | [] => rfl
  | y :: ys => by simp [strsD, strsD_map ys]
theorem strsD_of {K : PySem.W.Frag} {G : Hp} : ∀ {ds : List D} {vs : List V} {ys : List Str}, RepL K G ds vs → strsD ds = some ys → vs = ys.map V.str
  | [], _, _, r, h => by cases r; cases h; rfl
  | d :: ds, _, ys, ⟨v, r, e1, r1, r2⟩, h => by
    cases d with
    | str x =>
      simp only [strsD, Option.map_eq_some_iff] at h
      obtain ⟨zs, h1, rfl⟩ := h
      obtain ⟨rfl, _⟩ := r1
      rw [e1, strsD_of r2 h1]; rfl
    | _ => cases h
def rJoin (K : PySem.W.Frag) : V → List V → Hp → VK → Prop := fun x xs H Q => ∃ a p, ∃ ys : List Str, x = .str a ∧ xs = [.ref p] ∧ SqL K H p (ys.map V.str) ∧ (ys.map (·.length)).sum + ys.length * a.length ≤ 100000 ∧ Q (.str (Txt.join a ys)) H
/-- sep.join(a list of texts) -/
def mJoin : DMt := fun x ds M Q => match res M x, ds with
  | .str z, [d] => match res M d with
    | .lst es => match strsD es with
      | some ys => (ys.map (·.length)).sum + ys.length * z.length ≤ 100000 ∧ okS (Txt.join z ys) ∧ Q (.str (Txt.join z ys)) M
      | none => False
    | _ => False
  | _, _ => False
theorem m_join {X : Cx} : QMt X "str.join" (rJoin X.K) mJoin := ⟨MtR.imp mt_join fun x xs H Q ⟨a, p, ys, e1, e2, e3, e4, q⟩ => ⟨a, p, ys, e1, e2, .inl e3, by omega, q⟩, fun G H p M s x v ds vs Q Q' S r1 r2 h k => by
  unfold mJoin at h
  split at h
  · next z d e =>
    obtain ⟨rfl, _, _⟩ := as_str r1 e
    obtain ⟨u, rfl, r3⟩ := repL1 r2
    split at h
    · next es ed =>
      obtain ⟨a, vs, rfl, h1, h2, _⟩ := as_lst S r3 ed
      split at h
      · next ys ey =>
        have ev := strsD_of h2 ey
        subst ev
        obtain ⟨g1, g2, g3⟩ := h
        exact ⟨z, a, ys, rfl, rfl, .inl (.inl h1), g1, k G H M (.str (Txt.join z ys)) _ (Same.refl _) S (okS_rep g2) g3⟩
      · exact h.elim
    · exact h.elim
  · exact h.elim⟩
/-! ### * -/
def repS (z : Str) (n : Int) : Str := ⟨(List.replicate n.toNat z.cps).foldl (· ++ ·) #[]⟩
def rMulS : R2 := fun x y H Q => ∃ (z : Str) (n : Int), x = .str z ∧ y = .int n ∧ -(2 ^ 62) ≤ n ∧ n ≤ 100000 ∧ z.length * n.toNat ≤ 100000 ∧ Q (.str (repS z n)) H
theorem fold_size (a : Array Nat) : ∀ (k : Nat) (acc : Array Nat), ((List.replicate k a).foldl (· ++ ·) acc).size = acc.size + k * a.size
  | 0, acc => by simp
  | k + 1, acc => by
    rw [List.replicate_succ, List.foldl_cons, fold_size a k, Array.size_append, Nat.succ_mul]; omega
theorem op_mulS {X : Cx} : OpR X (binaryOp .Mult) rMulS := by
  intro pins s σ H x y v u Q I rx ry h
  obtain ⟨z, n, rfl, rfl, h1, h2, h3, q⟩ := h
  obtain ⟨t, rfl⟩ := rx
  obtain ⟨t2, rfl⟩ := ry
  have hz := hz24
  refine P.mul_str ?_ (fun a1 a2 => ?_) (fun a1 a2 => ?_) ?_
  · have e1 : ¬ n < -(2 ^ 63 : Int) := by omega
    have e2 : ¬ n ≥ 2 ^ 63 := by omega
    rw [decide_eq_false e1, decide_eq_false e2]; rfl
  · intro z1
    have e : (2 ^ 63 - 1 : Int) / n ≥ (z.length : Int) := by
      refine Int.le_ediv_of_mul_le (by omega) ?_
      have e3 : ((z.length * n.toNat : Nat) : Int) ≤ 100000 := Int.ofNat_le.mpr h3
      have e4 : ((n.toNat : Nat) : Int) = n := by omega
      rw [Int.natCast_mul, e4] at e3
      omega
    omega
  · unfold Builtin.Str.tooLong
    exact decide_eq_false (by rw [hz]; omega)
  · split
    · next hn =>
      have e : n.toNat = 0 := by omega
      have e2 : repS z n = Str.empty := by unfold repS; rw [e]; rfl
      exact ⟨by decide, .str (repS z n), H, I.tok _, ⟨s.toks, by rw [e2]⟩, q⟩
    · split
      · next hn hz =>
        refine ⟨.str (repS z n), H, I, ⟨t, ?_⟩, q⟩
        have e : repS z n = z := by
          rw [Bool.or_eq_true] at hz
          rcases hz with hz | hz
          · have e1 : n = 1 := by simpa using hz
            subst e1
            show (⟨#[] ++ z.cps⟩ : Str) = z
            simp
          · have e1 : z.cps.size = 0 := by
              have e0 : z.length = 0 := by simpa using hz
              exact e0
            have e2 : z.cps = #[] := Array.eq_empty_of_size_eq_zero e1
            have e3 : z = ⟨#[]⟩ := by cases z; simp at e2; rw [e2]
            rw [e3]; unfold repS
            generalize n.toNat = k
            have : ∀ k : Nat, (List.replicate k (#[] : Array Nat)).foldl (· ++ ·) #[] = #[] := fun k => by
              induction k with
              | zero => rfl
              | succ k ih => rw [List.replicate_succ, List.foldl_cons]; simpa using ih
            rw [this]
        rw [e]
      · exact ⟨by
          show (repS z n).length ≤ sizeLine
          have e : (repS z n).length = 0 + n.toNat * z.cps.size := fold_size z.cps n.toNat #[]
          have e2 : z.length = z.cps.size := rfl
          rw [e, hz, Nat.mul_comm, ← e2]; omega, .str (repS z n), H, I.tok _, ⟨_, rfl⟩, q⟩
def dMul (m : Bool) : DOp := fun x y M Q => match res M x, y with
  | .int i, .int j => CMul i j ∧ Q (.int (i * j)) M
  | .str z, .int n => -(2 ^ 62) ≤ n ∧ n ≤ 100000 ∧ z.length * n.toNat ≤ 100000 ∧ PyData.strOk (repS z n) = true ∧ Q (.str (repS z n)) M
  | .lst ds, .int n => -(2 ^ 62) ≤ n ∧ n ≤ 100000 ∧ ds.length * n.toNat ≤ 100000 ∧ newL m (List.replicate n.toNat ds).flatten M Q
  | _, _ => False
theorem repL_rep {K : PySem.W.Frag} {G : Hp} {ds : List D} {vs : List V} (r : RepL K G ds vs) : ∀ n : Nat, RepL K G (List.replicate n ds).flatten (List.replicate n vs).flatten
  | 0 => rfl
  | n + 1 => by rw [List.replicate_succ, List.replicate_succ, List.flatten_cons, List.flatten_cons]; exact RepL.append r (repL_rep r n)
theorem rep_flat_len {α : Type} (l : List α) : ∀ n : Nat, (List.replicate n l).flatten.length = l.length * n
  | 0 => rfl
  | n + 1 => by rw [List.replicate_succ, List.flatten_cons, List.length_append, rep_flat_len l n, Nat.mul_succ]; omega
def rMulX : R2 := fun x y H Q => rI CMul (fun i j => .int (i * j)) x y H Q ∨ rMulS x y H Q ∨ rRep x y H Q
theorem o_mul {X : Cx} (m : Bool) : QOp X (binaryOp .Mult) rMulX (dMul m) := ⟨OpR.or op_mul (OpR.or op_mulS op_rep), fun G H p M s x y v u Q Q' S r1 r2 h k => by
  unfold dMul at h
  split at h
  · next i j e =>
    cases as_int r1 e
    cases r2
    exact .inl ⟨i, j, rfl, rfl, h.1, k G H M (.int (i * j)) _ (Same.refl _) S rfl h.2⟩
  · next z n e =>
    obtain ⟨rfl, _, _⟩ := as_str r1 e
    cases r2
    obtain ⟨h1, h2, h3, h4, h5⟩ := h
    refine .inr (.inl ⟨z, n, rfl, rfl, h1, h2, h3, k G H M (.str (repS z n)) _ (Same.refl _) S (okS_rep ⟨?_, h4⟩) h5⟩)
    have e : (repS z n).length = 0 + n.toNat * z.cps.size := fold_size z.cps n.toNat #[]
    have e2 : z.length = z.cps.size := rfl
    rw [e, Nat.mul_comm, ← e2]; omega
  · next ds n e =>
    obtain ⟨a, vs, rfl, g1, g2, g3⟩ := as_lst S r1 e
    cases r2
    obtain ⟨h1, h2, h3, h4⟩ := h
    have hz := hz24
    have l1 := g2.length
    refine .inr (.inr ⟨a, n, vs, rfl, rfl, g1, by omega, by omega, by rw [l1]; omega, fun q hq => newL_ok S hq (repL_rep g2 _) ?_ h4 k⟩)
    rw [rep_flat_len, l1]; omega
  · exact h.elim⟩
/-! ### numbers and their texts -/
def rTexts : List V → Hp → VK → Prop := fun xs H Q => (∃ i, xs = [.int i] ∧ i.natAbs.log2 < 1920 ∧ Q (.str (toString i)) H) ∨ ∃ a, xs = [.str a] ∧ Q (.str a) H
/-- str(x) of a number, of a text -/
def dStr : DCa := fun ds M Q => match ds with
  | [x] => match res M x with
    | .int i => i.natAbs.log2 < 1920 ∧ okS (Str.ofString (toString i)) ∧ Q (.str (Str.ofString (toString i))) M
    | .str z => Q (.str z) M
    | _ => False
  | _ => False
theorem c_str {X : Cx} : QCa X (.type "str") rTexts dStr := ⟨CallR.or call_str_int SkE.call_str_str, fun G H p M s ds vs Q Q' S r h k => by
  unfold dStr at h
  split at h
  · next x =>
    obtain ⟨v, rfl, r1⟩ := repL1 r
    split at h
    · next i e =>
      cases as_int r1 e
      obtain ⟨h1, h2, h3⟩ := h
      exact .inl ⟨i, rfl, h1, k G H M (.str (Str.ofString (toString i))) _ (Same.refl _) S (okS_rep h2) h3⟩
    · next z e =>
      obtain ⟨rfl, l1, o1⟩ := as_str r1 e
      exact .inr ⟨z, rfl, k G H M (.str z) _ (Same.refl _) S ⟨rfl, l1, o1⟩ h⟩
    · exact h.elim
  · exact h.elim⟩
/-- int(x) of a number, a truth, a text -/
def dIntX : DCa := fun ds M Q => match ds with
  | [x] => match res M x with
    | .int i => Q (.int i) M
    | .bl b => Q (.int (if b then 1 else 0)) M
    | .str z => match intText? z with
      | some n => z.length ≤ 640 ∧ Q (.int n) M
      | none => False
    | _ => False
  | _ => False
theorem c_intX {X : Cx} : QCa X (.type "int") (fun xs H Q => ((∃ i, xs = [.int i] ∧ Q (.int i) H) ∨ ∃ k, xs = [.bl k] ∧ Q (.int (if k then 1 else 0)) H) ∨ ∃ a n, xs = [.str a] ∧ PySem.intText? a = some n ∧ a.length ≤ 640 ∧ Q (.int n) H) dIntX :=
  ⟨CallR.or call_int1 call_int_str, fun G H p M s ds vs Q Q' S r h k => by
  unfold dIntX at h
  split at h
  · next x =>
    obtain ⟨v, rfl, r1⟩ := repL1 r
    split at h
    · next i e =>
      cases as_int r1 e
      exact .inl (.inl ⟨i, rfl, k G H M (.int i) _ (Same.refl _) S rfl h⟩)
    · next b e =>
      cases as_bl r1 e
      exact .inl (.inr ⟨b, rfl, k G H M (.int (if b then 1 else 0)) _ (Same.refl _) S rfl h⟩)
    · next z e =>
      obtain ⟨rfl, _, _⟩ := as_str r1 e
      split at h
      · next n en => exact .inr ⟨z, n, rfl, en, h.1, k G H M (.int n) _ (Same.refl _) S rfl h.2⟩
      · exact h.elim
    · exact h.elim
  · exact h.elim⟩
end DL

/-! DLq: int(t, 10); a written dict with text keys. -/
namespace DL
open PySem L2 PySem.NumText PySem.Calls
structure Veil (p : Prop) : Prop where
  at_ : p
set_option maxHeartbeats 4000000 in
theorem ten_gives {x : PySem.Str} {u t : Tok} {n : Int} (hl : x.length ≤ 640) (hn : PySem.intText? x = some n) :
    Gives (Builtin.«int.__new__» ⟨[.type "int", .str x u, .int 10 t], []⟩) (.int n) :=
  .of_wp fun M A E s Q hQ => by
    obtain ⟨hp, g, d, tk, os⟩ := s
    have q1 := F.conv_sub_int
    have q2 := F.madeHere_int
    have q6 : typeOf (.str x u) = pure (.type "str") := rfl
    have len : (numSeenOf x).length ≤ 640 := Nat.le_trans (seen_length x) hl
    have both : (int_private% "readNumeral") 0 10 (numSeenOf x) = (int_private% "Numeral.value") n
        ∧ ((numSeenOf x).length == (numTextOf x).length) = true := by
      rcases read0 x len with ⟨m, a1, a2, a3⟩ | ⟨a1, _⟩
      · rw [hn] at a1; injection a1 with a1; subst a1; exact ⟨a3, a2⟩
      · rw [hn] at a1; cases a1
    have all := Veil.mk (And.intro len both)
    clear len both hl hn
    repeat (any_goals (first
      | assumption
      | ((with_reducible show wpAny _ _ ((int_private% "intFromText") _ _ _) _ _ _); refine Hx.wp_textB all.at_.1 all.at_.2.1 all.at_.2.2 ?_)
      | wp_step))
    all_goals first | exact ⟨_, rfl, hQ⟩ | skip
theorem ten_call {prog : Program} {w : World} {A : Around} {E : Value → Shared → Prop} {s : Shared} {Q : Value → Shared → Prop} {x : PySem.Str} {u t : Tok} {n : Int} (hl : x.length ≤ 640) (hn : PySem.intText? x = some n)
    (hQ : Q (.int n s.toks) { s with toks := s.toks + 1 }) : wpAny (model prog w) A (call (.type "int") [.str x u, .int 10 t]) Q E s :=
  callType_new F.called_int F.newNe_int (Hx.typeCall_int_2 _ _) (Hx.newCall_int_2 _ _) (fun obj => F.initArgs_range_2 obj _ _) F.entry_int_new (ten_gives hl hn).meets
    (show (Made.int n).post _ s from ⟨rfl, hQ⟩)
def rTen : List V → Hp → VK → Prop := fun xs H Q => ∃ a n, xs = [.str a, .int 10] ∧ PySem.intText? a = some n ∧ a.length ≤ 640 ∧ Q (.int n) H
theorem call_ten {X : Cx} : CallR X (.type "int") rTen := by
  intro pins s σ H xs us Q I r h
  obtain ⟨a, n, rfl, h1, h2, q⟩ := h
  obtain ⟨u, w', rfl, r1, r2⟩ := vals2 r
  obtain ⟨t1, rfl⟩ := r1
  obtain ⟨t2, rfl⟩ := r2
  exact ten_call h2 h1 ⟨.int n, H, I.tok _, ⟨_, rfl⟩, q⟩
def dTen : DCa := fun ds M Q => match ds with
  | [x, .int 10] => match res M x with
    | .str z => match intText? z with
      | some n => z.length ≤ 640 ∧ Q (.int n) M
      | none => False
    | _ => False
  | _ => False
theorem c_ten {X : Cx} : QCa X (.type "int") rTen dTen := ⟨call_ten, fun G H p M s ds vs Q Q' S r h k => by
  unfold dTen at h
  split at h
  · next x =>
    obtain ⟨v, u, rfl, r1, r2⟩ := repL2 r
    cases r2
    split at h
    · next z e =>
      obtain ⟨rfl, _, _⟩ := as_str r1 e
      split at h
      · next n en => exact ⟨z, n, rfl, en, h.1, k G H M (.int n) _ (Same.refl _) S rfl h.2⟩
      · exact h.elim
    · exact h.elim
  · exact h.elim⟩

/-! ### constants of the module -/
structure GlS (mg : Str → Option Value) (x z : Str) : Prop where
  ex : ∃ t, mg x = some (.str z t)
structure GlI (mg : Str → Option Value) (x : Str) (i : Int) : Prop where
  ex : ∃ t, mg x = some (.int i t)
section
variable {X : Cx} {W : WX} {pos : Pos}
theorem q_globS {x z : Str} (hg : Gl X x) (h : GlS X.mg x z) (hz : (decide (z.length ≤ 100000) && PyData.strOk z) = true := by decide +kernel) (hd : (x == ("__debug__" : Str)) = false := by decide) : QE X W (.Name x pos) (tC (.str z)) (qC (.str z)) := by
  obtain ⟨t, h⟩ := h.ex
  rw [Bool.and_eq_true] at hz
  exact q_glob hg h ⟨t, rfl⟩ (fun _ => ⟨rfl, sz1000 (of_decide_eq_true hz.1), hz.2⟩) hd
theorem q_globI {x : Str} {i : Int} (hg : Gl X x) (h : GlI X.mg x i) (hd : (x == ("__debug__" : Str)) = false := by decide) : QE X W (.Name x pos) (tC (.int i)) (qC (.int i)) := by
  obtain ⟨t, h⟩ := h.ex
  exact q_glob hg h ⟨t, rfl⟩ (fun _ => rfl) hd
end
/-! ### a written dict with text keys -/
theorem find_keys {P : Params} {z : Str} : ∀ {l : List DictEntry} {ks : List Str}, l.map He.keyOf = He.keysIn P ks → (l.find? (·.key.isStr z)).isSome = decide (z ∈ ks) ∧ l.any (·.refKey) = false
  | [], [], _ => ⟨rfl, rfl⟩
  | [], k :: ks, h => by cases h
  | e :: l, [], h => by cases h
  | e :: l, k :: ks, h => by
    have h0 : He.keyOf e :: l.map He.keyOf = some (k, PyData.keyHash P k) :: He.keysIn P ks := h
    injection h0 with h1 h2
    obtain ⟨i1, i2⟩ := find_keys (z := z) h2
    unfold He.keyOf at h1
    split at h1
    · next x t q =>
      have h3 := Option.some.inj h1
      obtain ⟨rfl, _⟩ := Prod.mk.inj h3
      have e2 : e.refKey = false := by unfold DictEntry.refKey; rw [q]
      have e3 : e.key.isStr z = (x == z) := by rw [q]; rfl
      refine ⟨?_, by rw [List.any_cons, e2, i2]; rfl⟩
      rw [List.find?_cons, e3]
      by_cases hz : x = z
      · subst hz; simp
      · have e4 : (x == z) = false := beq_eq_false_iff_ne.mpr hz
        have e5 : ¬ z = x := fun a => hz a.symm
        rw [e4]
        simp only [i1]
        apply decide_eq_decide.mpr
        simp [e5]
    · cases h1
theorem nsIn_keys {K : PySem.W.Frag} {P : Params} {d : Addr} {ks : List Str} (h : He.dicW K d = some (He.keysIn P ks)) (z : Str) : ∃ r, PySem.W.nsIn K d z = some r ∧ r.isSome = decide (z ∈ ks) := by
  unfold He.dicW at h
  split at h
  · next c es n sl hl =>
    split at h
    · next e =>
      obtain ⟨a, b⟩ := find_keys (z := z) (Option.some.inj h)
      unfold PySem.W.nsIn
      rw [hl]
      simp only
      split
      · next e0 he => rw [he] at a; exact ⟨_, rfl, a⟩
      · next he => rw [he] at a; rw [b]; exact ⟨none, rfl, a⟩
    · cases h
  · cases h
structure KDic (K : PySem.W.Frag) (w : World) (mg : Str → Option Value) (x : Str) (ks : List Str) : Prop where
  ex : ∃ d, mg x = some (.ref d) ∧ He.dicW K d = some (He.keysIn w.params ks)
def dInK (neg : Bool) (ks : List Str) : DUn := fun x M Q => match res M x with
  | .str z => Q (.bl (xor neg (decide (z ∈ ks)))) M
  | _ => False
section
variable {X : Cx} {W : WX} {a : Expr} {ta : TE} {qa : DTE} {pos p : Pos} {x : Str} {ks : List Str}
/-- e in D, D a written dict of the module with text keys -/
theorem q_inK (h : KDic X.K X.w X.mg x ks) (hg : Gl X x) (ha : QE X W a ta qa) (hd : (x == ("__debug__" : Str)) = false := by decide) (hm : behindInMarks .In (.Name x p) = false := by first | exact nomark _ | rfl) :
    ∃ t, QE X W (.Compare a [.In] [.Name x p] pos) t (qUn (dInK false ks) qa) := by
  obtain ⟨d, h1, h2⟩ := h.ex
  obtain ⟨es, n, KD⟩ := He.dicW_ok h2
  refine ⟨_, pe_cmpR (op_in_kd KD) ha.pe (pe_glob hg h1 (v := .ref d) rfl hd) hm, fun DW G H p M s Q Q' hw S hq k => ha.rf DW G H p M s _ _ hw S hq fun G1 H1 M1 dv v e1 S1 r1 h1 => ?_⟩
  unfold dInK at h1
  split at h1
  · next z e =>
    obtain ⟨rfl, _, _⟩ := as_str r1 e
    obtain ⟨r, n1, n2⟩ := nsIn_keys h2 z
    exact ⟨z, r, rfl, rfl, n1, k G1 H1 M1 (.bl r.isSome) _ e1 S1 rfl (by rw [n2]; simpa using h1)⟩
  · exact h1.elim
end
end DL

/-! DLr: zip of two tuples (or two lists). -/
namespace DL
open PySem L2
def tupAt : D → Option (List D)
  | .tup ds => some ds
  | .ktp ds => some ds
  | _ => none
theorem tupAt_of {K : PySem.W.Frag} {G : Hp} {d : D} {v : V} {ds : List D} (r : Rep K G d v) (h : tupAt d = some ds) : ∃ a vs, v = .ref a ∧ SqT K G a vs ∧ RepL K G ds vs ∧ ds.length ≤ sizeLine := by
  cases d with
  | tup es =>
    cases h
    obtain ⟨a, vs, rfl, g1, g2, g3⟩ := r
    exact ⟨a, vs, rfl, .inl (.inl g1), g2, by rw [← g2.length]; exact g3⟩
  | ktp es =>
    cases h
    obtain ⟨a, vs, rfl, g1, g2, g3⟩ := r
    exact ⟨a, vs, rfl, g1, g2, by rw [← g2.length]; exact g3⟩
  | _ => cases h
def qiZipT (qa : DTA) : DTI := fun DW p M R => qa DW p M fun ds M1 => match ds with
  | [x, y] => match tupAt x, tupAt y with
    | some es, some fs => R (zipD es fs) always M1
    | _, _ => False
  | _ => False
section
variable {X : Cx} {W : WX} {e e2 : Expr} {ta : TA} {qa : DTA} {p pos tpos : Pos} {elts : List Expr} {kk : Nat}
theorem qi_zipT (hg : Gl X "zip") (hm : X.mg "zip" = none) (ha : QA X W [e, e2] ta qa)
    (hs : starEach [e, e2] X.env = (false, eval e X.env) :: starEach [e2] X.env := by rfl) (hpl : (backTo pos (starEach [e2] X.env)).any (·.1) = false := by rfl) :
    QI X W (.Tuple elts kk tpos) (.Call (.Name "zip" p) [e, e2] [] pos) (RZ.iZipA X.K ta) (qiZipT qa) :=
  ⟨RZ.pi_zipA hg hm ha.pe hs hpl, fun DW G H p M s R R' hw S h k => ha.rf DW G H p M s _ _ hw S h fun G1 H1 M1 ds vs e1 S1 r1 h1 => by
    split at h1
    · next x y =>
      obtain ⟨v, u, rfl, r2, r3⟩ := repL2 r1
      split at h1
      · next es fs el1 el2 =>
        obtain ⟨a, us, rfl, c1, c2, len1⟩ := tupAt_of r2 el1
        obtain ⟨b, ws, rfl, d1, d2, len2⟩ := tupAt_of r3 el2
        refine ⟨a, b, us, ws, rfl, .inr ⟨same_t S1.same c1, same_t S1.same d1, k G1 H1 M1 _ _ _ e1 S1 ⟨fun G' H p M s i e S st hi => ?_, fun G' H p M s i x H' e S st y d hd => ?_, fun G' H p M s e S st => ?_⟩ (by rw [zipD_length]; omega) h1⟩⟩
        · rw [zipD_length] at hi
          obtain ⟨x, hx⟩ := get_lt (xs := us) (i := i) (by rw [c2.length]; omega)
          obtain ⟨y, hy⟩ := get_lt (xs := ws) (i := i) (by rw [d2.length]; omega)
          exact ⟨us, ws, x, y, same_t (e.trans S.same) c1, same_t (e.trans S.same) d1, hx, hy⟩
        · obtain ⟨T, x', y', rfl, hT, rfl, y1, y2⟩ := y
          rw [zipD_get] at hd
          split at hd
          · next d' d'' ed1 ed2 =>
            cases hd
            obtain ⟨w, w1, w2⟩ := c2.get ed1
            rw [y1 us (same_t (e.trans S.same) c1)] at w1; cases w1
            obtain ⟨w, w1, w3⟩ := d2.get ed2
            rw [y2 ws (same_t (e.trans S.same) d1)] at w1; cases w1
            obtain ⟨e2, S2⟩ := S.made (o := .tup [x', y']) hT
            exact ⟨_, e2, S2, T, _, rfl, upd_same, RepL.mono e2 _ _ (RepL.cons (Rep.mono e _ _ w2) (RepL.cons (Rep.mono e _ _ w3) rfl)), sz1000 (by simp)⟩
          · cases hd
        · refine ⟨us, ws, same_t (e.trans S.same) c1, same_t (e.trans S.same) d1, ?_⟩
          rw [zipD_length, c2.length, d2.length]; omega
      · exact h1.elim
    · exact h1.elim⟩
end
end DL

/-! DLs: the bag by the script's own places. -/
namespace DL
open PySem L2
def qBag2R : DTS :=
  (qSeq (qAsg (qC (.int 0)) (gNameD 2))
  (qSeq (qIfS (qTB (qOp (dCmpI fun i j => decide (i < j)) (qVar 1) (qCB dLen (qCons (qVar 0) qNil))))
  (qAsg (qOp dIx (qVar 0) (qVar 1)) (gNameD 2))
  qNext)
  (qSeq (qAsg (qC (.int 0)) (gNameD 3))
  (qSeq (qIfS (qTB (qOp (dCmpI fun i j => decide (j ≤ i)) (qCB dAbs (qCons (qVar 2) qNil)) (qOp (dInt CPow fun i j => i ^ j.toNat) (qC (.int 10)) (qC (.int 18)))))
  (qAsg (qCB dAbs (qCons (qVar 2) qNil)) (gNameD 3))
  qNext)
  (qSeq (qAsg (qLst false (qCons (qC (.int 2147483629)) (qCons (qC (.int 2147483587)) (qCons (qC (.int 2147483579)) (qCons (qC (.int 2147483563)) (qCons (qC (.int 2147483549)) (qCons (qC (.int 2147483543)) (qCons (qC (.int 2147483497)) (qCons (qC (.int 2147483489)) qNil))))))))) (gNameD 4))
  (qRet (qLst true (qCons (qVar 3) (qCons (qOp (dInt (fun _ j => 0 < j) fun i j => i % j) (qOp (dInt CPow fun i j => i ^ j.toNat) (qOp (dAdd false) (qOp (dAdd false) (qOp (dInt (fun _ j => 0 < j) fun i j => i % j) (qVar 2) (qC (.int 2147483647))) (qOp (dInt CMul fun i j => i * j) (qC (.int 104729)) (qVar 1))) (qC (.int 7))) (qC (.int 5))) (qOp dIx (qVar 4) (qOp (dInt (fun _ j => 0 < j) fun i j => i % j) (qVar 1) (qC (.int 8))))) qNil)))))))))
def bag2Tail : DTS :=
  (qSeq (qAsg (qLst false (qCons (qC (.int 2147483629)) (qCons (qC (.int 2147483587)) (qCons (qC (.int 2147483579)) (qCons (qC (.int 2147483563)) (qCons (qC (.int 2147483549)) (qCons (qC (.int 2147483543)) (qCons (qC (.int 2147483497)) (qCons (qC (.int 2147483489)) qNil))))))))) (gNameD 4))
  (qRet (qLst true (qCons (qVar 3) (qCons (qOp (dInt (fun _ j => 0 < j) fun i j => i % j) (qOp (dInt CPow fun i j => i ^ j.toNat) (qOp (dAdd false) (qOp (dAdd false) (qOp (dInt (fun _ j => 0 < j) fun i j => i % j) (qVar 2) (qC (.int 2147483647))) (qOp (dInt CMul fun i j => i * j) (qC (.int 104729)) (qVar 1))) (qC (.int 7))) (qC (.int 5))) (qOp dIx (qVar 4) (qOp (dInt (fun _ j => 0 < j) fun i j => i % j) (qVar 1) (qC (.int 8))))) qNil)))))
theorem bag2_end (c gr i : Int) (ns : List Int) (M : Mst) (Q : DK) (Ed : DX → Mst → Prop) (i0 : 0 ≤ i) (i1 : i < 10000) (g0 : 0 ≤ gr) (k : ∀ (p : Addr) (g m : Int), M p = none → 0 ≤ g → 0 ≤ m → m < 2147483648 → Q (.ref p) (put M p (.lst [.int g, .int m]))) (x5 : Option D) :
    bag2Tail (fun x _ M => Ed x M) (retE Q) [some (.scr ns), some (.int i), some (.int c), some (.int gr), x5] M := by
  simp only [bag2Tail, qSeq, qIfS, qTB, qOp, qVar, qC, qAsg, gNameD, qRet, qTup, qLst, qCons, qNil, retE, List.set_cons_zero, List.set_cons_succ, List.getElem?_cons_zero, List.getElem?_cons_succ, dInt_i, dAdd_i, newL_t]
  have z0 := Int.emod_nonneg c (show (2147483647 : Int) ≠ 0 by decide)
  have z1 := Int.emod_lt_of_pos c (show (0 : Int) < 2147483647 by decide)
  generalize c % 2147483647 = c2 at z0 z1 ⊢
  refine ⟨by simp, by decide, .inl ⟨by decide, by decide⟩, cpow_small (j := 5) (by omega) (by omega) (by decide), by decide, ?_⟩
  generalize (c2 + 104729 * i + 7) ^ Int.toNat 5 = big
  obtain ⟨x, hx, hm⟩ := atI_some (xs := [D.int 2147483629, .int 2147483587, .int 2147483579, .int 2147483563, .int 2147483549, .int 2147483543, .int 2147483497, .int 2147483489]) (i := i % 8) (Int.emod_nonneg _ (by decide)) (Int.emod_lt_of_pos _ (by decide))
  rw [ix_l hx]
  have : ∃ q : Int, x = .int q ∧ 0 < q ∧ q < 2147483648 := by
    simp only [List.mem_cons, List.not_mem_nil, or_false] at hm
    rcases hm with h | h | h | h | h | h | h | h <;> exact ⟨_, h, by decide, by decide⟩
  obtain ⟨q, rfl, q0, q1⟩ := this
  refine ⟨q0, by simp, fun p hp => k p _ _ hp g0 (Int.emod_nonneg _ (by omega)) ?_⟩
  have := Int.emod_lt_of_pos big q0
  show big % q < _
  omega

def bag2Mid (a b : Int) : DTS := (qSeq (qAsg (qC (.int 0)) (gNameD 3))
  (qSeq (qIfS (qTB (qOp (dCmpI fun i j => decide (j ≤ i)) (qCB dAbs (qCons (qVar 2) qNil)) (qOp (dInt CPow fun i j => i ^ j.toNat) (qC (.int a)) (qC (.int b)))))
  (qAsg (qCB dAbs (qCons (qVar 2) qNil)) (gNameD 3))
  qNext) bag2Tail))
theorem bag2_mid (ns : List Int) (i : Int) (M : Mst) (Q : DK) (Ed : DX → Mst → Prop) (i0 : 0 ≤ i) (i1 : i < 10000) (k : ∀ (p : Addr) (g m : Int), M p = none → 0 ≤ g → 0 ≤ m → m < 2147483648 → Q (.ref p) (put M p (.lst [.int g, .int m])))
    (a b : Int) (hab : CPow a b) (c : Int) : bag2Mid a b (fun x _ M => Ed x M) (retE Q) [some (.scr ns), some (.int i), some (.int c), none, none] M := by
  simp only [bag2Mid, qSeq, qAsg, qC, gNameD, List.set_cons_zero, List.set_cons_succ]
  simp only [qIfS, qTB, qOp]
  simp only [qCB, qCons, qVar, List.getElem?_cons_zero, List.getElem?_cons_succ]
  simp only [qNil, qC, dAbs_i, dInt_i, dCmpI_i, qNext]
  have ab : 0 ≤ if c < 0 then -c else c := by split <;> omega
  refine ⟨hab, ?_⟩
  have no : bag2Tail (fun x _ M => Ed x M) (retE Q) [some (.scr ns), some (.int i), some (.int c), some (.int 0), none] M := bag2_end c 0 i ns M Q Ed i0 i1 (by omega) k none
  have y2 : bag2Tail (fun x _ M => Ed x M) (retE Q) [some (.scr ns), some (.int i), some (.int c), some (.int (if c < 0 then -c else c)), none] M := bag2_end c _ i ns M Q Ed i0 i1 ab k none
  generalize bag2Tail = tail at no y2 ⊢
  by_cases h1 : decide (a ^ b.toNat ≤ if c < 0 then -c else c) = true
  · rw [if_pos h1]
    rw [abs_set _ _ _ _ _ .non]; exact y2
  · rw [if_neg h1]; exact no
theorem bag2_ok (ds : List D) (M : Mst) (Q : DK) (Ed : DX → Mst → Prop) (h : upSp spBagL ds M Q Ed) : qBag2R (fun x _ M => Ed x M) (retE Q) (startD ["_law_script", "_law_at", "_law_cell", "_law_great", "_law_primes"] ds) M := by
  obtain ⟨Q0, E0, ⟨ns, i, rfl, i0, i1, k0⟩, kq, _⟩ := h
  have k : ∀ (p : Addr) (g m : Int), M p = none → 0 ≤ g → 0 ≤ m → m < 2147483648 → Q (.ref p) (put M p (.lst [.int g, .int m])) := fun p g m a1 a2 a3 a4 => kq _ _ _ (Sub.refl _) (k0 p g m a1 a2 a3 a4)
  have part := bag2_mid ns i M Q Ed i0 i1 k 10 18 (cpow_small (j := 18) (by omega) (by omega) (by omega))
  show qSeq (qAsg (qC (.int 0)) (gNameD 2)) (qSeq (qIfS (qTB (qOp (dCmpI fun i j => decide (i < j)) (qVar 1) (qCB dLen (qCons (qVar 0) qNil))))
  (qAsg (qOp dIx (qVar 0) (qVar 1)) (gNameD 2))
  qNext) (bag2Mid 10 18)) _ _ [some (.scr ns), some (.int i), none, none, none] M
  generalize bag2Mid 10 18 = mid at part ⊢
  simp only [qSeq, qIfS, qTB, qOp, qVar, qC, qAsg, gNameD, qCB, qCons, qNil, qNext, List.set_cons_zero, List.set_cons_succ, List.getElem?_cons_zero, List.getElem?_cons_succ, dCmpI_i, len_s']
  by_cases h : i < (ns.length : Int)
  · rw [if_pos (by simpa using h)]
    obtain ⟨x, hx, _⟩ := atI_some (xs := ns) (i := i) i0 h
    rw [ix_s hx]
    exact part x
  · rw [if_neg (by simpa using h)]
    exact part 0
end DL

/-! TextA: texts of words with blanks and great letters. -/
namespace Tx20
open PySem L2 DL PyProof.Rows
def Asc (x : Str) : Prop := ∀ c ∈ x.cps.toList, c < 128
theorem asc_app {a b : Str} (ha : Asc a) (hb : Asc b) : Asc (a ++ b) := fun c hc => by
  rw [PySem.Str.cps_append, Array.toList_append, List.mem_append] at hc
  exact hc.elim (ha c) (hb c)
theorem asc_one {c : Nat} (h : c < 128) : Asc ⟨#[c]⟩ := fun d hd => by simp at hd; subst hd; exact h
theorem asc_empty : Asc Str.empty := fun d hd => by simp [Str.empty] at hd
theorem low_app {a b : Str} (ha : Asc a) (hb : Asc b) : Txt.lower (a ++ b) = Txt.lower a ++ Txt.lower b := by
  rw [lower_ascii ha, lower_ascii hb, lower_ascii (asc_app ha hb)]
  apply PySem.Str.ext'
  rw [PySem.Str.cps_append, PySem.Str.cps_append, Array.map_append]
theorem low_one {c : Nat} (h : c < 128) : Txt.lower ⟨#[c]⟩ = ⟨#[lo1 c]⟩ := by
  rw [lower_ascii (asc_one h)]; simp
theorem low_len {x : Str} (h : Asc x) : (Txt.lower x).length = x.length := by
  rw [lower_ascii h]; show (x.cps.map lo1).size = x.cps.size; simp
theorem low_asc {x : Str} (h : Asc x) : Asc (Txt.lower x) := fun c hc => by
  rw [lower_ascii h] at hc
  simp only [Array.toList_map, List.mem_map] at hc
  obtain ⟨d, hd, rfl⟩ := hc
  have := h d hd
  unfold lo1; split <;> omega
theorem ok_asc {x : Str} (h : Asc x) (hl : x.length ≤ 100000) : okS x := ⟨hl, by
  unfold PyData.strOk
  rw [← Array.all_toList, List.all_eq_true]
  intro c hc
  have := h c hc
  exact decide_eq_true (by omega)⟩
/-- x read up to here: the words done, the word begun -/
structure St (x : Str) (done : List Str) (cur : Str) : Prop where
  asc : Asc x
  at_ : KWd.scan (Txt.lower x) = (done, cur)
theorem st_empty : St Str.empty [] Str.empty := ⟨asc_empty, by
  have e : Txt.lower Str.empty = Str.empty := by rw [lower_ascii asc_empty]; simp [Str.empty]
  rw [e]; rfl⟩
theorem space32 : Unicode.isSpace (lo1 32) = true := by decide +kernel
theorem blank_one {x : Str} {done : List Str} {cur : Str} (h : St x done cur) : St (x ++ ⟨#[32]⟩) (if cur.length = 0 then done else done ++ [cur]) (if cur.length = 0 then cur else Str.empty) := by
  refine ⟨asc_app h.asc (asc_one (by decide)), ?_⟩
  rw [low_app h.asc (asc_one (by decide)), low_one (by decide), KWd.scan_snoc, h.at_]
  unfold KWd.step
  rw [if_pos space32]
  by_cases e : cur.length = 0
  · simp only [e, if_true]
  · simp only [e, if_false]
theorem len0 {x : Str} (h : x.length = 0) : x = Str.empty := by
  cases x with
  | mk cps =>
    have : cps.size = 0 := h
    have e : cps = #[] := Array.eq_empty_of_size_eq_zero this
    rw [e]; rfl
theorem app_empty (x : Str) : x ++ Str.empty = x := by
  apply PySem.Str.ext'; rw [PySem.Str.cps_append]; simp [Str.empty]
theorem app_assoc (x y z : Str) : x ++ y ++ z = x ++ (y ++ z) := by
  apply PySem.Str.ext'; simp only [PySem.Str.cps_append]; rw [Array.append_assoc]
def blanks : Nat → Str
  | 0 => Str.empty
  | n + 1 => ⟨#[32]⟩ ++ blanks n
theorem blanks_asc : ∀ n, Asc (blanks n)
  | 0 => asc_empty
  | n + 1 => asc_app (asc_one (by decide)) (blanks_asc n)
theorem blanks_len : ∀ n, (blanks n).length = n
  | 0 => rfl
  | n + 1 => by
    show ((⟨#[32]⟩ : Str) ++ blanks n).length = n + 1
    rw [len_append, blanks_len n]; show 1 + n = _; omega
theorem rep_blank (n : Int) : repS (PySem.Str.ofString " ") n = blanks n.toNat := by
  have e : (PySem.Str.ofString " ").cps = #[32] := by decide +kernel
  unfold repS
  rw [e]
  generalize n.toNat = k
  have : ∀ (k : Nat) (acc : Array Nat), (⟨(List.replicate k #[32]).foldl (· ++ ·) acc⟩ : Str) = (⟨acc⟩ : Str) ++ blanks k := fun k => by
    induction k with
    | zero => intro acc; exact (app_empty _).symm
    | succ k ih =>
      intro acc
      rw [List.replicate_succ, List.foldl_cons, ih]
      show (⟨acc ++ #[32]⟩ : Str) ++ blanks k = ⟨acc⟩ ++ (⟨#[32]⟩ ++ blanks k)
      rw [← app_assoc]; rfl
  rw [this k #[]]
  apply PySem.Str.ext'; rw [PySem.Str.cps_append]; simp
/-- blanks behind: no word is begun -/
theorem st_blanks0 {x : Str} {done : List Str} : ∀ n : Nat, St x done Str.empty → St (x ++ blanks n) done Str.empty
  | 0, h => by rw [blanks, app_empty]; exact h
  | n + 1, h => by
    have := st_blanks0 n (blank_one h)
    rw [blanks, ← app_assoc]
    simpa [Str.empty, Str.length] using this
theorem st_blanks {x : Str} {done : List Str} {cur : Str} {n : Nat} (h : St x done cur) (hn : 0 < n) (hc : cur.length ≠ 0) : St (x ++ blanks n) (done ++ [cur]) Str.empty := by
  obtain ⟨m, rfl⟩ : ∃ m, n = m + 1 := ⟨n - 1, by omega⟩
  have h1 := blank_one h
  rw [if_neg hc, if_neg hc] at h1
  rw [blanks, ← app_assoc]
  exact st_blanks0 m h1
/-- letters and figures -/
def Lf (c : Nat) : Prop := (97 ≤ c ∧ c ≤ 122) ∨ (48 ≤ c ∧ c ≤ 57)
theorem lf_space : ∀ c, c < 128 → (97 ≤ c ∧ c ≤ 122) ∨ (48 ≤ c ∧ c ≤ 57) → Unicode.isSpace c = false := by decide +kernel
theorem st_sign {x : Str} {done : List Str} {cur : Str} {c d : Nat} (h : St x done cur) (hc : Lf c) (hd : d = c ∨ d = if 97 ≤ c ∧ c ≤ 122 then c - 32 else c) : St (x ++ ⟨#[d]⟩) done (cur ++ ⟨#[c]⟩) := by
  have hd2 : d < 128 ∧ lo1 d = c := by
    unfold Lf at hc
    unfold lo1
    rcases hd with rfl | rfl
    · refine ⟨by omega, ?_⟩; split <;> omega
    · split
      · refine ⟨by omega, ?_⟩; rw [if_pos (by omega)]; omega
      · refine ⟨by omega, ?_⟩; split <;> omega
  refine ⟨asc_app h.asc (asc_one hd2.1), ?_⟩
  rw [low_app h.asc (asc_one hd2.1), low_one hd2.1, KWd.scan_snoc, h.at_, hd2.2]
  unfold KWd.step
  have hs := lf_space c (by unfold Lf at hc; omega) hc
  rw [if_neg (by rw [hs]; exact Bool.false_ne_true)]
theorem st_words {x : Str} {done : List Str} {cur : Str} (h : St x done cur) : Txt.words (Txt.lower x) = if cur.length = 0 then done else done ++ [cur] := KWd.words_of h.at_
theorem up_one {c : Nat} (h : c < 128) : Txt.upper ⟨#[c]⟩ = ⟨#[if 97 ≤ c ∧ c ≤ 122 then c - 32 else c]⟩ := PySem.W.KOpn.upper_one h
/-- a text that is read as these words -/
structure Mixed (x : Str) (ws : List Str) : Prop where
  ok : okS x
  low : okS (Txt.lower x)
  words : Txt.words (Txt.lower x) = ws
theorem st_mixed {x : Str} {done : List Str} {cur : Str} (h : St x done cur) (hl : x.length ≤ 100000) : Mixed x (if cur.length = 0 then done else done ++ [cur]) :=
  ⟨ok_asc h.asc hl, ok_asc (low_asc h.asc) (by rw [low_len h.asc]; exact hl), st_words h⟩
end Tx20

set_option maxHeartbeats 4000000
/-! DLt: own exception classes over any built-in one, with an __init__ that stores: by values. -/
namespace DL
open PySem PySem.Spec PyProof.Rows L2

/-- a built-in exception class B over which own ones stand -/
structure BaseX (B n i : String) (tl : List Value) : Prop where
  fb : ExcBaseFacts B n i tl
  sf : StoreFacts B tl "object.__setattr__" "object"
  ty : typeOf (.type B) = pure (.type "type")
  nd : (Value.type B == Value.type "type") = false
/-- what the written part says of the own class at C, straight over it -/
structure XB (K : PySem.W.Frag) (C : Addr) (n : String) (tl : List Value) : Prop where
  cls : ∃ nm q N bs bm sn sub ab col dd k0 k1 k2 k3 k5, K.lookup C = some (excClassObj nm q C N bs bm true sn sub ab col dd k0 k1 k2 k3 k5 n) ∧ PySem.W.excTail tl bm = true
  sa : PySem.W.findIn K (.ref C) "__setattr__" = some (some (.builtin "object.__setattr__"))
  exC : PySem.W.subIn K (.ref C) (.type "BaseException") = some true
  tyC : PySem.W.typeIn K (.ref C) = some (.type "type")
  kC : PySem.W.keepIn K (.ref C) = true
theorem XB.over {K : PySem.W.Frag} {C : Addr} {n : String} {tl : List Value} (T : XB K C n tl) : PySem.W.excOver K C tl = true ∧ ∃ cd, PySem.W.clsIn K C = some cd ∧ cd.hasDict = true := by
  obtain ⟨nm, q, N, bs, bm, sn, sub, ab, col, dd, k0, k1, k2, k3, k5, hC, hbm⟩ := T.cls
  have hcl : PySem.W.clsIn K C = some { name := nm, bases := bs, mro := .ref C :: bm, ns := N, qualname := q, hasDict := true, slotNames := sn, subclasses := sub, abstract := ab, collection := col, hasDel := false } := by
    unfold PySem.W.clsIn; rw [hC] <;> rfl
  refine ⟨?_, _, hcl, rfl⟩
  unfold PySem.W.excOver
  rw [hcl]
  simp [Option.any, hbm]
theorem taker_none {K : PySem.W.Frag} {C : Addr} {f : Str} (h : PySem.W.findIn K (.ref C) f = some none) : PySem.W.takerIn K C f = some none := by
  unfold PySem.W.takerIn; rw [h]; rfl
abbrev exF (t1 : Addr) : Array Value := #[.ref t1, .none, .none, .none, .bool false, .none]
section
variable {prog : Program} {w : World} {A : Around} {R : Result → Shared → Prop} {hp : Heap} {g : Array GenState} {d : Drawn} {t : Nat} {os : OsState} {B n i : String} {tl : List Value} {K : PySem.W.Frag}
theorem first_store {f : Str} {tk : Tok} {v : Value} {x C : Addr} {fv : Array Value} (F : BaseX B n i tl) (T : XB K C n tl) (X : K.In hp) (hx : hp.get? x = some { cls := .ref C, data := .fields fv }) (hf : PySem.W.findIn K (.ref C) f = some none)
    (hq : ∀ h' tk' dx, (∀ b o, b ≠ x → hp.get? b = some o → h'.get? b = some o) → hp.objs.size ≤ dx → dx ≠ x → h'.get? x = some { cls := .ref C, dict := some dx, data := .fields fv } →
      h'.Ns1 dx (fun y => if y = f then some v else none) → R (.ok (.ret .none)) ⟨h', g, d, tk', os⟩) :
    codeAny (model prog w) A (.call (.builtin "object.__setattr__") ⟨[.ref x, .str f tk, v], []⟩) R ⟨hp, g, d, t, os⟩ := by
  obtain ⟨ov, cd, hcd, hdt⟩ := T.over
  have hxs : x ≠ hp.objs.size := Nat.ne_of_lt (Heap.lt_size hx)
  have L : PySem.W.Looks (model prog w) hp (classData C) cd := PySem.W.looks_clsIn X hcd
  refine PySem.W.osa_openX (s := ⟨hp, g, d, t, os⟩) (od := none) F.sf X ⟨hx, rfl, rfl, trivial⟩ ov (taker_none hf) fun b => ?_
  show wpAny _ _ (Builtin.ObjectAttr.storeInOwnDict (.ref x) (.ref C) (.str f tk) f v b) _ _ _
  obtain ⟨nm, bs, mro, ns, qn, hd, sn, sb, ab, col, dl⟩ := cd
  dsimp only at hdt
  subst hdt
  unfold Builtin.ObjectAttr.storeInOwnDict Builtin.ObjectAttr.ownDictForStores
  repeat (first | with_reducible refine HandSPX.store_in_new ?_ ?_ | with_reducible refine wpAny_loadPart_at hx ?_ | with_reducible refine L.at ?_ | wp_step)
  · exact ⟨_, #[], _, (Heap.get?_update_ne _ _ _ _ hxs.symm).trans (Heap.get?_push_at rfl rfl), rfl, fun e he => absurd he (by simp), fun _ => rfl⟩
  · intro h' tk' hn' hs
    have hx1 : (hp.push { cls := .type "dict", data := .dict #[] }).get? x = some { cls := .ref C, data := .fields fv } := Heap.get?_push_of_some _ hx
    refine hq h' tk' hp.objs.size (fun b o hb ho => ?_) (Nat.le_refl _) hxs.symm ((hs.2 x hxs).trans (Heap.get?_update_self _ hx1 rfl)) hn'
    exact (hs.2 b (Nat.ne_of_lt (Heap.lt_size ho))).trans ((Heap.get?_update_ne _ _ _ _ hb).trans (Heap.get?_push_of_some _ ho))
theorem next_store {f : Str} {tk : Tok} {v : Value} {x C dx : Addr} {fv : Array Value} {m0 : Str → Option Value} {nl : List Str} (F : BaseX B n i tl) (T : XB K C n tl) (X : K.In hp) (hx : hp.get? x = some { cls := .ref C, dict := some dx, data := .fields fv })
    (hns : hp.Ns1 dx m0) (hw : Within m0 nl) (hz : nl.length ≤ 1000) (hf : PySem.W.findIn K (.ref C) f = some none)
    (hq : ∀ h' tk', (∀ b o, b ≠ dx → hp.get? b = some o → h'.get? b = some o) → h'.Ns1 dx (fun y => if y = f then some v else m0 y) → R (.ok (.ret .none)) ⟨h', g, d, tk', os⟩) :
    codeAny (model prog w) A (.call (.builtin "object.__setattr__") ⟨[.ref x, .str f tk, v], []⟩) R ⟨hp, g, d, t, os⟩ := by
  obtain ⟨ov, cd, hcd, hdt⟩ := T.over
  have L : PySem.W.Looks (model prog w) hp (classData C) cd := PySem.W.looks_clsIn X hcd
  obtain ⟨oD, esD, epD, hoD, hdD, _⟩ := hns.count hw
  refine PySem.W.osa_openX (s := ⟨hp, g, d, t, os⟩) (od := some oD) F.sf X ⟨hx, rfl, rfl, hoD⟩ ov (taker_none hf) fun b => ?_
  show wpAny _ _ (Builtin.ObjectAttr.storeInOwnDict (.ref x) (.ref C) (.str f tk) f v b) _ _ _
  obtain ⟨nm, bs, mro, ns, qn, hd, sn, sb, ab, col, dl⟩ := cd
  dsimp only at hdt
  subst hdt
  unfold Builtin.ObjectAttr.storeInOwnDict Builtin.ObjectAttr.ownDictForStores
  repeat (first | with_reducible refine OEX.store_in_old hns hw hz ?_ | with_reducible refine wpAny_loadPart_at hx ?_ | with_reducible refine L.at ?_ | wp_step)
  exact fun h' tk' hn' hs => hq h' tk' (fun b o hb ho => (hs.2 b hb).trans ho) hn'
end
section
variable {X : Cx} {pins : List (Addr × Obj)} {σ : L2.St} {H : Hp} {s : Shared} {a C dx : Addr} {f : Str} {y : V} {u : Value} {fs : List (Str × V)} {Q : Unit → Shared → Prop} {E : Value → Shared → Prop} {A : Around} {B n i : String} {tl : List Value}
/-- self.f = y, the first one -/
theorem set_first (F : BaseX B n i tl) (T : XB X.K C n tl) (I : Inv X pins σ H s) (e : H a = some (exo a C none)) (hno : PySem.W.findIn X.K (.ref C) f = some none) (ry : RelV y u)
    (h : ∀ dx s', H dx = none → dx ≠ a → Inv X pins σ (upd (upd H dx (exd dx [(f, y)])) a (exo a C (some dx))) s' → Q () s') : wpAny (model X.prog X.w) A (setAttr (.ref a) f u) Q E s := by
  obtain ⟨t1, ho⟩ := exo_at I.hok e
  obtain ⟨hp, g, d, t, os⟩ := s
  refine PySem.W.set_plain I.kIn (ox := { cls := .ref C, dict := none, data := .fields (exF t1) }) (od := none) ⟨ho, rfl, rfl, trivial⟩ T.sa ?_
  refine first_store F T I.kIn ho hno fun h' tk' dx k dn dne hx hn => ?_
  have hnd : H dx = none := I.hok.fresh dn
  have na : ∀ {b : Addr}, H b = none → b ≠ a := fun {b} z q => by rw [q, e] at z; cases z
  have U : Un X.fs [] H (upd (upd H dx (exd dx [(f, y)])) a (exo a C (some dx))) hp h' :=
    ⟨fun b o q z _ _ => k b o (na z) q, fun b o q z _ _ => ⟨o.slots, k b o (na z) q⟩,
      fun b o q z _ => (upd_ne (na z)).trans ((upd_ne (Nat.ne_of_lt (Nat.lt_of_lt_of_le (Heap.lt_size q) dn))).trans z),
      fun b o q _ => (Classical.em (b = a)).elim (fun z => ⟨_, z ▸ hx⟩) fun z => ⟨o, k b o z q⟩,
      fun b xs q => (upd_ne (at_ne e q exo_tup)).trans ((upd_ne (ne_of_none q hnd)).trans q),
      fun b o v q => (upd_ne (at_ne e q exo_frz)).trans ((upd_ne (ne_of_none q hnd)).trans q),
      fun b ps q => ⟨#[], by rw [upd_ne (at_ne e q exo_tbl), upd_ne (ne_of_none q hnd), q]; simp⟩⟩
  refine h dx _ hnd dne (I.un (t' := tk') U fun b o q => ?_)
  rcases Classical.em (b = a) with z | hb
  · subst z; rw [upd_same] at q; cases q; exact exo_ok hx
  rw [upd_ne hb] at q
  rcases Classical.em (b = dx) with z | hd
  · subst z; rw [upd_same] at q; cases q; exact exd_ok hn (relO_put (fs := []) ry fun _ => trivial)
  rw [upd_ne hd] at q
  refine (I.hok b o q).stay (fun c v hc z => k c v ?_ z) (fun c hc => (upd_ne (at_ne e hc exo_own)).trans ((upd_ne (ne_of_none hc hnd)).trans hc)) fun c xs hc => (upd_ne (at_ne e hc exo_tup)).trans ((upd_ne (ne_of_none hc hnd)).trans hc)
  exact hc.elim (fun z => z ▸ hb) fun z => at_ne e z exo_own
/-- .. a further one -/
theorem set_next (F : BaseX B n i tl) (T : XB X.K C n tl) (I : Inv X pins σ H s) (e : H a = some (exo a C (some dx))) (ed : H dx = some (exd dx fs)) (hl : fs.length ≤ 900) (hno : PySem.W.findIn X.K (.ref C) f = some none) (ry : RelV y u)
    (h : ∀ s', Inv X pins σ (upd H dx (exd dx ((f, y) :: fs))) s' → Q () s') : wpAny (model X.prog X.w) A (setAttr (.ref a) f u) Q E s := by
  obtain ⟨t1, ho⟩ := exo_at I.hok e
  obtain ⟨mA, hns, rel⟩ := exd_at I.hok ed
  obtain ⟨hp, g, d, t, os⟩ := s
  obtain ⟨oD, _, _, hoD, _, _⟩ := hns.count (within_of rel)
  refine PySem.W.set_plain I.kIn (ox := { cls := .ref C, dict := some dx, data := .fields (exF t1) }) (od := some oD) ⟨ho, rfl, rfl, hoD⟩ T.sa ?_
  refine next_store F T I.kIn ho hns (within_of rel) (by rw [List.length_map]; omega) hno fun h' tk' k hn => ?_
  exact h _ (I.write (t' := tk') (x := dx) (e := dx) (o := exd dx ((f, y) :: fs)) (by rw [ed]; trivial) (.inl rfl) k (by obtain ⟨o, _, _, z, _⟩ := hn; exact ⟨o, z⟩) (exd_ok hn (relO_put ry rel)))
/-- B.__init__(self, ..): nothing of it is told -/
theorem base_init {us : List Value} {Q : Value → Shared → Prop} (F : BaseX B n i tl) (T : XB X.K C n tl) (I : Inv X pins σ H s) (e : H a = some (exo a C none)) (hl : us.length ≤ sizeLine) (h : ∀ s', Inv X pins σ H s' → Q .none s') :
    wpAny (model X.prog X.w) A (call (.builtin i) (.ref a :: us)) Q E s := by
  obtain ⟨nm, q, N, bs, bm, sn, sub, ab, col, dd, k0, k1, k2, k3, k5, hC, hbm⟩ := T.cls
  obtain ⟨t1, ho⟩ := exo_at I.hok e
  obtain ⟨hp, g, d, t, os⟩ := s
  refine wpAny_call (HandSPX.init_base F.fb (fun Y => PySem.W.excTail_contains Y bm hbm) (I.kIn _ _ hC) ho hl fun h' t2 k hx => ?_)
  have I2 : Inv X pins σ (upd H a (exo a C none)) ⟨h', g, d, t, os⟩ := I.write (t' := t) (x := a) (e := a) (o := exo a C none) (by rw [e]; trivial) (.inl rfl) k ⟨_, hx⟩ (exo_ok hx)
  have eH : upd H a (exo a C none) = H := by funext b; by_cases z : b = a <;> simp [upd, z, e]
  rw [eH] at I2
  exact h _ I2
end

/-! ### rules: B.__init__(self, 'text'), self.f = e, C(e, ..) -/
def tBInit (K : PySem.W.Frag) (n : String) (tl : List Value) (ta : TA) : TE := fun σ H Q => ta σ H fun vs H1 => ∃ (a C : Addr) (ws : List V), vs = .ref a :: ws ∧ ws.length ≤ 1000 ∧ XB K C n tl ∧ H1 a = some (exo a C none) ∧ Q .non H1
def tXSet (K : PySem.W.Frag) (n : String) (tl : List Value) (f : Str) (to te : TE) : TS := fun D σ H => te σ H fun y H1 => to σ H1 fun x H2 => ∃ a C : Addr, x = .ref a ∧ XB K C n tl ∧ PySem.W.findIn K (.ref C) f = some none ∧
  ((H2 a = some (exo a C none) ∧ ∀ dx, H2 dx = none → dx ≠ a → D.nx σ (upd (upd H2 dx (exd dx [(f, y)])) a (exo a C (some dx)))) ∨
    ∃ (dx : Addr) (fs : List (Str × V)), H2 a = some (exo a C (some dx)) ∧ H2 dx = some (exd dx fs) ∧ fs.length ≤ 900 ∧ D.nx σ (upd H2 dx (exd dx ((f, y) :: fs))))
section
variable {X : Cx} {o e : Expr} {es : List Expr} {to te : TE} {ta : TA} {f : Str} {p p' p1 p2 pos : Pos} {B n i : String} {tl : List Value}
theorem pe_binit {pl : Sem Bool} (F : BaseX B n i tl) (hg : Gl X (PySem.Str.ofString B)) (hm : X.mg (PySem.Str.ofString B) = none) (bt : bootBuiltins (PySem.Str.ofString B) = some (.type B))
    (vV : PySem.W.findCls X.K (.type B) (.type "type") "__init__" = some (.val (.builtin i))) (ha : PA X (e :: es) ta) (hst : Manifest.isStub B = false := by decide +kernel) (hhi : PySem.W.handedIn (.builtin i) = true := by decide +kernel)
    (hnn : (PySem.Str.ofString B) ≠ "__name__" := by decide) (hdb : ((PySem.Str.ofString B) == ("__debug__" : Str)) = false := by decide)
    (hc : eval (.Call (.Attribute (.Name (PySem.Str.ofString B) p1) "__init__" p2) (e :: es) [] pos) X.env = (do
      let ov ← eval (.Name (PySem.Str.ofString B) p1) X.env; standAt p2.atName
      let (f, first) ← holding [ov] (getMethod ov "__init__" pl); callWith pos f first (backTo pos (starEach (e :: es) X.env)) (backToKw pos (keywordEach [] X.env))) := by rfl)
    (he : starEach (e :: es) X.env = (false, eval e X.env) :: starEach es X.env := by rfl) (hpl : (backTo pos (starEach es X.env)).any (·.1) = false := by rfl) :
    PE X (.Call (.Attribute (.Name (PySem.Str.ofString B) p1) "__init__" p2) (e :: es) [] pos) (tBInit X.K n tl ta) := by
  refine ⟨fun pins s σ H Q I h => ?_⟩
  refine PySem.W.methodCall_KW (ld_blt I hg hm bt ?_ hnn hdb) hc
  obtain ⟨m, fr⟩ := I.fr
  refine PySem.W.method_type fr I.ok.mod.kin F.ty hst vV hhi ?_
  show wpAny _ _ (callWith pos (Value.builtin i) [] (backTo pos (starEach (e :: es) X.env)) []) _ _ _
  refine PyProof.Rows.callWith_method1 (thn (ha.run pos pins _ σ H _ (I.tok _) h) fun us s1 ⟨vs, H1, I1, r1, a, C, ws, ev, hl, T, ea, q⟩ => ?_) he hpl
  subst ev
  cases r1 with
  | @cons _ u0 _ ur ra rw' =>
    obtain rfl : u0 = Value.ref a := ra
    exact base_init F T I1 ea (by rw [← Paired.length rw', sizeLine_eq]; omega) fun s' J => ⟨.non, H1, J, rfl, q⟩
theorem ps_xset (F : BaseX B n i tl) (ho : PE X o to) (he : PE X e te) (hs : swapsWith e (some (.Attribute o f p')) pos.line X.env = pure false := by rfl) : PS X (.Assign [.Attribute o f p'] e pos) (tXSet X.K n tl f to te) := by
  refine ⟨fun pins s σ H D I h => ?_⟩
  refine plainObj_wpAny_Assign_Attribute (thn (he.run pins s σ H _ I h) fun v s1 ⟨y, H1, I1, r1, q1⟩ => thn (ho.run pins s1 σ H1 _ I1 q1) fun u s2 hh => ?_) hs
  obtain ⟨x, H2, I2, r2, a, C, ex, T, hno, q⟩ := hh
  subst ex
  obtain rfl : u = Value.ref a := r2
  rcases q with ⟨ea, q⟩ | ⟨dx, fs, ea, ed, hl, q⟩
  · exact set_first F T I2 ea hno r1 fun dx s' n ne J => ⟨σ, _, J, q dx n ne⟩
  · exact set_next F T I2 ea ed hl hno r1 fun s' J => ⟨σ, _, J, q⟩
theorem pmk_xb {CX : CXT} {x : Str} {C fI : Addr} {k : Nat} {fd : FuncData} {ps : List Str} {sp : Sp} (F : BaseX B n i tl) (T : XB X.K C n tl) (iC : PySem.W.findIn X.K (.ref C) "__init__" = some (some (.ref fI))) (tI : PySem.W.typeIn X.K (.ref fI) = some (.type "function"))
    (F1 : FnOk X.prog X.w X.K X.mg X.base CX k fI fd ps sp) (hr : Room (k + 1) X.A) (hb : Binds X.K fd ps []) (hx : Passes CX X (fun _ _ _ => False)) (hg : Gl X x) (hm : X.mg x = some (.ref C)) (ha : PA X (e :: es) ta)
    (hdb : (x == ("__debug__" : Str)) = false := by decide) (he : starEach (e :: es) X.env = (false, eval e X.env) :: starEach es X.env := by rfl) (hpl : (backTo pos (starEach es X.env)).any (·.1) = false := by rfl) :
    PMk X (.Call (.Name x p) (e :: es) [] pos) (tMkO C sp [] ta) := by
  intro pins s σ H Q I h
  obtain ⟨nm, q, N, bs, bm, sn, sub, ab, col, dd, k0, k1, k2, k3, k5, hC, hbm⟩ := T.cls
  refine wpAny_Call_Name_kw (ld_glob I hg hm ?_ hdb)
  refine PySem.W.callWith_K (h₀ := X.base) I.ok.mod.kin T.kC (thn (ha.run pos pins s σ H _ I h) fun us s1 hh => ?_) he hpl
  obtain ⟨vs, H1, I1, r1, hz, q1⟩ := hh
  refine ⟨I1.kIn, ?_⟩
  show wpAny _ _ (call (.ref C) us) _ _ _
  obtain ⟨hp, g, dr, tk, os⟩ := s1
  have hsz : hp.objs.size ≤ hp.objs.size + 1 := Nat.le_succ _
  have hq := q1 _ (I1.hok.fresh hsz)
  rw [List.append_nil] at hq
  generalize eh : (hp.push (PySem.W.kdv_tup us)).push (HandSPX.excO C hp.objs.size) = h9
  have kk : ∀ b o, hp.get? b = some o → h9.get? b = some o := fun b o e => by rw [← eh]; exact Heap.get?_push_of_some _ (Heap.get?_push_of_some _ e)
  have hget : h9.get? (hp.objs.size + 1) = some (HandSPX.excO C hp.objs.size) := by rw [← eh]; heap_get
  have I2 : Inv X pins σ (upd H1 (hp.objs.size + 1) (exo (hp.objs.size + 1) C none)) ⟨h9, g, dr, tk, os⟩ := I1.laid (t' := tk) (a := hp.objs.size + 1) (o := exo (hp.objs.size + 1) C none) (h' := h9) kk hsz (exo_ok hget)
  have r2 : Vals (V.ref (hp.objs.size + 1) :: vs) (Value.ref (hp.objs.size + 1) :: us) := .cons rfl r1
  have hl : (Value.ref (hp.objs.size + 1) :: us).length = ps.length := r2.length.symm.trans (F1.len _ _ _ _ hq)
  have hb' : BindsTo ⟨h9, g, dr, tk, os⟩ fd ⟨Value.ref (hp.objs.size + 1) :: us, []⟩ (ps.zip (Value.ref (hp.objs.size + 1) :: us)) := by
    have z := hb ⟨h9, g, dr, tk, os⟩ (Value.ref (hp.objs.size + 1) :: us) I2.kIn (by rw [List.append_nil]; exact hl)
    rw [List.append_nil] at z
    exact z
  refine wpAny_call (HandSPX.call_own F.fb (fun Y => PySem.W.excTail_contains Y bm hbm) (I1.kIn _ _ hC) (PySem.W.looks_findIn I1.kIn iC) (fun self => PySem.W.bind_fn I1.kIn self tI) (by rw [← Paired.length r1, sizeLine_eq]; omega) ?_)
  rw [eh]
  refine codeAny_mono (F1.run _ X.stack _ _ ⟨Value.ref (hp.objs.size + 1) :: us, []⟩ (Value.ref (hp.objs.size + 1) :: us) _ _ (fun _ _ _ => False) (hr.make C us []) (I2.env0.make C us []) hb' r2 hq) fun r s' hq' => ?_
  match r, hq' with
  | .error er, z => exact hx pins σ _ _ er s' I2 z
  | .ok .next, z => exact z.elim
  | .ok .brk, z => exact z.elim
  | .ok .cont, z => exact z.elim
  | .ok (.ret u), ⟨v, H2, os2, bare2, un2, hok2, rv, ev, d, fs, ea, ed, hd1, q2⟩ =>
    subst ev
    obtain ⟨h2, g2, d2, t2, os'⟩ := s'
    exact ⟨rv, mk_end (raises_own T.exC T.tyC) I1 hsz kk un2 hok2 os2 bare2 ea ed hd1 q2⟩
end

/-! ### what an __init__ that stores one field, or two, promises -/
def spX1 (C : Addr) (f : Str) : Sp := fun vs H Q _ => ∃ (a : Addr) (v : V), vs = [.ref a, v] ∧ H a = some (exo a C none) ∧ ∀ dx, H dx = none → dx ≠ a → Q .non (upd (upd H dx (exd dx [(f, v)])) a (exo a C (some dx)))
def spX2 (C : Addr) (f1 f2 : Str) : Sp := fun vs H Q _ => ∃ (a : Addr) (v1 v2 : V), vs = [.ref a, v1, v2] ∧ H a = some (exo a C none) ∧
  ∀ dx, H dx = none → dx ≠ a → Q .non (upd (upd (upd H dx (exd dx [(f1, v1)])) a (exo a C (some dx))) dx (exd dx [(f2, v2), (f1, v1)]))
section
variable {K : PySem.W.Frag} {C : Addr} {n : String} {tl : List Value} {f g txt x y z : Str} {vs : List V} {H : Hp} {Q : VK} {E : XK}
theorem rdX1 (T : XB K C n tl) (no : PySem.W.findIn K (.ref C) f = some none) (h : spX1 C f vs H Q E) :
    tSeq (tDrop (tBInit K n tl (tCons (tVar 0) (tCons (tC (.str txt)) tNil)))) (tXSet K n tl f (tVar 0) (tVar 1)) { nx := fun _ H' => Q .non H', rt := Q } (L2.start [x, y] vs) H := by
  obtain ⟨a, v, rfl, e, h⟩ := h
  exact ⟨.ref a, rfl, a, C, [.str txt], rfl, by simp, T, e, v, rfl, .ref a, rfl, a, C, rfl, T, no, .inl ⟨e, h⟩⟩
theorem rdX2 (T : XB K C n tl) (no1 : PySem.W.findIn K (.ref C) f = some none) (no2 : PySem.W.findIn K (.ref C) g = some none) (h : spX2 C f g vs H Q E) :
    tSeq (tDrop (tBInit K n tl (tCons (tVar 0) (tCons (tC (.str txt)) tNil)))) (tSeq (tXSet K n tl f (tVar 0) (tVar 1)) (tXSet K n tl g (tVar 0) (tVar 2))) { nx := fun _ H' => Q .non H', rt := Q } (L2.start [x, y, z] vs) H := by
  obtain ⟨a, v, w, rfl, e, h⟩ := h
  refine ⟨.ref a, rfl, a, C, [.str txt], rfl, by simp, T, e, v, rfl, .ref a, rfl, a, C, rfl, T, no1, .inl ⟨e, fun dx h1 h2 => ?_⟩⟩
  exact ⟨w, rfl, .ref a, rfl, a, C, rfl, T, no2, .inr ⟨dx, [(f, v)], upd_same, by rw [upd_ne h2, upd_same], by simp, h dx h1 h2⟩⟩
end
theorem upd_del {H : Hp} {a d : Addr} {u w z o : HO} (h : H a = none) : upd (L2.del (upd (upd (upd H a z) d w) a u) a) d o = upd H d o := by
  funext b
  by_cases h1 : b = d
  · subst h1; rw [upd_same, upd_same]
  · rw [upd_ne h1, upd_ne h1]
    by_cases h2 : b = a
    · subst h2; rw [del_same, h]
    · rw [del_ne h2, upd_ne h2, upd_ne h1, upd_ne h2]
theorem upd_del2 {H : Hp} {a d : Addr} {u w z y o : HO} (h : H a = none) : upd (L2.del (upd (upd (upd (upd H a z) d w) a u) d y) a) d o = upd H d o := by
  funext b
  by_cases h1 : b = d
  · subst h1; rw [upd_same, upd_same]
  · rw [upd_ne h1, upd_ne h1]
    by_cases h2 : b = a
    · subst h2; rw [del_same, h]
    · rw [del_ne h2, upd_ne h1, upd_ne h2, upd_ne h1, upd_ne h2]
/-- what isinstance asks of an exception's class -/
structure KxC (K : PySem.W.Frag) (C : Addr) : Prop where
  hcl : (PySem.W.clsIn K C).isSome = true
  hga : PySem.W.findIn K (.ref C) "__getattribute__" = some (some (.builtin "BaseException.__getattribute__"))
  hgt : PySem.W.findIn K (.ref C) "__getattr__" = some none
  hsub : PySem.W.subIn K (.ref C) (.type "BaseException") = some true
  ha : PySem.W.findIn K (.ref C) "__class__" = some (some (.builtin "object.__class__"))
  hn : PySem.W.specialIn K (.builtin "object.__class__") "__get__" = some (some (.builtin "getset_descriptor.__get__"))
  htk : PySem.W.takesIn K (.builtin "object.__class__") = some true
  hm : PySem.W.mroIn K C (.type "object") = some true
/-- an own exception class with an __init__ that stores: where it stands -/
structure XAt (K : PySem.W.Frag) (mg : Str → Option Value) (x : Str) (B n i : String) (tl : List Value) (st : Stmt) (q : Str) (ps : List Str) (fs : List Str) where
  C : Addr
  fI : Addr
  fd : FuncData
  g : mg x = some (.ref C)
  T : XB K C n tl
  iC : PySem.W.findIn K (.ref C) "__init__" = some (some (.ref fI))
  tI : PySem.W.typeIn K (.ref fI) = some (.type "function")
  F : Fun K "__init__" q st fI fd
  b : Binds K fd ps []
  no : ∀ f ∈ fs, PySem.W.findIn K (.ref C) f = some none
  hdC : PySem.W.hasDictIn K C = true
  te : PySem.W.exmOne K (.ref C) (.ref C) = some true
  vV : PySem.W.findCls K (.type B) (.type "type") "__init__" = some (.val (.builtin i))
  kx : KxC K C
/-- .. as a fact of the addresses -/
structure XAtP (K : PySem.W.Frag) (mg : Str → Option Value) (x : Str) (B n i : String) (tl : List Value) (ps : List Str) (C fI : Addr) (fd : FuncData) : Prop where
  g : mg x = some (.ref C)
  T : XB K C n tl
  iC : PySem.W.findIn K (.ref C) "__init__" = some (some (.ref fI))
  tI : PySem.W.typeIn K (.ref fI) = some (.type "function")
  b : Binds K fd ps []
theorem XAt.p {K : PySem.W.Frag} {mg : Str → Option Value} {x : Str} {B n i : String} {tl : List Value} {st : Stmt} {q : Str} {ps fs : List Str} (T : XAt K mg x B n i tl st q ps fs) : XAtP K mg x B n i tl ps T.C T.fI T.fd := ⟨T.g, T.T, T.iC, T.tI, T.b⟩
theorem XAt.xf {K : PySem.W.Frag} {mg : Str → Option Value} {x : Str} {B n i : String} {tl : List Value} {st : Stmt} {q : Str} {ps fs : List Str} (T : XAt K mg x B n i tl st q ps fs) : XfC K T.C := ⟨T.kx.hga, T.kx.hgt, T.kx.hsub, T.hdC⟩
/-- an own exception class without an __init__ -/
structure XNt (K : PySem.W.Frag) (mg : Str → Option Value) (x : Str) (n : String) (tl : List Value) where
  C : Addr
  g : mg x = some (.ref C)
  q : PySem.W.excIn K C tl n = true
  exC : PySem.W.subIn K (.ref C) (.type "BaseException") = some true
  tyC : PySem.W.typeIn K (.ref C) = some (.type "type")
  kC : PySem.W.keepIn K (.ref C) = true
  te : PySem.W.exmOne K (.ref C) (.ref C) = some true
  kx : KxC K C

/-! ### raise, by data -/
@[simp] def qRaise (C : Addr) (fs : List Str) (qa : DTA) : DTS := fun DW DE p M => qa DW p M fun ds M1 => ds.length = fs.length ∧ DW ⟨.ref C, (fs.zip ds).reverse⟩ p M1
section
variable {X : Cx} {W : WX} {e : Expr} {es : List Expr} {ta : TA} {qa : DTA} {p pos pos2 : Pos} {B n i : String} {tl : List Value} {x f f2 : Str} {st : Stmt} {q : Str} {ps fs : List Str} {k : Nat}
theorem qs_raise1 (F : BaseX B n i tl) {C fI : Addr} {fd : FuncData} (T : XAtP X.K X.mg x B n i tl ps C fI fd) (F1 : FnOk X.prog X.w X.K X.mg X.base (L2.CX X.prog X.w) k fI fd ps (spX1 C f)) (hr : Room (k + 1) X.A) (tk : Takes X W) (hc : X.calm = true) (ha : QA X W (e :: es) ta qa) (hg : Gl X x := by rfl)
    (hdb : (x == ("__debug__" : Str)) = false := by decide) (he : starEach (e :: es) X.env = (false, eval e X.env) :: starEach es X.env := by rfl) (hpl : (backTo pos (starEach es X.env)).any (·.1) = false := by rfl) :
    QS X W (.Raise (some (.Call (.Name x p) (e :: es) [] pos)) none pos2) (fun _ σ H => tMkO C (spX1 C f) [] ta σ H fun cls d H' => W cls d σ H') (qRaise C [f] qa) :=
  ⟨ps_raise hc tk (pmk_xb F T.T T.iC T.tI F1 hr T.b (passes_call tk fun _ _ _ _ z => z.elim) hg T.g ha.pe hdb he hpl), fun DW G H p M s DE E hw S h _ => by
    refine ha.rf DW G H p M s _ _ hw S h fun G1 H1 M1 ds vs e1 S1 r1 ⟨hl, h1⟩ => ?_
    match ds, vs, r1, hl with
    | [d], _, ⟨v, _, rfl, r2, rfl⟩, _ =>
      refine ⟨by simp, fun a ea => ⟨a, v, rfl, upd_same, fun dx h2 h3 => ⟨rfl, dx, [(f, v)], upd_same, by rw [upd_ne h3, upd_same], by rw [upd_ne h3] at h2; exact h2, ?_⟩⟩⟩
      rw [upd_del ea]
      rw [upd_ne h3] at h2
      obtain ⟨e2, S2⟩ := S1.made (o := .xd [(f, v)]) h2
      exact hw _ _ p M1 s ⟨.ref C, [(f, d)]⟩ _ _ (e1.trans e2) S2 ⟨rfl, .inr ⟨dx, [(f, v)], rfl, upd_same, rfl, RepL.mono e2 _ _ (RepL.cons r2 RepL.nil)⟩⟩ h1⟩
theorem qs_raise2 (F : BaseX B n i tl) {C fI : Addr} {fd : FuncData} (T : XAtP X.K X.mg x B n i tl ps C fI fd) (F1 : FnOk X.prog X.w X.K X.mg X.base (L2.CX X.prog X.w) k fI fd ps (spX2 C f f2)) (hr : Room (k + 1) X.A) (tk : Takes X W) (hc : X.calm = true) (ha : QA X W (e :: es) ta qa) (hg : Gl X x := by rfl)
    (hdb : (x == ("__debug__" : Str)) = false := by decide) (he : starEach (e :: es) X.env = (false, eval e X.env) :: starEach es X.env := by rfl) (hpl : (backTo pos (starEach es X.env)).any (·.1) = false := by rfl) :
    QS X W (.Raise (some (.Call (.Name x p) (e :: es) [] pos)) none pos2) (fun _ σ H => tMkO C (spX2 C f f2) [] ta σ H fun cls d H' => W cls d σ H') (qRaise C [f, f2] qa) :=
  ⟨ps_raise hc tk (pmk_xb F T.T T.iC T.tI F1 hr T.b (passes_call tk fun _ _ _ _ z => z.elim) hg T.g ha.pe hdb he hpl), fun DW G H p M s DE E hw S h _ => by
    refine ha.rf DW G H p M s _ _ hw S h fun G1 H1 M1 ds vs e1 S1 r1 ⟨hl, h1⟩ => ?_
    obtain ⟨d, d2, rfl⟩ : ∃ d d2, ds = [d, d2] := by
      match ds, hl with
      | [d, d2], _ => exact ⟨d, d2, rfl⟩
    obtain ⟨v, _, rfl, r2, v2, _, rfl, r3, r4⟩ := r1
    cases r4
    refine ⟨by simp, fun a ea => ?_⟩
    refine ⟨a, v, v2, List.append_nil _ ▸ rfl, upd_same, fun dx h2 h3 => ?_⟩
    rw [upd_ne h3] at h2
    have q1 : upd (upd (upd (upd H1 a (exo a C none)) dx (exd dx [(f, v)])) a (exo a C (some dx))) dx (exd dx [(f2, v2), (f, v)]) a = some (exo a C (some dx)) := by rw [upd_ne (Ne.symm h3), upd_same]
    refine ⟨rfl, dx, [(f2, v2), (f, v)], q1, upd_same, h2, ?_⟩
    rw [upd_del2 ea]
    obtain ⟨e2, S2⟩ := S1.made (o := .xd [(f2, v2), (f, v)]) h2
    exact hw _ _ p M1 s ⟨.ref C, [(f2, d2), (f, d)]⟩ _ _ (e1.trans e2) S2 ⟨rfl, .inr ⟨dx, [(f2, v2), (f, v)], rfl, upd_same, rfl, RepL.mono e2 _ _ (RepL.cons r3 (RepL.cons r2 RepL.nil))⟩⟩ h1⟩
/-- raise X() -/
theorem qs_raise0 {m : Str} {j : Nat} {p3 : Pos} (F : ExcBaseFacts B n i tl) (T : XNt X.K X.mg x n tl) (tk : Takes X W) (hc : X.calm = true) (hg : Gl X x := by rfl) (hdb : (x == ("__debug__" : Str)) = false := by decide) :
    QS X W (.Raise (some (.Call (.Name x p) [.Constant (.str m) j p3] [] pos)) none pos2) (fun _ σ H => W (.ref T.C) none σ H) (fun DW _ p M => DW ⟨.ref T.C, []⟩ p M) :=
  ⟨ps_raise hc tk (pmk_own F T.q T.g T.kC (raises_own T.exC T.tyC) hg hdb), fun DW G H p M s DE E hw S h _ => hw G H p M s _ _ _ (Same.refl _) S ⟨rfl, .inl ⟨rfl, fun _ _ => rfl⟩⟩ h⟩
end

/-! ### try, by data -/
def canS (K : PySem.W.Frag) (W : WX) (q : DTS) : TS := fun E s H => ∃ DW G p M DE, WLink K G DW W ∧ Sim K G H p M s ∧ q DW DE p M ∧ EndsOk K G DE E
theorem QSs.can {X : Cx} {W : WX} {sts : List Stmt} {q : DTS} (h : ∃ t, QSs X W sts t q) : QSs X W sts (canS X.K W q) q := by
  obtain ⟨t, h⟩ := h
  exact ⟨⟨fun pins s σ H D I ⟨DW, G, p, M, DE, hw, S, hq, k⟩ => h.pe.run pins s σ H D I (h.rf DW G H p M σ DE D hw S hq k)⟩, fun DW G H p M s DE E hw S hq k => ⟨DW, G, p, M, DE, hw, S, hq, k⟩⟩
/-- try: body; except C as (slot i): handler -/
def qTryAs (C : Addr) (i : Nat) (qb : DTS) (qh : Addr → Option Addr → DTS) : DTS := fun DW DE p M =>
  qb (fun x p' M' => x.cls = .ref C ∧ ∀ a dx, qh a dx DW0 ⟨fun p M => DE.nx (p.set i none) M, DE.rt, fun p M => DE.bk (p.set i none) M, fun p M => DE.ct (p.set i none) M⟩ (p'.set i (some (.exc a dx (x.fs.map (·.1)) (x.fs.map (·.2))))) M') DE p M
section
variable {X : Cx} {Wout : WX} {x n : Str} {C : Addr} {body suite : List Stmt} {b₀ : Stmt} {np pos pos' : Pos} {qb : DTS} {qh : Addr → Option Addr → DTS}
theorem rep_caught {K : PySem.W.Frag} {G : Hp} {z : DX} {cls : Value} {dx : Option Addr} {a : Addr} (h : RepX K G z cls dx) (hc : z.cls = .ref C) : Rep K G (.exc a dx (z.fs.map (·.1)) (z.fs.map (·.2))) (.ref a) := by
  refine ⟨rfl, ?_⟩
  rcases h.2 with h | ⟨d, vf, h1, h2, h3, h4⟩
  · exact .inl ⟨by rw [h.1]; rfl, h.2 _ hc⟩
  · exact .inr ⟨d, vf, h1, h2, h3, h4⟩
theorem qs_tryAs (i : Nat) (tk : Takes X Wout) (hN : X.N.Nodup) (te : PySem.W.exmOne X.K (.ref C) (.ref C) = some true) (hm : X.mg x = some (.ref C))
    (hb : ∀ (W : WX) (pn : List (Addr × Obj)) (xe : Value → Shared → Prop), Takes (X.tr pn xe) W → PassesOwn (model X.prog X.w) X.A X.env xe → ∃ t, QSs (X.tr pn xe) W body t qb)
    (hsu : ∀ (a : Addr) (oe : Obj) (d : Option Addr) (pn : List (Addr × Obj)), Zc (.ref C) d oe → (∃ vs, oe.data = .fields vs) → ∃ t, QSs (X.suite a ((a, oe) :: pn)) W0 (b₀ :: suite) t (qh a d))
    (hs : X.stack = X.env :: X.outer := by rfl) (hf : X.env.frame = some X.env.locals := by rfl) (hi : X.N[i]? = some n := by rfl) (hln : X.env.kindOf n = some .local := by rfl) (hg : Gl X x := by rfl) (hdb : (x == ("__debug__" : Str)) = false := by decide) :
    QS X Wout (.Try body [.ExceptHandler (some (.Name x np)) (some n) (b₀ :: suite) pos'] [] [] pos)
      (fun D σ H => canS X.K (wAs X.K (.ref C) i (fun a cls d D σ H => cls = .ref C ∧ canS X.K W0 (qh a d) D σ H) Wout D) qb D σ H) (qTryAs C i qb qh) := by
  refine ⟨ps_try_as (tb := fun W => canS X.K W qb) (ts := fun a cls d D σ H => cls = .ref C ∧ canS X.K W0 (qh a d) D σ H) hs hf hN hi hln ⟨hg, hdb, .inl hm⟩ tk (fun W pn xe tk' hp => (QSs.can (hb W pn xe tk' hp)).pe) (fun a oe cls d pn hz hd => ⟨fun pins s σ H D I h => ?_⟩), fun DW G H p M s DE E hw S hq k => ?_⟩
  · obtain ⟨rfl, h⟩ := h
    exact (QSs.can (hsu a oe d pn hz hd)).pe.run pins s σ H D I h
  · refine ⟨_, G, p, M, DE, fun G1 H1 p1 M1 s1 z cls dx e1 S1 rx hx => ?_, S, hq, k⟩
    obtain ⟨hc, hx⟩ := hx
    have ec : cls = .ref C := rx.1.trans hc
    subst ec
    refine ⟨true, te, fun _ a na => ⟨rfl, DW0, G1, _, M1, _, fun _ _ _ _ _ _ _ _ _ _ _ w => w.elim, S1.set i (rep_caught rx hc), hx a dx, ?_⟩, fun w => by cases w⟩
    exact ⟨fun G2 H2 p2 M2 s2 e2 S2 q => k.nx G2 H2 _ M2 _ (e1.trans e2) (S2.forget i none) q, fun G2 H2 p2 M2 s2 d v e2 S2 r q => k.rt G2 H2 p2 M2 s2 d v (e1.trans e2) S2 r q,
      fun G2 H2 p2 M2 s2 e2 S2 q => k.bk G2 H2 _ M2 _ (e1.trans e2) (S2.forget i none) q, fun G2 H2 p2 M2 s2 e2 S2 q => k.ct G2 H2 _ M2 _ (e1.trans e2) (S2.forget i none) q⟩
end
/-! ### in the except suite: e.f, isinstance(e, ..) -/
def qXf (a : Addr) (d : Option Addr) (f : Str) (qe : DTE) : DTE := fun DW p M Q => qe DW p M fun x M1 => ∃ ns ys y, x = .exc a d ns ys ∧ (ns.zip ys).lookup f = some y ∧ Q y M1
theorem zip_lookup {K : PySem.W.Frag} {G : Hp} {f : Str} {y : D} : ∀ {vf : List (Str × V)} {ys : List D}, RepL K G ys (vf.map (·.2)) → ((vf.map (·.1)).zip ys).lookup f = some y → ∃ v, vf.lookup f = some v ∧ Rep K G y v
  | [], ys, r, h => by cases ys <;> cases h
  | (g, v) :: vf, [], r, h => by cases h
  | (g, v) :: vf, z :: ys, ⟨v1, r1, e, h2, h3⟩, h => by
    simp only [List.map_cons, List.cons.injEq] at e
    obtain ⟨rfl, rfl⟩ := e
    simp only [List.map_cons, List.zip_cons_cons] at h
    rw [List.lookup_cons] at h ⊢
    cases c : f == g with
    | true => rw [c] at h; cases h; exact ⟨_, rfl, h2⟩
    | false => rw [c] at h; exact zip_lookup h3 h
section
variable {X : Cx} {W : WX} {C a : Addr} {oe : Obj} {d : Option Addr} {pn : List (Addr × Obj)} {e : Expr} {te : TE} {qe : DTE} {f : Str} {pos : Pos}
theorem q_xf (T : XfC X.K C) (no : PySem.W.findIn X.K (.ref C) f = some none) (hz : Zc (.ref C) d oe) (hf : ∃ vs, oe.data = .fields vs) (he : QE (X.suite a ((a, oe) :: pn)) W e te qe) (hb : attributeBase e f X.env (eval e X.env) = eval e X.env := by rfl) :
    QE (X.suite a ((a, oe) :: pn)) W (.Attribute e f pos) (tXf a (.ref C) d C f te) (qXf a d f qe) := ⟨pe_xf T no hz hf he.pe hb, fun DW G H p M s Q Q' hw S hq k => by
  refine he.rf DW G H p M s _ _ hw S hq fun G1 H1 M1 x v e1 S1 r1 ⟨ns, ys, y, ex, hl, h1⟩ => ?_
  subst ex
  obtain ⟨rv, r⟩ := r1
  rcases r with ⟨r, _⟩ | ⟨dd, vf, rfl, h2, h3, h4⟩
  · subst r; cases hl
  · subst h3
    obtain ⟨w, w1, w2⟩ := zip_lookup h4 hl
    exact ⟨rv, rfl, dd, vf, w, rfl, S1.same _ _ h2, w1, k G1 H1 M1 y w e1 S1 w2 h1⟩⟩
/-- what isinstance asks for -/
def clsD : D → Option Value
  | .ty n => some (.type n)
  | .ref C => some (.ref C)
  | _ => none
def clssD : List D → Option (List Value)
  | [] => some []
  | d :: ds => match clsD d, clssD ds with
    | some c, some cs => some (c :: cs)
    | _, _ => none
theorem clsD_rep {K : PySem.W.Frag} {G : Hp} {c : D} {v : V} {u w : Value} (h : clsD c = some u) (r : Rep K G c v) (rv : RelV v w) : w = u := by
  cases c with
  | ty n => cases h; cases r; exact rv
  | ref C => cases h; cases r; exact rv
  | _ => cases h
theorem clssD_rep {K : PySem.W.Frag} {G : Hp} : ∀ {cs : List D} {vs : List V} {us ws : List Value}, clssD cs = some us → RepL K G cs vs → Vals vs ws → ws = us
  | [], _, us, ws, h, r, rv => by cases h; cases r; cases rv; rfl
  | c :: cs, _, us, ws, h, ⟨v, r, rfl, r1, r2⟩, rv => by
    unfold clssD at h
    split at h
    · next a b e1 e2 =>
      cases h
      cases rv with
      | cons w1 w2 => rw [clsD_rep e1 r1 w1, clssD_rep e2 r2 w2]
    · cases h
def rIsX (a : Addr) (b : Bool) (P : V → Hp → Prop) : List V → Hp → VK → Prop := fun xs H Q => ∃ c, xs = [.ref a, c] ∧ P c H ∧ Q (.bl b) H
def dIsX (a : Addr) (d : Option Addr) (b : Bool) (c : D) : DCa := fun ds M Q => ∃ ns ys, ds = [.exc a d ns ys, c] ∧ Q (.bl b) M
theorem inst_exc {σ : L2.St} {H : Hp} {s : Shared} {pins : List (Addr × Obj)} (I : Inv (X.suite a ((a, oe) :: pn)) pins σ H s) (hz : Zc (.ref C) d oe) (hf : ∃ vs, oe.data = .fields vs) (hd : d = none ∨ ∃ dd fs, d = some dd ∧ H dd = some (.xd fs)) : ∃ od, PySem.W.InstAt s.heap a oe C od := by
  obtain ⟨ha, _⟩ := I.pin (a, oe) (List.mem_append_left _ List.mem_cons_self)
  obtain ⟨vs, hv⟩ := hf
  obtain ⟨oc, od0, oda, osl⟩ := oe
  obtain ⟨h1, h2⟩ := hz
  dsimp only at h1 h2 hv
  subst h1 h2 hv
  rcases hd with rfl | ⟨dd, fs, rfl, hx⟩
  · exact ⟨none, ha, rfl, rfl, trivial⟩
  · obtain ⟨mA, hns, _⟩ := (show ObjOk X.prog X.w H s.heap dd (.xd fs) from I.hok dd _ hx)
    obtain ⟨od, ho, _⟩ := lookIn_ns hns
    exact ⟨some od, ha, rfl, rfl, ho⟩
theorem c_isX {b : Bool} {c : D} {P : V → Hp → Prop} (hop : CallR (X.suite a ((a, oe) :: pn)) (.builtin "isinstance") (rIsX a b fun v H => P v H ∧ (d = none ∨ ∃ dd fs, d = some dd ∧ H dd = some (.xd fs))))
    (hP : ∀ {G H p M s v}, Sim X.K G H p M s → Rep X.K G c v → P v H) : QCa (X.suite a ((a, oe) :: pn)) (.builtin "isinstance") (rIsX a b fun v H => P v H ∧ (d = none ∨ ∃ dd fs, d = some dd ∧ H dd = some (.xd fs))) (dIsX a d b c) :=
  ⟨hop, fun G H p M s ds vs Q Q' S r hq k => by
    obtain ⟨ns, ys, rfl, hq⟩ := hq
    obtain ⟨v, _, rfl, r1, v2, _, rfl, r2, r3⟩ := r
    cases r3
    obtain ⟨rfl, r1⟩ := r1
    refine ⟨v2, rfl, ⟨hP S r2, ?_⟩, k G H M (.bl b) _ (Same.refl _) S rfl hq⟩
    rcases r1 with ⟨_, h⟩ | ⟨dd, fs, h1, h2, _⟩
    · exact .inl h
    · exact .inr ⟨dd, fs, h1, S.same _ _ h2⟩⟩
/-- isinstance(e, c) -/
theorem c_isX1 {b : Bool} {c : D} {u : Value} (T : KxC X.K C) (hz : Zc (.ref C) d oe) (hf : ∃ vs, oe.data = .fields vs) (hc : clsD c = some u) (e : PySem.W.kitOne X.K (.ref C) u = some b) :
    QCa (X.suite a ((a, oe) :: pn)) (.builtin "isinstance") (rIsX a b fun v H => (∀ w, RelV v w → w = u) ∧ (d = none ∨ ∃ dd fs, d = some dd ∧ H dd = some (.xd fs))) (dIsX a d b c) :=
  c_isX (fun pins s σ H xs us Q I r h => by
    obtain ⟨v, rfl, ⟨h1, h2⟩, q⟩ := h
    obtain ⟨u1, u2, rfl, r1, r2⟩ := vals2 r
    obtain rfl : u1 = Value.ref a := r1
    have e2 := h1 _ r2
    subst e2
    obtain ⟨od, J⟩ := inst_exc I hz hf h2
    exact PySem.W.kia_one (PySem.W.kitx_exc T.hcl T.hga T.hgt T.hsub T.ha T.hn T.htk T.hm) I.kIn J e (fun z => nomatch z) fun tk => ⟨.bl b, H, I.tok tk, rfl, q⟩)
    fun S r w rv => clsD_rep hc r rv
/-- isinstance(e, (c1, c2, ..)) -/
theorem c_isXT {b : Bool} {cs : List D} {us : List Value} (T : KxC X.K C) (hz : Zc (.ref C) d oe) (hf : ∃ vs, oe.data = .fields vs) (hc : clssD cs = some us) (e : PySem.W.kitAny X.K (.ref C) us = some b) :
    QCa (X.suite a ((a, oe) :: pn)) (.builtin "isinstance") (rIsX a b fun v H => (∃ t vs, v = .ref t ∧ H t = some (.tup vs) ∧ ∀ ws, Vals vs ws → ws = us) ∧ (d = none ∨ ∃ dd fs, d = some dd ∧ H dd = some (.xd fs))) (dIsX a d b (.tup cs)) :=
  c_isX (P := fun v H => ∃ t vs, v = .ref t ∧ H t = some (.tup vs) ∧ ∀ ws, Vals vs ws → ws = us) (fun pins s σ H xs ws Q I r h => by
    obtain ⟨v, rfl, ⟨⟨t, vs, rfl, ht, h1⟩, h2⟩, q⟩ := h
    obtain ⟨u1, u2, rfl, r1, r2⟩ := vals2 r
    obtain rfl : u1 = Value.ref a := r1
    obtain rfl : u2 = Value.ref t := r2
    obtain ⟨od, J⟩ := inst_exc I hz hf h2
    obtain ⟨_, its, rv, o, g1, g2, n, g3⟩ := (show ObjOk X.prog X.w H s.heap t (.tup vs) from I.hok t _ ht)
    have e3 := h1 _ rv
    subst e3
    obtain ⟨oc, od', dt, sl⟩ := o
    simp only at g2 g3
    subst g2 g3
    exact PySem.W.kia_tup (PySem.W.kitx_exc T.hcl T.hga T.hgt T.hsub T.ha T.hn T.htk T.hm) I.kIn J g1 e (fun z => nomatch z) fun tk => ⟨.bl b, H, I.tok tk, rfl, q⟩)
    fun {G H p M s v} S r => by
      obtain ⟨t, vs, rfl, h1, h2, _⟩ := r
      exact ⟨t, vs, rfl, S.same _ _ h1, fun ws rv => clssD_rep hc h2 rv⟩
end
end DL

/-! DLu: defs with defaults. -/
namespace DL
open PySem PySem.Spec PyProof.Rows L2
section
variable {P : Program} {w : World} {K : PySem.W.Frag} {mg : Str → Option Value} {base : Heap}
/-- the rule for a def that has defaults -/
theorem fn_okD {x qual : Str} {st : Stmt} {f : Addr} {fd : FuncData} {N ps : List Str} {k : Nat} {p : DSp} {dvs : List V} (F : FunD K x qual (defArgs st) (defBody st) (defScope st) dvs [] f fd) (S : FnScope N ps (defScope st)) (len : ∀ ds M Q E, p ds M Q E → ds.length = ps.length)
    (hbody : ∀ (cdv : Value) (A : Around) (outer : List Env) (s : Shared) (H : Hp) (E : XK), Room k (A.deeper (PyProof.Rows.envOfC qual (defScope st) s.heap.objs.size f cdv)) →
      Takes (cxOf (L2.CX P w) P w K mg base N qual (defScope st) f cdv A outer s H E) (fun cls d _ H => E cls d H) →
      PassesOwn (model P w) (cxOf (L2.CX P w) P w K mg base N qual (defScope st) f cdv A outer s H E).A (cxOf (L2.CX P w) P w K mg base N qual (defScope st) f cdv A outer s H E).env (cxOf (L2.CX P w) P w K mg base N qual (defScope st) f cdv A outer s H E).xe →
      ∃ t q, QSs (cxOf (L2.CX P w) P w K mg base N qual (defScope st) f cdv A outer s H E) (fun cls d _ H => E cls d H) (defBody st) t q ∧
        ∀ ds M Q Ed, p ds M Q Ed → q (fun x _ M => Ed x M) { nx := fun _ M => Q .non M, rt := Q } (startD N ds) M) : FnOk P w K mg base (L2.CX P w) (k + 1) f fd ps (toSp K p) := by
  refine F.ok S (fun vs H Q E h => ?_) (fun cdv A outer s H vs Q E hr h => ?_)
  · obtain ⟨G, ds, M, Qd, Ed, _, r, _, hp, _⟩ := h
    exact r.length.trans (len _ _ _ _ hp)
  · obtain ⟨G, ds, M, Qd, Ed, e, r, hm, hp, kq, ke⟩ := h
    obtain ⟨t, q, hq, hs⟩ := hbody cdv A outer s H E hr (takes_of rfl rfl rfl rfl) (passes_of rfl)
    exact ⟨t, hq.pe, hq.rf (fun x _ M => Ed x M) G H (startD N ds) M (L2.start N vs) _ _ (fun G' H' p' M' s' x cls dx e1 S1 r1 h1 => ke G' H' x cls dx M' e1 S1.same r1 S1.mem h1) (start_sim e r hm) (hs ds M Qd Ed hp)
      ⟨fun G' H' p' M' s' e1 S1 h1 => kq G' H' .non .non M' e1 S1.same rfl S1.mem h1, fun G' H' p' M' s' d v e1 S1 r1 h1 => kq G' H' v d M' e1 S1.same r1 S1.mem h1, fun _ _ _ _ _ _ _ h => h.elim, fun _ _ _ _ _ _ _ h => h.elim⟩⟩
end
/-- how a call binds that leaves out the last parameters: their defaults -/
def BindsD (K : PySem.W.Frag) (fd : FuncData) (ps : List Str) (dvs : List V) : Prop := ∃ ds, Vals dvs ds ∧ Binds K fd ps ds
/-- a def of the module that has defaults -/
structure FnAtD (K : PySem.W.Frag) (mg : Str → Option Value) (x : Str) (st : Stmt) (ps : List Str) (dvs : List V) where
  f : Addr
  fd : FuncData
  g : mg x = some (.ref f)
  F : FunD K x x (defArgs st) (defBody st) (defScope st) dvs [] f fd
section
variable {K : PySem.W.Frag} {x qual : Str} {st : Stmt} {dvs : List V} {f : Addr} {fd : FuncData} {ps : List Str}
/-- n values are written, the defaults behind the first j fill up -/
theorem FunD.bd (F : FunD K x qual (defArgs st) (defBody st) (defScope st) dvs [] f fd) (n j : Nat) (hd : dvs ≠ []) (hn : n + (dvs.length - j) = ps.length)
    (h : ∀ (T : Addr) (kV doc pm : Value) (an : Option Addr) (cdv ct : Value) (us its : List Value), us.length = n → its.length = dvs.length →
      ∃ k, bindArgs (PySem.W.fnOf x qual (defArgs st) (defBody st) (defScope st) (.ref T) kV doc pm an cdv ct) ⟨us, []⟩ = seqItems? (.ref T) >>= k ∧ k (some its.toArray) = pure (ps.zip (us ++ its.drop j))) : BindsD K fd ps (dvs.drop j) :=
  FunD.binds1 F n j hd hn h
theorem kwbD {ks : List Str} {n : Nat} {idx : List Nat} (F : FunD K x qual (defArgs st) (defBody st) (defScope st) dvs [] f fd) (hd : dvs ≠ [])
    (h : ∀ (T : Addr) (kV doc pm : Value) (an : Option Addr) (cdv ct : Value) (us ws its : List Value), us.length = n → ws.length = ks.length → its.length = dvs.length →
      ∃ k, bindArgs (PySem.W.fnOf x qual (defArgs st) (defBody st) (defScope st) (.ref T) kV doc pm an cdv ct) ⟨us, ks.zip ws⟩ = seqItems? (.ref T) >>= k ∧ k (some its.toArray) = pure (ps.zip (pickL idx (us ++ ws)))) : KwB K fd ps n ks idx := by
  obtain ⟨oc, od, dV, kV, doc, pm, an, cdv, ct, osl, rfl, lk, hcd, hD, hK⟩ := F.ex
  rcases hD with ⟨e, _⟩ | ⟨_, T, o, its, m, rfl, lT, oT, rT⟩
  · exact absurd e hd
  · intro s us ws X h1 h2
    obtain ⟨k, e1, e2⟩ := h T kV doc pm an cdv ct us ws its h1 h2 rT.length.symm
    refine BindsTo.of_looks fun M => ?_
    rw [e1]
    exact looks_items X lT oT (.of_pure e2)
theorem fund_mk {oc : Value} {od an : Option Addr} {osl : Array (Option Value)} {kV doc pm cdv ct : Value} {T : Addr} {o : Obj} {its : List Value} {n : Nat} (l : K.lookup f = some ⟨oc, od, .func (PySem.W.fnOf x qual (defArgs st) (defBody st) (defScope st) (.ref T) kV doc pm an cdv ct), osl⟩)
    (c : PySem.W.codeIn K cdv qual = true) (k : PySem.W.keepIn K (.ref f) = true) (lT : K.lookup T = some o) (oT : o.data = .seq its.toArray n) (hd : dvs ≠ []) (r : Vals dvs its) :
    FunD K x qual (defArgs st) (defBody st) (defScope st) dvs [] f (PySem.W.fnOf x qual (defArgs st) (defBody st) (defScope st) (.ref T) kV doc pm an cdv ct) :=
  ⟨⟨oc, od, .ref T, kV, doc, pm, an, cdv, ct, osl, rfl, l, c, .inr ⟨hd, T, o, its, n, rfl, lT, oT, r⟩, .inl rfl⟩, k⟩
section
variable {X : Cx} {W : WX} {k : Nat} {f : Addr} {fd : FuncData} {ps : List Str} {P : DSp} {dds : List D} {dvs : List V} {x : Str} {p pos : Pos} {e : Expr} {es : List Expr} {t : TA} {q : DTA}
/-- f(e, ..), the last parameters left out -/
theorem q_callD (F : FnOk X.prog X.w X.K X.mg X.base (L2.CX X.prog X.w) k f fd ps (toSp X.K P)) (hr : Room k X.A) (tk : Takes X W) (hg : Gl X x) (hm : X.mg x = some (.ref f)) (hk : PySem.W.keepIn X.K (.ref f) = true) (hb : BindsD X.K fd ps dvs) (hdd : ∀ G, RepL X.K G dds dvs)
    (ha : QA X W (e :: es) t q) (hdb : (x == ("__debug__" : Str)) = false := by decide) (he : starEach (e :: es) X.env = (false, eval e X.env) :: starEach es X.env := by rfl) (hpl : (backTo pos (starEach es X.env)).any (·.1) = false := by rfl) :
    QE X W (.Call (.Name x p) (e :: es) [] pos) (tCallSD (toSp X.K P) dvs (fun s => WE W s) t) (qCall P dds q) := by
  obtain ⟨ds, hd, hb⟩ := hb
  exact q_call F hr tk hg hm hk hb hd hdd ha hdb he hpl
end
end
end DL

/-! DLv: the built-in exception classes over which the program's own stand. -/
namespace DL
open PySem PySem.Spec PyProof.Rows L2
abbrev tl_ValueError : List Value := [.type "ValueError", .type "Exception", .type "BaseException", .type "object"]
abbrev tl_LookupError : List Value := [.type "LookupError", .type "Exception", .type "BaseException", .type "object"]
abbrev tl_IndexError : List Value := [.type "IndexError", .type "LookupError", .type "Exception", .type "BaseException", .type "object"]
abbrev tl_RuntimeError : List Value := [.type "RuntimeError", .type "Exception", .type "BaseException", .type "object"]
abbrev tl_ArithmeticError : List Value := [.type "ArithmeticError", .type "Exception", .type "BaseException", .type "object"]
abbrev tl_OverflowError : List Value := [.type "OverflowError", .type "ArithmeticError", .type "Exception", .type "BaseException", .type "object"]
abbrev tl_Exception : List Value := [.type "Exception", .type "BaseException", .type "object"]
theorem baseX_ValueError : BaseX "ValueError" "ValueError.__new__" "ValueError.__init__" tl_ValueError := ⟨F.excBase_ValueError, F.store_ValueError, by kernel_rfl, by decide +kernel⟩
theorem baseX_LookupError : BaseX "LookupError" "LookupError.__new__" "LookupError.__init__" tl_LookupError := ⟨F.excBase_LookupError, F.store_LookupError, by kernel_rfl, by decide +kernel⟩
theorem baseX_IndexError : BaseX "IndexError" "IndexError.__new__" "IndexError.__init__" tl_IndexError := ⟨F.excBase_IndexError, F.store_IndexError, by kernel_rfl, by decide +kernel⟩
theorem baseX_RuntimeError : BaseX "RuntimeError" "RuntimeError.__new__" "RuntimeError.__init__" tl_RuntimeError := ⟨F.excBase_RuntimeError, F.store_RuntimeError, by kernel_rfl, by decide +kernel⟩
theorem baseX_ArithmeticError : BaseX "ArithmeticError" "ArithmeticError.__new__" "ArithmeticError.__init__" tl_ArithmeticError := ⟨F.excBase_ArithmeticError, F.store_ArithmeticError, by kernel_rfl, by decide +kernel⟩
theorem baseX_OverflowError : BaseX "OverflowError" "OverflowError.__new__" "OverflowError.__init__" tl_OverflowError := ⟨F.excBase_OverflowError, F.store_OverflowError, by kernel_rfl, by decide +kernel⟩
theorem baseX_Exception : BaseX "Exception" "Exception.__new__" "Exception.__init__" tl_Exception := ⟨F.excBase_Exception, F.store_Exception, by kernel_rfl, by decide +kernel⟩
theorem clsIn_some {K : PySem.W.Frag} {C : Addr} (h : PySem.W.hasDictIn K C = true) : (PySem.W.clsIn K C).isSome = true := by
  obtain ⟨cd, hc, _⟩ := PySem.W.any_some h
  rw [hc]; rfl
/-- a class of the module, by its name -/
structure ClsAt (mg : Str → Option Value) (x : Str) where
  C : Addr
  g : mg x = some (.ref C)
theorem q_cls {X : Cx} {W : WX} {x : Str} {C : Addr} {pos : Pos} (g : X.mg x = some (.ref C)) (hg : Gl X x := by rfl) (hd : (x == ("__debug__" : Str)) = false := by decide) : QE X W (.Name x pos) (tC (.ref C)) (qC (.ref C)) := q_glob hg g rfl (fun _ => rfl) hd
end DL

set_option maxHeartbeats 2000000
/-! DLw: a written dict with text keys: list(D), D[key]. -/
namespace DL
open PySem PySem.Spec PyProof.Rows L2
theorem pairs_keys {prog : Program} {w : World} : ∀ {l : List DictEntry} {ks : List Str}, l.map He.keyOf = He.keysIn w.params ks →
    ∃ kvs : List (Str × Value), kvs.map (·.1) = ks ∧ Pairs (PySem.strKind prog w) l kvs ∧ ∀ e ∈ l, ∃ k, (PySem.strKind prog w).is k e.key = true ∧ e.hash = (PySem.strKind prog w).hash k
  | [], [], _ => ⟨[], rfl, .nil, fun _ h => by cases h⟩
  | [], k :: ks, h => by cases h
  | e :: l, [], h => by cases h
  | e :: l, k :: ks, h => by
    have h0 : He.keyOf e :: l.map He.keyOf = some (k, PyData.keyHash w.params k) :: He.keysIn w.params ks := h
    injection h0 with h1 h2
    obtain ⟨kvs, i1, i2, i3⟩ := pairs_keys (prog := prog) h2
    unfold He.keyOf at h1
    split at h1
    · next x t q =>
      obtain ⟨rfl, e2⟩ := Prod.mk.inj (Option.some.inj h1)
      have e3 : (PySem.strKind prog w).is x e.key = true := by rw [q]; exact PySem.strKind_is prog w x t
      refine ⟨(x, e.val) :: kvs, by simp [i1], .cons e3 rfl i2, fun e' he => ?_⟩
      rcases List.mem_cons.mp he with rfl | he
      · exact ⟨x, e3, e2⟩
      · exact i3 e' he
    · cases h1
theorem strs_at {prog : Program} {w : World} : ∀ {kvs : List (Str × Value)} {us : List Value}, us.length = kvs.length → (∀ (j : Nat) (v : Value), us[j]? = some v → ∃ k x, kvs[j]? = some (k, x) ∧ (PySem.strKind prog w).is k v = true) → Vals (kvs.map fun q => V.str q.1) us
  | [], [], _, _ => .nil
  | [], _ :: _, h, _ => by cases h
  | _ :: _, [], h, _ => by cases h
  | (k, y) :: kvs, u :: us, hl, h => by
    obtain ⟨k', x, e1, e2⟩ := h 0 u rfl
    cases e1
    refine .cons ?_ (strs_at (prog := prog) (w := w) (by simpa using hl) fun j v e => by simpa using h (j + 1) v (by simpa using e))
    have e3 : Value.isStrOf k u = true := e2
    cases u with
    | str z t => exact ⟨t, by have : z = k := by simpa [Value.isStrOf] using e3
                              rw [this]⟩
    | _ => cases e3
theorem dictAt_K {K : PySem.W.Frag} {prog : Program} {w : World} {h : Heap} {d : Addr} {ks : List Str} (X : K.In h) (hd : He.dicW K d = some (He.keysIn w.params ks)) (nd : ks.Nodup) :
    ∃ kvs ep, kvs.map (·.1) = ks ∧ h.DictAt (PySem.strKind prog w) d kvs ep ∧ (d == sysModules) = false := by
  unfold He.dicW at hd
  split at hd
  · next c es n sl hl =>
    split at hd
    · next e =>
      obtain ⟨kvs, a1, a2, a3⟩ := pairs_keys (prog := prog) (Option.some.inj hd)
      simp only [Bool.and_eq_true, decide_eq_true_eq, Bool.not_eq_true'] at e
      obtain ⟨rfl, e1, e2⟩ := e
      obtain rfl : sl = #[] := Array.isEmpty_iff.mp e1
      exact ⟨kvs, n, a1, ⟨_, es, X _ _ hl, ⟨rfl, rfl, rfl⟩, rfl, fun z hz => a3 z (Array.mem_toList_iff.mpr hz), a2, by rw [a1]; exact nd⟩, e2⟩
    · cases hd
  · cases hd
theorem call_listK {X : Cx} {d : Addr} {ks : List Str} (hcalm : X.calm = true) (hd : He.dicW X.K d = some (He.keysIn X.w.params ks)) (nd : ks.Nodup) (hz : ks.length ≤ 1000) :
    CallR X (.type "list") (fun xs H Q => xs = [.ref d] ∧ ∀ p, H p = none → Q (.ref p) (upd H p (.lst (ks.map V.str)))) := by
  intro pins s σ H xs us Q I r q
  obtain ⟨rfl, q⟩ := q
  obtain ⟨u, rfl, rx⟩ := vals1 r
  cases rx
  obtain ⟨kvs, ep, a1, a2, lo⟩ := dictAt_K (prog := X.prog) I.kIn hd nd
  have hl : kvs.length = ks.length := by rw [← a1]; simp
  have hz2 : ks.length ≤ sizeLine := Nat.le_trans hz (by rw [sizeLine_eq]; decide)
  refine PySem.W.kdl_call (PySem.W.kdl_dict (knd := PySem.strKind X.prog X.w) (kvs := kvs) (ep := ep) lo) (I.ok.hd hcalm) a2 (by rw [hl]; exact hz2) fun h' tk acc c' hk hD hacc => ?_
  have hv : Vals (kvs.map fun q => V.str q.1) acc.toList := strs_at (prog := X.prog) (w := X.w) (by rw [Array.length_toList]; exact hacc.1) fun j v e => hacc.2 j v (by rw [← Array.getElem?_toList]; exact e)
  have ev : (kvs.map fun q => V.str q.1) = ks.map V.str := by rw [← a1, List.map_map]; rfl
  rw [ev] at hv
  exact ⟨.ref s.heap.objs.size, _, I.laid (t' := tk) hk (Nat.le_refl _) (show ObjOk X.prog X.w _ _ _ (.lst (ks.map V.str)) from ⟨by rw [List.length_map]; exact hz2, acc.toList, c', hv, by rw [Array.toArray_toList]; exact hD⟩), rfl, q _ (I.hok.fresh (Nat.le_refl _))⟩
/-- a value of a written dict -/
def KVal (K : PySem.W.Frag) (d : Addr) (z : Str) (y : D) : Prop := ∃ u v, PySem.W.nsIn K d z = some (some u) ∧ RelV v u ∧ ∀ G, Rep K G y v
structure KTab (K : PySem.W.Frag) (w : World) (mg : Str → Option Value) (x : Str) (tbl : List (Str × D)) : Prop where
  ex : ∃ d, mg x = some (.ref d) ∧ He.dicW K d = some (He.keysIn w.params (tbl.map (·.1))) ∧ ∀ q ∈ tbl, KVal K d q.1 q.2
theorem KTab.dic {K : PySem.W.Frag} {w : World} {mg : Str → Option Value} {x : Str} {tbl : List (Str × D)} (h : KTab K w mg x tbl) : KDic K w mg x (tbl.map (·.1)) := by
  obtain ⟨d, h1, h2, _⟩ := h.ex
  exact ⟨d, h1, h2⟩
/-- a written tuple of numbers -/
theorem kval_ints {K : PySem.W.Frag} {d t : Addr} {z : Str} {od : Option Addr} {its : Array Value} {n : Nat} {sl : Array (Option Value)} {is : List Int} (h1 : PySem.W.nsIn K d z = some (some (.ref t))) (h2 : K.lookup t = some ⟨.type "tuple", od, .seq its n, sl⟩)
    (h3 : Vals (is.map V.int) its.toList) (hl : is.length ≤ 1000) : KVal K d z (.ktp (is.map D.int)) := by
  have hr : ∀ G, RepL K G (is.map D.int) (is.map V.int) := fun G => by
    clear h3 hl
    induction is with
    | nil => rfl
    | cons i is ih => exact ⟨.int i, _, rfl, rfl, ih⟩
  have h4 : (is.map V.int).length ≤ sizeLine := by rw [List.length_map, sizeLine_eq]; omega
  refine ⟨_, .ref t, h1, rfl, fun G => ⟨t, is.map V.int, rfl, .inr ⟨_, its, n, h2, rfl, rfl, ?_, h3⟩, hr G, h4⟩⟩
  rw [← Array.length_toList, ← h3.length]
  exact h4
def dIxK (tbl : List (Str × D)) : DUn := fun x M Q => match res M x with
  | .str z => match tbl.lookup z with
    | some y => Q y M
    | none => False
  | _ => False
theorem lookup_mem {α β : Type} [BEq α] [LawfulBEq α] {z : α} {y : β} : ∀ {l : List (α × β)}, l.lookup z = some y → (z, y) ∈ l
  | [], h => by cases h
  | (k, v) :: l, h => by
    rw [List.lookup_cons] at h
    cases c : z == k with
    | true => rw [c] at h; cases h; rw [eq_of_beq c]; exact List.mem_cons_self ..
    | false => rw [c] at h; exact List.mem_cons_of_mem _ (lookup_mem h)
section
variable {X : Cx} {W : WX} {a : Expr} {ta : TE} {qa : DTE} {pos p p2 : Pos} {x : Str} {tbl : List (Str × D)}
theorem q_ixK (h : KTab X.K X.w X.mg x tbl) (hg : Gl X x) (ha : QE X W a ta qa) (hd : (x == ("__debug__" : Str)) = false := by decide) (hs : PlainIx a := by exact fun _ _ => rfl) :
    ∃ t, QE X W (.Subscript (.Name x p) a pos) t (qUn (dIxK tbl) qa) := by
  obtain ⟨d, h1, h2, h3⟩ := h.ex
  obtain ⟨es, n, KD⟩ := He.dicW_ok h2
  have ix : IxR X (fun x y H Q => ∃ (z : Str) (u0 : Value) (v0 : V), x = .ref d ∧ y = .str z ∧ PySem.W.nsIn X.K d z = some (some u0) ∧ RelV v0 u0 ∧ Q v0 H) := by
    intro value slice pins s σ H x y v u Q I rx ry hh hs
    have e : v = .ref d := by obtain ⟨z, u0, v0, rfl, _⟩ := hh; exact rx
    subst e
    exact tail_any (kd_type KD I) slot_dict_getitem.lookup (op_item_kd KD pins s σ H x y _ u Q I rx ry hh) hs
  refine ⟨_, pe_ix ix (pe_glob hg h1 (v := .ref d) rfl hd) ha.pe hs, fun DW G H p M s Q Q' hw S hq k => ha.rf DW G H p M s _ _ hw S hq fun G1 H1 M1 dv v e1 S1 r1 h4 => ?_⟩
  unfold dIxK at h4
  split at h4
  · next z e =>
    obtain ⟨rfl, _, _⟩ := as_str r1 e
    split at h4
    · next y ey =>
      obtain ⟨u, v, n1, n2, n3⟩ := h3 _ (lookup_mem ey)
      exact ⟨z, u, v, rfl, rfl, n1, n2, k G1 H1 M1 y v e1 S1 (n3 G1) h4⟩
    · exact h4.elim
  · exact h4.elim
/-- list(D) -/
theorem q_listK (m : Bool) (h : KDic X.K X.w X.mg x ks) (hg : Gl X x) (hgl : Gl X "list") (hm : X.mg "list" = none) (hcalm : X.calm = true) (nd : ks.Nodup) (hz : (decide (ks.length ≤ 1000) && ks.all fun k => decide (k.length ≤ 100000) && PyData.strOk k) = true) (hd : (x == ("__debug__" : Str)) = false := by decide)
    (he : starEach [.Name x p] X.env = [(false, eval (.Name x p) X.env)] := by rfl) (hpl : (backTo pos (starEach [] X.env)).any (·.1) = false := by rfl) :
    ∃ t, QE X W (.Call (.Name "list" p2) [.Name x p] [] pos) t (fun _ _ M Q => newL m (ks.map D.str) M Q) := by
  obtain ⟨d, h1, h2⟩ := h.ex
  rw [Bool.and_eq_true, decide_eq_true_eq, List.all_eq_true] at hz
  refine ⟨_, pe_callTy (call_listK hcalm h2 nd hz.1) hgl hm (by kernel_rfl) (pa_cons (pe_glob hg h1 (v := .ref d) rfl hd) pa_nil) (by decide) (by decide) he hpl, fun DW G H p M s Q Q' hw S hq k => ⟨rfl, fun q hq2 => ?_⟩⟩
  have hr : RepL X.K G (ks.map D.str) (ks.map V.str) := by
    have h3 := hz.2
    clear hq h2 nd hz h
    induction ks with
    | nil => rfl
    | cons k ks ih =>
      have h4 := h3 k (List.mem_cons_self ..)
      rw [Bool.and_eq_true, decide_eq_true_eq] at h4
      exact ⟨.str k, _, rfl, ⟨rfl, sz1000 h4.1, h4.2⟩, ih fun z hz => h3 z (List.mem_cons_of_mem _ hz)⟩
  exact newL_ok S hq2 hr (by rw [List.length_map, sizeLine_eq]; omega) hq k
end
/-- zip of two lists, or of two tuples -/
def qiZipB (qa : DTA) : DTI := fun DW p M R => qiZip qa DW p M R ∨ qiZipT qa DW p M R
theorem qi_orI {X : Cx} {W : WX} {tg e : Expr} {t1 t2 : TI} {q1 q2 : DTI} (h1 : QI X W tg e t1 q1) (h2 : QI X W tg e t2 q2) : QI X W tg e (fun σ H R => t1 σ H R ∨ t2 σ H R) (fun DW p M R => q1 DW p M R ∨ q2 DW p M R) :=
  ⟨⟨fun pins s σ H R I h => h.elim (h1.pe.run pins s σ H R I) (h2.pe.run pins s σ H R I)⟩, fun DW G H p M s R R' hw S h k => h.imp (fun h => h1.rf DW G H p M s R R' hw S h k) fun h => h2.rf DW G H p M s R R' hw S h k⟩
section
variable {X : Cx} {W : WX} {e e2 : Expr} {ta : TA} {qa : DTA} {p pos tpos : Pos} {elts : List Expr} {kk : Nat}
theorem qi_zipB (hg : Gl X "zip") (hm : X.mg "zip" = none) (ha : QA X W [e, e2] ta qa)
    (hs : starEach [e, e2] X.env = (false, eval e X.env) :: starEach [e2] X.env := by rfl) (hpl : (backTo pos (starEach [e2] X.env)).any (·.1) = false := by rfl) :
    QI X W (.Tuple elts kk tpos) (.Call (.Name "zip" p) [e, e2] [] pos) (fun σ H R => iZip X.K ta σ H R ∨ RZ.iZipA X.K ta σ H R) (qiZipB qa) := qi_orI (qi_zip hg hm ha hs hpl) (qi_zipT hg hm ha hs hpl)
end
end DL

/-! DLx: plain data; likeness through and through, as the laws ask it. -/
namespace DL
open PySem L2
mutual
def plnD : D → Bool
  | .non => true
  | .bl _ => true
  | .int _ => true
  | .str _ => true
  | .tup ds => decide (ds.length ≤ 100000) && plnL ds
  | .lst ds => decide (ds.length ≤ 100000) && plnL ds
  | _ => false
def plnL : List D → Bool
  | [] => true
  | d :: ds => plnD d && plnL ds
end
theorem plnL_all : ∀ {ds : List D}, plnL ds = true → ∀ d ∈ ds, plnD d = true
  | [], _, _, h => by cases h
  | d :: ds, h, x, hx => by
    have h' : plnD d = true ∧ plnL ds = true := by simpa [plnL] using h
    rcases List.mem_cons.mp hx with rfl | hx
    · exact h'.1
    · exact plnL_all h'.2 x hx
theorem plnL_of : ∀ {ds : List D}, (∀ d ∈ ds, plnD d = true) → plnL ds = true
  | [], _ => by simp [plnL]
  | d :: ds, h => by
    simp only [plnL, Bool.and_eq_true]
    exact ⟨h d (List.mem_cons_self ..), plnL_of fun x hx => h x (List.mem_cons_of_mem _ hx)⟩
mutual
theorem pln_data : ∀ d : D, plnD d = true → isData d = true
  | .non, _ => rfl
  | .bl _, _ => rfl
  | .int _, _ => rfl
  | .str _, _ => rfl
  | .tup ds, h => by
    have h' : ds.length ≤ 100000 ∧ plnL ds = true := by simpa [plnD] using h
    have := plnL_data ds h'.2
    simpa [isData] using this
  | .lst ds, h => by
    have h' : ds.length ≤ 100000 ∧ plnL ds = true := by simpa [plnD] using h
    have := plnL_data ds h'.2
    simpa [isData] using this
  | .ktp _, h => by cases h
  | .scr _, h => by cases h
  | .ty _, h => by cases h
  | .ref _, h => by cases h
  | .dct _ _, h => by cases h
  | .ins _ _ _, h => by cases h
  | .exc _ _ _ _, h => by cases h
theorem plnL_data : ∀ ds : List D, plnL ds = true → isDataL ds = true
  | [], _ => rfl
  | d :: ds, h => by
    have h' : plnD d = true ∧ plnL ds = true := by simpa [plnL] using h
    have h1 := pln_data d h'.1
    have h2 := plnL_data ds h'.2
    simp [isDataL, h1, h2]
end
theorem pln_res {M : Mst} {d : D} (h : plnD d = true) : res M d = d := by
  cases d with
  | ref a => cases h
  | ktp ds => cases h
  | _ => rfl
theorem dep_mem : ∀ {ds : List D} {d : D}, d ∈ ds → dep d ≤ PyData.depthAll (pydL ds)
  | [], _, h => by cases h
  | e :: ds, d, h => by
    simp only [pydL, PyData.depthAll]
    rcases List.mem_cons.mp h with rfl | h
    · exact Nat.le_max_left _ _
    · exact Nat.le_trans (dep_mem h) (Nat.le_max_right _ _)
theorem dep_in_tup {ds : List D} {d : D} (h : d ∈ ds) : dep d + 1 ≤ dep (.tup ds) := by
  have := dep_mem h
  simp only [dep, pyd, PyData.depth] at this ⊢; omega
theorem dep_in_lst {ds : List D} {d : D} (h : d ∈ ds) : dep d + 1 ≤ dep (.lst ds) := by
  have := dep_mem h
  simp only [dep, pyd, PyData.depth] at this ⊢; omega
theorem eq_bb {neg : Bool} {x y : Bool} {M : Mst} {Q : DK} : dEq neg (.bl x) (.bl y) M Q = Q (.bl (xor neg (decide (x = y)))) M := by
  unfold dEq
  rw [res_bl, res_bl, deq_bl]
  have h1 : isData (.bl x) = true := rfl
  have h2 : isData (.bl y) = true := rfl
  have h3 : min (dep (.bl x)) (dep (.bl y)) ≤ 64 := by simp [dep, pyd, PyData.depth]
  simp [h1, h2, h3]
theorem zip_self {d : D} : ∀ {ds : List D}, d ∈ zipD ds ds → ∃ e ∈ ds, d = .tup [e, e]
  | [], h => by simp [zipD] at h
  | e :: ds, h => by
    simp only [zipD, List.mem_cons] at h
    rcases h with rfl | h
    · exact ⟨e, List.mem_cons_self .., rfl⟩
    · obtain ⟨e', h1, h2⟩ := zip_self h
      exact ⟨e', List.mem_cons_of_mem _ h1, h2⟩
theorem zip_len : ∀ ds : List D, (zipD ds ds).length = ds.length
  | [] => rfl
  | d :: ds => by simp [zipD, zip_len ds]
theorem trues_ {α : Type} (l : List α) : (l.filterMap fun _ => some (D.bl true)) = (l.map fun _ => true).map D.bl := by
  induction l with
  | nil => rfl
  | cons a l ih => rw [List.filterMap_cons]; simp only [ih]; rfl
theorem all_true_ {α : Type} {l : List α} {M : Mst} {Q : DK} : dAll [.lst (l.filterMap fun _ => some (.bl true))] M Q = Q (.bl true) M := by
  have e : (l.map fun _ => true).all id = true := by
    rw [List.all_eq_true]; intro x hx; obtain ⟨_, _, rfl⟩ := List.mem_map.mp hx; rfl
  rw [trues_ l, all_bls, e]
/-- the laws' likeness -/
def qLikeR (sp : DSp) : DTS :=
  (qSeq (qIfS (qOr (qTB (qOp (dEq true) (qCB dIsi (qCons (qVar 0) (qCons (qC (.ty "bool")) qNil))) (qCB dIsi (qCons (qVar 1) (qCons (qC (.ty "bool")) qNil))))) (qTB (qOp (dEq true) (qVar 0) (qVar 1))))
  (qRet (qC (.bl false)))
  qNext)
  (qSeq (qIfS (qTB (qCB dIsi (qCons (qVar 0) (qCons (qTup (qCons (qC (.ty "list")) (qCons (qC (.ty "tuple")) qNil))) qNil))))
  (qRet (qCB dAll (qCons (qLc false (qiZipB (qCons (qVar 0) (qCons (qVar 1) qNil))) (gTupD 2 (gConsD (gNameD 2) (gConsD (gNameD 3) gNilD))) qYes (qCall sp [] (qCons (qVar 2) (qCons (qVar 3) qNil))) [2, 3]) qNil)))
  qNext)
  (qRet (qC (.bl true)))))
def spLikeD (m : Nat) : DSp := fun ds M Q _ => ∃ d, ds = [d, d] ∧ plnD d = true ∧ dep d < m ∧ m ≤ 64 ∧ Q (.bl true) M
theorem bb_ : isiB "bool" "bool" = some true := by decide +kernel
theorem nb_ : isiB "NoneType" "bool" = some false := by decide +kernel
theorem sb2_ : isiB "str" "bool" = some false := by decide +kernel
theorem tb2_ : isiB "tuple" "bool" = some false := by decide +kernel
theorem lb2_ : isiB "list" "bool" = some false := by decide +kernel
theorem isi_bools {d : D} (h : plnD d = true) : ∃ b, isiB (tyD d) "bool" = some b := by
  cases d with
  | non => exact ⟨_, nb_⟩
  | bl _ => exact ⟨_, bb_⟩
  | int _ => exact ⟨_, ib⟩
  | str _ => exact ⟨_, sb2_⟩
  | tup _ => exact ⟨_, tb2_⟩
  | lst _ => exact ⟨_, lb2_⟩
  | _ => cases h
theorem pln_hasTy {d : D} (h : plnD d = true) : hasTy d = true := by
  cases d <;> first | rfl | cases h
abbrev LS : List D := [.ty "list", .ty "tuple"]
theorem like_okD (m : Nat) (N : List Str) (hN : N.length = 4) (ds : List D) (M : Mst) (Q : DK) (Ed : DX → Mst → Prop) (h : upSp (spLikeD (m + 1)) ds M Q Ed) : qLikeR (spLikeD m) (fun x _ M => Ed x M) (retE Q) (startD N ds) M := by
  obtain ⟨Q0, E0, ⟨d, rfl, hp, hd, hm, k0⟩, kq, _⟩ := h
  have k : Q (.bl true) M := kq _ _ _ (Sub.refl _) k0
  have eS : startD N [d, d] = [some d, some d, none, none] := by unfold startD; rw [hN]; rfl
  rw [eS]
  clear eS
  obtain ⟨b, hb⟩ := isi_bools hp
  have hr : ∀ M, res M d = d := fun M => pln_res hp
  have isb : ∀ (M : Mst) (R : DK), dIsi [d, .ty "bool"] M R = R (.bl b) M := fun M R => isi_one (by rw [hr]; exact pln_hasTy hp) (by rw [hr]; exact hb)
  simp only [qLikeR, qOr, qSeq, qAsg, qTup, qCons, qNil, qOp, qUn, qC, qCall, qVar, qLst, newL_f, qIfS, qTB, qNext, qRet, qCB, gNameD, List.getElem?_cons_zero, List.getElem?_cons_succ, isb]
  rw [eq_bb]
  simp only [decide_true, Bool.xor_true, Bool.not_true, Bool.false_eq_true, if_false]
  rw [eq_same (d := d) (hr M) (hr M) (pln_data d hp) (by omega)]
  simp only [Bool.not_true, Bool.false_eq_true, if_false]
  refine ⟨by simp, ?_⟩
  have flat : ∀ (T : String) (R : DK), tyD d = T → isiL T LS = some false → R (.bl false) M → dIsi [d, .tup LS] M R := fun T R h1 h2 h3 => by
    rw [isi_tup (x := d) (b := false) (by rw [hr]; exact pln_hasTy hp) (by rw [hr, h1]; exact h2)]
    exact h3
  have deep : ∀ es, (d = .tup es ∨ d = .lst es) → qLc false (qiZipB (qCons (qVar 0) (qCons (qVar 1) qNil))) (gTupD 2 (gConsD (gNameD 2) (gConsD (gNameD 3) gNilD))) qYes (qCall (spLikeD m) [] (qCons (qVar 2) (qCons (qVar 3) qNil))) [2, 3] (fun x _ M => Ed x M) [some d, some d, none, none] M (fun x M1 => dAll [x] M1 Q) := fun es he => by
    have hes : es.length ≤ 100000 ∧ (∀ e ∈ es, plnD e = true) ∧ ∀ e ∈ es, dep e < m := by
      rcases he with rfl | rfl
      · have h' : es.length ≤ 100000 ∧ plnL es = true := by simpa [plnD] using hp
        exact ⟨h'.1, plnL_all h'.2, fun e h => by have := dep_in_tup h; omega⟩
      · have h' : es.length ≤ 100000 ∧ plnL es = true := by simpa [plnD] using hp
        exact ⟨h'.1, plnL_all h'.2, fun e h => by have := dep_in_lst h; omega⟩
    have main : ∀ (Sty : Mst → Prop) (a : Addr), M a = none → (∀ acc, Sty (put M a (.lst acc))) → compL false Sty (gTupD 2 (gConsD (gNameD 2) (gConsD (gNameD 3) gNilD))) qYes (qCall (spLikeD m) [] (qCons (qVar 2) (qCons (qVar 3) qNil))) [2, 3] a [some d, some d, none, none] (fun x M1 => dAll [x] M1 Q) (zipD es es) (put M a (.lst [])) := fun Sty c hc hS => by
      refine compL_map hc (fun _ => some (.bl true)) hS (by rw [zip_len]; exact hes.1) (fun d' hd' acc R hR => ?_) ?_
      · obtain ⟨e, h1, rfl⟩ := zip_self hd'
        simp only [gTupD, res_tup, gConsD, gNilD, wipeD, gNameD, List.length_cons, List.length_nil]
        refine ⟨trivial, trivial, ?_⟩
        simp only [qYes, qCall, qCons, qNil, qVar, List.set_cons_zero, List.set_cons_succ, List.getElem?_cons_zero, List.getElem?_cons_succ, List.append_nil, if_true]
        exact ⟨e, rfl, hes.2.1 e h1, hes.2.2 e h1, by omega, hR⟩
      · simp only [Bool.false_eq_true, if_false]
        rw [all_true_]
        exact k
    simp only [qLc, qiZipB, qiZip, qiZipT, qCons, qNil, qVar, List.getElem?_cons_zero, List.getElem?_cons_succ]
    rcases he with rfl | rfl
    · exact .inr fun c hc => main _ c hc fun _ => trivial
    · exact .inl fun c hc => main _ c hc fun _ => ⟨trivial, trivial⟩
  cases d with
  | non => exact flat _ _ rfl lt2_n k
  | bl c => exact flat _ _ rfl lt2_b k
  | int i => exact flat _ _ rfl lt2_i k
  | str z => exact flat _ _ rfl lt2_s k
  | tup es =>
    rw [isi_tup (x := .tup es) (b := true) rfl lt2_t]
    simp only [if_true]
    exact deep es (.inl rfl)
  | lst es =>
    rw [isi_tup (x := .lst es) (b := true) rfl lt2_l]
    simp only [if_true]
    exact deep es (.inr rfl)
  | _ => cases hp
end DL

/-! DLy: insert. -/
namespace DL
open PySem L2
def mIns : DMt := fun x ds M Q => match x, ds with
  | .ref a, [.int i, d] => match M a with
    | some (.lst es) => es.length < 100000 ∧ 0 ≤ i ∧ i < 100000 ∧ Q .non (put M a (.lst (es.take i.toNat ++ [d] ++ es.drop i.toNat)))
    | _ => False
  | _, _ => False
theorem m_insert {X : Cx} : QMt X "list.insert" (fun x vs H Q => ∃ (l : Addr) (xs : List V) (i : Int) (y : V), x = .ref l ∧ vs = [.int i, y] ∧ H l = some (.lst xs) ∧ xs.length < sizeLine ∧ 0 ≤ i ∧ i < 2 ^ 63 ∧
    Q .non (upd H l (.lst (xs.take i.toNat ++ [y] ++ xs.drop i.toNat)))) mIns := ⟨mt_insert, fun G H p M s x v ds vs Q Q' S r1 r2 h k => by
  unfold mIns at h
  split at h
  · next a i d =>
    cases r1
    obtain ⟨u1, u, rfl, r0, r3⟩ := repL2 r2
    cases r0
    split at h
    · next es em =>
      obtain ⟨hl, i0, i1, h⟩ := h
      obtain ⟨gn, us, g1, g2, g3⟩ := S.mem _ _ em
      have e1 := g2.length
      have z := sizeLine_eq
      refine ⟨a, us, i, u, rfl, rfl, g1, by omega, i0, by omega, k G _ _ .non _ (Same.refl _) (S.put (mo := .lst (es.take i.toNat ++ [d] ++ es.drop i.toNat)) gn ⟨_, upd_same, RepL.append (RepL.append (g2.take _) (RepL.cons r3 rfl)) (g2.drop _), ?_⟩) rfl h⟩
      simp only [List.length_append, List.length_take, List.length_drop, List.length_cons, List.length_nil]
      omega
    · exact h.elim
  · exact h.elim⟩
end DL

/-! TextB: printable texts: split at blanks, words; figures. -/
namespace Tx21
open PySem L2 DL PyProof.Rows Tx20
def Pr (x : Str) : Prop := ∀ c ∈ x.cps.toList, 32 ≤ c ∧ c ≤ 126
theorem Pr.asc {x : Str} (h : Pr x) : Asc x := fun c hc => by have := h c hc; omega
theorem pr_app {a b : Str} (ha : Pr a) (hb : Pr b) : Pr (a ++ b) := fun c hc => by
  rw [PySem.Str.cps_append, Array.toList_append, List.mem_append] at hc
  exact hc.elim (ha c) (hb c)
theorem pr_one {c : Nat} (h : 32 ≤ c ∧ c ≤ 126) : Pr ⟨#[c]⟩ := fun d hd => by simp at hd; subst hd; exact h
theorem pr_empty : Pr Str.empty := fun d hd => by simp [Str.empty] at hd
theorem pr_low {x : Str} (h : Pr x) : Pr (Txt.lower x) := fun c hc => by
  rw [lower_ascii h.asc] at hc
  simp only [Array.toList_map, List.mem_map] at hc
  obtain ⟨d, hd, rfl⟩ := hc
  have := h d hd
  unfold lo1; split <;> omega
theorem pr_ok {x : Str} (h : Pr x) (hl : x.length ≤ 100000) : okS x := ok_asc h.asc hl
theorem mem_join {sep : Str} {c : Nat} : ∀ {ps : List Str} {p : Str}, p ∈ ps → c ∈ p.cps.toList → c ∈ (Str.join sep ps).cps.toList
  | [], _, h, _ => by cases h
  | [x], p, h, hc => by rw [List.mem_singleton.mp h] at hc; exact hc
  | x :: y :: r, p, h, hc => by
    show c ∈ (x ++ sep ++ Str.join sep (y :: r)).cps.toList
    rw [PySem.Str.cps_append, PySem.Str.cps_append]
    simp only [Array.toList_append, List.mem_append]
    rcases List.mem_cons.mp h with rfl | h
    · exact .inl (.inl hc)
    · exact .inr (mem_join h hc)
theorem len_join {sep : Str} : ∀ {ps : List Str} {p : Str}, p ∈ ps → p.length ≤ (Str.join sep ps).length
  | [], _, h => by cases h
  | [x], p, h => by rw [List.mem_singleton.mp h]; exact Nat.le_refl _
  | x :: y :: r, p, h => by
    show p.length ≤ (x ++ sep ++ Str.join sep (y :: r)).length
    rw [len_append, len_append]
    rcases List.mem_cons.mp h with rfl | h
    · omega
    · have := len_join (sep := sep) h; omega
abbrev sp1 : Str := ⟨#[32]⟩
theorem split_facts {x p : Str} (h : Pr x) (hp : p ∈ Txt.split x sp1) : Pr p ∧ p.length ≤ x.length ∧ 32 ∉ p.cps.toList := by
  have hj := StrLaws.join_split x sp1
  refine ⟨fun c hc => h c ?_, ?_, StrLaws.split_free x 32 p hp⟩
  · rw [← hj]; exact mem_join hp hc
  · have := len_join (sep := sp1) hp
    rw [hj] at this; exact this
theorem space_is : ∀ c, c < 127 → 32 ≤ c → (Unicode.isSpace c = true ↔ c = 32) := by decide +kernel
theorem fold_signs : ∀ (cs : List Nat) (ws : List Str) (run : Str), (∀ c ∈ cs, (32 ≤ c ∧ c ≤ 126) ∧ c ≠ 32) → cs.foldl KWd.step (ws, run) = (ws, run ++ ⟨cs.toArray⟩)
  | [], ws, run, _ => by
    have e : (⟨([] : List Nat).toArray⟩ : Str) = Str.empty := rfl
    rw [e, app_empty]; rfl
  | c :: cs, ws, run, h => by
    have hc := h c (List.mem_cons_self ..)
    have hs : ¬ Unicode.isSpace c = true := fun z => hc.2 ((space_is c (by omega) hc.1.1).mp z)
    rw [List.foldl_cons]
    have e1 : KWd.step (ws, run) c = (ws, run ++ ⟨#[c]⟩) := by unfold KWd.step; rw [if_neg hs]
    rw [e1, fold_signs cs ws _ fun d hd => h d (List.mem_cons_of_mem _ hd), app_assoc]
    congr 2
    apply PySem.Str.ext'; rw [PySem.Str.cps_append]; apply Array.toList_inj.mp; simp
def some_ (p : Str) : Bool := !(p.length == 0)
theorem fin_join : ∀ (ps : List Str) (ws : List Str), (∀ p ∈ ps, ∀ c ∈ p.cps.toList, (32 ≤ c ∧ c ≤ 126) ∧ c ≠ 32) →
    KWd.fin ((Str.join sp1 ps).cps.toList.foldl KWd.step (ws, Str.empty)) = ws ++ ps.filter some_
  | [], ws, _ => by
    show KWd.fin ((Str.empty).cps.toList.foldl KWd.step (ws, Str.empty)) = _
    simp [Str.empty, KWd.fin, Str.length]
  | [p], ws, h => by
    show KWd.fin (p.cps.toList.foldl KWd.step (ws, Str.empty)) = _
    rw [fold_signs _ ws _ (h p (List.mem_singleton.mpr rfl))]
    have e : Str.empty ++ ⟨p.cps.toList.toArray⟩ = p := by
      apply PySem.Str.ext'; rw [PySem.Str.cps_append]; simp [Str.empty]
    rw [e]
    unfold KWd.fin some_
    by_cases hl : p.length = 0
    · simp [hl]
    · simp [hl]
  | p :: q :: r, ws, h => by
    have hp := h p (List.mem_cons_self ..)
    show KWd.fin ((p ++ sp1 ++ Str.join sp1 (q :: r)).cps.toList.foldl KWd.step (ws, Str.empty)) = _
    rw [PySem.Str.cps_append, PySem.Str.cps_append]
    simp only [Array.toList_append, List.foldl_append]
    rw [fold_signs _ ws _ hp]
    have e : Str.empty ++ ⟨p.cps.toList.toArray⟩ = p := by
      apply PySem.Str.ext'; rw [PySem.Str.cps_append]; simp [Str.empty]
    rw [e]
    show KWd.fin ((Str.join sp1 (q :: r)).cps.toList.foldl KWd.step (KWd.step (ws, p) 32)) = _
    have s32 : Unicode.isSpace 32 = true := by decide +kernel
    have ih := fun ws => fin_join (q :: r) ws fun p hp => h p (List.mem_cons_of_mem _ hp)
    have e32 : KWd.step (ws, p) 32 = if p.length = 0 then (ws, p) else (ws ++ [p], Str.empty) := by unfold KWd.step; rw [if_pos s32]
    rw [e32]
    by_cases hl : p.length = 0
    · simp only [hl, if_true]
      rw [len0 hl, ih ws]
      simp [List.filter_cons, some_, Str.empty, Str.length]
    · simp only [hl, if_false]
      rw [ih (ws ++ [p])]
      have : some_ p = true := by unfold some_; simp [hl]
      simp [List.filter_cons, this]
/-- the words of a printable text are its parts between blanks that are not empty -/
theorem words_split {x : Str} (h : Pr x) : Txt.words x = (Txt.split x sp1).filter some_ := by
  rw [KWd.words_scan]
  have hj := StrLaws.join_split x sp1
  have := fin_join (Txt.split x sp1) [] fun p hp c hc => ⟨(split_facts h hp).1 c hc, fun e => (split_facts h hp).2.2 (by rw [← e]; exact hc)⟩
  rw [hj, List.nil_append] at this
  exact this
structure Wd (n : Nat) (w : Str) : Prop where
  pr : Pr w
  pos : 1 ≤ w.length
  len : w.length ≤ n
theorem words_wd {x : Str} (h : Pr x) : ∀ w ∈ Txt.words x, Wd x.length w := fun w hw => by
  rw [words_split h, List.mem_filter] at hw
  obtain ⟨h1, h2⟩ := hw
  obtain ⟨a, b, _⟩ := split_facts h h1
  refine ⟨a, ?_, b⟩
  unfold some_ at h2
  simp at h2; omega
theorem words_few {x : Str} (h : Pr x) : (Txt.words x).length ≤ x.length + 2 := by
  rw [words_split h]
  exact Nat.le_trans (List.length_filter_le _ _) (split_le x sp1)
/-! ### figures -/
theorem figs_num {z : Str} (h : ∀ c ∈ z.cps.toList, 48 ≤ c ∧ c ≤ 57) (h1 : 1 ≤ z.length) (h2 : z.length ≤ 640) : ∃ n : Int, intText? z = some n := by
  refine ⟨_, intText_digits (fun c hc => h c hc) (fun e => ?_) (by omega)⟩
  have h3 : z.cps.toList.length = 0 := by rw [e]; rfl
  rw [Array.length_toList] at h3
  have h4 : z.length = z.cps.size := rfl
  omega
end Tx21

/-! DLz: what simp opens; draws. -/
namespace DL
open PySem L2 Tx20 Tx21
abbrev lit (s : String) : Str := PySem.Str.ofString s
abbrev one (c : Nat) : Str := ⟨#[c]⟩
abbrev stL (ws : List Str) : D := .lst (ws.map .str)
section
variable {M : Mst} {Q : DK}
/-! ### isinstance -/
@[simp] theorem z_isi_int_int {i} : dIsi [.int i, .ty "int"] M Q = Q (.bl true) M := isi_one rfl (show isiB "int" "int" = some true by decide +kernel)
@[simp] theorem z_isi_int_bool {i} : dIsi [.int i, .ty "bool"] M Q = Q (.bl false) M := isi_one rfl (show isiB "int" "bool" = some false by decide +kernel)
@[simp] theorem z_isi_int_str {i} : dIsi [.int i, .ty "str"] M Q = Q (.bl false) M := isi_one rfl (show isiB "int" "str" = some false by decide +kernel)
@[simp] theorem z_isi_int_tup {i} : dIsi [.int i, .ty "tuple"] M Q = Q (.bl false) M := isi_one rfl (show isiB "int" "tuple" = some false by decide +kernel)
@[simp] theorem z_isi_int_lst {i} : dIsi [.int i, .ty "list"] M Q = Q (.bl false) M := isi_one rfl (show isiB "int" "list" = some false by decide +kernel)
@[simp] theorem z_isi_bl_int {i} : dIsi [.bl i, .ty "int"] M Q = Q (.bl true) M := isi_one rfl (show isiB "bool" "int" = some true by decide +kernel)
@[simp] theorem z_isi_bl_bool {i} : dIsi [.bl i, .ty "bool"] M Q = Q (.bl true) M := isi_one rfl (show isiB "bool" "bool" = some true by decide +kernel)
@[simp] theorem z_isi_bl_str {i} : dIsi [.bl i, .ty "str"] M Q = Q (.bl false) M := isi_one rfl (show isiB "bool" "str" = some false by decide +kernel)
@[simp] theorem z_isi_bl_tup {i} : dIsi [.bl i, .ty "tuple"] M Q = Q (.bl false) M := isi_one rfl (show isiB "bool" "tuple" = some false by decide +kernel)
@[simp] theorem z_isi_bl_lst {i} : dIsi [.bl i, .ty "list"] M Q = Q (.bl false) M := isi_one rfl (show isiB "bool" "list" = some false by decide +kernel)
@[simp] theorem z_isi_str_int {i} : dIsi [.str i, .ty "int"] M Q = Q (.bl false) M := isi_one rfl (show isiB "str" "int" = some false by decide +kernel)
@[simp] theorem z_isi_str_bool {i} : dIsi [.str i, .ty "bool"] M Q = Q (.bl false) M := isi_one rfl (show isiB "str" "bool" = some false by decide +kernel)
@[simp] theorem z_isi_str_str {i} : dIsi [.str i, .ty "str"] M Q = Q (.bl true) M := isi_one rfl (show isiB "str" "str" = some true by decide +kernel)
@[simp] theorem z_isi_str_tup {i} : dIsi [.str i, .ty "tuple"] M Q = Q (.bl false) M := isi_one rfl (show isiB "str" "tuple" = some false by decide +kernel)
@[simp] theorem z_isi_str_lst {i} : dIsi [.str i, .ty "list"] M Q = Q (.bl false) M := isi_one rfl (show isiB "str" "list" = some false by decide +kernel)
@[simp] theorem z_isi_non_int : dIsi [.non, .ty "int"] M Q = Q (.bl false) M := isi_one rfl (show isiB "NoneType" "int" = some false by decide +kernel)
@[simp] theorem z_isi_non_bool : dIsi [.non, .ty "bool"] M Q = Q (.bl false) M := isi_one rfl (show isiB "NoneType" "bool" = some false by decide +kernel)
@[simp] theorem z_isi_non_str : dIsi [.non, .ty "str"] M Q = Q (.bl false) M := isi_one rfl (show isiB "NoneType" "str" = some false by decide +kernel)
@[simp] theorem z_isi_non_tup : dIsi [.non, .ty "tuple"] M Q = Q (.bl false) M := isi_one rfl (show isiB "NoneType" "tuple" = some false by decide +kernel)
@[simp] theorem z_isi_non_lst : dIsi [.non, .ty "list"] M Q = Q (.bl false) M := isi_one rfl (show isiB "NoneType" "list" = some false by decide +kernel)
@[simp] theorem z_isi_tup_int {i} : dIsi [.tup i, .ty "int"] M Q = Q (.bl false) M := isi_one rfl (show isiB "tuple" "int" = some false by decide +kernel)
@[simp] theorem z_isi_tup_bool {i} : dIsi [.tup i, .ty "bool"] M Q = Q (.bl false) M := isi_one rfl (show isiB "tuple" "bool" = some false by decide +kernel)
@[simp] theorem z_isi_tup_str {i} : dIsi [.tup i, .ty "str"] M Q = Q (.bl false) M := isi_one rfl (show isiB "tuple" "str" = some false by decide +kernel)
@[simp] theorem z_isi_tup_tup {i} : dIsi [.tup i, .ty "tuple"] M Q = Q (.bl true) M := isi_one rfl (show isiB "tuple" "tuple" = some true by decide +kernel)
@[simp] theorem z_isi_tup_lst {i} : dIsi [.tup i, .ty "list"] M Q = Q (.bl false) M := isi_one rfl (show isiB "tuple" "list" = some false by decide +kernel)
@[simp] theorem z_isi_lst_int {i} : dIsi [.lst i, .ty "int"] M Q = Q (.bl false) M := isi_one rfl (show isiB "list" "int" = some false by decide +kernel)
@[simp] theorem z_isi_lst_bool {i} : dIsi [.lst i, .ty "bool"] M Q = Q (.bl false) M := isi_one rfl (show isiB "list" "bool" = some false by decide +kernel)
@[simp] theorem z_isi_lst_str {i} : dIsi [.lst i, .ty "str"] M Q = Q (.bl false) M := isi_one rfl (show isiB "list" "str" = some false by decide +kernel)
@[simp] theorem z_isi_lst_tup {i} : dIsi [.lst i, .ty "tuple"] M Q = Q (.bl false) M := isi_one rfl (show isiB "list" "tuple" = some false by decide +kernel)
@[simp] theorem z_isi_lst_lst {i} : dIsi [.lst i, .ty "list"] M Q = Q (.bl true) M := isi_one rfl (show isiB "list" "list" = some true by decide +kernel)
/-! ### lengths, comparisons -/
@[simp] theorem z_len_str {z : Str} : dLen [.str z] M Q = Q (.int z.length) M := by simp [dLen]
@[simp] theorem z_len_tup {ds : List D} : dLen [.tup ds] M Q = Q (.int ds.length) M := by simp [dLen]
@[simp] theorem z_len_ktp {ds : List D} : dLen [.ktp ds] M Q = Q (.int ds.length) M := by simp [dLen]
@[simp] theorem z_add_str {m : Bool} {x y : Str} : dAdd m (.str x) (.str y) M Q = (x.length + y.length ≤ 100000 ∧ Q (.str (x ++ y)) M) := rfl
@[simp] theorem z_add_tup {m : Bool} {x y : List D} : dAdd m (.tup x) (.tup y) M Q = (x.length + y.length ≤ 100000 ∧ Q (.tup (x ++ y)) M) := rfl
@[simp] theorem z_eq_int {i j : Int} : dEq false (.int i) (.int j) M Q = Q (.bl (decide (i = j))) M := by rw [eq_int, Bool.false_xor]
@[simp] theorem z_ne_int {i j : Int} : dEq true (.int i) (.int j) M Q = Q (.bl (!decide (i = j))) M := by rw [eq_int, Bool.true_xor]
@[simp] theorem z_eq_str {i j : Str} : dEq false (.str i) (.str j) M Q = Q (.bl (decide (i = j))) M := by rw [eq_str, Bool.false_xor]
@[simp] theorem z_ne_str {i j : Str} : dEq true (.str i) (.str j) M Q = Q (.bl (!decide (i = j))) M := by rw [eq_str, Bool.true_xor]
@[simp] theorem z_eq_bl {i j : Bool} : dEq false (.bl i) (.bl j) M Q = Q (.bl (decide (i = j))) M := by rw [eq_bb, Bool.false_xor]
@[simp] theorem z_ne_bl {i j : Bool} : dEq true (.bl i) (.bl j) M Q = Q (.bl (!decide (i = j))) M := by rw [eq_bb, Bool.true_xor]
@[simp] theorem z_is {x : D} : dIs false x .non M Q = Q (.bl (isNon x)) M := by cases h : isNon x <;> simp [dIs, h]
@[simp] theorem z_isnot {x : D} : dIs true x .non M Q = Q (.bl (!isNon x)) M := by cases h : isNon x <;> simp [dIs, h]
@[simp] theorem z_neg {i : Int} : dNeg (.int i) M Q = Q (.int (-i)) M := rfl
@[simp] theorem z_inS {neg : Bool} {c z : Str} : dIn neg (.str c) (.str z) M Q = Q (.bl (xor neg (inS c z))) M := rfl
@[simp] theorem z_intX_i {i : Int} : dIntX [.int i] M Q = Q (.int i) M := rfl
@[simp] theorem z_intX_b {b : Bool} : dIntX [.bl b] M Q = Q (.int (if b = true then 1 else 0)) M := by cases b <;> rfl
theorem in_strs {neg : Bool} {z : Str} {zs : List Str} : dIn neg (.str z) (.lst (zs.map .str)) M Q = Q (.bl (xor neg (decide (z ∈ zs)))) M := by
  unfold dIn
  have a : (zs.map D.str).any (fun e => deq e (.str z)) = decide (z ∈ zs) := by
    rw [List.any_map]
    induction zs with
    | nil => simp
    | cons y ys ih => simp only [List.any_cons, ih, Function.comp, deq_str, List.mem_cons]; simp [eq_comm]
  have f : (zs.map D.str).all flatD = true := by rw [List.all_map, List.all_eq_true]; intro x _; rfl
  simp only [dgetD, res_lst, a, f, show flatD (.str z) = true from rfl, true_and]
theorem in_strsT {neg : Bool} {z : Str} {zs : List Str} : dIn neg (.str z) (.tup (zs.map .str)) M Q = Q (.bl (xor neg (decide (z ∈ zs)))) M := by
  unfold dIn
  have a : (zs.map D.str).any (fun e => deq e (.str z)) = decide (z ∈ zs) := by
    rw [List.any_map]
    induction zs with
    | nil => simp
    | cons y ys ih => simp only [List.any_cons, ih, Function.comp, deq_str, List.mem_cons]; simp [eq_comm]
  have f : (zs.map D.str).all flatD = true := by rw [List.all_map, List.all_eq_true]; intro x _; rfl
  simp only [dgetD, res_tup, a, f, show flatD (.str z) = true from rfl, true_and]
/-! ### items -/
@[simp] theorem z_ix_l0 {d : D} {ds : List D} : dIx (.lst (d :: ds)) (.int 0) M Q = Q d M := ix_l atI_0
@[simp] theorem z_ix_t0 {d : D} {ds : List D} : dIx (.tup (d :: ds)) (.int 0) M Q = Q d M := ix_t atI_0
@[simp] theorem z_ix_t1 {d e : D} {ds : List D} : dIx (.tup (d :: e :: ds)) (.int 1) M Q = Q e M := ix_t atI_1
@[simp] theorem z_ix_l1 {d e : D} {ds : List D} : dIx (.lst (d :: e :: ds)) (.int 1) M Q = Q e M := ix_l atI_1
theorem pick_l {ds : List D} {r : Int} (h0 : 0 ≤ r) (h1 : r < ds.length) (h : ∀ d ∈ ds, Q d M) : dIx (.lst ds) (.int r) M Q := by
  obtain ⟨x, hx, hm⟩ := atI_some h0 h1
  rw [ix_l hx]; exact h x hm
theorem pick_t {ds : List D} {r : Int} (h0 : 0 ≤ r) (h1 : r < ds.length) (h : ∀ d ∈ ds, Q d M) : dIx (.tup ds) (.int r) M Q := by
  obtain ⟨x, hx, hm⟩ := atI_some h0 h1
  rw [ix_t hx]; exact h x hm
theorem pick_s {z : Str} {r : Int} (h0 : 0 ≤ r) (h1 : r < z.length) (h : ∀ c ∈ z.cps.toList, Q (.str (one c)) M) : dIx (.str z) (.int r) M Q := by
  obtain ⟨x, hx, hm⟩ := atI_some (xs := z.cps.toList) h0 (by rw [Array.length_toList]; exact h1)
  unfold dIx
  simp only [dgetD, res_str, hx]
  exact h x hm
theorem pick_r {a : Addr} {ds : List D} {r : Int} (hm : M a = some (.lst ds)) (h0 : 0 ≤ r) (h1 : r < ds.length) (h : ∀ d ∈ ds, Q d M) : dIx (.ref a) (.int r) M Q := by
  obtain ⟨x, hx, hm'⟩ := atI_some h0 h1
  rw [ix_r hm hx]; exact h x hm'
theorem ix_strs {ws : List Str} {i : Nat} {w : Str} (h : ws[i]? = some w) : dIx (stL ws) (.int (i : Int)) M Q = Q (.str w) M :=
  ix_l (by rw [atI_n, List.getElem?_map, h]; rfl)
theorem eq_i {neg : Bool} {i j : Nat} : dEq neg (.int (i : Int)) (.int (j : Int)) M Q = Q (.bl (xor neg (decide (i = j)))) M := by
  rw [eq_int]
  have : decide ((i : Int) = (j : Int)) = decide (i = j) := decide_eq_decide.mpr (by omega)
  rw [this]
/-! ### draws -/
theorem take_call {b : Addr} {n : Int} {E : DX → Mst → Prop} (hb : M b = some .bag) (h0 : 0 < n) (h1 : n < 1073741824) (h : ∀ r : Int, 0 ≤ r → r < n → Q (.int r) M) : spTake [.ref b, .int n] M Q E := ⟨b, n, rfl, hb, h0, h1, h⟩
end
theorem ne_of_some {M : Mst} {a b : Addr} {o : MO} (h : M a = some o) (g : M b = none) : a ≠ b := fun e => by rw [e, g] at h; cases h
theorem put_keep {M : Mst} {a b : Addr} {o u : MO} (h : M a = some o) (g : M b = none) : put M b u a = some o := by rw [put_ne (ne_of_some h g)]; exact h
theorem range_at {n : Nat} {i : Nat} {d : D} (h : (rangeD 0 n)[i]? = some d) : i < n ∧ d = .int (i : Int) := by
  have h1 := (List.getElem?_eq_some_iff.mp h).1
  have hi : i < n := by simpa [rangeD] using h1
  refine ⟨hi, ?_⟩
  simp [rangeD, hi] at h; exact h.symm
@[simp] theorem rangeD_len {lo : Int} {n : Nat} : (rangeD lo n).length = n := by simp [rangeD]
/-! ### texts drawn sign by sign -/
theorem glue_ones : ∀ (r : List Nat) (acc : Array Nat), (r.map one).foldl (fun acc (p : Str) => acc ++ (lit "").cps ++ p.cps) acc = acc ++ r.toArray
  | [], acc => by simp
  | c :: r, acc => by
    rw [List.map_cons, List.foldl_cons, glue_ones r, show (lit "").cps = #[] by decide +kernel]
    apply Array.toList_inj.mp; simp
theorem join_ones (cs : List Nat) : Txt.join (lit "") (cs.map one) = ⟨cs.toArray⟩ := by
  unfold Txt.join Builtin.Str.glued
  cases cs with
  | nil => rfl
  | cons c r =>
    simp only [List.map_cons, List.drop_succ_cons, List.drop_zero, List.headD_cons]
    rw [glue_ones]
    congr 1
    apply Array.toList_inj.mp; simp
theorem ones_sum (cs : List Nat) : ((cs.map one).map (·.length)).sum = cs.length := by
  induction cs with
  | nil => rfl
  | cons c r ih => simp only [List.map_cons, List.sum_cons, ih, List.length_cons]; show 1 + _ = _; omega
theorem signs_of {P : Nat → Prop} {ds : List D} {os : List (Option D)} (h : All2 (fun _ o => ∃ c : Nat, o = some (.str (one c)) ∧ P c) ds os) : ∃ cs : List Nat, os.filterMap id = (cs.map one).map D.str ∧ cs.length = ds.length ∧ ∀ c ∈ cs, P c := by
  induction h with
  | nil => exact ⟨[], rfl, rfl, fun _ h => (by cases h)⟩
  | cons h _ ih =>
    obtain ⟨z, rfl, hz⟩ := h
    obtain ⟨w, e, l, a⟩ := ih
    exact ⟨z :: w, by simp [e], by simp [l], fun x hx => by
      rcases List.mem_cons.mp hx with rfl | hx
      · exact hz
      · exact a x hx⟩
/-- ''.join(signs drawn) -/
theorem join_signs {cs : List Nat} {M : Mst} {Q : DK} (hp : ∀ c ∈ cs, c < 55296) (hl : cs.length ≤ 100000) (h : Q (.str ⟨cs.toArray⟩) M) : mJoin (.str (lit "")) [.lst ((cs.map one).map .str)] M Q := by
  have e0 : (lit "").length = 0 := by decide +kernel
  simp only [mJoin, res_str, res_lst, strsD_map, join_ones, ones_sum, e0]
  refine ⟨by simp; exact hl, ⟨by show cs.toArray.size ≤ 100000; simpa using hl, ?_⟩, h⟩
  unfold PyData.strOk
  rw [← Array.all_toList, List.all_eq_true]
  intro c hc
  have := hp c (by simpa using hc)
  exact decide_eq_true (by omega)
/-! ### numbers as texts, texts in length -/
structure Tx_ (n : Nat) (x : Str) : Prop where
  pr : Pr x
  len : x.length ≤ n
theorem Tx_.ok {n : Nat} {x : Str} (h : Tx_ n x) (hn : n ≤ 100000) : okS x := pr_ok h.pr (Nat.le_trans h.len hn)
theorem Tx_.mono {n m : Nat} {x : Str} (h : Tx_ n x) (hn : n ≤ m) : Tx_ m x := ⟨h.pr, Nat.le_trans h.len hn⟩
theorem Tx_.app {n m : Nat} {x y : Str} (h : Tx_ n x) (g : Tx_ m y) : Tx_ (n + m) (x ++ y) := ⟨pr_app h.pr g.pr, by rw [len_append]; have := h.len; have := g.len; omega⟩
theorem tx_one {c : Nat} (h : 32 ≤ c ∧ c ≤ 126) : Tx_ 1 (one c) := ⟨pr_one h, Nat.le_refl 1⟩
theorem tx_empty {n : Nat} : Tx_ n Str.empty := ⟨pr_empty, Nat.zero_le _⟩
def txB (n : Nat) (x : Str) : Bool := decide (x.length ≤ n) && x.cps.toList.all fun c => decide (32 ≤ c) && decide (c ≤ 126)
theorem tx_of {n : Nat} {x : Str} (h : txB n x = true) : Tx_ n x := by
  unfold txB at h
  rw [Bool.and_eq_true, decide_eq_true_eq, List.all_eq_true] at h
  exact ⟨fun c hc => by simpa using h.2 c hc, h.1⟩
theorem tx_signs {cs : List Nat} {n : Nat} (h : ∀ c ∈ cs, 32 ≤ c ∧ c ≤ 126) (hl : cs.length ≤ n) : Tx_ n ⟨cs.toArray⟩ := ⟨fun c hc => h c (by simpa using hc), by show cs.toArray.size ≤ n; simpa using hl⟩
theorem cutS_tx {n : Nat} {x : Str} {lo hi : Option Int} (h : Tx_ n x) : Tx_ n (cutS x lo hi) := by
  refine ⟨fun c hc => ?_, ?_⟩
  · unfold cutS at hc
    exact h.pr c (List.mem_of_mem_drop (List.mem_of_mem_take (by simpa using hc)))
  · exact Nat.le_trans (cutS_length ..) h.len
theorem sum_le {m : Nat} : ∀ ys : List Str, (∀ y ∈ ys, y.length ≤ m) → (ys.map (·.length)).sum ≤ ys.length * m
  | [], _ => by simp
  | y :: r, h => by
    have h1 := sum_le r fun z hz => h z (List.mem_cons_of_mem _ hz)
    have h2 := h y (List.mem_cons_self ..)
    simp only [List.map_cons, List.sum_cons, List.length_cons, Nat.add_mul, Nat.one_mul]; omega
theorem pr_join {sep : Str} (hs : Pr sep) : ∀ ys : List Str, (∀ y ∈ ys, Pr y) → Pr (Str.join sep ys)
  | [], _ => pr_empty
  | [x], h => h x (List.mem_singleton.mpr rfl)
  | x :: y :: r, h => by
    have h1 := pr_join hs (y :: r) fun z hz => h z (List.mem_cons_of_mem _ hz)
    exact pr_app (pr_app (h x (List.mem_cons_self ..)) hs) h1
theorem join_len (sep : Str) : ∀ ys : List Str, (Str.join sep ys).length ≤ (ys.map (·.length)).sum + ys.length * sep.length
  | [] => by simp [Str.join, Str.empty, Str.length]
  | [x] => by simp [Str.join]
  | x :: y :: r => by
    have := join_len sep (y :: r)
    show (x ++ sep ++ Str.join sep (y :: r)).length ≤ _
    rw [len_append, len_append]
    simp only [List.map_cons, List.sum_cons, List.length_cons] at this ⊢
    have e : (r.length + 1 + 1) * sep.length = (r.length + 1) * sep.length + sep.length := by rw [Nat.add_mul, Nat.one_mul]
    omega
theorem tx_join {sep : Str} {ys : List Str} {n : Nat} (hs : Pr sep) (h : ∀ y ∈ ys, Pr y) (hl : (ys.map (·.length)).sum + ys.length * sep.length ≤ n) : Tx_ n (Txt.join sep ys) := by
  rw [TL.join_eq]
  exact ⟨pr_join hs ys h, Nat.le_trans (join_len sep ys) hl⟩
/-! ### weights: letters and gaps -/
def wt (ys : List Str) : Nat := (ys.map (·.length)).sum + ys.length
theorem wt_app (xs ys : List Str) : wt (xs ++ ys) = wt xs + wt ys := by simp [wt]; omega
theorem wt_one (x : Str) : wt [x] = x.length + 1 := by simp [wt]
theorem wt_cut (ws : List Str) (n : Nat) : wt (ws.take n) + wt (ws.drop n) = wt ws := by rw [← wt_app, List.take_append_drop]
theorem wt_drop (ws : List Str) (n : Nat) : wt (ws.drop (n + 1)) ≤ wt (ws.drop n) := by
  have := wt_cut (ws.drop n) 1
  rw [List.drop_drop] at this
  omega
theorem wt_mem {ws : List Str} {w : Str} (h : w ∈ ws) : w.length + 1 ≤ wt ws := by
  induction ws with
  | nil => cases h
  | cons y r ih =>
    have e : wt (y :: r) = wt [y] + wt r := wt_app [y] r
    rw [wt_one] at e
    rcases List.mem_cons.mp h with rfl | h
    · omega
    · have := ih h; omega
theorem join_wt : ∀ ys : List Str, ys ≠ [] → (Str.join sp1 ys).length + 1 = wt ys
  | [], h => absurd rfl h
  | [x], _ => by rw [wt_one]; rfl
  | x :: y :: r, _ => by
    have h1 := join_wt (y :: r) (by simp)
    have e : wt (x :: y :: r) = wt [x] + wt (y :: r) := wt_app [x] _
    rw [wt_one] at e
    show (x ++ sp1 ++ Str.join sp1 (y :: r)).length + 1 = _
    rw [len_append, len_append]
    have e1 : sp1.length = 1 := rfl
    omega
theorem wt_split (x : Str) : wt (Txt.split x sp1) = x.length + 1 := by
  have h1 := join_wt (Txt.split x sp1) (List.length_pos_iff.mp (PyProof.Rows.split_pos x sp1))
  rw [StrLaws.join_split] at h1
  omega
theorem spl_sp : PySem.Str.ofString " " = sp1 := by decide +kernel
/-- ' '.join(texts) -/
theorem join_sp1 {ys : List Str} {n : Nat} {x : D} {M : Mst} {Q : DK} (hx : res M x = .lst (ys.map .str)) (h : ∀ y ∈ ys, Pr y) (hl : wt ys ≤ n) (hn : n ≤ 100000) (k : Tx_ n (Txt.join sp1 ys) → Q (.str (Txt.join sp1 ys)) M) : mJoin (.str (PySem.Str.ofString " ")) [x] M Q := by
  rw [spl_sp]
  have hs : Pr sp1 := pr_one (by decide)
  have hl' : (ys.map (·.length)).sum + ys.length * sp1.length ≤ n := by
    have e1 : sp1.length = 1 := rfl
    rw [e1, Nat.mul_one]; exact hl
  simp only [mJoin, res_str, hx, strsD_map]
  have T := tx_join hs h hl'
  exact ⟨Nat.le_trans hl' hn, T.ok hn, k T⟩
/-! ### blanks, a sign times a truth -/
theorem tx_blanks (n : Nat) : Tx_ n (blanks n) := ⟨by
  induction n with
  | zero => exact pr_empty
  | succ n ih => exact pr_app (pr_one (by decide)) ih, by rw [blanks_len]; exact Nat.le_refl _⟩
theorem blank_mul {n : Int} {M : Mst} {Q : DK} (h0 : 0 ≤ n) (h1 : n ≤ 100) : dMul false (.str (PySem.Str.ofString " ")) (.int n) M Q = Q (.str (blanks n.toNat)) M := by
  have e1 : (PySem.Str.ofString " ").length = 1 := by decide +kernel
  have ok := ok_asc (blanks_asc n.toNat) (by rw [blanks_len]; omega)
  unfold dMul
  simp only [res_str, rep_blank, ok.2]
  apply propext
  constructor
  · rintro ⟨_, _, _, _, h⟩; exact h
  · intro h; exact ⟨by omega, by omega, by rw [e1]; omega, trivial, h⟩
theorem mul_truth {b : Bool} {n : Nat} {z : Str} {M : Mst} {Q : DK} (h : Tx_ n z) (hn : n ≤ 100000) (k : ∀ y, Tx_ n y → Q (.str y) M) : dMul false (.str z) (.int (if b = true then 1 else 0)) M Q := by
  have hl := h.len
  unfold dMul
  cases b with
  | true =>
    have e : repS z 1 = z := by
      unfold repS
      apply PySem.Str.ext'
      show (List.replicate 1 z.cps).foldl (· ++ ·) #[] = z.cps
      simp
    simp only [if_true, res_str, e]
    exact ⟨by omega, by omega, by show z.length * 1 ≤ _; omega, (h.ok hn).2, k z h⟩
  | false =>
    have e : repS z 0 = Str.empty := by
      unfold repS
      apply PySem.Str.ext'
      show (List.replicate 0 z.cps).foldl (· ++ ·) #[] = _
      simp [Str.empty]
    simp only [Bool.false_eq_true, if_false, res_str, e]
    exact ⟨by omega, by omega, by show z.length * 0 ≤ _; omega, (tx_empty (n := 0)).ok (by omega) |>.2, k _ tx_empty⟩
/-- sep.join(texts) -/
theorem join_txs {sep : Str} {ys : List Str} {n : Nat} {x : D} {M : Mst} {Q : DK} (hx : res M x = .lst (ys.map .str)) (hs : Pr sep) (h : ∀ y ∈ ys, Pr y) (hl : (ys.map (·.length)).sum + ys.length * sep.length ≤ n) (hn : n ≤ 100000) (k : Tx_ n (Txt.join sep ys) → Q (.str (Txt.join sep ys)) M) : mJoin (.str sep) [x] M Q := by
  simp only [mJoin, res_str, hx, strsD_map]
  have T := tx_join hs h hl
  exact ⟨Nat.le_trans hl hn, T.ok hn, k T⟩
end DL

namespace K21
open PySem L2 DL
def top (i : Nat) : Stmt := PySem.Challenge.pw_whistleboard_k21_calls_nearly_read.main.body.getD i (.Pass ⟨0, 0, 0, 0⟩)
abbrev s_is_whole : Stmt := top 12
abbrev N_is_whole : List Str := ["thing", "low", "high"]
theorem sc_is_whole : FnScope N_is_whole ["thing", "low", "high"] (defScope s_is_whole) := ⟨rfl, rfl, rfl, by decide +kernel, rfl, by decide +kernel, by decide +kernel⟩
abbrev s_is_name : Stmt := top 13
abbrev N_is_name : List Str := ["thing", "sign"]
theorem sc_is_name : FnScope N_is_name ["thing"] (defScope s_is_name) := ⟨rfl, rfl, rfl, by decide +kernel, rfl, by decide +kernel, by decide +kernel⟩
abbrev s_plain_number : Stmt := top 14
abbrev N_plain_number : List Str := ["word", "sign"]
theorem sc_plain_number : FnScope N_plain_number ["word"] (defScope s_plain_number) := ⟨rfl, rfl, rfl, by decide +kernel, rfl, by decide +kernel, by decide +kernel⟩
abbrev s_is_word : Stmt := top 18
abbrev N_is_word : List Str := ["words", "at", "word"]
theorem sc_is_word : FnScope N_is_word ["words", "at"] (defScope s_is_word) := ⟨rfl, rfl, rfl, by decide +kernel, rfl, by decide +kernel, by decide +kernel⟩
abbrev s_read_call : Stmt := top 19
abbrev N_read_call : List Str := ["text", "words", "at"]
theorem sc_read_call : FnScope N_read_call ["text"] (defScope s_read_call) := ⟨rfl, rfl, rfl, by decide +kernel, rfl, by decide +kernel, by decide +kernel⟩
abbrev s__law_bag : Stmt := top 21
abbrev N__law_bag : List Str := ["_law_script", "_law_at", "_law_cell", "_law_great", "_law_primes"]
theorem sc__law_bag : FnScope N__law_bag ["_law_script", "_law_at"] (defScope s__law_bag) := ⟨rfl, rfl, rfl, by decide +kernel, rfl, by decide +kernel, by decide +kernel⟩
abbrev s__law_take : Stmt := top 22
abbrev N__law_take : List Str := ["_law_bag_here", "_law_many", "_law_digit"]
theorem sc__law_take : FnScope N__law_take ["_law_bag_here", "_law_many"] (defScope s__law_take) := ⟨rfl, rfl, rfl, by decide +kernel, rfl, by decide +kernel, by decide +kernel⟩
abbrev s__law_plain : Stmt := top 23
abbrev N__law_plain : List Str := ["_law_word", "_law_sign"]
theorem sc__law_plain : FnScope N__law_plain ["_law_word"] (defScope s__law_plain) := ⟨rfl, rfl, rfl, by decide +kernel, rfl, by decide +kernel, by decide +kernel⟩
abbrev s__law_read : Stmt := top 24
abbrev N__law_read : List Str := ["_law_text_here", "_law_words_here", "_law_at", "_law_word", "_law_number", "_law_fits", "_law_good", "_law_sign"]
theorem sc__law_read : FnScope N__law_read ["_law_text_here"] (defScope s__law_read) := ⟨rfl, rfl, rfl, by decide +kernel, rfl, by decide +kernel, by decide +kernel⟩
abbrev s__law_words : Stmt := top 25
abbrev N__law_words : List Str := ["_law_bag_here", "_law_place", "_law_kind", "_law_found", "_law_turn"]
theorem sc__law_words : FnScope N__law_words ["_law_bag_here"] (defScope s__law_words) := ⟨rfl, rfl, rfl, by decide +kernel, rfl, by decide +kernel, by decide +kernel⟩
abbrev s__law_text : Stmt := top 26
abbrev N__law_text : List Str := ["_law_bag_here", "_law_words_here", "_law_text_here", "_law_at", "_law_word", "_law_way", "_law_sign", "_law_great"]
theorem sc__law_text : FnScope N__law_text ["_law_bag_here", "_law_words_here"] (defScope s__law_text) := ⟨rfl, rfl, rfl, by decide +kernel, rfl, by decide +kernel, by decide +kernel⟩
abbrev s__law_told : Stmt := top 27
abbrev N__law_told : List Str := ["_law_thing", "e"]
theorem sc__law_told : FnScope N__law_told ["_law_thing"] (defScope s__law_told) := ⟨rfl, rfl, rfl, by decide +kernel, rfl, by decide +kernel, by decide +kernel⟩
abbrev s__law_like : Stmt := top 28
abbrev N__law_like : List Str := ["_law_told_here", "_law_due", "_law_one", "_law_other"]
theorem sc__law_like : FnScope N__law_like ["_law_told_here", "_law_due"] (defScope s__law_like) := ⟨rfl, rfl, rfl, by decide +kernel, rfl, by decide +kernel, by decide +kernel⟩
abbrev s__law_spoilt : Stmt := top 29
abbrev N__law_spoilt : List Str := ["_law_bag_here", "_law_text_here", "_law_signs", "_law_way", "_law_at", "_law_sign", "_law_words_here", "_law_place", "_law_odd", "_law_word", "_law_middle"]
theorem sc__law_spoilt : FnScope N__law_spoilt ["_law_bag_here", "_law_text_here"] (defScope s__law_spoilt) := ⟨rfl, rfl, rfl, by decide +kernel, rfl, by decide +kernel, by decide +kernel⟩
abbrev s_law : Stmt := top 30
abbrev N_law : List Str := ["_law_script", "_law_k", "_law_bag_here", "_law_text_here", "_law_turn", "_law_again", "_law_thing", "_law_texts"]
theorem sc_law : FnScope N_law ["_law_script"] (defScope s_law) := ⟨rfl, rfl, rfl, by decide +kernel, rfl, by decide +kernel, by decide +kernel⟩
abbrev s_BadText_init : Stmt := inClass (top 3) 0
theorem sc_BadText_init : FnScope ["self", "at"] ["self", "at"] (defScope s_BadText_init) := ⟨rfl, rfl, rfl, by decide +kernel, rfl, by decide +kernel, by decide +kernel⟩
abbrev K_DUE : List Str := [(PySem.Str.ofString "car"), (PySem.Str.ofString "chimney"), (PySem.Str.ofString "grass"), (PySem.Str.ofString "house"), (PySem.Str.ofString "people"), (PySem.Str.ofString "works")]
structure Tx (w : World) (K : PySem.W.Frag) (mg : Str → Option Value) where
  f_is_whole : FnAt K mg "is_whole" s_is_whole ["thing", "low", "high"]
  f_is_name : FnAt K mg "is_name" s_is_name ["thing"]
  f_plain_number : FnAt K mg "plain_number" s_plain_number ["word"]
  f_is_word : FnAt K mg "is_word" s_is_word ["words", "at"]
  f_read_call : FnAt K mg "read_call" s_read_call ["text"]
  f__law_bag : FnAt K mg "_law_bag" s__law_bag ["_law_script", "_law_at"]
  f__law_take : FnAt K mg "_law_take" s__law_take ["_law_bag_here", "_law_many"]
  f__law_plain : FnAt K mg "_law_plain" s__law_plain ["_law_word"]
  f__law_read : FnAt K mg "_law_read" s__law_read ["_law_text_here"]
  f__law_words : FnAt K mg "_law_words" s__law_words ["_law_bag_here"]
  f__law_text : FnAt K mg "_law_text" s__law_text ["_law_bag_here", "_law_words_here"]
  f__law_told : FnAt K mg "_law_told" s__law_told ["_law_thing"]
  f__law_like : FnAt K mg "_law_like" s__law_like ["_law_told_here", "_law_due"]
  f__law_spoilt : FnAt K mg "_law_spoilt" s__law_spoilt ["_law_bag_here", "_law_text_here"]
  f_law : FnAt K mg "law" s_law ["_law_script"]
  n_ValueError : mg "ValueError" = none
  n_abs : mg "abs" = none
  n_all : mg "all" = none
  n_bool : mg "bool" = none
  n_enumerate : mg "enumerate" = none
  n_int : mg "int" = none
  n_isinstance : mg "isinstance" = none
  n_len : mg "len" = none
  n_list : mg "list" = none
  n_max : mg "max" = none
  n_min : mg "min" = none
  n_range : mg "range" = none
  n_str : mg "str" = none
  n_tuple : mg "tuple" = none
  n_zip : mg "zip" = none
  g_FIGURES : GlS mg "FIGURES" (PySem.Str.ofString "0123456789")
  g_LETTERS : GlS mg "LETTERS" (PySem.Str.ofString "abcdefghijklmnopqrstuvwxyz")
  g_MOST_FIGURES : GlI mg "MOST_FIGURES" 10
  g_MOST_LETTERS : GlI mg "MOST_LETTERS" 8
  g_MOST_PUMPS : GlI mg "MOST_PUMPS" 20
  k_DUE : KDic K w mg "DUE" K_DUE
  c_BadText : XAt K mg "BadText" "ValueError" "ValueError.__new__" "ValueError.__init__" tl_ValueError s_BadText_init "BadText.__init__" ["self", "at"] [(PySem.Str.ofString "at")]
  c_BadTime : ClsAt mg "BadTime"
  c_NoDeed : ClsAt mg "NoDeed"
  c_NoGround : ClsAt mg "NoGround"
  c_NoSaying : ClsAt mg "NoSaying"
  c_NoText : ClsAt mg "NoText"
  i_0 : PySem.W.kitOne K (.ref c_BadText.C) (.type "ValueError") = some true
  i_1 : PySem.W.kitAny K (.ref c_BadText.C) [.ref c_NoText.C, .ref c_NoSaying.C, .ref c_BadTime.C, .ref c_NoDeed.C, .ref c_NoGround.C] = some false
section
variable {P : Program} {w : World} {K : PySem.W.Frag} {mg : Str → Option Value} {base : Heap}
theorem in_BadText (T : Tx w K mg) : FnOk P w K mg base (L2.CX P w) 1 T.c_BadText.fI T.c_BadText.fd ["self", "at"] (spX1 T.c_BadText.C (PySem.Str.ofString "at")) :=
  T.c_BadText.F.okX sc_BadText_init (fun vs H Q E h => by obtain ⟨a, v, rfl, _⟩ := h; rfl) fun cdv A outer s H vs Q E hr h => ⟨_, pss_cons (ps_expr (pe_binit (B := "ValueError") baseX_ValueError rfl T.n_ValueError PyProof.Rows.Boot.«ValueError» T.c_BadText.vV (pa_cons (pv 0) (pa_cons pe_str pa_nil)))) (pss_one (ps_xset baseX_ValueError (pv 0) (pv 1))), rdX1 T.c_BadText.T (T.c_BadText.no _ (by simp)) h⟩
def q_is_whole : DTS :=
  (qRet (qAndV (qCB dIsi (qCons (qVar 0) (qCons (qC (.ty "int")) qNil))) (qAndV (qNotV (qCB dIsi (qCons (qVar 0) (qCons (qC (.ty "bool")) qNil)))) (qChain (dCmpI fun i j => decide (i ≤ j)) (dCmpI fun i j => decide (i ≤ j)) (qVar 1) (qVar 0) (qVar 2)))))
theorem dv_is_whole {k : Nat} (T : Tx w K mg) {p : DSp} (hlen : ∀ ds M Q E, p ds M Q E → ds.length = 3)
    (hs : ∀ ds M Q Ed, upSp p ds M Q Ed → q_is_whole (fun x _ M => Ed x M) (retE Q) (startD N_is_whole ds) M) : FnOk P w K mg base (L2.CX P w) (k + 1) T.f_is_whole.f T.f_is_whole.fd ["thing", "low", "high"] (toSp K p) := by
  refine (fn_ok (p := upSp p) T.f_is_whole.F sc_is_whole (fun ds M Q E ⟨Q0, E0, h, _⟩ => hlen ds M Q0 E0 h) fun cdv A outer s H E hr tk hp => ?_).imp fun _ _ _ _ h => imp_up h
  have nd := sc_is_whole.nd
  have hu64 := hr.units
  have hu := Nat.lt_of_le_of_lt (Nat.add_le_add_left (show 1 ≤ 64 by decide) _) hu64
  exact ⟨_, q_is_whole, (qss_one (qs_ret (q_and (q_callB c_isi rfl T.n_isinstance (by decide +kernel) (qa_cons (qv 0) (qa_cons (qe_c (pe_bltn (v := .ty "int") rfl T.n_int (by decide +kernel) rfl) fun _ => rfl) qa_nil))) (q_and (q_not (q_callB c_isi rfl T.n_isinstance (by decide +kernel) (qa_cons (qv 0) (qa_cons (qe_c (pe_bltn (v := .ty "bool") rfl T.n_bool (by decide +kernel) rfl) fun _ => rfl) qa_nil)))) (q_one (q_chain o_le o_le (qv 1) (qv 0) (qv 2))))))), hs⟩
def q_is_name : DTS :=
  (qSeq (qIfS (qOr (qNot (qTB (qCB dIsi (qCons (qVar 0) (qCons (qC (.ty "str")) qNil))))) (qNot (qTB (qChain (dCmpI fun i j => decide (i ≤ j)) (dCmpI fun i j => decide (i ≤ j)) (qC (.int 1)) (qCB dLen (qCons (qVar 0) qNil)) (qC (.int 8))))))
  (qRet (qC (.bl false)))
  qNext)
  (qRet (qCB dAll (qCons (qLc false (qiAny (qVar 0)) (gNameD 1) qYes (qOp (dIn false) (qVar 1) (qC (.str (PySem.Str.ofString "abcdefghijklmnopqrstuvwxyz")))) [1]) qNil))))
theorem dv_is_name {k : Nat} (T : Tx w K mg) {p : DSp} (hlen : ∀ ds M Q E, p ds M Q E → ds.length = 1)
    (hs : ∀ ds M Q Ed, upSp p ds M Q Ed → q_is_name (fun x _ M => Ed x M) (retE Q) (startD N_is_name ds) M) : FnOk P w K mg base (L2.CX P w) (k + 1) T.f_is_name.f T.f_is_name.fd ["thing"] (toSp K p) := by
  refine (fn_ok (p := upSp p) T.f_is_name.F sc_is_name (fun ds M Q E ⟨Q0, E0, h, _⟩ => hlen ds M Q0 E0 h) fun cdv A outer s H E hr tk hp => ?_).imp fun _ _ _ _ h => imp_up h
  have nd := sc_is_name.nd
  have hu64 := hr.units
  have hu := Nat.lt_of_le_of_lt (Nat.add_le_add_left (show 1 ≤ 64 by decide) _) hu64
  exact ⟨_, q_is_name, (qss_cons (qs_if (QW.t (qw_or (qt_not (qt_val (q_callB c_isi rfl T.n_isinstance (by decide +kernel) (qa_cons (qv 0) (qa_cons (qe_c (pe_bltn (v := .ty "str") rfl T.n_str (by decide +kernel) rfl) fun _ => rfl) qa_nil))))) (qw_or1 (qt_not (qt_chain o_le o_le q_int (q_callB c_len rfl T.n_len (by decide +kernel) (qa_cons (qv 0) qa_nil)) (q_globI rfl T.g_MOST_LETTERS))))))
  (qss_one (qs_ret q_bl))
  qss_nil)
  (qss_one (qs_ret (q_callB (c_all rfl) rfl T.n_all (by decide +kernel) (qa_cons (q_lcX (own := [("sign", 1)]) false rfl nd (qi_any (qv 0)) (blkOk_by (own := [("sign", 1)]) (N := N_is_name) (sc := defScope s_is_name) (by decide +kernel)) (fun _ _ _ _ _ => ⟨_, (qg_nm 1 nd)⟩) (fun _ _ _ _ _ => ⟨_, qts_nil⟩) (fun _ _ _ _ _ => ⟨_, (q_cmp (o_in hu) (qv 1) (q_globS rfl T.g_LETTERS))⟩)) qa_nil))))), hs⟩
def q_plain_number : DTS :=
  (qSeq (qIfS (qOr (qNot (qTB (qChain (dCmpI fun i j => decide (i ≤ j)) (dCmpI fun i j => decide (i ≤ j)) (qC (.int 1)) (qCB dLen (qCons (qVar 0) qNil)) (qC (.int 10))))) (qNot (qTB (qCB dAll (qCons (qLc false (qiAny (qVar 0)) (gNameD 1) qYes (qOp (dIn false) (qVar 1) (qC (.str (PySem.Str.ofString "0123456789")))) [1]) qNil)))))
  (qRet (qUn dNeg (qC (.int 1))))
  qNext)
  (qSeq (qIfS (qAnd (qTB (qOp (dEq false) (qOp dIx (qVar 0) (qC (.int 0))) (qC (.str (PySem.Str.ofString "0"))))) (qTB (qOp (dEq true) (qVar 0) (qC (.str (PySem.Str.ofString "0"))))))
  (qRet (qUn dNeg (qC (.int 1))))
  qNext)
  (qRet (qCB dTen (qCons (qVar 0) (qCons (qC (.int 10)) qNil))))))
theorem dv_plain_number {k : Nat} (T : Tx w K mg) {p : DSp} (hlen : ∀ ds M Q E, p ds M Q E → ds.length = 1)
    (hs : ∀ ds M Q Ed, upSp p ds M Q Ed → q_plain_number (fun x _ M => Ed x M) (retE Q) (startD N_plain_number ds) M) : FnOk P w K mg base (L2.CX P w) (k + 1) T.f_plain_number.f T.f_plain_number.fd ["word"] (toSp K p) := by
  refine (fn_ok (p := upSp p) T.f_plain_number.F sc_plain_number (fun ds M Q E ⟨Q0, E0, h, _⟩ => hlen ds M Q0 E0 h) fun cdv A outer s H E hr tk hp => ?_).imp fun _ _ _ _ h => imp_up h
  have nd := sc_plain_number.nd
  have hu64 := hr.units
  have hu := Nat.lt_of_le_of_lt (Nat.add_le_add_left (show 1 ≤ 64 by decide) _) hu64
  exact ⟨_, q_plain_number, (qss_cons (qs_if (QW.t (qw_or (qt_not (qt_chain o_le o_le q_int (q_callB c_len rfl T.n_len (by decide +kernel) (qa_cons (qv 0) qa_nil)) (q_globI rfl T.g_MOST_FIGURES))) (qw_or1 (qt_not (qt_val (q_callB (c_all rfl) rfl T.n_all (by decide +kernel) (qa_cons (q_lcX (own := [("sign", 1)]) false rfl nd (qi_any (qv 0)) (blkOk_by (own := [("sign", 1)]) (N := N_plain_number) (sc := defScope s_plain_number) (by decide +kernel)) (fun _ _ _ _ _ => ⟨_, (qg_nm 1 nd)⟩) (fun _ _ _ _ _ => ⟨_, qts_nil⟩) (fun _ _ _ _ _ => ⟨_, (q_cmp (o_in hu) (qv 1) (q_globS rfl T.g_FIGURES))⟩)) qa_nil)))))))
  (qss_one (qs_ret (q_neg q_int)))
  qss_nil)
  (qss_cons (qs_if (QW.t (qw_and (qt_cmp (o_eq hu64) (q_ix hu (qv 0) q_int) q_str) (qw_and1 (qt_cmp (o_ne hu64) (qv 0) q_str))))
  (qss_one (qs_ret (q_neg q_int)))
  qss_nil)
  (qss_one (qs_ret (q_callTy c_ten rfl T.n_int (by decide +kernel) (qa_cons (qv 0) (qa_cons q_int qa_nil))))))), hs⟩
def q_is_word (sp_is_name : DSp) (sp_is_whole : DSp) (sp_plain_number : DSp) : DTS :=
  (qSeq (qAsg (qOp dIx (qVar 0) (qVar 1)) (gNameD 2))
  (qSeq (qIfS (qTB (qOp (dEq false) (qVar 1) (qC (.int 0))))
  (qRet (qUn (dInK false K_DUE) (qVar 2)))
  qNext)
  (qSeq (qIfS (qTB (qOp (dEq false) (qVar 1) (qC (.int 2))))
  (qRet (qCall sp_is_name [] (qCons (qVar 2) qNil)))
  qNext)
  (qSeq (qIfS (qTB (qOp (dEq false) (qVar 1) (qC (.int 4))))
  (qRet (qCall sp_is_whole [] (qCons (qCall sp_plain_number [] (qCons (qVar 2) qNil)) (qCons (qC (.int 1)) (qCons (qC (.int 20)) qNil)))))
  qNext)
  (qRet (qAndV (qOp (dCmpI fun i j => decide (i < j)) (qVar 1) (qC (.int 4))) (qOp (dEq false) (qVar 2) (qIf (qTB (qOp (dEq false) (qVar 1) (qC (.int 1)))) (qC (.str (PySem.Str.ofString "at"))) (qC (.str (PySem.Str.ofString "make")))))))))))
theorem dv_is_word {k : Nat} (T : Tx w K mg) {sp_is_name : DSp} (G_is_name : FnOk P w K mg base (L2.CX P w) k T.f_is_name.f T.f_is_name.fd ["thing"] (toSp K sp_is_name)) {sp_is_whole : DSp} (G_is_whole : FnOk P w K mg base (L2.CX P w) k T.f_is_whole.f T.f_is_whole.fd ["thing", "low", "high"] (toSp K sp_is_whole)) {sp_plain_number : DSp} (G_plain_number : FnOk P w K mg base (L2.CX P w) k T.f_plain_number.f T.f_plain_number.fd ["word"] (toSp K sp_plain_number)) {p : DSp} (hlen : ∀ ds M Q E, p ds M Q E → ds.length = 2)
    (hs : ∀ ds M Q Ed, upSp p ds M Q Ed → q_is_word sp_is_name sp_is_whole sp_plain_number (fun x _ M => Ed x M) (retE Q) (startD N_is_word ds) M) : FnOk P w K mg base (L2.CX P w) (k + 1) T.f_is_word.f T.f_is_word.fd ["words", "at"] (toSp K p) := by
  refine (fn_ok (p := upSp p) T.f_is_word.F sc_is_word (fun ds M Q E ⟨Q0, E0, h, _⟩ => hlen ds M Q0 E0 h) fun cdv A outer s H E hr tk hp => ?_).imp fun _ _ _ _ h => imp_up h
  have nd := sc_is_word.nd
  have hu64 := hr.units
  have hu := Nat.lt_of_le_of_lt (Nat.add_le_add_left (show 1 ≤ 64 by decide) _) hu64
  exact ⟨_, q_is_word sp_is_name sp_is_whole sp_plain_number, (qss_cons (qs_setN 2 nd (q_ix hu (qv 0) (qv 1)))
  (qss_cons (qs_if (qt_cmp (o_eq hu64) (qv 1) q_int)
  (qss_one (qs_ret (QE.can (q_inK T.k_DUE rfl (qv 2)))))
  qss_nil)
  (qss_cons (qs_if (qt_cmp (o_eq hu64) (qv 1) q_int)
  (qss_one (qs_ret (q_call G_is_name hr tk rfl T.f_is_name.g T.f_is_name.F.kp T.f_is_name.b .nil (fun _ => rfl) (qa_cons (qv 2) qa_nil))))
  qss_nil)
  (qss_cons (qs_if (qt_cmp (o_eq hu64) (qv 1) q_int)
  (qss_one (qs_ret (q_call G_is_whole hr tk rfl T.f_is_whole.g T.f_is_whole.F.kp T.f_is_whole.b .nil (fun _ => rfl) (qa_cons (q_call G_plain_number hr tk rfl T.f_plain_number.g T.f_plain_number.F.kp T.f_plain_number.b .nil (fun _ => rfl) (qa_cons (qv 2) qa_nil)) (qa_cons q_int (qa_cons (q_globI rfl T.g_MOST_PUMPS) qa_nil))))))
  qss_nil)
  (qss_one (qs_ret (q_and (q_cmp o_lt (qv 1) q_int) (q_one (q_cmp (o_eq hu64) (qv 2) (q_if (qt_cmp (o_eq hu64) (qv 1) q_int) q_str q_str)))))))))), hs⟩
def q_read_call (c_BadText : Addr) (sp_is_word : DSp) (sp_plain_number : DSp) : DTS :=
  (qSeq (qIfS (qNot (qTB (qCB dIsi (qCons (qVar 0) (qCons (qC (.ty "str")) qNil)))))
  (qRaise c_BadText [(PySem.Str.ofString "at")] (qCons (qUn dNeg (qC (.int 1))) qNil))
  qNext)
  (qSeq (qAsg (qBM0 "str" (mWords false) (qBM0 "str" (mTxt0 Txt.lower) (qVar 0))) (gNameD 1))
  (qSeq (qFor (qiRng1 (qCons (qCB dLen (qCons (qVar 1) qNil)) qNil)) (gNameD 2)
  (qIfS (qNot (qTB (qCall sp_is_word [] (qCons (qVar 1) (qCons (qVar 2) qNil)))))
  (qRaise c_BadText [(PySem.Str.ofString "at")] (qCons (qVar 2) qNil))
  qNext))
  (qSeq (qIfS (qTB (qOp (dIn true) (qCB dLen (qCons (qVar 1) qNil)) (qTup (qCons (qC (.int 3)) (qCons (qC (.int 5)) qNil)))))
  (qRaise c_BadText [(PySem.Str.ofString "at")] (qCons (qCB dLen (qCons (qVar 1) qNil)) qNil))
  qNext)
  (qRet (qTup (qCons (qOp dIx (qVar 1) (qC (.int 0))) (qCons (qOp dIx (qVar 1) (qC (.int 2))) (qCons (qIf (qTB (qOp (dEq false) (qCB dLen (qCons (qVar 1) qNil)) (qC (.int 5)))) (qCall sp_plain_number [] (qCons (qOp dIx (qVar 1) (qC (.int 4))) qNil)) (qC (.int 0))) qNil)))))))))
theorem dv_read_call {k : Nat} (hk : 2 ≤ k) (T : Tx w K mg) {sp_is_word : DSp} (G_is_word : FnOk P w K mg base (L2.CX P w) k T.f_is_word.f T.f_is_word.fd ["words", "at"] (toSp K sp_is_word)) {sp_plain_number : DSp} (G_plain_number : FnOk P w K mg base (L2.CX P w) k T.f_plain_number.f T.f_plain_number.fd ["word"] (toSp K sp_plain_number)) {p : DSp} (hlen : ∀ ds M Q E, p ds M Q E → ds.length = 1)
    (hs : ∀ ds M Q Ed, upSp p ds M Q Ed → q_read_call T.c_BadText.C sp_is_word sp_plain_number (fun x _ M => Ed x M) (retE Q) (startD N_read_call ds) M) : FnOk P w K mg base (L2.CX P w) (k + 1) T.f_read_call.f T.f_read_call.fd ["text"] (toSp K p) := by
  refine (fn_ok (p := upSp p) T.f_read_call.F sc_read_call (fun ds M Q E ⟨Q0, E0, h, _⟩ => hlen ds M Q0 E0 h) fun cdv A outer s H E hr tk hp => ?_).imp fun _ _ _ _ h => imp_up h
  have nd := sc_read_call.nd
  have hu64 := hr.units
  have hu := Nat.lt_of_le_of_lt (Nat.add_le_add_left (show 1 ≤ 64 by decide) _) hu64
  exact ⟨_, q_read_call T.c_BadText.C sp_is_word sp_plain_number, (qss_cons (qs_if (qt_not (qt_val (q_callB c_isi rfl T.n_isinstance (by decide +kernel) (qa_cons (qv 0) (qa_cons (qe_c (pe_bltn (v := .ty "str") rfl T.n_str (by decide +kernel) rfl) fun _ => rfl) qa_nil)))))
  (qss_one (qs_raise1 baseX_ValueError T.c_BadText.p (in_BadText T) (hr.mono hk) tk rfl (qa_cons (q_neg q_int) qa_nil)))
  qss_nil)
  (qss_cons (qs_setN 1 nd (q_bm0 PySem.F.plainAttrs_str PySem.F.slot_str_split PySem.F.type_str_split (m_words false) (q_bm0 PySem.F.plainAttrs_str PySem.F.slot_str_lower PySem.F.type_str_lower m_lower (qv 0))))
  (qss_cons (qs_for (ix := [2]) hp rfl (qi_range1 rfl T.n_range (qa_cons (q_callB c_len rfl T.n_len (by decide +kernel) (qa_cons (qv 1) qa_nil)) qa_nil)) (qg_nm 2 nd)
  (qss_one (qs_if (qt_not (qt_val (q_call G_is_word hr tk rfl T.f_is_word.g T.f_is_word.F.kp T.f_is_word.b .nil (fun _ => rfl) (qa_cons (qv 1) (qa_cons (qv 2) qa_nil)))))
  (qss_one (qs_raise1 baseX_ValueError T.c_BadText.p (in_BadText T) (hr.mono hk) tk rfl (qa_cons (qv 2) qa_nil)))
  qss_nil)))
  (qss_cons (qs_if (qt_cmp (o_notin hu) (q_callB c_len rfl T.n_len (by decide +kernel) (qa_cons (qv 1) qa_nil)) (q_tup (qa_cons q_int (qa_cons q_int qa_nil))))
  (qss_one (qs_raise1 baseX_ValueError T.c_BadText.p (in_BadText T) (hr.mono hk) tk rfl (qa_cons (q_callB c_len rfl T.n_len (by decide +kernel) (qa_cons (qv 1) qa_nil)) qa_nil)))
  qss_nil)
  (qss_one (qs_ret (q_tup (qa_cons (q_ix hu (qv 1) q_int) (qa_cons (q_ix hu (qv 1) q_int) (qa_cons (q_if (qt_cmp (o_eq hu64) (q_callB c_len rfl T.n_len (by decide +kernel) (qa_cons (qv 1) qa_nil)) q_int) (q_call G_plain_number hr tk rfl T.f_plain_number.g T.f_plain_number.F.kp T.f_plain_number.b .nil (fun _ => rfl) (qa_cons (q_ix hu (qv 1) q_int) qa_nil)) q_int) qa_nil)))))))))), hs⟩
def q__law_bag : DTS :=
  (qSeq (qAsg (qC (.int 0)) (gNameD 2))
  (qSeq (qIfS (qTB (qOp (dCmpI fun i j => decide (i < j)) (qVar 1) (qCB dLen (qCons (qVar 0) qNil))))
  (qAsg (qOp dIx (qVar 0) (qVar 1)) (gNameD 2))
  qNext)
  (qSeq (qAsg (qC (.int 0)) (gNameD 3))
  (qSeq (qIfS (qTB (qOp (dCmpI fun i j => decide (j ≤ i)) (qCB dAbs (qCons (qVar 2) qNil)) (qOp (dInt CPow fun i j => i ^ j.toNat) (qC (.int 10)) (qC (.int 18)))))
  (qAsg (qCB dAbs (qCons (qVar 2) qNil)) (gNameD 3))
  qNext)
  (qSeq (qAsg (qLst false (qCons (qC (.int 2147483629)) (qCons (qC (.int 2147483587)) (qCons (qC (.int 2147483579)) (qCons (qC (.int 2147483563)) (qCons (qC (.int 2147483549)) (qCons (qC (.int 2147483543)) (qCons (qC (.int 2147483497)) (qCons (qC (.int 2147483489)) qNil))))))))) (gNameD 4))
  (qRet (qLst true (qCons (qVar 3) (qCons (qOp (dInt (fun _ j => 0 < j) fun i j => i % j) (qOp (dInt CPow fun i j => i ^ j.toNat) (qOp (dAdd false) (qOp (dAdd false) (qOp (dInt (fun _ j => 0 < j) fun i j => i % j) (qVar 2) (qC (.int 2147483647))) (qOp (dInt CMul fun i j => i * j) (qC (.int 104729)) (qVar 1))) (qC (.int 7))) (qC (.int 5))) (qOp dIx (qVar 4) (qOp (dInt (fun _ j => 0 < j) fun i j => i % j) (qVar 1) (qC (.int 8))))) qNil)))))))))
theorem dv__law_bag {k : Nat} (T : Tx w K mg) {p : DSp} (hlen : ∀ ds M Q E, p ds M Q E → ds.length = 2)
    (hs : ∀ ds M Q Ed, upSp p ds M Q Ed → q__law_bag (fun x _ M => Ed x M) (retE Q) (startD N__law_bag ds) M) : FnOk P w K mg base (L2.CX P w) (k + 1) T.f__law_bag.f T.f__law_bag.fd ["_law_script", "_law_at"] (toSp K p) := by
  refine (fn_ok (p := upSp p) T.f__law_bag.F sc__law_bag (fun ds M Q E ⟨Q0, E0, h, _⟩ => hlen ds M Q0 E0 h) fun cdv A outer s H E hr tk hp => ?_).imp fun _ _ _ _ h => imp_up h
  have nd := sc__law_bag.nd
  have hu64 := hr.units
  have hu := Nat.lt_of_le_of_lt (Nat.add_le_add_left (show 1 ≤ 64 by decide) _) hu64
  exact ⟨_, q__law_bag, (qss_cons (qs_setN 2 nd q_int)
  (qss_cons (qs_if (qt_cmp o_lt (qv 1) (q_callB c_len rfl T.n_len (by decide +kernel) (qa_cons (qv 0) qa_nil)))
  (qss_one (qs_setN 2 nd (q_ix hu (qv 0) (qv 1))))
  qss_nil)
  (qss_cons (qs_setN 3 nd q_int)
  (qss_cons (qs_if (qt_cmp o_ge (q_callB c_abs rfl T.n_abs (by decide +kernel) (qa_cons (qv 2) qa_nil)) (q_op o_pow q_int q_int))
  (qss_one (qs_setN 3 nd (q_callB c_abs rfl T.n_abs (by decide +kernel) (qa_cons (qv 2) qa_nil))))
  qss_nil)
  (qss_cons (qs_setN 4 nd (q_lst false (qa_cons q_int (qa_cons q_int (qa_cons q_int (qa_cons q_int (qa_cons q_int (qa_cons q_int (qa_cons q_int (qa_cons q_int qa_nil))))))))))
  (qss_one (qs_ret (q_lst true (qa_cons (qv 3) (qa_cons (q_op o_mod (q_op o_pow (q_op (o_add false) (q_op (o_add false) (q_op o_mod (qv 2) q_int) (q_op o_mulI q_int (qv 1))) q_int) q_int) (q_ix hu (qv 4) (q_op o_mod (qv 1) q_int))) qa_nil)))))))))), hs⟩
def q__law_take : DTS :=
  (qSeq (qIfS (qTB (qOp (dCmpI fun i j => decide (j < i)) (qOp dIx (qVar 0) (qC (.int 0))) (qC (.int 0))))
  (qSeq (qAsg (qOp (dInt (fun _ j => 0 < j) fun i j => i % j) (qOp dIx (qVar 0) (qC (.int 0))) (qVar 1)) (gNameD 2))
  (qSeq (qAsg (qOp (dInt CDiv fun i j => i / j) (qOp dIx (qVar 0) (qC (.int 0))) (qVar 1)) (gSubD (qVar 0) (qC (.int 0))))
  (qRet (qVar 2))))
  qNext)
  (qSeq (qAsg (qOp (dInt (fun _ j => 0 < j) fun i j => i % j) (qOp (dAdd false) (qOp (dInt CMul fun i j => i * j) (qOp dIx (qVar 0) (qC (.int 1))) (qC (.int 48271))) (qC (.int 11))) (qC (.int 2147483647))) (gSubD (qVar 0) (qC (.int 1))))
  (qRet (qOp (dInt (fun _ j => 0 < j) fun i j => i % j) (qOp (dInt (fun _ j => 0 < j) fun i j => i % j) (qOp (dInt CPow fun i j => i ^ j.toNat) (qOp (dInt CDiv fun i j => i / j) (qOp dIx (qVar 0) (qC (.int 1))) (qC (.int 8))) (qC (.int 3))) (qC (.int 2147483629))) (qVar 1)))))
theorem dv__law_take {k : Nat} (T : Tx w K mg) {p : DSp} (hlen : ∀ ds M Q E, p ds M Q E → ds.length = 2)
    (hs : ∀ ds M Q Ed, upSp p ds M Q Ed → q__law_take (fun x _ M => Ed x M) (retE Q) (startD N__law_take ds) M) : FnOk P w K mg base (L2.CX P w) (k + 1) T.f__law_take.f T.f__law_take.fd ["_law_bag_here", "_law_many"] (toSp K p) := by
  refine (fn_ok (p := upSp p) T.f__law_take.F sc__law_take (fun ds M Q E ⟨Q0, E0, h, _⟩ => hlen ds M Q0 E0 h) fun cdv A outer s H E hr tk hp => ?_).imp fun _ _ _ _ h => imp_up h
  have nd := sc__law_take.nd
  have hu64 := hr.units
  have hu := Nat.lt_of_le_of_lt (Nat.add_le_add_left (show 1 ≤ 64 by decide) _) hu64
  exact ⟨_, q__law_take, (qss_cons (qs_if (qt_cmp o_gt (q_ix hu (qv 0) q_int) q_int)
  (qss_cons (qs_setN 2 nd (q_op o_mod (q_ix hu (qv 0) q_int) (qv 1)))
  (qss_cons (qs_asg (ix := []) (q_op o_fdiv (q_ix hu (qv 0) q_int) (qv 1)) (qg_sub hu (qv 0) q_int))
  (qss_one (qs_ret (qv 2)))))
  qss_nil)
  (qss_cons (qs_asg (ix := []) (q_op o_mod (q_op (o_add false) (q_op o_mulI (q_ix hu (qv 0) q_int) q_int) q_int) q_int) (qg_sub hu (qv 0) q_int))
  (qss_one (qs_ret (q_op o_mod (q_op o_mod (q_op o_pow (q_op o_fdiv (q_ix hu (qv 0) q_int) q_int) q_int) q_int) (qv 1)))))), hs⟩
def q__law_plain : DTS :=
  (qSeq (qIfS (qOr (qTB (qOp (dEq false) (qVar 0) (qC (.str (PySem.Str.ofString ""))))) (qOr (qTB (qOp (dCmpI fun i j => decide (j < i)) (qCB dLen (qCons (qVar 0) qNil)) (qC (.int 10)))) (qNot (qTB (qCB dAll (qCons (qLc false (qiAny (qVar 0)) (gNameD 1) qYes (qOp (dIn false) (qVar 1) (qC (.str (PySem.Str.ofString "0123456789")))) [1]) qNil))))))
  (qRet (qC .non))
  qNext)
  (qRet (qIf (qOr (qTB (qOp (dEq true) (qOp dIx (qVar 0) (qC (.int 0))) (qC (.str (PySem.Str.ofString "0"))))) (qTB (qOp (dEq false) (qVar 0) (qC (.str (PySem.Str.ofString "0")))))) (qCB dIntX (qCons (qVar 0) qNil)) (qC .non))))
theorem dv__law_plain {k : Nat} (T : Tx w K mg) {p : DSp} (hlen : ∀ ds M Q E, p ds M Q E → ds.length = 1)
    (hs : ∀ ds M Q Ed, upSp p ds M Q Ed → q__law_plain (fun x _ M => Ed x M) (retE Q) (startD N__law_plain ds) M) : FnOk P w K mg base (L2.CX P w) (k + 1) T.f__law_plain.f T.f__law_plain.fd ["_law_word"] (toSp K p) := by
  refine (fn_ok (p := upSp p) T.f__law_plain.F sc__law_plain (fun ds M Q E ⟨Q0, E0, h, _⟩ => hlen ds M Q0 E0 h) fun cdv A outer s H E hr tk hp => ?_).imp fun _ _ _ _ h => imp_up h
  have nd := sc__law_plain.nd
  have hu64 := hr.units
  have hu := Nat.lt_of_le_of_lt (Nat.add_le_add_left (show 1 ≤ 64 by decide) _) hu64
  exact ⟨_, q__law_plain, (qss_cons (qs_if (QW.t (qw_or (qt_cmp (o_eq hu64) (qv 0) q_str) (qw_or (qt_cmp o_gt (q_callB c_len rfl T.n_len (by decide +kernel) (qa_cons (qv 0) qa_nil)) q_int) (qw_or1 (qt_not (qt_val (q_callB (c_all rfl) rfl T.n_all (by decide +kernel) (qa_cons (q_lcX (own := [("_law_sign", 1)]) false rfl nd (qi_any (qv 0)) (blkOk_by (own := [("_law_sign", 1)]) (N := N__law_plain) (sc := defScope s__law_plain) (by decide +kernel)) (fun _ _ _ _ _ => ⟨_, (qg_nm 1 nd)⟩) (fun _ _ _ _ _ => ⟨_, qts_nil⟩) (fun _ _ _ _ _ => ⟨_, (q_cmp (o_in hu) (qv 1) q_str)⟩)) qa_nil))))))))
  (qss_one (qs_ret q_non))
  qss_nil)
  (qss_one (qs_ret (q_if (QW.t (qw_or (qt_cmp (o_ne hu64) (q_ix hu (qv 0) q_int) q_str) (qw_or1 (qt_cmp (o_eq hu64) (qv 0) q_str)))) (q_callTy c_intX rfl T.n_int (by decide +kernel) (qa_cons (qv 0) qa_nil)) q_non)))), hs⟩
def q__law_read (sp__law_plain : DSp) : DTS :=
  (qSeq (qAsg (qLc false (qiAny (qBM "str" (mSplit false) (qBM0 "str" (mTxt0 Txt.lower) (qVar 0)) (qCons (qC (.str (PySem.Str.ofString " "))) qNil))) (gNameD 3) (qTB (qOp (dEq true) (qVar 3) (qC (.str (PySem.Str.ofString ""))))) (qVar 3) [3]) (gNameD 1))
  (qSeq (qFor (qiEnum (qCons (qSl false (qVar 1) qNoPart (qPart (qC (.int 5)))) qNil)) (gTupD 2 (gConsD (gNameD 2) (gConsD (gNameD 3) gNilD)))
  (qSeq (qAsg (qCall sp__law_plain [] (qCons (qVar 3) qNil)) (gNameD 4))
  (qSeq (qAsg (qAndV (qChain (dCmpI fun i j => decide (i ≤ j)) (dCmpI fun i j => decide (i ≤ j)) (qC (.int 1)) (qCB dLen (qCons (qVar 3) qNil)) (qC (.int 8))) (qCB dAll (qCons (qLc false (qiAny (qVar 3)) (gNameD 7) qYes (qOp (dIn false) (qVar 7) (qC (.str (PySem.Str.ofString "abcdefghijklmnopqrstuvwxyz")))) [7]) qNil))) (gNameD 5))
  (qSeq (qAsg (qLst false (qCons (qOp (dIn false) (qVar 3) (qTup (qCons (qC (.str (PySem.Str.ofString "car"))) (qCons (qC (.str (PySem.Str.ofString "chimney"))) (qCons (qC (.str (PySem.Str.ofString "grass"))) (qCons (qC (.str (PySem.Str.ofString "house"))) (qCons (qC (.str (PySem.Str.ofString "people"))) (qCons (qC (.str (PySem.Str.ofString "works"))) qNil)))))))) (qCons (qOp (dEq false) (qVar 3) (qC (.str (PySem.Str.ofString "at")))) (qCons (qVar 5) (qCons (qOp (dEq false) (qVar 3) (qC (.str (PySem.Str.ofString "make")))) (qCons (qAndV (qOp (dIs true) (qVar 4) (qC .non)) (qChain (dCmpI fun i j => decide (i ≤ j)) (dCmpI fun i j => decide (i ≤ j)) (qC (.int 1)) (qVar 4) (qC (.int 20)))) qNil)))))) (gNameD 6))
  (qIfS (qNot (qTB (qOp dIx (qVar 6) (qVar 2))))
  (qRet (qVar 2))
  qNext)))))
  (qSeq (qIfS (qTB (qOp (dCmpI fun i j => decide (j < i)) (qCB dLen (qCons (qVar 1) qNil)) (qC (.int 5))))
  (qRet (qC (.int 5)))
  qNext)
  (qSeq (qIfS (qTB (qOp (dIn false) (qCB dLen (qCons (qVar 1) qNil)) (qTup (qCons (qC (.int 3)) (qCons (qC (.int 5)) qNil)))))
  (qRet (qTup (qCons (qOp dIx (qVar 1) (qC (.int 0))) (qCons (qOp dIx (qVar 1) (qC (.int 2))) (qCons (qIf (qTB (qOp (dEq false) (qCB dLen (qCons (qVar 1) qNil)) (qC (.int 5)))) (qCall sp__law_plain [] (qCons (qOp dIx (qVar 1) (qC (.int 4))) qNil)) (qC (.int 0))) qNil)))))
  qNext)
  (qRet (qCB dLen (qCons (qVar 1) qNil)))))))
theorem dv__law_read {k : Nat} (T : Tx w K mg) {sp__law_plain : DSp} (G__law_plain : FnOk P w K mg base (L2.CX P w) k T.f__law_plain.f T.f__law_plain.fd ["_law_word"] (toSp K sp__law_plain)) {p : DSp} (hlen : ∀ ds M Q E, p ds M Q E → ds.length = 1)
    (hs : ∀ ds M Q Ed, upSp p ds M Q Ed → q__law_read sp__law_plain (fun x _ M => Ed x M) (retE Q) (startD N__law_read ds) M) : FnOk P w K mg base (L2.CX P w) (k + 1) T.f__law_read.f T.f__law_read.fd ["_law_text_here"] (toSp K p) := by
  refine (fn_ok (p := upSp p) T.f__law_read.F sc__law_read (fun ds M Q E ⟨Q0, E0, h, _⟩ => hlen ds M Q0 E0 h) fun cdv A outer s H E hr tk hp => ?_).imp fun _ _ _ _ h => imp_up h
  have nd := sc__law_read.nd
  have hu64 := hr.units
  have hu := Nat.lt_of_le_of_lt (Nat.add_le_add_left (show 1 ≤ 64 by decide) _) hu64
  exact ⟨_, q__law_read sp__law_plain, (qss_cons (qs_setLcX (own := [("_law_word", 3)]) false 1 rfl nd (qi_any (q_bm PySem.F.plainAttrs_str PySem.F.slot_str_split PySem.F.type_str_split (m_split false) (q_bm0 PySem.F.plainAttrs_str PySem.F.slot_str_lower PySem.F.type_str_lower m_lower (qv 0)) (qa_cons q_str qa_nil))) (blkOk_by (own := [("_law_word", 3)]) (N := N__law_read) (sc := defScope s__law_read) (by decide +kernel)) (fun _ _ _ _ _ => ⟨_, (qg_nm 3 nd)⟩) (fun _ _ _ _ _ => ⟨_, (qts_one (qt_cmp (o_ne hu64) (qv 3) q_str))⟩) (fun _ _ _ _ _ => ⟨_, (qv 3)⟩))
  (qss_cons (qs_for (ix := [2, 3]) hp rfl (qi_enum rfl T.n_enumerate (qa_cons (q_slice false (qv 1) qo_none (qo_some q_int)) qa_nil)) (qg_tup rfl (qgs_cons (qg_nm 2 nd) (qgs_cons (qg_nm 3 nd) qgs_nil)))
  (qss_cons (qs_setN 4 nd (q_call G__law_plain hr tk rfl T.f__law_plain.g T.f__law_plain.F.kp T.f__law_plain.b .nil (fun _ => rfl) (qa_cons (qv 3) qa_nil)))
  (qss_cons (qs_setN 5 nd (q_and (q_chain o_le o_le q_int (q_callB c_len rfl T.n_len (by decide +kernel) (qa_cons (qv 3) qa_nil)) q_int) (q_one (q_callB (c_all rfl) rfl T.n_all (by decide +kernel) (qa_cons (q_lcX (own := [("_law_sign", 7)]) false rfl nd (qi_any (qv 3)) (blkOk_by (own := [("_law_sign", 7)]) (N := N__law_read) (sc := defScope s__law_read) (by decide +kernel)) (fun _ _ _ _ _ => ⟨_, (qg_nm 7 nd)⟩) (fun _ _ _ _ _ => ⟨_, qts_nil⟩) (fun _ _ _ _ _ => ⟨_, (q_cmp (o_in hu) (qv 7) q_str)⟩)) qa_nil)))))
  (qss_cons (qs_setN 6 nd (q_lst false (qa_cons (q_cmp (o_in hu) (qv 3) (q_tup (qa_cons q_str (qa_cons q_str (qa_cons q_str (qa_cons q_str (qa_cons q_str (qa_cons q_str qa_nil)))))))) (qa_cons (q_cmp (o_eq hu64) (qv 3) q_str) (qa_cons (qv 5) (qa_cons (q_cmp (o_eq hu64) (qv 3) q_str) (qa_cons (q_and (q_cmp o_isnot (qv 4) q_non) (q_one (q_chain o_le o_le q_int (qv 4) q_int))) qa_nil)))))))
  (qss_one (qs_if (qt_not (qt_val (q_ix hu (qv 6) (qv 2))))
  (qss_one (qs_ret (qv 2)))
  qss_nil))))))
  (qss_cons (qs_if (qt_cmp o_gt (q_callB c_len rfl T.n_len (by decide +kernel) (qa_cons (qv 1) qa_nil)) q_int)
  (qss_one (qs_ret q_int))
  qss_nil)
  (qss_cons (qs_if (qt_cmp (o_in hu) (q_callB c_len rfl T.n_len (by decide +kernel) (qa_cons (qv 1) qa_nil)) (q_tup (qa_cons q_int (qa_cons q_int qa_nil))))
  (qss_one (qs_ret (q_tup (qa_cons (q_ix hu (qv 1) q_int) (qa_cons (q_ix hu (qv 1) q_int) (qa_cons (q_if (qt_cmp (o_eq hu64) (q_callB c_len rfl T.n_len (by decide +kernel) (qa_cons (qv 1) qa_nil)) q_int) (q_call G__law_plain hr tk rfl T.f__law_plain.g T.f__law_plain.F.kp T.f__law_plain.b .nil (fun _ => rfl) (qa_cons (q_ix hu (qv 1) q_int) qa_nil)) q_int) qa_nil))))))
  qss_nil)
  (qss_one (qs_ret (q_callB c_len rfl T.n_len (by decide +kernel) (qa_cons (qv 1) qa_nil)))))))), hs⟩
def q__law_words (sp__law_take : DSp) : DTS :=
  (qSeq (qAsg (qBM "str" mJoin (qC (.str (PySem.Str.ofString ""))) (qCons (qLc false (qiRng1 (qCons (qOp (dAdd false) (qC (.int 1)) (qCall sp__law_take [] (qCons (qVar 0) (qCons (qC (.int 8)) qNil)))) qNil)) (gNameD 4) qYes (qOp dIx (qC (.str (PySem.Str.ofString "abcdefghijklmnopqrstuvwxyz"))) (qCall sp__law_take [] (qCons (qVar 0) (qCons (qC (.int 26)) qNil)))) [4]) qNil)) (gNameD 1))
  (qSeq (qAsg (qOp dIx (qTup (qCons (qC (.str (PySem.Str.ofString "house"))) (qCons (qC (.str (PySem.Str.ofString "car"))) (qCons (qC (.str (PySem.Str.ofString "chimney"))) (qCons (qC (.str (PySem.Str.ofString "grass"))) (qCons (qC (.str (PySem.Str.ofString "people"))) (qCons (qC (.str (PySem.Str.ofString "works"))) qNil))))))) (qCall sp__law_take [] (qCons (qVar 0) (qCons (qC (.int 6)) qNil)))) (gNameD 2))
  (qSeq (qAsg (qLst false (qCons (qVar 2) (qCons (qC (.str (PySem.Str.ofString "at"))) (qCons (qOp dIx (qTup (qCons (qVar 1) (qCons (qC (.str (PySem.Str.ofString "make"))) (qCons (qC (.str (PySem.Str.ofString "at"))) (qCons (qVar 2) qNil))))) (qCB dMax2 (qCons (qC (.int 0)) (qCons (qOp (dInt0 fun i j => i - j) (qCall sp__law_take [] (qCons (qVar 0) (qCons (qC (.int 8)) qNil))) (qC (.int 4))) qNil)))) qNil)))) (gNameD 3))
  (qRet (qOp (dAdd false) (qVar 3) (qOp (dMul false) (qLst false (qCons (qC (.str (PySem.Str.ofString "make"))) (qCons (qCB dStr (qCons (qOp (dAdd false) (qC (.int 1)) (qCall sp__law_take [] (qCons (qVar 0) (qCons (qC (.int 20)) qNil)))) qNil)) qNil))) (qCall sp__law_take [] (qCons (qVar 0) (qCons (qC (.int 2)) qNil)))))))))
theorem dv__law_words {k : Nat} (T : Tx w K mg) {sp__law_take : DSp} (G__law_take : FnOk P w K mg base (L2.CX P w) k T.f__law_take.f T.f__law_take.fd ["_law_bag_here", "_law_many"] (toSp K sp__law_take)) {p : DSp} (hlen : ∀ ds M Q E, p ds M Q E → ds.length = 1)
    (hs : ∀ ds M Q Ed, upSp p ds M Q Ed → q__law_words sp__law_take (fun x _ M => Ed x M) (retE Q) (startD N__law_words ds) M) : FnOk P w K mg base (L2.CX P w) (k + 1) T.f__law_words.f T.f__law_words.fd ["_law_bag_here"] (toSp K p) := by
  refine (fn_ok (p := upSp p) T.f__law_words.F sc__law_words (fun ds M Q E ⟨Q0, E0, h, _⟩ => hlen ds M Q0 E0 h) fun cdv A outer s H E hr tk hp => ?_).imp fun _ _ _ _ h => imp_up h
  have nd := sc__law_words.nd
  have hu64 := hr.units
  have hu := Nat.lt_of_le_of_lt (Nat.add_le_add_left (show 1 ≤ 64 by decide) _) hu64
  exact ⟨_, q__law_words sp__law_take, (qss_cons (qs_setN 1 nd (q_bm PySem.F.plainAttrs_str PySem.F.slot_str_join PySem.F.type_str_join m_join q_str (qa_cons (q_lcX (own := [("_law_turn", 4)]) false rfl nd (qi_range1 rfl T.n_range (qa_cons (q_op (o_add false) q_int (q_call G__law_take hr tk rfl T.f__law_take.g T.f__law_take.F.kp T.f__law_take.b .nil (fun _ => rfl) (qa_cons (qv 0) (qa_cons q_int qa_nil)))) qa_nil)) (blkOk_by (own := [("_law_turn", 4)]) (N := N__law_words) (sc := defScope s__law_words) (by decide +kernel)) (fun _ _ _ _ _ => ⟨_, (qg_nm 4 nd)⟩) (fun _ _ _ _ _ => ⟨_, qts_nil⟩) (fun _ _ _ _ _ => ⟨_, (q_ix hu q_str (q_call G__law_take hr takes0 rfl T.f__law_take.g T.f__law_take.F.kp T.f__law_take.b .nil (fun _ => rfl) (qa_cons (qv 0) (qa_cons q_int qa_nil))))⟩)) qa_nil)))
  (qss_cons (qs_setN 2 nd (q_ix hu (q_tup (qa_cons q_str (qa_cons q_str (qa_cons q_str (qa_cons q_str (qa_cons q_str (qa_cons q_str qa_nil))))))) (q_call G__law_take hr tk rfl T.f__law_take.g T.f__law_take.F.kp T.f__law_take.b .nil (fun _ => rfl) (qa_cons (qv 0) (qa_cons q_int qa_nil)))))
  (qss_cons (qs_setN 3 nd (q_lst false (qa_cons (qv 2) (qa_cons q_str (qa_cons (q_ix hu (q_tup (qa_cons (qv 1) (qa_cons q_str (qa_cons q_str (qa_cons (qv 2) qa_nil))))) (q_callB (c_max2 rfl) rfl T.n_max (by decide +kernel) (qa_cons q_int (qa_cons (q_op o_sub (q_call G__law_take hr tk rfl T.f__law_take.g T.f__law_take.F.kp T.f__law_take.b .nil (fun _ => rfl) (qa_cons (qv 0) (qa_cons q_int qa_nil))) q_int) qa_nil)))) qa_nil)))))
  (qss_one (qs_ret (q_op (o_add false) (qv 3) (q_op (o_mul false) (q_lst false (qa_cons q_str (qa_cons (q_callTy c_str rfl T.n_str (by decide +kernel) (qa_cons (q_op (o_add false) q_int (q_call G__law_take hr tk rfl T.f__law_take.g T.f__law_take.F.kp T.f__law_take.b .nil (fun _ => rfl) (qa_cons (qv 0) (qa_cons q_int qa_nil)))) qa_nil)) qa_nil))) (q_call G__law_take hr tk rfl T.f__law_take.g T.f__law_take.F.kp T.f__law_take.b .nil (fun _ => rfl) (qa_cons (qv 0) (qa_cons q_int qa_nil)))))))))), hs⟩
def q__law_text (sp__law_take : DSp) : DTS :=
  (qSeq (qAsg (qOp (dMul false) (qC (.str (PySem.Str.ofString " "))) (qOp (dInt CDiv fun i j => i / j) (qCall sp__law_take [] (qCons (qVar 0) (qCons (qC (.int 6)) qNil))) (qC (.int 4)))) (gNameD 2))
  (qSeq (qFor (qiEnum (qCons (qVar 1) qNil)) (gTupD 2 (gConsD (gNameD 3) (gConsD (gNameD 4) gNilD)))
  (qSeq (qAsg (qOp (dAdd false) (qVar 2) (qOp (dMul false) (qC (.str (PySem.Str.ofString " "))) (qOp (dAdd false) (qCB dIntX (qCons (qOp (dCmpI fun i j => decide (j < i)) (qVar 3) (qC (.int 0))) qNil)) (qOp (dInt CDiv fun i j => i / j) (qCall sp__law_take [] (qCons (qVar 0) (qCons (qC (.int 8)) qNil))) (qC (.int 6)))))) (gNameD 2))
  (qSeq (qAsg (qCall sp__law_take [] (qCons (qVar 0) (qCons (qC (.int 4)) qNil))) (gNameD 5))
  (qFor (qiAny (qVar 4)) (gNameD 6)
  (qSeq (qAsg (qOrV (qOp (dEq false) (qVar 5) (qC (.int 1))) (qAndV (qOp (dEq false) (qVar 5) (qC (.int 2))) (qOp (dEq false) (qCall sp__law_take [] (qCons (qVar 0) (qCons (qC (.int 2)) qNil))) (qC (.int 0))))) (gNameD 7))
  (qAsg (qOp (dAdd false) (qVar 2) (qIf (qTB (qVar 7)) (qBM0 "str" (mTxt0 Txt.upper) (qVar 6)) (qVar 6))) (gNameD 2)))))))
  (qRet (qOp (dAdd false) (qVar 2) (qOp (dMul false) (qC (.str (PySem.Str.ofString " "))) (qOp (dInt CDiv fun i j => i / j) (qCall sp__law_take [] (qCons (qVar 0) (qCons (qC (.int 6)) qNil))) (qC (.int 4))))))))
theorem dv__law_text {k : Nat} (T : Tx w K mg) {sp__law_take : DSp} (G__law_take : FnOk P w K mg base (L2.CX P w) k T.f__law_take.f T.f__law_take.fd ["_law_bag_here", "_law_many"] (toSp K sp__law_take)) {p : DSp} (hlen : ∀ ds M Q E, p ds M Q E → ds.length = 2)
    (hs : ∀ ds M Q Ed, upSp p ds M Q Ed → q__law_text sp__law_take (fun x _ M => Ed x M) (retE Q) (startD N__law_text ds) M) : FnOk P w K mg base (L2.CX P w) (k + 1) T.f__law_text.f T.f__law_text.fd ["_law_bag_here", "_law_words_here"] (toSp K p) := by
  refine (fn_ok (p := upSp p) T.f__law_text.F sc__law_text (fun ds M Q E ⟨Q0, E0, h, _⟩ => hlen ds M Q0 E0 h) fun cdv A outer s H E hr tk hp => ?_).imp fun _ _ _ _ h => imp_up h
  have nd := sc__law_text.nd
  have hu64 := hr.units
  have hu := Nat.lt_of_le_of_lt (Nat.add_le_add_left (show 1 ≤ 64 by decide) _) hu64
  exact ⟨_, q__law_text sp__law_take, (qss_cons (qs_setN 2 nd (q_op (o_mul false) q_str (q_op o_fdiv (q_call G__law_take hr tk rfl T.f__law_take.g T.f__law_take.F.kp T.f__law_take.b .nil (fun _ => rfl) (qa_cons (qv 0) (qa_cons q_int qa_nil))) q_int)))
  (qss_cons (qs_for (ix := [3, 4]) hp rfl (qi_enum rfl T.n_enumerate (qa_cons (qv 1) qa_nil)) (qg_tup rfl (qgs_cons (qg_nm 3 nd) (qgs_cons (qg_nm 4 nd) qgs_nil)))
  (qss_cons (qs_setN 2 nd (q_op (o_add false) (qv 2) (q_op (o_mul false) q_str (q_op (o_add false) (q_callTy c_intX rfl T.n_int (by decide +kernel) (qa_cons (q_cmp o_gt (qv 3) q_int) qa_nil)) (q_op o_fdiv (q_call G__law_take hr tk rfl T.f__law_take.g T.f__law_take.F.kp T.f__law_take.b .nil (fun _ => rfl) (qa_cons (qv 0) (qa_cons q_int qa_nil))) q_int)))))
  (qss_cons (qs_setN 5 nd (q_call G__law_take hr tk rfl T.f__law_take.g T.f__law_take.F.kp T.f__law_take.b .nil (fun _ => rfl) (qa_cons (qv 0) (qa_cons q_int qa_nil))))
  (qss_one (qs_for (ix := [6]) hp rfl (qi_any (qv 4)) (qg_nm 6 nd)
  (qss_cons (qs_setN 7 nd (q_or (q_cmp (o_eq hu64) (qv 5) q_int) (q_one (q_and (q_cmp (o_eq hu64) (qv 5) q_int) (q_one (q_cmp (o_eq hu64) (q_call G__law_take hr tk rfl T.f__law_take.g T.f__law_take.F.kp T.f__law_take.b .nil (fun _ => rfl) (qa_cons (qv 0) (qa_cons q_int qa_nil))) q_int))))))
  (qss_one (qs_setN 2 nd (q_op (o_add false) (qv 2) (q_if (qt_val (qv 7)) (q_bm0 PySem.F.plainAttrs_str PySem.F.slot_str_upper PySem.F.type_str_upper m_upper (qv 6)) (qv 6)))))))))))
  (qss_one (qs_ret (q_op (o_add false) (qv 2) (q_op (o_mul false) q_str (q_op o_fdiv (q_call G__law_take hr tk rfl T.f__law_take.g T.f__law_take.F.kp T.f__law_take.b .nil (fun _ => rfl) (qa_cons (qv 0) (qa_cons q_int qa_nil))) q_int))))))), hs⟩
def q__law_told (c_BadText : Addr) (c_BadTime : Addr) (c_NoDeed : Addr) (c_NoGround : Addr) (c_NoSaying : Addr) (c_NoText : Addr) (sp_read_call : DSp) : DTS :=
  (qTryAs c_BadText 1
  (qRet (qCall sp_read_call [] (qCons (qVar 0) qNil)))
  fun a_ d_ => (qSeq (qIfS (qOr (qNot (qTB (qCB (dIsX a_ d_ true (.ty "ValueError")) (qCons (qVar 1) (qCons (qC (.ty "ValueError")) qNil))))) (qTB (qCB (dIsX a_ d_ false (.tup [.ref c_NoText, .ref c_NoSaying, .ref c_BadTime, .ref c_NoDeed, .ref c_NoGround])) (qCons (qVar 1) (qCons (qTup (qCons (qC (.ref c_NoText)) (qCons (qC (.ref c_NoSaying)) (qCons (qC (.ref c_BadTime)) (qCons (qC (.ref c_NoDeed)) (qCons (qC (.ref c_NoGround)) qNil)))))) qNil)))))
  (qRet (qC (.str (PySem.Str.ofString "!"))))
  qNext)
  (qRet (qXf a_ d_ (PySem.Str.ofString "at") (qVar 1)))))
theorem dv__law_told {k : Nat} (T : Tx w K mg) {sp_read_call : DSp} (G_read_call : FnOk P w K mg base (L2.CX P w) k T.f_read_call.f T.f_read_call.fd ["text"] (toSp K sp_read_call)) {p : DSp} (hlen : ∀ ds M Q E, p ds M Q E → ds.length = 1)
    (hs : ∀ ds M Q Ed, upSp p ds M Q Ed → q__law_told T.c_BadText.C T.c_BadTime.C T.c_NoDeed.C T.c_NoGround.C T.c_NoSaying.C T.c_NoText.C sp_read_call (fun x _ M => Ed x M) (retE Q) (startD N__law_told ds) M) : FnOk P w K mg base (L2.CX P w) (k + 1) T.f__law_told.f T.f__law_told.fd ["_law_thing"] (toSp K p) := by
  refine (fn_ok (p := upSp p) T.f__law_told.F sc__law_told (fun ds M Q E ⟨Q0, E0, h, _⟩ => hlen ds M Q0 E0 h) fun cdv A outer s H E hr tk hp => ?_).imp fun _ _ _ _ h => imp_up h
  have nd := sc__law_told.nd
  have hu64 := hr.units
  have hu := Nat.lt_of_le_of_lt (Nat.add_le_add_left (show 1 ≤ 64 by decide) _) hu64
  exact ⟨_, q__law_told T.c_BadText.C T.c_BadTime.C T.c_NoDeed.C T.c_NoGround.C T.c_NoSaying.C T.c_NoText.C sp_read_call, (qss_one (qs_tryAs 1 tk nd T.c_BadText.te T.c_BadText.g (fun W pn xe tk hp => ⟨_, (qss_one (qs_ret (q_call G_read_call hr tk rfl T.f_read_call.g T.f_read_call.F.kp T.f_read_call.b .nil (fun _ => rfl) (qa_cons (qv 0) qa_nil))))⟩) (fun a oe d pn hz hf => ⟨_, (qss_cons (qs_if (QW.t (qw_or (qt_not (qt_val (q_callB (c_isX1 (b := true) T.c_BadText.kx hz hf rfl T.i_0) rfl T.n_isinstance (by decide +kernel) (qa_cons (qv 1) (qa_cons (qe_c (pe_bltn (v := .ty "ValueError") rfl T.n_ValueError (by decide +kernel) rfl) fun _ => rfl) qa_nil))))) (qw_or1 (qt_val (q_callB (c_isXT (b := false) T.c_BadText.kx hz hf rfl T.i_1) rfl T.n_isinstance (by decide +kernel) (qa_cons (qv 1) (qa_cons (q_tup (qa_cons (q_cls T.c_NoText.g) (qa_cons (q_cls T.c_NoSaying.g) (qa_cons (q_cls T.c_BadTime.g) (qa_cons (q_cls T.c_NoDeed.g) (qa_cons (q_cls T.c_NoGround.g) qa_nil)))))) qa_nil)))))))
  (qss_one (qs_ret q_str))
  qss_nil)
  (qss_one (qs_ret (q_xf T.c_BadText.xf (T.c_BadText.no _ (by simp)) hz hf (qv 1)))))⟩))), hs⟩
def q__law_like (sp__law_like : DSp) : DTS :=
  (qSeq (qIfS (qOr (qTB (qOp (dEq true) (qCB dIsi (qCons (qVar 0) (qCons (qC (.ty "bool")) qNil))) (qCB dIsi (qCons (qVar 1) (qCons (qC (.ty "bool")) qNil))))) (qTB (qOp (dEq true) (qVar 0) (qVar 1))))
  (qRet (qC (.bl false)))
  qNext)
  (qSeq (qIfS (qTB (qCB dIsi (qCons (qVar 0) (qCons (qTup (qCons (qC (.ty "list")) (qCons (qC (.ty "tuple")) qNil))) qNil))))
  (qRet (qCB dAll (qCons (qLc false (qiZipB (qCons (qVar 0) (qCons (qVar 1) qNil))) (gTupD 2 (gConsD (gNameD 2) (gConsD (gNameD 3) gNilD))) qYes (qCall sp__law_like [] (qCons (qVar 2) (qCons (qVar 3) qNil))) [2, 3]) qNil)))
  qNext)
  (qRet (qC (.bl true)))))
theorem dv__law_like {k : Nat} (T : Tx w K mg) {sp__law_like : DSp} (G__law_like : FnOk P w K mg base (L2.CX P w) k T.f__law_like.f T.f__law_like.fd ["_law_told_here", "_law_due"] (toSp K sp__law_like)) {p : DSp} (hlen : ∀ ds M Q E, p ds M Q E → ds.length = 2)
    (hs : ∀ ds M Q Ed, upSp p ds M Q Ed → q__law_like sp__law_like (fun x _ M => Ed x M) (retE Q) (startD N__law_like ds) M) : FnOk P w K mg base (L2.CX P w) (k + 1) T.f__law_like.f T.f__law_like.fd ["_law_told_here", "_law_due"] (toSp K p) := by
  refine (fn_ok (p := upSp p) T.f__law_like.F sc__law_like (fun ds M Q E ⟨Q0, E0, h, _⟩ => hlen ds M Q0 E0 h) fun cdv A outer s H E hr tk hp => ?_).imp fun _ _ _ _ h => imp_up h
  have nd := sc__law_like.nd
  have hu64 := hr.units
  have hu := Nat.lt_of_le_of_lt (Nat.add_le_add_left (show 1 ≤ 64 by decide) _) hu64
  exact ⟨_, q__law_like sp__law_like, (qss_cons (qs_if (QW.t (qw_or (qt_cmp (o_ne hu64) (q_callB c_isi rfl T.n_isinstance (by decide +kernel) (qa_cons (qv 0) (qa_cons (qe_c (pe_bltn (v := .ty "bool") rfl T.n_bool (by decide +kernel) rfl) fun _ => rfl) qa_nil))) (q_callB c_isi rfl T.n_isinstance (by decide +kernel) (qa_cons (qv 1) (qa_cons (qe_c (pe_bltn (v := .ty "bool") rfl T.n_bool (by decide +kernel) rfl) fun _ => rfl) qa_nil)))) (qw_or1 (qt_cmp (o_ne hu64) (qv 0) (qv 1)))))
  (qss_one (qs_ret q_bl))
  qss_nil)
  (qss_cons (qs_if (qt_val (q_callB c_isi rfl T.n_isinstance (by decide +kernel) (qa_cons (qv 0) (qa_cons (q_tup (qa_cons (qe_c (pe_bltn (v := .ty "list") rfl T.n_list (by decide +kernel) rfl) fun _ => rfl) (qa_cons (qe_c (pe_bltn (v := .ty "tuple") rfl T.n_tuple (by decide +kernel) rfl) fun _ => rfl) qa_nil))) qa_nil))))
  (qss_one (qs_ret (q_callB (c_all rfl) rfl T.n_all (by decide +kernel) (qa_cons (q_lcX (own := [("_law_one", 2), ("_law_other", 3)]) false rfl nd (qi_zipB rfl T.n_zip (qa_cons (qv 0) (qa_cons (qv 1) qa_nil))) (blkOk_by (own := [("_law_one", 2), ("_law_other", 3)]) (N := N__law_like) (sc := defScope s__law_like) (by decide +kernel)) (fun _ _ _ _ _ => ⟨_, (qg_tup rfl (qgs_cons (qg_nm 2 nd) (qgs_cons (qg_nm 3 nd) qgs_nil)))⟩) (fun _ _ _ _ _ => ⟨_, qts_nil⟩) (fun _ _ _ _ _ => ⟨_, (q_call G__law_like hr takes0 rfl T.f__law_like.g T.f__law_like.F.kp T.f__law_like.b .nil (fun _ => rfl) (qa_cons (qv 2) (qa_cons (qv 3) qa_nil)))⟩)) qa_nil))))
  qss_nil)
  (qss_one (qs_ret q_bl)))), hs⟩
def q__law_spoilt (sp__law_take : DSp) : DTS :=
  (qSeq (qAsg (qC (.str (PySem.Str.ofString " !\"#$&'()*+,-./0123456789:;<=>?@ABCDEFGHIJKLMNOPQRSTUVWXYZ"))) (gNameD 2))
  (qSeq (qAsg (qOp (dAdd false) (qVar 2) (qC (.str (PySem.Str.ofString "[\\]^_`abcdefghijklmnopqrstuvwxyz{|}~")))) (gNameD 2))
  (qSeq (qPar 3 4 (qCons (qCall sp__law_take [] (qCons (qVar 0) (qCons (qC (.int 7)) qNil))) (qCons (qCall sp__law_take [] (qCons (qVar 0) (qCons (qOp (dAdd false) (qCB dLen (qCons (qVar 1) qNil)) (qC (.int 1))) qNil))) qNil)))
  (qSeq (qAsg (qOp dIx (qVar 2) (qCall sp__law_take [] (qCons (qVar 0) (qCons (qCB dLen (qCons (qVar 2) qNil)) qNil)))) (gNameD 5))
  (qSeq (qAsg (qBM "str" (mSplit true) (qVar 1) (qCons (qC (.str (PySem.Str.ofString " "))) qNil)) (gNameD 6))
  (qSeq (qAsg (qCall sp__law_take [] (qCons (qVar 0) (qCons (qCB dLen (qCons (qVar 6) qNil)) qNil))) (gNameD 7))
  (qSeq (qAsg (qLst false (qCons (qC (.str (PySem.Str.ofString "make"))) (qCons (qC (.str (PySem.Str.ofString "at"))) (qCons (qC (.str (PySem.Str.ofString "0"))) (qCons (qC (.str (PySem.Str.ofString "20"))) (qCons (qC (.str (PySem.Str.ofString "21"))) (qCons (qC (.str (PySem.Str.ofString "05"))) (qCons (qC (.str (PySem.Str.ofString "6"))) (qCons (qC (.str (PySem.Str.ofString "car"))) (qCons (qC (.str (PySem.Str.ofString ""))) (qCons (qC (.str (PySem.Str.ofString "abcdefghi"))) (qCons (qC (.str (PySem.Str.ofString "1_0"))) (qCons (qC (.str (PySem.Str.ofString "x"))) (qCons (qC (.str (PySem.Str.ofString "100000000000"))) qNil)))))))))))))) (gNameD 8))
  (qSeq (qAsg (qOp dIx (qVar 8) (qCall sp__law_take [] (qCons (qVar 0) (qCons (qC (.int 13)) qNil)))) (gNameD 9))
  (qSeq (qIfS (qTB (qOp (dCmpI fun i j => decide (i < j)) (qVar 3) (qC (.int 3))))
  (qSeq (qAsg (qOp (dMul false) (qVar 5) (qCB dIntX (qCons (qOp (dCmpI fun i j => decide (i < j)) (qVar 3) (qC (.int 2))) qNil))) (gNameD 10))
  (qRet (qOp (dAdd false) (qOp (dAdd false) (qSl false (qVar 1) qNoPart (qPart (qVar 4))) (qVar 10)) (qSl false (qVar 1) (qPart (qOp (dAdd false) (qVar 4) (qCB dIntX (qCons (qOp (dCmpI fun i j => decide (j < i)) (qVar 3) (qC (.int 0))) qNil)))) qNoPart))))
  qNext)
  (qSeq (qIfS (qTB (qOp (dEq false) (qVar 3) (qC (.int 3))))
  (qRet (qBM "str" mJoin (qC (.str (PySem.Str.ofString " "))) (qCons (qOp (dAdd false) (qSl false (qVar 6) qNoPart (qPart (qVar 7))) (qSl false (qVar 6) (qPart (qOp (dAdd false) (qVar 7) (qC (.int 1)))) qNoPart)) qNil)))
  qNext)
  (qSeq (qIfS (qTB (qOp (dEq false) (qVar 3) (qC (.int 4))))
  (qRet (qBM "str" mJoin (qC (.str (PySem.Str.ofString " "))) (qCons (qOp (dAdd false) (qOp (dAdd false) (qSl false (qVar 6) qNoPart (qPart (qVar 7))) (qLst false (qCons (qVar 9) qNil))) (qSl false (qVar 6) (qPart (qVar 7)) qNoPart)) qNil)))
  qNext)
  (qSeq (qIfS (qTB (qOp (dEq false) (qVar 3) (qC (.int 5))))
  (qSeq (qDrop (qBM "list" mIns (qVar 6) (qCons (qVar 7) (qCons (qOp dIx (qVar 6) (qVar 7)) qNil))))
  (qRet (qBM "str" mJoin (qC (.str (PySem.Str.ofString " "))) (qCons (qVar 6) qNil))))
  qNext)
  (qRet (qBM "str" mJoin (qC (.str (PySem.Str.ofString " "))) (qCons (qOp (dAdd false) (qOp (dAdd false) (qSl false (qVar 6) qNoPart (qPart (qVar 7))) (qLst false (qCons (qVar 9) qNil))) (qSl false (qVar 6) (qPart (qOp (dAdd false) (qVar 7) (qC (.int 1)))) qNoPart)) qNil)))))))))))))))
theorem dv__law_spoilt {k : Nat} (T : Tx w K mg) {sp__law_take : DSp} (G__law_take : FnOk P w K mg base (L2.CX P w) k T.f__law_take.f T.f__law_take.fd ["_law_bag_here", "_law_many"] (toSp K sp__law_take)) {p : DSp} (hlen : ∀ ds M Q E, p ds M Q E → ds.length = 2)
    (hs : ∀ ds M Q Ed, upSp p ds M Q Ed → q__law_spoilt sp__law_take (fun x _ M => Ed x M) (retE Q) (startD N__law_spoilt ds) M) : FnOk P w K mg base (L2.CX P w) (k + 1) T.f__law_spoilt.f T.f__law_spoilt.fd ["_law_bag_here", "_law_text_here"] (toSp K p) := by
  refine (fn_ok (p := upSp p) T.f__law_spoilt.F sc__law_spoilt (fun ds M Q E ⟨Q0, E0, h, _⟩ => hlen ds M Q0 E0 h) fun cdv A outer s H E hr tk hp => ?_).imp fun _ _ _ _ h => imp_up h
  have nd := sc__law_spoilt.nd
  have hu64 := hr.units
  have hu := Nat.lt_of_le_of_lt (Nat.add_le_add_left (show 1 ≤ 64 by decide) _) hu64
  exact ⟨_, q__law_spoilt sp__law_take, (qss_cons (qs_setN 2 nd q_str)
  (qss_cons (qs_setN 2 nd (q_op (o_add false) (qv 2) q_str))
  (qss_cons (qs_parN 3 4 rfl nd (qa_cons (q_call G__law_take hr tk rfl T.f__law_take.g T.f__law_take.F.kp T.f__law_take.b .nil (fun _ => rfl) (qa_cons (qv 0) (qa_cons q_int qa_nil))) (qa_cons (q_call G__law_take hr tk rfl T.f__law_take.g T.f__law_take.F.kp T.f__law_take.b .nil (fun _ => rfl) (qa_cons (qv 0) (qa_cons (q_op (o_add false) (q_callB c_len rfl T.n_len (by decide +kernel) (qa_cons (qv 1) qa_nil)) q_int) qa_nil))) qa_nil)))
  (qss_cons (qs_setN 5 nd (q_ix hu (qv 2) (q_call G__law_take hr tk rfl T.f__law_take.g T.f__law_take.F.kp T.f__law_take.b .nil (fun _ => rfl) (qa_cons (qv 0) (qa_cons (q_callB c_len rfl T.n_len (by decide +kernel) (qa_cons (qv 2) qa_nil)) qa_nil)))))
  (qss_cons (qs_setN 6 nd (q_bm PySem.F.plainAttrs_str PySem.F.slot_str_split PySem.F.type_str_split (m_split true) (qv 1) (qa_cons q_str qa_nil)))
  (qss_cons (qs_setN 7 nd (q_call G__law_take hr tk rfl T.f__law_take.g T.f__law_take.F.kp T.f__law_take.b .nil (fun _ => rfl) (qa_cons (qv 0) (qa_cons (q_callB c_len rfl T.n_len (by decide +kernel) (qa_cons (qv 6) qa_nil)) qa_nil))))
  (qss_cons (qs_setN 8 nd (q_lst false (qa_cons q_str (qa_cons q_str (qa_cons q_str (qa_cons q_str (qa_cons q_str (qa_cons q_str (qa_cons q_str (qa_cons q_str (qa_cons q_str (qa_cons q_str (qa_cons q_str (qa_cons q_str (qa_cons q_str qa_nil)))))))))))))))
  (qss_cons (qs_setN 9 nd (q_ix hu (qv 8) (q_call G__law_take hr tk rfl T.f__law_take.g T.f__law_take.F.kp T.f__law_take.b .nil (fun _ => rfl) (qa_cons (qv 0) (qa_cons q_int qa_nil)))))
  (qss_cons (qs_if (qt_cmp o_lt (qv 3) q_int)
  (qss_cons (qs_setN 10 nd (q_op (o_mul false) (qv 5) (q_callTy c_intX rfl T.n_int (by decide +kernel) (qa_cons (q_cmp o_lt (qv 3) q_int) qa_nil))))
  (qss_one (qs_ret (q_op (o_add false) (q_op (o_add false) (q_slice false (qv 1) qo_none (qo_some (qv 4))) (qv 10)) (q_slice false (qv 1) (qo_some (q_op (o_add false) (qv 4) (q_callTy c_intX rfl T.n_int (by decide +kernel) (qa_cons (q_cmp o_gt (qv 3) q_int) qa_nil)))) qo_none)))))
  qss_nil)
  (qss_cons (qs_if (qt_cmp (o_eq hu64) (qv 3) q_int)
  (qss_one (qs_ret (q_bm PySem.F.plainAttrs_str PySem.F.slot_str_join PySem.F.type_str_join m_join q_str (qa_cons (q_op (o_add false) (q_slice false (qv 6) qo_none (qo_some (qv 7))) (q_slice false (qv 6) (qo_some (q_op (o_add false) (qv 7) q_int)) qo_none)) qa_nil))))
  qss_nil)
  (qss_cons (qs_if (qt_cmp (o_eq hu64) (qv 3) q_int)
  (qss_one (qs_ret (q_bm PySem.F.plainAttrs_str PySem.F.slot_str_join PySem.F.type_str_join m_join q_str (qa_cons (q_op (o_add false) (q_op (o_add false) (q_slice false (qv 6) qo_none (qo_some (qv 7))) (q_lst false (qa_cons (qv 9) qa_nil))) (q_slice false (qv 6) (qo_some (qv 7)) qo_none)) qa_nil))))
  qss_nil)
  (qss_cons (qs_if (qt_cmp (o_eq hu64) (qv 3) q_int)
  (qss_cons (qs_expr (q_bm PySem.F.plainAttrs_list PySem.F.slot_list_insert PySem.F.type_list_insert m_insert (qv 6) (qa_cons (qv 7) (qa_cons (q_ix hu (qv 6) (qv 7)) qa_nil))))
  (qss_one (qs_ret (q_bm PySem.F.plainAttrs_str PySem.F.slot_str_join PySem.F.type_str_join m_join q_str (qa_cons (qv 6) qa_nil)))))
  qss_nil)
  (qss_one (qs_ret (q_bm PySem.F.plainAttrs_str PySem.F.slot_str_join PySem.F.type_str_join m_join q_str (qa_cons (q_op (o_add false) (q_op (o_add false) (q_slice false (qv 6) qo_none (qo_some (qv 7))) (q_lst false (qa_cons (qv 9) qa_nil))) (q_slice false (qv 6) (qo_some (q_op (o_add false) (qv 7) q_int)) qo_none)) qa_nil)))))))))))))))), hs⟩
def q_law (sp__law_bag : DSp) (sp__law_like : DSp) (sp__law_read : DSp) (sp__law_spoilt : DSp) (sp__law_take : DSp) (sp__law_text : DSp) (sp__law_told : DSp) (sp__law_words : DSp) : DTS :=
  (qSeq (qFor (qiRng1 (qCons (qCB dMax2 (qCons (qC (.int 6)) (qCons (qCB dMin2 (qCons (qC (.int 16)) (qCons (qCB dLen (qCons (qVar 0) qNil)) qNil))) qNil))) qNil)) (gNameD 1)
  (qSeq (qAsg (qCall sp__law_bag [] (qCons (qVar 0) (qCons (qVar 1) qNil))) (gNameD 2))
  (qSeq (qAsg (qCall sp__law_text [] (qCons (qVar 2) (qCons (qCall sp__law_words [] (qCons (qVar 2) qNil)) qNil))) (gNameD 3))
  (qSeq (qFor (qiRng1 (qCons (qC (.int 3)) qNil)) (gNameD 4)
  (qSeq (qAsg (qCall sp__law_spoilt [] (qCons (qVar 2) (qCons (qVar 3) qNil))) (gNameD 3))
  (qFor (qiRng1 (qCons (qC (.int 2)) qNil)) (gNameD 5)
  (qIfS (qNot (qTB (qCall sp__law_like [] (qCons (qCall sp__law_told [] (qCons (qVar 3) qNil)) (qCons (qCall sp__law_read [] (qCons (qVar 3) qNil)) qNil)))))
  (qRet (qC (.bl false)))
  qNext))))
  (qSeq (qAsg (qOp dIx (qLst false (qCons (qC .non) (qCons (qC (.int 0)) (qCons (qC (.bl true)) (qCons (qLst false qNil) (qCons (qLst false (qCons (qC (.str (PySem.Str.ofString "car"))) (qCons (qC (.str (PySem.Str.ofString "at"))) (qCons (qC (.str (PySem.Str.ofString "x"))) qNil)))) (qCons (qTup (qCons (qC (.str (PySem.Str.ofString "car at x"))) qNil)) (qCons (qOp (dInt CPow fun i j => i ^ j.toNat) (qC (.int 10)) (qC (.int 40))) qNil)))))))) (qCall sp__law_take [] (qCons (qVar 2) (qCons (qC (.int 7)) qNil)))) (gNameD 6))
  (qIfS (qNot (qTB (qCall sp__law_like [] (qCons (qCall sp__law_told [] (qCons (qVar 6) qNil)) (qCons (qUn dNeg (qC (.int 1))) qNil)))))
  (qRet (qC (.bl false)))
  qNext))))))
  (qSeq (qAsg (qLst false (qCons (qC (.str (PySem.Str.ofString ""))) (qCons (qC (.str (PySem.Str.ofString "   "))) (qCons (qC (.str (PySem.Str.ofString "car"))) (qCons (qC (.str (PySem.Str.ofString "car at"))) (qCons (qC (.str (PySem.Str.ofString "car at x make"))) (qCons (qC (.str (PySem.Str.ofString "car at x make 3 now"))) (qCons (qC (.str (PySem.Str.ofString "car at x 3"))) (qCons (qC (.str (PySem.Str.ofString "x at car"))) qNil))))))))) (gNameD 7))
  (qRet (qCB dAll (qCons (qLc false (qiAny (qVar 7)) (gNameD 3) qYes (qCall sp__law_like [] (qCons (qCall sp__law_told [] (qCons (qVar 3) qNil)) (qCons (qCall sp__law_read [] (qCons (qVar 3) qNil)) qNil))) [3]) qNil)))))
theorem dv_law {k : Nat} (T : Tx w K mg) {sp__law_bag : DSp} (G__law_bag : FnOk P w K mg base (L2.CX P w) k T.f__law_bag.f T.f__law_bag.fd ["_law_script", "_law_at"] (toSp K sp__law_bag)) {sp__law_like : DSp} (G__law_like : FnOk P w K mg base (L2.CX P w) k T.f__law_like.f T.f__law_like.fd ["_law_told_here", "_law_due"] (toSp K sp__law_like)) {sp__law_read : DSp} (G__law_read : FnOk P w K mg base (L2.CX P w) k T.f__law_read.f T.f__law_read.fd ["_law_text_here"] (toSp K sp__law_read)) {sp__law_spoilt : DSp} (G__law_spoilt : FnOk P w K mg base (L2.CX P w) k T.f__law_spoilt.f T.f__law_spoilt.fd ["_law_bag_here", "_law_text_here"] (toSp K sp__law_spoilt)) {sp__law_take : DSp} (G__law_take : FnOk P w K mg base (L2.CX P w) k T.f__law_take.f T.f__law_take.fd ["_law_bag_here", "_law_many"] (toSp K sp__law_take)) {sp__law_text : DSp} (G__law_text : FnOk P w K mg base (L2.CX P w) k T.f__law_text.f T.f__law_text.fd ["_law_bag_here", "_law_words_here"] (toSp K sp__law_text)) {sp__law_told : DSp} (G__law_told : FnOk P w K mg base (L2.CX P w) k T.f__law_told.f T.f__law_told.fd ["_law_thing"] (toSp K sp__law_told)) {sp__law_words : DSp} (G__law_words : FnOk P w K mg base (L2.CX P w) k T.f__law_words.f T.f__law_words.fd ["_law_bag_here"] (toSp K sp__law_words)) {p : DSp} (hlen : ∀ ds M Q E, p ds M Q E → ds.length = 1)
    (hs : ∀ ds M Q Ed, upSp p ds M Q Ed → q_law sp__law_bag sp__law_like sp__law_read sp__law_spoilt sp__law_take sp__law_text sp__law_told sp__law_words (fun x _ M => Ed x M) (retE Q) (startD N_law ds) M) : FnOk P w K mg base (L2.CX P w) (k + 1) T.f_law.f T.f_law.fd ["_law_script"] (toSp K p) := by
  refine (fn_ok (p := upSp p) T.f_law.F sc_law (fun ds M Q E ⟨Q0, E0, h, _⟩ => hlen ds M Q0 E0 h) fun cdv A outer s H E hr tk hp => ?_).imp fun _ _ _ _ h => imp_up h
  have nd := sc_law.nd
  have hu64 := hr.units
  have hu := Nat.lt_of_le_of_lt (Nat.add_le_add_left (show 1 ≤ 64 by decide) _) hu64
  exact ⟨_, q_law sp__law_bag sp__law_like sp__law_read sp__law_spoilt sp__law_take sp__law_text sp__law_told sp__law_words, (qss_cons (qs_for (ix := [1]) hp rfl (qi_range1 rfl T.n_range (qa_cons (q_callB (c_max2 rfl) rfl T.n_max (by decide +kernel) (qa_cons q_int (qa_cons (q_callB (c_min2 rfl) rfl T.n_min (by decide +kernel) (qa_cons q_int (qa_cons (q_callB c_len rfl T.n_len (by decide +kernel) (qa_cons (qv 0) qa_nil)) qa_nil))) qa_nil))) qa_nil)) (qg_nm 1 nd)
  (qss_cons (qs_setN 2 nd (q_call G__law_bag hr tk rfl T.f__law_bag.g T.f__law_bag.F.kp T.f__law_bag.b .nil (fun _ => rfl) (qa_cons (qv 0) (qa_cons (qv 1) qa_nil))))
  (qss_cons (qs_setN 3 nd (q_call G__law_text hr tk rfl T.f__law_text.g T.f__law_text.F.kp T.f__law_text.b .nil (fun _ => rfl) (qa_cons (qv 2) (qa_cons (q_call G__law_words hr tk rfl T.f__law_words.g T.f__law_words.F.kp T.f__law_words.b .nil (fun _ => rfl) (qa_cons (qv 2) qa_nil)) qa_nil))))
  (qss_cons (qs_for (ix := [4]) hp rfl (qi_range1 rfl T.n_range (qa_cons q_int qa_nil)) (qg_nm 4 nd)
  (qss_cons (qs_setN 3 nd (q_call G__law_spoilt hr tk rfl T.f__law_spoilt.g T.f__law_spoilt.F.kp T.f__law_spoilt.b .nil (fun _ => rfl) (qa_cons (qv 2) (qa_cons (qv 3) qa_nil))))
  (qss_one (qs_for (ix := [5]) hp rfl (qi_range1 rfl T.n_range (qa_cons q_int qa_nil)) (qg_nm 5 nd)
  (qss_one (qs_if (qt_not (qt_val (q_call G__law_like hr tk rfl T.f__law_like.g T.f__law_like.F.kp T.f__law_like.b .nil (fun _ => rfl) (qa_cons (q_call G__law_told hr tk rfl T.f__law_told.g T.f__law_told.F.kp T.f__law_told.b .nil (fun _ => rfl) (qa_cons (qv 3) qa_nil)) (qa_cons (q_call G__law_read hr tk rfl T.f__law_read.g T.f__law_read.F.kp T.f__law_read.b .nil (fun _ => rfl) (qa_cons (qv 3) qa_nil)) qa_nil)))))
  (qss_one (qs_ret q_bl))
  qss_nil))))))
  (qss_cons (qs_setN 6 nd (q_ix hu (q_lst false (qa_cons q_non (qa_cons q_int (qa_cons q_bl (qa_cons (q_lst false qa_nil) (qa_cons (q_lst false (qa_cons q_str (qa_cons q_str (qa_cons q_str qa_nil)))) (qa_cons (q_tup (qa_cons q_str qa_nil)) (qa_cons (q_op o_pow q_int q_int) qa_nil)))))))) (q_call G__law_take hr tk rfl T.f__law_take.g T.f__law_take.F.kp T.f__law_take.b .nil (fun _ => rfl) (qa_cons (qv 2) (qa_cons q_int qa_nil)))))
  (qss_one (qs_if (qt_not (qt_val (q_call G__law_like hr tk rfl T.f__law_like.g T.f__law_like.F.kp T.f__law_like.b .nil (fun _ => rfl) (qa_cons (q_call G__law_told hr tk rfl T.f__law_told.g T.f__law_told.F.kp T.f__law_told.b .nil (fun _ => rfl) (qa_cons (qv 6) qa_nil)) (qa_cons (q_neg q_int) qa_nil)))))
  (qss_one (qs_ret q_bl))
  qss_nil)))))))
  (qss_cons (qs_setN 7 nd (q_lst false (qa_cons q_str (qa_cons q_str (qa_cons q_str (qa_cons q_str (qa_cons q_str (qa_cons q_str (qa_cons q_str (qa_cons q_str qa_nil))))))))))
  (qss_one (qs_ret (q_callB (c_all rfl) rfl T.n_all (by decide +kernel) (qa_cons (q_lcX (own := [("_law_text_here", 3)]) false rfl nd (qi_any (qv 7)) (blkOk_by (own := [("_law_text_here", 3)]) (N := N_law) (sc := defScope s_law) (by decide +kernel)) (fun _ _ _ _ _ => ⟨_, (qg_nm 3 nd)⟩) (fun _ _ _ _ _ => ⟨_, qts_nil⟩) (fun _ _ _ _ _ => ⟨_, (q_call G__law_like hr takes0 rfl T.f__law_like.g T.f__law_like.F.kp T.f__law_like.b .nil (fun _ => rfl) (qa_cons (q_call G__law_told hr takes0 rfl T.f__law_told.g T.f__law_told.F.kp T.f__law_told.b .nil (fun _ => rfl) (qa_cons (qv 3) qa_nil)) (qa_cons (q_call G__law_read hr takes0 rfl T.f__law_read.g T.f__law_read.F.kp T.f__law_read.b .nil (fun _ => rfl) (qa_cons (qv 3) qa_nil)) qa_nil)))⟩)) qa_nil)))))), hs⟩
end
theorem all_mk {l : PySem.W.OpenLaw} {w : World} {K : PySem.W.Frag} {h : Heap} {mg : Str → Option Value} {fa f0 f1 f2 f3 f4 f5 f6 f7 f8 f9 f10 f11 f12 f13 f14 : Addr} (X : K.In h) (G : h.Ns mainGlobals mg) (hfa : mg "law" = some (.ref fa))
    {od0 an0 od1 an1 od2 an2 od3 an3 od4 an4 od5 an5 od6 an6 od7 an7 od8 an8 od9 an9 od10 an10 od11 an11 od12 an12 od13 an13 od14 an14 : Option Addr} {sl0 sl1 sl2 sl3 sl4 sl5 sl6 sl7 sl8 sl9 sl10 sl11 sl12 sl13 sl14 : Array (Option Value)} {oc0 kV0 dc0 pm0 cd0 ct0 oc1 kV1 dc1 pm1 cd1 ct1 oc2 kV2 dc2 pm2 cd2 ct2 oc3 kV3 dc3 pm3 cd3 ct3 oc4 kV4 dc4 pm4 cd4 ct4 oc5 kV5 dc5 pm5 cd5 ct5 oc6 kV6 dc6 pm6 cd6 ct6 oc7 kV7 dc7 pm7 cd7 ct7 oc8 kV8 dc8 pm8 cd8 ct8 oc9 kV9 dc9 pm9 cd9 ct9 oc10 kV10 dc10 pm10 cd10 ct10 oc11 kV11 dc11 pm11 cd11 ct11 oc12 kV12 dc12 pm12 cd12 ct12 oc13 kV13 dc13 pm13 cd13 ct13 oc14 kV14 dc14 pm14 cd14 ct14 : Value}
    (a0 : PySem.W.nsIn K mainGlobals "is_whole" = some (some (.ref f0))) (l0 : K.lookup f0 = some ⟨oc0, od0, .func (PySem.W.fnOf "is_whole" "is_whole" (defArgs s_is_whole) (defBody s_is_whole) (defScope s_is_whole) .none kV0 dc0 pm0 an0 cd0 ct0), sl0⟩) (c0 : PySem.W.codeIn K cd0 "is_whole" = true) (k0 : PySem.W.keepIn K (.ref f0) = true)
    (a1 : PySem.W.nsIn K mainGlobals "is_name" = some (some (.ref f1))) (l1 : K.lookup f1 = some ⟨oc1, od1, .func (PySem.W.fnOf "is_name" "is_name" (defArgs s_is_name) (defBody s_is_name) (defScope s_is_name) .none kV1 dc1 pm1 an1 cd1 ct1), sl1⟩) (c1 : PySem.W.codeIn K cd1 "is_name" = true) (k1 : PySem.W.keepIn K (.ref f1) = true)
    (a2 : PySem.W.nsIn K mainGlobals "plain_number" = some (some (.ref f2))) (l2 : K.lookup f2 = some ⟨oc2, od2, .func (PySem.W.fnOf "plain_number" "plain_number" (defArgs s_plain_number) (defBody s_plain_number) (defScope s_plain_number) .none kV2 dc2 pm2 an2 cd2 ct2), sl2⟩) (c2 : PySem.W.codeIn K cd2 "plain_number" = true) (k2 : PySem.W.keepIn K (.ref f2) = true)
    (a3 : PySem.W.nsIn K mainGlobals "is_word" = some (some (.ref f3))) (l3 : K.lookup f3 = some ⟨oc3, od3, .func (PySem.W.fnOf "is_word" "is_word" (defArgs s_is_word) (defBody s_is_word) (defScope s_is_word) .none kV3 dc3 pm3 an3 cd3 ct3), sl3⟩) (c3 : PySem.W.codeIn K cd3 "is_word" = true) (k3 : PySem.W.keepIn K (.ref f3) = true)
    (a4 : PySem.W.nsIn K mainGlobals "read_call" = some (some (.ref f4))) (l4 : K.lookup f4 = some ⟨oc4, od4, .func (PySem.W.fnOf "read_call" "read_call" (defArgs s_read_call) (defBody s_read_call) (defScope s_read_call) .none kV4 dc4 pm4 an4 cd4 ct4), sl4⟩) (c4 : PySem.W.codeIn K cd4 "read_call" = true) (k4 : PySem.W.keepIn K (.ref f4) = true)
    (a5 : PySem.W.nsIn K mainGlobals "_law_bag" = some (some (.ref f5))) (l5 : K.lookup f5 = some ⟨oc5, od5, .func (PySem.W.fnOf "_law_bag" "_law_bag" (defArgs s__law_bag) (defBody s__law_bag) (defScope s__law_bag) .none kV5 dc5 pm5 an5 cd5 ct5), sl5⟩) (c5 : PySem.W.codeIn K cd5 "_law_bag" = true) (k5 : PySem.W.keepIn K (.ref f5) = true)
    (a6 : PySem.W.nsIn K mainGlobals "_law_take" = some (some (.ref f6))) (l6 : K.lookup f6 = some ⟨oc6, od6, .func (PySem.W.fnOf "_law_take" "_law_take" (defArgs s__law_take) (defBody s__law_take) (defScope s__law_take) .none kV6 dc6 pm6 an6 cd6 ct6), sl6⟩) (c6 : PySem.W.codeIn K cd6 "_law_take" = true) (k6 : PySem.W.keepIn K (.ref f6) = true)
    (a7 : PySem.W.nsIn K mainGlobals "_law_plain" = some (some (.ref f7))) (l7 : K.lookup f7 = some ⟨oc7, od7, .func (PySem.W.fnOf "_law_plain" "_law_plain" (defArgs s__law_plain) (defBody s__law_plain) (defScope s__law_plain) .none kV7 dc7 pm7 an7 cd7 ct7), sl7⟩) (c7 : PySem.W.codeIn K cd7 "_law_plain" = true) (k7 : PySem.W.keepIn K (.ref f7) = true)
    (a8 : PySem.W.nsIn K mainGlobals "_law_read" = some (some (.ref f8))) (l8 : K.lookup f8 = some ⟨oc8, od8, .func (PySem.W.fnOf "_law_read" "_law_read" (defArgs s__law_read) (defBody s__law_read) (defScope s__law_read) .none kV8 dc8 pm8 an8 cd8 ct8), sl8⟩) (c8 : PySem.W.codeIn K cd8 "_law_read" = true) (k8 : PySem.W.keepIn K (.ref f8) = true)
    (a9 : PySem.W.nsIn K mainGlobals "_law_words" = some (some (.ref f9))) (l9 : K.lookup f9 = some ⟨oc9, od9, .func (PySem.W.fnOf "_law_words" "_law_words" (defArgs s__law_words) (defBody s__law_words) (defScope s__law_words) .none kV9 dc9 pm9 an9 cd9 ct9), sl9⟩) (c9 : PySem.W.codeIn K cd9 "_law_words" = true) (k9 : PySem.W.keepIn K (.ref f9) = true)
    (a10 : PySem.W.nsIn K mainGlobals "_law_text" = some (some (.ref f10))) (l10 : K.lookup f10 = some ⟨oc10, od10, .func (PySem.W.fnOf "_law_text" "_law_text" (defArgs s__law_text) (defBody s__law_text) (defScope s__law_text) .none kV10 dc10 pm10 an10 cd10 ct10), sl10⟩) (c10 : PySem.W.codeIn K cd10 "_law_text" = true) (k10 : PySem.W.keepIn K (.ref f10) = true)
    (a11 : PySem.W.nsIn K mainGlobals "_law_told" = some (some (.ref f11))) (l11 : K.lookup f11 = some ⟨oc11, od11, .func (PySem.W.fnOf "_law_told" "_law_told" (defArgs s__law_told) (defBody s__law_told) (defScope s__law_told) .none kV11 dc11 pm11 an11 cd11 ct11), sl11⟩) (c11 : PySem.W.codeIn K cd11 "_law_told" = true) (k11 : PySem.W.keepIn K (.ref f11) = true)
    (a12 : PySem.W.nsIn K mainGlobals "_law_like" = some (some (.ref f12))) (l12 : K.lookup f12 = some ⟨oc12, od12, .func (PySem.W.fnOf "_law_like" "_law_like" (defArgs s__law_like) (defBody s__law_like) (defScope s__law_like) .none kV12 dc12 pm12 an12 cd12 ct12), sl12⟩) (c12 : PySem.W.codeIn K cd12 "_law_like" = true) (k12 : PySem.W.keepIn K (.ref f12) = true)
    (a13 : PySem.W.nsIn K mainGlobals "_law_spoilt" = some (some (.ref f13))) (l13 : K.lookup f13 = some ⟨oc13, od13, .func (PySem.W.fnOf "_law_spoilt" "_law_spoilt" (defArgs s__law_spoilt) (defBody s__law_spoilt) (defScope s__law_spoilt) .none kV13 dc13 pm13 an13 cd13 ct13), sl13⟩) (c13 : PySem.W.codeIn K cd13 "_law_spoilt" = true) (k13 : PySem.W.keepIn K (.ref f13) = true)
    (a14 : PySem.W.nsIn K mainGlobals "law" = some (some (.ref f14))) (l14 : K.lookup f14 = some ⟨oc14, od14, .func (PySem.W.fnOf "law" "law" (defArgs s_law) (defBody s_law) (defScope s_law) .none kV14 dc14 pm14 an14 cd14 ct14), sl14⟩) (c14 : PySem.W.codeIn K cd14 "law" = true) (k14 : PySem.W.keepIn K (.ref f14) = true)
    (z0 : PySem.W.nsIn K mainGlobals "ValueError" = some none)
    (z1 : PySem.W.nsIn K mainGlobals "abs" = some none)
    (z2 : PySem.W.nsIn K mainGlobals "all" = some none)
    (z3 : PySem.W.nsIn K mainGlobals "bool" = some none)
    (z4 : PySem.W.nsIn K mainGlobals "enumerate" = some none)
    (z5 : PySem.W.nsIn K mainGlobals "int" = some none)
    (z6 : PySem.W.nsIn K mainGlobals "isinstance" = some none)
    (z7 : PySem.W.nsIn K mainGlobals "len" = some none)
    (z8 : PySem.W.nsIn K mainGlobals "list" = some none)
    (z9 : PySem.W.nsIn K mainGlobals "max" = some none)
    (z10 : PySem.W.nsIn K mainGlobals "min" = some none)
    (z11 : PySem.W.nsIn K mainGlobals "range" = some none)
    (z12 : PySem.W.nsIn K mainGlobals "str" = some none)
    (z13 : PySem.W.nsIn K mainGlobals "tuple" = some none)
    (z14 : PySem.W.nsIn K mainGlobals "zip" = some none)
    {gt0 : Tok} (lit0 : PySem.W.nsIn K mainGlobals "FIGURES" = some (some (.str (PySem.Str.ofString "0123456789") gt0)))
    {gt1 : Tok} (lit1 : PySem.W.nsIn K mainGlobals "LETTERS" = some (some (.str (PySem.Str.ofString "abcdefghijklmnopqrstuvwxyz") gt1)))
    {gt2 : Tok} (lit2 : PySem.W.nsIn K mainGlobals "MOST_FIGURES" = some (some (.int 10 gt2)))
    {gt3 : Tok} (lit3 : PySem.W.nsIn K mainGlobals "MOST_LETTERS" = some (some (.int 8 gt3)))
    {gt4 : Tok} (lit4 : PySem.W.nsIn K mainGlobals "MOST_PUMPS" = some (some (.int 20 gt4)))
    {kd0 : Addr} (ka0 : PySem.W.nsIn K mainGlobals "DUE" = some (some (.ref kd0))) (kb0 : He.dicW K kd0 = some (He.keysIn w.params K_DUE))
    {xC0 : Addr} (xa0 : PySem.W.nsIn K mainGlobals "BadText" = some (some (.ref xC0)))
    {xnm0 xq0 : Str} {xN0 : Addr} {xbs0 : List Value} {xsn0 : List Str} {xsub0 : List Value} {xab0 : Bool} {xco0 : Option Bool} {xdd0 : Option Addr} {xm00 xm10 xm20 xm30 xm50 : Option Value} {xf0 : Addr} {xan0 xod0 : Option Addr} {xsl0 : Array (Option Value)} {xoc0 xkV0 xdc0 xpm0 xcd0 xct0 : Value}
    (xL0 : K.lookup xC0 = some (excClassObj xnm0 xq0 xC0 xN0 xbs0 tl_ValueError true xsn0 xsub0 xab0 xco0 xdd0 xm00 xm10 xm20 xm30 xm50 "ValueError.__new__"))
    (xsa0 : PySem.W.findIn K (.ref xC0) "__setattr__" = some (some (.builtin "object.__setattr__")))
    (xi0 : PySem.W.findIn K (.ref xC0) "__init__" = some (some (.ref xf0)))
    (xt0 : PySem.W.typeIn K (.ref xf0) = some (.type "function"))
    (xl0 : K.lookup xf0 = some ⟨xoc0, xod0, .func (PySem.W.fnOf "__init__" "BadText.__init__" (defArgs s_BadText_init) (defBody s_BadText_init) (defScope s_BadText_init) .none xkV0 xdc0 xpm0 xan0 xcd0 xct0), xsl0⟩)
    (xc0 : PySem.W.codeIn K xcd0 "BadText.__init__" = true)
    (xkf0 : PySem.W.keepIn K (.ref xf0) = true)
    (xn0_0 : PySem.W.findIn K (.ref xC0) "at" = some none)
    (xv0 : PySem.W.findCls K (.type "ValueError") (.type "type") "__init__" = some (.val (.builtin "ValueError.__init__")))
    (xk0 : PySem.W.keepIn K (.ref xC0) = true)
    (xex0 : PySem.W.subIn K (.ref xC0) (.type "BaseException") = some true)
    (xty0 : PySem.W.typeIn K (.ref xC0) = some (.type "type"))
    (xhd0 : PySem.W.hasDictIn K xC0 = true)
    (xss0 : PySem.W.subIn K (.ref xC0) (.ref xC0) = some true)
    (xga0 : PySem.W.findIn K (.ref xC0) "__getattribute__" = some (some (.builtin "BaseException.__getattribute__")))
    (xgg0 : PySem.W.findIn K (.ref xC0) "__getattr__" = some none)
    (xcl0 : PySem.W.findIn K (.ref xC0) "__class__" = some (some (.builtin "object.__class__")))
    (xge0 : PySem.W.specialIn K (.builtin "object.__class__") "__get__" = some (some (.builtin "getset_descriptor.__get__")))
    (xtk0 : PySem.W.takesIn K (.builtin "object.__class__") = some true)
    (xmo0 : PySem.W.mroIn K xC0 (.type "object") = some true)
    {yC0 : Addr} (ya0 : PySem.W.nsIn K mainGlobals "BadTime" = some (some (.ref yC0)))
    {yC1 : Addr} (ya1 : PySem.W.nsIn K mainGlobals "NoDeed" = some (some (.ref yC1)))
    {yC2 : Addr} (ya2 : PySem.W.nsIn K mainGlobals "NoGround" = some (some (.ref yC2)))
    {yC3 : Addr} (ya3 : PySem.W.nsIn K mainGlobals "NoSaying" = some (some (.ref yC3)))
    {yC4 : Addr} (ya4 : PySem.W.nsIn K mainGlobals "NoText" = some (some (.ref yC4)))
    (ki0 : PySem.W.kitOne K (.ref xC0) (.type "ValueError") = some true)
    (ki1 : PySem.W.kitAny K (.ref xC0) [.ref yC4, .ref yC3, .ref yC0, .ref yC1, .ref yC2] = some false)
    {k : Nat} (ok : ∀ (T : Tx w K mg) (base : Heap), FnOk l.prog w K mg base (L2.CX l.prog w) k T.f_law.f T.f_law.fd ["_law_script"] (toSp K spLaw)) :
    ∃ fd : FuncData, (∀ (s : Shared) (v : Value), BindsTo s fd ⟨[v], []⟩ [("_law_script", v)]) ∧ ∀ base : Heap, K.In base → base.Ns mainGlobals mg → FnOk l.prog w K mg base (L2.CX l.prog w) k fa fd ["_law_script"] (toSp K spLaw) := by
  have e : fa = f14 := by
    have e := hfa.symm.trans (PySem.W.mg_of X G a14)
    cases e; rfl
  rw [e]
  refine ⟨_, fun s v => ?_, fun base _ _ => ok {
    f_is_whole := ⟨f0, _, PySem.W.mg_of X G a0, fun_mk (st := s_is_whole) l0 c0 k0, (fun_mk (st := s_is_whole) l0 c0 k0).binds (ps := ["thing", "low", "high"]) fun _ _ _ _ _ _ us hl => match us, hl with | [_, _, _], _ => rfl⟩,
    f_is_name := ⟨f1, _, PySem.W.mg_of X G a1, fun_mk (st := s_is_name) l1 c1 k1, (fun_mk (st := s_is_name) l1 c1 k1).binds (ps := ["thing"]) fun _ _ _ _ _ _ us hl => match us, hl with | [_], _ => rfl⟩,
    f_plain_number := ⟨f2, _, PySem.W.mg_of X G a2, fun_mk (st := s_plain_number) l2 c2 k2, (fun_mk (st := s_plain_number) l2 c2 k2).binds (ps := ["word"]) fun _ _ _ _ _ _ us hl => match us, hl with | [_], _ => rfl⟩,
    f_is_word := ⟨f3, _, PySem.W.mg_of X G a3, fun_mk (st := s_is_word) l3 c3 k3, (fun_mk (st := s_is_word) l3 c3 k3).binds (ps := ["words", "at"]) fun _ _ _ _ _ _ us hl => match us, hl with | [_, _], _ => rfl⟩,
    f_read_call := ⟨f4, _, PySem.W.mg_of X G a4, fun_mk (st := s_read_call) l4 c4 k4, (fun_mk (st := s_read_call) l4 c4 k4).binds (ps := ["text"]) fun _ _ _ _ _ _ us hl => match us, hl with | [_], _ => rfl⟩,
    f__law_bag := ⟨f5, _, PySem.W.mg_of X G a5, fun_mk (st := s__law_bag) l5 c5 k5, (fun_mk (st := s__law_bag) l5 c5 k5).binds (ps := ["_law_script", "_law_at"]) fun _ _ _ _ _ _ us hl => match us, hl with | [_, _], _ => rfl⟩,
    f__law_take := ⟨f6, _, PySem.W.mg_of X G a6, fun_mk (st := s__law_take) l6 c6 k6, (fun_mk (st := s__law_take) l6 c6 k6).binds (ps := ["_law_bag_here", "_law_many"]) fun _ _ _ _ _ _ us hl => match us, hl with | [_, _], _ => rfl⟩,
    f__law_plain := ⟨f7, _, PySem.W.mg_of X G a7, fun_mk (st := s__law_plain) l7 c7 k7, (fun_mk (st := s__law_plain) l7 c7 k7).binds (ps := ["_law_word"]) fun _ _ _ _ _ _ us hl => match us, hl with | [_], _ => rfl⟩,
    f__law_read := ⟨f8, _, PySem.W.mg_of X G a8, fun_mk (st := s__law_read) l8 c8 k8, (fun_mk (st := s__law_read) l8 c8 k8).binds (ps := ["_law_text_here"]) fun _ _ _ _ _ _ us hl => match us, hl with | [_], _ => rfl⟩,
    f__law_words := ⟨f9, _, PySem.W.mg_of X G a9, fun_mk (st := s__law_words) l9 c9 k9, (fun_mk (st := s__law_words) l9 c9 k9).binds (ps := ["_law_bag_here"]) fun _ _ _ _ _ _ us hl => match us, hl with | [_], _ => rfl⟩,
    f__law_text := ⟨f10, _, PySem.W.mg_of X G a10, fun_mk (st := s__law_text) l10 c10 k10, (fun_mk (st := s__law_text) l10 c10 k10).binds (ps := ["_law_bag_here", "_law_words_here"]) fun _ _ _ _ _ _ us hl => match us, hl with | [_, _], _ => rfl⟩,
    f__law_told := ⟨f11, _, PySem.W.mg_of X G a11, fun_mk (st := s__law_told) l11 c11 k11, (fun_mk (st := s__law_told) l11 c11 k11).binds (ps := ["_law_thing"]) fun _ _ _ _ _ _ us hl => match us, hl with | [_], _ => rfl⟩,
    f__law_like := ⟨f12, _, PySem.W.mg_of X G a12, fun_mk (st := s__law_like) l12 c12 k12, (fun_mk (st := s__law_like) l12 c12 k12).binds (ps := ["_law_told_here", "_law_due"]) fun _ _ _ _ _ _ us hl => match us, hl with | [_, _], _ => rfl⟩,
    f__law_spoilt := ⟨f13, _, PySem.W.mg_of X G a13, fun_mk (st := s__law_spoilt) l13 c13 k13, (fun_mk (st := s__law_spoilt) l13 c13 k13).binds (ps := ["_law_bag_here", "_law_text_here"]) fun _ _ _ _ _ _ us hl => match us, hl with | [_, _], _ => rfl⟩,
    f_law := ⟨f14, _, PySem.W.mg_of X G a14, fun_mk (st := s_law) l14 c14 k14, (fun_mk (st := s_law) l14 c14 k14).binds (ps := ["_law_script"]) fun _ _ _ _ _ _ us hl => match us, hl with | [_], _ => rfl⟩,
    n_ValueError := PySem.W.mg_none_of X G z0,
    n_abs := PySem.W.mg_none_of X G z1,
    n_all := PySem.W.mg_none_of X G z2,
    n_bool := PySem.W.mg_none_of X G z3,
    n_enumerate := PySem.W.mg_none_of X G z4,
    n_int := PySem.W.mg_none_of X G z5,
    n_isinstance := PySem.W.mg_none_of X G z6,
    n_len := PySem.W.mg_none_of X G z7,
    n_list := PySem.W.mg_none_of X G z8,
    n_max := PySem.W.mg_none_of X G z9,
    n_min := PySem.W.mg_none_of X G z10,
    n_range := PySem.W.mg_none_of X G z11,
    n_str := PySem.W.mg_none_of X G z12,
    n_tuple := PySem.W.mg_none_of X G z13,
    n_zip := PySem.W.mg_none_of X G z14,
    g_FIGURES := ⟨gt0, PySem.W.mg_of X G lit0⟩,
    g_LETTERS := ⟨gt1, PySem.W.mg_of X G lit1⟩,
    g_MOST_FIGURES := ⟨gt2, PySem.W.mg_of X G lit2⟩,
    g_MOST_LETTERS := ⟨gt3, PySem.W.mg_of X G lit3⟩,
    g_MOST_PUMPS := ⟨gt4, PySem.W.mg_of X G lit4⟩,
    k_DUE := ⟨kd0, PySem.W.mg_of X G ka0, kb0⟩,
    c_BadText := ⟨xC0, xf0, _, PySem.W.mg_of X G xa0, ⟨⟨xnm0, xq0, xN0, xbs0, _, xsn0, xsub0, xab0, xco0, xdd0, xm00, xm10, xm20, xm30, xm50, xL0, by decide +kernel⟩, xsa0, xex0, xty0, xk0⟩, xi0, xt0, (fun_mk (st := s_BadText_init) xl0 xc0 xkf0), (fun_mk (st := s_BadText_init) xl0 xc0 xkf0).binds (ps := ["self", "at"]) fun _ _ _ _ _ _ us hl => match us, hl with | [_, _], _ => rfl, List.forall_mem_cons.mpr ⟨xn0_0, List.forall_mem_nil _⟩, xhd0, (PySem.W.exm_ref xex0 xhd0 xty0 xss0), xv0, ⟨clsIn_some xhd0, xga0, xgg0, xex0, xcl0, xge0, xtk0, xmo0⟩⟩,
    c_BadTime := ⟨yC0, PySem.W.mg_of X G ya0⟩,
    c_NoDeed := ⟨yC1, PySem.W.mg_of X G ya1⟩,
    c_NoGround := ⟨yC2, PySem.W.mg_of X G ya2⟩,
    c_NoSaying := ⟨yC3, PySem.W.mg_of X G ya3⟩,
    c_NoText := ⟨yC4, PySem.W.mg_of X G ya4⟩,
    i_0 := ki0,
    i_1 := ki1 } base⟩
  exact .of_eq rfl
end K21

/-! K21p: what the defs tell. -/
namespace K21
open PySem L2 DL Tx20 Tx21
def LET : Str := lit "abcdefghijklmnopqrstuvwxyz"
def FIG : Str := lit "0123456789"
theorem si_ : isiB "str" "int" = some false := by decide +kernel
theorem ss_ : isiB "str" "str" = some true := by decide +kernel
theorem ns_ : isiB "NoneType" "str" = some false := by decide +kernel
theorem bs_ : isiB "bool" "str" = some false := by decide +kernel
theorem is_ : isiB "int" "str" = some false := by decide +kernel
theorem ts_ : isiB "tuple" "str" = some false := by decide +kernel
theorem ls_ : isiB "list" "str" = some false := by decide +kernel
theorem in_str {neg : Bool} {c z : Str} {M : Mst} {Q : DK} : dIn neg (.str c) (.str z) M Q = Q (.bl (xor neg (inS c z))) M := rfl
theorem len_str {z : Str} {M : Mst} {Q : DK} : dLen [.str z] M Q = Q (.int z.length) M := by simp [dLen]
theorem add_str {m : Bool} {x y : Str} {M : Mst} {Q : DK} : dAdd m (.str x) (.str y) M Q = (x.length + y.length ≤ 100000 ∧ Q (.str (x ++ y)) M) := rfl
/-- [sign in S for sign in z] -/
def inD (S : Str) : D → Option D
  | .str y => some (.bl (inS y S))
  | _ => none
theorem comp_in {a b : Nat} {p : Rho} {z S : Str} {M : Mst} {Q : DK} {DW : DWt} (ha : p[a]? = some (some (.str z))) (hb : b < p.length) (hz : z.length ≤ 100000) (h : Q (.lst ((z.cps.toList.map fun c => inS (one c) S).map .bl)) M) :
    qLc false (qiAny (qVar a)) (gNameD b) qYes (qOp (dIn false) (qVar b) (qC (.str S))) [b] DW p M Q := by
  simp only [qLc, qiAny, qVar, ha]
  intro c hc
  refine compL_map hc (inD S) (fun _ => trivial) (by unfold signs; rw [List.length_map, Array.length_toList]; exact hz) (fun d hd acc R hR => ?_) ?_
  · unfold signs at hd
    obtain ⟨c, _, rfl⟩ := List.mem_map.mp hd
    have e1 : ((wipeD p [b]).set b (some (.str (one c))))[b]? = some (some (.str (one c))) := by
      rw [List.getElem?_set_self]; simp [wipeD]; exact hb
    simp only [gNameD, qYes, qOp, qVar, qC, if_true, e1]
    show dIn false (.str (one c)) (.str S) _ _
    rw [in_str]
    simpa [inD] using hR
  · simp only [Bool.false_eq_true, if_false]
    have e : (signs z).filterMap (inD S) = (z.cps.toList.map fun c => inS (one c) S).map D.bl := by
      unfold signs
      induction z.cps.toList with
      | nil => rfl
      | cons c r ih => simp only [List.map_cons, List.filterMap_cons, inD, ih]
    rw [e]; exact h
theorem in_let : ∀ c, c < 127 → inS (one c) LET = (decide (97 ≤ c) && decide (c ≤ 122)) := by decide +kernel
theorem in_fig : ∀ c, c < 127 → inS (one c) FIG = (decide (48 ≤ c) && decide (c ≤ 57)) := by decide +kernel
def letB (z : Str) : Bool := z.cps.toList.all fun c => decide (97 ≤ c) && decide (c ≤ 122)
def figB (z : Str) : Bool := z.cps.toList.all fun c => decide (48 ≤ c) && decide (c ≤ 57)
theorem lets_all {z : Str} (h : Pr z) : ((z.cps.toList.map fun c => inS (one c) LET).all id) = letB z := by
  unfold letB
  rw [List.all_map]
  have : ∀ l : List Nat, (∀ c ∈ l, 32 ≤ c ∧ c ≤ 126) → l.all (id ∘ fun c => inS (one c) LET) = l.all fun c => decide (97 ≤ c) && decide (c ≤ 122) := fun l => by
    induction l with
    | nil => intro _; rfl
    | cons c r ih =>
      intro h
      rw [List.all_cons, List.all_cons, ih fun d hd => h d (List.mem_cons_of_mem _ hd)]
      simp only [Function.comp, id]
      rw [in_let c (by have := h c (List.mem_cons_self ..); omega)]
  exact this _ h
theorem figs_all {z : Str} (h : Pr z) : ((z.cps.toList.map fun c => inS (one c) FIG).all id) = figB z := by
  unfold figB
  rw [List.all_map]
  have : ∀ l : List Nat, (∀ c ∈ l, 32 ≤ c ∧ c ≤ 126) → l.all (id ∘ fun c => inS (one c) FIG) = l.all fun c => decide (48 ≤ c) && decide (c ≤ 57) := fun l => by
    induction l with
    | nil => intro _; rfl
    | cons c r ih =>
      intro h
      rw [List.all_cons, List.all_cons, ih fun d hd => h d (List.mem_cons_of_mem _ hd)]
      simp only [Function.comp, id]
      rw [in_fig c (by have := h c (List.mem_cons_self ..); omega)]
  exact this _ h
/-! ### the program's defs -/
def spIsWhole : DSp := fun ds M Q _ => ∃ i lo hi : Int, ds = [.int i, .int lo, .int hi] ∧ Q (.bl (decide (lo ≤ i) && decide (i ≤ hi))) M
theorem whole_ok (ds : List D) (M : Mst) (Q : DK) (Ed : DX → Mst → Prop) (h : upSp spIsWhole ds M Q Ed) : q_is_whole (fun x _ M => Ed x M) (retE Q) (startD N_is_whole ds) M := by
  obtain ⟨Q0, E0, ⟨i, lo, hi, rfl, k0⟩, kq, _⟩ := h
  have k : Q (.bl (decide (lo ≤ i) && decide (i ≤ hi))) M := kq _ _ _ (Sub.refl _) k0
  show q_is_whole _ _ [some (.int i), some (.int lo), some (.int hi)] M
  simp only [q_is_whole, qAndV, qNotV, qSeq, qAsg, qTup, qCons, qNil, qOp, qUn, qC, qCall, qVar, qLst, newL_f, qIfS, qTB, qNext, qRet, qDrop, qFor, qCB, qAug, qSl, qPart, qNoPart, gNameD, gSub_eq, dInt_i, dInt0_i, dAdd_i, dCmpI_i, List.set_cons_zero, List.set_cons_succ, List.getElem?_cons_zero, List.getElem?_cons_succ, List.append_nil]
  rw [isi_one (x := .int i) (M := M) rfl ii]
  simp only [if_true]
  rw [isi_one (x := .int i) (M := M) rfl ib]
  simp only [Bool.not_false, if_true, qChain, qSeq, qAsg, qTup, qCons, qNil, qOp, qUn, qC, qCall, qVar, qLst, newL_f, qIfS, qTB, qNext, qRet, qDrop, qFor, qCB, qAug, qSl, qPart, qNoPart, gNameD, gSub_eq, dInt_i, dInt0_i, dAdd_i, dCmpI_i, List.set_cons_zero, List.set_cons_succ, List.getElem?_cons_zero, List.getElem?_cons_succ, List.append_nil]
  cases h : decide (lo ≤ i) with
  | true => rw [h] at k; simp only [if_true]; simpa using k
  | false => rw [h] at k; simp only [Bool.false_eq_true, if_false]; simpa using k
def nameB (z : Str) : Bool := (decide (1 ≤ z.length) && decide (z.length ≤ 8)) && letB z
theorem chain_len {lo hi : Nat} {z : Str} {M : Mst} {Q : DK} : dCmpI (fun i j => decide (i ≤ j)) (.int (lo : Int)) (.int (z.length : Int)) M (fun z_1 M3 => match z_1 with
    | .bl k => if k = true then dCmpI (fun i j => decide (i ≤ j)) (.int (z.length : Int)) (.int (hi : Int)) M3 Q else Q (.bl false) M3
    | _ => False) = Q (.bl (decide (lo ≤ z.length) && decide (z.length ≤ hi))) M := by
  have e1 : decide ((lo : Int) ≤ (z.length : Int)) = decide (lo ≤ z.length) := decide_eq_decide.mpr (by omega)
  have e2 : decide ((z.length : Int) ≤ (hi : Int)) = decide (z.length ≤ hi) := decide_eq_decide.mpr (by omega)
  simp only [dCmpI_i, e1, e2]
  cases decide (lo ≤ z.length) <;> simp
def spIsName : DSp := fun ds M Q _ => ∃ z : Str, ds = [.str z] ∧ Pr z ∧ z.length ≤ 100000 ∧ Q (.bl (nameB z)) M
theorem name_ok (ds : List D) (M : Mst) (Q : DK) (Ed : DX → Mst → Prop) (h : upSp spIsName ds M Q Ed) : q_is_name (fun x _ M => Ed x M) (retE Q) (startD N_is_name ds) M := by
  obtain ⟨Q0, E0, ⟨z, rfl, P, l, k0⟩, kq, _⟩ := h
  have k : Q (.bl (nameB z)) M := kq _ _ _ (Sub.refl _) k0
  show q_is_name _ _ [some (.str z), none] M
  simp only [q_is_name, qOr, qNot, qChain, qSeq, qAsg, qTup, qCons, qNil, qOp, qUn, qC, qCall, qVar, qLst, newL_f, qIfS, qTB, qNext, qRet, qDrop, qFor, qCB, qAug, qSl, qPart, qNoPart, gNameD, gSub_eq, dInt_i, dInt0_i, dAdd_i, dCmpI_i, List.set_cons_zero, List.set_cons_succ, List.getElem?_cons_zero, List.getElem?_cons_succ, List.append_nil]
  rw [isi_one (x := .str z) (M := M) rfl ss_]
  simp only [Bool.not_true, Bool.false_eq_true, if_false, len_str]
  refine (chain_len (lo := 1) (hi := 8)).mpr ?_
  unfold nameB at k
  cases hc : decide (1 ≤ z.length) && decide (z.length ≤ 8) with
  | false =>
    rw [hc] at k
    simp only [Bool.not_false, if_true]
    exact k
  | true =>
    rw [hc] at k
    simp only [Bool.not_true, Bool.false_eq_true, if_false]
    refine comp_in (z := z) rfl (by simp) l ?_
    rw [all_bls]
    show Q (.bl ((z.cps.toList.map fun c => inS (one c) LET).all id)) M
    rw [lets_all P]
    exact k
def zeroB (z : Str) : Bool := decide (z.cps.toList.head? = some 48) && decide (z ≠ lit "0")
def plainO (z : Str) : Option Int := if (decide (1 ≤ z.length) && decide (z.length ≤ 10)) && figB z then (if zeroB z = true then none else intText? z) else none
def plainN (z : Str) : Int := (plainO z).getD (-1)
theorem first_is {z : Str} (h : 1 ≤ z.length) {M : Mst} {Q : DK} : dIx (.str z) (.int 0) M Q = Q (.str (one (z.cps.toList.headD 0))) M := by
  cases hz : z.cps.toList with
  | nil =>
    have h3 : z.cps.toList.length = 0 := by rw [hz]; rfl
    rw [Array.length_toList] at h3
    have h4 : z.length = z.cps.size := rfl
    omega
  | cons c r =>
    unfold dIx
    simp only [dgetD, res_str, hz, atI_0, List.headD_cons]
theorem one_zero (c : Nat) : decide (one c = lit "0") = decide (c = 48) := by
  apply decide_eq_decide.mpr
  have e : lit "0" = one 48 := by decide +kernel
  rw [e]
  exact ⟨fun h => by have := congrArg Str.cps h; simpa using this, fun h => by rw [h]⟩
theorem head_is {z : Str} (h : 1 ≤ z.length) : decide (z.cps.toList.headD 0 = 48) = decide (z.cps.toList.head? = some 48) := by
  cases hz : z.cps.toList with
  | nil =>
    have h3 : z.cps.toList.length = 0 := by rw [hz]; rfl
    rw [Array.length_toList] at h3
    have h4 : z.length = z.cps.size := rfl
    omega
  | cons c r => simp
theorem fig_gives {z : Str} (h1 : (decide (1 ≤ z.length) && decide (z.length ≤ 10)) = true) (h2 : figB z = true) : ∃ n : Int, intText? z = some n := by
  rw [Bool.and_eq_true, decide_eq_true_eq, decide_eq_true_eq] at h1
  unfold figB at h2
  rw [List.all_eq_true] at h2
  exact figs_num (fun c hc => by have := h2 c hc; rw [Bool.and_eq_true, decide_eq_true_eq, decide_eq_true_eq] at this; exact this) h1.1 (by omega)
def spPlain : DSp := fun ds M Q _ => ∃ z : Str, ds = [.str z] ∧ Pr z ∧ z.length ≤ 100000 ∧ Q (.int (plainN z)) M
theorem plain_ok (ds : List D) (M : Mst) (Q : DK) (Ed : DX → Mst → Prop) (h : upSp spPlain ds M Q Ed) : q_plain_number (fun x _ M => Ed x M) (retE Q) (startD N_plain_number ds) M := by
  obtain ⟨Q0, E0, ⟨z, rfl, P, l, k0⟩, kq, _⟩ := h
  have k : Q (.int (plainN z)) M := kq _ _ _ (Sub.refl _) k0
  show q_plain_number _ _ [some (.str z), none] M
  simp only [q_plain_number, qOr, qNot, qChain, qSeq, qAsg, qTup, qCons, qNil, qOp, qUn, qC, qCall, qVar, qLst, newL_f, qIfS, qTB, qNext, qRet, qDrop, qFor, qCB, qAug, qSl, qPart, qNoPart, gNameD, gSub_eq, dInt_i, dInt0_i, dAdd_i, dCmpI_i, List.set_cons_zero, List.set_cons_succ, List.getElem?_cons_zero, List.getElem?_cons_succ, List.append_nil]
  simp only [len_str]
  refine (chain_len (lo := 1) (hi := 10)).mpr ?_
  unfold plainN plainO at k
  cases hc : decide (1 ≤ z.length) && decide (z.length ≤ 10) with
  | false =>
    rw [hc] at k
    simp only [Bool.not_false, if_true]
    exact k
  | true =>
    rw [hc] at k
    simp only [Bool.not_true, Bool.false_eq_true, if_false]
    refine comp_in (z := z) rfl (by simp) l ?_
    have hF : (List.map (fun c => inS (one c) (PySem.Str.ofString "0123456789")) z.cps.toList).all id = figB z := figs_all P
    rw [all_bls, hF]
    cases hf : figB z with
    | false =>
      rw [hf] at k
      simp only [Bool.not_false, if_true]
      exact k
    | true =>
      rw [hf] at k
      obtain ⟨n, hn⟩ := fig_gives hc hf
      have hc' := hc
      rw [Bool.and_eq_true, decide_eq_true_eq, decide_eq_true_eq] at hc'
      simp only [Bool.not_true, Bool.false_eq_true, if_false, qAnd, qSeq, qAsg, qTup, qCons, qNil, qOp, qUn, qC, qCall, qVar, qLst, newL_f, qIfS, qTB, qNext, qRet, qDrop, qFor, qCB, qAug, qSl, qPart, qNoPart, gNameD, gSub_eq, dInt_i, dInt0_i, dAdd_i, dCmpI_i, List.set_cons_zero, List.set_cons_succ, List.getElem?_cons_zero, List.getElem?_cons_succ, List.append_nil, first_is hc'.1]
      rw [eq_str, Bool.false_xor, one_zero, head_is hc'.1]
      unfold zeroB at k
      have fin : Q (.int n) M → dTen [.str z, .int 10] M Q := fun h => by
        simp only [dTen, res_str, hn]; exact ⟨by omega, h⟩
      cases h0 : decide (z.cps.toList.head? = some 48) with
      | false =>
        rw [h0] at k
        simp only [Bool.false_eq_true, if_false]
        refine fin ?_
        simpa [hn] using k
      | true =>
        rw [h0] at k
        simp only [if_true]
        rw [eq_str]
        cases hz : decide (z = lit "0") with
        | true =>
          have hz' : z = lit "0" := of_decide_eq_true hz
          have e : decide (z ≠ lit "0") = false := decide_eq_false (fun h => h hz')
          rw [e] at k
          simp only [Bool.xor_self, Bool.false_eq_true, if_false]
          refine fin ?_
          simpa [hn] using k
        | false =>
          have hz' : z ≠ lit "0" := of_decide_eq_false hz
          have e : decide (z ≠ lit "0") = true := decide_eq_true hz'
          rw [e] at k
          simp only [Bool.xor_false, if_true]
          show Q (.int (-1)) M
          simpa using k
def wordB (i : Nat) (w : Str) : Bool := match i with
  | 0 => decide (w ∈ K_DUE)
  | 1 => decide (w = lit "at")
  | 2 => nameB w
  | 3 => decide (w = lit "make")
  | 4 => decide (1 ≤ plainN w) && decide (plainN w ≤ 20)
  | _ => false
structure Ws (ws : List Str) : Prop where
  pr : ∀ w ∈ ws, Pr w ∧ 1 ≤ w.length ∧ w.length ≤ 100000
  few : ws.length ≤ 90000
def spIsWord : DSp := fun ds M Q _ => ∃ (ws : List Str) (i : Nat) (w : Str), ds = [stL ws, .int (i : Int)] ∧ Ws ws ∧ ws[i]? = some w ∧ Q (.bl (wordB i w)) M
theorem isword_ok (ds : List D) (M : Mst) (Q : DK) (Ed : DX → Mst → Prop) (h : upSp spIsWord ds M Q Ed) : q_is_word spIsName spIsWhole spPlain (fun x _ M => Ed x M) (retE Q) (startD N_is_word ds) M := by
  obtain ⟨Q0, E0, ⟨ws, i, w, rfl, W, hw, k0⟩, kq, _⟩ := h
  have k : Q (.bl (wordB i w)) M := kq _ _ _ (Sub.refl _) k0
  show q_is_word _ _ _ _ _ [some (stL ws), some (.int (i : Int)), none] M
  obtain ⟨P, _, l⟩ := W.pr w (List.mem_of_getElem? hw)
  have t0 : ∀ (M : Mst) (Q : DK), dEq false (.int (i : Int)) (.int 0) M Q = Q (.bl (decide (i = 0))) M := fun M Q => by rw [show (0 : Int) = ((0 : Nat) : Int) from rfl, eq_i, Bool.false_xor]
  have t1 : ∀ (M : Mst) (Q : DK), dEq false (.int (i : Int)) (.int 1) M Q = Q (.bl (decide (i = 1))) M := fun M Q => by rw [show (1 : Int) = ((1 : Nat) : Int) from rfl, eq_i, Bool.false_xor]
  have t2 : ∀ (M : Mst) (Q : DK), dEq false (.int (i : Int)) (.int 2) M Q = Q (.bl (decide (i = 2))) M := fun M Q => by rw [show (2 : Int) = ((2 : Nat) : Int) from rfl, eq_i, Bool.false_xor]
  have t4 : ∀ (M : Mst) (Q : DK), dEq false (.int (i : Int)) (.int 4) M Q = Q (.bl (decide (i = 4))) M := fun M Q => by rw [show (4 : Int) = ((4 : Nat) : Int) from rfl, eq_i, Bool.false_xor]
  simp only [q_is_word, qAndV, qIf, qSeq, qAsg, qTup, qCons, qNil, qOp, qUn, qC, qCall, qVar, qLst, newL_f, qIfS, qTB, qNext, qRet, qDrop, qFor, qCB, qAug, qSl, qPart, qNoPart, gNameD, gSub_eq, dInt_i, dInt0_i, dAdd_i, dCmpI_i, List.set_cons_zero, List.set_cons_succ, List.getElem?_cons_zero, List.getElem?_cons_succ, List.append_nil, ix_strs hw, t0, t1, t2, t4]
  have d_ : ∀ n, i ≠ n → decide (i = n) = false := fun n h => decide_eq_false h
  rcases (by omega : i = 0 ∨ i = 1 ∨ i = 2 ∨ i = 3 ∨ i = 4 ∨ 5 ≤ i) with h | h | h | h | h | h
  · subst h
    simp only [decide_true, if_true, dInK, res_str, Bool.false_xor]; exact k
  · subst h
    simp only [d_ 0 (by decide), d_ 2 (by decide), d_ 4 (by decide), decide_true, Bool.false_eq_true, if_false, if_true]
    rw [if_pos (by decide), eq_str, Bool.false_xor]; exact k
  · subst h
    simp only [d_ 0 (by decide), decide_true, Bool.false_eq_true, if_false, if_true]
    exact ⟨w, rfl, P, l, k⟩
  · subst h
    simp only [d_ 0 (by decide), d_ 1 (by decide), d_ 2 (by decide), d_ 4 (by decide), Bool.false_eq_true, if_false]
    rw [if_pos (by decide), eq_str, Bool.false_xor]; exact k
  · subst h
    simp only [d_ 0 (by decide), d_ 2 (by decide), decide_true, Bool.false_eq_true, if_false, if_true]
    exact ⟨w, rfl, P, l, _, 1, 20, rfl, k⟩
  · have lt : decide ((i : Int) < 4) = false := decide_eq_false (by omega)
    have e : wordB i w = false := by
      obtain ⟨j, rfl⟩ : ∃ j, i = j + 5 := ⟨i - 5, by omega⟩
      rfl
    rw [e] at k
    simp only [d_ 0 (by omega), d_ 2 (by omega), d_ 4 (by omega), lt, Bool.false_eq_true, if_false]
    exact k
/-- the first wrong word -/
def scanW : Nat → List Str → Option Nat
  | _, [] => none
  | i, w :: ws => if wordB i w = true then scanW (i + 1) ws else some i
theorem scan_step {ws : List Str} {i : Nat} {w : Str} (h : ws[i]? = some w) : scanW i (ws.drop i) = if wordB i w = true then scanW (i + 1) (ws.drop (i + 1)) else some i := by
  obtain ⟨hi, e⟩ := List.getElem?_eq_some_iff.mp h
  rw [List.drop_eq_getElem_cons hi, e]; rfl
def tripD (ws : List Str) (n : D) : D := .tup [.str (ws.getD 0 Str.empty), .str (ws.getD 2 Str.empty), n]
def numI (ws : List Str) : Int := if ws.length = 5 then plainN (ws.getD 4 Str.empty) else 0
def readR (ws : List Str) : D ⊕ Int := match scanW 0 ws with
  | some i => .inr i
  | none => if ws.length = 3 ∨ ws.length = 5 then .inl (tripD ws (.int (numI ws))) else .inr ws.length
/-- what a text's words are -/
def W (x : Str) : List Str := Txt.words (Txt.lower x)
theorem w_ok {x : Str} {n : Nat} (h : Tx_ n x) (hn : n ≤ 50000) : Ws (W x) ∧ ∀ w ∈ W x, okS w := by
  have l := low_len h.pr.asc
  have P := pr_low h.pr
  have hl := h.len
  refine ⟨⟨fun w hw => ?_, ?_⟩, fun w hw => ?_⟩
  · obtain ⟨a, b, c⟩ := words_wd P w hw
    exact ⟨a, b, by omega⟩
  · have := words_few P
    unfold W; omega
  · obtain ⟨a, b, c⟩ := words_wd P w hw
    exact pr_ok a (by omega)
def readV (x : D) : D ⊕ Int := match x with
  | .str z => readR (W z)
  | _ => .inr (-1)
def TxD (x : D) : Prop := plnD x = true ∧ ∀ z, x = .str z → Tx_ 50000 z
def spRead (c : Addr) : DSp := fun ds M Q E => ∃ x, ds = [x] ∧ TxD x ∧ (match readV x with
  | .inl d => Q d M
  | .inr i => E ⟨.ref c, [(lit "at", .int i)]⟩ M)
theorem get_d {ws : List Str} {i : Nat} (h : i < ws.length) : ws[i]? = some (ws.getD i Str.empty) := by
  rw [List.getD_eq_getElem?_getD, List.getElem?_eq_getElem h]; rfl
theorem read_ok (c : Addr) (ds : List D) (M : Mst) (Q : DK) (Ed : DX → Mst → Prop) (h : upSp (spRead c) ds M Q Ed) : q_read_call c spIsWord spPlain (fun x _ M => Ed x M) (retE Q) (startD N_read_call ds) M := by
  obtain ⟨Q0, E0, ⟨x, rfl, ⟨hp, hx⟩, k0⟩, kq, ke⟩ := h
  have k : match readV x with
    | .inl d => Q d M
    | .inr i => Ed ⟨.ref c, [(lit "at", .int i)]⟩ M := by
    generalize readV x = v at k0 ⊢
    cases v with
    | inl d => exact kq _ _ _ (Sub.refl _) k0
    | inr y => exact ke _ _ _ (Sub.refl _) k0
  clear k0 kq ke
  show q_read_call _ _ _ _ _ [some x, none, none] M
  simp only [q_read_call, qNot, qRaise, qSeq, qAsg, qTup, qCons, qNil, qOp, qUn, qC, qCall, qVar, qLst, newL_f, qIfS, qTB, qNext, qRet, qDrop, qFor, qCB, qAug, qSl, qPart, qNoPart, gNameD, gSub_eq, dInt_i, dInt0_i, dAdd_i, dCmpI_i, List.set_cons_zero, List.set_cons_succ, List.getElem?_cons_zero, List.getElem?_cons_succ, List.append_nil]
  have go : ∀ {T : String} {b : Bool} (R : DK), isiB (tyD x) T = some b → R (.bl b) M → dIsi [x, .ty T] M R := fun R h1 h2 => by
    rw [isi_one (by rw [pln_res hp]; exact pln_hasTy hp) (by rw [pln_res hp]; exact h1)]; exact h2
  have bad : (∀ z, x ≠ .str z) → Ed ⟨.ref c, [(lit "at", .int (-1))]⟩ M := fun h => by
    cases x with
    | str z => exact (h z rfl).elim
    | _ => exact k
  cases x with
  | non => exact go _ ns_ ⟨rfl, bad (by simp)⟩
  | bl _ => exact go _ bs_ ⟨rfl, bad (by simp)⟩
  | int _ => exact go _ is_ ⟨rfl, bad (by simp)⟩
  | tup _ => exact go _ ts_ ⟨rfl, bad (by simp)⟩
  | lst _ => exact go _ ls_ ⟨rfl, bad (by simp)⟩
  | str z =>
    have T := hx z rfl
    obtain ⟨Wz, Wo⟩ := w_ok T (Nat.le_refl _)
    have zl := T.len
    have ll := low_len T.pr.asc
    refine go _ ss_ ?_
    simp only [Bool.not_true, Bool.false_eq_true, if_false, qBM0, qSeq, qAsg, qTup, qCons, qNil, qOp, qUn, qC, qCall, qVar, qLst, newL_f, qIfS, qTB, qNext, qRet, qDrop, qFor, qCB, qAug, qSl, qPart, qNoPart, gNameD, gSub_eq, dInt_i, dInt0_i, dAdd_i, dCmpI_i, List.set_cons_zero, List.set_cons_succ, List.getElem?_cons_zero, List.getElem?_cons_succ, List.append_nil, mTxt0, mWords, res_str]
    refine ⟨rfl, by omega, pr_ok (pr_low T.pr) (by omega), rfl, by omega, Wo, ?_⟩
    change match readR (W z) with
      | .inl d => Q d M
      | .inr i => Ed ⟨.ref c, [(lit "at", .int i)]⟩ M at k
    rw [show Txt.words (Txt.lower z) = W z from rfl]
    generalize W z = ws at k Wz
    simp only [qiRng1, qSeq, qAsg, qTup, qCons, qNil, qOp, qUn, qC, qCall, qVar, qLst, newL_f, qIfS, qTB, qNext, qRet, qDrop, qFor, qCB, qAug, qSl, qPart, qNoPart, gNameD, gSub_eq, dInt_i, dInt0_i, dAdd_i, dCmpI_i, List.set_cons_zero, List.set_cons_succ, List.getElem?_cons_zero, List.getElem?_cons_succ, List.append_nil, stL, len_l', List.length_map]
    have few := Wz.few
    refine ⟨by omega, by omega, ?_⟩
    have inT : ∀ (M : Mst) (Q : DK), dIn true (.int (ws.length : Nat)) (.tup [.int 3, .int 5]) M Q = Q (.bl (!decide (ws.length = 3 ∨ ws.length = 5))) M := fun M Q => by
      unfold dIn
      have a1 : (List.any [D.int 3, .int 5] fun e => deq e (.int (ws.length : Nat))) = decide (ws.length = 3 ∨ ws.length = 5) := by
        simp only [List.any_cons, List.any_nil, deq_int, Bool.or_false]
        rw [Bool.decide_or]
        congr 1 <;> exact decide_eq_decide.mpr (by omega)
      simp only [dgetD, res_tup, a1]
      simp [flatD]
    refine loopL_inv (fun i p M' => (∃ x2, p = [some (.str z), some (stL ws), x2]) ∧ M = M' ∧ scanW 0 ws = scanW i (ws.drop i)) (n := ws.length) (by simp [rangeD]) ?_ ?_ ⟨⟨none, rfl⟩, rfl, rfl⟩
    · rintro i d p M' R hd ⟨⟨x2, rfl⟩, rfl, hs⟩ hR
      have hi : i < ws.length := by
        have := (List.getElem?_eq_some_iff.mp hd).1
        simpa [rangeD] using this
      have ed : d = .int (i : Int) := by
        simp [rangeD, hi] at hd; exact hd.symm
      subst ed
      refine ⟨trivial, ?_⟩
      simp only [qNot, qRaise, qSeq, qAsg, qTup, qCons, qNil, qOp, qUn, qC, qCall, qVar, qLst, newL_f, qIfS, qTB, qNext, qRet, qDrop, qFor, qCB, qAug, qSl, qPart, qNoPart, gNameD, gSub_eq, dInt_i, dInt0_i, dAdd_i, dCmpI_i, List.set_cons_zero, List.set_cons_succ, List.getElem?_cons_zero, List.getElem?_cons_succ, List.append_nil]
      have hw := get_d hi
      refine ⟨ws, i, _, rfl, Wz, hw, ?_⟩
      rw [scan_step hw] at hs
      cases hb : wordB i (ws.getD i Str.empty) with
      | true =>
        rw [hb, if_pos rfl] at hs
        simp only [Bool.not_true, Bool.false_eq_true, if_false]
        exact hR _ _ ⟨⟨_, rfl⟩, rfl, hs⟩
      | false =>
        rw [hb, if_neg Bool.false_ne_true] at hs
        simp only [Bool.not_false, if_true]
        refine ⟨rfl, ?_⟩
        simp only [readR, hs] at k
        exact k
    · rintro p M' ⟨⟨x2, rfl⟩, rfl, hs⟩
      refine ⟨trivial, ?_⟩
      rw [List.drop_length] at hs
      have hs' : scanW 0 ws = none := hs
      have len : ∀ (M : Mst) (Q : DK), dLen [stL ws] M Q = Q (.int (ws.length : Nat)) M := fun M Q => by rw [stL, len_l]; simp
      simp only [qIf, qRaise, qSeq, qAsg, qTup, qCons, qNil, qOp, qUn, qC, qCall, qVar, qLst, newL_f, qIfS, qTB, qNext, qRet, qDrop, qFor, qCB, qAug, qSl, qPart, qNoPart, gNameD, gSub_eq, dInt_i, dInt0_i, dAdd_i, dCmpI_i, List.set_cons_zero, List.set_cons_succ, List.getElem?_cons_zero, List.getElem?_cons_succ, List.append_nil, len, inT, List.length_cons, List.length_nil]
      refine ⟨by decide, ?_⟩
      simp only [readR, hs'] at k
      by_cases h35 : ws.length = 3 ∨ ws.length = 5
      · rw [if_pos h35] at k
        simp only [decide_eq_true h35, Bool.not_true, Bool.false_eq_true, if_false]
        have i0 : ∀ (M : Mst) (Q : DK), dIx (stL ws) (.int 0) M Q = Q (.str (ws.getD 0 Str.empty)) M := fun M Q => ix_strs (i := 0) (get_d (by omega))
        have i2 : ∀ (M : Mst) (Q : DK), dIx (stL ws) (.int 2) M Q = Q (.str (ws.getD 2 Str.empty)) M := fun M Q => ix_strs (i := 2) (get_d (by omega))
        simp only [i0, i2]
        rw [show (5 : Int) = ((5 : Nat) : Int) from rfl, eq_i, Bool.false_xor]
        unfold tripD numI at k
        by_cases h5 : ws.length = 5
        · have i4 : ∀ (M : Mst) (Q : DK), dIx (stL ws) (.int 4) M Q = Q (.str (ws.getD 4 Str.empty)) M := fun M Q => ix_strs (i := 4) (get_d (by omega))
          rw [if_pos h5] at k
          simp only [decide_eq_true h5, if_true, i4]
          obtain ⟨P4, _, l4⟩ := Wz.pr _ (List.mem_of_getElem? (get_d (ws := ws) (i := 4) (by omega)))
          exact ⟨_, rfl, P4, l4, by simp, k⟩
        · rw [if_neg h5] at k
          simp only [decide_eq_false h5, Bool.false_eq_true, if_false]
          exact ⟨by simp, k⟩
      · rw [if_neg h35] at k
        simp only [decide_eq_false h35, Bool.not_false, if_true]
        exact ⟨trivial, k⟩
  | _ => cases hp
/-! ### the law's defs -/
def optD : Option Int → D
  | some n => .int n
  | none => .non
theorem empty_is {z : Str} : decide (z = lit "") = decide (z.length = 0) := by
  apply decide_eq_decide.mpr
  have e : lit "" = Str.empty := by decide +kernel
  rw [e]
  exact ⟨fun h => by rw [h]; rfl, len0⟩
def spLPlain : DSp := fun ds M Q _ => ∃ z : Str, ds = [.str z] ∧ Pr z ∧ z.length ≤ 100000 ∧ Q (optD (plainO z)) M
theorem lplain_ok (ds : List D) (M : Mst) (Q : DK) (Ed : DX → Mst → Prop) (h : upSp spLPlain ds M Q Ed) : q__law_plain (fun x _ M => Ed x M) (retE Q) (startD N__law_plain ds) M := by
  obtain ⟨Q0, E0, ⟨z, rfl, P, l, k0⟩, kq, _⟩ := h
  have k : Q (optD (plainO z)) M := kq _ _ _ (Sub.refl _) k0
  show q__law_plain _ _ [some (.str z), none] M
  simp only [q__law_plain, qOr, qNot, qSeq, qAsg, qTup, qCons, qNil, qOp, qUn, qC, qCall, qVar, qLst, newL_f, qIfS, qTB, qNext, qRet, qDrop, qFor, qCB, qAug, qSl, qPart, qNoPart, gNameD, gSub_eq, dInt_i, dInt0_i, dAdd_i, dCmpI_i, List.set_cons_zero, List.set_cons_succ, List.getElem?_cons_zero, List.getElem?_cons_succ, List.append_nil, eq_str, Bool.false_xor, len_str]
  rw [show decide (z = PySem.Str.ofString "") = decide (z.length = 0) from empty_is]
  unfold plainO at k
  cases h0 : decide (z.length = 0) with
  | true =>
    have := of_decide_eq_true h0
    have e : (decide (1 ≤ z.length) && decide (z.length ≤ 10)) = false := by rw [this]; rfl
    rw [e] at k
    simp only [if_true]
    exact k
  | false =>
    have l1 := of_decide_eq_false h0
    simp only [Bool.false_eq_true, if_false]
    cases h1 : decide ((10 : Int) < (z.length : Int)) with
    | true =>
      have := of_decide_eq_true h1
      have e : (decide (1 ≤ z.length) && decide (z.length ≤ 10)) = false := by rw [decide_eq_false (show ¬ z.length ≤ 10 by omega), Bool.and_false]
      rw [e] at k
      simp only [if_true]
      exact k
    | false =>
      have l2 := of_decide_eq_false h1
      have e : (decide (1 ≤ z.length) && decide (z.length ≤ 10)) = true := by rw [decide_eq_true (show z.length ≤ 10 by omega), decide_eq_true (show 1 ≤ z.length by omega)]; rfl
      have e' := e
      rw [e] at k
      simp only [Bool.false_eq_true, if_false]
      refine comp_in (z := z) rfl (by simp) l ?_
      have hF : (List.map (fun c => inS (one c) (PySem.Str.ofString "0123456789")) z.cps.toList).all id = figB z := figs_all P
      rw [all_bls, hF]
      cases hf : figB z with
      | false =>
        rw [hf] at k
        simp only [Bool.not_false, if_true]
        exact k
      | true =>
        rw [hf] at k
        obtain ⟨n, hn⟩ := fig_gives e' hf
        simp only [Bool.not_true, Bool.false_eq_true, if_false, qIf, qOr, qSeq, qAsg, qTup, qCons, qNil, qOp, qUn, qC, qCall, qVar, qLst, newL_f, qIfS, qTB, qNext, qRet, qDrop, qFor, qCB, qAug, qSl, qPart, qNoPart, gNameD, gSub_eq, dInt_i, dInt0_i, dAdd_i, dCmpI_i, List.set_cons_zero, List.set_cons_succ, List.getElem?_cons_zero, List.getElem?_cons_succ, List.append_nil, first_is (show 1 ≤ z.length by omega)]
        rw [eq_str, one_zero, head_is (by omega)]
        unfold zeroB at k
        have fin : Q (.int n) M → dIntX [.str z] M Q := fun h => by
          simp only [dIntX, res_str, hn]; exact ⟨by omega, h⟩
        cases h48 : decide (z.cps.toList.head? = some 48) with
        | false =>
          rw [h48] at k
          simp only [Bool.xor_false, if_true]
          refine fin ?_
          simpa [hn, optD] using k
        | true =>
          rw [h48] at k
          simp only [Bool.xor_self, Bool.false_eq_true, if_false]
          rw [eq_str, Bool.false_xor]
          cases hz : decide (z = lit "0") with
          | true =>
            have hz' : z = lit "0" := of_decide_eq_true hz
            have e : decide (z ≠ lit "0") = false := decide_eq_false (fun h => h hz')
            rw [e] at k
            simp only [if_true]
            refine fin ?_
            simpa [hn, optD] using k
          | false =>
            have hz' : z ≠ lit "0" := of_decide_eq_false hz
            have e : decide (z ≠ lit "0") = true := decide_eq_true hz'
            rw [e] at k
            simp only [Bool.false_eq_true, if_false]
            simpa [optD] using k
theorem scan_none : ∀ {l : List Str} {i : Nat}, scanW i l = none → ∀ (j : Nat) (w : Str), l[j]? = some w → wordB (i + j) w = true
  | [], i, _, j, w, h => by simp at h
  | x :: l, i, h, j, w, hj => by
    unfold scanW at h
    split at h
    · next hx =>
      cases j with
      | zero => simp at hj; subst hj; exact hx
      | succ j =>
        have := scan_none h j w (by simpa using hj)
        rw [show i + (j + 1) = i + 1 + j by omega]; exact this
    · cases h
theorem cut5 {α : Type} (xs : List α) : cutX xs none (some 5) = xs.take 5 := by
  unfold cutX HT.sIx
  simp
def vD : D ⊕ Int → D
  | .inl d => d
  | .inr i => .int i
def keepD : D → Option D
  | .str y => if some_ y = true then some (.str y) else none
  | _ => none
theorem keep_map (l : List Str) : (l.map D.str).filterMap keepD = (l.filter some_).map D.str := by
  induction l with
  | nil => rfl
  | cons y r ih =>
    simp only [List.map_cons, List.filterMap_cons, keepD, List.filter_cons]
    cases some_ y <;> simp [ih]
theorem ne_empty (y : Str) : (xor true (decide (y = lit ""))) = some_ y := by
  rw [empty_is]; unfold some_
  cases h : decide (y.length = 0) <;> simp_all
theorem wordB5 {i : Nat} {w : Str} (h : 5 ≤ i) : wordB i w = false := by
  obtain ⟨j, rfl⟩ : ∃ j, i = j + 5 := ⟨i - 5, by omega⟩
  rfl
theorem fits_e {DW : DWt} {p : Rho} {M : Mst} {Q : DK} {w : Str} (h3 : p[3]? = some (some (.str w))) (h7 : 7 < p.length) (Pw : Pr w) (wl : w.length ≤ 100000) (h : Q (.bl (nameB w)) M) :
    qAndV (qChain (dCmpI fun i j => decide (i ≤ j)) (dCmpI fun i j => decide (i ≤ j)) (qC (.int 1)) (qCB dLen (qCons (qVar 3) qNil)) (qC (.int 8))) (qCB dAll (qCons (qLc false (qiAny (qVar 3)) (gNameD 7) qYes (qOp (dIn false) (qVar 7) (qC (.str (PySem.Str.ofString "abcdefghijklmnopqrstuvwxyz")))) [7]) qNil)) DW p M Q := by
  simp only [qAndV, qChain, qC, qCB, qCons, qNil, qVar, h3]
  simp only [len_str]
  refine (chain_len (lo := 1) (hi := 8)).mpr ?_
  unfold nameB at h
  cases hb : decide (1 ≤ w.length) && decide (w.length ≤ 8) with
  | false => rw [hb] at h; exact h
  | true =>
    rw [hb] at h
    simp only [if_true]
    refine comp_in (z := w) h3 h7 wl ?_
    rw [all_bls]
    show Q (.bl ((w.cps.toList.map fun c => inS (one c) LET).all id)) M
    rw [lets_all Pw]
    exact h
theorem num_e {DW : DWt} {p : Rho} {M : Mst} {Q : DK} {w : Str} (h4 : p[4]? = some (some (optD (plainO w)))) (h : Q (.bl (wordB 4 w)) M) :
    qAndV (qOp (dIs true) (qVar 4) (qC .non)) (qChain (dCmpI fun i j => decide (i ≤ j)) (dCmpI fun i j => decide (i ≤ j)) (qC (.int 1)) (qVar 4) (qC (.int 20))) DW p M Q := by
  simp only [qAndV, qChain, qC, qOp, qVar, h4]
  have e4 : wordB 4 w = (decide (1 ≤ plainN w) && decide (plainN w ≤ 20)) := rfl
  unfold plainN at e4
  cases hp : plainO w with
  | none =>
    rw [hp] at e4
    have e5 : wordB 4 w = false := e4
    rw [e5] at h
    exact h
  | some n =>
    rw [hp] at e4
    simp only [Option.getD_some] at e4
    simp only [optD, dIs, DL.isNon, Bool.xor_false, if_true, dCmpI_i]
    rw [e4] at h
    cases h1 : decide (1 ≤ n) with
    | true => rw [h1] at h; simpa [optD] using h
    | false => rw [h1] at h; simpa using h
def spLRead : DSp := fun ds M Q _ => ∃ z : Str, ds = [.str z] ∧ Tx_ 50000 z ∧ Q (vD (readR (W z))) M
theorem lread_ok (ds : List D) (M : Mst) (Q : DK) (Ed : DX → Mst → Prop) (h : upSp spLRead ds M Q Ed) : q__law_read spLPlain (fun x _ M => Ed x M) (retE Q) (startD N__law_read ds) M := by
  obtain ⟨Q0, E0, ⟨z, rfl, T, k0⟩, kq, _⟩ := h
  have k : Q (vD (readR (W z))) M := kq _ _ _ (Sub.refl _) k0
  show q__law_read _ _ _ [some (.str z), none, none, none, none, none, none, none] M
  obtain ⟨Wz, Wo⟩ := w_ok T (Nat.le_refl _)
  have zl := T.len
  have ll := low_len T.pr.asc
  have P := pr_low T.pr
  have hw : W z = (Txt.split (Txt.lower z) sp1).filter some_ := words_split P
  simp only [q__law_read, qLc, qiAny, qBM, qBM0, mTxt0, mSplit, res_str, qSeq, qAsg, qTup, qCons, qNil, qOp, qUn, qC, qCall, qVar, qLst, newL_f, qIfS, qTB, qNext, qRet, qDrop, qFor, qCB, qAug, qSl, qPart, qNoPart, gNameD, gSub_eq, dInt_i, dInt0_i, dAdd_i, dCmpI_i, List.set_cons_zero, List.set_cons_succ, List.getElem?_cons_zero, List.getElem?_cons_succ, List.append_nil, spl_sp]
  refine ⟨rfl, by omega, pr_ok P (by omega), rfl, by omega, rfl, fun y hy => by
    obtain ⟨a, b, _⟩ := split_facts P hy
    exact pr_ok a (by omega), ?_⟩
  intro c hc
  have sl := PyProof.Rows.split_le (Txt.lower z) sp1
  refine compL_map hc keepD (fun _ => trivial) (by rw [List.length_map]; omega) (fun d hd acc R hR => ?_) ?_
  · obtain ⟨y, hy, rfl⟩ := List.mem_map.mp hd
    simp only [wipeD, qSeq, qAsg, qTup, qCons, qNil, qOp, qUn, qC, qCall, qVar, qLst, newL_f, qIfS, qTB, qNext, qRet, qDrop, qFor, qCB, qAug, qSl, qPart, qNoPart, gNameD, gSub_eq, dInt_i, dInt0_i, dAdd_i, dCmpI_i, List.set_cons_zero, List.set_cons_succ, List.getElem?_cons_zero, List.getElem?_cons_succ, List.append_nil, eq_str]
    rw [show PySem.Str.ofString "" = lit "" from rfl, ne_empty]
    simp only [keepD] at hR
    cases hs : some_ y with
    | true => rw [hs] at hR; exact hR
    | false => rw [hs] at hR; exact hR
  simp only [Bool.false_eq_true, if_false]
  rw [keep_map, ← hw]
  generalize W z = ws at k Wz
  have few := Wz.few
  simp only [qiEnum, dSl, res_lst, cut5, newL_f, lstAt, qSeq, qAsg, qTup, qCons, qNil, qOp, qUn, qC, qCall, qVar, qLst, newL_f, qIfS, qTB, qNext, qRet, qDrop, qFor, qCB, qAug, qSl, qPart, qNoPart, gNameD, gSub_eq, dInt_i, dInt0_i, dAdd_i, dCmpI_i, List.set_cons_zero, List.set_cons_succ, List.getElem?_cons_zero, List.getElem?_cons_succ, List.append_nil]
  have len : ∀ (M : Mst) (Q : DK), dLen [.lst (ws.map D.str)] M Q = Q (.int (ws.length : Nat)) M := fun M Q => by rw [len_l]; simp
  have key : scanW 0 ws = scanW 0 (ws.drop 0) := rfl
  refine loopL_inv (fun i p M' => ∃ x2 x3 x4 x5 x6 x7, p = [some (.str z), some (.lst (ws.map .str)), x2, x3, x4, x5, x6, x7] ∧ M = M' ∧ scanW 0 ws = scanW i (ws.drop i)) (n := min 5 ws.length) (by rw [enumD_length]; simp) ?_ ?_ ⟨_, _, _, _, _, _, rfl, rfl, key⟩
  · rintro i d p M' R hd ⟨x2, x3, x4, x5, x6, x7, rfl, rfl, hs⟩ hR
    have hi : i < ws.length ∧ i < 5 := by
      have := (List.getElem?_eq_some_iff.mp hd).1
      rw [enumD_length] at this
      simp at this; omega
    have hg := get_d hi.1
    generalize ws.getD i Str.empty = w at hg
    have ed : d = .tup [.int (i : Int), .str w] := by
      rw [enumD_get] at hd
      have : ((ws.map D.str).take 5)[i]? = some (.str w) := by
        rw [List.getElem?_take, if_pos hi.2, List.getElem?_map, hg]; rfl
      rw [this] at hd
      simp at hd; exact hd.symm
    subst ed
    obtain ⟨Pw, w1, wl⟩ := Wz.pr w (List.mem_of_getElem? hg)
    rw [scan_step hg] at hs
    refine ⟨trivial, ?_⟩
    simp only [gTupD, res_tup, gConsD, gNilD, qSeq, qAsg, qTup, qCons, qNil, qOp, qUn, qC, qCall, qVar, qLst, newL_f, qIfS, qTB, qNext, qRet, qDrop, qFor, qCB, qAug, qSl, qPart, qNoPart, gNameD, gSub_eq, dInt_i, dInt0_i, dAdd_i, dCmpI_i, List.set_cons_zero, List.set_cons_succ, List.getElem?_cons_zero, List.getElem?_cons_succ, List.append_nil, List.length_cons, List.length_nil]
    refine ⟨trivial, trivial, w, rfl, Pw, wl, ?_⟩
    refine fits_e rfl (by simp) Pw wl ?_
    have i6 : ∀ (M : Mst) (Q : DK), dIn false (.str w) (.tup [.str (PySem.Str.ofString "car"), .str (PySem.Str.ofString "chimney"), .str (PySem.Str.ofString "grass"), .str (PySem.Str.ofString "house"), .str (PySem.Str.ofString "people"), .str (PySem.Str.ofString "works")]) M Q = Q (.bl (decide (w ∈ K_DUE))) M := fun M Q => by
      have := in_strsT (neg := false) (z := w) (zs := K_DUE) (M := M) (Q := Q)
      rw [Bool.false_xor] at this; exact this
    simp only [qSeq, qAsg, qTup, qCons, qNil, qOp, qUn, qC, qCall, qVar, qLst, newL_f, qIfS, qTB, qNext, qRet, qDrop, qFor, qCB, qAug, qSl, qPart, qNoPart, gNameD, gSub_eq, dInt_i, dInt0_i, dAdd_i, dCmpI_i, List.set_cons_zero, List.set_cons_succ, List.getElem?_cons_zero, List.getElem?_cons_succ, List.append_nil, i6, eq_str, Bool.false_xor, List.length_cons, List.length_nil]
    refine ⟨by simp, ?_⟩
    refine num_e (w := w) rfl ?_
    refine ⟨by simp, ?_⟩
    have ix : ∀ (M : Mst) (Q : DK), dIx (.lst [.bl (decide (w ∈ K_DUE)), .bl (decide (w = PySem.Str.ofString "at")), .bl (nameB w), .bl (decide (w = PySem.Str.ofString "make")), .bl (wordB 4 w)]) (.int (i : Int)) M Q = Q (.bl (wordB i w)) M := fun M Q => by
      refine ix_l ?_
      rw [atI_n]
      rcases (by omega : i = 0 ∨ i = 1 ∨ i = 2 ∨ i = 3 ∨ i = 4) with h | h | h | h | h <;> subst h <;> rfl
    simp only [qNot, qSeq, qAsg, qTup, qCons, qNil, qOp, qUn, qC, qCall, qVar, qLst, newL_f, qIfS, qTB, qNext, qRet, qDrop, qFor, qCB, qAug, qSl, qPart, qNoPart, gNameD, gSub_eq, dInt_i, dInt0_i, dAdd_i, dCmpI_i, List.set_cons_zero, List.set_cons_succ, List.getElem?_cons_zero, List.getElem?_cons_succ, List.append_nil, ix]
    cases hb : wordB i w with
    | true =>
      rw [hb, if_pos rfl] at hs
      simp only [Bool.not_true, Bool.false_eq_true, if_false]
      exact hR _ _ ⟨_, _, _, _, _, _, rfl, rfl, hs⟩
    | false =>
      rw [hb, if_neg Bool.false_ne_true] at hs
      simp only [Bool.not_false, if_true]
      simp only [readR, hs, vD] at k
      exact k
  · rintro p M' ⟨x2, x3, x4, x5, x6, x7, rfl, rfl, hs⟩
    refine ⟨trivial, ?_⟩
    simp only [qSeq, qAsg, qTup, qCons, qNil, qOp, qUn, qC, qCall, qVar, qLst, newL_f, qIfS, qTB, qNext, qRet, qDrop, qFor, qCB, qAug, qSl, qPart, qNoPart, gNameD, gSub_eq, dInt_i, dInt0_i, dAdd_i, dCmpI_i, List.set_cons_zero, List.set_cons_succ, List.getElem?_cons_zero, List.getElem?_cons_succ, List.append_nil, len]
    by_cases h5 : 5 < ws.length
    · rw [if_pos (decide_eq_true (by omega))]
      rw [show min 5 ws.length = 5 by omega, scan_step (get_d h5), wordB5 (Nat.le_refl _), if_neg Bool.false_ne_true] at hs
      simp only [readR, hs, vD] at k
      exact k
    · rw [if_neg (by rw [decide_eq_false (by omega)]; exact Bool.false_ne_true)]
      rw [show min 5 ws.length = ws.length by omega, List.drop_length] at hs
      have hs' : scanW 0 ws = none := hs
      simp only [readR, hs'] at k
      have inT : ∀ (M : Mst) (Q : DK), dIn false (.int (ws.length : Nat)) (.tup [.int 3, .int 5]) M Q = Q (.bl (decide (ws.length = 3 ∨ ws.length = 5))) M := fun M Q => by
        unfold dIn
        have a1 : (List.any [D.int 3, .int 5] fun e => deq e (.int (ws.length : Nat))) = decide (ws.length = 3 ∨ ws.length = 5) := by
          simp only [List.any_cons, List.any_nil, deq_int, Bool.or_false]
          rw [Bool.decide_or]
          congr 1 <;> exact decide_eq_decide.mpr (by omega)
        simp only [dgetD, res_tup, a1]
        simp [flatD]
      simp only [inT, List.length_cons, List.length_nil]
      refine ⟨by decide, ?_⟩
      by_cases h35 : ws.length = 3 ∨ ws.length = 5
      · rw [if_pos h35] at k
        rw [if_pos (decide_eq_true h35)]
        have i0 : ∀ (M : Mst) (Q : DK), dIx (.lst (ws.map D.str)) (.int 0) M Q = Q (.str (ws.getD 0 Str.empty)) M := fun M Q => ix_strs (i := 0) (get_d (by omega))
        have i2 : ∀ (M : Mst) (Q : DK), dIx (.lst (ws.map D.str)) (.int 2) M Q = Q (.str (ws.getD 2 Str.empty)) M := fun M Q => ix_strs (i := 2) (get_d (by omega))
        simp only [qIf, qSeq, qAsg, qTup, qCons, qNil, qOp, qUn, qC, qCall, qVar, qLst, newL_f, qIfS, qTB, qNext, qRet, qDrop, qFor, qCB, qAug, qSl, qPart, qNoPart, gNameD, gSub_eq, dInt_i, dInt0_i, dAdd_i, dCmpI_i, List.set_cons_zero, List.set_cons_succ, List.getElem?_cons_zero, List.getElem?_cons_succ, List.append_nil, i0, i2, len]
        rw [show (5 : Int) = ((5 : Nat) : Int) from rfl, eq_i, Bool.false_xor]
        unfold tripD numI at k
        by_cases h5 : ws.length = 5
        · have g4 := get_d (ws := ws) (i := 4) (by omega)
          have i4 : ∀ (M : Mst) (Q : DK), dIx (.lst (ws.map D.str)) (.int 4) M Q = Q (.str (ws.getD 4 Str.empty)) M := fun M Q => ix_strs (i := 4) g4
          rw [if_pos h5] at k
          simp only [decide_eq_true h5, if_true, i4]
          obtain ⟨P4, _, l4⟩ := Wz.pr _ (List.mem_of_getElem? g4)
          have b4 := scan_none hs' 4 _ g4
          refine ⟨_, rfl, P4, l4, by simp, ?_⟩
          have e4 : (decide (1 ≤ plainN (ws.getD 4 Str.empty)) && decide (plainN (ws.getD 4 Str.empty) ≤ 20)) = true := b4
          rw [Bool.and_eq_true, decide_eq_true_eq, decide_eq_true_eq] at e4
          have : optD (plainO (ws.getD 4 Str.empty)) = .int (plainN (ws.getD 4 Str.empty)) := by
            unfold plainN at e4 ⊢
            cases hp : plainO (ws.getD 4 Str.empty) with
            | some n => rfl
            | none => rw [hp] at e4; exact absurd e4.1 (by decide)
          rw [this]
          exact k
        · rw [if_neg h5] at k
          simp only [decide_eq_false h5, Bool.false_eq_true, if_false]
          exact ⟨by simp, k⟩
      · rw [if_neg h35] at k
        rw [if_neg (by rw [decide_eq_false h35]; exact Bool.false_ne_true)]
        exact k
end K21

/-! K21q: what the law's defs tell. -/
namespace K21
open PySem L2 DL Tx20 Tx21
def spWords : DSp := fun ds M Q _ => ∃ b : Addr, ds = [.ref b] ∧ M b = some .bag ∧ ∀ ws : List Str, ws.length ≤ 5 → (∀ w ∈ ws, Tx_ 10 w) → Q (stL ws) M
theorem words_ok (ds : List D) (M : Mst) (Q : DK) (Ed : DX → Mst → Prop) (h : upSp spWords ds M Q Ed) : q__law_words spTake (fun x _ M => Ed x M) (retE Q) (startD N__law_words ds) M := by
  obtain ⟨Q0, E0, ⟨b, rfl, hb, k0⟩, kq, _⟩ := h
  have k : ∀ ws : List Str, ws.length ≤ 5 → (∀ w ∈ ws, Tx_ 10 w) → Q (stL ws) M := fun ws l C => kq _ _ _ (Sub.refl _) (k0 ws l C)
  show q__law_words _ _ _ [some (.ref b), none, none, none, none] M
  simp only [q__law_words, qBM, qLc, qiRng1, qSeq, qAsg, qTup, qCons, qNil, qOp, qUn, qC, qCall, qVar, qLst, newL_f, qIfS, qTB, qNext, qRet, qDrop, qFor, qCB, qAug, qSl, qPart, qNoPart, gNameD, gSub_eq, dInt_i, dInt0_i, dAdd_i, dCmpI_i, List.set_cons_zero, List.set_cons_succ, List.getElem?_cons_zero, List.getElem?_cons_succ, List.append_nil]
  refine ⟨rfl, take_call hb (by decide) (by decide) fun r8 r0 r1 => ⟨by omega, by omega, ?_⟩⟩
  intro c hc
  have nbc := ne_of_some hb hc
  refine compL_rel hc (fun _ o => ∃ c : Nat, o = some (.str (one c)) ∧ (97 ≤ c ∧ c ≤ 122)) (fun _ => trivial) _ [] (by simp; omega) (fun d _ acc R hR => ?_) fun os hos => ?_
  · simp only [wipeD, qYes, qSeq, qAsg, qTup, qCons, qNil, qOp, qUn, qC, qCall, qVar, qLst, newL_f, qIfS, qTB, qNext, qRet, qDrop, qFor, qCB, qAug, qSl, qPart, qNoPart, gNameD, gSub_eq, dInt_i, dInt0_i, dAdd_i, dCmpI_i, List.set_cons_zero, List.set_cons_succ, List.getElem?_cons_zero, List.getElem?_cons_succ, List.append_nil, if_true]
    refine take_call (put_keep hb hc) (by decide) (by decide) fun y y0 y1 => ?_
    refine pick_s y0 (by rw [show (PySem.Str.ofString "abcdefghijklmnopqrstuvwxyz").length = 26 by decide +kernel]; exact y1) fun c hc => hR _ ⟨c, rfl, ?_⟩
    exact (by decide +kernel : ∀ c ∈ (PySem.Str.ofString "abcdefghijklmnopqrstuvwxyz").cps.toList, 97 ≤ c ∧ c ≤ 122) c hc
  obtain ⟨cs, ec, lc, hcs⟩ := signs_of hos
  simp only [List.nil_append, Bool.false_eq_true, if_false]
  rw [ec]
  have lc2 : cs.length = (1 + r8).toNat := by rw [lc]; simp
  refine join_signs (fun c hc => by have := hcs c hc; omega) (by omega) ?_
  have T : Tx_ 10 (⟨cs.toArray⟩ : Str) := tx_signs (fun c hc => by have := hcs c hc; omega) (by omega)
  generalize (⟨cs.toArray⟩ : Str) = pl at T
  simp only [qSeq, qAsg, qTup, qCons, qNil, qOp, qUn, qC, qCall, qVar, qLst, newL_f, qIfS, qTB, qNext, qRet, qDrop, qFor, qCB, qAug, qSl, qPart, qNoPart, gNameD, gSub_eq, dInt_i, dInt0_i, dAdd_i, dCmpI_i, List.set_cons_zero, List.set_cons_succ, List.getElem?_cons_zero, List.getElem?_cons_succ, List.append_nil, List.length_cons, List.length_nil]
  refine ⟨by simp, take_call hb (by decide) (by decide) fun r6 a0 a1 => pick_t a0 (by simpa using a1) ?_⟩
  intro kd hk
  obtain ⟨kind, rfl, Tk⟩ : ∃ kind, kd = .str kind ∧ Tx_ 10 kind := by
    simp only [List.mem_cons, List.not_mem_nil, or_false] at hk
    rcases hk with rfl | rfl | rfl | rfl | rfl | rfl <;> exact ⟨_, rfl, tx_of (by decide +kernel)⟩
  refine ⟨by simp, take_call hb (by decide) (by decide) fun r b0 b1 => ?_⟩
  simp only [dInt0_i, dMax2_i]
  obtain ⟨v, ev, v0, v1⟩ : ∃ v : Int, (if r - 4 > 0 then r - 4 else 0) = v ∧ 0 ≤ v ∧ v < 4 := ⟨_, rfl, by split <;> omega, by split <;> omega⟩
  rw [ev]
  refine pick_t v0 (by simpa using v1) fun td ht => ?_
  obtain ⟨third, rfl, Tt⟩ : ∃ third, td = .str third ∧ Tx_ 10 third := by
    simp only [List.mem_cons, List.not_mem_nil, or_false] at ht
    rcases ht with rfl | rfl | rfl | rfl
    · exact ⟨_, rfl, T⟩
    · exact ⟨_, rfl, tx_of (by decide +kernel)⟩
    · exact ⟨_, rfl, tx_of (by decide +kernel)⟩
    · exact ⟨_, rfl, Tk⟩
  refine ⟨by simp, take_call hb (by decide) (by decide) fun r20 c0 c1 => ?_⟩
  obtain ⟨n, hn⟩ : ∃ n : Nat, 1 + r20 = (n : Int) := ⟨(1 + r20).toNat, by omega⟩
  simp only [dAdd_i, hn, dStr, res_int]
  have lg : ((n : Int)).natAbs.log2 < 1920 := (by decide +kernel : ∀ n, n < 21 → ((n : Nat) : Int).natAbs.log2 < 1920) n (by omega)
  have Tn : Tx_ 10 (PySem.Str.ofString (toString ((n : Nat) : Int))) := tx_of ((by decide +kernel : ∀ n, n < 21 → txB 10 (PySem.Str.ofString (toString ((n : Nat) : Int))) = true) n (by omega))
  refine ⟨lg, Tn.ok (by decide), by simp, take_call hb (by decide) (by decide) fun r2 d0 d1 => ?_⟩
  simp only [dMul, res_lst]
  refine ⟨by omega, by omega, by simp; omega, ?_⟩
  rw [newL_f, dAdd_l]
  generalize PySem.Str.ofString (toString ((n : Nat) : Int)) = nu at Tn
  have Ta : Tx_ 10 (PySem.Str.ofString "at") := tx_of (by decide +kernel)
  have Tm : Tx_ 10 (PySem.Str.ofString "make") := tx_of (by decide +kernel)
  have h2 : r2 = 0 ∨ r2 = 1 := by omega
  rcases h2 with rfl | rfl
  · refine ⟨by simp, k [kind, lit "at", third] (by simp) fun w hw => ?_⟩
    simp only [List.mem_cons, List.not_mem_nil, or_false] at hw
    rcases hw with rfl | rfl | rfl <;> assumption
  · refine ⟨by simp, k [kind, lit "at", third, lit "make", nu] (by simp) fun w hw => ?_⟩
    simp only [List.mem_cons, List.not_mem_nil, or_false] at hw
    rcases hw with rfl | rfl | rfl | rfl | rfl <;> assumption
def spText : DSp := fun ds M Q _ => ∃ (b : Addr) (ws : List Str), ds = [.ref b, stL ws] ∧ M b = some .bag ∧ ws.length ≤ 5 ∧ (∀ w ∈ ws, Tx_ 10 w) ∧ ∀ x, Tx_ 100 x → Q (.str x) M
theorem text_ok (ds : List D) (M : Mst) (Q : DK) (Ed : DX → Mst → Prop) (h : upSp spText ds M Q Ed) : q__law_text spTake (fun x _ M => Ed x M) (retE Q) (startD N__law_text ds) M := by
  obtain ⟨Q0, E0, ⟨b, ws, rfl, hb, few, W, k0⟩, kq, _⟩ := h
  have k : ∀ x, Tx_ 100 x → Q (.str x) M := fun x X => kq _ _ _ (Sub.refl _) (k0 x X)
  show q__law_text _ _ _ [some (.ref b), some (stL ws), none, none, none, none, none, none] M
  simp only [q__law_text, qSeq, qAsg, qTup, qCons, qNil, qOp, qUn, qC, qCall, qVar, qLst, newL_f, qIfS, qTB, qNext, qRet, qDrop, qFor, qCB, qAug, qSl, qPart, qNoPart, gNameD, gSub_eq, dInt_i, dInt0_i, dAdd_i, dCmpI_i, List.set_cons_zero, List.set_cons_succ, List.getElem?_cons_zero, List.getElem?_cons_succ, List.append_nil]
  refine take_call hb (by decide) (by decide) fun r r0 r1 => ⟨⟨by decide, by decide⟩, ?_⟩
  show dMul false (.str (PySem.Str.ofString " ")) (.int (r / 4)) M _
  rw [blank_mul (by omega) (by omega)]
  have S0 : Tx_ 2 (blanks (r / 4).toNat) := (tx_blanks _).mono (by omega)
  generalize blanks (r / 4).toNat = x0 at S0
  simp only [qiEnum, qSeq, qAsg, qTup, qCons, qNil, qOp, qUn, qC, qCall, qVar, qLst, newL_f, qIfS, qTB, qNext, qRet, qDrop, qFor, qCB, qAug, qSl, qPart, qNoPart, gNameD, gSub_eq, dInt_i, dInt0_i, dAdd_i, dCmpI_i, List.set_cons_zero, List.set_cons_succ, List.getElem?_cons_zero, List.getElem?_cons_succ, List.append_nil]
  have el : lstAt M (stL ws) = some (ws.map D.str, always) := rfl
  rw [el]
  simp only
  refine loopL_inv (fun i p M' => ∃ (x : Str) (x3 x4 x5 x6 x7 : Option D), p = [some (.ref b), some (stL ws), some (.str x), x3, x4, x5, x6, x7] ∧ M = M' ∧ Tx_ (2 + 14 * i) x) (n := ws.length) (by simp) ?_ ?_
    ⟨x0, none, none, none, none, none, rfl, rfl, S0⟩
  · rintro i d p M' R hd ⟨x, x3, x4, x5, x6, x7, rfl, rfl, S⟩ hR
    have hi : i < ws.length := by
      have := (List.getElem?_eq_some_iff.mp hd).1
      simpa using this
    have ed : d = .tup [.int (i : Int), .str ws[i]] := by
      rw [enumD_get, List.getElem?_map, List.getElem?_eq_getElem hi] at hd
      simp at hd; exact hd.symm
    subst ed
    have Wi := W _ (List.getElem_mem hi)
    refine ⟨trivial, ?_⟩
    simp only [gTupD, res_tup, gConsD, gNilD, qSeq, qAsg, qTup, qCons, qNil, qOp, qUn, qC, qCall, qVar, qLst, newL_f, qIfS, qTB, qNext, qRet, qDrop, qFor, qCB, qAug, qSl, qPart, qNoPart, gNameD, gSub_eq, dInt_i, dInt0_i, dAdd_i, dCmpI_i, List.set_cons_zero, List.set_cons_succ, List.getElem?_cons_zero, List.getElem?_cons_succ, List.append_nil, List.length_cons, List.length_nil]
    refine ⟨trivial, trivial, ?_⟩
    simp only [dIntX, res_bl]
    refine take_call hb (by decide) (by decide) fun y y0 y1 => ⟨⟨by decide, by decide⟩, ?_⟩
    obtain ⟨n, hn, n1, n2⟩ : ∃ n : Int, (if decide ((0 : Int) < (i : Int)) = true then 1 else 0) + y / 6 = n ∧ 0 ≤ n ∧ n ≤ 2 := by
      refine ⟨_, rfl, ?_, ?_⟩
      · split <;> omega
      · split <;> omega
    simp only [dAdd_i]
    rw [hn, blank_mul n1 (by omega), z_add_str]
    have Sb : Tx_ 2 (blanks n.toNat) := (tx_blanks _).mono (by omega)
    have S1 : Tx_ (4 + 14 * i) (x ++ blanks n.toNat) := (S.app Sb).mono (by omega)
    refine ⟨by have := S.len; have := Sb.len; omega, ?_⟩
    generalize x ++ blanks n.toNat = x1 at S1
    simp only [qiAny, qSeq, qAsg, qTup, qCons, qNil, qOp, qUn, qC, qCall, qVar, qLst, newL_f, qIfS, qTB, qNext, qRet, qDrop, qFor, qCB, qAug, qSl, qPart, qNoPart, gNameD, gSub_eq, dInt_i, dInt0_i, dAdd_i, dCmpI_i, List.set_cons_zero, List.set_cons_succ, List.getElem?_cons_zero, List.getElem?_cons_succ, List.append_nil]
    refine take_call hb (by decide) (by decide) fun way w0 w1 => ?_
    have sl : (signs ws[i]).length = ws[i].length := by unfold signs; rw [List.length_map, Array.length_toList]; rfl
    refine loopL_inv (fun j p M' => ∃ (x : Str) (x6 x7 : Option D), p = [some (.ref b), some (stL ws), some (.str x), some (.int (i : Int)), some (.str ws[i]), some (.int way), x6, x7] ∧ M = M' ∧ Tx_ (4 + 14 * i + j) x) (n := ws[i].length) sl.symm ?_ ?_
      ⟨x1, _, _, rfl, rfl, S1⟩
    · rintro j d p M' R2 hd ⟨x, x6, x7, rfl, rfl, S⟩ hR2
      have hj : j < ws[i].cps.toList.length := by
        have := (List.getElem?_eq_some_iff.mp hd).1
        rw [sl] at this
        rw [Array.length_toList]; exact this
      have hjl : j < ws[i].length := by rw [Array.length_toList] at hj; exact hj
      obtain ⟨c, ec⟩ : ∃ c, ws[i].cps.toList[j]? = some c := ⟨_, List.getElem?_eq_getElem hj⟩
      have ed : d = .str (one c) := by
        unfold signs at hd
        rw [List.getElem?_map, ec] at hd
        exact (Option.some.inj hd).symm
      subst ed
      have hc := Wi.pr c (List.mem_of_getElem? ec)
      have wlen := Wi.len
      have slen := S.len
      refine ⟨trivial, ?_⟩
      simp only [qOrV, qAndV, qSeq, qAsg, qTup, qCons, qNil, qOp, qUn, qC, qCall, qVar, qLst, newL_f, qIfS, qTB, qNext, qRet, qDrop, qFor, qCB, qAug, qSl, qPart, qNoPart, gNameD, gSub_eq, dInt_i, dInt0_i, dAdd_i, dCmpI_i, List.set_cons_zero, List.set_cons_succ, List.getElem?_cons_zero, List.getElem?_cons_succ, List.append_nil, z_eq_int]
      have fin : ∀ g : Bool, (qAsg (qOp (dAdd false) (qVar 2) (qIf (qTB (qVar 7)) (qBM0 "str" (mTxt0 Txt.upper) (qVar 6)) (qVar 6))) (gNameD 2)) (fun x _ M => Ed x M) { nx := R2, rt := Q, bk := R, ct := R2 }
          [some (.ref b), some (stL ws), some (.str x), some (.int (i : Int)), some (.str ws[i]), some (.int way), some (.str (one c)), some (.bl g)] M := fun g => by
        have c128 : c < 128 := by omega
        have nxt : ∀ e : Nat, 32 ≤ e ∧ e ≤ 126 → R2 [some (.ref b), some (stL ws), some (.str (x ++ one e)), some (.int (i : Int)), some (.str ws[i]), some (.int way), some (.str (one c)), some (.bl g)] M := fun e he =>
          hR2 _ _ ⟨_, _, _, rfl, rfl, S.app (tx_one he)⟩
        have o1 : ∀ e, (one e).length = 1 := fun _ => rfl
        cases g with
        | true =>
          have up := up_one c128
          have hu : 32 ≤ (if 97 ≤ c ∧ c ≤ 122 then c - 32 else c) ∧ (if 97 ≤ c ∧ c ≤ 122 then c - 32 else c) ≤ 126 := by split <;> omega
          have ok : okS (Txt.upper (one c)) := by
            rw [up]; exact (tx_one hu).ok (by decide)
          simp only [qIf, qBM0, mTxt0, qSeq, qAsg, qTup, qCons, qNil, qOp, qUn, qC, qCall, qVar, qLst, newL_f, qIfS, qTB, qNext, qRet, qDrop, qFor, qCB, qAug, qSl, qPart, qNoPart, gNameD, gSub_eq, dInt_i, dInt0_i, dAdd_i, dCmpI_i, List.set_cons_zero, List.set_cons_succ, List.getElem?_cons_zero, List.getElem?_cons_succ, List.append_nil, res_str, if_true]
          refine ⟨rfl, by rw [o1]; decide, ok, ?_⟩
          rw [up, z_add_str]
          exact ⟨by rw [o1]; omega, nxt _ hu⟩
        | false =>
          simp only [qIf, qSeq, qAsg, qTup, qCons, qNil, qOp, qUn, qC, qCall, qVar, qLst, newL_f, qIfS, qTB, qNext, qRet, qDrop, qFor, qCB, qAug, qSl, qPart, qNoPart, gNameD, gSub_eq, dInt_i, dInt0_i, dAdd_i, dCmpI_i, List.set_cons_zero, List.set_cons_succ, List.getElem?_cons_zero, List.getElem?_cons_succ, List.append_nil, Bool.false_eq_true, if_false]
          rw [z_add_str]
          exact ⟨by rw [o1]; omega, nxt _ hc⟩
      by_cases h1 : way = 1
      · simp only [decide_eq_true h1, if_true]
        exact fin true
      · simp only [decide_eq_false h1, Bool.false_eq_true, if_false]
        by_cases h2 : way = 2
        · simp only [decide_eq_true h2, if_true]
          refine take_call hb (by decide) (by decide) fun t t0 t1 => ?_
          show dEq false (.int t) (.int 0) M _
          rw [z_eq_int]
          exact fin _
        · simp only [decide_eq_false h2, Bool.false_eq_true, if_false]
          exact fin false
    · rintro p M' ⟨x, x6, x7, rfl, rfl, S⟩
      exact ⟨trivial, hR _ _ ⟨x, _, _, _, _, _, rfl, rfl, S.mono (by have := Wi.len; omega)⟩⟩
  · rintro p M' ⟨x, x3, x4, x5, x6, x7, rfl, rfl, S⟩
    refine ⟨trivial, ?_⟩
    simp only [qSeq, qAsg, qTup, qCons, qNil, qOp, qUn, qC, qCall, qVar, qLst, newL_f, qIfS, qTB, qNext, qRet, qDrop, qFor, qCB, qAug, qSl, qPart, qNoPart, gNameD, gSub_eq, dInt_i, dInt0_i, dAdd_i, dCmpI_i, List.set_cons_zero, List.set_cons_succ, List.getElem?_cons_zero, List.getElem?_cons_succ, List.append_nil]
    refine take_call hb (by decide) (by decide) fun r r0 r1 => ⟨⟨by decide, by decide⟩, ?_⟩
    show dMul false (.str (PySem.Str.ofString " ")) (.int (r / 4)) M _
    have Sb : Tx_ 2 (blanks (r / 4).toNat) := (tx_blanks _).mono (by omega)
    rw [blank_mul (by omega) (by omega), z_add_str]
    exact ⟨by have := S.len; have := Sb.len; omega, k _ ((S.app Sb).mono (by omega))⟩
/-! ### spoilt -/
def spSpoilt : DSp := fun ds M Q _ => ∃ (b : Addr) (x : Str) (n : Nat), ds = [.ref b, .str x] ∧ M b = some .bag ∧ Tx_ n x ∧ n ≤ 1000 ∧ ∀ y, Tx_ (2 * n + 20) y → Q (.str y) M
def oddWs : List Str := [lit "make", lit "at", lit "0", lit "20", lit "21", lit "05", lit "6", lit "car", lit "", lit "abcdefghi", lit "1_0", lit "x", lit "100000000000"]
theorem odd_tx : ∀ w ∈ oddWs, txB 12 w = true := by decide +kernel
theorem spoilt_ok (ds : List D) (M : Mst) (Q : DK) (Ed : DX → Mst → Prop) (h : upSp spSpoilt ds M Q Ed) : q__law_spoilt spTake (fun x _ M => Ed x M) (retE Q) (startD N__law_spoilt ds) M := by
  obtain ⟨Q0, E0, ⟨b, x, n, rfl, hb, X, hn, k0⟩, kq, _⟩ := h
  have k : ∀ y M', Tx_ (2 * n + 20) y → Sub M M' → Q (.str y) M' := fun y M' Y S => kq _ _ _ S (k0 y Y)
  show q__law_spoilt _ _ _ [some (.ref b), some (.str x), none, none, none, none, none, none, none, none, none] M
  have xl := X.len
  simp only [q__law_spoilt, qPar, qSeq, qAsg, qTup, qCons, qNil, qOp, qUn, qC, qCall, qVar, qLst, newL_f, qIfS, qTB, qNext, qRet, qDrop, qFor, qCB, qAug, qSl, qPart, qNoPart, gNameD, gSub_eq, dInt_i, dInt0_i, dAdd_i, dCmpI_i, List.set_cons_zero, List.set_cons_succ, List.getElem?_cons_zero, List.getElem?_cons_succ, List.append_nil, z_add_str, z_len_str]
  generalize hS : (PySem.Str.ofString " !\"#$&'()*+,-./0123456789:;<=>?@ABCDEFGHIJKLMNOPQRSTUVWXYZ" ++ PySem.Str.ofString "[\\]^_`abcdefghijklmnopqrstuvwxyz{|}~") = S
  have TS : Tx_ 100 S := by rw [← hS]; exact tx_of (by decide +kernel)
  have lS : 0 < S.length := by rw [← hS]; decide +kernel
  have sS := TS.len
  refine ⟨by decide +kernel, take_call hb (by decide) (by decide) fun way w0 w1 => take_call hb (by omega) (by omega) fun at_ a0 a1 => take_call hb (by omega) (by omega) fun si s0 s1 => pick_s s0 s1 fun c hc => ?_⟩
  have Tc : Tx_ 1 (one c) := tx_one (TS.pr c hc)
  generalize one c = sg at Tc
  simp only [qBM, mSplit, qSeq, qAsg, qTup, qCons, qNil, qOp, qUn, qC, qCall, qVar, qLst, newL_f, qIfS, qTB, qNext, qRet, qDrop, qFor, qCB, qAug, qSl, qPart, qNoPart, gNameD, gSub_eq, dInt_i, dInt0_i, dAdd_i, dCmpI_i, List.set_cons_zero, List.set_cons_succ, List.getElem?_cons_zero, List.getElem?_cons_succ, List.append_nil, res_str]
  refine ⟨rfl, by omega, by decide +kernel, ?_⟩
  rw [spl_sp]
  have sf : ∀ y ∈ Txt.split x sp1, Pr y ∧ y.length ≤ x.length ∧ 32 ∉ y.cps.toList := fun y hy => split_facts X.pr hy
  have wtx := wt_split x
  have sp0 := PyProof.Rows.split_pos x sp1
  refine ⟨fun y hy => pr_ok (sf y hy).1 (by have := (sf y hy).2.1; omega), fun a ha => ?_⟩
  generalize Txt.split x sp1 = ws at sf wtx sp0
  have wsl : ws.length ≤ wt ws := by unfold wt; omega
  have hb1 := put_keep (u := .lst (ws.map D.str)) hb ha
  have hm : put M a (.lst (ws.map D.str)) a = some (.lst (ws.map D.str)) := put_same
  have sub : Sub M (put M a (.lst (ws.map D.str))) := (Sub.refl M).put ha
  have naN : M a = none := ha
  generalize hM1 : put M a (.lst (ws.map D.str)) = M1 at hb1 hm sub
  simp only [len_r hm, List.length_map]
  refine take_call hb1 (by omega) (by omega) fun pl p0 p1 => ⟨by decide, take_call hb1 (by decide) (by decide) fun o o0 o1 => pick_l o0 (by simpa using o1) fun wd hw => ?_⟩
  obtain ⟨w, rfl, Tw⟩ : ∃ w, wd = .str w ∧ Tx_ 12 w := by
    obtain ⟨w, h1, h2⟩ := List.mem_map.mp (show wd ∈ oddWs.map D.str from hw)
    exact ⟨w, h2.symm, tx_of (odd_tx w h1)⟩
  have sgl := Tc.len
  have wl := Tw.len
  obtain ⟨pn, rfl⟩ : ∃ pn : Nat, pl = (pn : Int) := ⟨pl.toNat, by omega⟩
  have hpn : pn < ws.length := by omega
  have Ptake : ∀ y ∈ ws.take pn, Pr y := fun y hy => (sf y (List.mem_of_mem_take hy)).1
  have Pdrop : ∀ j, ∀ y ∈ ws.drop j, Pr y := fun j y hy => (sf y (List.mem_of_mem_drop hy)).1
  have wc := wt_cut ws pn
  have wd := wt_drop ws pn
  have e1 : (pn : Int) + 1 = ((pn + 1 : Nat) : Int) := by omega
  have slr : ∀ (lo hi : Option Int) (R : DK), dSl false (.ref a) lo hi M1 R = R (.lst (cutX (ws.map D.str) lo hi)) M1 := fun lo hi R => by simp [dSl, res, hm]
  have c_to : cutX (ws.map D.str) none (some (pn : Int)) = (ws.take pn).map D.str := by rw [cut_to, List.map_take]
  have c_from : ∀ j : Nat, cutX (ws.map D.str) (some (j : Int)) none = (ws.drop j).map D.str := fun j => by rw [cut_from, List.map_drop]
  by_cases h3 : way < 3
  · simp only [decide_eq_true h3, if_true, qSeq, qAsg, qTup, qCons, qNil, qOp, qUn, qC, qCall, qVar, qLst, newL_f, qIfS, qTB, qNext, qRet, qDrop, qFor, qCB, qAug, qSl, qPart, qNoPart, gNameD, gSub_eq, dInt_i, dInt0_i, dAdd_i, dCmpI_i, List.set_cons_zero, List.set_cons_succ, List.getElem?_cons_zero, List.getElem?_cons_succ, List.append_nil, dSl, res_str, z_intX_b]
    refine mul_truth Tc (by decide) fun mid Tm => ?_
    have ml := Tm.len
    have l1 := (cutS_tx (lo := none) (hi := some at_) X)
    have l2 := (cutS_tx (lo := some (at_ + if decide ((0 : Int) < way) = true then 1 else 0)) (hi := none) X)
    rw [z_add_str]
    refine ⟨by have := l1.len; omega, ?_⟩
    rw [z_add_str]
    refine ⟨by rw [len_append]; have := l1.len; have := l2.len; omega, k _ _ (((l1.app Tm).app l2).mono (by omega)) sub⟩
  · simp only [decide_eq_false h3, Bool.false_eq_true, if_false, qSeq, qAsg, qTup, qCons, qNil, qOp, qUn, qC, qCall, qVar, qLst, newL_f, qIfS, qTB, qNext, qRet, qDrop, qFor, qCB, qAug, qSl, qPart, qNoPart, gNameD, gSub_eq, dInt_i, dInt0_i, dAdd_i, dCmpI_i, List.set_cons_zero, List.set_cons_succ, List.getElem?_cons_zero, List.getElem?_cons_succ, List.append_nil, z_eq_int]
    by_cases h4 : way = 3
    · simp only [decide_eq_true h4, if_true, qBM, qSeq, qAsg, qTup, qCons, qNil, qOp, qUn, qC, qCall, qVar, qLst, newL_f, qIfS, qTB, qNext, qRet, qDrop, qFor, qCB, qAug, qSl, qPart, qNoPart, gNameD, gSub_eq, dInt_i, dInt0_i, dAdd_i, dCmpI_i, List.set_cons_zero, List.set_cons_succ, List.getElem?_cons_zero, List.getElem?_cons_succ, List.append_nil, slr, e1, c_to, c_from, dAdd_l]
      refine ⟨rfl, by simp; omega, ?_⟩
      refine join_sp1 (ys := ws.take pn ++ ws.drop (pn + 1)) (n := 2 * n + 20) (by rw [List.map_append]; rfl) (fun y hy => ?_) ?_ (by omega) fun T => k _ _ T sub
      · rcases List.mem_append.mp hy with h | h
        · exact Ptake y h
        · exact Pdrop _ y h
      · rw [wt_app]; omega
    · simp only [decide_eq_false h4, Bool.false_eq_true, if_false, qSeq, qAsg, qTup, qCons, qNil, qOp, qUn, qC, qCall, qVar, qLst, newL_f, qIfS, qTB, qNext, qRet, qDrop, qFor, qCB, qAug, qSl, qPart, qNoPart, gNameD, gSub_eq, dInt_i, dInt0_i, dAdd_i, dCmpI_i, List.set_cons_zero, List.set_cons_succ, List.getElem?_cons_zero, List.getElem?_cons_succ, List.append_nil, z_eq_int]
      by_cases h5 : way = 4
      · simp only [decide_eq_true h5, if_true, qBM, qSeq, qAsg, qTup, qCons, qNil, qOp, qUn, qC, qCall, qVar, qLst, newL_f, qIfS, qTB, qNext, qRet, qDrop, qFor, qCB, qAug, qSl, qPart, qNoPart, gNameD, gSub_eq, dInt_i, dInt0_i, dAdd_i, dCmpI_i, List.set_cons_zero, List.set_cons_succ, List.getElem?_cons_zero, List.getElem?_cons_succ, List.append_nil, slr, e1, c_to, c_from, dAdd_l, List.length_cons, List.length_nil]
        refine ⟨rfl, by simp, by simp; omega, by simp; omega, ?_⟩
        refine join_sp1 (ys := ws.take pn ++ [w] ++ ws.drop pn) (n := 2 * n + 20) (by simp) (fun y hy => ?_) ?_ (by omega) fun T => k _ _ T sub
        · simp only [List.mem_append, List.mem_singleton] at hy
          rcases hy with (h | h) | h
          · exact Ptake y h
          · rw [h]; exact Tw.pr
          · exact Pdrop _ y h
        · rw [wt_app, wt_app, wt_one]; omega
      · simp only [decide_eq_false h5, Bool.false_eq_true, if_false, qSeq, qAsg, qTup, qCons, qNil, qOp, qUn, qC, qCall, qVar, qLst, newL_f, qIfS, qTB, qNext, qRet, qDrop, qFor, qCB, qAug, qSl, qPart, qNoPart, gNameD, gSub_eq, dInt_i, dInt0_i, dAdd_i, dCmpI_i, List.set_cons_zero, List.set_cons_succ, List.getElem?_cons_zero, List.getElem?_cons_succ, List.append_nil, z_eq_int]
        by_cases h6 : way = 5
        · simp only [decide_eq_true h6, if_true, qBM, qSeq, qAsg, qTup, qCons, qNil, qOp, qUn, qC, qCall, qVar, qLst, newL_f, qIfS, qTB, qNext, qRet, qDrop, qFor, qCB, qAug, qSl, qPart, qNoPart, gNameD, gSub_eq, dInt_i, dInt0_i, dAdd_i, dCmpI_i, List.set_cons_zero, List.set_cons_succ, List.getElem?_cons_zero, List.getElem?_cons_succ, List.append_nil]
          have hg : ws[pn]? = some ws[pn] := List.getElem?_eq_getElem hpn
          have hw' := wt_mem (List.getElem_mem hpn)
          rw [ix_r hm (d := .str ws[pn]) (by rw [atI_n, List.getElem?_map, hg]; rfl)]
          refine ⟨by simp [res, hm, tyOk], ?_⟩
          simp only [mIns, hm]
          refine ⟨by simp; omega, by omega, by omega, rfl, ?_⟩
          refine join_sp1 (ys := ws.take pn ++ [ws[pn]] ++ ws.drop pn) (n := 2 * n + 20) (by simp only [res, put_same, Int.toNat_natCast, List.map_append, List.map_take, List.map_drop, List.map_cons, List.map_nil]) (fun y hy => ?_) ?_ (by omega) fun T => k _ _ T ?_
          · simp only [List.mem_append, List.mem_singleton] at hy
            rcases hy with (h | h) | h
            · exact Ptake y h
            · rw [h]; exact (sf _ (List.getElem_mem hpn)).1
            · exact Pdrop _ y h
          · rw [wt_app, wt_app, wt_one]; omega
          · rw [← hM1, put_put]; exact (Sub.refl M).put naN
        · simp only [decide_eq_false h6, Bool.false_eq_true, if_false, qBM, qSeq, qAsg, qTup, qCons, qNil, qOp, qUn, qC, qCall, qVar, qLst, newL_f, qIfS, qTB, qNext, qRet, qDrop, qFor, qCB, qAug, qSl, qPart, qNoPart, gNameD, gSub_eq, dInt_i, dInt0_i, dAdd_i, dCmpI_i, List.set_cons_zero, List.set_cons_succ, List.getElem?_cons_zero, List.getElem?_cons_succ, List.append_nil, slr, e1, c_to, c_from, dAdd_l, List.length_cons, List.length_nil]
          refine ⟨rfl, by simp, by simp; omega, by simp; omega, ?_⟩
          refine join_sp1 (ys := ws.take pn ++ [w] ++ ws.drop (pn + 1)) (n := 2 * n + 20) (by simp) (fun y hy => ?_) ?_ (by omega) fun T => k _ _ T sub
          · simp only [List.mem_append, List.mem_singleton] at hy
            rcases hy with (h | h) | h
            · exact Ptake y h
            · rw [h]; exact Tw.pr
            · exact Pdrop _ y h
          · rw [wt_app, wt_app, wt_one]; omega
/-! ### told -/
def spTold : DSp := fun ds M Q _ => ∃ x, ds = [x] ∧ TxD x ∧ Q (vD (readV x)) M
theorem told_ok (c a1 a2 a3 a4 a5 : Addr) (ds : List D) (M : Mst) (Q : DK) (Ed : DX → Mst → Prop) (h : upSp spTold ds M Q Ed) : q__law_told c a1 a2 a3 a4 a5 (spRead c) (fun x _ M => Ed x M) (retE Q) (startD N__law_told ds) M := by
  obtain ⟨Q0, E0, ⟨x, rfl, hx, k0⟩, kq, _⟩ := h
  have k : Q (vD (readV x)) M := kq _ _ _ (Sub.refl _) k0
  clear k0
  show q__law_told _ _ _ _ _ _ _ _ _ [some x, none] M
  simp only [q__law_told, qTryAs, qSeq, qAsg, qTup, qCons, qNil, qOp, qUn, qC, qCall, qVar, qLst, newL_f, qIfS, qTB, qNext, qRet, qDrop, qFor, qCB, qAug, qSl, qPart, qNoPart, gNameD, gSub_eq, dInt_i, dInt0_i, dAdd_i, dCmpI_i, List.set_cons_zero, List.set_cons_succ, List.getElem?_cons_zero, List.getElem?_cons_succ, List.append_nil]
  refine ⟨x, rfl, hx, ?_⟩
  generalize readV x = v at k ⊢
  cases v with
  | inl d => exact k
  | inr y =>
    refine ⟨rfl, fun a dx => ?_⟩
    simp only [qOr, qNot, qXf, qSeq, qAsg, qTup, qCons, qNil, qOp, qUn, qC, qCall, qVar, qLst, newL_f, qIfS, qTB, qNext, qRet, qDrop, qFor, qCB, qAug, qSl, qPart, qNoPart, gNameD, gSub_eq, dInt_i, dInt0_i, dAdd_i, dCmpI_i, List.set_cons_zero, List.set_cons_succ, List.getElem?_cons_zero, List.getElem?_cons_succ, List.append_nil, dIsX, List.map_cons, List.map_nil]
    refine ⟨_, _, rfl, ?_⟩
    simp only [Bool.not_true, Bool.false_eq_true, if_false]
    refine ⟨by simp, _, _, rfl, ?_⟩
    (try simp only [Bool.false_eq_true, if_false])
    refine ⟨_, _, .int y, rfl, ?_, k⟩
    show List.lookup (lit "at") [(lit "at", D.int y)] = some (D.int y)
    rw [List.lookup_cons, beq_self_eq_true]
/-! ### the law -/
theorem vd_pln (x : D) : plnD (vD (readV x)) = true ∧ dep (vD (readV x)) < 8 := by
  generalize hv : readV x = v
  have : ∀ v : D ⊕ Int, (∀ d, v = .inl d → ∃ ws n, d = tripD ws (.int n)) → plnD (vD v) = true ∧ dep (vD v) < 8 := by
    intro v h
    cases v with
    | inr i => exact ⟨rfl, by rw [vD, dep_flat rfl]; decide⟩
    | inl d =>
      obtain ⟨ws, n, rfl⟩ := h d rfl
      exact ⟨by simp [vD, tripD, plnD, plnL], by simp [vD, tripD, dep, pyd, pydL, PyData.depth, PyData.depthAll]⟩
  refine this v fun d hd => ?_
  subst hd
  cases x with
  | str z =>
    simp only [readV, readR] at hv
    split at hv
    · cases hv
    · split at hv
      · cases hv; exact ⟨_, _, rfl⟩
      · cases hv
  | _ => cases hv
theorem vd_str (z : Str) : vD (readR (W z)) = vD (readV (.str z)) := rfl
def sz : Nat → Nat
  | 0 => 100
  | j + 1 => 2 * sz j + 20
def txs : List Str := [lit "", lit "   ", lit "car", lit "car at", lit "car at x make", lit "car at x make 3 now", lit "car at x 3", lit "x at car"]
theorem txs_ok : ∀ z ∈ txs, txB 50000 z = true := by decide +kernel
theorem law_ok (ds : List D) (M : Mst) (Q : DK) (Ed : DX → Mst → Prop) (h : upSp spLaw ds M Q Ed) : q_law spBag (spLikeD 8) spLRead spSpoilt spTake spText spTold spWords (fun x _ M => Ed x M) (retE Q) (startD N_law ds) M := by
  obtain ⟨Q0, E0, ⟨ns, rfl, hns, hM, k0⟩, kq, _⟩ := h
  have k : ∀ M', Q (.bl true) M' := fun M' => kq _ _ _ (Sub.refl _) (k0 M')
  show q_law _ _ _ _ _ _ _ _ _ _ [some (.scr ns), none, none, none, none, none, none, none] M
  have both : ∀ (z : Str) (M : Mst) (R : DK) (E : DX → Mst → Prop), Tx_ 50000 z → R (.bl true) M → spTold [.str z] M (fun a M1 => spLRead [.str z] M1 (fun b M2 => spLikeD 8 [a, b] M2 R E) E) E := fun z M R E hz hR =>
    ⟨.str z, rfl, ⟨rfl, fun y hy => by cases hy; exact hz⟩, z, rfl, hz, _, rfl, (vd_pln (.str z)).1, (vd_pln (.str z)).2, by decide, hR⟩
  simp only [q_law, qiRng1, qSeq, qAsg, qTup, qCons, qNil, qOp, qUn, qC, qCall, qVar, qLst, newL_f, qIfS, qTB, qNext, qRet, qDrop, qFor, qCB, qAug, qSl, qPart, qNoPart, gNameD, gSub_eq, dInt_i, dInt0_i, dAdd_i, dCmpI_i, List.set_cons_zero, List.set_cons_succ, List.getElem?_cons_zero, List.getElem?_cons_succ, List.append_nil, len_s', dMin2_i, dMax2_i]
  refine ⟨by split <;> split <;> omega, by split <;> split <;> omega, ?_⟩
  generalize hv : (if (if (ns.length : Int) < 16 then (ns.length : Int) else 16) > 6 then (if (ns.length : Int) < 16 then (ns.length : Int) else 16) else 6) = v
  have v16 : v ≤ 16 := by rw [← hv]; split <;> split <;> omega
  clear hv
  refine loopL_inv (fun i p M' => ∃ x1 x2 x3 x4 x5 x6 x7, p = [some (.scr ns), x1, x2, x3, x4, x5, x6, x7]) (n := v.toNat) (by simp) ?_ ?_ ⟨_, _, _, _, _, _, _, rfl⟩
  · rintro i d p M' R hd ⟨x1, x2, x3, x4, x5, x6, x7, rfl⟩ hR
    obtain ⟨hi, rfl⟩ := range_at hd
    refine ⟨trivial, ?_⟩
    simp only [qSeq, qAsg, qTup, qCons, qNil, qOp, qUn, qC, qCall, qVar, qLst, newL_f, qIfS, qTB, qNext, qRet, qDrop, qFor, qCB, qAug, qSl, qPart, qNoPart, gNameD, gSub_eq, dInt_i, dInt0_i, dAdd_i, dCmpI_i, List.set_cons_zero, List.set_cons_succ, List.getElem?_cons_zero, List.getElem?_cons_succ, List.append_nil]
    refine ⟨ns, i, rfl, by omega, by omega, fun b hb => ?_⟩
    have mb : put M' b .bag b = some .bag := put_same
    generalize put M' b .bag = M1 at mb
    refine ⟨b, rfl, mb, fun ws wl wt => ⟨b, ws, rfl, mb, wl, wt, fun x X => ?_⟩⟩
    simp only [qiRng1, qSeq, qAsg, qTup, qCons, qNil, qOp, qUn, qC, qCall, qVar, qLst, newL_f, qIfS, qTB, qNext, qRet, qDrop, qFor, qCB, qAug, qSl, qPart, qNoPart, gNameD, gSub_eq, dInt_i, dInt0_i, dAdd_i, dCmpI_i, List.set_cons_zero, List.set_cons_succ, List.getElem?_cons_zero, List.getElem?_cons_succ, List.append_nil]
    refine ⟨by omega, by omega, ?_⟩
    refine loopL_inv (fun j p M' => M1 = M' ∧ ∃ (x : Str) (x4 x5 x6 x7 : Option D), p = [some (.scr ns), some (.int (i : Int)), some (.ref b), some (.str x), x4, x5, x6, x7] ∧ Tx_ (sz j) x) (n := 3) rfl ?_ ?_ ⟨rfl, x, _, _, _, _, rfl, X⟩
    · rintro j d p M2 R2 hd ⟨rfl, x, x4, x5, x6, x7, rfl, X⟩ hR2
      obtain ⟨hj, rfl⟩ := range_at hd
      refine ⟨trivial, ?_⟩
      simp only [qiRng1, qSeq, qAsg, qTup, qCons, qNil, qOp, qUn, qC, qCall, qVar, qLst, newL_f, qIfS, qTB, qNext, qRet, qDrop, qFor, qCB, qAug, qSl, qPart, qNoPart, gNameD, gSub_eq, dInt_i, dInt0_i, dAdd_i, dCmpI_i, List.set_cons_zero, List.set_cons_succ, List.getElem?_cons_zero, List.getElem?_cons_succ, List.append_nil]
      have hs : sz j ≤ 1000 := (by decide : ∀ j, j < 3 → sz j ≤ 1000) j (by simpa using hj)
      refine ⟨b, x, _, rfl, mb, X, hs, fun y Y => ⟨by omega, by omega, ?_⟩⟩
      refine loopL_inv (fun l p M' => M1 = M' ∧ ∃ (x5 x6 x7 : Option D), p = [some (.scr ns), some (.int (i : Int)), some (.ref b), some (.str y), some (.int (j : Int)), x5, x6, x7]) (n := 2) rfl ?_ ?_ ⟨rfl, _, _, _, rfl⟩
      · rintro l d p M2 R3 hd ⟨rfl, x5, x6, x7, rfl⟩ hR3
        refine ⟨trivial, ?_⟩
        simp only [qNot, qSeq, qAsg, qTup, qCons, qNil, qOp, qUn, qC, qCall, qVar, qLst, newL_f, qIfS, qTB, qNext, qRet, qDrop, qFor, qCB, qAug, qSl, qPart, qNoPart, gNameD, gSub_eq, dInt_i, dInt0_i, dAdd_i, dCmpI_i, List.set_cons_zero, List.set_cons_succ, List.getElem?_cons_zero, List.getElem?_cons_succ, List.append_nil]
        refine both y _ _ _ (Y.mono (by omega)) ?_
        simp only [Bool.not_true, Bool.false_eq_true, if_false]
        exact hR3 _ _ ⟨rfl, _, _, _, rfl⟩
      · rintro p M2 ⟨rfl, x5, x6, x7, rfl⟩
        exact ⟨trivial, hR2 _ _ ⟨rfl, y, _, _, _, _, rfl, Y⟩⟩
    · rintro p M2 ⟨rfl, x, x4, x5, x6, x7, rfl, X⟩
      refine ⟨trivial, ?_⟩
      simp only [qNot, qSeq, qAsg, qTup, qCons, qNil, qOp, qUn, qC, qCall, qVar, qLst, newL_f, qIfS, qTB, qNext, qRet, qDrop, qFor, qCB, qAug, qSl, qPart, qNoPart, gNameD, gSub_eq, dInt_i, dInt0_i, dAdd_i, dCmpI_i, List.set_cons_zero, List.set_cons_succ, List.getElem?_cons_zero, List.getElem?_cons_succ, List.append_nil, List.length_cons, List.length_nil]
      refine ⟨by simp, by simp, by simp, cpow_small (j := 40) (by omega) (by omega) (by decide), by simp, take_call mb (by decide) (by decide) fun r r0 r1 => pick_l r0 (by simpa using r1) fun d hd => ?_⟩
      have hT : TxD d ∧ readV d = .inr (-1) := by
        simp only [List.mem_cons, List.not_mem_nil, or_false] at hd
        rcases hd with rfl | rfl | rfl | rfl | rfl | rfl | rfl <;> exact ⟨⟨by simp [plnD, plnL], fun z hz => by cases hz⟩, rfl⟩
      refine ⟨d, rfl, hT.1, ?_⟩
      rw [hT.2]
      refine ⟨.int (-1), rfl, rfl, by rw [dep_flat rfl]; decide, by decide, ?_⟩
      simp only [Bool.not_true, Bool.false_eq_true, if_false]
      exact hR _ _ ⟨_, _, _, _, _, _, _, rfl⟩
  · rintro p M' ⟨x1, x2, x3, x4, x5, x6, x7, rfl⟩
    refine ⟨trivial, ?_⟩
    simp only [qLc, qiAny, qSeq, qAsg, qTup, qCons, qNil, qOp, qUn, qC, qCall, qVar, qLst, newL_f, qIfS, qTB, qNext, qRet, qDrop, qFor, qCB, qAug, qSl, qPart, qNoPart, gNameD, gSub_eq, dInt_i, dInt0_i, dAdd_i, dCmpI_i, List.set_cons_zero, List.set_cons_succ, List.getElem?_cons_zero, List.getElem?_cons_succ, List.append_nil, List.length_cons, List.length_nil]
    refine ⟨by simp, fun c hc => ?_⟩
    refine compL_map hc (fun _ => some (.bl true)) (fun _ => trivial) (by simp) (fun d hd acc R hR => ?_) ?_
    · obtain ⟨z, h1, rfl⟩ := List.mem_map.mp (show d ∈ txs.map D.str from hd)
      simp only [wipeD, qYes, qSeq, qAsg, qTup, qCons, qNil, qOp, qUn, qC, qCall, qVar, qLst, newL_f, qIfS, qTB, qNext, qRet, qDrop, qFor, qCB, qAug, qSl, qPart, qNoPart, gNameD, gSub_eq, dInt_i, dInt0_i, dAdd_i, dCmpI_i, List.set_cons_zero, List.set_cons_succ, List.getElem?_cons_zero, List.getElem?_cons_succ, List.append_nil, if_true]
      exact both z _ _ _ (tx_of (txs_ok z h1)) hR
    simp only [Bool.false_eq_true, if_false]
    rw [all_true_]
    exact k _
end K21

namespace K21
open PySem L2 DL Tx20 Tx21
abbrev LEVEL : Nat := 12
section
variable {P : Program} {w : World} {K : PySem.W.Frag} {mg : Str → Option Value} {base : Heap}
theorem ok_like (T : Tx w K mg) : ∀ n, FnOk P w K mg base (L2.CX P w) n T.f__law_like.f T.f__law_like.fd ["_law_told_here", "_law_due"] (toSp K (spLikeD n))
  | 0 => fn_void fun _ _ _ _ ⟨d, _, _, h, _⟩ => by omega
  | n + 1 => dv__law_like T (ok_like T n) (fun _ _ _ _ ⟨_, e, _⟩ => by rw [e]; rfl) (like_okD n _ rfl)
theorem ok_law (T : Tx w K mg) (base : Heap) : FnOk P w K mg base (L2.CX P w) LEVEL T.f_law.f T.f_law.fd ["_law_script"] (toSp K spLaw) := by
  have Gt : FnOk P w K mg base (L2.CX P w) 1 T.f__law_take.f T.f__law_take.fd ["_law_bag_here", "_law_many"] (toSp K spTake) :=
    (dv__law_take (k := 0) T (fun _ _ _ _ ⟨_, _, _, _, e, _⟩ => by rw [e]; rfl) take_ok).imp fun _ _ _ _ h => imp_take h
  have Gb : FnOk P w K mg base (L2.CX P w) 1 T.f__law_bag.f T.f__law_bag.fd ["_law_script", "_law_at"] (toSp K spBag) :=
    (dv__law_bag (k := 0) T (fun _ _ _ _ ⟨_, _, e, _⟩ => by rw [e]; rfl) bag2_ok).imp fun _ _ _ _ h => imp_bag h
  have Gw := dv_is_whole (P := P) (base := base) (k := 0) T (p := spIsWhole) (fun _ _ _ _ ⟨_, _, _, e, _⟩ => by rw [e]; rfl) whole_ok
  have Gn := dv_is_name (P := P) (base := base) (k := 0) T (p := spIsName) (fun _ _ _ _ ⟨_, e, _⟩ => by rw [e]; rfl) name_ok
  have Gp := dv_plain_number (P := P) (base := base) (k := 0) T (p := spPlain) (fun _ _ _ _ ⟨_, e, _⟩ => by rw [e]; rfl) plain_ok
  have Gi := dv_is_word T Gn Gw Gp (p := spIsWord) (fun _ _ _ _ ⟨_, _, _, e, _⟩ => by rw [e]; rfl) isword_ok
  have Gr := dv_read_call (by decide) T Gi (Gp.mono (by decide)) (p := spRead T.c_BadText.C) (fun _ _ _ _ ⟨_, e, _⟩ => by rw [e]; rfl) (read_ok _)
  have Glp := dv__law_plain (P := P) (base := base) (k := 0) T (p := spLPlain) (fun _ _ _ _ ⟨_, e, _⟩ => by rw [e]; rfl) lplain_ok
  have Glr := dv__law_read T Glp (p := spLRead) (fun _ _ _ _ ⟨_, e, _⟩ => by rw [e]; rfl) lread_ok
  have Gws := dv__law_words T Gt (p := spWords) (fun _ _ _ _ ⟨_, e, _⟩ => by rw [e]; rfl) words_ok
  have Gtx := dv__law_text T Gt (p := spText) (fun _ _ _ _ ⟨_, _, e, _⟩ => by rw [e]; rfl) text_ok
  have Gsp := dv__law_spoilt T Gt (p := spSpoilt) (fun _ _ _ _ ⟨_, _, _, e, _⟩ => by rw [e]; rfl) spoilt_ok
  have Gto := dv__law_told T Gr (p := spTold) (fun _ _ _ _ ⟨_, e, _⟩ => by rw [e]; rfl) (told_ok _ _ _ _ _ _)
  exact dv_law (k := 11) T (Gb.mono (by decide)) ((ok_like T 8).mono (by decide)) (Glr.mono (by decide)) (Gsp.mono (by decide)) (Gt.mono (by decide)) (Gtx.mono (by decide)) (Gto.mono (by decide)) (Gws.mono (by decide)) (fun _ _ _ _ ⟨_, e, _⟩ => by rw [e]; rfl) law_ok
end
end K21

open PySem PySem.W PyProof.Rows in
set_option maxRecDepth 100000 in
set_option maxHeartbeats 0 in
theorem PySem.Challenge.cw_whistleboard_k21_calls_nearly_read_holds : PySem.Challenge.rw_whistleboard_k21_calls_nearly_read.Holds := by
  w_on; o_law; k_head; (case hw => w_witness2)
  k_fill
  refine DL.walk (l := PySem.Challenge.rw_whistleboard_k21_calls_nearly_read) (k := K21.LEVEL) (by decide) rfl rfl (fun w h Y => PySem.W.kIn_of Y) ?F
  case F =>
    intro w mg fa h KX G hmg
    refine' K21.all_mk KX G hmg ?a0 ?l0 ?c0 ?k0 ?a1 ?l1 ?c1 ?k1 ?a2 ?l2 ?c2 ?k2 ?a3 ?l3 ?c3 ?k3 ?a4 ?l4 ?c4 ?k4 ?a5 ?l5 ?c5 ?k5 ?a6 ?l6 ?c6 ?k6 ?a7 ?l7 ?c7 ?k7 ?a8 ?l8 ?c8 ?k8 ?a9 ?l9 ?c9 ?k9 ?a10 ?l10 ?c10 ?k10 ?a11 ?l11 ?c11 ?k11 ?a12 ?l12 ?c12 ?k12 ?a13 ?l13 ?c13 ?k13 ?a14 ?l14 ?c14 ?k14 ?z0 ?z1 ?z2 ?z3 ?z4 ?z5 ?z6 ?z7 ?z8 ?z9 ?z10 ?z11 ?z12 ?z13 ?z14 ?lit0 ?lit1 ?lit2 ?lit3 ?lit4 ?ka0 ?kb0 ?xa0 ?xL0 ?xsa0 ?xi0 ?xt0 ?xl0 ?xc0 ?xkf0 ?xn0_0 ?xv0 ?xk0 ?xex0 ?xty0 ?xhd0 ?xss0 ?xga0 ?xgg0 ?xcl0 ?xge0 ?xtk0 ?xmo0 ?ya0 ?ya1 ?ya2 ?ya3 ?ya4 ?ki0 ?ki1 (fun T base => K21.ok_law T base)
    (case a0 => k_is)
    (case l0 => k_is)
    (case c0 => k_is)
    (case k0 => k_is)
    (case a1 => k_is)
    (case l1 => k_is)
    (case c1 => k_is)
    (case k1 => k_is)
    (case a2 => k_is)
    (case l2 => k_is)
    (case c2 => k_is)
    (case k2 => k_is)
    (case a3 => k_is)
    (case l3 => k_is)
    (case c3 => k_is)
    (case k3 => k_is)
    (case a4 => k_is)
    (case l4 => k_is)
    (case c4 => k_is)
    (case k4 => k_is)
    (case a5 => k_is)
    (case l5 => k_is)
    (case c5 => k_is)
    (case k5 => k_is)
    (case a6 => k_is)
    (case l6 => k_is)
    (case c6 => k_is)
    (case k6 => k_is)
    (case a7 => k_is)
    (case l7 => k_is)
    (case c7 => k_is)
    (case k7 => k_is)
    (case a8 => k_is)
    (case l8 => k_is)
    (case c8 => k_is)
    (case k8 => k_is)
    (case a9 => k_is)
    (case l9 => k_is)
    (case c9 => k_is)
    (case k9 => k_is)
    (case a10 => k_is)
    (case l10 => k_is)
    (case c10 => k_is)
    (case k10 => k_is)
    (case a11 => k_is)
    (case l11 => k_is)
    (case c11 => k_is)
    (case k11 => k_is)
    (case a12 => k_is)
    (case l12 => k_is)
    (case c12 => k_is)
    (case k12 => k_is)
    (case a13 => k_is)
    (case l13 => k_is)
    (case c13 => k_is)
    (case k13 => k_is)
    (case a14 => k_is)
    (case l14 => k_is)
    (case c14 => k_is)
    (case k14 => k_is)
    (case z0 => k_is)
    (case z1 => k_is)
    (case z2 => k_is)
    (case z3 => k_is)
    (case z4 => k_is)
    (case z5 => k_is)
    (case z6 => k_is)
    (case z7 => k_is)
    (case z8 => k_is)
    (case z9 => k_is)
    (case z10 => k_is)
    (case z11 => k_is)
    (case z12 => k_is)
    (case z13 => k_is)
    (case z14 => k_is)
    (case lit0 => k_is)
    (case lit1 => k_is)
    (case lit2 => k_is)
    (case lit3 => k_is)
    (case lit4 => k_is)
    (case ka0 => k_is)
    (case kb0 => rfl)
    (case xa0 => k_is)
    (case xL0 => k_is)
    (case xsa0 => k_is)
    (case xi0 => k_is)
    (case xt0 => k_is)
    (case xl0 => k_is)
    (case xc0 => k_is)
    (case xkf0 => k_is)
    (case xn0_0 => k_is)
    (case xv0 => k_is)
    (case xk0 => k_is)
    (case xex0 => k_is)
    (case xty0 => k_is)
    (case xhd0 => k_is)
    (case xss0 => first | rfl | k_is)
    (case xga0 => k_is)
    (case xgg0 => k_is)
    (case xcl0 => k_is)
    (case xge0 => k_is)
    (case xtk0 => k_is)
    (case xmo0 => k_is)
    (case ya0 => k_is)
    (case ya1 => k_is)
    (case ya2 => k_is)
    (case ya3 => k_is)
    (case ya4 => k_is)
    (case ki0 => kit_is)
    (case ki1 => kit_is)
#print axioms PySem.Challenge.cw_whistleboard_k21_calls_nearly_read_holds
