import PyProof.Rows.All
import Wide.All
import OpenK.AllK
import Wide.FinOn
import PyProof.EqAt
import PyProof.EqKinds
import PyProof.TupleCall
import HandS.ForMost
import HandS.ForExc
import HandS.CallSlots
import HandS.Lambda
import HandS.TupAny
import HandS.Style
import HandS.IsInst
import HandS.Codes
import KE.SortData
import HandS.SetKeys
import HandS.SetFor
import HandS.Defaults
import HandS.SortInts
import HandS.Strs
import KE.KDictPairs
import PyProof.StrOps2
import HandS.Text
import HandS.TupMul
import HandS.IntHex
import HandS.HeadHook3
import HandS.RaiseMore
import HandS.Zip
import KE.KWords
import KE.KStrOpen
import KE.KIntText
import PyProof.Rows.StrCase
import KE.KExcInit
import KE.KExcIs
import HandS.ExcInit
import HandS.ExcField
import HandS.ExcOwn
import HandS.ExcIs
import KE.KDictList
import HandS.More
import HandS.Conv
import KE.IntTextLaws
import PyProof.StrLawsChain
import PyProof.StrLawsTight
import PyProof.Rows.StrItems
import HandS.MakeKw
import HandS.SortKw
import HandS.Deep
import KE.GoesEnum
import KE.GoesEnumKw
import KE.GoesMore
import HandS.HotCalls
import HandS.OwnEq
import HandS.EndTab
import HandS.TryOnly
import HandS.Records
import PyProof.ListTruth
import HandS.FStr
import KE.DataCmp
import HandS.Dict
import KE.KDictWalk
import HandS.Exc
import KE.KTryMore
import PyProof.DictUpdate
import HandS.StrMore
import PyProof.TupleOfSeq
import PySem.Challenge.RW_whistleboard_k23_deeds_faults
set_option Elab.async false
set_option linter.all false
set_option maxRecDepth 100000
set_option maxHeartbeats 0
namespace DL
open PySem L2
/-- (xtp: a tuple whose very object is known, without a dict of its own) data: None, truths, numbers, texts, tuples, lists that are changed no more, dicts that are changed no more, instances that are changed no more; exc: an exception in hand (its dict, its fields); ref: an object that may change, or one of the program's own -/
inductive D where
  | non | bl (b : Bool) | int (i : Int) | str (x : Str) | ty (n : String) | ref (a : Addr)
  | tup (xs : List D) | lst (xs : List D)
  | ktp (xs : List D)
  | xtp (xs : List D)
  | scr (ns : List Int)
  | dct (ks : List Key) (xs : List D)
  | ins (C : Addr) (ns : List Str) (xs : List D)
  | exc (a : Addr) (dx : Option Addr) (ns : List Str) (xs : List D)
  | fnv (f c : Addr) (q : Str) (vs : List V) (xs : List D)
/-- objects that may change -/
inductive MO where
  | lst (xs : List D)
  | dK (kvs : List (Key × D))
  | dT (kvs : List (List Key × D))
  | ins (C : Addr) (fs : List (Str × D))
  | lk (ho : HO) (kvs : List (Key × D))
  | lkT (ho : HO) (kvs : List (List Key × D))
  | bag
  | tab (q : Str)
abbrev Mst := Addr → Option MO
/-- a key that is an int, or a text as they are -/
def kOk : Key → Prop
  | .inl _ => True
  | .inr x => x.length ≤ sizeLine ∧ PyData.strOk x = true
mutual
def Rep (K : PySem.W.Frag) (G : Hp) : D → V → Prop
  | .non, v => v = .non
  | .bl b, v => v = .bl b
  | .int i, v => v = .int i
  | .str x, v => v = .str x ∧ x.length ≤ sizeLine ∧ PyData.strOk x = true
  | .ty n, v => v = .ty n
  | .ref a, v => v = .ref a
  | .tup ds, v => ∃ a vs, v = .ref a ∧ G a = some (.tup vs) ∧ RepL K G ds vs ∧ vs.length ≤ sizeLine
  | .ktp ds, v => ∃ a vs, v = .ref a ∧ SqT K G a vs ∧ RepL K G ds vs ∧ vs.length ≤ sizeLine
  | .xtp ds, v => ∃ a o vs, v = .ref a ∧ G a = some (.frz o (.tup vs)) ∧ o.dict = none ∧ RepL K G ds vs ∧ vs.length ≤ sizeLine
  | .lst ds, v => ∃ a vs, v = .ref a ∧ G a = some (.lst vs) ∧ RepL K G ds vs ∧ vs.length ≤ sizeLine
  | .scr ns, v => ∃ a, v = .ref a ∧ SqL K G a (ns.map V.int) ∧ ns.length ≤ 63
  | .dct ks ds, v => ∃ a kvs, v = .ref a ∧ Rd G a (.dK kvs) ∧ kvs.map (·.1) = ks ∧ RepL K G ds (kvs.map (·.2)) ∧ kvs.length ≤ sizeLine ∧ ∀ k ∈ ks, kOk k
  | .ins C ns ds, v => ∃ a dx fs, v = .ref a ∧ G a = some (.ins C dx fs) ∧ fs.map (·.1) = ns ∧ RepL K G ds (fs.map (·.2))
  | .exc a dx ns ds, v => v = .ref a ∧ (ns = [] ∧ dx = none ∨ ∃ d fs, dx = some d ∧ G d = some (.xd fs) ∧ fs.map (·.1) = ns ∧ RepL K G ds (fs.map (·.2)))
  | .fnv f c q vs ds, v => v = .ref f ∧ G c = some (LamX.CodeO c q) ∧ RepL K G ds vs
def RepL (K : PySem.W.Frag) (G : Hp) : List D → List V → Prop
  | [], vs => vs = []
  | d :: ds, vs => ∃ v r, vs = v :: r ∧ Rep K G d v ∧ RepL K G ds r
end
theorem same_rd {H H' : Hp} {a : Addr} {u : HO} (e : Same H H') (h : Rd H a u) : Rd H' a u := by
  rcases h with h | ⟨o, h⟩
  · exact .inl (e _ _ h)
  · exact .inr ⟨o, e _ _ h⟩
theorem same_t {K : PySem.W.Frag} {H H' : Hp} {a : Addr} {xs : List V} (e : Same H H') (h : SqT K H a xs) : SqT K H' a xs := by
  rcases h with h | h
  · exact .inl (same_rd e h)
  · exact .inr h
theorem same_l {K : PySem.W.Frag} {H H' : Hp} {a : Addr} {xs : List V} (e : Same H H') (h : SqL K H a xs) : SqL K H' a xs := e.seq h
mutual
theorem Rep.mono {K : PySem.W.Frag} {G G' : Hp} (e : Same G G') : ∀ (d : D) (v : V), Rep K G d v → Rep K G' d v
  | .non, _, h => h
  | .bl _, _, h => h
  | .int _, _, h => h
  | .str _, _, h => h
  | .ty _, _, h => h
  | .ref _, _, h => h
  | .tup ds, _, ⟨a, vs, h1, h2, h3, h4⟩ => ⟨a, vs, h1, e _ _ h2, RepL.mono e ds vs h3, h4⟩
  | .ktp ds, _, ⟨a, vs, h1, h2, h3, h4⟩ => ⟨a, vs, h1, same_t e h2, RepL.mono e ds vs h3, h4⟩
  | .xtp ds, _, ⟨a, o, vs, h1, h2, h3, h4, h5⟩ => ⟨a, o, vs, h1, e _ _ h2, h3, RepL.mono e ds vs h4, h5⟩
  | .lst ds, _, ⟨a, vs, h1, h2, h3, h4⟩ => ⟨a, vs, h1, e _ _ h2, RepL.mono e ds vs h3, h4⟩
  | .scr _, _, ⟨a, h1, h2, h3⟩ => ⟨a, h1, same_l e h2, h3⟩
  | .dct _ ds, _, ⟨a, kvs, h1, h2, h3, h4, h5, h6⟩ => ⟨a, kvs, h1, same_rd e h2, h3, RepL.mono e ds _ h4, h5, h6⟩
  | .ins _ _ ds, _, ⟨a, dx, fs, h1, h2, h3, h4⟩ => ⟨a, dx, fs, h1, e _ _ h2, h3, RepL.mono e ds _ h4⟩
  | .exc _ _ _ ds, _, ⟨h0, h⟩ => ⟨h0, h.imp id fun ⟨d, fs, h1, h2, h3, h4⟩ => ⟨d, fs, h1, e _ _ h2, h3, RepL.mono e ds _ h4⟩⟩
  | .fnv _ _ _ vs ds, _, ⟨h1, h2, h3⟩ => ⟨h1, e _ _ h2, RepL.mono e ds vs h3⟩
theorem RepL.mono {K : PySem.W.Frag} {G G' : Hp} (e : Same G G') : ∀ (ds : List D) (vs : List V), RepL K G ds vs → RepL K G' ds vs
  | [], _, h => h
  | d :: ds, _, ⟨v, r, h1, h2, h3⟩ => ⟨v, r, h1, Rep.mono e d v h2, RepL.mono e ds r h3⟩
end
section
variable {K : PySem.W.Frag} {G G' H H' : Hp} {d : D} {ds : List D} {v : V} {vs : List V}
theorem RepL.nil : RepL K G [] [] := rfl
theorem RepL.cons (h : Rep K G d v) (r : RepL K G ds vs) : RepL K G (d :: ds) (v :: vs) := ⟨v, vs, rfl, h, r⟩
theorem RepL.length : ∀ {ds : List D} {vs : List V}, RepL K G ds vs → vs.length = ds.length
  | [], _, h => by cases h; rfl
  | d :: ds, _, ⟨v, r, h1, h2, h3⟩ => by cases h1; simp [RepL.length h3]
theorem RepL.get : ∀ {ds : List D} {vs : List V} {i : Nat} {d : D}, RepL K G ds vs → ds[i]? = some d → ∃ v, vs[i]? = some v ∧ Rep K G d v
  | [], _, _, _, h, e => by simp at e
  | d :: ds, _, 0, _, ⟨v, r, h1, h2, h3⟩, e => by cases h1; simp at e; subst e; exact ⟨v, rfl, h2⟩
  | d :: ds, _, i + 1, _, ⟨v, r, h1, h2, h3⟩, e => by
    cases h1
    obtain ⟨u, a, b⟩ := RepL.get (i := i) h3 (by simpa using e)
    exact ⟨u, by simpa using a, b⟩
theorem RepL.append : ∀ {ds es : List D} {vs us : List V}, RepL K G ds vs → RepL K G es us → RepL K G (ds ++ es) (vs ++ us)
  | [], _, _, _, h, r => by cases h; simpa using r
  | d :: ds, _, _, _, ⟨v, q, h1, h2, h3⟩, r => by
    cases h1
    exact ⟨v, _, rfl, h2, RepL.append h3 r⟩
theorem RepL.take : ∀ {ds : List D} {vs : List V} (n : Nat), RepL K G ds vs → RepL K G (ds.take n) (vs.take n)
  | [], _, n, h => by cases h; simp; rfl
  | d :: ds, _, 0, h => by simp; rfl
  | d :: ds, _, n + 1, ⟨v, q, h1, h2, h3⟩ => by
    cases h1
    exact ⟨v, _, rfl, h2, RepL.take n h3⟩
theorem RepL.drop : ∀ {ds : List D} {vs : List V} (n : Nat), RepL K G ds vs → RepL K G (ds.drop n) (vs.drop n)
  | [], _, n, h => by cases h; simp; rfl
  | d :: ds, _, 0, h => by simpa using h
  | d :: ds, _, n + 1, ⟨v, q, h1, h2, h3⟩ => by
    cases h1
    simpa using RepL.drop n h3
theorem RepL.set : ∀ {ds : List D} {vs : List V} (n : Nat), RepL K G ds vs → Rep K G d v → RepL K G (ds.set n d) (vs.set n v)
  | [], _, n, h, _ => by cases h; simp; rfl
  | e :: ds, _, 0, ⟨w, q, h1, h2, h3⟩, r => by cases h1; exact ⟨v, _, rfl, r, h3⟩
  | e :: ds, _, n + 1, ⟨w, q, h1, h2, h3⟩, r => by
    cases h1
    exact ⟨w, _, rfl, h2, RepL.set n h3 r⟩
theorem RepL.reverse : ∀ {ds : List D} {vs : List V}, RepL K G ds vs → RepL K G ds.reverse vs.reverse
  | [], _, h => by cases h; simp; rfl
  | d :: ds, _, ⟨v, q, h1, h2, h3⟩ => by
    cases h1
    rw [List.reverse_cons, List.reverse_cons]
    exact RepL.append (RepL.reverse h3) (RepL.cons h2 rfl)
end
/-- what a mutable object is -/
def RepM (K : PySem.W.Frag) (G H : Hp) (a : Addr) : MO → Prop
  | .lst ds => ∃ vs, H a = some (.lst vs) ∧ RepL K G ds vs ∧ vs.length ≤ sizeLine
  | .dK kvs => ∃ kv : List (Key × V), H a = some (.dK kv) ∧ kv.map (·.1) = kvs.map (·.1) ∧ RepL K G (kvs.map (·.2)) (kv.map (·.2)) ∧ kv.length ≤ sizeLine ∧ ∀ q ∈ kvs, kOk q.1
  | .dT kvs => ∃ kv : List (List Key × V), H a = some (.dT kv) ∧ kv.map (·.1) = kvs.map (·.1) ∧ RepL K G (kvs.map (·.2)) (kv.map (·.2)) ∧ kv.length ≤ sizeLine ∧ ∀ q ∈ kvs, q.1.length ≤ sizeLine ∧ ∀ k ∈ q.1, kOk k
  | .ins C fs => ∃ dx fv, H a = some (.ins C dx fv) ∧ fv.map (·.1) = fs.map (·.1) ∧ RepL K G (fs.map (·.2)) (fv.map (·.2))
  | .lk ho kvs => ∃ (o : Obj) (kv : List (Key × V)), ho = .frz o (.dK kv) ∧ H a = some ho ∧ kv.map (·.1) = kvs.map (·.1) ∧ RepL K G (kvs.map (·.2)) (kv.map (·.2)) ∧ kv.length ≤ sizeLine ∧ ∀ q ∈ kvs, kOk q.1
  | .lkT ho kvs => ∃ (o : Obj) (kv : List (List Key × V)), ho = .frz o (.dT kv) ∧ H a = some ho ∧ kv.map (·.1) = kvs.map (·.1) ∧ RepL K G (kvs.map (·.2)) (kv.map (·.2)) ∧ kv.length ≤ sizeLine ∧ ∀ q ∈ kvs, q.1.length ≤ sizeLine ∧ ∀ k ∈ q.1, kOk k
  | .bag => ∃ g m : Int, H a = some (.lst [.int g, .int m]) ∧ 0 ≤ g ∧ 0 ≤ m ∧ m < 2147483648
  | .tab q => (∀ b ps, G b ≠ some (.tbl ps)) ∧ ∃ ps, H a = some (.tbl ps) ∧ PySem.TriplesOk ps.toList ∧ ∀ (pos : Pos) (cv : Value), codeAmong pos ps.toList = some cv → ∃ c, cv = .ref c ∧ G c = some (LamX.CodeO c q)
/-- no tables are known for good -/
def NoTab (G G' : Hp) : Prop := (∀ b ps, G b ≠ some (.tbl ps)) → ∀ b ps, G' b ≠ some (.tbl ps)
theorem NoTab.refl (G : Hp) : NoTab G G := fun h => h
theorem NoTab.upd {G : Hp} {a : Addr} {o : HO} (ho : ∀ ps, o ≠ .tbl ps) : NoTab G (L2.upd G a o) := fun h b ps e => by
  by_cases z : b = a
  · subst z; rw [upd_same] at e; cases e; exact ho ps rfl
  · rw [upd_ne z] at e; exact h b ps e
/-- the mutable objects stand in H, apart from what is known for good (G) -/
def MemOk (K : PySem.W.Frag) (G H : Hp) (M : Mst) : Prop := ∀ a o, M a = some o → G a = none ∧ RepM K G H a o
abbrev Rho := List (Option D)
/-- the slots, the heap and what is known of them -/
structure Sim (K : PySem.W.Frag) (G H : Hp) (p : Rho) (M : Mst) (s : St) : Prop where
  same : Same G H
  env : ∀ (i : Nat) (d : D), p[i]? = some (some d) → ∃ v, s[i]? = some (some v) ∧ Rep K G d v
  len : s.length = p.length
  mem : MemOk K G H M
/-- an exception: its class, its fields -/
structure DX where
  cls : Value
  fs : List (Str × D)
def RepX (K : PySem.W.Frag) (G : Hp) (x : DX) (cls : Value) (dx : Option Addr) : Prop :=
  cls = x.cls ∧ (x.fs = [] ∧ (∀ C, x.cls = .ref C → dx = none) ∨ ∃ d vf, dx = some d ∧ G d = some (.xd vf) ∧ vf.map (·.1) = x.fs.map (·.1) ∧ RepL K G (x.fs.map (·.2)) (vf.map (·.2)))
abbrev DK := D → Mst → Prop
abbrev DWt := DX → Rho → Mst → Prop
abbrev DTE := DWt → Rho → Mst → DK → Prop
abbrev DTT := DWt → Rho → Mst → (Bool → Mst → Prop) → Prop
abbrev DTA := DWt → Rho → Mst → (List D → Mst → Prop) → Prop
structure DEnds where
  nx : Rho → Mst → Prop
  rt : DK
  bk : Rho → Mst → Prop := fun _ _ => False
  ct : Rho → Mst → Prop := fun _ _ => False
abbrev DTS := DWt → DEnds → Rho → Mst → Prop
abbrev DTG := D → DWt → Rho → Mst → (Rho → Mst → Prop) → Prop
abbrev DTGs := List D → DWt → Rho → Mst → (Rho → Mst → Prop) → Prop
abbrev DOp := D → D → Mst → DK → Prop
abbrev DUn := D → Mst → DK → Prop
abbrev DCa := List D → Mst → DK → Prop
/-- a promise by data -/
abbrev DSp := List D → Mst → DK → (DX → Mst → Prop) → Prop
/-- the wish about exceptions -/
def WLink (K : PySem.W.Frag) (G : Hp) (DW : DWt) (W : WX) : Prop := ∀ G' H' p' M' s' x cls dx, Same G G' → Sim K G' H' p' M' s' → RepX K G' x cls dx → DW x p' M' → W cls dx s' H'
theorem WLink.mono {K : PySem.W.Frag} {G G' : Hp} {DW : DWt} {W : WX} (e : Same G G') (h : WLink K G DW W) : WLink K G' DW W :=
  fun G2 H' p' M' s' x cls dx e2 => h G2 H' p' M' s' x cls dx (e.trans e2)
def RefE (K : PySem.W.Frag) (W : WX) (t : TE) (q : DTE) : Prop := ∀ DW G H p M s (Q : DK) (Q' : VK), WLink K G DW W → Sim K G H p M s → q DW p M Q →
  (∀ G' H' M' d v, Same G G' → Sim K G' H' p M' s → Rep K G' d v → Q d M' → Q' v H') → t s H Q'
def RefT (K : PySem.W.Frag) (W : WX) (t : TT) (q : DTT) : Prop := ∀ DW G H p M s (Q : Bool → Mst → Prop) (Q' : Bool → Hp → Prop), WLink K G DW W → Sim K G H p M s → q DW p M Q →
  (∀ G' H' M' b, Same G G' → Sim K G' H' p M' s → Q b M' → Q' b H') → t s H Q'
def RefA (K : PySem.W.Frag) (W : WX) (t : TA) (q : DTA) : Prop := ∀ DW G H p M s (Q : List D → Mst → Prop) (Q' : List V → Hp → Prop), WLink K G DW W → Sim K G H p M s → q DW p M Q →
  (∀ G' H' M' ds vs, Same G G' → Sim K G' H' p M' s → RepL K G' ds vs → Q ds M' → Q' vs H') → t s H Q'
structure EndsOk (K : PySem.W.Frag) (G : Hp) (DE : DEnds) (E : Ends) : Prop where
  nx : ∀ G' H' p' M' s', Same G G' → Sim K G' H' p' M' s' → DE.nx p' M' → E.nx s' H'
  rt : ∀ G' H' p' M' s' d v, Same G G' → Sim K G' H' p' M' s' → Rep K G' d v → DE.rt d M' → E.rt v H'
  bk : ∀ G' H' p' M' s', Same G G' → Sim K G' H' p' M' s' → DE.bk p' M' → E.bk s' H'
  ct : ∀ G' H' p' M' s', Same G G' → Sim K G' H' p' M' s' → DE.ct p' M' → E.ct s' H'
theorem EndsOk.mono {K : PySem.W.Frag} {G G' : Hp} {DE : DEnds} {E : Ends} (e : Same G G') (h : EndsOk K G DE E) : EndsOk K G' DE E :=
  ⟨fun G2 H' p' M' s' e2 => h.nx G2 H' p' M' s' (e.trans e2), fun G2 H' p' M' s' d v e2 => h.rt G2 H' p' M' s' d v (e.trans e2),
    fun G2 H' p' M' s' e2 => h.bk G2 H' p' M' s' (e.trans e2), fun G2 H' p' M' s' e2 => h.ct G2 H' p' M' s' (e.trans e2)⟩
def RefS (K : PySem.W.Frag) (W : WX) (t : TS) (q : DTS) : Prop := ∀ DW G H p M s (DE : DEnds) (E : Ends), WLink K G DW W → Sim K G H p M s → q DW DE p M → EndsOk K G DE E → t E s H
/-- rules by values -/
def RefR2 (K : PySem.W.Frag) (r : R2) (q : DOp) : Prop := ∀ G H p M s x y v u (Q : DK) (Q' : VK), Sim K G H p M s → Rep K G x v → Rep K G y u → q x y M Q →
  (∀ G' H' M' d w, Same G G' → Sim K G' H' p M' s → Rep K G' d w → Q d M' → Q' w H') → r v u H Q'
def RefU (K : PySem.W.Frag) (r : V → Hp → VK → Prop) (q : DUn) : Prop := ∀ G H p M s x v (Q : DK) (Q' : VK), Sim K G H p M s → Rep K G x v → q x M Q →
  (∀ G' H' M' d w, Same G G' → Sim K G' H' p M' s → Rep K G' d w → Q d M' → Q' w H') → r v H Q'
def RefC (K : PySem.W.Frag) (r : List V → Hp → VK → Prop) (q : DCa) : Prop := ∀ G H p M s ds vs (Q : DK) (Q' : VK), Sim K G H p M s → RepL K G ds vs → q ds M Q →
  (∀ G' H' M' d w, Same G G' → Sim K G' H' p M' s → Rep K G' d w → Q d M' → Q' w H') → r vs H Q'
structure QE (X : Cx) (W : WX) (e : Expr) (t : TE) (q : DTE) : Prop where
  pe : PE X e t
  rf : RefE X.K W t q
structure QT (X : Cx) (W : WX) (e : Expr) (t : TT) (q : DTT) : Prop where
  pe : PT X e t
  rf : RefT X.K W t q
structure QW (X : Cx) (W : WX) (e : Expr) (t : TT) (q : DTT) : Prop where
  pe : PW X e t
  rf : RefT X.K W t q
structure QA (X : Cx) (W : WX) (es : List Expr) (t : TA) (q : DTA) : Prop where
  pe : PA X es t
  rf : RefA X.K W t q
structure QS (X : Cx) (W : WX) (st : Stmt) (t : TS) (q : DTS) : Prop where
  pe : PS X st t
  rf : RefS X.K W t q
structure QSs (X : Cx) (W : WX) (st : List Stmt) (t : TS) (q : DTS) : Prop where
  pe : PSs X st t
  rf : RefS X.K W t q
structure QOp (X : Cx) (f : Value → Value → Sem Value) (r : R2) (q : DOp) : Prop where
  op : OpR X f r
  rf : RefR2 X.K r q
structure QCa (X : Cx) (f : Value) (r : List V → Hp → VK → Prop) (q : DCa) : Prop where
  op : CallR X f r
  rf : RefC X.K r q
theorem QW.t {X : Cx} {W : WX} {e : Expr} {t : TT} {q : DTT} (h : QW X W e t q) : QT X W e t q := ⟨h.pe.pt, h.rf⟩
def put (M : Mst) (a : Addr) (o : MO) : Mst := fun b => if b = a then some o else M b
def del (M : Mst) (a : Addr) : Mst := fun b => if b = a then none else M b
section
variable {M : Mst} {a b : Addr} {o u : MO}
@[simp] theorem put_same : put M a o a = some o := by simp [put]
theorem put_ne (h : b ≠ a) : put M a o b = M b := by simp [put, h]
@[simp] theorem put_put : put (put M a o) a u = put M a u := by
  funext c; unfold put; split <;> rfl
@[simp] theorem del_put (h : M a = none) : del (put M a o) a = M := by
  funext c
  unfold del put
  split
  · next e => rw [e, h]
  · rfl
theorem put_id (h : M a = some o) : put M a o = M := by
  funext c; unfold put; split
  · next e => rw [e, h]
  · rfl
end
section
variable {K : PySem.W.Frag} {G G' H H' : Hp} {p : Rho} {M : Mst} {s : St} {a : Addr} {o : HO} {mo : MO}
theorem RepM.mono {a : Addr} {mo : MO} (e : Same G G') (h : RepM K G H a mo) (hh : H' a = H a) (ht : NoTab G G') : RepM K G' H' a mo := by
  cases mo with
  | lst ds => obtain ⟨vs, h1, h2, h3⟩ := h; exact ⟨vs, hh.trans h1, RepL.mono e _ _ h2, h3⟩
  | dK kvs => obtain ⟨vs, h1, h2, h3, h4⟩ := h; exact ⟨vs, hh.trans h1, h2, RepL.mono e _ _ h3, h4⟩
  | dT kvs => obtain ⟨vs, h1, h2, h3, h4⟩ := h; exact ⟨vs, hh.trans h1, h2, RepL.mono e _ _ h3, h4⟩
  | ins C fs => obtain ⟨dx, vs, h1, h2, h3⟩ := h; exact ⟨dx, vs, hh.trans h1, h2, RepL.mono e _ _ h3⟩
  | lk ho kvs => obtain ⟨o, vs, h0, h1, h2, h3, h4⟩ := h; exact ⟨o, vs, h0, hh.trans h1, h2, RepL.mono e _ _ h3, h4⟩
  | lkT ho kvs => obtain ⟨o, vs, h0, h1, h2, h3, h4⟩ := h; exact ⟨o, vs, h0, hh.trans h1, h2, RepL.mono e _ _ h3, h4⟩
  | bag => obtain ⟨g, m, h1, h2⟩ := h; exact ⟨g, m, hh.trans h1, h2⟩
  | tab q => obtain ⟨nt, ps, h1, h2, h3⟩ := h; exact ⟨ht nt, ps, hh.trans h1, h2, fun pos cv hc => by obtain ⟨c, e1, e2⟩ := h3 pos cv hc; exact ⟨c, e1, e _ _ e2⟩⟩
theorem RepM.there (h : RepM K G H a mo) : ∃ o, H a = some o := by
  cases mo with
  | lst ds => obtain ⟨vs, h1, _⟩ := h; exact ⟨_, h1⟩
  | dK ds => obtain ⟨vs, h1, _⟩ := h; exact ⟨_, h1⟩
  | dT ds => obtain ⟨vs, h1, _⟩ := h; exact ⟨_, h1⟩
  | ins C ds => obtain ⟨dx, vs, h1, _⟩ := h; exact ⟨_, h1⟩
  | lk ho ds => obtain ⟨o, vs, _, h1, _⟩ := h; exact ⟨_, h1⟩
  | lkT ho ds => obtain ⟨o, vs, _, h1, _⟩ := h; exact ⟨_, h1⟩
  | bag => obtain ⟨g, vs, h1, _⟩ := h; exact ⟨_, h1⟩
  | tab q => obtain ⟨_, ps, h1, _⟩ := h; exact ⟨_, h1⟩
theorem MemOk.fresh (h : MemOk K G H M) (e : H a = none) : M a = none := by
  cases q : M a with
  | none => rfl
  | some u =>
    obtain ⟨o, r⟩ := (h a u q).2.there
    rw [e] at r; cases r
theorem Same.upd (e : Same G H) (hn : H a = none) : Same (upd G a o) (upd H a o) := fun b u q => by
  by_cases h : b = a
  · subst h; rw [upd_same] at q ⊢; exact q
  · rw [upd_ne h] at q ⊢; exact e _ _ q
theorem same_new (hn : H a = none) : Same H (upd H a o) := fun b u q => by rw [upd_ne (ne_of_none q hn)]; exact q
/-- what is frozen grows by what is not mutable -/
theorem MemOk.grow (h : MemOk K G H M) (e : Same G G') (ht : NoTab G G') (hk : ∀ b u, M b = some u → H' b = H b) (hg : ∀ b u, M b = some u → G' b = none) : MemOk K G' H' M := fun b u q =>
  ⟨hg b u q, (h b u q).2.mono e (hk b u q) ht⟩
/-- a new object that will not change -/
theorem Sim.made (S : Sim K G H p M s) (hn : H a = none) (ho : ∀ ps, o ≠ .tbl ps := by intro _ h; cases h) : Same G (L2.upd G a o) ∧ Sim K (L2.upd G a o) (L2.upd H a o) p M s := by
  have gn : G a = none := S.same.free hn
  have mn : M a = none := S.mem.fresh hn
  have e : Same G (L2.upd G a o) := same_new gn
  have ne : ∀ b u, M b = some u → b ≠ a := fun b u q z => by rw [z, mn] at q; cases q
  refine ⟨e, Same.upd S.same hn, fun i d q => ?_, S.len, S.mem.grow e (.upd ho) (fun b u q => upd_ne (ne b u q)) (fun b u q => by rw [upd_ne (ne b u q)]; exact (S.mem b u q).1)⟩
  obtain ⟨v, h1, h2⟩ := S.env i d q
  exact ⟨v, h1, Rep.mono e _ _ h2⟩
/-- a mutable object is new, or changes -/
theorem Sim.put (S : Sim K G H p M s) (hg : G a = none) (h : RepM K G (L2.upd H a o) a mo) : Sim K G (L2.upd H a o) p (put M a mo) s := by
  refine ⟨fun b u q => ?_, S.env, S.len, fun b u q => ?_⟩
  · rw [upd_ne (ne_of_none q hg)]; exact S.same b u q
  · by_cases e : b = a
    · subst e; rw [put_same] at q; cases q; exact ⟨hg, h⟩
    · rw [put_ne e] at q
      exact ⟨(S.mem b u q).1, (S.mem b u q).2.mono (Same.refl G) (upd_ne e) (.refl G)⟩
/-- a mutable list will change no more -/
theorem Sim.freeze {ds : List D} (S : Sim K G H p M s) (h : M a = some (.lst ds)) : ∃ G', Same G G' ∧ Sim K G' H p (del M a) s ∧ Rep K G' (.lst ds) (.ref a) := by
  obtain ⟨gn, vs, h1, h2, h3⟩ := S.mem _ _ h
  have e : Same G (L2.upd G a (.lst vs)) := same_new gn
  refine ⟨L2.upd G a (.lst vs), e, ⟨fun b u q => ?_, fun i d q => ?_, S.len, fun b u q => ?_⟩, a, vs, rfl, upd_same, RepL.mono e _ _ h2, h3⟩
  · by_cases z : b = a
    · subst z; rw [upd_same] at q; cases q; exact h1
    · rw [upd_ne z] at q; exact S.same _ _ q
  · obtain ⟨v, r1, r2⟩ := S.env i d q
    exact ⟨v, r1, Rep.mono e _ _ r2⟩
  · by_cases z : b = a
    · subst z; simp [del] at q
    · have q' : M b = some u := by simpa [del, z] using q
      exact ⟨by rw [upd_ne z]; exact (S.mem b u q').1, (S.mem b u q').2.mono e rfl (.upd fun _ h => by cases h)⟩
theorem Sim.freezeD {kvs : List (Key × D)} (S : Sim K G H p M s) (h : M a = some (.dK kvs)) : ∃ G', Same G G' ∧ Sim K G' H p (del M a) s ∧ Rep K G' (.dct (kvs.map (·.1)) (kvs.map (·.2))) (.ref a) := by
  obtain ⟨gn, vs, h1, h2, h3, h4, h5⟩ := S.mem _ _ h
  have e : Same G (L2.upd G a (.dK vs)) := same_new gn
  refine ⟨L2.upd G a (.dK vs), e, ⟨fun b u q => ?_, fun i d q => ?_, S.len, fun b u q => ?_⟩, a, vs, rfl, .inl upd_same, h2, RepL.mono e _ _ h3, h4, fun k hk => by obtain ⟨q, q1, rfl⟩ := List.mem_map.mp hk; exact h5 q q1⟩
  · by_cases z : b = a
    · subst z; rw [upd_same] at q; cases q; exact h1
    · rw [upd_ne z] at q; exact S.same _ _ q
  · obtain ⟨v, r1, r2⟩ := S.env i d q
    exact ⟨v, r1, Rep.mono e _ _ r2⟩
  · by_cases z : b = a
    · subst z; simp [del] at q
    · have q' : M b = some u := by simpa [del, z] using q
      exact ⟨by rw [upd_ne z]; exact (S.mem b u q').1, (S.mem b u q').2.mono e rfl (.upd fun _ h => by cases h)⟩
theorem Sim.freezeI {C : Addr} {fs : List (Str × D)} (S : Sim K G H p M s) (h : M a = some (.ins C fs)) : ∃ G', Same G G' ∧ Sim K G' H p (del M a) s ∧ Rep K G' (.ins C (fs.map (·.1)) (fs.map (·.2))) (.ref a) := by
  obtain ⟨gn, dx, vs, h1, h2, h3⟩ := S.mem _ _ h
  have e : Same G (L2.upd G a (.ins C dx vs)) := same_new gn
  refine ⟨L2.upd G a (.ins C dx vs), e, ⟨fun b u q => ?_, fun i d q => ?_, S.len, fun b u q => ?_⟩, a, dx, vs, rfl, upd_same, h2, RepL.mono e _ _ h3⟩
  · by_cases z : b = a
    · subst z; rw [upd_same] at q; cases q; exact h1
    · rw [upd_ne z] at q; exact S.same _ _ q
  · obtain ⟨v, r1, r2⟩ := S.env i d q
    exact ⟨v, r1, Rep.mono e _ _ r2⟩
  · by_cases z : b = a
    · subst z; simp [del] at q
    · have q' : M b = some u := by simpa [del, z] using q
      exact ⟨by rw [upd_ne z]; exact (S.mem b u q').1, (S.mem b u q').2.mono e rfl (.upd fun _ h => by cases h)⟩
end
end DL
namespace DL
open PySem L2
/-- what a mutable object holds now -/
def res (M : Mst) : D → D
  | .ref a => match M a with
    | some (.lst ds) => .lst ds
    | some (.dK kvs) => .dct (kvs.map (·.1)) (kvs.map (·.2))
    | some (.lk _ kvs) => .dct (kvs.map (·.1)) (kvs.map (·.2))
    | some (.ins C fs) => .ins C (fs.map (·.1)) (fs.map (·.2))
    | _ => .ref a
  | .ktp ds => .tup ds
  | .xtp ds => .tup ds
  | d => d
section
variable {M : Mst}
@[simp] theorem res_non : res M .non = .non := rfl
@[simp] theorem res_bl {b} : res M (.bl b) = .bl b := rfl
@[simp] theorem res_int {b} : res M (.int b) = .int b := rfl
@[simp] theorem res_str {b} : res M (.str b) = .str b := rfl
@[simp] theorem res_ty {b} : res M (.ty b) = .ty b := rfl
@[simp] theorem res_tup {b} : res M (.tup b) = .tup b := rfl
@[simp] theorem res_ktp {b} : res M (.ktp b) = .tup b := rfl
@[simp] theorem res_xtp {b} : res M (.xtp b) = .tup b := rfl
@[simp] theorem res_lst {b} : res M (.lst b) = .lst b := rfl
@[simp] theorem res_scr {b} : res M (.scr b) = .scr b := rfl
@[simp] theorem res_dct {b c} : res M (.dct b c) = .dct b c := rfl
@[simp] theorem res_exc {b c d e} : res M (.exc b c d e) = .exc b c d e := rfl
@[simp] theorem res_ins {b c d} : res M (.ins b c d) = .ins b c d := rfl
end
section
variable {K : PySem.W.Frag} {G H : Hp} {p : Rho} {M : Mst} {s : L2.St} {d : D} {v : V}
theorem as_lst {ds : List D} (S : Sim K G H p M s) (r : Rep K G d v) (h : res M d = .lst ds) : ∃ a vs, v = .ref a ∧ H a = some (.lst vs) ∧ RepL K G ds vs ∧ vs.length ≤ sizeLine := by
  cases d with
  | lst es =>
    cases h
    obtain ⟨a, vs, h1, h2, h3, h4⟩ := r
    exact ⟨a, vs, h1, S.same _ _ h2, h3, h4⟩
  | ref a =>
    simp only [res] at h
    split at h
    · next es e =>
      cases h
      obtain ⟨gn, vs, h1, h2, h3⟩ := S.mem _ _ e
      exact ⟨a, vs, r, h1, h2, h3⟩
    · cases h
    · cases h
    · cases h
    · cases h
  | _ => cases h
theorem as_tup {ds : List D} (S : Sim K G H p M s) (r : Rep K G d v) (h : res M d = .tup ds) : ∃ a vs, v = .ref a ∧ SqT K H a vs ∧ RepL K G ds vs ∧ vs.length ≤ sizeLine := by
  cases d with
  | tup es =>
    cases h
    obtain ⟨a, vs, h1, h2, h3, h4⟩ := r
    exact ⟨a, vs, h1, .inl (.inl (S.same _ _ h2)), h3, h4⟩
  | ktp es =>
    cases h
    obtain ⟨a, vs, h1, h2, h3, h4⟩ := r
    exact ⟨a, vs, h1, same_t S.same h2, h3, h4⟩
  | xtp es =>
    cases h
    obtain ⟨a, o, vs, h1, h2, h3, h4, h5⟩ := r
    exact ⟨a, vs, h1, .inl (.inr ⟨o, S.same _ _ h2⟩), h4, h5⟩
  | ref a =>
    simp only [res] at h
    split at h <;> cases h
  | _ => cases h
theorem as_str {x : Str} (r : Rep K G d v) (h : res M d = .str x) : v = .str x ∧ x.length ≤ sizeLine ∧ PyData.strOk x = true := by
  cases d with
  | str es => cases h; exact r
  | ref a =>
    simp only [res] at h
    split at h <;> cases h
  | _ => cases h
theorem as_int {x : Int} (r : Rep K G d v) (h : res M d = .int x) : v = .int x := by
  cases d with
  | int es => cases h; exact r
  | ref a =>
    simp only [res] at h
    split at h <;> cases h
  | _ => cases h
theorem as_bl {x : Bool} (r : Rep K G d v) (h : res M d = .bl x) : v = .bl x := by
  cases d with
  | bl es => cases h; exact r
  | ref a =>
    simp only [res] at h
    split at h <;> cases h
  | _ => cases h
theorem as_dct {ks : List Key} {ds : List D} (S : Sim K G H p M s) (r : Rep K G d v) (h : res M d = .dct ks ds) :
    ∃ a kvs, v = .ref a ∧ Rd H a (.dK kvs) ∧ kvs.map (·.1) = ks ∧ RepL K G ds (kvs.map (·.2)) ∧ kvs.length ≤ sizeLine ∧ ∀ k ∈ ks, kOk k := by
  cases d with
  | dct es fs =>
    cases h
    obtain ⟨a, vs, h1, h2, h3, h4, h5⟩ := r
    exact ⟨a, vs, h1, same_rd S.same h2, h3, h4, h5⟩
  | ref a =>
    simp only [res] at h
    split at h
    · cases h
    · next es e =>
      cases h
      obtain ⟨gn, vs, h1, h2, h3, h4, h5⟩ := S.mem _ _ e
      exact ⟨a, vs, r, .inl h1, h2, h3, h4, fun k hk => by obtain ⟨q, q1, rfl⟩ := List.mem_map.mp hk; exact h5 q q1⟩
    · next es e =>
      cases h
      obtain ⟨gn, o, vs, h0, h1, h2, h3, h4, h5⟩ := S.mem _ _ e
      exact ⟨a, vs, r, .inr ⟨o, by rw [← h0]; exact h1⟩, h2, h3, h4, fun k hk => by obtain ⟨q, q1, rfl⟩ := List.mem_map.mp hk; exact h5 q q1⟩
    · cases h
    · cases h
  | _ => cases h
theorem as_ins {C : Addr} {ns : List Str} {ds : List D} (S : Sim K G H p M s) (r : Rep K G d v) (h : res M d = .ins C ns ds) :
    ∃ a dx fs, v = .ref a ∧ H a = some (.ins C dx fs) ∧ fs.map (·.1) = ns ∧ RepL K G ds (fs.map (·.2)) := by
  cases d with
  | ins es fs gs =>
    cases h
    obtain ⟨a, dx, vs, h1, h2, h3, h4⟩ := r
    exact ⟨a, dx, vs, h1, S.same _ _ h2, h3, h4⟩
  | ref a =>
    simp only [res] at h
    split at h
    · cases h
    · cases h
    · cases h
    · next es e =>
      cases h
      obtain ⟨gn, dx, vs, h1, h2, h3⟩ := S.mem _ _ e
      exact ⟨a, dx, vs, r, h1, h2, h3⟩
    · cases h
  | _ => cases h
end
/-- a list that is made: to be changed later (m), or not -/
def newL (m : Bool) (ds : List D) (M : Mst) (Q : DK) : Prop :=
  match m with
  | true => ∀ a, M a = none → Q (.ref a) (put M a (.lst ds))
  | false => Q (.lst ds) M
@[simp] theorem newL_t {ds M Q} : newL true ds M Q = ∀ a, M a = none → Q (.ref a) (put M a (.lst ds)) := rfl
@[simp] theorem newL_f {ds M Q} : newL false ds M Q = Q (.lst ds) M := rfl
section
variable {K : PySem.W.Frag} {G H : Hp} {p : Rho} {M : Mst} {s : L2.St} {d : D} {v : V} {a : Addr}
theorem newL_ok {m : Bool} {ds : List D} {vs : List V} {Q : DK} {Q' : VK} (S : Sim K G H p M s) (hn : H a = none) (r : RepL K G ds vs) (hl : vs.length ≤ sizeLine) (h : newL m ds M Q)
    (k : ∀ G' H' M' d w, Same G G' → Sim K G' H' p M' s → Rep K G' d w → Q d M' → Q' w H') : Q' (.ref a) (upd H a (.lst vs)) := by
  cases m with
  | true =>
    have h1 := h a (S.mem.fresh hn)
    exact k G _ _ (.ref a) _ (Same.refl _) (S.put (mo := .lst ds) (S.same.free hn) ⟨vs, upd_same, r, hl⟩) rfl h1
  | false =>
    obtain ⟨e, S'⟩ := S.made (o := .lst vs) hn
    exact k _ _ _ (.lst ds) _ e S' ⟨a, vs, rfl, upd_same, RepL.mono e _ _ r, hl⟩ h
theorem newT_ok {ds : List D} {vs : List V} {Q : DK} {Q' : VK} (S : Sim K G H p M s) (hn : H a = none) (r : RepL K G ds vs) (hl : vs.length ≤ sizeLine) (h : Q (.tup ds) M)
    (k : ∀ G' H' M' d w, Same G G' → Sim K G' H' p M' s → Rep K G' d w → Q d M' → Q' w H') : Q' (.ref a) (upd H a (.tup vs)) := by
  obtain ⟨e, S'⟩ := S.made (o := .tup vs) hn
  exact k _ _ _ (.tup ds) _ e S' ⟨a, vs, rfl, upd_same, RepL.mono e _ _ r, hl⟩ h
end
theorem sz1000 {n : Nat} (h : n ≤ 100000) : n ≤ sizeLine := Nat.le_trans h (by rw [sizeLine_eq]; decide)
@[simp] def qVar (i : Nat) : DTE := fun _ p M Q => match p[i]? with | some (some d) => Q d M | _ => False
@[simp] def qC (d : D) : DTE := fun _ _ M Q => Q d M
section
variable {X : Cx} {W : WX} {x : Str} {pos : Pos}
theorem qe_var {i : Nat} (h : PE X (.Name x pos) (tVar i)) : QE X W (.Name x pos) (tVar i) (qVar i) := by
  refine ⟨h, fun DW G H p M s Q Q' hw S q k => ?_⟩
  unfold qVar at q
  split at q
  · next d e =>
    obtain ⟨v, h1, h2⟩ := S.env i d e
    exact ⟨v, h1, k G H M d v (Same.refl _) S h2 q⟩
  · exact q.elim
theorem qv (i : Nat) (hN : X.N[i]? = some x := by rfl) (hv : Vis X.env.scope x := by first | exact Or.inl rfl | exact Or.inr (Or.inl rfl) | exact Or.inr (Or.inr rfl)) (hd : (x == ("__debug__" : Str)) = false := by decide)
    (hcd : (x == ("__classdict__" : Str)) = false := by decide) : QE X W (.Name x pos) (tVar i) (qVar i) := qe_var (pe_var hN hv hd hcd)
theorem qe_c {e : Expr} {v : V} {d : D} (h : PE X e (tC v)) (r : ∀ G, Rep X.K G d v) : QE X W e (tC v) (qC d) :=
  ⟨h, fun DW G H p M s Q Q' hw S q k => k G H M d v (Same.refl _) S (r G) q⟩
theorem q_int {i j pos} : QE X W (.Constant (.int i) j pos) (tC (.int i)) (qC (.int i)) := qe_c pe_int fun _ => rfl
theorem q_bl {i j pos} : QE X W (.Constant (.bool i) j pos) (tC (.bl i)) (qC (.bl i)) := qe_c pe_bl fun _ => rfl
theorem q_non {j pos} : QE X W (.Constant .none j pos) (tC .non) (qC .non) := qe_c pe_non fun _ => rfl
theorem q_str {i j pos} (h : (decide (i.length ≤ 100000) && PyData.strOk i) = true := by decide +kernel) : QE X W (.Constant (.str i) j pos) (tC (.str i)) (qC (.str i)) :=
  qe_c pe_str fun _ => by
    rw [Bool.and_eq_true] at h
    exact ⟨rfl, sz1000 (of_decide_eq_true h.1), h.2⟩
/-- a constant of the module, a def, a class -/
theorem q_glob {x : Str} {v : V} {d : D} {u : Value} {pos : Pos} (hg : Gl X x) (hm : X.mg x = some u) (r : RelV v u) (rd : ∀ G, Rep X.K G d v) (hd : (x == ("__debug__" : Str)) = false := by decide) : QE X W (.Name x pos) (tC v) (qC d) :=
  qe_c (pe_glob hg hm r hd) rd
end
@[simp] def qNil : DTA := fun _ _ M Q => Q [] M
@[simp] def qCons (qa : DTE) (qr : DTA) : DTA := fun DW p M Q => qa DW p M fun x M1 => qr DW p M1 fun xs M2 => Q (x :: xs) M2
@[simp] def qTup (qa : DTA) : DTE := fun DW p M Q => qa DW p M fun ds M1 => ds.length ≤ 100000 ∧ Q (.tup ds) M1
@[simp] def qLst (m : Bool) (qa : DTA) : DTE := fun DW p M Q => qa DW p M fun ds M1 => ds.length ≤ 100000 ∧ newL m ds M1 Q
section
variable {X : Cx} {W : WX} {e : Expr} {es : List Expr} {te : TE} {qe : DTE} {t : TA} {q : DTA} {pos : Pos}
theorem qa_nil : QA X W [] tNil qNil := ⟨pa_nil, fun DW G H p M s Q Q' hw S q k => k G H M [] [] (Same.refl _) S rfl q⟩
theorem qa_cons (ha : QE X W e te qe) (hr : QA X W es t q) (hs : starEach (e :: es) X.env = (false, eval e X.env) :: starEach es X.env := by rfl) : QA X W (e :: es) (tCons te t) (qCons qe q) :=
  ⟨pa_cons ha.pe hr.pe hs, fun DW G H p M s Q Q' hw S h k => ha.rf DW G H p M s _ _ hw S h fun G1 H1 M1 d v e1 S1 r1 h1 =>
    hr.rf DW G1 H1 p M1 s _ _ (hw.mono e1) S1 h1 fun G2 H2 M2 ds vs e2 S2 r2 h2 => k G2 H2 M2 _ _ (e1.trans e2) S2 (RepL.cons (Rep.mono e2 _ _ r1) r2) h2⟩
theorem q_tup {x1} (h : QA X W es t q) : QE X W (.Tuple es x1 pos) (tTup t) (qTup q) :=
  ⟨pe_tup h.pe, fun DW G H p M s Q Q' hw S hq k => h.rf DW G H p M s _ _ hw S hq fun G1 H1 M1 ds vs e1 S1 r1 ⟨hl, h1⟩ =>
    have z : vs.length ≤ sizeLine := by rw [r1.length]; exact sz1000 hl
    ⟨z, fun a ha => newT_ok S1 ha r1 z h1 fun G2 H2 M2 d w e2 => k G2 H2 M2 d w (e1.trans e2)⟩⟩
theorem q_lst (m : Bool) (h : QA X W es t q) : QE X W (.List es pos) (tLst t) (qLst m q) :=
  ⟨pe_lst h.pe, fun DW G H p M s Q Q' hw S hq k => h.rf DW G H p M s _ _ hw S hq fun G1 H1 M1 ds vs e1 S1 r1 ⟨hl, h1⟩ =>
    have z : vs.length ≤ sizeLine := by rw [r1.length]; exact sz1000 hl
    ⟨z, fun a ha => newL_ok S1 ha r1 z h1 fun G2 H2 M2 d w e2 => k G2 H2 M2 d w (e1.trans e2)⟩⟩
end
@[simp] def qOp (o : DOp) (qa qb : DTE) : DTE := fun DW p M Q => qa DW p M fun x M1 => qb DW p M1 fun y M2 => o x y M2 Q
@[simp] def qUn (o : DUn) (qa : DTE) : DTE := fun DW p M Q => qa DW p M fun x M1 => o x M1 Q
@[simp] def qCB (r : DCa) (qa : DTA) : DTE := fun DW p M Q => qa DW p M fun xs M1 => r xs M1 Q
section
variable {K : PySem.W.Frag} {W : WX}
theorem ref_op {r : R2} {o : DOp} {ta tb : TE} {qa qb : DTE} (hr : RefR2 K r o) (ha : RefE K W ta qa) (hb : RefE K W tb qb) : RefE K W (tOp r ta tb) (qOp o qa qb) :=
  fun DW G H p M s Q Q' hw S h k => ha DW G H p M s _ _ hw S h fun G1 H1 M1 d v e1 S1 r1 h1 =>
    hb DW G1 H1 p M1 s _ _ (hw.mono e1) S1 h1 fun G2 H2 M2 d2 v2 e2 S2 r2 h2 => hr G2 H2 p M2 s d d2 v v2 Q Q' S2 (Rep.mono e2 _ _ r1) r2 h2 fun G3 H3 M3 d w e3 => k G3 H3 M3 d w ((e1.trans e2).trans e3)
theorem ref_un {r : V → Hp → VK → Prop} {o : DUn} {ta : TE} {qa : DTE} (hr : RefU K r o) (ha : RefE K W ta qa) : RefE K W (tUn r ta) (qUn o qa) :=
  fun DW G H p M s Q Q' hw S h k => ha DW G H p M s _ _ hw S h fun G1 H1 M1 d v e1 S1 r1 h1 => hr G1 H1 p M1 s d v Q Q' S1 r1 h1 fun G3 H3 M3 d w e3 => k G3 H3 M3 d w (e1.trans e3)
theorem ref_cb {r : List V → Hp → VK → Prop} {o : DCa} {ta : TA} {qa : DTA} (hr : RefC K r o) (ha : RefA K W ta qa) : RefE K W (tCB r ta) (qCB o qa) :=
  fun DW G H p M s Q Q' hw S h k => ha DW G H p M s _ _ hw S h fun G1 H1 M1 d v e1 S1 r1 h1 => hr G1 H1 p M1 s d v Q Q' S1 r1 h1 fun G3 H3 M3 d w e3 => k G3 H3 M3 d w (e1.trans e3)
end
section
variable {X : Cx} {W : WX} {a b : Expr} {ta tb : TE} {qa qb : DTE} {pos : Pos}
theorem q_op {op : Operator} {r : R2} {o : DOp} (ho : QOp X (binaryOp op) r o) (ha : QE X W a ta qa) (hb : QE X W b tb qb) : QE X W (.BinOp a op b pos) (tOp r ta tb) (qOp o qa qb) := ⟨pe_op ho.op ha.pe hb.pe, ref_op ho.rf ha.rf hb.rf⟩
theorem q_cmp {op : CmpOp} {r : R2} {o : DOp} (ho : QOp X (compareOp op) r o) (ha : QE X W a ta qa) (hb : QE X W b tb qb) (hm : behindInMarks op b = false := by first | exact nomark _ | rfl) : QE X W (.Compare a [op] [b] pos) (tOp r ta tb) (qOp o qa qb) := ⟨pe_cmpR ho.op ha.pe hb.pe hm, ref_op ho.rf ha.rf hb.rf⟩
/-- a truth as a test -/
@[simp] def qTB (q : DTE) : DTT := fun DW p M Q => q DW p M fun d M1 => match d with | .bl b => Q b M1 | _ => False
theorem ref_tb {K : PySem.W.Frag} {t : TE} {q : DTE} (h : RefE K W t q) : RefT K W (tTest t) (qTB q) := fun DW G H p M s Q Q' hw S hq k => h DW G H p M s _ _ hw S hq fun G1 H1 M1 d v e1 S1 r1 h1 => by
  cases d with
  | bl b => cases r1; exact ⟨b, rfl, k G1 H1 M1 b e1 S1 h1⟩
  | _ => exact h1.elim
theorem ref_tb' {K : PySem.W.Frag} {t : TE} {q : DTE} (h : RefE K W t q) : RefT K W (tB t) (qTB q) := ref_tb h
theorem qt_cmp {op : CmpOp} {r : R2} {o : DOp} (ho : QOp X (compareOp op) r o) (ha : QE X W a ta qa) (hb : QE X W b tb qb) (hm : behindInMarks op b = false := by first | exact nomark _ | rfl) : QT X W (.Compare a [op] [b] pos) (tTest (tOp r ta tb)) (qTB (qOp o qa qb)) := ⟨pt_cmpR ho.op ha.pe hb.pe hm, ref_tb (ref_op ho.rf ha.rf hb.rf)⟩
theorem qt_val (ha : QE X W a ta qa) (he : ∀ whole, isTrue a X.env whole = (do let v ← whole; standAt a.pos; holding [v] (truthy v)) := by intro _; rfl) : QT X W a (tB ta) (qTB qa) := ⟨pt_val ha.pe he, ref_tb' ha.rf⟩
def qChain (o o' : DOp) (qa qb qc : DTE) : DTE := fun DW p M Q => qa DW p M fun x M1 => qb DW p M1 fun y M2 => o x y M2 fun z M3 => match z with
  | .bl k => if k = true then qc DW p M3 fun w M4 => o' y w M4 Q else Q (.bl false) M3
  | _ => False
theorem ref_chain {K : PySem.W.Frag} {r r' : R2} {o o' : DOp} {tc : TE} {qc : DTE} (hr : RefR2 K r o) (hr' : RefR2 K r' o') (ha : RefE K W ta qa) (hb : RefE K W tb qb) (hc : RefE K W tc qc) : RefE K W (tChain r r' ta tb tc) (qChain o o' qa qb qc) :=
  fun DW G H p M s Q Q' hw S h k => ha DW G H p M s _ _ hw S h fun G1 H1 M1 d v e1 S1 r1 h1 =>
    hb DW G1 H1 p M1 s _ _ (hw.mono e1) S1 h1 fun G2 H2 M2 d2 v2 e2 S2 r2 h2 => hr G2 H2 p M2 s d d2 v v2 _ _ S2 (Rep.mono e2 _ _ r1) r2 h2 fun G3 H3 M3 d3 w e3 S3 r3 h3 => by
      cases d3 with
      | bl b =>
        cases r3
        refine ⟨b, rfl, ?_⟩
        cases b with
        | false =>
          rw [if_neg Bool.false_ne_true]
          exact k G3 H3 M3 (.bl false) _ ((e1.trans e2).trans e3) S3 rfl h3
        | true =>
          rw [if_pos rfl]
          exact hc DW G3 H3 p M3 s _ _ (hw.mono ((e1.trans e2).trans e3)) S3 h3 fun G4 H4 M4 d4 v4 e4 S4 r4 h4 =>
            hr' G4 H4 p M4 s d2 d4 v2 v4 Q Q' S4 (Rep.mono (e3.trans e4) _ _ r2) r4 h4 fun G5 H5 M5 d w e5 => k G5 H5 M5 d w ((((e1.trans e2).trans e3).trans e4).trans e5)
      | _ => exact h3.elim
theorem q_chain {op op' : CmpOp} {r r' : R2} {o o' : DOp} {c : Expr} {tc : TE} {qc : DTE} (ho : QOp X (compareOp op) r o) (ho' : QOp X (compareOp op') r' o') (ha : QE X W a ta qa) (hb : QE X W b tb qb) (hc : QE X W c tc qc)
    (hm : lastMarks [op, op'] [b, c] = false := by with_unfolding_all rfl) : QE X W (.Compare a [op, op'] [b, c] pos) (tChain r r' ta tb tc) (qChain o o' qa qb qc) :=
  ⟨pe_chain ho.op ho'.op ha.pe hb.pe hc.pe hm, ref_chain ho.rf ho'.rf ha.rf hb.rf hc.rf⟩
theorem qt_chain {op op' : CmpOp} {r r' : R2} {o o' : DOp} {c : Expr} {tc : TE} {qc : DTE} (ho : QOp X (compareOp op) r o) (ho' : QOp X (compareOp op') r' o') (ha : QE X W a ta qa) (hb : QE X W b tb qb) (hc : QE X W c tc qc)
    (hm : lastMarks [op, op'] [b, c] = false := by with_unfolding_all rfl) : QT X W (.Compare a [op, op'] [b, c] pos) (tTest (tChain r r' ta tb tc)) (qTB (qChain o o' qa qb qc)) :=
  ⟨pt_chain ho.op ho'.op ha.pe hb.pe hc.pe hm, ref_tb (ref_chain ho.rf ho'.rf ha.rf hb.rf hc.rf)⟩
@[simp] def qAnd (qt qu : DTT) : DTT := fun DW p M Q => qt DW p M fun c M1 => if c = true then qu DW p M1 Q else Q false M1
@[simp] def qOr (qt qu : DTT) : DTT := fun DW p M Q => qt DW p M fun c M1 => if c = true then Q true M1 else qu DW p M1 Q
@[simp] def qNot (qt : DTT) : DTT := fun DW p M Q => qt DW p M fun c M1 => Q (!c) M1
variable {t u : TT} {qt qu : DTT} {rest : List Expr}
theorem qw_and1 (h : QT X W a t qt) : QW X W (.BoolOp .And [a] pos) t qt := ⟨pw_and1 h.pe, h.rf⟩
theorem qw_or1 (h : QT X W a t qt) : QW X W (.BoolOp .Or [a] pos) t qt := ⟨pw_or1 h.pe, h.rf⟩
theorem qw_and (h : QT X W a t qt) (g : QW X W (.BoolOp .And (b :: rest) pos) u qu) : QW X W (.BoolOp .And (a :: b :: rest) pos) (tAnd t u) (qAnd qt qu) :=
  ⟨pw_and h.pe g.pe, fun DW G H p M s Q Q' hw S hq k => h.rf DW G H p M s _ _ hw S hq fun G1 H1 M1 c e1 S1 h1 => by
    cases c with
    | true =>
      rw [if_pos rfl] at h1 ⊢
      exact g.rf DW G1 H1 p M1 s _ _ (hw.mono e1) S1 h1 fun G2 H2 M2 c e2 => k G2 H2 M2 c (e1.trans e2)
    | false =>
      rw [if_neg Bool.false_ne_true] at h1 ⊢
      exact k G1 H1 M1 false e1 S1 h1⟩
theorem qw_or (h : QT X W a t qt) (g : QW X W (.BoolOp .Or (b :: rest) pos) u qu) : QW X W (.BoolOp .Or (a :: b :: rest) pos) (tOr t u) (qOr qt qu) :=
  ⟨pw_or h.pe g.pe, fun DW G H p M s Q Q' hw S hq k => h.rf DW G H p M s _ _ hw S hq fun G1 H1 M1 c e1 S1 h1 => by
    cases c with
    | true =>
      rw [if_pos rfl] at h1 ⊢
      exact k G1 H1 M1 true e1 S1 h1
    | false =>
      rw [if_neg Bool.false_ne_true] at h1 ⊢
      exact g.rf DW G1 H1 p M1 s _ _ (hw.mono e1) S1 h1 fun G2 H2 M2 c e2 => k G2 H2 M2 c (e1.trans e2)⟩
theorem qt_not (h : QT X W a t qt) : QT X W (.UnaryOp .Not a pos) (tNot t) (qNot qt) :=
  ⟨pt_not h.pe, fun DW G H p M s Q Q' hw S hq k => h.rf DW G H p M s _ _ hw S hq fun G1 H1 M1 c e1 S1 h1 => k G1 H1 M1 _ e1 S1 h1⟩
/-- as values, all truths -/
@[simp] def qAndV (qa qb : DTE) : DTE := fun DW p M Q => qa DW p M fun x M1 => match x with
  | .bl c => if c = true then qb DW p M1 Q else Q (.bl false) M1
  | _ => False
@[simp] def qOrV (qa qb : DTE) : DTE := fun DW p M Q => qa DW p M fun x M1 => match x with
  | .bl c => if c = true then Q (.bl true) M1 else qb DW p M1 Q
  | _ => False
@[simp] def qNotV (qa : DTE) : DTE := fun DW p M Q => qa DW p M fun x M1 => match x with
  | .bl c => Q (.bl (!c)) M1
  | _ => False
theorem q_one {op} (h : QE X W a ta qa) : QE X W (.BoolOp op [a] pos) ta qa := ⟨pe_one h.pe, h.rf⟩
theorem q_and (h : QE X W a ta qa) (g : QE X W (.BoolOp .And (b :: rest) pos) tb qb) : QE X W (.BoolOp .And (a :: b :: rest) pos) (tAndV ta tb) (qAndV qa qb) :=
  ⟨pe_and h.pe g.pe, fun DW G H p M s Q Q' hw S hq k => h.rf DW G H p M s _ _ hw S hq fun G1 H1 M1 d v e1 S1 r1 h1 => by
    cases d with
    | bl c =>
      cases r1
      refine ⟨c, rfl, ?_⟩
      cases c with
      | true =>
        rw [if_pos rfl]
        exact g.rf DW G1 H1 p M1 s _ _ (hw.mono e1) S1 h1 fun G2 H2 M2 d v e2 => k G2 H2 M2 d v (e1.trans e2)
      | false =>
        rw [if_neg Bool.false_ne_true]
        exact k G1 H1 M1 (.bl false) _ e1 S1 rfl h1
    | _ => exact h1.elim⟩
theorem q_not (h : QE X W a ta qa) : QE X W (.UnaryOp .Not a pos) (tNotV ta) (qNotV qa) :=
  ⟨pe_not h.pe, fun DW G H p M s Q Q' hw S hq k => h.rf DW G H p M s _ _ hw S hq fun G1 H1 M1 d v e1 S1 r1 h1 => by
    cases d with
    | bl c => cases r1; exact ⟨c, rfl, k G1 H1 M1 (.bl (!c)) _ e1 S1 rfl h1⟩
    | _ => exact h1.elim⟩
@[simp] def qIf (qt : DTT) (qa qb : DTE) : DTE := fun DW p M Q => qt DW p M fun c M1 => if c = true then qa DW p M1 Q else qb DW p M1 Q
theorem q_if {c : Expr} (h : QT X W c t qt) (ha : QE X W a ta qa) (hb : QE X W b tb qb) : QE X W (.IfExp c a b pos) (tIf t ta tb) (qIf qt qa qb) :=
  ⟨pe_ifExp h.pe ha.pe hb.pe, fun DW G H p M s Q Q' hw S hq k => h.rf DW G H p M s _ _ hw S hq fun G1 H1 M1 c e1 S1 h1 => by
    cases c with
    | true =>
      rw [if_pos rfl] at h1 ⊢
      exact ha.rf DW G1 H1 p M1 s _ _ (hw.mono e1) S1 h1 fun G2 H2 M2 d v e2 => k G2 H2 M2 d v (e1.trans e2)
    | false =>
      rw [if_neg Bool.false_ne_true] at h1 ⊢
      exact hb.rf DW G1 H1 p M1 s _ _ (hw.mono e1) S1 h1 fun G2 H2 M2 d v e2 => k G2 H2 M2 d v (e1.trans e2)⟩
end
section
variable {X : Cx} {W : WX} {x : Str} {p pos : Pos} {e : Expr} {es : List Expr} {t : TA} {q : DTA} {id T : String} {r : List V → Hp → VK → Prop} {o : DCa}
theorem q_callB (hc : QCa X (.builtin id) r o) (hg : Gl X x) (hm : X.mg x = none) (hv : bootBuiltins x = some (.builtin id)) (ha : QA X W (e :: es) t q) (hn : x ≠ "__name__" := by decide) (hdb : (x == ("__debug__" : Str)) = false := by decide)
    (he : starEach (e :: es) X.env = (false, eval e X.env) :: starEach es X.env := by rfl) (hpl : (backTo pos (starEach es X.env)).any (·.1) = false := by rfl) : QE X W (.Call (.Name x p) (e :: es) [] pos) (tCB r t) (qCB o q) :=
  ⟨pe_callB hc.op hg hm hv ha.pe hn hdb he hpl, ref_cb hc.rf ha.rf⟩
theorem q_callTy (hc : QCa X (.type T) r o) (hg : Gl X x) (hm : X.mg x = none) (hv : bootBuiltins x = some (.type T)) (ha : QA X W (e :: es) t q) (hn : x ≠ "__name__" := by decide) (hdb : (x == ("__debug__" : Str)) = false := by decide)
    (he : starEach (e :: es) X.env = (false, eval e X.env) :: starEach es X.env := by rfl) (hpl : (backTo pos (starEach es X.env)).any (·.1) = false := by rfl) : QE X W (.Call (.Name x p) (e :: es) [] pos) (tCB r t) (qCB o q) :=
  ⟨pe_callTy hc.op hg hm hv ha.pe hn hdb he hpl, ref_cb hc.rf ha.rf⟩
end
end DL
namespace DL
open PySem L2
theorem OpR.or {X : Cx} {f : Value → Value → Sem Value} {r r' : R2} (h : OpR X f r) (h' : OpR X f r') : OpR X f (fun x y H Q => r x y H Q ∨ r' x y H Q) := by
  intro pins s σ H x y v u Q I rx ry q
  rcases q with q | q
  · exact h pins s σ H x y v u Q I rx ry q
  · exact h' pins s σ H x y v u Q I rx ry q
theorem CallR.or {X : Cx} {f : Value} {r r' : List V → Hp → VK → Prop} (h : CallR X f r) (h' : CallR X f r') : CallR X f (fun xs H Q => r xs H Q ∨ r' xs H Q) := by
  intro pins s σ H xs us Q I rs q
  rcases q with q | q
  · exact h pins s σ H xs us Q I rs q
  · exact h' pins s σ H xs us Q I rs q
mutual
def pyd : D → PyData
  | .non => .none
  | .bl b => .bool b
  | .int i => .int i
  | .str x => .str x
  | .tup ds => .tuple (pydL ds)
  | .ktp ds => .tuple (pydL ds)
  | .xtp ds => .tuple (pydL ds)
  | .lst ds => .list (pydL ds)
  | _ => .none
def pydL : List D → List PyData
  | [] => []
  | d :: ds => pyd d :: pydL ds
end
mutual
def isData : D → Bool
  | .non => true
  | .bl _ => true
  | .int _ => true
  | .str _ => true
  | .tup ds => isDataL ds
  | .ktp ds => isDataL ds
  | .xtp ds => isDataL ds
  | .lst ds => isDataL ds
  | _ => false
def isDataL : List D → Bool
  | [] => true
  | d :: ds => isData d && isDataL ds
end
/-- how deep -/
def dep (d : D) : Nat := (pyd d).depth
mutual
theorem dp_of {K : PySem.W.Frag} {G H : Hp} (e : Same G H) : ∀ (d : D) (v : V), isData d = true → Rep K G d v → Dp K H v (pyd d)
  | .non, _, _, h => by cases h; exact .non
  | .bl b, _, _, h => by cases h; exact .bl b
  | .int i, _, _, h => by cases h; exact .int i
  | .str x, _, _, h => by obtain ⟨h, _⟩ := h; subst h; exact .str x
  | .tup ds, _, i, ⟨a, vs, h1, h2, h3, h4⟩ => by subst h1; exact .tup (.inl (.inl (e _ _ h2))) (dpl_of e ds vs i h3)
  | .ktp ds, _, i, ⟨a, vs, h1, h2, h3, h4⟩ => by subst h1; exact .tup (same_t e h2) (dpl_of e ds vs i h3)
  | .xtp ds, _, i, ⟨a, o, vs, h1, h2, h3, h4, h5⟩ => by subst h1; exact .tup (.inl (.inr ⟨o, e _ _ h2⟩)) (dpl_of e ds vs i h4)
  | .lst ds, _, i, ⟨a, vs, h1, h2, h3, h4⟩ => by subst h1; exact .lst (.inl (.inl (e _ _ h2))) (dpl_of e ds vs i h3)
  | .scr _, _, i, _ => by cases i
  | .ty _, _, i, _ => by cases i
  | .ref _, _, i, _ => by cases i
  | .dct _ _, _, i, _ => by cases i
  | .ins _ _ _, _, i, _ => by cases i
  | .exc _ _ _ _, _, i, _ => by cases i
  | .fnv _ _ _ _ _, _, i, _ => by cases i
theorem dpl_of {K : PySem.W.Frag} {G H : Hp} (e : Same G H) : ∀ (ds : List D) (vs : List V), isDataL ds = true → RepL K G ds vs → DpAll K H vs (pydL ds)
  | [], _, _, h => by cases h; exact .nil
  | d :: ds, _, i, ⟨v, r, h1, h2, h3⟩ => by
    subst h1
    have i' : isData d = true ∧ isDataL ds = true := by simpa [isDataL] using i
    exact .cons (dp_of e d v i'.1 h2) (dpl_of e ds r i'.2 h3)
end
mutual
theorem lay_of {K : PySem.W.Frag} {G : Hp} : ∀ (d : D) (v : V), isData d = true → Rep K G d v → (pyd d).canLay0 = true
  | .non, _, _, _ => rfl
  | .bl b, _, _, _ => rfl
  | .int i, _, _, _ => rfl
  | .str x, _, _, h => h.2.2
  | .tup ds, _, i, ⟨a, vs, h1, h2, h3, h4⟩ => layl_of ds vs i h3
  | .ktp ds, _, i, ⟨a, vs, h1, h2, h3, h4⟩ => layl_of ds vs i h3
  | .xtp ds, _, i, ⟨a, o, vs, h1, h2, h3, h4, h5⟩ => layl_of ds vs i h4
  | .lst ds, _, i, ⟨a, vs, h1, h2, h3, h4⟩ => layl_of ds vs i h3
  | .scr _, _, i, _ => by cases i
  | .ty _, _, i, _ => by cases i
  | .ref _, _, i, _ => by cases i
  | .dct _ _, _, i, _ => by cases i
  | .ins _ _ _, _, i, _ => by cases i
  | .exc _ _ _ _, _, i, _ => by cases i
  | .fnv _ _ _ _ _, _, i, _ => by cases i
theorem layl_of {K : PySem.W.Frag} {G : Hp} : ∀ (ds : List D) (vs : List V), isDataL ds = true → RepL K G ds vs → PyData.canLayAll0 (pydL ds) = true
  | [], _, _, _ => rfl
  | d :: ds, _, i, ⟨v, r, h1, h2, h3⟩ => by
    have i' : isData d = true ∧ isDataL ds = true := by simpa [isDataL] using i
    simp only [pydL, PyData.canLayAll0, Bool.and_eq_true]
    exact ⟨lay_of d v i'.1 h2, layl_of ds r i'.2 h3⟩
end
theorem data_of {K : PySem.W.Frag} {G H : Hp} {p : Rho} {M : Mst} {s : L2.St} {d e : D} {v : V} (S : Sim K G H p M s) (r : Rep K G d v) (h : res M d = e) (i : isData e = true) : Dp K H v (pyd e) ∧ (pyd e).canLay0 = true := by
  cases d with
  | ref a =>
    cases e with
    | lst es =>
      obtain ⟨a, vs, h1, h2, h3, h4⟩ := as_lst S r h
      subst h1
      exact ⟨.lst (.inl (.inl h2)) (dpl_of S.same _ _ i h3), layl_of _ _ i h3⟩
    | _ =>
      simp only [res] at h
      split at h <;> first | (cases h; done) | (cases h; cases i)
  | ktp es =>
    cases h
    exact ⟨dp_of S.same (.ktp es) v i r, lay_of (.ktp es) v i r⟩
  | xtp es =>
    cases h
    exact ⟨dp_of S.same (.xtp es) v i r, lay_of (.xtp es) v i r⟩
  | _ => cases h; exact ⟨dp_of S.same _ v i r, lay_of _ v i r⟩
def rEqX (K : PySem.W.Frag) (neg : Bool) : R2 := fun x y H Q => ∃ d e, Dp K H x d ∧ Dp K H y e ∧ d.canLay0 = true ∧ e.canLay0 = true ∧ min d.depth e.depth ≤ 64 ∧ Q (.bl (xor neg (PyData.eqv d e))) H
theorem op_eqX {X : Cx} (hu : X.A.units + 64 < cLine) : OpR X (compareOp .Eq) (rEqX X.K false) := by
  intro pins s σ H x y v u Q I rx ry h
  obtain ⟨d, e, hd, he, sd, se, hm, q⟩ := h
  obtain ⟨as, r1⟩ := Dp.reads I d x v hd rx
  obtain ⟨bs, r2⟩ := Dp.reads I e y u he ry
  refine SeqAt.compareEq_reads r1 r2 sd se (by omega) ⟨.bl _, H, I, rfl, ?_⟩
  simpa using q
theorem op_neX {X : Cx} (hu : X.A.units + 64 < cLine) : OpR X (compareOp .NotEq) (rEqX X.K true) := by
  intro pins s σ H x y v u Q I rx ry h
  obtain ⟨d, e, hd, he, sd, se, hm, q⟩ := h
  obtain ⟨as, r1⟩ := Dp.reads I d x v hd rx
  obtain ⟨bs, r2⟩ := Dp.reads I e y u he ry
  refine SeqAt.compareNe_reads r1 r2 sd se (by omega) ⟨.bl _, H, I, rfl, ?_⟩
  simpa using q
/-- == of data -/
def deq (x y : D) : Bool := PyData.eqv (pyd x) (pyd y)
def deqL (x y : List D) : Bool := PyData.eqvAll (pydL x) (pydL y)
def dEq (neg : Bool) : DOp := fun x y M Q => isData (res M x) = true ∧ isData (res M y) = true ∧ min (dep (res M x)) (dep (res M y)) ≤ 64 ∧ Q (.bl (xor neg (deq (res M x) (res M y)))) M
theorem ref_eq {K : PySem.W.Frag} {neg : Bool} : RefR2 K (rEqX K neg) (dEq neg) := fun G H p M s x y v u Q Q' S r1 r2 ⟨i1, i2, hm, q⟩ k => by
  obtain ⟨a1, a2⟩ := data_of S r1 rfl i1
  obtain ⟨b1, b2⟩ := data_of S r2 rfl i2
  exact ⟨_, _, a1, b1, a2, b2, hm, k G H M (.bl _) _ (Same.refl _) S rfl q⟩
theorem o_eq {X : Cx} (hu : X.A.units + 64 < cLine) : QOp X (compareOp .Eq) (rEqX X.K false) (dEq false) := ⟨op_eqX hu, ref_eq⟩
theorem o_ne {X : Cx} (hu : X.A.units + 64 < cLine) : QOp X (compareOp .NotEq) (rEqX X.K true) (dEq true) := ⟨op_neX hu, ref_eq⟩
def dInt (C : Int → Int → Prop) (g : Int → Int → Int) : DOp := fun x y M Q => match x, y with
  | .int i, .int j => C i j ∧ Q (.int (g i j)) M
  | _, _ => False
theorem ref_int {K : PySem.W.Frag} {C : Int → Int → Prop} {g : Int → Int → Int} : RefR2 K (rI C fun i j => .int (g i j)) (dInt C g) := fun G H p M s x y v u Q Q' S r1 r2 h k => by
  cases x with
  | int i =>
    cases y with
    | int j => cases r1; cases r2; exact ⟨i, j, rfl, rfl, h.1, k G H M (.int (g i j)) _ (Same.refl _) S rfl h.2⟩
    | _ => exact h.elim
  | _ => exact h.elim
def dInt0 (g : Int → Int → Int) : DOp := fun x y M Q => match x, y with
  | .int i, .int j => Q (.int (g i j)) M
  | _, _ => False
theorem ref_int0 {K : PySem.W.Frag} {g : Int → Int → Int} : RefR2 K (rI0 fun i j => .int (g i j)) (dInt0 g) := fun G H p M s x y v u Q Q' S r1 r2 h k => by
  cases x with
  | int i =>
    cases y with
    | int j => cases r1; cases r2; exact ⟨i, j, rfl, rfl, k G H M (.int (g i j)) _ (Same.refl _) S rfl h⟩
    | _ => exact h.elim
  | _ => exact h.elim
theorem o_sub {X : Cx} : QOp X (binaryOp .Sub) (rI0 fun i j => .int (i - j)) (dInt0 fun i j => i - j) := ⟨op_sub, ref_int0⟩
theorem o_mulI {X : Cx} : QOp X (binaryOp .Mult) (rI CMul fun i j => .int (i * j)) (dInt CMul fun i j => i * j) := ⟨op_mul, ref_int⟩
theorem o_fdiv {X : Cx} : QOp X (binaryOp .FloorDiv) (rI CDiv fun i j => .int (i / j)) (dInt CDiv fun i j => i / j) := ⟨op_fdiv, ref_int⟩
theorem o_mod {X : Cx} : QOp X (binaryOp .Mod) (rI (fun _ j => 0 < j) fun i j => .int (i % j)) (dInt (fun _ j => 0 < j) fun i j => i % j) := ⟨op_mod, ref_int⟩
theorem o_pow {X : Cx} : QOp X (binaryOp .Pow) (rI CPow fun i j => .int (i ^ j.toNat)) (dInt CPow fun i j => i ^ j.toNat) := ⟨op_pow, ref_int⟩
/-- <, <=, >, >= of whole numbers; < of texts -/
def dCmpI (g : Int → Int → Bool) : DOp := fun x y M Q => match x, y with
  | .int i, .int j => Q (.bl (g i j)) M
  | _, _ => False
theorem ref_cmpI {K : PySem.W.Frag} {g : Int → Int → Bool} : RefR2 K (rI0 fun i j => .bl (g i j)) (dCmpI g) := fun G H p M s x y v u Q Q' S r1 r2 h k => by
  cases x with
  | int i =>
    cases y with
    | int j => cases r1; cases r2; exact ⟨i, j, rfl, rfl, k G H M (.bl (g i j)) _ (Same.refl _) S rfl h⟩
    | _ => exact h.elim
  | _ => exact h.elim
theorem o_lt {X : Cx} : QOp X (compareOp .Lt) (rI0 fun i j => .bl (decide (i < j))) (dCmpI fun i j => decide (i < j)) := ⟨op_lt, ref_cmpI⟩
theorem o_le {X : Cx} : QOp X (compareOp .LtE) (rI0 fun i j => .bl (decide (i ≤ j))) (dCmpI fun i j => decide (i ≤ j)) := ⟨op_le, ref_cmpI⟩
theorem o_gt {X : Cx} : QOp X (compareOp .Gt) (rI0 fun i j => .bl (decide (j < i))) (dCmpI fun i j => decide (j < i)) := ⟨op_gt, ref_cmpI⟩
theorem o_ge {X : Cx} : QOp X (compareOp .GtE) (rI0 fun i j => .bl (decide (j ≤ i))) (dCmpI fun i j => decide (j ≤ i)) := ⟨op_ge, ref_cmpI⟩
def dNeg : DUn := fun x M Q => match x with
  | .int i => Q (.int (-i)) M
  | _ => False
theorem ref_neg {K : PySem.W.Frag} : RefU K (rU fun i => .int (-i)) dNeg := fun G H p M s x v Q Q' S r1 h k => by
  cases x with
  | int i => cases r1; exact ⟨i, rfl, k G H M (.int (-i)) _ (Same.refl _) S rfl h⟩
  | _ => exact h.elim
theorem q_neg {X : Cx} {W : WX} {a : Expr} {ta : TE} {qa : DTE} {pos : Pos} (ha : QE X W a ta qa) : QE X W (.UnaryOp .USub a pos) (tUn (rU fun i => .int (-i)) ta) (qUn dNeg qa) := ⟨pe_un un_neg ha.pe, ref_un ref_neg ha.rf⟩
def isNon : D → Bool
  | .non => true
  | _ => false
theorem isNon_of {K : PySem.W.Frag} {G : Hp} {d : D} {v : V} (r : Rep K G d v) : decide (v = .non) = isNon d := by
  cases d with
  | non => cases r; rfl
  | bl b => cases r; rfl
  | int b => cases r; rfl
  | ty b => cases r; rfl
  | ref b => cases r; rfl
  | str x => obtain ⟨r, _⟩ := r; subst r; rfl
  | tup x => obtain ⟨a, vs, r, _⟩ := r; subst r; rfl
  | ktp x => obtain ⟨a, vs, r, _⟩ := r; subst r; rfl
  | xtp x => obtain ⟨a, o, vs, r, _⟩ := r; subst r; rfl
  | lst x => obtain ⟨a, vs, r, _⟩ := r; subst r; rfl
  | scr x => obtain ⟨a, r, _⟩ := r; subst r; rfl
  | dct x y => obtain ⟨a, vs, r, _⟩ := r; subst r; rfl
  | ins x y z => obtain ⟨a, vs, fs, r, _⟩ := r; subst r; rfl
  | fnv x y z _ _ => obtain ⟨r, _⟩ := r; subst r; rfl
  | exc x y z w => obtain ⟨r, _⟩ := r; subst r; rfl
def dIs (neg : Bool) : DOp := fun x y M Q => match y with
  | .non => Q (.bl (xor neg (isNon x))) M
  | _ => False
theorem o_isnot {X : Cx} : QOp X (compareOp .IsNot) (fun x y H Q => y = .non ∧ Q (.bl (!decide (x = .non))) H) (dIs true) := ⟨op_notN, fun G H p M s x y v u Q Q' S r1 r2 h k => by
  cases y with
  | non =>
    cases r2
    exact ⟨rfl, k G H M (.bl (!isNon x)) _ (Same.refl _) S (by rw [isNon_of r1]; rfl) (by simpa [dIs] using h)⟩
  | _ => exact h.elim⟩
theorem strOk_append {a b : Str} (h1 : PyData.strOk a = true) (h2 : PyData.strOk b = true) : PyData.strOk (a ++ b) = true := by
  have e : (a ++ b).cps = a.cps ++ b.cps := rfl
  unfold PyData.strOk at *
  rw [e, Array.all_append, h1, h2]; rfl
theorem len_append {a b : Str} : (a ++ b).length = a.length + b.length := by
  show (a.cps ++ b.cps).size = _
  rw [Array.size_append]; rfl
def rAddX (K : PySem.W.Frag) : R2 := fun x y H Q => rI0 (fun i j => .int (i + j)) x y H Q ∨ (∃ i j, x = .str i ∧ y = .str j ∧ i.length + j.length ≤ sizeLine ∧ Q (.str (i ++ j)) H) ∨ rCat x y H Q ∨ rCatA K x y H Q ∨ ∃ b j, x = .bl b ∧ y = .int j ∧ Q (.int ((if b = true then 1 else 0) + j)) H
theorem op_add_bi {X : Cx} : OpR X (binaryOp .Add) (fun x y H Q => ∃ b j, x = .bl b ∧ y = .int j ∧ Q (.int ((if b = true then 1 else 0) + j)) H) := by
  intro pins s σ H x y v u Q I rx ry h
  obtain ⟨k, i, rfl, rfl, q⟩ := h
  obtain ⟨t, rfl⟩ := ry
  cases rx
  exact IntBool.add_bool_int ⟨.int ((if k = true then 1 else 0) + i), H, I.tok _, ⟨_, rfl⟩, q⟩
def dAdd (m : Bool) : DOp := fun x y M Q => match x, y with
  | .tup a, .tup b => a.length + b.length ≤ 100000 ∧ Q (.tup (a ++ b)) M
  | _, _ => match res M x, res M y with
    | .int i, .int j => Q (.int (i + j)) M
    | .str a, .str b => a.length + b.length ≤ 100000 ∧ Q (.str (a ++ b)) M
    | .lst a, .lst b => a.length + b.length ≤ 100000 ∧ newL m (a ++ b) M Q
    | .bl k, .int j => Q (.int ((if k = true then 1 else 0) + j)) M
    | .tup a, .tup b => a.length + b.length ≤ 100000 ∧ (a = [] → Q y M) ∧ (a ≠ [] → b = [] → Q x M) ∧ (a ≠ [] → b ≠ [] → Q (.tup (a ++ b)) M)
    | _, _ => False
theorem ref_add {K : PySem.W.Frag} {m : Bool} : RefR2 K (rAddX K) (dAdd m) := fun G H p M s x y v u Q Q' S r1 r2 h k => by
  unfold dAdd at h
  split at h
  · next a b =>
    obtain ⟨a1, vs, rfl, h1, h2, h3⟩ := r1
    obtain ⟨b1, us, rfl, g1, g2, g3⟩ := r2
    have z : vs.length + us.length ≤ sizeLine := by rw [h2.length, g2.length]; exact sz1000 h.1
    refine .inr (.inr (.inr (.inl ⟨a1, b1, vs, us, rfl, rfl, .inl (.inl (S.same _ _ h1)), .inl (.inl (S.same _ _ g1)), z, fun e => ?_, fun _ e => ?_, fun _ _ q hq => newT_ok S hq (RepL.append h2 g2) (by rw [List.length_append]; exact z) h.2 k⟩)))
    · have ea : a = [] := List.eq_nil_of_length_eq_zero (by rw [← h2.length, e]; rfl)
      refine k G H M (.tup b) _ (Same.refl _) S ⟨b1, us, rfl, g1, g2, g3⟩ ?_
      have := h.2; rw [ea] at this; simpa using this
    · have ea : b = [] := List.eq_nil_of_length_eq_zero (by rw [← g2.length, e]; rfl)
      refine k G H M (.tup a) _ (Same.refl _) S ⟨a1, vs, rfl, h1, h2, h3⟩ ?_
      have := h.2; rw [ea] at this; simpa using this
  · split at h
    · next i j e1 e2 =>
      cases as_int r1 e1
      cases as_int r2 e2
      exact .inl ⟨i, j, rfl, rfl, k G H M (.int (i + j)) _ (Same.refl _) S rfl h⟩
    · next a b e1 e2 =>
      obtain ⟨rfl, l1, o1⟩ := as_str r1 e1
      obtain ⟨rfl, l2, o2⟩ := as_str r2 e2
      exact .inr (.inl ⟨a, b, rfl, rfl, sz1000 h.1, k G H M (.str (a ++ b)) _ (Same.refl _) S ⟨rfl, by rw [len_append]; exact sz1000 h.1, strOk_append o1 o2⟩ h.2⟩)
    · next a b e1 e2 =>
      obtain ⟨a1, vs, rfl, h1, h2, h3⟩ := as_lst S r1 e1
      obtain ⟨b1, us, rfl, g1, g2, g3⟩ := as_lst S r2 e2
      have z : vs.length + us.length ≤ sizeLine := by rw [h2.length, g2.length]; exact sz1000 h.1
      exact .inr (.inr (.inl ⟨a1, b1, vs, us, rfl, rfl, h1, g1, z, fun q hq => newL_ok S hq (RepL.append h2 g2) (by rw [List.length_append]; exact z) h.2 k⟩))
    · next b j e1 e2 =>
      cases as_bl r1 e1
      cases as_int r2 e2
      exact .inr (.inr (.inr (.inr ⟨b, j, rfl, rfl, k G H M (.int _) _ (Same.refl _) S rfl h⟩)))
    · next a b e1 e2 =>
      obtain ⟨a1, vs, rfl, h1, h2, h3⟩ := as_tup S r1 e1
      obtain ⟨b1, us, rfl, g1, g2, g3⟩ := as_tup S r2 e2
      obtain ⟨hl, k0, k1, k2⟩ := h
      have z : vs.length + us.length ≤ sizeLine := by rw [h2.length, g2.length]; exact sz1000 hl
      have ev : vs = [] ↔ a = [] := ⟨fun e => List.eq_nil_of_length_eq_zero (by rw [← h2.length, e]; rfl), fun e => List.eq_nil_of_length_eq_zero (by rw [h2.length, e]; rfl)⟩
      have eu : us = [] ↔ b = [] := ⟨fun e => List.eq_nil_of_length_eq_zero (by rw [← g2.length, e]; rfl), fun e => List.eq_nil_of_length_eq_zero (by rw [g2.length, e]; rfl)⟩
      exact .inr (.inr (.inr (.inl ⟨a1, b1, vs, us, rfl, rfl, h1, g1, z, fun e => k G H M y _ (Same.refl _) S r2 (k0 (ev.mp e)), fun e0 e => k G H M x _ (Same.refl _) S r1 (k1 (fun q => e0 (ev.mpr q)) (eu.mp e)),
        fun e0 e q hq => newT_ok S hq (RepL.append h2 g2) (by rw [List.length_append]; exact z) (k2 (fun q => e0 (ev.mpr q)) fun q => e (eu.mpr q)) k⟩)))
    · exact h.elim
theorem o_add {X : Cx} (m : Bool) : QOp X (binaryOp .Add) (rAddX X.K) (dAdd m) := ⟨OpR.or op_add (OpR.or op_add_str (OpR.or op_cat (OpR.or op_catA op_add_bi))), ref_add⟩
def keyD : D → Option Key
  | .int i => some (.inl i)
  | .str x => some (.inr x)
  | _ => none
def keysD : List D → Option (List Key)
  | [] => some []
  | d :: ds => match keyD d, keysD ds with
    | some k, some ks => some (k :: ks)
    | _, _ => none
def valD {κ : Type} [DecidableEq κ] (kvs : List (κ × D)) (k : κ) : Option D := (kvs.find? fun kv => decide (kv.1 = k)).map (·.2)
/-- what a dict holds at a key; none: no dict, or no key of its kind -/
def dgetD (M : Mst) (x y : D) : Option (Option D) := match x with
  | .ref a => match M a with
    | some (.dK kvs) => (keyD y).map (valD kvs)
    | some (.lk _ kvs) => (keyD y).map (valD kvs)
    | some (.dT kvs) => match y with
      | .tup ds => (keysD ds).map (valD kvs)
      | _ => none
    | some (.lkT _ kvs) => match y with
      | .tup ds => (keysD ds).map (valD kvs)
      | _ => none
    | _ => none
  | .dct ks ds => (keyD y).map (valD (ks.zip ds))
  | _ => none
theorem keyD_of {K : PySem.W.Frag} {G : Hp} {d : D} {v : V} {k : Key} (r : Rep K G d v) (h : keyD d = some k) : v = kV k := by
  cases d with
  | int i => cases h; exact r
  | str x => cases h; exact r.1
  | _ => cases h
theorem keysD_of {K : PySem.W.Frag} {G : Hp} : ∀ {ds : List D} {vs : List V} {ks : List Key}, RepL K G ds vs → keysD ds = some ks → vs = ks.map kV
  | [], _, _, h, e => by cases h; cases e; rfl
  | d :: ds, _, ks, ⟨v, r, h1, h2, h3⟩, e => by
    simp only [keysD] at e
    split at e
    · next k ks' e1 e2 =>
      cases e
      rw [h1, keyD_of h2 e1, keysD_of h3 e2]; rfl
    · cases e
theorem valD_rel {κ : Type} [DecidableEq κ] {K : PySem.W.Frag} {G : Hp} : ∀ {kvs : List (κ × D)} {kv : List (κ × V)} (k : κ), kv.map (·.1) = kvs.map (·.1) → RepL K G (kvs.map (·.2)) (kv.map (·.2)) →
    (valD kvs k = none ∧ valV kv k = none) ∨ ∃ d v, valD kvs k = some d ∧ valV kv k = some v ∧ Rep K G d v
  | [], kv, k, h, r => by
    cases kv with
    | nil => exact .inl ⟨rfl, rfl⟩
    | cons _ _ => cases h
  | (a, d) :: kvs, kv, k, h, r => by
    cases kv with
    | nil => cases h
    | cons q kv =>
      obtain ⟨b, v⟩ := q
      simp only [List.map_cons, List.cons.injEq] at h
      obtain ⟨rfl, h⟩ := h
      obtain ⟨v', r', e, h2, h3⟩ := r
      simp only [List.map_cons, List.cons.injEq] at e
      obtain ⟨rfl, rfl⟩ := e
      by_cases z : b = k
      · exact .inr ⟨d, v, by simp [valD, z], by simp [valV, z], h2⟩
      · have := valD_rel k h h3
        simpa [valD, valV, z] using this
theorem zip_fs {α β : Type} : ∀ l : List (α × β), (l.map (·.1)).zip (l.map (·.2)) = l
  | [] => rfl
  | (a, b) :: l => by simp [zip_fs l]
@[simp] theorem zip_fs' {α β : Type} (l : List (α × β)) : (l.map (·.1)).zip (l.map (·.2)) = l := zip_fs l
theorem map_zip1 {α β : Type} : ∀ (l : List α) (m : List β), l.length = m.length → (l.zip m).map (·.1) = l
  | [], [], _ => rfl
  | a :: l, b :: m, h => by simp [map_zip1 l m (by simpa using h)]
theorem map_zip2 {α β : Type} : ∀ (l : List α) (m : List β), l.length = m.length → (l.zip m).map (·.2) = m
  | [], [], _ => rfl
  | a :: l, b :: m, h => by simp [map_zip2 l m (by simpa using h)]
theorem dgetD_of {K : PySem.W.Frag} {G H : Hp} {p : Rho} {M : Mst} {s : L2.St} {x y : D} {v u : V} {r : Option D} (S : Sim K G H p M s) (r1 : Rep K G x v) (r2 : Rep K G y u) (h : dgetD M x y = some r) :
    ∃ a o, v = .ref a ∧ DGet H a u o ∧ ((r = none ∧ o = none) ∨ ∃ d w, r = some d ∧ o = some w ∧ Rep K G d w) := by
  unfold dgetD at h
  split at h
  · next a =>
    cases r1
    split at h
    · next kvs em =>
      obtain ⟨gn, kv, h1, h2, h3, h4⟩ := S.mem _ _ em
      cases ek : keyD y with
      | none => rw [ek] at h; cases h
      | some k =>
        rw [ek] at h
        cases h
        cases keyD_of r2 ek
        exact ⟨a, _, rfl, DGet.k h1, (valD_rel k h2 h3).imp id fun ⟨d, v, a, b, c⟩ => ⟨d, v, a, b, c⟩⟩
    · next ho kvs em =>
      obtain ⟨gn, o, kv, h0, h1, h2, h3, h4⟩ := S.mem _ _ em
      rw [h0] at h1
      cases ek : keyD y with
      | none => rw [ek] at h; cases h
      | some k =>
        rw [ek] at h
        cases h
        cases keyD_of r2 ek
        exact ⟨a, _, rfl, .inl ⟨kv, k, .inr ⟨o, h1⟩, rfl, rfl⟩, (valD_rel k h2 h3).imp id fun ⟨d, v, a, b, c⟩ => ⟨d, v, a, b, c⟩⟩
    · next kvs em =>
      obtain ⟨gn, kv, h1, h2, h3, h4⟩ := S.mem _ _ em
      split at h
      · next ds =>
        obtain ⟨b, vs, rfl, g1, g2, g3⟩ := r2
        cases ek : keysD ds with
        | none => rw [ek] at h; cases h
        | some k =>
          rw [ek] at h
          cases h
          have := keysD_of g2 ek
          exact ⟨a, _, rfl, DGet.t h1 (by rw [S.same _ _ g1, this]), (valD_rel k h2 h3).imp id fun ⟨d, v, a, b, c⟩ => ⟨d, v, a, b, c⟩⟩
      · cases h
    · next ho kvs em =>
      obtain ⟨gn, o, kv, h0, h1, h2, h3, h4⟩ := S.mem _ _ em
      rw [h0] at h1
      split at h
      · next ds =>
        obtain ⟨b, vs, rfl, g1, g2, g3⟩ := r2
        cases ek : keysD ds with
        | none => rw [ek] at h; cases h
        | some k =>
          rw [ek] at h
          cases h
          have := keysD_of g2 ek
          exact ⟨a, _, rfl, .inr ⟨kv, k, b, .inr ⟨o, h1⟩, rfl, by rw [S.same _ _ g1, this], rfl⟩, (valD_rel k h2 h3).imp id fun ⟨d, v, a, b, c⟩ => ⟨d, v, a, b, c⟩⟩
      · cases h
    · cases h
  · next ks ds =>
    obtain ⟨a, kvs, rfl, h1, h2, h3, h4, _⟩ := r1
    cases ek : keyD y with
    | none => rw [ek] at h; cases h
    | some k =>
      rw [ek] at h
      cases h
      cases keyD_of r2 ek
      have hl : ks.length = ds.length := by rw [← h2, ← h3.length]; simp
      refine ⟨a, _, rfl, .inl ⟨kvs, k, same_rd S.same h1, rfl, rfl⟩, (valD_rel k (by rw [map_zip1 _ _ hl]; exact h2) (by rw [map_zip2 _ _ hl]; exact h3)).imp id fun ⟨d, v, a, b, c⟩ => ⟨d, v, a, b, c⟩⟩
  · cases h
def rIxD : R2 := fun x y H Q => ∃ a v, x = .ref a ∧ DGet H a y (some v) ∧ Q v H
theorem ix_dict {X : Cx} (hu : X.A.units + 1 < cLine) : IxR X rIxD := by
  intro value slice pins s σ H x y v u Q I rx ry h hs
  obtain ⟨a, z, rfl, g, q⟩ := h
  cases rx
  exact PyProof.Rows.tail_any (dict_typeIs I g) PySem.F.slot_dict_getitem.lookup (d_getItem hu I g ry fun w' s3 I3 rw' => ⟨z, H, I3, rw', q⟩) hs
def rIxA (K : PySem.W.Frag) : R2 := fun x y H Q => rIx K x y H Q ∨ rIxD x y H Q
def dIx : DOp := fun x y M Q => match dgetD M x y with
  | some (some d) => Q d M
  | some none => False
  | none => match res M x, y with
    | .lst ds, .int i => match atI ds i with | some d => Q d M | none => False
    | .tup ds, .int i => match atI ds i with | some d => Q d M | none => False
    | .str z, .int i => match atI z.cps.toList i with | some c => Q (.str ⟨#[c]⟩) M | none => False
    | .scr ns, .int i => match atI ns i with | some c => Q (.int c) M | none => False
    | _, _ => False
theorem as_scr {K : PySem.W.Frag} {G H : Hp} {p : Rho} {M : Mst} {s : L2.St} {x : D} {v : V} {ns : List Int} (S : Sim K G H p M s) (r : Rep K G x v) (e : res M x = .scr ns) : ∃ a, v = .ref a ∧ SqL K G a (ns.map V.int) := by
  cases x with
  | scr ms => cases e; obtain ⟨a, h1, h2, _⟩ := r; exact ⟨a, h1, h2⟩
  | ref a =>
    simp only [res] at e
    split at e <;> cases e
  | _ => cases e
theorem atI_map {α β : Type} {f : α → β} {xs : List α} {i : Int} {c : α} (h : atI xs i = some c) : atI (xs.map f) i = some (f c) := by
  unfold atI at h ⊢
  rw [List.length_map]
  cases e : ixN xs.length i with
  | none => rw [e] at h; cases h
  | some j =>
    rw [e] at h
    have h' : xs[j]? = some c := h
    show (xs.map f)[j]? = some (f c)
    rw [List.getElem?_map, h']; rfl
theorem atI_rel {K : PySem.W.Frag} {G : Hp} {ds : List D} {vs : List V} {i : Int} {d : D} (r : RepL K G ds vs) (h : atI ds i = some d) : ∃ v, atI vs i = some v ∧ Rep K G d v := by
  unfold atI at h ⊢
  rw [r.length]
  cases e : ixN ds.length i with
  | none => rw [e] at h; cases h
  | some j =>
    rw [e] at h
    exact r.get h
theorem ref_ix {K : PySem.W.Frag} : RefR2 K (rIxA K) dIx := fun G H p M s x y v u Q Q' S r1 r2 h k => by
  unfold dIx at h
  split at h
  · next d e =>
    obtain ⟨a, o, rfl, g, q⟩ := dgetD_of S r1 r2 e
    rcases q with ⟨q, _⟩ | ⟨d', w, q, rfl, r⟩
    · cases q
    · cases q
      exact .inr ⟨a, w, rfl, g, k G H M d w (Same.refl _) S r h⟩
  · exact h.elim
  · split at h
    · next ds i e1 _ =>
      obtain ⟨a, vs, rfl, h1, h2, h3⟩ := as_lst S r1 e1
      cases r2
      split at h
      · next d ea =>
        obtain ⟨w, ew, rw'⟩ := atI_rel h2 ea
        exact .inl (.inl ⟨a, vs, i, w, rfl, rfl, .inl (.inl h1), ew, k G H M d w (Same.refl _) S rw' h⟩)
      · exact h.elim
    · next ds i e1 _ =>
      obtain ⟨a, vs, rfl, h1, h2, h3⟩ := as_tup S r1 e1
      cases r2
      split at h
      · next d ea =>
        obtain ⟨w, ew, rw'⟩ := atI_rel h2 ea
        exact .inl (.inr (.inl ⟨a, vs, i, w, rfl, rfl, h1, ew, k G H M d w (Same.refl _) S rw' h⟩))
      · exact h.elim
    · next z i e1 _ =>
      obtain ⟨rfl, l1, o1⟩ := as_str r1 e1
      cases r2
      split at h
      · next c ea =>
        refine .inl (.inr (.inr ⟨z, i, c, rfl, rfl, l1, ea, k G H M (.str ⟨#[c]⟩) _ (Same.refl _) S ⟨rfl, sz1000 (by show 1 ≤ 100000; decide), ?_⟩ h⟩))
        obtain ⟨j, _, h2, _⟩ := atI_get ea
        have hm : c ∈ z.cps.toList := List.mem_of_getElem? h2
        have ho : ∀ y ∈ z.cps.toList, decide (y < 0x110000) = true := by
          unfold PyData.strOk at o1
          rw [← Array.all_toList] at o1
          exact List.all_eq_true.mp o1
        have := ho c hm
        simpa [PyData.strOk] using this
      · exact h.elim
    · next ns i e1 _ =>
      obtain ⟨a, rfl, h1⟩ := as_scr S r1 e1
      cases r2
      split at h
      · next c ea => exact .inl (.inl ⟨a, _, i, .int c, rfl, rfl, same_l S.same h1, atI_map ea, k G H M (.int c) _ (Same.refl _) S rfl h⟩)
      · exact h.elim
    · exact h.elim
theorem q_ix {X : Cx} {W : WX} {a b : Expr} {ta tb : TE} {qa qb : DTE} {pos : Pos} (hu : X.A.units + 1 < cLine) (ha : QE X W a ta qa) (hb : QE X W b tb qb) (hs : PlainIx b := by exact fun _ _ => rfl) : QE X W (.Subscript a b pos) (tOp (rIxA X.K) ta tb) (qOp dIx qa qb) :=
  ⟨pe_ix (IxR.or ix_seq (ix_dict hu)) ha.pe hb.pe hs, ref_op ref_ix ha.rf hb.rf⟩
end DL
namespace DL
open PySem L2
def flatD : D → Bool
  | .non => true
  | .bl _ => true
  | .int _ => true
  | .str _ => true
  | _ => false
theorem flatD_of {K : PySem.W.Frag} {G : Hp} {d : D} {v : V} (r : Rep K G d v) (h : flatD d = true) : flatV v = true ∧ ∀ e w, Rep K G e w → flatD e = true → eqV w v = deq e d := by
  cases d with
  | non => cases r; exact ⟨rfl, fun e w r h => by
      cases e with
      | non => cases r; rfl
      | bl b => cases r; rfl
      | int b => cases r; rfl
      | str b => obtain ⟨r, _⟩ := r; subst r; rfl
      | _ => cases h⟩
  | bl b => cases r; exact ⟨rfl, fun e w r h => by
      cases e with
      | non => cases r; rfl
      | bl b => cases r; rfl
      | int b => cases r; rfl
      | str b => obtain ⟨r, _⟩ := r; subst r; rfl
      | _ => cases h⟩
  | int b => cases r; exact ⟨rfl, fun e w r h => by
      cases e with
      | non => cases r; rfl
      | bl b => cases r; rfl
      | int b => cases r; rfl
      | str b => obtain ⟨r, _⟩ := r; subst r; rfl
      | _ => cases h⟩
  | str b => obtain ⟨r, _⟩ := r; subst r; exact ⟨rfl, fun e w r h => by
      cases e with
      | non => cases r; rfl
      | bl b => cases r; rfl
      | int b => cases r; rfl
      | str b => obtain ⟨r, _⟩ := r; subst r; rfl
      | _ => cases h⟩
  | _ => cases h
theorem inV_of {K : PySem.W.Frag} {G : Hp} {d : D} {v : V} (r : Rep K G d v) (h : flatD d = true) : ∀ {ds : List D} {vs : List V}, RepL K G ds vs → ds.all flatD = true → vs.all flatV = true ∧ inV v vs = ds.any fun e => deq e d
  | [], _, q, _ => by cases q; exact ⟨rfl, rfl⟩
  | e :: ds, _, ⟨w, vs, e1, h2, h3⟩, f => by
    subst e1
    have f' : flatD e = true ∧ ds.all flatD = true := by simpa using f
    obtain ⟨i1, i2⟩ := inV_of r h h3 f'.2
    obtain ⟨fv, _⟩ := flatD_of h2 f'.1
    have e2 := (flatD_of r h).2 e w h2 f'.1
    refine ⟨by simp [fv, i1], ?_⟩
    have e3 : inV v (w :: vs) = (eqV w v || inV v vs) := rfl
    rw [e3, i2, e2]; rfl
def rInDk (neg : Bool) : R2 := fun y x H Q => ∃ a o, x = .ref a ∧ DGet H a y o ∧ Q (.bl (xor neg o.isSome)) H
theorem op_inDk {X : Cx} (hu : X.A.units + 1 < cLine) : OpR X (compareOp .In) (rInDk false) := by
  intro pins s σ H y x u v Q I ry rx h
  obtain ⟨a, o, rfl, g, q⟩ := h
  cases rx
  exact d_in hu I g ry fun s3 I3 => ⟨.bl o.isSome, H, I3, rfl, by simpa using q⟩
theorem op_ninDk {X : Cx} (hu : X.A.units + 1 < cLine) : OpR X (compareOp .NotIn) (rInDk true) := by
  intro pins s σ H y x u v Q I ry rx h
  obtain ⟨a, o, rfl, g, q⟩ := h
  cases rx
  exact d_notIn hu I g ry fun s3 I3 => ⟨.bl (!o.isSome), H, I3, rfl, by simpa using q⟩
def inS (c z : Str) : Bool := !(Builtin.Str.occurrences z c 0 z.length 1).isEmpty
def rInStr (neg : Bool) : R2 := fun x y H Q => ∃ i j, x = .str i ∧ y = .str j ∧ Q (.bl (xor neg (inS i j))) H
theorem op_inStr {X : Cx} : OpR X (compareOp .In) (rInStr false) := by
  intro pins s σ H y x u v Q I ry rx h
  obtain ⟨i, j, e1, e2, q⟩ := h
  exact op_in_str pins s σ H y x u v Q I ry rx ⟨i, j, e1, e2, by simpa [inS] using q⟩
theorem op_ninStr {X : Cx} : OpR X (compareOp .NotIn) (rInStr true) := by
  intro pins s σ H y x u v Q I ry rx h
  obtain ⟨i, j, e1, e2, q⟩ := h
  exact op_notIn_str pins s σ H y x u v Q I ry rx ⟨i, j, e1, e2, by simpa [inS] using q⟩
def rInX (K : PySem.W.Frag) (neg : Bool) : R2 := fun x y H Q => rIn K neg x y H Q ∨ rInDk neg x y H Q ∨ rInStr neg x y H Q
def dIn (neg : Bool) : DOp := fun x y M Q => match dgetD M y x with
  | some r => Q (.bl (xor neg r.isSome)) M
  | none => match res M y with
    | .lst ds => flatD x = true ∧ ds.all flatD = true ∧ Q (.bl (xor neg (ds.any fun e => deq e x))) M
    | .tup ds => flatD x = true ∧ ds.all flatD = true ∧ Q (.bl (xor neg (ds.any fun e => deq e x))) M
    | .str z => match x with
      | .str c => Q (.bl (xor neg (inS c z))) M
      | _ => False
    | _ => False
theorem ref_in {K : PySem.W.Frag} {neg : Bool} : RefR2 K (rInX K neg) (dIn neg) := fun G H p M s x y v u Q Q' S r1 r2 h k => by
  have nb : ∀ b : Bool, (if neg = true then !b else b) = xor neg b := fun b => by cases neg <;> cases b <;> rfl
  unfold dIn at h
  split at h
  · next r e =>
    obtain ⟨a, o, rfl, g, q⟩ := dgetD_of S r2 r1 e
    refine .inr (.inl ⟨a, o, rfl, g, k G H M (.bl _) _ (Same.refl _) S rfl ?_⟩)
    rcases q with ⟨rfl, rfl⟩ | ⟨d, w, rfl, rfl, _⟩ <;> exact h
  · split at h
    · next ds e1 =>
      obtain ⟨f1, f2, h⟩ := h
      obtain ⟨a, vs, rfl, h1, h2, h3⟩ := as_lst S r2 e1
      obtain ⟨i1, i2⟩ := inV_of r1 f1 h2 f2
      refine .inl ⟨a, vs, rfl, .inl (.inl (.inl h1)), (flatD_of r1 f1).1, i1, k G H M (.bl _) _ (Same.refl _) S rfl ?_⟩
      rw [nb, i2]; exact h
    · next ds e1 =>
      obtain ⟨f1, f2, h⟩ := h
      obtain ⟨a, vs, rfl, h1, h2, h3⟩ := as_tup S r2 e1
      obtain ⟨i1, i2⟩ := inV_of r1 f1 h2 f2
      refine .inl ⟨a, vs, rfl, .inr h1, (flatD_of r1 f1).1, i1, k G H M (.bl _) _ (Same.refl _) S rfl ?_⟩
      rw [nb, i2]; exact h
    · next z e1 =>
      obtain ⟨rfl, l1, o1⟩ := as_str r2 e1
      split at h
      · next c _ =>
        obtain ⟨rfl, _⟩ := r1
        exact .inr (.inr ⟨c, z, rfl, rfl, k G H M (.bl _) _ (Same.refl _) S rfl h⟩)
      · exact h.elim
    · exact h.elim
theorem o_in {X : Cx} (hu : X.A.units + 1 < cLine) : QOp X (compareOp .In) (rInX X.K false) (dIn false) := ⟨OpR.or op_in_seq (OpR.or (op_inDk hu) op_inStr), ref_in⟩
theorem o_notin {X : Cx} (hu : X.A.units + 1 < cLine) : QOp X (compareOp .NotIn) (rInX X.K true) (dIn true) := ⟨OpR.or op_notIn_seq (OpR.or (op_ninDk hu) op_ninStr), ref_in⟩
abbrev DTO := DWt → Rho → Mst → (Option Int → Mst → Prop) → Prop
def RefO (K : PySem.W.Frag) (W : WX) (t : TO) (q : DTO) : Prop := ∀ DW G H p M s (Q : Option Int → Mst → Prop) (Q' : Option Int → Hp → Prop), WLink K G DW W → Sim K G H p M s → q DW p M Q →
  (∀ G' H' M' b, Same G G' → Sim K G' H' p M' s → Q b M' → Q' b H') → t s H Q'
structure QO (X : Cx) (W : WX) (e : Option Expr) (t : TO) (q : DTO) : Prop where
  pe : PO X e t
  rf : RefO X.K W t q
@[simp] def qNoPart : DTO := fun _ _ M Q => Q none M
@[simp] def qPart (q : DTE) : DTO := fun DW p M Q => q DW p M fun d M1 => match d with | .int i => Q (some i) M1 | _ => False
def cutX {α : Type} (xs : List α) (lo hi : Option Int) : List α := (xs.drop (HT.sIx xs.length 0 lo)).take (HT.sIx xs.length xs.length hi - HT.sIx xs.length 0 lo)
def dSl (m : Bool) (x : D) (lo hi : Option Int) (M : Mst) (Q : DK) : Prop := match x with
  | .tup ds => Q (.tup (cutX ds lo hi)) M
  | .xtp ds => Q (.tup (cutX ds lo hi)) M ∧ Q (.xtp (cutX ds lo hi)) M
  | .ktp ds => Q (.tup (cutX ds lo hi)) M ∧ Q (.ktp (cutX ds lo hi)) M
  | _ => match res M x with
    | .lst ds => newL m (cutX ds lo hi) M Q
    | .str z => Q (.str (cutS z lo hi)) M
    | _ => False
def qSl (m : Bool) (qe : DTE) (ql qh : DTO) : DTE := fun DW p M Q => qe DW p M fun x M1 => ql DW p M1 fun l M2 => qh DW p M2 fun u M3 => dSl m x l u M3 Q
theorem strOk_cut {z : Str} {lo hi : Option Int} (h : PyData.strOk z = true) : PyData.strOk (cutS z lo hi) = true := by
  have ho : ∀ y ∈ z.cps.toList, decide (y < 0x110000) = true := by
    unfold PyData.strOk at h
    rw [← Array.all_toList] at h
    exact List.all_eq_true.mp h
  unfold PyData.strOk cutS
  rw [← Array.all_toList]
  refine List.all_eq_true.mpr fun y hy => ho y ?_
  exact List.mem_of_mem_drop (List.mem_of_mem_take (by simpa using hy))
section
variable {X : Cx} {W : WX} {e : Expr} {te : TE} {qe : DTE} {lo hi : Option Expr} {tl th : TO} {ql qh : DTO} {pos p2 : Pos}
theorem qo_none : QO X W none tNoPart qNoPart := ⟨po_none, fun DW G H p M s Q Q' hw S q k => k G H M none (Same.refl _) S q⟩
theorem qo_some (h : QE X W e te qe) : QO X W (some e) (tPart te) (qPart qe) := ⟨po_some h.pe, fun DW G H p M s Q Q' hw S q k => h.rf DW G H p M s _ _ hw S q fun G1 H1 M1 d v e1 S1 r1 h1 => by
  cases d with
  | int i => cases r1; exact ⟨i, rfl, k G1 H1 M1 _ e1 S1 h1⟩
  | _ => exact h1.elim⟩
def rSlX (K : PySem.W.Frag) : V → Option Int → Option Int → Hp → VK → Prop := fun x lo hi H Q => rSlL K x lo hi H Q ∨ rSlA K x lo hi H Q ∨ rSlS x lo hi H Q
theorem q_slice (m : Bool) (he : QE X W e te qe) (hl : QO X W lo tl ql) (hu : QO X W hi th qh) : QE X W (.Subscript e (.Slice lo hi none p2) pos) (tSl (rSlX X.K) te tl th) (qSl m qe ql qh) :=
  ⟨pe_slice (SlR.or sl_list (SlR.or sl_tupA sl_str)) he.pe hl.pe hu.pe, fun DW G H p M s Q Q' hw S h k => he.rf DW G H p M s _ _ hw S h fun G1 H1 M1 d v e1 S1 r1 h1 =>
    hl.rf DW G1 H1 p M1 s _ _ (hw.mono e1) S1 h1 fun G2 H2 M2 l e2 S2 h2 => hu.rf DW G2 H2 p M2 s _ _ (hw.mono (e1.trans e2)) S2 h2 fun G3 H3 M3 u e3 S3 h3 => by
      have r3 := Rep.mono (e2.trans e3) _ _ r1
      have k3 : ∀ G' H' M' d w, Same G3 G' → Sim X.K G' H' p M' s → Rep X.K G' d w → Q d M' → Q' w H' := fun G' H' M' d w e4 => k G' H' M' d w (((e1.trans e2).trans e3).trans e4)
      unfold dSl at h3
      split at h3
      · next ds =>
        obtain ⟨a, vs, rfl, g1, g2, g3⟩ := r3
        have g1' := S3.same _ _ g1
        have c1 : RepL X.K G3 (cutX ds l u) (cutV vs l u) := by
          unfold cutX cutV
          rw [g2.length]
          exact RepL.take _ (RepL.drop _ g2)
        have c2 := Nat.le_trans (cutV_length vs l u) g3
        refine .inr (.inl ⟨a, vs, rfl, .inl (.inl g1'), fun hwh => ?_, fun hnw q hq => newT_ok S3 hq c1 c2 h3 k3⟩)
        refine k3 G3 H3 M3 (.tup (cutX ds l u)) _ (Same.refl _) S3 ⟨a, vs, rfl, g1, ?_, g3⟩ h3
        have e5 : cutV vs l u = vs := by
          unfold cutV
          rw [hwh.1, hwh.2]
          simp
        rw [e5] at c1; exact c1
      · next ds =>
        obtain ⟨a, o, vs, rfl, g1, g0, g2, g3⟩ := r3
        have g1' := S3.same _ _ g1
        have c1 : RepL X.K G3 (cutX ds l u) (cutV vs l u) := by
          unfold cutX cutV
          rw [g2.length]
          exact RepL.take _ (RepL.drop _ g2)
        have c2 := Nat.le_trans (cutV_length vs l u) g3
        refine .inr (.inl ⟨a, vs, rfl, .inl (.inr ⟨o, g1'⟩), fun hwh => ?_, fun hnw q hq => newT_ok S3 hq c1 c2 h3.1 k3⟩)
        refine k3 G3 H3 M3 (.xtp (cutX ds l u)) _ (Same.refl _) S3 ⟨a, o, vs, rfl, g1, g0, ?_, g3⟩ h3.2
        have e5 : cutV vs l u = vs := by
          unfold cutV
          rw [hwh.1, hwh.2]
          simp
        rw [e5] at c1; exact c1
      · next ds =>
        obtain ⟨a, vs, rfl, g1, g2, g3⟩ := r3
        have c1 : RepL X.K G3 (cutX ds l u) (cutV vs l u) := by
          unfold cutX cutV
          rw [g2.length]
          exact RepL.take _ (RepL.drop _ g2)
        have c2 := Nat.le_trans (cutV_length vs l u) g3
        refine .inr (.inl ⟨a, vs, rfl, same_t S3.same g1, fun hwh => ?_, fun hnw q hq => newT_ok S3 hq c1 c2 h3.1 k3⟩)
        refine k3 G3 H3 M3 (.ktp (cutX ds l u)) _ (Same.refl _) S3 ⟨a, vs, rfl, g1, ?_, g3⟩ h3.2
        have e5 : cutV vs l u = vs := by
          unfold cutV
          rw [hwh.1, hwh.2]
          simp
        rw [e5] at c1; exact c1
      · split at h3
        · next ds e4 =>
          obtain ⟨a, vs, rfl, g1, g2, g3⟩ := as_lst S3 r3 e4
          have c1 : RepL X.K G3 (cutX ds l u) (cutV vs l u) := by
            unfold cutX cutV
            rw [g2.length]
            exact RepL.take _ (RepL.drop _ g2)
          exact .inl ⟨a, vs, rfl, .inl (.inl g1), fun q hq => newL_ok S3 hq c1 (Nat.le_trans (cutV_length vs l u) g3) h3 k3⟩
        · next z e4 =>
          obtain ⟨rfl, l1, o1⟩ := as_str r3 e4
          exact .inr (.inr ⟨z, rfl, l1, k3 G3 H3 M3 (.str _) _ (Same.refl _) S3 ⟨rfl, Nat.le_trans (cutS_length z l u) l1, strOk_cut o1⟩ h3⟩)
        · exact h3.elim⟩
end
def dLen : DCa := fun ds M Q => match ds with
  | [x] => match res M x with
    | .lst es => Q (.int es.length) M
    | .tup es => Q (.int es.length) M
    | .str z => Q (.int z.length) M
    | .scr ns => Q (.int ns.length) M
    | .dct ks es => Q (.int es.length) M
    | _ => False
  | _ => False
theorem call_lenDR {X : Cx} : CallR X (.builtin "len") (fun xs H Q => ∃ a kvs, xs = [V.ref a] ∧ Rd H a (.dK kvs) ∧ Q (.int kvs.length) H) := by
  intro pins s σ H xs us Q I r h
  obtain ⟨a, kvs, rfl, ha, q⟩ := h
  obtain ⟨u, rfl, ru⟩ := vals1 r
  cases ru
  exact d_len I ha fun t s' I' => ⟨.int kvs.length, H, I', ⟨_, rfl⟩, q⟩
def rLenX (K : PySem.W.Frag) : List V → Hp → VK → Prop := fun xs H Q => (∃ x n, xs = [x] ∧ LenV K x H n ∧ Q (.int n) H) ∨ ∃ a kvs, xs = [V.ref a] ∧ Rd H a (.dK kvs) ∧ Q (.int kvs.length) H
theorem repL1 {K : PySem.W.Frag} {G : Hp} {x : D} {vs : List V} (r : RepL K G [x] vs) : ∃ v, vs = [v] ∧ Rep K G x v := by
  obtain ⟨v, r', e, h1, h2⟩ := r
  cases h2
  exact ⟨v, e, h1⟩
theorem repL2 {K : PySem.W.Frag} {G : Hp} {x y : D} {vs : List V} (r : RepL K G [x, y] vs) : ∃ v u, vs = [v, u] ∧ Rep K G x v ∧ Rep K G y u := by
  obtain ⟨v, r', e, h1, h2⟩ := r
  obtain ⟨u, e2, h3⟩ := repL1 h2
  subst e2
  exact ⟨v, u, e, h1, h3⟩
theorem c_len {X : Cx} : QCa X (.builtin "len") (rLenX X.K) dLen := ⟨CallR.or call_len call_lenDR, fun G H p M s ds vs Q Q' S r h k => by
  unfold dLen at h
  split at h
  · next x =>
    obtain ⟨v, rfl, r1⟩ := repL1 r
    have fin : ∀ (n : Nat), Q (.int n) M → Q' (.int n) H := fun n q => k G H M (.int n) _ (Same.refl _) S rfl q
    split at h
    · next es e1 =>
      obtain ⟨a, us, rfl, g1, g2, g3⟩ := as_lst S r1 e1
      exact .inl ⟨_, es.length, rfl, .inl ⟨us, .inl (.inl g1), g2.length.symm⟩, fin _ h⟩
    · next es e1 =>
      obtain ⟨a, us, rfl, g1, g2, g3⟩ := as_tup S r1 e1
      exact .inl ⟨_, es.length, rfl, .inr ⟨us, g1, g2.length.symm⟩, fin _ h⟩
    · next z e1 =>
      obtain ⟨rfl, l1, o1⟩ := as_str r1 e1
      exact .inl ⟨_, z.length, rfl, ⟨l1, rfl⟩, fin _ h⟩
    · next ns e1 =>
      cases x with
      | scr ms =>
        cases e1
        obtain ⟨a, rfl, g1, g2⟩ := r1
        exact .inl ⟨_, ns.length, rfl, .inl ⟨_, same_l S.same g1, by simp⟩, fin _ h⟩
      | ref a =>
        simp only [res] at e1
        split at e1 <;> cases e1
      | _ => cases e1
    · next ks es e1 =>
      obtain ⟨a, us, rfl, g1, g2, g3, g4, _⟩ := as_dct S r1 e1
      refine .inr ⟨a, us, rfl, g1, ?_⟩
      have e2 : us.length = es.length := by have := g3.length; simpa using this
      rw [e2]
      exact fin _ h
    · exact h.elim
  · exact h.elim⟩
def dAbs : DCa := fun ds M Q => match ds with
  | [.int i] => Q (.int (if i < 0 then -i else i)) M
  | _ => False
theorem c_abs {X : Cx} : QCa X (.builtin "abs") (fun xs H Q => ∃ i, xs = [.int i] ∧ Q (.int (if i < 0 then -i else i)) H) dAbs := ⟨call_abs, fun G H p M s ds vs Q Q' S r h k => by
  unfold dAbs at h
  split at h
  · next i =>
    obtain ⟨v, rfl, r1⟩ := repL1 r
    cases r1
    exact ⟨i, rfl, k G H M (.int _) _ (Same.refl _) S rfl h⟩
  · exact h.elim⟩
def dMax2 : DCa := fun ds M Q => match ds with
  | [.int i, .int j] => Q (.int (if j > i then j else i)) M
  | _ => False
def dMin2 : DCa := fun ds M Q => match ds with
  | [.int i, .int j] => Q (.int (if j < i then j else i)) M
  | _ => False
theorem c_max2 {X : Cx} (hc : X.calm = true) : QCa X (.builtin "max") (fun xs H Q => ∃ i j, xs = [.int i, .int j] ∧ Q (.int (if j > i then j else i)) H) dMax2 := ⟨call_max2 hc, fun G H p M s ds vs Q Q' S r h k => by
  unfold dMax2 at h
  split at h
  · next i j =>
    obtain ⟨v, u, rfl, r1, r2⟩ := repL2 r
    cases r1
    cases r2
    exact ⟨i, j, rfl, k G H M (.int _) _ (Same.refl _) S rfl h⟩
  · exact h.elim⟩
theorem c_min2 {X : Cx} (hc : X.calm = true) : QCa X (.builtin "min") (fun xs H Q => ∃ i j, xs = [.int i, .int j] ∧ Q (.int (if j < i then j else i)) H) dMin2 := ⟨call_min2 hc, fun G H p M s ds vs Q Q' S r h k => by
  unfold dMin2 at h
  split at h
  · next i j =>
    obtain ⟨v, u, rfl, r1, r2⟩ := repL2 r
    cases r1
    cases r2
    exact ⟨i, j, rfl, k G H M (.int _) _ (Same.refl _) S rfl h⟩
  · exact h.elim⟩
def dList (m : Bool) : DCa := fun ds M Q => match ds with
  | [x] => match res M x with
    | .lst es => newL m es M Q
    | .tup es => newL m es M Q
    | _ => False
  | _ => False
theorem c_list {X : Cx} (m : Bool) : QCa X (.type "list") (fun xs H Q => ∃ p ys, xs = [.ref p] ∧ (SqL X.K H p ys ∨ SqT X.K H p ys) ∧ ∀ l, H l = none → Q (.ref l) (upd H l (.lst ys))) (dList m) := ⟨call_list_of, fun G H p M s ds vs Q Q' S r h k => by
  unfold dList at h
  split at h
  · next x =>
    obtain ⟨v, rfl, r1⟩ := repL1 r
    split at h
    · next es e1 =>
      obtain ⟨a, us, rfl, g1, g2, g3⟩ := as_lst S r1 e1
      exact ⟨a, us, rfl, .inl (.inl (.inl g1)), fun q hq => newL_ok S hq g2 g3 h k⟩
    · next es e1 =>
      obtain ⟨a, us, rfl, g1, g2, g3⟩ := as_tup S r1 e1
      exact ⟨a, us, rfl, .inr g1, fun q hq => newL_ok S hq g2 g3 h k⟩
    · exact h.elim
  · exact h.elim⟩
def dTuple : DCa := fun ds M Q => match ds with
  | [.tup es] => Q (.tup es) M
  | [x] => match res M x with
    | .lst es => Q (.tup es) M
    | _ => False
  | _ => False
theorem c_tuple {X : Cx} : QCa X (.type "tuple") (fun xs H Q => ∃ p ys, xs = [.ref p] ∧ ((SqL X.K H p ys ∧ ∀ l, H l = none → Q (.ref l) (upd H l (.tup ys))) ∨ (SqT X.K H p ys ∧ Q (.ref p) H))) dTuple := ⟨call_tuple_of, fun G H p M s ds vs Q Q' S r h k => by
  unfold dTuple at h
  split at h
  · next es =>
    obtain ⟨v, rfl, r1⟩ := repL1 r
    obtain ⟨a, us, rfl, g1, g2, g3⟩ := r1
    exact ⟨a, us, rfl, .inr ⟨.inl (.inl (S.same _ _ g1)), k G H M (.tup es) _ (Same.refl _) S ⟨a, us, rfl, g1, g2, g3⟩ h⟩⟩
  · next x _ =>
    obtain ⟨v, rfl, r1⟩ := repL1 r
    split at h
    · next es e1 =>
      obtain ⟨a, us, rfl, g1, g2, g3⟩ := as_lst S r1 e1
      exact ⟨a, us, rfl, .inl ⟨.inl (.inl g1), fun q hq => newT_ok S hq g2 g3 h k⟩⟩
    · exact h.elim
  · exact h.elim⟩
def blsD : List D → Option (List Bool)
  | [] => some []
  | .bl b :: ds => (blsD ds).map (b :: ·)
  | _ => none
theorem blsD_of {K : PySem.W.Frag} {G : Hp} : ∀ {ds : List D} {vs : List V} {bs : List Bool}, RepL K G ds vs → blsD ds = some bs → vs = bs.map V.bl
  | [], _, _, h, e => by cases h; cases e; rfl
  | d :: ds, _, bs, ⟨v, r, h1, h2, h3⟩, e => by
    cases d with
    | bl b =>
      simp only [blsD] at e
      cases eb : blsD ds with
      | none => rw [eb] at e; cases e
      | some cs =>
        rw [eb] at e; cases e
        cases h2
        rw [h1, blsD_of h3 eb]; rfl
    | _ => simp [blsD] at e
@[simp] theorem blsD_map {α : Type} (f : α → Bool) : ∀ l : List α, blsD (l.map fun x => .bl (f x)) = some (l.map f)
  | [] => rfl
  | x :: l => by simp [blsD, blsD_map f l]
def dAll : DCa := fun ds M Q => match ds with
  | [x] => match res M x with
    | .lst es => match blsD es with | some bs => Q (.bl (bs.all id)) M | none => False
    | _ => False
  | _ => False
theorem c_all {X : Cx} (hc : X.calm = true) : QCa X (.builtin "all") (rAll X.K) dAll := ⟨cr_all hc, fun G H p M s ds vs Q Q' S r h k => by
  unfold dAll at h
  split at h
  · next x =>
    obtain ⟨v, rfl, r1⟩ := repL1 r
    split at h
    · next es e1 =>
      obtain ⟨a, us, rfl, g1, g2, g3⟩ := as_lst S r1 e1
      split at h
      · next bs eb =>
        refine ⟨a, bs, rfl, .inl (.inl ?_), k G H M (.bl _) _ (Same.refl _) S rfl h⟩
        rw [← blsD_of g2 eb]; exact g1
      · exact h.elim
    · exact h.elim
  · exact h.elim⟩
def tyD : D → String
  | .non => "NoneType"
  | .bl _ => "bool"
  | .int _ => "int"
  | .str _ => "str"
  | .tup _ => "tuple"
  | .ktp _ => "tuple"
  | .xtp _ => "tuple"
  | .lst _ => "list"
  | .dct _ _ => "dict"
  | .scr _ => "list"
  | _ => ""
def hasTy : D → Bool
  | .ins _ _ _ => false
  | .exc _ _ _ _ => false
  | .fnv _ _ _ _ _ => false
  | .ref _ => false
  | .ty _ => false
  | .scr _ => false
  | _ => true
/-- is a thing of the type t one of T -/
def isiB (t T : String) : Option Bool := kitB t T
def isiL (t : String) : List D → Option Bool
  | [] => some false
  | .ty T :: ds => match isiB t T, isiL t ds with
    | some a, some b => some (a || b)
    | _, _ => none
  | _ => none
def dIsi : DCa := fun ds M Q => match ds with
  | [x, .ty T] => hasTy (res M x) = true ∧ match isiB (tyD (res M x)) T with | some b => Q (.bl b) M | none => False
  | [x, .tup Ts] => hasTy (res M x) = true ∧ match isiL (tyD (res M x)) Ts with | some b => Q (.bl b) M | none => False
  | _ => False
theorem tyX_of {K : PySem.W.Frag} {G H : Hp} {p : Rho} {M : Mst} {s : L2.St} {x : D} {v : V} (S : Sim K G H p M s) (r : Rep K G x v) (h : hasTy (res M x) = true) : TyX K H v (.type (tyD (res M x))) := by
  cases e : res M x with
  | non =>
    have : x = .non := by
      cases x with
      | ref a => simp only [res] at e; split at e <;> cases e
      | _ => cases e <;> rfl
    subst this; cases r; exact .base .non
  | bl b =>
    have : x = .bl b := by
      cases x with
      | ref a => simp only [res] at e; split at e <;> cases e
      | _ => cases e <;> rfl
    subst this; cases r; exact .base (.bl _)
  | int b => cases as_int r e; exact .base (.int _)
  | str b => obtain ⟨rfl, _⟩ := as_str r e; exact .base (.str _)
  | ty b => rw [e] at h; cases h
  | ref b => rw [e] at h; cases h
  | scr b => rw [e] at h; cases h
  | ins a b c => rw [e] at h; cases h
  | exc a b c z => rw [e] at h; cases h
  | fnv a b c _ _ => rw [e] at h; cases h
  | ktp b =>
    cases x with
    | ref a => simp only [res] at e; split at e <;> cases e
    | _ => cases e
  | xtp b =>
    cases x with
    | ref a => simp only [res] at e; split at e <;> cases e
    | _ => cases e
  | tup ds =>
    cases x with
    | ref a => simp only [res] at e; split at e <;> cases e
    | tup es =>
      cases e
      obtain ⟨a, us, rfl, g1, g2, g3⟩ := r
      exact .base (.tup (S.same _ _ g1))
    | ktp es =>
      cases e
      obtain ⟨a, us, rfl, g1, g2, g3⟩ := r
      rcases g1 with (g1 | ⟨o, g1⟩) | ⟨o, its, n, hk, hc, _⟩
      · exact .base (.tup (S.same _ _ g1))
      · exact .fTuple (S.same _ _ g1)
      · exact .kTuple hk hc
    | xtp es =>
      cases e
      obtain ⟨a, o, us, rfl, g1, g2, g3⟩ := r
      exact .fTuple (S.same _ _ g1)
    | _ => cases e
  | lst ds =>
    obtain ⟨a, us, rfl, g1, g2, g3⟩ := as_lst S r e
    exact .base (.lst g1)
  | dct ks ds =>
    obtain ⟨a, us, rfl, g1, g2, g3, g4, _⟩ := as_dct S r e
    rcases g1 with g1 | ⟨o, g1⟩
    · exact .base (.dK g1)
    · exact .fDict g1
theorem isiL_of {K : PySem.W.Frag} {G : Hp} {t : String} : ∀ {ds : List D} {vs : List V} {b : Bool}, RepL K G ds vs → isiL t ds = some b → ∃ us, Paired ClsV vs us ∧ PySem.W.kitAny K (.type t) us = some b
  | [], _, b, h, e => by cases h; cases e; exact ⟨[], .nil, kitAny_nil⟩
  | d :: ds, _, b, ⟨v, r, h1, h2, h3⟩, e => by
    cases d with
    | ty T =>
      simp only [isiL] at e
      split at e
      · next a c e1 e2 =>
        cases e
        cases h2
        subst h1
        obtain ⟨us, q1, q2⟩ := isiL_of h3 e2
        refine ⟨.type T :: us, .cons (.ty T) q1, kitAny_cons (kit_ty e1) (fun ha => ?_) fun ha => ?_⟩
        · rw [q2, ha]; rfl
        · rw [ha]; rfl
      · cases e
    | _ => simp [isiL] at e
def rIsiX (K : PySem.W.Frag) : List V → Hp → VK → Prop := fun xs H Q => rIsi K xs H Q ∨ rIsiT K xs H Q
theorem c_isi {X : Cx} : QCa X (.builtin "isinstance") (rIsiX X.K) dIsi := ⟨CallR.or call_isi call_isiT, fun G H p M s ds vs Q Q' S r h k => by
  unfold dIsi at h
  split at h
  · next x T =>
    obtain ⟨v, u, rfl, r1, r2⟩ := repL2 r
    cases r2
    obtain ⟨ht, h⟩ := h
    split at h
    · next b e => exact .inl ⟨_, _, _, _, b, rfl, .ty T, tyX_of S r1 ht, kit_ty e, k G H M (.bl b) _ (Same.refl _) S rfl h⟩
    · exact h.elim
  · next x Ts =>
    obtain ⟨v, u, rfl, r1, r2⟩ := repL2 r
    obtain ⟨a, us, rfl, g1, g2, g3⟩ := r2
    obtain ⟨ht, h⟩ := h
    split at h
    · next b e =>
      obtain ⟨ws, q1, q2⟩ := isiL_of g2 e
      exact .inr ⟨_, a, us, _, ws, b, rfl, S.same _ _ g1, q1, tyX_of S r1 ht, q2, k G H M (.bl b) _ (Same.refl _) S rfl h⟩
    · exact h.elim
  · exact h.elim⟩
end DL
namespace DL
open PySem L2
@[simp] def qNext : DTS := fun _ DE p M => DE.nx p M
@[simp] def qSeq (q1 q2 : DTS) : DTS := fun DW DE p M => q1 DW { DE with nx := q2 DW DE } p M
@[simp] def qDrop (q : DTE) : DTS := fun DW DE p M => q DW p M fun _ M1 => DE.nx p M1
@[simp] def qRet (q : DTE) : DTS := fun DW DE p M => q DW p M fun d M1 => DE.rt d M1
@[simp] def qRetN : DTS := fun _ DE p M => DE.rt .non M
@[simp] def qIfS (c : DTT) (a b : DTS) : DTS := fun DW DE p M => c DW p M fun k M1 => if k = true then a DW DE p M1 else b DW DE p M1
@[simp] def qBreak : DTS := fun _ DE p M => DE.bk p M
@[simp] def qCont : DTS := fun _ DE p M => DE.ct p M
section
variable {X : Cx} {W : WX} {st : Stmt} {rest : List Stmt} {t u : TS} {q r : DTS} {e : Expr} {te : TE} {qe : DTE} {pos : Pos}
theorem qss_nil : QSs X W [] tNext qNext := ⟨pss_nil, fun DW G H p M s DE E hw S h k => k.nx G H p M s (Same.refl _) S h⟩
theorem qss_cons (h1 : QS X W st t q) (h2 : QSs X W rest u r) : QSs X W (st :: rest) (tSeq t u) (qSeq q r) :=
  ⟨pss_cons h1.pe h2.pe, fun DW G H p M s DE E hw S h k => h1.rf DW G H p M s _ _ hw S h
    ⟨fun G' H' p' M' s' e1 S' h' => h2.rf DW G' H' p' M' s' DE E (hw.mono e1) S' h' (k.mono e1), k.rt, k.bk, k.ct⟩⟩
theorem qss_one (h1 : QS X W st t q) : QSs X W [st] t q := ⟨pss_one h1.pe, h1.rf⟩
theorem qs_expr (he : QE X W e te qe) (hs : swapsWith e none pos.line X.env = pure false := by rfl) : QS X W (.Expr e pos) (tDrop te) (qDrop qe) :=
  ⟨ps_expr he.pe hs, fun DW G H p M s DE E hw S h k => he.rf DW G H p M s _ _ hw S h fun G1 H1 M1 d v e1 S1 r1 h1 => k.nx G1 H1 p M1 s e1 S1 h1⟩
theorem qs_ret (he : QE X W e te qe) : QS X W (.Return (some e) pos) (tRet te) (qRet qe) :=
  ⟨ps_ret he.pe, fun DW G H p M s DE E hw S h k => he.rf DW G H p M s _ _ hw S h fun G1 H1 M1 d v e1 S1 r1 h1 => k.rt G1 H1 p M1 s d v e1 S1 r1 h1⟩
theorem qs_if {c : Expr} {a b : List Stmt} {tc : TT} {qc : DTT} (hc : QT X W c tc qc) (ha : QSs X W a t q) (hb : QSs X W b u r) : QS X W (.If c a b pos) (tIfS tc t u) (qIfS qc q r) :=
  ⟨ps_if hc.pe ha.pe hb.pe, fun DW G H p M s DE E hw S h k => hc.rf DW G H p M s _ _ hw S h fun G1 H1 M1 c e1 S1 h1 => by
    cases c with
    | true =>
      rw [if_pos rfl] at h1 ⊢
      exact ha.rf DW G1 H1 p M1 s DE E (hw.mono e1) S1 h1 (k.mono e1)
    | false =>
      rw [if_neg Bool.false_ne_true] at h1 ⊢
      exact hb.rf DW G1 H1 p M1 s DE E (hw.mono e1) S1 h1 (k.mono e1)⟩
end
def Only (ix : List Nat) (s s' : L2.St) : Prop := s'.length = s.length ∧ ∀ j, j ∉ ix → s'[j]? = s[j]?
theorem Only.refl (ix : List Nat) (s : L2.St) : Only ix s s := ⟨rfl, fun _ _ => rfl⟩
theorem Only.trans {ix : List Nat} {s s1 s2 : L2.St} (a : Only ix s s1) (b : Only ix s1 s2) : Only ix s s2 := ⟨b.1.trans a.1, fun j h => (b.2 j h).trans (a.2 j h)⟩
theorem Only.mono {ix iy : List Nat} {s s1 : L2.St} (a : Only ix s s1) (h : ∀ j ∈ ix, j ∈ iy) : Only iy s s1 := ⟨a.1, fun j hj => a.2 j fun z => hj (h j z)⟩
theorem Only.set {ix : List Nat} {s : L2.St} {i : Nat} {v : Option V} (h : i ∈ ix) : Only ix s (s.set i v) := ⟨by simp, fun j hj => List.getElem?_set_ne (fun z => hj (by rw [← z]; exact h))⟩
theorem wipe_get {s : L2.St} {j : Nat} : ∀ {vs : List Nat}, j ∉ vs → (wipe s vs)[j]? = s[j]?
  | [], _ => rfl
  | v :: vs, h => by
    simp only [List.mem_cons, not_or] at h
    unfold wipe
    rw [List.getElem?_set_ne (Ne.symm h.1)]
    exact wipe_get h.2
theorem wipe_in {s : L2.St} {j : Nat} : ∀ {vs : List Nat}, j ∈ vs → j < s.length → (wipe s vs)[j]? = some none
  | [], h, _ => by cases h
  | v :: vs, h, hl => by
    unfold wipe
    by_cases e : v = j
    · subst e
      rw [List.getElem?_set_self (by rw [wipe_length]; exact hl)]
    · rw [List.getElem?_set_ne e]
      exact wipe_in (by rcases List.mem_cons.mp h with q | q; exact absurd q.symm e; exact q) hl
theorem Only.wipe {ix : List Nat} {s s' : L2.St} (h : Only ix s s') : L2.wipe s' ix = L2.wipe s ix := by
  apply List.ext_getElem?
  intro j
  by_cases hj : j ∈ ix
  · by_cases hl : j < s.length
    · rw [wipe_in hj hl, wipe_in hj (by rw [h.1]; exact hl)]
    · rw [List.getElem?_eq_none (by rw [wipe_length, h.1]; omega), List.getElem?_eq_none (by rw [wipe_length]; omega)]
  · rw [wipe_get hj, wipe_get hj]; exact h.2 j hj
def RefGi (K : PySem.W.Frag) (W : WX) (ix : List Nat) (t : TG) (q : DTG) : Prop := ∀ DW G H p M s d v (Q : Rho → Mst → Prop) (Q' : L2.St → Hp → Prop), WLink K G DW W → Sim K G H p M s → Rep K G d v → q d DW p M Q →
  (∀ G' H' p' M' s', Same G G' → Sim K G' H' p' M' s' → Only ix s s' → Q p' M' → Q' s' H') → t v s H Q'
def RefGis (K : PySem.W.Frag) (W : WX) (ix : List Nat) (t : TGs) (q : DTGs) : Prop := ∀ DW G H p M s ds vs (Q : Rho → Mst → Prop) (Q' : L2.St → Hp → Prop), WLink K G DW W → Sim K G H p M s → RepL K G ds vs → q ds DW p M Q →
  (∀ G' H' p' M' s', Same G G' → Sim K G' H' p' M' s' → Only ix s s' → Q p' M' → Q' s' H') → t vs s H Q'
structure QGi (X : Cx) (W : WX) (ix : List Nat) (tg : Expr) (t : TG) (q : DTG) : Prop where
  pe : PG X tg t
  rf : RefGi X.K W ix t q
structure QGis (X : Cx) (W : WX) (ix : List Nat) (tg : List Expr) (t : TGs) (q : DTGs) : Prop where
  pe : PGs X tg t
  rf : RefGis X.K W ix t q
section
variable {K : PySem.W.Frag} {G H : Hp} {p : Rho} {M : Mst} {s : L2.St} {d : D} {v : V}
theorem Sim.set (S : Sim K G H p M s) (i : Nat) (r : Rep K G d v) : Sim K G H (p.set i (some d)) M (s.set i (some v)) := by
  refine ⟨S.same, fun j e h => ?_, by simp [S.len], S.mem⟩
  by_cases hj : i = j
  · subst hj
    by_cases hl : i < p.length
    · rw [List.getElem?_set_self hl] at h
      cases h
      exact ⟨v, by rw [List.getElem?_set_self (by rw [S.len]; exact hl)], r⟩
    · rw [List.getElem?_eq_none (by simpa using hl)] at h
      cases h
  · rw [List.getElem?_set_ne hj] at h ⊢
    exact S.env j e h
/-- a name is forgotten -/
theorem Sim.forget (S : Sim K G H p M s) (i : Nat) (v : Option V) : Sim K G H (p.set i none) M (s.set i v) := by
  refine ⟨S.same, fun j e h => ?_, by simp [S.len], S.mem⟩
  by_cases hj : i = j
  · subst hj
    by_cases hl : i < p.length
    · rw [List.getElem?_set_self hl] at h
      cases h
    · rw [List.getElem?_eq_none (by simpa using hl)] at h
      cases h
  · rw [List.getElem?_set_ne hj] at h ⊢
    exact S.env j e h
end
def wipeD (p : Rho) : List Nat → Rho
  | [] => p
  | v :: vs => (wipeD p vs).set v none
theorem Sim.wipe {K : PySem.W.Frag} {G H : Hp} {p : Rho} {M : Mst} {s : L2.St} (S : Sim K G H p M s) : ∀ vs : List Nat, Sim K G H (wipeD p vs) M (L2.wipe s vs)
  | [] => S
  | v :: vs => (Sim.wipe S vs).forget v none
@[simp] def gNameD (i : Nat) : DTG := fun d _ p M Q => Q (p.set i (some d)) M
@[simp] def gNilD : DTGs := fun ds _ p M Q => ds = [] ∧ Q p M
@[simp] def gConsD (g : DTG) (gs : DTGs) : DTGs := fun ds DW p M Q => match ds with
  | d :: r => g d DW p M fun p1 M1 => gs r DW p1 M1 Q
  | [] => False
def gTupD (n : Nat) (gs : DTGs) : DTG := fun d DW p M Q => match res M d with
  | .tup ds => ds.length = n ∧ gs ds DW p M Q
  | _ => False
/-- o[i] = v by values -/
def putD {κ : Type} [DecidableEq κ] (kvs : List (κ × D)) (k : κ) (v : D) : List (κ × D) :=
  if kvs.any (fun kv => decide (kv.1 = k)) then kvs.map (fun kv => if kv.1 = k then (kv.1, v) else kv) else kvs ++ [(k, v)]
def dSet (o i v : D) (M : Mst) (Q : Mst → Prop) : Prop := match o with
  | .ref a => match M a with
    | some (.lst ds) => match i with
      | .int k => match ixN ds.length k with
        | some j => Q (put M a (.lst (ds.set j v)))
        | none => False
      | _ => False
    | some (.dK kvs) => match keyD i with
      | some k => kvs.length < 100000 ∧ Q (put M a (.dK (putD kvs k v)))
      | none => False
    | some (.dT kvs) => match i with
      | .tup ks => match keysD ks with
        | some k => kvs.length < 100000 ∧ Q (put M a (.dT (putD kvs k v)))
        | none => False
      | _ => False
    | _ => False
  | _ => False
def gSubD (qo qi : DTE) : DTG := fun d DW p M Q => qo DW p M fun o M1 => qi DW p M1 fun i M2 => dSet o i d M2 fun M3 => Q p M3
section
variable {X : Cx} {W : WX} {x : Str} {pos : Pos}
theorem qg_name {i : Nat} {ix : List Nat} (h : PG X (.Name x pos) (gName i)) (hm : i ∈ ix) : QGi X W ix (.Name x pos) (gName i) (gNameD i) :=
  ⟨h, fun DW G H p M s d v Q Q' hw S r q k => k G H _ M _ (Same.refl _) (S.set i r) (Only.set hm) q⟩
theorem qgs_nil {ix : List Nat} : QGis X W ix [] gNil gNilD := ⟨pgs_nil, fun DW G H p M s ds vs Q Q' hw S r ⟨e, q⟩ k => by
  subst e; cases r; exact ⟨rfl, k G H p M s (Same.refl _) S (Only.refl _ _) q⟩⟩
theorem qgs_cons {ix : List Nat} {e : Expr} {es : List Expr} {t : TG} {q : DTG} {u : TGs} {r : DTGs} (h1 : QGi X W ix e t q) (h2 : QGis X W ix es u r) (hs : (assignEach (e :: es) X.env).map (·.2) = assign e X.env :: (assignEach es X.env).map (·.2) := by rfl) :
    QGis X W ix (e :: es) (gCons t u) (gConsD q r) := ⟨pgs_cons h1.pe h2.pe hs, fun DW G H p M s ds vs Q Q' hw S rr h k => by
  cases ds with
  | nil => exact h.elim
  | cons d ds =>
    obtain ⟨v, vr, e1, r1, r2⟩ := rr
    exact ⟨v, vr, e1, h1.rf DW G H p M s d v _ _ hw S r1 h fun G1 H1 p1 M1 s1 e1 S1 o1 h1 => h2.rf DW G1 H1 p1 M1 s1 ds vr Q Q' (hw.mono e1) S1 (RepL.mono e1 _ _ r2) h1
      fun G2 H2 p2 M2 s2 e2 S2 o2 h2 => k G2 H2 p2 M2 s2 (e1.trans e2) S2 (o1.trans o2) h2⟩⟩
theorem qg_tup {ix : List Nat} {es : List Expr} {kk : Nat} {t : TGs} {q : DTGs} {n : Nat} (hc : X.calm = true) (h : QGis X W ix es t q) (hn : (assignEach es X.env).length = n := by rfl) (hst : (assignEach es X.env).findIdx? (·.1) = none := by rfl) :
    QGi X W ix (.Tuple es kk pos) (gTup X.K n t) (gTupD n q) := ⟨pg_tup hc h.pe hn hst, fun DW G H p M s d v Q Q' hw S r hq k => by
  unfold gTupD at hq
  split at hq
  · next ds e1 =>
    obtain ⟨hl, hq⟩ := hq
    obtain ⟨a, vs, rfl, g1, g2, g3⟩ := as_tup S r e1
    exact ⟨a, vs, rfl, g1, g2.length.trans hl, h.rf DW G H p M s ds vs Q Q' hw S g2 hq k⟩
  · exact hq.elim⟩
theorem set_dict (hu : X.A.units + 1 < cLine) : PSet X (fun o i v H Q => ∃ a H4, o = .ref a ∧ DPut H a i v H4 ∧ Q H4) := by
  intro pins s σ H o i v ov iv u Q I ro ri rv h
  obtain ⟨a, H4, rfl, g, q⟩ := h
  cases ro
  exact d_setItem hu I g ri rv fun s' I' => ⟨H4, I', q⟩
def rSetX : TSet := fun o i v H Q => rSetL o i v H Q ∨ ∃ a H4, o = .ref a ∧ DPut H a i v H4 ∧ Q H4
theorem set_any (hu : X.A.units + 1 < cLine) : PSet X rSetX := by
  intro pins s σ H o i v ov iv u Q I ro ri rv h
  rcases h with h | h
  · exact set_list pins s σ H o i v ov iv u Q I ro ri rv h
  · exact set_dict hu pins s σ H o i v ov iv u Q I ro ri rv h
theorem any_key {κ : Type} [DecidableEq κ] {kvs : List (κ × D)} {kv : List (κ × V)} {k : κ} (h : kv.map (·.1) = kvs.map (·.1)) : kv.any (fun q => decide (q.1 = k)) = kvs.any (fun q => decide (q.1 = k)) := by
  have e1 : kv.any (fun q => decide (q.1 = k)) = (kv.map (·.1)).any (fun q => decide (q = k)) := by rw [List.any_map]; rfl
  have e2 : kvs.any (fun q => decide (q.1 = k)) = (kvs.map (·.1)).any (fun q => decide (q = k)) := by rw [List.any_map]; rfl
  rw [e1, e2, h]
theorem putMap_rel {K : PySem.W.Frag} {G : Hp} {κ : Type} [DecidableEq κ] {k : κ} {d : D} {v : V} (rd : Rep K G d v) : ∀ {kvs : List (κ × D)} {kv : List (κ × V)}, kv.map (·.1) = kvs.map (·.1) → RepL K G (kvs.map (·.2)) (kv.map (·.2)) →
    (kv.map fun q => if q.1 = k then (q.1, v) else q).map (·.1) = (kvs.map fun q => if q.1 = k then (q.1, d) else q).map (·.1) ∧ RepL K G ((kvs.map fun q => if q.1 = k then (q.1, d) else q).map (·.2)) ((kv.map fun q => if q.1 = k then (q.1, v) else q).map (·.2))
  | [], [], _, _ => ⟨rfl, rfl⟩
  | [], _ :: _, h, _ => by cases h
  | _ :: _, [], h, _ => by cases h
  | (a, e) :: kvs, (b, w) :: kv, h, r => by
    simp only [List.map_cons, List.cons.injEq] at h
    obtain ⟨rfl, h⟩ := h
    obtain ⟨v', r', e1, h2, h3⟩ := r
    simp only [List.map_cons, List.cons.injEq] at e1
    obtain ⟨rfl, rfl⟩ := e1
    obtain ⟨i1, i2⟩ := putMap_rel rd h h3
    by_cases z : b = k
    · simp only [List.map_cons, z, if_true]
      exact ⟨by rw [i1], RepL.cons rd i2⟩
    · simp only [List.map_cons, z, if_false]
      exact ⟨by rw [i1], RepL.cons h2 i2⟩
theorem put_rel {K : PySem.W.Frag} {G : Hp} {κ : Type} [DecidableEq κ] {kvs : List (κ × D)} {kv : List (κ × V)} {k : κ} {d : D} {v : V} (h : kv.map (·.1) = kvs.map (·.1)) (r : RepL K G (kvs.map (·.2)) (kv.map (·.2))) (rd : Rep K G d v) :
    (putK kv k v).map (·.1) = (putD kvs k d).map (·.1) ∧ RepL K G ((putD kvs k d).map (·.2)) ((putK kv k v).map (·.2)) ∧ (putK kv k v).length ≤ kv.length + 1 := by
  unfold putK putD
  rw [any_key h]
  cases kvs.any (fun q => decide (q.1 = k)) with
  | true =>
    simp only [if_true]
    obtain ⟨i1, i2⟩ := putMap_rel (k := k) rd h r
    exact ⟨i1, i2, by simp⟩
  | false =>
    simp only [Bool.false_eq_true, if_false]
    refine ⟨by simp [h], ?_, by simp⟩
    rw [List.map_append, List.map_append]
    exact RepL.append r (RepL.cons rd rfl)
theorem kOk_of {K : PySem.W.Frag} {G : Hp} {d : D} {v : V} {k : Key} (r : Rep K G d v) (h : keyD d = some k) : kOk k := by
  cases d with
  | int i => cases h; trivial
  | str x => cases h; exact r.2
  | _ => cases h
theorem kOks_of {K : PySem.W.Frag} {G : Hp} : ∀ {ds : List D} {vs : List V} {ks : List Key}, RepL K G ds vs → keysD ds = some ks → ks.length = ds.length ∧ ∀ k ∈ ks, kOk k
  | [], _, _, h, e => by cases h; cases e; exact ⟨rfl, fun _ h => by cases h⟩
  | d :: ds, _, ks, ⟨v, r, h1, h2, h3⟩, e => by
    simp only [keysD] at e
    split at e
    · next k ks' e1 e2 =>
      cases e
      obtain ⟨i1, i2⟩ := kOks_of h3 e2
      refine ⟨by simp [i1], fun q hq => ?_⟩
      rcases List.mem_cons.mp hq with rfl | hq
      · exact kOk_of h2 e1
      · exact i2 q hq
    · cases e
theorem putD_keys {κ : Type} [DecidableEq κ] {P : κ → Prop} {kvs : List (κ × D)} {k : κ} {d : D} (h : ∀ q ∈ kvs, P q.1) (hk : P k) : ∀ q ∈ putD kvs k d, P q.1 := by
  intro q hq
  unfold putD at hq
  split at hq
  · obtain ⟨r, h1, h2⟩ := List.mem_map.mp hq
    subst h2
    split
    · exact h r h1
    · exact h r h1
  · rcases List.mem_append.mp hq with hq | hq
    · exact h q hq
    · have : q = (k, d) := by simpa using hq
      subst this; exact hk
theorem qg_sub {ix : List Nat} {o i : Expr} {to ti : TE} {qo qi : DTE} (hu : X.A.units + 1 < cLine) (ho : QE X W o to qo) (hi : QE X W i ti qi)
    (ha : ∀ v, assign (.Subscript o i pos) X.env v = (do
      let ov ← holding [v] (eval o X.env)
      let iv ← holding [v, ov] (eval i X.env)
      standAt pos
      holding [v, ov, iv] (setItem ov iv v)
      release [v, ov, iv] []) := by intro _; rfl) : QGi X W ix (.Subscript o i pos) (gSub to ti rSetX) (gSubD qo qi) :=
  ⟨pg_sub ho.pe hi.pe (set_any hu) ha, fun DW G H p M s d v Q Q' hw S r h k => ho.rf DW G H p M s _ _ hw S h fun G1 H1 M1 x xv e1 S1 r1 h1 =>
    hi.rf DW G1 H1 p M1 s _ _ (hw.mono e1) S1 h1 fun G2 H2 M2 y yv e2 S2 r2 h2 => by
      have r' := Rep.mono (e1.trans e2) _ _ r
      have r1' := Rep.mono e2 _ _ r1
      unfold dSet at h2
      split at h2
      · next a =>
        cases r1'
        split at h2
        · next ds em =>
          obtain ⟨gn, vs, g1, g2, g3⟩ := S2.mem _ _ em
          split at h2
          · next n =>
            cases r2
            split at h2
            · next j ej =>
              refine .inl ⟨a, vs, n, j, rfl, rfl, g1, by rw [g2.length]; exact ej, ?_⟩
              exact k G2 _ p _ s (e1.trans e2) (S2.put (mo := .lst (ds.set j d)) gn ⟨_, upd_same, RepL.set j g2 r', by simpa using g3⟩) (Only.refl _ _) h2
            · exact h2.elim
          · exact h2.elim
        · next kvs em =>
          obtain ⟨gn, kv, g1, g2, g3, g4, g5⟩ := S2.mem _ _ em
          split at h2
          · next kk ek =>
            have kk1 := kOk_of r2 ek
            obtain ⟨hl, h2⟩ := h2
            cases keyD_of r2 ek
            have hl' : kv.length < sizeLine := by
              have e5 : kv.length = kvs.length := by have := congrArg List.length g2; simpa using this
              rw [sizeLine_eq]; omega
            obtain ⟨p1, p2, p3⟩ := put_rel (k := kk) g2 g3 r'
            refine .inr ⟨a, _, rfl, DPut.k g1 hl', ?_⟩
            exact k G2 _ p _ s (e1.trans e2) (S2.put (mo := .dK (putD kvs kk d)) gn ⟨_, upd_same, p1, p2, by omega, putD_keys g5 kk1⟩) (Only.refl _ _) h2
          · exact h2.elim
        · next kvs em =>
          obtain ⟨gn, kv, g1, g2, g3, g4, g5⟩ := S2.mem _ _ em
          split at h2
          · next ks =>
            split at h2
            · next kk ek =>
              obtain ⟨hl, h2⟩ := h2
              obtain ⟨b, ws, rfl, c1, c2, c3⟩ := r2
              have e6 := keysD_of c2 ek
              obtain ⟨kl, kk1⟩ := kOks_of c2 ek
              have kl' : kk.length ≤ sizeLine := by rw [kl, ← c2.length]; exact c3
              have hl' : kv.length < sizeLine := by
                have e5 : kv.length = kvs.length := by have := congrArg List.length g2; simpa using this
                rw [sizeLine_eq]; omega
              obtain ⟨p1, p2, p3⟩ := put_rel (k := kk) g2 g3 r'
              refine .inr ⟨a, _, rfl, DPut.t g1 (by rw [S2.same _ _ c1, e6]) hl', ?_⟩
              exact k G2 _ p _ s (e1.trans e2) (S2.put (mo := .dT (putD kvs kk d)) gn ⟨_, upd_same, p1, p2, by omega, putD_keys (P := fun k => k.length ≤ sizeLine ∧ ∀ x ∈ k, kOk x) g5 ⟨kl', kk1⟩⟩) (Only.refl _ _) h2
            · exact h2.elim
          · exact h2.elim
        · exact h2.elim
      · exact h2.elim⟩
@[simp] def qAsg (qe : DTE) (g : DTG) : DTS := fun DW DE p M => qe DW p M fun d M1 => g d DW p M1 DE.nx
theorem ref_asg {K : PySem.W.Frag} {te : TE} {qe : DTE} {t : TG} {g : DTG} {ix : List Nat} (h : RefE K W te qe) (hg : RefGi K W ix t g) : RefS K W (tAsg te t) (qAsg qe g) :=
  fun DW G H p M s DE E hw S q k => h DW G H p M s _ _ hw S q fun G1 H1 M1 d v e1 S1 r1 h1 => hg DW G1 H1 p M1 s d v _ _ (hw.mono e1) S1 r1 h1 fun G2 H2 p2 M2 s2 e2 S2 _ h2 => k.nx G2 H2 p2 M2 s2 (e1.trans e2) S2 h2
theorem qs_asg {tg e : Expr} {te : TE} {qe : DTE} {t : TG} {g : DTG} {ix : List Nat} (he : QE X W e te qe) (hg : QGi X W ix tg t g) (hs : swapsWithSole [tg] e pos.line X.env = pure false := by rfl) (hw : swappedStores [tg] e X.env = pure none := by rfl)
    (h1 : (assignEach [tg] X.env).map (·.2) = [assign tg X.env] := by rfl) : QS X W (.Assign [tg] e pos) (tAsg te t) (qAsg qe g) := ⟨ps_asg he.pe hg.pe hs hw h1, ref_asg he.rf hg.rf⟩
theorem qs_set {i : Nat} {x : Str} {e : Expr} {te : TE} {qe : DTE} {pos' : Pos} (h : PS X (.Assign [.Name x pos'] e pos) (tAsg te (gName i))) (he : RefE X.K W te qe) : QS X W (.Assign [.Name x pos'] e pos) (tAsg te (gName i)) (qAsg qe (gNameD i)) :=
  ⟨h, fun DW G H p M s DE E hw S q k => he DW G H p M s _ _ hw S q fun G1 H1 M1 d v e1 S1 r1 h1 => k.nx G1 H1 _ M1 _ e1 (S1.set i r1) h1⟩
@[simp] def qPar (i j : Nat) (qa : DTA) : DTS := fun DW DE p M => qa DW p M fun ds M1 => match ds with
  | [a, b] => DE.nx ((p.set i (some a)).set j (some b)) M1
  | _ => False
theorem qs_par {i j : Nat} {st : Stmt} {ta : TA} {qa : DTA} (h : PS X st (tPar i j ta)) (ha : RefA X.K W ta qa) : QS X W st (tPar i j ta) (qPar i j qa) :=
  ⟨h, fun DW G H p M s DE E hw S q k => ha DW G H p M s _ _ hw S q fun G1 H1 M1 ds vs e1 S1 r1 h1 => by
    split at h1
    · next a b =>
      obtain ⟨v, u, rfl, r2, r3⟩ := repL2 r1
      exact ⟨v, u, rfl, k.nx G1 H1 _ M1 _ e1 ((S1.set i r2).set j r3) h1⟩
    · exact h1.elim⟩
@[simp] def qPar3 (i j l : Nat) (qa : DTA) : DTS := fun DW DE p M => qa DW p M fun ds M1 => match ds with
  | [a, b, c] => DE.nx (((p.set i (some a)).set j (some b)).set l (some c)) M1
  | _ => False
def qAug (i : Nat) (qe : DTE) (o : DOp) : DTS := fun DW DE p M => match p[i]? with
  | some (some x) => qe DW p M fun y M1 => o x y M1 fun z M2 => DE.nx (p.set i (some z)) M2
  | _ => False
end
end DL
namespace DL
open PySem L2
/-- an iterator that gives these things, as long as Sty holds of the mutable objects -/
structure Feed (K : PySem.W.Frag) (G : Hp) (J : It) (ds : List D) (Sty : Mst → Prop) : Prop where
  go : ∀ G' H p M s i, Same G G' → Sim K G' H p M s → Sty M → i < ds.length → J.go i H
  yld : ∀ G' H p M s i x H', Same G G' → Sim K G' H p M s → Sty M → J.yld i H x H' → ∀ d, ds[i]? = some d → ∃ G2, Same G' G2 ∧ Sim K G2 H' p M s ∧ Rep K G2 d x
  stop : ∀ G' H p M s, Same G G' → Sim K G' H p M s → Sty M → J.stop ds.length H
abbrev DTI := DWt → Rho → Mst → (List D → (Mst → Prop) → Mst → Prop) → Prop
def RefI (K : PySem.W.Frag) (W : WX) (t : TI) (q : DTI) : Prop := ∀ DW G H p M s (R : List D → (Mst → Prop) → Mst → Prop) (R' : It → Hp → Prop), WLink K G DW W → Sim K G H p M s → q DW p M R →
  (∀ G' H' M' J ds Sty, Same G G' → Sim K G' H' p M' s → Feed K G' J ds Sty → ds.length ≤ sizeLine → R ds Sty M' → R' J H') → t s H R'
structure QI (X : Cx) (W : WX) (tg e : Expr) (t : TI) (q : DTI) : Prop where
  pe : PI X tg e t
  rf : RefI X.K W t q
def always : Mst → Prop := fun _ => True
@[simp] theorem always_eq {M : Mst} : always M = True := rfl
section
variable {K : PySem.W.Frag} {G : Hp}
theorem feed_list {a : Addr} {ds : List D} {vs : List V} {Sty : Mst → Prop} (r : RepL K G ds vs) (h : ∀ G' H p M s, Same G G' → Sim K G' H p M s → Sty M → SqL K H a vs) : Feed K G (Itl K a) ds Sty where
  go := fun G' H p M s i e S st hi => by
    have q := h G' H p M s e S st
    have hl := r.length
    exact ⟨vs, vs[i]'(by omega), q, by simp [hl, hi]⟩
  yld := fun G' H p M s i x H' e S st y d hd => by
    obtain ⟨rfl, y⟩ := y
    have q := y vs (h G' _ p M s e S st)
    obtain ⟨v, h1, h2⟩ := (RepL.mono e _ _ r).get hd
    rw [q] at h1; cases h1
    exact ⟨G', Same.refl _, S, h2⟩
  stop := fun G' H p M s e S st => ⟨vs, h G' H p M s e S st, by rw [r.length]; exact Nat.le_refl _⟩
theorem feed_tup {a : Addr} {ds : List D} {vs : List V} (r : RepL K G ds vs) (h : SqT K G a vs) : Feed K G (Itt K a) ds always where
  go := fun G' H p M s i e S st hi => by
    have hl := r.length
    exact ⟨vs, vs[i]'(by omega), same_t (e.trans S.same) h, by simp [hl, hi]⟩
  yld := fun G' H p M s i x H' e S st y d hd => by
    obtain ⟨rfl, y⟩ := y
    have q := y vs (same_t (e.trans S.same) h)
    obtain ⟨v, h1, h2⟩ := (RepL.mono e _ _ r).get hd
    rw [q] at h1; cases h1
    exact ⟨G', Same.refl _, S, h2⟩
  stop := fun G' H p M s e S st => ⟨vs, same_t (e.trans S.same) h, by rw [r.length]; exact Nat.le_refl _⟩
def signs (z : Str) : List D := z.cps.toList.map fun c => .str ⟨#[c]⟩
theorem feed_str {z : Str} (ho : PyData.strOk z = true) : Feed K G (Its z) (signs z) always where
  go := fun G' H p M s i e S st hi => by show i < z.cps.size; simpa [signs] using hi
  yld := fun G' H p M s i x H' e S st y d hd => by
    obtain ⟨rfl, c, h1, rfl⟩ := y
    refine ⟨G', Same.refl _, S, ?_⟩
    simp only [signs, List.getElem?_map, Array.getElem?_toList, h1, Option.map_some, Option.some.injEq] at hd
    subst hd
    refine ⟨rfl, sz1000 (by show 1 ≤ 100000; decide), ?_⟩
    have ho' : ∀ y ∈ z.cps.toList, decide (y < 0x110000) = true := by
      unfold PyData.strOk at ho
      rw [← Array.all_toList] at ho
      exact List.all_eq_true.mp ho
    have := ho' c (by rw [Array.mem_toList_iff]; exact Array.mem_of_getElem? h1)
    simpa [PyData.strOk] using this
  stop := fun G' H p M s e S st => by show z.cps.size ≤ _; simp [signs]
def rangeD (lo : Int) (n : Nat) : List D := (List.range n).map fun i => .int (lo + (i : Nat))
theorem feed_range {lo : Int} {n : Nat} : Feed K G (Itr lo n) (rangeD lo n) always where
  go := fun G' H p M s i e S st hi => by simpa [rangeD, Itr] using hi
  yld := fun G' H p M s i x H' e S st y d hd => by
    obtain ⟨rfl, rfl⟩ := y
    refine ⟨G', Same.refl _, S, ?_⟩
    simp only [rangeD, List.getElem?_map, Option.map_eq_some_iff] at hd
    obtain ⟨j, h1, rfl⟩ := hd
    obtain ⟨h2, h3⟩ := List.getElem?_eq_some_iff.mp h1
    simp at h3
    subst h3
    rfl
  stop := fun G' H p M s e S st => by show n ≤ _; simp [rangeD]
end
def iAny (K : PySem.W.Frag) (tl : TE) : TI := fun σ H R => tl σ H fun x H1 => (∃ a, x = .ref a ∧ (∃ xs, SqL K H1 a xs) ∧ R (Itl K a) H1) ∨ (∃ a, x = .ref a ∧ (∃ xs, SqT K H1 a xs) ∧ R (Itt K a) H1) ∨ ∃ z, x = .str z ∧ R (Its z) H1
theorem pi_any {X : Cx} {tg l : Expr} {tl : TE} (hl : PE X l tl) : PI X tg l (iAny X.K tl) := by
  refine ⟨fun pins s σ H R I h => ?_⟩
  refine thn (hl.run pins s σ H _ I h) fun v s1 ⟨x, H1, I1, r1, q1⟩ => ?_
  rcases q1 with ⟨a, e, ⟨xs, hq⟩, q⟩ | ⟨a, e, ⟨xs, hq⟩, q⟩ | ⟨z, e, q⟩
  · subst e
    cases r1
    obtain ⟨its, rv, p, hz⟩ := I1.list hq
    refine wpAny_pyIter_list p.isList ?_
    refine ⟨s1.heap.objs.size, [s1.heap.objs.size], _, _, H1, rfl, I1.kept (t' := s1.toks) fun b o e => Heap.get?_push_of_some _ e, turn_list a _, ⟨_, Heap.get?_push_size _ rfl, rfl, rfl⟩, fun b hb => ?_, q⟩
    have e : b = s1.heap.objs.size := by simpa using hb
    subst e
    exact I1.fpOk (Nat.le_refl _) (I1.hok.fresh (Nat.le_refl _))
  · subst e
    cases r1
    obtain ⟨its, rv, p, hz⟩ := I1.tuple hq
    refine wpAny_pyIter_tuple (show s1.heap.IsTuple a its.toArray from p) ?_
    refine ⟨s1.heap.objs.size, [s1.heap.objs.size], _, _, H1, rfl, I1.kept (t' := s1.toks) fun b o e => Heap.get?_push_of_some _ e, turn_tuple a _, ⟨_, Heap.get?_push_size _ rfl, rfl, rfl⟩, fun b hb => ?_, q⟩
    have e : b = s1.heap.objs.size := by simpa using hb
    subst e
    exact I1.fpOk (Nat.le_refl _) (I1.hok.fresh (Nat.le_refl _))
  · subst e
    obtain ⟨t, rfl⟩ := r1
    cases ha : z.cps.all (· < 128)
    · exact wpAny_pyIter_wide ha (pi_one (tk := s1.toks) I1 _ (turn_str _ z t "str_iterator" (.inr rfl)) ⟨_, Heap.get?_push_size _ rfl, rfl, rfl⟩ q)
    · exact wpAny_pyIter_ascii ha (pi_one (tk := s1.toks) I1 _ (turn_str _ z t "str_ascii_iterator" (.inl rfl)) ⟨_, Heap.get?_push_size _ rfl, rfl, rfl⟩ q)
def holds (a : Addr) (o : MO) : Mst → Prop := fun M => M a = some o
@[simp] theorem holds_eq {a : Addr} {o : MO} {M : Mst} : holds a o M = (M a = some o) := rfl
def qiAny (qe : DTE) : DTI := fun DW p M R => qe DW p M fun d M1 => match d with
  | .lst ds => R ds always M1
  | .tup ds => R ds always M1
  | .ktp ds => R ds always M1
  | .xtp ds => R ds always M1
  | .str z => R (signs z) always M1
  | .ref a => match M1 a with
    | some (.lst ds) => R ds (holds a (.lst ds)) M1
    | _ => False
  | _ => False
section
variable {X : Cx} {W : WX} {tg e : Expr} {te : TE} {qe : DTE}
theorem qi_any (he : QE X W e te qe) : QI X W tg e (iAny X.K te) (qiAny qe) :=
  ⟨pi_any he.pe, fun DW G H p M s R R' hw S h k => he.rf DW G H p M s _ _ hw S h fun G1 H1 M1 d v e1 S1 r1 h1 => by
    split at h1
    · next ds =>
      obtain ⟨a, vs, rfl, g1, g2, g3⟩ := r1
      refine .inl ⟨a, rfl, ⟨vs, .inl (.inl (S1.same _ _ g1))⟩, k G1 H1 M1 _ ds always e1 S1 (feed_list g2 fun G' H p M s e S _ => .inl (.inl (S.same _ _ (e _ _ g1)))) (by rw [← g2.length]; exact g3) h1⟩
    · next ds =>
      obtain ⟨a, vs, rfl, g1, g2, g3⟩ := r1
      exact .inr (.inl ⟨a, rfl, ⟨vs, .inl (.inl (S1.same _ _ g1))⟩, k G1 H1 M1 _ ds always e1 S1 (feed_tup g2 (.inl (.inl g1))) (by rw [← g2.length]; exact g3) h1⟩)
    · next ds =>
      obtain ⟨a, vs, rfl, g1, g2, g3⟩ := r1
      exact .inr (.inl ⟨a, rfl, ⟨vs, same_t S1.same g1⟩, k G1 H1 M1 _ ds always e1 S1 (feed_tup g2 g1) (by rw [← g2.length]; exact g3) h1⟩)
    · next ds =>
      obtain ⟨a, o, vs, rfl, g1, g0, g2, g3⟩ := r1
      exact .inr (.inl ⟨a, rfl, ⟨vs, .inl (.inr ⟨o, S1.same _ _ g1⟩)⟩, k G1 H1 M1 _ ds always e1 S1 (feed_tup g2 (.inl (.inr ⟨o, g1⟩))) (by rw [← g2.length]; exact g3) h1⟩)
    · next z =>
      obtain ⟨rfl, g1, g2⟩ := r1
      exact .inr (.inr ⟨z, rfl, k G1 H1 M1 _ _ always e1 S1 (feed_str g2) (by simpa [signs, Str.length] using g1) h1⟩)
    · next a =>
      cases r1
      split at h1
      · next ds em =>
        obtain ⟨gn, vs, g1, g2, g3⟩ := S1.mem _ _ em
        have lk : ∀ G' H p M s, Same G1 G' → Sim X.K G' H p M s → holds a (.lst ds) M → ∃ us, H a = some (.lst us) ∧ RepL X.K G' ds us := fun G' H p M s e S st => by
          obtain ⟨_, us, c1, c2, _⟩ := S.mem _ _ st
          exact ⟨us, c1, c2⟩
        refine .inl ⟨a, rfl, ⟨vs, .inl (.inl g1)⟩, k G1 H1 M1 _ ds _ e1 S1 ⟨fun G' H p M s i e S st hi => ?_, fun G' H p M s i x H' e S st y d hd => ?_, fun G' H p M s e S st => ?_⟩ (by rw [← g2.length]; exact g3) h1⟩
        · obtain ⟨us, c1, c2⟩ := lk G' H p M s e S st
          have hl := c2.length
          exact ⟨us, us[i]'(by omega), .inl (.inl c1), by simp [hl, hi]⟩
        · obtain ⟨us, c1, c2⟩ := lk G' H p M s e S st
          obtain ⟨rfl, y⟩ := y
          have q := y us (.inl (.inl c1))
          obtain ⟨v, h1, h2⟩ := c2.get hd
          rw [q] at h1; cases h1
          exact ⟨G', Same.refl _, S, h2⟩
        · obtain ⟨us, c1, c2⟩ := lk G' H p M s e S st
          exact ⟨us, .inl (.inl c1), by rw [c2.length]; exact Nat.le_refl _⟩
      · exact h1.elim
    · exact h1.elim⟩
/-- range(n), range(a, b) -/
def qiRng1 (qa : DTA) : DTI := fun DW p M R => qa DW p M fun ds M1 => match ds with
  | [.int j] => -(2 ^ 62) ≤ j ∧ j ≤ 100000 ∧ R (rangeD 0 j.toNat) always M1
  | _ => False
def qiRng2 (qa : DTA) : DTI := fun DW p M R => qa DW p M fun ds M1 => match ds with
  | [.int i, .int j] => (-(2 ^ 61) ≤ i ∧ i < 2 ^ 61 ∧ -(2 ^ 61) ≤ j ∧ j < 2 ^ 61) ∧ j - i ≤ 100000 ∧ R (rangeD i (j - i).toNat) always M1
  | _ => False
variable {a b : Expr} {ta : TA} {qa : DTA} {p pos : Pos}
theorem qi_range1 (hg : Gl X "range") (hm : X.mg "range" = none) (ha : QA X W [a] ta qa) (hs : starEach [a] X.env = [(false, eval a X.env)] := by rfl) : QI X W tg (.Call (.Name "range" p) [a] [] pos) (iRng1 ta) (qiRng1 qa) :=
  ⟨pi_range1 hg hm ha.pe hs, fun DW G H p M s R R' hw S h k => ha.rf DW G H p M s _ _ hw S h fun G1 H1 M1 ds vs e1 S1 r1 h1 => by
    split at h1
    · next j =>
      obtain ⟨v, rfl, r2⟩ := repL1 r1
      cases r2
      obtain ⟨b1, b2, h1⟩ := h1
      exact ⟨j, rfl, b1, by omega, k G1 H1 M1 _ _ _ e1 S1 feed_range (by simp only [rangeD, List.length_map, List.length_range]; exact sz1000 (by omega)) h1⟩
    · exact h1.elim⟩
theorem qi_range2 (hg : Gl X "range") (hm : X.mg "range" = none) (ha : QA X W [a, b] ta qa) (hs : starEach [a, b] X.env = [(false, eval a X.env), (false, eval b X.env)] := by rfl) (hs2 : starEach [b] X.env = [(false, eval b X.env)] := by rfl) : QI X W tg (.Call (.Name "range" p) [a, b] [] pos) (iRng2 ta) (qiRng2 qa) :=
  ⟨pi_range2 hg hm ha.pe hs hs2, fun DW G H p M s R R' hw S h k => ha.rf DW G H p M s _ _ hw S h fun G1 H1 M1 ds vs e1 S1 r1 h1 => by
    split at h1
    · next i j =>
      obtain ⟨v, u, rfl, r2, r3⟩ := repL2 r1
      cases r2
      cases r3
      obtain ⟨⟨b1, b2, b3, b4⟩, b5, h1⟩ := h1
      exact ⟨i, j, rfl, ⟨by omega, by omega, by omega, by omega⟩, k G1 H1 M1 _ _ _ e1 S1 feed_range (by simp only [rangeD, List.length_map, List.length_range]; exact sz1000 (by omega)) h1⟩
    · exact h1.elim⟩
end
def loopL (Sty : Mst → Prop) (g : DTG) (tb : DTS) (DW : DWt) (DE : DEnds) : List D → Rho → Mst → Prop
  | [], p, M => Sty M ∧ DE.nx p M
  | d :: ds, p, M => Sty M ∧ g d DW p M fun p' M' => tb DW { DE with nx := loopL Sty g tb DW DE ds, ct := loopL Sty g tb DW DE ds, bk := DE.nx } p' M'
def qFor (qi : DTI) (g : DTG) (tb : DTS) : DTS := fun DW DE p M => qi DW p M fun ds Sty M1 => loopL Sty g tb DW DE ds p M1
section
variable {X : Cx} {W : WX} {tg iter : Expr} {body : List Stmt} {wi : TI} {qi : DTI} {t : TG} {g : DTG} {ix : List Nat} {tb : TS} {qb : DTS} {pos : Pos}
theorem ref_for {K : PySem.W.Frag} (hi : RefI K W wi qi) (hg : RefGi K W ix t g) (hb : RefS K W tb qb) : RefS K W (tFor wi t tb) (qFor qi g qb) :=
  fun DW G H p M s DE E hw S h k => hi DW G H p M s _ _ hw S h fun G1 H1 M1 J ds Sty e1 S1 F hlen h1 => by
    refine ⟨fun i m σ H => m = ds.length - i ∧ i ≤ ds.length ∧ ∃ G' p' M', Same G1 G' ∧ Sim K G' H p' M' σ ∧ loopL Sty g qb DW DE (ds.drop i) p' M', ⟨ds.length, by simp, Nat.zero_le _, G1, p, M1, Same.refl _, S1, by simpa using h1⟩, ?_⟩
    rintro i m σ H2 ⟨rfl, hi2, G', p', M', e2, S2, h2⟩
    by_cases hlt : i < ds.length
    · have ed : ds.drop i = ds[i] :: ds.drop (i + 1) := List.drop_eq_getElem_cons hlt
      rw [ed] at h2
      obtain ⟨st, h2⟩ := h2
      refine .inr ⟨F.go G' H2 p' M' σ i e2 S2 st hlt, fun σ' H' => ∃ G3 p3 M3, Same G1 G3 ∧ Sim K G3 H' p3 M3 σ' ∧ loopL Sty g qb DW DE (ds.drop (i + 1)) p3 M3,
        fun σ' H' n => ⟨ds.length - (i + 1), by omega, rfl, hlt, n⟩, fun x H' y => ?_⟩
      obtain ⟨G3, e3, S3, r3⟩ := F.yld G' H2 p' M' σ i x H' e2 S2 st y ds[i] (List.getElem?_eq_getElem hlt)
      have e13 := e2.trans e3
      refine hg DW G3 H' p' M' σ _ x _ _ (hw.mono (e1.trans e13)) S3 r3 h2 fun G4 H4 p4 M4 σ4 e4 S4 _ h4 => ?_
      have e14 := e13.trans e4
      refine hb DW G4 H4 p4 M4 σ4 _ _ (hw.mono (e1.trans e14)) S4 h4 ⟨fun G5 H5 p5 M5 σ5 e5 S5 h5 => ⟨G5, p5, M5, e14.trans e5, S5, h5⟩, fun G5 H5 p5 M5 σ5 d v e5 S5 r5 h5 => k.rt G5 H5 p5 M5 σ5 d v ((e1.trans e14).trans e5) S5 r5 h5,
        fun G5 H5 p5 M5 σ5 e5 S5 h5 => k.nx G5 H5 p5 M5 σ5 ((e1.trans e14).trans e5) S5 h5, fun G5 H5 p5 M5 σ5 e5 S5 h5 => ⟨G5, p5, M5, e14.trans e5, S5, h5⟩⟩
    · have e : i = ds.length := by omega
      subst e
      rw [List.drop_length] at h2
      exact .inl ⟨F.stop G' H2 p' M' σ e2 S2 h2.1, k.nx G' H2 p' M' σ (e1.trans e2) S2 h2.2⟩
theorem qs_for (hp : PassesOwn (model X.prog X.w) X.A X.env X.xe) (hc : X.calm = true) (hi : QI X W tg iter wi qi) (hg : QGi X W ix tg t g) (hb : QSs X W body tb qb) (hs : ∀ x, foldedSetIterable iter X.env x = pure x := by intro _; rfl) :
    QS X W (.For tg iter body [] pos) (tFor wi t tb) (qFor qi g qb) := ⟨ps_for hp hc hi.pe hg.pe hb.pe hs, ref_for hi.rf hg.rf hb.rf⟩
end
abbrev W0 : WX := fun _ _ _ _ => False
abbrev DW0 : DWt := fun _ _ _ => False
structure QTs (X : Cx) (W : WX) (ifs : List Expr) (t : TT) (q : DTT) : Prop where
  pe : PTs X ifs t
  rf : RefT X.K W t q
@[simp] def qYes : DTT := fun _ _ M Q => Q true M
theorem qts_nil {X : Cx} {W : WX} : QTs X W [] tYes qYes := ⟨pts_nil, fun DW G H p M s Q Q' hw S h k => k G H M true (Same.refl _) S h⟩
/-- what is made stands at a -/
def compL (m : Bool) (Sty : Mst → Prop) (g : DTG) (tt : DTT) (te : DTE) (ix : List Nat) (a : Addr) (p : Rho) (Q : DK) : List D → Mst → Prop
  | [], M => Sty M ∧ match M a with
    | some (.lst acc) => if m = true then Q (.ref a) M else Q (.lst acc) (del M a)
    | _ => False
  | d :: ds, M => Sty M ∧ g d DW0 (wipeD p ix) M fun p2 M2 => tt DW0 p2 M2 fun b M3 => if b = true then te DW0 p2 M3 fun y M4 => match M4 a with
      | some (.lst acc) => acc.length < 100000 ∧ compL m Sty g tt te ix a p Q ds (put M4 a (.lst (acc ++ [y])))
      | _ => False
    else compL m Sty g tt te ix a p Q ds M3
def qLc (m : Bool) (qi : DTI) (g : DTG) (tt : DTT) (te : DTE) (ix : List Nat) : DTE := fun DW p M Q => qi DW p M fun ds Sty M1 => ∀ a, M1 a = none → compL m Sty g tt te ix a p Q ds (put M1 a (.lst []))
theorem ref_lc {K : PySem.W.Frag} {W : WX} {wi : TI} {qi : DTI} {t : TG} {g : DTG} {ix : List Nat} {tt : TT} {qt : DTT} {te : TE} {qe : DTE} {m : Bool} (hi : RefI K W wi qi) (hg : RefGi K W0 ix t g) (ht : RefT K W0 tt qt) (he : RefE K W0 te qe) :
    RefE K W (tLc wi t tt te ix) (qLc m qi g qt qe ix) :=
  fun DW G H p M s Q Q' hw S h k => hi DW G H p M s _ _ hw S h fun G1 H1 M1 J ds Sty e1 S1 F hlen h1 a ha => by
    have w0 : ∀ G, WLink K G DW0 W0 := fun G G' H' p' M' s' x cls dx e S r z => z.elim
    have h1' := h1 a (S1.mem.fresh ha)
    have S1' : Sim K G1 (upd H1 a (.lst [])) p (put M1 a (.lst [])) s := S1.put (mo := .lst []) (S1.same.free ha) ⟨[], upd_same, rfl, Nat.zero_le _⟩
    refine ⟨fun i n H => n = ds.length - i ∧ i ≤ ds.length ∧ ∃ G' M', Same G1 G' ∧ Sim K G' H p M' s ∧ compL m Sty g qt qe ix a p Q (ds.drop i) M', ⟨ds.length, by simp, Nat.zero_le _, G1, _, Same.refl _, S1', by simpa using h1'⟩, ?_⟩
    rintro i n H2 ⟨rfl, hi2, G', M', e2, S2, h2⟩
    by_cases hlt : i < ds.length
    · have ed : ds.drop i = ds[i] :: ds.drop (i + 1) := List.drop_eq_getElem_cons hlt
      rw [ed] at h2
      obtain ⟨st, h2⟩ := h2
      refine .inr ⟨F.go G' H2 p M' s i e2 S2 st hlt, fun H' => ∃ G3 M3, Same G1 G3 ∧ Sim K G3 H' p M3 s ∧ compL m Sty g qt qe ix a p Q (ds.drop (i + 1)) M3, fun H' q => ⟨ds.length - (i + 1), by omega, rfl, hlt, q⟩, fun x H' y => ?_⟩
      obtain ⟨G3, e3, S3, r3⟩ := F.yld G' H2 p M' s i x H' e2 S2 st y ds[i] (List.getElem?_eq_getElem hlt)
      have e13 := e2.trans e3
      refine hg DW0 G3 H' (wipeD p ix) M' (L2.wipe s ix) _ x _ _ (w0 _) (S3.wipe ix) r3 h2 fun G4 H4 p4 M4 s4 e4 S4 o4 h4 => ?_
      have back : ∀ {G H M}, Sim K G H p4 M s4 → Sim K G H p M s → True := fun _ _ => trivial
      have ww : L2.wipe s4 ix = L2.wipe s ix := by
        rw [o4.wipe]
        apply List.ext_getElem?
        intro j
        by_cases hj : j ∈ ix
        · by_cases hl : j < s.length
          · rw [wipe_in hj (by rw [wipe_length]; exact hl), wipe_in hj hl]
          · rw [List.getElem?_eq_none (by rw [wipe_length, wipe_length]; omega), List.getElem?_eq_none (by rw [wipe_length]; omega)]
        · rw [wipe_get hj]
      have e14 := e13.trans e4
      -- the slots of the frame itself are as they were
      have home : ∀ {G H M}, Same G1 G → Sim K G H p4 M s4 → Sim K G H p M s := fun {G H M} eg Sx =>
        ⟨Sx.same, fun j d hd => by
          obtain ⟨v, q1, q2⟩ := S1.env j d hd
          exact ⟨v, q1, Rep.mono eg _ _ q2⟩, S1.len, Sx.mem⟩
      refine ⟨ww, ht DW0 G4 H4 p4 M4 s4 _ _ (w0 _) S4 h4 fun G5 H5 M5 b e5 S5 h5 => ?_⟩
      have e15 := e14.trans e5
      cases b with
      | false =>
        rw [if_neg Bool.false_ne_true] at h5 ⊢
        exact ⟨G5, M5, e15, home e15 S5, h5⟩
      | true =>
        rw [if_pos rfl] at h5 ⊢
        refine he DW0 G5 H5 p4 M5 s4 _ _ (w0 _) S5 h5 fun G6 H6 M6 d v e6 S6 r6 h6 => ?_
        have e16 := e15.trans e6
        split at h6
        · next acc em =>
          obtain ⟨hl, h6⟩ := h6
          obtain ⟨gn, vs, c1, c2, c3⟩ := S6.mem _ _ em
          refine ⟨vs, c1, by rw [c2.length, sizeLine_eq]; omega, G6, _, e16, (home e16 S6).put (mo := .lst (acc ++ [d])) gn ⟨_, upd_same, RepL.append c2 (RepL.cons r6 rfl), ?_⟩, h6⟩
          rw [List.length_append, c2.length, sizeLine_eq]
          simp
          omega
        · exact h6.elim
    · have e : i = ds.length := by omega
      subst e
      rw [List.drop_length] at h2
      obtain ⟨st, h2⟩ := h2
      refine .inl ⟨F.stop G' H2 p M' s e2 S2 st, ?_⟩
      split at h2
      · next acc em =>
        cases m with
        | true =>
          rw [if_pos rfl] at h2
          exact k G' H2 M' (.ref a) _ (e1.trans e2) S2 rfl h2
        | false =>
          rw [if_neg Bool.false_ne_true] at h2
          obtain ⟨G3, e3, S3, r3⟩ := S2.freeze em
          exact k G3 H2 _ _ _ ((e1.trans e2).trans e3) S3 r3 h2
      · exact h2.elim
section
variable {X : Cx} {W : WX} {elt tg iter : Expr} {ifs : List Expr} {scope : Scope} {own : List (Str × Nat)} {pos : Pos} {wi : TI} {qi : DTI} {g : TG} {qg : DTG} {tt : TT} {qt : DTT} {te : TE} {qe : DTE}
theorem q_lc (m : Bool) (hc : X.calm = true) (hN : X.N.Nodup) (hi : QI X W tg iter wi qi) (ok : BlkOk X.N X.env.scope scope own)
    (hg : ∀ (s : Shared) (H : Hp) (C : Addr) (cl : List (Str × Addr)) (fp : List Addr), QGi (X.blk s H scope (compEnvC scope cl C X.env) fp) W0 (own.map (·.2)) tg g qg)
    (ht : ∀ (s : Shared) (H : Hp) (C : Addr) (cl : List (Str × Addr)) (fp : List Addr), QTs (X.blk s H scope (compEnvC scope cl C X.env) fp) W0 ifs tt qt)
    (he : ∀ (s : Shared) (H : Hp) (C : Addr) (cl : List (Str × Addr)) (fp : List Addr), QE (X.blk s H scope (compEnvC scope cl C X.env) fp) W0 elt te qe) (hs : ∀ x, foldedSetIterable iter X.env x = pure x := by intro _; rfl) :
    QE X W (.ListComp elt [⟨tg, iter, ifs, 0⟩] scope pos) (tLc wi g tt te (own.map (·.2))) (qLc m qi qg qt qe (own.map (·.2))) :=
  ⟨pe_lc hc hN hi.pe ok (fun s H C cl fp => (hg s H C cl fp).pe) (fun s H C cl fp => (ht s H C cl fp).pe) (fun s H C cl fp => (he s H C cl fp).pe) hs,
    ref_lc hi.rf (hg X.s_0 X.H_0 0 [] []).rf (ht X.s_0 X.H_0 0 [] []).rf (he X.s_0 X.H_0 0 [] []).rf⟩
end
end DL
namespace DL
open PySem L2
def toSp (K : PySem.W.Frag) (P : DSp) : Sp := fun vs H Q E => ∃ (G : Hp) (ds : List D) (M : Mst) (Qd : DK) (Ed : DX → Mst → Prop), Same G H ∧ RepL K G ds vs ∧ MemOk K G H M ∧ P ds M Qd Ed ∧
  (∀ G' H' v d M', Same G G' → Same G' H' → Rep K G' d v → MemOk K G' H' M' → Qd d M' → Q v H') ∧
  (∀ G' H' x cls dx M', Same G G' → Same G' H' → RepX K G' x cls dx → MemOk K G' H' M' → Ed x M' → E cls dx H')
def startD (N : List Str) (ds : List D) : Rho := ds.map some ++ List.replicate (N.length - ds.length) none
section
variable {P : Program} {w : World} {K : PySem.W.Frag} {mg : Str → Option Value} {base : Heap}
theorem start_sim {G H : Hp} {ds : List D} {vs : List V} {M : Mst} {N : List Str} (e : Same G H) (r : RepL K G ds vs) (hm : MemOk K G H M) : Sim K G H (startD N ds) M (L2.start N vs) := by
  have hl := r.length
  refine ⟨e, fun i d h => ?_, by simp [startD, L2.start, hl], hm⟩
  unfold startD at h
  unfold L2.start
  by_cases hi : i < ds.length
  · rw [List.getElem?_append_left (by simpa using hi)] at h
    rw [List.getElem?_append_left (by simp [hl, hi])]
    simp only [List.getElem?_map, Option.map_eq_some_iff, Option.some.injEq] at h
    obtain ⟨d', h1, rfl⟩ := h
    obtain ⟨v, h2, h3⟩ := r.get h1
    exact ⟨v, by simp [h2], h3⟩
  · rw [List.getElem?_append_right (by simpa using hi)] at h
    rw [List.getElem?_replicate] at h
    split at h <;> cases h
/-- THE RULE for a def: its body's reading by data -/
theorem fn_ok {x qual : Str} {st : Stmt} {f : Addr} {fd : FuncData} {N ps : List Str} {k : Nat} {p : DSp} (F : Fun K x qual st f fd) (S : FnScope N ps (defScope st)) (len : ∀ ds M Q E, p ds M Q E → ds.length = ps.length)
    (hbody : ∀ (cdv : Value) (A : Around) (outer : List Env) (s : Shared) (H : Hp) (E : XK), Room k (A.deeper (PyProof.Rows.envOfC qual (defScope st) s.heap.objs.size f cdv)) →
      Takes (cxOf (L2.CX P w) P w K mg base N qual (defScope st) f cdv A outer s H E) (fun cls d _ H => E cls d H) →
      PassesOwn (model P w) (cxOf (L2.CX P w) P w K mg base N qual (defScope st) f cdv A outer s H E).A (cxOf (L2.CX P w) P w K mg base N qual (defScope st) f cdv A outer s H E).env (cxOf (L2.CX P w) P w K mg base N qual (defScope st) f cdv A outer s H E).xe →
      ∃ t q, QSs (cxOf (L2.CX P w) P w K mg base N qual (defScope st) f cdv A outer s H E) (fun cls d _ H => E cls d H) (defBody st) t q ∧
        ∀ ds M Q Ed, p ds M Q Ed → q (fun x _ M => Ed x M) { nx := fun _ M => Q .non M, rt := Q } (startD N ds) M) : FnOk P w K mg base (L2.CX P w) (k + 1) f fd ps (toSp K p) := by
  refine F.okX S (fun vs H Q E h => ?_) (fun cdv A outer s H vs Q E hr h => ?_)
  · obtain ⟨G, ds, M, Qd, Ed, _, r, _, hp, _⟩ := h
    rw [r.length]; exact len _ _ _ _ hp
  · obtain ⟨G, ds, M, Qd, Ed, e, r, hm, hp, kq, ke⟩ := h
    obtain ⟨t, q, hq, hs⟩ := hbody cdv A outer s H E hr (takes_of rfl rfl rfl rfl) (passes_of rfl)
    refine ⟨t, hq.pe, hq.rf (fun x _ M => Ed x M) G H (startD N ds) M (L2.start N vs) _ _ (fun G' H' p' M' s' x cls dx e1 S1 r1 h1 => ke G' H' x cls dx M' e1 S1.same r1 S1.mem h1) (start_sim e r hm) (hs ds M Qd Ed hp)
      ⟨fun G' H' p' M' s' e1 S1 h1 => kq G' H' .non .non M' e1 S1.same rfl S1.mem h1, fun G' H' p' M' s' d v e1 S1 r1 h1 => kq G' H' v d M' e1 S1.same r1 S1.mem h1, fun _ _ _ _ _ _ _ h => h.elim, fun _ _ _ _ _ _ _ h => h.elim⟩⟩
end
@[simp] def qCall (P : DSp) (dds : List D) (qa : DTA) : DTE := fun DW p M Q => qa DW p M fun ds M1 => P (ds ++ dds) M1 Q fun x M2 => DW x p M2
section
variable {X : Cx} {W : WX} {k : Nat} {f : Addr} {fd : FuncData} {ps : List Str} {P : DSp} {dds : List D} {dvs : List V} {ds : List Value} {x : Str} {p pos : Pos} {e : Expr} {es : List Expr} {t : TA} {q : DTA}
/-- what a callee's promise gives at a call -/
theorem toSp_at {K : PySem.W.Frag} {DW : DWt} {G H : Hp} {p : Rho} {M : Mst} {s : L2.St} {ds : List D} {vs : List V} {Q : DK} {Q' : VK} (hw : WLink K G DW W) (S : Sim K G H p M s) (r : RepL K G ds vs) (h : P ds M Q fun x M2 => DW x p M2)
    (k : ∀ G' H' M' d v, Same G G' → Sim K G' H' p M' s → Rep K G' d v → Q d M' → Q' v H') : toSp K P vs H Q' (WE W s) := by
  have up : ∀ {G' H' M'}, Same G G' → Same G' H' → MemOk K G' H' M' → Sim K G' H' p M' s := fun {G' H' M'} e1 e2 hm => ⟨e2, fun i d hd => by
    obtain ⟨v, h1, h2⟩ := S.env i d hd
    exact ⟨v, h1, Rep.mono e1 _ _ h2⟩, S.len, hm⟩
  exact ⟨G, ds, M, Q, _, S.same, r, S.mem, h, fun G' H' v d M' e1 e2 r1 hm q => k G' H' M' d v e1 (up e1 e2 hm) r1 q, fun G' H' x cls dx M' e1 e2 r1 hm q => hw G' H' p M' s x cls dx e1 (up e1 e2 hm) r1 q⟩
theorem ref_call {K : PySem.W.Frag} (ha : RefA K W t q) (hd : ∀ G, RepL K G dds dvs) : RefE K W (tCallSD (toSp K P) dvs (fun s => WE W s) t) (qCall P dds q) :=
  fun DW G H p M s Q Q' hw S h k => ha DW G H p M s _ _ hw S h fun G1 H1 M1 as vs e1 S1 r1 h1 => toSp_at (hw.mono e1) S1 (RepL.append r1 (hd _)) h1 fun G' H' M' d v e2 => k G' H' M' d v (e1.trans e2)
/-- f(e, ..), a def of the module -/
theorem q_call (F : FnOk X.prog X.w X.K X.mg X.base (L2.CX X.prog X.w) k f fd ps (toSp X.K P)) (hr : Room k X.A) (tk : Takes X W) (hg : Gl X x) (hm : X.mg x = some (.ref f)) (hk : PySem.W.keepIn X.K (.ref f) = true) (hb : Binds X.K fd ps ds) (hd : Vals dvs ds) (hdd : ∀ G, RepL X.K G dds dvs)
    (ha : QA X W (e :: es) t q) (hdb : (x == ("__debug__" : Str)) = false := by decide) (he : starEach (e :: es) X.env = (false, eval e X.env) :: starEach es X.env := by rfl) (hpl : (backTo pos (starEach es X.env)).any (·.1) = false := by rfl) :
    QE X W (.Call (.Name x p) (e :: es) [] pos) (tCallSD (toSp X.K P) dvs (fun s => WE W s) t) (qCall P dds q) :=
  ⟨pe_callSD F hr hg hm hk hb hd (fun σ => passAt tk σ) ha.pe hdb he hpl, ref_call ha.rf hdd⟩
end
def tyOk (T : String) : D → Bool
  | .lst _ => T == "list"
  | .str _ => T == "str"
  | _ => false
theorem tyV_of {K : PySem.W.Frag} {G H : Hp} {p : Rho} {M : Mst} {s : L2.St} {T : String} {x : D} {v : V} (S : Sim K G H p M s) (r : Rep K G x v) (h : tyOk T (res M x) = true) : tyV K T v H := by
  cases e : res M x with
  | lst ds =>
    rw [e] at h
    obtain ⟨a, vs, rfl, g1, g2, g3⟩ := as_lst S r e
    exact .inl ⟨by simpa [tyOk] using h, vs, .inl (.inl g1)⟩
  | str z =>
    rw [e] at h
    obtain ⟨rfl, _⟩ := as_str r e
    show T = "str"
    simpa [tyOk] using h
  | _ => rw [e] at h; cases h
abbrev DMt := D → List D → Mst → DK → Prop
def RefM (K : PySem.W.Frag) (r : V → List V → Hp → VK → Prop) (q : DMt) : Prop := ∀ G H p M s x v ds vs (Q : DK) (Q' : VK), Sim K G H p M s → Rep K G x v → RepL K G ds vs → q x ds M Q →
  (∀ G' H' M' d w, Same G G' → Sim K G' H' p M' s → Rep K G' d w → Q d M' → Q' w H') → r v vs H Q'
structure QMt (X : Cx) (id : String) (r : V → List V → Hp → VK → Prop) (q : DMt) : Prop where
  op : MtR X id r
  rf : RefM X.K r q
def qBM (T : String) (m : DMt) (qo : DTE) (qa : DTA) : DTE := fun DW p M Q => qo DW p M fun x M1 => tyOk T (res M1 x) = true ∧ qa DW p M1 fun ds M2 => m x ds M2 Q
section
variable {X : Cx} {W : WX} {o e : Expr} {es : List Expr} {to : TE} {qo : DTE} {t : TA} {qa : DTA} {name : Str} {apos cpos : Pos} {T id : String} {r : V → List V → Hp → VK → Prop} {m : DMt}
theorem q_bm (pa : PlainAttrs T) (slot : Slot T name id) (hty : typeOf (.builtin id) = pure (.type "method_descriptor")) (hm : QMt X id r m) (ho : QE X W o to qo) (ha : QA X W (e :: es) t qa)
    (hbase : attributeBase o name X.env (eval o X.env) = eval o X.env := by rfl)
    (hfew : ((backTo cpos (starEach (e :: es) X.env)).all (fun x => !x.1) && (backToKw cpos (keywordEach [] X.env)).all (fun x => x.1.isSome)
      && decide ((e :: es).length + ([] : List Keyword).length + (if ([] : List Keyword).isEmpty then 0 else 1) < 30)) = true := by rfl)
    (hline : (apos.endLine == cpos.line) = true := by rfl) (hs : starEach (e :: es) X.env = (false, eval e X.env) :: starEach es X.env := by rfl) (hplain : (backTo cpos (starEach es X.env)).any (·.1) = false := by rfl) :
    QE X W (.Call (.Attribute o name apos) (e :: es) [] cpos) (tBM X.K T r to t) (qBM T m qo qa) :=
  ⟨pe_bm pa slot hty hm.op ho.pe ha.pe hbase hfew hline hs hplain, fun DW G H p M s Q Q' hw S h k => ho.rf DW G H p M s _ _ hw S h fun G1 H1 M1 x v e1 S1 r1 ⟨ty, h1⟩ => ⟨tyV_of S1 r1 ty,
    ha.rf DW G1 H1 p M1 s _ _ (hw.mono e1) S1 h1 fun G2 H2 M2 ds vs e2 S2 r2 h2 => hm.rf G2 H2 p M2 s x v ds vs Q Q' S2 (Rep.mono e2 _ _ r1) r2 h2 fun G' H' M' d w e3 => k G' H' M' d w ((e1.trans e2).trans e3)⟩⟩
end
def mApp : DMt := fun x ds M Q => match x, ds with
  | .ref a, [d] => match M a with
    | some (.lst es) => es.length < 100000 ∧ Q .non (put M a (.lst (es ++ [d])))
    | _ => False
  | _, _ => False
section
variable {X : Cx}
theorem m_append : QMt X "list.append" rAppend mApp := ⟨mt_append, fun G H p M s x v ds vs Q Q' S r1 r2 h k => by
  unfold mApp at h
  split at h
  · next a d =>
    cases r1
    obtain ⟨u, rfl, r3⟩ := repL1 r2
    split at h
    · next es em =>
      obtain ⟨hl, h⟩ := h
      obtain ⟨gn, us, g1, g2, g3⟩ := S.mem _ _ em
      have e1 := g2.length
      have z := sizeLine_eq
      refine ⟨a, us, u, rfl, rfl, g1, by omega, k G _ _ .non _ (Same.refl _) (S.put (mo := .lst (es ++ [d])) gn ⟨_, upd_same, RepL.append g2 (RepL.cons r3 rfl), ?_⟩) rfl h⟩
      rw [List.length_append]; simp; omega
    · exact h.elim
  · exact h.elim⟩
end
def qDNew : DTE := fun _ _ M Q => ∀ a, M a = none → Q (.ref a) (put M a (.dK []))
def qDNewT : DTE := fun _ _ M Q => ∀ a, M a = none → Q (.ref a) (put M a (.dT []))
section
variable {X : Cx} {W : WX} {pos : Pos}
theorem q_dnew : QE X W (.Dict [] [] pos) tDNewK qDNew := ⟨pe_dnewK, fun DW G H p M s Q Q' hw S h k a ha =>
  k G _ _ (.ref a) _ (Same.refl _) (S.put (mo := .dK []) (S.same.free ha) ⟨[], upd_same, rfl, rfl, Nat.zero_le _, fun q hq => by cases hq⟩) rfl (h a (S.mem.fresh ha))⟩
theorem q_dnewT : QE X W (.Dict [] [] pos) tDNewT qDNewT := ⟨pe_dnewT, fun DW G H p M s Q Q' hw S h k a ha =>
  k G _ _ (.ref a) _ (Same.refl _) (S.put (mo := .dT []) (S.same.free ha) ⟨[], upd_same, rfl, rfl, Nat.zero_le _, fun q hq => by cases hq⟩) rfl (h a (S.mem.fresh ha))⟩
end
/-- d.get(k, x) -/
def isDict (M : Mst) : D → Bool
  | .dct _ _ => true
  | .ref a => match M a with
    | some (.dK _) => true
    | some (.dT _) => true
    | some (.lk _ _) => true
    | some (.lkT _ _) => true
    | _ => false
  | _ => false
def qDGet2 (qd qk qx : DTE) : DTE := fun DW p M Q => qd DW p M fun x M1 => isDict M1 x = true ∧ qk DW p M1 fun y M2 => qx DW p M2 fun z M3 => match dgetD M3 x y with
  | some o => Q (o.getD z) M3
  | none => False
theorem isD_of {K : PySem.W.Frag} {G H : Hp} {p : Rho} {M : Mst} {s : L2.St} {x : D} {v : V} (S : Sim K G H p M s) (r : Rep K G x v) (h : isDict M x = true) : ∃ a, v = .ref a ∧ IsD H a := by
  unfold isDict at h
  split at h
  · obtain ⟨a, kvs, rfl, h1, _⟩ := r
    exact ⟨a, rfl, .inl ⟨kvs, same_rd S.same h1⟩⟩
  · next a =>
    cases r
    refine ⟨a, rfl, ?_⟩
    split at h
    · next kvs em => obtain ⟨_, kv, h1, _⟩ := S.mem _ _ em; exact .inl ⟨kv, .inl h1⟩
    · next kvs em => obtain ⟨_, kv, h1, _⟩ := S.mem _ _ em; exact .inr ⟨kv, .inl h1⟩
    · next ho kvs em => obtain ⟨_, o, kv, h0, h1, _⟩ := S.mem _ _ em; exact .inl ⟨kv, .inr ⟨o, by rw [← h0]; exact h1⟩⟩
    · next ho kvs em => obtain ⟨_, o, kv, h0, h1, _⟩ := S.mem _ _ em; exact .inr ⟨kv, .inr ⟨o, by rw [← h0]; exact h1⟩⟩
    · cases h
  · cases h
section
variable {X : Cx} {W : WX} {o e f : Expr} {apos cpos : Pos} {td ty tx : TE} {qd qk qx : DTE}
theorem q_dget2 (hu : X.A.units + 1 < cLine) (ho : QE X W o td qd) (he : QE X W e ty qk) (hf : QE X W f tx qx) (m : M2 X o "get" apos e f cpos) : QE X W (.Call (.Attribute o "get" apos) [e, f] [] cpos) (tDGet2 td ty tx) (qDGet2 qd qk qx) :=
  ⟨pe_dget2 hu ho.pe he.pe hf.pe m, fun DW G H p M s Q Q' hw S h k => ho.rf DW G H p M s _ _ hw S h fun G1 H1 M1 x v e1 S1 r1 ⟨hd, h1⟩ => by
    obtain ⟨a, rfl, hD⟩ := isD_of S1 r1 hd
    refine ⟨a, rfl, hD, he.rf DW G1 H1 p M1 s _ _ (hw.mono e1) S1 h1 fun G2 H2 M2 y u e2 S2 r2 h2 => hf.rf DW G2 H2 p M2 s _ _ (hw.mono (e1.trans e2)) S2 h2 fun G3 H3 M3 z w e3 S3 r3 h3 => ?_⟩
    split at h3
    · next oo eo =>
      obtain ⟨a', ov, ea, g, q⟩ := dgetD_of S3 (Rep.mono (e2.trans e3) _ _ r1) (Rep.mono e3 _ _ r2) eo
      cases ea
      refine ⟨ov, g, ?_⟩
      rcases q with ⟨rfl, rfl⟩ | ⟨d', w', rfl, rfl, r'⟩
      · exact k G3 H3 M3 z _ ((e1.trans e2).trans e3) S3 r3 h3
      · exact k G3 H3 M3 d' _ ((e1.trans e2).trans e3) S3 r' h3
    · exact h3.elim⟩
end
/-- the mutable dict at a is read only, then as before -/
def qLock (sel : Rho → Mst → Option Addr) (q : DTS) : DTS := fun DW DE p M => match sel p M with
  | some a => match M a with
    | some (.dK kvs) => ∀ ho, q DW ⟨fun p' M' => M' a = some (.lk ho kvs) ∧ DE.nx p' (put M' a (.dK kvs)), fun d M' => M' a = some (.lk ho kvs) ∧ DE.rt d (put M' a (.dK kvs)), fun p' M' => M' a = some (.lk ho kvs) ∧ DE.bk p' (put M' a (.dK kvs)), fun p' M' => M' a = some (.lk ho kvs) ∧ DE.ct p' (put M' a (.dK kvs))⟩ p (put M a (.lk ho kvs))
    | some (.dT kvs) => ∀ ho, q DW ⟨fun p' M' => M' a = some (.lkT ho kvs) ∧ DE.nx p' (put M' a (.dT kvs)), fun d M' => M' a = some (.lkT ho kvs) ∧ DE.rt d (put M' a (.dT kvs)), fun p' M' => M' a = some (.lkT ho kvs) ∧ DE.bk p' (put M' a (.dT kvs)), fun p' M' => M' a = some (.lkT ho kvs) ∧ DE.ct p' (put M' a (.dT kvs))⟩ p (put M a (.lkT ho kvs))
    | _ => False
  | none => False
section
variable {X : Cx} {W : WX} {sel : Rho → Mst → Option Addr}
theorem qs_lock {st : Stmt} {t : TS} {q : DTS} (h : QS X W st t q) : QS X W st (tLock t) (qLock sel q) := ⟨ps_lock h.pe, fun DW G H p M s DE E hw S hq k => by
  unfold qLock at hq
  split at hq
  · next a _ =>
    split at hq
    · next kvs em =>
      obtain ⟨gn, kv, g1, g2, g3, g4, g5⟩ := S.mem _ _ em
      refine ⟨a, _, g1, trivial, fun od => ?_⟩
      have S1 : Sim X.K G (upd H a (.frz od (.dK kv))) p (put M a (.lk (.frz od (.dK kv)) kvs)) s := S.put (mo := .lk (.frz od (.dK kv)) kvs) gn ⟨od, kv, rfl, upd_same, g2, g3, g4, g5⟩
      have back : ∀ {G' H' p' M' s'}, Same G G' → Sim X.K G' H' p' M' s' → M' a = some (.lk (.frz od (.dK kv)) kvs) → H' a = some (.frz od (.dK kv)) ∧ Sim X.K G' (upd H' a (.dK kv)) p' (put M' a (.dK kvs)) s' := fun {G' H' p' M' s'} e S' em' => by
        obtain ⟨gn', o', kv', h0, h1, _⟩ := S'.mem _ _ em'
        exact ⟨h1, S'.put (mo := .dK kvs) gn' ⟨kv, upd_same, g2, RepL.mono e _ _ g3, g4, g5⟩⟩
      refine h.rf DW G _ p _ s _ _ hw S1 (hq (.frz od (.dK kv))) ⟨fun G' H' p' M' s' e S' ⟨h1, h2⟩ => ?_, fun G' H' p' M' s' d v e S' r ⟨h1, h2⟩ => ?_, fun G' H' p' M' s' e S' ⟨h1, h2⟩ => ?_, fun G' H' p' M' s' e S' ⟨h1, h2⟩ => ?_⟩
      · obtain ⟨b1, b2⟩ := back e S' h1; exact ⟨b1, k.nx _ _ _ _ _ e b2 h2⟩
      · obtain ⟨b1, b2⟩ := back e S' h1; exact ⟨b1, k.rt _ _ _ _ _ _ _ e b2 r h2⟩
      · obtain ⟨b1, b2⟩ := back e S' h1; exact ⟨b1, k.bk _ _ _ _ _ e b2 h2⟩
      · obtain ⟨b1, b2⟩ := back e S' h1; exact ⟨b1, k.ct _ _ _ _ _ e b2 h2⟩
    · next kvs em =>
      obtain ⟨gn, kv, g1, g2, g3, g4, g5⟩ := S.mem _ _ em
      refine ⟨a, _, g1, trivial, fun od => ?_⟩
      have S1 : Sim X.K G (upd H a (.frz od (.dT kv))) p (put M a (.lkT (.frz od (.dT kv)) kvs)) s := S.put (mo := .lkT (.frz od (.dT kv)) kvs) gn ⟨od, kv, rfl, upd_same, g2, g3, g4, g5⟩
      have back : ∀ {G' H' p' M' s'}, Same G G' → Sim X.K G' H' p' M' s' → M' a = some (.lkT (.frz od (.dT kv)) kvs) → H' a = some (.frz od (.dT kv)) ∧ Sim X.K G' (upd H' a (.dT kv)) p' (put M' a (.dT kvs)) s' := fun {G' H' p' M' s'} e S' em' => by
        obtain ⟨gn', o', kv', h0, h1, _⟩ := S'.mem _ _ em'
        exact ⟨h1, S'.put (mo := .dT kvs) gn' ⟨kv, upd_same, g2, RepL.mono e _ _ g3, g4, g5⟩⟩
      refine h.rf DW G _ p _ s _ _ hw S1 (hq (.frz od (.dT kv))) ⟨fun G' H' p' M' s' e S' ⟨h1, h2⟩ => ?_, fun G' H' p' M' s' d v e S' r ⟨h1, h2⟩ => ?_, fun G' H' p' M' s' e S' ⟨h1, h2⟩ => ?_, fun G' H' p' M' s' e S' ⟨h1, h2⟩ => ?_⟩
      · obtain ⟨b1, b2⟩ := back e S' h1; exact ⟨b1, k.nx _ _ _ _ _ e b2 h2⟩
      · obtain ⟨b1, b2⟩ := back e S' h1; exact ⟨b1, k.rt _ _ _ _ _ _ _ e b2 r h2⟩
      · obtain ⟨b1, b2⟩ := back e S' h1; exact ⟨b1, k.bk _ _ _ _ _ e b2 h2⟩
      · obtain ⟨b1, b2⟩ := back e S' h1; exact ⟨b1, k.ct _ _ _ _ _ e b2 h2⟩
    · exact hq.elim
  · exact hq.elim⟩
end
def kD : Key → D
  | .inl i => .int i
  | .inr x => .str x
theorem rep_key {K : PySem.W.Frag} {G : Hp} {k : Key} (h : kOk k) : Rep K G (kD k) (kV k) := by
  cases k with
  | inl i => rfl
  | inr x => exact ⟨rfl, h⟩
theorem rep_keys {K : PySem.W.Frag} {G : Hp} : ∀ {ks : List Key}, (∀ k ∈ ks, kOk k) → RepL K G (ks.map kD) (ks.map kV)
  | [], _ => rfl
  | k :: ks, h => ⟨kV k, _, rfl, rep_key (h k (List.mem_cons_self ..)), rep_keys fun q hq => h q (List.mem_cons_of_mem _ hq)⟩
/-- a tuple that stands in the heap is known for good -/
theorem Sim.adopt {K : PySem.W.Frag} {G H : Hp} {p : Rho} {M : Mst} {s : L2.St} {a : Addr} {ds : List D} {vs : List V} (S : Sim K G H p M s) (h : H a = some (.tup vs)) (r : RepL K G ds vs) (hl : vs.length ≤ sizeLine) : ∃ G', Same G G' ∧ Sim K G' H p M s ∧ Rep K G' (.tup ds) (.ref a) := by
  cases eg : G a with
  | some o =>
    have := S.same _ _ eg
    rw [h] at this; cases this
    exact ⟨G, Same.refl _, S, a, vs, rfl, eg, r, hl⟩
  | none =>
    have e : Same G (upd G a (.tup vs)) := same_new eg
    have mn : ∀ b u, M b = some u → b ≠ a := fun b u q z => by
      subst z
      have := (S.mem _ _ q).2
      cases u with
      | lst _ => obtain ⟨_, h1, _⟩ := this; rw [h] at h1; cases h1
      | dK _ => obtain ⟨_, h1, _⟩ := this; rw [h] at h1; cases h1
      | dT _ => obtain ⟨_, h1, _⟩ := this; rw [h] at h1; cases h1
      | ins _ _ => obtain ⟨_, _, h1, _⟩ := this; rw [h] at h1; cases h1
      | lk _ _ => obtain ⟨_, _, h0, h1, _⟩ := this; rw [h0, h] at h1; cases h1
      | lkT _ _ => obtain ⟨_, _, h0, h1, _⟩ := this; rw [h0, h] at h1; cases h1
      | bag => obtain ⟨_, _, h1, _⟩ := this; rw [h] at h1; cases h1
      | tab _ => obtain ⟨_, _, h1, _⟩ := this; rw [h] at h1; cases h1
    refine ⟨_, e, ⟨fun b u q => ?_, fun i d q => ?_, S.len, fun b u q => ⟨by rw [upd_ne (mn b u q)]; exact (S.mem b u q).1, (S.mem b u q).2.mono e rfl (.upd fun _ h => by cases h)⟩⟩, a, vs, rfl, upd_same, RepL.mono e _ _ r, hl⟩
    · by_cases z : b = a
      · subst z; rw [upd_same] at q; cases q; exact h
      · rw [upd_ne z] at q; exact S.same _ _ q
    · obtain ⟨v, r1, r2⟩ := S.env i d q
      exact ⟨v, r1, Rep.mono e _ _ r2⟩
def qiKeys (qe : DTE) : DTI := fun DW p M R => qe DW p M fun d M1 => match d with
  | .ref a => match M1 a with
    | some (.lk ho kvs) => R (kvs.map fun q => kD q.1) (holds a (.lk ho kvs)) M1
    | some (.lkT ho kvs) => R (kvs.map fun q => .tup (q.1.map kD)) (holds a (.lkT ho kvs)) M1
    | _ => False
  | _ => False
theorem pair_at {κ : Type} {kvs : List (κ × D)} {kv : List (κ × V)} (h : kv.map (·.1) = kvs.map (·.1)) {i : Nat} {q : κ × D} {k : κ} {v : V} (h1 : kvs[i]? = some q) (h2 : kv[i]? = some (k, v)) : k = q.1 := by
  have e1 : (kv.map (·.1))[i]? = some k := by simp [h2]
  rw [h] at e1
  simp [h1] at e1
  exact e1.symm
section
variable {X : Cx} {W : WX} {tg e : Expr} {td : TE} {qd : DTE} {apos cpos : Pos}
theorem qi_keys (he : QE X W e td qd) : QI X W tg e (iKeys td) (qiKeys qd) := ⟨pi_keys he.pe, fun DW G H p M s R R' hw S h k => he.rf DW G H p M s _ _ hw S h fun G1 H1 M1 d v e1 S1 r1 h1 => by
  split at h1
  · next a =>
    cases r1
    split at h1
    · next ho kvs em =>
      obtain ⟨gn, o, kv, c0, c1, c2, c3, c4, c5⟩ := S1.mem _ _ em
      subst c0
      have hl : kv.length = kvs.length := by have := congrArg List.length c2; simpa using this
      refine ⟨a, o, rfl, .inl ⟨kv, c1, k G1 H1 M1 _ _ _ e1 S1 ⟨fun G' H p M s i e S st hi => ?_, fun G' H p M s i x H' e S st y d hd => ?_, fun G' H p M s e S st => ?_⟩ (by rw [List.length_map, ← hl]; exact c4) h1⟩⟩
      · obtain ⟨_, o', kv', b0, b1, _⟩ := S.mem _ _ st
        exact ⟨b1, by simpa [hl] using hi⟩
      · obtain ⟨rfl, kk, vv, y1, rfl⟩ := y
        simp only [List.getElem?_map, Option.map_eq_some_iff] at hd
        obtain ⟨q, q1, rfl⟩ := hd
        have := pair_at c2 q1 y1
        subst this
        exact ⟨G', Same.refl _, S, rep_key (c5 q (List.mem_of_getElem? q1))⟩
      · obtain ⟨_, o', kv', b0, b1, _⟩ := S.mem _ _ st
        exact ⟨b1, by simp [hl]⟩
    · next ho kvs em =>
      obtain ⟨gn, o, kv, c0, c1, c2, c3, c4, c5⟩ := S1.mem _ _ em
      subst c0
      have hl : kv.length = kvs.length := by have := congrArg List.length c2; simpa using this
      refine ⟨a, o, rfl, .inr ⟨kv, c1, k G1 H1 M1 _ _ _ e1 S1 ⟨fun G' H p M s i e S st hi => ?_, fun G' H p M s i x H' e S st y d hd => ?_, fun G' H p M s e S st => ?_⟩ (by rw [List.length_map, ← hl]; exact c4) h1⟩⟩
      · obtain ⟨_, o', kv', b0, b1, _⟩ := S.mem _ _ st
        exact ⟨b1, by simpa [hl] using hi⟩
      · obtain ⟨rfl, kk, vv, q', y1, rfl, y2⟩ := y
        simp only [List.getElem?_map, Option.map_eq_some_iff] at hd
        obtain ⟨q, q1, rfl⟩ := hd
        have := pair_at c2 q1 y1
        subst this
        obtain ⟨l1, l2⟩ := c5 q (List.mem_of_getElem? q1)
        exact S.adopt y2 (rep_keys l2) (by simpa using l1)
      · obtain ⟨_, o', kv', b0, b1, _⟩ := S.mem _ _ st
        exact ⟨b1, by simp [hl]⟩
    · exact h1.elim
  · exact h1.elim⟩
end
end DL
namespace DL
open PySem L2
def frz (i : Nat) (p : Rho) (M : Mst) (R : Rho → Mst → Prop) : Prop := match p[i]? with
  | some (some (.ref a)) => match M a with
    | some (.lst ds) => R (p.set i (some (.lst ds))) (del M a)
    | some (.dK kvs) => R (p.set i (some (.dct (kvs.map (·.1)) (kvs.map (·.2))))) (del M a)
    | some (.ins C fs) => R (p.set i (some (.ins C (fs.map (·.1)) (fs.map (·.2))))) (del M a)
    | _ => False
  | _ => False
def qFrz (i : Nat) (q : DTS) : DTS := fun DW DE p M => frz i p M (q DW DE)
theorem Sim.slot {K : PySem.W.Frag} {G H : Hp} {p : Rho} {M : Mst} {s : L2.St} {i : Nat} {a : Addr} {d : D} (S : Sim K G H p M s) (h : ∃ v, s[i]? = some (some v) ∧ v = .ref a) (r : Rep K G d (.ref a)) : Sim K G H (p.set i (some d)) M s := by
  obtain ⟨v, h1, rfl⟩ := h
  refine ⟨S.same, fun j e h => ?_, by rw [List.length_set]; exact S.len, S.mem⟩
  rw [List.getElem?_set] at h
  split at h
  · next z =>
    subst z
    split at h
    · cases h; exact ⟨_, h1, r⟩
    · cases h
  · exact S.env j e h
theorem qs_frz {X : Cx} {W : WX} {st : Stmt} {t : TS} {q : DTS} (i : Nat) (h : QS X W st t q) : QS X W st t (qFrz i q) := ⟨h.pe, fun DW G H p M s DE E hw S hq k => by
  unfold qFrz frz at hq
  split at hq
  · next a ei =>
    obtain ⟨v, s1, r1⟩ := S.env i _ ei
    have hv : ∃ v, s[i]? = some (some v) ∧ v = .ref a := ⟨v, s1, r1⟩
    split at hq
    · next ds em =>
      obtain ⟨G', e, S', r⟩ := S.freeze em
      exact h.rf DW G' H _ _ s DE E (hw.mono e) (S'.slot hv r) hq (k.mono e)
    · next kvs em =>
      obtain ⟨G', e, S', r⟩ := S.freezeD em
      exact h.rf DW G' H _ _ s DE E (hw.mono e) (S'.slot hv r) hq (k.mono e)
    · next C fs em =>
      obtain ⟨G', e, S', r⟩ := S.freezeI em
      exact h.rf DW G' H _ _ s DE E (hw.mono e) (S'.slot hv r) hq (k.mono e)
    · exact hq.elim
  · exact hq.elim⟩
/-- what is locked: the dict in slot i; the field f of what slot i holds -/
def selN (i : Nat) : Rho → Mst → Option Addr := fun p _ => match p[i]? with
  | some (some (.ref a)) => some a
  | _ => none
def enumD : Nat → List D → List D
  | _, [] => []
  | n, d :: ds => .tup [.int n, d] :: enumD (n + 1) ds
@[simp] theorem enumD_length : ∀ (n : Nat) (ds : List D), (enumD n ds).length = ds.length
  | _, [] => rfl
  | n, d :: ds => by simp [enumD, enumD_length]
def zipD : List D → List D → List D
  | a :: as, b :: bs => .tup [a, b] :: zipD as bs
  | _, _ => []
theorem zipD_get : ∀ (as bs : List D) (i : Nat), (zipD as bs)[i]? = match as[i]?, bs[i]? with | some a, some b => some (.tup [a, b]) | _, _ => none
  | a :: as, b :: bs, 0 => by simp [zipD]
  | a :: as, b :: bs, i + 1 => by simp [zipD, zipD_get as bs i]
  | [], bs, i => by simp [zipD]
  | a :: as, [], i => by simp [zipD]
@[simp] theorem zipD_length : ∀ (as bs : List D), (zipD as bs).length = min as.length bs.length
  | a :: as, b :: bs => by simp [zipD, zipD_length as bs]
  | [], bs => by simp [zipD]
  | a :: as, [] => by simp [zipD]
/-- the things of a list, frozen or not, and what keeps them -/
def lstAt (M : Mst) : D → Option (List D × (Mst → Prop))
  | .lst ds => some (ds, always)
  | .ref a => match M a with
    | some (.lst ds) => some (ds, holds a (.lst ds))
    | _ => none
  | _ => none
theorem lstAt_of {K : PySem.W.Frag} {G H : Hp} {p : Rho} {M : Mst} {s : L2.St} {d : D} {v : V} {ds : List D} {Sty : Mst → Prop} (S : Sim K G H p M s) (r : Rep K G d v) (h : lstAt M d = some (ds, Sty)) : Sty M ∧ ∃ a, v = .ref a ∧ ds.length ≤ sizeLine ∧
    ∀ G' H' p' M' s', Same G G' → Sim K G' H' p' M' s' → Sty M' → ∃ us, SqL K H' a us ∧ RepL K G' ds us := by
  unfold lstAt at h
  split at h
  · cases h
    obtain ⟨a, vs, rfl, g1, g2, g3⟩ := r
    exact ⟨trivial, a, rfl, by rw [← g2.length]; exact g3, fun G' H' p' M' s' e S' _ => ⟨vs, .inl (.inl (S'.same _ _ (e _ _ g1))), RepL.mono e _ _ g2⟩⟩
  · next a =>
    split at h
    · next ds' em =>
      cases h
      cases r
      obtain ⟨gn, vs, g1, g2, g3⟩ := S.mem _ _ em
      refine ⟨em, a, rfl, by rw [← g2.length]; exact g3, fun G' H' p' M' s' e S' st => ?_⟩
      obtain ⟨_, us, c1, c2, _⟩ := S'.mem _ _ st
      exact ⟨us, .inl (.inl c1), c2⟩
    · cases h
  · cases h
theorem get_lt {α : Type} {xs : List α} {i : Nat} (h : i < xs.length) : ∃ x, xs[i]? = some x := ⟨_, List.getElem?_eq_getElem h⟩
def qiZip (qa : DTA) : DTI := fun DW p M R => qa DW p M fun ds M1 => match ds with
  | [x, y] => match lstAt M1 x, lstAt M1 y with
    | some (es, St1), some (fs, St2) => R (zipD es fs) (fun M => St1 M ∧ St2 M) M1
    | _, _ => False
  | _ => False
section
variable {X : Cx} {W : WX} {e e2 : Expr} {ta : TA} {qa : DTA} {p pos tpos : Pos} {elts : List Expr} {kk : Nat}
theorem qi_zip (hg : Gl X "zip") (hm : X.mg "zip" = none) (ha : QA X W [e, e2] ta qa)
    (hs : starEach [e, e2] X.env = (false, eval e X.env) :: starEach [e2] X.env := by rfl) (hpl : (backTo pos (starEach [e2] X.env)).any (·.1) = false := by rfl) :
    QI X W (.Tuple elts kk tpos) (.Call (.Name "zip" p) [e, e2] [] pos) (iZip X.K ta) (qiZip qa) :=
  ⟨pi_zip hg hm ha.pe hs hpl, fun DW G H p M s R R' hw S h k => ha.rf DW G H p M s _ _ hw S h fun G1 H1 M1 ds vs e1 S1 r1 h1 => by
    split at h1
    · next x y =>
      obtain ⟨v, u, rfl, r2, r3⟩ := repL2 r1
      split at h1
      · next es St1 fs St2 el1 el2 =>
        obtain ⟨hst1, a, rfl, hlen1, lk1⟩ := lstAt_of S1 r2 el1
        obtain ⟨hst2, b, rfl, hlen2, lk2⟩ := lstAt_of S1 r3 el2
        obtain ⟨us, u1, _⟩ := lk1 G1 H1 p M1 s (Same.refl _) S1 hst1
        obtain ⟨ws, w1, _⟩ := lk2 G1 H1 p M1 s (Same.refl _) S1 hst2
        refine ⟨a, b, us, ws, rfl, u1, w1, k G1 H1 M1 _ _ _ e1 S1 ⟨fun G' H p M s i e S st hi => ?_, fun G' H p M s i x H' e S st y d hd => ?_, fun G' H p M s e S st => ?_⟩ (by rw [zipD_length]; omega) h1⟩
        · obtain ⟨us, c1, c2⟩ := lk1 G' H p M s e S st.1
          obtain ⟨ws, d1, d2⟩ := lk2 G' H p M s e S st.2
          rw [zipD_length] at hi
          obtain ⟨x, hx⟩ := get_lt (xs := us) (i := i) (by rw [c2.length]; omega)
          obtain ⟨y, hy⟩ := get_lt (xs := ws) (i := i) (by rw [d2.length]; omega)
          exact ⟨us, ws, x, y, c1, d1, hx, hy⟩
        · obtain ⟨us, c1, c2⟩ := lk1 G' H p M s e S st.1
          obtain ⟨ws, d1, d2⟩ := lk2 G' H p M s e S st.2
          obtain ⟨T, x', y', rfl, hT, rfl, y1, y2⟩ := y
          rw [zipD_get] at hd
          split at hd
          · next d' d'' ed1 ed2 =>
            cases hd
            obtain ⟨w, w1, w2⟩ := c2.get ed1
            rw [y1 us c1] at w1; cases w1
            obtain ⟨w, w1, w3⟩ := d2.get ed2
            rw [y2 ws d1] at w1; cases w1
            obtain ⟨e2, S2⟩ := S.made (o := .tup [x', y']) hT
            exact ⟨_, e2, S2, T, _, rfl, upd_same, RepL.mono e2 _ _ (RepL.cons w2 (RepL.cons w3 rfl)), sz1000 (by simp)⟩
          · cases hd
        · obtain ⟨us, c1, c2⟩ := lk1 G' H p M s e S st.1
          obtain ⟨ws, d1, d2⟩ := lk2 G' H p M s e S st.2
          refine ⟨us, ws, c1, d1, ?_⟩
          rw [zipD_length, c2.length, d2.length]; omega
      · exact h1.elim
    · exact h1.elim⟩
end
def intsL : List D → Option (List Int)
  | [] => some []
  | .int i :: ds => match intsL ds with
    | some is => some (i :: is)
    | none => none
  | _ :: _ => none
@[simp] theorem intsL_map : ∀ ns : List Int, intsL (ns.map D.int) = some ns
  | [] => rfl
  | n :: ns => by simp [intsL, intsL_map ns]
/-- set(xs), fewer than 64 whole numbers -/
def rSetL (K : PySem.W.Frag) (w : World) : List V → Hp → VK → Prop := fun vs H Q => ∃ (a : Addr) (ns : List Int), vs = [.ref a] ∧ SqL K H a (ns.map V.int) ∧ ns.length < 64 ∧ ∀ p c, H p = none → c ≤ ns.length → Q (.ref p) (upd H p (SetO w p (fun j => decide (j ∈ ns)) c))
theorem sim_laid {K : PySem.W.Frag} {G H : Hp} {p : Rho} {M : Mst} {s : L2.St} {a : Addr} {o : HO} (S : Sim K G H p M s) (hn : H a = none) : Sim K G (upd H a o) p M s := by
  refine ⟨fun b u q => ?_, S.env, S.len, fun b u q => ⟨(S.mem b u q).1, (S.mem b u q).2.mono (Same.refl G) ?_ (.refl G)⟩⟩
  · rw [upd_ne (ne_of_none q (S.same.free hn))]; exact S.same b u q
  · obtain ⟨o', ho⟩ := (S.mem b u q).2.there
    exact upd_ne (ne_of_none ho hn)
end DL
namespace DL
open PySem L2
/-- a def of the module: where it stands, what it is -/
structure FnAt (K : PySem.W.Frag) (mg : Str → Option Value) (x : Str) (st : Stmt) (ps : List Str) where
  f : Addr
  fd : FuncData
  g : mg x = some (.ref f)
  F : Fun K x x st f fd
  b : Binds K fd ps []
def spLaw : DSp := fun ds M Q _ => ∃ ns : List Int, ds = [.scr ns] ∧ ns.length ≤ 63 ∧ (∀ a, M a = none) ∧ ∀ M', Q (.bl true) M'
theorem walk {l : PySem.W.OpenLaw} {q : Program} {loose : List Str} {XP : (Str → Option Value) → Heap → Prop} {YP : World → Heap → Prop} {d : DefRec} {K : Params → PySem.W.Frag} {k : Nat} (hk : k ≤ 200) (hn : l.most = some 63) (hdf : d.params.defaults = [])
    (hY : ∀ (w : World) (h : Heap), YP w h → (K w.params).In h)
    (F : ∀ (w : World) (mg : Str → Option Value) (fa : Addr) (h : Heap), (K w.params).In h → h.Ns mainGlobals mg → mg d.name = some (.ref fa) →
      ∃ fd : FuncData, (∀ (s : Shared) (u : Value), BindsTo s fd ⟨[u], []⟩ [("_law_script", u)]) ∧ ∀ base : Heap, (K w.params).In base → base.Ns mainGlobals mg →
        FnOk l.prog w (K w.params) mg base (L2.CX l.prog w) k fa fd ["_law_script"] (toSp (K w.params) spLaw)) :
    PySem.W.WalkO q loose XP YP l.row.toRowW d [] (fun f vs => PySem.call f vs) :=
  L2.walk_of (n := 63) (k := k) (x := "_law_script") (CX := fun w => L2.CX l.prog w) (sp := fun w => toSp (K w.params) spLaw) hn (by decide) hdf
    ⟨rfl, by show 1 + 300 + 3 * k + 5 < 1000; omega, by show 4 + 16 * k + 200 < 9900; omega⟩ hY F
    (fun w H a ns hl _ hS => ⟨H, [.scr ns], fun _ => none, fun d _ => d = .bl true, fun _ _ => False, Same.refl _, RepL.cons ⟨a, rfl, hS, hl⟩ rfl, fun _ _ h => (by cases h), ⟨ns, rfl, hl, fun _ => rfl, fun _ => rfl⟩,
      fun G' H' v d M' _ _ r _ e => (by subst e; exact r), fun _ _ _ _ _ _ _ _ _ _ h => h.elim⟩) fun w H s e s' z => by
    obtain ⟨a, B, H', cls, d, _, _, _, _, _, _, _, h⟩ := z
    exact h
end DL
namespace DL
open PySem L2
abbrev retE (Q : DK) : DEnds := { nx := fun _ M => Q .non M, rt := Q }
section
variable {M : Mst} {Q : DK} {a : Addr} {ds : List D} {i : Int} {d : D}
theorem atI_0 {α : Type} {x : α} {xs : List α} : atI (x :: xs) 0 = some x := by
  unfold atI ixN; simp
theorem atI_1 {α : Type} {x y : α} {xs : List α} : atI (x :: y :: xs) 1 = some y := by
  unfold atI ixN
  have : (1 : Int) < ((x :: y :: xs).length : Int) := by simp; omega
  simp only [this]; rfl
theorem atI_n {α : Type} {xs : List α} {n : Nat} : atI xs (n : Int) = xs[n]? := by
  unfold atI ixN
  by_cases h : n < xs.length
  · simp [h]
  · have : ¬ ((n : Int) < (xs.length : Int)) := by omega
    simp [this, h]
theorem atI_some {α : Type} {xs : List α} {i : Int} (h0 : 0 ≤ i) (h1 : i < xs.length) : ∃ x, atI xs i = some x ∧ x ∈ xs := by
  obtain ⟨n, rfl⟩ : ∃ n : Nat, i = n := ⟨i.toNat, by omega⟩
  rw [atI_n]
  have : n < xs.length := by omega
  exact ⟨_, List.getElem?_eq_getElem this, List.getElem_mem this⟩
theorem ix_l (h : atI ds i = some d) : dIx (.lst ds) (.int i) M Q = Q d M := by simp [dIx, dgetD, h]
theorem ix_t (h : atI ds i = some d) : dIx (.tup ds) (.int i) M Q = Q d M := by simp [dIx, dgetD, h]
theorem ix_x (h : atI ds i = some d) : dIx (.xtp ds) (.int i) M Q = Q d M := by simp [dIx, dgetD, h]
theorem ix_s {ns : List Int} {n : Int} (h : atI ns i = some n) : dIx (.scr ns) (.int i) M Q = Q (.int n) M := by simp [dIx, dgetD, h]
theorem ix_r (hm : M a = some (.lst ds)) (h : atI ds i = some d) : dIx (.ref a) (.int i) M Q = Q d M := by simp [dIx, dgetD, res, hm, h]
theorem set_l {R : Mst → Prop} {j : Nat} (hm : M a = some (.lst ds)) (h : ixN ds.length i = some j) : dSet (.ref a) (.int i) d M R = R (put M a (.lst (ds.set j d))) := by simp [dSet, hm, h]
theorem len_s {ns : List Int} : dLen [.scr ns] M Q = Q (.int ns.length) M := by simp [dLen]
@[simp] theorem dInt_i {C : Int → Int → Prop} {g : Int → Int → Int} {i j : Int} : dInt C g (.int i) (.int j) M Q = (C i j ∧ Q (.int (g i j)) M) := rfl
@[simp] theorem dInt0_i {g : Int → Int → Int} {i j : Int} : dInt0 g (.int i) (.int j) M Q = Q (.int (g i j)) M := rfl
@[simp] theorem dCmpI_i {g : Int → Int → Bool} {i j : Int} : dCmpI g (.int i) (.int j) M Q = Q (.bl (g i j)) M := rfl
@[simp] theorem dAdd_i {m : Bool} {i j : Int} : dAdd m (.int i) (.int j) M Q = Q (.int (i + j)) M := rfl
@[simp] theorem dAdd_l {m : Bool} {es fs : List D} : dAdd m (.lst es) (.lst fs) M Q = (es.length + fs.length ≤ 100000 ∧ newL m (es ++ fs) M Q) := rfl
@[simp] theorem dAbs_i {i : Int} : dAbs [.int i] M Q = Q (.int (if i < 0 then -i else i)) M := rfl
@[simp] theorem dMax2_i {i j : Int} : dMax2 [.int i, .int j] M Q = Q (.int (if j > i then j else i)) M := rfl
@[simp] theorem dMin2_i {i j : Int} : dMin2 [.int i, .int j] M Q = Q (.int (if j < i then j else i)) M := rfl
@[simp] theorem len_l' : dLen [.lst ds] M Q = Q (.int ds.length) M := by simp [dLen]
@[simp] theorem len_s' {ns : List Int} : dLen [.scr ns] M Q = Q (.int ns.length) M := by simp [dLen]
@[simp] theorem gSub_eq {qo qi : DTE} {d : D} {DW : DWt} {p : Rho} {R : Rho → Mst → Prop} : gSubD qo qi d DW p M R = qo DW p M fun o M1 => qi DW p M1 fun i M2 => dSet o i d M2 fun M3 => R p M3 := rfl
end
section
variable {X : Cx} {W : WX} {pos : Pos}
theorem qs_setN (i : Nat) {x : Str} {e : Expr} {te : TE} {qe : DTE} {pos' : Pos} (hN : X.N.Nodup) (he : QE X W e te qe) (hi : X.N[i]? = some x := by rfl) (hx : Loc X.env.scope x := by first | exact .inl rfl | exact .inr rfl)
    (hs : swapsWith e (some (.Name x pos')) pos.line X.env = pure false := by rfl) (hf : X.fn x = true ∨ X.env.scope.names.lookup x = some .local := by first | exact .inl rfl | exact .inr rfl) :
    QS X W (.Assign [.Name x pos'] e pos) (tAsg te (gName i)) (qAsg qe (gNameD i)) := qs_set (ps_set hN hi hx he.pe hs hf) he.rf
theorem qs_parN (i j : Nat) {x y : Str} {a b : Expr} {ta : TA} {qa : DTA} {px py pt : Pos} {kt k2 pt2} (hc : X.calm = true) (hN : X.N.Nodup) (ha : QA X W [a, b] ta qa) (hi : X.N[i]? = some x := by rfl) (hj : X.N[j]? = some y := by rfl) (hij : i ≠ j := by decide)
    (hx : X.env.scope.names.lookup x = some .local := by rfl) (hy : X.env.scope.names.lookup y = some .local := by rfl)
    (hw : swappedStores [.Tuple [.Name x px, .Name y py] kt pt] (.Tuple [a, b] k2 pt2) X.env = pure (some [x, y]) := by rfl)
    (hs : swapsWithSole [.Tuple [.Name x px, .Name y py] kt pt] (.Tuple [a, b] k2 pt2) pos.line X.env = pure false := by rfl) :
    QS X W (.Assign [.Tuple [.Name x px, .Name y py] kt pt] (.Tuple [a, b] k2 pt2) pos) (tPar i j ta) (qPar i j qa) := qs_par (ps_par hc hN hi hj hij hx hy ha.pe hw hs) ha.rf
theorem qg_nm (i : Nat) {x : Str} {ix : List Nat} (hN : X.N.Nodup) (hi : X.N[i]? = some x := by rfl) (hx : Loc X.env.scope x := by first | exact .inl rfl | exact .inr rfl)
    (hf : X.fn x = true ∨ X.env.scope.names.lookup x = some .local := by first | exact .inl rfl | exact .inr rfl) (hm : i ∈ ix := by decide) : QGi X W ix (.Name x pos) (gName i) (gNameD i) := qg_name (pg_name hN hi hx hf) hm
end
def Sub (M M' : Mst) : Prop := ∀ a o, M a = some o → M' a = some o
theorem Sub.refl (M : Mst) : Sub M M := fun _ _ h => h
theorem Sub.trans {M M1 M2 : Mst} (h : Sub M M1) (g : Sub M1 M2) : Sub M M2 := fun a o e => g a o (h a o e)
theorem Sub.put {M M' : Mst} {a : Addr} {o : MO} (h : Sub M M') (hn : M a = none) : Sub M (put M' a o) := fun b u e => by
  rw [put_ne (fun z => by rw [z, hn] at e; cases e)]; exact h b u e
def upSp (p : DSp) : DSp := fun ds M Q E => ∃ Q0 E0, p ds M Q0 E0 ∧ (∀ d M' M'', Sub M'' M' → Q0 d M'' → Q d M') ∧ ∀ x M' M'', Sub M'' M' → E0 x M'' → E x M'
theorem imp_up {K : PySem.W.Frag} {p : DSp} {vs : List V} {H : Hp} {Q : VK} {E : XK} (h : toSp K p vs H Q E) : toSp K (upSp p) vs H Q E := by
  obtain ⟨G, ds, M, Qd, Ed, e, r, hm, hp, kq, ke⟩ := h
  have ok : ∀ {G' H' M' M''}, Sub M'' M' → MemOk K G' H' M' → MemOk K G' H' M'' := fun hs hm a o e => hm a o (hs a o e)
  exact ⟨G, ds, M, fun d M' => ∃ M'', Sub M'' M' ∧ Qd d M'', fun x M' => ∃ M'', Sub M'' M' ∧ Ed x M'', e, r, hm, ⟨Qd, Ed, hp, fun d M' M'' hs q => ⟨M'', hs, q⟩, fun x M' M'' hs q => ⟨M'', hs, q⟩⟩,
    fun G' H' v d M' e1 e2 r1 hm1 ⟨M'', hs, q⟩ => kq G' H' v d M'' e1 e2 r1 (ok hs hm1) q, fun G' H' x cls dx M' e1 e2 r1 hm1 ⟨M'', hs, q⟩ => ke G' H' x cls dx M'' e1 e2 r1 (ok hs hm1) q⟩
def canE (K : PySem.W.Frag) (W : WX) (q : DTE) : TE := fun s H Q' => ∃ DW G p M Q, WLink K G DW W ∧ Sim K G H p M s ∧ q DW p M Q ∧ ∀ G' H' M' d v, Same G G' → Sim K G' H' p M' s → Rep K G' d v → Q d M' → Q' v H'
def canT (K : PySem.W.Frag) (W : WX) (q : DTT) : TT := fun s H Q' => ∃ DW G p M Q, WLink K G DW W ∧ Sim K G H p M s ∧ q DW p M Q ∧ ∀ G' H' M' b, Same G G' → Sim K G' H' p M' s → Q b M' → Q' b H'
def canG (K : PySem.W.Frag) (W : WX) (ix : List Nat) (q : DTG) : TG := fun v s H Q' => ∃ DW G p M d Q, WLink K G DW W ∧ Sim K G H p M s ∧ Rep K G d v ∧ q d DW p M Q ∧ ∀ G' H' p' M' s', Same G G' → Sim K G' H' p' M' s' → Only ix s s' → Q p' M' → Q' s' H'
section
variable {X : Cx} {W : WX} {elt tg iter : Expr} {ifs : List Expr} {scope : Scope} {own : List (Str × Nat)} {pos : Pos} {wi : TI} {qi : DTI} {qg : DTG} {qt : DTT} {qe : DTE}
theorem QE.can {e : Expr} (h : ∃ t, QE X W e t qe) : QE X W e (canE X.K W qe) qe := by
  obtain ⟨t, h⟩ := h
  exact ⟨⟨fun pins s σ H Q I ⟨DW, G, p, M, Qd, hw, S, hq, k⟩ => h.pe.run pins s σ H Q I (h.rf DW G H p M σ Qd Q hw S hq k)⟩, fun DW G H p M s Q Q' hw S hq k => ⟨DW, G, p, M, Q, hw, S, hq, k⟩⟩
theorem QTs.can {es : List Expr} (h : ∃ t, QTs X W es t qt) : QTs X W es (canT X.K W qt) qt := by
  obtain ⟨t, h⟩ := h
  exact ⟨⟨fun pins s σ H Q I ⟨DW, G, p, M, Qd, hw, S, hq, k⟩ => h.pe.run pins s σ H Q I (h.rf DW G H p M σ Qd Q hw S hq k)⟩, fun DW G H p M s Q Q' hw S hq k => ⟨DW, G, p, M, Q, hw, S, hq, k⟩⟩
theorem QGi.can {ix : List Nat} {e : Expr} (h : ∃ t, QGi X W ix e t qg) : QGi X W ix e (canG X.K W ix qg) qg := by
  obtain ⟨t, h⟩ := h
  exact ⟨⟨fun pins s σ H v u Q I r ⟨DW, G, p, M, d, Qd, hw, S, rd, hq, k⟩ => h.pe.run pins s σ H v u Q I r (h.rf DW G H p M σ d v Qd Q hw S rd hq k)⟩, fun DW G H p M s d v Q Q' hw S rd hq k => ⟨DW, G, p, M, d, Q, hw, S, rd, hq, k⟩⟩
theorem q_lcX (m : Bool) (hc : X.calm = true) (hN : X.N.Nodup) (hi : QI X W tg iter wi qi) (ok : BlkOk X.N X.env.scope scope own)
    (hg : ∀ (s : Shared) (H : Hp) (C : Addr) (cl : List (Str × Addr)) (fp : List Addr), ∃ t, QGi (X.blk s H scope (compEnvC scope cl C X.env) fp) W0 (own.map (·.2)) tg t qg)
    (ht : ∀ (s : Shared) (H : Hp) (C : Addr) (cl : List (Str × Addr)) (fp : List Addr), ∃ t, QTs (X.blk s H scope (compEnvC scope cl C X.env) fp) W0 ifs t qt)
    (he : ∀ (s : Shared) (H : Hp) (C : Addr) (cl : List (Str × Addr)) (fp : List Addr), ∃ t, QE (X.blk s H scope (compEnvC scope cl C X.env) fp) W0 elt t qe) (hs : ∀ x, foldedSetIterable iter X.env x = pure x := by intro _; rfl) :
    QE X W (.ListComp elt [⟨tg, iter, ifs, 0⟩] scope pos) (tLc wi (canG X.K W0 (own.map (·.2)) qg) (canT X.K W0 qt) (canE X.K W0 qe) (own.map (·.2))) (qLc m qi qg qt qe (own.map (·.2))) :=
  q_lc m hc hN hi ok (fun s H C cl fp => QGi.can (hg s H C cl fp)) (fun s H C cl fp => QTs.can (ht s H C cl fp)) (fun s H C cl fp => QE.can (he s H C cl fp)) hs
end
def spTakeL : DSp := fun ds M Q _ => ∃ (b : Addr) (g m n : Int), ds = [.ref b, .int n] ∧ M b = some (.lst [.int g, .int m]) ∧ 0 ≤ g ∧ 0 ≤ m ∧ m < 2147483648 ∧ 0 < n ∧ n < 1073741824 ∧
  ∀ g' m' r : Int, 0 ≤ g' → 0 ≤ m' → m' < 2147483648 → 0 ≤ r → r < n → Q (.int r) (put M b (.lst [.int g', .int m']))
def spTake : DSp := fun ds M Q _ => ∃ (b : Addr) (n : Int), ds = [.ref b, .int n] ∧ M b = some .bag ∧ 0 < n ∧ n < 1073741824 ∧ ∀ r : Int, 0 ≤ r → r < n → Q (.int r) M
def spBagL : DSp := fun ds M Q _ => ∃ (ns : List Int) (i : Int), ds = [.scr ns, .int i] ∧ 0 ≤ i ∧ i < 10000 ∧ ∀ (p : Addr) (g m : Int), M p = none → 0 ≤ g → 0 ≤ m → m < 2147483648 → Q (.ref p) (put M p (.lst [.int g, .int m]))
def spBag : DSp := fun ds M Q _ => ∃ (ns : List Int) (i : Int), ds = [.scr ns, .int i] ∧ 0 ≤ i ∧ i < 10000 ∧ ∀ p : Addr, M p = none → Q (.ref p) (put M p .bag)
theorem cpow_small {i : Int} {j : Nat} (h0 : 0 ≤ i) (h1 : i < 18446744073709551616) (hj : j ≤ 1000000) : CPow i (j : Int) := by
  refine ⟨by omega, by omega, ?_⟩
  have e : (2 : Nat) ^ 64 = 18446744073709551616 := by decide
  omega
theorem mem_bag {K : PySem.W.Frag} {G H : Hp} {M : Mst} {b : Addr} {g m : Int} (hm : MemOk K G H M) (h : M b = some (.lst [.int g, .int m])) (h0 : 0 ≤ g) (h1 : 0 ≤ m) (h2 : m < 2147483648) : MemOk K G H (put M b .bag) := fun a o e => by
  by_cases z : a = b
  · subst z
    rw [put_same] at e; cases e
    obtain ⟨gn, vs, q1, ⟨v, r, rfl, q2, ⟨u, r2, rfl, q3, q4⟩⟩, _⟩ := hm _ _ h
    cases q2; cases q3; cases q4
    exact ⟨gn, g, m, q1, h0, h1, h2⟩
  · rw [put_ne z] at e; exact hm a o e
theorem bag_mem {K : PySem.W.Frag} {G H : Hp} {M : Mst} {b : Addr} (hm : MemOk K G H M) (h : M b = some .bag) : ∃ g m : Int, 0 ≤ g ∧ 0 ≤ m ∧ m < 2147483648 ∧ MemOk K G H (put M b (.lst [.int g, .int m])) := by
  obtain ⟨gn, g, m, q1, q2, q3, q4⟩ := hm _ _ h
  refine ⟨g, m, q2, q3, q4, fun a o e => ?_⟩
  by_cases z : a = b
  · subst z
    rw [put_same] at e; cases e
    exact ⟨gn, _, q1, ⟨_, _, rfl, rfl, _, _, rfl, rfl, rfl⟩, sz1000 (by simp)⟩
  · rw [put_ne z] at e; exact hm a o e
theorem imp_take {K : PySem.W.Frag} {vs : List V} {H : Hp} {Q : VK} {E : XK} (h : toSp K spTake vs H Q E) : toSp K spTakeL vs H Q E := by
  obtain ⟨G, ds, M, Qd, Ed, e, r, hm, ⟨b, n, rfl, hb, h0, h1, k⟩, kq, ke⟩ := h
  obtain ⟨g, m, g1, g2, g3, hm'⟩ := bag_mem hm hb
  refine ⟨G, _, _, fun d M' => ∃ g' m' : Int, M' b = some (.lst [.int g', .int m']) ∧ 0 ≤ g' ∧ 0 ≤ m' ∧ m' < 2147483648 ∧ Qd d (put M' b .bag), Ed, e, r, hm', ⟨b, g, m, n, rfl, put_same, g1, g2, g3, h0, h1, fun g' m' r a1 a2 a3 a4 a5 => ?_⟩, fun G' H' v d M' e1 e2 r1 hm1 q => ?_, fun G' H' x cls dx M' e1 e2 r1 hm1 q => ke G' H' x cls dx M' e1 e2 r1 hm1 q⟩
  · refine ⟨g', m', put_same, a1, a2, a3, ?_⟩
    rw [put_put, put_put, put_id hb]
    exact k r a4 a5
  · obtain ⟨g', m', q0, q1, q2, q3, q4⟩ := q
    exact kq G' H' v d _ e1 e2 r1 (mem_bag hm1 q0 q1 q2 q3) q4
theorem imp_bag {K : PySem.W.Frag} {vs : List V} {H : Hp} {Q : VK} {E : XK} (h : toSp K spBag vs H Q E) : toSp K spBagL vs H Q E := by
  obtain ⟨G, ds, M, Qd, Ed, e, r, hm, ⟨ns, i, rfl, h0, h1, k⟩, kq, ke⟩ := h
  refine ⟨G, _, _, fun d M' => ∃ (b : Addr) (g' m' : Int), d = .ref b ∧ M' b = some (.lst [.int g', .int m']) ∧ 0 ≤ g' ∧ 0 ≤ m' ∧ m' < 2147483648 ∧ Qd d (put M' b .bag), Ed, e, r, hm, ⟨ns, i, rfl, h0, h1, fun p g m hp a1 a2 a3 => ⟨p, g, m, rfl, put_same, a1, a2, a3, ?_⟩⟩, fun G' H' v d M' e1 e2 r1 hm1 q => ?_, fun G' H' x cls dx M' e1 e2 r1 hm1 q => ke G' H' x cls dx M' e1 e2 r1 hm1 q⟩
  · rw [put_put]
    exact k p hp
  · obtain ⟨b, g', m', rfl, q0, q1, q2, q3, q4⟩ := q
    exact kq G' H' v _ _ e1 e2 r1 (mem_bag hm1 q0 q1 q2 q3) q4
end DL
namespace DL
open PySem L2
def qTakeR : DTS :=
  (qSeq (qIfS (qTB (qOp (dCmpI fun i j => decide (j < i)) (qOp dIx (qVar 0) (qC (.int 0))) (qC (.int 0))))
  (qSeq (qAsg (qOp (dInt (fun _ j => 0 < j) fun i j => i % j) (qOp dIx (qVar 0) (qC (.int 0))) (qVar 1)) (gNameD 2))
  (qSeq (qAsg (qOp (dInt CDiv fun i j => i / j) (qOp dIx (qVar 0) (qC (.int 0))) (qVar 1)) (gSubD (qVar 0) (qC (.int 0))))
  (qRet (qVar 2))))
  qNext)
  (qSeq (qAsg (qOp (dInt (fun _ j => 0 < j) fun i j => i % j) (qOp (dAdd false) (qOp (dInt CMul fun i j => i * j) (qOp dIx (qVar 0) (qC (.int 1))) (qC (.int 48271))) (qC (.int 11))) (qC (.int 2147483647))) (gSubD (qVar 0) (qC (.int 1))))
  (qRet (qOp (dInt (fun _ j => 0 < j) fun i j => i % j) (qOp (dInt (fun _ j => 0 < j) fun i j => i % j) (qOp (dInt CPow fun i j => i ^ j.toNat) (qOp (dInt CDiv fun i j => i / j) (qOp dIx (qVar 0) (qC (.int 1))) (qC (.int 8))) (qC (.int 3))) (qC (.int 2147483629))) (qVar 1)))))
theorem take_ok (ds : List D) (M : Mst) (Q : DK) (Ed : DX → Mst → Prop) (h : upSp spTakeL ds M Q Ed) : qTakeR (fun x _ M => Ed x M) (retE Q) (startD ["_law_bag_here", "_law_many", "_law_digit"] ds) M := by
  obtain ⟨Q0, E0, ⟨b, g, m, n, rfl, hb, g0, m0, m1, n0, n1, k0⟩, kq, _⟩ := h
  have k : ∀ g' m' r : Int, 0 ≤ g' → 0 ≤ m' → m' < 2147483648 → 0 ≤ r → r < n → Q (.int r) (put M b (.lst [.int g', .int m'])) := fun g' m' r a1 a2 a3 a4 a5 => kq _ _ _ (Sub.refl _) (k0 g' m' r a1 a2 a3 a4 a5)
  have ix0 : ∀ (g m : Int) (M : Mst) (Q : DK), M b = some (.lst [.int g, .int m]) → dIx (.ref b) (.int 0) M Q = Q (.int g) M := fun g m M Q h => ix_r h atI_0
  have ix1 : ∀ (g m : Int) (M : Mst) (Q : DK), M b = some (.lst [.int g, .int m]) → dIx (.ref b) (.int 1) M Q = Q (.int m) M := fun g m M Q h => ix_r h atI_1
  have st0 : ∀ (g m : Int) (M : Mst) (v : D) (R : Mst → Prop), M b = some (.lst [.int g, .int m]) → dSet (.ref b) (.int 0) v M R = R (put M b (.lst [v, .int m])) := fun g m M v R h => set_l h (j := 0) rfl
  have st1 : ∀ (g m : Int) (M : Mst) (v : D) (R : Mst → Prop), M b = some (.lst [.int g, .int m]) → dSet (.ref b) (.int 1) v M R = R (put M b (.lst [.int g, v])) := fun g m M v R h => set_l h (j := 1) rfl
  simp only [qTakeR, startD, qSeq, qIfS, qTB, qOp, qVar, qC, qAsg, gNameD, gSub_eq, qRet, qNext, retE]
  simp
  rw [ix0 g m M _ hb]
  simp [dCmpI]
  split
  · rw [ix0 g m M _ hb]
    simp [dInt, n0]
    rw [ix0 g m M _ hb]
    simp [CDiv, n0, n1]
    rw [st0 g m M _ _ hb]
    exact k _ _ _ (Int.ediv_nonneg g0 (by omega)) m0 m1 (Int.emod_nonneg _ (by omega)) (Int.emod_lt_of_pos _ n0)
  · have c1 : CMul m 48271 := .inr ⟨by decide, by decide⟩
    rw [ix1 g m M _ hb]
    simp [dInt, dAdd, c1]
    rw [st1 g m M _ _ hb]
    have z0 := Int.emod_nonneg (m * 48271 + 11) (show (2147483647 : Int) ≠ 0 by decide)
    have z1 := Int.emod_lt_of_pos (m * 48271 + 11) (show (0 : Int) < 2147483647 by decide)
    generalize (m * 48271 + 11) % 2147483647 = m2 at z0 z1 ⊢
    rw [ix1 g m2 _ _ put_same]
    have c2 : CDiv m2 8 := ⟨by decide, by decide⟩
    have c3 : CPow (m2 / 8) 3 := cpow_small (j := 3) (by omega) (by omega) (by decide)
    simp [c2, c3, n0]
    exact k _ _ _ g0 z0 (by omega) (Int.emod_nonneg _ (by omega)) (Int.emod_lt_of_pos _ n0)
theorem set3_ (a b c d : D) (x : Int) : [some a, some b, some (.int x), some c, none].set 3 (some d) = [some a, some b, some (.int x), some d, none] := rfl
theorem abs_set (DW : DWt) (DE : DEnds) (a b c d : D) (x : Int) (M : Mst) : qAsg (qCB dAbs (qCons (qVar 2) qNil)) (gNameD 3) DW DE [some a, some b, some (.int x), some c, none] M = DE.nx [some a, some b, some (.int x), some (.int (if x < 0 then -x else x)), none] M := by
  unfold qAsg qCB qCons qNil gNameD qVar
  simp only [List.getElem?_cons_zero, List.getElem?_cons_succ]
  rw [dAbs_i, set3_]
end DL
namespace DL
open PySem L2
inductive All2 {α β : Type} (P : α → β → Prop) : List α → List β → Prop
  | nil : All2 P [] []
  | cons {a b as bs} : P a b → All2 P as bs → All2 P (a :: as) (b :: bs)
theorem All2.length {α β : Type} {P : α → β → Prop} {as : List α} {bs : List β} (h : All2 P as bs) : bs.length = as.length := by
  induction h with
  | nil => rfl
  | cons _ _ ih => simp [ih]
theorem All2.eq_map {α β : Type} {f : α → β} {as : List α} {bs : List β} (h : All2 (fun a b => b = f a) as bs) : bs = as.map f := by
  induction h with
  | nil => rfl
  | cons h _ ih => rw [h, ih]; rfl
theorem All2.get {α β : Type} {P : α → β → Prop} {as : List α} {bs : List β} (h : All2 P as bs) : ∀ (i : Nat) (a : α), as[i]? = some a → ∃ b, bs[i]? = some b ∧ P a b := by
  induction h with
  | nil => intro i a e; simp at e
  | cons h _ ih =>
    intro i a e
    cases i with
    | zero => simp at e; subst e; exact ⟨_, rfl, h⟩
    | succ i => simp at e; obtain ⟨b, h1, h2⟩ := ih i a e; exact ⟨b, by simpa using h1, h2⟩
theorem compL_rel {m : Bool} {Sty : Mst → Prop} {g : DTG} {tt : DTT} {te : DTE} {ix : List Nat} {a : Addr} {p : Rho} {Q : DK} {M : Mst} (hm : M a = none) (P : D → Option D → Prop) (hS : ∀ acc, Sty (put M a (.lst acc))) :
    ∀ (ds acc : List D), acc.length + ds.length ≤ 100000 →
      (∀ d ∈ ds, ∀ (acc : List D) (R : Option D → Mst → Prop), (∀ o, P d o → R o (put M a (.lst acc))) → g d DW0 (wipeD p ix) (put M a (.lst acc)) fun p2 M2 => tt DW0 p2 M2 fun b M3 => if b = true then te DW0 p2 M3 fun y M4 => R (some y) M4 else R none M3) →
      (∀ os : List (Option D), All2 P ds os → if m = true then Q (.ref a) (put M a (.lst (acc ++ os.filterMap id))) else Q (.lst (acc ++ os.filterMap id)) M) → compL m Sty g tt te ix a p Q ds (put M a (.lst acc))
  | [], acc, _, _, fin => by
    have := fin [] .nil
    refine ⟨hS acc, ?_⟩
    rw [put_same]
    simp only [List.filterMap_nil, List.append_nil] at this
    cases m with
    | true => exact this
    | false =>
      rw [if_neg Bool.false_ne_true] at this
      show (if false = true then Q (.ref a) (put M a (.lst acc)) else Q (.lst acc) (del (put M a (.lst acc)) a))
      rw [if_neg Bool.false_ne_true, del_put hm]; exact this
  | d :: ds, acc, hl, step, fin => by
    refine ⟨hS acc, ?_⟩
    simp only [List.length_cons] at hl
    have ih := compL_rel (m := m) (Sty := Sty) (g := g) (tt := tt) (te := te) (ix := ix) (p := p) (Q := Q) hm P hS ds
    refine step d (List.mem_cons_self ..) acc (fun o M' => match o with
      | some y => (match M' a with
        | some (.lst acc) => acc.length < 100000 ∧ compL m Sty g tt te ix a p Q ds (put M' a (.lst (acc ++ [y])))
        | _ => False)
      | none => compL m Sty g tt te ix a p Q ds M') fun o ho => ?_
    cases o with
    | some y =>
      simp only [put_same, put_put]
      refine ⟨by omega, ih (acc ++ [y]) (by simp; omega) (fun d hd => step d (List.mem_cons_of_mem _ hd)) fun os hos => ?_⟩
      have := fin (some y :: os) (.cons ho hos)
      simpa [List.filterMap_cons] using this
    | none =>
      refine ih acc (by omega) (fun d hd => step d (List.mem_cons_of_mem _ hd)) fun os hos => ?_
      have := fin (none :: os) (.cons ho hos)
      simpa [List.filterMap_cons] using this
/-- a comprehension of every item's own value -/
theorem compL_map {m : Bool} {Sty : Mst → Prop} {g : DTG} {tt : DTT} {te : DTE} {ix : List Nat} {a : Addr} {p : Rho} {Q : DK} {M : Mst} (hm : M a = none) (f : D → Option D) (hS : ∀ acc, Sty (put M a (.lst acc)))
    {ds : List D} (hl : ds.length ≤ 100000)
    (step : ∀ d ∈ ds, ∀ (acc : List D) (R : Option D → Mst → Prop), R (f d) (put M a (.lst acc)) → g d DW0 (wipeD p ix) (put M a (.lst acc)) fun p2 M2 => tt DW0 p2 M2 fun b M3 => if b = true then te DW0 p2 M3 fun y M4 => R (some y) M4 else R none M3)
    (fin : if m = true then Q (.ref a) (put M a (.lst (ds.filterMap f))) else Q (.lst (ds.filterMap f)) M) : compL m Sty g tt te ix a p Q ds (put M a (.lst [])) := by
  refine compL_rel hm (fun d o => o = f d) hS ds [] (by simpa using hl) (fun d hd acc R h => step d hd acc R (h _ rfl)) fun os hos => ?_
  rw [hos.eq_map]
  have e : (ds.map f).filterMap id = ds.filterMap f := by rw [List.filterMap_map]; rfl
  simpa [e] using fin
theorem loopL_inv {Sty : Mst → Prop} {g : DTG} {tb : DTS} {DW : DWt} {DE : DEnds} (I : Nat → Rho → Mst → Prop) {ds : List D} {n : Nat} (hn : n = ds.length)
    (step : ∀ i d p M (R : Rho → Mst → Prop), ds[i]? = some d → I i p M → (∀ p' M', I (i + 1) p' M' → R p' M') → Sty M ∧ g d DW p M fun p' M' => tb DW { DE with nx := R, ct := R, bk := DE.nx } p' M')
    (fin : ∀ p M, I n p M → Sty M ∧ DE.nx p M) {p : Rho} {M : Mst} (h : I 0 p M) : loopL Sty g tb DW DE ds p M := by
  have main : ∀ k i p M, i + k = ds.length → I i p M → loopL Sty g tb DW DE (ds.drop i) p M := by
    intro k
    induction k with
    | zero =>
      intro i p M e h
      have e' : i = ds.length := by omega
      subst e'
      rw [List.drop_length]
      exact fin p M (by rw [hn]; exact h)
    | succ k ih =>
      intro i p M e h
      have hi : i < ds.length := by omega
      rw [List.drop_eq_getElem_cons hi]
      exact step i ds[i] p M _ (List.getElem?_eq_getElem hi) h fun p' M' h' => ih (i + 1) p' M' (by omega) h'
  simpa using main ds.length 0 p M (by omega) h
theorem isDataL_all : ∀ ds : List D, isDataL ds = ds.all isData
  | [] => rfl
  | d :: ds => by simp [isDataL, isDataL_all ds]
theorem dep_nil : dep (.lst []) ≤ 64 := by decide
theorem deq_nil (xs : List D) : deq (.lst xs) (.lst []) = xs.isEmpty := by
  unfold deq
  cases xs <;> simp [pyd, pydL, PyData.eqv, PyData.eqvAll]
theorem eq_nil {neg : Bool} {x : D} {ds : List D} {M : Mst} {Q : DK} (hx : res M x = .lst ds) (h : ds.all isData = true) : dEq neg x (.lst []) M Q = Q (.bl (xor neg ds.isEmpty)) M := by
  unfold dEq
  rw [hx, res_lst, deq_nil]
  have h1 : isData (.lst ds) = true := by rw [isData, isDataL_all]; exact h
  have h2 : isData (.lst []) = true := rfl
  have h3 : min (dep (.lst ds)) (dep (.lst [])) ≤ 64 := Nat.le_trans (Nat.min_le_right _ _) dep_nil
  simp [h1, h2, h3]
theorem deq_int (i j : Int) : deq (.int i) (.int j) = decide (i = j) := by
  unfold deq; simp only [pyd, PyData.eqv]
  exact Bool.beq_eq_decide_eq _ _
theorem eq_int {neg : Bool} {i j : Int} {M : Mst} {Q : DK} : dEq neg (.int i) (.int j) M Q = Q (.bl (xor neg (decide (i = j)))) M := by
  unfold dEq
  rw [res_int, res_int, deq_int]
  have h1 : isData (.int i) = true := rfl
  have h2 : isData (.int j) = true := rfl
  have h3 : min (dep (.int i)) (dep (.int j)) ≤ 64 := by simp [dep, pyd, PyData.depth]
  simp [h1, h2, h3]
theorem res_r {M : Mst} {a : Addr} {ds : List D} (h : M a = some (.lst ds)) : res M (.ref a) = .lst ds := by simp [res, h]
theorem cut_from {α : Type} (xs : List α) (k : Nat) : cutX xs (some (k : Int)) none = xs.drop k := by
  unfold cutX
  rw [HT.sIx_nat, HT.sIx_none]
  rcases Nat.le_total k xs.length with h | h
  · rw [Nat.min_eq_left h, List.take_of_length_le (by simp)]
  · rw [Nat.min_eq_right h, List.drop_length, List.drop_eq_nil_of_le h]; simp
theorem cut_to {α : Type} (xs : List α) (k : Nat) : cutX xs none (some (k : Int)) = xs.take k := by
  unfold cutX
  rw [HT.sIx_nat, HT.sIx_none, Nat.sub_zero, List.drop_zero]
  rcases Nat.le_total k xs.length with h | h
  · rw [Nat.min_eq_left h]
  · rw [Nat.min_eq_right h, List.take_length, List.take_of_length_le h]
theorem data_ints (ns : List Int) : (ns.map D.int).all isData = true := List.all_eq_true.mpr fun x hx => by
  obtain ⟨n, _, rfl⟩ := List.mem_map.mp hx; rfl
end DL
namespace DL
open PySem L2
section
variable {X : Cx}
theorem pairs_vals {pins : List (Addr × Obj)} {σ : L2.St} {H : Hp} {s : Shared} (I : Inv X pins σ H s) : ∀ {ps : List Addr} {kvs : List (Key × V)}, Paired (fun p kv => SqT X.K H p [kV kv.1, kv.2]) ps kvs →
    ∃ (prs : List (Key × Value)) (vps : List (Value × Value)), KV kvs prs ∧ prs.length = ps.length ∧ vps.length = ps.length ∧
      (∀ (j : Nat) (k v : Value), vps[j]? = some (k, v) → ∃ (b : Addr) (q : Key), ps[j]? = some b ∧ s.heap.IsTuple b #[k, v] ∧ prs[j]? = some (q, v) ∧ keyIs q k = true)
  | _, _, .nil => ⟨[], [], .nil, rfl, rfl, fun j k v e => by simp at e⟩
  | _, _, .cons (a := p) (b := kv) h t => by
    obtain ⟨prs, vps, r, hl, hl2, hp⟩ := pairs_vals I t
    obtain ⟨its, rv, ht, _⟩ := I.tuple h
    obtain ⟨u, y, ei, ru, ry⟩ := vals2 rv
    subst ei
    refine ⟨(kv.1, y) :: prs, (u, y) :: vps, .cons ⟨rfl, ry⟩ r, by simp [hl], by simp [hl2], fun j k v e => ?_⟩
    cases j with
    | zero =>
      have e' : (u, y) = (k, v) := Option.some.inj e
      cases e'
      exact ⟨p, kv.1, rfl, ht, rfl, kV_is (P := X.prog) (w := X.w) ru⟩
    | succ j =>
      obtain ⟨b, q, e1, e2, e3, e4⟩ := hp j k v (by simpa using e)
      exact ⟨b, q, by simpa using e1, e2, by simpa using e3, e4⟩
end
def pairsD : List D → Option (List (Key × D))
  | [] => some []
  | .tup [k, v] :: ds => match keyD k, pairsD ds with
    | some k, some r => some ((k, v) :: r)
    | _, _ => none
  | _ :: _ => none
def putAllD (kvs : List (Key × D)) (more : List (Key × D)) : List (Key × D) := more.foldl (fun acc q => putD acc q.1 q.2) kvs
theorem pairsD_of {K : PySem.W.Frag} {G H : Hp} (e : Same G H) : ∀ {ds : List D} {vs : List V} {more : List (Key × D)}, RepL K G ds vs → pairsD ds = some more →
    ∃ (ps : List Addr) (mv : List (Key × V)), vs = ps.map V.ref ∧ Paired (fun p kv => SqT K H p [kV kv.1, kv.2]) ps mv ∧ mv.map (·.1) = more.map (·.1) ∧ RepL K G (more.map (·.2)) (mv.map (·.2)) ∧ ∀ q ∈ more, kOk q.1
  | [], _, more, r, h => by
    cases r; cases h
    exact ⟨[], [], rfl, .nil, rfl, rfl, fun _ h => (by cases h)⟩
  | d :: ds, _, more, ⟨v, vs, e1, r1, r2⟩, h => by
    cases d with
    | tup xs =>
      match xs with
      | [k, x] =>
        simp only [pairsD] at h
        split at h
        · next k' r' hk hr =>
          cases h
          obtain ⟨ps, mv, q1, q2, q3, q4, q5⟩ := pairsD_of e r2 hr
          obtain ⟨a, us, rfl, g1, g2, g3⟩ := r1
          obtain ⟨u, y, rfl, ru, ry⟩ := repL2 g2
          have eu := keyD_of ru hk
          subst eu
          exact ⟨a :: ps, (k', y) :: mv, by rw [e1, q1]; rfl, .cons (.inl (.inl (e _ _ g1))) q2, by simp [q3], RepL.cons ry q4, fun q hq => by
            rcases List.mem_cons.mp hq with rfl | hq
            · exact kOk_of ru hk
            · exact q5 q hq⟩
        · cases h
      | [] => cases h
      | [_] => cases h
      | _ :: _ :: _ :: _ => cases h
    | _ => cases h
theorem putAll_rel {K : PySem.W.Frag} {G : Hp} : ∀ {more : List (Key × D)} {mv : List (Key × V)} {kvs : List (Key × D)} {kv : List (Key × V)}, mv.map (·.1) = more.map (·.1) → RepL K G (more.map (·.2)) (mv.map (·.2)) →
    kv.map (·.1) = kvs.map (·.1) → RepL K G (kvs.map (·.2)) (kv.map (·.2)) → (mergeK kv mv).map (·.1) = (putAllD kvs more).map (·.1) ∧ RepL K G ((putAllD kvs more).map (·.2)) ((mergeK kv mv).map (·.2))
  | [], mv, kvs, kv, h1, r1, h2, r2 => by
    cases mv with
    | nil => exact ⟨h2, r2⟩
    | cons _ _ => cases h1
  | q :: more, mv, kvs, kv, h1, r1, h2, r2 => by
    cases mv with
    | nil => cases h1
    | cons p mv =>
      simp only [List.map_cons, List.cons.injEq] at h1
      obtain ⟨v, r', e, h3, h4⟩ := r1
      simp only [List.map_cons, List.cons.injEq] at e
      obtain ⟨rfl, rfl⟩ := e
      obtain ⟨z1, z2, _⟩ := put_rel (k := q.1) h2 r2 h3
      have e0 : mergeK kv (p :: mv) = mergeK (putK kv q.1 p.2) mv := by rw [← h1.1]; rfl
      rw [e0]
      exact putAll_rel (more := more) (kvs := putD kvs q.1 q.2) h1.2 h4 z1 z2
theorem putAll_keys {P : Key → Prop} : ∀ {more kvs : List (Key × D)}, (∀ q ∈ kvs, P q.1) → (∀ q ∈ more, P q.1) → ∀ q ∈ putAllD kvs more, P q.1
  | [], kvs, h, _ => h
  | q :: more, kvs, h, g => putAll_keys (more := more) (kvs := putD kvs q.1 q.2) (putD_keys h (g q (List.mem_cons_self ..))) fun x hx => g x (List.mem_cons_of_mem _ hx)
/-- d.m(e, ..), d a dict that may change -/
def qBMD (m : DMt) (qo : DTE) (qa : DTA) : DTE := fun DW p M Q => qo DW p M fun x M1 => (∃ a kvs, x = .ref a ∧ M1 a = some (.dK kvs)) ∧ qa DW p M1 fun ds M2 => m x ds M2 Q
section
variable {X : Cx} {W : WX} {o e : Expr} {es : List Expr} {to : TE} {qo : DTE} {t : TA} {qa : DTA} {name : Str} {apos cpos : Pos} {id : String} {r : V → List V → Hp → VK → Prop} {m : DMt}
theorem q_bmD (pa : PlainAttrs "dict") (slot : Slot "dict" name id) (hty : typeOf (.builtin id) = pure (.type "method_descriptor")) (hm : QMt X id r m) (ho : QE X W o to qo) (ha : QA X W (e :: es) t qa)
    (hbase : attributeBase o name X.env (eval o X.env) = eval o X.env := by rfl)
    (hfew : ((backTo cpos (starEach (e :: es) X.env)).all (fun x => !x.1) && (backToKw cpos (keywordEach [] X.env)).all (fun x => x.1.isSome)
      && decide ((e :: es).length + ([] : List Keyword).length + (if ([] : List Keyword).isEmpty then 0 else 1) < 30)) = true := by rfl)
    (hline : (apos.endLine == cpos.line) = true := by rfl) (hs : starEach (e :: es) X.env = (false, eval e X.env) :: starEach es X.env := by rfl) (hplain : (backTo cpos (starEach es X.env)).any (·.1) = false := by rfl) :
    QE X W (.Call (.Attribute o name apos) (e :: es) [] cpos) (tBM X.K "dict" r to t) (qBMD m qo qa) :=
  ⟨pe_bm pa slot hty hm.op ho.pe ha.pe hbase hfew hline hs hplain, fun DW G H p M s Q Q' hw S h k => ho.rf DW G H p M s _ _ hw S h fun G1 H1 M1 x v e1 S1 r1 ⟨⟨a, kvs, ex, em⟩, h1⟩ => ⟨by
    subst ex
    cases r1
    obtain ⟨_, kv, g1, _⟩ := S1.mem _ _ em
    exact .inr (.inr (.inl ⟨rfl, .inl ⟨kv, g1⟩⟩)),
    ha.rf DW G1 H1 p M1 s _ _ (hw.mono e1) S1 h1 fun G2 H2 M2 ds vs e2 S2 r2 h2 => hm.rf G2 H2 p M2 s x v ds vs Q Q' S2 (Rep.mono e2 _ _ r1) r2 h2 fun G' H' M' d w e3 => k G' H' M' d w ((e1.trans e2).trans e3)⟩⟩
end
structure QK (X : Cx) (W : WX) (kws : List Keyword) (t : TA) (q : DTA) : Prop where
  pe : PK X kws t
  rf : RefA X.K W t q
section
variable {X : Cx} {W : WX} {k : Nat} {f : Addr} {fd : FuncData} {ps ks : List Str} {P : DSp} {x : Str} {p pos kpos : Pos} {e : Expr} {es : List Expr} {kws : List Keyword} {te : TE} {qe : DTE} {t tk : TA} {q qk : DTA} {nm : Option Str} {n : Nat} {idx : List Nat}
theorem qk_nil : QK X W [] tNil qNil := ⟨pk_nil, fun DW G H p M s Q Q' hw S q k => k G H M [] [] (Same.refl _) S rfl q⟩
theorem qk_cons (ha : QE X W e te qe) (hr : QK X W kws t q) : QK X W (⟨nm, e, kpos⟩ :: kws) (tCons te t) (qCons qe q) :=
  ⟨pk_cons ha.pe hr.pe, fun DW G H p M s Q Q' hw S h k => ha.rf DW G H p M s _ _ hw S h fun G1 H1 M1 d v e1 S1 r1 h1 =>
    hr.rf DW G1 H1 p M1 s _ _ (hw.mono e1) S1 h1 fun G2 H2 M2 ds vs e2 S2 r2 h2 => k G2 H2 M2 _ _ (e1.trans e2) S2 (RepL.cons (Rep.mono e2 _ _ r1) r2) h2⟩
end
end DL
namespace DL
open PySem L2
mutual
theorem deq_refl : ∀ d : D, isData d = true → deq d d = true
  | .non, _ => by simp [deq, pyd, PyData.eqv]
  | .bl b, _ => by simp [deq, pyd, PyData.eqv]
  | .int i, _ => by simp [deq, pyd, PyData.eqv]
  | .str x, _ => by simp [deq, pyd, PyData.eqv]
  | .tup ds, h => by have := deqL_refl ds h; simpa [deq, deqL, pyd, PyData.eqv] using this
  | .ktp ds, h => by have := deqL_refl ds h; simpa [deq, deqL, pyd, PyData.eqv] using this
  | .xtp ds, h => by have := deqL_refl ds h; simpa [deq, deqL, pyd, PyData.eqv] using this
  | .lst ds, h => by have := deqL_refl ds h; simpa [deq, deqL, pyd, PyData.eqv] using this
  | .scr _, h => by cases h
  | .ty _, h => by cases h
  | .ref _, h => by cases h
  | .dct _ _, h => by cases h
  | .ins _ _ _, h => by cases h
  | .exc _ _ _ _, h => by cases h
  | .fnv _ _ _ _ _, h => by cases h
theorem deqL_refl : ∀ ds : List D, isDataL ds = true → deqL ds ds = true
  | [], _ => by simp [deqL, pydL, PyData.eqvAll]
  | d :: ds, h => by
    have h' : isData d = true ∧ isDataL ds = true := by simpa [isDataL] using h
    have h1 := deq_refl d h'.1
    have h2 := deqL_refl ds h'.2
    simp only [deq, deqL, pydL, PyData.eqvAll] at h1 h2 ⊢
    rw [h1, h2]; rfl
end
theorem deq_str (x y : Str) : deq (.str x) (.str y) = decide (x = y) := by
  unfold deq; simp only [pyd, PyData.eqv]; exact Bool.beq_eq_decide_eq _ _
theorem deq_bl (x y : Bool) : deq (.bl x) (.bl y) = decide (x = y) := by
  unfold deq; simp only [pyd, PyData.eqv]; exact Bool.beq_eq_decide_eq _ _
theorem depA_le {n : Nat} : ∀ ds : List D, (∀ d ∈ ds, dep d ≤ n) → PyData.depthAll (pydL ds) ≤ n
  | [], _ => by simp [pydL, PyData.depthAll]
  | d :: ds, h => by
    have h1 := h d (List.mem_cons_self ..)
    have h2 := depA_le ds fun x hx => h x (List.mem_cons_of_mem _ hx)
    unfold dep at h1
    simp only [pydL, PyData.depthAll]
    omega
theorem dep_lst {n : Nat} {ds : List D} (h : ∀ d ∈ ds, dep d ≤ n) : dep (.lst ds) ≤ n + 1 := by
  have := depA_le ds h
  simp only [dep, pyd, PyData.depth]; omega
/-- == of what is the same -/
theorem eq_same {neg : Bool} {x y d : D} {M : Mst} {Q : DK} (hx : res M x = d) (hy : res M y = d) (h : isData d = true) (hd : dep d ≤ 64) : dEq neg x y M Q = Q (.bl (!neg)) M := by
  unfold dEq
  rw [hx, hy, deq_refl d h]
  have h3 : min (dep d) (dep d) ≤ 64 := Nat.le_trans (Nat.min_le_left _ _) hd
  simp only [h, h3, Bool.xor_true, true_and]
theorem eq_str {neg : Bool} {x y : Str} {M : Mst} {Q : DK} : dEq neg (.str x) (.str y) M Q = Q (.bl (xor neg (decide (x = y)))) M := by
  unfold dEq
  rw [res_str, res_str, deq_str]
  have h1 : isData (.str x) = true := rfl
  have h2 : isData (.str y) = true := rfl
  have h3 : min (dep (.str x)) (dep (.str y)) ≤ 64 := by simp [dep, pyd, PyData.depth]
  simp [h1, h2, h3]
/-- isinstance(x, T) -/
theorem isi_one {x : D} {T : String} {b : Bool} {M : Mst} {Q : DK} (h : hasTy (res M x) = true) (hb : isiB (tyD (res M x)) T = some b) : dIsi [x, .ty T] M Q = Q (.bl b) M := by
  unfold dIsi; simp only [h, hb, true_and]
theorem isi_tup {x : D} {Ts : List D} {b : Bool} {M : Mst} {Q : DK} (h : hasTy (res M x) = true) (hb : isiL (tyD (res M x)) Ts = some b) : dIsi [x, .tup Ts] M Q = Q (.bl b) M := by
  unfold dIsi; simp only [h, hb, true_and]
theorem tl : isiB "tuple" "list" = some false := by decide +kernel
/-- all(list of truths) -/
theorem all_bls {bs : List Bool} {M : Mst} {Q : DK} : dAll [.lst (bs.map D.bl)] M Q = Q (.bl (bs.all id)) M := by
  have h : blsD (bs.map D.bl) = some bs := by
    have := blsD_map (id : Bool → Bool) bs
    simpa using this
  unfold dAll
  simp only [res_lst, h]
section
variable {P : Program} {w : World} {K : PySem.W.Frag} {mg : Str → Option Value} {base : Heap}
theorem fn_void {k : Nat} {f : Addr} {fd : FuncData} {ps : List Str} {p : DSp} (h : ∀ ds M Q E, ¬ p ds M Q E) : FnOk P w K mg base (L2.CX P w) k f fd ps (toSp K p) :=
  ⟨fun _ _ _ _ q => by
    obtain ⟨_, ds, M, Qd, Ed, _, _, _, hp, _⟩ := q
    exact (h _ _ _ _ hp).elim, fun _ _ _ _ _ _ _ _ _ _ _ _ _ hs => by
    obtain ⟨_, ds, M, Qd, Ed, _, _, _, hp, _⟩ := hs
    exact (h _ _ _ _ hp).elim⟩
end
end DL
namespace DL
open PySem L2
def okS (z : Str) : Prop := z.length ≤ 100000 ∧ PyData.strOk z = true
theorem okS_rep {K : PySem.W.Frag} {G : Hp} {z : Str} (h : okS z) : Rep K G (.str z) (.str z) := ⟨rfl, sz1000 h.1, h.2⟩
theorem hz24 : sizeLine = 16777216 := by rw [sizeLine_eq]
theorem MtR.imp {X : Cx} {id : String} {r r' : V → List V → Hp → VK → Prop} (h : MtR X id r) (i : ∀ x xs H Q, r' x xs H Q → r x xs H Q) : MtR X id r' := fun pins s σ H x xs v us Q I rx rs q => h pins s σ H x xs v us Q I rx rs (i _ _ _ _ q)
def strsD : List D → Option (List Str)
  | [] => some []
  | .str x :: ds => (strsD ds).map (x :: ·)
  | _ :: _ => none
@[simp] theorem strsD_map : ∀ ys : List Str, strsD (ys.map D.str) = some ys
  | [] => rfl
  | y :: ys => by simp [strsD, strsD_map ys]
theorem strsD_of {K : PySem.W.Frag} {G : Hp} : ∀ {ds : List D} {vs : List V} {ys : List Str}, RepL K G ds vs → strsD ds = some ys → vs = ys.map V.str
  | [], _, _, r, h => by cases r; cases h; rfl
  | d :: ds, _, ys, ⟨v, r, e1, r1, r2⟩, h => by
    cases d with
    | str x =>
      simp only [strsD, Option.map_eq_some_iff] at h
      obtain ⟨zs, h1, rfl⟩ := h
      obtain ⟨rfl, _⟩ := r1
      rw [e1, strsD_of r2 h1]; rfl
    | _ => cases h
def rJoin (K : PySem.W.Frag) : V → List V → Hp → VK → Prop := fun x xs H Q => ∃ a p, ∃ ys : List Str, x = .str a ∧ xs = [.ref p] ∧ SqL K H p (ys.map V.str) ∧ (ys.map (·.length)).sum + ys.length * a.length ≤ 100000 ∧ Q (.str (Txt.join a ys)) H
/-- sep.join(a list of texts) -/
def mJoin : DMt := fun x ds M Q => match res M x, ds with
  | .str z, [d] => match res M d with
    | .lst es => match strsD es with
      | some ys => (ys.map (·.length)).sum + ys.length * z.length ≤ 100000 ∧ okS (Txt.join z ys) ∧ Q (.str (Txt.join z ys)) M
      | none => False
    | _ => False
  | _, _ => False
theorem m_join {X : Cx} : QMt X "str.join" (rJoin X.K) mJoin := ⟨MtR.imp mt_join fun x xs H Q ⟨a, p, ys, e1, e2, e3, e4, q⟩ => ⟨a, p, ys, e1, e2, .inl e3, by omega, q⟩, fun G H p M s x v ds vs Q Q' S r1 r2 h k => by
  unfold mJoin at h
  split at h
  · next z d e =>
    obtain ⟨rfl, _, _⟩ := as_str r1 e
    obtain ⟨u, rfl, r3⟩ := repL1 r2
    split at h
    · next es ed =>
      obtain ⟨a, vs, rfl, h1, h2, _⟩ := as_lst S r3 ed
      split at h
      · next ys ey =>
        have ev := strsD_of h2 ey
        subst ev
        obtain ⟨g1, g2, g3⟩ := h
        exact ⟨z, a, ys, rfl, rfl, .inl (.inl h1), g1, k G H M (.str (Txt.join z ys)) _ (Same.refl _) S (okS_rep g2) g3⟩
      · exact h.elim
    · exact h.elim
  · exact h.elim⟩
def repS (z : Str) (n : Int) : Str := ⟨(List.replicate n.toNat z.cps).foldl (· ++ ·) #[]⟩
def rMulS : R2 := fun x y H Q => ∃ (z : Str) (n : Int), x = .str z ∧ y = .int n ∧ -(2 ^ 62) ≤ n ∧ n ≤ 100000 ∧ z.length * n.toNat ≤ 100000 ∧ Q (.str (repS z n)) H
theorem fold_size (a : Array Nat) : ∀ (k : Nat) (acc : Array Nat), ((List.replicate k a).foldl (· ++ ·) acc).size = acc.size + k * a.size
  | 0, acc => by simp
  | k + 1, acc => by
    rw [List.replicate_succ, List.foldl_cons, fold_size a k, Array.size_append, Nat.succ_mul]; omega
theorem op_mulS {X : Cx} : OpR X (binaryOp .Mult) rMulS := by
  intro pins s σ H x y v u Q I rx ry h
  obtain ⟨z, n, rfl, rfl, h1, h2, h3, q⟩ := h
  obtain ⟨t, rfl⟩ := rx
  obtain ⟨t2, rfl⟩ := ry
  have hz := hz24
  refine P.mul_str ?_ (fun a1 a2 => ?_) (fun a1 a2 => ?_) ?_
  · have e1 : ¬ n < -(2 ^ 63 : Int) := by omega
    have e2 : ¬ n ≥ 2 ^ 63 := by omega
    rw [decide_eq_false e1, decide_eq_false e2]; rfl
  · intro z1
    have e : (2 ^ 63 - 1 : Int) / n ≥ (z.length : Int) := by
      refine Int.le_ediv_of_mul_le (by omega) ?_
      have e3 : ((z.length * n.toNat : Nat) : Int) ≤ 100000 := Int.ofNat_le.mpr h3
      have e4 : ((n.toNat : Nat) : Int) = n := by omega
      rw [Int.natCast_mul, e4] at e3
      omega
    omega
  · unfold Builtin.Str.tooLong
    exact decide_eq_false (by rw [hz]; omega)
  · split
    · next hn =>
      have e : n.toNat = 0 := by omega
      have e2 : repS z n = Str.empty := by unfold repS; rw [e]; rfl
      exact ⟨by decide, .str (repS z n), H, I.tok _, ⟨s.toks, by rw [e2]⟩, q⟩
    · split
      · next hn hz =>
        refine ⟨.str (repS z n), H, I, ⟨t, ?_⟩, q⟩
        have e : repS z n = z := by
          rw [Bool.or_eq_true] at hz
          rcases hz with hz | hz
          · have e1 : n = 1 := by simpa using hz
            subst e1
            show (⟨#[] ++ z.cps⟩ : Str) = z
            simp
          · have e1 : z.cps.size = 0 := by
              have e0 : z.length = 0 := by simpa using hz
              exact e0
            have e2 : z.cps = #[] := Array.eq_empty_of_size_eq_zero e1
            have e3 : z = ⟨#[]⟩ := by cases z; simp at e2; rw [e2]
            rw [e3]; unfold repS
            generalize n.toNat = k
            have : ∀ k : Nat, (List.replicate k (#[] : Array Nat)).foldl (· ++ ·) #[] = #[] := fun k => by
              induction k with
              | zero => rfl
              | succ k ih => rw [List.replicate_succ, List.foldl_cons]; simpa using ih
            rw [this]
        rw [e]
      · exact ⟨by
          show (repS z n).length ≤ sizeLine
          have e : (repS z n).length = 0 + n.toNat * z.cps.size := fold_size z.cps n.toNat #[]
          have e2 : z.length = z.cps.size := rfl
          rw [e, hz, Nat.mul_comm, ← e2]; omega, .str (repS z n), H, I.tok _, ⟨_, rfl⟩, q⟩
def dMul (m : Bool) : DOp := fun x y M Q => match res M x, y with
  | .int i, .int j => CMul i j ∧ Q (.int (i * j)) M
  | .str z, .int n => -(2 ^ 62) ≤ n ∧ n ≤ 100000 ∧ z.length * n.toNat ≤ 100000 ∧ PyData.strOk (repS z n) = true ∧ Q (.str (repS z n)) M
  | .lst ds, .int n => -(2 ^ 62) ≤ n ∧ n ≤ 100000 ∧ ds.length * n.toNat ≤ 100000 ∧ newL m (List.replicate n.toNat ds).flatten M Q
  | _, _ => False
theorem repL_rep {K : PySem.W.Frag} {G : Hp} {ds : List D} {vs : List V} (r : RepL K G ds vs) : ∀ n : Nat, RepL K G (List.replicate n ds).flatten (List.replicate n vs).flatten
  | 0 => rfl
  | n + 1 => by rw [List.replicate_succ, List.replicate_succ, List.flatten_cons, List.flatten_cons]; exact RepL.append r (repL_rep r n)
theorem rep_flat_len {α : Type} (l : List α) : ∀ n : Nat, (List.replicate n l).flatten.length = l.length * n
  | 0 => rfl
  | n + 1 => by rw [List.replicate_succ, List.flatten_cons, List.length_append, rep_flat_len l n, Nat.mul_succ]; omega
def rMulX : R2 := fun x y H Q => rI CMul (fun i j => .int (i * j)) x y H Q ∨ rMulS x y H Q ∨ rRep x y H Q
theorem o_mul {X : Cx} (m : Bool) : QOp X (binaryOp .Mult) rMulX (dMul m) := ⟨OpR.or op_mul (OpR.or op_mulS op_rep), fun G H p M s x y v u Q Q' S r1 r2 h k => by
  unfold dMul at h
  split at h
  · next i j e =>
    cases as_int r1 e
    cases r2
    exact .inl ⟨i, j, rfl, rfl, h.1, k G H M (.int (i * j)) _ (Same.refl _) S rfl h.2⟩
  · next z n e =>
    obtain ⟨rfl, _, _⟩ := as_str r1 e
    cases r2
    obtain ⟨h1, h2, h3, h4, h5⟩ := h
    refine .inr (.inl ⟨z, n, rfl, rfl, h1, h2, h3, k G H M (.str (repS z n)) _ (Same.refl _) S (okS_rep ⟨?_, h4⟩) h5⟩)
    have e : (repS z n).length = 0 + n.toNat * z.cps.size := fold_size z.cps n.toNat #[]
    have e2 : z.length = z.cps.size := rfl
    rw [e, Nat.mul_comm, ← e2]; omega
  · next ds n e =>
    obtain ⟨a, vs, rfl, g1, g2, g3⟩ := as_lst S r1 e
    cases r2
    obtain ⟨h1, h2, h3, h4⟩ := h
    have hz := hz24
    have l1 := g2.length
    refine .inr (.inr ⟨a, n, vs, rfl, rfl, g1, by omega, by omega, by rw [l1]; omega, fun q hq => newL_ok S hq (repL_rep g2 _) ?_ h4 k⟩)
    rw [rep_flat_len, l1]; omega
  · exact h.elim⟩
/-- int(x) of a number, a truth, a text -/
def dIntX : DCa := fun ds M Q => match ds with
  | [x] => match res M x with
    | .int i => Q (.int i) M
    | .bl b => Q (.int (if b then 1 else 0)) M
    | .str z => match intText? z with
      | some n => z.length ≤ 640 ∧ Q (.int n) M
      | none => False
    | _ => False
  | _ => False
theorem c_intX {X : Cx} : QCa X (.type "int") (fun xs H Q => ((∃ i, xs = [.int i] ∧ Q (.int i) H) ∨ ∃ k, xs = [.bl k] ∧ Q (.int (if k then 1 else 0)) H) ∨ ∃ a n, xs = [.str a] ∧ PySem.intText? a = some n ∧ a.length ≤ 640 ∧ Q (.int n) H) dIntX :=
  ⟨CallR.or call_int1 call_int_str, fun G H p M s ds vs Q Q' S r h k => by
  unfold dIntX at h
  split at h
  · next x =>
    obtain ⟨v, rfl, r1⟩ := repL1 r
    split at h
    · next i e =>
      cases as_int r1 e
      exact .inl (.inl ⟨i, rfl, k G H M (.int i) _ (Same.refl _) S rfl h⟩)
    · next b e =>
      cases as_bl r1 e
      exact .inl (.inr ⟨b, rfl, k G H M (.int (if b then 1 else 0)) _ (Same.refl _) S rfl h⟩)
    · next z e =>
      obtain ⟨rfl, _, _⟩ := as_str r1 e
      split at h
      · next n en => exact .inr ⟨z, n, rfl, en, h.1, k G H M (.int n) _ (Same.refl _) S rfl h.2⟩
      · exact h.elim
    · exact h.elim
  · exact h.elim⟩
end DL
namespace DL
open PySem L2 PySem.NumText PySem.Calls
structure GlS (mg : Str → Option Value) (x z : Str) : Prop where
  ex : ∃ t, mg x = some (.str z t)
structure GlI (mg : Str → Option Value) (x : Str) (i : Int) : Prop where
  ex : ∃ t, mg x = some (.int i t)
section
variable {X : Cx} {W : WX} {pos : Pos}
theorem q_globS {x z : Str} (hg : Gl X x) (h : GlS X.mg x z) (hz : (decide (z.length ≤ 100000) && PyData.strOk z) = true := by decide +kernel) (hd : (x == ("__debug__" : Str)) = false := by decide) : QE X W (.Name x pos) (tC (.str z)) (qC (.str z)) := by
  obtain ⟨t, h⟩ := h.ex
  rw [Bool.and_eq_true] at hz
  exact q_glob hg h ⟨t, rfl⟩ (fun _ => ⟨rfl, sz1000 (of_decide_eq_true hz.1), hz.2⟩) hd
theorem q_globI {x : Str} {i : Int} (hg : Gl X x) (h : GlI X.mg x i) (hd : (x == ("__debug__" : Str)) = false := by decide) : QE X W (.Name x pos) (tC (.int i)) (qC (.int i)) := by
  obtain ⟨t, h⟩ := h.ex
  exact q_glob hg h ⟨t, rfl⟩ (fun _ => rfl) hd
end
structure KDic (K : PySem.W.Frag) (w : World) (mg : Str → Option Value) (x : Str) (ks : List Str) : Prop where
  ex : ∃ d, mg x = some (.ref d) ∧ He.dicW K d = some (He.keysIn w.params ks)
end DL
namespace DL
open PySem L2
def tupAt : D → Option (List D)
  | .tup ds => some ds
  | .ktp ds => some ds
  | .xtp ds => some ds
  | _ => none
theorem tupAt_of {K : PySem.W.Frag} {G : Hp} {d : D} {v : V} {ds : List D} (r : Rep K G d v) (h : tupAt d = some ds) : ∃ a vs, v = .ref a ∧ SqT K G a vs ∧ RepL K G ds vs ∧ ds.length ≤ sizeLine := by
  cases d with
  | tup es =>
    cases h
    obtain ⟨a, vs, rfl, g1, g2, g3⟩ := r
    exact ⟨a, vs, rfl, .inl (.inl g1), g2, by rw [← g2.length]; exact g3⟩
  | ktp es =>
    cases h
    obtain ⟨a, vs, rfl, g1, g2, g3⟩ := r
    exact ⟨a, vs, rfl, g1, g2, by rw [← g2.length]; exact g3⟩
  | xtp es =>
    cases h
    obtain ⟨a, o, vs, rfl, g1, g0, g2, g3⟩ := r
    exact ⟨a, vs, rfl, .inl (.inr ⟨o, g1⟩), g2, by rw [← g2.length]; exact g3⟩
  | _ => cases h
def qiZipT (qa : DTA) : DTI := fun DW p M R => qa DW p M fun ds M1 => match ds with
  | [x, y] => match tupAt x, tupAt y with
    | some es, some fs => R (zipD es fs) always M1
    | _, _ => False
  | _ => False
section
variable {X : Cx} {W : WX} {e e2 : Expr} {ta : TA} {qa : DTA} {p pos tpos : Pos} {elts : List Expr} {kk : Nat}
theorem qi_zipT (hg : Gl X "zip") (hm : X.mg "zip" = none) (ha : QA X W [e, e2] ta qa)
    (hs : starEach [e, e2] X.env = (false, eval e X.env) :: starEach [e2] X.env := by rfl) (hpl : (backTo pos (starEach [e2] X.env)).any (·.1) = false := by rfl) :
    QI X W (.Tuple elts kk tpos) (.Call (.Name "zip" p) [e, e2] [] pos) (RZ.iZipA X.K ta) (qiZipT qa) :=
  ⟨RZ.pi_zipA hg hm ha.pe hs hpl, fun DW G H p M s R R' hw S h k => ha.rf DW G H p M s _ _ hw S h fun G1 H1 M1 ds vs e1 S1 r1 h1 => by
    split at h1
    · next x y =>
      obtain ⟨v, u, rfl, r2, r3⟩ := repL2 r1
      split at h1
      · next es fs el1 el2 =>
        obtain ⟨a, us, rfl, c1, c2, len1⟩ := tupAt_of r2 el1
        obtain ⟨b, ws, rfl, d1, d2, len2⟩ := tupAt_of r3 el2
        refine ⟨a, b, us, ws, rfl, .inr ⟨same_t S1.same c1, same_t S1.same d1, k G1 H1 M1 _ _ _ e1 S1 ⟨fun G' H p M s i e S st hi => ?_, fun G' H p M s i x H' e S st y d hd => ?_, fun G' H p M s e S st => ?_⟩ (by rw [zipD_length]; omega) h1⟩⟩
        · rw [zipD_length] at hi
          obtain ⟨x, hx⟩ := get_lt (xs := us) (i := i) (by rw [c2.length]; omega)
          obtain ⟨y, hy⟩ := get_lt (xs := ws) (i := i) (by rw [d2.length]; omega)
          exact ⟨us, ws, x, y, same_t (e.trans S.same) c1, same_t (e.trans S.same) d1, hx, hy⟩
        · obtain ⟨T, x', y', rfl, hT, rfl, y1, y2⟩ := y
          rw [zipD_get] at hd
          split at hd
          · next d' d'' ed1 ed2 =>
            cases hd
            obtain ⟨w, w1, w2⟩ := c2.get ed1
            rw [y1 us (same_t (e.trans S.same) c1)] at w1; cases w1
            obtain ⟨w, w1, w3⟩ := d2.get ed2
            rw [y2 ws (same_t (e.trans S.same) d1)] at w1; cases w1
            obtain ⟨e2, S2⟩ := S.made (o := .tup [x', y']) hT
            exact ⟨_, e2, S2, T, _, rfl, upd_same, RepL.mono e2 _ _ (RepL.cons (Rep.mono e _ _ w2) (RepL.cons (Rep.mono e _ _ w3) rfl)), sz1000 (by simp)⟩
          · cases hd
        · refine ⟨us, ws, same_t (e.trans S.same) c1, same_t (e.trans S.same) d1, ?_⟩
          rw [zipD_length, c2.length, d2.length]; omega
      · exact h1.elim
    · exact h1.elim⟩
end
end DL
namespace DL
open PySem L2
def qBag2R : DTS :=
  (qSeq (qAsg (qC (.int 0)) (gNameD 2))
  (qSeq (qIfS (qTB (qOp (dCmpI fun i j => decide (i < j)) (qVar 1) (qCB dLen (qCons (qVar 0) qNil))))
  (qAsg (qOp dIx (qVar 0) (qVar 1)) (gNameD 2))
  qNext)
  (qSeq (qAsg (qC (.int 0)) (gNameD 3))
  (qSeq (qIfS (qTB (qOp (dCmpI fun i j => decide (j ≤ i)) (qCB dAbs (qCons (qVar 2) qNil)) (qOp (dInt CPow fun i j => i ^ j.toNat) (qC (.int 10)) (qC (.int 18)))))
  (qAsg (qCB dAbs (qCons (qVar 2) qNil)) (gNameD 3))
  qNext)
  (qSeq (qAsg (qLst false (qCons (qC (.int 2147483629)) (qCons (qC (.int 2147483587)) (qCons (qC (.int 2147483579)) (qCons (qC (.int 2147483563)) (qCons (qC (.int 2147483549)) (qCons (qC (.int 2147483543)) (qCons (qC (.int 2147483497)) (qCons (qC (.int 2147483489)) qNil))))))))) (gNameD 4))
  (qRet (qLst true (qCons (qVar 3) (qCons (qOp (dInt (fun _ j => 0 < j) fun i j => i % j) (qOp (dInt CPow fun i j => i ^ j.toNat) (qOp (dAdd false) (qOp (dAdd false) (qOp (dInt (fun _ j => 0 < j) fun i j => i % j) (qVar 2) (qC (.int 2147483647))) (qOp (dInt CMul fun i j => i * j) (qC (.int 104729)) (qVar 1))) (qC (.int 7))) (qC (.int 5))) (qOp dIx (qVar 4) (qOp (dInt (fun _ j => 0 < j) fun i j => i % j) (qVar 1) (qC (.int 8))))) qNil)))))))))
def bag2Tail : DTS :=
  (qSeq (qAsg (qLst false (qCons (qC (.int 2147483629)) (qCons (qC (.int 2147483587)) (qCons (qC (.int 2147483579)) (qCons (qC (.int 2147483563)) (qCons (qC (.int 2147483549)) (qCons (qC (.int 2147483543)) (qCons (qC (.int 2147483497)) (qCons (qC (.int 2147483489)) qNil))))))))) (gNameD 4))
  (qRet (qLst true (qCons (qVar 3) (qCons (qOp (dInt (fun _ j => 0 < j) fun i j => i % j) (qOp (dInt CPow fun i j => i ^ j.toNat) (qOp (dAdd false) (qOp (dAdd false) (qOp (dInt (fun _ j => 0 < j) fun i j => i % j) (qVar 2) (qC (.int 2147483647))) (qOp (dInt CMul fun i j => i * j) (qC (.int 104729)) (qVar 1))) (qC (.int 7))) (qC (.int 5))) (qOp dIx (qVar 4) (qOp (dInt (fun _ j => 0 < j) fun i j => i % j) (qVar 1) (qC (.int 8))))) qNil)))))
theorem bag2_end (c gr i : Int) (ns : List Int) (M : Mst) (Q : DK) (Ed : DX → Mst → Prop) (i0 : 0 ≤ i) (i1 : i < 10000) (g0 : 0 ≤ gr) (k : ∀ (p : Addr) (g m : Int), M p = none → 0 ≤ g → 0 ≤ m → m < 2147483648 → Q (.ref p) (put M p (.lst [.int g, .int m]))) (x5 : Option D) :
    bag2Tail (fun x _ M => Ed x M) (retE Q) [some (.scr ns), some (.int i), some (.int c), some (.int gr), x5] M := by
  simp only [bag2Tail, qSeq, qIfS, qTB, qOp, qVar, qC, qAsg, gNameD, qRet, qTup, qLst, qCons, qNil, retE, List.set_cons_zero, List.set_cons_succ, List.getElem?_cons_zero, List.getElem?_cons_succ, dInt_i, dAdd_i, newL_t]
  have z0 := Int.emod_nonneg c (show (2147483647 : Int) ≠ 0 by decide)
  have z1 := Int.emod_lt_of_pos c (show (0 : Int) < 2147483647 by decide)
  generalize c % 2147483647 = c2 at z0 z1 ⊢
  refine ⟨by simp, by decide, .inl ⟨by decide, by decide⟩, cpow_small (j := 5) (by omega) (by omega) (by decide), by decide, ?_⟩
  generalize (c2 + 104729 * i + 7) ^ Int.toNat 5 = big
  obtain ⟨x, hx, hm⟩ := atI_some (xs := [D.int 2147483629, .int 2147483587, .int 2147483579, .int 2147483563, .int 2147483549, .int 2147483543, .int 2147483497, .int 2147483489]) (i := i % 8) (Int.emod_nonneg _ (by decide)) (Int.emod_lt_of_pos _ (by decide))
  rw [ix_l hx]
  have : ∃ q : Int, x = .int q ∧ 0 < q ∧ q < 2147483648 := by
    simp only [List.mem_cons, List.not_mem_nil, or_false] at hm
    rcases hm with h | h | h | h | h | h | h | h <;> exact ⟨_, h, by decide, by decide⟩
  obtain ⟨q, rfl, q0, q1⟩ := this
  refine ⟨q0, by simp, fun p hp => k p _ _ hp g0 (Int.emod_nonneg _ (by omega)) ?_⟩
  have := Int.emod_lt_of_pos big q0
  show big % q < _
  omega
def bag2Mid (a b : Int) : DTS := (qSeq (qAsg (qC (.int 0)) (gNameD 3))
  (qSeq (qIfS (qTB (qOp (dCmpI fun i j => decide (j ≤ i)) (qCB dAbs (qCons (qVar 2) qNil)) (qOp (dInt CPow fun i j => i ^ j.toNat) (qC (.int a)) (qC (.int b)))))
  (qAsg (qCB dAbs (qCons (qVar 2) qNil)) (gNameD 3))
  qNext) bag2Tail))
theorem bag2_mid (ns : List Int) (i : Int) (M : Mst) (Q : DK) (Ed : DX → Mst → Prop) (i0 : 0 ≤ i) (i1 : i < 10000) (k : ∀ (p : Addr) (g m : Int), M p = none → 0 ≤ g → 0 ≤ m → m < 2147483648 → Q (.ref p) (put M p (.lst [.int g, .int m])))
    (a b : Int) (hab : CPow a b) (c : Int) : bag2Mid a b (fun x _ M => Ed x M) (retE Q) [some (.scr ns), some (.int i), some (.int c), none, none] M := by
  simp only [bag2Mid, qSeq, qAsg, qC, gNameD, List.set_cons_zero, List.set_cons_succ]
  simp only [qIfS, qTB, qOp]
  simp only [qCB, qCons, qVar, List.getElem?_cons_zero, List.getElem?_cons_succ]
  simp only [qNil, qC, dAbs_i, dInt_i, dCmpI_i, qNext]
  have ab : 0 ≤ if c < 0 then -c else c := by split <;> omega
  refine ⟨hab, ?_⟩
  have no : bag2Tail (fun x _ M => Ed x M) (retE Q) [some (.scr ns), some (.int i), some (.int c), some (.int 0), none] M := bag2_end c 0 i ns M Q Ed i0 i1 (by omega) k none
  have y2 : bag2Tail (fun x _ M => Ed x M) (retE Q) [some (.scr ns), some (.int i), some (.int c), some (.int (if c < 0 then -c else c)), none] M := bag2_end c _ i ns M Q Ed i0 i1 ab k none
  generalize bag2Tail = tail at no y2 ⊢
  by_cases h1 : decide (a ^ b.toNat ≤ if c < 0 then -c else c) = true
  · rw [if_pos h1]
    rw [abs_set _ _ _ _ _ .non]; exact y2
  · rw [if_neg h1]; exact no
theorem bag2_ok (ds : List D) (M : Mst) (Q : DK) (Ed : DX → Mst → Prop) (h : upSp spBagL ds M Q Ed) : qBag2R (fun x _ M => Ed x M) (retE Q) (startD ["_law_script", "_law_at", "_law_cell", "_law_great", "_law_primes"] ds) M := by
  obtain ⟨Q0, E0, ⟨ns, i, rfl, i0, i1, k0⟩, kq, _⟩ := h
  have k : ∀ (p : Addr) (g m : Int), M p = none → 0 ≤ g → 0 ≤ m → m < 2147483648 → Q (.ref p) (put M p (.lst [.int g, .int m])) := fun p g m a1 a2 a3 a4 => kq _ _ _ (Sub.refl _) (k0 p g m a1 a2 a3 a4)
  have part := bag2_mid ns i M Q Ed i0 i1 k 10 18 (cpow_small (j := 18) (by omega) (by omega) (by omega))
  show qSeq (qAsg (qC (.int 0)) (gNameD 2)) (qSeq (qIfS (qTB (qOp (dCmpI fun i j => decide (i < j)) (qVar 1) (qCB dLen (qCons (qVar 0) qNil))))
  (qAsg (qOp dIx (qVar 0) (qVar 1)) (gNameD 2))
  qNext) (bag2Mid 10 18)) _ _ [some (.scr ns), some (.int i), none, none, none] M
  generalize bag2Mid 10 18 = mid at part ⊢
  simp only [qSeq, qIfS, qTB, qOp, qVar, qC, qAsg, gNameD, qCB, qCons, qNil, qNext, List.set_cons_zero, List.set_cons_succ, List.getElem?_cons_zero, List.getElem?_cons_succ, dCmpI_i, len_s']
  by_cases h : i < (ns.length : Int)
  · rw [if_pos (by simpa using h)]
    obtain ⟨x, hx, _⟩ := atI_some (xs := ns) (i := i) i0 h
    rw [ix_s hx]
    exact part x
  · rw [if_neg (by simpa using h)]
    exact part 0
end DL
namespace Tx20
open PySem L2 DL PyProof.Rows
def Asc (x : Str) : Prop := ∀ c ∈ x.cps.toList, c < 128
theorem ok_asc {x : Str} (h : Asc x) (hl : x.length ≤ 100000) : okS x := ⟨hl, by
  unfold PyData.strOk
  rw [← Array.all_toList, List.all_eq_true]
  intro c hc
  have := h c hc
  exact decide_eq_true (by omega)⟩
/-- x read up to here: the words done, the word begun -/
structure St (x : Str) (done : List Str) (cur : Str) : Prop where
  asc : Asc x
  at_ : KWd.scan (Txt.lower x) = (done, cur)
end Tx20
set_option maxHeartbeats 4000000
namespace DL
open PySem PySem.Spec PyProof.Rows L2
/-- a built-in exception class B over which own ones stand -/
def IniX (n i : String) (tl : List Value) : Prop := ∀ {prog : Program} {w : World} {A : Around} {R : Result → Shared → Prop} {h : Heap} {g : Array GenState} {d : Drawn} {t : Nat} {os : OsState} {nm q : Str} {C N : Addr} {bs bm : List Value} {hdct : Bool} {sn : List Str} {sub : List Value} {ab : Bool} {col : Option Bool} {dd : Option Addr} {k0 k1 k2 k3 k5 : Option Value} {e t0 : Addr} {rest : List Value},
  (∀ Y : String, bm.contains (.type Y) = tl.contains (.type Y)) → h.get? C = some (excClassObj nm q C N bs bm hdct sn sub ab col dd k0 k1 k2 k3 k5 n) → h.get? e = some (HandSPX.excO C t0) → rest.length ≤ sizeLine →
  (∀ h' t1, (∀ b o, b ≠ e → h.get? b = some o → h'.get? b = some o) → h'.get? e = some (HandSPX.excO C t1) → R (.ok (.ret .none)) ⟨h', g, d, t, os⟩) → codeAny (model prog w) A (.call (.builtin i) ⟨.ref e :: rest, []⟩) R ⟨h, g, d, t, os⟩
def CalX (n : String) (tl : List Value) : Prop := ∀ {prog : Program} {w : World} {A : Around} {R : Result → Shared → Prop} {h : Heap} {g : Array GenState} {d : Drawn} {t : Nat} {os : OsState} {nm q : Str} {C N : Addr} {bs bm : List Value} {hdct : Bool} {sn : List Str} {sub : List Value} {ab : Bool} {col : Option Bool} {dd : Option Addr} {k0 k1 k2 k3 k5 : Option Value} {rest : List Value} {fI : Addr},
  (∀ Y : String, bm.contains (.type Y) = tl.contains (.type Y)) → h.get? C = some (excClassObj nm q C N bs bm hdct sn sub ab col dd k0 k1 k2 k3 k5 n) →
  PySem.W.Looks (model prog w) h (typeLookup (.ref C) "__init__") (some (.ref fI)) → (∀ self, PySem.W.Looks (model prog w) h (bindSpecial (.ref fI) self) (.ref fI, [self])) → rest.length ≤ sizeLine →
  codeAny (model prog w) (A.under (.builtin "type.__call__" ⟨.ref C :: rest, []⟩)) (.call (.ref fI) ⟨.ref (h.objs.size + 1) :: rest, []⟩) (PySem.W.InitBack (h.objs.size + 1) R) ⟨(h.push (PySem.W.kdv_tup rest)).push (HandSPX.excO C h.objs.size), g, d, t, os⟩ →
  codeAny (model prog w) A (.call (.ref C) ⟨rest, []⟩) R ⟨h, g, d, t, os⟩
structure BaseX (B n i : String) (tl : List Value) : Prop where
  ini : IniX n i tl
  cal : CalX n tl
  sf : StoreFacts B tl "object.__setattr__" "object"
  ty : typeOf (.type B) = pure (.type "type")
  nd : (Value.type B == Value.type "type") = false
theorem BaseX.of {B n i : String} {tl : List Value} (fb : ExcBaseFacts B n i tl) (sf : StoreFacts B tl "object.__setattr__" "object") (ty : typeOf (.type B) = pure (.type "type")) (nd : (Value.type B == Value.type "type") = false) : BaseX B n i tl :=
  { ini := fun hT hC he hz hq => HandSPX.init_base fb hT hC he hz hq, cal := fun hT hC li lb hz hq => HandSPX.call_own fb hT hC li lb hz hq, sf := sf, ty := ty, nd := nd }
/-- what the written part says of the own class at C, straight over it -/
structure XB (K : PySem.W.Frag) (C : Addr) (n : String) (tl : List Value) : Prop where
  cls : ∃ nm q N bs bm sn sub ab col dd k0 k1 k2 k3 k5, K.lookup C = some (excClassObj nm q C N bs bm true sn sub ab col dd k0 k1 k2 k3 k5 n) ∧ PySem.W.excTail tl bm = true
  sa : PySem.W.findIn K (.ref C) "__setattr__" = some (some (.builtin "object.__setattr__"))
  exC : PySem.W.subIn K (.ref C) (.type "BaseException") = some true
  tyC : PySem.W.typeIn K (.ref C) = some (.type "type")
  kC : PySem.W.keepIn K (.ref C) = true
theorem XB.over {K : PySem.W.Frag} {C : Addr} {n : String} {tl : List Value} (T : XB K C n tl) : PySem.W.excOver K C tl = true ∧ ∃ cd, PySem.W.clsIn K C = some cd ∧ cd.hasDict = true := by
  obtain ⟨nm, q, N, bs, bm, sn, sub, ab, col, dd, k0, k1, k2, k3, k5, hC, hbm⟩ := T.cls
  have hcl : PySem.W.clsIn K C = some { name := nm, bases := bs, mro := .ref C :: bm, ns := N, qualname := q, hasDict := true, slotNames := sn, subclasses := sub, abstract := ab, collection := col, hasDel := false } := by
    unfold PySem.W.clsIn; rw [hC] <;> rfl
  refine ⟨?_, _, hcl, rfl⟩
  unfold PySem.W.excOver
  rw [hcl]
  simp [Option.any, hbm]
theorem taker_none {K : PySem.W.Frag} {C : Addr} {f : Str} (h : PySem.W.findIn K (.ref C) f = some none) : PySem.W.takerIn K C f = some none := by
  unfold PySem.W.takerIn; rw [h]; rfl
abbrev exF (t1 : Addr) : Array Value := #[.ref t1, .none, .none, .none, .bool false, .none]
section
variable {prog : Program} {w : World} {A : Around} {R : Result → Shared → Prop} {hp : Heap} {g : Array GenState} {d : Drawn} {t : Nat} {os : OsState} {B n i : String} {tl : List Value} {K : PySem.W.Frag}
theorem first_store {f : Str} {tk : Tok} {v : Value} {x C : Addr} {fv : Array Value} (F : BaseX B n i tl) (T : XB K C n tl) (X : K.In hp) (hx : hp.get? x = some { cls := .ref C, data := .fields fv }) (hf : PySem.W.findIn K (.ref C) f = some none)
    (hq : ∀ h' tk' dx, (∀ b o, b ≠ x → hp.get? b = some o → h'.get? b = some o) → hp.objs.size ≤ dx → dx ≠ x → h'.get? x = some { cls := .ref C, dict := some dx, data := .fields fv } →
      h'.Ns1 dx (fun y => if y = f then some v else none) → R (.ok (.ret .none)) ⟨h', g, d, tk', os⟩) :
    codeAny (model prog w) A (.call (.builtin "object.__setattr__") ⟨[.ref x, .str f tk, v], []⟩) R ⟨hp, g, d, t, os⟩ := by
  obtain ⟨ov, cd, hcd, hdt⟩ := T.over
  have hxs : x ≠ hp.objs.size := Nat.ne_of_lt (Heap.lt_size hx)
  have L : PySem.W.Looks (model prog w) hp (classData C) cd := PySem.W.looks_clsIn X hcd
  refine PySem.W.osa_openX (s := ⟨hp, g, d, t, os⟩) (od := none) F.sf X ⟨hx, rfl, rfl, trivial⟩ ov (taker_none hf) fun b => ?_
  show wpAny _ _ (Builtin.ObjectAttr.storeInOwnDict (.ref x) (.ref C) (.str f tk) f v b) _ _ _
  obtain ⟨nm, bs, mro, ns, qn, hd, sn, sb, ab, col, dl⟩ := cd
  dsimp only at hdt
  subst hdt
  unfold Builtin.ObjectAttr.storeInOwnDict Builtin.ObjectAttr.ownDictForStores
  repeat (first | with_reducible refine HandSPX.store_in_new ?_ ?_ | with_reducible refine wpAny_loadPart_at hx ?_ | with_reducible refine L.at ?_ | wp_step)
  · exact ⟨_, #[], _, (Heap.get?_update_ne _ _ _ _ hxs.symm).trans (Heap.get?_push_at rfl rfl), rfl, fun e he => absurd he (by simp), fun _ => rfl⟩
  · intro h' tk' hn' hs
    have hx1 : (hp.push { cls := .type "dict", data := .dict #[] }).get? x = some { cls := .ref C, data := .fields fv } := Heap.get?_push_of_some _ hx
    refine hq h' tk' hp.objs.size (fun b o hb ho => ?_) (Nat.le_refl _) hxs.symm ((hs.2 x hxs).trans (Heap.get?_update_self _ hx1 rfl)) hn'
    exact (hs.2 b (Nat.ne_of_lt (Heap.lt_size ho))).trans ((Heap.get?_update_ne _ _ _ _ hb).trans (Heap.get?_push_of_some _ ho))
theorem next_store {f : Str} {tk : Tok} {v : Value} {x C dx : Addr} {fv : Array Value} {m0 : Str → Option Value} {nl : List Str} (F : BaseX B n i tl) (T : XB K C n tl) (X : K.In hp) (hx : hp.get? x = some { cls := .ref C, dict := some dx, data := .fields fv })
    (hns : hp.Ns1 dx m0) (hw : Within m0 nl) (hz : nl.length ≤ 1000) (hf : PySem.W.findIn K (.ref C) f = some none)
    (hq : ∀ h' tk', (∀ b o, b ≠ dx → hp.get? b = some o → h'.get? b = some o) → h'.Ns1 dx (fun y => if y = f then some v else m0 y) → R (.ok (.ret .none)) ⟨h', g, d, tk', os⟩) :
    codeAny (model prog w) A (.call (.builtin "object.__setattr__") ⟨[.ref x, .str f tk, v], []⟩) R ⟨hp, g, d, t, os⟩ := by
  obtain ⟨ov, cd, hcd, hdt⟩ := T.over
  have L : PySem.W.Looks (model prog w) hp (classData C) cd := PySem.W.looks_clsIn X hcd
  obtain ⟨oD, esD, epD, hoD, hdD, _⟩ := hns.count hw
  refine PySem.W.osa_openX (s := ⟨hp, g, d, t, os⟩) (od := some oD) F.sf X ⟨hx, rfl, rfl, hoD⟩ ov (taker_none hf) fun b => ?_
  show wpAny _ _ (Builtin.ObjectAttr.storeInOwnDict (.ref x) (.ref C) (.str f tk) f v b) _ _ _
  obtain ⟨nm, bs, mro, ns, qn, hd, sn, sb, ab, col, dl⟩ := cd
  dsimp only at hdt
  subst hdt
  unfold Builtin.ObjectAttr.storeInOwnDict Builtin.ObjectAttr.ownDictForStores
  repeat (first | with_reducible refine OEX.store_in_old hns hw hz ?_ | with_reducible refine wpAny_loadPart_at hx ?_ | with_reducible refine L.at ?_ | wp_step)
  exact fun h' tk' hn' hs => hq h' tk' (fun b o hb ho => (hs.2 b hb).trans ho) hn'
end
section
variable {X : Cx} {pins : List (Addr × Obj)} {σ : L2.St} {H : Hp} {s : Shared} {a C dx : Addr} {f : Str} {y : V} {u : Value} {fs : List (Str × V)} {Q : Unit → Shared → Prop} {E : Value → Shared → Prop} {A : Around} {B n i : String} {tl : List Value}
/-- self.f = y, the first one -/
theorem set_first (F : BaseX B n i tl) (T : XB X.K C n tl) (I : Inv X pins σ H s) (e : H a = some (exo a C none)) (hno : PySem.W.findIn X.K (.ref C) f = some none) (ry : RelV y u)
    (h : ∀ dx s', H dx = none → dx ≠ a → Inv X pins σ (upd (upd H dx (exd dx [(f, y)])) a (exo a C (some dx))) s' → Q () s') : wpAny (model X.prog X.w) A (setAttr (.ref a) f u) Q E s := by
  obtain ⟨t1, ho⟩ := exo_at I.hok e
  obtain ⟨hp, g, d, t, os⟩ := s
  refine PySem.W.set_plain I.kIn (ox := { cls := .ref C, dict := none, data := .fields (exF t1) }) (od := none) ⟨ho, rfl, rfl, trivial⟩ T.sa ?_
  refine first_store F T I.kIn ho hno fun h' tk' dx k dn dne hx hn => ?_
  have hnd : H dx = none := I.hok.fresh dn
  have na : ∀ {b : Addr}, H b = none → b ≠ a := fun {b} z q => by rw [q, e] at z; cases z
  have U : Un X.fs [] H (upd (upd H dx (exd dx [(f, y)])) a (exo a C (some dx))) hp h' :=
    ⟨fun b o q z _ _ => k b o (na z) q, fun b o q z _ _ => ⟨o.slots, k b o (na z) q⟩,
      fun b o q z _ => (upd_ne (na z)).trans ((upd_ne (Nat.ne_of_lt (Nat.lt_of_lt_of_le (Heap.lt_size q) dn))).trans z),
      fun b o q _ => (Classical.em (b = a)).elim (fun z => ⟨_, z ▸ hx⟩) fun z => ⟨o, k b o z q⟩,
      fun b xs q => (upd_ne (at_ne e q exo_tup)).trans ((upd_ne (ne_of_none q hnd)).trans q),
      fun b o v q => (upd_ne (at_ne e q exo_frz)).trans ((upd_ne (ne_of_none q hnd)).trans q),
      fun b ps q => ⟨#[], by rw [upd_ne (at_ne e q exo_tbl), upd_ne (ne_of_none q hnd), q]; simp⟩⟩
  refine h dx _ hnd dne (I.un (t' := tk') U fun b o q => ?_)
  rcases Classical.em (b = a) with z | hb
  · subst z; rw [upd_same] at q; cases q; exact exo_ok hx
  rw [upd_ne hb] at q
  rcases Classical.em (b = dx) with z | hd
  · subst z; rw [upd_same] at q; cases q; exact exd_ok hn (relO_put (fs := []) ry fun _ => trivial)
  rw [upd_ne hd] at q
  refine (I.hok b o q).stay (fun c v hc z => k c v ?_ z) (fun c hc => (upd_ne (at_ne e hc exo_own)).trans ((upd_ne (ne_of_none hc hnd)).trans hc)) fun c xs hc => (upd_ne (at_ne e hc exo_tup)).trans ((upd_ne (ne_of_none hc hnd)).trans hc)
  exact hc.elim (fun z => z ▸ hb) fun z => at_ne e z exo_own
/-- .. a further one -/
theorem set_next (F : BaseX B n i tl) (T : XB X.K C n tl) (I : Inv X pins σ H s) (e : H a = some (exo a C (some dx))) (ed : H dx = some (exd dx fs)) (hl : fs.length ≤ 900) (hno : PySem.W.findIn X.K (.ref C) f = some none) (ry : RelV y u)
    (h : ∀ s', Inv X pins σ (upd H dx (exd dx ((f, y) :: fs))) s' → Q () s') : wpAny (model X.prog X.w) A (setAttr (.ref a) f u) Q E s := by
  obtain ⟨t1, ho⟩ := exo_at I.hok e
  obtain ⟨mA, hns, rel⟩ := exd_at I.hok ed
  obtain ⟨hp, g, d, t, os⟩ := s
  obtain ⟨oD, _, _, hoD, _, _⟩ := hns.count (within_of rel)
  refine PySem.W.set_plain I.kIn (ox := { cls := .ref C, dict := some dx, data := .fields (exF t1) }) (od := some oD) ⟨ho, rfl, rfl, hoD⟩ T.sa ?_
  refine next_store F T I.kIn ho hns (within_of rel) (by rw [List.length_map]; omega) hno fun h' tk' k hn => ?_
  exact h _ (I.write (t' := tk') (x := dx) (e := dx) (o := exd dx ((f, y) :: fs)) (by rw [ed]; trivial) (.inl rfl) k (by obtain ⟨o, _, _, z, _⟩ := hn; exact ⟨o, z⟩) (exd_ok hn (relO_put ry rel)))
/-- B.__init__(self, ..): nothing of it is told -/
theorem base_init {us : List Value} {Q : Value → Shared → Prop} (F : BaseX B n i tl) (T : XB X.K C n tl) (I : Inv X pins σ H s) (e : H a = some (exo a C none)) (hl : us.length ≤ sizeLine) (h : ∀ s', Inv X pins σ H s' → Q .none s') :
    wpAny (model X.prog X.w) A (call (.builtin i) (.ref a :: us)) Q E s := by
  obtain ⟨nm, q, N, bs, bm, sn, sub, ab, col, dd, k0, k1, k2, k3, k5, hC, hbm⟩ := T.cls
  obtain ⟨t1, ho⟩ := exo_at I.hok e
  obtain ⟨hp, g, d, t, os⟩ := s
  refine wpAny_call (F.ini (fun Y => PySem.W.excTail_contains Y bm hbm) (I.kIn _ _ hC) ho hl fun h' t2 k hx => ?_)
  have I2 : Inv X pins σ (upd H a (exo a C none)) ⟨h', g, d, t, os⟩ := I.write (t' := t) (x := a) (e := a) (o := exo a C none) (by rw [e]; trivial) (.inl rfl) k ⟨_, hx⟩ (exo_ok hx)
  have eH : upd H a (exo a C none) = H := by funext b; by_cases z : b = a <;> simp [upd, z, e]
  rw [eH] at I2
  exact h _ I2
end
def tBInit (K : PySem.W.Frag) (n : String) (tl : List Value) (ta : TA) : TE := fun σ H Q => ta σ H fun vs H1 => ∃ (a C : Addr) (ws : List V), vs = .ref a :: ws ∧ ws.length ≤ 1000 ∧ XB K C n tl ∧ H1 a = some (exo a C none) ∧ Q .non H1
def tXSet (K : PySem.W.Frag) (n : String) (tl : List Value) (f : Str) (to te : TE) : TS := fun D σ H => te σ H fun y H1 => to σ H1 fun x H2 => ∃ a C : Addr, x = .ref a ∧ XB K C n tl ∧ PySem.W.findIn K (.ref C) f = some none ∧
  ((H2 a = some (exo a C none) ∧ ∀ dx, H2 dx = none → dx ≠ a → D.nx σ (upd (upd H2 dx (exd dx [(f, y)])) a (exo a C (some dx)))) ∨
    ∃ (dx : Addr) (fs : List (Str × V)), H2 a = some (exo a C (some dx)) ∧ H2 dx = some (exd dx fs) ∧ fs.length ≤ 900 ∧ D.nx σ (upd H2 dx (exd dx ((f, y) :: fs))))
section
variable {X : Cx} {o e : Expr} {es : List Expr} {to te : TE} {ta : TA} {f : Str} {p p' p1 p2 pos : Pos} {B n i : String} {tl : List Value}
theorem pe_binit {pl : Sem Bool} (F : BaseX B n i tl) (hg : Gl X (PySem.Str.ofString B)) (hm : X.mg (PySem.Str.ofString B) = none) (bt : bootBuiltins (PySem.Str.ofString B) = some (.type B))
    (vV : PySem.W.findCls X.K (.type B) (.type "type") "__init__" = some (.val (.builtin i))) (ha : PA X (e :: es) ta) (hst : Manifest.isStub B = false := by decide +kernel) (hhi : PySem.W.handedIn (.builtin i) = true := by decide +kernel)
    (hnn : (PySem.Str.ofString B) ≠ "__name__" := by decide) (hdb : ((PySem.Str.ofString B) == ("__debug__" : Str)) = false := by decide)
    (hc : eval (.Call (.Attribute (.Name (PySem.Str.ofString B) p1) "__init__" p2) (e :: es) [] pos) X.env = (do
      let ov ← eval (.Name (PySem.Str.ofString B) p1) X.env; standAt p2.atName
      let (f, first) ← holding [ov] (getMethod ov "__init__" pl); callWith pos f first (backTo pos (starEach (e :: es) X.env)) (backToKw pos (keywordEach [] X.env))) := by rfl)
    (he : starEach (e :: es) X.env = (false, eval e X.env) :: starEach es X.env := by rfl) (hpl : (backTo pos (starEach es X.env)).any (·.1) = false := by rfl) :
    PE X (.Call (.Attribute (.Name (PySem.Str.ofString B) p1) "__init__" p2) (e :: es) [] pos) (tBInit X.K n tl ta) := by
  refine ⟨fun pins s σ H Q I h => ?_⟩
  refine PySem.W.methodCall_KW (ld_blt I hg hm bt ?_ hnn hdb) hc
  obtain ⟨m, fr⟩ := I.fr
  refine PySem.W.method_type fr I.ok.mod.kin F.ty hst vV hhi ?_
  show wpAny _ _ (callWith pos (Value.builtin i) [] (backTo pos (starEach (e :: es) X.env)) []) _ _ _
  refine PyProof.Rows.callWith_method1 (thn (ha.run pos pins _ σ H _ (I.tok _) h) fun us s1 ⟨vs, H1, I1, r1, a, C, ws, ev, hl, T, ea, q⟩ => ?_) he hpl
  subst ev
  cases r1 with
  | @cons _ u0 _ ur ra rw' =>
    obtain rfl : u0 = Value.ref a := ra
    exact base_init F T I1 ea (by rw [← Paired.length rw', sizeLine_eq]; omega) fun s' J => ⟨.non, H1, J, rfl, q⟩
theorem ps_xset (F : BaseX B n i tl) (ho : PE X o to) (he : PE X e te) (hs : swapsWith e (some (.Attribute o f p')) pos.line X.env = pure false := by rfl) : PS X (.Assign [.Attribute o f p'] e pos) (tXSet X.K n tl f to te) := by
  refine ⟨fun pins s σ H D I h => ?_⟩
  refine plainObj_wpAny_Assign_Attribute (thn (he.run pins s σ H _ I h) fun v s1 ⟨y, H1, I1, r1, q1⟩ => thn (ho.run pins s1 σ H1 _ I1 q1) fun u s2 hh => ?_) hs
  obtain ⟨x, H2, I2, r2, a, C, ex, T, hno, q⟩ := hh
  subst ex
  obtain rfl : u = Value.ref a := r2
  rcases q with ⟨ea, q⟩ | ⟨dx, fs, ea, ed, hl, q⟩
  · exact set_first F T I2 ea hno r1 fun dx s' n ne J => ⟨σ, _, J, q dx n ne⟩
  · exact set_next F T I2 ea ed hl hno r1 fun s' J => ⟨σ, _, J, q⟩
theorem pmk_xb {CX : CXT} {x : Str} {C fI : Addr} {k : Nat} {fd : FuncData} {ps : List Str} {sp : Sp} (F : BaseX B n i tl) (T : XB X.K C n tl) (iC : PySem.W.findIn X.K (.ref C) "__init__" = some (some (.ref fI))) (tI : PySem.W.typeIn X.K (.ref fI) = some (.type "function"))
    (F1 : FnOk X.prog X.w X.K X.mg X.base CX k fI fd ps sp) (hr : Room (k + 1) X.A) (hb : Binds X.K fd ps []) (hx : Passes CX X (fun _ _ _ => False)) (hg : Gl X x) (hm : X.mg x = some (.ref C)) (ha : PA X (e :: es) ta)
    (hdb : (x == ("__debug__" : Str)) = false := by decide) (he : starEach (e :: es) X.env = (false, eval e X.env) :: starEach es X.env := by rfl) (hpl : (backTo pos (starEach es X.env)).any (·.1) = false := by rfl) :
    PMk X (.Call (.Name x p) (e :: es) [] pos) (tMkO C sp [] ta) := by
  intro pins s σ H Q I h
  obtain ⟨nm, q, N, bs, bm, sn, sub, ab, col, dd, k0, k1, k2, k3, k5, hC, hbm⟩ := T.cls
  refine wpAny_Call_Name_kw (ld_glob I hg hm ?_ hdb)
  refine PySem.W.callWith_K (h₀ := X.base) I.ok.mod.kin T.kC (thn (ha.run pos pins s σ H _ I h) fun us s1 hh => ?_) he hpl
  obtain ⟨vs, H1, I1, r1, hz, q1⟩ := hh
  refine ⟨I1.kIn, ?_⟩
  show wpAny _ _ (call (.ref C) us) _ _ _
  obtain ⟨hp, g, dr, tk, os⟩ := s1
  have hsz : hp.objs.size ≤ hp.objs.size + 1 := Nat.le_succ _
  have hq := q1 _ (I1.hok.fresh hsz)
  rw [List.append_nil] at hq
  generalize eh : (hp.push (PySem.W.kdv_tup us)).push (HandSPX.excO C hp.objs.size) = h9
  have kk : ∀ b o, hp.get? b = some o → h9.get? b = some o := fun b o e => by rw [← eh]; exact Heap.get?_push_of_some _ (Heap.get?_push_of_some _ e)
  have hget : h9.get? (hp.objs.size + 1) = some (HandSPX.excO C hp.objs.size) := by rw [← eh]; heap_get
  have I2 : Inv X pins σ (upd H1 (hp.objs.size + 1) (exo (hp.objs.size + 1) C none)) ⟨h9, g, dr, tk, os⟩ := I1.laid (t' := tk) (a := hp.objs.size + 1) (o := exo (hp.objs.size + 1) C none) (h' := h9) kk hsz (exo_ok hget)
  have r2 : Vals (V.ref (hp.objs.size + 1) :: vs) (Value.ref (hp.objs.size + 1) :: us) := .cons rfl r1
  have hl : (Value.ref (hp.objs.size + 1) :: us).length = ps.length := r2.length.symm.trans (F1.len _ _ _ _ hq)
  have hb' : BindsTo ⟨h9, g, dr, tk, os⟩ fd ⟨Value.ref (hp.objs.size + 1) :: us, []⟩ (ps.zip (Value.ref (hp.objs.size + 1) :: us)) := by
    have z := hb ⟨h9, g, dr, tk, os⟩ (Value.ref (hp.objs.size + 1) :: us) I2.kIn (by rw [List.append_nil]; exact hl)
    rw [List.append_nil] at z
    exact z
  refine wpAny_call (F.cal (fun Y => PySem.W.excTail_contains Y bm hbm) (I1.kIn _ _ hC) (PySem.W.looks_findIn I1.kIn iC) (fun self => PySem.W.bind_fn I1.kIn self tI) (by rw [← Paired.length r1, sizeLine_eq]; omega) ?_)
  rw [eh]
  refine codeAny_mono (F1.run _ X.stack _ _ ⟨Value.ref (hp.objs.size + 1) :: us, []⟩ (Value.ref (hp.objs.size + 1) :: us) _ _ (fun _ _ _ => False) (hr.make C us []) (I2.env0.make C us []) hb' r2 hq) fun r s' hq' => ?_
  match r, hq' with
  | .error er, z => exact hx pins σ _ _ er s' I2 z
  | .ok .next, z => exact z.elim
  | .ok .brk, z => exact z.elim
  | .ok .cont, z => exact z.elim
  | .ok (.ret u), ⟨v, H2, os2, bare2, un2, hok2, rv, ev, d, fs, ea, ed, hd1, q2⟩ =>
    subst ev
    obtain ⟨h2, g2, d2, t2, os'⟩ := s'
    exact ⟨rv, mk_end (raises_own T.exC T.tyC) I1 hsz kk un2 hok2 os2 bare2 ea ed hd1 q2⟩
end
def spX2 (C : Addr) (f1 f2 : Str) : Sp := fun vs H Q _ => ∃ (a : Addr) (v1 v2 : V), vs = [.ref a, v1, v2] ∧ H a = some (exo a C none) ∧
  ∀ dx, H dx = none → dx ≠ a → Q .non (upd (upd (upd H dx (exd dx [(f1, v1)])) a (exo a C (some dx))) dx (exd dx [(f2, v2), (f1, v1)]))
section
variable {K : PySem.W.Frag} {C : Addr} {n : String} {tl : List Value} {f g txt x y z : Str} {vs : List V} {H : Hp} {Q : VK} {E : XK}
theorem rdX2 (T : XB K C n tl) (no1 : PySem.W.findIn K (.ref C) f = some none) (no2 : PySem.W.findIn K (.ref C) g = some none) (h : spX2 C f g vs H Q E) :
    tSeq (tDrop (tBInit K n tl (tCons (tVar 0) (tCons (tC (.str txt)) tNil)))) (tSeq (tXSet K n tl f (tVar 0) (tVar 1)) (tXSet K n tl g (tVar 0) (tVar 2))) { nx := fun _ H' => Q .non H', rt := Q } (L2.start [x, y, z] vs) H := by
  obtain ⟨a, v, w, rfl, e, h⟩ := h
  refine ⟨.ref a, rfl, a, C, [.str txt], rfl, by simp, T, e, v, rfl, .ref a, rfl, a, C, rfl, T, no1, .inl ⟨e, fun dx h1 h2 => ?_⟩⟩
  exact ⟨w, rfl, .ref a, rfl, a, C, rfl, T, no2, .inr ⟨dx, [(f, v)], upd_same, by rw [upd_ne h2, upd_same], by simp, h dx h1 h2⟩⟩
end
theorem upd_del2 {H : Hp} {a d : Addr} {u w z y o : HO} (h : H a = none) : upd (L2.del (upd (upd (upd (upd H a z) d w) a u) d y) a) d o = upd H d o := by
  funext b
  by_cases h1 : b = d
  · subst h1; rw [upd_same, upd_same]
  · rw [upd_ne h1, upd_ne h1]
    by_cases h2 : b = a
    · subst h2; rw [del_same, h]
    · rw [del_ne h2, upd_ne h1, upd_ne h2, upd_ne h1, upd_ne h2]
/-- what isinstance asks of an exception's class -/
structure KxC (K : PySem.W.Frag) (C : Addr) : Prop where
  hcl : (PySem.W.clsIn K C).isSome = true
  hga : PySem.W.findIn K (.ref C) "__getattribute__" = some (some (.builtin "BaseException.__getattribute__"))
  hgt : PySem.W.findIn K (.ref C) "__getattr__" = some none
  hsub : PySem.W.subIn K (.ref C) (.type "BaseException") = some true
  ha : PySem.W.findIn K (.ref C) "__class__" = some (some (.builtin "object.__class__"))
  hn : PySem.W.specialIn K (.builtin "object.__class__") "__get__" = some (some (.builtin "getset_descriptor.__get__"))
  htk : PySem.W.takesIn K (.builtin "object.__class__") = some true
  hm : PySem.W.mroIn K C (.type "object") = some true
/-- an own exception class with an __init__ that stores: where it stands -/
structure XAt (K : PySem.W.Frag) (mg : Str → Option Value) (x : Str) (B n i : String) (tl : List Value) (st : Stmt) (q : Str) (ps : List Str) (fs : List Str) where
  C : Addr
  fI : Addr
  fd : FuncData
  g : mg x = some (.ref C)
  T : XB K C n tl
  iC : PySem.W.findIn K (.ref C) "__init__" = some (some (.ref fI))
  tI : PySem.W.typeIn K (.ref fI) = some (.type "function")
  F : Fun K "__init__" q st fI fd
  b : Binds K fd ps []
  no : ∀ f ∈ fs, PySem.W.findIn K (.ref C) f = some none
  hdC : PySem.W.hasDictIn K C = true
  te : PySem.W.exmOne K (.ref C) (.ref C) = some true
  vV : PySem.W.findCls K (.type B) (.type "type") "__init__" = some (.val (.builtin i))
  kx : KxC K C
/-- .. as a fact of the addresses -/
structure XAtP (K : PySem.W.Frag) (mg : Str → Option Value) (x : Str) (B n i : String) (tl : List Value) (ps : List Str) (C fI : Addr) (fd : FuncData) : Prop where
  g : mg x = some (.ref C)
  T : XB K C n tl
  iC : PySem.W.findIn K (.ref C) "__init__" = some (some (.ref fI))
  tI : PySem.W.typeIn K (.ref fI) = some (.type "function")
  b : Binds K fd ps []
theorem XAt.p {K : PySem.W.Frag} {mg : Str → Option Value} {x : Str} {B n i : String} {tl : List Value} {st : Stmt} {q : Str} {ps fs : List Str} (T : XAt K mg x B n i tl st q ps fs) : XAtP K mg x B n i tl ps T.C T.fI T.fd := ⟨T.g, T.T, T.iC, T.tI, T.b⟩
@[simp] def qRaise (C : Addr) (fs : List Str) (qa : DTA) : DTS := fun DW DE p M => qa DW p M fun ds M1 => ds.length = fs.length ∧ DW ⟨.ref C, (fs.zip ds).reverse⟩ p M1
section
variable {X : Cx} {W : WX} {e : Expr} {es : List Expr} {ta : TA} {qa : DTA} {p pos pos2 : Pos} {B n i : String} {tl : List Value} {x f f2 : Str} {st : Stmt} {q : Str} {ps fs : List Str} {k : Nat}
theorem qs_raise2 (F : BaseX B n i tl) {C fI : Addr} {fd : FuncData} (T : XAtP X.K X.mg x B n i tl ps C fI fd) (F1 : FnOk X.prog X.w X.K X.mg X.base (L2.CX X.prog X.w) k fI fd ps (spX2 C f f2)) (hr : Room (k + 1) X.A) (tk : Takes X W) (hc : X.calm = true) (ha : QA X W (e :: es) ta qa) (hg : Gl X x := by rfl)
    (hdb : (x == ("__debug__" : Str)) = false := by decide) (he : starEach (e :: es) X.env = (false, eval e X.env) :: starEach es X.env := by rfl) (hpl : (backTo pos (starEach es X.env)).any (·.1) = false := by rfl) :
    QS X W (.Raise (some (.Call (.Name x p) (e :: es) [] pos)) none pos2) (fun _ σ H => tMkO C (spX2 C f f2) [] ta σ H fun cls d H' => W cls d σ H') (qRaise C [f, f2] qa) :=
  ⟨ps_raise hc tk (pmk_xb F T.T T.iC T.tI F1 hr T.b (passes_call tk fun _ _ _ _ z => z.elim) hg T.g ha.pe hdb he hpl), fun DW G H p M s DE E hw S h _ => by
    refine ha.rf DW G H p M s _ _ hw S h fun G1 H1 M1 ds vs e1 S1 r1 ⟨hl, h1⟩ => ?_
    obtain ⟨d, d2, rfl⟩ : ∃ d d2, ds = [d, d2] := by
      match ds, hl with
      | [d, d2], _ => exact ⟨d, d2, rfl⟩
    obtain ⟨v, _, rfl, r2, v2, _, rfl, r3, r4⟩ := r1
    cases r4
    refine ⟨by simp, fun a ea => ?_⟩
    refine ⟨a, v, v2, List.append_nil _ ▸ rfl, upd_same, fun dx h2 h3 => ?_⟩
    rw [upd_ne h3] at h2
    have q1 : upd (upd (upd (upd H1 a (exo a C none)) dx (exd dx [(f, v)])) a (exo a C (some dx))) dx (exd dx [(f2, v2), (f, v)]) a = some (exo a C (some dx)) := by rw [upd_ne (Ne.symm h3), upd_same]
    refine ⟨rfl, dx, [(f2, v2), (f, v)], q1, upd_same, h2, ?_⟩
    rw [upd_del2 ea]
    obtain ⟨e2, S2⟩ := S1.made (o := .xd [(f2, v2), (f, v)]) h2
    exact hw _ _ p M1 s ⟨.ref C, [(f2, d2), (f, d)]⟩ _ _ (e1.trans e2) S2 ⟨rfl, .inr ⟨dx, [(f2, v2), (f, v)], rfl, upd_same, rfl, RepL.mono e2 _ _ (RepL.cons r3 (RepL.cons r2 RepL.nil))⟩⟩ h1⟩
end
section
variable {X : Cx} {W : WX} {C a : Addr} {oe : Obj} {d : Option Addr} {pn : List (Addr × Obj)} {e : Expr} {te : TE} {qe : DTE} {f : Str} {pos : Pos}
def dIsX (a : Addr) (d : Option Addr) (b : Bool) (c : D) : DCa := fun ds M Q => ∃ ns ys, ds = [.exc a d ns ys, c] ∧ Q (.bl b) M
end
end DL
namespace DL
open PySem PySem.Spec PyProof.Rows L2
end DL
namespace DL
open PySem PySem.Spec PyProof.Rows L2
abbrev tl_ValueError : List Value := [.type "ValueError", .type "Exception", .type "BaseException", .type "object"]
theorem baseX_ValueError : BaseX "ValueError" "ValueError.__new__" "ValueError.__init__" tl_ValueError := .of F.excBase_ValueError F.store_ValueError (by kernel_rfl) (by decide +kernel)
theorem clsIn_some {K : PySem.W.Frag} {C : Addr} (h : PySem.W.hasDictIn K C = true) : (PySem.W.clsIn K C).isSome = true := by
  obtain ⟨cd, hc, _⟩ := PySem.W.any_some h
  rw [hc]; rfl
end DL
set_option maxHeartbeats 2000000
namespace DL
open PySem PySem.Spec PyProof.Rows L2
theorem pairs_keys {prog : Program} {w : World} : ∀ {l : List DictEntry} {ks : List Str}, l.map He.keyOf = He.keysIn w.params ks →
    ∃ kvs : List (Str × Value), kvs.map (·.1) = ks ∧ Pairs (PySem.strKind prog w) l kvs ∧ ∀ e ∈ l, ∃ k, (PySem.strKind prog w).is k e.key = true ∧ e.hash = (PySem.strKind prog w).hash k
  | [], [], _ => ⟨[], rfl, .nil, fun _ h => by cases h⟩
  | [], k :: ks, h => by cases h
  | e :: l, [], h => by cases h
  | e :: l, k :: ks, h => by
    have h0 : He.keyOf e :: l.map He.keyOf = some (k, PyData.keyHash w.params k) :: He.keysIn w.params ks := h
    injection h0 with h1 h2
    obtain ⟨kvs, i1, i2, i3⟩ := pairs_keys (prog := prog) h2
    unfold He.keyOf at h1
    split at h1
    · next x t q =>
      obtain ⟨rfl, e2⟩ := Prod.mk.inj (Option.some.inj h1)
      have e3 : (PySem.strKind prog w).is x e.key = true := by rw [q]; exact PySem.strKind_is prog w x t
      refine ⟨(x, e.val) :: kvs, by simp [i1], .cons e3 rfl i2, fun e' he => ?_⟩
      rcases List.mem_cons.mp he with rfl | he
      · exact ⟨x, e3, e2⟩
      · exact i3 e' he
    · cases h1
theorem strs_at {prog : Program} {w : World} : ∀ {kvs : List (Str × Value)} {us : List Value}, us.length = kvs.length → (∀ (j : Nat) (v : Value), us[j]? = some v → ∃ k x, kvs[j]? = some (k, x) ∧ (PySem.strKind prog w).is k v = true) → Vals (kvs.map fun q => V.str q.1) us
  | [], [], _, _ => .nil
  | [], _ :: _, h, _ => by cases h
  | _ :: _, [], h, _ => by cases h
  | (k, y) :: kvs, u :: us, hl, h => by
    obtain ⟨k', x, e1, e2⟩ := h 0 u rfl
    cases e1
    refine .cons ?_ (strs_at (prog := prog) (w := w) (by simpa using hl) fun j v e => by simpa using h (j + 1) v (by simpa using e))
    have e3 : Value.isStrOf k u = true := e2
    cases u with
    | str z t => exact ⟨t, by have : z = k := by simpa [Value.isStrOf] using e3
                              rw [this]⟩
    | _ => cases e3
theorem dictAt_K {K : PySem.W.Frag} {prog : Program} {w : World} {h : Heap} {d : Addr} {ks : List Str} (X : K.In h) (hd : He.dicW K d = some (He.keysIn w.params ks)) (nd : ks.Nodup) :
    ∃ kvs ep, kvs.map (·.1) = ks ∧ h.DictAt (PySem.strKind prog w) d kvs ep ∧ (d == sysModules) = false := by
  unfold He.dicW at hd
  split at hd
  · next c es n sl hl =>
    split at hd
    · next e =>
      obtain ⟨kvs, a1, a2, a3⟩ := pairs_keys (prog := prog) (Option.some.inj hd)
      simp only [Bool.and_eq_true, decide_eq_true_eq, Bool.not_eq_true'] at e
      obtain ⟨rfl, e1, e2⟩ := e
      obtain rfl : sl = #[] := Array.isEmpty_iff.mp e1
      exact ⟨kvs, n, a1, ⟨_, es, X _ _ hl, ⟨rfl, rfl, rfl⟩, rfl, fun z hz => a3 z (Array.mem_toList_iff.mpr hz), a2, by rw [a1]; exact nd⟩, e2⟩
    · cases hd
  · cases hd
theorem call_listK {X : Cx} {d : Addr} {ks : List Str} (hcalm : X.calm = true) (hd : He.dicW X.K d = some (He.keysIn X.w.params ks)) (nd : ks.Nodup) (hz : ks.length ≤ 1000) :
    CallR X (.type "list") (fun xs H Q => xs = [.ref d] ∧ ∀ p, H p = none → Q (.ref p) (upd H p (.lst (ks.map V.str)))) := by
  intro pins s σ H xs us Q I r q
  obtain ⟨rfl, q⟩ := q
  obtain ⟨u, rfl, rx⟩ := vals1 r
  cases rx
  obtain ⟨kvs, ep, a1, a2, lo⟩ := dictAt_K (prog := X.prog) I.kIn hd nd
  have hl : kvs.length = ks.length := by rw [← a1]; simp
  have hz2 : ks.length ≤ sizeLine := Nat.le_trans hz (by rw [sizeLine_eq]; decide)
  refine PySem.W.kdl_call (PySem.W.kdl_dict (knd := PySem.strKind X.prog X.w) (kvs := kvs) (ep := ep) lo) (I.ok.hd hcalm) a2 (by rw [hl]; exact hz2) fun h' tk acc c' hk hD hacc => ?_
  have hv : Vals (kvs.map fun q => V.str q.1) acc.toList := strs_at (prog := X.prog) (w := X.w) (by rw [Array.length_toList]; exact hacc.1) fun j v e => hacc.2 j v (by rw [← Array.getElem?_toList]; exact e)
  have ev : (kvs.map fun q => V.str q.1) = ks.map V.str := by rw [← a1, List.map_map]; rfl
  rw [ev] at hv
  exact ⟨.ref s.heap.objs.size, _, I.laid (t' := tk) hk (Nat.le_refl _) (show ObjOk X.prog X.w _ _ _ (.lst (ks.map V.str)) from ⟨by rw [List.length_map]; exact hz2, acc.toList, c', hv, by rw [Array.toArray_toList]; exact hD⟩), rfl, q _ (I.hok.fresh (Nat.le_refl _))⟩
/-- a value of a written dict -/
def KVal (K : PySem.W.Frag) (d : Addr) (z : Str) (y : D) : Prop := ∃ u v, PySem.W.nsIn K d z = some (some u) ∧ RelV v u ∧ ∀ G, Rep K G y v
structure KTab (K : PySem.W.Frag) (w : World) (mg : Str → Option Value) (x : Str) (tbl : List (Str × D)) : Prop where
  ex : ∃ d, mg x = some (.ref d) ∧ He.dicW K d = some (He.keysIn w.params (tbl.map (·.1))) ∧ ∀ q ∈ tbl, KVal K d q.1 q.2
theorem KTab.dic {K : PySem.W.Frag} {w : World} {mg : Str → Option Value} {x : Str} {tbl : List (Str × D)} (h : KTab K w mg x tbl) : KDic K w mg x (tbl.map (·.1)) := by
  obtain ⟨d, h1, h2, _⟩ := h.ex
  exact ⟨d, h1, h2⟩
def dIxK (tbl : List (Str × D)) : DUn := fun x M Q => match res M x with
  | .str z => match tbl.lookup z with
    | some y => Q y M
    | none => False
  | _ => False
theorem lookup_mem {α β : Type} [BEq α] [LawfulBEq α] {z : α} {y : β} : ∀ {l : List (α × β)}, l.lookup z = some y → (z, y) ∈ l
  | [], h => by cases h
  | (k, v) :: l, h => by
    rw [List.lookup_cons] at h
    cases c : z == k with
    | true => rw [c] at h; cases h; rw [eq_of_beq c]; exact List.mem_cons_self ..
    | false => rw [c] at h; exact List.mem_cons_of_mem _ (lookup_mem h)
section
variable {X : Cx} {W : WX} {a : Expr} {ta : TE} {qa : DTE} {pos p p2 : Pos} {x : Str} {tbl : List (Str × D)}
theorem q_ixK (h : KTab X.K X.w X.mg x tbl) (hg : Gl X x) (ha : QE X W a ta qa) (hd : (x == ("__debug__" : Str)) = false := by decide) (hs : PlainIx a := by exact fun _ _ => rfl) :
    ∃ t, QE X W (.Subscript (.Name x p) a pos) t (qUn (dIxK tbl) qa) := by
  obtain ⟨d, h1, h2, h3⟩ := h.ex
  obtain ⟨es, n, KD⟩ := He.dicW_ok h2
  have ix : IxR X (fun x y H Q => ∃ (z : Str) (u0 : Value) (v0 : V), x = .ref d ∧ y = .str z ∧ PySem.W.nsIn X.K d z = some (some u0) ∧ RelV v0 u0 ∧ Q v0 H) := by
    intro value slice pins s σ H x y v u Q I rx ry hh hs
    have e : v = .ref d := by obtain ⟨z, u0, v0, rfl, _⟩ := hh; exact rx
    subst e
    exact tail_any (kd_type KD I) slot_dict_getitem.lookup (op_item_kd KD pins s σ H x y _ u Q I rx ry hh) hs
  refine ⟨_, pe_ix ix (pe_glob hg h1 (v := .ref d) rfl hd) ha.pe hs, fun DW G H p M s Q Q' hw S hq k => ha.rf DW G H p M s _ _ hw S hq fun G1 H1 M1 dv v e1 S1 r1 h4 => ?_⟩
  unfold dIxK at h4
  split at h4
  · next z e =>
    obtain ⟨rfl, _, _⟩ := as_str r1 e
    split at h4
    · next y ey =>
      obtain ⟨u, v, n1, n2, n3⟩ := h3 _ (lookup_mem ey)
      exact ⟨z, u, v, rfl, rfl, n1, n2, k G1 H1 M1 y v e1 S1 (n3 G1) h4⟩
    · exact h4.elim
  · exact h4.elim
/-- list(D) -/
theorem q_listK (m : Bool) (h : KDic X.K X.w X.mg x ks) (hg : Gl X x) (hgl : Gl X "list") (hm : X.mg "list" = none) (hcalm : X.calm = true) (nd : ks.Nodup) (hz : (decide (ks.length ≤ 1000) && ks.all fun k => decide (k.length ≤ 100000) && PyData.strOk k) = true) (hd : (x == ("__debug__" : Str)) = false := by decide)
    (he : starEach [.Name x p] X.env = [(false, eval (.Name x p) X.env)] := by rfl) (hpl : (backTo pos (starEach [] X.env)).any (·.1) = false := by rfl) :
    ∃ t, QE X W (.Call (.Name "list" p2) [.Name x p] [] pos) t (fun _ _ M Q => newL m (ks.map D.str) M Q) := by
  obtain ⟨d, h1, h2⟩ := h.ex
  rw [Bool.and_eq_true, decide_eq_true_eq, List.all_eq_true] at hz
  refine ⟨_, pe_callTy (call_listK hcalm h2 nd hz.1) hgl hm (by kernel_rfl) (pa_cons (pe_glob hg h1 (v := .ref d) rfl hd) pa_nil) (by decide) (by decide) he hpl, fun DW G H p M s Q Q' hw S hq k => ⟨rfl, fun q hq2 => ?_⟩⟩
  have hr : RepL X.K G (ks.map D.str) (ks.map V.str) := by
    have h3 := hz.2
    clear hq h2 nd hz h
    induction ks with
    | nil => rfl
    | cons k ks ih =>
      have h4 := h3 k (List.mem_cons_self ..)
      rw [Bool.and_eq_true, decide_eq_true_eq] at h4
      exact ⟨.str k, _, rfl, ⟨rfl, sz1000 h4.1, h4.2⟩, ih fun z hz => h3 z (List.mem_cons_of_mem _ hz)⟩
  exact newL_ok S hq2 hr (by rw [List.length_map, sizeLine_eq]; omega) hq k
end
/-- zip of two lists, or of two tuples -/
def qiZipB (qa : DTA) : DTI := fun DW p M R => qiZip qa DW p M R ∨ qiZipT qa DW p M R
theorem qi_orI {X : Cx} {W : WX} {tg e : Expr} {t1 t2 : TI} {q1 q2 : DTI} (h1 : QI X W tg e t1 q1) (h2 : QI X W tg e t2 q2) : QI X W tg e (fun σ H R => t1 σ H R ∨ t2 σ H R) (fun DW p M R => q1 DW p M R ∨ q2 DW p M R) :=
  ⟨⟨fun pins s σ H R I h => h.elim (h1.pe.run pins s σ H R I) (h2.pe.run pins s σ H R I)⟩, fun DW G H p M s R R' hw S h k => h.imp (fun h => h1.rf DW G H p M s R R' hw S h k) fun h => h2.rf DW G H p M s R R' hw S h k⟩
section
variable {X : Cx} {W : WX} {e e2 : Expr} {ta : TA} {qa : DTA} {p pos tpos : Pos} {elts : List Expr} {kk : Nat}
theorem qi_zipB (hg : Gl X "zip") (hm : X.mg "zip" = none) (ha : QA X W [e, e2] ta qa)
    (hs : starEach [e, e2] X.env = (false, eval e X.env) :: starEach [e2] X.env := by rfl) (hpl : (backTo pos (starEach [e2] X.env)).any (·.1) = false := by rfl) :
    QI X W (.Tuple elts kk tpos) (.Call (.Name "zip" p) [e, e2] [] pos) (fun σ H R => iZip X.K ta σ H R ∨ RZ.iZipA X.K ta σ H R) (qiZipB qa) := qi_orI (qi_zip hg hm ha hs hpl) (qi_zipT hg hm ha hs hpl)
end
end DL
namespace DL
open PySem L2
theorem dep_mem : ∀ {ds : List D} {d : D}, d ∈ ds → dep d ≤ PyData.depthAll (pydL ds)
  | [], _, h => by cases h
  | e :: ds, d, h => by
    simp only [pydL, PyData.depthAll]
    rcases List.mem_cons.mp h with rfl | h
    · exact Nat.le_max_left _ _
    · exact Nat.le_trans (dep_mem h) (Nat.le_max_right _ _)
theorem dep_in_tup {ds : List D} {d : D} (h : d ∈ ds) : dep d + 1 ≤ dep (.tup ds) := by
  have := dep_mem h
  simp only [dep, pyd, PyData.depth] at this ⊢; omega
theorem dep_in_lst {ds : List D} {d : D} (h : d ∈ ds) : dep d + 1 ≤ dep (.lst ds) := by
  have := dep_mem h
  simp only [dep, pyd, PyData.depth] at this ⊢; omega
theorem eq_bb {neg : Bool} {x y : Bool} {M : Mst} {Q : DK} : dEq neg (.bl x) (.bl y) M Q = Q (.bl (xor neg (decide (x = y)))) M := by
  unfold dEq
  rw [res_bl, res_bl, deq_bl]
  have h1 : isData (.bl x) = true := rfl
  have h2 : isData (.bl y) = true := rfl
  have h3 : min (dep (.bl x)) (dep (.bl y)) ≤ 64 := by simp [dep, pyd, PyData.depth]
  simp [h1, h2, h3]
end DL
namespace Tx21
open PySem L2 DL PyProof.Rows Tx20
def Pr (x : Str) : Prop := ∀ c ∈ x.cps.toList, 32 ≤ c ∧ c ≤ 126
theorem Pr.asc {x : Str} (h : Pr x) : Asc x := fun c hc => by have := h c hc; omega
theorem pr_ok {x : Str} (h : Pr x) (hl : x.length ≤ 100000) : okS x := ok_asc h.asc hl
end Tx21
namespace DL
open PySem L2 Tx20 Tx21
abbrev lit (s : String) : Str := PySem.Str.ofString s
abbrev one (c : Nat) : Str := ⟨#[c]⟩
abbrev stL (ws : List Str) : D := .lst (ws.map .str)
section
variable {M : Mst} {Q : DK}
@[simp] theorem z_isi_int_int {i} : dIsi [.int i, .ty "int"] M Q = Q (.bl true) M := isi_one rfl (show isiB "int" "int" = some true by decide +kernel)
@[simp] theorem z_isi_int_bool {i} : dIsi [.int i, .ty "bool"] M Q = Q (.bl false) M := isi_one rfl (show isiB "int" "bool" = some false by decide +kernel)
@[simp] theorem z_isi_int_str {i} : dIsi [.int i, .ty "str"] M Q = Q (.bl false) M := isi_one rfl (show isiB "int" "str" = some false by decide +kernel)
@[simp] theorem z_isi_int_tup {i} : dIsi [.int i, .ty "tuple"] M Q = Q (.bl false) M := isi_one rfl (show isiB "int" "tuple" = some false by decide +kernel)
@[simp] theorem z_isi_int_lst {i} : dIsi [.int i, .ty "list"] M Q = Q (.bl false) M := isi_one rfl (show isiB "int" "list" = some false by decide +kernel)
@[simp] theorem z_isi_bl_int {i} : dIsi [.bl i, .ty "int"] M Q = Q (.bl true) M := isi_one rfl (show isiB "bool" "int" = some true by decide +kernel)
@[simp] theorem z_isi_bl_bool {i} : dIsi [.bl i, .ty "bool"] M Q = Q (.bl true) M := isi_one rfl (show isiB "bool" "bool" = some true by decide +kernel)
@[simp] theorem z_isi_bl_str {i} : dIsi [.bl i, .ty "str"] M Q = Q (.bl false) M := isi_one rfl (show isiB "bool" "str" = some false by decide +kernel)
@[simp] theorem z_isi_bl_tup {i} : dIsi [.bl i, .ty "tuple"] M Q = Q (.bl false) M := isi_one rfl (show isiB "bool" "tuple" = some false by decide +kernel)
@[simp] theorem z_isi_bl_lst {i} : dIsi [.bl i, .ty "list"] M Q = Q (.bl false) M := isi_one rfl (show isiB "bool" "list" = some false by decide +kernel)
@[simp] theorem z_isi_str_int {i} : dIsi [.str i, .ty "int"] M Q = Q (.bl false) M := isi_one rfl (show isiB "str" "int" = some false by decide +kernel)
@[simp] theorem z_isi_str_bool {i} : dIsi [.str i, .ty "bool"] M Q = Q (.bl false) M := isi_one rfl (show isiB "str" "bool" = some false by decide +kernel)
@[simp] theorem z_isi_str_str {i} : dIsi [.str i, .ty "str"] M Q = Q (.bl true) M := isi_one rfl (show isiB "str" "str" = some true by decide +kernel)
@[simp] theorem z_isi_str_tup {i} : dIsi [.str i, .ty "tuple"] M Q = Q (.bl false) M := isi_one rfl (show isiB "str" "tuple" = some false by decide +kernel)
@[simp] theorem z_isi_str_lst {i} : dIsi [.str i, .ty "list"] M Q = Q (.bl false) M := isi_one rfl (show isiB "str" "list" = some false by decide +kernel)
@[simp] theorem z_isi_non_int : dIsi [.non, .ty "int"] M Q = Q (.bl false) M := isi_one rfl (show isiB "NoneType" "int" = some false by decide +kernel)
@[simp] theorem z_isi_non_bool : dIsi [.non, .ty "bool"] M Q = Q (.bl false) M := isi_one rfl (show isiB "NoneType" "bool" = some false by decide +kernel)
@[simp] theorem z_isi_non_str : dIsi [.non, .ty "str"] M Q = Q (.bl false) M := isi_one rfl (show isiB "NoneType" "str" = some false by decide +kernel)
@[simp] theorem z_isi_non_tup : dIsi [.non, .ty "tuple"] M Q = Q (.bl false) M := isi_one rfl (show isiB "NoneType" "tuple" = some false by decide +kernel)
@[simp] theorem z_isi_non_lst : dIsi [.non, .ty "list"] M Q = Q (.bl false) M := isi_one rfl (show isiB "NoneType" "list" = some false by decide +kernel)
@[simp] theorem z_isi_tup_int {i} : dIsi [.tup i, .ty "int"] M Q = Q (.bl false) M := isi_one rfl (show isiB "tuple" "int" = some false by decide +kernel)
@[simp] theorem z_isi_tup_bool {i} : dIsi [.tup i, .ty "bool"] M Q = Q (.bl false) M := isi_one rfl (show isiB "tuple" "bool" = some false by decide +kernel)
@[simp] theorem z_isi_tup_str {i} : dIsi [.tup i, .ty "str"] M Q = Q (.bl false) M := isi_one rfl (show isiB "tuple" "str" = some false by decide +kernel)
@[simp] theorem z_isi_tup_tup {i} : dIsi [.tup i, .ty "tuple"] M Q = Q (.bl true) M := isi_one rfl (show isiB "tuple" "tuple" = some true by decide +kernel)
@[simp] theorem z_isi_tup_lst {i} : dIsi [.tup i, .ty "list"] M Q = Q (.bl false) M := isi_one rfl (show isiB "tuple" "list" = some false by decide +kernel)
@[simp] theorem z_isi_lst_int {i} : dIsi [.lst i, .ty "int"] M Q = Q (.bl false) M := isi_one rfl (show isiB "list" "int" = some false by decide +kernel)
@[simp] theorem z_isi_lst_bool {i} : dIsi [.lst i, .ty "bool"] M Q = Q (.bl false) M := isi_one rfl (show isiB "list" "bool" = some false by decide +kernel)
@[simp] theorem z_isi_lst_str {i} : dIsi [.lst i, .ty "str"] M Q = Q (.bl false) M := isi_one rfl (show isiB "list" "str" = some false by decide +kernel)
@[simp] theorem z_isi_lst_tup {i} : dIsi [.lst i, .ty "tuple"] M Q = Q (.bl false) M := isi_one rfl (show isiB "list" "tuple" = some false by decide +kernel)
@[simp] theorem z_isi_lst_lst {i} : dIsi [.lst i, .ty "list"] M Q = Q (.bl true) M := isi_one rfl (show isiB "list" "list" = some true by decide +kernel)
@[simp] theorem z_len_str {z : Str} : dLen [.str z] M Q = Q (.int z.length) M := by simp [dLen]
@[simp] theorem z_len_tup {ds : List D} : dLen [.tup ds] M Q = Q (.int ds.length) M := by simp [dLen]
@[simp] theorem z_len_xtp {ds : List D} : dLen [.xtp ds] M Q = Q (.int ds.length) M := by simp [dLen]
@[simp] theorem z_len_ktp {ds : List D} : dLen [.ktp ds] M Q = Q (.int ds.length) M := by simp [dLen]
@[simp] theorem z_add_str {m : Bool} {x y : Str} : dAdd m (.str x) (.str y) M Q = (x.length + y.length ≤ 100000 ∧ Q (.str (x ++ y)) M) := rfl
@[simp] theorem z_add_tup {m : Bool} {x y : List D} : dAdd m (.tup x) (.tup y) M Q = (x.length + y.length ≤ 100000 ∧ Q (.tup (x ++ y)) M) := rfl
@[simp] theorem z_eq_int {i j : Int} : dEq false (.int i) (.int j) M Q = Q (.bl (decide (i = j))) M := by rw [eq_int, Bool.false_xor]
@[simp] theorem z_ne_int {i j : Int} : dEq true (.int i) (.int j) M Q = Q (.bl (!decide (i = j))) M := by rw [eq_int, Bool.true_xor]
@[simp] theorem z_eq_str {i j : Str} : dEq false (.str i) (.str j) M Q = Q (.bl (decide (i = j))) M := by rw [eq_str, Bool.false_xor]
@[simp] theorem z_ne_str {i j : Str} : dEq true (.str i) (.str j) M Q = Q (.bl (!decide (i = j))) M := by rw [eq_str, Bool.true_xor]
@[simp] theorem z_eq_bl {i j : Bool} : dEq false (.bl i) (.bl j) M Q = Q (.bl (decide (i = j))) M := by rw [eq_bb, Bool.false_xor]
@[simp] theorem z_ne_bl {i j : Bool} : dEq true (.bl i) (.bl j) M Q = Q (.bl (!decide (i = j))) M := by rw [eq_bb, Bool.true_xor]
@[simp] theorem z_is {x : D} : dIs false x .non M Q = Q (.bl (isNon x)) M := by cases h : isNon x <;> simp [dIs, h]
@[simp] theorem z_isnot {x : D} : dIs true x .non M Q = Q (.bl (!isNon x)) M := by cases h : isNon x <;> simp [dIs, h]
@[simp] theorem z_neg {i : Int} : dNeg (.int i) M Q = Q (.int (-i)) M := rfl
@[simp] theorem z_inS {neg : Bool} {c z : Str} : dIn neg (.str c) (.str z) M Q = Q (.bl (xor neg (inS c z))) M := rfl
@[simp] theorem z_intX_i {i : Int} : dIntX [.int i] M Q = Q (.int i) M := rfl
@[simp] theorem z_intX_b {b : Bool} : dIntX [.bl b] M Q = Q (.int (if b = true then 1 else 0)) M := by cases b <;> rfl
theorem in_strs {neg : Bool} {z : Str} {zs : List Str} : dIn neg (.str z) (.lst (zs.map .str)) M Q = Q (.bl (xor neg (decide (z ∈ zs)))) M := by
  unfold dIn
  have a : (zs.map D.str).any (fun e => deq e (.str z)) = decide (z ∈ zs) := by
    rw [List.any_map]
    induction zs with
    | nil => simp
    | cons y ys ih => simp only [List.any_cons, ih, Function.comp, deq_str, List.mem_cons]; simp [eq_comm]
  have f : (zs.map D.str).all flatD = true := by rw [List.all_map, List.all_eq_true]; intro x _; rfl
  simp only [dgetD, res_lst, a, f, show flatD (.str z) = true from rfl, true_and]
theorem in_strsT {neg : Bool} {z : Str} {zs : List Str} : dIn neg (.str z) (.tup (zs.map .str)) M Q = Q (.bl (xor neg (decide (z ∈ zs)))) M := by
  unfold dIn
  have a : (zs.map D.str).any (fun e => deq e (.str z)) = decide (z ∈ zs) := by
    rw [List.any_map]
    induction zs with
    | nil => simp
    | cons y ys ih => simp only [List.any_cons, ih, Function.comp, deq_str, List.mem_cons]; simp [eq_comm]
  have f : (zs.map D.str).all flatD = true := by rw [List.all_map, List.all_eq_true]; intro x _; rfl
  simp only [dgetD, res_tup, a, f, show flatD (.str z) = true from rfl, true_and]
@[simp] theorem z_ix_l0 {d : D} {ds : List D} : dIx (.lst (d :: ds)) (.int 0) M Q = Q d M := ix_l atI_0
@[simp] theorem z_ix_t0 {d : D} {ds : List D} : dIx (.tup (d :: ds)) (.int 0) M Q = Q d M := ix_t atI_0
@[simp] theorem z_ix_t1 {d e : D} {ds : List D} : dIx (.tup (d :: e :: ds)) (.int 1) M Q = Q e M := ix_t atI_1
@[simp] theorem z_ix_l1 {d e : D} {ds : List D} : dIx (.lst (d :: e :: ds)) (.int 1) M Q = Q e M := ix_l atI_1
theorem pick_l {ds : List D} {r : Int} (h0 : 0 ≤ r) (h1 : r < ds.length) (h : ∀ d ∈ ds, Q d M) : dIx (.lst ds) (.int r) M Q := by
  obtain ⟨x, hx, hm⟩ := atI_some h0 h1
  rw [ix_l hx]; exact h x hm
theorem pick_t {ds : List D} {r : Int} (h0 : 0 ≤ r) (h1 : r < ds.length) (h : ∀ d ∈ ds, Q d M) : dIx (.tup ds) (.int r) M Q := by
  obtain ⟨x, hx, hm⟩ := atI_some h0 h1
  rw [ix_t hx]; exact h x hm
theorem pick_s {z : Str} {r : Int} (h0 : 0 ≤ r) (h1 : r < z.length) (h : ∀ c ∈ z.cps.toList, Q (.str (one c)) M) : dIx (.str z) (.int r) M Q := by
  obtain ⟨x, hx, hm⟩ := atI_some (xs := z.cps.toList) h0 (by rw [Array.length_toList]; exact h1)
  unfold dIx
  simp only [dgetD, res_str, hx]
  exact h x hm
theorem ix_strs {ws : List Str} {i : Nat} {w : Str} (h : ws[i]? = some w) : dIx (stL ws) (.int (i : Int)) M Q = Q (.str w) M :=
  ix_l (by rw [atI_n, List.getElem?_map, h]; rfl)
theorem eq_i {neg : Bool} {i j : Nat} : dEq neg (.int (i : Int)) (.int (j : Int)) M Q = Q (.bl (xor neg (decide (i = j)))) M := by
  rw [eq_int]
  have : decide ((i : Int) = (j : Int)) = decide (i = j) := decide_eq_decide.mpr (by omega)
  rw [this]
theorem take_call {b : Addr} {n : Int} {E : DX → Mst → Prop} (hb : M b = some .bag) (h0 : 0 < n) (h1 : n < 1073741824) (h : ∀ r : Int, 0 ≤ r → r < n → Q (.int r) M) : spTake [.ref b, .int n] M Q E := ⟨b, n, rfl, hb, h0, h1, h⟩
end
theorem ne_of_some {M : Mst} {a b : Addr} {o : MO} (h : M a = some o) (g : M b = none) : a ≠ b := fun e => by rw [e, g] at h; cases h
theorem put_keep {M : Mst} {a b : Addr} {o u : MO} (h : M a = some o) (g : M b = none) : put M b u a = some o := by rw [put_ne (ne_of_some h g)]; exact h
theorem range_at {n : Nat} {i : Nat} {d : D} (h : (rangeD 0 n)[i]? = some d) : i < n ∧ d = .int (i : Int) := by
  have h1 := (List.getElem?_eq_some_iff.mp h).1
  have hi : i < n := by simpa [rangeD] using h1
  refine ⟨hi, ?_⟩
  simp [rangeD, hi] at h; exact h.symm
@[simp] theorem rangeD_len {lo : Int} {n : Nat} : (rangeD lo n).length = n := by simp [rangeD]
theorem glue_ones : ∀ (r : List Nat) (acc : Array Nat), (r.map one).foldl (fun acc (p : Str) => acc ++ (lit "").cps ++ p.cps) acc = acc ++ r.toArray
  | [], acc => by simp
  | c :: r, acc => by
    rw [List.map_cons, List.foldl_cons, glue_ones r, show (lit "").cps = #[] by decide +kernel]
    apply Array.toList_inj.mp; simp
theorem join_ones (cs : List Nat) : Txt.join (lit "") (cs.map one) = ⟨cs.toArray⟩ := by
  unfold Txt.join Builtin.Str.glued
  cases cs with
  | nil => rfl
  | cons c r =>
    simp only [List.map_cons, List.drop_succ_cons, List.drop_zero, List.headD_cons]
    rw [glue_ones]
    congr 1
    apply Array.toList_inj.mp; simp
theorem ones_sum (cs : List Nat) : ((cs.map one).map (·.length)).sum = cs.length := by
  induction cs with
  | nil => rfl
  | cons c r ih => simp only [List.map_cons, List.sum_cons, ih, List.length_cons]; show 1 + _ = _; omega
/-- ''.join(signs drawn) -/
theorem join_signs {cs : List Nat} {M : Mst} {Q : DK} (hp : ∀ c ∈ cs, c < 55296) (hl : cs.length ≤ 100000) (h : Q (.str ⟨cs.toArray⟩) M) : mJoin (.str (lit "")) [.lst ((cs.map one).map .str)] M Q := by
  have e0 : (lit "").length = 0 := by decide +kernel
  simp only [mJoin, res_str, res_lst, strsD_map, join_ones, ones_sum, e0]
  refine ⟨by simp; exact hl, ⟨by show cs.toArray.size ≤ 100000; simpa using hl, ?_⟩, h⟩
  unfold PyData.strOk
  rw [← Array.all_toList, List.all_eq_true]
  intro c hc
  have := hp c (by simpa using hc)
  exact decide_eq_true (by omega)
structure Tx_ (n : Nat) (x : Str) : Prop where
  pr : Pr x
  len : x.length ≤ n
theorem Tx_.ok {n : Nat} {x : Str} (h : Tx_ n x) (hn : n ≤ 100000) : okS x := pr_ok h.pr (Nat.le_trans h.len hn)
theorem Tx_.mono {n m : Nat} {x : Str} (h : Tx_ n x) (hn : n ≤ m) : Tx_ m x := ⟨h.pr, Nat.le_trans h.len hn⟩
def txB (n : Nat) (x : Str) : Bool := decide (x.length ≤ n) && x.cps.toList.all fun c => decide (32 ≤ c) && decide (c ≤ 126)
theorem tx_of {n : Nat} {x : Str} (h : txB n x = true) : Tx_ n x := by
  unfold txB at h
  rw [Bool.and_eq_true, decide_eq_true_eq, List.all_eq_true] at h
  exact ⟨fun c hc => by simpa using h.2 c hc, h.1⟩
end DL
namespace DL
open PySem L2
theorem lookup_zip {α : Type} {f : Str} : ∀ {fs : List Str} {i : Nat}, fs.findIdx? (fun z => z == f) = some i → ∀ {ns : List Str} {ds : List α} {y : α}, ns = fs.take ns.length → ds.length = ns.length → ds[i]? = some y → (ns.zip ds).lookup f = some y
  | [], i, h, _, _, _, _, _, _ => by simp at h
  | g :: fs, i, h, ns, ds, y, e, l, hy => by
    cases ns with
    | nil =>
      have : ds = [] := List.eq_nil_of_length_eq_zero (by simpa using l)
      subst this; simp at hy
    | cons n ns =>
      cases ds with
      | nil => simp at l
      | cons d ds =>
        simp only [List.length_cons, List.take_succ_cons, List.cons.injEq] at e
        obtain ⟨rfl, e⟩ := e
        rw [List.findIdx?_cons] at h
        show List.lookup f ((n, d) :: ns.zip ds) = some y
        by_cases hn : (n == f) = true
        · rw [if_pos hn] at h
          cases h
          have hf : (f == n) = true := by rw [beq_iff_eq] at hn ⊢; exact hn.symm
          rw [List.lookup_cons, hf]
          simpa using hy
        · rw [if_neg hn] at h
          obtain ⟨j, hj, rfl⟩ := Option.map_eq_some_iff.mp h
          have hf : (f == n) = false := by
            rw [Bool.eq_false_iff]; intro z; rw [beq_iff_eq] at z; exact hn (by rw [beq_iff_eq]; exact z.symm)
          rw [List.lookup_cons, hf]
          exact lookup_zip hj e (by simpa using l) (by simpa using hy)
/-- what an instance's fields are now -/
def insD (M : Mst) (x : D) : Option (Addr × List Str × List D) := match res M x with
  | .ins C ns ds => some (C, ns, ds)
  | _ => none
theorem as_insD {K : PySem.W.Frag} {G H : Hp} {p : Rho} {M : Mst} {s : L2.St} {x : D} {v : V} {C : Addr} {ns : List Str} {ds : List D} (S : Sim K G H p M s) (r : Rep K G x v) (h : insD M x = some (C, ns, ds)) :
    ∃ a dx fv, v = .ref a ∧ H a = some (.ins C dx fv) ∧ fv.map (·.1) = ns ∧ RepL K G ds (fv.map (·.2)) := by
  unfold insD at h
  split at h
  · next e => cases h; exact as_ins S r e
  · cases h
/-- e.f, the field at place i of fs -/
def qFld (C : Addr) (fs : List Str) (i : Nat) (qe : DTE) : DTE := fun DW p M Q => qe DW p M fun x M1 => match insD M1 x with
  | some (C', ns, ds) => C' = C ∧ ns = fs.take ns.length ∧ match ds[i]? with
    | some y => Q y M1
    | none => False
  | none => False
section
variable {X : Cx} {W : WX} {e o : Expr} {te to : TE} {qe qo : DTE} {f : Str} {pos pos' : Pos} {C : Addr} {fs : List Str} {i : Nat}
theorem q_fld (cl : Cls X.K C) (n : NoAttr X.K C f) (he : QE X W e te qe) (hi : fs.findIdx? (fun z => z == f) = some i) (hb : attributeBase e f X.env (eval e X.env) = eval e X.env := by rfl) :
    QE X W (.Attribute e f pos) (tFld X.K te f) (qFld C fs i qe) :=
  ⟨pe_fld he.pe hb, fun DW G H p M s Q Q' hw S h k => he.rf DW G H p M s _ _ hw S h fun G1 H1 M1 x v e1 S1 r1 h1 => by
    split at h1
    · next C' ns ds eo =>
      obtain ⟨rfl, hn, h1⟩ := h1
      obtain ⟨a, dx, fv, rfl, g1, g2, g3⟩ := as_insD S1 r1 eo
      split at h1
      · next y ey =>
        obtain ⟨w, ew, rw_⟩ := g3.get ey
        refine ⟨a, C', dx, fv, w, rfl, g1, cl, n, ?_, k G1 H1 M1 y w e1 S1 rw_ h1⟩
        have hl := g3.length
        have hln : (fv.map (·.2)).length = ns.length := by rw [← g2]; simp
        have := lookup_zip (ds := fv.map (·.2)) hi hn hln ew
        rw [← g2, zip_fs] at this
        exact this
      · exact h1.elim
    · exact h1.elim⟩
end
/-- o.f = e: the field at place i of fs -/
def setAt (i : Nat) (f : Str) (y : D) (cur : List (Str × D)) : List (Str × D) := if i < cur.length then cur.set i (f, y) else cur ++ [(f, y)]
def qSetF (C : Addr) (fs : List Str) (i : Nat) (f : Str) (qo qe : DTE) : DTS := fun DW DE p M => qe DW p M fun y M1 => qo DW p M1 fun x M2 => match x with
  | .ref a => match M2 a with
    | some (.ins C' cur) => C' = C ∧ cur.map (·.1) = fs.take cur.length ∧ i ≤ cur.length ∧ fs.length < 900 ∧ DE.nx p (put M2 a (.ins C (setAt i f y cur)))
    | _ => False
  | _ => False
theorem putF_names {f : Str} {y : V} : ∀ {cur : List (Str × V)} {fs : List Str} {i : Nat}, fs.findIdx? (fun z => z == f) = some i → cur.map (·.1) = fs.take cur.length → i ≤ cur.length →
    putF f y cur = if i < cur.length then cur.set i (f, y) else cur ++ [(f, y)]
  | [], fs, i, h, e, hi => by
    have : i = 0 := by simpa using hi
    subst this; rfl
  | (g, x) :: r, [], i, h, e, hi => by simp at h
  | (g, x) :: r, n :: fs, i, h, e, hi => by
    simp only [List.map_cons, List.length_cons, List.take_succ_cons, List.cons.injEq] at e
    obtain ⟨e0, e⟩ := e
    subst e0
    rw [List.findIdx?_cons] at h
    show (if g = f then (g, y) :: r else (g, x) :: putF f y r) = _
    by_cases hn : g = f
    · rw [if_pos (by rw [beq_iff_eq]; exact hn)] at h
      cases h
      subst hn
      rw [if_pos rfl, if_pos (by simp)]
      rfl
    · rw [if_neg (by rw [beq_iff_eq]; exact hn)] at h
      obtain ⟨j, hj, rfl⟩ := Option.map_eq_some_iff.mp h
      rw [if_neg hn, putF_names hj e (by simpa using hi)]
      simp only [List.length_cons, Nat.add_lt_add_iff_right, List.set_cons_succ]
      split <;> rfl
theorem take_le_len {α β : Type} {cur : List α} {g : α → β} {fs : List β} (e : cur.map g = fs.take cur.length) : cur.length ≤ fs.length := by
  have := congrArg List.length e
  simp at this; omega
section
variable {X : Cx} {W : WX} {e o : Expr} {te to : TE} {qe qo : DTE} {f : Str} {pos pos' : Pos} {C : Addr} {fs : List Str} {i : Nat}
theorem map_set_fst {α β : Type} {l : List (α × β)} {i : Nat} {q : α × β} : (l.set i q).map (·.1) = (l.map (·.1)).set i q.1 := by rw [List.map_set]
theorem qs_setF (cl : Cls X.K C) (n : NoAttr X.K C f) (ho : QE X W o to qo) (he : QE X W e te qe) (hi : fs.findIdx? (fun z => z == f) = some i) (hs : swapsWith e (some (.Attribute o f pos')) pos.line X.env = pure false := by rfl) :
    QS X W (.Assign [.Attribute o f pos'] e pos) (sFld X.K to te f) (qSetF C fs i f qo qe) :=
  ⟨ps_fld ho.pe he.pe hs, fun DW G H p M s DE E hw S h k => he.rf DW G H p M s _ _ hw S h fun G1 H1 M1 y v e1 S1 r1 h1 => ho.rf DW G1 H1 p M1 s _ _ (hw.mono e1) S1 h1 fun G2 H2 M2 x u e2 S2 r2 h2 => by
    split at h2
    · next a =>
      cases r2
      split at h2
      · next C' cur em =>
        obtain ⟨rfl, hn, hl, hf, h2⟩ := h2
        obtain ⟨gn, dx, fv, g1, g2, g3⟩ := S2.mem _ _ em
        have len : fv.length = cur.length := by have := congrArg List.length g2; simpa using this
        have hle := take_le_len hn
        have hn' : fv.map (·.1) = fs.take fv.length := by rw [g2, hn, len]
        refine ⟨a, C', dx, fv, rfl, g1, cl, n, by omega, ?_⟩
        have pf : putF f v fv = if i < fv.length then fv.set i (f, v) else fv ++ [(f, v)] := putF_names hi hn' (by omega)
        have rm : RepM X.K G2 (upd H2 a (.ins C' dx (putF f v fv))) a (.ins C' (setAt i f y cur)) := by
          refine ⟨dx, _, upd_same, ?_, ?_⟩
          · rw [pf]; unfold setAt
            rw [len]
            by_cases hc : i < cur.length
            · rw [if_pos hc, if_pos hc, map_set_fst, map_set_fst, g2]
            · rw [if_neg hc, if_neg hc, List.map_append, List.map_append, g2]; rfl
          · rw [pf]; unfold setAt
            rw [len]
            have r1' := Rep.mono e2 _ _ r1
            by_cases hc : i < cur.length
            · rw [if_pos hc, if_pos hc, List.map_set, List.map_set]
              exact g3.set i r1'
            · rw [if_neg hc, if_neg hc, List.map_append, List.map_append]
              exact g3.append (RepL.cons r1' rfl)
        exact k.nx G2 _ p _ s (e1.trans e2) (S2.put gn rm) h2
      · exact h2.elim
    · exact h2.elim⟩
end
def tMakeSD (C : Addr) (sp : Sp) (dvs : List V) (E : L2.St → XK) (t : TA) : TE := fun σ H Q => t σ H fun vs H1 => ∀ x dx, H1 x = none → H1 dx = none → dx ≠ x →
  sp (.ref x :: (vs ++ dvs)) (upd (upd H1 dx (.own x)) x (.ins C dx [])) (fun v H2 => v = .non ∧ Q (.ref x) H2) (E σ)
def qMake (C : Addr) (P : DSp) (dds : List D) (qa : DTA) : DTE := fun DW p M Q => qa DW p M fun ds M1 => ∀ a, M1 a = none → P (.ref a :: (ds ++ dds)) (put M1 a (.ins C [])) (fun d M2 => d = .non ∧ Q (.ref a) M2) fun z M3 => DW z p M3
section
variable {X : Cx} {W : WX} {k n : Nat} {C f : Addr} {fd : FuncData} {ps ks : List Str} {P : DSp} {dds : List D} {dvs : List V} {ds : List Value} {x : Str} {p pos : Pos} {e : Expr} {es : List Expr} {kws : List Keyword} {t tk : TA} {q qk : DTA} {idx : List Nat}
theorem isNon_v {K : PySem.W.Frag} {G : Hp} {d : D} {v : V} (r : Rep K G d v) (h : d = .non) : v = .non := by subst h; exact r
/-- the new instance stands: from its promise by data -/
theorem made_sim {K : PySem.W.Frag} {G H : Hp} {p : Rho} {M : Mst} {s : L2.St} (S : Sim K G H p M s) {a dx : Addr} (ha : H a = none) (hdx : H dx = none) (hn : dx ≠ a) : M a = none ∧ Sim K G (upd (upd H dx (.own a)) a (.ins C dx [])) p (put M a (.ins C [])) s := by
  refine ⟨S.mem.fresh ha, ?_⟩
  have S1 : Sim K G (upd H dx (.own a)) p M s := sim_laid S hdx
  exact S1.put (S1.same.free (by rw [upd_ne hn.symm]; exact ha)) ⟨dx, [], upd_same, rfl, rfl⟩
theorem run_fnE {sp : Sp} {E : L2.St → XK} {CX : CXT} {pins : List (Addr × Obj)} {σ : L2.St} {H : Hp} {s : Shared} {Q : VK} {us ws args : List Value} {vs : List V} (hargs : Vals vs args) (M : Mk X.K C f) (F : FnOk X.prog X.w X.K X.mg X.base CX k f fd ps sp) (hr : Room (k + 1) X.A)
    (hb : ∀ s : Shared, X.K.In s.heap → BindsTo s fd ⟨Value.ref (σ0 + 1) :: us, ks.zip ws⟩ (ps.zip args)) (hx : PassesAt CX X σ (E σ)) (I : Inv X pins σ H s) (e0 : s.heap.objs.size = σ0)
    (h : ∀ dx, H (σ0 + 1) = none → H dx = none → dx ≠ σ0 + 1 → sp vs (upd (upd H dx (.own (σ0 + 1))) (σ0 + 1) (.ins C dx [])) (fun v H2 => v = .non ∧ Q (.ref (σ0 + 1)) H2) (E σ)) :
    wpAny (model X.prog X.w) X.A (call (.ref C) us (ks.zip ws)) (EP X pins σ Q) X.xe s := by
  subst e0
  have hq := h s.heap.objs.size (I.hok.fresh (Nat.le_succ _)) (I.hok.fresh (Nat.le_refl _)) (Nat.ne_of_lt (Nat.lt_succ_self _))
  have I2 := Inv.made (C := C) I
  refine wpAny_call (make_map (f := f) I.kIn M.makes M.init (beq_iff_eq.mp M.fn) (codeAny_mono (F.run _ X.stack _ _ ⟨Value.ref (s.heap.objs.size + 1) :: us, ks.zip ws⟩ args vs _ (E σ) (hr.make C us (ks.zip ws))
    (I2.env0.make C us (ks.zip ws)) (hb _ I2.kIn) hargs hq) fun r s' hq' => ?_))
  cases r with
  | error e => exact hx pins _ _ e s' I2 hq'
  | ok fl =>
    cases fl with
    | ret u =>
      obtain ⟨v, H', I3, rv, ev, q3⟩ := I2.after hq'
      subst ev
      exact ⟨rv, ⟨V.ref (s.heap.objs.size + 1), H', I3, rfl, q3⟩⟩
    | next => exact False.elim hq'
    | brk => exact False.elim hq'
    | cont => exact False.elim hq'
theorem run_mk {sp : Sp} {E : L2.St → XK} {CX : CXT} {pins : List (Addr × Obj)} {σ : L2.St} {H : Hp} {s : Shared} {Q : VK} {us : List Value} {vs : List V} (M : Mk X.K C f) (F : FnOk X.prog X.w X.K X.mg X.base CX k f fd ps sp) (hr : Room (k + 1) X.A) (hb : Binds X.K fd ps ds) (hd : Vals dvs ds)
    (hx : PassesAt CX X σ (E σ)) (I : Inv X pins σ H s) (r : Vals vs us)
    (h : ∀ x dx, H x = none → H dx = none → dx ≠ x → sp (.ref x :: (vs ++ dvs)) (upd (upd H dx (.own x)) x (.ins C dx [])) (fun v H2 => v = .non ∧ Q (.ref x) H2) (E σ)) :
    wpAny (model X.prog X.w) X.A (call (.ref C) us) (EP X pins σ Q) X.xe s := by
  have r2 : Vals (V.ref (s.heap.objs.size + 1) :: (vs ++ dvs)) (Value.ref (s.heap.objs.size + 1) :: (us ++ ds)) := .cons rfl (r.append hd)
  refine run_fnE (ks := []) (ws := []) r2 M F hr (fun s' hi => ?_) hx I rfl fun dx h1 h2 h3 => h _ dx h1 h2 h3
  have hq := h (s.heap.objs.size + 1) s.heap.objs.size (I.hok.fresh (Nat.le_succ _)) (I.hok.fresh (Nat.le_refl _)) (Nat.ne_of_lt (Nat.lt_succ_self _))
  have hl : (Value.ref (s.heap.objs.size + 1) :: us ++ ds).length = ps.length := by
    have e := r2.length
    rw [F.len _ _ _ _ hq] at e
    exact e.symm
  exact hb s' (Value.ref (s.heap.objs.size + 1) :: us) hi hl
theorem ref_make {K : PySem.W.Frag} (ha : RefA K W t q) (hd : ∀ G, RepL K G dds dvs) : RefE K W (tMakeSD C (toSp K P) dvs (fun s => WE W s) t) (qMake C P dds q) :=
  fun DW G H p M s Q Q' hw S h k => ha DW G H p M s _ _ hw S h fun G1 H1 M1 as vs e1 S1 r1 h1 a dx ha' hdx hn => by
    obtain ⟨mn, S2⟩ := made_sim (C := C) S1 ha' hdx hn
    exact toSp_at (hw.mono e1) S2 (RepL.cons (d := .ref a) rfl (RepL.append r1 (hd _))) (h1 a mn) fun G' H' M' d v e3 S3 r3 ⟨hd', q3⟩ => ⟨isNon_v r3 hd', k G' H' M' (.ref a) (.ref a) (e1.trans e3) S3 rfl q3⟩
/-- C(e, ..) -/
theorem q_make (Mk_ : Mk X.K C f) (F : FnOk X.prog X.w X.K X.mg X.base (L2.CX X.prog X.w) k f fd ps (toSp X.K P)) (hr : Room (k + 1) X.A) (tk : Takes X W) (hg : Gl X x) (hm : X.mg x = some (.ref C)) (hb : Binds X.K fd ps ds) (hd : Vals dvs ds) (hdd : ∀ G, RepL X.K G dds dvs)
    (ha : QA X W (e :: es) t q) (hdb : (x == ("__debug__" : Str)) = false := by decide) (he : starEach (e :: es) X.env = (false, eval e X.env) :: starEach es X.env := by rfl) (hpl : (backTo pos (starEach es X.env)).any (·.1) = false := by rfl) :
    QE X W (.Call (.Name x p) (e :: es) [] pos) (tMakeSD C (toSp X.K P) dvs (fun s => WE W s) t) (qMake C P dds q) := by
  refine ⟨⟨fun pins s σ H Q I h => ?_⟩, ref_make ha.rf hdd⟩
  refine wpAny_Call_Name_kw (ld_glob I hg hm ?_ hdb)
  refine PySem.W.callWith_K (h₀ := X.base) I.ok.mod.kin Mk_.kp (thn (ha.pe.run pos pins s σ H _ I h) fun us s1 ⟨vs, H1, I1, r, q⟩ => ⟨I1.kIn, ?_⟩) he hpl
  exact run_mk (E := fun s => WE W s) Mk_ F hr hb hd (passAt tk σ) I1 r q
end
def qFrzE (q : DTE) : DTE := fun DW p M Q => q DW p M fun d M1 => match d with
  | .ref a => match M1 a with
    | some (.lst ds) => Q (.lst ds) (del M1 a)
    | some (.dK kvs) => Q (.dct (kvs.map (·.1)) (kvs.map (·.2))) (del M1 a)
    | some (.ins C fs) => Q (.ins C (fs.map (·.1)) (fs.map (·.2))) (del M1 a)
    | _ => False
  | d => Q d M1
theorem q_frzE {X : Cx} {W : WX} {e : Expr} {t : TE} {q : DTE} (h : QE X W e t q) : QE X W e t (qFrzE q) :=
  ⟨h.pe, fun DW G H p M s Q Q' hw S hq k => h.rf DW G H p M s _ _ hw S hq fun G1 H1 M1 d v e1 S1 r1 h1 => by
    split at h1
    · next a =>
      cases r1
      split at h1
      · next ds em =>
        obtain ⟨G', e2, S', r⟩ := S1.freeze em
        exact k G' H1 _ _ _ (e1.trans e2) S' r h1
      · next ds em =>
        obtain ⟨G', e2, S', r⟩ := S1.freezeD em
        exact k G' H1 _ _ _ (e1.trans e2) S' r h1
      · next C fs em =>
        obtain ⟨G', e2, S', r⟩ := S1.freezeI em
        exact k G' H1 _ _ _ (e1.trans e2) S' r h1
      · exact h1.elim
    · exact k G1 H1 M1 _ v e1 S1 r1 h1⟩
/-- an own class of the module -/
structure ClsO (K : PySem.W.Frag) (mg : Str → Option Value) (x : Str) (fs : List Str) where
  C : Addr
  g : mg x = some (.ref C)
  cl : Cls K C
  no : ∀ f ∈ fs, NoAttr K C f
/-- a method of it -/
structure MthAt (K : PySem.W.Frag) (C : Addr) (x qual : Str) (st : Stmt) (ps : List Str) where
  f : Addr
  fd : FuncData
  m : Meth K C x f
  F : Fun K x qual st f fd
  b : Binds K fd ps []
end DL
namespace DL
open PySem L2
section
variable {prog : Program} {w : World} {A : Around} {E : Value → Shared → Prop} {s : Shared}
theorem enum_endL {e it l : Addr} {i : Nat} {c : Int} {items : Array Value} {old : Value} {Q : Option Value → Shared → Prop} (hh : A.handled = none)
    (he : IsEnum s.heap e it c old) (hit : s.heap.IsListIter it l i) (hl : s.heap.IsList l items) (hx : items[i]? = none)
    (hQ : ∀ h', Heap.ExtBut it s.heap h' → Q none { s with heap := h' }) : wpAny (model prog w) A (pyNext (.ref e)) Q E s := by
  have hT : s.TypeIs (.ref e) "enumerate" := ⟨_, he, rfl⟩
  unfold pyNext
  refine wpAny_bind (wpAny_attempt (wpAny_callSpecial?_slot (name := Str.ofString "__next__") hT F.slot_enumerate_next
    (wpAny_call_entry F.slot_enumerate_next hT F.entry_enumerate_next ?_ (F.args_enumerate_next_1 _))))
  show wpAny _ _ (field (.ref e) 2 >>= _) _ _ _
  refine wpAny_bind (wpAny_field he rfl (x := .ref it) rfl ?_)
  refine wpAny_bind (wpAny_nextOf_list_end hh hit hl hx fun h' x he' hx' => ?_)
  obtain ⟨o, ho, hc⟩ := hx'
  refine wpAny_bind (wpAny_isInstance (T := "StopIteration") (b := true) ⟨o, ho, hc⟩ isSubtype_stop ?_)
  exact wpAny_pure (hQ _ he')
theorem enum_endT {e it l : Addr} {i : Nat} {c : Int} {items : Array Value} {old : Value} {Q : Option Value → Shared → Prop} (hh : A.handled = none)
    (he : IsEnum s.heap e it c old) (hit : s.heap.IsTupleIter it l i) (hl : s.heap.IsTuple l items) (hx : items[i]? = none)
    (hQ : ∀ h', Heap.ExtBut it s.heap h' → Q none { s with heap := h' }) : wpAny (model prog w) A (pyNext (.ref e)) Q E s := by
  have hT : s.TypeIs (.ref e) "enumerate" := ⟨_, he, rfl⟩
  unfold pyNext
  refine wpAny_bind (wpAny_attempt (wpAny_callSpecial?_slot (name := Str.ofString "__next__") hT F.slot_enumerate_next
    (wpAny_call_entry F.slot_enumerate_next hT F.entry_enumerate_next ?_ (F.args_enumerate_next_1 _))))
  show wpAny _ _ (field (.ref e) 2 >>= _) _ _ _
  refine wpAny_bind (wpAny_field he rfl (x := .ref it) rfl ?_)
  refine wpAny_bind (wpAny_nextOf_tuple_end hh hit hl hx fun h' x he' hx' => ?_)
  obtain ⟨o, ho, hc⟩ := hx'
  refine wpAny_bind (wpAny_isInstance (T := "StopIteration") (b := true) ⟨o, ho, hc⟩ isSubtype_stop ?_)
  exact wpAny_pure (hQ _ he')
end
/-- the list at a as it stands at each turn, each item in a new pair with its count -/
def IeL (K : PySem.W.Frag) (k : Int) (a : Addr) : It :=
  ⟨fun i H => ∃ (xs : List V) (x : V), SqL K H a xs ∧ xs[i]? = some x, fun i H v H' => ∃ T x, v = .ref T ∧ H T = none ∧ H' = upd H T (.tup [.int (k + (i : Nat)), x]) ∧ ∀ xs, SqL K H a xs → xs[i]? = some x, fun i H => ∃ xs : List V, SqL K H a xs ∧ xs.length ≤ i⟩
theorem turn_enumL {P : Program} {w : World} {K : PySem.W.Frag} {elts : List Expr} {kk : Nat} {tpos : Pos} (k : Int) (a e it : Addr) (hai : a ≠ it) (hae : a ≠ e) :
    Turn P w K (.Tuple elts kk tpos) (IeL K k a) [e, it] e (fun i h => (∃ old, IsEnum h e it (k + (i : Nat)) old) ∧ h.IsListIter it a i ∧ e ≠ it) where
  mem := by simp
  obj := fun i h st b hb => by
    obtain ⟨⟨old, he⟩, ⟨o, ho, hc, hd⟩, _⟩ := st
    have e' : b = e ∨ b = it := by simpa using hb
    rcases e' with z | z
    · rw [z]; exact ⟨_, he, fun v q => nomatch q⟩
    · rw [z]; exact ⟨o, ho, fun v q => by rw [hd] at q; cases q⟩
  keep := fun i h h' st k => let ⟨⟨old, he⟩, hi, hne⟩ := st; ⟨⟨old, k e (by simp) _ he⟩, hi.at fun o q => k it (by simp) o q, hne⟩
  item := by
    intro X hP hw hK hc i pins s σ H E I hf st hg
    subst hP hw hK
    obtain ⟨⟨old, he⟩, hit, hne⟩ := st
    obtain ⟨xs, x, hq, hx⟩ := hg
    obtain ⟨its, rv, p, hz⟩ := I.list hq
    obtain ⟨u, hu, ru⟩ := rv.get hx
    have hel : e < s.heap.objs.size := Heap.lt_size he
    have hil : it < s.heap.objs.size := by obtain ⟨_, q, _⟩ := hit; exact Heap.lt_size q
    have hlt : i < its.toArray.size := by
      have := (List.getElem?_eq_some_iff.mp hu).1
      simpa using this
    have D := Draws.list (prog := X.prog) (w := X.w) (A := X.A.in1) (by exact I.ok.hd hc) it a hai its.toArray
    refine wpAny_pyNext_enum_itemC D he ⟨hit, p.isList⟩ hlt hne (by simp [hne, Ne.symm hae]) fun y h' tk hy ho hit' hT hsz hk => ?_
    have ey : y = u := by
      have h2 : its.toArray[i]? = some u := by simpa using hu
      rw [h2] at hy; exact (Option.some.inj hy).symm
    subst ey
    obtain ⟨hit', hls'⟩ := hit'
    refine ⟨_, rfl, wpAny_letOwnedTupleGo_enum (s := { s with heap := h', toks := tk + 1 }) ho fun h'' he' sb => ?_⟩
    have hT2 : h''.get? s.heap.objs.size = some { cls := .type "tuple", data := .seq #[.int (k + (i : Nat)) tk, y] } := (sb.2 _ (Nat.ne_of_gt hel)).trans hT
    have new : ObjOk X.prog X.w (upd H s.heap.objs.size (.tup [.int (k + (i : Nat)), x])) h'' s.heap.objs.size (.tup [.int (k + (i : Nat)), x]) :=
      ⟨by show 2 ≤ sizeLine; decide, [.int (k + (i : Nat)) tk, y], .cons ⟨_, rfl⟩ (.cons ru .nil), ⟨_, hT2, rfl, _, rfl⟩⟩
    have I1 : Inv X pins σ (upd H s.heap.objs.size (.tup [.int (k + (i : Nat)), x])) { s with heap := h'', toks := tk + 1 } :=
      I.turnedNew (ch := [e, it]) (fun b ob hb q => (sb.2 b (fun z => hb (by simp [z]))).trans (hk b ob (fun z => hb (by simp [z])) (fun z => hb (by simp [z])) q)) hf (Nat.le_refl _) new
    refine ⟨.ref s.heap.objs.size, _, I1, rfl, ⟨_, x, rfl, I.hok.fresh (Nat.le_refl _), rfl, fun ys hy => by rw [I.list_inj hy hq]; exact hx⟩, ⟨⟨y, ?_⟩, hit'.at fun o q => (sb.2 it (Ne.symm hne)).trans q, hne⟩, fun b hb => ?_⟩
    · have e1 : k + ((i + 1 : Nat) : Int) = k + (i : Nat) + 1 := by omega
      rw [e1]; exact he'
    · have hb' : b < s.heap.objs.size := by
        have e' : b = e ∨ b = it := by simpa using hb
        rcases e' with z | z
        · rw [z]; exact hel
        · rw [z]; exact hil
      rw [upd_ne (Nat.ne_of_lt hb')]
      exact (hf b hb).1
  done := by
    intro X hP hw hK hc i pins s σ H E I hf st hg
    subst hP hw hK
    obtain ⟨⟨old, he⟩, hit, hne⟩ := st
    obtain ⟨xs, hq, hx⟩ := hg
    obtain ⟨its, rv, p, hz⟩ := I.list hq
    obtain ⟨f0, f1, f2, f3, f4, f5⟩ := hf it (by simp)
    have hl := rv.length
    have D := Draws.list (prog := X.prog) (w := X.w) (A := X.A.in1) (by exact I.ok.hd hc) it a hai its.toArray
    exact enum_endL (I.ok.hd hc) he hit (p.isList) (by simp; omega) fun h' eb => ⟨rfl, I.turned (t' := s.toks) (fun b o hb q => eb b o hb q) f0 f1 f3 f4 f5⟩
  self := fun A i s Q E st h => let ⟨⟨_, he⟩, _⟩ := st; wpAny_pyIter_enum he h
/-- the tuple at a as it stands at each turn, each item in a new pair with its count -/
def IeT (K : PySem.W.Frag) (k : Int) (a : Addr) : It :=
  ⟨fun i H => ∃ (xs : List V) (x : V), SqT K H a xs ∧ xs[i]? = some x, fun i H v H' => ∃ T x, v = .ref T ∧ H T = none ∧ H' = upd H T (.tup [.int (k + (i : Nat)), x]) ∧ ∀ xs, SqT K H a xs → xs[i]? = some x, fun i H => ∃ xs : List V, SqT K H a xs ∧ xs.length ≤ i⟩
theorem turn_enumT {P : Program} {w : World} {K : PySem.W.Frag} {elts : List Expr} {kk : Nat} {tpos : Pos} (k : Int) (a e it : Addr) (hai : a ≠ it) (hae : a ≠ e) :
    Turn P w K (.Tuple elts kk tpos) (IeT K k a) [e, it] e (fun i h => (∃ old, IsEnum h e it (k + (i : Nat)) old) ∧ h.IsTupleIter it a i ∧ e ≠ it) where
  mem := by simp
  obj := fun i h st b hb => by
    obtain ⟨⟨old, he⟩, ⟨o, ho, hc, hd⟩, _⟩ := st
    have e' : b = e ∨ b = it := by simpa using hb
    rcases e' with z | z
    · rw [z]; exact ⟨_, he, fun v q => nomatch q⟩
    · rw [z]; exact ⟨o, ho, fun v q => by rw [hd] at q; cases q⟩
  keep := fun i h h' st k => let ⟨⟨old, he⟩, hi, hne⟩ := st; ⟨⟨old, k e (by simp) _ he⟩, hi.at fun o q => k it (by simp) o q, hne⟩
  item := by
    intro X hP hw hK hc i pins s σ H E I hf st hg
    subst hP hw hK
    obtain ⟨⟨old, he⟩, hit, hne⟩ := st
    obtain ⟨xs, x, hq, hx⟩ := hg
    obtain ⟨its, rv, p, hz⟩ := I.tuple hq
    obtain ⟨u, hu, ru⟩ := rv.get hx
    have hel : e < s.heap.objs.size := Heap.lt_size he
    have hil : it < s.heap.objs.size := by obtain ⟨_, q, _⟩ := hit; exact Heap.lt_size q
    have hlt : i < its.toArray.size := by
      have := (List.getElem?_eq_some_iff.mp hu).1
      simpa using this
    have D := Draws.tuple (prog := X.prog) (w := X.w) (A := X.A.in1) (by exact I.ok.hd hc) it a hai its.toArray
    refine wpAny_pyNext_enum_itemC D he ⟨hit, p⟩ hlt hne (by simp [hne, Ne.symm hae]) fun y h' tk hy ho hit' hT hsz hk => ?_
    have ey : y = u := by
      have h2 : its.toArray[i]? = some u := by simpa using hu
      rw [h2] at hy; exact (Option.some.inj hy).symm
    subst ey
    obtain ⟨hit', hls'⟩ := hit'
    refine ⟨_, rfl, wpAny_letOwnedTupleGo_enum (s := { s with heap := h', toks := tk + 1 }) ho fun h'' he' sb => ?_⟩
    have hT2 : h''.get? s.heap.objs.size = some { cls := .type "tuple", data := .seq #[.int (k + (i : Nat)) tk, y] } := (sb.2 _ (Nat.ne_of_gt hel)).trans hT
    have new : ObjOk X.prog X.w (upd H s.heap.objs.size (.tup [.int (k + (i : Nat)), x])) h'' s.heap.objs.size (.tup [.int (k + (i : Nat)), x]) :=
      ⟨by show 2 ≤ sizeLine; decide, [.int (k + (i : Nat)) tk, y], .cons ⟨_, rfl⟩ (.cons ru .nil), ⟨_, hT2, rfl, _, rfl⟩⟩
    have I1 : Inv X pins σ (upd H s.heap.objs.size (.tup [.int (k + (i : Nat)), x])) { s with heap := h'', toks := tk + 1 } :=
      I.turnedNew (ch := [e, it]) (fun b ob hb q => (sb.2 b (fun z => hb (by simp [z]))).trans (hk b ob (fun z => hb (by simp [z])) (fun z => hb (by simp [z])) q)) hf (Nat.le_refl _) new
    refine ⟨.ref s.heap.objs.size, _, I1, rfl, ⟨_, x, rfl, I.hok.fresh (Nat.le_refl _), rfl, fun ys hy => by rw [I.tuple_inj hy hq]; exact hx⟩, ⟨⟨y, ?_⟩, hit'.at fun o q => (sb.2 it (Ne.symm hne)).trans q, hne⟩, fun b hb => ?_⟩
    · have e1 : k + ((i + 1 : Nat) : Int) = k + (i : Nat) + 1 := by omega
      rw [e1]; exact he'
    · have hb' : b < s.heap.objs.size := by
        have e' : b = e ∨ b = it := by simpa using hb
        rcases e' with z | z
        · rw [z]; exact hel
        · rw [z]; exact hil
      rw [upd_ne (Nat.ne_of_lt hb')]
      exact (hf b hb).1
  done := by
    intro X hP hw hK hc i pins s σ H E I hf st hg
    subst hP hw hK
    obtain ⟨⟨old, he⟩, hit, hne⟩ := st
    obtain ⟨xs, hq, hx⟩ := hg
    obtain ⟨its, rv, p, hz⟩ := I.tuple hq
    obtain ⟨f0, f1, f2, f3, f4, f5⟩ := hf it (by simp)
    have hl := rv.length
    have D := Draws.tuple (prog := X.prog) (w := X.w) (A := X.A.in1) (by exact I.ok.hd hc) it a hai its.toArray
    exact enum_endT (I.ok.hd hc) he hit (p) (by simp; omega) fun h' eb => ⟨rfl, I.turned (t' := s.toks) (fun b o hb q => eb b o hb q) f0 f1 f3 f4 f5⟩
  self := fun A i s Q E st h => let ⟨⟨_, he⟩, _⟩ := st; wpAny_pyIter_enum he h
end DL
namespace PySem
set_option maxHeartbeats 1000000 in
theorem meets_enumerate_new0 {v : Value} {o : Obj} {H : Heap → Prop} (B : Begins v o H) :
    Meets (Builtin.«enumerate.__new__» ⟨[.type "enumerate", v], []⟩) (fun _ R s => H s.heap ∧
      R (.ok (.ret (.ref (s.heap.push o).objs.size))) { s with heap := (s.heap.push o).push { cls := .type "enumerate", data := .fields #[.none, .bool false, .ref s.heap.objs.size, rawInt 0, .none, .none] } }) :=
  .of_wp fun prog w A R s h => by
    obtain ⟨hp, g, d, tk, os⟩ := s; obtain ⟨h1, h⟩ := h
    have hsub := sub_enumerate
    have q1 : ∀ {A' : Around} {E : Value → Shared → Prop} {Q : Value → Shared → Prop}, Q (.ref hp.objs.size) ⟨hp.push o, g, d, tk, os⟩ → wpAny (model prog w) A' (pyIter v) Q E ⟨hp, g, d, tk, os⟩ :=
      fun q => B.iter prog w _ _ ⟨hp, g, d, tk, os⟩ _ h1 q
    wp_walk using q1
    refine wpAny_stack_any fun st => wpAny_pure ?_
    split
    · rename_i c _ _ _ _ _
      cases (c == Value.type "enumerate")
      · wp_walk using q1
        exact ⟨_, rfl, h⟩
      · wp_walk using q1
        exact ⟨_, rfl, h⟩
    · wp_walk using q1
      exact ⟨_, rfl, h⟩
theorem enum_begins0 {prog : Program} {w : World} {A : Around} {E : Value → Shared → Prop} {s : Shared} {v : Value} {o : Obj} {H : Heap → Prop} {Q : Value → Shared → Prop} (B : Begins v o H) (h1 : H s.heap)
    (h : ∀ h', IsEnum h' (s.heap.objs.size + 1) s.heap.objs.size 0 .none → h'.get? s.heap.objs.size = some o → h'.objs.size = s.heap.objs.size + 2 →
      (∀ b o, s.heap.get? b = some o → h'.get? b = some o) → Q (.ref (s.heap.objs.size + 1)) { s with heap := h' }) :
    wpAny (model prog w) A (call (.type "enumerate") [v]) Q E s := by
  refine callType_new F.called_enumerate (by decide) (F.typeCall_enumerate_1 _) (F.newCall_enumerate_1 _) (fun obj => F.args_object_init_2 obj _) F.entry_enumerate_new
    (meets_enumerate_new0 B) ⟨h1, ?_⟩
  have hz : (s.heap.push o).objs.size = s.heap.objs.size + 1 := Heap.size_push ..
  show _ ∧ _
  rw [hz]
  have he : IsEnum ((s.heap.push o).push { cls := .type "enumerate", data := .fields #[.none, .bool false, .ref s.heap.objs.size, rawInt 0, .none, .none] }) (s.heap.objs.size + 1) s.heap.objs.size 0 .none := by
    have := Heap.get?_push_size (s.heap.push o) (o := { cls := .type "enumerate", data := .fields #[.none, .bool false, .ref s.heap.objs.size, rawInt 0, .none, .none] }) rfl
    rw [hz] at this; exact this
  refine ⟨⟨_, he, rfl⟩, h _ he (Heap.get?_push_of_some _ (Heap.get?_push_size _ B.free)) (by rw [Heap.size_push, hz]) fun b o x => Heap.get?_push_of_some _ (Heap.get?_push_of_some _ x)⟩
end PySem
namespace DL
open PySem L2
/-- enumerate(x), enumerate(x, start=k): what stands at the start is given as a value -/
theorem enum_begin {X : Cx} {pins : List (Addr × Obj)} {σ : L2.St} {H : Hp} {s : Shared} {elts : List Expr} {kk : Nat} {tpos : Pos} {R : It → Hp → Prop} {a : Addr} {xs : List V} {k : Int} (I : Inv X pins σ H s) (hk0 : -(2 ^ 63) ≤ k) (hk1 : k < 2 ^ 63)
    (h : (SqL X.K H a xs ∧ R (IeL X.K k a) H) ∨ (SqT X.K H a xs ∧ R (IeT X.K k a) H)) :
    ∃ (o : Obj) (HH : Heap → Prop), Begins (.ref a) o HH ∧ HH s.heap ∧ ∀ h', IsEnum h' (s.heap.objs.size + 1) s.heap.objs.size k .none → h'.get? s.heap.objs.size = some o → h'.objs.size = s.heap.objs.size + 2 →
      (∀ b o, s.heap.get? b = some o → h'.get? b = some o) → PIE X pins σ (.Tuple elts kk tpos) R (.ref (s.heap.objs.size + 1)) { s with heap := h' } := by
  have fp : ∀ b ∈ [s.heap.objs.size + 1, s.heap.objs.size], FpOk X pins H b := fun b hb => by
    have e' : b = s.heap.objs.size + 1 ∨ b = s.heap.objs.size := by simpa using hb
    have hle : s.heap.objs.size ≤ b := by
      rcases e' with z | z
      · rw [z]; exact Nat.le_add_right _ _
      · rw [z]; exact Nat.le_refl _
    exact I.fpOk hle (I.hok.fresh hle)
  rcases h with ⟨hq, q⟩ | ⟨hq, q⟩
  · obtain ⟨its, rv, p, hz⟩ := I.list hq
    refine ⟨_, _, begins_list a its.toArray, p.isList, fun h' he ho hsz hk => ?_⟩
    have hal : a < s.heap.objs.size := p.lt
    have I2 : Inv X pins σ H { s with heap := h' } := I.kept (t' := s.toks) hk
    exact ⟨s.heap.objs.size + 1, [s.heap.objs.size + 1, s.heap.objs.size], _, _, H, rfl, I2, turn_enumL k a (s.heap.objs.size + 1) s.heap.objs.size (Nat.ne_of_lt hal) (Nat.ne_of_lt (Nat.lt_succ_of_lt hal)),
      ⟨⟨.none, by simpa using he⟩, ⟨_, ho, rfl, rfl⟩, Nat.succ_ne_self _⟩, fp, q⟩
  · obtain ⟨its, rv, p, hz⟩ := I.tuple hq
    refine ⟨_, _, begins_tuple a its.toArray, p, fun h' he ho hsz hk => ?_⟩
    have hal : a < s.heap.objs.size := by obtain ⟨o1, ho1, _⟩ := id p; exact Heap.lt_size ho1
    have I2 : Inv X pins σ H { s with heap := h' } := I.kept (t' := s.toks) hk
    exact ⟨s.heap.objs.size + 1, [s.heap.objs.size + 1, s.heap.objs.size], _, _, H, rfl, I2, turn_enumT k a (s.heap.objs.size + 1) s.heap.objs.size (Nat.ne_of_lt hal) (Nat.ne_of_lt (Nat.lt_succ_of_lt hal)),
      ⟨⟨.none, by simpa using he⟩, ⟨_, ho, rfl, rfl⟩, Nat.succ_ne_self _⟩, fp, q⟩
section
variable {M : Model} {A : Around} {E : Value → Shared → Prop} {s : Shared} {env : Env}
theorem callWith_type_kwB {pos : Pos} {id : String} {first : List Value} {args : List (Bool × Sem Value)} {keywords : List (Option Str × Sem Value)} {Q : Value → Shared → Prop}
    (hplain : args.any (·.1) = false) (hkw : keywords.any (·.1.isNone) = false)
    (h : wpAny M A (evalArgs (.type id) true args keywords) (fun a s₁ => wpAny M A (call (.type id) (first ++ a.pos) a.kw) Q E s₁) E s) :
    wpAny M A (callWith pos (.type id) first args keywords) Q E s := by
  unfold callWith
  refine wpAny_bind (wpAny_holding (wpAny_mono h (fun a s₁ h₁ => wpAny_bind (wpAny_standAt ?_)) fun _ _ x => x))
  simp only [hplain, hkw, Bool.or_false]
  refine wpAny_bind (wpAny_pure ?_)
  exact wpAny_bind (wpAny_mono h₁ (fun r s₂ hr => wpAny_bind (wpAny_holding (wpAny_point (wpAny_pure hr)))) fun _ _ x => x)
theorem callWith_type_kw {pos : Pos} {id : String} {e : Expr} {rest : List Expr} {kws : List Keyword} {Q : Value → Shared → Prop}
    (h : wpAny M A (spliced (backTo pos (starEach (e :: rest) env))) (fun vs s₁ => wpAny M A (evalAll ((backToKw pos (keywordEach kws env)).map (·.2)))
      (fun kvs s₂ => wpAny M A (call (.type id) vs (((backToKw pos (keywordEach kws env)).filterMap (·.1)).zip kvs)) Q E s₂) E s₁) E s)
    (he : starEach (e :: rest) env = (false, eval e env) :: starEach rest env := by rfl)
    (hplain : (backTo pos (starEach (e :: rest) env)).any (·.1) = false := by rfl)
    (hall : (backToKw pos (keywordEach kws env)).all (·.1.isSome) = true := by rfl)
    (hkw : (backToKw pos (keywordEach kws env)).any (·.1.isNone) = false := by rfl) :
    wpAny M A (callWith pos (.type id) [] (backTo pos (starEach (e :: rest) env)) (backToKw pos (keywordEach kws env))) Q E s := by
  refine callWith_type_kwB hplain hkw ?_
  exact PyProof.Rows.evalArgs_kw2 hall h he
end
/-- the things of a list or a tuple, frozen or not, and what keeps them -/
def seqAt (M : Mst) : D → Option (Bool × List D × (Mst → Prop))
  | .lst ds => some (false, ds, always)
  | .tup ds => some (true, ds, always)
  | .ktp ds => some (true, ds, always)
  | .xtp ds => some (true, ds, always)
  | .ref a => match M a with
    | some (.lst ds) => some (false, ds, holds a (.lst ds))
    | _ => none
  | _ => none
def iEnumC (K : PySem.W.Frag) (ta tk : TA) : TI := fun σ H R => ta σ H fun vs H1 => tk σ H1 fun zs H2 => ∃ a xs k, vs = [.ref a] ∧ zs = [.int k] ∧ -(2 ^ 63) ≤ k ∧ k < 2 ^ 63 ∧ ((SqL K H2 a xs ∧ R (IeL K k a) H2) ∨ (SqT K H2 a xs ∧ R (IeT K k a) H2))
def iEnum0 (K : PySem.W.Frag) (ta : TA) : TI := fun σ H R => ta σ H fun vs H1 => ∃ a xs, vs = [.ref a] ∧ ((SqL K H1 a xs ∧ R (IeL K 0 a) H1) ∨ (SqT K H1 a xs ∧ R (IeT K 0 a) H1))
def enumDI : Int → List D → List D
  | _, [] => []
  | n, d :: ds => .tup [.int n, d] :: enumDI (n + 1) ds
@[simp] theorem enumDI_length : ∀ (n : Int) (ds : List D), (enumDI n ds).length = ds.length
  | _, [] => rfl
  | n, d :: ds => by simp [enumDI, enumDI_length (n + 1) ds]
theorem enumDI_get : ∀ (n : Int) (ds : List D) (i : Nat), (enumDI n ds)[i]? = (ds[i]?).map fun d => .tup [.int (n + (i : Nat)), d]
  | _, [], i => by simp [enumDI]
  | n, d :: ds, 0 => by simp [enumDI]
  | n, d :: ds, i + 1 => by
    simp only [enumDI, List.getElem?_cons_succ]
    rw [enumDI_get (n + 1) ds i]
    have e : n + 1 + ((i : Nat) : Int) = n + ((i + 1 : Nat) : Int) := by omega
    rw [e]
theorem feed_enumL {K : PySem.W.Frag} {G : Hp} {a : Addr} {k : Int} {ds : List D} {Sty : Mst → Prop} (h : ∀ G' H p M s, Same G G' → Sim K G' H p M s → Sty M → ∃ us, SqL K H a us ∧ RepL K G' ds us) : Feed K G (IeL K k a) (enumDI k ds) Sty where
  go := fun G' H p M s i e S y hi => by
    obtain ⟨us, h1, h2⟩ := h G' H p M s e S y
    obtain ⟨v, hv⟩ := get_lt (xs := us) (i := i) (by rw [h2.length]; simpa using hi)
    exact ⟨us, v, h1, hv⟩
  yld := fun G' H p M s i x H' e S y hy d hd => by
    obtain ⟨T, v, rfl, hT, rfl, hall⟩ := hy
    obtain ⟨us, h1, h2⟩ := h G' H p M s e S y
    rw [enumDI_get] at hd
    obtain ⟨d', hd', rfl⟩ := Option.map_eq_some_iff.mp hd
    obtain ⟨v', hv', rv⟩ := h2.get hd'
    have := (hall us h1).symm.trans hv'
    cases this
    obtain ⟨e2, S2⟩ := S.made (o := .tup [.int (k + (i : Nat)), v]) hT
    exact ⟨_, e2, S2, T, _, rfl, upd_same, RepL.cons (d := .int _) rfl (RepL.cons (Rep.mono e2 _ _ rv) rfl), sz1000 (by simp)⟩
  stop := fun G' H p M s e S y => by
    obtain ⟨us, h1, h2⟩ := h G' H p M s e S y
    exact ⟨us, h1, by rw [h2.length]; simp⟩
theorem feed_enumT {K : PySem.W.Frag} {G : Hp} {a : Addr} {k : Int} {ds : List D} {Sty : Mst → Prop} (h : ∀ G' H p M s, Same G G' → Sim K G' H p M s → Sty M → ∃ us, SqT K H a us ∧ RepL K G' ds us) : Feed K G (IeT K k a) (enumDI k ds) Sty where
  go := fun G' H p M s i e S y hi => by
    obtain ⟨us, h1, h2⟩ := h G' H p M s e S y
    obtain ⟨v, hv⟩ := get_lt (xs := us) (i := i) (by rw [h2.length]; simpa using hi)
    exact ⟨us, v, h1, hv⟩
  yld := fun G' H p M s i x H' e S y hy d hd => by
    obtain ⟨T, v, rfl, hT, rfl, hall⟩ := hy
    obtain ⟨us, h1, h2⟩ := h G' H p M s e S y
    rw [enumDI_get] at hd
    obtain ⟨d', hd', rfl⟩ := Option.map_eq_some_iff.mp hd
    obtain ⟨v', hv', rv⟩ := h2.get hd'
    have := (hall us h1).symm.trans hv'
    cases this
    obtain ⟨e2, S2⟩ := S.made (o := .tup [.int (k + (i : Nat)), v]) hT
    exact ⟨_, e2, S2, T, _, rfl, upd_same, RepL.cons (d := .int _) rfl (RepL.cons (Rep.mono e2 _ _ rv) rfl), sz1000 (by simp)⟩
  stop := fun G' H p M s e S y => by
    obtain ⟨us, h1, h2⟩ := h G' H p M s e S y
    exact ⟨us, h1, by rw [h2.length]; simp⟩
theorem seqAt_feed {K : PySem.W.Frag} {G H : Hp} {p : Rho} {M : Mst} {s : L2.St} {d : D} {v : V} {k : Int} {t : Bool} {ds : List D} {Sty : Mst → Prop} (S : Sim K G H p M s) (r : Rep K G d v) (h : seqAt M d = some (t, ds, Sty)) :
    Sty M ∧ ∃ a xs, v = .ref a ∧ ds.length ≤ sizeLine ∧ ((SqL K H a xs ∧ Feed K G (IeL K k a) (enumDI k ds) Sty) ∨ (SqT K H a xs ∧ Feed K G (IeT K k a) (enumDI k ds) Sty)) := by
  cases d with
  | lst es =>
    cases h
    obtain ⟨a, vs, rfl, h2, h3, h4⟩ := r
    refine ⟨trivial, a, vs, rfl, by rw [← h3.length]; exact h4, .inl ⟨.inl (.inl (S.same _ _ h2)), feed_enumL fun G' H' p' M' s' e S' _ => ⟨vs, .inl (.inl (S'.same _ _ (e _ _ h2))), RepL.mono e _ _ h3⟩⟩⟩
  | tup es =>
    cases h
    obtain ⟨a, vs, rfl, h2, h3, h4⟩ := r
    refine ⟨trivial, a, vs, rfl, by rw [← h3.length]; exact h4, .inr ⟨.inl (.inl (S.same _ _ h2)), feed_enumT fun G' H' p' M' s' e S' _ => ⟨vs, .inl (.inl (S'.same _ _ (e _ _ h2))), RepL.mono e _ _ h3⟩⟩⟩
  | ktp es =>
    cases h
    obtain ⟨a, vs, rfl, h2, h3, h4⟩ := r
    refine ⟨trivial, a, vs, rfl, by rw [← h3.length]; exact h4, .inr ⟨same_t S.same h2, feed_enumT fun G' H' p' M' s' e S' _ => ⟨vs, same_t S'.same (same_t e h2), RepL.mono e _ _ h3⟩⟩⟩
  | xtp es =>
    cases h
    obtain ⟨a, o, vs, rfl, h2, h0, h3, h4⟩ := r
    refine ⟨trivial, a, vs, rfl, by rw [← h3.length]; exact h4, .inr ⟨.inl (.inr ⟨o, S.same _ _ h2⟩), feed_enumT fun G' H' p' M' s' e S' _ => ⟨vs, .inl (.inr ⟨o, S'.same _ _ (e _ _ h2)⟩), RepL.mono e _ _ h3⟩⟩⟩
  | ref a =>
    simp only [seqAt] at h
    split at h
    · next es em =>
      cases h
      cases r
      obtain ⟨gn, vs, h1, h2, h3⟩ := S.mem _ _ em
      refine ⟨em, a, vs, rfl, by rw [← h2.length]; exact h3, .inl ⟨.inl (.inl h1), feed_enumL fun G' H' p' M' s' e S' hm => ?_⟩⟩
      obtain ⟨gn', us, g1, g2, g3⟩ := S'.mem _ _ hm
      exact ⟨us, .inl (.inl g1), g2⟩
    · cases h
  | _ => cases h
def qiEnum0 (qa : DTA) : DTI := fun DW p M R => qa DW p M fun ds M1 => match ds with
  | [x] => match seqAt M1 x with
    | some (_, es, Sty) => R (enumDI 0 es) Sty M1
    | none => False
  | _ => False
def qiEnumC (qa qk : DTA) : DTI := fun DW p M R => qa DW p M fun ds M1 => qk DW p M1 fun zs M2 => match ds, zs with
  | [x], [.int k] => -(2 ^ 62) ≤ k ∧ k < 2 ^ 62 ∧ match seqAt M2 x with
    | some (_, es, Sty) => R (enumDI k es) Sty M2
    | none => False
  | _, _ => False
section
variable {X : Cx} {W : WX} {e : Expr} {ta tk : TA} {qa qk : DTA} {p pos tpos : Pos} {elts : List Expr} {kws : List Keyword} {kk : Nat}
theorem qi_enum0 (hg : Gl X "enumerate") (hm : X.mg "enumerate" = none) (ha : QA X W [e] ta qa) (hs : starEach [e] X.env = [(false, eval e X.env)] := by rfl) :
    QI X W (.Tuple elts kk tpos) (.Call (.Name "enumerate" p) [e] [] pos) (iEnum0 X.K ta) (qiEnum0 qa) := by
  refine ⟨⟨fun pins s σ H R I h => ?_⟩, fun DW G H p M s R R' hw S h k => ha.rf DW G H p M s _ _ hw S h fun G1 H1 M1 ds vs e1 S1 r1 h1 => ?_⟩
  · refine PyProof.Rows.Call_ (ld_blt I hg hm PyProof.Rows.boot_enumerate (PyProof.Rows.callWith_type1 (thn (ha.pe.run pos pins s σ H _ I h) fun us s1 ⟨vs, H1, I1, r1, q1⟩ => ?_) hs rfl))
    obtain ⟨a, xs, ex, q⟩ := q1
    subst ex
    cases r1 with
    | cons r rr =>
      cases rr
      cases r
      obtain ⟨o, HH, B, b1, fin⟩ := enum_begin (elts := elts) (kk := kk) (tpos := tpos) I1 (by decide) (by decide) q
      exact enum_begins0 B b1 fun h' he ho hsz hk => wpAny_pyIter_enum he (fin h' he ho hsz hk)
  · split at h1
    · next x =>
      obtain ⟨v, rfl, r2⟩ := repL1 r1
      split at h1
      · next t es Sty eo =>
        obtain ⟨sm, a, xs, rfl, hl, hc⟩ := seqAt_feed (k := 0) S1 r2 eo
        refine ⟨a, xs, rfl, ?_⟩
        rcases hc with ⟨c1, c2⟩ | ⟨c1, c2⟩
        · exact .inl ⟨c1, k G1 H1 M1 _ _ _ e1 S1 c2 (by simpa using hl) h1⟩
        · exact .inr ⟨c1, k G1 H1 M1 _ _ _ e1 S1 c2 (by simpa using hl) h1⟩
      · exact h1.elim
    · exact h1.elim
theorem qi_enumC (hg : Gl X "enumerate") (hm : X.mg "enumerate" = none) (ha : QA X W [e] ta qa) (hk : QK X W kws tk qk) (hs : starEach [e] X.env = (false, eval e X.env) :: starEach [] X.env := by rfl)
    (hpl : (backTo pos (starEach [e] X.env)).any (·.1) = false := by rfl) (hall : (backToKw pos (keywordEach kws X.env)).all (·.1.isSome) = true := by rfl) (hnone : (backToKw pos (keywordEach kws X.env)).any (·.1.isNone) = false := by rfl)
    (hks : (backToKw pos (keywordEach kws X.env)).filterMap (·.1) = [Str.ofString "start"] := by rfl) :
    QI X W (.Tuple elts kk tpos) (.Call (.Name "enumerate" p) [e] kws pos) (iEnumC X.K ta tk) (qiEnumC qa qk) := by
  refine ⟨⟨fun pins s σ H R I h => ?_⟩, fun DW G H p M s R R' hw S h k => ha.rf DW G H p M s _ _ hw S h fun G1 H1 M1 ds vs e1 S1 r1 h1 => hk.rf DW G1 H1 p M1 s _ _ (hw.mono e1) S1 h1 fun G2 H2 M2 zs us e2 S2 r2 h2 => ?_⟩
  · refine wpAny_Call_Name_kw (ld_blt I hg hm PyProof.Rows.boot_enumerate ?_)
    refine callWith_type_kw (thn (ha.pe.run pos pins s σ H _ I h) fun us s1 ⟨vs, H1, I1, r1, q1⟩ => thn (hk.pe.run pos pins s1 σ H1 _ I1 q1) fun ws s2 ⟨zs, H2, I2, r2, q2⟩ => ?_) hs hpl hall hnone
    rw [hks]
    obtain ⟨a, xs, k, ex, ez, k0, k1, q⟩ := q2
    subst ex ez
    cases r1 with
    | cons r rr =>
      cases rr
      cases r
      obtain ⟨w, rfl, rw_⟩ := r2.one
      obtain ⟨t, rfl⟩ := (show ∃ t, w = Value.int k t from rw_)
      obtain ⟨o, HH, B, b1, fin⟩ := enum_begin (elts := elts) (kk := kk) (tpos := tpos) I2 k0 k1 q
      exact enum_begins_start B b1 k0 k1 fun h' he ho hsz hk => wpAny_pyIter_enum he (fin h' he ho hsz hk)
  · split at h2
    · next x kz =>
      obtain ⟨k0, k1, h2⟩ := h2
      obtain ⟨v, rfl, r3⟩ := repL1 (RepL.mono e2 _ _ r1)
      obtain ⟨z, rfl, r4⟩ := repL1 r2
      cases r4
      split at h2
      · next t es Sty eo =>
        obtain ⟨sm, a, xs, rfl, hl, hc⟩ := seqAt_feed (k := kz) S2 r3 eo
        refine ⟨a, xs, kz, rfl, rfl, by omega, by omega, ?_⟩
        rcases hc with ⟨c1, c2⟩ | ⟨c1, c2⟩
        · exact .inl ⟨c1, k G2 H2 M2 _ _ _ (e1.trans e2) S2 c2 (by simpa using hl) h2⟩
        · exact .inr ⟨c1, k G2 H2 M2 _ _ _ (e1.trans e2) S2 c2 (by simpa using hl) h2⟩
      · exact h2.elim
    · exact h2.elim
end
end DL
namespace DL
open PySem L2
end DL
namespace DL
open PySem L2 Tx20 Tx21
end DL
namespace DL
open PySem PySem.Spec PyProof.Rows L2
/-- what a def promises where p's object, a caught exception, stands by -/
structure FnW (P : Program) (w : World) (K : PySem.W.Frag) (mg : Str → Option Value) (base : Heap) (CX : CXT) (k : Nat) (f : Addr) (fd : FuncData) (ps : List Str) (sp : Sp) (p : Addr × Obj) : Prop where
  len : ∀ vs H Q E, sp vs H Q E → vs.length = ps.length
  run : ∀ (A : Around) (outer : List Env) (s : Shared) (H : Hp) (args : Args) (us : List Value) (vs : List V) (Q : VK) (E : XK), L2H.RoomH k A → L2H.PinOk outer H s p → Env0 P w K mg base A outer s H → BindsTo s fd args (ps.zip us) → Vals vs us → sp vs H Q E →
    codeAny (model P w) A (.call (.ref f) args) (CR CX outer P w H s Q E) s
section
variable {P : Program} {w : World} {K : PySem.W.Frag} {mg : Str → Option Value} {base : Heap}
theorem FnW.mono {CX : CXT} {j k : Nat} {f : Addr} {fd : FuncData} {ps : List Str} {sp : Sp} {p : Addr × Obj} (F : FnW P w K mg base CX j f fd ps sp p) (h : j ≤ k) : FnW P w K mg base CX k f fd ps sp p :=
  ⟨F.len, fun A outer s H args us vs Q E hr => F.run A outer s H args us vs Q E (hr.mono h)⟩
theorem FnW.imp {CX : CXT} {k : Nat} {f : Addr} {fd : FuncData} {ps : List Str} {sp sp' : Sp} {p : Addr × Obj} (F : FnW P w K mg base CX k f fd ps sp p) (h : ∀ vs H Q E, sp' vs H Q E → sp vs H Q E) : FnW P w K mg base CX k f fd ps sp' p :=
  ⟨fun vs H Q E q => F.len vs H Q E (h _ _ _ _ q), fun A outer s H args us vs Q E hr hp he hb hv hs => F.run A outer s H args us vs Q E hr hp he hb hv (h _ _ _ _ hs)⟩
end
end DL
set_option maxHeartbeats 2000000
namespace DL
open PySem PySem.Spec PyProof.Rows L2
end DL
namespace DL
open PySem L2
end DL
set_option maxHeartbeats 1000000
namespace DL
open PySem PySem.Spec PyProof.Rows L2
/-- a promise of a call without arguments -/
abbrev DPf := Mst → DK → (DX → Mst → Prop) → Prop
section
variable {X : Cx} {pins : List (Addr × Obj)} {σ : L2.St} {H : Hp} {s : Shared}
abbrev cxG (X : Cx) (s : Shared) (H : Hp) (N : List Str) (q : Str) (sg : Scope) (g : Addr) (cd : Value) : Cx := cxOf C8.CX0 X.prog X.w X.K X.mg X.base N q sg g cd X.A X.stack s H C8.E0
end
/-- what the lambda's run makes of its promise -/
def LamOk (K : PySem.W.Frag) (vs : List V) (ds : List D) (tl : XK → Hp → VK → Prop) (pf : DPf) : Prop := ∀ (G1 H1 : Hp) (M1 : Mst) (Qd : DK) (Ed : DX → Mst → Prop) (Qv : VK) (Ev : XK), RepL K G1 ds vs → Same G1 H1 → MemOk K G1 H1 M1 → pf M1 Qd Ed →
  (∀ G' H' v d M', Same G1 G' → Same G' H' → Rep K G' d v → MemOk K G' H' M' → Qd d M' → Qv v H') →
  (∀ G' H' x cls dx M', Same G1 G' → Same G' H' → RepX K G' x cls dx → MemOk K G' H' M' → Ed x M' → Ev cls dx H') → tl Ev H1 Qv
def tAct (c' f : Addr) (q : Str) (tl : XK → Hp → VK → Prop) (W : WX) : TE := fun σZ HZ Q => σZ[0]? = some (some (.ref f)) ∧ HZ c' = some (LamX.CodeO c' q) ∧ tl (WE W σZ) HZ Q
/-- a def that is handed a lambda of the promise pf and keeps R pf -/
def GivesL (X : Cx) (N : List Str) (x : Str) (sg : Scope) (g : Addr) (cd : Value) (bg : List Stmt) (a q : Str) (R : DPf → Mst → DK → Prop) : Prop :=
  ∀ (f c' : Addr) (s : Shared) (G H : Hp) (M : Mst) (vs : List V) (ds : List D) (tl : XK → Hp → VK → Prop) (pf : DPf) (Q : DK) (Q' : VK),
    (∀ (W : WX) (pn : List (Addr × Obj)) (xe : Value → Shared → Prop) (p1 p2 : Pos), Takes ((cxG X s H N x sg g cd).tr pn xe) W → PE ((cxG X s H N x sg g cd).tr pn xe) (.Call (.Name a p1) [] [] p2) (tAct c' f q tl W)) →
    G c' = some (LamX.CodeO c' q) → Same G H → MemOk X.K G H M → RepL X.K G ds vs → LamOk X.K vs ds tl pf → R pf M Q →
    (∀ G' H' v d M', Same G G' → Same G' H' → Rep X.K G' d v → MemOk X.K G' H' M' → Q d M' → Q' v H') →
    ∃ t, PSs (cxG X s H N x sg g cd).nox bg t ∧ t { nx := fun _ H' => Q' .non H', rt := Q' } (L2.start N [.ref f]) H
end DL
namespace DL
open PySem L2
def LamDef (P : Program) (w : World) (K : PySem.W.Frag) (mg : Str → Option Value) (base : Heap) (k : Nat) (x : Str) (N : List Str) (sg : Scope) (g : Addr) (bg : List Stmt) (a : Str) (R : DPf → Mst → DK → Prop) : Prop :=
  ∀ (X : Cx), X.prog = P → X.w = w → X.K = K → X.mg = mg → X.base = base → Room k X.A → ∀ (cd : Value) (q : Str), GivesL X N x sg g cd bg a q R
theorem LamDef.mono {P : Program} {w : World} {K : PySem.W.Frag} {mg : Str → Option Value} {base : Heap} {j k : Nat} {x : Str} {N : List Str} {sg : Scope} {g : Addr} {bg : List Stmt} {a : Str} {R : DPf → Mst → DK → Prop} (h : LamDef P w K mg base j x N sg g bg a R) (hj : j ≤ k) : LamDef P w K mg base k x N sg g bg a R :=
  fun X e1 e2 e3 e4 e5 hr => h X e1 e2 e3 e4 e5 (hr.mono hj)
end DL
namespace DL
open PySem L2
section
variable {X : Cx}
def rTupX (K : PySem.W.Frag) : List V → Hp → VK → Prop := fun xs H Q => ∃ p ys, xs = [.ref p] ∧ ((SqL K H p ys ∧ ∀ l o, o.dict = none → H l = none → Q (.ref l) (upd H l (.frz o (.tup ys)))) ∨ (SqT K H p ys ∧ Q (.ref p) H))
theorem call_tupleX : CallR X (.type "tuple") (rTupX X.K) := by
  intro pins s σ H xs us Q I r h
  obtain ⟨p, ys, rfl, h⟩ := h
  obtain ⟨u, rfl, rx⟩ := vals1 r
  cases rx
  rcases h with ⟨hq, q⟩ | ⟨hq, q⟩
  · obtain ⟨its, r', pl, hz⟩ := I.list hq
    have hlen := r'.length
    refine call_tuple_list pl.isList (fun h' kp => ?_) (by simp only [List.size_toArray] <;> omega)
    have I1 : Inv X pins σ H { s with heap := h' } := I.kept (t' := s.toks) kp
    have I2 : Inv X pins σ (upd H h'.objs.size (.frz { cls := .type "tuple", data := .seq its.toArray } (.tup ys))) { s with heap := h'.push { cls := .type "tuple", data := .seq its.toArray } } :=
      I1.laid (t' := s.toks) (fun b o e => Heap.get?_push_of_some _ e) (Nat.le_refl _) (show ObjOk X.prog X.w _ _ _ (.frz _ (.tup ys)) from ⟨Heap.get?_push_size _ rfl, hz, its, r', _, Heap.get?_push_size _ rfl, rfl, _, rfl⟩)
    exact ⟨.ref h'.objs.size, _, I2, rfl, q _ _ rfl (I1.hok.fresh (Nat.le_refl _))⟩
  · obtain ⟨its, r', pl, hz⟩ := I.tuple hq
    exact call_tuple_same pl ⟨.ref p, H, I, rfl, q⟩
end
def dTupX : DCa := fun ds M Q => match ds with
  | [.tup es] => Q (.tup es) M
  | [.xtp es] => Q (.xtp es) M
  | [x] => match res M x with
    | .lst es => Q (.xtp es) M
    | _ => False
  | _ => False
theorem c_tupleX {X : Cx} : QCa X (.type "tuple") (rTupX X.K) dTupX := ⟨call_tupleX, fun G H p M s ds vs Q Q' S r h k => by
  unfold dTupX at h
  split at h
  · next es =>
    obtain ⟨v, rfl, r1⟩ := repL1 r
    obtain ⟨a, us, rfl, g1, g2, g3⟩ := r1
    exact ⟨a, us, rfl, .inr ⟨.inl (.inl (S.same _ _ g1)), k G H M (.tup es) _ (Same.refl _) S ⟨a, us, rfl, g1, g2, g3⟩ h⟩⟩
  · next es =>
    obtain ⟨v, rfl, r1⟩ := repL1 r
    obtain ⟨a, o, us, rfl, g1, g0, g2, g3⟩ := r1
    exact ⟨a, us, rfl, .inr ⟨.inl (.inr ⟨o, S.same _ _ g1⟩), k G H M (.xtp es) _ (Same.refl _) S ⟨a, o, us, rfl, g1, g0, g2, g3⟩ h⟩⟩
  · next x _ _ =>
    obtain ⟨v, rfl, r1⟩ := repL1 r
    split at h
    · next es e1 =>
      obtain ⟨a, us, rfl, g1, g2, g3⟩ := as_lst S r1 e1
      refine ⟨a, us, rfl, .inl ⟨.inl (.inl g1), fun q o ho hq => ?_⟩⟩
      obtain ⟨e, S'⟩ := S.made (o := .frz o (.tup us)) hq
      exact k _ _ _ (.xtp es) _ e S' ⟨q, o, us, rfl, upd_same, ho, RepL.mono e _ _ g2, g3⟩ h
    · exact h.elim
  · exact h.elim⟩
section
variable {X : Cx}
/-- what may stand as the argument: a list of pairs, or a tuple of them whose object is known -/
def rDictP (K : PySem.W.Frag) : List V → Hp → VK → Prop := fun xs H Q => ∃ (a : Addr) (ps : List Addr) (kvs : List (Key × V)), xs = [.ref a] ∧ (SqL K H a (ps.map V.ref) ∨ ∃ o, H a = some (.frz o (.tup (ps.map V.ref))) ∧ o.dict = none) ∧
  Paired (fun p kv => SqT K H p [kV kv.1, kv.2]) ps kvs ∧ kvs.length ≤ sizeLine ∧ ∀ p, H p = none → Q (.ref p) (upd H p (.dK (mergeK [] kvs)))
theorem call_dictPX (hcalm : X.calm = true) : CallR X (.type "dict") (rDictP X.K) := by
  intro pins s σ H xs us Q I r h
  obtain ⟨a, ps, kvs, rfl, hq, hp, hl, q⟩ := h
  obtain ⟨u, rfl, rx⟩ := vals1 r
  cases rx
  obtain ⟨prs, vps, rel, l1, l2, hv⟩ := pairs_vals I hp
  have hm : prs.length = kvs.length := rel.length.symm
  have PI : PairItems s.heap (ps.map Value.ref).toArray (fun j => ps.getD j 0) vps := ⟨by simp [l2], fun j k v e => by
    obtain ⟨t, q2, e1, e2, _, _⟩ := hv j k v e
    have e3 : ps.getD j 0 = t := by simp [List.getD, e1]
    exact ⟨by simp [e1, e3], by show PairAt s.heap (ps.getD j 0) k v; rw [e3]; exact .inl e2⟩⟩
  have hc : PairsHave (mixKind X.prog X.w) vps.length (PairRel vps) prs := ⟨by omega, fun i k v e => by
    obtain ⟨t, q2, _, _, e3, e4⟩ := hv i k v e
    exact ⟨q2, e3, e4⟩⟩
  have fin : ∀ h' tk, h'.DictOf (mixKind X.prog X.w) s.heap.objs.size (merged [] prs) → (∀ b o, b ∉ ([] : List Addr) → s.heap.get? b = some o → h'.get? b = some o) →
      EP X pins σ Q (.ref s.heap.objs.size) { s with heap := h', toks := tk } := fun h' tk dd' hk => by
    have hm' : (s.heap.objs.size == sysModules) = false := beq_eq_false_iff_ne.mpr (Nat.ne_of_gt I.big)
    have hlen : (mergeK [] kvs).length ≤ sizeLine := Nat.le_trans (length_mergeK kvs []) (by simpa using hl)
    exact ⟨.ref s.heap.objs.size, upd H s.heap.objs.size (.dK (mergeK [] kvs)), I.laid (t' := tk) (fun b o e => hk b o (by simp) e) (Nat.le_refl _)
      (show ObjOk X.prog X.w _ _ _ (.dK (mergeK [] kvs)) from ⟨hlen, hm', merged [] prs, KV.merge rel .nil, dd'⟩), rfl, q _ (I.hok.fresh (Nat.le_refl _))⟩
  rcases hq with hq | ⟨o, ho, hd⟩
  · obtain ⟨its, rv2, pl, hz⟩ := I.list hq
    have ei := refs_at rv2
    subst ei
    obtain ⟨o, n, ho, hc', hdi, hdat⟩ := pl
    exact call_dict_pairs (knd := mixKind X.prog X.w) (kvs := prs) (PairArg.list (prog := X.prog) (w := X.w) a (ps.map Value.ref).toArray (fun j => ps.getD j 0) vps) (I.ok.hd hcalm) ⟨⟨o, n, ho, hc', hdi, hdat⟩, PI⟩ hc (by omega) fin
  · obtain ⟨e0, hz, its, rv2, ob, e1, c1, n, d1⟩ := (show ObjOk X.prog X.w H s.heap a (.frz o (.tup (ps.map V.ref))) from I.hok a _ ho)
    rw [e0] at e1
    cases e1
    have ei := refs_at rv2
    subst ei
    exact call_dict_pairs (knd := mixKind X.prog X.w) (kvs := prs) (PairArg.tuple (prog := X.prog) (w := X.w) a (ps.map Value.ref).toArray (fun j => ps.getD j 0) vps) (I.ok.hd hcalm) ⟨⟨o, n, e0, c1, hd, d1⟩, PI⟩ hc (by omega) fin
end
def dDict : DCa := fun ds M Q => match ds with
  | [.xtp es] => match pairsD es with
    | some more => more.length ≤ 100000 ∧ ∀ p, M p = none → Q (.ref p) (put M p (.dK (putAllD [] more)))
    | none => False
  | [x] => match res M x with
    | .lst es => match pairsD es with
      | some more => more.length ≤ 100000 ∧ ∀ p, M p = none → Q (.ref p) (put M p (.dK (putAllD [] more)))
      | none => False
    | _ => False
  | _ => False
theorem newD_ok {K : PySem.W.Frag} {G H : Hp} {p : Rho} {M : Mst} {s : L2.St} {a : Addr} {more : List (Key × D)} {mv : List (Key × V)} {Q : DK} {Q' : VK} (S : Sim K G H p M s) (hn : H a = none)
    (h1 : mv.map (·.1) = more.map (·.1)) (h2 : RepL K G (more.map (·.2)) (mv.map (·.2))) (h3 : ∀ q ∈ more, kOk q.1) (hl : more.length ≤ 100000) (h : ∀ p, M p = none → Q (.ref p) (put M p (.dK (putAllD [] more))))
    (k : ∀ G' H' M' d w, Same G G' → Sim K G' H' p M' s → Rep K G' d w → Q d M' → Q' w H') : Q' (.ref a) (upd H a (.dK (mergeK [] mv))) := by
  obtain ⟨z1, z2⟩ := putAll_rel (kvs := []) (kv := []) h1 h2 rfl rfl
  have l2 : mv.length = more.length := by have := congrArg List.length h1; simpa using this
  have hz := sizeLine_eq
  have := length_mergeK mv []
  refine k G _ _ (.ref a) _ (Same.refl _) (S.put (mo := .dK (putAllD [] more)) (S.same.free hn) ⟨_, upd_same, z1, z2, ?_, putAll_keys (fun _ h => by cases h) h3⟩) rfl (h a (S.mem.fresh hn))
  simp at this
  omega
theorem c_dict {X : Cx} (hc : X.calm = true) : QCa X (.type "dict") (rDictP X.K) dDict := ⟨call_dictPX hc, fun G H p M s ds vs Q Q' S r h k => by
  have hz := sizeLine_eq
  unfold dDict at h
  split at h
  · next es =>
    obtain ⟨v, rfl, r1⟩ := repL1 r
    obtain ⟨a, o, us, rfl, g1, g0, g2, g3⟩ := r1
    split at h
    · next more hm =>
      obtain ⟨hl, h⟩ := h
      obtain ⟨ps, mv, rfl, q2, q3, q4, q5⟩ := pairsD_of S.same g2 hm
      have l2 : mv.length = more.length := by have := congrArg List.length q3; simpa using this
      exact ⟨a, ps, mv, rfl, .inr ⟨o, S.same _ _ g1, g0⟩, q2, by omega, fun q hq => newD_ok S hq q3 q4 q5 hl h k⟩
    · exact h.elim
  · next x _ =>
    obtain ⟨v, rfl, r1⟩ := repL1 r
    split at h
    · next es e1 =>
      obtain ⟨a, us, rfl, g1, g2, g3⟩ := as_lst S r1 e1
      split at h
      · next more hm =>
        obtain ⟨hl, h⟩ := h
        obtain ⟨ps, mv, rfl, q2, q3, q4, q5⟩ := pairsD_of S.same g2 hm
        have l2 : mv.length = more.length := by have := congrArg List.length q3; simpa using this
        exact ⟨a, ps, mv, rfl, .inl (.inl (.inl g1)), q2, by omega, fun q hq => newD_ok S hq q3 q4 q5 hl h k⟩
      · exact h.elim
    · exact h.elim
  · exact h.elim⟩
end DL
namespace DL
open PySem L2 Tx20 Tx21
/-- plain data: texts and lengths of at most n -/
inductive Pl (n : Nat) : D → Prop
  | non : Pl n .non
  | bl (b : Bool) : Pl n (.bl b)
  | int (i : Int) : Pl n (.int i)
  | str {x : Str} (h : Tx_ n x) : Pl n (.str x)
  | tup {ds : List D} (hl : ds.length ≤ n) (h : ∀ d ∈ ds, Pl n d) : Pl n (.tup ds)
  | lst {ds : List D} (hl : ds.length ≤ n) (h : ∀ d ∈ ds, Pl n d) : Pl n (.lst ds)
theorem Pl.mono {n m : Nat} (hn : n ≤ m) {d : D} (h : Pl n d) : Pl m d := by
  induction h with
  | non => exact .non
  | bl b => exact .bl b
  | int i => exact .int i
  | str h => exact .str (h.mono hn)
  | tup hl _ ih => exact .tup (Nat.le_trans hl hn) ih
  | lst hl _ ih => exact .lst (Nat.le_trans hl hn) ih
theorem Pl.data {n : Nat} {d : D} (h : Pl n d) : isData d = true := by
  induction h with
  | non => rfl
  | bl b => rfl
  | int i => rfl
  | str h => rfl
  | tup _ _ ih => rw [isData, isDataL_all, List.all_eq_true]; exact ih
  | lst _ _ ih => rw [isData, isDataL_all, List.all_eq_true]; exact ih
theorem Pl.res {n : Nat} {d : D} {M : Mst} (h : Pl n d) : res M d = d := by cases h <;> rfl
theorem Pl.tupI {n : Nat} {ds : List D} (h : Pl n (.tup ds)) : ds.length ≤ n ∧ ∀ d ∈ ds, Pl n d := by cases h with | tup a b => exact ⟨a, b⟩
theorem Pl.strI {n : Nat} {x : Str} (h : Pl n (.str x)) : Tx_ n x := by cases h with | str a => exact a
def intB : D → Bool
  | .int _ => true
  | .bl _ => true
  | _ => false
def strB : D → Bool
  | .str _ => true
  | _ => false
def tupB : D → Bool
  | .tup _ => true
  | _ => false
section
variable {n : Nat} {x : D} {M : Mst} {Q : DK}
theorem isi_int (h : Pl n x) : dIsi [x, .ty "int"] M Q = Q (.bl (intB x)) M := by cases h <;> simp [intB]
theorem isi_str (h : Pl n x) : dIsi [x, .ty "str"] M Q = Q (.bl (strB x)) M := by cases h <;> simp [strB]
theorem isi_tuple (h : Pl n x) : dIsi [x, .ty "tuple"] M Q = Q (.bl (tupB x)) M := by cases h <;> simp [tupB]
theorem tupB_iff : tupB x = true ↔ ∃ ds, x = .tup ds := by cases x <;> simp [tupB]
/-- x == () -/
def noTup : D → Bool
  | .tup [] => true
  | _ => false
theorem deq_unit : deq x (.tup []) = (match res (fun _ => none) x with | .tup [] => true | _ => false) := by
  cases x <;> first | (simp [deq, pyd, PyData.eqv, res, pydL]; done) | (rename_i ds; cases ds <;> simp [deq, pyd, pydL, PyData.eqv, PyData.eqvAll, res])
theorem eq_unit {neg : Bool} (h : Pl n x) : dEq neg x (.tup []) M Q = Q (.bl (xor neg (noTup x))) M := by
  unfold dEq
  rw [h.res, res_tup, deq_unit, h.res]
  have h1 := h.data
  have h2 : isData (.tup []) = true := rfl
  have h3 : min (dep x) (dep (.tup [])) ≤ 64 := Nat.le_trans (Nat.min_le_right _ _) (by decide)
  simp only [h1, h2, h3, true_and, noTup]
end
section
variable {d0 d1 d2 d3 d4 d5 d6 d7 d8 d9 d10 d11 d12 d13 d14 d15 d16 d17 d18 d19 d20 d21 d22 d23 d24 : D}
theorem z_l0 : (([] : List D).length ≤ 100000) = True := by simp
theorem z_l1 : (([d0] : List D).length ≤ 100000) = True := by simp
theorem z_l2 : (([d0, d1] : List D).length ≤ 100000) = True := by simp
theorem z_l3 : (([d0, d1, d2] : List D).length ≤ 100000) = True := by simp
theorem z_l4 : (([d0, d1, d2, d3] : List D).length ≤ 100000) = True := by simp
theorem z_l5 : (([d0, d1, d2, d3, d4] : List D).length ≤ 100000) = True := by simp
theorem z_l6 : (([d0, d1, d2, d3, d4, d5] : List D).length ≤ 100000) = True := by simp
theorem z_l7 : (([d0, d1, d2, d3, d4, d5, d6] : List D).length ≤ 100000) = True := by simp
theorem z_l8 : (([d0, d1, d2, d3, d4, d5, d6, d7] : List D).length ≤ 100000) = True := by simp
theorem z_l9 : (([d0, d1, d2, d3, d4, d5, d6, d7, d8] : List D).length ≤ 100000) = True := by simp
theorem z_l19 : (([d0, d1, d2, d3, d4, d5, d6, d7, d8, d9, d10, d11, d12, d13, d14, d15, d16, d17, d18] : List D).length ≤ 100000) = True := by simp
theorem z_l24 : (([d0, d1, d2, d3, d4, d5, d6, d7, d8, d9, d10, d11, d12, d13, d14, d15, d16, d17, d18, d19, d20, d21, d22, d23] : List D).length ≤ 100000) = True := by simp
theorem z_l25 : (([d0, d1, d2, d3, d4, d5, d6, d7, d8, d9, d10, d11, d12, d13, d14, d15, d16, d17, d18, d19, d20, d21, d22, d23, d24] : List D).length ≤ 100000) = True := by simp
end
theorem lcN {b : Nat} {te : DTE} {p : Rho} {M : Mst} {c : Addr} {ds : List D} {Q : DK} {Sty : Mst → Prop} (hc : M c = none) (hS : ∀ acc, Sty (put M c (.lst acc))) (hl : ds.length ≤ 100000) (f : D → D)
    (step : ∀ d ∈ ds, ∀ (M' : Mst) (R : DK), Sub M M' → R (f d) M' → te DW0 ((wipeD p [b]).set b (some d)) M' R) (fin : Q (.lst (ds.map f)) M) : compL false Sty (gNameD b) qYes te [b] c p Q ds (put M c (.lst [])) := by
  refine compL_map hc (fun d => some (f d)) hS hl (fun d hd acc R hR => ?_) ?_
  · simp only [gNameD, qYes, if_true]
    exact step d hd _ _ ((Sub.refl M).put hc) hR
  · simp only [Bool.false_eq_true, if_false]
    rw [List.filterMap_eq_map']; exact fin
/-- by a relation: draws -/
theorem lcR {b : Nat} {te : DTE} {p : Rho} {M : Mst} {c : Addr} {ds : List D} {Q : DK} {Sty : Mst → Prop} (hc : M c = none) (hS : ∀ acc, Sty (put M c (.lst acc))) (hl : ds.length ≤ 100000) (P : D → D → Prop)
    (step : ∀ d ∈ ds, ∀ (M' : Mst) (R : DK), Sub M M' → (∀ y, P d y → R y M') → te DW0 ((wipeD p [b]).set b (some d)) M' R) (fin : ∀ ys, All2 P ds ys → Q (.lst ys) M) : compL false Sty (gNameD b) qYes te [b] c p Q ds (put M c (.lst [])) := by
  refine compL_rel hc (fun d o => ∃ y, o = some y ∧ P d y) hS ds [] (by simpa using hl) (fun d hd acc R hR => ?_) fun os hos => ?_
  · simp only [gNameD, qYes, if_true]
    exact step d hd _ _ ((Sub.refl M).put hc) fun y hy => hR _ ⟨y, rfl, hy⟩
  · simp only [Bool.false_eq_true, if_false, List.nil_append]
    have : ∃ ys, os.filterMap id = ys ∧ All2 P ds ys := by
      clear fin step hl hS
      induction hos with
      | nil => exact ⟨[], rfl, .nil⟩
      | cons h _ ih =>
        obtain ⟨y, rfl, hy⟩ := h
        obtain ⟨ys, e, a⟩ := ih
        exact ⟨y :: ys, by simp [e], .cons hy a⟩
    obtain ⟨ys, e, a⟩ := this
    rw [e]; exact fin ys a
theorem All2.mem {α β : Type} {P : α → β → Prop} {as : List α} {bs : List β} (h : All2 P as bs) : ∀ b ∈ bs, ∃ a ∈ as, P a b := by
  induction h with
  | nil => intro b hb; cases hb
  | cons h _ ih =>
    intro b hb
    rcases List.mem_cons.mp hb with rfl | hb
    · exact ⟨_, List.mem_cons_self .., h⟩
    · obtain ⟨a, ha, hp⟩ := ih b hb; exact ⟨a, List.mem_cons_of_mem _ ha, hp⟩
abbrev LETT : Str := lit "abcdefghijklmnopqrstuvwxyz"
def lettB (z : Str) : Bool := z.cps.toList.all fun c => decide (97 ≤ c) && decide (c ≤ 122)
theorem in_lett : ∀ c, c < 127 → inS (one c) LETT = (decide (97 ≤ c) && decide (c ≤ 122)) := by decide +kernel
theorem lett_all {z : Str} (h : Pr z) : ((z.cps.toList.map fun c => inS (one c) LETT).all id) = lettB z := by
  unfold lettB
  rw [List.all_map]
  have : ∀ l : List Nat, (∀ c ∈ l, 32 ≤ c ∧ c ≤ 126) → l.all (id ∘ fun c => inS (one c) LETT) = l.all fun c => decide (97 ≤ c) && decide (c ≤ 122) := fun l => by
    induction l with
    | nil => intro _; rfl
    | cons c r ih =>
      intro h
      rw [List.all_cons, List.all_cons, ih fun d hd => h d (List.mem_cons_of_mem _ hd)]
      simp only [Function.comp, id]
      rw [in_lett c (by have := h c (List.mem_cons_self ..); omega)]
  exact this _ h
def inLett : D → D
  | .str y => .bl (inS y LETT)
  | d => d
def nameS (z : Str) : Bool := (decide (1 ≤ z.length) && decide (z.length ≤ 8)) && lettB z
def nameD : D → Bool
  | .str z => nameS z
  | _ => false
theorem chain_len {lo hi : Nat} {z : Nat} {M : Mst} {Q : DK} : dCmpI (fun i j => decide (i ≤ j)) (.int (lo : Int)) (.int (z : Int)) M (fun z_1 M3 => match z_1 with
    | .bl k => if k = true then dCmpI (fun i j => decide (i ≤ j)) (.int (z : Int)) (.int (hi : Int)) M3 Q else Q (.bl false) M3
    | _ => False) = Q (.bl (decide (lo ≤ z) && decide (z ≤ hi))) M := by
  have e1 : decide ((lo : Int) ≤ (z : Int)) = decide (lo ≤ z) := decide_eq_decide.mpr (by omega)
  have e2 : decide ((z : Int) ≤ (hi : Int)) = decide (z ≤ hi) := decide_eq_decide.mpr (by omega)
  simp only [dCmpI_i, e1, e2]
  cases decide (lo ≤ z) <;> simp
theorem chain_int {lo hi z : Int} {M : Mst} {Q : DK} : dCmpI (fun i j => decide (i ≤ j)) (.int lo) (.int z) M (fun z_1 M3 => match z_1 with
    | .bl k => if k = true then dCmpI (fun i j => decide (i ≤ j)) (.int z) (.int hi) M3 Q else Q (.bl false) M3
    | _ => False) = Q (.bl (decide (lo ≤ z) && decide (z ≤ hi))) M := by
  simp only [dCmpI_i]
  cases decide (lo ≤ z) <;> simp
def wholeD (lo hi : Int) : D → Bool
  | .int i => decide (lo ≤ i) && decide (i ≤ hi)
  | _ => false
def oneD (zs : List Str) : D → Bool
  | .str z => decide (z ∈ zs)
  | _ => false
def longD (k : Nat) : D → Bool
  | .tup ds => decide (ds.length = k)
  | _ => false
def qIsWhole : DTS := (qRet (qAndV (qCB dIsi (qCons (qVar 0) (qCons (qC (.ty "int")) qNil))) (qAndV (qNotV (qCB dIsi (qCons (qVar 0) (qCons (qC (.ty "bool")) qNil)))) (qChain (dCmpI fun i j => decide (i ≤ j)) (dCmpI fun i j => decide (i ≤ j)) (qVar 1) (qVar 0) (qVar 2)))))
def spIsWhole : DSp := fun ds M Q _ => ∃ (n : Nat) (x : D) (lo hi : Int), ds = [x, .int lo, .int hi] ∧ Pl n x ∧ Q (.bl (wholeD lo hi x)) M
theorem whole_ok (ds : List D) (M : Mst) (Q : DK) (Ed : DX → Mst → Prop) (h : upSp spIsWhole ds M Q Ed) : qIsWhole (fun x _ M => Ed x M) (retE Q) (startD ["thing", "low", "high"] ds) M := by
  obtain ⟨Q0, E0, ⟨n, x, lo, hi, rfl, hx, k0⟩, kq, _⟩ := h
  have k : Q (.bl (wholeD lo hi x)) M := kq _ _ _ (Sub.refl _) k0
  show qIsWhole _ _ [some x, some (.int lo), some (.int hi)] M
  simp only [qIsWhole, qAndV, qNotV, qChain, qSeq, qAsg, qTup, qCons, qNil, qOp, qUn, qC, qCall, qVar, qLst, newL_f, qIfS, qTB, qNext, qRet, qDrop, qFor, qCB, qAug, qSl, qPart, qNoPart, gNameD, gSub_eq, dInt_i, dInt0_i, dAdd_i, dCmpI_i, List.set_cons_zero, List.set_cons_succ, List.getElem?_cons_zero, List.getElem?_cons_succ, List.append_nil]
  rw [isi_int hx]
  cases x with
  | int i =>
    simp only [intB, if_true, z_isi_int_bool, Bool.not_false]
    exact chain_int.mpr k
  | bl b => simp only [intB, if_true, z_isi_bl_bool, Bool.not_true, Bool.false_eq_true, if_false]; exact k
  | _ => simp only [intB, Bool.false_eq_true, if_false]; exact k
def qIsName : DTS := (qSeq (qIfS (qOr (qNot (qTB (qCB dIsi (qCons (qVar 0) (qCons (qC (.ty "str")) qNil))))) (qNot (qTB (qChain (dCmpI fun i j => decide (i ≤ j)) (dCmpI fun i j => decide (i ≤ j)) (qC (.int 1)) (qCB dLen (qCons (qVar 0) qNil)) (qC (.int 8))))))
  (qRet (qC (.bl false)))
  qNext)
  (qRet (qCB dAll (qCons (qLc false (qiAny (qVar 0)) (gNameD 1) qYes (qOp (dIn false) (qVar 1) (qC (.str (PySem.Str.ofString "abcdefghijklmnopqrstuvwxyz")))) [1]) qNil))))
def spIsName : DSp := fun ds M Q _ => ∃ (n : Nat) (x : D), ds = [x] ∧ n ≤ 100000 ∧ Pl n x ∧ Q (.bl (nameD x)) M
theorem name_ok (ds : List D) (M : Mst) (Q : DK) (Ed : DX → Mst → Prop) (h : upSp spIsName ds M Q Ed) : qIsName (fun x _ M => Ed x M) (retE Q) (startD ["thing", "sign"] ds) M := by
  obtain ⟨Q0, E0, ⟨n, x, rfl, hn, hx, k0⟩, kq, _⟩ := h
  have k : Q (.bl (nameD x)) M := kq _ _ _ (Sub.refl _) k0
  show qIsName _ _ [some x, none] M
  simp only [qIsName, qOr, qNot, qChain, qSeq, qAsg, qTup, qCons, qNil, qOp, qUn, qC, qCall, qVar, qLst, newL_f, qIfS, qTB, qNext, qRet, qDrop, qFor, qCB, qAug, qSl, qPart, qNoPart, gNameD, gSub_eq, dInt_i, dInt0_i, dAdd_i, dCmpI_i, List.set_cons_zero, List.set_cons_succ, List.getElem?_cons_zero, List.getElem?_cons_succ, List.append_nil]
  rw [isi_str hx]
  cases x with
  | str z =>
    have T := hx.strI
    simp only [strB, Bool.not_true, Bool.false_eq_true, if_false, z_len_str]
    refine (chain_len (lo := 1) (hi := 8)).mpr ?_
    have k : Q (.bl ((decide (1 ≤ z.length) && decide (z.length ≤ 8)) && lettB z)) M := k
    cases hc : decide (1 ≤ z.length) && decide (z.length ≤ 8) with
    | false => rw [hc] at k; simp only [Bool.not_false, if_true]; exact k
    | true =>
      rw [hc] at k
      simp only [Bool.not_true, Bool.false_eq_true, if_false]
      simp only [qLc, qiAny, qVar, List.getElem?_cons_zero]
      intro c hc
      refine lcN hc (fun _ => trivial) (by unfold signs; rw [List.length_map, Array.length_toList]; exact Nat.le_trans T.len hn) inLett (fun d hd M' R S hR => ?_) ?_
      · unfold signs at hd
        obtain ⟨c, _, rfl⟩ := List.mem_map.mp hd
        show dIn false (.str (one c)) (.str LETT) M' R
        rw [z_inS, Bool.false_xor]
        exact hR
      · have e : (signs z).map inLett = (z.cps.toList.map fun c => inS (one c) LETT).map D.bl := by
          unfold signs; rw [List.map_map, List.map_map]; rfl
        rw [e, all_bls, lett_all T.pr]; exact k
  | _ => simp only [strB, Bool.not_false, if_true]; exact k
def qIsOne : DTS := (qRet (qAndV (qCB dIsi (qCons (qVar 0) (qCons (qC (.ty "str")) qNil))) (qOp (dIn false) (qVar 0) (qVar 1))))
/-- what texts are: a list, a tuple, the keys of a dict -/
def TextsD (M : Mst) (zs : List Str) (t : D) : Prop := ∀ (z : Str) (Q : DK), dIn false (.str z) t M Q = Q (.bl (decide (z ∈ zs))) M
theorem textsD_l {M : Mst} {zs : List Str} : TextsD M zs (.lst (zs.map .str)) := fun z Q => by rw [in_strs, Bool.false_xor]
theorem textsD_t {M : Mst} {zs : List Str} : TextsD M zs (.tup (zs.map .str)) := fun z Q => by rw [in_strsT, Bool.false_xor]
theorem textsD_x {M : Mst} {zs : List Str} : TextsD M zs (.xtp (zs.map .str)) := fun z Q => (in_strsT (neg := false) (M := M) (Q := Q) (z := z) (zs := zs)).trans (by rw [Bool.false_xor])
def spIsOne : DSp := fun ds M Q _ => ∃ (n : Nat) (x t : D) (zs : List Str), ds = [x, t] ∧ Pl n x ∧ TextsD M zs t ∧ Q (.bl (oneD zs x)) M
theorem one_ok (ds : List D) (M : Mst) (Q : DK) (Ed : DX → Mst → Prop) (h : upSp spIsOne ds M Q Ed) : qIsOne (fun x _ M => Ed x M) (retE Q) (startD ["thing", "texts"] ds) M := by
  obtain ⟨Q0, E0, ⟨n, x, t, zs, rfl, hx, ht, k0⟩, kq, _⟩ := h
  have k : Q (.bl (oneD zs x)) M := kq _ _ _ (Sub.refl _) k0
  show qIsOne _ _ [some x, some t] M
  simp only [qIsOne, qAndV, qSeq, qAsg, qTup, qCons, qNil, qOp, qUn, qC, qCall, qVar, qLst, newL_f, qIfS, qTB, qNext, qRet, qDrop, qFor, qCB, qAug, qSl, qPart, qNoPart, gNameD, gSub_eq, dInt_i, dInt0_i, dAdd_i, dCmpI_i, List.set_cons_zero, List.set_cons_succ, List.getElem?_cons_zero, List.getElem?_cons_succ, List.append_nil]
  rw [isi_str hx]
  cases x with
  | str z =>
    simp only [strB, if_true]
    rw [ht]; exact k
  | _ => simp only [strB, Bool.false_eq_true, if_false]; exact k
def qIsTuple : DTS := (qRet (qAndV (qCB dIsi (qCons (qVar 0) (qCons (qC (.ty "tuple")) qNil))) (qOp (dEq false) (qCB dLen (qCons (qVar 0) qNil)) (qVar 1))))
def spIsTuple : DSp := fun ds M Q _ => ∃ (n : Nat) (x : D) (k : Nat), ds = [x, .int (k : Int)] ∧ Pl n x ∧ Q (.bl (longD k x)) M
theorem tuple_ok (ds : List D) (M : Mst) (Q : DK) (Ed : DX → Mst → Prop) (h : upSp spIsTuple ds M Q Ed) : qIsTuple (fun x _ M => Ed x M) (retE Q) (startD ["thing", "many"] ds) M := by
  obtain ⟨Q0, E0, ⟨n, x, m, rfl, hx, k0⟩, kq, _⟩ := h
  have k : Q (.bl (longD m x)) M := kq _ _ _ (Sub.refl _) k0
  show qIsTuple _ _ [some x, some (.int m)] M
  simp only [qIsTuple, qAndV, qSeq, qAsg, qTup, qCons, qNil, qOp, qUn, qC, qCall, qVar, qLst, newL_f, qIfS, qTB, qNext, qRet, qDrop, qFor, qCB, qAug, qSl, qPart, qNoPart, gNameD, gSub_eq, dInt_i, dInt0_i, dAdd_i, dCmpI_i, List.set_cons_zero, List.set_cons_succ, List.getElem?_cons_zero, List.getElem?_cons_succ, List.append_nil]
  rw [isi_tuple hx]
  cases x with
  | tup ds =>
    simp only [tupB, if_true, z_len_tup]
    rw [eq_i, Bool.false_xor]; exact k
  | _ => simp only [tupB, Bool.false_eq_true, if_false]; exact k
/-- a tuple's item at a known place -/
theorem ix_tn {ds : List D} {i : Nat} {d : D} {M : Mst} {Q : DK} (h : ds[i]? = some d) : dIx (.tup ds) (.int (i : Int)) M Q = Q d M := ix_t (by rw [atI_n]; exact h)
theorem ix_ln {ds : List D} {i : Nat} {d : D} {M : Mst} {Q : DK} (h : ds[i]? = some d) : dIx (.lst ds) (.int (i : Int)) M Q = Q d M := ix_l (by rw [atI_n]; exact h)
@[simp] theorem z_ix_t2 {a b c : D} {ds : List D} {M : Mst} {Q : DK} : dIx (.tup (a :: b :: c :: ds)) (.int 2) M Q = Q c M := ix_tn (i := 2) rfl
@[simp] theorem z_ix_t3 {a b c e : D} {ds : List D} {M : Mst} {Q : DK} : dIx (.tup (a :: b :: c :: e :: ds)) (.int 3) M Q = Q e M := ix_tn (i := 3) rfl
@[simp] theorem z_ix_l2 {a b c : D} {ds : List D} {M : Mst} {Q : DK} : dIx (.lst (a :: b :: c :: ds)) (.int 2) M Q = Q c M := ix_ln (i := 2) rfl
@[simp] theorem z_ix_l3 {a b c e : D} {ds : List D} {M : Mst} {Q : DK} : dIx (.lst (a :: b :: c :: e :: ds)) (.int 3) M Q = Q e M := ix_ln (i := 3) rfl
theorem longD_iff {k : Nat} {x : D} : longD k x = true ↔ ∃ ds, x = .tup ds ∧ ds.length = k := by cases x <;> simp [longD]
end DL
namespace DL
open PySem L2 Tx20 Tx21
/-- a tuple, its object known or not -/
def seqD : D → Option (List D)
  | .tup ds => some ds
  | .xtp ds => some ds
  | _ => none
/-- what is handed in: plain data, or a tuple of them whose object is known -/
inductive Th (n : Nat) : D → Prop
  | pl {x : D} (h : Pl n x) : Th n x
  | xt {ds : List D} (hl : ds.length ≤ n) (h : ∀ d ∈ ds, Pl n d) : Th n (.xtp ds)
section
variable {n : Nat} {x : D} {M : Mst} {Q : DK}
theorem Th.seq (h : Th n x) {ds : List D} (e : seqD x = some ds) : ds.length ≤ n ∧ ∀ d ∈ ds, Pl n d := by
  cases h with
  | pl h =>
    cases h with
    | tup a b => cases e; exact ⟨a, b⟩
    | _ => cases e
  | xt a b => cases e; exact ⟨a, b⟩
theorem th_isi (h : Th n x) : dIsi [x, .ty "tuple"] M Q = Q (.bl (seqD x).isSome) M := by
  cases h with
  | pl h => rw [isi_tuple h]; cases h <;> rfl
  | xt a b => exact (show dIsi [.xtp _, .ty "tuple"] M Q = dIsi [.tup _, .ty "tuple"] M Q from rfl).trans z_isi_tup_tup
theorem seq_len {ds : List D} (e : seqD x = some ds) : dLen [x] M Q = Q (.int (ds.length : Int)) M := by
  cases x <;> first | (cases e; done) | (cases e; simp)
theorem seq_at {ds : List D} (e : seqD x = some ds) : seqAt M x = some (true, ds, always) := by
  cases x <;> first | (cases e; done) | (cases e; rfl)
theorem seq_cut {ds : List D} (e : seqD x = some ds) {k : Nat} (h1 : Q (.tup (ds.take k)) M) (h2 : Q (.xtp (ds.take k)) M) : dSl false x none (some (k : Int)) M Q := by
  cases x <;> first | (cases e; done) | (cases e; simp only [dSl, cut_to]; first | exact h1 | exact ⟨h1, h2⟩)
end
def optI : Option Int → D
  | none => .non
  | some i => .int i
def placeD : D → Bool
  | .tup [a, b] => nameD a && wholeD 1 4 b
  | _ => false
def nameOf : D → Str
  | .tup (.str z :: _) => z
  | _ => Str.empty
def qIsPlace (sp_is_name : DSp) (sp_is_tuple_of : DSp) (sp_is_whole : DSp) : DTS := (qRet (qAndV (qCall sp_is_tuple_of [] (qCons (qVar 0) (qCons (qC (.int 2)) qNil))) (qAndV (qCall sp_is_name [] (qCons (qOp dIx (qVar 0) (qC (.int 0))) qNil)) (qCall sp_is_whole [] (qCons (qOp dIx (qVar 0) (qC (.int 1))) (qCons (qC (.int 1)) (qCons (qC (.int 4)) qNil)))))))
def spIsPlace : DSp := fun ds M Q _ => ∃ (n : Nat) (x : D), ds = [x] ∧ n ≤ 100000 ∧ Pl n x ∧ Q (.bl (placeD x)) M
theorem place_ok (ds : List D) (M : Mst) (Q : DK) (Ed : DX → Mst → Prop) (h : upSp spIsPlace ds M Q Ed) : qIsPlace spIsName spIsTuple spIsWhole (fun x _ M => Ed x M) (retE Q) (startD ["thing"] ds) M := by
  obtain ⟨Q0, E0, ⟨n, x, rfl, hn, hx, k0⟩, kq, _⟩ := h
  have k : Q (.bl (placeD x)) M := kq _ _ _ (Sub.refl _) k0
  show qIsPlace _ _ _ _ _ [some x] M
  simp only [qIsPlace, qAndV, qSeq, qAsg, qTup, qCons, qNil, qOp, qUn, qC, qCall, qVar, qLst, newL_f, qIfS, qTB, qNext, qRet, qDrop, qFor, qCB, qAug, qSl, qPart, qNoPart, gNameD, gSub_eq, dInt_i, dInt0_i, dAdd_i, dCmpI_i, List.set_cons_zero, List.set_cons_succ, List.getElem?_cons_zero, List.getElem?_cons_succ, List.append_nil]
  refine ⟨n, x, 2, rfl, hx, ?_⟩
  cases hl : longD 2 x with
  | false =>
    have : placeD x = false := by
      unfold placeD
      split
      · cases hl
      · rfl
    rw [this] at k
    simp only [Bool.false_eq_true, if_false]; exact k
  | true =>
    obtain ⟨ds, rfl, hl⟩ := longD_iff.mp hl
    obtain ⟨a, b, rfl⟩ : ∃ a b, ds = [a, b] := by
      match ds, hl with
      | [a, b], _ => exact ⟨a, b, rfl⟩
    have hp := hx.tupI.2
    simp only [if_true, z_ix_t0, z_ix_t1]
    refine ⟨n, a, rfl, hn, hp _ (by simp), ?_⟩
    have k : Q (.bl (nameD a && wholeD 1 4 b)) M := k
    cases ha : nameD a with
    | false => rw [ha] at k; simp only [Bool.false_eq_true, if_false]; exact k
    | true => rw [ha] at k; simp only [if_true]; exact ⟨n, b, 1, 4, rfl, hp _ (by simp), k⟩
/-- the first place that is none, or whose name stood before -/
def badP : List Str → Nat → List D → Option Nat
  | _, _, [] => none
  | seen, i, d :: ds => if placeD d && !decide (nameOf d ∈ seen) then badP (seen ++ [nameOf d]) (i + 1) ds else some i
def faultP (x : D) : Option Int := match seqD x with
  | some ds => if (decide (1 ≤ ds.length) && decide (ds.length ≤ 40)) = true then (badP [] 0 ds).map fun i : Nat => (i : Int) else some (-1)
  | none => some (-1)
def seenD (zs : List Str) : List (Key × D) := zs.map fun z => (.inr z, .bl true)
theorem seen_val (zs : List Str) (z : Str) : (valD (seenD zs) (.inr z)).isSome = decide (z ∈ zs) := by
  unfold valD seenD
  rw [Option.isSome_map]
  induction zs with
  | nil => simp
  | cons y r ih =>
    rw [List.map_cons, List.find?_cons]
    by_cases e : y = z
    · subst e; simp
    · have e1 : decide ((Sum.inr y : Key) = Sum.inr z) = false := decide_eq_false fun q => e (by injection q)
      rw [e1, ih]
      apply decide_eq_decide.mpr
      simp [Ne.symm e]
theorem seen_put {zs : List Str} {z : Str} (h : z ∉ zs) : putD (seenD zs) (.inr z) (.bl true) = seenD (zs ++ [z]) := by
  unfold putD
  rw [if_neg]
  · simp [seenD]
  · rw [List.any_eq_true]
    rintro ⟨kv, hk, e⟩
    obtain ⟨y, hy, rfl⟩ := List.mem_map.mp hk
    have e2 := of_decide_eq_true e
    injection e2 with e2
    subst e2; exact h hy
theorem in_seen {M : Mst} {Q : DK} {a : Addr} {zs : List Str} {z : Str} (hm : M a = some (.dK (seenD zs))) : dIn false (.str z) (.ref a) M Q = Q (.bl (decide (z ∈ zs))) M := by
  unfold dIn
  simp only [dgetD, hm, keyD, Option.map_some, seen_val, Bool.false_xor]
theorem placeD_iff {x : D} : placeD x = true ↔ ∃ z i, x = .tup [.str z, .int i] ∧ nameS z = true ∧ 1 ≤ i ∧ i ≤ 4 := by
  constructor
  · intro h
    unfold placeD at h
    split at h
    · next a b =>
      rw [Bool.and_eq_true] at h
      cases a <;> first | (cases h.1; done) | skip
      cases b <;> first | (cases h.2; done) | skip
      have h2 := h.2
      simp only [wholeD, Bool.and_eq_true, decide_eq_true_eq] at h2
      exact ⟨_, _, rfl, h.1, h2.1, h2.2⟩
    · cases h
  · rintro ⟨z, i, rfl, h1, h2, h3⟩
    simp [placeD, nameD, h1, wholeD, h2, h3]
def qPlacesFault (sp_is_place : DSp) : DTS :=
  (qSeq (qIfS (qOr (qNot (qTB (qCB dIsi (qCons (qVar 0) (qCons (qC (.ty "tuple")) qNil))))) (qNot (qTB (qChain (dCmpI fun i j => decide (i ≤ j)) (dCmpI fun i j => decide (i ≤ j)) (qC (.int 1)) (qCB dLen (qCons (qVar 0) qNil)) (qC (.int 40))))))
  (qRet (qUn dNeg (qC (.int 1))))
  qNext)
  (qSeq (qAsg qDNew (gNameD 1))
  (qSeq (qFor (qiEnum0 (qCons (qVar 0) qNil)) (gTupD 2 (gConsD (gNameD 2) (gConsD (gNameD 3) gNilD)))
  (qSeq (qIfS (qOr (qNot (qTB (qCall sp_is_place [] (qCons (qVar 3) qNil)))) (qTB (qOp (dIn false) (qOp dIx (qVar 3) (qC (.int 0))) (qVar 1))))
  (qRet (qVar 2))
  qNext)
  (qAsg (qC (.bl true)) (gSubD (qVar 1) (qOp dIx (qVar 3) (qC (.int 0)))))))
  (qRet (qC .non)))))
def spPlaces : DSp := fun ds M Q _ => ∃ (n : Nat) (x : D), ds = [x] ∧ n ≤ 50000 ∧ Th n x ∧ Q (optI (faultP x)) M
theorem enum_tup {i : Nat} {ds : List D} {d : D} (h : (enumDI 0 ds)[i]? = some d) : ∃ e, ds[i]? = some e ∧ d = .tup [.int (i : Int), e] := by
  rw [enumDI_get] at h
  obtain ⟨e, h1, h2⟩ := Option.map_eq_some_iff.mp h
  exact ⟨e, h1, by rw [← h2, Int.zero_add]⟩
theorem drop_at {α : Type} {ds : List α} {i : Nat} {e : α} (h : ds[i]? = some e) : ds.drop i = e :: ds.drop (i + 1) := by
  obtain ⟨h1, rfl⟩ := List.getElem?_eq_some_iff.mp h
  exact List.drop_eq_getElem_cons h1
theorem places_ok (ds : List D) (M : Mst) (Q : DK) (Ed : DX → Mst → Prop) (h : upSp spPlaces ds M Q Ed) : qPlacesFault spIsPlace (fun x _ M => Ed x M) (retE Q) (startD ["thing", "seen", "at", "one"] ds) M := by
  obtain ⟨Q0, E0, ⟨n, x, rfl, hn, hx, k0⟩, kq, _⟩ := h
  have k : ∀ M', Sub M M' → Q (optI (faultP x)) M' := fun M' S => kq _ _ _ S k0
  show qPlacesFault _ _ _ [some x, none, none, none] M
  simp only [qPlacesFault, qOr, qNot, qChain, qSeq, qAsg, qTup, qCons, qNil, qOp, qUn, qC, qCall, qVar, qLst, newL_f, qIfS, qTB, qNext, qRet, qDrop, qFor, qCB, qAug, qSl, qPart, qNoPart, gNameD, gSub_eq, dInt_i, dInt0_i, dAdd_i, dCmpI_i, List.set_cons_zero, List.set_cons_succ, List.getElem?_cons_zero, List.getElem?_cons_succ, List.append_nil]
  rw [th_isi hx]
  cases hs : seqD x with
  | none =>
    have e : faultP x = some (-1) := by simp [faultP, hs]
    rw [e] at k
    simp only [Option.isSome_none, Bool.not_false, if_true, z_neg]
    exact k M (Sub.refl _)
  | some es =>
    obtain ⟨hl, hp⟩ := hx.seq hs
    simp only [Option.isSome_some, Bool.not_true, Bool.false_eq_true, if_false, seq_len hs]
    refine (chain_len (lo := 1) (hi := 40)).mpr ?_
    have e : faultP x = if (decide (1 ≤ es.length) && decide (es.length ≤ 40)) = true then (badP [] 0 es).map fun i : Nat => (i : Int) else some (-1) := by simp [faultP, hs]
    rw [e] at k
    cases hc : decide (1 ≤ es.length) && decide (es.length ≤ 40) with
    | false =>
      rw [hc] at k
      simp only [Bool.not_false, if_true, z_neg]
      exact k M (Sub.refl _)
    | true =>
      rw [hc] at k
      simp only [Bool.not_true, Bool.false_eq_true, if_false, if_true] at k ⊢
      intro a ha
      simp only [qiEnum0, qSeq, qAsg, qTup, qCons, qNil, qOp, qUn, qC, qCall, qVar, qLst, newL_f, qIfS, qTB, qNext, qRet, qDrop, qFor, qCB, qAug, qSl, qPart, qNoPart, gNameD, gSub_eq, dInt_i, dInt0_i, dAdd_i, dCmpI_i, List.set_cons_zero, List.set_cons_succ, List.getElem?_cons_zero, List.getElem?_cons_succ, List.append_nil, seq_at hs]
      refine loopL_inv (fun i p M' => ∃ seen p2 p3, p = [some x, some (.ref a), p2, p3] ∧ seen.length ≤ i ∧ M' a = some (.dK (seenD seen)) ∧ Sub M M' ∧ badP [] 0 es = badP seen i (es.drop i)) (n := es.length) (by simp) (fun i d p M' R hd hI hR => ?_) (fun p M' hI => ?_)
        ⟨[], none, none, rfl, Nat.zero_le _, put_same, (Sub.refl M).put ha, by rw [List.drop_zero]⟩
      · obtain ⟨seen, p2, p3, rfl, hsl, hm, hS, hb⟩ := hI
        obtain ⟨e, he, rfl⟩ := enum_tup hd
        rw [drop_at he] at hb
        have hi : i < es.length := (List.getElem?_eq_some_iff.mp he).1
        have hpe := hp e (List.mem_of_getElem? he)
        refine ⟨trivial, ?_⟩
        simp only [gTupD, gConsD, gNilD, qSeq, qAsg, qTup, qCons, qNil, qOp, qUn, qC, qCall, qVar, qLst, newL_f, qIfS, qTB, qNext, qRet, qDrop, qFor, qCB, qAug, qSl, qPart, qNoPart, gNameD, gSub_eq, dInt_i, dInt0_i, dAdd_i, dCmpI_i, List.set_cons_zero, List.set_cons_succ, List.getElem?_cons_zero, List.getElem?_cons_succ, List.append_nil]
        refine ⟨rfl, rfl, ?_⟩
        refine ⟨n, e, rfl, by omega, hpe, ?_⟩
        rw [badP] at hb
        cases hpl : placeD e with
        | false =>
          rw [hpl, Bool.false_and, if_neg Bool.false_ne_true] at hb
          rw [hb] at k
          simp only [Bool.not_false, if_true]
          exact k M' hS
        | true =>
          obtain ⟨z, r, rfl, hz, _, _⟩ := placeD_iff.mp hpl
          simp only [Bool.not_true, Bool.false_eq_true, if_false, qSeq, qAsg, qTup, qCons, qNil, qOp, qUn, qC, qCall, qVar, qLst, newL_f, qIfS, qTB, qNext, qRet, qDrop, qFor, qCB, qAug, qSl, qPart, qNoPart, gNameD, gSub_eq, dInt_i, dInt0_i, dAdd_i, dCmpI_i, List.set_cons_zero, List.set_cons_succ, List.getElem?_cons_zero, List.getElem?_cons_succ, List.append_nil, z_ix_t0]
          rw [in_seen hm]
          rw [hpl, Bool.true_and] at hb
          have en : nameOf (.tup [.str z, .int r]) = z := rfl
          rw [en] at hb
          by_cases hin : z ∈ seen
          · rw [if_neg (by simp [hin])] at hb
            rw [hb] at k
            simp only [hin, decide_true, if_true]
            exact k M' hS
          · rw [if_pos (by simp [hin])] at hb
            simp only [hin, decide_false, Bool.false_eq_true, if_false]
            unfold dSet
            simp only [hm, keyD, seen_put hin]
            refine ⟨by simp [seenD]; omega, hR _ _ ⟨seen ++ [z], _, _, rfl, by simp; omega, put_same, hS.put ha, hb⟩⟩
      · obtain ⟨seen, p2, p3, rfl, hsl, hm, hS, hb⟩ := hI
        refine ⟨trivial, ?_⟩
        rw [List.drop_length, badP] at hb
        rw [hb] at k
        exact k M' hS
end DL
namespace DL
open PySem L2 Tx20 Tx21
def badS (zs : List Str) : Nat → List Str → List D → Option Nat
  | _, _, [] => none
  | i, seen, .str z :: ds => if (decide (z ∈ zs) && !decide (z ∈ seen)) = true then badS zs (i + 1) (seen ++ [z]) ds else some i
  | i, _, _ :: _ => some i
def faultS (zs : List Str) (x : D) : Option Int := match seqD x with
  | some ds => if decide (12 < ds.length) = true then some (-1) else (badS zs 0 [] ds).map fun i : Nat => (i : Int)
  | none => some (-1)
def qStations (sp_is_one_of : DSp) : DTS :=
  (qSeq (qIfS (qOr (qNot (qTB (qCB dIsi (qCons (qVar 1) (qCons (qC (.ty "tuple")) qNil))))) (qTB (qOp (dCmpI fun i j => decide (j < i)) (qCB dLen (qCons (qVar 1) qNil)) (qC (.int 12)))))
  (qRet (qUn dNeg (qC (.int 1))))
  qNext)
  (qSeq (qFor (qiEnum0 (qCons (qVar 1) qNil)) (gTupD 2 (gConsD (gNameD 2) (gConsD (gNameD 3) gNilD)))
  (qIfS (qOr (qNot (qTB (qCall sp_is_one_of [] (qCons (qVar 3) (qCons (qVar 0) qNil))))) (qTB (qOp (dIn false) (qVar 3) (qSl false (qVar 1) qNoPart (qPart (qVar 2))))))
  (qRet (qVar 2))
  qNext))
  (qRet (qC .non))))
def spStations : DSp := fun ds M Q _ => ∃ (n : Nat) (t x : D) (zs : List Str), ds = [t, x] ∧ n ≤ 50000 ∧ TextsD M zs t ∧ Th n x ∧ Q (optI (faultS zs x)) M
theorem oneD_iff {zs : List Str} {x : D} : oneD zs x = true ↔ ∃ z, x = .str z ∧ z ∈ zs := by cases x <;> simp [oneD]
theorem badS_not {zs seen : List Str} {i : Nat} {x : D} {ds : List D} (h : oneD zs x = false) : badS zs i seen (x :: ds) = some i := by
  cases x <;> first | rfl | skip
  simp only [oneD] at h
  rw [badS, if_neg (by rw [h]; simp)]
theorem chain_gt {hi : Nat} {z : Nat} {M : Mst} {Q : DK} : dCmpI (fun i j => decide (j < i)) (.int (z : Int)) (.int (hi : Int)) M Q = Q (.bl (decide (hi < z))) M := by
  have e1 : decide ((hi : Int) < (z : Int)) = decide (hi < z) := decide_eq_decide.mpr (by omega)
  rw [dCmpI_i, e1]
theorem stations_ok (ds : List D) (M : Mst) (Q : DK) (Ed : DX → Mst → Prop) (h : upSp spStations ds M Q Ed) : qStations spIsOne (fun x _ M => Ed x M) (retE Q) (startD ["names", "thing", "at", "one"] ds) M := by
  obtain ⟨Q0, E0, ⟨n, t, x, zs, rfl, hn, ht, hx, k0⟩, kq, _⟩ := h
  have k : Q (optI (faultS zs x)) M := kq _ _ _ (Sub.refl _) k0
  show qStations _ _ _ [some t, some x, none, none] M
  simp only [qStations, qOr, qNot, qSeq, qAsg, qTup, qCons, qNil, qOp, qUn, qC, qCall, qVar, qLst, newL_f, qIfS, qTB, qNext, qRet, qDrop, qFor, qCB, qAug, qSl, qPart, qNoPart, gNameD, gSub_eq, dInt_i, dInt0_i, dAdd_i, dCmpI_i, List.set_cons_zero, List.set_cons_succ, List.getElem?_cons_zero, List.getElem?_cons_succ, List.append_nil]
  rw [th_isi hx]
  cases hs : seqD x with
  | none =>
    have e : faultS zs x = some (-1) := by simp [faultS, hs]
    rw [e] at k
    simp only [Option.isSome_none, Bool.not_false, if_true, z_neg]
    exact k
  | some es =>
    obtain ⟨hl, hp⟩ := hx.seq hs
    have e : faultS zs x = if decide (12 < es.length) = true then some (-1) else (badS zs 0 [] es).map fun i : Nat => (i : Int) := by simp [faultS, hs]
    rw [e] at k
    simp only [Option.isSome_some, Bool.not_true, Bool.false_eq_true, if_false, seq_len hs]
    refine (chain_gt (hi := 12)).mpr ?_
    cases hc : decide (12 < es.length) with
    | true =>
      rw [hc] at k
      simp only [if_true, z_neg] at k ⊢
      exact k
    | false =>
      rw [hc] at k
      simp only [Bool.false_eq_true, if_false] at k ⊢
      simp only [qiEnum0, qSeq, qAsg, qTup, qCons, qNil, qOp, qUn, qC, qCall, qVar, qLst, newL_f, qIfS, qTB, qNext, qRet, qDrop, qFor, qCB, qAug, qSl, qPart, qNoPart, gNameD, gSub_eq, dInt_i, dInt0_i, dAdd_i, dCmpI_i, List.set_cons_zero, List.set_cons_succ, List.getElem?_cons_zero, List.getElem?_cons_succ, List.append_nil, seq_at hs]
      refine loopL_inv (fun i p M' => ∃ (seen : List Str) (p2 p3 : Option D), p = [some t, some x, p2, p3] ∧ es.take i = seen.map .str ∧ M' = M ∧ badS zs 0 [] es = badS zs i seen (es.drop i)) (n := es.length) (by simp) (fun i d p M' R hd hI hR => ?_) (fun p M' hI => ?_)
        ⟨[], none, none, rfl, rfl, rfl, by rw [List.drop_zero]⟩
      · obtain ⟨seen, p2, p3, rfl, hsn, rfl, hb⟩ := hI
        obtain ⟨e, he, rfl⟩ := enum_tup hd
        rw [drop_at he] at hb
        have hpe := hp e (List.mem_of_getElem? he)
        refine ⟨trivial, ?_⟩
        simp only [gTupD, gConsD, gNilD, qSeq, qAsg, qTup, qCons, qNil, qOp, qUn, qC, qCall, qVar, qLst, newL_f, qIfS, qTB, qNext, qRet, qDrop, qFor, qCB, qAug, qSl, qPart, qNoPart, gNameD, gSub_eq, dInt_i, dInt0_i, dAdd_i, dCmpI_i, List.set_cons_zero, List.set_cons_succ, List.getElem?_cons_zero, List.getElem?_cons_succ, List.append_nil]
        refine ⟨rfl, rfl, ?_⟩
        refine ⟨n, e, t, zs, rfl, hpe, ht, ?_⟩
        cases ho : oneD zs e with
        | false =>
          rw [badS_not ho] at hb
          rw [hb] at k
          simp only [Bool.not_false, if_true]
          exact k
        | true =>
          obtain ⟨z, rfl, hz⟩ := oneD_iff.mp ho
          simp only [Bool.not_true, Bool.false_eq_true, if_false, qSeq, qAsg, qTup, qCons, qNil, qOp, qUn, qC, qCall, qVar, qLst, newL_f, qIfS, qTB, qNext, qRet, qDrop, qFor, qCB, qAug, qSl, qPart, qNoPart, gNameD, gSub_eq, dInt_i, dInt0_i, dAdd_i, dCmpI_i, List.set_cons_zero, List.set_cons_succ, List.getElem?_cons_zero, List.getElem?_cons_succ, List.append_nil]
          have hnx : (es.take (i + 1)) = (seen ++ [z]).map D.str := by rw [List.take_add_one, he, hsn]; simp
          refine seq_cut hs ?_ ?_ <;> rw [hsn] <;> first | rw [textsD_t z] | rw [textsD_x z]
          all_goals
            by_cases hin : z ∈ seen
            · rw [badS, if_neg (by simp [hin])] at hb
              rw [hb] at k
              simp only [hin, decide_true, if_true]
              exact k
            · rw [badS, if_pos (by simp [hz, hin])] at hb
              simp only [hin, decide_false, Bool.false_eq_true, if_false]
              exact hR _ _ ⟨seen ++ [z], _, _, rfl, hnx, rfl, hb⟩
      · obtain ⟨seen, p2, p3, rfl, hsn, rfl, hb⟩ := hI
        refine ⟨trivial, ?_⟩
        rw [List.drop_length, badS] at hb
        rw [hb] at k
        exact k
abbrev Row_ := Str × Int
def plD (r : Row_) : D := .tup [.str r.1, .int r.2]
def RowOk (r : Row_) : Prop := nameS r.1 = true ∧ 1 ≤ r.2 ∧ r.2 ≤ 4
theorem badP_ok : ∀ (rows : List Row_) (seen : List Str) (i : Nat), (∀ r ∈ rows, RowOk r) → (seen ++ rows.map (·.1)).Nodup → badP seen i (rows.map plD) = none
  | [], _, _, _, _ => rfl
  | r :: rows, seen, i, h, hd => by
    have h1 := h r (List.mem_cons_self ..)
    have hp : placeD (plD r) = true := placeD_iff.mpr ⟨_, _, rfl, h1⟩
    have hn : nameOf (plD r) = r.1 := rfl
    rw [List.map_cons] at hd ⊢
    have hni : r.1 ∉ seen := fun z => (List.nodup_append.mp hd).2.2 _ z _ (List.mem_cons_self ..) rfl
    rw [badP, hp, hn, if_pos (by simp [hni])]
    exact badP_ok rows _ _ (fun x hx => h x (List.mem_cons_of_mem _ hx)) (by rw [List.append_assoc]; exact hd)
theorem badS_ok (zs : List Str) : ∀ (ss seen : List Str) (i : Nat), (∀ z ∈ ss, z ∈ zs) → (seen ++ ss).Nodup → badS zs i seen (ss.map .str) = none
  | [], _, _, _, _ => rfl
  | z :: ss, seen, i, h, hd => by
    have hni : z ∉ seen := fun q => (List.nodup_append.mp hd).2.2 _ q _ (List.mem_cons_self ..) rfl
    rw [List.map_cons, badS, if_pos (by simp [hni, h z (List.mem_cons_self ..)])]
    exact badS_ok zs ss _ _ (fun x hx => h x (List.mem_cons_of_mem _ hx)) (by rw [List.append_assoc]; exact hd)
def riskD (rows : List Row_) : List (Key × D) := rows.map fun r => (.inr r.1, .int r.2)
theorem risk_pairs : ∀ rows : List Row_, pairsD (rows.map plD) = some (riskD rows)
  | [] => rfl
  | r :: rows => by
    have := risk_pairs rows
    rw [List.map_cons, plD]
    show (match keyD (.str r.1), pairsD (rows.map plD) with | some k, some ks => some ((k, D.int r.2) :: ks) | _, _ => none) = _
    rw [this]; rfl
theorem risk_val (rows : List Row_) (z : Str) : (valD (riskD rows) (.inr z)).isSome = decide (z ∈ rows.map (·.1)) := by
  unfold valD riskD
  rw [Option.isSome_map]
  induction rows with
  | nil => simp
  | cons y r ih =>
    rw [List.map_cons, List.find?_cons]
    by_cases e : y.1 = z
    · subst e; simp
    · have e1 : decide ((Sum.inr y.1 : Key) = Sum.inr z) = false := decide_eq_false fun q => e (by injection q)
      rw [e1, ih]
      apply decide_eq_decide.mpr
      simp [Ne.symm e]
theorem risk_putAll : ∀ (rows pre : List Row_), ((pre ++ rows).map (·.1)).Nodup → putAllD (riskD pre) (riskD rows) = riskD (pre ++ rows)
  | [], pre, _ => by simp [putAllD, riskD]
  | r :: rows, pre, hd => by
    have hni : r.1 ∉ pre.map (·.1) := fun q => by
      rw [List.map_append] at hd
      exact (List.nodup_append.mp hd).2.2 _ q _ (by simp) rfl
    have e : putD (riskD pre) (.inr r.1) (.int r.2) = riskD (pre ++ [r]) := by
      unfold putD
      rw [if_neg]
      · simp [riskD]
      · rw [List.any_eq_true]
        rintro ⟨kv, hk, e⟩
        obtain ⟨y, hy, rfl⟩ := List.mem_map.mp hk
        have e2 := of_decide_eq_true e
        injection e2 with e2
        exact hni (List.mem_map.mpr ⟨y, hy, e2⟩)
    have ih := risk_putAll rows (pre ++ [r]) (by rw [List.append_assoc]; exact hd)
    rw [List.append_assoc] at ih
    show putAllD (putD (riskD pre) (.inr r.1) (.int r.2)) (riskD rows) = _
    rw [e, ih]; rfl
theorem zip_split {α β : Type} : ∀ l : List (α × β), (l.map (·.1)).zip (l.map (·.2)) = l
  | [] => rfl
  | p :: r => by simp [zip_split r]
def risksD (rows : List Row_) : D := .dct ((riskD rows).map (·.1)) ((riskD rows).map (·.2))
theorem textsD_risk {M : Mst} {rows : List Row_} : TextsD M (rows.map (·.1)) (risksD rows) := fun z Q => by
  unfold dIn risksD
  simp only [dgetD, keyD, Option.map_some, zip_split, risk_val, Bool.false_xor]
def qNeed (c_NoGround : Addr) : DTS :=
  (qIfS (qTB (qOp (dIs true) (qVar 1) (qC .non)))
  (qRaise c_NoGround [(PySem.Str.ofString "part"), (PySem.Str.ofString "at")] (qCons (qVar 0) (qCons (qVar 1) qNil)))
  qNext)
def spNeed0 : DSp := fun ds M Q _ => ∃ x : D, ds = [x, .non] ∧ Q .non M
theorem need0_ok (c : Addr) (ds : List D) (M : Mst) (Q : DK) (Ed : DX → Mst → Prop) (h : upSp spNeed0 ds M Q Ed) : qNeed c (fun x _ M => Ed x M) (retE Q) (startD ["part", "at"] ds) M := by
  obtain ⟨Q0, E0, ⟨x, rfl, k0⟩, kq, _⟩ := h
  have k : Q .non M := kq _ _ _ (Sub.refl _) k0
  show qNeed _ _ _ [some x, some .non] M
  simp only [qNeed, qSeq, qAsg, qTup, qCons, qNil, qOp, qUn, qC, qCall, qVar, qLst, newL_f, qIfS, qTB, qNext, qRet, qDrop, qFor, qCB, qAug, qSl, qPart, qNoPart, gNameD, gSub_eq, dInt_i, dInt0_i, dAdd_i, dCmpI_i, List.set_cons_zero, List.set_cons_succ, List.getElem?_cons_zero, List.getElem?_cons_succ, List.append_nil, z_isnot, isNon, Bool.not_true, Bool.false_eq_true, if_false]
  exact k
abbrev FG : List Str := [(PySem.Str.ofString "risks"), (PySem.Str.ofString "places"), (PySem.Str.ofString "roads"), (PySem.Str.ofString "stations")]
structure GrOk (rows : List Row_) (ss : List Str) : Prop where
  ok : ∀ r ∈ rows, RowOk r
  nd : (rows.map (·.1)).Nodup
  l0 : 1 ≤ rows.length
  l1 : rows.length ≤ 40
  si : ∀ z ∈ ss, z ∈ rows.map (·.1)
  sd : ss.Nodup
  sl : ss.length ≤ 12
theorem nameS_tx {z : Str} (h : nameS z = true) : Tx_ 8 z := by
  unfold nameS lettB at h
  simp only [Bool.and_eq_true, decide_eq_true_eq, List.all_eq_true] at h
  exact ⟨fun c hc => by have := h.2 c hc; omega, h.1.2⟩
theorem GrOk.places {rows : List Row_} {ss : List Str} (h : GrOk rows ss) : Th 40 (.xtp (rows.map plD)) := .xt (by rw [List.length_map]; exact h.l1) fun d hd => by
  obtain ⟨r, hr, rfl⟩ := List.mem_map.mp hd
  refine .tup (by simp) fun e he => ?_
  simp only [List.mem_cons, List.not_mem_nil, or_false] at he
  rcases he with rfl | rfl
  · exact .str ((nameS_tx (h.ok r hr).1).mono (by decide))
  · exact .int _
theorem GrOk.stations {rows : List Row_} {ss : List Str} (h : GrOk rows ss) : Th 40 (.xtp (ss.map .str)) := .xt (by rw [List.length_map]; exact Nat.le_trans h.sl (by decide)) fun d hd => by
  obtain ⟨z, hz, rfl⟩ := List.mem_map.mp hd
  obtain ⟨r, hr, rfl⟩ := List.mem_map.mp (h.si z hz)
  exact .str ((nameS_tx (h.ok r hr).1).mono (by decide))
def qGround (c_Ground : Addr) (sp_need : DSp) (sp_places_fault : DSp) (sp_roads_fault : DSp) (sp_stations_fault : DSp) : DTS :=
  (qSeq (qDrop (qCall sp_need [] (qCons (qC (.str (PySem.Str.ofString "places"))) (qCons (qCall sp_places_fault [] (qCons (qVar 1) qNil)) qNil))))
  (qSeq (qSetF c_Ground FG 0 (PySem.Str.ofString "risks") (qVar 0) (qFrzE (qCB dDict (qCons (qVar 1) qNil))))
  (qSeq (qDrop (qCall sp_need [] (qCons (qC (.str (PySem.Str.ofString "roads"))) (qCons (qCall sp_roads_fault [] (qCons (qFld c_Ground FG 0 (qVar 0)) (qCons (qVar 2) qNil))) qNil))))
  (qSeq (qDrop (qCall sp_need [] (qCons (qC (.str (PySem.Str.ofString "stations"))) (qCons (qCall sp_stations_fault [] (qCons (qFld c_Ground FG 0 (qVar 0)) (qCons (qVar 3) qNil))) qNil))))
  (qSeq (qSetF c_Ground FG 1 (PySem.Str.ofString "places") (qVar 0) (qVar 1))
  (qSeq (qSetF c_Ground FG 2 (PySem.Str.ofString "roads") (qVar 0) (qVar 2))
  (qSetF c_Ground FG 3 (PySem.Str.ofString "stations") (qVar 0) (qVar 3))))))))
end DL
namespace DL
open PySem L2 Tx20 Tx21
section
variable {n : Nat} {x : D} {M : Mst} {Q : DK}
theorem pl_t0 : Pl n (.tup []) := .tup (Nat.zero_le _) fun _ h => by cases h
theorem pl_l0 : Pl n (.lst []) := .lst (Nat.zero_le _) fun _ h => by cases h
theorem pl_t1 (hn : 1 ≤ n) (h : Pl n x) : Pl n (.tup [x]) := .tup hn fun _ hd => by rw [List.mem_singleton] at hd; subst hd; exact h
theorem pl_l1 (hn : 1 ≤ n) (h : Pl n x) : Pl n (.lst [x]) := .lst hn fun _ hd => by rw [List.mem_singleton] at hd; subst hd; exact h
theorem atI_ok {α : Type} {xs : List α} {i : Int} (h0 : -(xs.length : Int) ≤ i) (h1 : i < xs.length) : ∃ x, atI xs i = some x ∧ x ∈ xs := by
  by_cases h : 0 ≤ i
  · exact atI_some h h1
  · unfold atI ixN
    rw [if_neg h, if_pos h0]
    have hj : (i + xs.length).toNat < xs.length := by omega
    exact ⟨_, List.getElem?_eq_getElem hj, List.getElem_mem hj⟩
theorem pick_x {ds : List D} {r : Int} (h0 : 0 ≤ r) (h1 : r < ds.length) (h : ∀ d ∈ ds, Q d M) : dIx (.xtp ds) (.int r) M Q := by
  obtain ⟨x, hx, hm⟩ := atI_some h0 h1
  rw [ix_x hx]; exact h x hm
theorem cut_from1 {α : Type} (xs : List α) (k : Nat) : cutX xs (some ((k : Int) + 1)) none = xs.drop (k + 1) := cut_from xs (k + 1)
end
theorem cc {d : D} {rest : DTA} {DW p} {QA : List D → Mst → Prop} (h : rest DW p M (fun ds M => QA (d :: ds) M)) : qCons (qC d) rest DW p M QA := h
theorem cc_neg {i : Int} {rest : DTA} {DW p} {QA : List D → Mst → Prop} (h : rest DW p M (fun ds M => QA (.int (-i) :: ds) M)) : qCons (qUn dNeg (qC (.int i))) rest DW p M QA := h
theorem cc_l0 {rest : DTA} {DW p} {QA : List D → Mst → Prop} (h : rest DW p M (fun ds M => QA (.lst [] :: ds) M)) : qCons (qLst false qNil) rest DW p M QA := ⟨Nat.zero_le _, h⟩
theorem cc_t0 {rest : DTA} {DW p} {QA : List D → Mst → Prop} (h : rest DW p M (fun ds M => QA (.tup [] :: ds) M)) : qCons (qTup qNil) rest DW p M QA := ⟨Nat.zero_le _, h⟩
theorem cc_l1 {d : D} {rest : DTA} {DW p} {QA : List D → Mst → Prop} (h : rest DW p M (fun ds M => QA (.lst [d] :: ds) M)) : qCons (qLst false (qCons (qC d) qNil)) rest DW p M QA := ⟨by simp, h⟩
theorem cc_lst {qa : DTA} {DW p} (h : qa DW p M (fun ds M1 => ds.length ≤ 100000 ∧ Q (.lst ds) M1)) : qLst false qa DW p M Q := h
theorem seq_asg {qe : DTE} {g : DTG} {q2 : DTS} {DW : DWt} {DE : DEnds} {p : Rho} (h : qe DW p M fun d M1 => g d DW p M1 fun p M2 => q2 DW DE p M2) : qSeq (qAsg qe g) q2 DW DE p M := h
end DL
namespace DL
open PySem L2 Tx20 Tx21
/-- signs drawn, told by a relation -/
theorem ones_of {P : Nat → Prop} {ds ys : List D} (h : All2 (fun _ y => ∃ c : Nat, y = .str (one c) ∧ P c) ds ys) : ∃ cs : List Nat, ys = (cs.map one).map D.str ∧ cs.length = ds.length ∧ ∀ c ∈ cs, P c := by
  induction h with
  | nil => exact ⟨[], rfl, rfl, fun _ h => (by cases h)⟩
  | cons h _ ih =>
    obtain ⟨c, rfl, hz⟩ := h
    obtain ⟨w, e, l, a⟩ := ih
    exact ⟨c :: w, by simp [e], by simp [l], fun x hx => by
      rcases List.mem_cons.mp hx with rfl | hx
      · exact hz
      · exact a x hx⟩
def Low (c : Nat) : Prop := 97 ≤ c ∧ c ≤ 122
theorem lett_low : ∀ c ∈ (PySem.Str.ofString "abcdefghijklmnopqrstuvwxyz").cps.toList, 97 ≤ c ∧ c ≤ 122 := by decide +kernel
theorem lett_at : ∀ i, i < 26 → (PySem.Str.ofString "abcdefghijklmnopqrstuvwxyz").cps.toList[i]? = some (97 + i) := by decide +kernel
/-- letters[i] -/
theorem ix_lett {i : Nat} {M : Mst} {Q : DK} (hi : i < 26) (h : Q (.str (one (97 + i))) M) : dIx (.str (PySem.Str.ofString "abcdefghijklmnopqrstuvwxyz")) (.int (i : Int)) M Q := by
  unfold dIx
  simp only [dgetD, res_str, atI_n, lett_at i hi]
  exact h
theorem nameS_of {z : Str} (h0 : 1 ≤ z.length) (h1 : z.length ≤ 8) (h : ∀ c ∈ z.cps.toList, Low c) : nameS z = true := by
  unfold nameS lettB
  simp only [Bool.and_eq_true, decide_eq_true_eq, List.all_eq_true]
  exact ⟨⟨h0, h1⟩, fun c hc => h c hc⟩
theorem app_list {x y : Str} : (x ++ y).cps.toList = x.cps.toList ++ y.cps.toList := by
  show (x.cps ++ y.cps).toList = _
  rw [Array.toList_append]
theorem nd_of_map {α β : Type} {f : α → β} : ∀ {l : List α}, (l.map f).Nodup → l.Nodup
  | [], _ => List.nodup_nil
  | x :: l, h => by
    rw [List.map_cons, List.nodup_cons] at h
    rw [List.nodup_cons]
    exact ⟨fun hx => h.1 (List.mem_map_of_mem hx), nd_of_map h.2⟩
end DL
namespace DL
open PySem L2 Tx20 Tx21
theorem pl_mid {n m : Nat} {ds mid : List D} {i j : Nat} (h : ∀ d ∈ ds, Pl n d) (hl : ds.length ≤ n) (g : ∀ d ∈ mid, Pl m d) (hm : n + mid.length ≤ m) (hij : i ≤ j) : Pl m (.tup (ds.take i ++ mid ++ ds.drop j)) :=
  .tup (by simp; omega) fun d hd => by
    rcases List.mem_append.mp hd with hd | hd
    · rcases List.mem_append.mp hd with hd | hd
      · exact (h d (List.mem_of_mem_take hd)).mono (by omega)
      · exact g d hd
    · exact (h d (List.mem_of_mem_drop hd)).mono (by omega)
theorem pl_cut {n : Nat} {ds : List D} {i j : Nat} (h : ∀ d ∈ ds, Pl n d) (hl : ds.length ≤ n) (hij : i ≤ j) : Pl n (.tup (ds.take i ++ ds.drop j)) :=
  .tup (by simp; omega) fun d hd => by
    rcases List.mem_append.mp hd with hd | hd
    · exact h d (List.mem_of_mem_take hd)
    · exact h d (List.mem_of_mem_drop hd)
theorem one_mem {x d : D} {m : Nat} (h : Pl m x) : d ∈ [x] → Pl m d := fun e => by rw [List.mem_singleton] at e; subst e; exact h
end DL
namespace DL
open PySem L2 Tx20 Tx21
def strEq : D → Str → Bool
  | .str y, z => decide (y = z)
  | _, _ => false
/-- (word, whole numbers within bounds) -/
def isB (w : Str) (bs : List (Int × Int)) : D → Bool
  | .tup (a :: r) => decide (r.length = bs.length) && (strEq a w && (r.zip bs).all fun p => wholeD p.2.1 p.2.2 p.1)
  | _ => false
def midB (x : D) : Bool := (isB (lit "hose") [(1, 20), (-60, 60)] x || isB (lit "pump") [(0, 120), (1, 5000)] x) || isB (lit "leak") [(0, 1000)] x
def nozB (x : D) : Bool := isB (lit "nozzle") [(0, 2000), (0, 100)] x
end DL
namespace DL
open PySem L2 Tx20 Tx21
end DL
namespace DL
open PySem L2 Tx20 Tx21
inductive LT where
  | noz (ms : List D) (z : D)
  | frk (ms : List D) (a b : LT)
def LT.d : LT → D
  | .noz ms z => .tup (ms ++ [z])
  | .frk ms a b => .tup (ms ++ [.tup [.str (lit "fork"), a.d, b.d]])
def MidsOk (ms : List D) : Prop := (∀ m ∈ ms, midB m = true) ∧ ms.length ≤ 7
def LT.ok : Nat → LT → Prop
  | _, .noz ms z => MidsOk ms ∧ nozB z = true
  | 0, .frk _ _ _ => False
  | f + 1, .frk ms a b => MidsOk ms ∧ a.ok f ∧ b.ok f
end DL
namespace DL
open PySem L2 Tx20 Tx21
@[simp] theorem z_isX {a : Addr} {d : Option Addr} {b : Bool} {c : D} {ns : List Str} {ys : List D} {M : Mst} {Q : DK} : dIsX a d b c [.exc a d ns ys, c] M Q = Q (.bl b) M :=
  propext ⟨fun ⟨_, _, e, h⟩ => h, fun h => ⟨_, _, rfl, h⟩⟩
end DL
namespace DL
open PySem L2 Tx20 Tx21
end DL
namespace DL
open PySem L2 Tx20 Tx21
theorem rangeL_at {lo : Int} {n : Nat} {i : Nat} {d : D} (h : (rangeD lo n)[i]? = some d) : i < n ∧ d = .int (lo + (i : Int)) := by
  obtain ⟨h1, e⟩ := List.getElem?_eq_some_iff.mp h
  have h2 : i < n := by simpa using h1
  refine ⟨h2, ?_⟩
  rw [← e]
  simp [rangeD]
end DL
set_option maxHeartbeats 2000000
namespace DL
open PySem PySem.Spec PyProof.Rows L2
end DL
set_option maxHeartbeats 2000000
namespace DL
open PySem PySem.Spec PyProof.Rows L2
theorem Sim.back {K : PySem.W.Frag} {G G' H H' : Hp} {p : Rho} {M M' : Mst} {s : L2.St} (S : Sim K G H p M s) (e : Same G G') (e2 : Same G' H') (hm : MemOk K G' H' M') : Sim K G' H' p M' s :=
  ⟨e2, fun i d hd => by
    obtain ⟨v, h1, h2⟩ := S.env i d hd
    exact ⟨v, h1, Rep.mono e _ _ h2⟩, S.len, hm⟩
mutual
def plainD : D → Bool
  | .non => true
  | .bl _ => true
  | .int _ => true
  | .str _ => true
  | .tup ds => plainDL ds
  | .lst ds => plainDL ds
  | _ => false
def plainDL : List D → Bool
  | [] => true
  | d :: ds => plainD d && plainDL ds
end
def qJs : List DTE → Str → DTE
  | [], acc => fun _ _ M Q => Q (.str acc) M
  | q :: qs, acc => fun DW p M Q => q DW p M fun x M1 => match x with
    | .str y => (acc ++ y).length ≤ sizeLine ∧ qJs qs (acc ++ y) DW p M1 Q
    | _ => False
inductive QJ (X : Cx) (W : WX) : List Expr → List TE → List DTE → Prop where
  | nil : QJ X W [] [] []
  | cons {e : Expr} {t : TE} {q : DTE} {es : List Expr} {ts : List TE} {qs : List DTE} (h : QE X W e t q) (r : QJ X W es ts qs) : QJ X W (e :: es) (t :: ts) (q :: qs)
theorem QJ.rf {X : Cx} {W : WX} {es : List Expr} {ts : List TE} {qs : List DTE} (h : QJ X W es ts qs) : ∀ (acc : Str), acc.length ≤ sizeLine → PyData.strOk acc = true → RefE X.K W (fun σ H Q => tJs ts acc σ H fun out H1 => Q (.str out) H1) (qJs qs acc) := by
  induction h with
  | nil => exact fun acc h1 h2 DW G H p M s Q Q' hw S hq k => k G H M (.str acc) _ (Same.refl _) S ⟨rfl, h1, h2⟩ hq
  | cons h _ ih =>
    intro acc h1 h2 DW G H p M s Q Q' hw S hq k
    refine h.rf DW G H p M s _ _ hw S hq fun G1 H1 M1 d v e1 S1 r1 z => ?_
    cases d <;> first | exact z.elim | skip
    obtain ⟨rfl, z2⟩ := r1
    refine ⟨_, rfl, z.1, ?_⟩
    exact ih _ z.1 (strOk_append h2 z2.2) DW G1 H1 p M1 s Q Q' (WLink.mono e1 hw) S1 z.2 fun G2 H2 M2 d v e2 S2 r2 z2 => k G2 H2 M2 d v (e1.trans e2) S2 r2 z2
end DL
set_option maxHeartbeats 2000000
namespace DL
open PySem PySem.Spec PyProof.Rows L2
theorem room65 {k : Nat} {A : Around} (r : Room k A) : A.units + 65 < cLine := by have := r.un; omega
theorem shaped_of {d : D} (h1 : (pyd d).canLay0 = true) (h2 : dep d ≤ 64) : SeqAt.shaped (pyd d) = true := by
  unfold SeqAt.shaped
  rw [h1, Bool.true_and]; exact decide_eq_true h2
theorem pyd_any (ds : List D) (x : D) : ((pydL ds).any fun z => PyData.eqv z (pyd x)) = ds.any fun e => deq e x := by
  induction ds with
  | nil => rfl
  | cons d ds ih => show (PyData.eqv (pyd d) (pyd x) || (pydL ds).any _) = _; rw [ih]; rfl
def dInD (neg : Bool) : DOp := fun x y M Q => match res M y with
  | .lst ds => isData (res M x) = true ∧ isData (.lst ds) = true ∧ dep (res M x) ≤ 64 ∧ dep (.lst ds) ≤ 64 ∧ Q (.bl (xor neg (ds.any fun e => deq e (res M x)))) M
  | _ => False
theorem o_notInD {X : Cx} (hu : X.A.units + 65 < cLine) : QOp X (compareOp .NotIn) (rNotInD X.K) (dInD true) := ⟨op_notInD hu, fun G H p M s x y v u Q Q' S r1 r2 h k => by
  unfold dInD at h
  split at h
  · next ds e =>
    obtain ⟨i1, i2, d1, d2, q⟩ := h
    obtain ⟨a1, a2⟩ := data_of S r1 rfl i1
    obtain ⟨b1, b2⟩ := data_of S r2 e i2
    refine ⟨_, pydL ds, a1, b1, shaped_of a2 d1, shaped_of b2 d2, ?_⟩
    rw [pyd_any]
    rw [Bool.true_xor] at q
    exact k G H M (.bl _) _ (Same.refl _) S rfl q
  · exact h.elim⟩
end DL
set_option maxHeartbeats 2000000
namespace DL
open PySem PySem.Spec PyProof.Rows L2
def qPairs : List (DTE × DTE) → DWt → Rho → Mst → (List (D × D) → Mst → Prop) → Prop
  | [], _, _, M, Q => Q [] M
  | (qk, qv) :: r, DW, p, M, Q => qk DW p M fun k M1 => qv DW p M1 fun v M2 => qPairs r DW p M2 fun ps M3 => Q ((k, v) :: ps) M3
def pairsK : List (D × D) → Option (List (Key × D))
  | [] => some []
  | (k, x) :: r => match keyD k, pairsK r with
    | some k', some r' => some ((k', x) :: r')
    | _, _ => none
def qDisp (rs : List (DTE × DTE)) : DTE := fun DW p M Q => ∀ a, M a = none → qPairs rs DW p (put M a (.dK [])) fun ps M2 => M2 a = some (.dK []) ∧ match pairsK ps with
  | some kvs => kvs.length ≤ 15 ∧ Q (.ref a) (put M2 a (.dK (putAllD [] kvs)))
  | none => False
inductive QPs (X : Cx) (W : WX) (pos : Pos) : List (Option Expr) → List Expr → List (TE × TE) → List (DTE × DTE) → Prop where
  | nil : QPs X W pos [] [] [] []
  | cons {k v : Expr} {tk tv : TE} {qk qv : DTE} {ks : List (Option Expr)} {vs : List Expr} {ts : List (TE × TE)} {rs : List (DTE × DTE)} (hk : QE X W k tk qk) (hv : QE X W v tv qv) (r : QPs X W pos ks vs ts rs) : QPs X W pos (some k :: ks) (v :: vs) ((tk, tv) :: ts) ((qk, qv) :: rs)
theorem QPs.pp {X : Cx} {W : WX} {pos : Pos} {ks : List (Option Expr)} {vs : List Expr} {ts : List (TE × TE)} {rs : List (DTE × DTE)} (h : QPs X W pos ks vs ts rs) : PPs X pos ks vs ts := by
  induction h with
  | nil => exact pps_nil
  | cons hk hv _ ih => exact pps_cons hk.pe hv.pe ih
theorem QPs.rf {X : Cx} {W : WX} {pos : Pos} {ks : List (Option Expr)} {vs : List Expr} {ts : List (TE × TE)} {rs : List (DTE × DTE)} (h : QPs X W pos ks vs ts rs) : ∀ DW G H p M s (Q : List (D × D) → Mst → Prop) (Q' : List (V × V) → Hp → Prop), WLink X.K G DW W → Sim X.K G H p M s → qPairs rs DW p M Q →
    (∀ G' H' M' ds us, Same G G' → Sim X.K G' H' p M' s → RepL X.K G' (ds.map (·.1)) (us.map (·.1)) → RepL X.K G' (ds.map (·.2)) (us.map (·.2)) → Q ds M' → Q' us H') → tPairs ts s H Q' := by
  induction h with
  | nil => exact fun DW G H p M s Q Q' hw S hq k => k G H M [] [] (Same.refl _) S rfl rfl hq
  | cons hk hv _ ih =>
    intro DW G H p M s Q Q' hw S hq k
    refine hk.rf DW G H p M s _ _ hw S hq fun G1 H1 M1 d v e1 S1 r1 h1 => ?_
    refine hv.rf DW G1 H1 p M1 s _ _ (hw.mono e1) S1 h1 fun G2 H2 M2 d2 v2 e2 S2 r2 h2 => ?_
    refine ih DW G2 H2 p M2 s _ _ (hw.mono (e1.trans e2)) S2 h2 fun G3 H3 M3 ds us e3 S3 r3 r4 h3 => ?_
    exact k G3 H3 M3 ((d, d2) :: ds) ((v, v2) :: us) (e1.trans (e2.trans e3)) S3 (RepL.cons (Rep.mono (e2.trans e3) _ _ r1) r3) (RepL.cons (Rep.mono e3 _ _ r2) r4) h3
theorem pairsK_of {K : PySem.W.Frag} {G : Hp} : ∀ {ds : List (D × D)} {us : List (V × V)} {kvs : List (Key × D)}, RepL K G (ds.map (·.1)) (us.map (·.1)) → RepL K G (ds.map (·.2)) (us.map (·.2)) → pairsK ds = some kvs →
    ∃ mv : List (Key × V), us = mv.map (fun kv => (kV kv.1, kv.2)) ∧ mv.map (·.1) = kvs.map (·.1) ∧ RepL K G (kvs.map (·.2)) (mv.map (·.2)) ∧ ∀ q ∈ kvs, kOk q.1
  | [], us, kvs, r1, _, h => by
    cases h
    cases us with
    | nil => exact ⟨[], rfl, rfl, rfl, fun _ h => (by cases h)⟩
    | cons _ _ => cases r1
  | (d, x) :: ds, us, kvs, r1, r2, h => by
    cases us with
    | nil => obtain ⟨_, _, e, _⟩ := r1; cases e
    | cons u us =>
      obtain ⟨v1, w1, e1, a1, b1⟩ := r1
      obtain ⟨v2, w2, e2, a2, b2⟩ := r2
      cases e1
      cases e2
      simp only [pairsK] at h
      split at h
      · next k' r' hk hr =>
        cases h
        obtain ⟨mv, q1, q2, q3, q4⟩ := pairsK_of b1 b2 hr
        have eu := keyD_of a1 hk
        refine ⟨(k', u.2) :: mv, by rw [q1, List.map_cons]; congr 1; exact Prod.ext eu rfl, by simp [q2], RepL.cons a2 q3, fun q hq => ?_⟩
        rcases List.mem_cons.mp hq with rfl | hq
        · exact kOk_of a1 hk
        · exact q4 q hq
      · cases h
theorem q_disp {X : Cx} {W : WX} {pos : Pos} {ks : List (Option Expr)} {vs : List Expr} {ts : List (TE × TE)} {rs : List (DTE × DTE)} (h : QPs X W pos ks vs ts rs) (hall : ks.all (·.isSome) = true := by rfl) (hl : ks.length = vs.length := by rfl) (h0 : ks ≠ [] := by exact List.cons_ne_nil _ _) (h15 : ks.length ≤ 15 := by decide) :
    QE X W (.Dict ks vs pos) (tDisp ts) (qDisp rs) :=
  ⟨pe_disp h.pp hall hl h0 h15, fun DW G H p M s Q Q' hw S hq k a ha => by
    have S1 : Sim X.K G (upd H a (.dK [])) p (put M a (.dK [])) s := S.put (mo := .dK []) (S.same.free ha) ⟨[], upd_same, rfl, rfl, Nat.zero_le _, fun _ h => by cases h⟩
    refine h.rf DW G _ p _ s _ _ hw S1 (hq a (S.mem.fresh ha)) fun G2 H2 M2 ds us e S2 r1 r2 ⟨hm, hk⟩ => ?_
    split at hk
    · next kvs e2 =>
      obtain ⟨l15, hQ⟩ := hk
      obtain ⟨mv, q1, q2, q3, q4⟩ := pairsK_of r1 r2 e2
      obtain ⟨gn, kv0, m1, m2, _⟩ := S2.mem _ _ hm
      have e0 : kv0 = [] := by cases kv0 with | nil => rfl | cons _ _ => cases m2
      subst e0
      have hlen : mv.length = kvs.length := by have := congrArg List.length q2; simpa using this
      obtain ⟨z1, z2⟩ := putAll_rel (kvs := []) (kv := []) q2 q3 rfl rfl
      refine ⟨m1, mv, q1, by omega, ?_⟩
      have hmk : (mergeK [] mv).length ≤ sizeLine := Nat.le_trans (length_mergeK mv []) (by simp only [List.length_nil]; rw [sizeLine_eq]; omega)
      exact k G2 _ _ (.ref a) _ e (S2.put (mo := .dK (putAllD [] kvs)) gn ⟨mergeK [] mv, upd_same, z1, z2, hmk, putAll_keys (fun _ h => by cases h) q4⟩) rfl hQ
    · exact hk.elim⟩
end DL
namespace L2
open PySem PySem.Spec PyProof.Rows
end L2
namespace DL
open PySem PySem.Spec PyProof.Rows L2
end DL
namespace L2
open PySem PySem.Spec PyProof.Rows
end L2
namespace DL
open PySem PySem.Spec PyProof.Rows L2
def txL : List D → Option (List Str)
  | [] => some []
  | .str z :: ds => match txL ds with
    | some zs => some (z :: zs)
    | none => none
  | _ => none
theorem txL_eq : ∀ {ds : List D} {zs : List Str}, txL ds = some zs → ds = zs.map .str
  | [], zs, h => by cases h; rfl
  | d :: ds, zs, h => by
    unfold txL at h
    split at h
    · next e => cases e
    · next z es e =>
      cases e
      split at h
      · next ys e2 => cases h; rw [txL_eq e2]; rfl
      · cases h
    · cases h
@[simp] theorem txL_map (zs : List Str) : txL (zs.map .str) = some zs := by
  induction zs with
  | nil => rfl
  | cons z zs ih => show (match txL (zs.map .str) with | some ys => some (z :: ys) | none => none) = _; rw [ih]
theorem repL_txs {K : PySem.W.Frag} {G : Hp} : ∀ {ys : List Str}, (∀ y ∈ ys, kOk (.inr y)) → RepL K G (ys.map D.str) (ys.map V.str)
  | [], _ => rfl
  | y :: ys, h => ⟨_, _, rfl, ⟨rfl, (h y (List.mem_cons_self ..)).1, (h y (List.mem_cons_self ..)).2⟩, repL_txs fun x hx => h x (List.mem_cons_of_mem _ hx)⟩
theorem repL_txs' {K : PySem.W.Frag} {G : Hp} : ∀ {zs : List Str} {vs : List V}, RepL K G (zs.map D.str) vs → vs = zs.map V.str ∧ ∀ y ∈ zs, kOk (.inr y)
  | [], _, h => by cases h; exact ⟨rfl, fun y hy => nomatch hy⟩
  | n :: ns, _, ⟨v, q, h1, h2, h3⟩ => by
    obtain ⟨g1, g2, g3⟩ := h2
    obtain ⟨rfl, g4⟩ := repL_txs' h3
    refine ⟨by rw [h1, g1]; rfl, fun y hy => ?_⟩
    rcases List.mem_cons.mp hy with rfl | hy
    · exact ⟨g2, g3⟩
    · exact g4 y hy
end DL
set_option maxHeartbeats 4000000
namespace L2
open PySem PySem.Spec PyProof.Rows
/-- the classes that a clause's test names -/
inductive TstX (X : Cx) : Expr → List Value → Prop
  | one {x : Str} {c : Value} {np : Pos} (h : Names X x c) : TstX X (.Name x np) [c]
  | tup2 {x1 x2 : Str} {c1 c2 : Value} {p1 p2 p : Pos} {k} (h1 : Names X x1 c1) (h2 : Names X x2 c2) : TstX X (.Tuple [.Name x1 p1, .Name x2 p2] k p) [c1, c2]
  | tup3 {x1 x2 x3 : Str} {c1 c2 c3 : Value} {p1 p2 p3 p : Pos} {k} (h1 : Names X x1 c1) (h2 : Names X x2 c2) (h3 : Names X x3 c3) : TstX X (.Tuple [.Name x1 p1, .Name x2 p2, .Name x3 p3] k p) [c1, c2, c3]
theorem name_ok {X : Cx} {E : Value → Shared → Prop} {pins : List (Addr × Obj)} {s : Shared} {σ : St} {H : Hp} {x : Str} {c : Value} {pos : Pos} {Q : Value → Shared → Prop} (hc : Names X x c) (S : Inv X pins σ H s) (q : Q c s) : wpAny (model X.prog X.w) X.A (eval (.Name x pos) X.env) Q E s := by
  obtain ⟨hg, hdbg, hm | ⟨hm, hv, hnn⟩⟩ := hc
  · exact ld_glob S hg hm q hdbg
  · exact ld_blt S hg hm hv q hnn hdbg
theorem flying_push {B : Heap} {l : List Env} {a : Addr} {Z : Obj → Prop} {h : Heap} {o : Obj} (fl : HandSPX.FlyingZ B l a Z h) : HandSPX.FlyingZ B l a Z (h.push o) ∧ h.UpToSlots (h.push o) := by
  obtain ⟨k1, k2, k3, oe, vs, T, oT, ts', he, hz, hd, h1, h2, h3, h4, h5, h6⟩ := fl
  exact ⟨⟨fun b u e => Heap.get?_push_of_some _ (k1 b u e), k2, Heap.FunFrames.of_keeps (fun b o e _ => ⟨o, Heap.get?_push_of_some _ e, rfl⟩) k3,
    oe, vs, T, oT, ts', Heap.get?_push_of_some _ he, hz, hd, h1, h2, h3, Heap.get?_push_of_some _ h4, h5, h6⟩, fun b u e _ => ⟨u.slots, Heap.get?_push_of_some _ e⟩⟩
theorem TstX.run {X : Cx} {t : Expr} {cs : List Value} (T : TstX X t cs) {pins : List (Addr × Obj)} {s : Shared} {σ : St} {H : Hp} {B : Heap} {l : List Env} {a : Addr} {cls : Value} {d : Option Addr} {b : Bool} {A2 : Around}
    {E1 E2 : Value → Shared → Prop} {Q : Bool → Shared → Prop} (S : Inv X pins σ H s) (fl : HandSPX.FlyingZ B l a (Zc cls d) s.heap) (hx : PySem.W.exmAny X.K cls cs = some b)
    (hq : ∀ h', HandSPX.FlyingZ B l a (Zc cls d) h' → s.heap.UpToSlots h' → Q b { s with heap := h' }) :
    wpAny (model X.prog X.w) X.A (eval t X.env) (fun c s1 => wpAny (model X.prog X.w) A2 (excMatches (.ref a) c) Q E2 s1) E1 s := by
  obtain ⟨oe3, vs3, he3, hz3, hd3⟩ := fl.there
  have LT : PySem.W.Looks (model X.prog X.w) s.heap (typeOf (.ref a)) cls := fun A Q E s k q => wpAny_typeOf_ref (k _ _ he3) (by rw [hz3.1]; exact q)
  cases T with
  | one h =>
    obtain ⟨b1, d1, x1, y1, z1⟩ := PySem.W.exmAny_cons hx
    have : some false = some d1 := y1
    cases this
    rw [Bool.or_false] at z1
    subst z1
    exact name_ok h S ((PySem.W.exm_one (M := model X.prog X.w) S.kIn LT x1).here (hq _ fl (Heap.UpToSlots.refl _)))
  | tup2 h1 h2 =>
    refine wpAny_Tuple_spliced ?_
    show wpAny _ _ (spliced [(false, eval (.Name _ _) X.env), (false, eval (.Name _ _) X.env)]) _ _ s
    refine Calls.spliced_cons (name_ok h1 S (Calls.spliced_cons (name_ok h2 S (Calls.spliced_nil ⟨by show (2 : Nat) ≤ sizeLine; decide, ?_⟩))))
    exact (PySem.W.exm_tup2 (M := model X.prog X.w) (S.kIn.keeps fun b u e => Heap.get?_push_of_some _ e) (LT.keeps fun b u e => Heap.get?_push_of_some _ e) (Heap.get?_push_size _ rfl) hx).here (hq _ (flying_push fl).1 (flying_push fl).2)
  | tup3 h1 h2 h3 =>
    refine wpAny_Tuple_spliced ?_
    show wpAny _ _ (spliced [(false, eval (.Name _ _) X.env), (false, eval (.Name _ _) X.env), (false, eval (.Name _ _) X.env)]) _ _ s
    refine Calls.spliced_cons (name_ok h1 S (Calls.spliced_cons (name_ok h2 S (Calls.spliced_cons (name_ok h3 S (Calls.spliced_nil ⟨by show (3 : Nat) ≤ sizeLine; decide, ?_⟩))))))
    exact (PySem.W.exm_tup3 (M := model X.prog X.w) (S.kIn.keeps fun b u e => Heap.get?_push_of_some _ e) (LT.keeps fun b u e => Heap.get?_push_of_some _ e) (Heap.get?_push_size _ rfl) hx).here (hq _ (flying_push fl).1 (flying_push fl).2)
end L2
set_option maxHeartbeats 4000000
namespace DL
open PySem PySem.Spec PyProof.Rows L2
inductive HsU (X : Cx) (sts : List Stmt) : List (Addr × (Addr → Option Addr → DTS)) → Prop
  | nil : HsU X sts []
  | cons {C : Addr} {qh : Addr → Option Addr → DTS} {cs : List (Addr × (Addr → Option Addr → DTS))}
      (h : ∀ (a : Addr) (oe : Obj) (d : Option Addr) (pn : List (Addr × Obj)), Zc (.ref C) d oe → (∃ vs, oe.data = .fields vs) → ∃ tt, QSs (X.suite a ((a, oe) :: pn)) W0 sts tt (qh a d)) (r : HsU X sts cs) : HsU X sts ((C, qh) :: cs)
theorem HsU.at {X : Cx} {sts : List Stmt} {cs : List (Addr × (Addr → Option Addr → DTS))} (h : HsU X sts cs) {C : Addr} {qh : Addr → Option Addr → DTS} (e : cs.lookup C = some qh) {a : Addr} {oe : Obj} {d : Option Addr} {pn : List (Addr × Obj)} (hz : Zc (.ref C) d oe) (hd : ∃ vs, oe.data = .fields vs) :
    ∃ tt, QSs (X.suite a ((a, oe) :: pn)) W0 sts tt (qh a d) := by
  induction h with
  | nil => cases e
  | @cons D qd cs h r ih =>
    rw [List.lookup_cons] at e
    cases c : C == D with
    | true =>
      rw [c] at e
      cases e
      have := beq_iff_eq.mp c
      subst this
      exact h a oe d pn hz hd
    | false => rw [c] at e; exact ih e
end DL
namespace DL
open PySem L2
section
variable {X : Cx}
def rUpdD (K : PySem.W.Frag) : V → List V → Hp → VK → Prop := fun x vs H Q => ∃ (a b : Addr) (kvs more : List (Key × V)), x = .ref a ∧ vs = [.ref b] ∧ H a = some (.dK kvs) ∧ Rd H b (.dK more) ∧ a ≠ b ∧ kvs.length + more.length ≤ sizeLine ∧ Q .non (upd H a (.dK (mergeK kvs more)))
theorem mt_updateD : MtR X "dict.update" (rUpdD X.K) := by
  intro pins s σ H x vs v us Q I rx rv h
  obtain ⟨a, b, kvs, more, rfl, rfl, hH, hB, nab, hl, q⟩ := h
  cases rx
  obtain ⟨u, rfl, ru⟩ := rv.one
  cases ru
  obtain ⟨z, hd, acc, racc, dd⟩ := dk_of I.hok hH
  obtain ⟨z2, hd2, acc2, racc2, dd2⟩ := dk_rd I.hok hB
  have l1 := racc.length
  have l2 := racc2.length
  obtain ⟨hp, g, dr, tk, os⟩ := s
  refine call_meetsIn PySem.F.slot_dict_update dd.typeIs PySem.F.entry_dict_update (PySem.F.args_dict_update_2 _ _) (meets_dict_update (mixKind X.prog X.w) a b nab hd2)
    ⟨acc, acc2, dd, dd2, by omega, fun h' dd' _ hs => ?_⟩
  have hlen : (mergeK kvs more).length ≤ sizeLine := Nat.le_trans (length_mergeK more kvs) hl
  have he : ∃ q, h'.get? a = some q := let ⟨q, _, _, hq, _⟩ := dd'; ⟨q, hq⟩
  exact ⟨.non, _, I.write (t' := tk) (x := a) (e := a) (by rw [hH]; exact True.intro) (.inl rfl) (fun b' q' z hb => by rw [hs.2 b' z]; exact hb) he (dk_new hlen hd (KV.merge racc2 racc) dd'), rfl, q⟩
end
def mUpdD : DMt := fun x ds M Q => match x, ds with
  | .ref a, [.dct ks es] => match M a with
    | some (.dK kvs) => kvs.length + ks.length ≤ 100000 ∧ Q .non (put M a (.dK (putAllD kvs (ks.zip es))))
    | _ => False
  | _, _ => False
theorem m_updateD {X : Cx} : QMt X "dict.update" (rUpdD X.K) mUpdD := ⟨mt_updateD, fun G H p M s x v ds vs Q Q' S r1 r2 h k => by
  unfold mUpdD at h
  split at h
  · next a ks es =>
    cases r1
    obtain ⟨u, rfl, r3⟩ := repL1 r2
    split at h
    · next kvs em =>
      obtain ⟨hl, h⟩ := h
      obtain ⟨gn, kv, g1, g2, g3, g4, g5⟩ := S.mem _ _ em
      obtain ⟨b, mv, rfl, b1, b2, b3, b4, b5⟩ := r3
      have l1 : kv.length = kvs.length := by have := congrArg List.length g2; simpa using this
      have l2 : mv.length = ks.length := by have := congrArg List.length b2; simpa using this
      have l3 : es.length = mv.length := by have := RepL.length b3; rw [List.length_map] at this; exact this.symm
      have hz := sizeLine_eq
      have z1' : (ks.zip es).map (·.1) = ks := List.map_fst_zip (by omega)
      have z2' : (ks.zip es).map (·.2) = es := List.map_snd_zip (by omega)
      obtain ⟨z1, z2⟩ := putAll_rel (more := ks.zip es) (b2.trans z1'.symm) (by rw [z2']; exact b3) g2 g3
      refine ⟨a, b, kv, mv, rfl, rfl, g1, same_rd S.same b1, ?_, by omega, ?_⟩
      · rintro rfl
        rcases b1 with b1 | ⟨_, b1⟩ <;> (rw [gn] at b1; cases b1)
      refine k G _ _ .non _ (Same.refl _) (S.put (mo := .dK (putAllD kvs (ks.zip es))) gn ⟨_, upd_same, z1, z2, ?_, putAll_keys g5 ?_⟩) rfl h
      · have := length_mergeK mv kv
        omega
      · intro q hq
        exact b5 q.1 (List.of_mem_zip hq).1
    · exact h.elim
  · exact h.elim⟩
end DL
namespace DL
open PySem PySem.Spec PyProof.Rows L2
end DL
namespace L2
open PySem PySem.Spec PyProof.Rows
end L2
namespace DL
open PySem PySem.Spec PyProof.Rows L2
end DL
namespace DL
open PySem L2
mutual
/-- None, numbers, texts, tuples and lists of such -/
def prm : D → Bool
  | .non => true
  | .int _ => true
  | .str _ => true
  | .tup ds => prmL ds
  | .lst ds => prmL ds
  | _ => false
def prmL : List D → Bool
  | [] => true
  | d :: ds => prm d && prmL ds
end
mutual
theorem prm_data : ∀ d : D, prm d = true → isData d = true
  | .non, _ => rfl
  | .int _, _ => rfl
  | .str _, _ => rfl
  | .tup ds, h => prmL_data ds h
  | .lst ds, h => prmL_data ds h
  | .bl _, h => by cases h
  | .ktp _, h => by cases h
  | .xtp _, h => by cases h
  | .scr _, h => by cases h
  | .ty _, h => by cases h
  | .ref _, h => by cases h
  | .dct _ _, h => by cases h
  | .ins _ _ _, h => by cases h
  | .exc _ _ _ _, h => by cases h
  | .fnv _ _ _ _ _, h => by cases h
theorem prmL_data : ∀ ds : List D, prmL ds = true → isDataL ds = true
  | [], _ => rfl
  | d :: ds, h => by
    have h' : prm d = true ∧ prmL ds = true := by simpa [prmL] using h
    simp [isDataL, prm_data d h'.1, prmL_data ds h'.2]
end
theorem prmL_all : ∀ ds : List D, prmL ds = ds.all prm
  | [] => rfl
  | d :: ds => by simp [prmL, prmL_all ds]
mutual
theorem prm_eq : ∀ d e : D, prm d = true → prm e = true → deq d e = true → d = e
  | .non, e, _, he, h => by cases e <;> first | rfl | (exfalso; revert he; simp [prm]; done) | (exfalso; revert h; simp [deq, pyd, PyData.eqv]; done)
  | .int i, e, _, he, h => by
    cases e with
    | int j => rw [deq_int] at h; rw [of_decide_eq_true h]
    | _ => first | (exfalso; revert he; simp [prm]; done) | (exfalso; revert h; simp [deq, pyd, PyData.eqv]; done)
  | .str i, e, _, he, h => by
    cases e with
    | str j => rw [deq_str] at h; rw [of_decide_eq_true h]
    | _ => first | (exfalso; revert he; simp [prm]; done) | (exfalso; revert h; simp [deq, pyd, PyData.eqv]; done)
  | .tup ds, e, hd, he, h => by
    cases e with
    | tup es => rw [prmL_eq ds es hd he (by simpa [deq, deqL, pyd, PyData.eqv] using h)]
    | _ => first | (exfalso; revert he; simp [prm]; done) | (exfalso; revert h; simp [deq, pyd, PyData.eqv]; done)
  | .lst ds, e, hd, he, h => by
    cases e with
    | lst es => rw [prmL_eq ds es hd he (by simpa [deq, deqL, pyd, PyData.eqv] using h)]
    | _ => first | (exfalso; revert he; simp [prm]; done) | (exfalso; revert h; simp [deq, pyd, PyData.eqv]; done)
  | .bl _, _, h, _, _ => by cases h
  | .ktp _, _, h, _, _ => by cases h
  | .xtp _, _, h, _, _ => by cases h
  | .scr _, _, h, _, _ => by cases h
  | .ty _, _, h, _, _ => by cases h
  | .ref _, _, h, _, _ => by cases h
  | .dct _ _, _, h, _, _ => by cases h
  | .ins _ _ _, _, h, _, _ => by cases h
  | .exc _ _ _ _, _, h, _, _ => by cases h
  | .fnv _ _ _ _ _, _, h, _, _ => by cases h
theorem prmL_eq : ∀ ds es : List D, prmL ds = true → prmL es = true → deqL ds es = true → ds = es
  | [], [], _, _, _ => rfl
  | [], e :: es, _, _, h => by simp [deqL, pydL, PyData.eqvAll] at h
  | d :: ds, [], _, _, h => by simp [deqL, pydL, PyData.eqvAll] at h
  | d :: ds, e :: es, hd, he, h => by
    have h1 : prm d = true ∧ prmL ds = true := by simpa [prmL] using hd
    have h2 : prm e = true ∧ prmL es = true := by simpa [prmL] using he
    have h3 : deq d e = true ∧ deqL ds es = true := by simpa [deq, deqL, pydL, PyData.eqvAll] using h
    rw [prm_eq d e h1.1 h2.1 h3.1, prmL_eq ds es h1.2 h2.2 h3.2]
end
theorem prm_deq {d e : D} (hd : prm d = true) (he : prm e = true) : deq d e = true ↔ d = e :=
  ⟨prm_eq d e hd he, fun h => by subst h; exact deq_refl d (prm_data d hd)⟩
end DL
namespace DL
open PySem L2
end DL
namespace L2
open PySem PySem.Spec PyProof.Rows
def rSortU3 (K : PySem.W.Frag) : List V → Hp → VK → Prop := fun vs H Q => ∃ (a : Addr) (xs : List Str), vs = [V.ref a] ∧ SqT K H a (xs.map V.str) ∧ xs.length ≤ sizeLine ∧
  ∀ (ys : List Str) (p : Addr), ys.Perm xs → sortedS ys = true → H p = none → Q (.ref p) (upd H p (.lst (ys.map V.str)))
section
variable {X : Cx}
theorem cr_sortU3 : CallR X (.builtin "sorted") (rSortU3 X.K) := by
  intro pins s σ H vs us Q I r h
  obtain ⟨a, xs, rfl, hs, hz, q⟩ := h
  obtain ⟨its, rv, ⟨o, ho, hc, n, hd⟩, _⟩ := I.tuple hs
  rw [Vals.ref1 r]
  have n0 := rv.length
  rw [List.length_map] at n0
  have n2 : its.length ≤ sizeLine := by omega
  refine Calls.call_function_entry PyProof.Rows.kind_sorted PyProof.Rows.plain_sorted PyProof.Rows.entry_sorted (PyProof.Rows.args_sorted1 _) ?_
  unfold Builtin.«sorted»
  refine wpAny_bind (m := checkCount "sorted" 1 1 _) (wpAny_pure ?_)
  refine wpAny_bind (wpAny_collect_seq a (.inr rfl) ho hc hd (fun h2 hk => ?_) (by rw [List.size_toArray]; omega))
  rw [show its.toArray.toList = its by simp]
  have tx : StrsAre its xs := rv.strs
  have I1 : Inv X pins σ H { s with heap := h2, toks := s.toks } := I.kept hk
  refine wpAny_bind (wpAny_newList ?_ n2)
  have atL : (h2.push (seqObj "list" its.toArray 0)).get? h2.objs.size = some (seqObj "list" its.toArray 0) := Heap.get?_push_size _ rfl
  show wpAny _ _ _ _ _ { s with heap := h2.push (seqObj "list" its.toArray 0), toks := s.toks }
  refine wpAny_bind (wpAny_holding (wpAny_call_entry PyProof.Rows.slot_list_sort ⟨_, atL, rfl⟩ PyProof.Rows.entry_list_sort
    (list_sort_treeKAny (s := { s with heap := h2.push (seqObj "list" its.toArray 0), toks := s.toks }) strKind_oneLt atL tx.keysOf (fun v₁ v₂ rest e => keyKind_strs (by rw [← e]; exact tx)) n2 fun st hp hs => ⟨_, rfl, ?_⟩) (PyProof.Rows.args_list_sort _)))
  obtain ⟨ys, g1, g2, g3⟩ := sorted_out_str tx hp hs
  obtain ⟨e5, e6⟩ := PyProof.Rows.sortedHeap_at (vs := its) (out := (arrOf st).map (·.2)) atL
  have n3 : (ys.map V.str).length ≤ sizeLine := by rw [List.length_map, g2.length_eq]; exact hz
  refine wpAny_pure ⟨_, rfl, .ref h2.objs.size, upd H h2.objs.size (.lst (ys.map V.str)), I1.laid (t' := s.toks) (fun b u e => ?_) (Nat.le_refl _)
    (show ObjOk X.prog X.w _ _ _ (.lst (ys.map V.str)) from ⟨n3, _, e5, vals_of_strs g1, by rw [Array.toArray_toList]; exact e6⟩), rfl, q ys _ g2 g3 (I1.hok.fresh (Nat.le_refl _))⟩
  have lt : b < h2.objs.size := Heap.lt_size e
  rw [PyProof.Rows.sortedHeap_old (Nat.ne_of_lt lt) (by rw [size_push']; exact Nat.lt_succ_of_lt lt)]
  exact Heap.get?_push_of_some _ e
end
end L2
namespace DL
open PySem PySem.Spec PyProof.Rows L2
/-- sorted(a tuple of texts) -/
def dSortU (m : Bool) : DCa := fun ds M Q => match ds with
  | [x] => match res M x with
    | .tup es => match txL es with
      | some zs => ∀ ys : List Str, ys.Perm zs → sortedS ys = true → newL m (ys.map .str) M Q
      | none => False
    | _ => False
  | _ => False
theorem c_sortU {X : Cx} (m : Bool) : QCa X (.builtin "sorted") (rSortU3 X.K) (dSortU m) := ⟨cr_sortU3, fun G H p M s ds vs Q Q' S r h k => by
  unfold dSortU at h
  split at h
  · next x =>
    obtain ⟨v, rfl, r1⟩ := repL1 r
    split at h
    · next es e1 =>
      obtain ⟨a, us, rfl, g1, g2, g3⟩ := as_tup S r1 e1
      split at h
      · next zs en =>
        have ee := txL_eq en
        subst ee
        obtain ⟨rfl, g4⟩ := repL_txs' g2
        rw [List.length_map] at g3
        refine ⟨a, zs, rfl, g1, g3, fun ys q hp hw hn => newL_ok S hn (repL_txs fun y hy => g4 y (hp.mem_iff.mp hy)) (by rw [List.length_map, hp.length_eq]; exact g3) (h ys hp hw) k⟩
      · exact h.elim
    · exact h.elim
  · exact h.elim⟩
theorem kval_strs {K : PySem.W.Frag} {d t : Addr} {z : Str} {od : Option Addr} {its : Array Value} {n : Nat} {sl : Array (Option Value)} {is : List Str} (h1 : PySem.W.nsIn K d z = some (some (.ref t))) (h2 : K.lookup t = some ⟨.type "tuple", od, .seq its n, sl⟩)
    (h3 : Vals (is.map V.str) its.toList) (hb : is.length ≤ 1000 ∧ ∀ x ∈ is, x.length ≤ 1000 ∧ PyData.strOk x = true) : KVal K d z (.ktp (is.map D.str)) := by
  have ho : ∀ x ∈ is, kOk (.inr x) := fun x hx => ⟨by have := (hb.2 x hx).1; rw [sizeLine_eq]; omega, (hb.2 x hx).2⟩
  have h4 : (is.map V.str).length ≤ sizeLine := by rw [List.length_map, sizeLine_eq]; have := hb.1; omega
  refine ⟨_, .ref t, h1, rfl, fun G => ⟨t, is.map V.str, rfl, .inr ⟨_, its, n, h2, rfl, rfl, ?_, h3⟩, repL_txs ho, h4⟩⟩
  rw [← Array.length_toList, ← h3.length]
  exact h4
end DL
namespace DL
open PySem L2 Tx20 Tx21
def qHNames (sp__law_take : DSp) : DTS :=
  (qSeq (qAsg (qC (.str (PySem.Str.ofString "abcdefghijklmnopqrstuvwxyz"))) (gNameD 2))
  (qSeq (qAsg (qLst true qNil) (gNameD 3))
  (qSeq (qFor (qiRng1 (qCons (qVar 1) qNil)) (gNameD 4)
  (qSeq (qAsg (qIf (qTB (qOp (dCmpI fun i j => decide (j < i)) (qVar 4) (qC (.int 25)))) (qC (.int 7)) (qCall sp__law_take [] (qCons (qVar 0) (qCons (qC (.int 7)) qNil)))) (gNameD 5))
  (qSeq (qAsg (qBM "str" mJoin (qC (.str (PySem.Str.ofString ""))) (qCons (qLc false (qiRng1 (qCons (qVar 5) qNil)) (gNameD 7) qYes (qOp dIx (qVar 2) (qCall sp__law_take [] (qCons (qVar 0) (qCons (qC (.int 26)) qNil)))) [7]) qNil)) (gNameD 6))
  (qDrop (qBM "list" mApp (qVar 3) (qCons (qOp (dAdd false) (qVar 6) (qOp dIx (qVar 2) (qOp (dInt (fun _ j => 0 < j) fun i j => i % j) (qVar 4) (qC (.int 26))))) qNil))))))
  (qFrz 3 (qRet (qVar 3))))))
def nm_R0 (sp__law_take : DSp) : DTS := (qAsg (qC (.str (PySem.Str.ofString "abcdefghijklmnopqrstuvwxyz"))) (gNameD 2))
def nm_R1 (sp__law_take : DSp) : DTS := (qAsg (qLst true qNil) (gNameD 3))
def nm_R2 (sp__law_take : DSp) : DTS := (qFor (qiRng1 (qCons (qVar 1) qNil)) (gNameD 4) (qSeq (qAsg (qIf (qTB (qOp (dCmpI fun i j => decide (j < i)) (qVar 4) (qC (.int 25)))) (qC (.int 7)) (qCall sp__law_take [] (qCons (qVar 0) (qCons (qC (.int 7)) qNil)))) (gNameD 5)) (qSeq (qAsg (qBM "str" mJoin (qC (.str (PySem.Str.ofString ""))) (qCons (qLc false (qiRng1 (qCons (qVar 5) qNil)) (gNameD 7) qYes (qOp dIx (qVar 2) (qCall sp__law_take [] (qCons (qVar 0) (qCons (qC (.int 26)) qNil)))) [7]) qNil)) (gNameD 6)) (qDrop (qBM "list" mApp (qVar 3) (qCons (qOp (dAdd false) (qVar 6) (qOp dIx (qVar 2) (qOp (dInt (fun _ j => 0 < j) fun i j => i % j) (qVar 4) (qC (.int 26))))) qNil))))))
def nm_R3 (sp__law_take : DSp) : DTS := (qFrz 3 (qRet (qVar 3)))
def nm_T3 (sp__law_take : DSp) : DTS := nm_R3 sp__law_take
def nm_T2 (sp__law_take : DSp) : DTS := qSeq (nm_R2 sp__law_take) (nm_T3 sp__law_take)
def nm_T1 (sp__law_take : DSp) : DTS := qSeq (nm_R1 sp__law_take) (nm_T2 sp__law_take)
def nm_T0 (sp__law_take : DSp) : DTS := qSeq (nm_R0 sp__law_take) (nm_T1 sp__law_take)
theorem nm_cut (sp__law_take : DSp) : qHNames sp__law_take = nm_T0 sp__law_take := rfl
theorem nm_t0 (sp__law_take : DSp) {DW : DWt} {DE : DEnds} {p : Rho} {M : Mst} : nm_T0 sp__law_take DW DE p M = nm_R0 sp__law_take DW { DE with nx := nm_T1 sp__law_take DW DE } p M := rfl
theorem nm_t1 (sp__law_take : DSp) {DW : DWt} {DE : DEnds} {p : Rho} {M : Mst} : nm_T1 sp__law_take DW DE p M = nm_R1 sp__law_take DW { DE with nx := nm_T2 sp__law_take DW DE } p M := rfl
theorem nm_t2 (sp__law_take : DSp) {DW : DWt} {DE : DEnds} {p : Rho} {M : Mst} : nm_T2 sp__law_take DW DE p M = nm_R2 sp__law_take DW { DE with nx := nm_T3 sp__law_take DW DE } p M := rfl
def nb_R0 (sp__law_take : DSp) : DTS := (qAsg (qIf (qTB (qOp (dCmpI fun i j => decide (j < i)) (qVar 4) (qC (.int 25)))) (qC (.int 7)) (qCall sp__law_take [] (qCons (qVar 0) (qCons (qC (.int 7)) qNil)))) (gNameD 5))
def nb_R1 (sp__law_take : DSp) : DTS := (qAsg (qBM "str" mJoin (qC (.str (PySem.Str.ofString ""))) (qCons (qLc false (qiRng1 (qCons (qVar 5) qNil)) (gNameD 7) qYes (qOp dIx (qVar 2) (qCall sp__law_take [] (qCons (qVar 0) (qCons (qC (.int 26)) qNil)))) [7]) qNil)) (gNameD 6))
def nb_R2 (sp__law_take : DSp) : DTS := (qDrop (qBM "list" mApp (qVar 3) (qCons (qOp (dAdd false) (qVar 6) (qOp dIx (qVar 2) (qOp (dInt (fun _ j => 0 < j) fun i j => i % j) (qVar 4) (qC (.int 26))))) qNil)))
def nb_T2 (sp__law_take : DSp) : DTS := nb_R2 sp__law_take
def nb_T1 (sp__law_take : DSp) : DTS := qSeq (nb_R1 sp__law_take) (nb_T2 sp__law_take)
def nb_T0 (sp__law_take : DSp) : DTS := qSeq (nb_R0 sp__law_take) (nb_T1 sp__law_take)
theorem nm_for2 (sp__law_take : DSp) : nm_R2 sp__law_take = qFor (qiRng1 (qCons (qVar 1) qNil)) (gNameD 4) (nb_T0 sp__law_take) := rfl
theorem nb_t0 (sp__law_take : DSp) {DW : DWt} {DE : DEnds} {p : Rho} {M : Mst} : nb_T0 sp__law_take DW DE p M = nb_R0 sp__law_take DW { DE with nx := nb_T1 sp__law_take DW DE } p M := rfl
theorem nb_t1 (sp__law_take : DSp) {DW : DWt} {DE : DEnds} {p : Rho} {M : Mst} : nb_T1 sp__law_take DW DE p M = nb_R1 sp__law_take DW { DE with nx := nb_T2 sp__law_take DW DE } p M := rfl
def qHKind (sp__law_take : DSp) : DTS :=
  (qRet (qOp dIx (qTup (qCons (qC (.str (PySem.Str.ofString "house"))) (qCons (qC (.str (PySem.Str.ofString "car"))) (qCons (qC (.str (PySem.Str.ofString "chimney"))) (qCons (qC (.str (PySem.Str.ofString "grass"))) (qCons (qC (.str (PySem.Str.ofString "people"))) (qCons (qC (.str (PySem.Str.ofString "works"))) qNil))))))) (qCall sp__law_take [] (qCons (qVar 0) (qCons (qC (.int 6)) qNil)))))
def qHEngines (sp__law_names : DSp) (sp__law_take : DSp) : DTS :=
  (qSeq (qAsg (qOp dIx (qTup (qCons (qC (.int 4)) (qCons (qC (.int 8)) (qCons (qC (.int 2)) (qCons (qC (.int 24)) (qCons (qC (.int 1)) qNil)))))) (qCall sp__law_take [] (qCons (qVar 0) (qCons (qC (.int 5)) qNil)))) (gNameD 2))
  (qSeq (qAsg (qLst true qNil) (gNameD 3))
  (qSeq (qFor (qiAny (qCall sp__law_names [] (qCons (qVar 0) (qCons (qVar 2) qNil)))) (gNameD 4)
  (qSeq (qAsg (qOp dIx (qTup (qCons (qC (.str (PySem.Str.ofString "pump"))) (qCons (qC (.str (PySem.Str.ofString "ladder"))) (qCons (qC (.str (PySem.Str.ofString "tanker"))) (qCons (qC (.str (PySem.Str.ofString "pump"))) qNil))))) (qCall sp__law_take [] (qCons (qVar 0) (qCons (qC (.int 4)) qNil)))) (gNameD 5))
  (qDrop (qBM "list" mApp (qVar 3) (qCons (qTup (qCons (qVar 4) (qCons (qVar 5) (qCons (qOp dIx (qVar 1) (qCall sp__law_take [] (qCons (qVar 0) (qCons (qCB dLen (qCons (qVar 1) qNil)) qNil)))) (qCons (qOp (dAdd false) (qC (.int 1)) (qCall sp__law_take [] (qCons (qVar 0) (qCons (qC (.int 9)) qNil)))) qNil))))) qNil)))))
  (qRet (qCB dTuple (qCons (qVar 3) qNil))))))
def qHDeed (sp__law_kind : DSp) (sp__law_take : DSp) : DTS :=
  (qSeq (qAsg (qVar 1) (gTupD 3 (gConsD (gNameD 4) (gConsD (gNameD 5) (gConsD (gNameD 6) gNilD)))))
  (qSeq (qAsg (qOp dIx (qOp dIx (qVar 2) (qCall sp__law_take [] (qCons (qVar 0) (qCons (qCB dLen (qCons (qVar 2) qNil)) qNil)))) (qC (.int 0))) (gNameD 7))
  (qSeq (qAsg (qOp (dAdd false) (qC (.int 1)) (qCall sp__law_take [] (qCons (qVar 0) (qCons (qC (.int 200)) qNil)))) (gNameD 8))
  (qSeq (qIfS (qAnd (qTB (qOp (dEq true) (qVar 3) (qLst false qNil))) (qTB (qOp (dCmpI fun i j => decide (j < i)) (qCall sp__law_take [] (qCons (qVar 0) (qCons (qC (.int 8)) qNil))) (qC (.int 0)))))
  (qAsg (qOp dIx (qVar 3) (qCall sp__law_take [] (qCons (qVar 0) (qCons (qCB dLen (qCons (qVar 3) qNil)) qNil)))) (gNameD 8))
  qNext)
  (qSeq (qAsg (qCall sp__law_take [] (qCons (qVar 0) (qCons (qC (.int 19)) qNil))) (gNameD 9))
  (qSeq (qIfS (qTB (qOp (dCmpI fun i j => decide (i < j)) (qVar 9) (qC (.int 3))))
  (qRet (qTup (qCons (qC (.str (PySem.Str.ofString "call"))) (qCons (qOp dIx (qOp dIx (qVar 4) (qCall sp__law_take [] (qCons (qVar 0) (qCons (qCB dLen (qCons (qVar 4) qNil)) qNil)))) (qC (.int 0))) (qCons (qCall sp__law_kind [] (qCons (qVar 0) qNil)) qNil)))))
  qNext)
  (qSeq (qIfS (qTB (qOp (dCmpI fun i j => decide (i < j)) (qVar 9) (qC (.int 6))))
  (qRet (qTup (qCons (qC (.str (PySem.Str.ofString "send"))) (qCons (qVar 7) (qCons (qVar 8) qNil)))))
  qNext)
  (qSeq (qIfS (qTB (qOp (dCmpI fun i j => decide (i < j)) (qVar 9) (qC (.int 11))))
  (qRet (qTup (qCons (qOp dIx (qTup (qCons (qC (.str (PySem.Str.ofString "there"))) (qCons (qC (.str (PySem.Str.ofString "back"))) (qCons (qC (.str (PySem.Str.ofString "home"))) (qCons (qC (.str (PySem.Str.ofString "off"))) (qCons (qC (.str (PySem.Str.ofString "on"))) qNil)))))) (qOp (dInt0 fun i j => i - j) (qVar 9) (qC (.int 6)))) (qCons (qVar 7) qNil))))
  qNext)
  (qSeq (qIfS (qTB (qOp (dCmpI fun i j => decide (i < j)) (qVar 9) (qC (.int 13))))
  (qRet (qTup (qCons (qOp dIx (qTup (qCons (qC (.str (PySem.Str.ofString "stand"))) (qCons (qC (.str (PySem.Str.ofString "lend"))) qNil))) (qOp (dInt0 fun i j => i - j) (qVar 9) (qC (.int 11)))) (qCons (qVar 7) (qCons (qOp dIx (qVar 6) (qCall sp__law_take [] (qCons (qVar 0) (qCons (qCB dLen (qCons (qVar 6) qNil)) qNil)))) qNil)))))
  qNext)
  (qSeq (qIfS (qAnd (qTB (qOp (dCmpI fun i j => decide (i < j)) (qVar 9) (qC (.int 15)))) (qTB (qOp (dEq true) (qVar 5) (qTup qNil))))
  (qRet (qTup (qCons (qOp dIx (qTup (qCons (qC (.str (PySem.Str.ofString "shut"))) (qCons (qC (.str (PySem.Str.ofString "clear"))) qNil))) (qOp (dInt0 fun i j => i - j) (qVar 9) (qC (.int 13)))) (qCons (qCall sp__law_take [] (qCons (qVar 0) (qCons (qCB dLen (qCons (qVar 5) qNil)) qNil))) qNil))))
  qNext)
  (qRet (qOp dIx (qLst false (qCons (qTup (qCons (qC (.str (PySem.Str.ofString "again"))) (qCons (qVar 8) qNil))) (qCons (qTup (qCons (qC (.str (PySem.Str.ofString "make"))) (qCons (qVar 8) (qCons (qOp (dAdd false) (qC (.int 1)) (qCall sp__law_take [] (qCons (qVar 0) (qCons (qC (.int 20)) qNil)))) qNil)))) (qCons (qTup (qCons (qC (.str (PySem.Str.ofString "stop"))) (qCons (qVar 8) qNil))) (qCons (qTup (qCons (qC (.str (PySem.Str.ofString "nothing"))) qNil)) qNil))))) (qOp (dInt (fun _ j => 0 < j) fun i j => i % j) (qVar 9) (qC (.int 4)))))))))))))))
/-- the place of a name by its last sign and length -/
def idxW (w : Str) : Nat := (if w.length = 8 then 26 else 0) + (w.cps.toList.getLastD 0 - 97)
def spHNames : DSp := fun ds M Q _ => ∃ (b : Addr) (m : Nat), ds = [.ref b, .int (m : Int)] ∧ M b = some .bag ∧ m ≤ 52 ∧ ∀ zs : List Str, zs.length = m → zs.Nodup → (∀ z ∈ zs, nameS z = true) → Q (stL zs) M
theorem hnames_ok (ds : List D) (M : Mst) (Q : DK) (Ed : DX → Mst → Prop) (h : upSp spHNames ds M Q Ed) : qHNames spTake (fun x _ M => Ed x M) (retE Q) (startD ["_law_bag_here", "_law_many", "_law_letters", "_law_found", "_law_k", "_law_size", "_law_stem", "_law_turn"] ds) M := by
  obtain ⟨Q0, E0, ⟨b, m, rfl, hb, hm, k0⟩, kq, _⟩ := h
  have k : ∀ zs : List Str, zs.length = m → zs.Nodup → (∀ z ∈ zs, nameS z = true) → Q (stL zs) M := fun zs a c d => kq _ _ _ (Sub.refl _) (k0 zs a c d)
  clear kq k0
  rw [nm_cut, nm_t0]
  show nm_R0 _ _ _ [some (.ref b), some (.int (m : Int)), none, none, none, none, none, none] M
  simp only [nm_R0, qSeq, qAsg, qTup, qCons, qNil, qOp, qUn, qC, qCall, qVar, qLst, newL_f, qIfS, qTB, qNext, qRet, qDrop, qFor, qCB, qAug, qSl, qPart, qNoPart, gNameD, gSub_eq, dInt_i, dInt0_i, dAdd_i, dCmpI_i, List.set_cons_zero, List.set_cons_succ, List.getElem?_cons_zero, List.getElem?_cons_succ, List.append_nil, z_l0, z_l1, z_l2, z_l3, z_l4, z_l5, z_l6, z_l7, z_l8, z_l9, z_l19, z_l24, z_l25, true_and]
  show nm_T1 _ _ _ _ M
  rw [nm_t1]
  show nm_R1 _ _ _ _ M
  simp only [nm_R1, newL_t, qSeq, qAsg, qTup, qCons, qNil, qOp, qUn, qC, qCall, qVar, qLst, newL_f, qIfS, qTB, qNext, qRet, qDrop, qFor, qCB, qAug, qSl, qPart, qNoPart, gNameD, gSub_eq, dInt_i, dInt0_i, dAdd_i, dCmpI_i, List.set_cons_zero, List.set_cons_succ, List.getElem?_cons_zero, List.getElem?_cons_succ, List.append_nil, z_l0, z_l1, z_l2, z_l3, z_l4, z_l5, z_l6, z_l7, z_l8, z_l9, z_l19, z_l24, z_l25, true_and]
  intro l hl
  have nbl := ne_of_some hb hl
  show nm_T2 _ _ _ _ _
  rw [nm_t2]
  show nm_R2 _ _ _ _ _
  rw [nm_for2]
  simp only [qFor, qiRng1, qSeq, qAsg, qTup, qCons, qNil, qOp, qUn, qC, qCall, qVar, qLst, newL_f, qIfS, qTB, qNext, qRet, qDrop, qFor, qCB, qAug, qSl, qPart, qNoPart, gNameD, gSub_eq, dInt_i, dInt0_i, dAdd_i, dCmpI_i, List.set_cons_zero, List.set_cons_succ, List.getElem?_cons_zero, List.getElem?_cons_succ, List.append_nil, z_l0, z_l1, z_l2, z_l3, z_l4, z_l5, z_l6, z_l7, z_l8, z_l9, z_l19, z_l24, z_l25, true_and]
  refine ⟨by omega, by omega, ?_⟩
  refine loopL_inv (fun i p M' => ∃ (zs : List Str) (x4 x5 x6 : Option D), p = [some (.ref b), some (.int (m : Int)), some (.str (PySem.Str.ofString "abcdefghijklmnopqrstuvwxyz")), some (.ref l), x4, x5, x6, none] ∧ M' = put M l (.lst (zs.map D.str)) ∧ zs.map idxW = List.range i ∧ ∀ z ∈ zs, nameS z = true) (n := m) (by simp) (fun i d p M' R hd hI hR => ?_) (fun p M' hI => ?_)
    ⟨[], none, none, none, rfl, rfl, rfl, fun _ h => by cases h⟩
  · obtain ⟨zs, x4, x5, x6, rfl, rfl, hz, hn⟩ := hI
    obtain ⟨hi, rfl⟩ := range_at hd
    have hi : i < m := by simpa using hi
    have hb' : put M l (.lst (zs.map D.str)) b = some .bag := put_keep hb hl
    refine ⟨trivial, ?_⟩
    simp only [gNameD, List.set_cons_zero, List.set_cons_succ]
    have cont : ∀ q : Nat, q ≤ 7 → (q = 7 ↔ 25 < i) → nb_T1 spTake (fun x _ M => Ed x M) { nx := R, rt := (retE Q).rt, bk := nm_T3 spTake (fun x _ M => Ed x M) (retE Q), ct := R } [some (.ref b), some (.int (m : Int)), some (.str (PySem.Str.ofString "abcdefghijklmnopqrstuvwxyz")), some (.ref l), some (.int (i : Int)), some (.int (q : Int)), x6, none] (put M l (.lst (zs.map D.str))) := fun q q7 hq => by
      rw [nb_t1]
      show nb_R1 _ _ _ _ _
      simp only [nb_R1, qBM, qLc, qiRng1, qSeq, qAsg, qTup, qCons, qNil, qOp, qUn, qC, qCall, qVar, qLst, newL_f, qIfS, qTB, qNext, qRet, qDrop, qFor, qCB, qAug, qSl, qPart, qNoPart, gNameD, gSub_eq, dInt_i, dInt0_i, dAdd_i, dCmpI_i, List.set_cons_zero, List.set_cons_succ, List.getElem?_cons_zero, List.getElem?_cons_succ, List.append_nil, z_l0, z_l1, z_l2, z_l3, z_l4, z_l5, z_l6, z_l7, z_l8, z_l9, z_l19, z_l24, z_l25, true_and]
      refine ⟨rfl, by omega, by omega, fun c hc => ?_⟩
      refine lcR hc (fun _ => trivial) (by simp; omega) (fun _ y => ∃ c : Nat, y = .str (one c) ∧ Low c) (fun d hd M2 R2 S hR2 => ?_) fun ys hys => ?_
      · simp only [wipeD, qSeq, qAsg, qTup, qCons, qNil, qOp, qUn, qC, qCall, qVar, qLst, newL_f, qIfS, qTB, qNext, qRet, qDrop, qFor, qCB, qAug, qSl, qPart, qNoPart, gNameD, gSub_eq, dInt_i, dInt0_i, dAdd_i, dCmpI_i, List.set_cons_zero, List.set_cons_succ, List.getElem?_cons_zero, List.getElem?_cons_succ, List.append_nil, z_l0, z_l1, z_l2, z_l3, z_l4, z_l5, z_l6, z_l7, z_l8, z_l9, z_l19, z_l24, z_l25, true_and]
        refine take_call (S _ _ hb') (by decide) (by decide) fun y y0 y1 => ?_
        refine pick_s y0 (by rw [show (PySem.Str.ofString "abcdefghijklmnopqrstuvwxyz").length = 26 by decide +kernel]; exact y1) fun c hc => hR2 _ ⟨c, rfl, lett_low c hc⟩
      obtain ⟨cs, rfl, lc, hcs⟩ := ones_of hys
      have lc2 : cs.length = q := by rw [lc]; simp
      refine join_signs (fun c hc => by have := (hcs c hc).2; omega) (by omega) ?_
      have T : ∀ c ∈ (⟨cs.toArray⟩ : Str).cps.toList, Low c := fun c hc => hcs c (by simpa using hc)
      have L : (⟨cs.toArray⟩ : Str).length = q := by show cs.toArray.size = q; simpa using lc2
      generalize (⟨cs.toArray⟩ : Str) = st at T L
      simp only [nb_T2, nb_R2, qBM, qSeq, qAsg, qTup, qCons, qNil, qOp, qUn, qC, qCall, qVar, qLst, newL_f, qIfS, qTB, qNext, qRet, qDrop, qFor, qCB, qAug, qSl, qPart, qNoPart, gNameD, gSub_eq, dInt_i, dInt0_i, dAdd_i, dCmpI_i, List.set_cons_zero, List.set_cons_succ, List.getElem?_cons_zero, List.getElem?_cons_succ, List.append_nil, z_l0, z_l1, z_l2, z_l3, z_l4, z_l5, z_l6, z_l7, z_l8, z_l9, z_l19, z_l24, z_l25, true_and]
      refine ⟨by simp [res, put_same, tyOk], by decide, ?_⟩
      rw [show (i : Int) % 26 = ((i % 26 : Nat) : Int) by omega]
      refine ix_lett (Nat.mod_lt _ (by decide)) ?_
      have lone : (one (97 + i % 26)).length = 1 := rfl
      refine ⟨by omega, ?_⟩
      have hlen : zs.length = i := by have := congrArg List.length hz; simpa using this
      simp only [mApp, put_same, put_put]
      have lw : (st ++ one (97 + i % 26)).length = q + 1 := by rw [len_append]; omega
      have hx : idxW (st ++ one (97 + i % 26)) = i := by
        unfold idxW
        rw [lw, app_list, show (one (97 + i % 26)).cps.toList = [97 + i % 26] from rfl]
        rw [show (st.cps.toList ++ [97 + i % 26]).getLastD 0 = 97 + i % 26 by simp]
        by_cases c : q = 7
        · have := hq.mp c
          rw [if_pos (by omega)]; omega
        · have : ¬ 25 < i := fun z => c (hq.mpr z)
          rw [if_neg (by omega)]; omega
      refine ⟨by simp; omega, hR _ _ ⟨zs ++ [st ++ one (97 + i % 26)], _, _, _, rfl, by simp, by rw [List.map_append, hz, List.range_succ, List.map_singleton, hx], fun z hz => ?_⟩⟩
      rcases List.mem_append.mp hz with h | h
      · exact hn z h
      · rw [List.mem_singleton] at h; subst h
        refine nameS_of (by omega) (by omega) fun c hc => ?_
        rw [app_list, List.mem_append] at hc
        rcases hc with hc | hc
        · exact T c hc
        · have : c = 97 + i % 26 := by simpa using hc
          rw [this]; exact ⟨by omega, by omega⟩
    rw [nb_t0]
    show nb_R0 _ _ _ _ _
    simp only [nb_R0, qIf, qSeq, qAsg, qTup, qCons, qNil, qOp, qUn, qC, qCall, qVar, qLst, newL_f, qIfS, qTB, qNext, qRet, qDrop, qFor, qCB, qAug, qSl, qPart, qNoPart, gNameD, gSub_eq, dInt_i, dInt0_i, dAdd_i, dCmpI_i, List.set_cons_zero, List.set_cons_succ, List.getElem?_cons_zero, List.getElem?_cons_succ, List.append_nil, z_l0, z_l1, z_l2, z_l3, z_l4, z_l5, z_l6, z_l7, z_l8, z_l9, z_l19, z_l24, z_l25, true_and]
    by_cases c : 25 < i
    · rw [decide_eq_true (show (25 : Int) < i by omega)]
      exact cont 7 (by decide) ⟨fun _ => c, fun _ => rfl⟩
    · rw [decide_eq_false (show ¬ (25 : Int) < i by omega)]
      simp only [Bool.false_eq_true, if_false]
      refine take_call hb' (by decide) (by decide) fun r r0 r1 => ?_
      obtain ⟨q, rfl⟩ : ∃ q : Nat, r = q := ⟨r.toNat, by omega⟩
      exact cont q (by omega) ⟨fun z => by omega, fun z => absurd z c⟩
  · obtain ⟨zs, x4, x5, x6, rfl, rfl, hz, hn⟩ := hI
    refine ⟨trivial, ?_⟩
    simp only [nm_T3, nm_R3, qFrz, frz, put_same, List.getElem?_cons_zero, List.getElem?_cons_succ, qSeq, qAsg, qTup, qCons, qNil, qOp, qUn, qC, qCall, qVar, qLst, newL_f, qIfS, qTB, qNext, qRet, qDrop, qFor, qCB, qAug, qSl, qPart, qNoPart, gNameD, gSub_eq, dInt_i, dInt0_i, dAdd_i, dCmpI_i, List.set_cons_zero, List.set_cons_succ, List.getElem?_cons_zero, List.getElem?_cons_succ, List.append_nil, z_l0, z_l1, z_l2, z_l3, z_l4, z_l5, z_l6, z_l7, z_l8, z_l9, z_l19, z_l24, z_l25, true_and]
    rw [del_put hl]
    refine k zs (by have := congrArg List.length hz; simpa using this) (nd_of_map (f := idxW) (by rw [hz]; exact List.nodup_range)) hn
def en_R0 (sp__law_names : DSp) (sp__law_take : DSp) : DTS := (qAsg (qOp dIx (qTup (qCons (qC (.int 4)) (qCons (qC (.int 8)) (qCons (qC (.int 2)) (qCons (qC (.int 24)) (qCons (qC (.int 1)) qNil)))))) (qCall sp__law_take [] (qCons (qVar 0) (qCons (qC (.int 5)) qNil)))) (gNameD 2))
def en_R1 (sp__law_names : DSp) (sp__law_take : DSp) : DTS := (qAsg (qLst true qNil) (gNameD 3))
def en_R2 (sp__law_names : DSp) (sp__law_take : DSp) : DTS := (qFor (qiAny (qCall sp__law_names [] (qCons (qVar 0) (qCons (qVar 2) qNil)))) (gNameD 4) (qSeq (qAsg (qOp dIx (qTup (qCons (qC (.str (PySem.Str.ofString "pump"))) (qCons (qC (.str (PySem.Str.ofString "ladder"))) (qCons (qC (.str (PySem.Str.ofString "tanker"))) (qCons (qC (.str (PySem.Str.ofString "pump"))) qNil))))) (qCall sp__law_take [] (qCons (qVar 0) (qCons (qC (.int 4)) qNil)))) (gNameD 5)) (qDrop (qBM "list" mApp (qVar 3) (qCons (qTup (qCons (qVar 4) (qCons (qVar 5) (qCons (qOp dIx (qVar 1) (qCall sp__law_take [] (qCons (qVar 0) (qCons (qCB dLen (qCons (qVar 1) qNil)) qNil)))) (qCons (qOp (dAdd false) (qC (.int 1)) (qCall sp__law_take [] (qCons (qVar 0) (qCons (qC (.int 9)) qNil)))) qNil))))) qNil)))))
def en_R3 (sp__law_names : DSp) (sp__law_take : DSp) : DTS := (qRet (qCB dTuple (qCons (qVar 3) qNil)))
def en_T3 (sp__law_names : DSp) (sp__law_take : DSp) : DTS := en_R3 sp__law_names sp__law_take
def en_T2 (sp__law_names : DSp) (sp__law_take : DSp) : DTS := qSeq (en_R2 sp__law_names sp__law_take) (en_T3 sp__law_names sp__law_take)
def en_T1 (sp__law_names : DSp) (sp__law_take : DSp) : DTS := qSeq (en_R1 sp__law_names sp__law_take) (en_T2 sp__law_names sp__law_take)
def en_T0 (sp__law_names : DSp) (sp__law_take : DSp) : DTS := qSeq (en_R0 sp__law_names sp__law_take) (en_T1 sp__law_names sp__law_take)
theorem en_cut (sp__law_names : DSp) (sp__law_take : DSp) : qHEngines sp__law_names sp__law_take = en_T0 sp__law_names sp__law_take := rfl
theorem en_t0 (sp__law_names : DSp) (sp__law_take : DSp) {DW : DWt} {DE : DEnds} {p : Rho} {M : Mst} : en_T0 sp__law_names sp__law_take DW DE p M = en_R0 sp__law_names sp__law_take DW { DE with nx := en_T1 sp__law_names sp__law_take DW DE } p M := rfl
theorem en_t1 (sp__law_names : DSp) (sp__law_take : DSp) {DW : DWt} {DE : DEnds} {p : Rho} {M : Mst} : en_T1 sp__law_names sp__law_take DW DE p M = en_R1 sp__law_names sp__law_take DW { DE with nx := en_T2 sp__law_names sp__law_take DW DE } p M := rfl
theorem en_t2 (sp__law_names : DSp) (sp__law_take : DSp) {DW : DWt} {DE : DEnds} {p : Rho} {M : Mst} : en_T2 sp__law_names sp__law_take DW DE p M = en_R2 sp__law_names sp__law_take DW { DE with nx := en_T3 sp__law_names sp__law_take DW DE } p M := rfl
def eb_R0 (sp__law_names : DSp) (sp__law_take : DSp) : DTS := (qAsg (qOp dIx (qTup (qCons (qC (.str (PySem.Str.ofString "pump"))) (qCons (qC (.str (PySem.Str.ofString "ladder"))) (qCons (qC (.str (PySem.Str.ofString "tanker"))) (qCons (qC (.str (PySem.Str.ofString "pump"))) qNil))))) (qCall sp__law_take [] (qCons (qVar 0) (qCons (qC (.int 4)) qNil)))) (gNameD 5))
def eb_R1 (sp__law_names : DSp) (sp__law_take : DSp) : DTS := (qDrop (qBM "list" mApp (qVar 3) (qCons (qTup (qCons (qVar 4) (qCons (qVar 5) (qCons (qOp dIx (qVar 1) (qCall sp__law_take [] (qCons (qVar 0) (qCons (qCB dLen (qCons (qVar 1) qNil)) qNil)))) (qCons (qOp (dAdd false) (qC (.int 1)) (qCall sp__law_take [] (qCons (qVar 0) (qCons (qC (.int 9)) qNil)))) qNil))))) qNil)))
def eb_T1 (sp__law_names : DSp) (sp__law_take : DSp) : DTS := eb_R1 sp__law_names sp__law_take
def eb_T0 (sp__law_names : DSp) (sp__law_take : DSp) : DTS := qSeq (eb_R0 sp__law_names sp__law_take) (eb_T1 sp__law_names sp__law_take)
theorem en_for2 (sp__law_names : DSp) (sp__law_take : DSp) : en_R2 sp__law_names sp__law_take = qFor (qiAny (qCall sp__law_names [] (qCons (qVar 0) (qCons (qVar 2) qNil)))) (gNameD 4) (eb_T0 sp__law_names sp__law_take) := rfl
theorem eb_t0 (sp__law_names : DSp) (sp__law_take : DSp) {DW : DWt} {DE : DEnds} {p : Rho} {M : Mst} : eb_T0 sp__law_names sp__law_take DW DE p M = eb_R0 sp__law_names sp__law_take DW { DE with nx := eb_T1 sp__law_names sp__law_take DW DE } p M := rfl
def dw_R0 (sp__law_kind : DSp) (sp__law_take : DSp) : DTS := (qAsg (qVar 1) (gTupD 3 (gConsD (gNameD 4) (gConsD (gNameD 5) (gConsD (gNameD 6) gNilD)))))
def dw_R1 (sp__law_kind : DSp) (sp__law_take : DSp) : DTS := (qAsg (qOp dIx (qOp dIx (qVar 2) (qCall sp__law_take [] (qCons (qVar 0) (qCons (qCB dLen (qCons (qVar 2) qNil)) qNil)))) (qC (.int 0))) (gNameD 7))
def dw_R2 (sp__law_kind : DSp) (sp__law_take : DSp) : DTS := (qAsg (qOp (dAdd false) (qC (.int 1)) (qCall sp__law_take [] (qCons (qVar 0) (qCons (qC (.int 200)) qNil)))) (gNameD 8))
def dw_R3 (sp__law_kind : DSp) (sp__law_take : DSp) : DTS := (qIfS (qAnd (qTB (qOp (dEq true) (qVar 3) (qLst false qNil))) (qTB (qOp (dCmpI fun i j => decide (j < i)) (qCall sp__law_take [] (qCons (qVar 0) (qCons (qC (.int 8)) qNil))) (qC (.int 0))))) (qAsg (qOp dIx (qVar 3) (qCall sp__law_take [] (qCons (qVar 0) (qCons (qCB dLen (qCons (qVar 3) qNil)) qNil)))) (gNameD 8)) qNext)
def dw_R4 (sp__law_kind : DSp) (sp__law_take : DSp) : DTS := (qAsg (qCall sp__law_take [] (qCons (qVar 0) (qCons (qC (.int 19)) qNil))) (gNameD 9))
def dw_R5 (sp__law_kind : DSp) (sp__law_take : DSp) : DTS := (qIfS (qTB (qOp (dCmpI fun i j => decide (i < j)) (qVar 9) (qC (.int 3)))) (qRet (qTup (qCons (qC (.str (PySem.Str.ofString "call"))) (qCons (qOp dIx (qOp dIx (qVar 4) (qCall sp__law_take [] (qCons (qVar 0) (qCons (qCB dLen (qCons (qVar 4) qNil)) qNil)))) (qC (.int 0))) (qCons (qCall sp__law_kind [] (qCons (qVar 0) qNil)) qNil))))) qNext)
def dw_R6 (sp__law_kind : DSp) (sp__law_take : DSp) : DTS := (qIfS (qTB (qOp (dCmpI fun i j => decide (i < j)) (qVar 9) (qC (.int 6)))) (qRet (qTup (qCons (qC (.str (PySem.Str.ofString "send"))) (qCons (qVar 7) (qCons (qVar 8) qNil))))) qNext)
def dw_R7 (sp__law_kind : DSp) (sp__law_take : DSp) : DTS := (qIfS (qTB (qOp (dCmpI fun i j => decide (i < j)) (qVar 9) (qC (.int 11)))) (qRet (qTup (qCons (qOp dIx (qTup (qCons (qC (.str (PySem.Str.ofString "there"))) (qCons (qC (.str (PySem.Str.ofString "back"))) (qCons (qC (.str (PySem.Str.ofString "home"))) (qCons (qC (.str (PySem.Str.ofString "off"))) (qCons (qC (.str (PySem.Str.ofString "on"))) qNil)))))) (qOp (dInt0 fun i j => i - j) (qVar 9) (qC (.int 6)))) (qCons (qVar 7) qNil)))) qNext)
def dw_R8 (sp__law_kind : DSp) (sp__law_take : DSp) : DTS := (qIfS (qTB (qOp (dCmpI fun i j => decide (i < j)) (qVar 9) (qC (.int 13)))) (qRet (qTup (qCons (qOp dIx (qTup (qCons (qC (.str (PySem.Str.ofString "stand"))) (qCons (qC (.str (PySem.Str.ofString "lend"))) qNil))) (qOp (dInt0 fun i j => i - j) (qVar 9) (qC (.int 11)))) (qCons (qVar 7) (qCons (qOp dIx (qVar 6) (qCall sp__law_take [] (qCons (qVar 0) (qCons (qCB dLen (qCons (qVar 6) qNil)) qNil)))) qNil))))) qNext)
def dw_R9 (sp__law_kind : DSp) (sp__law_take : DSp) : DTS := (qIfS (qAnd (qTB (qOp (dCmpI fun i j => decide (i < j)) (qVar 9) (qC (.int 15)))) (qTB (qOp (dEq true) (qVar 5) (qTup qNil)))) (qRet (qTup (qCons (qOp dIx (qTup (qCons (qC (.str (PySem.Str.ofString "shut"))) (qCons (qC (.str (PySem.Str.ofString "clear"))) qNil))) (qOp (dInt0 fun i j => i - j) (qVar 9) (qC (.int 13)))) (qCons (qCall sp__law_take [] (qCons (qVar 0) (qCons (qCB dLen (qCons (qVar 5) qNil)) qNil))) qNil)))) qNext)
def dw_R10 (sp__law_kind : DSp) (sp__law_take : DSp) : DTS := (qRet (qOp dIx (qLst false (qCons (qTup (qCons (qC (.str (PySem.Str.ofString "again"))) (qCons (qVar 8) qNil))) (qCons (qTup (qCons (qC (.str (PySem.Str.ofString "make"))) (qCons (qVar 8) (qCons (qOp (dAdd false) (qC (.int 1)) (qCall sp__law_take [] (qCons (qVar 0) (qCons (qC (.int 20)) qNil)))) qNil)))) (qCons (qTup (qCons (qC (.str (PySem.Str.ofString "stop"))) (qCons (qVar 8) qNil))) (qCons (qTup (qCons (qC (.str (PySem.Str.ofString "nothing"))) qNil)) qNil))))) (qOp (dInt (fun _ j => 0 < j) fun i j => i % j) (qVar 9) (qC (.int 4)))))
def dw_T10 (sp__law_kind : DSp) (sp__law_take : DSp) : DTS := dw_R10 sp__law_kind sp__law_take
def dw_T9 (sp__law_kind : DSp) (sp__law_take : DSp) : DTS := qSeq (dw_R9 sp__law_kind sp__law_take) (dw_T10 sp__law_kind sp__law_take)
def dw_T8 (sp__law_kind : DSp) (sp__law_take : DSp) : DTS := qSeq (dw_R8 sp__law_kind sp__law_take) (dw_T9 sp__law_kind sp__law_take)
def dw_T7 (sp__law_kind : DSp) (sp__law_take : DSp) : DTS := qSeq (dw_R7 sp__law_kind sp__law_take) (dw_T8 sp__law_kind sp__law_take)
def dw_T6 (sp__law_kind : DSp) (sp__law_take : DSp) : DTS := qSeq (dw_R6 sp__law_kind sp__law_take) (dw_T7 sp__law_kind sp__law_take)
def dw_T5 (sp__law_kind : DSp) (sp__law_take : DSp) : DTS := qSeq (dw_R5 sp__law_kind sp__law_take) (dw_T6 sp__law_kind sp__law_take)
def dw_T4 (sp__law_kind : DSp) (sp__law_take : DSp) : DTS := qSeq (dw_R4 sp__law_kind sp__law_take) (dw_T5 sp__law_kind sp__law_take)
def dw_T3 (sp__law_kind : DSp) (sp__law_take : DSp) : DTS := qSeq (dw_R3 sp__law_kind sp__law_take) (dw_T4 sp__law_kind sp__law_take)
def dw_T2 (sp__law_kind : DSp) (sp__law_take : DSp) : DTS := qSeq (dw_R2 sp__law_kind sp__law_take) (dw_T3 sp__law_kind sp__law_take)
def dw_T1 (sp__law_kind : DSp) (sp__law_take : DSp) : DTS := qSeq (dw_R1 sp__law_kind sp__law_take) (dw_T2 sp__law_kind sp__law_take)
def dw_T0 (sp__law_kind : DSp) (sp__law_take : DSp) : DTS := qSeq (dw_R0 sp__law_kind sp__law_take) (dw_T1 sp__law_kind sp__law_take)
theorem dw_cut (sp__law_kind : DSp) (sp__law_take : DSp) : qHDeed sp__law_kind sp__law_take = dw_T0 sp__law_kind sp__law_take := rfl
theorem dw_t0 (sp__law_kind : DSp) (sp__law_take : DSp) {DW : DWt} {DE : DEnds} {p : Rho} {M : Mst} : dw_T0 sp__law_kind sp__law_take DW DE p M = dw_R0 sp__law_kind sp__law_take DW { DE with nx := dw_T1 sp__law_kind sp__law_take DW DE } p M := rfl
theorem dw_t1 (sp__law_kind : DSp) (sp__law_take : DSp) {DW : DWt} {DE : DEnds} {p : Rho} {M : Mst} : dw_T1 sp__law_kind sp__law_take DW DE p M = dw_R1 sp__law_kind sp__law_take DW { DE with nx := dw_T2 sp__law_kind sp__law_take DW DE } p M := rfl
theorem dw_t2 (sp__law_kind : DSp) (sp__law_take : DSp) {DW : DWt} {DE : DEnds} {p : Rho} {M : Mst} : dw_T2 sp__law_kind sp__law_take DW DE p M = dw_R2 sp__law_kind sp__law_take DW { DE with nx := dw_T3 sp__law_kind sp__law_take DW DE } p M := rfl
theorem dw_t3 (sp__law_kind : DSp) (sp__law_take : DSp) {DW : DWt} {DE : DEnds} {p : Rho} {M : Mst} : dw_T3 sp__law_kind sp__law_take DW DE p M = dw_R3 sp__law_kind sp__law_take DW { DE with nx := dw_T4 sp__law_kind sp__law_take DW DE } p M := rfl
theorem dw_t4 (sp__law_kind : DSp) (sp__law_take : DSp) {DW : DWt} {DE : DEnds} {p : Rho} {M : Mst} : dw_T4 sp__law_kind sp__law_take DW DE p M = dw_R4 sp__law_kind sp__law_take DW { DE with nx := dw_T5 sp__law_kind sp__law_take DW DE } p M := rfl
theorem dw_t5 (sp__law_kind : DSp) (sp__law_take : DSp) {DW : DWt} {DE : DEnds} {p : Rho} {M : Mst} : dw_T5 sp__law_kind sp__law_take DW DE p M = dw_R5 sp__law_kind sp__law_take DW { DE with nx := dw_T6 sp__law_kind sp__law_take DW DE } p M := rfl
theorem dw_t6 (sp__law_kind : DSp) (sp__law_take : DSp) {DW : DWt} {DE : DEnds} {p : Rho} {M : Mst} : dw_T6 sp__law_kind sp__law_take DW DE p M = dw_R6 sp__law_kind sp__law_take DW { DE with nx := dw_T7 sp__law_kind sp__law_take DW DE } p M := rfl
theorem dw_t7 (sp__law_kind : DSp) (sp__law_take : DSp) {DW : DWt} {DE : DEnds} {p : Rho} {M : Mst} : dw_T7 sp__law_kind sp__law_take DW DE p M = dw_R7 sp__law_kind sp__law_take DW { DE with nx := dw_T8 sp__law_kind sp__law_take DW DE } p M := rfl
theorem dw_t8 (sp__law_kind : DSp) (sp__law_take : DSp) {DW : DWt} {DE : DEnds} {p : Rho} {M : Mst} : dw_T8 sp__law_kind sp__law_take DW DE p M = dw_R8 sp__law_kind sp__law_take DW { DE with nx := dw_T9 sp__law_kind sp__law_take DW DE } p M := rfl
theorem dw_t9 (sp__law_kind : DSp) (sp__law_take : DSp) {DW : DWt} {DE : DEnds} {p : Rho} {M : Mst} : dw_T9 sp__law_kind sp__law_take DW DE p M = dw_R9 sp__law_kind sp__law_take DW { DE with nx := dw_T10 sp__law_kind sp__law_take DW DE } p M := rfl
abbrev KIND6 : List Str := [PySem.Str.ofString "house", PySem.Str.ofString "car", PySem.Str.ofString "chimney", PySem.Str.ofString "grass", PySem.Str.ofString "people", PySem.Str.ofString "works"]
abbrev SORT4 : List Str := [PySem.Str.ofString "pump", PySem.Str.ofString "ladder", PySem.Str.ofString "tanker", PySem.Str.ofString "pump"]
abbrev Eng := Str × Str × Str × Int
def egD (e : Eng) : D := .tup [.str e.1, .str e.2.1, .str e.2.2.1, .int e.2.2.2]
structure EngsOk (ss : List Str) (es : List Eng) : Prop where
  nd : (es.map (·.1)).Nodup
  nm : ∀ e ∈ es, nameS e.1 = true
  so : ∀ e ∈ es, e.2.1 ∈ SORT4
  st : ∀ e ∈ es, e.2.2.1 ∈ ss
  se : ∀ e ∈ es, 1 ≤ e.2.2.2 ∧ e.2.2.2 ≤ 9
  ne : es ≠ []
  le : es.length ≤ 24
def spHKind : DSp := fun ds M Q _ => ∃ (b : Addr), ds = [.ref b] ∧ M b = some .bag ∧ ∀ z ∈ KIND6, Q (.str z) M
theorem hkind_ok (ds : List D) (M : Mst) (Q : DK) (Ed : DX → Mst → Prop) (h : upSp spHKind ds M Q Ed) : qHKind spTake (fun x _ M => Ed x M) (retE Q) (startD ["_law_bag_here"] ds) M := by
  obtain ⟨Q0, E0, ⟨b, rfl, hb, k0⟩, kq, _⟩ := h
  have k : ∀ z ∈ KIND6, Q (.str z) M := fun z hz => kq _ _ _ (Sub.refl _) (k0 z hz)
  clear kq k0
  show qHKind _ _ _ [some (.ref b)] M
  simp only [qHKind, qSeq, qAsg, qTup, qCons, qNil, qOp, qUn, qC, qCall, qVar, qLst, newL_f, qIfS, qTB, qNext, qRet, qDrop, qFor, qCB, qAug, qSl, qPart, qNoPart, gNameD, gSub_eq, dInt_i, dInt0_i, dAdd_i, dCmpI_i, List.set_cons_zero, List.set_cons_succ, List.getElem?_cons_zero, List.getElem?_cons_succ, List.append_nil, z_l0, z_l1, z_l2, z_l3, z_l4, z_l5, z_l6, z_l7, z_l8, z_l9, z_l19, z_l24, z_l25, true_and]
  refine take_call hb (by decide) (by decide) fun r a b1 => pick_t a b1 fun d hd => ?_
  obtain ⟨z, hz, rfl⟩ : ∃ z ∈ KIND6, d = .str z := by
    simp only [List.mem_cons, List.not_mem_nil, or_false] at hd
    rcases hd with rfl | rfl | rfl | rfl | rfl | rfl <;> exact ⟨_, by simp, rfl⟩
  exact k z hz
def spHEngines : DSp := fun ds M Q _ => ∃ (b : Addr) (ss : List Str), ds = [.ref b, .xtp (ss.map .str)] ∧ M b = some .bag ∧ ss ≠ [] ∧ ss.length ≤ 12 ∧ ∀ es, EngsOk ss es → Q (.tup (es.map egD)) M
theorem hengines_ok (ds : List D) (M : Mst) (Q : DK) (Ed : DX → Mst → Prop) (h : upSp spHEngines ds M Q Ed) : qHEngines spHNames spTake (fun x _ M => Ed x M) (retE Q) (startD ["_law_bag_here", "_law_stations", "_law_many", "_law_found", "_law_name", "_law_sort"] ds) M := by
  obtain ⟨Q0, E0, ⟨b, ss, rfl, hb, hs, hl, k0⟩, kq, _⟩ := h
  have k : ∀ es, EngsOk ss es → ∀ M', Sub M M' → Q (.tup (es.map egD)) M' := fun es he M' s => kq _ _ _ s (k0 es he)
  clear kq k0
  rw [en_cut, en_t0]
  show en_R0 _ _ _ _ [some (.ref b), some (.xtp (ss.map .str)), none, none, none, none] M
  simp only [en_R0, qSeq, qAsg, qTup, qCons, qNil, qOp, qUn, qC, qCall, qVar, qLst, newL_f, qIfS, qTB, qNext, qRet, qDrop, qFor, qCB, qAug, qSl, qPart, qNoPart, gNameD, gSub_eq, dInt_i, dInt0_i, dAdd_i, dCmpI_i, List.set_cons_zero, List.set_cons_succ, List.getElem?_cons_zero, List.getElem?_cons_succ, List.append_nil, z_l0, z_l1, z_l2, z_l3, z_l4, z_l5, z_l6, z_l7, z_l8, z_l9, z_l19, z_l24, z_l25, true_and]
  refine take_call hb (by decide) (by decide) fun r a b1 => pick_t a b1 fun d hd => ?_
  obtain ⟨m, m0, m1, rfl⟩ : ∃ m : Nat, 1 ≤ m ∧ m ≤ 24 ∧ d = .int (m : Int) := by
    simp only [List.mem_cons, List.not_mem_nil, or_false] at hd
    rcases hd with rfl | rfl | rfl | rfl | rfl
    · exact ⟨4, by decide, by decide, rfl⟩
    · exact ⟨8, by decide, by decide, rfl⟩
    · exact ⟨2, by decide, by decide, rfl⟩
    · exact ⟨24, by decide, by decide, rfl⟩
    · exact ⟨1, by decide, by decide, rfl⟩
  show en_T1 _ _ _ _ _ M
  rw [en_t1]
  show en_R1 _ _ _ _ _ M
  simp only [en_R1, newL_t, qSeq, qAsg, qTup, qCons, qNil, qOp, qUn, qC, qCall, qVar, qLst, newL_f, qIfS, qTB, qNext, qRet, qDrop, qFor, qCB, qAug, qSl, qPart, qNoPart, gNameD, gSub_eq, dInt_i, dInt0_i, dAdd_i, dCmpI_i, List.set_cons_zero, List.set_cons_succ, List.getElem?_cons_zero, List.getElem?_cons_succ, List.append_nil, z_l0, z_l1, z_l2, z_l3, z_l4, z_l5, z_l6, z_l7, z_l8, z_l9, z_l19, z_l24, z_l25, true_and]
  intro l hlm
  show en_T2 _ _ _ _ _ _
  rw [en_t2]
  show en_R2 _ _ _ _ _ _
  rw [en_for2]
  have hb1 : ∀ o, put M l o b = some .bag := fun o => put_keep hb hlm
  simp only [qFor, qiAny, qSeq, qAsg, qTup, qCons, qNil, qOp, qUn, qC, qCall, qVar, qLst, newL_f, qIfS, qTB, qNext, qRet, qDrop, qFor, qCB, qAug, qSl, qPart, qNoPart, gNameD, gSub_eq, dInt_i, dInt0_i, dAdd_i, dCmpI_i, List.set_cons_zero, List.set_cons_succ, List.getElem?_cons_zero, List.getElem?_cons_succ, List.append_nil, z_l0, z_l1, z_l2, z_l3, z_l4, z_l5, z_l6, z_l7, z_l8, z_l9, z_l19, z_l24, z_l25, true_and]
  refine ⟨b, m, rfl, hb1 _, by omega, fun zs lz nz hz => ?_⟩
  simp only [res_lst]
  refine loopL_inv (n := zs.length) (fun i p M' => ∃ (es : List Eng) (x4 x5 : Option D), p = [some (.ref b), some (.xtp (ss.map .str)), some (.int (m : Int)), some (.ref l), x4, x5] ∧ M' = put M l (.lst (es.map egD)) ∧ es.map (·.1) = zs.take i ∧ (∀ e ∈ es, e.2.1 ∈ SORT4 ∧ e.2.2.1 ∈ ss ∧ 1 ≤ e.2.2.2 ∧ e.2.2.2 ≤ 9)) (by rw [List.length_map]) (fun i d p M' R hd hI hR => ?_) (fun p M' hI => ?_) ⟨[], none, none, rfl, rfl, rfl, fun _ h => nomatch h⟩
  · obtain ⟨es, x4, x5, rfl, rfl, he, ho⟩ := hI
    rw [List.getElem?_map] at hd
    obtain ⟨z, hz1, rfl⟩ := Option.map_eq_some_iff.mp hd
    have hi := (List.getElem?_eq_some_iff.mp hz1).1
    refine ⟨trivial, ?_⟩
    simp only [gNameD, List.set_cons_zero, List.set_cons_succ]
    rw [eb_t0]
    show eb_R0 _ _ _ _ _ _
    simp only [eb_R0, qSeq, qAsg, qTup, qCons, qNil, qOp, qUn, qC, qCall, qVar, qLst, newL_f, qIfS, qTB, qNext, qRet, qDrop, qFor, qCB, qAug, qSl, qPart, qNoPart, gNameD, gSub_eq, dInt_i, dInt0_i, dAdd_i, dCmpI_i, List.set_cons_zero, List.set_cons_succ, List.getElem?_cons_zero, List.getElem?_cons_succ, List.append_nil, z_l0, z_l1, z_l2, z_l3, z_l4, z_l5, z_l6, z_l7, z_l8, z_l9, z_l19, z_l24, z_l25, true_and]
    refine take_call (hb1 _) (by decide) (by decide) fun r a b1 => pick_t a b1 fun d hd => ?_
    obtain ⟨so, hso, rfl⟩ : ∃ z ∈ SORT4, d = .str z := by
      simp only [List.mem_cons, List.not_mem_nil, or_false] at hd
      rcases hd with rfl | rfl | rfl | rfl <;> exact ⟨_, by simp, rfl⟩
    simp only [eb_T1, eb_R1, qBM, z_len_xtp, List.length_map, qSeq, qAsg, qTup, qCons, qNil, qOp, qUn, qC, qCall, qVar, qLst, newL_f, qIfS, qTB, qNext, qRet, qDrop, qFor, qCB, qAug, qSl, qPart, qNoPart, gNameD, gSub_eq, dInt_i, dInt0_i, dAdd_i, dCmpI_i, List.set_cons_zero, List.set_cons_succ, List.getElem?_cons_zero, List.getElem?_cons_succ, List.append_nil, z_l0, z_l1, z_l2, z_l3, z_l4, z_l5, z_l6, z_l7, z_l8, z_l9, z_l19, z_l24, z_l25, true_and]
    refine ⟨by simp [res, put_same, tyOk], ?_⟩
    have ls : 0 < ss.length := List.length_pos_iff.mpr hs
    refine take_call (hb1 _) (by omega) (by omega) fun r2 a2 b2 => ?_
    obtain ⟨st, hst, hm⟩ := atI_some (xs := ss.map D.str) a2 (by rw [List.length_map]; exact b2)
    rw [ix_x hst]
    obtain ⟨st', hst', rfl⟩ := List.mem_map.mp hm
    refine take_call (hb1 _) (by decide) (by decide) fun r3 a3 b3 => ?_
    simp only [dAdd_i, mApp, put_same, put_put]
    have le : es.length = i := by have := congrArg List.length he; simp [List.length_take] at this; omega
    refine ⟨by simp; omega, hR _ _ ⟨es ++ [(z, so, st', 1 + r3)], _, _, rfl, by simp [egD], ?_, fun e he2 => ?_⟩⟩
    · rw [List.map_append, he, List.take_add_one, hz1]; rfl
    · rcases List.mem_append.mp he2 with h | h
      · exact ho e h
      · rw [List.mem_singleton.mp h]; exact ⟨hso, hst', by show 1 ≤ 1 + r3; omega, by show 1 + r3 ≤ 9; omega⟩
  · obtain ⟨es, x4, x5, rfl, rfl, he, ho⟩ := hI
    refine ⟨trivial, ?_⟩
    rw [List.take_length] at he
    simp only [en_T3, en_R3, qSeq, qAsg, qTup, qCons, qNil, qOp, qUn, qC, qCall, qVar, qLst, newL_f, qIfS, qTB, qNext, qRet, qDrop, qFor, qCB, qAug, qSl, qPart, qNoPart, gNameD, gSub_eq, dInt_i, dInt0_i, dAdd_i, dCmpI_i, List.set_cons_zero, List.set_cons_succ, List.getElem?_cons_zero, List.getElem?_cons_succ, List.append_nil, z_l0, z_l1, z_l2, z_l3, z_l4, z_l5, z_l6, z_l7, z_l8, z_l9, z_l19, z_l24, z_l25, true_and]
    have le : es.length = m := by have := congrArg List.length he; simp at this; omega
    have hk := k es ⟨by rw [he]; exact nz, fun e h => hz _ (by rw [← he]; exact List.mem_map_of_mem h), fun e h => (ho e h).1, fun e h => (ho e h).2.1, fun e h => (ho e h).2.2, fun e => by rw [e] at le; simp at le; omega, by omega⟩ _ (Sub.put (o := .lst (es.map egD)) (Sub.refl M) hlm)
    simp [dTuple, res, put_same]
    exact hk
inductive HDeed where
  | call (p kd : Str) | again (n : Int) | make (n m : Int) | stop (n : Int) | send (e : Str) (n : Int) | there (e : Str) | back (e : Str) | home (e : Str) | off (e : Str) | on (e : Str)
  | stand (e s : Str) | lend (e s : Str) | shut (r : Int) | clear (r : Int) | nothing
  deriving DecidableEq
def HDeed.word : HDeed → Str
  | .call _ _ => PySem.Str.ofString "call" | .again _ => PySem.Str.ofString "again" | .make _ _ => PySem.Str.ofString "make" | .stop _ => PySem.Str.ofString "stop" | .send _ _ => PySem.Str.ofString "send"
  | .there _ => PySem.Str.ofString "there" | .back _ => PySem.Str.ofString "back" | .home _ => PySem.Str.ofString "home" | .off _ => PySem.Str.ofString "off" | .on _ => PySem.Str.ofString "on"
  | .stand _ _ => PySem.Str.ofString "stand" | .lend _ _ => PySem.Str.ofString "lend" | .shut _ => PySem.Str.ofString "shut" | .clear _ => PySem.Str.ofString "clear" | .nothing => PySem.Str.ofString "nothing"
def HDeed.args : HDeed → List D
  | .call p kd => [.str p, .str kd] | .again n => [.int n] | .make n m => [.int n, .int m] | .stop n => [.int n] | .send e n => [.str e, .int n]
  | .there e => [.str e] | .back e => [.str e] | .home e => [.str e] | .off e => [.str e] | .on e => [.str e]
  | .stand e s => [.str e, .str s] | .lend e s => [.str e, .str s] | .shut r => [.int r] | .clear r => [.int r] | .nothing => []
def HDeed.d (x : HDeed) : D := .tup (.str x.word :: x.args)
/-- places, roads, stations, engines that a deed may name -/
structure DeedOk (ps ss es : List Str) (rn : Nat) (x : HDeed) : Prop where
  ok : match x with
    | .call p kd => p ∈ ps ∧ kd ∈ KIND6
    | .again n => 1 ≤ n ∧ n ≤ 200
    | .make n m => (1 ≤ n ∧ n ≤ 200) ∧ 1 ≤ m ∧ m ≤ 20
    | .stop n => 1 ≤ n ∧ n ≤ 200
    | .send e n => e ∈ es ∧ 1 ≤ n ∧ n ≤ 200
    | .there e => e ∈ es
    | .back e => e ∈ es
    | .home e => e ∈ es
    | .off e => e ∈ es
    | .on e => e ∈ es
    | .stand e s => e ∈ es ∧ s ∈ ss
    | .lend e s => e ∈ es ∧ s ∈ ss
    | .shut r => 0 ≤ r ∧ r < rn
    | .clear r => 0 ≤ r ∧ r < rn
    | .nothing => True
abbrev Rd_ := Str × Str × Int × Int
def rdD (r : Rd_) : D := .tup [.str r.1, .str r.2.1, .int r.2.2.1, .int r.2.2.2]
abbrev Pc_ := Str × Int
def pcD (r : Pc_) : D := .tup [.str r.1, .int r.2]
def grT (ps : List Pc_) (rs : List Rd_) (ss : List Str) : D := .tup [.xtp (ps.map pcD), .xtp (rs.map rdD), .xtp (ss.map .str)]
def spHDeed : DSp := fun ds M Q _ => ∃ (b : Addr) (ps : List Pc_) (rs : List Rd_) (ss : List Str) (es : List Eng) (cs : List Int), ds = [.ref b, grT ps rs ss, .tup (es.map egD), .lst (cs.map .int)] ∧ M b = some .bag ∧ ps ≠ [] ∧ ss ≠ [] ∧ es ≠ [] ∧ ps.length ≤ 1000 ∧ rs.length ≤ 1000 ∧ ss.length ≤ 1000 ∧ es.length ≤ 1000 ∧ cs.length ≤ 1000 ∧ (∀ n ∈ cs, 1 ≤ n ∧ n ≤ 200) ∧
  ∀ x, DeedOk (ps.map (·.1)) ss (es.map (·.1)) rs.length x → Q x.d M
theorem hdeed_ok (ds : List D) (M : Mst) (Q : DK) (Ed : DX → Mst → Prop) (h : upSp spHDeed ds M Q Ed) : qHDeed spHKind spTake (fun x _ M => Ed x M) (retE Q) (startD ["_law_bag_here", "_law_told", "_law_engines_here", "_law_calls", "_law_places", "_law_roads", "_law_stations", "_law_name", "_law_call", "_law_way"] ds) M := by
  obtain ⟨Q0, E0, ⟨b, ps, rs, ss, es, cs, rfl, hb, p0, s0, e0, p1, r1, s1, e1, c1, hc, k0⟩, kq, _⟩ := h
  have k : ∀ x, DeedOk (ps.map (·.1)) ss (es.map (·.1)) rs.length x → Q x.d M := fun x hx => kq _ _ _ (Sub.refl _) (k0 x hx)
  clear kq k0
  have lp : 0 < ps.length := List.length_pos_iff.mpr p0
  have ls : 0 < ss.length := List.length_pos_iff.mpr s0
  have le : 0 < es.length := List.length_pos_iff.mpr e0
  rw [dw_cut, dw_t0]
  show dw_R0 _ _ _ _ [some (.ref b), some (grT ps rs ss), some (.tup (es.map egD)), some (.lst (cs.map .int)), none, none, none, none, none, none] M
  simp only [dw_R0, grT, gTupD, gConsD, gNilD, res_tup, List.length_cons, List.length_nil, true_and, qSeq, qAsg, qTup, qCons, qNil, qOp, qUn, qC, qCall, qVar, qLst, newL_f, qIfS, qTB, qNext, qRet, qDrop, qFor, qCB, qAug, qSl, qPart, qNoPart, gNameD, gSub_eq, dInt_i, dInt0_i, dAdd_i, dCmpI_i, List.set_cons_zero, List.set_cons_succ, List.getElem?_cons_zero, List.getElem?_cons_succ, List.append_nil, z_l0, z_l1, z_l2, z_l3, z_l4, z_l5, z_l6, z_l7, z_l8, z_l9, z_l19, z_l24, z_l25, true_and]
  show dw_T1 _ _ _ _ _ _
  rw [dw_t1]
  show dw_R1 _ _ _ _ _ _
  simp only [dw_R1, z_len_tup, List.length_map, qSeq, qAsg, qTup, qCons, qNil, qOp, qUn, qC, qCall, qVar, qLst, newL_f, qIfS, qTB, qNext, qRet, qDrop, qFor, qCB, qAug, qSl, qPart, qNoPart, gNameD, gSub_eq, dInt_i, dInt0_i, dAdd_i, dCmpI_i, List.set_cons_zero, List.set_cons_succ, List.getElem?_cons_zero, List.getElem?_cons_succ, List.append_nil, z_l0, z_l1, z_l2, z_l3, z_l4, z_l5, z_l6, z_l7, z_l8, z_l9, z_l19, z_l24, z_l25, true_and]
  refine take_call hb (by omega) (by omega) fun q1 a1 b1 => pick_t a1 (by rw [List.length_map]; exact b1) fun d hd => ?_
  obtain ⟨e, he, rfl⟩ := List.mem_map.mp hd
  have he1 : e.1 ∈ es.map (·.1) := List.mem_map_of_mem he
  simp only [egD, z_ix_t0]
  show dw_T2 _ _ _ _ _ _
  rw [dw_t2]
  show dw_R2 _ _ _ _ _ _
  simp only [dw_R2, qSeq, qAsg, qTup, qCons, qNil, qOp, qUn, qC, qCall, qVar, qLst, newL_f, qIfS, qTB, qNext, qRet, qDrop, qFor, qCB, qAug, qSl, qPart, qNoPart, gNameD, gSub_eq, dInt_i, dInt0_i, dAdd_i, dCmpI_i, List.set_cons_zero, List.set_cons_succ, List.getElem?_cons_zero, List.getElem?_cons_succ, List.append_nil, z_l0, z_l1, z_l2, z_l3, z_l4, z_l5, z_l6, z_l7, z_l8, z_l9, z_l19, z_l24, z_l25, true_and]
  refine take_call hb (by decide) (by decide) fun q2 a2 b2 => ?_
  simp only [dAdd_i]
  have tail : ∀ n : Int, 1 ≤ n → n ≤ 200 → dw_T4 spHKind spTake (fun x _ M => Ed x M) (retE Q) [some (.ref b), some (grT ps rs ss), some (.tup (es.map egD)), some (.lst (cs.map .int)), some (.xtp (ps.map pcD)), some (.xtp (rs.map rdD)), some (.xtp (ss.map .str)), some (.str e.1), some (.int n), none] M := fun n n0 n1 => by
    rw [dw_t4]
    show dw_R4 _ _ _ _ _ _
    simp only [dw_R4, qSeq, qAsg, qTup, qCons, qNil, qOp, qUn, qC, qCall, qVar, qLst, newL_f, qIfS, qTB, qNext, qRet, qDrop, qFor, qCB, qAug, qSl, qPart, qNoPart, gNameD, gSub_eq, dInt_i, dInt0_i, dAdd_i, dCmpI_i, List.set_cons_zero, List.set_cons_succ, List.getElem?_cons_zero, List.getElem?_cons_succ, List.append_nil, z_l0, z_l1, z_l2, z_l3, z_l4, z_l5, z_l6, z_l7, z_l8, z_l9, z_l19, z_l24, z_l25, true_and]
    refine take_call hb (by decide) (by decide) fun w w0 w1 => ?_
    show dw_T5 _ _ _ _ _ _
    rw [dw_t5]
    show dw_R5 _ _ _ _ _ _
    simp only [dw_R5, z_len_xtp, List.length_map, qSeq, qAsg, qTup, qCons, qNil, qOp, qUn, qC, qCall, qVar, qLst, newL_f, qIfS, qTB, qNext, qRet, qDrop, qFor, qCB, qAug, qSl, qPart, qNoPart, gNameD, gSub_eq, dInt_i, dInt0_i, dAdd_i, dCmpI_i, List.set_cons_zero, List.set_cons_succ, List.getElem?_cons_zero, List.getElem?_cons_succ, List.append_nil, z_l0, z_l1, z_l2, z_l3, z_l4, z_l5, z_l6, z_l7, z_l8, z_l9, z_l19, z_l24, z_l25, true_and]
    by_cases c : w < 3
    · rw [decide_eq_true c]
      simp only [if_true]
      refine take_call hb (by omega) (by omega) fun q3 a3 b3 => pick_x a3 (by rw [List.length_map]; exact b3) fun d hd => ?_
      obtain ⟨pl, hpl, rfl⟩ := List.mem_map.mp hd
      simp only [pcD, z_ix_t0]
      exact ⟨b, rfl, hb, fun z hz => k (.call pl.1 z) ⟨List.mem_map_of_mem hpl, hz⟩⟩
    rw [decide_eq_false c]
    simp only [Bool.false_eq_true, if_false]
    show dw_T6 _ _ _ _ _ _
    rw [dw_t6]
    show dw_R6 _ _ _ _ _ _
    simp only [dw_R6, qSeq, qAsg, qTup, qCons, qNil, qOp, qUn, qC, qCall, qVar, qLst, newL_f, qIfS, qTB, qNext, qRet, qDrop, qFor, qCB, qAug, qSl, qPart, qNoPart, gNameD, gSub_eq, dInt_i, dInt0_i, dAdd_i, dCmpI_i, List.set_cons_zero, List.set_cons_succ, List.getElem?_cons_zero, List.getElem?_cons_succ, List.append_nil, z_l0, z_l1, z_l2, z_l3, z_l4, z_l5, z_l6, z_l7, z_l8, z_l9, z_l19, z_l24, z_l25, true_and]
    by_cases c2 : w < 6
    · rw [decide_eq_true c2]
      simp only [if_true]
      exact k (.send e.1 n) ⟨he1, n0, n1⟩
    rw [decide_eq_false c2]
    simp only [Bool.false_eq_true, if_false]
    show dw_T7 _ _ _ _ _ _
    rw [dw_t7]
    show dw_R7 _ _ _ _ _ _
    simp only [dw_R7, qSeq, qAsg, qTup, qCons, qNil, qOp, qUn, qC, qCall, qVar, qLst, newL_f, qIfS, qTB, qNext, qRet, qDrop, qFor, qCB, qAug, qSl, qPart, qNoPart, gNameD, gSub_eq, dInt_i, dInt0_i, dAdd_i, dCmpI_i, List.set_cons_zero, List.set_cons_succ, List.getElem?_cons_zero, List.getElem?_cons_succ, List.append_nil, z_l0, z_l1, z_l2, z_l3, z_l4, z_l5, z_l6, z_l7, z_l8, z_l9, z_l19, z_l24, z_l25, true_and]
    by_cases c3 : w < 11
    · rw [decide_eq_true c3]
      simp only [if_true]
      have : w = 6 ∨ w = 7 ∨ w = 8 ∨ w = 9 ∨ w = 10 := by omega
      rcases this with rfl | rfl | rfl | rfl | rfl
      · exact k (.there e.1) ⟨he1⟩
      · exact k (.back e.1) ⟨he1⟩
      · exact k (.home e.1) ⟨he1⟩
      · exact k (.off e.1) ⟨he1⟩
      · exact k (.on e.1) ⟨he1⟩
    rw [decide_eq_false c3]
    simp only [Bool.false_eq_true, if_false]
    show dw_T8 _ _ _ _ _ _
    rw [dw_t8]
    show dw_R8 _ _ _ _ _ _
    simp only [dw_R8, z_len_xtp, List.length_map, qSeq, qAsg, qTup, qCons, qNil, qOp, qUn, qC, qCall, qVar, qLst, newL_f, qIfS, qTB, qNext, qRet, qDrop, qFor, qCB, qAug, qSl, qPart, qNoPart, gNameD, gSub_eq, dInt_i, dInt0_i, dAdd_i, dCmpI_i, List.set_cons_zero, List.set_cons_succ, List.getElem?_cons_zero, List.getElem?_cons_succ, List.append_nil, z_l0, z_l1, z_l2, z_l3, z_l4, z_l5, z_l6, z_l7, z_l8, z_l9, z_l19, z_l24, z_l25, true_and]
    by_cases c4 : w < 13
    · rw [decide_eq_true c4]
      simp only [if_true]
      have : w = 11 ∨ w = 12 := by omega
      rcases this with rfl | rfl
      · rw [show (11 - 11 : Int) = 0 from rfl, z_ix_t0]
        refine take_call hb (by omega) (by omega) fun q3 a3 b3 => pick_x a3 (by rw [List.length_map]; exact b3) fun d hd => ?_
        obtain ⟨st, hst, rfl⟩ := List.mem_map.mp hd
        exact k (.stand e.1 st) ⟨he1, hst⟩
      · rw [show (12 - 11 : Int) = 1 from rfl, z_ix_t1]
        refine take_call hb (by omega) (by omega) fun q3 a3 b3 => pick_x a3 (by rw [List.length_map]; exact b3) fun d hd => ?_
        obtain ⟨st, hst, rfl⟩ := List.mem_map.mp hd
        exact k (.lend e.1 st) ⟨he1, hst⟩
    rw [decide_eq_false c4]
    simp only [Bool.false_eq_true, if_false]
    show dw_T9 _ _ _ _ _ _
    rw [dw_t9]
    show dw_R9 _ _ _ _ _ _
    simp only [dw_R9, qAnd, z_len_xtp, List.length_map, qSeq, qAsg, qTup, qCons, qNil, qOp, qUn, qC, qCall, qVar, qLst, newL_f, qIfS, qTB, qNext, qRet, qDrop, qFor, qCB, qAug, qSl, qPart, qNoPart, gNameD, gSub_eq, dInt_i, dInt0_i, dAdd_i, dCmpI_i, List.set_cons_zero, List.set_cons_succ, List.getElem?_cons_zero, List.getElem?_cons_succ, List.append_nil, z_l0, z_l1, z_l2, z_l3, z_l4, z_l5, z_l6, z_l7, z_l8, z_l9, z_l19, z_l24, z_l25, true_and]
    have last : dw_T10 spHKind spTake (fun x _ M => Ed x M) (retE Q) [some (.ref b), some (grT ps rs ss), some (.tup (es.map egD)), some (.lst (cs.map .int)), some (.xtp (ps.map pcD)), some (.xtp (rs.map rdD)), some (.xtp (ss.map .str)), some (.str e.1), some (.int n), some (.int w)] M := by
      simp only [dw_T10, dw_R10, qSeq, qAsg, qTup, qCons, qNil, qOp, qUn, qC, qCall, qVar, qLst, newL_f, qIfS, qTB, qNext, qRet, qDrop, qFor, qCB, qAug, qSl, qPart, qNoPart, gNameD, gSub_eq, dInt_i, dInt0_i, dAdd_i, dCmpI_i, List.set_cons_zero, List.set_cons_succ, List.getElem?_cons_zero, List.getElem?_cons_succ, List.append_nil, z_l0, z_l1, z_l2, z_l3, z_l4, z_l5, z_l6, z_l7, z_l8, z_l9, z_l19, z_l24, z_l25, true_and]
      refine take_call hb (by decide) (by decide) fun q3 a3 b3 => ?_
      simp only [dAdd_i, dInt_i]
      refine ⟨by decide, ?_⟩
      have hw : w % 4 = 0 ∨ w % 4 = 1 ∨ w % 4 = 2 ∨ w % 4 = 3 := by omega
      rcases hw with e | e | e | e <;> rw [e]
      · exact k (.again n) ⟨n0, n1⟩
      · exact k (.make n (1 + q3)) ⟨⟨n0, n1⟩, by omega, by omega⟩
      · exact k (.stop n) ⟨n0, n1⟩
      · exact k .nothing ⟨trivial⟩
    by_cases c5 : w < 15
    · rw [decide_eq_true c5]
      simp only [if_true]
      have lt0 : ∀ R, dEq true (.xtp (rs.map rdD)) (.tup []) M R = R (.bl (xor true (rs.isEmpty))) M := fun R => by
        have e1 : deq (.tup (rs.map rdD)) (.tup []) = rs.isEmpty := by
          unfold deq
          cases rs <;> simp [pyd, pydL, PyData.eqv, PyData.eqvAll]
        have d1 : isData (.tup (rs.map rdD)) = true := by
          show isDataL (rs.map rdD) = true
          rw [isDataL_all, List.all_map, List.all_eq_true]; intro x _; rfl
        unfold dEq
        rw [res_xtp, res_tup, e1]
        have h3 : min (dep (.tup (rs.map rdD))) (dep (.tup [])) ≤ 64 := Nat.le_trans (Nat.min_le_right _ _) (Nat.le_of_ble_eq_true rfl)
        simp [d1, h3, show isData (.tup []) = true from rfl]
      rw [lt0]
      cases hr : rs with
      | nil => subst hr; exact last
      | cons y ys =>
        rw [← hr]
        have lr : 0 < rs.length := by rw [hr]; simp
        have : w = 13 ∨ w = 14 := by omega
        rw [show rs.isEmpty = false by rw [hr]; rfl]
        simp only [Bool.xor_false, if_true]
        rcases this with rfl | rfl
        · rw [show (13 - 13 : Int) = 0 from rfl, z_ix_t0]
          exact take_call hb (by omega) (by omega) fun q3 a3 b3 => k (.shut q3) ⟨a3, b3⟩
        · rw [show (14 - 13 : Int) = 1 from rfl, z_ix_t1]
          exact take_call hb (by omega) (by omega) fun q3 a3 b3 => k (.clear q3) ⟨a3, b3⟩
    · rw [decide_eq_false c5]
      exact last
  show dw_T3 _ _ _ _ _ _
  rw [dw_t3]
  show dw_R3 _ _ _ _ _ _
  simp only [dw_R3, qAnd, len_l', List.length_map, qSeq, qAsg, qTup, qCons, qNil, qOp, qUn, qC, qCall, qVar, qLst, newL_f, qIfS, qTB, qNext, qRet, qDrop, qFor, qCB, qAug, qSl, qPart, qNoPart, gNameD, gSub_eq, dInt_i, dInt0_i, dAdd_i, dCmpI_i, List.set_cons_zero, List.set_cons_succ, List.getElem?_cons_zero, List.getElem?_cons_succ, List.append_nil, z_l0, z_l1, z_l2, z_l3, z_l4, z_l5, z_l6, z_l7, z_l8, z_l9, z_l19, z_l24, z_l25, true_and]
  rw [eq_nil (x := .lst (cs.map .int)) res_lst (data_ints cs)]
  cases cs with
  | nil => exact tail (1 + q2) (by omega) (by omega)
  | cons y ys =>
    simp only [List.map_cons, List.isEmpty_cons, Bool.true_xor, Bool.not_false, if_true, qSeq, qAsg, qTup, qCons, qNil, qOp, qUn, qC, qCall, qVar, qLst, newL_f, qIfS, qTB, qNext, qRet, qDrop, qFor, qCB, qAug, qSl, qPart, qNoPart, gNameD, gSub_eq, dInt_i, dInt0_i, dAdd_i, dCmpI_i, List.set_cons_zero, List.set_cons_succ, List.getElem?_cons_zero, List.getElem?_cons_succ, List.append_nil, z_l0, z_l1, z_l2, z_l3, z_l4, z_l5, z_l6, z_l7, z_l8, z_l9, z_l19, z_l24, z_l25, true_and]
    refine take_call hb (by decide) (by decide) fun q3 a3 b3 => ?_
    simp only [dCmpI_i]
    by_cases c : 0 < q3
    · rw [decide_eq_true c]
      simp only [if_true, qSeq, qAsg, qTup, qCons, qNil, qOp, qUn, qC, qCall, qVar, qLst, newL_f, qIfS, qTB, qNext, qRet, qDrop, qFor, qCB, qAug, qSl, qPart, qNoPart, gNameD, gSub_eq, dInt_i, dInt0_i, dAdd_i, dCmpI_i, List.set_cons_zero, List.set_cons_succ, List.getElem?_cons_zero, List.getElem?_cons_succ, List.append_nil, z_l0, z_l1, z_l2, z_l3, z_l4, z_l5, z_l6, z_l7, z_l8, z_l9, z_l19, z_l24, z_l25, true_and]
      refine take_call hb (by simp) (by simp at c1 ⊢; omega) fun q4 a4 b4 => pick_l a4 (by simpa using b4) fun d hd => ?_
      rw [← List.map_cons] at hd
      obtain ⟨n, hn, rfl⟩ := List.mem_map.mp hd
      exact tail n (hc n hn).1 (hc n hn).2
    · rw [decide_eq_false c]
      exact tail (1 + q2) (by omega) (by omega)
end DL
namespace DL
open PySem L2 Tx20 Tx21
def qHGround (sp__law_names : DSp) (sp__law_take : DSp) : DTS :=
  (qSeq (qAsg (qOp dIx (qTup (qCons (qC (.int 6)) (qCons (qC (.int 3)) (qCons (qC (.int 12)) (qCons (qC (.int 1)) (qCons (qC (.int 40)) (qCons (qC (.int 8)) qNil))))))) (qCall sp__law_take [] (qCons (qVar 0) (qCons (qC (.int 6)) qNil)))) (gNameD 1))
  (qSeq (qAsg (qCall sp__law_names [] (qCons (qVar 0) (qCons (qVar 1) qNil))) (gNameD 2))
  (qSeq (qAsg (qCB dTupX (qCons (qLc false (qiAny (qVar 2)) (gNameD 13) qYes (qTup (qCons (qVar 13) (qCons (qOp (dAdd false) (qC (.int 1)) (qCall sp__law_take [] (qCons (qVar 0) (qCons (qC (.int 4)) qNil)))) qNil))) [13]) qNil)) (gNameD 3))
  (qSeq (qAsg (qOp dIx (qTup (qCons (qC (.int 2)) (qCons (qC (.int 5)) (qCons (qC (.int 60)) qNil)))) (qCall sp__law_take [] (qCons (qVar 0) (qCons (qC (.int 3)) qNil)))) (gNameD 4))
  (qSeq (qAsg (qLst true qNil) (gNameD 5))
  (qSeq (qFor (qiRng1 (qCons (qOp (dAdd false) (qOp (dInt0 fun i j => i - j) (qVar 1) (qC (.int 1))) (qCall sp__law_take [] (qCons (qVar 0) (qCons (qOp (dAdd false) (qC (.int 1)) (qCB dMin2 (qCons (qC (.int 40)) (qCons (qVar 1) qNil)))) qNil)))) qNil)) (gNameD 6)
  (qSeq (qPar 7 8 (qCons (qOp (dInt (fun _ j => 0 < j) fun i j => i % j) (qVar 6) (qVar 1)) (qCons (qOp (dInt (fun _ j => 0 < j) fun i j => i % j) (qOp (dAdd false) (qVar 6) (qC (.int 1))) (qVar 1)) qNil)))
  (qSeq (qIfS (qTB (qOp (dCmpI fun i j => decide (j < i)) (qCall sp__law_take [] (qCons (qVar 0) (qCons (qC (.int 3)) qNil))) (qC (.int 0))))
  (qAsg (qCall sp__law_take [] (qCons (qVar 0) (qCons (qVar 1) qNil))) (gNameD 7))
  qNext)
  (qIfS (qAnd (qTB (qOp (dEq true) (qVar 7) (qVar 8))) (qAnd (qTB (qOp (dInD true) (qTup (qCons (qVar 7) (qCons (qVar 8) qNil))) (qVar 5))) (qTB (qOp (dInD true) (qTup (qCons (qVar 8) (qCons (qVar 7) qNil))) (qVar 5)))))
  (qDrop (qBM "list" mApp (qVar 5) (qCons (qTup (qCons (qVar 7) (qCons (qVar 8) qNil))) qNil)))
  qNext))))
  (qSeq (qAsg (qLst true qNil) (gNameD 9))
  (qSeq (qFor (qiAny (qVar 5)) (gTupD 2 (gConsD (gNameD 7) (gConsD (gNameD 8) gNilD)))
  (qSeq (qAsg (qOp (dMul false) (qCall sp__law_take [] (qCons (qVar 0) (qCons (qC (.int 61)) qNil))) (qCB dIntX (qCons (qOp (dEq false) (qCall sp__law_take [] (qCons (qVar 0) (qCons (qC (.int 4)) qNil))) (qC (.int 0))) qNil))) (gNameD 10))
  (qDrop (qBM "list" mApp (qVar 9) (qCons (qTup (qCons (qOp dIx (qVar 2) (qVar 7)) (qCons (qOp dIx (qVar 2) (qVar 8)) (qCons (qOp (dAdd false) (qC (.int 1)) (qCall sp__law_take [] (qCons (qVar 0) (qCons (qVar 4) qNil)))) (qCons (qVar 10) qNil))))) qNil)))))
  (qSeq (qAsg (qLst true qNil) (gNameD 11))
  (qSeq (qFor (qiRng1 (qCons (qOp (dAdd false) (qC (.int 1)) (qCall sp__law_take [] (qCons (qVar 0) (qCons (qCB dMin2 (qCons (qC (.int 12)) (qCons (qVar 1) qNil))) qNil)))) qNil)) (gNameD 6)
  (qSeq (qAsg (qOp dIx (qVar 2) (qCall sp__law_take [] (qCons (qVar 0) (qCons (qVar 1) qNil)))) (gNameD 12))
  (qIfS (qTB (qOp (dIn true) (qVar 12) (qVar 11)))
  (qDrop (qBM "list" mApp (qVar 11) (qCons (qVar 12) qNil)))
  qNext)))
  (qRet (qTup (qCons (qVar 3) (qCons (qCB dTupX (qCons (qVar 9) qNil)) (qCons (qCB dTupX (qCons (qVar 11) qNil)) qNil)))))))))))))))
def gw_R0 (sp__law_names : DSp) (sp__law_take : DSp) : DTS := (qAsg (qOp dIx (qTup (qCons (qC (.int 6)) (qCons (qC (.int 3)) (qCons (qC (.int 12)) (qCons (qC (.int 1)) (qCons (qC (.int 40)) (qCons (qC (.int 8)) qNil))))))) (qCall sp__law_take [] (qCons (qVar 0) (qCons (qC (.int 6)) qNil)))) (gNameD 1))
def gw_R1 (sp__law_names : DSp) (sp__law_take : DSp) : DTS := (qAsg (qCall sp__law_names [] (qCons (qVar 0) (qCons (qVar 1) qNil))) (gNameD 2))
def gw_R2 (sp__law_names : DSp) (sp__law_take : DSp) : DTS := (qAsg (qCB dTupX (qCons (qLc false (qiAny (qVar 2)) (gNameD 13) qYes (qTup (qCons (qVar 13) (qCons (qOp (dAdd false) (qC (.int 1)) (qCall sp__law_take [] (qCons (qVar 0) (qCons (qC (.int 4)) qNil)))) qNil))) [13]) qNil)) (gNameD 3))
def gw_R3 (sp__law_names : DSp) (sp__law_take : DSp) : DTS := (qAsg (qOp dIx (qTup (qCons (qC (.int 2)) (qCons (qC (.int 5)) (qCons (qC (.int 60)) qNil)))) (qCall sp__law_take [] (qCons (qVar 0) (qCons (qC (.int 3)) qNil)))) (gNameD 4))
def gw_R4 (sp__law_names : DSp) (sp__law_take : DSp) : DTS := (qAsg (qLst true qNil) (gNameD 5))
def gw_R5 (sp__law_names : DSp) (sp__law_take : DSp) : DTS := (qFor (qiRng1 (qCons (qOp (dAdd false) (qOp (dInt0 fun i j => i - j) (qVar 1) (qC (.int 1))) (qCall sp__law_take [] (qCons (qVar 0) (qCons (qOp (dAdd false) (qC (.int 1)) (qCB dMin2 (qCons (qC (.int 40)) (qCons (qVar 1) qNil)))) qNil)))) qNil)) (gNameD 6) (qSeq (qPar 7 8 (qCons (qOp (dInt (fun _ j => 0 < j) fun i j => i % j) (qVar 6) (qVar 1)) (qCons (qOp (dInt (fun _ j => 0 < j) fun i j => i % j) (qOp (dAdd false) (qVar 6) (qC (.int 1))) (qVar 1)) qNil))) (qSeq (qIfS (qTB (qOp (dCmpI fun i j => decide (j < i)) (qCall sp__law_take [] (qCons (qVar 0) (qCons (qC (.int 3)) qNil))) (qC (.int 0)))) (qAsg (qCall sp__law_take [] (qCons (qVar 0) (qCons (qVar 1) qNil))) (gNameD 7)) qNext) (qIfS (qAnd (qTB (qOp (dEq true) (qVar 7) (qVar 8))) (qAnd (qTB (qOp (dInD true) (qTup (qCons (qVar 7) (qCons (qVar 8) qNil))) (qVar 5))) (qTB (qOp (dInD true) (qTup (qCons (qVar 8) (qCons (qVar 7) qNil))) (qVar 5))))) (qDrop (qBM "list" mApp (qVar 5) (qCons (qTup (qCons (qVar 7) (qCons (qVar 8) qNil))) qNil))) qNext))))
def gw_R6 (sp__law_names : DSp) (sp__law_take : DSp) : DTS := (qAsg (qLst true qNil) (gNameD 9))
def gw_R7 (sp__law_names : DSp) (sp__law_take : DSp) : DTS := (qFor (qiAny (qVar 5)) (gTupD 2 (gConsD (gNameD 7) (gConsD (gNameD 8) gNilD))) (qSeq (qAsg (qOp (dMul false) (qCall sp__law_take [] (qCons (qVar 0) (qCons (qC (.int 61)) qNil))) (qCB dIntX (qCons (qOp (dEq false) (qCall sp__law_take [] (qCons (qVar 0) (qCons (qC (.int 4)) qNil))) (qC (.int 0))) qNil))) (gNameD 10)) (qDrop (qBM "list" mApp (qVar 9) (qCons (qTup (qCons (qOp dIx (qVar 2) (qVar 7)) (qCons (qOp dIx (qVar 2) (qVar 8)) (qCons (qOp (dAdd false) (qC (.int 1)) (qCall sp__law_take [] (qCons (qVar 0) (qCons (qVar 4) qNil)))) (qCons (qVar 10) qNil))))) qNil)))))
def gw_R8 (sp__law_names : DSp) (sp__law_take : DSp) : DTS := (qAsg (qLst true qNil) (gNameD 11))
def gw_R9 (sp__law_names : DSp) (sp__law_take : DSp) : DTS := (qFor (qiRng1 (qCons (qOp (dAdd false) (qC (.int 1)) (qCall sp__law_take [] (qCons (qVar 0) (qCons (qCB dMin2 (qCons (qC (.int 12)) (qCons (qVar 1) qNil))) qNil)))) qNil)) (gNameD 6) (qSeq (qAsg (qOp dIx (qVar 2) (qCall sp__law_take [] (qCons (qVar 0) (qCons (qVar 1) qNil)))) (gNameD 12)) (qIfS (qTB (qOp (dIn true) (qVar 12) (qVar 11))) (qDrop (qBM "list" mApp (qVar 11) (qCons (qVar 12) qNil))) qNext)))
def gw_R10 (sp__law_names : DSp) (sp__law_take : DSp) : DTS := (qRet (qTup (qCons (qVar 3) (qCons (qCB dTupX (qCons (qVar 9) qNil)) (qCons (qCB dTupX (qCons (qVar 11) qNil)) qNil)))))
def gw_T10 (sp__law_names : DSp) (sp__law_take : DSp) : DTS := gw_R10 sp__law_names sp__law_take
def gw_T9 (sp__law_names : DSp) (sp__law_take : DSp) : DTS := qSeq (gw_R9 sp__law_names sp__law_take) (gw_T10 sp__law_names sp__law_take)
def gw_T8 (sp__law_names : DSp) (sp__law_take : DSp) : DTS := qSeq (gw_R8 sp__law_names sp__law_take) (gw_T9 sp__law_names sp__law_take)
def gw_T7 (sp__law_names : DSp) (sp__law_take : DSp) : DTS := qSeq (gw_R7 sp__law_names sp__law_take) (gw_T8 sp__law_names sp__law_take)
def gw_T6 (sp__law_names : DSp) (sp__law_take : DSp) : DTS := qSeq (gw_R6 sp__law_names sp__law_take) (gw_T7 sp__law_names sp__law_take)
def gw_T5 (sp__law_names : DSp) (sp__law_take : DSp) : DTS := qSeq (gw_R5 sp__law_names sp__law_take) (gw_T6 sp__law_names sp__law_take)
def gw_T4 (sp__law_names : DSp) (sp__law_take : DSp) : DTS := qSeq (gw_R4 sp__law_names sp__law_take) (gw_T5 sp__law_names sp__law_take)
def gw_T3 (sp__law_names : DSp) (sp__law_take : DSp) : DTS := qSeq (gw_R3 sp__law_names sp__law_take) (gw_T4 sp__law_names sp__law_take)
def gw_T2 (sp__law_names : DSp) (sp__law_take : DSp) : DTS := qSeq (gw_R2 sp__law_names sp__law_take) (gw_T3 sp__law_names sp__law_take)
def gw_T1 (sp__law_names : DSp) (sp__law_take : DSp) : DTS := qSeq (gw_R1 sp__law_names sp__law_take) (gw_T2 sp__law_names sp__law_take)
def gw_T0 (sp__law_names : DSp) (sp__law_take : DSp) : DTS := qSeq (gw_R0 sp__law_names sp__law_take) (gw_T1 sp__law_names sp__law_take)
theorem gw_cut (sp__law_names : DSp) (sp__law_take : DSp) : qHGround sp__law_names sp__law_take = gw_T0 sp__law_names sp__law_take := rfl
theorem gw_t0 (sp__law_names : DSp) (sp__law_take : DSp) {DW : DWt} {DE : DEnds} {p : Rho} {M : Mst} : gw_T0 sp__law_names sp__law_take DW DE p M = gw_R0 sp__law_names sp__law_take DW { DE with nx := gw_T1 sp__law_names sp__law_take DW DE } p M := rfl
theorem gw_t1 (sp__law_names : DSp) (sp__law_take : DSp) {DW : DWt} {DE : DEnds} {p : Rho} {M : Mst} : gw_T1 sp__law_names sp__law_take DW DE p M = gw_R1 sp__law_names sp__law_take DW { DE with nx := gw_T2 sp__law_names sp__law_take DW DE } p M := rfl
theorem gw_t2 (sp__law_names : DSp) (sp__law_take : DSp) {DW : DWt} {DE : DEnds} {p : Rho} {M : Mst} : gw_T2 sp__law_names sp__law_take DW DE p M = gw_R2 sp__law_names sp__law_take DW { DE with nx := gw_T3 sp__law_names sp__law_take DW DE } p M := rfl
theorem gw_t3 (sp__law_names : DSp) (sp__law_take : DSp) {DW : DWt} {DE : DEnds} {p : Rho} {M : Mst} : gw_T3 sp__law_names sp__law_take DW DE p M = gw_R3 sp__law_names sp__law_take DW { DE with nx := gw_T4 sp__law_names sp__law_take DW DE } p M := rfl
theorem gw_t4 (sp__law_names : DSp) (sp__law_take : DSp) {DW : DWt} {DE : DEnds} {p : Rho} {M : Mst} : gw_T4 sp__law_names sp__law_take DW DE p M = gw_R4 sp__law_names sp__law_take DW { DE with nx := gw_T5 sp__law_names sp__law_take DW DE } p M := rfl
theorem gw_t5 (sp__law_names : DSp) (sp__law_take : DSp) {DW : DWt} {DE : DEnds} {p : Rho} {M : Mst} : gw_T5 sp__law_names sp__law_take DW DE p M = gw_R5 sp__law_names sp__law_take DW { DE with nx := gw_T6 sp__law_names sp__law_take DW DE } p M := rfl
theorem gw_t6 (sp__law_names : DSp) (sp__law_take : DSp) {DW : DWt} {DE : DEnds} {p : Rho} {M : Mst} : gw_T6 sp__law_names sp__law_take DW DE p M = gw_R6 sp__law_names sp__law_take DW { DE with nx := gw_T7 sp__law_names sp__law_take DW DE } p M := rfl
theorem gw_t7 (sp__law_names : DSp) (sp__law_take : DSp) {DW : DWt} {DE : DEnds} {p : Rho} {M : Mst} : gw_T7 sp__law_names sp__law_take DW DE p M = gw_R7 sp__law_names sp__law_take DW { DE with nx := gw_T8 sp__law_names sp__law_take DW DE } p M := rfl
theorem gw_t8 (sp__law_names : DSp) (sp__law_take : DSp) {DW : DWt} {DE : DEnds} {p : Rho} {M : Mst} : gw_T8 sp__law_names sp__law_take DW DE p M = gw_R8 sp__law_names sp__law_take DW { DE with nx := gw_T9 sp__law_names sp__law_take DW DE } p M := rfl
theorem gw_t9 (sp__law_names : DSp) (sp__law_take : DSp) {DW : DWt} {DE : DEnds} {p : Rho} {M : Mst} : gw_T9 sp__law_names sp__law_take DW DE p M = gw_R9 sp__law_names sp__law_take DW { DE with nx := gw_T10 sp__law_names sp__law_take DW DE } p M := rfl
def ga_R0 (sp__law_names : DSp) (sp__law_take : DSp) : DTS := (qPar 7 8 (qCons (qOp (dInt (fun _ j => 0 < j) fun i j => i % j) (qVar 6) (qVar 1)) (qCons (qOp (dInt (fun _ j => 0 < j) fun i j => i % j) (qOp (dAdd false) (qVar 6) (qC (.int 1))) (qVar 1)) qNil)))
def ga_R1 (sp__law_names : DSp) (sp__law_take : DSp) : DTS := (qIfS (qTB (qOp (dCmpI fun i j => decide (j < i)) (qCall sp__law_take [] (qCons (qVar 0) (qCons (qC (.int 3)) qNil))) (qC (.int 0)))) (qAsg (qCall sp__law_take [] (qCons (qVar 0) (qCons (qVar 1) qNil))) (gNameD 7)) qNext)
def ga_R2 (sp__law_names : DSp) (sp__law_take : DSp) : DTS := (qIfS (qAnd (qTB (qOp (dEq true) (qVar 7) (qVar 8))) (qAnd (qTB (qOp (dInD true) (qTup (qCons (qVar 7) (qCons (qVar 8) qNil))) (qVar 5))) (qTB (qOp (dInD true) (qTup (qCons (qVar 8) (qCons (qVar 7) qNil))) (qVar 5))))) (qDrop (qBM "list" mApp (qVar 5) (qCons (qTup (qCons (qVar 7) (qCons (qVar 8) qNil))) qNil))) qNext)
def ga_T2 (sp__law_names : DSp) (sp__law_take : DSp) : DTS := ga_R2 sp__law_names sp__law_take
def ga_T1 (sp__law_names : DSp) (sp__law_take : DSp) : DTS := qSeq (ga_R1 sp__law_names sp__law_take) (ga_T2 sp__law_names sp__law_take)
def ga_T0 (sp__law_names : DSp) (sp__law_take : DSp) : DTS := qSeq (ga_R0 sp__law_names sp__law_take) (ga_T1 sp__law_names sp__law_take)
theorem gw_for5 (sp__law_names : DSp) (sp__law_take : DSp) : gw_R5 sp__law_names sp__law_take = qFor (qiRng1 (qCons (qOp (dAdd false) (qOp (dInt0 fun i j => i - j) (qVar 1) (qC (.int 1))) (qCall sp__law_take [] (qCons (qVar 0) (qCons (qOp (dAdd false) (qC (.int 1)) (qCB dMin2 (qCons (qC (.int 40)) (qCons (qVar 1) qNil)))) qNil)))) qNil)) (gNameD 6) (ga_T0 sp__law_names sp__law_take) := rfl
theorem ga_t0 (sp__law_names : DSp) (sp__law_take : DSp) {DW : DWt} {DE : DEnds} {p : Rho} {M : Mst} : ga_T0 sp__law_names sp__law_take DW DE p M = ga_R0 sp__law_names sp__law_take DW { DE with nx := ga_T1 sp__law_names sp__law_take DW DE } p M := rfl
theorem ga_t1 (sp__law_names : DSp) (sp__law_take : DSp) {DW : DWt} {DE : DEnds} {p : Rho} {M : Mst} : ga_T1 sp__law_names sp__law_take DW DE p M = ga_R1 sp__law_names sp__law_take DW { DE with nx := ga_T2 sp__law_names sp__law_take DW DE } p M := rfl
def gb_R0 (sp__law_names : DSp) (sp__law_take : DSp) : DTS := (qAsg (qOp (dMul false) (qCall sp__law_take [] (qCons (qVar 0) (qCons (qC (.int 61)) qNil))) (qCB dIntX (qCons (qOp (dEq false) (qCall sp__law_take [] (qCons (qVar 0) (qCons (qC (.int 4)) qNil))) (qC (.int 0))) qNil))) (gNameD 10))
def gb_R1 (sp__law_names : DSp) (sp__law_take : DSp) : DTS := (qDrop (qBM "list" mApp (qVar 9) (qCons (qTup (qCons (qOp dIx (qVar 2) (qVar 7)) (qCons (qOp dIx (qVar 2) (qVar 8)) (qCons (qOp (dAdd false) (qC (.int 1)) (qCall sp__law_take [] (qCons (qVar 0) (qCons (qVar 4) qNil)))) (qCons (qVar 10) qNil))))) qNil)))
def gb_T1 (sp__law_names : DSp) (sp__law_take : DSp) : DTS := gb_R1 sp__law_names sp__law_take
def gb_T0 (sp__law_names : DSp) (sp__law_take : DSp) : DTS := qSeq (gb_R0 sp__law_names sp__law_take) (gb_T1 sp__law_names sp__law_take)
theorem gw_for7 (sp__law_names : DSp) (sp__law_take : DSp) : gw_R7 sp__law_names sp__law_take = qFor (qiAny (qVar 5)) (gTupD 2 (gConsD (gNameD 7) (gConsD (gNameD 8) gNilD))) (gb_T0 sp__law_names sp__law_take) := rfl
theorem gb_t0 (sp__law_names : DSp) (sp__law_take : DSp) {DW : DWt} {DE : DEnds} {p : Rho} {M : Mst} : gb_T0 sp__law_names sp__law_take DW DE p M = gb_R0 sp__law_names sp__law_take DW { DE with nx := gb_T1 sp__law_names sp__law_take DW DE } p M := rfl
def gc_R0 (sp__law_names : DSp) (sp__law_take : DSp) : DTS := (qAsg (qOp dIx (qVar 2) (qCall sp__law_take [] (qCons (qVar 0) (qCons (qVar 1) qNil)))) (gNameD 12))
def gc_R1 (sp__law_names : DSp) (sp__law_take : DSp) : DTS := (qIfS (qTB (qOp (dIn true) (qVar 12) (qVar 11))) (qDrop (qBM "list" mApp (qVar 11) (qCons (qVar 12) qNil))) qNext)
def gc_T1 (sp__law_names : DSp) (sp__law_take : DSp) : DTS := gc_R1 sp__law_names sp__law_take
def gc_T0 (sp__law_names : DSp) (sp__law_take : DSp) : DTS := qSeq (gc_R0 sp__law_names sp__law_take) (gc_T1 sp__law_names sp__law_take)
theorem gw_for9 (sp__law_names : DSp) (sp__law_take : DSp) : gw_R9 sp__law_names sp__law_take = qFor (qiRng1 (qCons (qOp (dAdd false) (qC (.int 1)) (qCall sp__law_take [] (qCons (qVar 0) (qCons (qCB dMin2 (qCons (qC (.int 12)) (qCons (qVar 1) qNil))) qNil)))) qNil)) (gNameD 6) (gc_T0 sp__law_names sp__law_take) := rfl
theorem gc_t0 (sp__law_names : DSp) (sp__law_take : DSp) {DW : DWt} {DE : DEnds} {p : Rho} {M : Mst} : gc_T0 sp__law_names sp__law_take DW DE p M = gc_R0 sp__law_names sp__law_take DW { DE with nx := gc_T1 sp__law_names sp__law_take DW DE } p M := rfl
structure GrdOk (ps : List Pc_) (rs : List Rd_) (ss : List Str) : Prop where
  pn : 1 ≤ ps.length ∧ ps.length ≤ 40
  pd : (ps.map (·.1)).Nodup
  pm : ∀ p ∈ ps, nameS p.1 = true ∧ 1 ≤ p.2 ∧ p.2 ≤ 4
  rn : rs.length ≤ 79
  rp : ∀ r ∈ rs, r.1 ∈ ps.map (·.1) ∧ r.2.1 ∈ ps.map (·.1) ∧ r.1 ≠ r.2.1 ∧ 1 ≤ r.2.2.1 ∧ r.2.2.1 ≤ 60 ∧ 0 ≤ r.2.2.2 ∧ r.2.2.2 ≤ 60
  rd : rs.Pairwise fun a b => ¬ ((a.1 = b.1 ∧ a.2.1 = b.2.1) ∨ (a.1 = b.2.1 ∧ a.2.1 = b.1))
  sn : ss ≠ [] ∧ ss.length ≤ 12
  sd : ss.Nodup
  sm : ∀ s ∈ ss, s ∈ ps.map (·.1)
def spHGround : DSp := fun ds M Q _ => ∃ (b : Addr), ds = [.ref b] ∧ M b = some .bag ∧ ∀ ps rs ss, GrdOk ps rs ss → Q (grT ps rs ss) M
/-- a pair of places by numbers -/
abbrev Pr_ := Nat × Nat
def prD_ (x : Pr_) : D := .tup [.int (x.1 : Int), .int (x.2 : Int)]
theorem prs_prm (l : List Pr_) : prmL (l.map prD_) = true := by rw [prmL_all, List.all_map, List.all_eq_true]; intro x _; rfl
theorem any_pr (l : List Pr_) (x : Pr_) : ((l.map prD_).any fun e => deq e (prD_ x)) = decide (x ∈ l) := by
  have h : ∀ y : Pr_, deq (prD_ y) (prD_ x) = decide (y = x) := fun y => by
    have e := prm_deq (d := prD_ y) (e := prD_ x) rfl rfl
    by_cases z : y = x
    · subst z; rw [e.mpr rfl]; simp
    · rw [decide_eq_false z]
      cases w : deq (prD_ y) (prD_ x) with
      | false => rfl
      | true =>
        have := e.mp w
        simp only [prD_, D.tup.injEq, List.cons.injEq, D.int.injEq, and_true] at this
        exact absurd (Prod.ext (by omega) (by omega)) z
  induction l with
  | nil => rfl
  | cons y ys ih =>
    rw [List.map_cons, List.any_cons, ih, h, ← Bool.decide_or]
    apply decide_eq_decide.mpr
    simp [eq_comm]
theorem in_prs {l : List Pr_} {x : Pr_} {q : Addr} {M : Mst} {Q : DK} (h : M q = some (.lst (l.map prD_))) : dInD true (.tup [.int (x.1 : Int), .int (x.2 : Int)]) (.ref q) M Q = Q (.bl (!decide (x ∈ l))) M := by
  show dInD true (prD_ x) (.ref q) M Q = _
  unfold dInD
  rw [res_r h]
  have e : res M (prD_ x) = prD_ x := rfl
  simp only [e, any_pr, Bool.true_xor]
  have a1 : isData (prD_ x) = true := rfl
  have a2 : isData (.lst (l.map prD_)) = true := prm_data _ (prs_prm l)
  have a3 : dep (prD_ x) ≤ 64 := Nat.le_of_ble_eq_true rfl
  have a4 : dep (.lst (l.map prD_)) ≤ 64 := Nat.le_trans (dep_lst (n := 1) fun d hd => by obtain ⟨x, _, rfl⟩ := List.mem_map.mp hd; exact Nat.le_of_ble_eq_true rfl) (by decide)
  simp [a1, a2, a3, a4]
structure PrsOk (m : Nat) (l : List Pr_) : Prop where
  lt : ∀ x ∈ l, x.1 < m ∧ x.2 < m ∧ x.1 ≠ x.2
  pw : l.Pairwise fun a b => ¬ (a = b ∨ a = (b.2, b.1))
theorem PrsOk.nil {m : Nat} : PrsOk m [] := ⟨(fun _ h => nomatch h), List.Pairwise.nil⟩
theorem in_lsH {neg : Bool} {z : Str} {a : Addr} {zs : List Str} {M : Mst} {Q : DK} (h : M a = some (.lst (zs.map .str))) : dIn neg (.str z) (.ref a) M Q = Q (.bl (xor neg (decide (z ∈ zs)))) M := by
  rw [← in_strs (neg := neg) (z := z) (zs := zs) (M := M) (Q := Q)]
  unfold dIn dgetD
  simp only [DL.res, h]
theorem getD_mem {zs : List Str} {i : Nat} (h : i < zs.length) : zs.getD i Str.empty ∈ zs := by
  rw [List.getD_eq_getElem?_getD, List.getElem?_eq_getElem h]; exact List.getElem_mem h
theorem getD_inj {zs : List Str} (nd : zs.Nodup) {i j : Nat} (hi : i < zs.length) (hj : j < zs.length) (h : zs.getD i Str.empty = zs.getD j Str.empty) : i = j := by
  rw [List.getD_eq_getElem?_getD, List.getElem?_eq_getElem hi, List.getD_eq_getElem?_getD, List.getElem?_eq_getElem hj] at h
  simp only [Option.getD_some] at h
  rcases Nat.lt_trichotomy i j with c | c | c
  · exact absurd h ((List.pairwise_iff_getElem.mp nd) i j hi hj c)
  · exact c
  · exact absurd h.symm ((List.pairwise_iff_getElem.mp nd) j i hj hi c)
theorem places_of {zs : List Str} {os : List (Option D)} (h : All2 (fun d o => ∃ z k, d = D.str z ∧ o = some (pcD (z, k)) ∧ 1 ≤ k ∧ k ≤ 4) (zs.map .str) os) : ∃ ps : List Pc_, os.filterMap id = ps.map pcD ∧ ps.map (·.1) = zs ∧ ∀ p ∈ ps, 1 ≤ p.2 ∧ p.2 ≤ 4 := by
  induction zs generalizing os with
  | nil => cases h; exact ⟨[], rfl, rfl, fun _ h => nomatch h⟩
  | cons z zs ih =>
    rw [List.map_cons] at h
    cases h with
    | cons h1 h2 =>
      obtain ⟨ps, a, b, c⟩ := ih h2
      obtain ⟨z', k, e, rfl, k1, k2⟩ := h1
      cases e
      exact ⟨(z, k) :: ps, by simp [a], by simp [b], fun p hp => by
        rcases List.mem_cons.mp hp with rfl | hp
        · exact ⟨k1, k2⟩
        · exact c p hp⟩
theorem hground_ok (ds : List D) (M : Mst) (Q : DK) (Ed : DX → Mst → Prop) (h : upSp spHGround ds M Q Ed) : qHGround spHNames spTake (fun x _ M => Ed x M) (retE Q) (startD ["_law_bag_here", "_law_many", "_law_names_here", "_law_places", "_law_most", "_law_pairs", "_law_k", "_law_one", "_law_other_here", "_law_roads", "_law_slow", "_law_stations", "_law_place", "_law_name"] ds) M := by
  obtain ⟨Q0, E0, ⟨b, rfl, hb, k0⟩, kq, _⟩ := h
  have k : ∀ ps rs ss, GrdOk ps rs ss → ∀ M', Sub M M' → Q (grT ps rs ss) M' := fun ps rs ss hg M' s => kq _ _ _ s (k0 ps rs ss hg)
  clear kq k0
  rw [gw_cut, gw_t0]
  show gw_R0 _ _ _ _ [some (.ref b), none, none, none, none, none, none, none, none, none, none, none, none, none] M
  simp only [gw_R0, qSeq, qAsg, qTup, qCons, qNil, qOp, qUn, qC, qCall, qVar, qLst, newL_f, qIfS, qTB, qNext, qRet, qDrop, qFor, qCB, qAug, qSl, qPart, qNoPart, gNameD, gSub_eq, dInt_i, dInt0_i, dAdd_i, dCmpI_i, List.set_cons_zero, List.set_cons_succ, List.getElem?_cons_zero, List.getElem?_cons_succ, List.append_nil, z_l0, z_l1, z_l2, z_l3, z_l4, z_l5, z_l6, z_l7, z_l8, z_l9, z_l19, z_l24, z_l25, true_and]
  refine take_call hb (by decide) (by decide) fun r a b1 => pick_t a b1 fun d hd => ?_
  obtain ⟨m, m0, m1, rfl⟩ : ∃ m : Nat, 1 ≤ m ∧ m ≤ 40 ∧ d = .int (m : Int) := by
    simp only [List.mem_cons, List.not_mem_nil, or_false] at hd
    rcases hd with rfl | rfl | rfl | rfl | rfl | rfl
    · exact ⟨6, by decide, by decide, rfl⟩
    · exact ⟨3, by decide, by decide, rfl⟩
    · exact ⟨12, by decide, by decide, rfl⟩
    · exact ⟨1, by decide, by decide, rfl⟩
    · exact ⟨40, by decide, by decide, rfl⟩
    · exact ⟨8, by decide, by decide, rfl⟩
  show gw_T1 _ _ _ _ _ M
  rw [gw_t1]
  show gw_R1 _ _ _ _ _ M
  simp only [gw_R1, qSeq, qAsg, qTup, qCons, qNil, qOp, qUn, qC, qCall, qVar, qLst, newL_f, qIfS, qTB, qNext, qRet, qDrop, qFor, qCB, qAug, qSl, qPart, qNoPart, gNameD, gSub_eq, dInt_i, dInt0_i, dAdd_i, dCmpI_i, List.set_cons_zero, List.set_cons_succ, List.getElem?_cons_zero, List.getElem?_cons_succ, List.append_nil, z_l0, z_l1, z_l2, z_l3, z_l4, z_l5, z_l6, z_l7, z_l8, z_l9, z_l19, z_l24, z_l25, true_and]
  refine ⟨b, m, rfl, hb, by omega, fun zs lz nz hz => ?_⟩
  show gw_T2 _ _ _ _ _ M
  rw [gw_t2]
  show gw_R2 _ _ _ _ _ M
  simp only [gw_R2, qLc, qiAny, res_lst, qSeq, qAsg, qTup, qCons, qNil, qOp, qUn, qC, qCall, qVar, qLst, newL_f, qIfS, qTB, qNext, qRet, qDrop, qFor, qCB, qAug, qSl, qPart, qNoPart, gNameD, gSub_eq, dInt_i, dInt0_i, dAdd_i, dCmpI_i, List.set_cons_zero, List.set_cons_succ, List.getElem?_cons_zero, List.getElem?_cons_succ, List.append_nil, z_l0, z_l1, z_l2, z_l3, z_l4, z_l5, z_l6, z_l7, z_l8, z_l9, z_l19, z_l24, z_l25, true_and]
  intro c hc
  have hbc : ∀ acc, put M c (.lst acc) b = some .bag := fun acc => put_keep hb hc
  refine compL_rel hc (fun d o => ∃ z k, d = .str z ∧ o = some (pcD (z, k)) ∧ 1 ≤ k ∧ k ≤ 4) (fun _ => trivial) (zs.map .str) [] (by simp; omega) (fun d hd acc R hR => ?_) fun os hos => ?_
  · obtain ⟨z, hz1, rfl⟩ := List.mem_map.mp hd
    simp only [wipeD, qYes, if_true, qSeq, qAsg, qTup, qCons, qNil, qOp, qUn, qC, qCall, qVar, qLst, newL_f, qIfS, qTB, qNext, qRet, qDrop, qFor, qCB, qAug, qSl, qPart, qNoPart, gNameD, gSub_eq, dInt_i, dInt0_i, dAdd_i, dCmpI_i, List.set_cons_zero, List.set_cons_succ, List.getElem?_cons_zero, List.getElem?_cons_succ, List.append_nil, z_l0, z_l1, z_l2, z_l3, z_l4, z_l5, z_l6, z_l7, z_l8, z_l9, z_l19, z_l24, z_l25, true_and]
    refine take_call (hbc _) (by decide) (by decide) fun r1 a1 b1 => ?_
    simp only [dAdd_i]
    exact hR _ ⟨z, 1 + r1, rfl, rfl, by omega, by omega⟩
  obtain ⟨ps, e1, e2, e3⟩ := places_of hos
  simp only [Bool.false_eq_true, if_false, List.nil_append, e1]
  clear hbc hc e1 hos
  have lps : ps.length = m := by rw [← lz, ← e2, List.length_map]
  show gw_T3 _ _ _ _ _ M
  rw [gw_t3]
  show gw_R3 _ _ _ _ _ M
  simp only [gw_R3, qSeq, qAsg, qTup, qCons, qNil, qOp, qUn, qC, qCall, qVar, qLst, newL_f, qIfS, qTB, qNext, qRet, qDrop, qFor, qCB, qAug, qSl, qPart, qNoPart, gNameD, gSub_eq, dInt_i, dInt0_i, dAdd_i, dCmpI_i, List.set_cons_zero, List.set_cons_succ, List.getElem?_cons_zero, List.getElem?_cons_succ, List.append_nil, z_l0, z_l1, z_l2, z_l3, z_l4, z_l5, z_l6, z_l7, z_l8, z_l9, z_l19, z_l24, z_l25, true_and]
  refine take_call hb (by decide) (by decide) fun r a b1 => pick_t a b1 fun d hd => ?_
  obtain ⟨mo, mo0, mo1, rfl⟩ : ∃ mo : Int, 1 ≤ mo ∧ mo ≤ 60 ∧ d = .int mo := by
    simp only [List.mem_cons, List.not_mem_nil, or_false] at hd
    rcases hd with rfl | rfl | rfl
    · exact ⟨2, by decide, by decide, rfl⟩
    · exact ⟨5, by decide, by decide, rfl⟩
    · exact ⟨60, by decide, by decide, rfl⟩
  show gw_T4 _ _ _ _ _ M
  rw [gw_t4]
  show gw_R4 _ _ _ _ _ M
  simp only [gw_R4, newL_t, qSeq, qAsg, qTup, qCons, qNil, qOp, qUn, qC, qCall, qVar, qLst, newL_f, qIfS, qTB, qNext, qRet, qDrop, qFor, qCB, qAug, qSl, qPart, qNoPart, gNameD, gSub_eq, dInt_i, dInt0_i, dAdd_i, dCmpI_i, List.set_cons_zero, List.set_cons_succ, List.getElem?_cons_zero, List.getElem?_cons_succ, List.append_nil, z_l0, z_l1, z_l2, z_l3, z_l4, z_l5, z_l6, z_l7, z_l8, z_l9, z_l19, z_l24, z_l25, true_and]
  intro pl hpl
  have hb1 : ∀ o, put M pl o b = some .bag := fun o => put_keep hb hpl
  show gw_T5 _ _ _ _ _ _
  rw [gw_t5]
  show gw_R5 _ _ _ _ _ _
  rw [gw_for5]
  simp only [qFor, qiRng1, dMin2, res_int, qSeq, qAsg, qTup, qCons, qNil, qOp, qUn, qC, qCall, qVar, qLst, newL_f, qIfS, qTB, qNext, qRet, qDrop, qFor, qCB, qAug, qSl, qPart, qNoPart, gNameD, gSub_eq, dInt_i, dInt0_i, dAdd_i, dCmpI_i, List.set_cons_zero, List.set_cons_succ, List.getElem?_cons_zero, List.getElem?_cons_succ, List.append_nil, z_l0, z_l1, z_l2, z_l3, z_l4, z_l5, z_l6, z_l7, z_l8, z_l9, z_l19, z_l24, z_l25, true_and]
  refine take_call (hb1 _) (by split <;> omega) (by split <;> omega) fun r2 a2 b2 => ?_
  have hb2 : r2 ≤ 40 := by split at b2 <;> omega
  generalize hv : (m : Int) - 1 + r2 = v
  refine ⟨by omega, by omega, ?_⟩
  refine loopL_inv (n := v.toNat) (fun i p M' => ∃ (l : List Pr_) (x6 x7 x8 : Option D), p = [some (.ref b), some (.int (m : Int)), some (stL zs), some (.xtp (ps.map pcD)), some (.int mo), some (.ref pl), x6, x7, x8, none, none, none, none, none] ∧ M' = put M pl (.lst (l.map prD_)) ∧ PrsOk m l ∧ l.length ≤ i) (by rw [rangeD_len, hv]) (fun i d p M' R hd hI hR => ?_) (fun p M' hI => ?_) ⟨[], none, none, none, rfl, rfl, PrsOk.nil, Nat.le_refl _⟩
  · obtain ⟨l, x6, x7, x8, rfl, rfl, hl, hle⟩ := hI
    obtain ⟨hi, rfl⟩ := range_at hd
    refine ⟨trivial, ?_⟩
    simp only [gNameD, List.set_cons_zero, List.set_cons_succ]
    rw [ga_t0]
    show ga_R0 _ _ _ _ _ _
    simp only [ga_R0, qPar, qSeq, qAsg, qTup, qCons, qNil, qOp, qUn, qC, qCall, qVar, qLst, newL_f, qIfS, qTB, qNext, qRet, qDrop, qFor, qCB, qAug, qSl, qPart, qNoPart, gNameD, gSub_eq, dInt_i, dInt0_i, dAdd_i, dCmpI_i, List.set_cons_zero, List.set_cons_succ, List.getElem?_cons_zero, List.getElem?_cons_succ, List.append_nil, z_l0, z_l1, z_l2, z_l3, z_l4, z_l5, z_l6, z_l7, z_l8, z_l9, z_l19, z_l24, z_l25, true_and]
    refine ⟨by omega, by omega, ?_⟩
    have hm0 : (m : Int) ≠ 0 := by omega
    rw [show (i : Int) % m = ((i % m : Nat) : Int) from (Int.natCast_emod i m).symm, show ((i : Int) + 1) % m = (((i + 1) % m : Nat) : Int) from by rw [Int.natCast_emod]; rfl]
    have ot : (i + 1) % m < m := Nat.mod_lt _ (by omega)
    have on : i % m < m := Nat.mod_lt _ (by omega)
    generalize (i + 1) % m = o at ot
    show ga_T1 _ _ _ _ _ _
    rw [ga_t1]
    show ga_R1 _ _ _ _ _ _
    have tail : ∀ one : Nat, one < m → ga_T2 spHNames spTake (fun x _ M => Ed x M) { nx := R, rt := (retE Q).rt, bk := gw_T6 spHNames spTake (fun x _ M => Ed x M) (retE Q), ct := R } [some (.ref b), some (.int (m : Int)), some (stL zs), some (.xtp (ps.map pcD)), some (.int mo), some (.ref pl), some (.int (i : Int)), some (.int (one : Int)), some (.int (o : Int)), none, none, none, none, none] (put M pl (.lst (l.map prD_))) := fun one h1 => by
      have q1 : ∀ (x : Pr_) R, dInD true (.tup [.int (x.1 : Int), .int (x.2 : Int)]) (.ref pl) (put M pl (.lst (l.map prD_))) R = R (.bl (!decide (x ∈ l))) (put M pl (.lst (l.map prD_))) := fun x R => in_prs put_same
      have q2 := q1 (one, o)
      have q3 := q1 (o, one)
      simp only at q2 q3
      simp only [ga_T2, ga_R2, qAnd, q2, q3, z_ne_int, qSeq, qAsg, qTup, qCons, qNil, qOp, qUn, qC, qCall, qVar, qLst, newL_f, qIfS, qTB, qNext, qRet, qDrop, qFor, qCB, qAug, qSl, qPart, qNoPart, gNameD, gSub_eq, dInt_i, dInt0_i, dAdd_i, dCmpI_i, List.set_cons_zero, List.set_cons_succ, List.getElem?_cons_zero, List.getElem?_cons_succ, List.append_nil, z_l0, z_l1, z_l2, z_l3, z_l4, z_l5, z_l6, z_l7, z_l8, z_l9, z_l19, z_l24, z_l25, true_and]
      by_cases c1 : (one : Int) = o
      · rw [decide_eq_true c1]
        simp only [Bool.not_true, Bool.false_eq_true, if_false]
        exact hR _ _ ⟨l, _, _, _, rfl, rfl, hl, by omega⟩
      rw [decide_eq_false c1]
      simp only [Bool.not_false, if_true]
      by_cases c2 : (one, o) ∈ l
      · rw [decide_eq_true c2]
        simp only [Bool.not_true, Bool.false_eq_true, if_false]
        exact hR _ _ ⟨l, _, _, _, rfl, rfl, hl, by omega⟩
      rw [decide_eq_false c2]
      simp only [Bool.not_false, if_true]
      by_cases c3 : (o, one) ∈ l
      · rw [decide_eq_true c3]
        simp only [Bool.not_true, Bool.false_eq_true, if_false]
        exact hR _ _ ⟨l, _, _, _, rfl, rfl, hl, by omega⟩
      rw [decide_eq_false c3]
      simp only [Bool.not_false, if_true, qBM, mApp, put_same, put_put, res_r put_same, qSeq, qAsg, qTup, qCons, qNil, qOp, qUn, qC, qCall, qVar, qLst, newL_f, qIfS, qTB, qNext, qRet, qDrop, qFor, qCB, qAug, qSl, qPart, qNoPart, gNameD, gSub_eq, dInt_i, dInt0_i, dAdd_i, dCmpI_i, List.set_cons_zero, List.set_cons_succ, List.getElem?_cons_zero, List.getElem?_cons_succ, List.append_nil, z_l0, z_l1, z_l2, z_l3, z_l4, z_l5, z_l6, z_l7, z_l8, z_l9, z_l19, z_l24, z_l25, true_and]
      refine ⟨rfl, by simp; omega, hR _ _ ⟨l ++ [(one, o)], _, _, _, rfl, by simp [prD_], ⟨fun x hx => ?_, ?_⟩, by simp; omega⟩⟩
      · rcases List.mem_append.mp hx with h | h
        · exact hl.lt x h
        · rw [List.mem_singleton.mp h]; exact ⟨h1, ot, fun z => c1 (by simp at z; omega)⟩
      · rw [List.pairwise_append]
        refine ⟨hl.pw, List.pairwise_singleton .., fun a ha b hb => ?_⟩
        rw [List.mem_singleton.mp hb]
        rintro (rfl | rfl)
        · exact c2 ha
        · exact c3 ha
    simp only [ga_R1, qSeq, qAsg, qTup, qCons, qNil, qOp, qUn, qC, qCall, qVar, qLst, newL_f, qIfS, qTB, qNext, qRet, qDrop, qFor, qCB, qAug, qSl, qPart, qNoPart, gNameD, gSub_eq, dInt_i, dInt0_i, dAdd_i, dCmpI_i, List.set_cons_zero, List.set_cons_succ, List.getElem?_cons_zero, List.getElem?_cons_succ, List.append_nil, z_l0, z_l1, z_l2, z_l3, z_l4, z_l5, z_l6, z_l7, z_l8, z_l9, z_l19, z_l24, z_l25, true_and]
    refine take_call (hb1 _) (by decide) (by decide) fun r3 a3 b3 => ?_
    simp only [dCmpI_i]
    by_cases c : 0 < r3
    · rw [decide_eq_true c]
      simp only [if_true, qSeq, qAsg, qTup, qCons, qNil, qOp, qUn, qC, qCall, qVar, qLst, newL_f, qIfS, qTB, qNext, qRet, qDrop, qFor, qCB, qAug, qSl, qPart, qNoPart, gNameD, gSub_eq, dInt_i, dInt0_i, dAdd_i, dCmpI_i, List.set_cons_zero, List.set_cons_succ, List.getElem?_cons_zero, List.getElem?_cons_succ, List.append_nil, z_l0, z_l1, z_l2, z_l3, z_l4, z_l5, z_l6, z_l7, z_l8, z_l9, z_l19, z_l24, z_l25, true_and]
      refine take_call (hb1 _) (by omega) (by omega) fun r4 a4 b4 => ?_
      obtain ⟨q, rfl⟩ : ∃ q : Nat, r4 = q := ⟨r4.toNat, by omega⟩
      exact tail q (by omega)
    · rw [decide_eq_false c]
      exact tail _ on
  · obtain ⟨l, x6, x7, x8, rfl, rfl, hl, hle⟩ := hI
    refine ⟨trivial, ?_⟩
    show gw_T6 _ _ _ _ _ _
    rw [gw_t6]
    show gw_R6 _ _ _ _ _ _
    simp only [gw_R6, newL_t, qSeq, qAsg, qTup, qCons, qNil, qOp, qUn, qC, qCall, qVar, qLst, newL_f, qIfS, qTB, qNext, qRet, qDrop, qFor, qCB, qAug, qSl, qPart, qNoPart, gNameD, gSub_eq, dInt_i, dInt0_i, dAdd_i, dCmpI_i, List.set_cons_zero, List.set_cons_succ, List.getElem?_cons_zero, List.getElem?_cons_succ, List.append_nil, z_l0, z_l1, z_l2, z_l3, z_l4, z_l5, z_l6, z_l7, z_l8, z_l9, z_l19, z_l24, z_l25, true_and]
    intro rl hrl
    have nrl : pl ≠ rl := fun e => by rw [← e, put_same] at hrl; cases hrl
    have hrl0 : M rl = none := by rw [put_ne nrl.symm] at hrl; exact hrl
    have hb2 : ∀ o, put (put M pl (.lst (l.map prD_))) rl o b = some .bag := fun o => put_keep (hb1 _) hrl
    have hp2 : ∀ o, put (put M pl (.lst (l.map prD_))) rl o pl = some (.lst (l.map prD_)) := fun o => by rw [put_ne nrl, put_same]
    show gw_T7 _ _ _ _ _ _
    rw [gw_t7]
    show gw_R7 _ _ _ _ _ _
    rw [gw_for7]
    simp only [qFor, qiAny, qSeq, qAsg, qTup, qCons, qNil, qOp, qUn, qC, qCall, qVar, qLst, newL_f, qIfS, qTB, qNext, qRet, qDrop, qFor, qCB, qAug, qSl, qPart, qNoPart, gNameD, gSub_eq, dInt_i, dInt0_i, dAdd_i, dCmpI_i, List.set_cons_zero, List.set_cons_succ, List.getElem?_cons_zero, List.getElem?_cons_succ, List.append_nil, z_l0, z_l1, z_l2, z_l3, z_l4, z_l5, z_l6, z_l7, z_l8, z_l9, z_l19, z_l24, z_l25, true_and]
    rw [hp2]
    refine loopL_inv (n := l.length) (fun i p M' => ∃ (rs : List Rd_) (x7 x8 x10 : Option D), p = [some (.ref b), some (.int (m : Int)), some (stL zs), some (.xtp (ps.map pcD)), some (.int mo), some (.ref pl), x6, x7, x8, some (.ref rl), x10, none, none, none] ∧ M' = put (put M pl (.lst (l.map prD_))) rl (.lst (rs.map rdD)) ∧
      rs.map (fun r => (r.1, r.2.1)) = (l.take i).map (fun x => (zs.getD x.1 Str.empty, zs.getD x.2 Str.empty)) ∧ ∀ r ∈ rs, 1 ≤ r.2.2.1 ∧ r.2.2.1 ≤ 60 ∧ 0 ≤ r.2.2.2 ∧ r.2.2.2 ≤ 60) (by rw [List.length_map]) (fun i d p M' R hd hI hR => ?_) (fun p M' hI => ?_) ⟨[], x7, x8, none, rfl, rfl, rfl, fun _ h => nomatch h⟩
    · obtain ⟨rs, y7, y8, y10, rfl, rfl, hr1, hr2⟩ := hI
      rw [List.getElem?_map] at hd
      obtain ⟨x, hx, rfl⟩ := Option.map_eq_some_iff.mp hd
      have hi := (List.getElem?_eq_some_iff.mp hx).1
      have hlx := hl.lt x (List.mem_of_getElem? hx)
      have lrs : rs.length = i := by have := congrArg List.length hr1; simp [List.length_take] at this; omega
      refine ⟨hp2 _, ?_⟩
      show gTupD 2 _ (.tup [.int (x.1 : Int), .int (x.2 : Int)]) _ _ _ _
      simp only [gTupD, gConsD, gNilD, res_tup, List.length_cons, List.length_nil, true_and, gNameD, List.set_cons_zero, List.set_cons_succ]
      rw [gb_t0]
      show gb_R0 _ _ _ _ _ _
      simp only [gb_R0, qSeq, qAsg, qTup, qCons, qNil, qOp, qUn, qC, qCall, qVar, qLst, newL_f, qIfS, qTB, qNext, qRet, qDrop, qFor, qCB, qAug, qSl, qPart, qNoPart, gNameD, gSub_eq, dInt_i, dInt0_i, dAdd_i, dCmpI_i, List.set_cons_zero, List.set_cons_succ, List.getElem?_cons_zero, List.getElem?_cons_succ, List.append_nil, z_l0, z_l1, z_l2, z_l3, z_l4, z_l5, z_l6, z_l7, z_l8, z_l9, z_l19, z_l24, z_l25, true_and]
      refine take_call (hb2 _) (by decide) (by decide) fun s1 c1 c2 => ?_
      refine take_call (hb2 _) (by decide) (by decide) fun s2 c3 c4 => ?_
      simp only [z_eq_int, z_intX_b, dMul, res_int]
      generalize hw : s1 * (if decide (s2 = 0) = true then (1 : Int) else 0) = sl
      have hsl : 0 ≤ sl ∧ sl ≤ 60 := by rw [← hw]; split <;> omega
      refine ⟨.inl ⟨by omega, by omega⟩, ?_⟩
      simp only [gb_T1, gb_R1, qBM, qSeq, qAsg, qTup, qCons, qNil, qOp, qUn, qC, qCall, qVar, qLst, newL_f, qIfS, qTB, qNext, qRet, qDrop, qFor, qCB, qAug, qSl, qPart, qNoPart, gNameD, gSub_eq, dInt_i, dInt0_i, dAdd_i, dCmpI_i, List.set_cons_zero, List.set_cons_succ, List.getElem?_cons_zero, List.getElem?_cons_succ, List.append_nil, z_l0, z_l1, z_l2, z_l3, z_l4, z_l5, z_l6, z_l7, z_l8, z_l9, z_l19, z_l24, z_l25, true_and]
      refine ⟨by rw [res_r put_same]; rfl, ?_⟩
      have g1 : zs[x.1]? = some (zs.getD x.1 Str.empty) := by rw [List.getD_eq_getElem?_getD, List.getElem?_eq_getElem (by omega)]; rfl
      have g2 : zs[x.2]? = some (zs.getD x.2 Str.empty) := by rw [List.getD_eq_getElem?_getD, List.getElem?_eq_getElem (by omega)]; rfl
      rw [ix_strs g1, ix_strs g2]
      refine take_call (hb2 _) (by omega) (by omega) fun s3 c5 c6 => ?_
      simp only [dAdd_i, mApp, put_same, put_put]
      refine ⟨by simp; omega, hR _ _ ⟨rs ++ [(zs.getD x.1 Str.empty, zs.getD x.2 Str.empty, 1 + s3, sl)], _, _, _, rfl, by simp [rdD], by rw [List.map_append, hr1, List.take_add_one, hx]; simp, fun r hr => ?_⟩⟩
      rcases List.mem_append.mp hr with h | h
      · exact hr2 r h
      · rw [List.mem_singleton.mp h]; exact ⟨by show 1 ≤ 1 + s3; omega, by show 1 + s3 ≤ 60; omega, hsl⟩
    · obtain ⟨rs, y7, y8, y10, rfl, rfl, hr1, hr2⟩ := hI
      rw [List.take_length] at hr1
      have lrs : rs.length = l.length := by have := congrArg List.length hr1; simpa using this
      refine ⟨hp2 _, ?_⟩
      show gw_T8 _ _ _ _ _ _
      rw [gw_t8]
      show gw_R8 _ _ _ _ _ _
      simp only [gw_R8, newL_t, qSeq, qAsg, qTup, qCons, qNil, qOp, qUn, qC, qCall, qVar, qLst, newL_f, qIfS, qTB, qNext, qRet, qDrop, qFor, qCB, qAug, qSl, qPart, qNoPart, gNameD, gSub_eq, dInt_i, dInt0_i, dAdd_i, dCmpI_i, List.set_cons_zero, List.set_cons_succ, List.getElem?_cons_zero, List.getElem?_cons_succ, List.append_nil, z_l0, z_l1, z_l2, z_l3, z_l4, z_l5, z_l6, z_l7, z_l8, z_l9, z_l19, z_l24, z_l25, true_and]
      intro sl hsl
      have nsr : rl ≠ sl := fun e => by rw [← e, put_same] at hsl; cases hsl
      have hb3 : ∀ o, put (put (put M pl (.lst (l.map prD_))) rl (.lst (rs.map rdD))) sl o b = some .bag := fun o => put_keep (hb2 _) hsl
      have hr3 : ∀ o, put (put (put M pl (.lst (l.map prD_))) rl (.lst (rs.map rdD))) sl o rl = some (.lst (rs.map rdD)) := fun o => by rw [put_ne nsr, put_same]
      show gw_T9 _ _ _ _ _ _
      rw [gw_t9]
      show gw_R9 _ _ _ _ _ _
      rw [gw_for9]
      simp only [qFor, qiRng1, dMin2, res_int, qSeq, qAsg, qTup, qCons, qNil, qOp, qUn, qC, qCall, qVar, qLst, newL_f, qIfS, qTB, qNext, qRet, qDrop, qFor, qCB, qAug, qSl, qPart, qNoPart, gNameD, gSub_eq, dInt_i, dInt0_i, dAdd_i, dCmpI_i, List.set_cons_zero, List.set_cons_succ, List.getElem?_cons_zero, List.getElem?_cons_succ, List.append_nil, z_l0, z_l1, z_l2, z_l3, z_l4, z_l5, z_l6, z_l7, z_l8, z_l9, z_l19, z_l24, z_l25, true_and]
      refine take_call (hb3 _) (by split <;> omega) (by split <;> omega) fun r2 a2 b2 => ?_
      have hb2 : r2 ≤ 11 := by split at b2 <;> omega
      simp only [dAdd_i]
      refine ⟨by omega, by omega, ?_⟩
      refine loopL_inv (n := (1 + r2).toNat) (fun i p M' => ∃ (ss : List Str) (x6 x12 : Option D), p = [some (.ref b), some (.int (m : Int)), some (stL zs), some (.xtp (ps.map pcD)), some (.int mo), some (.ref pl), x6, y7, y8, some (.ref rl), y10, some (.ref sl), x12, none] ∧ M' = put (put (put M pl (.lst (l.map prD_))) rl (.lst (rs.map rdD))) sl (.lst (ss.map .str)) ∧ ss.Nodup ∧ (∀ z ∈ ss, z ∈ zs) ∧ ss.length ≤ i ∧ (0 < i → ss ≠ [])) (by rw [rangeD_len]) (fun i d p M' R hd hI hR => ?_) (fun p M' hI => ?_) ⟨[], x6, none, rfl, rfl, List.nodup_nil, (fun _ h => nomatch h), Nat.le_refl _, fun z => absurd z (Nat.lt_irrefl 0)⟩
      · obtain ⟨ss, z6, x12, rfl, rfl, hn, hm, hle, _⟩ := hI
        obtain ⟨hi, rfl⟩ := range_at hd
        refine ⟨trivial, ?_⟩
        simp only [gNameD, List.set_cons_zero, List.set_cons_succ]
        rw [gc_t0]
        show gc_R0 _ _ _ _ _ _
        simp only [gc_R0, qSeq, qAsg, qTup, qCons, qNil, qOp, qUn, qC, qCall, qVar, qLst, newL_f, qIfS, qTB, qNext, qRet, qDrop, qFor, qCB, qAug, qSl, qPart, qNoPart, gNameD, gSub_eq, dInt_i, dInt0_i, dAdd_i, dCmpI_i, List.set_cons_zero, List.set_cons_succ, List.getElem?_cons_zero, List.getElem?_cons_succ, List.append_nil, z_l0, z_l1, z_l2, z_l3, z_l4, z_l5, z_l6, z_l7, z_l8, z_l9, z_l19, z_l24, z_l25, true_and]
        refine take_call (hb3 _) (by omega) (by omega) fun s3 c5 c6 => ?_
        obtain ⟨q, rfl⟩ : ∃ q : Nat, s3 = q := ⟨s3.toNat, by omega⟩
        have hq : q < zs.length := by omega
        rw [ix_strs (List.getElem?_eq_getElem hq)]
        have e9 : ∀ R, dIn true (.str zs[q]) (.ref sl) (put (put (put M pl (.lst (l.map prD_))) rl (.lst (rs.map rdD))) sl (.lst (ss.map .str))) R = R (.bl (!decide (zs[q] ∈ ss))) (put (put (put M pl (.lst (l.map prD_))) rl (.lst (rs.map rdD))) sl (.lst (ss.map .str))) := fun R => by
          rw [in_lsH put_same, Bool.true_xor]
        simp only [gc_T1, gc_R1, e9, qSeq, qAsg, qTup, qCons, qNil, qOp, qUn, qC, qCall, qVar, qLst, newL_f, qIfS, qTB, qNext, qRet, qDrop, qFor, qCB, qAug, qSl, qPart, qNoPart, gNameD, gSub_eq, dInt_i, dInt0_i, dAdd_i, dCmpI_i, List.set_cons_zero, List.set_cons_succ, List.getElem?_cons_zero, List.getElem?_cons_succ, List.append_nil, z_l0, z_l1, z_l2, z_l3, z_l4, z_l5, z_l6, z_l7, z_l8, z_l9, z_l19, z_l24, z_l25, true_and]
        by_cases c : zs[q] ∈ ss
        · rw [decide_eq_true c]
          simp only [Bool.not_true, Bool.false_eq_true, if_false]
          exact hR _ _ ⟨ss, _, _, rfl, rfl, hn, hm, by omega, fun _ e => by rw [e] at c; cases c⟩
        · rw [decide_eq_false c]
          simp only [Bool.not_false, if_true, qBM, mApp, put_same, put_put, res_r put_same, qSeq, qAsg, qTup, qCons, qNil, qOp, qUn, qC, qCall, qVar, qLst, newL_f, qIfS, qTB, qNext, qRet, qDrop, qFor, qCB, qAug, qSl, qPart, qNoPart, gNameD, gSub_eq, dInt_i, dInt0_i, dAdd_i, dCmpI_i, List.set_cons_zero, List.set_cons_succ, List.getElem?_cons_zero, List.getElem?_cons_succ, List.append_nil, z_l0, z_l1, z_l2, z_l3, z_l4, z_l5, z_l6, z_l7, z_l8, z_l9, z_l19, z_l24, z_l25, true_and]
          refine ⟨rfl, by simp; omega, hR _ _ ⟨ss ++ [zs[q]], _, _, rfl, by simp, ?_, fun z hz => ?_, by simp; omega, fun _ => by simp⟩⟩
          · rw [List.nodup_append]
            exact ⟨hn, by simp, fun a ha b hb e => c (by rw [List.mem_singleton.mp hb] at e; rw [← e]; exact ha)⟩
          · rcases List.mem_append.mp hz with h | h
            · exact hm z h
            · rw [List.mem_singleton.mp h]; exact List.getElem_mem hq
      · obtain ⟨ss, z6, x12, rfl, rfl, hn, hm, hle, hne⟩ := hI
        refine ⟨trivial, ?_⟩
        have hr4 := hr3 (.lst (ss.map .str))
        have hs4 : put (put (put M pl (.lst (l.map prD_))) rl (.lst (rs.map rdD))) sl (.lst (ss.map .str)) sl = some (.lst (ss.map .str)) := put_same
        have sub : Sub M (put (put (put M pl (.lst (l.map prD_))) rl (.lst (rs.map rdD))) sl (.lst (ss.map .str))) := (((Sub.refl M).put hpl).put hrl0).put (by
          cases e : M sl with
          | none => rfl
          | some o => rw [((Sub.refl M).put (o := .lst (l.map prD_)) hpl |>.put (o := .lst (rs.map rdD)) hrl0) _ _ e] at hsl; cases hsl)
        generalize put (put (put M pl (.lst (l.map prD_))) rl (.lst (rs.map rdD))) sl (.lst (ss.map .str)) = M4 at hr4 hs4 sub
        simp only [gw_T10, gw_R10, dTupX, res_r hr4, res_r hs4, qSeq, qAsg, qTup, qCons, qNil, qOp, qUn, qC, qCall, qVar, qLst, newL_f, qIfS, qTB, qNext, qRet, qDrop, qFor, qCB, qAug, qSl, qPart, qNoPart, gNameD, gSub_eq, dInt_i, dInt0_i, dAdd_i, dCmpI_i, List.set_cons_zero, List.set_cons_succ, List.getElem?_cons_zero, List.getElem?_cons_succ, List.append_nil, z_l0, z_l1, z_l2, z_l3, z_l4, z_l5, z_l6, z_l7, z_l8, z_l9, z_l19, z_l24, z_l25, true_and]
        refine k ps rs ss ⟨⟨by omega, by omega⟩, by rw [e2]; exact nz, fun p hp => ⟨hz _ (by rw [← e2]; exact List.mem_map_of_mem hp), e3 p hp⟩, by omega, fun r hr => ?_, ?_, ⟨hne (by omega), by omega⟩, hn, by rw [e2]; exact hm⟩ M4 sub
        · have hm2 : (r.1, r.2.1) ∈ l.map (fun x => (zs.getD x.1 Str.empty, zs.getD x.2 Str.empty)) := by
            rw [← hr1]; exact List.mem_map_of_mem (f := fun r : Rd_ => (r.1, r.2.1)) hr
          obtain ⟨x, hx, e⟩ := List.mem_map.mp hm2
          obtain ⟨x1, x2, x3⟩ := hl.lt x hx
          have ea : zs.getD x.1 Str.empty = r.1 := congrArg Prod.fst e
          have eb : zs.getD x.2 Str.empty = r.2.1 := congrArg Prod.snd e
          refine ⟨by rw [e2, ← ea]; exact getD_mem (by omega), by rw [e2, ← eb]; exact getD_mem (by omega), fun z => x3 ?_, hr2 r hr⟩
          exact getD_inj nz (by omega) (by omega) (by rw [ea, eb]; exact z)
        · have h1 : (rs.map fun r => (r.1, r.2.1)).Pairwise fun a b => ¬ ((a.1 = b.1 ∧ a.2 = b.2) ∨ (a.1 = b.2 ∧ a.2 = b.1)) := by
            rw [hr1, List.pairwise_map]
            refine List.Pairwise.imp_of_mem (fun {a b} ha hb hn z => hn ?_) hl.pw
            obtain ⟨a1, a2, _⟩ := hl.lt a ha
            obtain ⟨b1, b2, _⟩ := hl.lt b hb
            rcases z with ⟨z1, z2⟩ | ⟨z1, z2⟩
            · exact .inl (Prod.ext (getD_inj nz (by omega) (by omega) z1) (getD_inj nz (by omega) (by omega) z2))
            · exact .inr (Prod.ext (getD_inj nz (by omega) (by omega) z1) (getD_inj nz (by omega) (by omega) z2))
          exact List.pairwise_map.mp h1
end DL
namespace DL
open PySem L2 Tx20 Tx21
end DL
namespace DL
open PySem L2 Tx20 Tx21
def qHLike (sp__law_like : DSp) : DTS :=
  (qSeq (qIfS (qOr (qTB (qOp (dEq true) (qCB dIsi (qCons (qVar 0) (qCons (qC (.ty "bool")) qNil))) (qCB dIsi (qCons (qVar 1) (qCons (qC (.ty "bool")) qNil))))) (qTB (qOp (dEq true) (qVar 0) (qVar 1))))
  (qRet (qC (.bl false)))
  qNext)
  (qSeq (qIfS (qTB (qCB dIsi (qCons (qVar 0) (qCons (qTup (qCons (qC (.ty "list")) (qCons (qC (.ty "tuple")) qNil))) qNil))))
  (qRet (qCB dAll (qCons (qLc false (qiZipB (qCons (qVar 0) (qCons (qVar 1) qNil))) (gTupD 2 (gConsD (gNameD 2) (gConsD (gNameD 3) gNilD))) qYes (qCall sp__law_like [] (qCons (qVar 2) (qCons (qVar 3) qNil))) [2, 3]) qNil)))
  qNext)
  (qRet (qC (.bl true)))))
mutual
/-- no tuple or list in it is long -/
def sml : D → Bool
  | .tup ds => decide (ds.length ≤ 1000) && smlL ds
  | .lst ds => decide (ds.length ≤ 1000) && smlL ds
  | _ => true
def smlL : List D → Bool
  | [] => true
  | d :: ds => sml d && smlL ds
end
theorem smlL_all : ∀ ds : List D, smlL ds = ds.all sml
  | [] => rfl
  | d :: ds => by simp [smlL, smlL_all ds]
theorem plainDL_all : ∀ ds : List D, plainDL ds = ds.all plainD
  | [] => rfl
  | d :: ds => by simp [plainDL, plainDL_all ds]
mutual
theorem plain_data : ∀ d : D, plainD d = true → isData d = true
  | .non, _ => rfl
  | .bl _, _ => rfl
  | .int _, _ => rfl
  | .str _, _ => rfl
  | .tup ds, h => plainL_data ds h
  | .lst ds, h => plainL_data ds h
  | .ktp _, h => by cases h
  | .xtp _, h => by cases h
  | .scr _, h => by cases h
  | .ty _, h => by cases h
  | .ref _, h => by cases h
  | .dct _ _, h => by cases h
  | .ins _ _ _, h => by cases h
  | .exc _ _ _ _, h => by cases h
  | .fnv _ _ _ _ _, h => by cases h
theorem plainL_data : ∀ ds : List D, plainDL ds = true → isDataL ds = true
  | [], _ => rfl
  | d :: ds, h => by
    have h' : plainD d = true ∧ plainDL ds = true := by simpa [plainDL] using h
    simp [isDataL, plain_data d h'.1, plainL_data ds h'.2]
end
theorem mem_zip_self {es : List D} {d : D} (h : d ∈ zipD es es) : ∃ e ∈ es, d = .tup [e, e] := by
  induction es with
  | nil => cases h
  | cons e es ih =>
    rw [show zipD (e :: es) (e :: es) = .tup [e, e] :: zipD es es from rfl] at h
    rcases List.mem_cons.mp h with rfl | h
    · exact ⟨e, List.mem_cons_self .., rfl⟩
    · obtain ⟨x, hx, e2⟩ := ih h
      exact ⟨x, List.mem_cons_of_mem _ hx, e2⟩
theorem zip_self_len (es : List D) : (zipD es es).length = es.length := by
  induction es with
  | nil => rfl
  | cons e es ih => rw [show zipD (e :: es) (e :: es) = .tup [e, e] :: zipD es es from rfl, List.length_cons, ih, List.length_cons]
theorem all_true (l : List D) {M : Mst} {Q : DK} : dAll [.lst (l.filterMap fun _ => some (D.bl true))] M Q = Q (.bl true) M := by
  have e : l.filterMap (fun _ => some (D.bl true)) = (l.map fun _ => true).map D.bl := by
    induction l with
    | nil => rfl
    | cons x l ih => rw [List.filterMap_cons, ih]; rfl
  rw [e, all_bls]
  have : (l.map fun _ => true).all id = true := by rw [List.all_eq_true]; intro x hx; obtain ⟨_, _, rfl⟩ := List.mem_map.mp hx; rfl
  rw [this]
/-- what _law_like is asked of one thing twice -/
structure LikeOk (n : Nat) (d : D) : Prop where
  p : plainD d = true
  s : sml d = true
  d : dep d < n
  n : n ≤ 60
def spLike (n : Nat) : DSp := fun ds M Q _ => ∃ d : D, ds = [d, d] ∧ LikeOk n d ∧ Q (.bl true) M
theorem like_ok (n : Nat) (p : DSp) (hp : ∀ d M Q E, LikeOk n d → Q (.bl true) M → p [d, d] M Q E) (ds : List D) (M : Mst) (Q : DK) (Ed : DX → Mst → Prop) (h : upSp (spLike (n + 1)) ds M Q Ed) : qHLike p (fun x _ M => Ed x M) (retE Q) (startD ["_law_told", "_law_due", "_law_one", "_law_other_here"] ds) M := by
  obtain ⟨Q0, E0, ⟨d, rfl, ⟨pd, sd, dd, n6⟩, k0⟩, kq, _⟩ := h
  have k := kq _ _ _ (Sub.refl _) k0
  clear kq k0
  show qHLike _ _ _ [some d, some d, none, none] M
  have eqs : ∀ R, res M d = d → dEq true d d M R = R (.bl false) M := fun R hr => by
    rw [eq_same hr hr (plain_data d pd) (by omega)]; rfl
  have deep : ∀ (Sty : Mst → Prop), (∀ M, Sty M) → ∀ es : List D, plainDL es = true → smlL es = true → es.length ≤ 1000 → (∀ e ∈ es, dep e < n) → ∀ a, M a = none → ∀ p0 : Rho, p0.length = 4 → ∀ R : DK, R (.lst ((zipD es es).filterMap fun _ => some (D.bl true))) M →
      compL false Sty (gTupD 2 (gConsD (gNameD 2) (gConsD (gNameD 3) gNilD))) qYes (qCall p [] (qCons (qVar 2) (qCons (qVar 3) qNil))) [2, 3] a p0 R (zipD es es) (put M a (.lst [])) := fun Sty hS es h1 h2 h3 h4 a ha p0 hl R hR => by
    refine compL_map ha (fun _ => some (D.bl true)) (fun _ => hS _) (by rw [zip_self_len]; omega) (fun d hd acc R2 hR2 => ?_) hR
    obtain ⟨e, he, rfl⟩ := mem_zip_self hd
    match p0, hl with
    | [y0, y1, y2, y3], _ =>
      simp only [wipeD, gTupD, gConsD, gNilD, res_tup, List.length_cons, List.length_nil, true_and, qYes, if_true, qSeq, qAsg, qTup, qCons, qNil, qOp, qUn, qC, qCall, qVar, qLst, newL_f, qIfS, qTB, qNext, qRet, qDrop, qFor, qCB, qAug, qSl, qPart, qNoPart, gNameD, gSub_eq, dInt_i, dInt0_i, dAdd_i, dCmpI_i, List.set_cons_zero, List.set_cons_succ, List.getElem?_cons_zero, List.getElem?_cons_succ, List.append_nil, z_l0, z_l1, z_l2, z_l3, z_l4, z_l5, z_l6, z_l7, z_l8, z_l9, z_l19, z_l24, z_l25, true_and]
      refine hp e _ _ _ ⟨?_, ?_, h4 e he, by omega⟩ hR2
      · rw [plainDL_all, List.all_eq_true] at h1; exact h1 e he
      · rw [smlL_all, List.all_eq_true] at h2; exact h2 e he
  have i1 : ∀ (x : D) (t : String) (M : Mst) (R : DK), hasTy (res M x) = true → tyD (res M x) = t → isiL t [.ty "list", .ty "tuple"] = some false → dIsi [x, .tup [.ty "list", .ty "tuple"]] M R = R (.bl false) M := fun x t M R h1 h2 h3 => isi_tup h1 (by rw [h2]; exact h3)
  have i2 : ∀ (x : D) (t : String) (M : Mst) (R : DK), hasTy (res M x) = true → tyD (res M x) = t → isiL t [.ty "list", .ty "tuple"] = some true → dIsi [x, .tup [.ty "list", .ty "tuple"]] M R = R (.bl true) M := fun x t M R h1 h2 h3 => isi_tup h1 (by rw [h2]; exact h3)
  cases d with
  | non =>
    simp only [qHLike, qOr, z_isi_non_bool, z_ne_bl, decide_true, Bool.not_true, Bool.false_eq_true, if_false, eqs _ rfl, i1 .non "NoneType" _ _ rfl rfl (by decide +kernel), qSeq, qAsg, qTup, qCons, qNil, qOp, qUn, qC, qCall, qVar, qLst, newL_f, qIfS, qTB, qNext, qRet, qDrop, qFor, qCB, qAug, qSl, qPart, qNoPart, gNameD, gSub_eq, dInt_i, dInt0_i, dAdd_i, dCmpI_i, List.set_cons_zero, List.set_cons_succ, List.getElem?_cons_zero, List.getElem?_cons_succ, List.append_nil, z_l0, z_l1, z_l2, z_l3, z_l4, z_l5, z_l6, z_l7, z_l8, z_l9, z_l19, z_l24, z_l25, true_and]
    exact k
  | bl b =>
    simp only [qHLike, qOr, z_isi_bl_bool, z_ne_bl, decide_true, Bool.not_true, Bool.false_eq_true, if_false, eqs _ rfl, i1 (.bl b) "bool" _ _ rfl rfl (by decide +kernel), qSeq, qAsg, qTup, qCons, qNil, qOp, qUn, qC, qCall, qVar, qLst, newL_f, qIfS, qTB, qNext, qRet, qDrop, qFor, qCB, qAug, qSl, qPart, qNoPart, gNameD, gSub_eq, dInt_i, dInt0_i, dAdd_i, dCmpI_i, List.set_cons_zero, List.set_cons_succ, List.getElem?_cons_zero, List.getElem?_cons_succ, List.append_nil, z_l0, z_l1, z_l2, z_l3, z_l4, z_l5, z_l6, z_l7, z_l8, z_l9, z_l19, z_l24, z_l25, true_and]
    exact k
  | int i =>
    simp only [qHLike, qOr, z_isi_int_bool, z_ne_bl, decide_true, Bool.not_true, Bool.false_eq_true, if_false, eqs _ rfl, i1 (.int i) "int" _ _ rfl rfl (by decide +kernel), qSeq, qAsg, qTup, qCons, qNil, qOp, qUn, qC, qCall, qVar, qLst, newL_f, qIfS, qTB, qNext, qRet, qDrop, qFor, qCB, qAug, qSl, qPart, qNoPart, gNameD, gSub_eq, dInt_i, dInt0_i, dAdd_i, dCmpI_i, List.set_cons_zero, List.set_cons_succ, List.getElem?_cons_zero, List.getElem?_cons_succ, List.append_nil, z_l0, z_l1, z_l2, z_l3, z_l4, z_l5, z_l6, z_l7, z_l8, z_l9, z_l19, z_l24, z_l25, true_and]
    exact k
  | str z =>
    simp only [qHLike, qOr, z_isi_str_bool, z_ne_bl, decide_true, Bool.not_true, Bool.false_eq_true, if_false, eqs _ rfl, i1 (.str z) "str" _ _ rfl rfl (by decide +kernel), qSeq, qAsg, qTup, qCons, qNil, qOp, qUn, qC, qCall, qVar, qLst, newL_f, qIfS, qTB, qNext, qRet, qDrop, qFor, qCB, qAug, qSl, qPart, qNoPart, gNameD, gSub_eq, dInt_i, dInt0_i, dAdd_i, dCmpI_i, List.set_cons_zero, List.set_cons_succ, List.getElem?_cons_zero, List.getElem?_cons_succ, List.append_nil, z_l0, z_l1, z_l2, z_l3, z_l4, z_l5, z_l6, z_l7, z_l8, z_l9, z_l19, z_l24, z_l25, true_and]
    exact k
  | tup es =>
    have s2 : es.length ≤ 1000 ∧ smlL es = true := by simpa [sml] using sd
    simp only [qHLike, qOr, z_isi_tup_bool, z_ne_bl, decide_true, Bool.not_true, Bool.false_eq_true, if_false, eqs _ res_tup, i2 (.tup es) "tuple" _ _ rfl rfl (by decide +kernel), if_true, qLc, qiZipB, qSeq, qAsg, qTup, qCons, qNil, qOp, qUn, qC, qCall, qVar, qLst, newL_f, qIfS, qTB, qNext, qRet, qDrop, qFor, qCB, qAug, qSl, qPart, qNoPart, gNameD, gSub_eq, dInt_i, dInt0_i, dAdd_i, dCmpI_i, List.set_cons_zero, List.set_cons_succ, List.getElem?_cons_zero, List.getElem?_cons_succ, List.append_nil, z_l0, z_l1, z_l2, z_l3, z_l4, z_l5, z_l6, z_l7, z_l8, z_l9, z_l19, z_l24, z_l25, true_and]
    refine .inr ?_
    show ∀ a, M a = none → _
    intro a ha
    refine deep always (fun _ => trivial) es pd s2.2 s2.1 (fun e he => by have := dep_in_tup he; omega) a ha _ rfl _ ?_
    rw [all_true]; exact k
  | lst es =>
    have s2 : es.length ≤ 1000 ∧ smlL es = true := by simpa [sml] using sd
    simp only [qHLike, qOr, z_isi_lst_bool, z_ne_bl, decide_true, Bool.not_true, Bool.false_eq_true, if_false, eqs _ res_lst, i2 (.lst es) "list" _ _ rfl rfl (by decide +kernel), if_true, qLc, qiZipB, qSeq, qAsg, qTup, qCons, qNil, qOp, qUn, qC, qCall, qVar, qLst, newL_f, qIfS, qTB, qNext, qRet, qDrop, qFor, qCB, qAug, qSl, qPart, qNoPart, gNameD, gSub_eq, dInt_i, dInt0_i, dAdd_i, dCmpI_i, List.set_cons_zero, List.set_cons_succ, List.getElem?_cons_zero, List.getElem?_cons_succ, List.append_nil, z_l0, z_l1, z_l2, z_l3, z_l4, z_l5, z_l6, z_l7, z_l8, z_l9, z_l19, z_l24, z_l25, true_and]
    refine .inl ?_
    show ∀ a, M a = none → _
    intro a ha
    refine deep _ (fun _ => ⟨trivial, trivial⟩) es pd s2.2 s2.1 (fun e he => by have := dep_in_lst he; omega) a ha _ rfl _ ?_
    rw [all_true]; exact k
  | _ => cases pd
end DL
namespace DL
open PySem L2 Tx20 Tx21
def qIsRoad (sp_is_one_of : DSp) (sp_is_tuple_of : DSp) (sp_is_whole : DSp) : DTS :=
  (qSeq (qIfS (qOr (qNot (qTB (qCall sp_is_tuple_of [] (qCons (qVar 1) (qCons (qC (.int 4)) qNil))))) (qOr (qNot (qTB (qCall sp_is_one_of [] (qCons (qOp dIx (qVar 1) (qC (.int 0))) (qCons (qVar 0) qNil))))) (qNot (qTB (qCall sp_is_one_of [] (qCons (qOp dIx (qVar 1) (qC (.int 1))) (qCons (qVar 0) qNil)))))))
  (qRet (qC (.bl false)))
  qNext)
  (qRet (qAndV (qOp (dEq true) (qOp dIx (qVar 1) (qC (.int 0))) (qOp dIx (qVar 1) (qC (.int 1)))) (qAndV (qCall sp_is_whole [] (qCons (qOp dIx (qVar 1) (qC (.int 2))) (qCons (qC (.int 1)) (qCons (qC (.int 60)) qNil)))) (qCall sp_is_whole [] (qCons (qOp dIx (qVar 1) (qC (.int 3))) (qCons (qC (.int 0)) (qCons (qC (.int 60)) qNil))))))))
def qRoadsF (sp_is_road : DSp) : DTS :=
  (qSeq (qIfS (qOr (qNot (qTB (qCB dIsi (qCons (qVar 1) (qCons (qC (.ty "tuple")) qNil))))) (qTB (qOp (dCmpI fun i j => decide (j < i)) (qCB dLen (qCons (qVar 1) qNil)) (qC (.int 80)))))
  (qRet (qUn dNeg (qC (.int 1))))
  qNext)
  (qSeq (qAsg qDNewT (gNameD 2))
  (qSeq (qFor (qiEnum0 (qCons (qVar 1) qNil)) (gTupD 2 (gConsD (gNameD 3) (gConsD (gNameD 4) gNilD)))
  (qSeq (qIfS (qOr (qNot (qTB (qCall sp_is_road [] (qCons (qVar 0) (qCons (qVar 4) qNil))))) (qTB (qOp (dIn false) (qCB dTuple (qCons (qCB (dSortU false) (qCons (qSl false (qVar 4) qNoPart (qPart (qC (.int 2)))) qNil)) qNil)) (qVar 2))))
  (qRet (qVar 3))
  qNext)
  (qAsg (qC (.bl true)) (gSubD (qVar 2) (qCB dTuple (qCons (qCB (dSortU false) (qCons (qSl false (qVar 4) qNoPart (qPart (qC (.int 2)))) qNil)) qNil))))))
  (qRet (qC .non)))))
/-- a right row of roads -/
structure RdOk (zs : List Str) (r : Rd_) : Prop where
  m1 : r.1 ∈ zs
  m2 : r.2.1 ∈ zs
  ne : r.1 ≠ r.2.1
  a0 : 1 ≤ r.2.2.1
  a1 : r.2.2.1 ≤ 60
  b0 : 0 ≤ r.2.2.2
  b1 : r.2.2.2 ≤ 60
  t1 : Tx_ 8 r.1
  t2 : Tx_ 8 r.2.1
theorem RdOk.pl {zs : List Str} {r : Rd_} (h : RdOk zs r) : Pl 80 (rdD r) := .tup (by simp) fun e he => by
  simp only [List.mem_cons, List.not_mem_nil, or_false] at he
  rcases he with rfl | rfl | rfl | rfl
  · exact .str (h.t1.mono (by decide))
  · exact .str (h.t2.mono (by decide))
  · exact .int _
  · exact .int _
def spIsRoad : DSp := fun ds M Q _ => ∃ (t : D) (zs : List Str) (r : Rd_), ds = [t, rdD r] ∧ TextsD M zs t ∧ RdOk zs r ∧ Q (.bl true) M
theorem isroad_ok (ds : List D) (M : Mst) (Q : DK) (Ed : DX → Mst → Prop) (h : upSp spIsRoad ds M Q Ed) : qIsRoad spIsOne spIsTuple spIsWhole (fun x _ M => Ed x M) (retE Q) (startD ["names", "thing"] ds) M := by
  obtain ⟨Q0, E0, ⟨t, zs, r, rfl, ht, hr, k0⟩, kq, _⟩ := h
  have k : Q (.bl true) M := kq _ _ _ (Sub.refl _) k0
  have hp := hr.pl
  obtain ⟨x, y, i, j⟩ := r
  obtain ⟨m1, m2, ne, a0, a1, b0, b1, t1, t2⟩ := hr
  dsimp only at m1 m2 ne a0 a1 b0 b1 t1 t2
  show qIsRoad _ _ _ _ _ [some t, some (rdD (x, y, i, j))] M
  simp only [qIsRoad, qOr, qNot, qAndV, qSeq, qAsg, qTup, qCons, qNil, qOp, qUn, qC, qCall, qVar, qLst, newL_f, qIfS, qTB, qNext, qRet, qDrop, qFor, qCB, qAug, qSl, qPart, qNoPart, gNameD, gSub_eq, dInt_i, dInt0_i, dAdd_i, dCmpI_i, List.set_cons_zero, List.set_cons_succ, List.getElem?_cons_zero, List.getElem?_cons_succ, List.append_nil, z_l0, z_l1, z_l2, z_l3, z_l4, z_l5, z_l6, z_l7, z_l8, z_l9, z_l19, z_l24, z_l25, true_and]
  refine ⟨80, _, 4, rfl, hp, ?_⟩
  simp only [rdD, longD, List.length_cons, List.length_nil, Nat.reduceAdd, z_ix_t0, z_ix_t1, z_ix_t2, z_ix_t3, z_ix_l0, z_ix_l1, z_ix_l2, z_eq_int, z_ne_int, z_eq_str, z_ne_str, z_neg, z_add_tup, z_len_tup, Bool.not_true, Bool.not_false, Bool.false_eq_true, if_false, if_true, decide_true, decide_false, if_false]
  refine ⟨8, _, _, zs, rfl, .str t1, ht, ?_⟩
  simp only [oneD, m1, decide_true, Bool.not_true, Bool.false_eq_true, if_false]
  refine ⟨8, _, _, zs, rfl, .str t2, ht, ?_⟩
  simp only [oneD, m2, decide_true, Bool.not_true, Bool.false_eq_true, if_false, qSeq, qAsg, qTup, qCons, qNil, qOp, qUn, qC, qCall, qVar, qLst, newL_f, qIfS, qTB, qNext, qRet, qDrop, qFor, qCB, qAug, qSl, qPart, qNoPart, gNameD, gSub_eq, dInt_i, dInt0_i, dAdd_i, dCmpI_i, List.set_cons_zero, List.set_cons_succ, List.getElem?_cons_zero, List.getElem?_cons_succ, List.append_nil, z_l0, z_l1, z_l2, z_l3, z_l4, z_l5, z_l6, z_l7, z_l8, z_l9, z_l19, z_l24, z_l25, true_and, z_ix_t0, z_ix_t1, z_ix_t2, z_ix_t3, z_ix_l0, z_ix_l1, z_ix_l2, z_eq_int, z_ne_int, z_eq_str, z_ne_str, z_neg, z_add_tup, z_len_tup, Bool.not_true, Bool.not_false, Bool.false_eq_true, if_false, if_true, decide_true, decide_false, ne, Bool.not_false, if_true]
  refine ⟨8, _, 1, 60, rfl, .int _, ?_⟩
  simp only [wholeD, a0, a1, decide_true, Bool.and_self, if_true, z_ix_t0, z_ix_t1, z_ix_t2, z_ix_t3, z_ix_l0, z_ix_l1, z_ix_l2, z_eq_int, z_ne_int, z_eq_str, z_ne_str, z_neg, z_add_tup, z_len_tup, Bool.not_true, Bool.not_false, Bool.false_eq_true, if_false, if_true, decide_true, decide_false]
  refine ⟨8, _, 0, 60, rfl, .int _, ?_⟩
  simp only [wholeD, b0, b1, decide_true, Bool.and_self, if_true]
  exact k
/-- x is a tuple of these -/
def Tpl (es : List D) (x : D) : Prop := x = .xtp es ∨ x = .tup es
theorem Tpl.seq {es : List D} {x : D} (h : Tpl es x) : seqD x = some es := by rcases h with rfl | rfl <;> rfl
theorem Tpl.th {n : Nat} {es : List D} {x : D} (h : Tpl es x) (hl : es.length ≤ n) (hp : ∀ d ∈ es, Pl n d) : Th n x := by
  rcases h with rfl | rfl
  · exact .xt hl hp
  · exact .pl (.tup hl hp)
/-- two roads between the same places -/
def SameRd (a b : Rd_) : Prop := (a.1 = b.1 ∧ a.2.1 = b.2.1) ∨ (a.1 = b.2.1 ∧ a.2.1 = b.1)
theorem same_of_perm {x y x' y' : Str} (h : [x, y].Perm [x', y']) : (x = x' ∧ y = y') ∨ (x = y' ∧ y = x') := by
  have h1 : x ∈ [x', y'] := h.mem_iff.mp (List.mem_cons_self ..)
  simp only [List.mem_cons, List.not_mem_nil, or_false] at h1
  rcases h1 with rfl | rfl
  · left
    have := (List.perm_cons _).mp h
    exact ⟨rfl, by simpa using this.eq_singleton⟩
  · right
    have h2 : [x, y].Perm [x, x'] := h.trans (List.Perm.swap ..)
    have := (List.perm_cons _).mp h2
    exact ⟨rfl, by simpa using this.eq_singleton⟩
def spRoadsF : DSp := fun ds M Q _ => ∃ (t x : D) (zs : List Str) (rs : List Rd_), ds = [t, x] ∧ (∀ M, TextsD M zs t) ∧ Tpl (rs.map rdD) x ∧ rs.length ≤ 80 ∧ (∀ r ∈ rs, RdOk zs r) ∧ (rs.Pairwise fun a b => ¬ SameRd a b) ∧ Q .non M
theorem keysD_strs : ∀ ys : List Str, keysD (ys.map D.str) = some (ys.map Sum.inr)
  | [] => rfl
  | y :: ys => by simp only [List.map_cons, keysD, keyD, keysD_strs ys]
theorem val_none {kvs : List (List Key × D)} {k : List Key} (h : ∀ q ∈ kvs, q.1 ≠ k) : valD kvs k = none := by
  unfold valD
  rw [List.find?_eq_none.mpr fun q hq => by simp [h q hq]]; rfl
theorem put_none {kvs : List (List Key × D)} {k : List Key} {v : D} (h : ∀ q ∈ kvs, q.1 ≠ k) : putD kvs k v = kvs ++ [(k, v)] := by
  unfold putD
  rw [if_neg]
  simp only [List.any_eq_true, decide_eq_true_eq, not_exists, not_and]
  exact fun q hq => h q hq
/-- the keys are those of earlier roads -/
def KeyOf (rs : List Rd_) (k : List Key) : Prop := ∃ r ∈ rs, ∃ ys : List Str, k = ys.map Sum.inr ∧ ys.Perm [r.1, r.2.1]
theorem keyOf_ne {rs : List Rd_} {r : Rd_} {k : List Key} {ys : List Str} (h : KeyOf rs k) (hn : ∀ a ∈ rs, ¬ SameRd a r) (hy : ys.Perm [r.1, r.2.1]) : k ≠ ys.map Sum.inr := by
  obtain ⟨a, ha, zs, rfl, hz⟩ := h
  intro e
  have e1 : zs = ys := (List.map_inj_right (fun _ _ h => Sum.inr.inj h)).mp e
  subst e1
  exact hn a ha (same_of_perm (hz.symm.trans hy))
theorem roadsf_ok (ds : List D) (M : Mst) (Q : DK) (Ed : DX → Mst → Prop) (h : upSp spRoadsF ds M Q Ed) : qRoadsF spIsRoad (fun x _ M => Ed x M) (retE Q) (startD ["names", "thing", "seen", "at", "one"] ds) M := by
  obtain ⟨Q0, E0, ⟨t, x, zs, rs, rfl, ht, hx, hn, hr, hd, k0⟩, kq, _⟩ := h
  have k : ∀ M', Sub M M' → Q .non M' := fun M' S => kq _ _ _ S k0
  have hs := hx.seq
  have th : Th 80 x := hx.th (by rw [List.length_map]; exact hn) fun d hd => by
    obtain ⟨r, h1, rfl⟩ := List.mem_map.mp hd
    exact (hr r h1).pl
  show qRoadsF _ _ _ [some t, some x, none, none, none] M
  simp only [qRoadsF, qOr, qNot, qSeq, qAsg, qTup, qCons, qNil, qOp, qUn, qC, qCall, qVar, qLst, newL_f, qIfS, qTB, qNext, qRet, qDrop, qFor, qCB, qAug, qSl, qPart, qNoPart, gNameD, gSub_eq, dInt_i, dInt0_i, dAdd_i, dCmpI_i, List.set_cons_zero, List.set_cons_succ, List.getElem?_cons_zero, List.getElem?_cons_succ, List.append_nil, z_l0, z_l1, z_l2, z_l3, z_l4, z_l5, z_l6, z_l7, z_l8, z_l9, z_l19, z_l24, z_l25, true_and]
  rw [th_isi th, hs]
  simp only [Option.isSome_some, Bool.not_true, Bool.false_eq_true, if_false, seq_len hs, List.length_map]
  refine (chain_gt (hi := 80)).mpr ?_
  simp only [show decide (80 < rs.length) = false from decide_eq_false (by omega), Bool.false_eq_true, if_false, qSeq, qAsg, qTup, qCons, qNil, qOp, qUn, qC, qCall, qVar, qLst, newL_f, qIfS, qTB, qNext, qRet, qDrop, qFor, qCB, qAug, qSl, qPart, qNoPart, gNameD, gSub_eq, dInt_i, dInt0_i, dAdd_i, dCmpI_i, List.set_cons_zero, List.set_cons_succ, List.getElem?_cons_zero, List.getElem?_cons_succ, List.append_nil, z_l0, z_l1, z_l2, z_l3, z_l4, z_l5, z_l6, z_l7, z_l8, z_l9, z_l19, z_l24, z_l25, true_and]
  intro a ha
  simp only [qiEnum0, qSeq, qAsg, qTup, qCons, qNil, qOp, qUn, qC, qCall, qVar, qLst, newL_f, qIfS, qTB, qNext, qRet, qDrop, qFor, qCB, qAug, qSl, qPart, qNoPart, gNameD, gSub_eq, dInt_i, dInt0_i, dAdd_i, dCmpI_i, List.set_cons_zero, List.set_cons_succ, List.getElem?_cons_zero, List.getElem?_cons_succ, List.append_nil, z_l0, z_l1, z_l2, z_l3, z_l4, z_l5, z_l6, z_l7, z_l8, z_l9, z_l19, z_l24, z_l25, true_and, seq_at hs]
  refine loopL_inv (fun i p M' => ∃ (kvs : List (List Key × D)) (p3 p4 : Option D), p = [some t, some x, some (.ref a), p3, p4] ∧ M' = put M a (.dT kvs) ∧ kvs.length ≤ i ∧ (∀ q ∈ kvs, KeyOf (rs.take i) q.1)) (n := rs.length) (by simp) (fun i d p M' R hd' hI hR => ?_) (fun p M' hI => ?_)
    ⟨[], none, none, rfl, rfl, Nat.le_refl _, fun q hq => nomatch hq⟩
  · obtain ⟨kvs, p3, p4, rfl, rfl, hl, hk⟩ := hI
    obtain ⟨e, he, rfl⟩ := enum_tup hd'
    rw [List.getElem?_map] at he
    obtain ⟨r, h1, rfl⟩ := Option.map_eq_some_iff.mp he
    have hi : i < rs.length := (List.getElem?_eq_some_iff.mp h1).1
    have hnr : ∀ q ∈ rs.take i, ¬ SameRd q r := fun q hq => by
      obtain ⟨j, hj, rfl⟩ := List.getElem_of_mem hq
      rw [List.length_take] at hj
      rw [List.getElem_take]
      have h2 := (List.getElem?_eq_some_iff.mp h1).2
      rw [← h2]
      exact List.pairwise_iff_getElem.mp hd _ _ _ _ (by omega)
    refine ⟨trivial, ?_⟩
    simp only [gTupD, gConsD, gNilD, qSeq, qAsg, qTup, qCons, qNil, qOp, qUn, qC, qCall, qVar, qLst, newL_f, qIfS, qTB, qNext, qRet, qDrop, qFor, qCB, qAug, qSl, qPart, qNoPart, gNameD, gSub_eq, dInt_i, dInt0_i, dAdd_i, dCmpI_i, List.set_cons_zero, List.set_cons_succ, List.getElem?_cons_zero, List.getElem?_cons_succ, List.append_nil, z_l0, z_l1, z_l2, z_l3, z_l4, z_l5, z_l6, z_l7, z_l8, z_l9, z_l19, z_l24, z_l25, true_and]
    refine ⟨rfl, rfl, ?_⟩
    refine ⟨t, zs, r, rfl, ht _, hr r (List.mem_of_getElem? h1), ?_⟩
    have ec : cutX [D.str r.1, .str r.2.1, .int r.2.2.1, .int r.2.2.2] none (some (2 : Int)) = [D.str r.1, .str r.2.1] := cut_to _ 2
    have et : txL [D.str r.1, .str r.2.1] = some [r.1, r.2.1] := rfl
    simp only [Bool.not_true, Bool.false_eq_true, if_false, rdD, dSl, ec, dSortU, res_tup, et, newL_f, qSeq, qAsg, qTup, qCons, qNil, qOp, qUn, qC, qCall, qVar, qLst, newL_f, qIfS, qTB, qNext, qRet, qDrop, qFor, qCB, qAug, qSl, qPart, qNoPart, gNameD, gSub_eq, dInt_i, dInt0_i, dAdd_i, dCmpI_i, List.set_cons_zero, List.set_cons_succ, List.getElem?_cons_zero, List.getElem?_cons_succ, List.append_nil, z_l0, z_l1, z_l2, z_l3, z_l4, z_l5, z_l6, z_l7, z_l8, z_l9, z_l19, z_l24, z_l25, true_and]
    intro ys hp hw
    have e1 : ∀ q ∈ kvs, q.1 ≠ ys.map Sum.inr := fun q hq => keyOf_ne (hk q hq) hnr hp
    simp only [dTuple, res, dIn, dgetD, put_same, keysD_strs, Option.map_some, val_none e1, Option.isSome_none, Bool.false_xor, Bool.false_eq_true, if_false, qSeq, qAsg, qTup, qCons, qNil, qOp, qUn, qC, qCall, qVar, qLst, newL_f, qIfS, qTB, qNext, qRet, qDrop, qFor, qCB, qAug, qSl, qPart, qNoPart, gNameD, gSub_eq, dInt_i, dInt0_i, dAdd_i, dCmpI_i, List.set_cons_zero, List.set_cons_succ, List.getElem?_cons_zero, List.getElem?_cons_succ, List.append_nil, z_l0, z_l1, z_l2, z_l3, z_l4, z_l5, z_l6, z_l7, z_l8, z_l9, z_l19, z_l24, z_l25, true_and]
    intro zs' hp' hw'
    have e2 : ∀ q ∈ kvs, q.1 ≠ zs'.map Sum.inr := fun q hq => keyOf_ne (hk q hq) hnr hp'
    simp only [dTuple, res, dSet, put_same, keysD_strs, put_none e2, put_put]
    refine ⟨by omega, hR _ _ ⟨_, _, _, rfl, rfl, by simp; omega, fun q hq => ?_⟩⟩
    rcases List.mem_append.mp hq with hq | hq
    · obtain ⟨b, hb, ws, h3, h4⟩ := hk q hq
      exact ⟨b, by rw [List.take_add_one]; exact List.mem_append_left _ hb, ws, h3, h4⟩
    · rw [List.mem_singleton] at hq
      subst hq
      exact ⟨r, by rw [List.take_add_one, h1]; simp, zs', rfl, hp'⟩
  · obtain ⟨kvs, p3, p4, rfl, rfl, hl, hk⟩ := hI
    exact ⟨trivial, k _ ((Sub.refl M).put ha)⟩
/-- a right ground -/
structure GOk (ps : List Row_) (rs : List Rd_) (ss : List Str) : Prop where
  gr : GrOk ps ss
  rn : rs.length ≤ 80
  rp : ∀ r ∈ rs, RdOk (ps.map (·.1)) r
  rd : rs.Pairwise fun a b => ¬ SameRd a b
theorem GrdOk.gok {ps : List Pc_} {rs : List Rd_} {ss : List Str} (h : GrdOk ps rs ss) : GOk ps rs ss where
  gr := ⟨fun r hr => ⟨(h.pm r hr).1, (h.pm r hr).2.1, (h.pm r hr).2.2⟩, h.pd, h.pn.1, h.pn.2, h.sm, h.sd, h.sn.2⟩
  rn := Nat.le_trans h.rn (by decide)
  rp := fun r hr => by
    obtain ⟨h1, h2, h3, h4, h5, h6, h7⟩ := h.rp r hr
    obtain ⟨p, hp, e1⟩ := List.mem_map.mp h1
    obtain ⟨q, hq, e2⟩ := List.mem_map.mp h2
    exact ⟨h1, h2, h3, h4, h5, h6, h7, by rw [← e1]; exact nameS_tx (h.pm p hp).1, by rw [← e2]; exact nameS_tx (h.pm q hq).1⟩
  rd := h.rd
theorem GOk.none {ps : List Row_} {rs : List Rd_} {ss : List Str} (h : GOk ps rs ss) : GOk ps [] ss := ⟨h.gr, Nat.zero_le _, (fun _ h => nomatch h), List.Pairwise.nil⟩
def gndF (ps : List Row_) (r : D) (ss : List Str) : List D := [risksD ps, .xtp (ps.map plD), r, .xtp (ss.map .str)]
def spGround (c : Addr) : DSp := fun ds M Q _ => ∃ (a : Addr) (ps : List Row_) (rs : List Rd_) (r : D) (ss : List Str), ds = [.ref a, .xtp (ps.map plD), r, .xtp (ss.map .str)] ∧ M a = some (.ins c []) ∧ Tpl (rs.map rdD) r ∧ GOk ps rs ss ∧ Q .non (put M a (.ins c (FG.zip (gndF ps r ss))))
theorem ground_ok (c : Addr) (ds : List D) (M : Mst) (Q : DK) (Ed : DX → Mst → Prop) (h : upSp (spGround c) ds M Q Ed) : qGround c spNeed0 spPlaces spRoadsF spStations (fun x _ M => Ed x M) (retE Q) (startD ["self", "places", "roads", "stations"] ds) M := by
  obtain ⟨Q0, E0, ⟨a, rows, rs, r, ss, rfl, ha, hr, go, k0⟩, kq, _⟩ := h
  have g := go.gr
  have k : Q .non (put M a (.ins c (FG.zip (gndF rows r ss)))) := kq _ _ _ (Sub.refl _) k0
  show qGround _ _ _ _ _ _ _ [some (.ref a), some (.xtp (rows.map plD)), some r, some (.xtp (ss.map .str))] M
  simp only [qGround, qSetF, qFld, qFrzE, qSeq, qAsg, qTup, qCons, qNil, qOp, qUn, qC, qCall, qVar, qLst, newL_f, qIfS, qTB, qNext, qRet, qDrop, qFor, qCB, qAug, qSl, qPart, qNoPart, gNameD, gSub_eq, dInt_i, dInt0_i, dAdd_i, dCmpI_i, List.set_cons_zero, List.set_cons_succ, List.getElem?_cons_zero, List.getElem?_cons_succ, List.append_nil, z_l0, z_l1, z_l2, z_l3, z_l4, z_l5, z_l6, z_l7, z_l8, z_l9, z_l19, z_l24, z_l25, true_and]
  have f1 : faultP (.xtp (rows.map plD)) = none := by
    have l0 := g.l0
    have l1 := g.l1
    show (if (decide (1 ≤ (rows.map plD).length) && decide ((rows.map plD).length ≤ 40)) = true then (badP [] 0 (rows.map plD)).map fun i : Nat => (i : Int) else some (-1)) = none
    rw [if_pos (by simp [l0, l1]), badP_ok rows [] 0 g.ok (by simpa using g.nd)]; rfl
  have f2 : faultS (rows.map (·.1)) (.xtp (ss.map .str)) = none := by
    have l0 := g.sl
    show (if decide (12 < (ss.map D.str).length) = true then some (-1) else (badS (rows.map (·.1)) 0 [] (ss.map D.str)).map fun i : Nat => (i : Int)) = none
    rw [if_neg (by simp; omega), badS_ok _ ss [] 0 g.si (by simpa using g.sd)]; rfl
  refine ⟨40, _, rfl, by decide, g.places, ?_⟩
  rw [f1]
  refine ⟨_, rfl, ?_⟩
  simp only [dDict, risk_pairs]
  refine ⟨by simp [riskD]; have := g.l1; omega, fun p hp => ?_⟩
  have e := risk_putAll rows [] (by simpa using g.nd)
  rw [show riskD [] = [] from rfl, List.nil_append] at e
  simp only [put_same, e, del_put hp, ha, List.map_nil, List.length_nil, List.take_zero, Nat.zero_le, true_and]
  refine ⟨by decide, ?_⟩
  have i0 : ∀ (M : Mst) fs, M a = some (.ins c fs) → insD M (.ref a) = some (c, fs.map (·.1), fs.map (·.2)) := fun M fs h => by simp [insD, res, h]
  simp only [i0 _ _ put_same, setAt, List.length_nil, Nat.lt_irrefl, if_false, List.nil_append, List.map_cons, List.map_nil, List.getElem?_cons_zero]
  refine ⟨trivial, rfl, _, _, _, rs, rfl, fun _ => textsD_risk, hr, go.rn, go.rp, go.rd, ?_⟩
  refine ⟨_, rfl, ?_⟩
  simp only [i0 _ _ put_same]
  refine ⟨trivial, rfl, 40, _, _, _, rfl, by decide, textsD_risk, g.stations, ?_⟩
  rw [f2]
  refine ⟨_, rfl, ?_⟩
  simp only [put_same, put_put]
  exact ⟨trivial, rfl, Nat.le_refl 1, by decide, rfl, Nat.le_refl 2, by decide, rfl, Nat.le_refl 3, by decide, k⟩
end DL
namespace DL
open PySem L2 Tx20 Tx21
abbrev KDue : List Str := [(PySem.Str.ofString "car"), (PySem.Str.ofString "chimney"), (PySem.Str.ofString "grass"), (PySem.Str.ofString "house"), (PySem.Str.ofString "people"), (PySem.Str.ofString "works")]
abbrev FormsL : List (Str × List Str) := [(lit "call", [lit "place", lit "kind"]), (lit "again", [lit "call"]), (lit "make", [lit "call", lit "pumps"]), (lit "stop", [lit "call"]), (lit "send", [lit "engine", lit "call"]), (lit "there", [lit "engine"]), (lit "back", [lit "engine"]), (lit "home", [lit "engine"]), (lit "off", [lit "engine"]), (lit "on", [lit "engine"]), (lit "stand", [lit "engine", lit "station"]), (lit "lend", [lit "engine", lit "station"]), (lit "shut", [lit "road"]), (lit "clear", [lit "road"]), (lit "nothing", [])]
abbrev DForms : List (Str × D) := FormsL.map fun q => (q.1, .ktp (q.2.map D.str))
abbrev KForms : List Str := FormsL.map (·.1)
abbrev SORT7 : List Str := [lit "place", lit "kind", lit "call", lit "pumps", lit "engine", lit "station", lit "road"]
def qIsKind (sp_is_one_of : DSp) : DTS :=
  (qRet (qCall sp_is_one_of [] (qCons (qVar 0) (qCons (fun _ _ M Q => newL false (KDue.map D.str) M Q) qNil))))
def qIsSort (c_Ground : Addr) (sp_is_kind : DSp) (sp_is_one_of : DSp) (sp_is_whole : DSp) : DTS :=
  (qSeq (qIfS (qTB (qOp (dEq false) (qVar 2) (qC (.str (PySem.Str.ofString "call")))))
  (qRet (qCall sp_is_whole [] (qCons (qVar 3) (qCons (qC (.int 1)) (qCons (qC (.int 200)) qNil)))))
  qNext)
  (qSeq (qIfS (qTB (qOp (dEq false) (qVar 2) (qC (.str (PySem.Str.ofString "pumps")))))
  (qRet (qCall sp_is_whole [] (qCons (qVar 3) (qCons (qC (.int 1)) (qCons (qC (.int 20)) qNil)))))
  qNext)
  (qSeq (qIfS (qTB (qOp (dEq false) (qVar 2) (qC (.str (PySem.Str.ofString "road")))))
  (qRet (qCall sp_is_whole [] (qCons (qVar 3) (qCons (qC (.int 0)) (qCons (qOp (dInt0 fun i j => i - j) (qCB dLen (qCons (qFld c_Ground FG 2 (qVar 0)) qNil)) (qC (.int 1))) qNil)))))
  qNext)
  (qSeq (qIfS (qTB (qOp (dEq false) (qVar 2) (qC (.str (PySem.Str.ofString "kind")))))
  (qRet (qCall sp_is_kind [] (qCons (qVar 3) qNil)))
  qNext)
  (qSeq (qAsg (qFrzE (qDisp [((qC (.str (PySem.Str.ofString "place"))), (qLc false (qiAny (qFld c_Ground FG 1 (qVar 0))) (gTupD 2 (gConsD (gNameD 5) (gConsD (gNameD 6) gNilD))) qYes (qVar 5) [5, 6])), ((qC (.str (PySem.Str.ofString "station"))), (qCB (dList false) (qCons (qFld c_Ground FG 3 (qVar 0)) qNil)))])) (gNameD 4))
  (qRet (qCall sp_is_one_of [] (qCons (qVar 3) (qCons (qDGet2 (qVar 4) (qVar 2) (qLc false (qiAny (qVar 1)) (gNameD 7) qYes (qOp dIx (qVar 7) (qC (.int 0))) [7])) qNil)))))))))
def qFault (sp_is_one_of : DSp) (sp_is_sort : DSp) : DTS :=
  (qSeq (qIfS (qOr (qNot (qTB (qCB dIsi (qCons (qVar 2) (qCons (qC (.ty "tuple")) qNil))))) (qOr (qTB (qOp (dEq false) (qCB dLen (qCons (qVar 2) qNil)) (qC (.int 0)))) (qNot (qTB (qCall sp_is_one_of [] (qCons (qOp dIx (qVar 2) (qC (.int 0))) (qCons (fun _ _ M Q => newL false (KForms.map D.str) M Q) qNil)))))))
  (qRet (qC (.int 0)))
  qNext)
  (qSeq (qAsg (qUn (dIxK DForms) (qOp dIx (qVar 2) (qC (.int 0)))) (gNameD 3))
  (qSeq (qIfS (qTB (qOp (dEq true) (qCB dLen (qCons (qVar 2) qNil)) (qOp (dAdd false) (qC (.int 1)) (qCB dLen (qCons (qVar 3) qNil)))))
  (qRet (qC (.int 0)))
  qNext)
  (qSeq (qFor (qiEnumC (qCons (qVar 3) qNil) (qCons (qC (.int 1)) qNil)) (gTupD 2 (gConsD (gNameD 4) (gConsD (gNameD 5) gNilD)))
  (qIfS (qNot (qTB (qCall sp_is_sort [] (qCons (qVar 0) (qCons (qVar 1) (qCons (qVar 5) (qCons (qOp dIx (qVar 2) (qVar 4)) qNil)))))))
  (qRet (qVar 4))
  qNext))
  (qRet (qUn dNeg (qC (.int 1))))))))
def spIsKind : DSp := fun ds M Q _ => ∃ (n : Nat) (x : D), ds = [x] ∧ Pl n x ∧ Q (.bl (oneD KDue x)) M
theorem iskind_ok (ds : List D) (M : Mst) (Q : DK) (Ed : DX → Mst → Prop) (h : upSp spIsKind ds M Q Ed) : qIsKind spIsOne (fun x _ M => Ed x M) (retE Q) (startD ["thing"] ds) M := by
  obtain ⟨Q0, E0, ⟨n, x, rfl, hx, k0⟩, kq, _⟩ := h
  have k : Q (.bl (oneD KDue x)) M := kq _ _ _ (Sub.refl _) k0
  show qIsKind _ _ _ [some x] M
  simp only [qIsKind, qSeq, qAsg, qTup, qCons, qNil, qOp, qUn, qC, qCall, qVar, qLst, newL_f, qIfS, qTB, qNext, qRet, qDrop, qFor, qCB, qAug, qSl, qPart, qNoPart, gNameD, gSub_eq, dInt_i, dInt0_i, dAdd_i, dCmpI_i, List.set_cons_zero, List.set_cons_succ, List.getElem?_cons_zero, List.getElem?_cons_succ, List.append_nil, z_l0, z_l1, z_l2, z_l3, z_l4, z_l5, z_l6, z_l7, z_l8, z_l9, z_l19, z_l24, z_l25, true_and]
  exact ⟨n, x, _, KDue, rfl, hx, textsD_l, k⟩
/-- is this thing of this sort -/
def sortB (ps ss es : List Str) (rn : Nat) (s : Str) (x : D) : Bool :=
  if s = lit "call" then wholeD 1 200 x else if s = lit "pumps" then wholeD 1 20 x else if s = lit "road" then wholeD 0 ((rn : Int) - 1) x
  else if s = lit "kind" then oneD KDue x else if s = lit "place" then oneD ps x else if s = lit "station" then oneD ss x else oneD es x
def gndD (c : Addr) (ps : List Row_) (r : D) (ss : List Str) : D := .ins c FG (gndF ps r ss)
theorem gnd1 {ps : List Row_} {r : D} {ss : List Str} : (gndF ps r ss)[1]? = some (.xtp (ps.map plD)) := rfl
theorem gnd2 {ps : List Row_} {r : D} {ss : List Str} : (gndF ps r ss)[2]? = some r := rfl
theorem gnd3 {ps : List Row_} {r : D} {ss : List Str} : (gndF ps r ss)[3]? = some (.xtp (ss.map .str)) := rfl
theorem len_tpl {es : List D} {x : D} {M : Mst} {Q : DK} (h : Tpl es x) : dLen [x] M Q = Q (.int (es.length : Int)) M := seq_len h.seq
def spIsSort (c : Addr) : DSp := fun ds M Q _ => ∃ (n : Nat) (ps : List Row_) (rs : List Rd_) (r : D) (ss : List Str) (es : List Eng) (s : Str) (x : D), ds = [gndD c ps r ss, .tup (es.map egD), .str s, x] ∧ Tpl (rs.map rdD) r ∧ ps.length ≤ 50000 ∧ es.length ≤ 50000 ∧ s ∈ SORT7 ∧ Pl n x ∧
  Q (.bl (sortB (ps.map (·.1)) ss (es.map (·.1)) rs.length s x)) M
theorem issort_ok (c : Addr) (ds : List D) (M : Mst) (Q : DK) (Ed : DX → Mst → Prop) (h : upSp (spIsSort c) ds M Q Ed) : qIsSort c spIsKind spIsOne spIsWhole (fun x _ M => Ed x M) (retE Q) (startD ["ground", "engines", "sort", "thing", "known", "name", "risk", "engine"] ds) M := by
  obtain ⟨Q0, E0, ⟨n, ps, rs, r, ss, es, s, x, rfl, hr, pn, en, hs, hx, k0⟩, kq, _⟩ := h
  have k : ∀ M', Sub M M' → Q (.bl (sortB (ps.map (·.1)) ss (es.map (·.1)) rs.length s x)) M' := fun M' S => kq _ _ _ S k0
  have k' := k M (Sub.refl _)
  show qIsSort _ _ _ _ _ _ [some (gndD c ps r ss), some (.tup (es.map egD)), some (.str s), some x, none, none, none, none] M
  simp only [qIsSort, qSeq, qAsg, qTup, qCons, qNil, qOp, qUn, qC, qCall, qVar, qLst, newL_f, qIfS, qTB, qNext, qRet, qDrop, qFor, qCB, qAug, qSl, qPart, qNoPart, gNameD, gSub_eq, dInt_i, dInt0_i, dAdd_i, dCmpI_i, List.set_cons_zero, List.set_cons_succ, List.getElem?_cons_zero, List.getElem?_cons_succ, List.append_nil, z_l0, z_l1, z_l2, z_l3, z_l4, z_l5, z_l6, z_l7, z_l8, z_l9, z_l19, z_l24, z_l25, true_and, z_ix_t0, z_ix_t1, z_ix_t2, z_ix_t3, z_ix_l0, z_ix_l1, z_ix_l2, z_eq_int, z_ne_int, z_eq_str, z_ne_str, z_neg, z_add_tup, z_len_tup, Bool.not_true, Bool.not_false, Bool.false_eq_true, if_false, if_true, decide_true, decide_false]
  by_cases h1 : s = lit "call"
  · have e : sortB (ps.map (·.1)) ss (es.map (·.1)) rs.length s x = wholeD 1 200 x := by simp only [sortB, h1, if_true]
    rw [e] at k'
    simp only [h1, decide_true, if_true]
    exact ⟨n, x, 1, 200, rfl, hx, k'⟩
  by_cases h2 : s = lit "pumps"
  · have e : sortB (ps.map (·.1)) ss (es.map (·.1)) rs.length s x = wholeD 1 20 x := by simp only [sortB, h1, h2, if_false, if_true]; rfl
    rw [e] at k'
    simp only [h1, h2, decide_true, decide_false, if_true, Bool.false_eq_true, if_false]
    exact ⟨n, x, 1, 20, rfl, hx, k'⟩
  by_cases h3 : s = lit "road"
  · have e : sortB (ps.map (·.1)) ss (es.map (·.1)) rs.length s x = wholeD 0 ((rs.length : Int) - 1) x := by simp only [sortB, h1, h2, h3, if_false, if_true]; rfl
    rw [e] at k'
    simp only [h1, h2, h3, decide_true, decide_false, if_true, Bool.false_eq_true, if_false]
    simp only [qFld, gndD, insD, res_ins, gnd2, len_tpl hr, List.length_map, qSeq, qAsg, qTup, qCons, qNil, qOp, qUn, qC, qCall, qVar, qLst, newL_f, qIfS, qTB, qNext, qRet, qDrop, qFor, qCB, qAug, qSl, qPart, qNoPart, gNameD, gSub_eq, dInt_i, dInt0_i, dAdd_i, dCmpI_i, List.set_cons_zero, List.set_cons_succ, List.getElem?_cons_zero, List.getElem?_cons_succ, List.append_nil, z_l0, z_l1, z_l2, z_l3, z_l4, z_l5, z_l6, z_l7, z_l8, z_l9, z_l19, z_l24, z_l25, true_and]
    exact ⟨rfl, n, x, 0, _, rfl, hx, k'⟩
  by_cases h4 : s = lit "kind"
  · have e : sortB (ps.map (·.1)) ss (es.map (·.1)) rs.length s x = oneD KDue x := by simp only [sortB, h1, h2, h3, h4, if_false, if_true]; rfl
    rw [e] at k'
    simp only [h1, h2, h3, h4, decide_true, decide_false, if_true, Bool.false_eq_true, if_false]
    exact ⟨n, x, rfl, hx, k'⟩
  simp only [h1, h2, h3, h4, decide_false, Bool.false_eq_true, if_false, qFrzE, qDisp, qPairs, pairsK, keyD]
  intro a ha
  simp only [qLc, qiAny, qFld, gndD, insD, res_ins, gnd1, gnd3, qSeq, qAsg, qTup, qCons, qNil, qOp, qUn, qC, qCall, qVar, qLst, newL_f, qIfS, qTB, qNext, qRet, qDrop, qFor, qCB, qAug, qSl, qPart, qNoPart, gNameD, gSub_eq, dInt_i, dInt0_i, dAdd_i, dCmpI_i, List.set_cons_zero, List.set_cons_succ, List.getElem?_cons_zero, List.getElem?_cons_succ, List.append_nil, z_l0, z_l1, z_l2, z_l3, z_l4, z_l5, z_l6, z_l7, z_l8, z_l9, z_l19, z_l24, z_l25, true_and]
  refine ⟨rfl, fun a1 ha1 => ?_⟩
  refine compL_map ha1 (fun d => some (.str (nameOf d))) (fun _ => trivial) (by rw [List.length_map]; omega) (fun d hd acc R hR => ?_) ?_
  · obtain ⟨q, _, rfl⟩ := List.mem_map.mp hd
    refine ⟨rfl, ?_⟩
    simp only [gConsD, gNilD, gNameD, wipeD, qYes, if_true, qVar, List.foldl, List.set_cons_zero, List.set_cons_succ, List.getElem?_cons_zero, List.getElem?_cons_succ]
    exact ⟨trivial, hR⟩
  have em : (ps.map plD).filterMap (fun d => some (D.str (nameOf d))) = (ps.map (·.1)).map D.str := by
    rw [List.filterMap_eq_map', List.map_map, List.map_map]; rfl
  have ne : Str.ofString "station" ≠ Str.ofString "place" := by decide +kernel
  have ep : ∀ v w : D, putAllD [] [((Sum.inr (Str.ofString "place") : Key), v), (Sum.inr (Str.ofString "station"), w)] = [(Sum.inr (Str.ofString "place"), v), (Sum.inr (Str.ofString "station"), w)] := fun v w => by
    simp only [putAllD, List.foldl, putD, List.any_nil, Bool.false_eq_true, if_false, List.nil_append, List.any_cons, Sum.inr.injEq, ne.symm, ne, decide_false, Bool.or_self, List.cons_append]
  simp only [Bool.false_eq_true, if_false, em, dList, res_xtp, newL_f, put_same, ep, put_put, del_put ha, List.map_cons, List.map_nil, true_and, List.length_cons, List.length_nil]
  refine ⟨rfl, by decide, ?_⟩
  simp only [qDGet2, qLc, qiAny, isDict, qSeq, qAsg, qTup, qCons, qNil, qOp, qUn, qC, qCall, qVar, qLst, newL_f, qIfS, qTB, qNext, qRet, qDrop, qFor, qCB, qAug, qSl, qPart, qNoPart, gNameD, gSub_eq, dInt_i, dInt0_i, dAdd_i, dCmpI_i, List.set_cons_zero, List.set_cons_succ, List.getElem?_cons_zero, List.getElem?_cons_succ, List.append_nil, z_l0, z_l1, z_l2, z_l3, z_l4, z_l5, z_l6, z_l7, z_l8, z_l9, z_l19, z_l24, z_l25, true_and]
  refine fun a2 ha2 => ?_
  refine lcN ha2 (fun _ => trivial) (by rw [List.length_map]; omega) (fun d => .str (nameOf d)) (fun d hd M' R S hR => ?_) ?_
  · obtain ⟨q, _, rfl⟩ := List.mem_map.mp hd
    simp only [wipeD, qSeq, qAsg, qTup, qCons, qNil, qOp, qUn, qC, qCall, qVar, qLst, newL_f, qIfS, qTB, qNext, qRet, qDrop, qFor, qCB, qAug, qSl, qPart, qNoPart, gNameD, gSub_eq, dInt_i, dInt0_i, dAdd_i, dCmpI_i, List.set_cons_zero, List.set_cons_succ, List.getElem?_cons_zero, List.getElem?_cons_succ, List.append_nil, z_l0, z_l1, z_l2, z_l3, z_l4, z_l5, z_l6, z_l7, z_l8, z_l9, z_l19, z_l24, z_l25, true_and, egD, z_ix_t0]
    exact hR
  have em2 : (es.map egD).map (fun d => D.str (nameOf d)) = (es.map (·.1)).map D.str := by rw [List.map_map, List.map_map]; rfl
  rw [em2]
  simp only [dgetD, keyD, Option.map_some, List.zip_cons_cons, List.zip_nil_left, valD]
  by_cases h5 : s = lit "place"
  · have e : sortB (ps.map (·.1)) ss (es.map (·.1)) rs.length s x = oneD (ps.map (·.1)) x := by simp only [sortB, h1, h2, h3, h4, h5, if_false, if_true]; rfl
    rw [e] at k'
    subst h5
    exact ⟨n, x, _, ps.map (·.1), rfl, hx, textsD_l, k'⟩
  by_cases h6 : s = lit "station"
  · have e : sortB (ps.map (·.1)) ss (es.map (·.1)) rs.length s x = oneD ss x := by simp only [sortB, h1, h2, h3, h4, h5, h6, if_false, if_true]; rfl
    rw [e] at k'
    subst h6
    exact ⟨n, x, _, ss, rfl, hx, textsD_l, k'⟩
  have e : sortB (ps.map (·.1)) ss (es.map (·.1)) rs.length s x = oneD (es.map (·.1)) x := by simp only [sortB, h1, h2, h3, h4, h5, h6, if_false]
  rw [e] at k'
  have h5' : ¬ (Str.ofString "place" = s) := fun e => h5 e.symm
  have h6' : ¬ (Str.ofString "station" = s) := fun e => h6 e.symm
  simp only [List.find?_cons, List.find?_nil, Sum.inr.injEq, h5', h6', decide_false, Option.map_none, Option.getD_none]
  exact ⟨n, x, _, es.map (·.1), rfl, hx, textsD_l, k'⟩
/-- the place of the first thing that isn't of its sort -/
def firstBad (f : Str → D → Bool) : Int → List Str → List D → Int
  | i, s :: so, x :: xs => if f s x = true then firstBad f (i + 1) so xs else i
  | _, _, _ => -1
def faultD (ps ss es : List Str) (rn : Nat) (x : D) : Int := match x with
  | .tup (.str w :: args) => match FormsL.lookup w with
    | none => 0
    | some so => if args.length = so.length then firstBad (sortB ps ss es rn) 1 so args else 0
  | _ => 0
theorem forms_lk (w : Str) : DForms.lookup w = (FormsL.lookup w).map fun so => .ktp (so.map D.str) := by
  have : ∀ l : List (Str × List Str), (l.map fun q => (q.1, D.ktp (q.2.map D.str))).lookup w = (l.lookup w).map fun so => .ktp (so.map D.str) := fun l => by
    induction l with
    | nil => rfl
    | cons q l ih =>
      rw [List.map_cons, List.lookup_cons, List.lookup_cons, ih]
      cases w == q.1 <;> rfl
  exact this FormsL
theorem lookup_none' {w : Str} : ∀ {l : List (Str × List Str)}, w ∉ l.map (·.1) → l.lookup w = none
  | [], _ => rfl
  | q :: l, h => by
    rw [List.map_cons, List.mem_cons, not_or] at h
    rw [List.lookup_cons, show (w == q.1) = false from beq_eq_false_iff_ne.mpr h.1]
    exact lookup_none' h.2
theorem lookup_some' {w : Str} : ∀ {l : List (Str × List Str)}, w ∈ l.map (·.1) → ∃ so, l.lookup w = some so
  | [], h => nomatch h
  | q :: l, h => by
    rw [List.lookup_cons]
    cases c : w == q.1 with
    | true => exact ⟨_, rfl⟩
    | false =>
      rw [List.map_cons, List.mem_cons] at h
      exact lookup_some' (h.resolve_left fun e => by rw [e, beq_self_eq_true] at c; cases c)
theorem forms_sorts : ∀ q ∈ FormsL, q.2.length ≤ 2 ∧ ∀ s ∈ q.2, s ∈ SORT7 := by decide +kernel
def spFault (c : Addr) : DSp := fun ds M Q _ => ∃ (n : Nat) (ps : List Row_) (rs : List Rd_) (r : D) (ss : List Str) (es : List Eng) (x : D), ds = [gndD c ps r ss, .tup (es.map egD), x] ∧ Tpl (rs.map rdD) r ∧ ps.length ≤ 50000 ∧ es.length ≤ 50000 ∧ Pl n x ∧
  Q (.int (faultD (ps.map (·.1)) ss (es.map (·.1)) rs.length x)) M
theorem fault_ok (c : Addr) (ds : List D) (M : Mst) (Q : DK) (Ed : DX → Mst → Prop) (h : upSp (spFault c) ds M Q Ed) : qFault spIsOne (spIsSort c) (fun x _ M => Ed x M) (retE Q) (startD ["ground", "engines", "thing", "sorts", "at", "sort"] ds) M := by
  obtain ⟨Q0, E0, ⟨n, ps, rs, r, ss, es, x, rfl, hr, pn, en, hx, k0⟩, kq, _⟩ := h
  have k : Q (.int (faultD (ps.map (·.1)) ss (es.map (·.1)) rs.length x)) M := kq _ _ _ (Sub.refl _) k0
  show qFault _ _ _ _ [some (gndD c ps r ss), some (.tup (es.map egD)), some x, none, none, none] M
  simp only [qFault, qOr, qNot, qSeq, qAsg, qTup, qCons, qNil, qOp, qUn, qC, qCall, qVar, qLst, newL_f, qIfS, qTB, qNext, qRet, qDrop, qFor, qCB, qAug, qSl, qPart, qNoPart, gNameD, gSub_eq, dInt_i, dInt0_i, dAdd_i, dCmpI_i, List.set_cons_zero, List.set_cons_succ, List.getElem?_cons_zero, List.getElem?_cons_succ, List.append_nil, z_l0, z_l1, z_l2, z_l3, z_l4, z_l5, z_l6, z_l7, z_l8, z_l9, z_l19, z_l24, z_l25, true_and]
  rw [isi_tuple hx]
  cases ht : tupB x with
  | false =>
    have e : faultD (ps.map (·.1)) ss (es.map (·.1)) rs.length x = 0 := by cases x <;> first | rfl | cases ht
    rw [e] at k; simp only [Bool.not_false, if_true]; exact k
  | true =>
  obtain ⟨xs, rfl⟩ := tupB_iff.mp ht
  obtain ⟨hl, hp⟩ := hx.tupI
  cases xs with
  | nil => simp only [z_ix_t0, z_ix_t1, z_ix_t2, z_ix_t3, z_ix_l0, z_ix_l1, z_ix_l2, z_eq_int, z_ne_int, z_eq_str, z_ne_str, z_neg, z_add_tup, z_len_tup, Bool.not_true, Bool.not_false, Bool.false_eq_true, if_false, if_true, decide_true, decide_false, List.length_nil]; exact k
  | cons x0 args =>
  have z0 : decide (((x0 :: args).length : Int) = 0) = false := decide_eq_false (by simp; omega)
  simp only [z_ix_t0, z_ix_t1, z_ix_t2, z_ix_t3, z_ix_l0, z_ix_l1, z_ix_l2, z_eq_int, z_ne_int, z_eq_str, z_ne_str, z_neg, z_add_tup, z_len_tup, Bool.not_true, Bool.not_false, Bool.false_eq_true, if_false, if_true, decide_true, decide_false, z0]
  refine ⟨n, x0, _, KForms, rfl, hp x0 (List.mem_cons_self ..), textsD_l, ?_⟩
  cases ho : oneD KForms x0 with
  | false =>
    have e : faultD (ps.map (·.1)) ss (es.map (·.1)) rs.length (.tup (x0 :: args)) = 0 := by
      cases x0 <;> first | rfl | skip
      rename_i w
      have hw : w ∉ FormsL.map (·.1) := by simpa [oneD] using ho
      show (match FormsL.lookup w with | none => (0 : Int) | some so => _) = 0
      rw [lookup_none' hw]
    rw [e] at k; simp only [Bool.not_false, if_true]; exact k
  | true =>
    obtain ⟨w, rfl, hw⟩ := oneD_iff.mp ho
    obtain ⟨so, hso⟩ := lookup_some' hw
    have e : faultD (ps.map (·.1)) ss (es.map (·.1)) rs.length (.tup (.str w :: args)) = if args.length = so.length then firstBad (sortB (ps.map (·.1)) ss (es.map (·.1)) rs.length) 1 so args else 0 := by
      show (match FormsL.lookup w with | none => (0 : Int) | some so => _) = _
      rw [hso]
    rw [e] at k
    obtain ⟨s2, s7⟩ := forms_sorts _ (lookup_mem hso)
    simp only [Bool.not_true, Bool.false_eq_true, if_false, qSeq, qAsg, qTup, qCons, qNil, qOp, qUn, qC, qCall, qVar, qLst, newL_f, qIfS, qTB, qNext, qRet, qDrop, qFor, qCB, qAug, qSl, qPart, qNoPart, gNameD, gSub_eq, dInt_i, dInt0_i, dAdd_i, dCmpI_i, List.set_cons_zero, List.set_cons_succ, List.getElem?_cons_zero, List.getElem?_cons_succ, List.append_nil, z_l0, z_l1, z_l2, z_l3, z_l4, z_l5, z_l6, z_l7, z_l8, z_l9, z_l19, z_l24, z_l25, true_and, z_ix_t0, z_ix_t1, z_ix_t2, z_ix_t3, z_ix_l0, z_ix_l1, z_ix_l2, z_eq_int, z_ne_int, z_eq_str, z_ne_str, z_neg, z_add_tup, z_len_tup, Bool.not_true, Bool.not_false, Bool.false_eq_true, if_false, if_true, decide_true, decide_false, dIxK, forms_lk, hso, Option.map_some, res_str]
    simp only [z_len_ktp, dAdd_i, z_ne_int, List.length_map, List.length_cons]
    by_cases hc : args.length = so.length
    · have e1 : decide ((((args.length + 1 : Nat) : Int)) = 1 + (so.length : Int)) = true := decide_eq_true (by omega)
      rw [if_pos hc] at k
      simp only [e1, Bool.not_true, Bool.false_eq_true, if_false, qiEnumC, seqAt, qSeq, qAsg, qTup, qCons, qNil, qOp, qUn, qC, qCall, qVar, qLst, newL_f, qIfS, qTB, qNext, qRet, qDrop, qFor, qCB, qAug, qSl, qPart, qNoPart, gNameD, gSub_eq, dInt_i, dInt0_i, dAdd_i, dCmpI_i, List.set_cons_zero, List.set_cons_succ, List.getElem?_cons_zero, List.getElem?_cons_succ, List.append_nil, z_l0, z_l1, z_l2, z_l3, z_l4, z_l5, z_l6, z_l7, z_l8, z_l9, z_l19, z_l24, z_l25, true_and]
      refine ⟨by decide, by decide, ?_⟩
      refine loopL_inv (fun i p M' => ∃ (p4 p5 : Option D), p = [some (gndD c ps r ss), some (.tup (es.map egD)), some (.tup (.str w :: args)), some (.ktp (so.map .str)), p4, p5] ∧ M' = M ∧ firstBad (sortB (ps.map (·.1)) ss (es.map (·.1)) rs.length) 1 so args = firstBad (sortB (ps.map (·.1)) ss (es.map (·.1)) rs.length) (1 + (i : Nat)) (so.drop i) (args.drop i)) (n := so.length) (by simp) (fun i d p M' R hd' hI hR => ?_) (fun p M' hI => ?_)
        ⟨none, none, rfl, rfl, rfl⟩
      · obtain ⟨p4, p5, rfl, rfl, hf⟩ := hI
        rw [enumDI_get, List.getElem?_map] at hd'
        obtain ⟨e', he', rfl⟩ := Option.map_eq_some_iff.mp hd'
        obtain ⟨s, hs, rfl⟩ := Option.map_eq_some_iff.mp he'
        have hi : i < so.length := (List.getElem?_eq_some_iff.mp hs).1
        obtain ⟨y, hy⟩ : ∃ y, args[i]? = some y := ⟨args[i], List.getElem?_eq_getElem (by omega)⟩
        rw [drop_at hs, drop_at hy, firstBad] at hf
        refine ⟨trivial, ?_⟩
        simp only [gTupD, gConsD, gNilD, qSeq, qAsg, qTup, qCons, qNil, qOp, qUn, qC, qCall, qVar, qLst, newL_f, qIfS, qTB, qNext, qRet, qDrop, qFor, qCB, qAug, qSl, qPart, qNoPart, gNameD, gSub_eq, dInt_i, dInt0_i, dAdd_i, dCmpI_i, List.set_cons_zero, List.set_cons_succ, List.getElem?_cons_zero, List.getElem?_cons_succ, List.append_nil, z_l0, z_l1, z_l2, z_l3, z_l4, z_l5, z_l6, z_l7, z_l8, z_l9, z_l19, z_l24, z_l25, true_and]
        refine ⟨rfl, rfl, ?_⟩
        have ei : dIx (.tup (.str w :: args)) (.int (1 + (i : Int))) M' = fun Q => Q y M' := funext fun Q => by
          have := ix_tn (ds := .str w :: args) (i := i + 1) (d := y) (M := M') (Q := Q) (by rw [List.getElem?_cons_succ]; exact hy)
          rw [show ((i + 1 : Nat) : Int) = 1 + (i : Int) by omega] at this
          exact this
        simp only [qNot, qSeq, qAsg, qTup, qCons, qNil, qOp, qUn, qC, qCall, qVar, qLst, newL_f, qIfS, qTB, qNext, qRet, qDrop, qFor, qCB, qAug, qSl, qPart, qNoPart, gNameD, gSub_eq, dInt_i, dInt0_i, dAdd_i, dCmpI_i, List.set_cons_zero, List.set_cons_succ, List.getElem?_cons_zero, List.getElem?_cons_succ, List.append_nil, z_l0, z_l1, z_l2, z_l3, z_l4, z_l5, z_l6, z_l7, z_l8, z_l9, z_l19, z_l24, z_l25, true_and]
        rw [ei]
        refine ⟨n, ps, rs, r, ss, es, s, y, rfl, hr, pn, en, s7 s (List.mem_of_getElem? hs), hp y (List.mem_cons_of_mem _ (List.mem_of_getElem? hy)), ?_⟩
        cases hb : sortB (ps.map (·.1)) ss (es.map (·.1)) rs.length s y with
        | false =>
          rw [hb] at hf
          simp only [Bool.false_eq_true, if_false] at hf
          rw [hf] at k
          simp only [Bool.not_false, if_true]
          exact k
        | true =>
          rw [hb] at hf
          simp only [if_true] at hf
          simp only [Bool.not_true, Bool.false_eq_true, if_false]
          exact hR _ _ ⟨_, _, rfl, rfl, by rw [hf, show (1 : Int) + ((i + 1 : Nat) : Int) = 1 + (i : Int) + 1 by omega]⟩
      · obtain ⟨p4, p5, rfl, rfl, hf⟩ := hI
        rw [List.drop_length] at hf
        have : firstBad (sortB (ps.map (·.1)) ss (es.map (·.1)) rs.length) (1 + (so.length : Nat)) [] (args.drop so.length) = -1 := by unfold firstBad; rfl
        rw [hf, this] at k
        exact ⟨trivial, k⟩
    · have e1 : decide ((((args.length + 1 : Nat) : Int)) = 1 + (so.length : Int)) = false := decide_eq_false (by omega)
      rw [if_neg hc] at k
      simp only [e1, Bool.not_false, if_true]
      exact k
end DL
namespace K23
open PySem L2 DL
def top (i : Nat) : Stmt := PySem.Challenge.pw_whistleboard_k23_deeds_faults.main.body.getD i (.Pass ⟨0, 0, 0, 0⟩)
abbrev F_Ground : List Str := [(PySem.Str.ofString "risks"), (PySem.Str.ofString "places"), (PySem.Str.ofString "roads"), (PySem.Str.ofString "stations")]
abbrev s_is_whole : Stmt := top 7
abbrev N_is_whole : List Str := ["thing", "low", "high"]
theorem sc_is_whole : FnScope N_is_whole ["thing", "low", "high"] (defScope s_is_whole) := ⟨rfl, rfl, rfl, by decide +kernel, rfl, by decide +kernel, by decide +kernel⟩
abbrev s_is_name : Stmt := top 8
abbrev N_is_name : List Str := ["thing", "sign"]
theorem sc_is_name : FnScope N_is_name ["thing"] (defScope s_is_name) := ⟨rfl, rfl, rfl, by decide +kernel, rfl, by decide +kernel, by decide +kernel⟩
abbrev s_is_one_of : Stmt := top 9
abbrev N_is_one_of : List Str := ["thing", "texts"]
theorem sc_is_one_of : FnScope N_is_one_of ["thing", "texts"] (defScope s_is_one_of) := ⟨rfl, rfl, rfl, by decide +kernel, rfl, by decide +kernel, by decide +kernel⟩
abbrev s_is_tuple_of : Stmt := top 10
abbrev N_is_tuple_of : List Str := ["thing", "many"]
theorem sc_is_tuple_of : FnScope N_is_tuple_of ["thing", "many"] (defScope s_is_tuple_of) := ⟨rfl, rfl, rfl, by decide +kernel, rfl, by decide +kernel, by decide +kernel⟩
abbrev s_is_kind : Stmt := top 14
abbrev N_is_kind : List Str := ["thing"]
theorem sc_is_kind : FnScope N_is_kind ["thing"] (defScope s_is_kind) := ⟨rfl, rfl, rfl, by decide +kernel, rfl, by decide +kernel, by decide +kernel⟩
abbrev s_is_place : Stmt := top 22
abbrev N_is_place : List Str := ["thing"]
theorem sc_is_place : FnScope N_is_place ["thing"] (defScope s_is_place) := ⟨rfl, rfl, rfl, by decide +kernel, rfl, by decide +kernel, by decide +kernel⟩
abbrev s_places_fault : Stmt := top 23
abbrev N_places_fault : List Str := ["thing", "seen", "at", "one"]
theorem sc_places_fault : FnScope N_places_fault ["thing"] (defScope s_places_fault) := ⟨rfl, rfl, rfl, by decide +kernel, rfl, by decide +kernel, by decide +kernel⟩
abbrev s_is_road : Stmt := top 24
abbrev N_is_road : List Str := ["names", "thing"]
theorem sc_is_road : FnScope N_is_road ["names", "thing"] (defScope s_is_road) := ⟨rfl, rfl, rfl, by decide +kernel, rfl, by decide +kernel, by decide +kernel⟩
abbrev s_roads_fault : Stmt := top 25
abbrev N_roads_fault : List Str := ["names", "thing", "seen", "at", "one"]
theorem sc_roads_fault : FnScope N_roads_fault ["names", "thing"] (defScope s_roads_fault) := ⟨rfl, rfl, rfl, by decide +kernel, rfl, by decide +kernel, by decide +kernel⟩
abbrev s_stations_fault : Stmt := top 26
abbrev N_stations_fault : List Str := ["names", "thing", "at", "one"]
theorem sc_stations_fault : FnScope N_stations_fault ["names", "thing"] (defScope s_stations_fault) := ⟨rfl, rfl, rfl, by decide +kernel, rfl, by decide +kernel, by decide +kernel⟩
abbrev s_need : Stmt := top 27
abbrev N_need : List Str := ["part", "at"]
theorem sc_need : FnScope N_need ["part", "at"] (defScope s_need) := ⟨rfl, rfl, rfl, by decide +kernel, rfl, by decide +kernel, by decide +kernel⟩
abbrev s_Ground___init__ : Stmt := inClass (top 30) 0
abbrev N_Ground___init__ : List Str := ["self", "places", "roads", "stations"]
theorem sc_Ground___init__ : FnScope N_Ground___init__ ["self", "places", "roads", "stations"] (defScope s_Ground___init__) := ⟨rfl, rfl, rfl, by decide +kernel, rfl, by decide +kernel, by decide +kernel⟩
abbrev s_is_sort : Stmt := top 34
abbrev N_is_sort : List Str := ["ground", "engines", "sort", "thing", "known", "name", "risk", "engine"]
theorem sc_is_sort : FnScope N_is_sort ["ground", "engines", "sort", "thing"] (defScope s_is_sort) := ⟨rfl, rfl, rfl, by decide +kernel, rfl, by decide +kernel, by decide +kernel⟩
abbrev s_fault : Stmt := top 35
abbrev N_fault : List Str := ["ground", "engines", "thing", "sorts", "at", "sort"]
theorem sc_fault : FnScope N_fault ["ground", "engines", "thing"] (defScope s_fault) := ⟨rfl, rfl, rfl, by decide +kernel, rfl, by decide +kernel, by decide +kernel⟩
abbrev s__law_bag : Stmt := top 37
abbrev N__law_bag : List Str := ["_law_script", "_law_at", "_law_cell", "_law_great", "_law_primes"]
theorem sc__law_bag : FnScope N__law_bag ["_law_script", "_law_at"] (defScope s__law_bag) := ⟨rfl, rfl, rfl, by decide +kernel, rfl, by decide +kernel, by decide +kernel⟩
abbrev s__law_take : Stmt := top 38
abbrev N__law_take : List Str := ["_law_bag_here", "_law_many", "_law_digit"]
theorem sc__law_take : FnScope N__law_take ["_law_bag_here", "_law_many"] (defScope s__law_take) := ⟨rfl, rfl, rfl, by decide +kernel, rfl, by decide +kernel, by decide +kernel⟩
abbrev s__law_whole : Stmt := top 39
abbrev N__law_whole : List Str := ["_law_thing", "_law_low", "_law_high"]
theorem sc__law_whole : FnScope N__law_whole ["_law_thing", "_law_low", "_law_high"] (defScope s__law_whole) := ⟨rfl, rfl, rfl, by decide +kernel, rfl, by decide +kernel, by decide +kernel⟩
abbrev s__law_names : Stmt := top 40
abbrev N__law_names : List Str := ["_law_bag_here", "_law_many", "_law_letters", "_law_found", "_law_k", "_law_size", "_law_stem", "_law_turn"]
theorem sc__law_names : FnScope N__law_names ["_law_bag_here", "_law_many"] (defScope s__law_names) := ⟨rfl, rfl, rfl, by decide +kernel, rfl, by decide +kernel, by decide +kernel⟩
abbrev s__law_ground : Stmt := top 41
abbrev N__law_ground : List Str := ["_law_bag_here", "_law_many", "_law_names_here", "_law_places", "_law_most", "_law_pairs", "_law_k", "_law_one", "_law_other", "_law_roads", "_law_slow", "_law_stations", "_law_place", "_law_name"]
theorem sc__law_ground : FnScope N__law_ground ["_law_bag_here"] (defScope s__law_ground) := ⟨rfl, rfl, rfl, by decide +kernel, rfl, by decide +kernel, by decide +kernel⟩
abbrev s__law_engines : Stmt := top 42
abbrev N__law_engines : List Str := ["_law_bag_here", "_law_stations", "_law_many", "_law_found", "_law_name", "_law_sort"]
theorem sc__law_engines : FnScope N__law_engines ["_law_bag_here", "_law_stations"] (defScope s__law_engines) := ⟨rfl, rfl, rfl, by decide +kernel, rfl, by decide +kernel, by decide +kernel⟩
abbrev s__law_deed : Stmt := top 43
abbrev N__law_deed : List Str := ["_law_bag_here", "_law_told", "_law_engines_here", "_law_calls", "_law_places", "_law_roads", "_law_stations", "_law_name", "_law_call", "_law_way"]
theorem sc__law_deed : FnScope N__law_deed ["_law_bag_here", "_law_told", "_law_engines_here", "_law_calls"] (defScope s__law_deed) := ⟨rfl, rfl, rfl, by decide +kernel, rfl, by decide +kernel, by decide +kernel⟩
abbrev s__law_kind : Stmt := top 44
abbrev N__law_kind : List Str := ["_law_bag_here"]
theorem sc__law_kind : FnScope N__law_kind ["_law_bag_here"] (defScope s__law_kind) := ⟨rfl, rfl, rfl, by decide +kernel, rfl, by decide +kernel, by decide +kernel⟩
abbrev s__law_like : Stmt := top 45
abbrev N__law_like : List Str := ["_law_told", "_law_due_here", "_law_one", "_law_other"]
theorem sc__law_like : FnScope N__law_like ["_law_told", "_law_due_here"] (defScope s__law_like) := ⟨rfl, rfl, rfl, by decide +kernel, rfl, by decide +kernel, by decide +kernel⟩
abbrev s__law_is_sort : Stmt := top 46
abbrev N__law_is_sort : List Str := ["_law_told", "_law_engines_here", "_law_sort", "_law_thing", "_law_places", "_law_roads", "_law_stations", "_law_low", "_law_high", "_law_engine", "_law_place"]
theorem sc__law_is_sort : FnScope N__law_is_sort ["_law_told", "_law_engines_here", "_law_sort", "_law_thing"] (defScope s__law_is_sort) := ⟨rfl, rfl, rfl, by decide +kernel, rfl, by decide +kernel, by decide +kernel⟩
abbrev s__law_due : Stmt := top 47
abbrev N__law_due : List Str := ["_law_told", "_law_engines_here", "_law_thing", "_law_forms", "_law_form", "_law_at"]
theorem sc__law_due : FnScope N__law_due ["_law_told", "_law_engines_here", "_law_thing"] (defScope s__law_due) := ⟨rfl, rfl, rfl, by decide +kernel, rfl, by decide +kernel, by decide +kernel⟩
abbrev s__law_any : Stmt := top 48
abbrev N__law_any : List Str := ["_law_bag_here", "_law_told", "_law_engines_here", "_law_places", "_law_roads", "_law_stations", "_law_some"]
theorem sc__law_any : FnScope N__law_any ["_law_bag_here", "_law_told", "_law_engines_here"] (defScope s__law_any) := ⟨rfl, rfl, rfl, by decide +kernel, rfl, by decide +kernel, by decide +kernel⟩
abbrev s__law_bent : Stmt := top 49
abbrev N__law_bent : List Str := ["_law_bag_here", "_law_told", "_law_engines_here", "_law_deed_here", "_law_way", "_law_at", "_law_thing"]
theorem sc__law_bent : FnScope N__law_bent ["_law_bag_here", "_law_told", "_law_engines_here", "_law_deed_here"] (defScope s__law_bent) := ⟨rfl, rfl, rfl, by decide +kernel, rfl, by decide +kernel, by decide +kernel⟩
abbrev s__law_each : Stmt := top 50
abbrev N__law_each : List Str := ["_law_told", "_law_engines_here", "_law_ground_here", "_law_right", "_law_forms", "_law_some", "_law_word", "_law_deed_here", "_law_at", "_law_thing", "_law_bent_here", "_law_place", "_law_risk", "_law_engine", "_law_sort"]
theorem sc__law_each : FnScope N__law_each ["_law_told", "_law_engines_here", "_law_ground_here"] (defScope s__law_each) := ⟨rfl, rfl, rfl, by decide +kernel, rfl, by decide +kernel, by decide +kernel⟩
abbrev s_law : Stmt := top 51
abbrev N_law : List Str := ["_law_script", "_law_bag_here", "_law_told", "_law_engines_here", "_law_ground_here", "_law_k", "_law_deed_here", "_law_things", "_law_thing", "_law_turn"]
theorem sc_law : FnScope N_law ["_law_script"] (defScope s_law) := ⟨rfl, rfl, rfl, by decide +kernel, rfl, by decide +kernel, by decide +kernel⟩
abbrev s_NoGround_init : Stmt := inClass (top 2) 0
theorem sc_NoGround_init : FnScope ["self", "part", "at"] ["self", "part", "at"] (defScope s_NoGround_init) := ⟨rfl, rfl, rfl, by decide +kernel, rfl, by decide +kernel, by decide +kernel⟩
abbrev D_FORMS : List (Str × D) := [((PySem.Str.ofString "call"), .ktp ([(PySem.Str.ofString "place"), (PySem.Str.ofString "kind")].map D.str)), ((PySem.Str.ofString "again"), .ktp ([(PySem.Str.ofString "call")].map D.str)), ((PySem.Str.ofString "make"), .ktp ([(PySem.Str.ofString "call"), (PySem.Str.ofString "pumps")].map D.str)), ((PySem.Str.ofString "stop"), .ktp ([(PySem.Str.ofString "call")].map D.str)), ((PySem.Str.ofString "send"), .ktp ([(PySem.Str.ofString "engine"), (PySem.Str.ofString "call")].map D.str)), ((PySem.Str.ofString "there"), .ktp ([(PySem.Str.ofString "engine")].map D.str)), ((PySem.Str.ofString "back"), .ktp ([(PySem.Str.ofString "engine")].map D.str)), ((PySem.Str.ofString "home"), .ktp ([(PySem.Str.ofString "engine")].map D.str)), ((PySem.Str.ofString "off"), .ktp ([(PySem.Str.ofString "engine")].map D.str)), ((PySem.Str.ofString "on"), .ktp ([(PySem.Str.ofString "engine")].map D.str)), ((PySem.Str.ofString "stand"), .ktp ([(PySem.Str.ofString "engine"), (PySem.Str.ofString "station")].map D.str)), ((PySem.Str.ofString "lend"), .ktp ([(PySem.Str.ofString "engine"), (PySem.Str.ofString "station")].map D.str)), ((PySem.Str.ofString "shut"), .ktp ([(PySem.Str.ofString "road")].map D.str)), ((PySem.Str.ofString "clear"), .ktp ([(PySem.Str.ofString "road")].map D.str)), ((PySem.Str.ofString "nothing"), .ktp ([].map D.str))]
abbrev K_DUE : List Str := [(PySem.Str.ofString "car"), (PySem.Str.ofString "chimney"), (PySem.Str.ofString "grass"), (PySem.Str.ofString "house"), (PySem.Str.ofString "people"), (PySem.Str.ofString "works")]
abbrev K_FORMS : List Str := [(PySem.Str.ofString "call"), (PySem.Str.ofString "again"), (PySem.Str.ofString "make"), (PySem.Str.ofString "stop"), (PySem.Str.ofString "send"), (PySem.Str.ofString "there"), (PySem.Str.ofString "back"), (PySem.Str.ofString "home"), (PySem.Str.ofString "off"), (PySem.Str.ofString "on"), (PySem.Str.ofString "stand"), (PySem.Str.ofString "lend"), (PySem.Str.ofString "shut"), (PySem.Str.ofString "clear"), (PySem.Str.ofString "nothing")]
structure Tx (w : World) (K : PySem.W.Frag) (mg : Str → Option Value) where
  c_Ground : ClsO K mg "Ground" F_Ground
  f_is_whole : FnAt K mg "is_whole" s_is_whole ["thing", "low", "high"]
  f_is_name : FnAt K mg "is_name" s_is_name ["thing"]
  f_is_one_of : FnAt K mg "is_one_of" s_is_one_of ["thing", "texts"]
  f_is_tuple_of : FnAt K mg "is_tuple_of" s_is_tuple_of ["thing", "many"]
  f_is_kind : FnAt K mg "is_kind" s_is_kind ["thing"]
  f_is_place : FnAt K mg "is_place" s_is_place ["thing"]
  f_places_fault : FnAt K mg "places_fault" s_places_fault ["thing"]
  f_is_road : FnAt K mg "is_road" s_is_road ["names", "thing"]
  f_roads_fault : FnAt K mg "roads_fault" s_roads_fault ["names", "thing"]
  f_stations_fault : FnAt K mg "stations_fault" s_stations_fault ["names", "thing"]
  f_need : FnAt K mg "need" s_need ["part", "at"]
  f_Ground___init__ : MthAt K c_Ground.C "__init__" "Ground.__init__" s_Ground___init__ ["self", "places", "roads", "stations"]
  mk_Ground : Mk K c_Ground.C f_Ground___init__.f
  f_is_sort : FnAt K mg "is_sort" s_is_sort ["ground", "engines", "sort", "thing"]
  f_fault : FnAt K mg "fault" s_fault ["ground", "engines", "thing"]
  f__law_bag : FnAt K mg "_law_bag" s__law_bag ["_law_script", "_law_at"]
  f__law_take : FnAt K mg "_law_take" s__law_take ["_law_bag_here", "_law_many"]
  f__law_whole : FnAt K mg "_law_whole" s__law_whole ["_law_thing", "_law_low", "_law_high"]
  f__law_names : FnAt K mg "_law_names" s__law_names ["_law_bag_here", "_law_many"]
  f__law_ground : FnAt K mg "_law_ground" s__law_ground ["_law_bag_here"]
  f__law_engines : FnAt K mg "_law_engines" s__law_engines ["_law_bag_here", "_law_stations"]
  f__law_deed : FnAt K mg "_law_deed" s__law_deed ["_law_bag_here", "_law_told", "_law_engines_here", "_law_calls"]
  f__law_kind : FnAt K mg "_law_kind" s__law_kind ["_law_bag_here"]
  f__law_like : FnAt K mg "_law_like" s__law_like ["_law_told", "_law_due_here"]
  f__law_is_sort : FnAt K mg "_law_is_sort" s__law_is_sort ["_law_told", "_law_engines_here", "_law_sort", "_law_thing"]
  f__law_due : FnAt K mg "_law_due" s__law_due ["_law_told", "_law_engines_here", "_law_thing"]
  f__law_any : FnAt K mg "_law_any" s__law_any ["_law_bag_here", "_law_told", "_law_engines_here"]
  f__law_bent : FnAt K mg "_law_bent" s__law_bent ["_law_bag_here", "_law_told", "_law_engines_here", "_law_deed_here"]
  f__law_each : FnAt K mg "_law_each" s__law_each ["_law_told", "_law_engines_here", "_law_ground_here"]
  f_law : FnAt K mg "law" s_law ["_law_script"]
  n_ValueError : mg "ValueError" = none
  n_abs : mg "abs" = none
  n_all : mg "all" = none
  n_bool : mg "bool" = none
  n_dict : mg "dict" = none
  n_enumerate : mg "enumerate" = none
  n_int : mg "int" = none
  n_isinstance : mg "isinstance" = none
  n_len : mg "len" = none
  n_list : mg "list" = none
  n_max : mg "max" = none
  n_min : mg "min" = none
  n_range : mg "range" = none
  n_sorted : mg "sorted" = none
  n_str : mg "str" = none
  n_tuple : mg "tuple" = none
  n_zip : mg "zip" = none
  g_LETTERS : GlS mg "LETTERS" (PySem.Str.ofString "abcdefghijklmnopqrstuvwxyz")
  g_MOST_CALLS : GlI mg "MOST_CALLS" (200)
  g_MOST_LETTERS : GlI mg "MOST_LETTERS" (8)
  g_MOST_MINUTES : GlI mg "MOST_MINUTES" (60)
  g_MOST_PLACES : GlI mg "MOST_PLACES" (40)
  g_MOST_PUMPS : GlI mg "MOST_PUMPS" (20)
  g_MOST_RISK : GlI mg "MOST_RISK" (4)
  g_MOST_ROADS : GlI mg "MOST_ROADS" (80)
  g_MOST_STATIONS : GlI mg "MOST_STATIONS" (12)
  k_DUE : KDic K w mg "DUE" K_DUE
  k_FORMS : KTab K w mg "FORMS" D_FORMS
  c_NoGround : XAt K mg "NoGround" "ValueError" "ValueError.__new__" "ValueError.__init__" tl_ValueError s_NoGround_init "NoGround.__init__" ["self", "part", "at"] [(PySem.Str.ofString "part"), (PySem.Str.ofString "at")]
section
variable {P : Program} {w : World} {K : PySem.W.Frag} {mg : Str → Option Value} {base : Heap}
theorem in_NoGround (T : Tx w K mg) : FnOk P w K mg base (L2.CX P w) 1 T.c_NoGround.fI T.c_NoGround.fd ["self", "part", "at"] (spX2 T.c_NoGround.C (PySem.Str.ofString "part") (PySem.Str.ofString "at")) :=
  T.c_NoGround.F.okX sc_NoGround_init (fun vs H Q E h => by obtain ⟨a, v, v2, rfl, _⟩ := h; rfl) fun cdv A outer s H vs Q E hr h => ⟨_, pss_cons (ps_expr (pe_binit (B := "ValueError") baseX_ValueError rfl T.n_ValueError PyProof.Rows.Boot.«ValueError» T.c_NoGround.vV (pa_cons (pv 0) (pa_cons pe_str pa_nil)))) (pss_cons (ps_xset baseX_ValueError (pv 0) (pv 1)) (pss_one (ps_xset baseX_ValueError (pv 0) (pv 2)))), rdX2 T.c_NoGround.T (T.c_NoGround.no _ (by simp)) (T.c_NoGround.no _ (by simp)) h⟩
def q_is_whole : DTS :=
  (qRet (qAndV (qCB dIsi (qCons (qVar 0) (qCons (qC (.ty "int")) qNil))) (qAndV (qNotV (qCB dIsi (qCons (qVar 0) (qCons (qC (.ty "bool")) qNil)))) (qChain (dCmpI fun i j => decide (i ≤ j)) (dCmpI fun i j => decide (i ≤ j)) (qVar 1) (qVar 0) (qVar 2)))))
theorem dv_is_whole {k : Nat} (T : Tx w K mg) {p : DSp} (hlen : ∀ ds M Q E, p ds M Q E → ds.length = 3)
    (hs : ∀ ds M Q Ed, upSp p ds M Q Ed → q_is_whole (fun x _ M => Ed x M) (retE Q) (startD N_is_whole ds) M) : FnOk P w K mg base (L2.CX P w) (k + 1) T.f_is_whole.f T.f_is_whole.fd ["thing", "low", "high"] (toSp K p) := by
  refine (fn_ok (p := upSp p) T.f_is_whole.F sc_is_whole (fun ds M Q E ⟨Q0, E0, h, _⟩ => hlen ds M Q0 E0 h) fun cdv A outer s H E hr tk hp => ?_).imp fun _ _ _ _ h => imp_up h
  have nd := sc_is_whole.nd
  have hu64 := hr.units
  have hu := Nat.lt_of_le_of_lt (Nat.add_le_add_left (show 1 ≤ 64 by decide) _) hu64
  exact ⟨_, q_is_whole, (qss_one (qs_ret (q_and (q_callB c_isi rfl T.n_isinstance (by decide +kernel) (qa_cons (qv 0) (qa_cons (qe_c (pe_bltn (v := .ty "int") rfl T.n_int (by decide +kernel) rfl) fun _ => rfl) qa_nil))) (q_and (q_not (q_callB c_isi rfl T.n_isinstance (by decide +kernel) (qa_cons (qv 0) (qa_cons (qe_c (pe_bltn (v := .ty "bool") rfl T.n_bool (by decide +kernel) rfl) fun _ => rfl) qa_nil)))) (q_one (q_chain o_le o_le (qv 1) (qv 0) (qv 2))))))), hs⟩
def q_is_name : DTS :=
  (qSeq (qIfS (qOr (qNot (qTB (qCB dIsi (qCons (qVar 0) (qCons (qC (.ty "str")) qNil))))) (qNot (qTB (qChain (dCmpI fun i j => decide (i ≤ j)) (dCmpI fun i j => decide (i ≤ j)) (qC (.int 1)) (qCB dLen (qCons (qVar 0) qNil)) (qC (.int 8))))))
  (qRet (qC (.bl false)))
  qNext)
  (qRet (qCB dAll (qCons (qLc false (qiAny (qVar 0)) (gNameD 1) qYes (qOp (dIn false) (qVar 1) (qC (.str (PySem.Str.ofString "abcdefghijklmnopqrstuvwxyz")))) [1]) qNil))))
theorem dv_is_name {k : Nat} (T : Tx w K mg) {p : DSp} (hlen : ∀ ds M Q E, p ds M Q E → ds.length = 1)
    (hs : ∀ ds M Q Ed, upSp p ds M Q Ed → q_is_name (fun x _ M => Ed x M) (retE Q) (startD N_is_name ds) M) : FnOk P w K mg base (L2.CX P w) (k + 1) T.f_is_name.f T.f_is_name.fd ["thing"] (toSp K p) := by
  refine (fn_ok (p := upSp p) T.f_is_name.F sc_is_name (fun ds M Q E ⟨Q0, E0, h, _⟩ => hlen ds M Q0 E0 h) fun cdv A outer s H E hr tk hp => ?_).imp fun _ _ _ _ h => imp_up h
  have nd := sc_is_name.nd
  have hu64 := hr.units
  have hu := Nat.lt_of_le_of_lt (Nat.add_le_add_left (show 1 ≤ 64 by decide) _) hu64
  exact ⟨_, q_is_name, (qss_cons (qs_if (QW.t (qw_or (qt_not (qt_val (q_callB c_isi rfl T.n_isinstance (by decide +kernel) (qa_cons (qv 0) (qa_cons (qe_c (pe_bltn (v := .ty "str") rfl T.n_str (by decide +kernel) rfl) fun _ => rfl) qa_nil))))) (qw_or1 (qt_not (qt_chain o_le o_le q_int (q_callB c_len rfl T.n_len (by decide +kernel) (qa_cons (qv 0) qa_nil)) (q_globI rfl T.g_MOST_LETTERS))))))
  (qss_one (qs_ret q_bl))
  qss_nil)
  (qss_one (qs_ret (q_callB (c_all rfl) rfl T.n_all (by decide +kernel) (qa_cons (q_lcX (own := [("sign", 1)]) false rfl nd (qi_any (qv 0)) (blkOk_by (own := [("sign", 1)]) (N := N_is_name) (sc := defScope s_is_name) (by decide +kernel)) (fun _ _ _ _ _ => ⟨_, (qg_nm 1 nd)⟩) (fun _ _ _ _ _ => ⟨_, qts_nil⟩) (fun _ _ _ _ _ => ⟨_, (q_cmp (o_in hu) (qv 1) (q_globS rfl T.g_LETTERS))⟩)) qa_nil))))), hs⟩
def q_is_one_of : DTS :=
  (qRet (qAndV (qCB dIsi (qCons (qVar 0) (qCons (qC (.ty "str")) qNil))) (qOp (dIn false) (qVar 0) (qVar 1))))
theorem dv_is_one_of {k : Nat} (T : Tx w K mg) {p : DSp} (hlen : ∀ ds M Q E, p ds M Q E → ds.length = 2)
    (hs : ∀ ds M Q Ed, upSp p ds M Q Ed → q_is_one_of (fun x _ M => Ed x M) (retE Q) (startD N_is_one_of ds) M) : FnOk P w K mg base (L2.CX P w) (k + 1) T.f_is_one_of.f T.f_is_one_of.fd ["thing", "texts"] (toSp K p) := by
  refine (fn_ok (p := upSp p) T.f_is_one_of.F sc_is_one_of (fun ds M Q E ⟨Q0, E0, h, _⟩ => hlen ds M Q0 E0 h) fun cdv A outer s H E hr tk hp => ?_).imp fun _ _ _ _ h => imp_up h
  have nd := sc_is_one_of.nd
  have hu64 := hr.units
  have hu := Nat.lt_of_le_of_lt (Nat.add_le_add_left (show 1 ≤ 64 by decide) _) hu64
  exact ⟨_, q_is_one_of, (qss_one (qs_ret (q_and (q_callB c_isi rfl T.n_isinstance (by decide +kernel) (qa_cons (qv 0) (qa_cons (qe_c (pe_bltn (v := .ty "str") rfl T.n_str (by decide +kernel) rfl) fun _ => rfl) qa_nil))) (q_one (q_cmp (o_in hu) (qv 0) (qv 1)))))), hs⟩
def q_is_tuple_of : DTS :=
  (qRet (qAndV (qCB dIsi (qCons (qVar 0) (qCons (qC (.ty "tuple")) qNil))) (qOp (dEq false) (qCB dLen (qCons (qVar 0) qNil)) (qVar 1))))
theorem dv_is_tuple_of {k : Nat} (T : Tx w K mg) {p : DSp} (hlen : ∀ ds M Q E, p ds M Q E → ds.length = 2)
    (hs : ∀ ds M Q Ed, upSp p ds M Q Ed → q_is_tuple_of (fun x _ M => Ed x M) (retE Q) (startD N_is_tuple_of ds) M) : FnOk P w K mg base (L2.CX P w) (k + 1) T.f_is_tuple_of.f T.f_is_tuple_of.fd ["thing", "many"] (toSp K p) := by
  refine (fn_ok (p := upSp p) T.f_is_tuple_of.F sc_is_tuple_of (fun ds M Q E ⟨Q0, E0, h, _⟩ => hlen ds M Q0 E0 h) fun cdv A outer s H E hr tk hp => ?_).imp fun _ _ _ _ h => imp_up h
  have nd := sc_is_tuple_of.nd
  have hu64 := hr.units
  have hu := Nat.lt_of_le_of_lt (Nat.add_le_add_left (show 1 ≤ 64 by decide) _) hu64
  exact ⟨_, q_is_tuple_of, (qss_one (qs_ret (q_and (q_callB c_isi rfl T.n_isinstance (by decide +kernel) (qa_cons (qv 0) (qa_cons (qe_c (pe_bltn (v := .ty "tuple") rfl T.n_tuple (by decide +kernel) rfl) fun _ => rfl) qa_nil))) (q_one (q_cmp (o_eq hu64) (q_callB c_len rfl T.n_len (by decide +kernel) (qa_cons (qv 0) qa_nil)) (qv 1)))))), hs⟩
def q_is_kind (sp_is_one_of : DSp) : DTS :=
  (qRet (qCall sp_is_one_of [] (qCons (qVar 0) (qCons (fun _ _ M Q => newL false (K_DUE.map D.str) M Q) qNil))))
theorem dv_is_kind {k : Nat} (T : Tx w K mg) {sp_is_one_of : DSp} (G_is_one_of : FnOk P w K mg base (L2.CX P w) k T.f_is_one_of.f T.f_is_one_of.fd ["thing", "texts"] (toSp K sp_is_one_of)) {p : DSp} (hlen : ∀ ds M Q E, p ds M Q E → ds.length = 1)
    (hs : ∀ ds M Q Ed, upSp p ds M Q Ed → q_is_kind sp_is_one_of (fun x _ M => Ed x M) (retE Q) (startD N_is_kind ds) M) : FnOk P w K mg base (L2.CX P w) (k + 1) T.f_is_kind.f T.f_is_kind.fd ["thing"] (toSp K p) := by
  refine (fn_ok (p := upSp p) T.f_is_kind.F sc_is_kind (fun ds M Q E ⟨Q0, E0, h, _⟩ => hlen ds M Q0 E0 h) fun cdv A outer s H E hr tk hp => ?_).imp fun _ _ _ _ h => imp_up h
  have nd := sc_is_kind.nd
  have hu64 := hr.units
  have hu := Nat.lt_of_le_of_lt (Nat.add_le_add_left (show 1 ≤ 64 by decide) _) hu64
  exact ⟨_, q_is_kind sp_is_one_of, (qss_one (qs_ret (q_call G_is_one_of hr tk rfl T.f_is_one_of.g T.f_is_one_of.F.kp T.f_is_one_of.b .nil (fun _ => rfl) (qa_cons (qv 0) (qa_cons (QE.can (q_listK false T.k_DUE rfl rfl T.n_list rfl (by decide) (by decide +kernel))) qa_nil))))), hs⟩
def q_is_place (sp_is_name : DSp) (sp_is_tuple_of : DSp) (sp_is_whole : DSp) : DTS :=
  (qRet (qAndV (qCall sp_is_tuple_of [] (qCons (qVar 0) (qCons (qC (.int 2)) qNil))) (qAndV (qCall sp_is_name [] (qCons (qOp dIx (qVar 0) (qC (.int 0))) qNil)) (qCall sp_is_whole [] (qCons (qOp dIx (qVar 0) (qC (.int 1))) (qCons (qC (.int 1)) (qCons (qC (.int 4)) qNil)))))))
theorem dv_is_place {k : Nat} (T : Tx w K mg) {sp_is_name : DSp} (G_is_name : FnOk P w K mg base (L2.CX P w) k T.f_is_name.f T.f_is_name.fd ["thing"] (toSp K sp_is_name)) {sp_is_tuple_of : DSp} (G_is_tuple_of : FnOk P w K mg base (L2.CX P w) k T.f_is_tuple_of.f T.f_is_tuple_of.fd ["thing", "many"] (toSp K sp_is_tuple_of)) {sp_is_whole : DSp} (G_is_whole : FnOk P w K mg base (L2.CX P w) k T.f_is_whole.f T.f_is_whole.fd ["thing", "low", "high"] (toSp K sp_is_whole)) {p : DSp} (hlen : ∀ ds M Q E, p ds M Q E → ds.length = 1)
    (hs : ∀ ds M Q Ed, upSp p ds M Q Ed → q_is_place sp_is_name sp_is_tuple_of sp_is_whole (fun x _ M => Ed x M) (retE Q) (startD N_is_place ds) M) : FnOk P w K mg base (L2.CX P w) (k + 1) T.f_is_place.f T.f_is_place.fd ["thing"] (toSp K p) := by
  refine (fn_ok (p := upSp p) T.f_is_place.F sc_is_place (fun ds M Q E ⟨Q0, E0, h, _⟩ => hlen ds M Q0 E0 h) fun cdv A outer s H E hr tk hp => ?_).imp fun _ _ _ _ h => imp_up h
  have nd := sc_is_place.nd
  have hu64 := hr.units
  have hu := Nat.lt_of_le_of_lt (Nat.add_le_add_left (show 1 ≤ 64 by decide) _) hu64
  exact ⟨_, q_is_place sp_is_name sp_is_tuple_of sp_is_whole, (qss_one (qs_ret (q_and (q_call G_is_tuple_of hr tk rfl T.f_is_tuple_of.g T.f_is_tuple_of.F.kp T.f_is_tuple_of.b .nil (fun _ => rfl) (qa_cons (qv 0) (qa_cons q_int qa_nil))) (q_and (q_call G_is_name hr tk rfl T.f_is_name.g T.f_is_name.F.kp T.f_is_name.b .nil (fun _ => rfl) (qa_cons (q_ix hu (qv 0) q_int) qa_nil)) (q_one (q_call G_is_whole hr tk rfl T.f_is_whole.g T.f_is_whole.F.kp T.f_is_whole.b .nil (fun _ => rfl) (qa_cons (q_ix hu (qv 0) q_int) (qa_cons q_int (qa_cons (q_globI rfl T.g_MOST_RISK) qa_nil))))))))), hs⟩
def q_places_fault (sp_is_place : DSp) : DTS :=
  (qSeq (qIfS (qOr (qNot (qTB (qCB dIsi (qCons (qVar 0) (qCons (qC (.ty "tuple")) qNil))))) (qNot (qTB (qChain (dCmpI fun i j => decide (i ≤ j)) (dCmpI fun i j => decide (i ≤ j)) (qC (.int 1)) (qCB dLen (qCons (qVar 0) qNil)) (qC (.int 40))))))
  (qRet (qUn dNeg (qC (.int 1))))
  qNext)
  (qSeq (qAsg qDNew (gNameD 1))
  (qSeq (qFor (qiEnum0 (qCons (qVar 0) qNil)) (gTupD 2 (gConsD (gNameD 2) (gConsD (gNameD 3) gNilD)))
  (qSeq (qIfS (qOr (qNot (qTB (qCall sp_is_place [] (qCons (qVar 3) qNil)))) (qTB (qOp (dIn false) (qOp dIx (qVar 3) (qC (.int 0))) (qVar 1))))
  (qRet (qVar 2))
  qNext)
  (qAsg (qC (.bl true)) (gSubD (qVar 1) (qOp dIx (qVar 3) (qC (.int 0)))))))
  (qRet (qC .non)))))
theorem dv_places_fault {k : Nat} (T : Tx w K mg) {sp_is_place : DSp} (G_is_place : FnOk P w K mg base (L2.CX P w) k T.f_is_place.f T.f_is_place.fd ["thing"] (toSp K sp_is_place)) {p : DSp} (hlen : ∀ ds M Q E, p ds M Q E → ds.length = 1)
    (hs : ∀ ds M Q Ed, upSp p ds M Q Ed → q_places_fault sp_is_place (fun x _ M => Ed x M) (retE Q) (startD N_places_fault ds) M) : FnOk P w K mg base (L2.CX P w) (k + 1) T.f_places_fault.f T.f_places_fault.fd ["thing"] (toSp K p) := by
  refine (fn_ok (p := upSp p) T.f_places_fault.F sc_places_fault (fun ds M Q E ⟨Q0, E0, h, _⟩ => hlen ds M Q0 E0 h) fun cdv A outer s H E hr tk hp => ?_).imp fun _ _ _ _ h => imp_up h
  have nd := sc_places_fault.nd
  have hu64 := hr.units
  have hu := Nat.lt_of_le_of_lt (Nat.add_le_add_left (show 1 ≤ 64 by decide) _) hu64
  exact ⟨_, q_places_fault sp_is_place, (qss_cons (qs_if (QW.t (qw_or (qt_not (qt_val (q_callB c_isi rfl T.n_isinstance (by decide +kernel) (qa_cons (qv 0) (qa_cons (qe_c (pe_bltn (v := .ty "tuple") rfl T.n_tuple (by decide +kernel) rfl) fun _ => rfl) qa_nil))))) (qw_or1 (qt_not (qt_chain o_le o_le q_int (q_callB c_len rfl T.n_len (by decide +kernel) (qa_cons (qv 0) qa_nil)) (q_globI rfl T.g_MOST_PLACES))))))
  (qss_one (qs_ret (q_neg q_int)))
  qss_nil)
  (qss_cons (qs_setN 1 nd q_dnew)
  (qss_cons (qs_for (ix := [2, 3]) hp rfl (qi_enum0 rfl T.n_enumerate (qa_cons (qv 0) qa_nil)) (qg_tup rfl (qgs_cons (qg_nm 2 nd) (qgs_cons (qg_nm 3 nd) qgs_nil)))
  (qss_cons (qs_if (QW.t (qw_or (qt_not (qt_val (q_call G_is_place hr tk rfl T.f_is_place.g T.f_is_place.F.kp T.f_is_place.b .nil (fun _ => rfl) (qa_cons (qv 3) qa_nil)))) (qw_or1 (qt_cmp (o_in hu) (q_ix hu (qv 3) q_int) (qv 1)))))
  (qss_one (qs_ret (qv 2)))
  qss_nil)
  (qss_one (qs_asg (ix := []) q_bl (qg_sub hu (qv 1) (q_ix hu (qv 3) q_int))))))
  (qss_one (qs_ret q_non))))), hs⟩
def q_is_road (sp_is_one_of : DSp) (sp_is_tuple_of : DSp) (sp_is_whole : DSp) : DTS :=
  (qSeq (qIfS (qOr (qNot (qTB (qCall sp_is_tuple_of [] (qCons (qVar 1) (qCons (qC (.int 4)) qNil))))) (qOr (qNot (qTB (qCall sp_is_one_of [] (qCons (qOp dIx (qVar 1) (qC (.int 0))) (qCons (qVar 0) qNil))))) (qNot (qTB (qCall sp_is_one_of [] (qCons (qOp dIx (qVar 1) (qC (.int 1))) (qCons (qVar 0) qNil)))))))
  (qRet (qC (.bl false)))
  qNext)
  (qRet (qAndV (qOp (dEq true) (qOp dIx (qVar 1) (qC (.int 0))) (qOp dIx (qVar 1) (qC (.int 1)))) (qAndV (qCall sp_is_whole [] (qCons (qOp dIx (qVar 1) (qC (.int 2))) (qCons (qC (.int 1)) (qCons (qC (.int 60)) qNil)))) (qCall sp_is_whole [] (qCons (qOp dIx (qVar 1) (qC (.int 3))) (qCons (qC (.int 0)) (qCons (qC (.int 60)) qNil))))))))
theorem dv_is_road {k : Nat} (T : Tx w K mg) {sp_is_one_of : DSp} (G_is_one_of : FnOk P w K mg base (L2.CX P w) k T.f_is_one_of.f T.f_is_one_of.fd ["thing", "texts"] (toSp K sp_is_one_of)) {sp_is_tuple_of : DSp} (G_is_tuple_of : FnOk P w K mg base (L2.CX P w) k T.f_is_tuple_of.f T.f_is_tuple_of.fd ["thing", "many"] (toSp K sp_is_tuple_of)) {sp_is_whole : DSp} (G_is_whole : FnOk P w K mg base (L2.CX P w) k T.f_is_whole.f T.f_is_whole.fd ["thing", "low", "high"] (toSp K sp_is_whole)) {p : DSp} (hlen : ∀ ds M Q E, p ds M Q E → ds.length = 2)
    (hs : ∀ ds M Q Ed, upSp p ds M Q Ed → q_is_road sp_is_one_of sp_is_tuple_of sp_is_whole (fun x _ M => Ed x M) (retE Q) (startD N_is_road ds) M) : FnOk P w K mg base (L2.CX P w) (k + 1) T.f_is_road.f T.f_is_road.fd ["names", "thing"] (toSp K p) := by
  refine (fn_ok (p := upSp p) T.f_is_road.F sc_is_road (fun ds M Q E ⟨Q0, E0, h, _⟩ => hlen ds M Q0 E0 h) fun cdv A outer s H E hr tk hp => ?_).imp fun _ _ _ _ h => imp_up h
  have nd := sc_is_road.nd
  have hu64 := hr.units
  have hu := Nat.lt_of_le_of_lt (Nat.add_le_add_left (show 1 ≤ 64 by decide) _) hu64
  exact ⟨_, q_is_road sp_is_one_of sp_is_tuple_of sp_is_whole, (qss_cons (qs_if (QW.t (qw_or (qt_not (qt_val (q_call G_is_tuple_of hr tk rfl T.f_is_tuple_of.g T.f_is_tuple_of.F.kp T.f_is_tuple_of.b .nil (fun _ => rfl) (qa_cons (qv 1) (qa_cons q_int qa_nil))))) (qw_or (qt_not (qt_val (q_call G_is_one_of hr tk rfl T.f_is_one_of.g T.f_is_one_of.F.kp T.f_is_one_of.b .nil (fun _ => rfl) (qa_cons (q_ix hu (qv 1) q_int) (qa_cons (qv 0) qa_nil))))) (qw_or1 (qt_not (qt_val (q_call G_is_one_of hr tk rfl T.f_is_one_of.g T.f_is_one_of.F.kp T.f_is_one_of.b .nil (fun _ => rfl) (qa_cons (q_ix hu (qv 1) q_int) (qa_cons (qv 0) qa_nil)))))))))
  (qss_one (qs_ret q_bl))
  qss_nil)
  (qss_one (qs_ret (q_and (q_cmp (o_ne hu64) (q_ix hu (qv 1) q_int) (q_ix hu (qv 1) q_int)) (q_and (q_call G_is_whole hr tk rfl T.f_is_whole.g T.f_is_whole.F.kp T.f_is_whole.b .nil (fun _ => rfl) (qa_cons (q_ix hu (qv 1) q_int) (qa_cons q_int (qa_cons (q_globI rfl T.g_MOST_MINUTES) qa_nil)))) (q_one (q_call G_is_whole hr tk rfl T.f_is_whole.g T.f_is_whole.F.kp T.f_is_whole.b .nil (fun _ => rfl) (qa_cons (q_ix hu (qv 1) q_int) (qa_cons q_int (qa_cons (q_globI rfl T.g_MOST_MINUTES) qa_nil)))))))))), hs⟩
def q_roads_fault (sp_is_road : DSp) : DTS :=
  (qSeq (qIfS (qOr (qNot (qTB (qCB dIsi (qCons (qVar 1) (qCons (qC (.ty "tuple")) qNil))))) (qTB (qOp (dCmpI fun i j => decide (j < i)) (qCB dLen (qCons (qVar 1) qNil)) (qC (.int 80)))))
  (qRet (qUn dNeg (qC (.int 1))))
  qNext)
  (qSeq (qAsg qDNewT (gNameD 2))
  (qSeq (qFor (qiEnum0 (qCons (qVar 1) qNil)) (gTupD 2 (gConsD (gNameD 3) (gConsD (gNameD 4) gNilD)))
  (qSeq (qIfS (qOr (qNot (qTB (qCall sp_is_road [] (qCons (qVar 0) (qCons (qVar 4) qNil))))) (qTB (qOp (dIn false) (qCB dTuple (qCons (qCB (dSortU false) (qCons (qSl false (qVar 4) qNoPart (qPart (qC (.int 2)))) qNil)) qNil)) (qVar 2))))
  (qRet (qVar 3))
  qNext)
  (qAsg (qC (.bl true)) (gSubD (qVar 2) (qCB dTuple (qCons (qCB (dSortU false) (qCons (qSl false (qVar 4) qNoPart (qPart (qC (.int 2)))) qNil)) qNil))))))
  (qRet (qC .non)))))
theorem dv_roads_fault {k : Nat} (T : Tx w K mg) {sp_is_road : DSp} (G_is_road : FnOk P w K mg base (L2.CX P w) k T.f_is_road.f T.f_is_road.fd ["names", "thing"] (toSp K sp_is_road)) {p : DSp} (hlen : ∀ ds M Q E, p ds M Q E → ds.length = 2)
    (hs : ∀ ds M Q Ed, upSp p ds M Q Ed → q_roads_fault sp_is_road (fun x _ M => Ed x M) (retE Q) (startD N_roads_fault ds) M) : FnOk P w K mg base (L2.CX P w) (k + 1) T.f_roads_fault.f T.f_roads_fault.fd ["names", "thing"] (toSp K p) := by
  refine (fn_ok (p := upSp p) T.f_roads_fault.F sc_roads_fault (fun ds M Q E ⟨Q0, E0, h, _⟩ => hlen ds M Q0 E0 h) fun cdv A outer s H E hr tk hp => ?_).imp fun _ _ _ _ h => imp_up h
  have nd := sc_roads_fault.nd
  have hu64 := hr.units
  have hu := Nat.lt_of_le_of_lt (Nat.add_le_add_left (show 1 ≤ 64 by decide) _) hu64
  exact ⟨_, q_roads_fault sp_is_road, (qss_cons (qs_if (QW.t (qw_or (qt_not (qt_val (q_callB c_isi rfl T.n_isinstance (by decide +kernel) (qa_cons (qv 1) (qa_cons (qe_c (pe_bltn (v := .ty "tuple") rfl T.n_tuple (by decide +kernel) rfl) fun _ => rfl) qa_nil))))) (qw_or1 (qt_cmp o_gt (q_callB c_len rfl T.n_len (by decide +kernel) (qa_cons (qv 1) qa_nil)) (q_globI rfl T.g_MOST_ROADS)))))
  (qss_one (qs_ret (q_neg q_int)))
  qss_nil)
  (qss_cons (qs_setN 2 nd q_dnewT)
  (qss_cons (qs_for (ix := [3, 4]) hp rfl (qi_enum0 rfl T.n_enumerate (qa_cons (qv 1) qa_nil)) (qg_tup rfl (qgs_cons (qg_nm 3 nd) (qgs_cons (qg_nm 4 nd) qgs_nil)))
  (qss_cons (qs_if (QW.t (qw_or (qt_not (qt_val (q_call G_is_road hr tk rfl T.f_is_road.g T.f_is_road.F.kp T.f_is_road.b .nil (fun _ => rfl) (qa_cons (qv 0) (qa_cons (qv 4) qa_nil))))) (qw_or1 (qt_cmp (o_in hu) (q_callTy c_tuple rfl T.n_tuple (by decide +kernel) (qa_cons (q_callB (c_sortU false) rfl T.n_sorted (by decide +kernel) (qa_cons (q_slice false (qv 4) qo_none (qo_some q_int)) qa_nil)) qa_nil)) (qv 2)))))
  (qss_one (qs_ret (qv 3)))
  qss_nil)
  (qss_one (qs_asg (ix := []) q_bl (qg_sub hu (qv 2) (q_callTy c_tuple rfl T.n_tuple (by decide +kernel) (qa_cons (q_callB (c_sortU false) rfl T.n_sorted (by decide +kernel) (qa_cons (q_slice false (qv 4) qo_none (qo_some q_int)) qa_nil)) qa_nil)))))))
  (qss_one (qs_ret q_non))))), hs⟩
def q_stations_fault (sp_is_one_of : DSp) : DTS :=
  (qSeq (qIfS (qOr (qNot (qTB (qCB dIsi (qCons (qVar 1) (qCons (qC (.ty "tuple")) qNil))))) (qTB (qOp (dCmpI fun i j => decide (j < i)) (qCB dLen (qCons (qVar 1) qNil)) (qC (.int 12)))))
  (qRet (qUn dNeg (qC (.int 1))))
  qNext)
  (qSeq (qFor (qiEnum0 (qCons (qVar 1) qNil)) (gTupD 2 (gConsD (gNameD 2) (gConsD (gNameD 3) gNilD)))
  (qIfS (qOr (qNot (qTB (qCall sp_is_one_of [] (qCons (qVar 3) (qCons (qVar 0) qNil))))) (qTB (qOp (dIn false) (qVar 3) (qSl false (qVar 1) qNoPart (qPart (qVar 2))))))
  (qRet (qVar 2))
  qNext))
  (qRet (qC .non))))
theorem dv_stations_fault {k : Nat} (T : Tx w K mg) {sp_is_one_of : DSp} (G_is_one_of : FnOk P w K mg base (L2.CX P w) k T.f_is_one_of.f T.f_is_one_of.fd ["thing", "texts"] (toSp K sp_is_one_of)) {p : DSp} (hlen : ∀ ds M Q E, p ds M Q E → ds.length = 2)
    (hs : ∀ ds M Q Ed, upSp p ds M Q Ed → q_stations_fault sp_is_one_of (fun x _ M => Ed x M) (retE Q) (startD N_stations_fault ds) M) : FnOk P w K mg base (L2.CX P w) (k + 1) T.f_stations_fault.f T.f_stations_fault.fd ["names", "thing"] (toSp K p) := by
  refine (fn_ok (p := upSp p) T.f_stations_fault.F sc_stations_fault (fun ds M Q E ⟨Q0, E0, h, _⟩ => hlen ds M Q0 E0 h) fun cdv A outer s H E hr tk hp => ?_).imp fun _ _ _ _ h => imp_up h
  have nd := sc_stations_fault.nd
  have hu64 := hr.units
  have hu := Nat.lt_of_le_of_lt (Nat.add_le_add_left (show 1 ≤ 64 by decide) _) hu64
  exact ⟨_, q_stations_fault sp_is_one_of, (qss_cons (qs_if (QW.t (qw_or (qt_not (qt_val (q_callB c_isi rfl T.n_isinstance (by decide +kernel) (qa_cons (qv 1) (qa_cons (qe_c (pe_bltn (v := .ty "tuple") rfl T.n_tuple (by decide +kernel) rfl) fun _ => rfl) qa_nil))))) (qw_or1 (qt_cmp o_gt (q_callB c_len rfl T.n_len (by decide +kernel) (qa_cons (qv 1) qa_nil)) (q_globI rfl T.g_MOST_STATIONS)))))
  (qss_one (qs_ret (q_neg q_int)))
  qss_nil)
  (qss_cons (qs_for (ix := [2, 3]) hp rfl (qi_enum0 rfl T.n_enumerate (qa_cons (qv 1) qa_nil)) (qg_tup rfl (qgs_cons (qg_nm 2 nd) (qgs_cons (qg_nm 3 nd) qgs_nil)))
  (qss_one (qs_if (QW.t (qw_or (qt_not (qt_val (q_call G_is_one_of hr tk rfl T.f_is_one_of.g T.f_is_one_of.F.kp T.f_is_one_of.b .nil (fun _ => rfl) (qa_cons (qv 3) (qa_cons (qv 0) qa_nil))))) (qw_or1 (qt_cmp (o_in hu) (qv 3) (q_slice false (qv 1) qo_none (qo_some (qv 2)))))))
  (qss_one (qs_ret (qv 2)))
  qss_nil)))
  (qss_one (qs_ret q_non)))), hs⟩
def q_need (c_NoGround : Addr) : DTS :=
  (qIfS (qTB (qOp (dIs true) (qVar 1) (qC .non)))
  (qRaise c_NoGround [(PySem.Str.ofString "part"), (PySem.Str.ofString "at")] (qCons (qVar 0) (qCons (qVar 1) qNil)))
  qNext)
theorem dv_need {k : Nat} (hk : 2 ≤ k) (T : Tx w K mg) {p : DSp} (hlen : ∀ ds M Q E, p ds M Q E → ds.length = 2)
    (hs : ∀ ds M Q Ed, upSp p ds M Q Ed → q_need T.c_NoGround.C (fun x _ M => Ed x M) (retE Q) (startD N_need ds) M) : FnOk P w K mg base (L2.CX P w) (k + 1) T.f_need.f T.f_need.fd ["part", "at"] (toSp K p) := by
  refine (fn_ok (p := upSp p) T.f_need.F sc_need (fun ds M Q E ⟨Q0, E0, h, _⟩ => hlen ds M Q0 E0 h) fun cdv A outer s H E hr tk hp => ?_).imp fun _ _ _ _ h => imp_up h
  have nd := sc_need.nd
  have hu64 := hr.units
  have hu := Nat.lt_of_le_of_lt (Nat.add_le_add_left (show 1 ≤ 64 by decide) _) hu64
  exact ⟨_, q_need T.c_NoGround.C, (qss_one (qs_if (qt_cmp o_isnot (qv 1) q_non)
  (qss_one (qs_raise2 baseX_ValueError T.c_NoGround.p (in_NoGround T) (hr.mono hk) tk rfl (qa_cons (qv 0) (qa_cons (qv 1) qa_nil))))
  qss_nil)), hs⟩
def q_Ground___init__ (c_Ground : Addr) (sp_need : DSp) (sp_places_fault : DSp) (sp_roads_fault : DSp) (sp_stations_fault : DSp) : DTS :=
  (qSeq (qDrop (qCall sp_need [] (qCons (qC (.str (PySem.Str.ofString "places"))) (qCons (qCall sp_places_fault [] (qCons (qVar 1) qNil)) qNil))))
  (qSeq (qSetF c_Ground F_Ground 0 (PySem.Str.ofString "risks") (qVar 0) (qFrzE (qCB dDict (qCons (qVar 1) qNil))))
  (qSeq (qDrop (qCall sp_need [] (qCons (qC (.str (PySem.Str.ofString "roads"))) (qCons (qCall sp_roads_fault [] (qCons (qFld c_Ground F_Ground 0 (qVar 0)) (qCons (qVar 2) qNil))) qNil))))
  (qSeq (qDrop (qCall sp_need [] (qCons (qC (.str (PySem.Str.ofString "stations"))) (qCons (qCall sp_stations_fault [] (qCons (qFld c_Ground F_Ground 0 (qVar 0)) (qCons (qVar 3) qNil))) qNil))))
  (qSeq (qSetF c_Ground F_Ground 1 (PySem.Str.ofString "places") (qVar 0) (qVar 1))
  (qSeq (qSetF c_Ground F_Ground 2 (PySem.Str.ofString "roads") (qVar 0) (qVar 2))
  (qSetF c_Ground F_Ground 3 (PySem.Str.ofString "stations") (qVar 0) (qVar 3))))))))
theorem dv_Ground___init__ {k : Nat} (T : Tx w K mg) {sp_need : DSp} (G_need : FnOk P w K mg base (L2.CX P w) k T.f_need.f T.f_need.fd ["part", "at"] (toSp K sp_need)) {sp_places_fault : DSp} (G_places_fault : FnOk P w K mg base (L2.CX P w) k T.f_places_fault.f T.f_places_fault.fd ["thing"] (toSp K sp_places_fault)) {sp_roads_fault : DSp} (G_roads_fault : FnOk P w K mg base (L2.CX P w) k T.f_roads_fault.f T.f_roads_fault.fd ["names", "thing"] (toSp K sp_roads_fault)) {sp_stations_fault : DSp} (G_stations_fault : FnOk P w K mg base (L2.CX P w) k T.f_stations_fault.f T.f_stations_fault.fd ["names", "thing"] (toSp K sp_stations_fault)) {p : DSp} (hlen : ∀ ds M Q E, p ds M Q E → ds.length = 4)
    (hs : ∀ ds M Q Ed, upSp p ds M Q Ed → q_Ground___init__ T.c_Ground.C sp_need sp_places_fault sp_roads_fault sp_stations_fault (fun x _ M => Ed x M) (retE Q) (startD N_Ground___init__ ds) M) : FnOk P w K mg base (L2.CX P w) (k + 1) T.f_Ground___init__.f T.f_Ground___init__.fd ["self", "places", "roads", "stations"] (toSp K p) := by
  refine (fn_ok (p := upSp p) T.f_Ground___init__.F sc_Ground___init__ (fun ds M Q E ⟨Q0, E0, h, _⟩ => hlen ds M Q0 E0 h) fun cdv A outer s H E hr tk hp => ?_).imp fun _ _ _ _ h => imp_up h
  have nd := sc_Ground___init__.nd
  have hu64 := hr.units
  have hu := Nat.lt_of_le_of_lt (Nat.add_le_add_left (show 1 ≤ 64 by decide) _) hu64
  exact ⟨_, q_Ground___init__ T.c_Ground.C sp_need sp_places_fault sp_roads_fault sp_stations_fault, (qss_cons (qs_expr (q_call G_need hr tk rfl T.f_need.g T.f_need.F.kp T.f_need.b .nil (fun _ => rfl) (qa_cons q_str (qa_cons (q_call G_places_fault hr tk rfl T.f_places_fault.g T.f_places_fault.F.kp T.f_places_fault.b .nil (fun _ => rfl) (qa_cons (qv 1) qa_nil)) qa_nil))))
  (qss_cons (qs_setF (fs := F_Ground) (i := 0) T.c_Ground.cl (T.c_Ground.no _ (by simp)) (qv 0) (q_frzE (q_callTy (c_dict rfl) rfl T.n_dict (by decide +kernel) (qa_cons (qv 1) qa_nil))) (by decide +kernel))
  (qss_cons (qs_expr (q_call G_need hr tk rfl T.f_need.g T.f_need.F.kp T.f_need.b .nil (fun _ => rfl) (qa_cons q_str (qa_cons (q_call G_roads_fault hr tk rfl T.f_roads_fault.g T.f_roads_fault.F.kp T.f_roads_fault.b .nil (fun _ => rfl) (qa_cons (q_fld T.c_Ground.cl (T.c_Ground.no _ (by simp)) (qv 0) (fs := F_Ground) (i := 0) (by decide +kernel)) (qa_cons (qv 2) qa_nil))) qa_nil))))
  (qss_cons (qs_expr (q_call G_need hr tk rfl T.f_need.g T.f_need.F.kp T.f_need.b .nil (fun _ => rfl) (qa_cons q_str (qa_cons (q_call G_stations_fault hr tk rfl T.f_stations_fault.g T.f_stations_fault.F.kp T.f_stations_fault.b .nil (fun _ => rfl) (qa_cons (q_fld T.c_Ground.cl (T.c_Ground.no _ (by simp)) (qv 0) (fs := F_Ground) (i := 0) (by decide +kernel)) (qa_cons (qv 3) qa_nil))) qa_nil))))
  (qss_cons (qs_setF (fs := F_Ground) (i := 1) T.c_Ground.cl (T.c_Ground.no _ (by simp)) (qv 0) (qv 1) (by decide +kernel))
  (qss_cons (qs_setF (fs := F_Ground) (i := 2) T.c_Ground.cl (T.c_Ground.no _ (by simp)) (qv 0) (qv 2) (by decide +kernel))
  (qss_one (qs_setF (fs := F_Ground) (i := 3) T.c_Ground.cl (T.c_Ground.no _ (by simp)) (qv 0) (qv 3) (by decide +kernel))))))))), hs⟩
def q_is_sort (c_Ground : Addr) (sp_is_kind : DSp) (sp_is_one_of : DSp) (sp_is_whole : DSp) : DTS :=
  (qSeq (qIfS (qTB (qOp (dEq false) (qVar 2) (qC (.str (PySem.Str.ofString "call")))))
  (qRet (qCall sp_is_whole [] (qCons (qVar 3) (qCons (qC (.int 1)) (qCons (qC (.int 200)) qNil)))))
  qNext)
  (qSeq (qIfS (qTB (qOp (dEq false) (qVar 2) (qC (.str (PySem.Str.ofString "pumps")))))
  (qRet (qCall sp_is_whole [] (qCons (qVar 3) (qCons (qC (.int 1)) (qCons (qC (.int 20)) qNil)))))
  qNext)
  (qSeq (qIfS (qTB (qOp (dEq false) (qVar 2) (qC (.str (PySem.Str.ofString "road")))))
  (qRet (qCall sp_is_whole [] (qCons (qVar 3) (qCons (qC (.int 0)) (qCons (qOp (dInt0 fun i j => i - j) (qCB dLen (qCons (qFld c_Ground F_Ground 2 (qVar 0)) qNil)) (qC (.int 1))) qNil)))))
  qNext)
  (qSeq (qIfS (qTB (qOp (dEq false) (qVar 2) (qC (.str (PySem.Str.ofString "kind")))))
  (qRet (qCall sp_is_kind [] (qCons (qVar 3) qNil)))
  qNext)
  (qSeq (qAsg (qFrzE (qDisp [((qC (.str (PySem.Str.ofString "place"))), (qLc false (qiAny (qFld c_Ground F_Ground 1 (qVar 0))) (gTupD 2 (gConsD (gNameD 5) (gConsD (gNameD 6) gNilD))) qYes (qVar 5) [5, 6])), ((qC (.str (PySem.Str.ofString "station"))), (qCB (dList false) (qCons (qFld c_Ground F_Ground 3 (qVar 0)) qNil)))])) (gNameD 4))
  (qRet (qCall sp_is_one_of [] (qCons (qVar 3) (qCons (qDGet2 (qVar 4) (qVar 2) (qLc false (qiAny (qVar 1)) (gNameD 7) qYes (qOp dIx (qVar 7) (qC (.int 0))) [7])) qNil)))))))))
theorem dv_is_sort {k : Nat} (T : Tx w K mg) {sp_is_kind : DSp} (G_is_kind : FnOk P w K mg base (L2.CX P w) k T.f_is_kind.f T.f_is_kind.fd ["thing"] (toSp K sp_is_kind)) {sp_is_one_of : DSp} (G_is_one_of : FnOk P w K mg base (L2.CX P w) k T.f_is_one_of.f T.f_is_one_of.fd ["thing", "texts"] (toSp K sp_is_one_of)) {sp_is_whole : DSp} (G_is_whole : FnOk P w K mg base (L2.CX P w) k T.f_is_whole.f T.f_is_whole.fd ["thing", "low", "high"] (toSp K sp_is_whole)) {p : DSp} (hlen : ∀ ds M Q E, p ds M Q E → ds.length = 4)
    (hs : ∀ ds M Q Ed, upSp p ds M Q Ed → q_is_sort T.c_Ground.C sp_is_kind sp_is_one_of sp_is_whole (fun x _ M => Ed x M) (retE Q) (startD N_is_sort ds) M) : FnOk P w K mg base (L2.CX P w) (k + 1) T.f_is_sort.f T.f_is_sort.fd ["ground", "engines", "sort", "thing"] (toSp K p) := by
  refine (fn_ok (p := upSp p) T.f_is_sort.F sc_is_sort (fun ds M Q E ⟨Q0, E0, h, _⟩ => hlen ds M Q0 E0 h) fun cdv A outer s H E hr tk hp => ?_).imp fun _ _ _ _ h => imp_up h
  have nd := sc_is_sort.nd
  have hu64 := hr.units
  have hu := Nat.lt_of_le_of_lt (Nat.add_le_add_left (show 1 ≤ 64 by decide) _) hu64
  exact ⟨_, q_is_sort T.c_Ground.C sp_is_kind sp_is_one_of sp_is_whole, (qss_cons (qs_if (qt_cmp (o_eq hu64) (qv 2) q_str)
  (qss_one (qs_ret (q_call G_is_whole hr tk rfl T.f_is_whole.g T.f_is_whole.F.kp T.f_is_whole.b .nil (fun _ => rfl) (qa_cons (qv 3) (qa_cons q_int (qa_cons (q_globI rfl T.g_MOST_CALLS) qa_nil))))))
  qss_nil)
  (qss_cons (qs_if (qt_cmp (o_eq hu64) (qv 2) q_str)
  (qss_one (qs_ret (q_call G_is_whole hr tk rfl T.f_is_whole.g T.f_is_whole.F.kp T.f_is_whole.b .nil (fun _ => rfl) (qa_cons (qv 3) (qa_cons q_int (qa_cons (q_globI rfl T.g_MOST_PUMPS) qa_nil))))))
  qss_nil)
  (qss_cons (qs_if (qt_cmp (o_eq hu64) (qv 2) q_str)
  (qss_one (qs_ret (q_call G_is_whole hr tk rfl T.f_is_whole.g T.f_is_whole.F.kp T.f_is_whole.b .nil (fun _ => rfl) (qa_cons (qv 3) (qa_cons q_int (qa_cons (q_op o_sub (q_callB c_len rfl T.n_len (by decide +kernel) (qa_cons (q_fld T.c_Ground.cl (T.c_Ground.no _ (by simp)) (qv 0) (fs := F_Ground) (i := 2) (by decide +kernel)) qa_nil)) q_int) qa_nil))))))
  qss_nil)
  (qss_cons (qs_if (qt_cmp (o_eq hu64) (qv 2) q_str)
  (qss_one (qs_ret (q_call G_is_kind hr tk rfl T.f_is_kind.g T.f_is_kind.F.kp T.f_is_kind.b .nil (fun _ => rfl) (qa_cons (qv 3) qa_nil))))
  qss_nil)
  (qss_cons (qs_setN 4 nd (q_frzE (q_disp (.cons q_str (q_lcX (own := [("name", 5), ("risk", 6)]) false rfl nd (qi_any (q_fld T.c_Ground.cl (T.c_Ground.no _ (by simp)) (qv 0) (fs := F_Ground) (i := 1) (by decide +kernel))) (blkOk_by (own := [("name", 5), ("risk", 6)]) (N := N_is_sort) (sc := defScope s_is_sort) (by decide +kernel)) (fun _ _ _ _ _ => ⟨_, (qg_tup rfl (qgs_cons (qg_nm 5 nd) (qgs_cons (qg_nm 6 nd) qgs_nil)))⟩) (fun _ _ _ _ _ => ⟨_, qts_nil⟩) (fun _ _ _ _ _ => ⟨_, (qv 5)⟩)) (.cons q_str (q_callTy (c_list false) rfl T.n_list (by decide +kernel) (qa_cons (q_fld T.c_Ground.cl (T.c_Ground.no _ (by simp)) (qv 0) (fs := F_Ground) (i := 3) (by decide +kernel)) qa_nil)) .nil)))))
  (qss_one (qs_ret (q_call G_is_one_of hr tk rfl T.f_is_one_of.g T.f_is_one_of.F.kp T.f_is_one_of.b .nil (fun _ => rfl) (qa_cons (qv 3) (qa_cons (q_dget2 hu (qv 4) (qv 2) (q_lcX (own := [("engine", 7)]) false rfl nd (qi_any (qv 1)) (blkOk_by (own := [("engine", 7)]) (N := N_is_sort) (sc := defScope s_is_sort) (by decide +kernel)) (fun _ _ _ _ _ => ⟨_, (qg_nm 7 nd)⟩) (fun _ _ _ _ _ => ⟨_, qts_nil⟩) (fun _ _ _ _ _ => ⟨_, (q_ix hu (qv 7) q_int)⟩)) ⟨rfl, rfl, rfl, rfl⟩) qa_nil)))))))))), hs⟩
def q_fault (sp_is_one_of : DSp) (sp_is_sort : DSp) : DTS :=
  (qSeq (qIfS (qOr (qNot (qTB (qCB dIsi (qCons (qVar 2) (qCons (qC (.ty "tuple")) qNil))))) (qOr (qTB (qOp (dEq false) (qCB dLen (qCons (qVar 2) qNil)) (qC (.int 0)))) (qNot (qTB (qCall sp_is_one_of [] (qCons (qOp dIx (qVar 2) (qC (.int 0))) (qCons (fun _ _ M Q => newL false (K_FORMS.map D.str) M Q) qNil)))))))
  (qRet (qC (.int 0)))
  qNext)
  (qSeq (qAsg (qUn (dIxK D_FORMS) (qOp dIx (qVar 2) (qC (.int 0)))) (gNameD 3))
  (qSeq (qIfS (qTB (qOp (dEq true) (qCB dLen (qCons (qVar 2) qNil)) (qOp (dAdd false) (qC (.int 1)) (qCB dLen (qCons (qVar 3) qNil)))))
  (qRet (qC (.int 0)))
  qNext)
  (qSeq (qFor (qiEnumC (qCons (qVar 3) qNil) (qCons (qC (.int 1)) qNil)) (gTupD 2 (gConsD (gNameD 4) (gConsD (gNameD 5) gNilD)))
  (qIfS (qNot (qTB (qCall sp_is_sort [] (qCons (qVar 0) (qCons (qVar 1) (qCons (qVar 5) (qCons (qOp dIx (qVar 2) (qVar 4)) qNil)))))))
  (qRet (qVar 4))
  qNext))
  (qRet (qUn dNeg (qC (.int 1))))))))
theorem dv_fault {k : Nat} (T : Tx w K mg) {sp_is_one_of : DSp} (G_is_one_of : FnOk P w K mg base (L2.CX P w) k T.f_is_one_of.f T.f_is_one_of.fd ["thing", "texts"] (toSp K sp_is_one_of)) {sp_is_sort : DSp} (G_is_sort : FnOk P w K mg base (L2.CX P w) k T.f_is_sort.f T.f_is_sort.fd ["ground", "engines", "sort", "thing"] (toSp K sp_is_sort)) {p : DSp} (hlen : ∀ ds M Q E, p ds M Q E → ds.length = 3)
    (hs : ∀ ds M Q Ed, upSp p ds M Q Ed → q_fault sp_is_one_of sp_is_sort (fun x _ M => Ed x M) (retE Q) (startD N_fault ds) M) : FnOk P w K mg base (L2.CX P w) (k + 1) T.f_fault.f T.f_fault.fd ["ground", "engines", "thing"] (toSp K p) := by
  refine (fn_ok (p := upSp p) T.f_fault.F sc_fault (fun ds M Q E ⟨Q0, E0, h, _⟩ => hlen ds M Q0 E0 h) fun cdv A outer s H E hr tk hp => ?_).imp fun _ _ _ _ h => imp_up h
  have nd := sc_fault.nd
  have hu64 := hr.units
  have hu := Nat.lt_of_le_of_lt (Nat.add_le_add_left (show 1 ≤ 64 by decide) _) hu64
  exact ⟨_, q_fault sp_is_one_of sp_is_sort, (qss_cons (qs_if (QW.t (qw_or (qt_not (qt_val (q_callB c_isi rfl T.n_isinstance (by decide +kernel) (qa_cons (qv 2) (qa_cons (qe_c (pe_bltn (v := .ty "tuple") rfl T.n_tuple (by decide +kernel) rfl) fun _ => rfl) qa_nil))))) (qw_or (qt_cmp (o_eq hu64) (q_callB c_len rfl T.n_len (by decide +kernel) (qa_cons (qv 2) qa_nil)) q_int) (qw_or1 (qt_not (qt_val (q_call G_is_one_of hr tk rfl T.f_is_one_of.g T.f_is_one_of.F.kp T.f_is_one_of.b .nil (fun _ => rfl) (qa_cons (q_ix hu (qv 2) q_int) (qa_cons (QE.can (q_listK false T.k_FORMS.dic rfl rfl T.n_list rfl (by decide) (by decide +kernel))) qa_nil)))))))))
  (qss_one (qs_ret q_int))
  qss_nil)
  (qss_cons (qs_setN 3 nd (QE.can (q_ixK T.k_FORMS rfl (q_ix hu (qv 2) q_int))))
  (qss_cons (qs_if (qt_cmp (o_ne hu64) (q_callB c_len rfl T.n_len (by decide +kernel) (qa_cons (qv 2) qa_nil)) (q_op (o_add false) q_int (q_callB c_len rfl T.n_len (by decide +kernel) (qa_cons (qv 3) qa_nil))))
  (qss_one (qs_ret q_int))
  qss_nil)
  (qss_cons (qs_for (ix := [4, 5]) hp rfl (qi_enumC rfl T.n_enumerate (qa_cons (qv 3) qa_nil) (qk_cons q_int qk_nil)) (qg_tup rfl (qgs_cons (qg_nm 4 nd) (qgs_cons (qg_nm 5 nd) qgs_nil)))
  (qss_one (qs_if (qt_not (qt_val (q_call G_is_sort hr tk rfl T.f_is_sort.g T.f_is_sort.F.kp T.f_is_sort.b .nil (fun _ => rfl) (qa_cons (qv 0) (qa_cons (qv 1) (qa_cons (qv 5) (qa_cons (q_ix hu (qv 2) (qv 4)) qa_nil)))))))
  (qss_one (qs_ret (qv 4)))
  qss_nil)))
  (qss_one (qs_ret (q_neg q_int))))))), hs⟩
def q__law_bag : DTS :=
  (qSeq (qAsg (qC (.int 0)) (gNameD 2))
  (qSeq (qIfS (qTB (qOp (dCmpI fun i j => decide (i < j)) (qVar 1) (qCB dLen (qCons (qVar 0) qNil))))
  (qAsg (qOp dIx (qVar 0) (qVar 1)) (gNameD 2))
  qNext)
  (qSeq (qAsg (qC (.int 0)) (gNameD 3))
  (qSeq (qIfS (qTB (qOp (dCmpI fun i j => decide (j ≤ i)) (qCB dAbs (qCons (qVar 2) qNil)) (qOp (dInt CPow fun i j => i ^ j.toNat) (qC (.int 10)) (qC (.int 18)))))
  (qAsg (qCB dAbs (qCons (qVar 2) qNil)) (gNameD 3))
  qNext)
  (qSeq (qAsg (qLst false (qCons (qC (.int 2147483629)) (qCons (qC (.int 2147483587)) (qCons (qC (.int 2147483579)) (qCons (qC (.int 2147483563)) (qCons (qC (.int 2147483549)) (qCons (qC (.int 2147483543)) (qCons (qC (.int 2147483497)) (qCons (qC (.int 2147483489)) qNil))))))))) (gNameD 4))
  (qRet (qLst true (qCons (qVar 3) (qCons (qOp (dInt (fun _ j => 0 < j) fun i j => i % j) (qOp (dInt CPow fun i j => i ^ j.toNat) (qOp (dAdd false) (qOp (dAdd false) (qOp (dInt (fun _ j => 0 < j) fun i j => i % j) (qVar 2) (qC (.int 2147483647))) (qOp (dInt CMul fun i j => i * j) (qC (.int 104729)) (qVar 1))) (qC (.int 7))) (qC (.int 5))) (qOp dIx (qVar 4) (qOp (dInt (fun _ j => 0 < j) fun i j => i % j) (qVar 1) (qC (.int 8))))) qNil)))))))))
theorem dv__law_bag {k : Nat} (T : Tx w K mg) {p : DSp} (hlen : ∀ ds M Q E, p ds M Q E → ds.length = 2)
    (hs : ∀ ds M Q Ed, upSp p ds M Q Ed → q__law_bag (fun x _ M => Ed x M) (retE Q) (startD N__law_bag ds) M) : FnOk P w K mg base (L2.CX P w) (k + 1) T.f__law_bag.f T.f__law_bag.fd ["_law_script", "_law_at"] (toSp K p) := by
  refine (fn_ok (p := upSp p) T.f__law_bag.F sc__law_bag (fun ds M Q E ⟨Q0, E0, h, _⟩ => hlen ds M Q0 E0 h) fun cdv A outer s H E hr tk hp => ?_).imp fun _ _ _ _ h => imp_up h
  have nd := sc__law_bag.nd
  have hu64 := hr.units
  have hu := Nat.lt_of_le_of_lt (Nat.add_le_add_left (show 1 ≤ 64 by decide) _) hu64
  exact ⟨_, q__law_bag, (qss_cons (qs_setN 2 nd q_int)
  (qss_cons (qs_if (qt_cmp o_lt (qv 1) (q_callB c_len rfl T.n_len (by decide +kernel) (qa_cons (qv 0) qa_nil)))
  (qss_one (qs_setN 2 nd (q_ix hu (qv 0) (qv 1))))
  qss_nil)
  (qss_cons (qs_setN 3 nd q_int)
  (qss_cons (qs_if (qt_cmp o_ge (q_callB c_abs rfl T.n_abs (by decide +kernel) (qa_cons (qv 2) qa_nil)) (q_op o_pow q_int q_int))
  (qss_one (qs_setN 3 nd (q_callB c_abs rfl T.n_abs (by decide +kernel) (qa_cons (qv 2) qa_nil))))
  qss_nil)
  (qss_cons (qs_setN 4 nd (q_lst false (qa_cons q_int (qa_cons q_int (qa_cons q_int (qa_cons q_int (qa_cons q_int (qa_cons q_int (qa_cons q_int (qa_cons q_int qa_nil))))))))))
  (qss_one (qs_ret (q_lst true (qa_cons (qv 3) (qa_cons (q_op o_mod (q_op o_pow (q_op (o_add false) (q_op (o_add false) (q_op o_mod (qv 2) q_int) (q_op o_mulI q_int (qv 1))) q_int) q_int) (q_ix hu (qv 4) (q_op o_mod (qv 1) q_int))) qa_nil)))))))))), hs⟩
def q__law_take : DTS :=
  (qSeq (qIfS (qTB (qOp (dCmpI fun i j => decide (j < i)) (qOp dIx (qVar 0) (qC (.int 0))) (qC (.int 0))))
  (qSeq (qAsg (qOp (dInt (fun _ j => 0 < j) fun i j => i % j) (qOp dIx (qVar 0) (qC (.int 0))) (qVar 1)) (gNameD 2))
  (qSeq (qAsg (qOp (dInt CDiv fun i j => i / j) (qOp dIx (qVar 0) (qC (.int 0))) (qVar 1)) (gSubD (qVar 0) (qC (.int 0))))
  (qRet (qVar 2))))
  qNext)
  (qSeq (qAsg (qOp (dInt (fun _ j => 0 < j) fun i j => i % j) (qOp (dAdd false) (qOp (dInt CMul fun i j => i * j) (qOp dIx (qVar 0) (qC (.int 1))) (qC (.int 48271))) (qC (.int 11))) (qC (.int 2147483647))) (gSubD (qVar 0) (qC (.int 1))))
  (qRet (qOp (dInt (fun _ j => 0 < j) fun i j => i % j) (qOp (dInt (fun _ j => 0 < j) fun i j => i % j) (qOp (dInt CPow fun i j => i ^ j.toNat) (qOp (dInt CDiv fun i j => i / j) (qOp dIx (qVar 0) (qC (.int 1))) (qC (.int 8))) (qC (.int 3))) (qC (.int 2147483629))) (qVar 1)))))
theorem dv__law_take {k : Nat} (T : Tx w K mg) {p : DSp} (hlen : ∀ ds M Q E, p ds M Q E → ds.length = 2)
    (hs : ∀ ds M Q Ed, upSp p ds M Q Ed → q__law_take (fun x _ M => Ed x M) (retE Q) (startD N__law_take ds) M) : FnOk P w K mg base (L2.CX P w) (k + 1) T.f__law_take.f T.f__law_take.fd ["_law_bag_here", "_law_many"] (toSp K p) := by
  refine (fn_ok (p := upSp p) T.f__law_take.F sc__law_take (fun ds M Q E ⟨Q0, E0, h, _⟩ => hlen ds M Q0 E0 h) fun cdv A outer s H E hr tk hp => ?_).imp fun _ _ _ _ h => imp_up h
  have nd := sc__law_take.nd
  have hu64 := hr.units
  have hu := Nat.lt_of_le_of_lt (Nat.add_le_add_left (show 1 ≤ 64 by decide) _) hu64
  exact ⟨_, q__law_take, (qss_cons (qs_if (qt_cmp o_gt (q_ix hu (qv 0) q_int) q_int)
  (qss_cons (qs_setN 2 nd (q_op o_mod (q_ix hu (qv 0) q_int) (qv 1)))
  (qss_cons (qs_asg (ix := []) (q_op o_fdiv (q_ix hu (qv 0) q_int) (qv 1)) (qg_sub hu (qv 0) q_int))
  (qss_one (qs_ret (qv 2)))))
  qss_nil)
  (qss_cons (qs_asg (ix := []) (q_op o_mod (q_op (o_add false) (q_op o_mulI (q_ix hu (qv 0) q_int) q_int) q_int) q_int) (qg_sub hu (qv 0) q_int))
  (qss_one (qs_ret (q_op o_mod (q_op o_mod (q_op o_pow (q_op o_fdiv (q_ix hu (qv 0) q_int) q_int) q_int) q_int) (qv 1)))))), hs⟩
def q__law_whole : DTS :=
  (qRet (qAndV (qCB dIsi (qCons (qVar 0) (qCons (qC (.ty "int")) qNil))) (qAndV (qNotV (qCB dIsi (qCons (qVar 0) (qCons (qC (.ty "bool")) qNil)))) (qChain (dCmpI fun i j => decide (i ≤ j)) (dCmpI fun i j => decide (i ≤ j)) (qVar 1) (qVar 0) (qVar 2)))))
theorem dv__law_whole {k : Nat} (T : Tx w K mg) {p : DSp} (hlen : ∀ ds M Q E, p ds M Q E → ds.length = 3)
    (hs : ∀ ds M Q Ed, upSp p ds M Q Ed → q__law_whole (fun x _ M => Ed x M) (retE Q) (startD N__law_whole ds) M) : FnOk P w K mg base (L2.CX P w) (k + 1) T.f__law_whole.f T.f__law_whole.fd ["_law_thing", "_law_low", "_law_high"] (toSp K p) := by
  refine (fn_ok (p := upSp p) T.f__law_whole.F sc__law_whole (fun ds M Q E ⟨Q0, E0, h, _⟩ => hlen ds M Q0 E0 h) fun cdv A outer s H E hr tk hp => ?_).imp fun _ _ _ _ h => imp_up h
  have nd := sc__law_whole.nd
  have hu64 := hr.units
  have hu := Nat.lt_of_le_of_lt (Nat.add_le_add_left (show 1 ≤ 64 by decide) _) hu64
  exact ⟨_, q__law_whole, (qss_one (qs_ret (q_and (q_callB c_isi rfl T.n_isinstance (by decide +kernel) (qa_cons (qv 0) (qa_cons (qe_c (pe_bltn (v := .ty "int") rfl T.n_int (by decide +kernel) rfl) fun _ => rfl) qa_nil))) (q_and (q_not (q_callB c_isi rfl T.n_isinstance (by decide +kernel) (qa_cons (qv 0) (qa_cons (qe_c (pe_bltn (v := .ty "bool") rfl T.n_bool (by decide +kernel) rfl) fun _ => rfl) qa_nil)))) (q_one (q_chain o_le o_le (qv 1) (qv 0) (qv 2))))))), hs⟩
def q__law_names (sp__law_take : DSp) : DTS :=
  (qSeq (qAsg (qC (.str (PySem.Str.ofString "abcdefghijklmnopqrstuvwxyz"))) (gNameD 2))
  (qSeq (qAsg (qLst true qNil) (gNameD 3))
  (qSeq (qFor (qiRng1 (qCons (qVar 1) qNil)) (gNameD 4)
  (qSeq (qAsg (qIf (qTB (qOp (dCmpI fun i j => decide (j < i)) (qVar 4) (qC (.int 25)))) (qC (.int 7)) (qCall sp__law_take [] (qCons (qVar 0) (qCons (qC (.int 7)) qNil)))) (gNameD 5))
  (qSeq (qAsg (qBM "str" mJoin (qC (.str (PySem.Str.ofString ""))) (qCons (qLc false (qiRng1 (qCons (qVar 5) qNil)) (gNameD 7) qYes (qOp dIx (qVar 2) (qCall sp__law_take [] (qCons (qVar 0) (qCons (qC (.int 26)) qNil)))) [7]) qNil)) (gNameD 6))
  (qDrop (qBM "list" mApp (qVar 3) (qCons (qOp (dAdd false) (qVar 6) (qOp dIx (qVar 2) (qOp (dInt (fun _ j => 0 < j) fun i j => i % j) (qVar 4) (qC (.int 26))))) qNil))))))
  (qFrz 3 (qRet (qVar 3))))))
theorem dv__law_names {k : Nat} (T : Tx w K mg) {sp__law_take : DSp} (G__law_take : FnOk P w K mg base (L2.CX P w) k T.f__law_take.f T.f__law_take.fd ["_law_bag_here", "_law_many"] (toSp K sp__law_take)) {p : DSp} (hlen : ∀ ds M Q E, p ds M Q E → ds.length = 2)
    (hs : ∀ ds M Q Ed, upSp p ds M Q Ed → q__law_names sp__law_take (fun x _ M => Ed x M) (retE Q) (startD N__law_names ds) M) : FnOk P w K mg base (L2.CX P w) (k + 1) T.f__law_names.f T.f__law_names.fd ["_law_bag_here", "_law_many"] (toSp K p) := by
  refine (fn_ok (p := upSp p) T.f__law_names.F sc__law_names (fun ds M Q E ⟨Q0, E0, h, _⟩ => hlen ds M Q0 E0 h) fun cdv A outer s H E hr tk hp => ?_).imp fun _ _ _ _ h => imp_up h
  have nd := sc__law_names.nd
  have hu64 := hr.units
  have hu := Nat.lt_of_le_of_lt (Nat.add_le_add_left (show 1 ≤ 64 by decide) _) hu64
  exact ⟨_, q__law_names sp__law_take, (qss_cons (qs_setN 2 nd q_str)
  (qss_cons (qs_setN 3 nd (q_lst true qa_nil))
  (qss_cons (qs_for (ix := [4]) hp rfl (qi_range1 rfl T.n_range (qa_cons (qv 1) qa_nil)) (qg_nm 4 nd)
  (qss_cons (qs_setN 5 nd (q_if (qt_cmp o_gt (qv 4) q_int) q_int (q_call G__law_take hr tk rfl T.f__law_take.g T.f__law_take.F.kp T.f__law_take.b .nil (fun _ => rfl) (qa_cons (qv 0) (qa_cons q_int qa_nil)))))
  (qss_cons (qs_setN 6 nd (q_bm PySem.F.plainAttrs_str PySem.F.slot_str_join PySem.F.type_str_join m_join q_str (qa_cons (q_lcX (own := [("_law_turn", 7)]) false rfl nd (qi_range1 rfl T.n_range (qa_cons (qv 5) qa_nil)) (blkOk_by (own := [("_law_turn", 7)]) (N := N__law_names) (sc := defScope s__law_names) (by decide +kernel)) (fun _ _ _ _ _ => ⟨_, (qg_nm 7 nd)⟩) (fun _ _ _ _ _ => ⟨_, qts_nil⟩) (fun _ _ _ _ _ => ⟨_, (q_ix hu (qv 2) (q_call G__law_take hr takes0 rfl T.f__law_take.g T.f__law_take.F.kp T.f__law_take.b .nil (fun _ => rfl) (qa_cons (qv 0) (qa_cons q_int qa_nil))))⟩)) qa_nil)))
  (qss_one (qs_expr (q_bm PySem.F.plainAttrs_list PySem.F.slot_list_append PySem.F.type_list_append m_append (qv 3) (qa_cons (q_op (o_add false) (qv 6) (q_ix hu (qv 2) (q_op o_mod (qv 4) q_int))) qa_nil)))))))
  (qss_one (qs_frz 3 (qs_ret (qv 3))))))), hs⟩
def q__law_ground (sp__law_names : DSp) (sp__law_take : DSp) : DTS :=
  (qSeq (qAsg (qOp dIx (qTup (qCons (qC (.int 6)) (qCons (qC (.int 3)) (qCons (qC (.int 12)) (qCons (qC (.int 1)) (qCons (qC (.int 40)) (qCons (qC (.int 8)) qNil))))))) (qCall sp__law_take [] (qCons (qVar 0) (qCons (qC (.int 6)) qNil)))) (gNameD 1))
  (qSeq (qAsg (qCall sp__law_names [] (qCons (qVar 0) (qCons (qVar 1) qNil))) (gNameD 2))
  (qSeq (qAsg (qCB dTupX (qCons (qLc false (qiAny (qVar 2)) (gNameD 13) qYes (qTup (qCons (qVar 13) (qCons (qOp (dAdd false) (qC (.int 1)) (qCall sp__law_take [] (qCons (qVar 0) (qCons (qC (.int 4)) qNil)))) qNil))) [13]) qNil)) (gNameD 3))
  (qSeq (qAsg (qOp dIx (qTup (qCons (qC (.int 2)) (qCons (qC (.int 5)) (qCons (qC (.int 60)) qNil)))) (qCall sp__law_take [] (qCons (qVar 0) (qCons (qC (.int 3)) qNil)))) (gNameD 4))
  (qSeq (qAsg (qLst true qNil) (gNameD 5))
  (qSeq (qFor (qiRng1 (qCons (qOp (dAdd false) (qOp (dInt0 fun i j => i - j) (qVar 1) (qC (.int 1))) (qCall sp__law_take [] (qCons (qVar 0) (qCons (qOp (dAdd false) (qC (.int 1)) (qCB dMin2 (qCons (qC (.int 40)) (qCons (qVar 1) qNil)))) qNil)))) qNil)) (gNameD 6)
  (qSeq (qPar 7 8 (qCons (qOp (dInt (fun _ j => 0 < j) fun i j => i % j) (qVar 6) (qVar 1)) (qCons (qOp (dInt (fun _ j => 0 < j) fun i j => i % j) (qOp (dAdd false) (qVar 6) (qC (.int 1))) (qVar 1)) qNil)))
  (qSeq (qIfS (qTB (qOp (dCmpI fun i j => decide (j < i)) (qCall sp__law_take [] (qCons (qVar 0) (qCons (qC (.int 3)) qNil))) (qC (.int 0))))
  (qAsg (qCall sp__law_take [] (qCons (qVar 0) (qCons (qVar 1) qNil))) (gNameD 7))
  qNext)
  (qIfS (qAnd (qTB (qOp (dEq true) (qVar 7) (qVar 8))) (qAnd (qTB (qOp (dInD true) (qTup (qCons (qVar 7) (qCons (qVar 8) qNil))) (qVar 5))) (qTB (qOp (dInD true) (qTup (qCons (qVar 8) (qCons (qVar 7) qNil))) (qVar 5)))))
  (qDrop (qBM "list" mApp (qVar 5) (qCons (qTup (qCons (qVar 7) (qCons (qVar 8) qNil))) qNil)))
  qNext))))
  (qSeq (qAsg (qLst true qNil) (gNameD 9))
  (qSeq (qFor (qiAny (qVar 5)) (gTupD 2 (gConsD (gNameD 7) (gConsD (gNameD 8) gNilD)))
  (qSeq (qAsg (qOp (dMul false) (qCall sp__law_take [] (qCons (qVar 0) (qCons (qC (.int 61)) qNil))) (qCB dIntX (qCons (qOp (dEq false) (qCall sp__law_take [] (qCons (qVar 0) (qCons (qC (.int 4)) qNil))) (qC (.int 0))) qNil))) (gNameD 10))
  (qDrop (qBM "list" mApp (qVar 9) (qCons (qTup (qCons (qOp dIx (qVar 2) (qVar 7)) (qCons (qOp dIx (qVar 2) (qVar 8)) (qCons (qOp (dAdd false) (qC (.int 1)) (qCall sp__law_take [] (qCons (qVar 0) (qCons (qVar 4) qNil)))) (qCons (qVar 10) qNil))))) qNil)))))
  (qSeq (qAsg (qLst true qNil) (gNameD 11))
  (qSeq (qFor (qiRng1 (qCons (qOp (dAdd false) (qC (.int 1)) (qCall sp__law_take [] (qCons (qVar 0) (qCons (qCB dMin2 (qCons (qC (.int 12)) (qCons (qVar 1) qNil))) qNil)))) qNil)) (gNameD 6)
  (qSeq (qAsg (qOp dIx (qVar 2) (qCall sp__law_take [] (qCons (qVar 0) (qCons (qVar 1) qNil)))) (gNameD 12))
  (qIfS (qTB (qOp (dIn true) (qVar 12) (qVar 11)))
  (qDrop (qBM "list" mApp (qVar 11) (qCons (qVar 12) qNil)))
  qNext)))
  (qRet (qTup (qCons (qVar 3) (qCons (qCB dTupX (qCons (qVar 9) qNil)) (qCons (qCB dTupX (qCons (qVar 11) qNil)) qNil)))))))))))))))
theorem dv__law_ground {k : Nat} (T : Tx w K mg) {sp__law_names : DSp} (G__law_names : FnOk P w K mg base (L2.CX P w) k T.f__law_names.f T.f__law_names.fd ["_law_bag_here", "_law_many"] (toSp K sp__law_names)) {sp__law_take : DSp} (G__law_take : FnOk P w K mg base (L2.CX P w) k T.f__law_take.f T.f__law_take.fd ["_law_bag_here", "_law_many"] (toSp K sp__law_take)) {p : DSp} (hlen : ∀ ds M Q E, p ds M Q E → ds.length = 1)
    (hs : ∀ ds M Q Ed, upSp p ds M Q Ed → q__law_ground sp__law_names sp__law_take (fun x _ M => Ed x M) (retE Q) (startD N__law_ground ds) M) : FnOk P w K mg base (L2.CX P w) (k + 1) T.f__law_ground.f T.f__law_ground.fd ["_law_bag_here"] (toSp K p) := by
  refine (fn_ok (p := upSp p) T.f__law_ground.F sc__law_ground (fun ds M Q E ⟨Q0, E0, h, _⟩ => hlen ds M Q0 E0 h) fun cdv A outer s H E hr tk hp => ?_).imp fun _ _ _ _ h => imp_up h
  have nd := sc__law_ground.nd
  have hu64 := hr.units
  have hu := Nat.lt_of_le_of_lt (Nat.add_le_add_left (show 1 ≤ 64 by decide) _) hu64
  exact ⟨_, q__law_ground sp__law_names sp__law_take, (qss_cons (qs_setN 1 nd (q_ix hu (q_tup (qa_cons q_int (qa_cons q_int (qa_cons q_int (qa_cons q_int (qa_cons q_int (qa_cons q_int qa_nil))))))) (q_call G__law_take hr tk rfl T.f__law_take.g T.f__law_take.F.kp T.f__law_take.b .nil (fun _ => rfl) (qa_cons (qv 0) (qa_cons q_int qa_nil)))))
  (qss_cons (qs_setN 2 nd (q_call G__law_names hr tk rfl T.f__law_names.g T.f__law_names.F.kp T.f__law_names.b .nil (fun _ => rfl) (qa_cons (qv 0) (qa_cons (qv 1) qa_nil))))
  (qss_cons (qs_setN 3 nd (q_callTy c_tupleX rfl T.n_tuple (by decide +kernel) (qa_cons (q_lcX (own := [("_law_name", 13)]) false rfl nd (qi_any (qv 2)) (blkOk_by (own := [("_law_name", 13)]) (N := N__law_ground) (sc := defScope s__law_ground) (by decide +kernel)) (fun _ _ _ _ _ => ⟨_, (qg_nm 13 nd)⟩) (fun _ _ _ _ _ => ⟨_, qts_nil⟩) (fun _ _ _ _ _ => ⟨_, (q_tup (qa_cons (qv 13) (qa_cons (q_op (o_add false) q_int (q_call G__law_take hr takes0 rfl T.f__law_take.g T.f__law_take.F.kp T.f__law_take.b .nil (fun _ => rfl) (qa_cons (qv 0) (qa_cons q_int qa_nil)))) qa_nil)))⟩)) qa_nil)))
  (qss_cons (qs_setN 4 nd (q_ix hu (q_tup (qa_cons q_int (qa_cons q_int (qa_cons q_int qa_nil)))) (q_call G__law_take hr tk rfl T.f__law_take.g T.f__law_take.F.kp T.f__law_take.b .nil (fun _ => rfl) (qa_cons (qv 0) (qa_cons q_int qa_nil)))))
  (qss_cons (qs_setN 5 nd (q_lst true qa_nil))
  (qss_cons (qs_for (ix := [6]) hp rfl (qi_range1 rfl T.n_range (qa_cons (q_op (o_add false) (q_op o_sub (qv 1) q_int) (q_call G__law_take hr tk rfl T.f__law_take.g T.f__law_take.F.kp T.f__law_take.b .nil (fun _ => rfl) (qa_cons (qv 0) (qa_cons (q_op (o_add false) q_int (q_callB (c_min2 rfl) rfl T.n_min (by decide +kernel) (qa_cons q_int (qa_cons (qv 1) qa_nil)))) qa_nil)))) qa_nil)) (qg_nm 6 nd)
  (qss_cons (qs_parN 7 8 rfl nd (qa_cons (q_op o_mod (qv 6) (qv 1)) (qa_cons (q_op o_mod (q_op (o_add false) (qv 6) q_int) (qv 1)) qa_nil)))
  (qss_cons (qs_if (qt_cmp o_gt (q_call G__law_take hr tk rfl T.f__law_take.g T.f__law_take.F.kp T.f__law_take.b .nil (fun _ => rfl) (qa_cons (qv 0) (qa_cons q_int qa_nil))) q_int)
  (qss_one (qs_setN 7 nd (q_call G__law_take hr tk rfl T.f__law_take.g T.f__law_take.F.kp T.f__law_take.b .nil (fun _ => rfl) (qa_cons (qv 0) (qa_cons (qv 1) qa_nil)))))
  qss_nil)
  (qss_one (qs_if (QW.t (qw_and (qt_cmp (o_ne hu64) (qv 7) (qv 8)) (qw_and (qt_cmp (o_notInD (room65 hr)) (q_tup (qa_cons (qv 7) (qa_cons (qv 8) qa_nil))) (qv 5)) (qw_and1 (qt_cmp (o_notInD (room65 hr)) (q_tup (qa_cons (qv 8) (qa_cons (qv 7) qa_nil))) (qv 5))))))
  (qss_one (qs_expr (q_bm PySem.F.plainAttrs_list PySem.F.slot_list_append PySem.F.type_list_append m_append (qv 5) (qa_cons (q_tup (qa_cons (qv 7) (qa_cons (qv 8) qa_nil))) qa_nil))))
  qss_nil)))))
  (qss_cons (qs_setN 9 nd (q_lst true qa_nil))
  (qss_cons (qs_for (ix := [7, 8]) hp rfl (qi_any (qv 5)) (qg_tup rfl (qgs_cons (qg_nm 7 nd) (qgs_cons (qg_nm 8 nd) qgs_nil)))
  (qss_cons (qs_setN 10 nd (q_op (o_mul false) (q_call G__law_take hr tk rfl T.f__law_take.g T.f__law_take.F.kp T.f__law_take.b .nil (fun _ => rfl) (qa_cons (qv 0) (qa_cons q_int qa_nil))) (q_callTy c_intX rfl T.n_int (by decide +kernel) (qa_cons (q_cmp (o_eq hu64) (q_call G__law_take hr tk rfl T.f__law_take.g T.f__law_take.F.kp T.f__law_take.b .nil (fun _ => rfl) (qa_cons (qv 0) (qa_cons q_int qa_nil))) q_int) qa_nil))))
  (qss_one (qs_expr (q_bm PySem.F.plainAttrs_list PySem.F.slot_list_append PySem.F.type_list_append m_append (qv 9) (qa_cons (q_tup (qa_cons (q_ix hu (qv 2) (qv 7)) (qa_cons (q_ix hu (qv 2) (qv 8)) (qa_cons (q_op (o_add false) q_int (q_call G__law_take hr tk rfl T.f__law_take.g T.f__law_take.F.kp T.f__law_take.b .nil (fun _ => rfl) (qa_cons (qv 0) (qa_cons (qv 4) qa_nil)))) (qa_cons (qv 10) qa_nil))))) qa_nil))))))
  (qss_cons (qs_setN 11 nd (q_lst true qa_nil))
  (qss_cons (qs_for (ix := [6]) hp rfl (qi_range1 rfl T.n_range (qa_cons (q_op (o_add false) q_int (q_call G__law_take hr tk rfl T.f__law_take.g T.f__law_take.F.kp T.f__law_take.b .nil (fun _ => rfl) (qa_cons (qv 0) (qa_cons (q_callB (c_min2 rfl) rfl T.n_min (by decide +kernel) (qa_cons q_int (qa_cons (qv 1) qa_nil))) qa_nil)))) qa_nil)) (qg_nm 6 nd)
  (qss_cons (qs_setN 12 nd (q_ix hu (qv 2) (q_call G__law_take hr tk rfl T.f__law_take.g T.f__law_take.F.kp T.f__law_take.b .nil (fun _ => rfl) (qa_cons (qv 0) (qa_cons (qv 1) qa_nil)))))
  (qss_one (qs_if (qt_cmp (o_notin hu) (qv 12) (qv 11))
  (qss_one (qs_expr (q_bm PySem.F.plainAttrs_list PySem.F.slot_list_append PySem.F.type_list_append m_append (qv 11) (qa_cons (qv 12) qa_nil))))
  qss_nil))))
  (qss_one (qs_ret (q_tup (qa_cons (qv 3) (qa_cons (q_callTy c_tupleX rfl T.n_tuple (by decide +kernel) (qa_cons (qv 9) qa_nil)) (qa_cons (q_callTy c_tupleX rfl T.n_tuple (by decide +kernel) (qa_cons (qv 11) qa_nil)) qa_nil)))))))))))))))), hs⟩
def q__law_engines (sp__law_names : DSp) (sp__law_take : DSp) : DTS :=
  (qSeq (qAsg (qOp dIx (qTup (qCons (qC (.int 4)) (qCons (qC (.int 8)) (qCons (qC (.int 2)) (qCons (qC (.int 24)) (qCons (qC (.int 1)) qNil)))))) (qCall sp__law_take [] (qCons (qVar 0) (qCons (qC (.int 5)) qNil)))) (gNameD 2))
  (qSeq (qAsg (qLst true qNil) (gNameD 3))
  (qSeq (qFor (qiAny (qCall sp__law_names [] (qCons (qVar 0) (qCons (qVar 2) qNil)))) (gNameD 4)
  (qSeq (qAsg (qOp dIx (qTup (qCons (qC (.str (PySem.Str.ofString "pump"))) (qCons (qC (.str (PySem.Str.ofString "ladder"))) (qCons (qC (.str (PySem.Str.ofString "tanker"))) (qCons (qC (.str (PySem.Str.ofString "pump"))) qNil))))) (qCall sp__law_take [] (qCons (qVar 0) (qCons (qC (.int 4)) qNil)))) (gNameD 5))
  (qDrop (qBM "list" mApp (qVar 3) (qCons (qTup (qCons (qVar 4) (qCons (qVar 5) (qCons (qOp dIx (qVar 1) (qCall sp__law_take [] (qCons (qVar 0) (qCons (qCB dLen (qCons (qVar 1) qNil)) qNil)))) (qCons (qOp (dAdd false) (qC (.int 1)) (qCall sp__law_take [] (qCons (qVar 0) (qCons (qC (.int 9)) qNil)))) qNil))))) qNil)))))
  (qRet (qCB dTuple (qCons (qVar 3) qNil))))))
theorem dv__law_engines {k : Nat} (T : Tx w K mg) {sp__law_names : DSp} (G__law_names : FnOk P w K mg base (L2.CX P w) k T.f__law_names.f T.f__law_names.fd ["_law_bag_here", "_law_many"] (toSp K sp__law_names)) {sp__law_take : DSp} (G__law_take : FnOk P w K mg base (L2.CX P w) k T.f__law_take.f T.f__law_take.fd ["_law_bag_here", "_law_many"] (toSp K sp__law_take)) {p : DSp} (hlen : ∀ ds M Q E, p ds M Q E → ds.length = 2)
    (hs : ∀ ds M Q Ed, upSp p ds M Q Ed → q__law_engines sp__law_names sp__law_take (fun x _ M => Ed x M) (retE Q) (startD N__law_engines ds) M) : FnOk P w K mg base (L2.CX P w) (k + 1) T.f__law_engines.f T.f__law_engines.fd ["_law_bag_here", "_law_stations"] (toSp K p) := by
  refine (fn_ok (p := upSp p) T.f__law_engines.F sc__law_engines (fun ds M Q E ⟨Q0, E0, h, _⟩ => hlen ds M Q0 E0 h) fun cdv A outer s H E hr tk hp => ?_).imp fun _ _ _ _ h => imp_up h
  have nd := sc__law_engines.nd
  have hu64 := hr.units
  have hu := Nat.lt_of_le_of_lt (Nat.add_le_add_left (show 1 ≤ 64 by decide) _) hu64
  exact ⟨_, q__law_engines sp__law_names sp__law_take, (qss_cons (qs_setN 2 nd (q_ix hu (q_tup (qa_cons q_int (qa_cons q_int (qa_cons q_int (qa_cons q_int (qa_cons q_int qa_nil)))))) (q_call G__law_take hr tk rfl T.f__law_take.g T.f__law_take.F.kp T.f__law_take.b .nil (fun _ => rfl) (qa_cons (qv 0) (qa_cons q_int qa_nil)))))
  (qss_cons (qs_setN 3 nd (q_lst true qa_nil))
  (qss_cons (qs_for (ix := [4]) hp rfl (qi_any (q_call G__law_names hr tk rfl T.f__law_names.g T.f__law_names.F.kp T.f__law_names.b .nil (fun _ => rfl) (qa_cons (qv 0) (qa_cons (qv 2) qa_nil)))) (qg_nm 4 nd)
  (qss_cons (qs_setN 5 nd (q_ix hu (q_tup (qa_cons q_str (qa_cons q_str (qa_cons q_str (qa_cons q_str qa_nil))))) (q_call G__law_take hr tk rfl T.f__law_take.g T.f__law_take.F.kp T.f__law_take.b .nil (fun _ => rfl) (qa_cons (qv 0) (qa_cons q_int qa_nil)))))
  (qss_one (qs_expr (q_bm PySem.F.plainAttrs_list PySem.F.slot_list_append PySem.F.type_list_append m_append (qv 3) (qa_cons (q_tup (qa_cons (qv 4) (qa_cons (qv 5) (qa_cons (q_ix hu (qv 1) (q_call G__law_take hr tk rfl T.f__law_take.g T.f__law_take.F.kp T.f__law_take.b .nil (fun _ => rfl) (qa_cons (qv 0) (qa_cons (q_callB c_len rfl T.n_len (by decide +kernel) (qa_cons (qv 1) qa_nil)) qa_nil)))) (qa_cons (q_op (o_add false) q_int (q_call G__law_take hr tk rfl T.f__law_take.g T.f__law_take.F.kp T.f__law_take.b .nil (fun _ => rfl) (qa_cons (qv 0) (qa_cons q_int qa_nil)))) qa_nil))))) qa_nil))))))
  (qss_one (qs_ret (q_callTy c_tuple rfl T.n_tuple (by decide +kernel) (qa_cons (qv 3) qa_nil))))))), hs⟩
def q__law_deed (sp__law_kind : DSp) (sp__law_take : DSp) : DTS :=
  (qSeq (qAsg (qVar 1) (gTupD 3 (gConsD (gNameD 4) (gConsD (gNameD 5) (gConsD (gNameD 6) gNilD)))))
  (qSeq (qAsg (qOp dIx (qOp dIx (qVar 2) (qCall sp__law_take [] (qCons (qVar 0) (qCons (qCB dLen (qCons (qVar 2) qNil)) qNil)))) (qC (.int 0))) (gNameD 7))
  (qSeq (qAsg (qOp (dAdd false) (qC (.int 1)) (qCall sp__law_take [] (qCons (qVar 0) (qCons (qC (.int 200)) qNil)))) (gNameD 8))
  (qSeq (qIfS (qAnd (qTB (qOp (dEq true) (qVar 3) (qLst false qNil))) (qTB (qOp (dCmpI fun i j => decide (j < i)) (qCall sp__law_take [] (qCons (qVar 0) (qCons (qC (.int 8)) qNil))) (qC (.int 0)))))
  (qAsg (qOp dIx (qVar 3) (qCall sp__law_take [] (qCons (qVar 0) (qCons (qCB dLen (qCons (qVar 3) qNil)) qNil)))) (gNameD 8))
  qNext)
  (qSeq (qAsg (qCall sp__law_take [] (qCons (qVar 0) (qCons (qC (.int 19)) qNil))) (gNameD 9))
  (qSeq (qIfS (qTB (qOp (dCmpI fun i j => decide (i < j)) (qVar 9) (qC (.int 3))))
  (qRet (qTup (qCons (qC (.str (PySem.Str.ofString "call"))) (qCons (qOp dIx (qOp dIx (qVar 4) (qCall sp__law_take [] (qCons (qVar 0) (qCons (qCB dLen (qCons (qVar 4) qNil)) qNil)))) (qC (.int 0))) (qCons (qCall sp__law_kind [] (qCons (qVar 0) qNil)) qNil)))))
  qNext)
  (qSeq (qIfS (qTB (qOp (dCmpI fun i j => decide (i < j)) (qVar 9) (qC (.int 6))))
  (qRet (qTup (qCons (qC (.str (PySem.Str.ofString "send"))) (qCons (qVar 7) (qCons (qVar 8) qNil)))))
  qNext)
  (qSeq (qIfS (qTB (qOp (dCmpI fun i j => decide (i < j)) (qVar 9) (qC (.int 11))))
  (qRet (qTup (qCons (qOp dIx (qTup (qCons (qC (.str (PySem.Str.ofString "there"))) (qCons (qC (.str (PySem.Str.ofString "back"))) (qCons (qC (.str (PySem.Str.ofString "home"))) (qCons (qC (.str (PySem.Str.ofString "off"))) (qCons (qC (.str (PySem.Str.ofString "on"))) qNil)))))) (qOp (dInt0 fun i j => i - j) (qVar 9) (qC (.int 6)))) (qCons (qVar 7) qNil))))
  qNext)
  (qSeq (qIfS (qTB (qOp (dCmpI fun i j => decide (i < j)) (qVar 9) (qC (.int 13))))
  (qRet (qTup (qCons (qOp dIx (qTup (qCons (qC (.str (PySem.Str.ofString "stand"))) (qCons (qC (.str (PySem.Str.ofString "lend"))) qNil))) (qOp (dInt0 fun i j => i - j) (qVar 9) (qC (.int 11)))) (qCons (qVar 7) (qCons (qOp dIx (qVar 6) (qCall sp__law_take [] (qCons (qVar 0) (qCons (qCB dLen (qCons (qVar 6) qNil)) qNil)))) qNil)))))
  qNext)
  (qSeq (qIfS (qAnd (qTB (qOp (dCmpI fun i j => decide (i < j)) (qVar 9) (qC (.int 15)))) (qTB (qOp (dEq true) (qVar 5) (qTup qNil))))
  (qRet (qTup (qCons (qOp dIx (qTup (qCons (qC (.str (PySem.Str.ofString "shut"))) (qCons (qC (.str (PySem.Str.ofString "clear"))) qNil))) (qOp (dInt0 fun i j => i - j) (qVar 9) (qC (.int 13)))) (qCons (qCall sp__law_take [] (qCons (qVar 0) (qCons (qCB dLen (qCons (qVar 5) qNil)) qNil))) qNil))))
  qNext)
  (qRet (qOp dIx (qLst false (qCons (qTup (qCons (qC (.str (PySem.Str.ofString "again"))) (qCons (qVar 8) qNil))) (qCons (qTup (qCons (qC (.str (PySem.Str.ofString "make"))) (qCons (qVar 8) (qCons (qOp (dAdd false) (qC (.int 1)) (qCall sp__law_take [] (qCons (qVar 0) (qCons (qC (.int 20)) qNil)))) qNil)))) (qCons (qTup (qCons (qC (.str (PySem.Str.ofString "stop"))) (qCons (qVar 8) qNil))) (qCons (qTup (qCons (qC (.str (PySem.Str.ofString "nothing"))) qNil)) qNil))))) (qOp (dInt (fun _ j => 0 < j) fun i j => i % j) (qVar 9) (qC (.int 4)))))))))))))))
theorem dv__law_deed {k : Nat} (T : Tx w K mg) {sp__law_kind : DSp} (G__law_kind : FnOk P w K mg base (L2.CX P w) k T.f__law_kind.f T.f__law_kind.fd ["_law_bag_here"] (toSp K sp__law_kind)) {sp__law_take : DSp} (G__law_take : FnOk P w K mg base (L2.CX P w) k T.f__law_take.f T.f__law_take.fd ["_law_bag_here", "_law_many"] (toSp K sp__law_take)) {p : DSp} (hlen : ∀ ds M Q E, p ds M Q E → ds.length = 4)
    (hs : ∀ ds M Q Ed, upSp p ds M Q Ed → q__law_deed sp__law_kind sp__law_take (fun x _ M => Ed x M) (retE Q) (startD N__law_deed ds) M) : FnOk P w K mg base (L2.CX P w) (k + 1) T.f__law_deed.f T.f__law_deed.fd ["_law_bag_here", "_law_told", "_law_engines_here", "_law_calls"] (toSp K p) := by
  refine (fn_ok (p := upSp p) T.f__law_deed.F sc__law_deed (fun ds M Q E ⟨Q0, E0, h, _⟩ => hlen ds M Q0 E0 h) fun cdv A outer s H E hr tk hp => ?_).imp fun _ _ _ _ h => imp_up h
  have nd := sc__law_deed.nd
  have hu64 := hr.units
  have hu := Nat.lt_of_le_of_lt (Nat.add_le_add_left (show 1 ≤ 64 by decide) _) hu64
  exact ⟨_, q__law_deed sp__law_kind sp__law_take, (qss_cons (qs_asg (ix := [4, 5, 6]) (qv 1) (qg_tup rfl (qgs_cons (qg_nm 4 nd) (qgs_cons (qg_nm 5 nd) (qgs_cons (qg_nm 6 nd) qgs_nil)))))
  (qss_cons (qs_setN 7 nd (q_ix hu (q_ix hu (qv 2) (q_call G__law_take hr tk rfl T.f__law_take.g T.f__law_take.F.kp T.f__law_take.b .nil (fun _ => rfl) (qa_cons (qv 0) (qa_cons (q_callB c_len rfl T.n_len (by decide +kernel) (qa_cons (qv 2) qa_nil)) qa_nil)))) q_int))
  (qss_cons (qs_setN 8 nd (q_op (o_add false) q_int (q_call G__law_take hr tk rfl T.f__law_take.g T.f__law_take.F.kp T.f__law_take.b .nil (fun _ => rfl) (qa_cons (qv 0) (qa_cons q_int qa_nil)))))
  (qss_cons (qs_if (QW.t (qw_and (qt_cmp (o_ne hu64) (qv 3) (q_lst false qa_nil)) (qw_and1 (qt_cmp o_gt (q_call G__law_take hr tk rfl T.f__law_take.g T.f__law_take.F.kp T.f__law_take.b .nil (fun _ => rfl) (qa_cons (qv 0) (qa_cons q_int qa_nil))) q_int))))
  (qss_one (qs_setN 8 nd (q_ix hu (qv 3) (q_call G__law_take hr tk rfl T.f__law_take.g T.f__law_take.F.kp T.f__law_take.b .nil (fun _ => rfl) (qa_cons (qv 0) (qa_cons (q_callB c_len rfl T.n_len (by decide +kernel) (qa_cons (qv 3) qa_nil)) qa_nil))))))
  qss_nil)
  (qss_cons (qs_setN 9 nd (q_call G__law_take hr tk rfl T.f__law_take.g T.f__law_take.F.kp T.f__law_take.b .nil (fun _ => rfl) (qa_cons (qv 0) (qa_cons q_int qa_nil))))
  (qss_cons (qs_if (qt_cmp o_lt (qv 9) q_int)
  (qss_one (qs_ret (q_tup (qa_cons q_str (qa_cons (q_ix hu (q_ix hu (qv 4) (q_call G__law_take hr tk rfl T.f__law_take.g T.f__law_take.F.kp T.f__law_take.b .nil (fun _ => rfl) (qa_cons (qv 0) (qa_cons (q_callB c_len rfl T.n_len (by decide +kernel) (qa_cons (qv 4) qa_nil)) qa_nil)))) q_int) (qa_cons (q_call G__law_kind hr tk rfl T.f__law_kind.g T.f__law_kind.F.kp T.f__law_kind.b .nil (fun _ => rfl) (qa_cons (qv 0) qa_nil)) qa_nil))))))
  qss_nil)
  (qss_cons (qs_if (qt_cmp o_lt (qv 9) q_int)
  (qss_one (qs_ret (q_tup (qa_cons q_str (qa_cons (qv 7) (qa_cons (qv 8) qa_nil))))))
  qss_nil)
  (qss_cons (qs_if (qt_cmp o_lt (qv 9) q_int)
  (qss_one (qs_ret (q_tup (qa_cons (q_ix hu (q_tup (qa_cons q_str (qa_cons q_str (qa_cons q_str (qa_cons q_str (qa_cons q_str qa_nil)))))) (q_op o_sub (qv 9) q_int)) (qa_cons (qv 7) qa_nil)))))
  qss_nil)
  (qss_cons (qs_if (qt_cmp o_lt (qv 9) q_int)
  (qss_one (qs_ret (q_tup (qa_cons (q_ix hu (q_tup (qa_cons q_str (qa_cons q_str qa_nil))) (q_op o_sub (qv 9) q_int)) (qa_cons (qv 7) (qa_cons (q_ix hu (qv 6) (q_call G__law_take hr tk rfl T.f__law_take.g T.f__law_take.F.kp T.f__law_take.b .nil (fun _ => rfl) (qa_cons (qv 0) (qa_cons (q_callB c_len rfl T.n_len (by decide +kernel) (qa_cons (qv 6) qa_nil)) qa_nil)))) qa_nil))))))
  qss_nil)
  (qss_cons (qs_if (QW.t (qw_and (qt_cmp o_lt (qv 9) q_int) (qw_and1 (qt_cmp (o_ne hu64) (qv 5) (q_tup qa_nil)))))
  (qss_one (qs_ret (q_tup (qa_cons (q_ix hu (q_tup (qa_cons q_str (qa_cons q_str qa_nil))) (q_op o_sub (qv 9) q_int)) (qa_cons (q_call G__law_take hr tk rfl T.f__law_take.g T.f__law_take.F.kp T.f__law_take.b .nil (fun _ => rfl) (qa_cons (qv 0) (qa_cons (q_callB c_len rfl T.n_len (by decide +kernel) (qa_cons (qv 5) qa_nil)) qa_nil))) qa_nil)))))
  qss_nil)
  (qss_one (qs_ret (q_ix hu (q_lst false (qa_cons (q_tup (qa_cons q_str (qa_cons (qv 8) qa_nil))) (qa_cons (q_tup (qa_cons q_str (qa_cons (qv 8) (qa_cons (q_op (o_add false) q_int (q_call G__law_take hr tk rfl T.f__law_take.g T.f__law_take.F.kp T.f__law_take.b .nil (fun _ => rfl) (qa_cons (qv 0) (qa_cons q_int qa_nil)))) qa_nil)))) (qa_cons (q_tup (qa_cons q_str (qa_cons (qv 8) qa_nil))) (qa_cons (q_tup (qa_cons q_str qa_nil)) qa_nil))))) (q_op o_mod (qv 9) q_int)))))))))))))), hs⟩
def q__law_kind (sp__law_take : DSp) : DTS :=
  (qRet (qOp dIx (qTup (qCons (qC (.str (PySem.Str.ofString "house"))) (qCons (qC (.str (PySem.Str.ofString "car"))) (qCons (qC (.str (PySem.Str.ofString "chimney"))) (qCons (qC (.str (PySem.Str.ofString "grass"))) (qCons (qC (.str (PySem.Str.ofString "people"))) (qCons (qC (.str (PySem.Str.ofString "works"))) qNil))))))) (qCall sp__law_take [] (qCons (qVar 0) (qCons (qC (.int 6)) qNil)))))
theorem dv__law_kind {k : Nat} (T : Tx w K mg) {sp__law_take : DSp} (G__law_take : FnOk P w K mg base (L2.CX P w) k T.f__law_take.f T.f__law_take.fd ["_law_bag_here", "_law_many"] (toSp K sp__law_take)) {p : DSp} (hlen : ∀ ds M Q E, p ds M Q E → ds.length = 1)
    (hs : ∀ ds M Q Ed, upSp p ds M Q Ed → q__law_kind sp__law_take (fun x _ M => Ed x M) (retE Q) (startD N__law_kind ds) M) : FnOk P w K mg base (L2.CX P w) (k + 1) T.f__law_kind.f T.f__law_kind.fd ["_law_bag_here"] (toSp K p) := by
  refine (fn_ok (p := upSp p) T.f__law_kind.F sc__law_kind (fun ds M Q E ⟨Q0, E0, h, _⟩ => hlen ds M Q0 E0 h) fun cdv A outer s H E hr tk hp => ?_).imp fun _ _ _ _ h => imp_up h
  have nd := sc__law_kind.nd
  have hu64 := hr.units
  have hu := Nat.lt_of_le_of_lt (Nat.add_le_add_left (show 1 ≤ 64 by decide) _) hu64
  exact ⟨_, q__law_kind sp__law_take, (qss_one (qs_ret (q_ix hu (q_tup (qa_cons q_str (qa_cons q_str (qa_cons q_str (qa_cons q_str (qa_cons q_str (qa_cons q_str qa_nil))))))) (q_call G__law_take hr tk rfl T.f__law_take.g T.f__law_take.F.kp T.f__law_take.b .nil (fun _ => rfl) (qa_cons (qv 0) (qa_cons q_int qa_nil)))))), hs⟩
def q__law_like (sp__law_like : DSp) : DTS :=
  (qSeq (qIfS (qOr (qTB (qOp (dEq true) (qCB dIsi (qCons (qVar 0) (qCons (qC (.ty "bool")) qNil))) (qCB dIsi (qCons (qVar 1) (qCons (qC (.ty "bool")) qNil))))) (qTB (qOp (dEq true) (qVar 0) (qVar 1))))
  (qRet (qC (.bl false)))
  qNext)
  (qSeq (qIfS (qTB (qCB dIsi (qCons (qVar 0) (qCons (qTup (qCons (qC (.ty "list")) (qCons (qC (.ty "tuple")) qNil))) qNil))))
  (qRet (qCB dAll (qCons (qLc false (qiZipB (qCons (qVar 0) (qCons (qVar 1) qNil))) (gTupD 2 (gConsD (gNameD 2) (gConsD (gNameD 3) gNilD))) qYes (qCall sp__law_like [] (qCons (qVar 2) (qCons (qVar 3) qNil))) [2, 3]) qNil)))
  qNext)
  (qRet (qC (.bl true)))))
theorem dv__law_like {k : Nat} (T : Tx w K mg) {sp__law_like : DSp} (G__law_like : FnOk P w K mg base (L2.CX P w) k T.f__law_like.f T.f__law_like.fd ["_law_told", "_law_due_here"] (toSp K sp__law_like)) {p : DSp} (hlen : ∀ ds M Q E, p ds M Q E → ds.length = 2)
    (hs : ∀ ds M Q Ed, upSp p ds M Q Ed → q__law_like sp__law_like (fun x _ M => Ed x M) (retE Q) (startD N__law_like ds) M) : FnOk P w K mg base (L2.CX P w) (k + 1) T.f__law_like.f T.f__law_like.fd ["_law_told", "_law_due_here"] (toSp K p) := by
  refine (fn_ok (p := upSp p) T.f__law_like.F sc__law_like (fun ds M Q E ⟨Q0, E0, h, _⟩ => hlen ds M Q0 E0 h) fun cdv A outer s H E hr tk hp => ?_).imp fun _ _ _ _ h => imp_up h
  have nd := sc__law_like.nd
  have hu64 := hr.units
  have hu := Nat.lt_of_le_of_lt (Nat.add_le_add_left (show 1 ≤ 64 by decide) _) hu64
  exact ⟨_, q__law_like sp__law_like, (qss_cons (qs_if (QW.t (qw_or (qt_cmp (o_ne hu64) (q_callB c_isi rfl T.n_isinstance (by decide +kernel) (qa_cons (qv 0) (qa_cons (qe_c (pe_bltn (v := .ty "bool") rfl T.n_bool (by decide +kernel) rfl) fun _ => rfl) qa_nil))) (q_callB c_isi rfl T.n_isinstance (by decide +kernel) (qa_cons (qv 1) (qa_cons (qe_c (pe_bltn (v := .ty "bool") rfl T.n_bool (by decide +kernel) rfl) fun _ => rfl) qa_nil)))) (qw_or1 (qt_cmp (o_ne hu64) (qv 0) (qv 1)))))
  (qss_one (qs_ret q_bl))
  qss_nil)
  (qss_cons (qs_if (qt_val (q_callB c_isi rfl T.n_isinstance (by decide +kernel) (qa_cons (qv 0) (qa_cons (q_tup (qa_cons (qe_c (pe_bltn (v := .ty "list") rfl T.n_list (by decide +kernel) rfl) fun _ => rfl) (qa_cons (qe_c (pe_bltn (v := .ty "tuple") rfl T.n_tuple (by decide +kernel) rfl) fun _ => rfl) qa_nil))) qa_nil))))
  (qss_one (qs_ret (q_callB (c_all rfl) rfl T.n_all (by decide +kernel) (qa_cons (q_lcX (own := [("_law_one", 2), ("_law_other", 3)]) false rfl nd (qi_zipB rfl T.n_zip (qa_cons (qv 0) (qa_cons (qv 1) qa_nil))) (blkOk_by (own := [("_law_one", 2), ("_law_other", 3)]) (N := N__law_like) (sc := defScope s__law_like) (by decide +kernel)) (fun _ _ _ _ _ => ⟨_, (qg_tup rfl (qgs_cons (qg_nm 2 nd) (qgs_cons (qg_nm 3 nd) qgs_nil)))⟩) (fun _ _ _ _ _ => ⟨_, qts_nil⟩) (fun _ _ _ _ _ => ⟨_, (q_call G__law_like hr takes0 rfl T.f__law_like.g T.f__law_like.F.kp T.f__law_like.b .nil (fun _ => rfl) (qa_cons (qv 2) (qa_cons (qv 3) qa_nil)))⟩)) qa_nil))))
  qss_nil)
  (qss_one (qs_ret q_bl)))), hs⟩
def q__law_is_sort (sp__law_whole : DSp) : DTS :=
  (qSeq (qAsg (qVar 0) (gTupD 3 (gConsD (gNameD 4) (gConsD (gNameD 5) (gConsD (gNameD 6) gNilD)))))
  (qSeq (qIfS (qTB (qOp (dIn false) (qVar 2) (qC (.str (PySem.Str.ofString "cpr")))))
  (qSeq (qAsg (qOp dIx (qFrzE (qDisp [((qC (.str (PySem.Str.ofString "c"))), (qTup (qCons (qC (.int 1)) (qCons (qC (.int 200)) qNil)))), ((qC (.str (PySem.Str.ofString "p"))), (qTup (qCons (qC (.int 1)) (qCons (qC (.int 20)) qNil)))), ((qC (.str (PySem.Str.ofString "r"))), (qTup (qCons (qC (.int 0)) (qCons (qOp (dInt0 fun i j => i - j) (qCB dLen (qCons (qVar 5) qNil)) (qC (.int 1))) qNil))))])) (qVar 2)) (gTupD 2 (gConsD (gNameD 7) (gConsD (gNameD 8) gNilD))))
  (qRet (qCall sp__law_whole [] (qCons (qVar 3) (qCons (qVar 7) (qCons (qVar 8) qNil))))))
  qNext)
  (qSeq (qIfS (qNot (qTB (qCB dIsi (qCons (qVar 3) (qCons (qC (.ty "str")) qNil)))))
  (qRet (qC (.bl false)))
  qNext)
  (qSeq (qIfS (qTB (qOp (dEq false) (qVar 2) (qC (.str (PySem.Str.ofString "k")))))
  (qRet (qOp (dIn false) (qVar 3) (qTup (qCons (qC (.str (PySem.Str.ofString "car"))) (qCons (qC (.str (PySem.Str.ofString "chimney"))) (qCons (qC (.str (PySem.Str.ofString "grass"))) (qCons (qC (.str (PySem.Str.ofString "house"))) (qCons (qC (.str (PySem.Str.ofString "people"))) (qCons (qC (.str (PySem.Str.ofString "works"))) qNil)))))))))
  qNext)
  (qSeq (qIfS (qTB (qOp (dEq false) (qVar 2) (qC (.str (PySem.Str.ofString "e")))))
  (qRet (qOp (dIn false) (qVar 3) (qLc false (qiAny (qVar 1)) (gNameD 9) qYes (qOp dIx (qVar 9) (qC (.int 0))) [9])))
  qNext)
  (qRet (qOp (dIn false) (qVar 3) (qIf (qTB (qOp (dEq false) (qVar 2) (qC (.str (PySem.Str.ofString "s"))))) (qVar 6) (qLc false (qiAny (qVar 4)) (gNameD 10) qYes (qOp dIx (qVar 10) (qC (.int 0))) [10])))))))))
theorem dv__law_is_sort {k : Nat} (T : Tx w K mg) {sp__law_whole : DSp} (G__law_whole : FnOk P w K mg base (L2.CX P w) k T.f__law_whole.f T.f__law_whole.fd ["_law_thing", "_law_low", "_law_high"] (toSp K sp__law_whole)) {p : DSp} (hlen : ∀ ds M Q E, p ds M Q E → ds.length = 4)
    (hs : ∀ ds M Q Ed, upSp p ds M Q Ed → q__law_is_sort sp__law_whole (fun x _ M => Ed x M) (retE Q) (startD N__law_is_sort ds) M) : FnOk P w K mg base (L2.CX P w) (k + 1) T.f__law_is_sort.f T.f__law_is_sort.fd ["_law_told", "_law_engines_here", "_law_sort", "_law_thing"] (toSp K p) := by
  refine (fn_ok (p := upSp p) T.f__law_is_sort.F sc__law_is_sort (fun ds M Q E ⟨Q0, E0, h, _⟩ => hlen ds M Q0 E0 h) fun cdv A outer s H E hr tk hp => ?_).imp fun _ _ _ _ h => imp_up h
  have nd := sc__law_is_sort.nd
  have hu64 := hr.units
  have hu := Nat.lt_of_le_of_lt (Nat.add_le_add_left (show 1 ≤ 64 by decide) _) hu64
  exact ⟨_, q__law_is_sort sp__law_whole, (qss_cons (qs_asg (ix := [4, 5, 6]) (qv 0) (qg_tup rfl (qgs_cons (qg_nm 4 nd) (qgs_cons (qg_nm 5 nd) (qgs_cons (qg_nm 6 nd) qgs_nil)))))
  (qss_cons (qs_if (qt_cmp (o_in hu) (qv 2) q_str)
  (qss_cons (qs_asg (ix := [7, 8]) (q_ix hu (q_frzE (q_disp (.cons q_str (q_tup (qa_cons q_int (qa_cons q_int qa_nil))) (.cons q_str (q_tup (qa_cons q_int (qa_cons q_int qa_nil))) (.cons q_str (q_tup (qa_cons q_int (qa_cons (q_op o_sub (q_callB c_len rfl T.n_len (by decide +kernel) (qa_cons (qv 5) qa_nil)) q_int) qa_nil))) .nil))))) (qv 2)) (qg_tup rfl (qgs_cons (qg_nm 7 nd) (qgs_cons (qg_nm 8 nd) qgs_nil))))
  (qss_one (qs_ret (q_call G__law_whole hr tk rfl T.f__law_whole.g T.f__law_whole.F.kp T.f__law_whole.b .nil (fun _ => rfl) (qa_cons (qv 3) (qa_cons (qv 7) (qa_cons (qv 8) qa_nil)))))))
  qss_nil)
  (qss_cons (qs_if (qt_not (qt_val (q_callB c_isi rfl T.n_isinstance (by decide +kernel) (qa_cons (qv 3) (qa_cons (qe_c (pe_bltn (v := .ty "str") rfl T.n_str (by decide +kernel) rfl) fun _ => rfl) qa_nil)))))
  (qss_one (qs_ret q_bl))
  qss_nil)
  (qss_cons (qs_if (qt_cmp (o_eq hu64) (qv 2) q_str)
  (qss_one (qs_ret (q_cmp (o_in hu) (qv 3) (q_tup (qa_cons q_str (qa_cons q_str (qa_cons q_str (qa_cons q_str (qa_cons q_str (qa_cons q_str qa_nil))))))))))
  qss_nil)
  (qss_cons (qs_if (qt_cmp (o_eq hu64) (qv 2) q_str)
  (qss_one (qs_ret (q_cmp (o_in hu) (qv 3) (q_lcX (own := [("_law_engine", 9)]) false rfl nd (qi_any (qv 1)) (blkOk_by (own := [("_law_engine", 9)]) (N := N__law_is_sort) (sc := defScope s__law_is_sort) (by decide +kernel)) (fun _ _ _ _ _ => ⟨_, (qg_nm 9 nd)⟩) (fun _ _ _ _ _ => ⟨_, qts_nil⟩) (fun _ _ _ _ _ => ⟨_, (q_ix hu (qv 9) q_int)⟩)))))
  qss_nil)
  (qss_one (qs_ret (q_cmp (o_in hu) (qv 3) (q_if (qt_cmp (o_eq hu64) (qv 2) q_str) (qv 6) (q_lcX (own := [("_law_place", 10)]) false rfl nd (qi_any (qv 4)) (blkOk_by (own := [("_law_place", 10)]) (N := N__law_is_sort) (sc := defScope s__law_is_sort) (by decide +kernel)) (fun _ _ _ _ _ => ⟨_, (qg_nm 10 nd)⟩) (fun _ _ _ _ _ => ⟨_, qts_nil⟩) (fun _ _ _ _ _ => ⟨_, (q_ix hu (qv 10) q_int)⟩))))))))))), hs⟩
def q__law_due (sp__law_is_sort : DSp) : DTS :=
  (qSeq (qAsg (qFrzE (qDisp [((qC (.str (PySem.Str.ofString "call"))), (qC (.str (PySem.Str.ofString "lk")))), ((qC (.str (PySem.Str.ofString "again"))), (qC (.str (PySem.Str.ofString "c")))), ((qC (.str (PySem.Str.ofString "make"))), (qC (.str (PySem.Str.ofString "cp")))), ((qC (.str (PySem.Str.ofString "stop"))), (qC (.str (PySem.Str.ofString "c")))), ((qC (.str (PySem.Str.ofString "send"))), (qC (.str (PySem.Str.ofString "ec")))), ((qC (.str (PySem.Str.ofString "there"))), (qC (.str (PySem.Str.ofString "e")))), ((qC (.str (PySem.Str.ofString "back"))), (qC (.str (PySem.Str.ofString "e")))), ((qC (.str (PySem.Str.ofString "home"))), (qC (.str (PySem.Str.ofString "e")))), ((qC (.str (PySem.Str.ofString "off"))), (qC (.str (PySem.Str.ofString "e")))), ((qC (.str (PySem.Str.ofString "on"))), (qC (.str (PySem.Str.ofString "e")))), ((qC (.str (PySem.Str.ofString "stand"))), (qC (.str (PySem.Str.ofString "es")))), ((qC (.str (PySem.Str.ofString "lend"))), (qC (.str (PySem.Str.ofString "es")))), ((qC (.str (PySem.Str.ofString "shut"))), (qC (.str (PySem.Str.ofString "r")))), ((qC (.str (PySem.Str.ofString "clear"))), (qC (.str (PySem.Str.ofString "r")))), ((qC (.str (PySem.Str.ofString "nothing"))), (qC (.str (PySem.Str.ofString ""))))])) (gNameD 3))
  (qSeq (qIfS (qOr (qNot (qTB (qCB dIsi (qCons (qVar 2) (qCons (qC (.ty "tuple")) qNil))))) (qOr (qTB (qOp (dEq false) (qVar 2) (qTup qNil))) (qOr (qNot (qTB (qCB dIsi (qCons (qOp dIx (qVar 2) (qC (.int 0))) (qCons (qC (.ty "str")) qNil))))) (qTB (qOp (dIn true) (qOp dIx (qVar 2) (qC (.int 0))) (qVar 3))))))
  (qRet (qC (.int 0)))
  qNext)
  (qSeq (qAsg (qOp dIx (qVar 3) (qOp dIx (qVar 2) (qC (.int 0)))) (gNameD 4))
  (qSeq (qIfS (qTB (qOp (dEq true) (qCB dLen (qCons (qVar 2) qNil)) (qOp (dAdd false) (qC (.int 1)) (qCB dLen (qCons (qVar 4) qNil)))))
  (qRet (qC (.int 0)))
  qNext)
  (qSeq (qFor (qiRng1 (qCons (qCB dLen (qCons (qVar 4) qNil)) qNil)) (gNameD 5)
  (qIfS (qNot (qTB (qCall sp__law_is_sort [] (qCons (qVar 0) (qCons (qVar 1) (qCons (qOp dIx (qVar 4) (qVar 5)) (qCons (qOp dIx (qVar 2) (qOp (dAdd false) (qVar 5) (qC (.int 1)))) qNil)))))))
  (qRet (qOp (dAdd false) (qVar 5) (qC (.int 1))))
  qNext))
  (qRet (qUn dNeg (qC (.int 1)))))))))
theorem dv__law_due {k : Nat} (T : Tx w K mg) {sp__law_is_sort : DSp} (G__law_is_sort : FnOk P w K mg base (L2.CX P w) k T.f__law_is_sort.f T.f__law_is_sort.fd ["_law_told", "_law_engines_here", "_law_sort", "_law_thing"] (toSp K sp__law_is_sort)) {p : DSp} (hlen : ∀ ds M Q E, p ds M Q E → ds.length = 3)
    (hs : ∀ ds M Q Ed, upSp p ds M Q Ed → q__law_due sp__law_is_sort (fun x _ M => Ed x M) (retE Q) (startD N__law_due ds) M) : FnOk P w K mg base (L2.CX P w) (k + 1) T.f__law_due.f T.f__law_due.fd ["_law_told", "_law_engines_here", "_law_thing"] (toSp K p) := by
  refine (fn_ok (p := upSp p) T.f__law_due.F sc__law_due (fun ds M Q E ⟨Q0, E0, h, _⟩ => hlen ds M Q0 E0 h) fun cdv A outer s H E hr tk hp => ?_).imp fun _ _ _ _ h => imp_up h
  have nd := sc__law_due.nd
  have hu64 := hr.units
  have hu := Nat.lt_of_le_of_lt (Nat.add_le_add_left (show 1 ≤ 64 by decide) _) hu64
  exact ⟨_, q__law_due sp__law_is_sort, (qss_cons (qs_setN 3 nd (q_frzE (q_disp (.cons q_str q_str (.cons q_str q_str (.cons q_str q_str (.cons q_str q_str (.cons q_str q_str (.cons q_str q_str (.cons q_str q_str (.cons q_str q_str (.cons q_str q_str (.cons q_str q_str (.cons q_str q_str (.cons q_str q_str (.cons q_str q_str (.cons q_str q_str (.cons q_str q_str .nil))))))))))))))))))
  (qss_cons (qs_if (QW.t (qw_or (qt_not (qt_val (q_callB c_isi rfl T.n_isinstance (by decide +kernel) (qa_cons (qv 2) (qa_cons (qe_c (pe_bltn (v := .ty "tuple") rfl T.n_tuple (by decide +kernel) rfl) fun _ => rfl) qa_nil))))) (qw_or (qt_cmp (o_eq hu64) (qv 2) (q_tup qa_nil)) (qw_or (qt_not (qt_val (q_callB c_isi rfl T.n_isinstance (by decide +kernel) (qa_cons (q_ix hu (qv 2) q_int) (qa_cons (qe_c (pe_bltn (v := .ty "str") rfl T.n_str (by decide +kernel) rfl) fun _ => rfl) qa_nil))))) (qw_or1 (qt_cmp (o_notin hu) (q_ix hu (qv 2) q_int) (qv 3)))))))
  (qss_one (qs_ret q_int))
  qss_nil)
  (qss_cons (qs_setN 4 nd (q_ix hu (qv 3) (q_ix hu (qv 2) q_int)))
  (qss_cons (qs_if (qt_cmp (o_ne hu64) (q_callB c_len rfl T.n_len (by decide +kernel) (qa_cons (qv 2) qa_nil)) (q_op (o_add false) q_int (q_callB c_len rfl T.n_len (by decide +kernel) (qa_cons (qv 4) qa_nil))))
  (qss_one (qs_ret q_int))
  qss_nil)
  (qss_cons (qs_for (ix := [5]) hp rfl (qi_range1 rfl T.n_range (qa_cons (q_callB c_len rfl T.n_len (by decide +kernel) (qa_cons (qv 4) qa_nil)) qa_nil)) (qg_nm 5 nd)
  (qss_one (qs_if (qt_not (qt_val (q_call G__law_is_sort hr tk rfl T.f__law_is_sort.g T.f__law_is_sort.F.kp T.f__law_is_sort.b .nil (fun _ => rfl) (qa_cons (qv 0) (qa_cons (qv 1) (qa_cons (q_ix hu (qv 4) (qv 5)) (qa_cons (q_ix hu (qv 2) (q_op (o_add false) (qv 5) q_int)) qa_nil)))))))
  (qss_one (qs_ret (q_op (o_add false) (qv 5) q_int)))
  qss_nil)))
  (qss_one (qs_ret (q_neg q_int)))))))), hs⟩
def q__law_any (sp__law_take : DSp) : DTS :=
  (qSeq (qAsg (qVar 1) (gTupD 3 (gConsD (gNameD 3) (gConsD (gNameD 4) (gConsD (gNameD 5) gNilD)))))
  (qSeq (qAsg (qLst false (qCons (qC .non) (qCons (qC (.bl true)) (qCons (qC (.bl false)) (qCons (qC (.int 0)) (qCons (qC (.int 1)) (qCons (qC (.int 20)) (qCons (qC (.int 21)) (qCons (qC (.int 200)) (qCons (qC (.int 201)) (qCons (qUn dNeg (qC (.int 1))) (qCons (qCB dLen (qCons (qVar 4) qNil)) (qCons (qOp (dInt CPow fun i j => i ^ j.toNat) (qC (.int 10)) (qC (.int 40))) (qCons (qC (.str (PySem.Str.ofString ""))) (qCons (qC (.str (PySem.Str.ofString "car"))) (qCons (qC (.str (PySem.Str.ofString "cars"))) (qCons (qC (.str (PySem.Str.ofString "call"))) (qCons (qLst false qNil) (qCons (qTup qNil) (qCons (qLst false (qCons (qC (.int 1)) qNil)) qNil)))))))))))))))))))) (gNameD 6))
  (qSeq (qAsg (qOp (dAdd false) (qVar 6) (qLst false (qCons (qTup (qCons (qC (.int 1)) (qCons (qLst false (qCons (qC (.int 2)) qNil)) qNil))) (qCons (qOp dIx (qOp dIx (qVar 3) (qCall sp__law_take [] (qCons (qVar 0) (qCons (qCB dLen (qCons (qVar 3) qNil)) qNil)))) (qC (.int 0))) (qCons (qOp dIx (qOp dIx (qVar 2) (qC (.int 0))) (qC (.int 0))) (qCons (qOp dIx (qVar 5) (qUn dNeg (qC (.int 1)))) (qCons (qC (.str (PySem.Str.ofString "nothing"))) (qCons (qC (.str (PySem.Str.ofString "Send"))) qNil)))))))) (gNameD 6))
  (qRet (qOp dIx (qVar 6) (qCall sp__law_take [] (qCons (qVar 0) (qCons (qC (.int 25)) qNil))))))))
theorem dv__law_any {k : Nat} (T : Tx w K mg) {sp__law_take : DSp} (G__law_take : FnOk P w K mg base (L2.CX P w) k T.f__law_take.f T.f__law_take.fd ["_law_bag_here", "_law_many"] (toSp K sp__law_take)) {p : DSp} (hlen : ∀ ds M Q E, p ds M Q E → ds.length = 3)
    (hs : ∀ ds M Q Ed, upSp p ds M Q Ed → q__law_any sp__law_take (fun x _ M => Ed x M) (retE Q) (startD N__law_any ds) M) : FnOk P w K mg base (L2.CX P w) (k + 1) T.f__law_any.f T.f__law_any.fd ["_law_bag_here", "_law_told", "_law_engines_here"] (toSp K p) := by
  refine (fn_ok (p := upSp p) T.f__law_any.F sc__law_any (fun ds M Q E ⟨Q0, E0, h, _⟩ => hlen ds M Q0 E0 h) fun cdv A outer s H E hr tk hp => ?_).imp fun _ _ _ _ h => imp_up h
  have nd := sc__law_any.nd
  have hu64 := hr.units
  have hu := Nat.lt_of_le_of_lt (Nat.add_le_add_left (show 1 ≤ 64 by decide) _) hu64
  exact ⟨_, q__law_any sp__law_take, (qss_cons (qs_asg (ix := [3, 4, 5]) (qv 1) (qg_tup rfl (qgs_cons (qg_nm 3 nd) (qgs_cons (qg_nm 4 nd) (qgs_cons (qg_nm 5 nd) qgs_nil)))))
  (qss_cons (qs_setN 6 nd (q_lst false (qa_cons q_non (qa_cons q_bl (qa_cons q_bl (qa_cons q_int (qa_cons q_int (qa_cons q_int (qa_cons q_int (qa_cons q_int (qa_cons q_int (qa_cons (q_neg q_int) (qa_cons (q_callB c_len rfl T.n_len (by decide +kernel) (qa_cons (qv 4) qa_nil)) (qa_cons (q_op o_pow q_int q_int) (qa_cons q_str (qa_cons q_str (qa_cons q_str (qa_cons q_str (qa_cons (q_lst false qa_nil) (qa_cons (q_tup qa_nil) (qa_cons (q_lst false (qa_cons q_int qa_nil)) qa_nil)))))))))))))))))))))
  (qss_cons (qs_setN 6 nd (q_op (o_add false) (qv 6) (q_lst false (qa_cons (q_tup (qa_cons q_int (qa_cons (q_lst false (qa_cons q_int qa_nil)) qa_nil))) (qa_cons (q_ix hu (q_ix hu (qv 3) (q_call G__law_take hr tk rfl T.f__law_take.g T.f__law_take.F.kp T.f__law_take.b .nil (fun _ => rfl) (qa_cons (qv 0) (qa_cons (q_callB c_len rfl T.n_len (by decide +kernel) (qa_cons (qv 3) qa_nil)) qa_nil)))) q_int) (qa_cons (q_ix hu (q_ix hu (qv 2) q_int) q_int) (qa_cons (q_ix hu (qv 5) (q_neg q_int)) (qa_cons q_str (qa_cons q_str qa_nil)))))))))
  (qss_one (qs_ret (q_ix hu (qv 6) (q_call G__law_take hr tk rfl T.f__law_take.g T.f__law_take.F.kp T.f__law_take.b .nil (fun _ => rfl) (qa_cons (qv 0) (qa_cons q_int qa_nil))))))))), hs⟩
def q__law_bent (sp__law_any : DSp) (sp__law_take : DSp) : DTS :=
  (qSeq (qPar 4 5 (qCons (qCall sp__law_take [] (qCons (qVar 0) (qCons (qC (.int 6)) qNil))) (qCons (qCall sp__law_take [] (qCons (qVar 0) (qCons (qCB dLen (qCons (qVar 3) qNil)) qNil))) qNil)))
  (qSeq (qAsg (qCall sp__law_any [] (qCons (qVar 0) (qCons (qVar 1) (qCons (qVar 2) qNil)))) (gNameD 6))
  (qSeq (qIfS (qTB (qOp (dEq false) (qVar 4) (qC (.int 0))))
  (qRet (qOp (dAdd false) (qSl false (qVar 3) qNoPart (qPart (qVar 5))) (qSl false (qVar 3) (qPart (qOp (dAdd false) (qVar 5) (qC (.int 1)))) qNoPart)))
  qNext)
  (qSeq (qIfS (qTB (qOp (dEq false) (qVar 4) (qC (.int 1))))
  (qRet (qOp (dAdd false) (qOp (dAdd false) (qSl false (qVar 3) qNoPart (qPart (qVar 5))) (qTup (qCons (qVar 6) qNil))) (qSl false (qVar 3) (qPart (qVar 5)) qNoPart)))
  qNext)
  (qSeq (qIfS (qTB (qOp (dEq false) (qVar 4) (qC (.int 2))))
  (qRet (qOp dIx (qLst false (qCons (qCB (dList false) (qCons (qVar 3) qNil)) (qCons (qVar 6) qNil))) (qCall sp__law_take [] (qCons (qVar 0) (qCons (qC (.int 2)) qNil)))))
  qNext)
  (qRet (qOp (dAdd false) (qOp (dAdd false) (qSl false (qVar 3) qNoPart (qPart (qVar 5))) (qTup (qCons (qVar 6) qNil))) (qSl false (qVar 3) (qPart (qOp (dAdd false) (qVar 5) (qC (.int 1)))) qNoPart))))))))
theorem dv__law_bent {k : Nat} (T : Tx w K mg) {sp__law_any : DSp} (G__law_any : FnOk P w K mg base (L2.CX P w) k T.f__law_any.f T.f__law_any.fd ["_law_bag_here", "_law_told", "_law_engines_here"] (toSp K sp__law_any)) {sp__law_take : DSp} (G__law_take : FnOk P w K mg base (L2.CX P w) k T.f__law_take.f T.f__law_take.fd ["_law_bag_here", "_law_many"] (toSp K sp__law_take)) {p : DSp} (hlen : ∀ ds M Q E, p ds M Q E → ds.length = 4)
    (hs : ∀ ds M Q Ed, upSp p ds M Q Ed → q__law_bent sp__law_any sp__law_take (fun x _ M => Ed x M) (retE Q) (startD N__law_bent ds) M) : FnOk P w K mg base (L2.CX P w) (k + 1) T.f__law_bent.f T.f__law_bent.fd ["_law_bag_here", "_law_told", "_law_engines_here", "_law_deed_here"] (toSp K p) := by
  refine (fn_ok (p := upSp p) T.f__law_bent.F sc__law_bent (fun ds M Q E ⟨Q0, E0, h, _⟩ => hlen ds M Q0 E0 h) fun cdv A outer s H E hr tk hp => ?_).imp fun _ _ _ _ h => imp_up h
  have nd := sc__law_bent.nd
  have hu64 := hr.units
  have hu := Nat.lt_of_le_of_lt (Nat.add_le_add_left (show 1 ≤ 64 by decide) _) hu64
  exact ⟨_, q__law_bent sp__law_any sp__law_take, (qss_cons (qs_parN 4 5 rfl nd (qa_cons (q_call G__law_take hr tk rfl T.f__law_take.g T.f__law_take.F.kp T.f__law_take.b .nil (fun _ => rfl) (qa_cons (qv 0) (qa_cons q_int qa_nil))) (qa_cons (q_call G__law_take hr tk rfl T.f__law_take.g T.f__law_take.F.kp T.f__law_take.b .nil (fun _ => rfl) (qa_cons (qv 0) (qa_cons (q_callB c_len rfl T.n_len (by decide +kernel) (qa_cons (qv 3) qa_nil)) qa_nil))) qa_nil)))
  (qss_cons (qs_setN 6 nd (q_call G__law_any hr tk rfl T.f__law_any.g T.f__law_any.F.kp T.f__law_any.b .nil (fun _ => rfl) (qa_cons (qv 0) (qa_cons (qv 1) (qa_cons (qv 2) qa_nil)))))
  (qss_cons (qs_if (qt_cmp (o_eq hu64) (qv 4) q_int)
  (qss_one (qs_ret (q_op (o_add false) (q_slice false (qv 3) qo_none (qo_some (qv 5))) (q_slice false (qv 3) (qo_some (q_op (o_add false) (qv 5) q_int)) qo_none))))
  qss_nil)
  (qss_cons (qs_if (qt_cmp (o_eq hu64) (qv 4) q_int)
  (qss_one (qs_ret (q_op (o_add false) (q_op (o_add false) (q_slice false (qv 3) qo_none (qo_some (qv 5))) (q_tup (qa_cons (qv 6) qa_nil))) (q_slice false (qv 3) (qo_some (qv 5)) qo_none))))
  qss_nil)
  (qss_cons (qs_if (qt_cmp (o_eq hu64) (qv 4) q_int)
  (qss_one (qs_ret (q_ix hu (q_lst false (qa_cons (q_callTy (c_list false) rfl T.n_list (by decide +kernel) (qa_cons (qv 3) qa_nil)) (qa_cons (qv 6) qa_nil))) (q_call G__law_take hr tk rfl T.f__law_take.g T.f__law_take.F.kp T.f__law_take.b .nil (fun _ => rfl) (qa_cons (qv 0) (qa_cons q_int qa_nil))))))
  qss_nil)
  (qss_one (qs_ret (q_op (o_add false) (q_op (o_add false) (q_slice false (qv 3) qo_none (qo_some (qv 5))) (q_tup (qa_cons (qv 6) qa_nil))) (q_slice false (qv 3) (qo_some (q_op (o_add false) (qv 5) q_int)) qo_none))))))))), hs⟩
def q__law_each (sp__law_due : DSp) (sp__law_like : DSp) (sp_fault : DSp) : DTS :=
  (qSeq (qAsg (qFrzE (qDisp [((qC (.str (PySem.Str.ofString "l"))), (qOp dIx (qOp dIx (qOp dIx (qVar 0) (qC (.int 0))) (qC (.int 0))) (qC (.int 0)))), ((qC (.str (PySem.Str.ofString "k"))), (qC (.str (PySem.Str.ofString "house")))), ((qC (.str (PySem.Str.ofString "c"))), (qC (.int 1))), ((qC (.str (PySem.Str.ofString "p"))), (qC (.int 1))), ((qC (.str (PySem.Str.ofString "e"))), (qOp dIx (qOp dIx (qVar 1) (qC (.int 0))) (qC (.int 0)))), ((qC (.str (PySem.Str.ofString "s"))), (qOp dIx (qOp dIx (qVar 0) (qC (.int 2))) (qC (.int 0)))), ((qC (.str (PySem.Str.ofString "r"))), (qC (.int 0)))])) (gNameD 3))
  (qSeq (qAsg (qDisp [((qC (.str (PySem.Str.ofString "call"))), (qC (.str (PySem.Str.ofString "lk")))), ((qC (.str (PySem.Str.ofString "again"))), (qC (.str (PySem.Str.ofString "c")))), ((qC (.str (PySem.Str.ofString "make"))), (qC (.str (PySem.Str.ofString "cp")))), ((qC (.str (PySem.Str.ofString "send"))), (qC (.str (PySem.Str.ofString "ec")))), ((qC (.str (PySem.Str.ofString "stand"))), (qC (.str (PySem.Str.ofString "es")))), ((qC (.str (PySem.Str.ofString "lend"))), (qC (.str (PySem.Str.ofString "es")))), ((qC (.str (PySem.Str.ofString "shut"))), (qC (.str (PySem.Str.ofString "r"))))]) (gNameD 4))
  (qSeq (qDrop (qBMD mUpdD (qVar 4) (qCons (qFrzE (qDisp [((qC (.str (PySem.Str.ofString "stop"))), (qC (.str (PySem.Str.ofString "c")))), ((qC (.str (PySem.Str.ofString "there"))), (qC (.str (PySem.Str.ofString "e")))), ((qC (.str (PySem.Str.ofString "clear"))), (qC (.str (PySem.Str.ofString "r")))), ((qC (.str (PySem.Str.ofString "nothing"))), (qC (.str (PySem.Str.ofString ""))))])) qNil)))
  (qSeq (qAsg (qLst false (qCons (qC (.int 0)) (qCons (qC (.int 1)) (qCons (qC (.int 20)) (qCons (qC (.int 21)) (qCons (qC (.int 200)) (qCons (qC (.int 201)) (qCons (qUn dNeg (qC (.int 1))) (qCons (qCB dLen (qCons (qOp dIx (qVar 0) (qC (.int 1))) qNil)) (qCons (qOp (dInt0 fun i j => i - j) (qCB dLen (qCons (qOp dIx (qVar 0) (qC (.int 1))) qNil)) (qC (.int 1))) (qCons (qC (.bl true)) (qCons (qC (.str (PySem.Str.ofString "house"))) (qCons (qC (.str (PySem.Str.ofString "car"))) (qCons (qC (.str (PySem.Str.ofString "none"))) qNil)))))))))))))) (gNameD 5))
  (qSeq (qAsg (qOp (dAdd false) (qOp (dAdd false) (qVar 5) (qLc false (qiAny (qOp dIx (qVar 0) (qC (.int 0)))) (gTupD 2 (gConsD (gNameD 11) (gConsD (gNameD 12) gNilD))) qYes (qVar 11) [11, 12])) (qLc false (qiAny (qVar 1)) (gNameD 13) qYes (qOp dIx (qVar 13) (qC (.int 0))) [13])) (gNameD 5))
  (qSeq (qLock (selN 4) (qFor (qiKeys (qVar 4)) (gNameD 6)
  (qSeq (qAsg (qOp (dAdd false) (qTup (qCons (qVar 6) qNil)) (qCB dTuple (qCons (qLc false (qiAny (qOp dIx (qVar 4) (qVar 6))) (gNameD 14) qYes (qOp dIx (qVar 3) (qVar 14)) [14]) qNil))) (gNameD 7))
  (qFor (qiRng2 (qCons (qC (.int 1)) (qCons (qCB dLen (qCons (qVar 7) qNil)) qNil))) (gNameD 8)
  (qFor (qiAny (qVar 5)) (gNameD 9)
  (qSeq (qAsg (qOp (dAdd false) (qOp (dAdd false) (qSl false (qVar 7) qNoPart (qPart (qVar 8))) (qTup (qCons (qVar 9) qNil))) (qSl false (qVar 7) (qPart (qOp (dAdd false) (qVar 8) (qC (.int 1)))) qNoPart)) (gNameD 10))
  (qIfS (qNot (qTB (qCall sp__law_like [] (qCons (qCall sp_fault [] (qCons (qVar 2) (qCons (qVar 1) (qCons (qVar 10) qNil)))) (qCons (qCall sp__law_due [] (qCons (qVar 0) (qCons (qVar 1) (qCons (qVar 10) qNil)))) qNil)))))
  (qRet (qC (.bl false)))
  qNext)))))))
  (qRet (qC (.bl true)))))))))
theorem dv__law_each {k : Nat} (T : Tx w K mg) {sp__law_due : DSp} (G__law_due : FnOk P w K mg base (L2.CX P w) k T.f__law_due.f T.f__law_due.fd ["_law_told", "_law_engines_here", "_law_thing"] (toSp K sp__law_due)) {sp__law_like : DSp} (G__law_like : FnOk P w K mg base (L2.CX P w) k T.f__law_like.f T.f__law_like.fd ["_law_told", "_law_due_here"] (toSp K sp__law_like)) {sp_fault : DSp} (G_fault : FnOk P w K mg base (L2.CX P w) k T.f_fault.f T.f_fault.fd ["ground", "engines", "thing"] (toSp K sp_fault)) {p : DSp} (hlen : ∀ ds M Q E, p ds M Q E → ds.length = 3)
    (hs : ∀ ds M Q Ed, upSp p ds M Q Ed → q__law_each sp__law_due sp__law_like sp_fault (fun x _ M => Ed x M) (retE Q) (startD N__law_each ds) M) : FnOk P w K mg base (L2.CX P w) (k + 1) T.f__law_each.f T.f__law_each.fd ["_law_told", "_law_engines_here", "_law_ground_here"] (toSp K p) := by
  refine (fn_ok (p := upSp p) T.f__law_each.F sc__law_each (fun ds M Q E ⟨Q0, E0, h, _⟩ => hlen ds M Q0 E0 h) fun cdv A outer s H E hr tk hp => ?_).imp fun _ _ _ _ h => imp_up h
  have nd := sc__law_each.nd
  have hu64 := hr.units
  have hu := Nat.lt_of_le_of_lt (Nat.add_le_add_left (show 1 ≤ 64 by decide) _) hu64
  exact ⟨_, q__law_each sp__law_due sp__law_like sp_fault, (qss_cons (qs_setN 3 nd (q_frzE (q_disp (.cons q_str (q_ix hu (q_ix hu (q_ix hu (qv 0) q_int) q_int) q_int) (.cons q_str q_str (.cons q_str q_int (.cons q_str q_int (.cons q_str (q_ix hu (q_ix hu (qv 1) q_int) q_int) (.cons q_str (q_ix hu (q_ix hu (qv 0) q_int) q_int) (.cons q_str q_int .nil))))))))))
  (qss_cons (qs_setN 4 nd (q_disp (.cons q_str q_str (.cons q_str q_str (.cons q_str q_str (.cons q_str q_str (.cons q_str q_str (.cons q_str q_str (.cons q_str q_str .nil)))))))))
  (qss_cons (qs_expr (q_bmD PySem.F.plainAttrs_dict PySem.F.slot_dict_update PySem.F.type_dict_update m_updateD (qv 4) (qa_cons (q_frzE (q_disp (.cons q_str q_str (.cons q_str q_str (.cons q_str q_str (.cons q_str q_str .nil)))))) qa_nil)))
  (qss_cons (qs_setN 5 nd (q_lst false (qa_cons q_int (qa_cons q_int (qa_cons q_int (qa_cons q_int (qa_cons q_int (qa_cons q_int (qa_cons (q_neg q_int) (qa_cons (q_callB c_len rfl T.n_len (by decide +kernel) (qa_cons (q_ix hu (qv 0) q_int) qa_nil)) (qa_cons (q_op o_sub (q_callB c_len rfl T.n_len (by decide +kernel) (qa_cons (q_ix hu (qv 0) q_int) qa_nil)) q_int) (qa_cons q_bl (qa_cons q_str (qa_cons q_str (qa_cons q_str qa_nil)))))))))))))))
  (qss_cons (qs_setN 5 nd (q_op (o_add false) (q_op (o_add false) (qv 5) (q_lcX (own := [("_law_place", 11), ("_law_risk", 12)]) false rfl nd (qi_any (q_ix hu (qv 0) q_int)) (blkOk_by (own := [("_law_place", 11), ("_law_risk", 12)]) (N := N__law_each) (sc := defScope s__law_each) (by decide +kernel)) (fun _ _ _ _ _ => ⟨_, (qg_tup rfl (qgs_cons (qg_nm 11 nd) (qgs_cons (qg_nm 12 nd) qgs_nil)))⟩) (fun _ _ _ _ _ => ⟨_, qts_nil⟩) (fun _ _ _ _ _ => ⟨_, (qv 11)⟩))) (q_lcX (own := [("_law_engine", 13)]) false rfl nd (qi_any (qv 1)) (blkOk_by (own := [("_law_engine", 13)]) (N := N__law_each) (sc := defScope s__law_each) (by decide +kernel)) (fun _ _ _ _ _ => ⟨_, (qg_nm 13 nd)⟩) (fun _ _ _ _ _ => ⟨_, qts_nil⟩) (fun _ _ _ _ _ => ⟨_, (q_ix hu (qv 13) q_int)⟩))))
  (qss_cons (qs_lock (sel := (selN 4)) (qs_for (ix := [6]) hp rfl (qi_keys (qv 4)) (qg_nm 6 nd)
  (qss_cons (qs_setN 7 nd (q_op (o_add false) (q_tup (qa_cons (qv 6) qa_nil)) (q_callTy c_tuple rfl T.n_tuple (by decide +kernel) (qa_cons (q_lcX (own := [("_law_sort", 14)]) false rfl nd (qi_any (q_ix hu (qv 4) (qv 6))) (blkOk_by (own := [("_law_sort", 14)]) (N := N__law_each) (sc := defScope s__law_each) (by decide +kernel)) (fun _ _ _ _ _ => ⟨_, (qg_nm 14 nd)⟩) (fun _ _ _ _ _ => ⟨_, qts_nil⟩) (fun _ _ _ _ _ => ⟨_, (q_ix hu (qv 3) (qv 14))⟩)) qa_nil))))
  (qss_one (qs_for (ix := [8]) hp rfl (qi_range2 rfl T.n_range (qa_cons q_int (qa_cons (q_callB c_len rfl T.n_len (by decide +kernel) (qa_cons (qv 7) qa_nil)) qa_nil))) (qg_nm 8 nd)
  (qss_one (qs_for (ix := [9]) hp rfl (qi_any (qv 5)) (qg_nm 9 nd)
  (qss_cons (qs_setN 10 nd (q_op (o_add false) (q_op (o_add false) (q_slice false (qv 7) qo_none (qo_some (qv 8))) (q_tup (qa_cons (qv 9) qa_nil))) (q_slice false (qv 7) (qo_some (q_op (o_add false) (qv 8) q_int)) qo_none)))
  (qss_one (qs_if (qt_not (qt_val (q_call G__law_like hr tk rfl T.f__law_like.g T.f__law_like.F.kp T.f__law_like.b .nil (fun _ => rfl) (qa_cons (q_call G_fault hr tk rfl T.f_fault.g T.f_fault.F.kp T.f_fault.b .nil (fun _ => rfl) (qa_cons (qv 2) (qa_cons (qv 1) (qa_cons (qv 10) qa_nil)))) (qa_cons (q_call G__law_due hr tk rfl T.f__law_due.g T.f__law_due.F.kp T.f__law_due.b .nil (fun _ => rfl) (qa_cons (qv 0) (qa_cons (qv 1) (qa_cons (qv 10) qa_nil)))) qa_nil)))))
  (qss_one (qs_ret q_bl))
  qss_nil))))))))))
  (qss_one (qs_ret q_bl)))))))), hs⟩
def q_law (c_Ground : Addr) (sp_Ground___init__ : DSp) (sp__law_bag : DSp) (sp__law_bent : DSp) (sp__law_deed : DSp) (sp__law_due : DSp) (sp__law_each : DSp) (sp__law_engines : DSp) (sp__law_ground : DSp) (sp__law_like : DSp) (sp_fault : DSp) : DTS :=
  (qSeq (qAsg (qCall sp__law_bag [] (qCons (qVar 0) (qCons (qC (.int 0)) qNil))) (gNameD 1))
  (qSeq (qAsg (qCall sp__law_ground [] (qCons (qVar 1) qNil)) (gNameD 2))
  (qSeq (qAsg (qCall sp__law_engines [] (qCons (qVar 1) (qCons (qOp dIx (qVar 2) (qC (.int 2))) qNil))) (gNameD 3))
  (qSeq (qAsg (qFrzE (qMake c_Ground sp_Ground___init__ [] (qCons (qOp dIx (qVar 2) (qC (.int 0))) (qCons (qOp dIx (qVar 2) (qC (.int 1))) (qCons (qOp dIx (qVar 2) (qC (.int 2))) qNil))))) (gNameD 4))
  (qSeq (qFor (qiRng1 (qCons (qCB dMax2 (qCons (qC (.int 12)) (qCons (qCB dMin2 (qCons (qC (.int 40)) (qCons (qOp (dInt0 fun i j => i - j) (qCB dLen (qCons (qVar 0) qNil)) (qC (.int 1))) qNil))) qNil))) qNil)) (gNameD 5)
  (qSeq (qAsg (qCall sp__law_bag [] (qCons (qVar 0) (qCons (qOp (dAdd false) (qC (.int 1)) (qVar 5)) qNil))) (gNameD 1))
  (qSeq (qAsg (qCall sp__law_deed [] (qCons (qVar 1) (qCons (qVar 2) (qCons (qVar 3) (qCons (qLst false qNil) qNil))))) (gNameD 6))
  (qSeq (qAsg (qLst true (qCons (qVar 6) (qCons (qCall sp__law_bent [] (qCons (qVar 1) (qCons (qVar 2) (qCons (qVar 3) (qCons (qVar 6) qNil))))) qNil))) (gNameD 7))
  (qSeq (qIfS (qAnd (qTB (qCB dIsi (qCons (qOp dIx (qVar 7) (qC (.int 1))) (qCons (qC (.ty "tuple")) qNil)))) (qTB (qOp (dEq true) (qOp dIx (qVar 7) (qC (.int 1))) (qTup qNil))))
  (qDrop (qBM "list" mApp (qVar 7) (qCons (qCall sp__law_bent [] (qCons (qVar 1) (qCons (qVar 2) (qCons (qVar 3) (qCons (qOp dIx (qVar 7) (qC (.int 1))) qNil))))) qNil)))
  qNext)
  (qSeq (qFor (qiAny (qVar 7)) (gNameD 8)
  (qFor (qiRng1 (qCons (qC (.int 2)) qNil)) (gNameD 9)
  (qIfS (qNot (qTB (qCall sp__law_like [] (qCons (qCall sp_fault [] (qCons (qVar 4) (qCons (qVar 3) (qCons (qVar 8) qNil)))) (qCons (qCall sp__law_due [] (qCons (qVar 2) (qCons (qVar 3) (qCons (qVar 8) qNil)))) qNil)))))
  (qRet (qC (.bl false)))
  qNext)))
  (qIfS (qTB (qOp (dEq true) (qCall sp_fault [] (qCons (qVar 4) (qCons (qVar 3) (qCons (qVar 6) qNil)))) (qUn dNeg (qC (.int 1)))))
  (qRet (qC (.bl false)))
  qNext)))))))
  (qSeq (qIfS (qNot (qTB (qCall sp__law_each [] (qCons (qVar 2) (qCons (qVar 3) (qCons (qVar 4) qNil))))))
  (qRet (qC (.bl false)))
  qNext)
  (qSeq (qIfS (qNot (qTB (qCall sp__law_each [] (qCons (qTup (qCons (qOp dIx (qVar 2) (qC (.int 0))) (qCons (qTup qNil) (qCons (qOp dIx (qVar 2) (qC (.int 2))) qNil)))) (qCons (qVar 3) (qCons (qFrzE (qMake c_Ground sp_Ground___init__ [] (qCons (qOp dIx (qVar 2) (qC (.int 0))) (qCons (qTup qNil) (qCons (qOp dIx (qVar 2) (qC (.int 2))) qNil))))) qNil))))))
  (qRet (qC (.bl false)))
  qNext)
  (qRet (qOp (dEq false) (qCall sp_fault [] (qCons (qVar 4) (qCons (qTup qNil) (qCons (qTup (qCons (qC (.str (PySem.Str.ofString "back"))) (qCons (qOp dIx (qOp dIx (qVar 3) (qC (.int 0))) (qC (.int 0))) qNil))) qNil)))) (qC (.int 1)))))))))))
theorem dv_law {k : Nat} (T : Tx w K mg) {ki_Ground : Nat} (hi_Ground : ki_Ground + 1 ≤ k) {sp_Ground___init__ : DSp} (G_Ground___init__ : FnOk P w K mg base (L2.CX P w) ki_Ground T.f_Ground___init__.f T.f_Ground___init__.fd ["self", "places", "roads", "stations"] (toSp K sp_Ground___init__)) {sp__law_bag : DSp} (G__law_bag : FnOk P w K mg base (L2.CX P w) k T.f__law_bag.f T.f__law_bag.fd ["_law_script", "_law_at"] (toSp K sp__law_bag)) {sp__law_bent : DSp} (G__law_bent : FnOk P w K mg base (L2.CX P w) k T.f__law_bent.f T.f__law_bent.fd ["_law_bag_here", "_law_told", "_law_engines_here", "_law_deed_here"] (toSp K sp__law_bent)) {sp__law_deed : DSp} (G__law_deed : FnOk P w K mg base (L2.CX P w) k T.f__law_deed.f T.f__law_deed.fd ["_law_bag_here", "_law_told", "_law_engines_here", "_law_calls"] (toSp K sp__law_deed)) {sp__law_due : DSp} (G__law_due : FnOk P w K mg base (L2.CX P w) k T.f__law_due.f T.f__law_due.fd ["_law_told", "_law_engines_here", "_law_thing"] (toSp K sp__law_due)) {sp__law_each : DSp} (G__law_each : FnOk P w K mg base (L2.CX P w) k T.f__law_each.f T.f__law_each.fd ["_law_told", "_law_engines_here", "_law_ground_here"] (toSp K sp__law_each)) {sp__law_engines : DSp} (G__law_engines : FnOk P w K mg base (L2.CX P w) k T.f__law_engines.f T.f__law_engines.fd ["_law_bag_here", "_law_stations"] (toSp K sp__law_engines)) {sp__law_ground : DSp} (G__law_ground : FnOk P w K mg base (L2.CX P w) k T.f__law_ground.f T.f__law_ground.fd ["_law_bag_here"] (toSp K sp__law_ground)) {sp__law_like : DSp} (G__law_like : FnOk P w K mg base (L2.CX P w) k T.f__law_like.f T.f__law_like.fd ["_law_told", "_law_due_here"] (toSp K sp__law_like)) {sp_fault : DSp} (G_fault : FnOk P w K mg base (L2.CX P w) k T.f_fault.f T.f_fault.fd ["ground", "engines", "thing"] (toSp K sp_fault)) {p : DSp} (hlen : ∀ ds M Q E, p ds M Q E → ds.length = 1)
    (hs : ∀ ds M Q Ed, upSp p ds M Q Ed → q_law T.c_Ground.C sp_Ground___init__ sp__law_bag sp__law_bent sp__law_deed sp__law_due sp__law_each sp__law_engines sp__law_ground sp__law_like sp_fault (fun x _ M => Ed x M) (retE Q) (startD N_law ds) M) : FnOk P w K mg base (L2.CX P w) (k + 1) T.f_law.f T.f_law.fd ["_law_script"] (toSp K p) := by
  refine (fn_ok (p := upSp p) T.f_law.F sc_law (fun ds M Q E ⟨Q0, E0, h, _⟩ => hlen ds M Q0 E0 h) fun cdv A outer s H E hr tk hp => ?_).imp fun _ _ _ _ h => imp_up h
  have nd := sc_law.nd
  have hu64 := hr.units
  have hu := Nat.lt_of_le_of_lt (Nat.add_le_add_left (show 1 ≤ 64 by decide) _) hu64
  exact ⟨_, q_law T.c_Ground.C sp_Ground___init__ sp__law_bag sp__law_bent sp__law_deed sp__law_due sp__law_each sp__law_engines sp__law_ground sp__law_like sp_fault, (qss_cons (qs_setN 1 nd (q_call G__law_bag hr tk rfl T.f__law_bag.g T.f__law_bag.F.kp T.f__law_bag.b .nil (fun _ => rfl) (qa_cons (qv 0) (qa_cons q_int qa_nil))))
  (qss_cons (qs_setN 2 nd (q_call G__law_ground hr tk rfl T.f__law_ground.g T.f__law_ground.F.kp T.f__law_ground.b .nil (fun _ => rfl) (qa_cons (qv 1) qa_nil)))
  (qss_cons (qs_setN 3 nd (q_call G__law_engines hr tk rfl T.f__law_engines.g T.f__law_engines.F.kp T.f__law_engines.b .nil (fun _ => rfl) (qa_cons (qv 1) (qa_cons (q_ix hu (qv 2) q_int) qa_nil))))
  (qss_cons (qs_setN 4 nd (q_frzE (q_make (dds := []) (T.mk_Ground) G_Ground___init__ (hr.mono hi_Ground) tk rfl T.c_Ground.g T.f_Ground___init__.b .nil (fun _ => rfl) (qa_cons (q_ix hu (qv 2) q_int) (qa_cons (q_ix hu (qv 2) q_int) (qa_cons (q_ix hu (qv 2) q_int) qa_nil))))))
  (qss_cons (qs_for (ix := [5]) hp rfl (qi_range1 rfl T.n_range (qa_cons (q_callB (c_max2 rfl) rfl T.n_max (by decide +kernel) (qa_cons q_int (qa_cons (q_callB (c_min2 rfl) rfl T.n_min (by decide +kernel) (qa_cons q_int (qa_cons (q_op o_sub (q_callB c_len rfl T.n_len (by decide +kernel) (qa_cons (qv 0) qa_nil)) q_int) qa_nil))) qa_nil))) qa_nil)) (qg_nm 5 nd)
  (qss_cons (qs_setN 1 nd (q_call G__law_bag hr tk rfl T.f__law_bag.g T.f__law_bag.F.kp T.f__law_bag.b .nil (fun _ => rfl) (qa_cons (qv 0) (qa_cons (q_op (o_add false) q_int (qv 5)) qa_nil))))
  (qss_cons (qs_setN 6 nd (q_call G__law_deed hr tk rfl T.f__law_deed.g T.f__law_deed.F.kp T.f__law_deed.b .nil (fun _ => rfl) (qa_cons (qv 1) (qa_cons (qv 2) (qa_cons (qv 3) (qa_cons (q_lst false qa_nil) qa_nil))))))
  (qss_cons (qs_setN 7 nd (q_lst true (qa_cons (qv 6) (qa_cons (q_call G__law_bent hr tk rfl T.f__law_bent.g T.f__law_bent.F.kp T.f__law_bent.b .nil (fun _ => rfl) (qa_cons (qv 1) (qa_cons (qv 2) (qa_cons (qv 3) (qa_cons (qv 6) qa_nil))))) qa_nil))))
  (qss_cons (qs_if (QW.t (qw_and (qt_val (q_callB c_isi rfl T.n_isinstance (by decide +kernel) (qa_cons (q_ix hu (qv 7) q_int) (qa_cons (qe_c (pe_bltn (v := .ty "tuple") rfl T.n_tuple (by decide +kernel) rfl) fun _ => rfl) qa_nil)))) (qw_and1 (qt_cmp (o_ne hu64) (q_ix hu (qv 7) q_int) (q_tup qa_nil)))))
  (qss_one (qs_expr (q_bm PySem.F.plainAttrs_list PySem.F.slot_list_append PySem.F.type_list_append m_append (qv 7) (qa_cons (q_call G__law_bent hr tk rfl T.f__law_bent.g T.f__law_bent.F.kp T.f__law_bent.b .nil (fun _ => rfl) (qa_cons (qv 1) (qa_cons (qv 2) (qa_cons (qv 3) (qa_cons (q_ix hu (qv 7) q_int) qa_nil))))) qa_nil))))
  qss_nil)
  (qss_cons (qs_for (ix := [8]) hp rfl (qi_any (qv 7)) (qg_nm 8 nd)
  (qss_one (qs_for (ix := [9]) hp rfl (qi_range1 rfl T.n_range (qa_cons q_int qa_nil)) (qg_nm 9 nd)
  (qss_one (qs_if (qt_not (qt_val (q_call G__law_like hr tk rfl T.f__law_like.g T.f__law_like.F.kp T.f__law_like.b .nil (fun _ => rfl) (qa_cons (q_call G_fault hr tk rfl T.f_fault.g T.f_fault.F.kp T.f_fault.b .nil (fun _ => rfl) (qa_cons (qv 4) (qa_cons (qv 3) (qa_cons (qv 8) qa_nil)))) (qa_cons (q_call G__law_due hr tk rfl T.f__law_due.g T.f__law_due.F.kp T.f__law_due.b .nil (fun _ => rfl) (qa_cons (qv 2) (qa_cons (qv 3) (qa_cons (qv 8) qa_nil)))) qa_nil)))))
  (qss_one (qs_ret q_bl))
  qss_nil)))))
  (qss_one (qs_if (qt_cmp (o_ne hu64) (q_call G_fault hr tk rfl T.f_fault.g T.f_fault.F.kp T.f_fault.b .nil (fun _ => rfl) (qa_cons (qv 4) (qa_cons (qv 3) (qa_cons (qv 6) qa_nil)))) (q_neg q_int))
  (qss_one (qs_ret q_bl))
  qss_nil))))))))
  (qss_cons (qs_if (qt_not (qt_val (q_call G__law_each hr tk rfl T.f__law_each.g T.f__law_each.F.kp T.f__law_each.b .nil (fun _ => rfl) (qa_cons (qv 2) (qa_cons (qv 3) (qa_cons (qv 4) qa_nil))))))
  (qss_one (qs_ret q_bl))
  qss_nil)
  (qss_cons (qs_if (qt_not (qt_val (q_call G__law_each hr tk rfl T.f__law_each.g T.f__law_each.F.kp T.f__law_each.b .nil (fun _ => rfl) (qa_cons (q_tup (qa_cons (q_ix hu (qv 2) q_int) (qa_cons (q_tup qa_nil) (qa_cons (q_ix hu (qv 2) q_int) qa_nil)))) (qa_cons (qv 3) (qa_cons (q_frzE (q_make (dds := []) (T.mk_Ground) G_Ground___init__ (hr.mono hi_Ground) tk rfl T.c_Ground.g T.f_Ground___init__.b .nil (fun _ => rfl) (qa_cons (q_ix hu (qv 2) q_int) (qa_cons (q_tup qa_nil) (qa_cons (q_ix hu (qv 2) q_int) qa_nil))))) qa_nil))))))
  (qss_one (qs_ret q_bl))
  qss_nil)
  (qss_one (qs_ret (q_cmp (o_eq hu64) (q_call G_fault hr tk rfl T.f_fault.g T.f_fault.F.kp T.f_fault.b .nil (fun _ => rfl) (qa_cons (qv 4) (qa_cons (q_tup qa_nil) (qa_cons (q_tup (qa_cons q_str (qa_cons (q_ix hu (q_ix hu (qv 3) q_int) q_int) qa_nil))) qa_nil)))) q_int)))))))))), hs⟩
end
theorem all_mk {l : PySem.W.OpenLaw} {w : World} {K : PySem.W.Frag} {h : Heap} {mg : Str → Option Value} {fa f0 f1 f2 f3 f4 f5 f6 f7 f8 f9 f10 f11 f12 f13 f14 f15 f16 f17 f18 f19 f20 f21 f22 f23 f24 f25 f26 f27 f28 : Addr} (X : K.In h) (G : h.Ns mainGlobals mg) (hfa : mg "law" = some (.ref fa))
    {od0 an0 od1 an1 od2 an2 od3 an3 od4 an4 od5 an5 od6 an6 od7 an7 od8 an8 od9 an9 od10 an10 od11 an11 od12 an12 od13 an13 od14 an14 od15 an15 od16 an16 od17 an17 od18 an18 od19 an19 od20 an20 od21 an21 od22 an22 od23 an23 od24 an24 od25 an25 od26 an26 od27 an27 od28 an28 : Option Addr} {sl0 sl1 sl2 sl3 sl4 sl5 sl6 sl7 sl8 sl9 sl10 sl11 sl12 sl13 sl14 sl15 sl16 sl17 sl18 sl19 sl20 sl21 sl22 sl23 sl24 sl25 sl26 sl27 sl28 : Array (Option Value)} {oc0 kV0 dc0 pm0 cd0 ct0 oc1 kV1 dc1 pm1 cd1 ct1 oc2 kV2 dc2 pm2 cd2 ct2 oc3 kV3 dc3 pm3 cd3 ct3 oc4 kV4 dc4 pm4 cd4 ct4 oc5 kV5 dc5 pm5 cd5 ct5 oc6 kV6 dc6 pm6 cd6 ct6 oc7 kV7 dc7 pm7 cd7 ct7 oc8 kV8 dc8 pm8 cd8 ct8 oc9 kV9 dc9 pm9 cd9 ct9 oc10 kV10 dc10 pm10 cd10 ct10 oc11 kV11 dc11 pm11 cd11 ct11 oc12 kV12 dc12 pm12 cd12 ct12 oc13 kV13 dc13 pm13 cd13 ct13 oc14 kV14 dc14 pm14 cd14 ct14 oc15 kV15 dc15 pm15 cd15 ct15 oc16 kV16 dc16 pm16 cd16 ct16 oc17 kV17 dc17 pm17 cd17 ct17 oc18 kV18 dc18 pm18 cd18 ct18 oc19 kV19 dc19 pm19 cd19 ct19 oc20 kV20 dc20 pm20 cd20 ct20 oc21 kV21 dc21 pm21 cd21 ct21 oc22 kV22 dc22 pm22 cd22 ct22 oc23 kV23 dc23 pm23 cd23 ct23 oc24 kV24 dc24 pm24 cd24 ct24 oc25 kV25 dc25 pm25 cd25 ct25 oc26 kV26 dc26 pm26 cd26 ct26 oc27 kV27 dc27 pm27 cd27 ct27 oc28 kV28 dc28 pm28 cd28 ct28 : Value}
    {oC0 : Addr} (oa0 : PySem.W.nsIn K mainGlobals "Ground" = some (some (.ref oC0)))
    (opg0 : PySem.W.plainGet K oC0 Str.empty = true)
    (ohd0 : PySem.W.hasDictIn K oC0 = true)
    (opo0 : PySem.W.plainOver K oC0 = true)
    (osa0 : PySem.W.findIn K (.ref oC0) "__setattr__" = some (some (.builtin "object.__setattr__")))
    (on0_0 : PySem.W.findIn K (.ref oC0) "risks" = some none)
    (on1_0 : PySem.W.findIn K (.ref oC0) "places" = some none)
    (on2_0 : PySem.W.findIn K (.ref oC0) "roads" = some none)
    (on3_0 : PySem.W.findIn K (.ref oC0) "stations" = some none)
    (omk0 : PySem.W.makesIn K oC0 = true)
    (okc0 : PySem.W.keepIn K (.ref oC0) = true)
    (a0 : PySem.W.nsIn K mainGlobals "is_whole" = some (some (.ref f0)))
    (l0 : K.lookup f0 = some ⟨oc0, od0, .func (PySem.W.fnOf "is_whole" "is_whole" (defArgs s_is_whole) (defBody s_is_whole) (defScope s_is_whole) .none kV0 dc0 pm0 an0 cd0 ct0), sl0⟩) (c0 : PySem.W.codeIn K cd0 "is_whole" = true) (k0 : PySem.W.keepIn K (.ref f0) = true)
    (a1 : PySem.W.nsIn K mainGlobals "is_name" = some (some (.ref f1)))
    (l1 : K.lookup f1 = some ⟨oc1, od1, .func (PySem.W.fnOf "is_name" "is_name" (defArgs s_is_name) (defBody s_is_name) (defScope s_is_name) .none kV1 dc1 pm1 an1 cd1 ct1), sl1⟩) (c1 : PySem.W.codeIn K cd1 "is_name" = true) (k1 : PySem.W.keepIn K (.ref f1) = true)
    (a2 : PySem.W.nsIn K mainGlobals "is_one_of" = some (some (.ref f2)))
    (l2 : K.lookup f2 = some ⟨oc2, od2, .func (PySem.W.fnOf "is_one_of" "is_one_of" (defArgs s_is_one_of) (defBody s_is_one_of) (defScope s_is_one_of) .none kV2 dc2 pm2 an2 cd2 ct2), sl2⟩) (c2 : PySem.W.codeIn K cd2 "is_one_of" = true) (k2 : PySem.W.keepIn K (.ref f2) = true)
    (a3 : PySem.W.nsIn K mainGlobals "is_tuple_of" = some (some (.ref f3)))
    (l3 : K.lookup f3 = some ⟨oc3, od3, .func (PySem.W.fnOf "is_tuple_of" "is_tuple_of" (defArgs s_is_tuple_of) (defBody s_is_tuple_of) (defScope s_is_tuple_of) .none kV3 dc3 pm3 an3 cd3 ct3), sl3⟩) (c3 : PySem.W.codeIn K cd3 "is_tuple_of" = true) (k3 : PySem.W.keepIn K (.ref f3) = true)
    (a4 : PySem.W.nsIn K mainGlobals "is_kind" = some (some (.ref f4)))
    (l4 : K.lookup f4 = some ⟨oc4, od4, .func (PySem.W.fnOf "is_kind" "is_kind" (defArgs s_is_kind) (defBody s_is_kind) (defScope s_is_kind) .none kV4 dc4 pm4 an4 cd4 ct4), sl4⟩) (c4 : PySem.W.codeIn K cd4 "is_kind" = true) (k4 : PySem.W.keepIn K (.ref f4) = true)
    (a5 : PySem.W.nsIn K mainGlobals "is_place" = some (some (.ref f5)))
    (l5 : K.lookup f5 = some ⟨oc5, od5, .func (PySem.W.fnOf "is_place" "is_place" (defArgs s_is_place) (defBody s_is_place) (defScope s_is_place) .none kV5 dc5 pm5 an5 cd5 ct5), sl5⟩) (c5 : PySem.W.codeIn K cd5 "is_place" = true) (k5 : PySem.W.keepIn K (.ref f5) = true)
    (a6 : PySem.W.nsIn K mainGlobals "places_fault" = some (some (.ref f6)))
    (l6 : K.lookup f6 = some ⟨oc6, od6, .func (PySem.W.fnOf "places_fault" "places_fault" (defArgs s_places_fault) (defBody s_places_fault) (defScope s_places_fault) .none kV6 dc6 pm6 an6 cd6 ct6), sl6⟩) (c6 : PySem.W.codeIn K cd6 "places_fault" = true) (k6 : PySem.W.keepIn K (.ref f6) = true)
    (a7 : PySem.W.nsIn K mainGlobals "is_road" = some (some (.ref f7)))
    (l7 : K.lookup f7 = some ⟨oc7, od7, .func (PySem.W.fnOf "is_road" "is_road" (defArgs s_is_road) (defBody s_is_road) (defScope s_is_road) .none kV7 dc7 pm7 an7 cd7 ct7), sl7⟩) (c7 : PySem.W.codeIn K cd7 "is_road" = true) (k7 : PySem.W.keepIn K (.ref f7) = true)
    (a8 : PySem.W.nsIn K mainGlobals "roads_fault" = some (some (.ref f8)))
    (l8 : K.lookup f8 = some ⟨oc8, od8, .func (PySem.W.fnOf "roads_fault" "roads_fault" (defArgs s_roads_fault) (defBody s_roads_fault) (defScope s_roads_fault) .none kV8 dc8 pm8 an8 cd8 ct8), sl8⟩) (c8 : PySem.W.codeIn K cd8 "roads_fault" = true) (k8 : PySem.W.keepIn K (.ref f8) = true)
    (a9 : PySem.W.nsIn K mainGlobals "stations_fault" = some (some (.ref f9)))
    (l9 : K.lookup f9 = some ⟨oc9, od9, .func (PySem.W.fnOf "stations_fault" "stations_fault" (defArgs s_stations_fault) (defBody s_stations_fault) (defScope s_stations_fault) .none kV9 dc9 pm9 an9 cd9 ct9), sl9⟩) (c9 : PySem.W.codeIn K cd9 "stations_fault" = true) (k9 : PySem.W.keepIn K (.ref f9) = true)
    (a10 : PySem.W.nsIn K mainGlobals "need" = some (some (.ref f10)))
    (l10 : K.lookup f10 = some ⟨oc10, od10, .func (PySem.W.fnOf "need" "need" (defArgs s_need) (defBody s_need) (defScope s_need) .none kV10 dc10 pm10 an10 cd10 ct10), sl10⟩) (c10 : PySem.W.codeIn K cd10 "need" = true) (k10 : PySem.W.keepIn K (.ref f10) = true)
    (a11 : PySem.W.findIn K (.ref oC0) "__init__" = some (some (.ref f11))) (b11 : PySem.W.isFn K (.ref f11) = true)
    (l11 : K.lookup f11 = some ⟨oc11, od11, .func (PySem.W.fnOf "__init__" "Ground.__init__" (defArgs s_Ground___init__) (defBody s_Ground___init__) (defScope s_Ground___init__) .none kV11 dc11 pm11 an11 cd11 ct11), sl11⟩) (c11 : PySem.W.codeIn K cd11 "Ground.__init__" = true) (k11 : PySem.W.keepIn K (.ref f11) = true)
    (a12 : PySem.W.nsIn K mainGlobals "is_sort" = some (some (.ref f12)))
    (l12 : K.lookup f12 = some ⟨oc12, od12, .func (PySem.W.fnOf "is_sort" "is_sort" (defArgs s_is_sort) (defBody s_is_sort) (defScope s_is_sort) .none kV12 dc12 pm12 an12 cd12 ct12), sl12⟩) (c12 : PySem.W.codeIn K cd12 "is_sort" = true) (k12 : PySem.W.keepIn K (.ref f12) = true)
    (a13 : PySem.W.nsIn K mainGlobals "fault" = some (some (.ref f13)))
    (l13 : K.lookup f13 = some ⟨oc13, od13, .func (PySem.W.fnOf "fault" "fault" (defArgs s_fault) (defBody s_fault) (defScope s_fault) .none kV13 dc13 pm13 an13 cd13 ct13), sl13⟩) (c13 : PySem.W.codeIn K cd13 "fault" = true) (k13 : PySem.W.keepIn K (.ref f13) = true)
    (a14 : PySem.W.nsIn K mainGlobals "_law_bag" = some (some (.ref f14)))
    (l14 : K.lookup f14 = some ⟨oc14, od14, .func (PySem.W.fnOf "_law_bag" "_law_bag" (defArgs s__law_bag) (defBody s__law_bag) (defScope s__law_bag) .none kV14 dc14 pm14 an14 cd14 ct14), sl14⟩) (c14 : PySem.W.codeIn K cd14 "_law_bag" = true) (k14 : PySem.W.keepIn K (.ref f14) = true)
    (a15 : PySem.W.nsIn K mainGlobals "_law_take" = some (some (.ref f15)))
    (l15 : K.lookup f15 = some ⟨oc15, od15, .func (PySem.W.fnOf "_law_take" "_law_take" (defArgs s__law_take) (defBody s__law_take) (defScope s__law_take) .none kV15 dc15 pm15 an15 cd15 ct15), sl15⟩) (c15 : PySem.W.codeIn K cd15 "_law_take" = true) (k15 : PySem.W.keepIn K (.ref f15) = true)
    (a16 : PySem.W.nsIn K mainGlobals "_law_whole" = some (some (.ref f16)))
    (l16 : K.lookup f16 = some ⟨oc16, od16, .func (PySem.W.fnOf "_law_whole" "_law_whole" (defArgs s__law_whole) (defBody s__law_whole) (defScope s__law_whole) .none kV16 dc16 pm16 an16 cd16 ct16), sl16⟩) (c16 : PySem.W.codeIn K cd16 "_law_whole" = true) (k16 : PySem.W.keepIn K (.ref f16) = true)
    (a17 : PySem.W.nsIn K mainGlobals "_law_names" = some (some (.ref f17)))
    (l17 : K.lookup f17 = some ⟨oc17, od17, .func (PySem.W.fnOf "_law_names" "_law_names" (defArgs s__law_names) (defBody s__law_names) (defScope s__law_names) .none kV17 dc17 pm17 an17 cd17 ct17), sl17⟩) (c17 : PySem.W.codeIn K cd17 "_law_names" = true) (k17 : PySem.W.keepIn K (.ref f17) = true)
    (a18 : PySem.W.nsIn K mainGlobals "_law_ground" = some (some (.ref f18)))
    (l18 : K.lookup f18 = some ⟨oc18, od18, .func (PySem.W.fnOf "_law_ground" "_law_ground" (defArgs s__law_ground) (defBody s__law_ground) (defScope s__law_ground) .none kV18 dc18 pm18 an18 cd18 ct18), sl18⟩) (c18 : PySem.W.codeIn K cd18 "_law_ground" = true) (k18 : PySem.W.keepIn K (.ref f18) = true)
    (a19 : PySem.W.nsIn K mainGlobals "_law_engines" = some (some (.ref f19)))
    (l19 : K.lookup f19 = some ⟨oc19, od19, .func (PySem.W.fnOf "_law_engines" "_law_engines" (defArgs s__law_engines) (defBody s__law_engines) (defScope s__law_engines) .none kV19 dc19 pm19 an19 cd19 ct19), sl19⟩) (c19 : PySem.W.codeIn K cd19 "_law_engines" = true) (k19 : PySem.W.keepIn K (.ref f19) = true)
    (a20 : PySem.W.nsIn K mainGlobals "_law_deed" = some (some (.ref f20)))
    (l20 : K.lookup f20 = some ⟨oc20, od20, .func (PySem.W.fnOf "_law_deed" "_law_deed" (defArgs s__law_deed) (defBody s__law_deed) (defScope s__law_deed) .none kV20 dc20 pm20 an20 cd20 ct20), sl20⟩) (c20 : PySem.W.codeIn K cd20 "_law_deed" = true) (k20 : PySem.W.keepIn K (.ref f20) = true)
    (a21 : PySem.W.nsIn K mainGlobals "_law_kind" = some (some (.ref f21)))
    (l21 : K.lookup f21 = some ⟨oc21, od21, .func (PySem.W.fnOf "_law_kind" "_law_kind" (defArgs s__law_kind) (defBody s__law_kind) (defScope s__law_kind) .none kV21 dc21 pm21 an21 cd21 ct21), sl21⟩) (c21 : PySem.W.codeIn K cd21 "_law_kind" = true) (k21 : PySem.W.keepIn K (.ref f21) = true)
    (a22 : PySem.W.nsIn K mainGlobals "_law_like" = some (some (.ref f22)))
    (l22 : K.lookup f22 = some ⟨oc22, od22, .func (PySem.W.fnOf "_law_like" "_law_like" (defArgs s__law_like) (defBody s__law_like) (defScope s__law_like) .none kV22 dc22 pm22 an22 cd22 ct22), sl22⟩) (c22 : PySem.W.codeIn K cd22 "_law_like" = true) (k22 : PySem.W.keepIn K (.ref f22) = true)
    (a23 : PySem.W.nsIn K mainGlobals "_law_is_sort" = some (some (.ref f23)))
    (l23 : K.lookup f23 = some ⟨oc23, od23, .func (PySem.W.fnOf "_law_is_sort" "_law_is_sort" (defArgs s__law_is_sort) (defBody s__law_is_sort) (defScope s__law_is_sort) .none kV23 dc23 pm23 an23 cd23 ct23), sl23⟩) (c23 : PySem.W.codeIn K cd23 "_law_is_sort" = true) (k23 : PySem.W.keepIn K (.ref f23) = true)
    (a24 : PySem.W.nsIn K mainGlobals "_law_due" = some (some (.ref f24)))
    (l24 : K.lookup f24 = some ⟨oc24, od24, .func (PySem.W.fnOf "_law_due" "_law_due" (defArgs s__law_due) (defBody s__law_due) (defScope s__law_due) .none kV24 dc24 pm24 an24 cd24 ct24), sl24⟩) (c24 : PySem.W.codeIn K cd24 "_law_due" = true) (k24 : PySem.W.keepIn K (.ref f24) = true)
    (a25 : PySem.W.nsIn K mainGlobals "_law_any" = some (some (.ref f25)))
    (l25 : K.lookup f25 = some ⟨oc25, od25, .func (PySem.W.fnOf "_law_any" "_law_any" (defArgs s__law_any) (defBody s__law_any) (defScope s__law_any) .none kV25 dc25 pm25 an25 cd25 ct25), sl25⟩) (c25 : PySem.W.codeIn K cd25 "_law_any" = true) (k25 : PySem.W.keepIn K (.ref f25) = true)
    (a26 : PySem.W.nsIn K mainGlobals "_law_bent" = some (some (.ref f26)))
    (l26 : K.lookup f26 = some ⟨oc26, od26, .func (PySem.W.fnOf "_law_bent" "_law_bent" (defArgs s__law_bent) (defBody s__law_bent) (defScope s__law_bent) .none kV26 dc26 pm26 an26 cd26 ct26), sl26⟩) (c26 : PySem.W.codeIn K cd26 "_law_bent" = true) (k26 : PySem.W.keepIn K (.ref f26) = true)
    (a27 : PySem.W.nsIn K mainGlobals "_law_each" = some (some (.ref f27)))
    (l27 : K.lookup f27 = some ⟨oc27, od27, .func (PySem.W.fnOf "_law_each" "_law_each" (defArgs s__law_each) (defBody s__law_each) (defScope s__law_each) .none kV27 dc27 pm27 an27 cd27 ct27), sl27⟩) (c27 : PySem.W.codeIn K cd27 "_law_each" = true) (k27 : PySem.W.keepIn K (.ref f27) = true)
    (a28 : PySem.W.nsIn K mainGlobals "law" = some (some (.ref f28)))
    (l28 : K.lookup f28 = some ⟨oc28, od28, .func (PySem.W.fnOf "law" "law" (defArgs s_law) (defBody s_law) (defScope s_law) .none kV28 dc28 pm28 an28 cd28 ct28), sl28⟩) (c28 : PySem.W.codeIn K cd28 "law" = true) (k28 : PySem.W.keepIn K (.ref f28) = true)
    (z0 : PySem.W.nsIn K mainGlobals "ValueError" = some none)
    (z1 : PySem.W.nsIn K mainGlobals "abs" = some none)
    (z2 : PySem.W.nsIn K mainGlobals "all" = some none)
    (z3 : PySem.W.nsIn K mainGlobals "bool" = some none)
    (z4 : PySem.W.nsIn K mainGlobals "dict" = some none)
    (z5 : PySem.W.nsIn K mainGlobals "enumerate" = some none)
    (z6 : PySem.W.nsIn K mainGlobals "int" = some none)
    (z7 : PySem.W.nsIn K mainGlobals "isinstance" = some none)
    (z8 : PySem.W.nsIn K mainGlobals "len" = some none)
    (z9 : PySem.W.nsIn K mainGlobals "list" = some none)
    (z10 : PySem.W.nsIn K mainGlobals "max" = some none)
    (z11 : PySem.W.nsIn K mainGlobals "min" = some none)
    (z12 : PySem.W.nsIn K mainGlobals "range" = some none)
    (z13 : PySem.W.nsIn K mainGlobals "sorted" = some none)
    (z14 : PySem.W.nsIn K mainGlobals "str" = some none)
    (z15 : PySem.W.nsIn K mainGlobals "tuple" = some none)
    (z16 : PySem.W.nsIn K mainGlobals "zip" = some none)
    {gt0 : Tok} (lit0 : PySem.W.nsIn K mainGlobals "LETTERS" = some (some (.str (PySem.Str.ofString "abcdefghijklmnopqrstuvwxyz") gt0)))
    {gt1 : Tok} (lit1 : PySem.W.nsIn K mainGlobals "MOST_CALLS" = some (some (.int (200) gt1)))
    {gt2 : Tok} (lit2 : PySem.W.nsIn K mainGlobals "MOST_LETTERS" = some (some (.int (8) gt2)))
    {gt3 : Tok} (lit3 : PySem.W.nsIn K mainGlobals "MOST_MINUTES" = some (some (.int (60) gt3)))
    {gt4 : Tok} (lit4 : PySem.W.nsIn K mainGlobals "MOST_PLACES" = some (some (.int (40) gt4)))
    {gt5 : Tok} (lit5 : PySem.W.nsIn K mainGlobals "MOST_PUMPS" = some (some (.int (20) gt5)))
    {gt6 : Tok} (lit6 : PySem.W.nsIn K mainGlobals "MOST_RISK" = some (some (.int (4) gt6)))
    {gt7 : Tok} (lit7 : PySem.W.nsIn K mainGlobals "MOST_ROADS" = some (some (.int (80) gt7)))
    {gt8 : Tok} (lit8 : PySem.W.nsIn K mainGlobals "MOST_STATIONS" = some (some (.int (12) gt8)))
    {kd0 : Addr} (ka0 : PySem.W.nsIn K mainGlobals "DUE" = some (some (.ref kd0))) (kb0 : He.dicW K kd0 = some (He.keysIn w.params K_DUE))
    {kd1 : Addr} (ka1 : PySem.W.nsIn K mainGlobals "FORMS" = some (some (.ref kd1))) (kb1 : He.dicW K kd1 = some (He.keysIn w.params K_FORMS))
    {kt1_0 : Addr} {ko1_0 : Option Addr} {kn1_0 : Nat} {ks1_0 : Array (Option Value)} {kk1_0_0 kk1_0_1 : Tok} (kv1_0 : PySem.W.nsIn K kd1 "call" = some (some (.ref kt1_0))) (kl1_0 : K.lookup kt1_0 = some ⟨.type "tuple", ko1_0, .seq ([.str (PySem.Str.ofString "place") kk1_0_0, .str (PySem.Str.ofString "kind") kk1_0_1] : List Value).toArray kn1_0, ks1_0⟩)
    {kt1_1 : Addr} {ko1_1 : Option Addr} {kn1_1 : Nat} {ks1_1 : Array (Option Value)} {kk1_1_0 : Tok} (kv1_1 : PySem.W.nsIn K kd1 "again" = some (some (.ref kt1_1))) (kl1_1 : K.lookup kt1_1 = some ⟨.type "tuple", ko1_1, .seq ([.str (PySem.Str.ofString "call") kk1_1_0] : List Value).toArray kn1_1, ks1_1⟩)
    {kt1_2 : Addr} {ko1_2 : Option Addr} {kn1_2 : Nat} {ks1_2 : Array (Option Value)} {kk1_2_0 kk1_2_1 : Tok} (kv1_2 : PySem.W.nsIn K kd1 "make" = some (some (.ref kt1_2))) (kl1_2 : K.lookup kt1_2 = some ⟨.type "tuple", ko1_2, .seq ([.str (PySem.Str.ofString "call") kk1_2_0, .str (PySem.Str.ofString "pumps") kk1_2_1] : List Value).toArray kn1_2, ks1_2⟩)
    {kt1_3 : Addr} {ko1_3 : Option Addr} {kn1_3 : Nat} {ks1_3 : Array (Option Value)} {kk1_3_0 : Tok} (kv1_3 : PySem.W.nsIn K kd1 "stop" = some (some (.ref kt1_3))) (kl1_3 : K.lookup kt1_3 = some ⟨.type "tuple", ko1_3, .seq ([.str (PySem.Str.ofString "call") kk1_3_0] : List Value).toArray kn1_3, ks1_3⟩)
    {kt1_4 : Addr} {ko1_4 : Option Addr} {kn1_4 : Nat} {ks1_4 : Array (Option Value)} {kk1_4_0 kk1_4_1 : Tok} (kv1_4 : PySem.W.nsIn K kd1 "send" = some (some (.ref kt1_4))) (kl1_4 : K.lookup kt1_4 = some ⟨.type "tuple", ko1_4, .seq ([.str (PySem.Str.ofString "engine") kk1_4_0, .str (PySem.Str.ofString "call") kk1_4_1] : List Value).toArray kn1_4, ks1_4⟩)
    {kt1_5 : Addr} {ko1_5 : Option Addr} {kn1_5 : Nat} {ks1_5 : Array (Option Value)} {kk1_5_0 : Tok} (kv1_5 : PySem.W.nsIn K kd1 "there" = some (some (.ref kt1_5))) (kl1_5 : K.lookup kt1_5 = some ⟨.type "tuple", ko1_5, .seq ([.str (PySem.Str.ofString "engine") kk1_5_0] : List Value).toArray kn1_5, ks1_5⟩)
    {kt1_6 : Addr} {ko1_6 : Option Addr} {kn1_6 : Nat} {ks1_6 : Array (Option Value)} {kk1_6_0 : Tok} (kv1_6 : PySem.W.nsIn K kd1 "back" = some (some (.ref kt1_6))) (kl1_6 : K.lookup kt1_6 = some ⟨.type "tuple", ko1_6, .seq ([.str (PySem.Str.ofString "engine") kk1_6_0] : List Value).toArray kn1_6, ks1_6⟩)
    {kt1_7 : Addr} {ko1_7 : Option Addr} {kn1_7 : Nat} {ks1_7 : Array (Option Value)} {kk1_7_0 : Tok} (kv1_7 : PySem.W.nsIn K kd1 "home" = some (some (.ref kt1_7))) (kl1_7 : K.lookup kt1_7 = some ⟨.type "tuple", ko1_7, .seq ([.str (PySem.Str.ofString "engine") kk1_7_0] : List Value).toArray kn1_7, ks1_7⟩)
    {kt1_8 : Addr} {ko1_8 : Option Addr} {kn1_8 : Nat} {ks1_8 : Array (Option Value)} {kk1_8_0 : Tok} (kv1_8 : PySem.W.nsIn K kd1 "off" = some (some (.ref kt1_8))) (kl1_8 : K.lookup kt1_8 = some ⟨.type "tuple", ko1_8, .seq ([.str (PySem.Str.ofString "engine") kk1_8_0] : List Value).toArray kn1_8, ks1_8⟩)
    {kt1_9 : Addr} {ko1_9 : Option Addr} {kn1_9 : Nat} {ks1_9 : Array (Option Value)} {kk1_9_0 : Tok} (kv1_9 : PySem.W.nsIn K kd1 "on" = some (some (.ref kt1_9))) (kl1_9 : K.lookup kt1_9 = some ⟨.type "tuple", ko1_9, .seq ([.str (PySem.Str.ofString "engine") kk1_9_0] : List Value).toArray kn1_9, ks1_9⟩)
    {kt1_10 : Addr} {ko1_10 : Option Addr} {kn1_10 : Nat} {ks1_10 : Array (Option Value)} {kk1_10_0 kk1_10_1 : Tok} (kv1_10 : PySem.W.nsIn K kd1 "stand" = some (some (.ref kt1_10))) (kl1_10 : K.lookup kt1_10 = some ⟨.type "tuple", ko1_10, .seq ([.str (PySem.Str.ofString "engine") kk1_10_0, .str (PySem.Str.ofString "station") kk1_10_1] : List Value).toArray kn1_10, ks1_10⟩)
    {kt1_11 : Addr} {ko1_11 : Option Addr} {kn1_11 : Nat} {ks1_11 : Array (Option Value)} {kk1_11_0 kk1_11_1 : Tok} (kv1_11 : PySem.W.nsIn K kd1 "lend" = some (some (.ref kt1_11))) (kl1_11 : K.lookup kt1_11 = some ⟨.type "tuple", ko1_11, .seq ([.str (PySem.Str.ofString "engine") kk1_11_0, .str (PySem.Str.ofString "station") kk1_11_1] : List Value).toArray kn1_11, ks1_11⟩)
    {kt1_12 : Addr} {ko1_12 : Option Addr} {kn1_12 : Nat} {ks1_12 : Array (Option Value)} {kk1_12_0 : Tok} (kv1_12 : PySem.W.nsIn K kd1 "shut" = some (some (.ref kt1_12))) (kl1_12 : K.lookup kt1_12 = some ⟨.type "tuple", ko1_12, .seq ([.str (PySem.Str.ofString "road") kk1_12_0] : List Value).toArray kn1_12, ks1_12⟩)
    {kt1_13 : Addr} {ko1_13 : Option Addr} {kn1_13 : Nat} {ks1_13 : Array (Option Value)} {kk1_13_0 : Tok} (kv1_13 : PySem.W.nsIn K kd1 "clear" = some (some (.ref kt1_13))) (kl1_13 : K.lookup kt1_13 = some ⟨.type "tuple", ko1_13, .seq ([.str (PySem.Str.ofString "road") kk1_13_0] : List Value).toArray kn1_13, ks1_13⟩)
    {kt1_14 : Addr} {ko1_14 : Option Addr} {kn1_14 : Nat} {ks1_14 : Array (Option Value)} (kv1_14 : PySem.W.nsIn K kd1 "nothing" = some (some (.ref kt1_14))) (kl1_14 : K.lookup kt1_14 = some ⟨.type "tuple", ko1_14, .seq ([] : List Value).toArray kn1_14, ks1_14⟩)
    {xC0 : Addr} (xa0 : PySem.W.nsIn K mainGlobals "NoGround" = some (some (.ref xC0)))
    {xnm0 xq0 : Str} {xN0 : Addr} {xbs0 : List Value} {xsn0 : List Str} {xsub0 : List Value} {xab0 : Bool} {xco0 : Option Bool} {xdd0 : Option Addr} {xm00 xm10 xm20 xm30 xm50 : Option Value} {xf0 : Addr} {xan0 xod0 : Option Addr} {xsl0 : Array (Option Value)} {xoc0 xkV0 xdc0 xpm0 xcd0 xct0 : Value}
    (xL0 : K.lookup xC0 = some (excClassObj xnm0 xq0 xC0 xN0 xbs0 tl_ValueError true xsn0 xsub0 xab0 xco0 xdd0 xm00 xm10 xm20 xm30 xm50 "ValueError.__new__"))
    (xsa0 : PySem.W.findIn K (.ref xC0) "__setattr__" = some (some (.builtin "object.__setattr__")))
    (xi0 : PySem.W.findIn K (.ref xC0) "__init__" = some (some (.ref xf0)))
    (xt0 : PySem.W.typeIn K (.ref xf0) = some (.type "function"))
    (xl0 : K.lookup xf0 = some ⟨xoc0, xod0, .func (PySem.W.fnOf "__init__" "NoGround.__init__" (defArgs s_NoGround_init) (defBody s_NoGround_init) (defScope s_NoGround_init) .none xkV0 xdc0 xpm0 xan0 xcd0 xct0), xsl0⟩)
    (xc0 : PySem.W.codeIn K xcd0 "NoGround.__init__" = true)
    (xkf0 : PySem.W.keepIn K (.ref xf0) = true)
    (xn0_0 : PySem.W.findIn K (.ref xC0) "part" = some none)
    (xn1_0 : PySem.W.findIn K (.ref xC0) "at" = some none)
    (xv0 : PySem.W.findCls K (.type "ValueError") (.type "type") "__init__" = some (.val (.builtin "ValueError.__init__")))
    (xk0 : PySem.W.keepIn K (.ref xC0) = true)
    (xex0 : PySem.W.subIn K (.ref xC0) (.type "BaseException") = some true)
    (xty0 : PySem.W.typeIn K (.ref xC0) = some (.type "type"))
    (xhd0 : PySem.W.hasDictIn K xC0 = true)
    (xss0 : PySem.W.subIn K (.ref xC0) (.ref xC0) = some true)
    (xga0 : PySem.W.findIn K (.ref xC0) "__getattribute__" = some (some (.builtin "BaseException.__getattribute__")))
    (xgg0 : PySem.W.findIn K (.ref xC0) "__getattr__" = some none)
    (xcl0 : PySem.W.findIn K (.ref xC0) "__class__" = some (some (.builtin "object.__class__")))
    (xge0 : PySem.W.specialIn K (.builtin "object.__class__") "__get__" = some (some (.builtin "getset_descriptor.__get__")))
    (xtk0 : PySem.W.takesIn K (.builtin "object.__class__") = some true)
    (xmo0 : PySem.W.mroIn K xC0 (.type "object") = some true)
    {k : Nat} (ok : ∀ (T : Tx w K mg) (base : Heap), FnOk l.prog w K mg base (L2.CX l.prog w) k T.f_law.f T.f_law.fd ["_law_script"] (toSp K spLaw)) :
    ∃ fd : FuncData, (∀ (s : Shared) (v : Value), BindsTo s fd ⟨[v], []⟩ [("_law_script", v)]) ∧ ∀ base : Heap, K.In base → base.Ns mainGlobals mg → FnOk l.prog w K mg base (L2.CX l.prog w) k fa fd ["_law_script"] (toSp K spLaw) := by
  have e : fa = f28 := by
    have e := hfa.symm.trans (PySem.W.mg_of X G a28)
    cases e; rfl
  rw [e]
  refine ⟨_, fun s v => ?_, fun base _ _ => ok {
    c_Ground := ⟨oC0, PySem.W.mg_of X G oa0, ⟨opg0, ohd0, opo0, osa0⟩, List.forall_mem_cons.mpr ⟨on0_0, List.forall_mem_cons.mpr ⟨on1_0, List.forall_mem_cons.mpr ⟨on2_0, List.forall_mem_cons.mpr ⟨on3_0, List.forall_mem_nil _⟩⟩⟩⟩⟩,
    f_is_whole := ⟨f0, _, PySem.W.mg_of X G a0, fun_mk (st := s_is_whole) l0 c0 k0, (fun_mk (st := s_is_whole) l0 c0 k0).binds (ps := ["thing", "low", "high"]) fun _ _ _ _ _ _ us hl => match us, hl with | [_, _, _], _ => rfl⟩,
    f_is_name := ⟨f1, _, PySem.W.mg_of X G a1, fun_mk (st := s_is_name) l1 c1 k1, (fun_mk (st := s_is_name) l1 c1 k1).binds (ps := ["thing"]) fun _ _ _ _ _ _ us hl => match us, hl with | [_], _ => rfl⟩,
    f_is_one_of := ⟨f2, _, PySem.W.mg_of X G a2, fun_mk (st := s_is_one_of) l2 c2 k2, (fun_mk (st := s_is_one_of) l2 c2 k2).binds (ps := ["thing", "texts"]) fun _ _ _ _ _ _ us hl => match us, hl with | [_, _], _ => rfl⟩,
    f_is_tuple_of := ⟨f3, _, PySem.W.mg_of X G a3, fun_mk (st := s_is_tuple_of) l3 c3 k3, (fun_mk (st := s_is_tuple_of) l3 c3 k3).binds (ps := ["thing", "many"]) fun _ _ _ _ _ _ us hl => match us, hl with | [_, _], _ => rfl⟩,
    f_is_kind := ⟨f4, _, PySem.W.mg_of X G a4, fun_mk (st := s_is_kind) l4 c4 k4, (fun_mk (st := s_is_kind) l4 c4 k4).binds (ps := ["thing"]) fun _ _ _ _ _ _ us hl => match us, hl with | [_], _ => rfl⟩,
    f_is_place := ⟨f5, _, PySem.W.mg_of X G a5, fun_mk (st := s_is_place) l5 c5 k5, (fun_mk (st := s_is_place) l5 c5 k5).binds (ps := ["thing"]) fun _ _ _ _ _ _ us hl => match us, hl with | [_], _ => rfl⟩,
    f_places_fault := ⟨f6, _, PySem.W.mg_of X G a6, fun_mk (st := s_places_fault) l6 c6 k6, (fun_mk (st := s_places_fault) l6 c6 k6).binds (ps := ["thing"]) fun _ _ _ _ _ _ us hl => match us, hl with | [_], _ => rfl⟩,
    f_is_road := ⟨f7, _, PySem.W.mg_of X G a7, fun_mk (st := s_is_road) l7 c7 k7, (fun_mk (st := s_is_road) l7 c7 k7).binds (ps := ["names", "thing"]) fun _ _ _ _ _ _ us hl => match us, hl with | [_, _], _ => rfl⟩,
    f_roads_fault := ⟨f8, _, PySem.W.mg_of X G a8, fun_mk (st := s_roads_fault) l8 c8 k8, (fun_mk (st := s_roads_fault) l8 c8 k8).binds (ps := ["names", "thing"]) fun _ _ _ _ _ _ us hl => match us, hl with | [_, _], _ => rfl⟩,
    f_stations_fault := ⟨f9, _, PySem.W.mg_of X G a9, fun_mk (st := s_stations_fault) l9 c9 k9, (fun_mk (st := s_stations_fault) l9 c9 k9).binds (ps := ["names", "thing"]) fun _ _ _ _ _ _ us hl => match us, hl with | [_, _], _ => rfl⟩,
    f_need := ⟨f10, _, PySem.W.mg_of X G a10, fun_mk (st := s_need) l10 c10 k10, (fun_mk (st := s_need) l10 c10 k10).binds (ps := ["part", "at"]) fun _ _ _ _ _ _ us hl => match us, hl with | [_, _], _ => rfl⟩,
    mk_Ground := ⟨omk0, a11, b11, okc0⟩,
    f_Ground___init__ := ⟨f11, _, ⟨a11, b11, k11⟩, fun_mk (st := s_Ground___init__) l11 c11 k11, (fun_mk (st := s_Ground___init__) l11 c11 k11).binds (ps := ["self", "places", "roads", "stations"]) fun _ _ _ _ _ _ us hl => match us, hl with | [_, _, _, _], _ => rfl⟩,
    f_is_sort := ⟨f12, _, PySem.W.mg_of X G a12, fun_mk (st := s_is_sort) l12 c12 k12, (fun_mk (st := s_is_sort) l12 c12 k12).binds (ps := ["ground", "engines", "sort", "thing"]) fun _ _ _ _ _ _ us hl => match us, hl with | [_, _, _, _], _ => rfl⟩,
    f_fault := ⟨f13, _, PySem.W.mg_of X G a13, fun_mk (st := s_fault) l13 c13 k13, (fun_mk (st := s_fault) l13 c13 k13).binds (ps := ["ground", "engines", "thing"]) fun _ _ _ _ _ _ us hl => match us, hl with | [_, _, _], _ => rfl⟩,
    f__law_bag := ⟨f14, _, PySem.W.mg_of X G a14, fun_mk (st := s__law_bag) l14 c14 k14, (fun_mk (st := s__law_bag) l14 c14 k14).binds (ps := ["_law_script", "_law_at"]) fun _ _ _ _ _ _ us hl => match us, hl with | [_, _], _ => rfl⟩,
    f__law_take := ⟨f15, _, PySem.W.mg_of X G a15, fun_mk (st := s__law_take) l15 c15 k15, (fun_mk (st := s__law_take) l15 c15 k15).binds (ps := ["_law_bag_here", "_law_many"]) fun _ _ _ _ _ _ us hl => match us, hl with | [_, _], _ => rfl⟩,
    f__law_whole := ⟨f16, _, PySem.W.mg_of X G a16, fun_mk (st := s__law_whole) l16 c16 k16, (fun_mk (st := s__law_whole) l16 c16 k16).binds (ps := ["_law_thing", "_law_low", "_law_high"]) fun _ _ _ _ _ _ us hl => match us, hl with | [_, _, _], _ => rfl⟩,
    f__law_names := ⟨f17, _, PySem.W.mg_of X G a17, fun_mk (st := s__law_names) l17 c17 k17, (fun_mk (st := s__law_names) l17 c17 k17).binds (ps := ["_law_bag_here", "_law_many"]) fun _ _ _ _ _ _ us hl => match us, hl with | [_, _], _ => rfl⟩,
    f__law_ground := ⟨f18, _, PySem.W.mg_of X G a18, fun_mk (st := s__law_ground) l18 c18 k18, (fun_mk (st := s__law_ground) l18 c18 k18).binds (ps := ["_law_bag_here"]) fun _ _ _ _ _ _ us hl => match us, hl with | [_], _ => rfl⟩,
    f__law_engines := ⟨f19, _, PySem.W.mg_of X G a19, fun_mk (st := s__law_engines) l19 c19 k19, (fun_mk (st := s__law_engines) l19 c19 k19).binds (ps := ["_law_bag_here", "_law_stations"]) fun _ _ _ _ _ _ us hl => match us, hl with | [_, _], _ => rfl⟩,
    f__law_deed := ⟨f20, _, PySem.W.mg_of X G a20, fun_mk (st := s__law_deed) l20 c20 k20, (fun_mk (st := s__law_deed) l20 c20 k20).binds (ps := ["_law_bag_here", "_law_told", "_law_engines_here", "_law_calls"]) fun _ _ _ _ _ _ us hl => match us, hl with | [_, _, _, _], _ => rfl⟩,
    f__law_kind := ⟨f21, _, PySem.W.mg_of X G a21, fun_mk (st := s__law_kind) l21 c21 k21, (fun_mk (st := s__law_kind) l21 c21 k21).binds (ps := ["_law_bag_here"]) fun _ _ _ _ _ _ us hl => match us, hl with | [_], _ => rfl⟩,
    f__law_like := ⟨f22, _, PySem.W.mg_of X G a22, fun_mk (st := s__law_like) l22 c22 k22, (fun_mk (st := s__law_like) l22 c22 k22).binds (ps := ["_law_told", "_law_due_here"]) fun _ _ _ _ _ _ us hl => match us, hl with | [_, _], _ => rfl⟩,
    f__law_is_sort := ⟨f23, _, PySem.W.mg_of X G a23, fun_mk (st := s__law_is_sort) l23 c23 k23, (fun_mk (st := s__law_is_sort) l23 c23 k23).binds (ps := ["_law_told", "_law_engines_here", "_law_sort", "_law_thing"]) fun _ _ _ _ _ _ us hl => match us, hl with | [_, _, _, _], _ => rfl⟩,
    f__law_due := ⟨f24, _, PySem.W.mg_of X G a24, fun_mk (st := s__law_due) l24 c24 k24, (fun_mk (st := s__law_due) l24 c24 k24).binds (ps := ["_law_told", "_law_engines_here", "_law_thing"]) fun _ _ _ _ _ _ us hl => match us, hl with | [_, _, _], _ => rfl⟩,
    f__law_any := ⟨f25, _, PySem.W.mg_of X G a25, fun_mk (st := s__law_any) l25 c25 k25, (fun_mk (st := s__law_any) l25 c25 k25).binds (ps := ["_law_bag_here", "_law_told", "_law_engines_here"]) fun _ _ _ _ _ _ us hl => match us, hl with | [_, _, _], _ => rfl⟩,
    f__law_bent := ⟨f26, _, PySem.W.mg_of X G a26, fun_mk (st := s__law_bent) l26 c26 k26, (fun_mk (st := s__law_bent) l26 c26 k26).binds (ps := ["_law_bag_here", "_law_told", "_law_engines_here", "_law_deed_here"]) fun _ _ _ _ _ _ us hl => match us, hl with | [_, _, _, _], _ => rfl⟩,
    f__law_each := ⟨f27, _, PySem.W.mg_of X G a27, fun_mk (st := s__law_each) l27 c27 k27, (fun_mk (st := s__law_each) l27 c27 k27).binds (ps := ["_law_told", "_law_engines_here", "_law_ground_here"]) fun _ _ _ _ _ _ us hl => match us, hl with | [_, _, _], _ => rfl⟩,
    f_law := ⟨f28, _, PySem.W.mg_of X G a28, fun_mk (st := s_law) l28 c28 k28, (fun_mk (st := s_law) l28 c28 k28).binds (ps := ["_law_script"]) fun _ _ _ _ _ _ us hl => match us, hl with | [_], _ => rfl⟩,
    n_ValueError := PySem.W.mg_none_of X G z0,
    n_abs := PySem.W.mg_none_of X G z1,
    n_all := PySem.W.mg_none_of X G z2,
    n_bool := PySem.W.mg_none_of X G z3,
    n_dict := PySem.W.mg_none_of X G z4,
    n_enumerate := PySem.W.mg_none_of X G z5,
    n_int := PySem.W.mg_none_of X G z6,
    n_isinstance := PySem.W.mg_none_of X G z7,
    n_len := PySem.W.mg_none_of X G z8,
    n_list := PySem.W.mg_none_of X G z9,
    n_max := PySem.W.mg_none_of X G z10,
    n_min := PySem.W.mg_none_of X G z11,
    n_range := PySem.W.mg_none_of X G z12,
    n_sorted := PySem.W.mg_none_of X G z13,
    n_str := PySem.W.mg_none_of X G z14,
    n_tuple := PySem.W.mg_none_of X G z15,
    n_zip := PySem.W.mg_none_of X G z16,
    g_LETTERS := ⟨gt0, PySem.W.mg_of X G lit0⟩,
    g_MOST_CALLS := ⟨gt1, PySem.W.mg_of X G lit1⟩,
    g_MOST_LETTERS := ⟨gt2, PySem.W.mg_of X G lit2⟩,
    g_MOST_MINUTES := ⟨gt3, PySem.W.mg_of X G lit3⟩,
    g_MOST_PLACES := ⟨gt4, PySem.W.mg_of X G lit4⟩,
    g_MOST_PUMPS := ⟨gt5, PySem.W.mg_of X G lit5⟩,
    g_MOST_RISK := ⟨gt6, PySem.W.mg_of X G lit6⟩,
    g_MOST_ROADS := ⟨gt7, PySem.W.mg_of X G lit7⟩,
    g_MOST_STATIONS := ⟨gt8, PySem.W.mg_of X G lit8⟩,
    k_DUE := ⟨kd0, PySem.W.mg_of X G ka0, kb0⟩,
    k_FORMS := ⟨kd1, PySem.W.mg_of X G ka1, kb1, List.forall_mem_cons.mpr ⟨kval_strs kv1_0 kl1_0 (.cons ⟨_, rfl⟩ (.cons ⟨_, rfl⟩ .nil)) (by decide +kernel), List.forall_mem_cons.mpr ⟨kval_strs kv1_1 kl1_1 (.cons ⟨_, rfl⟩ .nil) (by decide +kernel), List.forall_mem_cons.mpr ⟨kval_strs kv1_2 kl1_2 (.cons ⟨_, rfl⟩ (.cons ⟨_, rfl⟩ .nil)) (by decide +kernel), List.forall_mem_cons.mpr ⟨kval_strs kv1_3 kl1_3 (.cons ⟨_, rfl⟩ .nil) (by decide +kernel), List.forall_mem_cons.mpr ⟨kval_strs kv1_4 kl1_4 (.cons ⟨_, rfl⟩ (.cons ⟨_, rfl⟩ .nil)) (by decide +kernel), List.forall_mem_cons.mpr ⟨kval_strs kv1_5 kl1_5 (.cons ⟨_, rfl⟩ .nil) (by decide +kernel), List.forall_mem_cons.mpr ⟨kval_strs kv1_6 kl1_6 (.cons ⟨_, rfl⟩ .nil) (by decide +kernel), List.forall_mem_cons.mpr ⟨kval_strs kv1_7 kl1_7 (.cons ⟨_, rfl⟩ .nil) (by decide +kernel), List.forall_mem_cons.mpr ⟨kval_strs kv1_8 kl1_8 (.cons ⟨_, rfl⟩ .nil) (by decide +kernel), List.forall_mem_cons.mpr ⟨kval_strs kv1_9 kl1_9 (.cons ⟨_, rfl⟩ .nil) (by decide +kernel), List.forall_mem_cons.mpr ⟨kval_strs kv1_10 kl1_10 (.cons ⟨_, rfl⟩ (.cons ⟨_, rfl⟩ .nil)) (by decide +kernel), List.forall_mem_cons.mpr ⟨kval_strs kv1_11 kl1_11 (.cons ⟨_, rfl⟩ (.cons ⟨_, rfl⟩ .nil)) (by decide +kernel), List.forall_mem_cons.mpr ⟨kval_strs kv1_12 kl1_12 (.cons ⟨_, rfl⟩ .nil) (by decide +kernel), List.forall_mem_cons.mpr ⟨kval_strs kv1_13 kl1_13 (.cons ⟨_, rfl⟩ .nil) (by decide +kernel), List.forall_mem_cons.mpr ⟨kval_strs kv1_14 kl1_14 .nil (by decide +kernel), List.forall_mem_nil _⟩⟩⟩⟩⟩⟩⟩⟩⟩⟩⟩⟩⟩⟩⟩⟩,
    c_NoGround := ⟨xC0, xf0, _, PySem.W.mg_of X G xa0, ⟨⟨xnm0, xq0, xN0, xbs0, _, xsn0, xsub0, xab0, xco0, xdd0, xm00, xm10, xm20, xm30, xm50, xL0, by decide +kernel⟩, xsa0, xex0, xty0, xk0⟩, xi0, xt0, (fun_mk (st := s_NoGround_init) xl0 xc0 xkf0), (fun_mk (st := s_NoGround_init) xl0 xc0 xkf0).binds (ps := ["self", "part", "at"]) fun _ _ _ _ _ _ us hl => match us, hl with | [_, _, _], _ => rfl, List.forall_mem_cons.mpr ⟨xn0_0, List.forall_mem_cons.mpr ⟨xn1_0, List.forall_mem_nil _⟩⟩, xhd0, (PySem.W.exm_ref xex0 xhd0 xty0 xss0), xv0, ⟨clsIn_some xhd0, xga0, xgg0, xex0, xcl0, xge0, xtk0, xmo0⟩⟩ } base⟩
  exact .of_eq rfl
end K23
namespace DL
open PySem L2 Tx20 Tx21 K23
/-- what _law_ground tells -/
def toldD (ps : List Row_) (r : D) (ss : List Str) : D := .tup [.xtp (ps.map plD), r, .xtp (ss.map .str)]
def letC (s : Str) : Nat := if s = lit "place" then 108 else s.cps.toList.headD 0
abbrev LFormsL : List (Str × Str) := [(lit "call", lit "lk"), (lit "again", lit "c"), (lit "make", lit "cp"), (lit "stop", lit "c"), (lit "send", lit "ec"), (lit "there", lit "e"), (lit "back", lit "e"), (lit "home", lit "e"), (lit "off", lit "e"), (lit "on", lit "e"), (lit "stand", lit "es"), (lit "lend", lit "es"), (lit "shut", lit "r"), (lit "clear", lit "r"), (lit "nothing", lit "")]
theorem ix_dct' {ks : List Key} {es : List D} {x : Str} {d : D} {M : Mst} {Q : DK} (h : valD (ks.zip es) (Sum.inr x) = some d) : dIx (.dct ks es) (.str x) M Q = Q d M := by
  unfold dIx dgetD
  show (match (some (valD (ks.zip es) (Sum.inr x)) : Option (Option D)) with | some (some d) => Q d M | some none => False | none => _) = _
  rw [h]
theorem putAll_nd : ∀ (kvs pre : List (Key × D)), ((pre ++ kvs).map (·.1)).Nodup → putAllD pre kvs = pre ++ kvs
  | [], pre, _ => by simp [putAllD]
  | q :: kvs, pre, h => by
    have hq : ∀ p ∈ pre, p.1 ≠ q.1 := fun p hp e => by
      rw [List.map_append, List.map_cons] at h
      exact (List.nodup_append.mp h).2.2 _ (List.mem_map_of_mem hp) _ (List.mem_cons_self ..) e
    have e : putD pre q.1 q.2 = pre ++ [q] := by
      unfold putD
      rw [if_neg]
      simp only [List.any_eq_true, decide_eq_true_eq, not_exists, not_and]
      exact fun p hp => hq p hp
    show putAllD (putD pre q.1 q.2) kvs = _
    rw [e, putAll_nd kvs (pre ++ [q]) (by simpa using h)]
    simp
theorem seven {s : Str} (h : s ∈ SORT7) : s = lit "place" ∨ s = lit "kind" ∨ s = lit "call" ∨ s = lit "pumps" ∨ s = lit "engine" ∨ s = lit "station" ∨ s = lit "road" := by
  simpa only [List.mem_cons, List.not_mem_nil, or_false] using h
def letS (s : Str) : Str := ⟨#[letC s]⟩
theorem ls1 : letS (lit "place") = lit "l" := by decide +kernel
theorem ls2 : letS (lit "kind") = lit "k" := by decide +kernel
theorem ls3 : letS (lit "call") = lit "c" := by decide +kernel
theorem ls4 : letS (lit "pumps") = lit "p" := by decide +kernel
theorem ls5 : letS (lit "engine") = lit "e" := by decide +kernel
theorem ls6 : letS (lit "station") = lit "s" := by decide +kernel
theorem ls7 : letS (lit "road") = lit "r" := by decide +kernel
theorem cpr_in : ∀ t ∈ [lit "c", lit "p", lit "r"], inS t (lit "cpr") = true := by decide +kernel
theorem cpr_out : ∀ t ∈ [lit "l", lit "k", lit "e", lit "s"], inS t (lit "cpr") = false := by decide +kernel
theorem lets_ne : lit "p" ≠ lit "c" ∧ lit "r" ≠ lit "c" ∧ lit "r" ≠ lit "p" := by decide +kernel
theorem cond_l : (decide (lit "l" = lit "k")) = false ∧ (decide (lit "l" = lit "e")) = false ∧ (decide (lit "l" = lit "s")) = false := by decide +kernel
theorem cond_e : (decide (lit "e" = lit "k")) = false ∧ (decide (lit "e" = lit "e")) = true := by decide +kernel
theorem cond_s : (decide (lit "s" = lit "k")) = false ∧ (decide (lit "s" = lit "e")) = false ∧ (decide (lit "s" = lit "s")) = true := by decide +kernel
def spLSort : DSp := fun ds M Q _ => ∃ (n : Nat) (ps : List Row_) (rs : List Rd_) (r : D) (ss : List Str) (es : List Eng) (s : Str) (x : D), ds = [toldD ps r ss, .tup (es.map egD), .str (letS s), x] ∧ Tpl (rs.map rdD) r ∧ ps.length ≤ 50000 ∧ es.length ≤ 50000 ∧ s ∈ SORT7 ∧ Pl n x ∧
  Q (.bl (sortB (ps.map (·.1)) ss (es.map (·.1)) rs.length s x)) M
theorem sort_str {ps ss es : List Str} {rn : Nat} {x : D} (h : strB x = false) : sortB ps ss es rn (lit "place") x = false ∧ sortB ps ss es rn (lit "kind") x = false ∧ sortB ps ss es rn (lit "engine") x = false ∧ sortB ps ss es rn (lit "station") x = false := by
  cases x <;> first | (cases h; done) | exact ⟨rfl, rfl, rfl, rfl⟩
theorem valD_hd {k : Key} {v : D} {l : List (Key × D)} : valD ((k, v) :: l) k = some v := by simp [valD]
theorem valD_tl {k k' : Key} {v : D} {l : List (Key × D)} (h : k ≠ k') : valD ((k, v) :: l) k' = valD l k' := by simp [valD, h]
def numsD (rn : Nat) : List (Key × D) := [(.inr (lit "c"), .tup [.int 1, .int 200]), (.inr (lit "p"), .tup [.int 1, .int 20]), (.inr (lit "r"), .tup [.int 0, .int ((rn : Int) - 1)])]
theorem nums_ok {DW : DWt} {p : Rho} {M : Mst} {Q : DK} {r : D} {rs : List Rd_} (h5 : p[5]? = some (some r)) (hr : Tpl (rs.map rdD) r) (k : Q (.dct ((numsD rs.length).map (·.1)) ((numsD rs.length).map (·.2))) M) :
    qFrzE (qDisp [((qC (.str (PySem.Str.ofString "c"))), (qTup (qCons (qC (.int 1)) (qCons (qC (.int 200)) qNil)))), ((qC (.str (PySem.Str.ofString "p"))), (qTup (qCons (qC (.int 1)) (qCons (qC (.int 20)) qNil)))), ((qC (.str (PySem.Str.ofString "r"))), (qTup (qCons (qC (.int 0)) (qCons (qOp (dInt0 fun i j => i - j) (qCB dLen (qCons (qVar 5) qNil)) (qC (.int 1))) qNil))))]) DW p M Q := by
  simp only [qFrzE, qDisp, qPairs, pairsK, keyD, qSeq, qAsg, qTup, qCons, qNil, qOp, qUn, qC, qCall, qVar, qLst, newL_f, qIfS, qTB, qNext, qRet, qDrop, qFor, qCB, qAug, qSl, qPart, qNoPart, gNameD, gSub_eq, dInt_i, dInt0_i, dAdd_i, dCmpI_i, List.set_cons_zero, List.set_cons_succ, List.getElem?_cons_zero, List.getElem?_cons_succ, List.append_nil, z_l0, z_l1, z_l2, z_l3, z_l4, z_l5, z_l6, z_l7, z_l8, z_l9, z_l19, z_l24, z_l25, true_and, h5, len_tpl hr, List.length_map]
  intro a ha
  have e : putAllD [] (numsD rs.length) = numsD rs.length := putAll_nd _ [] (by show [(Sum.inr (lit "c") : Key), .inr (lit "p"), .inr (lit "r")].Nodup; decide +kernel)
  have e' : putAllD [] [((Sum.inr (PySem.Str.ofString "c") : Key), D.tup [.int 1, .int 200]), (.inr (PySem.Str.ofString "p"), .tup [.int 1, .int 20]), (.inr (PySem.Str.ofString "r"), .tup [.int 0, .int ((rs.length : Int) - 1)])] = numsD rs.length := e
  simp only [put_same, put_put, del_put ha, e', List.length_cons, List.length_nil, true_and]
  exact ⟨by decide, k⟩
theorem nums_c {rn : Nat} : valD (((numsD rn).map (·.1)).zip ((numsD rn).map (·.2))) (.inr (lit "c")) = some (.tup [.int 1, .int 200]) := valD_hd
theorem nums_p {rn : Nat} : valD (((numsD rn).map (·.1)).zip ((numsD rn).map (·.2))) (.inr (lit "p")) = some (.tup [.int 1, .int 20]) := (valD_tl (by intro e; exact lets_ne.1 (Sum.inr.inj e).symm)).trans valD_hd
theorem nums_r {rn : Nat} : valD (((numsD rn).map (·.1)).zip ((numsD rn).map (·.2))) (.inr (lit "r")) = some (.tup [.int 0, .int ((rn : Int) - 1)]) :=
  (valD_tl (by intro e; exact lets_ne.2.1 (Sum.inr.inj e).symm)).trans ((valD_tl (by intro e; exact lets_ne.2.2 (Sum.inr.inj e).symm)).trans valD_hd)
theorem kind_tup {x : D} {n : Nat} {M : Mst} {Q : DK} (hx : Pl n x) (hs : strB x = true) : dIn false x (.tup [.str (PySem.Str.ofString "car"), .str (PySem.Str.ofString "chimney"), .str (PySem.Str.ofString "grass"), .str (PySem.Str.ofString "house"), .str (PySem.Str.ofString "people"), .str (PySem.Str.ofString "works")]) M Q = Q (.bl (oneD KDue x)) M := by
  cases x <;> first | (cases hs; done) | skip
  rename_i z
  have := textsD_t (zs := KDue) (M := M) z Q
  exact this
theorem lsort_ok (ds : List D) (M : Mst) (Q : DK) (Ed : DX → Mst → Prop) (h : upSp spLSort ds M Q Ed) : q__law_is_sort spIsWhole (fun x _ M => Ed x M) (retE Q) (startD N__law_is_sort ds) M := by
  obtain ⟨Q0, E0, ⟨n, ps, rs, r, ss, es, s, x, rfl, hr, pn, en, hs, hx, k0⟩, kq, _⟩ := h
  have k : Q (.bl (sortB (ps.map (·.1)) ss (es.map (·.1)) rs.length s x)) M := kq _ _ _ (Sub.refl _) k0
  show q__law_is_sort _ _ _ [some (toldD ps r ss), some (.tup (es.map egD)), some (.str (letS s)), some x, none, none, none, none, none, none, none] M
  simp only [q__law_is_sort, toldD, gTupD, gConsD, gNilD, res_tup, List.length_cons, List.length_nil, true_and, qSeq, qAsg, qTup, qCons, qNil, qOp, qUn, qC, qCall, qVar, qLst, newL_f, qIfS, qTB, qNext, qRet, qDrop, qFor, qCB, qAug, qSl, qPart, qNoPart, gNameD, gSub_eq, dInt_i, dInt0_i, dAdd_i, dCmpI_i, List.set_cons_zero, List.set_cons_succ, List.getElem?_cons_zero, List.getElem?_cons_succ, List.append_nil, z_l0, z_l1, z_l2, z_l3, z_l4, z_l5, z_l6, z_l7, z_l8, z_l9, z_l19, z_l24, z_l25, true_and, z_inS, Bool.false_xor]
  rcases seven hs with rfl | rfl | rfl | rfl | rfl | rfl | rfl
  · rw [ls1, if_neg (by rw [cpr_out _ (by simp)]; simp)]
    simp only [qNot, qSeq, qAsg, qTup, qCons, qNil, qOp, qUn, qC, qCall, qVar, qLst, newL_f, qIfS, qTB, qNext, qRet, qDrop, qFor, qCB, qAug, qSl, qPart, qNoPart, gNameD, gSub_eq, dInt_i, dInt0_i, dAdd_i, dCmpI_i, List.set_cons_zero, List.set_cons_succ, List.getElem?_cons_zero, List.getElem?_cons_succ, List.append_nil, z_l0, z_l1, z_l2, z_l3, z_l4, z_l5, z_l6, z_l7, z_l8, z_l9, z_l19, z_l24, z_l25, true_and]
    rw [isi_str hx]
    cases hb : strB x with
    | false => rw [(sort_str hb).1] at k; simp only [Bool.not_false, if_true]; exact k
    | true =>
      simp only [Bool.not_true, Bool.false_eq_true, if_false, z_eq_str, cond_l.1, cond_l.2.1, cond_l.2.2, qIf, qLc, qiAny, qSeq, qAsg, qTup, qCons, qNil, qOp, qUn, qC, qCall, qVar, qLst, newL_f, qIfS, qTB, qNext, qRet, qDrop, qFor, qCB, qAug, qSl, qPart, qNoPart, gNameD, gSub_eq, dInt_i, dInt0_i, dAdd_i, dCmpI_i, List.set_cons_zero, List.set_cons_succ, List.getElem?_cons_zero, List.getElem?_cons_succ, List.append_nil, z_l0, z_l1, z_l2, z_l3, z_l4, z_l5, z_l6, z_l7, z_l8, z_l9, z_l19, z_l24, z_l25, true_and]
      intro a ha
      refine compL_map ha (fun d => some (.str (nameOf d))) (fun _ => trivial) (by rw [List.length_map]; omega) (fun d hd acc R hR => ?_) ?_
      · obtain ⟨q, _, rfl⟩ := List.mem_map.mp hd
        simp only [wipeD, qYes, if_true, plD, z_ix_t0, qSeq, qAsg, qTup, qCons, qNil, qOp, qUn, qC, qCall, qVar, qLst, newL_f, qIfS, qTB, qNext, qRet, qDrop, qFor, qCB, qAug, qSl, qPart, qNoPart, gNameD, gSub_eq, dInt_i, dInt0_i, dAdd_i, dCmpI_i, List.set_cons_zero, List.set_cons_succ, List.getElem?_cons_zero, List.getElem?_cons_succ, List.append_nil, z_l0, z_l1, z_l2, z_l3, z_l4, z_l5, z_l6, z_l7, z_l8, z_l9, z_l19, z_l24, z_l25, true_and]
        exact hR
      · have em : (ps.map plD).filterMap (fun d => some (D.str (nameOf d))) = (ps.map (·.1)).map D.str := by
          rw [List.filterMap_eq_map', List.map_map, List.map_map]; rfl
        simp only [Bool.false_eq_true, if_false, em]
        cases x <;> first | (cases hb; done) | skip
        rw [textsD_l]; exact k
  · rw [ls2, if_neg (by rw [cpr_out _ (by simp)]; simp)]
    simp only [qNot, qSeq, qAsg, qTup, qCons, qNil, qOp, qUn, qC, qCall, qVar, qLst, newL_f, qIfS, qTB, qNext, qRet, qDrop, qFor, qCB, qAug, qSl, qPart, qNoPart, gNameD, gSub_eq, dInt_i, dInt0_i, dAdd_i, dCmpI_i, List.set_cons_zero, List.set_cons_succ, List.getElem?_cons_zero, List.getElem?_cons_succ, List.append_nil, z_l0, z_l1, z_l2, z_l3, z_l4, z_l5, z_l6, z_l7, z_l8, z_l9, z_l19, z_l24, z_l25, true_and]
    rw [isi_str hx]
    cases hb : strB x with
    | false => rw [(sort_str hb).2.1] at k; simp only [Bool.not_false, if_true]; exact k
    | true =>
      simp only [Bool.not_true, Bool.false_eq_true, if_false, z_eq_str, decide_true, if_true, kind_tup hx hb]
      exact ⟨by decide, k⟩
  · rw [ls3, if_pos (cpr_in _ (by simp))]
    refine nums_ok (rs := rs) rfl hr ?_
    rw [ix_dct' nums_c]
    exact ⟨rfl, rfl, n, x, _, _, rfl, hx, k⟩
  · rw [ls4, if_pos (cpr_in _ (by simp))]
    refine nums_ok (rs := rs) rfl hr ?_
    rw [ix_dct' nums_p]
    exact ⟨rfl, rfl, n, x, _, _, rfl, hx, k⟩
  · rw [ls5, if_neg (by rw [cpr_out _ (by simp)]; simp)]
    simp only [qNot, qSeq, qAsg, qTup, qCons, qNil, qOp, qUn, qC, qCall, qVar, qLst, newL_f, qIfS, qTB, qNext, qRet, qDrop, qFor, qCB, qAug, qSl, qPart, qNoPart, gNameD, gSub_eq, dInt_i, dInt0_i, dAdd_i, dCmpI_i, List.set_cons_zero, List.set_cons_succ, List.getElem?_cons_zero, List.getElem?_cons_succ, List.append_nil, z_l0, z_l1, z_l2, z_l3, z_l4, z_l5, z_l6, z_l7, z_l8, z_l9, z_l19, z_l24, z_l25, true_and]
    rw [isi_str hx]
    cases hb : strB x with
    | false => rw [(sort_str hb).2.2.1] at k; simp only [Bool.not_false, if_true]; exact k
    | true =>
      simp only [Bool.not_true, Bool.false_eq_true, if_false, if_true, z_eq_str, cond_e.1, decide_true, qLc, qiAny, qSeq, qAsg, qTup, qCons, qNil, qOp, qUn, qC, qCall, qVar, qLst, newL_f, qIfS, qTB, qNext, qRet, qDrop, qFor, qCB, qAug, qSl, qPart, qNoPart, gNameD, gSub_eq, dInt_i, dInt0_i, dAdd_i, dCmpI_i, List.set_cons_zero, List.set_cons_succ, List.getElem?_cons_zero, List.getElem?_cons_succ, List.append_nil, z_l0, z_l1, z_l2, z_l3, z_l4, z_l5, z_l6, z_l7, z_l8, z_l9, z_l19, z_l24, z_l25, true_and]
      intro a ha
      refine lcN ha (fun _ => trivial) (by rw [List.length_map]; omega) (fun d => .str (nameOf d)) (fun d hd M' R S hR => ?_) ?_
      · obtain ⟨q, _, rfl⟩ := List.mem_map.mp hd
        simp only [wipeD, qSeq, qAsg, qTup, qCons, qNil, qOp, qUn, qC, qCall, qVar, qLst, newL_f, qIfS, qTB, qNext, qRet, qDrop, qFor, qCB, qAug, qSl, qPart, qNoPart, gNameD, gSub_eq, dInt_i, dInt0_i, dAdd_i, dCmpI_i, List.set_cons_zero, List.set_cons_succ, List.getElem?_cons_zero, List.getElem?_cons_succ, List.append_nil, z_l0, z_l1, z_l2, z_l3, z_l4, z_l5, z_l6, z_l7, z_l8, z_l9, z_l19, z_l24, z_l25, true_and, egD, z_ix_t0]
        exact hR
      · have em2 : (es.map egD).map (fun d => D.str (nameOf d)) = (es.map (·.1)).map D.str := by rw [List.map_map, List.map_map]; rfl
        rw [em2]
        cases x <;> first | (cases hb; done) | skip
        rw [textsD_l]; exact k
  · rw [ls6, if_neg (by rw [cpr_out _ (by simp)]; simp)]
    simp only [qNot, qSeq, qAsg, qTup, qCons, qNil, qOp, qUn, qC, qCall, qVar, qLst, newL_f, qIfS, qTB, qNext, qRet, qDrop, qFor, qCB, qAug, qSl, qPart, qNoPart, gNameD, gSub_eq, dInt_i, dInt0_i, dAdd_i, dCmpI_i, List.set_cons_zero, List.set_cons_succ, List.getElem?_cons_zero, List.getElem?_cons_succ, List.append_nil, z_l0, z_l1, z_l2, z_l3, z_l4, z_l5, z_l6, z_l7, z_l8, z_l9, z_l19, z_l24, z_l25, true_and]
    rw [isi_str hx]
    cases hb : strB x with
    | false => rw [(sort_str hb).2.2.2] at k; simp only [Bool.not_false, if_true]; exact k
    | true =>
      simp only [Bool.not_true, Bool.false_eq_true, if_false, z_eq_str, cond_s.1, cond_s.2.1, cond_s.2.2, qIf, if_true, qSeq, qAsg, qTup, qCons, qNil, qOp, qUn, qC, qCall, qVar, qLst, newL_f, qIfS, qTB, qNext, qRet, qDrop, qFor, qCB, qAug, qSl, qPart, qNoPart, gNameD, gSub_eq, dInt_i, dInt0_i, dAdd_i, dCmpI_i, List.set_cons_zero, List.set_cons_succ, List.getElem?_cons_zero, List.getElem?_cons_succ, List.append_nil, z_l0, z_l1, z_l2, z_l3, z_l4, z_l5, z_l6, z_l7, z_l8, z_l9, z_l19, z_l24, z_l25, true_and]
      cases x <;> first | (cases hb; done) | skip
      rw [textsD_x]; exact k
  · rw [ls7, if_pos (cpr_in _ (by simp))]
    refine nums_ok (rs := rs) rfl hr ?_
    rw [ix_dct' nums_r]
    exact ⟨rfl, rfl, n, x, _, _, rfl, hx, k⟩
def lfD : List (Key × D) := LFormsL.map fun q => (.inr q.1, .str q.2)
def qLForms : DTE := (qFrzE (qDisp [((qC (.str (PySem.Str.ofString "call"))), (qC (.str (PySem.Str.ofString "lk")))), ((qC (.str (PySem.Str.ofString "again"))), (qC (.str (PySem.Str.ofString "c")))), ((qC (.str (PySem.Str.ofString "make"))), (qC (.str (PySem.Str.ofString "cp")))), ((qC (.str (PySem.Str.ofString "stop"))), (qC (.str (PySem.Str.ofString "c")))), ((qC (.str (PySem.Str.ofString "send"))), (qC (.str (PySem.Str.ofString "ec")))), ((qC (.str (PySem.Str.ofString "there"))), (qC (.str (PySem.Str.ofString "e")))), ((qC (.str (PySem.Str.ofString "back"))), (qC (.str (PySem.Str.ofString "e")))), ((qC (.str (PySem.Str.ofString "home"))), (qC (.str (PySem.Str.ofString "e")))), ((qC (.str (PySem.Str.ofString "off"))), (qC (.str (PySem.Str.ofString "e")))), ((qC (.str (PySem.Str.ofString "on"))), (qC (.str (PySem.Str.ofString "e")))), ((qC (.str (PySem.Str.ofString "stand"))), (qC (.str (PySem.Str.ofString "es")))), ((qC (.str (PySem.Str.ofString "lend"))), (qC (.str (PySem.Str.ofString "es")))), ((qC (.str (PySem.Str.ofString "shut"))), (qC (.str (PySem.Str.ofString "r")))), ((qC (.str (PySem.Str.ofString "clear"))), (qC (.str (PySem.Str.ofString "r")))), ((qC (.str (PySem.Str.ofString "nothing"))), (qC (.str (PySem.Str.ofString ""))))]))
theorem lforms_ok {DW : DWt} {p : Rho} {M : Mst} {Q : DK} (k : Q (.dct (lfD.map (·.1)) (lfD.map (·.2))) M) : qLForms DW p M Q := by
  simp only [qLForms, qFrzE, qDisp, qPairs, pairsK, keyD, qSeq, qAsg, qTup, qCons, qNil, qOp, qUn, qC, qCall, qVar, qLst, newL_f, qIfS, qTB, qNext, qRet, qDrop, qFor, qCB, qAug, qSl, qPart, qNoPart, gNameD, gSub_eq, dInt_i, dInt0_i, dAdd_i, dCmpI_i, List.set_cons_zero, List.set_cons_succ, List.getElem?_cons_zero, List.getElem?_cons_succ, List.append_nil, z_l0, z_l1, z_l2, z_l3, z_l4, z_l5, z_l6, z_l7, z_l8, z_l9, z_l19, z_l24, z_l25, true_and]
  intro a ha
  have e : putAllD [] lfD = lfD := putAll_nd _ [] (by show (LFormsL.map fun q => (Sum.inr q.1 : Key)).Nodup; decide +kernel)
  have e' : putAllD [] ([((Sum.inr (PySem.Str.ofString "call") : Key), D.str (PySem.Str.ofString "lk")), (.inr (PySem.Str.ofString "again"), .str (PySem.Str.ofString "c")), (.inr (PySem.Str.ofString "make"), .str (PySem.Str.ofString "cp")), (.inr (PySem.Str.ofString "stop"), .str (PySem.Str.ofString "c")), (.inr (PySem.Str.ofString "send"), .str (PySem.Str.ofString "ec")), (.inr (PySem.Str.ofString "there"), .str (PySem.Str.ofString "e")), (.inr (PySem.Str.ofString "back"), .str (PySem.Str.ofString "e")), (.inr (PySem.Str.ofString "home"), .str (PySem.Str.ofString "e")), (.inr (PySem.Str.ofString "off"), .str (PySem.Str.ofString "e")), (.inr (PySem.Str.ofString "on"), .str (PySem.Str.ofString "e")), (.inr (PySem.Str.ofString "stand"), .str (PySem.Str.ofString "es")), (.inr (PySem.Str.ofString "lend"), .str (PySem.Str.ofString "es")), (.inr (PySem.Str.ofString "shut"), .str (PySem.Str.ofString "r")), (.inr (PySem.Str.ofString "clear"), .str (PySem.Str.ofString "r")), (.inr (PySem.Str.ofString "nothing"), .str (PySem.Str.ofString ""))]) = lfD := e
  simp only [put_same, put_put, del_put ha, e', List.length_cons, List.length_nil, true_and]
  exact ⟨by decide, k⟩
theorem lf_val (w : Str) : valD ((lfD.map (·.1)).zip (lfD.map (·.2))) (.inr w) = (LFormsL.lookup w).map .str := by
  rw [zip_split]
  have : ∀ l : List (Str × Str), valD (l.map fun q => ((Sum.inr q.1 : Key), D.str q.2)) (.inr w) = (l.lookup w).map .str := fun l => by
    induction l with
    | nil => rfl
    | cons q l ih =>
      rw [List.map_cons, List.lookup_cons]
      cases c : w == q.1 with
      | true => rw [eq_of_beq c]; exact valD_hd
      | false => rw [valD_tl (fun e => by rw [Sum.inr.inj e, beq_self_eq_true] at c; cases c), ih]
  exact this _
theorem lforms_rel : ∀ q ∈ FormsL, (LFormsL.lookup q.1).map (fun t => t.cps.toList) = some (q.2.map letC) := by decide +kernel
theorem lforms_keys : LFormsL.map (·.1) = FormsL.map (·.1) := rfl
theorem lf_none {w : Str} (h : w ∉ FormsL.map (·.1)) : LFormsL.lookup w = none := by
  rw [← lforms_keys] at h
  have : ∀ l : List (Str × Str), w ∉ l.map (·.1) → l.lookup w = none := fun l => by
    induction l with
    | nil => exact fun _ => rfl
    | cons q l ih =>
      intro h
      rw [List.map_cons, List.mem_cons, not_or] at h
      rw [List.lookup_cons, show (w == q.1) = false from beq_eq_false_iff_ne.mpr h.1]
      exact ih h.2
  exact this _ h
theorem in_lf {w : Str} {M : Mst} {Q : DK} : dIn true (.str w) (.dct (lfD.map (·.1)) (lfD.map (·.2))) M Q = Q (.bl (!(LFormsL.lookup w).isSome)) M := by
  have hd : dgetD M (.dct (lfD.map (·.1)) (lfD.map (·.2))) (.str w) = some (valD ((lfD.map (·.1)).zip (lfD.map (·.2))) (.inr w)) := rfl
  unfold dIn
  rw [hd, lf_val]
  cases LFormsL.lookup w <;> rfl
def spLDueF : DSp := fun ds M Q _ => ∃ (n : Nat) (ps : List Row_) (rs : List Rd_) (r : D) (ss : List Str) (es : List Eng) (x : D), ds = [toldD ps r ss, .tup (es.map egD), x] ∧ Tpl (rs.map rdD) r ∧ ps.length ≤ 50000 ∧ es.length ≤ 50000 ∧ Pl n x ∧
  Q (.int (faultD (ps.map (·.1)) ss (es.map (·.1)) rs.length x)) M
theorem ldueF_ok (ds : List D) (M : Mst) (Q : DK) (Ed : DX → Mst → Prop) (h : upSp spLDueF ds M Q Ed) : q__law_due spLSort (fun x _ M => Ed x M) (retE Q) (startD N__law_due ds) M := by
  obtain ⟨Q0, E0, ⟨n, ps, rs, r, ss, es, x, rfl, hr, pn, en, hx, k0⟩, kq, _⟩ := h
  have k : Q (.int (faultD (ps.map (·.1)) ss (es.map (·.1)) rs.length x)) M := kq _ _ _ (Sub.refl _) k0
  show (qSeq (qAsg qLForms (gNameD 3)) _) _ _ [some (toldD ps r ss), some (.tup (es.map egD)), some x, none, none, none] M
  refine seq_asg (lforms_ok ?_)
  simp only [qOr, qNot, qSeq, qAsg, qTup, qCons, qNil, qOp, qUn, qC, qCall, qVar, qLst, newL_f, qIfS, qTB, qNext, qRet, qDrop, qFor, qCB, qAug, qSl, qPart, qNoPart, gNameD, gSub_eq, dInt_i, dInt0_i, dAdd_i, dCmpI_i, List.set_cons_zero, List.set_cons_succ, List.getElem?_cons_zero, List.getElem?_cons_succ, List.append_nil, z_l0, z_l1, z_l2, z_l3, z_l4, z_l5, z_l6, z_l7, z_l8, z_l9, z_l19, z_l24, z_l25, true_and]
  rw [isi_tuple hx]
  cases ht : tupB x with
  | false =>
    have e : faultD (ps.map (·.1)) ss (es.map (·.1)) rs.length x = 0 := by cases x <;> first | rfl | cases ht
    rw [e] at k; simp only [Bool.not_false, if_true]; exact k
  | true =>
  obtain ⟨xs, rfl⟩ := tupB_iff.mp ht
  obtain ⟨hl, hp⟩ := hx.tupI
  simp only [Bool.not_true, Bool.false_eq_true, if_false]
  rw [eq_unit hx, Bool.false_xor]
  cases xs with
  | nil => simp only [noTup, if_true]; exact k
  | cons x0 args =>
  have nt : noTup (.tup (x0 :: args)) = false := rfl
  have hp0 : Pl n x0 := hp x0 (List.mem_cons_self ..)
  simp only [nt, Bool.false_eq_true, if_false, z_ix_t0, isi_str hp0]
  cases hb : strB x0 with
  | false =>
    have e : faultD (ps.map (·.1)) ss (es.map (·.1)) rs.length (.tup (x0 :: args)) = 0 := by
      cases x0 <;> first | rfl | cases hb
    rw [e] at k; simp only [Bool.not_false, if_true]; exact k
  | true =>
  obtain ⟨w, rfl⟩ : ∃ w, x0 = .str w := by cases x0 <;> first | exact ⟨_, rfl⟩ | cases hb
  simp only [Bool.not_true, Bool.false_eq_true, if_false, in_lf]
  by_cases hw : w ∈ FormsL.map (·.1)
  · obtain ⟨so, hso⟩ := lookup_some' hw
    have e : faultD (ps.map (·.1)) ss (es.map (·.1)) rs.length (.tup (.str w :: args)) = if args.length = so.length then firstBad (sortB (ps.map (·.1)) ss (es.map (·.1)) rs.length) 1 so args else 0 := by
      show (match FormsL.lookup w with | none => (0 : Int) | some so => _) = _
      rw [hso]
    rw [e] at k
    obtain ⟨s2, s7⟩ := forms_sorts _ (lookup_mem hso)
    obtain ⟨t, ht1, ht2⟩ := Option.map_eq_some_iff.mp (lforms_rel _ (lookup_mem hso))
    have tl : t.length = so.length := by
      have := congrArg List.length ht2
      rw [List.length_map] at this
      exact this
    have ev : valD ((lfD.map (·.1)).zip (lfD.map (·.2))) (.inr w) = some (.str t) := by rw [lf_val, ht1]; rfl
    simp only [ht1, Option.isSome_some, Bool.not_true, Bool.false_eq_true, if_false, qSeq, qAsg, qTup, qCons, qNil, qOp, qUn, qC, qCall, qVar, qLst, newL_f, qIfS, qTB, qNext, qRet, qDrop, qFor, qCB, qAug, qSl, qPart, qNoPart, gNameD, gSub_eq, dInt_i, dInt0_i, dAdd_i, dCmpI_i, List.set_cons_zero, List.set_cons_succ, List.getElem?_cons_zero, List.getElem?_cons_succ, List.append_nil, z_l0, z_l1, z_l2, z_l3, z_l4, z_l5, z_l6, z_l7, z_l8, z_l9, z_l19, z_l24, z_l25, true_and, z_ix_t0, ix_dct' ev, z_len_tup, z_len_str, tl, z_ne_int, List.length_cons]
    by_cases hc : args.length = so.length
    · have e1 : decide ((((args.length + 1 : Nat) : Int)) = 1 + (so.length : Int)) = true := decide_eq_true (by omega)
      rw [if_pos hc] at k
      simp only [e1, Bool.not_true, Bool.false_eq_true, if_false, qiRng1, qSeq, qAsg, qTup, qCons, qNil, qOp, qUn, qC, qCall, qVar, qLst, newL_f, qIfS, qTB, qNext, qRet, qDrop, qFor, qCB, qAug, qSl, qPart, qNoPart, gNameD, gSub_eq, dInt_i, dInt0_i, dAdd_i, dCmpI_i, List.set_cons_zero, List.set_cons_succ, List.getElem?_cons_zero, List.getElem?_cons_succ, List.append_nil, z_l0, z_l1, z_l2, z_l3, z_l4, z_l5, z_l6, z_l7, z_l8, z_l9, z_l19, z_l24, z_l25, true_and, z_len_str, tl]
      refine ⟨by omega, by have : so.length ≤ 2 := s2; omega, ?_⟩
      refine loopL_inv (fun i p M' => ∃ (p5 : Option D), p = [some (toldD ps r ss), some (.tup (es.map egD)), some (.tup (.str w :: args)), some (.dct (lfD.map (·.1)) (lfD.map (·.2))), some (.str t), p5] ∧ M' = M ∧ firstBad (sortB (ps.map (·.1)) ss (es.map (·.1)) rs.length) 1 so args = firstBad (sortB (ps.map (·.1)) ss (es.map (·.1)) rs.length) (1 + (i : Nat)) (so.drop i) (args.drop i)) (n := so.length) (by simp [rangeD]) (fun i d p M' R hd' hI hR => ?_) (fun p M' hI => ?_)
        ⟨none, rfl, rfl, rfl⟩
      · obtain ⟨p5, rfl, rfl, hf⟩ := hI
        obtain ⟨hi, rfl⟩ := range_at hd'
        have hi : i < so.length := by simpa using hi
        have hs : so[i]? = some so[i] := List.getElem?_eq_getElem hi
        obtain ⟨y, hy⟩ : ∃ y, args[i]? = some y := ⟨args[i], List.getElem?_eq_getElem (by omega)⟩
        rw [drop_at hs, drop_at hy, firstBad] at hf
        refine ⟨trivial, ?_⟩
        have et : dIx (.str t) (.int (i : Int)) M' = fun Q => Q (.str (letS so[i])) M' := funext fun Q => by
          have h1 : atI t.cps.toList (i : Int) = some (letC so[i]) := by rw [atI_n, ht2, List.getElem?_map, hs]; rfl
          simp [dIx, dgetD, h1, letS]
        have ei : dIx (.tup (.str w :: args)) (.int ((i : Int) + 1)) M' = fun Q => Q y M' := funext fun Q => by
          have := ix_tn (ds := .str w :: args) (i := i + 1) (d := y) (M := M') (Q := Q) (by rw [List.getElem?_cons_succ]; exact hy)
          rw [show ((i + 1 : Nat) : Int) = (i : Int) + 1 by omega] at this
          exact this
        simp only [qNot, qSeq, qAsg, qTup, qCons, qNil, qOp, qUn, qC, qCall, qVar, qLst, newL_f, qIfS, qTB, qNext, qRet, qDrop, qFor, qCB, qAug, qSl, qPart, qNoPart, gNameD, gSub_eq, dInt_i, dInt0_i, dAdd_i, dCmpI_i, List.set_cons_zero, List.set_cons_succ, List.getElem?_cons_zero, List.getElem?_cons_succ, List.append_nil, z_l0, z_l1, z_l2, z_l3, z_l4, z_l5, z_l6, z_l7, z_l8, z_l9, z_l19, z_l24, z_l25, true_and, et, ei]
        refine ⟨n, ps, rs, r, ss, es, so[i], y, rfl, hr, pn, en, s7 _ (List.getElem_mem hi), hp y (List.mem_cons_of_mem _ (List.mem_of_getElem? hy)), ?_⟩
        cases hb : sortB (ps.map (·.1)) ss (es.map (·.1)) rs.length so[i] y with
        | false =>
          rw [hb] at hf
          simp only [Bool.false_eq_true, if_false] at hf
          rw [hf, show (1 : Int) + ((i : Nat) : Int) = (i : Int) + 1 by omega] at k
          simp only [Bool.not_false, if_true]
          exact k
        | true =>
          rw [hb] at hf
          simp only [if_true] at hf
          simp only [Bool.not_true, Bool.false_eq_true, if_false]
          exact hR _ _ ⟨_, rfl, rfl, by rw [hf, show (1 : Int) + ((i + 1 : Nat) : Int) = 1 + (i : Int) + 1 by omega]⟩
      · obtain ⟨p5, rfl, rfl, hf⟩ := hI
        rw [List.drop_length] at hf
        have : firstBad (sortB (ps.map (·.1)) ss (es.map (·.1)) rs.length) (1 + (so.length : Nat)) [] (args.drop so.length) = -1 := by unfold firstBad; rfl
        rw [hf, this] at k
        exact ⟨trivial, k⟩
    · have e1 : decide ((((args.length + 1 : Nat) : Int)) = 1 + (so.length : Int)) = false := decide_eq_false (by omega)
      rw [if_neg hc] at k
      simp only [e1, Bool.not_false, if_true]
      exact k
  · have e : faultD (ps.map (·.1)) ss (es.map (·.1)) rs.length (.tup (.str w :: args)) = 0 := by
      show (match FormsL.lookup w with | none => (0 : Int) | some so => _) = 0
      rw [lookup_none' hw]
    rw [e] at k
    simp only [lf_none hw, Option.isSome_none, Bool.not_false, if_true]
    exact k
theorem cc_x {S : D → Prop} {q : DTE} {rest : DTA} {DW : DWt} {p : Rho} {M : Mst} {QA : List D → Mst → Prop} (hq : ∀ R : DK, (∀ d, S d → R d M) → q DW p M R) (h : ∀ d, S d → rest DW p M (fun ds M => QA (d :: ds) M)) : qCons q rest DW p M QA := hq _ h
theorem cc_p40 {rest : DTA} {DW : DWt} {p : Rho} {M : Mst} {QA : List D → Mst → Prop} (h : ∀ big, rest DW p M (fun ds M => QA (.int big :: ds) M)) : qCons (qOp (dInt CPow fun i j => i ^ j.toNat) (qC (.int 10)) (qC (.int 40))) rest DW p M QA := ⟨cpow_small (j := 40) (by decide) (by decide) (by decide), h _⟩
theorem op_var {f : DOp} {i : Nat} {q : DTE} {DW : DWt} {p : Rho} {M : Mst} {Q : DK} {x : D} (h : p[i]? = some (some x)) (k : q DW p M fun y M2 => f x y M2 Q) : qOp f (qVar i) q DW p M Q := by
  simp only [qOp, qVar, h]; exact k
structure TheirsOk (ps : List Row_) (rs : List Rd_) (ss : List Str) (es : List Eng) : Prop where
  p0 : ps ≠ []
  s0 : ss ≠ []
  e0 : es ≠ []
  pl : ps.length ≤ 40
  rl : rs.length ≤ 80
  sl : ss.length ≤ 12
  el : es.length ≤ 24
  pt : ∀ p ∈ ps, Tx_ 8 p.1
  st : ∀ z ∈ ss, Tx_ 8 z
  et : ∀ e ∈ es, Tx_ 8 e.1
def spHAny : DSp := fun ds M Q _ => ∃ (b : Addr) (ps : List Row_) (rs : List Rd_) (ss : List Str) (es : List Eng), ds = [.ref b, toldD ps (.xtp (rs.map rdD)) ss, .tup (es.map egD)] ∧ M b = some .bag ∧ TheirsOk ps rs ss es ∧ ∀ d, Pl 9 d → Q d M
theorem hany_ok (ds : List D) (M : Mst) (Q : DK) (Ed : DX → Mst → Prop) (h : upSp spHAny ds M Q Ed) : q__law_any spTake (fun x _ M => Ed x M) (retE Q) (startD N__law_any ds) M := by
  obtain ⟨Q0, E0, ⟨b, ps, rs, ss, es, rfl, hb, ok, k0⟩, kq, _⟩ := h
  have k : ∀ d, Pl 9 d → Q d M := fun d hd => kq _ _ _ (Sub.refl _) (k0 d hd)
  clear kq k0
  show q__law_any _ _ _ [some (.ref b), some (toldD ps (.xtp (rs.map rdD)) ss), some (.tup (es.map egD)), none, none, none, none] M
  refine seq_asg ?_
  simp only [toldD, gTupD, gConsD, gNilD, qVar, res_tup, List.length_cons, List.length_nil, true_and, gNameD, List.set_cons_zero, List.set_cons_succ, List.getElem?_cons_zero, List.getElem?_cons_succ]
  refine seq_asg ?_
  refine cc_lst <| cc <| cc <| cc <| cc <| cc <| cc <| cc <| cc <| cc <| cc_neg <| cc_x (S := fun d => ∃ i, d = .int i) (fun R hR => ?_) fun d1 hd1 => cc_p40 fun big => cc <| cc <| cc <| cc <| cc_l0 <| cc_t0 <| cc_l1 <| ⟨by simp only [List.length_cons, List.length_nil]; omega, ?_⟩
  · simp only [qSeq, qAsg, qTup, qCons, qNil, qOp, qUn, qC, qCall, qVar, qLst, newL_f, qIfS, qTB, qNext, qRet, qDrop, qFor, qCB, qAug, qSl, qPart, qNoPart, gNameD, gSub_eq, dInt_i, dInt0_i, dAdd_i, dCmpI_i, List.set_cons_zero, List.set_cons_succ, List.getElem?_cons_zero, List.getElem?_cons_succ, List.append_nil, z_l0, z_l1, z_l2, z_l3, z_l4, z_l5, z_l6, z_l7, z_l8, z_l9, z_l19, z_l24, z_l25, true_and, z_len_xtp, List.length_map]; exact hR _ ⟨_, rfl⟩
  obtain ⟨i1, rfl⟩ := hd1
  have pl1 : ∀ d ∈ [D.non, D.bl true, D.bl false, D.int 0, D.int 1, D.int 20, D.int 21, D.int 200, D.int 201, D.int (-1), D.int i1, D.int big, D.str (Str.ofString ""), D.str (Str.ofString "car"), D.str (Str.ofString "cars"), D.str (Str.ofString "call"), D.lst [], D.tup [], D.lst [D.int 1]], Pl 9 d := fun d hd => by
    simp only [List.mem_cons, List.not_mem_nil, or_false] at hd
    rcases hd with rfl | rfl | rfl | rfl | rfl | rfl | rfl | rfl | rfl | rfl | rfl | rfl | rfl | rfl | rfl | rfl | rfl | rfl | rfl
    · exact .non
    · exact .bl _
    · exact .bl _
    · exact .int _
    · exact .int _
    · exact .int _
    · exact .int _
    · exact .int _
    · exact .int _
    · exact .int _
    · exact .int _
    · exact .int _
    · exact .str (tx_of (by decide +kernel))
    · exact .str (tx_of (by decide +kernel))
    · exact .str (tx_of (by decide +kernel))
    · exact .str (tx_of (by decide +kernel))
    · exact pl_l0
    · exact pl_t0
    · exact pl_l1 (by decide) (.int _)
  have ln1 : [D.non, D.bl true, D.bl false, D.int 0, D.int 1, D.int 20, D.int 21, D.int 200, D.int 201, D.int (-1), D.int i1, D.int big, D.str (Str.ofString ""), D.str (Str.ofString "car"), D.str (Str.ofString "cars"), D.str (Str.ofString "call"), D.lst [], D.tup [], D.lst [D.int 1]].length = 19 := rfl
  simp only [gNameD, List.set_cons_zero, List.set_cons_succ]
  generalize [D.non, D.bl true, D.bl false, D.int 0, D.int 1, D.int 20, D.int 21, D.int 200, D.int 201, D.int (-1), D.int i1, D.int big, D.str (Str.ofString ""), D.str (Str.ofString "car"), D.str (Str.ofString "cars"), D.str (Str.ofString "call"), D.lst [], D.tup [], D.lst [D.int 1]] = L at pl1 ln1 ⊢
  refine seq_asg ?_
  refine op_var rfl ?_
  refine cc_lst <| cc_x (S := Pl 9) (fun R hR => ?_) fun d1 h1 => cc_x (S := Pl 9) (fun R hR => ?_) fun d2 h2 => cc_x (S := Pl 9) (fun R hR => ?_) fun d3 h3 => cc_x (S := Pl 9) (fun R hR => ?_) fun d4 h4 => cc <| cc <| ⟨by simp only [List.length_cons, List.length_nil]; omega, ?_⟩
  · simp only [qSeq, qAsg, qTup, qCons, qNil, qOp, qUn, qC, qCall, qVar, qLst, newL_f, qIfS, qTB, qNext, qRet, qDrop, qFor, qCB, qAug, qSl, qPart, qNoPart, gNameD, gSub_eq, dInt_i, dInt0_i, dAdd_i, dCmpI_i, List.set_cons_zero, List.set_cons_succ, List.getElem?_cons_zero, List.getElem?_cons_succ, List.append_nil, z_l0, z_l1, z_l2, z_l3, z_l4, z_l5, z_l6, z_l7, z_l8, z_l9, z_l19, z_l24, z_l25, true_and, newL_f]
    have hp : Pl 9 (.tup [.int 1, .lst [.int 2]]) := .tup (by decide) fun e he => by
      simp only [List.mem_cons, List.not_mem_nil, or_false] at he
      rcases he with rfl | rfl
      · exact .int _
      · exact pl_l1 (by decide) (.int _)
    first
      | exact hR _ hp
      | exact ⟨by decide, hR _ hp⟩
      | exact ⟨by decide, by decide, hR _ hp⟩
      | exact ⟨by simp, by simp, hR _ hp⟩
  · simp only [qSeq, qAsg, qTup, qCons, qNil, qOp, qUn, qC, qCall, qVar, qLst, newL_f, qIfS, qTB, qNext, qRet, qDrop, qFor, qCB, qAug, qSl, qPart, qNoPart, gNameD, gSub_eq, dInt_i, dInt0_i, dAdd_i, dCmpI_i, List.set_cons_zero, List.set_cons_succ, List.getElem?_cons_zero, List.getElem?_cons_succ, List.append_nil, z_l0, z_l1, z_l2, z_l3, z_l4, z_l5, z_l6, z_l7, z_l8, z_l9, z_l19, z_l24, z_l25, true_and, z_len_xtp, List.length_map]
    have lp : 0 < ps.length := List.length_pos_iff.mpr ok.p0
    have := ok.pl
    refine take_call hb (by omega) (by omega) fun r r0 r1 => ?_
    obtain ⟨y, ey, my⟩ := atI_ok (xs := ps.map plD) (i := r) (by omega) (by rw [List.length_map]; exact r1)
    obtain ⟨q, hq, rfl⟩ := List.mem_map.mp my
    rw [ix_x ey]
    simp only [plD, z_ix_t0]
    exact hR _ (.str ((ok.pt q hq).mono (by decide)))
  · obtain ⟨e, er, rfl⟩ := List.exists_cons_of_ne_nil ok.e0
    simp only [qSeq, qAsg, qTup, qCons, qNil, qOp, qUn, qC, qCall, qVar, qLst, newL_f, qIfS, qTB, qNext, qRet, qDrop, qFor, qCB, qAug, qSl, qPart, qNoPart, gNameD, gSub_eq, dInt_i, dInt0_i, dAdd_i, dCmpI_i, List.set_cons_zero, List.set_cons_succ, List.getElem?_cons_zero, List.getElem?_cons_succ, List.append_nil, z_l0, z_l1, z_l2, z_l3, z_l4, z_l5, z_l6, z_l7, z_l8, z_l9, z_l19, z_l24, z_l25, true_and, List.map_cons, egD, z_ix_t0]
    exact hR _ (.str ((ok.et e (List.mem_cons_self ..)).mono (by decide)))
  · simp only [qSeq, qAsg, qTup, qCons, qNil, qOp, qUn, qC, qCall, qVar, qLst, newL_f, qIfS, qTB, qNext, qRet, qDrop, qFor, qCB, qAug, qSl, qPart, qNoPart, gNameD, gSub_eq, dInt_i, dInt0_i, dAdd_i, dCmpI_i, List.set_cons_zero, List.set_cons_succ, List.getElem?_cons_zero, List.getElem?_cons_succ, List.append_nil, z_l0, z_l1, z_l2, z_l3, z_l4, z_l5, z_l6, z_l7, z_l8, z_l9, z_l19, z_l24, z_l25, true_and, z_neg]
    have lp : 0 < ss.length := List.length_pos_iff.mpr ok.s0
    obtain ⟨y, ey, my⟩ := atI_ok (xs := ss.map D.str) (i := -1) (by rw [List.length_map]; omega) (by rw [List.length_map]; omega)
    obtain ⟨z, hz, rfl⟩ := List.mem_map.mp my
    rw [ix_x ey]
    exact hR _ (.str ((ok.st z hz).mono (by decide)))
  · have pl2 : ∀ d ∈ [d1, d2, d3, d4, .str (Str.ofString "nothing"), .str (Str.ofString "Send")], Pl 9 d := fun d hd => by
      simp only [List.mem_cons, List.not_mem_nil, or_false] at hd
      rcases hd with rfl | rfl | rfl | rfl | rfl | rfl
      · exact h1
      · exact h2
      · exact h3
      · exact h4
      · exact .str (tx_of (by decide +kernel))
      · exact .str (tx_of (by decide +kernel))
    have ln2 : [d1, d2, d3, d4, .str (Str.ofString "nothing"), .str (Str.ofString "Send")].length = 6 := rfl
    generalize [d1, d2, d3, d4, .str (Str.ofString "nothing"), .str (Str.ofString "Send")] = L2 at pl2 ln2 ⊢
    refine (show _ ∧ _ from ⟨by omega, ?_⟩)
    simp only [gNameD, qSeq, qAsg, qTup, qCons, qNil, qOp, qUn, qC, qCall, qVar, qLst, newL_f, qIfS, qTB, qNext, qRet, qDrop, qFor, qCB, qAug, qSl, qPart, qNoPart, gNameD, gSub_eq, dInt_i, dInt0_i, dAdd_i, dCmpI_i, List.set_cons_zero, List.set_cons_succ, List.getElem?_cons_zero, List.getElem?_cons_succ, List.append_nil, z_l0, z_l1, z_l2, z_l3, z_l4, z_l5, z_l6, z_l7, z_l8, z_l9, z_l19, z_l24, z_l25, true_and]
    refine take_call hb (by decide) (by decide) fun r r0 r1 => pick_l r0 (by rw [List.length_append, ln1, ln2]; exact r1) fun d hd => k d ?_
    rcases List.mem_append.mp hd with hd | hd
    · exact pl1 d hd
    · exact pl2 d hd
def spHBent : DSp := fun ds M Q _ => ∃ (n : Nat) (b : Addr) (ps : List Row_) (rs : List Rd_) (ss : List Str) (es : List Eng) (xs : List D), ds = [.ref b, toldD ps (.xtp (rs.map rdD)) ss, .tup (es.map egD), .tup xs] ∧ M b = some .bag ∧ TheirsOk ps rs ss es ∧ xs ≠ [] ∧ 9 ≤ n ∧ n ≤ 1000 ∧ Pl n (.tup xs) ∧ ∀ d, Pl (n + 1) d → Q d M
theorem hbent_ok (ds : List D) (M : Mst) (Q : DK) (Ed : DX → Mst → Prop) (h : upSp spHBent ds M Q Ed) : q__law_bent spHAny spTake (fun x _ M => Ed x M) (retE Q) (startD N__law_bent ds) M := by
  obtain ⟨Q0, E0, ⟨n, b, ps, rs, ss, es, xs, rfl, hb, ok, x0, n9, n1, hx, k0⟩, kq, _⟩ := h
  have k : ∀ d, Pl (n + 1) d → Q d M := fun d hd => kq _ _ _ (Sub.refl _) (k0 d hd)
  clear kq k0
  obtain ⟨hl, hp⟩ := hx.tupI
  have lx : 0 < xs.length := List.length_pos_iff.mpr x0
  show q__law_bent _ _ _ _ [some (.ref b), some (toldD ps (.xtp (rs.map rdD)) ss), some (.tup (es.map egD)), some (.tup xs), none, none, none] M
  simp only [q__law_bent, qPar, z_len_tup, qSeq, qAsg, qTup, qCons, qNil, qOp, qUn, qC, qCall, qVar, qLst, newL_f, qIfS, qTB, qNext, qRet, qDrop, qFor, qCB, qAug, qSl, qPart, qNoPart, gNameD, gSub_eq, dInt_i, dInt0_i, dAdd_i, dCmpI_i, List.set_cons_zero, List.set_cons_succ, List.getElem?_cons_zero, List.getElem?_cons_succ, List.append_nil, z_l0, z_l1, z_l2, z_l3, z_l4, z_l5, z_l6, z_l7, z_l8, z_l9, z_l19, z_l24, z_l25, true_and]
  refine take_call hb (by decide) (by decide) fun way w0 w1 => take_call hb (by omega) (by omega) fun at_ a0 a1 => ?_
  obtain ⟨at_, rfl⟩ : ∃ j : Nat, at_ = (j : Int) := ⟨at_.toNat, by omega⟩
  simp only [qSeq, qAsg, qTup, qCons, qNil, qOp, qUn, qC, qCall, qVar, qLst, newL_f, qIfS, qTB, qNext, qRet, qDrop, qFor, qCB, qAug, qSl, qPart, qNoPart, gNameD, gSub_eq, dInt_i, dInt0_i, dAdd_i, dCmpI_i, List.set_cons_zero, List.set_cons_succ, List.getElem?_cons_zero, List.getElem?_cons_succ, List.append_nil, z_l0, z_l1, z_l2, z_l3, z_l4, z_l5, z_l6, z_l7, z_l8, z_l9, z_l19, z_l24, z_l25, true_and]
  refine ⟨b, ps, rs, ss, es, rfl, hb, ok, fun y hy => ?_⟩
  simp only [z_eq_int, qSeq, qAsg, qTup, qCons, qNil, qOp, qUn, qC, qCall, qVar, qLst, newL_f, qIfS, qTB, qNext, qRet, qDrop, qFor, qCB, qAug, qSl, qPart, qNoPart, gNameD, gSub_eq, dInt_i, dInt0_i, dAdd_i, dCmpI_i, List.set_cons_zero, List.set_cons_succ, List.getElem?_cons_zero, List.getElem?_cons_succ, List.append_nil, z_l0, z_l1, z_l2, z_l3, z_l4, z_l5, z_l6, z_l7, z_l8, z_l9, z_l19, z_l24, z_l25, true_and]
  by_cases h0 : way = 0
  · simp only [decide_eq_true h0, if_true, qSeq, qAsg, qTup, qCons, qNil, qOp, qUn, qC, qCall, qVar, qLst, newL_f, qIfS, qTB, qNext, qRet, qDrop, qFor, qCB, qAug, qSl, qPart, qNoPart, gNameD, gSub_eq, dInt_i, dInt0_i, dAdd_i, dCmpI_i, List.set_cons_zero, List.set_cons_succ, List.getElem?_cons_zero, List.getElem?_cons_succ, List.append_nil, z_l0, z_l1, z_l2, z_l3, z_l4, z_l5, z_l6, z_l7, z_l8, z_l9, z_l19, z_l24, z_l25, true_and, dSl, cut_to, cut_from1, z_add_tup]
    exact ⟨by simp; omega, k _ ((pl_cut hp hl (Nat.le_succ _)).mono (by omega))⟩
  simp only [decide_eq_false h0, Bool.false_eq_true, if_false, qSeq, qAsg, qTup, qCons, qNil, qOp, qUn, qC, qCall, qVar, qLst, newL_f, qIfS, qTB, qNext, qRet, qDrop, qFor, qCB, qAug, qSl, qPart, qNoPart, gNameD, gSub_eq, dInt_i, dInt0_i, dAdd_i, dCmpI_i, List.set_cons_zero, List.set_cons_succ, List.getElem?_cons_zero, List.getElem?_cons_succ, List.append_nil, z_l0, z_l1, z_l2, z_l3, z_l4, z_l5, z_l6, z_l7, z_l8, z_l9, z_l19, z_l24, z_l25, true_and]
  by_cases h1 : way = 1
  · simp only [decide_eq_true h1, if_true, qSeq, qAsg, qTup, qCons, qNil, qOp, qUn, qC, qCall, qVar, qLst, newL_f, qIfS, qTB, qNext, qRet, qDrop, qFor, qCB, qAug, qSl, qPart, qNoPart, gNameD, gSub_eq, dInt_i, dInt0_i, dAdd_i, dCmpI_i, List.set_cons_zero, List.set_cons_succ, List.getElem?_cons_zero, List.getElem?_cons_succ, List.append_nil, z_l0, z_l1, z_l2, z_l3, z_l4, z_l5, z_l6, z_l7, z_l8, z_l9, z_l19, z_l24, z_l25, true_and, dSl, cut_to, cut_from, z_add_tup]
    exact ⟨by simp; omega, by simp; omega, k _ (pl_mid hp hl (fun d hd => one_mem (hy.mono (by omega)) hd) (by simp) (Nat.le_refl _))⟩
  simp only [decide_eq_false h1, Bool.false_eq_true, if_false, qSeq, qAsg, qTup, qCons, qNil, qOp, qUn, qC, qCall, qVar, qLst, newL_f, qIfS, qTB, qNext, qRet, qDrop, qFor, qCB, qAug, qSl, qPart, qNoPart, gNameD, gSub_eq, dInt_i, dInt0_i, dAdd_i, dCmpI_i, List.set_cons_zero, List.set_cons_succ, List.getElem?_cons_zero, List.getElem?_cons_succ, List.append_nil, z_l0, z_l1, z_l2, z_l3, z_l4, z_l5, z_l6, z_l7, z_l8, z_l9, z_l19, z_l24, z_l25, true_and]
  by_cases h2 : way = 2
  · simp only [decide_eq_true h2, if_true, qSeq, qAsg, qTup, qCons, qNil, qOp, qUn, qC, qCall, qVar, qLst, newL_f, qIfS, qTB, qNext, qRet, qDrop, qFor, qCB, qAug, qSl, qPart, qNoPart, gNameD, gSub_eq, dInt_i, dInt0_i, dAdd_i, dCmpI_i, List.set_cons_zero, List.set_cons_succ, List.getElem?_cons_zero, List.getElem?_cons_succ, List.append_nil, z_l0, z_l1, z_l2, z_l3, z_l4, z_l5, z_l6, z_l7, z_l8, z_l9, z_l19, z_l24, z_l25, true_and, dList, res_tup, newL_f]
    refine take_call hb (by decide) (by decide) fun r r0 r1 => pick_l r0 (by simpa using r1) fun d hd => k d ?_
    simp only [List.mem_cons, List.not_mem_nil, or_false] at hd
    rcases hd with rfl | rfl
    · exact .lst (by omega) fun d hd => (hp d hd).mono (by omega)
    · exact hy.mono (by omega)
  simp only [decide_eq_false h2, Bool.false_eq_true, if_false, qSeq, qAsg, qTup, qCons, qNil, qOp, qUn, qC, qCall, qVar, qLst, newL_f, qIfS, qTB, qNext, qRet, qDrop, qFor, qCB, qAug, qSl, qPart, qNoPart, gNameD, gSub_eq, dInt_i, dInt0_i, dAdd_i, dCmpI_i, List.set_cons_zero, List.set_cons_succ, List.getElem?_cons_zero, List.getElem?_cons_succ, List.append_nil, z_l0, z_l1, z_l2, z_l3, z_l4, z_l5, z_l6, z_l7, z_l8, z_l9, z_l19, z_l24, z_l25, true_and, dSl, cut_to, cut_from1, z_add_tup]
  exact ⟨by simp; omega, by simp; omega, k _ (pl_mid hp hl (fun d hd => one_mem (hy.mono (by omega)) hd) (by simp) (Nat.le_succ _))⟩
def rightD (p e z : Str) : List (Key × D) := [(.inr (lit "l"), .str p), (.inr (lit "k"), .str (lit "house")), (.inr (lit "c"), .int 1), (.inr (lit "p"), .int 1), (.inr (lit "e"), .str e), (.inr (lit "s"), .str z), (.inr (lit "r"), .int 0)]
def qLRight : DTE := (qFrzE (qDisp [((qC (.str (PySem.Str.ofString "l"))), (qOp dIx (qOp dIx (qOp dIx (qVar 0) (qC (.int 0))) (qC (.int 0))) (qC (.int 0)))), ((qC (.str (PySem.Str.ofString "k"))), (qC (.str (PySem.Str.ofString "house")))), ((qC (.str (PySem.Str.ofString "c"))), (qC (.int 1))), ((qC (.str (PySem.Str.ofString "p"))), (qC (.int 1))), ((qC (.str (PySem.Str.ofString "e"))), (qOp dIx (qOp dIx (qVar 1) (qC (.int 0))) (qC (.int 0)))), ((qC (.str (PySem.Str.ofString "s"))), (qOp dIx (qOp dIx (qVar 0) (qC (.int 2))) (qC (.int 0)))), ((qC (.str (PySem.Str.ofString "r"))), (qC (.int 0)))]))
def frzJ (Q : DK) : DK := fun d M1 => match d with
  | .ref a => match M1 a with
    | some (.lst ds) => Q (.lst ds) (del M1 a)
    | some (.dK kvs) => Q (.dct (kvs.map (·.1)) (kvs.map (·.2))) (del M1 a)
    | some (.ins C fs) => Q (.ins C (fs.map (·.1)) (fs.map (·.2))) (del M1 a)
    | _ => False
  | d => Q d M1
def dispJ (a : Addr) (Q : DK) : List (D × D) → Mst → Prop := fun ps M2 => M2 a = some (.dK []) ∧ match pairsK ps with
  | some kvs => kvs.length ≤ 15 ∧ Q (.ref a) (put M2 a (.dK (putAllD [] kvs)))
  | none => False
section
variable {DW : DWt} {p : Rho} {M : Mst} {Q : DK} {a : Addr} {kvs : List (Key × D)} {ps : List (D × D)} {rs : List (DTE × DTE)} {QA : List (D × D) → Mst → Prop}
theorem frzJ_eq {q : DTE} : qFrzE q DW p M Q = q DW p M (frzJ Q) := rfl
theorem dispJ_eq : qDisp rs DW p M Q = ∀ a, M a = none → qPairs rs DW p (put M a (.dK [])) (dispJ a Q) := rfl
theorem dispJ_ok (hps : pairsK ps = some kvs) (hl : kvs.length ≤ 15) (k : Q (.ref a) (put M a (.dK (putAllD [] kvs)))) : dispJ a Q ps (put M a (.dK [])) := by
  unfold dispJ
  rw [hps]
  exact ⟨put_same, hl, by rw [put_put]; exact k⟩
theorem frzJ_dK (ha : M a = none) (k : Q (.dct (kvs.map (·.1)) (kvs.map (·.2))) M) : frzJ Q (.ref a) (put M a (.dK kvs)) := by
  unfold frzJ
  simp only [put_same, del_put ha]
  exact k
theorem pp_c {k d : D} (h : qPairs rs DW p M fun ps M => QA ((k, d) :: ps) M) : qPairs ((qC k, qC d) :: rs) DW p M QA := h
theorem pp_n {QA : List (D × D) → Mst → Prop} (h : QA [] M) : qPairs [] DW p M QA := h
theorem pp_x {k : D} {q : DTE} (d : D) (hq : ∀ R : DK, R d M → q DW p M R) (h : qPairs rs DW p M fun ps M => QA ((k, d) :: ps) M) : qPairs ((qC k, q) :: rs) DW p M QA := hq _ h
end
theorem lright_ok {DW : DWt} {p : Rho} {M : Mst} {Q : DK} {ps : List Row_} {r : D} {ss : List Str} {es : List Eng} {q : Row_} {e : Eng} {z : Str} (h0 : p[0]? = some (some (toldD (q :: ps) r (z :: ss)))) (h1 : p[1]? = some (some (.tup ((e :: es).map egD)))) (k : Q (.dct ((rightD q.1 e.1 z).map (·.1)) ((rightD q.1 e.1 z).map (·.2))) M) : qLRight DW p M Q := by
  have x0 : ∀ (l : List D) (y : D) M Q, dIx (.xtp (y :: l)) (.int 0) M Q = Q y M := fun l y M Q => ix_x atI_0
  have e9 : putAllD [] (rightD q.1 e.1 z) = rightD q.1 e.1 z := putAll_nd _ [] (by show [(Sum.inr (lit "l") : Key), .inr (lit "k"), .inr (lit "c"), .inr (lit "p"), .inr (lit "e"), .inr (lit "s"), .inr (lit "r")].Nodup; decide +kernel)
  rw [qLRight, frzJ_eq, dispJ_eq]
  intro a ha
  refine pp_x (.str q.1) (fun R hR => ?_) <| pp_c <| pp_c <| pp_c <| pp_x (.str e.1) (fun R hR => ?_) <| pp_x (.str z) (fun R hR => ?_) <| pp_c <| pp_n <| dispJ_ok (kvs := rightD q.1 e.1 z) rfl (show 7 ≤ 15 by decide) ?_
  · simp only [qSeq, qAsg, qTup, qCons, qNil, qOp, qUn, qC, qCall, qVar, qLst, newL_f, qIfS, qTB, qNext, qRet, qDrop, qFor, qCB, qAug, qSl, qPart, qNoPart, gNameD, gSub_eq, dInt_i, dInt0_i, dAdd_i, dCmpI_i, List.set_cons_zero, List.set_cons_succ, List.getElem?_cons_zero, List.getElem?_cons_succ, List.append_nil, z_l0, z_l1, z_l2, z_l3, z_l4, z_l5, z_l6, z_l7, z_l8, z_l9, z_l19, z_l24, z_l25, true_and, h0, toldD, List.map_cons, z_ix_t0, x0, plD]; exact hR
  · simp only [qSeq, qAsg, qTup, qCons, qNil, qOp, qUn, qC, qCall, qVar, qLst, newL_f, qIfS, qTB, qNext, qRet, qDrop, qFor, qCB, qAug, qSl, qPart, qNoPart, gNameD, gSub_eq, dInt_i, dInt0_i, dAdd_i, dCmpI_i, List.set_cons_zero, List.set_cons_succ, List.getElem?_cons_zero, List.getElem?_cons_succ, List.append_nil, z_l0, z_l1, z_l2, z_l3, z_l4, z_l5, z_l6, z_l7, z_l8, z_l9, z_l19, z_l24, z_l25, true_and, h1, List.map_cons, z_ix_t0, egD]; exact hR
  · simp only [qSeq, qAsg, qTup, qCons, qNil, qOp, qUn, qC, qCall, qVar, qLst, newL_f, qIfS, qTB, qNext, qRet, qDrop, qFor, qCB, qAug, qSl, qPart, qNoPart, gNameD, gSub_eq, dInt_i, dInt0_i, dAdd_i, dCmpI_i, List.set_cons_zero, List.set_cons_succ, List.getElem?_cons_zero, List.getElem?_cons_succ, List.append_nil, z_l0, z_l1, z_l2, z_l3, z_l4, z_l5, z_l6, z_l7, z_l8, z_l9, z_l19, z_l24, z_l25, true_and, h0, toldD, List.map_cons, z_ix_t2, x0]; exact hR
  · rw [e9]; exact frzJ_dK ha k
def eachW : List (Str × Str) := [(lit "call", lit "lk"), (lit "again", lit "c"), (lit "make", lit "cp"), (lit "send", lit "ec"), (lit "stand", lit "es"), (lit "lend", lit "es"), (lit "shut", lit "r"), (lit "stop", lit "c"), (lit "there", lit "e"), (lit "clear", lit "r"), (lit "nothing", lit "")]
def eachD : List (Key × D) := eachW.map fun q => (.inr q.1, .str q.2)
theorem ix_lk' {M : Mst} {a : Addr} {ho : HO} {kvs : List (Key × D)} {x : Str} {d : D} {Q : DK} (hm : M a = some (.lk ho kvs)) (h : valD kvs (Sum.inr x) = some d) : dIx (.ref a) (.str x) M Q = Q d M := by
  have hd : dgetD M (.ref a) (.str x) = some (some d) := by simp only [dgetD, hm, keyD, Option.map_some, h]
  unfold dIx
  rw [hd]
theorem seq_drop {qe : DTE} {q2 : DTS} {DW : DWt} {DE : DEnds} {p : Rho} {M : Mst} (h : qe DW p M fun _ M1 => q2 DW DE p M1) : qSeq (qDrop qe) q2 DW DE p M := h
theorem bmd_ok {m : DMt} {i : Nat} {qa : DTA} {DW : DWt} {p : Rho} {M : Mst} {Q : DK} {a : Addr} {kvs : List (Key × D)} (h4 : p[i]? = some (some (.ref a))) (hm : M a = some (.dK kvs)) (k : qa DW p M fun ds M2 => m (.ref a) ds M2 Q) : qBMD m (qVar i) qa DW p M Q := by
  simp only [qBMD, qVar, h4]; exact ⟨⟨a, kvs, rfl, hm⟩, k⟩
theorem cc_nil {DW : DWt} {p : Rho} {M : Mst} {QA : List D → Mst → Prop} (h : QA [] M) : qNil DW p M QA := h
theorem upd_ok {a : Addr} {kvs : List (Key × D)} {ks : List Key} {es : List D} {M : Mst} {Q : DK} (hm : M a = some (.dK kvs)) (hl : kvs.length + ks.length ≤ 100000) (k : Q .non (put M a (.dK (putAllD kvs (ks.zip es))))) : mUpdD (.ref a) [.dct ks es] M Q := by
  unfold mUpdD
  simp only [hm]
  exact ⟨hl, k⟩
theorem add_lst {x y : List D} {M : Mst} {Q : DK} : dAdd false (.lst x) (.lst y) M Q = (x.length + y.length ≤ 100000 ∧ Q (.lst (x ++ y)) M) := rfl
theorem valD_mem {k : Key} : ∀ {kvs : List (Key × D)}, k ∈ kvs.map (·.1) → ∃ v, valD kvs k = some v ∧ (k, v) ∈ kvs
  | [], h => nomatch h
  | (k', v) :: l, h => by
    by_cases e : k' = k
    · subst e; exact ⟨v, valD_hd, List.mem_cons_self ..⟩
    · rw [List.map_cons, List.mem_cons] at h
      obtain ⟨u, h1, h2⟩ := valD_mem (h.resolve_left fun h => e h.symm)
      exact ⟨u, (valD_tl e).trans h1, List.mem_cons_of_mem _ h2⟩
theorem each_letters : ∀ q ∈ eachW, q.2.length ≤ 2 ∧ ∀ c ∈ q.2.cps.toList, (⟨#[c]⟩ : Str) ∈ [lit "l", lit "k", lit "c", lit "p", lit "e", lit "s", lit "r"] := by decide +kernel
theorem each_nd : (eachD.map (·.1)).Nodup := by show (eachW.map fun q => (Sum.inr q.1 : Key)).Nodup; decide +kernel
theorem each_tx : ∀ q ∈ eachW, txB 9 q.1 = true := by decide +kernel
/-- what stands for a letter -/
def rvD (R : List (Key × D)) (d : D) : D := match d with
  | .str z => (valD R (.inr z)).getD .non
  | _ => .non
theorem right_pl {p e z : Str} (hp : Tx_ 8 p) (he : Tx_ 8 e) (hz : Tx_ 8 z) : ∀ q ∈ rightD p e z, Pl 9 q.2 := fun q hq => by
  simp only [rightD, List.mem_cons, List.not_mem_nil, or_false] at hq
  rcases hq with rfl | rfl | rfl | rfl | rfl | rfl | rfl
  · exact .str (hp.mono (by decide))
  · exact .str (tx_of (by decide +kernel))
  · exact .int _
  · exact .int _
  · exact .str (he.mono (by decide))
  · exact .str (hz.mono (by decide))
  · exact .int _
theorem right_val {p e z : Str} (hp : Tx_ 8 p) (he : Tx_ 8 e) (hz : Tx_ 8 z) {x : Str} (h : x ∈ [lit "l", lit "k", lit "c", lit "p", lit "e", lit "s", lit "r"]) : valD (rightD p e z) (.inr x) = some (rvD (rightD p e z) (.str x)) ∧ Pl 9 (rvD (rightD p e z) (.str x)) := by
  obtain ⟨v, h1, h2⟩ := valD_mem (k := .inr x) (kvs := rightD p e z) (show (Sum.inr x : Key) ∈ [lit "l", lit "k", lit "c", lit "p", lit "e", lit "s", lit "r"].map Sum.inr from List.mem_map_of_mem h)
  have e1 : rvD (rightD p e z) (.str x) = v := by show (valD (rightD p e z) (.inr x)).getD .non = v; rw [h1]; rfl
  rw [e1]
  exact ⟨h1, right_pl hp he hz _ h2⟩
def spHEach (c : Addr) : DSp := fun ds M Q _ => ∃ (ps : List Row_) (rs : List Rd_) (r : D) (ss : List Str) (es : List Eng), ds = [toldD ps r ss, .tup (es.map egD), gndD c ps r ss] ∧ Tpl (rs.map rdD) r ∧ TheirsOk ps rs ss es ∧ Q (.bl true) M
theorem heach_ok (c : Addr) (ds : List D) (M : Mst) (Q : DK) (Ed : DX → Mst → Prop) (h : upSp (spHEach c) ds M Q Ed) : q__law_each spLDueF (spLike 1) (spFault c) (fun x _ M => Ed x M) (retE Q) (startD N__law_each ds) M := by
  obtain ⟨Q0, E0, ⟨ps, rs, r, ss, es, rfl, hr, ok, k0⟩, kq, _⟩ := h
  have k : ∀ M', Sub M M' → Q (.bl true) M' := fun M' S => kq _ _ _ S k0
  clear kq k0
  obtain ⟨q, ps', ep⟩ := List.exists_cons_of_ne_nil ok.p0
  obtain ⟨z, ss', ez⟩ := List.exists_cons_of_ne_nil ok.s0
  obtain ⟨e, es', ee⟩ := List.exists_cons_of_ne_nil ok.e0
  show (qSeq (qAsg qLRight (gNameD 3)) _) _ _ [some (toldD ps r ss), some (.tup (es.map egD)), some (gndD c ps r ss), none, none, none, none, none, none, none, none, none, none, none, none] M
  refine seq_asg (lright_ok (by rw [ep, ez]; rfl) (by rw [ee]; rfl) ?_)
  generalize hRD : D.dct ((rightD q.1 e.1 z).map (·.1)) ((rightD q.1 e.1 z).map (·.2)) = RD
  simp only [gNameD, List.set_cons_zero, List.set_cons_succ]
  refine seq_asg ?_
  rw [dispJ_eq]
  intro a ha
  have e7 : putAllD [] ((eachW.take 7).map fun q => ((.inr q.1 : Key), D.str q.2)) = (eachW.take 7).map fun q => ((.inr q.1 : Key), D.str q.2) := putAll_nd _ [] (by show ((eachW.take 7).map fun q => (Sum.inr q.1 : Key)).Nodup; decide +kernel)
  refine pp_c <| pp_c <| pp_c <| pp_c <| pp_c <| pp_c <| pp_c <| pp_n <| dispJ_ok (kvs := (eachW.take 7).map fun q => ((.inr q.1 : Key), D.str q.2)) rfl (show 7 ≤ 15 by decide) ?_
  rw [e7]
  simp only [gNameD, List.set_cons_zero, List.set_cons_succ]
  refine seq_drop (bmd_ok rfl put_same ?_)
  have e4 : putAllD [] ((eachW.drop 7).map fun q => ((.inr q.1 : Key), D.str q.2)) = (eachW.drop 7).map fun q => ((.inr q.1 : Key), D.str q.2) := putAll_nd _ [] (by show ((eachW.drop 7).map fun q => (Sum.inr q.1 : Key)).Nodup; decide +kernel)
  have e11 : putAllD ((eachW.take 7).map fun q => ((.inr q.1 : Key), D.str q.2)) ((eachW.drop 7).map fun q => ((.inr q.1 : Key), D.str q.2)) = eachD := putAll_nd _ _ each_nd
  refine cc_x (S := fun d => d = .dct (((eachW.drop 7).map fun q => ((.inr q.1 : Key), D.str q.2)).map (·.1)) (((eachW.drop 7).map fun q => ((.inr q.1 : Key), D.str q.2)).map (·.2))) (fun R hR => ?_) fun d hd => ?_
  · rw [frzJ_eq, dispJ_eq]
    intro b hb
    refine pp_c <| pp_c <| pp_c <| pp_c <| pp_n <| dispJ_ok (kvs := (eachW.drop 7).map fun q => ((.inr q.1 : Key), D.str q.2)) rfl (show 4 ≤ 15 by decide) ?_
    rw [e4]
    exact frzJ_dK hb (hR _ rfl)
  subst hd
  refine cc_nil (upd_ok put_same (show 7 + 4 ≤ 100000 by decide) ?_)
  rw [put_put, zip_split, e11]
  obtain ⟨MM, hMM⟩ : ∃ MM, MM = put M a (.dK eachD) := ⟨_, rfl⟩
  have ha4 : MM a = some (.dK eachD) := by rw [hMM]; exact put_same
  have k : Q (.bl true) MM := k _ (by rw [hMM]; exact (Sub.refl M).put ha)
  rw [← hMM]
  clear hMM e7 e4 e11
  refine seq_asg ?_
  refine cc_lst <| cc <| cc <| cc <| cc <| cc <| cc <| cc_neg <| cc_x (S := fun d => ∃ i, d = .int i) (fun R hR => ?_) fun d1 hd1 => cc_x (S := fun d => ∃ i, d = .int i) (fun R hR => ?_) fun d2 hd2 => cc <| cc <| cc <| cc <| ⟨by simp only [List.length_cons, List.length_nil]; omega, ?_⟩
  · simp only [qSeq, qAsg, qTup, qCons, qNil, qOp, qUn, qC, qCall, qVar, qLst, newL_f, qIfS, qTB, qNext, qRet, qDrop, qFor, qCB, qAug, qSl, qPart, qNoPart, gNameD, gSub_eq, dInt_i, dInt0_i, dAdd_i, dCmpI_i, List.set_cons_zero, List.set_cons_succ, List.getElem?_cons_zero, List.getElem?_cons_succ, List.append_nil, z_l0, z_l1, z_l2, z_l3, z_l4, z_l5, z_l6, z_l7, z_l8, z_l9, z_l19, z_l24, z_l25, true_and, toldD, z_ix_t1, len_tpl hr]; exact hR _ ⟨_, rfl⟩
  · simp only [qSeq, qAsg, qTup, qCons, qNil, qOp, qUn, qC, qCall, qVar, qLst, newL_f, qIfS, qTB, qNext, qRet, qDrop, qFor, qCB, qAug, qSl, qPart, qNoPart, gNameD, gSub_eq, dInt_i, dInt0_i, dAdd_i, dCmpI_i, List.set_cons_zero, List.set_cons_succ, List.getElem?_cons_zero, List.getElem?_cons_succ, List.append_nil, z_l0, z_l1, z_l2, z_l3, z_l4, z_l5, z_l6, z_l7, z_l8, z_l9, z_l19, z_l24, z_l25, true_and, toldD, z_ix_t1, len_tpl hr]; exact hR _ ⟨_, rfl⟩
  obtain ⟨i1, rfl⟩ := hd1
  obtain ⟨i2, rfl⟩ := hd2
  have pl1 : ∀ d ∈ [D.int 0, D.int 1, D.int 20, D.int 21, D.int 200, D.int 201, D.int (-1), D.int i1, D.int i2, D.bl true, D.str (Str.ofString "house"), D.str (Str.ofString "car"), D.str (Str.ofString "none")], Pl 9 d := fun d hd => by
    simp only [List.mem_cons, List.not_mem_nil, or_false] at hd
    rcases hd with rfl | rfl | rfl | rfl | rfl | rfl | rfl | rfl | rfl | rfl | rfl | rfl | rfl
    · exact .int _
    · exact .int _
    · exact .int _
    · exact .int _
    · exact .int _
    · exact .int _
    · exact .int _
    · exact .int _
    · exact .int _
    · exact .bl _
    · exact .str (tx_of (by decide +kernel))
    · exact .str (tx_of (by decide +kernel))
    · exact .str (tx_of (by decide +kernel))
  have ln1 : [D.int 0, D.int 1, D.int 20, D.int 21, D.int 200, D.int 201, D.int (-1), D.int i1, D.int i2, D.bl true, D.str (Str.ofString "house"), D.str (Str.ofString "car"), D.str (Str.ofString "none")].length = 13 := rfl
  simp only [gNameD, List.set_cons_zero, List.set_cons_succ]
  generalize [D.int 0, D.int 1, D.int 20, D.int 21, D.int 200, D.int 201, D.int (-1), D.int i1, D.int i2, D.bl true, D.str (Str.ofString "house"), D.str (Str.ofString "car"), D.str (Str.ofString "none")] = L at pl1 ln1 ⊢
  refine seq_asg ?_
  simp only [qLc, qiAny, toldD, z_ix_t0, qSeq, qAsg, qTup, qCons, qNil, qOp, qUn, qC, qCall, qVar, qLst, newL_f, qIfS, qTB, qNext, qRet, qDrop, qFor, qCB, qAug, qSl, qPart, qNoPart, gNameD, gSub_eq, dInt_i, dInt0_i, dAdd_i, dCmpI_i, List.set_cons_zero, List.set_cons_succ, List.getElem?_cons_zero, List.getElem?_cons_succ, List.append_nil, z_l0, z_l1, z_l2, z_l3, z_l4, z_l5, z_l6, z_l7, z_l8, z_l9, z_l19, z_l24, z_l25, true_and]
  intro a1 ha1
  refine compL_map ha1 (fun d => some (.str (nameOf d))) (fun _ => trivial) (by rw [List.length_map]; have := ok.pl; omega) (fun d hd acc R hR => ?_) ?_
  · obtain ⟨q, _, rfl⟩ := List.mem_map.mp hd
    refine ⟨rfl, ?_⟩
    simp only [gConsD, gNilD, gNameD, wipeD, qYes, if_true, qVar, List.foldl, List.set_cons_zero, List.set_cons_succ, List.getElem?_cons_zero, List.getElem?_cons_succ]
    exact ⟨trivial, hR⟩
  have em : (ps.map plD).filterMap (fun d => some (D.str (nameOf d))) = (ps.map (·.1)).map D.str := by
    rw [List.filterMap_eq_map', List.map_map, List.map_map]; rfl
  simp only [Bool.false_eq_true, if_false, em, add_lst]
  refine ⟨by have := ok.pl; simp; omega, ?_⟩
  intro a2 ha2
  refine lcN ha2 (fun _ => trivial) (by rw [List.length_map]; have := ok.el; omega) (fun d => .str (nameOf d)) (fun d hd M' R S hR => ?_) ?_
  · obtain ⟨q, _, rfl⟩ := List.mem_map.mp hd
    simp only [wipeD, qSeq, qAsg, qTup, qCons, qNil, qOp, qUn, qC, qCall, qVar, qLst, newL_f, qIfS, qTB, qNext, qRet, qDrop, qFor, qCB, qAug, qSl, qPart, qNoPart, gNameD, gSub_eq, dInt_i, dInt0_i, dAdd_i, dCmpI_i, List.set_cons_zero, List.set_cons_succ, List.getElem?_cons_zero, List.getElem?_cons_succ, List.append_nil, z_l0, z_l1, z_l2, z_l3, z_l4, z_l5, z_l6, z_l7, z_l8, z_l9, z_l19, z_l24, z_l25, true_and, egD, z_ix_t0]
    exact hR
  have em2 : (es.map egD).map (fun d => D.str (nameOf d)) = (es.map (·.1)).map D.str := by rw [List.map_map, List.map_map]; rfl
  rw [em2, add_lst]
  refine ⟨by have := ok.pl; have := ok.el; simp; omega, ?_⟩
  have pl3 : ∀ d ∈ L ++ (ps.map (·.1)).map D.str ++ (es.map (·.1)).map D.str, Pl 9 d := fun d hd => by
    rcases List.mem_append.mp hd with hd | hd
    · rcases List.mem_append.mp hd with hd | hd
      · exact pl1 d hd
      · obtain ⟨y, hy, rfl⟩ := List.mem_map.mp hd
        obtain ⟨q, hq, rfl⟩ := List.mem_map.mp hy
        exact .str ((ok.pt q hq).mono (by decide))
    · obtain ⟨y, hy, rfl⟩ := List.mem_map.mp hd
      obtain ⟨q, hq, rfl⟩ := List.mem_map.mp hy
      exact .str ((ok.et q hq).mono (by decide))
  generalize L ++ (ps.map (·.1)).map D.str ++ (es.map (·.1)).map D.str = L3 at pl3 ⊢
  simp only [qLock, selN, ha4, List.getElem?_cons_zero, List.getElem?_cons_succ]
  intro ho
  obtain ⟨ML, hML⟩ : ∃ ML, ML = put MM a (.lk ho eachD) := ⟨_, rfl⟩
  have hal : ML a = some (.lk ho eachD) := by rw [hML]; exact put_same
  have kl : Q (.bl true) (put ML a (.dK eachD)) := by
    rw [hML, put_put]
    have : put MM a (.dK eachD) = MM := by
      funext b
      by_cases e : b = a
      · subst e; rw [put_same, ha4]
      · rw [put_ne e]
    rw [this]; exact k
  rw [← hML]
  clear hML
  simp only [qFor, qiKeys, hal, qVar, List.getElem?_cons_zero, List.getElem?_cons_succ]
  refine loopL_inv (fun i p M' => ∃ (q6 q7 q8 q9 q10 : Option D), p = [some (.tup [.xtp (ps.map plD), r, .xtp (ss.map .str)]), some (.tup (es.map egD)), some (gndD c ps r ss), some RD, some (.ref a), some (.lst L3), q6, q7, q8, q9, q10, none, none, none, none] ∧ M' = ML) (n := eachW.length) rfl (fun i d p M' R hd' hI hR => ?_) (fun p M' hI => ?_)
    ⟨none, none, none, none, none, rfl, rfl⟩
  rotate_left
  · obtain ⟨q6, q7, q8, q9, q10, rfl, rfl⟩ := hI
    exact ⟨hal, hal, kl⟩
  obtain ⟨q6, q7, q8, q9, q10, rfl, rfl⟩ := hI
  obtain ⟨w, t, hw, rfl⟩ : ∃ w t, (w, t) ∈ eachW ∧ d = .str w := by
    rw [List.getElem?_map] at hd'
    obtain ⟨kv, h1, rfl⟩ := Option.map_eq_some_iff.mp hd'
    obtain ⟨q, hq, rfl⟩ := List.mem_map.mp (List.mem_of_getElem? h1)
    exact ⟨q.1, q.2, hq, rfl⟩
  refine ⟨hal, ?_⟩
  simp only [gNameD, List.set_cons_zero, List.set_cons_succ]
  refine seq_asg ?_
  obtain ⟨t, ht, hv⟩ : ∃ t, (w, t) ∈ eachW ∧ valD eachD (.inr w) = some (.str t) := by
    obtain ⟨v, h1, h2⟩ := valD_mem (k := .inr w) (kvs := eachD) (by show (Sum.inr w : Key) ∈ (eachW.map fun q => ((Sum.inr q.1 : Key), D.str q.2)).map (·.1); rw [List.map_map]; exact List.mem_map_of_mem (f := fun q : Str × Str => (Sum.inr q.1 : Key)) hw)
    obtain ⟨q, hq, e1⟩ := List.mem_map.mp h2
    have e2 : q.1 = w := Sum.inr.inj (Prod.mk.inj e1).1
    have e3 : D.str q.2 = v := (Prod.mk.inj e1).2
    exact ⟨q.2, by rw [← e2]; exact hq, by rw [e3]; exact h1⟩
  obtain ⟨tl, tc⟩ := each_letters _ ht
  have tz : Tx_ 8 z := ok.st z (by rw [ez]; exact List.mem_cons_self ..)
  have tq : Tx_ 8 q.1 := ok.pt q (by rw [ep]; exact List.mem_cons_self ..)
  have te : Tx_ 8 e.1 := ok.et e (by rw [ee]; exact List.mem_cons_self ..)
  simp only [qLc, qiAny, ix_lk' hal hv, qSeq, qAsg, qTup, qCons, qNil, qOp, qUn, qC, qCall, qVar, qLst, newL_f, qIfS, qTB, qNext, qRet, qDrop, qFor, qCB, qAug, qSl, qPart, qNoPart, gNameD, gSub_eq, dInt_i, dInt0_i, dAdd_i, dCmpI_i, List.set_cons_zero, List.set_cons_succ, List.getElem?_cons_zero, List.getElem?_cons_succ, List.append_nil, z_l0, z_l1, z_l2, z_l3, z_l4, z_l5, z_l6, z_l7, z_l8, z_l9, z_l19, z_l24, z_l25, true_and]
  intro b hb
  refine lcN hb (fun _ => trivial) (by simp only [signs, List.length_map]; have : t.cps.toList.length ≤ 2 := tl; omega) (rvD (rightD q.1 e.1 z)) (fun d hd M2 R2 S hR2 => ?_) ?_
  · obtain ⟨ch, hc, rfl⟩ := List.mem_map.mp hd
    simp only [wipeD, qSeq, qAsg, qTup, qCons, qNil, qOp, qUn, qC, qCall, qVar, qLst, newL_f, qIfS, qTB, qNext, qRet, qDrop, qFor, qCB, qAug, qSl, qPart, qNoPart, gNameD, gSub_eq, dInt_i, dInt0_i, dAdd_i, dCmpI_i, List.set_cons_zero, List.set_cons_succ, List.getElem?_cons_zero, List.getElem?_cons_succ, List.append_nil, z_l0, z_l1, z_l2, z_l3, z_l4, z_l5, z_l6, z_l7, z_l8, z_l9, z_l19, z_l24, z_l25, true_and]
    rw [← hRD, ix_dct' (by rw [zip_split]; exact (right_val tq te tz (tc ch hc)).1)]
    exact hR2
  have pld : ∀ d ∈ (D.str w) :: (signs t).map (rvD (rightD q.1 e.1 z)), Pl 9 d := fun d hd => by
    rcases List.mem_cons.mp hd with rfl | hd
    · exact .str (tx_of (each_tx _ hw))
    · obtain ⟨d', hd', rfl⟩ := List.mem_map.mp hd
      obtain ⟨ch, hc, rfl⟩ := List.mem_map.mp hd'
      exact (right_val tq te tz (tc ch hc)).2
  have ldd : ((D.str w) :: (signs t).map (rvD (rightD q.1 e.1 z))).length ≤ 3 := by
    simp only [List.length_cons, List.length_map, signs]
    have : t.cps.toList.length ≤ 2 := tl
    omega
  simp only [dTuple, res, z_add_tup, List.cons_append, List.nil_append]
  refine ⟨by simp only [List.length_cons, List.length_nil, List.length_map] at ldd ⊢; omega, ?_⟩
  generalize (D.str w) :: (signs t).map (rvD (rightD q.1 e.1 z)) = deed at pld ldd ⊢
  simp only [qFor, qiRng2, z_len_tup, qSeq, qAsg, qTup, qCons, qNil, qOp, qUn, qC, qCall, qVar, qLst, newL_f, qIfS, qTB, qNext, qRet, qDrop, qFor, qCB, qAug, qSl, qPart, qNoPart, gNameD, gSub_eq, dInt_i, dInt0_i, dAdd_i, dCmpI_i, List.set_cons_zero, List.set_cons_succ, List.getElem?_cons_zero, List.getElem?_cons_succ, List.append_nil, z_l0, z_l1, z_l2, z_l3, z_l4, z_l5, z_l6, z_l7, z_l8, z_l9, z_l19, z_l24, z_l25, true_and]
  refine ⟨⟨by decide, by decide, by omega, by omega⟩, by omega, ?_⟩
  refine loopL_inv (fun i p M2 => ∃ (q8 q9 q10 : Option D), p = [some (.tup [.xtp (ps.map plD), r, .xtp (ss.map .str)]), some (.tup (es.map egD)), some (gndD c ps r ss), some RD, some (.ref a), some (.lst L3), some (.str w), some (.tup deed), q8, q9, q10, none, none, none, none] ∧ M2 = M') (n := ((deed.length : Int) - 1).toNat) (by simp [rangeD]) (fun i2 d2 p M2 R2 hd2 hI2 hR2 => ?_) (fun p M2 hI2 => ?_)
    ⟨_, _, _, rfl, rfl⟩
  rotate_left
  · obtain ⟨q8, q9, q10, rfl, rfl⟩ := hI2
    exact ⟨trivial, hR _ _ ⟨_, _, _, _, _, rfl, rfl⟩⟩
  obtain ⟨q8, q9, q10, rfl, rfl⟩ := hI2
  obtain ⟨hi2, rfl⟩ := rangeL_at hd2
  refine ⟨trivial, ?_⟩
  obtain ⟨at_, eat⟩ : ∃ at_ : Nat, (1 : Int) + (i2 : Int) = (at_ : Int) := ⟨1 + i2, by omega⟩
  rw [eat]
  simp only [gNameD, List.set_cons_zero, List.set_cons_succ, qFor, qiAny, qVar, List.getElem?_cons_zero, List.getElem?_cons_succ]
  refine loopL_inv (fun i p M3 => ∃ (q9 q10 : Option D), p = [some (.tup [.xtp (ps.map plD), r, .xtp (ss.map .str)]), some (.tup (es.map egD)), some (gndD c ps r ss), some RD, some (.ref a), some (.lst L3), some (.str w), some (.tup deed), some (.int (at_ : Int)), q9, q10, none, none, none, none] ∧ M3 = M2) (n := L3.length) rfl (fun i3 d3 p M3 R3 hd3 hI3 hR3 => ?_) (fun p M3 hI3 => ?_)
    ⟨_, _, rfl, rfl⟩
  rotate_left
  · obtain ⟨q9, q10, rfl, rfl⟩ := hI3
    exact ⟨trivial, hR2 _ _ ⟨_, _, _, rfl, rfl⟩⟩
  obtain ⟨q9, q10, rfl, rfl⟩ := hI3
  refine ⟨trivial, ?_⟩
  have pd3 : Pl 9 d3 := pl3 _ (List.mem_of_getElem? hd3)
  simp only [qNot, dSl, cut_to, cut_from1, z_add_tup, qSeq, qAsg, qTup, qCons, qNil, qOp, qUn, qC, qCall, qVar, qLst, newL_f, qIfS, qTB, qNext, qRet, qDrop, qFor, qCB, qAug, qSl, qPart, qNoPart, gNameD, gSub_eq, dInt_i, dInt0_i, dAdd_i, dCmpI_i, List.set_cons_zero, List.set_cons_succ, List.getElem?_cons_zero, List.getElem?_cons_succ, List.append_nil, z_l0, z_l1, z_l2, z_l3, z_l4, z_l5, z_l6, z_l7, z_l8, z_l9, z_l19, z_l24, z_l25, true_and]
  refine ⟨by simp; omega, by simp; omega, ?_⟩
  have pbent : Pl 10 (.tup (deed.take at_ ++ [d3] ++ deed.drop (at_ + 1))) := pl_mid pld (by omega) (fun d hd => one_mem (pd3.mono (by decide)) hd) (by simp) (Nat.le_succ _)
  have n1 : ps.length ≤ 50000 := by have := ok.pl; omega
  have n2 : es.length ≤ 50000 := by have := ok.el; omega
  refine ⟨10, ps, rs, r, ss, es, _, rfl, hr, n1, n2, pbent, ?_⟩
  refine ⟨10, ps, rs, r, ss, es, _, rfl, hr, n1, n2, pbent, ?_⟩
  refine ⟨_, rfl, ⟨rfl, rfl, by show (0 : Nat) < 1; decide, by decide⟩, ?_⟩
  simp only [Bool.not_true, Bool.false_eq_true, if_false]
  exact hR3 _ _ ⟨_, _, rfl, rfl⟩
theorem sb1 {ps ss es : List Str} {rn : Nat} {x : D} : sortB ps ss es rn (lit "place") x = oneD ps x := rfl
theorem sb2 {ps ss es : List Str} {rn : Nat} {x : D} : sortB ps ss es rn (lit "kind") x = oneD KDue x := rfl
theorem sb3 {ps ss es : List Str} {rn : Nat} {x : D} : sortB ps ss es rn (lit "call") x = wholeD 1 200 x := rfl
theorem sb4 {ps ss es : List Str} {rn : Nat} {x : D} : sortB ps ss es rn (lit "pumps") x = wholeD 1 20 x := rfl
theorem sb5 {ps ss es : List Str} {rn : Nat} {x : D} : sortB ps ss es rn (lit "engine") x = oneD es x := rfl
theorem sb6 {ps ss es : List Str} {rn : Nat} {x : D} : sortB ps ss es rn (lit "station") x = oneD ss x := rfl
theorem sb7 {ps ss es : List Str} {rn : Nat} {x : D} : sortB ps ss es rn (lit "road") x = wholeD 0 ((rn : Int) - 1) x := rfl
theorem fault_at {ps ss es : List Str} {rn : Nat} {w : Str} {so : List Str} {args : List D} (h : FormsL.lookup w = some so) (hl : args.length = so.length) : faultD ps ss es rn (.tup (.str w :: args)) = firstBad (sortB ps ss es rn) 1 so args := by
  show (match FormsL.lookup w with | none => (0 : Int) | some so => if args.length = so.length then firstBad (sortB ps ss es rn) 1 so args else 0) = _
  rw [h]
  exact if_pos hl
theorem fb1 {f : Str → D → Bool} {s : Str} {x : D} (h : f s x = true) : firstBad f 1 [s] [x] = -1 := by simp [firstBad, h]
theorem fb2 {f : Str → D → Bool} {s t : Str} {x y : D} (h : f s x = true) (g : f t y = true) : firstBad f 1 [s, t] [x, y] = -1 := by simp [firstBad, h, g]
theorem fl1 : FormsL.lookup (lit "call") = some [lit "place", lit "kind"] := by decide +kernel
theorem fl2 : FormsL.lookup (lit "again") = some [lit "call"] := by decide +kernel
theorem fl3 : FormsL.lookup (lit "make") = some [lit "call", lit "pumps"] := by decide +kernel
theorem fl4 : FormsL.lookup (lit "stop") = some [lit "call"] := by decide +kernel
theorem fl5 : FormsL.lookup (lit "send") = some [lit "engine", lit "call"] := by decide +kernel
theorem fl6 : FormsL.lookup (lit "there") = some [lit "engine"] := by decide +kernel
theorem fl7 : FormsL.lookup (lit "back") = some [lit "engine"] := by decide +kernel
theorem fl8 : FormsL.lookup (lit "home") = some [lit "engine"] := by decide +kernel
theorem fl9 : FormsL.lookup (lit "off") = some [lit "engine"] := by decide +kernel
theorem fl10 : FormsL.lookup (lit "on") = some [lit "engine"] := by decide +kernel
theorem fl11 : FormsL.lookup (lit "stand") = some [lit "engine", lit "station"] := by decide +kernel
theorem fl12 : FormsL.lookup (lit "lend") = some [lit "engine", lit "station"] := by decide +kernel
theorem fl13 : FormsL.lookup (lit "shut") = some [lit "road"] := by decide +kernel
theorem fl14 : FormsL.lookup (lit "clear") = some [lit "road"] := by decide +kernel
theorem fl15 : FormsL.lookup (lit "nothing") = some [] := by decide +kernel
theorem one_in {zs : List Str} {z : Str} (h : z ∈ zs) : oneD zs (.str z) = true := decide_eq_true h
theorem whole_in {lo hi i : Int} (h : lo ≤ i) (g : i ≤ hi) : wholeD lo hi (.int i) = true := by simp [wholeD, h, g]
theorem kind_due : ∀ z ∈ KIND6, z ∈ KDue := by decide +kernel
theorem deed_fault {ps ss es : List Str} {rn : Nat} {x : HDeed} (h : DeedOk ps ss es rn x) : faultD ps ss es rn x.d = -1 := by
  obtain ⟨h⟩ := h
  cases x with
  | call p kd => exact (fault_at fl1 rfl).trans (fb2 (sb1.trans (one_in h.1)) (sb2.trans (one_in (kind_due _ h.2))))
  | again n => exact (fault_at fl2 rfl).trans (fb1 (sb3.trans (whole_in h.1 h.2)))
  | make n m => exact (fault_at fl3 rfl).trans (fb2 (sb3.trans (whole_in h.1.1 h.1.2)) (sb4.trans (whole_in h.2.1 h.2.2)))
  | stop n => exact (fault_at fl4 rfl).trans (fb1 (sb3.trans (whole_in h.1 h.2)))
  | send e n => exact (fault_at fl5 rfl).trans (fb2 (sb5.trans (one_in h.1)) (sb3.trans (whole_in h.2.1 h.2.2)))
  | there e => exact (fault_at fl6 rfl).trans (fb1 (sb5.trans (one_in h)))
  | back e => exact (fault_at fl7 rfl).trans (fb1 (sb5.trans (one_in h)))
  | home e => exact (fault_at fl8 rfl).trans (fb1 (sb5.trans (one_in h)))
  | off e => exact (fault_at fl9 rfl).trans (fb1 (sb5.trans (one_in h)))
  | on e => exact (fault_at fl10 rfl).trans (fb1 (sb5.trans (one_in h)))
  | stand e s => exact (fault_at fl11 rfl).trans (fb2 (sb5.trans (one_in h.1)) (sb6.trans (one_in h.2)))
  | lend e s => exact (fault_at fl12 rfl).trans (fb2 (sb5.trans (one_in h.1)) (sb6.trans (one_in h.2)))
  | shut r => exact (fault_at fl13 rfl).trans (fb1 (sb7.trans (whole_in h.1 (Int.le_sub_one_of_lt h.2))))
  | clear r => exact (fault_at fl14 rfl).trans (fb1 (sb7.trans (whole_in h.1 (Int.le_sub_one_of_lt h.2))))
  | nothing => exact (fault_at fl15 rfl).trans rfl
theorem pl_two {n : Nat} {a b : D} (h : Pl n a) (g : Pl n b) (hn : 2 ≤ n) : Pl n (.tup [a, b]) := .tup hn fun d hd => by
  simp only [List.mem_cons, List.not_mem_nil, or_false] at hd
  rcases hd with rfl | rfl
  · exact h
  · exact g
theorem pl_three {n : Nat} {a b c : D} (h : Pl n a) (g : Pl n b) (f : Pl n c) (hn : 3 ≤ n) : Pl n (.tup [a, b, c]) := .tup hn fun d hd => by
  simp only [List.mem_cons, List.not_mem_nil, or_false] at hd
  rcases hd with rfl | rfl | rfl
  · exact h
  · exact g
  · exact f
theorem kind_tx : ∀ z ∈ KIND6, txB 9 z = true := by decide +kernel
theorem deed_pl {ps ss es : List Str} {rn : Nat} {x : HDeed} (h : DeedOk ps ss es rn x) (hp : ∀ z ∈ ps, Tx_ 8 z) (hs : ∀ z ∈ ss, Tx_ 8 z) (he : ∀ z ∈ es, Tx_ 8 z) : Pl 9 x.d := by
  have T : ∀ {z : Str}, Tx_ 8 z → Pl 9 (.str z) := fun h => .str (h.mono (by decide))
  obtain ⟨h⟩ := h
  cases x with
  | call p kd => exact pl_three (.str (tx_of (show txB 9 (lit "call") = true by decide +kernel))) (T (hp _ h.1)) (.str (tx_of (kind_tx _ h.2))) (by decide)
  | again n => exact pl_two (.str (tx_of (show txB 9 (lit "again") = true by decide +kernel))) (.int _) (by decide)
  | make n m => exact pl_three (.str (tx_of (show txB 9 (lit "make") = true by decide +kernel))) (.int _) (.int _) (by decide)
  | stop n => exact pl_two (.str (tx_of (show txB 9 (lit "stop") = true by decide +kernel))) (.int _) (by decide)
  | send e n => exact pl_three (.str (tx_of (show txB 9 (lit "send") = true by decide +kernel))) (T (he _ h.1)) (.int _) (by decide)
  | there e => exact pl_two (.str (tx_of (show txB 9 (lit "there") = true by decide +kernel))) (T (he _ h)) (by decide)
  | back e => exact pl_two (.str (tx_of (show txB 9 (lit "back") = true by decide +kernel))) (T (he _ h)) (by decide)
  | home e => exact pl_two (.str (tx_of (show txB 9 (lit "home") = true by decide +kernel))) (T (he _ h)) (by decide)
  | off e => exact pl_two (.str (tx_of (show txB 9 (lit "off") = true by decide +kernel))) (T (he _ h)) (by decide)
  | on e => exact pl_two (.str (tx_of (show txB 9 (lit "on") = true by decide +kernel))) (T (he _ h)) (by decide)
  | stand e s => exact pl_three (.str (tx_of (show txB 9 (lit "stand") = true by decide +kernel))) (T (he _ h.1)) (T (hs _ h.2)) (by decide)
  | lend e s => exact pl_three (.str (tx_of (show txB 9 (lit "lend") = true by decide +kernel))) (T (he _ h.1)) (T (hs _ h.2)) (by decide)
  | shut r => exact pl_two (.str (tx_of (show txB 9 (lit "shut") = true by decide +kernel))) (.int _) (by decide)
  | clear r => exact pl_two (.str (tx_of (show txB 9 (lit "clear") = true by decide +kernel))) (.int _) (by decide)
  | nothing => exact pl_t1 (by decide) (.str (tx_of (show txB 9 (lit "nothing") = true by decide +kernel)))
theorem make_g {c : Addr} {qa : DTA} {DW : DWt} {p : Rho} {M : Mst} {Q : DK} {ps : List Row_} {rs : List Rd_} {r : D} {ss : List Str} (hqa : ∀ QA : List D → Mst → Prop, QA [.xtp (ps.map plD), r, .xtp (ss.map .str)] M → qa DW p M QA) (hr : Tpl (rs.map rdD) r) (g : GOk ps rs ss) (k : Q (gndD c ps r ss) M) : qFrzE (qMake c (spGround c) [] qa) DW p M Q := by
  rw [frzJ_eq]
  refine hqa _ fun a ha => ⟨a, ps, rs, r, ss, rfl, put_same, hr, g, rfl, ?_⟩
  rw [put_put]
  unfold frzJ
  simp only [put_same, del_put ha]
  exact k
theorem theirs {ps : List Row_} {rs : List Rd_} {ss : List Str} {es : List Eng} (hg : GrdOk ps rs ss) (he : EngsOk ss es) : TheirsOk ps rs ss es where
  p0 := fun e => by have := hg.pn.1; rw [e] at this; simp at this
  s0 := hg.sn.1
  e0 := he.ne
  pl := hg.pn.2
  rl := Nat.le_trans hg.rn (by decide)
  sl := hg.sn.2
  el := he.le
  pt := fun p hp => nameS_tx (hg.pm p hp).1
  st := fun z hz => by
    obtain ⟨p, hp, rfl⟩ := List.mem_map.mp (hg.sm z hz)
    exact nameS_tx (hg.pm p hp).1
  et := fun e h => nameS_tx (he.nm e h)
theorem ground_names {ps : List Pc_} {rs : List Rd_} {ss : List Str} (hg : GrdOk ps rs ss) : ∀ z ∈ ps.map (·.1), Tx_ 8 z := fun z hz => by
  obtain ⟨p, hp, rfl⟩ := List.mem_map.mp hz
  exact nameS_tx (hg.pm p hp).1
theorem TheirsOk.none {ps : List Row_} {rs : List Rd_} {ss : List Str} {es : List Eng} (h : TheirsOk ps rs ss es) : TheirsOk ps [] ss es := { h with rl := Nat.zero_le _ }
def qThings (c : Addr) : DTS :=
  (qSeq (qFor (qiAny (qVar 7)) (gNameD 8)
  (qFor (qiRng1 (qCons (qC (.int 2)) qNil)) (gNameD 9)
  (qIfS (qNot (qTB (qCall (spLike 1) [] (qCons (qCall (spFault c) [] (qCons (qVar 4) (qCons (qVar 3) (qCons (qVar 8) qNil)))) (qCons (qCall spLDueF [] (qCons (qVar 2) (qCons (qVar 3) (qCons (qVar 8) qNil)))) qNil)))))
  (qRet (qC (.bl false)))
  qNext)))
  (qIfS (qTB (qOp (dEq true) (qCall (spFault c) [] (qCons (qVar 4) (qCons (qVar 3) (qCons (qVar 6) qNil)))) (qUn dNeg (qC (.int 1)))))
  (qRet (qC (.bl false)))
  qNext))
theorem like_int (i : Int) : LikeOk 1 (.int i) := ⟨rfl, rfl, by show (0 : Nat) < 1; decide, by decide⟩
theorem things_ok {c : Addr} {ps : List Row_} {rs : List Rd_} {ss : List Str} {es : List Eng} {Ed : DX → Mst → Prop} {R B : Rho → Mst → Prop} {Q : DK} {x0 x1 x5 x8 x9 : Option D} {w : D} {q7 : Addr} {l : List D} {M : Mst}
    (n1 : ps.length ≤ 50000) (n2 : es.length ≤ 50000) (hm : M q7 = some (.lst l)) (hp : ∀ d ∈ l, Pl 11 d) (hd : faultD (ps.map (·.1)) ss (es.map (·.1)) rs.length w = -1) (pd : Pl 9 w)
    (next : ∀ p8 p9, R [x0, x1, some (toldD ps (.xtp (rs.map rdD)) ss), some (.tup (es.map egD)), some (gndD c ps (.xtp (rs.map rdD)) ss), x5, some w, some (.ref q7), p8, p9] M) :
    qThings c (fun x _ M => Ed x M) { nx := R, rt := Q, bk := B, ct := R } [x0, x1, some (toldD ps (.xtp (rs.map rdD)) ss), some (.tup (es.map egD)), some (gndD c ps (.xtp (rs.map rdD)) ss), x5, some w, some (.ref q7), x8, x9] M := by
  simp only [qThings, qiAny, hm, qSeq, qAsg, qTup, qCons, qNil, qOp, qUn, qC, qCall, qVar, qLst, newL_f, qIfS, qTB, qNext, qRet, qDrop, qFor, qCB, qAug, qSl, qPart, qNoPart, gNameD, gSub_eq, dInt_i, dInt0_i, dAdd_i, dCmpI_i, List.set_cons_zero, List.set_cons_succ, List.getElem?_cons_zero, List.getElem?_cons_succ, List.append_nil, z_l0, z_l1, z_l2, z_l3, z_l4, z_l5, z_l6, z_l7, z_l8, z_l9, z_l19, z_l24, z_l25, true_and]
  refine loopL_inv (fun i p M2 => ∃ p8 p9, p = [x0, x1, some (toldD ps (.xtp (rs.map rdD)) ss), some (.tup (es.map egD)), some (gndD c ps (.xtp (rs.map rdD)) ss), x5, some w, some (.ref q7), p8, p9] ∧ M2 = M) (n := l.length) rfl (fun i d p M2 R2 hd2 hI hR2 => ?_) (fun p M2 hI => ?_) ⟨_, _, rfl, rfl⟩
  · obtain ⟨p8, p9, rfl, rfl⟩ := hI
    have pl : Pl 11 d := hp d (List.mem_of_getElem? hd2)
    refine ⟨hm, ?_⟩
    simp only [qiRng1, qSeq, qAsg, qTup, qCons, qNil, qOp, qUn, qC, qCall, qVar, qLst, newL_f, qIfS, qTB, qNext, qRet, qDrop, qFor, qCB, qAug, qSl, qPart, qNoPart, gNameD, gSub_eq, dInt_i, dInt0_i, dAdd_i, dCmpI_i, List.set_cons_zero, List.set_cons_succ, List.getElem?_cons_zero, List.getElem?_cons_succ, List.append_nil, z_l0, z_l1, z_l2, z_l3, z_l4, z_l5, z_l6, z_l7, z_l8, z_l9, z_l19, z_l24, z_l25, true_and]
    refine ⟨by decide, by decide, ?_⟩
    refine loopL_inv (fun i p M3 => ∃ p9, p = [x0, x1, some (toldD ps (.xtp (rs.map rdD)) ss), some (.tup (es.map egD)), some (gndD c ps (.xtp (rs.map rdD)) ss), x5, some w, some (.ref q7), some d, p9] ∧ M3 = M2) (n := 2) rfl (fun i3 d3 p M3 R3 hd3 hI3 hR3 => ?_) (fun p M3 hI3 => ?_) ⟨_, rfl, rfl⟩
    · obtain ⟨p9, rfl, rfl⟩ := hI3
      refine ⟨trivial, ?_⟩
      simp only [qNot, qSeq, qAsg, qTup, qCons, qNil, qOp, qUn, qC, qCall, qVar, qLst, newL_f, qIfS, qTB, qNext, qRet, qDrop, qFor, qCB, qAug, qSl, qPart, qNoPart, gNameD, gSub_eq, dInt_i, dInt0_i, dAdd_i, dCmpI_i, List.set_cons_zero, List.set_cons_succ, List.getElem?_cons_zero, List.getElem?_cons_succ, List.append_nil, z_l0, z_l1, z_l2, z_l3, z_l4, z_l5, z_l6, z_l7, z_l8, z_l9, z_l19, z_l24, z_l25, true_and]
      refine ⟨11, ps, rs, _, ss, es, d, rfl, .inl rfl, n1, n2, pl, ?_⟩
      refine ⟨11, ps, rs, _, ss, es, d, rfl, .inl rfl, n1, n2, pl, ?_⟩
      refine ⟨_, rfl, like_int _, ?_⟩
      simp only [Bool.not_true, Bool.false_eq_true, if_false]
      exact hR3 _ _ ⟨_, rfl, rfl⟩
    · obtain ⟨p9, rfl, rfl⟩ := hI3
      exact ⟨trivial, hR2 _ _ ⟨_, _, rfl, rfl⟩⟩
  · obtain ⟨p8, p9, rfl, rfl⟩ := hI
    refine ⟨hm, ?_⟩
    refine ⟨9, ps, rs, _, ss, es, w, rfl, .inl rfl, n1, n2, pd, ?_⟩
    rw [hd]
    simp only [z_neg, z_ne_int, decide_true, Bool.not_true, Bool.false_eq_true, if_false, qSeq, qAsg, qTup, qCons, qNil, qOp, qUn, qC, qCall, qVar, qLst, newL_f, qIfS, qTB, qNext, qRet, qDrop, qFor, qCB, qAug, qSl, qPart, qNoPart, gNameD, gSub_eq, dInt_i, dInt0_i, dAdd_i, dCmpI_i, List.set_cons_zero, List.set_cons_succ, List.getElem?_cons_zero, List.getElem?_cons_succ, List.append_nil, z_l0, z_l1, z_l2, z_l3, z_l4, z_l5, z_l6, z_l7, z_l8, z_l9, z_l19, z_l24, z_l25, true_and]
    exact next _ _
theorem law_ok (c : Addr) (ds : List D) (M : Mst) (Q : DK) (Ed : DX → Mst → Prop) (h : upSp spLaw ds M Q Ed) : q_law c (spGround c) spBag spHBent spHDeed spLDueF (spHEach c) spHEngines spHGround (spLike 1) (spFault c) (fun x _ M => Ed x M) (retE Q) (startD N_law ds) M := by
  obtain ⟨Q0, E0, ⟨ns, rfl, hl, _, k0⟩, kq, _⟩ := h
  have k : ∀ M', Q (.bl true) M' := fun M' => kq _ _ _ (DL.Sub.refl _) (k0 M')
  clear kq k0
  show q_law _ _ _ _ _ _ _ _ _ _ _ _ _ [some (.scr ns), none, none, none, none, none, none, none, none, none] M
  refine seq_asg ?_
  simp only [qC, qCall, qCons, qNil, qVar, List.getElem?_cons_zero, List.append_nil, gNameD, List.set_cons_zero, List.set_cons_succ]
  refine ⟨ns, 0, rfl, by decide, by decide, fun g0 hg0 => ?_⟩
  have hb0 : DL.put M g0 .bag g0 = some .bag := put_same
  generalize DL.put M g0 .bag = M1 at hb0
  refine seq_asg ?_
  simp only [qCall, qCons, qNil, qVar, List.getElem?_cons_zero, List.getElem?_cons_succ, List.append_nil, gNameD, List.set_cons_zero, List.set_cons_succ]
  refine ⟨g0, rfl, hb0, fun ps rs ss hg => ?_⟩
  refine seq_asg ?_
  simp only [qCall, qCons, qNil, qVar, qOp, qC, grT, z_ix_t2, List.getElem?_cons_zero, List.getElem?_cons_succ, List.append_nil, gNameD, List.set_cons_zero, List.set_cons_succ]
  refine ⟨g0, ss, rfl, hb0, hg.sn.1, hg.sn.2, fun es he => ?_⟩
  have th := theirs hg he
  refine seq_asg ?_
  refine make_g (rs := rs) (ps := ps) (r := .xtp (rs.map rdD)) (ss := ss) (fun QA h => ?_) (.inl rfl) hg.gok ?_
  · simp only [qSeq, qAsg, qTup, qCons, qNil, qOp, qUn, qC, qCall, qVar, qLst, newL_f, qIfS, qTB, qNext, qRet, qDrop, qFor, qCB, qAug, qSl, qPart, qNoPart, gNameD, gSub_eq, dInt_i, dInt0_i, dAdd_i, dCmpI_i, List.set_cons_zero, List.set_cons_succ, List.getElem?_cons_zero, List.getElem?_cons_succ, List.append_nil, z_l0, z_l1, z_l2, z_l3, z_l4, z_l5, z_l6, z_l7, z_l8, z_l9, z_l19, z_l24, z_l25, true_and, z_ix_t0, z_ix_t1, z_ix_t2]; exact h
  simp only [gNameD, List.set_cons_zero, List.set_cons_succ]
  have n1 : ps.length ≤ 50000 := by have := th.pl; omega
  have n2 : es.length ≤ 50000 := by have := th.el; omega
  refine (show (qSeq (qFor _ _ (qSeq (qAsg _ _) (qSeq (qAsg _ _) (qSeq (qAsg _ _) (qSeq _ (qThings c)))))) _) _ _ _ _ from ?_)
  simp only [qSeq, qFor, qiRng1, dMin2, dMax2, len_s, qSeq, qAsg, qTup, qCons, qNil, qOp, qUn, qC, qCall, qVar, qLst, newL_f, qIfS, qTB, qNext, qRet, qDrop, qFor, qCB, qAug, qSl, qPart, qNoPart, gNameD, gSub_eq, dInt_i, dInt0_i, dAdd_i, dCmpI_i, List.set_cons_zero, List.set_cons_succ, List.getElem?_cons_zero, List.getElem?_cons_succ, List.append_nil, z_l0, z_l1, z_l2, z_l3, z_l4, z_l5, z_l6, z_l7, z_l8, z_l9, z_l19, z_l24, z_l25, true_and]
  generalize hv : (if (if (ns.length : Int) - 1 < 40 then (ns.length : Int) - 1 else 40) > 12 then if (ns.length : Int) - 1 < 40 then (ns.length : Int) - 1 else 40 else 12) = v
  have hv0 : 0 ≤ v ∧ v ≤ 40 := by rw [← hv]; split <;> split <;> omega
  refine ⟨by omega, by omega, ?_⟩
  refine loopL_inv (n := v.toNat) (fun i p M' => ∃ x1 x5 x6 x7 x8 x9, p = [some (.scr ns), x1, some (toldD ps (.xtp (rs.map rdD)) ss), some (.tup (es.map egD)), some (gndD c ps (.xtp (rs.map rdD)) ss), x5, x6, x7, x8, x9]) (by rw [rangeD_len]) (fun i d p M' R hd hI next => ?_) (fun p M' hI => ?_) ⟨_, _, _, _, _, _, rfl⟩
  · obtain ⟨x1, x5, x6, x7, x8, x9, rfl⟩ := hI
    obtain ⟨hi, rfl⟩ := range_at hd
    refine ⟨trivial, ?_⟩
    simp only [gNameD, List.set_cons_zero, List.set_cons_succ]
    refine seq_asg ?_
    simp only [qSeq, qAsg, qTup, qCons, qNil, qOp, qUn, qC, qCall, qVar, qLst, newL_f, qIfS, qTB, qNext, qRet, qDrop, qFor, qCB, qAug, qSl, qPart, qNoPart, gNameD, gSub_eq, dInt_i, dInt0_i, dAdd_i, dCmpI_i, List.set_cons_zero, List.set_cons_succ, List.getElem?_cons_zero, List.getElem?_cons_succ, List.append_nil, z_l0, z_l1, z_l2, z_l3, z_l4, z_l5, z_l6, z_l7, z_l8, z_l9, z_l19, z_l24, z_l25, true_and]
    refine ⟨ns, 1 + (i : Int), rfl, by omega, by omega, fun g hgb => ?_⟩
    have hb : DL.put M' g .bag g = some .bag := put_same
    generalize DL.put M' g .bag = M2 at hb
    refine ⟨g, ps, rs, ss, es, [], rfl, hb, th.p0, th.s0, th.e0, by have := th.pl; omega, by have := th.rl; omega, by have := th.sl; omega, by have := th.el; omega, by simp, (fun n h => nomatch h), fun x hx => ?_⟩
    have pd := deed_pl hx (ground_names hg) th.st (fun z hz => by obtain ⟨e, h, rfl⟩ := List.mem_map.mp hz; exact th.et e h)
    have fd := deed_fault hx
    refine ⟨9, g, ps, rs, ss, es, .str x.word :: x.args, rfl, hb, th, by simp, by decide, by decide, pd, fun y hy => ?_⟩
    simp only [newL_t]
    intro q7 h7
    have hb7 : DL.put M2 q7 (.lst [x.d, y]) g = some .bag := put_keep hb h7
    have hm : DL.put M2 q7 (.lst [x.d, y]) q7 = some (.lst [x.d, y]) := put_same
    generalize DL.put M2 q7 (.lst [x.d, y]) = M3 at hb7 hm
    have i1 : ∀ R, dIx (.ref q7) (.int 1) M3 R = R y M3 := fun R => ix_r hm rfl
    have fin : ∀ (B : Rho → Mst → Prop) l M4, M4 q7 = some (.lst l) → (∀ d ∈ l, Pl 11 d) → qThings c (fun x _ M => Ed x M) { nx := R, rt := Q, bk := B, ct := R } [some (.scr ns), some (.ref g), some (toldD ps (.xtp (rs.map rdD)) ss), some (.tup (es.map egD)), some (gndD c ps (.xtp (rs.map rdD)) ss), some (.int (i : Int)), some x.d, some (.ref q7), x8, x9] M4 := fun B l M4 h4 hl => things_ok n1 n2 h4 hl fd pd fun p8 p9 => next _ _ ⟨_, _, _, _, _, _, rfl⟩
    have l2 : ∀ d ∈ [x.d, y], Pl 11 d := fun d hd => by
      simp only [List.mem_cons, List.not_mem_nil, or_false] at hd
      rcases hd with rfl | rfl
      · exact pd.mono (by decide)
      · exact hy.mono (by decide)
    simp only [qAnd, i1, isi_tuple hy, qSeq, qAsg, qTup, qCons, qNil, qOp, qUn, qC, qCall, qVar, qLst, newL_f, qIfS, qTB, qNext, qRet, qDrop, qFor, qCB, qAug, qSl, qPart, qNoPart, gNameD, gSub_eq, dInt_i, dInt0_i, dAdd_i, dCmpI_i, List.set_cons_zero, List.set_cons_succ, List.getElem?_cons_zero, List.getElem?_cons_succ, List.append_nil, z_l0, z_l1, z_l2, z_l3, z_l4, z_l5, z_l6, z_l7, z_l8, z_l9, z_l19, z_l24, z_l25, true_and]
    cases ht : tupB y with
    | false =>
      simp only [Bool.false_eq_true, if_false]
      exact fin _ _ M3 hm l2
    | true =>
    obtain ⟨ys, rfl⟩ := tupB_iff.mp ht
    simp only [if_true, i1, eq_unit hy, qSeq, qAsg, qTup, qCons, qNil, qOp, qUn, qC, qCall, qVar, qLst, newL_f, qIfS, qTB, qNext, qRet, qDrop, qFor, qCB, qAug, qSl, qPart, qNoPart, gNameD, gSub_eq, dInt_i, dInt0_i, dAdd_i, dCmpI_i, List.set_cons_zero, List.set_cons_succ, List.getElem?_cons_zero, List.getElem?_cons_succ, List.append_nil, z_l0, z_l1, z_l2, z_l3, z_l4, z_l5, z_l6, z_l7, z_l8, z_l9, z_l19, z_l24, z_l25, true_and]
    cases hn : noTup (.tup ys) with
    | true =>
      simp only [Bool.xor_true, Bool.not_true, Bool.false_eq_true, if_false]
      exact fin _ _ M3 hm l2
    | false =>
    have hy0 : ys ≠ [] := fun e => by subst e; cases hn
    simp only [Bool.xor_false, if_true, qBM, i1, qSeq, qAsg, qTup, qCons, qNil, qOp, qUn, qC, qCall, qVar, qLst, newL_f, qIfS, qTB, qNext, qRet, qDrop, qFor, qCB, qAug, qSl, qPart, qNoPart, gNameD, gSub_eq, dInt_i, dInt0_i, dAdd_i, dCmpI_i, List.set_cons_zero, List.set_cons_succ, List.getElem?_cons_zero, List.getElem?_cons_succ, List.append_nil, z_l0, z_l1, z_l2, z_l3, z_l4, z_l5, z_l6, z_l7, z_l8, z_l9, z_l19, z_l24, z_l25, true_and]
    refine ⟨by simp [res, hm, tyOk], 10, g, ps, rs, ss, es, ys, rfl, hb7, th, hy0, by decide, by decide, hy, fun y2 hy2 => ?_⟩
    have l3 : ∀ d ∈ [x.d, .tup ys, y2], Pl 11 d := fun d hd => by
      simp only [List.mem_cons, List.not_mem_nil, or_false] at hd
      rcases hd with rfl | rfl | rfl
      · exact pd.mono (by decide)
      · exact hy.mono (by decide)
      · exact hy2.mono (by decide)
    simp only [mApp, hm]
    refine ⟨(show 2 < 100000 by decide), ?_⟩
    exact fin _ _ _ put_same l3
  · obtain ⟨x1, x5, x6, x7, x8, x9, rfl⟩ := hI
    refine ⟨trivial, ?_⟩
    simp only [qNot, qSeq, qAsg, qTup, qCons, qNil, qOp, qUn, qC, qCall, qVar, qLst, newL_f, qIfS, qTB, qNext, qRet, qDrop, qFor, qCB, qAug, qSl, qPart, qNoPart, gNameD, gSub_eq, dInt_i, dInt0_i, dAdd_i, dCmpI_i, List.set_cons_zero, List.set_cons_succ, List.getElem?_cons_zero, List.getElem?_cons_succ, List.append_nil, z_l0, z_l1, z_l2, z_l3, z_l4, z_l5, z_l6, z_l7, z_l8, z_l9, z_l19, z_l24, z_l25, true_and]
    refine ⟨ps, rs, _, ss, es, rfl, .inl rfl, th, ?_⟩
    simp only [Bool.not_true, Bool.false_eq_true, if_false, toldD, z_ix_t0, z_ix_t2, qSeq, qAsg, qTup, qCons, qNil, qOp, qUn, qC, qCall, qVar, qLst, newL_f, qIfS, qTB, qNext, qRet, qDrop, qFor, qCB, qAug, qSl, qPart, qNoPart, gNameD, gSub_eq, dInt_i, dInt0_i, dAdd_i, dCmpI_i, List.set_cons_zero, List.set_cons_succ, List.getElem?_cons_zero, List.getElem?_cons_succ, List.append_nil, z_l0, z_l1, z_l2, z_l3, z_l4, z_l5, z_l6, z_l7, z_l8, z_l9, z_l19, z_l24, z_l25, true_and]
    refine make_g (rs := []) (ps := ps) (r := .tup []) (ss := ss) (fun QA h => ?_) (.inr rfl) hg.gok.none ?_
    · simp only [qSeq, qAsg, qTup, qCons, qNil, qOp, qUn, qC, qCall, qVar, qLst, newL_f, qIfS, qTB, qNext, qRet, qDrop, qFor, qCB, qAug, qSl, qPart, qNoPart, gNameD, gSub_eq, dInt_i, dInt0_i, dAdd_i, dCmpI_i, List.set_cons_zero, List.set_cons_succ, List.getElem?_cons_zero, List.getElem?_cons_succ, List.append_nil, z_l0, z_l1, z_l2, z_l3, z_l4, z_l5, z_l6, z_l7, z_l8, z_l9, z_l19, z_l24, z_l25, true_and, z_ix_t0, z_ix_t1, z_ix_t2]; exact h
    refine ⟨ps, [], .tup [], ss, es, rfl, .inr rfl, th.none, ?_⟩
    obtain ⟨e, es', ee⟩ := List.exists_cons_of_ne_nil th.e0
    have te : Tx_ 8 e.1 := th.et e (by rw [ee]; exact List.mem_cons_self ..)
    simp only [Bool.not_true, Bool.false_eq_true, if_false, ee, List.map_cons, z_ix_t0, egD]
    refine ⟨9, ps, rs, _, ss, [], _, rfl, .inl rfl, n1, by decide, pl_two (.str (tx_of (show txB 9 (lit "back") = true by decide +kernel))) (.str (te.mono (by decide))) (by decide), ?_⟩
    have ef : faultD (ps.map (·.1)) ss (([] : List Eng).map (·.1)) rs.length (.tup [.str (lit "back"), .str e.1]) = 1 := by
      rw [fault_at fl7 rfl]
      show (if sortB (ps.map (·.1)) ss [] rs.length (lit "engine") (.str e.1) = true then _ else (1 : Int)) = 1
      rw [sb5]
      rfl
    rw [ef]
    simp only [z_eq_int, decide_true]
    exact k _
end DL
def PySem.W.Fast.tw4221165316520704546 : Unit := ()
def PySem.W.Fast.tw14845373050554837860 : Unit := ()
def PySem.W.Fast.tw3932984964452491845 : Unit := ()
def PySem.W.Fast.tw17901482700478462729 : Unit := ()
def PySem.W.Fast.tw5153299307657132174 : Unit := ()
def PySem.W.Fast.tw8099503372315751221 : Unit := ()
def PySem.W.Fast.tw12059733345216889399 : Unit := ()
def PySem.W.Fast.tw1102544336174435737 : Unit := ()
def PySem.W.Fast.tw8026970108576686777 : Unit := ()
def PySem.W.Fast.tw12505085449892820410 : Unit := ()
def PySem.W.Fast.tw17673379159469162779 : Unit := ()
def PySem.W.Fast.tw3697055827385073341 : Unit := ()
namespace K23
open PySem L2 DL Tx20 Tx21
abbrev LEVEL : Nat := 6
def spVoid : DSp := fun _ _ _ _ => False
section
variable {P : Program} {w : World} {K : PySem.W.Frag} {mg : Str → Option Value}
theorem ok_law (T : Tx w K mg) (base : Heap) : FnOk P w K mg base (L2.CX P w) LEVEL T.f_law.f T.f_law.fd ["_law_script"] (toSp K spLaw) := by
  have G_is_whole := dv_is_whole (P := P) (base := base) (k := 0) T (p := spIsWhole) (fun _ _ _ _ ⟨_, _, _, _, e, _⟩ => by rw [e]; rfl) whole_ok
  have G_is_name := dv_is_name (P := P) (base := base) (k := 0) T (p := spIsName) (fun _ _ _ _ ⟨_, _, e, _⟩ => by rw [e]; rfl) name_ok
  have G_is_one_of := dv_is_one_of (P := P) (base := base) (k := 0) T (p := spIsOne) (fun _ _ _ _ ⟨_, _, _, _, e, _⟩ => by rw [e]; rfl) one_ok
  have G_is_tuple_of := dv_is_tuple_of (P := P) (base := base) (k := 0) T (p := spIsTuple) (fun _ _ _ _ ⟨_, _, _, e, _⟩ => by rw [e]; rfl) tuple_ok
  have G_is_kind := dv_is_kind (P := P) (base := base) (k := 1) T (G_is_one_of.mono (by decide)) (p := spIsKind) (fun _ _ _ _ ⟨_, _, e, _⟩ => by rw [e]; rfl) iskind_ok
  have G_is_place := dv_is_place (P := P) (base := base) (k := 1) T (G_is_name.mono (by decide)) (G_is_tuple_of.mono (by decide)) (G_is_whole.mono (by decide)) (p := spIsPlace) (fun _ _ _ _ ⟨_, _, e, _⟩ => by rw [e]; rfl) place_ok
  have G_places_fault := dv_places_fault (P := P) (base := base) (k := 2) T (G_is_place.mono (by decide)) (p := spPlaces) (fun _ _ _ _ ⟨_, _, e, _⟩ => by rw [e]; rfl) places_ok
  have G_is_road := dv_is_road (P := P) (base := base) (k := 1) T (G_is_one_of.mono (by decide)) (G_is_tuple_of.mono (by decide)) (G_is_whole.mono (by decide)) (p := spIsRoad) (fun _ _ _ _ ⟨_, _, _, e, _⟩ => by rw [e]; rfl) isroad_ok
  have G_roads_fault := dv_roads_fault (P := P) (base := base) (k := 2) T (G_is_road.mono (by decide)) (p := spRoadsF) (fun _ _ _ _ ⟨_, _, _, _, e, _⟩ => by rw [e]; rfl) roadsf_ok
  have G_stations_fault := dv_stations_fault (P := P) (base := base) (k := 1) T (G_is_one_of.mono (by decide)) (p := spStations) (fun _ _ _ _ ⟨_, _, _, _, e, _⟩ => by rw [e]; rfl) stations_ok
  have G_need := dv_need (P := P) (base := base) (k := 2) (by decide) T (p := spNeed0) (fun _ _ _ _ ⟨_, e, _⟩ => by rw [e]; rfl) (need0_ok _)
  have G_Ground___init__ := dv_Ground___init__ (P := P) (base := base) (k := 3) T (G_need.mono (by decide)) (G_places_fault.mono (by decide)) (G_roads_fault.mono (by decide)) (G_stations_fault.mono (by decide)) (p := spGround T.c_Ground.C) (fun _ _ _ _ ⟨_, _, _, _, _, e, _⟩ => by rw [e]; rfl) (ground_ok _)
  have G_is_sort := dv_is_sort (P := P) (base := base) (k := 2) T (G_is_kind.mono (by decide)) (G_is_one_of.mono (by decide)) (G_is_whole.mono (by decide)) (p := spIsSort T.c_Ground.C) (fun _ _ _ _ ⟨_, _, _, _, _, _, _, _, e, _⟩ => by rw [e]; rfl) (issort_ok _)
  have G_fault := dv_fault (P := P) (base := base) (k := 3) T (G_is_one_of.mono (by decide)) (G_is_sort.mono (by decide)) (p := spFault T.c_Ground.C) (fun _ _ _ _ ⟨_, _, _, _, _, _, _, e, _⟩ => by rw [e]; rfl) (fault_ok _)
  have G__law_bag := (dv__law_bag (P := P) (base := base) (k := 0) T (p := spBagL) (fun _ _ _ _ ⟨_, _, e, _⟩ => by rw [e]; rfl) bag2_ok).imp fun _ _ _ _ h => imp_bag h
  have G__law_take := (dv__law_take (P := P) (base := base) (k := 0) T (p := spTakeL) (fun _ _ _ _ ⟨_, _, _, _, e, _⟩ => by rw [e]; rfl) take_ok).imp fun _ _ _ _ h => imp_take h
  have G__law_whole := dv__law_whole (P := P) (base := base) (k := 0) T (p := spIsWhole) (fun _ _ _ _ ⟨_, _, _, _, e, _⟩ => by rw [e]; rfl) whole_ok
  have G__law_names := dv__law_names (P := P) (base := base) (k := 1) T (G__law_take.mono (by decide)) (p := spHNames) (fun _ _ _ _ ⟨_, _, e, _⟩ => by rw [e]; rfl) hnames_ok
  have G__law_ground := dv__law_ground (P := P) (base := base) (k := 2) T (G__law_names.mono (by decide)) (G__law_take.mono (by decide)) (p := spHGround) (fun _ _ _ _ ⟨_, e, _⟩ => by rw [e]; rfl) hground_ok
  have G__law_engines := dv__law_engines (P := P) (base := base) (k := 2) T (G__law_names.mono (by decide)) (G__law_take.mono (by decide)) (p := spHEngines) (fun _ _ _ _ ⟨_, _, e, _⟩ => by rw [e]; rfl) hengines_ok
  have G__law_kind := dv__law_kind (P := P) (base := base) (k := 1) T (G__law_take.mono (by decide)) (p := spHKind) (fun _ _ _ _ ⟨_, e, _⟩ => by rw [e]; rfl) hkind_ok
  have G__law_deed := dv__law_deed (P := P) (base := base) (k := 2) T (G__law_kind.mono (by decide)) (G__law_take.mono (by decide)) (p := spHDeed) (fun _ _ _ _ ⟨_, _, _, _, _, _, e, _⟩ => by rw [e]; rfl) hdeed_ok
  have G__law_like : FnOk P w K mg base (L2.CX P w) 1 T.f__law_like.f T.f__law_like.fd ["_law_told", "_law_due_here"] (toSp K spVoid) := fn_void fun _ _ _ _ h => h
  have G__law_like := dv__law_like (P := P) (base := base) (k := 1) T (G__law_like.mono (by decide)) (p := spLike 1) (fun _ _ _ _ ⟨_, e, _⟩ => by rw [e]; rfl) (like_ok 0 spVoid fun _ _ _ _ h _ => absurd h.d (Nat.not_lt_zero _))
  have G__law_is_sort := dv__law_is_sort (P := P) (base := base) (k := 1) T (G__law_whole.mono (by decide)) (p := spLSort) (fun _ _ _ _ ⟨_, _, _, _, _, _, _, _, e, _⟩ => by rw [e]; rfl) lsort_ok
  have G__law_due := dv__law_due (P := P) (base := base) (k := 2) T (G__law_is_sort.mono (by decide)) (p := spLDueF) (fun _ _ _ _ ⟨_, _, _, _, _, _, _, e, _⟩ => by rw [e]; rfl) ldueF_ok
  have G__law_any := dv__law_any (P := P) (base := base) (k := 1) T (G__law_take.mono (by decide)) (p := spHAny) (fun _ _ _ _ ⟨_, _, _, _, _, e, _⟩ => by rw [e]; rfl) hany_ok
  have G__law_bent := dv__law_bent (P := P) (base := base) (k := 2) T (G__law_any.mono (by decide)) (G__law_take.mono (by decide)) (p := spHBent) (fun _ _ _ _ ⟨_, _, _, _, _, _, _, e, _⟩ => by rw [e]; rfl) hbent_ok
  have G__law_each := dv__law_each (P := P) (base := base) (k := 4) T (G__law_due.mono (by decide)) (G__law_like.mono (by decide)) (G_fault.mono (by decide)) (p := spHEach T.c_Ground.C) (fun _ _ _ _ ⟨_, _, _, _, _, e, _⟩ => by rw [e]; rfl) (heach_ok _)
  exact dv_law (P := P) (base := base) (k := 5) (ki_Ground := 4) T (by decide) G_Ground___init__ (G__law_bag.mono (by decide)) (G__law_bent.mono (by decide)) (G__law_deed.mono (by decide)) (G__law_due.mono (by decide)) (G__law_each.mono (by decide)) (G__law_engines.mono (by decide)) (G__law_ground.mono (by decide)) (G__law_like.mono (by decide)) (G_fault.mono (by decide)) (p := spLaw) (fun _ _ _ _ ⟨_, e, _⟩ => by rw [e]; rfl) (law_ok _)
end
end K23
open PySem PySem.W PyProof.Rows in
set_option maxRecDepth 100000 in
set_option maxHeartbeats 0 in
theorem PySem.Challenge.cw_whistleboard_k23_deeds_faults_holds : PySem.Challenge.rw_whistleboard_k23_deeds_faults.Holds := by
  w_on; o_law; k_head; (case hw => w_witness2)
  k_fill
  refine DL.walk (l := PySem.Challenge.rw_whistleboard_k23_deeds_faults) (k := K23.LEVEL) (by decide) rfl rfl (fun w h Y => by first | exact PySem.W.kIn_of Y | exact PySem.W.km_in_of Y) ?F
  case F =>
    intro w mg fa h KX G hmg
    refine' K23.all_mk KX G hmg ?oa0 ?opg0 ?ohd0 ?opo0 ?osa0 ?on0_0 ?on1_0 ?on2_0 ?on3_0 ?omk0 ?okc0 ?a0 ?l0 ?c0 ?k0 ?a1 ?l1 ?c1 ?k1 ?a2 ?l2 ?c2 ?k2 ?a3 ?l3 ?c3 ?k3 ?a4 ?l4 ?c4 ?k4 ?a5 ?l5 ?c5 ?k5 ?a6 ?l6 ?c6 ?k6 ?a7 ?l7 ?c7 ?k7 ?a8 ?l8 ?c8 ?k8 ?a9 ?l9 ?c9 ?k9 ?a10 ?l10 ?c10 ?k10 ?a11 ?b11 ?l11 ?c11 ?k11 ?a12 ?l12 ?c12 ?k12 ?a13 ?l13 ?c13 ?k13 ?a14 ?l14 ?c14 ?k14 ?a15 ?l15 ?c15 ?k15 ?a16 ?l16 ?c16 ?k16 ?a17 ?l17 ?c17 ?k17 ?a18 ?l18 ?c18 ?k18 ?a19 ?l19 ?c19 ?k19 ?a20 ?l20 ?c20 ?k20 ?a21 ?l21 ?c21 ?k21 ?a22 ?l22 ?c22 ?k22 ?a23 ?l23 ?c23 ?k23 ?a24 ?l24 ?c24 ?k24 ?a25 ?l25 ?c25 ?k25 ?a26 ?l26 ?c26 ?k26 ?a27 ?l27 ?c27 ?k27 ?a28 ?l28 ?c28 ?k28 ?z0 ?z1 ?z2 ?z3 ?z4 ?z5 ?z6 ?z7 ?z8 ?z9 ?z10 ?z11 ?z12 ?z13 ?z14 ?z15 ?z16 ?lit0 ?lit1 ?lit2 ?lit3 ?lit4 ?lit5 ?lit6 ?lit7 ?lit8 ?ka0 ?kb0 ?ka1 ?kb1 ?kv1_0 ?kl1_0 ?kv1_1 ?kl1_1 ?kv1_2 ?kl1_2 ?kv1_3 ?kl1_3 ?kv1_4 ?kl1_4 ?kv1_5 ?kl1_5 ?kv1_6 ?kl1_6 ?kv1_7 ?kl1_7 ?kv1_8 ?kl1_8 ?kv1_9 ?kl1_9 ?kv1_10 ?kl1_10 ?kv1_11 ?kl1_11 ?kv1_12 ?kl1_12 ?kv1_13 ?kl1_13 ?kv1_14 ?kl1_14 ?xa0 ?xL0 ?xsa0 ?xi0 ?xt0 ?xl0 ?xc0 ?xkf0 ?xn0_0 ?xn1_0 ?xv0 ?xk0 ?xex0 ?xty0 ?xhd0 ?xss0 ?xga0 ?xgg0 ?xcl0 ?xge0 ?xtk0 ?xmo0 (fun T base => K23.ok_law T base)
    (case oa0 => k_is)
    (case opg0 => k_is)
    (case ohd0 => k_is)
    (case opo0 => k_is)
    (case osa0 => k_is)
    (case on0_0 => k_is)
    (case on1_0 => k_is)
    (case on2_0 => k_is)
    (case on3_0 => k_is)
    (case omk0 => k_is)
    (case okc0 => k_is)
    (case a0 => k_is)
    (case l0 => k_is)
    (case c0 => k_is)
    (case k0 => k_is)
    (case a1 => k_is)
    (case l1 => k_is)
    (case c1 => k_is)
    (case k1 => k_is)
    (case a2 => k_is)
    (case l2 => k_is)
    (case c2 => k_is)
    (case k2 => k_is)
    (case a3 => k_is)
    (case l3 => k_is)
    (case c3 => k_is)
    (case k3 => k_is)
    (case a4 => k_is)
    (case l4 => k_is)
    (case c4 => k_is)
    (case k4 => k_is)
    (case a5 => k_is)
    (case l5 => k_is)
    (case c5 => k_is)
    (case k5 => k_is)
    (case a6 => k_is)
    (case l6 => k_is)
    (case c6 => k_is)
    (case k6 => k_is)
    (case a7 => k_is)
    (case l7 => k_is)
    (case c7 => k_is)
    (case k7 => k_is)
    (case a8 => k_is)
    (case l8 => k_is)
    (case c8 => k_is)
    (case k8 => k_is)
    (case a9 => k_is)
    (case l9 => k_is)
    (case c9 => k_is)
    (case k9 => k_is)
    (case a10 => k_is)
    (case l10 => k_is)
    (case c10 => k_is)
    (case k10 => k_is)
    (case a11 => k_is)
    (case b11 => k_is)
    (case l11 => k_is)
    (case c11 => k_is)
    (case k11 => k_is)
    (case a12 => k_is)
    (case l12 => k_is)
    (case c12 => k_is)
    (case k12 => k_is)
    (case a13 => k_is)
    (case l13 => k_is)
    (case c13 => k_is)
    (case k13 => k_is)
    (case a14 => k_is)
    (case l14 => k_is)
    (case c14 => k_is)
    (case k14 => k_is)
    (case a15 => k_is)
    (case l15 => k_is)
    (case c15 => k_is)
    (case k15 => k_is)
    (case a16 => k_is)
    (case l16 => k_is)
    (case c16 => k_is)
    (case k16 => k_is)
    (case a17 => k_is)
    (case l17 => k_is)
    (case c17 => k_is)
    (case k17 => k_is)
    (case a18 => k_is)
    (case l18 => k_is)
    (case c18 => k_is)
    (case k18 => k_is)
    (case a19 => k_is)
    (case l19 => k_is)
    (case c19 => k_is)
    (case k19 => k_is)
    (case a20 => k_is)
    (case l20 => k_is)
    (case c20 => k_is)
    (case k20 => k_is)
    (case a21 => k_is)
    (case l21 => k_is)
    (case c21 => k_is)
    (case k21 => k_is)
    (case a22 => k_is)
    (case l22 => k_is)
    (case c22 => k_is)
    (case k22 => k_is)
    (case a23 => k_is)
    (case l23 => k_is)
    (case c23 => k_is)
    (case k23 => k_is)
    (case a24 => k_is)
    (case l24 => k_is)
    (case c24 => k_is)
    (case k24 => k_is)
    (case a25 => k_is)
    (case l25 => k_is)
    (case c25 => k_is)
    (case k25 => k_is)
    (case a26 => k_is)
    (case l26 => k_is)
    (case c26 => k_is)
    (case k26 => k_is)
    (case a27 => k_is)
    (case l27 => k_is)
    (case c27 => k_is)
    (case k27 => k_is)
    (case a28 => k_is)
    (case l28 => k_is)
    (case c28 => k_is)
    (case k28 => k_is)
    (case z0 => k_is)
    (case z1 => k_is)
    (case z2 => k_is)
    (case z3 => k_is)
    (case z4 => k_is)
    (case z5 => k_is)
    (case z6 => k_is)
    (case z7 => k_is)
    (case z8 => k_is)
    (case z9 => k_is)
    (case z10 => k_is)
    (case z11 => k_is)
    (case z12 => k_is)
    (case z13 => k_is)
    (case z14 => k_is)
    (case z15 => k_is)
    (case z16 => k_is)
    (case lit0 => k_is)
    (case lit1 => k_is)
    (case lit2 => k_is)
    (case lit3 => k_is)
    (case lit4 => k_is)
    (case lit5 => k_is)
    (case lit6 => k_is)
    (case lit7 => k_is)
    (case lit8 => k_is)
    (case ka0 => k_is)
    (case kb0 => rfl)
    (case ka1 => k_is)
    (case kb1 => rfl)
    (case kv1_0 => k_is)
    (case kl1_0 => k_is)
    (case kv1_1 => k_is)
    (case kl1_1 => k_is)
    (case kv1_2 => k_is)
    (case kl1_2 => k_is)
    (case kv1_3 => k_is)
    (case kl1_3 => k_is)
    (case kv1_4 => k_is)
    (case kl1_4 => k_is)
    (case kv1_5 => k_is)
    (case kl1_5 => k_is)
    (case kv1_6 => k_is)
    (case kl1_6 => k_is)
    (case kv1_7 => k_is)
    (case kl1_7 => k_is)
    (case kv1_8 => k_is)
    (case kl1_8 => k_is)
    (case kv1_9 => k_is)
    (case kl1_9 => k_is)
    (case kv1_10 => k_is)
    (case kl1_10 => k_is)
    (case kv1_11 => k_is)
    (case kl1_11 => k_is)
    (case kv1_12 => k_is)
    (case kl1_12 => k_is)
    (case kv1_13 => k_is)
    (case kl1_13 => k_is)
    (case kv1_14 => k_is)
    (case kl1_14 => k_is)
    (case xa0 => k_is)
    (case xL0 => k_is)
    (case xsa0 => k_is)
    (case xi0 => k_is)
    (case xt0 => k_is)
    (case xl0 => k_is)
    (case xc0 => k_is)
    (case xkf0 => k_is)
    (case xn0_0 => k_is)
    (case xn1_0 => k_is)
    (case xv0 => k_is)
    (case xk0 => k_is)
    (case xex0 => k_is)
    (case xty0 => k_is)
    (case xhd0 => k_is)
    (case xss0 => first | rfl | k_is)
    (case xga0 => k_is)
    (case xgg0 => k_is)
    (case xcl0 => k_is)
    (case xge0 => k_is)
    (case xtk0 => k_is)
    (case xmo0 => k_is)
#print axioms PySem.Challenge.cw_whistleboard_k23_deeds_faults_holds
