import PyProof.Rows.All
import Wide.All
import OpenK.AllK
import Wide.FinOn
import PyProof.EqAt
import PyProof.EqKinds
import PyProof.TupleCall
import HandS.ForMost
import HandS.ForExc
import HandS.CallSlots
import HandS.Lambda
import HandS.TupAny
import HandS.Style
import HandS.IsInst
import HandS.Codes
import KE.SortData
import HandS.SetKeys
import HandS.SetFor
import HandS.Defaults
import HandS.SortInts
import HandS.Strs
import KE.KDictPairs
import PyProof.StrOps2
import HandS.Text
import HandS.TupMul
import HandS.IntHex
import HandS.HeadHook3
import HandS.RaiseMore
import HandS.Zip
import KE.KWords
import KE.KStrOpen
import KE.KIntText
import PyProof.Rows.StrCase
import KE.KExcInit
import KE.KExcIs
import HandS.ExcInit
import HandS.ExcField
import HandS.ExcOwn
import HandS.ExcIs
import KE.KDictList
import HandS.More
import HandS.Conv
import KE.IntTextLaws
import PyProof.StrLawsChain
import PyProof.StrLawsTight
import PyProof.Rows.StrItems
import HandS.MakeKw
import HandS.SortKw
import HandS.Deep
import KE.GoesEnum
import KE.GoesEnumKw
import KE.GoesMore
import HandS.HotCalls
import HandS.OwnEq
import HandS.EndTab
import HandS.EndOwn
import HandS.TryOnly
import HandS.Records
import PyProof.ListTruth
import HandS.FStr
import KE.DataCmp
import HandS.Dict
import KE.KDictWalk
import HandS.Exc
import KE.KTryMore
import HandS.StrMore
import PyProof.TupleOfSeq
import KE.SortKeyHeap
import KE.KSortKey
import KE.KNestM
import HandS.RaiseOp
import HandS.ExcBuiltin
import HandS.SuiteRaise
import HandS.RaiseFrom
import HandS.ExcInitHot
import KE.DataMinKey
import KE.KEqDict
import HandS.NoneIn
import PySem.Challenge.RW_whistleboard_k03_least_minutes
set_option Elab.async false
set_option linter.all false
set_option maxRecDepth 100000
set_option maxHeartbeats 0
namespace DL
open PySem L2
/-- (xtp: a tuple whose very object is known, without a dict of its own) data: None, truths, numbers, texts, tuples, lists that are changed no more, dicts that are changed no more, instances that are changed no more; exc: an exception in hand (its dict, its fields); ref: an object that may change, or one of the program's own -/
inductive D where
  | non | bl (b : Bool) | int (i : Int) | str (x : Str) | ty (n : String) | ref (a : Addr)
  | tup (xs : List D) | lst (xs : List D)
  | ktp (xs : List D)
  | xtp (xs : List D)
  | scr (ns : List Int)
  | dct (ks : List Key) (xs : List D)
  | ins (C : Addr) (ns : List Str) (xs : List D)
  | exc (a : Addr) (dx : Option Addr) (ns : List Str) (xs : List D)
  | fnv (f c : Addr) (q : Str) (vs : List V) (xs : List D)
  | fno (f : Addr) (o : HO) (c : Addr) (u : HO)
/-- objects that may change -/
inductive MO where
  | lst (xs : List D)
  | dK (kvs : List (Key × D))
  | dT (kvs : List (List Key × D))
  | ins (C : Addr) (fs : List (Str × D))
  | lk (ho : HO) (kvs : List (Key × D))
  | lkT (ho : HO) (kvs : List (List Key × D))
  | bag
  | tab (q : Str)
abbrev Mst := Addr → Option MO
/-- a key that is an int, or a text as they are -/
def kOk : Key → Prop
  | .inl _ => True
  | .inr x => x.length ≤ sizeLine ∧ PyData.strOk x = true
mutual
def Rep (K : PySem.W.Frag) (G : Hp) : D → V → Prop
  | .non, v => v = .non
  | .bl b, v => v = .bl b
  | .int i, v => v = .int i
  | .str x, v => v = .str x ∧ x.length ≤ sizeLine ∧ PyData.strOk x = true
  | .ty n, v => v = .ty n
  | .ref a, v => v = .ref a
  | .tup ds, v => ∃ a vs, v = .ref a ∧ G a = some (.tup vs) ∧ RepL K G ds vs ∧ vs.length ≤ sizeLine
  | .ktp ds, v => ∃ a vs, v = .ref a ∧ SqT K G a vs ∧ RepL K G ds vs ∧ vs.length ≤ sizeLine
  | .xtp ds, v => ∃ a o vs, v = .ref a ∧ G a = some (.frz o (.tup vs)) ∧ o.dict = none ∧ RepL K G ds vs ∧ vs.length ≤ sizeLine
  | .lst ds, v => ∃ a vs, v = .ref a ∧ G a = some (.lst vs) ∧ RepL K G ds vs ∧ vs.length ≤ sizeLine
  | .scr ns, v => ∃ a, v = .ref a ∧ SqL K G a (ns.map V.int) ∧ ns.length ≤ 63
  | .dct ks ds, v => ∃ a kvs, v = .ref a ∧ Rd G a (.dK kvs) ∧ kvs.map (·.1) = ks ∧ RepL K G ds (kvs.map (·.2)) ∧ kvs.length ≤ sizeLine ∧ ∀ k ∈ ks, kOk k
  | .ins C ns ds, v => ∃ a dx fs, v = .ref a ∧ G a = some (.ins C dx fs) ∧ fs.map (·.1) = ns ∧ RepL K G ds (fs.map (·.2))
  | .exc a dx ns ds, v => v = .ref a ∧ (ns = [] ∧ dx = none ∨ ∃ d fs, dx = some d ∧ G d = some (.xd fs) ∧ fs.map (·.1) = ns ∧ RepL K G ds (fs.map (·.2)))
  | .fnv f c q vs ds, v => v = .ref f ∧ G c = some (LamX.CodeO c q) ∧ RepL K G ds vs
  | .fno f o c u, v => v = .ref f ∧ G f = some o ∧ G c = some u
def RepL (K : PySem.W.Frag) (G : Hp) : List D → List V → Prop
  | [], vs => vs = []
  | d :: ds, vs => ∃ v r, vs = v :: r ∧ Rep K G d v ∧ RepL K G ds r
end
theorem same_rd {H H' : Hp} {a : Addr} {u : HO} (e : Same H H') (h : Rd H a u) : Rd H' a u := by
  rcases h with h | ⟨o, h⟩
  · exact .inl (e _ _ h)
  · exact .inr ⟨o, e _ _ h⟩
theorem same_t {K : PySem.W.Frag} {H H' : Hp} {a : Addr} {xs : List V} (e : Same H H') (h : SqT K H a xs) : SqT K H' a xs := by
  rcases h with h | h
  · exact .inl (same_rd e h)
  · exact .inr h
theorem same_l {K : PySem.W.Frag} {H H' : Hp} {a : Addr} {xs : List V} (e : Same H H') (h : SqL K H a xs) : SqL K H' a xs := e.seq h
mutual
theorem Rep.mono {K : PySem.W.Frag} {G G' : Hp} (e : Same G G') : ∀ (d : D) (v : V), Rep K G d v → Rep K G' d v
  | .non, _, h => h
  | .bl _, _, h => h
  | .int _, _, h => h
  | .str _, _, h => h
  | .ty _, _, h => h
  | .ref _, _, h => h
  | .tup ds, _, ⟨a, vs, h1, h2, h3, h4⟩ => ⟨a, vs, h1, e _ _ h2, RepL.mono e ds vs h3, h4⟩
  | .ktp ds, _, ⟨a, vs, h1, h2, h3, h4⟩ => ⟨a, vs, h1, same_t e h2, RepL.mono e ds vs h3, h4⟩
  | .xtp ds, _, ⟨a, o, vs, h1, h2, h3, h4, h5⟩ => ⟨a, o, vs, h1, e _ _ h2, h3, RepL.mono e ds vs h4, h5⟩
  | .lst ds, _, ⟨a, vs, h1, h2, h3, h4⟩ => ⟨a, vs, h1, e _ _ h2, RepL.mono e ds vs h3, h4⟩
  | .scr _, _, ⟨a, h1, h2, h3⟩ => ⟨a, h1, same_l e h2, h3⟩
  | .dct _ ds, _, ⟨a, kvs, h1, h2, h3, h4, h5, h6⟩ => ⟨a, kvs, h1, same_rd e h2, h3, RepL.mono e ds _ h4, h5, h6⟩
  | .ins _ _ ds, _, ⟨a, dx, fs, h1, h2, h3, h4⟩ => ⟨a, dx, fs, h1, e _ _ h2, h3, RepL.mono e ds _ h4⟩
  | .exc _ _ _ ds, _, ⟨h0, h⟩ => ⟨h0, h.imp id fun ⟨d, fs, h1, h2, h3, h4⟩ => ⟨d, fs, h1, e _ _ h2, h3, RepL.mono e ds _ h4⟩⟩
  | .fnv _ _ _ vs ds, _, ⟨h1, h2, h3⟩ => ⟨h1, e _ _ h2, RepL.mono e ds vs h3⟩
  | .fno _ _ _ _, _, ⟨h1, h2, h3⟩ => ⟨h1, e _ _ h2, e _ _ h3⟩
theorem RepL.mono {K : PySem.W.Frag} {G G' : Hp} (e : Same G G') : ∀ (ds : List D) (vs : List V), RepL K G ds vs → RepL K G' ds vs
  | [], _, h => h
  | d :: ds, _, ⟨v, r, h1, h2, h3⟩ => ⟨v, r, h1, Rep.mono e d v h2, RepL.mono e ds r h3⟩
end
section
variable {K : PySem.W.Frag} {G G' H H' : Hp} {d : D} {ds : List D} {v : V} {vs : List V}
theorem RepL.nil : RepL K G [] [] := rfl
theorem RepL.cons (h : Rep K G d v) (r : RepL K G ds vs) : RepL K G (d :: ds) (v :: vs) := ⟨v, vs, rfl, h, r⟩
theorem RepL.length : ∀ {ds : List D} {vs : List V}, RepL K G ds vs → vs.length = ds.length
  | [], _, h => by cases h; rfl
  | d :: ds, _, ⟨v, r, h1, h2, h3⟩ => by cases h1; simp [RepL.length h3]
theorem RepL.get : ∀ {ds : List D} {vs : List V} {i : Nat} {d : D}, RepL K G ds vs → ds[i]? = some d → ∃ v, vs[i]? = some v ∧ Rep K G d v
  | [], _, _, _, h, e => by simp at e
  | d :: ds, _, 0, _, ⟨v, r, h1, h2, h3⟩, e => by cases h1; simp at e; subst e; exact ⟨v, rfl, h2⟩
  | d :: ds, _, i + 1, _, ⟨v, r, h1, h2, h3⟩, e => by
    cases h1
    obtain ⟨u, a, b⟩ := RepL.get (i := i) h3 (by simpa using e)
    exact ⟨u, by simpa using a, b⟩
theorem RepL.getV : ∀ {ds : List D} {vs : List V} {i : Nat} {v : V}, RepL K G ds vs → vs[i]? = some v → ∃ d, ds[i]? = some d ∧ Rep K G d v
  | [], _, _, _, h, e => by cases h; simp at e
  | d :: ds, _, 0, _, ⟨v, r, h1, h2, h3⟩, e => by cases h1; simp at e; subst e; exact ⟨d, rfl, h2⟩
  | d :: ds, _, i + 1, _, ⟨v, r, h1, h2, h3⟩, e => by
    cases h1
    obtain ⟨u, a, b⟩ := RepL.getV (i := i) h3 (by simpa using e)
    exact ⟨u, by simpa using a, b⟩
theorem RepL.append : ∀ {ds es : List D} {vs us : List V}, RepL K G ds vs → RepL K G es us → RepL K G (ds ++ es) (vs ++ us)
  | [], _, _, _, h, r => by cases h; simpa using r
  | d :: ds, _, _, _, ⟨v, q, h1, h2, h3⟩, r => by
    cases h1
    exact ⟨v, _, rfl, h2, RepL.append h3 r⟩
theorem RepL.take : ∀ {ds : List D} {vs : List V} (n : Nat), RepL K G ds vs → RepL K G (ds.take n) (vs.take n)
  | [], _, n, h => by cases h; simp; rfl
  | d :: ds, _, 0, h => by simp; rfl
  | d :: ds, _, n + 1, ⟨v, q, h1, h2, h3⟩ => by
    cases h1
    exact ⟨v, _, rfl, h2, RepL.take n h3⟩
theorem RepL.drop : ∀ {ds : List D} {vs : List V} (n : Nat), RepL K G ds vs → RepL K G (ds.drop n) (vs.drop n)
  | [], _, n, h => by cases h; simp; rfl
  | d :: ds, _, 0, h => by simpa using h
  | d :: ds, _, n + 1, ⟨v, q, h1, h2, h3⟩ => by
    cases h1
    simpa using RepL.drop n h3
theorem RepL.set : ∀ {ds : List D} {vs : List V} (n : Nat), RepL K G ds vs → Rep K G d v → RepL K G (ds.set n d) (vs.set n v)
  | [], _, n, h, _ => by cases h; simp; rfl
  | e :: ds, _, 0, ⟨w, q, h1, h2, h3⟩, r => by cases h1; exact ⟨v, _, rfl, r, h3⟩
  | e :: ds, _, n + 1, ⟨w, q, h1, h2, h3⟩, r => by
    cases h1
    exact ⟨w, _, rfl, h2, RepL.set n h3 r⟩
theorem RepL.reverse : ∀ {ds : List D} {vs : List V}, RepL K G ds vs → RepL K G ds.reverse vs.reverse
  | [], _, h => by cases h; simp; rfl
  | d :: ds, _, ⟨v, q, h1, h2, h3⟩ => by
    cases h1
    rw [List.reverse_cons, List.reverse_cons]
    exact RepL.append (RepL.reverse h3) (RepL.cons h2 rfl)
end
/-- what a mutable object is -/
def RepM (K : PySem.W.Frag) (G H : Hp) (a : Addr) : MO → Prop
  | .lst ds => ∃ vs, H a = some (.lst vs) ∧ RepL K G ds vs ∧ vs.length ≤ sizeLine
  | .dK kvs => ∃ kv : List (Key × V), H a = some (.dK kv) ∧ kv.map (·.1) = kvs.map (·.1) ∧ RepL K G (kvs.map (·.2)) (kv.map (·.2)) ∧ kv.length ≤ sizeLine ∧ ∀ q ∈ kvs, kOk q.1
  | .dT kvs => ∃ kv : List (List Key × V), H a = some (.dT kv) ∧ kv.map (·.1) = kvs.map (·.1) ∧ RepL K G (kvs.map (·.2)) (kv.map (·.2)) ∧ kv.length ≤ sizeLine ∧ ∀ q ∈ kvs, q.1.length ≤ sizeLine ∧ ∀ k ∈ q.1, kOk k
  | .ins C fs => ∃ dx fv, H a = some (.ins C dx fv) ∧ fv.map (·.1) = fs.map (·.1) ∧ RepL K G (fs.map (·.2)) (fv.map (·.2))
  | .lk ho kvs => ∃ (o : Obj) (kv : List (Key × V)), ho = .frz o (.dK kv) ∧ H a = some ho ∧ kv.map (·.1) = kvs.map (·.1) ∧ RepL K G (kvs.map (·.2)) (kv.map (·.2)) ∧ kv.length ≤ sizeLine ∧ ∀ q ∈ kvs, kOk q.1
  | .lkT ho kvs => ∃ (o : Obj) (kv : List (List Key × V)), ho = .frz o (.dT kv) ∧ H a = some ho ∧ kv.map (·.1) = kvs.map (·.1) ∧ RepL K G (kvs.map (·.2)) (kv.map (·.2)) ∧ kv.length ≤ sizeLine ∧ ∀ q ∈ kvs, q.1.length ≤ sizeLine ∧ ∀ k ∈ q.1, kOk k
  | .bag => ∃ g m : Int, H a = some (.lst [.int g, .int m]) ∧ 0 ≤ g ∧ 0 ≤ m ∧ m < 2147483648
  | .tab q => (∀ b ps, G b ≠ some (.tbl ps)) ∧ ∃ ps, H a = some (.tbl ps) ∧ PySem.TriplesOk ps.toList ∧ ∀ (pos : Pos) (cv : Value), codeAmong pos ps.toList = some cv → ∃ c, cv = .ref c ∧ G c = some (LamX.CodeO c q)
/-- no tables are known for good -/
def NoTab (G G' : Hp) : Prop := (∀ b ps, G b ≠ some (.tbl ps)) → ∀ b ps, G' b ≠ some (.tbl ps)
theorem NoTab.refl (G : Hp) : NoTab G G := fun h => h
theorem NoTab.upd {G : Hp} {a : Addr} {o : HO} (ho : ∀ ps, o ≠ .tbl ps) : NoTab G (L2.upd G a o) := fun h b ps e => by
  by_cases z : b = a
  · subst z; rw [upd_same] at e; cases e; exact ho ps rfl
  · rw [upd_ne z] at e; exact h b ps e
/-- the mutable objects stand in H, apart from what is known for good (G) -/
def MemOk (K : PySem.W.Frag) (G H : Hp) (M : Mst) : Prop := ∀ a o, M a = some o → G a = none ∧ RepM K G H a o
abbrev Rho := List (Option D)
/-- the slots, the heap and what is known of them -/
structure Sim (K : PySem.W.Frag) (G H : Hp) (p : Rho) (M : Mst) (s : St) : Prop where
  same : Same G H
  env : ∀ (i : Nat) (d : D), p[i]? = some (some d) → ∃ v, s[i]? = some (some v) ∧ Rep K G d v
  len : s.length = p.length
  mem : MemOk K G H M
/-- an exception: its class, its fields -/
structure DX where
  cls : Value
  fs : List (Str × D)
def RepX (K : PySem.W.Frag) (G : Hp) (x : DX) (cls : Value) (dx : Option Addr) : Prop :=
  cls = x.cls ∧ (x.fs = [] ∧ (∀ C, x.cls = .ref C → dx = none) ∨ ∃ d vf, dx = some d ∧ G d = some (.xd vf) ∧ vf.map (·.1) = x.fs.map (·.1) ∧ RepL K G (x.fs.map (·.2)) (vf.map (·.2)))
abbrev DK := D → Mst → Prop
abbrev DWt := DX → Rho → Mst → Prop
abbrev DTE := DWt → Rho → Mst → DK → Prop
abbrev DTT := DWt → Rho → Mst → (Bool → Mst → Prop) → Prop
abbrev DTA := DWt → Rho → Mst → (List D → Mst → Prop) → Prop
structure DEnds where
  nx : Rho → Mst → Prop
  rt : DK
  bk : Rho → Mst → Prop := fun _ _ => False
  ct : Rho → Mst → Prop := fun _ _ => False
abbrev DTS := DWt → DEnds → Rho → Mst → Prop
abbrev DTG := D → DWt → Rho → Mst → (Rho → Mst → Prop) → Prop
abbrev DTGs := List D → DWt → Rho → Mst → (Rho → Mst → Prop) → Prop
abbrev DOp := D → D → Mst → DK → Prop
abbrev DUn := D → Mst → DK → Prop
abbrev DCa := List D → Mst → DK → Prop
/-- a promise by data -/
abbrev DSp := List D → Mst → DK → (DX → Mst → Prop) → Prop
/-- the wish about exceptions -/
def WLink (K : PySem.W.Frag) (G : Hp) (DW : DWt) (W : WX) : Prop := ∀ G' H' p' M' s' x cls dx, Same G G' → Sim K G' H' p' M' s' → RepX K G' x cls dx → DW x p' M' → W cls dx s' H'
theorem WLink.mono {K : PySem.W.Frag} {G G' : Hp} {DW : DWt} {W : WX} (e : Same G G') (h : WLink K G DW W) : WLink K G' DW W :=
  fun G2 H' p' M' s' x cls dx e2 => h G2 H' p' M' s' x cls dx (e.trans e2)
def RefE (K : PySem.W.Frag) (W : WX) (t : TE) (q : DTE) : Prop := ∀ DW G H p M s (Q : DK) (Q' : VK), WLink K G DW W → Sim K G H p M s → q DW p M Q →
  (∀ G' H' M' d v, Same G G' → Sim K G' H' p M' s → Rep K G' d v → Q d M' → Q' v H') → t s H Q'
def RefT (K : PySem.W.Frag) (W : WX) (t : TT) (q : DTT) : Prop := ∀ DW G H p M s (Q : Bool → Mst → Prop) (Q' : Bool → Hp → Prop), WLink K G DW W → Sim K G H p M s → q DW p M Q →
  (∀ G' H' M' b, Same G G' → Sim K G' H' p M' s → Q b M' → Q' b H') → t s H Q'
def RefA (K : PySem.W.Frag) (W : WX) (t : TA) (q : DTA) : Prop := ∀ DW G H p M s (Q : List D → Mst → Prop) (Q' : List V → Hp → Prop), WLink K G DW W → Sim K G H p M s → q DW p M Q →
  (∀ G' H' M' ds vs, Same G G' → Sim K G' H' p M' s → RepL K G' ds vs → Q ds M' → Q' vs H') → t s H Q'
structure EndsOk (K : PySem.W.Frag) (G : Hp) (DE : DEnds) (E : Ends) : Prop where
  nx : ∀ G' H' p' M' s', Same G G' → Sim K G' H' p' M' s' → DE.nx p' M' → E.nx s' H'
  rt : ∀ G' H' p' M' s' d v, Same G G' → Sim K G' H' p' M' s' → Rep K G' d v → DE.rt d M' → E.rt v H'
  bk : ∀ G' H' p' M' s', Same G G' → Sim K G' H' p' M' s' → DE.bk p' M' → E.bk s' H'
  ct : ∀ G' H' p' M' s', Same G G' → Sim K G' H' p' M' s' → DE.ct p' M' → E.ct s' H'
theorem EndsOk.mono {K : PySem.W.Frag} {G G' : Hp} {DE : DEnds} {E : Ends} (e : Same G G') (h : EndsOk K G DE E) : EndsOk K G' DE E :=
  ⟨fun G2 H' p' M' s' e2 => h.nx G2 H' p' M' s' (e.trans e2), fun G2 H' p' M' s' d v e2 => h.rt G2 H' p' M' s' d v (e.trans e2),
    fun G2 H' p' M' s' e2 => h.bk G2 H' p' M' s' (e.trans e2), fun G2 H' p' M' s' e2 => h.ct G2 H' p' M' s' (e.trans e2)⟩
def RefS (K : PySem.W.Frag) (W : WX) (t : TS) (q : DTS) : Prop := ∀ DW G H p M s (DE : DEnds) (E : Ends), WLink K G DW W → Sim K G H p M s → q DW DE p M → EndsOk K G DE E → t E s H
/-- rules by values -/
def RefR2 (K : PySem.W.Frag) (r : R2) (q : DOp) : Prop := ∀ G H p M s x y v u (Q : DK) (Q' : VK), Sim K G H p M s → Rep K G x v → Rep K G y u → q x y M Q →
  (∀ G' H' M' d w, Same G G' → Sim K G' H' p M' s → Rep K G' d w → Q d M' → Q' w H') → r v u H Q'
def RefU (K : PySem.W.Frag) (r : V → Hp → VK → Prop) (q : DUn) : Prop := ∀ G H p M s x v (Q : DK) (Q' : VK), Sim K G H p M s → Rep K G x v → q x M Q →
  (∀ G' H' M' d w, Same G G' → Sim K G' H' p M' s → Rep K G' d w → Q d M' → Q' w H') → r v H Q'
def RefC (K : PySem.W.Frag) (r : List V → Hp → VK → Prop) (q : DCa) : Prop := ∀ G H p M s ds vs (Q : DK) (Q' : VK), Sim K G H p M s → RepL K G ds vs → q ds M Q →
  (∀ G' H' M' d w, Same G G' → Sim K G' H' p M' s → Rep K G' d w → Q d M' → Q' w H') → r vs H Q'
structure QE (X : Cx) (W : WX) (e : Expr) (t : TE) (q : DTE) : Prop where
  pe : PE X e t
  rf : RefE X.K W t q
structure QT (X : Cx) (W : WX) (e : Expr) (t : TT) (q : DTT) : Prop where
  pe : PT X e t
  rf : RefT X.K W t q
structure QW (X : Cx) (W : WX) (e : Expr) (t : TT) (q : DTT) : Prop where
  pe : PW X e t
  rf : RefT X.K W t q
structure QA (X : Cx) (W : WX) (es : List Expr) (t : TA) (q : DTA) : Prop where
  pe : PA X es t
  rf : RefA X.K W t q
structure QS (X : Cx) (W : WX) (st : Stmt) (t : TS) (q : DTS) : Prop where
  pe : PS X st t
  rf : RefS X.K W t q
structure QSs (X : Cx) (W : WX) (st : List Stmt) (t : TS) (q : DTS) : Prop where
  pe : PSs X st t
  rf : RefS X.K W t q
structure QOp (X : Cx) (f : Value → Value → Sem Value) (r : R2) (q : DOp) : Prop where
  op : OpR X f r
  rf : RefR2 X.K r q
structure QCa (X : Cx) (f : Value) (r : List V → Hp → VK → Prop) (q : DCa) : Prop where
  op : CallR X f r
  rf : RefC X.K r q
theorem QW.t {X : Cx} {W : WX} {e : Expr} {t : TT} {q : DTT} (h : QW X W e t q) : QT X W e t q := ⟨h.pe.pt, h.rf⟩
def put (M : Mst) (a : Addr) (o : MO) : Mst := fun b => if b = a then some o else M b
def del (M : Mst) (a : Addr) : Mst := fun b => if b = a then none else M b
section
variable {M : Mst} {a b : Addr} {o u : MO}
@[simp] theorem put_same : put M a o a = some o := by simp [put]
theorem put_ne (h : b ≠ a) : put M a o b = M b := by simp [put, h]
@[simp] theorem put_put : put (put M a o) a u = put M a u := by
  funext c; unfold put; split <;> rfl
@[simp] theorem del_put (h : M a = none) : del (put M a o) a = M := by
  funext c
  unfold del put
  split
  · next e => rw [e, h]
  · rfl
theorem put_comm (h : a ≠ b) : put (put M a o) b u = put (put M b u) a o := by
  funext c; unfold put
  by_cases h1 : c = b
  · by_cases h2 : c = a
    · exact absurd (h2.symm.trans h1) h
    · simp [h1, h2, Ne.symm h]
  · simp [h1]
theorem put_id (h : M a = some o) : put M a o = M := by
  funext c; unfold put; split
  · next e => rw [e, h]
  · rfl
end
section
variable {K : PySem.W.Frag} {G G' H H' : Hp} {p : Rho} {M : Mst} {s : St} {a : Addr} {o : HO} {mo : MO}
theorem RepM.mono {a : Addr} {mo : MO} (e : Same G G') (h : RepM K G H a mo) (hh : H' a = H a) (ht : NoTab G G') : RepM K G' H' a mo := by
  cases mo with
  | lst ds => obtain ⟨vs, h1, h2, h3⟩ := h; exact ⟨vs, hh.trans h1, RepL.mono e _ _ h2, h3⟩
  | dK kvs => obtain ⟨vs, h1, h2, h3, h4⟩ := h; exact ⟨vs, hh.trans h1, h2, RepL.mono e _ _ h3, h4⟩
  | dT kvs => obtain ⟨vs, h1, h2, h3, h4⟩ := h; exact ⟨vs, hh.trans h1, h2, RepL.mono e _ _ h3, h4⟩
  | ins C fs => obtain ⟨dx, vs, h1, h2, h3⟩ := h; exact ⟨dx, vs, hh.trans h1, h2, RepL.mono e _ _ h3⟩
  | lk ho kvs => obtain ⟨o, vs, h0, h1, h2, h3, h4⟩ := h; exact ⟨o, vs, h0, hh.trans h1, h2, RepL.mono e _ _ h3, h4⟩
  | lkT ho kvs => obtain ⟨o, vs, h0, h1, h2, h3, h4⟩ := h; exact ⟨o, vs, h0, hh.trans h1, h2, RepL.mono e _ _ h3, h4⟩
  | bag => obtain ⟨g, m, h1, h2⟩ := h; exact ⟨g, m, hh.trans h1, h2⟩
  | tab q => obtain ⟨nt, ps, h1, h2, h3⟩ := h; exact ⟨ht nt, ps, hh.trans h1, h2, fun pos cv hc => by obtain ⟨c, e1, e2⟩ := h3 pos cv hc; exact ⟨c, e1, e _ _ e2⟩⟩
theorem RepM.there (h : RepM K G H a mo) : ∃ o, H a = some o := by
  cases mo with
  | lst ds => obtain ⟨vs, h1, _⟩ := h; exact ⟨_, h1⟩
  | dK ds => obtain ⟨vs, h1, _⟩ := h; exact ⟨_, h1⟩
  | dT ds => obtain ⟨vs, h1, _⟩ := h; exact ⟨_, h1⟩
  | ins C ds => obtain ⟨dx, vs, h1, _⟩ := h; exact ⟨_, h1⟩
  | lk ho ds => obtain ⟨o, vs, _, h1, _⟩ := h; exact ⟨_, h1⟩
  | lkT ho ds => obtain ⟨o, vs, _, h1, _⟩ := h; exact ⟨_, h1⟩
  | bag => obtain ⟨g, vs, h1, _⟩ := h; exact ⟨_, h1⟩
  | tab q => obtain ⟨_, ps, h1, _⟩ := h; exact ⟨_, h1⟩
theorem MemOk.fresh (h : MemOk K G H M) (e : H a = none) : M a = none := by
  cases q : M a with
  | none => rfl
  | some u =>
    obtain ⟨o, r⟩ := (h a u q).2.there
    rw [e] at r; cases r
theorem Same.upd (e : Same G H) (hn : H a = none) : Same (upd G a o) (upd H a o) := fun b u q => by
  by_cases h : b = a
  · subst h; rw [upd_same] at q ⊢; exact q
  · rw [upd_ne h] at q ⊢; exact e _ _ q
theorem same_new (hn : H a = none) : Same H (upd H a o) := fun b u q => by rw [upd_ne (ne_of_none q hn)]; exact q
/-- what is frozen grows by what is not mutable -/
theorem MemOk.grow (h : MemOk K G H M) (e : Same G G') (ht : NoTab G G') (hk : ∀ b u, M b = some u → H' b = H b) (hg : ∀ b u, M b = some u → G' b = none) : MemOk K G' H' M := fun b u q =>
  ⟨hg b u q, (h b u q).2.mono e (hk b u q) ht⟩
/-- a new object that will not change -/
theorem Sim.made (S : Sim K G H p M s) (hn : H a = none) (ho : ∀ ps, o ≠ .tbl ps := by intro _ h; cases h) : Same G (L2.upd G a o) ∧ Sim K (L2.upd G a o) (L2.upd H a o) p M s := by
  have gn : G a = none := S.same.free hn
  have mn : M a = none := S.mem.fresh hn
  have e : Same G (L2.upd G a o) := same_new gn
  have ne : ∀ b u, M b = some u → b ≠ a := fun b u q z => by rw [z, mn] at q; cases q
  refine ⟨e, Same.upd S.same hn, fun i d q => ?_, S.len, S.mem.grow e (.upd ho) (fun b u q => upd_ne (ne b u q)) (fun b u q => by rw [upd_ne (ne b u q)]; exact (S.mem b u q).1)⟩
  obtain ⟨v, h1, h2⟩ := S.env i d q
  exact ⟨v, h1, Rep.mono e _ _ h2⟩
/-- a mutable object is new, or changes -/
theorem Sim.put (S : Sim K G H p M s) (hg : G a = none) (h : RepM K G (L2.upd H a o) a mo) : Sim K G (L2.upd H a o) p (put M a mo) s := by
  refine ⟨fun b u q => ?_, S.env, S.len, fun b u q => ?_⟩
  · rw [upd_ne (ne_of_none q hg)]; exact S.same b u q
  · by_cases e : b = a
    · subst e; rw [put_same] at q; cases q; exact ⟨hg, h⟩
    · rw [put_ne e] at q
      exact ⟨(S.mem b u q).1, (S.mem b u q).2.mono (Same.refl G) (upd_ne e) (.refl G)⟩
/-- a mutable list will change no more -/
theorem Sim.freeze {ds : List D} (S : Sim K G H p M s) (h : M a = some (.lst ds)) : ∃ G', Same G G' ∧ Sim K G' H p (del M a) s ∧ Rep K G' (.lst ds) (.ref a) := by
  obtain ⟨gn, vs, h1, h2, h3⟩ := S.mem _ _ h
  have e : Same G (L2.upd G a (.lst vs)) := same_new gn
  refine ⟨L2.upd G a (.lst vs), e, ⟨fun b u q => ?_, fun i d q => ?_, S.len, fun b u q => ?_⟩, a, vs, rfl, upd_same, RepL.mono e _ _ h2, h3⟩
  · by_cases z : b = a
    · subst z; rw [upd_same] at q; cases q; exact h1
    · rw [upd_ne z] at q; exact S.same _ _ q
  · obtain ⟨v, r1, r2⟩ := S.env i d q
    exact ⟨v, r1, Rep.mono e _ _ r2⟩
  · by_cases z : b = a
    · subst z; simp [del] at q
    · have q' : M b = some u := by simpa [del, z] using q
      exact ⟨by rw [upd_ne z]; exact (S.mem b u q').1, (S.mem b u q').2.mono e rfl (.upd fun _ h => by cases h)⟩
theorem Sim.freezeD {kvs : List (Key × D)} (S : Sim K G H p M s) (h : M a = some (.dK kvs)) : ∃ G', Same G G' ∧ Sim K G' H p (del M a) s ∧ Rep K G' (.dct (kvs.map (·.1)) (kvs.map (·.2))) (.ref a) := by
  obtain ⟨gn, vs, h1, h2, h3, h4, h5⟩ := S.mem _ _ h
  have e : Same G (L2.upd G a (.dK vs)) := same_new gn
  refine ⟨L2.upd G a (.dK vs), e, ⟨fun b u q => ?_, fun i d q => ?_, S.len, fun b u q => ?_⟩, a, vs, rfl, .inl upd_same, h2, RepL.mono e _ _ h3, h4, fun k hk => by obtain ⟨q, q1, rfl⟩ := List.mem_map.mp hk; exact h5 q q1⟩
  · by_cases z : b = a
    · subst z; rw [upd_same] at q; cases q; exact h1
    · rw [upd_ne z] at q; exact S.same _ _ q
  · obtain ⟨v, r1, r2⟩ := S.env i d q
    exact ⟨v, r1, Rep.mono e _ _ r2⟩
  · by_cases z : b = a
    · subst z; simp [del] at q
    · have q' : M b = some u := by simpa [del, z] using q
      exact ⟨by rw [upd_ne z]; exact (S.mem b u q').1, (S.mem b u q').2.mono e rfl (.upd fun _ h => by cases h)⟩
theorem Sim.freezeI {C : Addr} {fs : List (Str × D)} (S : Sim K G H p M s) (h : M a = some (.ins C fs)) : ∃ G', Same G G' ∧ Sim K G' H p (del M a) s ∧ Rep K G' (.ins C (fs.map (·.1)) (fs.map (·.2))) (.ref a) := by
  obtain ⟨gn, dx, vs, h1, h2, h3⟩ := S.mem _ _ h
  have e : Same G (L2.upd G a (.ins C dx vs)) := same_new gn
  refine ⟨L2.upd G a (.ins C dx vs), e, ⟨fun b u q => ?_, fun i d q => ?_, S.len, fun b u q => ?_⟩, a, dx, vs, rfl, upd_same, h2, RepL.mono e _ _ h3⟩
  · by_cases z : b = a
    · subst z; rw [upd_same] at q; cases q; exact h1
    · rw [upd_ne z] at q; exact S.same _ _ q
  · obtain ⟨v, r1, r2⟩ := S.env i d q
    exact ⟨v, r1, Rep.mono e _ _ r2⟩
  · by_cases z : b = a
    · subst z; simp [del] at q
    · have q' : M b = some u := by simpa [del, z] using q
      exact ⟨by rw [upd_ne z]; exact (S.mem b u q').1, (S.mem b u q').2.mono e rfl (.upd fun _ h => by cases h)⟩
end
end DL
namespace DL
open PySem L2
/-- what a mutable object holds now -/
def res (M : Mst) : D → D
  | .ref a => match M a with
    | some (.lst ds) => .lst ds
    | some (.dK kvs) => .dct (kvs.map (·.1)) (kvs.map (·.2))
    | some (.lk _ kvs) => .dct (kvs.map (·.1)) (kvs.map (·.2))
    | some (.ins C fs) => .ins C (fs.map (·.1)) (fs.map (·.2))
    | _ => .ref a
  | .ktp ds => .tup ds
  | .xtp ds => .tup ds
  | d => d
section
variable {M : Mst}
@[simp] theorem res_non : res M .non = .non := rfl
@[simp] theorem res_bl {b} : res M (.bl b) = .bl b := rfl
@[simp] theorem res_int {b} : res M (.int b) = .int b := rfl
@[simp] theorem res_str {b} : res M (.str b) = .str b := rfl
@[simp] theorem res_ty {b} : res M (.ty b) = .ty b := rfl
@[simp] theorem res_tup {b} : res M (.tup b) = .tup b := rfl
@[simp] theorem res_ktp {b} : res M (.ktp b) = .tup b := rfl
@[simp] theorem res_xtp {b} : res M (.xtp b) = .tup b := rfl
@[simp] theorem res_lst {b} : res M (.lst b) = .lst b := rfl
@[simp] theorem res_scr {b} : res M (.scr b) = .scr b := rfl
@[simp] theorem res_dct {b c} : res M (.dct b c) = .dct b c := rfl
@[simp] theorem res_exc {b c d e} : res M (.exc b c d e) = .exc b c d e := rfl
@[simp] theorem res_ins {b c d} : res M (.ins b c d) = .ins b c d := rfl
end
section
variable {K : PySem.W.Frag} {G H : Hp} {p : Rho} {M : Mst} {s : L2.St} {d : D} {v : V}
theorem as_lst {ds : List D} (S : Sim K G H p M s) (r : Rep K G d v) (h : res M d = .lst ds) : ∃ a vs, v = .ref a ∧ H a = some (.lst vs) ∧ RepL K G ds vs ∧ vs.length ≤ sizeLine := by
  cases d with
  | lst es =>
    cases h
    obtain ⟨a, vs, h1, h2, h3, h4⟩ := r
    exact ⟨a, vs, h1, S.same _ _ h2, h3, h4⟩
  | ref a =>
    simp only [res] at h
    split at h
    · next es e =>
      cases h
      obtain ⟨gn, vs, h1, h2, h3⟩ := S.mem _ _ e
      exact ⟨a, vs, r, h1, h2, h3⟩
    · cases h
    · cases h
    · cases h
    · cases h
  | _ => cases h
theorem as_tup {ds : List D} (S : Sim K G H p M s) (r : Rep K G d v) (h : res M d = .tup ds) : ∃ a vs, v = .ref a ∧ SqT K H a vs ∧ RepL K G ds vs ∧ vs.length ≤ sizeLine := by
  cases d with
  | tup es =>
    cases h
    obtain ⟨a, vs, h1, h2, h3, h4⟩ := r
    exact ⟨a, vs, h1, .inl (.inl (S.same _ _ h2)), h3, h4⟩
  | ktp es =>
    cases h
    obtain ⟨a, vs, h1, h2, h3, h4⟩ := r
    exact ⟨a, vs, h1, same_t S.same h2, h3, h4⟩
  | xtp es =>
    cases h
    obtain ⟨a, o, vs, h1, h2, h3, h4, h5⟩ := r
    exact ⟨a, vs, h1, .inl (.inr ⟨o, S.same _ _ h2⟩), h4, h5⟩
  | ref a =>
    simp only [res] at h
    split at h <;> cases h
  | _ => cases h
theorem as_str {x : Str} (r : Rep K G d v) (h : res M d = .str x) : v = .str x ∧ x.length ≤ sizeLine ∧ PyData.strOk x = true := by
  cases d with
  | str es => cases h; exact r
  | ref a =>
    simp only [res] at h
    split at h <;> cases h
  | _ => cases h
theorem as_int {x : Int} (r : Rep K G d v) (h : res M d = .int x) : v = .int x := by
  cases d with
  | int es => cases h; exact r
  | ref a =>
    simp only [res] at h
    split at h <;> cases h
  | _ => cases h
theorem as_bl {x : Bool} (r : Rep K G d v) (h : res M d = .bl x) : v = .bl x := by
  cases d with
  | bl es => cases h; exact r
  | ref a =>
    simp only [res] at h
    split at h <;> cases h
  | _ => cases h
theorem as_dct {ks : List Key} {ds : List D} (S : Sim K G H p M s) (r : Rep K G d v) (h : res M d = .dct ks ds) :
    ∃ a kvs, v = .ref a ∧ Rd H a (.dK kvs) ∧ kvs.map (·.1) = ks ∧ RepL K G ds (kvs.map (·.2)) ∧ kvs.length ≤ sizeLine ∧ ∀ k ∈ ks, kOk k := by
  cases d with
  | dct es fs =>
    cases h
    obtain ⟨a, vs, h1, h2, h3, h4, h5⟩ := r
    exact ⟨a, vs, h1, same_rd S.same h2, h3, h4, h5⟩
  | ref a =>
    simp only [res] at h
    split at h
    · cases h
    · next es e =>
      cases h
      obtain ⟨gn, vs, h1, h2, h3, h4, h5⟩ := S.mem _ _ e
      exact ⟨a, vs, r, .inl h1, h2, h3, h4, fun k hk => by obtain ⟨q, q1, rfl⟩ := List.mem_map.mp hk; exact h5 q q1⟩
    · next es e =>
      cases h
      obtain ⟨gn, o, vs, h0, h1, h2, h3, h4, h5⟩ := S.mem _ _ e
      exact ⟨a, vs, r, .inr ⟨o, by rw [← h0]; exact h1⟩, h2, h3, h4, fun k hk => by obtain ⟨q, q1, rfl⟩ := List.mem_map.mp hk; exact h5 q q1⟩
    · cases h
    · cases h
  | _ => cases h
theorem as_ins {C : Addr} {ns : List Str} {ds : List D} (S : Sim K G H p M s) (r : Rep K G d v) (h : res M d = .ins C ns ds) :
    ∃ a dx fs, v = .ref a ∧ H a = some (.ins C dx fs) ∧ fs.map (·.1) = ns ∧ RepL K G ds (fs.map (·.2)) := by
  cases d with
  | ins es fs gs =>
    cases h
    obtain ⟨a, dx, vs, h1, h2, h3, h4⟩ := r
    exact ⟨a, dx, vs, h1, S.same _ _ h2, h3, h4⟩
  | ref a =>
    simp only [res] at h
    split at h
    · cases h
    · cases h
    · cases h
    · next es e =>
      cases h
      obtain ⟨gn, dx, vs, h1, h2, h3⟩ := S.mem _ _ e
      exact ⟨a, dx, vs, r, h1, h2, h3⟩
    · cases h
  | _ => cases h
end
/-- a list that is made: to be changed later (m), or not -/
def newL (m : Bool) (ds : List D) (M : Mst) (Q : DK) : Prop :=
  match m with
  | true => ∀ a, M a = none → Q (.ref a) (put M a (.lst ds))
  | false => Q (.lst ds) M
@[simp] theorem newL_t {ds M Q} : newL true ds M Q = ∀ a, M a = none → Q (.ref a) (put M a (.lst ds)) := rfl
@[simp] theorem newL_f {ds M Q} : newL false ds M Q = Q (.lst ds) M := rfl
section
variable {K : PySem.W.Frag} {G H : Hp} {p : Rho} {M : Mst} {s : L2.St} {d : D} {v : V} {a : Addr}
theorem newL_ok {m : Bool} {ds : List D} {vs : List V} {Q : DK} {Q' : VK} (S : Sim K G H p M s) (hn : H a = none) (r : RepL K G ds vs) (hl : vs.length ≤ sizeLine) (h : newL m ds M Q)
    (k : ∀ G' H' M' d w, Same G G' → Sim K G' H' p M' s → Rep K G' d w → Q d M' → Q' w H') : Q' (.ref a) (upd H a (.lst vs)) := by
  cases m with
  | true =>
    have h1 := h a (S.mem.fresh hn)
    exact k G _ _ (.ref a) _ (Same.refl _) (S.put (mo := .lst ds) (S.same.free hn) ⟨vs, upd_same, r, hl⟩) rfl h1
  | false =>
    obtain ⟨e, S'⟩ := S.made (o := .lst vs) hn
    exact k _ _ _ (.lst ds) _ e S' ⟨a, vs, rfl, upd_same, RepL.mono e _ _ r, hl⟩ h
theorem newT_ok {ds : List D} {vs : List V} {Q : DK} {Q' : VK} (S : Sim K G H p M s) (hn : H a = none) (r : RepL K G ds vs) (hl : vs.length ≤ sizeLine) (h : Q (.tup ds) M)
    (k : ∀ G' H' M' d w, Same G G' → Sim K G' H' p M' s → Rep K G' d w → Q d M' → Q' w H') : Q' (.ref a) (upd H a (.tup vs)) := by
  obtain ⟨e, S'⟩ := S.made (o := .tup vs) hn
  exact k _ _ _ (.tup ds) _ e S' ⟨a, vs, rfl, upd_same, RepL.mono e _ _ r, hl⟩ h
end
theorem sz1000 {n : Nat} (h : n ≤ 100000) : n ≤ sizeLine := Nat.le_trans h (by rw [sizeLine_eq]; decide)
@[simp] def qVar (i : Nat) : DTE := fun _ p M Q => match p[i]? with | some (some d) => Q d M | _ => False
@[simp] def qC (d : D) : DTE := fun _ _ M Q => Q d M
section
variable {X : Cx} {W : WX} {x : Str} {pos : Pos}
theorem qe_var {i : Nat} (h : PE X (.Name x pos) (tVar i)) : QE X W (.Name x pos) (tVar i) (qVar i) := by
  refine ⟨h, fun DW G H p M s Q Q' hw S q k => ?_⟩
  unfold qVar at q
  split at q
  · next d e =>
    obtain ⟨v, h1, h2⟩ := S.env i d e
    exact ⟨v, h1, k G H M d v (Same.refl _) S h2 q⟩
  · exact q.elim
theorem qv (i : Nat) (hN : X.N[i]? = some x := by rfl) (hv : Vis X.env.scope x := by first | exact Or.inl rfl | exact Or.inr (Or.inl rfl) | exact Or.inr (Or.inr rfl)) (hd : (x == ("__debug__" : Str)) = false := by decide)
    (hcd : (x == ("__classdict__" : Str)) = false := by decide) : QE X W (.Name x pos) (tVar i) (qVar i) := qe_var (pe_var hN hv hd hcd)
theorem qe_c {e : Expr} {v : V} {d : D} (h : PE X e (tC v)) (r : ∀ G, Rep X.K G d v) : QE X W e (tC v) (qC d) :=
  ⟨h, fun DW G H p M s Q Q' hw S q k => k G H M d v (Same.refl _) S (r G) q⟩
theorem q_int {i j pos} : QE X W (.Constant (.int i) j pos) (tC (.int i)) (qC (.int i)) := qe_c pe_int fun _ => rfl
theorem q_bl {i j pos} : QE X W (.Constant (.bool i) j pos) (tC (.bl i)) (qC (.bl i)) := qe_c pe_bl fun _ => rfl
theorem q_non {j pos} : QE X W (.Constant .none j pos) (tC .non) (qC .non) := qe_c pe_non fun _ => rfl
theorem q_str {i j pos} (h : (decide (i.length ≤ 100000) && PyData.strOk i) = true := by decide +kernel) : QE X W (.Constant (.str i) j pos) (tC (.str i)) (qC (.str i)) :=
  qe_c pe_str fun _ => by
    rw [Bool.and_eq_true] at h
    exact ⟨rfl, sz1000 (of_decide_eq_true h.1), h.2⟩
/-- a constant of the module, a def, a class -/
theorem q_glob {x : Str} {v : V} {d : D} {u : Value} {pos : Pos} (hg : Gl X x) (hm : X.mg x = some u) (r : RelV v u) (rd : ∀ G, Rep X.K G d v) (hd : (x == ("__debug__" : Str)) = false := by decide) : QE X W (.Name x pos) (tC v) (qC d) :=
  qe_c (pe_glob hg hm r hd) rd
end
@[simp] def qNil : DTA := fun _ _ M Q => Q [] M
@[simp] def qCons (qa : DTE) (qr : DTA) : DTA := fun DW p M Q => qa DW p M fun x M1 => qr DW p M1 fun xs M2 => Q (x :: xs) M2
@[simp] def qTup (qa : DTA) : DTE := fun DW p M Q => qa DW p M fun ds M1 => ds.length ≤ 100000 ∧ Q (.tup ds) M1
@[simp] def qLst (m : Bool) (qa : DTA) : DTE := fun DW p M Q => qa DW p M fun ds M1 => ds.length ≤ 100000 ∧ newL m ds M1 Q
section
variable {X : Cx} {W : WX} {e : Expr} {es : List Expr} {te : TE} {qe : DTE} {t : TA} {q : DTA} {pos : Pos}
theorem qa_nil : QA X W [] tNil qNil := ⟨pa_nil, fun DW G H p M s Q Q' hw S q k => k G H M [] [] (Same.refl _) S rfl q⟩
theorem qa_cons (ha : QE X W e te qe) (hr : QA X W es t q) (hs : starEach (e :: es) X.env = (false, eval e X.env) :: starEach es X.env := by rfl) : QA X W (e :: es) (tCons te t) (qCons qe q) :=
  ⟨pa_cons ha.pe hr.pe hs, fun DW G H p M s Q Q' hw S h k => ha.rf DW G H p M s _ _ hw S h fun G1 H1 M1 d v e1 S1 r1 h1 =>
    hr.rf DW G1 H1 p M1 s _ _ (hw.mono e1) S1 h1 fun G2 H2 M2 ds vs e2 S2 r2 h2 => k G2 H2 M2 _ _ (e1.trans e2) S2 (RepL.cons (Rep.mono e2 _ _ r1) r2) h2⟩
theorem q_tup {x1} (h : QA X W es t q) : QE X W (.Tuple es x1 pos) (tTup t) (qTup q) :=
  ⟨pe_tup h.pe, fun DW G H p M s Q Q' hw S hq k => h.rf DW G H p M s _ _ hw S hq fun G1 H1 M1 ds vs e1 S1 r1 ⟨hl, h1⟩ =>
    have z : vs.length ≤ sizeLine := by rw [r1.length]; exact sz1000 hl
    ⟨z, fun a ha => newT_ok S1 ha r1 z h1 fun G2 H2 M2 d w e2 => k G2 H2 M2 d w (e1.trans e2)⟩⟩
theorem q_lst (m : Bool) (h : QA X W es t q) : QE X W (.List es pos) (tLst t) (qLst m q) :=
  ⟨pe_lst h.pe, fun DW G H p M s Q Q' hw S hq k => h.rf DW G H p M s _ _ hw S hq fun G1 H1 M1 ds vs e1 S1 r1 ⟨hl, h1⟩ =>
    have z : vs.length ≤ sizeLine := by rw [r1.length]; exact sz1000 hl
    ⟨z, fun a ha => newL_ok S1 ha r1 z h1 fun G2 H2 M2 d w e2 => k G2 H2 M2 d w (e1.trans e2)⟩⟩
end
@[simp] def qOp (o : DOp) (qa qb : DTE) : DTE := fun DW p M Q => qa DW p M fun x M1 => qb DW p M1 fun y M2 => o x y M2 Q
@[simp] def qUn (o : DUn) (qa : DTE) : DTE := fun DW p M Q => qa DW p M fun x M1 => o x M1 Q
@[simp] def qCB (r : DCa) (qa : DTA) : DTE := fun DW p M Q => qa DW p M fun xs M1 => r xs M1 Q
section
variable {K : PySem.W.Frag} {W : WX}
theorem ref_op {r : R2} {o : DOp} {ta tb : TE} {qa qb : DTE} (hr : RefR2 K r o) (ha : RefE K W ta qa) (hb : RefE K W tb qb) : RefE K W (tOp r ta tb) (qOp o qa qb) :=
  fun DW G H p M s Q Q' hw S h k => ha DW G H p M s _ _ hw S h fun G1 H1 M1 d v e1 S1 r1 h1 =>
    hb DW G1 H1 p M1 s _ _ (hw.mono e1) S1 h1 fun G2 H2 M2 d2 v2 e2 S2 r2 h2 => hr G2 H2 p M2 s d d2 v v2 Q Q' S2 (Rep.mono e2 _ _ r1) r2 h2 fun G3 H3 M3 d w e3 => k G3 H3 M3 d w ((e1.trans e2).trans e3)
theorem ref_un {r : V → Hp → VK → Prop} {o : DUn} {ta : TE} {qa : DTE} (hr : RefU K r o) (ha : RefE K W ta qa) : RefE K W (tUn r ta) (qUn o qa) :=
  fun DW G H p M s Q Q' hw S h k => ha DW G H p M s _ _ hw S h fun G1 H1 M1 d v e1 S1 r1 h1 => hr G1 H1 p M1 s d v Q Q' S1 r1 h1 fun G3 H3 M3 d w e3 => k G3 H3 M3 d w (e1.trans e3)
theorem ref_cb {r : List V → Hp → VK → Prop} {o : DCa} {ta : TA} {qa : DTA} (hr : RefC K r o) (ha : RefA K W ta qa) : RefE K W (tCB r ta) (qCB o qa) :=
  fun DW G H p M s Q Q' hw S h k => ha DW G H p M s _ _ hw S h fun G1 H1 M1 d v e1 S1 r1 h1 => hr G1 H1 p M1 s d v Q Q' S1 r1 h1 fun G3 H3 M3 d w e3 => k G3 H3 M3 d w (e1.trans e3)
end
section
variable {X : Cx} {W : WX} {a b : Expr} {ta tb : TE} {qa qb : DTE} {pos : Pos}
theorem q_op {op : Operator} {r : R2} {o : DOp} (ho : QOp X (binaryOp op) r o) (ha : QE X W a ta qa) (hb : QE X W b tb qb) : QE X W (.BinOp a op b pos) (tOp r ta tb) (qOp o qa qb) := ⟨pe_op ho.op ha.pe hb.pe, ref_op ho.rf ha.rf hb.rf⟩
theorem q_cmp {op : CmpOp} {r : R2} {o : DOp} (ho : QOp X (compareOp op) r o) (ha : QE X W a ta qa) (hb : QE X W b tb qb) (hm : behindInMarks op b = false := by first | exact nomark _ | rfl) : QE X W (.Compare a [op] [b] pos) (tOp r ta tb) (qOp o qa qb) := ⟨pe_cmpR ho.op ha.pe hb.pe hm, ref_op ho.rf ha.rf hb.rf⟩
/-- a truth as a test -/
@[simp] def qTB (q : DTE) : DTT := fun DW p M Q => q DW p M fun d M1 => match d with | .bl b => Q b M1 | _ => False
theorem ref_tb {K : PySem.W.Frag} {t : TE} {q : DTE} (h : RefE K W t q) : RefT K W (tTest t) (qTB q) := fun DW G H p M s Q Q' hw S hq k => h DW G H p M s _ _ hw S hq fun G1 H1 M1 d v e1 S1 r1 h1 => by
  cases d with
  | bl b => cases r1; exact ⟨b, rfl, k G1 H1 M1 b e1 S1 h1⟩
  | _ => exact h1.elim
theorem ref_tb' {K : PySem.W.Frag} {t : TE} {q : DTE} (h : RefE K W t q) : RefT K W (tB t) (qTB q) := ref_tb h
theorem qt_cmp {op : CmpOp} {r : R2} {o : DOp} (ho : QOp X (compareOp op) r o) (ha : QE X W a ta qa) (hb : QE X W b tb qb) (hm : behindInMarks op b = false := by first | exact nomark _ | rfl) : QT X W (.Compare a [op] [b] pos) (tTest (tOp r ta tb)) (qTB (qOp o qa qb)) := ⟨pt_cmpR ho.op ha.pe hb.pe hm, ref_tb (ref_op ho.rf ha.rf hb.rf)⟩
theorem qt_val (ha : QE X W a ta qa) (he : ∀ whole, isTrue a X.env whole = (do let v ← whole; standAt a.pos; holding [v] (truthy v)) := by intro _; rfl) : QT X W a (tB ta) (qTB qa) := ⟨pt_val ha.pe he, ref_tb' ha.rf⟩
def qChain (o o' : DOp) (qa qb qc : DTE) : DTE := fun DW p M Q => qa DW p M fun x M1 => qb DW p M1 fun y M2 => o x y M2 fun z M3 => match z with
  | .bl k => if k = true then qc DW p M3 fun w M4 => o' y w M4 Q else Q (.bl false) M3
  | _ => False
theorem ref_chain {K : PySem.W.Frag} {r r' : R2} {o o' : DOp} {tc : TE} {qc : DTE} (hr : RefR2 K r o) (hr' : RefR2 K r' o') (ha : RefE K W ta qa) (hb : RefE K W tb qb) (hc : RefE K W tc qc) : RefE K W (tChain r r' ta tb tc) (qChain o o' qa qb qc) :=
  fun DW G H p M s Q Q' hw S h k => ha DW G H p M s _ _ hw S h fun G1 H1 M1 d v e1 S1 r1 h1 =>
    hb DW G1 H1 p M1 s _ _ (hw.mono e1) S1 h1 fun G2 H2 M2 d2 v2 e2 S2 r2 h2 => hr G2 H2 p M2 s d d2 v v2 _ _ S2 (Rep.mono e2 _ _ r1) r2 h2 fun G3 H3 M3 d3 w e3 S3 r3 h3 => by
      cases d3 with
      | bl b =>
        cases r3
        refine ⟨b, rfl, ?_⟩
        cases b with
        | false =>
          rw [if_neg Bool.false_ne_true]
          exact k G3 H3 M3 (.bl false) _ ((e1.trans e2).trans e3) S3 rfl h3
        | true =>
          rw [if_pos rfl]
          exact hc DW G3 H3 p M3 s _ _ (hw.mono ((e1.trans e2).trans e3)) S3 h3 fun G4 H4 M4 d4 v4 e4 S4 r4 h4 =>
            hr' G4 H4 p M4 s d2 d4 v2 v4 Q Q' S4 (Rep.mono (e3.trans e4) _ _ r2) r4 h4 fun G5 H5 M5 d w e5 => k G5 H5 M5 d w ((((e1.trans e2).trans e3).trans e4).trans e5)
      | _ => exact h3.elim
theorem q_chain {op op' : CmpOp} {r r' : R2} {o o' : DOp} {c : Expr} {tc : TE} {qc : DTE} (ho : QOp X (compareOp op) r o) (ho' : QOp X (compareOp op') r' o') (ha : QE X W a ta qa) (hb : QE X W b tb qb) (hc : QE X W c tc qc)
    (hm : lastMarks [op, op'] [b, c] = false := by with_unfolding_all rfl) : QE X W (.Compare a [op, op'] [b, c] pos) (tChain r r' ta tb tc) (qChain o o' qa qb qc) :=
  ⟨pe_chain ho.op ho'.op ha.pe hb.pe hc.pe hm, ref_chain ho.rf ho'.rf ha.rf hb.rf hc.rf⟩
theorem qt_chain {op op' : CmpOp} {r r' : R2} {o o' : DOp} {c : Expr} {tc : TE} {qc : DTE} (ho : QOp X (compareOp op) r o) (ho' : QOp X (compareOp op') r' o') (ha : QE X W a ta qa) (hb : QE X W b tb qb) (hc : QE X W c tc qc)
    (hm : lastMarks [op, op'] [b, c] = false := by with_unfolding_all rfl) : QT X W (.Compare a [op, op'] [b, c] pos) (tTest (tChain r r' ta tb tc)) (qTB (qChain o o' qa qb qc)) :=
  ⟨pt_chain ho.op ho'.op ha.pe hb.pe hc.pe hm, ref_tb (ref_chain ho.rf ho'.rf ha.rf hb.rf hc.rf)⟩
@[simp] def qAnd (qt qu : DTT) : DTT := fun DW p M Q => qt DW p M fun c M1 => if c = true then qu DW p M1 Q else Q false M1
@[simp] def qOr (qt qu : DTT) : DTT := fun DW p M Q => qt DW p M fun c M1 => if c = true then Q true M1 else qu DW p M1 Q
@[simp] def qNot (qt : DTT) : DTT := fun DW p M Q => qt DW p M fun c M1 => Q (!c) M1
variable {t u : TT} {qt qu : DTT} {rest : List Expr}
theorem qw_and1 (h : QT X W a t qt) : QW X W (.BoolOp .And [a] pos) t qt := ⟨pw_and1 h.pe, h.rf⟩
theorem qw_or1 (h : QT X W a t qt) : QW X W (.BoolOp .Or [a] pos) t qt := ⟨pw_or1 h.pe, h.rf⟩
theorem qw_and (h : QT X W a t qt) (g : QW X W (.BoolOp .And (b :: rest) pos) u qu) : QW X W (.BoolOp .And (a :: b :: rest) pos) (tAnd t u) (qAnd qt qu) :=
  ⟨pw_and h.pe g.pe, fun DW G H p M s Q Q' hw S hq k => h.rf DW G H p M s _ _ hw S hq fun G1 H1 M1 c e1 S1 h1 => by
    cases c with
    | true =>
      rw [if_pos rfl] at h1 ⊢
      exact g.rf DW G1 H1 p M1 s _ _ (hw.mono e1) S1 h1 fun G2 H2 M2 c e2 => k G2 H2 M2 c (e1.trans e2)
    | false =>
      rw [if_neg Bool.false_ne_true] at h1 ⊢
      exact k G1 H1 M1 false e1 S1 h1⟩
theorem qw_or (h : QT X W a t qt) (g : QW X W (.BoolOp .Or (b :: rest) pos) u qu) : QW X W (.BoolOp .Or (a :: b :: rest) pos) (tOr t u) (qOr qt qu) :=
  ⟨pw_or h.pe g.pe, fun DW G H p M s Q Q' hw S hq k => h.rf DW G H p M s _ _ hw S hq fun G1 H1 M1 c e1 S1 h1 => by
    cases c with
    | true =>
      rw [if_pos rfl] at h1 ⊢
      exact k G1 H1 M1 true e1 S1 h1
    | false =>
      rw [if_neg Bool.false_ne_true] at h1 ⊢
      exact g.rf DW G1 H1 p M1 s _ _ (hw.mono e1) S1 h1 fun G2 H2 M2 c e2 => k G2 H2 M2 c (e1.trans e2)⟩
theorem qt_not (h : QT X W a t qt) : QT X W (.UnaryOp .Not a pos) (tNot t) (qNot qt) :=
  ⟨pt_not h.pe, fun DW G H p M s Q Q' hw S hq k => h.rf DW G H p M s _ _ hw S hq fun G1 H1 M1 c e1 S1 h1 => k G1 H1 M1 _ e1 S1 h1⟩
/-- as values, all truths -/
@[simp] def qAndV (qa qb : DTE) : DTE := fun DW p M Q => qa DW p M fun x M1 => match x with
  | .bl c => if c = true then qb DW p M1 Q else Q (.bl false) M1
  | _ => False
@[simp] def qOrV (qa qb : DTE) : DTE := fun DW p M Q => qa DW p M fun x M1 => match x with
  | .bl c => if c = true then Q (.bl true) M1 else qb DW p M1 Q
  | _ => False
@[simp] def qNotV (qa : DTE) : DTE := fun DW p M Q => qa DW p M fun x M1 => match x with
  | .bl c => Q (.bl (!c)) M1
  | _ => False
theorem q_one {op} (h : QE X W a ta qa) : QE X W (.BoolOp op [a] pos) ta qa := ⟨pe_one h.pe, h.rf⟩
theorem q_and (h : QE X W a ta qa) (g : QE X W (.BoolOp .And (b :: rest) pos) tb qb) : QE X W (.BoolOp .And (a :: b :: rest) pos) (tAndV ta tb) (qAndV qa qb) :=
  ⟨pe_and h.pe g.pe, fun DW G H p M s Q Q' hw S hq k => h.rf DW G H p M s _ _ hw S hq fun G1 H1 M1 d v e1 S1 r1 h1 => by
    cases d with
    | bl c =>
      cases r1
      refine ⟨c, rfl, ?_⟩
      cases c with
      | true =>
        rw [if_pos rfl]
        exact g.rf DW G1 H1 p M1 s _ _ (hw.mono e1) S1 h1 fun G2 H2 M2 d v e2 => k G2 H2 M2 d v (e1.trans e2)
      | false =>
        rw [if_neg Bool.false_ne_true]
        exact k G1 H1 M1 (.bl false) _ e1 S1 rfl h1
    | _ => exact h1.elim⟩
theorem q_not (h : QE X W a ta qa) : QE X W (.UnaryOp .Not a pos) (tNotV ta) (qNotV qa) :=
  ⟨pe_not h.pe, fun DW G H p M s Q Q' hw S hq k => h.rf DW G H p M s _ _ hw S hq fun G1 H1 M1 d v e1 S1 r1 h1 => by
    cases d with
    | bl c => cases r1; exact ⟨c, rfl, k G1 H1 M1 (.bl (!c)) _ e1 S1 rfl h1⟩
    | _ => exact h1.elim⟩
@[simp] def qIf (qt : DTT) (qa qb : DTE) : DTE := fun DW p M Q => qt DW p M fun c M1 => if c = true then qa DW p M1 Q else qb DW p M1 Q
theorem q_if {c : Expr} (h : QT X W c t qt) (ha : QE X W a ta qa) (hb : QE X W b tb qb) : QE X W (.IfExp c a b pos) (tIf t ta tb) (qIf qt qa qb) :=
  ⟨pe_ifExp h.pe ha.pe hb.pe, fun DW G H p M s Q Q' hw S hq k => h.rf DW G H p M s _ _ hw S hq fun G1 H1 M1 c e1 S1 h1 => by
    cases c with
    | true =>
      rw [if_pos rfl] at h1 ⊢
      exact ha.rf DW G1 H1 p M1 s _ _ (hw.mono e1) S1 h1 fun G2 H2 M2 d v e2 => k G2 H2 M2 d v (e1.trans e2)
    | false =>
      rw [if_neg Bool.false_ne_true] at h1 ⊢
      exact hb.rf DW G1 H1 p M1 s _ _ (hw.mono e1) S1 h1 fun G2 H2 M2 d v e2 => k G2 H2 M2 d v (e1.trans e2)⟩
end
section
variable {X : Cx} {W : WX} {x : Str} {p pos : Pos} {e : Expr} {es : List Expr} {t : TA} {q : DTA} {id T : String} {r : List V → Hp → VK → Prop} {o : DCa}
theorem q_callB (hc : QCa X (.builtin id) r o) (hg : Gl X x) (hm : X.mg x = none) (hv : bootBuiltins x = some (.builtin id)) (ha : QA X W (e :: es) t q) (hn : x ≠ "__name__" := by decide) (hdb : (x == ("__debug__" : Str)) = false := by decide)
    (he : starEach (e :: es) X.env = (false, eval e X.env) :: starEach es X.env := by rfl) (hpl : (backTo pos (starEach es X.env)).any (·.1) = false := by rfl) : QE X W (.Call (.Name x p) (e :: es) [] pos) (tCB r t) (qCB o q) :=
  ⟨pe_callB hc.op hg hm hv ha.pe hn hdb he hpl, ref_cb hc.rf ha.rf⟩
theorem q_callTy (hc : QCa X (.type T) r o) (hg : Gl X x) (hm : X.mg x = none) (hv : bootBuiltins x = some (.type T)) (ha : QA X W (e :: es) t q) (hn : x ≠ "__name__" := by decide) (hdb : (x == ("__debug__" : Str)) = false := by decide)
    (he : starEach (e :: es) X.env = (false, eval e X.env) :: starEach es X.env := by rfl) (hpl : (backTo pos (starEach es X.env)).any (·.1) = false := by rfl) : QE X W (.Call (.Name x p) (e :: es) [] pos) (tCB r t) (qCB o q) :=
  ⟨pe_callTy hc.op hg hm hv ha.pe hn hdb he hpl, ref_cb hc.rf ha.rf⟩
end
end DL
namespace DL
open PySem L2
theorem OpR.or {X : Cx} {f : Value → Value → Sem Value} {r r' : R2} (h : OpR X f r) (h' : OpR X f r') : OpR X f (fun x y H Q => r x y H Q ∨ r' x y H Q) := by
  intro pins s σ H x y v u Q I rx ry q
  rcases q with q | q
  · exact h pins s σ H x y v u Q I rx ry q
  · exact h' pins s σ H x y v u Q I rx ry q
theorem CallR.or {X : Cx} {f : Value} {r r' : List V → Hp → VK → Prop} (h : CallR X f r) (h' : CallR X f r') : CallR X f (fun xs H Q => r xs H Q ∨ r' xs H Q) := by
  intro pins s σ H xs us Q I rs q
  rcases q with q | q
  · exact h pins s σ H xs us Q I rs q
  · exact h' pins s σ H xs us Q I rs q
mutual
def pyd : D → PyData
  | .non => .none
  | .bl b => .bool b
  | .int i => .int i
  | .str x => .str x
  | .tup ds => .tuple (pydL ds)
  | .ktp ds => .tuple (pydL ds)
  | .xtp ds => .tuple (pydL ds)
  | .lst ds => .list (pydL ds)
  | _ => .none
def pydL : List D → List PyData
  | [] => []
  | d :: ds => pyd d :: pydL ds
end
mutual
def isData : D → Bool
  | .non => true
  | .bl _ => true
  | .int _ => true
  | .str _ => true
  | .tup ds => isDataL ds
  | .ktp ds => isDataL ds
  | .xtp ds => isDataL ds
  | .lst ds => isDataL ds
  | _ => false
def isDataL : List D → Bool
  | [] => true
  | d :: ds => isData d && isDataL ds
end
/-- how deep -/
def dep (d : D) : Nat := (pyd d).depth
mutual
theorem dp_of {K : PySem.W.Frag} {G H : Hp} (e : Same G H) : ∀ (d : D) (v : V), isData d = true → Rep K G d v → Dp K H v (pyd d)
  | .non, _, _, h => by cases h; exact .non
  | .bl b, _, _, h => by cases h; exact .bl b
  | .int i, _, _, h => by cases h; exact .int i
  | .str x, _, _, h => by obtain ⟨h, _⟩ := h; subst h; exact .str x
  | .tup ds, _, i, ⟨a, vs, h1, h2, h3, h4⟩ => by subst h1; exact .tup (.inl (.inl (e _ _ h2))) (dpl_of e ds vs i h3)
  | .ktp ds, _, i, ⟨a, vs, h1, h2, h3, h4⟩ => by subst h1; exact .tup (same_t e h2) (dpl_of e ds vs i h3)
  | .xtp ds, _, i, ⟨a, o, vs, h1, h2, h3, h4, h5⟩ => by subst h1; exact .tup (.inl (.inr ⟨o, e _ _ h2⟩)) (dpl_of e ds vs i h4)
  | .lst ds, _, i, ⟨a, vs, h1, h2, h3, h4⟩ => by subst h1; exact .lst (.inl (.inl (e _ _ h2))) (dpl_of e ds vs i h3)
  | .scr _, _, i, _ => by cases i
  | .ty _, _, i, _ => by cases i
  | .ref _, _, i, _ => by cases i
  | .dct _ _, _, i, _ => by cases i
  | .ins _ _ _, _, i, _ => by cases i
  | .exc _ _ _ _, _, i, _ => by cases i
  | .fnv _ _ _ _ _, _, i, _ => by cases i
  | .fno _ _ _ _, _, i, _ => by cases i
theorem dpl_of {K : PySem.W.Frag} {G H : Hp} (e : Same G H) : ∀ (ds : List D) (vs : List V), isDataL ds = true → RepL K G ds vs → DpAll K H vs (pydL ds)
  | [], _, _, h => by cases h; exact .nil
  | d :: ds, _, i, ⟨v, r, h1, h2, h3⟩ => by
    subst h1
    have i' : isData d = true ∧ isDataL ds = true := by simpa [isDataL] using i
    exact .cons (dp_of e d v i'.1 h2) (dpl_of e ds r i'.2 h3)
end
mutual
theorem lay_of {K : PySem.W.Frag} {G : Hp} : ∀ (d : D) (v : V), isData d = true → Rep K G d v → (pyd d).canLay0 = true
  | .non, _, _, _ => rfl
  | .bl b, _, _, _ => rfl
  | .int i, _, _, _ => rfl
  | .str x, _, _, h => h.2.2
  | .tup ds, _, i, ⟨a, vs, h1, h2, h3, h4⟩ => layl_of ds vs i h3
  | .ktp ds, _, i, ⟨a, vs, h1, h2, h3, h4⟩ => layl_of ds vs i h3
  | .xtp ds, _, i, ⟨a, o, vs, h1, h2, h3, h4, h5⟩ => layl_of ds vs i h4
  | .lst ds, _, i, ⟨a, vs, h1, h2, h3, h4⟩ => layl_of ds vs i h3
  | .scr _, _, i, _ => by cases i
  | .ty _, _, i, _ => by cases i
  | .ref _, _, i, _ => by cases i
  | .dct _ _, _, i, _ => by cases i
  | .ins _ _ _, _, i, _ => by cases i
  | .exc _ _ _ _, _, i, _ => by cases i
  | .fnv _ _ _ _ _, _, i, _ => by cases i
  | .fno _ _ _ _, _, i, _ => by cases i
theorem layl_of {K : PySem.W.Frag} {G : Hp} : ∀ (ds : List D) (vs : List V), isDataL ds = true → RepL K G ds vs → PyData.canLayAll0 (pydL ds) = true
  | [], _, _, _ => rfl
  | d :: ds, _, i, ⟨v, r, h1, h2, h3⟩ => by
    have i' : isData d = true ∧ isDataL ds = true := by simpa [isDataL] using i
    simp only [pydL, PyData.canLayAll0, Bool.and_eq_true]
    exact ⟨lay_of d v i'.1 h2, layl_of ds r i'.2 h3⟩
end
theorem data_of {K : PySem.W.Frag} {G H : Hp} {p : Rho} {M : Mst} {s : L2.St} {d e : D} {v : V} (S : Sim K G H p M s) (r : Rep K G d v) (h : res M d = e) (i : isData e = true) : Dp K H v (pyd e) ∧ (pyd e).canLay0 = true := by
  cases d with
  | ref a =>
    cases e with
    | lst es =>
      obtain ⟨a, vs, h1, h2, h3, h4⟩ := as_lst S r h
      subst h1
      exact ⟨.lst (.inl (.inl h2)) (dpl_of S.same _ _ i h3), layl_of _ _ i h3⟩
    | _ =>
      simp only [res] at h
      split at h <;> first | (cases h; done) | (cases h; cases i)
  | ktp es =>
    cases h
    exact ⟨dp_of S.same (.ktp es) v i r, lay_of (.ktp es) v i r⟩
  | xtp es =>
    cases h
    exact ⟨dp_of S.same (.xtp es) v i r, lay_of (.xtp es) v i r⟩
  | _ => cases h; exact ⟨dp_of S.same _ v i r, lay_of _ v i r⟩
def rEqX (K : PySem.W.Frag) (neg : Bool) : R2 := fun x y H Q => ∃ d e, Dp K H x d ∧ Dp K H y e ∧ d.canLay0 = true ∧ e.canLay0 = true ∧ min d.depth e.depth ≤ 64 ∧ Q (.bl (xor neg (PyData.eqv d e))) H
theorem op_eqX {X : Cx} (hu : X.A.units + 64 < cLine) : OpR X (compareOp .Eq) (rEqX X.K false) := by
  intro pins s σ H x y v u Q I rx ry h
  obtain ⟨d, e, hd, he, sd, se, hm, q⟩ := h
  obtain ⟨as, r1⟩ := Dp.reads I d x v hd rx
  obtain ⟨bs, r2⟩ := Dp.reads I e y u he ry
  refine SeqAt.compareEq_reads r1 r2 sd se (by omega) ⟨.bl _, H, I, rfl, ?_⟩
  simpa using q
theorem op_neX {X : Cx} (hu : X.A.units + 64 < cLine) : OpR X (compareOp .NotEq) (rEqX X.K true) := by
  intro pins s σ H x y v u Q I rx ry h
  obtain ⟨d, e, hd, he, sd, se, hm, q⟩ := h
  obtain ⟨as, r1⟩ := Dp.reads I d x v hd rx
  obtain ⟨bs, r2⟩ := Dp.reads I e y u he ry
  refine SeqAt.compareNe_reads r1 r2 sd se (by omega) ⟨.bl _, H, I, rfl, ?_⟩
  simpa using q
/-- == of data -/
def deq (x y : D) : Bool := PyData.eqv (pyd x) (pyd y)
def deqL (x y : List D) : Bool := PyData.eqvAll (pydL x) (pydL y)
def dEq (neg : Bool) : DOp := fun x y M Q => isData (res M x) = true ∧ isData (res M y) = true ∧ min (dep (res M x)) (dep (res M y)) ≤ 64 ∧ Q (.bl (xor neg (deq (res M x) (res M y)))) M
theorem ref_eq {K : PySem.W.Frag} {neg : Bool} : RefR2 K (rEqX K neg) (dEq neg) := fun G H p M s x y v u Q Q' S r1 r2 ⟨i1, i2, hm, q⟩ k => by
  obtain ⟨a1, a2⟩ := data_of S r1 rfl i1
  obtain ⟨b1, b2⟩ := data_of S r2 rfl i2
  exact ⟨_, _, a1, b1, a2, b2, hm, k G H M (.bl _) _ (Same.refl _) S rfl q⟩
theorem o_eq {X : Cx} (hu : X.A.units + 64 < cLine) : QOp X (compareOp .Eq) (rEqX X.K false) (dEq false) := ⟨op_eqX hu, ref_eq⟩
theorem o_ne {X : Cx} (hu : X.A.units + 64 < cLine) : QOp X (compareOp .NotEq) (rEqX X.K true) (dEq true) := ⟨op_neX hu, ref_eq⟩
def dInt (C : Int → Int → Prop) (g : Int → Int → Int) : DOp := fun x y M Q => match x, y with
  | .int i, .int j => C i j ∧ Q (.int (g i j)) M
  | _, _ => False
theorem ref_int {K : PySem.W.Frag} {C : Int → Int → Prop} {g : Int → Int → Int} : RefR2 K (rI C fun i j => .int (g i j)) (dInt C g) := fun G H p M s x y v u Q Q' S r1 r2 h k => by
  cases x with
  | int i =>
    cases y with
    | int j => cases r1; cases r2; exact ⟨i, j, rfl, rfl, h.1, k G H M (.int (g i j)) _ (Same.refl _) S rfl h.2⟩
    | _ => exact h.elim
  | _ => exact h.elim
def dInt0 (g : Int → Int → Int) : DOp := fun x y M Q => match x, y with
  | .int i, .int j => Q (.int (g i j)) M
  | _, _ => False
theorem ref_int0 {K : PySem.W.Frag} {g : Int → Int → Int} : RefR2 K (rI0 fun i j => .int (g i j)) (dInt0 g) := fun G H p M s x y v u Q Q' S r1 r2 h k => by
  cases x with
  | int i =>
    cases y with
    | int j => cases r1; cases r2; exact ⟨i, j, rfl, rfl, k G H M (.int (g i j)) _ (Same.refl _) S rfl h⟩
    | _ => exact h.elim
  | _ => exact h.elim
theorem o_sub {X : Cx} : QOp X (binaryOp .Sub) (rI0 fun i j => .int (i - j)) (dInt0 fun i j => i - j) := ⟨op_sub, ref_int0⟩
theorem o_mulI {X : Cx} : QOp X (binaryOp .Mult) (rI CMul fun i j => .int (i * j)) (dInt CMul fun i j => i * j) := ⟨op_mul, ref_int⟩
theorem o_fdiv {X : Cx} : QOp X (binaryOp .FloorDiv) (rI CDiv fun i j => .int (i / j)) (dInt CDiv fun i j => i / j) := ⟨op_fdiv, ref_int⟩
theorem o_mod {X : Cx} : QOp X (binaryOp .Mod) (rI (fun _ j => 0 < j) fun i j => .int (i % j)) (dInt (fun _ j => 0 < j) fun i j => i % j) := ⟨op_mod, ref_int⟩
theorem o_pow {X : Cx} : QOp X (binaryOp .Pow) (rI CPow fun i j => .int (i ^ j.toNat)) (dInt CPow fun i j => i ^ j.toNat) := ⟨op_pow, ref_int⟩
/-- <, <=, >, >= of whole numbers; < of texts -/
def dCmpI (g : Int → Int → Bool) : DOp := fun x y M Q => match x, y with
  | .int i, .int j => Q (.bl (g i j)) M
  | _, _ => False
theorem ref_cmpI {K : PySem.W.Frag} {g : Int → Int → Bool} : RefR2 K (rI0 fun i j => .bl (g i j)) (dCmpI g) := fun G H p M s x y v u Q Q' S r1 r2 h k => by
  cases x with
  | int i =>
    cases y with
    | int j => cases r1; cases r2; exact ⟨i, j, rfl, rfl, k G H M (.bl (g i j)) _ (Same.refl _) S rfl h⟩
    | _ => exact h.elim
  | _ => exact h.elim
theorem o_lt {X : Cx} : QOp X (compareOp .Lt) (rI0 fun i j => .bl (decide (i < j))) (dCmpI fun i j => decide (i < j)) := ⟨op_lt, ref_cmpI⟩
theorem o_le {X : Cx} : QOp X (compareOp .LtE) (rI0 fun i j => .bl (decide (i ≤ j))) (dCmpI fun i j => decide (i ≤ j)) := ⟨op_le, ref_cmpI⟩
theorem o_gt {X : Cx} : QOp X (compareOp .Gt) (rI0 fun i j => .bl (decide (j < i))) (dCmpI fun i j => decide (j < i)) := ⟨op_gt, ref_cmpI⟩
theorem o_ge {X : Cx} : QOp X (compareOp .GtE) (rI0 fun i j => .bl (decide (j ≤ i))) (dCmpI fun i j => decide (j ≤ i)) := ⟨op_ge, ref_cmpI⟩
def dNeg : DUn := fun x M Q => match x with
  | .int i => Q (.int (-i)) M
  | _ => False
theorem ref_neg {K : PySem.W.Frag} : RefU K (rU fun i => .int (-i)) dNeg := fun G H p M s x v Q Q' S r1 h k => by
  cases x with
  | int i => cases r1; exact ⟨i, rfl, k G H M (.int (-i)) _ (Same.refl _) S rfl h⟩
  | _ => exact h.elim
theorem q_neg {X : Cx} {W : WX} {a : Expr} {ta : TE} {qa : DTE} {pos : Pos} (ha : QE X W a ta qa) : QE X W (.UnaryOp .USub a pos) (tUn (rU fun i => .int (-i)) ta) (qUn dNeg qa) := ⟨pe_un un_neg ha.pe, ref_un ref_neg ha.rf⟩
def isNon : D → Bool
  | .non => true
  | _ => false
theorem isNon_of {K : PySem.W.Frag} {G : Hp} {d : D} {v : V} (r : Rep K G d v) : decide (v = .non) = isNon d := by
  cases d with
  | non => cases r; rfl
  | bl b => cases r; rfl
  | int b => cases r; rfl
  | ty b => cases r; rfl
  | ref b => cases r; rfl
  | str x => obtain ⟨r, _⟩ := r; subst r; rfl
  | tup x => obtain ⟨a, vs, r, _⟩ := r; subst r; rfl
  | ktp x => obtain ⟨a, vs, r, _⟩ := r; subst r; rfl
  | xtp x => obtain ⟨a, o, vs, r, _⟩ := r; subst r; rfl
  | lst x => obtain ⟨a, vs, r, _⟩ := r; subst r; rfl
  | scr x => obtain ⟨a, r, _⟩ := r; subst r; rfl
  | dct x y => obtain ⟨a, vs, r, _⟩ := r; subst r; rfl
  | ins x y z => obtain ⟨a, vs, fs, r, _⟩ := r; subst r; rfl
  | fnv x y z _ _ => obtain ⟨r, _⟩ := r; subst r; rfl
  | fno x y z w => obtain ⟨r, _⟩ := r; subst r; rfl
  | exc x y z w => obtain ⟨r, _⟩ := r; subst r; rfl
def dIs (neg : Bool) : DOp := fun x y M Q => match y with
  | .non => Q (.bl (xor neg (isNon x))) M
  | _ => False
theorem o_is {X : Cx} : QOp X (compareOp .Is) (fun x y H Q => y = .non ∧ Q (.bl (decide (x = .non))) H) (dIs false) := ⟨op_isN, fun G H p M s x y v u Q Q' S r1 r2 h k => by
  cases y with
  | non =>
    cases r2
    exact ⟨rfl, k G H M (.bl (isNon x)) _ (Same.refl _) S (by rw [isNon_of r1]; rfl) (by simpa [dIs] using h)⟩
  | _ => exact h.elim⟩
theorem o_isnot {X : Cx} : QOp X (compareOp .IsNot) (fun x y H Q => y = .non ∧ Q (.bl (!decide (x = .non))) H) (dIs true) := ⟨op_notN, fun G H p M s x y v u Q Q' S r1 r2 h k => by
  cases y with
  | non =>
    cases r2
    exact ⟨rfl, k G H M (.bl (!isNon x)) _ (Same.refl _) S (by rw [isNon_of r1]; rfl) (by simpa [dIs] using h)⟩
  | _ => exact h.elim⟩
theorem strOk_append {a b : Str} (h1 : PyData.strOk a = true) (h2 : PyData.strOk b = true) : PyData.strOk (a ++ b) = true := by
  have e : (a ++ b).cps = a.cps ++ b.cps := rfl
  unfold PyData.strOk at *
  rw [e, Array.all_append, h1, h2]; rfl
theorem len_append {a b : Str} : (a ++ b).length = a.length + b.length := by
  show (a.cps ++ b.cps).size = _
  rw [Array.size_append]; rfl
def rAddX (K : PySem.W.Frag) : R2 := fun x y H Q => rI0 (fun i j => .int (i + j)) x y H Q ∨ (∃ i j, x = .str i ∧ y = .str j ∧ i.length + j.length ≤ sizeLine ∧ Q (.str (i ++ j)) H) ∨ rCat x y H Q ∨ rCatA K x y H Q ∨ ∃ b j, x = .bl b ∧ y = .int j ∧ Q (.int ((if b = true then 1 else 0) + j)) H
theorem op_add_bi {X : Cx} : OpR X (binaryOp .Add) (fun x y H Q => ∃ b j, x = .bl b ∧ y = .int j ∧ Q (.int ((if b = true then 1 else 0) + j)) H) := by
  intro pins s σ H x y v u Q I rx ry h
  obtain ⟨k, i, rfl, rfl, q⟩ := h
  obtain ⟨t, rfl⟩ := ry
  cases rx
  exact IntBool.add_bool_int ⟨.int ((if k = true then 1 else 0) + i), H, I.tok _, ⟨_, rfl⟩, q⟩
def dAdd (m : Bool) : DOp := fun x y M Q => match x, y with
  | .tup a, .tup b => a.length + b.length ≤ 100000 ∧ Q (.tup (a ++ b)) M
  | _, _ => match res M x, res M y with
    | .int i, .int j => Q (.int (i + j)) M
    | .str a, .str b => a.length + b.length ≤ 100000 ∧ Q (.str (a ++ b)) M
    | .lst a, .lst b => a.length + b.length ≤ 100000 ∧ newL m (a ++ b) M Q
    | .bl k, .int j => Q (.int ((if k = true then 1 else 0) + j)) M
    | .tup a, .tup b => a.length + b.length ≤ 100000 ∧ (a = [] → Q y M) ∧ (a ≠ [] → b = [] → Q x M) ∧ (a ≠ [] → b ≠ [] → Q (.tup (a ++ b)) M)
    | _, _ => False
theorem ref_add {K : PySem.W.Frag} {m : Bool} : RefR2 K (rAddX K) (dAdd m) := fun G H p M s x y v u Q Q' S r1 r2 h k => by
  unfold dAdd at h
  split at h
  · next a b =>
    obtain ⟨a1, vs, rfl, h1, h2, h3⟩ := r1
    obtain ⟨b1, us, rfl, g1, g2, g3⟩ := r2
    have z : vs.length + us.length ≤ sizeLine := by rw [h2.length, g2.length]; exact sz1000 h.1
    refine .inr (.inr (.inr (.inl ⟨a1, b1, vs, us, rfl, rfl, .inl (.inl (S.same _ _ h1)), .inl (.inl (S.same _ _ g1)), z, fun e => ?_, fun _ e => ?_, fun _ _ q hq => newT_ok S hq (RepL.append h2 g2) (by rw [List.length_append]; exact z) h.2 k⟩)))
    · have ea : a = [] := List.eq_nil_of_length_eq_zero (by rw [← h2.length, e]; rfl)
      refine k G H M (.tup b) _ (Same.refl _) S ⟨b1, us, rfl, g1, g2, g3⟩ ?_
      have := h.2; rw [ea] at this; simpa using this
    · have ea : b = [] := List.eq_nil_of_length_eq_zero (by rw [← g2.length, e]; rfl)
      refine k G H M (.tup a) _ (Same.refl _) S ⟨a1, vs, rfl, h1, h2, h3⟩ ?_
      have := h.2; rw [ea] at this; simpa using this
  · split at h
    · next i j e1 e2 =>
      cases as_int r1 e1
      cases as_int r2 e2
      exact .inl ⟨i, j, rfl, rfl, k G H M (.int (i + j)) _ (Same.refl _) S rfl h⟩
    · next a b e1 e2 =>
      obtain ⟨rfl, l1, o1⟩ := as_str r1 e1
      obtain ⟨rfl, l2, o2⟩ := as_str r2 e2
      exact .inr (.inl ⟨a, b, rfl, rfl, sz1000 h.1, k G H M (.str (a ++ b)) _ (Same.refl _) S ⟨rfl, by rw [len_append]; exact sz1000 h.1, strOk_append o1 o2⟩ h.2⟩)
    · next a b e1 e2 =>
      obtain ⟨a1, vs, rfl, h1, h2, h3⟩ := as_lst S r1 e1
      obtain ⟨b1, us, rfl, g1, g2, g3⟩ := as_lst S r2 e2
      have z : vs.length + us.length ≤ sizeLine := by rw [h2.length, g2.length]; exact sz1000 h.1
      exact .inr (.inr (.inl ⟨a1, b1, vs, us, rfl, rfl, h1, g1, z, fun q hq => newL_ok S hq (RepL.append h2 g2) (by rw [List.length_append]; exact z) h.2 k⟩))
    · next b j e1 e2 =>
      cases as_bl r1 e1
      cases as_int r2 e2
      exact .inr (.inr (.inr (.inr ⟨b, j, rfl, rfl, k G H M (.int _) _ (Same.refl _) S rfl h⟩)))
    · next a b e1 e2 =>
      obtain ⟨a1, vs, rfl, h1, h2, h3⟩ := as_tup S r1 e1
      obtain ⟨b1, us, rfl, g1, g2, g3⟩ := as_tup S r2 e2
      obtain ⟨hl, k0, k1, k2⟩ := h
      have z : vs.length + us.length ≤ sizeLine := by rw [h2.length, g2.length]; exact sz1000 hl
      have ev : vs = [] ↔ a = [] := ⟨fun e => List.eq_nil_of_length_eq_zero (by rw [← h2.length, e]; rfl), fun e => List.eq_nil_of_length_eq_zero (by rw [h2.length, e]; rfl)⟩
      have eu : us = [] ↔ b = [] := ⟨fun e => List.eq_nil_of_length_eq_zero (by rw [← g2.length, e]; rfl), fun e => List.eq_nil_of_length_eq_zero (by rw [g2.length, e]; rfl)⟩
      exact .inr (.inr (.inr (.inl ⟨a1, b1, vs, us, rfl, rfl, h1, g1, z, fun e => k G H M y _ (Same.refl _) S r2 (k0 (ev.mp e)), fun e0 e => k G H M x _ (Same.refl _) S r1 (k1 (fun q => e0 (ev.mpr q)) (eu.mp e)),
        fun e0 e q hq => newT_ok S hq (RepL.append h2 g2) (by rw [List.length_append]; exact z) (k2 (fun q => e0 (ev.mpr q)) fun q => e (eu.mpr q)) k⟩)))
    · exact h.elim
theorem o_add {X : Cx} (m : Bool) : QOp X (binaryOp .Add) (rAddX X.K) (dAdd m) := ⟨OpR.or op_add (OpR.or op_add_str (OpR.or op_cat (OpR.or op_catA op_add_bi))), ref_add⟩
def keyD : D → Option Key
  | .int i => some (.inl i)
  | .str x => some (.inr x)
  | _ => none
def keysD : List D → Option (List Key)
  | [] => some []
  | d :: ds => match keyD d, keysD ds with
    | some k, some ks => some (k :: ks)
    | _, _ => none
def valD {κ : Type} [DecidableEq κ] (kvs : List (κ × D)) (k : κ) : Option D := (kvs.find? fun kv => decide (kv.1 = k)).map (·.2)
/-- what a dict holds at a key; none: no dict, or no key of its kind -/
def dgetD (M : Mst) (x y : D) : Option (Option D) := match x with
  | .ref a => match M a with
    | some (.dK kvs) => (keyD y).map (valD kvs)
    | some (.lk _ kvs) => (keyD y).map (valD kvs)
    | some (.dT kvs) => match y with
      | .tup ds => (keysD ds).map (valD kvs)
      | _ => none
    | some (.lkT _ kvs) => match y with
      | .tup ds => (keysD ds).map (valD kvs)
      | _ => none
    | _ => none
  | .dct ks ds => (keyD y).map (valD (ks.zip ds))
  | _ => none
theorem keyD_of {K : PySem.W.Frag} {G : Hp} {d : D} {v : V} {k : Key} (r : Rep K G d v) (h : keyD d = some k) : v = kV k := by
  cases d with
  | int i => cases h; exact r
  | str x => cases h; exact r.1
  | _ => cases h
theorem keysD_of {K : PySem.W.Frag} {G : Hp} : ∀ {ds : List D} {vs : List V} {ks : List Key}, RepL K G ds vs → keysD ds = some ks → vs = ks.map kV
  | [], _, _, h, e => by cases h; cases e; rfl
  | d :: ds, _, ks, ⟨v, r, h1, h2, h3⟩, e => by
    simp only [keysD] at e
    split at e
    · next k ks' e1 e2 =>
      cases e
      rw [h1, keyD_of h2 e1, keysD_of h3 e2]; rfl
    · cases e
theorem valD_rel {κ : Type} [DecidableEq κ] {K : PySem.W.Frag} {G : Hp} : ∀ {kvs : List (κ × D)} {kv : List (κ × V)} (k : κ), kv.map (·.1) = kvs.map (·.1) → RepL K G (kvs.map (·.2)) (kv.map (·.2)) →
    (valD kvs k = none ∧ valV kv k = none) ∨ ∃ d v, valD kvs k = some d ∧ valV kv k = some v ∧ Rep K G d v
  | [], kv, k, h, r => by
    cases kv with
    | nil => exact .inl ⟨rfl, rfl⟩
    | cons _ _ => cases h
  | (a, d) :: kvs, kv, k, h, r => by
    cases kv with
    | nil => cases h
    | cons q kv =>
      obtain ⟨b, v⟩ := q
      simp only [List.map_cons, List.cons.injEq] at h
      obtain ⟨rfl, h⟩ := h
      obtain ⟨v', r', e, h2, h3⟩ := r
      simp only [List.map_cons, List.cons.injEq] at e
      obtain ⟨rfl, rfl⟩ := e
      by_cases z : b = k
      · exact .inr ⟨d, v, by simp [valD, z], by simp [valV, z], h2⟩
      · have := valD_rel k h h3
        simpa [valD, valV, z] using this
theorem zip_fs {α β : Type} : ∀ l : List (α × β), (l.map (·.1)).zip (l.map (·.2)) = l
  | [] => rfl
  | (a, b) :: l => by simp [zip_fs l]
@[simp] theorem zip_fs' {α β : Type} (l : List (α × β)) : (l.map (·.1)).zip (l.map (·.2)) = l := zip_fs l
theorem map_zip1 {α β : Type} : ∀ (l : List α) (m : List β), l.length = m.length → (l.zip m).map (·.1) = l
  | [], [], _ => rfl
  | a :: l, b :: m, h => by simp [map_zip1 l m (by simpa using h)]
theorem map_zip2 {α β : Type} : ∀ (l : List α) (m : List β), l.length = m.length → (l.zip m).map (·.2) = m
  | [], [], _ => rfl
  | a :: l, b :: m, h => by simp [map_zip2 l m (by simpa using h)]
theorem dgetD_of {K : PySem.W.Frag} {G H : Hp} {p : Rho} {M : Mst} {s : L2.St} {x y : D} {v u : V} {r : Option D} (S : Sim K G H p M s) (r1 : Rep K G x v) (r2 : Rep K G y u) (h : dgetD M x y = some r) :
    ∃ a o, v = .ref a ∧ DGet H a u o ∧ ((r = none ∧ o = none) ∨ ∃ d w, r = some d ∧ o = some w ∧ Rep K G d w) := by
  unfold dgetD at h
  split at h
  · next a =>
    cases r1
    split at h
    · next kvs em =>
      obtain ⟨gn, kv, h1, h2, h3, h4⟩ := S.mem _ _ em
      cases ek : keyD y with
      | none => rw [ek] at h; cases h
      | some k =>
        rw [ek] at h
        cases h
        cases keyD_of r2 ek
        exact ⟨a, _, rfl, DGet.k h1, (valD_rel k h2 h3).imp id fun ⟨d, v, a, b, c⟩ => ⟨d, v, a, b, c⟩⟩
    · next ho kvs em =>
      obtain ⟨gn, o, kv, h0, h1, h2, h3, h4⟩ := S.mem _ _ em
      rw [h0] at h1
      cases ek : keyD y with
      | none => rw [ek] at h; cases h
      | some k =>
        rw [ek] at h
        cases h
        cases keyD_of r2 ek
        exact ⟨a, _, rfl, .inl ⟨kv, k, .inr ⟨o, h1⟩, rfl, rfl⟩, (valD_rel k h2 h3).imp id fun ⟨d, v, a, b, c⟩ => ⟨d, v, a, b, c⟩⟩
    · next kvs em =>
      obtain ⟨gn, kv, h1, h2, h3, h4⟩ := S.mem _ _ em
      split at h
      · next ds =>
        obtain ⟨b, vs, rfl, g1, g2, g3⟩ := r2
        cases ek : keysD ds with
        | none => rw [ek] at h; cases h
        | some k =>
          rw [ek] at h
          cases h
          have := keysD_of g2 ek
          exact ⟨a, _, rfl, DGet.t h1 (by rw [S.same _ _ g1, this]), (valD_rel k h2 h3).imp id fun ⟨d, v, a, b, c⟩ => ⟨d, v, a, b, c⟩⟩
      · cases h
    · next ho kvs em =>
      obtain ⟨gn, o, kv, h0, h1, h2, h3, h4⟩ := S.mem _ _ em
      rw [h0] at h1
      split at h
      · next ds =>
        obtain ⟨b, vs, rfl, g1, g2, g3⟩ := r2
        cases ek : keysD ds with
        | none => rw [ek] at h; cases h
        | some k =>
          rw [ek] at h
          cases h
          have := keysD_of g2 ek
          exact ⟨a, _, rfl, .inr ⟨kv, k, b, .inr ⟨o, h1⟩, rfl, by rw [S.same _ _ g1, this], rfl⟩, (valD_rel k h2 h3).imp id fun ⟨d, v, a, b, c⟩ => ⟨d, v, a, b, c⟩⟩
      · cases h
    · cases h
  · next ks ds =>
    obtain ⟨a, kvs, rfl, h1, h2, h3, h4, _⟩ := r1
    cases ek : keyD y with
    | none => rw [ek] at h; cases h
    | some k =>
      rw [ek] at h
      cases h
      cases keyD_of r2 ek
      have hl : ks.length = ds.length := by rw [← h2, ← h3.length]; simp
      refine ⟨a, _, rfl, .inl ⟨kvs, k, same_rd S.same h1, rfl, rfl⟩, (valD_rel k (by rw [map_zip1 _ _ hl]; exact h2) (by rw [map_zip2 _ _ hl]; exact h3)).imp id fun ⟨d, v, a, b, c⟩ => ⟨d, v, a, b, c⟩⟩
  · cases h
def rIxD : R2 := fun x y H Q => ∃ a v, x = .ref a ∧ DGet H a y (some v) ∧ Q v H
theorem ix_dict {X : Cx} (hu : X.A.units + 1 < cLine) : IxR X rIxD := by
  intro value slice pins s σ H x y v u Q I rx ry h hs
  obtain ⟨a, z, rfl, g, q⟩ := h
  cases rx
  exact PyProof.Rows.tail_any (dict_typeIs I g) PySem.F.slot_dict_getitem.lookup (d_getItem hu I g ry fun w' s3 I3 rw' => ⟨z, H, I3, rw', q⟩) hs
def rIxA (K : PySem.W.Frag) : R2 := fun x y H Q => rIx K x y H Q ∨ rIxD x y H Q
def dIx : DOp := fun x y M Q => match dgetD M x y with
  | some (some d) => Q d M
  | some none => False
  | none => match res M x, y with
    | .lst ds, .int i => match atI ds i with | some d => Q d M | none => False
    | .tup ds, .int i => match atI ds i with | some d => Q d M | none => False
    | .str z, .int i => match atI z.cps.toList i with | some c => Q (.str ⟨#[c]⟩) M | none => False
    | .scr ns, .int i => match atI ns i with | some c => Q (.int c) M | none => False
    | _, _ => False
theorem as_scr {K : PySem.W.Frag} {G H : Hp} {p : Rho} {M : Mst} {s : L2.St} {x : D} {v : V} {ns : List Int} (S : Sim K G H p M s) (r : Rep K G x v) (e : res M x = .scr ns) : ∃ a, v = .ref a ∧ SqL K G a (ns.map V.int) := by
  cases x with
  | scr ms => cases e; obtain ⟨a, h1, h2, _⟩ := r; exact ⟨a, h1, h2⟩
  | ref a =>
    simp only [res] at e
    split at e <;> cases e
  | _ => cases e
theorem atI_map {α β : Type} {f : α → β} {xs : List α} {i : Int} {c : α} (h : atI xs i = some c) : atI (xs.map f) i = some (f c) := by
  unfold atI at h ⊢
  rw [List.length_map]
  cases e : ixN xs.length i with
  | none => rw [e] at h; cases h
  | some j =>
    rw [e] at h
    have h' : xs[j]? = some c := h
    show (xs.map f)[j]? = some (f c)
    rw [List.getElem?_map, h']; rfl
theorem atI_rel {K : PySem.W.Frag} {G : Hp} {ds : List D} {vs : List V} {i : Int} {d : D} (r : RepL K G ds vs) (h : atI ds i = some d) : ∃ v, atI vs i = some v ∧ Rep K G d v := by
  unfold atI at h ⊢
  rw [r.length]
  cases e : ixN ds.length i with
  | none => rw [e] at h; cases h
  | some j =>
    rw [e] at h
    exact r.get h
theorem ref_ix {K : PySem.W.Frag} : RefR2 K (rIxA K) dIx := fun G H p M s x y v u Q Q' S r1 r2 h k => by
  unfold dIx at h
  split at h
  · next d e =>
    obtain ⟨a, o, rfl, g, q⟩ := dgetD_of S r1 r2 e
    rcases q with ⟨q, _⟩ | ⟨d', w, q, rfl, r⟩
    · cases q
    · cases q
      exact .inr ⟨a, w, rfl, g, k G H M d w (Same.refl _) S r h⟩
  · exact h.elim
  · split at h
    · next ds i e1 _ =>
      obtain ⟨a, vs, rfl, h1, h2, h3⟩ := as_lst S r1 e1
      cases r2
      split at h
      · next d ea =>
        obtain ⟨w, ew, rw'⟩ := atI_rel h2 ea
        exact .inl (.inl ⟨a, vs, i, w, rfl, rfl, .inl (.inl h1), ew, k G H M d w (Same.refl _) S rw' h⟩)
      · exact h.elim
    · next ds i e1 _ =>
      obtain ⟨a, vs, rfl, h1, h2, h3⟩ := as_tup S r1 e1
      cases r2
      split at h
      · next d ea =>
        obtain ⟨w, ew, rw'⟩ := atI_rel h2 ea
        exact .inl (.inr (.inl ⟨a, vs, i, w, rfl, rfl, h1, ew, k G H M d w (Same.refl _) S rw' h⟩))
      · exact h.elim
    · next z i e1 _ =>
      obtain ⟨rfl, l1, o1⟩ := as_str r1 e1
      cases r2
      split at h
      · next c ea =>
        refine .inl (.inr (.inr ⟨z, i, c, rfl, rfl, l1, ea, k G H M (.str ⟨#[c]⟩) _ (Same.refl _) S ⟨rfl, sz1000 (by show 1 ≤ 100000; decide), ?_⟩ h⟩))
        obtain ⟨j, _, h2, _⟩ := atI_get ea
        have hm : c ∈ z.cps.toList := List.mem_of_getElem? h2
        have ho : ∀ y ∈ z.cps.toList, decide (y < 0x110000) = true := by
          unfold PyData.strOk at o1
          rw [← Array.all_toList] at o1
          exact List.all_eq_true.mp o1
        have := ho c hm
        simpa [PyData.strOk] using this
      · exact h.elim
    · next ns i e1 _ =>
      obtain ⟨a, rfl, h1⟩ := as_scr S r1 e1
      cases r2
      split at h
      · next c ea => exact .inl (.inl ⟨a, _, i, .int c, rfl, rfl, same_l S.same h1, atI_map ea, k G H M (.int c) _ (Same.refl _) S rfl h⟩)
      · exact h.elim
    · exact h.elim
theorem q_ix {X : Cx} {W : WX} {a b : Expr} {ta tb : TE} {qa qb : DTE} {pos : Pos} (hu : X.A.units + 1 < cLine) (ha : QE X W a ta qa) (hb : QE X W b tb qb) (hs : PlainIx b := by exact fun _ _ => rfl) : QE X W (.Subscript a b pos) (tOp (rIxA X.K) ta tb) (qOp dIx qa qb) :=
  ⟨pe_ix (IxR.or ix_seq (ix_dict hu)) ha.pe hb.pe hs, ref_op ref_ix ha.rf hb.rf⟩
end DL
namespace DL
open PySem L2
def flatD : D → Bool
  | .non => true
  | .bl _ => true
  | .int _ => true
  | .str _ => true
  | _ => false
theorem flatD_of {K : PySem.W.Frag} {G : Hp} {d : D} {v : V} (r : Rep K G d v) (h : flatD d = true) : flatV v = true ∧ ∀ e w, Rep K G e w → flatD e = true → eqV w v = deq e d := by
  cases d with
  | non => cases r; exact ⟨rfl, fun e w r h => by
      cases e with
      | non => cases r; rfl
      | bl b => cases r; rfl
      | int b => cases r; rfl
      | str b => obtain ⟨r, _⟩ := r; subst r; rfl
      | _ => cases h⟩
  | bl b => cases r; exact ⟨rfl, fun e w r h => by
      cases e with
      | non => cases r; rfl
      | bl b => cases r; rfl
      | int b => cases r; rfl
      | str b => obtain ⟨r, _⟩ := r; subst r; rfl
      | _ => cases h⟩
  | int b => cases r; exact ⟨rfl, fun e w r h => by
      cases e with
      | non => cases r; rfl
      | bl b => cases r; rfl
      | int b => cases r; rfl
      | str b => obtain ⟨r, _⟩ := r; subst r; rfl
      | _ => cases h⟩
  | str b => obtain ⟨r, _⟩ := r; subst r; exact ⟨rfl, fun e w r h => by
      cases e with
      | non => cases r; rfl
      | bl b => cases r; rfl
      | int b => cases r; rfl
      | str b => obtain ⟨r, _⟩ := r; subst r; rfl
      | _ => cases h⟩
  | _ => cases h
theorem inV_of {K : PySem.W.Frag} {G : Hp} {d : D} {v : V} (r : Rep K G d v) (h : flatD d = true) : ∀ {ds : List D} {vs : List V}, RepL K G ds vs → ds.all flatD = true → vs.all flatV = true ∧ inV v vs = ds.any fun e => deq e d
  | [], _, q, _ => by cases q; exact ⟨rfl, rfl⟩
  | e :: ds, _, ⟨w, vs, e1, h2, h3⟩, f => by
    subst e1
    have f' : flatD e = true ∧ ds.all flatD = true := by simpa using f
    obtain ⟨i1, i2⟩ := inV_of r h h3 f'.2
    obtain ⟨fv, _⟩ := flatD_of h2 f'.1
    have e2 := (flatD_of r h).2 e w h2 f'.1
    refine ⟨by simp [fv, i1], ?_⟩
    have e3 : inV v (w :: vs) = (eqV w v || inV v vs) := rfl
    rw [e3, i2, e2]; rfl
def rInDk (neg : Bool) : R2 := fun y x H Q => ∃ a o, x = .ref a ∧ DGet H a y o ∧ Q (.bl (xor neg o.isSome)) H
theorem op_inDk {X : Cx} (hu : X.A.units + 1 < cLine) : OpR X (compareOp .In) (rInDk false) := by
  intro pins s σ H y x u v Q I ry rx h
  obtain ⟨a, o, rfl, g, q⟩ := h
  cases rx
  exact d_in hu I g ry fun s3 I3 => ⟨.bl o.isSome, H, I3, rfl, by simpa using q⟩
theorem op_ninDk {X : Cx} (hu : X.A.units + 1 < cLine) : OpR X (compareOp .NotIn) (rInDk true) := by
  intro pins s σ H y x u v Q I ry rx h
  obtain ⟨a, o, rfl, g, q⟩ := h
  cases rx
  exact d_notIn hu I g ry fun s3 I3 => ⟨.bl (!o.isSome), H, I3, rfl, by simpa using q⟩
def inS (c z : Str) : Bool := !(Builtin.Str.occurrences z c 0 z.length 1).isEmpty
def rInStr (neg : Bool) : R2 := fun x y H Q => ∃ i j, x = .str i ∧ y = .str j ∧ Q (.bl (xor neg (inS i j))) H
theorem op_inStr {X : Cx} : OpR X (compareOp .In) (rInStr false) := by
  intro pins s σ H y x u v Q I ry rx h
  obtain ⟨i, j, e1, e2, q⟩ := h
  exact op_in_str pins s σ H y x u v Q I ry rx ⟨i, j, e1, e2, by simpa [inS] using q⟩
theorem op_ninStr {X : Cx} : OpR X (compareOp .NotIn) (rInStr true) := by
  intro pins s σ H y x u v Q I ry rx h
  obtain ⟨i, j, e1, e2, q⟩ := h
  exact op_notIn_str pins s σ H y x u v Q I ry rx ⟨i, j, e1, e2, by simpa [inS] using q⟩
def rInX (K : PySem.W.Frag) (neg : Bool) : R2 := fun x y H Q => rIn K neg x y H Q ∨ rInDk neg x y H Q ∨ rInStr neg x y H Q
def dIn (neg : Bool) : DOp := fun x y M Q => match dgetD M y x with
  | some r => Q (.bl (xor neg r.isSome)) M
  | none => match res M y with
    | .lst ds => flatD x = true ∧ ds.all flatD = true ∧ Q (.bl (xor neg (ds.any fun e => deq e x))) M
    | .tup ds => flatD x = true ∧ ds.all flatD = true ∧ Q (.bl (xor neg (ds.any fun e => deq e x))) M
    | .str z => match x with
      | .str c => Q (.bl (xor neg (inS c z))) M
      | _ => False
    | _ => False
theorem ref_in {K : PySem.W.Frag} {neg : Bool} : RefR2 K (rInX K neg) (dIn neg) := fun G H p M s x y v u Q Q' S r1 r2 h k => by
  have nb : ∀ b : Bool, (if neg = true then !b else b) = xor neg b := fun b => by cases neg <;> cases b <;> rfl
  unfold dIn at h
  split at h
  · next r e =>
    obtain ⟨a, o, rfl, g, q⟩ := dgetD_of S r2 r1 e
    refine .inr (.inl ⟨a, o, rfl, g, k G H M (.bl _) _ (Same.refl _) S rfl ?_⟩)
    rcases q with ⟨rfl, rfl⟩ | ⟨d, w, rfl, rfl, _⟩ <;> exact h
  · split at h
    · next ds e1 =>
      obtain ⟨f1, f2, h⟩ := h
      obtain ⟨a, vs, rfl, h1, h2, h3⟩ := as_lst S r2 e1
      obtain ⟨i1, i2⟩ := inV_of r1 f1 h2 f2
      refine .inl ⟨a, vs, rfl, .inl (.inl (.inl h1)), (flatD_of r1 f1).1, i1, k G H M (.bl _) _ (Same.refl _) S rfl ?_⟩
      rw [nb, i2]; exact h
    · next ds e1 =>
      obtain ⟨f1, f2, h⟩ := h
      obtain ⟨a, vs, rfl, h1, h2, h3⟩ := as_tup S r2 e1
      obtain ⟨i1, i2⟩ := inV_of r1 f1 h2 f2
      refine .inl ⟨a, vs, rfl, .inr h1, (flatD_of r1 f1).1, i1, k G H M (.bl _) _ (Same.refl _) S rfl ?_⟩
      rw [nb, i2]; exact h
    · next z e1 =>
      obtain ⟨rfl, l1, o1⟩ := as_str r2 e1
      split at h
      · next c _ =>
        obtain ⟨rfl, _⟩ := r1
        exact .inr (.inr ⟨c, z, rfl, rfl, k G H M (.bl _) _ (Same.refl _) S rfl h⟩)
      · exact h.elim
    · exact h.elim
theorem o_in {X : Cx} (hu : X.A.units + 1 < cLine) : QOp X (compareOp .In) (rInX X.K false) (dIn false) := ⟨OpR.or op_in_seq (OpR.or (op_inDk hu) op_inStr), ref_in⟩
theorem o_notin {X : Cx} (hu : X.A.units + 1 < cLine) : QOp X (compareOp .NotIn) (rInX X.K true) (dIn true) := ⟨OpR.or op_notIn_seq (OpR.or (op_ninDk hu) op_ninStr), ref_in⟩
abbrev DTO := DWt → Rho → Mst → (Option Int → Mst → Prop) → Prop
def RefO (K : PySem.W.Frag) (W : WX) (t : TO) (q : DTO) : Prop := ∀ DW G H p M s (Q : Option Int → Mst → Prop) (Q' : Option Int → Hp → Prop), WLink K G DW W → Sim K G H p M s → q DW p M Q →
  (∀ G' H' M' b, Same G G' → Sim K G' H' p M' s → Q b M' → Q' b H') → t s H Q'
structure QO (X : Cx) (W : WX) (e : Option Expr) (t : TO) (q : DTO) : Prop where
  pe : PO X e t
  rf : RefO X.K W t q
@[simp] def qNoPart : DTO := fun _ _ M Q => Q none M
@[simp] def qPart (q : DTE) : DTO := fun DW p M Q => q DW p M fun d M1 => match d with | .int i => Q (some i) M1 | _ => False
def cutX {α : Type} (xs : List α) (lo hi : Option Int) : List α := (xs.drop (HT.sIx xs.length 0 lo)).take (HT.sIx xs.length xs.length hi - HT.sIx xs.length 0 lo)
def dSl (m : Bool) (x : D) (lo hi : Option Int) (M : Mst) (Q : DK) : Prop := match x with
  | .tup ds => Q (.tup (cutX ds lo hi)) M
  | .xtp ds => Q (.tup (cutX ds lo hi)) M ∧ Q (.xtp (cutX ds lo hi)) M
  | .ktp ds => Q (.tup (cutX ds lo hi)) M ∧ Q (.ktp (cutX ds lo hi)) M
  | _ => match res M x with
    | .lst ds => newL m (cutX ds lo hi) M Q
    | .str z => Q (.str (cutS z lo hi)) M
    | _ => False
def qSl (m : Bool) (qe : DTE) (ql qh : DTO) : DTE := fun DW p M Q => qe DW p M fun x M1 => ql DW p M1 fun l M2 => qh DW p M2 fun u M3 => dSl m x l u M3 Q
theorem strOk_cut {z : Str} {lo hi : Option Int} (h : PyData.strOk z = true) : PyData.strOk (cutS z lo hi) = true := by
  have ho : ∀ y ∈ z.cps.toList, decide (y < 0x110000) = true := by
    unfold PyData.strOk at h
    rw [← Array.all_toList] at h
    exact List.all_eq_true.mp h
  unfold PyData.strOk cutS
  rw [← Array.all_toList]
  refine List.all_eq_true.mpr fun y hy => ho y ?_
  exact List.mem_of_mem_drop (List.mem_of_mem_take (by simpa using hy))
section
variable {X : Cx} {W : WX} {e : Expr} {te : TE} {qe : DTE} {lo hi : Option Expr} {tl th : TO} {ql qh : DTO} {pos p2 : Pos}
theorem qo_none : QO X W none tNoPart qNoPart := ⟨po_none, fun DW G H p M s Q Q' hw S q k => k G H M none (Same.refl _) S q⟩
theorem qo_some (h : QE X W e te qe) : QO X W (some e) (tPart te) (qPart qe) := ⟨po_some h.pe, fun DW G H p M s Q Q' hw S q k => h.rf DW G H p M s _ _ hw S q fun G1 H1 M1 d v e1 S1 r1 h1 => by
  cases d with
  | int i => cases r1; exact ⟨i, rfl, k G1 H1 M1 _ e1 S1 h1⟩
  | _ => exact h1.elim⟩
def rSlX (K : PySem.W.Frag) : V → Option Int → Option Int → Hp → VK → Prop := fun x lo hi H Q => rSlL K x lo hi H Q ∨ rSlA K x lo hi H Q ∨ rSlS x lo hi H Q
theorem q_slice (m : Bool) (he : QE X W e te qe) (hl : QO X W lo tl ql) (hu : QO X W hi th qh) : QE X W (.Subscript e (.Slice lo hi none p2) pos) (tSl (rSlX X.K) te tl th) (qSl m qe ql qh) :=
  ⟨pe_slice (SlR.or sl_list (SlR.or sl_tupA sl_str)) he.pe hl.pe hu.pe, fun DW G H p M s Q Q' hw S h k => he.rf DW G H p M s _ _ hw S h fun G1 H1 M1 d v e1 S1 r1 h1 =>
    hl.rf DW G1 H1 p M1 s _ _ (hw.mono e1) S1 h1 fun G2 H2 M2 l e2 S2 h2 => hu.rf DW G2 H2 p M2 s _ _ (hw.mono (e1.trans e2)) S2 h2 fun G3 H3 M3 u e3 S3 h3 => by
      have r3 := Rep.mono (e2.trans e3) _ _ r1
      have k3 : ∀ G' H' M' d w, Same G3 G' → Sim X.K G' H' p M' s → Rep X.K G' d w → Q d M' → Q' w H' := fun G' H' M' d w e4 => k G' H' M' d w (((e1.trans e2).trans e3).trans e4)
      unfold dSl at h3
      split at h3
      · next ds =>
        obtain ⟨a, vs, rfl, g1, g2, g3⟩ := r3
        have g1' := S3.same _ _ g1
        have c1 : RepL X.K G3 (cutX ds l u) (cutV vs l u) := by
          unfold cutX cutV
          rw [g2.length]
          exact RepL.take _ (RepL.drop _ g2)
        have c2 := Nat.le_trans (cutV_length vs l u) g3
        refine .inr (.inl ⟨a, vs, rfl, .inl (.inl g1'), fun hwh => ?_, fun hnw q hq => newT_ok S3 hq c1 c2 h3 k3⟩)
        refine k3 G3 H3 M3 (.tup (cutX ds l u)) _ (Same.refl _) S3 ⟨a, vs, rfl, g1, ?_, g3⟩ h3
        have e5 : cutV vs l u = vs := by
          unfold cutV
          rw [hwh.1, hwh.2]
          simp
        rw [e5] at c1; exact c1
      · next ds =>
        obtain ⟨a, o, vs, rfl, g1, g0, g2, g3⟩ := r3
        have g1' := S3.same _ _ g1
        have c1 : RepL X.K G3 (cutX ds l u) (cutV vs l u) := by
          unfold cutX cutV
          rw [g2.length]
          exact RepL.take _ (RepL.drop _ g2)
        have c2 := Nat.le_trans (cutV_length vs l u) g3
        refine .inr (.inl ⟨a, vs, rfl, .inl (.inr ⟨o, g1'⟩), fun hwh => ?_, fun hnw q hq => newT_ok S3 hq c1 c2 h3.1 k3⟩)
        refine k3 G3 H3 M3 (.xtp (cutX ds l u)) _ (Same.refl _) S3 ⟨a, o, vs, rfl, g1, g0, ?_, g3⟩ h3.2
        have e5 : cutV vs l u = vs := by
          unfold cutV
          rw [hwh.1, hwh.2]
          simp
        rw [e5] at c1; exact c1
      · next ds =>
        obtain ⟨a, vs, rfl, g1, g2, g3⟩ := r3
        have c1 : RepL X.K G3 (cutX ds l u) (cutV vs l u) := by
          unfold cutX cutV
          rw [g2.length]
          exact RepL.take _ (RepL.drop _ g2)
        have c2 := Nat.le_trans (cutV_length vs l u) g3
        refine .inr (.inl ⟨a, vs, rfl, same_t S3.same g1, fun hwh => ?_, fun hnw q hq => newT_ok S3 hq c1 c2 h3.1 k3⟩)
        refine k3 G3 H3 M3 (.ktp (cutX ds l u)) _ (Same.refl _) S3 ⟨a, vs, rfl, g1, ?_, g3⟩ h3.2
        have e5 : cutV vs l u = vs := by
          unfold cutV
          rw [hwh.1, hwh.2]
          simp
        rw [e5] at c1; exact c1
      · split at h3
        · next ds e4 =>
          obtain ⟨a, vs, rfl, g1, g2, g3⟩ := as_lst S3 r3 e4
          have c1 : RepL X.K G3 (cutX ds l u) (cutV vs l u) := by
            unfold cutX cutV
            rw [g2.length]
            exact RepL.take _ (RepL.drop _ g2)
          exact .inl ⟨a, vs, rfl, .inl (.inl g1), fun q hq => newL_ok S3 hq c1 (Nat.le_trans (cutV_length vs l u) g3) h3 k3⟩
        · next z e4 =>
          obtain ⟨rfl, l1, o1⟩ := as_str r3 e4
          exact .inr (.inr ⟨z, rfl, l1, k3 G3 H3 M3 (.str _) _ (Same.refl _) S3 ⟨rfl, Nat.le_trans (cutS_length z l u) l1, strOk_cut o1⟩ h3⟩)
        · exact h3.elim⟩
end
def dLen : DCa := fun ds M Q => match ds with
  | [x] => match res M x with
    | .lst es => Q (.int es.length) M
    | .tup es => Q (.int es.length) M
    | .str z => Q (.int z.length) M
    | .scr ns => Q (.int ns.length) M
    | .dct ks es => Q (.int es.length) M
    | _ => False
  | _ => False
theorem call_lenDR {X : Cx} : CallR X (.builtin "len") (fun xs H Q => ∃ a kvs, xs = [V.ref a] ∧ Rd H a (.dK kvs) ∧ Q (.int kvs.length) H) := by
  intro pins s σ H xs us Q I r h
  obtain ⟨a, kvs, rfl, ha, q⟩ := h
  obtain ⟨u, rfl, ru⟩ := vals1 r
  cases ru
  exact d_len I ha fun t s' I' => ⟨.int kvs.length, H, I', ⟨_, rfl⟩, q⟩
def rLenX (K : PySem.W.Frag) : List V → Hp → VK → Prop := fun xs H Q => (∃ x n, xs = [x] ∧ LenV K x H n ∧ Q (.int n) H) ∨ ∃ a kvs, xs = [V.ref a] ∧ Rd H a (.dK kvs) ∧ Q (.int kvs.length) H
theorem repL1 {K : PySem.W.Frag} {G : Hp} {x : D} {vs : List V} (r : RepL K G [x] vs) : ∃ v, vs = [v] ∧ Rep K G x v := by
  obtain ⟨v, r', e, h1, h2⟩ := r
  cases h2
  exact ⟨v, e, h1⟩
theorem repL2 {K : PySem.W.Frag} {G : Hp} {x y : D} {vs : List V} (r : RepL K G [x, y] vs) : ∃ v u, vs = [v, u] ∧ Rep K G x v ∧ Rep K G y u := by
  obtain ⟨v, r', e, h1, h2⟩ := r
  obtain ⟨u, e2, h3⟩ := repL1 h2
  subst e2
  exact ⟨v, u, e, h1, h3⟩
theorem c_len {X : Cx} : QCa X (.builtin "len") (rLenX X.K) dLen := ⟨CallR.or call_len call_lenDR, fun G H p M s ds vs Q Q' S r h k => by
  unfold dLen at h
  split at h
  · next x =>
    obtain ⟨v, rfl, r1⟩ := repL1 r
    have fin : ∀ (n : Nat), Q (.int n) M → Q' (.int n) H := fun n q => k G H M (.int n) _ (Same.refl _) S rfl q
    split at h
    · next es e1 =>
      obtain ⟨a, us, rfl, g1, g2, g3⟩ := as_lst S r1 e1
      exact .inl ⟨_, es.length, rfl, .inl ⟨us, .inl (.inl g1), g2.length.symm⟩, fin _ h⟩
    · next es e1 =>
      obtain ⟨a, us, rfl, g1, g2, g3⟩ := as_tup S r1 e1
      exact .inl ⟨_, es.length, rfl, .inr ⟨us, g1, g2.length.symm⟩, fin _ h⟩
    · next z e1 =>
      obtain ⟨rfl, l1, o1⟩ := as_str r1 e1
      exact .inl ⟨_, z.length, rfl, ⟨l1, rfl⟩, fin _ h⟩
    · next ns e1 =>
      cases x with
      | scr ms =>
        cases e1
        obtain ⟨a, rfl, g1, g2⟩ := r1
        exact .inl ⟨_, ns.length, rfl, .inl ⟨_, same_l S.same g1, by simp⟩, fin _ h⟩
      | ref a =>
        simp only [res] at e1
        split at e1 <;> cases e1
      | _ => cases e1
    · next ks es e1 =>
      obtain ⟨a, us, rfl, g1, g2, g3, g4, _⟩ := as_dct S r1 e1
      refine .inr ⟨a, us, rfl, g1, ?_⟩
      have e2 : us.length = es.length := by have := g3.length; simpa using this
      rw [e2]
      exact fin _ h
    · exact h.elim
  · exact h.elim⟩
def dAbs : DCa := fun ds M Q => match ds with
  | [.int i] => Q (.int (if i < 0 then -i else i)) M
  | _ => False
theorem c_abs {X : Cx} : QCa X (.builtin "abs") (fun xs H Q => ∃ i, xs = [.int i] ∧ Q (.int (if i < 0 then -i else i)) H) dAbs := ⟨call_abs, fun G H p M s ds vs Q Q' S r h k => by
  unfold dAbs at h
  split at h
  · next i =>
    obtain ⟨v, rfl, r1⟩ := repL1 r
    cases r1
    exact ⟨i, rfl, k G H M (.int _) _ (Same.refl _) S rfl h⟩
  · exact h.elim⟩
def dMax2 : DCa := fun ds M Q => match ds with
  | [.int i, .int j] => Q (.int (if j > i then j else i)) M
  | _ => False
def dMin2 : DCa := fun ds M Q => match ds with
  | [.int i, .int j] => Q (.int (if j < i then j else i)) M
  | _ => False
theorem c_max2 {X : Cx} (hc : X.calm = true) : QCa X (.builtin "max") (fun xs H Q => ∃ i j, xs = [.int i, .int j] ∧ Q (.int (if j > i then j else i)) H) dMax2 := ⟨call_max2 hc, fun G H p M s ds vs Q Q' S r h k => by
  unfold dMax2 at h
  split at h
  · next i j =>
    obtain ⟨v, u, rfl, r1, r2⟩ := repL2 r
    cases r1
    cases r2
    exact ⟨i, j, rfl, k G H M (.int _) _ (Same.refl _) S rfl h⟩
  · exact h.elim⟩
theorem c_min2 {X : Cx} (hc : X.calm = true) : QCa X (.builtin "min") (fun xs H Q => ∃ i j, xs = [.int i, .int j] ∧ Q (.int (if j < i then j else i)) H) dMin2 := ⟨call_min2 hc, fun G H p M s ds vs Q Q' S r h k => by
  unfold dMin2 at h
  split at h
  · next i j =>
    obtain ⟨v, u, rfl, r1, r2⟩ := repL2 r
    cases r1
    cases r2
    exact ⟨i, j, rfl, k G H M (.int _) _ (Same.refl _) S rfl h⟩
  · exact h.elim⟩
def dList (m : Bool) : DCa := fun ds M Q => match ds with
  | [x] => match res M x with
    | .lst es => newL m es M Q
    | .tup es => newL m es M Q
    | _ => False
  | _ => False
theorem c_list {X : Cx} (m : Bool) : QCa X (.type "list") (fun xs H Q => ∃ p ys, xs = [.ref p] ∧ (SqL X.K H p ys ∨ SqT X.K H p ys) ∧ ∀ l, H l = none → Q (.ref l) (upd H l (.lst ys))) (dList m) := ⟨call_list_of, fun G H p M s ds vs Q Q' S r h k => by
  unfold dList at h
  split at h
  · next x =>
    obtain ⟨v, rfl, r1⟩ := repL1 r
    split at h
    · next es e1 =>
      obtain ⟨a, us, rfl, g1, g2, g3⟩ := as_lst S r1 e1
      exact ⟨a, us, rfl, .inl (.inl (.inl g1)), fun q hq => newL_ok S hq g2 g3 h k⟩
    · next es e1 =>
      obtain ⟨a, us, rfl, g1, g2, g3⟩ := as_tup S r1 e1
      exact ⟨a, us, rfl, .inr g1, fun q hq => newL_ok S hq g2 g3 h k⟩
    · exact h.elim
  · exact h.elim⟩
def dTuple : DCa := fun ds M Q => match ds with
  | [.tup es] => Q (.tup es) M
  | [x] => match res M x with
    | .lst es => Q (.tup es) M
    | _ => False
  | _ => False
theorem c_tuple {X : Cx} : QCa X (.type "tuple") (fun xs H Q => ∃ p ys, xs = [.ref p] ∧ ((SqL X.K H p ys ∧ ∀ l, H l = none → Q (.ref l) (upd H l (.tup ys))) ∨ (SqT X.K H p ys ∧ Q (.ref p) H))) dTuple := ⟨call_tuple_of, fun G H p M s ds vs Q Q' S r h k => by
  unfold dTuple at h
  split at h
  · next es =>
    obtain ⟨v, rfl, r1⟩ := repL1 r
    obtain ⟨a, us, rfl, g1, g2, g3⟩ := r1
    exact ⟨a, us, rfl, .inr ⟨.inl (.inl (S.same _ _ g1)), k G H M (.tup es) _ (Same.refl _) S ⟨a, us, rfl, g1, g2, g3⟩ h⟩⟩
  · next x _ =>
    obtain ⟨v, rfl, r1⟩ := repL1 r
    split at h
    · next es e1 =>
      obtain ⟨a, us, rfl, g1, g2, g3⟩ := as_lst S r1 e1
      exact ⟨a, us, rfl, .inl ⟨.inl (.inl g1), fun q hq => newT_ok S hq g2 g3 h k⟩⟩
    · exact h.elim
  · exact h.elim⟩
def blsD : List D → Option (List Bool)
  | [] => some []
  | .bl b :: ds => (blsD ds).map (b :: ·)
  | _ => none
theorem blsD_of {K : PySem.W.Frag} {G : Hp} : ∀ {ds : List D} {vs : List V} {bs : List Bool}, RepL K G ds vs → blsD ds = some bs → vs = bs.map V.bl
  | [], _, _, h, e => by cases h; cases e; rfl
  | d :: ds, _, bs, ⟨v, r, h1, h2, h3⟩, e => by
    cases d with
    | bl b =>
      simp only [blsD] at e
      cases eb : blsD ds with
      | none => rw [eb] at e; cases e
      | some cs =>
        rw [eb] at e; cases e
        cases h2
        rw [h1, blsD_of h3 eb]; rfl
    | _ => simp [blsD] at e
@[simp] theorem blsD_map {α : Type} (f : α → Bool) : ∀ l : List α, blsD (l.map fun x => .bl (f x)) = some (l.map f)
  | [] => rfl
  | x :: l => by simp [blsD, blsD_map f l]
def dAll : DCa := fun ds M Q => match ds with
  | [x] => match res M x with
    | .lst es => match blsD es with | some bs => Q (.bl (bs.all id)) M | none => False
    | _ => False
  | _ => False
theorem c_all {X : Cx} (hc : X.calm = true) : QCa X (.builtin "all") (rAll X.K) dAll := ⟨cr_all hc, fun G H p M s ds vs Q Q' S r h k => by
  unfold dAll at h
  split at h
  · next x =>
    obtain ⟨v, rfl, r1⟩ := repL1 r
    split at h
    · next es e1 =>
      obtain ⟨a, us, rfl, g1, g2, g3⟩ := as_lst S r1 e1
      split at h
      · next bs eb =>
        refine ⟨a, bs, rfl, .inl (.inl ?_), k G H M (.bl _) _ (Same.refl _) S rfl h⟩
        rw [← blsD_of g2 eb]; exact g1
      · exact h.elim
    · exact h.elim
  · exact h.elim⟩
def tyD : D → String
  | .non => "NoneType"
  | .bl _ => "bool"
  | .int _ => "int"
  | .str _ => "str"
  | .tup _ => "tuple"
  | .ktp _ => "tuple"
  | .xtp _ => "tuple"
  | .lst _ => "list"
  | .dct _ _ => "dict"
  | .scr _ => "list"
  | _ => ""
def hasTy : D → Bool
  | .ins _ _ _ => false
  | .exc _ _ _ _ => false
  | .fnv _ _ _ _ _ => false
  | .fno _ _ _ _ => false
  | .ref _ => false
  | .ty _ => false
  | .scr _ => false
  | _ => true
/-- is a thing of the type t one of T -/
def isiB (t T : String) : Option Bool := kitB t T
def isiL (t : String) : List D → Option Bool
  | [] => some false
  | .ty T :: ds => match isiB t T, isiL t ds with
    | some a, some b => some (a || b)
    | _, _ => none
  | _ => none
def dIsi : DCa := fun ds M Q => match ds with
  | [x, .ty T] => hasTy (res M x) = true ∧ match isiB (tyD (res M x)) T with | some b => Q (.bl b) M | none => False
  | [x, .tup Ts] => hasTy (res M x) = true ∧ match isiL (tyD (res M x)) Ts with | some b => Q (.bl b) M | none => False
  | _ => False
theorem tyX_of {K : PySem.W.Frag} {G H : Hp} {p : Rho} {M : Mst} {s : L2.St} {x : D} {v : V} (S : Sim K G H p M s) (r : Rep K G x v) (h : hasTy (res M x) = true) : TyX K H v (.type (tyD (res M x))) := by
  cases e : res M x with
  | non =>
    have : x = .non := by
      cases x with
      | ref a => simp only [res] at e; split at e <;> cases e
      | _ => cases e <;> rfl
    subst this; cases r; exact .base .non
  | bl b =>
    have : x = .bl b := by
      cases x with
      | ref a => simp only [res] at e; split at e <;> cases e
      | _ => cases e <;> rfl
    subst this; cases r; exact .base (.bl _)
  | int b => cases as_int r e; exact .base (.int _)
  | str b => obtain ⟨rfl, _⟩ := as_str r e; exact .base (.str _)
  | ty b => rw [e] at h; cases h
  | ref b => rw [e] at h; cases h
  | scr b => rw [e] at h; cases h
  | ins a b c => rw [e] at h; cases h
  | exc a b c z => rw [e] at h; cases h
  | fnv a b c _ _ => rw [e] at h; cases h
  | fno a b c z => rw [e] at h; cases h
  | ktp b =>
    cases x with
    | ref a => simp only [res] at e; split at e <;> cases e
    | _ => cases e
  | xtp b =>
    cases x with
    | ref a => simp only [res] at e; split at e <;> cases e
    | _ => cases e
  | tup ds =>
    cases x with
    | ref a => simp only [res] at e; split at e <;> cases e
    | tup es =>
      cases e
      obtain ⟨a, us, rfl, g1, g2, g3⟩ := r
      exact .base (.tup (S.same _ _ g1))
    | ktp es =>
      cases e
      obtain ⟨a, us, rfl, g1, g2, g3⟩ := r
      rcases g1 with (g1 | ⟨o, g1⟩) | ⟨o, its, n, hk, hc, _⟩
      · exact .base (.tup (S.same _ _ g1))
      · exact .fTuple (S.same _ _ g1)
      · exact .kTuple hk hc
    | xtp es =>
      cases e
      obtain ⟨a, o, us, rfl, g1, g2, g3⟩ := r
      exact .fTuple (S.same _ _ g1)
    | _ => cases e
  | lst ds =>
    obtain ⟨a, us, rfl, g1, g2, g3⟩ := as_lst S r e
    exact .base (.lst g1)
  | dct ks ds =>
    obtain ⟨a, us, rfl, g1, g2, g3, g4, _⟩ := as_dct S r e
    rcases g1 with g1 | ⟨o, g1⟩
    · exact .base (.dK g1)
    · exact .fDict g1
theorem isiL_of {K : PySem.W.Frag} {G : Hp} {t : String} : ∀ {ds : List D} {vs : List V} {b : Bool}, RepL K G ds vs → isiL t ds = some b → ∃ us, Paired ClsV vs us ∧ PySem.W.kitAny K (.type t) us = some b
  | [], _, b, h, e => by cases h; cases e; exact ⟨[], .nil, kitAny_nil⟩
  | d :: ds, _, b, ⟨v, r, h1, h2, h3⟩, e => by
    cases d with
    | ty T =>
      simp only [isiL] at e
      split at e
      · next a c e1 e2 =>
        cases e
        cases h2
        subst h1
        obtain ⟨us, q1, q2⟩ := isiL_of h3 e2
        refine ⟨.type T :: us, .cons (.ty T) q1, kitAny_cons (kit_ty e1) (fun ha => ?_) fun ha => ?_⟩
        · rw [q2, ha]; rfl
        · rw [ha]; rfl
      · cases e
    | _ => simp [isiL] at e
def rIsiX (K : PySem.W.Frag) : List V → Hp → VK → Prop := fun xs H Q => rIsi K xs H Q ∨ rIsiT K xs H Q
theorem c_isi {X : Cx} : QCa X (.builtin "isinstance") (rIsiX X.K) dIsi := ⟨CallR.or call_isi call_isiT, fun G H p M s ds vs Q Q' S r h k => by
  unfold dIsi at h
  split at h
  · next x T =>
    obtain ⟨v, u, rfl, r1, r2⟩ := repL2 r
    cases r2
    obtain ⟨ht, h⟩ := h
    split at h
    · next b e => exact .inl ⟨_, _, _, _, b, rfl, .ty T, tyX_of S r1 ht, kit_ty e, k G H M (.bl b) _ (Same.refl _) S rfl h⟩
    · exact h.elim
  · next x Ts =>
    obtain ⟨v, u, rfl, r1, r2⟩ := repL2 r
    obtain ⟨a, us, rfl, g1, g2, g3⟩ := r2
    obtain ⟨ht, h⟩ := h
    split at h
    · next b e =>
      obtain ⟨ws, q1, q2⟩ := isiL_of g2 e
      exact .inr ⟨_, a, us, _, ws, b, rfl, S.same _ _ g1, q1, tyX_of S r1 ht, q2, k G H M (.bl b) _ (Same.refl _) S rfl h⟩
    · exact h.elim
  · exact h.elim⟩
end DL
namespace DL
open PySem L2
@[simp] def qNext : DTS := fun _ DE p M => DE.nx p M
@[simp] def qSeq (q1 q2 : DTS) : DTS := fun DW DE p M => q1 DW { DE with nx := q2 DW DE } p M
@[simp] def qDrop (q : DTE) : DTS := fun DW DE p M => q DW p M fun _ M1 => DE.nx p M1
@[simp] def qRet (q : DTE) : DTS := fun DW DE p M => q DW p M fun d M1 => DE.rt d M1
@[simp] def qRetN : DTS := fun _ DE p M => DE.rt .non M
@[simp] def qIfS (c : DTT) (a b : DTS) : DTS := fun DW DE p M => c DW p M fun k M1 => if k = true then a DW DE p M1 else b DW DE p M1
@[simp] def qBreak : DTS := fun _ DE p M => DE.bk p M
@[simp] def qCont : DTS := fun _ DE p M => DE.ct p M
section
variable {X : Cx} {W : WX} {st : Stmt} {rest : List Stmt} {t u : TS} {q r : DTS} {e : Expr} {te : TE} {qe : DTE} {pos : Pos}
theorem qss_nil : QSs X W [] tNext qNext := ⟨pss_nil, fun DW G H p M s DE E hw S h k => k.nx G H p M s (Same.refl _) S h⟩
theorem qss_cons (h1 : QS X W st t q) (h2 : QSs X W rest u r) : QSs X W (st :: rest) (tSeq t u) (qSeq q r) :=
  ⟨pss_cons h1.pe h2.pe, fun DW G H p M s DE E hw S h k => h1.rf DW G H p M s _ _ hw S h
    ⟨fun G' H' p' M' s' e1 S' h' => h2.rf DW G' H' p' M' s' DE E (hw.mono e1) S' h' (k.mono e1), k.rt, k.bk, k.ct⟩⟩
theorem qss_one (h1 : QS X W st t q) : QSs X W [st] t q := ⟨pss_one h1.pe, h1.rf⟩
theorem qs_expr (he : QE X W e te qe) (hs : swapsWith e none pos.line X.env = pure false := by rfl) : QS X W (.Expr e pos) (tDrop te) (qDrop qe) :=
  ⟨ps_expr he.pe hs, fun DW G H p M s DE E hw S h k => he.rf DW G H p M s _ _ hw S h fun G1 H1 M1 d v e1 S1 r1 h1 => k.nx G1 H1 p M1 s e1 S1 h1⟩
theorem qs_ret (he : QE X W e te qe) : QS X W (.Return (some e) pos) (tRet te) (qRet qe) :=
  ⟨ps_ret he.pe, fun DW G H p M s DE E hw S h k => he.rf DW G H p M s _ _ hw S h fun G1 H1 M1 d v e1 S1 r1 h1 => k.rt G1 H1 p M1 s d v e1 S1 r1 h1⟩
theorem qs_if {c : Expr} {a b : List Stmt} {tc : TT} {qc : DTT} (hc : QT X W c tc qc) (ha : QSs X W a t q) (hb : QSs X W b u r) : QS X W (.If c a b pos) (tIfS tc t u) (qIfS qc q r) :=
  ⟨ps_if hc.pe ha.pe hb.pe, fun DW G H p M s DE E hw S h k => hc.rf DW G H p M s _ _ hw S h fun G1 H1 M1 c e1 S1 h1 => by
    cases c with
    | true =>
      rw [if_pos rfl] at h1 ⊢
      exact ha.rf DW G1 H1 p M1 s DE E (hw.mono e1) S1 h1 (k.mono e1)
    | false =>
      rw [if_neg Bool.false_ne_true] at h1 ⊢
      exact hb.rf DW G1 H1 p M1 s DE E (hw.mono e1) S1 h1 (k.mono e1)⟩
end
def Only (ix : List Nat) (s s' : L2.St) : Prop := s'.length = s.length ∧ ∀ j, j ∉ ix → s'[j]? = s[j]?
theorem Only.refl (ix : List Nat) (s : L2.St) : Only ix s s := ⟨rfl, fun _ _ => rfl⟩
theorem Only.trans {ix : List Nat} {s s1 s2 : L2.St} (a : Only ix s s1) (b : Only ix s1 s2) : Only ix s s2 := ⟨b.1.trans a.1, fun j h => (b.2 j h).trans (a.2 j h)⟩
theorem Only.mono {ix iy : List Nat} {s s1 : L2.St} (a : Only ix s s1) (h : ∀ j ∈ ix, j ∈ iy) : Only iy s s1 := ⟨a.1, fun j hj => a.2 j fun z => hj (h j z)⟩
theorem Only.set {ix : List Nat} {s : L2.St} {i : Nat} {v : Option V} (h : i ∈ ix) : Only ix s (s.set i v) := ⟨by simp, fun j hj => List.getElem?_set_ne (fun z => hj (by rw [← z]; exact h))⟩
theorem wipe_get {s : L2.St} {j : Nat} : ∀ {vs : List Nat}, j ∉ vs → (wipe s vs)[j]? = s[j]?
  | [], _ => rfl
  | v :: vs, h => by
    simp only [List.mem_cons, not_or] at h
    unfold wipe
    rw [List.getElem?_set_ne (Ne.symm h.1)]
    exact wipe_get h.2
theorem wipe_in {s : L2.St} {j : Nat} : ∀ {vs : List Nat}, j ∈ vs → j < s.length → (wipe s vs)[j]? = some none
  | [], h, _ => by cases h
  | v :: vs, h, hl => by
    unfold wipe
    by_cases e : v = j
    · subst e
      rw [List.getElem?_set_self (by rw [wipe_length]; exact hl)]
    · rw [List.getElem?_set_ne e]
      exact wipe_in (by rcases List.mem_cons.mp h with q | q; exact absurd q.symm e; exact q) hl
theorem Only.wipe {ix : List Nat} {s s' : L2.St} (h : Only ix s s') : L2.wipe s' ix = L2.wipe s ix := by
  apply List.ext_getElem?
  intro j
  by_cases hj : j ∈ ix
  · by_cases hl : j < s.length
    · rw [wipe_in hj hl, wipe_in hj (by rw [h.1]; exact hl)]
    · rw [List.getElem?_eq_none (by rw [wipe_length, h.1]; omega), List.getElem?_eq_none (by rw [wipe_length]; omega)]
  · rw [wipe_get hj, wipe_get hj]; exact h.2 j hj
def RefGi (K : PySem.W.Frag) (W : WX) (ix : List Nat) (t : TG) (q : DTG) : Prop := ∀ DW G H p M s d v (Q : Rho → Mst → Prop) (Q' : L2.St → Hp → Prop), WLink K G DW W → Sim K G H p M s → Rep K G d v → q d DW p M Q →
  (∀ G' H' p' M' s', Same G G' → Sim K G' H' p' M' s' → Only ix s s' → Q p' M' → Q' s' H') → t v s H Q'
def RefGis (K : PySem.W.Frag) (W : WX) (ix : List Nat) (t : TGs) (q : DTGs) : Prop := ∀ DW G H p M s ds vs (Q : Rho → Mst → Prop) (Q' : L2.St → Hp → Prop), WLink K G DW W → Sim K G H p M s → RepL K G ds vs → q ds DW p M Q →
  (∀ G' H' p' M' s', Same G G' → Sim K G' H' p' M' s' → Only ix s s' → Q p' M' → Q' s' H') → t vs s H Q'
structure QGi (X : Cx) (W : WX) (ix : List Nat) (tg : Expr) (t : TG) (q : DTG) : Prop where
  pe : PG X tg t
  rf : RefGi X.K W ix t q
structure QGis (X : Cx) (W : WX) (ix : List Nat) (tg : List Expr) (t : TGs) (q : DTGs) : Prop where
  pe : PGs X tg t
  rf : RefGis X.K W ix t q
section
variable {K : PySem.W.Frag} {G H : Hp} {p : Rho} {M : Mst} {s : L2.St} {d : D} {v : V}
theorem Sim.set (S : Sim K G H p M s) (i : Nat) (r : Rep K G d v) : Sim K G H (p.set i (some d)) M (s.set i (some v)) := by
  refine ⟨S.same, fun j e h => ?_, by simp [S.len], S.mem⟩
  by_cases hj : i = j
  · subst hj
    by_cases hl : i < p.length
    · rw [List.getElem?_set_self hl] at h
      cases h
      exact ⟨v, by rw [List.getElem?_set_self (by rw [S.len]; exact hl)], r⟩
    · rw [List.getElem?_eq_none (by simpa using hl)] at h
      cases h
  · rw [List.getElem?_set_ne hj] at h ⊢
    exact S.env j e h
/-- a name is forgotten -/
theorem Sim.forget (S : Sim K G H p M s) (i : Nat) (v : Option V) : Sim K G H (p.set i none) M (s.set i v) := by
  refine ⟨S.same, fun j e h => ?_, by simp [S.len], S.mem⟩
  by_cases hj : i = j
  · subst hj
    by_cases hl : i < p.length
    · rw [List.getElem?_set_self hl] at h
      cases h
    · rw [List.getElem?_eq_none (by simpa using hl)] at h
      cases h
  · rw [List.getElem?_set_ne hj] at h ⊢
    exact S.env j e h
end
def wipeD (p : Rho) : List Nat → Rho
  | [] => p
  | v :: vs => (wipeD p vs).set v none
theorem Sim.wipe {K : PySem.W.Frag} {G H : Hp} {p : Rho} {M : Mst} {s : L2.St} (S : Sim K G H p M s) : ∀ vs : List Nat, Sim K G H (wipeD p vs) M (L2.wipe s vs)
  | [] => S
  | v :: vs => (Sim.wipe S vs).forget v none
@[simp] def gNameD (i : Nat) : DTG := fun d _ p M Q => Q (p.set i (some d)) M
@[simp] def gNilD : DTGs := fun ds _ p M Q => ds = [] ∧ Q p M
@[simp] def gConsD (g : DTG) (gs : DTGs) : DTGs := fun ds DW p M Q => match ds with
  | d :: r => g d DW p M fun p1 M1 => gs r DW p1 M1 Q
  | [] => False
def gTupD (n : Nat) (gs : DTGs) : DTG := fun d DW p M Q => match res M d with
  | .tup ds => ds.length = n ∧ gs ds DW p M Q
  | _ => False
/-- o[i] = v by values -/
def putD {κ : Type} [DecidableEq κ] (kvs : List (κ × D)) (k : κ) (v : D) : List (κ × D) :=
  if kvs.any (fun kv => decide (kv.1 = k)) then kvs.map (fun kv => if kv.1 = k then (kv.1, v) else kv) else kvs ++ [(k, v)]
def dSet (o i v : D) (M : Mst) (Q : Mst → Prop) : Prop := match o with
  | .ref a => match M a with
    | some (.lst ds) => match i with
      | .int k => match ixN ds.length k with
        | some j => Q (put M a (.lst (ds.set j v)))
        | none => False
      | _ => False
    | some (.dK kvs) => match keyD i with
      | some k => kvs.length < 100000 ∧ Q (put M a (.dK (putD kvs k v)))
      | none => False
    | some (.dT kvs) => match i with
      | .tup ks => match keysD ks with
        | some k => kvs.length < 100000 ∧ Q (put M a (.dT (putD kvs k v)))
        | none => False
      | _ => False
    | _ => False
  | _ => False
def gSubD (qo qi : DTE) : DTG := fun d DW p M Q => qo DW p M fun o M1 => qi DW p M1 fun i M2 => dSet o i d M2 fun M3 => Q p M3
section
variable {X : Cx} {W : WX} {x : Str} {pos : Pos}
theorem qg_name {i : Nat} {ix : List Nat} (h : PG X (.Name x pos) (gName i)) (hm : i ∈ ix) : QGi X W ix (.Name x pos) (gName i) (gNameD i) :=
  ⟨h, fun DW G H p M s d v Q Q' hw S r q k => k G H _ M _ (Same.refl _) (S.set i r) (Only.set hm) q⟩
theorem qgs_nil {ix : List Nat} : QGis X W ix [] gNil gNilD := ⟨pgs_nil, fun DW G H p M s ds vs Q Q' hw S r ⟨e, q⟩ k => by
  subst e; cases r; exact ⟨rfl, k G H p M s (Same.refl _) S (Only.refl _ _) q⟩⟩
theorem qgs_cons {ix : List Nat} {e : Expr} {es : List Expr} {t : TG} {q : DTG} {u : TGs} {r : DTGs} (h1 : QGi X W ix e t q) (h2 : QGis X W ix es u r) (hs : (assignEach (e :: es) X.env).map (·.2) = assign e X.env :: (assignEach es X.env).map (·.2) := by rfl) :
    QGis X W ix (e :: es) (gCons t u) (gConsD q r) := ⟨pgs_cons h1.pe h2.pe hs, fun DW G H p M s ds vs Q Q' hw S rr h k => by
  cases ds with
  | nil => exact h.elim
  | cons d ds =>
    obtain ⟨v, vr, e1, r1, r2⟩ := rr
    exact ⟨v, vr, e1, h1.rf DW G H p M s d v _ _ hw S r1 h fun G1 H1 p1 M1 s1 e1 S1 o1 h1 => h2.rf DW G1 H1 p1 M1 s1 ds vr Q Q' (hw.mono e1) S1 (RepL.mono e1 _ _ r2) h1
      fun G2 H2 p2 M2 s2 e2 S2 o2 h2 => k G2 H2 p2 M2 s2 (e1.trans e2) S2 (o1.trans o2) h2⟩⟩
theorem qg_tup {ix : List Nat} {es : List Expr} {kk : Nat} {t : TGs} {q : DTGs} {n : Nat} (hc : X.calm = true) (h : QGis X W ix es t q) (hn : (assignEach es X.env).length = n := by rfl) (hst : (assignEach es X.env).findIdx? (·.1) = none := by rfl) :
    QGi X W ix (.Tuple es kk pos) (gTup X.K n t) (gTupD n q) := ⟨pg_tup hc h.pe hn hst, fun DW G H p M s d v Q Q' hw S r hq k => by
  unfold gTupD at hq
  split at hq
  · next ds e1 =>
    obtain ⟨hl, hq⟩ := hq
    obtain ⟨a, vs, rfl, g1, g2, g3⟩ := as_tup S r e1
    exact ⟨a, vs, rfl, g1, g2.length.trans hl, h.rf DW G H p M s ds vs Q Q' hw S g2 hq k⟩
  · exact hq.elim⟩
theorem set_dict (hu : X.A.units + 1 < cLine) : PSet X (fun o i v H Q => ∃ a H4, o = .ref a ∧ DPut H a i v H4 ∧ Q H4) := by
  intro pins s σ H o i v ov iv u Q I ro ri rv h
  obtain ⟨a, H4, rfl, g, q⟩ := h
  cases ro
  exact d_setItem hu I g ri rv fun s' I' => ⟨H4, I', q⟩
def rSetX : TSet := fun o i v H Q => rSetL o i v H Q ∨ ∃ a H4, o = .ref a ∧ DPut H a i v H4 ∧ Q H4
theorem set_any (hu : X.A.units + 1 < cLine) : PSet X rSetX := by
  intro pins s σ H o i v ov iv u Q I ro ri rv h
  rcases h with h | h
  · exact set_list pins s σ H o i v ov iv u Q I ro ri rv h
  · exact set_dict hu pins s σ H o i v ov iv u Q I ro ri rv h
theorem any_key {κ : Type} [DecidableEq κ] {kvs : List (κ × D)} {kv : List (κ × V)} {k : κ} (h : kv.map (·.1) = kvs.map (·.1)) : kv.any (fun q => decide (q.1 = k)) = kvs.any (fun q => decide (q.1 = k)) := by
  have e1 : kv.any (fun q => decide (q.1 = k)) = (kv.map (·.1)).any (fun q => decide (q = k)) := by rw [List.any_map]; rfl
  have e2 : kvs.any (fun q => decide (q.1 = k)) = (kvs.map (·.1)).any (fun q => decide (q = k)) := by rw [List.any_map]; rfl
  rw [e1, e2, h]
theorem putMap_rel {K : PySem.W.Frag} {G : Hp} {κ : Type} [DecidableEq κ] {k : κ} {d : D} {v : V} (rd : Rep K G d v) : ∀ {kvs : List (κ × D)} {kv : List (κ × V)}, kv.map (·.1) = kvs.map (·.1) → RepL K G (kvs.map (·.2)) (kv.map (·.2)) →
    (kv.map fun q => if q.1 = k then (q.1, v) else q).map (·.1) = (kvs.map fun q => if q.1 = k then (q.1, d) else q).map (·.1) ∧ RepL K G ((kvs.map fun q => if q.1 = k then (q.1, d) else q).map (·.2)) ((kv.map fun q => if q.1 = k then (q.1, v) else q).map (·.2))
  | [], [], _, _ => ⟨rfl, rfl⟩
  | [], _ :: _, h, _ => by cases h
  | _ :: _, [], h, _ => by cases h
  | (a, e) :: kvs, (b, w) :: kv, h, r => by
    simp only [List.map_cons, List.cons.injEq] at h
    obtain ⟨rfl, h⟩ := h
    obtain ⟨v', r', e1, h2, h3⟩ := r
    simp only [List.map_cons, List.cons.injEq] at e1
    obtain ⟨rfl, rfl⟩ := e1
    obtain ⟨i1, i2⟩ := putMap_rel rd h h3
    by_cases z : b = k
    · simp only [List.map_cons, z, if_true]
      exact ⟨by rw [i1], RepL.cons rd i2⟩
    · simp only [List.map_cons, z, if_false]
      exact ⟨by rw [i1], RepL.cons h2 i2⟩
theorem put_rel {K : PySem.W.Frag} {G : Hp} {κ : Type} [DecidableEq κ] {kvs : List (κ × D)} {kv : List (κ × V)} {k : κ} {d : D} {v : V} (h : kv.map (·.1) = kvs.map (·.1)) (r : RepL K G (kvs.map (·.2)) (kv.map (·.2))) (rd : Rep K G d v) :
    (putK kv k v).map (·.1) = (putD kvs k d).map (·.1) ∧ RepL K G ((putD kvs k d).map (·.2)) ((putK kv k v).map (·.2)) ∧ (putK kv k v).length ≤ kv.length + 1 := by
  unfold putK putD
  rw [any_key h]
  cases kvs.any (fun q => decide (q.1 = k)) with
  | true =>
    simp only [if_true]
    obtain ⟨i1, i2⟩ := putMap_rel (k := k) rd h r
    exact ⟨i1, i2, by simp⟩
  | false =>
    simp only [Bool.false_eq_true, if_false]
    refine ⟨by simp [h], ?_, by simp⟩
    rw [List.map_append, List.map_append]
    exact RepL.append r (RepL.cons rd rfl)
theorem kOk_of {K : PySem.W.Frag} {G : Hp} {d : D} {v : V} {k : Key} (r : Rep K G d v) (h : keyD d = some k) : kOk k := by
  cases d with
  | int i => cases h; trivial
  | str x => cases h; exact r.2
  | _ => cases h
theorem kOks_of {K : PySem.W.Frag} {G : Hp} : ∀ {ds : List D} {vs : List V} {ks : List Key}, RepL K G ds vs → keysD ds = some ks → ks.length = ds.length ∧ ∀ k ∈ ks, kOk k
  | [], _, _, h, e => by cases h; cases e; exact ⟨rfl, fun _ h => by cases h⟩
  | d :: ds, _, ks, ⟨v, r, h1, h2, h3⟩, e => by
    simp only [keysD] at e
    split at e
    · next k ks' e1 e2 =>
      cases e
      obtain ⟨i1, i2⟩ := kOks_of h3 e2
      refine ⟨by simp [i1], fun q hq => ?_⟩
      rcases List.mem_cons.mp hq with rfl | hq
      · exact kOk_of h2 e1
      · exact i2 q hq
    · cases e
theorem putD_keys {κ : Type} [DecidableEq κ] {P : κ → Prop} {kvs : List (κ × D)} {k : κ} {d : D} (h : ∀ q ∈ kvs, P q.1) (hk : P k) : ∀ q ∈ putD kvs k d, P q.1 := by
  intro q hq
  unfold putD at hq
  split at hq
  · obtain ⟨r, h1, h2⟩ := List.mem_map.mp hq
    subst h2
    split
    · exact h r h1
    · exact h r h1
  · rcases List.mem_append.mp hq with hq | hq
    · exact h q hq
    · have : q = (k, d) := by simpa using hq
      subst this; exact hk
theorem qg_sub {ix : List Nat} {o i : Expr} {to ti : TE} {qo qi : DTE} (hu : X.A.units + 1 < cLine) (ho : QE X W o to qo) (hi : QE X W i ti qi)
    (ha : ∀ v, assign (.Subscript o i pos) X.env v = (do
      let ov ← holding [v] (eval o X.env)
      let iv ← holding [v, ov] (eval i X.env)
      standAt pos
      holding [v, ov, iv] (setItem ov iv v)
      release [v, ov, iv] []) := by intro _; rfl) : QGi X W ix (.Subscript o i pos) (gSub to ti rSetX) (gSubD qo qi) :=
  ⟨pg_sub ho.pe hi.pe (set_any hu) ha, fun DW G H p M s d v Q Q' hw S r h k => ho.rf DW G H p M s _ _ hw S h fun G1 H1 M1 x xv e1 S1 r1 h1 =>
    hi.rf DW G1 H1 p M1 s _ _ (hw.mono e1) S1 h1 fun G2 H2 M2 y yv e2 S2 r2 h2 => by
      have r' := Rep.mono (e1.trans e2) _ _ r
      have r1' := Rep.mono e2 _ _ r1
      unfold dSet at h2
      split at h2
      · next a =>
        cases r1'
        split at h2
        · next ds em =>
          obtain ⟨gn, vs, g1, g2, g3⟩ := S2.mem _ _ em
          split at h2
          · next n =>
            cases r2
            split at h2
            · next j ej =>
              refine .inl ⟨a, vs, n, j, rfl, rfl, g1, by rw [g2.length]; exact ej, ?_⟩
              exact k G2 _ p _ s (e1.trans e2) (S2.put (mo := .lst (ds.set j d)) gn ⟨_, upd_same, RepL.set j g2 r', by simpa using g3⟩) (Only.refl _ _) h2
            · exact h2.elim
          · exact h2.elim
        · next kvs em =>
          obtain ⟨gn, kv, g1, g2, g3, g4, g5⟩ := S2.mem _ _ em
          split at h2
          · next kk ek =>
            have kk1 := kOk_of r2 ek
            obtain ⟨hl, h2⟩ := h2
            cases keyD_of r2 ek
            have hl' : kv.length < sizeLine := by
              have e5 : kv.length = kvs.length := by have := congrArg List.length g2; simpa using this
              rw [sizeLine_eq]; omega
            obtain ⟨p1, p2, p3⟩ := put_rel (k := kk) g2 g3 r'
            refine .inr ⟨a, _, rfl, DPut.k g1 hl', ?_⟩
            exact k G2 _ p _ s (e1.trans e2) (S2.put (mo := .dK (putD kvs kk d)) gn ⟨_, upd_same, p1, p2, by omega, putD_keys g5 kk1⟩) (Only.refl _ _) h2
          · exact h2.elim
        · next kvs em =>
          obtain ⟨gn, kv, g1, g2, g3, g4, g5⟩ := S2.mem _ _ em
          split at h2
          · next ks =>
            split at h2
            · next kk ek =>
              obtain ⟨hl, h2⟩ := h2
              obtain ⟨b, ws, rfl, c1, c2, c3⟩ := r2
              have e6 := keysD_of c2 ek
              obtain ⟨kl, kk1⟩ := kOks_of c2 ek
              have kl' : kk.length ≤ sizeLine := by rw [kl, ← c2.length]; exact c3
              have hl' : kv.length < sizeLine := by
                have e5 : kv.length = kvs.length := by have := congrArg List.length g2; simpa using this
                rw [sizeLine_eq]; omega
              obtain ⟨p1, p2, p3⟩ := put_rel (k := kk) g2 g3 r'
              refine .inr ⟨a, _, rfl, DPut.t g1 (by rw [S2.same _ _ c1, e6]) hl', ?_⟩
              exact k G2 _ p _ s (e1.trans e2) (S2.put (mo := .dT (putD kvs kk d)) gn ⟨_, upd_same, p1, p2, by omega, putD_keys (P := fun k => k.length ≤ sizeLine ∧ ∀ x ∈ k, kOk x) g5 ⟨kl', kk1⟩⟩) (Only.refl _ _) h2
            · exact h2.elim
          · exact h2.elim
        · exact h2.elim
      · exact h2.elim⟩
@[simp] def qAsg (qe : DTE) (g : DTG) : DTS := fun DW DE p M => qe DW p M fun d M1 => g d DW p M1 DE.nx
theorem ref_asg {K : PySem.W.Frag} {te : TE} {qe : DTE} {t : TG} {g : DTG} {ix : List Nat} (h : RefE K W te qe) (hg : RefGi K W ix t g) : RefS K W (tAsg te t) (qAsg qe g) :=
  fun DW G H p M s DE E hw S q k => h DW G H p M s _ _ hw S q fun G1 H1 M1 d v e1 S1 r1 h1 => hg DW G1 H1 p M1 s d v _ _ (hw.mono e1) S1 r1 h1 fun G2 H2 p2 M2 s2 e2 S2 _ h2 => k.nx G2 H2 p2 M2 s2 (e1.trans e2) S2 h2
theorem qs_asg {tg e : Expr} {te : TE} {qe : DTE} {t : TG} {g : DTG} {ix : List Nat} (he : QE X W e te qe) (hg : QGi X W ix tg t g) (hs : swapsWithSole [tg] e pos.line X.env = pure false := by rfl) (hw : swappedStores [tg] e X.env = pure none := by rfl)
    (h1 : (assignEach [tg] X.env).map (·.2) = [assign tg X.env] := by rfl) : QS X W (.Assign [tg] e pos) (tAsg te t) (qAsg qe g) := ⟨ps_asg he.pe hg.pe hs hw h1, ref_asg he.rf hg.rf⟩
theorem qs_set {i : Nat} {x : Str} {e : Expr} {te : TE} {qe : DTE} {pos' : Pos} (h : PS X (.Assign [.Name x pos'] e pos) (tAsg te (gName i))) (he : RefE X.K W te qe) : QS X W (.Assign [.Name x pos'] e pos) (tAsg te (gName i)) (qAsg qe (gNameD i)) :=
  ⟨h, fun DW G H p M s DE E hw S q k => he DW G H p M s _ _ hw S q fun G1 H1 M1 d v e1 S1 r1 h1 => k.nx G1 H1 _ M1 _ e1 (S1.set i r1) h1⟩
@[simp] def qPar (i j : Nat) (qa : DTA) : DTS := fun DW DE p M => qa DW p M fun ds M1 => match ds with
  | [a, b] => DE.nx ((p.set i (some a)).set j (some b)) M1
  | _ => False
theorem qs_par {i j : Nat} {st : Stmt} {ta : TA} {qa : DTA} (h : PS X st (tPar i j ta)) (ha : RefA X.K W ta qa) : QS X W st (tPar i j ta) (qPar i j qa) :=
  ⟨h, fun DW G H p M s DE E hw S q k => ha DW G H p M s _ _ hw S q fun G1 H1 M1 ds vs e1 S1 r1 h1 => by
    split at h1
    · next a b =>
      obtain ⟨v, u, rfl, r2, r3⟩ := repL2 r1
      exact ⟨v, u, rfl, k.nx G1 H1 _ M1 _ e1 ((S1.set i r2).set j r3) h1⟩
    · exact h1.elim⟩
@[simp] def qPar3 (i j l : Nat) (qa : DTA) : DTS := fun DW DE p M => qa DW p M fun ds M1 => match ds with
  | [a, b, c] => DE.nx (((p.set i (some a)).set j (some b)).set l (some c)) M1
  | _ => False
def qAug (i : Nat) (qe : DTE) (o : DOp) : DTS := fun DW DE p M => match p[i]? with
  | some (some x) => qe DW p M fun y M1 => o x y M1 fun z M2 => DE.nx (p.set i (some z)) M2
  | _ => False
end
end DL
namespace DL
open PySem L2
/-- an iterator that gives these things, as long as Sty holds of the mutable objects -/
structure Feed (K : PySem.W.Frag) (G : Hp) (J : It) (ds : List D) (Sty : Mst → Prop) : Prop where
  go : ∀ G' H p M s i, Same G G' → Sim K G' H p M s → Sty M → i < ds.length → J.go i H
  yld : ∀ G' H p M s i x H', Same G G' → Sim K G' H p M s → Sty M → J.yld i H x H' → ∀ d, ds[i]? = some d → ∃ G2, Same G' G2 ∧ Sim K G2 H' p M s ∧ Rep K G2 d x
  stop : ∀ G' H p M s, Same G G' → Sim K G' H p M s → Sty M → J.stop ds.length H
abbrev DTI := DWt → Rho → Mst → (List D → (Mst → Prop) → Mst → Prop) → Prop
def RefI (K : PySem.W.Frag) (W : WX) (t : TI) (q : DTI) : Prop := ∀ DW G H p M s (R : List D → (Mst → Prop) → Mst → Prop) (R' : It → Hp → Prop), WLink K G DW W → Sim K G H p M s → q DW p M R →
  (∀ G' H' M' J ds Sty, Same G G' → Sim K G' H' p M' s → Feed K G' J ds Sty → ds.length ≤ sizeLine → R ds Sty M' → R' J H') → t s H R'
structure QI (X : Cx) (W : WX) (tg e : Expr) (t : TI) (q : DTI) : Prop where
  pe : PI X tg e t
  rf : RefI X.K W t q
def always : Mst → Prop := fun _ => True
@[simp] theorem always_eq {M : Mst} : always M = True := rfl
section
variable {K : PySem.W.Frag} {G : Hp}
theorem feed_list {a : Addr} {ds : List D} {vs : List V} {Sty : Mst → Prop} (r : RepL K G ds vs) (h : ∀ G' H p M s, Same G G' → Sim K G' H p M s → Sty M → SqL K H a vs) : Feed K G (Itl K a) ds Sty where
  go := fun G' H p M s i e S st hi => by
    have q := h G' H p M s e S st
    have hl := r.length
    exact ⟨vs, vs[i]'(by omega), q, by simp [hl, hi]⟩
  yld := fun G' H p M s i x H' e S st y d hd => by
    obtain ⟨rfl, y⟩ := y
    have q := y vs (h G' _ p M s e S st)
    obtain ⟨v, h1, h2⟩ := (RepL.mono e _ _ r).get hd
    rw [q] at h1; cases h1
    exact ⟨G', Same.refl _, S, h2⟩
  stop := fun G' H p M s e S st => ⟨vs, h G' H p M s e S st, by rw [r.length]; exact Nat.le_refl _⟩
theorem feed_tup {a : Addr} {ds : List D} {vs : List V} (r : RepL K G ds vs) (h : SqT K G a vs) : Feed K G (Itt K a) ds always where
  go := fun G' H p M s i e S st hi => by
    have hl := r.length
    exact ⟨vs, vs[i]'(by omega), same_t (e.trans S.same) h, by simp [hl, hi]⟩
  yld := fun G' H p M s i x H' e S st y d hd => by
    obtain ⟨rfl, y⟩ := y
    have q := y vs (same_t (e.trans S.same) h)
    obtain ⟨v, h1, h2⟩ := (RepL.mono e _ _ r).get hd
    rw [q] at h1; cases h1
    exact ⟨G', Same.refl _, S, h2⟩
  stop := fun G' H p M s e S st => ⟨vs, same_t (e.trans S.same) h, by rw [r.length]; exact Nat.le_refl _⟩
def signs (z : Str) : List D := z.cps.toList.map fun c => .str ⟨#[c]⟩
theorem feed_str {z : Str} (ho : PyData.strOk z = true) : Feed K G (Its z) (signs z) always where
  go := fun G' H p M s i e S st hi => by show i < z.cps.size; simpa [signs] using hi
  yld := fun G' H p M s i x H' e S st y d hd => by
    obtain ⟨rfl, c, h1, rfl⟩ := y
    refine ⟨G', Same.refl _, S, ?_⟩
    simp only [signs, List.getElem?_map, Array.getElem?_toList, h1, Option.map_some, Option.some.injEq] at hd
    subst hd
    refine ⟨rfl, sz1000 (by show 1 ≤ 100000; decide), ?_⟩
    have ho' : ∀ y ∈ z.cps.toList, decide (y < 0x110000) = true := by
      unfold PyData.strOk at ho
      rw [← Array.all_toList] at ho
      exact List.all_eq_true.mp ho
    have := ho' c (by rw [Array.mem_toList_iff]; exact Array.mem_of_getElem? h1)
    simpa [PyData.strOk] using this
  stop := fun G' H p M s e S st => by show z.cps.size ≤ _; simp [signs]
def rangeD (lo : Int) (n : Nat) : List D := (List.range n).map fun i => .int (lo + (i : Nat))
theorem feed_range {lo : Int} {n : Nat} : Feed K G (Itr lo n) (rangeD lo n) always where
  go := fun G' H p M s i e S st hi => by simpa [rangeD, Itr] using hi
  yld := fun G' H p M s i x H' e S st y d hd => by
    obtain ⟨rfl, rfl⟩ := y
    refine ⟨G', Same.refl _, S, ?_⟩
    simp only [rangeD, List.getElem?_map, Option.map_eq_some_iff] at hd
    obtain ⟨j, h1, rfl⟩ := hd
    obtain ⟨h2, h3⟩ := List.getElem?_eq_some_iff.mp h1
    simp at h3
    subst h3
    rfl
  stop := fun G' H p M s e S st => by show n ≤ _; simp [rangeD]
end
def iAny (K : PySem.W.Frag) (tl : TE) : TI := fun σ H R => tl σ H fun x H1 => (∃ a, x = .ref a ∧ (∃ xs, SqL K H1 a xs) ∧ R (Itl K a) H1) ∨ (∃ a, x = .ref a ∧ (∃ xs, SqT K H1 a xs) ∧ R (Itt K a) H1) ∨ ∃ z, x = .str z ∧ R (Its z) H1
theorem pi_any {X : Cx} {tg l : Expr} {tl : TE} (hl : PE X l tl) : PI X tg l (iAny X.K tl) := by
  refine ⟨fun pins s σ H R I h => ?_⟩
  refine thn (hl.run pins s σ H _ I h) fun v s1 ⟨x, H1, I1, r1, q1⟩ => ?_
  rcases q1 with ⟨a, e, ⟨xs, hq⟩, q⟩ | ⟨a, e, ⟨xs, hq⟩, q⟩ | ⟨z, e, q⟩
  · subst e
    cases r1
    obtain ⟨its, rv, p, hz⟩ := I1.list hq
    refine wpAny_pyIter_list p.isList ?_
    refine ⟨s1.heap.objs.size, [s1.heap.objs.size], _, _, H1, rfl, I1.kept (t' := s1.toks) fun b o e => Heap.get?_push_of_some _ e, turn_list a _, ⟨_, Heap.get?_push_size _ rfl, rfl, rfl⟩, fun b hb => ?_, q⟩
    have e : b = s1.heap.objs.size := by simpa using hb
    subst e
    exact I1.fpOk (Nat.le_refl _) (I1.hok.fresh (Nat.le_refl _))
  · subst e
    cases r1
    obtain ⟨its, rv, p, hz⟩ := I1.tuple hq
    refine wpAny_pyIter_tuple (show s1.heap.IsTuple a its.toArray from p) ?_
    refine ⟨s1.heap.objs.size, [s1.heap.objs.size], _, _, H1, rfl, I1.kept (t' := s1.toks) fun b o e => Heap.get?_push_of_some _ e, turn_tuple a _, ⟨_, Heap.get?_push_size _ rfl, rfl, rfl⟩, fun b hb => ?_, q⟩
    have e : b = s1.heap.objs.size := by simpa using hb
    subst e
    exact I1.fpOk (Nat.le_refl _) (I1.hok.fresh (Nat.le_refl _))
  · subst e
    obtain ⟨t, rfl⟩ := r1
    cases ha : z.cps.all (· < 128)
    · exact wpAny_pyIter_wide ha (pi_one (tk := s1.toks) I1 _ (turn_str _ z t "str_iterator" (.inr rfl)) ⟨_, Heap.get?_push_size _ rfl, rfl, rfl⟩ q)
    · exact wpAny_pyIter_ascii ha (pi_one (tk := s1.toks) I1 _ (turn_str _ z t "str_ascii_iterator" (.inl rfl)) ⟨_, Heap.get?_push_size _ rfl, rfl, rfl⟩ q)
def holds (a : Addr) (o : MO) : Mst → Prop := fun M => M a = some o
@[simp] theorem holds_eq {a : Addr} {o : MO} {M : Mst} : holds a o M = (M a = some o) := rfl
def qiAny (qe : DTE) : DTI := fun DW p M R => qe DW p M fun d M1 => match d with
  | .lst ds => R ds always M1
  | .tup ds => R ds always M1
  | .ktp ds => R ds always M1
  | .xtp ds => R ds always M1
  | .str z => R (signs z) always M1
  | .ref a => match M1 a with
    | some (.lst ds) => R ds (holds a (.lst ds)) M1
    | _ => False
  | _ => False
section
variable {X : Cx} {W : WX} {tg e : Expr} {te : TE} {qe : DTE}
theorem qi_any (he : QE X W e te qe) : QI X W tg e (iAny X.K te) (qiAny qe) :=
  ⟨pi_any he.pe, fun DW G H p M s R R' hw S h k => he.rf DW G H p M s _ _ hw S h fun G1 H1 M1 d v e1 S1 r1 h1 => by
    split at h1
    · next ds =>
      obtain ⟨a, vs, rfl, g1, g2, g3⟩ := r1
      refine .inl ⟨a, rfl, ⟨vs, .inl (.inl (S1.same _ _ g1))⟩, k G1 H1 M1 _ ds always e1 S1 (feed_list g2 fun G' H p M s e S _ => .inl (.inl (S.same _ _ (e _ _ g1)))) (by rw [← g2.length]; exact g3) h1⟩
    · next ds =>
      obtain ⟨a, vs, rfl, g1, g2, g3⟩ := r1
      exact .inr (.inl ⟨a, rfl, ⟨vs, .inl (.inl (S1.same _ _ g1))⟩, k G1 H1 M1 _ ds always e1 S1 (feed_tup g2 (.inl (.inl g1))) (by rw [← g2.length]; exact g3) h1⟩)
    · next ds =>
      obtain ⟨a, vs, rfl, g1, g2, g3⟩ := r1
      exact .inr (.inl ⟨a, rfl, ⟨vs, same_t S1.same g1⟩, k G1 H1 M1 _ ds always e1 S1 (feed_tup g2 g1) (by rw [← g2.length]; exact g3) h1⟩)
    · next ds =>
      obtain ⟨a, o, vs, rfl, g1, g0, g2, g3⟩ := r1
      exact .inr (.inl ⟨a, rfl, ⟨vs, .inl (.inr ⟨o, S1.same _ _ g1⟩)⟩, k G1 H1 M1 _ ds always e1 S1 (feed_tup g2 (.inl (.inr ⟨o, g1⟩))) (by rw [← g2.length]; exact g3) h1⟩)
    · next z =>
      obtain ⟨rfl, g1, g2⟩ := r1
      exact .inr (.inr ⟨z, rfl, k G1 H1 M1 _ _ always e1 S1 (feed_str g2) (by simpa [signs, Str.length] using g1) h1⟩)
    · next a =>
      cases r1
      split at h1
      · next ds em =>
        obtain ⟨gn, vs, g1, g2, g3⟩ := S1.mem _ _ em
        have lk : ∀ G' H p M s, Same G1 G' → Sim X.K G' H p M s → holds a (.lst ds) M → ∃ us, H a = some (.lst us) ∧ RepL X.K G' ds us := fun G' H p M s e S st => by
          obtain ⟨_, us, c1, c2, _⟩ := S.mem _ _ st
          exact ⟨us, c1, c2⟩
        refine .inl ⟨a, rfl, ⟨vs, .inl (.inl g1)⟩, k G1 H1 M1 _ ds _ e1 S1 ⟨fun G' H p M s i e S st hi => ?_, fun G' H p M s i x H' e S st y d hd => ?_, fun G' H p M s e S st => ?_⟩ (by rw [← g2.length]; exact g3) h1⟩
        · obtain ⟨us, c1, c2⟩ := lk G' H p M s e S st
          have hl := c2.length
          exact ⟨us, us[i]'(by omega), .inl (.inl c1), by simp [hl, hi]⟩
        · obtain ⟨us, c1, c2⟩ := lk G' H p M s e S st
          obtain ⟨rfl, y⟩ := y
          have q := y us (.inl (.inl c1))
          obtain ⟨v, h1, h2⟩ := c2.get hd
          rw [q] at h1; cases h1
          exact ⟨G', Same.refl _, S, h2⟩
        · obtain ⟨us, c1, c2⟩ := lk G' H p M s e S st
          exact ⟨us, .inl (.inl c1), by rw [c2.length]; exact Nat.le_refl _⟩
      · exact h1.elim
    · exact h1.elim⟩
/-- range(n), range(a, b) -/
def qiRng1 (qa : DTA) : DTI := fun DW p M R => qa DW p M fun ds M1 => match ds with
  | [.int j] => -(2 ^ 62) ≤ j ∧ j ≤ 100000 ∧ R (rangeD 0 j.toNat) always M1
  | _ => False
def qiRng2 (qa : DTA) : DTI := fun DW p M R => qa DW p M fun ds M1 => match ds with
  | [.int i, .int j] => (-(2 ^ 61) ≤ i ∧ i < 2 ^ 61 ∧ -(2 ^ 61) ≤ j ∧ j < 2 ^ 61) ∧ j - i ≤ 100000 ∧ R (rangeD i (j - i).toNat) always M1
  | _ => False
variable {a b : Expr} {ta : TA} {qa : DTA} {p pos : Pos}
theorem qi_range1 (hg : Gl X "range") (hm : X.mg "range" = none) (ha : QA X W [a] ta qa) (hs : starEach [a] X.env = [(false, eval a X.env)] := by rfl) : QI X W tg (.Call (.Name "range" p) [a] [] pos) (iRng1 ta) (qiRng1 qa) :=
  ⟨pi_range1 hg hm ha.pe hs, fun DW G H p M s R R' hw S h k => ha.rf DW G H p M s _ _ hw S h fun G1 H1 M1 ds vs e1 S1 r1 h1 => by
    split at h1
    · next j =>
      obtain ⟨v, rfl, r2⟩ := repL1 r1
      cases r2
      obtain ⟨b1, b2, h1⟩ := h1
      exact ⟨j, rfl, b1, by omega, k G1 H1 M1 _ _ _ e1 S1 feed_range (by simp only [rangeD, List.length_map, List.length_range]; exact sz1000 (by omega)) h1⟩
    · exact h1.elim⟩
theorem qi_range2 (hg : Gl X "range") (hm : X.mg "range" = none) (ha : QA X W [a, b] ta qa) (hs : starEach [a, b] X.env = [(false, eval a X.env), (false, eval b X.env)] := by rfl) (hs2 : starEach [b] X.env = [(false, eval b X.env)] := by rfl) : QI X W tg (.Call (.Name "range" p) [a, b] [] pos) (iRng2 ta) (qiRng2 qa) :=
  ⟨pi_range2 hg hm ha.pe hs hs2, fun DW G H p M s R R' hw S h k => ha.rf DW G H p M s _ _ hw S h fun G1 H1 M1 ds vs e1 S1 r1 h1 => by
    split at h1
    · next i j =>
      obtain ⟨v, u, rfl, r2, r3⟩ := repL2 r1
      cases r2
      cases r3
      obtain ⟨⟨b1, b2, b3, b4⟩, b5, h1⟩ := h1
      exact ⟨i, j, rfl, ⟨by omega, by omega, by omega, by omega⟩, k G1 H1 M1 _ _ _ e1 S1 feed_range (by simp only [rangeD, List.length_map, List.length_range]; exact sz1000 (by omega)) h1⟩
    · exact h1.elim⟩
end
def loopL (Sty : Mst → Prop) (g : DTG) (tb : DTS) (DW : DWt) (DE : DEnds) : List D → Rho → Mst → Prop
  | [], p, M => Sty M ∧ DE.nx p M
  | d :: ds, p, M => Sty M ∧ g d DW p M fun p' M' => tb DW { DE with nx := loopL Sty g tb DW DE ds, ct := loopL Sty g tb DW DE ds, bk := DE.nx } p' M'
def qFor (qi : DTI) (g : DTG) (tb : DTS) : DTS := fun DW DE p M => qi DW p M fun ds Sty M1 => loopL Sty g tb DW DE ds p M1
section
variable {X : Cx} {W : WX} {tg iter : Expr} {body : List Stmt} {wi : TI} {qi : DTI} {t : TG} {g : DTG} {ix : List Nat} {tb : TS} {qb : DTS} {pos : Pos}
theorem ref_for {K : PySem.W.Frag} (hi : RefI K W wi qi) (hg : RefGi K W ix t g) (hb : RefS K W tb qb) : RefS K W (tFor wi t tb) (qFor qi g qb) :=
  fun DW G H p M s DE E hw S h k => hi DW G H p M s _ _ hw S h fun G1 H1 M1 J ds Sty e1 S1 F hlen h1 => by
    refine ⟨fun i m σ H => m = ds.length - i ∧ i ≤ ds.length ∧ ∃ G' p' M', Same G1 G' ∧ Sim K G' H p' M' σ ∧ loopL Sty g qb DW DE (ds.drop i) p' M', ⟨ds.length, by simp, Nat.zero_le _, G1, p, M1, Same.refl _, S1, by simpa using h1⟩, ?_⟩
    rintro i m σ H2 ⟨rfl, hi2, G', p', M', e2, S2, h2⟩
    by_cases hlt : i < ds.length
    · have ed : ds.drop i = ds[i] :: ds.drop (i + 1) := List.drop_eq_getElem_cons hlt
      rw [ed] at h2
      obtain ⟨st, h2⟩ := h2
      refine .inr ⟨F.go G' H2 p' M' σ i e2 S2 st hlt, fun σ' H' => ∃ G3 p3 M3, Same G1 G3 ∧ Sim K G3 H' p3 M3 σ' ∧ loopL Sty g qb DW DE (ds.drop (i + 1)) p3 M3,
        fun σ' H' n => ⟨ds.length - (i + 1), by omega, rfl, hlt, n⟩, fun x H' y => ?_⟩
      obtain ⟨G3, e3, S3, r3⟩ := F.yld G' H2 p' M' σ i x H' e2 S2 st y ds[i] (List.getElem?_eq_getElem hlt)
      have e13 := e2.trans e3
      refine hg DW G3 H' p' M' σ _ x _ _ (hw.mono (e1.trans e13)) S3 r3 h2 fun G4 H4 p4 M4 σ4 e4 S4 _ h4 => ?_
      have e14 := e13.trans e4
      refine hb DW G4 H4 p4 M4 σ4 _ _ (hw.mono (e1.trans e14)) S4 h4 ⟨fun G5 H5 p5 M5 σ5 e5 S5 h5 => ⟨G5, p5, M5, e14.trans e5, S5, h5⟩, fun G5 H5 p5 M5 σ5 d v e5 S5 r5 h5 => k.rt G5 H5 p5 M5 σ5 d v ((e1.trans e14).trans e5) S5 r5 h5,
        fun G5 H5 p5 M5 σ5 e5 S5 h5 => k.nx G5 H5 p5 M5 σ5 ((e1.trans e14).trans e5) S5 h5, fun G5 H5 p5 M5 σ5 e5 S5 h5 => ⟨G5, p5, M5, e14.trans e5, S5, h5⟩⟩
    · have e : i = ds.length := by omega
      subst e
      rw [List.drop_length] at h2
      exact .inl ⟨F.stop G' H2 p' M' σ e2 S2 h2.1, k.nx G' H2 p' M' σ (e1.trans e2) S2 h2.2⟩
theorem qs_for (hp : PassesOwn (model X.prog X.w) X.A X.env X.xe) (hc : X.calm = true) (hi : QI X W tg iter wi qi) (hg : QGi X W ix tg t g) (hb : QSs X W body tb qb) (hs : ∀ x, foldedSetIterable iter X.env x = pure x := by intro _; rfl) :
    QS X W (.For tg iter body [] pos) (tFor wi t tb) (qFor qi g qb) := ⟨ps_for hp hc hi.pe hg.pe hb.pe hs, ref_for hi.rf hg.rf hb.rf⟩
def whileL (qc : DTT) (tb : DTS) (DW : DWt) (DE : DEnds) : Nat → Rho → Mst → Prop
  | 0, _, _ => False
  | n + 1, p, M => qc DW p M fun b M1 => if b = true then tb DW { DE with nx := whileL qc tb DW DE n, ct := whileL qc tb DW DE n, bk := DE.nx } p M1 else DE.nx p M1
def qWhile (qc : DTT) (tb : DTS) : DTS := fun DW DE p M => ∃ n, whileL qc tb DW DE n p M
theorem ref_while {K : PySem.W.Frag} {c : TT} {qc : DTT} (hc : RefT K W c qc) (hb : RefS K W tb qb) : RefS K W (tWhile c tb) (qWhile qc qb) :=
  fun DW G H p M s DE E hw S ⟨n, h⟩ k => by
    refine ⟨fun m σ H => ∃ G' p' M', Same G G' ∧ Sim K G' H p' M' σ ∧ whileL qc qb DW DE m p' M', ⟨n, G, p, M, Same.refl _, S, h⟩, ?_⟩
    rintro m σ H2 ⟨G', p', M', e2, S2, h2⟩
    cases m with
    | zero => exact h2.elim
    | succ m =>
      refine hc DW G' H2 p' M' σ _ _ (hw.mono e2) S2 h2 fun G3 H3 M3 b e3 S3 h3 => ?_
      cases b with
      | true =>
        rw [if_pos rfl] at h3 ⊢
        refine ⟨fun σ' H' => ∃ G4 p4 M4, Same G G4 ∧ Sim K G4 H' p4 M4 σ' ∧ whileL qc qb DW DE m p4 M4, fun σ' H' q => ⟨m, Nat.lt_succ_self _, q⟩, ?_⟩
        have e13 := e2.trans e3
        exact hb DW G3 H3 p' M3 σ _ _ (hw.mono e13) S3 h3 ⟨fun G5 H5 p5 M5 σ5 e5 S5 h5 => ⟨G5, p5, M5, e13.trans e5, S5, h5⟩, fun G5 H5 p5 M5 σ5 d v e5 S5 r5 h5 => k.rt G5 H5 p5 M5 σ5 d v (e13.trans e5) S5 r5 h5,
          fun G5 H5 p5 M5 σ5 e5 S5 h5 => k.nx G5 H5 p5 M5 σ5 (e13.trans e5) S5 h5, fun G5 H5 p5 M5 σ5 e5 S5 h5 => ⟨G5, p5, M5, e13.trans e5, S5, h5⟩⟩
      | false =>
        rw [if_neg Bool.false_ne_true] at h3 ⊢
        exact k.nx G3 H3 p' M3 σ (e2.trans e3) S3 h3
theorem qs_while {c : Expr} {tc : TT} {qc : DTT} (hp : PassesOwn (model X.prog X.w) X.A X.env X.xe) (hc : QT X W c tc qc) (hb : QSs X W body tb qb) : QS X W (.While c body [] pos) (tWhile tc tb) (qWhile qc qb) := ⟨ps_while hp hc.pe hb.pe, ref_while hc.rf hb.rf⟩
end
abbrev W0 : WX := fun _ _ _ _ => False
abbrev DW0 : DWt := fun _ _ _ => False
structure QTs (X : Cx) (W : WX) (ifs : List Expr) (t : TT) (q : DTT) : Prop where
  pe : PTs X ifs t
  rf : RefT X.K W t q
@[simp] def qYes : DTT := fun _ _ M Q => Q true M
theorem qts_nil {X : Cx} {W : WX} : QTs X W [] tYes qYes := ⟨pts_nil, fun DW G H p M s Q Q' hw S h k => k G H M true (Same.refl _) S h⟩
theorem qts_one {X : Cx} {W : WX} {c : Expr} {t : TT} {q : DTT} (h : QT X W c t q) : QTs X W [c] t q := ⟨pts_one h.pe, h.rf⟩
/-- what is made stands at a -/
def compL (m : Bool) (Sty : Mst → Prop) (g : DTG) (tt : DTT) (te : DTE) (ix : List Nat) (a : Addr) (p : Rho) (Q : DK) : List D → Mst → Prop
  | [], M => Sty M ∧ match M a with
    | some (.lst acc) => if m = true then Q (.ref a) M else Q (.lst acc) (del M a)
    | _ => False
  | d :: ds, M => Sty M ∧ g d DW0 (wipeD p ix) M fun p2 M2 => tt DW0 p2 M2 fun b M3 => if b = true then te DW0 p2 M3 fun y M4 => match M4 a with
      | some (.lst acc) => acc.length < 100000 ∧ compL m Sty g tt te ix a p Q ds (put M4 a (.lst (acc ++ [y])))
      | _ => False
    else compL m Sty g tt te ix a p Q ds M3
def qLc (m : Bool) (qi : DTI) (g : DTG) (tt : DTT) (te : DTE) (ix : List Nat) : DTE := fun DW p M Q => qi DW p M fun ds Sty M1 => ∀ a, M1 a = none → compL m Sty g tt te ix a p Q ds (put M1 a (.lst []))
theorem ref_lc {K : PySem.W.Frag} {W : WX} {wi : TI} {qi : DTI} {t : TG} {g : DTG} {ix : List Nat} {tt : TT} {qt : DTT} {te : TE} {qe : DTE} {m : Bool} (hi : RefI K W wi qi) (hg : RefGi K W0 ix t g) (ht : RefT K W0 tt qt) (he : RefE K W0 te qe) :
    RefE K W (tLc wi t tt te ix) (qLc m qi g qt qe ix) :=
  fun DW G H p M s Q Q' hw S h k => hi DW G H p M s _ _ hw S h fun G1 H1 M1 J ds Sty e1 S1 F hlen h1 a ha => by
    have w0 : ∀ G, WLink K G DW0 W0 := fun G G' H' p' M' s' x cls dx e S r z => z.elim
    have h1' := h1 a (S1.mem.fresh ha)
    have S1' : Sim K G1 (upd H1 a (.lst [])) p (put M1 a (.lst [])) s := S1.put (mo := .lst []) (S1.same.free ha) ⟨[], upd_same, rfl, Nat.zero_le _⟩
    refine ⟨fun i n H => n = ds.length - i ∧ i ≤ ds.length ∧ ∃ G' M', Same G1 G' ∧ Sim K G' H p M' s ∧ compL m Sty g qt qe ix a p Q (ds.drop i) M', ⟨ds.length, by simp, Nat.zero_le _, G1, _, Same.refl _, S1', by simpa using h1'⟩, ?_⟩
    rintro i n H2 ⟨rfl, hi2, G', M', e2, S2, h2⟩
    by_cases hlt : i < ds.length
    · have ed : ds.drop i = ds[i] :: ds.drop (i + 1) := List.drop_eq_getElem_cons hlt
      rw [ed] at h2
      obtain ⟨st, h2⟩ := h2
      refine .inr ⟨F.go G' H2 p M' s i e2 S2 st hlt, fun H' => ∃ G3 M3, Same G1 G3 ∧ Sim K G3 H' p M3 s ∧ compL m Sty g qt qe ix a p Q (ds.drop (i + 1)) M3, fun H' q => ⟨ds.length - (i + 1), by omega, rfl, hlt, q⟩, fun x H' y => ?_⟩
      obtain ⟨G3, e3, S3, r3⟩ := F.yld G' H2 p M' s i x H' e2 S2 st y ds[i] (List.getElem?_eq_getElem hlt)
      have e13 := e2.trans e3
      refine hg DW0 G3 H' (wipeD p ix) M' (L2.wipe s ix) _ x _ _ (w0 _) (S3.wipe ix) r3 h2 fun G4 H4 p4 M4 s4 e4 S4 o4 h4 => ?_
      have back : ∀ {G H M}, Sim K G H p4 M s4 → Sim K G H p M s → True := fun _ _ => trivial
      have ww : L2.wipe s4 ix = L2.wipe s ix := by
        rw [o4.wipe]
        apply List.ext_getElem?
        intro j
        by_cases hj : j ∈ ix
        · by_cases hl : j < s.length
          · rw [wipe_in hj (by rw [wipe_length]; exact hl), wipe_in hj hl]
          · rw [List.getElem?_eq_none (by rw [wipe_length, wipe_length]; omega), List.getElem?_eq_none (by rw [wipe_length]; omega)]
        · rw [wipe_get hj]
      have e14 := e13.trans e4
      -- the slots of the frame itself are as they were
      have home : ∀ {G H M}, Same G1 G → Sim K G H p4 M s4 → Sim K G H p M s := fun {G H M} eg Sx =>
        ⟨Sx.same, fun j d hd => by
          obtain ⟨v, q1, q2⟩ := S1.env j d hd
          exact ⟨v, q1, Rep.mono eg _ _ q2⟩, S1.len, Sx.mem⟩
      refine ⟨ww, ht DW0 G4 H4 p4 M4 s4 _ _ (w0 _) S4 h4 fun G5 H5 M5 b e5 S5 h5 => ?_⟩
      have e15 := e14.trans e5
      cases b with
      | false =>
        rw [if_neg Bool.false_ne_true] at h5 ⊢
        exact ⟨G5, M5, e15, home e15 S5, h5⟩
      | true =>
        rw [if_pos rfl] at h5 ⊢
        refine he DW0 G5 H5 p4 M5 s4 _ _ (w0 _) S5 h5 fun G6 H6 M6 d v e6 S6 r6 h6 => ?_
        have e16 := e15.trans e6
        split at h6
        · next acc em =>
          obtain ⟨hl, h6⟩ := h6
          obtain ⟨gn, vs, c1, c2, c3⟩ := S6.mem _ _ em
          refine ⟨vs, c1, by rw [c2.length, sizeLine_eq]; omega, G6, _, e16, (home e16 S6).put (mo := .lst (acc ++ [d])) gn ⟨_, upd_same, RepL.append c2 (RepL.cons r6 rfl), ?_⟩, h6⟩
          rw [List.length_append, c2.length, sizeLine_eq]
          simp
          omega
        · exact h6.elim
    · have e : i = ds.length := by omega
      subst e
      rw [List.drop_length] at h2
      obtain ⟨st, h2⟩ := h2
      refine .inl ⟨F.stop G' H2 p M' s e2 S2 st, ?_⟩
      split at h2
      · next acc em =>
        cases m with
        | true =>
          rw [if_pos rfl] at h2
          exact k G' H2 M' (.ref a) _ (e1.trans e2) S2 rfl h2
        | false =>
          rw [if_neg Bool.false_ne_true] at h2
          obtain ⟨G3, e3, S3, r3⟩ := S2.freeze em
          exact k G3 H2 _ _ _ ((e1.trans e2).trans e3) S3 r3 h2
      · exact h2.elim
section
variable {X : Cx} {W : WX} {elt tg iter : Expr} {ifs : List Expr} {scope : Scope} {own : List (Str × Nat)} {pos : Pos} {wi : TI} {qi : DTI} {g : TG} {qg : DTG} {tt : TT} {qt : DTT} {te : TE} {qe : DTE}
theorem q_lc (m : Bool) (hc : X.calm = true) (hN : X.N.Nodup) (hi : QI X W tg iter wi qi) (ok : BlkOk X.N X.env.scope scope own)
    (hg : ∀ (s : Shared) (H : Hp) (C : Addr) (cl : List (Str × Addr)) (fp : List Addr), QGi (X.blk s H scope (compEnvC scope cl C X.env) fp) W0 (own.map (·.2)) tg g qg)
    (ht : ∀ (s : Shared) (H : Hp) (C : Addr) (cl : List (Str × Addr)) (fp : List Addr), QTs (X.blk s H scope (compEnvC scope cl C X.env) fp) W0 ifs tt qt)
    (he : ∀ (s : Shared) (H : Hp) (C : Addr) (cl : List (Str × Addr)) (fp : List Addr), QE (X.blk s H scope (compEnvC scope cl C X.env) fp) W0 elt te qe) (hs : ∀ x, foldedSetIterable iter X.env x = pure x := by intro _; rfl) :
    QE X W (.ListComp elt [⟨tg, iter, ifs, 0⟩] scope pos) (tLc wi g tt te (own.map (·.2))) (qLc m qi qg qt qe (own.map (·.2))) :=
  ⟨pe_lc hc hN hi.pe ok (fun s H C cl fp => (hg s H C cl fp).pe) (fun s H C cl fp => (ht s H C cl fp).pe) (fun s H C cl fp => (he s H C cl fp).pe) hs,
    ref_lc hi.rf (hg X.s_0 X.H_0 0 [] []).rf (ht X.s_0 X.H_0 0 [] []).rf (he X.s_0 X.H_0 0 [] []).rf⟩
theorem qs_setLc (m : Bool) {i : Nat} {y : Str} {py spos : Pos} (hc : X.calm = true) (hN : X.N.Nodup) (hy : X.N[i]? = some y) (hyl : X.env.scope.names.lookup y = some .local)
    (hsw : swapsWith (.ListComp elt [⟨tg, iter, ifs, 0⟩] scope pos) (some (.Name y py)) spos.line X.env = pure true) (hi : QI X W tg iter wi qi) (ok : BlkOk X.N X.env.scope scope own)
    (hg : ∀ (s : Shared) (H : Hp) (C : Addr) (cl : List (Str × Addr)) (fp : List Addr), QGi (X.blk s H scope (compEnvC scope cl C X.env) fp) W0 (own.map (·.2)) tg g qg)
    (ht : ∀ (s : Shared) (H : Hp) (C : Addr) (cl : List (Str × Addr)) (fp : List Addr), QTs (X.blk s H scope (compEnvC scope cl C X.env) fp) W0 ifs tt qt)
    (he : ∀ (s : Shared) (H : Hp) (C : Addr) (cl : List (Str × Addr)) (fp : List Addr), QE (X.blk s H scope (compEnvC scope cl C X.env) fp) W0 elt te qe) (hs : ∀ x, foldedSetIterable iter X.env x = pure x := by intro _; rfl) :
    QS X W (.Assign [.Name y py] (.ListComp elt [⟨tg, iter, ifs, 0⟩] scope pos) spos) (tAsg (tLc wi g tt te (own.map (·.2))) (gName i)) (qAsg (qLc m qi qg qt qe (own.map (·.2))) (gNameD i)) :=
  qs_set (ps_setLc hc hN hy hyl hsw hi.pe ok (fun s H C cl fp => (hg s H C cl fp).pe) (fun s H C cl fp => (ht s H C cl fp).pe) (fun s H C cl fp => (he s H C cl fp).pe) hs)
    (ref_lc hi.rf (hg X.s_0 X.H_0 0 [] []).rf (ht X.s_0 X.H_0 0 [] []).rf (he X.s_0 X.H_0 0 [] []).rf)
end
end DL
namespace DL
open PySem L2
def toSp (K : PySem.W.Frag) (P : DSp) : Sp := fun vs H Q E => ∃ (G : Hp) (ds : List D) (M : Mst) (Qd : DK) (Ed : DX → Mst → Prop), Same G H ∧ RepL K G ds vs ∧ MemOk K G H M ∧ P ds M Qd Ed ∧
  (∀ G' H' v d M', Same G G' → Same G' H' → Rep K G' d v → MemOk K G' H' M' → Qd d M' → Q v H') ∧
  (∀ G' H' x cls dx M', Same G G' → Same G' H' → RepX K G' x cls dx → MemOk K G' H' M' → Ed x M' → E cls dx H')
def startD (N : List Str) (ds : List D) : Rho := ds.map some ++ List.replicate (N.length - ds.length) none
section
variable {P : Program} {w : World} {K : PySem.W.Frag} {mg : Str → Option Value} {base : Heap}
theorem start_sim {G H : Hp} {ds : List D} {vs : List V} {M : Mst} {N : List Str} (e : Same G H) (r : RepL K G ds vs) (hm : MemOk K G H M) : Sim K G H (startD N ds) M (L2.start N vs) := by
  have hl := r.length
  refine ⟨e, fun i d h => ?_, by simp [startD, L2.start, hl], hm⟩
  unfold startD at h
  unfold L2.start
  by_cases hi : i < ds.length
  · rw [List.getElem?_append_left (by simpa using hi)] at h
    rw [List.getElem?_append_left (by simp [hl, hi])]
    simp only [List.getElem?_map, Option.map_eq_some_iff, Option.some.injEq] at h
    obtain ⟨d', h1, rfl⟩ := h
    obtain ⟨v, h2, h3⟩ := r.get h1
    exact ⟨v, by simp [h2], h3⟩
  · rw [List.getElem?_append_right (by simpa using hi)] at h
    rw [List.getElem?_replicate] at h
    split at h <;> cases h
/-- THE RULE for a def: its body's reading by data -/
theorem fn_ok {x qual : Str} {st : Stmt} {f : Addr} {fd : FuncData} {N ps : List Str} {k : Nat} {p : DSp} (F : Fun K x qual st f fd) (S : FnScope N ps (defScope st)) (len : ∀ ds M Q E, p ds M Q E → ds.length = ps.length)
    (hbody : ∀ (cdv : Value) (A : Around) (outer : List Env) (s : Shared) (H : Hp) (E : XK), Room k (A.deeper (PyProof.Rows.envOfC qual (defScope st) s.heap.objs.size f cdv)) →
      Takes (cxOf (L2.CX P w) P w K mg base N qual (defScope st) f cdv A outer s H E) (fun cls d _ H => E cls d H) →
      PassesOwn (model P w) (cxOf (L2.CX P w) P w K mg base N qual (defScope st) f cdv A outer s H E).A (cxOf (L2.CX P w) P w K mg base N qual (defScope st) f cdv A outer s H E).env (cxOf (L2.CX P w) P w K mg base N qual (defScope st) f cdv A outer s H E).xe →
      ∃ t q, QSs (cxOf (L2.CX P w) P w K mg base N qual (defScope st) f cdv A outer s H E) (fun cls d _ H => E cls d H) (defBody st) t q ∧
        ∀ ds M Q Ed, p ds M Q Ed → q (fun x _ M => Ed x M) { nx := fun _ M => Q .non M, rt := Q } (startD N ds) M) : FnOk P w K mg base (L2.CX P w) (k + 1) f fd ps (toSp K p) := by
  refine F.okX S (fun vs H Q E h => ?_) (fun cdv A outer s H vs Q E hr h => ?_)
  · obtain ⟨G, ds, M, Qd, Ed, _, r, _, hp, _⟩ := h
    rw [r.length]; exact len _ _ _ _ hp
  · obtain ⟨G, ds, M, Qd, Ed, e, r, hm, hp, kq, ke⟩ := h
    obtain ⟨t, q, hq, hs⟩ := hbody cdv A outer s H E hr (takes_of rfl rfl rfl rfl) (passes_of rfl)
    refine ⟨t, hq.pe, hq.rf (fun x _ M => Ed x M) G H (startD N ds) M (L2.start N vs) _ _ (fun G' H' p' M' s' x cls dx e1 S1 r1 h1 => ke G' H' x cls dx M' e1 S1.same r1 S1.mem h1) (start_sim e r hm) (hs ds M Qd Ed hp)
      ⟨fun G' H' p' M' s' e1 S1 h1 => kq G' H' .non .non M' e1 S1.same rfl S1.mem h1, fun G' H' p' M' s' d v e1 S1 r1 h1 => kq G' H' v d M' e1 S1.same r1 S1.mem h1, fun _ _ _ _ _ _ _ h => h.elim, fun _ _ _ _ _ _ _ h => h.elim⟩⟩
end
@[simp] def qCall (P : DSp) (dds : List D) (qa : DTA) : DTE := fun DW p M Q => qa DW p M fun ds M1 => P (ds ++ dds) M1 Q fun x M2 => DW x p M2
section
variable {X : Cx} {W : WX} {k : Nat} {f : Addr} {fd : FuncData} {ps : List Str} {P : DSp} {dds : List D} {dvs : List V} {ds : List Value} {x : Str} {p pos : Pos} {e : Expr} {es : List Expr} {t : TA} {q : DTA}
/-- what a callee's promise gives at a call -/
theorem toSp_at {K : PySem.W.Frag} {DW : DWt} {G H : Hp} {p : Rho} {M : Mst} {s : L2.St} {ds : List D} {vs : List V} {Q : DK} {Q' : VK} (hw : WLink K G DW W) (S : Sim K G H p M s) (r : RepL K G ds vs) (h : P ds M Q fun x M2 => DW x p M2)
    (k : ∀ G' H' M' d v, Same G G' → Sim K G' H' p M' s → Rep K G' d v → Q d M' → Q' v H') : toSp K P vs H Q' (WE W s) := by
  have up : ∀ {G' H' M'}, Same G G' → Same G' H' → MemOk K G' H' M' → Sim K G' H' p M' s := fun {G' H' M'} e1 e2 hm => ⟨e2, fun i d hd => by
    obtain ⟨v, h1, h2⟩ := S.env i d hd
    exact ⟨v, h1, Rep.mono e1 _ _ h2⟩, S.len, hm⟩
  exact ⟨G, ds, M, Q, _, S.same, r, S.mem, h, fun G' H' v d M' e1 e2 r1 hm q => k G' H' M' d v e1 (up e1 e2 hm) r1 q, fun G' H' x cls dx M' e1 e2 r1 hm q => hw G' H' p M' s x cls dx e1 (up e1 e2 hm) r1 q⟩
theorem ref_call {K : PySem.W.Frag} (ha : RefA K W t q) (hd : ∀ G, RepL K G dds dvs) : RefE K W (tCallSD (toSp K P) dvs (fun s => WE W s) t) (qCall P dds q) :=
  fun DW G H p M s Q Q' hw S h k => ha DW G H p M s _ _ hw S h fun G1 H1 M1 as vs e1 S1 r1 h1 => toSp_at (hw.mono e1) S1 (RepL.append r1 (hd _)) h1 fun G' H' M' d v e2 => k G' H' M' d v (e1.trans e2)
/-- f(e, ..), a def of the module -/
theorem q_call (F : FnOk X.prog X.w X.K X.mg X.base (L2.CX X.prog X.w) k f fd ps (toSp X.K P)) (hr : Room k X.A) (tk : Takes X W) (hg : Gl X x) (hm : X.mg x = some (.ref f)) (hk : PySem.W.keepIn X.K (.ref f) = true) (hb : Binds X.K fd ps ds) (hd : Vals dvs ds) (hdd : ∀ G, RepL X.K G dds dvs)
    (ha : QA X W (e :: es) t q) (hdb : (x == ("__debug__" : Str)) = false := by decide) (he : starEach (e :: es) X.env = (false, eval e X.env) :: starEach es X.env := by rfl) (hpl : (backTo pos (starEach es X.env)).any (·.1) = false := by rfl) :
    QE X W (.Call (.Name x p) (e :: es) [] pos) (tCallSD (toSp X.K P) dvs (fun s => WE W s) t) (qCall P dds q) :=
  ⟨pe_callSD F hr hg hm hk hb hd (fun σ => passAt tk σ) ha.pe hdb he hpl, ref_call ha.rf hdd⟩
end
def tyOk (T : String) : D → Bool
  | .lst _ => T == "list"
  | .str _ => T == "str"
  | _ => false
theorem tyV_of {K : PySem.W.Frag} {G H : Hp} {p : Rho} {M : Mst} {s : L2.St} {T : String} {x : D} {v : V} (S : Sim K G H p M s) (r : Rep K G x v) (h : tyOk T (res M x) = true) : tyV K T v H := by
  cases e : res M x with
  | lst ds =>
    rw [e] at h
    obtain ⟨a, vs, rfl, g1, g2, g3⟩ := as_lst S r e
    exact .inl ⟨by simpa [tyOk] using h, vs, .inl (.inl g1)⟩
  | str z =>
    rw [e] at h
    obtain ⟨rfl, _⟩ := as_str r e
    show T = "str"
    simpa [tyOk] using h
  | _ => rw [e] at h; cases h
abbrev DMt := D → List D → Mst → DK → Prop
def RefM (K : PySem.W.Frag) (r : V → List V → Hp → VK → Prop) (q : DMt) : Prop := ∀ G H p M s x v ds vs (Q : DK) (Q' : VK), Sim K G H p M s → Rep K G x v → RepL K G ds vs → q x ds M Q →
  (∀ G' H' M' d w, Same G G' → Sim K G' H' p M' s → Rep K G' d w → Q d M' → Q' w H') → r v vs H Q'
structure QMt (X : Cx) (id : String) (r : V → List V → Hp → VK → Prop) (q : DMt) : Prop where
  op : MtR X id r
  rf : RefM X.K r q
def qBM (T : String) (m : DMt) (qo : DTE) (qa : DTA) : DTE := fun DW p M Q => qo DW p M fun x M1 => tyOk T (res M1 x) = true ∧ qa DW p M1 fun ds M2 => m x ds M2 Q
section
variable {X : Cx} {W : WX} {o e : Expr} {es : List Expr} {to : TE} {qo : DTE} {t : TA} {qa : DTA} {name : Str} {apos cpos : Pos} {T id : String} {r : V → List V → Hp → VK → Prop} {m : DMt}
theorem q_bm (pa : PlainAttrs T) (slot : Slot T name id) (hty : typeOf (.builtin id) = pure (.type "method_descriptor")) (hm : QMt X id r m) (ho : QE X W o to qo) (ha : QA X W (e :: es) t qa)
    (hbase : attributeBase o name X.env (eval o X.env) = eval o X.env := by rfl)
    (hfew : ((backTo cpos (starEach (e :: es) X.env)).all (fun x => !x.1) && (backToKw cpos (keywordEach [] X.env)).all (fun x => x.1.isSome)
      && decide ((e :: es).length + ([] : List Keyword).length + (if ([] : List Keyword).isEmpty then 0 else 1) < 30)) = true := by rfl)
    (hline : (apos.endLine == cpos.line) = true := by rfl) (hs : starEach (e :: es) X.env = (false, eval e X.env) :: starEach es X.env := by rfl) (hplain : (backTo cpos (starEach es X.env)).any (·.1) = false := by rfl) :
    QE X W (.Call (.Attribute o name apos) (e :: es) [] cpos) (tBM X.K T r to t) (qBM T m qo qa) :=
  ⟨pe_bm pa slot hty hm.op ho.pe ha.pe hbase hfew hline hs hplain, fun DW G H p M s Q Q' hw S h k => ho.rf DW G H p M s _ _ hw S h fun G1 H1 M1 x v e1 S1 r1 ⟨ty, h1⟩ => ⟨tyV_of S1 r1 ty,
    ha.rf DW G1 H1 p M1 s _ _ (hw.mono e1) S1 h1 fun G2 H2 M2 ds vs e2 S2 r2 h2 => hm.rf G2 H2 p M2 s x v ds vs Q Q' S2 (Rep.mono e2 _ _ r1) r2 h2 fun G' H' M' d w e3 => k G' H' M' d w ((e1.trans e2).trans e3)⟩⟩
end
def mApp : DMt := fun x ds M Q => match x, ds with
  | .ref a, [d] => match M a with
    | some (.lst es) => es.length < 100000 ∧ Q .non (put M a (.lst (es ++ [d])))
    | _ => False
  | _, _ => False
section
variable {X : Cx}
theorem m_append : QMt X "list.append" rAppend mApp := ⟨mt_append, fun G H p M s x v ds vs Q Q' S r1 r2 h k => by
  unfold mApp at h
  split at h
  · next a d =>
    cases r1
    obtain ⟨u, rfl, r3⟩ := repL1 r2
    split at h
    · next es em =>
      obtain ⟨hl, h⟩ := h
      obtain ⟨gn, us, g1, g2, g3⟩ := S.mem _ _ em
      have e1 := g2.length
      have z := sizeLine_eq
      refine ⟨a, us, u, rfl, rfl, g1, by omega, k G _ _ .non _ (Same.refl _) (S.put (mo := .lst (es ++ [d])) gn ⟨_, upd_same, RepL.append g2 (RepL.cons r3 rfl), ?_⟩) rfl h⟩
      rw [List.length_append]; simp; omega
    · exact h.elim
  · exact h.elim⟩
end
def qDNew : DTE := fun _ _ M Q => ∀ a, M a = none → Q (.ref a) (put M a (.dK []))
def qDNewT : DTE := fun _ _ M Q => ∀ a, M a = none → Q (.ref a) (put M a (.dT []))
section
variable {X : Cx} {W : WX} {pos : Pos}
theorem q_dnew : QE X W (.Dict [] [] pos) tDNewK qDNew := ⟨pe_dnewK, fun DW G H p M s Q Q' hw S h k a ha =>
  k G _ _ (.ref a) _ (Same.refl _) (S.put (mo := .dK []) (S.same.free ha) ⟨[], upd_same, rfl, rfl, Nat.zero_le _, fun q hq => by cases hq⟩) rfl (h a (S.mem.fresh ha))⟩
theorem q_dnewT : QE X W (.Dict [] [] pos) tDNewT qDNewT := ⟨pe_dnewT, fun DW G H p M s Q Q' hw S h k a ha =>
  k G _ _ (.ref a) _ (Same.refl _) (S.put (mo := .dT []) (S.same.free ha) ⟨[], upd_same, rfl, rfl, Nat.zero_le _, fun q hq => by cases hq⟩) rfl (h a (S.mem.fresh ha))⟩
end
/-- d.get(k, x) -/
def isDict (M : Mst) : D → Bool
  | .dct _ _ => true
  | .ref a => match M a with
    | some (.dK _) => true
    | some (.dT _) => true
    | some (.lk _ _) => true
    | some (.lkT _ _) => true
    | _ => false
  | _ => false
def qDGet2 (qd qk qx : DTE) : DTE := fun DW p M Q => qd DW p M fun x M1 => isDict M1 x = true ∧ qk DW p M1 fun y M2 => qx DW p M2 fun z M3 => match dgetD M3 x y with
  | some o => Q (o.getD z) M3
  | none => False
theorem isD_of {K : PySem.W.Frag} {G H : Hp} {p : Rho} {M : Mst} {s : L2.St} {x : D} {v : V} (S : Sim K G H p M s) (r : Rep K G x v) (h : isDict M x = true) : ∃ a, v = .ref a ∧ IsD H a := by
  unfold isDict at h
  split at h
  · obtain ⟨a, kvs, rfl, h1, _⟩ := r
    exact ⟨a, rfl, .inl ⟨kvs, same_rd S.same h1⟩⟩
  · next a =>
    cases r
    refine ⟨a, rfl, ?_⟩
    split at h
    · next kvs em => obtain ⟨_, kv, h1, _⟩ := S.mem _ _ em; exact .inl ⟨kv, .inl h1⟩
    · next kvs em => obtain ⟨_, kv, h1, _⟩ := S.mem _ _ em; exact .inr ⟨kv, .inl h1⟩
    · next ho kvs em => obtain ⟨_, o, kv, h0, h1, _⟩ := S.mem _ _ em; exact .inl ⟨kv, .inr ⟨o, by rw [← h0]; exact h1⟩⟩
    · next ho kvs em => obtain ⟨_, o, kv, h0, h1, _⟩ := S.mem _ _ em; exact .inr ⟨kv, .inr ⟨o, by rw [← h0]; exact h1⟩⟩
    · cases h
  · cases h
section
variable {X : Cx} {W : WX} {o e f : Expr} {apos cpos : Pos} {td ty tx : TE} {qd qk qx : DTE}
theorem q_dget2 (hu : X.A.units + 1 < cLine) (ho : QE X W o td qd) (he : QE X W e ty qk) (hf : QE X W f tx qx) (m : M2 X o "get" apos e f cpos) : QE X W (.Call (.Attribute o "get" apos) [e, f] [] cpos) (tDGet2 td ty tx) (qDGet2 qd qk qx) :=
  ⟨pe_dget2 hu ho.pe he.pe hf.pe m, fun DW G H p M s Q Q' hw S h k => ho.rf DW G H p M s _ _ hw S h fun G1 H1 M1 x v e1 S1 r1 ⟨hd, h1⟩ => by
    obtain ⟨a, rfl, hD⟩ := isD_of S1 r1 hd
    refine ⟨a, rfl, hD, he.rf DW G1 H1 p M1 s _ _ (hw.mono e1) S1 h1 fun G2 H2 M2 y u e2 S2 r2 h2 => hf.rf DW G2 H2 p M2 s _ _ (hw.mono (e1.trans e2)) S2 h2 fun G3 H3 M3 z w e3 S3 r3 h3 => ?_⟩
    split at h3
    · next oo eo =>
      obtain ⟨a', ov, ea, g, q⟩ := dgetD_of S3 (Rep.mono (e2.trans e3) _ _ r1) (Rep.mono e3 _ _ r2) eo
      cases ea
      refine ⟨ov, g, ?_⟩
      rcases q with ⟨rfl, rfl⟩ | ⟨d', w', rfl, rfl, r'⟩
      · exact k G3 H3 M3 z _ ((e1.trans e2).trans e3) S3 r3 h3
      · exact k G3 H3 M3 d' _ ((e1.trans e2).trans e3) S3 r' h3
    · exact h3.elim⟩
end
def kD : Key → D
  | .inl i => .int i
  | .inr x => .str x
theorem rep_key {K : PySem.W.Frag} {G : Hp} {k : Key} (h : kOk k) : Rep K G (kD k) (kV k) := by
  cases k with
  | inl i => rfl
  | inr x => exact ⟨rfl, h⟩
end DL
namespace DL
open PySem L2
def frz (i : Nat) (p : Rho) (M : Mst) (R : Rho → Mst → Prop) : Prop := match p[i]? with
  | some (some (.ref a)) => match M a with
    | some (.lst ds) => R (p.set i (some (.lst ds))) (del M a)
    | some (.dK kvs) => R (p.set i (some (.dct (kvs.map (·.1)) (kvs.map (·.2))))) (del M a)
    | some (.ins C fs) => R (p.set i (some (.ins C (fs.map (·.1)) (fs.map (·.2))))) (del M a)
    | _ => False
  | _ => False
def qFrz (i : Nat) (q : DTS) : DTS := fun DW DE p M => frz i p M (q DW DE)
theorem Sim.slot {K : PySem.W.Frag} {G H : Hp} {p : Rho} {M : Mst} {s : L2.St} {i : Nat} {a : Addr} {d : D} (S : Sim K G H p M s) (h : ∃ v, s[i]? = some (some v) ∧ v = .ref a) (r : Rep K G d (.ref a)) : Sim K G H (p.set i (some d)) M s := by
  obtain ⟨v, h1, rfl⟩ := h
  refine ⟨S.same, fun j e h => ?_, by rw [List.length_set]; exact S.len, S.mem⟩
  rw [List.getElem?_set] at h
  split at h
  · next z =>
    subst z
    split at h
    · cases h; exact ⟨_, h1, r⟩
    · cases h
  · exact S.env j e h
theorem qs_frz {X : Cx} {W : WX} {st : Stmt} {t : TS} {q : DTS} (i : Nat) (h : QS X W st t q) : QS X W st t (qFrz i q) := ⟨h.pe, fun DW G H p M s DE E hw S hq k => by
  unfold qFrz frz at hq
  split at hq
  · next a ei =>
    obtain ⟨v, s1, r1⟩ := S.env i _ ei
    have hv : ∃ v, s[i]? = some (some v) ∧ v = .ref a := ⟨v, s1, r1⟩
    split at hq
    · next ds em =>
      obtain ⟨G', e, S', r⟩ := S.freeze em
      exact h.rf DW G' H _ _ s DE E (hw.mono e) (S'.slot hv r) hq (k.mono e)
    · next kvs em =>
      obtain ⟨G', e, S', r⟩ := S.freezeD em
      exact h.rf DW G' H _ _ s DE E (hw.mono e) (S'.slot hv r) hq (k.mono e)
    · next C fs em =>
      obtain ⟨G', e, S', r⟩ := S.freezeI em
      exact h.rf DW G' H _ _ s DE E (hw.mono e) (S'.slot hv r) hq (k.mono e)
    · exact hq.elim
  · exact hq.elim⟩
def enumD : Nat → List D → List D
  | _, [] => []
  | n, d :: ds => .tup [.int n, d] :: enumD (n + 1) ds
@[simp] theorem enumD_length : ∀ (n : Nat) (ds : List D), (enumD n ds).length = ds.length
  | _, [] => rfl
  | n, d :: ds => by simp [enumD, enumD_length]
def zipD : List D → List D → List D
  | a :: as, b :: bs => .tup [a, b] :: zipD as bs
  | _, _ => []
@[simp] theorem zipD_length : ∀ (as bs : List D), (zipD as bs).length = min as.length bs.length
  | a :: as, b :: bs => by simp [zipD, zipD_length as bs]
  | [], bs => by simp [zipD]
  | a :: as, [] => by simp [zipD]
theorem get_lt {α : Type} {xs : List α} {i : Nat} (h : i < xs.length) : ∃ x, xs[i]? = some x := ⟨_, List.getElem?_eq_getElem h⟩
def intsL : List D → Option (List Int)
  | [] => some []
  | .int i :: ds => match intsL ds with
    | some is => some (i :: is)
    | none => none
  | _ :: _ => none
theorem intsL_eq : ∀ {ds : List D} {ns : List Int}, intsL ds = some ns → ds = ns.map .int
  | [], ns, h => by cases h; rfl
  | d :: ds, ns, h => by
    unfold intsL at h
    split at h
    · next e => cases e
    · next i ds' e =>
      cases e
      split at h
      · next is e => cases h; rw [intsL_eq e]; rfl
      · cases h
    · cases h
@[simp] theorem intsL_map : ∀ ns : List Int, intsL (ns.map D.int) = some ns
  | [] => rfl
  | n :: ns => by simp [intsL, intsL_map ns]
theorem repL_ints {K : PySem.W.Frag} {G : Hp} : ∀ {ns : List Int} {vs : List V}, RepL K G (ns.map D.int) vs → vs = ns.map V.int
  | [], _, h => by cases h; rfl
  | n :: ns, _, ⟨v, q, h1, h2, h3⟩ => by cases h1; cases h2; rw [repL_ints h3]; rfl
theorem repL_intsR {K : PySem.W.Frag} {G : Hp} : ∀ {ns : List Int}, RepL K G (ns.map D.int) (ns.map V.int)
  | [] => rfl
  | n :: ns => ⟨_, _, rfl, rfl, repL_intsR⟩
def intKeys : List Key → Option (List Int)
  | [] => some []
  | .inl i :: ks => match intKeys ks with
    | some is => some (i :: is)
    | none => none
  | _ :: _ => none
theorem intKeys_eq : ∀ {ks : List Key} {ns : List Int}, intKeys ks = some ns → ks = ns.map Sum.inl
  | [], ns, h => by cases h; rfl
  | d :: ds, ns, h => by
    unfold intKeys at h
    split at h
    · next e => cases e
    · next i ds' e =>
      cases e
      split at h
      · next is e => cases h; rw [intKeys_eq e]; rfl
      · cases h
    · cases h
@[simp] theorem intKeys_map : ∀ ns : List Int, intKeys (ns.map Sum.inl) = some ns
  | [] => rfl
  | n :: ns => by simp [intKeys, intKeys_map ns]
def dSorted (m : Bool) : DCa := fun ds M Q => match ds with
  | [x] => match res M x with
    | .lst es => match intsL es with
      | some ns => ∀ ns' : List Int, ns'.Perm ns → ns'.Pairwise (· ≤ ·) → newL m (ns'.map .int) M Q
      | none => False
    | .dct ks _ => match intKeys ks with
      | some ns => ns.length < 64 ∧ ∀ ns' : List Int, ns'.Perm ns → ns'.Pairwise (· ≤ ·) → newL m (ns'.map .int) M Q
      | none => False
    | _ => False
  | _ => False
def rSortD : List V → Hp → VK → Prop := fun xs H Q => ∃ (a : Addr) (kvs : List (Key × V)) (ks : List Int), xs = [.ref a] ∧ Rd H a (.dK kvs) ∧ kvs.map (·.1) = ks.map Sum.inl ∧ ks.length < 64 ∧
    ∀ (ys : List Int) (p : Addr), ys.Perm ks → ys.Pairwise (· ≤ ·) → H p = none → Q (.ref p) (upd H p (.lst (ys.map V.int)))
theorem c_sorted {X : Cx} (m : Bool) (hc : X.calm = true) : QCa X (.builtin "sorted") (fun xs H Q => rSortedI X.K xs H Q ∨ rSortD xs H Q) (dSorted m) := ⟨cr_sortedI.or (call_sortedDI hc), fun G H p M s ds vs Q Q' S r h k => by
  unfold dSorted at h
  split at h
  · next x =>
    obtain ⟨v, rfl, r1⟩ := repL1 r
    split at h
    · next es e1 =>
      obtain ⟨a, us, rfl, g1, g2, g3⟩ := as_lst S r1 e1
      split at h
      · next ns en =>
        have ee := intsL_eq en
        subst ee
        have eu := repL_ints g2
        subst eu
        refine .inl ⟨a, ns, rfl, .inl (.inl g1), fun ns' q hp hw hn => newL_ok S hn repL_intsR (by rw [List.length_map] at g3 ⊢; rw [hp.length_eq]; exact g3) (h ns' hp hw) k⟩
      · exact h.elim
    · next ks fs e1 =>
      obtain ⟨a, kvs, rfl, g1, g2, g3, g4, g5⟩ := as_dct S r1 e1
      split at h
      · next ns en =>
        have ee := intKeys_eq en
        subst ee
        refine .inr ⟨a, kvs, ns, rfl, g1, g2, h.1, fun ns' q hp hw hn => newL_ok S hn repL_intsR (sz1000 (by rw [List.length_map, hp.length_eq]; omega)) (h.2 ns' hp hw) k⟩
      · exact h.elim
    · exact h.elim
  · exact h.elim⟩
/-- set(xs), fewer than 64 whole numbers -/
def rSetL (K : PySem.W.Frag) (w : World) : List V → Hp → VK → Prop := fun vs H Q => ∃ (a : Addr) (ns : List Int), vs = [.ref a] ∧ SqL K H a (ns.map V.int) ∧ ns.length < 64 ∧ ∀ p c, H p = none → c ≤ ns.length → Q (.ref p) (upd H p (SetO w p (fun j => decide (j ∈ ns)) c))
theorem sim_laid {K : PySem.W.Frag} {G H : Hp} {p : Rho} {M : Mst} {s : L2.St} {a : Addr} {o : HO} (S : Sim K G H p M s) (hn : H a = none) : Sim K G (upd H a o) p M s := by
  refine ⟨fun b u q => ?_, S.env, S.len, fun b u q => ⟨(S.mem b u q).1, (S.mem b u q).2.mono (Same.refl G) ?_ (.refl G)⟩⟩
  · rw [upd_ne (ne_of_none q (S.same.free hn))]; exact S.same b u q
  · obtain ⟨o', ho⟩ := (S.mem b u q).2.there
    exact upd_ne (ne_of_none ho hn)
end DL
namespace DL
open PySem L2
/-- a def of the module: where it stands, what it is -/
structure FnAt (K : PySem.W.Frag) (mg : Str → Option Value) (x : Str) (st : Stmt) (ps : List Str) where
  f : Addr
  fd : FuncData
  g : mg x = some (.ref f)
  F : Fun K x x st f fd
  b : Binds K fd ps []
end DL
namespace DL
open PySem L2
abbrev retE (Q : DK) : DEnds := { nx := fun _ M => Q .non M, rt := Q }
section
variable {M : Mst} {Q : DK} {a : Addr} {ds : List D} {i : Int} {d : D}
theorem atI_0 {α : Type} {x : α} {xs : List α} : atI (x :: xs) 0 = some x := by
  unfold atI ixN; simp
theorem atI_1 {α : Type} {x y : α} {xs : List α} : atI (x :: y :: xs) 1 = some y := by
  unfold atI ixN
  have : (1 : Int) < ((x :: y :: xs).length : Int) := by simp; omega
  simp only [this]; rfl
theorem atI_n {α : Type} {xs : List α} {n : Nat} : atI xs (n : Int) = xs[n]? := by
  unfold atI ixN
  by_cases h : n < xs.length
  · simp [h]
  · have : ¬ ((n : Int) < (xs.length : Int)) := by omega
    simp [this, h]
theorem atI_some {α : Type} {xs : List α} {i : Int} (h0 : 0 ≤ i) (h1 : i < xs.length) : ∃ x, atI xs i = some x ∧ x ∈ xs := by
  obtain ⟨n, rfl⟩ : ∃ n : Nat, i = n := ⟨i.toNat, by omega⟩
  rw [atI_n]
  have : n < xs.length := by omega
  exact ⟨_, List.getElem?_eq_getElem this, List.getElem_mem this⟩
theorem ix_l (h : atI ds i = some d) : dIx (.lst ds) (.int i) M Q = Q d M := by simp [dIx, dgetD, h]
theorem ix_t (h : atI ds i = some d) : dIx (.tup ds) (.int i) M Q = Q d M := by simp [dIx, dgetD, h]
theorem ix_x (h : atI ds i = some d) : dIx (.xtp ds) (.int i) M Q = Q d M := by simp [dIx, dgetD, h]
theorem ix_s {ns : List Int} {n : Int} (h : atI ns i = some n) : dIx (.scr ns) (.int i) M Q = Q (.int n) M := by simp [dIx, dgetD, h]
theorem ix_r (hm : M a = some (.lst ds)) (h : atI ds i = some d) : dIx (.ref a) (.int i) M Q = Q d M := by simp [dIx, dgetD, res, hm, h]
theorem set_l {R : Mst → Prop} {j : Nat} (hm : M a = some (.lst ds)) (h : ixN ds.length i = some j) : dSet (.ref a) (.int i) d M R = R (put M a (.lst (ds.set j d))) := by simp [dSet, hm, h]
theorem len_s {ns : List Int} : dLen [.scr ns] M Q = Q (.int ns.length) M := by simp [dLen]
@[simp] theorem dInt_i {C : Int → Int → Prop} {g : Int → Int → Int} {i j : Int} : dInt C g (.int i) (.int j) M Q = (C i j ∧ Q (.int (g i j)) M) := rfl
@[simp] theorem dInt0_i {g : Int → Int → Int} {i j : Int} : dInt0 g (.int i) (.int j) M Q = Q (.int (g i j)) M := rfl
@[simp] theorem dCmpI_i {g : Int → Int → Bool} {i j : Int} : dCmpI g (.int i) (.int j) M Q = Q (.bl (g i j)) M := rfl
@[simp] theorem dAdd_i {m : Bool} {i j : Int} : dAdd m (.int i) (.int j) M Q = Q (.int (i + j)) M := rfl
@[simp] theorem dAdd_l {m : Bool} {es fs : List D} : dAdd m (.lst es) (.lst fs) M Q = (es.length + fs.length ≤ 100000 ∧ newL m (es ++ fs) M Q) := rfl
@[simp] theorem dAbs_i {i : Int} : dAbs [.int i] M Q = Q (.int (if i < 0 then -i else i)) M := rfl
@[simp] theorem dMax2_i {i j : Int} : dMax2 [.int i, .int j] M Q = Q (.int (if j > i then j else i)) M := rfl
@[simp] theorem dMin2_i {i j : Int} : dMin2 [.int i, .int j] M Q = Q (.int (if j < i then j else i)) M := rfl
@[simp] theorem len_l' : dLen [.lst ds] M Q = Q (.int ds.length) M := by simp [dLen]
@[simp] theorem len_s' {ns : List Int} : dLen [.scr ns] M Q = Q (.int ns.length) M := by simp [dLen]
@[simp] theorem gSub_eq {qo qi : DTE} {d : D} {DW : DWt} {p : Rho} {R : Rho → Mst → Prop} : gSubD qo qi d DW p M R = qo DW p M fun o M1 => qi DW p M1 fun i M2 => dSet o i d M2 fun M3 => R p M3 := rfl
end
section
variable {X : Cx} {W : WX} {pos : Pos}
theorem qs_setN (i : Nat) {x : Str} {e : Expr} {te : TE} {qe : DTE} {pos' : Pos} (hN : X.N.Nodup) (he : QE X W e te qe) (hi : X.N[i]? = some x := by rfl) (hx : Loc X.env.scope x := by first | exact .inl rfl | exact .inr rfl)
    (hs : swapsWith e (some (.Name x pos')) pos.line X.env = pure false := by rfl) (hf : X.fn x = true ∨ X.env.scope.names.lookup x = some .local := by first | exact .inl rfl | exact .inr rfl) :
    QS X W (.Assign [.Name x pos'] e pos) (tAsg te (gName i)) (qAsg qe (gNameD i)) := qs_set (ps_set hN hi hx he.pe hs hf) he.rf
theorem qs_parN (i j : Nat) {x y : Str} {a b : Expr} {ta : TA} {qa : DTA} {px py pt : Pos} {kt k2 pt2} (hc : X.calm = true) (hN : X.N.Nodup) (ha : QA X W [a, b] ta qa) (hi : X.N[i]? = some x := by rfl) (hj : X.N[j]? = some y := by rfl) (hij : i ≠ j := by decide)
    (hx : X.env.scope.names.lookup x = some .local := by rfl) (hy : X.env.scope.names.lookup y = some .local := by rfl)
    (hw : swappedStores [.Tuple [.Name x px, .Name y py] kt pt] (.Tuple [a, b] k2 pt2) X.env = pure (some [x, y]) := by rfl)
    (hs : swapsWithSole [.Tuple [.Name x px, .Name y py] kt pt] (.Tuple [a, b] k2 pt2) pos.line X.env = pure false := by rfl) :
    QS X W (.Assign [.Tuple [.Name x px, .Name y py] kt pt] (.Tuple [a, b] k2 pt2) pos) (tPar i j ta) (qPar i j qa) := qs_par (ps_par hc hN hi hj hij hx hy ha.pe hw hs) ha.rf
theorem qg_nm (i : Nat) {x : Str} {ix : List Nat} (hN : X.N.Nodup) (hi : X.N[i]? = some x := by rfl) (hx : Loc X.env.scope x := by first | exact .inl rfl | exact .inr rfl)
    (hf : X.fn x = true ∨ X.env.scope.names.lookup x = some .local := by first | exact .inl rfl | exact .inr rfl) (hm : i ∈ ix := by decide) : QGi X W ix (.Name x pos) (gName i) (gNameD i) := qg_name (pg_name hN hi hx hf) hm
end
def Sub (M M' : Mst) : Prop := ∀ a o, M a = some o → M' a = some o
theorem Sub.refl (M : Mst) : Sub M M := fun _ _ h => h
theorem Sub.trans {M M1 M2 : Mst} (h : Sub M M1) (g : Sub M1 M2) : Sub M M2 := fun a o e => g a o (h a o e)
theorem Sub.put {M M' : Mst} {a : Addr} {o : MO} (h : Sub M M') (hn : M a = none) : Sub M (put M' a o) := fun b u e => by
  rw [put_ne (fun z => by rw [z, hn] at e; cases e)]; exact h b u e
def upSp (p : DSp) : DSp := fun ds M Q E => ∃ Q0 E0, p ds M Q0 E0 ∧ (∀ d M' M'', Sub M'' M' → Q0 d M'' → Q d M') ∧ ∀ x M' M'', Sub M'' M' → E0 x M'' → E x M'
theorem imp_up {K : PySem.W.Frag} {p : DSp} {vs : List V} {H : Hp} {Q : VK} {E : XK} (h : toSp K p vs H Q E) : toSp K (upSp p) vs H Q E := by
  obtain ⟨G, ds, M, Qd, Ed, e, r, hm, hp, kq, ke⟩ := h
  have ok : ∀ {G' H' M' M''}, Sub M'' M' → MemOk K G' H' M' → MemOk K G' H' M'' := fun hs hm a o e => hm a o (hs a o e)
  exact ⟨G, ds, M, fun d M' => ∃ M'', Sub M'' M' ∧ Qd d M'', fun x M' => ∃ M'', Sub M'' M' ∧ Ed x M'', e, r, hm, ⟨Qd, Ed, hp, fun d M' M'' hs q => ⟨M'', hs, q⟩, fun x M' M'' hs q => ⟨M'', hs, q⟩⟩,
    fun G' H' v d M' e1 e2 r1 hm1 ⟨M'', hs, q⟩ => kq G' H' v d M'' e1 e2 r1 (ok hs hm1) q, fun G' H' x cls dx M' e1 e2 r1 hm1 ⟨M'', hs, q⟩ => ke G' H' x cls dx M'' e1 e2 r1 (ok hs hm1) q⟩
def canE (K : PySem.W.Frag) (W : WX) (q : DTE) : TE := fun s H Q' => ∃ DW G p M Q, WLink K G DW W ∧ Sim K G H p M s ∧ q DW p M Q ∧ ∀ G' H' M' d v, Same G G' → Sim K G' H' p M' s → Rep K G' d v → Q d M' → Q' v H'
def canT (K : PySem.W.Frag) (W : WX) (q : DTT) : TT := fun s H Q' => ∃ DW G p M Q, WLink K G DW W ∧ Sim K G H p M s ∧ q DW p M Q ∧ ∀ G' H' M' b, Same G G' → Sim K G' H' p M' s → Q b M' → Q' b H'
def canG (K : PySem.W.Frag) (W : WX) (ix : List Nat) (q : DTG) : TG := fun v s H Q' => ∃ DW G p M d Q, WLink K G DW W ∧ Sim K G H p M s ∧ Rep K G d v ∧ q d DW p M Q ∧ ∀ G' H' p' M' s', Same G G' → Sim K G' H' p' M' s' → Only ix s s' → Q p' M' → Q' s' H'
section
variable {X : Cx} {W : WX} {elt tg iter : Expr} {ifs : List Expr} {scope : Scope} {own : List (Str × Nat)} {pos : Pos} {wi : TI} {qi : DTI} {qg : DTG} {qt : DTT} {qe : DTE}
theorem QE.can {e : Expr} (h : ∃ t, QE X W e t qe) : QE X W e (canE X.K W qe) qe := by
  obtain ⟨t, h⟩ := h
  exact ⟨⟨fun pins s σ H Q I ⟨DW, G, p, M, Qd, hw, S, hq, k⟩ => h.pe.run pins s σ H Q I (h.rf DW G H p M σ Qd Q hw S hq k)⟩, fun DW G H p M s Q Q' hw S hq k => ⟨DW, G, p, M, Q, hw, S, hq, k⟩⟩
theorem QTs.can {es : List Expr} (h : ∃ t, QTs X W es t qt) : QTs X W es (canT X.K W qt) qt := by
  obtain ⟨t, h⟩ := h
  exact ⟨⟨fun pins s σ H Q I ⟨DW, G, p, M, Qd, hw, S, hq, k⟩ => h.pe.run pins s σ H Q I (h.rf DW G H p M σ Qd Q hw S hq k)⟩, fun DW G H p M s Q Q' hw S hq k => ⟨DW, G, p, M, Q, hw, S, hq, k⟩⟩
theorem QGi.can {ix : List Nat} {e : Expr} (h : ∃ t, QGi X W ix e t qg) : QGi X W ix e (canG X.K W ix qg) qg := by
  obtain ⟨t, h⟩ := h
  exact ⟨⟨fun pins s σ H v u Q I r ⟨DW, G, p, M, d, Qd, hw, S, rd, hq, k⟩ => h.pe.run pins s σ H v u Q I r (h.rf DW G H p M σ d v Qd Q hw S rd hq k)⟩, fun DW G H p M s d v Q Q' hw S rd hq k => ⟨DW, G, p, M, d, Q, hw, S, rd, hq, k⟩⟩
theorem q_lcX (m : Bool) (hc : X.calm = true) (hN : X.N.Nodup) (hi : QI X W tg iter wi qi) (ok : BlkOk X.N X.env.scope scope own)
    (hg : ∀ (s : Shared) (H : Hp) (C : Addr) (cl : List (Str × Addr)) (fp : List Addr), ∃ t, QGi (X.blk s H scope (compEnvC scope cl C X.env) fp) W0 (own.map (·.2)) tg t qg)
    (ht : ∀ (s : Shared) (H : Hp) (C : Addr) (cl : List (Str × Addr)) (fp : List Addr), ∃ t, QTs (X.blk s H scope (compEnvC scope cl C X.env) fp) W0 ifs t qt)
    (he : ∀ (s : Shared) (H : Hp) (C : Addr) (cl : List (Str × Addr)) (fp : List Addr), ∃ t, QE (X.blk s H scope (compEnvC scope cl C X.env) fp) W0 elt t qe) (hs : ∀ x, foldedSetIterable iter X.env x = pure x := by intro _; rfl) :
    QE X W (.ListComp elt [⟨tg, iter, ifs, 0⟩] scope pos) (tLc wi (canG X.K W0 (own.map (·.2)) qg) (canT X.K W0 qt) (canE X.K W0 qe) (own.map (·.2))) (qLc m qi qg qt qe (own.map (·.2))) :=
  q_lc m hc hN hi ok (fun s H C cl fp => QGi.can (hg s H C cl fp)) (fun s H C cl fp => QTs.can (ht s H C cl fp)) (fun s H C cl fp => QE.can (he s H C cl fp)) hs
theorem qs_setLcX (m : Bool) (i : Nat) {y : Str} {py spos : Pos} (hc : X.calm = true) (hN : X.N.Nodup) (hi : QI X W tg iter wi qi) (ok : BlkOk X.N X.env.scope scope own)
    (hg : ∀ (s : Shared) (H : Hp) (C : Addr) (cl : List (Str × Addr)) (fp : List Addr), ∃ t, QGi (X.blk s H scope (compEnvC scope cl C X.env) fp) W0 (own.map (·.2)) tg t qg)
    (ht : ∀ (s : Shared) (H : Hp) (C : Addr) (cl : List (Str × Addr)) (fp : List Addr), ∃ t, QTs (X.blk s H scope (compEnvC scope cl C X.env) fp) W0 ifs t qt)
    (he : ∀ (s : Shared) (H : Hp) (C : Addr) (cl : List (Str × Addr)) (fp : List Addr), ∃ t, QE (X.blk s H scope (compEnvC scope cl C X.env) fp) W0 elt t qe)
    (hy : X.N[i]? = some y := by rfl) (hyl : X.env.scope.names.lookup y = some .local := by rfl)
    (hsw : swapsWith (.ListComp elt [⟨tg, iter, ifs, 0⟩] scope pos) (some (.Name y py)) spos.line X.env = pure true := by exact sw_true rfl rfl rfl (by decide +kernel)) (hs : ∀ x, foldedSetIterable iter X.env x = pure x := by intro _; rfl) :
    QS X W (.Assign [.Name y py] (.ListComp elt [⟨tg, iter, ifs, 0⟩] scope pos) spos) (tAsg (tLc wi (canG X.K W0 (own.map (·.2)) qg) (canT X.K W0 qt) (canE X.K W0 qe) (own.map (·.2))) (gName i)) (qAsg (qLc m qi qg qt qe (own.map (·.2))) (gNameD i)) :=
  qs_setLc m hc hN hy hyl hsw hi ok (fun s H C cl fp => QGi.can (hg s H C cl fp)) (fun s H C cl fp => QTs.can (ht s H C cl fp)) (fun s H C cl fp => QE.can (he s H C cl fp)) hs
end
def spTakeL : DSp := fun ds M Q _ => ∃ (b : Addr) (g m n : Int), ds = [.ref b, .int n] ∧ M b = some (.lst [.int g, .int m]) ∧ 0 ≤ g ∧ 0 ≤ m ∧ m < 2147483648 ∧ 0 < n ∧ n < 1073741824 ∧
  ∀ g' m' r : Int, 0 ≤ g' → 0 ≤ m' → m' < 2147483648 → 0 ≤ r → r < n → Q (.int r) (put M b (.lst [.int g', .int m']))
def spTake : DSp := fun ds M Q _ => ∃ (b : Addr) (n : Int), ds = [.ref b, .int n] ∧ M b = some .bag ∧ 0 < n ∧ n < 1073741824 ∧ ∀ r : Int, 0 ≤ r → r < n → Q (.int r) M
def spBagL : DSp := fun ds M Q _ => ∃ (ns : List Int) (i : Int), ds = [.scr ns, .int i] ∧ 0 ≤ i ∧ i < 10000 ∧ ∀ (p : Addr) (g m : Int), M p = none → 0 ≤ g → 0 ≤ m → m < 2147483648 → Q (.ref p) (put M p (.lst [.int g, .int m]))
def spBag : DSp := fun ds M Q _ => ∃ (ns : List Int) (i : Int), ds = [.scr ns, .int i] ∧ 0 ≤ i ∧ i < 10000 ∧ ∀ p : Addr, M p = none → Q (.ref p) (put M p .bag)
theorem cpow_small {i : Int} {j : Nat} (h0 : 0 ≤ i) (h1 : i < 18446744073709551616) (hj : j ≤ 1000000) : CPow i (j : Int) := by
  refine ⟨by omega, by omega, ?_⟩
  have e : (2 : Nat) ^ 64 = 18446744073709551616 := by decide
  omega
theorem mem_bag {K : PySem.W.Frag} {G H : Hp} {M : Mst} {b : Addr} {g m : Int} (hm : MemOk K G H M) (h : M b = some (.lst [.int g, .int m])) (h0 : 0 ≤ g) (h1 : 0 ≤ m) (h2 : m < 2147483648) : MemOk K G H (put M b .bag) := fun a o e => by
  by_cases z : a = b
  · subst z
    rw [put_same] at e; cases e
    obtain ⟨gn, vs, q1, ⟨v, r, rfl, q2, ⟨u, r2, rfl, q3, q4⟩⟩, _⟩ := hm _ _ h
    cases q2; cases q3; cases q4
    exact ⟨gn, g, m, q1, h0, h1, h2⟩
  · rw [put_ne z] at e; exact hm a o e
theorem bag_mem {K : PySem.W.Frag} {G H : Hp} {M : Mst} {b : Addr} (hm : MemOk K G H M) (h : M b = some .bag) : ∃ g m : Int, 0 ≤ g ∧ 0 ≤ m ∧ m < 2147483648 ∧ MemOk K G H (put M b (.lst [.int g, .int m])) := by
  obtain ⟨gn, g, m, q1, q2, q3, q4⟩ := hm _ _ h
  refine ⟨g, m, q2, q3, q4, fun a o e => ?_⟩
  by_cases z : a = b
  · subst z
    rw [put_same] at e; cases e
    exact ⟨gn, _, q1, ⟨_, _, rfl, rfl, _, _, rfl, rfl, rfl⟩, sz1000 (by simp)⟩
  · rw [put_ne z] at e; exact hm a o e
theorem imp_take {K : PySem.W.Frag} {vs : List V} {H : Hp} {Q : VK} {E : XK} (h : toSp K spTake vs H Q E) : toSp K spTakeL vs H Q E := by
  obtain ⟨G, ds, M, Qd, Ed, e, r, hm, ⟨b, n, rfl, hb, h0, h1, k⟩, kq, ke⟩ := h
  obtain ⟨g, m, g1, g2, g3, hm'⟩ := bag_mem hm hb
  refine ⟨G, _, _, fun d M' => ∃ g' m' : Int, M' b = some (.lst [.int g', .int m']) ∧ 0 ≤ g' ∧ 0 ≤ m' ∧ m' < 2147483648 ∧ Qd d (put M' b .bag), Ed, e, r, hm', ⟨b, g, m, n, rfl, put_same, g1, g2, g3, h0, h1, fun g' m' r a1 a2 a3 a4 a5 => ?_⟩, fun G' H' v d M' e1 e2 r1 hm1 q => ?_, fun G' H' x cls dx M' e1 e2 r1 hm1 q => ke G' H' x cls dx M' e1 e2 r1 hm1 q⟩
  · refine ⟨g', m', put_same, a1, a2, a3, ?_⟩
    rw [put_put, put_put, put_id hb]
    exact k r a4 a5
  · obtain ⟨g', m', q0, q1, q2, q3, q4⟩ := q
    exact kq G' H' v d _ e1 e2 r1 (mem_bag hm1 q0 q1 q2 q3) q4
theorem imp_bag {K : PySem.W.Frag} {vs : List V} {H : Hp} {Q : VK} {E : XK} (h : toSp K spBag vs H Q E) : toSp K spBagL vs H Q E := by
  obtain ⟨G, ds, M, Qd, Ed, e, r, hm, ⟨ns, i, rfl, h0, h1, k⟩, kq, ke⟩ := h
  refine ⟨G, _, _, fun d M' => ∃ (b : Addr) (g' m' : Int), d = .ref b ∧ M' b = some (.lst [.int g', .int m']) ∧ 0 ≤ g' ∧ 0 ≤ m' ∧ m' < 2147483648 ∧ Qd d (put M' b .bag), Ed, e, r, hm, ⟨ns, i, rfl, h0, h1, fun p g m hp a1 a2 a3 => ⟨p, g, m, rfl, put_same, a1, a2, a3, ?_⟩⟩, fun G' H' v d M' e1 e2 r1 hm1 q => ?_, fun G' H' x cls dx M' e1 e2 r1 hm1 q => ke G' H' x cls dx M' e1 e2 r1 hm1 q⟩
  · rw [put_put]
    exact k p hp
  · obtain ⟨b, g', m', rfl, q0, q1, q2, q3, q4⟩ := q
    exact kq G' H' v _ _ e1 e2 r1 (mem_bag hm1 q0 q1 q2 q3) q4
end DL
namespace DL
open PySem L2
def qTakeR : DTS :=
  (qSeq (qIfS (qTB (qOp (dCmpI fun i j => decide (j < i)) (qOp dIx (qVar 0) (qC (.int 0))) (qC (.int 0))))
  (qSeq (qAsg (qOp (dInt (fun _ j => 0 < j) fun i j => i % j) (qOp dIx (qVar 0) (qC (.int 0))) (qVar 1)) (gNameD 2))
  (qSeq (qAsg (qOp (dInt CDiv fun i j => i / j) (qOp dIx (qVar 0) (qC (.int 0))) (qVar 1)) (gSubD (qVar 0) (qC (.int 0))))
  (qRet (qVar 2))))
  qNext)
  (qSeq (qAsg (qOp (dInt (fun _ j => 0 < j) fun i j => i % j) (qOp (dAdd false) (qOp (dInt CMul fun i j => i * j) (qOp dIx (qVar 0) (qC (.int 1))) (qC (.int 48271))) (qC (.int 11))) (qC (.int 2147483647))) (gSubD (qVar 0) (qC (.int 1))))
  (qRet (qOp (dInt (fun _ j => 0 < j) fun i j => i % j) (qOp (dInt (fun _ j => 0 < j) fun i j => i % j) (qOp (dInt CPow fun i j => i ^ j.toNat) (qOp (dInt CDiv fun i j => i / j) (qOp dIx (qVar 0) (qC (.int 1))) (qC (.int 8))) (qC (.int 3))) (qC (.int 2147483629))) (qVar 1)))))
def qBagR : DTS :=
  (qSeq (qAsg (qC (.int 0)) (gNameD 2))
  (qSeq (qIfS (qTB (qOp (dCmpI fun i j => decide (j < i)) (qCB dLen (qCons (qVar 0) qNil)) (qC (.int 0))))
  (qAsg (qOp dIx (qVar 0) (qOp (dInt (fun _ j => 0 < j) fun i j => i % j) (qVar 1) (qCB dLen (qCons (qVar 0) qNil)))) (gNameD 2))
  qNext)
  (qSeq (qAsg (qC (.int 0)) (gNameD 3))
  (qSeq (qIfS (qAnd (qTB (qOp (dCmpI fun i j => decide (j ≤ i)) (qCB dAbs (qCons (qVar 2) qNil)) (qOp (dInt CPow fun i j => i ^ j.toNat) (qC (.int 10)) (qC (.int 18))))) (qTB (qOp (dCmpI fun i j => decide (i < j)) (qVar 1) (qCB dLen (qCons (qVar 0) qNil)))))
  (qAsg (qCB dAbs (qCons (qVar 2) qNil)) (gNameD 3))
  qNext)
  (qSeq (qAsg (qTup (qCons (qC (.int 2147483629)) (qCons (qC (.int 2147483587)) (qCons (qC (.int 2147483579)) (qCons (qC (.int 2147483563)) (qCons (qC (.int 2147483549)) (qCons (qC (.int 2147483543)) (qCons (qC (.int 2147483497)) (qCons (qC (.int 2147483489)) qNil))))))))) (gNameD 4))
  (qRet (qLst true (qCons (qVar 3) (qCons (qOp (dInt (fun _ j => 0 < j) fun i j => i % j) (qOp (dInt CPow fun i j => i ^ j.toNat) (qOp (dAdd false) (qOp (dAdd false) (qOp (dInt (fun _ j => 0 < j) fun i j => i % j) (qVar 2) (qC (.int 2147483647))) (qOp (dInt CMul fun i j => i * j) (qC (.int 104729)) (qVar 1))) (qC (.int 7))) (qC (.int 5))) (qOp dIx (qVar 4) (qOp (dInt (fun _ j => 0 < j) fun i j => i % j) (qVar 1) (qC (.int 8))))) qNil)))))))))
theorem take_ok (ds : List D) (M : Mst) (Q : DK) (Ed : DX → Mst → Prop) (h : upSp spTakeL ds M Q Ed) : qTakeR (fun x _ M => Ed x M) (retE Q) (startD ["_law_bag_here", "_law_many", "_law_digit"] ds) M := by
  obtain ⟨Q0, E0, ⟨b, g, m, n, rfl, hb, g0, m0, m1, n0, n1, k0⟩, kq, _⟩ := h
  have k : ∀ g' m' r : Int, 0 ≤ g' → 0 ≤ m' → m' < 2147483648 → 0 ≤ r → r < n → Q (.int r) (put M b (.lst [.int g', .int m'])) := fun g' m' r a1 a2 a3 a4 a5 => kq _ _ _ (Sub.refl _) (k0 g' m' r a1 a2 a3 a4 a5)
  have ix0 : ∀ (g m : Int) (M : Mst) (Q : DK), M b = some (.lst [.int g, .int m]) → dIx (.ref b) (.int 0) M Q = Q (.int g) M := fun g m M Q h => ix_r h atI_0
  have ix1 : ∀ (g m : Int) (M : Mst) (Q : DK), M b = some (.lst [.int g, .int m]) → dIx (.ref b) (.int 1) M Q = Q (.int m) M := fun g m M Q h => ix_r h atI_1
  have st0 : ∀ (g m : Int) (M : Mst) (v : D) (R : Mst → Prop), M b = some (.lst [.int g, .int m]) → dSet (.ref b) (.int 0) v M R = R (put M b (.lst [v, .int m])) := fun g m M v R h => set_l h (j := 0) rfl
  have st1 : ∀ (g m : Int) (M : Mst) (v : D) (R : Mst → Prop), M b = some (.lst [.int g, .int m]) → dSet (.ref b) (.int 1) v M R = R (put M b (.lst [.int g, v])) := fun g m M v R h => set_l h (j := 1) rfl
  simp only [qTakeR, startD, qSeq, qIfS, qTB, qOp, qVar, qC, qAsg, gNameD, gSub_eq, qRet, qNext, retE]
  simp
  rw [ix0 g m M _ hb]
  simp [dCmpI]
  split
  · rw [ix0 g m M _ hb]
    simp [dInt, n0]
    rw [ix0 g m M _ hb]
    simp [CDiv, n0, n1]
    rw [st0 g m M _ _ hb]
    exact k _ _ _ (Int.ediv_nonneg g0 (by omega)) m0 m1 (Int.emod_nonneg _ (by omega)) (Int.emod_lt_of_pos _ n0)
  · have c1 : CMul m 48271 := .inr ⟨by decide, by decide⟩
    rw [ix1 g m M _ hb]
    simp [dInt, dAdd, c1]
    rw [st1 g m M _ _ hb]
    have z0 := Int.emod_nonneg (m * 48271 + 11) (show (2147483647 : Int) ≠ 0 by decide)
    have z1 := Int.emod_lt_of_pos (m * 48271 + 11) (show (0 : Int) < 2147483647 by decide)
    generalize (m * 48271 + 11) % 2147483647 = m2 at z0 z1 ⊢
    rw [ix1 g m2 _ _ put_same]
    have c2 : CDiv m2 8 := ⟨by decide, by decide⟩
    have c3 : CPow (m2 / 8) 3 := cpow_small (j := 3) (by omega) (by omega) (by decide)
    simp [c2, c3, n0]
    exact k _ _ _ g0 z0 (by omega) (Int.emod_nonneg _ (by omega)) (Int.emod_lt_of_pos _ n0)
def bagTail : DTS :=
  (qSeq (qAsg (qTup (qCons (qC (.int 2147483629)) (qCons (qC (.int 2147483587)) (qCons (qC (.int 2147483579)) (qCons (qC (.int 2147483563)) (qCons (qC (.int 2147483549)) (qCons (qC (.int 2147483543)) (qCons (qC (.int 2147483497)) (qCons (qC (.int 2147483489)) qNil))))))))) (gNameD 4))
  (qRet (qLst true (qCons (qVar 3) (qCons (qOp (dInt (fun _ j => 0 < j) fun i j => i % j) (qOp (dInt CPow fun i j => i ^ j.toNat) (qOp (dAdd false) (qOp (dAdd false) (qOp (dInt (fun _ j => 0 < j) fun i j => i % j) (qVar 2) (qC (.int 2147483647))) (qOp (dInt CMul fun i j => i * j) (qC (.int 104729)) (qVar 1))) (qC (.int 7))) (qC (.int 5))) (qOp dIx (qVar 4) (qOp (dInt (fun _ j => 0 < j) fun i j => i % j) (qVar 1) (qC (.int 8))))) qNil)))))
theorem bag_end (c gr i : Int) (ns : List Int) (M : Mst) (Q : DK) (Ed : DX → Mst → Prop) (i0 : 0 ≤ i) (i1 : i < 10000) (g0 : 0 ≤ gr) (k : ∀ (p : Addr) (g m : Int), M p = none → 0 ≤ g → 0 ≤ m → m < 2147483648 → Q (.ref p) (put M p (.lst [.int g, .int m]))) (x5 : Option D) :
    bagTail (fun x _ M => Ed x M) (retE Q) [some (.scr ns), some (.int i), some (.int c), some (.int gr), x5] M := by
  simp only [bagTail, qSeq, qIfS, qTB, qOp, qVar, qC, qAsg, gNameD, qRet, qTup, qLst, qCons, qNil, retE, List.set_cons_zero, List.set_cons_succ, List.getElem?_cons_zero, List.getElem?_cons_succ, dInt_i, dAdd_i, newL_t]
  have z0 := Int.emod_nonneg c (show (2147483647 : Int) ≠ 0 by decide)
  have z1 := Int.emod_lt_of_pos c (show (0 : Int) < 2147483647 by decide)
  generalize c % 2147483647 = c2 at z0 z1 ⊢
  refine ⟨by simp, by decide, .inl ⟨by decide, by decide⟩, cpow_small (j := 5) (by omega) (by omega) (by decide), by decide, ?_⟩
  generalize (c2 + 104729 * i + 7) ^ Int.toNat 5 = big
  obtain ⟨x, hx, hm⟩ := atI_some (xs := [D.int 2147483629, .int 2147483587, .int 2147483579, .int 2147483563, .int 2147483549, .int 2147483543, .int 2147483497, .int 2147483489]) (i := i % 8) (Int.emod_nonneg _ (by decide)) (Int.emod_lt_of_pos _ (by decide))
  rw [ix_t hx]
  have : ∃ q : Int, x = .int q ∧ 0 < q ∧ q < 2147483648 := by
    simp only [List.mem_cons, List.not_mem_nil, or_false] at hm
    rcases hm with h | h | h | h | h | h | h | h <;> exact ⟨_, h, by decide, by decide⟩
  obtain ⟨q, rfl, q0, q1⟩ := this
  refine ⟨q0, by simp, fun p hp => k p _ _ hp g0 (Int.emod_nonneg _ (by omega)) ?_⟩
  have := Int.emod_lt_of_pos big q0
  show big % q < _
  omega
def bagMid (a b : Int) : DTS := (qSeq (qAsg (qC (.int 0)) (gNameD 3))
  (qSeq (qIfS (qAnd (qTB (qOp (dCmpI fun i j => decide (j ≤ i)) (qCB dAbs (qCons (qVar 2) qNil)) (qOp (dInt CPow fun i j => i ^ j.toNat) (qC (.int a)) (qC (.int b))))) (qTB (qOp (dCmpI fun i j => decide (i < j)) (qVar 1) (qCB dLen (qCons (qVar 0) qNil)))))
  (qAsg (qCB dAbs (qCons (qVar 2) qNil)) (gNameD 3))
  qNext) bagTail))
theorem set3_ (a b c d : D) (x : Int) : [some a, some b, some (.int x), some c, none].set 3 (some d) = [some a, some b, some (.int x), some d, none] := rfl
theorem abs_set (DW : DWt) (DE : DEnds) (a b c d : D) (x : Int) (M : Mst) : qAsg (qCB dAbs (qCons (qVar 2) qNil)) (gNameD 3) DW DE [some a, some b, some (.int x), some c, none] M = DE.nx [some a, some b, some (.int x), some (.int (if x < 0 then -x else x)), none] M := by
  unfold qAsg qCB qCons qNil gNameD qVar
  simp only [List.getElem?_cons_zero, List.getElem?_cons_succ]
  rw [dAbs_i, set3_]
theorem bag_mid (ns : List Int) (i : Int) (M : Mst) (Q : DK) (Ed : DX → Mst → Prop) (i0 : 0 ≤ i) (i1 : i < 10000) (k : ∀ (p : Addr) (g m : Int), M p = none → 0 ≤ g → 0 ≤ m → m < 2147483648 → Q (.ref p) (put M p (.lst [.int g, .int m])))
    (a b : Int) (hab : CPow a b) (c : Int) : bagMid a b (fun x _ M => Ed x M) (retE Q) [some (.scr ns), some (.int i), some (.int c), none, none] M := by
  simp only [bagMid, qSeq, qAsg, qC, gNameD, List.set_cons_zero, List.set_cons_succ]
  simp only [qIfS, qAnd, qTB, qOp]
  simp only [qCB, qCons, qVar, List.getElem?_cons_zero, List.getElem?_cons_succ]
  simp only [qNil, qC, dAbs_i, dInt_i, dCmpI_i, len_s', qNext]
  have ab : 0 ≤ if c < 0 then -c else c := by split <;> omega
  refine ⟨hab, ?_⟩
  have no : bagTail (fun x _ M => Ed x M) (retE Q) [some (.scr ns), some (.int i), some (.int c), some (.int 0), none] M := bag_end c 0 i ns M Q Ed i0 i1 (by omega) k none
  have yes : ∀ g : Int, 0 ≤ g → bagTail (fun x _ M => Ed x M) (retE Q) [some (.scr ns), some (.int i), some (.int c), some (.int g), none] M := fun g hg => bag_end c g i ns M Q Ed i0 i1 hg k none
  generalize bagTail = tail at no yes ⊢
  have y2 := yes _ ab
  by_cases h1 : decide (a ^ b.toNat ≤ if c < 0 then -c else c) = true
  · rw [if_pos h1]
    by_cases h2 : decide (i < (ns.length : Int)) = true
    · rw [if_pos h2]
      rw [abs_set _ _ _ _ _ .non]; exact y2
    · rw [if_neg h2]; exact no
  · rw [if_neg h1, if_neg Bool.false_ne_true]; exact no
theorem bag_ok (ds : List D) (M : Mst) (Q : DK) (Ed : DX → Mst → Prop) (h : upSp spBagL ds M Q Ed) : qBagR (fun x _ M => Ed x M) (retE Q) (startD ["_law_script", "_law_at", "_law_cell", "_law_great", "_law_primes"] ds) M := by
  obtain ⟨Q0, E0, ⟨ns, i, rfl, i0, i1, k0⟩, kq, _⟩ := h
  have k : ∀ (p : Addr) (g m : Int), M p = none → 0 ≤ g → 0 ≤ m → m < 2147483648 → Q (.ref p) (put M p (.lst [.int g, .int m])) := fun p g m a1 a2 a3 a4 => kq _ _ _ (Sub.refl _) (k0 p g m a1 a2 a3 a4)
  have part := bag_mid ns i M Q Ed i0 i1 k 10 18 (cpow_small (j := 18) (by omega) (by omega) (by omega))
  show qSeq (qAsg (qC (.int 0)) (gNameD 2)) (qSeq (qIfS (qTB (qOp (dCmpI fun i j => decide (j < i)) (qCB dLen (qCons (qVar 0) qNil)) (qC (.int 0))))
  (qAsg (qOp dIx (qVar 0) (qOp (dInt (fun _ j => 0 < j) fun i j => i % j) (qVar 1) (qCB dLen (qCons (qVar 0) qNil)))) (gNameD 2))
  qNext) (bagMid 10 18)) _ _ [some (.scr ns), some (.int i), none, none, none] M
  generalize bagMid 10 18 = mid at part ⊢
  by_cases h : ns.length = 0
  · simp only [qSeq, qIfS, qTB, qOp, qVar, qC, qAsg, gNameD, qCB, qCons, qNil, qNext, List.set_cons_zero, List.set_cons_succ, List.getElem?_cons_zero, List.getElem?_cons_succ, dCmpI_i, len_s']
    rw [if_neg (by simp [h])]
    exact part 0
  · have hp : 0 < ns.length := Nat.pos_of_ne_zero h
    simp only [qSeq, qIfS, qTB, qOp, qVar, qC, qAsg, gNameD, qCB, qCons, qNil, qNext, List.set_cons_zero, List.set_cons_succ, List.getElem?_cons_zero, List.getElem?_cons_succ, dCmpI_i, dInt_i, len_s']
    rw [if_pos (by simpa using hp)]
    obtain ⟨x, hx, _⟩ := atI_some (xs := ns) (i := i % (ns.length : Int)) (Int.emod_nonneg _ (by omega)) (Int.emod_lt_of_pos _ (by omega))
    rw [ix_s hx]
    exact ⟨by omega, part x⟩
end DL
namespace DL
open PySem L2
inductive All2 {α β : Type} (P : α → β → Prop) : List α → List β → Prop
  | nil : All2 P [] []
  | cons {a b as bs} : P a b → All2 P as bs → All2 P (a :: as) (b :: bs)
theorem All2.length {α β : Type} {P : α → β → Prop} {as : List α} {bs : List β} (h : All2 P as bs) : bs.length = as.length := by
  induction h with
  | nil => rfl
  | cons _ _ ih => simp [ih]
theorem All2.eq_map {α β : Type} {f : α → β} {as : List α} {bs : List β} (h : All2 (fun a b => b = f a) as bs) : bs = as.map f := by
  induction h with
  | nil => rfl
  | cons h _ ih => rw [h, ih]; rfl
theorem All2.get {α β : Type} {P : α → β → Prop} {as : List α} {bs : List β} (h : All2 P as bs) : ∀ (i : Nat) (a : α), as[i]? = some a → ∃ b, bs[i]? = some b ∧ P a b := by
  induction h with
  | nil => intro i a e; simp at e
  | cons h _ ih =>
    intro i a e
    cases i with
    | zero => simp at e; subst e; exact ⟨_, rfl, h⟩
    | succ i => simp at e; obtain ⟨b, h1, h2⟩ := ih i a e; exact ⟨b, by simpa using h1, h2⟩
theorem compL_rel {m : Bool} {Sty : Mst → Prop} {g : DTG} {tt : DTT} {te : DTE} {ix : List Nat} {a : Addr} {p : Rho} {Q : DK} {M : Mst} (hm : M a = none) (P : D → Option D → Prop) (hS : ∀ acc, Sty (put M a (.lst acc))) :
    ∀ (ds acc : List D), acc.length + ds.length ≤ 100000 →
      (∀ d ∈ ds, ∀ (acc : List D) (R : Option D → Mst → Prop), (∀ o, P d o → R o (put M a (.lst acc))) → g d DW0 (wipeD p ix) (put M a (.lst acc)) fun p2 M2 => tt DW0 p2 M2 fun b M3 => if b = true then te DW0 p2 M3 fun y M4 => R (some y) M4 else R none M3) →
      (∀ os : List (Option D), All2 P ds os → if m = true then Q (.ref a) (put M a (.lst (acc ++ os.filterMap id))) else Q (.lst (acc ++ os.filterMap id)) M) → compL m Sty g tt te ix a p Q ds (put M a (.lst acc))
  | [], acc, _, _, fin => by
    have := fin [] .nil
    refine ⟨hS acc, ?_⟩
    rw [put_same]
    simp only [List.filterMap_nil, List.append_nil] at this
    cases m with
    | true => exact this
    | false =>
      rw [if_neg Bool.false_ne_true] at this
      show (if false = true then Q (.ref a) (put M a (.lst acc)) else Q (.lst acc) (del (put M a (.lst acc)) a))
      rw [if_neg Bool.false_ne_true, del_put hm]; exact this
  | d :: ds, acc, hl, step, fin => by
    refine ⟨hS acc, ?_⟩
    simp only [List.length_cons] at hl
    have ih := compL_rel (m := m) (Sty := Sty) (g := g) (tt := tt) (te := te) (ix := ix) (p := p) (Q := Q) hm P hS ds
    refine step d (List.mem_cons_self ..) acc (fun o M' => match o with
      | some y => (match M' a with
        | some (.lst acc) => acc.length < 100000 ∧ compL m Sty g tt te ix a p Q ds (put M' a (.lst (acc ++ [y])))
        | _ => False)
      | none => compL m Sty g tt te ix a p Q ds M') fun o ho => ?_
    cases o with
    | some y =>
      simp only [put_same, put_put]
      refine ⟨by omega, ih (acc ++ [y]) (by simp; omega) (fun d hd => step d (List.mem_cons_of_mem _ hd)) fun os hos => ?_⟩
      have := fin (some y :: os) (.cons ho hos)
      simpa [List.filterMap_cons] using this
    | none =>
      refine ih acc (by omega) (fun d hd => step d (List.mem_cons_of_mem _ hd)) fun os hos => ?_
      have := fin (none :: os) (.cons ho hos)
      simpa [List.filterMap_cons] using this
/-- a comprehension of every item's own value -/
theorem compL_map {m : Bool} {Sty : Mst → Prop} {g : DTG} {tt : DTT} {te : DTE} {ix : List Nat} {a : Addr} {p : Rho} {Q : DK} {M : Mst} (hm : M a = none) (f : D → Option D) (hS : ∀ acc, Sty (put M a (.lst acc)))
    {ds : List D} (hl : ds.length ≤ 100000)
    (step : ∀ d ∈ ds, ∀ (acc : List D) (R : Option D → Mst → Prop), R (f d) (put M a (.lst acc)) → g d DW0 (wipeD p ix) (put M a (.lst acc)) fun p2 M2 => tt DW0 p2 M2 fun b M3 => if b = true then te DW0 p2 M3 fun y M4 => R (some y) M4 else R none M3)
    (fin : if m = true then Q (.ref a) (put M a (.lst (ds.filterMap f))) else Q (.lst (ds.filterMap f)) M) : compL m Sty g tt te ix a p Q ds (put M a (.lst [])) := by
  refine compL_rel hm (fun d o => o = f d) hS ds [] (by simpa using hl) (fun d hd acc R h => step d hd acc R (h _ rfl)) fun os hos => ?_
  rw [hos.eq_map]
  have e : (ds.map f).filterMap id = ds.filterMap f := by rw [List.filterMap_map]; rfl
  simpa [e] using fin
theorem loopL_inv {Sty : Mst → Prop} {g : DTG} {tb : DTS} {DW : DWt} {DE : DEnds} (I : Nat → Rho → Mst → Prop) {ds : List D} {n : Nat} (hn : n = ds.length)
    (step : ∀ i d p M (R : Rho → Mst → Prop), ds[i]? = some d → I i p M → (∀ p' M', I (i + 1) p' M' → R p' M') → Sty M ∧ g d DW p M fun p' M' => tb DW { DE with nx := R, ct := R, bk := DE.nx } p' M')
    (fin : ∀ p M, I n p M → Sty M ∧ DE.nx p M) {p : Rho} {M : Mst} (h : I 0 p M) : loopL Sty g tb DW DE ds p M := by
  have main : ∀ k i p M, i + k = ds.length → I i p M → loopL Sty g tb DW DE (ds.drop i) p M := by
    intro k
    induction k with
    | zero =>
      intro i p M e h
      have e' : i = ds.length := by omega
      subst e'
      rw [List.drop_length]
      exact fin p M (by rw [hn]; exact h)
    | succ k ih =>
      intro i p M e h
      have hi : i < ds.length := by omega
      rw [List.drop_eq_getElem_cons hi]
      exact step i ds[i] p M _ (List.getElem?_eq_getElem hi) h fun p' M' h' => ih (i + 1) p' M' (by omega) h'
  simpa using main ds.length 0 p M (by omega) h
theorem while_inv {qc : DTT} {tb : DTS} {DW : DWt} {DE : DEnds} (I : Nat → Rho → Mst → Prop)
    (step : ∀ n p M (R : Rho → Mst → Prop), I n p M → (∀ n' p' M', n' < n → I n' p' M' → R p' M') → qc DW p M fun b M1 => if b = true then tb DW { DE with nx := R, ct := R, bk := DE.nx } p M1 else DE.nx p M1)
    {n : Nat} {p : Rho} {M : Mst} (h : I n p M) : qWhile qc tb DW DE p M := by
  have main : ∀ N n p M, n < N → I n p M → whileL qc tb DW DE N p M := by
    intro N
    induction N with
    | zero => intro n p M h; omega
    | succ N ih =>
      intro n p M h hI
      exact step n p M _ hI fun n' p' M' hn h' => ih n' p' M' (by omega) h'
  exact ⟨n + 1, main (n + 1) n p M (by omega) h⟩
theorem isDataL_all : ∀ ds : List D, isDataL ds = ds.all isData
  | [] => rfl
  | d :: ds => by simp [isDataL, isDataL_all ds]
theorem deq_int (i j : Int) : deq (.int i) (.int j) = decide (i = j) := by
  unfold deq; simp only [pyd, PyData.eqv]
  exact Bool.beq_eq_decide_eq _ _
theorem eq_int {neg : Bool} {i j : Int} {M : Mst} {Q : DK} : dEq neg (.int i) (.int j) M Q = Q (.bl (xor neg (decide (i = j)))) M := by
  unfold dEq
  rw [res_int, res_int, deq_int]
  have h1 : isData (.int i) = true := rfl
  have h2 : isData (.int j) = true := rfl
  have h3 : min (dep (.int i)) (dep (.int j)) ≤ 64 := by simp [dep, pyd, PyData.depth]
  simp [h1, h2, h3]
theorem res_r {M : Mst} {a : Addr} {ds : List D} (h : M a = some (.lst ds)) : res M (.ref a) = .lst ds := by simp [res, h]
theorem cut_to {α : Type} (xs : List α) (k : Nat) : cutX xs none (some (k : Int)) = xs.take k := by
  unfold cutX
  rw [HT.sIx_nat, HT.sIx_none, Nat.sub_zero, List.drop_zero]
  rcases Nat.le_total k xs.length with h | h
  · rw [Nat.min_eq_left h]
  · rw [Nat.min_eq_right h, List.take_length, List.take_of_length_le h]
theorem any_ints (i : Int) (ns : List Int) : ((ns.map D.int).any fun e => deq e (.int i)) = decide (i ∈ ns) := by
  induction ns with
  | nil => rfl
  | cons n ns ih =>
    rw [List.map_cons, List.any_cons, ih, deq_int, ← Bool.decide_or]
    apply decide_eq_decide.mpr
    simp [eq_comm]
theorem flat_ints (ns : List Int) : (ns.map D.int).all flatD = true := List.all_eq_true.mpr fun x hx => by
  obtain ⟨n, _, rfl⟩ := List.mem_map.mp hx; rfl
theorem in_ints {neg : Bool} {i : Int} {ns : List Int} {M : Mst} {Q : DK} : dIn neg (.int i) (.lst (ns.map D.int)) M Q = Q (.bl (xor neg (decide (i ∈ ns)))) M := by
  unfold dIn
  simp only [dgetD, res_lst, any_ints, flat_ints]
  simp [flatD]
end DL
namespace DL
open PySem L2
section
variable {X : Cx}
theorem pairs_vals {pins : List (Addr × Obj)} {σ : L2.St} {H : Hp} {s : Shared} (I : Inv X pins σ H s) : ∀ {ps : List Addr} {kvs : List (Key × V)}, Paired (fun p kv => SqT X.K H p [kV kv.1, kv.2]) ps kvs →
    ∃ (prs : List (Key × Value)) (vps : List (Value × Value)), KV kvs prs ∧ prs.length = ps.length ∧ vps.length = ps.length ∧
      (∀ (j : Nat) (k v : Value), vps[j]? = some (k, v) → ∃ (b : Addr) (q : Key), ps[j]? = some b ∧ s.heap.IsTuple b #[k, v] ∧ prs[j]? = some (q, v) ∧ keyIs q k = true)
  | _, _, .nil => ⟨[], [], .nil, rfl, rfl, fun j k v e => by simp at e⟩
  | _, _, .cons (a := p) (b := kv) h t => by
    obtain ⟨prs, vps, r, hl, hl2, hp⟩ := pairs_vals I t
    obtain ⟨its, rv, ht, _⟩ := I.tuple h
    obtain ⟨u, y, ei, ru, ry⟩ := vals2 rv
    subst ei
    refine ⟨(kv.1, y) :: prs, (u, y) :: vps, .cons ⟨rfl, ry⟩ r, by simp [hl], by simp [hl2], fun j k v e => ?_⟩
    cases j with
    | zero =>
      have e' : (u, y) = (k, v) := Option.some.inj e
      cases e'
      exact ⟨p, kv.1, rfl, ht, rfl, kV_is (P := X.prog) (w := X.w) ru⟩
    | succ j =>
      obtain ⟨b, q, e1, e2, e3, e4⟩ := hp j k v (by simpa using e)
      exact ⟨b, q, by simpa using e1, e2, by simpa using e3, e4⟩
end
def pairsD : List D → Option (List (Key × D))
  | [] => some []
  | .tup [k, v] :: ds => match keyD k, pairsD ds with
    | some k, some r => some ((k, v) :: r)
    | _, _ => none
  | _ :: _ => none
def putAllD (kvs : List (Key × D)) (more : List (Key × D)) : List (Key × D) := more.foldl (fun acc q => putD acc q.1 q.2) kvs
theorem pairsD_of {K : PySem.W.Frag} {G H : Hp} (e : Same G H) : ∀ {ds : List D} {vs : List V} {more : List (Key × D)}, RepL K G ds vs → pairsD ds = some more →
    ∃ (ps : List Addr) (mv : List (Key × V)), vs = ps.map V.ref ∧ Paired (fun p kv => SqT K H p [kV kv.1, kv.2]) ps mv ∧ mv.map (·.1) = more.map (·.1) ∧ RepL K G (more.map (·.2)) (mv.map (·.2)) ∧ ∀ q ∈ more, kOk q.1
  | [], _, more, r, h => by
    cases r; cases h
    exact ⟨[], [], rfl, .nil, rfl, rfl, fun _ h => (by cases h)⟩
  | d :: ds, _, more, ⟨v, vs, e1, r1, r2⟩, h => by
    cases d with
    | tup xs =>
      match xs with
      | [k, x] =>
        simp only [pairsD] at h
        split at h
        · next k' r' hk hr =>
          cases h
          obtain ⟨ps, mv, q1, q2, q3, q4, q5⟩ := pairsD_of e r2 hr
          obtain ⟨a, us, rfl, g1, g2, g3⟩ := r1
          obtain ⟨u, y, rfl, ru, ry⟩ := repL2 g2
          have eu := keyD_of ru hk
          subst eu
          exact ⟨a :: ps, (k', y) :: mv, by rw [e1, q1]; rfl, .cons (.inl (.inl (e _ _ g1))) q2, by simp [q3], RepL.cons ry q4, fun q hq => by
            rcases List.mem_cons.mp hq with rfl | hq
            · exact kOk_of ru hk
            · exact q5 q hq⟩
        · cases h
      | [] => cases h
      | [_] => cases h
      | _ :: _ :: _ :: _ => cases h
    | _ => cases h
theorem putAll_rel {K : PySem.W.Frag} {G : Hp} : ∀ {more : List (Key × D)} {mv : List (Key × V)} {kvs : List (Key × D)} {kv : List (Key × V)}, mv.map (·.1) = more.map (·.1) → RepL K G (more.map (·.2)) (mv.map (·.2)) →
    kv.map (·.1) = kvs.map (·.1) → RepL K G (kvs.map (·.2)) (kv.map (·.2)) → (mergeK kv mv).map (·.1) = (putAllD kvs more).map (·.1) ∧ RepL K G ((putAllD kvs more).map (·.2)) ((mergeK kv mv).map (·.2))
  | [], mv, kvs, kv, h1, r1, h2, r2 => by
    cases mv with
    | nil => exact ⟨h2, r2⟩
    | cons _ _ => cases h1
  | q :: more, mv, kvs, kv, h1, r1, h2, r2 => by
    cases mv with
    | nil => cases h1
    | cons p mv =>
      simp only [List.map_cons, List.cons.injEq] at h1
      obtain ⟨v, r', e, h3, h4⟩ := r1
      simp only [List.map_cons, List.cons.injEq] at e
      obtain ⟨rfl, rfl⟩ := e
      obtain ⟨z1, z2, _⟩ := put_rel (k := q.1) h2 r2 h3
      have e0 : mergeK kv (p :: mv) = mergeK (putK kv q.1 p.2) mv := by rw [← h1.1]; rfl
      rw [e0]
      exact putAll_rel (more := more) (kvs := putD kvs q.1 q.2) h1.2 h4 z1 z2
theorem putAll_keys {P : Key → Prop} : ∀ {more kvs : List (Key × D)}, (∀ q ∈ kvs, P q.1) → (∀ q ∈ more, P q.1) → ∀ q ∈ putAllD kvs more, P q.1
  | [], kvs, h, _ => h
  | q :: more, kvs, h, g => putAll_keys (more := more) (kvs := putD kvs q.1 q.2) (putD_keys h (g q (List.mem_cons_self ..))) fun x hx => g x (List.mem_cons_of_mem _ hx)
structure QK (X : Cx) (W : WX) (kws : List Keyword) (t : TA) (q : DTA) : Prop where
  pe : PK X kws t
  rf : RefA X.K W t q
def pickL {α : Type} (idx : List Nat) (l : List α) : List α := idx.filterMap (l[·]?)
theorem pick_vals {vs : List V} {us : List Value} (r : Vals vs us) : ∀ idx : List Nat, Vals (pickL idx vs) (pickL idx us)
  | [] => .nil
  | i :: idx => by
    have ih := pick_vals r idx
    unfold pickL at ih ⊢
    rw [List.filterMap_cons, List.filterMap_cons]
    have : (vs[i]? = none ∧ us[i]? = none) ∨ ∃ v u, vs[i]? = some v ∧ us[i]? = some u ∧ RelV v u := by
      clear ih
      induction r generalizing i with
      | nil => exact .inl ⟨rfl, rfl⟩
      | cons h _ ih =>
        cases i with
        | zero => exact .inr ⟨_, _, rfl, rfl, h⟩
        | succ i => simpa using ih i
    rcases this with ⟨e1, e2⟩ | ⟨v, u, e1, e2, e3⟩
    · rw [e1, e2]; exact ih
    · rw [e1, e2]; exact .cons e3 ih
theorem pick_rep {K : PySem.W.Frag} {G : Hp} {ds : List D} {vs : List V} (r : RepL K G ds vs) : ∀ idx : List Nat, RepL K G (pickL idx ds) (pickL idx vs)
  | [] => rfl
  | i :: idx => by
    have ih := pick_rep r idx
    unfold pickL at ih ⊢
    rw [List.filterMap_cons, List.filterMap_cons]
    cases e : ds[i]? with
    | some d =>
      obtain ⟨v, e1, e2⟩ := r.get e
      rw [e1]; exact RepL.cons e2 ih
    | none =>
      cases e1 : vs[i]? with
      | none => exact ih
      | some v => obtain ⟨d, e2, _⟩ := r.getV e1; rw [e] at e2; cases e2
section
variable {X : Cx} {W : WX} {k : Nat} {f : Addr} {fd : FuncData} {ps ks : List Str} {P : DSp} {x : Str} {p pos kpos : Pos} {e : Expr} {es : List Expr} {kws : List Keyword} {te : TE} {qe : DTE} {t tk : TA} {q qk : DTA} {nm : Option Str} {n : Nat} {idx : List Nat}
theorem qk_nil : QK X W [] tNil qNil := ⟨pk_nil, fun DW G H p M s Q Q' hw S q k => k G H M [] [] (Same.refl _) S rfl q⟩
theorem qk_cons (ha : QE X W e te qe) (hr : QK X W kws t q) : QK X W (⟨nm, e, kpos⟩ :: kws) (tCons te t) (qCons qe q) :=
  ⟨pk_cons ha.pe hr.pe, fun DW G H p M s Q Q' hw S h k => ha.rf DW G H p M s _ _ hw S h fun G1 H1 M1 d v e1 S1 r1 h1 =>
    hr.rf DW G1 H1 p M1 s _ _ (hw.mono e1) S1 h1 fun G2 H2 M2 ds vs e2 S2 r2 h2 => k G2 H2 M2 _ _ (e1.trans e2) S2 (RepL.cons (Rep.mono e2 _ _ r1) r2) h2⟩
/-- how a call with n values and the keywords ks binds: the parameters' values by their places -/
def KwB (K : PySem.W.Frag) (fd : FuncData) (ps : List Str) (n : Nat) (ks : List Str) (idx : List Nat) : Prop :=
  ∀ (s : Shared) (us ws : List Value), K.In s.heap → us.length = n → ws.length = ks.length → BindsTo s fd ⟨us, ks.zip ws⟩ (ps.zip (pickL idx (us ++ ws)))
theorem run_kw {sp : Sp} {E : L2.St → XK} {CX : CXT} {pins : List (Addr × Obj)} {σ : L2.St} {H : Hp} {s : Shared} {Q : VK} {us ws : List Value} {vs zs : List V} (F : FnOk X.prog X.w X.K X.mg X.base CX k f fd ps sp) (hr : Room k X.A) (hb : KwB X.K fd ps n ks idx) (hx : PassesAt CX X σ (E σ))
    (I : Inv X pins σ H s) (r : Vals vs us) (rz : Vals zs ws) (l1 : vs.length = n) (l2 : zs.length = ks.length) (h : sp (pickL idx (vs ++ zs)) H Q (E σ)) : wpAny (model X.prog X.w) X.A (call (.ref f) us (ks.zip ws)) (EP X pins σ Q) X.xe s := by
  have r2 := pick_vals (r.append rz) idx
  refine wpAny_call (codeAny_mono (F.run X.A X.stack s H ⟨us, ks.zip ws⟩ _ _ Q (E σ) hr I.env0 (hb s us ws I.kIn (r.length.symm.trans l1) (rz.length.symm.trans l2)) r2 h) fun r s' hq => ?_)
  cases r with
  | error e => exact hx pins H s e s' I hq
  | ok fl =>
    cases fl with
    | ret u => exact I.after hq
    | next => exact False.elim hq
    | brk => exact False.elim hq
    | cont => exact False.elim hq
end
end DL
namespace DL
open PySem L2
mutual
theorem deq_refl : ∀ d : D, isData d = true → deq d d = true
  | .non, _ => by simp [deq, pyd, PyData.eqv]
  | .bl b, _ => by simp [deq, pyd, PyData.eqv]
  | .int i, _ => by simp [deq, pyd, PyData.eqv]
  | .str x, _ => by simp [deq, pyd, PyData.eqv]
  | .tup ds, h => by have := deqL_refl ds h; simpa [deq, deqL, pyd, PyData.eqv] using this
  | .ktp ds, h => by have := deqL_refl ds h; simpa [deq, deqL, pyd, PyData.eqv] using this
  | .xtp ds, h => by have := deqL_refl ds h; simpa [deq, deqL, pyd, PyData.eqv] using this
  | .lst ds, h => by have := deqL_refl ds h; simpa [deq, deqL, pyd, PyData.eqv] using this
  | .scr _, h => by cases h
  | .ty _, h => by cases h
  | .ref _, h => by cases h
  | .dct _ _, h => by cases h
  | .ins _ _ _, h => by cases h
  | .exc _ _ _ _, h => by cases h
  | .fnv _ _ _ _ _, h => by cases h
  | .fno _ _ _ _, h => by cases h
theorem deqL_refl : ∀ ds : List D, isDataL ds = true → deqL ds ds = true
  | [], _ => by simp [deqL, pydL, PyData.eqvAll]
  | d :: ds, h => by
    have h' : isData d = true ∧ isDataL ds = true := by simpa [isDataL] using h
    have h1 := deq_refl d h'.1
    have h2 := deqL_refl ds h'.2
    simp only [deq, deqL, pydL, PyData.eqvAll] at h1 h2 ⊢
    rw [h1, h2]; rfl
end
theorem deq_str (x y : Str) : deq (.str x) (.str y) = decide (x = y) := by
  unfold deq; simp only [pyd, PyData.eqv]; exact Bool.beq_eq_decide_eq _ _
theorem deq_bl (x y : Bool) : deq (.bl x) (.bl y) = decide (x = y) := by
  unfold deq; simp only [pyd, PyData.eqv]; exact Bool.beq_eq_decide_eq _ _
theorem depA_le {n : Nat} : ∀ ds : List D, (∀ d ∈ ds, dep d ≤ n) → PyData.depthAll (pydL ds) ≤ n
  | [], _ => by simp [pydL, PyData.depthAll]
  | d :: ds, h => by
    have h1 := h d (List.mem_cons_self ..)
    have h2 := depA_le ds fun x hx => h x (List.mem_cons_of_mem _ hx)
    unfold dep at h1
    simp only [pydL, PyData.depthAll]
    omega
theorem dep_lst {n : Nat} {ds : List D} (h : ∀ d ∈ ds, dep d ≤ n) : dep (.lst ds) ≤ n + 1 := by
  have := depA_le ds h
  simp only [dep, pyd, PyData.depth]; omega
/-- == of what is the same -/
theorem eq_same {neg : Bool} {x y d : D} {M : Mst} {Q : DK} (hx : res M x = d) (hy : res M y = d) (h : isData d = true) (hd : dep d ≤ 64) : dEq neg x y M Q = Q (.bl (!neg)) M := by
  unfold dEq
  rw [hx, hy, deq_refl d h]
  have h3 : min (dep d) (dep d) ≤ 64 := Nat.le_trans (Nat.min_le_left _ _) hd
  simp only [h, h3, Bool.xor_true, true_and]
theorem eq_str {neg : Bool} {x y : Str} {M : Mst} {Q : DK} : dEq neg (.str x) (.str y) M Q = Q (.bl (xor neg (decide (x = y)))) M := by
  unfold dEq
  rw [res_str, res_str, deq_str]
  have h1 : isData (.str x) = true := rfl
  have h2 : isData (.str y) = true := rfl
  have h3 : min (dep (.str x)) (dep (.str y)) ≤ 64 := by simp [dep, pyd, PyData.depth]
  simp [h1, h2, h3]
/-- isinstance(x, T) -/
theorem isi_one {x : D} {T : String} {b : Bool} {M : Mst} {Q : DK} (h : hasTy (res M x) = true) (hb : isiB (tyD (res M x)) T = some b) : dIsi [x, .ty T] M Q = Q (.bl b) M := by
  unfold dIsi; simp only [h, hb, true_and]
theorem ll : isiB "list" "list" = some true := by decide +kernel
theorem tl : isiB "tuple" "list" = some false := by decide +kernel
/-- all(list of truths) -/
theorem all_bls {bs : List Bool} {M : Mst} {Q : DK} : dAll [.lst (bs.map D.bl)] M Q = Q (.bl (bs.all id)) M := by
  have h : blsD (bs.map D.bl) = some bs := by
    have := blsD_map (id : Bool → Bool) bs
    simpa using this
  unfold dAll
  simp only [res_lst, h]
end DL
namespace DL
open PySem L2
def okS (z : Str) : Prop := z.length ≤ 100000 ∧ PyData.strOk z = true
theorem okS_rep {K : PySem.W.Frag} {G : Hp} {z : Str} (h : okS z) : Rep K G (.str z) (.str z) := ⟨rfl, sz1000 h.1, h.2⟩
theorem hz24 : sizeLine = 16777216 := by rw [sizeLine_eq]
theorem MtR.imp {X : Cx} {id : String} {r r' : V → List V → Hp → VK → Prop} (h : MtR X id r) (i : ∀ x xs H Q, r' x xs H Q → r x xs H Q) : MtR X id r' := fun pins s σ H x xs v us Q I rx rs q => h pins s σ H x xs v us Q I rx rs (i _ _ _ _ q)
def strsD : List D → Option (List Str)
  | [] => some []
  | .str x :: ds => (strsD ds).map (x :: ·)
  | _ :: _ => none
@[simp] theorem strsD_map : ∀ ys : List Str, strsD (ys.map D.str) = some ys
  | [] => rfl
  | y :: ys => by simp [strsD, strsD_map ys]
theorem strsD_of {K : PySem.W.Frag} {G : Hp} : ∀ {ds : List D} {vs : List V} {ys : List Str}, RepL K G ds vs → strsD ds = some ys → vs = ys.map V.str
  | [], _, _, r, h => by cases r; cases h; rfl
  | d :: ds, _, ys, ⟨v, r, e1, r1, r2⟩, h => by
    cases d with
    | str x =>
      simp only [strsD, Option.map_eq_some_iff] at h
      obtain ⟨zs, h1, rfl⟩ := h
      obtain ⟨rfl, _⟩ := r1
      rw [e1, strsD_of r2 h1]; rfl
    | _ => cases h
def rJoin (K : PySem.W.Frag) : V → List V → Hp → VK → Prop := fun x xs H Q => ∃ a p, ∃ ys : List Str, x = .str a ∧ xs = [.ref p] ∧ SqL K H p (ys.map V.str) ∧ (ys.map (·.length)).sum + ys.length * a.length ≤ 100000 ∧ Q (.str (Txt.join a ys)) H
/-- sep.join(a list of texts) -/
def mJoin : DMt := fun x ds M Q => match res M x, ds with
  | .str z, [d] => match res M d with
    | .lst es => match strsD es with
      | some ys => (ys.map (·.length)).sum + ys.length * z.length ≤ 100000 ∧ okS (Txt.join z ys) ∧ Q (.str (Txt.join z ys)) M
      | none => False
    | _ => False
  | _, _ => False
theorem m_join {X : Cx} : QMt X "str.join" (rJoin X.K) mJoin := ⟨MtR.imp mt_join fun x xs H Q ⟨a, p, ys, e1, e2, e3, e4, q⟩ => ⟨a, p, ys, e1, e2, .inl e3, by omega, q⟩, fun G H p M s x v ds vs Q Q' S r1 r2 h k => by
  unfold mJoin at h
  split at h
  · next z d e =>
    obtain ⟨rfl, _, _⟩ := as_str r1 e
    obtain ⟨u, rfl, r3⟩ := repL1 r2
    split at h
    · next es ed =>
      obtain ⟨a, vs, rfl, h1, h2, _⟩ := as_lst S r3 ed
      split at h
      · next ys ey =>
        have ev := strsD_of h2 ey
        subst ev
        obtain ⟨g1, g2, g3⟩ := h
        exact ⟨z, a, ys, rfl, rfl, .inl (.inl h1), g1, k G H M (.str (Txt.join z ys)) _ (Same.refl _) S (okS_rep g2) g3⟩
      · exact h.elim
    · exact h.elim
  · exact h.elim⟩
def repS (z : Str) (n : Int) : Str := ⟨(List.replicate n.toNat z.cps).foldl (· ++ ·) #[]⟩
def rMulS : R2 := fun x y H Q => ∃ (z : Str) (n : Int), x = .str z ∧ y = .int n ∧ -(2 ^ 62) ≤ n ∧ n ≤ 100000 ∧ z.length * n.toNat ≤ 100000 ∧ Q (.str (repS z n)) H
theorem fold_size (a : Array Nat) : ∀ (k : Nat) (acc : Array Nat), ((List.replicate k a).foldl (· ++ ·) acc).size = acc.size + k * a.size
  | 0, acc => by simp
  | k + 1, acc => by
    rw [List.replicate_succ, List.foldl_cons, fold_size a k, Array.size_append, Nat.succ_mul]; omega
theorem op_mulS {X : Cx} : OpR X (binaryOp .Mult) rMulS := by
  intro pins s σ H x y v u Q I rx ry h
  obtain ⟨z, n, rfl, rfl, h1, h2, h3, q⟩ := h
  obtain ⟨t, rfl⟩ := rx
  obtain ⟨t2, rfl⟩ := ry
  have hz := hz24
  refine P.mul_str ?_ (fun a1 a2 => ?_) (fun a1 a2 => ?_) ?_
  · have e1 : ¬ n < -(2 ^ 63 : Int) := by omega
    have e2 : ¬ n ≥ 2 ^ 63 := by omega
    rw [decide_eq_false e1, decide_eq_false e2]; rfl
  · intro z1
    have e : (2 ^ 63 - 1 : Int) / n ≥ (z.length : Int) := by
      refine Int.le_ediv_of_mul_le (by omega) ?_
      have e3 : ((z.length * n.toNat : Nat) : Int) ≤ 100000 := Int.ofNat_le.mpr h3
      have e4 : ((n.toNat : Nat) : Int) = n := by omega
      rw [Int.natCast_mul, e4] at e3
      omega
    omega
  · unfold Builtin.Str.tooLong
    exact decide_eq_false (by rw [hz]; omega)
  · split
    · next hn =>
      have e : n.toNat = 0 := by omega
      have e2 : repS z n = Str.empty := by unfold repS; rw [e]; rfl
      exact ⟨by decide, .str (repS z n), H, I.tok _, ⟨s.toks, by rw [e2]⟩, q⟩
    · split
      · next hn hz =>
        refine ⟨.str (repS z n), H, I, ⟨t, ?_⟩, q⟩
        have e : repS z n = z := by
          rw [Bool.or_eq_true] at hz
          rcases hz with hz | hz
          · have e1 : n = 1 := by simpa using hz
            subst e1
            show (⟨#[] ++ z.cps⟩ : Str) = z
            simp
          · have e1 : z.cps.size = 0 := by
              have e0 : z.length = 0 := by simpa using hz
              exact e0
            have e2 : z.cps = #[] := Array.eq_empty_of_size_eq_zero e1
            have e3 : z = ⟨#[]⟩ := by cases z; simp at e2; rw [e2]
            rw [e3]; unfold repS
            generalize n.toNat = k
            have : ∀ k : Nat, (List.replicate k (#[] : Array Nat)).foldl (· ++ ·) #[] = #[] := fun k => by
              induction k with
              | zero => rfl
              | succ k ih => rw [List.replicate_succ, List.foldl_cons]; simpa using ih
            rw [this]
        rw [e]
      · exact ⟨by
          show (repS z n).length ≤ sizeLine
          have e : (repS z n).length = 0 + n.toNat * z.cps.size := fold_size z.cps n.toNat #[]
          have e2 : z.length = z.cps.size := rfl
          rw [e, hz, Nat.mul_comm, ← e2]; omega, .str (repS z n), H, I.tok _, ⟨_, rfl⟩, q⟩
def dMul (m : Bool) : DOp := fun x y M Q => match res M x, y with
  | .int i, .int j => CMul i j ∧ Q (.int (i * j)) M
  | .str z, .int n => -(2 ^ 62) ≤ n ∧ n ≤ 100000 ∧ z.length * n.toNat ≤ 100000 ∧ PyData.strOk (repS z n) = true ∧ Q (.str (repS z n)) M
  | .lst ds, .int n => -(2 ^ 62) ≤ n ∧ n ≤ 100000 ∧ ds.length * n.toNat ≤ 100000 ∧ newL m (List.replicate n.toNat ds).flatten M Q
  | _, _ => False
theorem repL_rep {K : PySem.W.Frag} {G : Hp} {ds : List D} {vs : List V} (r : RepL K G ds vs) : ∀ n : Nat, RepL K G (List.replicate n ds).flatten (List.replicate n vs).flatten
  | 0 => rfl
  | n + 1 => by rw [List.replicate_succ, List.replicate_succ, List.flatten_cons, List.flatten_cons]; exact RepL.append r (repL_rep r n)
theorem rep_flat_len {α : Type} (l : List α) : ∀ n : Nat, (List.replicate n l).flatten.length = l.length * n
  | 0 => rfl
  | n + 1 => by rw [List.replicate_succ, List.flatten_cons, List.length_append, rep_flat_len l n, Nat.mul_succ]; omega
def rMulX : R2 := fun x y H Q => rI CMul (fun i j => .int (i * j)) x y H Q ∨ rMulS x y H Q ∨ rRep x y H Q
theorem o_mul {X : Cx} (m : Bool) : QOp X (binaryOp .Mult) rMulX (dMul m) := ⟨OpR.or op_mul (OpR.or op_mulS op_rep), fun G H p M s x y v u Q Q' S r1 r2 h k => by
  unfold dMul at h
  split at h
  · next i j e =>
    cases as_int r1 e
    cases r2
    exact .inl ⟨i, j, rfl, rfl, h.1, k G H M (.int (i * j)) _ (Same.refl _) S rfl h.2⟩
  · next z n e =>
    obtain ⟨rfl, _, _⟩ := as_str r1 e
    cases r2
    obtain ⟨h1, h2, h3, h4, h5⟩ := h
    refine .inr (.inl ⟨z, n, rfl, rfl, h1, h2, h3, k G H M (.str (repS z n)) _ (Same.refl _) S (okS_rep ⟨?_, h4⟩) h5⟩)
    have e : (repS z n).length = 0 + n.toNat * z.cps.size := fold_size z.cps n.toNat #[]
    have e2 : z.length = z.cps.size := rfl
    rw [e, Nat.mul_comm, ← e2]; omega
  · next ds n e =>
    obtain ⟨a, vs, rfl, g1, g2, g3⟩ := as_lst S r1 e
    cases r2
    obtain ⟨h1, h2, h3, h4⟩ := h
    have hz := hz24
    have l1 := g2.length
    refine .inr (.inr ⟨a, n, vs, rfl, rfl, g1, by omega, by omega, by rw [l1]; omega, fun q hq => newL_ok S hq (repL_rep g2 _) ?_ h4 k⟩)
    rw [rep_flat_len, l1]; omega
  · exact h.elim⟩
/-- int(x) of a number, a truth, a text -/
def dIntX : DCa := fun ds M Q => match ds with
  | [x] => match res M x with
    | .int i => Q (.int i) M
    | .bl b => Q (.int (if b then 1 else 0)) M
    | .str z => match intText? z with
      | some n => z.length ≤ 640 ∧ Q (.int n) M
      | none => False
    | _ => False
  | _ => False
theorem c_intX {X : Cx} : QCa X (.type "int") (fun xs H Q => ((∃ i, xs = [.int i] ∧ Q (.int i) H) ∨ ∃ k, xs = [.bl k] ∧ Q (.int (if k then 1 else 0)) H) ∨ ∃ a n, xs = [.str a] ∧ PySem.intText? a = some n ∧ a.length ≤ 640 ∧ Q (.int n) H) dIntX :=
  ⟨CallR.or call_int1 call_int_str, fun G H p M s ds vs Q Q' S r h k => by
  unfold dIntX at h
  split at h
  · next x =>
    obtain ⟨v, rfl, r1⟩ := repL1 r
    split at h
    · next i e =>
      cases as_int r1 e
      exact .inl (.inl ⟨i, rfl, k G H M (.int i) _ (Same.refl _) S rfl h⟩)
    · next b e =>
      cases as_bl r1 e
      exact .inl (.inr ⟨b, rfl, k G H M (.int (if b then 1 else 0)) _ (Same.refl _) S rfl h⟩)
    · next z e =>
      obtain ⟨rfl, _, _⟩ := as_str r1 e
      split at h
      · next n en => exact .inr ⟨z, n, rfl, en, h.1, k G H M (.int n) _ (Same.refl _) S rfl h.2⟩
      · exact h.elim
    · exact h.elim
  · exact h.elim⟩
end DL
namespace DL
open PySem L2 PySem.NumText PySem.Calls
structure GlS (mg : Str → Option Value) (x z : Str) : Prop where
  ex : ∃ t, mg x = some (.str z t)
structure GlI (mg : Str → Option Value) (x : Str) (i : Int) : Prop where
  ex : ∃ t, mg x = some (.int i t)
section
variable {X : Cx} {W : WX} {pos : Pos}
theorem q_globS {x z : Str} (hg : Gl X x) (h : GlS X.mg x z) (hz : (decide (z.length ≤ 100000) && PyData.strOk z) = true := by decide +kernel) (hd : (x == ("__debug__" : Str)) = false := by decide) : QE X W (.Name x pos) (tC (.str z)) (qC (.str z)) := by
  obtain ⟨t, h⟩ := h.ex
  rw [Bool.and_eq_true] at hz
  exact q_glob hg h ⟨t, rfl⟩ (fun _ => ⟨rfl, sz1000 (of_decide_eq_true hz.1), hz.2⟩) hd
theorem q_globI {x : Str} {i : Int} (hg : Gl X x) (h : GlI X.mg x i) (hd : (x == ("__debug__" : Str)) = false := by decide) : QE X W (.Name x pos) (tC (.int i)) (qC (.int i)) := by
  obtain ⟨t, h⟩ := h.ex
  exact q_glob hg h ⟨t, rfl⟩ (fun _ => rfl) hd
end
end DL
namespace DL
open PySem L2
end DL
namespace Tx20
open PySem L2 DL PyProof.Rows
def Asc (x : Str) : Prop := ∀ c ∈ x.cps.toList, c < 128
theorem ok_asc {x : Str} (h : Asc x) (hl : x.length ≤ 100000) : okS x := ⟨hl, by
  unfold PyData.strOk
  rw [← Array.all_toList, List.all_eq_true]
  intro c hc
  have := h c hc
  exact decide_eq_true (by omega)⟩
/-- x read up to here: the words done, the word begun -/
structure St (x : Str) (done : List Str) (cur : Str) : Prop where
  asc : Asc x
  at_ : KWd.scan (Txt.lower x) = (done, cur)
end Tx20
set_option maxHeartbeats 4000000
namespace DL
open PySem PySem.Spec PyProof.Rows L2
/-- a built-in exception class B over which own ones stand -/
def IniX (n i : String) (tl : List Value) : Prop := ∀ {prog : Program} {w : World} {A : Around} {R : Result → Shared → Prop} {h : Heap} {g : Array GenState} {d : Drawn} {t : Nat} {os : OsState} {nm q : Str} {C N : Addr} {bs bm : List Value} {hdct : Bool} {sn : List Str} {sub : List Value} {ab : Bool} {col : Option Bool} {dd : Option Addr} {k0 k1 k2 k3 k5 : Option Value} {e t0 : Addr} {rest : List Value},
  (∀ Y : String, bm.contains (.type Y) = tl.contains (.type Y)) → h.get? C = some (excClassObj nm q C N bs bm hdct sn sub ab col dd k0 k1 k2 k3 k5 n) → h.get? e = some (HandSPX.excO C t0) → rest.length ≤ sizeLine →
  (∀ h' t1, (∀ b o, b ≠ e → h.get? b = some o → h'.get? b = some o) → h'.get? e = some (HandSPX.excO C t1) → R (.ok (.ret .none)) ⟨h', g, d, t, os⟩) → codeAny (model prog w) A (.call (.builtin i) ⟨.ref e :: rest, []⟩) R ⟨h, g, d, t, os⟩
def CalX (n : String) (tl : List Value) : Prop := ∀ {prog : Program} {w : World} {A : Around} {R : Result → Shared → Prop} {h : Heap} {g : Array GenState} {d : Drawn} {t : Nat} {os : OsState} {nm q : Str} {C N : Addr} {bs bm : List Value} {hdct : Bool} {sn : List Str} {sub : List Value} {ab : Bool} {col : Option Bool} {dd : Option Addr} {k0 k1 k2 k3 k5 : Option Value} {rest : List Value} {fI : Addr},
  (∀ Y : String, bm.contains (.type Y) = tl.contains (.type Y)) → h.get? C = some (excClassObj nm q C N bs bm hdct sn sub ab col dd k0 k1 k2 k3 k5 n) →
  PySem.W.Looks (model prog w) h (typeLookup (.ref C) "__init__") (some (.ref fI)) → (∀ self, PySem.W.Looks (model prog w) h (bindSpecial (.ref fI) self) (.ref fI, [self])) → rest.length ≤ sizeLine →
  codeAny (model prog w) (A.under (.builtin "type.__call__" ⟨.ref C :: rest, []⟩)) (.call (.ref fI) ⟨.ref (h.objs.size + 1) :: rest, []⟩) (PySem.W.InitBack (h.objs.size + 1) R) ⟨(h.push (PySem.W.kdv_tup rest)).push (HandSPX.excO C h.objs.size), g, d, t, os⟩ →
  codeAny (model prog w) A (.call (.ref C) ⟨rest, []⟩) R ⟨h, g, d, t, os⟩
structure BaseX (B n i : String) (tl : List Value) : Prop where
  ini : IniX n i tl
  cal : CalX n tl
  sf : StoreFacts B tl "object.__setattr__" "object"
  ty : typeOf (.type B) = pure (.type "type")
  nd : (Value.type B == Value.type "type") = false
theorem BaseX.of {B n i : String} {tl : List Value} (fb : ExcBaseFacts B n i tl) (sf : StoreFacts B tl "object.__setattr__" "object") (ty : typeOf (.type B) = pure (.type "type")) (nd : (Value.type B == Value.type "type") = false) : BaseX B n i tl :=
  { ini := fun hT hC he hz hq => HandSPX.init_base fb hT hC he hz hq, cal := fun hT hC li lb hz hq => HandSPX.call_own fb hT hC li lb hz hq, sf := sf, ty := ty, nd := nd }
/-- what the written part says of the own class at C, straight over it -/
structure XB (K : PySem.W.Frag) (C : Addr) (n : String) (tl : List Value) : Prop where
  cls : ∃ nm q N bs bm sn sub ab col dd k0 k1 k2 k3 k5, K.lookup C = some (excClassObj nm q C N bs bm true sn sub ab col dd k0 k1 k2 k3 k5 n) ∧ PySem.W.excTail tl bm = true
  sa : PySem.W.findIn K (.ref C) "__setattr__" = some (some (.builtin "object.__setattr__"))
  exC : PySem.W.subIn K (.ref C) (.type "BaseException") = some true
  tyC : PySem.W.typeIn K (.ref C) = some (.type "type")
  kC : PySem.W.keepIn K (.ref C) = true
theorem XB.over {K : PySem.W.Frag} {C : Addr} {n : String} {tl : List Value} (T : XB K C n tl) : PySem.W.excOver K C tl = true ∧ ∃ cd, PySem.W.clsIn K C = some cd ∧ cd.hasDict = true := by
  obtain ⟨nm, q, N, bs, bm, sn, sub, ab, col, dd, k0, k1, k2, k3, k5, hC, hbm⟩ := T.cls
  have hcl : PySem.W.clsIn K C = some { name := nm, bases := bs, mro := .ref C :: bm, ns := N, qualname := q, hasDict := true, slotNames := sn, subclasses := sub, abstract := ab, collection := col, hasDel := false } := by
    unfold PySem.W.clsIn; rw [hC] <;> rfl
  refine ⟨?_, _, hcl, rfl⟩
  unfold PySem.W.excOver
  rw [hcl]
  simp [Option.any, hbm]
theorem taker_none {K : PySem.W.Frag} {C : Addr} {f : Str} (h : PySem.W.findIn K (.ref C) f = some none) : PySem.W.takerIn K C f = some none := by
  unfold PySem.W.takerIn; rw [h]; rfl
abbrev exF (t1 : Addr) : Array Value := #[.ref t1, .none, .none, .none, .bool false, .none]
section
variable {prog : Program} {w : World} {A : Around} {R : Result → Shared → Prop} {hp : Heap} {g : Array GenState} {d : Drawn} {t : Nat} {os : OsState} {B n i : String} {tl : List Value} {K : PySem.W.Frag}
theorem first_store {f : Str} {tk : Tok} {v : Value} {x C : Addr} {fv : Array Value} (F : BaseX B n i tl) (T : XB K C n tl) (X : K.In hp) (hx : hp.get? x = some { cls := .ref C, data := .fields fv }) (hf : PySem.W.findIn K (.ref C) f = some none)
    (hq : ∀ h' tk' dx, (∀ b o, b ≠ x → hp.get? b = some o → h'.get? b = some o) → hp.objs.size ≤ dx → dx ≠ x → h'.get? x = some { cls := .ref C, dict := some dx, data := .fields fv } →
      h'.Ns1 dx (fun y => if y = f then some v else none) → R (.ok (.ret .none)) ⟨h', g, d, tk', os⟩) :
    codeAny (model prog w) A (.call (.builtin "object.__setattr__") ⟨[.ref x, .str f tk, v], []⟩) R ⟨hp, g, d, t, os⟩ := by
  obtain ⟨ov, cd, hcd, hdt⟩ := T.over
  have hxs : x ≠ hp.objs.size := Nat.ne_of_lt (Heap.lt_size hx)
  have L : PySem.W.Looks (model prog w) hp (classData C) cd := PySem.W.looks_clsIn X hcd
  refine PySem.W.osa_openX (s := ⟨hp, g, d, t, os⟩) (od := none) F.sf X ⟨hx, rfl, rfl, trivial⟩ ov (taker_none hf) fun b => ?_
  show wpAny _ _ (Builtin.ObjectAttr.storeInOwnDict (.ref x) (.ref C) (.str f tk) f v b) _ _ _
  obtain ⟨nm, bs, mro, ns, qn, hd, sn, sb, ab, col, dl⟩ := cd
  dsimp only at hdt
  subst hdt
  unfold Builtin.ObjectAttr.storeInOwnDict Builtin.ObjectAttr.ownDictForStores
  repeat (first | with_reducible refine HandSPX.store_in_new ?_ ?_ | with_reducible refine wpAny_loadPart_at hx ?_ | with_reducible refine L.at ?_ | wp_step)
  · exact ⟨_, #[], _, (Heap.get?_update_ne _ _ _ _ hxs.symm).trans (Heap.get?_push_at rfl rfl), rfl, fun e he => absurd he (by simp), fun _ => rfl⟩
  · intro h' tk' hn' hs
    have hx1 : (hp.push { cls := .type "dict", data := .dict #[] }).get? x = some { cls := .ref C, data := .fields fv } := Heap.get?_push_of_some _ hx
    refine hq h' tk' hp.objs.size (fun b o hb ho => ?_) (Nat.le_refl _) hxs.symm ((hs.2 x hxs).trans (Heap.get?_update_self _ hx1 rfl)) hn'
    exact (hs.2 b (Nat.ne_of_lt (Heap.lt_size ho))).trans ((Heap.get?_update_ne _ _ _ _ hb).trans (Heap.get?_push_of_some _ ho))
theorem next_store {f : Str} {tk : Tok} {v : Value} {x C dx : Addr} {fv : Array Value} {m0 : Str → Option Value} {nl : List Str} (F : BaseX B n i tl) (T : XB K C n tl) (X : K.In hp) (hx : hp.get? x = some { cls := .ref C, dict := some dx, data := .fields fv })
    (hns : hp.Ns1 dx m0) (hw : Within m0 nl) (hz : nl.length ≤ 1000) (hf : PySem.W.findIn K (.ref C) f = some none)
    (hq : ∀ h' tk', (∀ b o, b ≠ dx → hp.get? b = some o → h'.get? b = some o) → h'.Ns1 dx (fun y => if y = f then some v else m0 y) → R (.ok (.ret .none)) ⟨h', g, d, tk', os⟩) :
    codeAny (model prog w) A (.call (.builtin "object.__setattr__") ⟨[.ref x, .str f tk, v], []⟩) R ⟨hp, g, d, t, os⟩ := by
  obtain ⟨ov, cd, hcd, hdt⟩ := T.over
  have L : PySem.W.Looks (model prog w) hp (classData C) cd := PySem.W.looks_clsIn X hcd
  obtain ⟨oD, esD, epD, hoD, hdD, _⟩ := hns.count hw
  refine PySem.W.osa_openX (s := ⟨hp, g, d, t, os⟩) (od := some oD) F.sf X ⟨hx, rfl, rfl, hoD⟩ ov (taker_none hf) fun b => ?_
  show wpAny _ _ (Builtin.ObjectAttr.storeInOwnDict (.ref x) (.ref C) (.str f tk) f v b) _ _ _
  obtain ⟨nm, bs, mro, ns, qn, hd, sn, sb, ab, col, dl⟩ := cd
  dsimp only at hdt
  subst hdt
  unfold Builtin.ObjectAttr.storeInOwnDict Builtin.ObjectAttr.ownDictForStores
  repeat (first | with_reducible refine OEX.store_in_old hns hw hz ?_ | with_reducible refine wpAny_loadPart_at hx ?_ | with_reducible refine L.at ?_ | wp_step)
  exact fun h' tk' hn' hs => hq h' tk' (fun b o hb ho => (hs.2 b hb).trans ho) hn'
end
section
variable {X : Cx} {pins : List (Addr × Obj)} {σ : L2.St} {H : Hp} {s : Shared} {a C dx : Addr} {f : Str} {y : V} {u : Value} {fs : List (Str × V)} {Q : Unit → Shared → Prop} {E : Value → Shared → Prop} {A : Around} {B n i : String} {tl : List Value}
/-- self.f = y, the first one -/
theorem set_first (F : BaseX B n i tl) (T : XB X.K C n tl) (I : Inv X pins σ H s) (e : H a = some (exo a C none)) (hno : PySem.W.findIn X.K (.ref C) f = some none) (ry : RelV y u)
    (h : ∀ dx s', H dx = none → dx ≠ a → Inv X pins σ (upd (upd H dx (exd dx [(f, y)])) a (exo a C (some dx))) s' → Q () s') : wpAny (model X.prog X.w) A (setAttr (.ref a) f u) Q E s := by
  obtain ⟨t1, ho⟩ := exo_at I.hok e
  obtain ⟨hp, g, d, t, os⟩ := s
  refine PySem.W.set_plain I.kIn (ox := { cls := .ref C, dict := none, data := .fields (exF t1) }) (od := none) ⟨ho, rfl, rfl, trivial⟩ T.sa ?_
  refine first_store F T I.kIn ho hno fun h' tk' dx k dn dne hx hn => ?_
  have hnd : H dx = none := I.hok.fresh dn
  have na : ∀ {b : Addr}, H b = none → b ≠ a := fun {b} z q => by rw [q, e] at z; cases z
  have U : Un X.fs [] H (upd (upd H dx (exd dx [(f, y)])) a (exo a C (some dx))) hp h' :=
    ⟨fun b o q z _ _ => k b o (na z) q, fun b o q z _ _ => ⟨o.slots, k b o (na z) q⟩,
      fun b o q z _ => (upd_ne (na z)).trans ((upd_ne (Nat.ne_of_lt (Nat.lt_of_lt_of_le (Heap.lt_size q) dn))).trans z),
      fun b o q _ => (Classical.em (b = a)).elim (fun z => ⟨_, z ▸ hx⟩) fun z => ⟨o, k b o z q⟩,
      fun b xs q => (upd_ne (at_ne e q exo_tup)).trans ((upd_ne (ne_of_none q hnd)).trans q),
      fun b o v q => (upd_ne (at_ne e q exo_frz)).trans ((upd_ne (ne_of_none q hnd)).trans q),
      fun b ps q => ⟨#[], by rw [upd_ne (at_ne e q exo_tbl), upd_ne (ne_of_none q hnd), q]; simp⟩⟩
  refine h dx _ hnd dne (I.un (t' := tk') U fun b o q => ?_)
  rcases Classical.em (b = a) with z | hb
  · subst z; rw [upd_same] at q; cases q; exact exo_ok hx
  rw [upd_ne hb] at q
  rcases Classical.em (b = dx) with z | hd
  · subst z; rw [upd_same] at q; cases q; exact exd_ok hn (relO_put (fs := []) ry fun _ => trivial)
  rw [upd_ne hd] at q
  refine (I.hok b o q).stay (fun c v hc z => k c v ?_ z) (fun c hc => (upd_ne (at_ne e hc exo_own)).trans ((upd_ne (ne_of_none hc hnd)).trans hc)) fun c xs hc => (upd_ne (at_ne e hc exo_tup)).trans ((upd_ne (ne_of_none hc hnd)).trans hc)
  exact hc.elim (fun z => z ▸ hb) fun z => at_ne e z exo_own
/-- .. a further one -/
theorem set_next (F : BaseX B n i tl) (T : XB X.K C n tl) (I : Inv X pins σ H s) (e : H a = some (exo a C (some dx))) (ed : H dx = some (exd dx fs)) (hl : fs.length ≤ 900) (hno : PySem.W.findIn X.K (.ref C) f = some none) (ry : RelV y u)
    (h : ∀ s', Inv X pins σ (upd H dx (exd dx ((f, y) :: fs))) s' → Q () s') : wpAny (model X.prog X.w) A (setAttr (.ref a) f u) Q E s := by
  obtain ⟨t1, ho⟩ := exo_at I.hok e
  obtain ⟨mA, hns, rel⟩ := exd_at I.hok ed
  obtain ⟨hp, g, d, t, os⟩ := s
  obtain ⟨oD, _, _, hoD, _, _⟩ := hns.count (within_of rel)
  refine PySem.W.set_plain I.kIn (ox := { cls := .ref C, dict := some dx, data := .fields (exF t1) }) (od := some oD) ⟨ho, rfl, rfl, hoD⟩ T.sa ?_
  refine next_store F T I.kIn ho hns (within_of rel) (by rw [List.length_map]; omega) hno fun h' tk' k hn => ?_
  exact h _ (I.write (t' := tk') (x := dx) (e := dx) (o := exd dx ((f, y) :: fs)) (by rw [ed]; trivial) (.inl rfl) k (by obtain ⟨o, _, _, z, _⟩ := hn; exact ⟨o, z⟩) (exd_ok hn (relO_put ry rel)))
/-- B.__init__(self, ..): nothing of it is told -/
theorem base_init {us : List Value} {Q : Value → Shared → Prop} (F : BaseX B n i tl) (T : XB X.K C n tl) (I : Inv X pins σ H s) (e : H a = some (exo a C none)) (hl : us.length ≤ sizeLine) (h : ∀ s', Inv X pins σ H s' → Q .none s') :
    wpAny (model X.prog X.w) A (call (.builtin i) (.ref a :: us)) Q E s := by
  obtain ⟨nm, q, N, bs, bm, sn, sub, ab, col, dd, k0, k1, k2, k3, k5, hC, hbm⟩ := T.cls
  obtain ⟨t1, ho⟩ := exo_at I.hok e
  obtain ⟨hp, g, d, t, os⟩ := s
  refine wpAny_call (F.ini (fun Y => PySem.W.excTail_contains Y bm hbm) (I.kIn _ _ hC) ho hl fun h' t2 k hx => ?_)
  have I2 : Inv X pins σ (upd H a (exo a C none)) ⟨h', g, d, t, os⟩ := I.write (t' := t) (x := a) (e := a) (o := exo a C none) (by rw [e]; trivial) (.inl rfl) k ⟨_, hx⟩ (exo_ok hx)
  have eH : upd H a (exo a C none) = H := by funext b; by_cases z : b = a <;> simp [upd, z, e]
  rw [eH] at I2
  exact h _ I2
end
def tBInit (K : PySem.W.Frag) (n : String) (tl : List Value) (ta : TA) : TE := fun σ H Q => ta σ H fun vs H1 => ∃ (a C : Addr) (ws : List V), vs = .ref a :: ws ∧ ws.length ≤ 1000 ∧ XB K C n tl ∧ H1 a = some (exo a C none) ∧ Q .non H1
def tXSet (K : PySem.W.Frag) (n : String) (tl : List Value) (f : Str) (to te : TE) : TS := fun D σ H => te σ H fun y H1 => to σ H1 fun x H2 => ∃ a C : Addr, x = .ref a ∧ XB K C n tl ∧ PySem.W.findIn K (.ref C) f = some none ∧
  ((H2 a = some (exo a C none) ∧ ∀ dx, H2 dx = none → dx ≠ a → D.nx σ (upd (upd H2 dx (exd dx [(f, y)])) a (exo a C (some dx)))) ∨
    ∃ (dx : Addr) (fs : List (Str × V)), H2 a = some (exo a C (some dx)) ∧ H2 dx = some (exd dx fs) ∧ fs.length ≤ 900 ∧ D.nx σ (upd H2 dx (exd dx ((f, y) :: fs))))
section
variable {X : Cx} {o e : Expr} {es : List Expr} {to te : TE} {ta : TA} {f : Str} {p p' p1 p2 pos : Pos} {B n i : String} {tl : List Value}
theorem pe_binit {pl : Sem Bool} (F : BaseX B n i tl) (hg : Gl X (PySem.Str.ofString B)) (hm : X.mg (PySem.Str.ofString B) = none) (bt : bootBuiltins (PySem.Str.ofString B) = some (.type B))
    (vV : PySem.W.findCls X.K (.type B) (.type "type") "__init__" = some (.val (.builtin i))) (ha : PA X (e :: es) ta) (hst : Manifest.isStub B = false := by decide +kernel) (hhi : PySem.W.handedIn (.builtin i) = true := by decide +kernel)
    (hnn : (PySem.Str.ofString B) ≠ "__name__" := by decide) (hdb : ((PySem.Str.ofString B) == ("__debug__" : Str)) = false := by decide)
    (hc : eval (.Call (.Attribute (.Name (PySem.Str.ofString B) p1) "__init__" p2) (e :: es) [] pos) X.env = (do
      let ov ← eval (.Name (PySem.Str.ofString B) p1) X.env; standAt p2.atName
      let (f, first) ← holding [ov] (getMethod ov "__init__" pl); callWith pos f first (backTo pos (starEach (e :: es) X.env)) (backToKw pos (keywordEach [] X.env))) := by rfl)
    (he : starEach (e :: es) X.env = (false, eval e X.env) :: starEach es X.env := by rfl) (hpl : (backTo pos (starEach es X.env)).any (·.1) = false := by rfl) :
    PE X (.Call (.Attribute (.Name (PySem.Str.ofString B) p1) "__init__" p2) (e :: es) [] pos) (tBInit X.K n tl ta) := by
  refine ⟨fun pins s σ H Q I h => ?_⟩
  refine PySem.W.methodCall_KW (ld_blt I hg hm bt ?_ hnn hdb) hc
  obtain ⟨m, fr⟩ := I.fr
  refine PySem.W.method_type fr I.ok.mod.kin F.ty hst vV hhi ?_
  show wpAny _ _ (callWith pos (Value.builtin i) [] (backTo pos (starEach (e :: es) X.env)) []) _ _ _
  refine PyProof.Rows.callWith_method1 (thn (ha.run pos pins _ σ H _ (I.tok _) h) fun us s1 ⟨vs, H1, I1, r1, a, C, ws, ev, hl, T, ea, q⟩ => ?_) he hpl
  subst ev
  cases r1 with
  | @cons _ u0 _ ur ra rw' =>
    obtain rfl : u0 = Value.ref a := ra
    exact base_init F T I1 ea (by rw [← Paired.length rw', sizeLine_eq]; omega) fun s' J => ⟨.non, H1, J, rfl, q⟩
theorem ps_xset (F : BaseX B n i tl) (ho : PE X o to) (he : PE X e te) (hs : swapsWith e (some (.Attribute o f p')) pos.line X.env = pure false := by rfl) : PS X (.Assign [.Attribute o f p'] e pos) (tXSet X.K n tl f to te) := by
  refine ⟨fun pins s σ H D I h => ?_⟩
  refine plainObj_wpAny_Assign_Attribute (thn (he.run pins s σ H _ I h) fun v s1 ⟨y, H1, I1, r1, q1⟩ => thn (ho.run pins s1 σ H1 _ I1 q1) fun u s2 hh => ?_) hs
  obtain ⟨x, H2, I2, r2, a, C, ex, T, hno, q⟩ := hh
  subst ex
  obtain rfl : u = Value.ref a := r2
  rcases q with ⟨ea, q⟩ | ⟨dx, fs, ea, ed, hl, q⟩
  · exact set_first F T I2 ea hno r1 fun dx s' n ne J => ⟨σ, _, J, q dx n ne⟩
  · exact set_next F T I2 ea ed hl hno r1 fun s' J => ⟨σ, _, J, q⟩
theorem pmk_xb {CX : CXT} {x : Str} {C fI : Addr} {k : Nat} {fd : FuncData} {ps : List Str} {sp : Sp} (F : BaseX B n i tl) (T : XB X.K C n tl) (iC : PySem.W.findIn X.K (.ref C) "__init__" = some (some (.ref fI))) (tI : PySem.W.typeIn X.K (.ref fI) = some (.type "function"))
    (F1 : FnOk X.prog X.w X.K X.mg X.base CX k fI fd ps sp) (hr : Room (k + 1) X.A) (hb : Binds X.K fd ps []) (hx : Passes CX X (fun _ _ _ => False)) (hg : Gl X x) (hm : X.mg x = some (.ref C)) (ha : PA X (e :: es) ta)
    (hdb : (x == ("__debug__" : Str)) = false := by decide) (he : starEach (e :: es) X.env = (false, eval e X.env) :: starEach es X.env := by rfl) (hpl : (backTo pos (starEach es X.env)).any (·.1) = false := by rfl) :
    PMk X (.Call (.Name x p) (e :: es) [] pos) (tMkO C sp [] ta) := by
  intro pins s σ H Q I h
  obtain ⟨nm, q, N, bs, bm, sn, sub, ab, col, dd, k0, k1, k2, k3, k5, hC, hbm⟩ := T.cls
  refine wpAny_Call_Name_kw (ld_glob I hg hm ?_ hdb)
  refine PySem.W.callWith_K (h₀ := X.base) I.ok.mod.kin T.kC (thn (ha.run pos pins s σ H _ I h) fun us s1 hh => ?_) he hpl
  obtain ⟨vs, H1, I1, r1, hz, q1⟩ := hh
  refine ⟨I1.kIn, ?_⟩
  show wpAny _ _ (call (.ref C) us) _ _ _
  obtain ⟨hp, g, dr, tk, os⟩ := s1
  have hsz : hp.objs.size ≤ hp.objs.size + 1 := Nat.le_succ _
  have hq := q1 _ (I1.hok.fresh hsz)
  rw [List.append_nil] at hq
  generalize eh : (hp.push (PySem.W.kdv_tup us)).push (HandSPX.excO C hp.objs.size) = h9
  have kk : ∀ b o, hp.get? b = some o → h9.get? b = some o := fun b o e => by rw [← eh]; exact Heap.get?_push_of_some _ (Heap.get?_push_of_some _ e)
  have hget : h9.get? (hp.objs.size + 1) = some (HandSPX.excO C hp.objs.size) := by rw [← eh]; heap_get
  have I2 : Inv X pins σ (upd H1 (hp.objs.size + 1) (exo (hp.objs.size + 1) C none)) ⟨h9, g, dr, tk, os⟩ := I1.laid (t' := tk) (a := hp.objs.size + 1) (o := exo (hp.objs.size + 1) C none) (h' := h9) kk hsz (exo_ok hget)
  have r2 : Vals (V.ref (hp.objs.size + 1) :: vs) (Value.ref (hp.objs.size + 1) :: us) := .cons rfl r1
  have hl : (Value.ref (hp.objs.size + 1) :: us).length = ps.length := r2.length.symm.trans (F1.len _ _ _ _ hq)
  have hb' : BindsTo ⟨h9, g, dr, tk, os⟩ fd ⟨Value.ref (hp.objs.size + 1) :: us, []⟩ (ps.zip (Value.ref (hp.objs.size + 1) :: us)) := by
    have z := hb ⟨h9, g, dr, tk, os⟩ (Value.ref (hp.objs.size + 1) :: us) I2.kIn (by rw [List.append_nil]; exact hl)
    rw [List.append_nil] at z
    exact z
  refine wpAny_call (F.cal (fun Y => PySem.W.excTail_contains Y bm hbm) (I1.kIn _ _ hC) (PySem.W.looks_findIn I1.kIn iC) (fun self => PySem.W.bind_fn I1.kIn self tI) (by rw [← Paired.length r1, sizeLine_eq]; omega) ?_)
  rw [eh]
  refine codeAny_mono (F1.run _ X.stack _ _ ⟨Value.ref (hp.objs.size + 1) :: us, []⟩ (Value.ref (hp.objs.size + 1) :: us) _ _ (fun _ _ _ => False) (hr.make C us []) (I2.env0.make C us []) hb' r2 hq) fun r s' hq' => ?_
  match r, hq' with
  | .error er, z => exact hx pins σ _ _ er s' I2 z
  | .ok .next, z => exact z.elim
  | .ok .brk, z => exact z.elim
  | .ok .cont, z => exact z.elim
  | .ok (.ret u), ⟨v, H2, os2, bare2, un2, hok2, rv, ev, d, fs, ea, ed, hd1, q2⟩ =>
    subst ev
    obtain ⟨h2, g2, d2, t2, os'⟩ := s'
    exact ⟨rv, mk_end (raises_own T.exC T.tyC) I1 hsz kk un2 hok2 os2 bare2 ea ed hd1 q2⟩
end
def spX1 (C : Addr) (f : Str) : Sp := fun vs H Q _ => ∃ (a : Addr) (v : V), vs = [.ref a, v] ∧ H a = some (exo a C none) ∧ ∀ dx, H dx = none → dx ≠ a → Q .non (upd (upd H dx (exd dx [(f, v)])) a (exo a C (some dx)))
def spX2 (C : Addr) (f1 f2 : Str) : Sp := fun vs H Q _ => ∃ (a : Addr) (v1 v2 : V), vs = [.ref a, v1, v2] ∧ H a = some (exo a C none) ∧
  ∀ dx, H dx = none → dx ≠ a → Q .non (upd (upd (upd H dx (exd dx [(f1, v1)])) a (exo a C (some dx))) dx (exd dx [(f2, v2), (f1, v1)]))
section
variable {K : PySem.W.Frag} {C : Addr} {n : String} {tl : List Value} {f g txt x y z : Str} {vs : List V} {H : Hp} {Q : VK} {E : XK}
theorem rdX1 (T : XB K C n tl) (no : PySem.W.findIn K (.ref C) f = some none) (h : spX1 C f vs H Q E) :
    tSeq (tDrop (tBInit K n tl (tCons (tVar 0) (tCons (tC (.str txt)) tNil)))) (tXSet K n tl f (tVar 0) (tVar 1)) { nx := fun _ H' => Q .non H', rt := Q } (L2.start [x, y] vs) H := by
  obtain ⟨a, v, rfl, e, h⟩ := h
  exact ⟨.ref a, rfl, a, C, [.str txt], rfl, by simp, T, e, v, rfl, .ref a, rfl, a, C, rfl, T, no, .inl ⟨e, h⟩⟩
theorem rdX2 (T : XB K C n tl) (no1 : PySem.W.findIn K (.ref C) f = some none) (no2 : PySem.W.findIn K (.ref C) g = some none) (h : spX2 C f g vs H Q E) :
    tSeq (tDrop (tBInit K n tl (tCons (tVar 0) (tCons (tC (.str txt)) tNil)))) (tSeq (tXSet K n tl f (tVar 0) (tVar 1)) (tXSet K n tl g (tVar 0) (tVar 2))) { nx := fun _ H' => Q .non H', rt := Q } (L2.start [x, y, z] vs) H := by
  obtain ⟨a, v, w, rfl, e, h⟩ := h
  refine ⟨.ref a, rfl, a, C, [.str txt], rfl, by simp, T, e, v, rfl, .ref a, rfl, a, C, rfl, T, no1, .inl ⟨e, fun dx h1 h2 => ?_⟩⟩
  exact ⟨w, rfl, .ref a, rfl, a, C, rfl, T, no2, .inr ⟨dx, [(f, v)], upd_same, by rw [upd_ne h2, upd_same], by simp, h dx h1 h2⟩⟩
end
theorem upd_del {H : Hp} {a d : Addr} {u w z o : HO} (h : H a = none) : upd (L2.del (upd (upd (upd H a z) d w) a u) a) d o = upd H d o := by
  funext b
  by_cases h1 : b = d
  · subst h1; rw [upd_same, upd_same]
  · rw [upd_ne h1, upd_ne h1]
    by_cases h2 : b = a
    · subst h2; rw [del_same, h]
    · rw [del_ne h2, upd_ne h2, upd_ne h1, upd_ne h2]
theorem upd_del2 {H : Hp} {a d : Addr} {u w z y o : HO} (h : H a = none) : upd (L2.del (upd (upd (upd (upd H a z) d w) a u) d y) a) d o = upd H d o := by
  funext b
  by_cases h1 : b = d
  · subst h1; rw [upd_same, upd_same]
  · rw [upd_ne h1, upd_ne h1]
    by_cases h2 : b = a
    · subst h2; rw [del_same, h]
    · rw [del_ne h2, upd_ne h1, upd_ne h2, upd_ne h1, upd_ne h2]
/-- what isinstance asks of an exception's class -/
structure KxC (K : PySem.W.Frag) (C : Addr) : Prop where
  hcl : (PySem.W.clsIn K C).isSome = true
  hga : PySem.W.findIn K (.ref C) "__getattribute__" = some (some (.builtin "BaseException.__getattribute__"))
  hgt : PySem.W.findIn K (.ref C) "__getattr__" = some none
  hsub : PySem.W.subIn K (.ref C) (.type "BaseException") = some true
  ha : PySem.W.findIn K (.ref C) "__class__" = some (some (.builtin "object.__class__"))
  hn : PySem.W.specialIn K (.builtin "object.__class__") "__get__" = some (some (.builtin "getset_descriptor.__get__"))
  htk : PySem.W.takesIn K (.builtin "object.__class__") = some true
  hm : PySem.W.mroIn K C (.type "object") = some true
/-- an own exception class with an __init__ that stores: where it stands -/
structure XAt (K : PySem.W.Frag) (mg : Str → Option Value) (x : Str) (B n i : String) (tl : List Value) (st : Stmt) (q : Str) (ps : List Str) (fs : List Str) where
  C : Addr
  fI : Addr
  fd : FuncData
  g : mg x = some (.ref C)
  T : XB K C n tl
  iC : PySem.W.findIn K (.ref C) "__init__" = some (some (.ref fI))
  tI : PySem.W.typeIn K (.ref fI) = some (.type "function")
  F : Fun K "__init__" q st fI fd
  b : Binds K fd ps []
  no : ∀ f ∈ fs, PySem.W.findIn K (.ref C) f = some none
  hdC : PySem.W.hasDictIn K C = true
  te : PySem.W.exmOne K (.ref C) (.ref C) = some true
  vV : PySem.W.findCls K (.type B) (.type "type") "__init__" = some (.val (.builtin i))
  kx : KxC K C
/-- .. as a fact of the addresses -/
structure XAtP (K : PySem.W.Frag) (mg : Str → Option Value) (x : Str) (B n i : String) (tl : List Value) (ps : List Str) (C fI : Addr) (fd : FuncData) : Prop where
  g : mg x = some (.ref C)
  T : XB K C n tl
  iC : PySem.W.findIn K (.ref C) "__init__" = some (some (.ref fI))
  tI : PySem.W.typeIn K (.ref fI) = some (.type "function")
  b : Binds K fd ps []
theorem XAt.p {K : PySem.W.Frag} {mg : Str → Option Value} {x : Str} {B n i : String} {tl : List Value} {st : Stmt} {q : Str} {ps fs : List Str} (T : XAt K mg x B n i tl st q ps fs) : XAtP K mg x B n i tl ps T.C T.fI T.fd := ⟨T.g, T.T, T.iC, T.tI, T.b⟩
@[simp] def qRaise (C : Addr) (fs : List Str) (qa : DTA) : DTS := fun DW DE p M => qa DW p M fun ds M1 => ds.length = fs.length ∧ DW ⟨.ref C, (fs.zip ds).reverse⟩ p M1
section
variable {X : Cx} {W : WX} {e : Expr} {es : List Expr} {ta : TA} {qa : DTA} {p pos pos2 : Pos} {B n i : String} {tl : List Value} {x f f2 : Str} {st : Stmt} {q : Str} {ps fs : List Str} {k : Nat}
theorem qs_raise1 (F : BaseX B n i tl) {C fI : Addr} {fd : FuncData} (T : XAtP X.K X.mg x B n i tl ps C fI fd) (F1 : FnOk X.prog X.w X.K X.mg X.base (L2.CX X.prog X.w) k fI fd ps (spX1 C f)) (hr : Room (k + 1) X.A) (tk : Takes X W) (hc : X.calm = true) (ha : QA X W (e :: es) ta qa) (hg : Gl X x := by rfl)
    (hdb : (x == ("__debug__" : Str)) = false := by decide) (he : starEach (e :: es) X.env = (false, eval e X.env) :: starEach es X.env := by rfl) (hpl : (backTo pos (starEach es X.env)).any (·.1) = false := by rfl) :
    QS X W (.Raise (some (.Call (.Name x p) (e :: es) [] pos)) none pos2) (fun _ σ H => tMkO C (spX1 C f) [] ta σ H fun cls d H' => W cls d σ H') (qRaise C [f] qa) :=
  ⟨ps_raise hc tk (pmk_xb F T.T T.iC T.tI F1 hr T.b (passes_call tk fun _ _ _ _ z => z.elim) hg T.g ha.pe hdb he hpl), fun DW G H p M s DE E hw S h _ => by
    refine ha.rf DW G H p M s _ _ hw S h fun G1 H1 M1 ds vs e1 S1 r1 ⟨hl, h1⟩ => ?_
    match ds, vs, r1, hl with
    | [d], _, ⟨v, _, rfl, r2, rfl⟩, _ =>
      refine ⟨by simp, fun a ea => ⟨a, v, rfl, upd_same, fun dx h2 h3 => ⟨rfl, dx, [(f, v)], upd_same, by rw [upd_ne h3, upd_same], by rw [upd_ne h3] at h2; exact h2, ?_⟩⟩⟩
      rw [upd_del ea]
      rw [upd_ne h3] at h2
      obtain ⟨e2, S2⟩ := S1.made (o := .xd [(f, v)]) h2
      exact hw _ _ p M1 s ⟨.ref C, [(f, d)]⟩ _ _ (e1.trans e2) S2 ⟨rfl, .inr ⟨dx, [(f, v)], rfl, upd_same, rfl, RepL.mono e2 _ _ (RepL.cons r2 RepL.nil)⟩⟩ h1⟩
theorem qs_raise2 (F : BaseX B n i tl) {C fI : Addr} {fd : FuncData} (T : XAtP X.K X.mg x B n i tl ps C fI fd) (F1 : FnOk X.prog X.w X.K X.mg X.base (L2.CX X.prog X.w) k fI fd ps (spX2 C f f2)) (hr : Room (k + 1) X.A) (tk : Takes X W) (hc : X.calm = true) (ha : QA X W (e :: es) ta qa) (hg : Gl X x := by rfl)
    (hdb : (x == ("__debug__" : Str)) = false := by decide) (he : starEach (e :: es) X.env = (false, eval e X.env) :: starEach es X.env := by rfl) (hpl : (backTo pos (starEach es X.env)).any (·.1) = false := by rfl) :
    QS X W (.Raise (some (.Call (.Name x p) (e :: es) [] pos)) none pos2) (fun _ σ H => tMkO C (spX2 C f f2) [] ta σ H fun cls d H' => W cls d σ H') (qRaise C [f, f2] qa) :=
  ⟨ps_raise hc tk (pmk_xb F T.T T.iC T.tI F1 hr T.b (passes_call tk fun _ _ _ _ z => z.elim) hg T.g ha.pe hdb he hpl), fun DW G H p M s DE E hw S h _ => by
    refine ha.rf DW G H p M s _ _ hw S h fun G1 H1 M1 ds vs e1 S1 r1 ⟨hl, h1⟩ => ?_
    obtain ⟨d, d2, rfl⟩ : ∃ d d2, ds = [d, d2] := by
      match ds, hl with
      | [d, d2], _ => exact ⟨d, d2, rfl⟩
    obtain ⟨v, _, rfl, r2, v2, _, rfl, r3, r4⟩ := r1
    cases r4
    refine ⟨by simp, fun a ea => ?_⟩
    refine ⟨a, v, v2, List.append_nil _ ▸ rfl, upd_same, fun dx h2 h3 => ?_⟩
    rw [upd_ne h3] at h2
    have q1 : upd (upd (upd (upd H1 a (exo a C none)) dx (exd dx [(f, v)])) a (exo a C (some dx))) dx (exd dx [(f2, v2), (f, v)]) a = some (exo a C (some dx)) := by rw [upd_ne (Ne.symm h3), upd_same]
    refine ⟨rfl, dx, [(f2, v2), (f, v)], q1, upd_same, h2, ?_⟩
    rw [upd_del2 ea]
    obtain ⟨e2, S2⟩ := S1.made (o := .xd [(f2, v2), (f, v)]) h2
    exact hw _ _ p M1 s ⟨.ref C, [(f2, d2), (f, d)]⟩ _ _ (e1.trans e2) S2 ⟨rfl, .inr ⟨dx, [(f2, v2), (f, v)], rfl, upd_same, rfl, RepL.mono e2 _ _ (RepL.cons r3 (RepL.cons r2 RepL.nil))⟩⟩ h1⟩
end
section
variable {X : Cx} {W : WX} {C a : Addr} {oe : Obj} {d : Option Addr} {pn : List (Addr × Obj)} {e : Expr} {te : TE} {qe : DTE} {f : Str} {pos : Pos}
def dIsX (a : Addr) (d : Option Addr) (b : Bool) (c : D) : DCa := fun ds M Q => ∃ ns ys, ds = [.exc a d ns ys, c] ∧ Q (.bl b) M
end
end DL
namespace DL
open PySem PySem.Spec PyProof.Rows L2
section
variable {P : Program} {w : World} {K : PySem.W.Frag} {mg : Str → Option Value} {base : Heap}
/-- the rule for a def that has defaults -/
theorem fn_okD {x qual : Str} {st : Stmt} {f : Addr} {fd : FuncData} {N ps : List Str} {k : Nat} {p : DSp} {dvs : List V} (F : FunD K x qual (defArgs st) (defBody st) (defScope st) dvs [] f fd) (S : FnScope N ps (defScope st)) (len : ∀ ds M Q E, p ds M Q E → ds.length = ps.length)
    (hbody : ∀ (cdv : Value) (A : Around) (outer : List Env) (s : Shared) (H : Hp) (E : XK), Room k (A.deeper (PyProof.Rows.envOfC qual (defScope st) s.heap.objs.size f cdv)) →
      Takes (cxOf (L2.CX P w) P w K mg base N qual (defScope st) f cdv A outer s H E) (fun cls d _ H => E cls d H) →
      PassesOwn (model P w) (cxOf (L2.CX P w) P w K mg base N qual (defScope st) f cdv A outer s H E).A (cxOf (L2.CX P w) P w K mg base N qual (defScope st) f cdv A outer s H E).env (cxOf (L2.CX P w) P w K mg base N qual (defScope st) f cdv A outer s H E).xe →
      ∃ t q, QSs (cxOf (L2.CX P w) P w K mg base N qual (defScope st) f cdv A outer s H E) (fun cls d _ H => E cls d H) (defBody st) t q ∧
        ∀ ds M Q Ed, p ds M Q Ed → q (fun x _ M => Ed x M) { nx := fun _ M => Q .non M, rt := Q } (startD N ds) M) : FnOk P w K mg base (L2.CX P w) (k + 1) f fd ps (toSp K p) := by
  refine F.ok S (fun vs H Q E h => ?_) (fun cdv A outer s H vs Q E hr h => ?_)
  · obtain ⟨G, ds, M, Qd, Ed, _, r, _, hp, _⟩ := h
    exact r.length.trans (len _ _ _ _ hp)
  · obtain ⟨G, ds, M, Qd, Ed, e, r, hm, hp, kq, ke⟩ := h
    obtain ⟨t, q, hq, hs⟩ := hbody cdv A outer s H E hr (takes_of rfl rfl rfl rfl) (passes_of rfl)
    exact ⟨t, hq.pe, hq.rf (fun x _ M => Ed x M) G H (startD N ds) M (L2.start N vs) _ _ (fun G' H' p' M' s' x cls dx e1 S1 r1 h1 => ke G' H' x cls dx M' e1 S1.same r1 S1.mem h1) (start_sim e r hm) (hs ds M Qd Ed hp)
      ⟨fun G' H' p' M' s' e1 S1 h1 => kq G' H' .non .non M' e1 S1.same rfl S1.mem h1, fun G' H' p' M' s' d v e1 S1 r1 h1 => kq G' H' v d M' e1 S1.same r1 S1.mem h1, fun _ _ _ _ _ _ _ h => h.elim, fun _ _ _ _ _ _ _ h => h.elim⟩⟩
end
/-- how a call binds that leaves out the last parameters: their defaults -/
def BindsD (K : PySem.W.Frag) (fd : FuncData) (ps : List Str) (dvs : List V) : Prop := ∃ ds, Vals dvs ds ∧ Binds K fd ps ds
section
variable {K : PySem.W.Frag} {x qual : Str} {st : Stmt} {dvs : List V} {f : Addr} {fd : FuncData} {ps : List Str}
/-- n values are written, the defaults behind the first j fill up -/
theorem FunD.bd (F : FunD K x qual (defArgs st) (defBody st) (defScope st) dvs [] f fd) (n j : Nat) (hd : dvs ≠ []) (hn : n + (dvs.length - j) = ps.length)
    (h : ∀ (T : Addr) (kV doc pm : Value) (an : Option Addr) (cdv ct : Value) (us its : List Value), us.length = n → its.length = dvs.length →
      ∃ k, bindArgs (PySem.W.fnOf x qual (defArgs st) (defBody st) (defScope st) (.ref T) kV doc pm an cdv ct) ⟨us, []⟩ = seqItems? (.ref T) >>= k ∧ k (some its.toArray) = pure (ps.zip (us ++ its.drop j))) : BindsD K fd ps (dvs.drop j) :=
  FunD.binds1 F n j hd hn h
theorem kwbD {ks : List Str} {n : Nat} {idx : List Nat} (F : FunD K x qual (defArgs st) (defBody st) (defScope st) dvs [] f fd) (hd : dvs ≠ [])
    (h : ∀ (T : Addr) (kV doc pm : Value) (an : Option Addr) (cdv ct : Value) (us ws its : List Value), us.length = n → ws.length = ks.length → its.length = dvs.length →
      ∃ k, bindArgs (PySem.W.fnOf x qual (defArgs st) (defBody st) (defScope st) (.ref T) kV doc pm an cdv ct) ⟨us, ks.zip ws⟩ = seqItems? (.ref T) >>= k ∧ k (some its.toArray) = pure (ps.zip (pickL idx (us ++ ws)))) : KwB K fd ps n ks idx := by
  obtain ⟨oc, od, dV, kV, doc, pm, an, cdv, ct, osl, rfl, lk, hcd, hD, hK⟩ := F.ex
  rcases hD with ⟨e, _⟩ | ⟨_, T, o, its, m, rfl, lT, oT, rT⟩
  · exact absurd e hd
  · intro s us ws X h1 h2
    obtain ⟨k, e1, e2⟩ := h T kV doc pm an cdv ct us ws its h1 h2 rT.length.symm
    refine BindsTo.of_looks fun M => ?_
    rw [e1]
    exact looks_items X lT oT (.of_pure e2)
theorem fund_mk {oc : Value} {od an : Option Addr} {osl : Array (Option Value)} {kV doc pm cdv ct : Value} {T : Addr} {o : Obj} {its : List Value} {n : Nat} (l : K.lookup f = some ⟨oc, od, .func (PySem.W.fnOf x qual (defArgs st) (defBody st) (defScope st) (.ref T) kV doc pm an cdv ct), osl⟩)
    (c : PySem.W.codeIn K cdv qual = true) (k : PySem.W.keepIn K (.ref f) = true) (lT : K.lookup T = some o) (oT : o.data = .seq its.toArray n) (hd : dvs ≠ []) (r : Vals dvs its) :
    FunD K x qual (defArgs st) (defBody st) (defScope st) dvs [] f (PySem.W.fnOf x qual (defArgs st) (defBody st) (defScope st) (.ref T) kV doc pm an cdv ct) :=
  ⟨⟨oc, od, .ref T, kV, doc, pm, an, cdv, ct, osl, rfl, l, c, .inr ⟨hd, T, o, its, n, rfl, lT, oT, r⟩, .inl rfl⟩, k⟩
end
end DL
namespace DL
open PySem PySem.Spec PyProof.Rows L2
abbrev tl_ValueError : List Value := [.type "ValueError", .type "Exception", .type "BaseException", .type "object"]
theorem baseX_ValueError : BaseX "ValueError" "ValueError.__new__" "ValueError.__init__" tl_ValueError := .of F.excBase_ValueError F.store_ValueError (by kernel_rfl) (by decide +kernel)
theorem clsIn_some {K : PySem.W.Frag} {C : Addr} (h : PySem.W.hasDictIn K C = true) : (PySem.W.clsIn K C).isSome = true := by
  obtain ⟨cd, hc, _⟩ := PySem.W.any_some h
  rw [hc]; rfl
end DL
set_option maxHeartbeats 2000000
namespace DL
open PySem PySem.Spec PyProof.Rows L2
end DL
namespace DL
open PySem L2
theorem eq_bb {neg : Bool} {x y : Bool} {M : Mst} {Q : DK} : dEq neg (.bl x) (.bl y) M Q = Q (.bl (xor neg (decide (x = y)))) M := by
  unfold dEq
  rw [res_bl, res_bl, deq_bl]
  have h1 : isData (.bl x) = true := rfl
  have h2 : isData (.bl y) = true := rfl
  have h3 : min (dep (.bl x)) (dep (.bl y)) ≤ 64 := by simp [dep, pyd, PyData.depth]
  simp [h1, h2, h3]
end DL
namespace Tx21
open PySem L2 DL PyProof.Rows Tx20
def Pr (x : Str) : Prop := ∀ c ∈ x.cps.toList, 32 ≤ c ∧ c ≤ 126
theorem Pr.asc {x : Str} (h : Pr x) : Asc x := fun c hc => by have := h c hc; omega
theorem pr_ok {x : Str} (h : Pr x) (hl : x.length ≤ 100000) : okS x := ok_asc h.asc hl
end Tx21
namespace DL
open PySem L2 Tx20 Tx21
abbrev lit (s : String) : Str := PySem.Str.ofString s
abbrev one (c : Nat) : Str := ⟨#[c]⟩
abbrev stL (ws : List Str) : D := .lst (ws.map .str)
section
variable {M : Mst} {Q : DK}
@[simp] theorem z_isi_int_int {i} : dIsi [.int i, .ty "int"] M Q = Q (.bl true) M := isi_one rfl (show isiB "int" "int" = some true by decide +kernel)
@[simp] theorem z_isi_int_bool {i} : dIsi [.int i, .ty "bool"] M Q = Q (.bl false) M := isi_one rfl (show isiB "int" "bool" = some false by decide +kernel)
@[simp] theorem z_isi_int_str {i} : dIsi [.int i, .ty "str"] M Q = Q (.bl false) M := isi_one rfl (show isiB "int" "str" = some false by decide +kernel)
@[simp] theorem z_isi_int_tup {i} : dIsi [.int i, .ty "tuple"] M Q = Q (.bl false) M := isi_one rfl (show isiB "int" "tuple" = some false by decide +kernel)
@[simp] theorem z_isi_int_lst {i} : dIsi [.int i, .ty "list"] M Q = Q (.bl false) M := isi_one rfl (show isiB "int" "list" = some false by decide +kernel)
@[simp] theorem z_isi_bl_int {i} : dIsi [.bl i, .ty "int"] M Q = Q (.bl true) M := isi_one rfl (show isiB "bool" "int" = some true by decide +kernel)
@[simp] theorem z_isi_bl_bool {i} : dIsi [.bl i, .ty "bool"] M Q = Q (.bl true) M := isi_one rfl (show isiB "bool" "bool" = some true by decide +kernel)
@[simp] theorem z_isi_bl_str {i} : dIsi [.bl i, .ty "str"] M Q = Q (.bl false) M := isi_one rfl (show isiB "bool" "str" = some false by decide +kernel)
@[simp] theorem z_isi_bl_tup {i} : dIsi [.bl i, .ty "tuple"] M Q = Q (.bl false) M := isi_one rfl (show isiB "bool" "tuple" = some false by decide +kernel)
@[simp] theorem z_isi_bl_lst {i} : dIsi [.bl i, .ty "list"] M Q = Q (.bl false) M := isi_one rfl (show isiB "bool" "list" = some false by decide +kernel)
@[simp] theorem z_isi_str_int {i} : dIsi [.str i, .ty "int"] M Q = Q (.bl false) M := isi_one rfl (show isiB "str" "int" = some false by decide +kernel)
@[simp] theorem z_isi_str_bool {i} : dIsi [.str i, .ty "bool"] M Q = Q (.bl false) M := isi_one rfl (show isiB "str" "bool" = some false by decide +kernel)
@[simp] theorem z_isi_str_str {i} : dIsi [.str i, .ty "str"] M Q = Q (.bl true) M := isi_one rfl (show isiB "str" "str" = some true by decide +kernel)
@[simp] theorem z_isi_str_tup {i} : dIsi [.str i, .ty "tuple"] M Q = Q (.bl false) M := isi_one rfl (show isiB "str" "tuple" = some false by decide +kernel)
@[simp] theorem z_isi_str_lst {i} : dIsi [.str i, .ty "list"] M Q = Q (.bl false) M := isi_one rfl (show isiB "str" "list" = some false by decide +kernel)
@[simp] theorem z_isi_non_int : dIsi [.non, .ty "int"] M Q = Q (.bl false) M := isi_one rfl (show isiB "NoneType" "int" = some false by decide +kernel)
@[simp] theorem z_isi_non_bool : dIsi [.non, .ty "bool"] M Q = Q (.bl false) M := isi_one rfl (show isiB "NoneType" "bool" = some false by decide +kernel)
@[simp] theorem z_isi_non_str : dIsi [.non, .ty "str"] M Q = Q (.bl false) M := isi_one rfl (show isiB "NoneType" "str" = some false by decide +kernel)
@[simp] theorem z_isi_non_tup : dIsi [.non, .ty "tuple"] M Q = Q (.bl false) M := isi_one rfl (show isiB "NoneType" "tuple" = some false by decide +kernel)
@[simp] theorem z_isi_non_lst : dIsi [.non, .ty "list"] M Q = Q (.bl false) M := isi_one rfl (show isiB "NoneType" "list" = some false by decide +kernel)
@[simp] theorem z_isi_tup_int {i} : dIsi [.tup i, .ty "int"] M Q = Q (.bl false) M := isi_one rfl (show isiB "tuple" "int" = some false by decide +kernel)
@[simp] theorem z_isi_tup_bool {i} : dIsi [.tup i, .ty "bool"] M Q = Q (.bl false) M := isi_one rfl (show isiB "tuple" "bool" = some false by decide +kernel)
@[simp] theorem z_isi_tup_str {i} : dIsi [.tup i, .ty "str"] M Q = Q (.bl false) M := isi_one rfl (show isiB "tuple" "str" = some false by decide +kernel)
@[simp] theorem z_isi_tup_tup {i} : dIsi [.tup i, .ty "tuple"] M Q = Q (.bl true) M := isi_one rfl (show isiB "tuple" "tuple" = some true by decide +kernel)
@[simp] theorem z_isi_tup_lst {i} : dIsi [.tup i, .ty "list"] M Q = Q (.bl false) M := isi_one rfl (show isiB "tuple" "list" = some false by decide +kernel)
@[simp] theorem z_isi_lst_int {i} : dIsi [.lst i, .ty "int"] M Q = Q (.bl false) M := isi_one rfl (show isiB "list" "int" = some false by decide +kernel)
@[simp] theorem z_isi_lst_bool {i} : dIsi [.lst i, .ty "bool"] M Q = Q (.bl false) M := isi_one rfl (show isiB "list" "bool" = some false by decide +kernel)
@[simp] theorem z_isi_lst_str {i} : dIsi [.lst i, .ty "str"] M Q = Q (.bl false) M := isi_one rfl (show isiB "list" "str" = some false by decide +kernel)
@[simp] theorem z_isi_lst_tup {i} : dIsi [.lst i, .ty "tuple"] M Q = Q (.bl false) M := isi_one rfl (show isiB "list" "tuple" = some false by decide +kernel)
@[simp] theorem z_isi_lst_lst {i} : dIsi [.lst i, .ty "list"] M Q = Q (.bl true) M := isi_one rfl (show isiB "list" "list" = some true by decide +kernel)
@[simp] theorem z_len_str {z : Str} : dLen [.str z] M Q = Q (.int z.length) M := by simp [dLen]
@[simp] theorem z_len_tup {ds : List D} : dLen [.tup ds] M Q = Q (.int ds.length) M := by simp [dLen]
@[simp] theorem z_len_xtp {ds : List D} : dLen [.xtp ds] M Q = Q (.int ds.length) M := by simp [dLen]
@[simp] theorem z_len_ktp {ds : List D} : dLen [.ktp ds] M Q = Q (.int ds.length) M := by simp [dLen]
@[simp] theorem z_add_str {m : Bool} {x y : Str} : dAdd m (.str x) (.str y) M Q = (x.length + y.length ≤ 100000 ∧ Q (.str (x ++ y)) M) := rfl
@[simp] theorem z_add_tup {m : Bool} {x y : List D} : dAdd m (.tup x) (.tup y) M Q = (x.length + y.length ≤ 100000 ∧ Q (.tup (x ++ y)) M) := rfl
@[simp] theorem z_eq_int {i j : Int} : dEq false (.int i) (.int j) M Q = Q (.bl (decide (i = j))) M := by rw [eq_int, Bool.false_xor]
@[simp] theorem z_ne_int {i j : Int} : dEq true (.int i) (.int j) M Q = Q (.bl (!decide (i = j))) M := by rw [eq_int, Bool.true_xor]
@[simp] theorem z_eq_str {i j : Str} : dEq false (.str i) (.str j) M Q = Q (.bl (decide (i = j))) M := by rw [eq_str, Bool.false_xor]
@[simp] theorem z_ne_str {i j : Str} : dEq true (.str i) (.str j) M Q = Q (.bl (!decide (i = j))) M := by rw [eq_str, Bool.true_xor]
@[simp] theorem z_eq_bl {i j : Bool} : dEq false (.bl i) (.bl j) M Q = Q (.bl (decide (i = j))) M := by rw [eq_bb, Bool.false_xor]
@[simp] theorem z_ne_bl {i j : Bool} : dEq true (.bl i) (.bl j) M Q = Q (.bl (!decide (i = j))) M := by rw [eq_bb, Bool.true_xor]
@[simp] theorem z_is {x : D} : dIs false x .non M Q = Q (.bl (isNon x)) M := by cases h : isNon x <;> simp [dIs, h]
@[simp] theorem z_isnot {x : D} : dIs true x .non M Q = Q (.bl (!isNon x)) M := by cases h : isNon x <;> simp [dIs, h]
@[simp] theorem z_neg {i : Int} : dNeg (.int i) M Q = Q (.int (-i)) M := rfl
@[simp] theorem z_inS {neg : Bool} {c z : Str} : dIn neg (.str c) (.str z) M Q = Q (.bl (xor neg (inS c z))) M := rfl
@[simp] theorem z_intX_i {i : Int} : dIntX [.int i] M Q = Q (.int i) M := rfl
@[simp] theorem z_intX_b {b : Bool} : dIntX [.bl b] M Q = Q (.int (if b = true then 1 else 0)) M := by cases b <;> rfl
theorem in_strsT {neg : Bool} {z : Str} {zs : List Str} : dIn neg (.str z) (.tup (zs.map .str)) M Q = Q (.bl (xor neg (decide (z ∈ zs)))) M := by
  unfold dIn
  have a : (zs.map D.str).any (fun e => deq e (.str z)) = decide (z ∈ zs) := by
    rw [List.any_map]
    induction zs with
    | nil => simp
    | cons y ys ih => simp only [List.any_cons, ih, Function.comp, deq_str, List.mem_cons]; simp [eq_comm]
  have f : (zs.map D.str).all flatD = true := by rw [List.all_map, List.all_eq_true]; intro x _; rfl
  simp only [dgetD, res_tup, a, f, show flatD (.str z) = true from rfl, true_and]
@[simp] theorem z_ix_l0 {d : D} {ds : List D} : dIx (.lst (d :: ds)) (.int 0) M Q = Q d M := ix_l atI_0
@[simp] theorem z_ix_t0 {d : D} {ds : List D} : dIx (.tup (d :: ds)) (.int 0) M Q = Q d M := ix_t atI_0
@[simp] theorem z_ix_t1 {d e : D} {ds : List D} : dIx (.tup (d :: e :: ds)) (.int 1) M Q = Q e M := ix_t atI_1
@[simp] theorem z_ix_l1 {d e : D} {ds : List D} : dIx (.lst (d :: e :: ds)) (.int 1) M Q = Q e M := ix_l atI_1
theorem pick_t {ds : List D} {r : Int} (h0 : 0 ≤ r) (h1 : r < ds.length) (h : ∀ d ∈ ds, Q d M) : dIx (.tup ds) (.int r) M Q := by
  obtain ⟨x, hx, hm⟩ := atI_some h0 h1
  rw [ix_t hx]; exact h x hm
theorem pick_s {z : Str} {r : Int} (h0 : 0 ≤ r) (h1 : r < z.length) (h : ∀ c ∈ z.cps.toList, Q (.str (one c)) M) : dIx (.str z) (.int r) M Q := by
  obtain ⟨x, hx, hm⟩ := atI_some (xs := z.cps.toList) h0 (by rw [Array.length_toList]; exact h1)
  unfold dIx
  simp only [dgetD, res_str, hx]
  exact h x hm
theorem ix_strs {ws : List Str} {i : Nat} {w : Str} (h : ws[i]? = some w) : dIx (stL ws) (.int (i : Int)) M Q = Q (.str w) M :=
  ix_l (by rw [atI_n, List.getElem?_map, h]; rfl)
theorem eq_i {neg : Bool} {i j : Nat} : dEq neg (.int (i : Int)) (.int (j : Int)) M Q = Q (.bl (xor neg (decide (i = j)))) M := by
  rw [eq_int]
  have : decide ((i : Int) = (j : Int)) = decide (i = j) := decide_eq_decide.mpr (by omega)
  rw [this]
theorem take_call {b : Addr} {n : Int} {E : DX → Mst → Prop} (hb : M b = some .bag) (h0 : 0 < n) (h1 : n < 1073741824) (h : ∀ r : Int, 0 ≤ r → r < n → Q (.int r) M) : spTake [.ref b, .int n] M Q E := ⟨b, n, rfl, hb, h0, h1, h⟩
end
theorem ne_of_some {M : Mst} {a b : Addr} {o : MO} (h : M a = some o) (g : M b = none) : a ≠ b := fun e => by rw [e, g] at h; cases h
theorem put_keep {M : Mst} {a b : Addr} {o u : MO} (h : M a = some o) (g : M b = none) : put M b u a = some o := by rw [put_ne (ne_of_some h g)]; exact h
theorem range_at {n : Nat} {i : Nat} {d : D} (h : (rangeD 0 n)[i]? = some d) : i < n ∧ d = .int (i : Int) := by
  have h1 := (List.getElem?_eq_some_iff.mp h).1
  have hi : i < n := by simpa [rangeD] using h1
  refine ⟨hi, ?_⟩
  simp [rangeD, hi] at h; exact h.symm
@[simp] theorem rangeD_len {lo : Int} {n : Nat} : (rangeD lo n).length = n := by simp [rangeD]
theorem glue_ones : ∀ (r : List Nat) (acc : Array Nat), (r.map one).foldl (fun acc (p : Str) => acc ++ (lit "").cps ++ p.cps) acc = acc ++ r.toArray
  | [], acc => by simp
  | c :: r, acc => by
    rw [List.map_cons, List.foldl_cons, glue_ones r, show (lit "").cps = #[] by decide +kernel]
    apply Array.toList_inj.mp; simp
theorem join_ones (cs : List Nat) : Txt.join (lit "") (cs.map one) = ⟨cs.toArray⟩ := by
  unfold Txt.join Builtin.Str.glued
  cases cs with
  | nil => rfl
  | cons c r =>
    simp only [List.map_cons, List.drop_succ_cons, List.drop_zero, List.headD_cons]
    rw [glue_ones]
    congr 1
    apply Array.toList_inj.mp; simp
theorem ones_sum (cs : List Nat) : ((cs.map one).map (·.length)).sum = cs.length := by
  induction cs with
  | nil => rfl
  | cons c r ih => simp only [List.map_cons, List.sum_cons, ih, List.length_cons]; show 1 + _ = _; omega
/-- ''.join(signs drawn) -/
theorem join_signs {cs : List Nat} {M : Mst} {Q : DK} (hp : ∀ c ∈ cs, c < 55296) (hl : cs.length ≤ 100000) (h : Q (.str ⟨cs.toArray⟩) M) : mJoin (.str (lit "")) [.lst ((cs.map one).map .str)] M Q := by
  have e0 : (lit "").length = 0 := by decide +kernel
  simp only [mJoin, res_str, res_lst, strsD_map, join_ones, ones_sum, e0]
  refine ⟨by simp; exact hl, ⟨by show cs.toArray.size ≤ 100000; simpa using hl, ?_⟩, h⟩
  unfold PyData.strOk
  rw [← Array.all_toList, List.all_eq_true]
  intro c hc
  have := hp c (by simpa using hc)
  exact decide_eq_true (by omega)
structure Tx_ (n : Nat) (x : Str) : Prop where
  pr : Pr x
  len : x.length ≤ n
theorem Tx_.ok {n : Nat} {x : Str} (h : Tx_ n x) (hn : n ≤ 100000) : okS x := pr_ok h.pr (Nat.le_trans h.len hn)
theorem Tx_.mono {n m : Nat} {x : Str} (h : Tx_ n x) (hn : n ≤ m) : Tx_ m x := ⟨h.pr, Nat.le_trans h.len hn⟩
end DL
namespace DL
open PySem L2
theorem lookup_zip {α : Type} {f : Str} : ∀ {fs : List Str} {i : Nat}, fs.findIdx? (fun z => z == f) = some i → ∀ {ns : List Str} {ds : List α} {y : α}, ns = fs.take ns.length → ds.length = ns.length → ds[i]? = some y → (ns.zip ds).lookup f = some y
  | [], i, h, _, _, _, _, _, _ => by simp at h
  | g :: fs, i, h, ns, ds, y, e, l, hy => by
    cases ns with
    | nil =>
      have : ds = [] := List.eq_nil_of_length_eq_zero (by simpa using l)
      subst this; simp at hy
    | cons n ns =>
      cases ds with
      | nil => simp at l
      | cons d ds =>
        simp only [List.length_cons, List.take_succ_cons, List.cons.injEq] at e
        obtain ⟨rfl, e⟩ := e
        rw [List.findIdx?_cons] at h
        show List.lookup f ((n, d) :: ns.zip ds) = some y
        by_cases hn : (n == f) = true
        · rw [if_pos hn] at h
          cases h
          have hf : (f == n) = true := by rw [beq_iff_eq] at hn ⊢; exact hn.symm
          rw [List.lookup_cons, hf]
          simpa using hy
        · rw [if_neg hn] at h
          obtain ⟨j, hj, rfl⟩ := Option.map_eq_some_iff.mp h
          have hf : (f == n) = false := by
            rw [Bool.eq_false_iff]; intro z; rw [beq_iff_eq] at z; exact hn (by rw [beq_iff_eq]; exact z.symm)
          rw [List.lookup_cons, hf]
          exact lookup_zip hj e (by simpa using l) (by simpa using hy)
theorem lookup_none {α : Type} {f : Str} {fs ns : List Str} {ds : List α} (h : f ∉ fs) (e : ns = fs.take ns.length) : (ns.zip ds).lookup f = none := by
  rw [List.lookup_eq_none_iff]
  intro p hp
  have hm : p.1 ∈ ns := (List.of_mem_zip (show (p.1, p.2) ∈ ns.zip ds from hp)).1
  rw [e] at hm
  have := List.mem_of_mem_take hm
  rw [bne_iff_ne]
  intro z
  exact h (z ▸ this)
/-- what an instance's fields are now -/
def insD (M : Mst) (x : D) : Option (Addr × List Str × List D) := match res M x with
  | .ins C ns ds => some (C, ns, ds)
  | _ => none
theorem as_insD {K : PySem.W.Frag} {G H : Hp} {p : Rho} {M : Mst} {s : L2.St} {x : D} {v : V} {C : Addr} {ns : List Str} {ds : List D} (S : Sim K G H p M s) (r : Rep K G x v) (h : insD M x = some (C, ns, ds)) :
    ∃ a dx fv, v = .ref a ∧ H a = some (.ins C dx fv) ∧ fv.map (·.1) = ns ∧ RepL K G ds (fv.map (·.2)) := by
  unfold insD at h
  split at h
  · next e => cases h; exact as_ins S r e
  · cases h
/-- e.f, the field at place i of fs -/
def qFld (C : Addr) (fs : List Str) (i : Nat) (qe : DTE) : DTE := fun DW p M Q => qe DW p M fun x M1 => match insD M1 x with
  | some (C', ns, ds) => C' = C ∧ ns = fs.take ns.length ∧ match ds[i]? with
    | some y => Q y M1
    | none => False
  | none => False
section
variable {X : Cx} {W : WX} {e o : Expr} {te to : TE} {qe qo : DTE} {f : Str} {pos pos' : Pos} {C : Addr} {fs : List Str} {i : Nat}
theorem q_fld (cl : Cls X.K C) (n : NoAttr X.K C f) (he : QE X W e te qe) (hi : fs.findIdx? (fun z => z == f) = some i) (hb : attributeBase e f X.env (eval e X.env) = eval e X.env := by rfl) :
    QE X W (.Attribute e f pos) (tFld X.K te f) (qFld C fs i qe) :=
  ⟨pe_fld he.pe hb, fun DW G H p M s Q Q' hw S h k => he.rf DW G H p M s _ _ hw S h fun G1 H1 M1 x v e1 S1 r1 h1 => by
    split at h1
    · next C' ns ds eo =>
      obtain ⟨rfl, hn, h1⟩ := h1
      obtain ⟨a, dx, fv, rfl, g1, g2, g3⟩ := as_insD S1 r1 eo
      split at h1
      · next y ey =>
        obtain ⟨w, ew, rw_⟩ := g3.get ey
        refine ⟨a, C', dx, fv, w, rfl, g1, cl, n, ?_, k G1 H1 M1 y w e1 S1 rw_ h1⟩
        have hl := g3.length
        have hln : (fv.map (·.2)).length = ns.length := by rw [← g2]; simp
        have := lookup_zip (ds := fv.map (·.2)) hi hn hln ew
        rw [← g2, zip_fs] at this
        exact this
      · exact h1.elim
    · exact h1.elim⟩
end
/-- o.f = e: the field at place i of fs -/
def setAt (i : Nat) (f : Str) (y : D) (cur : List (Str × D)) : List (Str × D) := if i < cur.length then cur.set i (f, y) else cur ++ [(f, y)]
def qSetF (C : Addr) (fs : List Str) (i : Nat) (f : Str) (qo qe : DTE) : DTS := fun DW DE p M => qe DW p M fun y M1 => qo DW p M1 fun x M2 => match x with
  | .ref a => match M2 a with
    | some (.ins C' cur) => C' = C ∧ cur.map (·.1) = fs.take cur.length ∧ i ≤ cur.length ∧ fs.length < 900 ∧ DE.nx p (put M2 a (.ins C (setAt i f y cur)))
    | _ => False
  | _ => False
theorem putF_names {f : Str} {y : V} : ∀ {cur : List (Str × V)} {fs : List Str} {i : Nat}, fs.findIdx? (fun z => z == f) = some i → cur.map (·.1) = fs.take cur.length → i ≤ cur.length →
    putF f y cur = if i < cur.length then cur.set i (f, y) else cur ++ [(f, y)]
  | [], fs, i, h, e, hi => by
    have : i = 0 := by simpa using hi
    subst this; rfl
  | (g, x) :: r, [], i, h, e, hi => by simp at h
  | (g, x) :: r, n :: fs, i, h, e, hi => by
    simp only [List.map_cons, List.length_cons, List.take_succ_cons, List.cons.injEq] at e
    obtain ⟨e0, e⟩ := e
    subst e0
    rw [List.findIdx?_cons] at h
    show (if g = f then (g, y) :: r else (g, x) :: putF f y r) = _
    by_cases hn : g = f
    · rw [if_pos (by rw [beq_iff_eq]; exact hn)] at h
      cases h
      subst hn
      rw [if_pos rfl, if_pos (by simp)]
      rfl
    · rw [if_neg (by rw [beq_iff_eq]; exact hn)] at h
      obtain ⟨j, hj, rfl⟩ := Option.map_eq_some_iff.mp h
      rw [if_neg hn, putF_names hj e (by simpa using hi)]
      simp only [List.length_cons, Nat.add_lt_add_iff_right, List.set_cons_succ]
      split <;> rfl
theorem take_le_len {α β : Type} {cur : List α} {g : α → β} {fs : List β} (e : cur.map g = fs.take cur.length) : cur.length ≤ fs.length := by
  have := congrArg List.length e
  simp at this; omega
section
variable {X : Cx} {W : WX} {e o : Expr} {te to : TE} {qe qo : DTE} {f : Str} {pos pos' : Pos} {C : Addr} {fs : List Str} {i : Nat}
theorem map_set_fst {α β : Type} {l : List (α × β)} {i : Nat} {q : α × β} : (l.set i q).map (·.1) = (l.map (·.1)).set i q.1 := by rw [List.map_set]
theorem qs_setF (cl : Cls X.K C) (n : NoAttr X.K C f) (ho : QE X W o to qo) (he : QE X W e te qe) (hi : fs.findIdx? (fun z => z == f) = some i) (hs : swapsWith e (some (.Attribute o f pos')) pos.line X.env = pure false := by rfl) :
    QS X W (.Assign [.Attribute o f pos'] e pos) (sFld X.K to te f) (qSetF C fs i f qo qe) :=
  ⟨ps_fld ho.pe he.pe hs, fun DW G H p M s DE E hw S h k => he.rf DW G H p M s _ _ hw S h fun G1 H1 M1 y v e1 S1 r1 h1 => ho.rf DW G1 H1 p M1 s _ _ (hw.mono e1) S1 h1 fun G2 H2 M2 x u e2 S2 r2 h2 => by
    split at h2
    · next a =>
      cases r2
      split at h2
      · next C' cur em =>
        obtain ⟨rfl, hn, hl, hf, h2⟩ := h2
        obtain ⟨gn, dx, fv, g1, g2, g3⟩ := S2.mem _ _ em
        have len : fv.length = cur.length := by have := congrArg List.length g2; simpa using this
        have hle := take_le_len hn
        have hn' : fv.map (·.1) = fs.take fv.length := by rw [g2, hn, len]
        refine ⟨a, C', dx, fv, rfl, g1, cl, n, by omega, ?_⟩
        have pf : putF f v fv = if i < fv.length then fv.set i (f, v) else fv ++ [(f, v)] := putF_names hi hn' (by omega)
        have rm : RepM X.K G2 (upd H2 a (.ins C' dx (putF f v fv))) a (.ins C' (setAt i f y cur)) := by
          refine ⟨dx, _, upd_same, ?_, ?_⟩
          · rw [pf]; unfold setAt
            rw [len]
            by_cases hc : i < cur.length
            · rw [if_pos hc, if_pos hc, map_set_fst, map_set_fst, g2]
            · rw [if_neg hc, if_neg hc, List.map_append, List.map_append, g2]; rfl
          · rw [pf]; unfold setAt
            rw [len]
            have r1' := Rep.mono e2 _ _ r1
            by_cases hc : i < cur.length
            · rw [if_pos hc, if_pos hc, List.map_set, List.map_set]
              exact g3.set i r1'
            · rw [if_neg hc, if_neg hc, List.map_append, List.map_append]
              exact g3.append (RepL.cons r1' rfl)
        exact k.nx G2 _ p _ s (e1.trans e2) (S2.put gn rm) h2
      · exact h2.elim
    · exact h2.elim⟩
end
def tMethSD (C : Addr) (m : Str) (sp : Sp) (dvs : List V) (E : L2.St → XK) (ta : TE) (t : TA) : TE := fun σ H Q => ta σ H fun x H1 => ∃ a dx fs, x = .ref a ∧ H1 a = some (.ins C dx fs) ∧ fs.lookup m = none ∧
  t σ H1 fun vs H2 => sp (x :: (vs ++ dvs)) H2 Q (E σ)
def isObj (M : Mst) (x : D) (C : Addr) (fs : List Str) : Prop := match insD M x with
  | some (C', ns, _) => C' = C ∧ ns = fs.take ns.length
  | none => False
def qMeth (C : Addr) (fs : List Str) (P : DSp) (dds : List D) (qo : DTE) (qa : DTA) : DTE := fun DW p M Q => qo DW p M fun x M1 => isObj M1 x C fs ∧ qa DW p M1 fun ds M2 => P (x :: (ds ++ dds)) M2 Q fun z M3 => DW z p M3
section
variable {X : Cx} {W : WX} {k n : Nat} {C f : Addr} {fd : FuncData} {fs ps ks : List Str} {P : DSp} {dds : List D} {dvs : List V} {ds : List Value} {x m : Str} {p pos apos : Pos} {e o : Expr} {es : List Expr} {kws : List Keyword} {to : TE} {qo : DTE} {t tk : TA} {q qk : DTA} {idx : List Nat}
theorem obj_at {K : PySem.W.Frag} {G H : Hp} {p : Rho} {M : Mst} {s : L2.St} {x : D} {v : V} (S : Sim K G H p M s) (r : Rep K G x v) (h : isObj M x C fs) (hm : m ∉ fs) : ∃ a dx fv, v = .ref a ∧ H a = some (.ins C dx fv) ∧ fv.lookup m = none := by
  unfold isObj at h
  split at h
  · next C' ns ds eo =>
    obtain ⟨rfl, hn⟩ := h
    obtain ⟨a, dx, fv, rfl, g1, g2, g3⟩ := as_insD S r eo
    refine ⟨a, dx, fv, rfl, g1, ?_⟩
    have := lookup_none (ds := fv.map (·.2)) hm hn
    rw [← g2, zip_fs] at this
    exact this
  · exact h.elim
theorem ref_meth {K : PySem.W.Frag} (ho : RefE K W to qo) (ha : RefA K W t q) (hm : m ∉ fs) (hd : ∀ G, RepL K G dds dvs) : RefE K W (tMethSD C m (toSp K P) dvs (fun s => WE W s) to t) (qMeth C fs P dds qo q) :=
  fun DW G H p M s Q Q' hw S h k => ho DW G H p M s _ _ hw S h fun G1 H1 M1 x v e1 S1 r1 ⟨ob, h1⟩ => by
    obtain ⟨a, dx, fv, rfl, g1, g2⟩ := obj_at S1 r1 ob hm
    refine ⟨a, dx, fv, rfl, g1, g2, ha DW G1 H1 p M1 s _ _ (hw.mono e1) S1 h1 fun G2 H2 M2 as vs e2 S2 r2 h2 => ?_⟩
    exact toSp_at (hw.mono (e1.trans e2)) S2 (RepL.cons (Rep.mono e2 _ _ r1) (RepL.append r2 (hd _))) h2 fun G' H' M' d v e3 => k G' H' M' d v ((e1.trans e2).trans e3)
/-- o.m(e, ..) -/
theorem q_meth {pl : Sem Bool} (cl : Cls X.K C) (hm : Meth X.K C m f) (F : FnOk X.prog X.w X.K X.mg X.base (L2.CX X.prog X.w) k f fd ps (toSp X.K P)) (hr : Room k X.A) (tk : Takes X W) (hb : Binds X.K fd ps ds) (hd : Vals dvs ds) (hdd : ∀ G, RepL X.K G dds dvs)
    (ho : QE X W o to qo) (ha : QA X W (e :: es) t q) (hmf : m ∉ fs)
    (hst : starEach (e :: es) X.env = (false, eval e X.env) :: starEach es X.env := by rfl) (hpl : (backTo pos (starEach es X.env)).any (·.1) = false := by rfl)
    (ht : eval (.Call (.Attribute o m apos) (e :: es) [] pos) X.env = (do
      let ov ← eval o X.env
      standAt apos.atName
      let (f, first) ← holding [ov] (getMethod ov m pl)
      callWith pos f first (backTo pos (starEach (e :: es) X.env)) (backToKw pos (keywordEach [] X.env))) := by rfl) :
    QE X W (.Call (.Attribute o m apos) (e :: es) [] pos) (tMethSD C m (toSp X.K P) dvs (fun s => WE W s) to t) (qMeth C fs P dds qo q) := by
  refine ⟨⟨fun pins s σ H Q I h => ?_⟩, ref_meth ho.rf ha.rf hmf hdd⟩
  refine PySem.W.methodCall_KW (pl := pl) (thn (ho.pe.run pins s σ H _ I h) fun u s1 ⟨x, H1, I1, rx, a, dx, fv, ex, ea, l, q⟩ => ?_) ht
  subst ex
  obtain rfl : u = Value.ref a := rx
  refine getmeth_ok I1 ea cl hm l ?_
  refine PySem.W.callWith_K (first := [.ref a]) (h₀ := X.base) I.ok.mod.kin hm.kp (thn (ha.pe.run pos pins s1 σ H1 _ I1 q) fun us s2 ⟨vs, H2, I2, r, q2⟩ => ⟨I2.kIn, ?_⟩) hst hpl
  exact run_fnSD (us := .ref a :: us) (vs := .ref a :: vs) (E := fun s => WE W s) F hr hb hd (passAt tk σ) I2 (.cons rfl r) q2
/-- o.m(e, .., k = v, ..): self and n values, the keywords ks -/
def tMethKw (C : Addr) (mm : Str) (n m : Nat) (sp : Sp) (idx : List Nat) (E : L2.St → XK) (ta : TE) (t tk : TA) : TE := fun σ H Q => ta σ H fun x H1 => ∃ a dx fs, x = .ref a ∧ H1 a = some (.ins C dx fs) ∧ fs.lookup mm = none ∧
  t σ H1 fun vs H2 => tk σ H2 fun zs H3 => (x :: vs).length = n ∧ zs.length = m ∧ sp (pickL idx (x :: vs ++ zs)) H3 Q (E σ)
def qMethKw (C : Addr) (fs : List Str) (n m : Nat) (P : DSp) (idx : List Nat) (qo : DTE) (qa qk : DTA) : DTE := fun DW p M Q => qo DW p M fun x M1 => isObj M1 x C fs ∧ qa DW p M1 fun ds M2 => qk DW p M2 fun zs M3 => (x :: ds).length = n ∧ zs.length = m ∧ P (pickL idx (x :: ds ++ zs)) M3 Q fun z M4 => DW z p M4
theorem ref_methKw {K : PySem.W.Frag} {mm : Str} {j l : Nat} (ho : RefE K W to qo) (ha : RefA K W t q) (hk : RefA K W tk qk) (hm : mm ∉ fs) : RefE K W (tMethKw C mm j l (toSp K P) idx (fun s => WE W s) to t tk) (qMethKw C fs j l P idx qo q qk) :=
  fun DW G H p M s Q Q' hw S h k => ho DW G H p M s _ _ hw S h fun G1 H1 M1 x v e1 S1 r1 ⟨ob, h1⟩ => by
    obtain ⟨a, dx, fv, rfl, g1, g2⟩ := obj_at S1 r1 ob hm
    refine ⟨a, dx, fv, rfl, g1, g2, ha DW G1 H1 p M1 s _ _ (hw.mono e1) S1 h1 fun G2 H2 M2 as vs e2 S2 r2 h2 => hk DW G2 H2 p M2 s _ _ (hw.mono (e1.trans e2)) S2 h2 fun G3 H3 M3 bs zs e3 S3 r3 h3 => ?_⟩
    obtain ⟨l1, l2, h3⟩ := h3
    refine ⟨by rw [← l1]; simp [r2.length], by rw [← l2, r3.length], ?_⟩
    have rr : RepL K G3 (x :: as ++ bs) (.ref a :: vs ++ zs) := RepL.append (RepL.cons (Rep.mono (e2.trans e3) _ _ r1) (RepL.mono e3 _ _ r2)) r3
    exact toSp_at (hw.mono ((e1.trans e2).trans e3)) S3 (pick_rep rr idx) h3 fun G' H' M' d v e4 => k G' H' M' d v (((e1.trans e2).trans e3).trans e4)
theorem q_methK0 {pl : Sem Bool} (cl : Cls X.K C) (hm : Meth X.K C m f) (F : FnOk X.prog X.w X.K X.mg X.base (L2.CX X.prog X.w) k f fd ps (toSp X.K P)) (hr : Room k X.A) (tkk : Takes X W) (hb : KwB X.K fd ps 1 ks idx)
    (ho : QE X W o to qo) (hkw : QK X W kws tk qk) (hmf : m ∉ fs) (hall : (backToKw pos (keywordEach kws X.env)).all (·.1.isSome) = true := by rfl) (hks : (backToKw pos (keywordEach kws X.env)).filterMap (·.1) = ks := by rfl)
    (hpl : ((backTo pos (starEach [] X.env)).any (·.1) || (backToKw pos (keywordEach kws X.env)).any (·.1.isNone)) = false := by rfl)
    (ht : eval (.Call (.Attribute o m apos) [] kws pos) X.env = (do
      let ov ← eval o X.env
      standAt apos.atName
      let (f, first) ← holding [ov] (getMethod ov m pl)
      callWith pos f first (backTo pos (starEach [] X.env)) (backToKw pos (keywordEach kws X.env))) := by rfl) :
    QE X W (.Call (.Attribute o m apos) [] kws pos) (tMethKw C m 1 ks.length (toSp X.K P) idx (fun s => WE W s) to tNil tk) (qMethKw C fs 1 ks.length P idx qo qNil qk) := by
  refine ⟨⟨fun pins s σ H Q I h => ?_⟩, ref_methKw ho.rf (qa_nil (X := X) (W := W)).rf hkw.rf hmf⟩
  refine PySem.W.methodCall_KW (pl := pl) (thn (ho.pe.run pins s σ H _ I h) fun u s1 ⟨x, H1, I1, rx, a, dx, fv, ex, ea, l, q⟩ => ?_) ht
  subst ex
  obtain rfl : u = Value.ref a := rx
  refine getmeth_ok I1 ea cl hm l ?_
  refine PySem.W.callWith_KW0 (first := [.ref a]) (h₀ := X.base) I.ok.mod.kin hm.kp hall (thn (hkw.pe.run pos pins s1 σ H1 _ I1 q) fun ws s3 ⟨zs, H3, I3, rz, l1, l2, q2⟩ => ⟨I3.kIn, ?_⟩) hpl
  rw [hks]
  exact run_kw (us := [.ref a]) (vs := [.ref a]) (E := fun s => WE W s) F hr hb (passAt tkk σ) I3 (.cons rfl .nil) rz l1 l2 q2
end
def tMakeSD (C : Addr) (sp : Sp) (dvs : List V) (E : L2.St → XK) (t : TA) : TE := fun σ H Q => t σ H fun vs H1 => ∀ x dx, H1 x = none → H1 dx = none → dx ≠ x →
  sp (.ref x :: (vs ++ dvs)) (upd (upd H1 dx (.own x)) x (.ins C dx [])) (fun v H2 => v = .non ∧ Q (.ref x) H2) (E σ)
def qMake (C : Addr) (P : DSp) (dds : List D) (qa : DTA) : DTE := fun DW p M Q => qa DW p M fun ds M1 => ∀ a, M1 a = none → P (.ref a :: (ds ++ dds)) (put M1 a (.ins C [])) (fun d M2 => d = .non ∧ Q (.ref a) M2) fun z M3 => DW z p M3
section
variable {X : Cx} {W : WX} {k n : Nat} {C f : Addr} {fd : FuncData} {ps ks : List Str} {P : DSp} {dds : List D} {dvs : List V} {ds : List Value} {x : Str} {p pos : Pos} {e : Expr} {es : List Expr} {kws : List Keyword} {t tk : TA} {q qk : DTA} {idx : List Nat}
theorem isNon_v {K : PySem.W.Frag} {G : Hp} {d : D} {v : V} (r : Rep K G d v) (h : d = .non) : v = .non := by subst h; exact r
/-- the new instance stands: from its promise by data -/
theorem made_sim {K : PySem.W.Frag} {G H : Hp} {p : Rho} {M : Mst} {s : L2.St} (S : Sim K G H p M s) {a dx : Addr} (ha : H a = none) (hdx : H dx = none) (hn : dx ≠ a) : M a = none ∧ Sim K G (upd (upd H dx (.own a)) a (.ins C dx [])) p (put M a (.ins C [])) s := by
  refine ⟨S.mem.fresh ha, ?_⟩
  have S1 : Sim K G (upd H dx (.own a)) p M s := sim_laid S hdx
  exact S1.put (S1.same.free (by rw [upd_ne hn.symm]; exact ha)) ⟨dx, [], upd_same, rfl, rfl⟩
theorem run_fnE {sp : Sp} {E : L2.St → XK} {CX : CXT} {pins : List (Addr × Obj)} {σ : L2.St} {H : Hp} {s : Shared} {Q : VK} {us ws args : List Value} {vs : List V} (hargs : Vals vs args) (M : Mk X.K C f) (F : FnOk X.prog X.w X.K X.mg X.base CX k f fd ps sp) (hr : Room (k + 1) X.A)
    (hb : ∀ s : Shared, X.K.In s.heap → BindsTo s fd ⟨Value.ref (σ0 + 1) :: us, ks.zip ws⟩ (ps.zip args)) (hx : PassesAt CX X σ (E σ)) (I : Inv X pins σ H s) (e0 : s.heap.objs.size = σ0)
    (h : ∀ dx, H (σ0 + 1) = none → H dx = none → dx ≠ σ0 + 1 → sp vs (upd (upd H dx (.own (σ0 + 1))) (σ0 + 1) (.ins C dx [])) (fun v H2 => v = .non ∧ Q (.ref (σ0 + 1)) H2) (E σ)) :
    wpAny (model X.prog X.w) X.A (call (.ref C) us (ks.zip ws)) (EP X pins σ Q) X.xe s := by
  subst e0
  have hq := h s.heap.objs.size (I.hok.fresh (Nat.le_succ _)) (I.hok.fresh (Nat.le_refl _)) (Nat.ne_of_lt (Nat.lt_succ_self _))
  have I2 := Inv.made (C := C) I
  refine wpAny_call (make_map (f := f) I.kIn M.makes M.init (beq_iff_eq.mp M.fn) (codeAny_mono (F.run _ X.stack _ _ ⟨Value.ref (s.heap.objs.size + 1) :: us, ks.zip ws⟩ args vs _ (E σ) (hr.make C us (ks.zip ws))
    (I2.env0.make C us (ks.zip ws)) (hb _ I2.kIn) hargs hq) fun r s' hq' => ?_))
  cases r with
  | error e => exact hx pins _ _ e s' I2 hq'
  | ok fl =>
    cases fl with
    | ret u =>
      obtain ⟨v, H', I3, rv, ev, q3⟩ := I2.after hq'
      subst ev
      exact ⟨rv, ⟨V.ref (s.heap.objs.size + 1), H', I3, rfl, q3⟩⟩
    | next => exact False.elim hq'
    | brk => exact False.elim hq'
    | cont => exact False.elim hq'
theorem run_mk {sp : Sp} {E : L2.St → XK} {CX : CXT} {pins : List (Addr × Obj)} {σ : L2.St} {H : Hp} {s : Shared} {Q : VK} {us : List Value} {vs : List V} (M : Mk X.K C f) (F : FnOk X.prog X.w X.K X.mg X.base CX k f fd ps sp) (hr : Room (k + 1) X.A) (hb : Binds X.K fd ps ds) (hd : Vals dvs ds)
    (hx : PassesAt CX X σ (E σ)) (I : Inv X pins σ H s) (r : Vals vs us)
    (h : ∀ x dx, H x = none → H dx = none → dx ≠ x → sp (.ref x :: (vs ++ dvs)) (upd (upd H dx (.own x)) x (.ins C dx [])) (fun v H2 => v = .non ∧ Q (.ref x) H2) (E σ)) :
    wpAny (model X.prog X.w) X.A (call (.ref C) us) (EP X pins σ Q) X.xe s := by
  have r2 : Vals (V.ref (s.heap.objs.size + 1) :: (vs ++ dvs)) (Value.ref (s.heap.objs.size + 1) :: (us ++ ds)) := .cons rfl (r.append hd)
  refine run_fnE (ks := []) (ws := []) r2 M F hr (fun s' hi => ?_) hx I rfl fun dx h1 h2 h3 => h _ dx h1 h2 h3
  have hq := h (s.heap.objs.size + 1) s.heap.objs.size (I.hok.fresh (Nat.le_succ _)) (I.hok.fresh (Nat.le_refl _)) (Nat.ne_of_lt (Nat.lt_succ_self _))
  have hl : (Value.ref (s.heap.objs.size + 1) :: us ++ ds).length = ps.length := by
    have e := r2.length
    rw [F.len _ _ _ _ hq] at e
    exact e.symm
  exact hb s' (Value.ref (s.heap.objs.size + 1) :: us) hi hl
theorem ref_make {K : PySem.W.Frag} (ha : RefA K W t q) (hd : ∀ G, RepL K G dds dvs) : RefE K W (tMakeSD C (toSp K P) dvs (fun s => WE W s) t) (qMake C P dds q) :=
  fun DW G H p M s Q Q' hw S h k => ha DW G H p M s _ _ hw S h fun G1 H1 M1 as vs e1 S1 r1 h1 a dx ha' hdx hn => by
    obtain ⟨mn, S2⟩ := made_sim (C := C) S1 ha' hdx hn
    exact toSp_at (hw.mono e1) S2 (RepL.cons (d := .ref a) rfl (RepL.append r1 (hd _))) (h1 a mn) fun G' H' M' d v e3 S3 r3 ⟨hd', q3⟩ => ⟨isNon_v r3 hd', k G' H' M' (.ref a) (.ref a) (e1.trans e3) S3 rfl q3⟩
/-- C(e, ..) -/
theorem q_make (Mk_ : Mk X.K C f) (F : FnOk X.prog X.w X.K X.mg X.base (L2.CX X.prog X.w) k f fd ps (toSp X.K P)) (hr : Room (k + 1) X.A) (tk : Takes X W) (hg : Gl X x) (hm : X.mg x = some (.ref C)) (hb : Binds X.K fd ps ds) (hd : Vals dvs ds) (hdd : ∀ G, RepL X.K G dds dvs)
    (ha : QA X W (e :: es) t q) (hdb : (x == ("__debug__" : Str)) = false := by decide) (he : starEach (e :: es) X.env = (false, eval e X.env) :: starEach es X.env := by rfl) (hpl : (backTo pos (starEach es X.env)).any (·.1) = false := by rfl) :
    QE X W (.Call (.Name x p) (e :: es) [] pos) (tMakeSD C (toSp X.K P) dvs (fun s => WE W s) t) (qMake C P dds q) := by
  refine ⟨⟨fun pins s σ H Q I h => ?_⟩, ref_make ha.rf hdd⟩
  refine wpAny_Call_Name_kw (ld_glob I hg hm ?_ hdb)
  refine PySem.W.callWith_K (h₀ := X.base) I.ok.mod.kin Mk_.kp (thn (ha.pe.run pos pins s σ H _ I h) fun us s1 ⟨vs, H1, I1, r, q⟩ => ⟨I1.kIn, ?_⟩) he hpl
  exact run_mk (E := fun s => WE W s) Mk_ F hr hb hd (passAt tk σ) I1 r q
end
def qFrzE (q : DTE) : DTE := fun DW p M Q => q DW p M fun d M1 => match d with
  | .ref a => match M1 a with
    | some (.lst ds) => Q (.lst ds) (del M1 a)
    | some (.dK kvs) => Q (.dct (kvs.map (·.1)) (kvs.map (·.2))) (del M1 a)
    | some (.ins C fs) => Q (.ins C (fs.map (·.1)) (fs.map (·.2))) (del M1 a)
    | _ => False
  | d => Q d M1
theorem q_frzE {X : Cx} {W : WX} {e : Expr} {t : TE} {q : DTE} (h : QE X W e t q) : QE X W e t (qFrzE q) :=
  ⟨h.pe, fun DW G H p M s Q Q' hw S hq k => h.rf DW G H p M s _ _ hw S hq fun G1 H1 M1 d v e1 S1 r1 h1 => by
    split at h1
    · next a =>
      cases r1
      split at h1
      · next ds em =>
        obtain ⟨G', e2, S', r⟩ := S1.freeze em
        exact k G' H1 _ _ _ (e1.trans e2) S' r h1
      · next ds em =>
        obtain ⟨G', e2, S', r⟩ := S1.freezeD em
        exact k G' H1 _ _ _ (e1.trans e2) S' r h1
      · next C fs em =>
        obtain ⟨G', e2, S', r⟩ := S1.freezeI em
        exact k G' H1 _ _ _ (e1.trans e2) S' r h1
      · exact h1.elim
    · exact k G1 H1 M1 _ v e1 S1 r1 h1⟩
/-- an own class of the module -/
structure ClsO (K : PySem.W.Frag) (mg : Str → Option Value) (x : Str) (fs : List Str) where
  C : Addr
  g : mg x = some (.ref C)
  cl : Cls K C
  no : ∀ f ∈ fs, NoAttr K C f
/-- a method of it -/
structure MthAt (K : PySem.W.Frag) (C : Addr) (x qual : Str) (st : Stmt) (ps : List Str) where
  f : Addr
  fd : FuncData
  m : Meth K C x f
  F : Fun K x qual st f fd
  b : Binds K fd ps []
structure MthAtD (K : PySem.W.Frag) (C : Addr) (x qual : Str) (st : Stmt) (ps : List Str) (dvs : List V) where
  f : Addr
  fd : FuncData
  m : Meth K C x f
  F : FunD K x qual (defArgs st) (defBody st) (defScope st) dvs [] f fd
end DL
namespace DL
open PySem L2
section
variable {prog : Program} {w : World} {A : Around} {E : Value → Shared → Prop} {s : Shared}
theorem enum_endL {e it l : Addr} {i : Nat} {c : Int} {items : Array Value} {old : Value} {Q : Option Value → Shared → Prop} (hh : A.handled = none)
    (he : IsEnum s.heap e it c old) (hit : s.heap.IsListIter it l i) (hl : s.heap.IsList l items) (hx : items[i]? = none)
    (hQ : ∀ h', Heap.ExtBut it s.heap h' → Q none { s with heap := h' }) : wpAny (model prog w) A (pyNext (.ref e)) Q E s := by
  have hT : s.TypeIs (.ref e) "enumerate" := ⟨_, he, rfl⟩
  unfold pyNext
  refine wpAny_bind (wpAny_attempt (wpAny_callSpecial?_slot (name := Str.ofString "__next__") hT F.slot_enumerate_next
    (wpAny_call_entry F.slot_enumerate_next hT F.entry_enumerate_next ?_ (F.args_enumerate_next_1 _))))
  show wpAny _ _ (field (.ref e) 2 >>= _) _ _ _
  refine wpAny_bind (wpAny_field he rfl (x := .ref it) rfl ?_)
  refine wpAny_bind (wpAny_nextOf_list_end hh hit hl hx fun h' x he' hx' => ?_)
  obtain ⟨o, ho, hc⟩ := hx'
  refine wpAny_bind (wpAny_isInstance (T := "StopIteration") (b := true) ⟨o, ho, hc⟩ isSubtype_stop ?_)
  exact wpAny_pure (hQ _ he')
theorem enum_endT {e it l : Addr} {i : Nat} {c : Int} {items : Array Value} {old : Value} {Q : Option Value → Shared → Prop} (hh : A.handled = none)
    (he : IsEnum s.heap e it c old) (hit : s.heap.IsTupleIter it l i) (hl : s.heap.IsTuple l items) (hx : items[i]? = none)
    (hQ : ∀ h', Heap.ExtBut it s.heap h' → Q none { s with heap := h' }) : wpAny (model prog w) A (pyNext (.ref e)) Q E s := by
  have hT : s.TypeIs (.ref e) "enumerate" := ⟨_, he, rfl⟩
  unfold pyNext
  refine wpAny_bind (wpAny_attempt (wpAny_callSpecial?_slot (name := Str.ofString "__next__") hT F.slot_enumerate_next
    (wpAny_call_entry F.slot_enumerate_next hT F.entry_enumerate_next ?_ (F.args_enumerate_next_1 _))))
  show wpAny _ _ (field (.ref e) 2 >>= _) _ _ _
  refine wpAny_bind (wpAny_field he rfl (x := .ref it) rfl ?_)
  refine wpAny_bind (wpAny_nextOf_tuple_end hh hit hl hx fun h' x he' hx' => ?_)
  obtain ⟨o, ho, hc⟩ := hx'
  refine wpAny_bind (wpAny_isInstance (T := "StopIteration") (b := true) ⟨o, ho, hc⟩ isSubtype_stop ?_)
  exact wpAny_pure (hQ _ he')
end
/-- the list at a as it stands at each turn, each item in a new pair with its count -/
def IeL (K : PySem.W.Frag) (k : Int) (a : Addr) : It :=
  ⟨fun i H => ∃ (xs : List V) (x : V), SqL K H a xs ∧ xs[i]? = some x, fun i H v H' => ∃ T x, v = .ref T ∧ H T = none ∧ H' = upd H T (.tup [.int (k + (i : Nat)), x]) ∧ ∀ xs, SqL K H a xs → xs[i]? = some x, fun i H => ∃ xs : List V, SqL K H a xs ∧ xs.length ≤ i⟩
theorem turn_enumL {P : Program} {w : World} {K : PySem.W.Frag} {elts : List Expr} {kk : Nat} {tpos : Pos} (k : Int) (a e it : Addr) (hai : a ≠ it) (hae : a ≠ e) :
    Turn P w K (.Tuple elts kk tpos) (IeL K k a) [e, it] e (fun i h => (∃ old, IsEnum h e it (k + (i : Nat)) old) ∧ h.IsListIter it a i ∧ e ≠ it) where
  mem := by simp
  obj := fun i h st b hb => by
    obtain ⟨⟨old, he⟩, ⟨o, ho, hc, hd⟩, _⟩ := st
    have e' : b = e ∨ b = it := by simpa using hb
    rcases e' with z | z
    · rw [z]; exact ⟨_, he, fun v q => nomatch q⟩
    · rw [z]; exact ⟨o, ho, fun v q => by rw [hd] at q; cases q⟩
  keep := fun i h h' st k => let ⟨⟨old, he⟩, hi, hne⟩ := st; ⟨⟨old, k e (by simp) _ he⟩, hi.at fun o q => k it (by simp) o q, hne⟩
  item := by
    intro X hP hw hK hc i pins s σ H E I hf st hg
    subst hP hw hK
    obtain ⟨⟨old, he⟩, hit, hne⟩ := st
    obtain ⟨xs, x, hq, hx⟩ := hg
    obtain ⟨its, rv, p, hz⟩ := I.list hq
    obtain ⟨u, hu, ru⟩ := rv.get hx
    have hel : e < s.heap.objs.size := Heap.lt_size he
    have hil : it < s.heap.objs.size := by obtain ⟨_, q, _⟩ := hit; exact Heap.lt_size q
    have hlt : i < its.toArray.size := by
      have := (List.getElem?_eq_some_iff.mp hu).1
      simpa using this
    have D := Draws.list (prog := X.prog) (w := X.w) (A := X.A.in1) (by exact I.ok.hd hc) it a hai its.toArray
    refine wpAny_pyNext_enum_itemC D he ⟨hit, p.isList⟩ hlt hne (by simp [hne, Ne.symm hae]) fun y h' tk hy ho hit' hT hsz hk => ?_
    have ey : y = u := by
      have h2 : its.toArray[i]? = some u := by simpa using hu
      rw [h2] at hy; exact (Option.some.inj hy).symm
    subst ey
    obtain ⟨hit', hls'⟩ := hit'
    refine ⟨_, rfl, wpAny_letOwnedTupleGo_enum (s := { s with heap := h', toks := tk + 1 }) ho fun h'' he' sb => ?_⟩
    have hT2 : h''.get? s.heap.objs.size = some { cls := .type "tuple", data := .seq #[.int (k + (i : Nat)) tk, y] } := (sb.2 _ (Nat.ne_of_gt hel)).trans hT
    have new : ObjOk X.prog X.w (upd H s.heap.objs.size (.tup [.int (k + (i : Nat)), x])) h'' s.heap.objs.size (.tup [.int (k + (i : Nat)), x]) :=
      ⟨by show 2 ≤ sizeLine; decide, [.int (k + (i : Nat)) tk, y], .cons ⟨_, rfl⟩ (.cons ru .nil), ⟨_, hT2, rfl, _, rfl⟩⟩
    have I1 : Inv X pins σ (upd H s.heap.objs.size (.tup [.int (k + (i : Nat)), x])) { s with heap := h'', toks := tk + 1 } :=
      I.turnedNew (ch := [e, it]) (fun b ob hb q => (sb.2 b (fun z => hb (by simp [z]))).trans (hk b ob (fun z => hb (by simp [z])) (fun z => hb (by simp [z])) q)) hf (Nat.le_refl _) new
    refine ⟨.ref s.heap.objs.size, _, I1, rfl, ⟨_, x, rfl, I.hok.fresh (Nat.le_refl _), rfl, fun ys hy => by rw [I.list_inj hy hq]; exact hx⟩, ⟨⟨y, ?_⟩, hit'.at fun o q => (sb.2 it (Ne.symm hne)).trans q, hne⟩, fun b hb => ?_⟩
    · have e1 : k + ((i + 1 : Nat) : Int) = k + (i : Nat) + 1 := by omega
      rw [e1]; exact he'
    · have hb' : b < s.heap.objs.size := by
        have e' : b = e ∨ b = it := by simpa using hb
        rcases e' with z | z
        · rw [z]; exact hel
        · rw [z]; exact hil
      rw [upd_ne (Nat.ne_of_lt hb')]
      exact (hf b hb).1
  done := by
    intro X hP hw hK hc i pins s σ H E I hf st hg
    subst hP hw hK
    obtain ⟨⟨old, he⟩, hit, hne⟩ := st
    obtain ⟨xs, hq, hx⟩ := hg
    obtain ⟨its, rv, p, hz⟩ := I.list hq
    obtain ⟨f0, f1, f2, f3, f4, f5⟩ := hf it (by simp)
    have hl := rv.length
    have D := Draws.list (prog := X.prog) (w := X.w) (A := X.A.in1) (by exact I.ok.hd hc) it a hai its.toArray
    exact enum_endL (I.ok.hd hc) he hit (p.isList) (by simp; omega) fun h' eb => ⟨rfl, I.turned (t' := s.toks) (fun b o hb q => eb b o hb q) f0 f1 f3 f4 f5⟩
  self := fun A i s Q E st h => let ⟨⟨_, he⟩, _⟩ := st; wpAny_pyIter_enum he h
/-- the tuple at a as it stands at each turn, each item in a new pair with its count -/
def IeT (K : PySem.W.Frag) (k : Int) (a : Addr) : It :=
  ⟨fun i H => ∃ (xs : List V) (x : V), SqT K H a xs ∧ xs[i]? = some x, fun i H v H' => ∃ T x, v = .ref T ∧ H T = none ∧ H' = upd H T (.tup [.int (k + (i : Nat)), x]) ∧ ∀ xs, SqT K H a xs → xs[i]? = some x, fun i H => ∃ xs : List V, SqT K H a xs ∧ xs.length ≤ i⟩
theorem turn_enumT {P : Program} {w : World} {K : PySem.W.Frag} {elts : List Expr} {kk : Nat} {tpos : Pos} (k : Int) (a e it : Addr) (hai : a ≠ it) (hae : a ≠ e) :
    Turn P w K (.Tuple elts kk tpos) (IeT K k a) [e, it] e (fun i h => (∃ old, IsEnum h e it (k + (i : Nat)) old) ∧ h.IsTupleIter it a i ∧ e ≠ it) where
  mem := by simp
  obj := fun i h st b hb => by
    obtain ⟨⟨old, he⟩, ⟨o, ho, hc, hd⟩, _⟩ := st
    have e' : b = e ∨ b = it := by simpa using hb
    rcases e' with z | z
    · rw [z]; exact ⟨_, he, fun v q => nomatch q⟩
    · rw [z]; exact ⟨o, ho, fun v q => by rw [hd] at q; cases q⟩
  keep := fun i h h' st k => let ⟨⟨old, he⟩, hi, hne⟩ := st; ⟨⟨old, k e (by simp) _ he⟩, hi.at fun o q => k it (by simp) o q, hne⟩
  item := by
    intro X hP hw hK hc i pins s σ H E I hf st hg
    subst hP hw hK
    obtain ⟨⟨old, he⟩, hit, hne⟩ := st
    obtain ⟨xs, x, hq, hx⟩ := hg
    obtain ⟨its, rv, p, hz⟩ := I.tuple hq
    obtain ⟨u, hu, ru⟩ := rv.get hx
    have hel : e < s.heap.objs.size := Heap.lt_size he
    have hil : it < s.heap.objs.size := by obtain ⟨_, q, _⟩ := hit; exact Heap.lt_size q
    have hlt : i < its.toArray.size := by
      have := (List.getElem?_eq_some_iff.mp hu).1
      simpa using this
    have D := Draws.tuple (prog := X.prog) (w := X.w) (A := X.A.in1) (by exact I.ok.hd hc) it a hai its.toArray
    refine wpAny_pyNext_enum_itemC D he ⟨hit, p⟩ hlt hne (by simp [hne, Ne.symm hae]) fun y h' tk hy ho hit' hT hsz hk => ?_
    have ey : y = u := by
      have h2 : its.toArray[i]? = some u := by simpa using hu
      rw [h2] at hy; exact (Option.some.inj hy).symm
    subst ey
    obtain ⟨hit', hls'⟩ := hit'
    refine ⟨_, rfl, wpAny_letOwnedTupleGo_enum (s := { s with heap := h', toks := tk + 1 }) ho fun h'' he' sb => ?_⟩
    have hT2 : h''.get? s.heap.objs.size = some { cls := .type "tuple", data := .seq #[.int (k + (i : Nat)) tk, y] } := (sb.2 _ (Nat.ne_of_gt hel)).trans hT
    have new : ObjOk X.prog X.w (upd H s.heap.objs.size (.tup [.int (k + (i : Nat)), x])) h'' s.heap.objs.size (.tup [.int (k + (i : Nat)), x]) :=
      ⟨by show 2 ≤ sizeLine; decide, [.int (k + (i : Nat)) tk, y], .cons ⟨_, rfl⟩ (.cons ru .nil), ⟨_, hT2, rfl, _, rfl⟩⟩
    have I1 : Inv X pins σ (upd H s.heap.objs.size (.tup [.int (k + (i : Nat)), x])) { s with heap := h'', toks := tk + 1 } :=
      I.turnedNew (ch := [e, it]) (fun b ob hb q => (sb.2 b (fun z => hb (by simp [z]))).trans (hk b ob (fun z => hb (by simp [z])) (fun z => hb (by simp [z])) q)) hf (Nat.le_refl _) new
    refine ⟨.ref s.heap.objs.size, _, I1, rfl, ⟨_, x, rfl, I.hok.fresh (Nat.le_refl _), rfl, fun ys hy => by rw [I.tuple_inj hy hq]; exact hx⟩, ⟨⟨y, ?_⟩, hit'.at fun o q => (sb.2 it (Ne.symm hne)).trans q, hne⟩, fun b hb => ?_⟩
    · have e1 : k + ((i + 1 : Nat) : Int) = k + (i : Nat) + 1 := by omega
      rw [e1]; exact he'
    · have hb' : b < s.heap.objs.size := by
        have e' : b = e ∨ b = it := by simpa using hb
        rcases e' with z | z
        · rw [z]; exact hel
        · rw [z]; exact hil
      rw [upd_ne (Nat.ne_of_lt hb')]
      exact (hf b hb).1
  done := by
    intro X hP hw hK hc i pins s σ H E I hf st hg
    subst hP hw hK
    obtain ⟨⟨old, he⟩, hit, hne⟩ := st
    obtain ⟨xs, hq, hx⟩ := hg
    obtain ⟨its, rv, p, hz⟩ := I.tuple hq
    obtain ⟨f0, f1, f2, f3, f4, f5⟩ := hf it (by simp)
    have hl := rv.length
    have D := Draws.tuple (prog := X.prog) (w := X.w) (A := X.A.in1) (by exact I.ok.hd hc) it a hai its.toArray
    exact enum_endT (I.ok.hd hc) he hit (p) (by simp; omega) fun h' eb => ⟨rfl, I.turned (t' := s.toks) (fun b o hb q => eb b o hb q) f0 f1 f3 f4 f5⟩
  self := fun A i s Q E st h => let ⟨⟨_, he⟩, _⟩ := st; wpAny_pyIter_enum he h
end DL
namespace PySem
set_option maxHeartbeats 1000000 in
theorem meets_enumerate_new0 {v : Value} {o : Obj} {H : Heap → Prop} (B : Begins v o H) :
    Meets (Builtin.«enumerate.__new__» ⟨[.type "enumerate", v], []⟩) (fun _ R s => H s.heap ∧
      R (.ok (.ret (.ref (s.heap.push o).objs.size))) { s with heap := (s.heap.push o).push { cls := .type "enumerate", data := .fields #[.none, .bool false, .ref s.heap.objs.size, rawInt 0, .none, .none] } }) :=
  .of_wp fun prog w A R s h => by
    obtain ⟨hp, g, d, tk, os⟩ := s; obtain ⟨h1, h⟩ := h
    have hsub := sub_enumerate
    have q1 : ∀ {A' : Around} {E : Value → Shared → Prop} {Q : Value → Shared → Prop}, Q (.ref hp.objs.size) ⟨hp.push o, g, d, tk, os⟩ → wpAny (model prog w) A' (pyIter v) Q E ⟨hp, g, d, tk, os⟩ :=
      fun q => B.iter prog w _ _ ⟨hp, g, d, tk, os⟩ _ h1 q
    wp_walk using q1
    refine wpAny_stack_any fun st => wpAny_pure ?_
    split
    · rename_i c _ _ _ _ _
      cases (c == Value.type "enumerate")
      · wp_walk using q1
        exact ⟨_, rfl, h⟩
      · wp_walk using q1
        exact ⟨_, rfl, h⟩
    · wp_walk using q1
      exact ⟨_, rfl, h⟩
theorem enum_begins0 {prog : Program} {w : World} {A : Around} {E : Value → Shared → Prop} {s : Shared} {v : Value} {o : Obj} {H : Heap → Prop} {Q : Value → Shared → Prop} (B : Begins v o H) (h1 : H s.heap)
    (h : ∀ h', IsEnum h' (s.heap.objs.size + 1) s.heap.objs.size 0 .none → h'.get? s.heap.objs.size = some o → h'.objs.size = s.heap.objs.size + 2 →
      (∀ b o, s.heap.get? b = some o → h'.get? b = some o) → Q (.ref (s.heap.objs.size + 1)) { s with heap := h' }) :
    wpAny (model prog w) A (call (.type "enumerate") [v]) Q E s := by
  refine callType_new F.called_enumerate (by decide) (F.typeCall_enumerate_1 _) (F.newCall_enumerate_1 _) (fun obj => F.args_object_init_2 obj _) F.entry_enumerate_new
    (meets_enumerate_new0 B) ⟨h1, ?_⟩
  have hz : (s.heap.push o).objs.size = s.heap.objs.size + 1 := Heap.size_push ..
  show _ ∧ _
  rw [hz]
  have he : IsEnum ((s.heap.push o).push { cls := .type "enumerate", data := .fields #[.none, .bool false, .ref s.heap.objs.size, rawInt 0, .none, .none] }) (s.heap.objs.size + 1) s.heap.objs.size 0 .none := by
    have := Heap.get?_push_size (s.heap.push o) (o := { cls := .type "enumerate", data := .fields #[.none, .bool false, .ref s.heap.objs.size, rawInt 0, .none, .none] }) rfl
    rw [hz] at this; exact this
  refine ⟨⟨_, he, rfl⟩, h _ he (Heap.get?_push_of_some _ (Heap.get?_push_size _ B.free)) (by rw [Heap.size_push, hz]) fun b o x => Heap.get?_push_of_some _ (Heap.get?_push_of_some _ x)⟩
end PySem
namespace DL
open PySem L2
/-- enumerate(x), enumerate(x, start=k): what stands at the start is given as a value -/
theorem enum_begin {X : Cx} {pins : List (Addr × Obj)} {σ : L2.St} {H : Hp} {s : Shared} {elts : List Expr} {kk : Nat} {tpos : Pos} {R : It → Hp → Prop} {a : Addr} {xs : List V} {k : Int} (I : Inv X pins σ H s) (hk0 : -(2 ^ 63) ≤ k) (hk1 : k < 2 ^ 63)
    (h : (SqL X.K H a xs ∧ R (IeL X.K k a) H) ∨ (SqT X.K H a xs ∧ R (IeT X.K k a) H)) :
    ∃ (o : Obj) (HH : Heap → Prop), Begins (.ref a) o HH ∧ HH s.heap ∧ ∀ h', IsEnum h' (s.heap.objs.size + 1) s.heap.objs.size k .none → h'.get? s.heap.objs.size = some o → h'.objs.size = s.heap.objs.size + 2 →
      (∀ b o, s.heap.get? b = some o → h'.get? b = some o) → PIE X pins σ (.Tuple elts kk tpos) R (.ref (s.heap.objs.size + 1)) { s with heap := h' } := by
  have fp : ∀ b ∈ [s.heap.objs.size + 1, s.heap.objs.size], FpOk X pins H b := fun b hb => by
    have e' : b = s.heap.objs.size + 1 ∨ b = s.heap.objs.size := by simpa using hb
    have hle : s.heap.objs.size ≤ b := by
      rcases e' with z | z
      · rw [z]; exact Nat.le_add_right _ _
      · rw [z]; exact Nat.le_refl _
    exact I.fpOk hle (I.hok.fresh hle)
  rcases h with ⟨hq, q⟩ | ⟨hq, q⟩
  · obtain ⟨its, rv, p, hz⟩ := I.list hq
    refine ⟨_, _, begins_list a its.toArray, p.isList, fun h' he ho hsz hk => ?_⟩
    have hal : a < s.heap.objs.size := p.lt
    have I2 : Inv X pins σ H { s with heap := h' } := I.kept (t' := s.toks) hk
    exact ⟨s.heap.objs.size + 1, [s.heap.objs.size + 1, s.heap.objs.size], _, _, H, rfl, I2, turn_enumL k a (s.heap.objs.size + 1) s.heap.objs.size (Nat.ne_of_lt hal) (Nat.ne_of_lt (Nat.lt_succ_of_lt hal)),
      ⟨⟨.none, by simpa using he⟩, ⟨_, ho, rfl, rfl⟩, Nat.succ_ne_self _⟩, fp, q⟩
  · obtain ⟨its, rv, p, hz⟩ := I.tuple hq
    refine ⟨_, _, begins_tuple a its.toArray, p, fun h' he ho hsz hk => ?_⟩
    have hal : a < s.heap.objs.size := by obtain ⟨o1, ho1, _⟩ := id p; exact Heap.lt_size ho1
    have I2 : Inv X pins σ H { s with heap := h' } := I.kept (t' := s.toks) hk
    exact ⟨s.heap.objs.size + 1, [s.heap.objs.size + 1, s.heap.objs.size], _, _, H, rfl, I2, turn_enumT k a (s.heap.objs.size + 1) s.heap.objs.size (Nat.ne_of_lt hal) (Nat.ne_of_lt (Nat.lt_succ_of_lt hal)),
      ⟨⟨.none, by simpa using he⟩, ⟨_, ho, rfl, rfl⟩, Nat.succ_ne_self _⟩, fp, q⟩
/-- the things of a list or a tuple, frozen or not, and what keeps them -/
def seqAt (M : Mst) : D → Option (Bool × List D × (Mst → Prop))
  | .lst ds => some (false, ds, always)
  | .tup ds => some (true, ds, always)
  | .ktp ds => some (true, ds, always)
  | .xtp ds => some (true, ds, always)
  | .ref a => match M a with
    | some (.lst ds) => some (false, ds, holds a (.lst ds))
    | _ => none
  | _ => none
def iEnum0 (K : PySem.W.Frag) (ta : TA) : TI := fun σ H R => ta σ H fun vs H1 => ∃ a xs, vs = [.ref a] ∧ ((SqL K H1 a xs ∧ R (IeL K 0 a) H1) ∨ (SqT K H1 a xs ∧ R (IeT K 0 a) H1))
def enumDI : Int → List D → List D
  | _, [] => []
  | n, d :: ds => .tup [.int n, d] :: enumDI (n + 1) ds
@[simp] theorem enumDI_length : ∀ (n : Int) (ds : List D), (enumDI n ds).length = ds.length
  | _, [] => rfl
  | n, d :: ds => by simp [enumDI, enumDI_length (n + 1) ds]
theorem enumDI_get : ∀ (n : Int) (ds : List D) (i : Nat), (enumDI n ds)[i]? = (ds[i]?).map fun d => .tup [.int (n + (i : Nat)), d]
  | _, [], i => by simp [enumDI]
  | n, d :: ds, 0 => by simp [enumDI]
  | n, d :: ds, i + 1 => by
    simp only [enumDI, List.getElem?_cons_succ]
    rw [enumDI_get (n + 1) ds i]
    have e : n + 1 + ((i : Nat) : Int) = n + ((i + 1 : Nat) : Int) := by omega
    rw [e]
theorem feed_enumL {K : PySem.W.Frag} {G : Hp} {a : Addr} {k : Int} {ds : List D} {Sty : Mst → Prop} (h : ∀ G' H p M s, Same G G' → Sim K G' H p M s → Sty M → ∃ us, SqL K H a us ∧ RepL K G' ds us) : Feed K G (IeL K k a) (enumDI k ds) Sty where
  go := fun G' H p M s i e S y hi => by
    obtain ⟨us, h1, h2⟩ := h G' H p M s e S y
    obtain ⟨v, hv⟩ := get_lt (xs := us) (i := i) (by rw [h2.length]; simpa using hi)
    exact ⟨us, v, h1, hv⟩
  yld := fun G' H p M s i x H' e S y hy d hd => by
    obtain ⟨T, v, rfl, hT, rfl, hall⟩ := hy
    obtain ⟨us, h1, h2⟩ := h G' H p M s e S y
    rw [enumDI_get] at hd
    obtain ⟨d', hd', rfl⟩ := Option.map_eq_some_iff.mp hd
    obtain ⟨v', hv', rv⟩ := h2.get hd'
    have := (hall us h1).symm.trans hv'
    cases this
    obtain ⟨e2, S2⟩ := S.made (o := .tup [.int (k + (i : Nat)), v]) hT
    exact ⟨_, e2, S2, T, _, rfl, upd_same, RepL.cons (d := .int _) rfl (RepL.cons (Rep.mono e2 _ _ rv) rfl), sz1000 (by simp)⟩
  stop := fun G' H p M s e S y => by
    obtain ⟨us, h1, h2⟩ := h G' H p M s e S y
    exact ⟨us, h1, by rw [h2.length]; simp⟩
theorem feed_enumT {K : PySem.W.Frag} {G : Hp} {a : Addr} {k : Int} {ds : List D} {Sty : Mst → Prop} (h : ∀ G' H p M s, Same G G' → Sim K G' H p M s → Sty M → ∃ us, SqT K H a us ∧ RepL K G' ds us) : Feed K G (IeT K k a) (enumDI k ds) Sty where
  go := fun G' H p M s i e S y hi => by
    obtain ⟨us, h1, h2⟩ := h G' H p M s e S y
    obtain ⟨v, hv⟩ := get_lt (xs := us) (i := i) (by rw [h2.length]; simpa using hi)
    exact ⟨us, v, h1, hv⟩
  yld := fun G' H p M s i x H' e S y hy d hd => by
    obtain ⟨T, v, rfl, hT, rfl, hall⟩ := hy
    obtain ⟨us, h1, h2⟩ := h G' H p M s e S y
    rw [enumDI_get] at hd
    obtain ⟨d', hd', rfl⟩ := Option.map_eq_some_iff.mp hd
    obtain ⟨v', hv', rv⟩ := h2.get hd'
    have := (hall us h1).symm.trans hv'
    cases this
    obtain ⟨e2, S2⟩ := S.made (o := .tup [.int (k + (i : Nat)), v]) hT
    exact ⟨_, e2, S2, T, _, rfl, upd_same, RepL.cons (d := .int _) rfl (RepL.cons (Rep.mono e2 _ _ rv) rfl), sz1000 (by simp)⟩
  stop := fun G' H p M s e S y => by
    obtain ⟨us, h1, h2⟩ := h G' H p M s e S y
    exact ⟨us, h1, by rw [h2.length]; simp⟩
theorem seqAt_feed {K : PySem.W.Frag} {G H : Hp} {p : Rho} {M : Mst} {s : L2.St} {d : D} {v : V} {k : Int} {t : Bool} {ds : List D} {Sty : Mst → Prop} (S : Sim K G H p M s) (r : Rep K G d v) (h : seqAt M d = some (t, ds, Sty)) :
    Sty M ∧ ∃ a xs, v = .ref a ∧ ds.length ≤ sizeLine ∧ ((SqL K H a xs ∧ Feed K G (IeL K k a) (enumDI k ds) Sty) ∨ (SqT K H a xs ∧ Feed K G (IeT K k a) (enumDI k ds) Sty)) := by
  cases d with
  | lst es =>
    cases h
    obtain ⟨a, vs, rfl, h2, h3, h4⟩ := r
    refine ⟨trivial, a, vs, rfl, by rw [← h3.length]; exact h4, .inl ⟨.inl (.inl (S.same _ _ h2)), feed_enumL fun G' H' p' M' s' e S' _ => ⟨vs, .inl (.inl (S'.same _ _ (e _ _ h2))), RepL.mono e _ _ h3⟩⟩⟩
  | tup es =>
    cases h
    obtain ⟨a, vs, rfl, h2, h3, h4⟩ := r
    refine ⟨trivial, a, vs, rfl, by rw [← h3.length]; exact h4, .inr ⟨.inl (.inl (S.same _ _ h2)), feed_enumT fun G' H' p' M' s' e S' _ => ⟨vs, .inl (.inl (S'.same _ _ (e _ _ h2))), RepL.mono e _ _ h3⟩⟩⟩
  | ktp es =>
    cases h
    obtain ⟨a, vs, rfl, h2, h3, h4⟩ := r
    refine ⟨trivial, a, vs, rfl, by rw [← h3.length]; exact h4, .inr ⟨same_t S.same h2, feed_enumT fun G' H' p' M' s' e S' _ => ⟨vs, same_t S'.same (same_t e h2), RepL.mono e _ _ h3⟩⟩⟩
  | xtp es =>
    cases h
    obtain ⟨a, o, vs, rfl, h2, h0, h3, h4⟩ := r
    refine ⟨trivial, a, vs, rfl, by rw [← h3.length]; exact h4, .inr ⟨.inl (.inr ⟨o, S.same _ _ h2⟩), feed_enumT fun G' H' p' M' s' e S' _ => ⟨vs, .inl (.inr ⟨o, S'.same _ _ (e _ _ h2)⟩), RepL.mono e _ _ h3⟩⟩⟩
  | ref a =>
    simp only [seqAt] at h
    split at h
    · next es em =>
      cases h
      cases r
      obtain ⟨gn, vs, h1, h2, h3⟩ := S.mem _ _ em
      refine ⟨em, a, vs, rfl, by rw [← h2.length]; exact h3, .inl ⟨.inl (.inl h1), feed_enumL fun G' H' p' M' s' e S' hm => ?_⟩⟩
      obtain ⟨gn', us, g1, g2, g3⟩ := S'.mem _ _ hm
      exact ⟨us, .inl (.inl g1), g2⟩
    · cases h
  | _ => cases h
def qiEnum0 (qa : DTA) : DTI := fun DW p M R => qa DW p M fun ds M1 => match ds with
  | [x] => match seqAt M1 x with
    | some (_, es, Sty) => R (enumDI 0 es) Sty M1
    | none => False
  | _ => False
section
variable {X : Cx} {W : WX} {e : Expr} {ta tk : TA} {qa qk : DTA} {p pos tpos : Pos} {elts : List Expr} {kws : List Keyword} {kk : Nat}
theorem qi_enum0 (hg : Gl X "enumerate") (hm : X.mg "enumerate" = none) (ha : QA X W [e] ta qa) (hs : starEach [e] X.env = [(false, eval e X.env)] := by rfl) :
    QI X W (.Tuple elts kk tpos) (.Call (.Name "enumerate" p) [e] [] pos) (iEnum0 X.K ta) (qiEnum0 qa) := by
  refine ⟨⟨fun pins s σ H R I h => ?_⟩, fun DW G H p M s R R' hw S h k => ha.rf DW G H p M s _ _ hw S h fun G1 H1 M1 ds vs e1 S1 r1 h1 => ?_⟩
  · refine PyProof.Rows.Call_ (ld_blt I hg hm PyProof.Rows.boot_enumerate (PyProof.Rows.callWith_type1 (thn (ha.pe.run pos pins s σ H _ I h) fun us s1 ⟨vs, H1, I1, r1, q1⟩ => ?_) hs rfl))
    obtain ⟨a, xs, ex, q⟩ := q1
    subst ex
    cases r1 with
    | cons r rr =>
      cases rr
      cases r
      obtain ⟨o, HH, B, b1, fin⟩ := enum_begin (elts := elts) (kk := kk) (tpos := tpos) I1 (by decide) (by decide) q
      exact enum_begins0 B b1 fun h' he ho hsz hk => wpAny_pyIter_enum he (fin h' he ho hsz hk)
  · split at h1
    · next x =>
      obtain ⟨v, rfl, r2⟩ := repL1 r1
      split at h1
      · next t es Sty eo =>
        obtain ⟨sm, a, xs, rfl, hl, hc⟩ := seqAt_feed (k := 0) S1 r2 eo
        refine ⟨a, xs, rfl, ?_⟩
        rcases hc with ⟨c1, c2⟩ | ⟨c1, c2⟩
        · exact .inl ⟨c1, k G1 H1 M1 _ _ _ e1 S1 c2 (by simpa using hl) h1⟩
        · exact .inr ⟨c1, k G1 H1 M1 _ _ _ e1 S1 c2 (by simpa using hl) h1⟩
      · exact h1.elim
    · exact h1.elim
end
end DL
namespace DL
open PySem L2
def stepD {α : Type} (xs : List α) (lo hi : Option Int) (st : Int) : Option (List α) :=
  match lo, hi with
  | none, none => if st = 1 then some xs else if st = -1 then some xs.reverse else none
  | some l, none => if l = 1 ∧ st = -1 then some (xs.take 2).reverse else none
  | _, _ => none
theorem srange_up (n : Nat) : sliceRange 0 (n : Int) 1 = List.range n := by
  unfold sliceRange
  have h1 : (1 : Int) > 0 := by decide
  by_cases h : (0 : Int) < (n : Int)
  · have e : ((n : Int) - 0 + 1 - 1) / 1 = (n : Int) := by rw [Int.ediv_one]; omega
    simp only [h1, if_true, h, e, Int.toNat_natCast]
    refine (List.map_congr_left fun k hk => ?_).trans (List.map_id _)
    show ((0 : Int) + 1 * (k : Int)).toNat = k
    omega
  · have e : n = 0 := by omega
    subst e; simp
theorem pick_up (items : Array Value) : slicePick items none none (some 1) = items := by
  unfold slicePick
  have e : sliceBounds none none (some 1) items.size = (0, (items.size : Int), 1) := by first | rfl | simp [sliceBounds]
  rw [e]
  show ((sliceRange 0 (items.size : Int) 1).filterMap (items[·]?)).toArray = _
  rw [srange_up, PySem.W.krv_all]
theorem pick_two (items : Array Value) : slicePick items (some 1) none (some (-1)) = (items.toList.take 2).reverse.toArray := by
  unfold slicePick
  have e : sliceBounds (some 1) none (some (-1)) items.size = (max (-1) (min 1 ((items.size : Int) - 1)), -1, -1) := by
    simp [sliceBounds]
  rw [e]
  show ((sliceRange (max (-1) (min 1 ((items.size : Int) - 1))) (-1) (-1)).filterMap (items[·]?)).toArray = _
  by_cases h0 : items.size = 0
  · have e0 : items = #[] := Array.eq_empty_of_size_eq_zero h0
    subst e0; rfl
  · by_cases h1 : items.size = 1
    · have e1 : max (-1) (min (1 : Int) ((items.size : Int) - 1)) = 0 := by omega
      rw [e1]
      have e2 : sliceRange 0 (-1) (-1) = [0] := by decide
      rw [e2]
      obtain ⟨a, ha⟩ : ∃ a, items = #[a] := by
        match items, h1 with
        | ⟨[a]⟩, _ => exact ⟨a, rfl⟩
      subst ha; rfl
    · have e1 : max (-1) (min (1 : Int) ((items.size : Int) - 1)) = 1 := by omega
      rw [e1]
      have e2 : sliceRange 1 (-1) (-1) = [1, 0] := by decide
      rw [e2]
      obtain ⟨a, b, r, ha⟩ : ∃ a b r, items = ⟨a :: b :: r⟩ := by
        match items, h0, h1 with
        | ⟨a :: b :: r⟩, _, _ => exact ⟨a, b, r, rfl⟩
      subst ha; rfl
theorem pick_step {items : Array Value} {lo hi : Option Int} {st : Int} {ys : List Value} (h : stepD items.toList lo hi st = some ys) : slicePick items lo hi (some st) = ys.toArray ∧ st ≠ 0 := by
  unfold stepD at h
  split at h
  · split at h
    · next e => cases h; subst e; exact ⟨by rw [pick_up], by decide⟩
    · split at h
      · next e => cases h; subst e; exact ⟨by rw [PySem.W.krv_pick], by decide⟩
      · cases h
  · split at h
    · next e => cases h; obtain ⟨rfl, rfl⟩ := e; exact ⟨by rw [pick_two], by decide⟩
    · cases h
  · cases h
theorem step_rel {α β : Type} {P : List α → List β → Prop} {xs : List α} {ys : List β} {lo hi : Option Int} {st : Int} {us : List α} (h : stepD xs lo hi st = some us) (h0 : P xs ys) (h1 : P xs.reverse ys.reverse) (h2 : P (xs.take 2).reverse (ys.take 2).reverse) : ∃ vs, stepD ys lo hi st = some vs ∧ P us vs := by
  unfold stepD at h ⊢
  split at h
  · split at h
    · next e => cases h; exact ⟨ys, by rw [if_pos e], h0⟩
    · next e0 =>
      split at h
      · next e => cases h; exact ⟨ys.reverse, by rw [if_neg e0, if_pos e], h1⟩
      · cases h
  · split at h
    · next e => cases h; exact ⟨_, by rw [if_pos e], h2⟩
    · cases h
  · cases h
theorem step_len {α : Type} {xs us : List α} {lo hi : Option Int} {st : Int} (h : stepD xs lo hi st = some us) : us.length ≤ xs.length := by
  unfold stepD at h
  split at h
  · split at h
    · cases h; exact Nat.le_refl _
    · split at h
      · cases h; rw [List.length_reverse]; exact Nat.le_refl _
      · cases h
  · split at h
    · cases h; rw [List.length_reverse, List.length_take]; omega
    · cases h
  · cases h
section
variable {prog : Program} {w : World} {A : Around} {E : Value → Shared → Prop} {s : Shared}
theorem sliceApplied_st {sl : Addr} {vl vu vs : Value} {lo hi : Option Int} {st : Int} {n : Nat} {Q : Int × Int × Nat → Shared → Prop} (hs : s.heap.IsSliceOf sl vl vu vs) (pl : IsPart vl lo) (pu : IsPart vu hi) (ps : IsPart vs (some st)) (h0 : st ≠ 0)
    (h : Q ((Builtin.Slice.sliceAdjust lo hi st (n : Int)).1, st, Builtin.Slice.slicePlaces (Builtin.Slice.sliceAdjust lo hi st (n : Int)).1 (Builtin.Slice.sliceAdjust lo hi st (n : Int)).2 st) s) : wpAny (model prog w) A (Builtin.Slice.sliceApplied (.ref sl) (pure (n : Int))) Q E s := by
  obtain ⟨os, hos, hcs, hds⟩ := id hs
  unfold Builtin.Slice.sliceApplied Builtin.Slice.sliceFields
  refine wpAny_bind (wpAny_bind (wpAny_field hos hds (x := vl) rfl (wpAny_bind (wpAny_field hos hds (x := vu) rfl (wpAny_bind (wpAny_field hos hds (x := vs) rfl (wpAny_pure ?_)))))))
  refine wpAny_bind (HT.slicePart_ ps ?_)
  show wpAny _ _ (if (st == 0) = true then _ else _) _ _ s
  rw [if_neg (by simpa using h0)]
  refine wpAny_bind (HT.slicePart_ pl (wpAny_bind (HT.slicePart_ pu (wpAny_bind (wpAny_pure ?_)))))
  exact wpAny_pure h
end
theorem tpick {xs : Array Value} {lo hi : Option Int} {st : Int} {ys : List Value} (h : stepD xs.toList lo hi st = some ys) :
    ((List.range (Builtin.Slice.slicePlaces (Builtin.Slice.sliceAdjust lo hi st (xs.size : Int)).1 (Builtin.Slice.sliceAdjust lo hi st (xs.size : Int)).2 st)).filterMap fun (k : Nat) => xs[((Builtin.Slice.sliceAdjust lo hi st (xs.size : Int)).1 + (k : Int) * st).toNat]?).toArray = ys.toArray := by
  unfold stepD at h
  split at h
  · split at h
    · next e =>
      cases h; subst e
      rw [HT.adjust_gen, HT.places_gen]
      show ((List.range (xs.size - 0)).filterMap fun (k : Nat) => xs[(((0 : Nat) : Int) + (k : Int) * 1).toNat]?).toArray = _
      rw [HT.pick_gen]
      simp only [List.drop_zero, Nat.sub_zero]
      rw [List.take_of_length_le (by rw [Array.length_toList]; exact Nat.le_refl _)]
    · split at h
      · next e =>
        cases h; subst e
        have e1 : Builtin.Slice.sliceAdjust none none (-1) (xs.size : Int) = ((xs.size : Int) - 1, -1) := by first | rfl | simp [Builtin.Slice.sliceAdjust]
        have e2 : Builtin.Slice.slicePlaces ((xs.size : Int) - 1) (-1) (-1) = xs.size := by
          unfold Builtin.Slice.slicePlaces
          have h1 : ¬ ((-1 : Int) > 0) := by decide
          simp only [h1, if_false]
          split
          · rw [show (- -1 : Int) = 1 by decide, Int.ediv_one]; omega
          · show (0 : Int).toNat = _
            have : (0 : Int).toNat = 0 := rfl
            omega
        rw [e1, e2]
        have e3 : (fun (k : Nat) => xs[((xs.size : Int) - 1 + (k : Int) * -1).toNat]?) = (xs[·]?) ∘ fun k : Nat => (((xs.size : Int) - 1) - (k : Int)).toNat := by
          funext k
          show xs[((xs.size : Int) - 1 + (k : Int) * -1).toNat]? = xs[(((xs.size : Int) - 1) - (k : Int)).toNat]?
          congr 1; congr 1; omega
        show ((List.range xs.size).filterMap fun (k : Nat) => xs[((xs.size : Int) - 1 + (k : Int) * -1).toNat]?).toArray = _
        rw [e3, ← List.filterMap_map]
        have e4 : (List.range xs.size).map (fun k : Nat => (((xs.size : Int) - 1) - (k : Int)).toNat) = (List.range xs.size).map fun k => xs.size - 1 - k := List.map_congr_left fun k hk => by
          have := List.mem_range.mp hk; omega
        rw [e4, PySem.W.krv_range, List.filterMap_reverse, PySem.W.krv_all]
      · cases h
  · split at h
    · next e =>
      cases h; obtain ⟨rfl, rfl⟩ := e
      by_cases h0 : xs.size = 0
      · have e0 : xs = #[] := Array.eq_empty_of_size_eq_zero h0
        subst e0; rfl
      · by_cases h1 : xs.size = 1
        · obtain ⟨a, ha⟩ : ∃ a, xs = #[a] := by
            match xs, h1 with
            | ⟨[a]⟩, _ => exact ⟨a, rfl⟩
          subst ha
          have e1 : Builtin.Slice.sliceAdjust (some 1) none (-1) ((#[a] : Array Value).size : Int) = (0, -1) := by
            show Builtin.Slice.sliceAdjust (some 1) none (-1) (1 : Int) = _
            decide
          rw [e1]
          have e2 : Builtin.Slice.slicePlaces 0 (-1) (-1) = 1 := by decide
          rw [e2]; rfl
        · have e1 : Builtin.Slice.sliceAdjust (some 1) none (-1) (xs.size : Int) = (1, -1) := by
            unfold Builtin.Slice.sliceAdjust
            simp
            first | omega | (split <;> omega) | skip
          rw [e1]
          have e2 : Builtin.Slice.slicePlaces 1 (-1) (-1) = 2 := by decide
          rw [e2]
          obtain ⟨a, b, r, ha⟩ : ∃ a b r, xs = ⟨a :: b :: r⟩ := by
            match xs, h0, h1 with
            | ⟨a :: b :: r⟩, _, _ => exact ⟨a, b, r, rfl⟩
          subst ha; rfl
    · cases h
  · cases h
section
variable {prog : Program} {w : World} {A : Around} {E : Value → Shared → Prop} {s : Shared}
theorem getItem_tuple_step {t sl : Addr} {items : Array Value} {vl vu vs : Value} {lo hi : Option Int} {st : Int} {ys : List Value} {Q : Value → Shared → Prop} (ht : PyProof.Rows.IsTup s.heap t items) (hs : s.heap.IsSliceOf sl vl vu vs) (pl : IsPart vl lo) (pu : IsPart vu hi) (ps : IsPart vs (some st))
    (hy : stepD items.toList lo hi st = some ys) (h0 : st ≠ 0)
    (key : Q (.ref s.heap.objs.size) { s with heap := s.heap.push { cls := .type "tuple", data := .seq ys.toArray } }) (hw : st = 1 → Q (.ref t) s)
    (hsz : items.toList.length ≤ sizeLine) : wpAny (model prog w) A (getItem (.ref t) (.ref sl)) Q E s := by
  have hpick := tpick hy
  have hlen := step_len hy
  have hsy : sizeOk (.seq ys.toArray) := by
    show ys.toArray.size ≤ sizeLine
    rw [List.size_toArray]
    exact Nat.le_trans hlen hsz
  obtain ⟨os, hos, hcs, hds⟩ := id hs
  have hTs : s.TypeIs (.ref sl) "slice" := ⟨os, hos, hcs⟩
  unfold getItem
  try with_reducible refine wpAny_holding ?_
  first | refine wpAny_bind (wpAny_pure ?_) | skip
  refine wpAny_bind (wpAny_sequenceKey ht.typeIs (by decide) ?_)
  refine wpAny_bind (wpAny_callSpecial?_slot (name := Str.ofString "__getitem__") ht.typeIs PyProof.Rows.slot_tuple_getitem
    (wpAny_call_entry PyProof.Rows.slot_tuple_getitem ht.typeIs PyProof.Rows.entry_tuple_getitem ?_ (PyProof.Rows.args_tuple_getitem _ _)))
  show wpAny _ _ (Builtin.Tuple.tupleItemsOf (.ref t) >>= _) _ _ s
  refine wpAny_bind (PyProof.Rows.tupleItemsOf_ ht ?_)
  refine wpAny_bind (wpAny_typeOf hTs ?_)
  rw [if_pos (by decide)]
  refine wpAny_bind (sliceApplied_st hs pl pu ps h0 ?_)
  show wpAny _ _ (if ((Builtin.Slice.sliceAdjust lo hi st (items.size : Int)).1 == 0 && st == 1 && Builtin.Slice.slicePlaces (Builtin.Slice.sliceAdjust lo hi st (items.size : Int)).1 (Builtin.Slice.sliceAdjust lo hi st (items.size : Int)).2 st == items.size) = true then _ else _) _ _ s
  by_cases hc : ((Builtin.Slice.sliceAdjust lo hi st (items.size : Int)).1 == 0 && st == 1 && Builtin.Slice.slicePlaces (Builtin.Slice.sliceAdjust lo hi st (items.size : Int)).1 (Builtin.Slice.sliceAdjust lo hi st (items.size : Int)).2 st == items.size) = true
  · rw [if_pos hc]
    rw [Bool.and_eq_true, Bool.and_eq_true] at hc
    have c2 : st = 1 := eq_of_beq hc.1.2
    refine wpAny_bind (m := Builtin.Tuple.tupleIsExact _) ?_
    unfold Builtin.Tuple.tupleIsExact
    refine wpAny_bind (wpAny_typeOf ht.typeIs (wpAny_pure ?_))
    rw [if_pos (by decide)]
    exact wpAny_bind (wpAny_rule (wpAny_bind (wpAny_pure (wpAny_pure ⟨_, rfl, wpAny_pure (hw c2)⟩))))
  · rw [if_neg hc, hpick]
    first
      | exact wpAny_bind (m := Builtin.Tuple.tupleExact _) (wpAny_newObj_type (wpAny_pure ⟨_, rfl, wpAny_pure key⟩) hsy)
      | exact wpAny_bind (m := Builtin.Tuple.tupleExact _) (wpAny_newObj_type (wpAny_bind (wpAny_pure (wpAny_pure ⟨_, rfl, wpAny_pure key⟩))) hsy)
      | exact wpAny_bind (wpAny_bind (m := Builtin.Tuple.tupleExact _) (wpAny_newObj_type (wpAny_pure (wpAny_pure ⟨_, rfl, wpAny_pure key⟩)) hsy))
      | exact wpAny_bind (wpAny_bind (m := Builtin.Tuple.tupleExact _) (wpAny_newObj_type (wpAny_pure ⟨_, rfl, wpAny_pure key⟩) hsy))
end
/-- e[lo:hi:st] -/
def dStep (m : Bool) (x : D) (lo hi : Option Int) (st : Int) (M : Mst) (Q : DK) : Prop := match x with
  | .tup ds => match stepD ds lo hi st with
    | some ys => Q (.tup ys) M
    | none => False
  | _ => match res M x with
    | .lst ds => match stepD ds lo hi st with
      | some ys => newL m ys M Q
      | none => False
    | _ => False
def qStep (m : Bool) (qe : DTE) (ql qh qs : DTO) : DTE := fun DW p M Q => qe DW p M fun x M1 => ql DW p M1 fun l M2 => qh DW p M2 fun u M3 => qs DW p M3 fun st M4 => match st with
  | some c => dStep m x l u c M4 Q
  | none => False
def rStepX (K : PySem.W.Frag) : V → Option Int → Option Int → Int → Hp → VK → Prop := fun x lo hi st H Q => ∃ a, x = .ref a ∧ ((∃ xs ys, SqL K H a xs ∧ stepD xs lo hi st = some ys ∧ ∀ p, H p = none → Q (.ref p) (upd H p (.lst ys))) ∨
  (∃ xs ys, SqT K H a xs ∧ stepD xs lo hi st = some ys ∧ (ys = xs → Q (.ref a) H) ∧ ∀ p, H p = none → Q (.ref p) (upd H p (.tup ys))))
def tStep (r : V → Option Int → Option Int → Int → Hp → VK → Prop) (te : TE) (tl th ts : TO) : TE := fun σ H Q => te σ H fun x H1 => tl σ H1 fun l H2 => th σ H2 fun u H3 => ts σ H3 fun st H4 => ∃ c, st = some c ∧ r x l u c H4 Q
theorem vals_step {xs : List V} {its : List Value} (r : Vals xs its) {lo hi : Option Int} {st : Int} {ys : List V} (h : stepD xs lo hi st = some ys) : ∃ zs, stepD its lo hi st = some zs ∧ Vals ys zs :=
  step_rel (P := Vals) h r r.reverse (r.take 2).reverse
section
variable {X : Cx} {W : WX} {e : Expr} {te : TE} {qe : DTE} {lo hi : Option Expr} {ste : Expr} {tl th ts : TO} {ql qh qs : DTO} {pos p2 : Pos}
theorem pe_step (he : PE X e te) (hl : PO X lo tl) (hh : PO X hi th) (hs : PO X (some ste) ts) : PE X (.Subscript e (.Slice lo hi (some ste) p2) pos) (tStep (rStepX X.K) te tl th ts) := by
  refine ⟨fun pins s σ H Q I h => ?_⟩
  refine PyProof.Rows.Subscript_ (thn (he.run pins s σ H _ I h) fun v s1 ⟨x, H1, I1, r1, q1⟩ => ?_)
  refine wpAny_Slice (thn (hl.run pins s1 σ H1 _ I1 q1) fun vl s2 ⟨l, H2, I2, pl, q2⟩ => ?_)
  refine thn (hh.run pins s2 σ H2 _ I2 q2) fun vu s3 ⟨u, H3, I3, pu, q3⟩ => ?_
  refine thn (hs.run pins s3 σ H3 _ I3 q3) fun vs s4 ⟨o, H4, I4, ps, q4⟩ => ?_
  obtain ⟨c, rfl, a, rfl, q4⟩ := q4
  cases r1
  have I5 : Inv X pins σ H4 { s4 with heap := s4.heap.push { cls := .type "slice", data := .fields #[vl, vu, vs] } } := I4.kept (t' := s4.toks) fun b ob q => Heap.get?_push_of_some _ q
  show wpAny (model X.prog X.w) X.A (PyProof.Rows.subscriptTail e (.Slice lo hi (some ste) p2) (.ref a) (.ref s4.heap.objs.size)) (EP X pins σ Q) X.xe { s4 with heap := s4.heap.push { cls := .type "slice", data := .fields #[vl, vu, vs] } }
  rcases q4 with ⟨xs, ys, hx, hy, q⟩ | ⟨xs, ys, hx, hy, qw, q⟩
  · obtain ⟨its, r, ht, hz⟩ := I5.list hx
    obtain ⟨zs, hzs, rz⟩ := vals_step r hy
    have hps := pick_step (items := its.toArray) (lo := l) (hi := u) (st := c) (ys := zs) (by simpa using hzs)
    have hle := step_len hy
    refine PyProof.Rows.tail_any (ops := [.ref a, .ref s4.heap.objs.size]) ht.isList.typeIs (PySem.slot_list_getitem.lookup) ?_ (by with_unfolding_all rfl)
    refine wpAny_getItem_list_slice ht.isList (Heap.IsSliceOf.new _ vl vu vs) pl pu ps (by simpa using hps.2) ?_ (by rw [List.size_toArray, ← r.length]; exact hz)
    rw [hps.1]
    refine ⟨.ref _, _, I5.laid (t' := s4.toks) (o := .lst ys) (fun b ob q => Heap.get?_push_of_some _ q) (Nat.le_refl _) ?_, rfl, q _ (I5.hok.fresh (Nat.le_refl _))⟩
    exact ⟨Nat.le_trans hle hz, _, 0, rz, Heap.get?_push_size _ rfl⟩
  · obtain ⟨its, r, ht, hz⟩ := I5.tuple hx
    obtain ⟨zs, hzs, rz⟩ := vals_step r hy
    have hps := pick_step (items := its.toArray) (lo := l) (hi := u) (st := c) (ys := zs) (by simpa using hzs)
    have hle := step_len hy
    refine PyProof.Rows.tail_any (ops := [.ref a, .ref s4.heap.objs.size]) ht.typeIs (PyProof.Rows.slot_tuple_getitem.lookup) ?_ (by with_unfolding_all rfl)
    have new : EP X pins σ Q (.ref (s4.heap.push { cls := .type "slice", data := .fields #[vl, vu, vs] }).objs.size) { s4 with heap := (s4.heap.push { cls := .type "slice", data := .fields #[vl, vu, vs] }).push { cls := .type "tuple", data := .seq zs.toArray } } := by
      refine ⟨.ref _, _, I5.laid (t' := s4.toks) (o := .tup ys) (fun b ob q => Heap.get?_push_of_some _ q) (Nat.le_refl _) ?_, rfl, q _ (I5.hok.fresh (Nat.le_refl _))⟩
      exact ⟨Nat.le_trans hle hz, _, rz, PyProof.Rows.IsTup.new _ _⟩
    refine getItem_tuple_step ht (Heap.IsSliceOf.new _ vl vu vs) pl pu ps (by simpa using hzs) hps.2 new (fun e1 => ?_) (by simpa [← r.length] using hz)
    have eyx : ys = xs := by
      subst e1
      unfold stepD at hy
      split at hy
      · exact (Option.some.inj (by simpa using hy)).symm
      · simp at hy
      · cases hy
    exact ⟨.ref a, H4, I5, rfl, qw eyx⟩
theorem q_step (m : Bool) (he : QE X W e te qe) (hl : QO X W lo tl ql) (hh : QO X W hi th qh) (hs : QO X W (some ste) ts qs) : QE X W (.Subscript e (.Slice lo hi (some ste) p2) pos) (tStep (rStepX X.K) te tl th ts) (qStep m qe ql qh qs) :=
  ⟨pe_step he.pe hl.pe hh.pe hs.pe, fun DW G H p M s Q Q' hw S h k => he.rf DW G H p M s _ _ hw S h fun G1 H1 M1 x v e1 S1 r1 h1 =>
    hl.rf DW G1 H1 p M1 s _ _ (hw.mono e1) S1 h1 fun G2 H2 M2 l e2 S2 h2 => hh.rf DW G2 H2 p M2 s _ _ (hw.mono (e1.trans e2)) S2 h2 fun G3 H3 M3 u e3 S3 h3 =>
      hs.rf DW G3 H3 p M3 s _ _ (hw.mono ((e1.trans e2).trans e3)) S3 h3 fun G4 H4 M4 st e4 S4 h4 => by
        cases st with
        | none => exact h4.elim
        | some c =>
          refine ⟨c, rfl, ?_⟩
          have r4 := Rep.mono ((e2.trans e3).trans e4) _ _ r1
          have kk : ∀ G' H' M' d w, Same G4 G' → Sim X.K G' H' p M' s → Rep X.K G' d w → Q d M' → Q' w H' := fun G' H' M' d w e5 => k G' H' M' d w ((((e1.trans e2).trans e3).trans e4).trans e5)
          have lst : ∀ ds ys, res M4 x = .lst ds → stepD ds l u c = some ys → newL m ys M4 Q → rStepX X.K v l u c H4 Q' := fun ds ys hr hy hq => by
            obtain ⟨a, vs, rfl, g1, g2, g3⟩ := as_lst S4 r4 hr
            obtain ⟨zs, hz, rz⟩ := step_rel (P := RepL X.K G4) hy g2 (RepL.reverse g2) (RepL.reverse (RepL.take 2 g2))
            exact ⟨a, rfl, .inl ⟨vs, zs, .inl (.inl g1), hz, fun q hq' => newL_ok S4 hq' rz (Nat.le_trans (step_len hz) g3) hq kk⟩⟩
          have gen : (match res M4 x with
              | .lst ds => match stepD ds l u c with
                | some ys => newL m ys M4 Q
                | none => False
              | _ => False) → rStepX X.K v l u c H4 Q' := fun h5 => by
            cases hr : res M4 x with
            | lst ds =>
              rw [hr] at h5
              cases hy : stepD ds l u c with
              | none => simp only [hy] at h5
              | some ys => simp only [hy] at h5; exact lst ds ys hr hy h5
            | _ => rw [hr] at h5; exact h5.elim
          cases x with
          | tup ds =>
            simp only [dStep] at h4
            cases hy : stepD ds l u c with
            | none => simp only [hy] at h4
            | some ys =>
              simp only [hy] at h4
              obtain ⟨a, vs, rfl, g1, g2, g3⟩ := r4
              obtain ⟨zs, hz, rz⟩ := step_rel (P := RepL X.K G4) hy g2 (RepL.reverse g2) (RepL.reverse (RepL.take 2 g2))
              refine ⟨a, rfl, .inr ⟨vs, zs, .inl (.inl (S4.same _ _ g1)), hz, fun ez => ?_, fun q hq' => newT_ok S4 hq' rz (Nat.le_trans (step_len hz) g3) h4 kk⟩⟩
              subst ez
              exact kk G4 H4 M4 (.tup ys) _ (Same.refl _) S4 ⟨a, zs, rfl, g1, rz, g3⟩ h4
          | _ => exact gen h4⟩
end
end DL
namespace DL
open PySem L2
section
variable {X : Cx}
def rTupX (K : PySem.W.Frag) : List V → Hp → VK → Prop := fun xs H Q => ∃ p ys, xs = [.ref p] ∧ ((SqL K H p ys ∧ ∀ l o, o.dict = none → H l = none → Q (.ref l) (upd H l (.frz o (.tup ys)))) ∨ (SqT K H p ys ∧ Q (.ref p) H))
theorem call_tupleX : CallR X (.type "tuple") (rTupX X.K) := by
  intro pins s σ H xs us Q I r h
  obtain ⟨p, ys, rfl, h⟩ := h
  obtain ⟨u, rfl, rx⟩ := vals1 r
  cases rx
  rcases h with ⟨hq, q⟩ | ⟨hq, q⟩
  · obtain ⟨its, r', pl, hz⟩ := I.list hq
    have hlen := r'.length
    refine call_tuple_list pl.isList (fun h' kp => ?_) (by simp only [List.size_toArray] <;> omega)
    have I1 : Inv X pins σ H { s with heap := h' } := I.kept (t' := s.toks) kp
    have I2 : Inv X pins σ (upd H h'.objs.size (.frz { cls := .type "tuple", data := .seq its.toArray } (.tup ys))) { s with heap := h'.push { cls := .type "tuple", data := .seq its.toArray } } :=
      I1.laid (t' := s.toks) (fun b o e => Heap.get?_push_of_some _ e) (Nat.le_refl _) (show ObjOk X.prog X.w _ _ _ (.frz _ (.tup ys)) from ⟨Heap.get?_push_size _ rfl, hz, its, r', _, Heap.get?_push_size _ rfl, rfl, _, rfl⟩)
    exact ⟨.ref h'.objs.size, _, I2, rfl, q _ _ rfl (I1.hok.fresh (Nat.le_refl _))⟩
  · obtain ⟨its, r', pl, hz⟩ := I.tuple hq
    exact call_tuple_same pl ⟨.ref p, H, I, rfl, q⟩
end
def dTupX : DCa := fun ds M Q => match ds with
  | [.tup es] => Q (.tup es) M
  | [.xtp es] => Q (.xtp es) M
  | [x] => match res M x with
    | .lst es => Q (.xtp es) M
    | _ => False
  | _ => False
theorem c_tupleX {X : Cx} : QCa X (.type "tuple") (rTupX X.K) dTupX := ⟨call_tupleX, fun G H p M s ds vs Q Q' S r h k => by
  unfold dTupX at h
  split at h
  · next es =>
    obtain ⟨v, rfl, r1⟩ := repL1 r
    obtain ⟨a, us, rfl, g1, g2, g3⟩ := r1
    exact ⟨a, us, rfl, .inr ⟨.inl (.inl (S.same _ _ g1)), k G H M (.tup es) _ (Same.refl _) S ⟨a, us, rfl, g1, g2, g3⟩ h⟩⟩
  · next es =>
    obtain ⟨v, rfl, r1⟩ := repL1 r
    obtain ⟨a, o, us, rfl, g1, g0, g2, g3⟩ := r1
    exact ⟨a, us, rfl, .inr ⟨.inl (.inr ⟨o, S.same _ _ g1⟩), k G H M (.xtp es) _ (Same.refl _) S ⟨a, o, us, rfl, g1, g0, g2, g3⟩ h⟩⟩
  · next x _ _ =>
    obtain ⟨v, rfl, r1⟩ := repL1 r
    split at h
    · next es e1 =>
      obtain ⟨a, us, rfl, g1, g2, g3⟩ := as_lst S r1 e1
      refine ⟨a, us, rfl, .inl ⟨.inl (.inl g1), fun q o ho hq => ?_⟩⟩
      obtain ⟨e, S'⟩ := S.made (o := .frz o (.tup us)) hq
      exact k _ _ _ (.xtp es) _ e S' ⟨q, o, us, rfl, upd_same, ho, RepL.mono e _ _ g2, g3⟩ h
    · exact h.elim
  · exact h.elim⟩
section
variable {X : Cx}
/-- what may stand as the argument: a list of pairs, or a tuple of them whose object is known -/
def rDictP (K : PySem.W.Frag) : List V → Hp → VK → Prop := fun xs H Q => ∃ (a : Addr) (ps : List Addr) (kvs : List (Key × V)), xs = [.ref a] ∧ (SqL K H a (ps.map V.ref) ∨ ∃ o, H a = some (.frz o (.tup (ps.map V.ref))) ∧ o.dict = none) ∧
  Paired (fun p kv => SqT K H p [kV kv.1, kv.2]) ps kvs ∧ kvs.length ≤ sizeLine ∧ ∀ p, H p = none → Q (.ref p) (upd H p (.dK (mergeK [] kvs)))
theorem call_dictPX (hcalm : X.calm = true) : CallR X (.type "dict") (rDictP X.K) := by
  intro pins s σ H xs us Q I r h
  obtain ⟨a, ps, kvs, rfl, hq, hp, hl, q⟩ := h
  obtain ⟨u, rfl, rx⟩ := vals1 r
  cases rx
  obtain ⟨prs, vps, rel, l1, l2, hv⟩ := pairs_vals I hp
  have hm : prs.length = kvs.length := rel.length.symm
  have PI : PairItems s.heap (ps.map Value.ref).toArray (fun j => ps.getD j 0) vps := ⟨by simp [l2], fun j k v e => by
    obtain ⟨t, q2, e1, e2, _, _⟩ := hv j k v e
    have e3 : ps.getD j 0 = t := by simp [List.getD, e1]
    exact ⟨by simp [e1, e3], by show PairAt s.heap (ps.getD j 0) k v; rw [e3]; exact .inl e2⟩⟩
  have hc : PairsHave (mixKind X.prog X.w) vps.length (PairRel vps) prs := ⟨by omega, fun i k v e => by
    obtain ⟨t, q2, _, _, e3, e4⟩ := hv i k v e
    exact ⟨q2, e3, e4⟩⟩
  have fin : ∀ h' tk, h'.DictOf (mixKind X.prog X.w) s.heap.objs.size (merged [] prs) → (∀ b o, b ∉ ([] : List Addr) → s.heap.get? b = some o → h'.get? b = some o) →
      EP X pins σ Q (.ref s.heap.objs.size) { s with heap := h', toks := tk } := fun h' tk dd' hk => by
    have hm' : (s.heap.objs.size == sysModules) = false := beq_eq_false_iff_ne.mpr (Nat.ne_of_gt I.big)
    have hlen : (mergeK [] kvs).length ≤ sizeLine := Nat.le_trans (length_mergeK kvs []) (by simpa using hl)
    exact ⟨.ref s.heap.objs.size, upd H s.heap.objs.size (.dK (mergeK [] kvs)), I.laid (t' := tk) (fun b o e => hk b o (by simp) e) (Nat.le_refl _)
      (show ObjOk X.prog X.w _ _ _ (.dK (mergeK [] kvs)) from ⟨hlen, hm', merged [] prs, KV.merge rel .nil, dd'⟩), rfl, q _ (I.hok.fresh (Nat.le_refl _))⟩
  rcases hq with hq | ⟨o, ho, hd⟩
  · obtain ⟨its, rv2, pl, hz⟩ := I.list hq
    have ei := refs_at rv2
    subst ei
    obtain ⟨o, n, ho, hc', hdi, hdat⟩ := pl
    exact call_dict_pairs (knd := mixKind X.prog X.w) (kvs := prs) (PairArg.list (prog := X.prog) (w := X.w) a (ps.map Value.ref).toArray (fun j => ps.getD j 0) vps) (I.ok.hd hcalm) ⟨⟨o, n, ho, hc', hdi, hdat⟩, PI⟩ hc (by omega) fin
  · obtain ⟨e0, hz, its, rv2, ob, e1, c1, n, d1⟩ := (show ObjOk X.prog X.w H s.heap a (.frz o (.tup (ps.map V.ref))) from I.hok a _ ho)
    rw [e0] at e1
    cases e1
    have ei := refs_at rv2
    subst ei
    exact call_dict_pairs (knd := mixKind X.prog X.w) (kvs := prs) (PairArg.tuple (prog := X.prog) (w := X.w) a (ps.map Value.ref).toArray (fun j => ps.getD j 0) vps) (I.ok.hd hcalm) ⟨⟨o, n, e0, c1, hd, d1⟩, PI⟩ hc (by omega) fin
end
def dDict : DCa := fun ds M Q => match ds with
  | [.xtp es] => match pairsD es with
    | some more => more.length ≤ 100000 ∧ ∀ p, M p = none → Q (.ref p) (put M p (.dK (putAllD [] more)))
    | none => False
  | [x] => match res M x with
    | .lst es => match pairsD es with
      | some more => more.length ≤ 100000 ∧ ∀ p, M p = none → Q (.ref p) (put M p (.dK (putAllD [] more)))
      | none => False
    | _ => False
  | _ => False
theorem newD_ok {K : PySem.W.Frag} {G H : Hp} {p : Rho} {M : Mst} {s : L2.St} {a : Addr} {more : List (Key × D)} {mv : List (Key × V)} {Q : DK} {Q' : VK} (S : Sim K G H p M s) (hn : H a = none)
    (h1 : mv.map (·.1) = more.map (·.1)) (h2 : RepL K G (more.map (·.2)) (mv.map (·.2))) (h3 : ∀ q ∈ more, kOk q.1) (hl : more.length ≤ 100000) (h : ∀ p, M p = none → Q (.ref p) (put M p (.dK (putAllD [] more))))
    (k : ∀ G' H' M' d w, Same G G' → Sim K G' H' p M' s → Rep K G' d w → Q d M' → Q' w H') : Q' (.ref a) (upd H a (.dK (mergeK [] mv))) := by
  obtain ⟨z1, z2⟩ := putAll_rel (kvs := []) (kv := []) h1 h2 rfl rfl
  have l2 : mv.length = more.length := by have := congrArg List.length h1; simpa using this
  have hz := sizeLine_eq
  have := length_mergeK mv []
  refine k G _ _ (.ref a) _ (Same.refl _) (S.put (mo := .dK (putAllD [] more)) (S.same.free hn) ⟨_, upd_same, z1, z2, ?_, putAll_keys (fun _ h => by cases h) h3⟩) rfl (h a (S.mem.fresh hn))
  simp at this
  omega
theorem c_dict {X : Cx} (hc : X.calm = true) : QCa X (.type "dict") (rDictP X.K) dDict := ⟨call_dictPX hc, fun G H p M s ds vs Q Q' S r h k => by
  have hz := sizeLine_eq
  unfold dDict at h
  split at h
  · next es =>
    obtain ⟨v, rfl, r1⟩ := repL1 r
    obtain ⟨a, o, us, rfl, g1, g0, g2, g3⟩ := r1
    split at h
    · next more hm =>
      obtain ⟨hl, h⟩ := h
      obtain ⟨ps, mv, rfl, q2, q3, q4, q5⟩ := pairsD_of S.same g2 hm
      have l2 : mv.length = more.length := by have := congrArg List.length q3; simpa using this
      exact ⟨a, ps, mv, rfl, .inr ⟨o, S.same _ _ g1, g0⟩, q2, by omega, fun q hq => newD_ok S hq q3 q4 q5 hl h k⟩
    · exact h.elim
  · next x _ =>
    obtain ⟨v, rfl, r1⟩ := repL1 r
    split at h
    · next es e1 =>
      obtain ⟨a, us, rfl, g1, g2, g3⟩ := as_lst S r1 e1
      split at h
      · next more hm =>
        obtain ⟨hl, h⟩ := h
        obtain ⟨ps, mv, rfl, q2, q3, q4, q5⟩ := pairsD_of S.same g2 hm
        have l2 : mv.length = more.length := by have := congrArg List.length q3; simpa using this
        exact ⟨a, ps, mv, rfl, .inl (.inl (.inl g1)), q2, by omega, fun q hq => newD_ok S hq q3 q4 q5 hl h k⟩
      · exact h.elim
    · exact h.elim
  · exact h.elim⟩
end DL
namespace DL
open PySem PySem.Spec PyProof.Rows SS
end DL
namespace DL
open PySem L2 PySem.Spec PyProof.Rows
end DL
namespace DL
open PySem L2
def cvD : D → V
  | .int i => .int i
  | .str x => .str x
  | .bl b => .bl b
  | _ => .non
def constD : D → Bool
  | .int _ => true
  | .str x => decide (x.length ≤ 100000) && PyData.strOk x
  | .bl _ => true
  | .non => true
  | _ => false
theorem repL_const {K : PySem.W.Frag} {G : Hp} : ∀ {ds : List D}, ds.all constD = true → RepL K G ds (ds.map cvD)
  | [], _ => rfl
  | d :: ds, h => by
    rw [List.all_cons, Bool.and_eq_true] at h
    refine ⟨cvD d, _, rfl, ?_, repL_const h.2⟩
    cases d <;> first | exact rfl | (cases h.1; done) | skip
    have h1 := h.1
    simp only [constD, Bool.and_eq_true, decide_eq_true_eq] at h1
    exact ⟨rfl, sz1000 h1.1, h1.2⟩
structure GlT (K : PySem.W.Frag) (mg : Str → Option Value) (x : Str) (ds : List D) : Prop where
  ex : ∃ t, mg x = some (.ref t) ∧ ∀ G, Rep K G (.ktp ds) (.ref t)
theorem glT_mk {K : PySem.W.Frag} {mg : Str → Option Value} {x : Str} {t : Addr} {od : Option Addr} {its : Array Value} {n : Nat} {sl : Array (Option Value)} {ds : List D} (h1 : mg x = some (.ref t)) (h2 : K.lookup t = some ⟨.type "tuple", od, .seq its n, sl⟩)
    (h3 : Vals (ds.map cvD) its.toList) (hc : (decide (ds.length ≤ 1000) && ds.all constD) = true) : GlT K mg x ds := by
  rw [Bool.and_eq_true, decide_eq_true_eq] at hc
  have h4 : (ds.map cvD).length ≤ sizeLine := by rw [List.length_map, sizeLine_eq]; omega
  refine ⟨t, h1, fun G => ⟨t, ds.map cvD, rfl, .inr ⟨_, its, n, h2, rfl, rfl, ?_, h3⟩, repL_const hc.2, h4⟩⟩
  rw [← Array.length_toList, ← h3.length]
  exact h4
theorem q_globT {X : Cx} {W : WX} {pos : Pos} {x : Str} {ds : List D} (hg : Gl X x) (h : GlT X.K X.mg x ds) (hd : (x == ("__debug__" : Str)) = false := by decide) : ∃ t, QE X W (.Name x pos) t (qC (.ktp ds)) := by
  obtain ⟨t, h1, h2⟩ := h.ex
  exact ⟨_, q_glob (v := .ref t) hg h1 rfl h2 hd⟩
end DL
namespace DL
open PySem L2 Tx20 Tx21
/-- plain data: texts and lengths of at most n -/
inductive Pl (n : Nat) : D → Prop
  | non : Pl n .non
  | bl (b : Bool) : Pl n (.bl b)
  | int (i : Int) : Pl n (.int i)
  | str {x : Str} (h : Tx_ n x) : Pl n (.str x)
  | tup {ds : List D} (hl : ds.length ≤ n) (h : ∀ d ∈ ds, Pl n d) : Pl n (.tup ds)
  | lst {ds : List D} (hl : ds.length ≤ n) (h : ∀ d ∈ ds, Pl n d) : Pl n (.lst ds)
theorem Pl.mono {n m : Nat} (hn : n ≤ m) {d : D} (h : Pl n d) : Pl m d := by
  induction h with
  | non => exact .non
  | bl b => exact .bl b
  | int i => exact .int i
  | str h => exact .str (h.mono hn)
  | tup hl _ ih => exact .tup (Nat.le_trans hl hn) ih
  | lst hl _ ih => exact .lst (Nat.le_trans hl hn) ih
theorem Pl.data {n : Nat} {d : D} (h : Pl n d) : isData d = true := by
  induction h with
  | non => rfl
  | bl b => rfl
  | int i => rfl
  | str h => rfl
  | tup _ _ ih => rw [isData, isDataL_all, List.all_eq_true]; exact ih
  | lst _ _ ih => rw [isData, isDataL_all, List.all_eq_true]; exact ih
theorem Pl.tupI {n : Nat} {ds : List D} (h : Pl n (.tup ds)) : ds.length ≤ n ∧ ∀ d ∈ ds, Pl n d := by cases h with | tup a b => exact ⟨a, b⟩
theorem Pl.strI {n : Nat} {x : Str} (h : Pl n (.str x)) : Tx_ n x := by cases h with | str a => exact a
def intB : D → Bool
  | .int _ => true
  | .bl _ => true
  | _ => false
def strB : D → Bool
  | .str _ => true
  | _ => false
def tupB : D → Bool
  | .tup _ => true
  | _ => false
section
variable {n : Nat} {x : D} {M : Mst} {Q : DK}
theorem isi_int (h : Pl n x) : dIsi [x, .ty "int"] M Q = Q (.bl (intB x)) M := by cases h <;> simp [intB]
theorem isi_str (h : Pl n x) : dIsi [x, .ty "str"] M Q = Q (.bl (strB x)) M := by cases h <;> simp [strB]
theorem isi_tuple (h : Pl n x) : dIsi [x, .ty "tuple"] M Q = Q (.bl (tupB x)) M := by cases h <;> simp [tupB]
end
section
variable {d0 d1 d2 d3 d4 d5 d6 d7 d8 d9 d10 d11 d12 d13 d14 d15 d16 d17 d18 d19 d20 d21 d22 d23 d24 : D}
theorem z_l0 : (([] : List D).length ≤ 100000) = True := by simp
theorem z_l1 : (([d0] : List D).length ≤ 100000) = True := by simp
theorem z_l2 : (([d0, d1] : List D).length ≤ 100000) = True := by simp
theorem z_l3 : (([d0, d1, d2] : List D).length ≤ 100000) = True := by simp
theorem z_l4 : (([d0, d1, d2, d3] : List D).length ≤ 100000) = True := by simp
theorem z_l5 : (([d0, d1, d2, d3, d4] : List D).length ≤ 100000) = True := by simp
theorem z_l6 : (([d0, d1, d2, d3, d4, d5] : List D).length ≤ 100000) = True := by simp
theorem z_l7 : (([d0, d1, d2, d3, d4, d5, d6] : List D).length ≤ 100000) = True := by simp
theorem z_l8 : (([d0, d1, d2, d3, d4, d5, d6, d7] : List D).length ≤ 100000) = True := by simp
theorem z_l9 : (([d0, d1, d2, d3, d4, d5, d6, d7, d8] : List D).length ≤ 100000) = True := by simp
theorem z_l19 : (([d0, d1, d2, d3, d4, d5, d6, d7, d8, d9, d10, d11, d12, d13, d14, d15, d16, d17, d18] : List D).length ≤ 100000) = True := by simp
theorem z_l24 : (([d0, d1, d2, d3, d4, d5, d6, d7, d8, d9, d10, d11, d12, d13, d14, d15, d16, d17, d18, d19, d20, d21, d22, d23] : List D).length ≤ 100000) = True := by simp
theorem z_l25 : (([d0, d1, d2, d3, d4, d5, d6, d7, d8, d9, d10, d11, d12, d13, d14, d15, d16, d17, d18, d19, d20, d21, d22, d23, d24] : List D).length ≤ 100000) = True := by simp
end
theorem lcN {b : Nat} {te : DTE} {p : Rho} {M : Mst} {c : Addr} {ds : List D} {Q : DK} {Sty : Mst → Prop} (hc : M c = none) (hS : ∀ acc, Sty (put M c (.lst acc))) (hl : ds.length ≤ 100000) (f : D → D)
    (step : ∀ d ∈ ds, ∀ (M' : Mst) (R : DK), Sub M M' → R (f d) M' → te DW0 ((wipeD p [b]).set b (some d)) M' R) (fin : Q (.lst (ds.map f)) M) : compL false Sty (gNameD b) qYes te [b] c p Q ds (put M c (.lst [])) := by
  refine compL_map hc (fun d => some (f d)) hS hl (fun d hd acc R hR => ?_) ?_
  · simp only [gNameD, qYes, if_true]
    exact step d hd _ _ ((Sub.refl M).put hc) hR
  · simp only [Bool.false_eq_true, if_false]
    rw [List.filterMap_eq_map']; exact fin
/-- by a relation: draws -/
theorem lcR {b : Nat} {te : DTE} {p : Rho} {M : Mst} {c : Addr} {ds : List D} {Q : DK} {Sty : Mst → Prop} (hc : M c = none) (hS : ∀ acc, Sty (put M c (.lst acc))) (hl : ds.length ≤ 100000) (P : D → D → Prop)
    (step : ∀ d ∈ ds, ∀ (M' : Mst) (R : DK), Sub M M' → (∀ y, P d y → R y M') → te DW0 ((wipeD p [b]).set b (some d)) M' R) (fin : ∀ ys, All2 P ds ys → Q (.lst ys) M) : compL false Sty (gNameD b) qYes te [b] c p Q ds (put M c (.lst [])) := by
  refine compL_rel hc (fun d o => ∃ y, o = some y ∧ P d y) hS ds [] (by simpa using hl) (fun d hd acc R hR => ?_) fun os hos => ?_
  · simp only [gNameD, qYes, if_true]
    exact step d hd _ _ ((Sub.refl M).put hc) fun y hy => hR _ ⟨y, rfl, hy⟩
  · simp only [Bool.false_eq_true, if_false, List.nil_append]
    have : ∃ ys, os.filterMap id = ys ∧ All2 P ds ys := by
      clear fin step hl hS
      induction hos with
      | nil => exact ⟨[], rfl, .nil⟩
      | cons h _ ih =>
        obtain ⟨y, rfl, hy⟩ := h
        obtain ⟨ys, e, a⟩ := ih
        exact ⟨y :: ys, by simp [e], .cons hy a⟩
    obtain ⟨ys, e, a⟩ := this
    rw [e]; exact fin ys a
theorem All2.mem {α β : Type} {P : α → β → Prop} {as : List α} {bs : List β} (h : All2 P as bs) : ∀ b ∈ bs, ∃ a ∈ as, P a b := by
  induction h with
  | nil => intro b hb; cases hb
  | cons h _ ih =>
    intro b hb
    rcases List.mem_cons.mp hb with rfl | hb
    · exact ⟨_, List.mem_cons_self .., h⟩
    · obtain ⟨a, ha, hp⟩ := ih b hb; exact ⟨a, List.mem_cons_of_mem _ ha, hp⟩
abbrev LETT : Str := lit "abcdefghijklmnopqrstuvwxyz"
def lettB (z : Str) : Bool := z.cps.toList.all fun c => decide (97 ≤ c) && decide (c ≤ 122)
theorem in_lett : ∀ c, c < 127 → inS (one c) LETT = (decide (97 ≤ c) && decide (c ≤ 122)) := by decide +kernel
theorem lett_all {z : Str} (h : Pr z) : ((z.cps.toList.map fun c => inS (one c) LETT).all id) = lettB z := by
  unfold lettB
  rw [List.all_map]
  have : ∀ l : List Nat, (∀ c ∈ l, 32 ≤ c ∧ c ≤ 126) → l.all (id ∘ fun c => inS (one c) LETT) = l.all fun c => decide (97 ≤ c) && decide (c ≤ 122) := fun l => by
    induction l with
    | nil => intro _; rfl
    | cons c r ih =>
      intro h
      rw [List.all_cons, List.all_cons, ih fun d hd => h d (List.mem_cons_of_mem _ hd)]
      simp only [Function.comp, id]
      rw [in_lett c (by have := h c (List.mem_cons_self ..); omega)]
  exact this _ h
def inLett : D → D
  | .str y => .bl (inS y LETT)
  | d => d
def nameS (z : Str) : Bool := (decide (1 ≤ z.length) && decide (z.length ≤ 8)) && lettB z
def nameD : D → Bool
  | .str z => nameS z
  | _ => false
theorem chain_len {lo hi : Nat} {z : Nat} {M : Mst} {Q : DK} : dCmpI (fun i j => decide (i ≤ j)) (.int (lo : Int)) (.int (z : Int)) M (fun z_1 M3 => match z_1 with
    | .bl k => if k = true then dCmpI (fun i j => decide (i ≤ j)) (.int (z : Int)) (.int (hi : Int)) M3 Q else Q (.bl false) M3
    | _ => False) = Q (.bl (decide (lo ≤ z) && decide (z ≤ hi))) M := by
  have e1 : decide ((lo : Int) ≤ (z : Int)) = decide (lo ≤ z) := decide_eq_decide.mpr (by omega)
  have e2 : decide ((z : Int) ≤ (hi : Int)) = decide (z ≤ hi) := decide_eq_decide.mpr (by omega)
  simp only [dCmpI_i, e1, e2]
  cases decide (lo ≤ z) <;> simp
theorem chain_int {lo hi z : Int} {M : Mst} {Q : DK} : dCmpI (fun i j => decide (i ≤ j)) (.int lo) (.int z) M (fun z_1 M3 => match z_1 with
    | .bl k => if k = true then dCmpI (fun i j => decide (i ≤ j)) (.int z) (.int hi) M3 Q else Q (.bl false) M3
    | _ => False) = Q (.bl (decide (lo ≤ z) && decide (z ≤ hi))) M := by
  simp only [dCmpI_i]
  cases decide (lo ≤ z) <;> simp
def wholeD (lo hi : Int) : D → Bool
  | .int i => decide (lo ≤ i) && decide (i ≤ hi)
  | _ => false
def oneD (zs : List Str) : D → Bool
  | .str z => decide (z ∈ zs)
  | _ => false
def longD (k : Nat) : D → Bool
  | .tup ds => decide (ds.length = k)
  | _ => false
def qIsWhole : DTS := (qRet (qAndV (qCB dIsi (qCons (qVar 0) (qCons (qC (.ty "int")) qNil))) (qAndV (qNotV (qCB dIsi (qCons (qVar 0) (qCons (qC (.ty "bool")) qNil)))) (qChain (dCmpI fun i j => decide (i ≤ j)) (dCmpI fun i j => decide (i ≤ j)) (qVar 1) (qVar 0) (qVar 2)))))
def spIsWhole : DSp := fun ds M Q _ => ∃ (n : Nat) (x : D) (lo hi : Int), ds = [x, .int lo, .int hi] ∧ Pl n x ∧ Q (.bl (wholeD lo hi x)) M
theorem whole_ok (ds : List D) (M : Mst) (Q : DK) (Ed : DX → Mst → Prop) (h : upSp spIsWhole ds M Q Ed) : qIsWhole (fun x _ M => Ed x M) (retE Q) (startD ["thing", "low", "high"] ds) M := by
  obtain ⟨Q0, E0, ⟨n, x, lo, hi, rfl, hx, k0⟩, kq, _⟩ := h
  have k : Q (.bl (wholeD lo hi x)) M := kq _ _ _ (Sub.refl _) k0
  show qIsWhole _ _ [some x, some (.int lo), some (.int hi)] M
  simp only [qIsWhole, qAndV, qNotV, qChain, qSeq, qAsg, qTup, qCons, qNil, qOp, qUn, qC, qCall, qVar, qLst, newL_f, qIfS, qTB, qNext, qRet, qDrop, qFor, qCB, qAug, qSl, qPart, qNoPart, gNameD, gSub_eq, dInt_i, dInt0_i, dAdd_i, dCmpI_i, List.set_cons_zero, List.set_cons_succ, List.getElem?_cons_zero, List.getElem?_cons_succ, List.append_nil]
  rw [isi_int hx]
  cases x with
  | int i =>
    simp only [intB, if_true, z_isi_int_bool, Bool.not_false]
    exact chain_int.mpr k
  | bl b => simp only [intB, if_true, z_isi_bl_bool, Bool.not_true, Bool.false_eq_true, if_false]; exact k
  | _ => simp only [intB, Bool.false_eq_true, if_false]; exact k
def qIsName : DTS := (qSeq (qIfS (qOr (qNot (qTB (qCB dIsi (qCons (qVar 0) (qCons (qC (.ty "str")) qNil))))) (qNot (qTB (qChain (dCmpI fun i j => decide (i ≤ j)) (dCmpI fun i j => decide (i ≤ j)) (qC (.int 1)) (qCB dLen (qCons (qVar 0) qNil)) (qC (.int 8))))))
  (qRet (qC (.bl false)))
  qNext)
  (qRet (qCB dAll (qCons (qLc false (qiAny (qVar 0)) (gNameD 1) qYes (qOp (dIn false) (qVar 1) (qC (.str (PySem.Str.ofString "abcdefghijklmnopqrstuvwxyz")))) [1]) qNil))))
def spIsName : DSp := fun ds M Q _ => ∃ (n : Nat) (x : D), ds = [x] ∧ n ≤ 100000 ∧ Pl n x ∧ Q (.bl (nameD x)) M
theorem name_ok (ds : List D) (M : Mst) (Q : DK) (Ed : DX → Mst → Prop) (h : upSp spIsName ds M Q Ed) : qIsName (fun x _ M => Ed x M) (retE Q) (startD ["thing", "sign"] ds) M := by
  obtain ⟨Q0, E0, ⟨n, x, rfl, hn, hx, k0⟩, kq, _⟩ := h
  have k : Q (.bl (nameD x)) M := kq _ _ _ (Sub.refl _) k0
  show qIsName _ _ [some x, none] M
  simp only [qIsName, qOr, qNot, qChain, qSeq, qAsg, qTup, qCons, qNil, qOp, qUn, qC, qCall, qVar, qLst, newL_f, qIfS, qTB, qNext, qRet, qDrop, qFor, qCB, qAug, qSl, qPart, qNoPart, gNameD, gSub_eq, dInt_i, dInt0_i, dAdd_i, dCmpI_i, List.set_cons_zero, List.set_cons_succ, List.getElem?_cons_zero, List.getElem?_cons_succ, List.append_nil]
  rw [isi_str hx]
  cases x with
  | str z =>
    have T := hx.strI
    simp only [strB, Bool.not_true, Bool.false_eq_true, if_false, z_len_str]
    refine (chain_len (lo := 1) (hi := 8)).mpr ?_
    have k : Q (.bl ((decide (1 ≤ z.length) && decide (z.length ≤ 8)) && lettB z)) M := k
    cases hc : decide (1 ≤ z.length) && decide (z.length ≤ 8) with
    | false => rw [hc] at k; simp only [Bool.not_false, if_true]; exact k
    | true =>
      rw [hc] at k
      simp only [Bool.not_true, Bool.false_eq_true, if_false]
      simp only [qLc, qiAny, qVar, List.getElem?_cons_zero]
      intro c hc
      refine lcN hc (fun _ => trivial) (by unfold signs; rw [List.length_map, Array.length_toList]; exact Nat.le_trans T.len hn) inLett (fun d hd M' R S hR => ?_) ?_
      · unfold signs at hd
        obtain ⟨c, _, rfl⟩ := List.mem_map.mp hd
        show dIn false (.str (one c)) (.str LETT) M' R
        rw [z_inS, Bool.false_xor]
        exact hR
      · have e : (signs z).map inLett = (z.cps.toList.map fun c => inS (one c) LETT).map D.bl := by
          unfold signs; rw [List.map_map, List.map_map]; rfl
        rw [e, all_bls, lett_all T.pr]; exact k
  | _ => simp only [strB, Bool.not_false, if_true]; exact k
def qIsOne : DTS := (qRet (qAndV (qCB dIsi (qCons (qVar 0) (qCons (qC (.ty "str")) qNil))) (qOp (dIn false) (qVar 0) (qVar 1))))
/-- what texts are: a list, a tuple, the keys of a dict -/
def TextsD (M : Mst) (zs : List Str) (t : D) : Prop := ∀ (z : Str) (Q : DK), dIn false (.str z) t M Q = Q (.bl (decide (z ∈ zs))) M
theorem textsD_t {M : Mst} {zs : List Str} : TextsD M zs (.tup (zs.map .str)) := fun z Q => by rw [in_strsT, Bool.false_xor]
theorem textsD_x {M : Mst} {zs : List Str} : TextsD M zs (.xtp (zs.map .str)) := fun z Q => (in_strsT (neg := false) (M := M) (Q := Q) (z := z) (zs := zs)).trans (by rw [Bool.false_xor])
def spIsOne : DSp := fun ds M Q _ => ∃ (n : Nat) (x t : D) (zs : List Str), ds = [x, t] ∧ Pl n x ∧ TextsD M zs t ∧ Q (.bl (oneD zs x)) M
theorem one_ok (ds : List D) (M : Mst) (Q : DK) (Ed : DX → Mst → Prop) (h : upSp spIsOne ds M Q Ed) : qIsOne (fun x _ M => Ed x M) (retE Q) (startD ["thing", "texts"] ds) M := by
  obtain ⟨Q0, E0, ⟨n, x, t, zs, rfl, hx, ht, k0⟩, kq, _⟩ := h
  have k : Q (.bl (oneD zs x)) M := kq _ _ _ (Sub.refl _) k0
  show qIsOne _ _ [some x, some t] M
  simp only [qIsOne, qAndV, qSeq, qAsg, qTup, qCons, qNil, qOp, qUn, qC, qCall, qVar, qLst, newL_f, qIfS, qTB, qNext, qRet, qDrop, qFor, qCB, qAug, qSl, qPart, qNoPart, gNameD, gSub_eq, dInt_i, dInt0_i, dAdd_i, dCmpI_i, List.set_cons_zero, List.set_cons_succ, List.getElem?_cons_zero, List.getElem?_cons_succ, List.append_nil]
  rw [isi_str hx]
  cases x with
  | str z =>
    simp only [strB, if_true]
    rw [ht]; exact k
  | _ => simp only [strB, Bool.false_eq_true, if_false]; exact k
def qIsTuple : DTS := (qRet (qAndV (qCB dIsi (qCons (qVar 0) (qCons (qC (.ty "tuple")) qNil))) (qOp (dEq false) (qCB dLen (qCons (qVar 0) qNil)) (qVar 1))))
def spIsTuple : DSp := fun ds M Q _ => ∃ (n : Nat) (x : D) (k : Nat), ds = [x, .int (k : Int)] ∧ Pl n x ∧ Q (.bl (longD k x)) M
theorem tuple_ok (ds : List D) (M : Mst) (Q : DK) (Ed : DX → Mst → Prop) (h : upSp spIsTuple ds M Q Ed) : qIsTuple (fun x _ M => Ed x M) (retE Q) (startD ["thing", "many"] ds) M := by
  obtain ⟨Q0, E0, ⟨n, x, m, rfl, hx, k0⟩, kq, _⟩ := h
  have k : Q (.bl (longD m x)) M := kq _ _ _ (Sub.refl _) k0
  show qIsTuple _ _ [some x, some (.int m)] M
  simp only [qIsTuple, qAndV, qSeq, qAsg, qTup, qCons, qNil, qOp, qUn, qC, qCall, qVar, qLst, newL_f, qIfS, qTB, qNext, qRet, qDrop, qFor, qCB, qAug, qSl, qPart, qNoPart, gNameD, gSub_eq, dInt_i, dInt0_i, dAdd_i, dCmpI_i, List.set_cons_zero, List.set_cons_succ, List.getElem?_cons_zero, List.getElem?_cons_succ, List.append_nil]
  rw [isi_tuple hx]
  cases x with
  | tup ds =>
    simp only [tupB, if_true, z_len_tup]
    rw [eq_i, Bool.false_xor]; exact k
  | _ => simp only [tupB, Bool.false_eq_true, if_false]; exact k
/-- a tuple's item at a known place -/
theorem ix_tn {ds : List D} {i : Nat} {d : D} {M : Mst} {Q : DK} (h : ds[i]? = some d) : dIx (.tup ds) (.int (i : Int)) M Q = Q d M := ix_t (by rw [atI_n]; exact h)
theorem ix_ln {ds : List D} {i : Nat} {d : D} {M : Mst} {Q : DK} (h : ds[i]? = some d) : dIx (.lst ds) (.int (i : Int)) M Q = Q d M := ix_l (by rw [atI_n]; exact h)
@[simp] theorem z_ix_t2 {a b c : D} {ds : List D} {M : Mst} {Q : DK} : dIx (.tup (a :: b :: c :: ds)) (.int 2) M Q = Q c M := ix_tn (i := 2) rfl
@[simp] theorem z_ix_t3 {a b c e : D} {ds : List D} {M : Mst} {Q : DK} : dIx (.tup (a :: b :: c :: e :: ds)) (.int 3) M Q = Q e M := ix_tn (i := 3) rfl
@[simp] theorem z_ix_l2 {a b c : D} {ds : List D} {M : Mst} {Q : DK} : dIx (.lst (a :: b :: c :: ds)) (.int 2) M Q = Q c M := ix_ln (i := 2) rfl
@[simp] theorem z_ix_l3 {a b c e : D} {ds : List D} {M : Mst} {Q : DK} : dIx (.lst (a :: b :: c :: e :: ds)) (.int 3) M Q = Q e M := ix_ln (i := 3) rfl
theorem longD_iff {k : Nat} {x : D} : longD k x = true ↔ ∃ ds, x = .tup ds ∧ ds.length = k := by cases x <;> simp [longD]
end DL
namespace DL
open PySem L2 Tx20 Tx21
/-- a tuple, its object known or not -/
def seqD : D → Option (List D)
  | .tup ds => some ds
  | .xtp ds => some ds
  | _ => none
/-- what is handed in: plain data, or a tuple of them whose object is known -/
inductive Th (n : Nat) : D → Prop
  | pl {x : D} (h : Pl n x) : Th n x
  | xt {ds : List D} (hl : ds.length ≤ n) (h : ∀ d ∈ ds, Pl n d) : Th n (.xtp ds)
section
variable {n : Nat} {x : D} {M : Mst} {Q : DK}
theorem Th.seq (h : Th n x) {ds : List D} (e : seqD x = some ds) : ds.length ≤ n ∧ ∀ d ∈ ds, Pl n d := by
  cases h with
  | pl h =>
    cases h with
    | tup a b => cases e; exact ⟨a, b⟩
    | _ => cases e
  | xt a b => cases e; exact ⟨a, b⟩
theorem th_isi (h : Th n x) : dIsi [x, .ty "tuple"] M Q = Q (.bl (seqD x).isSome) M := by
  cases h with
  | pl h => rw [isi_tuple h]; cases h <;> rfl
  | xt a b => exact (show dIsi [.xtp _, .ty "tuple"] M Q = dIsi [.tup _, .ty "tuple"] M Q from rfl).trans z_isi_tup_tup
theorem seq_len {ds : List D} (e : seqD x = some ds) : dLen [x] M Q = Q (.int (ds.length : Int)) M := by
  cases x <;> first | (cases e; done) | (cases e; simp)
theorem seq_at {ds : List D} (e : seqD x = some ds) : seqAt M x = some (true, ds, always) := by
  cases x <;> first | (cases e; done) | (cases e; rfl)
theorem seq_cut {ds : List D} (e : seqD x = some ds) {k : Nat} (h1 : Q (.tup (ds.take k)) M) (h2 : Q (.xtp (ds.take k)) M) : dSl false x none (some (k : Int)) M Q := by
  cases x <;> first | (cases e; done) | (cases e; simp only [dSl, cut_to]; first | exact h1 | exact ⟨h1, h2⟩)
end
def optI : Option Int → D
  | none => .non
  | some i => .int i
def placeD : D → Bool
  | .tup [a, b] => nameD a && wholeD 1 4 b
  | _ => false
def nameOf : D → Str
  | .tup (.str z :: _) => z
  | _ => Str.empty
def qIsPlace (sp_is_name : DSp) (sp_is_tuple_of : DSp) (sp_is_whole : DSp) : DTS := (qRet (qAndV (qCall sp_is_tuple_of [] (qCons (qVar 0) (qCons (qC (.int 2)) qNil))) (qAndV (qCall sp_is_name [] (qCons (qOp dIx (qVar 0) (qC (.int 0))) qNil)) (qCall sp_is_whole [] (qCons (qOp dIx (qVar 0) (qC (.int 1))) (qCons (qC (.int 1)) (qCons (qC (.int 4)) qNil)))))))
def spIsPlace : DSp := fun ds M Q _ => ∃ (n : Nat) (x : D), ds = [x] ∧ n ≤ 100000 ∧ Pl n x ∧ Q (.bl (placeD x)) M
theorem place_ok (ds : List D) (M : Mst) (Q : DK) (Ed : DX → Mst → Prop) (h : upSp spIsPlace ds M Q Ed) : qIsPlace spIsName spIsTuple spIsWhole (fun x _ M => Ed x M) (retE Q) (startD ["thing"] ds) M := by
  obtain ⟨Q0, E0, ⟨n, x, rfl, hn, hx, k0⟩, kq, _⟩ := h
  have k : Q (.bl (placeD x)) M := kq _ _ _ (Sub.refl _) k0
  show qIsPlace _ _ _ _ _ [some x] M
  simp only [qIsPlace, qAndV, qSeq, qAsg, qTup, qCons, qNil, qOp, qUn, qC, qCall, qVar, qLst, newL_f, qIfS, qTB, qNext, qRet, qDrop, qFor, qCB, qAug, qSl, qPart, qNoPart, gNameD, gSub_eq, dInt_i, dInt0_i, dAdd_i, dCmpI_i, List.set_cons_zero, List.set_cons_succ, List.getElem?_cons_zero, List.getElem?_cons_succ, List.append_nil]
  refine ⟨n, x, 2, rfl, hx, ?_⟩
  cases hl : longD 2 x with
  | false =>
    have : placeD x = false := by
      unfold placeD
      split
      · cases hl
      · rfl
    rw [this] at k
    simp only [Bool.false_eq_true, if_false]; exact k
  | true =>
    obtain ⟨ds, rfl, hl⟩ := longD_iff.mp hl
    obtain ⟨a, b, rfl⟩ : ∃ a b, ds = [a, b] := by
      match ds, hl with
      | [a, b], _ => exact ⟨a, b, rfl⟩
    have hp := hx.tupI.2
    simp only [if_true, z_ix_t0, z_ix_t1]
    refine ⟨n, a, rfl, hn, hp _ (by simp), ?_⟩
    have k : Q (.bl (nameD a && wholeD 1 4 b)) M := k
    cases ha : nameD a with
    | false => rw [ha] at k; simp only [Bool.false_eq_true, if_false]; exact k
    | true => rw [ha] at k; simp only [if_true]; exact ⟨n, b, 1, 4, rfl, hp _ (by simp), k⟩
/-- the first place that is none, or whose name stood before -/
def badP : List Str → Nat → List D → Option Nat
  | _, _, [] => none
  | seen, i, d :: ds => if placeD d && !decide (nameOf d ∈ seen) then badP (seen ++ [nameOf d]) (i + 1) ds else some i
def faultP (x : D) : Option Int := match seqD x with
  | some ds => if (decide (1 ≤ ds.length) && decide (ds.length ≤ 40)) = true then (badP [] 0 ds).map fun i : Nat => (i : Int) else some (-1)
  | none => some (-1)
def seenD (zs : List Str) : List (Key × D) := zs.map fun z => (.inr z, .bl true)
theorem seen_val (zs : List Str) (z : Str) : (valD (seenD zs) (.inr z)).isSome = decide (z ∈ zs) := by
  unfold valD seenD
  rw [Option.isSome_map]
  induction zs with
  | nil => simp
  | cons y r ih =>
    rw [List.map_cons, List.find?_cons]
    by_cases e : y = z
    · subst e; simp
    · have e1 : decide ((Sum.inr y : Key) = Sum.inr z) = false := decide_eq_false fun q => e (by injection q)
      rw [e1, ih]
      apply decide_eq_decide.mpr
      simp [Ne.symm e]
theorem seen_put {zs : List Str} {z : Str} (h : z ∉ zs) : putD (seenD zs) (.inr z) (.bl true) = seenD (zs ++ [z]) := by
  unfold putD
  rw [if_neg]
  · simp [seenD]
  · rw [List.any_eq_true]
    rintro ⟨kv, hk, e⟩
    obtain ⟨y, hy, rfl⟩ := List.mem_map.mp hk
    have e2 := of_decide_eq_true e
    injection e2 with e2
    subst e2; exact h hy
theorem in_seen {M : Mst} {Q : DK} {a : Addr} {zs : List Str} {z : Str} (hm : M a = some (.dK (seenD zs))) : dIn false (.str z) (.ref a) M Q = Q (.bl (decide (z ∈ zs))) M := by
  unfold dIn
  simp only [dgetD, hm, keyD, Option.map_some, seen_val, Bool.false_xor]
theorem placeD_iff {x : D} : placeD x = true ↔ ∃ z i, x = .tup [.str z, .int i] ∧ nameS z = true ∧ 1 ≤ i ∧ i ≤ 4 := by
  constructor
  · intro h
    unfold placeD at h
    split at h
    · next a b =>
      rw [Bool.and_eq_true] at h
      cases a <;> first | (cases h.1; done) | skip
      cases b <;> first | (cases h.2; done) | skip
      have h2 := h.2
      simp only [wholeD, Bool.and_eq_true, decide_eq_true_eq] at h2
      exact ⟨_, _, rfl, h.1, h2.1, h2.2⟩
    · cases h
  · rintro ⟨z, i, rfl, h1, h2, h3⟩
    simp [placeD, nameD, h1, wholeD, h2, h3]
def qPlacesFault (sp_is_place : DSp) : DTS :=
  (qSeq (qIfS (qOr (qNot (qTB (qCB dIsi (qCons (qVar 0) (qCons (qC (.ty "tuple")) qNil))))) (qNot (qTB (qChain (dCmpI fun i j => decide (i ≤ j)) (dCmpI fun i j => decide (i ≤ j)) (qC (.int 1)) (qCB dLen (qCons (qVar 0) qNil)) (qC (.int 40))))))
  (qRet (qUn dNeg (qC (.int 1))))
  qNext)
  (qSeq (qAsg qDNew (gNameD 1))
  (qSeq (qFor (qiEnum0 (qCons (qVar 0) qNil)) (gTupD 2 (gConsD (gNameD 2) (gConsD (gNameD 3) gNilD)))
  (qSeq (qIfS (qOr (qNot (qTB (qCall sp_is_place [] (qCons (qVar 3) qNil)))) (qTB (qOp (dIn false) (qOp dIx (qVar 3) (qC (.int 0))) (qVar 1))))
  (qRet (qVar 2))
  qNext)
  (qAsg (qC (.bl true)) (gSubD (qVar 1) (qOp dIx (qVar 3) (qC (.int 0)))))))
  (qRet (qC .non)))))
def spPlaces : DSp := fun ds M Q _ => ∃ (n : Nat) (x : D), ds = [x] ∧ n ≤ 50000 ∧ Th n x ∧ Q (optI (faultP x)) M
theorem enum_tup {i : Nat} {ds : List D} {d : D} (h : (enumDI 0 ds)[i]? = some d) : ∃ e, ds[i]? = some e ∧ d = .tup [.int (i : Int), e] := by
  rw [enumDI_get] at h
  obtain ⟨e, h1, h2⟩ := Option.map_eq_some_iff.mp h
  exact ⟨e, h1, by rw [← h2, Int.zero_add]⟩
theorem drop_at {α : Type} {ds : List α} {i : Nat} {e : α} (h : ds[i]? = some e) : ds.drop i = e :: ds.drop (i + 1) := by
  obtain ⟨h1, rfl⟩ := List.getElem?_eq_some_iff.mp h
  exact List.drop_eq_getElem_cons h1
theorem places_ok (ds : List D) (M : Mst) (Q : DK) (Ed : DX → Mst → Prop) (h : upSp spPlaces ds M Q Ed) : qPlacesFault spIsPlace (fun x _ M => Ed x M) (retE Q) (startD ["thing", "seen", "at", "one"] ds) M := by
  obtain ⟨Q0, E0, ⟨n, x, rfl, hn, hx, k0⟩, kq, _⟩ := h
  have k : ∀ M', Sub M M' → Q (optI (faultP x)) M' := fun M' S => kq _ _ _ S k0
  show qPlacesFault _ _ _ [some x, none, none, none] M
  simp only [qPlacesFault, qOr, qNot, qChain, qSeq, qAsg, qTup, qCons, qNil, qOp, qUn, qC, qCall, qVar, qLst, newL_f, qIfS, qTB, qNext, qRet, qDrop, qFor, qCB, qAug, qSl, qPart, qNoPart, gNameD, gSub_eq, dInt_i, dInt0_i, dAdd_i, dCmpI_i, List.set_cons_zero, List.set_cons_succ, List.getElem?_cons_zero, List.getElem?_cons_succ, List.append_nil]
  rw [th_isi hx]
  cases hs : seqD x with
  | none =>
    have e : faultP x = some (-1) := by simp [faultP, hs]
    rw [e] at k
    simp only [Option.isSome_none, Bool.not_false, if_true, z_neg]
    exact k M (Sub.refl _)
  | some es =>
    obtain ⟨hl, hp⟩ := hx.seq hs
    simp only [Option.isSome_some, Bool.not_true, Bool.false_eq_true, if_false, seq_len hs]
    refine (chain_len (lo := 1) (hi := 40)).mpr ?_
    have e : faultP x = if (decide (1 ≤ es.length) && decide (es.length ≤ 40)) = true then (badP [] 0 es).map fun i : Nat => (i : Int) else some (-1) := by simp [faultP, hs]
    rw [e] at k
    cases hc : decide (1 ≤ es.length) && decide (es.length ≤ 40) with
    | false =>
      rw [hc] at k
      simp only [Bool.not_false, if_true, z_neg]
      exact k M (Sub.refl _)
    | true =>
      rw [hc] at k
      simp only [Bool.not_true, Bool.false_eq_true, if_false, if_true] at k ⊢
      intro a ha
      simp only [qiEnum0, qSeq, qAsg, qTup, qCons, qNil, qOp, qUn, qC, qCall, qVar, qLst, newL_f, qIfS, qTB, qNext, qRet, qDrop, qFor, qCB, qAug, qSl, qPart, qNoPart, gNameD, gSub_eq, dInt_i, dInt0_i, dAdd_i, dCmpI_i, List.set_cons_zero, List.set_cons_succ, List.getElem?_cons_zero, List.getElem?_cons_succ, List.append_nil, seq_at hs]
      refine loopL_inv (fun i p M' => ∃ seen p2 p3, p = [some x, some (.ref a), p2, p3] ∧ seen.length ≤ i ∧ M' a = some (.dK (seenD seen)) ∧ Sub M M' ∧ badP [] 0 es = badP seen i (es.drop i)) (n := es.length) (by simp) (fun i d p M' R hd hI hR => ?_) (fun p M' hI => ?_)
        ⟨[], none, none, rfl, Nat.zero_le _, put_same, (Sub.refl M).put ha, by rw [List.drop_zero]⟩
      · obtain ⟨seen, p2, p3, rfl, hsl, hm, hS, hb⟩ := hI
        obtain ⟨e, he, rfl⟩ := enum_tup hd
        rw [drop_at he] at hb
        have hi : i < es.length := (List.getElem?_eq_some_iff.mp he).1
        have hpe := hp e (List.mem_of_getElem? he)
        refine ⟨trivial, ?_⟩
        simp only [gTupD, gConsD, gNilD, qSeq, qAsg, qTup, qCons, qNil, qOp, qUn, qC, qCall, qVar, qLst, newL_f, qIfS, qTB, qNext, qRet, qDrop, qFor, qCB, qAug, qSl, qPart, qNoPart, gNameD, gSub_eq, dInt_i, dInt0_i, dAdd_i, dCmpI_i, List.set_cons_zero, List.set_cons_succ, List.getElem?_cons_zero, List.getElem?_cons_succ, List.append_nil]
        refine ⟨rfl, rfl, ?_⟩
        refine ⟨n, e, rfl, by omega, hpe, ?_⟩
        rw [badP] at hb
        cases hpl : placeD e with
        | false =>
          rw [hpl, Bool.false_and, if_neg Bool.false_ne_true] at hb
          rw [hb] at k
          simp only [Bool.not_false, if_true]
          exact k M' hS
        | true =>
          obtain ⟨z, r, rfl, hz, _, _⟩ := placeD_iff.mp hpl
          simp only [Bool.not_true, Bool.false_eq_true, if_false, qSeq, qAsg, qTup, qCons, qNil, qOp, qUn, qC, qCall, qVar, qLst, newL_f, qIfS, qTB, qNext, qRet, qDrop, qFor, qCB, qAug, qSl, qPart, qNoPart, gNameD, gSub_eq, dInt_i, dInt0_i, dAdd_i, dCmpI_i, List.set_cons_zero, List.set_cons_succ, List.getElem?_cons_zero, List.getElem?_cons_succ, List.append_nil, z_ix_t0]
          rw [in_seen hm]
          rw [hpl, Bool.true_and] at hb
          have en : nameOf (.tup [.str z, .int r]) = z := rfl
          rw [en] at hb
          by_cases hin : z ∈ seen
          · rw [if_neg (by simp [hin])] at hb
            rw [hb] at k
            simp only [hin, decide_true, if_true]
            exact k M' hS
          · rw [if_pos (by simp [hin])] at hb
            simp only [hin, decide_false, Bool.false_eq_true, if_false]
            unfold dSet
            simp only [hm, keyD, seen_put hin]
            refine ⟨by simp [seenD]; omega, hR _ _ ⟨seen ++ [z], _, _, rfl, by simp; omega, put_same, hS.put ha, hb⟩⟩
      · obtain ⟨seen, p2, p3, rfl, hsl, hm, hS, hb⟩ := hI
        refine ⟨trivial, ?_⟩
        rw [List.drop_length, badP] at hb
        rw [hb] at k
        exact k M' hS
end DL
namespace DL
open PySem L2 Tx20 Tx21
def badS (zs : List Str) : Nat → List Str → List D → Option Nat
  | _, _, [] => none
  | i, seen, .str z :: ds => if (decide (z ∈ zs) && !decide (z ∈ seen)) = true then badS zs (i + 1) (seen ++ [z]) ds else some i
  | i, _, _ :: _ => some i
def faultS (zs : List Str) (x : D) : Option Int := match seqD x with
  | some ds => if decide (12 < ds.length) = true then some (-1) else (badS zs 0 [] ds).map fun i : Nat => (i : Int)
  | none => some (-1)
def qStations (sp_is_one_of : DSp) : DTS :=
  (qSeq (qIfS (qOr (qNot (qTB (qCB dIsi (qCons (qVar 1) (qCons (qC (.ty "tuple")) qNil))))) (qTB (qOp (dCmpI fun i j => decide (j < i)) (qCB dLen (qCons (qVar 1) qNil)) (qC (.int 12)))))
  (qRet (qUn dNeg (qC (.int 1))))
  qNext)
  (qSeq (qFor (qiEnum0 (qCons (qVar 1) qNil)) (gTupD 2 (gConsD (gNameD 2) (gConsD (gNameD 3) gNilD)))
  (qIfS (qOr (qNot (qTB (qCall sp_is_one_of [] (qCons (qVar 3) (qCons (qVar 0) qNil))))) (qTB (qOp (dIn false) (qVar 3) (qSl false (qVar 1) qNoPart (qPart (qVar 2))))))
  (qRet (qVar 2))
  qNext))
  (qRet (qC .non))))
def spStations : DSp := fun ds M Q _ => ∃ (n : Nat) (t x : D) (zs : List Str), ds = [t, x] ∧ n ≤ 50000 ∧ TextsD M zs t ∧ Th n x ∧ Q (optI (faultS zs x)) M
theorem oneD_iff {zs : List Str} {x : D} : oneD zs x = true ↔ ∃ z, x = .str z ∧ z ∈ zs := by cases x <;> simp [oneD]
theorem badS_not {zs seen : List Str} {i : Nat} {x : D} {ds : List D} (h : oneD zs x = false) : badS zs i seen (x :: ds) = some i := by
  cases x <;> first | rfl | skip
  simp only [oneD] at h
  rw [badS, if_neg (by rw [h]; simp)]
theorem chain_gt {hi : Nat} {z : Nat} {M : Mst} {Q : DK} : dCmpI (fun i j => decide (j < i)) (.int (z : Int)) (.int (hi : Int)) M Q = Q (.bl (decide (hi < z))) M := by
  have e1 : decide ((hi : Int) < (z : Int)) = decide (hi < z) := decide_eq_decide.mpr (by omega)
  rw [dCmpI_i, e1]
theorem stations_ok (ds : List D) (M : Mst) (Q : DK) (Ed : DX → Mst → Prop) (h : upSp spStations ds M Q Ed) : qStations spIsOne (fun x _ M => Ed x M) (retE Q) (startD ["names", "thing", "at", "one"] ds) M := by
  obtain ⟨Q0, E0, ⟨n, t, x, zs, rfl, hn, ht, hx, k0⟩, kq, _⟩ := h
  have k : Q (optI (faultS zs x)) M := kq _ _ _ (Sub.refl _) k0
  show qStations _ _ _ [some t, some x, none, none] M
  simp only [qStations, qOr, qNot, qSeq, qAsg, qTup, qCons, qNil, qOp, qUn, qC, qCall, qVar, qLst, newL_f, qIfS, qTB, qNext, qRet, qDrop, qFor, qCB, qAug, qSl, qPart, qNoPart, gNameD, gSub_eq, dInt_i, dInt0_i, dAdd_i, dCmpI_i, List.set_cons_zero, List.set_cons_succ, List.getElem?_cons_zero, List.getElem?_cons_succ, List.append_nil]
  rw [th_isi hx]
  cases hs : seqD x with
  | none =>
    have e : faultS zs x = some (-1) := by simp [faultS, hs]
    rw [e] at k
    simp only [Option.isSome_none, Bool.not_false, if_true, z_neg]
    exact k
  | some es =>
    obtain ⟨hl, hp⟩ := hx.seq hs
    have e : faultS zs x = if decide (12 < es.length) = true then some (-1) else (badS zs 0 [] es).map fun i : Nat => (i : Int) := by simp [faultS, hs]
    rw [e] at k
    simp only [Option.isSome_some, Bool.not_true, Bool.false_eq_true, if_false, seq_len hs]
    refine (chain_gt (hi := 12)).mpr ?_
    cases hc : decide (12 < es.length) with
    | true =>
      rw [hc] at k
      simp only [if_true, z_neg] at k ⊢
      exact k
    | false =>
      rw [hc] at k
      simp only [Bool.false_eq_true, if_false] at k ⊢
      simp only [qiEnum0, qSeq, qAsg, qTup, qCons, qNil, qOp, qUn, qC, qCall, qVar, qLst, newL_f, qIfS, qTB, qNext, qRet, qDrop, qFor, qCB, qAug, qSl, qPart, qNoPart, gNameD, gSub_eq, dInt_i, dInt0_i, dAdd_i, dCmpI_i, List.set_cons_zero, List.set_cons_succ, List.getElem?_cons_zero, List.getElem?_cons_succ, List.append_nil, seq_at hs]
      refine loopL_inv (fun i p M' => ∃ (seen : List Str) (p2 p3 : Option D), p = [some t, some x, p2, p3] ∧ es.take i = seen.map .str ∧ M' = M ∧ badS zs 0 [] es = badS zs i seen (es.drop i)) (n := es.length) (by simp) (fun i d p M' R hd hI hR => ?_) (fun p M' hI => ?_)
        ⟨[], none, none, rfl, rfl, rfl, by rw [List.drop_zero]⟩
      · obtain ⟨seen, p2, p3, rfl, hsn, rfl, hb⟩ := hI
        obtain ⟨e, he, rfl⟩ := enum_tup hd
        rw [drop_at he] at hb
        have hpe := hp e (List.mem_of_getElem? he)
        refine ⟨trivial, ?_⟩
        simp only [gTupD, gConsD, gNilD, qSeq, qAsg, qTup, qCons, qNil, qOp, qUn, qC, qCall, qVar, qLst, newL_f, qIfS, qTB, qNext, qRet, qDrop, qFor, qCB, qAug, qSl, qPart, qNoPart, gNameD, gSub_eq, dInt_i, dInt0_i, dAdd_i, dCmpI_i, List.set_cons_zero, List.set_cons_succ, List.getElem?_cons_zero, List.getElem?_cons_succ, List.append_nil]
        refine ⟨rfl, rfl, ?_⟩
        refine ⟨n, e, t, zs, rfl, hpe, ht, ?_⟩
        cases ho : oneD zs e with
        | false =>
          rw [badS_not ho] at hb
          rw [hb] at k
          simp only [Bool.not_false, if_true]
          exact k
        | true =>
          obtain ⟨z, rfl, hz⟩ := oneD_iff.mp ho
          simp only [Bool.not_true, Bool.false_eq_true, if_false, qSeq, qAsg, qTup, qCons, qNil, qOp, qUn, qC, qCall, qVar, qLst, newL_f, qIfS, qTB, qNext, qRet, qDrop, qFor, qCB, qAug, qSl, qPart, qNoPart, gNameD, gSub_eq, dInt_i, dInt0_i, dAdd_i, dCmpI_i, List.set_cons_zero, List.set_cons_succ, List.getElem?_cons_zero, List.getElem?_cons_succ, List.append_nil]
          have hnx : (es.take (i + 1)) = (seen ++ [z]).map D.str := by rw [List.take_add_one, he, hsn]; simp
          refine seq_cut hs ?_ ?_ <;> rw [hsn] <;> first | rw [textsD_t z] | rw [textsD_x z]
          all_goals
            by_cases hin : z ∈ seen
            · rw [badS, if_neg (by simp [hin])] at hb
              rw [hb] at k
              simp only [hin, decide_true, if_true]
              exact k
            · rw [badS, if_pos (by simp [hz, hin])] at hb
              simp only [hin, decide_false, Bool.false_eq_true, if_false]
              exact hR _ _ ⟨seen ++ [z], _, _, rfl, hnx, rfl, hb⟩
      · obtain ⟨seen, p2, p3, rfl, hsn, rfl, hb⟩ := hI
        refine ⟨trivial, ?_⟩
        rw [List.drop_length, badS] at hb
        rw [hb] at k
        exact k
abbrev Row_ := Str × Int
def plD (r : Row_) : D := .tup [.str r.1, .int r.2]
def RowOk (r : Row_) : Prop := nameS r.1 = true ∧ 1 ≤ r.2 ∧ r.2 ≤ 4
theorem badP_ok : ∀ (rows : List Row_) (seen : List Str) (i : Nat), (∀ r ∈ rows, RowOk r) → (seen ++ rows.map (·.1)).Nodup → badP seen i (rows.map plD) = none
  | [], _, _, _, _ => rfl
  | r :: rows, seen, i, h, hd => by
    have h1 := h r (List.mem_cons_self ..)
    have hp : placeD (plD r) = true := placeD_iff.mpr ⟨_, _, rfl, h1⟩
    have hn : nameOf (plD r) = r.1 := rfl
    rw [List.map_cons] at hd ⊢
    have hni : r.1 ∉ seen := fun z => (List.nodup_append.mp hd).2.2 _ z _ (List.mem_cons_self ..) rfl
    rw [badP, hp, hn, if_pos (by simp [hni])]
    exact badP_ok rows _ _ (fun x hx => h x (List.mem_cons_of_mem _ hx)) (by rw [List.append_assoc]; exact hd)
theorem badS_ok (zs : List Str) : ∀ (ss seen : List Str) (i : Nat), (∀ z ∈ ss, z ∈ zs) → (seen ++ ss).Nodup → badS zs i seen (ss.map .str) = none
  | [], _, _, _, _ => rfl
  | z :: ss, seen, i, h, hd => by
    have hni : z ∉ seen := fun q => (List.nodup_append.mp hd).2.2 _ q _ (List.mem_cons_self ..) rfl
    rw [List.map_cons, badS, if_pos (by simp [hni, h z (List.mem_cons_self ..)])]
    exact badS_ok zs ss _ _ (fun x hx => h x (List.mem_cons_of_mem _ hx)) (by rw [List.append_assoc]; exact hd)
def riskD (rows : List Row_) : List (Key × D) := rows.map fun r => (.inr r.1, .int r.2)
theorem risk_pairs : ∀ rows : List Row_, pairsD (rows.map plD) = some (riskD rows)
  | [] => rfl
  | r :: rows => by
    have := risk_pairs rows
    rw [List.map_cons, plD]
    show (match keyD (.str r.1), pairsD (rows.map plD) with | some k, some ks => some ((k, D.int r.2) :: ks) | _, _ => none) = _
    rw [this]; rfl
theorem risk_val (rows : List Row_) (z : Str) : (valD (riskD rows) (.inr z)).isSome = decide (z ∈ rows.map (·.1)) := by
  unfold valD riskD
  rw [Option.isSome_map]
  induction rows with
  | nil => simp
  | cons y r ih =>
    rw [List.map_cons, List.find?_cons]
    by_cases e : y.1 = z
    · subst e; simp
    · have e1 : decide ((Sum.inr y.1 : Key) = Sum.inr z) = false := decide_eq_false fun q => e (by injection q)
      rw [e1, ih]
      apply decide_eq_decide.mpr
      simp [Ne.symm e]
theorem risk_putAll : ∀ (rows pre : List Row_), ((pre ++ rows).map (·.1)).Nodup → putAllD (riskD pre) (riskD rows) = riskD (pre ++ rows)
  | [], pre, _ => by simp [putAllD, riskD]
  | r :: rows, pre, hd => by
    have hni : r.1 ∉ pre.map (·.1) := fun q => by
      rw [List.map_append] at hd
      exact (List.nodup_append.mp hd).2.2 _ q _ (by simp) rfl
    have e : putD (riskD pre) (.inr r.1) (.int r.2) = riskD (pre ++ [r]) := by
      unfold putD
      rw [if_neg]
      · simp [riskD]
      · rw [List.any_eq_true]
        rintro ⟨kv, hk, e⟩
        obtain ⟨y, hy, rfl⟩ := List.mem_map.mp hk
        have e2 := of_decide_eq_true e
        injection e2 with e2
        exact hni (List.mem_map.mpr ⟨y, hy, e2⟩)
    have ih := risk_putAll rows (pre ++ [r]) (by rw [List.append_assoc]; exact hd)
    rw [List.append_assoc] at ih
    show putAllD (putD (riskD pre) (.inr r.1) (.int r.2)) (riskD rows) = _
    rw [e, ih]; rfl
theorem zip_split {α β : Type} : ∀ l : List (α × β), (l.map (·.1)).zip (l.map (·.2)) = l
  | [] => rfl
  | p :: r => by simp [zip_split r]
def risksD (rows : List Row_) : D := .dct ((riskD rows).map (·.1)) ((riskD rows).map (·.2))
theorem textsD_risk {M : Mst} {rows : List Row_} : TextsD M (rows.map (·.1)) (risksD rows) := fun z Q => by
  unfold dIn risksD
  simp only [dgetD, keyD, Option.map_some, zip_split, risk_val, Bool.false_xor]
def qNeed (c_NoGround : Addr) : DTS :=
  (qIfS (qTB (qOp (dIs true) (qVar 1) (qC .non)))
  (qRaise c_NoGround [(PySem.Str.ofString "part"), (PySem.Str.ofString "at")] (qCons (qVar 0) (qCons (qVar 1) qNil)))
  qNext)
def spNeed0 : DSp := fun ds M Q _ => ∃ x : D, ds = [x, .non] ∧ Q .non M
theorem need0_ok (c : Addr) (ds : List D) (M : Mst) (Q : DK) (Ed : DX → Mst → Prop) (h : upSp spNeed0 ds M Q Ed) : qNeed c (fun x _ M => Ed x M) (retE Q) (startD ["part", "at"] ds) M := by
  obtain ⟨Q0, E0, ⟨x, rfl, k0⟩, kq, _⟩ := h
  have k : Q .non M := kq _ _ _ (Sub.refl _) k0
  show qNeed _ _ _ [some x, some .non] M
  simp only [qNeed, qSeq, qAsg, qTup, qCons, qNil, qOp, qUn, qC, qCall, qVar, qLst, newL_f, qIfS, qTB, qNext, qRet, qDrop, qFor, qCB, qAug, qSl, qPart, qNoPart, gNameD, gSub_eq, dInt_i, dInt0_i, dAdd_i, dCmpI_i, List.set_cons_zero, List.set_cons_succ, List.getElem?_cons_zero, List.getElem?_cons_succ, List.append_nil, z_isnot, isNon, Bool.not_true, Bool.false_eq_true, if_false]
  exact k
abbrev FG : List Str := [(PySem.Str.ofString "risks"), (PySem.Str.ofString "places"), (PySem.Str.ofString "roads"), (PySem.Str.ofString "stations")]
structure GrOk (rows : List Row_) (ss : List Str) : Prop where
  ok : ∀ r ∈ rows, RowOk r
  nd : (rows.map (·.1)).Nodup
  l0 : 1 ≤ rows.length
  l1 : rows.length ≤ 40
  si : ∀ z ∈ ss, z ∈ rows.map (·.1)
  sd : ss.Nodup
  sl : ss.length ≤ 12
theorem nameS_tx {z : Str} (h : nameS z = true) : Tx_ 8 z := by
  unfold nameS lettB at h
  simp only [Bool.and_eq_true, decide_eq_true_eq, List.all_eq_true] at h
  exact ⟨fun c hc => by have := h.2 c hc; omega, h.1.2⟩
theorem GrOk.places {rows : List Row_} {ss : List Str} (h : GrOk rows ss) : Th 40 (.xtp (rows.map plD)) := .xt (by rw [List.length_map]; exact h.l1) fun d hd => by
  obtain ⟨r, hr, rfl⟩ := List.mem_map.mp hd
  refine .tup (by simp) fun e he => ?_
  simp only [List.mem_cons, List.not_mem_nil, or_false] at he
  rcases he with rfl | rfl
  · exact .str ((nameS_tx (h.ok r hr).1).mono (by decide))
  · exact .int _
theorem GrOk.stations {rows : List Row_} {ss : List Str} (h : GrOk rows ss) : Th 40 (.xtp (ss.map .str)) := .xt (by rw [List.length_map]; exact Nat.le_trans h.sl (by decide)) fun d hd => by
  obtain ⟨z, hz, rfl⟩ := List.mem_map.mp hd
  obtain ⟨r, hr, rfl⟩ := List.mem_map.mp (h.si z hz)
  exact .str ((nameS_tx (h.ok r hr).1).mono (by decide))
def qGround (c_Ground : Addr) (sp_need : DSp) (sp_places_fault : DSp) (sp_roads_fault : DSp) (sp_stations_fault : DSp) : DTS :=
  (qSeq (qDrop (qCall sp_need [] (qCons (qC (.str (PySem.Str.ofString "places"))) (qCons (qCall sp_places_fault [] (qCons (qVar 1) qNil)) qNil))))
  (qSeq (qSetF c_Ground FG 0 (PySem.Str.ofString "risks") (qVar 0) (qFrzE (qCB dDict (qCons (qVar 1) qNil))))
  (qSeq (qDrop (qCall sp_need [] (qCons (qC (.str (PySem.Str.ofString "roads"))) (qCons (qCall sp_roads_fault [] (qCons (qFld c_Ground FG 0 (qVar 0)) (qCons (qVar 2) qNil))) qNil))))
  (qSeq (qDrop (qCall sp_need [] (qCons (qC (.str (PySem.Str.ofString "stations"))) (qCons (qCall sp_stations_fault [] (qCons (qFld c_Ground FG 0 (qVar 0)) (qCons (qVar 3) qNil))) qNil))))
  (qSeq (qSetF c_Ground FG 1 (PySem.Str.ofString "places") (qVar 0) (qVar 1))
  (qSeq (qSetF c_Ground FG 2 (PySem.Str.ofString "roads") (qVar 0) (qVar 2))
  (qSetF c_Ground FG 3 (PySem.Str.ofString "stations") (qVar 0) (qVar 3))))))))
end DL
namespace DL
open PySem L2 Tx20 Tx21
end DL
namespace DL
open PySem PySem.Spec PyProof.Rows L2
/-- what a def promises where p's object, a caught exception, stands by -/
structure FnW (P : Program) (w : World) (K : PySem.W.Frag) (mg : Str → Option Value) (base : Heap) (CX : CXT) (k : Nat) (f : Addr) (fd : FuncData) (ps : List Str) (sp : Sp) (p : Addr × Obj) : Prop where
  len : ∀ vs H Q E, sp vs H Q E → vs.length = ps.length
  run : ∀ (A : Around) (outer : List Env) (s : Shared) (H : Hp) (args : Args) (us : List Value) (vs : List V) (Q : VK) (E : XK), L2H.RoomH k A → L2H.PinOk outer H s p → Env0 P w K mg base A outer s H → BindsTo s fd args (ps.zip us) → Vals vs us → sp vs H Q E →
    codeAny (model P w) A (.call (.ref f) args) (CR CX outer P w H s Q E) s
section
variable {P : Program} {w : World} {K : PySem.W.Frag} {mg : Str → Option Value} {base : Heap}
theorem FnW.mono {CX : CXT} {j k : Nat} {f : Addr} {fd : FuncData} {ps : List Str} {sp : Sp} {p : Addr × Obj} (F : FnW P w K mg base CX j f fd ps sp p) (h : j ≤ k) : FnW P w K mg base CX k f fd ps sp p :=
  ⟨F.len, fun A outer s H args us vs Q E hr => F.run A outer s H args us vs Q E (hr.mono h)⟩
theorem FnW.imp {CX : CXT} {k : Nat} {f : Addr} {fd : FuncData} {ps : List Str} {sp sp' : Sp} {p : Addr × Obj} (F : FnW P w K mg base CX k f fd ps sp p) (h : ∀ vs H Q E, sp' vs H Q E → sp vs H Q E) : FnW P w K mg base CX k f fd ps sp' p :=
  ⟨fun vs H Q E q => F.len vs H Q E (h _ _ _ _ q), fun A outer s H args us vs Q E hr hp he hb hv hs => F.run A outer s H args us vs Q E hr hp he hb hv (h _ _ _ _ hs)⟩
end
end DL
set_option maxHeartbeats 2000000
namespace DL
open PySem PySem.Spec PyProof.Rows L2
end DL
namespace DL
open PySem L2
end DL
set_option maxHeartbeats 1000000
namespace DL
open PySem PySem.Spec PyProof.Rows L2
/-- a promise of a call without arguments -/
abbrev DPf := Mst → DK → (DX → Mst → Prop) → Prop
theorem codeO_tbl {c : Addr} {q : Str} (ps : Array Value) : LamX.CodeO c q ≠ .tbl ps := LamX.codeO_ne ps
/-- the lambda is made: what is known of its code stays -/
theorem lam_made {X : Cx} {pins : List (Addr × Obj)} {σ : L2.St} {G H : Hp} {s : Shared} {p : Rho} {M : Mst} {c P : Addr} {params : Arguments} {body : Expr} {scope : Scope} {pos : Pos} {E : Value → Shared → Prop} {Q : Value → Shared → Prop}
    (I : Inv X pins σ H s) (S : Sim X.K G H p M σ) (mP : M P = some (.tab (X.env.qual ++ "<lambda>"))) (TB : LamX.TabB X.base X.mg c P) (hcode : X.env.code = .ref c) (hdef : defaultsOf params X.env = ([], [])) (hfree : ∀ y ∈ scope.names, y.2 = .free → ∃ c, X.env.cells.lookup y.1 = some c)
    (h : ∀ (f c' : Addr) (pm ctv : Value) (G1 H1 : Hp) (s' : Shared), Inv X pins σ H1 s' → Same G G1 → Sim X.K G1 H1 p M σ →
      s'.heap.get? f = some (PySem.W.kla_obj "<lambda>" (X.env.qual ++ "<lambda>") params body scope (cloFrom X.env.cells scope.names []) pm c' ctv) → H1 f = none → f ∉ frs X.stack → G1 c' = some (LamX.CodeO c' (X.env.qual ++ "<lambda>")) → Q (.ref f) s') :
    wpAny (model X.prog X.w) X.A (eval (.Lambda params body scope pos) X.env) Q E s := by
  obtain ⟨gP, noT, ps, hP, ht, ha⟩ := S.mem _ _ mP
  have bP : s.heap.BuiltinsAt X.mg P := TB.bm.keeps I.bk
  have tP : s.heap.get? P = some { cls := .none, data := .fields ps } := I.hok P _ hP
  have nofr : ∀ b, s.heap.objs.size ≤ b → b ∉ frs X.stack := fun b hb z => (List.mem_cons.mp (I.stkSub _ z)).elim
    (fun e => by have l := I.lt; rw [← e] at l; exact absurd (Nat.lt_of_lt_of_le l hb) (Nat.lt_irrefl _)) fun e => I.nofs hb e
  refine PySem.W.kla_eval hdef ?_
  cases hc : codeAmong pos ps.toList with
  | some cv =>
    obtain ⟨c', e, hco⟩ := ha pos cv hc
    subst e
    exact PySem.W.kla_makeFunctionHit (mg := X.mg) (c := c) (P := P) (ps := ps) (closure_ok hfree) I.ok.glob (I.mod.glob.keeps I.bk) hcode (TB.code.keeps I.bk) tP ht hc bP fun ctv h' tk hx hsz =>
      h h'.objs.size c' ((X.mg "__name__").getD .none) ctv G H _ (I.kept fun b o e => Heap.get?_push_of_some _ (hx b o e)) (Same.refl G) S (Heap.get?_push_size _ rfl) (I.hok.fresh hsz) (nofr _ hsz) hco
  | none =>
    refine PySem.W.kla_makeFunction (mg := X.mg) (c := c) (P := P) (ps := ps) (closure_ok hfree) I.ok.glob (I.mod.glob.keeps I.bk) hcode (TB.code.keeps I.bk) tP ht hc TB.gP bP fun c' ctv h' tk hx hge hlt hrec htb => ?_
    obtain ⟨c2, oc, vs, t, e2, hoc, hd, hv⟩ := hrec
    cases e2
    have hsz : s.heap.objs.size ≤ h'.objs.size := Nat.le_of_lt (Nat.lt_of_le_of_lt hge hlt)
    have nC : H c' = none := I.hok.fresh hge
    have gC : G c' = none := S.same.free nC
    have nPc : P ≠ c' := ne_of_none hP nC
    have I1 := LamX.inv_table (t' := tk) (more := #[rawInt pos.line, rawInt pos.col, .ref c']) (h' := h'.push (PySem.W.kla_obj "<lambda>" (X.env.qual ++ "<lambda>") params body scope (cloFrom X.env.cells scope.names []) ((X.mg "__name__").getD .none) c' ctv)) I hP
      (fun b o hb e => Heap.get?_push_of_some _ (hx b o hb e)) (Heap.get?_push_of_some _ htb) hge ⟨oc, vs, t, Heap.get?_push_of_some _ hoc, hd, hv⟩
    have eG : Same G (upd G c' (LamX.CodeO c' (X.env.qual ++ "<lambda>"))) := same_new gC
    have nP : ∀ b u, G b = some u → b ≠ P := fun b u e z => by rw [z, gP] at e; cases e
    have eL : (ps ++ #[rawInt pos.line, rawInt pos.col, .ref c']).toList = ps.toList ++ [rawInt pos.line, rawInt pos.col, .ref c'] := by simp
    have S1 : Sim X.K (upd G c' (LamX.CodeO c' (X.env.qual ++ "<lambda>"))) (upd (upd H P (.tbl (ps ++ #[rawInt pos.line, rawInt pos.col, .ref c']))) c' (LamX.CodeO c' (X.env.qual ++ "<lambda>"))) p M σ := by
      refine ⟨fun b u e => ?_, fun i d hi => ?_, S.len, fun b u hb => ⟨?_, ?_⟩⟩
      · by_cases z : b = c'
        · subst z; rw [upd_same] at e ⊢; exact e
        · rw [upd_ne z] at e ⊢; rw [upd_ne (nP b u e)]; exact S.same b u e
      · obtain ⟨v, h1, h2⟩ := S.env i d hi
        exact ⟨v, h1, Rep.mono eG d v h2⟩
      · have : b ≠ c' := fun z => by obtain ⟨o, ho⟩ := (S.mem b u hb).2.there; rw [z, nC] at ho; cases ho
        rw [upd_ne this]; exact (S.mem b u hb).1
      · by_cases z : b = P
        · subst z
          rw [mP] at hb; cases hb
          refine ⟨NoTab.upd codeO_tbl noT, ps ++ #[rawInt pos.line, rawInt pos.col, .ref c'], by rw [upd_ne nPc, upd_same], by rw [eL]; exact PySem.TriplesOk_snoc _ _ _ _ ht, fun p' cv hcv => ?_⟩
          rw [eL] at hcv
          rcases LamX.among_app _ ht hcv with w | w
          · obtain ⟨c0, e1, e2⟩ := ha p' cv w
            exact ⟨c0, e1, eG _ _ e2⟩
          · exact ⟨c', w, upd_same⟩
        · have : b ≠ c' := fun z => by obtain ⟨o, ho⟩ := (S.mem b u hb).2.there; rw [z, nC] at ho; cases ho
          exact (S.mem b u hb).2.mono eG (by rw [upd_ne this, upd_ne z]) (.upd codeO_tbl)
    refine h h'.objs.size c' ((X.mg "__name__").getD .none) ctv _ _ _ I1 eG S1 (Heap.get?_push_size _ rfl) ?_ (nofr _ hsz) upd_same
    rw [upd_ne (Nat.ne_of_gt hlt), upd_ne (Nat.ne_of_gt (Nat.lt_of_lt_of_le (Heap.lt_size tP) hsz))]
    exact I.hok.fresh hsz
section
variable {X : Cx} {pins : List (Addr × Obj)} {σ : L2.St} {H : Hp} {s : Shared}
abbrev cxG (X : Cx) (s : Shared) (H : Hp) (N : List Str) (q : Str) (sg : Scope) (g : Addr) (cd : Value) : Cx := cxOf C8.CX0 X.prog X.w X.K X.mg X.base N q sg g cd X.A X.stack s H C8.E0
end
/-- what the lambda's run makes of its promise -/
def LamOk (K : PySem.W.Frag) (vs : List V) (ds : List D) (tl : XK → Hp → VK → Prop) (pf : DPf) : Prop := ∀ (G1 H1 : Hp) (M1 : Mst) (Qd : DK) (Ed : DX → Mst → Prop) (Qv : VK) (Ev : XK), RepL K G1 ds vs → Same G1 H1 → MemOk K G1 H1 M1 → pf M1 Qd Ed →
  (∀ G' H' v d M', Same G1 G' → Same G' H' → Rep K G' d v → MemOk K G' H' M' → Qd d M' → Qv v H') →
  (∀ G' H' x cls dx M', Same G1 G' → Same G' H' → RepX K G' x cls dx → MemOk K G' H' M' → Ed x M' → Ev cls dx H') → tl Ev H1 Qv
def tAct (c' f : Addr) (q : Str) (tl : XK → Hp → VK → Prop) (W : WX) : TE := fun σZ HZ Q => σZ[0]? = some (some (.ref f)) ∧ HZ c' = some (LamX.CodeO c' q) ∧ tl (WE W σZ) HZ Q
/-- a def that is handed a lambda of the promise pf and keeps R pf -/
def GivesL (X : Cx) (N : List Str) (x : Str) (sg : Scope) (g : Addr) (cd : Value) (bg : List Stmt) (a q : Str) (R : DPf → Mst → DK → Prop) : Prop :=
  ∀ (f c' : Addr) (s : Shared) (G H : Hp) (M : Mst) (vs : List V) (ds : List D) (tl : XK → Hp → VK → Prop) (pf : DPf) (Q : DK) (Q' : VK),
    (∀ (W : WX) (pn : List (Addr × Obj)) (xe : Value → Shared → Prop) (p1 p2 : Pos), Takes ((cxG X s H N x sg g cd).tr pn xe) W → PE ((cxG X s H N x sg g cd).tr pn xe) (.Call (.Name a p1) [] [] p2) (tAct c' f q tl W)) →
    G c' = some (LamX.CodeO c' q) → Same G H → MemOk X.K G H M → RepL X.K G ds vs → LamOk X.K vs ds tl pf → R pf M Q →
    (∀ G' H' v d M', Same G G' → Same G' H' → Rep X.K G' d v → MemOk X.K G' H' M' → Q d M' → Q' v H') →
    ∃ t, PSs (cxG X s H N x sg g cd).nox bg t ∧ t { nx := fun _ H' => Q' .non H', rt := Q' } (L2.start N [.ref f]) H
/-- a def whose code object is known -/
structure FnL (K : PySem.W.Frag) (x : Str) (st : Stmt) (f : Addr) (fd : FuncData) (c : Addr) : Prop where
  ex : ∃ (oc : Value) (od : Option Addr) (kV doc pm : Value) (an : Option Addr) (ct : Value) (osl : Array (Option Value)),
    fd = PySem.W.fnOf x x (defArgs st) (defBody st) (defScope st) .none kV doc pm an (.ref c) ct ∧ K.lookup f = some ⟨oc, od, .func fd, osl⟩ ∧ PySem.W.codeIn K (.ref c) x = true
theorem QE.canX {X : Cx} {W : WX} {e : Expr} {q : DTE} (h : ∃ t, QE X W e t q) : PE X e (canE X.K W q) := by
  obtain ⟨t, h⟩ := h
  exact ⟨fun pins s σ H Q' I ⟨DW, G, p, M, Q, hw, S, hq, k⟩ => h.pe.run pins s σ H Q' I (h.rf DW G H p M σ Q Q' hw S hq k)⟩
end DL
namespace DL
open PySem PySem.Spec PyProof.Rows L2
section
variable {P : Program} {w : World} {K : PySem.W.Frag} {mg : Str → Option Value} {base : Heap}
/-- a def of the module that makes lambdas: its code object, that one's table -/
structure FnAtL (K : PySem.W.Frag) (mg : Str → Option Value) (x : Str) (st : Stmt) (ps : List Str) where
  f : Addr
  fd : FuncData
  c : Addr
  P : Addr
  g : mg x = some (.ref f)
  F : Fun K x x st f fd
  FL : FnL K x st f fd c
  b : L2.Binds K fd ps []
  lc : ∃ (e : Value) (dd : Option Addr) (vs : Array Value) (sl : Array (Option Value)), K.lookup c = some ⟨e, dd, .fields vs, sl⟩ ∧ vs[11]? = some (.ref P)
  nP : K.lookup P = none
end
def TM (tabs : List (Addr × Str)) : Mst := fun a => (tabs.lookup a).map .tab
def spLawT (tabs : List (Addr × Str)) : DSp := fun ds M Q _ => ∃ ns : List Int, ds = [.scr ns] ∧ ns.length ≤ 63 ∧ M = TM tabs ∧ ∀ M', Q (.bl true) M'
structure LRec where
  x : Str
  f : Addr
  fd : FuncData
  c : Addr
  P : Addr
  q : Str
structure LFact (K : PySem.W.Frag) (mg : Str → Option Value) (p : Program) (e : LRec) : Prop where
  g : mg e.x = some (.ref e.f)
  l : ∃ o, K.lookup e.f = some o ∧ o.data = .func e.fd
  k : e.fd.code = .ref e.c
  lc : ∃ (v : Value) (dd : Option Addr) (vs : Array Value) (sl : Array (Option Value)), K.lookup e.c = some ⟨v, dd, .fields vs, sl⟩ ∧ vs[11]? = some (.ref e.P)
  nP : K.lookup e.P = none
  r : ((recsOf p).any fun d => d.name == e.x) = true
theorem FnAtL.fact {K : PySem.W.Frag} {mg : Str → Option Value} {x : Str} {st : Stmt} {ps : List Str} (T : FnAtL K mg x st ps) {p : Program} (r : ((recsOf p).any fun d => d.name == x) = true) (q : Str) : LFact K mg p ⟨x, T.f, T.fd, T.c, T.P, q⟩ := by
  obtain ⟨oc, od, kV, doc, pm, an, ct, osl, e, lk, hcd⟩ := T.FL.ex
  exact ⟨T.g, ⟨_, lk, rfl⟩, by show T.fd.code = _; rw [e], T.lc, T.nP, r⟩
/-- what is known of a heap but its tables -/
def noT (H : Hp) : Hp := fun b => match H b with
  | some (.tbl _) => none
  | o => o
theorem noT_same (H : Hp) : Same (noT H) H := fun b u e => by
  unfold noT at e
  split at e
  · cases e
  · exact e
theorem noT_ne (H : Hp) : ∀ b ps, noT H b ≠ some (.tbl ps) := fun b ps e => by
  unfold noT at e
  split at e
  · cases e
  · next h => exact h ps e
theorem noT_of {H : Hp} {b : Addr} {u : HO} (h : H b = some u) (hu : ∀ ps, u ≠ .tbl ps) : noT H b = some u := by
  unfold noT
  split
  · next ps e => rw [h] at e; cases e; exact absurd rfl (hu ps)
  · exact h
theorem noT_l {K : PySem.W.Frag} {H : Hp} {a : Addr} {xs : List V} (h : SqL K H a xs) : SqL K (noT H) a xs := by
  rcases h with (h | ⟨o, h⟩) | h
  · exact .inl (.inl (noT_of h fun _ z => by cases z))
  · exact .inl (.inr ⟨o, noT_of h fun _ z => by cases z⟩)
  · exact .inr h
theorem tabs_mem {tabs : List (Addr × Str)} {a : Addr} {q : Str} (h : tabs.lookup a = some q) : (a, q) ∈ tabs := by
  induction tabs with
  | nil => cases h
  | cons t r ih =>
    obtain ⟨b, z⟩ := t
    rw [List.lookup_cons] at h
    split at h
    · next e => cases h; rw [eq_of_beq e]; exact List.mem_cons_self
    · exact List.mem_cons_of_mem _ (ih h)
end DL
namespace DL
open PySem L2
def LamDef (P : Program) (w : World) (K : PySem.W.Frag) (mg : Str → Option Value) (base : Heap) (k : Nat) (x : Str) (N : List Str) (sg : Scope) (g : Addr) (bg : List Stmt) (a : Str) (R : DPf → Mst → DK → Prop) : Prop :=
  ∀ (X : Cx), X.prog = P → X.w = w → X.K = K → X.mg = mg → X.base = base → Room k X.A → ∀ (cd : Value) (q : Str), GivesL X N x sg g cd bg a q R
theorem LamDef.mono {P : Program} {w : World} {K : PySem.W.Frag} {mg : Str → Option Value} {base : Heap} {j k : Nat} {x : Str} {N : List Str} {sg : Scope} {g : Addr} {bg : List Stmt} {a : Str} {R : DPf → Mst → DK → Prop} (h : LamDef P w K mg base j x N sg g bg a R) (hj : j ≤ k) : LamDef P w K mg base k x N sg g bg a R :=
  fun X e1 e2 e3 e4 e5 hr => h X e1 e2 e3 e4 e5 (hr.mono hj)
section
variable {X : Cx} {W : WX} {k : Nat} {f C : Addr} {fd : FuncData} {ps : List Str} {P : DSp} {dds : List D} {dvs : List V} {x m : Str} {fs : List Str} {p pos apos : Pos} {e o : Expr} {es : List Expr} {to : TE} {qo : DTE} {t : TA} {q : DTA}
theorem q_methD {pl : Sem Bool} (cl : Cls X.K C) (hm : Meth X.K C m f) (F : FnOk X.prog X.w X.K X.mg X.base (L2.CX X.prog X.w) k f fd ps (toSp X.K P)) (hr : Room k X.A) (tk : Takes X W) (hb : BindsD X.K fd ps dvs) (hdd : ∀ G, RepL X.K G dds dvs)
    (ho : QE X W o to qo) (ha : QA X W (e :: es) t q) (hmf : m ∉ fs)
    (hst : starEach (e :: es) X.env = (false, eval e X.env) :: starEach es X.env := by rfl) (hpl : (backTo pos (starEach es X.env)).any (·.1) = false := by rfl)
    (ht : eval (.Call (.Attribute o m apos) (e :: es) [] pos) X.env = (do
      let ov ← eval o X.env
      standAt apos.atName
      let (f, first) ← holding [ov] (getMethod ov m pl)
      callWith pos f first (backTo pos (starEach (e :: es) X.env)) (backToKw pos (keywordEach [] X.env))) := by rfl) :
    QE X W (.Call (.Attribute o m apos) (e :: es) [] pos) (tMethSD C m (toSp X.K P) dvs (fun s => WE W s) to t) (qMeth C fs P dds qo q) := by
  obtain ⟨ds, hd, hb⟩ := hb
  exact q_meth cl hm F hr tk hb hd hdd ho ha hmf hst hpl ht
end
end DL
set_option maxHeartbeats 2000000
namespace DL
open PySem PySem.Spec PyProof.Rows L2
theorem RepL.erase {K : PySem.W.Frag} {G : Hp} {ds : List D} {vs : List V} (n : Nat) (r : RepL K G ds vs) : RepL K G (ds.eraseIdx n) (vs.eraseIdx n) := by
  rw [List.eraseIdx_eq_take_drop_succ, List.eraseIdx_eq_take_drop_succ]
  exact RepL.append (RepL.take n r) (RepL.drop (n + 1) r)
def mPopAt : DMt := fun x ds M Q => match x, ds with
  | .ref a, [.int i] => match M a with
    | some (.lst es) => 0 ≤ i ∧ i < (es.length : Int) ∧ match es[i.toNat]? with
      | some d => Q d (put M a (.lst (es.eraseIdx i.toNat)))
      | none => False
    | _ => False
  | _, _ => False
theorem m_popAt {X : Cx} : QMt X "list.pop" rPopAt mPopAt := ⟨mt_popAt, fun G H p M s x v ds vs Q Q' S r1 r2 h k => by
  unfold mPopAt at h
  split at h
  · next a i =>
    cases r1
    obtain ⟨u, rfl, r3⟩ := repL1 r2
    cases r3
    split at h
    · next es em =>
      obtain ⟨gn, us, g1, g2, g3⟩ := S.mem _ _ em
      obtain ⟨i0, i1, h⟩ := h
      split at h
      · next d ed =>
        obtain ⟨w, h1, h2⟩ := g2.get ed
        have e1 := g2.length
        have z := sizeLine_eq
        have z2 := List.length_eraseIdx_le us i.toNat
        have hs : seqIndex? i us.length = some i.toNat := by
          unfold seqIndex?
          rw [if_neg (by omega : ¬ i < 0)]
          simp only [Bool.and_eq_true, decide_eq_true_eq]
          rw [if_pos ⟨i0, by omega⟩]
        refine ⟨a, us, i, i.toNat, w, rfl, rfl, g1, by omega, by omega, hs, h1, k G _ _ d _ (Same.refl _) (S.put (mo := .lst (es.eraseIdx i.toNat)) gn ⟨_, upd_same, RepL.erase _ g2, ?_⟩) h2 h⟩
        omega
      · exact h.elim
    · exact h.elim
  · exact h.elim⟩
end DL
set_option maxHeartbeats 2000000
namespace DL
open PySem PySem.Spec PyProof.Rows L2
def qJs : List DTE → Str → DTE
  | [], acc => fun _ _ M Q => Q (.str acc) M
  | q :: qs, acc => fun DW p M Q => q DW p M fun x M1 => match x with
    | .str y => (acc ++ y).length ≤ sizeLine ∧ qJs qs (acc ++ y) DW p M1 Q
    | _ => False
inductive QJ (X : Cx) (W : WX) : List Expr → List TE → List DTE → Prop where
  | nil : QJ X W [] [] []
  | cons {e : Expr} {t : TE} {q : DTE} {es : List Expr} {ts : List TE} {qs : List DTE} (h : QE X W e t q) (r : QJ X W es ts qs) : QJ X W (e :: es) (t :: ts) (q :: qs)
theorem QJ.rf {X : Cx} {W : WX} {es : List Expr} {ts : List TE} {qs : List DTE} (h : QJ X W es ts qs) : ∀ (acc : Str), acc.length ≤ sizeLine → PyData.strOk acc = true → RefE X.K W (fun σ H Q => tJs ts acc σ H fun out H1 => Q (.str out) H1) (qJs qs acc) := by
  induction h with
  | nil => exact fun acc h1 h2 DW G H p M s Q Q' hw S hq k => k G H M (.str acc) _ (Same.refl _) S ⟨rfl, h1, h2⟩ hq
  | cons h _ ih =>
    intro acc h1 h2 DW G H p M s Q Q' hw S hq k
    refine h.rf DW G H p M s _ _ hw S hq fun G1 H1 M1 d v e1 S1 r1 z => ?_
    cases d <;> first | exact z.elim | skip
    obtain ⟨rfl, z2⟩ := r1
    refine ⟨_, rfl, z.1, ?_⟩
    exact ih _ z.1 (strOk_append h2 z2.2) DW G1 H1 p M1 s Q Q' (WLink.mono e1 hw) S1 z.2 fun G2 H2 M2 d v e2 S2 r2 z2 => k G2 H2 M2 d v (e1.trans e2) S2 r2 z2
end DL
set_option maxHeartbeats 2000000
namespace DL
open PySem PySem.Spec PyProof.Rows L2
theorem room65 {k : Nat} {A : Around} (r : Room k A) : A.units + 65 < cLine := by have := r.un; omega
theorem shaped_of {d : D} (h1 : (pyd d).canLay0 = true) (h2 : dep d ≤ 64) : SeqAt.shaped (pyd d) = true := by
  unfold SeqAt.shaped
  rw [h1, Bool.true_and]; exact decide_eq_true h2
theorem pyd_any (ds : List D) (x : D) : ((pydL ds).any fun z => PyData.eqv z (pyd x)) = ds.any fun e => deq e x := by
  induction ds with
  | nil => rfl
  | cons d ds ih => show (PyData.eqv (pyd d) (pyd x) || (pydL ds).any _) = _; rw [ih]; rfl
def dInD (neg : Bool) : DOp := fun x y M Q => match res M y with
  | .lst ds => isData (res M x) = true ∧ isData (.lst ds) = true ∧ dep (res M x) ≤ 64 ∧ dep (.lst ds) ≤ 64 ∧ Q (.bl (xor neg (ds.any fun e => deq e (res M x)))) M
  | _ => False
theorem o_notInD {X : Cx} (hu : X.A.units + 65 < cLine) : QOp X (compareOp .NotIn) (rNotInD X.K) (dInD true) := ⟨op_notInD hu, fun G H p M s x y v u Q Q' S r1 r2 h k => by
  unfold dInD at h
  split at h
  · next ds e =>
    obtain ⟨i1, i2, d1, d2, q⟩ := h
    obtain ⟨a1, a2⟩ := data_of S r1 rfl i1
    obtain ⟨b1, b2⟩ := data_of S r2 e i2
    refine ⟨_, pydL ds, a1, b1, shaped_of a2 d1, shaped_of b2 d2, ?_⟩
    rw [pyd_any]
    rw [Bool.true_xor] at q
    exact k G H M (.bl _) _ (Same.refl _) S rfl q
  · exact h.elim⟩
end DL
set_option maxHeartbeats 2000000
namespace DL
open PySem PySem.Spec PyProof.Rows L2
def qPairs : List (DTE × DTE) → DWt → Rho → Mst → (List (D × D) → Mst → Prop) → Prop
  | [], _, _, M, Q => Q [] M
  | (qk, qv) :: r, DW, p, M, Q => qk DW p M fun k M1 => qv DW p M1 fun v M2 => qPairs r DW p M2 fun ps M3 => Q ((k, v) :: ps) M3
def pairsK : List (D × D) → Option (List (Key × D))
  | [] => some []
  | (k, x) :: r => match keyD k, pairsK r with
    | some k', some r' => some ((k', x) :: r')
    | _, _ => none
def qDisp (rs : List (DTE × DTE)) : DTE := fun DW p M Q => ∀ a, M a = none → qPairs rs DW p (put M a (.dK [])) fun ps M2 => M2 a = some (.dK []) ∧ match pairsK ps with
  | some kvs => kvs.length ≤ 15 ∧ Q (.ref a) (put M2 a (.dK (putAllD [] kvs)))
  | none => False
inductive QPs (X : Cx) (W : WX) (pos : Pos) : List (Option Expr) → List Expr → List (TE × TE) → List (DTE × DTE) → Prop where
  | nil : QPs X W pos [] [] [] []
  | cons {k v : Expr} {tk tv : TE} {qk qv : DTE} {ks : List (Option Expr)} {vs : List Expr} {ts : List (TE × TE)} {rs : List (DTE × DTE)} (hk : QE X W k tk qk) (hv : QE X W v tv qv) (r : QPs X W pos ks vs ts rs) : QPs X W pos (some k :: ks) (v :: vs) ((tk, tv) :: ts) ((qk, qv) :: rs)
theorem QPs.pp {X : Cx} {W : WX} {pos : Pos} {ks : List (Option Expr)} {vs : List Expr} {ts : List (TE × TE)} {rs : List (DTE × DTE)} (h : QPs X W pos ks vs ts rs) : PPs X pos ks vs ts := by
  induction h with
  | nil => exact pps_nil
  | cons hk hv _ ih => exact pps_cons hk.pe hv.pe ih
theorem QPs.rf {X : Cx} {W : WX} {pos : Pos} {ks : List (Option Expr)} {vs : List Expr} {ts : List (TE × TE)} {rs : List (DTE × DTE)} (h : QPs X W pos ks vs ts rs) : ∀ DW G H p M s (Q : List (D × D) → Mst → Prop) (Q' : List (V × V) → Hp → Prop), WLink X.K G DW W → Sim X.K G H p M s → qPairs rs DW p M Q →
    (∀ G' H' M' ds us, Same G G' → Sim X.K G' H' p M' s → RepL X.K G' (ds.map (·.1)) (us.map (·.1)) → RepL X.K G' (ds.map (·.2)) (us.map (·.2)) → Q ds M' → Q' us H') → tPairs ts s H Q' := by
  induction h with
  | nil => exact fun DW G H p M s Q Q' hw S hq k => k G H M [] [] (Same.refl _) S rfl rfl hq
  | cons hk hv _ ih =>
    intro DW G H p M s Q Q' hw S hq k
    refine hk.rf DW G H p M s _ _ hw S hq fun G1 H1 M1 d v e1 S1 r1 h1 => ?_
    refine hv.rf DW G1 H1 p M1 s _ _ (hw.mono e1) S1 h1 fun G2 H2 M2 d2 v2 e2 S2 r2 h2 => ?_
    refine ih DW G2 H2 p M2 s _ _ (hw.mono (e1.trans e2)) S2 h2 fun G3 H3 M3 ds us e3 S3 r3 r4 h3 => ?_
    exact k G3 H3 M3 ((d, d2) :: ds) ((v, v2) :: us) (e1.trans (e2.trans e3)) S3 (RepL.cons (Rep.mono (e2.trans e3) _ _ r1) r3) (RepL.cons (Rep.mono e3 _ _ r2) r4) h3
theorem pairsK_of {K : PySem.W.Frag} {G : Hp} : ∀ {ds : List (D × D)} {us : List (V × V)} {kvs : List (Key × D)}, RepL K G (ds.map (·.1)) (us.map (·.1)) → RepL K G (ds.map (·.2)) (us.map (·.2)) → pairsK ds = some kvs →
    ∃ mv : List (Key × V), us = mv.map (fun kv => (kV kv.1, kv.2)) ∧ mv.map (·.1) = kvs.map (·.1) ∧ RepL K G (kvs.map (·.2)) (mv.map (·.2)) ∧ ∀ q ∈ kvs, kOk q.1
  | [], us, kvs, r1, _, h => by
    cases h
    cases us with
    | nil => exact ⟨[], rfl, rfl, rfl, fun _ h => (by cases h)⟩
    | cons _ _ => cases r1
  | (d, x) :: ds, us, kvs, r1, r2, h => by
    cases us with
    | nil => obtain ⟨_, _, e, _⟩ := r1; cases e
    | cons u us =>
      obtain ⟨v1, w1, e1, a1, b1⟩ := r1
      obtain ⟨v2, w2, e2, a2, b2⟩ := r2
      cases e1
      cases e2
      simp only [pairsK] at h
      split at h
      · next k' r' hk hr =>
        cases h
        obtain ⟨mv, q1, q2, q3, q4⟩ := pairsK_of b1 b2 hr
        have eu := keyD_of a1 hk
        refine ⟨(k', u.2) :: mv, by rw [q1, List.map_cons]; congr 1; exact Prod.ext eu rfl, by simp [q2], RepL.cons a2 q3, fun q hq => ?_⟩
        rcases List.mem_cons.mp hq with rfl | hq
        · exact kOk_of a1 hk
        · exact q4 q hq
      · cases h
theorem q_disp {X : Cx} {W : WX} {pos : Pos} {ks : List (Option Expr)} {vs : List Expr} {ts : List (TE × TE)} {rs : List (DTE × DTE)} (h : QPs X W pos ks vs ts rs) (hall : ks.all (·.isSome) = true := by rfl) (hl : ks.length = vs.length := by rfl) (h0 : ks ≠ [] := by exact List.cons_ne_nil _ _) (h15 : ks.length ≤ 15 := by decide) :
    QE X W (.Dict ks vs pos) (tDisp ts) (qDisp rs) :=
  ⟨pe_disp h.pp hall hl h0 h15, fun DW G H p M s Q Q' hw S hq k a ha => by
    have S1 : Sim X.K G (upd H a (.dK [])) p (put M a (.dK [])) s := S.put (mo := .dK []) (S.same.free ha) ⟨[], upd_same, rfl, rfl, Nat.zero_le _, fun _ h => by cases h⟩
    refine h.rf DW G _ p _ s _ _ hw S1 (hq a (S.mem.fresh ha)) fun G2 H2 M2 ds us e S2 r1 r2 ⟨hm, hk⟩ => ?_
    split at hk
    · next kvs e2 =>
      obtain ⟨l15, hQ⟩ := hk
      obtain ⟨mv, q1, q2, q3, q4⟩ := pairsK_of r1 r2 e2
      obtain ⟨gn, kv0, m1, m2, _⟩ := S2.mem _ _ hm
      have e0 : kv0 = [] := by cases kv0 with | nil => rfl | cons _ _ => cases m2
      subst e0
      have hlen : mv.length = kvs.length := by have := congrArg List.length q2; simpa using this
      obtain ⟨z1, z2⟩ := putAll_rel (kvs := []) (kv := []) q2 q3 rfl rfl
      refine ⟨m1, mv, q1, by omega, ?_⟩
      have hmk : (mergeK [] mv).length ≤ sizeLine := Nat.le_trans (length_mergeK mv []) (by simp only [List.length_nil]; rw [sizeLine_eq]; omega)
      exact k G2 _ _ (.ref a) _ e (S2.put (mo := .dK (putAllD [] kvs)) gn ⟨mergeK [] mv, upd_same, z1, z2, hmk, putAll_keys (fun _ h => by cases h) q4⟩) rfl hQ
    · exact hk.elim⟩
end DL
namespace L2
open PySem PySem.Spec PyProof.Rows
end L2
namespace DL
open PySem PySem.Spec PyProof.Rows L2
end DL
namespace L2
open PySem PySem.Spec PyProof.Rows
end L2
namespace DL
open PySem PySem.Spec PyProof.Rows L2
def txL : List D → Option (List Str)
  | [] => some []
  | .str z :: ds => match txL ds with
    | some zs => some (z :: zs)
    | none => none
  | _ => none
theorem txL_eq : ∀ {ds : List D} {zs : List Str}, txL ds = some zs → ds = zs.map .str
  | [], zs, h => by cases h; rfl
  | d :: ds, zs, h => by
    unfold txL at h
    split at h
    · next e => cases e
    · next z es e =>
      cases e
      split at h
      · next ys e2 => cases h; rw [txL_eq e2]; rfl
      · cases h
    · cases h
@[simp] theorem txL_map (zs : List Str) : txL (zs.map .str) = some zs := by
  induction zs with
  | nil => rfl
  | cons z zs ih => show (match txL (zs.map .str) with | some ys => some (z :: ys) | none => none) = _; rw [ih]
def txKeys : List Key → Option (List Str)
  | [] => some []
  | .inr z :: ks => match txKeys ks with
    | some zs => some (z :: zs)
    | none => none
  | _ => none
theorem txKeys_eq : ∀ {ks : List Key} {zs : List Str}, txKeys ks = some zs → ks = zs.map Sum.inr
  | [], zs, h => by cases h; rfl
  | d :: ds, zs, h => by
    unfold txKeys at h
    split at h
    · next e => cases e
    · next z es e =>
      cases e
      split at h
      · next ys e2 => cases h; rw [txKeys_eq e2]; rfl
      · cases h
    · cases h
@[simp] theorem txKeys_map (zs : List Str) : txKeys (zs.map Sum.inr) = some zs := by
  induction zs with
  | nil => rfl
  | cons z zs ih => show (match txKeys (zs.map Sum.inr) with | some ys => some (z :: ys) | none => none) = _; rw [ih]
theorem repL_txs {K : PySem.W.Frag} {G : Hp} : ∀ {ys : List Str}, (∀ y ∈ ys, kOk (.inr y)) → RepL K G (ys.map D.str) (ys.map V.str)
  | [], _ => rfl
  | y :: ys, h => ⟨_, _, rfl, ⟨rfl, (h y (List.mem_cons_self ..)).1, (h y (List.mem_cons_self ..)).2⟩, repL_txs fun x hx => h x (List.mem_cons_of_mem _ hx)⟩
theorem repL_txs' {K : PySem.W.Frag} {G : Hp} : ∀ {zs : List Str} {vs : List V}, RepL K G (zs.map D.str) vs → vs = zs.map V.str ∧ ∀ y ∈ zs, kOk (.inr y)
  | [], _, h => by cases h; exact ⟨rfl, fun y hy => nomatch hy⟩
  | n :: ns, _, ⟨v, q, h1, h2, h3⟩ => by
    obtain ⟨g1, g2, g3⟩ := h2
    obtain ⟨rfl, g4⟩ := repL_txs' h3
    refine ⟨by rw [h1, g1]; rfl, fun y hy => ?_⟩
    rcases List.mem_cons.mp hy with rfl | hy
    · exact ⟨g2, g3⟩
    · exact g4 y hy
end DL
set_option maxHeartbeats 4000000
namespace PySem
namespace HandSPX
open Builtin
section
variable {M : Model} {A : Around} {E : Value → Shared → Prop} {h : Heap} {g : Array GenState} {d : Drawn} {t : Nat} {os : OsState}
variable {nm q : Str} {C N : Addr} {bs bm bmB : List Value} {hdct : Bool} {sn : List Str} {sub : List Value} {ab : Bool} {col : Option Bool} {dd : Option Addr} {k0 k1 k2 k3 k5 : Option Value} {B D newId initId iD : String}
theorem chk_newK (F : ExcBaseFacts B newId initId bmB) (hB : bm.contains (.type B) = true) {rest : List Value} {Q : Unit → Shared → Prop} (cO : h.get? C = some (excClassObj nm q C N bs bm hdct sn sub ab col dd k0 k1 k2 k3 k5 newId)) (fin : Q () ⟨h, g, d, t, os⟩) :
    wpAny M A (checkBuiltinCall newId ⟨.ref C :: rest, []⟩) Q E ⟨h, g, d, t, os⟩ := by
  have c1 : (Value.ref C :: bm).contains (.type B) = true := by rw [List.contains_cons, hB, Bool.or_true]
  have c2 := F.noStar
  simp only [F.newRow, checkBuiltinCall, F.newSplit, F.newKind]
  repeat (first | refine wpAny_loadPart_at cO ?_ | (refine wpAny_isSubtype_exc cO ?_; rw [c1]) | refine wpAny_staticBase_exc cO ?_ | refine wpAny_madeBy_exc cO ?_ | simp only [bne_self_eq_false, Bool.false_eq_true, if_false] | wp_step)
  exact fin
/-- what is asked of the __init__ of the built-in class D -/
structure InitX (D iD : String) : Prop where
  slot : Slot D "__init__" iD
  entry : entryFor table iD = some Builtin.«BaseException.__init__»
  split : splitId iD = some (D, "__init__")
  kind : builtinKind iD = some .slot
  row : Manifest.signature? iD = some ⟨.positional, "*", D, .self, [⟨"args", .varPos, false⟩]⟩
  star : (D != "*") = true
theorem chk_initK (F : InitX D iD) (hD : bm.contains (.type D) = true) {e : Addr} {oe : Obj} {rest : List Value} {Q : Unit → Shared → Prop}
    (cO : h.get? C = some (excClassObj nm q C N bs bm hdct sn sub ab col dd k0 k1 k2 k3 k5 newId)) (eO : h.get? e = some oe) (ec : oe.cls = .ref C) (fin : Q () ⟨h, g, d, t, os⟩) : wpAny M A (checkBuiltinCall iD ⟨.ref e :: rest, []⟩) Q E ⟨h, g, d, t, os⟩ := by
  have c1 : (Value.ref C :: bm).contains (.type D) = true := by rw [List.contains_cons, hD, Bool.or_true]
  have c2 := F.star
  simp only [F.row, checkBuiltinCall, F.split, F.kind]
  repeat (first | (with_reducible refine wpAny_loadPart_at eO ?_; rw [ec]) | with_reducible refine wpAny_loadPart_at cO ?_ | (with_reducible refine wpAny_isSubtype_exc cO ?_; rw [c1]) | wp_step)
  refine wpAny_onRaise ?_
  have ck : ∀ (a b : String) (n : Nat), Bind.check ⟨.positional, "*", D, .self, [⟨"args", .varPos, false⟩]⟩ a b n (List.map (fun x => x.fst) ({ pos := Value.ref e :: rest } : Args).kw) = pure () := fun _ _ _ => check_star_args _ _ _ _ _ _
  rw [ck]
  exact wpAny_pure fin
end
section
variable {prog : Program} {w : World} {A : Around} {E : Value → Shared → Prop} {R : Result → Shared → Prop} {h : Heap} {g : Array GenState} {d : Drawn} {t : Nat} {os : OsState}
variable {nm q : Str} {C N : Addr} {bs bm bmB : List Value} {hdct : Bool} {sn : List Str} {sub : List Value} {ab : Bool} {col : Option Bool} {dd : Option Addr} {k0 k1 k2 k3 k5 : Option Value} {B D newId initId iD : String}
theorem newK (F : ExcBaseFacts B newId initId bmB) (hB : bm.contains (.type B) = true) (hA : bm.contains (.type "AttributeError") = false) (hN : bm.contains (.type "NameError") = false) {rest : List Value}
    (cO : h.get? C = some (excClassObj nm q C N bs bm hdct sn sub ab col dd k0 k1 k2 k3 k5 newId)) (sz : rest.length ≤ sizeLine)
    (fin : R (.ok (.ret (.ref (h.objs.size + 1)))) ⟨(h.push { cls := .type "tuple", data := .seq rest.toArray }).push { cls := .ref C, data := .fields #[.ref h.objs.size, .none, .none, .none, .bool false, .none] }, g, d, t, os⟩) :
    codeAny (model prog w) A (.builtin newId ⟨.ref C :: rest, []⟩) R ⟨h, g, d, t, os⟩ := by
  have c0 := F.ends
  have c1 : (Value.ref C :: bm).contains (.type B) = true := by rw [List.contains_cons, hB, Bool.or_true]
  have c2 : (Value.ref C :: bm).contains (.type "AttributeError") = false := by rw [List.contains_cons, hA]; rfl
  have c3 : (Value.ref C :: bm).contains (.type "NameError") = false := by rw [List.contains_cons, hN]; rfl
  refine codeAny_builtinAt F.entry ?_
  unfold Builtin.«BaseException.__new__»
  refine wpAt_bind ?_
  show wpAt _ _ _ (stack >>= _) _ _ _
  refine wpAt_bind (wpAt_stack fun pp bl => wpAt_of_wpAny ?_)
  wp_walk
  refine wpAt_of_wpAny ?_
  rw [F.owner]
  repeat (first | with_reducible refine wpAny_madeHere_exc F.canon cO ?_ | with_reducible refine wpAny_loadPart_at cO ?_ | (with_reducible refine wpAny_isSubtype_exc cO ?_; first | rw [c1] | rw [c2] | rw [c3]) | wp_step)
  show R _ _
  rw [Heap.size_push]
  exact fin
theorem type_callK (F : ExcBaseFacts B newId initId bmB) (hB : bm.contains (.type B) = true) (hA : bm.contains (.type "AttributeError") = false) (hN : bm.contains (.type "NameError") = false) {rest : List Value} {fI : Addr} {Q : Fin → Shared → Prop}
    (cO : h.get? C = some (excClassObj nm q C N bs bm hdct sn sub ab col dd k0 k1 k2 k3 k5 newId))
    (li : W.Looks (model prog w) h (typeLookup (.ref C) "__init__") (some (.ref fI))) (lb : ∀ self, W.Looks (model prog w) h (bindSpecial (.ref fI) self) (.ref fI, [self])) (sz : rest.length ≤ sizeLine)
    (fin : codeAny (model prog w) A (.call (.ref fI) ⟨.ref (h.objs.size + 1) :: rest, []⟩)
      (fun r s' => match r with | .ok (.ret v) => v = .none ∧ Q (.done (.ret (.ref (h.objs.size + 1)))) s' | .ok _ => False | .error e => E e s') ⟨(h.push (W.kdv_tup rest)).push (excO C h.objs.size), g, d, t, os⟩) :
    wpAny (model prog w) A (Builtin.«type.__call__» ⟨.ref C :: rest, []⟩) Q E ⟨h, g, d, t, os⟩ := by
  repeat (first | with_reducible refine wpAny_loadPart_at cO ?_ | with_reducible refine wpAny_madeBy_exc cO ?_ | wp_step)
  refine codeAny_call_builtin_code (Code.quiet_builtin _ F.quiet) (chk_newK F hB cO (newK F hB hA hN cO sz ?_))
  show wpAny _ _ _ _ _ _
  generalize eh : (h.push (W.kdv_tup rest)).push (excO C h.objs.size) = h2 at fin
  have kp : ∀ b o, h.get? b = some o → h2.get? b = some o := fun b o e => by rw [← eh]; exact Heap.get?_push_of_some _ (Heap.get?_push_of_some _ e)
  have at2 : h2.get? (h.objs.size + 1) = some (excO C h.objs.size) := by rw [← eh]; heap_get
  have cO2 := kp _ _ cO
  have c4 : (Value.ref C :: bm).contains (.ref C) = true := by simp
  have li2 := li.keeps kp
  have lb2 := (lb (.ref (h.objs.size + 1))).keeps kp
  unfold isInstance
  repeat (first | with_reducible refine wpAny_loadPart_at at2 ?_ | (with_reducible refine wpAny_isSubtype_exc cO2 ?_; rw [c4]) | wp_step)
  show wpAny _ _ (typeLookup (.ref C) _) _ _ _
  refine li2.at (wpAny_holding (wpAny_bind (lb2.at (wpAny_bind (wpAny_call (codeAny_mono fin fun r s' z => ?_))))))
  rcases r with e | (v | _ | _ | _)
  · exact z
  · exact z.elim
  · exact z.elim
  · exact z.elim
  · obtain ⟨rfl, z⟩ := z
    first
      | exact wpAny_pure (wpAny_pure z)
      | (wp_walk; exact z)
theorem callK (F : ExcBaseFacts B newId initId bmB) (hB : bm.contains (.type B) = true) (hA : bm.contains (.type "AttributeError") = false) (hN : bm.contains (.type "NameError") = false) {rest : List Value} {fI : Addr}
    (cO : h.get? C = some (excClassObj nm q C N bs bm hdct sn sub ab col dd k0 k1 k2 k3 k5 newId))
    (li : W.Looks (model prog w) h (typeLookup (.ref C) "__init__") (some (.ref fI))) (lb : ∀ self, W.Looks (model prog w) h (bindSpecial (.ref fI) self) (.ref fI, [self])) (sz : rest.length ≤ sizeLine)
    (fin : codeAny (model prog w) (A.under (.builtin "type.__call__" ⟨.ref C :: rest, []⟩)) (.call (.ref fI) ⟨.ref (h.objs.size + 1) :: rest, []⟩) (W.InitBack (h.objs.size + 1) R) ⟨(h.push (W.kdv_tup rest)).push (excO C h.objs.size), g, d, t, os⟩) :
    codeAny (model prog w) A (.call (.ref C) ⟨rest, []⟩) R ⟨h, g, d, t, os⟩ := by
  have u1 := tc_lookup
  have u2 := tc_bind (.ref C)
  have u3 : (⟨h, g, d, t, os⟩ : Shared).TypeIs (.ref C) "type" := ⟨_, cO, rfl⟩
  refine codeAny_of_tree (show wpAny _ _ (callAny (.ref C) _) _ _ _ from ?_)
  repeat (any_goals (first | assumption | with_reducible refine wpAny_loadPart_at cO ?_ | wp_step))
  refine ⟨rfl, codeAny_call_builtin_at (Code.quiet_builtin _ (by decide +kernel)) entry_typeCall (wpAny_check_type_call_sub cO (type_callK F hB hA hN cO li lb sz (codeAny_mono fin fun r s' z => ?_)))⟩
  rcases r with e | (v | _ | _ | _)
  · exact z
  · exact z
  · exact z
  · exact z
  · exact z
theorem initK (F : InitX D iD) (hD : bm.contains (.type D) = true) {e t0 : Addr} {rest : List Value}
    (cO : h.get? C = some (excClassObj nm q C N bs bm hdct sn sub ab col dd k0 k1 k2 k3 k5 newId)) (eO : h.get? e = some (excO C t0))
    (fin : ∀ h' t1, (∀ b o, b ≠ e → h.get? b = some o → h'.get? b = some o) → h'.get? e = some (excO C t1) → R (.ok (.ret .none)) ⟨h', g, d, t, os⟩) (sz : rest.length ≤ sizeLine) :
    codeAny (model prog w) A (.call (.builtin iD) ⟨.ref e :: rest, []⟩) R ⟨h, g, d, t, os⟩ := by
  refine codeAny_call_builtin F.slot.plain F.entry (chk_initK F hD cO eO rfl ?_)
  wp_walk
  refine fin _ h.objs.size (fun b o ne bo => ?_) ?_
  · exact (Heap.get?_update_other _ _ (Ne.symm ne)).trans (Heap.get?_push_of_some _ bo)
  · rw [Heap.get?_update_self _ (Heap.get?_push_of_some _ eO) rfl]; rfl
end
end HandSPX
end PySem
namespace DL
open PySem PySem.Spec PyProof.Rows L2
abbrev tl_KeyError : List Value := [.type "KeyError", .type "LookupError", .type "Exception", .type "BaseException", .type "object"]
theorem initX_KeyError : HandSPX.InitX "KeyError" "KeyError.__init__" :=
  { slot := Slot.of (owner := "KeyError") (n := "__init__") (by rw [typeLookup_type, builtinLookup_eq_fast]; kernel_rfl) (by decide +kernel) (by decide +kernel) (by decide +kernel) (by first | exact .inl (by decide +kernel) | exact .inr (by decide +kernel)) (by rw [isSubtype_type]; kernel_rfl)
    entry := entryFor_alias (id' := "BaseException.__init__") (by rw [PySem.fastTable_eq_tree]; kernel_rfl) (by first | rfl | decide +kernel) (by decide +kernel) (by rw [PySem.fastTable_eq_tree]; kernel_rfl), split := by kernel_rfl
    kind := by kernel_rfl, row := by kernel_rfl, star := by decide +kernel }
theorem storeX_KeyError : StoreFacts "KeyError" tl_KeyError "object.__setattr__" "object" :=
  { mro := by kernel_rfl, entry := F.entry_object_sa, kind := by decide +kernel, split := by decide +kernel, hasOwner := by decide +kernel
    slot := Slot.of (owner := "object") (n := "__setattr__") (by rw [typeLookup_type, builtinLookup_eq_fast]; kernel_rfl) (by decide +kernel) (by decide +kernel) (by decide +kernel) (by first | exact .inl (by decide +kernel) | exact .inr (by decide +kernel)) (by rw [isSubtype_type]; kernel_rfl)
    args := fun _ _ _ => by unfold argsOk; kernel_rfl, passes := fun _ => by kernel_rfl }
theorem baseX_KeyError : BaseX "KeyError" "LookupError.__new__" "KeyError.__init__" tl_KeyError :=
  { ini := fun hT hC he hz hq => HandSPX.initK initX_KeyError ((hT _).trans (by decide +kernel)) hC he hq hz
    cal := fun hT hC li lb hz hq => HandSPX.callK F.excBase_LookupError ((hT _).trans (by decide +kernel)) ((hT _).trans (by decide +kernel)) ((hT _).trans (by decide +kernel)) hC li lb hz hq
    sf := storeX_KeyError, ty := by kernel_rfl, nd := by decide +kernel }
end DL
set_option maxHeartbeats 4000000
namespace L2
open PySem PySem.Spec PyProof.Rows
/-- the classes that a clause's test names -/
inductive TstX (X : Cx) : Expr → List Value → Prop
  | one {x : Str} {c : Value} {np : Pos} (h : Names X x c) : TstX X (.Name x np) [c]
  | tup2 {x1 x2 : Str} {c1 c2 : Value} {p1 p2 p : Pos} {k} (h1 : Names X x1 c1) (h2 : Names X x2 c2) : TstX X (.Tuple [.Name x1 p1, .Name x2 p2] k p) [c1, c2]
  | tup3 {x1 x2 x3 : Str} {c1 c2 c3 : Value} {p1 p2 p3 p : Pos} {k} (h1 : Names X x1 c1) (h2 : Names X x2 c2) (h3 : Names X x3 c3) : TstX X (.Tuple [.Name x1 p1, .Name x2 p2, .Name x3 p3] k p) [c1, c2, c3]
theorem name_ok {X : Cx} {E : Value → Shared → Prop} {pins : List (Addr × Obj)} {s : Shared} {σ : St} {H : Hp} {x : Str} {c : Value} {pos : Pos} {Q : Value → Shared → Prop} (hc : Names X x c) (S : Inv X pins σ H s) (q : Q c s) : wpAny (model X.prog X.w) X.A (eval (.Name x pos) X.env) Q E s := by
  obtain ⟨hg, hdbg, hm | ⟨hm, hv, hnn⟩⟩ := hc
  · exact ld_glob S hg hm q hdbg
  · exact ld_blt S hg hm hv q hnn hdbg
theorem flying_push {B : Heap} {l : List Env} {a : Addr} {Z : Obj → Prop} {h : Heap} {o : Obj} (fl : HandSPX.FlyingZ B l a Z h) : HandSPX.FlyingZ B l a Z (h.push o) ∧ h.UpToSlots (h.push o) := by
  obtain ⟨k1, k2, k3, oe, vs, T, oT, ts', he, hz, hd, h1, h2, h3, h4, h5, h6⟩ := fl
  exact ⟨⟨fun b u e => Heap.get?_push_of_some _ (k1 b u e), k2, Heap.FunFrames.of_keeps (fun b o e _ => ⟨o, Heap.get?_push_of_some _ e, rfl⟩) k3,
    oe, vs, T, oT, ts', Heap.get?_push_of_some _ he, hz, hd, h1, h2, h3, Heap.get?_push_of_some _ h4, h5, h6⟩, fun b u e _ => ⟨u.slots, Heap.get?_push_of_some _ e⟩⟩
theorem TstX.run {X : Cx} {t : Expr} {cs : List Value} (T : TstX X t cs) {pins : List (Addr × Obj)} {s : Shared} {σ : St} {H : Hp} {B : Heap} {l : List Env} {a : Addr} {cls : Value} {d : Option Addr} {b : Bool} {A2 : Around}
    {E1 E2 : Value → Shared → Prop} {Q : Bool → Shared → Prop} (S : Inv X pins σ H s) (fl : HandSPX.FlyingZ B l a (Zc cls d) s.heap) (hx : PySem.W.exmAny X.K cls cs = some b)
    (hq : ∀ h', HandSPX.FlyingZ B l a (Zc cls d) h' → s.heap.UpToSlots h' → Q b { s with heap := h' }) :
    wpAny (model X.prog X.w) X.A (eval t X.env) (fun c s1 => wpAny (model X.prog X.w) A2 (excMatches (.ref a) c) Q E2 s1) E1 s := by
  obtain ⟨oe3, vs3, he3, hz3, hd3⟩ := fl.there
  have LT : PySem.W.Looks (model X.prog X.w) s.heap (typeOf (.ref a)) cls := fun A Q E s k q => wpAny_typeOf_ref (k _ _ he3) (by rw [hz3.1]; exact q)
  cases T with
  | one h =>
    obtain ⟨b1, d1, x1, y1, z1⟩ := PySem.W.exmAny_cons hx
    have : some false = some d1 := y1
    cases this
    rw [Bool.or_false] at z1
    subst z1
    exact name_ok h S ((PySem.W.exm_one (M := model X.prog X.w) S.kIn LT x1).here (hq _ fl (Heap.UpToSlots.refl _)))
  | tup2 h1 h2 =>
    refine wpAny_Tuple_spliced ?_
    show wpAny _ _ (spliced [(false, eval (.Name _ _) X.env), (false, eval (.Name _ _) X.env)]) _ _ s
    refine Calls.spliced_cons (name_ok h1 S (Calls.spliced_cons (name_ok h2 S (Calls.spliced_nil ⟨by show (2 : Nat) ≤ sizeLine; decide, ?_⟩))))
    exact (PySem.W.exm_tup2 (M := model X.prog X.w) (S.kIn.keeps fun b u e => Heap.get?_push_of_some _ e) (LT.keeps fun b u e => Heap.get?_push_of_some _ e) (Heap.get?_push_size _ rfl) hx).here (hq _ (flying_push fl).1 (flying_push fl).2)
  | tup3 h1 h2 h3 =>
    refine wpAny_Tuple_spliced ?_
    show wpAny _ _ (spliced [(false, eval (.Name _ _) X.env), (false, eval (.Name _ _) X.env), (false, eval (.Name _ _) X.env)]) _ _ s
    refine Calls.spliced_cons (name_ok h1 S (Calls.spliced_cons (name_ok h2 S (Calls.spliced_cons (name_ok h3 S (Calls.spliced_nil ⟨by show (3 : Nat) ≤ sizeLine; decide, ?_⟩))))))
    exact (PySem.W.exm_tup3 (M := model X.prog X.w) (S.kIn.keeps fun b u e => Heap.get?_push_of_some _ e) (LT.keeps fun b u e => Heap.get?_push_of_some _ e) (Heap.get?_push_size _ rfl) hx).here (hq _ (flying_push fl).1 (flying_push fl).2)
end L2
set_option maxHeartbeats 4000000
namespace DL
open PySem PySem.Spec PyProof.Rows L2
inductive HsU (X : Cx) (sts : List Stmt) : List (Addr × (Addr → Option Addr → DTS)) → Prop
  | nil : HsU X sts []
  | cons {C : Addr} {qh : Addr → Option Addr → DTS} {cs : List (Addr × (Addr → Option Addr → DTS))}
      (h : ∀ (a : Addr) (oe : Obj) (d : Option Addr) (pn : List (Addr × Obj)), Zc (.ref C) d oe → (∃ vs, oe.data = .fields vs) → ∃ tt, QSs (X.suite a ((a, oe) :: pn)) W0 sts tt (qh a d)) (r : HsU X sts cs) : HsU X sts ((C, qh) :: cs)
theorem HsU.at {X : Cx} {sts : List Stmt} {cs : List (Addr × (Addr → Option Addr → DTS))} (h : HsU X sts cs) {C : Addr} {qh : Addr → Option Addr → DTS} (e : cs.lookup C = some qh) {a : Addr} {oe : Obj} {d : Option Addr} {pn : List (Addr × Obj)} (hz : Zc (.ref C) d oe) (hd : ∃ vs, oe.data = .fields vs) :
    ∃ tt, QSs (X.suite a ((a, oe) :: pn)) W0 sts tt (qh a d) := by
  induction h with
  | nil => cases e
  | @cons D qd cs h r ih =>
    rw [List.lookup_cons] at e
    cases c : C == D with
    | true =>
      rw [c] at e
      cases e
      have := beq_iff_eq.mp c
      subst this
      exact h a oe d pn hz hd
    | false => rw [c] at e; exact ih e
end DL
namespace DL
open PySem L2
section
variable {X : Cx}
theorem XAt.exC {K : PySem.W.Frag} {mg : Str → Option Value} {x : Str} {B n i : String} {tl : List Value} {st : Stmt} {q : Str} {ps fs : List Str} (T : XAt K mg x B n i tl st q ps fs) : PySem.W.subIn K (.ref T.C) (.type "BaseException") = some true := T.T.exC
end
end DL
namespace DL
open PySem PySem.Spec PyProof.Rows L2
end DL
namespace DL
open PySem PySem.Spec PyProof.Rows L2
/-- a comprehension whose items change the memory: I i acc M before item i -/
theorem compL_st {m : Bool} {Sty : Mst → Prop} {g : DTG} {tt : DTT} {te : DTE} {ix : List Nat} {a : Addr} {p : Rho} {Q : DK} (I : Nat → List D → Mst → Prop) {ds : List D}
    (hS : ∀ i acc M, I i acc M → Sty M ∧ M a = some (.lst acc) ∧ acc.length ≤ i) (hl : ds.length ≤ 99999)
    (step : ∀ i d acc M (R : Option D → Mst → Prop), ds[i]? = some d → I i acc M → (∀ y M', M' a = some (.lst acc) → I (i + 1) (acc ++ [y]) (put M' a (.lst (acc ++ [y]))) → R (some y) M') → (∀ M', I (i + 1) acc M' → R none M') →
      g d DW0 (wipeD p ix) M fun p2 M2 => tt DW0 p2 M2 fun b M3 => if b = true then te DW0 p2 M3 fun y M4 => R (some y) M4 else R none M3)
    (fin : ∀ acc M, I ds.length acc M → if m = true then Q (.ref a) M else Q (.lst acc) (del M a)) {M : Mst} (h : I 0 [] M) : compL m Sty g tt te ix a p Q ds M := by
  have main : ∀ k i acc M, i + k = ds.length → I i acc M → compL m Sty g tt te ix a p Q (ds.drop i) M := by
    intro k
    induction k with
    | zero =>
      intro i acc M e hI
      have : i = ds.length := by omega
      subst this
      rw [List.drop_length]
      obtain ⟨h1, h2, _⟩ := hS _ _ _ hI
      refine ⟨h1, ?_⟩
      rw [h2]; exact fin acc M hI
    | succ k ih =>
      intro i acc M e hI
      have hi : i < ds.length := by omega
      rw [List.drop_eq_getElem_cons hi]
      obtain ⟨h1, h2, h3⟩ := hS _ _ _ hI
      refine ⟨h1, ?_⟩
      refine step i _ acc M (fun o M' => match o with
        | some y => (match M' a with
          | some (.lst acc) => acc.length < 100000 ∧ compL m Sty g tt te ix a p Q (ds.drop (i + 1)) (put M' a (.lst (acc ++ [y])))
          | _ => False)
        | none => compL m Sty g tt te ix a p Q (ds.drop (i + 1)) M') (List.getElem?_eq_getElem hi) hI (fun y M' ha hI' => ?_) fun M' hI' => ih _ _ _ (by omega) hI'
      simp only [ha]
      exact ⟨by omega, ih _ _ _ (by omega) hI'⟩
  have := main ds.length 0 [] M (by omega) h
  simpa using this
end DL
namespace L2
open PySem PySem.Spec PyProof.Rows
end L2
namespace DL
open PySem PySem.Spec PyProof.Rows L2
end DL
namespace DL
open PySem PySem.Spec PyProof.Rows L2
def leS (a b : Str) : Prop := ltCps b.cps.toList a.cps.toList = false
theorem leS_iff (a b : Str) : leS a b ↔ ¬ b.cps.toList < a.cps.toList := by unfold leS; rw [ltCps_eq]; simp
theorem leS_trans {a b c : Str} (h : leS a b) (g : leS b c) : leS a c := by
  rw [leS_iff] at *
  exact List.le_trans (show a.cps.toList ≤ b.cps.toList from h) (show b.cps.toList ≤ c.cps.toList from g)
end DL
namespace DL
open PySem L2
mutual
/-- None, numbers, texts, tuples and lists of such -/
def prm : D → Bool
  | .non => true
  | .int _ => true
  | .str _ => true
  | .tup ds => prmL ds
  | .lst ds => prmL ds
  | _ => false
def prmL : List D → Bool
  | [] => true
  | d :: ds => prm d && prmL ds
end
mutual
theorem prm_data : ∀ d : D, prm d = true → isData d = true
  | .non, _ => rfl
  | .int _, _ => rfl
  | .str _, _ => rfl
  | .tup ds, h => prmL_data ds h
  | .lst ds, h => prmL_data ds h
  | .bl _, h => by cases h
  | .ktp _, h => by cases h
  | .xtp _, h => by cases h
  | .scr _, h => by cases h
  | .ty _, h => by cases h
  | .ref _, h => by cases h
  | .dct _ _, h => by cases h
  | .ins _ _ _, h => by cases h
  | .exc _ _ _ _, h => by cases h
  | .fnv _ _ _ _ _, h => by cases h
  | .fno _ _ _ _, h => by cases h
theorem prmL_data : ∀ ds : List D, prmL ds = true → isDataL ds = true
  | [], _ => rfl
  | d :: ds, h => by
    have h' : prm d = true ∧ prmL ds = true := by simpa [prmL] using h
    simp [isDataL, prm_data d h'.1, prmL_data ds h'.2]
end
theorem prmL_all : ∀ ds : List D, prmL ds = ds.all prm
  | [] => rfl
  | d :: ds => by simp [prmL, prmL_all ds]
mutual
theorem prm_eq : ∀ d e : D, prm d = true → prm e = true → deq d e = true → d = e
  | .non, e, _, he, h => by cases e <;> first | rfl | (exfalso; revert he; simp [prm]; done) | (exfalso; revert h; simp [deq, pyd, PyData.eqv]; done)
  | .int i, e, _, he, h => by
    cases e with
    | int j => rw [deq_int] at h; rw [of_decide_eq_true h]
    | _ => first | (exfalso; revert he; simp [prm]; done) | (exfalso; revert h; simp [deq, pyd, PyData.eqv]; done)
  | .str i, e, _, he, h => by
    cases e with
    | str j => rw [deq_str] at h; rw [of_decide_eq_true h]
    | _ => first | (exfalso; revert he; simp [prm]; done) | (exfalso; revert h; simp [deq, pyd, PyData.eqv]; done)
  | .tup ds, e, hd, he, h => by
    cases e with
    | tup es => rw [prmL_eq ds es hd he (by simpa [deq, deqL, pyd, PyData.eqv] using h)]
    | _ => first | (exfalso; revert he; simp [prm]; done) | (exfalso; revert h; simp [deq, pyd, PyData.eqv]; done)
  | .lst ds, e, hd, he, h => by
    cases e with
    | lst es => rw [prmL_eq ds es hd he (by simpa [deq, deqL, pyd, PyData.eqv] using h)]
    | _ => first | (exfalso; revert he; simp [prm]; done) | (exfalso; revert h; simp [deq, pyd, PyData.eqv]; done)
  | .bl _, _, h, _, _ => by cases h
  | .ktp _, _, h, _, _ => by cases h
  | .xtp _, _, h, _, _ => by cases h
  | .scr _, _, h, _, _ => by cases h
  | .ty _, _, h, _, _ => by cases h
  | .ref _, _, h, _, _ => by cases h
  | .dct _ _, _, h, _, _ => by cases h
  | .ins _ _ _, _, h, _, _ => by cases h
  | .exc _ _ _ _, _, h, _, _ => by cases h
  | .fnv _ _ _ _ _, _, h, _, _ => by cases h
  | .fno _ _ _ _, _, h, _, _ => by cases h
theorem prmL_eq : ∀ ds es : List D, prmL ds = true → prmL es = true → deqL ds es = true → ds = es
  | [], [], _, _, _ => rfl
  | [], e :: es, _, _, h => by simp [deqL, pydL, PyData.eqvAll] at h
  | d :: ds, [], _, _, h => by simp [deqL, pydL, PyData.eqvAll] at h
  | d :: ds, e :: es, hd, he, h => by
    have h1 : prm d = true ∧ prmL ds = true := by simpa [prmL] using hd
    have h2 : prm e = true ∧ prmL es = true := by simpa [prmL] using he
    have h3 : deq d e = true ∧ deqL ds es = true := by simpa [deq, deqL, pydL, PyData.eqvAll] using h
    rw [prm_eq d e h1.1 h2.1 h3.1, prmL_eq ds es h1.2 h2.2 h3.2]
end
theorem prm_deq {d e : D} (hd : prm d = true) (he : prm e = true) : deq d e = true ↔ d = e :=
  ⟨prm_eq d e hd he, fun h => by subst h; exact deq_refl d (prm_data d hd)⟩
end DL
namespace DL
open PySem L2
end DL
namespace L2
open PySem PySem.Spec PyProof.Rows
def rSortU3 (K : PySem.W.Frag) : List V → Hp → VK → Prop := fun vs H Q => ∃ (a : Addr) (xs : List Str), vs = [V.ref a] ∧ SqT K H a (xs.map V.str) ∧ xs.length ≤ sizeLine ∧
  ∀ (ys : List Str) (p : Addr), ys.Perm xs → sortedS ys = true → H p = none → Q (.ref p) (upd H p (.lst (ys.map V.str)))
section
variable {X : Cx}
theorem cr_sortU3 : CallR X (.builtin "sorted") (rSortU3 X.K) := by
  intro pins s σ H vs us Q I r h
  obtain ⟨a, xs, rfl, hs, hz, q⟩ := h
  obtain ⟨its, rv, ⟨o, ho, hc, n, hd⟩, _⟩ := I.tuple hs
  rw [Vals.ref1 r]
  have n0 := rv.length
  rw [List.length_map] at n0
  have n2 : its.length ≤ sizeLine := by omega
  refine Calls.call_function_entry PyProof.Rows.kind_sorted PyProof.Rows.plain_sorted PyProof.Rows.entry_sorted (PyProof.Rows.args_sorted1 _) ?_
  unfold Builtin.«sorted»
  refine wpAny_bind (m := checkCount "sorted" 1 1 _) (wpAny_pure ?_)
  refine wpAny_bind (wpAny_collect_seq a (.inr rfl) ho hc hd (fun h2 hk => ?_) (by rw [List.size_toArray]; omega))
  rw [show its.toArray.toList = its by simp]
  have tx : StrsAre its xs := rv.strs
  have I1 : Inv X pins σ H { s with heap := h2, toks := s.toks } := I.kept hk
  refine wpAny_bind (wpAny_newList ?_ n2)
  have atL : (h2.push (seqObj "list" its.toArray 0)).get? h2.objs.size = some (seqObj "list" its.toArray 0) := Heap.get?_push_size _ rfl
  show wpAny _ _ _ _ _ { s with heap := h2.push (seqObj "list" its.toArray 0), toks := s.toks }
  refine wpAny_bind (wpAny_holding (wpAny_call_entry PyProof.Rows.slot_list_sort ⟨_, atL, rfl⟩ PyProof.Rows.entry_list_sort
    (list_sort_treeKAny (s := { s with heap := h2.push (seqObj "list" its.toArray 0), toks := s.toks }) strKind_oneLt atL tx.keysOf (fun v₁ v₂ rest e => keyKind_strs (by rw [← e]; exact tx)) n2 fun st hp hs => ⟨_, rfl, ?_⟩) (PyProof.Rows.args_list_sort _)))
  obtain ⟨ys, g1, g2, g3⟩ := sorted_out_str tx hp hs
  obtain ⟨e5, e6⟩ := PyProof.Rows.sortedHeap_at (vs := its) (out := (arrOf st).map (·.2)) atL
  have n3 : (ys.map V.str).length ≤ sizeLine := by rw [List.length_map, g2.length_eq]; exact hz
  refine wpAny_pure ⟨_, rfl, .ref h2.objs.size, upd H h2.objs.size (.lst (ys.map V.str)), I1.laid (t' := s.toks) (fun b u e => ?_) (Nat.le_refl _)
    (show ObjOk X.prog X.w _ _ _ (.lst (ys.map V.str)) from ⟨n3, _, e5, vals_of_strs g1, by rw [Array.toArray_toList]; exact e6⟩), rfl, q ys _ g2 g3 (I1.hok.fresh (Nat.le_refl _))⟩
  have lt : b < h2.objs.size := Heap.lt_size e
  rw [PyProof.Rows.sortedHeap_old (Nat.ne_of_lt lt) (by rw [size_push']; exact Nat.lt_succ_of_lt lt)]
  exact Heap.get?_push_of_some _ e
end
end L2
namespace DL
open PySem PySem.Spec PyProof.Rows L2
/-- sorted(a tuple of texts) -/
def dSortU (m : Bool) : DCa := fun ds M Q => match ds with
  | [x] => match res M x with
    | .tup es => match txL es with
      | some zs => ∀ ys : List Str, ys.Perm zs → sortedS ys = true → newL m (ys.map .str) M Q
      | none => False
    | _ => False
  | _ => False
theorem c_sortU {X : Cx} (m : Bool) : QCa X (.builtin "sorted") (rSortU3 X.K) (dSortU m) := ⟨cr_sortU3, fun G H p M s ds vs Q Q' S r h k => by
  unfold dSortU at h
  split at h
  · next x =>
    obtain ⟨v, rfl, r1⟩ := repL1 r
    split at h
    · next es e1 =>
      obtain ⟨a, us, rfl, g1, g2, g3⟩ := as_tup S r1 e1
      split at h
      · next zs en =>
        have ee := txL_eq en
        subst ee
        obtain ⟨rfl, g4⟩ := repL_txs' g2
        rw [List.length_map] at g3
        refine ⟨a, zs, rfl, g1, g3, fun ys q hp hw hn => newL_ok S hn (repL_txs fun y hy => g4 y (hp.mem_iff.mp hy)) (by rw [List.length_map, hp.length_eq]; exact g3) (h ys hp hw) k⟩
      · exact h.elim
    · exact h.elim
  · exact h.elim⟩
end DL
namespace DL
open PySem L2 Tx20 Tx21
theorem cc {d : D} {rest : DTA} {DW p} {QA : List D → Mst → Prop} (h : rest DW p M (fun ds M => QA (d :: ds) M)) : qCons (qC d) rest DW p M QA := h
end DL
namespace DL
open PySem L2 Tx20 Tx21
/-- signs drawn, told by a relation -/
theorem ones_of {P : Nat → Prop} {ds ys : List D} (h : All2 (fun _ y => ∃ c : Nat, y = .str (one c) ∧ P c) ds ys) : ∃ cs : List Nat, ys = (cs.map one).map D.str ∧ cs.length = ds.length ∧ ∀ c ∈ cs, P c := by
  induction h with
  | nil => exact ⟨[], rfl, rfl, fun _ h => (by cases h)⟩
  | cons h _ ih =>
    obtain ⟨c, rfl, hz⟩ := h
    obtain ⟨w, e, l, a⟩ := ih
    exact ⟨c :: w, by simp [e], by simp [l], fun x hx => by
      rcases List.mem_cons.mp hx with rfl | hx
      · exact hz
      · exact a x hx⟩
def Low (c : Nat) : Prop := 97 ≤ c ∧ c ≤ 122
theorem lett_low : ∀ c ∈ (PySem.Str.ofString "abcdefghijklmnopqrstuvwxyz").cps.toList, 97 ≤ c ∧ c ≤ 122 := by decide +kernel
theorem lett_at : ∀ i, i < 26 → (PySem.Str.ofString "abcdefghijklmnopqrstuvwxyz").cps.toList[i]? = some (97 + i) := by decide +kernel
/-- letters[i] -/
theorem ix_lett {i : Nat} {M : Mst} {Q : DK} (hi : i < 26) (h : Q (.str (one (97 + i))) M) : dIx (.str (PySem.Str.ofString "abcdefghijklmnopqrstuvwxyz")) (.int (i : Int)) M Q := by
  unfold dIx
  simp only [dgetD, res_str, atI_n, lett_at i hi]
  exact h
theorem nameS_of {z : Str} (h0 : 1 ≤ z.length) (h1 : z.length ≤ 8) (h : ∀ c ∈ z.cps.toList, Low c) : nameS z = true := by
  unfold nameS lettB
  simp only [Bool.and_eq_true, decide_eq_true_eq, List.all_eq_true]
  exact ⟨⟨h0, h1⟩, fun c hc => h c hc⟩
theorem app_list {x y : Str} : (x ++ y).cps.toList = x.cps.toList ++ y.cps.toList := by
  show (x.cps ++ y.cps).toList = _
  rw [Array.toList_append]
end DL
namespace DL
open PySem L2 Tx20 Tx21
abbrev Eng := Str × Str × Str × Int
abbrev Rd_ := Str × Str × Int × Int
def rdD (r : Rd_) : D := .tup [.str r.1, .str r.2.1, .int r.2.2.1, .int r.2.2.2]
abbrev Pc_ := Str × Int
def pcD (r : Pc_) : D := .tup [.str r.1, .int r.2]
def grT (ps : List Pc_) (rs : List Rd_) (ss : List Str) : D := .tup [.xtp (ps.map pcD), .xtp (rs.map rdD), .xtp (ss.map .str)]
end DL
namespace DL
open PySem L2 Tx20 Tx21
/-- a pair of places by numbers -/
abbrev Pr_ := Nat × Nat
def prD_ (x : Pr_) : D := .tup [.int (x.1 : Int), .int (x.2 : Int)]
theorem prs_prm (l : List Pr_) : prmL (l.map prD_) = true := by rw [prmL_all, List.all_map, List.all_eq_true]; intro x _; rfl
theorem any_pr (l : List Pr_) (x : Pr_) : ((l.map prD_).any fun e => deq e (prD_ x)) = decide (x ∈ l) := by
  have h : ∀ y : Pr_, deq (prD_ y) (prD_ x) = decide (y = x) := fun y => by
    have e := prm_deq (d := prD_ y) (e := prD_ x) rfl rfl
    by_cases z : y = x
    · subst z; rw [e.mpr rfl]; simp
    · rw [decide_eq_false z]
      cases w : deq (prD_ y) (prD_ x) with
      | false => rfl
      | true =>
        have := e.mp w
        simp only [prD_, D.tup.injEq, List.cons.injEq, D.int.injEq, and_true] at this
        exact absurd (Prod.ext (by omega) (by omega)) z
  induction l with
  | nil => rfl
  | cons y ys ih =>
    rw [List.map_cons, List.any_cons, ih, h, ← Bool.decide_or]
    apply decide_eq_decide.mpr
    simp [eq_comm]
theorem in_prs {l : List Pr_} {x : Pr_} {q : Addr} {M : Mst} {Q : DK} (h : M q = some (.lst (l.map prD_))) : dInD true (.tup [.int (x.1 : Int), .int (x.2 : Int)]) (.ref q) M Q = Q (.bl (!decide (x ∈ l))) M := by
  show dInD true (prD_ x) (.ref q) M Q = _
  unfold dInD
  rw [res_r h]
  have e : res M (prD_ x) = prD_ x := rfl
  simp only [e, any_pr, Bool.true_xor]
  have a1 : isData (prD_ x) = true := rfl
  have a2 : isData (.lst (l.map prD_)) = true := prm_data _ (prs_prm l)
  have a3 : dep (prD_ x) ≤ 64 := Nat.le_of_ble_eq_true rfl
  have a4 : dep (.lst (l.map prD_)) ≤ 64 := Nat.le_trans (dep_lst (n := 1) fun d hd => by obtain ⟨x, _, rfl⟩ := List.mem_map.mp hd; exact Nat.le_of_ble_eq_true rfl) (by decide)
  simp [a1, a2, a3, a4]
structure PrsOk (m : Nat) (l : List Pr_) : Prop where
  lt : ∀ x ∈ l, x.1 < m ∧ x.2 < m ∧ x.1 ≠ x.2
  pw : l.Pairwise fun a b => ¬ (a = b ∨ a = (b.2, b.1))
theorem PrsOk.nil {m : Nat} : PrsOk m [] := ⟨(fun _ h => nomatch h), List.Pairwise.nil⟩
theorem getD_mem {zs : List Str} {i : Nat} (h : i < zs.length) : zs.getD i Str.empty ∈ zs := by
  rw [List.getD_eq_getElem?_getD, List.getElem?_eq_getElem h]; exact List.getElem_mem h
theorem getD_inj {zs : List Str} (nd : zs.Nodup) {i j : Nat} (hi : i < zs.length) (hj : j < zs.length) (h : zs.getD i Str.empty = zs.getD j Str.empty) : i = j := by
  rw [List.getD_eq_getElem?_getD, List.getElem?_eq_getElem hi, List.getD_eq_getElem?_getD, List.getElem?_eq_getElem hj] at h
  simp only [Option.getD_some] at h
  rcases Nat.lt_trichotomy i j with c | c | c
  · exact absurd h ((List.pairwise_iff_getElem.mp nd) i j hi hj c)
  · exact c
  · exact absurd h.symm ((List.pairwise_iff_getElem.mp nd) j i hj hi c)
theorem places_of {zs : List Str} {os : List (Option D)} (h : All2 (fun d o => ∃ z k, d = D.str z ∧ o = some (pcD (z, k)) ∧ 1 ≤ k ∧ k ≤ 4) (zs.map .str) os) : ∃ ps : List Pc_, os.filterMap id = ps.map pcD ∧ ps.map (·.1) = zs ∧ ∀ p ∈ ps, 1 ≤ p.2 ∧ p.2 ≤ 4 := by
  induction zs generalizing os with
  | nil => cases h; exact ⟨[], rfl, rfl, fun _ h => nomatch h⟩
  | cons z zs ih =>
    rw [List.map_cons] at h
    cases h with
    | cons h1 h2 =>
      obtain ⟨ps, a, b, c⟩ := ih h2
      obtain ⟨z', k, e, rfl, k1, k2⟩ := h1
      cases e
      exact ⟨(z, k) :: ps, by simp [a], by simp [b], fun p hp => by
        rcases List.mem_cons.mp hp with rfl | hp
        · exact ⟨k1, k2⟩
        · exact c p hp⟩
end DL
namespace DL
open PySem L2 Tx20 Tx21
def qIsRoad (sp_is_one_of : DSp) (sp_is_tuple_of : DSp) (sp_is_whole : DSp) : DTS :=
  (qSeq (qIfS (qOr (qNot (qTB (qCall sp_is_tuple_of [] (qCons (qVar 1) (qCons (qC (.int 4)) qNil))))) (qOr (qNot (qTB (qCall sp_is_one_of [] (qCons (qOp dIx (qVar 1) (qC (.int 0))) (qCons (qVar 0) qNil))))) (qNot (qTB (qCall sp_is_one_of [] (qCons (qOp dIx (qVar 1) (qC (.int 1))) (qCons (qVar 0) qNil)))))))
  (qRet (qC (.bl false)))
  qNext)
  (qRet (qAndV (qOp (dEq true) (qOp dIx (qVar 1) (qC (.int 0))) (qOp dIx (qVar 1) (qC (.int 1)))) (qAndV (qCall sp_is_whole [] (qCons (qOp dIx (qVar 1) (qC (.int 2))) (qCons (qC (.int 1)) (qCons (qC (.int 60)) qNil)))) (qCall sp_is_whole [] (qCons (qOp dIx (qVar 1) (qC (.int 3))) (qCons (qC (.int 0)) (qCons (qC (.int 60)) qNil))))))))
def qRoadsF (sp_is_road : DSp) : DTS :=
  (qSeq (qIfS (qOr (qNot (qTB (qCB dIsi (qCons (qVar 1) (qCons (qC (.ty "tuple")) qNil))))) (qTB (qOp (dCmpI fun i j => decide (j < i)) (qCB dLen (qCons (qVar 1) qNil)) (qC (.int 80)))))
  (qRet (qUn dNeg (qC (.int 1))))
  qNext)
  (qSeq (qAsg qDNewT (gNameD 2))
  (qSeq (qFor (qiEnum0 (qCons (qVar 1) qNil)) (gTupD 2 (gConsD (gNameD 3) (gConsD (gNameD 4) gNilD)))
  (qSeq (qIfS (qOr (qNot (qTB (qCall sp_is_road [] (qCons (qVar 0) (qCons (qVar 4) qNil))))) (qTB (qOp (dIn false) (qCB dTuple (qCons (qCB (dSortU false) (qCons (qSl false (qVar 4) qNoPart (qPart (qC (.int 2)))) qNil)) qNil)) (qVar 2))))
  (qRet (qVar 3))
  qNext)
  (qAsg (qC (.bl true)) (gSubD (qVar 2) (qCB dTuple (qCons (qCB (dSortU false) (qCons (qSl false (qVar 4) qNoPart (qPart (qC (.int 2)))) qNil)) qNil))))))
  (qRet (qC .non)))))
/-- a right row of roads -/
structure RdOk (zs : List Str) (r : Rd_) : Prop where
  m1 : r.1 ∈ zs
  m2 : r.2.1 ∈ zs
  ne : r.1 ≠ r.2.1
  a0 : 1 ≤ r.2.2.1
  a1 : r.2.2.1 ≤ 60
  b0 : 0 ≤ r.2.2.2
  b1 : r.2.2.2 ≤ 60
  t1 : Tx_ 8 r.1
  t2 : Tx_ 8 r.2.1
theorem RdOk.pl {zs : List Str} {r : Rd_} (h : RdOk zs r) : Pl 80 (rdD r) := .tup (by simp) fun e he => by
  simp only [List.mem_cons, List.not_mem_nil, or_false] at he
  rcases he with rfl | rfl | rfl | rfl
  · exact .str (h.t1.mono (by decide))
  · exact .str (h.t2.mono (by decide))
  · exact .int _
  · exact .int _
def spIsRoad : DSp := fun ds M Q _ => ∃ (t : D) (zs : List Str) (r : Rd_), ds = [t, rdD r] ∧ TextsD M zs t ∧ RdOk zs r ∧ Q (.bl true) M
theorem isroad_ok (ds : List D) (M : Mst) (Q : DK) (Ed : DX → Mst → Prop) (h : upSp spIsRoad ds M Q Ed) : qIsRoad spIsOne spIsTuple spIsWhole (fun x _ M => Ed x M) (retE Q) (startD ["names", "thing"] ds) M := by
  obtain ⟨Q0, E0, ⟨t, zs, r, rfl, ht, hr, k0⟩, kq, _⟩ := h
  have k : Q (.bl true) M := kq _ _ _ (Sub.refl _) k0
  have hp := hr.pl
  obtain ⟨x, y, i, j⟩ := r
  obtain ⟨m1, m2, ne, a0, a1, b0, b1, t1, t2⟩ := hr
  dsimp only at m1 m2 ne a0 a1 b0 b1 t1 t2
  show qIsRoad _ _ _ _ _ [some t, some (rdD (x, y, i, j))] M
  simp only [qIsRoad, qOr, qNot, qAndV, qSeq, qAsg, qTup, qCons, qNil, qOp, qUn, qC, qCall, qVar, qLst, newL_f, qIfS, qTB, qNext, qRet, qDrop, qFor, qCB, qAug, qSl, qPart, qNoPart, gNameD, gSub_eq, dInt_i, dInt0_i, dAdd_i, dCmpI_i, List.set_cons_zero, List.set_cons_succ, List.getElem?_cons_zero, List.getElem?_cons_succ, List.append_nil, z_l0, z_l1, z_l2, z_l3, z_l4, z_l5, z_l6, z_l7, z_l8, z_l9, z_l19, z_l24, z_l25, true_and]
  refine ⟨80, _, 4, rfl, hp, ?_⟩
  simp only [rdD, longD, List.length_cons, List.length_nil, Nat.reduceAdd, z_ix_t0, z_ix_t1, z_ix_t2, z_ix_t3, z_ix_l0, z_ix_l1, z_ix_l2, z_eq_int, z_ne_int, z_eq_str, z_ne_str, z_neg, z_add_tup, z_len_tup, Bool.not_true, Bool.not_false, Bool.false_eq_true, if_false, if_true, decide_true, decide_false, if_false]
  refine ⟨8, _, _, zs, rfl, .str t1, ht, ?_⟩
  simp only [oneD, m1, decide_true, Bool.not_true, Bool.false_eq_true, if_false]
  refine ⟨8, _, _, zs, rfl, .str t2, ht, ?_⟩
  simp only [oneD, m2, decide_true, Bool.not_true, Bool.false_eq_true, if_false, qSeq, qAsg, qTup, qCons, qNil, qOp, qUn, qC, qCall, qVar, qLst, newL_f, qIfS, qTB, qNext, qRet, qDrop, qFor, qCB, qAug, qSl, qPart, qNoPart, gNameD, gSub_eq, dInt_i, dInt0_i, dAdd_i, dCmpI_i, List.set_cons_zero, List.set_cons_succ, List.getElem?_cons_zero, List.getElem?_cons_succ, List.append_nil, z_l0, z_l1, z_l2, z_l3, z_l4, z_l5, z_l6, z_l7, z_l8, z_l9, z_l19, z_l24, z_l25, true_and, z_ix_t0, z_ix_t1, z_ix_t2, z_ix_t3, z_ix_l0, z_ix_l1, z_ix_l2, z_eq_int, z_ne_int, z_eq_str, z_ne_str, z_neg, z_add_tup, z_len_tup, Bool.not_true, Bool.not_false, Bool.false_eq_true, if_false, if_true, decide_true, decide_false, ne, Bool.not_false, if_true]
  refine ⟨8, _, 1, 60, rfl, .int _, ?_⟩
  simp only [wholeD, a0, a1, decide_true, Bool.and_self, if_true, z_ix_t0, z_ix_t1, z_ix_t2, z_ix_t3, z_ix_l0, z_ix_l1, z_ix_l2, z_eq_int, z_ne_int, z_eq_str, z_ne_str, z_neg, z_add_tup, z_len_tup, Bool.not_true, Bool.not_false, Bool.false_eq_true, if_false, if_true, decide_true, decide_false]
  refine ⟨8, _, 0, 60, rfl, .int _, ?_⟩
  simp only [wholeD, b0, b1, decide_true, Bool.and_self, if_true]
  exact k
/-- x is a tuple of these -/
def Tpl (es : List D) (x : D) : Prop := x = .xtp es ∨ x = .tup es
theorem Tpl.seq {es : List D} {x : D} (h : Tpl es x) : seqD x = some es := by rcases h with rfl | rfl <;> rfl
theorem Tpl.th {n : Nat} {es : List D} {x : D} (h : Tpl es x) (hl : es.length ≤ n) (hp : ∀ d ∈ es, Pl n d) : Th n x := by
  rcases h with rfl | rfl
  · exact .xt hl hp
  · exact .pl (.tup hl hp)
/-- two roads between the same places -/
def SameRd (a b : Rd_) : Prop := (a.1 = b.1 ∧ a.2.1 = b.2.1) ∨ (a.1 = b.2.1 ∧ a.2.1 = b.1)
theorem same_of_perm {x y x' y' : Str} (h : [x, y].Perm [x', y']) : (x = x' ∧ y = y') ∨ (x = y' ∧ y = x') := by
  have h1 : x ∈ [x', y'] := h.mem_iff.mp (List.mem_cons_self ..)
  simp only [List.mem_cons, List.not_mem_nil, or_false] at h1
  rcases h1 with rfl | rfl
  · left
    have := (List.perm_cons _).mp h
    exact ⟨rfl, by simpa using this.eq_singleton⟩
  · right
    have h2 : [x, y].Perm [x, x'] := h.trans (List.Perm.swap ..)
    have := (List.perm_cons _).mp h2
    exact ⟨rfl, by simpa using this.eq_singleton⟩
def spRoadsF : DSp := fun ds M Q _ => ∃ (t x : D) (zs : List Str) (rs : List Rd_), ds = [t, x] ∧ (∀ M, TextsD M zs t) ∧ Tpl (rs.map rdD) x ∧ rs.length ≤ 80 ∧ (∀ r ∈ rs, RdOk zs r) ∧ (rs.Pairwise fun a b => ¬ SameRd a b) ∧ Q .non M
theorem keysD_strs : ∀ ys : List Str, keysD (ys.map D.str) = some (ys.map Sum.inr)
  | [] => rfl
  | y :: ys => by simp only [List.map_cons, keysD, keyD, keysD_strs ys]
theorem val_none {kvs : List (List Key × D)} {k : List Key} (h : ∀ q ∈ kvs, q.1 ≠ k) : valD kvs k = none := by
  unfold valD
  rw [List.find?_eq_none.mpr fun q hq => by simp [h q hq]]; rfl
theorem put_none {kvs : List (List Key × D)} {k : List Key} {v : D} (h : ∀ q ∈ kvs, q.1 ≠ k) : putD kvs k v = kvs ++ [(k, v)] := by
  unfold putD
  rw [if_neg]
  simp only [List.any_eq_true, decide_eq_true_eq, not_exists, not_and]
  exact fun q hq => h q hq
/-- the keys are those of earlier roads -/
def KeyOf (rs : List Rd_) (k : List Key) : Prop := ∃ r ∈ rs, ∃ ys : List Str, k = ys.map Sum.inr ∧ ys.Perm [r.1, r.2.1]
theorem keyOf_ne {rs : List Rd_} {r : Rd_} {k : List Key} {ys : List Str} (h : KeyOf rs k) (hn : ∀ a ∈ rs, ¬ SameRd a r) (hy : ys.Perm [r.1, r.2.1]) : k ≠ ys.map Sum.inr := by
  obtain ⟨a, ha, zs, rfl, hz⟩ := h
  intro e
  have e1 : zs = ys := (List.map_inj_right (fun _ _ h => Sum.inr.inj h)).mp e
  subst e1
  exact hn a ha (same_of_perm (hz.symm.trans hy))
theorem roadsf_ok (ds : List D) (M : Mst) (Q : DK) (Ed : DX → Mst → Prop) (h : upSp spRoadsF ds M Q Ed) : qRoadsF spIsRoad (fun x _ M => Ed x M) (retE Q) (startD ["names", "thing", "seen", "at", "one"] ds) M := by
  obtain ⟨Q0, E0, ⟨t, x, zs, rs, rfl, ht, hx, hn, hr, hd, k0⟩, kq, _⟩ := h
  have k : ∀ M', Sub M M' → Q .non M' := fun M' S => kq _ _ _ S k0
  have hs := hx.seq
  have th : Th 80 x := hx.th (by rw [List.length_map]; exact hn) fun d hd => by
    obtain ⟨r, h1, rfl⟩ := List.mem_map.mp hd
    exact (hr r h1).pl
  show qRoadsF _ _ _ [some t, some x, none, none, none] M
  simp only [qRoadsF, qOr, qNot, qSeq, qAsg, qTup, qCons, qNil, qOp, qUn, qC, qCall, qVar, qLst, newL_f, qIfS, qTB, qNext, qRet, qDrop, qFor, qCB, qAug, qSl, qPart, qNoPart, gNameD, gSub_eq, dInt_i, dInt0_i, dAdd_i, dCmpI_i, List.set_cons_zero, List.set_cons_succ, List.getElem?_cons_zero, List.getElem?_cons_succ, List.append_nil, z_l0, z_l1, z_l2, z_l3, z_l4, z_l5, z_l6, z_l7, z_l8, z_l9, z_l19, z_l24, z_l25, true_and]
  rw [th_isi th, hs]
  simp only [Option.isSome_some, Bool.not_true, Bool.false_eq_true, if_false, seq_len hs, List.length_map]
  refine (chain_gt (hi := 80)).mpr ?_
  simp only [show decide (80 < rs.length) = false from decide_eq_false (by omega), Bool.false_eq_true, if_false, qSeq, qAsg, qTup, qCons, qNil, qOp, qUn, qC, qCall, qVar, qLst, newL_f, qIfS, qTB, qNext, qRet, qDrop, qFor, qCB, qAug, qSl, qPart, qNoPart, gNameD, gSub_eq, dInt_i, dInt0_i, dAdd_i, dCmpI_i, List.set_cons_zero, List.set_cons_succ, List.getElem?_cons_zero, List.getElem?_cons_succ, List.append_nil, z_l0, z_l1, z_l2, z_l3, z_l4, z_l5, z_l6, z_l7, z_l8, z_l9, z_l19, z_l24, z_l25, true_and]
  intro a ha
  simp only [qiEnum0, qSeq, qAsg, qTup, qCons, qNil, qOp, qUn, qC, qCall, qVar, qLst, newL_f, qIfS, qTB, qNext, qRet, qDrop, qFor, qCB, qAug, qSl, qPart, qNoPart, gNameD, gSub_eq, dInt_i, dInt0_i, dAdd_i, dCmpI_i, List.set_cons_zero, List.set_cons_succ, List.getElem?_cons_zero, List.getElem?_cons_succ, List.append_nil, z_l0, z_l1, z_l2, z_l3, z_l4, z_l5, z_l6, z_l7, z_l8, z_l9, z_l19, z_l24, z_l25, true_and, seq_at hs]
  refine loopL_inv (fun i p M' => ∃ (kvs : List (List Key × D)) (p3 p4 : Option D), p = [some t, some x, some (.ref a), p3, p4] ∧ M' = put M a (.dT kvs) ∧ kvs.length ≤ i ∧ (∀ q ∈ kvs, KeyOf (rs.take i) q.1)) (n := rs.length) (by simp) (fun i d p M' R hd' hI hR => ?_) (fun p M' hI => ?_)
    ⟨[], none, none, rfl, rfl, Nat.le_refl _, fun q hq => nomatch hq⟩
  · obtain ⟨kvs, p3, p4, rfl, rfl, hl, hk⟩ := hI
    obtain ⟨e, he, rfl⟩ := enum_tup hd'
    rw [List.getElem?_map] at he
    obtain ⟨r, h1, rfl⟩ := Option.map_eq_some_iff.mp he
    have hi : i < rs.length := (List.getElem?_eq_some_iff.mp h1).1
    have hnr : ∀ q ∈ rs.take i, ¬ SameRd q r := fun q hq => by
      obtain ⟨j, hj, rfl⟩ := List.getElem_of_mem hq
      rw [List.length_take] at hj
      rw [List.getElem_take]
      have h2 := (List.getElem?_eq_some_iff.mp h1).2
      rw [← h2]
      exact List.pairwise_iff_getElem.mp hd _ _ _ _ (by omega)
    refine ⟨trivial, ?_⟩
    simp only [gTupD, gConsD, gNilD, qSeq, qAsg, qTup, qCons, qNil, qOp, qUn, qC, qCall, qVar, qLst, newL_f, qIfS, qTB, qNext, qRet, qDrop, qFor, qCB, qAug, qSl, qPart, qNoPart, gNameD, gSub_eq, dInt_i, dInt0_i, dAdd_i, dCmpI_i, List.set_cons_zero, List.set_cons_succ, List.getElem?_cons_zero, List.getElem?_cons_succ, List.append_nil, z_l0, z_l1, z_l2, z_l3, z_l4, z_l5, z_l6, z_l7, z_l8, z_l9, z_l19, z_l24, z_l25, true_and]
    refine ⟨rfl, rfl, ?_⟩
    refine ⟨t, zs, r, rfl, ht _, hr r (List.mem_of_getElem? h1), ?_⟩
    have ec : cutX [D.str r.1, .str r.2.1, .int r.2.2.1, .int r.2.2.2] none (some (2 : Int)) = [D.str r.1, .str r.2.1] := cut_to _ 2
    have et : txL [D.str r.1, .str r.2.1] = some [r.1, r.2.1] := rfl
    simp only [Bool.not_true, Bool.false_eq_true, if_false, rdD, dSl, ec, dSortU, res_tup, et, newL_f, qSeq, qAsg, qTup, qCons, qNil, qOp, qUn, qC, qCall, qVar, qLst, newL_f, qIfS, qTB, qNext, qRet, qDrop, qFor, qCB, qAug, qSl, qPart, qNoPart, gNameD, gSub_eq, dInt_i, dInt0_i, dAdd_i, dCmpI_i, List.set_cons_zero, List.set_cons_succ, List.getElem?_cons_zero, List.getElem?_cons_succ, List.append_nil, z_l0, z_l1, z_l2, z_l3, z_l4, z_l5, z_l6, z_l7, z_l8, z_l9, z_l19, z_l24, z_l25, true_and]
    intro ys hp hw
    have e1 : ∀ q ∈ kvs, q.1 ≠ ys.map Sum.inr := fun q hq => keyOf_ne (hk q hq) hnr hp
    simp only [dTuple, res, dIn, dgetD, put_same, keysD_strs, Option.map_some, val_none e1, Option.isSome_none, Bool.false_xor, Bool.false_eq_true, if_false, qSeq, qAsg, qTup, qCons, qNil, qOp, qUn, qC, qCall, qVar, qLst, newL_f, qIfS, qTB, qNext, qRet, qDrop, qFor, qCB, qAug, qSl, qPart, qNoPart, gNameD, gSub_eq, dInt_i, dInt0_i, dAdd_i, dCmpI_i, List.set_cons_zero, List.set_cons_succ, List.getElem?_cons_zero, List.getElem?_cons_succ, List.append_nil, z_l0, z_l1, z_l2, z_l3, z_l4, z_l5, z_l6, z_l7, z_l8, z_l9, z_l19, z_l24, z_l25, true_and]
    intro zs' hp' hw'
    have e2 : ∀ q ∈ kvs, q.1 ≠ zs'.map Sum.inr := fun q hq => keyOf_ne (hk q hq) hnr hp'
    simp only [dTuple, res, dSet, put_same, keysD_strs, put_none e2, put_put]
    refine ⟨by omega, hR _ _ ⟨_, _, _, rfl, rfl, by simp; omega, fun q hq => ?_⟩⟩
    rcases List.mem_append.mp hq with hq | hq
    · obtain ⟨b, hb, ws, h3, h4⟩ := hk q hq
      exact ⟨b, by rw [List.take_add_one]; exact List.mem_append_left _ hb, ws, h3, h4⟩
    · rw [List.mem_singleton] at hq
      subst hq
      exact ⟨r, by rw [List.take_add_one, h1]; simp, zs', rfl, hp'⟩
  · obtain ⟨kvs, p3, p4, rfl, rfl, hl, hk⟩ := hI
    exact ⟨trivial, k _ ((Sub.refl M).put ha)⟩
/-- a right ground -/
structure GOk (ps : List Row_) (rs : List Rd_) (ss : List Str) : Prop where
  gr : GrOk ps ss
  rn : rs.length ≤ 80
  rp : ∀ r ∈ rs, RdOk (ps.map (·.1)) r
  rd : rs.Pairwise fun a b => ¬ SameRd a b
theorem GOk.none {ps : List Row_} {rs : List Rd_} {ss : List Str} (h : GOk ps rs ss) : GOk ps [] ss := ⟨h.gr, Nat.zero_le _, (fun _ h => nomatch h), List.Pairwise.nil⟩
def gndF (ps : List Row_) (r : D) (ss : List Str) : List D := [risksD ps, .xtp (ps.map plD), r, .xtp (ss.map .str)]
def spGround (c : Addr) : DSp := fun ds M Q _ => ∃ (a : Addr) (ps : List Row_) (rs : List Rd_) (r : D) (ss : List Str), ds = [.ref a, .xtp (ps.map plD), r, .xtp (ss.map .str)] ∧ M a = some (.ins c []) ∧ Tpl (rs.map rdD) r ∧ GOk ps rs ss ∧ Q .non (put M a (.ins c (FG.zip (gndF ps r ss))))
theorem ground_ok (c : Addr) (ds : List D) (M : Mst) (Q : DK) (Ed : DX → Mst → Prop) (h : upSp (spGround c) ds M Q Ed) : qGround c spNeed0 spPlaces spRoadsF spStations (fun x _ M => Ed x M) (retE Q) (startD ["self", "places", "roads", "stations"] ds) M := by
  obtain ⟨Q0, E0, ⟨a, rows, rs, r, ss, rfl, ha, hr, go, k0⟩, kq, _⟩ := h
  have g := go.gr
  have k : Q .non (put M a (.ins c (FG.zip (gndF rows r ss)))) := kq _ _ _ (Sub.refl _) k0
  show qGround _ _ _ _ _ _ _ [some (.ref a), some (.xtp (rows.map plD)), some r, some (.xtp (ss.map .str))] M
  simp only [qGround, qSetF, qFld, qFrzE, qSeq, qAsg, qTup, qCons, qNil, qOp, qUn, qC, qCall, qVar, qLst, newL_f, qIfS, qTB, qNext, qRet, qDrop, qFor, qCB, qAug, qSl, qPart, qNoPart, gNameD, gSub_eq, dInt_i, dInt0_i, dAdd_i, dCmpI_i, List.set_cons_zero, List.set_cons_succ, List.getElem?_cons_zero, List.getElem?_cons_succ, List.append_nil, z_l0, z_l1, z_l2, z_l3, z_l4, z_l5, z_l6, z_l7, z_l8, z_l9, z_l19, z_l24, z_l25, true_and]
  have f1 : faultP (.xtp (rows.map plD)) = none := by
    have l0 := g.l0
    have l1 := g.l1
    show (if (decide (1 ≤ (rows.map plD).length) && decide ((rows.map plD).length ≤ 40)) = true then (badP [] 0 (rows.map plD)).map fun i : Nat => (i : Int) else some (-1)) = none
    rw [if_pos (by simp [l0, l1]), badP_ok rows [] 0 g.ok (by simpa using g.nd)]; rfl
  have f2 : faultS (rows.map (·.1)) (.xtp (ss.map .str)) = none := by
    have l0 := g.sl
    show (if decide (12 < (ss.map D.str).length) = true then some (-1) else (badS (rows.map (·.1)) 0 [] (ss.map D.str)).map fun i : Nat => (i : Int)) = none
    rw [if_neg (by simp; omega), badS_ok _ ss [] 0 g.si (by simpa using g.sd)]; rfl
  refine ⟨40, _, rfl, by decide, g.places, ?_⟩
  rw [f1]
  refine ⟨_, rfl, ?_⟩
  simp only [dDict, risk_pairs]
  refine ⟨by simp [riskD]; have := g.l1; omega, fun p hp => ?_⟩
  have e := risk_putAll rows [] (by simpa using g.nd)
  rw [show riskD [] = [] from rfl, List.nil_append] at e
  simp only [put_same, e, del_put hp, ha, List.map_nil, List.length_nil, List.take_zero, Nat.zero_le, true_and]
  refine ⟨by decide, ?_⟩
  have i0 : ∀ (M : Mst) fs, M a = some (.ins c fs) → insD M (.ref a) = some (c, fs.map (·.1), fs.map (·.2)) := fun M fs h => by simp [insD, res, h]
  simp only [i0 _ _ put_same, setAt, List.length_nil, Nat.lt_irrefl, if_false, List.nil_append, List.map_cons, List.map_nil, List.getElem?_cons_zero]
  refine ⟨trivial, rfl, _, _, _, rs, rfl, fun _ => textsD_risk, hr, go.rn, go.rp, go.rd, ?_⟩
  refine ⟨_, rfl, ?_⟩
  simp only [i0 _ _ put_same]
  refine ⟨trivial, rfl, 40, _, _, _, rfl, by decide, textsD_risk, g.stations, ?_⟩
  rw [f2]
  refine ⟨_, rfl, ?_⟩
  simp only [put_same, put_put]
  exact ⟨trivial, rfl, Nat.le_refl 1, by decide, rfl, Nat.le_refl 2, by decide, rfl, Nat.le_refl 3, by decide, k⟩
end DL
namespace DL
open PySem L2 Tx20 Tx21
def qGNames (sp__law_take : DSp) : DTS :=
  (qSeq (qAsg (qC (.str (PySem.Str.ofString "abcdefghijklmnopqrstuvwxyz"))) (gNameD 2))
  (qSeq (qAsg (qBM "str" mJoin (qC (.str (PySem.Str.ofString ""))) (qCons (qLc false (qiRng1 (qCons (qCall sp__law_take [] (qCons (qVar 0) (qCons (qC (.int 6)) qNil))) qNil)) (gNameD 7) qYes (qOp dIx (qVar 2) (qCall sp__law_take [] (qCons (qVar 0) (qCons (qC (.int 26)) qNil)))) [7]) qNil)) (gNameD 3))
  (qSeq (qAsg (qTup (qCons (qCall sp__law_take [] (qCons (qVar 0) (qCons (qOp (dAdd false) (qCB dLen (qCons (qVar 3) qNil)) (qC (.int 1))) qNil))) (qCons (qCall sp__law_take [] (qCons (qVar 0) (qCons (qC (.int 26)) qNil))) qNil))) (gTupD 2 (gConsD (gNameD 4) (gConsD (gNameD 5) gNilD))))
  (qSeq (qAsg (qLc false (qiRng1 (qCons (qVar 1) qNil)) (gNameD 7) qYes (qOp (dAdd false) (qOp dIx (qVar 2) (qOp (dInt (fun _ j => 0 < j) fun i j => i % j) (qOp (dAdd false) (qVar 5) (qVar 7)) (qC (.int 26)))) (qOp (dMul false) (qOp dIx (qVar 2) (qOp (dInt (fun _ j => 0 < j) fun i j => i % j) (qVar 7) (qC (.int 25)))) (qCB dIntX (qCons (qOp (dCmpI fun i j => decide (j < i)) (qVar 7) (qC (.int 25))) qNil)))) [7]) (gNameD 6))
  (qRet (qLc false (qiAny (qVar 6)) (gNameD 8) qYes (qOp (dAdd false) (qOp (dAdd false) (qSl false (qVar 3) qNoPart (qPart (qVar 4))) (qVar 8)) (qSl false (qVar 3) (qPart (qVar 4)) qNoPart)) [8]))))))
def gn_R0 (sp__law_take : DSp) : DTS := (qAsg (qC (.str (PySem.Str.ofString "abcdefghijklmnopqrstuvwxyz"))) (gNameD 2))
def gn_R1 (sp__law_take : DSp) : DTS := (qAsg (qBM "str" mJoin (qC (.str (PySem.Str.ofString ""))) (qCons (qLc false (qiRng1 (qCons (qCall sp__law_take [] (qCons (qVar 0) (qCons (qC (.int 6)) qNil))) qNil)) (gNameD 7) qYes (qOp dIx (qVar 2) (qCall sp__law_take [] (qCons (qVar 0) (qCons (qC (.int 26)) qNil)))) [7]) qNil)) (gNameD 3))
def gn_R2 (sp__law_take : DSp) : DTS := (qAsg (qTup (qCons (qCall sp__law_take [] (qCons (qVar 0) (qCons (qOp (dAdd false) (qCB dLen (qCons (qVar 3) qNil)) (qC (.int 1))) qNil))) (qCons (qCall sp__law_take [] (qCons (qVar 0) (qCons (qC (.int 26)) qNil))) qNil))) (gTupD 2 (gConsD (gNameD 4) (gConsD (gNameD 5) gNilD))))
def gn_R3 (sp__law_take : DSp) : DTS := (qAsg (qLc false (qiRng1 (qCons (qVar 1) qNil)) (gNameD 7) qYes (qOp (dAdd false) (qOp dIx (qVar 2) (qOp (dInt (fun _ j => 0 < j) fun i j => i % j) (qOp (dAdd false) (qVar 5) (qVar 7)) (qC (.int 26)))) (qOp (dMul false) (qOp dIx (qVar 2) (qOp (dInt (fun _ j => 0 < j) fun i j => i % j) (qVar 7) (qC (.int 25)))) (qCB dIntX (qCons (qOp (dCmpI fun i j => decide (j < i)) (qVar 7) (qC (.int 25))) qNil)))) [7]) (gNameD 6))
def gn_R4 (sp__law_take : DSp) : DTS := (qRet (qLc false (qiAny (qVar 6)) (gNameD 8) qYes (qOp (dAdd false) (qOp (dAdd false) (qSl false (qVar 3) qNoPart (qPart (qVar 4))) (qVar 8)) (qSl false (qVar 3) (qPart (qVar 4)) qNoPart)) [8]))
def gn_T4 (sp__law_take : DSp) : DTS := gn_R4 sp__law_take
def gn_T3 (sp__law_take : DSp) : DTS := qSeq (gn_R3 sp__law_take) (gn_T4 sp__law_take)
def gn_T2 (sp__law_take : DSp) : DTS := qSeq (gn_R2 sp__law_take) (gn_T3 sp__law_take)
def gn_T1 (sp__law_take : DSp) : DTS := qSeq (gn_R1 sp__law_take) (gn_T2 sp__law_take)
def gn_T0 (sp__law_take : DSp) : DTS := qSeq (gn_R0 sp__law_take) (gn_T1 sp__law_take)
theorem gn_cut (sp__law_take : DSp) : qGNames sp__law_take = gn_T0 sp__law_take := rfl
theorem gn_t0 (sp__law_take : DSp) {DW : DWt} {DE : DEnds} {p : Rho} {M : Mst} : gn_T0 sp__law_take DW DE p M = gn_R0 sp__law_take DW { DE with nx := gn_T1 sp__law_take DW DE } p M := rfl
theorem gn_t1 (sp__law_take : DSp) {DW : DWt} {DE : DEnds} {p : Rho} {M : Mst} : gn_T1 sp__law_take DW DE p M = gn_R1 sp__law_take DW { DE with nx := gn_T2 sp__law_take DW DE } p M := rfl
theorem gn_t2 (sp__law_take : DSp) {DW : DWt} {DE : DEnds} {p : Rho} {M : Mst} : gn_T2 sp__law_take DW DE p M = gn_R2 sp__law_take DW { DE with nx := gn_T3 sp__law_take DW DE } p M := rfl
theorem gn_t3 (sp__law_take : DSp) {DW : DWt} {DE : DEnds} {p : Rho} {M : Mst} : gn_T3 sp__law_take DW DE p M = gn_R3 sp__law_take DW { DE with nx := gn_T4 sp__law_take DW DE } p M := rfl
def wordK (f k : Nat) : Str := one (97 + (f + k) % 26) ++ (if 25 < k then one (97 + k % 25) else lit "")
theorem wordK_list (f k : Nat) : (wordK f k).cps.toList = (97 + (f + k) % 26) :: (if 25 < k then [97 + k % 25] else []) := by
  unfold wordK
  rw [app_list]
  split
  · rfl
  · have : (lit "").cps.toList = [] := by decide +kernel
    rw [this]; rfl
theorem wordK_inj {f i j : Nat} (hi : i < 40) (hj : j < 40) (h : wordK f i = wordK f j) : i = j := by
  have e : (wordK f i).cps.toList = (wordK f j).cps.toList := by rw [h]
  rw [wordK_list, wordK_list] at e
  by_cases c1 : 25 < i
  · by_cases c2 : 25 < j
    · rw [if_pos c1, if_pos c2] at e
      simp only [List.cons.injEq, and_true] at e
      omega
    · rw [if_pos c1, if_neg c2] at e
      simp at e
  · by_cases c2 : 25 < j
    · rw [if_neg c1, if_pos c2] at e
      simp at e
    · rw [if_neg c1, if_neg c2] at e
      simp only [List.cons.injEq, and_true] at e
      omega
/-- a word put into another -/
def amidS (st : Str) (s : Nat) (w : Str) : Str := cutS st none (some (s : Int)) ++ w ++ cutS st (some (s : Int)) none
theorem amid_list {st w : Str} {s : Nat} (h : s ≤ st.length) : (amidS st s w).cps.toList = st.cps.toList.take s ++ w.cps.toList ++ st.cps.toList.drop s := by
  have hl : st.cps.toList.length = st.length := Array.length_toList
  have e1 : HT.sIx st.length st.length (some (s : Int)) = s := by rw [HT.sIx_nat]; omega
  have e2 : HT.sIx st.length 0 (some (s : Int)) = s := by rw [HT.sIx_nat]; omega
  unfold amidS cutS
  rw [app_list, app_list]
  simp only [e1, e2, show HT.sIx st.length 0 none = 0 from rfl, show HT.sIx st.length st.length none = st.length from rfl, List.drop_zero, Nat.sub_zero]
  rw [List.take_of_length_le (l := st.cps.toList.drop s) (by rw [List.length_drop, hl]; exact Nat.le_refl _)]
theorem amid_inj {st w v : Str} {s : Nat} (hs : s ≤ st.length) (h : amidS st s w = amidS st s v) : w = v := by
  have e : (amidS st s w).cps.toList = (amidS st s v).cps.toList := by rw [h]
  rw [amid_list hs, amid_list hs] at e
  have e2 := List.append_cancel_left (List.append_cancel_right (by rw [List.append_assoc, List.append_assoc] at e ⊢; exact e) : st.cps.toList.take s ++ w.cps.toList = st.cps.toList.take s ++ v.cps.toList)
  obtain ⟨⟨a⟩⟩ := w
  obtain ⟨⟨b⟩⟩ := v
  have : a = b := e2
  rw [this]
theorem amid_len {st w : Str} {s : Nat} (hs : s ≤ st.length) : (amidS st s w).length = st.length + w.length := by
  have e : (amidS st s w).cps.toList.length = _ := congrArg List.length (amid_list (w := w) hs)
  have l1 : ∀ x : Str, x.cps.toList.length = x.length := fun x => Array.length_toList
  rw [List.length_append, List.length_append, List.length_take, List.length_drop, l1, l1, l1] at e
  omega
def spGNames : DSp := fun ds M Q _ => ∃ (b : Addr) (m : Nat), ds = [.ref b, .int (m : Int)] ∧ M b = some .bag ∧ m ≤ 40 ∧ ∀ zs : List Str, zs.length = m → zs.Nodup → (∀ z ∈ zs, nameS z = true) → Q (stL zs) M
theorem ok_one {c : Nat} (h : c < 200) : PyData.strOk (one c) = true := by
  unfold PyData.strOk
  rw [← Array.all_toList, List.all_eq_true]
  intro x hx
  have : x = c := by simpa using hx
  rw [this]; simp; omega
theorem nd_map_on {α β : Type} {f : α → β} {l : List α} (nd : l.Nodup) (h : ∀ a ∈ l, ∀ b ∈ l, f a = f b → a = b) : (l.map f).Nodup :=
  List.pairwise_map.mpr (List.Pairwise.imp_of_mem (fun ha hb hn e => hn (h _ ha _ hb e)) nd)
theorem rep1 (w : Str) : repS w 1 = w := by
  unfold repS
  show (⟨#[] ++ w.cps⟩ : Str) = w
  rw [Array.empty_append]
theorem rep0 (w : Str) : repS w 0 = lit "" := by
  unfold repS
  show (⟨#[]⟩ : Str) = lit ""
  decide +kernel
theorem gnames_ok (ds : List D) (M : Mst) (Q : DK) (Ed : DX → Mst → Prop) (h : upSp spGNames ds M Q Ed) : qGNames spTake (fun x _ M => Ed x M) (retE Q) (startD ["_law_bag_here", "_law_many", "_law_letters", "_law_stem", "_law_spot", "_law_first", "_law_more", "_law_k", "_law_one"] ds) M := by
  obtain ⟨Q0, E0, ⟨b, m, rfl, hb, hm, k0⟩, kq, _⟩ := h
  have k : ∀ zs : List Str, zs.length = m → zs.Nodup → (∀ z ∈ zs, nameS z = true) → Q (stL zs) M := fun zs a c d => kq _ _ _ (Sub.refl _) (k0 zs a c d)
  clear kq k0
  rw [gn_cut, gn_t0]
  show gn_R0 _ _ _ [some (.ref b), some (.int (m : Int)), none, none, none, none, none, none, none] M
  simp only [gn_R0, qSeq, qAsg, qTup, qCons, qNil, qOp, qUn, qC, qCall, qVar, qLst, newL_f, qIfS, qTB, qNext, qRet, qDrop, qFor, qCB, qAug, qSl, qPart, qNoPart, gNameD, gSub_eq, dInt_i, dInt0_i, dAdd_i, dCmpI_i, List.set_cons_zero, List.set_cons_succ, List.getElem?_cons_zero, List.getElem?_cons_succ, List.append_nil, z_l0, z_l1, z_l2, z_l3, z_l4, z_l5, z_l6, z_l7, z_l8, z_l9, z_l19, z_l24, z_l25, true_and]
  show gn_T1 _ _ _ _ M
  rw [gn_t1]
  show gn_R1 _ _ _ _ M
  simp only [gn_R1, qBM, qLc, qiRng1, qSeq, qAsg, qTup, qCons, qNil, qOp, qUn, qC, qCall, qVar, qLst, newL_f, qIfS, qTB, qNext, qRet, qDrop, qFor, qCB, qAug, qSl, qPart, qNoPart, gNameD, gSub_eq, dInt_i, dInt0_i, dAdd_i, dCmpI_i, List.set_cons_zero, List.set_cons_succ, List.getElem?_cons_zero, List.getElem?_cons_succ, List.append_nil, z_l0, z_l1, z_l2, z_l3, z_l4, z_l5, z_l6, z_l7, z_l8, z_l9, z_l19, z_l24, z_l25, true_and]
  refine ⟨rfl, take_call hb (by decide) (by decide) fun n n0 n1 => ⟨by omega, by omega, fun c hc => ?_⟩⟩
  refine lcR hc (fun _ => trivial) (by simp; omega) (fun _ y => ∃ c : Nat, y = .str (one c) ∧ Low c) (fun d hd M2 R2 S hR2 => ?_) fun ys hys => ?_
  · simp only [wipeD, qSeq, qAsg, qTup, qCons, qNil, qOp, qUn, qC, qCall, qVar, qLst, newL_f, qIfS, qTB, qNext, qRet, qDrop, qFor, qCB, qAug, qSl, qPart, qNoPart, gNameD, gSub_eq, dInt_i, dInt0_i, dAdd_i, dCmpI_i, List.set_cons_zero, List.set_cons_succ, List.getElem?_cons_zero, List.getElem?_cons_succ, List.append_nil, z_l0, z_l1, z_l2, z_l3, z_l4, z_l5, z_l6, z_l7, z_l8, z_l9, z_l19, z_l24, z_l25, true_and]
    refine take_call (S _ _ hb) (by decide) (by decide) fun y y0 y1 => ?_
    refine pick_s y0 (by rw [show (PySem.Str.ofString "abcdefghijklmnopqrstuvwxyz").length = 26 by decide +kernel]; exact y1) fun c hc => hR2 _ ⟨c, rfl, lett_low c hc⟩
  obtain ⟨cs, rfl, lc, hcs⟩ := ones_of hys
  have lc2 : cs.length ≤ 5 := by rw [lc]; simp; omega
  refine join_signs (fun c hc => by have := (hcs c hc).2; omega) (by omega) ?_
  have T : ∀ c ∈ (⟨cs.toArray⟩ : Str).cps.toList, Low c := fun c hc => hcs c (by simpa using hc)
  have L : (⟨cs.toArray⟩ : Str).length ≤ 5 := by show cs.toArray.size ≤ 5; simpa using lc2
  generalize (⟨cs.toArray⟩ : Str) = st at T L
  show gn_T2 _ _ _ _ M
  rw [gn_t2]
  show gn_R2 _ _ _ _ M
  simp only [gn_R2, dLen, res_str, qSeq, qAsg, qTup, qCons, qNil, qOp, qUn, qC, qCall, qVar, qLst, newL_f, qIfS, qTB, qNext, qRet, qDrop, qFor, qCB, qAug, qSl, qPart, qNoPart, gNameD, gSub_eq, dInt_i, dInt0_i, dAdd_i, dCmpI_i, List.set_cons_zero, List.set_cons_succ, List.getElem?_cons_zero, List.getElem?_cons_succ, List.append_nil, z_l0, z_l1, z_l2, z_l3, z_l4, z_l5, z_l6, z_l7, z_l8, z_l9, z_l19, z_l24, z_l25, true_and]
  refine take_call hb (by omega) (by omega) fun s s0 s1 => take_call hb (by decide) (by decide) fun f f0 f1 => ?_
  obtain ⟨s, rfl⟩ : ∃ q : Nat, s = q := ⟨s.toNat, by omega⟩
  obtain ⟨f, rfl⟩ : ∃ q : Nat, f = q := ⟨f.toNat, by omega⟩
  have hs : s ≤ st.length := by omega
  show gTupD 2 _ (.tup [.int (s : Int), .int (f : Int)]) _ _ _ _
  simp only [gTupD, gConsD, gNilD, res_tup, List.length_cons, List.length_nil, true_and, gNameD, List.set_cons_zero, List.set_cons_succ]
  rw [gn_t3]
  show gn_R3 _ _ _ _ M
  simp only [gn_R3, qLc, qiRng1, qSeq, qAsg, qTup, qCons, qNil, qOp, qUn, qC, qCall, qVar, qLst, newL_f, qIfS, qTB, qNext, qRet, qDrop, qFor, qCB, qAug, qSl, qPart, qNoPart, gNameD, gSub_eq, dInt_i, dInt0_i, dAdd_i, dCmpI_i, List.set_cons_zero, List.set_cons_succ, List.getElem?_cons_zero, List.getElem?_cons_succ, List.append_nil, z_l0, z_l1, z_l2, z_l3, z_l4, z_l5, z_l6, z_l7, z_l8, z_l9, z_l19, z_l24, z_l25, true_and]
  refine ⟨by omega, by omega, fun c hc => ?_⟩
  refine compL_map hc (fun d => match d with | .int i => some (.str (wordK f i.toNat)) | _ => none) (fun _ => trivial) (by simp; omega) (fun d hd acc R hR => ?_) ?_
  · obtain ⟨i, hi, rfl⟩ : ∃ i : Nat, i < m ∧ d = .int (i : Int) := by
      obtain ⟨j, hj⟩ := List.getElem?_of_mem hd
      obtain ⟨h1, h2⟩ := range_at hj
      exact ⟨j, by simpa using h1, h2⟩
    simp only [wipeD, gNameD, qYes, if_true, dCmpI_i, qSeq, qAsg, qTup, qCons, qNil, qOp, qUn, qC, qCall, qVar, qLst, newL_f, qIfS, qTB, qNext, qRet, qDrop, qFor, qCB, qAug, qSl, qPart, qNoPart, gNameD, gSub_eq, dInt_i, dInt0_i, dAdd_i, dCmpI_i, List.set_cons_zero, List.set_cons_succ, List.getElem?_cons_zero, List.getElem?_cons_succ, List.append_nil, z_l0, z_l1, z_l2, z_l3, z_l4, z_l5, z_l6, z_l7, z_l8, z_l9, z_l19, z_l24, z_l25, true_and]
    refine ⟨by omega, ?_⟩
    rw [show ((f : Int) + i) % 26 = (((f + i) % 26 : Nat) : Int) by omega]
    refine ix_lett (Nat.mod_lt _ (by decide)) ⟨by omega, ?_⟩
    rw [show (i : Int) % 25 = ((i % 25 : Nat) : Int) by omega]
    refine ix_lett (by omega) ?_
    simp only [z_intX_b, dMul, res_str]
    have w0 : (25 < (i : Int)) ↔ 25 < i := by omega
    have fin : R (some (.str (wordK f i))) (put M c (.lst acc)) := hR
    unfold wordK at fin
    by_cases c : 25 < i
    · rw [if_pos c] at fin
      rw [decide_eq_true (w0.mpr c)]
      simp only [if_true, rep1]
      exact ⟨by decide, by decide, by show 1 * 1 ≤ 100000; decide, ok_one (by omega), by show 1 + 1 ≤ 100000; decide, fin⟩
    · rw [if_neg c] at fin
      rw [decide_eq_false (fun z => c (w0.mp z))]
      simp only [Bool.false_eq_true, if_false, rep0]
      exact ⟨by decide, by decide, by show 1 * 0 ≤ 100000; decide, by decide +kernel, by rw [show (lit "").length = 0 by decide +kernel]; show 1 + 0 ≤ 100000; decide, fin⟩
  · simp only [Bool.false_eq_true, if_false]
    have e : (rangeD 0 (m : Int).toNat).filterMap (fun d => match d with | .int i => some (D.str (wordK f i.toNat)) | _ => none) = ((List.range m).map (wordK f)).map D.str := by
      have : ∀ l : List Nat, (l.map fun i => D.int (0 + ((i : Nat) : Int))).filterMap (fun d => match d with | .int i => some (D.str (wordK f i.toNat)) | _ => none) = (l.map (wordK f)).map D.str := fun l => by
        induction l with
        | nil => rfl
        | cons i l ih =>
          simp only [List.map_cons, List.filterMap_cons, ih]
          rw [show (0 + (i : Int)).toNat = i by omega]
      unfold rangeD
      rw [Int.toNat_natCast]
      exact this _
    rw [e]
    show gn_T4 _ _ _ _ M
    simp only [gn_T4, gn_R4, qLc, qiAny, res_lst, qSeq, qAsg, qTup, qCons, qNil, qOp, qUn, qC, qCall, qVar, qLst, newL_f, qIfS, qTB, qNext, qRet, qDrop, qFor, qCB, qAug, qSl, qPart, qNoPart, gNameD, gSub_eq, dInt_i, dInt0_i, dAdd_i, dCmpI_i, List.set_cons_zero, List.set_cons_succ, List.getElem?_cons_zero, List.getElem?_cons_succ, List.append_nil, z_l0, z_l1, z_l2, z_l3, z_l4, z_l5, z_l6, z_l7, z_l8, z_l9, z_l19, z_l24, z_l25, true_and]
    intro c2 hc2
    refine compL_map hc2 (fun d => match d with | .str w => some (.str (amidS st s w)) | _ => none) (fun _ => trivial) (by simp; omega) (fun d hd acc R hR => ?_) ?_
    · obtain ⟨w, hw, rfl⟩ := List.mem_map.mp hd
      obtain ⟨i, hi, rfl⟩ := List.mem_map.mp hw
      simp only [wipeD, gNameD, qYes, if_true, qSeq, qAsg, qTup, qCons, qNil, qOp, qUn, qC, qCall, qVar, qLst, newL_f, qIfS, qTB, qNext, qRet, qDrop, qFor, qCB, qAug, qSl, qPart, qNoPart, gNameD, gSub_eq, dInt_i, dInt0_i, dAdd_i, dCmpI_i, List.set_cons_zero, List.set_cons_succ, List.getElem?_cons_zero, List.getElem?_cons_succ, List.append_nil, z_l0, z_l1, z_l2, z_l3, z_l4, z_l5, z_l6, z_l7, z_l8, z_l9, z_l19, z_l24, z_l25, true_and]
      have w0 : (wordK f i).length ≤ 2 := by
        show (wordK f i).cps.size ≤ 2
        rw [← Array.length_toList, wordK_list]; split <;> simp
      have c1 : (cutS st none (some (s : Int))).length ≤ st.length := cutS_length ..
      have c2 : (cutS st (some (s : Int)) none).length ≤ st.length := cutS_length ..
      simp only [dSl, res_str, z_add_str]
      refine ⟨by omega, ?_⟩
      exact ⟨by rw [len_append]; omega, hR⟩
    · simp only [Bool.false_eq_true, if_false]
      have e2 : (((List.range m).map (wordK f)).map D.str).filterMap (fun d => match d with | .str w => some (D.str (amidS st s w)) | _ => none) = (((List.range m).map (wordK f)).map (amidS st s)).map D.str := by
        induction (List.range m).map (wordK f) with
        | nil => rfl
        | cons w ws ih => simp only [List.map_cons, List.filterMap_cons, ih]
      rw [e2]
      refine k _ (by simp) ?_ fun z hz => ?_
      · rw [List.map_map]
        refine nd_map_on List.nodup_range fun i hi j hj e => ?_
        rw [List.mem_range] at hi hj
        exact wordK_inj (by omega) (by omega) (amid_inj hs e)
      · obtain ⟨w, hw, rfl⟩ := List.mem_map.mp hz
        obtain ⟨i, hi, rfl⟩ := List.mem_map.mp hw
        have w0 : (wordK f i).length = (wordK f i).cps.toList.length := Array.length_toList.symm
        rw [wordK_list] at w0
        have w1 : 1 ≤ (wordK f i).length ∧ (wordK f i).length ≤ 2 := by rw [w0]; split <;> simp
        have l1 := amid_len (w := wordK f i) hs
        refine nameS_of (by omega) (by omega) fun c hc => ?_
        rw [amid_list hs, List.mem_append, List.mem_append, wordK_list] at hc
        rcases hc with (hc | hc) | hc
        · exact T c (List.mem_of_mem_take hc)
        · rcases List.mem_cons.mp hc with rfl | hc
          · exact ⟨by omega, by omega⟩
          · split at hc
            · rw [List.mem_singleton] at hc
              rw [hc]; exact ⟨by omega, by omega⟩
            · cases hc
        · exact T c (List.mem_of_mem_drop hc)
end DL
set_option maxHeartbeats 1000000
namespace DL
open PySem PySem.Spec PyProof.Rows L2
end DL
set_option maxHeartbeats 1000000
namespace DL
open PySem PySem.Spec PyProof.Rows L2
end DL
set_option maxHeartbeats 1000000
namespace DL
open PySem PySem.Spec PyProof.Rows L2
end DL
namespace DL
open PySem PySem.Spec PyProof.Rows L2
/-- the code object of a def, its table -/
structure LamC (K : PySem.W.Frag) (fd : FuncData) where
  c : Addr
  P : Addr
  hc : fd.code = .ref c
  hk : PySem.W.codeHdIn K c P = true
  nP : K.lookup P = none
section
variable {P : Program} {w : World} {K : PySem.W.Frag} {mg : Str → Option Value} {base : Heap}
/-- as fn_ok, the code object told -/
theorem fn_okc {x qual : Str} {st : Stmt} {f : Addr} {fd : FuncData} {N ps : List Str} {k : Nat} {p : DSp} (F : Fun K x qual st f fd) (S : FnScope N ps (defScope st)) (len : ∀ ds M Q E, p ds M Q E → ds.length = ps.length)
    (hbody : ∀ (A : Around) (outer : List Env) (s : Shared) (H : Hp) (E : XK), Room k (A.deeper (PyProof.Rows.envOfC qual (defScope st) s.heap.objs.size f fd.code)) →
      Takes (cxOf (L2.CX P w) P w K mg base N qual (defScope st) f fd.code A outer s H E) (fun cls d _ H => E cls d H) →
      PassesOwn (model P w) (cxOf (L2.CX P w) P w K mg base N qual (defScope st) f fd.code A outer s H E).A (cxOf (L2.CX P w) P w K mg base N qual (defScope st) f fd.code A outer s H E).env (cxOf (L2.CX P w) P w K mg base N qual (defScope st) f fd.code A outer s H E).xe →
      ∃ t q, QSs (cxOf (L2.CX P w) P w K mg base N qual (defScope st) f fd.code A outer s H E) (fun cls d _ H => E cls d H) (defBody st) t q ∧
        ∀ ds M Q Ed, p ds M Q Ed → q (fun x _ M => Ed x M) { nx := fun _ M => Q .non M, rt := Q } (startD N ds) M) : FnOk P w K mg base (L2.CX P w) (k + 1) f fd ps (toSp K p) := by
  obtain ⟨oc, od, kV, doc, pm, an, cdv, ct, osl, rfl, lk, hcd⟩ := F.ex
  refine fn_of lk hcd S (fun vs H Q E h => ?_) fun A outer s H vs Q E hr h => ?_
  · obtain ⟨G, ds, M, Qd, Ed, _, r, _, hp, _⟩ := h
    exact r.length.trans (len _ _ _ _ hp)
  · obtain ⟨G, ds, M, Qd, Ed, e, r, hm, hp, kq, ke⟩ := h
    obtain ⟨t, q, hq, hs⟩ := hbody A outer s H E hr (takes_of rfl rfl rfl rfl) (passes_of rfl)
    exact ⟨t, hq.pe, hq.rf (fun x _ M => Ed x M) G H (startD N ds) M (L2.start N vs) _ _ (fun G' H' p' M' s' x cls dx e1 S1 r1 h1 => ke G' H' x cls dx M' e1 S1.same r1 S1.mem h1) (start_sim e r hm) (hs ds M Qd Ed hp)
      ⟨fun G' H' p' M' s' e1 S1 h1 => kq G' H' .non .non M' e1 S1.same rfl S1.mem h1, fun G' H' p' M' s' d v e1 S1 r1 h1 => kq G' H' v d M' e1 S1.same r1 S1.mem h1, fun _ _ _ _ _ _ _ h => h.elim, fun _ _ _ _ _ _ _ h => h.elim⟩⟩
end
structure LFactM (K : PySem.W.Frag) (ts : List Addr) (e : LRec) : Prop where
  hk : PySem.W.codeHdIn K e.c e.P = true
  hP : e.P ∈ ts
  nP : K.lookup e.P = none
theorem LamC.fact {K : PySem.W.Frag} {fd : FuncData} (T : LamC K fd) {ts : List Addr} (h : T.P ∈ ts) (x : Str) (f : Addr) (q : Str) : LFactM K ts ⟨x, f, fd, T.c, T.P, q⟩ := ⟨T.hk, h, T.nP⟩
theorem walkM {l : PySem.W.OpenLaw} {q : Program} {loose : List Str} {XP : (Str → Option Value) → Heap → Prop} {YP : World → Heap → Prop} {d : DefRec} {K : Params → PySem.W.Frag} {k : Nat} {ts : List Addr} (hk : k ≤ 200) (hn : l.most = some 63) (hdf : d.params.defaults = [])
    (hY : ∀ (w : World) (h : Heap), YP w h → (K w.params).In h) (hts : ∀ (w : World) (h : Heap), YP w h → ∀ P ∈ ts, h.get? P = some (PySem.W.tabObj #[]))
    (F : ∀ (w : World) (mg : Str → Option Value) (fa : Addr) (h : Heap), (K w.params).In h → h.Ns mainGlobals mg → mg d.name = some (.ref fa) →
      ∃ (fd : FuncData) (cs : List LRec), (∀ e ∈ cs, LFact (K w.params) mg q e ∨ LFactM (K w.params) ts e) ∧ (∀ (s : Shared) (u : Value), BindsTo s fd ⟨[u], []⟩ [("_law_script", u)]) ∧ ∀ base : Heap, (K w.params).In base → base.Ns mainGlobals mg → (∀ e ∈ cs, LamX.TabB base mg e.c e.P) →
        FnOk l.prog w (K w.params) mg base (L2.CX l.prog w) k fa fd ["_law_script"] (toSp (K w.params) (spLawT (cs.map fun e => (e.P, e.q))))) :
    PySem.W.WalkO q loose XP YP l.row.toRowW d [] (fun f vs => PySem.call f vs) := by
  refine Att.attach_callB hn hdf fun w s₀ s₁ mg mb fa o pm cd doc a vs ns G Y ho hd hcd hmg hobj hints hlen hbits hg => ?_
  have KX := hY w _ Y
  have TX := hts w _ Y
  obtain ⟨fd, cs, hf, hb, hF⟩ := F w mg fa _ KX G.T.g hmg
  have tab : ∀ e ∈ cs, s₁.heap.get? e.P = some { cls := .none, data := .fields #[] } ∧ (K w.params).lookup e.P = none ∧ PySem.W.CodeHd s₁.heap e.c e.P := fun e he => by
    rcases hf e he with L | L
    · obtain ⟨dL, hm, hx⟩ := List.any_eq_true.mp L.r
      obtain ⟨a', o', fd', c', P', h1, h2, h3, h4, h5, h6⟩ := G.T.tab dL hm
      rw [eq_of_beq hx, L.g] at h1
      cases h1
      obtain ⟨oo, l1, l2⟩ := L.l
      rw [KX _ _ l1] at h2
      cases h2
      rw [l2] at h3
      cases h3
      rw [L.k] at h4
      cases h4
      obtain ⟨v, dd, vz, sl, k1, k2⟩ := L.lc
      obtain ⟨oc, vc, e1, _, e3, e4⟩ := h6.1
      rw [KX _ _ k1] at e1
      cases e1
      cases e3
      rw [k2] at e4
      cases e4
      exact ⟨h6.2, L.nP, PySem.W.CodeHd.of h5 h6⟩
    · exact ⟨TX _ L.hP, L.nP, PySem.W.codeHd_of_K KX L.hk⟩
  have mem : ∀ p ∈ cs.map (fun e => (e.c, e.P)), ∃ e ∈ cs, p = (e.c, e.P) := fun p hp => by
    obtain ⟨e, he, z⟩ := List.mem_map.mp hp
    exact ⟨e, he, z.symm⟩
  refine LamX.law_callTs (cs := cs.map fun e => (e.c, e.P)) KX G.T.g G.T.b G.T.builtins G.T.nolimit hg (fun p hp => ?_) (fun p hp => ?_) (fun p hp => ?_) G.T.bmain hobj hints (Nat.le_trans hlen (by decide))
    ⟨rfl, by show 1 + 300 + 3 * k + 5 < 1000; omega, by show 4 + 16 * k + 200 < 9900; omega⟩ (fun base h1 h2 h3 => hF base h1 h2 fun e he => h3 (e.c, e.P) (List.mem_map.mpr ⟨e, he, rfl⟩)) hb (fun H hH hS => ?_) (fun H e s' z => ?_)
  · obtain ⟨e, he, rfl⟩ := mem p hp
    exact (tab e he).1
  · obtain ⟨e, he, rfl⟩ := mem p hp
    exact (tab e he).2.1
  · obtain ⟨e, he, rfl⟩ := mem p hp
    exact (tab e he).2.2
  · refine ⟨noT H, [.scr ns], TM (cs.map fun e => (e.P, e.q)), fun d _ => d = .bl true, fun _ _ => False, noT_same H, RepL.cons ⟨a, rfl, noT_l hS, hlen⟩ rfl, fun b mo hb' => ?_, ⟨ns, rfl, hlen, rfl, fun _ => rfl⟩, fun G' H' v d M' _ _ r _ e => (by subst e; exact r), fun _ _ _ _ _ _ _ _ _ _ h => h.elim⟩
    unfold TM at hb'
    obtain ⟨z, hz, rfl⟩ := Option.map_eq_some_iff.mp hb'
    obtain ⟨e, he, ez⟩ := List.mem_map.mp (tabs_mem hz)
    cases ez
    have hP := hH (e.c, e.P) (List.mem_map.mpr ⟨e, he, rfl⟩)
    refine ⟨by unfold noT; rw [hP], noT_ne H, #[], hP, True.intro, fun pos cv hc => ?_⟩
    have z : codeAmong pos [] = some cv := hc
    simp [codeAmong] at z
  · obtain ⟨a, B, H', cls, d, _, _, _, _, _, _, _, h⟩ := z
    exact h
end DL
set_option maxHeartbeats 2000000
namespace L2
open PySem PySem.Spec PyProof.Rows PySem.Calls PySem.W
end L2
namespace DL
open PySem PySem.Spec PyProof.Rows L2
end DL
set_option maxHeartbeats 4000000
namespace L2H
open PySem PySem.Spec PyProof.Rows L2 HotX DL
/-- a def by its body, while an exception is handled -/
theorem _root_.L2.Fun.okXH {P : Program} {w : World} {K : PySem.W.Frag} {mg : Str → Option Value} {base : Heap} {CX : CXT} {x qual : Str} {st : Stmt} {f : Addr} {fd : FuncData} {N ps : List Str} {k : Nat} {sp : Sp} (F : L2.Fun K x qual st f fd) (S : FnScope N ps (defScope st)) (len : ∀ vs H Q E, sp vs H Q E → vs.length = ps.length)
    (hbody : ∀ (cdv : Value) (A : Around) (outer : List Env) (s : Shared) (H : Hp) (vs : List V) (Q : VK) (E : XK) (p : Addr × Obj), RoomH k (A.deeper (envOfC qual (defScope st) s.heap.objs.size f cdv)) → sp vs H Q E →
      ∃ t, PSs (cxH CX P w K mg base N qual (defScope st) f cdv A outer s H E p) (defBody st) t ∧ t { nx := fun _ H' => Q .non H', rt := Q } (L2.start N vs) H) : FnH P w K mg base CX (k + 1) f fd ps sp := by
  obtain ⟨oc, od, kV, doc, pm, an, cdv, ct, osl, rfl, lk, hcd⟩ := F.ex
  refine fn_ofH lk hcd S len fun A outer s H vs Q E p hot hr hsp => ?_
  exact hbody cdv A outer s H vs Q E p hr hsp
section
variable {X : Cx} {W : WX} {o i : Expr} {td ty : TE} {pos : Pos}
theorem pe_dgetXN (hc : X.calm = true) (hu : X.A.units + 1 < cLine) (tk : L2N.Takes X W) (ho : PE X o td) (hi : PE X i ty) (hs : NoSl i) : PE X (.Subscript o i pos) (tDGetX W td ty) := by
  refine ⟨fun pins s σ H Q I h => ?_⟩
  refine subD_of PySem.F.slot_dict_getitem.lookup hs (thn (ho.run pins s σ H _ I h) fun u s1 ⟨x, H1, I1, rx, q1⟩ => thn (hi.run pins s1 σ H1 _ I1 q1) fun iv s2 ⟨y, H2, I2, ry, a, ov, ex, g, qs, qn⟩ => ?_)
  subst ex
  obtain rfl : u = Value.ref a := rx
  refine ⟨dict_typeIs I2 g, ?_⟩
  cases ov with
  | some v => exact d_getItem hu I2 g ry fun w' s3 I3 rw' => ⟨v, H2, I3, rw', qs v rfl⟩
  | none => exact d_missing hu (I2.ok.hd hc) I2 g ry fun h' e t' ne => L2N.takes_newN (t' := t') tk I2 ne (qn rfl)
end
/-- C(e, ..) of an own class over any built-in one, while an exception is handled -/
theorem pmk5_xbH {X : Cx} {CX : CXT} {x : Str} {e : Expr} {es : List Expr} {ta : TA} {p pos : Pos} {C fI : Addr} {k : Nat} {fd : FuncData} {ps : List Str} {sp : Sp} {B n ini : String} {tl : List Value} (F : BaseX B n ini tl) (T : XB X.K C n tl) (iC : PySem.W.findIn X.K (.ref C) "__init__" = some (some (.ref fI))) (tI : PySem.W.typeIn X.K (.ref fI) = some (.type "function"))
    (F1 : FnH X.prog X.w X.K X.mg X.base CX k fI fd ps sp) (hr : RoomH (k + 1) X.A) (hc : HotC X) (hb : Binds X.K fd ps []) (hx : Passes CX X (fun _ _ _ => False)) (hg : Gl X x) (hm : X.mg x = some (.ref C)) (ha : PA X (e :: es) ta)
    (hdb : (x == ("__debug__" : Str)) = false := by decide) (he : starEach (e :: es) X.env = (false, eval e X.env) :: starEach es X.env := by rfl) (hpl : (backTo pos (starEach es X.env)).any (·.1) = false := by rfl) :
    PMk5 X (.Call (.Name x p) (e :: es) [] pos) (tMkO C sp [] ta) := by
  intro pins s σ H Q I h
  obtain ⟨nm, q, N, bs, bm, sn, sub, ab, col, dd, k0, k1, k2, k3, k5, hC, hbm⟩ := T.cls
  obtain ⟨pn, hot, hpn⟩ := hc
  refine wpAny_Call_Name_kw (ld_glob I hg hm ?_ hdb)
  refine PySem.W.callWith_K (h₀ := X.base) I.ok.mod.kin T.kC (thn (ha.run pos pins s σ H _ I h) fun us s1 ⟨vs, H1, I1, r1, hz, q1⟩ => ⟨I1.kIn, ?_⟩) he hpl
  show wpAny _ _ (call (.ref C) us) _ _ _
  obtain ⟨hp, g, dr, tk, os⟩ := s1
  have hsz : hp.objs.size ≤ hp.objs.size + 1 := Nat.le_succ _
  have hn : H1 (hp.objs.size + 1) = none := I1.hok.fresh hsz
  have hq := q1 (hp.objs.size + 1) hn
  rw [List.append_nil] at hq
  have kk : ∀ b o, hp.get? b = some o → ((hp.push (PySem.W.kdv_tup us)).push (PySem.HandSPX.excO C hp.objs.size)).get? b = some o := fun b o e => Heap.get?_push_of_some _ (Heap.get?_push_of_some _ e)
  have hget : ((hp.push (PySem.W.kdv_tup us)).push (PySem.HandSPX.excO C hp.objs.size)).get? (hp.objs.size + 1) = some (PySem.HandSPX.excO C hp.objs.size) := by heap_get
  have I2 : Inv X pins σ (upd H1 (hp.objs.size + 1) (exo (hp.objs.size + 1) C none)) ⟨(hp.push (PySem.W.kdv_tup us)).push (PySem.HandSPX.excO C hp.objs.size), g, dr, tk, os⟩ :=
    I1.laid (t' := tk) (a := hp.objs.size + 1) (o := exo (hp.objs.size + 1) C none) (h' := (hp.push (PySem.W.kdv_tup us)).push (PySem.HandSPX.excO C hp.objs.size)) kk hsz (exo_ok hget)
  have r2 : Vals (V.ref (hp.objs.size + 1) :: vs) (Value.ref (hp.objs.size + 1) :: us) := .cons rfl r1
  have hl : (Value.ref (hp.objs.size + 1) :: us ++ []).length = ps.length := by
    have e := r2.length
    rw [F1.len _ _ _ _ hq] at e
    rw [List.append_nil]
    exact e.symm
  have hus : us.length ≤ sizeLine := by
    rw [← Paired.length r1, sizeLine_eq]
    omega
  have b2 := hb _ (Value.ref (hp.objs.size + 1) :: us) I2.kIn hl
  rw [List.append_nil] at b2
  have P1 := I2.pin pn (List.mem_append_left _ hpn)
  have hpin : PinOk X.stack (upd H1 (hp.objs.size + 1) (exo (hp.objs.size + 1) C none)) ⟨(hp.push (PySem.W.kdv_tup us)).push (PySem.HandSPX.excO C hp.objs.size), g, dr, tk, os⟩ pn :=
    ⟨P1.1, P1.2.1, fun hmm => (List.mem_cons.mp (I2.stkSub pn.1 hmm)).elim P1.2.2.1 P1.2.2.2.1, P1.2.2.2.2⟩
  refine wpAny_call (F.cal (fun Y => PySem.W.excTail_contains Y bm hbm) (I1.kIn _ _ hC) (PySem.W.looks_findIn I1.kIn iC) (fun self => PySem.W.bind_fn I1.kIn self tI) hus
    (codeAny_mono (F1.run _ X.stack _ _ ⟨Value.ref (hp.objs.size + 1) :: us, []⟩ (Value.ref (hp.objs.size + 1) :: us) _ _ (fun _ _ _ => False) pn (hr.make C us []) ⟨hot.1, hot.2⟩ hpin (I2.env0.make C us []) b2 r2 hq) fun r s' hq' => ?_))
  cases r with
  | error er => exact hx pins σ _ _ er s' I2 hq'
  | ok fl =>
    cases fl with
    | ret u =>
      obtain ⟨v, H2, os2, bare2, un2, hok2, rv, ev, d, fs, ea, ed, hd1, q2⟩ := hq'
      subst ev
      obtain ⟨h2, g2, d2, t2, os'⟩ := s'
      obtain ⟨t0, G, J, kG, ge, hoe, na⟩ := mk_end0 (d2 := d2) (t2 := t2) I1 hsz kk un2 hok2 os2 bare2 ea ed hd1
      refine ⟨rv, ⟨hp.objs.size + 1, _, _, ⟨G, g2, d2, t2, os'⟩, _, .ref C, some d, rfl, J, kG, ge, hoe, ⟨rfl, rfl, fun vs hv => ?_⟩, rfl, rfl, na, rfl, bare2, raises_own T.exC T.tyC, q2⟩, fun a oe vs ea2 hg2 hd2 => ?_⟩
      · cases hv
        rfl
      · cases ea2
        have hg3 : h2.get? (hp.objs.size + 1) = some oe := hg2
        rw [hoe] at hg3
        cases hg3
        cases hd2
        show (4 : Nat) < 6
        decide
    | next => exact False.elim hq'
    | brk => exact False.elim hq'
    | cont => exact False.elim hq'
end L2H
namespace DL
open PySem PySem.Spec PyProof.Rows L2 HotX L2H
/-- try: return d[k] except KeyError: raise C(y) from None -/
def qTryKey (C : Addr) (f : Str) (qd qk qa : DTE) : DTS := fun DW DE p M => qd DW0 p M fun d M1 => qk DW0 p M1 fun k M2 => match dgetD M2 d k with
  | some (some v) => DE.rt v M2
  | some none => qa DW0 p M2 fun y M3 => DW ⟨.ref C, [(f, y)]⟩ p M3
  | none => False
section
variable {X : Cx} {Wout : WX} {d k arg : Expr} {qd qk qa : DTE} {C fI : Addr} {fd : FuncData} {x : Str} {B n ini : String} {tl : List Value} {ps : List Str} {kk : Nat} {f : Str} {np pd pr p3 pos pos3 pos4 pos' cpos : Pos} {j : Nat}
theorem qs_tryKey (F : BaseX B n ini tl) (T : XAtP X.K X.mg x B n ini tl ps C fI fd) (F1 : FnH X.prog X.w X.K X.mg X.base (L2.CX X.prog X.w) kk fI fd ps (spX1 C f)) (hr : Room (kk + 1) X.A) (tk : L2.Takes X Wout) (hc : X.calm = true) (hu : X.A.units + 1 < cLine) (hm : X.mg "KeyError" = none)
    (hd : ∀ (W : WX) (pn : List (Addr × Obj)) (xe : Value → Shared → Prop), ∃ t, QE (X.tr pn xe) W d t qd) (hk : ∀ (W : WX) (pn : List (Addr × Obj)) (xe : Value → Shared → Prop), ∃ t, QE (X.tr pn xe) W k t qk)
    (ha : ∀ (a : Addr) (pn : List (Addr × Obj)), ∃ t, QE (suiteX X a pn) W0 arg t qa)
    (hs : X.stack = X.env :: X.outer := by rfl) (hf : X.env.frame = some X.env.locals := by rfl) (hg : Gl X x := by rfl) (hgK : Gl X "KeyError" := by rfl) (hdb : (x == ("__debug__" : Str)) = false := by decide) (hns : NoSl k := by exact fun _ _ => rfl)
    (hpa : ∀ hd : Option Value, PassesOwnAt (model X.prog X.w) (X.A.mark hd) X.A X.env X.xe := by exact fun hd => L2H.passesAt_of rfl hd)
    (he : starEach [arg] X.env = [(false, eval arg X.env)] := by rfl) :
    QS X Wout (.Try [.Return (some (.Subscript d k pd)) pr] [.ExceptHandler (some (.Name "KeyError" np)) none [.Raise (some (.Call (.Name x p3) [arg] [] pos3)) (some (.Constant .none j cpos)) pos4] pos'] [] [] pos)
      (fun D σ H => tRet (tDGetX (wOnly X.K (.type "KeyError") (fun _ _ _ _ σ H => tMkO C (spX1 C f) [] (tCons (canE X.K W0 qa) tNil) σ H fun cls d H' => Wout cls d σ H') Wout D) (canE X.K W0 qd) (canE X.K W0 qk)) D σ H) (qTryKey C f qd qk qa) := by
  refine ⟨ps_try_onlyX (tb := fun W => tRet (tDGetX W (canE X.K W0 qd) (canE X.K W0 qk))) (ts := fun _ _ _ _ σ H => tMkO C (spX1 C f) [] (tCons (canE X.K W0 qa) tNil) σ H fun cls d H' => Wout cls d σ H') hs hf ⟨hgK, by decide, .inr ⟨hm, PyProof.Rows.Boot.«KeyError», by decide⟩⟩ hpa tk
    (fun W pn xe tk1 tk2 hp => pss_one (ps_ret (pe_dgetXN hc hu tk1 (QE.canX (hd W0 pn xe)) (QE.canX (hk W0 pn xe)) hns)))
    (fun a oe cls d pn hz hd tkS hot => pss_one (ps_raiseHN hot tkS (pmk5_xbH F T.T T.iC T.tI F1 (roomH_mark hr _) hot T.b (passes_call tkS fun _ _ _ _ z => z.elim) hg T.g (pa_cons (QE.canX (ha a _)) pa_nil he) hdb he (by rfl)))), fun DW G H p M s DE E hw S hq k0 => ?_⟩
  have nw : ∀ {G' : Hp}, WLink X.K G' DW0 W0 := fun _ _ _ _ _ _ _ _ _ _ _ w => w.elim
  refine (QE.can (hd W0 [] fun _ _ => False)).rf DW0 G H p M s _ _ nw S hq fun G1 H1 M1 y1 v1 e1 S1 r1 h1 => ?_
  refine (QE.can (hk W0 [] fun _ _ => False)).rf DW0 G1 H1 p M1 s _ _ nw S1 h1 fun G2 H2 M2 y2 v2 e2 S2 r2 h2 => ?_
  split at h2
  · next v e =>
    obtain ⟨a, o, rfl, g, q⟩ := dgetD_of S2 (Rep.mono e2 _ _ r1) r2 e
    rcases q with ⟨q, _⟩ | ⟨d', w, q, rfl, r⟩
    · cases q
    · cases q
      exact ⟨a, some w, rfl, g, (fun u eu => by cases eu; exact k0.rt G2 H2 p M2 s _ _ (e1.trans e2) S2 r h2), (fun z => nomatch z)⟩
  · next e =>
    obtain ⟨a, o, rfl, g, q⟩ := dgetD_of S2 (Rep.mono e2 _ _ r1) r2 e
    rcases q with ⟨_, rfl⟩ | ⟨d', w, q, _⟩
    · refine ⟨a, none, rfl, g, (fun u eu => nomatch eu), fun _ d0 => ⟨true, L2.exm_KE, fun _ a0 na => ?_, (fun z => nomatch z)⟩⟩
      refine (QE.can (ha a0 [])).rf DW0 G2 H2 p M2 s _ _ nw S2 h2 fun G3 H3 M3 y v3 e3 S3 r3 h3 => ?_
      refine ⟨by simp, fun a ea => ⟨a, v3, rfl, upd_same, fun dx h2 h3' => ⟨rfl, dx, [(f, v3)], upd_same, by rw [upd_ne h3', upd_same], by rw [upd_ne h3'] at h2; exact h2, ?_⟩⟩⟩
      rw [upd_del ea]
      rw [upd_ne h3'] at h2
      obtain ⟨e4, S4⟩ := S3.made (o := .xd [(f, v3)]) h2
      exact hw _ _ p M3 s ⟨.ref C, [(f, y)]⟩ _ _ (((e1.trans e2).trans e3).trans e4) S4 ⟨rfl, .inr ⟨dx, [(f, v3)], rfl, upd_same, rfl, RepL.mono e4 _ _ (RepL.cons r3 RepL.nil)⟩⟩ h3
    · cases q
  · exact h2.elim
end
end DL
set_option maxHeartbeats 1000000
namespace DL
open PySem PySem.Spec PyProof.Rows L2
/-- lambda a: (cap[a], a) -/
def keyCB (a cap : Str) (p1 p2 p3 p4 pos : Pos) (x1 : Nat) : Expr := .Tuple [.Subscript (.Name cap p1) (.Name a p2) p3, .Name a p4] x1 pos
structure KeyC (q : Str) (params : Arguments) (body : Expr) (scope : Scope) (cap : Str) : Prop where
  ex : ∃ (a : Str) (p1 p2 p3 p4 pos : Pos) (x1 : Nat), body = keyCB a cap p1 p2 p3 p4 pos x1 ∧ scope.kind = .function ∧ scope.isCoroutine = false ∧ scope.isGenerator = false ∧ (∀ y ∈ scope.names, y.2 ≠ .cell ∧ (y.2 = .free → y.1 = cap)) ∧ scope.names.lookup a = some .local ∧ scope.names.lookup cap = some .free ∧
    (a == ("__debug__" : Str)) = false ∧ (cap == ("__debug__" : Str)) = false ∧ (cap == ("__classdict__" : Str)) = false ∧
    ∀ (clo : List (Str × Addr)) (pm cv ctv u : Value), bindArgs (PySem.W.kla_fn "<lambda>" q params body scope clo pm cv ctv) ⟨[u], []⟩ = pure [(a, u)]
/-- what a call of the key leaves: a new tuple of the number and the text -/
def KeyGives (n : Int) (z : Str) (s₁ : Shared) (v : Value) (s₂ : Shared) : Prop := ∃ h' tk b t1 t2 c, s₂ = { s₁ with heap := h', toks := tk } ∧ (∀ b o, s₁.heap.get? b = some o → h'.get? b = some o) ∧ v = .ref b ∧ s₁.heap.get? b = none ∧ h'.get? b = some { cls := .type "tuple", dict := none, data := .seq #[.int n t1, .str z t2] c, slots := #[] } ∧ s₁.toks ≤ tk
section
variable {X : Cx} {pins : List (Addr × Obj)} {σ : L2.St} {H : Hp} {s : Shared}
theorem keyC_call {A : Around} (I : Inv X pins σ H s) (hA : A.depth < recursionLimit) {f c cc d : Addr} {pm ctv : Value} {q cap : Str} {params : Arguments} {body : Expr} {scope : Scope} {clo : List (Str × Addr)} (KS : KeyC q params body scope cap) (hclo : clo.lookup cap = some cc)
    (hf : s.heap.get? f = some (PySem.W.kla_obj "<lambda>" q params body scope clo pm c ctv)) (hc : H c = some (LamX.CodeO c q)) (hcell : s.heap.IsCell cc (some (.ref d))) {kvs : List (Key × V)} (hd : Rd H d (.dK kvs)) {z : Str} {n : Int} {t0 : Tok} (hz : valV kvs (.inr z) = some (V.int n))
    {h : Heap} {tk : Nat} (hk : ∀ b o, s.heap.get? b = some o → h.get? b = some o) :
    wpAny (model X.prog X.w) A (call (.ref f) [.str z t0]) (KeyGives n z { s with heap := h, toks := tk }) (fun _ _ => False) { s with heap := h, toks := tk } := by
  obtain ⟨a, p1, p2, p3, p4, pos, x1, rfl, kd, co, gn, nc, la, lc, hdb, hdc, hcd, hbind⟩ := KS.ex
  have I0 : Inv X pins σ H { s with heap := h, toks := tk } := I.kept hk
  obtain ⟨⟨oc, vs, t, hoc, hdc', hvc⟩, _, _⟩ := I0.hok c _ hc
  have gf := hk _ _ hf
  have rc : codeAny (model X.prog X.w) A (.call (.ref f) ⟨[.str z t0], []⟩) (fun r s' => ∃ v, r = .ok (.ret v) ∧ KeyGives n z { s with heap := h, toks := tk } v s') { s with heap := h, toks := tk } := by
    refine PySem.W.kla_callFunE hA gf rfl co gn rfl ⟨c, oc, vs, t, rfl, hoc, hdc', hvc⟩ ?_
    rw [hbind]
    refine wpAny_pure (wpAny_newFunctionEnv (fun y hy => (nc y hy).1) (fun y hy => ?_) (fun h₁ hns hsb => ⟨I0.nolimit.fresh _ hsb, ?_⟩) kd)
    · have hy : y ∈ [(a, Value.str z t0)] := hy
      rw [List.mem_singleton] at hy
      rw [hy]; exact la
    · have kp : ∀ b o, h.get? b = some o → h₁.get? b = some o := fun b o e => hsb.extBut b o (Nat.ne_of_lt (Heap.lt_size e)) (Heap.get?_push_of_some _ e)
      refine PySem.W.kla_codeExpr ?_
      have nm : ∀ {Q : Value → Shared → Prop} {E : Value → Shared → Prop} {tk2 : Nat} {p : Pos}, Q (.str z t0) { s with heap := h₁, toks := tk2 } → wpAny (model X.prog X.w) (A.deeper (PySem.W.envX q scope h.objs.size f (.ref c) clo)) (eval (.Name a p) (PySem.W.envX q scope h.objs.size f (.ref c) clo)) Q E { s with heap := h₁, toks := tk2 } := fun {Q E tk2 p} hq => by
        refine wpAny_Name (wpAny_loadName_local kd la (m := fun x => [(a, Value.str z t0)].reverse.lookup x) hns (by simp) hq) hdb
      have nf : ∀ {Q : Value → Shared → Prop} {E : Value → Shared → Prop} {tk2 : Nat} {p : Pos}, Q (.ref d) { s with heap := h₁, toks := tk2 } → wpAny (model X.prog X.w) (A.deeper (PySem.W.envX q scope h.objs.size f (.ref c) clo)) (eval (.Name cap p) (PySem.W.envX q scope h.objs.size f (.ref c) clo)) Q E { s with heap := h₁, toks := tk2 } := fun {Q E tk2 p} hq => by
        obtain ⟨o, ho, hd2⟩ := hcell
        exact wpAny_Name (wpAny_loadName_free kd lc hclo ⟨o, kp _ _ (hk _ _ ho), hd2⟩ hq hcd) hdc
      refine wpAny_Tuple_spliced ?_
      show wpAny _ _ (spliced ((false, eval (.Subscript (.Name cap p1) (.Name a p2) p3) (PySem.W.envX q scope h.objs.size f (.ref c) clo)) :: (false, eval (.Name a p4) (PySem.W.envX q scope h.objs.size f (.ref c) clo)) :: [])) _ _ _
      refine Calls.spliced_cons (subD_of PySem.F.slot_dict_getitem.lookup (fun _ _ => rfl) (nf (nm ?_)))
      have I1 : ∀ t2, Inv X pins σ H { s with heap := h₁, toks := t2 } := fun t2 => I.kept (t' := t2) fun b o e => kp b o (hk b o e)
      obtain ⟨_, _, vs2, rel, dd⟩ := dk_rd (I1 0).hok hd
      obtain ⟨w', hw, t1, rfl⟩ := RelO.some_of (v := V.int n) (o := valueAt vs2 (.inr z)) (by rw [← hz]; exact rel.val (.inr z))
      refine ⟨dd.typeIs, wpAny_getItem_of (kV_is (k := .inr z) ⟨t0, rfl⟩) dd.mapOf hw ?_⟩
      refine Calls.spliced_cons (nm (Calls.spliced_nil ⟨by rw [sizeLine_eq]; simp, ⟨_, rfl, ?_⟩⟩))
      refine ⟨_, _, h₁.objs.size, t1, t0, _, rfl, fun b o e => Heap.get?_push_of_some _ (kp b o e), rfl, ?_, Heap.get?_push_size _ rfl, ?_⟩
      · cases e : h.get? h₁.objs.size with
        | none => rfl
        | some o => exact absurd (Heap.lt_size (kp _ _ e)) (Nat.lt_irrefl _)
      · dsimp only
        omega
  refine wpAny_call (codeAny_mono rc fun r s' z => ?_)
  obtain ⟨v, rfl, z⟩ := z
  exact z
end
def leK (x y : Int × Str) : Prop := x.1 < y.1 ∨ (x.1 = y.1 ∧ leS x.2 y.2)
theorem leS_total (a b : Str) : leS a b ∨ leS b a := by
  rw [leS_iff, leS_iff]
  rcases List.le_total a.cps.toList b.cps.toList with h | h
  · exact .inl h
  · exact .inr h
theorem leK_trans {x y z : Int × Str} (h : leK x y) (g : leK y z) : leK x z := by
  rcases h with h | ⟨h, h'⟩ <;> rcases g with g | ⟨g, g'⟩
  · exact .inl (by omega)
  · exact .inl (by omega)
  · exact .inl (by omega)
  · exact .inr ⟨by omega, leS_trans h' g'⟩
theorem leK_total (x y : Int × Str) : leK x y ∨ leK y x := by
  rcases Int.lt_trichotomy x.1 y.1 with h | h | h
  · exact .inl (.inl h)
  · rcases leS_total x.2 y.2 with g | g
    · exact .inl (.inr ⟨h, g⟩)
    · exact .inr (.inr ⟨h.symm, g⟩)
  · exact .inr (.inl h)
def kyPD (x : Int × Str) : PyData := .tuple [.int x.1, .str x.2]
theorem lt_keyC (x y : Int × Str) : PySem.W.dataLt (kyPD x) (kyPD y) = true ↔ ¬ leK y x := by
  have e : PySem.W.dataLt (kyPD x) (kyPD y) = lexLt itemOrd [.inl 1, .inl x.1, .inl 1, .inr x.2.cps.toList, .inl 0] [.inl 1, .inl y.1, .inl 1, .inr y.2.cps.toList, .inl 0] := rfl
  rw [e, lex_cons, lex_cons, lex_cons, lex_cons, lex_cons]
  have e2 : (decide ((1 : Int) < 1) || (!decide ((1 : Int) < 1) && (decide (x.1 < y.1) || (!decide (y.1 < x.1) && (decide ((1 : Int) < 1) || (!decide ((1 : Int) < 1) && (ltCps x.2.cps.toList y.2.cps.toList || (!ltCps y.2.cps.toList x.2.cps.toList && (decide ((0 : Int) < 0) || (!decide ((0 : Int) < 0) && false)))))))))) = true ↔ ¬ leK y x := by
    unfold leK leS
    simp only [Int.lt_irrefl, decide_false, Bool.false_or, Bool.not_false, Bool.true_and, Bool.and_false, Bool.or_false]
    by_cases h1 : x.1 < y.1
    · simp [h1, show ¬ y.1 < x.1 by omega, show ¬ y.1 = x.1 by omega]
    · by_cases h2 : y.1 < x.1
      · simp [h1, h2]
      · have : y.1 = x.1 := by omega
        simp [this]
  have e3 : ∀ a b : Str, itemOrd.blt (Sum.inr a.cps.toList) (Sum.inr b.cps.toList) = ltCps a.cps.toList b.cps.toList := fun a b => by
    show decide (a.cps.toList < b.cps.toList) = _
    rw [ltCps_eq]
  rw [e3, e3]
  exact e2
theorem best_le {bt : Nat → Nat → Bool} {key : Nat → Int × Str} (hb : ∀ i j, bt i j = true ↔ ¬ leK (key j) (key i)) : ∀ k, argBest bt k ≤ k ∧ ∀ j, j ≤ k → leK (key (argBest bt k)) (key j)
  | 0 => ⟨Nat.le_refl _, fun j hj => by
    have : j = 0 := by omega
    rw [this]
    exact (leK_total _ _).elim id id⟩
  | k + 1 => by
    obtain ⟨h1, h2⟩ := best_le hb k
    rw [argBest]
    by_cases h : bt (k + 1) (argBest bt k) = true
    · rw [if_pos h]
      have hn := (hb _ _).mp h
      have hl : leK (key (k + 1)) (key (argBest bt k)) := (leK_total _ _).resolve_right hn
      refine ⟨Nat.le_refl _, fun j hj => ?_⟩
      rcases Nat.lt_or_ge j (k + 1) with g | g
      · exact leK_trans hl (h2 j (by omega))
      · have : j = k + 1 := by omega
        rw [this]
        exact (leK_total _ _).elim id id
    · rw [if_neg h]
      refine ⟨by omega, fun j hj => ?_⟩
      rcases Nat.lt_or_ge j (k + 1) with g | g
      · exact h2 j (by omega)
      · have : j = k + 1 := by omega
        rw [this]
        exact Classical.byContradiction fun z => h ((hb _ _).mpr z)
def KJ (s s' : Shared) : Prop := ∃ h tk, s' = { s with heap := h, toks := tk } ∧ ∀ b o, s.heap.get? b = some o → h.get? b = some o
def KV_ (zs : List Str) (ns : Str → Int) (S I0 : Addr) (i : Nat) (k : Value) (s' : Shared) : Prop := ∃ b t1 t2 c z, zs[i]? = some z ∧ k = .ref b ∧ b ≠ S ∧ b ≠ I0 ∧ s'.heap.get? b = some { cls := .type "tuple", dict := none, data := .seq #[.int (ns z) t1, .str z t2] c, slots := #[] }
def kyAt (zs : List Str) (ns : Str → Int) (i : Nat) : Int × Str := (ns (zs.getD i Str.empty), zs.getD i Str.empty)
section
variable {X : Cx} {pins : List (Addr × Obj)} {σ : L2.St} {H : Hp} {s : Shared}
theorem kj_moved {s1 s2 : Shared} {wr : List Addr} (h : KJ s s1) (m : Moved wr (fun a b => b = a) s1 s2) (hw : ∀ b ∈ wr, s.heap.get? b = none) : KJ s s2 := by
  obtain ⟨h1, tk, rfl, k⟩ := h
  obtain ⟨m1, m2, m3, m4, m5⟩ := m
  obtain ⟨hp, g, d, t, os⟩ := s2
  dsimp only at m1 m2 m3 m4
  subst m2 m3 m4
  refine ⟨hp, t, rfl, fun b o e => m1 b o (fun hb => by rw [hw b hb] at e; cases e) (k b o e)⟩
theorem keyC_run {A : Around} (I : Inv X pins σ H s) (hA : A.depth < recursionLimit) (hu : A.units + 10 < cLine) {f c cc d : Addr} {pm ctv : Value} {q cap : Str} {params : Arguments} {body : Expr} {scope : Scope} {clo : List (Str × Addr)} (KS : KeyC q params body scope cap) (hclo : clo.lookup cap = some cc)
    (hf : s.heap.get? f = some (PySem.W.kla_obj "<lambda>" q params body scope clo pm c ctv)) (hc : H c = some (LamX.CodeO c q)) (hcell : s.heap.IsCell cc (some (.ref d))) {kvs : List (Key × V)} (hd : Rd H d (.dK kvs)) {zs : List Str} {ns : Str → Int} (hz : ∀ z ∈ zs, valV kvs (.inr z) = some (V.int (ns z)))
    {I0 S : Addr} (hI0 : s.heap.get? I0 = none) (hS0 : s.heap.get? S = none) {fp : List Addr} {P : Nat → Value → Prop} {St : Nat → Shared → Prop} (W : WalksS X.prog X.w A I0 fp [I0] (fun a b => b = a) zs.length P St) (hP : ∀ i v, P i v → ∃ z t, zs[i]? = some z ∧ v = .str z t) (hSt : ∀ i s', St i s' → ∃ o, s'.heap.get? I0 = some o) :
    KeyRun X.prog X.w A (.ref f) .Lt S [I0] (fun a b => b = a) zs.length P St (KJ s) (KV_ zs ns S I0) (fun i j => PySem.W.dataLt (kyPD (kyAt zs ns i)) (kyPD (kyAt zs ns j))) where
  keep := fun s1 s2 h m => kj_moved h m fun b hb => by
    simp only [List.mem_cons, List.not_mem_nil, or_false] at hb
    rcases hb with rfl | rfl
    · exact hS0
    · exact hI0
  keepV := fun i k s1 s2 ⟨b, t1, t2, c, z, e1, e2, n1, n2, e3⟩ m => ⟨b, t1, t2, c, z, e1, e2, n1, n2, m.heap b _ (by simp [n1, n2]) e3⟩
  turn := fun i v s1 o Q E hi hPv hJ hst hS hq => by
    obtain ⟨z, t, ez, rfl⟩ := hP i v hPv
    obtain ⟨h1, tk, rfl, k⟩ := hJ
    obtain ⟨oI, eI⟩ := hSt _ _ hst
    refine wpAny_mono (keyC_call (h := h1) (tk := tk) I hA KS hclo hf hc hcell hd (hz z (List.mem_of_getElem? ez)) k) (fun kv s2 hg => ?_) (fun _ _ z => z.elim)
    obtain ⟨h', tk', b, t1, t2, cc', rfl, k2, rfl, bn, bt, htk⟩ := hg
    dsimp only at k2 bn bt htk ⊢
    have nS : b ≠ S := fun e => by rw [e] at bn; rw [show h1.get? S = some o from hS] at bn; cases bn
    have nI : b ≠ I0 := fun e => by rw [e] at bn; rw [show h1.get? I0 = some oI from eI] at bn; cases bn
    exact hq _ _ ⟨h', tk', rfl, fun b o e => k2 b o (k b o e)⟩ (W.frame _ { s with heap := h1, toks := tk } _ _ hst htk fun b _ o e => k2 b o e) (k2 _ _ hS) ⟨b, t1, t2, cc', z, ez, rfl, nS, nI, bt⟩ fun j k' ⟨b, t1, t2, c, z, e1, e2, n1, n2, e3⟩ => ⟨b, t1, t2, c, z, e1, e2, n1, n2, k2 _ _ e3⟩
  cmp := fun i j ki kj s1 Q E hJ ⟨b1, t1, t2, c1, z1, a1, a2, a3, a4, a5⟩ ⟨b2, u1, u2, c2, z2, d1, d2, d3, d4, d5⟩ hq => by
    subst a2 d2
    have e1 : kyAt zs ns i = (ns z1, z1) := by unfold kyAt; rw [List.getD_eq_getElem?_getD, a1]; rfl
    have e2 : kyAt zs ns j = (ns z2, z2) := by unfold kyAt; rw [List.getD_eq_getElem?_getD, d1]; rfl
    rw [e1, e2] at hq
    have r1 : Reads s1.heap (.ref b1) (kyPD (ns z1, z1)) [] := .tuple a5 rfl rfl (ReadsAll.cons (as := []) (bs := []) (.int _ t1) (ReadsAll.cons (as := []) (bs := []) (.str _ t2) .nil))
    have r2 : Reads s1.heap (.ref b2) (kyPD (ns z2, z2)) [] := .tuple d5 rfl rfl (ReadsAll.cons (as := []) (bs := []) (.int _ u1) (ReadsAll.cons (as := []) (bs := []) (.str _ u2) .nil))
    exact PySem.W.rcLt_alike _ _ A s1 _ _ _ _ r1 r2 rfl (fun z => by cases z) (by
      show A.units + min _ _ < cLine
      have d1 : (kyPD (ns z1, z1)).depth ≤ 2 := by simp [kyPD, PyData.depth, PyData.depthAll]
      have : min (kyPD (ns z1, z1)).depth (kyPD (ns z2, z2)).depth ≤ 2 := Nat.le_trans (Nat.min_le_left _ _) d1
      omega) X.prog X.w E Q hq
end
/-- iter(x) lays an iterator over the texts zs -/
def WalkT (X : Cx) (s : Shared) (x : Value) (zs : List Str) : Prop := ∀ {E : Value → Shared → Prop} {Q : Value → Shared → Prop},
  (∀ (o2 : Obj) (fp : List Addr) (P : Nat → Value → Prop) (St : Nat → Shared → Prop), WalksS X.prog X.w X.A.in1 s.heap.objs.size fp [s.heap.objs.size] (fun a b => b = a) zs.length P St → St 0 { s with heap := s.heap.push o2 } → (∀ b ∈ fp, b < (s.heap.push o2).objs.size) →
    (∀ i v, P i v → ∃ z t, zs[i]? = some z ∧ v = .str z t) → (∀ i s', St i s' → ∃ o, s'.heap.get? s.heap.objs.size = some o) → Q (.ref s.heap.objs.size) { s with heap := s.heap.push o2 }) → wpAny (model X.prog X.w) X.A.in1 (pyIter x) Q E s
def LeastT (s : Shared) (zs : List Str) (ns : Str → Int) (v : Value) (s' : Shared) : Prop := KJ s s' ∧ ∃ z t, v = .str z t ∧ z ∈ zs ∧ ∀ y ∈ zs, leK (ns z, z) (ns y, y)
section
variable {X : Cx} {pins : List (Addr × Obj)} {σ : L2.St} {H : Hp} {s : Shared}
theorem kj_push {o : Obj} : KJ s { s with heap := s.heap.push o } := ⟨_, _, rfl, fun b u e => Heap.get?_push_of_some _ e⟩
theorem least_of {zs : List Str} {ns : Str → Int} {P : Nat → Value → Prop} (hP : ∀ i v, P i v → ∃ z t, zs[i]? = some z ∧ v = .str z t) {v : Value} {s' : Shared} (h : P (argBest (fun i j => PySem.W.dataLt (kyPD (kyAt zs ns i)) (kyPD (kyAt zs ns j))) (zs.length - 1)) v) (hJ : KJ s s') : LeastT s zs ns v s' := by
  obtain ⟨z, t, ez, rfl⟩ := hP _ _ h
  refine ⟨hJ, z, t, rfl, List.mem_of_getElem? ez, fun y hy => ?_⟩
  obtain ⟨b1, b2⟩ := best_le (bt := fun i j => PySem.W.dataLt (kyPD (kyAt zs ns i)) (kyPD (kyAt zs ns j))) (key := kyAt zs ns) (fun i j => lt_keyC _ _) (zs.length - 1)
  obtain ⟨j, hj⟩ := List.mem_iff_getElem?.mp hy
  have hl := (List.getElem?_eq_some_iff.mp hj).1
  have := b2 j (by omega)
  have e1 : ∀ {i : Nat} {w : Str}, zs[i]? = some w → kyAt zs ns i = (ns w, w) := fun {i w} e => by unfold kyAt; rw [List.getD_eq_getElem?_getD, e]; rfl
  rw [e1 ez, e1 hj] at this
  exact this
theorem min_keyC (I : Inv X pins σ H s) (hA : X.A.depth < recursionLimit) (hu : X.A.units + 20 < cLine) {f c cc d : Addr} {pm ctv : Value} {q cap : Str} {params : Arguments} {body : Expr} {scope : Scope} {clo : List (Str × Addr)} (KS : KeyC q params body scope cap) (hclo : clo.lookup cap = some cc)
    (hf : s.heap.get? f = some (PySem.W.kla_obj "<lambda>" q params body scope clo pm c ctv)) (hc : H c = some (LamX.CodeO c q)) (hcell : s.heap.IsCell cc (some (.ref d))) {kvs : List (Key × V)} (hd : Rd H d (.dK kvs)) {zs : List Str} {ns : Str → Int} (hz : ∀ z ∈ zs, valV kvs (.inr z) = some (V.int (ns z)))
    {x : Value} (hx : WalkT X s x zs) (hne : zs ≠ []) {E : Value → Shared → Prop} : wpAny (model X.prog X.w) X.A (call (.builtin "min") [x] [(Str.ofString "key", .ref f)]) (LeastT s zs ns) E s := by
  have n0 : s.heap.get? s.heap.objs.size = none := by
    cases e : s.heap.get? s.heap.objs.size with
    | none => rfl
    | some o => exact absurd (Heap.lt_size e) (Nat.lt_irrefl _)
  refine call_min_walkK (hx fun o2 fp P St W hst hfp hP hSt => ?_)
  have n1 : s.heap.get? (s.heap.push o2).objs.size = none := by
    cases e : s.heap.get? (s.heap.push o2).objs.size with
    | none => rfl
    | some o =>
      have := Heap.lt_size e
      rw [Heap.size_push] at this
      exact absurd (Nat.lt_trans (Nat.lt_succ_self _) this) (Nat.lt_irrefl _)
  exact ⟨_, fp, _, _, zs.length, P, St, KJ s, KV_ zs ns _ _, _, rfl, W, hst, hfp, List.length_pos_iff.mpr hne, keyC_run (A := X.A.in1) I hA (by show X.A.units + 1 + 10 < cLine; omega) KS hclo hf hc hcell hd hz n0 n1 W hP hSt, kj_push, fun v s' h hJ => least_of hP h hJ⟩
end
section
variable {X : Cx} {pins : List (Addr × Obj)} {σ : L2.St} {H : Hp} {s : Shared}
theorem vals_txtC : ∀ {zs : List Str} {its : List Value}, Vals (zs.map V.str) its → zs.length = its.length ∧ ∀ (i : Nat) (v : Value), its[i]? = some v → ∃ z t, zs[i]? = some z ∧ v = .str z t
  | [], [], _ => ⟨rfl, fun i v h => by simp at h⟩
  | z :: zs, v :: its, h => by
    cases h with
    | cons h r =>
      obtain ⟨t, rfl⟩ := h
      obtain ⟨e, k⟩ := vals_txtC r
      refine ⟨by simp [e], fun i w hw => ?_⟩
      cases i with
      | zero => cases hw; exact ⟨z, t, rfl, rfl⟩
      | succ i => exact k i w hw
theorem kv_at : ∀ {kvs : List (Key × V)} {vs : List (Key × Value)}, KV kvs vs → kvs.length = vs.length ∧ ∀ (i : Nat) (q : Key × Value), vs[i]? = some q → ∃ p, kvs[i]? = some p ∧ p.1 = q.1
  | [], [], _ => ⟨rfl, fun i v h => by simp at h⟩
  | p :: kvs, q :: vs, h => by
    cases h with
    | cons h r =>
      obtain ⟨e, k⟩ := kv_at r
      refine ⟨by simp [e], fun i w hw => ?_⟩
      cases i with
      | zero => cases hw; exact ⟨p, rfl, h.1⟩
      | succ i => exact k i w hw
theorem walkT_list (I : Inv X pins σ H s) (hc : X.calm = true) {l : Addr} {zs : List Str} (hs : SqL X.K H l (zs.map V.str)) : WalkT X s (.ref l) zs := by
  intro E Q hQ
  obtain ⟨its, rv, hls, _⟩ := I.list hs
  obtain ⟨e, k⟩ := vals_txtC rv
  refine PySem.W.iter_listW (I.ok.hd hc) hls.isList fun s₂ e2 W hst hfp _ _ => ?_
  subst e2
  have en : its.toArray.size = zs.length := by rw [List.size_toArray, e]
  rw [en] at W
  exact hQ _ _ _ _ W hst hfp (fun i v h => k i v (by simpa using h)) (fun i s' ⟨⟨o, ho, _⟩, _⟩ => ⟨o, ho⟩)
theorem walkT_dict (I : Inv X pins σ H s) (hc : X.calm = true) {d : Addr} {kvs : List (Key × V)} (hd : Rd H d (.dK kvs)) {zs : List Str} (hz : kvs.map (·.1) = zs.map Sum.inr) : WalkT X s (.ref d) zs := by
  intro E Q hQ
  obtain ⟨_, hsm, vs, rel, dd⟩ := dk_rd I.hok hd
  obtain ⟨ep, da⟩ := dd.dictAt
  have hlt : d < s.heap.objs.size := by obtain ⟨_, _, e, _⟩ := da; exact Heap.lt_size e
  have el : vs.length = zs.length := by
    have h1 := (kv_at rel).1
    have h2 := congrArg List.length hz
    simp only [List.length_map] at h2
    omega
  have ek : ∀ (i : Nat) k x, vs[i]? = some (k, x) → ∃ z, zs[i]? = some z ∧ k = Sum.inr z := fun i k x h => by
    obtain ⟨p, hp, e1⟩ := (kv_at rel).2 i _ h
    have : (kvs.map (·.1))[i]? = some p.1 := by rw [List.getElem?_map, hp]; rfl
    rw [hz, List.getElem?_map] at this
    obtain ⟨z, hz', e⟩ := Option.map_eq_some_iff.mp this
    exact ⟨z, hz', e1.symm.trans e.symm⟩
  have W := (Walks.dictKeys (prog := X.prog) (w := X.w) (A := X.A.in1) (knd := mixKind X.prog X.w) (show X.A.in1.handled = none from I.ok.hd hc) s.heap.objs.size d (Nat.ne_of_lt hlt) vs ep).toS
  rw [el] at W
  refine wpAny_pyIter_dict hsm da (hQ _ _ _ _ W ⟨by rw [← el]; exact ⟨_, Heap.get?_push_size _ rfl, rfl, rfl⟩, da.at' fun o e => Heap.get?_push_of_some _ e⟩ (fun b hb => ?_) (fun i v ⟨k, x, h1, h2⟩ => ?_) (fun i s' ⟨⟨o, ho, _⟩, _⟩ => ⟨o, ho⟩))
  · rw [Heap.size_push]
    simp only [List.mem_cons, List.not_mem_nil, or_false] at hb
    rcases hb with rfl | rfl
    · exact Nat.lt_succ_self _
    · exact Nat.lt_succ_of_lt hlt
  · obtain ⟨z, ez, rfl⟩ := ek i k x h1
    rcases keyIs_shape (k := Sum.inr z) (v := v) h2 with ⟨_, _, e, _⟩ | ⟨y, t, e1, e2⟩
    · cases e
    · cases e1
      exact ⟨z, t, ez, e2⟩
end
/-- the texts that x is made of: a list's, a dict's keys -/
def txIt (M : Mst) (x : D) : Option (List Str) := match x with
  | .ref a => (match M a with
    | some (.dK kvs) => txKeys (kvs.map (·.1))
    | some (.lst ds) => txL ds
    | _ => none)
  | .lst ds => txL ds
  | _ => none
def qMinKey (P : Addr) (q : Str) (ic : Nat) (qx : DTE) : DTE := fun DW p M Q => qx DW p M fun x M1 => M1 P = some (.tab q) ∧ ∃ (d : Addr) (kvs : List (Key × D)) (zs : List Str) (ns : Str → Int), p[ic]? = some (some (.ref d)) ∧ M1 d = some (.dK kvs) ∧ txIt M1 x = some zs ∧
  (∀ z ∈ zs, valD kvs (.inr z) = some (.int (ns z))) ∧ zs ≠ [] ∧ ∀ z ∈ zs, (∀ y ∈ zs, leK (ns z, z) (ns y, y)) → Q (.str z) M1
section
variable {X : Cx} {W : WX} {pins : List (Addr × Obj)} {σ : L2.St} {G H : Hp} {s : Shared}
theorem repL_txt {K : PySem.W.Frag} : ∀ {zs : List Str} {vs : List V}, RepL K G (zs.map .str) vs → vs = zs.map V.str ∧ ∀ z ∈ zs, Rep K G (.str z) (.str z)
  | [], _, h => by cases h; exact ⟨rfl, fun z h => nomatch h⟩
  | z :: zs, _, ⟨v, r, e, h1, h2⟩ => by
    subst e
    obtain ⟨rfl, hz⟩ := repL_txt h2
    have hv : v = .str z := h1.1
    subst hv
    exact ⟨rfl, fun y hy => by
      rcases List.mem_cons.mp hy with rfl | hy
      · exact h1
      · exact hz y hy⟩
theorem walkT_of {p : Rho} {M : Mst} {x : D} {v : V} {u : Value} {zs : List Str} (I : Inv X pins σ H s) (S : Sim X.K G H p M σ) (hc : X.calm = true) (r : Rep X.K G x v) (ru : RelV v u) (h : txIt M x = some zs) : WalkT X s u zs ∧ ∀ z ∈ zs, Rep X.K G (.str z) (.str z) := by
  cases x with
  | ref a =>
    cases r
    obtain rfl : u = Value.ref a := ru
    unfold txIt at h
    dsimp only at h
    split at h
    · next kvs em =>
      obtain ⟨gn, kv, h1, h2, h3, h4, h5⟩ := S.mem _ _ em
      have ek := txKeys_eq h
      refine ⟨walkT_dict I hc (.inl h1) (by rw [h2, ek]), fun z hz => ?_⟩
      have : Sum.inr z ∈ kvs.map (·.1) := by rw [ek]; exact List.mem_map_of_mem hz
      obtain ⟨qq, hq, eq⟩ := List.mem_map.mp this
      have := rep_key (K := X.K) (G := G) (h5 qq hq)
      rw [eq] at this
      exact this
    · next ds em =>
      obtain ⟨gn, vs, h1, h2, h3⟩ := S.mem _ _ em
      have ee := txL_eq h
      subst ee
      obtain ⟨rfl, hz⟩ := repL_txt h2
      exact ⟨walkT_list I hc (.inl (.inl h1)), hz⟩
    · cases h
  | lst ds =>
    have ee := txL_eq (show txL ds = some zs from h)
    subst ee
    obtain ⟨a, vs, rfl, c1, c2, c3⟩ := as_lst S r (show res M (.lst (zs.map .str)) = .lst (zs.map .str) from rfl)
    obtain rfl : u = Value.ref a := ru
    obtain ⟨rfl, hz⟩ := repL_txt c2
    exact ⟨walkT_list I hc (.inl (.inl c1)), hz⟩
  | _ => cases h
theorem clo_cap {cells : List (Str × Addr)} {names : List (Str × NameKind)} {cap : Str} : ∀ {acc : List (Str × Addr)}, acc.lookup cap = some ((cells.lookup cap).getD 0) ∨ (cap, NameKind.free) ∈ names → (cloFrom cells names acc).lookup cap = some ((cells.lookup cap).getD 0) := by
  induction names with
  | nil => exact fun h => h.elim id (fun z => nomatch z)
  | cons y r ih =>
    obtain ⟨n, k⟩ := y
    intro acc h
    unfold cloFrom
    by_cases e : n = cap
    · subst e
      split
      · exact ih (.inl (by rw [List.lookup_cons, beq_self_eq_true]))
      · next hk =>
        refine ih ?_
        rcases h with h | h
        · exact .inl h
        · rcases List.mem_cons.mp h with h | h
          · cases h; exact absurd rfl hk
          · exact .inr h
    · have hl : ∀ a, ((n, a) :: acc).lookup cap = acc.lookup cap := fun a => by rw [List.lookup_cons, beq_eq_false_iff_ne.mpr (fun z => e z.symm)]
      have h' : acc.lookup cap = some ((cells.lookup cap).getD 0) ∨ (cap, NameKind.free) ∈ r := by
        rcases h with h | h
        · exact .inl h
        · rcases List.mem_cons.mp h with h | h
          · cases h; exact absurd rfl e
          · exact .inr h
      split
      · exact ih (by rw [hl]; exact h')
      · exact ih h'
/-- min(e, key=lambda a: (cap[a], a)) -/
theorem q_minKey {c P : Addr} {k ic : Nat} {e : Expr} {cap : Str} {params : Arguments} {body : Expr} {scope : Scope} {lpos kpos pos np : Pos} {qx : DTE} (hr : Room k X.A) (hc : X.calm = true) (hm : X.mg "min" = none) (hx : ∃ t, QE X W e t qx) (TB : LamX.TabB X.base X.mg c P) (hcode : X.env.code = .ref c) (KS : KeyC (X.env.qual ++ "<lambda>") params body scope cap)
    (hN : X.N[ic]? = some cap := by rfl) (hkd : X.env.kindOf cap = some .cell := by rfl) (hv : Vis X.env.scope cap := by first | exact Or.inl rfl | exact Or.inr (Or.inl rfl) | exact Or.inr (Or.inr rfl)) (hcp : (cap, NameKind.free) ∈ scope.names := by decide +kernel)
    (hst : starEach [e] X.env = (false, eval e X.env) :: starEach [] X.env := by rfl) (hdef : defaultsOf params X.env = ([], []) := by rfl) (hg : Gl X "min" := by rfl)
    (he : backTo pos (starEach [e] X.env) = (false, eval e X.env) :: backTo pos (starEach [] X.env) := by rfl) (hpl : (backTo pos (starEach [e] X.env)).any (·.1) = false := by rfl) :
    QE X W (.Call (.Name "min" np) [e] [⟨some "key", .Lambda params body scope lpos, kpos⟩] pos) (canE X.K W (qMinKey P (X.env.qual ++ "<lambda>") ic qx)) (qMinKey P (X.env.qual ++ "<lambda>") ic qx) := by
  refine ⟨⟨fun pins s σ H Q' I ⟨DW, G, p, M, Q, hw, S, hq, kq⟩ => ?_⟩, fun DW G H p M s Q Q' hw S hq k => ⟨DW, G, p, M, Q, hw, S, hq, k⟩⟩
  have hx' := QE.can hx
  refine wpAny_Call_Name_kw (ld_blt I hg hm PyProof.Rows.Boot.«min» ?_ (by decide) (by decide))
  refine PyProof.Rows.callWith_kw (thn ((pa_cons hx'.pe pa_nil hst).run pos pins s σ H (fun vs H1 => ∃ v G1 M1 x, vs = [v] ∧ Same G G1 ∧ Sim X.K G1 H1 p M1 σ ∧ Rep X.K G1 x v ∧ M1 P = some (.tab (X.env.qual ++ "<lambda>")) ∧ ∃ (d : Addr) (kvs : List (Key × D)) (zs : List Str) (ns : Str → Int), p[ic]? = some (some (.ref d)) ∧ M1 d = some (.dK kvs) ∧ txIt M1 x = some zs ∧
    (∀ z ∈ zs, valD kvs (.inr z) = some (.int (ns z))) ∧ zs ≠ [] ∧ ∀ z ∈ zs, (∀ y ∈ zs, leK (ns z, z) (ns y, y)) → Q (.str z) M1) I (hx'.rf DW G H p M σ _ _ hw S hq fun G1 H1 M1 x v e1 S1 r1 h1 => ⟨v, G1, M1, x, rfl, e1, S1, r1, h1⟩)) fun us s1 hh => ?_) he hpl (by rfl) (by rfl)
  obtain ⟨vs, H1, I1, r1, v, G1, M1, x, rfl, e1, S1, rx, mP, d, kvs, zs, ns, hp, hd, ht, hz, hne, hQ⟩ := hh
  obtain ⟨u, rfl, ru⟩ := vals1 r1
  show wpAny _ _ (evalAll [do let v ← eval (.Lambda params body scope lpos) X.env; standAt pos; pure v]) _ _ s1
  obtain ⟨cc, hcc⟩ : ∃ cc, X.env.cells.lookup cap = some cc := by
    obtain ⟨v2, hv2, _⟩ := S1.env ic _ hp
    obtain ⟨m, _, hl⟩ := I1.loc
    obtain ⟨u2, _, hk⟩ := hl ic cap v2 hN hv2 hv
    rcases hk with ⟨hk, _⟩ | ⟨_, cc, hcc, _⟩
    · rw [hkd] at hk; cases hk
    · exact ⟨cc, hcc⟩
  have hfree : ∀ y ∈ scope.names, y.2 = .free → ∃ c, X.env.cells.lookup y.1 = some c := fun y hy e => by
    obtain ⟨_, _, _, _, _, _, _, _, _, _, _, nc, _⟩ := KS.ex
    rw [(nc y hy).2 e]; exact ⟨cc, hcc⟩
  refine wpAny_evalAll_cons (wpAny_bind (lam_made I1 S1 mP TB hcode hdef hfree fun f c' pm ctv G2 H2 s2 I2 e2 S2 hf hfn hfr hco => wpAny_bind (wpAny_standAt (wpAny_pure (wpAny_evalAll_nil ?_)))))
  show wpAny _ _ (call (.builtin "min") [u] [(Str.ofString "key", .ref f)]) _ _ s2
  have rx2 := Rep.mono e2 _ _ rx
  obtain ⟨wk, rz⟩ := walkT_of I2 S2 hc rx2 ru ht
  have hcell : s2.heap.IsCell cc (some (.ref d)) := by
    obtain ⟨v2, hv2, rv2⟩ := S2.env ic _ hp
    cases rv2
    obtain ⟨m, _, hl⟩ := I2.loc
    obtain ⟨u2, ru2, hk⟩ := hl ic cap _ hN hv2 hv
    obtain rfl : u2 = Value.ref d := ru2
    rcases hk with ⟨hk, _⟩ | ⟨_, c2, hc2, h⟩
    · rw [hkd] at hk; cases hk
    · rw [hcc] at hc2; cases hc2; exact h
  obtain ⟨gn, kv, h1, h2, h3, h4, h5⟩ := S2.mem _ _ hd
  have hz2 : ∀ z ∈ zs, valV kv (.inr z) = some (V.int (ns z)) := fun z hzm => by
    rcases valD_rel (Sum.inr z) h2 h3 with ⟨a, _⟩ | ⟨d', v', a, b, c⟩
    · rw [hz z hzm] at a; cases a
    · rw [hz z hzm] at a
      cases a
      cases c
      exact b
  have hclo : (cloFrom X.env.cells scope.names []).lookup cap = some cc := by rw [clo_cap (.inr hcp), hcc]; rfl
  refine wpAny_mono (min_keyC I2 (by have := hr.dp; omega) (by have := hr.un; omega) KS hclo hf (S2.same _ _ hco) hcell (.inl h1) hz2 wk hne) (fun v s3 h => ?_) (fun _ _ h => h)
  obtain ⟨⟨hh, tk, rfl, kp⟩, z, t, rfl, hzm, hl⟩ := h
  exact ⟨.str z, H2, I2.kept (t' := tk) kp, ⟨t, rfl⟩, kq G2 H2 M1 (.str z) (.str z) (e1.trans e2) S2 (rz z hzm) (hQ z hzm hl)⟩
end
end DL
set_option maxHeartbeats 1000000
namespace DL
open PySem PySem.Spec PyProof.Rows L2
/-- .. the defaults' data dds stand behind the given ones -/
def KwBD (K : PySem.W.Frag) (fd : FuncData) (ps : List Str) (n : Nat) (ks : List Str) (dvs : List V) (idx : List Nat) : Prop :=
  ∀ (s : Shared) (us ws : List Value), K.In s.heap → us.length = n → ws.length = ks.length → ∃ its, Vals dvs its ∧ BindsTo s fd ⟨us, ks.zip ws⟩ (ps.zip (pickL idx (us ++ ws ++ its)))
section
variable {K : PySem.W.Frag} {x qual : Str} {st : Stmt} {dvs : List V} {f : Addr} {fd : FuncData} {ps : List Str}
theorem kwbDD {ks : List Str} {n : Nat} {idx : List Nat} (F : FunD K x qual (defArgs st) (defBody st) (defScope st) dvs [] f fd) (hd : dvs ≠ [])
    (h : ∀ (T : Addr) (kV doc pm : Value) (an : Option Addr) (cdv ct : Value) (us ws its : List Value), us.length = n → ws.length = ks.length → its.length = dvs.length →
      ∃ k, bindArgs (PySem.W.fnOf x qual (defArgs st) (defBody st) (defScope st) (.ref T) kV doc pm an cdv ct) ⟨us, ks.zip ws⟩ = seqItems? (.ref T) >>= k ∧ k (some its.toArray) = pure (ps.zip (pickL idx (us ++ ws ++ its)))) : KwBD K fd ps n ks dvs idx := by
  obtain ⟨oc, od, dV, kV, doc, pm, an, cdv, ct, osl, rfl, lk, hcd, hD, hK⟩ := F.ex
  rcases hD with ⟨e, _⟩ | ⟨_, T, o, its, m, rfl, lT, oT, rT⟩
  · exact absurd e hd
  · intro s us ws X h1 h2
    obtain ⟨k, e1, e2⟩ := h T kV doc pm an cdv ct us ws its h1 h2 rT.length.symm
    refine ⟨its, rT, BindsTo.of_looks fun M => ?_⟩
    rw [e1]
    exact looks_items X lT oT (.of_pure e2)
end
section
variable {X : Cx} {W : WX} {C : Addr} {k : Nat} {f : Addr} {fd : FuncData} {ps ks fs : List Str} {P : DSp} {m : Str} {apos pos : Pos} {o e : Expr} {es : List Expr} {kws : List Keyword} {to : TE} {qo : DTE} {t tk : TA} {q qk : DTA} {n : Nat} {idx : List Nat} {dvs : List V} {dds : List D}
theorem run_kwD {sp : Sp} {E : L2.St → XK} {CX : CXT} {pins : List (Addr × Obj)} {σ : L2.St} {H : Hp} {s : Shared} {Q : VK} {us ws : List Value} {vs zs : List V} (F : FnOk X.prog X.w X.K X.mg X.base CX k f fd ps sp) (hr : Room k X.A) (hb : KwBD X.K fd ps n ks dvs idx) (hx : PassesAt CX X σ (E σ))
    (I : Inv X pins σ H s) (r : Vals vs us) (rz : Vals zs ws) (l1 : vs.length = n) (l2 : zs.length = ks.length) (h : sp (pickL idx (vs ++ zs ++ dvs)) H Q (E σ)) : wpAny (model X.prog X.w) X.A (call (.ref f) us (ks.zip ws)) (EP X pins σ Q) X.xe s := by
  obtain ⟨its, rd, hb⟩ := hb s us ws I.kIn (r.length.symm.trans l1) (rz.length.symm.trans l2)
  have r2 := pick_vals ((r.append rz).append rd) idx
  refine wpAny_call (codeAny_mono (F.run X.A X.stack s H ⟨us, ks.zip ws⟩ _ _ Q (E σ) hr I.env0 hb r2 h) fun r s' hq => ?_)
  cases r with
  | error e => exact hx pins H s e s' I hq
  | ok fl =>
    cases fl with
    | ret u => exact I.after hq
    | next => exact False.elim hq
    | brk => exact False.elim hq
    | cont => exact False.elim hq
def tMethKwD (C : Addr) (mm : Str) (n m : Nat) (sp : Sp) (dvs : List V) (idx : List Nat) (E : L2.St → XK) (ta : TE) (t tk : TA) : TE := fun σ H Q => ta σ H fun x H1 => ∃ a dx fs, x = .ref a ∧ H1 a = some (.ins C dx fs) ∧ fs.lookup mm = none ∧
  t σ H1 fun vs H2 => tk σ H2 fun zs H3 => (x :: vs).length = n ∧ zs.length = m ∧ sp (pickL idx (x :: vs ++ zs ++ dvs)) H3 Q (E σ)
def qMethKwD (C : Addr) (fs : List Str) (n m : Nat) (P : DSp) (dds : List D) (idx : List Nat) (qo : DTE) (qa qk : DTA) : DTE := fun DW p M Q => qo DW p M fun x M1 => isObj M1 x C fs ∧ qa DW p M1 fun ds M2 => qk DW p M2 fun zs M3 => (x :: ds).length = n ∧ zs.length = m ∧ P (pickL idx (x :: ds ++ zs ++ dds)) M3 Q fun z M4 => DW z p M4
theorem ref_methKwD {K : PySem.W.Frag} {mm : Str} {j l : Nat} (ho : RefE K W to qo) (ha : RefA K W t q) (hk : RefA K W tk qk) (hd : ∀ G, RepL K G dds dvs) (hm : mm ∉ fs) : RefE K W (tMethKwD C mm j l (toSp K P) dvs idx (fun s => WE W s) to t tk) (qMethKwD C fs j l P dds idx qo q qk) :=
  fun DW G H p M s Q Q' hw S h k => ho DW G H p M s _ _ hw S h fun G1 H1 M1 x v e1 S1 r1 ⟨ob, h1⟩ => by
    obtain ⟨a, dx, fv, rfl, g1, g2⟩ := obj_at S1 r1 ob hm
    refine ⟨a, dx, fv, rfl, g1, g2, ha DW G1 H1 p M1 s _ _ (hw.mono e1) S1 h1 fun G2 H2 M2 as vs e2 S2 r2 h2 => hk DW G2 H2 p M2 s _ _ (hw.mono (e1.trans e2)) S2 h2 fun G3 H3 M3 bs zs e3 S3 r3 h3 => ?_⟩
    obtain ⟨l1, l2, h3⟩ := h3
    refine ⟨by rw [← l1]; simp [r2.length], by rw [← l2, r3.length], ?_⟩
    have rr : RepL K G3 (x :: as ++ bs ++ dds) (.ref a :: vs ++ zs ++ dvs) := RepL.append (RepL.append (RepL.cons (Rep.mono (e2.trans e3) _ _ r1) (RepL.mono e3 _ _ r2)) r3) (hd G3)
    exact toSp_at (hw.mono ((e1.trans e2).trans e3)) S3 (pick_rep rr idx) h3 fun G' H' M' d v e4 => k G' H' M' d v (((e1.trans e2).trans e3).trans e4)
theorem q_methKD {pl : Sem Bool} (cl : Cls X.K C) (hm : Meth X.K C m f) (F : FnOk X.prog X.w X.K X.mg X.base (L2.CX X.prog X.w) k f fd ps (toSp X.K P)) (hr : Room k X.A) (tkk : Takes X W) (hb : KwBD X.K fd ps n ks dvs idx) (hdd : ∀ G, RepL X.K G dds dvs)
    (ho : QE X W o to qo) (ha : QA X W (e :: es) t q) (hkw : QK X W kws tk qk) (hmf : m ∉ fs) (hall : (backToKw pos (keywordEach kws X.env)).all (·.1.isSome) = true := by rfl) (hks : (backToKw pos (keywordEach kws X.env)).filterMap (·.1) = ks := by rfl)
    (he : starEach (e :: es) X.env = (false, eval e X.env) :: starEach es X.env := by rfl)
    (hpl : ((backTo pos (starEach (e :: es) X.env)).any (·.1) || (backToKw pos (keywordEach kws X.env)).any (·.1.isNone)) = false := by rfl)
    (ht : eval (.Call (.Attribute o m apos) (e :: es) kws pos) X.env = (do
      let ov ← eval o X.env
      standAt apos.atName
      let (f, first) ← holding [ov] (getMethod ov m pl)
      callWith pos f first (backTo pos (starEach (e :: es) X.env)) (backToKw pos (keywordEach kws X.env))) := by rfl) :
    QE X W (.Call (.Attribute o m apos) (e :: es) kws pos) (tMethKwD C m n ks.length (toSp X.K P) dvs idx (fun s => WE W s) to t tk) (qMethKwD C fs n ks.length P dds idx qo q qk) := by
  refine ⟨⟨fun pins s σ H Q I h => ?_⟩, ref_methKwD ho.rf ha.rf hkw.rf hdd hmf⟩
  refine PySem.W.methodCall_KW (pl := pl) (thn (ho.pe.run pins s σ H _ I h) fun u s1 ⟨x, H1, I1, rx, a, dx, fv, ex, ea, l, q⟩ => ?_) ht
  subst ex
  obtain rfl : u = Value.ref a := rx
  refine getmeth_ok I1 ea cl hm l ?_
  refine PySem.W.callWith_KW (first := [.ref a]) (h₀ := X.base) I.ok.mod.kin hm.kp hall (thn (ha.pe.run pos pins s1 σ H1 _ I1 q) fun us s2 ⟨vs, H2, I2, r, q⟩ => ?_) hpl he
  refine thn (hkw.pe.run pos pins s2 σ H2 _ I2 q) fun ws s3 ⟨zs, H3, I3, rz, l1, l2, q2⟩ => ⟨I3.kIn, ?_⟩
  rw [hks]
  exact run_kwD (us := .ref a :: us) (vs := .ref a :: vs) (E := fun s => WE W s) F hr hb (passAt tkk σ) I3 (.cons rfl r) rz l1 l2 q2
end
end DL
namespace L2
open PySem PySem.Spec PyProof.Rows
section
variable {X : Cx}
/-- the dict of numbers at a -/
def eqKI (ka kb : List (Key × Int)) : Bool := ka.length == kb.length && ka.all fun p => decide ((kb.find? fun kv => decide (kv.1 = p.1)).map (·.2) = some p.2)
def rDEq (neg : Bool) : R2 := fun x y H Q => ∃ (a b : Addr) (ka kb : List (Key × Int)), x = .ref a ∧ y = .ref b ∧ H a = some (.dK (ka.map fun p => (p.1, V.int p.2))) ∧ H b = some (.dK (kb.map fun p => (p.1, V.int p.2))) ∧ Q (.bl (xor neg (eqKI ka kb))) H
theorem kvI : ∀ {ka : List (Key × Int)} {vs : List (Key × Value)}, KV (ka.map fun p => (p.1, V.int p.2)) vs → vs.length = ka.length ∧ ∀ k, match (ka.find? fun kv => decide (kv.1 = k)).map (·.2) with
    | some i => ∃ t, valueAt vs k = some (.int i t)
    | none => valueAt vs k = none := by
  intro ka vs r
  refine ⟨by have := Paired.length r; simpa using this.symm, fun k => ?_⟩
  have q := r.val k
  have e : valV (ka.map fun p => (p.1, V.int p.2)) k = ((ka.find? fun kv => decide (kv.1 = k)).map (·.2)).map V.int := by
    unfold valV
    rw [List.find?_map]
    simp [Function.comp_def]
  rw [e] at q
  cases h : (ka.find? fun kv => decide (kv.1 = k)).map (·.2) with
  | none =>
    rw [h] at q
    dsimp only
    cases e2 : valueAt vs k with
    | none => rfl
    | some y => rw [e2] at q; exact (show False from q).elim
  | some i =>
    rw [h] at q
    dsimp only
    cases e2 : valueAt vs k with
    | none => rw [e2] at q; exact (show False from q).elim
    | some y =>
      rw [e2] at q
      obtain ⟨t, ht⟩ : ∃ t, y = .int i t := q
      exact ⟨t, by rw [ht]⟩
theorem hitsI {A : Around} {s : Shared} {kb : List (Key × Int)} {wb : List (Key × Value)} (hb : ∀ k, match (kb.find? fun kv => decide (kv.1 = k)).map (·.2) with
    | some i => ∃ t, valueAt wb k = some (.int i t)
    | none => valueAt wb k = none) : ∀ {ka : List (Key × Int)} {vs : List (Key × Value)}, KV (ka.map fun p => (p.1, V.int p.2)) vs →
    ∃ r, PySem.W.KeqHits A s wb vs r ∧ r = ka.all fun p => decide ((kb.find? fun kv => decide (kv.1 = p.1)).map (·.2) = some p.2)
  | [], _, r => by cases r; exact ⟨true, .nil, rfl⟩
  | (k, i) :: ka, _, r => by
    cases r with
    | cons h1 h2 =>
      rename_i y ys
      obtain ⟨k', v⟩ := y
      obtain ⟨e1, t, e2⟩ : k = k' ∧ ∃ t, v = .int i t := h1
      subst e1 e2
      obtain ⟨r', h3, h4⟩ := hitsI hb h2
      have hk := hb k
      cases e : (kb.find? fun kv => decide (kv.1 = k)).map (·.2) with
      | none =>
        rw [e] at hk
        refine ⟨false, .miss hk, ?_⟩
        simp [e]
      | some j =>
        rw [e] at hk
        obtain ⟨t', ht⟩ := hk
        refine ⟨(i == j) && r', .hit ht (SeqAt.EqAt.int_int i t j t') h3, ?_⟩
        rw [h4]
        simp only [List.all_cons, e]
        congr 1
        by_cases hij : i = j
        · subst hij; simp
        · have : ¬ j = i := fun h => hij h.symm
          simp [hij, this]
theorem op_dne (hu : X.A.units < cLine) : OpR X (compareOp .NotEq) (rDEq true) := by
  intro pins s σ H x y v u Q I rx ry h
  obtain ⟨a, b, ka, kb, rfl, rfl, ha, hb, q⟩ := h
  cases rx
  cases ry
  obtain ⟨_, la, vs, ra, da⟩ := dk_of I.hok ha
  obtain ⟨_, lb, ws, rb, db⟩ := dk_of I.hok hb
  obtain ⟨l1, _⟩ := kvI ra
  obtain ⟨l2, hb2⟩ := kvI rb
  obtain ⟨r, h1, h2⟩ := hitsI (A := X.A.in1) (s := s) hb2 ra
  refine PySem.W.keq_ne la lb da db hu (fun _ => h1) ⟨.bl _, H, I, rfl, ?_⟩
  rw [l1, l2, h2]
  simpa [eqKI] using q
end
end L2
namespace DL
open PySem PySem.Spec PyProof.Rows L2
/-- a dict of numbers as data -/
def dctI (ka : List (Key × Int)) : List (Key × D) := ka.map fun p => (p.1, .int p.2)
/-- == of dicts of numbers that may change -/
def dDEq (neg : Bool) : DOp := fun x y M Q => ∃ (a b : Addr) (ka kb : List (Key × Int)), x = .ref a ∧ y = .ref b ∧ M a = some (.dK (dctI ka)) ∧ M b = some (.dK (dctI kb)) ∧ Q (.bl (xor neg (eqKI ka kb))) M
theorem kv_ints {K : PySem.W.Frag} {G : Hp} : ∀ {ka : List (Key × Int)} {kv : List (Key × V)}, kv.map (·.1) = (dctI ka).map (·.1) → RepL K G ((dctI ka).map (·.2)) (kv.map (·.2)) → kv = ka.map fun p => (p.1, V.int p.2)
  | [], kv, h, _ => by
    cases kv with
    | nil => rfl
    | cons _ _ => cases h
  | p :: ka, kv, h, r => by
    cases kv with
    | nil => cases h
    | cons q kv =>
      obtain ⟨q1, q2⟩ := q
      simp only [dctI, List.map_cons, List.cons.injEq] at h
      obtain ⟨v, vs, e1, e2, e3⟩ := r
      simp only [List.map_cons, List.cons.injEq] at e1
      have e4 : q2 = V.int p.2 := e1.1.trans e2
      have e5 := kv_ints (ka := ka) (kv := kv) h.2 (by rw [e1.2]; exact e3)
      simp only [List.map_cons]
      rw [← e5, ← h.1, ← e4]
theorem ref_deq {K : PySem.W.Frag} {neg : Bool} : RefR2 K (rDEq neg) (dDEq neg) := fun G H p M s x y v u Q Q' S r1 r2 ⟨a, b, ka, kb, e1, e2, ma, mb, q⟩ k => by
  subst e1 e2
  cases r1
  cases r2
  obtain ⟨_, kv, g1, g2, g3, _⟩ := S.mem _ _ ma
  obtain ⟨_, kw, h1, h2, h3, _⟩ := S.mem _ _ mb
  exact ⟨a, b, ka, kb, rfl, rfl, by rw [g1, kv_ints g2 g3], by rw [h1, kv_ints h2 h3], k G H M (.bl _) _ (Same.refl _) S rfl q⟩
theorem o_dne {X : Cx} (hu : X.A.units + 64 < cLine) : QOp X (compareOp .NotEq) (rDEq true) (dDEq true) := ⟨op_dne (by omega), ref_deq⟩
/-- d.pop(k), k there -/
def dropD {κ : Type} [DecidableEq κ] (kvs : List (κ × D)) (k : κ) : List (κ × D) := kvs.filter fun kv => decide (kv.1 ≠ k)
def qDPop (qd qk : DTE) : DTE := fun DW p M Q => qd DW p M fun x M1 => isDict M1 x = true ∧ qk DW p M1 fun y M2 => ∃ (a : Addr) (kvs : List (Key × D)) (k : Key) (d : D), x = .ref a ∧ M2 a = some (.dK kvs) ∧ keyD y = some k ∧ valD kvs k = some d ∧ Q d (put M2 a (.dK (dropD kvs k)))
def qDSetd (qd qk qx : DTE) : DTE := fun DW p M Q => qd DW p M fun x M1 => isDict M1 x = true ∧ qk DW p M1 fun y M2 => qx DW p M2 fun z M3 => ∃ (a : Addr) (kvs : List (Key × D)) (k : Key), x = .ref a ∧ M3 a = some (.dK kvs) ∧ keyD y = some k ∧ kvs.length < 100000 ∧
  (∀ d, valD kvs k = some d → Q d M3) ∧ (valD kvs k = none → Q z (put M3 a (.dK (putD kvs k z))))
theorem drop_rel {K : PySem.W.Frag} {G : Hp} {κ : Type} [DecidableEq κ] {k : κ} : ∀ {kvs : List (κ × D)} {kv : List (κ × V)}, kv.map (·.1) = kvs.map (·.1) → RepL K G (kvs.map (·.2)) (kv.map (·.2)) →
    (dropK kv k).map (·.1) = (dropD kvs k).map (·.1) ∧ RepL K G ((dropD kvs k).map (·.2)) ((dropK kv k).map (·.2)) ∧ (dropK kv k).length ≤ kv.length
  | [], kv, h, r => by
    cases kv with
    | nil => exact ⟨rfl, r, Nat.le_refl _⟩
    | cons _ _ => cases h
  | p :: kvs, kv, h, r => by
    cases kv with
    | nil => cases h
    | cons q kv =>
      obtain ⟨q1, q2⟩ := q
      obtain ⟨p1, p2⟩ := p
      simp only [List.map_cons, List.cons.injEq] at h
      obtain ⟨h1, h2⟩ := h
      obtain ⟨v, vs, e1, e2, e3⟩ := r
      simp only [List.map_cons, List.cons.injEq] at e1
      obtain ⟨e1, e4⟩ := e1
      subst e1 h1
      obtain ⟨i1, i2, i3⟩ := drop_rel (k := k) (kvs := kvs) (kv := kv) h2 (by rw [e4]; exact e3)
      unfold dropK dropD at *
      by_cases hk : q1 = k
      · simp only [List.filter_cons, hk, ne_eq, not_true, decide_false, Bool.false_eq_true, if_false, List.length_cons]
        simp only [ne_eq] at i1 i2 i3 ⊢
        exact ⟨i1, i2, by omega⟩
      · have hk' : decide (q1 ≠ k) = true := by simpa using hk
        simp only [List.filter_cons, hk', if_true, List.map_cons, List.length_cons]
        exact ⟨by rw [i1], ⟨q2, _, rfl, e2, i2⟩, by omega⟩
theorem dropD_keys {κ : Type} [DecidableEq κ] {P : κ → Prop} {kvs : List (κ × D)} {k : κ} (h : ∀ q ∈ kvs, P q.1) : ∀ q ∈ dropD kvs k, P q.1 := fun q hq => h q ((List.mem_filter.mp hq).1)
section
variable {X : Cx} {W : WX} {o e f : Expr} {apos cpos : Pos} {td ty tx : TE} {qd qk qx : DTE}
theorem q_dpop (ho : QE X W o td qd) (he : QE X W e ty qk) (m : M1 X o "pop" apos e cpos) : QE X W (.Call (.Attribute o "pop" apos) [e] [] cpos) (tDPop1 td ty) (qDPop qd qk) :=
  ⟨pe_dpop1 ho.pe he.pe m, fun DW G H p M s Q Q' hw S h k => ho.rf DW G H p M s _ _ hw S h fun G1 H1 M1 x v e1 S1 r1 ⟨hd, h1⟩ => by
    obtain ⟨a, rfl, hD⟩ := isD_of S1 r1 hd
    refine ⟨a, rfl, hD, he.rf DW G1 H1 p M1 s _ _ (hw.mono e1) S1 h1 fun G2 H2 M2 y yv e2 S2 r2 ⟨a', kvs, kk, d, ex, em, ek, ev, h2⟩ => ?_⟩
    subst ex
    cases (show (V.ref a) = V.ref a' from r1)
    obtain ⟨gn, kv, g1, g2, g3, g4, g5⟩ := S2.mem _ _ em
    rcases valD_rel kk g2 g3 with ⟨z, _⟩ | ⟨d0, w0, z1, z2, z3⟩
    · rw [z] at ev; cases ev
    · rw [z1] at ev; cases ev
      obtain ⟨p1, p2, p3⟩ := drop_rel (k := kk) g2 g3
      refine ⟨kv, kk, w0, g1, keyD_of r2 ek, z2, ?_⟩
      exact k G2 _ _ d _ (e1.trans e2) (S2.put (mo := .dK (dropD kvs kk)) gn ⟨_, upd_same, p1, p2, by omega, dropD_keys g5⟩) z3 h2⟩
theorem q_dsetd (ho : QE X W o td qd) (he : QE X W e ty qk) (hf : QE X W f tx qx) (m : M2 X o "setdefault" apos e f cpos) : QE X W (.Call (.Attribute o "setdefault" apos) [e, f] [] cpos) (tDSetd td ty tx) (qDSetd qd qk qx) :=
  ⟨pe_dsetd ho.pe he.pe hf.pe m, fun DW G H p M s Q Q' hw S h k => ho.rf DW G H p M s _ _ hw S h fun G1 H1 M1 x v e1 S1 r1 ⟨hd, h1⟩ => by
    obtain ⟨a, rfl, hD⟩ := isD_of S1 r1 hd
    refine ⟨a, rfl, hD, he.rf DW G1 H1 p M1 s _ _ (hw.mono e1) S1 h1 fun G2 H2 M2 y yv e2 S2 r2 h2 => hf.rf DW G2 H2 p M2 s _ _ (hw.mono (e1.trans e2)) S2 h2 fun G3 H3 M3 z w e3 S3 r3 ⟨a', kvs, kk, ex, em, ek, hl, h3, h4⟩ => ?_⟩
    subst ex
    cases (show (V.ref a) = V.ref a' from r1)
    obtain ⟨gn, kv, g1, g2, g3, g4, g5⟩ := S3.mem _ _ em
    have r2' := Rep.mono e3 _ _ r2
    have kk1 := kOk_of r2' ek
    have hl' : kv.length < sizeLine := by
      have e5 : kv.length = kvs.length := by have := congrArg List.length g2; simpa using this
      rw [sizeLine_eq]; omega
    obtain ⟨p1, p2, p3⟩ := put_rel (k := kk) g2 g3 r3
    refine ⟨kv, kk, g1, keyD_of r2' ek, hl', fun v0 hv => ?_, fun hn => ?_⟩
    · rcases valD_rel kk g2 g3 with ⟨_, z⟩ | ⟨d0, w0, z1, z2, z3⟩
      · rw [z] at hv; cases hv
      · rw [hv] at z2; cases z2
        exact k G3 H3 M3 d0 _ ((e1.trans e2).trans e3) S3 z3 (h3 d0 z1)
    · rcases valD_rel kk g2 g3 with ⟨z0, _⟩ | ⟨d0, w0, z1, z2, z3⟩
      · exact k G3 _ _ _ _ ((e1.trans e2).trans e3) (S3.put (mo := .dK (putD kvs kk z)) gn ⟨_, upd_same, p1, p2, by omega, putD_keys g5 kk1⟩) r3 (h4 z0)
      · rw [z2] at hn; cases hn⟩
end
end DL
namespace DL
open PySem PySem.Spec PyProof.Rows L2
def gUnlD (n : Nat) (gs : DTGs) : DTG := fun d DW p M Q => match res M d with
  | .lst ds => ds.length = n ∧ gs ds DW p M Q
  | _ => False
section
variable {X : Cx} {W : WX} {pos : Pos}
theorem qg_unl {ix : List Nat} {es : List Expr} {kk : Nat} {t : TGs} {q : DTGs} {n : Nat} (hc : X.calm = true) (h : QGis X W ix es t q) (hn : (assignEach es X.env).length = n := by rfl) (hst : (assignEach es X.env).findIdx? (·.1) = none := by rfl) :
    QGi X W ix (.Tuple es kk pos) (gUnl X.K n t) (gUnlD n q) := ⟨pg_unl hc h.pe hn hst, fun DW G H p M s d v Q Q' hw S r hq k => by
  unfold gUnlD at hq
  split at hq
  · next ds e1 =>
    obtain ⟨hl, hq⟩ := hq
    obtain ⟨a, vs, rfl, g1, g2, g3⟩ := as_lst S r e1
    exact ⟨a, vs, rfl, .inl (.inl g1), g2.length.trans hl, h.rf DW G H p M s ds vs Q Q' hw S g2 hq k⟩
  · exact hq.elim⟩
end
end DL
namespace DL
open PySem L2 Tx20 Tx21
def qGGround (sp__law_names : DSp) (sp__law_take : DSp) : DTS :=
  (qSeq (qAsg (qOp dIx (qTup (qCons (qC (.int 5)) (qCons (qC (.int 2)) (qCons (qC (.int 9)) (qCons (qC (.int 16)) (qCons (qC (.int 40)) (qCons (qC (.int 1)) qNil))))))) (qCall sp__law_take [] (qCons (qVar 0) (qCons (qC (.int 6)) qNil)))) (gNameD 1))
  (qSeq (qAsg (qCall sp__law_names [] (qCons (qVar 0) (qCons (qVar 1) qNil))) (gNameD 2))
  (qSeq (qAsg (qOp dIx (qTup (qCons (qC (.int 3)) (qCons (qC (.int 12)) (qCons (qC (.int 60)) qNil)))) (qCall sp__law_take [] (qCons (qVar 0) (qCons (qC (.int 3)) qNil)))) (gNameD 3))
  (qSeq (qAsg (qCB dTupX (qCons (qLc false (qiAny (qVar 2)) (gNameD 13) qYes (qTup (qCons (qVar 13) (qCons (qOp (dAdd false) (qC (.int 1)) (qCall sp__law_take [] (qCons (qVar 0) (qCons (qC (.int 4)) qNil)))) qNil))) [13]) qNil)) (gNameD 4))
  (qSeq (qAsg (qLc true (qiRng2 (qCons (qC (.int 1)) (qCons (qVar 1) qNil))) (gNameD 6) (qTB (qOp (dCmpI fun i j => decide (j < i)) (qCall sp__law_take [] (qCons (qVar 0) (qCons (qC (.int 6)) qNil))) (qC (.int 0)))) (qTup (qCons (qCall sp__law_take [] (qCons (qVar 0) (qCons (qVar 6) qNil))) (qCons (qVar 6) qNil))) [6]) (gNameD 5))
  (qSeq (qFor (qiRng1 (qCons (qOp (dMul false) (qCall sp__law_take [] (qCons (qVar 0) (qCons (qVar 1) qNil))) (qCB dIntX (qCons (qOp (dCmpI fun i j => decide (j < i)) (qVar 1) (qC (.int 2))) qNil))) qNil)) (gNameD 6)
  (qSeq (qAsg (qCB (dSorted false) (qCons (qLst false (qCons (qCall sp__law_take [] (qCons (qVar 0) (qCons (qVar 1) qNil))) (qCons (qCall sp__law_take [] (qCons (qVar 0) (qCons (qVar 1) qNil))) qNil))) qNil)) (gUnlD 2 (gConsD (gNameD 7) (gConsD (gNameD 8) gNilD))))
  (qIfS (qAnd (qTB (qOp (dEq true) (qVar 7) (qVar 8))) (qTB (qOp (dInD true) (qTup (qCons (qVar 7) (qCons (qVar 8) qNil))) (qVar 5))))
  (qDrop (qBM "list" mApp (qVar 5) (qCons (qTup (qCons (qVar 7) (qCons (qVar 8) qNil))) qNil)))
  qNext)))
  (qSeq (qAsg (qLst true qNil) (gNameD 9))
  (qSeq (qFor (qiAny (qVar 5)) (gTupD 2 (gConsD (gNameD 7) (gConsD (gNameD 8) gNilD)))
  (qSeq (qAsg (qStep false (qTup (qCons (qOp dIx (qVar 2) (qVar 7)) (qCons (qOp dIx (qVar 2) (qVar 8)) qNil))) qNoPart qNoPart (qPart (qOp (dInt0 fun i j => i - j) (qC (.int 1)) (qOp (dInt CMul fun i j => i * j) (qC (.int 2)) (qCall sp__law_take [] (qCons (qVar 0) (qCons (qC (.int 2)) qNil))))))) (gNameD 10))
  (qDrop (qBM "list" mApp (qVar 9) (qCons (qOp (dAdd false) (qVar 10) (qTup (qCons (qOp (dAdd false) (qC (.int 1)) (qCall sp__law_take [] (qCons (qVar 0) (qCons (qVar 3) qNil)))) (qCons (qOp (dMul false) (qCall sp__law_take [] (qCons (qVar 0) (qCons (qC (.int 2)) qNil))) (qCall sp__law_take [] (qCons (qVar 0) (qCons (qC (.int 61)) qNil)))) qNil)))) qNil)))))
  (qSeq (qAsg (qCB (dList true) (qCons (qVar 2) qNil)) (gNameD 11))
  (qSeq (qAsg (qLc false (qiRng1 (qCons (qCall sp__law_take [] (qCons (qVar 0) (qCons (qCB dMin2 (qCons (qC (.int 13)) (qCons (qOp (dAdd false) (qVar 1) (qC (.int 1))) qNil))) qNil))) qNil)) (gNameD 6) qYes (qBM "list" mPopAt (qVar 11) (qCons (qCall sp__law_take [] (qCons (qVar 0) (qCons (qCB dLen (qCons (qVar 11) qNil)) qNil))) qNil)) [6]) (gNameD 12))
  (qRet (qTup (qCons (qVar 4) (qCons (qCB dTupX (qCons (qVar 9) qNil)) (qCons (qCB dTupX (qCons (qVar 12) qNil)) qNil)))))))))))))))
def gg_R0 (sp__law_names : DSp) (sp__law_take : DSp) : DTS := (qAsg (qOp dIx (qTup (qCons (qC (.int 5)) (qCons (qC (.int 2)) (qCons (qC (.int 9)) (qCons (qC (.int 16)) (qCons (qC (.int 40)) (qCons (qC (.int 1)) qNil))))))) (qCall sp__law_take [] (qCons (qVar 0) (qCons (qC (.int 6)) qNil)))) (gNameD 1))
def gg_R1 (sp__law_names : DSp) (sp__law_take : DSp) : DTS := (qAsg (qCall sp__law_names [] (qCons (qVar 0) (qCons (qVar 1) qNil))) (gNameD 2))
def gg_R2 (sp__law_names : DSp) (sp__law_take : DSp) : DTS := (qAsg (qOp dIx (qTup (qCons (qC (.int 3)) (qCons (qC (.int 12)) (qCons (qC (.int 60)) qNil)))) (qCall sp__law_take [] (qCons (qVar 0) (qCons (qC (.int 3)) qNil)))) (gNameD 3))
def gg_R3 (sp__law_names : DSp) (sp__law_take : DSp) : DTS := (qAsg (qCB dTupX (qCons (qLc false (qiAny (qVar 2)) (gNameD 13) qYes (qTup (qCons (qVar 13) (qCons (qOp (dAdd false) (qC (.int 1)) (qCall sp__law_take [] (qCons (qVar 0) (qCons (qC (.int 4)) qNil)))) qNil))) [13]) qNil)) (gNameD 4))
def gg_R4 (sp__law_names : DSp) (sp__law_take : DSp) : DTS := (qAsg (qLc true (qiRng2 (qCons (qC (.int 1)) (qCons (qVar 1) qNil))) (gNameD 6) (qTB (qOp (dCmpI fun i j => decide (j < i)) (qCall sp__law_take [] (qCons (qVar 0) (qCons (qC (.int 6)) qNil))) (qC (.int 0)))) (qTup (qCons (qCall sp__law_take [] (qCons (qVar 0) (qCons (qVar 6) qNil))) (qCons (qVar 6) qNil))) [6]) (gNameD 5))
def gg_R5 (sp__law_names : DSp) (sp__law_take : DSp) : DTS := (qFor (qiRng1 (qCons (qOp (dMul false) (qCall sp__law_take [] (qCons (qVar 0) (qCons (qVar 1) qNil))) (qCB dIntX (qCons (qOp (dCmpI fun i j => decide (j < i)) (qVar 1) (qC (.int 2))) qNil))) qNil)) (gNameD 6) (qSeq (qAsg (qCB (dSorted false) (qCons (qLst false (qCons (qCall sp__law_take [] (qCons (qVar 0) (qCons (qVar 1) qNil))) (qCons (qCall sp__law_take [] (qCons (qVar 0) (qCons (qVar 1) qNil))) qNil))) qNil)) (gUnlD 2 (gConsD (gNameD 7) (gConsD (gNameD 8) gNilD)))) (qIfS (qAnd (qTB (qOp (dEq true) (qVar 7) (qVar 8))) (qTB (qOp (dInD true) (qTup (qCons (qVar 7) (qCons (qVar 8) qNil))) (qVar 5)))) (qDrop (qBM "list" mApp (qVar 5) (qCons (qTup (qCons (qVar 7) (qCons (qVar 8) qNil))) qNil))) qNext)))
def gg_R6 (sp__law_names : DSp) (sp__law_take : DSp) : DTS := (qAsg (qLst true qNil) (gNameD 9))
def gg_R7 (sp__law_names : DSp) (sp__law_take : DSp) : DTS := (qFor (qiAny (qVar 5)) (gTupD 2 (gConsD (gNameD 7) (gConsD (gNameD 8) gNilD))) (qSeq (qAsg (qStep false (qTup (qCons (qOp dIx (qVar 2) (qVar 7)) (qCons (qOp dIx (qVar 2) (qVar 8)) qNil))) qNoPart qNoPart (qPart (qOp (dInt0 fun i j => i - j) (qC (.int 1)) (qOp (dInt CMul fun i j => i * j) (qC (.int 2)) (qCall sp__law_take [] (qCons (qVar 0) (qCons (qC (.int 2)) qNil))))))) (gNameD 10)) (qDrop (qBM "list" mApp (qVar 9) (qCons (qOp (dAdd false) (qVar 10) (qTup (qCons (qOp (dAdd false) (qC (.int 1)) (qCall sp__law_take [] (qCons (qVar 0) (qCons (qVar 3) qNil)))) (qCons (qOp (dMul false) (qCall sp__law_take [] (qCons (qVar 0) (qCons (qC (.int 2)) qNil))) (qCall sp__law_take [] (qCons (qVar 0) (qCons (qC (.int 61)) qNil)))) qNil)))) qNil)))))
def gg_R8 (sp__law_names : DSp) (sp__law_take : DSp) : DTS := (qAsg (qCB (dList true) (qCons (qVar 2) qNil)) (gNameD 11))
def gg_R9 (sp__law_names : DSp) (sp__law_take : DSp) : DTS := (qAsg (qLc false (qiRng1 (qCons (qCall sp__law_take [] (qCons (qVar 0) (qCons (qCB dMin2 (qCons (qC (.int 13)) (qCons (qOp (dAdd false) (qVar 1) (qC (.int 1))) qNil))) qNil))) qNil)) (gNameD 6) qYes (qBM "list" mPopAt (qVar 11) (qCons (qCall sp__law_take [] (qCons (qVar 0) (qCons (qCB dLen (qCons (qVar 11) qNil)) qNil))) qNil)) [6]) (gNameD 12))
def gg_R10 (sp__law_names : DSp) (sp__law_take : DSp) : DTS := (qRet (qTup (qCons (qVar 4) (qCons (qCB dTupX (qCons (qVar 9) qNil)) (qCons (qCB dTupX (qCons (qVar 12) qNil)) qNil)))))
def gg_T10 (sp__law_names : DSp) (sp__law_take : DSp) : DTS := gg_R10 sp__law_names sp__law_take
def gg_T9 (sp__law_names : DSp) (sp__law_take : DSp) : DTS := qSeq (gg_R9 sp__law_names sp__law_take) (gg_T10 sp__law_names sp__law_take)
def gg_T8 (sp__law_names : DSp) (sp__law_take : DSp) : DTS := qSeq (gg_R8 sp__law_names sp__law_take) (gg_T9 sp__law_names sp__law_take)
def gg_T7 (sp__law_names : DSp) (sp__law_take : DSp) : DTS := qSeq (gg_R7 sp__law_names sp__law_take) (gg_T8 sp__law_names sp__law_take)
def gg_T6 (sp__law_names : DSp) (sp__law_take : DSp) : DTS := qSeq (gg_R6 sp__law_names sp__law_take) (gg_T7 sp__law_names sp__law_take)
def gg_T5 (sp__law_names : DSp) (sp__law_take : DSp) : DTS := qSeq (gg_R5 sp__law_names sp__law_take) (gg_T6 sp__law_names sp__law_take)
def gg_T4 (sp__law_names : DSp) (sp__law_take : DSp) : DTS := qSeq (gg_R4 sp__law_names sp__law_take) (gg_T5 sp__law_names sp__law_take)
def gg_T3 (sp__law_names : DSp) (sp__law_take : DSp) : DTS := qSeq (gg_R3 sp__law_names sp__law_take) (gg_T4 sp__law_names sp__law_take)
def gg_T2 (sp__law_names : DSp) (sp__law_take : DSp) : DTS := qSeq (gg_R2 sp__law_names sp__law_take) (gg_T3 sp__law_names sp__law_take)
def gg_T1 (sp__law_names : DSp) (sp__law_take : DSp) : DTS := qSeq (gg_R1 sp__law_names sp__law_take) (gg_T2 sp__law_names sp__law_take)
def gg_T0 (sp__law_names : DSp) (sp__law_take : DSp) : DTS := qSeq (gg_R0 sp__law_names sp__law_take) (gg_T1 sp__law_names sp__law_take)
theorem gg_cut (sp__law_names : DSp) (sp__law_take : DSp) : qGGround sp__law_names sp__law_take = gg_T0 sp__law_names sp__law_take := rfl
theorem gg_t0 (sp__law_names : DSp) (sp__law_take : DSp) {DW : DWt} {DE : DEnds} {p : Rho} {M : Mst} : gg_T0 sp__law_names sp__law_take DW DE p M = gg_R0 sp__law_names sp__law_take DW { DE with nx := gg_T1 sp__law_names sp__law_take DW DE } p M := rfl
theorem gg_t1 (sp__law_names : DSp) (sp__law_take : DSp) {DW : DWt} {DE : DEnds} {p : Rho} {M : Mst} : gg_T1 sp__law_names sp__law_take DW DE p M = gg_R1 sp__law_names sp__law_take DW { DE with nx := gg_T2 sp__law_names sp__law_take DW DE } p M := rfl
theorem gg_t2 (sp__law_names : DSp) (sp__law_take : DSp) {DW : DWt} {DE : DEnds} {p : Rho} {M : Mst} : gg_T2 sp__law_names sp__law_take DW DE p M = gg_R2 sp__law_names sp__law_take DW { DE with nx := gg_T3 sp__law_names sp__law_take DW DE } p M := rfl
theorem gg_t3 (sp__law_names : DSp) (sp__law_take : DSp) {DW : DWt} {DE : DEnds} {p : Rho} {M : Mst} : gg_T3 sp__law_names sp__law_take DW DE p M = gg_R3 sp__law_names sp__law_take DW { DE with nx := gg_T4 sp__law_names sp__law_take DW DE } p M := rfl
theorem gg_t4 (sp__law_names : DSp) (sp__law_take : DSp) {DW : DWt} {DE : DEnds} {p : Rho} {M : Mst} : gg_T4 sp__law_names sp__law_take DW DE p M = gg_R4 sp__law_names sp__law_take DW { DE with nx := gg_T5 sp__law_names sp__law_take DW DE } p M := rfl
theorem gg_t5 (sp__law_names : DSp) (sp__law_take : DSp) {DW : DWt} {DE : DEnds} {p : Rho} {M : Mst} : gg_T5 sp__law_names sp__law_take DW DE p M = gg_R5 sp__law_names sp__law_take DW { DE with nx := gg_T6 sp__law_names sp__law_take DW DE } p M := rfl
theorem gg_t6 (sp__law_names : DSp) (sp__law_take : DSp) {DW : DWt} {DE : DEnds} {p : Rho} {M : Mst} : gg_T6 sp__law_names sp__law_take DW DE p M = gg_R6 sp__law_names sp__law_take DW { DE with nx := gg_T7 sp__law_names sp__law_take DW DE } p M := rfl
theorem gg_t7 (sp__law_names : DSp) (sp__law_take : DSp) {DW : DWt} {DE : DEnds} {p : Rho} {M : Mst} : gg_T7 sp__law_names sp__law_take DW DE p M = gg_R7 sp__law_names sp__law_take DW { DE with nx := gg_T8 sp__law_names sp__law_take DW DE } p M := rfl
theorem gg_t8 (sp__law_names : DSp) (sp__law_take : DSp) {DW : DWt} {DE : DEnds} {p : Rho} {M : Mst} : gg_T8 sp__law_names sp__law_take DW DE p M = gg_R8 sp__law_names sp__law_take DW { DE with nx := gg_T9 sp__law_names sp__law_take DW DE } p M := rfl
theorem gg_t9 (sp__law_names : DSp) (sp__law_take : DSp) {DW : DWt} {DE : DEnds} {p : Rho} {M : Mst} : gg_T9 sp__law_names sp__law_take DW DE p M = gg_R9 sp__law_names sp__law_take DW { DE with nx := gg_T10 sp__law_names sp__law_take DW DE } p M := rfl
def gh_R0 (sp__law_names : DSp) (sp__law_take : DSp) : DTS := (qAsg (qCB (dSorted false) (qCons (qLst false (qCons (qCall sp__law_take [] (qCons (qVar 0) (qCons (qVar 1) qNil))) (qCons (qCall sp__law_take [] (qCons (qVar 0) (qCons (qVar 1) qNil))) qNil))) qNil)) (gUnlD 2 (gConsD (gNameD 7) (gConsD (gNameD 8) gNilD))))
def gh_R1 (sp__law_names : DSp) (sp__law_take : DSp) : DTS := (qIfS (qAnd (qTB (qOp (dEq true) (qVar 7) (qVar 8))) (qTB (qOp (dInD true) (qTup (qCons (qVar 7) (qCons (qVar 8) qNil))) (qVar 5)))) (qDrop (qBM "list" mApp (qVar 5) (qCons (qTup (qCons (qVar 7) (qCons (qVar 8) qNil))) qNil))) qNext)
def gh_T1 (sp__law_names : DSp) (sp__law_take : DSp) : DTS := gh_R1 sp__law_names sp__law_take
def gh_T0 (sp__law_names : DSp) (sp__law_take : DSp) : DTS := qSeq (gh_R0 sp__law_names sp__law_take) (gh_T1 sp__law_names sp__law_take)
theorem gg_for5 (sp__law_names : DSp) (sp__law_take : DSp) : gg_R5 sp__law_names sp__law_take = qFor (qiRng1 (qCons (qOp (dMul false) (qCall sp__law_take [] (qCons (qVar 0) (qCons (qVar 1) qNil))) (qCB dIntX (qCons (qOp (dCmpI fun i j => decide (j < i)) (qVar 1) (qC (.int 2))) qNil))) qNil)) (gNameD 6) (gh_T0 sp__law_names sp__law_take) := rfl
theorem gh_t0 (sp__law_names : DSp) (sp__law_take : DSp) {DW : DWt} {DE : DEnds} {p : Rho} {M : Mst} : gh_T0 sp__law_names sp__law_take DW DE p M = gh_R0 sp__law_names sp__law_take DW { DE with nx := gh_T1 sp__law_names sp__law_take DW DE } p M := rfl
def gi_R0 (sp__law_names : DSp) (sp__law_take : DSp) : DTS := (qAsg (qStep false (qTup (qCons (qOp dIx (qVar 2) (qVar 7)) (qCons (qOp dIx (qVar 2) (qVar 8)) qNil))) qNoPart qNoPart (qPart (qOp (dInt0 fun i j => i - j) (qC (.int 1)) (qOp (dInt CMul fun i j => i * j) (qC (.int 2)) (qCall sp__law_take [] (qCons (qVar 0) (qCons (qC (.int 2)) qNil))))))) (gNameD 10))
def gi_R1 (sp__law_names : DSp) (sp__law_take : DSp) : DTS := (qDrop (qBM "list" mApp (qVar 9) (qCons (qOp (dAdd false) (qVar 10) (qTup (qCons (qOp (dAdd false) (qC (.int 1)) (qCall sp__law_take [] (qCons (qVar 0) (qCons (qVar 3) qNil)))) (qCons (qOp (dMul false) (qCall sp__law_take [] (qCons (qVar 0) (qCons (qC (.int 2)) qNil))) (qCall sp__law_take [] (qCons (qVar 0) (qCons (qC (.int 61)) qNil)))) qNil)))) qNil)))
def gi_T1 (sp__law_names : DSp) (sp__law_take : DSp) : DTS := gi_R1 sp__law_names sp__law_take
def gi_T0 (sp__law_names : DSp) (sp__law_take : DSp) : DTS := qSeq (gi_R0 sp__law_names sp__law_take) (gi_T1 sp__law_names sp__law_take)
theorem gg_for7 (sp__law_names : DSp) (sp__law_take : DSp) : gg_R7 sp__law_names sp__law_take = qFor (qiAny (qVar 5)) (gTupD 2 (gConsD (gNameD 7) (gConsD (gNameD 8) gNilD))) (gi_T0 sp__law_names sp__law_take) := rfl
theorem gi_t0 (sp__law_names : DSp) (sp__law_take : DSp) {DW : DWt} {DE : DEnds} {p : Rho} {M : Mst} : gi_T0 sp__law_names sp__law_take DW DE p M = gi_R0 sp__law_names sp__law_take DW { DE with nx := gi_T1 sp__law_names sp__law_take DW DE } p M := rfl
/-- a ground as the ground laws draw it -/
structure GgOk (ps : List Pc_) (rs : List Rd_) (ss : List Str) : Prop where
  g : GOk ps rs ss
  rn : rs.length ≤ 79
def spGGround : DSp := fun ds M Q _ => ∃ (b : Addr), ds = [.ref b] ∧ M b = some .bag ∧ ∀ ps rs ss, GgOk ps rs ss → Q (grT ps rs ss) M
structure PltOk (m : Nat) (l : List Pr_) : Prop where
  lt : ∀ x ∈ l, x.1 < x.2 ∧ x.2 < m
  nd : l.Nodup
/-- a road drawn: its pair, which way about, minutes, slow minutes -/
abbrev Rw_ := Pr_ × Bool × Int × Int
def rwRd (zs : List Str) (t : Rw_) : Rd_ := if t.2.1 then (zs.getD t.1.2 Str.empty, zs.getD t.1.1 Str.empty, t.2.2.1, t.2.2.2) else (zs.getD t.1.1 Str.empty, zs.getD t.1.2 Str.empty, t.2.2.1, t.2.2.2)
theorem pairs_of {m : Nat} : ∀ {a : Nat} {n : Nat} {os : List (Option D)}, All2 (fun d o => ∃ k : Nat, d = .int (k : Int) ∧ (o = none ∨ ∃ x : Nat, x < k ∧ o = some (prD_ (x, k)))) (rangeD (a : Int) n) os → 
    ∃ l : List Pr_, os.filterMap id = l.map prD_ ∧ l.length ≤ n ∧ (∀ x ∈ l, x.1 < x.2 ∧ a ≤ x.2 ∧ x.2 < a + n) ∧ l.Nodup := by
  have main : ∀ (n : Nat) (ks : List Nat), ks.Pairwise (· < ·) → ks.length = n → ∀ os : List (Option D), All2 (fun d o => ∃ k : Nat, d = .int (k : Int) ∧ (o = none ∨ ∃ x : Nat, x < k ∧ o = some (prD_ (x, k)))) (ks.map fun k : Nat => D.int (k : Int)) os →
      ∃ l : List Pr_, os.filterMap id = l.map prD_ ∧ l.length ≤ n ∧ (∀ x ∈ l, x.1 < x.2 ∧ x.2 ∈ ks) ∧ l.Nodup := by
    intro n ks
    induction ks generalizing n with
    | nil =>
      intro _ e os h
      cases h
      exact ⟨[], rfl, Nat.zero_le _, (fun _ h => nomatch h), List.nodup_nil⟩
    | cons k ks ih =>
      intro hp e os h
      rw [List.pairwise_cons] at hp
      rw [List.map_cons] at h
      cases h with
      | cons h1 h2 =>
        obtain ⟨l, a1, a2, a3, a4⟩ := ih ks.length hp.2 rfl _ h2
        obtain ⟨k', e1, e2⟩ := h1
        have ek : k' = k := by have := D.int.inj e1; omega
        subst ek
        simp only [List.length_cons] at e
        rcases e2 with rfl | ⟨x, hx, rfl⟩
        · exact ⟨l, by simpa using a1, by omega, fun y hy => ⟨(a3 y hy).1, List.mem_cons_of_mem _ (a3 y hy).2⟩, a4⟩
        · refine ⟨(x, k') :: l, by simp [a1], by simp; omega, fun y hy => ?_, List.nodup_cons.mpr ⟨fun hm => ?_, a4⟩⟩
          · rcases List.mem_cons.mp hy with rfl | hy
            · exact ⟨hx, List.mem_cons_self ..⟩
            · exact ⟨(a3 y hy).1, List.mem_cons_of_mem _ (a3 y hy).2⟩
          · have := hp.1 _ (a3 _ hm).2
            exact absurd this (Nat.lt_irrefl _)
  intro a n os h
  have er : rangeD (a : Int) n = (List.range' a n).map fun k : Nat => D.int (k : Int) := by
    unfold rangeD
    rw [List.range'_eq_map_range, List.map_map]
    refine List.map_congr_left fun i _ => ?_
    show D.int ((a : Int) + i) = D.int ((a + i : Nat) : Int)
    rw [Int.natCast_add]
  rw [er] at h
  obtain ⟨l, a1, a2, a3, a4⟩ := main n (List.range' a n) List.pairwise_lt_range' (by simp) os h
  refine ⟨l, a1, a2, fun x hx => ⟨(a3 x hx).1, ?_⟩, a4⟩
  have := (a3 x hx).2
  rw [List.mem_range'_1] at this
  omega
theorem map_erase {α β : Type} (f : α → β) : ∀ (l : List α) (j : Nat), (l.map f).eraseIdx j = (l.eraseIdx j).map f
  | [], _ => rfl
  | _ :: _, 0 => rfl
  | a :: l, j + 1 => by
    show f a :: (l.map f).eraseIdx j = f a :: (l.eraseIdx j).map f
    rw [map_erase f l j]
theorem erase_perm {α : Type} : ∀ {l : List α} {j : Nat} (h : j < l.length), (l[j] :: l.eraseIdx j).Perm l
  | [], _, h => by cases h
  | a :: l, 0, _ => List.Perm.refl _
  | a :: l, j + 1, h => by
    have := erase_perm (l := l) (j := j) (by simpa using h)
    show (l[j]'(by simpa using h) :: a :: l.eraseIdx j).Perm (a :: l)
    exact (List.Perm.swap ..).trans (this.cons a)
theorem ggr_ok (ds : List D) (M : Mst) (Q : DK) (Ed : DX → Mst → Prop) (h : upSp spGGround ds M Q Ed) : qGGround spGNames spTake (fun x _ M => Ed x M) (retE Q) (startD ["_law_bag_here", "_law_many", "_law_names_here", "_law_longest", "_law_sites", "_law_pairs", "_law_k", "_law_one", "_law_far", "_law_lanes", "_law_ends", "_law_left", "_law_posts", "_law_name"] ds) M := by
  obtain ⟨Q0, E0, ⟨b, rfl, hb, k0⟩, kq, _⟩ := h
  have k : ∀ ps rs ss, GgOk ps rs ss → ∀ M', Sub M M' → Q (grT ps rs ss) M' := fun ps rs ss hg M' s => kq _ _ _ s (k0 ps rs ss hg)
  clear kq k0
  rw [gg_cut, gg_t0]
  show gg_R0 _ _ _ _ [some (.ref b), none, none, none, none, none, none, none, none, none, none, none, none, none] M
  simp only [gg_R0, qSeq, qAsg, qTup, qCons, qNil, qOp, qUn, qC, qCall, qVar, qLst, newL_f, qIfS, qTB, qNext, qRet, qDrop, qFor, qCB, qAug, qSl, qPart, qNoPart, gNameD, gSub_eq, dInt_i, dInt0_i, dAdd_i, dCmpI_i, List.set_cons_zero, List.set_cons_succ, List.getElem?_cons_zero, List.getElem?_cons_succ, List.append_nil, z_l0, z_l1, z_l2, z_l3, z_l4, z_l5, z_l6, z_l7, z_l8, z_l9, z_l19, z_l24, z_l25, true_and]
  refine take_call hb (by decide) (by decide) fun r a b1 => pick_t a b1 fun d hd => ?_
  obtain ⟨m, m0, m1, rfl⟩ : ∃ m : Nat, 1 ≤ m ∧ m ≤ 40 ∧ d = .int (m : Int) := by
    simp only [List.mem_cons, List.not_mem_nil, or_false] at hd
    rcases hd with rfl | rfl | rfl | rfl | rfl | rfl
    · exact ⟨5, by decide, by decide, rfl⟩
    · exact ⟨2, by decide, by decide, rfl⟩
    · exact ⟨9, by decide, by decide, rfl⟩
    · exact ⟨16, by decide, by decide, rfl⟩
    · exact ⟨40, by decide, by decide, rfl⟩
    · exact ⟨1, by decide, by decide, rfl⟩
  show gg_T1 _ _ _ _ _ M
  rw [gg_t1]
  show gg_R1 _ _ _ _ _ M
  simp only [gg_R1, qSeq, qAsg, qTup, qCons, qNil, qOp, qUn, qC, qCall, qVar, qLst, newL_f, qIfS, qTB, qNext, qRet, qDrop, qFor, qCB, qAug, qSl, qPart, qNoPart, gNameD, gSub_eq, dInt_i, dInt0_i, dAdd_i, dCmpI_i, List.set_cons_zero, List.set_cons_succ, List.getElem?_cons_zero, List.getElem?_cons_succ, List.append_nil, z_l0, z_l1, z_l2, z_l3, z_l4, z_l5, z_l6, z_l7, z_l8, z_l9, z_l19, z_l24, z_l25, true_and]
  refine ⟨b, m, rfl, hb, by omega, fun zs lz nz hz => ?_⟩
  show gg_T2 _ _ _ _ _ M
  rw [gg_t2]
  show gg_R2 _ _ _ _ _ M
  simp only [gg_R2, qSeq, qAsg, qTup, qCons, qNil, qOp, qUn, qC, qCall, qVar, qLst, newL_f, qIfS, qTB, qNext, qRet, qDrop, qFor, qCB, qAug, qSl, qPart, qNoPart, gNameD, gSub_eq, dInt_i, dInt0_i, dAdd_i, dCmpI_i, List.set_cons_zero, List.set_cons_succ, List.getElem?_cons_zero, List.getElem?_cons_succ, List.append_nil, z_l0, z_l1, z_l2, z_l3, z_l4, z_l5, z_l6, z_l7, z_l8, z_l9, z_l19, z_l24, z_l25, true_and]
  refine take_call hb (by decide) (by decide) fun r a b1 => pick_t a b1 fun d hd => ?_
  obtain ⟨mo, mo0, mo1, rfl⟩ : ∃ mo : Int, 1 ≤ mo ∧ mo ≤ 60 ∧ d = .int mo := by
    simp only [List.mem_cons, List.not_mem_nil, or_false] at hd
    rcases hd with rfl | rfl | rfl
    · exact ⟨3, by decide, by decide, rfl⟩
    · exact ⟨12, by decide, by decide, rfl⟩
    · exact ⟨60, by decide, by decide, rfl⟩
  show gg_T3 _ _ _ _ _ M
  rw [gg_t3]
  show gg_R3 _ _ _ _ _ M
  simp only [gg_R3, qLc, qiAny, res_lst, qSeq, qAsg, qTup, qCons, qNil, qOp, qUn, qC, qCall, qVar, qLst, newL_f, qIfS, qTB, qNext, qRet, qDrop, qFor, qCB, qAug, qSl, qPart, qNoPart, gNameD, gSub_eq, dInt_i, dInt0_i, dAdd_i, dCmpI_i, List.set_cons_zero, List.set_cons_succ, List.getElem?_cons_zero, List.getElem?_cons_succ, List.append_nil, z_l0, z_l1, z_l2, z_l3, z_l4, z_l5, z_l6, z_l7, z_l8, z_l9, z_l19, z_l24, z_l25, true_and]
  intro c hc
  have hbc : ∀ acc, put M c (.lst acc) b = some .bag := fun acc => put_keep hb hc
  refine compL_rel hc (fun d o => ∃ z k, d = .str z ∧ o = some (pcD (z, k)) ∧ 1 ≤ k ∧ k ≤ 4) (fun _ => trivial) (zs.map .str) [] (by simp; omega) (fun d hd acc R hR => ?_) fun os hos => ?_
  · obtain ⟨z, hz1, rfl⟩ := List.mem_map.mp hd
    simp only [wipeD, qYes, if_true, qSeq, qAsg, qTup, qCons, qNil, qOp, qUn, qC, qCall, qVar, qLst, newL_f, qIfS, qTB, qNext, qRet, qDrop, qFor, qCB, qAug, qSl, qPart, qNoPart, gNameD, gSub_eq, dInt_i, dInt0_i, dAdd_i, dCmpI_i, List.set_cons_zero, List.set_cons_succ, List.getElem?_cons_zero, List.getElem?_cons_succ, List.append_nil, z_l0, z_l1, z_l2, z_l3, z_l4, z_l5, z_l6, z_l7, z_l8, z_l9, z_l19, z_l24, z_l25, true_and]
    refine take_call (hbc _) (by decide) (by decide) fun r1 a1 b1 => ?_
    simp only [dAdd_i]
    exact hR _ ⟨z, 1 + r1, rfl, rfl, by omega, by omega⟩
  obtain ⟨ps, e1, e2, e3⟩ := places_of hos
  simp only [Bool.false_eq_true, if_false, List.nil_append, e1]
  clear hbc hc e1 hos
  have lps : ps.length = m := by rw [← lz, ← e2, List.length_map]
  show gg_T4 _ _ _ _ _ M
  rw [gg_t4]
  show gg_R4 _ _ _ _ _ M
  simp only [gg_R4, qLc, qiRng2, qSeq, qAsg, qTup, qCons, qNil, qOp, qUn, qC, qCall, qVar, qLst, newL_f, qIfS, qTB, qNext, qRet, qDrop, qFor, qCB, qAug, qSl, qPart, qNoPart, gNameD, gSub_eq, dInt_i, dInt0_i, dAdd_i, dCmpI_i, List.set_cons_zero, List.set_cons_succ, List.getElem?_cons_zero, List.getElem?_cons_succ, List.append_nil, z_l0, z_l1, z_l2, z_l3, z_l4, z_l5, z_l6, z_l7, z_l8, z_l9, z_l19, z_l24, z_l25, true_and]
  refine ⟨by omega, by omega, fun pl hpl => ?_⟩
  have hb1 : ∀ o, put M pl o b = some .bag := fun o => put_keep hb hpl
  rw [show ((m : Int) - 1).toNat = m - 1 by omega]
  refine compL_rel hpl (fun d o => ∃ k : Nat, d = .int (k : Int) ∧ (o = none ∨ ∃ x : Nat, x < k ∧ o = some (prD_ (x, k)))) (fun _ => trivial) (rangeD ((1 : Nat) : Int) (m - 1)) [] (by simp [rangeD]; omega) (fun d hd acc R hR => ?_) fun os hos => ?_
  · obtain ⟨i, hi, rfl⟩ : ∃ i : Nat, (1 ≤ i ∧ i < m) ∧ d = .int (i : Int) := by
      unfold rangeD at hd
      obtain ⟨j, hj, rfl⟩ := List.mem_map.mp hd
      rw [List.mem_range] at hj
      exact ⟨1 + j, by omega, by rw [Int.natCast_add]⟩
    simp only [wipeD, qTB, qSeq, qAsg, qTup, qCons, qNil, qOp, qUn, qC, qCall, qVar, qLst, newL_f, qIfS, qTB, qNext, qRet, qDrop, qFor, qCB, qAug, qSl, qPart, qNoPart, gNameD, gSub_eq, dInt_i, dInt0_i, dAdd_i, dCmpI_i, List.set_cons_zero, List.set_cons_succ, List.getElem?_cons_zero, List.getElem?_cons_succ, List.append_nil, z_l0, z_l1, z_l2, z_l3, z_l4, z_l5, z_l6, z_l7, z_l8, z_l9, z_l19, z_l24, z_l25, true_and]
    refine take_call (hb1 _) (by decide) (by decide) fun r1 a1 b1 => ?_
    simp only [dCmpI_i]
    by_cases c : 0 < r1
    · rw [decide_eq_true c]
      simp only [if_true]
      refine take_call (hb1 _) (by omega) (by omega) fun r2 a2 b2 => ?_
      obtain ⟨x, rfl⟩ : ∃ q : Nat, r2 = q := ⟨r2.toNat, by omega⟩
      exact hR _ ⟨i, rfl, .inr ⟨x, by omega, rfl⟩⟩
    · rw [decide_eq_false c]
      simp only [Bool.false_eq_true, if_false]
      exact hR _ ⟨i, rfl, .inl rfl⟩
  obtain ⟨l, e1, l1, l2, l3⟩ := pairs_of (m := m) hos
  simp only [if_true, List.nil_append, e1]
  have hl : PltOk m l := ⟨fun x hx => ⟨(l2 x hx).1, by have := (l2 x hx).2.2; omega⟩, l3⟩
  clear l2 l3 hos e1
  show gg_T5 _ _ _ _ _ _
  rw [gg_t5]
  show gg_R5 _ _ _ _ _ _
  rw [gg_for5]
  simp only [qFor, qiRng1, dMul, res_int, z_intX_b, dCmpI_i, qSeq, qAsg, qTup, qCons, qNil, qOp, qUn, qC, qCall, qVar, qLst, newL_f, qIfS, qTB, qNext, qRet, qDrop, qFor, qCB, qAug, qSl, qPart, qNoPart, gNameD, gSub_eq, dInt_i, dInt0_i, dAdd_i, dCmpI_i, List.set_cons_zero, List.set_cons_succ, List.getElem?_cons_zero, List.getElem?_cons_succ, List.append_nil, z_l0, z_l1, z_l2, z_l3, z_l4, z_l5, z_l6, z_l7, z_l8, z_l9, z_l19, z_l24, z_l25, true_and]
  refine take_call (hb1 _) (by omega) (by omega) fun r2 a2 b2 => ?_
  generalize hv : r2 * (if decide (2 < (m : Int)) = true then (1 : Int) else 0) = v
  have hv2 : 0 ≤ v ∧ v ≤ 39 := by rw [← hv]; split <;> omega
  refine ⟨.inl ⟨by omega, by omega⟩, ?_⟩
  refine ⟨by omega, by omega, ?_⟩
  refine loopL_inv (n := v.toNat) (fun i p M' => ∃ (l' : List Pr_) (x6 x7 x8 : Option D), p = [some (.ref b), some (.int (m : Int)), some (stL zs), some (.int mo), some (.xtp (ps.map pcD)), some (.ref pl), x6, x7, x8, none, none, none, none, none] ∧ M' = put M pl (.lst (l'.map prD_)) ∧ PltOk m l' ∧ l'.length ≤ l.length + i) (by rw [rangeD_len, hv]) (fun i d p M' R hd hI hR => ?_) (fun p M' hI => ?_) ⟨l, none, none, none, rfl, rfl, hl, by omega⟩
  · obtain ⟨l', x6, x7, x8, rfl, rfl, hl', hle⟩ := hI
    obtain ⟨hi, rfl⟩ := range_at hd
    refine ⟨trivial, ?_⟩
    simp only [gNameD, List.set_cons_zero, List.set_cons_succ]
    rw [gh_t0]
    show gh_R0 _ _ _ _ _ _
    simp only [gh_R0, gUnlD, gConsD, gNilD, dSorted, qSeq, qAsg, qTup, qCons, qNil, qOp, qUn, qC, qCall, qVar, qLst, newL_f, qIfS, qTB, qNext, qRet, qDrop, qFor, qCB, qAug, qSl, qPart, qNoPart, gNameD, gSub_eq, dInt_i, dInt0_i, dAdd_i, dCmpI_i, List.set_cons_zero, List.set_cons_succ, List.getElem?_cons_zero, List.getElem?_cons_succ, List.append_nil, z_l0, z_l1, z_l2, z_l3, z_l4, z_l5, z_l6, z_l7, z_l8, z_l9, z_l19, z_l24, z_l25, true_and]
    refine take_call (hb1 _) (by omega) (by omega) fun r3 a3 b3 => take_call (hb1 _) (by omega) (by omega) fun r4 a4 b4 => ?_
    simp only [res_lst, intsL]
    intro ns hp hs
    obtain ⟨x, y, rfl, hxy, hy, hx⟩ : ∃ x y : Nat, ns = [(x : Int), (y : Int)] ∧ x ≤ y ∧ y < m ∧ x < m := by
      have hl := hp.length_eq
      match ns, hl, hp, hs with
      | [x, y], _, hp, hs =>
        have q : ∀ z ∈ [x, y], 0 ≤ z ∧ z < m := fun z hz => by
          have := hp.mem_iff.mp hz
          simp only [List.mem_cons, List.not_mem_nil, or_false] at this
          rcases this with rfl | rfl
          · exact ⟨a3, b3⟩
          · exact ⟨a4, b4⟩
        have qx := q x (by simp)
        have qy := q y (by simp)
        have hxy : x ≤ y := by
          rw [List.pairwise_cons] at hs
          exact hs.1 y (by simp)
        refine ⟨x.toNat, y.toNat, ?_, by omega, by omega, by omega⟩
        rw [Int.toNat_of_nonneg qx.1, Int.toNat_of_nonneg qy.1]
    simp only [List.map_cons, List.map_nil, List.length_cons, List.length_nil, true_and, List.set_cons_zero, List.set_cons_succ, gNameD, res_lst]
    have q1 : ∀ (x : Pr_) R, dInD true (.tup [.int (x.1 : Int), .int (x.2 : Int)]) (.ref pl) (put M pl (.lst (l'.map prD_))) R = R (.bl (!decide (x ∈ l'))) (put M pl (.lst (l'.map prD_))) := fun x R => in_prs put_same
    have q2 := q1 (x, y)
    simp only at q2
    show gh_T1 _ _ _ _ _ _
    simp only [gh_T1, gh_R1, qAnd, q2, z_ne_int, qSeq, qAsg, qTup, qCons, qNil, qOp, qUn, qC, qCall, qVar, qLst, newL_f, qIfS, qTB, qNext, qRet, qDrop, qFor, qCB, qAug, qSl, qPart, qNoPart, gNameD, gSub_eq, dInt_i, dInt0_i, dAdd_i, dCmpI_i, List.set_cons_zero, List.set_cons_succ, List.getElem?_cons_zero, List.getElem?_cons_succ, List.append_nil, z_l0, z_l1, z_l2, z_l3, z_l4, z_l5, z_l6, z_l7, z_l8, z_l9, z_l19, z_l24, z_l25, true_and]
    by_cases c1 : (x : Int) = y
    · rw [decide_eq_true c1]
      simp only [Bool.not_true, Bool.false_eq_true, if_false]
      exact hR _ _ ⟨l', _, _, _, rfl, rfl, hl', by omega⟩
    rw [decide_eq_false c1]
    simp only [Bool.not_false, if_true]
    by_cases c2 : (x, y) ∈ l'
    · rw [decide_eq_true c2]
      simp only [Bool.not_true, Bool.false_eq_true, if_false]
      exact hR _ _ ⟨l', _, _, _, rfl, rfl, hl', by omega⟩
    rw [decide_eq_false c2]
    simp only [Bool.not_false, if_true, qBM, mApp, put_same, put_put, res_r put_same, qSeq, qAsg, qTup, qCons, qNil, qOp, qUn, qC, qCall, qVar, qLst, newL_f, qIfS, qTB, qNext, qRet, qDrop, qFor, qCB, qAug, qSl, qPart, qNoPart, gNameD, gSub_eq, dInt_i, dInt0_i, dAdd_i, dCmpI_i, List.set_cons_zero, List.set_cons_succ, List.getElem?_cons_zero, List.getElem?_cons_succ, List.append_nil, z_l0, z_l1, z_l2, z_l3, z_l4, z_l5, z_l6, z_l7, z_l8, z_l9, z_l19, z_l24, z_l25, true_and]
    refine ⟨rfl, by simp; omega, hR _ _ ⟨l' ++ [(x, y)], _, _, _, rfl, by simp [prD_], ⟨fun z hz => ?_, ?_⟩, by simp; omega⟩⟩
    · rcases List.mem_append.mp hz with h | h
      · exact hl'.lt z h
      · rw [List.mem_singleton.mp h]; exact ⟨by show x < y; omega, hy⟩
    · rw [List.nodup_append]
      exact ⟨hl'.nd, by simp, fun a ha b hb e => c2 (by rw [List.mem_singleton.mp hb] at e; rw [← e]; exact ha)⟩
  · obtain ⟨l', x6, x7, x8, rfl, rfl, hl', hle⟩ := hI
    refine ⟨trivial, ?_⟩
    have hle : l'.length ≤ 78 := by omega
    clear hl l1
    revert hle hl'
    generalize l' = l
    intro hl hle
    show gg_T6 _ _ _ _ _ _
    rw [gg_t6]
    show gg_R6 _ _ _ _ _ _
    simp only [gg_R6, newL_t, qSeq, qAsg, qTup, qCons, qNil, qOp, qUn, qC, qCall, qVar, qLst, newL_f, qIfS, qTB, qNext, qRet, qDrop, qFor, qCB, qAug, qSl, qPart, qNoPart, gNameD, gSub_eq, dInt_i, dInt0_i, dAdd_i, dCmpI_i, List.set_cons_zero, List.set_cons_succ, List.getElem?_cons_zero, List.getElem?_cons_succ, List.append_nil, z_l0, z_l1, z_l2, z_l3, z_l4, z_l5, z_l6, z_l7, z_l8, z_l9, z_l19, z_l24, z_l25, true_and]
    intro rl hrl
    have nrl : pl ≠ rl := fun e => by rw [← e, put_same] at hrl; cases hrl
    have hrl0 : M rl = none := by rw [put_ne nrl.symm] at hrl; exact hrl
    have hb2 : ∀ o, put (put M pl (.lst (l.map prD_))) rl o b = some .bag := fun o => put_keep (hb1 _) hrl
    have hp2 : ∀ o, put (put M pl (.lst (l.map prD_))) rl o pl = some (.lst (l.map prD_)) := fun o => by rw [put_ne nrl, put_same]
    show gg_T7 _ _ _ _ _ _
    rw [gg_t7]
    show gg_R7 _ _ _ _ _ _
    rw [gg_for7]
    simp only [qFor, qiAny, qSeq, qAsg, qTup, qCons, qNil, qOp, qUn, qC, qCall, qVar, qLst, newL_f, qIfS, qTB, qNext, qRet, qDrop, qFor, qCB, qAug, qSl, qPart, qNoPart, gNameD, gSub_eq, dInt_i, dInt0_i, dAdd_i, dCmpI_i, List.set_cons_zero, List.set_cons_succ, List.getElem?_cons_zero, List.getElem?_cons_succ, List.append_nil, z_l0, z_l1, z_l2, z_l3, z_l4, z_l5, z_l6, z_l7, z_l8, z_l9, z_l19, z_l24, z_l25, true_and]
    rw [hp2]
    refine loopL_inv (n := l.length) (fun i p M' => ∃ (ts : List Rw_) (x7 x8 x10 : Option D), p = [some (.ref b), some (.int (m : Int)), some (stL zs), some (.int mo), some (.xtp (ps.map pcD)), some (.ref pl), x6, x7, x8, some (.ref rl), x10, none, none, none] ∧ M' = put (put M pl (.lst (l.map prD_))) rl (.lst ((ts.map (rwRd zs)).map rdD)) ∧
      ts.map (·.1) = l.take i ∧ ∀ t ∈ ts, 1 ≤ t.2.2.1 ∧ t.2.2.1 ≤ 60 ∧ 0 ≤ t.2.2.2 ∧ t.2.2.2 ≤ 60) (by rw [List.length_map]) (fun i d p M' R hd hI hR => ?_) (fun p M' hI => ?_) ⟨[], x7, x8, none, rfl, rfl, rfl, fun _ h => nomatch h⟩
    · obtain ⟨ts, y7, y8, y10, rfl, rfl, hr1, hr2⟩ := hI
      rw [List.getElem?_map] at hd
      obtain ⟨x, hx, rfl⟩ := Option.map_eq_some_iff.mp hd
      have hi := (List.getElem?_eq_some_iff.mp hx).1
      have hlx := hl.lt x (List.mem_of_getElem? hx)
      have lrs : ts.length = i := by have := congrArg List.length hr1; simp [List.length_take] at this; omega
      refine ⟨hp2 _, ?_⟩
      show gTupD 2 _ (.tup [.int (x.1 : Int), .int (x.2 : Int)]) _ _ _ _
      simp only [gTupD, gConsD, gNilD, res_tup, List.length_cons, List.length_nil, true_and, gNameD, List.set_cons_zero, List.set_cons_succ]
      rw [gi_t0]
      show gi_R0 _ _ _ _ _ _
      simp only [gi_R0, qStep, qSeq, qAsg, qTup, qCons, qNil, qOp, qUn, qC, qCall, qVar, qLst, newL_f, qIfS, qTB, qNext, qRet, qDrop, qFor, qCB, qAug, qSl, qPart, qNoPart, gNameD, gSub_eq, dInt_i, dInt0_i, dAdd_i, dCmpI_i, List.set_cons_zero, List.set_cons_succ, List.getElem?_cons_zero, List.getElem?_cons_succ, List.append_nil, z_l0, z_l1, z_l2, z_l3, z_l4, z_l5, z_l6, z_l7, z_l8, z_l9, z_l19, z_l24, z_l25, true_and]
      have g1 : zs[x.1]? = some (zs.getD x.1 Str.empty) := by rw [List.getD_eq_getElem?_getD, List.getElem?_eq_getElem (by omega)]; rfl
      have g2 : zs[x.2]? = some (zs.getD x.2 Str.empty) := by rw [List.getD_eq_getElem?_getD, List.getElem?_eq_getElem (by omega)]; rfl
      rw [ix_strs g1, ix_strs g2]
      refine take_call (hb2 _) (by decide) (by decide) fun s1 c1 c2 => ?_
      refine ⟨.inl ⟨by omega, by omega⟩, ?_⟩
      have ends : ∀ R : DK, R (.tup (if 0 < s1 then [.str (zs.getD x.2 Str.empty), .str (zs.getD x.1 Str.empty)] else [.str (zs.getD x.1 Str.empty), .str (zs.getD x.2 Str.empty)])) (put (put M pl (.lst (l.map prD_))) rl (.lst ((ts.map (rwRd zs)).map rdD))) → dStep false (.tup [.str (zs.getD x.1 Str.empty), .str (zs.getD x.2 Str.empty)]) none none (1 - 2 * s1) (put (put M pl (.lst (l.map prD_))) rl (.lst ((ts.map (rwRd zs)).map rdD))) R := fun R hR => by
        unfold dStep stepD
        by_cases c : 0 < s1
        · have : s1 = 1 := by omega
          subst this
          exact hR
        · have : s1 = 0 := by omega
          subst this
          exact hR
      simp only [dInt0_i]
      refine ends _ ?_
      show gi_T1 _ _ _ _ _ _
      simp only [gi_T1, gi_R1, qBM, qSeq, qAsg, qTup, qCons, qNil, qOp, qUn, qC, qCall, qVar, qLst, newL_f, qIfS, qTB, qNext, qRet, qDrop, qFor, qCB, qAug, qSl, qPart, qNoPart, gNameD, gSub_eq, dInt_i, dInt0_i, dAdd_i, dCmpI_i, List.set_cons_zero, List.set_cons_succ, List.getElem?_cons_zero, List.getElem?_cons_succ, List.append_nil, z_l0, z_l1, z_l2, z_l3, z_l4, z_l5, z_l6, z_l7, z_l8, z_l9, z_l19, z_l24, z_l25, true_and]
      refine ⟨by rw [res_r put_same]; rfl, ?_⟩
      refine take_call (hb2 _) (by omega) (by omega) fun s2 c3 c4 => ?_
      simp only [dAdd_i]
      refine take_call (hb2 _) (by decide) (by decide) fun s3 c5 c6 => take_call (hb2 _) (by decide) (by decide) fun s4 c7 c8 => ?_
      simp only [dMul, res_int]
      generalize hw : s3 * s4 = sl
      have hsl : 0 ≤ sl ∧ sl ≤ 60 := by
        rcases (show s3 = 0 ∨ s3 = 1 by omega) with rfl | rfl
        · rw [← hw]; omega
        · rw [← hw]; omega
      refine ⟨.inl ⟨by omega, by omega⟩, ?_⟩
      have fin : rdD (rwRd zs (x, decide (0 < s1), 1 + s2, sl)) = .tup ((if 0 < s1 then [.str (zs.getD x.2 Str.empty), .str (zs.getD x.1 Str.empty)] else [.str (zs.getD x.1 Str.empty), .str (zs.getD x.2 Str.empty)]) ++ [.int (1 + s2), .int sl]) := by
        unfold rwRd rdD
        by_cases c : 0 < s1
        · simp [c]
        · simp [c]
      refine ⟨by split <;> simp, ?_⟩
      rw [← fin]
      simp only [mApp, put_same, put_put]
      refine ⟨by simp; omega, hR _ _ ⟨ts ++ [(x, decide (0 < s1), 1 + s2, sl)], _, _, _, rfl, by simp, by rw [List.map_append, hr1, List.take_add_one, hx]; simp, fun t ht => ?_⟩⟩
      rcases List.mem_append.mp ht with h | h
      · exact hr2 t h
      · rw [List.mem_singleton.mp h]; exact ⟨by show 1 ≤ 1 + s2; omega, by show 1 + s2 ≤ 60; omega, hsl⟩
    · obtain ⟨ts, y7, y8, y10, rfl, rfl, hr1, hr2⟩ := hI
      rw [List.take_length] at hr1
      have lrs : ts.length = l.length := by have := congrArg List.length hr1; simpa using this
      refine ⟨hp2 _, ?_⟩
      dsimp only
      rw [gg_t8]
      show gg_R8 spGNames spTake _ _ _ _
      simp only [gg_R8, dList, res_lst, newL_t, qSeq, qAsg, qTup, qCons, qNil, qOp, qUn, qC, qCall, qVar, qLst, newL_f, qIfS, qTB, qNext, qRet, qDrop, qFor, qCB, qAug, qSl, qPart, qNoPart, gNameD, gSub_eq, dInt_i, dInt0_i, dAdd_i, dCmpI_i, List.set_cons_zero, List.set_cons_succ, List.getElem?_cons_zero, List.getElem?_cons_succ, List.append_nil, z_l0, z_l1, z_l2, z_l3, z_l4, z_l5, z_l6, z_l7, z_l8, z_l9, z_l19, z_l24, z_l25, true_and]
      intro ll hll
      have nsr : rl ≠ ll := fun e => by rw [← e, put_same] at hll; cases hll
      have hb3 : ∀ o, put (put (put M pl (.lst (l.map prD_))) rl (.lst ((ts.map (rwRd zs)).map rdD))) ll o b = some .bag := fun o => put_keep (hb2 _) hll
      have hr3 : ∀ o, put (put (put M pl (.lst (l.map prD_))) rl (.lst ((ts.map (rwRd zs)).map rdD))) ll o rl = some (.lst ((ts.map (rwRd zs)).map rdD)) := fun o => by rw [put_ne nsr, put_same]
      show gg_T9 _ _ _ _ _ _
      rw [gg_t9]
      show gg_R9 _ _ _ _ _ _
      simp only [gg_R9, qLc, qiRng1, dMin2, res_int, dAdd_i, qSeq, qAsg, qTup, qCons, qNil, qOp, qUn, qC, qCall, qVar, qLst, newL_f, qIfS, qTB, qNext, qRet, qDrop, qFor, qCB, qAug, qSl, qPart, qNoPart, gNameD, gSub_eq, dInt_i, dInt0_i, dAdd_i, dCmpI_i, List.set_cons_zero, List.set_cons_succ, List.getElem?_cons_zero, List.getElem?_cons_succ, List.append_nil, z_l0, z_l1, z_l2, z_l3, z_l4, z_l5, z_l6, z_l7, z_l8, z_l9, z_l19, z_l24, z_l25, true_and]
      refine take_call (hb3 _) (by split <;> omega) (by split <;> omega) fun n n0 n1 => ?_
      have hn : n ≤ 12 ∧ n ≤ m := by split at n1 <;> omega
      refine ⟨by omega, by omega, fun c hc => ?_⟩
      generalize hB : put (put M pl (.lst (l.map prD_))) rl (.lst ((ts.map (rwRd zs)).map rdD)) = B at hb3 hr3 hll hc
      have ncl : c ≠ ll := fun e => by rw [e, put_same] at hc; cases hc
      have hcB : B c = none := by rw [put_ne ncl] at hc; exact hc
      have nbl : b ≠ ll := fun e => by have := hb3 (.lst []); rw [e, put_same] at this; cases this
      have hbB : B b = some .bag := by have := hb3 (.lst []); rwa [put_ne nbl] at this
      have nbc : b ≠ c := fun e => by rw [e, hcB] at hbB; cases hbB
      have hrB : B rl = some (.lst ((ts.map (rwRd zs)).map rdD)) := by have := hr3 (.lst []); rwa [put_ne nsr] at this
      have nrc : rl ≠ c := fun e => by rw [e, hcB] at hrB; cases hrB
      refine compL_st (fun i acc M' => ∃ left done : List Str, acc = done.map .str ∧ M' = put (put B ll (.lst (left.map .str))) c (.lst acc) ∧ (left ++ done).Perm zs ∧ done.length = i) (fun i acc M' hI => ?_) (by rw [rangeD_len]; omega) (fun i d acc M' R hd hI ny nn => ?_) (fun acc M' hI => ?_) ⟨zs, [], rfl, rfl, by simp, rfl⟩
      · obtain ⟨left, done, rfl, rfl, _, hd⟩ := hI
        exact ⟨trivial, put_same, by rw [List.length_map]; omega⟩
      · obtain ⟨left, done, rfl, rfl, hp, hdl⟩ := hI
        obtain ⟨hi, rfl⟩ := range_at hd
        have hlen : left.length = m - i := by have := hp.length_eq; rw [List.length_append] at this; omega
        have e1 : put (put B ll (.lst (left.map .str))) c (.lst (done.map .str)) ll = some (.lst (left.map .str)) := by rw [put_ne ncl.symm, put_same]
        have e2 : put (put B ll (.lst (left.map .str))) c (.lst (done.map .str)) b = some .bag := by rw [put_ne nbc, put_ne nbl]; exact hbB
        simp only [wipeD, gNameD, qYes, if_true, qBM, dLen, res_r e1, qSeq, qAsg, qTup, qCons, qNil, qOp, qUn, qC, qCall, qVar, qLst, newL_f, qIfS, qTB, qNext, qRet, qDrop, qFor, qCB, qAug, qSl, qPart, qNoPart, gNameD, gSub_eq, dInt_i, dInt0_i, dAdd_i, dCmpI_i, List.set_cons_zero, List.set_cons_succ, List.getElem?_cons_zero, List.getElem?_cons_succ, List.append_nil, z_l0, z_l1, z_l2, z_l3, z_l4, z_l5, z_l6, z_l7, z_l8, z_l9, z_l19, z_l24, z_l25, true_and]
        refine ⟨rfl, ?_⟩
        simp only [List.length_map]
        refine take_call e2 (by omega) (by omega) fun j j0 j1 => ?_
        obtain ⟨j, rfl⟩ : ∃ q : Nat, j = q := ⟨j.toNat, by omega⟩
        have hj : j < left.length := by omega
        simp only [mPopAt, e1]
        refine ⟨j0, by simpa using j1, ?_⟩
        rw [Int.toNat_natCast, List.getElem?_map, List.getElem?_eq_getElem hj]
        show R (some (.str left[j])) _
        refine ny _ _ (by rw [put_ne ncl, put_same]) ⟨left.eraseIdx j, done ++ [left[j]], by simp, ?_, ?_, by simp; omega⟩
        · rw [put_comm ncl, put_put, put_put]
          congr 2
          rw [map_erase]
        · refine List.Perm.trans ?_ hp
          have e3 : (left[j] :: left.eraseIdx j).Perm left := erase_perm hj
          have e4 : (left.eraseIdx j ++ (done ++ [left[j]])).Perm (left[j] :: left.eraseIdx j ++ done) := by
            rw [← List.append_assoc]
            exact List.perm_append_comm
          exact e4.trans (e3.append_right done)
      · obtain ⟨left, done, rfl, rfl, hp, hdl⟩ := hI
        rw [rangeD_len] at hdl
        simp only [Bool.false_eq_true, if_false]
        rw [del_put (by rw [put_ne ncl]; exact hcB)]
        have hr4 : put B ll (.lst (left.map .str)) rl = some (.lst ((ts.map (rwRd zs)).map rdD)) := by rw [put_ne nsr]; exact hrB
        have sub : Sub M (put B ll (.lst (left.map .str))) := by
          rw [← hB] at hll ⊢
          exact (((Sub.refl M).put hpl).put hrl0).put (by
            cases e : M ll with
            | none => rfl
            | some o => rw [((Sub.refl M).put (o := .lst (l.map prD_)) hpl |>.put (o := .lst ((ts.map (rwRd zs)).map rdD)) hrl0) _ _ e] at hll; cases hll)
        generalize put B ll (.lst (left.map .str)) = M4 at hr4 sub
        show gg_T10 spGNames spTake _ _ _ _
        simp only [gg_T10, gg_R10, dTupX, res_r hr4, res_lst, qSeq, qAsg, qTup, qCons, qNil, qOp, qUn, qC, qCall, qVar, qLst, newL_f, qIfS, qTB, qNext, qRet, qDrop, qFor, qCB, qAug, qSl, qPart, qNoPart, gNameD, gSub_eq, dInt_i, dInt0_i, dAdd_i, dCmpI_i, List.set_cons_zero, List.set_cons_succ, List.getElem?_cons_zero, List.getElem?_cons_succ, List.append_nil, z_l0, z_l1, z_l2, z_l3, z_l4, z_l5, z_l6, z_l7, z_l8, z_l9, z_l19, z_l24, z_l25, true_and]
        have ndz : (left ++ done).Nodup := hp.nodup_iff.mpr nz
        have dz : ∀ z ∈ done, z ∈ zs := fun z hz => hp.mem_iff.mp (List.mem_append_right _ hz)
        have tl : ∀ t ∈ ts, t.1.1 < t.1.2 ∧ t.1.2 < m := fun t ht => hl.lt t.1 (by rw [← hr1]; exact List.mem_map_of_mem (f := (·.1)) ht)
        have pm : ∀ z ∈ zs, nameS z = true := hz
        refine k ps (ts.map (rwRd zs)) done ⟨⟨⟨fun r hr => ⟨hz _ (by rw [← e2]; exact List.mem_map_of_mem hr), (e3 r hr).1, (e3 r hr).2⟩, by rw [e2]; exact nz, by omega, by omega, by rw [e2]; exact dz, (List.nodup_append.mp ndz).2.1, by omega⟩, by rw [List.length_map]; omega, fun r hr => ?_, ?_⟩, by rw [List.length_map]; omega⟩ M4 sub
        · obtain ⟨t, ht, rfl⟩ := List.mem_map.mp hr
          obtain ⟨x1, x2⟩ := tl t ht
          obtain ⟨h4, h5, h6, h7⟩ := hr2 t ht
          have ma := getD_mem (zs := zs) (i := t.1.1) (by omega)
          have mb := getD_mem (zs := zs) (i := t.1.2) (by omega)
          have ne : zs.getD t.1.1 Str.empty ≠ zs.getD t.1.2 Str.empty := fun z => by
            have := getD_inj nz (by omega) (by omega) z
            omega
          rw [e2]
          unfold rwRd
          split
          · exact ⟨mb, ma, ne.symm, h4, h5, h6, h7, nameS_tx (hz _ mb), nameS_tx (hz _ ma)⟩
          · exact ⟨ma, mb, ne, h4, h5, h6, h7, nameS_tx (hz _ ma), nameS_tx (hz _ mb)⟩
        · have n1 : (ts.map (·.1)).Nodup := by rw [hr1]; exact hl.nd
          refine List.pairwise_map.mpr (List.Pairwise.imp_of_mem (fun {a b} ha hb hn z => hn ?_) (List.pairwise_map.mp n1))
          obtain ⟨a1, a2⟩ := tl a ha
          obtain ⟨b1, b2⟩ := tl b hb
          have ij : ∀ {i j : Nat}, i < m → j < m → zs.getD i Str.empty = zs.getD j Str.empty → i = j := fun hi hj h => getD_inj nz (by omega) (by omega) h
          unfold SameRd rwRd at z
          have : a.1.1 = b.1.1 ∧ a.1.2 = b.1.2 := by
            split at z <;> split at z <;> dsimp only at z <;> rcases z with ⟨z1, z2⟩ | ⟨z1, z2⟩ <;> (have q1 := ij (by omega) (by omega) z1; have q2 := ij (by omega) (by omega) z2; omega)
          exact Prod.ext this.1 this.2
end DL
namespace DL
open PySem L2 Tx20 Tx21
def strEq : D → Str → Bool
  | .str y, z => decide (y = z)
  | _, _ => false
/-- (word, whole numbers within bounds) -/
def isB (w : Str) (bs : List (Int × Int)) : D → Bool
  | .tup (a :: r) => decide (r.length = bs.length) && (strEq a w && (r.zip bs).all fun p => wholeD p.2.1 p.2.2 p.1)
  | _ => false
def midB (x : D) : Bool := (isB (lit "hose") [(1, 20), (-60, 60)] x || isB (lit "pump") [(0, 120), (1, 5000)] x) || isB (lit "leak") [(0, 1000)] x
def nozB (x : D) : Bool := isB (lit "nozzle") [(0, 2000), (0, 100)] x
end DL
namespace DL
open PySem L2 Tx20 Tx21
end DL
namespace DL
open PySem L2 Tx20 Tx21
inductive LT where
  | noz (ms : List D) (z : D)
  | frk (ms : List D) (a b : LT)
def LT.js : LT → List D
  | .noz ms z => ms ++ [z]
  | .frk ms a b => ms ++ a.js ++ b.js
def LT.n (t : LT) : Nat := t.js.length
def MidsOk (ms : List D) : Prop := (∀ m ∈ ms, midB m = true) ∧ ms.length ≤ 7
def LT.ok : Nat → LT → Prop
  | _, .noz ms z => MidsOk ms ∧ nozB z = true
  | 0, .frk _ _ _ => False
  | f + 1, .frk ms a b => MidsOk ms ∧ a.ok f ∧ b.ok f
end DL
namespace DL
open PySem L2 Tx20 Tx21
@[simp] theorem z_isX {a : Addr} {d : Option Addr} {b : Bool} {c : D} {ns : List Str} {ys : List D} {M : Mst} {Q : DK} : dIsX a d b c [.exc a d ns ys, c] M Q = Q (.bl b) M :=
  propext ⟨fun ⟨_, _, e, h⟩ => h, fun h => ⟨_, _, rfl, h⟩⟩
end DL
namespace DL
open PySem L2 Tx20 Tx21
end DL
namespace DL
open PySem L2 Tx20 Tx21
section
variable {κ κ' α : Type} [DecidableEq κ] [DecidableEq κ']
def kvOf (e : κ → κ') (f : κ → Addr) (l : List (κ × α)) : List (κ' × D) := l.map fun x => (e x.1, .ref (f x.1))
def getA (l : List (κ × α)) (k : κ) : Option α := (l.find? fun x => decide (x.1 = k)).map (·.2)
def putA (l : List (κ × α)) (k : κ) (v : α) : List (κ × α) := if l.any (fun x => decide (x.1 = k)) then l.map (fun x => if x.1 = k then (x.1, v) else x) else l ++ [(k, v)]
def updF {β : Type} (f : κ → β) (k : κ) (a : β) : κ → β := fun x => if x = k then a else f x
@[simp] theorem updF_same {β : Type} {f : κ → β} {k : κ} {a : β} : updF f k a k = a := by simp [updF]
theorem updF_ne {β : Type} {f : κ → β} {k x : κ} {a : β} (h : x ≠ k) : updF f k a x = f x := by simp [updF, h]
theorem getA_some {l : List (κ × α)} {k : κ} {v : α} (h : getA l k = some v) : (k, v) ∈ l := by
  unfold getA at h
  obtain ⟨x, e, rfl⟩ := Option.map_eq_some_iff.mp h
  have h1 := List.find?_some e
  have h2 := List.mem_of_find?_eq_some e
  simp only [decide_eq_true_eq] at h1
  rw [← h1]; exact h2
theorem getA_mem {l : List (κ × α)} (nd : (l.map (·.1)).Nodup) {k : κ} {v : α} (h : (k, v) ∈ l) : getA l k = some v := by
  induction l with
  | nil => cases h
  | cons x l ih =>
    rw [List.map_cons, List.nodup_cons] at nd
    unfold getA
    by_cases hx : x.1 = k
    · rw [List.find?_cons_of_pos (by simpa using hx)]
      rcases List.mem_cons.mp h with h | h
      · rw [← h]; rfl
      · exact absurd (List.mem_map_of_mem (f := (·.1)) h) (by rw [hx] at nd; exact nd.1)
    · rw [List.find?_cons_of_neg (by simpa using hx)]
      rcases List.mem_cons.mp h with h | h
      · exact absurd (by rw [← h]) hx
      · exact ih nd.2 h
theorem getA_none {l : List (κ × α)} {k : κ} (h : getA l k = none) : ∀ x ∈ l, x.1 ≠ k := fun x hx e => by
  unfold getA at h
  rw [Option.map_eq_none_iff] at h
  have := List.find?_eq_none.mp h x hx
  simp [e] at this
theorem getA_put {l : List (κ × α)} {k j : κ} {v : α} : getA (putA l k v) j = if j = k then some v else getA l j := by
  unfold putA
  split
  · next h =>
    obtain ⟨x0, m0, e0⟩ := List.any_eq_true.mp h
    simp only [decide_eq_true_eq] at e0
    clear h
    unfold getA
    induction l with
    | nil => cases m0
    | cons x l ih =>
      rw [List.map_cons]
      by_cases hx : x.1 = k
      · rw [if_pos hx]
        by_cases hj : j = k
        · subst hj; rw [if_pos rfl, List.find?_cons_of_pos (by simpa using hx)]; rfl
        · rw [if_neg hj, List.find?_cons_of_neg (by simp [hx]; exact fun e => hj e.symm), List.find?_cons_of_neg (by simp [hx]; exact fun e => hj e.symm)]
          by_cases hl : ∃ y ∈ l, y.1 = k
          · obtain ⟨y, hy, ey⟩ := hl
            clear ih
            have gen : ∀ l : List (κ × α), ((l.map fun x => if x.1 = k then (x.1, v) else x).find? fun x => decide (x.1 = j)).map (·.2) = (l.find? fun x => decide (x.1 = j)).map (·.2) := fun l => by
              induction l with
              | nil => rfl
              | cons z l ih =>
                rw [List.map_cons]
                by_cases hz : z.1 = k
                · rw [if_pos hz, List.find?_cons_of_neg (by simp [hz]; exact fun e => hj e.symm), List.find?_cons_of_neg (by simp [hz]; exact fun e => hj e.symm)]; exact ih
                · rw [if_neg hz]
                  by_cases hz2 : z.1 = j
                  · rw [List.find?_cons_of_pos (by simpa using hz2), List.find?_cons_of_pos (by simpa using hz2)]
                  · rw [List.find?_cons_of_neg (by simpa using hz2), List.find?_cons_of_neg (by simpa using hz2)]; exact ih
            exact gen l
          · have e : l.map (fun x => if x.1 = k then (x.1, v) else x) = l := by
              have : ∀ y ∈ l, (if y.1 = k then (y.1, v) else y) = y := fun y hy => if_neg fun e => hl ⟨y, hy, e⟩
              exact (List.map_congr_left this).trans (List.map_id' l)
            rw [e]
      · rw [if_neg hx]
        have m1 : x0 ∈ l := by
          rcases List.mem_cons.mp m0 with e | m
          · exact absurd (by rw [← e]; exact e0) hx
          · exact m
        by_cases hj : x.1 = j
        · rw [List.find?_cons_of_pos (by simpa using hj), if_neg (by rw [← hj]; exact hx), List.find?_cons_of_pos (by simpa using hj)]
        · rw [List.find?_cons_of_neg (by simpa using hj), List.find?_cons_of_neg (by simpa using hj)]
          exact ih m1
  · next h =>
    unfold getA
    rw [List.find?_append]
    by_cases hj : j = k
    · subst hj
      have n0 : l.find? (fun x => decide (x.1 = j)) = none := List.find?_eq_none.mpr fun x hx e => h (List.any_eq_true.mpr ⟨x, hx, e⟩)
      rw [n0, if_pos rfl]; simp
    · rw [if_neg hj]
      have : [(k, v)].find? (fun x => decide (x.1 = j)) = none := by simp; exact fun e => hj e.symm
      rw [this]; cases l.find? (fun x => decide (x.1 = j)) <;> rfl
theorem putA_keys {l : List (κ × α)} {k : κ} {v : α} : (putA l k v).map (·.1) = if k ∈ l.map (·.1) then l.map (·.1) else l.map (·.1) ++ [k] := by
  unfold putA
  split
  · next h =>
    obtain ⟨x, hx, e⟩ := List.any_eq_true.mp h
    rw [if_pos (by rw [← of_decide_eq_true e]; exact List.mem_map_of_mem hx), List.map_map]
    refine List.map_congr_left fun y _ => ?_
    show (if y.1 = k then (y.1, v) else y).1 = y.1
    split <;> rfl
  · next h =>
    rw [if_neg fun hk => ?_]
    · simp
    · obtain ⟨x, hx, e⟩ := List.mem_map.mp hk
      exact h (List.any_eq_true.mpr ⟨x, hx, by simpa using e⟩)
theorem putA_nodup {l : List (κ × α)} {k : κ} {v : α} (nd : (l.map (·.1)).Nodup) : ((putA l k v).map (·.1)).Nodup := by
  rw [putA_keys]
  split
  · exact nd
  · next h => rw [List.nodup_append]; exact ⟨nd, by simp, fun a ha b hb e => h (by rw [← List.mem_singleton.mp hb, ← e]; exact ha)⟩
theorem putA_mem {l : List (κ × α)} {k : κ} {v : α} {x : κ × α} (h : x ∈ putA l k v) : x = (k, v) ∨ x ∈ l ∧ x.1 ≠ k := by
  unfold putA at h
  split at h
  · obtain ⟨y, hy, e⟩ := List.mem_map.mp h
    by_cases hk : y.1 = k
    · rw [if_pos hk] at e; left; rw [← e, hk]
    · rw [if_neg hk] at e; right; rw [← e]; exact ⟨hy, hk⟩
  · next hn =>
    rcases List.mem_append.mp h with h | h
    · exact .inr ⟨h, fun e => hn (List.any_eq_true.mpr ⟨x, h, by simpa using e⟩)⟩
    · exact .inl (List.mem_singleton.mp h)
variable {e : κ → κ'} {f : κ → Addr} (he : ∀ a b, e a = e b → a = b)
include he
theorem valD_kv {l : List (κ × α)} {k : κ} : valD (kvOf e f l) (e k) = (getA l k).map fun _ => D.ref (f k) := by
  unfold valD kvOf getA
  induction l with
  | nil => rfl
  | cons x l ih =>
    rw [List.map_cons]
    by_cases hx : x.1 = k
    · rw [List.find?_cons_of_pos (by simp [hx]), List.find?_cons_of_pos (by simpa using hx), ← hx]; rfl
    · rw [List.find?_cons_of_neg (by simp; exact fun z => hx (he _ _ z)), List.find?_cons_of_neg (by simpa using hx)]; exact ih
theorem putD_kv {l : List (κ × α)} {k : κ} {v : α} {a : Addr} : putD (kvOf e f l) (e k) (.ref a) = kvOf e (updF f k a) (putA l k v) := by
  have an : (kvOf e f l).any (fun kv => decide (kv.1 = e k)) = l.any fun x => decide (x.1 = k) := by
    unfold kvOf
    rw [List.any_map]
    have : ((fun kv : κ' × D => decide (kv.1 = e k)) ∘ fun x : κ × α => (e x.1, D.ref (f x.1))) = fun x => decide (x.1 = k) := by
      funext x
      by_cases hx : x.1 = k
      · simp [hx]
      · simp [hx]; exact fun z => hx (he _ _ z)
    rw [this]
  unfold putD putA
  rw [an]
  split
  · unfold kvOf
    rw [List.map_map, List.map_map]
    refine List.map_congr_left fun x _ => ?_
    show (if e x.1 = e k then (e x.1, D.ref a) else (e x.1, .ref (f x.1))) = (e (if x.1 = k then (x.1, v) else x).1, .ref (updF f k a (if x.1 = k then (x.1, v) else x).1))
    by_cases hx : x.1 = k
    · rw [if_pos (by rw [hx]), if_pos hx]; simp [updF, hx]
    · rw [if_neg fun z => hx (he _ _ z), if_neg hx, updF_ne hx]
  · next h =>
    unfold kvOf
    rw [List.map_append, List.map_singleton]
    have : l.map (fun x => (e x.1, D.ref (f x.1))) = l.map fun x => (e x.1, D.ref (updF f k a x.1)) := List.map_congr_left fun x hx => by
      rw [updF_ne fun z => h (List.any_eq_true.mpr ⟨x, hx, by simpa using z⟩)]
    rw [this, updF_same]
end
end DL
namespace DL
open PySem L2 Tx20 Tx21
def gndD (c : Addr) (ps : List Row_) (r : D) (ss : List Str) : D := .ins c FG (gndF ps r ss)
end DL
namespace DL
open PySem L2 Tx20 Tx21
abbrev FRow : List Str := [(PySem.Str.ofString "number"), (PySem.Str.ofString "written"), (PySem.Str.ofString "at"), (PySem.Str.ofString "deed"), (PySem.Str.ofString "right")]
/-- the five values -/
structure Five where
  n : Int
  w : Int
  a : Int
  dd : D
  r : Int
def Five.l (x : Five) : List D := [.int x.n, .int x.w, .int x.a, x.dd, .int x.r]
def Five.o (c : Addr) (x : Five) : D := .ins c FRow x.l
end DL
namespace DL
open PySem PyProof.Rows L2 Tx20 Tx21
abbrev FStt : List Str := [(PySem.Str.ofString "stands"), (PySem.Str.ofString "told"), (PySem.Str.ofString "closed")]
section
variable {κ α : Type} [DecidableEq κ]
def mK (e : κ → Key) (f : α → D) (l : List (κ × α)) : List (Key × D) := l.map fun x => (e x.1, f x.2)
variable {e : κ → Key} {f : α → D} (he : ∀ a b, e a = e b → a = b)
include he
theorem valD_m (l : List (κ × α)) (k : κ) : valD (mK e f l) (e k) = (getA l k).map f := by
  unfold valD mK getA
  induction l with
  | nil => rfl
  | cons x l ih =>
    rw [List.map_cons]
    by_cases hx : x.1 = k
    · rw [List.find?_cons_of_pos (by simp [hx]), List.find?_cons_of_pos (by simpa using hx)]; rfl
    · rw [List.find?_cons_of_neg (by simp; exact fun z => hx (he _ _ z)), List.find?_cons_of_neg (by simpa using hx)]; exact ih
theorem putD_m (l : List (κ × α)) (k : κ) (v : α) : putD (mK e f l) (e k) (f v) = mK e f (putA l k v) := by
  have an : (mK e f l).any (fun kv => decide (kv.1 = e k)) = l.any fun x => decide (x.1 = k) := by
    unfold mK
    rw [List.any_map]
    have : ((fun kv : Key × D => decide (kv.1 = e k)) ∘ fun x : κ × α => (e x.1, f x.2)) = fun x => decide (x.1 = k) := by
      funext x
      by_cases hx : x.1 = k
      · simp [hx]
      · simp [hx]; exact fun z => hx (he _ _ z)
    rw [this]
  unfold putD putA
  rw [an]
  split
  · unfold mK
    rw [List.map_map, List.map_map]
    refine List.map_congr_left fun x _ => ?_
    show (if e x.1 = e k then (e x.1, f v) else (e x.1, f x.2)) = (e (if x.1 = k then (x.1, v) else x).1, f (if x.1 = k then (x.1, v) else x).2)
    by_cases hx : x.1 = k
    · rw [if_pos (by rw [hx]), if_pos hx]
    · rw [if_neg fun z => hx (he _ _ z), if_neg hx]
  · unfold mK
    rw [List.map_append]; rfl
end
theorem inr_inj (a b : Str) (h : (Sum.inr a : Key) = Sum.inr b) : a = b := Sum.inr.inj h
theorem insD_st {M : Mst} {a C : Addr} {fs : List (Str × D)} (h : M a = some (.ins C fs)) : insD M (.ref a) = some (C, fs.map (·.1), fs.map (·.2)) := by unfold insD; rw [show DL.res M (.ref a) = _ from by simp [DL.res, h]; rfl]
abbrev ESt := Str × Str × Str × Int
abbrev CSt := Str × Str × Int × Int × Bool
def esD (e : ESt) : D := .tup [.str e.1, .str e.2.1, .str e.2.2.1, .int e.2.2.2]
def csD (c : CSt) : D := .tup [.str c.1, .str c.2.1, .int c.2.2.1, .int c.2.2.2.1, .bl c.2.2.2.2]
structure WSt where
  st : List (Str × ESt)
  calls : List (Int × CSt)
  shut : List Int
def stK (l : List (Str × ESt)) : List (Key × D) := mK Sum.inr esD l
def clK (l : List (Int × CSt)) : List (Key × D) := mK Sum.inl csD l
abbrev stF (a c : Addr) (S : WSt) : List (Str × D) := [(PySem.Str.ofString "stands", .ref a), (PySem.Str.ofString "told", .ref c), (PySem.Str.ofString "closed", .lst (S.shut.map .int))]
structure IsS (cS : Addr) (M : Mst) (s a c : Addr) (S : WSt) : Prop where
  ob : M s = some (.ins cS (stF a c S))
  st : M a = some (.dK (stK S.st))
  ca : M c = some (.dK (clK S.calls))
  ac : a ≠ c
/-- the same, also while the calls are walked -/
structure IsO (cS : Addr) (M : Mst) (s a c : Addr) (S : WSt) : Prop where
  ob : M s = some (.ins cS (stF a c S))
  ca : M c = some (.dK (clK S.calls)) ∨ ∃ ho, M c = some (.lk ho (clK S.calls))
theorem IsS.o {cS : Addr} {M : Mst} {s a c : Addr} {S : WSt} (h : IsS cS M s a c S) : IsO cS M s a c S := ⟨h.ob, .inl h.ca⟩
theorem IsS.sa {cS : Addr} {M : Mst} {s a c : Addr} {S : WSt} (h : IsS cS M s a c S) : s ≠ a := fun e => by have := h.ob; rw [e, h.st] at this; cases this
theorem IsS.ins {cS : Addr} {M : Mst} {s a c : Addr} {S : WSt} (h : IsS cS M s a c S) : insD M (.ref s) = some (cS, FStt, [.ref a, .ref c, .lst (S.shut.map .int)]) := insD_st h.ob
/-- all but the three stands as it was -/
def Old3 (s a c : Addr) (M M' : Mst) : Prop := ∀ b o, b ≠ s → b ≠ a → b ≠ c → M b = some o → M' b = some o
theorem Old3.refl (s a c : Addr) (M : Mst) : Old3 s a c M M := fun _ _ _ _ _ h => h
theorem Old3.sub {s a c : Addr} {M M' M'' : Mst} (h : Old3 s a c M M') (g : Sub M' M'') : Old3 s a c M M'' := fun b u n1 n2 n3 e => g _ _ (h b u n1 n2 n3 e)
theorem Old3.trans {s a c : Addr} {M M' M'' : Mst} (h : Old3 s a c M M') (g : Old3 s a c M' M'') : Old3 s a c M M'' := fun b u n1 n2 n3 e => g _ _ n1 n2 n3 (h b u n1 n2 n3 e)
def WSt.under (S : WSt) (n : Int) : List Str := (S.st.filter fun e => decide (e.2.2.2.2 = n)).map (·.1)
def noE : ESt := (lit "", lit "", lit "", 0)
def WSt.eng (S : WSt) (e : Str) : ESt := (getA S.st e).getD noE
def WSt.new (es : List Eng) : WSt := ⟨es.map fun e => (e.1, lit "home", e.2.2.1, e.2.2.1, 0), [], []⟩
def WSt.put (S : WSt) (e w p : Str) (c : Int) : WSt := { S with st := putA S.st e (w, p, (S.eng e).2.2.1, c) }
end DL
namespace DL
open PySem PySem.Spec L2
/-- one way of a road: from, to, minutes -/
abbrev Eg := Str × Str × Int
inductive Wlk (E : List Eg) (s : Str) : Str → Int → Prop
  | nil : Wlk E s s 0
  | step {u v : Str} {c d : Int} : Wlk E s u d → (u, v, c) ∈ E → Wlk E s v (d + c)
/-- what is told is the least of all ways, or that there is none -/
structure Least (E : List Eg) (s : Str) (f : Str → Option Int) : Prop where
  way : ∀ v d, f v = some d → Wlk E s v d
  low : ∀ v d, Wlk E s v d → ∃ m, f v = some m ∧ m ≤ d
theorem Least.uniq {E : List Eg} {s : Str} {f g : Str → Option Int} (h : Least E s f) (k : Least E s g) (v : Str) : f v = g v := by
  cases e : f v with
  | none =>
    cases e2 : g v with
    | none => rfl
    | some d =>
      obtain ⟨m, e3, _⟩ := h.low v d (k.way v d e2)
      rw [e] at e3; cases e3
  | some d =>
    obtain ⟨m, e3, h3⟩ := k.low v d (h.way v d e)
    obtain ⟨m', e4, h4⟩ := h.low v m (k.way v m e3)
    rw [e] at e4; cases e4
    rw [e3, Int.le_antisymm h3 h4]
abbrev NL := List (Str × Int)
def kS (l : NL) : List (Key × Int) := l.map fun p => (Sum.inr p.1, p.2)
theorem dctI_kS (l : NL) : dctI (kS l) = mK Sum.inr D.int l := by
  unfold dctI kS mK
  rw [List.map_map]; rfl
theorem kS_find (l : NL) (v : Str) : ((kS l).find? fun kv => decide (kv.1 = (Sum.inr v : Key))).map (·.2) = getA l v := by
  unfold kS getA
  induction l with
  | nil => rfl
  | cons x l ih =>
    rw [List.map_cons]
    by_cases hx : x.1 = v
    · rw [List.find?_cons_of_pos (by simp [hx]), List.find?_cons_of_pos (by simpa using hx)]; rfl
    · rw [List.find?_cons_of_neg (by simpa using hx), List.find?_cons_of_neg (by simpa using hx)]; exact ih
def dropA {κ α : Type} [DecidableEq κ] (l : List (κ × α)) (k : κ) : List (κ × α) := l.filter fun x => decide (x.1 ≠ k)
theorem dropD_m {κ α : Type} [DecidableEq κ] {e : κ → Key} {f : α → D} (he : ∀ a b, e a = e b → a = b) (l : List (κ × α)) (k : κ) : dropD (mK e f l) (e k) = mK e f (dropA l k) := by
  unfold dropD dropA mK
  rw [List.filter_map]
  congr 1
  apply List.filter_congr
  intro x _
  show decide (e x.1 ≠ e k) = decide (x.1 ≠ k)
  apply decide_eq_decide.mpr
  exact ⟨fun h z => h (by rw [z]), fun h z => h (he _ _ z)⟩
theorem getA_drop {κ α : Type} [DecidableEq κ] (l : List (κ × α)) (k j : κ) : getA (dropA l k) j = if j = k then none else getA l j := by
  unfold getA dropA
  induction l with
  | nil => simp
  | cons x l ih =>
    by_cases hk : x.1 = k
    · rw [List.filter_cons_of_neg (by simpa using hk), ih]
      by_cases hj : j = k
      · rw [if_pos hj, if_pos hj]
      · rw [if_neg hj, if_neg hj, List.find?_cons_of_neg (by simp; rw [hk]; exact fun e => hj e.symm)]
    · rw [List.filter_cons_of_pos (by simpa using hk)]
      by_cases hx : x.1 = j
      · rw [List.find?_cons_of_pos (by simpa using hx), List.find?_cons_of_pos (by simpa using hx), if_neg (by rw [← hx]; exact hk)]
      · rw [List.find?_cons_of_neg (by simpa using hx), List.find?_cons_of_neg (by simpa using hx)]; exact ih
/-- all names are of zs, none twice -/
structure KIn (zs : List Str) (l : NL) : Prop where
  nd : (l.map (·.1)).Nodup
  sub : ∀ z ∈ l.map (·.1), z ∈ zs
theorem nodup_le : ∀ {as bs : List Str}, as.Nodup → (∀ a ∈ as, a ∈ bs) → as.length ≤ bs.length
  | [], _, _, _ => Nat.zero_le _
  | a :: as, bs, h, hs => by
    rw [List.nodup_cons] at h
    have m : a ∈ bs := hs a (List.mem_cons_self ..)
    have := nodup_le (as := as) (bs := bs.erase a) h.2 fun b hb => (List.mem_erase_of_ne (by rintro rfl; exact h.1 hb)).mpr (hs b (List.mem_cons_of_mem _ hb))
    rw [List.length_erase_of_mem m] at this
    have := List.length_pos_of_mem m
    simp only [List.length_cons]; omega
theorem KIn.len {zs : List Str} {l : NL} (h : KIn zs l) : l.length ≤ zs.length := by
  have := nodup_le h.nd h.sub
  rwa [List.length_map] at this
theorem KIn.put {zs : List Str} {l : NL} (h : KIn zs l) {z : Str} (hz : z ∈ zs) (d : Int) : KIn zs (putA l z d) := by
  refine ⟨putA_nodup h.nd, fun y hy => ?_⟩
  rw [putA_keys] at hy
  split at hy
  · exact h.sub y hy
  · rcases List.mem_append.mp hy with hy | hy
    · exact h.sub y hy
    · rw [List.mem_singleton.mp hy]; exact hz
theorem KIn.drop {zs : List Str} {l : NL} (h : KIn zs l) (z : Str) : KIn zs (dropA l z) :=
  ⟨(List.filter_sublist.map _).nodup h.nd, fun y hy => h.sub y ((List.filter_sublist.map _).subset hy)⟩
theorem KIn.at {zs : List Str} {l : NL} (h : KIn zs l) {z : Str} {d : Int} (e : getA l z = some d) : z ∈ zs := h.sub z (List.mem_map_of_mem (f := (·.1)) (getA_some e))
theorem getA_isSome {l : NL} {z : Str} : (getA l z).isSome = decide (z ∈ l.map (·.1)) := by
  cases e : getA l z with
  | none =>
    have : ¬ z ∈ l.map (·.1) := fun h => by
      obtain ⟨x, hx, ex⟩ := List.mem_map.mp h
      exact getA_none e x hx ex
    simp [this]
  | some d =>
    have : z ∈ l.map (·.1) := List.mem_map_of_mem (f := (·.1)) (getA_some e)
    simp [this]
/-- alike as dicts: alike in what they hold -/
theorem eqKI_of {zs : List Str} {a b : NL} (ha : KIn zs a) (hb : KIn zs b) (h : ∀ z, getA a z = getA b z) : eqKI (kS a) (kS b) = true := by
  have sub : ∀ {a b : NL}, (∀ z, getA a z = getA b z) → ∀ z ∈ a.map (·.1), z ∈ b.map (·.1) := fun {a b} h z hz => by
    have e1 := getA_isSome (l := a) (z := z)
    have e2 := getA_isSome (l := b) (z := z)
    rw [h z, e2] at e1
    rw [decide_eq_true hz] at e1
    exact of_decide_eq_true e1
  have l1 := nodup_le ha.nd (sub h)
  have l2 := nodup_le hb.nd (sub fun z => (h z).symm)
  rw [List.length_map, List.length_map] at l1 l2
  unfold eqKI
  rw [Bool.and_eq_true, beq_iff_eq, List.all_eq_true]
  refine ⟨by simp only [kS, List.length_map]; omega, fun p hp => ?_⟩
  obtain ⟨q, hq, rfl⟩ := List.mem_map.mp hp
  rw [decide_eq_true_eq]
  show ((kS b).find? fun kv => decide (kv.1 = (Sum.inr q.1 : Key))).map (·.2) = some q.2
  rw [kS_find, ← h, getA_mem ha.nd hq]
theorem eqKI_to {zs : List Str} {a b : NL} (ha : KIn zs a) (hb : KIn zs b) (h : eqKI (kS a) (kS b) = true) (z : Str) : getA a z = getA b z := by
  unfold eqKI at h
  rw [Bool.and_eq_true, beq_iff_eq, List.all_eq_true] at h
  obtain ⟨h1, h2⟩ := h
  have at1 : ∀ q ∈ a, getA b q.1 = some q.2 := fun q hq => by
    have := h2 _ (List.mem_map_of_mem (f := fun p : Str × Int => ((Sum.inr p.1 : Key), p.2)) hq)
    rw [decide_eq_true_eq] at this
    rw [← kS_find]; exact this
  cases e : getA a z with
  | some d => exact (at1 (z, d) (getA_some e)).symm
  | none =>
    cases e2 : getA b z with
    | none => rfl
    | some d =>
      have hz : z ∈ b.map (·.1) := List.mem_map_of_mem (f := (·.1)) (getA_some e2)
      have nz : ¬ z ∈ a.map (·.1) := fun hh => by
        obtain ⟨x, hx, ex⟩ := List.mem_map.mp hh
        exact getA_none e x hx ex
      have : (z :: a.map (·.1)).length ≤ (b.map (·.1)).length := nodup_le (List.nodup_cons.mpr ⟨nz, ha.nd⟩) fun y hy => by
        rcases List.mem_cons.mp hy with rfl | hy
        · exact hz
        · obtain ⟨x, hx, rfl⟩ := List.mem_map.mp hy
          exact List.mem_map_of_mem (f := (·.1)) (getA_some (at1 x hx))
      simp only [kS, List.length_map, List.length_cons] at h1 this
      omega
structure Dij (E : List Eg) (s : Str) (f n : NL) : Prop where
  fw : ∀ v d, getA f v = some d → Wlk E s v d ∧ ∀ e, Wlk E s v e → d ≤ e
  nw : ∀ v d, getA n v = some d → Wlk E s v d ∧ getA f v = none
  ed : ∀ u v c d, (u, v, c) ∈ E → getA f u = some d → getA f v = none → ∃ m, getA n v = some m ∧ m ≤ d + c
  st : getA f s = none → ∃ m, getA n s = some m ∧ m ≤ 0
theorem Dij.begin (E : List Eg) (s : Str) : Dij E s [] [(s, 0)] where
  fw := fun v d h => by cases h
  nw := fun v d h => by
    have := getA_some h
    rw [List.mem_singleton] at this
    cases this
    exact ⟨.nil, rfl⟩
  ed := fun u v c d _ h => by cases h
  st := fun _ => ⟨0, by simp [getA], Int.le_refl 0⟩
theorem Dij.done {E : List Eg} {s : Str} {f : NL} (h : Dij E s f []) : Least E s (getA f) where
  way := fun v d e => (h.fw v d e).1
  low := fun v d w => by
    have : (getA f v).isSome = true := by
      induction w with
      | nil =>
        cases e : getA f s with
        | some _ => rfl
        | none => obtain ⟨m, e2, _⟩ := h.st e; cases e2
      | step w he ih =>
        rename_i u v c d
        obtain ⟨d', ed⟩ := Option.isSome_iff_exists.mp ih
        cases e : getA f v with
        | some _ => rfl
        | none => obtain ⟨m, e2, _⟩ := h.ed _ _ _ _ he ed e; cases e2
    obtain ⟨m, e⟩ := Option.isSome_iff_exists.mp this
    exact ⟨m, e, (h.fw v m e).2 d w⟩
/-- the nearest is as near as it can be -/
theorem Dij.least {E : List Eg} (pos : ∀ x ∈ E, 0 ≤ x.2.2) {s : Str} {f n : NL} (h : Dij E s f n) {d : Int} (hd : ∀ v m, getA n v = some m → d ≤ m) {v : Str} {e : Int} (w : Wlk E s v e) (hv : getA f v = none) : d ≤ e := by
  induction w with
  | nil =>
    obtain ⟨m, e2, h2⟩ := h.st hv
    exact Int.le_trans (hd _ _ e2) h2
  | step w he ih =>
    rename_i u v c e
    have hc : 0 ≤ c := pos _ he
    cases ef : getA f u with
    | none => have := ih ef; omega
    | some du =>
      obtain ⟨m, e2, h2⟩ := h.ed _ _ _ _ he ef hv
      have := hd _ _ e2
      have := (h.fw _ _ ef).2 _ w
      omega
/-- amid a step: the nearest p is told, of its ways those of L are looked at -/
structure DijP (E : List Eg) (s : Str) (f n : NL) (p : Str) (d : Int) (L : List (Str × Int)) : Prop where
  at_ : getA f p = some d
  fw : ∀ v d, getA f v = some d → Wlk E s v d ∧ ∀ e, Wlk E s v e → d ≤ e
  nw : ∀ v d, getA n v = some d → Wlk E s v d ∧ getA f v = none
  ed : ∀ u v c d, (u, v, c) ∈ E → u ≠ p → getA f u = some d → getA f v = none → ∃ m, getA n v = some m ∧ m ≤ d + c
  ep : ∀ x ∈ L, getA f x.1 = none → ∃ m, getA n x.1 = some m ∧ m ≤ d + x.2
  st : getA f s = none → ∃ m, getA n s = some m ∧ m ≤ 0
theorem Dij.pop {E : List Eg} (pos : ∀ x ∈ E, 0 ≤ x.2.2) {s : Str} {f n : NL} (h : Dij E s f n) {p : Str} {d : Int} (hp : getA n p = some d) (hd : ∀ v m, getA n v = some m → d ≤ m) : DijP E s (putA f p d) (dropA n p) p d [] where
  at_ := by rw [getA_put, if_pos rfl]
  fw := fun v e hv => by
    rw [getA_put] at hv
    split at hv
    · next hvp =>
      cases hv; subst hvp
      exact ⟨(h.nw _ _ hp).1, fun e w => h.least pos hd w (h.nw _ _ hp).2⟩
    · exact h.fw v e hv
  nw := fun v e hv => by
    rw [getA_drop] at hv
    split at hv
    · cases hv
    · next hvp =>
      rw [getA_put, if_neg hvp]
      exact h.nw v e hv
  ed := fun u v c e hx hu hfu hfv => by
    rw [getA_put, if_neg hu] at hfu
    rw [getA_put] at hfv
    split at hfv
    · cases hfv
    · next hvp =>
      rw [getA_drop, if_neg hvp]
      exact h.ed u v c e hx hfu hfv
  ep := fun x hx => by cases hx
  st := fun hs => by
    rw [getA_put] at hs
    split at hs
    · cases hs
    · next hvp =>
      rw [getA_drop, if_neg hvp]
      exact h.st hs
/-- what is put at a place that is looked at -/
def nearer (o : Option Int) (t : Int) : Int := min (o.getD t) t
theorem nearer_le (o : Option Int) (t : Int) : nearer o t ≤ t := Int.min_le_right _ _
theorem DijP.next {E : List Eg} {s : Str} {f n : NL} {p : Str} {d : Int} {L : List (Str × Int)} (h : DijP E s f n p d L) {x : Str × Int} (hx : (p, x.1, x.2) ∈ E) :
    DijP E s f (if getA f x.1 = none then putA n x.1 (nearer (getA n x.1) (d + x.2)) else n) p d (L ++ [x]) := by
  by_cases hf : getA f x.1 = none
  · rw [if_pos hf]
    have low : ∀ v m, getA n v = some m → ∃ m', getA (putA n x.1 (nearer (getA n x.1) (d + x.2))) v = some m' ∧ m' ≤ m := fun v m hm => by
      rw [getA_put]
      split
      · next e =>
        subst e
        refine ⟨_, rfl, ?_⟩
        rw [hm]; exact Int.min_le_left _ _
      · exact ⟨m, hm, Int.le_refl _⟩
    refine ⟨h.at_, h.fw, fun v e hv => ?_, fun u v c e h1 h2 h3 h4 => ?_, fun y hy h4 => ?_, fun h4 => ?_⟩
    · rw [getA_put] at hv
      split at hv
      · next ev =>
        subst ev
        cases hv
        refine ⟨?_, hf⟩
        have w2 : Wlk E s x.1 (d + x.2) := .step (h.fw _ _ h.at_).1 hx
        unfold nearer
        cases en : getA n x.1 with
        | none => rw [show min ((none : Option Int).getD (d + x.2)) (d + x.2) = d + x.2 from by simp]; exact w2
        | some m =>
          show Wlk E s x.1 (min m (d + x.2))
          by_cases hle : m ≤ d + x.2
          · rw [Int.min_eq_left hle]; exact (h.nw _ _ en).1
          · rw [Int.min_eq_right (by omega)]; exact w2
      · exact h.nw v e hv
    · obtain ⟨m, e1, e2⟩ := h.ed u v c e h1 h2 h3 h4
      obtain ⟨m', e3, e4⟩ := low v m e1
      exact ⟨m', e3, by omega⟩
    · rcases List.mem_append.mp hy with hy | hy
      · obtain ⟨m, e1, e2⟩ := h.ep y hy h4
        obtain ⟨m', e3, e4⟩ := low _ m e1
        exact ⟨m', e3, by omega⟩
      · rw [List.mem_singleton.mp hy]
        refine ⟨_, by rw [getA_put, if_pos rfl], nearer_le _ _⟩
    · obtain ⟨m, e1, e2⟩ := h.st h4
      obtain ⟨m', e3, e4⟩ := low _ m e1
      exact ⟨m', e3, by omega⟩
  · rw [if_neg hf]
    refine ⟨h.at_, h.fw, h.nw, h.ed, fun y hy h4 => ?_, h.st⟩
    rcases List.mem_append.mp hy with hy | hy
    · exact h.ep y hy h4
    · rw [List.mem_singleton.mp hy] at h4; exact absurd h4 hf
theorem DijP.over {E : List Eg} {s : Str} {f n : NL} {p : Str} {d : Int} {L : List (Str × Int)} (h : DijP E s f n p d L) (hL : ∀ v c, (p, v, c) ∈ E → (v, c) ∈ L) : Dij E s f n where
  fw := h.fw
  nw := h.nw
  ed := fun u v c e hx hu hv => by
    by_cases hp : u = p
    · subst hp
      rw [h.at_] at hu; cases hu
      exact h.ep (v, c) (hL v c hx) hv
    · exact h.ed u v c e hx hp hu hv
  st := h.st
/-- amid a round that began with a: the ways of L are looked at -/
structure BfP (E : List Eg) (s : Str) (a f : NL) (L : List Eg) : Prop where
  fw : ∀ v d, getA f v = some d → Wlk E s v d
  low : ∀ v d, getA a v = some d → ∃ m, getA f v = some m ∧ m ≤ d
  ed : ∀ x ∈ L, ∀ d, getA a x.1 = some d → ∃ m, getA f x.2.1 = some m ∧ m ≤ d + x.2.2
  hi : ∀ v d, getA f v = some d → 0 ≤ d ∧ d ≤ 120 * ((f.length : Int) - 1)
/-- before and after a round -/
structure Bf (E : List Eg) (s : Str) (f : NL) : Prop where
  fw : ∀ v d, getA f v = some d → Wlk E s v d
  st : ∃ m, getA f s = some m ∧ m ≤ 0
  hi : ∀ v d, getA f v = some d → 0 ≤ d ∧ d ≤ 120 * ((f.length : Int) - 1)
theorem Bf.begin (E : List Eg) (s : Str) : Bf E s [(s, 0)] where
  fw := fun v d h => by
    have := getA_some h
    rw [List.mem_singleton] at this
    cases this
    exact .nil
  st := ⟨0, by simp [getA], Int.le_refl 0⟩
  hi := fun v d h => by
    have := getA_some h
    rw [List.mem_singleton] at this
    cases this
    exact ⟨Int.le_refl 0, by simp⟩
theorem Bf.round {E : List Eg} {s : Str} {f : NL} (h : Bf E s f) : BfP E s f f [] := ⟨h.fw, fun v d e => ⟨d, e, Int.le_refl _⟩, (fun _ h => nomatch h), h.hi⟩
theorem putA_len_new {l : NL} {k : Str} {v : Int} (h : getA l k = none) : (putA l k v).length = l.length + 1 := by
  unfold putA
  rw [if_neg fun hh => ?_]
  · simp
  · obtain ⟨x, hx, e⟩ := List.any_eq_true.mp hh
    exact getA_none h x hx (by simpa using e)
theorem putA_len_old {l : NL} {k : Str} {v d : Int} (h : getA l k = some d) : (putA l k v).length = l.length := by
  unfold putA
  rw [if_pos (List.any_eq_true.mpr ⟨_, getA_some h, by simp⟩)]
  simp
theorem BfP.next {E : List Eg} {s : Str} {a f : NL} {L : List Eg} (h : BfP E s a f L) {x : Eg} (hx : x ∈ E) (hc : 0 ≤ x.2.2 ∧ x.2.2 ≤ 120) :
    BfP E s a (match getA f x.1 with | some d => putA f x.2.1 (nearer (getA f x.2.1) (d + x.2.2)) | none => f) (L ++ [x]) := by
  cases ef : getA f x.1 with
  | none =>
    refine ⟨h.fw, h.low, fun y hy d hd => ?_, h.hi⟩
    rcases List.mem_append.mp hy with hy | hy
    · exact h.ed y hy d hd
    · rw [List.mem_singleton.mp hy] at hd
      obtain ⟨m, e1, _⟩ := h.low _ _ hd
      rw [ef] at e1; cases e1
  | some d0 =>
    dsimp only
    have low : ∀ v m, getA f v = some m → ∃ m', getA (putA f x.2.1 (nearer (getA f x.2.1) (d0 + x.2.2))) v = some m' ∧ m' ≤ m := fun v m hm => by
      rw [getA_put]
      split
      · next e =>
        subst e
        refine ⟨_, rfl, ?_⟩
        rw [hm]; exact Int.min_le_left _ _
      · exact ⟨m, hm, Int.le_refl _⟩
    refine ⟨fun v e hv => ?_, fun v e hv => ?_, fun y hy d hd => ?_, fun v e hv => ?_⟩
    · rw [getA_put] at hv
      split at hv
      · next ev =>
        subst ev
        cases hv
        have w2 : Wlk E s x.2.1 (d0 + x.2.2) := .step (h.fw _ _ ef) hx
        unfold nearer
        cases en : getA f x.2.1 with
        | none => rw [show min ((none : Option Int).getD (d0 + x.2.2)) (d0 + x.2.2) = d0 + x.2.2 from by simp]; exact w2
        | some m =>
          show Wlk E s x.2.1 (min m (d0 + x.2.2))
          by_cases hle : m ≤ d0 + x.2.2
          · rw [Int.min_eq_left hle]; exact h.fw _ _ en
          · rw [Int.min_eq_right (by omega)]; exact w2
      · exact h.fw v e hv
    · obtain ⟨m, e1, e2⟩ := h.low v e hv
      obtain ⟨m', e3, e4⟩ := low v m e1
      exact ⟨m', e3, by omega⟩
    · rcases List.mem_append.mp hy with hy | hy
      · obtain ⟨m, e1, e2⟩ := h.ed y hy d hd
        obtain ⟨m', e3, e4⟩ := low _ m e1
        exact ⟨m', e3, by omega⟩
      · rw [List.mem_singleton.mp hy] at hd ⊢
        obtain ⟨m, e1, e2⟩ := h.low _ _ hd
        rw [ef] at e1; cases e1
        refine ⟨_, by rw [getA_put, if_pos rfl], ?_⟩
        have := nearer_le (getA f x.2.1) (d0 + x.2.2)
        omega
    · have h0 := h.hi _ _ ef
      cases en : getA f x.2.1 with
      | none =>
        rw [putA_len_new en]
        rw [getA_put] at hv
        split at hv
        · cases hv
          rw [en]
          show 0 ≤ min (d0 + x.2.2) (d0 + x.2.2) ∧ _
          rw [Int.min_self]
          refine ⟨by omega, ?_⟩
          show min (d0 + x.2.2) (d0 + x.2.2) ≤ _
          rw [Int.min_self]
          omega
        · have := h.hi v e hv
          omega
      | some m =>
        rw [putA_len_old en]
        have hm := h.hi _ _ en
        rw [getA_put] at hv
        split at hv
        · cases hv
          rw [en]
          have e1 : nearer (some m) (d0 + x.2.2) ≤ m := Int.min_le_left _ _
          have e2 : 0 ≤ nearer (some m) (d0 + x.2.2) := by
            show 0 ≤ min m (d0 + x.2.2)
            rw [Int.le_min]; omega
          omega
        · exact h.hi v e hv
theorem BfP.over {E : List Eg} {s : Str} {a f : NL} {L : List Eg} (h0 : Bf E s a) (h : BfP E s a f L) : Bf E s f :=
  ⟨h.fw, by obtain ⟨m, e1, e2⟩ := h0.st; obtain ⟨m', e3, e4⟩ := h.low _ _ e1; exact ⟨m', e3, by omega⟩, h.hi⟩
/-- a round that changed nothing has told all -/
theorem BfP.done {E : List Eg} {s : Str} {a f : NL} (h0 : Bf E s a) (h : BfP E s a f E) (he : ∀ z, getA f z = getA a z) : Least E s (getA f) where
  way := h.fw
  low := fun v d w => by
    induction w with
    | nil =>
      obtain ⟨m, e1, e2⟩ := h0.st
      exact ⟨m, by rw [he]; exact e1, e2⟩
    | step w hx ih =>
      obtain ⟨m, e1, e2⟩ := ih
      rw [he] at e1
      obtain ⟨m', e3, e4⟩ := h.ed _ hx m e1
      exact ⟨m', e3, by dsimp only at e4; omega⟩
/-- how much is still to be told -/
def phi (zs : List Str) (f : NL) : Nat := (zs.map fun z => match getA f z with | some d => d.toNat | none => 5000).sum
theorem gsum_le {zs : List Str} {p q : Str → Nat} (h : ∀ z ∈ zs, p z ≤ q z) : (zs.map p).sum ≤ (zs.map q).sum := by
  induction zs with
  | nil => exact Nat.le_refl _
  | cons z zs ih =>
    have := ih fun y hy => h y (List.mem_cons_of_mem _ hy)
    have := h z (List.mem_cons_self ..)
    simp only [List.map_cons, List.sum_cons]; omega
theorem gsum_eq {zs : List Str} {p q : Str → Nat} (h : ∀ z ∈ zs, p z ≤ q z) (e : (zs.map q).sum ≤ (zs.map p).sum) : ∀ z ∈ zs, p z = q z := by
  induction zs with
  | nil => exact fun z hz => nomatch hz
  | cons z zs ih =>
    have h1 := gsum_le fun y hy => h y (List.mem_cons_of_mem _ hy)
    have h2 := h z (List.mem_cons_self ..)
    simp only [List.map_cons, List.sum_cons] at e
    intro y hy
    rcases List.mem_cons.mp hy with rfl | hy
    · omega
    · exact ih (fun y hy => h y (List.mem_cons_of_mem _ hy)) (by omega) y hy
theorem BfP.phi {E : List Eg} {zs : List Str} (hz : zs.length ≤ 40) {s : Str} {a f : NL} {L : List Eg} (h0 : Bf E s a) (ka : KIn zs a) (kf : KIn zs f) (h : BfP E s a f L) :
    phi zs f ≤ phi zs a ∧ (phi zs a ≤ phi zs f → ∀ z, getA f z = getA a z) := by
  have lf := kf.len
  have la := ka.len
  have le : ∀ z ∈ zs, (match getA f z with | some d => d.toNat | none => 5000) ≤ (match getA a z with | some d => d.toNat | none => 5000) := fun z _ => by
    cases ea : getA a z with
    | none =>
      cases ef : getA f z with
      | none => exact Nat.le_refl _
      | some d =>
        have := h.hi _ _ ef
        have h5 : d ≤ ((5000 : Nat) : Int) := by omega
        exact Int.toNat_le.mpr h5
    | some d =>
      obtain ⟨m, e1, e2⟩ := h.low _ _ ea
      rw [e1]
      exact Int.toNat_le_toNat e2
  refine ⟨gsum_le le, fun hh z => ?_⟩
  by_cases hzz : z ∈ zs
  · have e := gsum_eq le hh z hzz
    cases ea : getA a z with
    | none =>
      cases ef : getA f z with
      | none => rfl
      | some d =>
        have := h.hi _ _ ef
        have t := Int.toNat_of_nonneg this.1
        rw [ea, ef] at e
        dsimp only at e
        rw [e] at t
        omega
    | some d =>
      obtain ⟨m, e1, e2⟩ := h.low _ _ ea
      rw [ea, e1] at e
      dsimp only at e
      have t1 := Int.toNat_of_nonneg (h.hi _ _ e1).1
      have t2 := Int.toNat_of_nonneg (h0.hi _ _ ea).1
      rw [e1, ← t1, ← t2, e]
  · cases ea : getA a z with
    | none =>
      cases ef : getA f z with
      | none => rfl
      | some d => exact absurd (kf.at ef) hzz
    | some d => exact absurd (ka.at ea) hzz
end DL
namespace L2
open PySem PySem.Spec PyProof.Rows
def rDictC : List V → Hp → VK → Prop := fun xs H Q => ∃ (a : Addr) (kvs : List (Key × V)), xs = [V.ref a] ∧ H a = some (.dK kvs) ∧ ∀ p, H p = none → Q (.ref p) (upd H p (.dK kvs))
theorem cr_dictC {X : Cx} : CallR X (.type "dict") rDictC := by
  intro pins s σ H xs us Q I r h
  obtain ⟨a, kvs, rfl, ha, q⟩ := h
  rw [Vals.ref1 r]
  exact d_copyOf I (.inl ha) fun p s' hp I' => ⟨.ref p, _, I', rfl, q p hp⟩
end L2
namespace DL
open PySem PySem.Spec PyProof.Rows L2
def dDictC : DCa := fun ds M Q => match ds with
  | [.ref a] => match M a with
    | some (.dK kvs) => ∀ p, M p = none → Q (.ref p) (put M p (.dK kvs))
    | _ => False
  | _ => False
theorem c_dictC {X : Cx} : QCa X (.type "dict") rDictC dDictC := ⟨cr_dictC, fun G H p M s ds vs Q Q' S r h k => by
  unfold dDictC at h
  split at h
  · next a =>
    split at h
    · next kvs em =>
      obtain ⟨v, vr, rfl, r1, r2⟩ := r
      cases r2
      cases (show v = V.ref a from r1)
      obtain ⟨gn, kv, g1, g2, g3, g4, g5⟩ := S.mem _ _ em
      refine ⟨a, kv, rfl, g1, fun q hq => ?_⟩
      refine k G _ _ (.ref q) _ (Same.refl _) (S.put (mo := .dK kvs) (S.same.free hq) ⟨_, upd_same, g2, g3, g4, g5⟩) rfl (h q (S.mem.fresh hq))
    · exact h.elim
  · exact h.elim⟩
end DL
namespace DL
open PySem L2 Tx20 Tx21
def qGSteps (c_Ground : Addr) : DTS :=
  (qSeq (qAsg qDNew (gNameD 3))
  (qSeq (qFor (qiEnum0 (qCons (qFld c_Ground FG 2 (qVar 0)) qNil)) (gTupD 2 (gConsD (gNameD 4) (gConsD (gTupD 4 (gConsD (gNameD 5) (gConsD (gNameD 6) (gConsD (gNameD 7) (gConsD (gNameD 8) gNilD))))) gNilD)))
  (qIfS (qOr (qTB (qOp (dIs false) (qVar 2) (qC .non))) (qTB (qOp (dIn true) (qVar 4) (qVar 2))))
  (qSeq (qAsg (qIf (qTB (qOp (dIn false) (qVar 1) (qC (.ktp [(.int 7), (.int 8), (.int 16), (.int 17)])))) (qOp (dAdd false) (qVar 7) (qVar 8)) (qVar 7)) (gNameD 9))
  (qSeq (qDrop (qBM "list" mApp (qDSetd (qVar 3) (qVar 5) (qLst true qNil)) (qCons (qTup (qCons (qVar 6) (qCons (qVar 9) qNil))) qNil)))
  (qDrop (qBM "list" mApp (qDSetd (qVar 3) (qVar 6) (qLst true qNil)) (qCons (qTup (qCons (qVar 5) (qCons (qVar 9) qNil))) qNil)))))
  qNext))
  (qRet (qVar 3))))
/-- minutes of a road -/
def costR (sl : Bool) (r : Rd_) : Int := if sl = true then r.2.2.1 + r.2.2.2 else r.2.2.1
/-- the ways of the first i roads -/
def egs (sl : Bool) (opn : Nat → Bool) (rs : List Rd_) : Nat → List Eg
  | 0 => []
  | i + 1 => egs sl opn rs i ++ (match rs[i]? with
    | some r => if opn i = true then [(r.1, r.2.1, costR sl r), (r.2.1, r.1, costR sl r)] else []
    | none => [])
/-- roads shut, as they are told -/
def ShutD (M : Mst) (x : D) (opn : Nat → Bool) : Prop := (x = .non ∧ ∀ i, opn i = true) ∨ (x ≠ .non ∧ ∀ M', Sub M M' → ∀ (i : Nat) (Q : DK), dIn true (.int (i : Int)) x M' Q = Q (.bl (opn i)) M')
def slowH (h : Int) : Bool := decide (h ∈ [7, 8, 16, 17])
/-- the ways by places, a dict of lists -/
structure IsSt (M M' : Mst) (d : Addr) (f : Str → Addr) (st : List (Str × NL)) : Prop where
  sub : Sub M M'
  dn : M d = none
  at_ : M' d = some (.dK (kvOf Sum.inr f st))
  ls : ∀ x ∈ st, M' (f x.1) = some (.lst (x.2.map plD)) ∧ M (f x.1) = none
  inj : ∀ x ∈ st, ∀ y ∈ st, f x.1 = f y.1 → x.1 = y.1
  nd : (st.map (·.1)).Nodup
structure StOf (zs : List Str) (st : List (Str × NL)) (E : List Eg) : Prop where
  sub : ∀ z ∈ st.map (·.1), z ∈ zs
  at_ : ∀ u, (getA st u).getD [] = (E.filter fun e => decide (e.1 = u)).map (·.2)
theorem kvOf_keys {α β : Type} {f : Str → Addr} {l : List (Str × α)} {k : List (Str × β)} (h : l.map (·.1) = k.map (·.1)) : kvOf (Sum.inr : Str → Key) f l = kvOf Sum.inr f k := by
  have e : ∀ {γ : Type} (l : List (Str × γ)), kvOf (Sum.inr : Str → Key) f l = (l.map (·.1)).map fun z => (Sum.inr z, D.ref (f z)) := fun l => by
    unfold kvOf
    rw [List.map_map]; rfl
  rw [e, e, h]
theorem st_add {DW : DWt} {p : Rho} {M M' : Mst} {d : Addr} {f : Str → Addr} {st : List (Str × NL)} {u v : Str} {c : Int} {i j : Nat} {Kx : DK} (h3 : p[3]? = some (some (.ref d))) (hi : p[i]? = some (some (.str u))) (hj : p[j]? = some (some (.str v))) (h9 : p[9]? = some (some (.int c)))
    (I : IsSt M M' d f st) (hl : st.length < 100000) (hs : ((getA st u).getD []).length < 100000) (k : ∀ f' M'', IsSt M M'' d f' (putA st u ((getA st u).getD [] ++ [(v, c)])) → Kx .non M'') :
    qBM "list" mApp (qDSetd (qVar 3) (qVar i) (qLst true qNil)) (qCons (qTup (qCons (qVar j) (qCons (qVar 9) qNil))) qNil) DW p M' Kx := by
  have atd := I.at_
  simp only [qBM, qDSetd, qVar, h3, hi, hj, h9, qLst, qCons, qNil, qTup, newL_t]
  refine ⟨by simp [isDict, atd], Nat.zero_le _, fun a ha => ?_⟩
  have nda : d ≠ a := ne_of_some atd ha
  have hMa : M a = none := by
    cases e : M a with
    | none => rfl
    | some o => rw [I.sub _ _ e] at ha; cases ha
  refine ⟨d, kvOf Sum.inr f st, .inr u, rfl, put_keep atd ha, rfl, by unfold kvOf; rw [List.length_map]; exact hl, fun dd hv => ?_, fun hn => ?_⟩
  · rw [valD_kv inr_inj] at hv
    obtain ⟨ls, e1, e2⟩ := Option.map_eq_some_iff.mp hv
    subst e2
    have hm : (u, ls) ∈ st := getA_some e1
    obtain ⟨l1, l2⟩ := I.ls _ hm
    have nfa : f u ≠ a := ne_of_some l1 ha
    have nfd : d ≠ f u := fun e => by rw [e] at atd; dsimp only at l1; rw [atd] at l1; cases l1
    have e3 : put M' a (.lst []) (f u) = some (.lst (ls.map plD)) := put_keep l1 ha
    rw [e1] at hs k
    simp only [Option.getD_some] at hs k
    refine ⟨by rw [res_r e3]; rfl, ?_⟩
    simp only [mApp, e3]
    refine ⟨by simp, by rw [List.length_map]; exact hs, k f _ ?_⟩
    have hk : u ∈ st.map (·.1) := List.mem_map_of_mem (f := (·.1)) hm
    have keys : (putA st u (ls ++ [(v, c)])).map (·.1) = st.map (·.1) := by rw [putA_keys, if_pos hk]
    have mem : ∀ x ∈ putA st u (ls ++ [(v, c)]), ∃ y ∈ st, y.1 = x.1 := fun x hx => by
      have : x.1 ∈ st.map (·.1) := by rw [← keys]; exact List.mem_map_of_mem (f := (·.1)) hx
      obtain ⟨y, hy, e⟩ := List.mem_map.mp this
      exact ⟨y, hy, e⟩
    refine ⟨fun b o hb => ?_, I.dn, ?_, fun x hx => ?_, fun x hx y hy e => ?_, by rw [keys]; exact I.nd⟩
    · rw [put_ne (fun e => by rw [e] at hb; dsimp only at l2; rw [l2] at hb; cases hb), put_ne (fun e => by rw [e, hMa] at hb; cases hb)]
      exact I.sub _ _ hb
    · rw [put_ne nfd, put_ne nda, kvOf_keys keys]; exact atd
    · rcases putA_mem hx with rfl | ⟨hx, hne⟩
      · exact ⟨by rw [put_same, List.map_append]; rfl, l2⟩
      · obtain ⟨m1, m2⟩ := I.ls _ hx
        rw [put_ne (fun e => hne (I.inj _ hx _ hm e)), put_ne (ne_of_some m1 ha)]
        exact ⟨m1, m2⟩
    · obtain ⟨x', hx', ex⟩ := mem x hx
      obtain ⟨y', hy', ey⟩ := mem y hy
      rw [← ex, ← ey] at e ⊢
      exact I.inj _ hx' _ hy' e
  · rw [valD_kv inr_inj, Option.map_eq_none_iff] at hn
    rw [putD_kv inr_inj (v := [(v, c)])]
    have e3 : put (put M' a (.lst [])) d (.dK (kvOf Sum.inr (updF f u a) (putA st u [(v, c)]))) a = some (.lst []) := by rw [put_ne nda.symm, put_same]
    rw [hn] at k
    simp only [Option.getD_none, List.nil_append] at k
    refine ⟨by rw [res_r e3]; rfl, ?_⟩
    simp only [mApp, e3]
    refine ⟨by simp, by simp, k (updF f u a) _ ?_⟩
    have hst : ∀ x ∈ st, x.1 ≠ u := fun x hx => getA_none hn x hx
    have cl : ∀ x ∈ putA st u [(v, c)], (x = (u, [(v, c)])) ∨ (x ∈ st ∧ x.1 ≠ u) := fun x hx => putA_mem hx
    refine ⟨fun b o hb => ?_, I.dn, ?_, fun x hx => ?_, fun x hx y hy e => ?_, putA_nodup I.nd⟩
    · rw [put_ne (fun e => by rw [e, hMa] at hb; cases hb), put_ne (fun e => by rw [e, I.dn] at hb; cases hb), put_ne (fun e => by rw [e, hMa] at hb; cases hb)]
      exact I.sub _ _ hb
    · rw [put_ne nda, put_same]
    · rcases cl x hx with rfl | ⟨hx, hne⟩
      · dsimp only
        rw [updF_same, put_same]
        exact ⟨rfl, hMa⟩
      · obtain ⟨m1, m2⟩ := I.ls _ hx
        rw [updF_ne hne, put_ne (ne_of_some m1 ha), put_ne (fun e => by rw [e] at m1; rw [atd] at m1; cases m1), put_ne (ne_of_some m1 ha)]
        exact ⟨m1, m2⟩
    · rcases cl x hx with rfl | ⟨hx, hnx⟩
      · rcases cl y hy with rfl | ⟨hy, hny⟩
        · rfl
        · rw [updF_same, updF_ne hny] at e
          exact absurd e.symm (ne_of_some (I.ls _ hy).1 ha)
      · rcases cl y hy with rfl | ⟨hy, hny⟩
        · rw [updF_same, updF_ne hnx] at e
          exact absurd e (ne_of_some (I.ls _ hx).1 ha)
        · rw [updF_ne hnx, updF_ne hny] at e
          exact I.inj _ hx _ hy e
theorem StOf.add {zs : List Str} {st : List (Str × NL)} {E : List Eg} (h : StOf zs st E) {u : Str} (hu : u ∈ zs) (v : Str) (c : Int) : StOf zs (putA st u ((getA st u).getD [] ++ [(v, c)])) (E ++ [(u, v, c)]) where
  sub := fun z hz => by
    rw [putA_keys] at hz
    split at hz
    · exact h.sub z hz
    · rcases List.mem_append.mp hz with hz | hz
      · exact h.sub z hz
      · rw [List.mem_singleton.mp hz]; exact hu
  at_ := fun z => by
    rw [getA_put, List.filter_append, List.map_append]
    by_cases e : z = u
    · subst e
      rw [if_pos rfl, Option.getD_some, h.at_]
      simp
    · rw [if_neg e, h.at_]
      have : ¬ u = z := fun x => e x.symm
      simp [this]
theorem in_slow {h : Int} {M : Mst} {Q : DK} : dIn false (.int h) (.ktp [.int 7, .int 8, .int 16, .int 17]) M Q = Q (.bl (slowH h)) M := by
  have e := in_ints (neg := false) (i := h) (ns := [7, 8, 16, 17]) (M := M) (Q := Q)
  rw [Bool.false_xor] at e
  exact e
theorem StOf.len {zs : List Str} {st : List (Str × NL)} {E : List Eg} (h : StOf zs st E) (u : Str) : ((getA st u).getD []).length ≤ E.length := by
  rw [h.at_, List.length_map]; exact List.length_filter_le ..
theorem egs_len (sl : Bool) (opn : Nat → Bool) (rs : List Rd_) : ∀ i, (egs sl opn rs i).length ≤ 2 * i
  | 0 => Nat.le_refl _
  | i + 1 => by
    have := egs_len sl opn rs i
    unfold egs
    rw [List.length_append]
    split
    · split
      · simp; omega
      · simp; omega
    · simp; omega
def spGSteps (c : Addr) : DSp := fun ds M Q _ => ∃ (ps : List Row_) (rs : List Rd_) (r : D) (ss : List Str) (h : Int) (x : D) (opn : Nat → Bool), ds = [gndD c ps r ss, .int h, x] ∧ Tpl (rs.map rdD) r ∧ GOk ps rs ss ∧ ShutD M x opn ∧
  ∀ M' d f st, IsSt M M' d f st → StOf (ps.map (·.1)) st (egs (slowH h) opn rs rs.length) → Q (.ref d) M'
theorem gsteps_ok (c : Addr) (ds : List D) (M : Mst) (Q : DK) (Ed : DX → Mst → Prop) (h : upSp (spGSteps c) ds M Q Ed) : qGSteps c (fun x _ M => Ed x M) (retE Q) (startD ["self", "hour", "shut", "found", "number", "one", "far", "many", "slow", "cost"] ds) M := by
  obtain ⟨Q0, E0, ⟨ps, rs, r, ss, h, x, opn, rfl, hr, go, hx, k0⟩, kq, _⟩ := h
  have k : ∀ M' d f st, IsSt M M' d f st → StOf (ps.map (·.1)) st (egs (slowH h) opn rs rs.length) → Q (.ref d) M' := fun M' d f st a b => kq _ _ _ (Sub.refl _) (k0 M' d f st a b)
  clear kq k0
  show qGSteps _ _ _ [some (gndD c ps r ss), some (.int h), some x, none, none, none, none, none, none, none] M
  simp only [qGSteps, qDNew, qSeq, qAsg, qTup, qCons, qNil, qOp, qUn, qC, qCall, qVar, qLst, newL_f, qIfS, qTB, qNext, qRet, qDrop, qFor, qCB, qAug, qSl, qPart, qNoPart, gNameD, gSub_eq, dInt_i, dInt0_i, dAdd_i, dCmpI_i, List.set_cons_zero, List.set_cons_succ, List.getElem?_cons_zero, List.getElem?_cons_succ, List.append_nil, z_l0, z_l1, z_l2, z_l3, z_l4, z_l5, z_l6, z_l7, z_l8, z_l9, z_l19, z_l24, z_l25, true_and]
  intro d hd
  simp only [qFld, qFor, qiEnum0, gndD, qSeq, qAsg, qTup, qCons, qNil, qOp, qUn, qC, qCall, qVar, qLst, newL_f, qIfS, qTB, qNext, qRet, qDrop, qFor, qCB, qAug, qSl, qPart, qNoPart, gNameD, gSub_eq, dInt_i, dInt0_i, dAdd_i, dCmpI_i, List.set_cons_zero, List.set_cons_succ, List.getElem?_cons_zero, List.getElem?_cons_succ, List.append_nil, z_l0, z_l1, z_l2, z_l3, z_l4, z_l5, z_l6, z_l7, z_l8, z_l9, z_l19, z_l24, z_l25, true_and]
  obtain ⟨w, hw⟩ : ∃ w, seqAt (put M d (.dK [])) r = some (w, rs.map rdD, always) := by rcases hr with rfl | rfl <;> exact ⟨_, rfl⟩
  refine ⟨rfl, rfl, ?_⟩
  show (match seqAt (put M d (.dK [])) r with
    | some (_, es, Sty) => _
    | none => False)
  rw [hw]
  dsimp only
  refine loopL_inv (n := rs.length) (fun i p M' => ∃ (f : Str → Addr) (st : List (Str × NL)) (y4 y5 y6 y7 y8 y9 : Option D), p = [some (gndD c ps r ss), some (.int h), some x, some (.ref d), y4, y5, y6, y7, y8, y9] ∧ IsSt M M' d f st ∧ StOf (ps.map (·.1)) st (egs (slowH h) opn rs i)) (by rw [enumDI_length, List.length_map]) (fun i dd p M' R hdd hI hR => ?_) (fun p M' hI => ?_)
    ⟨fun _ => 0, [], none, none, none, none, none, none, rfl, ⟨(Sub.refl M).put hd, hd, put_same, (fun _ h => nomatch h), (fun _ h => nomatch h), List.nodup_nil⟩, ⟨(fun _ h => nomatch h), fun _ => rfl⟩⟩
  · obtain ⟨f, st, y4, y5, y6, y7, y8, y9, rfl, hI, hE⟩ := hI
    obtain ⟨rd, hrd, rfl⟩ : ∃ rd, rs[i]? = some rd ∧ dd = .tup [.int (i : Int), rdD rd] := by
      obtain ⟨e, h1, h2⟩ := enum_tup hdd
      rw [List.getElem?_map] at h1
      obtain ⟨rd, h3, h4⟩ := Option.map_eq_some_iff.mp h1
      exact ⟨rd, h3, by rw [h2, h4]⟩
    refine ⟨trivial, ?_⟩
    show gTupD 2 _ (.tup [.int (i : Int), .tup [.str rd.1, .str rd.2.1, .int rd.2.2.1, .int rd.2.2.2]]) _ _ _ _
    simp only [gTupD, gConsD, gNilD, res_tup, List.length_cons, List.length_nil, true_and, gNameD, List.set_cons_zero, List.set_cons_succ, qOr, qIf, qSeq, qAsg, qTup, qCons, qNil, qOp, qUn, qC, qCall, qVar, qLst, newL_f, qIfS, qTB, qNext, qRet, qDrop, qFor, qCB, qAug, qSl, qPart, qNoPart, gNameD, gSub_eq, dInt_i, dInt0_i, dAdd_i, dCmpI_i, List.set_cons_zero, List.set_cons_succ, List.getElem?_cons_zero, List.getElem?_cons_succ, List.append_nil, z_l0, z_l1, z_l2, z_l3, z_l4, z_l5, z_l6, z_l7, z_l8, z_l9, z_l19, z_l24, z_l25, true_and]
    have hru := go.rp rd (List.mem_of_getElem? hrd)
    have hi : i < rs.length := (List.getElem?_eq_some_iff.mp hrd).1
    have hrn := go.rn
    have hgr := go.gr
    have hps : ps.length ≤ 40 := hgr.l1
    have stl : ∀ {st : List (Str × NL)}, (st.map (·.1)).Nodup → (∀ z ∈ st.map (·.1), z ∈ ps.map (·.1)) → st.length < 100000 := fun {st} h1 h2 => by
      have := nodup_le h1 h2
      rw [List.length_map, List.length_map] at this
      omega
    have eE : egs (slowH h) opn rs (i + 1) = egs (slowH h) opn rs i ++ (if opn i = true then [(rd.1, rd.2.1, costR (slowH h) rd), (rd.2.1, rd.1, costR (slowH h) rd)] else []) := by
      show _ ++ _ = _
      rw [hrd]
    have skip : opn i = false → ∀ p' : Rho, p' = [some (gndD c ps r ss), some (.int h), some x, some (.ref d), some (.int (i : Int)), some (.str rd.1), some (.str rd.2.1), some (.int rd.2.2.1), some (.int rd.2.2.2), y9] → R p' M' := fun ho p' hp => hR _ _ ⟨f, st, _, _, _, _, _, _, hp, hI, by rw [eE, if_neg (by rw [ho]; decide), List.append_nil]; exact hE⟩
    have tail : opn i = true → ∀ (q : Rho), q = [some (gndD c ps r ss), some (.int h), some x, some (.ref d), some (.int (i : Int)), some (.str rd.1), some (.str rd.2.1), some (.int rd.2.2.1), some (.int rd.2.2.2), some (.int (costR (slowH h) rd))] →
      qBM "list" mApp (qDSetd (qVar 3) (qVar 5) (qLst true qNil)) (qCons (qTup (qCons (qVar 6) (qCons (qVar 9) qNil))) qNil) (fun x _ M => Ed x M) q M' fun _ M1 =>
        qBM "list" mApp (qDSetd (qVar 3) (qVar 6) (qLst true qNil)) (qCons (qTup (qCons (qVar 5) (qCons (qVar 9) qNil))) qNil) (fun x _ M => Ed x M) q M1 fun _ M2 => R q M2 := fun ho q hq => by
      subst hq
      have b1 := hE.len rd.1
      have b2 := egs_len (slowH h) opn rs i
      refine st_add (u := rd.1) (v := rd.2.1) (c := costR (slowH h) rd) rfl rfl rfl rfl hI (stl hI.nd hE.sub) (by omega) fun f1 M1 I1 => ?_
      have hE1 := hE.add hru.m1 rd.2.1 (costR (slowH h) rd)
      have b3 := hE1.len rd.2.1
      rw [List.length_append] at b3
      simp only [List.length_cons, List.length_nil] at b3
      refine st_add (u := rd.2.1) (v := rd.1) (c := costR (slowH h) rd) rfl rfl rfl rfl I1 (stl I1.nd hE1.sub) (by omega) fun f2 M2 I2 => ?_
      have hE2 := hE1.add hru.m2 rd.1 (costR (slowH h) rd)
      refine hR _ _ ⟨f2, _, _, _, _, _, _, _, rfl, I2, ?_⟩
      rw [eE, if_pos ho]
      rw [List.append_assoc] at hE2
      exact hE2
    rcases hx with ⟨rfl, ha⟩ | ⟨hnn, ha⟩
    · simp only [dIs, isNon, in_slow, Bool.xor_true, Bool.not_false, if_true, qSeq, qAsg, qTup, qCons, qNil, qOp, qUn, qC, qCall, qVar, qLst, newL_f, qIfS, qTB, qNext, qRet, qDrop, qFor, qCB, qAug, qSl, qPart, qNoPart, gNameD, gSub_eq, dInt_i, dInt0_i, dAdd_i, dCmpI_i, List.set_cons_zero, List.set_cons_succ, List.getElem?_cons_zero, List.getElem?_cons_succ, List.append_nil, z_l0, z_l1, z_l2, z_l3, z_l4, z_l5, z_l6, z_l7, z_l8, z_l9, z_l19, z_l24, z_l25, true_and]
      cases e : slowH h with
      | true =>
        simp only [if_true]
        exact tail (ha i) _ (by simp [costR, e])
      | false =>
        simp only [Bool.false_eq_true, if_false]
        exact tail (ha i) _ (by simp [costR, e])
    · have hnb : isNon x = false := by cases x <;> first | rfl | exact absurd rfl hnn
      simp only [dIs, hnb, Bool.xor_false, Bool.false_eq_true, if_false, qSeq, qAsg, qTup, qCons, qNil, qOp, qUn, qC, qCall, qVar, qLst, newL_f, qIfS, qTB, qNext, qRet, qDrop, qFor, qCB, qAug, qSl, qPart, qNoPart, gNameD, gSub_eq, dInt_i, dInt0_i, dAdd_i, dCmpI_i, List.set_cons_zero, List.set_cons_succ, List.getElem?_cons_zero, List.getElem?_cons_succ, List.append_nil, z_l0, z_l1, z_l2, z_l3, z_l4, z_l5, z_l6, z_l7, z_l8, z_l9, z_l19, z_l24, z_l25, true_and]
      rw [ha M' hI.sub]
      cases ho : opn i with
      | false =>
        simp only [Bool.false_eq_true, if_false]
        exact skip ho _ rfl
      | true =>
        simp only [if_true, in_slow]
        cases e : slowH h with
        | true =>
          simp only [if_true]
          exact tail ho _ (by simp [costR, e])
        | false =>
          simp only [Bool.false_eq_true, if_false]
          exact tail ho _ (by simp [costR, e])
  · obtain ⟨f, st, y4, y5, y6, y7, y8, y9, rfl, hI, hE⟩ := hI
    refine ⟨trivial, ?_⟩
    simp only [qRet, qVar, qSeq, qAsg, qTup, qCons, qNil, qOp, qUn, qC, qCall, qVar, qLst, newL_f, qIfS, qTB, qNext, qRet, qDrop, qFor, qCB, qAug, qSl, qPart, qNoPart, gNameD, gSub_eq, dInt_i, dInt0_i, dAdd_i, dCmpI_i, List.set_cons_zero, List.set_cons_succ, List.getElem?_cons_zero, List.getElem?_cons_succ, List.append_nil, z_l0, z_l1, z_l2, z_l3, z_l4, z_l5, z_l6, z_l7, z_l8, z_l9, z_l19, z_l24, z_l25, true_and]
    exact k _ _ _ _ hI hE
end DL
namespace DL
open PySem L2 Tx20 Tx21
def qGReach (P_Ground_reach : Addr) (c_Ground : Addr) (sp_Ground_steps : DSp) : DTS :=
  (qSeq (qAsg (qMeth c_Ground FG sp_Ground_steps [] (qVar 0) (qCons (qVar 2) (qCons (qVar 3) qNil))) (gNameD 4))
  (qSeq (qAsg qDNew (gNameD 5))
  (qSeq (qAsg (qDisp [((qVar 1), (qC (.int 0)))]) (gNameD 6))
  (qSeq (qWhile (qTB (qOp (dDEq true) (qVar 6) qDNew))
  (qSeq (qAsg (qMinKey P_Ground_reach ("Ground.reach.<locals>.<lambda>" : Str) 6 (qVar 6)) (gNameD 7))
  (qSeq (qAsg (qDPop (qVar 6) (qVar 7)) (gSubD (qVar 5) (qVar 7)))
  (qFor (qiAny (qDGet2 (qVar 4) (qVar 7) (qLst false qNil))) (gTupD 2 (gConsD (gNameD 8) (gConsD (gNameD 9) gNilD)))
  (qIfS (qTB (qOp (dIn true) (qVar 8) (qVar 5)))
  (qAsg (qCB dMin2 (qCons (qDGet2 (qVar 6) (qVar 8) (qOp (dAdd false) (qOp dIx (qVar 5) (qVar 7)) (qVar 9))) (qCons (qOp (dAdd false) (qOp dIx (qVar 5) (qVar 7)) (qVar 9)) qNil))) (gSubD (qVar 6) (qVar 8)))
  qNext)))))
  (qFrz 5 (qRet (qVar 5)))))))
theorem egs_ok {sl : Bool} {opn : Nat → Bool} {zs : List Str} {rs : List Rd_} (h : ∀ r ∈ rs, RdOk zs r) : ∀ {i : Nat}, ∀ e ∈ egs sl opn rs i, (0 ≤ e.2.2 ∧ e.2.2 ≤ 120) ∧ e.1 ∈ zs ∧ e.2.1 ∈ zs
  | 0, e, he => by cases he
  | i + 1, e, he => by
    unfold egs at he
    rcases List.mem_append.mp he with he | he
    · exact egs_ok h e he
    · split at he
      · next r hr =>
        have hk := h r (List.mem_of_getElem? hr)
        have c0 := hk.a0
        have c1 := hk.a1
        have c2 := hk.b0
        have c3 := hk.b1
        have cc : 0 ≤ costR sl r ∧ costR sl r ≤ 120 := by unfold costR; split <;> omega
        split at he
        · simp only [List.mem_cons, List.not_mem_nil, or_false] at he
          rcases he with rfl | rfl
          · exact ⟨cc, hk.m1, hk.m2⟩
          · exact ⟨cc, hk.m2, hk.m1⟩
        · cases he
      · cases he
def dctS (l : NL) : D := .dct ((mK Sum.inr D.int l).map (·.1)) ((mK Sum.inr D.int l).map (·.2))
def spGReach (P c : Addr) : DSp := fun ds M Q _ => ∃ (ps : List Row_) (rs : List Rd_) (r : D) (ss : List Str) (s : Str) (h : Int) (x : D) (opn : Nat → Bool), ds = [gndD c ps r ss, .str s, .int h, x] ∧ M P = some (.tab ("Ground.reach.<locals>.<lambda>" : Str)) ∧ Tpl (rs.map rdD) r ∧ GOk ps rs ss ∧ s ∈ ps.map (·.1) ∧ ShutD M x opn ∧
  ∀ l, KIn (ps.map (·.1)) l → Least (egs (slowH h) opn rs rs.length) s (getA l) → Q (dctS l) M
theorem txKeys_m (l : NL) : txKeys ((mK (Sum.inr : Str → Key) D.int l).map (·.1)) = some (l.map (·.1)) := by
  unfold mK
  rw [List.map_map]
  induction l with
  | nil => rfl
  | cons x l ih =>
    simp only [List.map_cons, Function.comp_apply, txKeys] at ih ⊢
    rw [show (l.map ((fun x : Key × D => x.1) ∘ fun x : Str × Int => (Sum.inr x.1, D.int x.2))) = _ from rfl] at ih
    rw [ih]
/-- the memory amid Ground.reach: M1 with what is found and what is near -/
structure RI (M1 : Mst) (af an : Addr) (F N : NL) (M : Mst) : Prop where
  f : M af = some (.dK (mK Sum.inr D.int F))
  n : M an = some (.dK (mK Sum.inr D.int N))
  o : ∀ a o, a ≠ af → a ≠ an → M1 a = some o → M a = some o
theorem RI.new {M1 M : Mst} {af an a : Addr} {F N : NL} {u : MO} (h : RI M1 af an F N M) (ha : M a = none) : RI M1 af an F N (put M a u) :=
  ⟨put_keep h.f ha, put_keep h.n ha, fun b o h1 h2 hb => put_keep (h.o b o h1 h2 hb) ha⟩
theorem RI.setN {M1 M : Mst} {af an : Addr} {F N N' : NL} (h : RI M1 af an F N M) (ne : af ≠ an) : RI M1 af an F N' (put M an (.dK (mK Sum.inr D.int N'))) :=
  ⟨by rw [put_ne ne]; exact h.f, put_same, fun b o h1 h2 hb => by rw [put_ne h2]; exact h.o b o h1 h2 hb⟩
theorem RI.setF {M1 M : Mst} {af an : Addr} {F N F' : NL} (h : RI M1 af an F N M) (ne : af ≠ an) : RI M1 af an F' N (put M af (.dK (mK Sum.inr D.int F'))) :=
  ⟨put_same, by rw [put_ne ne.symm]; exact h.n, fun b o h1 h2 hb => by rw [put_ne h1]; exact h.o b o h1 h2 hb⟩
theorem greach_ok (P c : Addr) (ds : List D) (M : Mst) (Q : DK) (Ed : DX → Mst → Prop) (h : upSp (spGReach P c) ds M Q Ed) : qGReach P c (spGSteps c) (fun x _ M => Ed x M) (retE Q) (startD ["self", "start", "hour", "shut", "steps", "found", "near", "place", "far", "cost"] ds) M := by
  obtain ⟨Q0, E0, ⟨ps, rs, r, ss, s, h, x, opn, rfl, hP, hr, go, hs, hx, k0⟩, kq, _⟩ := h
  have k : ∀ M', Sub M M' → ∀ l, KIn (ps.map (·.1)) l → Least (egs (slowH h) opn rs rs.length) s (getA l) → Q (dctS l) M' := fun M' S l a b => kq _ _ _ S (k0 l a b)
  clear kq k0
  show qGReach _ _ _ _ _ [some (gndD c ps r ss), some (.str s), some (.int h), some x, none, none, none, none, none, none] M
  simp only [qGReach, qMeth, qDNew, qSeq, qAsg, qTup, qCons, qNil, qOp, qUn, qC, qCall, qVar, qLst, newL_f, qIfS, qTB, qNext, qRet, qDrop, qFor, qCB, qAug, qSl, qPart, qNoPart, gNameD, gSub_eq, dInt_i, dInt0_i, dAdd_i, dCmpI_i, List.set_cons_zero, List.set_cons_succ, List.getElem?_cons_zero, List.getElem?_cons_succ, List.append_nil, z_l0, z_l1, z_l2, z_l3, z_l4, z_l5, z_l6, z_l7, z_l8, z_l9, z_l19, z_l24, z_l25, true_and]
  refine ⟨⟨rfl, rfl⟩, ?_⟩
  refine ⟨ps, rs, r, ss, h, x, opn, rfl, hr, go, hx, fun M1 d f st I hE => ?_⟩
  intro af haf
  simp only [qDisp, qPairs, qSeq, qAsg, qTup, qCons, qNil, qOp, qUn, qC, qCall, qVar, qLst, newL_f, qIfS, qTB, qNext, qRet, qDrop, qFor, qCB, qAug, qSl, qPart, qNoPart, gNameD, gSub_eq, dInt_i, dInt0_i, dAdd_i, dCmpI_i, List.set_cons_zero, List.set_cons_succ, List.getElem?_cons_zero, List.getElem?_cons_succ, List.append_nil, z_l0, z_l1, z_l2, z_l3, z_l4, z_l5, z_l6, z_l7, z_l8, z_l9, z_l19, z_l24, z_l25, true_and]
  intro an han
  refine ⟨put_same, ?_⟩
  have nfn : af ≠ an := fun e => by rw [← e, put_same] at han; cases han
  have han1 : M1 an = none := by rw [put_ne nfn.symm] at han; exact han
  have hgr := go.gr
  have hps : (ps.map (·.1)).length ≤ 40 := by rw [List.length_map]; exact hgr.l1
  have pos : ∀ e ∈ egs (slowH h) opn rs rs.length, (0 ≤ e.2.2 ∧ e.2.2 ≤ 120) ∧ e.1 ∈ ps.map (·.1) ∧ e.2.1 ∈ ps.map (·.1) := egs_ok go.rp
  refine ⟨Nat.le_of_ble_eq_true rfl, ?_⟩
  have RI0 : RI M1 af an [] [(s, 0)] (put (put (put M1 af (.dK [])) an (.dK [])) an (.dK (putAllD [] [(Sum.inr s, D.int 0)]))) :=
    ⟨by rw [put_put, put_ne nfn, put_same]; rfl, by rw [put_same]; rfl, fun a o h1 h2 ha => by rw [put_put, put_ne h2, put_ne h1]; exact ha⟩
  show qWhile _ _ _ _ _ (put (put (put M1 af (.dK [])) an (.dK [])) an (.dK (putAllD [] [(Sum.inr s, D.int 0)])))
  refine while_inv (fun n p M' => ∃ (F N : NL) (y7 y8 y9 : Option D), p = [some (gndD c ps r ss), some (.str s), some (.int h), some x, some (.ref d), some (.ref af), some (.ref an), y7, y8, y9] ∧ RI M1 af an F N M' ∧ KIn (ps.map (·.1)) F ∧ KIn (ps.map (·.1)) N ∧ Dij (egs (slowH h) opn rs rs.length) s F N ∧ n = (ps.map (·.1)).length - F.length) (fun n p M' R hI hR => ?_) (n := (ps.map (·.1)).length)
    ⟨[], [(s, 0)], none, none, none, rfl, RI0, ⟨List.nodup_nil, fun _ h => nomatch h⟩, ⟨by simp, fun z hz => by simp at hz; rw [hz]; exact hs⟩, Dij.begin _ _, rfl⟩
  obtain ⟨F, N, y7, y8, y9, rfl, hR0, kF, kN, hD, hn⟩ := hI
  simp only [qDNew, qSeq, qAsg, qTup, qCons, qNil, qOp, qUn, qC, qCall, qVar, qLst, newL_f, qIfS, qTB, qNext, qRet, qDrop, qFor, qCB, qAug, qSl, qPart, qNoPart, gNameD, gSub_eq, dInt_i, dInt0_i, dAdd_i, dCmpI_i, List.set_cons_zero, List.set_cons_succ, List.getElem?_cons_zero, List.getElem?_cons_succ, List.append_nil, z_l0, z_l1, z_l2, z_l3, z_l4, z_l5, z_l6, z_l7, z_l8, z_l9, z_l19, z_l24, z_l25, true_and]
  intro a ha
  have hR1 := hR0.new (u := .dK []) ha
  refine ⟨an, a, kS N, [], rfl, rfl, by rw [hR1.n, dctI_kS], by rw [put_same]; rfl, ?_⟩
  cases N with
  | nil =>
    simp only [show eqKI (kS []) [] = true from rfl, Bool.xor_self, Bool.false_eq_true, if_false, qFrz, frz, hR1.f, qSeq, qAsg, qTup, qCons, qNil, qOp, qUn, qC, qCall, qVar, qLst, newL_f, qIfS, qTB, qNext, qRet, qDrop, qFor, qCB, qAug, qSl, qPart, qNoPart, gNameD, gSub_eq, dInt_i, dInt0_i, dAdd_i, dCmpI_i, List.set_cons_zero, List.set_cons_succ, List.getElem?_cons_zero, List.getElem?_cons_succ, List.append_nil, z_l0, z_l1, z_l2, z_l3, z_l4, z_l5, z_l6, z_l7, z_l8, z_l9, z_l19, z_l24, z_l25, true_and]
    refine k _ (fun b o hb => ?_) F kF hD.done
    have h1 := I.sub _ _ hb
    have nb1 : b ≠ af := ne_of_some h1 haf
    rw [show del (put M' a (.dK [])) af b = put M' a (.dK []) b from by simp [del, nb1]]
    exact hR1.o b o nb1 (ne_of_some h1 han1) h1
  | cons q N =>
    simp only [show eqKI (kS (q :: N)) [] = false from rfl, Bool.xor_false, if_true, qMinKey, qSeq, qAsg, qTup, qCons, qNil, qOp, qUn, qC, qCall, qVar, qLst, newL_f, qIfS, qTB, qNext, qRet, qDrop, qFor, qCB, qAug, qSl, qPart, qNoPart, gNameD, gSub_eq, dInt_i, dInt0_i, dAdd_i, dCmpI_i, List.set_cons_zero, List.set_cons_succ, List.getElem?_cons_zero, List.getElem?_cons_succ, List.append_nil, z_l0, z_l1, z_l2, z_l3, z_l4, z_l5, z_l6, z_l7, z_l8, z_l9, z_l19, z_l24, z_l25, true_and]
    generalize hNN : q :: N = N' at *
    have hne : N' ≠ [] := by rw [← hNN]; simp
    clear hNN hR0
    generalize hM3 : put M' a (.dK []) = M3 at *
    have hP3 : M3 P = some (.tab ("Ground.reach.<locals>.<lambda>" : Str)) := by
      have h1 := I.sub _ _ hP
      exact hR1.o P _ (ne_of_some h1 haf) (ne_of_some h1 han1) h1
    refine ⟨hP3, an, _, N'.map (·.1), fun z => (getA N' z).getD 0, rfl, hR1.n, by unfold txIt; dsimp only; rw [hR1.n]; exact txKeys_m N', fun z hz => ?_, by simpa using hne, fun z hz hmin => ?_⟩
    · rw [valD_m inr_inj]
      have := getA_isSome (l := N') (z := z)
      rw [decide_eq_true hz] at this
      obtain ⟨e, he⟩ := Option.isSome_iff_exists.mp this
      show Option.map D.int (getA N' z) = some (D.int ((getA N' z).getD 0))
      rw [he]; rfl
    have hsz := getA_isSome (l := N') (z := z)
    rw [decide_eq_true hz] at hsz
    obtain ⟨dz, hdz⟩ := Option.isSome_iff_exists.mp hsz
    have hle : ∀ v m, getA N' v = some m → dz ≤ m := fun v m hv => by
      have := hmin v (List.mem_map_of_mem (f := (·.1)) (getA_some hv))
      dsimp only at this
      rw [hdz, hv] at this
      rcases this with h | h
      · exact Int.le_of_lt h
      · exact Int.le_of_eq h.1
    have hzz : z ∈ ps.map (·.1) := kN.at hdz
    have hFz : getA F z = none := (hD.nw z dz hdz).2
    have hDP := hD.pop (fun e he => (pos e he).1.1) hdz hle
    have kF2 : KIn (ps.map (·.1)) (putA F z dz) := kF.put hzz dz
    have kN2 : KIn (ps.map (·.1)) (dropA N' z) := kN.drop z
    have lF : (putA F z dz).length = F.length + 1 := putA_len_new hFz
    have lF2 := kF2.len
    simp only [qDPop, qSeq, qAsg, qTup, qCons, qNil, qOp, qUn, qC, qCall, qVar, qLst, newL_f, qIfS, qTB, qNext, qRet, qDrop, qFor, qCB, qAug, qSl, qPart, qNoPart, gNameD, gSub_eq, dInt_i, dInt0_i, dAdd_i, dCmpI_i, List.set_cons_zero, List.set_cons_succ, List.getElem?_cons_zero, List.getElem?_cons_succ, List.append_nil, z_l0, z_l1, z_l2, z_l3, z_l4, z_l5, z_l6, z_l7, z_l8, z_l9, z_l19, z_l24, z_l25, true_and]
    refine ⟨by simp [isDict, hR1.n], an, _, _, .int dz, rfl, hR1.n, rfl, by rw [valD_m inr_inj, hdz]; rfl, ?_⟩
    rw [dropD_m inr_inj]
    have hR2 := hR1.setN (N' := dropA N' z) nfn
    generalize put M3 an (.dK (mK Sum.inr D.int (dropA N' z))) = M4 at hR2
    simp only [gSubD, dSet, qVar, List.getElem?_cons_zero, List.getElem?_cons_succ, hR2.f, keyD]
    have lFk := kF.len
    refine ⟨by unfold mK; rw [List.length_map]; omega, ?_⟩
    rw [putD_m inr_inj]
    have hR3 := hR2.setF (F' := putA F z dz) nfn
    generalize put M4 af (.dK (mK Sum.inr D.int (putA F z dz))) = M5 at hR3
    clear hR2 hR1 hM3 hP3
    -- the ways of z
    have hst : M5 d = some (.dK (kvOf Sum.inr f st)) := hR3.o d _ (ne_of_some I.at_ haf) (ne_of_some I.at_ han1) I.at_
    have loop : ∀ (L : NL) (Sty : Mst → Prop), L = (getA st z).getD [] → (∀ F N M, RI M1 af an F N M → Sty M) → loopL Sty (gTupD 2 (gConsD (gNameD 8) (gConsD (gNameD 9) gNilD))) (qIfS (qTB (qOp (dIn true) (qVar 8) (qVar 5)))
        (qAsg (qCB dMin2 (qCons (qDGet2 (qVar 6) (qVar 8) (qOp (dAdd false) (qOp dIx (qVar 5) (qVar 7)) (qVar 9))) (qCons (qOp (dAdd false) (qOp dIx (qVar 5) (qVar 7)) (qVar 9)) qNil))) (gSubD (qVar 6) (qVar 8))) qNext) (fun x _ M => Ed x M) { nx := R, rt := (retE Q).rt, bk := qFrz 5 (qRet (qVar 5)) (fun x _ M => Ed x M) (retE Q), ct := R } (L.map plD)
        [some (gndD c ps r ss), some (.str s), some (.int h), some x, some (.ref d), some (.ref af), some (.ref an), some (.str z), y8, y9] M5 := fun L Sty hL hSty => by
      have hLE : ∀ v e, (v, e) ∈ L ↔ (z, v, e) ∈ egs (slowH h) opn rs rs.length := fun v e => by
        rw [hL, hE.at_, List.mem_map]
        constructor
        · rintro ⟨⟨u, v', e'⟩, hm, he⟩
          obtain ⟨h1, h2⟩ := List.mem_filter.mp hm
          cases he
          have : u = z := by simpa using h2
          rw [← this]; exact h1
        · intro hm
          exact ⟨(z, v, e), List.mem_filter.mpr ⟨hm, by simp⟩, rfl⟩
      refine loopL_inv (n := L.length) (fun i p M' => ∃ (N2 : NL) (y8 y9 : Option D), p = [some (gndD c ps r ss), some (.str s), some (.int h), some x, some (.ref d), some (.ref af), some (.ref an), some (.str z), y8, y9] ∧ RI M1 af an (putA F z dz) N2 M' ∧ KIn (ps.map (·.1)) N2 ∧ DijP (egs (slowH h) opn rs rs.length) s (putA F z dz) N2 z dz (L.take i)) (by rw [List.length_map]) (fun i dd p M' R hdd hI hR => ?_) (fun p M' hI => ?_)
        ⟨_, _, _, rfl, hR3, kN2, hDP⟩
      · obtain ⟨N2, y8, y9, rfl, hR4, kN4, hDP4⟩ := hI
        rw [List.getElem?_map] at hdd
        obtain ⟨⟨v, e⟩, hve, rfl⟩ := Option.map_eq_some_iff.mp hdd
        have hmE : (z, v, e) ∈ egs (slowH h) opn rs rs.length := (hLE v e).mp (List.mem_of_getElem? hve)
        have hvz := (pos _ hmE).2.2
        have next := hDP4.next (x := (v, e)) hmE
        have etake : L.take (i + 1) = L.take i ++ [(v, e)] := by rw [List.take_add_one, hve]; rfl
        rw [← etake] at next
        refine ⟨hSty _ _ _ hR4, ?_⟩
        show gTupD 2 _ (.tup [.str v, .int e]) _ _ _ _
        simp only [gTupD, gConsD, gNilD, res_tup, List.length_cons, List.length_nil, true_and, gNameD, List.set_cons_zero, List.set_cons_succ, dIn, dgetD, hR4.f, keyD, Option.map_some, valD_m inr_inj, qSeq, qAsg, qTup, qCons, qNil, qOp, qUn, qC, qCall, qVar, qLst, newL_f, qIfS, qTB, qNext, qRet, qDrop, qFor, qCB, qAug, qSl, qPart, qNoPart, gNameD, gSub_eq, dInt_i, dInt0_i, dAdd_i, dCmpI_i, List.set_cons_zero, List.set_cons_succ, List.getElem?_cons_zero, List.getElem?_cons_succ, List.append_nil, z_l0, z_l1, z_l2, z_l3, z_l4, z_l5, z_l6, z_l7, z_l8, z_l9, z_l19, z_l24, z_l25, true_and]
        cases eF : getA (putA F z dz) v with
        | some w =>
          simp only [Option.map_some, Option.isSome_some, Bool.xor_true, Bool.not_true, Bool.true_xor, Bool.false_eq_true, if_false]
          refine hR _ _ ⟨N2, _, _, rfl, hR4, kN4, ?_⟩
          rw [if_neg (by dsimp only; rw [eF]; exact fun z => nomatch z)] at next
          exact next
        | none =>
          simp only [Option.map_none, Option.isSome_none, Bool.not_false, Bool.true_xor, if_true]
          rw [if_pos (by dsimp only; exact eF)] at next
          have ix : ∀ K : DK, dIx (.ref af) (.str z) M' K = K (.int dz) M' := fun K => by
            unfold dIx
            simp only [dgetD, hR4.f, keyD, Option.map_some, valD_m inr_inj, getA_put, if_true]
          simp only [qDGet2, ix, isDict, hR4.n, true_and, dgetD, keyD, Option.map_some, valD_m inr_inj, dAdd_i, qSeq, qAsg, qTup, qCons, qNil, qOp, qUn, qC, qCall, qVar, qLst, newL_f, qIfS, qTB, qNext, qRet, qDrop, qFor, qCB, qAug, qSl, qPart, qNoPart, gNameD, gSub_eq, dInt_i, dInt0_i, dAdd_i, dCmpI_i, List.set_cons_zero, List.set_cons_succ, List.getElem?_cons_zero, List.getElem?_cons_succ, List.append_nil, z_l0, z_l1, z_l2, z_l3, z_l4, z_l5, z_l6, z_l7, z_l8, z_l9, z_l19, z_l24, z_l25, true_and]
          have lN := kN4.len
          have fin : ∀ w : Int, w = nearer (getA N2 v) (dz + e) → dSet (.ref an) (.str v) (.int w) M' fun M3 => R [some (gndD c ps r ss), some (.str s), some (.int h), some x, some (.ref d), some (.ref af), some (.ref an), some (.str z), some (.str v), some (.int e)] M3 := fun w hw => by
            subst hw
            simp only [dSet, hR4.n, keyD]
            refine ⟨by unfold mK; rw [List.length_map]; omega, ?_⟩
            rw [putD_m inr_inj]
            exact hR _ _ ⟨_, _, _, rfl, hR4.setN nfn, kN4.put hvz _, next⟩
          cases eN : getA N2 v with
          | none =>
            simp only [Option.map_none, Option.getD_none, dMin2]
            refine fin _ ?_
            rw [eN]
            show _ = min (dz + e) (dz + e)
            rw [Int.min_self]; simp
          | some m =>
            simp only [Option.map_some, Option.getD_some, dMin2]
            refine fin _ ?_
            rw [eN]
            show _ = min m (dz + e)
            split <;> omega
      · obtain ⟨N2, y8, y9, rfl, hR4, kN4, hDP4⟩ := hI
        rw [List.take_length] at hDP4
        refine ⟨hSty _ _ _ hR4, ?_⟩
        exact hR _ _ _ (by omega) ⟨_, _, _, _, _, rfl, hR4, kF2, kN4, hDP4.over fun v e h => (hLE v e).mpr h, rfl⟩
    simp only [qFor, qiAny, qDGet2, isDict, hst, true_and, dgetD, keyD, Option.map_some, valD_kv inr_inj, qSeq, qAsg, qTup, qCons, qNil, qOp, qUn, qC, qCall, qVar, qLst, newL_f, qIfS, qTB, qNext, qRet, qDrop, qFor, qCB, qAug, qSl, qPart, qNoPart, gNameD, gSub_eq, dInt_i, dInt0_i, dAdd_i, dCmpI_i, List.set_cons_zero, List.set_cons_succ, List.getElem?_cons_zero, List.getElem?_cons_succ, List.append_nil, z_l0, z_l1, z_l2, z_l3, z_l4, z_l5, z_l6, z_l7, z_l8, z_l9, z_l19, z_l24, z_l25, true_and]
    cases ez : getA st z with
    | none =>
      exact loop [] _ (by rw [ez]; rfl) fun _ _ _ _ => trivial
    | some ls =>
      have hm := getA_some ez
      obtain ⟨l1, l2⟩ := I.ls _ hm
      have na := ne_of_some l1 haf
      have nb := ne_of_some l1 han1
      simp only [Option.map_some, Option.getD_some, hR3.o _ _ na nb l1]
      exact loop ls _ (by rw [ez]; rfl) fun F N M hRI => hRI.o _ _ na nb l1
end DL
namespace DL
open PySem L2 Tx20 Tx21
def qGRisk (c_Ground : Addr) (c_NoPlace : Addr) : DTS :=
  (qSeq (qIfS (qNot (qTB (qCB dIsi (qCons (qVar 1) (qCons (qC (.ty "str")) qNil)))))
  (qRaise c_NoPlace [(PySem.Str.ofString "place")] (qCons (qVar 1) qNil))
  qNext)
  (qTryKey c_NoPlace (PySem.Str.ofString "place") (qFld c_Ground FG 0 (qVar 0)) (qVar 1) (qVar 1)))
def qGMinutes (c_Ground : Addr) (sp_Ground_reach : DSp) (sp_Ground_risk : DSp) : DTS :=
  (qSeq (qDrop (qMeth c_Ground FG sp_Ground_risk [] (qVar 0) (qCons (qVar 1) qNil)))
  (qSeq (qDrop (qMeth c_Ground FG sp_Ground_risk [] (qVar 0) (qCons (qVar 2) qNil)))
  (qRet (qDGet2 (qMeth c_Ground FG sp_Ground_reach [] (qVar 0) (qCons (qVar 1) (qCons (qVar 3) (qCons (qVar 4) qNil)))) (qVar 2) (qC .non)))))
def qGLReach : DTS :=
  (qSeq (qPar 4 5 (qCons (qDisp [((qVar 1), (qC (.int 0)))]) (qCons qDNew qNil)))
  (qSeq (qWhile (qTB (qOp (dDEq true) (qVar 4) (qVar 5)))
  (qSeq (qAsg (qCB dDictC (qCons (qVar 4) qNil)) (gNameD 5))
  (qFor (qiEnum0 (qCons (qOp dIx (qVar 0) (qC (.int 1))) qNil)) (gTupD 2 (gConsD (gNameD 6) (gConsD (gTupD 4 (gConsD (gNameD 7) (gConsD (gNameD 8) (gConsD (gNameD 9) (gConsD (gNameD 10) gNilD))))) gNilD)))
  (qSeq (qAsg (qOp (dAdd false) (qVar 9) (qOp (dMul false) (qVar 10) (qCB dIntX (qCons (qOp (dIn false) (qVar 2) (qTup (qCons (qC (.int 7)) (qCons (qC (.int 8)) (qCons (qC (.int 16)) (qCons (qC (.int 17)) qNil)))))) qNil)))) (gNameD 11))
  (qFor (qiAny (qTup (qCons (qTup (qCons (qVar 7) (qCons (qVar 8) qNil))) (qCons (qTup (qCons (qVar 8) (qCons (qVar 7) qNil))) qNil)))) (gTupD 2 (gConsD (gNameD 12) (gConsD (gNameD 13) gNilD)))
  (qIfS (qAnd (qTB (qOp (dIn true) (qVar 6) (qVar 3))) (qTB (qOp (dIn false) (qVar 12) (qVar 4))))
  (qAsg (qCB dMin2 (qCons (qDGet2 (qVar 4) (qVar 13) (qOp (dAdd false) (qOp dIx (qVar 4) (qVar 12)) (qVar 11))) (qCons (qOp (dAdd false) (qOp dIx (qVar 4) (qVar 12)) (qVar 11)) qNil))) (gSubD (qVar 4) (qVar 13)))
  qNext))))))
  (qFrz 4 (qRet (qVar 4)))))
theorem gzip_fs {α β : Type} : ∀ l : List (α × β), (l.map (·.1)).zip (l.map (·.2)) = l
  | [] => rfl
  | x :: l => by rw [List.map_cons, List.map_cons, List.zip_cons_cons, gzip_fs l]
theorem get_dctS {M : Mst} {l : NL} {z : Str} : dgetD M (dctS l) (.str z) = some ((getA l z).map D.int) := by
  unfold dctS
  simp only [dgetD, keyD, Option.map_some]
  rw [gzip_fs, valD_m inr_inj]
theorem get_risks {M : Mst} {ps : List Row_} {z : Str} : dgetD M (risksD ps) (.str z) = some ((getA ps z).map D.int) := get_dctS
def spGRisk (c : Addr) : DSp := fun ds M Q _ => ∃ (ps : List Row_) (r : D) (ss : List Str) (z : Str), ds = [gndD c ps r ss, .str z] ∧ z ∈ ps.map (·.1) ∧ ∀ k, getA ps z = some k → Q (.int k) M
theorem grisk_ok (c nop : Addr) (ds : List D) (M : Mst) (Q : DK) (Ed : DX → Mst → Prop) (h : upSp (spGRisk c) ds M Q Ed) : qGRisk c nop (fun x _ M => Ed x M) (retE Q) (startD ["self", "place"] ds) M := by
  obtain ⟨Q0, E0, ⟨ps, r, ss, z, rfl, hz, k0⟩, kq, _⟩ := h
  have hsz := getA_isSome (l := ps) (z := z)
  rw [decide_eq_true hz] at hsz
  obtain ⟨k, hk⟩ := Option.isSome_iff_exists.mp hsz
  have k1 : Q (.int k) M := kq _ _ _ (Sub.refl _) (k0 k hk)
  show qGRisk _ _ _ _ [some (gndD c ps r ss), some (.str z)] M
  simp only [qGRisk, qNot, z_isi_str_str, Bool.not_true, Bool.false_eq_true, if_false, qTryKey, qFld, gndD, qSeq, qAsg, qTup, qCons, qNil, qOp, qUn, qC, qCall, qVar, qLst, newL_f, qIfS, qTB, qNext, qRet, qDrop, qFor, qCB, qAug, qSl, qPart, qNoPart, gNameD, gSub_eq, dInt_i, dInt0_i, dAdd_i, dCmpI_i, List.set_cons_zero, List.set_cons_succ, List.getElem?_cons_zero, List.getElem?_cons_succ, List.append_nil, z_l0, z_l1, z_l2, z_l3, z_l4, z_l5, z_l6, z_l7, z_l8, z_l9, z_l19, z_l24, z_l25, true_and]
  refine ⟨rfl, rfl, ?_⟩
  show (match dgetD M (risksD ps) (.str z) with
    | some (some v) => _
    | some none => _
    | none => False)
  rw [get_risks, hk]
  exact k1
def optN : Option Int → D
  | some i => .int i
  | none => .non
def spGMinutes (P c : Addr) : DSp := fun ds M Q _ => ∃ (ps : List Row_) (rs : List Rd_) (r : D) (ss : List Str) (s g : Str) (h : Int) (x : D) (opn : Nat → Bool), ds = [gndD c ps r ss, .str s, .str g, .int h, x] ∧ M P = some (.tab ("Ground.reach.<locals>.<lambda>" : Str)) ∧ Tpl (rs.map rdD) r ∧ GOk ps rs ss ∧ s ∈ ps.map (·.1) ∧ g ∈ ps.map (·.1) ∧ ShutD M x opn ∧
  ∀ l, Least (egs (slowH h) opn rs rs.length) s (getA l) → Q (optN (getA l g)) M
theorem gminutes_ok (P c : Addr) (ds : List D) (M : Mst) (Q : DK) (Ed : DX → Mst → Prop) (h : upSp (spGMinutes P c) ds M Q Ed) : qGMinutes c (spGReach P c) (spGRisk c) (fun x _ M => Ed x M) (retE Q) (startD ["self", "start", "goal", "hour", "shut"] ds) M := by
  obtain ⟨Q0, E0, ⟨ps, rs, r, ss, s, g, h, x, opn, rfl, hP, hr, go, hs, hg, hx, k0⟩, kq, _⟩ := h
  have k : ∀ l, Least (egs (slowH h) opn rs rs.length) s (getA l) → Q (optN (getA l g)) M := fun l a => kq _ _ _ (Sub.refl _) (k0 l a)
  clear kq k0
  show qGMinutes _ _ _ _ _ [some (gndD c ps r ss), some (.str s), some (.str g), some (.int h), some x] M
  simp only [qGMinutes, qMeth, qSeq, qAsg, qTup, qCons, qNil, qOp, qUn, qC, qCall, qVar, qLst, newL_f, qIfS, qTB, qNext, qRet, qDrop, qFor, qCB, qAug, qSl, qPart, qNoPart, gNameD, gSub_eq, dInt_i, dInt0_i, dAdd_i, dCmpI_i, List.set_cons_zero, List.set_cons_succ, List.getElem?_cons_zero, List.getElem?_cons_succ, List.append_nil, z_l0, z_l1, z_l2, z_l3, z_l4, z_l5, z_l6, z_l7, z_l8, z_l9, z_l19, z_l24, z_l25, true_and]
  refine ⟨⟨rfl, rfl⟩, ps, r, ss, s, rfl, hs, fun _ _ => ⟨⟨rfl, rfl⟩, ps, r, ss, g, rfl, hg, fun _ _ => ?_⟩⟩
  simp only [qDGet2, qSeq, qAsg, qTup, qCons, qNil, qOp, qUn, qC, qCall, qVar, qLst, newL_f, qIfS, qTB, qNext, qRet, qDrop, qFor, qCB, qAug, qSl, qPart, qNoPart, gNameD, gSub_eq, dInt_i, dInt0_i, dAdd_i, dCmpI_i, List.set_cons_zero, List.set_cons_succ, List.getElem?_cons_zero, List.getElem?_cons_succ, List.append_nil, z_l0, z_l1, z_l2, z_l3, z_l4, z_l5, z_l6, z_l7, z_l8, z_l9, z_l19, z_l24, z_l25, true_and]
  refine ⟨⟨rfl, rfl⟩, ps, rs, r, ss, s, h, x, opn, rfl, hP, hr, go, hs, hx, fun l hl hL => ⟨rfl, ?_⟩⟩
  rw [get_dctS]
  have := k l hL
  cases e : getA l g with
  | none => rw [e] at this; exact this
  | some i => rw [e] at this; exact this
theorem in_slowT {h : Int} {M : Mst} {Q : DK} : dIn false (.int h) (.tup [.int 7, .int 8, .int 16, .int 17]) M Q = Q (.bl (slowH h)) M := in_slow
theorem egs_mem {sl : Bool} {opn : Nat → Bool} {rs : List Rd_} {r : Rd_} {i : Nat} (hi : i < rs.length) (hr : rs[i]? = some r) (ho : opn i = true) : (r.1, r.2.1, costR sl r) ∈ egs sl opn rs rs.length ∧ (r.2.1, r.1, costR sl r) ∈ egs sl opn rs rs.length := by
  have main : ∀ n, i < n → (r.1, r.2.1, costR sl r) ∈ egs sl opn rs n ∧ (r.2.1, r.1, costR sl r) ∈ egs sl opn rs n := fun n => by
    induction n with
    | zero => intro h; omega
    | succ n ih =>
      intro h
      unfold egs
      by_cases c : i < n
      · exact ⟨List.mem_append_left _ (ih c).1, List.mem_append_left _ (ih c).2⟩
      · have : i = n := by omega
        subst this
        rw [hr]
        dsimp only
        rw [if_pos ho]
        exact ⟨List.mem_append_right _ (by simp), List.mem_append_right _ (by simp)⟩
  exact main _ hi
def spGLReach : DSp := fun ds M Q _ => ∃ (ps : List Row_) (rs : List Rd_) (ss : List Str) (s : Str) (h : Int) (x : D) (opn : Nat → Bool), ds = [grT ps rs ss, .str s, .int h, x] ∧ GOk ps rs ss ∧ s ∈ ps.map (·.1) ∧ x ≠ .non ∧ ShutD M x opn ∧
  ∀ l, Least (egs (slowH h) opn rs rs.length) s (getA l) → Q (dctS l) M
theorem glreach_ok (ds : List D) (M : Mst) (Q : DK) (Ed : DX → Mst → Prop) (h : upSp spGLReach ds M Q Ed) : qGLReach (fun x _ M => Ed x M) (retE Q) (startD ["_law_parts", "_law_begin", "_law_clock", "_law_gone_here", "_law_found", "_law_ahead", "_law_number", "_law_one", "_law_far", "_law_many", "_law_slow", "_law_cost", "_law_here", "_law_there"] ds) M := by
  obtain ⟨Q0, E0, ⟨ps, rs, ss, s, h, x, opn, rfl, go, hs, hnn, hx, k0⟩, kq, _⟩ := h
  have k : ∀ M', Sub M M' → ∀ l, Least (egs (slowH h) opn rs rs.length) s (getA l) → Q (dctS l) M' := fun M' S l a => kq _ _ _ S (k0 l a)
  clear kq k0
  show qGLReach _ _ [some (grT ps rs ss), some (.str s), some (.int h), some x, none, none, none, none, none, none, none, none, none, none] M
  simp only [qGLReach, qPar, qDNew, qDisp, qPairs, qSeq, qAsg, qTup, qCons, qNil, qOp, qUn, qC, qCall, qVar, qLst, newL_f, qIfS, qTB, qNext, qRet, qDrop, qFor, qCB, qAug, qSl, qPart, qNoPart, gNameD, gSub_eq, dInt_i, dInt0_i, dAdd_i, dCmpI_i, List.set_cons_zero, List.set_cons_succ, List.getElem?_cons_zero, List.getElem?_cons_succ, List.append_nil, z_l0, z_l1, z_l2, z_l3, z_l4, z_l5, z_l6, z_l7, z_l8, z_l9, z_l19, z_l24, z_l25, true_and]
  intro fa hfa
  refine ⟨put_same, Nat.le_of_ble_eq_true rfl, fun a0 ha0 => ?_⟩
  have hgr := go.gr
  have hps : (ps.map (·.1)).length ≤ 40 := by rw [List.length_map]; exact hgr.l1
  have pos : ∀ e ∈ egs (slowH h) opn rs rs.length, (0 ≤ e.2.2 ∧ e.2.2 ≤ 120) ∧ e.1 ∈ ps.map (·.1) ∧ e.2.1 ∈ ps.map (·.1) := egs_ok go.rp
  have sub0 : Sub M (put (put (put M fa (.dK [])) fa (.dK (putAllD [] [(Sum.inr s, D.int 0)]))) a0 (.dK [])) := by
    rw [put_put] at ha0 ⊢
    exact ((Sub.refl M).put hfa).put (by
      cases e : M a0 with
      | none => rfl
      | some o => rw [put_ne (ne_of_some e hfa), e] at ha0; cases ha0)
  have nfa : fa ≠ a0 := fun e => by rw [← e, put_same] at ha0; cases ha0
  show qWhile _ _ _ _ _ (put (put (put M fa (.dK [])) fa (.dK (putAllD [] [(Sum.inr s, D.int 0)]))) a0 (.dK []))
  refine while_inv (fun n p M' => ∃ (F A : NL) (aa : Addr) (y6 y7 y8 y9 y10 y11 y12 y13 : Option D), p = [some (grT ps rs ss), some (.str s), some (.int h), some x, some (.ref fa), some (.ref aa), y6, y7, y8, y9, y10, y11, y12, y13] ∧ M' fa = some (.dK (mK Sum.inr D.int F)) ∧ M' aa = some (.dK (mK Sum.inr D.int A)) ∧ Sub M M' ∧ KIn (ps.map (·.1)) F ∧ KIn (ps.map (·.1)) A ∧
      Bf (egs (slowH h) opn rs rs.length) s F ∧ (A = [] ∨ (Bf (egs (slowH h) opn rs rs.length) s A ∧ BfP (egs (slowH h) opn rs rs.length) s A F (egs (slowH h) opn rs rs.length))) ∧ n = 2 * phi (ps.map (·.1)) F + (if eqKI (kS F) (kS A) = true then 0 else 1)) (fun n p M' R hI hR => ?_)
    ⟨[(s, 0)], [], a0, none, none, none, none, none, none, none, none, rfl, by rw [put_ne nfa, put_same]; rfl, by rw [put_same]; rfl, sub0, ⟨by simp, fun z hz => by simp at hz; rw [hz]; exact hs⟩, ⟨List.nodup_nil, fun _ h => nomatch h⟩, Bf.begin _ _, .inl rfl, rfl⟩
  obtain ⟨F, A, aa, y6, y7, y8, y9, y10, y11, y12, y13, rfl, hF, hA, hS, kF, kA, bF, hst, hn⟩ := hI
  simp only [qSeq, qAsg, qTup, qCons, qNil, qOp, qUn, qC, qCall, qVar, qLst, newL_f, qIfS, qTB, qNext, qRet, qDrop, qFor, qCB, qAug, qSl, qPart, qNoPart, gNameD, gSub_eq, dInt_i, dInt0_i, dAdd_i, dCmpI_i, List.set_cons_zero, List.set_cons_succ, List.getElem?_cons_zero, List.getElem?_cons_succ, List.append_nil, z_l0, z_l1, z_l2, z_l3, z_l4, z_l5, z_l6, z_l7, z_l8, z_l9, z_l19, z_l24, z_l25, true_and]
  refine ⟨fa, aa, kS F, kS A, rfl, rfl, by rw [hF, dctI_kS], by rw [hA, dctI_kS], ?_⟩
  cases eq : eqKI (kS F) (kS A) with
  | true =>
    simp only [Bool.xor_self, Bool.false_eq_true, if_false, qFrz, frz, hF, qSeq, qAsg, qTup, qCons, qNil, qOp, qUn, qC, qCall, qVar, qLst, newL_f, qIfS, qTB, qNext, qRet, qDrop, qFor, qCB, qAug, qSl, qPart, qNoPart, gNameD, gSub_eq, dInt_i, dInt0_i, dAdd_i, dCmpI_i, List.set_cons_zero, List.set_cons_succ, List.getElem?_cons_zero, List.getElem?_cons_succ, List.append_nil, z_l0, z_l1, z_l2, z_l3, z_l4, z_l5, z_l6, z_l7, z_l8, z_l9, z_l19, z_l24, z_l25, true_and]
    have hL : Least (egs (slowH h) opn rs rs.length) s (getA F) := by
      rcases hst with rfl | ⟨bA, hB⟩
      · obtain ⟨m, hm, _⟩ := bF.st
        have := eqKI_to kF kA eq s
        rw [hm] at this; cases this
      · exact hB.done bA (eqKI_to kF kA eq)
    refine k _ (fun b o hb => ?_) F hL
    have nb1 : b ≠ fa := ne_of_some hb hfa
    rw [show del M' fa b = M' b from by simp [del, nb1]]
    exact hS _ _ hb
  | false =>
    simp only [Bool.xor_false, if_true, dDictC, hF, qSeq, qAsg, qTup, qCons, qNil, qOp, qUn, qC, qCall, qVar, qLst, newL_f, qIfS, qTB, qNext, qRet, qDrop, qFor, qCB, qAug, qSl, qPart, qNoPart, gNameD, gSub_eq, dInt_i, dInt0_i, dAdd_i, dCmpI_i, List.set_cons_zero, List.set_cons_succ, List.getElem?_cons_zero, List.getElem?_cons_succ, List.append_nil, z_l0, z_l1, z_l2, z_l3, z_l4, z_l5, z_l6, z_l7, z_l8, z_l9, z_l19, z_l24, z_l25, true_and]
    intro cc hcc
    have nfc : fa ≠ cc := ne_of_some hF hcc
    have hMc : M cc = none := by
      cases e : M cc with
      | none => rfl
      | some o => rw [hS _ _ e] at hcc; cases hcc
    refine loopL_inv (n := rs.length) (fun i p M'' => ∃ (F' : NL) (y6 y7 y8 y9 y10 y11 y12 y13 : Option D), p = [some (grT ps rs ss), some (.str s), some (.int h), some x, some (.ref fa), some (.ref cc), y6, y7, y8, y9, y10, y11, y12, y13] ∧ M'' fa = some (.dK (mK Sum.inr D.int F')) ∧ M'' cc = some (.dK (mK Sum.inr D.int F)) ∧ Sub M M'' ∧ KIn (ps.map (·.1)) F' ∧ BfP (egs (slowH h) opn rs rs.length) s F F' (egs (slowH h) opn rs i)) (by rw [enumDI_length, List.length_map]) (fun i dd p M'' R2 hdd hI hR2 => ?_) (fun p M'' hI => ?_) ⟨F, _, _, _, _, _, _, _, _, rfl, put_keep hF hcc, put_same, hS.put hMc, kF, bF.round⟩
    · obtain ⟨F', y6, y7, y8, y9, y10, y11, y12, y13, rfl, hF', hC', hS', kF', hB⟩ := hI
      obtain ⟨rd, hrd, rfl⟩ : ∃ rd, rs[i]? = some rd ∧ dd = .tup [.int (i : Int), rdD rd] := by
        obtain ⟨e, h1, h2⟩ := enum_tup hdd
        rw [List.getElem?_map] at h1
        obtain ⟨rd, h3, h4⟩ := Option.map_eq_some_iff.mp h1
        exact ⟨rd, h3, by rw [h2, h4]⟩
      refine ⟨trivial, ?_⟩
      have eE : egs (slowH h) opn rs (i + 1) = egs (slowH h) opn rs i ++ (if opn i = true then [(rd.1, rd.2.1, costR (slowH h) rd), (rd.2.1, rd.1, costR (slowH h) rd)] else []) := by
        show _ ++ _ = _
        rw [hrd]
      have hk := go.rp rd (List.mem_of_getElem? hrd)
      have a0 := hk.a0
      have a1 := hk.a1
      have b0 := hk.b0
      have b1 := hk.b1
      show gTupD 2 _ (.tup [.int (i : Int), .tup [.str rd.1, .str rd.2.1, .int rd.2.2.1, .int rd.2.2.2]]) _ _ _ _
      simp only [gTupD, gConsD, gNilD, res_tup, List.length_cons, List.length_nil, true_and, gNameD, List.set_cons_zero, List.set_cons_succ, in_slowT, z_intX_b, dMul, res_int, qSeq, qAsg, qTup, qCons, qNil, qOp, qUn, qC, qCall, qVar, qLst, newL_f, qIfS, qTB, qNext, qRet, qDrop, qFor, qCB, qAug, qSl, qPart, qNoPart, gNameD, gSub_eq, dInt_i, dInt0_i, dAdd_i, dCmpI_i, List.set_cons_zero, List.set_cons_succ, List.getElem?_cons_zero, List.getElem?_cons_succ, List.append_nil, z_l0, z_l1, z_l2, z_l3, z_l4, z_l5, z_l6, z_l7, z_l8, z_l9, z_l19, z_l24, z_l25, true_and]
      generalize hv : rd.2.2.2 * (if slowH h = true then (1 : Int) else 0) = v
      have hv2 : rd.2.2.1 + v = costR (slowH h) rd ∧ 0 ≤ v ∧ v ≤ 60 := by
        rw [← hv]
        unfold costR
        cases slowH h
        · simp
        · simp; omega
      refine ⟨Nat.le_of_ble_eq_true rfl, .inl ⟨by omega, by omega⟩, ?_⟩
      rw [hv2.1]
      simp only [qiAny, qSeq, qAsg, qTup, qCons, qNil, qOp, qUn, qC, qCall, qVar, qLst, newL_f, qIfS, qTB, qNext, qRet, qDrop, qFor, qCB, qAug, qSl, qPart, qNoPart, gNameD, gSub_eq, dInt_i, dInt0_i, dAdd_i, dCmpI_i, List.set_cons_zero, List.set_cons_succ, List.getElem?_cons_zero, List.getElem?_cons_succ, List.append_nil, z_l0, z_l1, z_l2, z_l3, z_l4, z_l5, z_l6, z_l7, z_l8, z_l9, z_l19, z_l24, z_l25, true_and]
      have hmem : opn i = true → (rd.1, rd.2.1, costR (slowH h) rd) ∈ egs (slowH h) opn rs rs.length ∧ (rd.2.1, rd.1, costR (slowH h) rd) ∈ egs (slowH h) opn rs rs.length := fun ho => egs_mem (List.getElem?_eq_some_iff.mp hrd).1 hrd ho
      refine loopL_inv (n := 2) (fun j p M'' => ∃ (F' : NL) (y12 y13 : Option D), p = [some (grT ps rs ss), some (.str s), some (.int h), some x, some (.ref fa), some (.ref cc), some (.int (i : Int)), some (.str rd.1), some (.str rd.2.1), some (.int rd.2.2.1), some (.int rd.2.2.2), some (.int (costR (slowH h) rd)), y12, y13] ∧ M'' fa = some (.dK (mK Sum.inr D.int F')) ∧ M'' cc = some (.dK (mK Sum.inr D.int F)) ∧ Sub M M'' ∧ KIn (ps.map (·.1)) F' ∧ BfP (egs (slowH h) opn rs rs.length) s F F' (egs (slowH h) opn rs i ++ (if opn i = true then [(rd.1, rd.2.1, costR (slowH h) rd), (rd.2.1, rd.1, costR (slowH h) rd)].take j else []))) rfl (fun j dd p M'' R3 hdd hI hR3 => ?_) (fun p M'' hI => ?_) ⟨F', _, _, rfl, hF', hC', hS', kF', by
        have e0 : (if opn i = true then [(rd.1, rd.2.1, costR (slowH h) rd), (rd.2.1, rd.1, costR (slowH h) rd)].take 0 else []) = ([] : List Eg) := by split <;> rfl
        rw [e0, List.append_nil]; exact hB⟩
      · obtain ⟨F2, y12, y13, rfl, hF2, hC2, hS2, kF2, hB2⟩ := hI
        obtain ⟨u, v, hu, hv, rfl, huv⟩ : ∃ u v : Str, u ∈ ps.map (·.1) ∧ v ∈ ps.map (·.1) ∧ dd = .tup [.str u, .str v] ∧ [(rd.1, rd.2.1, costR (slowH h) rd), (rd.2.1, rd.1, costR (slowH h) rd)][j]? = some (u, v, costR (slowH h) rd) := by
          match j, hdd with
          | 0, hdd => exact ⟨rd.1, rd.2.1, hk.m1, hk.m2, (Option.some.inj hdd).symm, rfl⟩
          | 1, hdd => exact ⟨rd.2.1, rd.1, hk.m2, hk.m1, (Option.some.inj hdd).symm, rfl⟩
        refine ⟨trivial, ?_⟩
        simp only [gTupD, gConsD, gNilD, res_tup, List.length_cons, List.length_nil, true_and, gNameD, List.set_cons_zero, List.set_cons_succ, qAnd, qSeq, qAsg, qTup, qCons, qNil, qOp, qUn, qC, qCall, qVar, qLst, newL_f, qIfS, qTB, qNext, qRet, qDrop, qFor, qCB, qAug, qSl, qPart, qNoPart, gNameD, gSub_eq, dInt_i, dInt0_i, dAdd_i, dCmpI_i, List.set_cons_zero, List.set_cons_succ, List.getElem?_cons_zero, List.getElem?_cons_succ, List.append_nil, z_l0, z_l1, z_l2, z_l3, z_l4, z_l5, z_l6, z_l7, z_l8, z_l9, z_l19, z_l24, z_l25, true_and]
        have inx : ∀ K : DK, dIn true (.int (i : Int)) x M'' K = K (.bl (opn i)) M'' := fun K => by
          rcases hx with ⟨hx, _⟩ | ⟨_, hx⟩
          · exact absurd hx hnn
          · exact hx _ hS2 i K
        rw [inx]
        cases ho : opn i with
        | false =>
          simp only [Bool.false_eq_true, if_false]
          refine hR3 _ _ ⟨F2, _, _, rfl, hF2, hC2, hS2, kF2, ?_⟩
          rw [ho] at hB2 ⊢
          exact hB2
        | true =>
          rw [ho] at hB2
          simp only [if_true] at hB2 ⊢
          have hm : (u, v, costR (slowH h) rd) ∈ egs (slowH h) opn rs rs.length := by
            have := List.mem_of_getElem? huv
            simp only [List.mem_cons, List.not_mem_nil, or_false] at this
            rcases this with e | e <;> rw [e]
            · exact (hmem ho).1
            · exact (hmem ho).2
          have next := hB2.next hm (pos _ hm).1
          rw [List.append_assoc, show [(rd.1, rd.2.1, costR (slowH h) rd), (rd.2.1, rd.1, costR (slowH h) rd)].take j ++ [(u, v, costR (slowH h) rd)] = [(rd.1, rd.2.1, costR (slowH h) rd), (rd.2.1, rd.1, costR (slowH h) rd)].take (j + 1) by rw [List.take_add_one, huv]; rfl] at next
          simp only [dIn, dgetD, hF2, keyD, Option.map_some, valD_m inr_inj]
          dsimp only at next
          cases eu : getA F2 u with
          | none =>
            simp only [Option.map_none, Option.isSome_none, Bool.xor_false, Bool.false_eq_true, if_false]
            rw [eu] at next
            exact hR3 _ _ ⟨F2, _, _, rfl, hF2, hC2, hS2, kF2, by rw [if_pos ho]; exact next⟩
          | some du =>
            rw [eu] at next
            dsimp only at next
            simp only [Option.map_some, Option.isSome_some, Bool.false_xor, if_true]
            have ix : ∀ K : DK, dIx (.ref fa) (.str u) M'' K = K (.int du) M'' := fun K => by
              unfold dIx
              simp only [dgetD, hF2, keyD, Option.map_some, valD_m inr_inj, eu]
            simp only [qDGet2, ix, isDict, hF2, true_and, dgetD, keyD, Option.map_some, valD_m inr_inj, dAdd_i, qSeq, qAsg, qTup, qCons, qNil, qOp, qUn, qC, qCall, qVar, qLst, newL_f, qIfS, qTB, qNext, qRet, qDrop, qFor, qCB, qAug, qSl, qPart, qNoPart, gNameD, gSub_eq, dInt_i, dInt0_i, dAdd_i, dCmpI_i, List.set_cons_zero, List.set_cons_succ, List.getElem?_cons_zero, List.getElem?_cons_succ, List.append_nil, z_l0, z_l1, z_l2, z_l3, z_l4, z_l5, z_l6, z_l7, z_l8, z_l9, z_l19, z_l24, z_l25, true_and]
            have lF := kF2.len
            have fin : ∀ w : Int, w = nearer (getA F2 v) (du + costR (slowH h) rd) → dSet (.ref fa) (.str v) (.int w) M'' fun M3 => R3 [some (grT ps rs ss), some (.str s), some (.int h), some x, some (.ref fa), some (.ref cc), some (.int (i : Int)), some (.str rd.1), some (.str rd.2.1), some (.int rd.2.2.1), some (.int rd.2.2.2), some (.int (costR (slowH h) rd)), some (.str u), some (.str v)] M3 := fun w hw => by
              subst hw
              simp only [dSet, hF2, keyD]
              refine ⟨by unfold mK; rw [List.length_map]; omega, ?_⟩
              rw [putD_m inr_inj]
              refine hR3 _ _ ⟨_, _, _, rfl, put_same, by rw [put_ne nfc.symm]; exact hC2, fun b o hb => by rw [put_ne (ne_of_some hb hfa)]; exact hS2 _ _ hb, kF2.put hv _, by rw [if_pos ho]; exact next⟩
            cases eN : getA F2 v with
            | none =>
              simp only [Option.map_none, Option.getD_none, dMin2]
              refine fin _ ?_
              rw [eN]
              show _ = min (du + costR (slowH h) rd) (du + costR (slowH h) rd)
              rw [Int.min_self]; simp
            | some m =>
              simp only [Option.map_some, Option.getD_some, dMin2]
              refine fin _ ?_
              rw [eN]
              show _ = min m (du + costR (slowH h) rd)
              split <;> omega
      · obtain ⟨F2, y12, y13, rfl, hF2, hC2, hS2, kF2, hB2⟩ := hI
        refine ⟨trivial, hR2 _ _ ⟨F2, _, _, _, _, _, _, _, _, rfl, hF2, hC2, hS2, kF2, ?_⟩⟩
        rw [eE]
        exact hB2
    · obtain ⟨F', y6, y7, y8, y9, y10, y11, y12, y13, rfl, hF', hC', hS', kF', hB⟩ := hI
      refine ⟨trivial, hR _ _ _ ?_ ⟨F', F, cc, _, _, _, _, _, _, _, _, rfl, hF', hC', hS', kF', kF, hB.over bF, .inr ⟨bF, hB⟩, rfl⟩⟩
      obtain ⟨p1, p2⟩ := hB.phi hps bF kF kF'
      rw [hn, eq]
      simp only [Bool.false_eq_true, if_false]
      cases eq2 : eqKI (kS F') (kS F) with
      | true => simp only [if_true]; omega
      | false =>
        simp only [Bool.false_eq_true, if_false]
        have : ¬ phi (ps.map (·.1)) F ≤ phi (ps.map (·.1)) F' := fun hh => by
          have := eqKI_of kF' kF (p2 hh)
          rw [eq2] at this; cases this
        omega
end DL
namespace K03
open PySem L2 DL
def top (i : Nat) : Stmt := PySem.Challenge.pw_whistleboard_k03_least_minutes.main.body.getD i (.Pass ⟨0, 0, 0, 0⟩)
abbrev F_Ground : List Str := [(PySem.Str.ofString "risks"), (PySem.Str.ofString "places"), (PySem.Str.ofString "roads"), (PySem.Str.ofString "stations")]
abbrev s_is_whole : Stmt := top 7
abbrev N_is_whole : List Str := ["thing", "low", "high"]
theorem sc_is_whole : FnScope N_is_whole ["thing", "low", "high"] (defScope s_is_whole) := ⟨rfl, rfl, rfl, by decide +kernel, rfl, by decide +kernel, by decide +kernel⟩
abbrev s_is_name : Stmt := top 8
abbrev N_is_name : List Str := ["thing", "sign"]
theorem sc_is_name : FnScope N_is_name ["thing"] (defScope s_is_name) := ⟨rfl, rfl, rfl, by decide +kernel, rfl, by decide +kernel, by decide +kernel⟩
abbrev s_is_one_of : Stmt := top 9
abbrev N_is_one_of : List Str := ["thing", "texts"]
theorem sc_is_one_of : FnScope N_is_one_of ["thing", "texts"] (defScope s_is_one_of) := ⟨rfl, rfl, rfl, by decide +kernel, rfl, by decide +kernel, by decide +kernel⟩
abbrev s_is_tuple_of : Stmt := top 10
abbrev N_is_tuple_of : List Str := ["thing", "many"]
theorem sc_is_tuple_of : FnScope N_is_tuple_of ["thing", "many"] (defScope s_is_tuple_of) := ⟨rfl, rfl, rfl, by decide +kernel, rfl, by decide +kernel, by decide +kernel⟩
abbrev s_is_place : Stmt := top 18
abbrev N_is_place : List Str := ["thing"]
theorem sc_is_place : FnScope N_is_place ["thing"] (defScope s_is_place) := ⟨rfl, rfl, rfl, by decide +kernel, rfl, by decide +kernel, by decide +kernel⟩
abbrev s_places_fault : Stmt := top 19
abbrev N_places_fault : List Str := ["thing", "seen", "at", "one"]
theorem sc_places_fault : FnScope N_places_fault ["thing"] (defScope s_places_fault) := ⟨rfl, rfl, rfl, by decide +kernel, rfl, by decide +kernel, by decide +kernel⟩
abbrev s_is_road : Stmt := top 20
abbrev N_is_road : List Str := ["names", "thing"]
theorem sc_is_road : FnScope N_is_road ["names", "thing"] (defScope s_is_road) := ⟨rfl, rfl, rfl, by decide +kernel, rfl, by decide +kernel, by decide +kernel⟩
abbrev s_roads_fault : Stmt := top 21
abbrev N_roads_fault : List Str := ["names", "thing", "seen", "at", "one"]
theorem sc_roads_fault : FnScope N_roads_fault ["names", "thing"] (defScope s_roads_fault) := ⟨rfl, rfl, rfl, by decide +kernel, rfl, by decide +kernel, by decide +kernel⟩
abbrev s_stations_fault : Stmt := top 22
abbrev N_stations_fault : List Str := ["names", "thing", "at", "one"]
theorem sc_stations_fault : FnScope N_stations_fault ["names", "thing"] (defScope s_stations_fault) := ⟨rfl, rfl, rfl, by decide +kernel, rfl, by decide +kernel, by decide +kernel⟩
abbrev s_need : Stmt := top 23
abbrev N_need : List Str := ["part", "at"]
theorem sc_need : FnScope N_need ["part", "at"] (defScope s_need) := ⟨rfl, rfl, rfl, by decide +kernel, rfl, by decide +kernel, by decide +kernel⟩
abbrev s_Ground___init__ : Stmt := inClass (top 26) 0
abbrev N_Ground___init__ : List Str := ["self", "places", "roads", "stations"]
theorem sc_Ground___init__ : FnScope N_Ground___init__ ["self", "places", "roads", "stations"] (defScope s_Ground___init__) := ⟨rfl, rfl, rfl, by decide +kernel, rfl, by decide +kernel, by decide +kernel⟩
abbrev s_Ground_risk : Stmt := inClass (top 26) 5
abbrev N_Ground_risk : List Str := ["self", "place"]
theorem sc_Ground_risk : FnScope N_Ground_risk ["self", "place"] (defScope s_Ground_risk) := ⟨rfl, rfl, rfl, by decide +kernel, rfl, by decide +kernel, by decide +kernel⟩
abbrev s_Ground_steps : Stmt := inClass (top 26) 6
abbrev N_Ground_steps : List Str := ["self", "hour", "shut", "found", "number", "one", "far", "many", "slow", "cost"]
theorem sc_Ground_steps : FnScope N_Ground_steps ["self", "hour", "shut"] (defScope s_Ground_steps) := ⟨rfl, rfl, rfl, by decide +kernel, rfl, by decide +kernel, by decide +kernel⟩
abbrev s_Ground_reach : Stmt := inClass (top 26) 7
abbrev N_Ground_reach : List Str := ["self", "start", "hour", "shut", "steps", "found", "near", "place", "far", "cost"]
theorem sc_Ground_reach : FnScope N_Ground_reach ["self", "start", "hour", "shut"] (defScope s_Ground_reach) := ⟨rfl, rfl, rfl, by decide +kernel, rfl, by decide +kernel, by decide +kernel⟩
abbrev s_Ground_minutes : Stmt := inClass (top 26) 8
abbrev N_Ground_minutes : List Str := ["self", "start", "goal", "hour", "shut"]
theorem sc_Ground_minutes : FnScope N_Ground_minutes ["self", "start", "goal", "hour", "shut"] (defScope s_Ground_minutes) := ⟨rfl, rfl, rfl, by decide +kernel, rfl, by decide +kernel, by decide +kernel⟩
abbrev s__law_bag : Stmt := top 28
abbrev N__law_bag : List Str := ["_law_script", "_law_at", "_law_cell", "_law_great", "_law_primes"]
theorem sc__law_bag : FnScope N__law_bag ["_law_script", "_law_at"] (defScope s__law_bag) := ⟨rfl, rfl, rfl, by decide +kernel, rfl, by decide +kernel, by decide +kernel⟩
abbrev s__law_take : Stmt := top 29
abbrev N__law_take : List Str := ["_law_bag_here", "_law_many", "_law_digit"]
theorem sc__law_take : FnScope N__law_take ["_law_bag_here", "_law_many"] (defScope s__law_take) := ⟨rfl, rfl, rfl, by decide +kernel, rfl, by decide +kernel, by decide +kernel⟩
abbrev s__law_names : Stmt := top 30
abbrev N__law_names : List Str := ["_law_bag_here", "_law_many", "_law_letters", "_law_stem", "_law_spot", "_law_first", "_law_more", "_law_k", "_law_one"]
theorem sc__law_names : FnScope N__law_names ["_law_bag_here", "_law_many"] (defScope s__law_names) := ⟨rfl, rfl, rfl, by decide +kernel, rfl, by decide +kernel, by decide +kernel⟩
abbrev s__law_ground : Stmt := top 31
abbrev N__law_ground : List Str := ["_law_bag_here", "_law_many", "_law_names_here", "_law_longest", "_law_sites", "_law_pairs", "_law_k", "_law_one", "_law_far", "_law_lanes", "_law_ends", "_law_left", "_law_posts", "_law_name"]
theorem sc__law_ground : FnScope N__law_ground ["_law_bag_here"] (defScope s__law_ground) := ⟨rfl, rfl, rfl, by decide +kernel, rfl, by decide +kernel, by decide +kernel⟩
abbrev s__law_reach : Stmt := top 32
abbrev N__law_reach : List Str := ["_law_parts", "_law_begin", "_law_clock", "_law_gone_here", "_law_found", "_law_ahead", "_law_number", "_law_one", "_law_far", "_law_many", "_law_slow", "_law_cost", "_law_here", "_law_there"]
theorem sc__law_reach : FnScope N__law_reach ["_law_parts", "_law_begin", "_law_clock", "_law_gone_here"] (defScope s__law_reach) := ⟨rfl, rfl, rfl, by decide +kernel, rfl, by decide +kernel, by decide +kernel⟩
abbrev s__law_gone : Stmt := top 33
abbrev N__law_gone : List Str := ["_law_bag_here", "_law_parts", "_law_k"]
theorem sc__law_gone : FnScope N__law_gone ["_law_bag_here", "_law_parts"] (defScope s__law_gone) := ⟨rfl, rfl, rfl, by decide +kernel, rfl, by decide +kernel, by decide +kernel⟩
abbrev s__law_asked : Stmt := top 34
abbrev N__law_asked : List Str := ["_law_ground_here", "_law_begin", "_law_ending", "_law_clock", "_law_gone_here", "_law_one", "_law_other"]
theorem sc__law_asked : FnScope N__law_asked ["_law_ground_here", "_law_begin", "_law_ending", "_law_clock", "_law_gone_here"] (defScope s__law_asked) := ⟨rfl, rfl, rfl, by decide +kernel, rfl, by decide +kernel, by decide +kernel⟩
abbrev s__law_right : Stmt := top 35
abbrev N__law_right : List Str := ["_law_ground_here", "_law_parts", "_law_begin", "_law_clock", "_law_gone_here", "_law_due", "_law_handed", "_law_ending", "_law_risk", "_law_wanted", "_law_told"]
theorem sc__law_right : FnScope N__law_right ["_law_ground_here", "_law_parts", "_law_begin", "_law_clock", "_law_gone_here"] (defScope s__law_right) := ⟨rfl, rfl, rfl, by decide +kernel, rfl, by decide +kernel, by decide +kernel⟩
abbrev s__law_bare : Stmt := top 36
abbrev N__law_bare : List Str := ["_law_ground_here", "_law_parts", "_law_begin", "_law_clock", "_law_gone_here", "_law_rows", "_law_ending", "_law_risk", "_law_told", "_law_one", "_law_some"]
theorem sc__law_bare : FnScope N__law_bare ["_law_ground_here", "_law_parts", "_law_begin", "_law_clock", "_law_gone_here"] (defScope s__law_bare) := ⟨rfl, rfl, rfl, by decide +kernel, rfl, by decide +kernel, by decide +kernel⟩
abbrev s_law : Stmt := top 37
abbrev N_law : List Str := ["_law_script", "_law_k", "_law_bag_here", "_law_parts", "_law_ground_here", "_law_turn", "_law_begin", "_law_clock", "_law_gone_here"]
theorem sc_law : FnScope N_law ["_law_script"] (defScope s_law) := ⟨rfl, rfl, rfl, by decide +kernel, rfl, by decide +kernel, by decide +kernel⟩
abbrev s_NoGround_init : Stmt := inClass (top 2) 0
theorem sc_NoGround_init : FnScope ["self", "part", "at"] ["self", "part", "at"] (defScope s_NoGround_init) := ⟨rfl, rfl, rfl, by decide +kernel, rfl, by decide +kernel, by decide +kernel⟩
abbrev s_NoPlace_init : Stmt := inClass (top 3) 0
theorem sc_NoPlace_init : FnScope ["self", "place"] ["self", "place"] (defScope s_NoPlace_init) := ⟨rfl, rfl, rfl, by decide +kernel, rfl, by decide +kernel, by decide +kernel⟩
structure Tx (w : World) (K : PySem.W.Frag) (mg : Str → Option Value) where
  c_Ground : ClsO K mg "Ground" F_Ground
  f_is_whole : FnAt K mg "is_whole" s_is_whole ["thing", "low", "high"]
  f_is_name : FnAt K mg "is_name" s_is_name ["thing"]
  f_is_one_of : FnAt K mg "is_one_of" s_is_one_of ["thing", "texts"]
  f_is_tuple_of : FnAt K mg "is_tuple_of" s_is_tuple_of ["thing", "many"]
  f_is_place : FnAt K mg "is_place" s_is_place ["thing"]
  f_places_fault : FnAt K mg "places_fault" s_places_fault ["thing"]
  f_is_road : FnAt K mg "is_road" s_is_road ["names", "thing"]
  f_roads_fault : FnAt K mg "roads_fault" s_roads_fault ["names", "thing"]
  f_stations_fault : FnAt K mg "stations_fault" s_stations_fault ["names", "thing"]
  f_need : FnAt K mg "need" s_need ["part", "at"]
  f_Ground___init__ : MthAt K c_Ground.C "__init__" "Ground.__init__" s_Ground___init__ ["self", "places", "roads", "stations"]
  mk_Ground : Mk K c_Ground.C f_Ground___init__.f
  f_Ground_risk : MthAt K c_Ground.C "risk" "Ground.risk" s_Ground_risk ["self", "place"]
  f_Ground_steps : MthAt K c_Ground.C "steps" "Ground.steps" s_Ground_steps ["self", "hour", "shut"]
  f_Ground_reach : MthAt K c_Ground.C "reach" "Ground.reach" s_Ground_reach ["self", "start", "hour", "shut"]
  f_Ground_minutes : MthAtD K c_Ground.C "minutes" "Ground.minutes" s_Ground_minutes ["self", "start", "goal", "hour", "shut"] [(.int 0), .non]
  f__law_bag : FnAt K mg "_law_bag" s__law_bag ["_law_script", "_law_at"]
  f__law_take : FnAt K mg "_law_take" s__law_take ["_law_bag_here", "_law_many"]
  f__law_names : FnAt K mg "_law_names" s__law_names ["_law_bag_here", "_law_many"]
  f__law_ground : FnAt K mg "_law_ground" s__law_ground ["_law_bag_here"]
  f__law_reach : FnAt K mg "_law_reach" s__law_reach ["_law_parts", "_law_begin", "_law_clock", "_law_gone_here"]
  f__law_gone : FnAt K mg "_law_gone" s__law_gone ["_law_bag_here", "_law_parts"]
  f__law_asked : FnAt K mg "_law_asked" s__law_asked ["_law_ground_here", "_law_begin", "_law_ending", "_law_clock", "_law_gone_here"]
  f__law_right : FnAt K mg "_law_right" s__law_right ["_law_ground_here", "_law_parts", "_law_begin", "_law_clock", "_law_gone_here"]
  f__law_bare : FnAt K mg "_law_bare" s__law_bare ["_law_ground_here", "_law_parts", "_law_begin", "_law_clock", "_law_gone_here"]
  f_law : FnAt K mg "law" s_law ["_law_script"]
  lc_Ground_reach : LamC K f_Ground_reach.fd
  n_KeyError : mg "KeyError" = none
  n_ValueError : mg "ValueError" = none
  n_abs : mg "abs" = none
  n_all : mg "all" = none
  n_bool : mg "bool" = none
  n_dict : mg "dict" = none
  n_enumerate : mg "enumerate" = none
  n_int : mg "int" = none
  n_isinstance : mg "isinstance" = none
  n_len : mg "len" = none
  n_list : mg "list" = none
  n_max : mg "max" = none
  n_min : mg "min" = none
  n_range : mg "range" = none
  n_sorted : mg "sorted" = none
  n_str : mg "str" = none
  n_tuple : mg "tuple" = none
  t_SLOW_HOURS : GlT K mg "SLOW_HOURS" [(.int 7), (.int 8), (.int 16), (.int 17)]
  g_LETTERS : GlS mg "LETTERS" (PySem.Str.ofString "abcdefghijklmnopqrstuvwxyz")
  g_MOST_LETTERS : GlI mg "MOST_LETTERS" (8)
  g_MOST_MINUTES : GlI mg "MOST_MINUTES" (60)
  g_MOST_PLACES : GlI mg "MOST_PLACES" (40)
  g_MOST_RISK : GlI mg "MOST_RISK" (4)
  g_MOST_ROADS : GlI mg "MOST_ROADS" (80)
  g_MOST_STATIONS : GlI mg "MOST_STATIONS" (12)
  c_NoGround : XAt K mg "NoGround" "ValueError" "ValueError.__new__" "ValueError.__init__" tl_ValueError s_NoGround_init "NoGround.__init__" ["self", "part", "at"] [(PySem.Str.ofString "part"), (PySem.Str.ofString "at")]
  c_NoPlace : XAt K mg "NoPlace" "KeyError" "LookupError.__new__" "KeyError.__init__" tl_KeyError s_NoPlace_init "NoPlace.__init__" ["self", "place"] [(PySem.Str.ofString "place")]
  b_Ground_minutes_5 : BindsD K f_Ground_minutes.fd ["self", "start", "goal", "hour", "shut"] []
  b_Ground_minutes_4 : BindsD K f_Ground_minutes.fd ["self", "start", "goal", "hour", "shut"] [.non]
  b_Ground_minutes_3 : BindsD K f_Ground_minutes.fd ["self", "start", "goal", "hour", "shut"] [(.int 0), .non]
  kw_Ground_minutes_1_goal_shut_start_hour : KwB K f_Ground_minutes.fd ["self", "start", "goal", "hour", "shut"] 1 ["goal", "shut", "start", "hour"] [0, 3, 1, 4, 2]
  kd_Ground_minutes_3_shut : KwBD K f_Ground_minutes.fd ["self", "start", "goal", "hour", "shut"] 3 ["shut"] [(.int 0), .non] [0, 1, 2, 4, 3]
section
variable {P : Program} {w : World} {K : PySem.W.Frag} {mg : Str → Option Value} {base : Heap}
theorem in_NoGround (T : Tx w K mg) : FnOk P w K mg base (L2.CX P w) 1 T.c_NoGround.fI T.c_NoGround.fd ["self", "part", "at"] (spX2 T.c_NoGround.C (PySem.Str.ofString "part") (PySem.Str.ofString "at")) :=
  T.c_NoGround.F.okX sc_NoGround_init (fun vs H Q E h => by obtain ⟨a, v, v2, rfl, _⟩ := h; rfl) fun cdv A outer s H vs Q E hr h => ⟨_, pss_cons (ps_expr (pe_binit (B := "ValueError") baseX_ValueError rfl T.n_ValueError PyProof.Rows.Boot.«ValueError» T.c_NoGround.vV (pa_cons (pv 0) (pa_cons pe_str pa_nil)))) (pss_cons (ps_xset baseX_ValueError (pv 0) (pv 1)) (pss_one (ps_xset baseX_ValueError (pv 0) (pv 2)))), rdX2 T.c_NoGround.T (T.c_NoGround.no _ (by simp)) (T.c_NoGround.no _ (by simp)) h⟩
theorem in_NoPlace (T : Tx w K mg) : FnOk P w K mg base (L2.CX P w) 1 T.c_NoPlace.fI T.c_NoPlace.fd ["self", "place"] (spX1 T.c_NoPlace.C (PySem.Str.ofString "place")) :=
  T.c_NoPlace.F.okX sc_NoPlace_init (fun vs H Q E h => by obtain ⟨a, v, rfl, _⟩ := h; rfl) fun cdv A outer s H vs Q E hr h => ⟨_, pss_cons (ps_expr (pe_binit (B := "KeyError") baseX_KeyError rfl T.n_KeyError PyProof.Rows.Boot.«KeyError» T.c_NoPlace.vV (pa_cons (pv 0) (pa_cons pe_str pa_nil)))) (pss_one (ps_xset baseX_KeyError (pv 0) (pv 1))), rdX1 T.c_NoPlace.T (T.c_NoPlace.no _ (by simp)) h⟩
theorem ih_NoPlace (T : Tx w K mg) : L2H.FnH P w K mg base (L2.CX P w) 1 T.c_NoPlace.fI T.c_NoPlace.fd ["self", "place"] (spX1 T.c_NoPlace.C (PySem.Str.ofString "place")) :=
  T.c_NoPlace.F.okXH sc_NoPlace_init (fun vs H Q E h => by obtain ⟨a, v, rfl, _⟩ := h; rfl) fun cdv A outer s H vs Q E pp hr h => ⟨_, pss_cons (ps_expr (pe_binit (B := "KeyError") baseX_KeyError rfl T.n_KeyError PyProof.Rows.Boot.«KeyError» T.c_NoPlace.vV (pa_cons (pv 0) (pa_cons pe_str pa_nil)))) (pss_one (ps_xset baseX_KeyError (pv 0) (pv 1))), rdX1 T.c_NoPlace.T (T.c_NoPlace.no _ (by simp)) h⟩
def q_is_whole : DTS :=
  (qRet (qAndV (qCB dIsi (qCons (qVar 0) (qCons (qC (.ty "int")) qNil))) (qAndV (qNotV (qCB dIsi (qCons (qVar 0) (qCons (qC (.ty "bool")) qNil)))) (qChain (dCmpI fun i j => decide (i ≤ j)) (dCmpI fun i j => decide (i ≤ j)) (qVar 1) (qVar 0) (qVar 2)))))
theorem dv_is_whole {k : Nat} (T : Tx w K mg) {p : DSp} (hlen : ∀ ds M Q E, p ds M Q E → ds.length = 3)
    (hs : ∀ ds M Q Ed, upSp p ds M Q Ed → q_is_whole (fun x _ M => Ed x M) (retE Q) (startD N_is_whole ds) M) : FnOk P w K mg base (L2.CX P w) (k + 1) T.f_is_whole.f T.f_is_whole.fd ["thing", "low", "high"] (toSp K p) := by
  refine (fn_ok (p := upSp p) T.f_is_whole.F sc_is_whole (fun ds M Q E ⟨Q0, E0, h, _⟩ => hlen ds M Q0 E0 h) fun cdv A outer s H E hr tk hp => ?_).imp fun _ _ _ _ h => imp_up h
  have nd := sc_is_whole.nd
  have hu64 := hr.units
  have hu := Nat.lt_of_le_of_lt (Nat.add_le_add_left (show 1 ≤ 64 by decide) _) hu64
  exact ⟨_, q_is_whole, (qss_one (qs_ret (q_and (q_callB c_isi rfl T.n_isinstance (by decide +kernel) (qa_cons (qv 0) (qa_cons (qe_c (pe_bltn (v := .ty "int") rfl T.n_int (by decide +kernel) rfl) fun _ => rfl) qa_nil))) (q_and (q_not (q_callB c_isi rfl T.n_isinstance (by decide +kernel) (qa_cons (qv 0) (qa_cons (qe_c (pe_bltn (v := .ty "bool") rfl T.n_bool (by decide +kernel) rfl) fun _ => rfl) qa_nil)))) (q_one (q_chain o_le o_le (qv 1) (qv 0) (qv 2))))))), hs⟩
def q_is_name : DTS :=
  (qSeq (qIfS (qOr (qNot (qTB (qCB dIsi (qCons (qVar 0) (qCons (qC (.ty "str")) qNil))))) (qNot (qTB (qChain (dCmpI fun i j => decide (i ≤ j)) (dCmpI fun i j => decide (i ≤ j)) (qC (.int 1)) (qCB dLen (qCons (qVar 0) qNil)) (qC (.int 8))))))
  (qRet (qC (.bl false)))
  qNext)
  (qRet (qCB dAll (qCons (qLc false (qiAny (qVar 0)) (gNameD 1) qYes (qOp (dIn false) (qVar 1) (qC (.str (PySem.Str.ofString "abcdefghijklmnopqrstuvwxyz")))) [1]) qNil))))
theorem dv_is_name {k : Nat} (T : Tx w K mg) {p : DSp} (hlen : ∀ ds M Q E, p ds M Q E → ds.length = 1)
    (hs : ∀ ds M Q Ed, upSp p ds M Q Ed → q_is_name (fun x _ M => Ed x M) (retE Q) (startD N_is_name ds) M) : FnOk P w K mg base (L2.CX P w) (k + 1) T.f_is_name.f T.f_is_name.fd ["thing"] (toSp K p) := by
  refine (fn_ok (p := upSp p) T.f_is_name.F sc_is_name (fun ds M Q E ⟨Q0, E0, h, _⟩ => hlen ds M Q0 E0 h) fun cdv A outer s H E hr tk hp => ?_).imp fun _ _ _ _ h => imp_up h
  have nd := sc_is_name.nd
  have hu64 := hr.units
  have hu := Nat.lt_of_le_of_lt (Nat.add_le_add_left (show 1 ≤ 64 by decide) _) hu64
  exact ⟨_, q_is_name, (qss_cons (qs_if (QW.t (qw_or (qt_not (qt_val (q_callB c_isi rfl T.n_isinstance (by decide +kernel) (qa_cons (qv 0) (qa_cons (qe_c (pe_bltn (v := .ty "str") rfl T.n_str (by decide +kernel) rfl) fun _ => rfl) qa_nil))))) (qw_or1 (qt_not (qt_chain o_le o_le q_int (q_callB c_len rfl T.n_len (by decide +kernel) (qa_cons (qv 0) qa_nil)) (q_globI rfl T.g_MOST_LETTERS))))))
  (qss_one (qs_ret q_bl))
  qss_nil)
  (qss_one (qs_ret (q_callB (c_all rfl) rfl T.n_all (by decide +kernel) (qa_cons (q_lcX (own := [("sign", 1)]) false rfl nd (qi_any (qv 0)) (blkOk_by (own := [("sign", 1)]) (N := N_is_name) (sc := defScope s_is_name) (by decide +kernel)) (fun _ _ _ _ _ => ⟨_, (qg_nm 1 nd)⟩) (fun _ _ _ _ _ => ⟨_, qts_nil⟩) (fun _ _ _ _ _ => ⟨_, (q_cmp (o_in hu) (qv 1) (q_globS rfl T.g_LETTERS))⟩)) qa_nil))))), hs⟩
def q_is_one_of : DTS :=
  (qRet (qAndV (qCB dIsi (qCons (qVar 0) (qCons (qC (.ty "str")) qNil))) (qOp (dIn false) (qVar 0) (qVar 1))))
theorem dv_is_one_of {k : Nat} (T : Tx w K mg) {p : DSp} (hlen : ∀ ds M Q E, p ds M Q E → ds.length = 2)
    (hs : ∀ ds M Q Ed, upSp p ds M Q Ed → q_is_one_of (fun x _ M => Ed x M) (retE Q) (startD N_is_one_of ds) M) : FnOk P w K mg base (L2.CX P w) (k + 1) T.f_is_one_of.f T.f_is_one_of.fd ["thing", "texts"] (toSp K p) := by
  refine (fn_ok (p := upSp p) T.f_is_one_of.F sc_is_one_of (fun ds M Q E ⟨Q0, E0, h, _⟩ => hlen ds M Q0 E0 h) fun cdv A outer s H E hr tk hp => ?_).imp fun _ _ _ _ h => imp_up h
  have nd := sc_is_one_of.nd
  have hu64 := hr.units
  have hu := Nat.lt_of_le_of_lt (Nat.add_le_add_left (show 1 ≤ 64 by decide) _) hu64
  exact ⟨_, q_is_one_of, (qss_one (qs_ret (q_and (q_callB c_isi rfl T.n_isinstance (by decide +kernel) (qa_cons (qv 0) (qa_cons (qe_c (pe_bltn (v := .ty "str") rfl T.n_str (by decide +kernel) rfl) fun _ => rfl) qa_nil))) (q_one (q_cmp (o_in hu) (qv 0) (qv 1)))))), hs⟩
def q_is_tuple_of : DTS :=
  (qRet (qAndV (qCB dIsi (qCons (qVar 0) (qCons (qC (.ty "tuple")) qNil))) (qOp (dEq false) (qCB dLen (qCons (qVar 0) qNil)) (qVar 1))))
theorem dv_is_tuple_of {k : Nat} (T : Tx w K mg) {p : DSp} (hlen : ∀ ds M Q E, p ds M Q E → ds.length = 2)
    (hs : ∀ ds M Q Ed, upSp p ds M Q Ed → q_is_tuple_of (fun x _ M => Ed x M) (retE Q) (startD N_is_tuple_of ds) M) : FnOk P w K mg base (L2.CX P w) (k + 1) T.f_is_tuple_of.f T.f_is_tuple_of.fd ["thing", "many"] (toSp K p) := by
  refine (fn_ok (p := upSp p) T.f_is_tuple_of.F sc_is_tuple_of (fun ds M Q E ⟨Q0, E0, h, _⟩ => hlen ds M Q0 E0 h) fun cdv A outer s H E hr tk hp => ?_).imp fun _ _ _ _ h => imp_up h
  have nd := sc_is_tuple_of.nd
  have hu64 := hr.units
  have hu := Nat.lt_of_le_of_lt (Nat.add_le_add_left (show 1 ≤ 64 by decide) _) hu64
  exact ⟨_, q_is_tuple_of, (qss_one (qs_ret (q_and (q_callB c_isi rfl T.n_isinstance (by decide +kernel) (qa_cons (qv 0) (qa_cons (qe_c (pe_bltn (v := .ty "tuple") rfl T.n_tuple (by decide +kernel) rfl) fun _ => rfl) qa_nil))) (q_one (q_cmp (o_eq hu64) (q_callB c_len rfl T.n_len (by decide +kernel) (qa_cons (qv 0) qa_nil)) (qv 1)))))), hs⟩
def q_is_place (sp_is_name : DSp) (sp_is_tuple_of : DSp) (sp_is_whole : DSp) : DTS :=
  (qRet (qAndV (qCall sp_is_tuple_of [] (qCons (qVar 0) (qCons (qC (.int 2)) qNil))) (qAndV (qCall sp_is_name [] (qCons (qOp dIx (qVar 0) (qC (.int 0))) qNil)) (qCall sp_is_whole [] (qCons (qOp dIx (qVar 0) (qC (.int 1))) (qCons (qC (.int 1)) (qCons (qC (.int 4)) qNil)))))))
theorem dv_is_place {k : Nat} (T : Tx w K mg) {sp_is_name : DSp} (G_is_name : FnOk P w K mg base (L2.CX P w) k T.f_is_name.f T.f_is_name.fd ["thing"] (toSp K sp_is_name)) {sp_is_tuple_of : DSp} (G_is_tuple_of : FnOk P w K mg base (L2.CX P w) k T.f_is_tuple_of.f T.f_is_tuple_of.fd ["thing", "many"] (toSp K sp_is_tuple_of)) {sp_is_whole : DSp} (G_is_whole : FnOk P w K mg base (L2.CX P w) k T.f_is_whole.f T.f_is_whole.fd ["thing", "low", "high"] (toSp K sp_is_whole)) {p : DSp} (hlen : ∀ ds M Q E, p ds M Q E → ds.length = 1)
    (hs : ∀ ds M Q Ed, upSp p ds M Q Ed → q_is_place sp_is_name sp_is_tuple_of sp_is_whole (fun x _ M => Ed x M) (retE Q) (startD N_is_place ds) M) : FnOk P w K mg base (L2.CX P w) (k + 1) T.f_is_place.f T.f_is_place.fd ["thing"] (toSp K p) := by
  refine (fn_ok (p := upSp p) T.f_is_place.F sc_is_place (fun ds M Q E ⟨Q0, E0, h, _⟩ => hlen ds M Q0 E0 h) fun cdv A outer s H E hr tk hp => ?_).imp fun _ _ _ _ h => imp_up h
  have nd := sc_is_place.nd
  have hu64 := hr.units
  have hu := Nat.lt_of_le_of_lt (Nat.add_le_add_left (show 1 ≤ 64 by decide) _) hu64
  exact ⟨_, q_is_place sp_is_name sp_is_tuple_of sp_is_whole, (qss_one (qs_ret (q_and (q_call G_is_tuple_of hr tk rfl T.f_is_tuple_of.g T.f_is_tuple_of.F.kp T.f_is_tuple_of.b .nil (fun _ => rfl) (qa_cons (qv 0) (qa_cons q_int qa_nil))) (q_and (q_call G_is_name hr tk rfl T.f_is_name.g T.f_is_name.F.kp T.f_is_name.b .nil (fun _ => rfl) (qa_cons (q_ix hu (qv 0) q_int) qa_nil)) (q_one (q_call G_is_whole hr tk rfl T.f_is_whole.g T.f_is_whole.F.kp T.f_is_whole.b .nil (fun _ => rfl) (qa_cons (q_ix hu (qv 0) q_int) (qa_cons q_int (qa_cons (q_globI rfl T.g_MOST_RISK) qa_nil))))))))), hs⟩
def q_places_fault (sp_is_place : DSp) : DTS :=
  (qSeq (qIfS (qOr (qNot (qTB (qCB dIsi (qCons (qVar 0) (qCons (qC (.ty "tuple")) qNil))))) (qNot (qTB (qChain (dCmpI fun i j => decide (i ≤ j)) (dCmpI fun i j => decide (i ≤ j)) (qC (.int 1)) (qCB dLen (qCons (qVar 0) qNil)) (qC (.int 40))))))
  (qRet (qUn dNeg (qC (.int 1))))
  qNext)
  (qSeq (qAsg qDNew (gNameD 1))
  (qSeq (qFor (qiEnum0 (qCons (qVar 0) qNil)) (gTupD 2 (gConsD (gNameD 2) (gConsD (gNameD 3) gNilD)))
  (qSeq (qIfS (qOr (qNot (qTB (qCall sp_is_place [] (qCons (qVar 3) qNil)))) (qTB (qOp (dIn false) (qOp dIx (qVar 3) (qC (.int 0))) (qVar 1))))
  (qRet (qVar 2))
  qNext)
  (qAsg (qC (.bl true)) (gSubD (qVar 1) (qOp dIx (qVar 3) (qC (.int 0)))))))
  (qRet (qC .non)))))
theorem dv_places_fault {k : Nat} (T : Tx w K mg) {sp_is_place : DSp} (G_is_place : FnOk P w K mg base (L2.CX P w) k T.f_is_place.f T.f_is_place.fd ["thing"] (toSp K sp_is_place)) {p : DSp} (hlen : ∀ ds M Q E, p ds M Q E → ds.length = 1)
    (hs : ∀ ds M Q Ed, upSp p ds M Q Ed → q_places_fault sp_is_place (fun x _ M => Ed x M) (retE Q) (startD N_places_fault ds) M) : FnOk P w K mg base (L2.CX P w) (k + 1) T.f_places_fault.f T.f_places_fault.fd ["thing"] (toSp K p) := by
  refine (fn_ok (p := upSp p) T.f_places_fault.F sc_places_fault (fun ds M Q E ⟨Q0, E0, h, _⟩ => hlen ds M Q0 E0 h) fun cdv A outer s H E hr tk hp => ?_).imp fun _ _ _ _ h => imp_up h
  have nd := sc_places_fault.nd
  have hu64 := hr.units
  have hu := Nat.lt_of_le_of_lt (Nat.add_le_add_left (show 1 ≤ 64 by decide) _) hu64
  exact ⟨_, q_places_fault sp_is_place, (qss_cons (qs_if (QW.t (qw_or (qt_not (qt_val (q_callB c_isi rfl T.n_isinstance (by decide +kernel) (qa_cons (qv 0) (qa_cons (qe_c (pe_bltn (v := .ty "tuple") rfl T.n_tuple (by decide +kernel) rfl) fun _ => rfl) qa_nil))))) (qw_or1 (qt_not (qt_chain o_le o_le q_int (q_callB c_len rfl T.n_len (by decide +kernel) (qa_cons (qv 0) qa_nil)) (q_globI rfl T.g_MOST_PLACES))))))
  (qss_one (qs_ret (q_neg q_int)))
  qss_nil)
  (qss_cons (qs_setN 1 nd q_dnew)
  (qss_cons (qs_for (ix := [2, 3]) hp rfl (qi_enum0 rfl T.n_enumerate (qa_cons (qv 0) qa_nil)) (qg_tup rfl (qgs_cons (qg_nm 2 nd) (qgs_cons (qg_nm 3 nd) qgs_nil)))
  (qss_cons (qs_if (QW.t (qw_or (qt_not (qt_val (q_call G_is_place hr tk rfl T.f_is_place.g T.f_is_place.F.kp T.f_is_place.b .nil (fun _ => rfl) (qa_cons (qv 3) qa_nil)))) (qw_or1 (qt_cmp (o_in hu) (q_ix hu (qv 3) q_int) (qv 1)))))
  (qss_one (qs_ret (qv 2)))
  qss_nil)
  (qss_one (qs_asg (ix := []) q_bl (qg_sub hu (qv 1) (q_ix hu (qv 3) q_int))))))
  (qss_one (qs_ret q_non))))), hs⟩
def q_is_road (sp_is_one_of : DSp) (sp_is_tuple_of : DSp) (sp_is_whole : DSp) : DTS :=
  (qSeq (qIfS (qOr (qNot (qTB (qCall sp_is_tuple_of [] (qCons (qVar 1) (qCons (qC (.int 4)) qNil))))) (qOr (qNot (qTB (qCall sp_is_one_of [] (qCons (qOp dIx (qVar 1) (qC (.int 0))) (qCons (qVar 0) qNil))))) (qNot (qTB (qCall sp_is_one_of [] (qCons (qOp dIx (qVar 1) (qC (.int 1))) (qCons (qVar 0) qNil)))))))
  (qRet (qC (.bl false)))
  qNext)
  (qRet (qAndV (qOp (dEq true) (qOp dIx (qVar 1) (qC (.int 0))) (qOp dIx (qVar 1) (qC (.int 1)))) (qAndV (qCall sp_is_whole [] (qCons (qOp dIx (qVar 1) (qC (.int 2))) (qCons (qC (.int 1)) (qCons (qC (.int 60)) qNil)))) (qCall sp_is_whole [] (qCons (qOp dIx (qVar 1) (qC (.int 3))) (qCons (qC (.int 0)) (qCons (qC (.int 60)) qNil))))))))
theorem dv_is_road {k : Nat} (T : Tx w K mg) {sp_is_one_of : DSp} (G_is_one_of : FnOk P w K mg base (L2.CX P w) k T.f_is_one_of.f T.f_is_one_of.fd ["thing", "texts"] (toSp K sp_is_one_of)) {sp_is_tuple_of : DSp} (G_is_tuple_of : FnOk P w K mg base (L2.CX P w) k T.f_is_tuple_of.f T.f_is_tuple_of.fd ["thing", "many"] (toSp K sp_is_tuple_of)) {sp_is_whole : DSp} (G_is_whole : FnOk P w K mg base (L2.CX P w) k T.f_is_whole.f T.f_is_whole.fd ["thing", "low", "high"] (toSp K sp_is_whole)) {p : DSp} (hlen : ∀ ds M Q E, p ds M Q E → ds.length = 2)
    (hs : ∀ ds M Q Ed, upSp p ds M Q Ed → q_is_road sp_is_one_of sp_is_tuple_of sp_is_whole (fun x _ M => Ed x M) (retE Q) (startD N_is_road ds) M) : FnOk P w K mg base (L2.CX P w) (k + 1) T.f_is_road.f T.f_is_road.fd ["names", "thing"] (toSp K p) := by
  refine (fn_ok (p := upSp p) T.f_is_road.F sc_is_road (fun ds M Q E ⟨Q0, E0, h, _⟩ => hlen ds M Q0 E0 h) fun cdv A outer s H E hr tk hp => ?_).imp fun _ _ _ _ h => imp_up h
  have nd := sc_is_road.nd
  have hu64 := hr.units
  have hu := Nat.lt_of_le_of_lt (Nat.add_le_add_left (show 1 ≤ 64 by decide) _) hu64
  exact ⟨_, q_is_road sp_is_one_of sp_is_tuple_of sp_is_whole, (qss_cons (qs_if (QW.t (qw_or (qt_not (qt_val (q_call G_is_tuple_of hr tk rfl T.f_is_tuple_of.g T.f_is_tuple_of.F.kp T.f_is_tuple_of.b .nil (fun _ => rfl) (qa_cons (qv 1) (qa_cons q_int qa_nil))))) (qw_or (qt_not (qt_val (q_call G_is_one_of hr tk rfl T.f_is_one_of.g T.f_is_one_of.F.kp T.f_is_one_of.b .nil (fun _ => rfl) (qa_cons (q_ix hu (qv 1) q_int) (qa_cons (qv 0) qa_nil))))) (qw_or1 (qt_not (qt_val (q_call G_is_one_of hr tk rfl T.f_is_one_of.g T.f_is_one_of.F.kp T.f_is_one_of.b .nil (fun _ => rfl) (qa_cons (q_ix hu (qv 1) q_int) (qa_cons (qv 0) qa_nil)))))))))
  (qss_one (qs_ret q_bl))
  qss_nil)
  (qss_one (qs_ret (q_and (q_cmp (o_ne hu64) (q_ix hu (qv 1) q_int) (q_ix hu (qv 1) q_int)) (q_and (q_call G_is_whole hr tk rfl T.f_is_whole.g T.f_is_whole.F.kp T.f_is_whole.b .nil (fun _ => rfl) (qa_cons (q_ix hu (qv 1) q_int) (qa_cons q_int (qa_cons (q_globI rfl T.g_MOST_MINUTES) qa_nil)))) (q_one (q_call G_is_whole hr tk rfl T.f_is_whole.g T.f_is_whole.F.kp T.f_is_whole.b .nil (fun _ => rfl) (qa_cons (q_ix hu (qv 1) q_int) (qa_cons q_int (qa_cons (q_globI rfl T.g_MOST_MINUTES) qa_nil)))))))))), hs⟩
def q_roads_fault (sp_is_road : DSp) : DTS :=
  (qSeq (qIfS (qOr (qNot (qTB (qCB dIsi (qCons (qVar 1) (qCons (qC (.ty "tuple")) qNil))))) (qTB (qOp (dCmpI fun i j => decide (j < i)) (qCB dLen (qCons (qVar 1) qNil)) (qC (.int 80)))))
  (qRet (qUn dNeg (qC (.int 1))))
  qNext)
  (qSeq (qAsg qDNewT (gNameD 2))
  (qSeq (qFor (qiEnum0 (qCons (qVar 1) qNil)) (gTupD 2 (gConsD (gNameD 3) (gConsD (gNameD 4) gNilD)))
  (qSeq (qIfS (qOr (qNot (qTB (qCall sp_is_road [] (qCons (qVar 0) (qCons (qVar 4) qNil))))) (qTB (qOp (dIn false) (qCB dTuple (qCons (qCB (dSortU false) (qCons (qSl false (qVar 4) qNoPart (qPart (qC (.int 2)))) qNil)) qNil)) (qVar 2))))
  (qRet (qVar 3))
  qNext)
  (qAsg (qC (.bl true)) (gSubD (qVar 2) (qCB dTuple (qCons (qCB (dSortU false) (qCons (qSl false (qVar 4) qNoPart (qPart (qC (.int 2)))) qNil)) qNil))))))
  (qRet (qC .non)))))
theorem dv_roads_fault {k : Nat} (T : Tx w K mg) {sp_is_road : DSp} (G_is_road : FnOk P w K mg base (L2.CX P w) k T.f_is_road.f T.f_is_road.fd ["names", "thing"] (toSp K sp_is_road)) {p : DSp} (hlen : ∀ ds M Q E, p ds M Q E → ds.length = 2)
    (hs : ∀ ds M Q Ed, upSp p ds M Q Ed → q_roads_fault sp_is_road (fun x _ M => Ed x M) (retE Q) (startD N_roads_fault ds) M) : FnOk P w K mg base (L2.CX P w) (k + 1) T.f_roads_fault.f T.f_roads_fault.fd ["names", "thing"] (toSp K p) := by
  refine (fn_ok (p := upSp p) T.f_roads_fault.F sc_roads_fault (fun ds M Q E ⟨Q0, E0, h, _⟩ => hlen ds M Q0 E0 h) fun cdv A outer s H E hr tk hp => ?_).imp fun _ _ _ _ h => imp_up h
  have nd := sc_roads_fault.nd
  have hu64 := hr.units
  have hu := Nat.lt_of_le_of_lt (Nat.add_le_add_left (show 1 ≤ 64 by decide) _) hu64
  exact ⟨_, q_roads_fault sp_is_road, (qss_cons (qs_if (QW.t (qw_or (qt_not (qt_val (q_callB c_isi rfl T.n_isinstance (by decide +kernel) (qa_cons (qv 1) (qa_cons (qe_c (pe_bltn (v := .ty "tuple") rfl T.n_tuple (by decide +kernel) rfl) fun _ => rfl) qa_nil))))) (qw_or1 (qt_cmp o_gt (q_callB c_len rfl T.n_len (by decide +kernel) (qa_cons (qv 1) qa_nil)) (q_globI rfl T.g_MOST_ROADS)))))
  (qss_one (qs_ret (q_neg q_int)))
  qss_nil)
  (qss_cons (qs_setN 2 nd q_dnewT)
  (qss_cons (qs_for (ix := [3, 4]) hp rfl (qi_enum0 rfl T.n_enumerate (qa_cons (qv 1) qa_nil)) (qg_tup rfl (qgs_cons (qg_nm 3 nd) (qgs_cons (qg_nm 4 nd) qgs_nil)))
  (qss_cons (qs_if (QW.t (qw_or (qt_not (qt_val (q_call G_is_road hr tk rfl T.f_is_road.g T.f_is_road.F.kp T.f_is_road.b .nil (fun _ => rfl) (qa_cons (qv 0) (qa_cons (qv 4) qa_nil))))) (qw_or1 (qt_cmp (o_in hu) (q_callTy c_tuple rfl T.n_tuple (by decide +kernel) (qa_cons (q_callB (c_sortU false) rfl T.n_sorted (by decide +kernel) (qa_cons (q_slice false (qv 4) qo_none (qo_some q_int)) qa_nil)) qa_nil)) (qv 2)))))
  (qss_one (qs_ret (qv 3)))
  qss_nil)
  (qss_one (qs_asg (ix := []) q_bl (qg_sub hu (qv 2) (q_callTy c_tuple rfl T.n_tuple (by decide +kernel) (qa_cons (q_callB (c_sortU false) rfl T.n_sorted (by decide +kernel) (qa_cons (q_slice false (qv 4) qo_none (qo_some q_int)) qa_nil)) qa_nil)))))))
  (qss_one (qs_ret q_non))))), hs⟩
def q_stations_fault (sp_is_one_of : DSp) : DTS :=
  (qSeq (qIfS (qOr (qNot (qTB (qCB dIsi (qCons (qVar 1) (qCons (qC (.ty "tuple")) qNil))))) (qTB (qOp (dCmpI fun i j => decide (j < i)) (qCB dLen (qCons (qVar 1) qNil)) (qC (.int 12)))))
  (qRet (qUn dNeg (qC (.int 1))))
  qNext)
  (qSeq (qFor (qiEnum0 (qCons (qVar 1) qNil)) (gTupD 2 (gConsD (gNameD 2) (gConsD (gNameD 3) gNilD)))
  (qIfS (qOr (qNot (qTB (qCall sp_is_one_of [] (qCons (qVar 3) (qCons (qVar 0) qNil))))) (qTB (qOp (dIn false) (qVar 3) (qSl false (qVar 1) qNoPart (qPart (qVar 2))))))
  (qRet (qVar 2))
  qNext))
  (qRet (qC .non))))
theorem dv_stations_fault {k : Nat} (T : Tx w K mg) {sp_is_one_of : DSp} (G_is_one_of : FnOk P w K mg base (L2.CX P w) k T.f_is_one_of.f T.f_is_one_of.fd ["thing", "texts"] (toSp K sp_is_one_of)) {p : DSp} (hlen : ∀ ds M Q E, p ds M Q E → ds.length = 2)
    (hs : ∀ ds M Q Ed, upSp p ds M Q Ed → q_stations_fault sp_is_one_of (fun x _ M => Ed x M) (retE Q) (startD N_stations_fault ds) M) : FnOk P w K mg base (L2.CX P w) (k + 1) T.f_stations_fault.f T.f_stations_fault.fd ["names", "thing"] (toSp K p) := by
  refine (fn_ok (p := upSp p) T.f_stations_fault.F sc_stations_fault (fun ds M Q E ⟨Q0, E0, h, _⟩ => hlen ds M Q0 E0 h) fun cdv A outer s H E hr tk hp => ?_).imp fun _ _ _ _ h => imp_up h
  have nd := sc_stations_fault.nd
  have hu64 := hr.units
  have hu := Nat.lt_of_le_of_lt (Nat.add_le_add_left (show 1 ≤ 64 by decide) _) hu64
  exact ⟨_, q_stations_fault sp_is_one_of, (qss_cons (qs_if (QW.t (qw_or (qt_not (qt_val (q_callB c_isi rfl T.n_isinstance (by decide +kernel) (qa_cons (qv 1) (qa_cons (qe_c (pe_bltn (v := .ty "tuple") rfl T.n_tuple (by decide +kernel) rfl) fun _ => rfl) qa_nil))))) (qw_or1 (qt_cmp o_gt (q_callB c_len rfl T.n_len (by decide +kernel) (qa_cons (qv 1) qa_nil)) (q_globI rfl T.g_MOST_STATIONS)))))
  (qss_one (qs_ret (q_neg q_int)))
  qss_nil)
  (qss_cons (qs_for (ix := [2, 3]) hp rfl (qi_enum0 rfl T.n_enumerate (qa_cons (qv 1) qa_nil)) (qg_tup rfl (qgs_cons (qg_nm 2 nd) (qgs_cons (qg_nm 3 nd) qgs_nil)))
  (qss_one (qs_if (QW.t (qw_or (qt_not (qt_val (q_call G_is_one_of hr tk rfl T.f_is_one_of.g T.f_is_one_of.F.kp T.f_is_one_of.b .nil (fun _ => rfl) (qa_cons (qv 3) (qa_cons (qv 0) qa_nil))))) (qw_or1 (qt_cmp (o_in hu) (qv 3) (q_slice false (qv 1) qo_none (qo_some (qv 2)))))))
  (qss_one (qs_ret (qv 2)))
  qss_nil)))
  (qss_one (qs_ret q_non)))), hs⟩
def q_need (c_NoGround : Addr) : DTS :=
  (qIfS (qTB (qOp (dIs true) (qVar 1) (qC .non)))
  (qRaise c_NoGround [(PySem.Str.ofString "part"), (PySem.Str.ofString "at")] (qCons (qVar 0) (qCons (qVar 1) qNil)))
  qNext)
theorem dv_need {k : Nat} (hk : 2 ≤ k) (T : Tx w K mg) {p : DSp} (hlen : ∀ ds M Q E, p ds M Q E → ds.length = 2)
    (hs : ∀ ds M Q Ed, upSp p ds M Q Ed → q_need T.c_NoGround.C (fun x _ M => Ed x M) (retE Q) (startD N_need ds) M) : FnOk P w K mg base (L2.CX P w) (k + 1) T.f_need.f T.f_need.fd ["part", "at"] (toSp K p) := by
  refine (fn_ok (p := upSp p) T.f_need.F sc_need (fun ds M Q E ⟨Q0, E0, h, _⟩ => hlen ds M Q0 E0 h) fun cdv A outer s H E hr tk hp => ?_).imp fun _ _ _ _ h => imp_up h
  have nd := sc_need.nd
  have hu64 := hr.units
  have hu := Nat.lt_of_le_of_lt (Nat.add_le_add_left (show 1 ≤ 64 by decide) _) hu64
  exact ⟨_, q_need T.c_NoGround.C, (qss_one (qs_if (qt_cmp o_isnot (qv 1) q_non)
  (qss_one (qs_raise2 baseX_ValueError T.c_NoGround.p (in_NoGround T) (hr.mono hk) tk rfl (qa_cons (qv 0) (qa_cons (qv 1) qa_nil))))
  qss_nil)), hs⟩
def q_Ground___init__ (c_Ground : Addr) (sp_need : DSp) (sp_places_fault : DSp) (sp_roads_fault : DSp) (sp_stations_fault : DSp) : DTS :=
  (qSeq (qDrop (qCall sp_need [] (qCons (qC (.str (PySem.Str.ofString "places"))) (qCons (qCall sp_places_fault [] (qCons (qVar 1) qNil)) qNil))))
  (qSeq (qSetF c_Ground F_Ground 0 (PySem.Str.ofString "risks") (qVar 0) (qFrzE (qCB dDict (qCons (qVar 1) qNil))))
  (qSeq (qDrop (qCall sp_need [] (qCons (qC (.str (PySem.Str.ofString "roads"))) (qCons (qCall sp_roads_fault [] (qCons (qFld c_Ground F_Ground 0 (qVar 0)) (qCons (qVar 2) qNil))) qNil))))
  (qSeq (qDrop (qCall sp_need [] (qCons (qC (.str (PySem.Str.ofString "stations"))) (qCons (qCall sp_stations_fault [] (qCons (qFld c_Ground F_Ground 0 (qVar 0)) (qCons (qVar 3) qNil))) qNil))))
  (qSeq (qSetF c_Ground F_Ground 1 (PySem.Str.ofString "places") (qVar 0) (qVar 1))
  (qSeq (qSetF c_Ground F_Ground 2 (PySem.Str.ofString "roads") (qVar 0) (qVar 2))
  (qSetF c_Ground F_Ground 3 (PySem.Str.ofString "stations") (qVar 0) (qVar 3))))))))
theorem dv_Ground___init__ {k : Nat} (T : Tx w K mg) {sp_need : DSp} (G_need : FnOk P w K mg base (L2.CX P w) k T.f_need.f T.f_need.fd ["part", "at"] (toSp K sp_need)) {sp_places_fault : DSp} (G_places_fault : FnOk P w K mg base (L2.CX P w) k T.f_places_fault.f T.f_places_fault.fd ["thing"] (toSp K sp_places_fault)) {sp_roads_fault : DSp} (G_roads_fault : FnOk P w K mg base (L2.CX P w) k T.f_roads_fault.f T.f_roads_fault.fd ["names", "thing"] (toSp K sp_roads_fault)) {sp_stations_fault : DSp} (G_stations_fault : FnOk P w K mg base (L2.CX P w) k T.f_stations_fault.f T.f_stations_fault.fd ["names", "thing"] (toSp K sp_stations_fault)) {p : DSp} (hlen : ∀ ds M Q E, p ds M Q E → ds.length = 4)
    (hs : ∀ ds M Q Ed, upSp p ds M Q Ed → q_Ground___init__ T.c_Ground.C sp_need sp_places_fault sp_roads_fault sp_stations_fault (fun x _ M => Ed x M) (retE Q) (startD N_Ground___init__ ds) M) : FnOk P w K mg base (L2.CX P w) (k + 1) T.f_Ground___init__.f T.f_Ground___init__.fd ["self", "places", "roads", "stations"] (toSp K p) := by
  refine (fn_ok (p := upSp p) T.f_Ground___init__.F sc_Ground___init__ (fun ds M Q E ⟨Q0, E0, h, _⟩ => hlen ds M Q0 E0 h) fun cdv A outer s H E hr tk hp => ?_).imp fun _ _ _ _ h => imp_up h
  have nd := sc_Ground___init__.nd
  have hu64 := hr.units
  have hu := Nat.lt_of_le_of_lt (Nat.add_le_add_left (show 1 ≤ 64 by decide) _) hu64
  exact ⟨_, q_Ground___init__ T.c_Ground.C sp_need sp_places_fault sp_roads_fault sp_stations_fault, (qss_cons (qs_expr (q_call G_need hr tk rfl T.f_need.g T.f_need.F.kp T.f_need.b .nil (fun _ => rfl) (qa_cons q_str (qa_cons (q_call G_places_fault hr tk rfl T.f_places_fault.g T.f_places_fault.F.kp T.f_places_fault.b .nil (fun _ => rfl) (qa_cons (qv 1) qa_nil)) qa_nil))))
  (qss_cons (qs_setF (fs := F_Ground) (i := 0) T.c_Ground.cl (T.c_Ground.no _ (by simp)) (qv 0) (q_frzE (q_callTy (c_dict rfl) rfl T.n_dict (by decide +kernel) (qa_cons (qv 1) qa_nil))) (by decide +kernel))
  (qss_cons (qs_expr (q_call G_need hr tk rfl T.f_need.g T.f_need.F.kp T.f_need.b .nil (fun _ => rfl) (qa_cons q_str (qa_cons (q_call G_roads_fault hr tk rfl T.f_roads_fault.g T.f_roads_fault.F.kp T.f_roads_fault.b .nil (fun _ => rfl) (qa_cons (q_fld T.c_Ground.cl (T.c_Ground.no _ (by simp)) (qv 0) (fs := F_Ground) (i := 0) (by decide +kernel)) (qa_cons (qv 2) qa_nil))) qa_nil))))
  (qss_cons (qs_expr (q_call G_need hr tk rfl T.f_need.g T.f_need.F.kp T.f_need.b .nil (fun _ => rfl) (qa_cons q_str (qa_cons (q_call G_stations_fault hr tk rfl T.f_stations_fault.g T.f_stations_fault.F.kp T.f_stations_fault.b .nil (fun _ => rfl) (qa_cons (q_fld T.c_Ground.cl (T.c_Ground.no _ (by simp)) (qv 0) (fs := F_Ground) (i := 0) (by decide +kernel)) (qa_cons (qv 3) qa_nil))) qa_nil))))
  (qss_cons (qs_setF (fs := F_Ground) (i := 1) T.c_Ground.cl (T.c_Ground.no _ (by simp)) (qv 0) (qv 1) (by decide +kernel))
  (qss_cons (qs_setF (fs := F_Ground) (i := 2) T.c_Ground.cl (T.c_Ground.no _ (by simp)) (qv 0) (qv 2) (by decide +kernel))
  (qss_one (qs_setF (fs := F_Ground) (i := 3) T.c_Ground.cl (T.c_Ground.no _ (by simp)) (qv 0) (qv 3) (by decide +kernel))))))))), hs⟩
def q_Ground_risk (c_Ground : Addr) (c_NoPlace : Addr) : DTS :=
  (qSeq (qIfS (qNot (qTB (qCB dIsi (qCons (qVar 1) (qCons (qC (.ty "str")) qNil)))))
  (qRaise c_NoPlace [(PySem.Str.ofString "place")] (qCons (qVar 1) qNil))
  qNext)
  (qTryKey c_NoPlace (PySem.Str.ofString "place") (qFld c_Ground F_Ground 0 (qVar 0)) (qVar 1) (qVar 1)))
theorem dv_Ground_risk {k : Nat} (hk : 2 ≤ k) (T : Tx w K mg) {p : DSp} (hlen : ∀ ds M Q E, p ds M Q E → ds.length = 2)
    (hs : ∀ ds M Q Ed, upSp p ds M Q Ed → q_Ground_risk T.c_Ground.C T.c_NoPlace.C (fun x _ M => Ed x M) (retE Q) (startD N_Ground_risk ds) M) : FnOk P w K mg base (L2.CX P w) (k + 1) T.f_Ground_risk.f T.f_Ground_risk.fd ["self", "place"] (toSp K p) := by
  refine (fn_ok (p := upSp p) T.f_Ground_risk.F sc_Ground_risk (fun ds M Q E ⟨Q0, E0, h, _⟩ => hlen ds M Q0 E0 h) fun cdv A outer s H E hr tk hp => ?_).imp fun _ _ _ _ h => imp_up h
  have nd := sc_Ground_risk.nd
  have hu64 := hr.units
  have hu := Nat.lt_of_le_of_lt (Nat.add_le_add_left (show 1 ≤ 64 by decide) _) hu64
  exact ⟨_, q_Ground_risk T.c_Ground.C T.c_NoPlace.C, (qss_cons (qs_if (qt_not (qt_val (q_callB c_isi rfl T.n_isinstance (by decide +kernel) (qa_cons (qv 1) (qa_cons (qe_c (pe_bltn (v := .ty "str") rfl T.n_str (by decide +kernel) rfl) fun _ => rfl) qa_nil)))))
  (qss_one (qs_raise1 baseX_KeyError T.c_NoPlace.p (in_NoPlace T) (hr.mono hk) tk rfl (qa_cons (qv 1) qa_nil)))
  qss_nil)
  (qss_one (qs_tryKey baseX_KeyError T.c_NoPlace.p (ih_NoPlace T) (hr.mono hk) tk rfl hu T.n_KeyError (fun W pn xe => ⟨_, (q_fld T.c_Ground.cl (T.c_Ground.no _ (by simp)) (qv 0) (fs := F_Ground) (i := 0) (by decide +kernel))⟩) (fun W pn xe => ⟨_, (qv 1)⟩) (fun a pn => ⟨_, (qv 1)⟩)))), hs⟩
def q_Ground_steps (c_Ground : Addr) : DTS :=
  (qSeq (qAsg qDNew (gNameD 3))
  (qSeq (qFor (qiEnum0 (qCons (qFld c_Ground F_Ground 2 (qVar 0)) qNil)) (gTupD 2 (gConsD (gNameD 4) (gConsD (gTupD 4 (gConsD (gNameD 5) (gConsD (gNameD 6) (gConsD (gNameD 7) (gConsD (gNameD 8) gNilD))))) gNilD)))
  (qIfS (qOr (qTB (qOp (dIs false) (qVar 2) (qC .non))) (qTB (qOp (dIn true) (qVar 4) (qVar 2))))
  (qSeq (qAsg (qIf (qTB (qOp (dIn false) (qVar 1) (qC (.ktp [(.int 7), (.int 8), (.int 16), (.int 17)])))) (qOp (dAdd false) (qVar 7) (qVar 8)) (qVar 7)) (gNameD 9))
  (qSeq (qDrop (qBM "list" mApp (qDSetd (qVar 3) (qVar 5) (qLst true qNil)) (qCons (qTup (qCons (qVar 6) (qCons (qVar 9) qNil))) qNil)))
  (qDrop (qBM "list" mApp (qDSetd (qVar 3) (qVar 6) (qLst true qNil)) (qCons (qTup (qCons (qVar 5) (qCons (qVar 9) qNil))) qNil)))))
  qNext))
  (qRet (qVar 3))))
theorem dv_Ground_steps {k : Nat} (T : Tx w K mg) {p : DSp} (hlen : ∀ ds M Q E, p ds M Q E → ds.length = 3)
    (hs : ∀ ds M Q Ed, upSp p ds M Q Ed → q_Ground_steps T.c_Ground.C (fun x _ M => Ed x M) (retE Q) (startD N_Ground_steps ds) M) : FnOk P w K mg base (L2.CX P w) (k + 1) T.f_Ground_steps.f T.f_Ground_steps.fd ["self", "hour", "shut"] (toSp K p) := by
  refine (fn_ok (p := upSp p) T.f_Ground_steps.F sc_Ground_steps (fun ds M Q E ⟨Q0, E0, h, _⟩ => hlen ds M Q0 E0 h) fun cdv A outer s H E hr tk hp => ?_).imp fun _ _ _ _ h => imp_up h
  have nd := sc_Ground_steps.nd
  have hu64 := hr.units
  have hu := Nat.lt_of_le_of_lt (Nat.add_le_add_left (show 1 ≤ 64 by decide) _) hu64
  exact ⟨_, q_Ground_steps T.c_Ground.C, (qss_cons (qs_setN 3 nd q_dnew)
  (qss_cons (qs_for (ix := [4, 5, 6, 7, 8]) hp rfl (qi_enum0 rfl T.n_enumerate (qa_cons (q_fld T.c_Ground.cl (T.c_Ground.no _ (by simp)) (qv 0) (fs := F_Ground) (i := 2) (by decide +kernel)) qa_nil)) (qg_tup rfl (qgs_cons (qg_nm 4 nd) (qgs_cons (qg_tup rfl (qgs_cons (qg_nm 5 nd) (qgs_cons (qg_nm 6 nd) (qgs_cons (qg_nm 7 nd) (qgs_cons (qg_nm 8 nd) qgs_nil))))) qgs_nil)))
  (qss_one (qs_if (QW.t (qw_or (qt_cmp o_is (qv 2) q_non) (qw_or1 (qt_cmp (o_notin hu) (qv 4) (qv 2)))))
  (qss_cons (qs_setN 9 nd (q_if (qt_cmp (o_in hu) (qv 1) (QE.can (q_globT rfl T.t_SLOW_HOURS))) (q_op (o_add false) (qv 7) (qv 8)) (qv 7)))
  (qss_cons (qs_expr (q_bm PySem.F.plainAttrs_list PySem.F.slot_list_append PySem.F.type_list_append m_append (q_dsetd (qv 3) (qv 5) (q_lst true qa_nil) ⟨rfl, rfl, rfl, rfl⟩) (qa_cons (q_tup (qa_cons (qv 6) (qa_cons (qv 9) qa_nil))) qa_nil)))
  (qss_one (qs_expr (q_bm PySem.F.plainAttrs_list PySem.F.slot_list_append PySem.F.type_list_append m_append (q_dsetd (qv 3) (qv 6) (q_lst true qa_nil) ⟨rfl, rfl, rfl, rfl⟩) (qa_cons (q_tup (qa_cons (qv 5) (qa_cons (qv 9) qa_nil))) qa_nil))))))
  qss_nil)))
  (qss_one (qs_ret (qv 3))))), hs⟩
def q_Ground_reach (P_Ground_reach : Addr) (c_Ground : Addr) (sp_Ground_steps : DSp) : DTS :=
  (qSeq (qAsg (qMeth c_Ground F_Ground sp_Ground_steps [] (qVar 0) (qCons (qVar 2) (qCons (qVar 3) qNil))) (gNameD 4))
  (qSeq (qAsg qDNew (gNameD 5))
  (qSeq (qAsg (qDisp [((qVar 1), (qC (.int 0)))]) (gNameD 6))
  (qSeq (qWhile (qTB (qOp (dDEq true) (qVar 6) qDNew))
  (qSeq (qAsg (qMinKey P_Ground_reach ("Ground.reach.<locals>.<lambda>" : Str) 6 (qVar 6)) (gNameD 7))
  (qSeq (qAsg (qDPop (qVar 6) (qVar 7)) (gSubD (qVar 5) (qVar 7)))
  (qFor (qiAny (qDGet2 (qVar 4) (qVar 7) (qLst false qNil))) (gTupD 2 (gConsD (gNameD 8) (gConsD (gNameD 9) gNilD)))
  (qIfS (qTB (qOp (dIn true) (qVar 8) (qVar 5)))
  (qAsg (qCB dMin2 (qCons (qDGet2 (qVar 6) (qVar 8) (qOp (dAdd false) (qOp dIx (qVar 5) (qVar 7)) (qVar 9))) (qCons (qOp (dAdd false) (qOp dIx (qVar 5) (qVar 7)) (qVar 9)) qNil))) (gSubD (qVar 6) (qVar 8)))
  qNext)))))
  (qFrz 5 (qRet (qVar 5)))))))
theorem dv_Ground_reach {k : Nat} (T : Tx w K mg) (TB : LamX.TabB base mg T.lc_Ground_reach.c T.lc_Ground_reach.P) {sp_Ground_steps : DSp} (G_Ground_steps : FnOk P w K mg base (L2.CX P w) k T.f_Ground_steps.f T.f_Ground_steps.fd ["self", "hour", "shut"] (toSp K sp_Ground_steps)) {p : DSp} (hlen : ∀ ds M Q E, p ds M Q E → ds.length = 4)
    (hs : ∀ ds M Q Ed, upSp p ds M Q Ed → q_Ground_reach T.lc_Ground_reach.P T.c_Ground.C sp_Ground_steps (fun x _ M => Ed x M) (retE Q) (startD N_Ground_reach ds) M) : FnOk P w K mg base (L2.CX P w) (k + 1) T.f_Ground_reach.f T.f_Ground_reach.fd ["self", "start", "hour", "shut"] (toSp K p) := by
  refine (fn_okc (p := upSp p) T.f_Ground_reach.F sc_Ground_reach (fun ds M Q E ⟨Q0, E0, h, _⟩ => hlen ds M Q0 E0 h) fun A outer s H E hr tk hp => ?_).imp fun _ _ _ _ h => imp_up h
  have nd := sc_Ground_reach.nd
  have hu64 := hr.units
  have hu := Nat.lt_of_le_of_lt (Nat.add_le_add_left (show 1 ≤ 64 by decide) _) hu64
  exact ⟨_, q_Ground_reach T.lc_Ground_reach.P T.c_Ground.C sp_Ground_steps, (qss_cons (qs_setN 4 nd (q_meth (dds := []) (fs := F_Ground) T.c_Ground.cl T.f_Ground_steps.m G_Ground_steps hr tk T.f_Ground_steps.b .nil (fun _ => rfl) (qv 0) (qa_cons (qv 2) (qa_cons (qv 3) qa_nil)) (by decide +kernel)))
  (qss_cons (qs_setN 5 nd q_dnew)
  (qss_cons (qs_setN 6 nd (q_disp (.cons (qv 1) q_int .nil)))
  (qss_cons (qs_while hp (qt_cmp (o_dne hu64) (qv 6) q_dnew)
  (qss_cons (qs_setN 7 nd (q_minKey (ic := 6) hr rfl T.n_min ⟨_, (qv 6)⟩ TB T.lc_Ground_reach.hc (by exact ⟨⟨_, _, _, _, _, _, _, rfl, rfl, rfl, rfl, by decide, by decide, by decide, by decide, by decide, by decide, fun _ _ _ _ _ => rfl⟩⟩)))
  (qss_cons (qs_asg (ix := []) (q_dpop (qv 6) (qv 7) ⟨rfl, rfl, rfl, rfl⟩) (qg_sub hu (qv 5) (qv 7)))
  (qss_one (qs_for (ix := [8, 9]) hp rfl (qi_any (q_dget2 hu (qv 4) (qv 7) (q_lst false qa_nil) ⟨rfl, rfl, rfl, rfl⟩)) (qg_tup rfl (qgs_cons (qg_nm 8 nd) (qgs_cons (qg_nm 9 nd) qgs_nil)))
  (qss_one (qs_if (qt_cmp (o_notin hu) (qv 8) (qv 5))
  (qss_one (qs_asg (ix := []) (q_callB (c_min2 rfl) rfl T.n_min (by decide +kernel) (qa_cons (q_dget2 hu (qv 6) (qv 8) (q_op (o_add false) (q_ix hu (qv 5) (qv 7)) (qv 9)) ⟨rfl, rfl, rfl, rfl⟩) (qa_cons (q_op (o_add false) (q_ix hu (qv 5) (qv 7)) (qv 9)) qa_nil))) (qg_sub hu (qv 6) (qv 8))))
  qss_nil)))))))
  (qss_one (qs_frz 5 (qs_ret (qv 5)))))))), hs⟩
def q_Ground_minutes (c_Ground : Addr) (sp_Ground_reach : DSp) (sp_Ground_risk : DSp) : DTS :=
  (qSeq (qDrop (qMeth c_Ground F_Ground sp_Ground_risk [] (qVar 0) (qCons (qVar 1) qNil)))
  (qSeq (qDrop (qMeth c_Ground F_Ground sp_Ground_risk [] (qVar 0) (qCons (qVar 2) qNil)))
  (qRet (qDGet2 (qMeth c_Ground F_Ground sp_Ground_reach [] (qVar 0) (qCons (qVar 1) (qCons (qVar 3) (qCons (qVar 4) qNil)))) (qVar 2) (qC .non)))))
theorem dv_Ground_minutes {k : Nat} (T : Tx w K mg) {sp_Ground_reach : DSp} (G_Ground_reach : FnOk P w K mg base (L2.CX P w) k T.f_Ground_reach.f T.f_Ground_reach.fd ["self", "start", "hour", "shut"] (toSp K sp_Ground_reach)) {sp_Ground_risk : DSp} (G_Ground_risk : FnOk P w K mg base (L2.CX P w) k T.f_Ground_risk.f T.f_Ground_risk.fd ["self", "place"] (toSp K sp_Ground_risk)) {p : DSp} (hlen : ∀ ds M Q E, p ds M Q E → ds.length = 5)
    (hs : ∀ ds M Q Ed, upSp p ds M Q Ed → q_Ground_minutes T.c_Ground.C sp_Ground_reach sp_Ground_risk (fun x _ M => Ed x M) (retE Q) (startD N_Ground_minutes ds) M) : FnOk P w K mg base (L2.CX P w) (k + 1) T.f_Ground_minutes.f T.f_Ground_minutes.fd ["self", "start", "goal", "hour", "shut"] (toSp K p) := by
  refine (fn_okD (p := upSp p) T.f_Ground_minutes.F sc_Ground_minutes (fun ds M Q E ⟨Q0, E0, h, _⟩ => hlen ds M Q0 E0 h) fun cdv A outer s H E hr tk hp => ?_).imp fun _ _ _ _ h => imp_up h
  have nd := sc_Ground_minutes.nd
  have hu64 := hr.units
  have hu := Nat.lt_of_le_of_lt (Nat.add_le_add_left (show 1 ≤ 64 by decide) _) hu64
  exact ⟨_, q_Ground_minutes T.c_Ground.C sp_Ground_reach sp_Ground_risk, (qss_cons (qs_expr (q_meth (dds := []) (fs := F_Ground) T.c_Ground.cl T.f_Ground_risk.m G_Ground_risk hr tk T.f_Ground_risk.b .nil (fun _ => rfl) (qv 0) (qa_cons (qv 1) qa_nil) (by decide +kernel)))
  (qss_cons (qs_expr (q_meth (dds := []) (fs := F_Ground) T.c_Ground.cl T.f_Ground_risk.m G_Ground_risk hr tk T.f_Ground_risk.b .nil (fun _ => rfl) (qv 0) (qa_cons (qv 2) qa_nil) (by decide +kernel)))
  (qss_one (qs_ret (q_dget2 hu (q_meth (dds := []) (fs := F_Ground) T.c_Ground.cl T.f_Ground_reach.m G_Ground_reach hr tk T.f_Ground_reach.b .nil (fun _ => rfl) (qv 0) (qa_cons (qv 1) (qa_cons (qv 3) (qa_cons (qv 4) qa_nil))) (by decide +kernel)) (qv 2) q_non ⟨rfl, rfl, rfl, rfl⟩))))), hs⟩
def q__law_bag : DTS :=
  (qSeq (qAsg (qC (.int 0)) (gNameD 2))
  (qSeq (qIfS (qTB (qOp (dCmpI fun i j => decide (j < i)) (qCB dLen (qCons (qVar 0) qNil)) (qC (.int 0))))
  (qAsg (qOp dIx (qVar 0) (qOp (dInt (fun _ j => 0 < j) fun i j => i % j) (qVar 1) (qCB dLen (qCons (qVar 0) qNil)))) (gNameD 2))
  qNext)
  (qSeq (qAsg (qC (.int 0)) (gNameD 3))
  (qSeq (qIfS (qAnd (qTB (qOp (dCmpI fun i j => decide (j ≤ i)) (qCB dAbs (qCons (qVar 2) qNil)) (qOp (dInt CPow fun i j => i ^ j.toNat) (qC (.int 10)) (qC (.int 18))))) (qTB (qOp (dCmpI fun i j => decide (i < j)) (qVar 1) (qCB dLen (qCons (qVar 0) qNil)))))
  (qAsg (qCB dAbs (qCons (qVar 2) qNil)) (gNameD 3))
  qNext)
  (qSeq (qAsg (qTup (qCons (qC (.int 2147483629)) (qCons (qC (.int 2147483587)) (qCons (qC (.int 2147483579)) (qCons (qC (.int 2147483563)) (qCons (qC (.int 2147483549)) (qCons (qC (.int 2147483543)) (qCons (qC (.int 2147483497)) (qCons (qC (.int 2147483489)) qNil))))))))) (gNameD 4))
  (qRet (qLst true (qCons (qVar 3) (qCons (qOp (dInt (fun _ j => 0 < j) fun i j => i % j) (qOp (dInt CPow fun i j => i ^ j.toNat) (qOp (dAdd false) (qOp (dAdd false) (qOp (dInt (fun _ j => 0 < j) fun i j => i % j) (qVar 2) (qC (.int 2147483647))) (qOp (dInt CMul fun i j => i * j) (qC (.int 104729)) (qVar 1))) (qC (.int 7))) (qC (.int 5))) (qOp dIx (qVar 4) (qOp (dInt (fun _ j => 0 < j) fun i j => i % j) (qVar 1) (qC (.int 8))))) qNil)))))))))
theorem dv__law_bag {k : Nat} (T : Tx w K mg) {p : DSp} (hlen : ∀ ds M Q E, p ds M Q E → ds.length = 2)
    (hs : ∀ ds M Q Ed, upSp p ds M Q Ed → q__law_bag (fun x _ M => Ed x M) (retE Q) (startD N__law_bag ds) M) : FnOk P w K mg base (L2.CX P w) (k + 1) T.f__law_bag.f T.f__law_bag.fd ["_law_script", "_law_at"] (toSp K p) := by
  refine (fn_ok (p := upSp p) T.f__law_bag.F sc__law_bag (fun ds M Q E ⟨Q0, E0, h, _⟩ => hlen ds M Q0 E0 h) fun cdv A outer s H E hr tk hp => ?_).imp fun _ _ _ _ h => imp_up h
  have nd := sc__law_bag.nd
  have hu64 := hr.units
  have hu := Nat.lt_of_le_of_lt (Nat.add_le_add_left (show 1 ≤ 64 by decide) _) hu64
  exact ⟨_, q__law_bag, (qss_cons (qs_setN 2 nd q_int)
  (qss_cons (qs_if (qt_cmp o_gt (q_callB c_len rfl T.n_len (by decide +kernel) (qa_cons (qv 0) qa_nil)) q_int)
  (qss_one (qs_setN 2 nd (q_ix hu (qv 0) (q_op o_mod (qv 1) (q_callB c_len rfl T.n_len (by decide +kernel) (qa_cons (qv 0) qa_nil))))))
  qss_nil)
  (qss_cons (qs_setN 3 nd q_int)
  (qss_cons (qs_if (QW.t (qw_and (qt_cmp o_ge (q_callB c_abs rfl T.n_abs (by decide +kernel) (qa_cons (qv 2) qa_nil)) (q_op o_pow q_int q_int)) (qw_and1 (qt_cmp o_lt (qv 1) (q_callB c_len rfl T.n_len (by decide +kernel) (qa_cons (qv 0) qa_nil))))))
  (qss_one (qs_setN 3 nd (q_callB c_abs rfl T.n_abs (by decide +kernel) (qa_cons (qv 2) qa_nil))))
  qss_nil)
  (qss_cons (qs_setN 4 nd (q_tup (qa_cons q_int (qa_cons q_int (qa_cons q_int (qa_cons q_int (qa_cons q_int (qa_cons q_int (qa_cons q_int (qa_cons q_int qa_nil))))))))))
  (qss_one (qs_ret (q_lst true (qa_cons (qv 3) (qa_cons (q_op o_mod (q_op o_pow (q_op (o_add false) (q_op (o_add false) (q_op o_mod (qv 2) q_int) (q_op o_mulI q_int (qv 1))) q_int) q_int) (q_ix hu (qv 4) (q_op o_mod (qv 1) q_int))) qa_nil)))))))))), hs⟩
def q__law_take : DTS :=
  (qSeq (qIfS (qTB (qOp (dCmpI fun i j => decide (j < i)) (qOp dIx (qVar 0) (qC (.int 0))) (qC (.int 0))))
  (qSeq (qAsg (qOp (dInt (fun _ j => 0 < j) fun i j => i % j) (qOp dIx (qVar 0) (qC (.int 0))) (qVar 1)) (gNameD 2))
  (qSeq (qAsg (qOp (dInt CDiv fun i j => i / j) (qOp dIx (qVar 0) (qC (.int 0))) (qVar 1)) (gSubD (qVar 0) (qC (.int 0))))
  (qRet (qVar 2))))
  qNext)
  (qSeq (qAsg (qOp (dInt (fun _ j => 0 < j) fun i j => i % j) (qOp (dAdd false) (qOp (dInt CMul fun i j => i * j) (qOp dIx (qVar 0) (qC (.int 1))) (qC (.int 48271))) (qC (.int 11))) (qC (.int 2147483647))) (gSubD (qVar 0) (qC (.int 1))))
  (qRet (qOp (dInt (fun _ j => 0 < j) fun i j => i % j) (qOp (dInt (fun _ j => 0 < j) fun i j => i % j) (qOp (dInt CPow fun i j => i ^ j.toNat) (qOp (dInt CDiv fun i j => i / j) (qOp dIx (qVar 0) (qC (.int 1))) (qC (.int 8))) (qC (.int 3))) (qC (.int 2147483629))) (qVar 1)))))
theorem dv__law_take {k : Nat} (T : Tx w K mg) {p : DSp} (hlen : ∀ ds M Q E, p ds M Q E → ds.length = 2)
    (hs : ∀ ds M Q Ed, upSp p ds M Q Ed → q__law_take (fun x _ M => Ed x M) (retE Q) (startD N__law_take ds) M) : FnOk P w K mg base (L2.CX P w) (k + 1) T.f__law_take.f T.f__law_take.fd ["_law_bag_here", "_law_many"] (toSp K p) := by
  refine (fn_ok (p := upSp p) T.f__law_take.F sc__law_take (fun ds M Q E ⟨Q0, E0, h, _⟩ => hlen ds M Q0 E0 h) fun cdv A outer s H E hr tk hp => ?_).imp fun _ _ _ _ h => imp_up h
  have nd := sc__law_take.nd
  have hu64 := hr.units
  have hu := Nat.lt_of_le_of_lt (Nat.add_le_add_left (show 1 ≤ 64 by decide) _) hu64
  exact ⟨_, q__law_take, (qss_cons (qs_if (qt_cmp o_gt (q_ix hu (qv 0) q_int) q_int)
  (qss_cons (qs_setN 2 nd (q_op o_mod (q_ix hu (qv 0) q_int) (qv 1)))
  (qss_cons (qs_asg (ix := []) (q_op o_fdiv (q_ix hu (qv 0) q_int) (qv 1)) (qg_sub hu (qv 0) q_int))
  (qss_one (qs_ret (qv 2)))))
  qss_nil)
  (qss_cons (qs_asg (ix := []) (q_op o_mod (q_op (o_add false) (q_op o_mulI (q_ix hu (qv 0) q_int) q_int) q_int) q_int) (qg_sub hu (qv 0) q_int))
  (qss_one (qs_ret (q_op o_mod (q_op o_mod (q_op o_pow (q_op o_fdiv (q_ix hu (qv 0) q_int) q_int) q_int) q_int) (qv 1)))))), hs⟩
def q__law_names (sp__law_take : DSp) : DTS :=
  (qSeq (qAsg (qC (.str (PySem.Str.ofString "abcdefghijklmnopqrstuvwxyz"))) (gNameD 2))
  (qSeq (qAsg (qBM "str" mJoin (qC (.str (PySem.Str.ofString ""))) (qCons (qLc false (qiRng1 (qCons (qCall sp__law_take [] (qCons (qVar 0) (qCons (qC (.int 6)) qNil))) qNil)) (gNameD 7) qYes (qOp dIx (qVar 2) (qCall sp__law_take [] (qCons (qVar 0) (qCons (qC (.int 26)) qNil)))) [7]) qNil)) (gNameD 3))
  (qSeq (qAsg (qTup (qCons (qCall sp__law_take [] (qCons (qVar 0) (qCons (qOp (dAdd false) (qCB dLen (qCons (qVar 3) qNil)) (qC (.int 1))) qNil))) (qCons (qCall sp__law_take [] (qCons (qVar 0) (qCons (qC (.int 26)) qNil))) qNil))) (gTupD 2 (gConsD (gNameD 4) (gConsD (gNameD 5) gNilD))))
  (qSeq (qAsg (qLc false (qiRng1 (qCons (qVar 1) qNil)) (gNameD 7) qYes (qOp (dAdd false) (qOp dIx (qVar 2) (qOp (dInt (fun _ j => 0 < j) fun i j => i % j) (qOp (dAdd false) (qVar 5) (qVar 7)) (qC (.int 26)))) (qOp (dMul false) (qOp dIx (qVar 2) (qOp (dInt (fun _ j => 0 < j) fun i j => i % j) (qVar 7) (qC (.int 25)))) (qCB dIntX (qCons (qOp (dCmpI fun i j => decide (j < i)) (qVar 7) (qC (.int 25))) qNil)))) [7]) (gNameD 6))
  (qRet (qLc false (qiAny (qVar 6)) (gNameD 8) qYes (qOp (dAdd false) (qOp (dAdd false) (qSl false (qVar 3) qNoPart (qPart (qVar 4))) (qVar 8)) (qSl false (qVar 3) (qPart (qVar 4)) qNoPart)) [8]))))))
theorem dv__law_names {k : Nat} (T : Tx w K mg) {sp__law_take : DSp} (G__law_take : FnOk P w K mg base (L2.CX P w) k T.f__law_take.f T.f__law_take.fd ["_law_bag_here", "_law_many"] (toSp K sp__law_take)) {p : DSp} (hlen : ∀ ds M Q E, p ds M Q E → ds.length = 2)
    (hs : ∀ ds M Q Ed, upSp p ds M Q Ed → q__law_names sp__law_take (fun x _ M => Ed x M) (retE Q) (startD N__law_names ds) M) : FnOk P w K mg base (L2.CX P w) (k + 1) T.f__law_names.f T.f__law_names.fd ["_law_bag_here", "_law_many"] (toSp K p) := by
  refine (fn_ok (p := upSp p) T.f__law_names.F sc__law_names (fun ds M Q E ⟨Q0, E0, h, _⟩ => hlen ds M Q0 E0 h) fun cdv A outer s H E hr tk hp => ?_).imp fun _ _ _ _ h => imp_up h
  have nd := sc__law_names.nd
  have hu64 := hr.units
  have hu := Nat.lt_of_le_of_lt (Nat.add_le_add_left (show 1 ≤ 64 by decide) _) hu64
  exact ⟨_, q__law_names sp__law_take, (qss_cons (qs_setN 2 nd q_str)
  (qss_cons (qs_setN 3 nd (q_bm PySem.F.plainAttrs_str PySem.F.slot_str_join PySem.F.type_str_join m_join q_str (qa_cons (q_lcX (own := [("_law_k", 7)]) false rfl nd (qi_range1 rfl T.n_range (qa_cons (q_call G__law_take hr tk rfl T.f__law_take.g T.f__law_take.F.kp T.f__law_take.b .nil (fun _ => rfl) (qa_cons (qv 0) (qa_cons q_int qa_nil))) qa_nil)) (blkOk_by (own := [("_law_k", 7)]) (N := N__law_names) (sc := defScope s__law_names) (by decide +kernel)) (fun _ _ _ _ _ => ⟨_, (qg_nm 7 nd)⟩) (fun _ _ _ _ _ => ⟨_, qts_nil⟩) (fun _ _ _ _ _ => ⟨_, (q_ix hu (qv 2) (q_call G__law_take hr takes0 rfl T.f__law_take.g T.f__law_take.F.kp T.f__law_take.b .nil (fun _ => rfl) (qa_cons (qv 0) (qa_cons q_int qa_nil))))⟩)) qa_nil)))
  (qss_cons (qs_asg (ix := [4, 5]) (q_tup (qa_cons (q_call G__law_take hr tk rfl T.f__law_take.g T.f__law_take.F.kp T.f__law_take.b .nil (fun _ => rfl) (qa_cons (qv 0) (qa_cons (q_op (o_add false) (q_callB c_len rfl T.n_len (by decide +kernel) (qa_cons (qv 3) qa_nil)) q_int) qa_nil))) (qa_cons (q_call G__law_take hr tk rfl T.f__law_take.g T.f__law_take.F.kp T.f__law_take.b .nil (fun _ => rfl) (qa_cons (qv 0) (qa_cons q_int qa_nil))) qa_nil))) (qg_tup rfl (qgs_cons (qg_nm 4 nd) (qgs_cons (qg_nm 5 nd) qgs_nil))))
  (qss_cons (qs_setLcX (own := [("_law_k", 7)]) false 6 rfl nd (qi_range1 rfl T.n_range (qa_cons (qv 1) qa_nil)) (blkOk_by (own := [("_law_k", 7)]) (N := N__law_names) (sc := defScope s__law_names) (by decide +kernel)) (fun _ _ _ _ _ => ⟨_, (qg_nm 7 nd)⟩) (fun _ _ _ _ _ => ⟨_, qts_nil⟩) (fun _ _ _ _ _ => ⟨_, (q_op (o_add false) (q_ix hu (qv 2) (q_op o_mod (q_op (o_add false) (qv 5) (qv 7)) q_int)) (q_op (o_mul false) (q_ix hu (qv 2) (q_op o_mod (qv 7) q_int)) (q_callTy c_intX rfl T.n_int (by decide +kernel) (qa_cons (q_cmp o_gt (qv 7) q_int) qa_nil))))⟩))
  (qss_one (qs_ret (q_lcX (own := [("_law_one", 8)]) false rfl nd (qi_any (qv 6)) (blkOk_by (own := [("_law_one", 8)]) (N := N__law_names) (sc := defScope s__law_names) (by decide +kernel)) (fun _ _ _ _ _ => ⟨_, (qg_nm 8 nd)⟩) (fun _ _ _ _ _ => ⟨_, qts_nil⟩) (fun _ _ _ _ _ => ⟨_, (q_op (o_add false) (q_op (o_add false) (q_slice false (qv 3) qo_none (qo_some (qv 4))) (qv 8)) (q_slice false (qv 3) (qo_some (qv 4)) qo_none))⟩)))))))), hs⟩
def q__law_ground (sp__law_names : DSp) (sp__law_take : DSp) : DTS :=
  (qSeq (qAsg (qOp dIx (qTup (qCons (qC (.int 5)) (qCons (qC (.int 2)) (qCons (qC (.int 9)) (qCons (qC (.int 16)) (qCons (qC (.int 40)) (qCons (qC (.int 1)) qNil))))))) (qCall sp__law_take [] (qCons (qVar 0) (qCons (qC (.int 6)) qNil)))) (gNameD 1))
  (qSeq (qAsg (qCall sp__law_names [] (qCons (qVar 0) (qCons (qVar 1) qNil))) (gNameD 2))
  (qSeq (qAsg (qOp dIx (qTup (qCons (qC (.int 3)) (qCons (qC (.int 12)) (qCons (qC (.int 60)) qNil)))) (qCall sp__law_take [] (qCons (qVar 0) (qCons (qC (.int 3)) qNil)))) (gNameD 3))
  (qSeq (qAsg (qCB dTupX (qCons (qLc false (qiAny (qVar 2)) (gNameD 13) qYes (qTup (qCons (qVar 13) (qCons (qOp (dAdd false) (qC (.int 1)) (qCall sp__law_take [] (qCons (qVar 0) (qCons (qC (.int 4)) qNil)))) qNil))) [13]) qNil)) (gNameD 4))
  (qSeq (qAsg (qLc true (qiRng2 (qCons (qC (.int 1)) (qCons (qVar 1) qNil))) (gNameD 6) (qTB (qOp (dCmpI fun i j => decide (j < i)) (qCall sp__law_take [] (qCons (qVar 0) (qCons (qC (.int 6)) qNil))) (qC (.int 0)))) (qTup (qCons (qCall sp__law_take [] (qCons (qVar 0) (qCons (qVar 6) qNil))) (qCons (qVar 6) qNil))) [6]) (gNameD 5))
  (qSeq (qFor (qiRng1 (qCons (qOp (dMul false) (qCall sp__law_take [] (qCons (qVar 0) (qCons (qVar 1) qNil))) (qCB dIntX (qCons (qOp (dCmpI fun i j => decide (j < i)) (qVar 1) (qC (.int 2))) qNil))) qNil)) (gNameD 6)
  (qSeq (qAsg (qCB (dSorted false) (qCons (qLst false (qCons (qCall sp__law_take [] (qCons (qVar 0) (qCons (qVar 1) qNil))) (qCons (qCall sp__law_take [] (qCons (qVar 0) (qCons (qVar 1) qNil))) qNil))) qNil)) (gUnlD 2 (gConsD (gNameD 7) (gConsD (gNameD 8) gNilD))))
  (qIfS (qAnd (qTB (qOp (dEq true) (qVar 7) (qVar 8))) (qTB (qOp (dInD true) (qTup (qCons (qVar 7) (qCons (qVar 8) qNil))) (qVar 5))))
  (qDrop (qBM "list" mApp (qVar 5) (qCons (qTup (qCons (qVar 7) (qCons (qVar 8) qNil))) qNil)))
  qNext)))
  (qSeq (qAsg (qLst true qNil) (gNameD 9))
  (qSeq (qFor (qiAny (qVar 5)) (gTupD 2 (gConsD (gNameD 7) (gConsD (gNameD 8) gNilD)))
  (qSeq (qAsg (qStep false (qTup (qCons (qOp dIx (qVar 2) (qVar 7)) (qCons (qOp dIx (qVar 2) (qVar 8)) qNil))) qNoPart qNoPart (qPart (qOp (dInt0 fun i j => i - j) (qC (.int 1)) (qOp (dInt CMul fun i j => i * j) (qC (.int 2)) (qCall sp__law_take [] (qCons (qVar 0) (qCons (qC (.int 2)) qNil))))))) (gNameD 10))
  (qDrop (qBM "list" mApp (qVar 9) (qCons (qOp (dAdd false) (qVar 10) (qTup (qCons (qOp (dAdd false) (qC (.int 1)) (qCall sp__law_take [] (qCons (qVar 0) (qCons (qVar 3) qNil)))) (qCons (qOp (dMul false) (qCall sp__law_take [] (qCons (qVar 0) (qCons (qC (.int 2)) qNil))) (qCall sp__law_take [] (qCons (qVar 0) (qCons (qC (.int 61)) qNil)))) qNil)))) qNil)))))
  (qSeq (qAsg (qCB (dList true) (qCons (qVar 2) qNil)) (gNameD 11))
  (qSeq (qAsg (qLc false (qiRng1 (qCons (qCall sp__law_take [] (qCons (qVar 0) (qCons (qCB dMin2 (qCons (qC (.int 13)) (qCons (qOp (dAdd false) (qVar 1) (qC (.int 1))) qNil))) qNil))) qNil)) (gNameD 6) qYes (qBM "list" mPopAt (qVar 11) (qCons (qCall sp__law_take [] (qCons (qVar 0) (qCons (qCB dLen (qCons (qVar 11) qNil)) qNil))) qNil)) [6]) (gNameD 12))
  (qRet (qTup (qCons (qVar 4) (qCons (qCB dTupX (qCons (qVar 9) qNil)) (qCons (qCB dTupX (qCons (qVar 12) qNil)) qNil)))))))))))))))
theorem dv__law_ground {k : Nat} (T : Tx w K mg) {sp__law_names : DSp} (G__law_names : FnOk P w K mg base (L2.CX P w) k T.f__law_names.f T.f__law_names.fd ["_law_bag_here", "_law_many"] (toSp K sp__law_names)) {sp__law_take : DSp} (G__law_take : FnOk P w K mg base (L2.CX P w) k T.f__law_take.f T.f__law_take.fd ["_law_bag_here", "_law_many"] (toSp K sp__law_take)) {p : DSp} (hlen : ∀ ds M Q E, p ds M Q E → ds.length = 1)
    (hs : ∀ ds M Q Ed, upSp p ds M Q Ed → q__law_ground sp__law_names sp__law_take (fun x _ M => Ed x M) (retE Q) (startD N__law_ground ds) M) : FnOk P w K mg base (L2.CX P w) (k + 1) T.f__law_ground.f T.f__law_ground.fd ["_law_bag_here"] (toSp K p) := by
  refine (fn_ok (p := upSp p) T.f__law_ground.F sc__law_ground (fun ds M Q E ⟨Q0, E0, h, _⟩ => hlen ds M Q0 E0 h) fun cdv A outer s H E hr tk hp => ?_).imp fun _ _ _ _ h => imp_up h
  have nd := sc__law_ground.nd
  have hu64 := hr.units
  have hu := Nat.lt_of_le_of_lt (Nat.add_le_add_left (show 1 ≤ 64 by decide) _) hu64
  exact ⟨_, q__law_ground sp__law_names sp__law_take, (qss_cons (qs_setN 1 nd (q_ix hu (q_tup (qa_cons q_int (qa_cons q_int (qa_cons q_int (qa_cons q_int (qa_cons q_int (qa_cons q_int qa_nil))))))) (q_call G__law_take hr tk rfl T.f__law_take.g T.f__law_take.F.kp T.f__law_take.b .nil (fun _ => rfl) (qa_cons (qv 0) (qa_cons q_int qa_nil)))))
  (qss_cons (qs_setN 2 nd (q_call G__law_names hr tk rfl T.f__law_names.g T.f__law_names.F.kp T.f__law_names.b .nil (fun _ => rfl) (qa_cons (qv 0) (qa_cons (qv 1) qa_nil))))
  (qss_cons (qs_setN 3 nd (q_ix hu (q_tup (qa_cons q_int (qa_cons q_int (qa_cons q_int qa_nil)))) (q_call G__law_take hr tk rfl T.f__law_take.g T.f__law_take.F.kp T.f__law_take.b .nil (fun _ => rfl) (qa_cons (qv 0) (qa_cons q_int qa_nil)))))
  (qss_cons (qs_setN 4 nd (q_callTy c_tupleX rfl T.n_tuple (by decide +kernel) (qa_cons (q_lcX (own := [("_law_name", 13)]) false rfl nd (qi_any (qv 2)) (blkOk_by (own := [("_law_name", 13)]) (N := N__law_ground) (sc := defScope s__law_ground) (by decide +kernel)) (fun _ _ _ _ _ => ⟨_, (qg_nm 13 nd)⟩) (fun _ _ _ _ _ => ⟨_, qts_nil⟩) (fun _ _ _ _ _ => ⟨_, (q_tup (qa_cons (qv 13) (qa_cons (q_op (o_add false) q_int (q_call G__law_take hr takes0 rfl T.f__law_take.g T.f__law_take.F.kp T.f__law_take.b .nil (fun _ => rfl) (qa_cons (qv 0) (qa_cons q_int qa_nil)))) qa_nil)))⟩)) qa_nil)))
  (qss_cons (qs_setLcX (own := [("_law_k", 6)]) true 5 rfl nd (qi_range2 rfl T.n_range (qa_cons q_int (qa_cons (qv 1) qa_nil))) (blkOk_by (own := [("_law_k", 6)]) (N := N__law_ground) (sc := defScope s__law_ground) (by decide +kernel)) (fun _ _ _ _ _ => ⟨_, (qg_nm 6 nd)⟩) (fun _ _ _ _ _ => ⟨_, (qts_one (qt_cmp o_gt (q_call G__law_take hr takes0 rfl T.f__law_take.g T.f__law_take.F.kp T.f__law_take.b .nil (fun _ => rfl) (qa_cons (qv 0) (qa_cons q_int qa_nil))) q_int))⟩) (fun _ _ _ _ _ => ⟨_, (q_tup (qa_cons (q_call G__law_take hr takes0 rfl T.f__law_take.g T.f__law_take.F.kp T.f__law_take.b .nil (fun _ => rfl) (qa_cons (qv 0) (qa_cons (qv 6) qa_nil))) (qa_cons (qv 6) qa_nil)))⟩))
  (qss_cons (qs_for (ix := [6]) hp rfl (qi_range1 rfl T.n_range (qa_cons (q_op (o_mul false) (q_call G__law_take hr tk rfl T.f__law_take.g T.f__law_take.F.kp T.f__law_take.b .nil (fun _ => rfl) (qa_cons (qv 0) (qa_cons (qv 1) qa_nil))) (q_callTy c_intX rfl T.n_int (by decide +kernel) (qa_cons (q_cmp o_gt (qv 1) q_int) qa_nil))) qa_nil)) (qg_nm 6 nd)
  (qss_cons (qs_asg (ix := [7, 8]) (q_callB (c_sorted false rfl) rfl T.n_sorted (by decide +kernel) (qa_cons (q_lst false (qa_cons (q_call G__law_take hr tk rfl T.f__law_take.g T.f__law_take.F.kp T.f__law_take.b .nil (fun _ => rfl) (qa_cons (qv 0) (qa_cons (qv 1) qa_nil))) (qa_cons (q_call G__law_take hr tk rfl T.f__law_take.g T.f__law_take.F.kp T.f__law_take.b .nil (fun _ => rfl) (qa_cons (qv 0) (qa_cons (qv 1) qa_nil))) qa_nil))) qa_nil)) (qg_unl rfl (qgs_cons (qg_nm 7 nd) (qgs_cons (qg_nm 8 nd) qgs_nil))))
  (qss_one (qs_if (QW.t (qw_and (qt_cmp (o_ne hu64) (qv 7) (qv 8)) (qw_and1 (qt_cmp (o_notInD (room65 hr)) (q_tup (qa_cons (qv 7) (qa_cons (qv 8) qa_nil))) (qv 5)))))
  (qss_one (qs_expr (q_bm PySem.F.plainAttrs_list PySem.F.slot_list_append PySem.F.type_list_append m_append (qv 5) (qa_cons (q_tup (qa_cons (qv 7) (qa_cons (qv 8) qa_nil))) qa_nil))))
  qss_nil))))
  (qss_cons (qs_setN 9 nd (q_lst true qa_nil))
  (qss_cons (qs_for (ix := [7, 8]) hp rfl (qi_any (qv 5)) (qg_tup rfl (qgs_cons (qg_nm 7 nd) (qgs_cons (qg_nm 8 nd) qgs_nil)))
  (qss_cons (qs_setN 10 nd (q_step false (q_tup (qa_cons (q_ix hu (qv 2) (qv 7)) (qa_cons (q_ix hu (qv 2) (qv 8)) qa_nil))) qo_none qo_none (qo_some (q_op o_sub q_int (q_op o_mulI q_int (q_call G__law_take hr tk rfl T.f__law_take.g T.f__law_take.F.kp T.f__law_take.b .nil (fun _ => rfl) (qa_cons (qv 0) (qa_cons q_int qa_nil))))))))
  (qss_one (qs_expr (q_bm PySem.F.plainAttrs_list PySem.F.slot_list_append PySem.F.type_list_append m_append (qv 9) (qa_cons (q_op (o_add false) (qv 10) (q_tup (qa_cons (q_op (o_add false) q_int (q_call G__law_take hr tk rfl T.f__law_take.g T.f__law_take.F.kp T.f__law_take.b .nil (fun _ => rfl) (qa_cons (qv 0) (qa_cons (qv 3) qa_nil)))) (qa_cons (q_op (o_mul false) (q_call G__law_take hr tk rfl T.f__law_take.g T.f__law_take.F.kp T.f__law_take.b .nil (fun _ => rfl) (qa_cons (qv 0) (qa_cons q_int qa_nil))) (q_call G__law_take hr tk rfl T.f__law_take.g T.f__law_take.F.kp T.f__law_take.b .nil (fun _ => rfl) (qa_cons (qv 0) (qa_cons q_int qa_nil)))) qa_nil)))) qa_nil))))))
  (qss_cons (qs_setN 11 nd (q_callTy (c_list true) rfl T.n_list (by decide +kernel) (qa_cons (qv 2) qa_nil)))
  (qss_cons (qs_setLcX (own := [("_law_k", 6)]) false 12 rfl nd (qi_range1 rfl T.n_range (qa_cons (q_call G__law_take hr tk rfl T.f__law_take.g T.f__law_take.F.kp T.f__law_take.b .nil (fun _ => rfl) (qa_cons (qv 0) (qa_cons (q_callB (c_min2 rfl) rfl T.n_min (by decide +kernel) (qa_cons q_int (qa_cons (q_op (o_add false) (qv 1) q_int) qa_nil))) qa_nil))) qa_nil)) (blkOk_by (own := [("_law_k", 6)]) (N := N__law_ground) (sc := defScope s__law_ground) (by decide +kernel)) (fun _ _ _ _ _ => ⟨_, (qg_nm 6 nd)⟩) (fun _ _ _ _ _ => ⟨_, qts_nil⟩) (fun _ _ _ _ _ => ⟨_, (q_bm PySem.F.plainAttrs_list PySem.F.slot_list_pop PySem.F.type_list_pop m_popAt (qv 11) (qa_cons (q_call G__law_take hr takes0 rfl T.f__law_take.g T.f__law_take.F.kp T.f__law_take.b .nil (fun _ => rfl) (qa_cons (qv 0) (qa_cons (q_callB c_len rfl T.n_len (by decide +kernel) (qa_cons (qv 11) qa_nil)) qa_nil))) qa_nil))⟩))
  (qss_one (qs_ret (q_tup (qa_cons (qv 4) (qa_cons (q_callTy c_tupleX rfl T.n_tuple (by decide +kernel) (qa_cons (qv 9) qa_nil)) (qa_cons (q_callTy c_tupleX rfl T.n_tuple (by decide +kernel) (qa_cons (qv 12) qa_nil)) qa_nil)))))))))))))))), hs⟩
def q__law_reach : DTS :=
  (qSeq (qPar 4 5 (qCons (qDisp [((qVar 1), (qC (.int 0)))]) (qCons qDNew qNil)))
  (qSeq (qWhile (qTB (qOp (dDEq true) (qVar 4) (qVar 5)))
  (qSeq (qAsg (qCB dDictC (qCons (qVar 4) qNil)) (gNameD 5))
  (qFor (qiEnum0 (qCons (qOp dIx (qVar 0) (qC (.int 1))) qNil)) (gTupD 2 (gConsD (gNameD 6) (gConsD (gTupD 4 (gConsD (gNameD 7) (gConsD (gNameD 8) (gConsD (gNameD 9) (gConsD (gNameD 10) gNilD))))) gNilD)))
  (qSeq (qAsg (qOp (dAdd false) (qVar 9) (qOp (dMul false) (qVar 10) (qCB dIntX (qCons (qOp (dIn false) (qVar 2) (qTup (qCons (qC (.int 7)) (qCons (qC (.int 8)) (qCons (qC (.int 16)) (qCons (qC (.int 17)) qNil)))))) qNil)))) (gNameD 11))
  (qFor (qiAny (qTup (qCons (qTup (qCons (qVar 7) (qCons (qVar 8) qNil))) (qCons (qTup (qCons (qVar 8) (qCons (qVar 7) qNil))) qNil)))) (gTupD 2 (gConsD (gNameD 12) (gConsD (gNameD 13) gNilD)))
  (qIfS (qAnd (qTB (qOp (dIn true) (qVar 6) (qVar 3))) (qTB (qOp (dIn false) (qVar 12) (qVar 4))))
  (qAsg (qCB dMin2 (qCons (qDGet2 (qVar 4) (qVar 13) (qOp (dAdd false) (qOp dIx (qVar 4) (qVar 12)) (qVar 11))) (qCons (qOp (dAdd false) (qOp dIx (qVar 4) (qVar 12)) (qVar 11)) qNil))) (gSubD (qVar 4) (qVar 13)))
  qNext))))))
  (qFrz 4 (qRet (qVar 4)))))
theorem dv__law_reach {k : Nat} (T : Tx w K mg) {p : DSp} (hlen : ∀ ds M Q E, p ds M Q E → ds.length = 4)
    (hs : ∀ ds M Q Ed, upSp p ds M Q Ed → q__law_reach (fun x _ M => Ed x M) (retE Q) (startD N__law_reach ds) M) : FnOk P w K mg base (L2.CX P w) (k + 1) T.f__law_reach.f T.f__law_reach.fd ["_law_parts", "_law_begin", "_law_clock", "_law_gone_here"] (toSp K p) := by
  refine (fn_ok (p := upSp p) T.f__law_reach.F sc__law_reach (fun ds M Q E ⟨Q0, E0, h, _⟩ => hlen ds M Q0 E0 h) fun cdv A outer s H E hr tk hp => ?_).imp fun _ _ _ _ h => imp_up h
  have nd := sc__law_reach.nd
  have hu64 := hr.units
  have hu := Nat.lt_of_le_of_lt (Nat.add_le_add_left (show 1 ≤ 64 by decide) _) hu64
  exact ⟨_, q__law_reach, (qss_cons (qs_parN 4 5 rfl nd (qa_cons (q_disp (.cons (qv 1) q_int .nil)) (qa_cons q_dnew qa_nil)))
  (qss_cons (qs_while hp (qt_cmp (o_dne hu64) (qv 4) (qv 5))
  (qss_cons (qs_setN 5 nd (q_callTy c_dictC rfl T.n_dict (by decide +kernel) (qa_cons (qv 4) qa_nil)))
  (qss_one (qs_for (ix := [6, 7, 8, 9, 10]) hp rfl (qi_enum0 rfl T.n_enumerate (qa_cons (q_ix hu (qv 0) q_int) qa_nil)) (qg_tup rfl (qgs_cons (qg_nm 6 nd) (qgs_cons (qg_tup rfl (qgs_cons (qg_nm 7 nd) (qgs_cons (qg_nm 8 nd) (qgs_cons (qg_nm 9 nd) (qgs_cons (qg_nm 10 nd) qgs_nil))))) qgs_nil)))
  (qss_cons (qs_setN 11 nd (q_op (o_add false) (qv 9) (q_op (o_mul false) (qv 10) (q_callTy c_intX rfl T.n_int (by decide +kernel) (qa_cons (q_cmp (o_in hu) (qv 2) (q_tup (qa_cons q_int (qa_cons q_int (qa_cons q_int (qa_cons q_int qa_nil)))))) qa_nil)))))
  (qss_one (qs_for (ix := [12, 13]) hp rfl (qi_any (q_tup (qa_cons (q_tup (qa_cons (qv 7) (qa_cons (qv 8) qa_nil))) (qa_cons (q_tup (qa_cons (qv 8) (qa_cons (qv 7) qa_nil))) qa_nil)))) (qg_tup rfl (qgs_cons (qg_nm 12 nd) (qgs_cons (qg_nm 13 nd) qgs_nil)))
  (qss_one (qs_if (QW.t (qw_and (qt_cmp (o_notin hu) (qv 6) (qv 3)) (qw_and1 (qt_cmp (o_in hu) (qv 12) (qv 4)))))
  (qss_one (qs_asg (ix := []) (q_callB (c_min2 rfl) rfl T.n_min (by decide +kernel) (qa_cons (q_dget2 hu (qv 4) (qv 13) (q_op (o_add false) (q_ix hu (qv 4) (qv 12)) (qv 11)) ⟨rfl, rfl, rfl, rfl⟩) (qa_cons (q_op (o_add false) (q_ix hu (qv 4) (qv 12)) (qv 11)) qa_nil))) (qg_sub hu (qv 4) (qv 13))))
  qss_nil)))))))))
  (qss_one (qs_frz 4 (qs_ret (qv 4)))))), hs⟩
def q__law_gone (sp__law_take : DSp) : DTS :=
  (qRet (qLc false (qiRng1 (qCons (qOp (dMul false) (qCall sp__law_take [] (qCons (qVar 0) (qCons (qC (.int 4)) qNil))) (qCB dIntX (qCons (qOp (dEq true) (qOp dIx (qVar 1) (qC (.int 1))) (qTup qNil)) qNil))) qNil)) (gNameD 2) qYes (qCall sp__law_take [] (qCons (qVar 0) (qCons (qCB dLen (qCons (qOp dIx (qVar 1) (qC (.int 1))) qNil)) qNil))) [2]))
theorem dv__law_gone {k : Nat} (T : Tx w K mg) {sp__law_take : DSp} (G__law_take : FnOk P w K mg base (L2.CX P w) k T.f__law_take.f T.f__law_take.fd ["_law_bag_here", "_law_many"] (toSp K sp__law_take)) {p : DSp} (hlen : ∀ ds M Q E, p ds M Q E → ds.length = 2)
    (hs : ∀ ds M Q Ed, upSp p ds M Q Ed → q__law_gone sp__law_take (fun x _ M => Ed x M) (retE Q) (startD N__law_gone ds) M) : FnOk P w K mg base (L2.CX P w) (k + 1) T.f__law_gone.f T.f__law_gone.fd ["_law_bag_here", "_law_parts"] (toSp K p) := by
  refine (fn_ok (p := upSp p) T.f__law_gone.F sc__law_gone (fun ds M Q E ⟨Q0, E0, h, _⟩ => hlen ds M Q0 E0 h) fun cdv A outer s H E hr tk hp => ?_).imp fun _ _ _ _ h => imp_up h
  have nd := sc__law_gone.nd
  have hu64 := hr.units
  have hu := Nat.lt_of_le_of_lt (Nat.add_le_add_left (show 1 ≤ 64 by decide) _) hu64
  exact ⟨_, q__law_gone sp__law_take, (qss_one (qs_ret (q_lcX (own := [("_law_k", 2)]) false rfl nd (qi_range1 rfl T.n_range (qa_cons (q_op (o_mul false) (q_call G__law_take hr tk rfl T.f__law_take.g T.f__law_take.F.kp T.f__law_take.b .nil (fun _ => rfl) (qa_cons (qv 0) (qa_cons q_int qa_nil))) (q_callTy c_intX rfl T.n_int (by decide +kernel) (qa_cons (q_cmp (o_ne hu64) (q_ix hu (qv 1) q_int) (q_tup qa_nil)) qa_nil))) qa_nil)) (blkOk_by (own := [("_law_k", 2)]) (N := N__law_gone) (sc := defScope s__law_gone) (by decide +kernel)) (fun _ _ _ _ _ => ⟨_, (qg_nm 2 nd)⟩) (fun _ _ _ _ _ => ⟨_, qts_nil⟩) (fun _ _ _ _ _ => ⟨_, (q_call G__law_take hr takes0 rfl T.f__law_take.g T.f__law_take.F.kp T.f__law_take.b .nil (fun _ => rfl) (qa_cons (qv 0) (qa_cons (q_callB c_len rfl T.n_len (by decide +kernel) (qa_cons (q_ix hu (qv 1) q_int) qa_nil)) qa_nil)))⟩)))), hs⟩
def q__law_asked (c_Ground : Addr) (sp_Ground_minutes : DSp) : DTS :=
  (qSeq (qAsg (qMeth c_Ground F_Ground sp_Ground_minutes [] (qVar 0) (qCons (qVar 1) (qCons (qVar 2) (qCons (qVar 3) (qCons (qVar 4) qNil))))) (gNameD 5))
  (qSeq (qAsg (qMethKw c_Ground F_Ground 1 4 sp_Ground_minutes [0, 3, 1, 4, 2] (qVar 0) qNil (qCons (qVar 2) (qCons (qVar 4) (qCons (qVar 1) (qCons (qVar 3) qNil))))) (gNameD 6))
  (qRet (qLst false (qCons (qVar 5) (qCons (qVar 6) qNil))))))
theorem dv__law_asked {k : Nat} (T : Tx w K mg) {sp_Ground_minutes : DSp} (G_Ground_minutes : FnOk P w K mg base (L2.CX P w) k T.f_Ground_minutes.f T.f_Ground_minutes.fd ["self", "start", "goal", "hour", "shut"] (toSp K sp_Ground_minutes)) {p : DSp} (hlen : ∀ ds M Q E, p ds M Q E → ds.length = 5)
    (hs : ∀ ds M Q Ed, upSp p ds M Q Ed → q__law_asked T.c_Ground.C sp_Ground_minutes (fun x _ M => Ed x M) (retE Q) (startD N__law_asked ds) M) : FnOk P w K mg base (L2.CX P w) (k + 1) T.f__law_asked.f T.f__law_asked.fd ["_law_ground_here", "_law_begin", "_law_ending", "_law_clock", "_law_gone_here"] (toSp K p) := by
  refine (fn_ok (p := upSp p) T.f__law_asked.F sc__law_asked (fun ds M Q E ⟨Q0, E0, h, _⟩ => hlen ds M Q0 E0 h) fun cdv A outer s H E hr tk hp => ?_).imp fun _ _ _ _ h => imp_up h
  have nd := sc__law_asked.nd
  have hu64 := hr.units
  have hu := Nat.lt_of_le_of_lt (Nat.add_le_add_left (show 1 ≤ 64 by decide) _) hu64
  exact ⟨_, q__law_asked T.c_Ground.C sp_Ground_minutes, (qss_cons (qs_setN 5 nd (q_methD (dds := []) (fs := F_Ground) T.c_Ground.cl T.f_Ground_minutes.m G_Ground_minutes hr tk T.b_Ground_minutes_5 (fun _ => rfl) (qv 0) (qa_cons (qv 1) (qa_cons (qv 2) (qa_cons (qv 3) (qa_cons (qv 4) qa_nil)))) (by decide +kernel)))
  (qss_cons (qs_setN 6 nd (q_methK0 (ks := ["goal", "shut", "start", "hour"]) (idx := [0, 3, 1, 4, 2]) (fs := F_Ground) T.c_Ground.cl T.f_Ground_minutes.m G_Ground_minutes hr tk T.kw_Ground_minutes_1_goal_shut_start_hour (qv 0) (qk_cons (qv 2) (qk_cons (qv 4) (qk_cons (qv 1) (qk_cons (qv 3) qk_nil)))) (by decide +kernel)))
  (qss_one (qs_ret (q_lst false (qa_cons (qv 5) (qa_cons (qv 6) qa_nil))))))), hs⟩
def q__law_right (sp__law_asked : DSp) (sp__law_reach : DSp) : DTS :=
  (qSeq (qAsg (qCall sp__law_reach [] (qCons (qVar 1) (qCons (qVar 2) (qCons (qVar 3) (qCons (qVar 4) qNil))))) (gNameD 5))
  (qSeq (qAsg (qCB (dList false) (qCons (qVar 4) qNil)) (gNameD 6))
  (qSeq (qFor (qiAny (qOp dIx (qVar 1) (qC (.int 0)))) (gTupD 2 (gConsD (gNameD 7) (gConsD (gNameD 8) gNilD)))
  (qSeq (qAsg (qDGet2 (qVar 5) (qVar 7) (qC .non)) (gNameD 9))
  (qFor (qiAny (qCall sp__law_asked [] (qCons (qVar 0) (qCons (qVar 2) (qCons (qVar 7) (qCons (qVar 3) (qCons (qVar 6) qNil))))))) (gNameD 10)
  (qIfS (qOr (qTB (qCB dIsi (qCons (qVar 10) (qCons (qC (.ty "bool")) qNil)))) (qOr (qTB (qOp (dEq true) (qVar 10) (qVar 9))) (qTB (qOp (dEq true) (qVar 6) (qVar 4)))))
  (qRet (qC (.bl false)))
  qNext))))
  (qRet (qC (.bl true))))))
theorem dv__law_right {k : Nat} (T : Tx w K mg) {sp__law_asked : DSp} (G__law_asked : FnOk P w K mg base (L2.CX P w) k T.f__law_asked.f T.f__law_asked.fd ["_law_ground_here", "_law_begin", "_law_ending", "_law_clock", "_law_gone_here"] (toSp K sp__law_asked)) {sp__law_reach : DSp} (G__law_reach : FnOk P w K mg base (L2.CX P w) k T.f__law_reach.f T.f__law_reach.fd ["_law_parts", "_law_begin", "_law_clock", "_law_gone_here"] (toSp K sp__law_reach)) {p : DSp} (hlen : ∀ ds M Q E, p ds M Q E → ds.length = 5)
    (hs : ∀ ds M Q Ed, upSp p ds M Q Ed → q__law_right sp__law_asked sp__law_reach (fun x _ M => Ed x M) (retE Q) (startD N__law_right ds) M) : FnOk P w K mg base (L2.CX P w) (k + 1) T.f__law_right.f T.f__law_right.fd ["_law_ground_here", "_law_parts", "_law_begin", "_law_clock", "_law_gone_here"] (toSp K p) := by
  refine (fn_ok (p := upSp p) T.f__law_right.F sc__law_right (fun ds M Q E ⟨Q0, E0, h, _⟩ => hlen ds M Q0 E0 h) fun cdv A outer s H E hr tk hp => ?_).imp fun _ _ _ _ h => imp_up h
  have nd := sc__law_right.nd
  have hu64 := hr.units
  have hu := Nat.lt_of_le_of_lt (Nat.add_le_add_left (show 1 ≤ 64 by decide) _) hu64
  exact ⟨_, q__law_right sp__law_asked sp__law_reach, (qss_cons (qs_setN 5 nd (q_call G__law_reach hr tk rfl T.f__law_reach.g T.f__law_reach.F.kp T.f__law_reach.b .nil (fun _ => rfl) (qa_cons (qv 1) (qa_cons (qv 2) (qa_cons (qv 3) (qa_cons (qv 4) qa_nil))))))
  (qss_cons (qs_setN 6 nd (q_callTy (c_list false) rfl T.n_list (by decide +kernel) (qa_cons (qv 4) qa_nil)))
  (qss_cons (qs_for (ix := [7, 8]) hp rfl (qi_any (q_ix hu (qv 1) q_int)) (qg_tup rfl (qgs_cons (qg_nm 7 nd) (qgs_cons (qg_nm 8 nd) qgs_nil)))
  (qss_cons (qs_setN 9 nd (q_dget2 hu (qv 5) (qv 7) q_non ⟨rfl, rfl, rfl, rfl⟩))
  (qss_one (qs_for (ix := [10]) hp rfl (qi_any (q_call G__law_asked hr tk rfl T.f__law_asked.g T.f__law_asked.F.kp T.f__law_asked.b .nil (fun _ => rfl) (qa_cons (qv 0) (qa_cons (qv 2) (qa_cons (qv 7) (qa_cons (qv 3) (qa_cons (qv 6) qa_nil))))))) (qg_nm 10 nd)
  (qss_one (qs_if (QW.t (qw_or (qt_val (q_callB c_isi rfl T.n_isinstance (by decide +kernel) (qa_cons (qv 10) (qa_cons (qe_c (pe_bltn (v := .ty "bool") rfl T.n_bool (by decide +kernel) rfl) fun _ => rfl) qa_nil)))) (qw_or (qt_cmp (o_ne hu64) (qv 10) (qv 9)) (qw_or1 (qt_cmp (o_ne hu64) (qv 6) (qv 4))))))
  (qss_one (qs_ret q_bl))
  qss_nil))))))
  (qss_one (qs_ret q_bl))))), hs⟩
def q__law_bare (c_Ground : Addr) (sp_Ground_minutes : DSp) (sp__law_reach : DSp) : DTS :=
  (qSeq (qAsg (qLst false (qCons (qTup (qCons (qC (.int 0)) (qCons (qLst false qNil) qNil))) (qCons (qTup (qCons (qVar 3) (qCons (qLst false qNil) qNil))) (qCons (qTup (qCons (qC (.int 0)) (qCons (qVar 4) qNil))) qNil)))) (gNameD 5))
  (qSeq (qFor (qiAny (qOp dIx (qVar 1) (qC (.int 0)))) (gTupD 2 (gConsD (gNameD 6) (gConsD (gNameD 7) gNilD)))
  (qSeq (qAsg (qLst true (qCons (qMeth c_Ground F_Ground sp_Ground_minutes [(.int 0), .non] (qVar 0) (qCons (qVar 2) (qCons (qVar 6) qNil))) (qCons (qMeth c_Ground F_Ground sp_Ground_minutes [.non] (qVar 0) (qCons (qVar 2) (qCons (qVar 6) (qCons (qVar 3) qNil)))) qNil))) (gNameD 8))
  (qSeq (qDrop (qBM "list" mApp (qVar 8) (qCons (qMethKwD c_Ground F_Ground 3 1 sp_Ground_minutes [(.int 0), .non] [0, 1, 2, 4, 3] (qVar 0) (qCons (qVar 2) (qCons (qVar 6) qNil)) (qCons (qVar 4) qNil)) qNil)))
  (qIfS (qTB (qOp (dEq true) (qVar 8) (qLc false (qiAny (qVar 5)) (gTupD 2 (gConsD (gNameD 9) (gConsD (gNameD 10) gNilD))) qYes (qDGet2 (qCall sp__law_reach [] (qCons (qVar 1) (qCons (qVar 2) (qCons (qVar 9) (qCons (qVar 10) qNil))))) (qVar 6) (qC .non)) [9, 10])))
  (qRet (qC (.bl false)))
  qNext))))
  (qRet (qC (.bl true)))))
theorem dv__law_bare {k : Nat} (T : Tx w K mg) {sp_Ground_minutes : DSp} (G_Ground_minutes : FnOk P w K mg base (L2.CX P w) k T.f_Ground_minutes.f T.f_Ground_minutes.fd ["self", "start", "goal", "hour", "shut"] (toSp K sp_Ground_minutes)) {sp__law_reach : DSp} (G__law_reach : FnOk P w K mg base (L2.CX P w) k T.f__law_reach.f T.f__law_reach.fd ["_law_parts", "_law_begin", "_law_clock", "_law_gone_here"] (toSp K sp__law_reach)) {p : DSp} (hlen : ∀ ds M Q E, p ds M Q E → ds.length = 5)
    (hs : ∀ ds M Q Ed, upSp p ds M Q Ed → q__law_bare T.c_Ground.C sp_Ground_minutes sp__law_reach (fun x _ M => Ed x M) (retE Q) (startD N__law_bare ds) M) : FnOk P w K mg base (L2.CX P w) (k + 1) T.f__law_bare.f T.f__law_bare.fd ["_law_ground_here", "_law_parts", "_law_begin", "_law_clock", "_law_gone_here"] (toSp K p) := by
  refine (fn_ok (p := upSp p) T.f__law_bare.F sc__law_bare (fun ds M Q E ⟨Q0, E0, h, _⟩ => hlen ds M Q0 E0 h) fun cdv A outer s H E hr tk hp => ?_).imp fun _ _ _ _ h => imp_up h
  have nd := sc__law_bare.nd
  have hu64 := hr.units
  have hu := Nat.lt_of_le_of_lt (Nat.add_le_add_left (show 1 ≤ 64 by decide) _) hu64
  exact ⟨_, q__law_bare T.c_Ground.C sp_Ground_minutes sp__law_reach, (qss_cons (qs_setN 5 nd (q_lst false (qa_cons (q_tup (qa_cons q_int (qa_cons (q_lst false qa_nil) qa_nil))) (qa_cons (q_tup (qa_cons (qv 3) (qa_cons (q_lst false qa_nil) qa_nil))) (qa_cons (q_tup (qa_cons q_int (qa_cons (qv 4) qa_nil))) qa_nil)))))
  (qss_cons (qs_for (ix := [6, 7]) hp rfl (qi_any (q_ix hu (qv 1) q_int)) (qg_tup rfl (qgs_cons (qg_nm 6 nd) (qgs_cons (qg_nm 7 nd) qgs_nil)))
  (qss_cons (qs_setN 8 nd (q_lst true (qa_cons (q_methD (dds := [(.int 0), .non]) (fs := F_Ground) T.c_Ground.cl T.f_Ground_minutes.m G_Ground_minutes hr tk T.b_Ground_minutes_3 (fun _ => ⟨_, _, rfl, rfl, ⟨_, _, rfl, rfl, rfl⟩⟩) (qv 0) (qa_cons (qv 2) (qa_cons (qv 6) qa_nil)) (by decide +kernel)) (qa_cons (q_methD (dds := [.non]) (fs := F_Ground) T.c_Ground.cl T.f_Ground_minutes.m G_Ground_minutes hr tk T.b_Ground_minutes_4 (fun _ => ⟨_, _, rfl, rfl, rfl⟩) (qv 0) (qa_cons (qv 2) (qa_cons (qv 6) (qa_cons (qv 3) qa_nil))) (by decide +kernel)) qa_nil))))
  (qss_cons (qs_expr (q_bm PySem.F.plainAttrs_list PySem.F.slot_list_append PySem.F.type_list_append m_append (qv 8) (qa_cons (q_methKD (ks := ["shut"]) (n := 3) (idx := [0, 1, 2, 4, 3]) (fs := F_Ground) (dds := [(.int 0), .non]) T.c_Ground.cl T.f_Ground_minutes.m G_Ground_minutes hr tk T.kd_Ground_minutes_3_shut (fun _ => ⟨_, _, rfl, rfl, ⟨_, _, rfl, rfl, rfl⟩⟩) (qv 0) (qa_cons (qv 2) (qa_cons (qv 6) qa_nil)) (qk_cons (qv 4) qk_nil) (by decide +kernel)) qa_nil)))
  (qss_one (qs_if (qt_cmp (o_ne hu64) (qv 8) (q_lcX (own := [("_law_one", 9), ("_law_some", 10)]) false rfl nd (qi_any (qv 5)) (blkOk_by (own := [("_law_one", 9), ("_law_some", 10)]) (N := N__law_bare) (sc := defScope s__law_bare) (by decide +kernel)) (fun _ _ _ _ _ => ⟨_, (qg_tup rfl (qgs_cons (qg_nm 9 nd) (qgs_cons (qg_nm 10 nd) qgs_nil)))⟩) (fun _ _ _ _ _ => ⟨_, qts_nil⟩) (fun _ _ _ _ _ => ⟨_, (q_dget2 hu (q_call G__law_reach hr takes0 rfl T.f__law_reach.g T.f__law_reach.F.kp T.f__law_reach.b .nil (fun _ => rfl) (qa_cons (qv 1) (qa_cons (qv 2) (qa_cons (qv 9) (qa_cons (qv 10) qa_nil))))) (qv 6) q_non ⟨rfl, rfl, rfl, rfl⟩)⟩)))
  (qss_one (qs_ret q_bl))
  qss_nil)))))
  (qss_one (qs_ret q_bl)))), hs⟩
def q_law (c_Ground : Addr) (sp_Ground___init__ : DSp) (sp__law_bag : DSp) (sp__law_bare : DSp) (sp__law_gone : DSp) (sp__law_ground : DSp) (sp__law_right : DSp) (sp__law_take : DSp) : DTS :=
  (qSeq (qFor (qiRng1 (qCons (qCB dMax2 (qCons (qC (.int 2)) (qCons (qCB dMin2 (qCons (qC (.int 5)) (qCons (qCB dLen (qCons (qVar 0) qNil)) qNil))) qNil))) qNil)) (gNameD 1)
  (qSeq (qAsg (qCall sp__law_bag [] (qCons (qVar 0) (qCons (qVar 1) qNil))) (gNameD 2))
  (qSeq (qAsg (qCall sp__law_ground [] (qCons (qVar 2) qNil)) (gNameD 3))
  (qSeq (qAsg (qFrzE (qMake c_Ground sp_Ground___init__ [] (qCons (qOp dIx (qVar 3) (qC (.int 0))) (qCons (qOp dIx (qVar 3) (qC (.int 1))) (qCons (qOp dIx (qVar 3) (qC (.int 2))) qNil))))) (gNameD 4))
  (qSeq (qFor (qiRng1 (qCons (qOp (dInt0 fun i j => i - j) (qC (.int 3)) (qOp (dInt CMul fun i j => i * j) (qC (.int 2)) (qCB dIntX (qCons (qOp (dCmpI fun i j => decide (j < i)) (qCB dLen (qCons (qOp dIx (qVar 3) (qC (.int 0))) qNil)) (qC (.int 16))) qNil)))) qNil)) (gNameD 5)
  (qSeq (qAsg (qOp dIx (qOp dIx (qOp dIx (qVar 3) (qC (.int 0))) (qCall sp__law_take [] (qCons (qVar 2) (qCons (qCB dLen (qCons (qOp dIx (qVar 3) (qC (.int 0))) qNil)) qNil)))) (qC (.int 0))) (gNameD 6))
  (qSeq (qAsg (qOp dIx (qTup (qCons (qC (.int 7)) (qCons (qC (.int 8)) (qCons (qC (.int 16)) (qCons (qC (.int 17)) (qCons (qC (.int 0)) (qCons (qC (.int 23)) (qCons (qC (.int 6)) (qCons (qC (.int 9)) (qCons (qC (.int 15)) (qCons (qC (.int 18)) (qCons (qC (.int 12)) qNil)))))))))))) (qCall sp__law_take [] (qCons (qVar 2) (qCons (qC (.int 11)) qNil)))) (gNameD 7))
  (qSeq (qAsg (qCall sp__law_gone [] (qCons (qVar 2) (qCons (qVar 3) qNil))) (gNameD 8))
  (qIfS (qNot (qTB (qCall sp__law_right [] (qCons (qVar 4) (qCons (qVar 3) (qCons (qVar 6) (qCons (qVar 7) (qCons (qVar 8) qNil))))))))
  (qRet (qC (.bl false)))
  qNext)))))
  (qIfS (qAnd (qTB (qOp (dCmpI fun i j => decide (i < j)) (qCB dLen (qCons (qOp dIx (qVar 3) (qC (.int 0))) qNil)) (qC (.int 10)))) (qNot (qTB (qCall sp__law_bare [] (qCons (qVar 4) (qCons (qVar 3) (qCons (qVar 6) (qCons (qVar 7) (qCons (qVar 8) qNil)))))))))
  (qRet (qC (.bl false)))
  qNext))))))
  (qRet (qC (.bl true))))
theorem dv_law {k : Nat} (T : Tx w K mg) {ki_Ground : Nat} (hi_Ground : ki_Ground + 1 ≤ k) {sp_Ground___init__ : DSp} (G_Ground___init__ : FnOk P w K mg base (L2.CX P w) ki_Ground T.f_Ground___init__.f T.f_Ground___init__.fd ["self", "places", "roads", "stations"] (toSp K sp_Ground___init__)) {sp__law_bag : DSp} (G__law_bag : FnOk P w K mg base (L2.CX P w) k T.f__law_bag.f T.f__law_bag.fd ["_law_script", "_law_at"] (toSp K sp__law_bag)) {sp__law_bare : DSp} (G__law_bare : FnOk P w K mg base (L2.CX P w) k T.f__law_bare.f T.f__law_bare.fd ["_law_ground_here", "_law_parts", "_law_begin", "_law_clock", "_law_gone_here"] (toSp K sp__law_bare)) {sp__law_gone : DSp} (G__law_gone : FnOk P w K mg base (L2.CX P w) k T.f__law_gone.f T.f__law_gone.fd ["_law_bag_here", "_law_parts"] (toSp K sp__law_gone)) {sp__law_ground : DSp} (G__law_ground : FnOk P w K mg base (L2.CX P w) k T.f__law_ground.f T.f__law_ground.fd ["_law_bag_here"] (toSp K sp__law_ground)) {sp__law_right : DSp} (G__law_right : FnOk P w K mg base (L2.CX P w) k T.f__law_right.f T.f__law_right.fd ["_law_ground_here", "_law_parts", "_law_begin", "_law_clock", "_law_gone_here"] (toSp K sp__law_right)) {sp__law_take : DSp} (G__law_take : FnOk P w K mg base (L2.CX P w) k T.f__law_take.f T.f__law_take.fd ["_law_bag_here", "_law_many"] (toSp K sp__law_take)) {p : DSp} (hlen : ∀ ds M Q E, p ds M Q E → ds.length = 1)
    (hs : ∀ ds M Q Ed, upSp p ds M Q Ed → q_law T.c_Ground.C sp_Ground___init__ sp__law_bag sp__law_bare sp__law_gone sp__law_ground sp__law_right sp__law_take (fun x _ M => Ed x M) (retE Q) (startD N_law ds) M) : FnOk P w K mg base (L2.CX P w) (k + 1) T.f_law.f T.f_law.fd ["_law_script"] (toSp K p) := by
  refine (fn_ok (p := upSp p) T.f_law.F sc_law (fun ds M Q E ⟨Q0, E0, h, _⟩ => hlen ds M Q0 E0 h) fun cdv A outer s H E hr tk hp => ?_).imp fun _ _ _ _ h => imp_up h
  have nd := sc_law.nd
  have hu64 := hr.units
  have hu := Nat.lt_of_le_of_lt (Nat.add_le_add_left (show 1 ≤ 64 by decide) _) hu64
  exact ⟨_, q_law T.c_Ground.C sp_Ground___init__ sp__law_bag sp__law_bare sp__law_gone sp__law_ground sp__law_right sp__law_take, (qss_cons (qs_for (ix := [1]) hp rfl (qi_range1 rfl T.n_range (qa_cons (q_callB (c_max2 rfl) rfl T.n_max (by decide +kernel) (qa_cons q_int (qa_cons (q_callB (c_min2 rfl) rfl T.n_min (by decide +kernel) (qa_cons q_int (qa_cons (q_callB c_len rfl T.n_len (by decide +kernel) (qa_cons (qv 0) qa_nil)) qa_nil))) qa_nil))) qa_nil)) (qg_nm 1 nd)
  (qss_cons (qs_setN 2 nd (q_call G__law_bag hr tk rfl T.f__law_bag.g T.f__law_bag.F.kp T.f__law_bag.b .nil (fun _ => rfl) (qa_cons (qv 0) (qa_cons (qv 1) qa_nil))))
  (qss_cons (qs_setN 3 nd (q_call G__law_ground hr tk rfl T.f__law_ground.g T.f__law_ground.F.kp T.f__law_ground.b .nil (fun _ => rfl) (qa_cons (qv 2) qa_nil)))
  (qss_cons (qs_setN 4 nd (q_frzE (q_make (dds := []) (T.mk_Ground) G_Ground___init__ (hr.mono hi_Ground) tk rfl T.c_Ground.g T.f_Ground___init__.b .nil (fun _ => rfl) (qa_cons (q_ix hu (qv 3) q_int) (qa_cons (q_ix hu (qv 3) q_int) (qa_cons (q_ix hu (qv 3) q_int) qa_nil))))))
  (qss_cons (qs_for (ix := [5]) hp rfl (qi_range1 rfl T.n_range (qa_cons (q_op o_sub q_int (q_op o_mulI q_int (q_callTy c_intX rfl T.n_int (by decide +kernel) (qa_cons (q_cmp o_gt (q_callB c_len rfl T.n_len (by decide +kernel) (qa_cons (q_ix hu (qv 3) q_int) qa_nil)) q_int) qa_nil)))) qa_nil)) (qg_nm 5 nd)
  (qss_cons (qs_setN 6 nd (q_ix hu (q_ix hu (q_ix hu (qv 3) q_int) (q_call G__law_take hr tk rfl T.f__law_take.g T.f__law_take.F.kp T.f__law_take.b .nil (fun _ => rfl) (qa_cons (qv 2) (qa_cons (q_callB c_len rfl T.n_len (by decide +kernel) (qa_cons (q_ix hu (qv 3) q_int) qa_nil)) qa_nil)))) q_int))
  (qss_cons (qs_setN 7 nd (q_ix hu (q_tup (qa_cons q_int (qa_cons q_int (qa_cons q_int (qa_cons q_int (qa_cons q_int (qa_cons q_int (qa_cons q_int (qa_cons q_int (qa_cons q_int (qa_cons q_int (qa_cons q_int qa_nil)))))))))))) (q_call G__law_take hr tk rfl T.f__law_take.g T.f__law_take.F.kp T.f__law_take.b .nil (fun _ => rfl) (qa_cons (qv 2) (qa_cons q_int qa_nil)))))
  (qss_cons (qs_setN 8 nd (q_call G__law_gone hr tk rfl T.f__law_gone.g T.f__law_gone.F.kp T.f__law_gone.b .nil (fun _ => rfl) (qa_cons (qv 2) (qa_cons (qv 3) qa_nil))))
  (qss_one (qs_if (qt_not (qt_val (q_call G__law_right hr tk rfl T.f__law_right.g T.f__law_right.F.kp T.f__law_right.b .nil (fun _ => rfl) (qa_cons (qv 4) (qa_cons (qv 3) (qa_cons (qv 6) (qa_cons (qv 7) (qa_cons (qv 8) qa_nil))))))))
  (qss_one (qs_ret q_bl))
  qss_nil))))))
  (qss_one (qs_if (QW.t (qw_and (qt_cmp o_lt (q_callB c_len rfl T.n_len (by decide +kernel) (qa_cons (q_ix hu (qv 3) q_int) qa_nil)) q_int) (qw_and1 (qt_not (qt_val (q_call G__law_bare hr tk rfl T.f__law_bare.g T.f__law_bare.F.kp T.f__law_bare.b .nil (fun _ => rfl) (qa_cons (qv 4) (qa_cons (qv 3) (qa_cons (qv 6) (qa_cons (qv 7) (qa_cons (qv 8) qa_nil)))))))))))
  (qss_one (qs_ret q_bl))
  qss_nil)))))))
  (qss_one (qs_ret q_bl))), hs⟩
end
def tabs {w : World} {K : PySem.W.Frag} {mg : Str → Option Value} (T : Tx w K mg) : List LRec := [⟨"Ground.reach", T.f_Ground_reach.f, T.f_Ground_reach.fd, T.lc_Ground_reach.c, T.lc_Ground_reach.P, ("Ground.reach.<locals>.<lambda>" : Str)⟩]
theorem all_mk {qP : Program} {ts : List Addr} {l : PySem.W.OpenLaw} {w : World} {K : PySem.W.Frag} {h : Heap} {mg : Str → Option Value} {fa f0 f1 f2 f3 f4 f5 f6 f7 f8 f9 f10 f11 f12 f13 f14 f15 f16 f17 f18 f19 f20 f21 f22 f23 f24 : Addr} (X : K.In h) (G : h.Ns mainGlobals mg) (hfa : mg "law" = some (.ref fa))
    {od0 an0 od1 an1 od2 an2 od3 an3 od4 an4 od5 an5 od6 an6 od7 an7 od8 an8 od9 an9 od10 an10 od11 an11 od12 an12 od13 an13 od14 an14 od15 an15 od16 an16 od17 an17 od18 an18 od19 an19 od20 an20 od21 an21 od22 an22 od23 an23 od24 an24 : Option Addr} {sl0 sl1 sl2 sl3 sl4 sl5 sl6 sl7 sl8 sl9 sl10 sl11 sl12 sl13 sl14 sl15 sl16 sl17 sl18 sl19 sl20 sl21 sl22 sl23 sl24 : Array (Option Value)} {oc0 kV0 dc0 pm0 cd0 ct0 oc1 kV1 dc1 pm1 cd1 ct1 oc2 kV2 dc2 pm2 cd2 ct2 oc3 kV3 dc3 pm3 cd3 ct3 oc4 kV4 dc4 pm4 cd4 ct4 oc5 kV5 dc5 pm5 cd5 ct5 oc6 kV6 dc6 pm6 cd6 ct6 oc7 kV7 dc7 pm7 cd7 ct7 oc8 kV8 dc8 pm8 cd8 ct8 oc9 kV9 dc9 pm9 cd9 ct9 oc10 kV10 dc10 pm10 cd10 ct10 oc11 kV11 dc11 pm11 cd11 ct11 oc12 kV12 dc12 pm12 cd12 ct12 oc13 kV13 dc13 pm13 ct13 oc14 kV14 dc14 pm14 cd14 ct14 oc15 kV15 dc15 pm15 cd15 ct15 oc16 kV16 dc16 pm16 cd16 ct16 oc17 kV17 dc17 pm17 cd17 ct17 oc18 kV18 dc18 pm18 cd18 ct18 oc19 kV19 dc19 pm19 cd19 ct19 oc20 kV20 dc20 pm20 cd20 ct20 oc21 kV21 dc21 pm21 cd21 ct21 oc22 kV22 dc22 pm22 cd22 ct22 oc23 kV23 dc23 pm23 cd23 ct23 oc24 kV24 dc24 pm24 cd24 ct24 : Value}
    {oC0 : Addr} (oa0 : PySem.W.nsIn K mainGlobals "Ground" = some (some (.ref oC0)))
    (opg0 : PySem.W.plainGet K oC0 Str.empty = true)
    (ohd0 : PySem.W.hasDictIn K oC0 = true)
    (opo0 : PySem.W.plainOver K oC0 = true)
    (osa0 : PySem.W.findIn K (.ref oC0) "__setattr__" = some (some (.builtin "object.__setattr__")))
    (on0_0 : PySem.W.findIn K (.ref oC0) "risks" = some none)
    (on1_0 : PySem.W.findIn K (.ref oC0) "places" = some none)
    (on2_0 : PySem.W.findIn K (.ref oC0) "roads" = some none)
    (on3_0 : PySem.W.findIn K (.ref oC0) "stations" = some none)
    (omk0 : PySem.W.makesIn K oC0 = true)
    (okc0 : PySem.W.keepIn K (.ref oC0) = true)
    (a0 : PySem.W.nsIn K mainGlobals "is_whole" = some (some (.ref f0)))
    (l0 : K.lookup f0 = some ⟨oc0, od0, .func (PySem.W.fnOf "is_whole" "is_whole" (defArgs s_is_whole) (defBody s_is_whole) (defScope s_is_whole) .none kV0 dc0 pm0 an0 cd0 ct0), sl0⟩) (c0 : PySem.W.codeIn K cd0 "is_whole" = true) (k0 : PySem.W.keepIn K (.ref f0) = true)
    (a1 : PySem.W.nsIn K mainGlobals "is_name" = some (some (.ref f1)))
    (l1 : K.lookup f1 = some ⟨oc1, od1, .func (PySem.W.fnOf "is_name" "is_name" (defArgs s_is_name) (defBody s_is_name) (defScope s_is_name) .none kV1 dc1 pm1 an1 cd1 ct1), sl1⟩) (c1 : PySem.W.codeIn K cd1 "is_name" = true) (k1 : PySem.W.keepIn K (.ref f1) = true)
    (a2 : PySem.W.nsIn K mainGlobals "is_one_of" = some (some (.ref f2)))
    (l2 : K.lookup f2 = some ⟨oc2, od2, .func (PySem.W.fnOf "is_one_of" "is_one_of" (defArgs s_is_one_of) (defBody s_is_one_of) (defScope s_is_one_of) .none kV2 dc2 pm2 an2 cd2 ct2), sl2⟩) (c2 : PySem.W.codeIn K cd2 "is_one_of" = true) (k2 : PySem.W.keepIn K (.ref f2) = true)
    (a3 : PySem.W.nsIn K mainGlobals "is_tuple_of" = some (some (.ref f3)))
    (l3 : K.lookup f3 = some ⟨oc3, od3, .func (PySem.W.fnOf "is_tuple_of" "is_tuple_of" (defArgs s_is_tuple_of) (defBody s_is_tuple_of) (defScope s_is_tuple_of) .none kV3 dc3 pm3 an3 cd3 ct3), sl3⟩) (c3 : PySem.W.codeIn K cd3 "is_tuple_of" = true) (k3 : PySem.W.keepIn K (.ref f3) = true)
    (a4 : PySem.W.nsIn K mainGlobals "is_place" = some (some (.ref f4)))
    (l4 : K.lookup f4 = some ⟨oc4, od4, .func (PySem.W.fnOf "is_place" "is_place" (defArgs s_is_place) (defBody s_is_place) (defScope s_is_place) .none kV4 dc4 pm4 an4 cd4 ct4), sl4⟩) (c4 : PySem.W.codeIn K cd4 "is_place" = true) (k4 : PySem.W.keepIn K (.ref f4) = true)
    (a5 : PySem.W.nsIn K mainGlobals "places_fault" = some (some (.ref f5)))
    (l5 : K.lookup f5 = some ⟨oc5, od5, .func (PySem.W.fnOf "places_fault" "places_fault" (defArgs s_places_fault) (defBody s_places_fault) (defScope s_places_fault) .none kV5 dc5 pm5 an5 cd5 ct5), sl5⟩) (c5 : PySem.W.codeIn K cd5 "places_fault" = true) (k5 : PySem.W.keepIn K (.ref f5) = true)
    (a6 : PySem.W.nsIn K mainGlobals "is_road" = some (some (.ref f6)))
    (l6 : K.lookup f6 = some ⟨oc6, od6, .func (PySem.W.fnOf "is_road" "is_road" (defArgs s_is_road) (defBody s_is_road) (defScope s_is_road) .none kV6 dc6 pm6 an6 cd6 ct6), sl6⟩) (c6 : PySem.W.codeIn K cd6 "is_road" = true) (k6 : PySem.W.keepIn K (.ref f6) = true)
    (a7 : PySem.W.nsIn K mainGlobals "roads_fault" = some (some (.ref f7)))
    (l7 : K.lookup f7 = some ⟨oc7, od7, .func (PySem.W.fnOf "roads_fault" "roads_fault" (defArgs s_roads_fault) (defBody s_roads_fault) (defScope s_roads_fault) .none kV7 dc7 pm7 an7 cd7 ct7), sl7⟩) (c7 : PySem.W.codeIn K cd7 "roads_fault" = true) (k7 : PySem.W.keepIn K (.ref f7) = true)
    (a8 : PySem.W.nsIn K mainGlobals "stations_fault" = some (some (.ref f8)))
    (l8 : K.lookup f8 = some ⟨oc8, od8, .func (PySem.W.fnOf "stations_fault" "stations_fault" (defArgs s_stations_fault) (defBody s_stations_fault) (defScope s_stations_fault) .none kV8 dc8 pm8 an8 cd8 ct8), sl8⟩) (c8 : PySem.W.codeIn K cd8 "stations_fault" = true) (k8 : PySem.W.keepIn K (.ref f8) = true)
    (a9 : PySem.W.nsIn K mainGlobals "need" = some (some (.ref f9)))
    (l9 : K.lookup f9 = some ⟨oc9, od9, .func (PySem.W.fnOf "need" "need" (defArgs s_need) (defBody s_need) (defScope s_need) .none kV9 dc9 pm9 an9 cd9 ct9), sl9⟩) (c9 : PySem.W.codeIn K cd9 "need" = true) (k9 : PySem.W.keepIn K (.ref f9) = true)
    (a10 : PySem.W.findIn K (.ref oC0) "__init__" = some (some (.ref f10))) (b10 : PySem.W.isFn K (.ref f10) = true)
    (l10 : K.lookup f10 = some ⟨oc10, od10, .func (PySem.W.fnOf "__init__" "Ground.__init__" (defArgs s_Ground___init__) (defBody s_Ground___init__) (defScope s_Ground___init__) .none kV10 dc10 pm10 an10 cd10 ct10), sl10⟩) (c10 : PySem.W.codeIn K cd10 "Ground.__init__" = true) (k10 : PySem.W.keepIn K (.ref f10) = true)
    (a11 : PySem.W.findIn K (.ref oC0) "risk" = some (some (.ref f11))) (b11 : PySem.W.isFn K (.ref f11) = true)
    (l11 : K.lookup f11 = some ⟨oc11, od11, .func (PySem.W.fnOf "risk" "Ground.risk" (defArgs s_Ground_risk) (defBody s_Ground_risk) (defScope s_Ground_risk) .none kV11 dc11 pm11 an11 cd11 ct11), sl11⟩) (c11 : PySem.W.codeIn K cd11 "Ground.risk" = true) (k11 : PySem.W.keepIn K (.ref f11) = true)
    (a12 : PySem.W.findIn K (.ref oC0) "steps" = some (some (.ref f12))) (b12 : PySem.W.isFn K (.ref f12) = true)
    (l12 : K.lookup f12 = some ⟨oc12, od12, .func (PySem.W.fnOf "steps" "Ground.steps" (defArgs s_Ground_steps) (defBody s_Ground_steps) (defScope s_Ground_steps) .none kV12 dc12 pm12 an12 cd12 ct12), sl12⟩) (c12 : PySem.W.codeIn K cd12 "Ground.steps" = true) (k12 : PySem.W.keepIn K (.ref f12) = true)
    (a13 : PySem.W.findIn K (.ref oC0) "reach" = some (some (.ref f13))) (b13 : PySem.W.isFn K (.ref f13) = true)
    {lc13 lP13 : Addr}
    (l13 : K.lookup f13 = some ⟨oc13, od13, .func (PySem.W.fnOf "reach" "Ground.reach" (defArgs s_Ground_reach) (defBody s_Ground_reach) (defScope s_Ground_reach) .none kV13 dc13 pm13 an13 (.ref lc13) ct13), sl13⟩) (c13 : PySem.W.codeIn K (.ref lc13) "Ground.reach" = true) (k13 : PySem.W.keepIn K (.ref f13) = true)
    (lk13 : PySem.W.codeHdIn K lc13 lP13 = true) (lp13 : lP13 ∈ ts) (ln13 : K.lookup lP13 = none)
    {dT14 : Addr} {dc_14 : Value} {dd_14 : Option Addr} {dn_14 : Nat} {ds_14 : Array (Option Value)}  {dk14_0 : Tok}
    (a14 : PySem.W.findIn K (.ref oC0) "minutes" = some (some (.ref f14))) (b14 : PySem.W.isFn K (.ref f14) = true)
    (l14 : K.lookup f14 = some ⟨oc14, od14, .func (PySem.W.fnOf "minutes" "Ground.minutes" (defArgs s_Ground_minutes) (defBody s_Ground_minutes) (defScope s_Ground_minutes) (.ref dT14) kV14 dc14 pm14 an14 cd14 ct14), sl14⟩) (c14 : PySem.W.codeIn K cd14 "Ground.minutes" = true) (k14 : PySem.W.keepIn K (.ref f14) = true)
    (dl14 : K.lookup dT14 = some ⟨dc_14, dd_14, .seq ([.int 0 dk14_0, .none] : List Value).toArray dn_14, ds_14⟩)
    (a15 : PySem.W.nsIn K mainGlobals "_law_bag" = some (some (.ref f15)))
    (l15 : K.lookup f15 = some ⟨oc15, od15, .func (PySem.W.fnOf "_law_bag" "_law_bag" (defArgs s__law_bag) (defBody s__law_bag) (defScope s__law_bag) .none kV15 dc15 pm15 an15 cd15 ct15), sl15⟩) (c15 : PySem.W.codeIn K cd15 "_law_bag" = true) (k15 : PySem.W.keepIn K (.ref f15) = true)
    (a16 : PySem.W.nsIn K mainGlobals "_law_take" = some (some (.ref f16)))
    (l16 : K.lookup f16 = some ⟨oc16, od16, .func (PySem.W.fnOf "_law_take" "_law_take" (defArgs s__law_take) (defBody s__law_take) (defScope s__law_take) .none kV16 dc16 pm16 an16 cd16 ct16), sl16⟩) (c16 : PySem.W.codeIn K cd16 "_law_take" = true) (k16 : PySem.W.keepIn K (.ref f16) = true)
    (a17 : PySem.W.nsIn K mainGlobals "_law_names" = some (some (.ref f17)))
    (l17 : K.lookup f17 = some ⟨oc17, od17, .func (PySem.W.fnOf "_law_names" "_law_names" (defArgs s__law_names) (defBody s__law_names) (defScope s__law_names) .none kV17 dc17 pm17 an17 cd17 ct17), sl17⟩) (c17 : PySem.W.codeIn K cd17 "_law_names" = true) (k17 : PySem.W.keepIn K (.ref f17) = true)
    (a18 : PySem.W.nsIn K mainGlobals "_law_ground" = some (some (.ref f18)))
    (l18 : K.lookup f18 = some ⟨oc18, od18, .func (PySem.W.fnOf "_law_ground" "_law_ground" (defArgs s__law_ground) (defBody s__law_ground) (defScope s__law_ground) .none kV18 dc18 pm18 an18 cd18 ct18), sl18⟩) (c18 : PySem.W.codeIn K cd18 "_law_ground" = true) (k18 : PySem.W.keepIn K (.ref f18) = true)
    (a19 : PySem.W.nsIn K mainGlobals "_law_reach" = some (some (.ref f19)))
    (l19 : K.lookup f19 = some ⟨oc19, od19, .func (PySem.W.fnOf "_law_reach" "_law_reach" (defArgs s__law_reach) (defBody s__law_reach) (defScope s__law_reach) .none kV19 dc19 pm19 an19 cd19 ct19), sl19⟩) (c19 : PySem.W.codeIn K cd19 "_law_reach" = true) (k19 : PySem.W.keepIn K (.ref f19) = true)
    (a20 : PySem.W.nsIn K mainGlobals "_law_gone" = some (some (.ref f20)))
    (l20 : K.lookup f20 = some ⟨oc20, od20, .func (PySem.W.fnOf "_law_gone" "_law_gone" (defArgs s__law_gone) (defBody s__law_gone) (defScope s__law_gone) .none kV20 dc20 pm20 an20 cd20 ct20), sl20⟩) (c20 : PySem.W.codeIn K cd20 "_law_gone" = true) (k20 : PySem.W.keepIn K (.ref f20) = true)
    (a21 : PySem.W.nsIn K mainGlobals "_law_asked" = some (some (.ref f21)))
    (l21 : K.lookup f21 = some ⟨oc21, od21, .func (PySem.W.fnOf "_law_asked" "_law_asked" (defArgs s__law_asked) (defBody s__law_asked) (defScope s__law_asked) .none kV21 dc21 pm21 an21 cd21 ct21), sl21⟩) (c21 : PySem.W.codeIn K cd21 "_law_asked" = true) (k21 : PySem.W.keepIn K (.ref f21) = true)
    (a22 : PySem.W.nsIn K mainGlobals "_law_right" = some (some (.ref f22)))
    (l22 : K.lookup f22 = some ⟨oc22, od22, .func (PySem.W.fnOf "_law_right" "_law_right" (defArgs s__law_right) (defBody s__law_right) (defScope s__law_right) .none kV22 dc22 pm22 an22 cd22 ct22), sl22⟩) (c22 : PySem.W.codeIn K cd22 "_law_right" = true) (k22 : PySem.W.keepIn K (.ref f22) = true)
    (a23 : PySem.W.nsIn K mainGlobals "_law_bare" = some (some (.ref f23)))
    (l23 : K.lookup f23 = some ⟨oc23, od23, .func (PySem.W.fnOf "_law_bare" "_law_bare" (defArgs s__law_bare) (defBody s__law_bare) (defScope s__law_bare) .none kV23 dc23 pm23 an23 cd23 ct23), sl23⟩) (c23 : PySem.W.codeIn K cd23 "_law_bare" = true) (k23 : PySem.W.keepIn K (.ref f23) = true)
    (a24 : PySem.W.nsIn K mainGlobals "law" = some (some (.ref f24)))
    (l24 : K.lookup f24 = some ⟨oc24, od24, .func (PySem.W.fnOf "law" "law" (defArgs s_law) (defBody s_law) (defScope s_law) .none kV24 dc24 pm24 an24 cd24 ct24), sl24⟩) (c24 : PySem.W.codeIn K cd24 "law" = true) (k24 : PySem.W.keepIn K (.ref f24) = true)
    (z0 : PySem.W.nsIn K mainGlobals "KeyError" = some none)
    (z1 : PySem.W.nsIn K mainGlobals "ValueError" = some none)
    (z2 : PySem.W.nsIn K mainGlobals "abs" = some none)
    (z3 : PySem.W.nsIn K mainGlobals "all" = some none)
    (z4 : PySem.W.nsIn K mainGlobals "bool" = some none)
    (z5 : PySem.W.nsIn K mainGlobals "dict" = some none)
    (z6 : PySem.W.nsIn K mainGlobals "enumerate" = some none)
    (z7 : PySem.W.nsIn K mainGlobals "int" = some none)
    (z8 : PySem.W.nsIn K mainGlobals "isinstance" = some none)
    (z9 : PySem.W.nsIn K mainGlobals "len" = some none)
    (z10 : PySem.W.nsIn K mainGlobals "list" = some none)
    (z11 : PySem.W.nsIn K mainGlobals "max" = some none)
    (z12 : PySem.W.nsIn K mainGlobals "min" = some none)
    (z13 : PySem.W.nsIn K mainGlobals "range" = some none)
    (z14 : PySem.W.nsIn K mainGlobals "sorted" = some none)
    (z15 : PySem.W.nsIn K mainGlobals "str" = some none)
    (z16 : PySem.W.nsIn K mainGlobals "tuple" = some none)
    {tt0 : Addr} {to0 : Option Addr} {tn0 : Nat} {ts0 : Array (Option Value)} {tk0_0 tk0_1 tk0_2 tk0_3 : Tok} (ta0 : PySem.W.nsIn K mainGlobals "SLOW_HOURS" = some (some (.ref tt0))) (tl0 : K.lookup tt0 = some ⟨.type "tuple", to0, .seq ([.int 7 tk0_0, .int 8 tk0_1, .int 16 tk0_2, .int 17 tk0_3] : List Value).toArray tn0, ts0⟩)
    {gt0 : Tok} (lit0 : PySem.W.nsIn K mainGlobals "LETTERS" = some (some (.str (PySem.Str.ofString "abcdefghijklmnopqrstuvwxyz") gt0)))
    {gt1 : Tok} (lit1 : PySem.W.nsIn K mainGlobals "MOST_LETTERS" = some (some (.int (8) gt1)))
    {gt2 : Tok} (lit2 : PySem.W.nsIn K mainGlobals "MOST_MINUTES" = some (some (.int (60) gt2)))
    {gt3 : Tok} (lit3 : PySem.W.nsIn K mainGlobals "MOST_PLACES" = some (some (.int (40) gt3)))
    {gt4 : Tok} (lit4 : PySem.W.nsIn K mainGlobals "MOST_RISK" = some (some (.int (4) gt4)))
    {gt5 : Tok} (lit5 : PySem.W.nsIn K mainGlobals "MOST_ROADS" = some (some (.int (80) gt5)))
    {gt6 : Tok} (lit6 : PySem.W.nsIn K mainGlobals "MOST_STATIONS" = some (some (.int (12) gt6)))
    {xC0 : Addr} (xa0 : PySem.W.nsIn K mainGlobals "NoGround" = some (some (.ref xC0)))
    {xnm0 xq0 : Str} {xN0 : Addr} {xbs0 : List Value} {xsn0 : List Str} {xsub0 : List Value} {xab0 : Bool} {xco0 : Option Bool} {xdd0 : Option Addr} {xm00 xm10 xm20 xm30 xm50 : Option Value} {xf0 : Addr} {xan0 xod0 : Option Addr} {xsl0 : Array (Option Value)} {xoc0 xkV0 xdc0 xpm0 xcd0 xct0 : Value}
    (xL0 : K.lookup xC0 = some (excClassObj xnm0 xq0 xC0 xN0 xbs0 tl_ValueError true xsn0 xsub0 xab0 xco0 xdd0 xm00 xm10 xm20 xm30 xm50 "ValueError.__new__"))
    (xsa0 : PySem.W.findIn K (.ref xC0) "__setattr__" = some (some (.builtin "object.__setattr__")))
    (xi0 : PySem.W.findIn K (.ref xC0) "__init__" = some (some (.ref xf0)))
    (xt0 : PySem.W.typeIn K (.ref xf0) = some (.type "function"))
    (xl0 : K.lookup xf0 = some ⟨xoc0, xod0, .func (PySem.W.fnOf "__init__" "NoGround.__init__" (defArgs s_NoGround_init) (defBody s_NoGround_init) (defScope s_NoGround_init) .none xkV0 xdc0 xpm0 xan0 xcd0 xct0), xsl0⟩)
    (xc0 : PySem.W.codeIn K xcd0 "NoGround.__init__" = true)
    (xkf0 : PySem.W.keepIn K (.ref xf0) = true)
    (xn0_0 : PySem.W.findIn K (.ref xC0) "part" = some none)
    (xn1_0 : PySem.W.findIn K (.ref xC0) "at" = some none)
    (xv0 : PySem.W.findCls K (.type "ValueError") (.type "type") "__init__" = some (.val (.builtin "ValueError.__init__")))
    (xk0 : PySem.W.keepIn K (.ref xC0) = true)
    (xex0 : PySem.W.subIn K (.ref xC0) (.type "BaseException") = some true)
    (xty0 : PySem.W.typeIn K (.ref xC0) = some (.type "type"))
    (xhd0 : PySem.W.hasDictIn K xC0 = true)
    (xss0 : PySem.W.subIn K (.ref xC0) (.ref xC0) = some true)
    (xga0 : PySem.W.findIn K (.ref xC0) "__getattribute__" = some (some (.builtin "BaseException.__getattribute__")))
    (xgg0 : PySem.W.findIn K (.ref xC0) "__getattr__" = some none)
    (xcl0 : PySem.W.findIn K (.ref xC0) "__class__" = some (some (.builtin "object.__class__")))
    (xge0 : PySem.W.specialIn K (.builtin "object.__class__") "__get__" = some (some (.builtin "getset_descriptor.__get__")))
    (xtk0 : PySem.W.takesIn K (.builtin "object.__class__") = some true)
    (xmo0 : PySem.W.mroIn K xC0 (.type "object") = some true)
    {xC1 : Addr} (xa1 : PySem.W.nsIn K mainGlobals "NoPlace" = some (some (.ref xC1)))
    {xnm1 xq1 : Str} {xN1 : Addr} {xbs1 : List Value} {xsn1 : List Str} {xsub1 : List Value} {xab1 : Bool} {xco1 : Option Bool} {xdd1 : Option Addr} {xm01 xm11 xm21 xm31 xm51 : Option Value} {xf1 : Addr} {xan1 xod1 : Option Addr} {xsl1 : Array (Option Value)} {xoc1 xkV1 xdc1 xpm1 xcd1 xct1 : Value}
    (xL1 : K.lookup xC1 = some (excClassObj xnm1 xq1 xC1 xN1 xbs1 tl_KeyError true xsn1 xsub1 xab1 xco1 xdd1 xm01 xm11 xm21 xm31 xm51 "LookupError.__new__"))
    (xsa1 : PySem.W.findIn K (.ref xC1) "__setattr__" = some (some (.builtin "object.__setattr__")))
    (xi1 : PySem.W.findIn K (.ref xC1) "__init__" = some (some (.ref xf1)))
    (xt1 : PySem.W.typeIn K (.ref xf1) = some (.type "function"))
    (xl1 : K.lookup xf1 = some ⟨xoc1, xod1, .func (PySem.W.fnOf "__init__" "NoPlace.__init__" (defArgs s_NoPlace_init) (defBody s_NoPlace_init) (defScope s_NoPlace_init) .none xkV1 xdc1 xpm1 xan1 xcd1 xct1), xsl1⟩)
    (xc1 : PySem.W.codeIn K xcd1 "NoPlace.__init__" = true)
    (xkf1 : PySem.W.keepIn K (.ref xf1) = true)
    (xn0_1 : PySem.W.findIn K (.ref xC1) "place" = some none)
    (xv1 : PySem.W.findCls K (.type "KeyError") (.type "type") "__init__" = some (.val (.builtin "KeyError.__init__")))
    (xk1 : PySem.W.keepIn K (.ref xC1) = true)
    (xex1 : PySem.W.subIn K (.ref xC1) (.type "BaseException") = some true)
    (xty1 : PySem.W.typeIn K (.ref xC1) = some (.type "type"))
    (xhd1 : PySem.W.hasDictIn K xC1 = true)
    (xss1 : PySem.W.subIn K (.ref xC1) (.ref xC1) = some true)
    (xga1 : PySem.W.findIn K (.ref xC1) "__getattribute__" = some (some (.builtin "BaseException.__getattribute__")))
    (xgg1 : PySem.W.findIn K (.ref xC1) "__getattr__" = some none)
    (xcl1 : PySem.W.findIn K (.ref xC1) "__class__" = some (some (.builtin "object.__class__")))
    (xge1 : PySem.W.specialIn K (.builtin "object.__class__") "__get__" = some (some (.builtin "getset_descriptor.__get__")))
    (xtk1 : PySem.W.takesIn K (.builtin "object.__class__") = some true)
    (xmo1 : PySem.W.mroIn K xC1 (.type "object") = some true)
    {k : Nat} (ok : ∀ (T : Tx w K mg) (base : Heap) (TB_Ground_reach : LamX.TabB base mg T.lc_Ground_reach.c T.lc_Ground_reach.P), FnOk l.prog w K mg base (L2.CX l.prog w) k T.f_law.f T.f_law.fd ["_law_script"] (toSp K (spLawT ((tabs T).map fun e => (e.P, e.q))))) :
    ∃ (fd : FuncData) (cs : List LRec), (∀ e ∈ cs, LFact K mg qP e ∨ LFactM K ts e) ∧ (∀ (s : Shared) (v : Value), BindsTo s fd ⟨[v], []⟩ [("_law_script", v)]) ∧ ∀ base : Heap, K.In base → base.Ns mainGlobals mg → (∀ e ∈ cs, LamX.TabB base mg e.c e.P) → FnOk l.prog w K mg base (L2.CX l.prog w) k fa fd ["_law_script"] (toSp K (spLawT (cs.map fun e => (e.P, e.q)))) := by
  have e : fa = f24 := by
    have e := hfa.symm.trans (PySem.W.mg_of X G a24)
    cases e; rfl
  rw [e]
  let T : Tx w K mg := {
    c_Ground := ⟨oC0, PySem.W.mg_of X G oa0, ⟨opg0, ohd0, opo0, osa0⟩, List.forall_mem_cons.mpr ⟨on0_0, List.forall_mem_cons.mpr ⟨on1_0, List.forall_mem_cons.mpr ⟨on2_0, List.forall_mem_cons.mpr ⟨on3_0, List.forall_mem_nil _⟩⟩⟩⟩⟩,
    f_is_whole := ⟨f0, _, PySem.W.mg_of X G a0, fun_mk (st := s_is_whole) l0 c0 k0, (fun_mk (st := s_is_whole) l0 c0 k0).binds (ps := ["thing", "low", "high"]) fun _ _ _ _ _ _ us hl => match us, hl with | [_, _, _], _ => rfl⟩,
    f_is_name := ⟨f1, _, PySem.W.mg_of X G a1, fun_mk (st := s_is_name) l1 c1 k1, (fun_mk (st := s_is_name) l1 c1 k1).binds (ps := ["thing"]) fun _ _ _ _ _ _ us hl => match us, hl with | [_], _ => rfl⟩,
    f_is_one_of := ⟨f2, _, PySem.W.mg_of X G a2, fun_mk (st := s_is_one_of) l2 c2 k2, (fun_mk (st := s_is_one_of) l2 c2 k2).binds (ps := ["thing", "texts"]) fun _ _ _ _ _ _ us hl => match us, hl with | [_, _], _ => rfl⟩,
    f_is_tuple_of := ⟨f3, _, PySem.W.mg_of X G a3, fun_mk (st := s_is_tuple_of) l3 c3 k3, (fun_mk (st := s_is_tuple_of) l3 c3 k3).binds (ps := ["thing", "many"]) fun _ _ _ _ _ _ us hl => match us, hl with | [_, _], _ => rfl⟩,
    f_is_place := ⟨f4, _, PySem.W.mg_of X G a4, fun_mk (st := s_is_place) l4 c4 k4, (fun_mk (st := s_is_place) l4 c4 k4).binds (ps := ["thing"]) fun _ _ _ _ _ _ us hl => match us, hl with | [_], _ => rfl⟩,
    f_places_fault := ⟨f5, _, PySem.W.mg_of X G a5, fun_mk (st := s_places_fault) l5 c5 k5, (fun_mk (st := s_places_fault) l5 c5 k5).binds (ps := ["thing"]) fun _ _ _ _ _ _ us hl => match us, hl with | [_], _ => rfl⟩,
    f_is_road := ⟨f6, _, PySem.W.mg_of X G a6, fun_mk (st := s_is_road) l6 c6 k6, (fun_mk (st := s_is_road) l6 c6 k6).binds (ps := ["names", "thing"]) fun _ _ _ _ _ _ us hl => match us, hl with | [_, _], _ => rfl⟩,
    f_roads_fault := ⟨f7, _, PySem.W.mg_of X G a7, fun_mk (st := s_roads_fault) l7 c7 k7, (fun_mk (st := s_roads_fault) l7 c7 k7).binds (ps := ["names", "thing"]) fun _ _ _ _ _ _ us hl => match us, hl with | [_, _], _ => rfl⟩,
    f_stations_fault := ⟨f8, _, PySem.W.mg_of X G a8, fun_mk (st := s_stations_fault) l8 c8 k8, (fun_mk (st := s_stations_fault) l8 c8 k8).binds (ps := ["names", "thing"]) fun _ _ _ _ _ _ us hl => match us, hl with | [_, _], _ => rfl⟩,
    f_need := ⟨f9, _, PySem.W.mg_of X G a9, fun_mk (st := s_need) l9 c9 k9, (fun_mk (st := s_need) l9 c9 k9).binds (ps := ["part", "at"]) fun _ _ _ _ _ _ us hl => match us, hl with | [_, _], _ => rfl⟩,
    mk_Ground := ⟨omk0, a10, b10, okc0⟩,
    f_Ground___init__ := ⟨f10, _, ⟨a10, b10, k10⟩, fun_mk (st := s_Ground___init__) l10 c10 k10, (fun_mk (st := s_Ground___init__) l10 c10 k10).binds (ps := ["self", "places", "roads", "stations"]) fun _ _ _ _ _ _ us hl => match us, hl with | [_, _, _, _], _ => rfl⟩,
    f_Ground_risk := ⟨f11, _, ⟨a11, b11, k11⟩, fun_mk (st := s_Ground_risk) l11 c11 k11, (fun_mk (st := s_Ground_risk) l11 c11 k11).binds (ps := ["self", "place"]) fun _ _ _ _ _ _ us hl => match us, hl with | [_, _], _ => rfl⟩,
    f_Ground_steps := ⟨f12, _, ⟨a12, b12, k12⟩, fun_mk (st := s_Ground_steps) l12 c12 k12, (fun_mk (st := s_Ground_steps) l12 c12 k12).binds (ps := ["self", "hour", "shut"]) fun _ _ _ _ _ _ us hl => match us, hl with | [_, _, _], _ => rfl⟩,
    lc_Ground_reach := ⟨lc13, lP13, rfl, lk13, ln13⟩,
    f_Ground_reach := ⟨f13, _, ⟨a13, b13, k13⟩, fun_mk (st := s_Ground_reach) l13 c13 k13, (fun_mk (st := s_Ground_reach) l13 c13 k13).binds (ps := ["self", "start", "hour", "shut"]) fun _ _ _ _ _ _ us hl => match us, hl with | [_, _, _, _], _ => rfl⟩,
    f_Ground_minutes := ⟨f14, _, ⟨a14, b14, k14⟩, (fund_mk (st := s_Ground_minutes) (dvs := [(.int 0), .non]) l14 c14 k14 dl14 rfl (by simp) (.cons ⟨_, rfl⟩ (.cons rfl .nil)))⟩,
    b_Ground_minutes_5 := FunD.bd (ps := ["self", "start", "goal", "hour", "shut"]) (fund_mk (st := s_Ground_minutes) (dvs := [(.int 0), .non]) l14 c14 k14 dl14 rfl (by simp) (.cons ⟨_, rfl⟩ (.cons rfl .nil))) 5 2 (by simp) rfl fun _ _ _ _ _ _ _ us its h1 h2 => match us, its, h1, h2 with | [_, _, _, _, _], [_, _], _, _ => ⟨_, rfl, rfl⟩,
    b_Ground_minutes_4 := FunD.bd (ps := ["self", "start", "goal", "hour", "shut"]) (fund_mk (st := s_Ground_minutes) (dvs := [(.int 0), .non]) l14 c14 k14 dl14 rfl (by simp) (.cons ⟨_, rfl⟩ (.cons rfl .nil))) 4 1 (by simp) rfl fun _ _ _ _ _ _ _ us its h1 h2 => match us, its, h1, h2 with | [_, _, _, _], [_, _], _, _ => ⟨_, rfl, rfl⟩,
    b_Ground_minutes_3 := FunD.bd (ps := ["self", "start", "goal", "hour", "shut"]) (fund_mk (st := s_Ground_minutes) (dvs := [(.int 0), .non]) l14 c14 k14 dl14 rfl (by simp) (.cons ⟨_, rfl⟩ (.cons rfl .nil))) 3 0 (by simp) rfl fun _ _ _ _ _ _ _ us its h1 h2 => match us, its, h1, h2 with | [_, _, _], [_, _], _, _ => ⟨_, rfl, rfl⟩,
    f__law_bag := ⟨f15, _, PySem.W.mg_of X G a15, fun_mk (st := s__law_bag) l15 c15 k15, (fun_mk (st := s__law_bag) l15 c15 k15).binds (ps := ["_law_script", "_law_at"]) fun _ _ _ _ _ _ us hl => match us, hl with | [_, _], _ => rfl⟩,
    f__law_take := ⟨f16, _, PySem.W.mg_of X G a16, fun_mk (st := s__law_take) l16 c16 k16, (fun_mk (st := s__law_take) l16 c16 k16).binds (ps := ["_law_bag_here", "_law_many"]) fun _ _ _ _ _ _ us hl => match us, hl with | [_, _], _ => rfl⟩,
    f__law_names := ⟨f17, _, PySem.W.mg_of X G a17, fun_mk (st := s__law_names) l17 c17 k17, (fun_mk (st := s__law_names) l17 c17 k17).binds (ps := ["_law_bag_here", "_law_many"]) fun _ _ _ _ _ _ us hl => match us, hl with | [_, _], _ => rfl⟩,
    f__law_ground := ⟨f18, _, PySem.W.mg_of X G a18, fun_mk (st := s__law_ground) l18 c18 k18, (fun_mk (st := s__law_ground) l18 c18 k18).binds (ps := ["_law_bag_here"]) fun _ _ _ _ _ _ us hl => match us, hl with | [_], _ => rfl⟩,
    f__law_reach := ⟨f19, _, PySem.W.mg_of X G a19, fun_mk (st := s__law_reach) l19 c19 k19, (fun_mk (st := s__law_reach) l19 c19 k19).binds (ps := ["_law_parts", "_law_begin", "_law_clock", "_law_gone_here"]) fun _ _ _ _ _ _ us hl => match us, hl with | [_, _, _, _], _ => rfl⟩,
    f__law_gone := ⟨f20, _, PySem.W.mg_of X G a20, fun_mk (st := s__law_gone) l20 c20 k20, (fun_mk (st := s__law_gone) l20 c20 k20).binds (ps := ["_law_bag_here", "_law_parts"]) fun _ _ _ _ _ _ us hl => match us, hl with | [_, _], _ => rfl⟩,
    f__law_asked := ⟨f21, _, PySem.W.mg_of X G a21, fun_mk (st := s__law_asked) l21 c21 k21, (fun_mk (st := s__law_asked) l21 c21 k21).binds (ps := ["_law_ground_here", "_law_begin", "_law_ending", "_law_clock", "_law_gone_here"]) fun _ _ _ _ _ _ us hl => match us, hl with | [_, _, _, _, _], _ => rfl⟩,
    f__law_right := ⟨f22, _, PySem.W.mg_of X G a22, fun_mk (st := s__law_right) l22 c22 k22, (fun_mk (st := s__law_right) l22 c22 k22).binds (ps := ["_law_ground_here", "_law_parts", "_law_begin", "_law_clock", "_law_gone_here"]) fun _ _ _ _ _ _ us hl => match us, hl with | [_, _, _, _, _], _ => rfl⟩,
    f__law_bare := ⟨f23, _, PySem.W.mg_of X G a23, fun_mk (st := s__law_bare) l23 c23 k23, (fun_mk (st := s__law_bare) l23 c23 k23).binds (ps := ["_law_ground_here", "_law_parts", "_law_begin", "_law_clock", "_law_gone_here"]) fun _ _ _ _ _ _ us hl => match us, hl with | [_, _, _, _, _], _ => rfl⟩,
    f_law := ⟨f24, _, PySem.W.mg_of X G a24, fun_mk (st := s_law) l24 c24 k24, (fun_mk (st := s_law) l24 c24 k24).binds (ps := ["_law_script"]) fun _ _ _ _ _ _ us hl => match us, hl with | [_], _ => rfl⟩,
    n_KeyError := PySem.W.mg_none_of X G z0,
    n_ValueError := PySem.W.mg_none_of X G z1,
    n_abs := PySem.W.mg_none_of X G z2,
    n_all := PySem.W.mg_none_of X G z3,
    n_bool := PySem.W.mg_none_of X G z4,
    n_dict := PySem.W.mg_none_of X G z5,
    n_enumerate := PySem.W.mg_none_of X G z6,
    n_int := PySem.W.mg_none_of X G z7,
    n_isinstance := PySem.W.mg_none_of X G z8,
    n_len := PySem.W.mg_none_of X G z9,
    n_list := PySem.W.mg_none_of X G z10,
    n_max := PySem.W.mg_none_of X G z11,
    n_min := PySem.W.mg_none_of X G z12,
    n_range := PySem.W.mg_none_of X G z13,
    n_sorted := PySem.W.mg_none_of X G z14,
    n_str := PySem.W.mg_none_of X G z15,
    n_tuple := PySem.W.mg_none_of X G z16,
    t_SLOW_HOURS := glT_mk (PySem.W.mg_of X G ta0) tl0 (.cons ⟨_, rfl⟩ (.cons ⟨_, rfl⟩ (.cons ⟨_, rfl⟩ (.cons ⟨_, rfl⟩ .nil)))) (by decide +kernel),
    g_LETTERS := ⟨gt0, PySem.W.mg_of X G lit0⟩,
    g_MOST_LETTERS := ⟨gt1, PySem.W.mg_of X G lit1⟩,
    g_MOST_MINUTES := ⟨gt2, PySem.W.mg_of X G lit2⟩,
    g_MOST_PLACES := ⟨gt3, PySem.W.mg_of X G lit3⟩,
    g_MOST_RISK := ⟨gt4, PySem.W.mg_of X G lit4⟩,
    g_MOST_ROADS := ⟨gt5, PySem.W.mg_of X G lit5⟩,
    g_MOST_STATIONS := ⟨gt6, PySem.W.mg_of X G lit6⟩,
    c_NoGround := ⟨xC0, xf0, _, PySem.W.mg_of X G xa0, ⟨⟨xnm0, xq0, xN0, xbs0, _, xsn0, xsub0, xab0, xco0, xdd0, xm00, xm10, xm20, xm30, xm50, xL0, by decide +kernel⟩, xsa0, xex0, xty0, xk0⟩, xi0, xt0, (fun_mk (st := s_NoGround_init) xl0 xc0 xkf0), (fun_mk (st := s_NoGround_init) xl0 xc0 xkf0).binds (ps := ["self", "part", "at"]) fun _ _ _ _ _ _ us hl => match us, hl with | [_, _, _], _ => rfl, List.forall_mem_cons.mpr ⟨xn0_0, List.forall_mem_cons.mpr ⟨xn1_0, List.forall_mem_nil _⟩⟩, xhd0, (PySem.W.exm_ref xex0 xhd0 xty0 xss0), xv0, ⟨clsIn_some xhd0, xga0, xgg0, xex0, xcl0, xge0, xtk0, xmo0⟩⟩,
    c_NoPlace := ⟨xC1, xf1, _, PySem.W.mg_of X G xa1, ⟨⟨xnm1, xq1, xN1, xbs1, _, xsn1, xsub1, xab1, xco1, xdd1, xm01, xm11, xm21, xm31, xm51, xL1, by decide +kernel⟩, xsa1, xex1, xty1, xk1⟩, xi1, xt1, (fun_mk (st := s_NoPlace_init) xl1 xc1 xkf1), (fun_mk (st := s_NoPlace_init) xl1 xc1 xkf1).binds (ps := ["self", "place"]) fun _ _ _ _ _ _ us hl => match us, hl with | [_, _], _ => rfl, List.forall_mem_cons.mpr ⟨xn0_1, List.forall_mem_nil _⟩, xhd1, (PySem.W.exm_ref xex1 xhd1 xty1 xss1), xv1, ⟨clsIn_some xhd1, xga1, xgg1, xex1, xcl1, xge1, xtk1, xmo1⟩⟩,
    kw_Ground_minutes_1_goal_shut_start_hour := kwbD (fund_mk (st := s_Ground_minutes) (dvs := [(.int 0), .non]) l14 c14 k14 dl14 rfl (by simp) (.cons ⟨_, rfl⟩ (.cons rfl .nil))) (by simp) fun _ _ _ _ _ _ _ us ws its h1 h2 h3 => match us, ws, its, h1, h2, h3 with | [_], [_, _, _, _], [_, _], _, _, _ => ⟨_, rfl, rfl⟩,
    kd_Ground_minutes_3_shut := kwbDD (fund_mk (st := s_Ground_minutes) (dvs := [(.int 0), .non]) l14 c14 k14 dl14 rfl (by simp) (.cons ⟨_, rfl⟩ (.cons rfl .nil))) (by simp) fun _ _ _ _ _ _ _ us ws its h1 h2 h3 => match us, ws, its, h1, h2, h3 with | [_, _, _], [_], [_, _], _, _, _ => ⟨_, rfl, rfl⟩ }
  refine ⟨T.f_law.fd, tabs T, List.forall_mem_cons.mpr ⟨.inr (T.lc_Ground_reach.fact lp13 _ _ _), List.forall_mem_nil _⟩, fun s v => ?_, fun base _ _ hT => ok T base (hT _ List.mem_cons_self)⟩
  exact .of_eq rfl
end K03
namespace K03
open PySem DL L2 Tx20 Tx21
/-- roads gone, as numbers -/
def goneO (ns : List Int) : Nat → Bool := fun i => !decide ((i : Int) ∈ ns)
theorem gone_shut (ns : List Int) (M : Mst) : ShutD M (.lst (ns.map .int)) (goneO ns) := .inr ⟨by simp, fun M' _ i Q => by rw [in_ints, Bool.true_xor]; rfl⟩
theorem none_shut (M : Mst) : ShutD M .non (goneO []) := .inl ⟨rfl, fun i => by simp [goneO]⟩
def spGone : DSp := fun ds M Q _ => ∃ (b : Addr) (ps : List Row_) (rs : List Rd_) (ss : List Str), ds = [.ref b, grT ps rs ss] ∧ M b = some .bag ∧ rs.length ≤ 80 ∧ ∀ ns : List Int, Q (.lst (ns.map .int)) M
theorem ints_of {ds : List D} {os : List (Option D)} (h : All2 (fun _ o => ∃ i : Int, o = some (.int i)) ds os) : ∃ ns : List Int, os.filterMap id = ns.map .int := by
  induction h with
  | nil => exact ⟨[], rfl⟩
  | cons h _ ih =>
    obtain ⟨i, rfl⟩ := h
    obtain ⟨ns, e⟩ := ih
    exact ⟨i :: ns, by simp [e]⟩
theorem ne_unit {rs : List Rd_} {M : Mst} {Q : DK} : dEq true (.xtp (rs.map rdD)) (.tup []) M Q = Q (.bl (!decide (rs = []))) M := by
  have pr : prmL (rs.map rdD) = true := by rw [prmL_all, List.all_map, List.all_eq_true]; intro x _; rfl
  have h1 : isData (D.tup (rs.map rdD)) = true := prm_data _ pr
  have h2 : min (dep (D.tup (rs.map rdD))) (dep (.tup [])) ≤ 64 := Nat.le_trans (Nat.min_le_right _ _) (Nat.le_of_ble_eq_true rfl)
  have h3 : deq (.tup (rs.map rdD)) (.tup []) = decide (rs = []) := by
    have e := prm_deq (d := .tup (rs.map rdD)) (e := .tup []) pr rfl
    by_cases c : rs = []
    · subst c; exact (e.mpr rfl).trans (decide_eq_true rfl).symm
    · rw [decide_eq_false c]
      cases w : deq (.tup (rs.map rdD)) (.tup []) with
      | false => rfl
      | true =>
        have := e.mp w
        simp only [D.tup.injEq, List.map_eq_nil_iff] at this
        exact absurd this c
  show (isData (D.tup (rs.map rdD)) = true ∧ isData (D.tup []) = true ∧ min (dep (D.tup (rs.map rdD))) (dep (.tup [])) ≤ 64 ∧ Q (.bl (xor true (deq (.tup (rs.map rdD)) (.tup [])))) M) = _
  rw [h3, Bool.true_xor]
  exact propext ⟨fun h => h.2.2.2, fun h => ⟨h1, rfl, h2, h⟩⟩
theorem gone_ok (ds : List D) (M : Mst) (Q : DK) (Ed : DX → Mst → Prop) (h : upSp spGone ds M Q Ed) : q__law_gone spTake (fun x _ M => Ed x M) (retE Q) (startD N__law_gone ds) M := by
  obtain ⟨Q0, E0, ⟨b, ps, rs, ss, rfl, hb, hl, k0⟩, kq, _⟩ := h
  have k : ∀ ns : List Int, Q (.lst (ns.map .int)) M := fun ns => kq _ _ _ (DL.Sub.refl _) (k0 ns)
  clear kq k0
  show q__law_gone _ _ _ [some (.ref b), some (grT ps rs ss), none] M
  simp only [q__law_gone, grT, z_ix_t1, qLc, qiRng1, dMul, res_int, qSeq, qAsg, qTup, qCons, qNil, qOp, qUn, qC, qCall, qVar, qLst, newL_f, qIfS, qTB, qNext, qRet, qDrop, qFor, qCB, qAug, qSl, qPart, qNoPart, gNameD, gSub_eq, dInt_i, dInt0_i, dAdd_i, dCmpI_i, List.set_cons_zero, List.set_cons_succ, List.getElem?_cons_zero, List.getElem?_cons_succ, List.append_nil, z_l0, z_l1, z_l2, z_l3, z_l4, z_l5, z_l6, z_l7, z_l8, z_l9, z_l19, z_l24, z_l25, true_and]
  refine take_call hb (by decide) (by decide) fun n n0 n1 => ?_
  show dEq true (.xtp (rs.map rdD)) (.tup []) M _
  rw [ne_unit]
  simp only [z_intX_b]
  generalize hv : n * (if (!decide (rs = [])) = true then (1 : Int) else 0) = v
  have hv2 : 0 ≤ v ∧ v ≤ 3 ∧ (0 < v → rs ≠ []) := by
    rw [← hv]
    by_cases c : rs = []
    · simp [c]
    · simp [c]; omega
  refine ⟨.inl ⟨by omega, by omega⟩, by omega, by omega, fun c hc => ?_⟩
  rw [hv]
  refine compL_rel hc (fun _ o => ∃ i : Int, o = some (.int i)) (fun _ => trivial) (rangeD 0 v.toNat) [] (by simp [rangeD]; omega) (fun d hd acc R hR => ?_) fun os hos => ?_
  · have hv0 : 0 < v := by
      unfold rangeD at hd
      obtain ⟨j, hj, _⟩ := List.mem_map.mp hd
      rw [List.mem_range] at hj
      omega
    have hr := hv2.2.2 hv0
    have hr2 : 0 < rs.length := by cases rs with
      | nil => exact absurd rfl hr
      | cons _ _ => simp
    simp only [wipeD, gNameD, qYes, if_true, z_ix_t1, dLen, res_xtp, List.length_map, qSeq, qAsg, qTup, qCons, qNil, qOp, qUn, qC, qCall, qVar, qLst, newL_f, qIfS, qTB, qNext, qRet, qDrop, qFor, qCB, qAug, qSl, qPart, qNoPart, gNameD, gSub_eq, dInt_i, dInt0_i, dAdd_i, dCmpI_i, List.set_cons_zero, List.set_cons_succ, List.getElem?_cons_zero, List.getElem?_cons_succ, List.append_nil, z_l0, z_l1, z_l2, z_l3, z_l4, z_l5, z_l6, z_l7, z_l8, z_l9, z_l19, z_l24, z_l25, true_and]
    refine take_call (put_keep hb hc) (by omega) (by omega) fun r r0 r1 => hR _ ⟨r, rfl⟩
  · obtain ⟨ns, e⟩ := ints_of hos
    simp only [Bool.false_eq_true, if_false, List.nil_append, e]
    exact k ns
def spAsked (P c : Addr) : DSp := fun ds M Q _ => ∃ (ps : List Row_) (rs : List Rd_) (r : D) (ss : List Str) (s g : Str) (h : Int) (x : D) (opn : Nat → Bool), ds = [gndD c ps r ss, .str s, .str g, .int h, x] ∧ M P = some (.tab ("Ground.reach.<locals>.<lambda>" : Str)) ∧ Tpl (rs.map rdD) r ∧ GOk ps rs ss ∧ s ∈ ps.map (·.1) ∧ g ∈ ps.map (·.1) ∧ ShutD M x opn ∧
  ∀ l, Least (egs (slowH h) opn rs rs.length) s (getA l) → Q (.lst [optN (getA l g), optN (getA l g)]) M
theorem asked_ok (P c : Addr) (ds : List D) (M : Mst) (Q : DK) (Ed : DX → Mst → Prop) (h : upSp (spAsked P c) ds M Q Ed) : q__law_asked c (spGMinutes P c) (fun x _ M => Ed x M) (retE Q) (startD N__law_asked ds) M := by
  obtain ⟨Q0, E0, ⟨ps, rs, r, ss, s, g, h, x, opn, rfl, hP, hr, go, hs, hg, hx, k0⟩, kq, _⟩ := h
  have k : ∀ l, Least (egs (slowH h) opn rs rs.length) s (getA l) → Q (.lst [optN (getA l g), optN (getA l g)]) M := fun l a => kq _ _ _ (DL.Sub.refl _) (k0 l a)
  clear kq k0
  show q__law_asked _ _ _ _ [some (gndD c ps r ss), some (.str s), some (.str g), some (.int h), some x, none, none] M
  simp only [q__law_asked, qMeth, qMethKw, qSeq, qAsg, qTup, qCons, qNil, qOp, qUn, qC, qCall, qVar, qLst, newL_f, qIfS, qTB, qNext, qRet, qDrop, qFor, qCB, qAug, qSl, qPart, qNoPart, gNameD, gSub_eq, dInt_i, dInt0_i, dAdd_i, dCmpI_i, List.set_cons_zero, List.set_cons_succ, List.getElem?_cons_zero, List.getElem?_cons_succ, List.append_nil, z_l0, z_l1, z_l2, z_l3, z_l4, z_l5, z_l6, z_l7, z_l8, z_l9, z_l19, z_l24, z_l25, true_and]
  refine ⟨⟨rfl, rfl⟩, ps, rs, r, ss, s, g, h, x, opn, rfl, hP, hr, go, hs, hg, hx, fun l hl => ?_⟩
  refine ⟨⟨rfl, rfl⟩, rfl, rfl, ps, rs, r, ss, s, g, h, x, opn, rfl, hP, hr, go, hs, hg, hx, fun l2 hl2 => ?_⟩
  rw [Least.uniq hl2 hl g]
  exact k l hl
theorem eq_self_d {d : D} {M : Mst} {Q : DK} (hd : isData (res M d) = true) (hp : dep (res M d) ≤ 64) : dEq true d d M Q = Q (.bl false) M := by
  unfold dEq
  rw [deq_refl _ hd]
  simp [hd, hp]
theorem eq_ints_self {ns : List Int} {M : Mst} {Q : DK} : dEq true (.lst (ns.map .int)) (.lst (ns.map .int)) M Q = Q (.bl false) M := by
  have pr : prmL (ns.map D.int) = true := by rw [prmL_all, List.all_map, List.all_eq_true]; intro x _; rfl
  refine eq_self_d (prm_data _ pr) (Nat.le_trans (dep_lst (n := 1) fun d hd => by obtain ⟨x, _, rfl⟩ := List.mem_map.mp hd; exact Nat.le_of_ble_eq_true rfl) (by decide))
def spRight (P c : Addr) : DSp := fun ds M Q _ => ∃ (ps : List Row_) (rs : List Rd_) (ss : List Str) (s : Str) (h : Int) (ns : List Int), ds = [gndD c ps (.xtp (rs.map rdD)) ss, grT ps rs ss, .str s, .int h, .lst (ns.map .int)] ∧ M P = some (.tab ("Ground.reach.<locals>.<lambda>" : Str)) ∧ GOk ps rs ss ∧ s ∈ ps.map (·.1) ∧ Q (.bl true) M
theorem right_ok (P c : Addr) (ds : List D) (M : Mst) (Q : DK) (Ed : DX → Mst → Prop) (h : upSp (spRight P c) ds M Q Ed) : q__law_right (spAsked P c) spGLReach (fun x _ M => Ed x M) (retE Q) (startD N__law_right ds) M := by
  obtain ⟨Q0, E0, ⟨ps, rs, ss, s, h, ns, rfl, hP, go, hs, k0⟩, kq, _⟩ := h
  have k : Q (.bl true) M := kq _ _ _ (DL.Sub.refl _) k0
  clear kq k0
  show q__law_right _ _ _ _ [some (gndD c ps (.xtp (rs.map rdD)) ss), some (grT ps rs ss), some (.str s), some (.int h), some (.lst (ns.map .int)), none, none, none, none, none, none] M
  simp only [q__law_right, dList, res_lst, qSeq, qAsg, qTup, qCons, qNil, qOp, qUn, qC, qCall, qVar, qLst, newL_f, qIfS, qTB, qNext, qRet, qDrop, qFor, qCB, qAug, qSl, qPart, qNoPart, gNameD, gSub_eq, dInt_i, dInt0_i, dAdd_i, dCmpI_i, List.set_cons_zero, List.set_cons_succ, List.getElem?_cons_zero, List.getElem?_cons_succ, List.append_nil, z_l0, z_l1, z_l2, z_l3, z_l4, z_l5, z_l6, z_l7, z_l8, z_l9, z_l19, z_l24, z_l25, true_and]
  refine ⟨ps, rs, ss, s, h, _, goneO ns, rfl, go, hs, by simp, gone_shut ns M, fun l hl => ?_⟩
  simp only [qiAny, grT, z_ix_t0, qSeq, qAsg, qTup, qCons, qNil, qOp, qUn, qC, qCall, qVar, qLst, newL_f, qIfS, qTB, qNext, qRet, qDrop, qFor, qCB, qAug, qSl, qPart, qNoPart, gNameD, gSub_eq, dInt_i, dInt0_i, dAdd_i, dCmpI_i, List.set_cons_zero, List.set_cons_succ, List.getElem?_cons_zero, List.getElem?_cons_succ, List.append_nil, z_l0, z_l1, z_l2, z_l3, z_l4, z_l5, z_l6, z_l7, z_l8, z_l9, z_l19, z_l24, z_l25, true_and]
  refine loopL_inv (n := ps.length) (fun i p M' => M' = M ∧ ∃ (y7 y8 y9 y10 : Option D), p = [some (gndD c ps (.xtp (rs.map rdD)) ss), some (grT ps rs ss), some (.str s), some (.int h), some (.lst (ns.map .int)), some (dctS l), some (.lst (ns.map .int)), y7, y8, y9, y10]) (by rw [List.length_map]) (fun i dd p M' R hdd hI hR => ?_) (fun p M' hI => ?_) ⟨rfl, none, none, none, none, rfl⟩
  · obtain ⟨rfl, y7, y8, y9, y10, rfl⟩ := hI
    rw [List.getElem?_map] at hdd
    obtain ⟨⟨g, rk⟩, hg, rfl⟩ := Option.map_eq_some_iff.mp hdd
    have hgz : g ∈ ps.map (·.1) := List.mem_map_of_mem (f := (·.1)) (List.mem_of_getElem? hg)
    refine ⟨trivial, ?_⟩
    show gTupD 2 _ (.tup [.str g, .int rk]) _ _ _ _
    simp only [gTupD, gConsD, gNilD, res_tup, List.length_cons, List.length_nil, true_and, gNameD, List.set_cons_zero, List.set_cons_succ, qDGet2, get_dctS, qSeq, qAsg, qTup, qCons, qNil, qOp, qUn, qC, qCall, qVar, qLst, newL_f, qIfS, qTB, qNext, qRet, qDrop, qFor, qCB, qAug, qSl, qPart, qNoPart, gNameD, gSub_eq, dInt_i, dInt0_i, dAdd_i, dCmpI_i, List.set_cons_zero, List.set_cons_succ, List.getElem?_cons_zero, List.getElem?_cons_succ, List.append_nil, z_l0, z_l1, z_l2, z_l3, z_l4, z_l5, z_l6, z_l7, z_l8, z_l9, z_l19, z_l24, z_l25, true_and]
    refine ⟨rfl, ?_⟩
    have wv : ∀ o : Option Int, (o.map D.int).getD .non = optN o := fun o => by cases o <;> rfl
    rw [wv]
    refine ⟨ps, rs, .xtp (rs.map rdD), ss, s, g, h, _, goneO ns, rfl, hP, .inl rfl, go, hs, hgz, gone_shut ns M', fun l2 hl2 => ?_⟩
    rw [Least.uniq hl2 hl g]
    dsimp only
    refine loopL_inv (n := 2) (fun j p M2 => M2 = M' ∧ ∃ y10 : Option D, p = [some (gndD c ps (.xtp (rs.map rdD)) ss), some (grT ps rs ss), some (.str s), some (.int h), some (.lst (ns.map .int)), some (dctS l), some (.lst (ns.map .int)), some (.str g), some (.int rk), some (optN (getA l g)), y10]) rfl (fun j dd p M' R2 hdd hI hR2 => ?_) (fun p M' hI => ?_) ⟨rfl, _, rfl⟩
    · obtain ⟨rfl, y10, rfl⟩ := hI
      have ed : dd = optN (getA l g) := by
        match j, hdd with
        | 0, hdd => exact (Option.some.inj hdd).symm
        | 1, hdd => exact (Option.some.inj hdd).symm
      subst ed
      refine ⟨trivial, ?_⟩
      have e1 : ∀ K : DK, dIsi [optN (getA l g), .ty "bool"] M' K = K (.bl false) M' := fun K => by
        cases getA l g with
        | none => exact isi_one rfl (show isiB "NoneType" "bool" = some false by decide +kernel)
        | some i => exact z_isi_int_bool
      have e2 : ∀ K : DK, dEq true (optN (getA l g)) (optN (getA l g)) M' K = K (.bl false) M' := fun K => by
        cases getA l g with
        | none => exact eq_self_d rfl (Nat.le_of_ble_eq_true rfl)
        | some i => exact eq_self_d rfl (Nat.le_of_ble_eq_true rfl)
      have e3 : ∀ K : DK, dEq true (.lst (ns.map .int)) (.lst (ns.map .int)) M' K = K (.bl false) M' := fun K => eq_ints_self
      simp only [gNameD, List.set_cons_zero, List.set_cons_succ, qOr, e1, e2, e3, Bool.false_eq_true, if_false, qSeq, qAsg, qTup, qCons, qNil, qOp, qUn, qC, qCall, qVar, qLst, newL_f, qIfS, qTB, qNext, qRet, qDrop, qFor, qCB, qAug, qSl, qPart, qNoPart, gNameD, gSub_eq, dInt_i, dInt0_i, dAdd_i, dCmpI_i, List.set_cons_zero, List.set_cons_succ, List.getElem?_cons_zero, List.getElem?_cons_succ, List.append_nil, z_l0, z_l1, z_l2, z_l3, z_l4, z_l5, z_l6, z_l7, z_l8, z_l9, z_l19, z_l24, z_l25, true_and]
      exact hR2 _ _ ⟨rfl, _, rfl⟩
    · obtain ⟨rfl, y10, rfl⟩ := hI
      exact ⟨trivial, hR _ _ ⟨rfl, _, _, _, _, rfl⟩⟩
  · obtain ⟨rfl, y7, y8, y9, y10, rfl⟩ := hI
    exact ⟨trivial, k⟩
def spBare (P c : Addr) : DSp := fun ds M Q _ => ∃ (ps : List Row_) (rs : List Rd_) (ss : List Str) (s : Str) (h : Int) (ns : List Int), ds = [gndD c ps (.xtp (rs.map rdD)) ss, grT ps rs ss, .str s, .int h, .lst (ns.map .int)] ∧ M P = some (.tab ("Ground.reach.<locals>.<lambda>" : Str)) ∧ GOk ps rs ss ∧ s ∈ ps.map (·.1) ∧ Q (.bl true) M
theorem bare_ok (P c : Addr) (ds : List D) (M : Mst) (Q : DK) (Ed : DX → Mst → Prop) (h : upSp (spBare P c) ds M Q Ed) : q__law_bare c (spGMinutes P c) spGLReach (fun x _ M => Ed x M) (retE Q) (startD N__law_bare ds) M := by
  obtain ⟨Q0, E0, ⟨ps, rs, ss, s, h, ns, rfl, hP, go, hs, k0⟩, kq, _⟩ := h
  have k : ∀ M', DL.Sub M M' → Q (.bl true) M' := fun M' S => kq _ _ _ S k0
  clear kq k0
  show q__law_bare _ _ _ _ _ [some (gndD c ps (.xtp (rs.map rdD)) ss), some (grT ps rs ss), some (.str s), some (.int h), some (.lst (ns.map .int)), none, none, none, none, none, none] M
  simp only [q__law_bare, qiAny, grT, z_ix_t0, qSeq, qAsg, qTup, qCons, qNil, qOp, qUn, qC, qCall, qVar, qLst, newL_f, qIfS, qTB, qNext, qRet, qDrop, qFor, qCB, qAug, qSl, qPart, qNoPart, gNameD, gSub_eq, dInt_i, dInt0_i, dAdd_i, dCmpI_i, List.set_cons_zero, List.set_cons_succ, List.getElem?_cons_zero, List.getElem?_cons_succ, List.append_nil, z_l0, z_l1, z_l2, z_l3, z_l4, z_l5, z_l6, z_l7, z_l8, z_l9, z_l19, z_l24, z_l25, true_and]
  refine loopL_inv (n := ps.length) (fun i p M' => DL.Sub M M' ∧ ∃ (y6 y7 y8 : Option D), p = [some (gndD c ps (.xtp (rs.map rdD)) ss), some (grT ps rs ss), some (.str s), some (.int h), some (.lst (ns.map .int)), some (.lst [.tup [.int 0, .lst []], .tup [.int h, .lst []], .tup [.int 0, .lst (ns.map .int)]]), y6, y7, y8, none, none]) (by rw [List.length_map]) (fun i dd p M' R hdd hI hR => ?_) (fun p M' hI => ?_) ⟨DL.Sub.refl _, none, none, none, rfl⟩
  · obtain ⟨hS, y6, y7, y8, rfl⟩ := hI
    rw [List.getElem?_map] at hdd
    obtain ⟨⟨g, rk⟩, hg, rfl⟩ := Option.map_eq_some_iff.mp hdd
    have hgz : g ∈ ps.map (·.1) := List.mem_map_of_mem (f := (·.1)) (List.mem_of_getElem? hg)
    refine ⟨trivial, ?_⟩
    show gTupD 2 _ (.tup [.str g, .int rk]) _ _ _ _
    simp only [gTupD, gConsD, gNilD, res_tup, List.length_cons, List.length_nil, true_and, gNameD, List.set_cons_zero, List.set_cons_succ, qMeth, qSeq, qAsg, qTup, qCons, qNil, qOp, qUn, qC, qCall, qVar, qLst, newL_f, qIfS, qTB, qNext, qRet, qDrop, qFor, qCB, qAug, qSl, qPart, qNoPart, gNameD, gSub_eq, dInt_i, dInt0_i, dAdd_i, dCmpI_i, List.set_cons_zero, List.set_cons_succ, List.getElem?_cons_zero, List.getElem?_cons_succ, List.append_nil, z_l0, z_l1, z_l2, z_l3, z_l4, z_l5, z_l6, z_l7, z_l8, z_l9, z_l19, z_l24, z_l25, true_and]
    refine ⟨⟨rfl, rfl⟩, ps, rs, .xtp (rs.map rdD), ss, s, g, 0, _, goneO [], rfl, hS _ _ hP, .inl rfl, go, hs, hgz, none_shut _, fun l1 hl1 => ?_⟩
    refine ⟨⟨rfl, rfl⟩, ps, rs, .xtp (rs.map rdD), ss, s, g, h, _, goneO [], rfl, hS _ _ hP, .inl rfl, go, hs, hgz, none_shut _, fun l2 hl2 => ?_⟩
    refine ⟨Nat.le_of_ble_eq_true rfl, fun t ht => ?_⟩
    have hMt : M t = none := by
      cases e : M t with
      | none => rfl
      | some o => rw [hS _ _ e] at ht; cases ht
    have hS1 : ∀ o, DL.Sub M (DL.put M' t o) := fun o => hS.put hMt
    simp only [qBM, qMethKwD, res_r put_same, qSeq, qAsg, qTup, qCons, qNil, qOp, qUn, qC, qCall, qVar, qLst, newL_f, qIfS, qTB, qNext, qRet, qDrop, qFor, qCB, qAug, qSl, qPart, qNoPart, gNameD, gSub_eq, dInt_i, dInt0_i, dAdd_i, dCmpI_i, List.set_cons_zero, List.set_cons_succ, List.getElem?_cons_zero, List.getElem?_cons_succ, List.append_nil, z_l0, z_l1, z_l2, z_l3, z_l4, z_l5, z_l6, z_l7, z_l8, z_l9, z_l19, z_l24, z_l25, true_and]
    refine ⟨rfl, ⟨rfl, rfl⟩, rfl, rfl, ps, rs, .xtp (rs.map rdD), ss, s, g, 0, _, goneO ns, rfl, hS1 _ _ _ hP, .inl rfl, go, hs, hgz, gone_shut ns _, fun l3 hl3 => ?_⟩
    simp only [mApp, put_same, put_put, List.length_cons, List.length_nil]
    refine ⟨Nat.lt_of_lt_of_le (by decide : (2 : Nat) < 3) (by decide), ?_⟩
    generalize hMt2 : DL.put M' t (.lst ([optN (getA l1 g), optN (getA l2 g)] ++ [optN (getA l3 g)])) = Mt
    have ht2 : Mt t = some (.lst [optN (getA l1 g), optN (getA l2 g), optN (getA l3 g)]) := by rw [← hMt2, put_same]; rfl
    have hS2 : DL.Sub M Mt := by rw [← hMt2]; exact hS1 _
    clear hMt2
    simp only [qLc, qiAny, qSeq, qAsg, qTup, qCons, qNil, qOp, qUn, qC, qCall, qVar, qLst, newL_f, qIfS, qTB, qNext, qRet, qDrop, qFor, qCB, qAug, qSl, qPart, qNoPart, gNameD, gSub_eq, dInt_i, dInt0_i, dAdd_i, dCmpI_i, List.set_cons_zero, List.set_cons_succ, List.getElem?_cons_zero, List.getElem?_cons_succ, List.append_nil, z_l0, z_l1, z_l2, z_l3, z_l4, z_l5, z_l6, z_l7, z_l8, z_l9, z_l19, z_l24, z_l25, true_and]
    intro c2 hc2
    have hMc : M c2 = none := by
      cases e : M c2 with
      | none => rfl
      | some o => rw [hS2 _ _ e] at hc2; cases hc2
    have wv : ∀ o : Option Int, (o.map D.int).getD .non = optN o := fun o => by cases o <;> rfl
    refine compL_st (fun i acc M2 => M2 = DL.put Mt c2 (.lst acc) ∧ acc = [optN (getA l1 g), optN (getA l2 g), optN (getA l3 g)].take i ∧ i ≤ 3) (fun i acc M2 hI => ?_) (Nat.le_of_ble_eq_true rfl) (fun i d acc M2 R2 hd hI ny nn => ?_) (fun acc M2 hI => ?_) ⟨rfl, rfl, Nat.zero_le _⟩
    · obtain ⟨rfl, rfl, _⟩ := hI
      exact ⟨trivial, put_same, by rw [List.length_take]; exact Nat.min_le_left _ _⟩
    · obtain ⟨rfl, rfl, _⟩ := hI
      have hS3 : ∀ o, DL.Sub M (DL.put Mt c2 o) := fun o => hS2.put hMc
      have row : ∀ (hh : Int) (xs : List Int) (o : Option Int) (j : Nat), i = j → (∀ l, Least (egs (slowH hh) (goneO xs) rs rs.length) s (getA l) → getA l g = o) → d = .tup [.int hh, .lst (xs.map .int)] → [optN (getA l1 g), optN (getA l2 g), optN (getA l3 g)][j]? = some (optN o) → j < 3 →
          gTupD 2 (gConsD (gNameD 9) (gConsD (gNameD 10) gNilD)) d DW0 (wipeD [some (gndD c ps (.xtp (rs.map rdD)) ss), some (grT ps rs ss), some (.str s), some (.int h), some (.lst (ns.map .int)), some (.lst [.tup [.int 0, .lst []], .tup [.int h, .lst []], .tup [.int 0, .lst (ns.map .int)]]), some (.str g), some (.int rk), some (.ref t), none, none] [9, 10]) (DL.put Mt c2 (.lst ([optN (getA l1 g), optN (getA l2 g), optN (getA l3 g)].take i))) fun p2 M2 => qYes DW0 p2 M2 fun b M3 => if b = true then qDGet2 (qCall spGLReach [] (qCons (qVar 1) (qCons (qVar 2) (qCons (qVar 9) (qCons (qVar 10) qNil))))) (qVar 6) (qC .non) DW0 p2 M3 fun y M4 => R2 (some y) M4 else R2 none M3 := fun hh xs o j hj hu hd ho h3 => by
        subst hj hd
        simp only [gTupD, gConsD, gNilD, res_tup, List.length_cons, List.length_nil, true_and, gNameD, wipeD, List.set_cons_zero, List.set_cons_succ, qYes, if_true, qDGet2, qSeq, qAsg, qTup, qCons, qNil, qOp, qUn, qC, qCall, qVar, qLst, newL_f, qIfS, qTB, qNext, qRet, qDrop, qFor, qCB, qAug, qSl, qPart, qNoPart, gNameD, gSub_eq, dInt_i, dInt0_i, dAdd_i, dCmpI_i, List.set_cons_zero, List.set_cons_succ, List.getElem?_cons_zero, List.getElem?_cons_succ, List.append_nil, z_l0, z_l1, z_l2, z_l3, z_l4, z_l5, z_l6, z_l7, z_l8, z_l9, z_l19, z_l24, z_l25, true_and]
        refine ⟨ps, rs, ss, s, hh, _, goneO xs, rfl, go, hs, by simp, gone_shut xs _, fun l hl => ⟨rfl, ?_⟩⟩
        rw [get_dctS]
        dsimp only
        rw [wv, hu l hl]
        refine ny _ _ put_same ⟨by rw [put_put], by rw [List.take_add_one, ho]; rfl, h3⟩
      match i, hd with
      | 0, hd => exact row 0 [] _ 0 rfl (fun l hl => Least.uniq hl hl1 g) (Option.some.inj hd).symm rfl (by decide)
      | 1, hd => exact row h [] _ 1 rfl (fun l hl => Least.uniq hl hl2 g) (Option.some.inj hd).symm rfl (by decide)
      | 2, hd => exact row 0 ns _ 2 rfl (fun l hl => Least.uniq hl hl3 g) (Option.some.inj hd).symm rfl (by decide)
    · obtain ⟨rfl, rfl, _⟩ := hI
      simp only [Bool.false_eq_true, if_false]
      rw [del_put hc2]
      have ed : ∀ o : Option Int, isData (optN o) = true ∧ dep (optN o) ≤ 1 := fun o => by cases o <;> exact ⟨rfl, Nat.le_of_ble_eq_true rfl⟩
      have e2 : ∀ K : DK, dEq true (.ref t) (.lst ([optN (getA l1 g), optN (getA l2 g), optN (getA l3 g)].take 3)) Mt K = K (.bl false) Mt := fun K => by
        refine eq_same (d := .lst [optN (getA l1 g), optN (getA l2 g), optN (getA l3 g)]) (res_r ht2) rfl ?_ ?_
        · show ((isData _ && (isData _ && (isData _ && true))) = true)
          rw [(ed _).1, (ed _).1, (ed _).1]; rfl
        · refine Nat.le_trans (dep_lst (n := 1) fun d hd => ?_) (by decide)
          simp only [List.mem_cons, List.not_mem_nil, or_false] at hd
          rcases hd with rfl | rfl | rfl <;> exact (ed _).2
      show dEq true (.ref t) (.lst ([optN (getA l1 g), optN (getA l2 g), optN (getA l3 g)].take 3)) Mt _
      rw [e2]
      simp only [Bool.false_eq_true, if_false]
      exact hR _ _ ⟨hS2, _, _, _, rfl⟩
  · obtain ⟨hS, y6, y7, y8, rfl⟩ := hI
    exact ⟨trivial, k _ hS⟩
theorem make_gG {c : Addr} {DW : DWt} {p : Rho} {M : Mst} {Q : DK} {ps : List Row_} {rs : List Rd_} {ss : List Str} {qa : DTA} (hqa : ∀ QA : List D → Mst → Prop, QA [.xtp (ps.map plD), .xtp (rs.map rdD), .xtp (ss.map .str)] M → qa DW p M QA) (g : GOk ps rs ss) (k : Q (gndD c ps (.xtp (rs.map rdD)) ss) M) : qFrzE (qMake c (spGround c) [] qa) DW p M Q := by
  unfold qFrzE qMake
  refine hqa _ fun a ha => ⟨a, ps, rs, .xtp (rs.map rdD), ss, rfl, put_same, .inl rfl, g, rfl, ?_⟩
  rw [put_put]
  dsimp only
  rw [put_same]
  dsimp only
  rw [del_put ha]
  exact k
def lamG : Str := "Ground.reach.<locals>.<lambda>"
theorem law_ok (P c : Addr) (ds : List D) (M : Mst) (Q : DK) (Ed : DX → Mst → Prop) (h : upSp (spLawT [(P, lamG)]) ds M Q Ed) : q_law c (spGround c) spBag (spBare P c) spGone spGGround (spRight P c) spTake (fun x _ M => Ed x M) (retE Q) (startD N_law ds) M := by
  obtain ⟨Q0, E0, ⟨ns, rfl, hl, rfl, k0⟩, kq, _⟩ := h
  have k : ∀ M', Q (.bl true) M' := fun M' => kq _ _ _ (DL.Sub.refl _) (k0 M')
  clear kq k0
  have hP0 : TM [(P, lamG)] P = some (.tab lamG) := by simp [TM]
  generalize TM [(P, lamG)] = M at hP0
  show q_law _ _ _ _ _ _ _ _ _ _ [some (.scr ns), none, none, none, none, none, none, none, none] M
  simp only [q_law, qFor, qiRng1, dMax2, dMin2, len_s, qSeq, qAsg, qTup, qCons, qNil, qOp, qUn, qC, qCall, qVar, qLst, newL_f, qIfS, qTB, qNext, qRet, qDrop, qFor, qCB, qAug, qSl, qPart, qNoPart, gNameD, gSub_eq, dInt_i, dInt0_i, dAdd_i, dCmpI_i, List.set_cons_zero, List.set_cons_succ, List.getElem?_cons_zero, List.getElem?_cons_succ, List.append_nil, z_l0, z_l1, z_l2, z_l3, z_l4, z_l5, z_l6, z_l7, z_l8, z_l9, z_l19, z_l24, z_l25, true_and]
  generalize hv : (if (if (ns.length : Int) < 5 then (ns.length : Int) else 5) > 2 then if (ns.length : Int) < 5 then (ns.length : Int) else 5 else 2) = v
  have hv0 : 2 ≤ v ∧ v ≤ 5 := by rw [← hv]; split <;> split <;> omega
  refine ⟨by omega, by omega, ?_⟩
  refine loopL_inv (n := v.toNat) (fun i p M' => M' P = some (.tab lamG) ∧ ∃ x1 x2 x3 x4 x5 x6 x7 x8, p = [some (.scr ns), x1, x2, x3, x4, x5, x6, x7, x8]) (by rw [rangeD_len]) (fun i d p M' R hd hI hR => ?_) (fun p M' hI => ?_) ⟨hP0, none, none, none, none, none, none, none, none, rfl⟩
  · obtain ⟨hP, x1, x2, x3, x4, x5, x6, x7, x8, rfl⟩ := hI
    obtain ⟨hi, rfl⟩ := range_at hd
    refine ⟨trivial, ?_⟩
    simp only [gNameD, List.set_cons_zero, List.set_cons_succ, qSeq, qAsg, qTup, qCons, qNil, qOp, qUn, qC, qCall, qVar, qLst, newL_f, qIfS, qTB, qNext, qRet, qDrop, qFor, qCB, qAug, qSl, qPart, qNoPart, gNameD, gSub_eq, dInt_i, dInt0_i, dAdd_i, dCmpI_i, List.set_cons_zero, List.set_cons_succ, List.getElem?_cons_zero, List.getElem?_cons_succ, List.append_nil, z_l0, z_l1, z_l2, z_l3, z_l4, z_l5, z_l6, z_l7, z_l8, z_l9, z_l19, z_l24, z_l25, true_and]
    refine ⟨ns, i, rfl, by omega, by omega, fun b hb => ?_⟩
    have hbb : DL.put M' b .bag b = some .bag := put_same
    have hP1 : DL.put M' b .bag P = some (.tab lamG) := put_keep hP hb
    generalize DL.put M' b .bag = M1 at hbb hP1
    refine ⟨b, rfl, hbb, fun ps rs ss hg => ?_⟩
    have go := hg.g
    have hgr := go.gr
    refine make_gG (ps := ps) (rs := rs) (ss := ss) (fun QA h => ?_) go ?_
    · simp only [grT, z_ix_t0, z_ix_t1, z_ix_t2, qSeq, qAsg, qTup, qCons, qNil, qOp, qUn, qC, qCall, qVar, qLst, newL_f, qIfS, qTB, qNext, qRet, qDrop, qFor, qCB, qAug, qSl, qPart, qNoPart, gNameD, gSub_eq, dInt_i, dInt0_i, dAdd_i, dCmpI_i, List.set_cons_zero, List.set_cons_succ, List.getElem?_cons_zero, List.getElem?_cons_succ, List.append_nil, z_l0, z_l1, z_l2, z_l3, z_l4, z_l5, z_l6, z_l7, z_l8, z_l9, z_l19, z_l24, z_l25, true_and]
      exact h
    simp only [grT, z_ix_t0, z_len_xtp, List.length_map, z_intX_b, dCmpI_i, qFor, qiRng1, qSeq, qAsg, qTup, qCons, qNil, qOp, qUn, qC, qCall, qVar, qLst, newL_f, qIfS, qTB, qNext, qRet, qDrop, qFor, qCB, qAug, qSl, qPart, qNoPart, gNameD, gSub_eq, dInt_i, dInt0_i, dAdd_i, dCmpI_i, List.set_cons_zero, List.set_cons_succ, List.getElem?_cons_zero, List.getElem?_cons_succ, List.append_nil, z_l0, z_l1, z_l2, z_l3, z_l4, z_l5, z_l6, z_l7, z_l8, z_l9, z_l19, z_l24, z_l25, true_and]
    have l0 := hgr.l0
    have l1 := hgr.l1
    generalize hw : (3 : Int) - 2 * (if decide (16 < (ps.length : Int)) = true then (1 : Int) else 0) = w
    have hw0 : 1 ≤ w ∧ w ≤ 3 := by rw [← hw]; split <;> omega
    refine ⟨.inl ⟨by decide, by decide⟩, by omega, by omega, ?_⟩
    refine loopL_inv (n := w.toNat) (fun j p M2 => M2 = M1 ∧ ∃ x5 x6 x7 x8, p = [some (.scr ns), some (.int (i : Int)), some (.ref b), some (grT ps rs ss), some (gndD c ps (.xtp (rs.map rdD)) ss), x5, x6, x7, x8] ∧ (0 < j → ∃ (s : Str) (h : Int) (gs : List Int), s ∈ ps.map (·.1) ∧ x6 = some (.str s) ∧ x7 = some (.int h) ∧ x8 = some (.lst (gs.map .int)))) (by rw [rangeD_len]) (fun j d p M2 R2 hd2 hI2 hR2 => ?_) (fun p M2 hI2 => ?_) ⟨rfl, x5, x6, x7, x8, rfl, fun h => absurd h (Nat.lt_irrefl 0)⟩
    · obtain ⟨rfl, x5, x6, x7, x8, rfl, _⟩ := hI2
      obtain ⟨hj, rfl⟩ := range_at hd2
      refine ⟨trivial, ?_⟩
      simp only [gNameD, List.set_cons_zero, List.set_cons_succ, grT, z_ix_t0, z_len_xtp, List.length_map, qSeq, qAsg, qTup, qCons, qNil, qOp, qUn, qC, qCall, qVar, qLst, newL_f, qIfS, qTB, qNext, qRet, qDrop, qFor, qCB, qAug, qSl, qPart, qNoPart, gNameD, gSub_eq, dInt_i, dInt0_i, dAdd_i, dCmpI_i, List.set_cons_zero, List.set_cons_succ, List.getElem?_cons_zero, List.getElem?_cons_succ, List.append_nil, z_l0, z_l1, z_l2, z_l3, z_l4, z_l5, z_l6, z_l7, z_l8, z_l9, z_l19, z_l24, z_l25, true_and]
      refine take_call hbb (by omega) (by omega) fun r r0 r1 => ?_
      obtain ⟨q, hq, hm⟩ := atI_some (xs := ps.map pcD) r0 (by rw [List.length_map]; exact r1)
      rw [ix_x hq]
      obtain ⟨⟨s, rk⟩, hs, rfl⟩ := List.mem_map.mp hm
      have hsz : s ∈ ps.map (·.1) := List.mem_map_of_mem (f := (·.1)) hs
      simp only [pcD, z_ix_t0]
      refine ⟨Nat.le_of_ble_eq_true rfl, ?_⟩
      refine take_call hbb (by decide) (by decide) fun r2 a2 b2 => pick_t a2 b2 fun d hd => ?_
      obtain ⟨h, rfl⟩ : ∃ h : Int, d = .int h := by
        simp only [List.mem_cons, List.not_mem_nil, or_false] at hd
        rcases hd with rfl | rfl | rfl | rfl | rfl | rfl | rfl | rfl | rfl | rfl | rfl <;> exact ⟨_, rfl⟩
      refine ⟨b, ps, rs, ss, rfl, hbb, go.rn, fun gs => ?_⟩
      refine ⟨ps, rs, ss, s, h, gs, rfl, hP1, go, hsz, ?_⟩
      simp only [qNot, Bool.not_true, Bool.false_eq_true, if_false]
      exact hR2 _ _ ⟨rfl, _, _, _, _, rfl, fun _ => ⟨s, h, gs, hsz, rfl, rfl, rfl⟩⟩
    · obtain ⟨rfl, x5, x6, x7, x8, rfl, hx⟩ := hI2
      obtain ⟨s, h, gs, hsz, rfl, rfl, rfl⟩ := hx (by omega)
      refine ⟨trivial, ?_⟩
      have next : ∀ p' : Rho, (∃ x1 x2 x3 x4 x5 x6 x7 x8, p' = [some (.scr ns), x1, x2, x3, x4, x5, x6, x7, x8]) → R p' M2 := fun p' hp => hR _ _ ⟨hP1, hp⟩
      simp only [qAnd, qNot, grT, z_ix_t0, z_len_xtp, List.length_map, dCmpI_i, qSeq, qAsg, qTup, qCons, qNil, qOp, qUn, qC, qCall, qVar, qLst, newL_f, qIfS, qTB, qNext, qRet, qDrop, qFor, qCB, qAug, qSl, qPart, qNoPart, gNameD, gSub_eq, dInt_i, dInt0_i, dAdd_i, dCmpI_i, List.set_cons_zero, List.set_cons_succ, List.getElem?_cons_zero, List.getElem?_cons_succ, List.append_nil, z_l0, z_l1, z_l2, z_l3, z_l4, z_l5, z_l6, z_l7, z_l8, z_l9, z_l19, z_l24, z_l25, true_and]
      by_cases c10 : (ps.length : Int) < 10
      · rw [decide_eq_true c10]
        simp only [if_true]
        refine ⟨ps, rs, ss, s, h, gs, rfl, hP1, go, hsz, ?_⟩
        simp only [Bool.not_true, Bool.false_eq_true, if_false]
        exact next _ ⟨_, _, _, _, _, _, _, _, rfl⟩
      · rw [decide_eq_false c10]
        simp only [Bool.false_eq_true, if_false]
        exact next _ ⟨_, _, _, _, _, _, _, _, rfl⟩
  · exact ⟨trivial, k _⟩
end K03
def PySem.W.Fast.tw1426495214958824001 : Unit := ()
def PySem.W.Fast.tw12323707310438657825 : Unit := ()
def PySem.W.Fast.tw9747377124288898372 : Unit := ()
def PySem.W.Fast.tw11907360307470615117 : Unit := ()
def PySem.W.Fast.tw3170061436820216691 : Unit := ()
def PySem.W.Fast.tw941655090366808408 : Unit := ()
def PySem.W.Fast.tw4302267464829040793 : Unit := ()
def PySem.W.Fast.tw6299590031376331642 : Unit := ()
def PySem.W.Fast.tw7001025246378060221 : Unit := ()
namespace K03
open PySem L2 DL Tx20 Tx21
abbrev LEVEL : Nat := 7
section
variable {P : Program} {w : World} {K : PySem.W.Frag} {mg : Str → Option Value}
theorem ok_law (T : Tx w K mg) (base : Heap) (TB_Ground_reach : LamX.TabB base mg T.lc_Ground_reach.c T.lc_Ground_reach.P) : FnOk P w K mg base (L2.CX P w) LEVEL T.f_law.f T.f_law.fd ["_law_script"] (toSp K (spLawT ((tabs T).map fun e => (e.P, e.q)))) := by
  have G_is_whole := dv_is_whole (P := P) (base := base) (k := 0) T (p := spIsWhole) (fun _ _ _ _ ⟨_, _, _, _, e, _⟩ => by rw [e]; rfl) whole_ok
  have G_is_name := dv_is_name (P := P) (base := base) (k := 0) T (p := spIsName) (fun _ _ _ _ ⟨_, _, e, _⟩ => by rw [e]; rfl) name_ok
  have G_is_one_of := dv_is_one_of (P := P) (base := base) (k := 0) T (p := spIsOne) (fun _ _ _ _ ⟨_, _, _, _, e, _⟩ => by rw [e]; rfl) one_ok
  have G_is_tuple_of := dv_is_tuple_of (P := P) (base := base) (k := 0) T (p := spIsTuple) (fun _ _ _ _ ⟨_, _, _, e, _⟩ => by rw [e]; rfl) tuple_ok
  have G_is_place := dv_is_place (P := P) (base := base) (k := 1) T (G_is_name.mono (by decide)) (G_is_tuple_of.mono (by decide)) (G_is_whole.mono (by decide)) (p := spIsPlace) (fun _ _ _ _ ⟨_, _, e, _⟩ => by rw [e]; rfl) place_ok
  have G_places_fault := dv_places_fault (P := P) (base := base) (k := 2) T (G_is_place.mono (by decide)) (p := spPlaces) (fun _ _ _ _ ⟨_, _, e, _⟩ => by rw [e]; rfl) places_ok
  have G_is_road := dv_is_road (P := P) (base := base) (k := 1) T (G_is_one_of.mono (by decide)) (G_is_tuple_of.mono (by decide)) (G_is_whole.mono (by decide)) (p := spIsRoad) (fun _ _ _ _ ⟨_, _, _, e, _⟩ => by rw [e]; rfl) isroad_ok
  have G_roads_fault := dv_roads_fault (P := P) (base := base) (k := 2) T (G_is_road.mono (by decide)) (p := spRoadsF) (fun _ _ _ _ ⟨_, _, _, _, e, _⟩ => by rw [e]; rfl) roadsf_ok
  have G_stations_fault := dv_stations_fault (P := P) (base := base) (k := 1) T (G_is_one_of.mono (by decide)) (p := spStations) (fun _ _ _ _ ⟨_, _, _, _, e, _⟩ => by rw [e]; rfl) stations_ok
  have G_need := dv_need (P := P) (base := base) (k := 2) (by decide) T (p := spNeed0) (fun _ _ _ _ ⟨_, e, _⟩ => by rw [e]; rfl) (need0_ok _)
  have G_Ground___init__ := dv_Ground___init__ (P := P) (base := base) (k := 3) T (G_need.mono (by decide)) (G_places_fault.mono (by decide)) (G_roads_fault.mono (by decide)) (G_stations_fault.mono (by decide)) (p := spGround T.c_Ground.C) (fun _ _ _ _ ⟨_, _, _, _, _, e, _⟩ => by rw [e]; rfl) (ground_ok _)
  have G_Ground_risk := dv_Ground_risk (P := P) (base := base) (k := 2) (by decide) T (p := spGRisk T.c_Ground.C) (fun _ _ _ _ ⟨_, _, _, _, e, _⟩ => by rw [e]; rfl) (grisk_ok _ _)
  have G_Ground_steps := dv_Ground_steps (P := P) (base := base) (k := 0) T (p := spGSteps T.c_Ground.C) (fun _ _ _ _ ⟨_, _, _, _, _, _, _, e, _⟩ => by rw [e]; rfl) (gsteps_ok _)
  have G_Ground_reach := dv_Ground_reach (P := P) (base := base) (k := 1) T TB_Ground_reach (G_Ground_steps.mono (by decide)) (p := spGReach T.lc_Ground_reach.P T.c_Ground.C) (fun _ _ _ _ ⟨_, _, _, _, _, _, _, _, e, _⟩ => by rw [e]; rfl) (greach_ok _ _)
  have G_Ground_minutes := dv_Ground_minutes (P := P) (base := base) (k := 3) T (G_Ground_reach.mono (by decide)) (G_Ground_risk.mono (by decide)) (p := spGMinutes T.lc_Ground_reach.P T.c_Ground.C) (fun _ _ _ _ ⟨_, _, _, _, _, _, _, _, _, e, _⟩ => by rw [e]; rfl) (gminutes_ok _ _)
  have G__law_bag := (dv__law_bag (P := P) (base := base) (k := 0) T (p := spBagL) (fun _ _ _ _ ⟨_, _, e, _⟩ => by rw [e]; rfl) bag_ok).imp fun _ _ _ _ h => imp_bag h
  have G__law_take := (dv__law_take (P := P) (base := base) (k := 0) T (p := spTakeL) (fun _ _ _ _ ⟨_, _, _, _, e, _⟩ => by rw [e]; rfl) take_ok).imp fun _ _ _ _ h => imp_take h
  have G__law_names := dv__law_names (P := P) (base := base) (k := 1) T (G__law_take.mono (by decide)) (p := spGNames) (fun _ _ _ _ ⟨_, _, e, _⟩ => by rw [e]; rfl) gnames_ok
  have G__law_ground := dv__law_ground (P := P) (base := base) (k := 2) T (G__law_names.mono (by decide)) (G__law_take.mono (by decide)) (p := spGGround) (fun _ _ _ _ ⟨_, e, _⟩ => by rw [e]; rfl) ggr_ok
  have G__law_reach := dv__law_reach (P := P) (base := base) (k := 0) T (p := spGLReach) (fun _ _ _ _ ⟨_, _, _, _, _, _, _, e, _⟩ => by rw [e]; rfl) glreach_ok
  have G__law_gone := dv__law_gone (P := P) (base := base) (k := 1) T (G__law_take.mono (by decide)) (p := spGone) (fun _ _ _ _ ⟨_, _, _, _, e, _⟩ => by rw [e]; rfl) gone_ok
  have G__law_asked := dv__law_asked (P := P) (base := base) (k := 4) T (G_Ground_minutes.mono (by decide)) (p := spAsked T.lc_Ground_reach.P T.c_Ground.C) (fun _ _ _ _ ⟨_, _, _, _, _, _, _, _, _, e, _⟩ => by rw [e]; rfl) (asked_ok _ _)
  have G__law_right := dv__law_right (P := P) (base := base) (k := 5) T (G__law_asked.mono (by decide)) (G__law_reach.mono (by decide)) (p := spRight T.lc_Ground_reach.P T.c_Ground.C) (fun _ _ _ _ ⟨_, _, _, _, _, _, e, _⟩ => by rw [e]; rfl) (right_ok _ _)
  have G__law_bare := dv__law_bare (P := P) (base := base) (k := 4) T (G_Ground_minutes.mono (by decide)) (G__law_reach.mono (by decide)) (p := spBare T.lc_Ground_reach.P T.c_Ground.C) (fun _ _ _ _ ⟨_, _, _, _, _, _, e, _⟩ => by rw [e]; rfl) (bare_ok _ _)
  exact dv_law (P := P) (base := base) (k := 6) (ki_Ground := 4) T (by decide) G_Ground___init__ (G__law_bag.mono (by decide)) (G__law_bare.mono (by decide)) (G__law_gone.mono (by decide)) (G__law_ground.mono (by decide)) (G__law_right.mono (by decide)) (G__law_take.mono (by decide)) (p := spLawT [(T.lc_Ground_reach.P, lamG)]) (fun _ _ _ _ ⟨_, e, _⟩ => by rw [e]; rfl) (law_ok _ _)
end
end K03
open PySem PySem.W PyProof.Rows in
set_option maxRecDepth 100000 in
set_option maxHeartbeats 0 in
theorem PySem.Challenge.cw_whistleboard_k03_least_minutes_holds : PySem.Challenge.rw_whistleboard_k03_least_minutes.Holds := by
  w_on; o_law; k_head; (case hw => w_witness2)
  k_fill
  refine DL.walkM (l := PySem.Challenge.rw_whistleboard_k03_least_minutes) (k := K03.LEVEL) (by decide) rfl rfl (fun w h Y => PySem.W.km_in_of Y) (fun w h Y => PySem.W.km_tabs_of Y) ?F
  case F =>
    intro w mg fa h KX G hmg
    refine' K03.all_mk KX G hmg ?oa0 ?opg0 ?ohd0 ?opo0 ?osa0 ?on0_0 ?on1_0 ?on2_0 ?on3_0 ?omk0 ?okc0 ?a0 ?l0 ?c0 ?k0 ?a1 ?l1 ?c1 ?k1 ?a2 ?l2 ?c2 ?k2 ?a3 ?l3 ?c3 ?k3 ?a4 ?l4 ?c4 ?k4 ?a5 ?l5 ?c5 ?k5 ?a6 ?l6 ?c6 ?k6 ?a7 ?l7 ?c7 ?k7 ?a8 ?l8 ?c8 ?k8 ?a9 ?l9 ?c9 ?k9 ?a10 ?b10 ?l10 ?c10 ?k10 ?a11 ?b11 ?l11 ?c11 ?k11 ?a12 ?b12 ?l12 ?c12 ?k12 ?a13 ?b13 ?l13 ?c13 ?k13 ?lk13 ?lp13 ?ln13 ?a14 ?b14 ?l14 ?c14 ?k14 ?dl14 ?a15 ?l15 ?c15 ?k15 ?a16 ?l16 ?c16 ?k16 ?a17 ?l17 ?c17 ?k17 ?a18 ?l18 ?c18 ?k18 ?a19 ?l19 ?c19 ?k19 ?a20 ?l20 ?c20 ?k20 ?a21 ?l21 ?c21 ?k21 ?a22 ?l22 ?c22 ?k22 ?a23 ?l23 ?c23 ?k23 ?a24 ?l24 ?c24 ?k24 ?z0 ?z1 ?z2 ?z3 ?z4 ?z5 ?z6 ?z7 ?z8 ?z9 ?z10 ?z11 ?z12 ?z13 ?z14 ?z15 ?z16 ?ta0 ?tl0 ?lit0 ?lit1 ?lit2 ?lit3 ?lit4 ?lit5 ?lit6 ?xa0 ?xL0 ?xsa0 ?xi0 ?xt0 ?xl0 ?xc0 ?xkf0 ?xn0_0 ?xn1_0 ?xv0 ?xk0 ?xex0 ?xty0 ?xhd0 ?xss0 ?xga0 ?xgg0 ?xcl0 ?xge0 ?xtk0 ?xmo0 ?xa1 ?xL1 ?xsa1 ?xi1 ?xt1 ?xl1 ?xc1 ?xkf1 ?xn0_1 ?xv1 ?xk1 ?xex1 ?xty1 ?xhd1 ?xss1 ?xga1 ?xgg1 ?xcl1 ?xge1 ?xtk1 ?xmo1 (fun T base tb0 => K03.ok_law T base tb0)
    (case oa0 => k_is)
    (case opg0 => k_is)
    (case ohd0 => k_is)
    (case opo0 => k_is)
    (case osa0 => k_is)
    (case on0_0 => k_is)
    (case on1_0 => k_is)
    (case on2_0 => k_is)
    (case on3_0 => k_is)
    (case omk0 => k_is)
    (case okc0 => k_is)
    (case a0 => k_is)
    (case l0 => k_is)
    (case c0 => k_is)
    (case k0 => k_is)
    (case a1 => k_is)
    (case l1 => k_is)
    (case c1 => k_is)
    (case k1 => k_is)
    (case a2 => k_is)
    (case l2 => k_is)
    (case c2 => k_is)
    (case k2 => k_is)
    (case a3 => k_is)
    (case l3 => k_is)
    (case c3 => k_is)
    (case k3 => k_is)
    (case a4 => k_is)
    (case l4 => k_is)
    (case c4 => k_is)
    (case k4 => k_is)
    (case a5 => k_is)
    (case l5 => k_is)
    (case c5 => k_is)
    (case k5 => k_is)
    (case a6 => k_is)
    (case l6 => k_is)
    (case c6 => k_is)
    (case k6 => k_is)
    (case a7 => k_is)
    (case l7 => k_is)
    (case c7 => k_is)
    (case k7 => k_is)
    (case a8 => k_is)
    (case l8 => k_is)
    (case c8 => k_is)
    (case k8 => k_is)
    (case a9 => k_is)
    (case l9 => k_is)
    (case c9 => k_is)
    (case k9 => k_is)
    (case a10 => k_is)
    (case b10 => k_is)
    (case l10 => k_is)
    (case c10 => k_is)
    (case k10 => k_is)
    (case a11 => k_is)
    (case b11 => k_is)
    (case l11 => k_is)
    (case c11 => k_is)
    (case k11 => k_is)
    (case a12 => k_is)
    (case b12 => k_is)
    (case l12 => k_is)
    (case c12 => k_is)
    (case k12 => k_is)
    (case a13 => k_is)
    (case b13 => k_is)
    (case l13 => k_is)
    (case c13 => k_is)
    (case k13 => k_is)
    first
      | ((case lp13 => exact List.Mem.head _); (case lk13 => first | rfl | k_is))
      | ((case lp13 => exact List.Mem.tail _ (List.Mem.head _)); (case lk13 => first | rfl | k_is))
      | ((case lp13 => exact List.Mem.tail _ (List.Mem.tail _ (List.Mem.head _))); (case lk13 => first | rfl | k_is))
      | ((case lp13 => exact List.Mem.tail _ (List.Mem.tail _ (List.Mem.tail _ (List.Mem.head _)))); (case lk13 => first | rfl | k_is))
      | ((case lp13 => exact List.Mem.tail _ (List.Mem.tail _ (List.Mem.tail _ (List.Mem.tail _ (List.Mem.head _))))); (case lk13 => first | rfl | k_is))
      | ((case lp13 => exact List.Mem.tail _ (List.Mem.tail _ (List.Mem.tail _ (List.Mem.tail _ (List.Mem.tail _ (List.Mem.head _)))))); (case lk13 => first | rfl | k_is))
    (case ln13 => first | rfl | k_is | decide +kernel)
    (case a14 => k_is)
    (case b14 => k_is)
    (case l14 => k_is)
    (case c14 => k_is)
    (case k14 => k_is)
    (case dl14 => k_is)
    (case a15 => k_is)
    (case l15 => k_is)
    (case c15 => k_is)
    (case k15 => k_is)
    (case a16 => k_is)
    (case l16 => k_is)
    (case c16 => k_is)
    (case k16 => k_is)
    (case a17 => k_is)
    (case l17 => k_is)
    (case c17 => k_is)
    (case k17 => k_is)
    (case a18 => k_is)
    (case l18 => k_is)
    (case c18 => k_is)
    (case k18 => k_is)
    (case a19 => k_is)
    (case l19 => k_is)
    (case c19 => k_is)
    (case k19 => k_is)
    (case a20 => k_is)
    (case l20 => k_is)
    (case c20 => k_is)
    (case k20 => k_is)
    (case a21 => k_is)
    (case l21 => k_is)
    (case c21 => k_is)
    (case k21 => k_is)
    (case a22 => k_is)
    (case l22 => k_is)
    (case c22 => k_is)
    (case k22 => k_is)
    (case a23 => k_is)
    (case l23 => k_is)
    (case c23 => k_is)
    (case k23 => k_is)
    (case a24 => k_is)
    (case l24 => k_is)
    (case c24 => k_is)
    (case k24 => k_is)
    (case z0 => k_is)
    (case z1 => k_is)
    (case z2 => k_is)
    (case z3 => k_is)
    (case z4 => k_is)
    (case z5 => k_is)
    (case z6 => k_is)
    (case z7 => k_is)
    (case z8 => k_is)
    (case z9 => k_is)
    (case z10 => k_is)
    (case z11 => k_is)
    (case z12 => k_is)
    (case z13 => k_is)
    (case z14 => k_is)
    (case z15 => k_is)
    (case z16 => k_is)
    (case ta0 => k_is)
    (case tl0 => k_is)
    (case lit0 => k_is)
    (case lit1 => k_is)
    (case lit2 => k_is)
    (case lit3 => k_is)
    (case lit4 => k_is)
    (case lit5 => k_is)
    (case lit6 => k_is)
    (case xa0 => k_is)
    (case xL0 => k_is)
    (case xsa0 => k_is)
    (case xi0 => k_is)
    (case xt0 => k_is)
    (case xl0 => k_is)
    (case xc0 => k_is)
    (case xkf0 => k_is)
    (case xn0_0 => k_is)
    (case xn1_0 => k_is)
    (case xv0 => k_is)
    (case xk0 => k_is)
    (case xex0 => k_is)
    (case xty0 => k_is)
    (case xhd0 => k_is)
    (case xss0 => first | rfl | k_is)
    (case xga0 => k_is)
    (case xgg0 => k_is)
    (case xcl0 => k_is)
    (case xge0 => k_is)
    (case xtk0 => k_is)
    (case xmo0 => k_is)
    (case xa1 => k_is)
    (case xL1 => k_is)
    (case xsa1 => k_is)
    (case xi1 => k_is)
    (case xt1 => k_is)
    (case xl1 => k_is)
    (case xc1 => k_is)
    (case xkf1 => k_is)
    (case xn0_1 => k_is)
    (case xv1 => k_is)
    (case xk1 => k_is)
    (case xex1 => k_is)
    (case xty1 => k_is)
    (case xhd1 => k_is)
    (case xss1 => first | rfl | k_is)
    (case xga1 => k_is)
    (case xgg1 => k_is)
    (case xcl1 => k_is)
    (case xge1 => k_is)
    (case xtk1 => k_is)
    (case xmo1 => k_is)
#print axioms PySem.Challenge.cw_whistleboard_k03_least_minutes_holds
